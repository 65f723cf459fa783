import PyProof.Rows.All
import Wide.All
import OpenK.AllK
import Wide.FinOn
import HandS.ForMost
import HandS.Exc
import HandS.ExcOwn
import HandS.IsInst
import HandS.TupAny
import HandS.Evl
import HandS.Codes
import HandS.Zip
import HandS.Wide
import HandS.TupMul
import HandS.Conv
import HandS.Deep
import HandS.Style
import HandS.Defaults
import HandS.HeadHook2
import HandS.EndBits
import HandS.HeadEnd
import HandS.Head0
import HandS.Head1
import HandS.Head2
import HandS.NoneIn
import PySem.Challenge.RW_pastedcells_k43_whole_products_and_krone
set_option Elab.async false
set_option linter.all false
set_option maxRecDepth 100000
set_option maxHeartbeats 8000000
section
/-! Pd, part 1: a pure-data layer. Values as data (PyData), results, slots, environments. -/
namespace Pd
open PySem L2 Evl

abbrev D := PyData
abbrev Fg := PySem.W.Frag

/-- an exception as data: its class's name, its one field -/
structure Xc where
  cls : Str
  pay : Option (Str × D)
/-- a result -/
inductive R (α : Type) where
  | ok (a : α)
  | ex (c : Xc)
  | bad
namespace R
def bind {α β : Type} (r : R α) (f : α → R β) : R β := match r with
  | .ok a => f a
  | .ex c => .ex c
  | .bad => .bad
instance : Monad R where
  pure := R.ok
  bind := R.bind
end R
@[simp] theorem bind_ok {α β : Type} (a : α) (f : α → R β) : (R.ok a >>= f) = f a := rfl
@[simp] theorem bind_ex {α β : Type} (c : Xc) (f : α → R β) : ((R.ex c : R α) >>= f) = R.ex c := rfl
@[simp] theorem bind_bad {α β : Type} (f : α → R β) : ((R.bad : R α) >>= f) = R.bad := rfl
@[simp] theorem pure_ok {α : Type} (a : α) : (pure a : R α) = R.ok a := rfl
@[simp] theorem rbind_ok {α β : Type} (a : α) (f : α → R β) : (R.ok a).bind f = f a := rfl
@[simp] theorem rbind_ex {α β : Type} (c : Xc) (f : α → R β) : (R.ex c : R α).bind f = R.ex c := rfl
@[simp] theorem rbind_bad {α β : Type} (f : α → R β) : (R.bad : R α).bind f = R.bad := rfl
/-- what is wanted of a result -/
def wp {α : Type} (r : R α) (Q : α → Prop) (E : Xc → Prop) : Prop := match r with
  | .ok a => Q a
  | .ex c => E c
  | .bad => False
theorem wp_bind {α β : Type} {r : R α} {f : α → R β} {Q : β → Prop} {E : Xc → Prop} : wp (r >>= f) Q E ↔ wp r (fun a => wp (f a) Q E) E := by
  cases r <;> exact Iff.rfl
theorem wp_mono {α : Type} {r : R α} {Q Q' : α → Prop} {E E' : Xc → Prop} (h : wp r Q E) (hq : ∀ a, Q a → Q' a) (he : ∀ c, E c → E' c) : wp r Q' E' := by
  cases r with
  | ok a => exact hq a h
  | ex c => exact he c h
  | bad => exact h
/-- with the equation at hand -/
theorem wp_mono' {α : Type} {r : R α} {Q Q' : α → Prop} {E E' : Xc → Prop} (h : wp r Q E) (hq : ∀ a, r = .ok a → Q a → Q' a) (he : ∀ c, r = .ex c → E c → E' c) : wp r Q' E' := by
  cases r with
  | ok a => exact hq a rfl h
  | ex c => exact he c rfl h
  | bad => exact h

/-! ### data at a value -/
def okS (x : Str) : Bool := decide (x.length ≤ sizeLine) && PyData.strOk x
theorem okS.len {x : Str} (h : okS x = true) : x.length ≤ sizeLine := of_decide_eq_true (Bool.and_eq_true_iff.mp h).1
theorem okS.st {x : Str} (h : okS x = true) : PyData.strOk x = true := (Bool.and_eq_true_iff.mp h).2
theorem okS.mk {x : Str} (h : x.length ≤ sizeLine) (h2 : PyData.strOk x = true) : okS x = true := Bool.and_eq_true_iff.mpr ⟨decide_eq_true h, h2⟩
mutual
inductive At (K : Fg) (G : Hp) : V → D → Prop
  | non : At K G .non .none
  | bl (b : Bool) : At K G (.bl b) (.bool b)
  | int (i : Int) : At K G (.int i) (.int i)
  | str (x : Str) : okS x = true → At K G (.str x) (.str x)
  | lst {a : Addr} {xs : List V} {ds : List D} : G a = some (.lst xs) → AtL K G xs ds → At K G (.ref a) (.list ds)
  | tup {a : Addr} {xs : List V} {ds : List D} : SqT K G a xs → AtL K G xs ds → At K G (.ref a) (.tuple ds)
inductive AtL (K : Fg) (G : Hp) : List V → List D → Prop
  | nil : AtL K G [] []
  | cons {v : V} {vs : List V} {d : D} {ds : List D} : At K G v d → AtL K G vs ds → AtL K G (v :: vs) (d :: ds)
end
section
variable {K : Fg} {G G' H : Hp}
mutual
theorem At.mono (e : Ex G G') : ∀ (d : D) (v : V), At K G v d → At K G' v d
  | .none, _, h => by cases h; exact .non
  | .bool b, _, h => by cases h; exact .bl b
  | .int i, _, h => by cases h; exact .int i
  | .str x, _, h => by
    cases h with
    | str _ h => exact .str x h
  | .list ds, _, h => by
    cases h with
    | lst hs ha => exact .lst (e _ _ hs) (AtL.mono e ds _ ha)
  | .tuple ds, _, h => by
    cases h with
    | tup hs ha => exact .tup (ex_t e hs) (AtL.mono e ds _ ha)
  | .dict _, _, h => by cases h
theorem AtL.mono (e : Ex G G') : ∀ (ds : List D) (vs : List V), AtL K G vs ds → AtL K G' vs ds
  | [], _, h => by cases h; exact .nil
  | d :: ds, _, h => by
    cases h with
    | cons h1 h2 => exact .cons (At.mono e d _ h1) (AtL.mono e ds _ h2)
end
theorem At.up {v : V} {d : D} (h : At K G v d) (e : Ex G G') : At K G' v d := At.mono e d v h
theorem AtL.up {vs : List V} {ds : List D} (h : AtL K G vs ds) (e : Ex G G') : AtL K G' vs ds := AtL.mono e ds vs h
mutual
theorem At.dp' (e : Ex G H) : ∀ (d : D) (v : V), At K G v d → Dp K H v d
  | .none, _, h => by cases h; exact .non
  | .bool b, _, h => by cases h; exact .bl b
  | .int i, _, h => by cases h; exact .int i
  | .str x, _, h => by
    cases h with
    | str _ h => exact .str x
  | .list ds, _, h => by
    cases h with
    | lst hs ha => exact .lst (sq_of (e _ _ hs)) (AtL.dp' e ds _ ha)
  | .tuple ds, _, h => by
    cases h with
    | tup hs ha => exact .tup (ex_t e hs) (AtL.dp' e ds _ ha)
  | .dict _, _, h => by cases h
theorem AtL.dp' (e : Ex G H) : ∀ (ds : List D) (vs : List V), AtL K G vs ds → DpAll K H vs ds
  | [], _, h => by cases h; exact .nil
  | d :: ds, _, h => by
    cases h with
    | cons h1 h2 => exact .cons (At.dp' e d _ h1) (AtL.dp' e ds _ h2)
end
mutual
theorem At.lay : ∀ (d : D) (v : V), At K G v d → d.canLay0 = true
  | .none, _, h => by simp [PyData.canLay0]
  | .bool b, _, h => by simp [PyData.canLay0]
  | .int i, _, h => by simp [PyData.canLay0]
  | .str x, _, h => by
    cases h with
    | str _ h => simpa [PyData.canLay0] using okS.st h
  | .list ds, _, h => by
    cases h with
    | lst hs ha => simpa [PyData.canLay0] using AtL.lay ds _ ha
  | .tuple ds, _, h => by
    cases h with
    | tup hs ha => simpa [PyData.canLay0] using AtL.lay ds _ ha
  | .dict _, _, h => by cases h
theorem AtL.lay : ∀ (ds : List D) (vs : List V), AtL K G vs ds → PyData.canLayAll0 ds = true
  | [], _, h => by simp [PyData.canLayAll0]
  | d :: ds, _, h => by
    cases h with
    | cons h1 h2 => simp [PyData.canLayAll0, At.lay d _ h1, AtL.lay ds _ h2]
end
theorem AtL.length : ∀ {vs : List V} {ds : List D}, AtL K G vs ds → vs.length = ds.length
  | _, _, .nil => rfl
  | _, _, .cons _ h => by simp [AtL.length h]
theorem AtL.get : ∀ {vs : List V} {ds : List D} {i : Nat} {d : D}, AtL K G vs ds → ds[i]? = some d → ∃ v, vs[i]? = some v ∧ At K G v d
  | _, _, _, _, .nil, h => by simp at h
  | _, _, 0, _, .cons h1 _, h => by simp at h; subst h; exact ⟨_, rfl, h1⟩
  | _, _, i + 1, _, .cons _ h2, h => by
    obtain ⟨v, e, q⟩ := AtL.get (i := i) h2 (by simpa using h)
    exact ⟨v, by simpa using e, q⟩
theorem AtL.append : ∀ {vs ws : List V} {ds es : List D}, AtL K G vs ds → AtL K G ws es → AtL K G (vs ++ ws) (ds ++ es)
  | _, _, _, _, .nil, h => h
  | _, _, _, _, .cons h1 h2, h => .cons h1 (AtL.append h2 h)
theorem AtL.take : ∀ (n : Nat) {vs : List V} {ds : List D}, AtL K G vs ds → AtL K G (vs.take n) (ds.take n)
  | 0, _, _, _ => by simpa using AtL.nil
  | n + 1, _, _, .nil => by simpa using AtL.nil
  | n + 1, _, _, .cons h1 h2 => by simpa using AtL.cons h1 (AtL.take n h2)
theorem AtL.drop : ∀ (n : Nat) {vs : List V} {ds : List D}, AtL K G vs ds → AtL K G (vs.drop n) (ds.drop n)
  | 0, _, _, h => by simpa using h
  | n + 1, _, _, .nil => by simpa using AtL.nil
  | n + 1, _, _, .cons h1 h2 => by simpa using AtL.drop n h2
theorem AtL.set : ∀ (n : Nat) {vs : List V} {ds : List D} {v : V} {d : D}, AtL K G vs ds → At K G v d → AtL K G (vs.set n v) (ds.set n d)
  | _, _, _, _, _, .nil, _ => by simpa using AtL.nil
  | 0, _, _, _, _, .cons _ h2, h => by simpa using AtL.cons h h2
  | n + 1, _, _, _, _, .cons h1 h2, h => by simpa using AtL.cons h1 (AtL.set n h2 h)
theorem AtL.reverse {vs : List V} {ds : List D} (h : AtL K G vs ds) : AtL K G vs.reverse ds.reverse := by
  induction vs generalizing ds with
  | nil => cases h; exact .nil
  | cons v vs ih =>
    cases h with
    | cons h1 h2 => simpa using AtL.append (ih h2) (.cons h1 .nil)
theorem AtL.rep {vs : List V} {ds : List D} (h : AtL K G vs ds) : ∀ n : Nat, AtL K G (List.replicate n vs).flatten (List.replicate n ds).flatten
  | 0 => by simpa using AtL.nil
  | n + 1 => by
    simp only [List.replicate_succ, List.flatten_cons]
    exact AtL.append h (AtL.rep h n)
end

/-! ### slots -/
/-- a slot: unassigned, data, an own list that may change, the script -/
inductive Sl where
  | u
  | d (x : D)
  | m (xs : List D)
  | s (ns : List Int)
def AtS (K : Fg) (G H : Hp) (e : Option V) : Sl → Prop
  | .u => True
  | .d x => ∃ v, e = some v ∧ At K G v x
  | .m xs => ∃ p vs, e = some (.ref p) ∧ G p = none ∧ H p = some (.lst vs) ∧ AtL K G vs xs
  | .s ns => ∃ a, e = some (.ref a) ∧ SqL K G a (ns.map V.int)
/-- p is the list of a slot that may change -/
def Mt (σ : L2.St) (ρ : List Sl) (p : Addr) : Prop := ∃ (i : Nat) (xs : List D), ρ[i]? = some (Sl.m xs) ∧ σ[i]? = some (some (V.ref p))
structure AtE (K : Fg) (G H : Hp) (σ : L2.St) (ρ : List Sl) : Prop where
  ex : Ex G H
  len : ρ.length = σ.length
  sl : ∀ (i : Nat) (s : Sl) (e : Option V), ρ[i]? = some s → σ[i]? = some e → AtS K G H e s
  dj : ∀ (i j : Nat) (p : Addr) (xs ys : List D), ρ[i]? = some (.m xs) → ρ[j]? = some (.m ys) → σ[i]? = some (some (.ref p)) → σ[j]? = some (some (.ref p)) → i = j
/-- from (G, H) to (G', H'): the data part grows by new objects, all but M is kept -/
structure Stp (M : Addr → Prop) (G H G' H' : Hp) : Prop where
  ex : Ex G G'
  nw : ∀ b, H b ≠ none → G' b ≠ none → G b ≠ none
  fr : ∀ b o, H b = some o → ¬ M b → H' b = some o
  li : ∀ b, H b ≠ none → H' b ≠ none
theorem Stp.refl {M : Addr → Prop} {G H : Hp} : Stp M G H G H := ⟨Ex.refl G, fun _ _ h => h, fun _ _ h _ => h, fun _ h => h⟩
theorem Stp.trans {M M1 : Addr → Prop} {G H G1 H1 G2 H2 : Hp} (a : Stp M G H G1 H1) (b : Stp M1 G1 H1 G2 H2) (hm : ∀ b, M1 b → M b ∨ H b = none) : Stp M G H G2 H2 where
  ex := a.ex.trans b.ex
  nw := fun x h1 h2 => a.nw x h1 (b.nw x (a.li x h1) h2)
  fr := fun x o h1 h2 => b.fr x o (a.fr x o h1 h2) fun z => (hm x z).elim h2 fun q => by rw [q] at h1; cases h1
  li := fun x h => b.li x (a.li x h)
theorem Stp.weak {M M1 : Addr → Prop} {G H G1 H1 : Hp} (a : Stp M G H G1 H1) (h : ∀ b, M b → M1 b) : Stp M1 G H G1 H1 :=
  ⟨a.ex, a.nw, fun b o q n => a.fr b o q fun z => n (h b z), a.li⟩
abbrev No : Addr → Prop := fun _ => False
theorem Stp.no {M : Addr → Prop} {G H G1 H1 : Hp} (a : Stp No G H G1 H1) : Stp M G H G1 H1 := a.weak fun _ z => z.elim
/-- a new object of data -/
theorem Stp.new {M : Addr → Prop} {G H : Hp} {p : Addr} {o : HO} (e : Ex G H) (h : H p = none) : Stp M G H (upd G p o) (upd H p o) where
  ex := Ex.new (fresh_back e h)
  nw := fun b h1 h2 => by
    by_cases hb : b = p
    · subst hb; exact absurd h h1
    · rwa [upd_ne hb] at h2
  fr := fun b u h1 _ => by
    rw [upd_ne (ne_of_none h1 h)]
    exact h1
  li := fun b h1 => by
    by_cases hb : b = p
    · subst hb; exact absurd h h1
    · rwa [upd_ne hb]
/-- a new object that is no data yet -/
theorem Stp.newH {M : Addr → Prop} {G H : Hp} {p : Addr} {o : HO} (h : H p = none) : Stp M G H G (upd H p o) where
  ex := Ex.refl G
  nw := fun b h1 h2 => h2
  fr := fun b u h1 _ => by
    rw [upd_ne (ne_of_none h1 h)]
    exact h1
  li := fun b h1 => by
    by_cases hb : b = p
    · subst hb; exact absurd h h1
    · rwa [upd_ne hb]
theorem ex_upd2 {G H : Hp} {p : Addr} {o : HO} (e : Ex G H) : Ex (upd G p o) (upd H p o) := fun b u q => by
  by_cases hb : b = p
  · subst hb; rw [upd_same] at q ⊢; exact q
  · rw [upd_ne hb] at q ⊢; exact e b u q
section
variable {K : Fg} {G H G' H' : Hp} {σ : L2.St} {ρ ρ' : List Sl}
theorem AtE.mtH (a : AtE K G H σ ρ) {p : Addr} (h : Mt σ ρ p) : G p = none ∧ ∃ vs, H p = some (.lst vs) := by
  obtain ⟨i, xs, h1, h2⟩ := h
  obtain ⟨q, vs, e, g, hh, _⟩ := a.sl i _ _ h1 h2
  cases e
  exact ⟨g, vs, hh⟩
/-- only new objects -/
theorem AtE.grow (a : AtE K G H σ ρ) (st : Stp No G H G' H') (e : Ex G' H') : AtE K G' H' σ ρ where
  ex := e
  len := a.len
  sl := fun i s en h1 h2 => by
    have q := a.sl i s en h1 h2
    cases s with
    | u => exact True.intro
    | d x =>
      obtain ⟨v, e1, e2⟩ := q
      exact ⟨v, e1, e2.up st.ex⟩
    | m xs =>
      obtain ⟨p, vs, e1, e2, e3, e4⟩ := q
      refine ⟨p, vs, e1, ?_, st.fr p _ e3 id, e4.up st.ex⟩
      cases h : G' p with
      | none => rfl
      | some o => exact absurd e2 (st.nw p (by rw [e3]; exact fun z => nomatch z) (by rw [h]; exact fun z => nomatch z))
    | s ns =>
      obtain ⟨b, e1, e2⟩ := q
      exact ⟨b, e1, ex_l st.ex e2⟩
  dj := a.dj
/-- behind an expression -/
structure Af (K : Fg) (σ : L2.St) (G H : Hp) (ρ : List Sl) (G' H' : Hp) (ρ' : List Sl) : Prop where
  st : Stp (Mt σ ρ) G H G' H'
  en : AtE K G' H' σ ρ'
  sh : ∀ i : Nat, (∃ xs, ρ'[i]? = some (Sl.m xs)) ↔ (∃ xs, ρ[i]? = some (Sl.m xs))
theorem Af.mt {K : Fg} {σ : L2.St} {G H G' H' : Hp} {ρ ρ' : List Sl} (a : Af K σ G H ρ G' H' ρ') (p : Addr) : Mt σ ρ' p ↔ Mt σ ρ p :=
  ⟨fun ⟨i, xs, h1, h2⟩ => let ⟨ys, h3⟩ := (a.sh i).mp ⟨xs, h1⟩; ⟨i, ys, h3, h2⟩, fun ⟨i, xs, h1, h2⟩ => let ⟨ys, h3⟩ := (a.sh i).mpr ⟨xs, h1⟩; ⟨i, ys, h3, h2⟩⟩
theorem Af.refl (a : AtE K G H σ ρ) : Af K σ G H ρ G H ρ := ⟨Stp.refl, a, fun _ => Iff.rfl⟩
theorem Af.trans {G1 H1 : Hp} {ρ1 : List Sl} (a : Af K σ G H ρ G1 H1 ρ1) (b : Af K σ G1 H1 ρ1 G' H' ρ') : Af K σ G H ρ G' H' ρ' :=
  ⟨a.st.trans b.st fun p q => .inl ((a.mt p).mp q), b.en, fun i => (b.sh i).trans (a.sh i)⟩
theorem Af.grow (a : AtE K G H σ ρ) (st : Stp No G H G' H') (e : Ex G' H') : Af K σ G H ρ G' H' ρ := ⟨st.no, a.grow st e, fun _ => Iff.rfl⟩
end

/-! ### exceptions -/
structure AtX (mg : Str → Option Value) (K : Fg) (G H : Hp) (c : Xc) (cls : Value) (dd : Option Addr) : Prop where
  cl : ∃ C, mg c.cls = some (.ref C) ∧ cls = .ref C
  pay : match c.pay with
    | none => dd = none
    | some (f, x) => ∃ p v, dd = some p ∧ H p = some (.xd [(f, v)]) ∧ At K G v x

/-! ### judgements -/
abbrev EF := List Sl → R (D × List Sl)
abbrev TF := List Sl → R (Bool × List Sl)
abbrev AF := List Sl → R (List D × List Sl)
/-- what is wanted behind an expression -/
def Gn {α : Type} (K : Fg) (σ : L2.St) (G H : Hp) (ρ : List Sl) (Q : α → Hp → Hp → Prop) (r : α × List Sl) : Prop := ∀ G' H', Af K σ G H ρ G' H' r.2 → Q r.1 G' H'
abbrev QE (K : Fg) (Q : VK) : D → Hp → Hp → Prop := fun d G' H' => ∀ v, At K G' v d → Q v H'
abbrev QT (Q : Bool → Hp → Prop) : Bool → Hp → Hp → Prop := fun b _ H' => Q b H'
abbrev QA (K : Fg) (Q : List V → Hp → Prop) : List D → Hp → Hp → Prop := fun ds G' H' => ∀ vs, AtL K G' vs ds → Q vs H'
def GvX (mg : Str → Option Value) (K : Fg) (σ : L2.St) (G H : Hp) (ρ : List Sl) (W : WX) (c : Xc) : Prop := ∀ cls dd G' H', Stp (Mt σ ρ) G H G' H' → AtX mg K G' H' c cls dd → W cls dd σ H'
def RdE (X : Cx) (W : WX) (t : TE) (F : EF) : Prop := ∀ (G H : Hp) (σ : L2.St) (ρ : List Sl) (Q : VK), AtE X.K G H σ ρ → wp (F ρ) (Gn X.K σ G H ρ (QE X.K Q)) (GvX X.mg X.K σ G H ρ W) → t σ H Q
def RdT (X : Cx) (W : WX) (t : TT) (F : TF) : Prop := ∀ (G H : Hp) (σ : L2.St) (ρ : List Sl) (Q : Bool → Hp → Prop), AtE X.K G H σ ρ → wp (F ρ) (Gn X.K σ G H ρ (QT Q)) (GvX X.mg X.K σ G H ρ W) → t σ H Q
def RdA (X : Cx) (W : WX) (t : TA) (F : AF) : Prop := ∀ (G H : Hp) (σ : L2.St) (ρ : List Sl) (Q : List V → Hp → Prop), AtE X.K G H σ ρ → wp (F ρ) (Gn X.K σ G H ρ (QA X.K Q)) (GvX X.mg X.K σ G H ρ W) → t σ H Q
def ED (X : Cx) (W : WX) (e : Expr) (F : EF) : Prop := ∃ t, PE X e t ∧ RdE X W t F
def TD (X : Cx) (W : WX) (e : Expr) (F : TF) : Prop := ∃ t, PT X e t ∧ RdT X W t F
def AD (X : Cx) (W : WX) (es : List Expr) (F : AF) : Prop := ∃ t, PA X es t ∧ RdA X W t F
section
variable {X : Cx} {W : WX} {σ : L2.St} {G H G1 H1 : Hp} {ρ ρ1 : List Sl} {α : Type}
theorem GvX.trans {mg : Str → Option Value} {K : Fg} {c : Xc} (h : GvX mg K σ G H ρ W c) (a : Af K σ G H ρ G1 H1 ρ1) : GvX mg K σ G1 H1 ρ1 W c :=
  fun cls dd G' H' st x => h cls dd G' H' (a.st.trans st fun p q => .inl ((a.mt p).mp q)) x
theorem Gn.trans {K : Fg} {P : α → Hp → Hp → Prop} {r : α × List Sl} (h : Gn K σ G H ρ P r) (a : Af K σ G H ρ G1 H1 ρ1) : Gn K σ G1 H1 ρ1 P r := fun G' H' b => h G' H' (a.trans b)
/-- the wish behind: a result's -/
abbrev Wh (X : Cx) (W : WX) (σ : L2.St) (G H : Hp) (ρ : List Sl) (P : α → Hp → Hp → Prop) (r : R (α × List Sl)) : Prop := wp r (Gn X.K σ G H ρ P) (GvX X.mg X.K σ G H ρ W)
theorem Wh.trans {P : α → Hp → Hp → Prop} {r : R (α × List Sl)} (h : Wh X W σ G H ρ P r) (a : Af X.K σ G H ρ G1 H1 ρ1) : Wh X W σ G1 H1 ρ1 P r := wp_mono h (fun _ q => q.trans a) fun _ q => q.trans a
theorem Wh.now {P : α → Hp → Hp → Prop} {x : α} (h : Wh X W σ G H ρ P (.ok (x, ρ1))) (a : Af X.K σ G H ρ G1 H1 ρ1) : P x G1 H1 := h G1 H1 a
theorem Wh.here {P : α → Hp → Hp → Prop} {x : α} (h : Wh X W σ G H ρ P (.ok (x, ρ))) (a : AtE X.K G H σ ρ) : P x G H := h G H (Af.refl a)
/-- an expression first -/
theorem RdE.use {t : TE} {F : EF} (ra : RdE X W t F) (a : AtE X.K G H σ ρ) {P : α → Hp → Hp → Prop} {k : D × List Sl → R (α × List Sl)} {C : VK} (h : Wh X W σ G H ρ P (F ρ >>= k))
    (c : ∀ d ρ1 v G1 H1, AtE X.K G1 H1 σ ρ1 → Af X.K σ G H ρ G1 H1 ρ1 → At X.K G1 v d → Wh X W σ G1 H1 ρ1 P (k (d, ρ1)) → C v H1) : t σ H C :=
  ra G H σ ρ C a (wp_mono (wp_bind.mp h) (fun r hr G1 H1 af v at1 => c r.1 r.2 v G1 H1 af.en af at1 (Wh.trans hr af)) fun _ q => q)
theorem RdT.use {t : TT} {F : TF} (ra : RdT X W t F) (a : AtE X.K G H σ ρ) {P : α → Hp → Hp → Prop} {k : Bool × List Sl → R (α × List Sl)} {C : Bool → Hp → Prop} (h : Wh X W σ G H ρ P (F ρ >>= k))
    (c : ∀ b ρ1 G1 H1, AtE X.K G1 H1 σ ρ1 → Af X.K σ G H ρ G1 H1 ρ1 → Wh X W σ G1 H1 ρ1 P (k (b, ρ1)) → C b H1) : t σ H C :=
  ra G H σ ρ C a (wp_mono (wp_bind.mp h) (fun r hr G1 H1 af => c r.1 r.2 G1 H1 af.en af (Wh.trans hr af)) fun _ q => q)
theorem RdA.use {t : TA} {F : AF} (ra : RdA X W t F) (a : AtE X.K G H σ ρ) {P : α → Hp → Hp → Prop} {k : List D × List Sl → R (α × List Sl)} {C : List V → Hp → Prop} (h : Wh X W σ G H ρ P (F ρ >>= k))
    (c : ∀ ds ρ1 vs G1 H1, AtE X.K G1 H1 σ ρ1 → Af X.K σ G H ρ G1 H1 ρ1 → AtL X.K G1 vs ds → Wh X W σ G1 H1 ρ1 P (k (ds, ρ1)) → C vs H1) : t σ H C :=
  ra G H σ ρ C a (wp_mono (wp_bind.mp h) (fun r hr G1 H1 af vs at1 => c r.1 r.2 vs G1 H1 af.en af at1 (Wh.trans hr af)) fun _ q => q)
end
/-! ### pure operations on data: only new objects are made -/
@[simp] def li {α : Type} (o : Option α) : R α := match o with
  | some a => .ok a
  | none => .bad
@[simp] theorem li_some {α : Type} (a : α) : li (some a) = R.ok a := rfl
@[simp] theorem li_none {α : Type} : li (none : Option α) = R.bad := rfl
def Pw (K : Fg) (G H : Hp) (r : Option D) (Q : VK) : Prop := match r with
  | some d => ∀ v G' H', Stp No G H G' H' → Ex G' H' → At K G' v d → Q v H'
  | none => False
section
variable {K : Fg} {G H : Hp} {Q : VK}
theorem Pw.val {d : D} {v : V} (h : Pw K G H (some d) Q) (e : Ex G H) (a : At K G v d) : Q v H := h v G H Stp.refl e a
theorem Pw.lst {ds : List D} {vs : List V} (h : Pw K G H (some (.list ds)) Q) (e : Ex G H) (a : AtL K G vs ds) : ∀ p, H p = none → Q (.ref p) (upd H p (.lst vs)) := fun p hp =>
  h _ (upd G p (.lst vs)) _ (Stp.new e hp) (ex_upd2 e) (.lst upd_same (a.up (Ex.new (fresh_back e hp))))
theorem Pw.tup {ds : List D} {vs : List V} (h : Pw K G H (some (.tuple ds)) Q) (e : Ex G H) (a : AtL K G vs ds) : ∀ p, H p = none → Q (.ref p) (upd H p (.tup vs)) := fun p hp =>
  h _ (upd G p (.tup vs)) _ (Stp.new e hp) (ex_upd2 e) (.tup (st_of upd_same) (a.up (Ex.new (fresh_back e hp))))
/-- from a wish of a result -/
theorem Wh.pw {X : Cx} {W : WX} {σ : L2.St} {ρ : List Sl} {r : Option D} (h : Wh X W σ G H ρ (QE X.K Q) (li r >>= fun d => R.ok (d, ρ))) (a : AtE X.K G H σ ρ) : Pw X.K G H r Q := by
  cases r with
  | some d => exact fun v G' H' st e at_ => h G' H' (Af.grow a st e) v at_
  | none => exact h
end
end Pd
end

section
/-! Pd, part 2: names, constants, operators, comparisons, tests. -/
namespace Pd
open PySem L2 Evl
section
variable {X : Cx} {W : WX}

/-! ### names, constants -/
theorem AtE.at_ {K : Fg} {G H : Hp} {σ : L2.St} {ρ : List Sl} (a : AtE K G H σ ρ) {i : Nat} {s : Sl} (h : ρ[i]? = some s) : ∃ e, σ[i]? = some e ∧ AtS K G H e s := by
  have hi : i < σ.length := by rw [← a.len]; exact (List.getElem?_eq_some_iff.mp h).1
  exact ⟨σ[i], List.getElem?_eq_getElem hi, a.sl i s _ h (List.getElem?_eq_getElem hi)⟩
@[simp] def eVar (i : Nat) : EF := fun ρ => match ρ[i]? with
  | some (.d x) => .ok (x, ρ)
  | _ => .bad
theorem ed_var (i : Nat) {x : Str} {pos : Pos} (hN : X.N[i]? = some x := by rfl) (hv : Vis X.env.scope x := by first | exact Or.inl rfl | exact Or.inr (Or.inl rfl) | exact Or.inr (Or.inr rfl)) (hd : (x == ("__debug__" : Str)) = false := by decide)
    (hcd : (x == ("__classdict__" : Str)) = false := by decide) : ED X W (.Name x pos) (eVar i) := by
  refine ⟨tVar i, pv i hN hv hd hcd, fun G H σ ρ Q a h => ?_⟩
  unfold eVar at h
  split at h
  · rename_i x e
    obtain ⟨en, e1, v, e2, e3⟩ := a.at_ e
    subst e2
    exact ⟨v, e1, Wh.here (P := QE X.K Q) h a v e3⟩
  · exact h.elim
@[simp] def eC (d : D) : EF := fun ρ => .ok (d, ρ)
theorem ed_c {e : Expr} {v : V} {d : D} (he : PE X e (tC v)) (h : ∀ G, At X.K G v d) : ED X W e (eC d) := ⟨_, he, fun G H σ ρ Q a hw => Wh.here (P := QE X.K Q) hw a v (h G)⟩
theorem ed_int {i : Int} {j : Nat} {pos : Pos} : ED X W (.Constant (.int i) j pos) (eC (.int i)) := ed_c pe_int fun _ => .int i
theorem ed_bl {b : Bool} {j : Nat} {pos : Pos} : ED X W (.Constant (.bool b) j pos) (eC (.bool b)) := ed_c pe_bl fun _ => .bl b
theorem ed_non {j : Nat} {pos : Pos} : ED X W (.Constant .none j pos) (eC .none) := ed_c pe_non fun _ => .non
theorem ed_str {x : Str} {j : Nat} {pos : Pos} (h : okS x = true := by decide +kernel) : ED X W (.Constant (.str x) j pos) (eC (.str x)) := ed_c pe_str fun _ => .str x h
/-- a constant of the module -/
structure GC (mg : Str → Option Value) (K : Fg) (x : Str) (d : D) : Prop where
  h : ∃ v u, mg x = some u ∧ RelV v u ∧ ∀ G, At K G v d
theorem ed_glob {x : Str} {d : D} {pos : Pos} (hg : Gl X x) (g : GC X.mg X.K x d) (hd : (x == ("__debug__" : Str)) = false := by decide) : ED X W (.Name x pos) (eC d) := by
  obtain ⟨v, u, h1, h2, h3⟩ := g.h
  exact ed_c (pe_glob hg h1 h2 hd) h3

/-! ### pure two-place operations -/
/-- r serves f on data -/
def Op2 (K : Fg) (r : R2) (f : D → D → Option D) : Prop := ∀ (G H : Hp) (x y : V) (a b : D) (Q : VK), Ex G H → At K G x a → At K G y b → Pw K G H (f a b) Q → r x y H Q
@[simp] def eOp (f : D → D → Option D) (fa fb : EF) : EF := fun ρ => fa ρ >>= fun a => fb a.2 >>= fun b => li (f a.1 b.1) >>= fun d => .ok (d, b.2)
theorem rd_op {r : R2} {f : D → D → Option D} {ta tb : TE} {fa fb : EF} (o : Op2 X.K r f) (ra : RdE X W ta fa) (rb : RdE X W tb fb) : RdE X W (tOp r ta tb) (eOp f fa fb) := fun G H σ ρ Q a h =>
  ra.use a (P := QE X.K Q) h fun d ρ1 v G1 H1 a1 af1 at1 h1 => rb.use a1 (P := QE X.K Q) h1 fun d2 ρ2 u G2 H2 a2 af2 at2 h2 =>
    o G2 H2 v u d d2 Q a2.ex (at1.up af2.st.ex) at2 (h2.pw a2)
theorem ed_op {op : Operator} {r : R2} {f : D → D → Option D} {a b : Expr} {fa fb : EF} {pos : Pos} (ho : OpR X (binaryOp op) r) (o : Op2 X.K r f) : ED X W a fa → ED X W b fb → ED X W (.BinOp a op b pos) (eOp f fa fb)
  | ⟨_, pa, ra⟩, ⟨_, pb, rb⟩ => ⟨_, pe_op ho pa pb, rd_op o ra rb⟩
theorem ed_cmp {op : CmpOp} {r : R2} {f : D → D → Option D} {a b : Expr} {fa fb : EF} {pos : Pos} (ho : OpR X (compareOp op) r) (o : Op2 X.K r f) (hm : behindInMarks op b = false) : ED X W a fa → ED X W b fb → ED X W (.Compare a [op] [b] pos) (eOp f fa fb)
  | ⟨_, pa, ra⟩, ⟨_, pb, rb⟩ => ⟨_, pe_cmpR ho pa pb hm, rd_op o ra rb⟩
theorem Op2.or {K : Fg} {r r' : R2} {f g : D → D → Option D} (h : Op2 K r f) (h' : Op2 K r' g) (hd : ∀ a b, f a b = none ∨ g a b = none ∨ True) : Op2 K (fun x y H Q => r x y H Q ∨ r' x y H Q) (fun a b => match f a b with | some d => some d | none => g a b) := by
  intro G H x y a b Q e ax ay h0
  cases q : f a b with
  | some d => simp only [q] at h0; exact .inl (h G H x y a b Q e ax ay (by rw [q]; exact h0))
  | none => simp only [q] at h0; exact .inr (h' G H x y a b Q e ax ay h0)

theorem strOk_append {x y : Str} (hx : PyData.strOk x = true) (hy : PyData.strOk y = true) : PyData.strOk (x ++ y) = true := by
  have e : (x ++ y).cps = x.cps ++ y.cps := rfl
  unfold PyData.strOk at hx hy ⊢
  rw [e, Array.all_append, hx, hy]
  rfl
theorem str_len_append (x y : Str) : (x ++ y).length = x.length + y.length := by
  have e : (x ++ y).cps = x.cps ++ y.cps := rfl
  show (x ++ y).cps.size = _
  rw [e, Array.size_append]
  rfl
theorem okS_append {x y : Str} (hx : okS x = true) (hy : okS y = true) (h : x.length + y.length ≤ sizeLine) : okS (x ++ y) = true :=
  okS.mk (by rw [str_len_append]; exact h) (strOk_append (okS.st hx) (okS.st hy))

/-- + -/
@[simp] def addD : D → D → Option D
  | .int i, .int j => some (.int (i + j))
  | .str x, .str y => if x.length + y.length ≤ sizeLine then some (.str (x ++ y)) else none
  | .list xs, .list ys => if xs.length + ys.length ≤ sizeLine then some (.list (xs ++ ys)) else none
  | .tuple xs, .tuple ys => if xs.length + ys.length ≤ sizeLine then some (.tuple (xs ++ ys)) else none
  | _, _ => none
abbrev rAddA (K : Fg) : R2 := fun x y H Q => rI0 (fun i j => .int (i + j)) x y H Q ∨ (∃ i j, x = .str i ∧ y = .str j ∧ i.length + j.length ≤ sizeLine ∧ Q (.str (i ++ j)) H) ∨ rCat x y H Q ∨ rCatA K x y H Q
theorem opr_add : OpR X (binaryOp .Add) (rAddA X.K) := op_add.or (op_add_str.or (op_cat.or op_catA))
theorem op2_add {K : Fg} : Op2 K (rAddA K) addD := by
  intro G H x y a b Q e ax ay h
  unfold addD at h
  split at h
  · cases ax; cases ay
    exact .inl ⟨_, _, rfl, rfl, h.val e (.int _)⟩
  · split at h
    · rename_i hl
      cases ax with
      | str _ h1 =>
        cases ay with
        | str _ h2 => exact .inr (.inl ⟨_, _, rfl, rfl, hl, h.val e (.str _ (okS_append h1 h2 hl))⟩)
    · exact h.elim
  · split at h
    · rename_i hl
      cases ax with
      | lst h1 h2 =>
        cases ay with
        | lst h3 h4 => exact .inr (.inr (.inl ⟨_, _, _, _, rfl, rfl, e _ _ h1, e _ _ h3, by rw [h2.length, h4.length]; exact hl, h.lst e (h2.append h4)⟩))
    · exact h.elim
  · split at h
    · rename_i hl
      cases ax with
      | tup h1 h2 =>
        cases ay with
        | tup h3 h4 =>
          refine .inr (.inr (.inr ⟨_, _, _, _, rfl, rfl, ex_t e h1, ex_t e h3, by rw [h2.length, h4.length]; exact hl, fun z => ?_, fun _ z => ?_, fun _ _ => h.tup e (h2.append h4)⟩))
          · subst z
            cases h2
            exact h.val e (.tup h3 h4)
          · subst z
            cases h4
            rw [List.append_nil] at h
            exact h.val e (.tup h1 h2)
    · exact h.elim
  · exact h.elim
theorem ed_add {a b : Expr} {fa fb : EF} {pos : Pos} (ha : ED X W a fa) (hb : ED X W b fb) : ED X W (.BinOp a .Add b pos) (eOp addD fa fb) := ed_op opr_add op2_add ha hb

/-- ints to an int -/
@[simp] def intD (c : Int → Int → Bool) (g : Int → Int → Int) : D → D → Option D
  | .int i, .int j => if c i j = true then some (.int (g i j)) else none
  | _, _ => none
theorem op2_int {K : Fg} {C : Int → Int → Prop} {c : Int → Int → Bool} {g : Int → Int → Int} (hc : ∀ i j, c i j = true → C i j) : Op2 K (rI C fun i j => .int (g i j)) (intD c g) := by
  intro G H x y a b Q e ax ay h
  unfold intD at h
  split at h
  · split at h
    · rename_i hl
      cases ax; cases ay
      exact ⟨_, _, rfl, rfl, hc _ _ hl, h.val e (.int _)⟩
    · exact h.elim
  · exact h.elim
@[simp] def subD : D → D → Option D
  | .int i, .int j => some (.int (i - j))
  | _, _ => none
theorem op2_sub {K : Fg} : Op2 K (rI0 fun i j => .int (i - j)) subD := by
  intro G H x y a b Q e ax ay h
  unfold subD at h
  split at h
  · cases ax; cases ay
    exact ⟨_, _, rfl, rfl, h.val e (.int _)⟩
  · exact h.elim
theorem ed_sub {a b : Expr} {fa fb : EF} {pos : Pos} (ha : ED X W a fa) (hb : ED X W b fb) : ED X W (.BinOp a .Sub b pos) (eOp subD fa fb) := ed_op op_sub op2_sub ha hb
@[simp] def divD : D → D → Option D := intD (fun _ j => decide (0 < j) && decide (j < 18446744073709551616)) fun i j => i / j
theorem ed_div {a b : Expr} {fa fb : EF} {pos : Pos} (ha : ED X W a fa) (hb : ED X W b fb) : ED X W (.BinOp a .FloorDiv b pos) (eOp divD fa fb) :=
  ed_op op_fdivW (op2_int fun i j h => by
    obtain ⟨h1, h2⟩ := Bool.and_eq_true_iff.mp h
    have h1 := of_decide_eq_true h1
    have h2 := of_decide_eq_true h2
    exact wide_div (b := 64) h1 (by omega) (by decide) (by decide)) ha hb
@[simp] def modD : D → D → Option D := intD (fun _ j => decide (0 < j)) fun i j => i % j
theorem ed_mod {a b : Expr} {fa fb : EF} {pos : Pos} (ha : ED X W a fa) (hb : ED X W b fb) : ED X W (.BinOp a .Mod b pos) (eOp modD fa fb) :=
  ed_op op_mod (op2_int fun i j h => of_decide_eq_true h) ha hb
@[simp] def powD : D → D → Option D := intD (fun i j => decide (0 ≤ j) && decide (j ≤ 1000000) && decide (i.natAbs < 18446744073709551616)) fun i j => i ^ j.toNat
theorem ed_pow {a b : Expr} {fa fb : EF} {pos : Pos} (ha : ED X W a fa) (hb : ED X W b fb) : ED X W (.BinOp a .Pow b pos) (eOp powD fa fb) :=
  ed_op op_pow (op2_int fun i j h => by
    obtain ⟨h1, h3⟩ := Bool.and_eq_true_iff.mp h
    obtain ⟨h1, h2⟩ := Bool.and_eq_true_iff.mp h1
    exact ⟨of_decide_eq_true h1, of_decide_eq_true h2, of_decide_eq_true h3⟩) ha hb

/-! ### comparisons -/
@[simp] def eqD (a b : D) : Option D := if a.depth ≤ 64 ∧ b.depth ≤ 64 then some (.bool (PyData.eqv a b)) else none
@[simp] def neD (a b : D) : Option D := if a.depth ≤ 64 ∧ b.depth ≤ 64 then some (.bool (!PyData.eqv a b)) else none
theorem At.shaped {K : Fg} {G : Hp} {v : V} {d : D} (h : At K G v d) (hd : d.depth ≤ 64) : SeqAt.shaped d = true := by
  unfold SeqAt.shaped
  rw [At.lay d v h, decide_eq_true hd]
  rfl
theorem op2_eq {K : Fg} : Op2 K (rEqD K) eqD := by
  intro G H x y a b Q e ax ay h
  unfold eqD at h
  split at h
  · rename_i hl
    exact ⟨a, b, At.dp' e a x ax, At.dp' e b y ay, ax.shaped hl.1, ay.shaped hl.2, h.val e (.bl _)⟩
  · exact h.elim
theorem op2_ne {K : Fg} : Op2 K (rNeD K) neD := by
  intro G H x y a b Q e ax ay h
  unfold neD at h
  split at h
  · rename_i hl
    exact ⟨a, b, At.dp' e a x ax, At.dp' e b y ay, ax.shaped hl.1, ay.shaped hl.2, h.val e (.bl _)⟩
  · exact h.elim
theorem ed_eq {a b : Expr} {fa fb : EF} {pos : Pos} (hu : X.A.units + 64 < cLine) (ha : ED X W a fa) (hb : ED X W b fb) : ED X W (.Compare a [.Eq] [b] pos) (eOp eqD fa fb) := ed_cmp (op_eqD hu) op2_eq (nomark _) ha hb
theorem ed_ne {a b : Expr} {fa fb : EF} {pos : Pos} (hu : X.A.units + 64 < cLine) (ha : ED X W a fa) (hb : ED X W b fb) : ED X W (.Compare a [.NotEq] [b] pos) (eOp neD fa fb) := ed_cmp (op_neD hu) op2_ne (nomark _) ha hb
/-- order of ints and texts -/
@[simp] def ordD (p : Int → Int → Bool) (q : List Nat → List Nat → Bool) : D → D → Option D
  | .int i, .int j => some (.bool (p i j))
  | .str x, .str y => some (.bool (q x.cps.toList y.cps.toList))
  | _, _ => none
theorem op2_ord {K : Fg} {p : Int → Int → Bool} {q : List Nat → List Nat → Bool} {r : R2} (h : ∀ (x y : Str) (H : Hp) (Q : VK), Q (.bl (q x.cps.toList y.cps.toList)) H → r (.str x) (.str y) H Q) :
    Op2 K (fun x y H Q => rI0 (fun i j => .bl (p i j)) x y H Q ∨ r x y H Q) (ordD p q) := by
  intro G H x y a b Q e ax ay hp
  unfold ordD at hp
  split at hp
  · cases ax; cases ay
    exact .inl ⟨_, _, rfl, rfl, hp.val e (.bl _)⟩
  · cases ax; cases ay
    exact .inr (h _ _ _ _ (hp.val e (.bl _)))
  · exact hp.elim
abbrev ltD : D → D → Option D := ordD (fun i j => decide (i < j)) fun x y => decide (x < y)
abbrev leD : D → D → Option D := ordD (fun i j => decide (i ≤ j)) fun x y => decide (x ≤ y)
abbrev gtD : D → D → Option D := ordD (fun i j => decide (j < i)) fun x y => decide (y < x)
abbrev geD : D → D → Option D := ordD (fun i j => decide (j ≤ i)) fun x y => decide (y ≤ x)
theorem ed_lt {a b : Expr} {fa fb : EF} {pos : Pos} (ha : ED X W a fa) (hb : ED X W b fb) : ED X W (.Compare a [.Lt] [b] pos) (eOp ltD fa fb) :=
  ed_cmp (op_lt.or op_lt_str) (op2_ord fun x y H Q q => ⟨x, y, rfl, rfl, q⟩) (nomark _) ha hb

/-! ### tests -/
@[simp] def tOf (f : EF) : TF := fun ρ => f ρ >>= fun r => match r.1 with
  | .bool b => .ok (b, r.2)
  | .none => .ok (false, r.2)
  | .int i => .ok (i != 0, r.2)
  | .str x => .ok ((x.length : Int) != 0, r.2)
  | .list xs => .ok (!xs.isEmpty, r.2)
  | .tuple xs => .ok (!xs.isEmpty, r.2)
  | .dict _ => .bad
theorem isEmpty_atl {K : Fg} {G : Hp} {vs : List V} {ds : List D} (h : AtL K G vs ds) : vs.isEmpty = ds.isEmpty := by cases h <;> rfl
theorem rd_tru {t : TE} {f : EF} (r : RdE X W t f) : RdT X W (fun σ H Q => t σ H fun x H' => ∃ k, TruV X.K x H' k ∧ Q k H') (tOf f) := fun G H σ ρ Q a h =>
  r.use a (P := QT Q) h fun d ρ1 v G1 H1 a1 af1 at1 h1 => by
    cases at1 with
    | non => exact ⟨false, rfl, Wh.here (P := QT Q) h1 a1⟩
    | bl b => exact ⟨b, rfl, Wh.here (P := QT Q) h1 a1⟩
    | int i => exact ⟨_, rfl, Wh.here (P := QT Q) h1 a1⟩
    | str x hx => exact ⟨_, ⟨okS.len hx, rfl⟩, Wh.here (P := QT Q) h1 a1⟩
    | lst h2 h3 => exact ⟨_, .inl ⟨_, sq_of (a1.ex _ _ h2), rfl⟩, by rw [isEmpty_atl h3]; exact Wh.here (P := QT Q) h1 a1⟩
    | tup h2 h3 => exact ⟨_, .inr (.inl ⟨_, ex_t a1.ex h2, rfl⟩), by rw [isEmpty_atl h3]; exact Wh.here (P := QT Q) h1 a1⟩
theorem rd_tB {t : TE} {f : EF} (r : RdE X W t f) : RdT X W (tTest t) (fun ρ => f ρ >>= fun r => match r.1 with | .bool b => .ok (b, r.2) | _ => .bad) := fun G H σ ρ Q a h =>
  r.use a (P := QT Q) h fun d ρ1 v G1 H1 a1 af1 at1 h1 => by
    cases at1 with
    | bl b => exact ⟨b, rfl, Wh.here (P := QT Q) h1 a1⟩
    | _ => exact h1.elim
/-- any expression but a comparison, and, or, not, as a test -/
theorem td_val {e : Expr} {f : EF} (he : ∀ whole, isTrue e X.env whole = (do let v ← whole; standAt e.pos; holding [v] (truthy v)) := by intro _; rfl) : ED X W e f → TD X W e (tOf f)
  | ⟨_, p, r⟩ => ⟨_, pt_truth p he, rd_tru r⟩
@[simp] def tBo (f : EF) : TF := fun ρ => f ρ >>= fun r => match r.1 with
  | .bool b => .ok (b, r.2)
  | _ => .bad
theorem td_cmp {op : CmpOp} {r : R2} {f : D → D → Option D} {a b : Expr} {fa fb : EF} {pos : Pos} (ho : OpR X (compareOp op) r) (o : Op2 X.K r f) (hm : behindInMarks op b = false) : ED X W a fa → ED X W b fb → TD X W (.Compare a [op] [b] pos) (tBo (eOp f fa fb))
  | ⟨_, pa, ra⟩, ⟨_, pb, rb⟩ => ⟨_, pt_cmpR ho pa pb hm, rd_tB (rd_op o ra rb)⟩
@[simp] def tAn (f g : TF) : TF := fun ρ => f ρ >>= fun r => if r.1 = true then g r.2 else .ok (false, r.2)
@[simp] def tOr' (f g : TF) : TF := fun ρ => f ρ >>= fun r => if r.1 = true then .ok (true, r.2) else g r.2
@[simp] def tNo (f : TF) : TF := fun ρ => f ρ >>= fun r => .ok (!r.1, r.2)
theorem rd_and {t u : TT} {f g : TF} (r : RdT X W t f) (s : RdT X W u g) : RdT X W (tAnd t u) (tAn f g) := fun G H σ ρ Q a h =>
  r.use a (P := QT Q) h fun b ρ1 G1 H1 a1 af1 h1 => by
    cases b with
    | true => exact s G1 H1 σ ρ1 Q a1 h1
    | false => exact Wh.here (P := QT Q) h1 a1
theorem rd_or {t u : TT} {f g : TF} (r : RdT X W t f) (s : RdT X W u g) : RdT X W (tOr t u) (tOr' f g) := fun G H σ ρ Q a h =>
  r.use a (P := QT Q) h fun b ρ1 G1 H1 a1 af1 h1 => by
    cases b with
    | false => exact s G1 H1 σ ρ1 Q a1 h1
    | true => exact Wh.here (P := QT Q) h1 a1
/-- a BoolOp as a test, whatever its whole is -/
def WD (X : Cx) (W : WX) (e : Expr) (F : TF) : Prop := ∃ t, PW X e t ∧ RdT X W t F
theorem wd_and1 {a : Expr} {f : TF} {pos : Pos} : TD X W a f → WD X W (.BoolOp .And [a] pos) f
  | ⟨_, p, r⟩ => ⟨_, pw_and1 p, r⟩
theorem wd_or1 {a : Expr} {f : TF} {pos : Pos} : TD X W a f → WD X W (.BoolOp .Or [a] pos) f
  | ⟨_, p, r⟩ => ⟨_, pw_or1 p, r⟩
theorem wd_and {a b : Expr} {rest : List Expr} {f g : TF} {pos : Pos} : TD X W a f → WD X W (.BoolOp .And (b :: rest) pos) g → WD X W (.BoolOp .And (a :: b :: rest) pos) (tAn f g)
  | ⟨_, p, r⟩, ⟨_, q, s⟩ => ⟨_, pw_and p q, rd_and r s⟩
theorem wd_or {a b : Expr} {rest : List Expr} {f g : TF} {pos : Pos} : TD X W a f → WD X W (.BoolOp .Or (b :: rest) pos) g → WD X W (.BoolOp .Or (a :: b :: rest) pos) (tOr' f g)
  | ⟨_, p, r⟩, ⟨_, q, s⟩ => ⟨_, pw_or p q, rd_or r s⟩
theorem td_bo {e : Expr} {f : TF} : WD X W e f → TD X W e f
  | ⟨_, p, r⟩ => ⟨_, p.pt, r⟩
theorem td_not {a : Expr} {f : TF} {pos : Pos} : TD X W a f → TD X W (.UnaryOp .Not a pos) (tNo f)
  | ⟨_, p, r⟩ => ⟨_, pt_not p, fun G H σ ρ Q a h => r.use a (P := QT Q) h fun b ρ1 G1 H1 a1 af1 h1 => Wh.here (P := QT Q) h1 a1⟩
/-- and, or, not as values (all but the last a bool) -/
@[simp] def eAn (f g : EF) : EF := fun ρ => f ρ >>= fun r => match r.1 with
  | .bool true => g r.2
  | .bool false => .ok (.bool false, r.2)
  | _ => .bad
@[simp] def eOr (f g : EF) : EF := fun ρ => f ρ >>= fun r => match r.1 with
  | .bool true => .ok (.bool true, r.2)
  | .bool false => g r.2
  | _ => .bad
@[simp] def eNo (f : EF) : EF := fun ρ => f ρ >>= fun r => match r.1 with
  | .bool b => .ok (.bool (!b), r.2)
  | _ => .bad
theorem ed_one {op : BoolOp} {a : Expr} {f : EF} {pos : Pos} : ED X W a f → ED X W (.BoolOp op [a] pos) f
  | ⟨_, p, r⟩ => ⟨_, pe_one p, r⟩
theorem ed_and {a b : Expr} {rest : List Expr} {f g : EF} {pos : Pos} : ED X W a f → ED X W (.BoolOp .And (b :: rest) pos) g → ED X W (.BoolOp .And (a :: b :: rest) pos) (eAn f g)
  | ⟨_, p, r⟩, ⟨_, q, s⟩ => ⟨_, pe_and p q, fun G H σ ρ Q a h => r.use a (P := QE X.K Q) h fun d ρ1 v G1 H1 a1 af1 at1 h1 => by
    cases at1 with
    | bl b =>
      refine ⟨b, rfl, ?_⟩
      cases b with
      | true => exact s G1 H1 σ ρ1 Q a1 h1
      | false => exact Wh.here (P := QE X.K Q) h1 a1 _ (.bl _)
    | _ => exact h1.elim⟩
theorem ed_or {a b : Expr} {rest : List Expr} {f g : EF} {pos : Pos} : ED X W a f → ED X W (.BoolOp .Or (b :: rest) pos) g → ED X W (.BoolOp .Or (a :: b :: rest) pos) (eOr f g)
  | ⟨_, p, r⟩, ⟨_, q, s⟩ => ⟨_, pe_or p q, fun G H σ ρ Q a h => r.use a (P := QE X.K Q) h fun d ρ1 v G1 H1 a1 af1 at1 h1 => by
    cases at1 with
    | bl b =>
      refine ⟨b, rfl, ?_⟩
      cases b with
      | false => exact s G1 H1 σ ρ1 Q a1 h1
      | true => exact Wh.here (P := QE X.K Q) h1 a1 _ (.bl _)
    | _ => exact h1.elim⟩
theorem ed_not {a : Expr} {f : EF} {pos : Pos} : ED X W a f → ED X W (.UnaryOp .Not a pos) (eNo f)
  | ⟨_, p, r⟩ => ⟨_, pe_not p, fun G H σ ρ Q a h => r.use a (P := QE X.K Q) h fun d ρ1 v G1 H1 a1 af1 at1 h1 => by
    cases at1 with
    | bl b => exact ⟨b, rfl, Wh.here (P := QE X.K Q) h1 a1 _ (.bl _)⟩
    | _ => exact h1.elim⟩
/-- a if t else b -/
@[simp] def eIf (t : TF) (f g : EF) : EF := fun ρ => t ρ >>= fun r => if r.1 = true then f r.2 else g r.2
theorem ed_if {c a b : Expr} {t : TF} {f g : EF} {pos : Pos} : TD X W c t → ED X W a f → ED X W b g → ED X W (.IfExp c a b pos) (eIf t f g)
  | ⟨_, p, r⟩, ⟨_, pa, ra⟩, ⟨_, pb, rb⟩ => ⟨_, pe_ifExp p pa pb, fun G H σ ρ Q a h => r.use a (P := QE X.K Q) h fun b ρ1 G1 H1 a1 af1 h1 => by
    cases b with
    | true => exact ra G1 H1 σ ρ1 Q a1 h1
    | false => exact rb G1 H1 σ ρ1 Q a1 h1⟩
/-- a op b op' c -/
@[simp] def eCh (f g : D → D → Option D) (fa fb fc : EF) : EF := fun ρ => fa ρ >>= fun a => fb a.2 >>= fun b => li (f a.1 b.1) >>= fun d => match d with
  | .bool true => fc b.2 >>= fun c => li (g b.1 c.1) >>= fun e => .ok (e, c.2)
  | .bool false => .ok (.bool false, b.2)
  | _ => .bad
/-- a comparison on data that makes nothing -/
def Op2B (K : Fg) (r : R2) (f : D → D → Option D) : Prop := ∀ (G H : Hp) (x y : V) (a b d : D) (Q : VK), Ex G H → At K G x a → At K G y b → f a b = some d → (∀ v, At K G v d → Q v H) → r x y H Q
theorem op2B_ord {K : Fg} {p : Int → Int → Bool} {q : List Nat → List Nat → Bool} {r : R2} (h : ∀ (x y : Str) (H : Hp) (Q : VK), Q (.bl (q x.cps.toList y.cps.toList)) H → r (.str x) (.str y) H Q) :
    Op2B K (fun x y H Q => rI0 (fun i j => .bl (p i j)) x y H Q ∨ r x y H Q) (ordD p q) := by
  intro G H x y a b d Q e ax ay hf hp
  unfold ordD at hf
  split at hf
  · cases hf; cases ax; cases ay
    exact .inl ⟨_, _, rfl, rfl, hp _ (.bl _)⟩
  · cases hf; cases ax; cases ay
    exact .inr (h _ _ _ _ (hp _ (.bl _)))
  · cases hf
theorem rd_ch {r r' : R2} {f g : D → D → Option D} {ta tb tc : TE} {fa fb fc : EF} (o : Op2B X.K r f) (o' : Op2 X.K r' g) (ra : RdE X W ta fa) (rb : RdE X W tb fb) (rc : RdE X W tc fc) : RdE X W (tChain r r' ta tb tc) (eCh f g fa fb fc) := fun G H σ ρ Q a h =>
  ra.use a (P := QE X.K Q) h fun d ρ1 v G1 H1 a1 af1 at1 h1 => rb.use a1 (P := QE X.K Q) h1 fun d2 ρ2 u G2 H2 a2 af2 at2 h2 => by
    cases q : f d d2 with
    | none => simp only [q] at h2; exact h2.elim
    | some z =>
      simp only [q, li_some, bind_ok] at h2
      refine o G2 H2 v u d d2 z _ a2.ex (at1.up af2.st.ex) at2 q fun zv az => ?_
      cases az with
      | bl b =>
        cases b with
        | true => exact ⟨true, rfl, rc.use a2 (P := QE X.K Q) h2 fun d3 ρ3 w G3 H3 a3 af3 at3 h3 => o' G3 H3 u w d2 d3 Q a3.ex (at2.up af3.st.ex) at3 (h3.pw a3)⟩
        | false => exact ⟨false, rfl, Wh.here (P := QE X.K Q) h2 a2 _ (.bl _)⟩
      | _ => exact h2.elim
theorem ed_ch {op op' : CmpOp} {r r' : R2} {f g : D → D → Option D} {a b c : Expr} {fa fb fc : EF} {pos : Pos} (ho : OpR X (compareOp op) r) (o : Op2B X.K r f) (ho' : OpR X (compareOp op') r') (o' : Op2 X.K r' g)
    (hm : lastMarks [op, op'] [b, c] = false := by with_unfolding_all rfl) : ED X W a fa → ED X W b fb → ED X W c fc → ED X W (.Compare a [op, op'] [b, c] pos) (eCh f g fa fb fc)
  | ⟨_, pa, ra⟩, ⟨_, pb, rb⟩, ⟨_, pc, rc⟩ => ⟨_, pe_chain ho ho' pa pb pc hm, rd_ch o o' ra rb rc⟩
theorem td_ch {op op' : CmpOp} {r r' : R2} {f g : D → D → Option D} {a b c : Expr} {fa fb fc : EF} {pos : Pos} (ho : OpR X (compareOp op) r) (o : Op2B X.K r f) (ho' : OpR X (compareOp op') r') (o' : Op2 X.K r' g)
    (hm : lastMarks [op, op'] [b, c] = false := by with_unfolding_all rfl) : ED X W a fa → ED X W b fb → ED X W c fc → TD X W (.Compare a [op, op'] [b, c] pos) (tBo (eCh f g fa fb fc))
  | ⟨_, pa, ra⟩, ⟨_, pb, rb⟩, ⟨_, pc, rc⟩ => ⟨_, pt_chain ho ho' pa pb pc hm, rd_tB (rd_ch o o' ra rb rc)⟩
end
end Pd
end

section
/-! Pd, part 3: products, in, is, isinstance, len and other built-ins, subscripts, slices, displays. -/
namespace Pd
open PySem L2 Evl PyProof.Rows
section
variable {X : Cx} {W : WX}

/-! ### products -/
/-- two factors of together less than a hundred million bits -/
def CMulB (i j : Int) : Prop := i.natAbs.log2 + j.natAbs.log2 < 100000000
theorem CMulB.ok {i j : Int} (h : CMulB i j) : IntMulOk i j := by
  have b : ∀ x : Int, Builtin.Int.intBits x ≤ x.natAbs.log2 + 1 := fun x => by
    unfold Builtin.Int.intBits
    split <;> omega
  have h1 := b i
  have h2 := b j
  have h3 : i.natAbs.log2 + j.natAbs.log2 < 100000000 := h
  have e : bitsLine = 134217728 := by decide
  unfold IntMulOk
  intro z
  rw [Bool.and_eq_true] at z
  have z2 := z.2
  unfold Builtin.Int.intTooBig at z2
  have z3 := of_decide_eq_true z2
  rw [e] at z3
  omega
theorem op_mulB : OpR X (binaryOp .Mult) (rI CMulB fun i j => .int (i * j)) := opI fun _ _ _ _ _ _ _ hc q => mul_int q hc.ok
/-- a text repeated -/
def repS (x : Str) (n : Nat) : Str := ⟨(List.replicate n x.cps.toList).flatten.toArray⟩
def rRepS : R2 := fun x y H Q => ∃ z k, x = .str z ∧ y = .int k ∧ MulOk z k ∧ Q (.str (Txt.mul z k)) H
theorem op_repS : OpR X (binaryOp .Mult) rRepS := by
  intro pins s σ H x y v u Q I rx ry h
  obtain ⟨z, k, rfl, rfl, hk, q⟩ := h
  obtain ⟨t, rfl⟩ := rx
  obtain ⟨t', rfl⟩ := ry
  exact SB.mul hk fun t2 k2 => ⟨.str _, H, I.tok _, ⟨_, rfl⟩, q⟩
/-- a tuple once | an empty tuple -/
theorem tuple_mul1 (l : Addr) (items : Array Value) (n : Nat) (dd : Option Addr) (sl : Array (Option Value)) (x : Int) (u : Tok) (c0 : (decide (x < -(2 ^ 63)) || decide (x ≥ 2 ^ 63)) = false) (c1 : (items.isEmpty || x == 1) = true) :
    Meets (Builtin.«tuple.__mul__» ⟨[.ref l, .int x u], []⟩) (fun _ R s => s.heap.get? l = some { cls := .type "tuple", dict := dd, data := .seq items n, slots := sl } ∧ R (.ok (.ret (Value.ref l))) s) :=
  .of_wp fun prog w A R s h => by
    obtain ⟨hp, g, d, tk, os⟩ := s
    obtain ⟨hl, h⟩ := h
    have f1 := AutoSeq1.idx_int
    wp_walk using wpAny_loadPart' hl
    repeat (first
      | (refine wpAny_ite_false (decide_eq_false (by rw [c0]; exact Bool.false_ne_true)) ?_; wp_walk using wpAny_loadPart' hl)
      | (refine wpAny_ite_true (decide_eq_true c1) ?_; wp_walk using wpAny_loadPart' hl))
    exact ⟨_, rfl, h⟩
theorem tuple_mul0 (l : Addr) (items : Array Value) (n : Nat) (dd : Option Addr) (sl : Array (Option Value)) (x : Int) (u : Tok) (c0 : (decide (x < -(2 ^ 63)) || decide (x ≥ 2 ^ 63)) = false) (c1 : (items.isEmpty || x == 1) = false) (c2 : (decide (x ≤ 0) || items.isEmpty) = true) :
    Meets (Builtin.«tuple.__mul__» ⟨[.ref l, .int x u], []⟩) (fun _ R s => s.heap.get? l = some { cls := .type "tuple", dict := dd, data := .seq items n, slots := sl } ∧
      R (.ok (.ret (Value.ref s.heap.objs.size))) { s with heap := s.heap.push { cls := Value.type "tuple", data := Data.seq #[] }, toks := s.toks }) :=
  .of_wp fun prog w A R s h => by
    obtain ⟨hp, g, d, tk, os⟩ := s
    obtain ⟨hl, h⟩ := h
    have f1 := AutoSeq1.idx_int
    wp_walk using wpAny_loadPart' hl
    repeat (first
      | (refine wpAny_ite_false (decide_eq_false (by rw [c0]; exact Bool.false_ne_true)) ?_; wp_walk using wpAny_loadPart' hl)
      | (refine wpAny_ite_false (decide_eq_false (by rw [c1]; exact Bool.false_ne_true)) ?_; wp_walk using wpAny_loadPart' hl)
      | (refine wpAny_ite_true (decide_eq_true c2) ?_; wp_walk using wpAny_loadPart' hl))
    exact ⟨_, rfl, h⟩
def rRepTA (K : Fg) : R2 := fun x y H Q => ∃ l k xs, x = .ref l ∧ y = .int k ∧ SqT K H l xs ∧ -1000 ≤ k ∧ k ≤ 1000 ∧ xs.length ≤ 1000 ∧ ((xs = [] ∨ k = 1) → Q (.ref l) H) ∧
  (xs ≠ [] → k ≤ 0 → ∀ p, H p = none → Q (.ref p) (upd H p (.tup []))) ∧ (xs ≠ [] → 2 ≤ k → ∀ p, H p = none → Q (.ref p) (upd H p (.tup (List.replicate k.toNat xs).flatten)))
theorem op_repTA : OpR X (binaryOp .Mult) (rRepTA X.K) := by
  intro pins s σ H x y v u Q I rx ry h
  obtain ⟨l, k, xs, rfl, rfl, hT, h1, h2, hz, q1, q2, q3⟩ := h
  by_cases big : xs ≠ [] ∧ 2 ≤ k
  · exact op_repT pins s σ H _ _ v u Q I rx ry ⟨l, k, xs, rfl, rfl, hT, big.1, big.2, h2, hz, q3 big.1 big.2⟩
  cases rx
  obtain ⟨t, rfl⟩ := ry
  obtain ⟨its, r, ⟨⟨cls, dd, data, sl⟩, ho, hc, n, hd⟩, hs⟩ := I.tuple hT
  simp only at hc hd
  subst hc hd
  have hle : its.length = xs.length := r.length.symm
  have c0 : (decide (k < -(2 ^ 63)) || decide (k ≥ 2 ^ 63)) = false := by
    rw [decide_eq_false (by omega), decide_eq_false (by omega)] <;> rfl
  have road : ∀ {R : Value → Shared → Prop}, wpAny (model X.prog X.w) X.A (call (.builtin "tuple.__mul__") [.ref l, .int k t]) R X.xe s → wpAny (model X.prog X.w) X.A (binaryOp .Mult (.ref l) (.int k t)) R X.xe s := fun {R} hq =>
    wpAny_binaryOp_repeat_ref (T := "tuple") (U := "int") (by decide) ⟨_, ho, rfl⟩ (fun s' => typeIs_int s' k t) noFill_tuple_mul F.fills_int_mul F.slot_int_rmul repeat_tuple F.slot_int_index.lookup
      (call_meets F.slot_int_rmul (typeIs_int s k t) F.entry_int_rmul (F.args_int_rmul_2 _ _) (int_rmul_tuple k t l its.toArray n dd sl) ⟨ho, rfl, ⟨_, ho, rfl⟩, hq⟩)
  have emp : its.toArray.isEmpty = decide (xs = []) := by
    cases its with
    | nil =>
      have : xs = [] := List.eq_nil_of_length_eq_zero hle.symm
      rw [this]; rfl
    | cons a b =>
      have : xs ≠ [] := fun e => by rw [e] at hle; simp at hle
      rw [decide_eq_false this]; rfl
  by_cases e1 : xs = [] ∨ k = 1
  · have c1 : (its.toArray.isEmpty || k == 1) = true := by
      rw [emp]
      rcases e1 with e | e
      · rw [decide_eq_true e]; rfl
      · rw [e]; simp
    exact road (call_meets F.slot_tuple_mul ⟨_, ho, rfl⟩ F.entry_tuple_mul (F.args_tuple_mul_2 _ _) (tuple_mul1 l its.toArray n dd sl k t c0 c1) ⟨ho, ⟨.ref l, H, I, rfl, q1 e1⟩⟩)
  · have n1 : xs ≠ [] := fun e => e1 (.inl e)
    have n2 : k ≠ 1 := fun e => e1 (.inr e)
    have n3 : k ≤ 0 := by
      have : ¬ 2 ≤ k := fun z => big ⟨n1, z⟩
      omega
    have c1 : (its.toArray.isEmpty || k == 1) = false := by
      rw [emp, decide_eq_false n1, Bool.false_or]
      exact beq_eq_false_iff_ne.mpr n2
    have c2 : (decide (k ≤ 0) || its.toArray.isEmpty) = true := by
      rw [decide_eq_true n3]; rfl
    refine road (call_meets F.slot_tuple_mul ⟨_, ho, rfl⟩ F.entry_tuple_mul (F.args_tuple_mul_2 _ _) (tuple_mul0 l its.toArray n dd sl k t c0 c1 c2) ⟨ho, ?_⟩)
    refine ⟨.ref s.heap.objs.size, _, I.laid (t' := s.toks) (o := .tup []) (fun b ob q => Heap.get?_push_of_some _ q) (Nat.le_refl _) ?_, rfl, q2 n1 n3 _ (I.hok.fresh (Nat.le_refl _))⟩
    exact ⟨Nat.zero_le _, [], .nil, IsTup.new _ _⟩
theorem mul_repS (z : Str) (k : Int) : Txt.mul z k = repS z k.toNat := by
  unfold Txt.mul repS
  by_cases h1 : k < 1
  · rw [if_pos h1, show k.toNat = 0 by omega]
    rfl
  · rw [if_neg h1]
    by_cases h2 : (k == 1 || z.length == 0) = true
    · rw [if_pos h2]
      rcases Bool.or_eq_true_iff.mp h2 with e | e
      · have e : k = 1 := by simpa using e
        rw [e]
        simp
      · have e0 : z.cps.toList = [] := by
          have : z.cps.size = 0 := by simpa [Str.length] using e
          exact List.eq_nil_of_length_eq_zero (by simpa using this)
        rw [e0]
        have e2 : (List.replicate k.toNat ([] : List Nat)).flatten = [] := by simp
        rw [e2]
        have e3 : z.cps = #[] := Array.toList_inj.mp (by rw [e0])
        rw [show z = ⟨z.cps⟩ from rfl, e3]
    · rw [if_neg h2]
      have h := size_rep
      congr 1
      have : ∀ (m : Nat), (List.foldl (fun x1 x2 => x1 ++ x2) #[] (List.replicate m z.cps)) = (List.replicate m z.cps.toList).flatten.toArray := fun m => by
        induction m with
        | zero => rfl
        | succ m ih =>
          rw [List.replicate_succ', List.foldl_append, ih, List.replicate_succ', List.flatten_append]
          simp
      exact this _
theorem strOk_iff {x : Str} : PyData.strOk x = true ↔ ∀ c ∈ x.cps.toList, c < 0x110000 := by
  unfold PyData.strOk
  rw [Array.all_eq_true']
  simp
theorem repS_len (x : Str) (n : Nat) : (repS x n).length = n * x.length := by
  show (repS x n).cps.size = _
  unfold repS
  rw [List.size_toArray]
  induction n with
  | zero => simp
  | succ n ih =>
    rw [List.replicate_succ, List.flatten_cons, List.length_append, ih, Nat.succ_mul, Nat.add_comm]
    rfl
theorem okS_rep {x : Str} {n : Nat} (h : okS x = true) (hl : n * x.length ≤ sizeLine) : okS (repS x n) = true :=
  okS.mk (by rw [repS_len]; exact hl) (strOk_iff.mpr fun c hc => by
    have h2 := strOk_iff.mp (okS.st h)
    unfold repS at hc
    simp only [List.mem_flatten, List.mem_replicate] at hc
    obtain ⟨l, ⟨_, e⟩, hc⟩ := hc
    rw [e] at hc
    exact h2 c hc)
@[simp] def mulD : D → D → Option D
  | .int i, .int j => if i.natAbs.log2 + j.natAbs.log2 < 100000000 then some (.int (i * j)) else none
  | .str x, .int k => if k ≤ 10000000 ∧ -10000000 ≤ k ∧ k.toNat * x.length ≤ sizeLine then some (.str (repS x k.toNat)) else none
  | .list xs, .int k => if k ≤ 10000000 ∧ -10000000 ≤ k ∧ xs.length * k.toNat ≤ sizeLine then some (.list (List.replicate k.toNat xs).flatten) else none
  | .tuple xs, .int k => if k ≤ 1000 ∧ -1000 ≤ k ∧ xs.length ≤ 1000 then some (.tuple (List.replicate k.toNat xs).flatten) else none
  | _, _ => none
abbrev rMulA (K : Fg) : R2 := fun x y H Q => rI CMulB (fun i j => .int (i * j)) x y H Q ∨ rRepS x y H Q ∨ rRep x y H Q ∨ rRepTA K x y H Q
theorem op2_mul {K : Fg} : Op2 K (rMulA K) mulD := by
  intro G H x y a b Q e ax ay h
  unfold mulD at h
  split at h
  · split at h
    · rename_i hl
      cases ax; cases ay
      exact .inl ⟨_, _, rfl, rfl, hl, h.val e (.int _)⟩
    · exact h.elim
  · split at h
    · rename_i z k hl
      obtain ⟨h1, h2, h3⟩ := hl
      cases ax with
      | str _ hx =>
        cases ay
        refine .inr (.inl ⟨_, _, rfl, rfl, ⟨?_, fun n1 n2 => ?_, fun n1 n2 => ?_⟩, ?_⟩)
        · rw [decide_eq_false (by omega), decide_eq_false (by omega)] <;> rfl
        · intro z2
          have hk : (0 : Int) < k := by omega
          have h4 : ((2 : Int) ^ 63 - 1) / k * k ≤ 2 ^ 63 - 1 := Int.ediv_mul_le _ (by omega)
          have h5 : (2 ^ 63 - 1 : Int) < ((2 ^ 63 - 1) / k + 1) * k := Int.lt_ediv_add_one_mul_self _ hk
          have h6 : ((2 ^ 63 - 1 : Int) / k + 1) * k ≤ (z.length : Int) * k := Int.mul_le_mul_of_nonneg_right (by omega) (by omega)
          have h7 : (z.length : Int) * k = ((k.toNat * z.length : Nat) : Int) := by
            rw [Int.natCast_mul, Int.toNat_of_nonneg (by omega), Int.mul_comm]
          have h8 : k.toNat * z.length ≤ 16777216 := by rw [← sizeLine_eq]; exact h3
          omega
        · unfold Builtin.Str.tooLong
          exact decide_eq_false (by rw [Nat.mul_comm]; omega)
        · rw [mul_repS]
          exact h.val e (.str _ (okS_rep hx h3))
    · exact h.elim
  · split at h
    · rename_i z k hl
      obtain ⟨h1, h2, h3⟩ := hl
      cases ax with
      | lst g1 g2 =>
        cases ay
        exact .inr (.inr (.inl ⟨_, _, _, rfl, rfl, e _ _ g1, by omega, by omega, by rw [g2.length]; exact h3, h.lst e (g2.rep _)⟩))
    · exact h.elim
  · split at h
    · rename_i z k hl
      obtain ⟨h1, h2, h3⟩ := hl
      cases ax with
      | tup g1 g2 =>
        cases ay
        refine .inr (.inr (.inr ⟨_, _, _, rfl, rfl, ex_t e g1, h2, h1, by rw [g2.length]; exact h3, fun z => ?_, fun n1 n2 => ?_, fun _ _ => h.tup e (g2.rep _)⟩))
        · refine h.val e ?_
          rcases z with z | z
          · subst z
            cases g2
            have e2 : (List.replicate k.toNat ([] : List D)).flatten = [] := by simp
            rw [e2]
            exact .tup g1 .nil
          · subst z
            simpa using At.tup g1 g2
        · have e0 : k.toNat = 0 := by omega
          rw [e0] at h
          exact h.tup e .nil
    · exact h.elim
  · exact h.elim
theorem opr_mul : OpR X (binaryOp .Mult) (rMulA X.K) := op_mulB.or (op_repS.or (op_rep.or op_repTA))
theorem ed_mul {a b : Expr} {fa fb : EF} {pos : Pos} (ha : ED X W a fa) (hb : ED X W b fb) : ED X W (.BinOp a .Mult b pos) (eOp mulD fa fb) := ed_op opr_mul op2_mul ha hb
end
end Pd
end

section
/-! Pd, part 4: in, is, isinstance, built-in functions, subscripts, slices, displays. -/
namespace Pd
open PySem L2 Evl PyProof.Rows
section
variable {X : Cx} {W : WX}

/-! ### in -/
def inL (x : D) (ds : List D) : Bool := ds.any fun z => PyData.eqv z x
def inS (x z : Str) : Bool := !(Builtin.Str.occurrences z x 0 z.length 1).isEmpty
@[simp] def inD : D → D → Option D
  | x, .list ds => if x.depth ≤ 64 ∧ PyData.depthAll ds ≤ 63 then some (.bool (inL x ds)) else none
  | x, .tuple ds => if x.depth ≤ 64 ∧ PyData.depthAll ds ≤ 63 then some (.bool (inL x ds)) else none
  | .str x, .str z => some (.bool (inS x z))
  | _, _ => none
@[simp] def ninD : D → D → Option D
  | x, .list ds => if x.depth ≤ 64 ∧ PyData.depthAll ds ≤ 63 then some (.bool (!inL x ds)) else none
  | x, .tuple ds => if x.depth ≤ 64 ∧ PyData.depthAll ds ≤ 63 then some (.bool (!inL x ds)) else none
  | .str x, .str z => some (.bool (!inS x z))
  | _, _ => none
def rInT (K : Fg) : R2 := fun x y H Q => ∃ d ds, Dp K H x d ∧ Dp K H y (.tuple ds) ∧ SeqAt.shaped d = true ∧ SeqAt.shaped (.tuple ds) = true ∧ Q (.bl (ds.any fun z => PyData.eqv z d)) H
def rNInT (K : Fg) : R2 := fun x y H Q => ∃ d ds, Dp K H x d ∧ Dp K H y (.tuple ds) ∧ SeqAt.shaped d = true ∧ SeqAt.shaped (.tuple ds) = true ∧ Q (.bl (!ds.any fun z => PyData.eqv z d)) H
theorem room_in {A : Around} {ds : List D} {d : D} (sd : SeqAt.shaped d = true) (hu : A.units + 65 < cLine) : A.units + 1 + min (PyData.depthAll ds) d.depth < cLine := by
  have h1 := SeqAt.depth_of_shaped sd
  have h2 : min (PyData.depthAll ds) d.depth ≤ d.depth := Nat.min_le_right _ _
  omega
theorem op_inT (hu : X.A.units + 65 < cLine) : OpR X (compareOp .In) (rInT X.K) := by
  intro pins s σ H x y v u Q I rx ry h
  obtain ⟨d, ds, hd, he, sd, se, q⟩ := h
  obtain ⟨as, r1⟩ := Dp.reads I d x v hd rx
  obtain ⟨bs, r2⟩ := Dp.reads I (.tuple ds) y u he ry
  exact SeqAt.in_tuple_reads r2 r1 (by have := SeqAt.canLay_of_shaped se; simpa [PyData.canLay0] using this) (SeqAt.canLay_of_shaped sd) (room_in sd hu) ⟨.bl _, H, I, rfl, q⟩
theorem op_ninT (hu : X.A.units + 65 < cLine) : OpR X (compareOp .NotIn) (rNInT X.K) := by
  intro pins s σ H x y v u Q I rx ry h
  obtain ⟨d, ds, hd, he, sd, se, q⟩ := h
  obtain ⟨as, r1⟩ := Dp.reads I d x v hd rx
  obtain ⟨bs, r2⟩ := Dp.reads I (.tuple ds) y u he ry
  exact SeqAt.notIn_tuple_reads r2 r1 (by have := SeqAt.canLay_of_shaped se; simpa [PyData.canLay0] using this) (SeqAt.canLay_of_shaped sd) (room_in sd hu) ⟨.bl _, H, I, rfl, q⟩
abbrev rInS : R2 := fun x y H Q => ∃ i j, x = .str i ∧ y = .str j ∧ Q (.bl (!(Builtin.Str.occurrences j i 0 j.length 1).isEmpty)) H
abbrev rNInS : R2 := fun x y H Q => ∃ i j, x = .str i ∧ y = .str j ∧ Q (.bl (!(!(Builtin.Str.occurrences j i 0 j.length 1).isEmpty))) H
theorem op2_in {K : Fg} : Op2 K (fun x y H Q => rInD K x y H Q ∨ rInT K x y H Q ∨ rInS x y H Q) inD := by
  intro G H x y a b Q e ax ay h
  unfold inD at h
  split at h
  · split at h
    · rename_i ds hl
      exact .inl ⟨a, ds, At.dp' e a x ax, At.dp' e _ y ay, ax.shaped hl.1, ay.shaped (by simp only [PyData.depth]; omega), h.val e (.bl _)⟩
    · exact h.elim
  · split at h
    · rename_i ds hl
      exact .inr (.inl ⟨a, ds, At.dp' e a x ax, At.dp' e _ y ay, ax.shaped hl.1, ay.shaped (by simp only [PyData.depth]; omega), h.val e (.bl _)⟩)
    · exact h.elim
  · cases ax; cases ay
    exact .inr (.inr ⟨_, _, rfl, rfl, h.val e (.bl _)⟩)
  · exact h.elim
theorem op2_nin {K : Fg} : Op2 K (fun x y H Q => rNotInD K x y H Q ∨ rNInT K x y H Q ∨ rNInS x y H Q) ninD := by
  intro G H x y a b Q e ax ay h
  unfold ninD at h
  split at h
  · split at h
    · rename_i ds hl
      exact .inl ⟨a, ds, At.dp' e a x ax, At.dp' e _ y ay, ax.shaped hl.1, ay.shaped (by simp only [PyData.depth]; omega), h.val e (.bl _)⟩
    · exact h.elim
  · split at h
    · rename_i ds hl
      exact .inr (.inl ⟨a, ds, At.dp' e a x ax, At.dp' e _ y ay, ax.shaped hl.1, ay.shaped (by simp only [PyData.depth]; omega), h.val e (.bl _)⟩)
    · exact h.elim
  · cases ax; cases ay
    exact .inr (.inr ⟨_, _, rfl, rfl, h.val e (.bl _)⟩)
  · exact h.elim
theorem opr_in (hu : X.A.units + 65 < cLine) : OpR X (compareOp .In) (fun x y H Q => rInD X.K x y H Q ∨ rInT X.K x y H Q ∨ rInS x y H Q) := (op_inD hu).or ((op_inT hu).or op_in_str)
theorem opr_nin (hu : X.A.units + 65 < cLine) : OpR X (compareOp .NotIn) (fun x y H Q => rNotInD X.K x y H Q ∨ rNInT X.K x y H Q ∨ rNInS x y H Q) := (op_notInD hu).or ((op_ninT hu).or op_notin_str)

/-! ### order, is -/
theorem le_flip {x y : List Nat} : (!decide (y < x)) = decide (x ≤ y) := by
  have h : (¬ y < x) ↔ x ≤ y := List.not_lt
  by_cases q : y < x
  · rw [decide_eq_true q, decide_eq_false (fun z => h.mpr z q)]; rfl
  · rw [decide_eq_false q, decide_eq_true (h.mp q)]; rfl
@[simp] def isNonD : D → D → Option D
  | .none, .none => some (.bool true)
  | _, .none => some (.bool false)
  | _, _ => none
@[simp] def notNonD : D → D → Option D
  | .none, .none => some (.bool false)
  | _, .none => some (.bool true)
  | _, _ => none
theorem At.isNon {K : Fg} {G : Hp} {v : V} {d : D} (h : At K G v d) : decide (v = .non) = match d with | .none => true | _ => false := by cases h <;> rfl
theorem op2_isN {K : Fg} : Op2 K (fun x y H Q => y = .non ∧ Q (.bl (decide (x = .non))) H) isNonD := by
  intro G H x y a b Q e ax ay h
  unfold isNonD at h
  split at h
  · cases ax; cases ay
    exact ⟨rfl, h.val e (.bl _)⟩
  · cases ay
    refine ⟨rfl, ?_⟩
    rw [ax.isNon]
    cases ax with
    | non => rename_i q; exact (q rfl).elim
    | _ => exact h.val e (.bl _)
  · exact h.elim
theorem op2_notN {K : Fg} : Op2 K (fun x y H Q => y = .non ∧ Q (.bl (!decide (x = .non))) H) notNonD := by
  intro G H x y a b Q e ax ay h
  unfold notNonD at h
  split at h
  · cases ax; cases ay
    exact ⟨rfl, h.val e (.bl _)⟩
  · cases ay
    refine ⟨rfl, ?_⟩
    rw [ax.isNon]
    cases ax with
    | non => rename_i q; exact (q rfl).elim
    | _ => exact h.val e (.bl _)
  · exact h.elim
@[simp] def isBoolD : D → D → Option D
  | .bool a, .bool b => some (.bool (decide (a = b)))
  | _, _ => none
@[simp] def notBoolD : D → D → Option D
  | .bool a, .bool b => some (.bool (!decide (a = b)))
  | _, _ => none
theorem op2_isB {K : Fg} : Op2 K rIsB isBoolD := by
  intro G H x y a b Q e ax ay h
  unfold isBoolD at h
  split at h
  · cases ax; cases ay
    exact ⟨_, _, rfl, rfl, h.val e (.bl _)⟩
  · exact h.elim
theorem op2_notB {K : Fg} : Op2 K rNotB notBoolD := by
  intro G H x y a b Q e ax ay h
  unfold notBoolD at h
  split at h
  · cases ax; cases ay
    exact ⟨_, _, rfl, rfl, h.val e (.bl _)⟩
  · exact h.elim

/-! ### lists of expressions -/
@[simp] def aNil : AF := fun ρ => .ok ([], ρ)
@[simp] def aCons (f : EF) (g : AF) : AF := fun ρ => f ρ >>= fun a => g a.2 >>= fun b => .ok (a.1 :: b.1, b.2)
theorem ad_nil : AD X W [] aNil := ⟨_, pa_nil, fun G H σ ρ Q a h => Wh.here (P := QA X.K Q) h a [] .nil⟩
theorem ad_cons {e : Expr} {es : List Expr} {f : EF} {g : AF} (hs : starEach (e :: es) X.env = (false, eval e X.env) :: starEach es X.env := by rfl) : ED X W e f → AD X W es g → AD X W (e :: es) (aCons f g)
  | ⟨_, p, r⟩, ⟨_, q, s⟩ => ⟨_, pa_cons p q hs, fun G H σ ρ Q a h => r.use a (P := QA X.K Q) h fun d ρ1 v G1 H1 a1 af1 at1 h1 => s.use a1 (P := QA X.K Q) h1 fun ds ρ2 vs G2 H2 a2 af2 at2 h2 =>
    Wh.here (P := QA X.K Q) h2 a2 (v :: vs) (.cons (at1.up af2.st.ex) at2)⟩
/-- (a, b, ..), [a, b, ..] as data -/
@[simp] def eTup (f : AF) : EF := fun ρ => f ρ >>= fun r => if r.1.length ≤ 1000 then .ok (.tuple r.1, r.2) else .bad
@[simp] def eLst (f : AF) : EF := fun ρ => f ρ >>= fun r => if r.1.length ≤ 1000 then .ok (.list r.1, r.2) else .bad
theorem sz1000 {n : Nat} (h : n ≤ 1000) : n ≤ sizeLine := by rw [sizeLine_eq]; omega
theorem ed_tup {es : List Expr} {f : AF} {x1 pos} : AD X W es f → ED X W (.Tuple es x1 pos) (eTup f)
  | ⟨_, p, r⟩ => ⟨_, pe_tup p, fun G H σ ρ Q a h => r.use a (P := QE X.K Q) h fun ds ρ1 vs G1 H1 a1 af1 at1 h1 => by
    by_cases hl : ds.length ≤ 1000
    · simp only [hl, if_true] at h1
      refine ⟨by rw [at1.length]; exact sz1000 hl, fun p hp => ?_⟩
      exact h1 (upd G1 p (.tup vs)) _ (Af.grow a1 (Stp.new a1.ex hp) (ex_upd2 a1.ex)) _ (.tup (st_of upd_same) (at1.up (Ex.new (fresh_back a1.ex hp))))
    · simp only [hl, if_false] at h1
      exact h1.elim⟩
theorem ed_lst {es : List Expr} {f : AF} {pos} : AD X W es f → ED X W (.List es pos) (eLst f)
  | ⟨_, p, r⟩ => ⟨_, pe_lst p, fun G H σ ρ Q a h => r.use a (P := QE X.K Q) h fun ds ρ1 vs G1 H1 a1 af1 at1 h1 => by
    by_cases hl : ds.length ≤ 1000
    · simp only [hl, if_true] at h1
      refine ⟨by rw [at1.length]; exact sz1000 hl, fun p hp => ?_⟩
      exact h1 (upd G1 p (.lst vs)) _ (Af.grow a1 (Stp.new a1.ex hp) (ex_upd2 a1.ex)) _ (.lst upd_same (at1.up (Ex.new (fresh_back a1.ex hp))))
    · simp only [hl, if_false] at h1
      exact h1.elim⟩

/-! ### built-in functions -/
def OpC (K : Fg) (r : List V → Hp → VK → Prop) (f : List D → Option D) : Prop := ∀ (G H : Hp) (vs : List V) (ds : List D) (Q : VK), Ex G H → AtL K G vs ds → Pw K G H (f ds) Q → r vs H Q
@[simp] def eCall (f : List D → Option D) (g : AF) : EF := fun ρ => g ρ >>= fun r => li (f r.1) >>= fun d => .ok (d, r.2)
theorem rd_cb {r : List V → Hp → VK → Prop} {f : List D → Option D} {t : TA} {g : AF} (o : OpC X.K r f) (s : RdA X W t g) : RdE X W (tCB r t) (eCall f g) := fun G H σ ρ Q a h =>
  s.use a (P := QE X.K Q) h fun ds ρ1 vs G1 H1 a1 af1 at1 h1 => o G1 H1 vs ds Q a1.ex at1 (h1.pw a1)
theorem ed_callB {x : Str} {p pos : Pos} {e : Expr} {es : List Expr} {id : String} {r : List V → Hp → VK → Prop} {f : List D → Option D} {g : AF} (hc : CallR X (.builtin id) r) (o : OpC X.K r f) (hg : Gl X x) (hm : X.mg x = none) (hv : bootBuiltins x = some (.builtin id) := by decide +kernel)
    (hn : x ≠ "__name__" := by decide) (hdb : (x == ("__debug__" : Str)) = false := by decide) (he : starEach (e :: es) X.env = (false, eval e X.env) :: starEach es X.env := by rfl) (hpl : (backTo pos (starEach es X.env)).any (·.1) = false := by rfl) :
    AD X W (e :: es) g → ED X W (.Call (.Name x p) (e :: es) [] pos) (eCall f g)
  | ⟨_, q, s⟩ => ⟨_, pe_callB hc hg hm hv q hn hdb he hpl, rd_cb o s⟩
theorem ed_callT {x : Str} {p pos : Pos} {e : Expr} {es : List Expr} {T : String} {r : List V → Hp → VK → Prop} {f : List D → Option D} {g : AF} (hc : CallR X (.type T) r) (o : OpC X.K r f) (hg : Gl X x) (hm : X.mg x = none) (hv : bootBuiltins x = some (.type T) := by decide +kernel)
    (hn : x ≠ "__name__" := by decide) (hdb : (x == ("__debug__" : Str)) = false := by decide) (he : starEach (e :: es) X.env = (false, eval e X.env) :: starEach es X.env := by rfl) (hpl : (backTo pos (starEach es X.env)).any (·.1) = false := by rfl) :
    AD X W (e :: es) g → ED X W (.Call (.Name x p) (e :: es) [] pos) (eCall f g)
  | ⟨_, q, s⟩ => ⟨_, pe_callTy hc hg hm hv q hn hdb he hpl, rd_cb o s⟩
theorem AtL.one {K : Fg} {G : Hp} {vs : List V} {d : D} (h : AtL K G vs [d]) : ∃ v, vs = [v] ∧ At K G v d := by
  cases h with
  | cons h1 h2 => cases h2; exact ⟨_, rfl, h1⟩
theorem AtL.two {K : Fg} {G : Hp} {vs : List V} {d e : D} (h : AtL K G vs [d, e]) : ∃ v w, vs = [v, w] ∧ At K G v d ∧ At K G w e := by
  cases h with
  | cons h1 h2 =>
    cases h2 with
    | cons h3 h4 => cases h4; exact ⟨_, _, rfl, h1, h3⟩
@[simp] def lenD : List D → Option D
  | [.list xs] => some (.int xs.length)
  | [.tuple xs] => some (.int xs.length)
  | [.str x] => some (.int x.length)
  | _ => none
theorem opc_len {K : Fg} : OpC K (fun xs H Q => ∃ x n, xs = [x] ∧ LenV K x H n ∧ Q (.int n) H) lenD := by
  intro G H vs ds Q e a h
  unfold lenD at h
  split at h
  · obtain ⟨v, rfl, a'⟩ := a.one
    cases a' with
    | lst h1 h2 => exact ⟨_, _, rfl, .inl ⟨_, sq_of (e _ _ h1), rfl⟩, by rw [h2.length]; exact h.val e (.int _)⟩
  · obtain ⟨v, rfl, a'⟩ := a.one
    cases a' with
    | tup h1 h2 => exact ⟨_, _, rfl, .inr ⟨_, ex_t e h1, rfl⟩, by rw [h2.length]; exact h.val e (.int _)⟩
  · obtain ⟨v, rfl, a'⟩ := a.one
    cases a' with
    | str _ h1 => exact ⟨_, _, rfl, ⟨okS.len h1, rfl⟩, h.val e (.int _)⟩
  · exact h.elim
@[simp] def absD : List D → Option D
  | [.int i] => some (.int (if i < 0 then -i else i))
  | _ => none
theorem opc_abs {K : Fg} : OpC K (fun xs H Q => ∃ i, xs = [.int i] ∧ Q (.int (if i < 0 then -i else i)) H) absD := by
  intro G H vs ds Q e a h
  unfold absD at h
  split at h
  · obtain ⟨v, rfl, a'⟩ := a.one
    cases a'
    exact ⟨_, rfl, h.val e (.int _)⟩
  · exact h.elim
@[simp] def intOf : List D → Option D
  | [.int i] => some (.int i)
  | [.bool b] => some (.int (if b then 1 else 0))
  | _ => none
theorem opc_int {K : Fg} : OpC K (fun xs H Q => (∃ i, xs = [.int i] ∧ Q (.int i) H) ∨ ∃ k, xs = [.bl k] ∧ Q (.int (if k then 1 else 0)) H) intOf := by
  intro G H vs ds Q e a h
  unfold intOf at h
  split at h
  · obtain ⟨v, rfl, a'⟩ := a.one
    cases a'
    exact .inl ⟨_, rfl, h.val e (.int _)⟩
  · obtain ⟨v, rfl, a'⟩ := a.one
    cases a'
    exact .inr ⟨_, rfl, h.val e (.int _)⟩
  · exact h.elim
@[simp] def listOf : List D → Option D
  | [.list xs] => some (.list xs)
  | [.tuple xs] => some (.list xs)
  | _ => none
theorem opc_list {K : Fg} : OpC K (fun xs H Q => ∃ p ys, xs = [.ref p] ∧ (SqL K H p ys ∨ SqT K H p ys) ∧ ∀ l, H l = none → Q (.ref l) (upd H l (.lst ys))) listOf := by
  intro G H vs ds Q e a h
  unfold listOf at h
  split at h
  · obtain ⟨v, rfl, a'⟩ := a.one
    cases a' with
    | lst h1 h2 => exact ⟨_, _, rfl, .inl (sq_of (e _ _ h1)), h.lst e h2⟩
  · obtain ⟨v, rfl, a'⟩ := a.one
    cases a' with
    | tup h1 h2 => exact ⟨_, _, rfl, .inr (ex_t e h1), h.lst e h2⟩
  · exact h.elim
@[simp] def tupOf : List D → Option D
  | [.list xs] => some (.tuple xs)
  | [.tuple xs] => some (.tuple xs)
  | _ => none
theorem opc_tup {K : Fg} : OpC K (fun xs H Q => ∃ p ys, xs = [.ref p] ∧ ((SqL K H p ys ∧ ∀ l, H l = none → Q (.ref l) (upd H l (.tup ys))) ∨ (SqT K H p ys ∧ Q (.ref p) H))) tupOf := by
  intro G H vs ds Q e a h
  unfold tupOf at h
  split at h
  · obtain ⟨v, rfl, a'⟩ := a.one
    cases a' with
    | lst h1 h2 => exact ⟨_, _, rfl, .inl ⟨sq_of (e _ _ h1), h.tup e h2⟩⟩
  · obtain ⟨v, rfl, a'⟩ := a.one
    cases a' with
    | tup h1 h2 => exact ⟨_, _, rfl, .inr ⟨ex_t e h1, h.val e (.tup h1 h2)⟩⟩
  · exact h.elim
/-- lists of truth values, of ints, of texts -/
@[simp] def blsOf : List D → Option (List Bool)
  | [] => some []
  | .bool b :: r => (blsOf r).map (b :: ·)
  | _ => none
@[simp] def intsOf : List D → Option (List Int)
  | [] => some []
  | .int b :: r => (intsOf r).map (b :: ·)
  | _ => none
@[simp] def strsOf : List D → Option (List Str)
  | [] => some []
  | .str b :: r => (strsOf r).map (b :: ·)
  | _ => none
theorem bls_at {K : Fg} {G : Hp} : ∀ {ds : List D} {vs : List V} {bs : List Bool}, AtL K G vs ds → blsOf ds = some bs → vs = bs.map V.bl
  | [], _, _, .nil, h => by cases h; rfl
  | .bool b :: r, _, _, .cons h1 h2, h => by
    simp only [blsOf, Option.map_eq_some_iff] at h
    obtain ⟨cs, h3, rfl⟩ := h
    cases h1
    rw [bls_at h2 h3]; rfl
theorem ints_at {K : Fg} {G : Hp} : ∀ {ds : List D} {vs : List V} {bs : List Int}, AtL K G vs ds → intsOf ds = some bs → vs = bs.map V.int
  | [], _, _, .nil, h => by cases h; rfl
  | .int b :: r, _, _, .cons h1 h2, h => by
    simp only [intsOf, Option.map_eq_some_iff] at h
    obtain ⟨cs, h3, rfl⟩ := h
    cases h1
    rw [ints_at h2 h3]; rfl
theorem strs_at {K : Fg} {G : Hp} : ∀ {ds : List D} {vs : List V} {bs : List Str}, AtL K G vs ds → strsOf ds = some bs → vs = bs.map V.str ∧ ∀ x ∈ bs, okS x = true
  | [], _, _, .nil, h => by cases h; exact ⟨rfl, fun _ z => nomatch z⟩
  | .str b :: r, _, _, .cons h1 h2, h => by
    simp only [strsOf, Option.map_eq_some_iff] at h
    obtain ⟨cs, h3, rfl⟩ := h
    cases h1 with
    | str _ hx =>
      obtain ⟨e, k⟩ := strs_at h2 h3
      refine ⟨by rw [e]; rfl, fun x hm => ?_⟩
      rcases List.mem_cons.mp hm with q | q
      · rw [q]; exact hx
      · exact k x q
theorem at_ints {K : Fg} {G : Hp} : ∀ ns : List Int, AtL K G (ns.map V.int) (ns.map PyData.int)
  | [] => .nil
  | n :: ns => .cons (.int n) (at_ints ns)
theorem at_strs {K : Fg} {G : Hp} : ∀ ns : List Str, (∀ x ∈ ns, okS x = true) → AtL K G (ns.map V.str) (ns.map PyData.str)
  | [], _ => .nil
  | n :: ns, h => .cons (.str n (h n List.mem_cons_self)) (at_strs ns fun x hx => h x (List.mem_cons_of_mem _ hx))
@[simp] def allD : List D → Option D
  | [.list xs] => (blsOf xs).map fun bs => .bool (bs.all id)
  | _ => none
@[simp] def anyD : List D → Option D
  | [.list xs] => (blsOf xs).map fun bs => .bool (bs.any id)
  | _ => none
theorem opc_all {K : Fg} : OpC K (rAll K) allD := by
  intro G H vs ds Q e a h
  unfold allD at h
  split at h
  · obtain ⟨v, rfl, a'⟩ := a.one
    cases a' with
    | @lst p ws _ h1 h2 =>
      rename_i xs
      cases q : blsOf xs with
      | none => rw [q] at h; exact h.elim
      | some bs =>
        rw [q] at h
        have e2 := bls_at h2 q
        subst e2
        exact ⟨_, bs, rfl, sq_of (e _ _ h1), h.val e (.bl _)⟩
  · exact h.elim
theorem opc_any {K : Fg} : OpC K (rAny K) anyD := by
  intro G H vs ds Q e a h
  unfold anyD at h
  split at h
  · obtain ⟨v, rfl, a'⟩ := a.one
    cases a' with
    | @lst p ws _ h1 h2 =>
      rename_i xs
      cases q : blsOf xs with
      | none => rw [q] at h; exact h.elim
      | some bs =>
        rw [q] at h
        have e2 := bls_at h2 q
        subst e2
        exact ⟨_, bs, rfl, sq_of (e _ _ h1), h.val e (.bl _)⟩
  · exact h.elim
@[simp] def sumD : List D → Option D
  | [.list xs] => (intsOf xs).map fun bs => .int bs.sum
  | _ => none
theorem opc_sum {K : Fg} : OpC K (rSum K) sumD := by
  intro G H vs ds Q e a h
  unfold sumD at h
  split at h
  · obtain ⟨v, rfl, a'⟩ := a.one
    cases a' with
    | @lst p ws _ h1 h2 =>
      rename_i xs
      cases q : intsOf xs with
      | none => rw [q] at h; exact h.elim
      | some bs =>
        rw [q] at h
        have e2 := ints_at h2 q
        subst e2
        exact ⟨_, bs, rfl, sq_of (e _ _ h1), h.val e (.int _)⟩
  · exact h.elim
@[simp] def max2D : List D → Option D
  | [.int i, .int j] => some (.int (if j > i then j else i))
  | _ => none
@[simp] def min2D : List D → Option D
  | [.int i, .int j] => some (.int (if j < i then j else i))
  | _ => none
theorem opc_max2 {K : Fg} : OpC K (fun xs H Q => ∃ i j, xs = [.int i, .int j] ∧ Q (.int (if j > i then j else i)) H) max2D := by
  intro G H vs ds Q e a h
  unfold max2D at h
  split at h
  · obtain ⟨v, w, rfl, a', b'⟩ := a.two
    cases a'; cases b'
    exact ⟨_, _, rfl, h.val e (.int _)⟩
  · exact h.elim
theorem opc_min2 {K : Fg} : OpC K (fun xs H Q => ∃ i j, xs = [.int i, .int j] ∧ Q (.int (if j < i then j else i)) H) min2D := by
  intro G H vs ds Q e a h
  unfold min2D at h
  split at h
  · obtain ⟨v, w, rfl, a', b'⟩ := a.two
    cases a'; cases b'
    exact ⟨_, _, rfl, h.val e (.int _)⟩
  · exact h.elim
end
end Pd
end

section
/-! Pd, part 5: subscripts, slices, isinstance, in a range, minus. -/
namespace Pd
open PySem L2 Evl PyProof.Rows
section
variable {X : Cx} {W : WX}

/-! ### subscripts -/
theorem atI_atl {K : Fg} {G : Hp} {vs : List V} {ds : List D} {i : Int} {d : D} (h : AtL K G vs ds) (e : atI ds i = some d) : ∃ v, atI vs i = some v ∧ At K G v d := by
  unfold atI at e ⊢
  rw [h.length]
  cases q : ixN ds.length i with
  | none => rw [q] at e; cases e
  | some j =>
    rw [q] at e
    exact h.get e
@[simp] def ixD : D → D → Option D
  | .list xs, .int i => atI xs i
  | .tuple xs, .int i => atI xs i
  | .str x, .int i => (atI x.cps.toList i).map fun c => .str ⟨#[c]⟩
  | _, _ => none
theorem mem_of_atI {α : Type} {xs : List α} {i : Int} {v : α} (h : atI xs i = some v) : v ∈ xs := by
  unfold atI at h
  cases q : ixN xs.length i with
  | none => rw [q] at h; cases h
  | some j => rw [q] at h; exact List.mem_of_getElem? h
theorem okS_one {x : Str} (h : okS x = true) {c : Nat} (hc : c ∈ x.cps.toList) : okS ⟨#[c]⟩ = true :=
  okS.mk (by rw [sizeLine_eq]; exact (by decide : (1 : Nat) ≤ 16777216)) (strOk_iff.mpr fun k hk => by
    have : k = c := by simpa using hk
    rw [this]
    exact strOk_iff.mp (okS.st h) c hc)
theorem op2_ix {K : Fg} : Op2 K (rIx K) ixD := by
  intro G H x y a b Q e ax ay h
  unfold ixD at h
  split at h
  · rename_i xs i
    cases q : atI xs i with
    | none => rw [q] at h; exact h.elim
    | some d =>
      rw [q] at h
      cases ax with
      | lst h1 h2 =>
        cases ay
        obtain ⟨v, hv, av⟩ := atI_atl h2 q
        exact .inl ⟨_, _, _, v, rfl, rfl, sq_of (e _ _ h1), hv, h.val e av⟩
  · rename_i xs i
    cases q : atI xs i with
    | none => rw [q] at h; exact h.elim
    | some d =>
      rw [q] at h
      cases ax with
      | tup h1 h2 =>
        cases ay
        obtain ⟨v, hv, av⟩ := atI_atl h2 q
        exact .inr (.inl ⟨_, _, _, v, rfl, rfl, ex_t e h1, hv, h.val e av⟩)
  · rename_i x' i
    cases q : atI x'.cps.toList i with
    | none => rw [q] at h; exact h.elim
    | some c =>
      rw [q] at h
      cases ax with
      | str _ h1 =>
        cases ay
        exact .inr (.inr ⟨_, _, c, rfl, rfl, okS.len h1, q, h.val e (.str _ (okS_one h1 (mem_of_atI q)))⟩)
  · exact h.elim
theorem ed_ix {a b : Expr} {fa fb : EF} {pos : Pos} (hs : PlainIx b := by intro _ _; rfl) : ED X W a fa → ED X W b fb → ED X W (.Subscript a b pos) (eOp ixD fa fb)
  | ⟨_, pa, ra⟩, ⟨_, pb, rb⟩ => ⟨_, pe_ix ix_seq pa pb hs, rd_op op2_ix ra rb⟩

/-! ### slices -/
def cutL {α : Type} (xs : List α) (lo hi : Option Int) : List α := (xs.drop (HT.sIx xs.length 0 lo)).take (HT.sIx xs.length xs.length hi - HT.sIx xs.length 0 lo)
theorem AtL.cut {K : Fg} {G : Hp} {vs : List V} {ds : List D} (h : AtL K G vs ds) (lo hi : Option Int) : AtL K G (cutV vs lo hi) (cutL ds lo hi) := by
  unfold cutV cutL
  rw [h.length]
  exact (h.drop _).take _
@[simp] def slD (x : D) (lo hi : Option Int) : Option D := match x with
  | .list xs => some (.list (cutL xs lo hi))
  | .tuple xs => some (.tuple (cutL xs lo hi))
  | .str x => some (.str (cutS x lo hi))
  | _ => none
abbrev OF := List Sl → R (Option Int × List Sl)
@[simp] def oNo : OF := fun ρ => .ok (none, ρ)
@[simp] def oSome (f : EF) : OF := fun ρ => f ρ >>= fun r => match r.1 with
  | .int i => .ok (some i, r.2)
  | _ => .bad
def RdO (X : Cx) (W : WX) (t : TO) (F : OF) : Prop := ∀ (G H : Hp) (σ : L2.St) (ρ : List Sl) (Q : Option Int → Hp → Prop), AtE X.K G H σ ρ → Wh X W σ G H ρ (fun o _ H' => Q o H') (F ρ) → t σ H Q
def OD (X : Cx) (W : WX) (e : Option Expr) (F : OF) : Prop := ∃ t, PO X e t ∧ RdO X W t F
theorem RdO.use {α : Type} {σ : L2.St} {G H : Hp} {ρ : List Sl} {t : TO} {F : OF} (ra : RdO X W t F) (a : AtE X.K G H σ ρ) {P : α → Hp → Hp → Prop} {k : Option Int × List Sl → R (α × List Sl)} {C : Option Int → Hp → Prop} (h : Wh X W σ G H ρ P (F ρ >>= k))
    (c : ∀ b ρ1 G1 H1, AtE X.K G1 H1 σ ρ1 → Af X.K σ G H ρ G1 H1 ρ1 → Wh X W σ G1 H1 ρ1 P (k (b, ρ1)) → C b H1) : t σ H C :=
  ra G H σ ρ C a (wp_mono (wp_bind.mp h) (fun r hr G1 H1 af => c r.1 r.2 G1 H1 af.en af (Wh.trans hr af)) fun _ q => q)
theorem od_none : OD X W none oNo := ⟨_, po_none, fun G H σ ρ Q a h => Wh.here (P := fun o _ H' => Q o H') h a⟩
theorem od_some {e : Expr} {f : EF} : ED X W e f → OD X W (some e) (oSome f)
  | ⟨_, p, r⟩ => ⟨_, po_some p, fun G H σ ρ Q a h => r.use a (P := fun o _ H' => Q o H') h fun d ρ1 v G1 H1 a1 af1 at1 h1 => by
    cases at1 with
    | int i => exact ⟨i, rfl, Wh.here (P := fun o _ H' => Q o H') h1 a1⟩
    | _ => exact h1.elim⟩
@[simp] def eSl (f : EF) (l h : OF) : EF := fun ρ => f ρ >>= fun a => l a.2 >>= fun b => h b.2 >>= fun c => li (slD a.1 b.1 c.1) >>= fun d => .ok (d, c.2)
theorem cutS_ok {x : Str} (h : okS x = true) (lo hi : Option Int) : okS (cutS x lo hi) = true := by
  refine okS.mk (Nat.le_trans ?_ (okS.len h)) (strOk_iff.mpr fun c hc => strOk_iff.mp (okS.st h) c ?_)
  · show (cutS x lo hi).cps.size ≤ _
    unfold cutS
    rw [List.size_toArray, List.length_take, List.length_drop, Array.length_toList]
    exact Nat.le_trans (Nat.min_le_right _ _) (Nat.sub_le _ _)
  · unfold cutS at hc
    simp only at hc
    exact List.mem_of_mem_drop (List.mem_of_mem_take hc)
theorem cut_whole {α : Type} (xs : List α) (lo hi : Option Int) (h : HT.sIx xs.length 0 lo = 0 ∧ HT.sIx xs.length xs.length hi = xs.length) : cutL xs lo hi = xs := by
  unfold cutL
  rw [h.1, h.2]
  simp
theorem ed_slice {e : Expr} {lo hi : Option Expr} {f : EF} {g k : OF} {p2 pos : Pos} : ED X W e f → OD X W lo g → OD X W hi k → ED X W (.Subscript e (.Slice lo hi none p2) pos) (eSl f g k)
  | ⟨_, p, r⟩, ⟨_, q, s⟩, ⟨_, u, w⟩ => ⟨_, pe_slice (sl_list.or (sl_tupA.or sl_str)) p q u, fun G H σ ρ Q a h => r.use a (P := QE X.K Q) h fun d ρ1 v G1 H1 a1 af1 at1 h1 =>
    s.use a1 (P := QE X.K Q) h1 fun l ρ2 G2 H2 a2 af2 h2 => w.use a2 (P := QE X.K Q) h2 fun m ρ3 G3 H3 a3 af3 h3 => by
      have at3 := (at1.up af2.st.ex).up af3.st.ex
      have h4 := h3.pw a3
      cases at3 with
      | lst g1 g2 => exact .inl ⟨_, _, rfl, sq_of (a3.ex _ _ g1), h4.lst a3.ex (g2.cut l m)⟩
      | tup g1 g2 =>
        refine .inr (.inl ⟨_, _, rfl, ex_t a3.ex g1, fun z => ?_, fun _ => h4.tup a3.ex (g2.cut l m)⟩)
        rw [g2.length] at z
        simp only [slD, cut_whole _ l m z] at h4
        exact h4.val a3.ex (.tup g1 g2)
      | str x hx => exact .inr (.inr ⟨_, rfl, okS.len hx, h4.val a3.ex (.str _ (cutS_ok hx l m))⟩)
      | _ => exact h4.elim⟩

/-! ### -a -/
@[simp] def negD : D → Option D
  | .int i => some (.int (-i))
  | _ => none
@[simp] def eUn (f : D → Option D) (g : EF) : EF := fun ρ => g ρ >>= fun r => li (f r.1) >>= fun d => .ok (d, r.2)
theorem ed_neg {a : Expr} {f : EF} {pos : Pos} : ED X W a f → ED X W (.UnaryOp .USub a pos) (eUn negD f)
  | ⟨_, p, r⟩ => ⟨_, pe_un un_neg p, fun G H σ ρ Q a h => r.use a (P := QE X.K Q) h fun d ρ1 v G1 H1 a1 af1 at1 h1 => by
    have h2 := h1.pw a1
    cases at1 with
    | int i => exact ⟨i, rfl, h2.val a1.ex (.int _)⟩
    | _ => exact h2.elim⟩

/-! ### isinstance -/
def tyN : D → String
  | .none => "NoneType"
  | .bool _ => "bool"
  | .int _ => "int"
  | .str _ => "str"
  | .list _ => "list"
  | .tuple _ => "tuple"
  | .dict _ => "dict"
theorem At.ty {K : Fg} {G H : Hp} {v : V} {d : D} (h : At K G v d) (e : Ex G H) : TyX K H v (.type (tyN d)) := by
  cases h with
  | non => exact .base .non
  | bl b => exact .base (.bl b)
  | int i => exact .base (.int i)
  | str x _ => exact .base (.str x)
  | lst h1 _ => exact .base (.lst (e _ _ h1))
  | tup h1 _ =>
    rcases ex_t e h1 with h2 | ⟨o, its, n, h2, h3, _⟩
    · rcases h2 with h2 | ⟨o, h2⟩
      · exact .base (.tup h2)
      · exact .fTuple h2
    · exact .kTuple h2 h3
/-- the answers -/
@[simp] def isT (T : String) (d : D) : Bool := match d with
  | .none => false
  | .bool _ => T == "bool" || T == "int"
  | .int _ => T == "int"
  | .str _ => T == "str"
  | .list _ => T == "list"
  | .tuple _ => T == "tuple"
  | .dict _ => T == "dict"
def KitT (T : String) : Prop := ∀ a : String, a ∈ ["NoneType", "bool", "int", "str", "list", "tuple", "dict"] → kitB a T = some (match a with | "bool" => T == "bool" || T == "int" | "int" => T == "int" | "str" => T == "str" | "list" => T == "list" | "tuple" => T == "tuple" | "dict" => T == "dict" | _ => false)
theorem kitT_bool : KitT "bool" := by unfold KitT; decide +kernel
theorem kitT_int : KitT "int" := by unfold KitT; decide +kernel
theorem kitT_str : KitT "str" := by unfold KitT; decide +kernel
theorem kitT_list : KitT "list" := by unfold KitT; decide +kernel
theorem kitT_tuple : KitT "tuple" := by unfold KitT; decide +kernel
theorem kitT_dict : KitT "dict" := by unfold KitT; decide +kernel
theorem KitT.at_ {T : String} (h : KitT T) (d : D) : kitB (tyN d) T = some (isT T d) := by
  cases d <;> exact h _ (by simp [tyN])
@[simp] def eIsi (T : String) (f : EF) : EF := fun ρ => f ρ >>= fun r => .ok (.bool (isT T r.1), r.2)
theorem ed_isi {a : Expr} {T : String} {f : EF} {x : Str} {p p2 pos : Pos} (k : KitT T) (hg : Gl X "isinstance") (hm : X.mg "isinstance" = none) (hg2 : Gl X x) (hm2 : X.mg x = none) (hv2 : bootBuiltins x = some (.type T) := by decide +kernel)
    (hn : x ≠ "__name__" := by decide) (hdb : (x == ("__debug__" : Str)) = false := by decide)
    (he : starEach [a, .Name x p2] X.env = (false, eval a X.env) :: starEach [.Name x p2] X.env := by rfl) (he2 : starEach [Expr.Name x p2] X.env = (false, eval (.Name x p2) X.env) :: starEach [] X.env := by rfl) (hpl : (backTo pos (starEach [Expr.Name x p2] X.env)).any (·.1) = false := by rfl) :
    ED X W a f → ED X W (.Call (.Name "isinstance" p) [a, .Name x p2] [] pos) (eIsi T f)
  | ⟨_, q, r⟩ => ⟨_, pe_callB call_isi hg hm (by decide +kernel) (pa_cons q (pa_cons (pe_bltn (v := .ty T) (u := .type T) hg2 hm2 hv2 rfl hn hdb) pa_nil he2) he) (by decide) (by decide) he hpl, fun G H σ ρ Q a h =>
    r.use a (P := QE X.K Q) h fun d ρ1 v G1 H1 a1 af1 at1 h1 => ⟨v, .ty T, .type (tyN d), .type T, isT T d, rfl, .ty T, at1.ty a1.ex, kit_ty (k.at_ d), Wh.here (P := QE X.K Q) h1 a1 _ (.bl _)⟩⟩
@[simp] def eIsi2 (T U : String) (f : EF) : EF := fun ρ => f ρ >>= fun r => .ok (.bool (isT T r.1 || isT U r.1), r.2)
theorem ed_isi2 {a : Expr} {T U : String} {f : EF} {x y : Str} {p p2 p3 p4 pos : Pos} {n : Nat} (k : KitT T) (k2 : KitT U) (hg : Gl X "isinstance") (hm : X.mg "isinstance" = none) (hg2 : Gl X x) (hm2 : X.mg x = none) (hg3 : Gl X y) (hm3 : X.mg y = none) (hv2 : bootBuiltins x = some (.type T) := by decide +kernel)
    (hv3 : bootBuiltins y = some (.type U) := by decide +kernel) (hn : x ≠ "__name__" := by decide) (hdb : (x == ("__debug__" : Str)) = false := by decide) (hn3 : y ≠ "__name__" := by decide) (hdb3 : (y == ("__debug__" : Str)) = false := by decide)
    (e1 : starEach [a, .Tuple [.Name x p2, .Name y p3] n p4] X.env = (false, eval a X.env) :: starEach [.Tuple [.Name x p2, .Name y p3] n p4] X.env := by rfl)
    (e2 : starEach [Expr.Tuple [.Name x p2, .Name y p3] n p4] X.env = (false, eval (.Tuple [.Name x p2, .Name y p3] n p4) X.env) :: starEach [] X.env := by rfl)
    (e3 : starEach [Expr.Name x p2, .Name y p3] X.env = (false, eval (.Name x p2) X.env) :: starEach [.Name y p3] X.env := by rfl) (e4 : starEach [Expr.Name y p3] X.env = (false, eval (.Name y p3) X.env) :: starEach [] X.env := by rfl)
    (hpl : (backTo pos (starEach [Expr.Tuple [.Name x p2, .Name y p3] n p4] X.env)).any (·.1) = false := by rfl) :
    ED X W a f → ED X W (.Call (.Name "isinstance" p) [a, .Tuple [.Name x p2, .Name y p3] n p4] [] pos) (eIsi2 T U f)
  | ⟨_, q, r⟩ => ⟨_, pe_callB call_isiT hg hm (by decide +kernel) (pa_cons q (pa_cons (pe_tup (pa_cons (pe_bltn (v := .ty T) (u := .type T) hg2 hm2 hv2 rfl hn hdb) (pa_cons (pe_bltn (v := .ty U) (u := .type U) hg3 hm3 hv3 rfl hn3 hdb3) pa_nil e4) e3)) pa_nil e2) e1) (by decide) (by decide) e1 hpl, fun G H σ ρ Q a h =>
    r.use a (P := QE X.K Q) h fun d ρ1 v G1 H1 a1 af1 at1 h1 => by
      refine ⟨(by rw [sizeLine_eq]; exact (by decide : (2 : Nat) ≤ 16777216)), fun tp hp => ?_⟩
      have ax : Ex G1 (upd H1 tp (.tup [.ty T, .ty U])) := a1.ex.trans (Ex.new hp)
      refine ⟨v, tp, [.ty T, .ty U], .type (tyN d), [.type T, .type U], isT T d || isT U d, rfl, upd_same, .cons (.ty T) (.cons (.ty U) .nil), at1.ty ax, kitAny_cons (kit_ty (k.at_ d)) (fun e => kitAny_cons (kit_ty (k2.at_ d)) (fun e2 => ?_) fun e2 => ?_) fun e => ?_, ?_⟩
      · rw [e, e2]; exact kitAny_nil
      · rw [e, e2]; rfl
      · rw [e]; rfl
      · exact h1 G1 _ ⟨Stp.newH hp, ⟨ax, a1.len, fun i s en g1 g2 => by
          have g3 := a1.sl i s en g1 g2
          cases s with
          | u => exact True.intro
          | d x => exact g3
          | m xs =>
            obtain ⟨p, vs, k1, k2, k3, k4⟩ := g3
            exact ⟨p, vs, k1, k2, by rw [upd_ne (ne_of_none k3 hp)]; exact k3, k4⟩
          | s ns => exact g3, a1.dj⟩, fun _ => Iff.rfl⟩ _ (.bl _)⟩

/-! ### x in range(a, b) -/
theorem range_contains (r : Addr) (a b i : Int) (t u v k : Tok) : Meets (Builtin.«range.__contains__» ⟨[.ref r, .int i k], []⟩) (fun _ R s => IsRange s.heap r a b 1 t u v ∧ R (.ok (.ret (.bool (Builtin.Range.rangePlace? a b 1 i).isSome))) s) :=
  .of_wp fun prog w A R s h => by
    obtain ⟨hp, g, d, tk, os⟩ := s
    obtain ⟨hl, h⟩ := h
    wp_walk using wpAny_rangeFields hl
    exact ⟨_, rfl, h⟩
theorem place_some (a b i : Int) : (Builtin.Range.rangePlace? a b 1 i).isSome = (decide (a ≤ i) && decide (i < b)) := by
  unfold Builtin.Range.rangePlace?
  have e : ((i - a) % 1 == 0) = true := by rw [Int.emod_one]; rfl
  simp only [show (1 : Int) > 0 by decide, if_true, e, Bool.and_true]
  by_cases h : (decide (a ≤ i) && decide (i < b)) = true
  · simp [h]
  · simp only [h, Bool.not_eq_true] at *
    simp [h]
/-- an expression that makes a range -/
abbrev RF := List Sl → R ((Int × Int) × List Sl)
def RdR (X : Cx) (W : WX) (t : L2.St → Hp → (Int → Int → Hp → Prop) → Prop) (F : RF) : Prop := ∀ (G H : Hp) (σ : L2.St) (ρ : List Sl) (Q : Int → Int → Hp → Prop), AtE X.K G H σ ρ → Wh X W σ G H ρ (fun o _ H' => Q o.1 o.2 H') (F ρ) → t σ H Q
def RD (X : Cx) (W : WX) (e : Expr) (F : RF) : Prop := ∃ t, PRg X e t ∧ RdR X W t F
theorem RdR.use {α : Type} {σ : L2.St} {G H : Hp} {ρ : List Sl} {t : L2.St → Hp → (Int → Int → Hp → Prop) → Prop} {F : RF} (ra : RdR X W t F) (a : AtE X.K G H σ ρ) {P : α → Hp → Hp → Prop} {k : (Int × Int) × List Sl → R (α × List Sl)} {C : Int → Int → Hp → Prop} (h : Wh X W σ G H ρ P (F ρ >>= k))
    (c : ∀ i j ρ1 G1 H1, AtE X.K G1 H1 σ ρ1 → Af X.K σ G H ρ G1 H1 ρ1 → Wh X W σ G1 H1 ρ1 P (k ((i, j), ρ1)) → C i j H1) : t σ H C :=
  ra G H σ ρ C a (wp_mono (wp_bind.mp h) (fun r hr G1 H1 af => c r.1.1 r.1.2 r.2 G1 H1 af.en af (Wh.trans hr af)) fun _ q => q)
@[simp] def rg1 (f : EF) : RF := fun ρ => f ρ >>= fun a => match a.1 with
  | .int n => .ok ((0, n), a.2)
  | _ => .bad
@[simp] def rg2 (f g : EF) : RF := fun ρ => f ρ >>= fun a => g a.2 >>= fun b => match a.1, b.1 with
  | .int i, .int j => .ok ((i, j), b.2)
  | _, _ => .bad
theorem rd_1 {a : Expr} {f : EF} {p pos : Pos} (hg : Gl X "range") (hm : X.mg "range" = none) (na : starEach [a] X.env = (false, eval a X.env) :: starEach [] X.env := by rfl) : ED X W a f → RD X W (.Call (.Name "range" p) [a] [] pos) (rg1 f)
  | ⟨_, q, r⟩ => ⟨_, prg_1 hg hm q na, fun G H σ ρ Q a h => r.use a (P := fun (o : Int × Int) _ H' => Q o.1 o.2 H') h fun d ρ1 v G1 H1 a1 af1 at1 h1 => by
    cases at1 with
    | int n => exact ⟨n, rfl, Wh.here (P := fun (o : Int × Int) _ H' => Q o.1 o.2 H') (x := (0, n)) h1 a1⟩
    | _ => exact h1.elim⟩
theorem rd_2 {a b : Expr} {f g : EF} {p pos : Pos} (hg : Gl X "range") (hm : X.mg "range" = none) (na : starEach [a, b] X.env = (false, eval a X.env) :: starEach [b] X.env := by rfl)
    (nb : starEach [b] X.env = (false, eval b X.env) :: starEach [] X.env := by rfl) (hp : (backTo pos (starEach [b] X.env)).any (·.1) = false := by rfl) : ED X W a f → ED X W b g → RD X W (.Call (.Name "range" p) [a, b] [] pos) (rg2 f g)
  | ⟨_, q, r⟩, ⟨_, q2, r2⟩ => ⟨_, prg_2 hg hm q q2 na nb hp, fun G H σ ρ Q a h => r.use a (P := fun (o : Int × Int) _ H' => Q o.1 o.2 H') h fun d ρ1 v G1 H1 a1 af1 at1 h1 =>
    r2.use a1 (P := fun (o : Int × Int) _ H' => Q o.1 o.2 H') h1 fun d2 ρ2 v2 G2 H2 a2 af2 at2 h2 => by
      cases at1 with
      | int i =>
        cases at2 with
        | int j => exact ⟨i, j, rfl, rfl, Wh.here (P := fun (o : Int × Int) _ H' => Q o.1 o.2 H') (x := (i, j)) h2 a2⟩
        | _ => exact h2.elim
      | _ => exact h2.elim⟩
theorem range_in {M : Program} {w : World} {A : Around} {E : Value → Shared → Prop} {s : Shared} {r : Addr} {a b i : Int} {t u v k : Tok} {Q : Bool → Shared → Prop} (h : IsRange s.heap r a b 1 t u v) (hq : Q (decide (a ≤ i) && decide (i < b)) s) :
    wpAny (model M w) A (contains (.ref r) (.int i k)) Q E s := by
  have hT : s.TypeIs (.ref r) "range" := ⟨_, h, rfl⟩
  refine wpAny_contains_slot hT F.slot_range_contains (call_meets F.slot_range_contains hT F.entry_range_contains (F.args_range_contains_2 _ _) (range_contains r a b i t u v k) ⟨h, ?_⟩)
  show wpAny _ _ (truthy (.bool _)) _ _ _
  rw [place_some]
  exact wpAny_truthy_bool hq
theorem pe_inR {a b : Expr} {ta : TE} {t : L2.St → Hp → (Int → Int → Hp → Prop) → Prop} {pos : Pos} (ha : PE X a ta) (hb : PRg X b t) (hm : behindInMarks .In b = false) :
    PE X (.Compare a [.In] [b] pos) (fun σ H Q => ta σ H fun x H1 => t σ H1 fun lo hi H2 => ∃ i, x = .int i ∧ Q (.bl (decide (lo ≤ i) && decide (i < hi))) H2) :=
  ⟨fun pins s σ H Q I h => wpAny_Compare1 (thn (ha.run pins s σ H _ I h) fun v s1 ⟨x, H1, I1, r1, q1⟩ => thn (hb pins s1 σ H1 _ I1 q1) fun u s2 ⟨r, lo, hi, t1, t2, t3, H2, e, hR, I2, q2⟩ => by
    obtain ⟨i, rfl, q⟩ := q2
    obtain ⟨tk, rfl⟩ := r1
    subst e
    show wpAny _ _ (do return Value.bool (← contains (.ref r) (.int i tk))) _ _ _
    exact wpAny_bind (range_in hR (wpAny_pure ⟨.bl _, H2, I2, rfl, q⟩))) hm⟩
theorem pe_ninR {a b : Expr} {ta : TE} {t : L2.St → Hp → (Int → Int → Hp → Prop) → Prop} {pos : Pos} (ha : PE X a ta) (hb : PRg X b t) (hm : behindInMarks .NotIn b = false) :
    PE X (.Compare a [.NotIn] [b] pos) (fun σ H Q => ta σ H fun x H1 => t σ H1 fun lo hi H2 => ∃ i, x = .int i ∧ Q (.bl (!(decide (lo ≤ i) && decide (i < hi)))) H2) :=
  ⟨fun pins s σ H Q I h => wpAny_Compare1 (thn (ha.run pins s σ H _ I h) fun v s1 ⟨x, H1, I1, r1, q1⟩ => thn (hb pins s1 σ H1 _ I1 q1) fun u s2 ⟨r, lo, hi, t1, t2, t3, H2, e, hR, I2, q2⟩ => by
    obtain ⟨i, rfl, q⟩ := q2
    obtain ⟨tk, rfl⟩ := r1
    subst e
    show wpAny _ _ (do return Value.bool (!(← contains (.ref r) (.int i tk)))) _ _ _
    exact wpAny_bind (range_in hR (wpAny_pure ⟨.bl _, H2, I2, rfl, q⟩))) hm⟩
@[simp] def eInR (neg : Bool) (f : EF) (g : RF) : EF := fun ρ => f ρ >>= fun a => g a.2 >>= fun b => match a.1 with
  | .int i => .ok (.bool (if neg then !(decide (b.1.1 ≤ i) && decide (i < b.1.2)) else (decide (b.1.1 ≤ i) && decide (i < b.1.2))), b.2)
  | _ => .bad
theorem ed_inR {a b : Expr} {f : EF} {g : RF} {pos : Pos} (hm : behindInMarks .In b = false := by rfl) : ED X W a f → RD X W b g → ED X W (.Compare a [.In] [b] pos) (eInR false f g)
  | ⟨_, p, r⟩, ⟨_, q, s⟩ => ⟨_, pe_inR p q hm, fun G H σ ρ Q a h => r.use a (P := QE X.K Q) h fun d ρ1 v G1 H1 a1 af1 at1 h1 => s.use a1 (P := QE X.K Q) h1 fun lo hi ρ2 G2 H2 a2 af2 h2 => by
    cases at1 with
    | int i => exact ⟨i, rfl, Wh.here (P := QE X.K Q) h2 a2 _ (.bl _)⟩
    | _ => exact h2.elim⟩
theorem ed_ninR {a b : Expr} {f : EF} {g : RF} {pos : Pos} (hm : behindInMarks .NotIn b = false := by rfl) : ED X W a f → RD X W b g → ED X W (.Compare a [.NotIn] [b] pos) (eInR true f g)
  | ⟨_, p, r⟩, ⟨_, q, s⟩ => ⟨_, pe_ninR p q hm, fun G H σ ρ Q a h => r.use a (P := QE X.K Q) h fun d ρ1 v G1 H1 a1 af1 at1 h1 => s.use a1 (P := QE X.K Q) h1 fun lo hi ρ2 G2 H2 a2 af2 h2 => by
    cases at1 with
    | int i => exact ⟨i, rfl, Wh.here (P := QE X.K Q) h2 a2 _ (.bl _)⟩
    | _ => exact h2.elim⟩
/-- list(range(..)), tuple(range(..)) -/
def rgL (i j : Int) : List D := (List.range (j - i).toNat).map fun (k : Nat) => .int (i + k)
theorem at_rg {K : Fg} {G : Hp} (i j : Int) : AtL K G (rgV i j) (rgL i j) := by
  unfold rgV rgL
  generalize List.range (j - i).toNat = l
  induction l with
  | nil => exact .nil
  | cons a l ih => exact .cons (.int _) ih
@[simp] def eLstR (g : RF) : EF := fun ρ => g ρ >>= fun r => if -1000 ≤ r.1.1 ∧ r.1.1 ≤ 1000000 ∧ -1000 ≤ r.1.2 ∧ r.1.2 ≤ 1000000 then .ok (.list (rgL r.1.1 r.1.2), r.2) else .bad
@[simp] def eTupR (g : RF) : EF := fun ρ => g ρ >>= fun r => if -1000 ≤ r.1.1 ∧ r.1.1 ≤ 1000000 ∧ -1000 ≤ r.1.2 ∧ r.1.2 ≤ 1000000 then .ok (.tuple (rgL r.1.1 r.1.2), r.2) else .bad
theorem ed_lstR {e : Expr} {g : RF} {p pos : Pos} (hc : X.calm = true) (hg : Gl X "list") (hm : X.mg "list" = none) (na : starEach [e] X.env = (false, eval e X.env) :: starEach [] X.env := by rfl) : RD X W e g → ED X W (.Call (.Name "list" p) [e] [] pos) (eLstR g)
  | ⟨_, q, r⟩ => ⟨_, pe_listRg hc hg hm q na, fun G H σ ρ Q a h => r.use a (P := QE X.K Q) h fun i j ρ1 G1 H1 a1 af1 h1 => by
    by_cases c : -1000 ≤ i ∧ i ≤ 1000000 ∧ -1000 ≤ j ∧ j ≤ 1000000
    · simp only [c, and_self, if_true] at h1
      refine ⟨⟨by omega, by omega, by omega, by omega, by omega⟩, fun p hp => ?_⟩
      exact h1 (upd G1 p _) _ (Af.grow a1 (Stp.new a1.ex hp) (ex_upd2 a1.ex)) _ (.lst upd_same ((at_rg i j)))
    · rw [if_neg c] at h1
      exact h1.elim⟩
theorem ed_tupR {e : Expr} {g : RF} {p pos : Pos} (hc : X.calm = true) (hg : Gl X "tuple") (hm : X.mg "tuple" = none) (na : starEach [e] X.env = (false, eval e X.env) :: starEach [] X.env := by rfl) : RD X W e g → ED X W (.Call (.Name "tuple" p) [e] [] pos) (eTupR g)
  | ⟨_, q, r⟩ => ⟨_, pe_tupRg hc hg hm q na, fun G H σ ρ Q a h => r.use a (P := QE X.K Q) h fun i j ρ1 G1 H1 a1 af1 h1 => by
    by_cases c : -1000 ≤ i ∧ i ≤ 1000000 ∧ -1000 ≤ j ∧ j ≤ 1000000
    · simp only [c, and_self, if_true] at h1
      refine ⟨⟨by omega, by omega, by omega, by omega, by omega⟩, fun p hp => ?_⟩
      exact h1 (upd G1 p _) _ (Af.grow a1 (Stp.new a1.ex hp) (ex_upd2 a1.ex)) _ (.tup (st_of upd_same) ((at_rg i j)))
    · rw [if_neg c] at h1
      exact h1.elim⟩
end
end Pd
end

section
/-! Pd, part 6: calls of the program's own defs. -/
namespace Pd
open PySem L2 Evl PyProof.Rows

/-! ### a def as a function -/
abbrev Fn := List Sl → R (D × List Sl)
/-- what a def promises: it does what F does -/
def spF (mg : Str → Option Value) (K : Fg) (n : Nat) (F : Fn) : Sp := fun vs H Q E => vs.length = n ∧ ∃ G as, AtE K G H (vs.map some) as ∧
  wp (F as) (Gn K (vs.map some) G H as (QE K Q)) (fun c => ∀ cls dd G' H', Stp (Mt (vs.map some) as) G H G' H' → AtX mg K G' H' c cls dd → E cls dd H')
/-- the def of the name x, n parameters -/
structure Fd (P : Program) (w : World) (K : Fg) (mg : Str → Option Value) (base : Heap) (k : Nat) (x : Str) (n : Nat) (F : Fn) : Prop where
  h : ∃ f fd ps, ps.length = n ∧ FnOk P w K mg base (L2.CX P w) k f fd ps (spF mg K n F) ∧ mg x = some (.ref f) ∧ PySem.W.keepIn K (.ref f) = true ∧ Binds K fd ps []

/-! ### arguments: data, or a slot's own list, or the script -/
inductive Ar where
  | d (x : D)
  | r (i : Nat)
inductive ArL (K : Fg) (G : Hp) (σ : L2.St) : List V → List Ar → Prop
  | nil : ArL K G σ [] []
  | d {v : V} {x : D} {vs : List V} {as : List Ar} : At K G v x → ArL K G σ vs as → ArL K G σ (v :: vs) (.d x :: as)
  | r {v : V} {i : Nat} {vs : List V} {as : List Ar} : σ[i]? = some (some v) → ArL K G σ vs as → ArL K G σ (v :: vs) (.r i :: as)
abbrev CF := List Sl → R (List Ar × List Sl)
abbrev QR (K : Fg) (σ : L2.St) (Q : List V → Hp → Prop) : List Ar → Hp → Hp → Prop := fun as G' H' => ∀ vs, ArL K G' σ vs as → Q vs H'
section
variable {X : Cx} {W : WX}
def RdC (X : Cx) (W : WX) (t : TA) (F : CF) : Prop := ∀ (G H : Hp) (σ : L2.St) (ρ : List Sl) (Q : List V → Hp → Prop), AtE X.K G H σ ρ → Wh X W σ G H ρ (QR X.K σ Q) (F ρ) → t σ H Q
def CD (X : Cx) (W : WX) (es : List Expr) (F : CF) : Prop := ∃ t, PA X es t ∧ RdC X W t F
theorem RdC.use {α : Type} {σ : L2.St} {G H : Hp} {ρ : List Sl} {t : TA} {F : CF} (ra : RdC X W t F) (a : AtE X.K G H σ ρ) {P : α → Hp → Hp → Prop} {k : List Ar × List Sl → R (α × List Sl)} {C : List V → Hp → Prop} (h : Wh X W σ G H ρ P (F ρ >>= k))
    (c : ∀ as ρ1 vs G1 H1, AtE X.K G1 H1 σ ρ1 → Af X.K σ G H ρ G1 H1 ρ1 → ArL X.K G1 σ vs as → Wh X W σ G1 H1 ρ1 P (k (as, ρ1)) → C vs H1) : t σ H C :=
  ra G H σ ρ C a (wp_mono (wp_bind.mp h) (fun r hr G1 H1 af vs at1 => c r.1 r.2 vs G1 H1 af.en af at1 (Wh.trans hr af)) fun _ q => q)
theorem ArL.up {K : Fg} {G G' : Hp} {σ : L2.St} {vs : List V} {as : List Ar} (h : ArL K G σ vs as) (e : Ex G G') : ArL K G' σ vs as := by
  induction h with
  | nil => exact .nil
  | d h _ ih => exact .d (h.up e) ih
  | r h _ ih => exact .r h ih
@[simp] def cNil : CF := fun ρ => .ok ([], ρ)
@[simp] def cD (f : EF) (g : CF) : CF := fun ρ => f ρ >>= fun a => g a.2 >>= fun b => .ok (.d a.1 :: b.1, b.2)
@[simp] def cR (i : Nat) (g : CF) : CF := fun ρ => match ρ[i]? with
  | some (.m _) => g ρ >>= fun b => .ok (.r i :: b.1, b.2)
  | some (.s _) => g ρ >>= fun b => .ok (.r i :: b.1, b.2)
  | _ => .bad
theorem cd_nil : CD X W [] cNil := ⟨_, pa_nil, fun G H σ ρ Q a h => Wh.here (P := QR X.K σ Q) h a [] .nil⟩
theorem cd_d {e : Expr} {es : List Expr} {f : EF} {g : CF} (hs : starEach (e :: es) X.env = (false, eval e X.env) :: starEach es X.env := by rfl) : ED X W e f → CD X W es g → CD X W (e :: es) (cD f g)
  | ⟨_, p, r⟩, ⟨_, q, s⟩ => ⟨_, pa_cons p q hs, fun G H σ ρ Q a h => r.use a (P := QR X.K σ Q) h fun d ρ1 v G1 H1 a1 af1 at1 h1 => s.use a1 (P := QR X.K σ Q) h1 fun ds ρ2 vs G2 H2 a2 af2 at2 h2 =>
    Wh.here (P := QR X.K σ Q) h2 a2 (v :: vs) (.d (at1.up af2.st.ex) at2)⟩
theorem cd_r (i : Nat) {x : Str} {pos : Pos} {es : List Expr} {g : CF} (hN : X.N[i]? = some x := by rfl) (hv : Vis X.env.scope x := by first | exact Or.inl rfl | exact Or.inr (Or.inl rfl) | exact Or.inr (Or.inr rfl)) (hd : (x == ("__debug__" : Str)) = false := by decide)
    (hcd : (x == ("__classdict__" : Str)) = false := by decide) (hs : starEach (.Name x pos :: es) X.env = (false, eval (.Name x pos) X.env) :: starEach es X.env := by rfl) : CD X W es g → CD X W (.Name x pos :: es) (cR i g)
  | ⟨_, q, s⟩ => ⟨_, pa_cons (pv i hN hv hd hcd) q hs, fun G H σ ρ Q a h => by
    have go : ∀ e, σ[i]? = some (some e) → Wh X W σ G H ρ (QR X.K σ Q) (g ρ >>= fun b => .ok (.r i :: b.1, b.2)) → (tCons (tVar i) _) σ H Q := fun e he h =>
      ⟨e, he, s.use a (P := QR X.K σ Q) h fun ds ρ2 vs G2 H2 a2 af2 at2 h2 => Wh.here (P := QR X.K σ Q) h2 a2 (e :: vs) (.r he at2)⟩
    unfold cR at h
    split at h
    · rename_i xs e
      obtain ⟨en, e1, p, vs, e2, _⟩ := a.at_ e
      rw [e2] at e1
      exact go _ e1 h
    · rename_i xs e
      obtain ⟨en, e1, p, e2, _⟩ := a.at_ e
      rw [e2] at e1
      exact go _ e1 h
    · exact h.elim⟩
/-- the callee's slots -/
@[simp] def arSl (ρ : List Sl) : List Ar → Option (List Sl)
  | [] => some []
  | .d x :: as => (arSl ρ as).map (.d x :: ·)
  | .r i :: as => match ρ[i]? with
    | some (.m xs) => (arSl ρ as).map (.m xs :: ·)
    | some (.s ns) => (arSl ρ as).map (.s ns :: ·)
    | _ => none
@[simp] def arIx : List Ar → List Nat
  | [] => []
  | .d _ :: as => arIx as
  | .r i :: as => i :: arIx as
/-- what comes back into the slots -/
@[simp] def back : List Sl → List Ar → List Sl → Option (List Sl)
  | ρ, [], [] => some ρ
  | ρ, .d _ :: as, _ :: ss => back ρ as ss
  | ρ, .r i :: as, .m xs :: ss => back (ρ.set i (.m xs)) as ss
  | ρ, .r _ :: as, .s _ :: ss => back ρ as ss
  | _, _, _ => none
@[simp] def eUser (n : Nat) (F : Fn) (g : CF) : EF := fun ρ => g ρ >>= fun a => if a.1.length = n ∧ (arIx a.1).Nodup then li (arSl a.2 a.1) >>= fun sls => F sls >>= fun r => li (back a.2 a.1 r.2) >>= fun ρ2 => .ok (r.1, ρ2) else .bad
@[simp] def eUser0 (F : Fn) : EF := fun ρ => match F [] with
  | .ok r => .ok (r.1, ρ)
  | _ => .bad

section
variable {K : Fg} {G H G' H' : Hp} {σ : L2.St} {ρ : List Sl}
theorem arSl_len {as : List Ar} : ∀ {ss : List Sl}, arSl ρ as = some ss → ss.length = as.length := by
  induction as with
  | nil => intro ss h; cases h; rfl
  | cons a as ih =>
    intro ss h
    cases a with
    | d x =>
      simp only [arSl, Option.map_eq_some_iff] at h
      obtain ⟨t, h1, rfl⟩ := h
      simp [ih h1]
    | r i =>
      simp only [arSl] at h
      split at h
      · simp only [Option.map_eq_some_iff] at h
        obtain ⟨t, h1, rfl⟩ := h
        simp [ih h1]
      · simp only [Option.map_eq_some_iff] at h
        obtain ⟨t, h1, rfl⟩ := h
        simp [ih h1]
      · cases h
/-- one argument's slot -/
theorem arSl_get {as : List Ar} : ∀ {ss : List Sl} {j : Nat} {s : Sl}, arSl ρ as = some ss → ss[j]? = some s → (∃ x, as[j]? = some (.d x) ∧ s = .d x) ∨ (∃ i, as[j]? = some (.r i) ∧ ρ[i]? = some s ∧ ((∃ xs, s = .m xs) ∨ ∃ ns, s = .s ns)) := by
  induction as with
  | nil => intro ss j s h h2; cases h; simp at h2
  | cons a as ih =>
    intro ss j s h h2
    cases a with
    | d x =>
      simp only [arSl, Option.map_eq_some_iff] at h
      obtain ⟨t, h1, rfl⟩ := h
      cases j with
      | zero => simp at h2; exact .inl ⟨x, rfl, h2.symm⟩
      | succ j => simpa using ih h1 (by simpa using h2)
    | r i =>
      simp only [arSl] at h
      split at h
      · rename_i xs e
        simp only [Option.map_eq_some_iff] at h
        obtain ⟨t, h1, rfl⟩ := h
        cases j with
        | zero => simp at h2; subst h2; exact .inr ⟨i, rfl, e, .inl ⟨xs, rfl⟩⟩
        | succ j => simpa using ih h1 (by simpa using h2)
      · rename_i xs e
        simp only [Option.map_eq_some_iff] at h
        obtain ⟨t, h1, rfl⟩ := h
        cases j with
        | zero => simp at h2; subst h2; exact .inr ⟨i, rfl, e, .inr ⟨xs, rfl⟩⟩
        | succ j => simpa using ih h1 (by simpa using h2)
      · cases h
theorem ArL.length {vs : List V} {as : List Ar} (h : ArL K G σ vs as) : vs.length = as.length := by
  induction h with
  | nil => rfl
  | d _ _ ih => simp [ih]
  | r _ _ ih => simp [ih]
theorem ArL.get {vs : List V} {as : List Ar} (h : ArL K G σ vs as) : ∀ {j : Nat} {v : V}, vs[j]? = some v → (∃ x, as[j]? = some (.d x) ∧ At K G v x) ∨ (∃ i, as[j]? = some (.r i) ∧ σ[i]? = some (some v)) := by
  induction h with
  | nil => intro j v h; simp at h
  | d h1 _ ih =>
    intro j v h
    cases j with
    | zero => simp at h; subst h; exact .inl ⟨_, rfl, h1⟩
    | succ j => simpa using ih (by simpa using h)
  | r h1 _ ih =>
    intro j v h
    cases j with
    | zero => simp at h; subst h; exact .inr ⟨_, rfl, h1⟩
    | succ j => simpa using ih (by simpa using h)
theorem arIx_mem {as : List Ar} : ∀ {j i : Nat}, as[j]? = some (.r i) → i ∈ arIx as := by
  induction as with
  | nil => intro j i h; simp at h
  | cons a as ih =>
    intro j i h
    cases j with
    | zero => simp at h; subst h; exact List.mem_cons_self
    | succ j =>
      have := ih (by simpa using h)
      cases a with
      | d x => exact this
      | r k => exact List.mem_cons_of_mem _ this
theorem arIx_inj {as : List Ar} : ∀ {j k i : Nat}, (arIx as).Nodup → as[j]? = some (.r i) → as[k]? = some (.r i) → j = k := by
  induction as with
  | nil => intro j k i _ h; simp at h
  | cons a as ih =>
    intro j k i nd h1 h2
    cases a with
    | d x =>
      cases j with
      | zero => simp at h1
      | succ j =>
        cases k with
        | zero => simp at h2
        | succ k => exact congrArg Nat.succ (ih (i := i) nd (by simpa using h1) (by simpa using h2))
    | r l =>
      obtain ⟨nm, nd⟩ := List.nodup_cons.mp nd
      cases j with
      | zero =>
        simp at h1
        subst h1
        cases k with
        | zero => rfl
        | succ k => exact absurd (arIx_mem (as := as) (by simpa using h2)) nm
      | succ j =>
        cases k with
        | zero =>
          simp at h2
          subst h2
          exact absurd (arIx_mem (as := as) (by simpa using h1)) nm
        | succ k => exact congrArg Nat.succ (ih (i := i) nd (by simpa using h1) (by simpa using h2))
/-- the callee's environment -/
theorem args_env (a : AtE K G H σ ρ) {vs : List V} {as : List Ar} {ss : List Sl} (h : ArL K G σ vs as) (e : arSl ρ as = some ss) (nd : (arIx as).Nodup) : AtE K G H (vs.map some) ss where
  ex := a.ex
  len := by rw [arSl_len e, List.length_map, h.length]
  sl := fun j s en h1 h2 => by
    rw [List.getElem?_map] at h2
    cases q : vs[j]? with
    | none => rw [q] at h2; cases h2
    | some v =>
      rw [q] at h2
      cases h2
      rcases arSl_get e h1 with ⟨x, g1, rfl⟩ | ⟨i, g1, g2, _⟩
      · rcases h.get q with ⟨x', k1, k2⟩ | ⟨i, k1, k2⟩
        · rw [g1] at k1; cases k1
          exact ⟨v, rfl, k2⟩
        · rw [g1] at k1; cases k1
      · rcases h.get q with ⟨x', k1, k2⟩ | ⟨i', k1, k2⟩
        · rw [g1] at k1; cases k1
        · rw [g1] at k1; cases k1
          exact a.sl i s _ g2 k2
  dj := fun j k p xs ys h1 h2 h3 h4 => by
    rw [List.getElem?_map] at h3 h4
    cases q1 : vs[j]? with
    | none => rw [q1] at h3; cases h3
    | some v =>
      cases q2 : vs[k]? with
      | none => rw [q2] at h4; cases h4
      | some u =>
        rw [q1] at h3; rw [q2] at h4
        cases h3; cases h4
        rcases arSl_get e h1 with ⟨x, _, z⟩ | ⟨i, g1, g2, _⟩
        · cases z
        · rcases arSl_get e h2 with ⟨x, _, z⟩ | ⟨i', g3, g4, _⟩
          · cases z
          · rcases h.get q1 with ⟨x', k1, k2⟩ | ⟨l, k1, k2⟩
            · rw [g1] at k1; cases k1
            · rw [g1] at k1; cases k1
              rcases h.get q2 with ⟨x', k3, k4⟩ | ⟨l', k3, k4⟩
              · rw [g3] at k3; cases k3
              · rw [g3] at k3; cases k3
                have := a.dj i i' p xs ys g2 g4 k2 k4
                subst this
                exact arIx_inj nd g1 g3
theorem args_mt {vs : List V} {as : List Ar} {ss : List Sl} (h : ArL K G σ vs as) (e : arSl ρ as = some ss) {p : Addr} (m : Mt (vs.map some) ss p) : Mt σ ρ p := by
  obtain ⟨j, xs, h1, h2⟩ := m
  rw [List.getElem?_map] at h2
  cases q : vs[j]? with
  | none => rw [q] at h2; cases h2
  | some v =>
    rw [q] at h2
    cases h2
    rcases arSl_get e h1 with ⟨x, _, z⟩ | ⟨i, g1, g2, _⟩
    · cases z
    · rcases h.get q with ⟨x', k1, k2⟩ | ⟨i', k1, k2⟩
      · rw [g1] at k1; cases k1
      · rw [g1] at k1; cases k1
        exact ⟨i, xs, g2, k2⟩
/-- what back does -/
theorem back_get : ∀ {as : List Ar} {ss : List Sl} {ρ ρ2 : List Sl}, (arIx as).Nodup → (∀ (j i : Nat) (xs : List D), as[j]? = some (Ar.r i) → ss[j]? = some (Sl.m xs) → i < ρ.length) → back ρ as ss = some ρ2 →
    ρ2.length = ρ.length ∧ (∀ i : Nat, (∀ (j : Nat) (xs : List D), as[j]? = some (Ar.r i) → ss[j]? ≠ some (Sl.m xs)) → ρ2[i]? = ρ[i]?) ∧ ∀ (j i : Nat) (xs : List D), as[j]? = some (Ar.r i) → ss[j]? = some (Sl.m xs) → ρ2[i]? = some (Sl.m xs)
  | [], [], _, _, _, _, h => by cases h; exact ⟨rfl, fun _ _ => rfl, fun j i xs h => by simp at h⟩
  | [], _ :: _, _, _, _, _, h => by cases h
  | .d _ :: as, [], _, _, _, _, h => by cases h
  | .r _ :: as, [], _, _, _, _, h => by cases h
  | .d x :: as, s :: ss, ρ, ρ2, nd, hl, h => by
    have h' : back ρ as ss = some ρ2 := by cases s <;> exact h
    obtain ⟨h1, h2, h3⟩ := back_get (as := as) (ss := ss) nd (fun j i xs a b => hl (j + 1) i xs (by simpa using a) (by simpa using b)) h'
    refine ⟨h1, fun i hi => h2 i fun j xs a => by simpa using hi (j + 1) xs (by simpa using a), fun j i xs a b => ?_⟩
    cases j with
    | zero => simp at a
    | succ j => exact h3 j i xs (by simpa using a) (by simpa using b)
  | .r i :: as, .m xs :: ss, ρ, ρ2, nd, hl, h => by
    obtain ⟨nm, nd⟩ := List.nodup_cons.mp nd
    have hi : i < ρ.length := hl 0 i xs rfl rfl
    obtain ⟨h1, h2, h3⟩ := back_get (as := as) (ss := ss) (ρ := ρ.set i (.m xs)) nd (fun j i' xs' a b => by rw [List.length_set]; exact hl (j + 1) i' xs' (by simpa using a) (by simpa using b)) h
    have hin : ρ2[i]? = some (.m xs) := by
      rw [h2 i fun j ys a => absurd (arIx_mem a) nm]
      simp [hi]
    refine ⟨by simpa using h1, fun i' hi' => ?_, fun j i' xs' a b => ?_⟩
    · have ne : i ≠ i' := fun z => by subst z; exact hi' 0 xs rfl rfl
      rw [h2 i' fun j ys a => by simpa using hi' (j + 1) ys (by simpa using a), List.getElem?_set_ne ne]
    · cases j with
      | zero =>
        simp at a b
        subst a b
        exact hin
      | succ j => exact h3 j i' xs' (by simpa using a) (by simpa using b)
  | .r i :: as, .s ns :: ss, ρ, ρ2, nd, hl, h => by
    obtain ⟨nm, nd⟩ := List.nodup_cons.mp nd
    obtain ⟨h1, h2, h3⟩ := back_get (as := as) (ss := ss) nd (fun j i xs a b => hl (j + 1) i xs (by simpa using a) (by simpa using b)) h
    refine ⟨h1, fun i' hi' => h2 i' fun j xs a => by simpa using hi' (j + 1) xs (by simpa using a), fun j i' xs a b => ?_⟩
    cases j with
    | zero => simp at b
    | succ j => exact h3 j i' xs (by simpa using a) (by simpa using b)
  | .r i :: as, .d x :: ss, ρ, ρ2, nd, hl, h => by cases h
  | .r i :: as, .u :: ss, ρ, ρ2, nd, hl, h => by cases h
/-- behind the call -/
theorem args_back (a : AtE K G H σ ρ) {vs : List V} {as : List Ar} {ss ss' ρ2 : List Sl} (h : ArL K G σ vs as) (e : arSl ρ as = some ss) (nd : (arIx as).Nodup) (af : Af K (vs.map some) G H ss G' H' ss') (eb : back ρ as ss' = some ρ2) : Af K σ G H ρ G' H' ρ2 := by
  have hs' : ∀ (j i : Nat) (xs : List D), as[j]? = some (Ar.r i) → ss'[j]? = some (Sl.m xs) → ∃ (ys : List D) (p : Addr), ρ[i]? = some (Sl.m ys) ∧ σ[i]? = some (some (V.ref p)) ∧ (vs.map some)[j]? = some (some (V.ref p)) := fun j i xs h1 h2 => by
    obtain ⟨ys, h3⟩ := (af.sh j).mp ⟨xs, h2⟩
    rcases arSl_get e h3 with ⟨x, _, z⟩ | ⟨i', g1, g2, _⟩
    · cases z
    · rw [h1] at g1; cases g1
      obtain ⟨en, k1, p, ws, k2, _⟩ := a.at_ g2
      rw [k2] at k1
      refine ⟨ys, p, g2, k1, ?_⟩
      have hj : j < vs.length := by rw [h.length]; exact (List.getElem?_eq_some_iff.mp h1).1
      rcases h.get (List.getElem?_eq_getElem hj) with ⟨x', q1, _⟩ | ⟨l, q1, q2⟩
      · rw [h1] at q1; cases q1
      · rw [h1] at q1; cases q1
        rw [k1] at q2
        rw [List.getElem?_map, List.getElem?_eq_getElem hj]
        have := Option.some.inj q2
        rw [← this]
        rfl
  obtain ⟨b1, b2, b3⟩ := back_get nd (fun j i xs h1 h2 => by
    obtain ⟨ys, p, g, _⟩ := hs' j i xs h1 h2
    exact (List.getElem?_eq_some_iff.mp g).1) eb
  have cases_ : ∀ i : Nat, (∃ (j : Nat) (xs : List D), as[j]? = some (Ar.r i) ∧ ss'[j]? = some (Sl.m xs)) ∨ ((∀ (j : Nat) (xs : List D), as[j]? = some (Ar.r i) → ss'[j]? ≠ some (Sl.m xs)) ∧ ρ2[i]? = ρ[i]?) := fun i => by
    by_cases q : ∃ (j : Nat) (xs : List D), as[j]? = some (Ar.r i) ∧ ss'[j]? = some (Sl.m xs)
    · exact .inl q
    · exact .inr ⟨fun j xs h1 h2 => q ⟨j, xs, h1, h2⟩, b2 i fun j xs h1 h2 => q ⟨j, xs, h1, h2⟩⟩
  have sh : ∀ i : Nat, (∃ xs, ρ2[i]? = some (Sl.m xs)) ↔ (∃ xs, ρ[i]? = some (Sl.m xs)) := fun i => by
    rcases cases_ i with ⟨j, xs, h1, h2⟩ | ⟨hno, q⟩
    · obtain ⟨ys, p, g, _⟩ := hs' j i xs h1 h2
      exact ⟨fun _ => ⟨ys, g⟩, fun _ => ⟨xs, b3 j i xs h1 h2⟩⟩
    · rw [q]
  refine ⟨af.st.weak fun p => args_mt h e, ⟨af.en.ex, b1.trans a.len, fun i s en h1 h2 => ?_, fun i j p xs ys h1 h2 h3 h4 => ?_⟩, sh⟩
  · rcases cases_ i with ⟨j, xs, g1, g2⟩ | ⟨hno, q⟩
    · obtain ⟨ys, p, k1, k2, k3⟩ := hs' j i xs g1 g2
      rw [b3 j i xs g1 g2] at h1
      cases h1
      rw [h2] at k2
      cases k2
      exact af.en.sl j _ _ g2 k3
    · rw [q] at h1
      have at1 := a.sl i s en h1 h2
      cases s with
      | u => exact True.intro
      | d x =>
        obtain ⟨v, e1, e2⟩ := at1
        exact ⟨v, e1, e2.up af.st.ex⟩
      | m xs =>
        obtain ⟨p, ws, e1, e2, e3, e4⟩ := at1
        subst e1
        have nm : ¬ Mt (vs.map some) ss p := fun ⟨j, ys, m1, m2⟩ => by
          rcases arSl_get e m1 with ⟨x, _, z⟩ | ⟨l, g1, g2, _⟩
          · cases z
          · have hj : j < vs.length := by rw [h.length]; exact (List.getElem?_eq_some_iff.mp g1).1
            rcases h.get (List.getElem?_eq_getElem hj) with ⟨x', q1, _⟩ | ⟨l', q1, q2⟩
            · rw [g1] at q1; cases q1
            · rw [g1] at q1; cases q1
              rw [List.getElem?_map, List.getElem?_eq_getElem hj] at m2
              have m3 : vs[j] = .ref p := Option.some.inj (Option.some.inj m2)
              rw [m3] at q2
              have := a.dj i l p xs ys h1 g2 h2 q2
              subst this
              obtain ⟨zs, z1⟩ := (af.sh j).mpr ⟨ys, m1⟩
              exact hno j zs g1 z1
        refine ⟨p, ws, rfl, ?_, af.st.fr p _ e3 nm, e4.up af.st.ex⟩
        cases z : G' p with
        | none => rfl
        | some o => exact absurd e2 (af.st.nw p (by rw [e3]; exact fun z => nomatch z) (by rw [z]; exact fun z => nomatch z))
      | s ns =>
        obtain ⟨b, e1, e2⟩ := at1
        exact ⟨b, e1, ex_l af.st.ex e2⟩
  · obtain ⟨xs', h1'⟩ := (sh i).mp ⟨xs, h1⟩
    obtain ⟨ys', h2'⟩ := (sh j).mp ⟨ys, h2⟩
    exact a.dj i j p xs' ys' h1' h2' h3 h4
end
theorem rd_call {n : Nat} {F : Fn} {t : TA} {g : CF} (s : RdC X W t g) : RdE X W (tCallS (spF X.mg X.K n F) (WE W) t) (eUser n F g) := fun G H σ ρ Q a h =>
  s.use a (P := QE X.K Q) h fun as ρ1 vs G1 H1 a1 af1 at1 h1 => by
    by_cases c : as.length = n ∧ (arIx as).Nodup
    · simp only [if_pos c] at h1
      cases e : arSl ρ1 as with
      | none => simp only [e] at h1; exact h1.elim
      | some ss =>
        simp only [e, li_some, bind_ok] at h1
        refine ⟨by rw [at1.length]; exact c.1, G1, ss, args_env a1 at1 e c.2, wp_mono (wp_bind.mp h1) (fun r hr G' H' af v av => ?_) fun x hx cls dd G' H' st q => hx cls dd G' H' (st.weak fun p => args_mt at1 e) q⟩
        cases eb : back ρ1 as r.2 with
        | none => rw [eb] at hr; exact hr.elim
        | some ρ2 =>
          rw [eb] at hr
          exact hr G' H' (args_back a1 at1 e c.2 af eb) v av
    · simp only [if_neg c] at h1
      exact h1.elim
theorem ed_call {k j n : Nat} {x : Str} {F : Fn} {e : Expr} {es : List Expr} {g : CF} {p pos : Pos} (c : Fd X.prog X.w X.K X.mg X.base k x n F) (hr : Room j X.A) (tk : Takes X W) (hg : Gl X x) (hk : k ≤ j := by decide) (hdb : (x == ("__debug__" : Str)) = false := by decide)
    (he : starEach (e :: es) X.env = (false, eval e X.env) :: starEach es X.env := by rfl) (hpl : (backTo pos (starEach es X.env)).any (·.1) = false := by rfl) : CD X W (e :: es) g → ED X W (.Call (.Name x p) (e :: es) [] pos) (eUser n F g)
  | ⟨_, q, s⟩ => by
    obtain ⟨f, fd, ps, hl, FO, hm, kp, hb⟩ := c.h
    exact ⟨_, pe_callS FO (hr.mono hk) hg hm kp hb (fun σ => passAt tk σ) q hdb he hpl, rd_call s⟩
theorem ed_call0 {k j : Nat} {x : Str} {F : Fn} {p pos : Pos} (c : Fd X.prog X.w X.K X.mg X.base k x 0 F) (hr : Room j X.A) (hg : Gl X x) (hk : k ≤ j := by decide) (hdb : (x == ("__debug__" : Str)) = false := by decide) : ED X W (.Call (.Name x p) [] [] pos) (eUser0 F) := by
  obtain ⟨f, fd, ps, hl, FO, hm, kp, hb⟩ := c.h
  refine ⟨_, pe_call0 (dvs := []) (E := E0) FO (hr.mono hk) hg hm kp hb .nil (fun _ _ _ _ _ _ _ h => by
    obtain ⟨_, _, _, _, _, _, _, _, _, _, _, _, z⟩ := h
    exact z.elim) hdb, fun G H σ ρ Q a h => ?_⟩
  have hF : ∃ r, F [] = .ok r := by
    unfold eUser0 at h
    cases q : F [] with
    | ok r => exact ⟨r, rfl⟩
    | ex c => rw [q] at h; exact h.elim
    | bad => rw [q] at h; exact h.elim
  obtain ⟨r, hF⟩ := hF
  have h2 : Wh X W σ G H ρ (QE X.K Q) (.ok (r.1, ρ)) := by
    unfold eUser0 at h
    rw [hF] at h
    exact h
  have ae : AtE X.K G H (([] : List V).map some) [] := ⟨a.ex, rfl, fun i s e q => by simp at q, fun i j p xs ys q => by simp at q⟩
  refine ⟨rfl, G, [], ae, ?_⟩
  show wp (F []) _ _
  rw [hF]
  exact fun G' H' af v av => h2 G' H' (Af.grow a (af.st.weak fun p ⟨i, xs, q, _⟩ => by simp at q) af.en.ex) v av
end
end Pd
end

section
/-! Pd, part 7: statements, targets, loops, a def by its body. -/
namespace Pd
open PySem L2 Evl PyProof.Rows

/-! ### the environment of a body -/
structure Bd where
  F : Hp
  G : Hp
  H : Hp
  σ : L2.St
  as : List Sl
structure EnS (K : Fg) (B : Bd) (n : Nat) (G H : Hp) (σ : L2.St) (ρ : List Sl) : Prop where
  en : AtE K G H σ ρ
  st : Stp (Mt B.σ B.as) B.G B.H G H
  fr : ∀ p, Mt σ ρ p → Mt B.σ B.as p ∨ B.H p = none
  ar : ∀ (i : Nat) (xs : List D), B.as[i]? = some (Sl.m xs) → σ[i]? = B.σ[i]? ∧ ∃ ys, ρ[i]? = some (Sl.m ys)
  np : B.as.length = n
  ab : AtE K B.G B.H B.σ B.as
  fl : Ex B.F G
section
variable {K : Fg} {B : Bd} {n : Nat} {G H G' H' : Hp} {σ σ' : L2.St} {ρ ρ' : List Sl}
theorem EnS.af (e : EnS K B n G H σ ρ) (a : Af K σ G H ρ G' H' ρ') : EnS K B n G' H' σ ρ' :=
  ⟨a.en, e.st.trans a.st e.fr, fun p m => e.fr p ((a.mt p).mp m), fun i xs h => ⟨(e.ar i xs h).1, (a.sh i).mpr (e.ar i xs h).2⟩, e.np, e.ab, e.fl.trans a.st.ex⟩
/-- a target's stores -/
structure TgR (is : List Nat) (σ : L2.St) (ρ : List Sl) (σ' : L2.St) (ρ' : List Sl) : Prop where
  len : σ'.length = σ.length
  out : ∀ j : Nat, j ∉ is → σ'[j]? = σ[j]? ∧ ρ'[j]? = ρ[j]?
  inn : ∀ j : Nat, j ∈ is → (∀ xs, ρ[j]? ≠ some (Sl.m xs)) ∧ ∀ xs, ρ'[j]? ≠ some (Sl.m xs)
theorem TgR.refl : TgR [] σ ρ σ ρ := ⟨rfl, fun _ _ => ⟨rfl, rfl⟩, fun _ h => nomatch h⟩
theorem TgR.trans {is js : List Nat} {σ1 : L2.St} {ρ1 : List Sl} (a : TgR is σ ρ σ1 ρ1) (b : TgR js σ1 ρ1 σ' ρ') : TgR (is ++ js) σ ρ σ' ρ' where
  len := b.len.trans a.len
  out := fun j h => by
    have h1 : j ∉ is := fun z => h (List.mem_append_left _ z)
    have h2 : j ∉ js := fun z => h (List.mem_append_right _ z)
    exact ⟨(b.out j h2).1.trans (a.out j h1).1, (b.out j h2).2.trans (a.out j h1).2⟩
  inn := fun j h => by
    by_cases h1 : j ∈ is
    · refine ⟨(a.inn j h1).1, ?_⟩
      by_cases h2 : j ∈ js
      · exact (b.inn j h2).2
      · rw [(b.out j h2).2]; exact (a.inn j h1).2
    · have h2 : j ∈ js := (List.mem_append.mp h).resolve_left h1
      refine ⟨?_, (b.inn j h2).2⟩
      rw [← (a.out j h1).2]; exact (b.inn j h2).1
theorem TgR.m {is : List Nat} (t : TgR is σ ρ σ' ρ') (i : Nat) (xs : List D) : ρ'[i]? = some (Sl.m xs) ↔ ρ[i]? = some (Sl.m xs) := by
  by_cases h : i ∈ is
  · exact ⟨fun z => absurd z ((t.inn i h).2 xs), fun z => absurd z ((t.inn i h).1 xs)⟩
  · rw [(t.out i h).2]
theorem TgR.e {is : List Nat} (t : TgR is σ ρ σ' ρ') {i : Nat} {xs : List D} (h : ρ[i]? = some (Sl.m xs)) : σ'[i]? = σ[i]? := by
  by_cases h1 : i ∈ is
  · exact absurd h ((t.inn i h1).1 xs)
  · exact (t.out i h1).1
theorem TgR.mt {is : List Nat} (t : TgR is σ ρ σ' ρ') (p : Addr) : Mt σ' ρ' p ↔ Mt σ ρ p := by
  constructor
  · rintro ⟨i, xs, h1, h2⟩
    have h3 := (t.m i xs).mp h1
    rw [t.e h3] at h2
    exact ⟨i, xs, h3, h2⟩
  · rintro ⟨i, xs, h1, h2⟩
    refine ⟨i, xs, (t.m i xs).mpr h1, ?_⟩
    rw [t.e h1]; exact h2
theorem EnS.tg {is : List Nat} (e : EnS K B n G H σ ρ) (a : AtE K G H σ' ρ') (t : TgR is σ ρ σ' ρ') : EnS K B n G H σ' ρ' :=
  ⟨a, e.st, fun p m => e.fr p ((t.mt p).mp m), fun i xs h => by
    obtain ⟨h1, ys, h2⟩ := e.ar i xs h
    exact ⟨(t.e h2).trans h1, ys, (t.m i ys).mpr h2⟩, e.np, e.ab, e.fl⟩
/-- another floor -/
theorem EnS.onto (e : EnS K B n G H σ ρ) {F : Hp} (x : Ex F G) : EnS K { B with F := F } n G H σ ρ := ⟨e.en, e.st, e.fr, e.ar, e.np, e.ab, x⟩
/-- a slot of data is stored -/
def setD (i : Nat) (d : D) (ρ : List Sl) : Option (List Sl) := match ρ[i]? with
  | some (.m _) => none
  | none => none
  | some _ => some (ρ.set i (.d d))
theorem setD_at {i : Nat} {v : V} {d : D} (a : AtE K G H σ ρ) (av : At K G v d) (h : setD i d ρ = some ρ') : AtE K G H (σ.set i (some v)) ρ' ∧ TgR [i] σ ρ (σ.set i (some v)) ρ' := by
  have hs : (∀ xs, ρ[i]? ≠ some (Sl.m xs)) ∧ i < ρ.length ∧ ρ' = ρ.set i (.d d) := by
    unfold setD at h
    split at h
    · cases h
    · cases h
    · rename_i s hm e
      cases h
      exact ⟨fun xs z => hm xs (Option.some.inj (e.symm.trans z)), (List.getElem?_eq_some_iff.mp e).1, rfl⟩
  obtain ⟨hm, hi, rfl⟩ := hs
  have hiσ : i < σ.length := by rw [← a.len]; exact hi
  have get1 : ∀ j : Nat, j ≠ i → (σ.set i (some v))[j]? = σ[j]? ∧ (ρ.set i (.d d))[j]? = ρ[j]? := fun j hj => ⟨List.getElem?_set_ne (Ne.symm hj), List.getElem?_set_ne (Ne.symm hj)⟩
  refine ⟨⟨a.ex, by simpa using a.len, fun j s en h1 h2 => ?_, fun j k p xs ys h1 h2 h3 h4 => ?_⟩, ⟨by simp, fun j hj => get1 j (by simpa using hj), fun j hj => ?_⟩⟩
  · by_cases hj : j = i
    · subst hj
      rw [List.getElem?_set_self hi] at h1
      rw [List.getElem?_set_self hiσ] at h2
      cases h1; cases h2
      exact ⟨v, rfl, av⟩
    · rw [(get1 j hj).2] at h1
      rw [(get1 j hj).1] at h2
      exact a.sl j s en h1 h2
  · have nj : ∀ (j : Nat) (xs : List D), (ρ.set i (.d d))[j]? = some (Sl.m xs) → j ≠ i := fun j xs q z => by
      subst z
      rw [List.getElem?_set_self hi] at q; cases q
    have n1 := nj j xs h1
    have n2 := nj k ys h2
    rw [(get1 j n1).2] at h1
    rw [(get1 k n2).2] at h2
    rw [(get1 j n1).1] at h3
    rw [(get1 k n2).1] at h4
    exact a.dj j k p xs ys h1 h2 h3 h4
  · have e : j = i := by simpa using hj
    subst e
    refine ⟨hm, fun xs z => ?_⟩
    rw [List.getElem?_set_self hi] at z; cases z
/-- what a def's own lists hold at its end -/
@[simp] def keep1 : Sl → Sl → Sl
  | .m _, r => r
  | a, _ => a
@[simp] def keepM (as ρ : List Sl) : List Sl := List.zipWith keep1 as ρ
end

/-! ### targets -/
abbrev GF := D → List Sl → Option (List Sl)
abbrev GFs := List D → List Sl → Option (List Sl)
section
variable {X : Cx} {W : WX}
/-- what is wanted behind a target -/
def Gt (K : Fg) (is : List Nat) (G H : Hp) (σ : L2.St) (ρ : List Sl) (Q : L2.St → Hp → Prop) (r : Option (List Sl)) : Prop := match r with
  | some ρ' => ∀ σ', AtE K G H σ' ρ' → TgR is σ ρ σ' ρ' → Q σ' H
  | none => False
def GD (X : Cx) (is : List Nat) (e : Expr) (g : GF) : Prop := ∃ t, PG X e t ∧ ∀ (G H : Hp) (σ : L2.St) (ρ : List Sl) (v : V) (d : D) (Q : L2.St → Hp → Prop), AtE X.K G H σ ρ → At X.K G v d → Gt X.K is G H σ ρ Q (g d ρ) → t v σ H Q
def GDs (X : Cx) (is : List Nat) (es : List Expr) (g : GFs) : Prop := ∃ t, PGs X es t ∧ ∀ (G H : Hp) (σ : L2.St) (ρ : List Sl) (vs : List V) (ds : List D) (Q : L2.St → Hp → Prop), AtE X.K G H σ ρ → AtL X.K G vs ds → Gt X.K is G H σ ρ Q (g ds ρ) → t vs σ H Q
theorem gd_name (i : Nat) {x : Str} {pos : Pos} (hN : X.N.Nodup) (hi : X.N[i]? = some x := by rfl) (hx : Loc X.env.scope x := by first | exact Or.inl rfl | exact Or.inr rfl) (hf : X.fn x = true ∨ X.env.scope.names.lookup x = some .local := by first | exact .inl rfl | exact .inr rfl | assumption) : GD X [i] (.Name x pos) (setD i) :=
  ⟨_, pg_name hN hi hx hf, fun G H σ ρ v d Q a av h => by
    cases q : setD i d ρ with
    | none => rw [q] at h; exact h.elim
    | some ρ' =>
      rw [q] at h
      obtain ⟨a', t'⟩ := setD_at a av q
      exact h _ a' t'⟩
@[simp] def gsNil : GFs := fun ds ρ => match ds with
  | [] => some ρ
  | _ => none
@[simp] def gsCons (g : GF) (gs : GFs) : GFs := fun ds ρ => match ds with
  | d :: r => (g d ρ).bind fun ρ' => gs r ρ'
  | [] => none
theorem gds_nil : GDs X [] [] gsNil := ⟨_, pgs_nil, fun G H σ ρ vs ds Q a av h => by
  unfold gsNil at h
  split at h
  · cases av
    exact ⟨rfl, h σ a TgR.refl⟩
  · exact h.elim⟩
theorem gds_cons {is js : List Nat} {e : Expr} {es : List Expr} {g : GF} {gs : GFs} (hs : (assignEach (e :: es) X.env).map (·.2) = assign e X.env :: (assignEach es X.env).map (·.2) := by rfl) : GD X is e g → GDs X js es gs → GDs X (is ++ js) (e :: es) (gsCons g gs)
  | ⟨_, p, r⟩, ⟨_, q, s⟩ => ⟨_, pgs_cons p q hs, fun G H σ ρ vs ds Q a av h => by
    unfold gsCons at h
    cases av with
    | nil => exact h.elim
    | @cons v vs d ds a1 a2 =>
      refine ⟨v, vs, rfl, r G H σ ρ v d _ a a1 ?_⟩
      cases q1 : g d ρ with
      | none => simp only [q1] at h; exact h.elim
      | some ρ1 =>
        simp only [q1, Option.bind_some] at h
        refine fun σ1 b1 t1 => s G H σ1 ρ1 vs ds Q b1 a2 ?_
        cases q2 : gs ds ρ1 with
        | none => rw [q2] at h; exact h.elim
        | some ρ2 =>
          rw [q2] at h
          exact fun σ2 b2 t2 => h σ2 b2 (t1.trans t2)⟩
@[simp] def gTupD (n : Nat) (gs : GFs) : GF := fun d ρ => match d with
  | .tuple xs => if xs.length = n then gs xs ρ else none
  | _ => none
theorem gd_tup {is : List Nat} {es : List Expr} {k n : Nat} {gs : GFs} {pos : Pos} (hc : X.calm = true) (hn : (assignEach es X.env).length = n := by rfl) (hst : (assignEach es X.env).findIdx? (·.1) = none := by rfl) : GDs X is es gs → GD X is (.Tuple es k pos) (gTupD n gs)
  | ⟨_, p, r⟩ => ⟨_, pg_tup hc p hn hst, fun G H σ ρ v d Q a av h => by
    unfold gTupD at h
    split at h
    · rename_i xs
      by_cases c : xs.length = n
      · simp only [c, if_true] at h
        cases av with
        | tup h1 h2 => exact ⟨_, _, rfl, ex_t a.ex h1, by rw [h2.length]; exact c, r G H σ ρ _ _ Q a h2 h⟩
      · simp only [c, if_false] at h
        exact h.elim
    · exact h.elim⟩

/-! ### statements -/
inductive Fl where
  | nx (ρ : List Sl)
  | rt (d : D) (ρ : List Sl)
  | bk (ρ : List Sl)
  | ct (ρ : List Sl)
abbrev SF := List Sl → R Fl
def QS (K : Fg) (B : Bd) (n : Nat) (D' : Ends) : Fl → Prop
  | .nx ρ' => ∀ σ' G' H', EnS K B n G' H' σ' ρ' → D'.nx σ' H'
  | .rt d ρ' => ∀ v σ' G' H', EnS K B n G' H' σ' ρ' → At K G' v d → D'.rt v H'
  | .bk ρ' => ∀ σ' G' H', EnS K B n G' H' σ' ρ' → D'.bk σ' H'
  | .ct ρ' => ∀ σ' G' H', EnS K B n G' H' σ' ρ' → D'.ct σ' H'
def QX (mg : Str → Option Value) (K : Fg) (B : Bd) (W : WX) (c : Xc) : Prop := ∀ cls dd σ' G' H', Stp (Mt B.σ B.as) B.G B.H G' H' → AtX mg K G' H' c cls dd → W cls dd σ' H'
def RdS (X : Cx) (W : WX) (n : Nat) (t : TS) (F : SF) : Prop := ∀ (B : Bd) (D' : Ends) (G H : Hp) (σ : L2.St) (ρ : List Sl), EnS X.K B n G H σ ρ → wp (F ρ) (QS X.K B n D') (QX X.mg X.K B W) → t D' σ H
def SD (X : Cx) (W : WX) (n : Nat) (s : Stmt) (F : SF) : Prop := ∃ t, PS X s t ∧ RdS X W n t F
def SDs (X : Cx) (W : WX) (n : Nat) (s : List Stmt) (F : SF) : Prop := ∃ t, PSs X s t ∧ RdS X W n t F
theorem QX.gv {K : Fg} {mg : Str → Option Value} {B : Bd} {n : Nat} {G H : Hp} {σ : L2.St} {ρ : List Sl} {c : Xc} (h : QX mg K B W c) (e : EnS K B n G H σ ρ) : GvX mg K σ G H ρ W c := fun cls dd G' H' st x =>
  h cls dd σ G' H' (e.st.trans st e.fr) x
/-- an expression first, in a statement -/
theorem RdE.useS {n : Nat} {t : TE} {F : EF} (ra : RdE X W t F) {B : Bd} {D' : Ends} {G H : Hp} {σ : L2.St} {ρ : List Sl} (e : EnS X.K B n G H σ ρ) {k : PyData × List Sl → R Fl} {C : VK} (h : wp (F ρ >>= k) (QS X.K B n D') (QX X.mg X.K B W))
    (c : ∀ d ρ1 v G1 H1, EnS X.K B n G1 H1 σ ρ1 → Ex G G1 → At X.K G1 v d → wp (k (d, ρ1)) (QS X.K B n D') (QX X.mg X.K B W) → C v H1) : t σ H C :=
  ra G H σ ρ C e.en (wp_mono (wp_bind.mp h) (fun r hr G1 H1 af v at1 => c r.1 r.2 v G1 H1 (e.af af) af.st.ex at1 hr) fun _ q => q.gv e)
theorem RdT.useS {n : Nat} {t : TT} {F : TF} (ra : RdT X W t F) {B : Bd} {D' : Ends} {G H : Hp} {σ : L2.St} {ρ : List Sl} (e : EnS X.K B n G H σ ρ) {k : Bool × List Sl → R Fl} {C : Bool → Hp → Prop} (h : wp (F ρ >>= k) (QS X.K B n D') (QX X.mg X.K B W))
    (c : ∀ b ρ1 G1 H1, EnS X.K B n G1 H1 σ ρ1 → Ex G G1 → wp (k (b, ρ1)) (QS X.K B n D') (QX X.mg X.K B W) → C b H1) : t σ H C :=
  ra G H σ ρ C e.en (wp_mono (wp_bind.mp h) (fun r hr G1 H1 af => c r.1 r.2 G1 H1 (e.af af) af.st.ex hr) fun _ q => q.gv e)
variable {n : Nat}
@[simp] def sNx : SF := fun ρ => .ok (.nx ρ)
@[simp] def sSeq (f g : SF) : SF := fun ρ => f ρ >>= fun r => match r with
  | .nx ρ' => g ρ'
  | r => .ok r
@[simp] def sRet (f : EF) : SF := fun ρ => f ρ >>= fun r => .ok (.rt r.1 r.2)
@[simp] def sRetN : SF := fun ρ => .ok (.rt .none ρ)
@[simp] def sIf (t : TF) (f g : SF) : SF := fun ρ => t ρ >>= fun r => if r.1 = true then f r.2 else g r.2
@[simp] def sDrop (f : EF) : SF := fun ρ => f ρ >>= fun r => .ok (.nx r.2)
@[simp] def sAsg (f : EF) (g : GF) : SF := fun ρ => f ρ >>= fun r => li (g r.1 r.2) >>= fun ρ' => .ok (.nx ρ')
@[simp] def sBk : SF := fun ρ => .ok (.bk ρ)
@[simp] def sCt : SF := fun ρ => .ok (.ct ρ)
@[simp] def sNever : SF := fun _ => .bad
theorem sds_nil : SDs X W n [] sNx := ⟨_, pss_nil, fun B D' G H σ ρ e h => h σ G H e⟩
theorem sds_one {s : Stmt} {f : SF} : SD X W n s f → SDs X W n [s] f
  | ⟨_, p, r⟩ => ⟨_, pss_one p, r⟩
theorem sds_cons {s : Stmt} {ss : List Stmt} {f g : SF} : SD X W n s f → SDs X W n ss g → SDs X W n (s :: ss) (sSeq f g)
  | ⟨_, p, r⟩, ⟨_, q, u⟩ => ⟨_, pss_cons p q, fun B D' G H σ ρ e h => r B _ G H σ ρ e (wp_mono (wp_bind.mp h) (fun fl hf => by
    cases fl with
    | nx ρ' => exact fun σ' G' H' e' => u B D' G' H' σ' ρ' e' hf
    | rt d ρ' => exact hf
    | bk ρ' => exact hf
    | ct ρ' => exact hf) fun _ q => q)⟩
theorem sds_never {ss : List Stmt} : SDs X W n ss sNever := ⟨_, pss_never, fun B D' G H σ ρ e h => h.elim⟩
theorem sd_never {s : Stmt} : SD X W n s sNever := ⟨_, ps_never, fun B D' G H σ ρ e h => h.elim⟩
theorem sd_ret {e : Expr} {f : EF} {pos : Pos} : ED X W e f → SD X W n (.Return (some e) pos) (sRet f)
  | ⟨_, p, r⟩ => ⟨_, ps_ret p, fun B D' G H σ ρ e h => r.useS e h fun d ρ1 v G1 H1 e1 ex1 at1 h1 => h1 v σ G1 H1 e1 at1⟩
theorem sd_retN {pos : Pos} : SD X W n (.Return none pos) sRetN := ⟨_, ps_retN, fun B D' G H σ ρ e h => h .non σ G H e .non⟩
theorem sd_pass {pos : Pos} : SD X W n (.Pass pos) sNx := ⟨_, ps_pass, fun B D' G H σ ρ e h => h σ G H e⟩
theorem sd_break {pos : Pos} : SD X W n (.Break pos) sBk := ⟨_, ps_break, fun B D' G H σ ρ e h => h σ G H e⟩
theorem sd_cont {pos : Pos} : SD X W n (.Continue pos) sCt := ⟨_, ps_continue, fun B D' G H σ ρ e h => h σ G H e⟩
theorem sd_doc {x j pos pos'} : SD X W n (.Expr (.Constant (.str x) j pos) pos') sNx := ⟨_, ps_doc, fun B D' G H σ ρ e h => h σ G H e⟩
theorem sd_expr {e : Expr} {f : EF} {pos : Pos} (hs : swapsWith e none pos.line X.env = pure false := by rfl) : ED X W e f → SD X W n (.Expr e pos) (sDrop f)
  | ⟨_, p, r⟩ => ⟨_, ps_expr p hs, fun B D' G H σ ρ e h => r.useS e h fun d ρ1 v G1 H1 e1 ex1 at1 h1 => h1 σ G1 H1 e1⟩
theorem sd_if {c : Expr} {a b : List Stmt} {t : TF} {f g : SF} {pos : Pos} : TD X W c t → SDs X W n a f → SDs X W n b g → SD X W n (.If c a b pos) (sIf t f g)
  | ⟨_, p, r⟩, ⟨_, pa, ra⟩, ⟨_, pb, rb⟩ => ⟨_, ps_if p pa pb, fun B D' G H σ ρ e h => r.useS e h fun b ρ1 G1 H1 e1 ex1 h1 => by
    cases b with
    | true => exact ra B D' G1 H1 σ ρ1 e1 h1
    | false => exact rb B D' G1 H1 σ ρ1 e1 h1⟩
theorem gt_use {is : List Nat} {B : Bd} {D' : Ends} {G H : Hp} {σ : L2.St} {ρ : List Sl} {r : Option (List Sl)} (e : EnS X.K B n G H σ ρ) (h : wp (li r >>= fun ρ' => R.ok (Fl.nx ρ')) (QS X.K B n D') (QX X.mg X.K B W)) : Gt X.K is G H σ ρ D'.nx r := by
  cases r with
  | none => exact h.elim
  | some ρ' => exact fun σ' a t => h σ' G H (e.tg a t)
theorem sd_asg {is : List Nat} {tg e : Expr} {f : EF} {g : GF} {pos : Pos} (hs : swapsWithSole [tg] e pos.line X.env = pure false := by rfl) (hw : swappedStores [tg] e X.env = pure none := by rfl)
    (h1 : (assignEach [tg] X.env).map (·.2) = [assign tg X.env] := by rfl) : ED X W e f → GD X is tg g → SD X W n (.Assign [tg] e pos) (sAsg f g)
  | ⟨_, p, r⟩, ⟨_, q, u⟩ => ⟨_, ps_asg p q hs hw h1, fun B D' G H σ ρ e h => r.useS e h fun d ρ1 v G1 H1 e1 ex1 at1 h1 => u G1 H1 σ ρ1 v d _ e1.en at1 (gt_use e1 h1)⟩
theorem sd_set (i : Nat) {x : Str} {e : Expr} {f : EF} {pos pos' : Pos} (hN : X.N.Nodup) (hi : X.N[i]? = some x := by rfl) (hx : Loc X.env.scope x := by first | exact Or.inl rfl | exact Or.inr rfl) (hs : swapsWith e (some (.Name x pos')) pos.line X.env = pure false := by rfl)
    (hf : X.fn x = true ∨ X.env.scope.names.lookup x = some .local := by first | exact .inl rfl | exact .inr rfl | assumption) : ED X W e f → SD X W n (.Assign [.Name x pos'] e pos) (sAsg f (setD i))
  | ⟨_, p, r⟩ => ⟨_, ps_set hN hi hx p hs hf, fun B D' G H σ ρ e h => r.useS e h fun d ρ1 v G1 H1 e1 ex1 at1 h1 => by
    have h2 := gt_use (is := [i]) e1 h1
    cases q : setD i d ρ1 with
    | none => rw [q] at h2; exact h2.elim
    | some ρ' =>
      rw [q] at h2
      obtain ⟨a', t'⟩ := setD_at e1.en at1 q
      exact h2 _ a' t'⟩
/-- a, b = e1, e2: two plain locals -/
@[simp] def sPar (i j : Nat) (f g : EF) : SF := fun ρ => f ρ >>= fun a => g a.2 >>= fun b => li ((setD i a.1 b.2).bind fun ρ' => setD j b.1 ρ') >>= fun ρ' => .ok (.nx ρ')
theorem sd_par (i j : Nat) {x y : Str} {a b : Expr} {f g : EF} {px py pt pos : Pos} {kt k2 pt2} (hc : X.calm = true) (hN : X.N.Nodup) (hi : X.N[i]? = some x := by rfl) (hj : X.N[j]? = some y := by rfl) (hij : i ≠ j := by decide)
    (hx : X.env.scope.names.lookup x = some .local := by rfl) (hy : X.env.scope.names.lookup y = some .local := by rfl)
    (hw : swappedStores [.Tuple [.Name x px, .Name y py] kt pt] (.Tuple [a, b] k2 pt2) X.env = pure (some [x, y]) := by rfl)
    (hs : swapsWithSole [.Tuple [.Name x px, .Name y py] kt pt] (.Tuple [a, b] k2 pt2) pos.line X.env = pure false := by rfl)
    (e1 : starEach [a, b] X.env = (false, eval a X.env) :: starEach [b] X.env := by rfl) (e2 : starEach [b] X.env = (false, eval b X.env) :: starEach [] X.env := by rfl) : ED X W a f → ED X W b g →
    SD X W n (.Assign [.Tuple [.Name x px, .Name y py] kt pt] (.Tuple [a, b] k2 pt2) pos) (sPar i j f g)
  | ⟨_, p, r⟩, ⟨_, q, s⟩ => ⟨_, ps_par hc hN hi hj hij hx hy (pa_cons p (pa_cons q pa_nil e2) e1) hw hs, fun B D' G H σ ρ e h => r.useS e h fun d ρ1 v G1 H1 e1 ex1 at1 h1 =>
    s.useS e1 h1 fun d2 ρ2 w G2 H2 e2 ex2 at2 h2 => by
      cases q1 : setD i d ρ2 with
      | none => simp only [q1] at h2; exact h2.elim
      | some ρ3 =>
        cases q2 : setD j d2 ρ3 with
        | none => simp only [q1, Option.bind_some, q2] at h2; exact h2.elim
        | some ρ4 =>
          simp only [q1, Option.bind_some, q2, li_some, bind_ok] at h2
          obtain ⟨a3, t3⟩ := setD_at e2.en (at1.up ex2) q1
          obtain ⟨a4, t4⟩ := setD_at a3 at2 q2
          exact ⟨v, w, rfl, h2 _ G2 H2 ((e2.tg a3 t3).tg a4 t4)⟩⟩
/-- three -/
@[simp] def sPar3 (i j l : Nat) (f g k : EF) : SF := fun ρ => f ρ >>= fun a => g a.2 >>= fun b => k b.2 >>= fun c => li ((setD i a.1 c.2).bind fun ρ' => (setD j b.1 ρ').bind fun ρ'' => setD l c.1 ρ'') >>= fun ρ' => .ok (.nx ρ')
theorem sd_par3 (i j l : Nat) {x y z : Str} {a b c : Expr} {f g k : EF} {px py pz pt pos : Pos} {kt k2 pt2} (hc : X.calm = true) (hN : X.N.Nodup) (hi : X.N[i]? = some x := by rfl) (hj : X.N[j]? = some y := by rfl) (hl : X.N[l]? = some z := by rfl) (hij : i ≠ j := by decide) (hil : i ≠ l := by decide) (hjl : j ≠ l := by decide)
    (hx : X.env.scope.names.lookup x = some .local := by rfl) (hy : X.env.scope.names.lookup y = some .local := by rfl) (hz : X.env.scope.names.lookup z = some .local := by rfl)
    (hw : swappedStores [.Tuple [.Name x px, .Name y py, .Name z pz] kt pt] (.Tuple [a, b, c] k2 pt2) X.env = pure (some [x, y, z]) := by rfl)
    (hs : swapsWithSole [.Tuple [.Name x px, .Name y py, .Name z pz] kt pt] (.Tuple [a, b, c] k2 pt2) pos.line X.env = pure false := by rfl)
    (e1 : starEach [a, b, c] X.env = (false, eval a X.env) :: starEach [b, c] X.env := by rfl) (e2 : starEach [b, c] X.env = (false, eval b X.env) :: starEach [c] X.env := by rfl) (e3 : starEach [c] X.env = (false, eval c X.env) :: starEach [] X.env := by rfl) : ED X W a f → ED X W b g → ED X W c k →
    SD X W n (.Assign [.Tuple [.Name x px, .Name y py, .Name z pz] kt pt] (.Tuple [a, b, c] k2 pt2) pos) (sPar3 i j l f g k)
  | ⟨_, p, r⟩, ⟨_, q, s⟩, ⟨_, p3, r3⟩ => ⟨_, ps_par3 hc hN hi hj hl hij hil hjl hx hy hz (pa_cons p (pa_cons q (pa_cons p3 pa_nil e3) e2) e1) hw hs, fun B D' G H σ ρ e h => r.useS e h fun d ρ1 v G1 H1 e1 ex1 at1 h1 =>
    s.useS e1 h1 fun d2 ρ2 w G2 H2 e2 ex2 at2 h2 => r3.useS e2 h2 fun d3 ρ3 u G3 H3 e3 ex3 at3 h3 => by
      cases q1 : setD i d ρ3 with
      | none => simp only [q1] at h3; exact h3.elim
      | some ρ4 =>
        cases q2 : setD j d2 ρ4 with
        | none => simp only [q1, Option.bind_some, q2] at h3; exact h3.elim
        | some ρ5 =>
          cases q3 : setD l d3 ρ5 with
          | none => simp only [q1, Option.bind_some, q2, q3] at h3; exact h3.elim
          | some ρ6 =>
            simp only [q1, Option.bind_some, q2, q3, li_some, bind_ok] at h3
            obtain ⟨a4, t4⟩ := setD_at e3.en ((at1.up ex2).up ex3) q1
            obtain ⟨a5, t5⟩ := setD_at a4 (at2.up ex3) q2
            obtain ⟨a6, t6⟩ := setD_at a5 at3 q3
            exact ⟨v, w, u, rfl, h3 _ G3 H3 (((e3.tg a4 t4).tg a5 t5).tg a6 t6)⟩⟩
end
end Pd
end

section
/-! Pd, part 8: what loops walk, for, while, comprehensions, a def by its body. -/
namespace Pd
open PySem L2 Evl PyProof.Rows

/-! ### what is walked -/
/-- J walks these items -/
structure Wk (K : Fg) (G1 : Hp) (items : List D) (J : It) : Prop where
  go : ∀ (i : Nat) (d : D) (H G : Hp), Ex G1 G → Ex G H → items[i]? = some d → J.go i H ∧ ∀ x H', J.yld i H x H' → ∃ G', Stp No G H G' H' ∧ Ex G' H' ∧ At K G' x d
  stop : ∀ (i : Nat) (H G : Hp), Ex G1 G → Ex G H → items.length ≤ i → J.stop i H
abbrev QI (K : Fg) (R : It → Hp → Prop) : List D → Hp → Hp → Prop := fun items G1 H1 => ∀ J, Wk K G1 items J → R J H1
section
variable {X : Cx} {W : WX}
def RdI (X : Cx) (W : WX) (wi : TI) (F : AF) : Prop := ∀ (G H : Hp) (σ : L2.St) (ρ : List Sl) (R : It → Hp → Prop), AtE X.K G H σ ρ → Wh X W σ G H ρ (QI X.K R) (F ρ) → wi σ H R
def ID (X : Cx) (W : WX) (tg e : Expr) (F : AF) : Prop := ∃ wi, PI X tg e wi ∧ RdI X W wi F
theorem wk_list {K : Fg} {G : Hp} {a : Addr} {vs : List V} {ds : List D} (h : G a = some (.lst vs)) (av : AtL K G vs ds) : Wk K G ds (Itl K a) where
  go := fun i d H G' e1 e2 q => by
    have hs : SqL K H a vs := sq_of (e2 _ _ (e1 _ _ h))
    obtain ⟨v, g1, g2⟩ := av.get q
    refine ⟨⟨vs, v, hs, g1⟩, fun x H' y => ?_⟩
    obtain ⟨rfl, y⟩ := y
    have := (y vs hs).symm.trans g1
    cases this
    exact ⟨G', Stp.refl, e2, g2.up e1⟩
  stop := fun i H G' e1 e2 q => ⟨vs, sq_of (e2 _ _ (e1 _ _ h)), by rw [av.length]; exact q⟩
theorem wk_tup {K : Fg} {G : Hp} {a : Addr} {vs : List V} {ds : List D} (h : SqT K G a vs) (av : AtL K G vs ds) : Wk K G ds (Itt K a) where
  go := fun i d H G' e1 e2 q => by
    have hs : SqT K H a vs := ex_t e2 (ex_t e1 h)
    obtain ⟨v, g1, g2⟩ := av.get q
    refine ⟨⟨vs, v, hs, g1⟩, fun x H' y => ?_⟩
    obtain ⟨rfl, y⟩ := y
    have := (y vs hs).symm.trans g1
    cases this
    exact ⟨G', Stp.refl, e2, g2.up e1⟩
  stop := fun i H G' e1 e2 q => ⟨vs, ex_t e2 (ex_t e1 h), by rw [av.length]; exact q⟩
/-- the signs of a text -/
def signsD (x : Str) : List D := x.cps.toList.map fun c => .str ⟨#[c]⟩
theorem wk_str {K : Fg} {G : Hp} {x : Str} (hx : okS x = true) : Wk K G (signsD x) (Its x) where
  go := fun i d H G' e1 e2 q => by
    unfold signsD at q
    rw [List.getElem?_map] at q
    cases z : x.cps.toList[i]? with
    | none => rw [z] at q; cases q
    | some c =>
      rw [z] at q
      cases q
      have z' : x.cps[i]? = some c := by simpa using z
      refine ⟨(Array.getElem?_eq_some_iff.mp z').1, fun v H' y => ?_⟩
      obtain ⟨rfl, c', h1, rfl⟩ := y
      rw [z'] at h1
      cases h1
      exact ⟨G', Stp.refl, e2, .str _ (okS_one hx (List.mem_of_getElem? z))⟩
  stop := fun i H G' e1 e2 q => by
    unfold signsD at q
    show x.cps.size ≤ i
    simpa using q
theorem wk_range {K : Fg} {G : Hp} {lo : Int} {n : Nat} : Wk K G ((List.range n).map fun (k : Nat) => .int (lo + k)) (Itr lo n) where
  go := fun i d H G' e1 e2 q => by
    rw [List.getElem?_map] at q
    cases z : (List.range n)[i]? with
    | none => rw [z] at q; cases q
    | some c =>
      rw [z] at q
      cases q
      obtain ⟨hi, hc⟩ := List.getElem?_eq_some_iff.mp z
      simp at hi hc
      subst hc
      refine ⟨hi, fun v H' y => ?_⟩
      obtain ⟨rfl, rfl⟩ := y
      exact ⟨G', Stp.refl, e2, .int _⟩
  stop := fun i H G' e1 e2 q => by
    show n ≤ i
    simpa using q
@[simp] def iterD : D → Option (List D)
  | .list xs => some xs
  | .tuple xs => some xs
  | .str x => some (signsD x)
  | _ => none
@[simp] def iAny (f : EF) : AF := fun ρ => f ρ >>= fun r => li (iterD r.1) >>= fun xs => .ok (xs, r.2)
/-- a list, a tuple or a text -/
def wiAny (K : Fg) (te : TE) : TI := fun σ H R => te σ H fun x H1 => (∃ a, x = .ref a ∧ (∃ xs, SqL K H1 a xs) ∧ R (Itl K a) H1) ∨ (∃ a, x = .ref a ∧ (∃ xs, SqT K H1 a xs) ∧ R (Itt K a) H1) ∨ ∃ z, x = .str z ∧ R (Its z) H1
theorem pi_any {tg e : Expr} {te : TE} (he : PE X e te) : PI X tg e (wiAny X.K te) := by
  refine ⟨fun pins s σ H R I h => ?_⟩
  refine thn (he.run pins s σ H _ I h) fun v s1 ⟨x, H1, I1, r1, q1⟩ => ?_
  rcases q1 with ⟨a, e, ⟨xs, hq⟩, q⟩ | ⟨a, e, ⟨xs, hq⟩, q⟩ | ⟨z, e, q⟩
  · subst e
    cases r1
    obtain ⟨its, rv, p, hz⟩ := I1.list hq
    refine wpAny_pyIter_list p.isList ?_
    refine ⟨s1.heap.objs.size, [s1.heap.objs.size], _, _, H1, rfl, I1.kept (t' := s1.toks) fun b o e => Heap.get?_push_of_some _ e, turn_list a _, ⟨_, Heap.get?_push_size _ rfl, rfl, rfl⟩, fun b hb => ?_, q⟩
    have e : b = s1.heap.objs.size := by simpa using hb
    subst e
    exact I1.fpOk (Nat.le_refl _) (I1.hok.fresh (Nat.le_refl _))
  · subst e
    cases r1
    obtain ⟨its, rv, p, hz⟩ := I1.tuple hq
    refine wpAny_pyIter_tuple (show s1.heap.IsTuple a its.toArray from p) ?_
    refine ⟨s1.heap.objs.size, [s1.heap.objs.size], _, _, H1, rfl, I1.kept (t' := s1.toks) fun b o e => Heap.get?_push_of_some _ e, turn_tuple a _, ⟨_, Heap.get?_push_size _ rfl, rfl, rfl⟩, fun b hb => ?_, q⟩
    have e : b = s1.heap.objs.size := by simpa using hb
    subst e
    exact I1.fpOk (Nat.le_refl _) (I1.hok.fresh (Nat.le_refl _))
  · subst e
    obtain ⟨t, rfl⟩ := r1
    cases ha : z.cps.all (· < 128)
    · exact wpAny_pyIter_wide ha (pi_one (tk := s1.toks) I1 _ (turn_str _ z t "str_iterator" (.inr rfl)) ⟨_, Heap.get?_push_size _ rfl, rfl, rfl⟩ q)
    · exact wpAny_pyIter_ascii ha (pi_one (tk := s1.toks) I1 _ (turn_str _ z t "str_ascii_iterator" (.inl rfl)) ⟨_, Heap.get?_push_size _ rfl, rfl, rfl⟩ q)
theorem id_any {tg e : Expr} {f : EF} : ED X W e f → ID X W tg e (iAny f)
  | ⟨_, p, r⟩ => ⟨_, pi_any p, fun G H σ ρ R a h => r.use a (P := QI X.K R) h fun d ρ1 v G1 H1 a1 af1 at1 h1 => by
    cases at1 with
    | lst h2 h3 => exact .inl ⟨_, rfl, ⟨_, sq_of (a1.ex _ _ h2)⟩, Wh.here (P := QI X.K R) h1 a1 _ (wk_list h2 h3)⟩
    | tup h2 h3 => exact .inr (.inl ⟨_, rfl, ⟨_, ex_t a1.ex h2⟩, Wh.here (P := QI X.K R) h1 a1 _ (wk_tup h2 h3)⟩)
    | str x hx => exact .inr (.inr ⟨_, rfl, Wh.here (P := QI X.K R) h1 a1 _ (wk_str hx)⟩)
    | _ => exact h1.elim⟩
/-- range(n), range(a, b) -/
def smallI (i : Int) : Bool := decide (-4611686018427387904 ≤ i) && decide (i < 4611686018427387904)
theorem smallI.ok {i : Int} (h : smallI i = true) : -(2 ^ 62) ≤ i ∧ i < 2 ^ 62 := by
  unfold smallI at h
  obtain ⟨h1, h2⟩ := Bool.and_eq_true_iff.mp h
  have h1 := of_decide_eq_true h1
  have h2 := of_decide_eq_true h2
  omega
@[simp] def iR1 (f : EF) : AF := fun ρ => f ρ >>= fun r => match r.1 with
  | .int n => if smallI n = true then .ok (rgL 0 n, r.2) else .bad
  | _ => .bad
@[simp] def iR2 (f g : EF) : AF := fun ρ => f ρ >>= fun a => g a.2 >>= fun b => match a.1, b.1 with
  | .int i, .int j => if (smallI i && smallI j) = true then .ok (rgL i j, b.2) else .bad
  | _, _ => .bad
theorem id_r1 {tg a : Expr} {f : EF} {p pos : Pos} (hg : Gl X "range") (hm : X.mg "range" = none) (hs : starEach [a] X.env = [(false, eval a X.env)] := by rfl) : ED X W a f → ID X W tg (.Call (.Name "range" p) [a] [] pos) (iR1 f)
  | ⟨_, q, r⟩ => ⟨_, pi_range1 hg hm (pa_cons q pa_nil hs) hs, fun G H σ ρ R a h => r.use a (P := QI X.K R) h fun d ρ1 v G1 H1 a1 af1 at1 h1 => by
    cases at1 with
    | int n =>
      by_cases c : smallI n = true
      · simp only [c, if_true] at h1
        refine ⟨n, rfl, (smallI.ok c).1, (smallI.ok c).2, Wh.here (P := QI X.K R) h1 a1 _ ?_⟩
        have := wk_range (K := X.K) (G := G1) (lo := 0) (n := n.toNat)
        unfold rgL
        rw [show n - 0 = n by omega]
        exact this
      · simp only [c] at h1
        exact h1.elim
    | _ => exact h1.elim⟩
theorem id_r2 {tg a b : Expr} {f g : EF} {p pos : Pos} (hg : Gl X "range") (hm : X.mg "range" = none) (hs : starEach [a, b] X.env = [(false, eval a X.env), (false, eval b X.env)] := by rfl) (hs2 : starEach [b] X.env = [(false, eval b X.env)] := by rfl) : ED X W a f → ED X W b g → ID X W tg (.Call (.Name "range" p) [a, b] [] pos) (iR2 f g)
  | ⟨_, q, r⟩, ⟨_, q2, r2⟩ => ⟨_, pi_range2 hg hm (pa_cons q (pa_cons q2 pa_nil hs2) (by rw [hs, hs2])) hs hs2, fun G H σ ρ R a h => r.use a (P := QI X.K R) h fun d ρ1 v G1 H1 a1 af1 at1 h1 =>
    r2.use a1 (P := QI X.K R) h1 fun d2 ρ2 v2 G2 H2 a2 af2 at2 h2 => by
      cases at1 with
      | int i =>
        cases at2 with
        | int j =>
          by_cases c : (smallI i && smallI j) = true
          · simp only [c, if_true] at h2
            obtain ⟨c1, c2⟩ := Bool.and_eq_true_iff.mp c
            exact ⟨i, j, rfl, ⟨(smallI.ok c1).1, (smallI.ok c1).2, (smallI.ok c2).1, (smallI.ok c2).2⟩, Wh.here (P := QI X.K R) h2 a2 _ wk_range⟩
          · simp only [c] at h2
            exact h2.elim
        | _ => exact h2.elim
      | _ => exact h2.elim⟩
/-- zip of two lists, of two tuples -/
@[simp] def zipD : D → D → Option (List D)
  | .list xs, .list ys => some (List.zipWith (fun a b => .tuple [a, b]) xs ys)
  | .tuple xs, .tuple ys => some (List.zipWith (fun a b => .tuple [a, b]) xs ys)
  | _, _ => none
@[simp] def iZip2 (f g : EF) : AF := fun ρ => f ρ >>= fun a => g a.2 >>= fun b => li (zipD a.1 b.1) >>= fun xs => .ok (xs, b.2)
theorem zip_get {xs ys : List D} {i : Nat} {d : D} (h : (List.zipWith (fun a b => (.tuple [a, b] : D)) xs ys)[i]? = some d) : ∃ a b, xs[i]? = some a ∧ ys[i]? = some b ∧ d = .tuple [a, b] := by
  rw [List.getElem?_zipWith] at h
  cases q1 : xs[i]? with
  | none => rw [q1] at h; simp at h
  | some a =>
    cases q2 : ys[i]? with
    | none => rw [q1, q2] at h; simp at h
    | some b =>
      rw [q1, q2] at h
      simp at h
      exact ⟨a, b, rfl, rfl, h.symm⟩
theorem pair_new {K : Fg} {G H : Hp} {T : Addr} {x y : V} {a b : D} (e : Ex G H) (hT : H T = none) (ax : At K G x a) (ay : At K G y b) : ∃ G', Stp No G H G' (upd H T (.tup [x, y])) ∧ Ex G' (upd H T (.tup [x, y])) ∧ At K G' (.ref T) (.tuple [a, b]) :=
  ⟨upd G T (.tup [x, y]), Stp.new e hT, ex_upd2 e, .tup (st_of upd_same) (.cons (ax.up (Ex.new (fresh_back e hT))) (.cons (ay.up (Ex.new (fresh_back e hT))) .nil))⟩
theorem wk_zipL {K : Fg} {G : Hp} {a b : Addr} {vs ws : List V} {xs ys : List D} (h : G a = some (.lst vs)) (av : AtL K G vs xs) (h' : G b = some (.lst ws)) (aw : AtL K G ws ys) : Wk K G (List.zipWith (fun a b => .tuple [a, b]) xs ys) (Itz K a b) where
  go := fun i d H G' e1 e2 q => by
    obtain ⟨p, r, q1, q2, rfl⟩ := zip_get q
    have hs : SqL K H a vs := sq_of (e2 _ _ (e1 _ _ h))
    have hs' : SqL K H b ws := sq_of (e2 _ _ (e1 _ _ h'))
    obtain ⟨v, g1, g2⟩ := av.get q1
    obtain ⟨w, g3, g4⟩ := aw.get q2
    refine ⟨⟨vs, ws, v, w, hs, hs', g1, g3⟩, fun x H' y => ?_⟩
    obtain ⟨T, x1, x2, rfl, nT, rfl, f1, f2⟩ := y
    have z1 := (f1 vs hs).symm.trans g1
    have z2 := (f2 ws hs').symm.trans g3
    cases z1; cases z2
    exact pair_new e2 nT (g2.up e1) (g4.up e1)
  stop := fun i H G' e1 e2 q => ⟨vs, ws, sq_of (e2 _ _ (e1 _ _ h)), sq_of (e2 _ _ (e1 _ _ h')), by
    rw [List.length_zipWith] at q
    rw [av.length, aw.length]
    omega⟩
theorem wk_zipT {K : Fg} {G : Hp} {a b : Addr} {vs ws : List V} {xs ys : List D} (h : SqT K G a vs) (av : AtL K G vs xs) (h' : SqT K G b ws) (aw : AtL K G ws ys) : Wk K G (List.zipWith (fun a b => .tuple [a, b]) xs ys) (RZ.ItzT K a b) where
  go := fun i d H G' e1 e2 q => by
    obtain ⟨p, r, q1, q2, rfl⟩ := zip_get q
    have hs : SqT K H a vs := ex_t e2 (ex_t e1 h)
    have hs' : SqT K H b ws := ex_t e2 (ex_t e1 h')
    obtain ⟨v, g1, g2⟩ := av.get q1
    obtain ⟨w, g3, g4⟩ := aw.get q2
    refine ⟨⟨vs, ws, v, w, hs, hs', g1, g3⟩, fun x H' y => ?_⟩
    obtain ⟨T, x1, x2, rfl, nT, rfl, f1, f2⟩ := y
    have z1 := (f1 vs hs).symm.trans g1
    have z2 := (f2 ws hs').symm.trans g3
    cases z1; cases z2
    exact pair_new e2 nT (g2.up e1) (g4.up e1)
  stop := fun i H G' e1 e2 q => ⟨vs, ws, ex_t e2 (ex_t e1 h), ex_t e2 (ex_t e1 h'), by
    rw [List.length_zipWith] at q
    rw [av.length, aw.length]
    omega⟩
theorem id_zip {elts : List Expr} {kk : Nat} {tpos : Pos} {a b : Expr} {f g : EF} {p pos : Pos} (hg : Gl X "zip") (hm : X.mg "zip" = none) (hs : starEach [a, b] X.env = (false, eval a X.env) :: starEach [b] X.env := by rfl) (hs2 : starEach [b] X.env = (false, eval b X.env) :: starEach [] X.env := by rfl)
    (hpl : (backTo pos (starEach [b] X.env)).any (·.1) = false := by rfl) : ED X W a f → ED X W b g → ID X W (.Tuple elts kk tpos) (.Call (.Name "zip" p) [a, b] [] pos) (iZip2 f g)
  | ⟨_, q, r⟩, ⟨_, q2, r2⟩ => ⟨_, RZ.pi_zipA hg hm (pa_cons q (pa_cons q2 pa_nil hs2) hs) hs hpl, fun G H σ ρ R a h => r.use a (P := QI X.K R) h fun d ρ1 v G1 H1 a1 af1 at1 h1 =>
    r2.use a1 (P := QI X.K R) h1 fun d2 ρ2 v2 G2 H2 a2 af2 at2 h2 => by
      have at1' := at1.up af2.st.ex
      cases at1' with
      | lst g1 g2 =>
        cases at2 with
        | lst g3 g4 => exact ⟨_, _, _, _, rfl, .inl ⟨sq_of (a2.ex _ _ g1), sq_of (a2.ex _ _ g3), Wh.here (P := QI X.K R) h2 a2 _ (wk_zipL g1 g2 g3 g4)⟩⟩
        | _ => exact h2.elim
      | tup g1 g2 =>
        cases at2 with
        | tup g3 g4 => exact ⟨_, _, _, _, rfl, .inr ⟨ex_t a2.ex g1, ex_t a2.ex g3, Wh.here (P := QI X.K R) h2 a2 _ (wk_zipT g1 g2 g3 g4)⟩⟩
        | _ => exact h2.elim
      | _ => exact h2.elim⟩
/-- enumerate of a list -/
def enumL : Nat → List D → List D
  | _, [] => []
  | i, x :: xs => .tuple [.int i, x] :: enumL (i + 1) xs
@[simp] def iEnumL (f : EF) : AF := fun ρ => f ρ >>= fun a => match a.1 with
  | .list xs => .ok (enumL 0 xs, a.2)
  | _ => .bad
theorem enum_get : ∀ {xs : List D} {k i : Nat} {d : D}, (enumL k xs)[i]? = some d → ∃ x, xs[i]? = some x ∧ d = .tuple [.int ((k + i : Nat) : Int), x]
  | [], _, _, _, h => by simp [enumL] at h
  | x :: xs, k, 0, d, h => by
    simp [enumL] at h
    exact ⟨x, rfl, h.symm⟩
  | x :: xs, k, i + 1, d, h => by
    obtain ⟨y, h1, h2⟩ := enum_get (xs := xs) (k := k + 1) (i := i) (d := d) (by simpa [enumL] using h)
    exact ⟨y, by simpa using h1, by rw [h2, show k + 1 + i = k + (i + 1) by omega]⟩
theorem enum_len : ∀ (xs : List D) (k : Nat), (enumL k xs).length = xs.length
  | [], _ => rfl
  | x :: xs, k => by simp [enumL, enum_len xs (k + 1)]
theorem id_enum {elts : List Expr} {kk : Nat} {tpos : Pos} {a : Expr} {f : EF} {p pos : Pos} (hg : Gl X "enumerate") (hm : X.mg "enumerate" = none) (hs : starEach [a] X.env = [(false, eval a X.env)] := by rfl) : ED X W a f → ID X W (.Tuple elts kk tpos) (.Call (.Name "enumerate" p) [a] [] pos) (iEnumL f)
  | ⟨_, q, r⟩ => ⟨_, pi_enum hg hm (pa_cons q pa_nil hs) hs, fun G H σ ρ R a h => r.use a (P := QI X.K R) h fun d ρ1 v G1 H1 a1 af1 at1 h1 => by
    cases at1 with
    | @lst p vs xs g1 g2 =>
      refine ⟨p, vs, rfl, sq_of (a1.ex _ _ g1), Wh.here (P := QI X.K R) h1 a1 _ ⟨fun i d H G' e1 e2 q => ?_, fun i H G' e1 e2 q => ?_⟩⟩
      · obtain ⟨x, q1, rfl⟩ := enum_get q
        have hs : SqL X.K H p vs := sq_of (e2 _ _ (e1 _ _ g1))
        obtain ⟨v, k1, k2⟩ := g2.get q1
        refine ⟨⟨vs, v, hs, k1⟩, fun y H' hy => ?_⟩
        obtain ⟨T, x1, rfl, nT, rfl, f1⟩ := hy
        have z1 := (f1 vs hs).symm.trans k1
        cases z1
        rw [show 0 + i = i by omega]
        exact pair_new e2 nT (.int _) (k2.up e1)
      · refine ⟨vs, sq_of (e2 _ _ (e1 _ _ g1)), ?_⟩
        rw [enum_len] at q
        rw [g2.length]
        exact q
    | _ => exact h1.elim⟩

/-! ### for -/
def forL (g : GF) (body : SF) : List D → SF
  | [], ρ => .ok (.nx ρ)
  | x :: xs, ρ => li (g x ρ) >>= fun ρ1 => body ρ1 >>= fun r => match r with
    | .nx ρ' => forL g body xs ρ'
    | .ct ρ' => forL g body xs ρ'
    | .bk ρ' => .ok (.nx ρ')
    | .rt d ρ' => .ok (.rt d ρ')
@[simp] def sFor (f : AF) (g : GF) (body : SF) : SF := fun ρ => f ρ >>= fun r => forL g body r.1 r.2
theorem RdI.useS {n : Nat} {wi : TI} {F : AF} (ra : RdI X W wi F) {B : Bd} {D' : Ends} {G H : Hp} {σ : L2.St} {ρ : List Sl} (e : EnS X.K B n G H σ ρ) {k : List D × List Sl → R Fl} {C : It → Hp → Prop} (h : wp (F ρ >>= k) (QS X.K B n D') (QX X.mg X.K B W))
    (c : ∀ ds ρ1 J G1 H1, EnS X.K B n G1 H1 σ ρ1 → Wk X.K G1 ds J → wp (k (ds, ρ1)) (QS X.K B n D') (QX X.mg X.K B W) → C J H1) : wi σ H C :=
  ra G H σ ρ C e.en (wp_mono (wp_bind.mp h) (fun r hr G1 H1 af J wk => c r.1 r.2 J G1 H1 (e.af af) wk hr) fun _ q => q.gv e)
theorem EnS.grow {K : Fg} {B : Bd} {n : Nat} {G H G' H' : Hp} {σ : L2.St} {ρ : List Sl} (e : EnS K B n G H σ ρ) (st : Stp No G H G' H') (x : Ex G' H') : EnS K B n G' H' σ ρ := e.af (Af.grow e.en st x)
variable {n : Nat}
theorem sd_for {is : List Nat} {tg iter : Expr} {body : List Stmt} {f : AF} {g : GF} {b : SF} {pos : Pos} (hp : PassesOwn (model X.prog X.w) X.A X.env X.xe) (hc : X.calm = true) (hs : ∀ x, foldedSetIterable iter X.env x = pure x := by intro _; rfl) :
    ID X W tg iter f → GD X is tg g → SDs X W n body b → SD X W n (.For tg iter body [] pos) (sFor f g b)
  | ⟨_, p, r⟩, ⟨_, q, s⟩, ⟨_, u, w⟩ => ⟨_, ps_for hp hc p q u hs, fun B D' G H σ ρ e h => r.useS e h fun ds ρ1 J G1 H1 e1 wk h1 => by
    refine ⟨fun i m σ H => m = ds.length - i ∧ i ≤ ds.length ∧ ∃ G ρ, Ex G1 G ∧ EnS X.K B n G H σ ρ ∧ wp (forL g b (ds.drop i) ρ) (QS X.K B n D') (QX X.mg X.K B W), ⟨ds.length, rfl, Nat.zero_le _, G1, ρ1, Ex.refl _, e1, by simpa using h1⟩, ?_⟩
    rintro i m σ H ⟨rfl, hi, G2, ρ2, x2, e2, h2⟩
    by_cases hlt : i < ds.length
    · obtain ⟨hgo, hy⟩ := wk.go i ds[i] H G2 x2 e2.en.ex (List.getElem?_eq_getElem hlt)
      refine .inr ⟨hgo, fun σ' H' => ∃ G ρ, Ex G1 G ∧ EnS X.K B n G H' σ' ρ ∧ wp (forL g b (ds.drop (i + 1)) ρ) (QS X.K B n D') (QX X.mg X.K B W), fun σ' H' ⟨G', ρ', x', e', h'⟩ => ⟨ds.length - (i + 1), by omega, rfl, hlt, G', ρ', x', e', h'⟩, fun x H' y => ?_⟩
      obtain ⟨G3, st3, x3, at3⟩ := hy x H' y
      have e3 := e2.grow st3 x3
      have h3 : wp (li (g ds[i] ρ2) >>= fun ρ1 => b ρ1 >>= fun r => match r with
        | .nx ρ' => forL g b (ds.drop (i + 1)) ρ'
        | .ct ρ' => forL g b (ds.drop (i + 1)) ρ'
        | .bk ρ' => .ok (.nx ρ')
        | .rt d ρ' => .ok (.rt d ρ')) (QS X.K B n D') (QX X.mg X.K B W) := by
        rw [List.drop_eq_getElem_cons hlt] at h2
        exact h2
      refine s G3 H' σ ρ2 x ds[i] _ e3.en at3 ?_
      cases qg : g ds[i] ρ2 with
      | none => rw [qg] at h3; exact h3.elim
      | some ρ4 =>
        rw [qg] at h3
        refine fun σ4 a4 t4 => w { B with F := G3 } _ G3 H' σ4 ρ4 ((e3.tg a4 t4).onto (Ex.refl _)) (wp_mono (wp_bind.mp h3) (fun fl hf => ?_) fun _ z => z)
        have fl3 : Ex B.F G3 := e3.fl
        have x13 : Ex G1 G3 := x2.trans st3.ex
        cases fl with
        | nx ρ' => exact fun σ' G' H' e' => ⟨G', ρ', x13.trans e'.fl, e'.onto (fl3.trans e'.fl), hf⟩
        | ct ρ' => exact fun σ' G' H' e' => ⟨G', ρ', x13.trans e'.fl, e'.onto (fl3.trans e'.fl), hf⟩
        | bk ρ' => exact fun σ' G' H' e' => hf σ' G' H' (e'.onto (fl3.trans e'.fl))
        | rt d ρ' => exact fun v σ' G' H' e' av => hf v σ' G' H' (e'.onto (fl3.trans e'.fl)) av
    · have ei : i = ds.length := by omega
      subst ei
      refine .inl ⟨wk.stop _ H G2 x2 e2.en.ex (Nat.le_refl _), ?_⟩
      rw [List.drop_length] at h2
      exact h2 σ G2 H e2⟩
end
end Pd
end

section
/-! Pd, part 9: comprehensions. -/
namespace Pd
open PySem L2 Evl PyProof.Rows

/-! ### canonical readings -/
def tE (K : Fg) (mg : Str → Option Value) (W : WX) (F : EF) : TE := fun σ H Q => ∃ G ρ, AtE K G H σ ρ ∧ wp (F ρ) (Gn K σ G H ρ (QE K Q)) (GvX mg K σ G H ρ W)
def tT (K : Fg) (mg : Str → Option Value) (W : WX) (F : TF) : TT := fun σ H Q => ∃ G ρ, AtE K G H σ ρ ∧ wp (F ρ) (Gn K σ G H ρ (QT Q)) (GvX mg K σ G H ρ W)
def tG (K : Fg) (is : List Nat) (g : GF) : TG := fun v σ H Q => ∃ G ρ d, AtE K G H σ ρ ∧ At K G v d ∧ Gt K is G H σ ρ Q (g d ρ)
section
variable {X : Cx} {W : WX}
theorem ED.can {e : Expr} {F : EF} : ED X W e F → PE X e (tE X.K X.mg W F)
  | ⟨_, p, r⟩ => ⟨fun pins s σ H Q I h => by
    obtain ⟨G, ρ, a, h⟩ := h
    exact p.run pins s σ H Q I (r G H σ ρ Q a h)⟩
theorem TD.can {e : Expr} {F : TF} : TD X W e F → PT X e (tT X.K X.mg W F)
  | ⟨_, p, r⟩ => ⟨fun pins s σ H Q I h => by
    obtain ⟨G, ρ, a, h⟩ := h
    exact p.run pins s σ H Q I (r G H σ ρ Q a h)⟩
theorem GD.can {is : List Nat} {e : Expr} {g : GF} : GD X is e g → PG X e (tG X.K is g)
  | ⟨_, p, r⟩ => ⟨fun pins s σ H v u Q I rv h => by
    obtain ⟨G, ρ, d, a, av, h⟩ := h
    exact p.run pins s σ H v u Q I rv (r G H σ ρ v d Q a av h)⟩
/-- the ifs of a comprehension -/
def TsD (X : Cx) (W : WX) (es : List Expr) (F : TF) : Prop := PTs X es (tT X.K X.mg W F)
@[simp] def tYs : TF := fun ρ => .ok (true, ρ)
theorem tsd_nil : TsD X W [] tYs := ⟨fun pins s σ H Q I h => by
  obtain ⟨G, ρ, a, h⟩ := h
  exact pts_nil.run pins s σ H Q I (Wh.here (P := QT Q) h a)⟩
theorem tsd_one {e : Expr} {F : TF} (h : TD X W e F) : TsD X W [e] F := pts_one h.can
end

/-! ### own slots wiped, and back -/
@[simp] def wipeS : List Nat → List Sl → List Sl
  | [], ρ => ρ
  | v :: vs, ρ => (wipeS vs ρ).set v .u
@[simp] def mixS : List Nat → List Sl → List Sl → List Sl
  | [], _, ρ' => ρ'
  | v :: vs, ρ, ρ' => (mixS vs ρ ρ').set v (ρ.getD v .u)
theorem wipeS_len (ρ : List Sl) : ∀ vs : List Nat, (wipeS vs ρ).length = ρ.length
  | [] => rfl
  | v :: vs => by simp [wipeS, wipeS_len ρ vs]
theorem mixS_len (ρ ρ' : List Sl) : ∀ vs : List Nat, (mixS vs ρ ρ').length = ρ'.length
  | [] => rfl
  | v :: vs => by simp [mixS, mixS_len ρ ρ' vs]
theorem wipeS_in {ρ : List Sl} {i : Nat} (hi : i < ρ.length) : ∀ {vs : List Nat}, i ∈ vs → (wipeS vs ρ)[i]? = some .u
  | v :: vs, h => by
    unfold wipeS
    by_cases e : v = i
    · subst e; rw [List.getElem?_set_self (by rw [wipeS_len]; exact hi)]
    · rw [List.getElem?_set_ne e]
      exact wipeS_in hi ((List.mem_cons.mp h).resolve_left fun z => e z.symm)
theorem wipeS_out {ρ : List Sl} {i : Nat} : ∀ {vs : List Nat}, i ∉ vs → (wipeS vs ρ)[i]? = ρ[i]?
  | [], _ => rfl
  | v :: vs, h => by
    unfold wipeS
    rw [List.getElem?_set_ne (fun z => h (by rw [z]; exact List.mem_cons_self))]
    exact wipeS_out fun z => h (List.mem_cons_of_mem _ z)
theorem mixS_in {ρ ρ' : List Sl} {i : Nat} (hi : i < ρ'.length) : ∀ {vs : List Nat}, i ∈ vs → (mixS vs ρ ρ')[i]? = some (ρ.getD i .u)
  | v :: vs, h => by
    unfold mixS
    by_cases e : v = i
    · subst e; rw [List.getElem?_set_self (by rw [mixS_len]; exact hi)]
    · rw [List.getElem?_set_ne e]
      exact mixS_in hi ((List.mem_cons.mp h).resolve_left fun z => e z.symm)
theorem mixS_out {ρ ρ' : List Sl} {i : Nat} : ∀ {vs : List Nat}, i ∉ vs → (mixS vs ρ ρ')[i]? = ρ'[i]?
  | [], _ => rfl
  | v :: vs, h => by
    unfold mixS
    rw [List.getElem?_set_ne (fun z => h (by rw [z]; exact List.mem_cons_self))]
    exact mixS_out fun z => h (List.mem_cons_of_mem _ z)
theorem wipe_in {σ : L2.St} {i : Nat} (hi : i < σ.length) : ∀ {vs : List Nat}, i ∈ vs → (wipe σ vs)[i]? = some none
  | v :: vs, h => by
    unfold wipe
    by_cases e : v = i
    · subst e; rw [List.getElem?_set_self (by rw [wipe_length]; exact hi)]
    · rw [List.getElem?_set_ne e]
      exact wipe_in hi ((List.mem_cons.mp h).resolve_left fun z => e z.symm)
theorem wipe_congr {σ τ : L2.St} {vs : List Nat} (hl : σ.length = τ.length) (h : ∀ i : Nat, i ∉ vs → σ[i]? = τ[i]?) : wipe σ vs = wipe τ vs := by
  apply List.ext_getElem?
  intro i
  by_cases hi : i ∈ vs
  · by_cases hl' : i < σ.length
    · rw [wipe_in hl' hi, wipe_in (by rw [← hl]; exact hl') hi]
    · rw [List.getElem?_eq_none (by rw [wipe_length]; omega), List.getElem?_eq_none (by rw [wipe_length]; omega)]
  · rw [wipe_out hi, wipe_out hi]
    exact h i hi
section
variable {K : Fg} {G H G' H' : Hp} {σ : L2.St} {ρ : List Sl} {vs : List Nat}
/-- no own list among these slots -/
@[simp] def noM (vs : List Nat) (ρ : List Sl) : Bool := vs.all fun v => match ρ[v]? with
  | some (.m _) => false
  | _ => true
theorem noM_ok (h : noM vs ρ = true) {v : Nat} (hv : v ∈ vs) (xs : List D) : ρ[v]? ≠ some (Sl.m xs) := fun e => by
  have := List.all_eq_true.mp h v hv
  rw [e] at this
  cases this
theorem wipeS_m (h : ∀ v ∈ vs, ∀ xs, ρ[v]? ≠ some (Sl.m xs)) (i : Nat) (xs : List D) : (wipeS vs ρ)[i]? = some (Sl.m xs) ↔ ρ[i]? = some (Sl.m xs) := by
  by_cases hi : i ∈ vs
  · refine ⟨fun z => ?_, fun z => absurd z (h i hi xs)⟩
    by_cases hl : i < ρ.length
    · rw [wipeS_in hl hi] at z; cases z
    · rw [List.getElem?_eq_none (by rw [wipeS_len]; omega)] at z; cases z
  · rw [wipeS_out hi]
theorem wipeS_m' {i : Nat} {xs : List D} (z : (wipeS vs ρ)[i]? = some (Sl.m xs)) : i ∉ vs ∧ ρ[i]? = some (Sl.m xs) := by
  by_cases hi : i ∈ vs
  · by_cases hl : i < ρ.length
    · rw [wipeS_in hl hi] at z; cases z
    · rw [List.getElem?_eq_none (by rw [wipeS_len]; omega)] at z; cases z
  · rw [wipeS_out hi] at z
    exact ⟨hi, z⟩
theorem AtE.wipe_ (a : AtE K G H σ ρ) (vs : List Nat) : AtE K G H (wipe σ vs) (wipeS vs ρ) where
  ex := a.ex
  len := by rw [wipeS_len, wipe_length]; exact a.len
  sl := fun i s e h1 h2 => by
    by_cases hi : i ∈ vs
    · by_cases hl : i < ρ.length
      · rw [wipeS_in hl hi] at h1; cases h1; exact True.intro
      · rw [List.getElem?_eq_none (by rw [wipeS_len]; omega)] at h1; cases h1
    · rw [wipeS_out hi] at h1
      rw [wipe_out hi] at h2
      exact a.sl i s e h1 h2
  dj := fun i j p xs ys h1 h2 h3 h4 => by
    obtain ⟨i1, h1⟩ := wipeS_m' h1
    obtain ⟨j1, h2⟩ := wipeS_m' h2
    rw [wipe_out i1] at h3
    rw [wipe_out j1] at h4
    exact a.dj i j p xs ys h1 h2 h3 h4
theorem Mt.wipe_ {p : Addr} (m : Mt (wipe σ vs) (wipeS vs ρ) p) : Mt σ ρ p := by
  obtain ⟨i, xs, h1, h2⟩ := m
  obtain ⟨hi, h1⟩ := wipeS_m' h1
  rw [wipe_out hi] at h2
  exact ⟨i, xs, h1, h2⟩
/-- an object that is neither data nor a slot's changes -/
theorem AtE.other {p : Addr} {o : HO} (a : AtE K G H σ ρ) (hg : G p = none) (hm : ¬ Mt σ ρ p) : AtE K G (upd H p o) σ ρ where
  ex := fun b u e => by rw [upd_ne (ne_of_none e hg)]; exact a.ex b u e
  len := a.len
  sl := fun i s e h1 h2 => by
    have q := a.sl i s e h1 h2
    cases s with
    | m xs =>
      obtain ⟨q, ws, e1, e2, e3, e4⟩ := q
      subst e1
      refine ⟨q, ws, rfl, e2, ?_, e4⟩
      rw [upd_ne fun z => hm ⟨i, xs, h1, by rw [← z]; exact h2⟩]
      exact e3
    | u => exact True.intro
    | d x => exact q
    | s ns => exact q
  dj := a.dj
end

/-! ### a comprehension -/
def lcL (g : GF) (t : TF) (f : EF) (vs : List Nat) : List D → List Sl → R (List D × List Sl)
  | [], ρ => .ok ([], ρ)
  | x :: xs, ρ => li (g x ρ) >>= fun ρ1 => t ρ1 >>= fun b => if b.1 = true then f b.2 >>= fun y => lcL g t f vs xs (wipeS vs y.2) >>= fun r => .ok (y.1 :: r.1, r.2) else lcL g t f vs xs (wipeS vs b.2)
@[simp] def noEx {α : Type} (r : R α) : R α := match r with
  | .ok a => .ok a
  | _ => .bad
@[simp] theorem noEx_ok {α : Type} (a : α) : noEx (R.ok a) = R.ok a := rfl
theorem wp_noEx {α : Type} {r : R α} {Q : α → Prop} {E E' : Xc → Prop} (h : wp (noEx r) Q E) : wp r Q E' := by
  cases r with
  | ok a => exact h
  | ex c => exact h.elim
  | bad => exact h
@[simp] def eLc0 (F : AF) (g : GF) (t : TF) (f : EF) (vs : List Nat) : AF := fun ρ => F ρ >>= fun r => if r.1.length ≤ 1000000 ∧ noM vs r.2 = true then noEx (lcL g t f vs r.1 (wipeS vs r.2)) >>= fun q => .ok (q.1, mixS vs r.2 q.2) else .bad
@[simp] def eLc (F : AF) (g : GF) (t : TF) (f : EF) (vs : List Nat) : EF := fun ρ => eLc0 F g t f vs ρ >>= fun r => .ok (.list r.1, r.2)
abbrev W0 : WX := fun _ _ _ _ => False
section
variable {X : Cx} {W : WX}
theorem RdI.use {α : Type} {σ : L2.St} {G H : Hp} {ρ : List Sl} {wi : TI} {F : AF} (ra : RdI X W wi F) (a : AtE X.K G H σ ρ) {P : α → Hp → Hp → Prop} {k : List D × List Sl → R (α × List Sl)} {C : It → Hp → Prop} (h : Wh X W σ G H ρ P (F ρ >>= k))
    (c : ∀ ds ρ1 J G1 H1, AtE X.K G1 H1 σ ρ1 → Af X.K σ G H ρ G1 H1 ρ1 → Wk X.K G1 ds J → Wh X W σ G1 H1 ρ1 P (k (ds, ρ1)) → C J H1) : wi σ H C :=
  ra G H σ ρ C a (wp_mono (wp_bind.mp h) (fun r hr G1 H1 af J wk => c r.1 r.2 J G1 H1 af.en af wk (Wh.trans hr af)) fun _ q => q)
/-- what a made list brings: at p, not yet data -/
def QN (K : Fg) (σ : L2.St) (G H : Hp) (ρ : List Sl) (Q : VK) (r : List D × List Sl) : Prop := ∀ p vs G' H', Af K σ G H ρ G' H' r.2 → H p = none → G' p = none → H' p = some (.lst vs) → AtL K G' vs r.1 → Q (.ref p) H'
/-- the state within a comprehension: D is the list that is made -/
structure LcS (K : Fg) (σ : L2.St) (ρ1 : List Sl) (G1 H1 : Hp) (D : Addr) (G2 H2 : Hp) (σ2 : L2.St) (ρ2 : List Sl) (acc : List V) : Prop where
  x : Ex G1 G2
  a : AtE K G2 H2 σ2 ρ2
  st : Stp (fun p => Mt σ ρ1 p ∨ p = D) G1 H1 G2 H2
  mt : ∀ p, Mt σ2 ρ2 p → Mt σ ρ1 p
  sh : ∀ i : Nat, (∃ xs, ρ2[i]? = some (Sl.m xs)) ↔ (∃ xs, ρ1[i]? = some (Sl.m xs))
  hd : H2 D = some (.lst acc)
  gd : G2 D = none
section
variable {K : Fg} {σ σ2 σ3 : L2.St} {ρ1 ρ2 ρ3 : List Sl} {G1 H1 G2 H2 G3 H3 : Hp} {D : Addr} {acc : List V}
theorem LcS.grow (s : LcS K σ ρ1 G1 H1 D G2 H2 σ2 ρ2 acc) (st : Stp No G2 H2 G3 H3) (e : Ex G3 H3) : LcS K σ ρ1 G1 H1 D G3 H3 σ2 ρ2 acc where
  x := s.x.trans st.ex
  a := s.a.grow st e
  st := s.st.trans st fun _ z => z.elim
  mt := s.mt
  sh := s.sh
  hd := st.fr D _ s.hd id
  gd := by
    cases q : G3 D with
    | none => rfl
    | some o => exact absurd s.gd (st.nw D (by rw [s.hd]; exact fun z => nomatch z) (by rw [q]; exact fun z => nomatch z))
theorem LcS.tg {is : List Nat} (s : LcS K σ ρ1 G1 H1 D G2 H2 σ2 ρ2 acc) (a : AtE K G2 H2 σ3 ρ3) (t : TgR is σ2 ρ2 σ3 ρ3) : LcS K σ ρ1 G1 H1 D G2 H2 σ3 ρ3 acc where
  x := s.x
  a := a
  st := s.st
  mt := fun p m => s.mt p ((t.mt p).mp m)
  sh := fun i => Iff.trans ⟨fun ⟨xs, z⟩ => ⟨xs, (t.m i xs).mp z⟩, fun ⟨xs, z⟩ => ⟨xs, (t.m i xs).mpr z⟩⟩ (s.sh i)
  hd := s.hd
  gd := s.gd
theorem LcS.af (s : LcS K σ ρ1 G1 H1 D G2 H2 σ2 ρ2 acc) (nMD : ∀ p, Mt σ ρ1 p → p ≠ D) (f : Af K σ2 G2 H2 ρ2 G3 H3 ρ3) : LcS K σ ρ1 G1 H1 D G3 H3 σ2 ρ3 acc where
  x := s.x.trans f.st.ex
  a := f.en
  st := s.st.trans f.st fun p m => .inl (.inl (s.mt p m))
  mt := fun p m => s.mt p ((f.mt p).mp m)
  sh := fun i => (f.sh i).trans (s.sh i)
  hd := f.st.fr D _ s.hd fun m => nMD D (s.mt D m) rfl
  gd := by
    cases q : G3 D with
    | none => rfl
    | some o => exact absurd s.gd (f.st.nw D (by rw [s.hd]; exact fun z => nomatch z) (by rw [q]; exact fun z => nomatch z))
theorem LcS.wipe_ {vs : List Nat} (s : LcS K σ ρ1 G1 H1 D G2 H2 σ2 ρ2 acc) (hno : ∀ v ∈ vs, ∀ xs, ρ1[v]? ≠ some (Sl.m xs)) : LcS K σ ρ1 G1 H1 D G2 H2 (wipe σ2 vs) (wipeS vs ρ2) acc where
  x := s.x
  a := s.a.wipe_ vs
  st := s.st
  mt := fun p m => s.mt p m.wipe_
  sh := fun i => by
    have hno2 : ∀ v ∈ vs, ∀ xs, ρ2[v]? ≠ some (Sl.m xs) := fun v hv xs z => by
      obtain ⟨ys, q⟩ := (s.sh v).mp ⟨xs, z⟩
      exact hno v hv ys q
    exact Iff.trans ⟨fun ⟨xs, z⟩ => ⟨xs, (wipeS_m hno2 i xs).mp z⟩, fun ⟨xs, z⟩ => ⟨xs, (wipeS_m hno2 i xs).mpr z⟩⟩ (s.sh i)
  hd := s.hd
  gd := s.gd
theorem Stp.at_ {G H : Hp} {D : Addr} {o : HO} : Stp (fun p => p = D) G H G (upd H D o) where
  ex := Ex.refl G
  nw := fun _ _ h => h
  fr := fun b u h n => by rw [upd_ne n]; exact h
  li := fun b h => by
    by_cases e : b = D
    · subst e; rw [upd_same]; exact fun z => nomatch z
    · rw [upd_ne e]; exact h
theorem LcS.app (s : LcS K σ ρ1 G1 H1 D G2 H2 σ2 ρ2 acc) (nMD : ∀ p, Mt σ ρ1 p → p ≠ D) (acc' : List V) : LcS K σ ρ1 G1 H1 D G2 (upd H2 D (.lst acc')) σ2 ρ2 acc' where
  x := s.x
  a := s.a.other s.gd fun m => nMD D (s.mt D m) rfl
  st := s.st.trans Stp.at_ fun p m => .inl (.inr m)
  mt := s.mt
  sh := s.sh
  hd := upd_same
  gd := s.gd
end
theorem lc_core {wi : TI} {F : AF} {g : GF} {t : TF} {f : EF} {vs is : List Nat} {mg : Str → Option Value} (his : ∀ i ∈ is, i ∈ vs) (r : RdI X W wi F) (G H : Hp) (σ : L2.St) (ρ : List Sl) (Q : VK) (a : AtE X.K G H σ ρ)
    (h : wp (eLc0 F g t f vs ρ) (QN X.K σ G H ρ Q) (GvX X.mg X.K σ G H ρ W)) : tLc wi (tG X.K is g) (tT X.K mg W0 t) (tE X.K mg W0 f) vs σ H Q := by
  refine r G H σ ρ _ a (wp_mono (wp_bind.mp h) (fun q hq G1 H1 af J wk => ?_) fun _ z => z)
  obtain ⟨ds, ρ1⟩ := q
  by_cases c : ds.length ≤ 1000000 ∧ noM vs ρ1 = true
  case neg =>
    simp only [if_neg c] at hq
    exact hq.elim
  simp only [if_pos c] at hq
  obtain ⟨hlen, hno⟩ := c
  have hno' : ∀ v ∈ vs, ∀ xs, ρ1[v]? ≠ some (Sl.m xs) := fun v hv => noM_ok hno hv
  have a1 : AtE X.K G1 H1 σ ρ1 := af.en
  intro D hD
  have hGD : G1 D = none := fresh_back a1.ex hD
  have nMD : ∀ p, Mt σ ρ1 p → p ≠ D := fun p m z => by
    obtain ⟨_, ws, e⟩ := a1.mtH m
    rw [z, hD] at e; cases e
  have lt_line : ∀ {n : Nat}, n < 1000001 → n < sizeLine := fun h => by rw [sizeLine_eq]; omega
  -- what is left to be done
  let Left : Nat → List Sl → List PyData → Prop := fun i ρ2 accD => wp (lcL g t f vs (ds.drop i) ρ2) (fun z => ∀ p ws G' H', Af X.K σ G H ρ G' H' (mixS vs ρ1 z.2) → H p = none → G' p = none → H' p = some (.lst ws) → AtL X.K G' ws (accD ++ z.1) → Q (.ref p) H') (fun _ => False)
  refine ⟨fun i m H2 => m = ds.length - i ∧ i ≤ ds.length ∧ ∃ G2 ρ2 acc accD, LcS X.K σ ρ1 G1 H1 D G2 H2 (wipe σ vs) ρ2 acc ∧ AtL X.K G2 acc accD ∧ accD.length ≤ i ∧ Left i ρ2 accD,
    ⟨ds.length, rfl, Nat.zero_le _, G1, wipeS vs ρ1, [], [], ⟨Ex.refl _, ?_, Stp.newH hD, fun p m => m.wipe_, fun i => ?_, upd_same, hGD⟩, .nil, Nat.le_refl _, ?_⟩, ?_⟩
  · exact (a1.wipe_ vs).other hGD fun m => nMD D m.wipe_ rfl
  · exact ⟨fun ⟨xs, z⟩ => ⟨xs, (wipeS_m hno' i xs).mp z⟩, fun ⟨xs, z⟩ => ⟨xs, (wipeS_m hno' i xs).mpr z⟩⟩
  · show wp (lcL g t f vs (ds.drop 0) _) _ _
    rw [List.drop_zero]
    exact wp_noEx (wp_mono (wp_bind.mp hq) (fun z hz => hz) fun _ z => z)
  rintro i m H2 ⟨rfl, hi, G2, ρ2, acc, accD, s2, aa, hacc, h2⟩
  by_cases hlt : i < ds.length
  · obtain ⟨hgo, hy⟩ := wk.go i ds[i] H2 G2 s2.x s2.a.ex (List.getElem?_eq_getElem hlt)
    refine .inr ⟨hgo, fun H' => ∃ G2 ρ2 acc accD, LcS X.K σ ρ1 G1 H1 D G2 H' (wipe σ vs) ρ2 acc ∧ AtL X.K G2 acc accD ∧ accD.length ≤ i + 1 ∧ Left (i + 1) ρ2 accD,
      fun H' ⟨G', ρ', ac, acD, z⟩ => ⟨ds.length - (i + 1), by omega, rfl, hlt, G', ρ', ac, acD, z⟩, fun x H' y => ?_⟩
    obtain ⟨G3, st3, x3, at3⟩ := hy x H' y
    have s3 := s2.grow st3 x3
    have h3 : wp (lcL g t f vs (ds[i] :: ds.drop (i + 1)) ρ2) (fun z => ∀ p ws G' H', Af X.K σ G H ρ G' H' (mixS vs ρ1 z.2) → H p = none → G' p = none → H' p = some (.lst ws) → AtL X.K G' ws (accD ++ z.1) → Q (.ref p) H') (fun _ => False) := by
      rw [← List.drop_eq_getElem_cons hlt]
      exact h2
    refine ⟨G3, ρ2, ds[i], s3.a, at3, ?_⟩
    simp only [lcL] at h3
    cases qg : g ds[i] ρ2 with
    | none => rw [qg] at h3; exact h3.elim
    | some ρ3 =>
      rw [qg] at h3
      intro σ3 a4 t4
      have s4 := s3.tg a4 t4
      have ew : wipe σ3 vs = wipe σ vs := wipe_congr (by rw [t4.len, wipe_length]) fun j hj => by
        rw [(t4.out j fun z => hj (his j z)).1, wipe_out hj]
      refine ⟨ew, G3, ρ3, a4, wp_mono (wp_bind.mp h3) (fun b hb G4 H4 af4 => ?_) fun _ z => z.elim⟩
      have s5 := s4.af nMD af4
      obtain ⟨b, ρ4⟩ := b
      cases b with
      | false =>
        have s6 := s5.wipe_ hno'
        rw [ew] at s6
        exact ⟨G4, _, acc, accD, s6, aa.up (st3.ex.trans af4.st.ex), by omega, hb⟩
      | true =>
        refine ⟨G4, ρ4, s5.a, wp_mono (wp_bind.mp hb) (fun yv hyv G5 H5 af5 v av => ?_) fun _ z => z.elim⟩
        have s6 := s5.af nMD af5
        have s7 := (s6.wipe_ hno').app nMD (acc ++ [v])
        rw [ew] at s7
        have aa5 := aa.up ((st3.ex.trans af4.st.ex).trans af5.st.ex)
        refine ⟨acc, s6.hd, lt_line (by rw [aa.length]; omega), G5, _, acc ++ [v], accD ++ [yv.1], s7, aa5.append (.cons av .nil), by simp; omega, ?_⟩
        exact wp_mono (wp_bind.mp hyv) (fun z hz p ws G' H' f1 f2 f3 f4 f5 => hz p ws G' H' f1 f2 f3 f4 (by simpa using f5)) fun _ z => z
  · have ei : i = ds.length := by omega
    subst ei
    refine .inl ⟨wk.stop _ H2 G2 s2.x s2.a.ex (Nat.le_refl _), ?_⟩
    have h3 : wp (lcL g t f vs [] ρ2) (fun z => ∀ p ws G' H', Af X.K σ G H ρ G' H' (mixS vs ρ1 z.2) → H p = none → G' p = none → H' p = some (.lst ws) → AtL X.K G' ws (accD ++ z.1) → Q (.ref p) H') (fun _ => False) := by
      rw [← List.drop_length (l := ds)]
      exact h2
    have lenE : ρ2.length = ρ1.length := by rw [s2.a.len, wipe_length, a1.len]
    have hH : H D = none := by
      cases q : H D with
      | none => rfl
      | some o => exact absurd hD (af.st.li D (by rw [q]; exact fun z => nomatch z))
    have mixget : ∀ j : Nat, (j ∈ vs ∧ (mixS vs ρ1 ρ2)[j]? = ρ1[j]?) ∨ (j ∉ vs ∧ (mixS vs ρ1 ρ2)[j]? = ρ2[j]?) := fun j => by
      by_cases hj : j ∈ vs
      · refine .inl ⟨hj, ?_⟩
        by_cases hl : j < ρ1.length
        · rw [mixS_in (by omega) hj, List.getElem?_eq_getElem hl, List.getD_eq_getElem?_getD, List.getElem?_eq_getElem hl]
          rfl
        · rw [List.getElem?_eq_none (by rw [mixS_len]; omega), List.getElem?_eq_none (by omega)]
      · exact .inr ⟨hj, mixS_out hj⟩
    have mixm : ∀ (j : Nat) (xs : List PyData), (mixS vs ρ1 ρ2)[j]? = some (Sl.m xs) → j ∉ vs ∧ ρ2[j]? = some (Sl.m xs) := fun j xs z => by
      rcases mixget j with ⟨h1, h2⟩ | ⟨h1, h2⟩
      · rw [h2] at z; exact absurd z (hno' j h1 xs)
      · rw [h2] at z; exact ⟨h1, z⟩
    have en : AtE X.K G2 H2 σ (mixS vs ρ1 ρ2) := ⟨s2.a.ex, by rw [mixS_len, lenE]; exact a1.len, fun j s e k1 k2 => by
      rcases mixget j with ⟨g1, g2⟩ | ⟨g1, g2⟩
      · rw [g2] at k1
        have q := a1.sl j s e k1 k2
        cases s with
        | u => exact True.intro
        | d x => obtain ⟨v, e1, e2⟩ := q; exact ⟨v, e1, e2.up s2.x⟩
        | m xs => exact absurd k1 (hno' j g1 xs)
        | s ns => obtain ⟨b, e1, e2⟩ := q; exact ⟨b, e1, ex_l s2.x e2⟩
      · rw [g2] at k1
        exact s2.a.sl j s e k1 (by rw [wipe_out g1]; exact k2), fun j k p xs ys k1 k2 k3 k4 => by
      obtain ⟨j1, k1⟩ := mixm j xs k1
      obtain ⟨j2, k2⟩ := mixm k ys k2
      exact s2.a.dj j k p xs ys k1 k2 (by rw [wipe_out j1]; exact k3) (by rw [wipe_out j2]; exact k4)⟩
    have shE : ∀ j : Nat, (∃ xs, (mixS vs ρ1 ρ2)[j]? = some (Sl.m xs)) ↔ (∃ xs, ρ1[j]? = some (Sl.m xs)) := fun j => by
      rcases mixget j with ⟨g1, g2⟩ | ⟨g1, g2⟩
      · rw [g2]
      · rw [g2]; exact s2.sh j
    have af2 : Af X.K σ G1 H1 ρ1 G2 H2 (mixS vs ρ1 ρ2) := ⟨⟨s2.x, s2.st.nw, fun b o e n => s2.st.fr b o e fun z => z.elim n (fun q => by rw [q, hD] at e; cases e), s2.st.li⟩, en, shE⟩
    exact h3 D acc G2 H2 (af.trans af2) hH s2.gd s2.hd (by simpa using aa)
/-- [elt for tg in iter if ..] as a value -/
theorem ed_lc {elt tg iter : Expr} {ifs : List Expr} {scope : Scope} {own : List (Str × Nat)} {is : List Nat} {pos : Pos} {F : AF} {g : GF} {t : TF} {f : EF} (hc : X.calm = true) (hN : X.N.Nodup) (ok : BlkOk X.N X.env.scope scope own) (his : ∀ i ∈ is, i ∈ own.map (·.2))
    (hi : ID X W tg iter F) (hg : ∀ (s : Shared) (H : Hp) (C : Addr) (cl : List (Str × Addr)) (fp : List Addr), GD (X.blk s H scope (compEnvC scope cl C X.env) fp) is tg g)
    (ht : ∀ (s : Shared) (H : Hp) (C : Addr) (cl : List (Str × Addr)) (fp : List Addr), TsD (X.blk s H scope (compEnvC scope cl C X.env) fp) W0 ifs t)
    (he : ∀ (s : Shared) (H : Hp) (C : Addr) (cl : List (Str × Addr)) (fp : List Addr), ED (X.blk s H scope (compEnvC scope cl C X.env) fp) W0 elt f) (hs : ∀ x, foldedSetIterable iter X.env x = pure x := by intro _; rfl) :
    ED X W (.ListComp elt [⟨tg, iter, ifs, 0⟩] scope pos) (eLc F g t f (own.map (·.2))) := by
  obtain ⟨wi, p, r⟩ := hi
  refine ⟨_, pe_lc (g := tG X.K is g) (tt := tT X.K X.mg W0 t) (te := tE X.K X.mg W0 f) hc hN p ok (fun s H C cl fp => (hg s H C cl fp).can) (fun s H C cl fp => ht s H C cl fp) (fun s H C cl fp => (he s H C cl fp).can) hs, fun G H σ ρ Q a h => ?_⟩
  refine lc_core his r G H σ ρ Q a (wp_mono (wp_bind.mp h) (fun q hq p vs G' H' af hp gp hh av => ?_) fun _ z => z)
  have e2 : Ex G' (upd G' p (.lst vs)) := Ex.new gp
  have ex2 : Ex (upd G' p (.lst vs)) H' := fun b u q => by
    by_cases hb : b = p
    · subst hb; rw [upd_same] at q; rw [hh]; exact q
    · rw [upd_ne hb] at q; exact af.en.ex b u q
  have st2 : Stp No G' H' (upd G' p (.lst vs)) H' → True := fun _ => True.intro
  have nm : ∀ q, Mt σ ρ q → q ≠ p := fun q m z => by
    obtain ⟨_, ws, e⟩ := a.mtH m
    rw [z, hp] at e; cases e
  have af' : Af X.K σ G H ρ (upd G' p (.lst vs)) H' q.2 := ⟨⟨af.st.ex.trans e2, fun b h1 h2 => by
      by_cases hb : b = p
      · subst hb; exact absurd hp h1
      · rw [upd_ne hb] at h2; exact af.st.nw b h1 h2, af.st.fr, af.st.li⟩, ⟨ex2, af.en.len, fun i s en h1 h2 => by
      have q1 := af.en.sl i s en h1 h2
      cases s with
      | u => exact True.intro
      | d x => obtain ⟨v, k1, k2⟩ := q1; exact ⟨v, k1, k2.up e2⟩
      | m xs =>
        obtain ⟨b, ws, k1, k2, k3, k4⟩ := q1
        subst k1
        have m1 : Mt σ ρ b := (af.mt b).mp ⟨i, xs, h1, h2⟩
        exact ⟨b, ws, rfl, by rw [upd_ne (nm b m1)]; exact k2, k3, k4.up e2⟩
      | s ns => obtain ⟨b, k1, k2⟩ := q1; exact ⟨b, k1, ex_l e2 k2⟩, af.en.dj⟩, af.sh⟩
  exact hq (upd G' p (.lst vs)) H' af' _ (.lst upd_same (av.up e2))
end
end Pd
end

section
/-! Pd, part 10: a def by its body; lists that change; while. -/
namespace Pd
open PySem L2 Evl PyProof.Rows

/-! ### a def by its body -/
@[simp] def mkFn (nN : Nat) (S : SF) : Fn := fun as => S (as ++ List.replicate (nN - as.length) .u) >>= fun fl => match fl with
  | .nx ρ => if as.length ≤ ρ.length then .ok (.none, keepM as ρ) else .bad
  | .rt d ρ => if as.length ≤ ρ.length then .ok (d, keepM as ρ) else .bad
  | _ => .bad
section
variable {K : Fg} {B : Bd} {n : Nat} {G H G' H' : Hp} {σ : L2.St} {ρ : List Sl}
theorem keepM_get {as ρ : List Sl} {i : Nat} {a : Sl} (ha : as[i]? = some a) {r : Sl} (hr : ρ[i]? = some r) : (keepM as ρ)[i]? = some (keep1 a r) := by
  unfold keepM
  rw [List.getElem?_zipWith, ha, hr]
/-- out of a body -/
theorem EnS.out (e : EnS K B n G H σ ρ) (hl : B.as.length ≤ ρ.length) : Af K B.σ B.G B.H B.as G H (keepM B.as ρ) := by
  have len : (keepM B.as ρ).length = B.as.length := by
    unfold keepM
    rw [List.length_zipWith]
    exact Nat.min_eq_left hl
  have cas : ∀ (i : Nat) (s : Sl), (keepM B.as ρ)[i]? = some s → (∃ xs ys, B.as[i]? = some (.m xs) ∧ ρ[i]? = some (.m ys) ∧ s = .m ys ∧ σ[i]? = B.σ[i]?) ∨ (B.as[i]? = some s ∧ ∀ xs, s ≠ .m xs) := fun i s h => by
    have hi : i < B.as.length := by rw [← len]; exact (List.getElem?_eq_some_iff.mp h).1
    have h1 : B.as[i]? = some B.as[i] := List.getElem?_eq_getElem hi
    have h2 : ρ[i]? = some ρ[i] := List.getElem?_eq_getElem (Nat.lt_of_lt_of_le hi hl)
    rw [keepM_get h1 h2] at h
    cases q : B.as[i] with
    | m xs =>
      rw [q] at h h1
      obtain ⟨e1, ys, e2⟩ := e.ar i xs h1
      rw [e2] at h2
      have h3 : some ρ[i] = some s := h
      have h4 : ρ[i] = Sl.m ys := (Option.some.inj h2).symm
      rw [h4] at h3
      exact .inl ⟨xs, ys, h1, e2, (Option.some.inj h3).symm, e1⟩
    | u => rw [q] at h h1; cases h; exact .inr ⟨h1, fun _ z => nomatch z⟩
    | d x => rw [q] at h h1; cases h; exact .inr ⟨h1, fun _ z => nomatch z⟩
    | s x => rw [q] at h h1; cases h; exact .inr ⟨h1, fun _ z => nomatch z⟩
  refine ⟨e.st, ⟨e.en.ex, by rw [len]; exact e.ab.len, fun i s en h1 h2 => ?_, fun i j p xs ys h1 h2 h3 h4 => ?_⟩, fun i => ?_⟩
  · rcases cas i s h1 with ⟨xs, ys, g1, g2, rfl, g4⟩ | ⟨g1, g2⟩
    · exact e.en.sl i _ en g2 (by rw [g4]; exact h2)
    · have q := e.ab.sl i s en g1 h2
      cases s with
      | u => exact True.intro
      | d x => obtain ⟨v, k1, k2⟩ := q; exact ⟨v, k1, k2.up e.st.ex⟩
      | m xs => exact absurd rfl (g2 xs)
      | s ns => obtain ⟨b, k1, k2⟩ := q; exact ⟨b, k1, ex_l e.st.ex k2⟩
  · rcases cas i _ h1 with ⟨xs', ys', g1, g2, g3, g4⟩ | ⟨g1, g2⟩
    · rcases cas j _ h2 with ⟨xs2, ys2, k1, k2, k3, k4⟩ | ⟨k1, k2⟩
      · exact e.en.dj i j p ys' ys2 g2 k2 (by rw [g4]; exact h3) (by rw [k4]; exact h4)
      · exact absurd rfl (k2 ys)
    · exact absurd rfl (g2 xs)
  · constructor
    · rintro ⟨xs, h⟩
      rcases cas i _ h with ⟨xs', ys', g1, g2, g3, g4⟩ | ⟨g1, g2⟩
      · exact ⟨xs', g1⟩
      · exact absurd rfl (g2 xs)
    · rintro ⟨xs, h⟩
      obtain ⟨_, ys, e2⟩ := e.ar i xs h
      exact ⟨ys, keepM_get h e2⟩
end
/-- the context of the body of a def that may raise -/
abbrev BX (P : Program) (w : World) (K : Fg) (mg : Str → Option Value) (base : Heap) (N : List Str) (x : Str) (scope : Scope) (f : Addr) (cdv : Value) (A : Around) (outer : List Env) (s : Shared) (H : Hp) (E : XK) : Cx := cxOf (L2.CX P w) P w K mg base N x scope f cdv A outer s H E
abbrev BW (E : XK) : WX := fun cls d _ H => E cls d H
theorem bx_takes {P : Program} {w : World} {K : Fg} {mg : Str → Option Value} {base : Heap} {N : List Str} {x : Str} {scope : Scope} {f : Addr} {cdv : Value} {A : Around} {outer : List Env} {s : Shared} {H : Hp} {E : XK} : Takes (BX P w K mg base N x scope f cdv A outer s H E) (BW E) := takes_of rfl rfl rfl rfl
theorem bx_passes {P : Program} {w : World} {K : Fg} {mg : Str → Option Value} {base : Heap} {N : List Str} {x : Str} {scope : Scope} {f : Addr} {cdv : Value} {A : Around} {outer : List Env} {s : Shared} {H : Hp} {E : XK} : PassesOwn (model P w) (BX P w K mg base N x scope f cdv A outer s H E).A (BX P w K mg base N x scope f cdv A outer s H E).env (BX P w K mg base N x scope f cdv A outer s H E).xe :=
  passes_of (X := BX P w K mg base N x scope f cdv A outer s H E) rfl
/-- every def of the text -/
theorem fnok_of {P : Program} {w : World} {K : Fg} {mg : Str → Option Value} {base : Heap} {x : Str} {params : Arguments} {body : List Stmt} {scope : Scope} {f : Addr} {fd : FuncData} {N ps : List Str} {k : Nat} {S : SF} (D : FunD K x x params body scope [] [] f fd) (sc : FnScope N ps scope)
    (hbody : ∀ (cdv : Value) (A : Around) (outer : List Env) (s : Shared) (H : Hp) (E : XK), Room k (A.deeper (envOfC x scope s.heap.objs.size f cdv)) → SDs (BX P w K mg base N x scope f cdv A outer s H E) (BW E) ps.length body S) :
    FnOk P w K mg base (L2.CX P w) (k + 1) f fd ps (spF mg K ps.length (mkFn N.length S)) := by
  refine FunD.ok D sc (fun vs H Q E h => h.1) fun cdv A outer s H vs Q E hr h => ?_
  obtain ⟨t, p, r⟩ := hbody cdv A outer s H E hr
  refine ⟨t, p, ?_⟩
  obtain ⟨hl, G, as, ae, hw⟩ := h
  have alen : as.length = ps.length := by rw [ae.len, List.length_map, hl]
  have pre : ps.length ≤ N.length := by
    have := congrArg List.length sc.pre
    rw [List.length_take] at this
    omega
  have get1 : ∀ i : Nat, i < as.length → (L2.start N vs)[i]? = (vs.map some)[i]? ∧ (as ++ List.replicate (N.length - as.length) Sl.u)[i]? = as[i]? := fun i hi => by
    unfold L2.start
    exact ⟨List.getElem?_append_left (by rw [List.length_map, hl, ← alen]; exact hi), List.getElem?_append_left hi⟩
  have get2 : ∀ (i : Nat) (s : Sl), (as ++ List.replicate (N.length - as.length) Sl.u)[i]? = some s → (i < as.length ∧ as[i]? = some s) ∨ s = .u := fun i s h => by
    by_cases hi : i < as.length
    · rw [(get1 i hi).2] at h
      exact .inl ⟨hi, h⟩
    · rw [List.getElem?_append_right (by omega)] at h
      obtain ⟨_, e⟩ := List.getElem?_eq_some_iff.mp h
      rw [List.getElem_replicate] at e
      exact .inr e.symm
  have en : AtE K G H (L2.start N vs) (as ++ List.replicate (N.length - as.length) .u) := ⟨ae.ex, by unfold L2.start; rw [List.length_append, List.length_append, List.length_map, List.length_replicate, List.length_replicate, hl, alen], fun i s e h1 h2 => by
    rcases get2 i s h1 with ⟨hi, g⟩ | g
    · rw [(get1 i hi).1] at h2
      exact ae.sl i s e g h2
    · rw [g]; exact True.intro, fun i j p xs ys h1 h2 h3 h4 => (by
    rcases get2 i _ h1 with ⟨hi, g⟩ | g
    · rcases get2 j _ h2 with ⟨hj, g'⟩ | g'
      · rw [(get1 i hi).1] at h3
        rw [(get1 j hj).1] at h4
        exact ae.dj i j p xs ys g g' h3 h4
      · exact nomatch g'
    · exact nomatch g)⟩
  have es : EnS K ⟨G, G, H, vs.map some, as⟩ ps.length G H (L2.start N vs) (as ++ List.replicate (N.length - as.length) .u) := ⟨en, Stp.refl, fun p ⟨i, xs, h1, h2⟩ => (by
    rcases get2 i _ h1 with ⟨hi, g⟩ | g
    · rw [(get1 i hi).1] at h2
      exact .inl ⟨i, xs, g, h2⟩
    · exact nomatch g), fun i xs h => (by
    have hi : i < as.length := (List.getElem?_eq_some_iff.mp h).1
    exact ⟨(get1 i hi).1, xs, (get1 i hi).2.trans h⟩), alen, ae, Ex.refl _⟩
  refine r ⟨G, G, H, vs.map some, as⟩ _ G H (L2.start N vs) _ es (wp_mono (wp_bind.mp hw) (fun fl hf => ?_) fun c hc cls dd σ' G' H' st x => hc cls dd G' H' st x)
  cases fl with
  | nx ρ' =>
    intro σ' G' H' e'
    by_cases c : as.length ≤ ρ'.length
    · simp only [c, if_true] at hf
      exact hf G' H' (e'.out c) .non .non
    · simp only [c, if_false] at hf
      exact hf.elim
  | rt d ρ' =>
    intro v σ' G' H' e' av
    by_cases c : as.length ≤ ρ'.length
    · simp only [c, if_true] at hf
      exact hf G' H' (e'.out c) v av
    · simp only [c, if_false] at hf
      exact hf.elim
  | bk ρ' => exact hf.elim
  | ct ρ' => exact hf.elim
theorem fd_of {P : Program} {w : World} {K : Fg} {mg : Str → Option Value} {base : Heap} {x : Str} {params : Arguments} {body : List Stmt} {scope : Scope} {f : Addr} {fd : FuncData} {N ps : List Str} {k : Nat} {S : SF} (D : FunD K x x params body scope [] [] f fd) (sc : FnScope N ps scope)
    (hm : mg x = some (.ref f)) (hb : Binds K fd ps [])
    (hbody : ∀ (cdv : Value) (A : Around) (outer : List Env) (s : Shared) (H : Hp) (E : XK), Room k (A.deeper (envOfC x scope s.heap.objs.size f cdv)) → SDs (BX P w K mg base N x scope f cdv A outer s H E) (BW E) ps.length body S) :
    Fd P w K mg base (k + 1) x ps.length (mkFn N.length S) := ⟨f, fd, ps, rfl, fnok_of D sc hbody, hm, D.kp, hb⟩
end Pd
end

section
/-! Pd, part 11: lists that change; while. -/
namespace Pd
open PySem L2 Evl PyProof.Rows
section
variable {K : Fg} {G H G' H' : Hp} {σ : L2.St} {ρ : List Sl}
theorem AtE.getM (a : AtE K G H σ ρ) {i : Nat} {xs : List D} (h : ρ[i]? = some (.m xs)) : ∃ p ws, σ[i]? = some (some (.ref p)) ∧ G p = none ∧ H p = some (.lst ws) ∧ AtL K G ws xs := by
  obtain ⟨e, h1, p, ws, h2, h3, h4, h5⟩ := a.at_ h
  subst h2
  exact ⟨p, ws, h1, h3, h4, h5⟩
theorem Af.mset (a : AtE K G H σ ρ) {i : Nat} {p : Addr} {xs xs' : List D} {ws' : List V} (h1 : ρ[i]? = some (.m xs)) (h2 : σ[i]? = some (some (.ref p))) (av : AtL K G ws' xs') : Af K σ G H ρ G (upd H p (.lst ws')) (ρ.set i (.m xs')) := by
  have mp : Mt σ ρ p := ⟨i, xs, h1, h2⟩
  obtain ⟨hg, ws, hh⟩ := a.mtH mp
  have hi : i < ρ.length := (List.getElem?_eq_some_iff.mp h1).1
  have ex : Ex G (upd H p (.lst ws')) := fun b u e => by rw [upd_ne (ne_of_none e hg)]; exact a.ex b u e
  have sh : ∀ j : Nat, (∃ ys, (ρ.set i (.m xs'))[j]? = some (Sl.m ys)) ↔ (∃ ys, ρ[j]? = some (Sl.m ys)) := fun j => by
    by_cases hj : j = i
    · subst hj
      rw [List.getElem?_set_self hi]
      exact ⟨fun _ => ⟨xs, h1⟩, fun _ => ⟨xs', rfl⟩⟩
    · rw [List.getElem?_set_ne (Ne.symm hj)]
  refine ⟨⟨Ex.refl G, fun _ _ h => h, fun b o e n => ?_, fun b h => ?_⟩, ⟨ex, by simpa using a.len, fun j s en k1 k2 => ?_, fun j k q ys zs k1 k2 k3 k4 => ?_⟩, sh⟩
  · rw [upd_ne fun z => n (by rw [z]; exact mp)]; exact e
  · by_cases e : b = p
    · subst e; rw [upd_same]; exact fun z => nomatch z
    · rw [upd_ne e]; exact h
  · by_cases hj : j = i
    · subst hj
      rw [List.getElem?_set_self hi] at k1
      cases k1
      rw [h2] at k2
      cases k2
      exact ⟨p, ws', rfl, hg, upd_same, av⟩
    · rw [List.getElem?_set_ne (Ne.symm hj)] at k1
      have q := a.sl j s en k1 k2
      cases s with
      | m ys =>
        obtain ⟨r, vs, e1, e2, e3, e4⟩ := q
        subst e1
        refine ⟨r, vs, rfl, e2, ?_, e4⟩
        rw [upd_ne fun z => hj (a.dj j i p ys xs k1 h1 (by rw [← z]; exact k2) h2)]
        exact e3
      | u => exact True.intro
      | d x => exact q
      | s ns => exact q
  · obtain ⟨ys', k1⟩ := (sh j).mp ⟨ys, k1⟩
    obtain ⟨zs', k2⟩ := (sh k).mp ⟨zs, k2⟩
    exact a.dj j k q ys' zs' k1 k2 k3 k4
end
section
variable {X : Cx} {W : WX} {n : Nat}
abbrev VisP (X : Cx) (x : Str) : Prop := Vis X.env.scope x

/-! ### reading -/
@[simp] def getM (i : Nat) (ρ : List Sl) : Option (List D) := match ρ[i]? with
  | some (.m xs) => some xs
  | _ => none
theorem getM_some {i : Nat} {ρ : List Sl} {xs : List D} (h : getM i ρ = some xs) : ρ[i]? = some (.m xs) := by
  unfold getM at h
  split at h
  · rename_i ys e; cases h; exact e
  · cases h
/-- x[k], x an own list -/
@[simp] def eIxM (i : Nat) (f : EF) : EF := fun ρ => li (getM i ρ) >>= fun _ => f ρ >>= fun r => li (getM i r.2) >>= fun xs => (match r.1 with
  | .int k => li (atI xs k)
  | _ => .bad) >>= fun d => .ok (d, r.2)
theorem ed_ixM (i : Nat) {x : Str} {p0 : Pos} {b : Expr} {f : EF} {pos : Pos} (hN : X.N[i]? = some x := by rfl) (hv : Vis X.env.scope x := by first | exact Or.inl rfl | exact Or.inr (Or.inl rfl) | exact Or.inr (Or.inr rfl)) (hd : (x == ("__debug__" : Str)) = false := by decide)
    (hcd : (x == ("__classdict__" : Str)) = false := by decide) (hs : PlainIx b := by intro _ _; rfl) : ED X W b f → ED X W (.Subscript (.Name x p0) b pos) (eIxM i f)
  | ⟨_, p, r⟩ => ⟨_, pe_ix ix_seq (pv i hN hv hd hcd) p hs, fun G H σ ρ Q a h => by
    cases q0 : getM i ρ with
    | none => simp only [eIxM, q0] at h; exact h.elim
    | some xs0 =>
      simp only [eIxM, q0, li_some, bind_ok] at h
      obtain ⟨q, ws, e1, e2, e3, e4⟩ := a.getM (getM_some q0)
      refine ⟨_, e1, r.use a (P := QE X.K Q) h fun d ρ1 v G1 H1 a1 af1 at1 h1 => ?_⟩
      cases q1 : getM i ρ1 with
      | none => simp only [q1] at h1; exact h1.elim
      | some xs =>
        simp only [q1, li_some, bind_ok] at h1
        obtain ⟨q', ws', g1, g2, g3, g4⟩ := a1.getM (getM_some q1)
        rw [e1] at g1
        cases g1
        cases at1 with
        | int k =>
          cases q2 : atI xs k with
          | none => simp only [q2] at h1; exact h1.elim
          | some d =>
            simp only [q2, li_some, bind_ok] at h1
            obtain ⟨w, k1, k2⟩ := atI_atl g4 q2
            exact .inl ⟨_, _, _, w, rfl, rfl, sq_of g3, k1, Wh.here (P := QE X.K Q) h1 a1 _ k2⟩
        | _ => exact h1.elim⟩
/-- len(x) -/
@[simp] def eLenM (i : Nat) : EF := fun ρ => li (getM i ρ) >>= fun xs => .ok (.int xs.length, ρ)
theorem ed_lenM (i : Nat) {x : Str} {p0 p pos : Pos} (hg : Gl X "len") (hm : X.mg "len" = none) (hN : X.N[i]? = some x := by rfl) (hv : Vis X.env.scope x := by first | exact Or.inl rfl | exact Or.inr (Or.inl rfl) | exact Or.inr (Or.inr rfl)) (hd : (x == ("__debug__" : Str)) = false := by decide)
    (hcd : (x == ("__classdict__" : Str)) = false := by decide) (he : starEach [Expr.Name x p0] X.env = (false, eval (.Name x p0) X.env) :: starEach [] X.env := by rfl) (hpl : (backTo pos (starEach [] X.env)).any (·.1) = false := by rfl) : ED X W (.Call (.Name "len" p) [.Name x p0] [] pos) (eLenM i) :=
  ⟨_, pe_callB call_len hg hm PySem.boot_len (pa_cons (pv i hN hv hd hcd) pa_nil he) (by decide) (by decide) he hpl, fun G H σ ρ Q a h => by
    cases q0 : getM i ρ with
    | none => simp only [eLenM, q0] at h; exact h.elim
    | some xs =>
      simp only [eLenM, q0, li_some, bind_ok] at h
      obtain ⟨q, ws, e1, e2, e3, e4⟩ := a.getM (getM_some q0)
      exact ⟨_, e1, _, ws.length, rfl, .inl ⟨ws, sq_of e3, rfl⟩, by rw [e4.length]; exact Wh.here (P := QE X.K Q) h a _ (.int _)⟩⟩
/-- tuple(x) -/
@[simp] def eTupM (i : Nat) : EF := fun ρ => li (getM i ρ) >>= fun xs => .ok (.tuple xs, ρ)
theorem ed_tupM (i : Nat) {x : Str} {p0 p pos : Pos} (hg : Gl X "tuple") (hm : X.mg "tuple" = none) (hN : X.N[i]? = some x := by rfl) (hv : Vis X.env.scope x := by first | exact Or.inl rfl | exact Or.inr (Or.inl rfl) | exact Or.inr (Or.inr rfl)) (hd : (x == ("__debug__" : Str)) = false := by decide)
    (hcd : (x == ("__classdict__" : Str)) = false := by decide) (he : starEach [Expr.Name x p0] X.env = (false, eval (.Name x p0) X.env) :: starEach [] X.env := by rfl) (hpl : (backTo pos (starEach [] X.env)).any (·.1) = false := by rfl) : ED X W (.Call (.Name "tuple" p) [.Name x p0] [] pos) (eTupM i) :=
  ⟨_, pe_callTy call_tuple_of hg hm PyProof.Rows.boot_tuple (pa_cons (pv i hN hv hd hcd) pa_nil he) (by decide) (by decide) he hpl, fun G H σ ρ Q a h => by
    cases q0 : getM i ρ with
    | none => simp only [eTupM, q0] at h; exact h.elim
    | some xs =>
      simp only [eTupM, q0, li_some, bind_ok] at h
      obtain ⟨q, ws, e1, e2, e3, e4⟩ := a.getM (getM_some q0)
      refine ⟨_, e1, _, ws, rfl, .inl ⟨sq_of e3, fun l hl => ?_⟩⟩
      exact h (upd G l (.tup ws)) _ (Af.grow a (Stp.new a.ex hl) (ex_upd2 a.ex)) _ (.tup (st_of upd_same) (e4.up (Ex.new (fresh_back a.ex hl))))⟩
/-- x.pop(k) -/
@[simp] def ePopM (i : Nat) (f : EF) : EF := fun ρ => li (getM i ρ) >>= fun _ => f ρ >>= fun r => li (getM i r.2) >>= fun xs => match r.1 with
  | .int k => if 0 ≤ k ∧ k < 1000000 then li (xs[k.toNat]?) >>= fun d => .ok (d, r.2.set i (.m (xs.eraseIdx k.toNat))) else .bad
  | _ => .bad
theorem AtL.erase {K : Fg} {G : Hp} : ∀ (k : Nat) {vs : List V} {ds : List D}, AtL K G vs ds → AtL K G (vs.eraseIdx k) (ds.eraseIdx k)
  | _, _, _, .nil => by simpa using AtL.nil
  | 0, _, _, .cons _ h => by simpa using h
  | k + 1, _, _, .cons h1 h2 => by simpa using AtL.cons h1 (AtL.erase k h2)
theorem ed_popM (i : Nat) {x : Str} {p0 apos cpos : Pos} {b : Expr} {f : EF} (hN : X.N[i]? = some x := by rfl) (hv : Vis X.env.scope x := by first | exact Or.inl rfl | exact Or.inr (Or.inl rfl) | exact Or.inr (Or.inr rfl)) (hd : (x == ("__debug__" : Str)) = false := by decide)
    (hcd : (x == ("__classdict__" : Str)) = false := by decide) (hbase : attributeBase (.Name x p0) "pop" X.env (eval (.Name x p0) X.env) = eval (.Name x p0) X.env := by rfl)
    (hfew : ((backTo cpos (starEach [b] X.env)).all (fun x => !x.1) && (backToKw cpos (keywordEach [] X.env)).all (fun x => x.1.isSome)
      && decide ([b].length + ([] : List Keyword).length + (if ([] : List Keyword).isEmpty then 0 else 1) < 30)) = true := by rfl)
    (hline : (apos.endLine == cpos.line) = true := by rfl) (hs : starEach [b] X.env = (false, eval b X.env) :: starEach [] X.env := by rfl) (hplain : (backTo cpos (starEach [] X.env)).any (·.1) = false := by rfl) : ED X W b f → ED X W (.Call (.Attribute (.Name x p0) "pop" apos) [b] [] cpos) (ePopM i f)
  | ⟨_, p, r⟩ => ⟨_, pe_bm PySem.F.plainAttrs_list PySem.F.slot_list_pop PySem.F.type_list_pop mt_popAt (pv i hN hv hd hcd) (pa_cons p pa_nil hs) hbase hfew hline hs hplain, fun G H σ ρ Q a h => by
    cases q0 : getM i ρ with
    | none => simp only [ePopM, q0] at h; exact h.elim
    | some xs0 =>
      simp only [ePopM, q0, li_some, bind_ok] at h
      obtain ⟨q, ws, e1, e2, e3, e4⟩ := a.getM (getM_some q0)
      refine ⟨_, e1, .inl ⟨rfl, _, sq_of e3⟩, r.use a (P := QE X.K Q) h fun d ρ1 v G1 H1 a1 af1 at1 h1 => ?_⟩
      cases q1 : getM i ρ1 with
      | none => simp only [q1] at h1; exact h1.elim
      | some xs =>
        simp only [q1, li_some, bind_ok] at h1
        obtain ⟨q', ws', g1, g2, g3, g4⟩ := a1.getM (getM_some q1)
        have g1' := g1
        rw [e1] at g1
        cases g1
        cases at1 with
        | int k =>
          by_cases c : 0 ≤ k ∧ k < 1000000
          · simp only [c, and_self, if_true] at h1
            cases q2 : xs[k.toNat]? with
            | none => simp only [q2] at h1; exact h1.elim
            | some d =>
              simp only [q2, li_some, bind_ok] at h1
              obtain ⟨w, k1, k2⟩ := g4.get q2
              have hk : k.toNat < ws'.length := (List.getElem?_eq_some_iff.mp k1).1
              refine ⟨_, ws', k, k.toNat, w, rfl, rfl, g3, by omega, by omega, PySem.StrLaws.seqIndex_nonneg c.1 (by omega), k1, ?_⟩
              exact h1 G1 _ (Af.mset a1 (getM_some q1) g1' (g4.erase k.toNat)) _ k2
          · simp only [c, if_false] at h1
            exact h1.elim
        | _ => exact h1.elim⟩

/-! ### writing -/
/-- x.append(e) -/
@[simp] def sApp (i : Nat) (f : EF) : SF := fun ρ => li (getM i ρ) >>= fun _ => f ρ >>= fun r => li (getM i r.2) >>= fun xs => if xs.length < 1000000 then .ok (.nx (r.2.set i (.m (xs ++ [r.1])))) else .bad
theorem lt_million {m : Nat} (h : m < 1000000) : m < sizeLine := by rw [sizeLine_eq]; omega
theorem sd_app (i : Nat) {x : Str} {p0 apos cpos pos : Pos} {b : Expr} {f : EF} (hN : X.N[i]? = some x := by rfl) (hv : Vis X.env.scope x := by first | exact Or.inl rfl | exact Or.inr (Or.inl rfl) | exact Or.inr (Or.inr rfl)) (hd : (x == ("__debug__" : Str)) = false := by decide)
    (hcd : (x == ("__classdict__" : Str)) = false := by decide) (hbase : attributeBase (.Name x p0) "append" X.env (eval (.Name x p0) X.env) = eval (.Name x p0) X.env := by rfl)
    (hfew : ((backTo cpos (starEach [b] X.env)).all (fun x => !x.1) && (backToKw cpos (keywordEach [] X.env)).all (fun x => x.1.isSome)
      && decide ([b].length + ([] : List Keyword).length + (if ([] : List Keyword).isEmpty then 0 else 1) < 30)) = true := by rfl)
    (hline : (apos.endLine == cpos.line) = true := by rfl) (hs : starEach [b] X.env = (false, eval b X.env) :: starEach [] X.env := by rfl) (hplain : (backTo cpos (starEach [] X.env)).any (·.1) = false := by rfl)
    (hsw : swapsWith (.Call (.Attribute (.Name x p0) "append" apos) [b] [] cpos) none pos.line X.env = pure false := by rfl) : ED X W b f → SD X W n (.Expr (.Call (.Attribute (.Name x p0) "append" apos) [b] [] cpos) pos) (sApp i f)
  | ⟨_, p, r⟩ => ⟨_, ps_expr (pe_bm PySem.F.plainAttrs_list PySem.F.slot_list_append PySem.F.type_list_append mt_append (pv i hN hv hd hcd) (pa_cons p pa_nil hs) hbase hfew hline hs hplain) hsw, fun B D' G H σ ρ e h => by
    cases q0 : getM i ρ with
    | none => simp only [sApp, q0] at h; exact h.elim
    | some xs0 =>
      simp only [sApp, q0, li_some, bind_ok] at h
      obtain ⟨q, ws, e1, e2, e3, e4⟩ := e.en.getM (getM_some q0)
      refine ⟨_, e1, .inl ⟨rfl, _, sq_of e3⟩, r.useS e h fun d ρ1 v G1 H1 es1 ex1 at1 h1 => ?_⟩
      cases q1 : getM i ρ1 with
      | none => simp only [q1] at h1; exact h1.elim
      | some xs =>
        simp only [q1, li_some, bind_ok] at h1
        obtain ⟨q', ws', g1, g2, g3, g4⟩ := es1.en.getM (getM_some q1)
        have g1' := g1
        rw [e1] at g1
        cases g1
        by_cases c : xs.length < 1000000
        · simp only [c, if_true] at h1
          refine ⟨_, ws', v, rfl, rfl, g3, by rw [g4.length]; exact lt_million c, ?_⟩
          exact h1 σ G1 _ (es1.af (Af.mset es1.en (getM_some q1) g1' (g4.append (.cons at1 .nil))))
        · simp only [c, if_false] at h1
          exact h1.elim⟩
/-- x[k] = e -/
@[simp] def sSetI (i : Nat) (fk fe : EF) : SF := fun ρ => fe ρ >>= fun a => li (getM i a.2) >>= fun _ => fk a.2 >>= fun b => li (getM i b.2) >>= fun xs => match b.1 with
  | .int k => li (ixN xs.length k) >>= fun j => .ok (.nx (b.2.set i (.m (xs.set j a.1))))
  | _ => .bad
theorem sd_setI (i : Nat) {x : Str} {p0 sp pos : Pos} {b e : Expr} {fk fe : EF} (hN : X.N[i]? = some x := by rfl) (hv : Vis X.env.scope x := by first | exact Or.inl rfl | exact Or.inr (Or.inl rfl) | exact Or.inr (Or.inr rfl)) (hd : (x == ("__debug__" : Str)) = false := by decide)
    (hcd : (x == ("__classdict__" : Str)) = false := by decide)
    (ha : ∀ v, assign (.Subscript (.Name x p0) b sp) X.env v = (do
      let ov ← holding [v] (eval (.Name x p0) X.env)
      let iv ← holding [v, ov] (eval b X.env)
      standAt sp
      holding [v, ov, iv] (setItem ov iv v)
      release [v, ov, iv] []) := by intro _; rfl)
    (hs : swapsWithSole [.Subscript (.Name x p0) b sp] e pos.line X.env = pure false := by rfl) (hw : swappedStores [.Subscript (.Name x p0) b sp] e X.env = pure none := by rfl)
    (h1 : (assignEach [.Subscript (.Name x p0) b sp] X.env).map (·.2) = [assign (.Subscript (.Name x p0) b sp) X.env] := by rfl) : ED X W b fk → ED X W e fe → SD X W n (.Assign [.Subscript (.Name x p0) b sp] e pos) (sSetI i fk fe)
  | ⟨_, p, r⟩, ⟨_, pe, re⟩ => ⟨_, ps_asg pe (pg_sub (pv i hN hv hd hcd) p set_list ha) hs hw h1, fun B D' G H σ ρ es h => re.useS es h fun d ρ1 v G1 H1 e1 ex1 at1 h1 => by
    cases q0 : getM i ρ1 with
    | none => simp only [q0] at h1; exact h1.elim
    | some xs0 =>
      simp only [q0, li_some, bind_ok] at h1
      obtain ⟨q, ws, k1, k2, k3, k4⟩ := e1.en.getM (getM_some q0)
      refine ⟨_, k1, r.useS e1 h1 fun d2 ρ2 v2 G2 H2 e2 ex2 at2 h2 => ?_⟩
      cases q1 : getM i ρ2 with
      | none => simp only [q1] at h2; exact h2.elim
      | some xs =>
        simp only [q1, li_some, bind_ok] at h2
        obtain ⟨q', ws', g1, g2, g3, g4⟩ := e2.en.getM (getM_some q1)
        have g1' := g1
        rw [k1] at g1
        cases g1
        cases at2 with
        | int k =>
          cases q2 : ixN xs.length k with
          | none => simp only [q2] at h2; exact h2.elim
          | some j =>
            simp only [q2, li_some, bind_ok] at h2
            refine ⟨_, ws', k, j, rfl, rfl, g3, by rw [g4.length]; exact q2, ?_⟩
            exact h2 σ G2 _ (e2.af (Af.mset e2.en (getM_some q1) g1' (g4.set j (at1.up ex2))))
        | _ => exact h2.elim⟩
/-! ### a list is made for a slot -/
def ND (X : Cx) (W : WX) (e : Expr) (F : AF) : Prop := ∃ t, PE X e t ∧ ∀ (G H : Hp) (σ : L2.St) (ρ : List Sl) (Q : VK), AtE X.K G H σ ρ → wp (F ρ) (QN X.K σ G H ρ Q) (GvX X.mg X.K σ G H ρ W) → t σ H Q
@[simp] def nLst (f : AF) : AF := fun ρ => f ρ >>= fun r => if r.1.length ≤ 1000 then .ok r else .bad
theorem nd_lst {es : List Expr} {f : AF} {pos : Pos} : AD X W es f → ND X W (.List es pos) (nLst f)
  | ⟨_, p, r⟩ => ⟨_, pe_lst p, fun G H σ ρ Q a h => r G H σ ρ _ a (wp_mono (wp_bind.mp h) (fun q hq G1 H1 af vs av => by
    by_cases hl : q.1.length ≤ 1000
    · simp only [hl, if_true] at hq
      refine ⟨by rw [av.length]; exact sz1000 hl, fun p hp => ?_⟩
      have hH : H p = none := by
        cases z : H p with
        | none => rfl
        | some o => exact absurd hp (af.st.li p (by rw [z]; exact fun z => nomatch z))
      have nm : ¬ Mt σ q.2 p := fun m => by
        obtain ⟨_, ws, e⟩ := af.en.mtH m
        rw [hp] at e; cases e
      have gp : G1 p = none := fresh_back af.en.ex hp
      exact hq p vs G1 (upd H1 p (.lst vs)) ⟨af.st.trans (Stp.newH (M := No) hp) fun _ z => z.elim, af.en.other gp nm, af.sh⟩ hH gp upd_same av
    · simp only [hl, if_false] at hq
      exact hq.elim) fun _ z => z)⟩
theorem nd_lc {elt tg iter : Expr} {ifs : List Expr} {scope : Scope} {own : List (Str × Nat)} {is : List Nat} {pos : Pos} {F : AF} {g : GF} {t : TF} {f : EF} (hc : X.calm = true) (hN : X.N.Nodup) (ok : BlkOk X.N X.env.scope scope own) (his : ∀ i ∈ is, i ∈ own.map (·.2))
    (hi : ID X W tg iter F) (hg : ∀ (s : Shared) (H : Hp) (C : Addr) (cl : List (Str × Addr)) (fp : List Addr), GD (X.blk s H scope (compEnvC scope cl C X.env) fp) is tg g)
    (ht : ∀ (s : Shared) (H : Hp) (C : Addr) (cl : List (Str × Addr)) (fp : List Addr), TsD (X.blk s H scope (compEnvC scope cl C X.env) fp) W0 ifs t)
    (he : ∀ (s : Shared) (H : Hp) (C : Addr) (cl : List (Str × Addr)) (fp : List Addr), ED (X.blk s H scope (compEnvC scope cl C X.env) fp) W0 elt f) (hs : ∀ x, foldedSetIterable iter X.env x = pure x := by intro _; rfl) :
    ND X W (.ListComp elt [⟨tg, iter, ifs, 0⟩] scope pos) (eLc0 F g t f (own.map (·.2))) := by
  obtain ⟨wi, p, r⟩ := hi
  exact ⟨_, pe_lc (g := tG X.K is g) (tt := tT X.K X.mg W0 t) (te := tE X.K X.mg W0 f) hc hN p ok (fun s H C cl fp => (hg s H C cl fp).can) (fun s H C cl fp => ht s H C cl fp) (fun s H C cl fp => (he s H C cl fp).can) hs, fun G H σ ρ Q a h => lc_core his r G H σ ρ Q a h⟩
/-- a slot takes a new list -/
theorem EnS.newM {K : Fg} {B : Bd} {G H G' H' : Hp} {σ : L2.St} {ρ ρ1 : List Sl} (e : EnS K B n G H σ ρ) (af : Af K σ G H ρ G' H' ρ1) {i : Nat} {p : Addr} {vs : List V} {ds : List D} (hi : i < ρ1.length) (hn : n ≤ i) (hp : H p = none) (gp : G' p = none) (hh : H' p = some (.lst vs)) (av : AtL K G' vs ds) :
    EnS K B n G' H' (σ.set i (some (.ref p))) (ρ1.set i (.m ds)) := by
  have e1 := e.af af
  have hiσ : i < σ.length := by rw [← af.en.len]; exact hi
  have get1 : ∀ j : Nat, j ≠ i → (σ.set i (some (V.ref p)))[j]? = σ[j]? ∧ (ρ1.set i (.m ds))[j]? = ρ1[j]? := fun j hj => ⟨List.getElem?_set_ne (Ne.symm hj), List.getElem?_set_ne (Ne.symm hj)⟩
  have nmt : ∀ (j : Nat) (xs : List D), ρ1[j]? = some (Sl.m xs) → σ[j]? ≠ some (some (V.ref p)) := fun j xs h1 h2 => by
    obtain ⟨_, ws, q⟩ := e.en.mtH ((af.mt p).mp ⟨j, xs, h1, h2⟩)
    rw [hp] at q; cases q
  have bp : B.H p = none := by
    cases z : B.H p with
    | none => rfl
    | some o => exact absurd hp (e.st.li p (by rw [z]; exact fun z => nomatch z))
  refine ⟨⟨af.en.ex, by simpa using af.en.len, fun j s en h1 h2 => ?_, fun j k q xs ys h1 h2 h3 h4 => ?_⟩, e1.st, fun q ⟨j, xs, h1, h2⟩ => ?_, fun j xs h => ?_, e.np, e.ab, e1.fl⟩
  · by_cases hj : j = i
    · subst hj
      rw [List.getElem?_set_self hi] at h1
      rw [List.getElem?_set_self hiσ] at h2
      cases h1; cases h2
      exact ⟨p, vs, rfl, gp, hh, av⟩
    · rw [(get1 j hj).2] at h1
      rw [(get1 j hj).1] at h2
      exact af.en.sl j s en h1 h2
  · by_cases hj : j = i
    · by_cases hk : k = i
      · rw [hj, hk]
      · rw [(get1 k hk).2] at h2
        rw [(get1 k hk).1] at h4
        rw [hj, List.getElem?_set_self hiσ] at h3
        cases h3
        exact absurd h4 (nmt k ys h2)
    · rw [(get1 j hj).2] at h1
      rw [(get1 j hj).1] at h3
      by_cases hk : k = i
      · rw [hk, List.getElem?_set_self hiσ] at h4
        cases h4
        exact absurd h3 (nmt j xs h1)
      · rw [(get1 k hk).2] at h2
        rw [(get1 k hk).1] at h4
        exact af.en.dj j k q xs ys h1 h2 h3 h4
  · by_cases hj : j = i
    · rw [hj, List.getElem?_set_self hiσ] at h2
      cases h2
      exact .inr bp
    · rw [(get1 j hj).2] at h1
      rw [(get1 j hj).1] at h2
      exact e1.fr q ⟨j, xs, h1, h2⟩
  · have hj : j ≠ i := fun z => by
      have := (List.getElem?_eq_some_iff.mp h).1
      have := e.np
      omega
    rw [(get1 j hj).1, (get1 j hj).2]
    exact e1.ar j xs h
@[simp] def sNew (i : Nat) (F : AF) : SF := fun ρ => F ρ >>= fun r => if i < r.2.length then .ok (.nx (r.2.set i (.m r.1))) else .bad
theorem sd_new (i : Nat) {x : Str} {e : Expr} {F : AF} {pos pos' : Pos} (hN : X.N.Nodup) (hn : n ≤ i := by decide) (hi : X.N[i]? = some x := by rfl) (hx : Loc X.env.scope x := by first | exact Or.inl rfl | exact Or.inr rfl) (hs : swapsWith e (some (.Name x pos')) pos.line X.env = pure false := by rfl)
    (hf : X.fn x = true ∨ X.env.scope.names.lookup x = some .local := by first | exact .inl rfl | exact .inr rfl | assumption) : ND X W e F → SD X W n (.Assign [.Name x pos'] e pos) (sNew i F)
  | ⟨_, p, r⟩ => ⟨_, ps_set hN hi hx p hs hf, fun B D' G H σ ρ es h => r G H σ ρ _ es.en (wp_mono (wp_bind.mp h) (fun q hq p vs G' H' af hp gp hh av => by
    by_cases c : i < q.2.length
    · simp only [c, if_true] at hq
      exact hq _ G' H' (es.newM af c hn hp gp hh av)
    · simp only [c, if_false] at hq
      exact hq.elim) fun _ z => z.gv es)⟩
/-- y = [.. for ..] on one line, y a local -/
theorem sd_newLc (i : Nat) {y : Str} {py : Pos} {elt tg iter : Expr} {ifs : List Expr} {scope : Scope} {own : List (Str × Nat)} {is : List Nat} {pos spos : Pos} {F : AF} {g : GF} {t : TF} {f : EF} (hc : X.calm = true) (hN : X.N.Nodup) (hyl : X.env.scope.names.lookup y = some .local)
    (hsw : swapsWith (.ListComp elt [⟨tg, iter, ifs, 0⟩] scope pos) (some (.Name y py)) spos.line X.env = pure true) (ok : BlkOk X.N X.env.scope scope own) (his : ∀ i ∈ is, i ∈ own.map (·.2))
    (hi : ID X W tg iter F) (hg : ∀ (s : Shared) (H : Hp) (C : Addr) (cl : List (Str × Addr)) (fp : List Addr), GD (X.blk s H scope (compEnvC scope cl C X.env) fp) is tg g)
    (ht : ∀ (s : Shared) (H : Hp) (C : Addr) (cl : List (Str × Addr)) (fp : List Addr), TsD (X.blk s H scope (compEnvC scope cl C X.env) fp) W0 ifs t)
    (he : ∀ (s : Shared) (H : Hp) (C : Addr) (cl : List (Str × Addr)) (fp : List Addr), ED (X.blk s H scope (compEnvC scope cl C X.env) fp) W0 elt f) (hn : n ≤ i := by decide) (hy : X.N[i]? = some y := by rfl) (hs : ∀ x, foldedSetIterable iter X.env x = pure x := by intro _; rfl) :
    SD X W n (.Assign [.Name y py] (.ListComp elt [⟨tg, iter, ifs, 0⟩] scope pos) spos) (sNew i (eLc0 F g t f (own.map (·.2)))) := by
  obtain ⟨wi, p, r⟩ := hi
  refine ⟨_, ps_setLc (i := i) (g := tG X.K is g) (tt := tT X.K X.mg W0 t) (te := tE X.K X.mg W0 f) hc hN hy hyl hsw p ok (fun s H C cl fp => (hg s H C cl fp).can) (fun s H C cl fp => ht s H C cl fp) (fun s H C cl fp => (he s H C cl fp).can) hs, fun B D' G H σ ρ es h => ?_⟩
  exact lc_core (W := W) his r G H σ ρ _ es.en (wp_mono (wp_bind.mp h) (fun q hq p vs G' H' af hp gp hh av => by
    by_cases c : i < q.2.length
    · simp only [c, if_true] at hq
      exact hq _ G' H' (es.newM af c hn hp gp hh av)
    · simp only [c, if_false] at hq
      exact hq.elim) fun _ z => z.gv es)
/-! ### a list that changed becomes data -/
@[simp] def frz (i : Nat) (ρ : List Sl) : Option (List Sl) := match ρ[i]? with
  | some (.m xs) => some (ρ.set i (.d (.list xs)))
  | _ => none
theorem EnS.frz_ {K : Fg} {B : Bd} {G H : Hp} {σ : L2.St} {ρ ρ' : List Sl} (e : EnS K B n G H σ ρ) {i : Nat} (hn : n ≤ i) (h : frz i ρ = some ρ') : ∃ G', EnS K B n G' H σ ρ' := by
  unfold frz at h
  split at h
  · rename_i xs q
    cases h
    obtain ⟨p, ws, e1, e2, e3, e4⟩ := e.en.getM q
    have hi : i < ρ.length := (List.getElem?_eq_some_iff.mp q).1
    have get1 : ∀ j : Nat, j ≠ i → (ρ.set i (.d (.list xs)))[j]? = ρ[j]? := fun j hj => List.getElem?_set_ne (Ne.symm hj)
    have nj : ∀ (j : Nat) (ys : List D), (ρ.set i (.d (.list xs)))[j]? = some (Sl.m ys) → j ≠ i ∧ ρ[j]? = some (Sl.m ys) := fun j ys z => by
      by_cases hj : j = i
      · subst hj; rw [List.getElem?_set_self hi] at z; cases z
      · exact ⟨hj, by rw [← get1 j hj]; exact z⟩
    have nB : B.H p = none := by
      rcases e.fr p ⟨i, xs, q, e1⟩ with ⟨j, ys, k1, k2⟩ | z
      · obtain ⟨k3, zs, k4⟩ := e.ar j ys k1
        have := e.en.dj j i p zs xs k4 q (by rw [k3]; exact k2) e1
        have h2 := (List.getElem?_eq_some_iff.mp k1).1
        have h3 := e.np
        omega
      · exact z
    have x2 : Ex G (upd G p (.lst ws)) := Ex.new e2
    have x3 : Ex (upd G p (.lst ws)) H := fun b u z => by
      by_cases hb : b = p
      · subst hb; rw [upd_same] at z; rw [e3]; exact z
      · rw [upd_ne hb] at z; exact e.en.ex b u z
    refine ⟨upd G p (.lst ws), ⟨x3, by simpa using e.en.len, fun j s en h1 h2 => ?_, fun j k r xs' ys' h1 h2 h3 h4 => ?_⟩, ⟨e.st.ex.trans x2, fun b h1 h2 => ?_, e.st.fr, e.st.li⟩, fun r ⟨j, ys, h1, h2⟩ => ?_, fun j ys h1 => ?_, e.np, e.ab, e.fl.trans x2⟩
    · by_cases hj : j = i
      · subst hj
        rw [List.getElem?_set_self hi] at h1
        cases h1
        rw [e1] at h2
        cases h2
        exact ⟨_, rfl, .lst upd_same (e4.up x2)⟩
      · rw [get1 j hj] at h1
        have z := e.en.sl j s en h1 h2
        cases s with
        | u => exact True.intro
        | d x => obtain ⟨v, k1, k2⟩ := z; exact ⟨v, k1, k2.up x2⟩
        | m ys =>
          obtain ⟨r, vs, k1, k2, k3, k4⟩ := z
          subst k1
          exact ⟨r, vs, rfl, by rw [upd_ne fun y => hj (e.en.dj j i p ys xs h1 q (by rw [← y]; exact h2) e1)]; exact k2, k3, k4.up x2⟩
        | s ns => obtain ⟨b, k1, k2⟩ := z; exact ⟨b, k1, ex_l x2 k2⟩
    · exact e.en.dj j k r xs' ys' (nj j xs' h1).2 (nj k ys' h2).2 h3 h4
    · by_cases hb : b = p
      · subst hb; exact absurd nB h1
      · rw [upd_ne hb] at h2; exact e.st.nw b h1 h2
    · exact e.fr r ⟨j, ys, (nj j ys h1).2, h2⟩
    · have hj : j ≠ i := fun z => by
        have := (List.getElem?_eq_some_iff.mp h1).1
        have := e.np
        omega
      obtain ⟨k1, zs, k2⟩ := e.ar j ys h1
      exact ⟨k1, zs, by rw [get1 j hj]; exact k2⟩
  · cases h
@[simp] def sFz (i : Nat) (f : SF) : SF := fun ρ => li (frz i ρ) >>= f
theorem sds_fz (i : Nat) {ss : List Stmt} {f : SF} (hn : n ≤ i := by decide) : SDs X W n ss f → SDs X W n ss (sFz i f)
  | ⟨t, p, r⟩ => ⟨t, p, fun B D' G H σ ρ e h => by
    unfold sFz at h
    cases q : frz i ρ with
    | none => rw [q] at h; exact h.elim
    | some ρ' =>
      rw [q] at h
      obtain ⟨G', e'⟩ := e.frz_ hn q
      exact r B D' G' H σ ρ' e' h⟩
end
end Pd
end

section
/-! Pd, part 12: the script; defs that give a new list; the law's end. -/
namespace Pd
open PySem L2 Evl PyProof.Rows
section
variable {X : Cx} {W : WX} {n : Nat}
/-- list(script) -/
@[simp] def getS (i : Nat) (ρ : List Sl) : Option (List Int) := match ρ[i]? with
  | some (.s ns) => some ns
  | _ => none
theorem getS_some {i : Nat} {ρ : List Sl} {xs : List Int} (h : getS i ρ = some xs) : ρ[i]? = some (.s xs) := by
  unfold getS at h
  split at h
  · rename_i ys e; cases h; exact e
  · cases h
@[simp] def eListS (i : Nat) : EF := fun ρ => li (getS i ρ) >>= fun ns => .ok (.list (ns.map PyData.int), ρ)
theorem ed_listS (i : Nat) {x : Str} {p0 p pos : Pos} (hg : Gl X "list") (hm : X.mg "list" = none) (hN : X.N[i]? = some x := by rfl) (hv : Vis X.env.scope x := by first | exact Or.inl rfl | exact Or.inr (Or.inl rfl) | exact Or.inr (Or.inr rfl)) (hd : (x == ("__debug__" : Str)) = false := by decide)
    (hcd : (x == ("__classdict__" : Str)) = false := by decide) (he : starEach [Expr.Name x p0] X.env = (false, eval (.Name x p0) X.env) :: starEach [] X.env := by rfl) (hpl : (backTo pos (starEach [] X.env)).any (·.1) = false := by rfl) : ED X W (.Call (.Name "list" p) [.Name x p0] [] pos) (eListS i) :=
  ⟨_, pe_callTy call_list_of hg hm PyProof.Rows.boot_list (pa_cons (pv i hN hv hd hcd) pa_nil he) (by decide) (by decide) he hpl, fun G H σ ρ Q a h => by
    cases q0 : getS i ρ with
    | none => simp only [eListS, q0] at h; exact h.elim
    | some ns =>
      simp only [eListS, q0, li_some, bind_ok] at h
      obtain ⟨e, e1, b, e2, e3⟩ := a.at_ (getS_some q0)
      subst e2
      refine ⟨_, e1, b, ns.map V.int, rfl, .inl (ex_l a.ex e3), fun l hl => ?_⟩
      exact h (upd G l (.lst (ns.map V.int))) _ (Af.grow a (Stp.new a.ex hl) (ex_upd2 a.ex)) _ (.lst upd_same (at_ints ns))⟩

/-! ### defs that give a new list -/
abbrev FnL := List Sl → R (List D × List Sl)
def spN (mg : Str → Option Value) (K : Fg) (n : Nat) (F : FnL) : Sp := fun vs H Q E => vs.length = n ∧ ∃ G as, AtE K G H (vs.map some) as ∧
  wp (F as) (QN K (vs.map some) G H as Q) (fun c => ∀ cls dd G' H', Stp (Mt (vs.map some) as) G H G' H' → AtX mg K G' H' c cls dd → E cls dd H')
structure FdN (P : Program) (w : World) (K : Fg) (mg : Str → Option Value) (base : Heap) (k : Nat) (x : Str) (n : Nat) (F : FnL) : Prop where
  h : ∃ f fd ps, ps.length = n ∧ FnOk P w K mg base (L2.CX P w) k f fd ps (spN mg K n F) ∧ mg x = some (.ref f) ∧ PySem.W.keepIn K (.ref f) = true ∧ Binds K fd ps []
@[simp] def nUser (n : Nat) (F : FnL) (g : CF) : AF := fun ρ => g ρ >>= fun a => if a.1.length = n ∧ (arIx a.1).Nodup then li (arSl a.2 a.1) >>= fun sls => F sls >>= fun r => li (back a.2 a.1 r.2) >>= fun ρ2 => .ok (r.1, ρ2) else .bad
theorem nd_call {k j n : Nat} {x : Str} {F : FnL} {e : Expr} {es : List Expr} {g : CF} {p pos : Pos} (c : FdN X.prog X.w X.K X.mg X.base k x n F) (hr : Room j X.A) (tk : Takes X W) (hg : Gl X x) (hk : k ≤ j := by decide) (hdb : (x == ("__debug__" : Str)) = false := by decide)
    (he : starEach (e :: es) X.env = (false, eval e X.env) :: starEach es X.env := by rfl) (hpl : (backTo pos (starEach es X.env)).any (·.1) = false := by rfl) : CD X W (e :: es) g → ND X W (.Call (.Name x p) (e :: es) [] pos) (nUser n F g)
  | ⟨_, q, s⟩ => by
    obtain ⟨f, fd, ps, hl, FO, hm, kp, hb⟩ := c.h
    refine ⟨_, pe_callS FO (hr.mono hk) hg hm kp hb (fun σ => passAt tk σ) q hdb he hpl, fun G H σ ρ Q a h => ?_⟩
    refine s G H σ ρ _ a (wp_mono (wp_bind.mp h) (fun aq hq G1 H1 af1 vs at1 => ?_) fun _ z => z)
    obtain ⟨as, ρ1⟩ := aq
    have a1 := af1.en
    by_cases c : as.length = n ∧ (arIx as).Nodup
    · simp only [if_pos c] at hq
      cases e : arSl ρ1 as with
      | none => simp only [e] at hq; exact hq.elim
      | some ss =>
        simp only [e, li_some, bind_ok] at hq
        refine ⟨by rw [at1.length]; exact c.1, G1, ss, args_env a1 at1 e c.2, wp_mono (wp_bind.mp hq) (fun r hr p vs' G' H' af hp gp hh av => ?_) fun x hx cls dd G' H' st q => (hx.trans af1) cls dd G' H' (st.weak fun p => args_mt at1 e) q⟩
        cases eb : back ρ1 as r.2 with
        | none => rw [eb] at hr; exact hr.elim
        | some ρ2 =>
          rw [eb] at hr
          have hH : H p = none := by
            cases z : H p with
            | none => rfl
            | some o => exact absurd hp (af1.st.li p (by rw [z]; exact fun z => nomatch z))
          exact hr p vs' G' H' (af1.trans (args_back a1 at1 e c.2 af eb)) hH gp hh av
    · simp only [if_neg c] at hq
      exact hq.elim
/-- a block whose end is the return of a new list -/
def QSN (K : Fg) (B : Bd) (n : Nat) (D' : Ends) : List PyData × List Sl → Prop := fun r => ∀ p vs σ' G' H', EnS K B n G' H' σ' r.2 → B.H p = none → G' p = none → H' p = some (.lst vs) → AtL K G' vs r.1 → D'.rt (.ref p) H'
def SDsN (X : Cx) (W : WX) (n : Nat) (s : List Stmt) (F : FnL) : Prop := ∃ t, PSs X s t ∧ ∀ (B : Bd) (D' : Ends) (G H : Hp) (σ : L2.St) (ρ : List Sl), EnS X.K B n G H σ ρ → wp (F ρ) (QSN X.K B n D') (QX X.mg X.K B W) → t D' σ H
theorem sdn_ret {e : Expr} {F : AF} {pos : Pos} : ND X W e F → SDsN X W n [.Return (some e) pos] F
  | ⟨_, p, r⟩ => ⟨_, pss_one (ps_ret p), fun B D' G H σ ρ es h => r G H σ ρ _ es.en (wp_mono h (fun q hq p vs G' H' af hp gp hh av => by
    refine hq p vs σ G' H' (es.af af) ?_ gp hh av
    cases z : B.H p with
    | none => rfl
    | some o => exact absurd hp (es.st.li p (by rw [z]; exact fun z => nomatch z))) fun _ z => z.gv es)⟩
@[simp] def nSeq (f : SF) (g : FnL) : FnL := fun ρ => f ρ >>= fun r => match r with
  | .nx ρ' => g ρ'
  | _ => .bad
theorem sdn_cons {s : Stmt} {ss : List Stmt} {f : SF} {g : FnL} : SD X W n s f → SDsN X W n ss g → SDsN X W n (s :: ss) (nSeq f g)
  | ⟨_, p, r⟩, ⟨_, q, u⟩ => ⟨_, pss_cons p q, fun B D' G H σ ρ e h => r B _ G H σ ρ e (wp_mono (wp_bind.mp h) (fun fl hf => by
    cases fl with
    | nx ρ' => exact fun σ' G' H' e' => u B D' G' H' σ' ρ' e' hf
    | rt d ρ' => exact hf.elim
    | bk ρ' => exact hf.elim
    | ct ρ' => exact hf.elim) fun _ q => q)⟩
@[simp] def mkFnN (nN : Nat) (S : FnL) : FnL := fun as => S (as ++ List.replicate (nN - as.length) .u) >>= fun r => if as.length ≤ r.2.length then .ok (r.1, keepM as r.2) else .bad
/-- the environment at a body's entry -/
theorem en_start {K : Fg} {N ps : List Str} {scope : Scope} {vs : List V} {G H : Hp} {as : List Sl} (sc : FnScope N ps scope) (hl : vs.length = ps.length) (ae : AtE K G H (vs.map some) as) :
    EnS K ⟨G, G, H, vs.map some, as⟩ ps.length G H (L2.start N vs) (as ++ List.replicate (N.length - as.length) .u) := by
  have alen : as.length = ps.length := by rw [ae.len, List.length_map, hl]
  have pre : ps.length ≤ N.length := by
    have := congrArg List.length sc.pre
    rw [List.length_take] at this
    omega
  have get1 : ∀ i : Nat, i < as.length → (L2.start N vs)[i]? = (vs.map some)[i]? ∧ (as ++ List.replicate (N.length - as.length) Sl.u)[i]? = as[i]? := fun i hi => by
    unfold L2.start
    exact ⟨List.getElem?_append_left (by rw [List.length_map, hl, ← alen]; exact hi), List.getElem?_append_left hi⟩
  have get2 : ∀ (i : Nat) (s : Sl), (as ++ List.replicate (N.length - as.length) Sl.u)[i]? = some s → (i < as.length ∧ as[i]? = some s) ∨ s = .u := fun i s h => by
    by_cases hi : i < as.length
    · rw [(get1 i hi).2] at h
      exact .inl ⟨hi, h⟩
    · rw [List.getElem?_append_right (by omega)] at h
      obtain ⟨_, e⟩ := List.getElem?_eq_some_iff.mp h
      rw [List.getElem_replicate] at e
      exact .inr e.symm
  have en : AtE K G H (L2.start N vs) (as ++ List.replicate (N.length - as.length) .u) := ⟨ae.ex, by unfold L2.start; rw [List.length_append, List.length_append, List.length_map, List.length_replicate, List.length_replicate, hl, alen], fun i s e h1 h2 => by
    rcases get2 i s h1 with ⟨hi, g⟩ | g
    · rw [(get1 i hi).1] at h2
      exact ae.sl i s e g h2
    · rw [g]; exact True.intro, fun i j p xs ys h1 h2 h3 h4 => (by
    rcases get2 i _ h1 with ⟨hi, g⟩ | g
    · rcases get2 j _ h2 with ⟨hj, g'⟩ | g'
      · rw [(get1 i hi).1] at h3
        rw [(get1 j hj).1] at h4
        exact ae.dj i j p xs ys g g' h3 h4
      · exact nomatch g'
    · exact nomatch g)⟩
  exact ⟨en, Stp.refl, fun p ⟨i, xs, h1, h2⟩ => (by
    rcases get2 i _ h1 with ⟨hi, g⟩ | g
    · rw [(get1 i hi).1] at h2
      exact .inl ⟨i, xs, g, h2⟩
    · exact nomatch g), fun i xs h => (by
    have hi : i < as.length := (List.getElem?_eq_some_iff.mp h).1
    exact ⟨(get1 i hi).1, xs, (get1 i hi).2.trans h⟩), alen, ae, Ex.refl _⟩
theorem fdN_of {P : Program} {w : World} {K : Fg} {mg : Str → Option Value} {base : Heap} {x : Str} {params : Arguments} {body : List Stmt} {scope : Scope} {f : Addr} {fd : FuncData} {N ps : List Str} {k : Nat} {S : FnL} (D : FunD K x x params body scope [] [] f fd) (sc : FnScope N ps scope)
    (hm : mg x = some (.ref f)) (hb : Binds K fd ps [])
    (hbody : ∀ (cdv : Value) (A : Around) (outer : List Env) (s : Shared) (H : Hp) (E : XK), Room k (A.deeper (envOfC x scope s.heap.objs.size f cdv)) → SDsN (BX P w K mg base N x scope f cdv A outer s H E) (BW E) ps.length body S) :
    FdN P w K mg base (k + 1) x ps.length (mkFnN N.length S) := by
  refine ⟨f, fd, ps, rfl, ?_, hm, D.kp, hb⟩
  refine FunD.ok D sc (fun vs H Q E h => h.1) fun cdv A outer s H vs Q E hr h => ?_
  obtain ⟨t, p, r⟩ := hbody cdv A outer s H E hr
  refine ⟨t, p, ?_⟩
  obtain ⟨hl, G, as, ae, hw⟩ := h
  refine r ⟨G, G, H, vs.map some, as⟩ _ G H (L2.start N vs) _ (en_start sc hl ae) (wp_mono (wp_bind.mp hw) (fun q hq => ?_) fun c hc cls dd σ' G' H' st x => hc cls dd G' H' st x)
  intro p ws σ' G' H' e' hp gp hh av
  by_cases c : as.length ≤ q.2.length
  · simp only [c, if_true] at hq
    exact hq p ws G' H' (e'.out c) hp gp hh av
  · simp only [c, if_false] at hq
    exact hq.elim
end

/-! ### the law's end -/
theorem walk_ofBE {l : PySem.W.OpenLaw} {n k : Nat} {q : Program} {loose : List Str} {XP : (Str → Option Value) → Heap → Prop} {YP : World → Heap → Prop} {d : DefRec} {CX : World → CXT} {x : Str}
    (hn : l.most = some n) (hn2 : n ≤ sizeLine) (hdf : d.params.defaults = []) (hr : Room k callerA)
    (F : ∀ (w : World) (mg : Str → Option Value) (fa : Addr) (h : Heap), YP w h → h.Ns mainGlobals mg → mg d.name = some (.ref fa) →
      ∃ (K : PySem.W.Frag) (fd : FuncData) (sp : Sp), K.In h ∧ (∀ (s : Shared) (u : Value), BindsTo s fd ⟨[u], []⟩ [(x, u)]) ∧
        (∀ (H : Hp) (a : Addr) (ns : List Int), ns.length ≤ n → (∀ z ∈ ns, Builtin.Int.intBits z ≤ 1048576) → SqL K H a (ns.map V.int) → sp [.ref a] H (fun v _ => v = .bl true) fun _ _ _ => False) ∧
        ∀ base : Heap, K.In base → base.Ns mainGlobals mg → FnOk l.prog w K mg base (CX w) k fa fd [x] sp)
    (hCX : ∀ (w : World) (H : Hp) (s : Shared) (e : Value) (s' : Shared), CX w [] H s (fun _ _ _ => False) e s' → False) :
    PySem.W.WalkO q loose XP YP l.row.toRowW d [] (fun f vs => PySem.call f vs) := by
  refine Att.attach_callB hn hdf fun w s₀ s₁ mg mb fa o pm cd doc a vs ns G Y ho hd hcd hmg hobj hints hlen hbits hg => ?_
  obtain ⟨K, fd, sp, KX, hb, hsp, hF⟩ := F w mg fa _ Y G.T.g hmg
  exact law_call KX G.T.g G.T.b G.T.builtins G.T.nolimit hg hobj hints (Nat.le_trans hlen hn2) hr hF hb (fun H hO hS => hsp H a ns hlen hbits hS) fun H e s' => hCX w H s₁ e s'
/-- from a def's mirror -/
theorem sp_law {mg : Str → Option Value} {K : Fg} {F : Fn} {H : Hp} {a : Addr} {ns : List Int} (hS : SqL K H a (ns.map V.int)) (h : ∃ ρ, F [.s ns] = .ok (.bool true, ρ)) : spF mg K 1 F [.ref a] H (fun v _ => v = .bl true) fun _ _ _ => False := by
  refine ⟨rfl, H, [.s ns], ⟨Ex.refl H, rfl, fun i s e h1 h2 => ?_, fun i j p xs ys h1 => ?_⟩, ?_⟩
  · match i with
    | 0 =>
      cases h1
      cases h2
      exact ⟨a, rfl, hS⟩
    | i + 1 => simp at h1
  · match i with
    | 0 => cases h1
    | i + 1 => simp at h1
  · obtain ⟨ρ, e⟩ := h
    rw [e]
    intro G' H' af v av
    cases av
    rfl
theorem cx_none {P : Program} {w : World} {H : Hp} {s : Shared} {e : Value} {s' : Shared} (h : L2.CX P w [] H s (fun _ _ _ => False) e s') : False := by
  obtain ⟨_, _, _, _, _, _, _, _, _, _, _, _, z⟩ := h
  exact z
end Pd
end

section
/-! Pd, part 13: short rules for the generated walks. -/
namespace Pd
open PySem L2 Evl PyProof.Rows
section
variable {X : Cx} {W : WX} {n : Nat} {a b : Expr} {fa fb : EF} {pos : Pos}
theorem hu64 {k : Nat} {A : Around} (r : Room k A) : A.units + 64 < cLine := r.units
theorem hu65 {k : Nat} {A : Around} (r : Room k A) : A.units + 65 < cLine := by have := r.un; omega
theorem op2_le {K : Fg} : Op2 K (fun x y H Q => rI0 (fun i j => .bl (decide (i ≤ j))) x y H Q ∨ (∃ i j, x = .str i ∧ y = .str j ∧ Q (.bl (!decide (j.cps.toList < i.cps.toList))) H)) leD :=
  op2_ord fun x y H Q q => ⟨x, y, rfl, rfl, by rw [le_flip]; exact q⟩
theorem op2_ge {K : Fg} : Op2 K (fun x y H Q => rI0 (fun i j => .bl (decide (j ≤ i))) x y H Q ∨ (∃ i j, x = .str i ∧ y = .str j ∧ Q (.bl (!decide (i.cps.toList < j.cps.toList))) H)) geD :=
  op2_ord fun x y H Q q => ⟨x, y, rfl, rfl, by rw [le_flip]; exact q⟩
theorem op2_gt {K : Fg} : Op2 K (fun x y H Q => rI0 (fun i j => .bl (decide (j < i))) x y H Q ∨ (∃ i j, x = .str i ∧ y = .str j ∧ Q (.bl (decide (j.cps.toList < i.cps.toList))) H)) gtD :=
  op2_ord fun x y H Q q => ⟨x, y, rfl, rfl, q⟩
theorem op2_lt {K : Fg} : Op2 K (fun x y H Q => rI0 (fun i j => .bl (decide (i < j))) x y H Q ∨ (∃ i j, x = .str i ∧ y = .str j ∧ Q (.bl (decide (i.cps.toList < j.cps.toList))) H)) ltD :=
  op2_ord fun x y H Q q => ⟨x, y, rfl, rfl, q⟩
theorem op2B_le {K : Fg} : Op2B K (fun x y H Q => rI0 (fun i j => .bl (decide (i ≤ j))) x y H Q ∨ (∃ i j, x = .str i ∧ y = .str j ∧ Q (.bl (!decide (j.cps.toList < i.cps.toList))) H)) leD :=
  op2B_ord fun x y H Q q => ⟨x, y, rfl, rfl, by rw [le_flip]; exact q⟩
theorem op2B_lt {K : Fg} : Op2B K (fun x y H Q => rI0 (fun i j => .bl (decide (i < j))) x y H Q ∨ (∃ i j, x = .str i ∧ y = .str j ∧ Q (.bl (decide (i.cps.toList < j.cps.toList))) H)) ltD :=
  op2B_ord fun x y H Q q => ⟨x, y, rfl, rfl, q⟩
theorem ed_le (ha : ED X W a fa) (hb : ED X W b fb) : ED X W (.Compare a [.LtE] [b] pos) (eOp leD fa fb) := ed_cmp (op_le.or op_le_str) op2_le (nomark _) ha hb
theorem ed_gt (ha : ED X W a fa) (hb : ED X W b fb) : ED X W (.Compare a [.Gt] [b] pos) (eOp gtD fa fb) := ed_cmp (op_gt.or op_gt_str) op2_gt (nomark _) ha hb
theorem ed_ge (ha : ED X W a fa) (hb : ED X W b fb) : ED X W (.Compare a [.GtE] [b] pos) (eOp geD fa fb) := ed_cmp (op_ge.or op_ge_str) op2_ge (nomark _) ha hb
theorem ed_in (hu : X.A.units + 65 < cLine) (ha : ED X W a fa) (hb : ED X W b fb) (hm : behindInMarks .In b = false := by rfl) : ED X W (.Compare a [.In] [b] pos) (eOp inD fa fb) := ed_cmp (opr_in hu) op2_in hm ha hb
theorem ed_nin (hu : X.A.units + 65 < cLine) (ha : ED X W a fa) (hb : ED X W b fb) (hm : behindInMarks .NotIn b = false := by rfl) : ED X W (.Compare a [.NotIn] [b] pos) (eOp ninD fa fb) := ed_cmp (opr_nin hu) op2_nin hm ha hb
theorem ed_isN (ha : ED X W a fa) (hb : ED X W b fb) : ED X W (.Compare a [.Is] [b] pos) (eOp isNonD fa fb) := ed_cmp op_isN op2_isN (nomark _) ha hb
theorem ed_notN (ha : ED X W a fa) (hb : ED X W b fb) : ED X W (.Compare a [.IsNot] [b] pos) (eOp notNonD fa fb) := ed_cmp op_notN op2_notN (nomark _) ha hb
theorem ed_isB (ha : ED X W a fa) (hb : ED X W b fb) : ED X W (.Compare a [.Is] [b] pos) (eOp isBoolD fa fb) := ed_cmp op_isBl op2_isB (nomark _) ha hb
theorem ed_notB (ha : ED X W a fa) (hb : ED X W b fb) : ED X W (.Compare a [.IsNot] [b] pos) (eOp notBoolD fa fb) := ed_cmp op_notBl op2_notB (nomark _) ha hb
theorem td_eq (hu : X.A.units + 64 < cLine) (ha : ED X W a fa) (hb : ED X W b fb) : TD X W (.Compare a [.Eq] [b] pos) (tBo (eOp eqD fa fb)) := td_cmp (op_eqD hu) op2_eq (nomark _) ha hb
theorem td_ne (hu : X.A.units + 64 < cLine) (ha : ED X W a fa) (hb : ED X W b fb) : TD X W (.Compare a [.NotEq] [b] pos) (tBo (eOp neD fa fb)) := td_cmp (op_neD hu) op2_ne (nomark _) ha hb
theorem td_lt (ha : ED X W a fa) (hb : ED X W b fb) : TD X W (.Compare a [.Lt] [b] pos) (tBo (eOp ltD fa fb)) := td_cmp (op_lt.or op_lt_str) op2_lt (nomark _) ha hb
theorem td_le (ha : ED X W a fa) (hb : ED X W b fb) : TD X W (.Compare a [.LtE] [b] pos) (tBo (eOp leD fa fb)) := td_cmp (op_le.or op_le_str) op2_le (nomark _) ha hb
theorem td_gt (ha : ED X W a fa) (hb : ED X W b fb) : TD X W (.Compare a [.Gt] [b] pos) (tBo (eOp gtD fa fb)) := td_cmp (op_gt.or op_gt_str) op2_gt (nomark _) ha hb
theorem td_ge (ha : ED X W a fa) (hb : ED X W b fb) : TD X W (.Compare a [.GtE] [b] pos) (tBo (eOp geD fa fb)) := td_cmp (op_ge.or op_ge_str) op2_ge (nomark _) ha hb
theorem td_in (hu : X.A.units + 65 < cLine) (ha : ED X W a fa) (hb : ED X W b fb) (hm : behindInMarks .In b = false := by rfl) : TD X W (.Compare a [.In] [b] pos) (tBo (eOp inD fa fb)) := td_cmp (opr_in hu) op2_in hm ha hb
theorem td_nin (hu : X.A.units + 65 < cLine) (ha : ED X W a fa) (hb : ED X W b fb) (hm : behindInMarks .NotIn b = false := by rfl) : TD X W (.Compare a [.NotIn] [b] pos) (tBo (eOp ninD fa fb)) := td_cmp (opr_nin hu) op2_nin hm ha hb
theorem td_isN (ha : ED X W a fa) (hb : ED X W b fb) : TD X W (.Compare a [.Is] [b] pos) (tBo (eOp isNonD fa fb)) := td_cmp op_isN op2_isN (nomark _) ha hb
theorem td_notN (ha : ED X W a fa) (hb : ED X W b fb) : TD X W (.Compare a [.IsNot] [b] pos) (tBo (eOp notNonD fa fb)) := td_cmp op_notN op2_notN (nomark _) ha hb
theorem td_isB (ha : ED X W a fa) (hb : ED X W b fb) : TD X W (.Compare a [.Is] [b] pos) (tBo (eOp isBoolD fa fb)) := td_cmp op_isBl op2_isB (nomark _) ha hb
theorem td_notB (ha : ED X W a fa) (hb : ED X W b fb) : TD X W (.Compare a [.IsNot] [b] pos) (tBo (eOp notBoolD fa fb)) := td_cmp op_notBl op2_notB (nomark _) ha hb
/-- an expression's value as a test of its own kind: used for comparisons with a range -/
theorem rd_tB2 {t : TE} {f : EF} (r : RdE X W t f) : RdT X W (tB t) (tBo f) := fun G H σ ρ Q a h =>
  r.use a (P := QT Q) h fun d ρ1 v G1 H1 a1 af1 at1 h1 => by
    cases at1 with
    | bl b => exact ⟨b, rfl, Wh.here (P := QT Q) h1 a1⟩
    | _ => exact h1.elim
theorem pt_of_cmp {op : CmpOp} {e₁ e₂ : Expr} {t : TE} (h : PC X op e₁ e₂ t) (hm : behindInMarks op e₂ = false) : PT X (.Compare e₁ [op] [e₂] pos) (tB t) := pt_cmp h hm
theorem pc_inR {ta : TE} {t : L2.St → Hp → (Int → Int → Hp → Prop) → Prop} (ha : PE X a ta) (hb : PRg X b t) : PC X .In a b (fun σ H Q => ta σ H fun x H1 => t σ H1 fun lo hi H2 => ∃ i, x = .int i ∧ Q (.bl (decide (lo ≤ i) && decide (i < hi))) H2) :=
  ⟨fun pins s σ H Q I h => thn (ha.run pins s σ H _ I h) fun v s1 ⟨x, H1, I1, r1, q1⟩ => thn (hb pins s1 σ H1 _ I1 q1) fun u s2 ⟨r, lo, hi, t1, t2, t3, H2, e, hR, I2, q2⟩ => by
    obtain ⟨i, rfl, q⟩ := q2
    obtain ⟨tk, rfl⟩ := r1
    subst e
    show wpAny _ _ (do return Value.bool (← contains (.ref r) (.int i tk))) _ _ _
    exact wpAny_bind (range_in hR (wpAny_pure ⟨.bl _, H2, I2, rfl, q⟩))⟩
theorem pc_ninR {ta : TE} {t : L2.St → Hp → (Int → Int → Hp → Prop) → Prop} (ha : PE X a ta) (hb : PRg X b t) : PC X .NotIn a b (fun σ H Q => ta σ H fun x H1 => t σ H1 fun lo hi H2 => ∃ i, x = .int i ∧ Q (.bl (!(decide (lo ≤ i) && decide (i < hi)))) H2) :=
  ⟨fun pins s σ H Q I h => thn (ha.run pins s σ H _ I h) fun v s1 ⟨x, H1, I1, r1, q1⟩ => thn (hb pins s1 σ H1 _ I1 q1) fun u s2 ⟨r, lo, hi, t1, t2, t3, H2, e, hR, I2, q2⟩ => by
    obtain ⟨i, rfl, q⟩ := q2
    obtain ⟨tk, rfl⟩ := r1
    subst e
    show wpAny _ _ (do return Value.bool (!(← contains (.ref r) (.int i tk)))) _ _ _
    exact wpAny_bind (range_in hR (wpAny_pure ⟨.bl _, H2, I2, rfl, q⟩))⟩
theorem td_inR {f : EF} {g : RF} (hm : behindInMarks .In b = false := by rfl) : ED X W a f → RD X W b g → TD X W (.Compare a [.In] [b] pos) (tBo (eInR false f g))
  | ⟨_, p, r⟩, ⟨_, q, s⟩ => ⟨_, pt_cmp (pc_inR p q) hm, rd_tB2 fun G H σ ρ Q a h => r.use a (P := QE X.K Q) h fun d ρ1 v G1 H1 a1 af1 at1 h1 => s.use a1 (P := QE X.K Q) h1 fun lo hi ρ2 G2 H2 a2 af2 h2 => by
    cases at1 with
    | int i => exact ⟨i, rfl, Wh.here (P := QE X.K Q) h2 a2 _ (.bl _)⟩
    | _ => exact h2.elim⟩
theorem td_ninR {f : EF} {g : RF} (hm : behindInMarks .NotIn b = false := by rfl) : ED X W a f → RD X W b g → TD X W (.Compare a [.NotIn] [b] pos) (tBo (eInR true f g))
  | ⟨_, p, r⟩, ⟨_, q, s⟩ => ⟨_, pt_cmp (pc_ninR p q) hm, rd_tB2 fun G H σ ρ Q a h => r.use a (P := QE X.K Q) h fun d ρ1 v G1 H1 a1 af1 at1 h1 => s.use a1 (P := QE X.K Q) h1 fun lo hi ρ2 G2 H2 a2 af2 h2 => by
    cases at1 with
    | int i => exact ⟨i, rfl, Wh.here (P := QE X.K Q) h2 a2 _ (.bl _)⟩
    | _ => exact h2.elim⟩
/-- a <= b <= c -/
theorem td_lele {c : Expr} {fc : EF} (ha : ED X W a fa) (hb : ED X W b fb) (hc : ED X W c fc) (hm : lastMarks [.LtE, .LtE] [b, c] = false := by with_unfolding_all rfl) : TD X W (.Compare a [.LtE, .LtE] [b, c] pos) (tBo (eCh leD leD fa fb fc)) := td_ch (op_le.or op_le_str) op2B_le (op_le.or op_le_str) op2_le hm ha hb hc
theorem ed_lele {c : Expr} {fc : EF} (ha : ED X W a fa) (hb : ED X W b fb) (hc : ED X W c fc) (hm : lastMarks [.LtE, .LtE] [b, c] = false := by with_unfolding_all rfl) : ED X W (.Compare a [.LtE, .LtE] [b, c] pos) (eCh leD leD fa fb fc) := ed_ch (op_le.or op_le_str) op2B_le (op_le.or op_le_str) op2_le hm ha hb hc
theorem td_lelt {c : Expr} {fc : EF} (ha : ED X W a fa) (hb : ED X W b fb) (hc : ED X W c fc) (hm : lastMarks [.LtE, .Lt] [b, c] = false := by with_unfolding_all rfl) : TD X W (.Compare a [.LtE, .Lt] [b, c] pos) (tBo (eCh leD ltD fa fb fc)) := td_ch (op_le.or op_le_str) op2B_le (op_lt.or op_lt_str) op2_lt hm ha hb hc
theorem ed_lelt {c : Expr} {fc : EF} (ha : ED X W a fa) (hb : ED X W b fb) (hc : ED X W c fc) (hm : lastMarks [.LtE, .Lt] [b, c] = false := by with_unfolding_all rfl) : ED X W (.Compare a [.LtE, .Lt] [b, c] pos) (eCh leD ltD fa fb fc) := ed_ch (op_le.or op_le_str) op2B_le (op_lt.or op_lt_str) op2_lt hm ha hb hc
/-- y = [.. for ..] on one line, y a local, as data -/
theorem sd_setLc (i : Nat) {y : Str} {py : Pos} {elt tg iter : Expr} {ifs : List Expr} {scope : Scope} {own : List (Str × Nat)} {is : List Nat} {pos spos : Pos} {F : AF} {g : GF} {t : TF} {f : EF} (hc : X.calm = true) (hN : X.N.Nodup) (hyl : X.env.scope.names.lookup y = some .local)
    (hsw : swapsWith (.ListComp elt [⟨tg, iter, ifs, 0⟩] scope pos) (some (.Name y py)) spos.line X.env = pure true) (ok : BlkOk X.N X.env.scope scope own) (his : ∀ i ∈ is, i ∈ own.map (·.2))
    (hi : ID X W tg iter F) (hg : ∀ (s : Shared) (H : Hp) (C : Addr) (cl : List (Str × Addr)) (fp : List Addr), GD (X.blk s H scope (compEnvC scope cl C X.env) fp) is tg g)
    (ht : ∀ (s : Shared) (H : Hp) (C : Addr) (cl : List (Str × Addr)) (fp : List Addr), TsD (X.blk s H scope (compEnvC scope cl C X.env) fp) W0 ifs t)
    (he : ∀ (s : Shared) (H : Hp) (C : Addr) (cl : List (Str × Addr)) (fp : List Addr), ED (X.blk s H scope (compEnvC scope cl C X.env) fp) W0 elt f) (hy : X.N[i]? = some y := by rfl) (hs : ∀ x, foldedSetIterable iter X.env x = pure x := by intro _; rfl) :
    SD X W n (.Assign [.Name y py] (.ListComp elt [⟨tg, iter, ifs, 0⟩] scope pos) spos) (sAsg (eLc F g t f (own.map (·.2))) (setD i)) := by
  obtain ⟨wi, p, r⟩ := hi
  refine ⟨_, ps_setLc (i := i) (g := tG X.K is g) (tt := tT X.K X.mg W0 t) (te := tE X.K X.mg W0 f) hc hN hy hyl hsw p ok (fun s H C cl fp => (hg s H C cl fp).can) (fun s H C cl fp => ht s H C cl fp) (fun s H C cl fp => (he s H C cl fp).can) hs, fun B D' G H σ ρ es h => ?_⟩
  have h' : wp (eLc0 F g t f (own.map (·.2)) ρ) (fun r => wp (li (setD i (.list r.1) r.2) >>= fun ρ' => R.ok (Fl.nx ρ')) (QS X.K B n D') (QX X.mg X.K B W)) (QX X.mg X.K B W) := by
    have h2 := wp_bind.mp h
    have h3 := wp_bind.mp h2
    exact wp_mono h3 (fun _ z => z) fun _ z => z
  refine lc_core (W := W) his r G H σ ρ _ es.en (wp_mono h' (fun q hq p vs G' H' af hp gp hh av => ?_) fun _ z => z.gv es)
  cases qs : setD i (.list q.1) q.2 with
  | none => simp only [qs] at hq; exact hq.elim
  | some ρ' =>
    simp only [qs, li_some, bind_ok] at hq
    have e2 : Ex G' (upd G' p (.lst vs)) := Ex.new gp
    have ex2 : Ex (upd G' p (.lst vs)) H' := fun b u z => by
      by_cases hb : b = p
      · subst hb; rw [upd_same] at z; rw [hh]; exact z
      · rw [upd_ne hb] at z; exact af.en.ex b u z
    have nm : ∀ q, Mt σ ρ q → q ≠ p := fun q m z => by
      obtain ⟨_, ws, e⟩ := es.en.mtH m
      rw [z, hp] at e; cases e
    have af' : Af X.K σ G H ρ (upd G' p (.lst vs)) H' q.2 := ⟨⟨af.st.ex.trans e2, fun b h1 h2 => (by
        by_cases hb : b = p
        · subst hb; exact absurd hp h1
        · rw [upd_ne hb] at h2; exact af.st.nw b h1 h2), af.st.fr, af.st.li⟩, ⟨ex2, af.en.len, fun i s en h1 h2 => (by
        have q1 := af.en.sl i s en h1 h2
        cases s with
        | u => exact True.intro
        | d x => obtain ⟨v, k1, k2⟩ := q1; exact ⟨v, k1, k2.up e2⟩
        | m xs =>
          obtain ⟨b, ws, k1, k2, k3, k4⟩ := q1
          subst k1
          have m1 : Mt σ ρ b := (af.mt b).mp ⟨i, xs, h1, h2⟩
          exact ⟨b, ws, rfl, by rw [upd_ne (nm b m1)]; exact k2, k3, k4.up e2⟩
        | s ns => obtain ⟨b, k1, k2⟩ := q1; exact ⟨b, k1, ex_l e2 k2⟩), af.en.dj⟩, af.sh⟩
    obtain ⟨a', t'⟩ := setD_at (v := .ref p) af'.en (.lst upd_same (av.up e2)) qs
    exact hq _ _ H' ((es.af af').tg a' t')
end
end Pd
end

section
/-! Pd: the last part: ends for generated texts. -/
namespace Pd
open PySem L2 Evl PyProof.Rows
theorem takes0 {X : Cx} : Takes X W0 := fun _ _ x => by
  obtain ⟨_, _, _, _, _, _, _, _, _, _, _, _, _, _, _, _, z⟩ := x
  exact z.elim
/-- no promise at all -/
theorem fd_bad {P : Program} {w : World} {K : Fg} {mg : Str → Option Value} {base : Heap} {x : Str} {params : Arguments} {body : List Stmt} {scope : Scope} {f : Addr} {fd : FuncData} {ps : List Str} {k : Nat} (D : FunD K x x params body scope [] [] f fd) (hm : mg x = some (.ref f)) (hb : Binds K fd ps []) :
    Fd P w K mg base k x ps.length (fun _ => .bad) :=
  ⟨f, fd, ps, rfl, ⟨fun vs H Q E h => h.1, fun A outer s H args us vs Q E _ _ _ _ h => by
    obtain ⟨_, G, as, _, z⟩ := h
    exact z.elim⟩, hm, D.kp, hb⟩
theorem gc_str {mg : Str → Option Value} {K : Fg} {x z : Str} (h : ∃ t, mg x = some (.str z t)) (ok : okS z = true) : GC mg K x (.str z) := by
  obtain ⟨t, e⟩ := h
  exact ⟨.str z, _, e, ⟨t, rfl⟩, fun G => .str z ok⟩
theorem gc_int {mg : Str → Option Value} {K : Fg} {x : Str} {i : Int} (h : ∃ t, mg x = some (.int i t)) : GC mg K x (.int i) := by
  obtain ⟨t, e⟩ := h
  exact ⟨.int i, _, e, ⟨t, rfl⟩, fun G => .int i⟩
theorem gc_tup {mg : Str → Option Value} {K : Fg} {x : Str} {vs : List He.Dv} {ds : List D} (h : mg x = some (.ref (He.ga K x))) (ht : He.tupB K x vs = true) (ha : ∀ G, AtL K G (vs.map (He.Dv.v K)) ds) : GC mg K x (.tuple ds) :=
  ⟨.ref (He.ga K x), _, h, rfl, fun G => .tup (He.tupB_ok ht G) (ha G)⟩
/-! ### a head that looks at the module's tables too -/
abbrev AlX : Type := He.AlD × Bool
def obsX (fa : List He.Fa) (fn : List He.DefD) (xb : Fg → Bool) (K : Fg) : AlX := (He.obsD fa fn K, xb K)
def valX (fn : List He.DefD) : AlX := (He.valD fn, true)
def obsXG (n : Nat) (fa : List He.Fa) (fn : List He.DefD) (xb : Fg → Bool) (g : Addr → Option Obj) : AlX := obsX fa fn xb (He.frG g (He.asD g n))
def SaysX (fa : List He.Fa) (fn : List He.DefD) (xb : Fg → Bool) (K : Fg) : Prop := obsX fa fn xb K = valX fn
def hookX (n : Nat) (fa : List He.Fa) (fn : List He.DefD) (xb : Fg → Bool) : PySem.W.Hook where
  α := AlX
  obs := fun s => obsXG n fa fn xb s.heap.get?
  val := fun _ => valX fn
  says := fun _ h => ∃ K : Fg, K.In h ∧ SaysX fa fn xb K
  of := fun _ _ e => ⟨_, He.frG_in, e⟩
  keeps := fun _ _ _ ⟨K, hK, c⟩ k => ⟨K, PySem.W.Frag.In.keeps hK k, c⟩
theorem obsXG_eq {n : Nat} {fa : List He.Fa} {fn : List He.DefD} {xb : Fg → Bool} {g : Addr → Option Obj} {s : Shared} (h : ∀ a, g a = s.heap.get? a) : obsXG n fa fn xb g = (hookX n fa fn xb).obs s := by
  have e : g = s.heap.get? := funext h
  rw [e] <;> rfl
theorem SaysX.d {fa : List He.Fa} {fn : List He.DefD} {xb : Fg → Bool} {K : Fg} (c : SaysX fa fn xb K) : He.SaysD fa fn K := congrArg (fun z : AlX => z.1) c
theorem SaysX.b {fa : List He.Fa} {fn : List He.DefD} {xb : Fg → Bool} {K : Fg} (c : SaysX fa fn xb K) : xb K = true := congrArg (fun z : AlX => z.2) c
/-! ### a list unpacked -/
@[simp] def gUnlD (n : Nat) (gs : GFs) : GF := fun d ρ => match d with
  | .list xs => if xs.length = n then gs xs ρ else none
  | _ => none
theorem gd_unl {X : Cx} {is : List Nat} {es : List Expr} {k n : Nat} {gs : GFs} {pos : Pos} (hc : X.calm = true) (hn : (assignEach es X.env).length = n := by rfl) (hst : (assignEach es X.env).findIdx? (·.1) = none := by rfl) : GDs X is es gs → GD X is (.Tuple es k pos) (gUnlD n gs)
  | ⟨_, p, r⟩ => ⟨_, pg_unl hc p hn hst, fun G H σ ρ v d Q a av h => by
    unfold gUnlD at h
    split at h
    · rename_i xs
      by_cases c : xs.length = n
      · simp only [c, if_true] at h
        cases av with
        | lst h1 h2 => exact ⟨_, _, rfl, sq_of (a.ex _ _ h1), by rw [h2.length]; exact c, r G H σ ρ _ _ Q a h2 h⟩
      · simp only [c, if_false] at h
        exact h.elim
    · exact h.elim⟩
end Pd
end

section
/-! Pd: the mirrors of the laws' common helpers (printed by gen.py), and what they do. -/
namespace Pd
open PySem L2
def S__law_cup : FnL :=
  nSeq (sAsg (eCall absD (aCons (eOp ixD (eOp addD (eListS 0) (eLst (aCons (eC (.int 0)) (aNil)))) (eC (.int 0))) (aNil))) (setD 1)) (nLst (aCons (eIf (tBo (eOp geD (eVar 1) (eOp powD (eC (.int 10)) (eC (.int 18))))) (eOp divD (eVar 1) (eC (.int 73))) (eC (.int 0))) (aCons (eOp addD (eOp modD (eCall intOf (aCons (eOp addD (eOp mulD (eVar 1) (eC (.int 283))) (eC (.int 3907))) (aNil))) (eC (.int 2077503167))) (eC (.int 167))) (aNil))))
def m__law_cup : FnL := mkFnN 2 S__law_cup
def S__law_roll : SF :=
  sSeq (sIf (tBo (eOp gtD (eIxM 0 (eC (.int 0))) (eC (.int 0)))) (sSeq (sAsg (eOp modD (eCall intOf (aCons (eIxM 0 (eC (.int 0))) (aNil))) (eVar 1)) (setD 2)) (sSeq (sSetI 0 (eC (.int 0)) (eOp divD (eIxM 0 (eC (.int 0))) (eVar 1))) (sRet (eVar 2)))) (sNx)) (sSeq (sSetI 0 (eC (.int 1)) (eOp modD (eCall intOf (aCons (eOp addD (eOp mulD (eIxM 0 (eC (.int 1))) (eC (.int 31051))) (eC (.int 7993))) (aNil))) (eC (.int 2147483543)))) (sSeq (sAsg (eOp modD (eCall intOf (aCons (eOp mulD (eIxM 0 (eC (.int 1))) (eOp addD (eIxM 0 (eC (.int 1))) (eC (.int 229)))) (aNil))) (eC (.int 2147483587))) (setD 3)) (sRet (eOp modD (eCall intOf (aCons (eOp divD (eVar 3) (eC (.int 821))) (aNil))) (eVar 1)))))
def m__law_roll : Fn := mkFn 4 S__law_roll
def S__law_some : SF :=
  sRet (eOp ixD (eVar 1) (eUser 2 (m__law_roll) (cR 0 (cD (eCall lenD (aCons (eVar 1) (aNil))) (cNil)))))
def m__law_some : Fn := mkFn 2 S__law_some
def S__law_sort : SF :=
  sSeq (sIf (tOr' (tBo (eOp isNonD (eVar 0) (eC .none))) (tOf (eIsi "bool" (eVar 0)))) (sRet (eIf (tBo (eOp isNonD (eVar 0) (eC .none))) (eC (.int 0)) (eC (.int 1)))) (sNx)) (sSeq (sIf (tOr' (tOf (eIsi "int" (eVar 0))) (tOf (eIsi "str" (eVar 0)))) (sRet (eIf (tOf (eIsi "int" (eVar 0))) (eC (.int 2)) (eC (.int 3)))) (sNx)) (sRet (eIf (tOf (eIsi "tuple" (eVar 0))) (eC (.int 4)) (eIf (tOf (eIsi "list" (eVar 0))) (eC (.int 5)) (eC (.int 6))))))
def m__law_sort : Fn := mkFn 1 S__law_sort
def S__law_like (self : Fn) : SF :=
  sSeq (sAsg (eUser 1 (m__law_sort) (cD (eVar 1) (cNil))) (setD 2)) (sSeq (sIf (tOr' (tBo (eOp neD (eUser 1 (m__law_sort) (cD (eVar 0) (cNil))) (eVar 2))) (tBo (eOp eqD (eVar 2) (eC (.int 6))))) (sRet (eC (.bool false))) (sNx)) (sSeq (sIf (tBo (eOp inD (eVar 2) (eTup (aCons (eC (.int 4)) (aCons (eC (.int 5)) (aNil)))))) (sRet (eAn (eOp eqD (eCall lenD (aCons (eVar 0) (aNil))) (eCall lenD (aCons (eVar 1) (aNil)))) (eOp eqD (eLc (iZip2 (eVar 0) (eVar 1)) (gTupD 2 (gsCons (setD 3) (gsCons (setD 4) (gsNil)))) (tNo (tOf (eUser 2 (self) (cD (eVar 3) (cD (eVar 4) (cNil)))))) (eC (.int 1)) [3, 4]) (eLst (aNil))))) (sNx)) (sRet (eOp eqD (eVar 0) (eVar 1)))))
def m__law_like : Nat → Fn
  | 0 => fun _ => .bad
  | n + 1 => mkFn 5 (S__law_like (m__law_like n))

/-! ### slots -/
def nm : Sl → Bool
  | .m _ => false
  | _ => true
@[simp] theorem nm_u : nm .u = true := rfl
@[simp] theorem nm_d (d : D) : nm (.d d) = true := rfl
@[simp] theorem nm_s (d : List Int) : nm (.s d) = true := rfl
@[simp] theorem nm_m (d : List D) : nm (.m d) = false := rfl
@[simp] def nmAt (i : Nat) (ρ : List Sl) : Bool := match ρ[i]? with
  | some s => nm s
  | none => false
@[simp] theorem setD_eq {i : Nat} {d : D} {ρ : List Sl} (h : nmAt i ρ = true) : setD i d ρ = some (ρ.set i (.d d)) := by
  unfold nmAt at h
  unfold setD
  cases q : ρ[i]? with
  | none => rw [q] at h; cases h
  | some s =>
    rw [q] at h
    cases s with
    | m xs => cases h
    | u => rfl
    | d x => rfl
    | s ns => rfl
/-! ### the cup -/
structure CupOk (a b : Int) : Prop where
  a0 : 0 ≤ a
  a1 : a.natAbs.log2 < 3000000
  b0 : 0 ≤ b
  b1 : b < 4294967296
theorem log2_small {n : Nat} (h : n < 18446744073709551616) : n.log2 < 64 := by
  by_cases h0 : n = 0
  · subst h0; decide
  · exact (Nat.log2_lt h0).mpr h
theorem log2_mono {m n : Nat} (h : m ≤ n) : m.log2 ≤ n.log2 := by
  by_cases h0 : m = 0
  · subst h0; simp
  · have hn : n ≠ 0 := by omega
    exact (Nat.le_log2 hn).mpr (Nat.le_trans (Nat.log2_self_le h0) h)
@[simp] theorem atI0 {α : Type} {x : α} {xs : List α} : atI (x :: xs) 0 = some x := by
  unfold atI ixN
  rw [if_pos (by decide), if_pos (by simp)]
  rfl
theorem roll_ok {a b many : Int} (c : CupOk a b) (h0 : 0 < many) (h1 : many < 18446744073709551616) :
    ∃ r a' b', 0 ≤ r ∧ r < many ∧ CupOk a' b' ∧ m__law_roll [.m [.int a, .int b], .d (.int many)] = .ok (.int r, [.m [.int a', .int b'], .d (.int many)]) := by
  obtain ⟨a0, a1, b0, b1⟩ := c
  have e1 : atI [PyData.int a, .int b] 1 = some (.int b) := rfl
  have e2 : ∀ x y : D, ixN [x, y].length 0 = some 0 := fun _ _ => rfl
  have e3 : ∀ x y : D, ixN [x, y].length 1 = some 1 := fun _ _ => rfl
  by_cases ha : 0 < a
  · refine ⟨a % many, a / many, b, Int.emod_nonneg _ (by omega), Int.emod_lt_of_pos _ h0, ⟨Int.ediv_nonneg a0 (by omega), ?_, b0, b1⟩, ?_⟩
    · have : (a / many).natAbs ≤ a.natAbs := by
        have h2 : a / many ≤ a := Int.ediv_le_self _ a0
        have h3 : 0 ≤ a / many := Int.ediv_nonneg a0 (by omega)
        omega
      exact Nat.lt_of_le_of_lt (log2_mono this) a1
    · simp [m__law_roll, S__law_roll, ha, h0, h1, ixN]
  · have hm : ∀ x y : Int, 0 ≤ x → x < 18446744073709551616 → 0 ≤ y → y < 18446744073709551616 → x.natAbs.log2 + y.natAbs.log2 < 100000000 := fun x y h1 h2 h3 h4 => by
      have g1 := log2_small (n := x.natAbs) (by omega)
      have g2 := log2_small (n := y.natAbs) (by omega)
      omega
    generalize hb' : (b * 31051 + 7993) % 2147483543 = b'
    have hb0 : 0 ≤ b' := by rw [← hb']; exact Int.emod_nonneg _ (by decide)
    have hb1 : b' < 2147483543 := by rw [← hb']; exact Int.emod_lt_of_pos _ (by decide)
    have m1 := hm b 31051 b0 (by omega) (by decide) (by decide)
    have m2 := hm b' (b' + 229) hb0 (by omega) (by omega) (by omega)
    have m1' : b.natAbs.log2 + Nat.log2 31051 < 100000000 := m1
    refine ⟨(b' * (b' + 229) % 2147483587 / 821) % many, a, b', Int.emod_nonneg _ (by omega), Int.emod_lt_of_pos _ h0, ⟨a0, a1, hb0, by omega⟩, ?_⟩
    have e1 : ∀ x y : D, atI [x, y] 1 = some y := fun _ _ => rfl
    have e2 : ixN 2 1 = some 1 := rfl
    simp [m__law_roll, S__law_roll, ha, h0, h1, e1, e2, m1', hb', m2]
theorem cup_key (ns : List Int) (z : Int) (hz : z.natAbs.log2 < 2000000) : ∃ a b, CupOk a b ∧ ∀ rest : List D, ns.map PyData.int ++ [.int 0] = .int z :: rest → rest.length ≤ 1000 → m__law_cup [.s ns] = .ok ([.int a, .int b], [.s ns]) := by
  generalize hc : (if z < 0 then -z else z) = c
  have c0 : 0 ≤ c := by rw [← hc]; split <;> omega
  have c1 : c.natAbs.log2 < 2000000 := by
    have : c.natAbs = z.natAbs := by rw [← hc]; split <;> omega
    rw [this]; exact hz
  have m1 : c.natAbs.log2 + Nat.log2 283 < 100000000 := by
    have : Nat.log2 283 < 64 := log2_small (by decide)
    omega
  refine ⟨if c ≥ 1000000000000000000 then c / 73 else 0, (c * 283 + 3907) % 2077503167 + 167, ⟨?_, ?_, ?_, ?_⟩, fun rest e hr => ?_⟩
  · split
    · exact Int.ediv_nonneg c0 (by decide)
    · exact Int.le_refl _
  · split
    · have h2 : c / 73 ≤ c := Int.ediv_le_self _ c0
      have h3 : 0 ≤ c / 73 := Int.ediv_nonneg c0 (by decide)
      have h4 : (c / 73).natAbs ≤ c.natAbs := by omega
      exact Nat.lt_of_le_of_lt (log2_mono h4) (by omega)
    · decide
  · have := Int.emod_nonneg (c * 283 + 3907) (show (2077503167 : Int) ≠ 0 by decide)
    omega
  · have := Int.emod_lt_of_pos (c * 283 + 3907) (show (0 : Int) < 2077503167 by decide)
    omega
  · have hl : ns.length + 1 ≤ sizeLine := by
      have := congrArg List.length e
      simp at this
      rw [sizeLine_eq]
      omega
    simp [m__law_cup, S__law_cup, e, hl, hc, m1]
    split <;> simp_all
theorem cup_ok (ns : List Int) (hl : ns.length ≤ 63) (h : ∀ z ∈ ns, PySem.Builtin.Int.intBits z ≤ 1048576) : ∃ a b, CupOk a b ∧ m__law_cup [.s ns] = .ok ([.int a, .int b], [.s ns]) := by
  cases ns with
  | nil =>
    obtain ⟨a, b, h1, h2⟩ := cup_key [] 0 (by decide)
    exact ⟨a, b, h1, h2 [] rfl (by decide)⟩
  | cons z zs =>
    have hz := h z (List.mem_cons_self ..)
    have hz' : z.natAbs.log2 < 2000000 := by
      unfold PySem.Builtin.Int.intBits at hz
      split at hz
      · next q => simp at q; subst q; decide
      · omega
    obtain ⟨a, b, h1, h2⟩ := cup_key (z :: zs) z hz'
    refine ⟨a, b, h1, h2 (zs.map PyData.int ++ [.int 0]) rfl ?_⟩
    simp at hl ⊢
    omega
/-! ### loops -/
/-- one round of a comprehension -/
@[simp] def lcStep (g : GF) (t : TF) (f : EF) (vs : List Nat) (x : D) (ρ : List Sl) : R (Option D × List Sl) :=
  li (g x ρ) >>= fun ρ1 => t ρ1 >>= fun b => if b.1 = true then f b.2 >>= fun y => .ok (some y.1, wipeS vs y.2) else .ok (none, wipeS vs b.2)
@[simp] def oCons (o : Option D) (r : List D) : List D := match o with
  | some y => y :: r
  | none => r
theorem lcL_step {g : GF} {t : TF} {f : EF} {vs : List Nat} {x : D} {xs : List D} {ρ ρ' : List Sl} {o : Option D} (h : lcStep g t f vs x ρ = .ok (o, ρ')) :
    lcL g t f vs (x :: xs) ρ = (lcL g t f vs xs ρ' >>= fun r => .ok (oCons o r.1, r.2)) := by
  unfold lcStep at h
  show (li (g x ρ) >>= fun ρ1 => t ρ1 >>= fun b => if b.1 = true then f b.2 >>= fun y => lcL g t f vs xs (wipeS vs y.2) >>= fun r => .ok (y.1 :: r.1, r.2) else lcL g t f vs xs (wipeS vs b.2)) = _
  cases q1 : g x ρ with
  | none => rw [q1] at h; simp at h
  | some ρ1 =>
    rw [q1] at h
    simp only [li, bind_ok] at h ⊢
    cases q2 : t ρ1 with
    | ex c => rw [q2] at h; simp at h
    | bad => rw [q2] at h; simp at h
    | ok b =>
      rw [q2] at h
      simp only [bind_ok] at h ⊢
      split at h
      · next hb =>
        rw [if_pos hb]
        cases q3 : f b.2 with
        | ex c => rw [q3] at h; simp at h
        | bad => rw [q3] at h; simp at h
        | ok y =>
          rw [q3] at h
          simp at h
          obtain ⟨rfl, rfl⟩ := h
          rfl
      · next hb =>
        rw [if_neg hb]
        simp at h
        obtain ⟨rfl, rfl⟩ := h
        cases lcL g t f vs xs (wipeS vs b.2) <;> rfl
theorem lc_fm {g : GF} {t : TF} {f : EF} {vs : List Nat} {ρ : List Sl} (F : D → Option D) : ∀ {xs : List D}, (∀ x ∈ xs, lcStep g t f vs x ρ = .ok (F x, ρ)) → lcL g t f vs xs ρ = .ok (xs.filterMap F, ρ)
  | [], _ => rfl
  | x :: xs, h => by
    rw [lcL_step (h x (List.mem_cons_self ..)), lc_fm F (fun y hy => h y (List.mem_cons_of_mem _ hy))]
    cases q : F x <;> simp [q]
/-- with a state that stays good -/
theorem lc_inv {g : GF} {t : TF} {f : EF} {vs : List Nat} (I : List Sl → Prop) (P : D → Option D → Prop) : ∀ {xs : List D} {ρ : List Sl}, (∀ x ∈ xs, ∀ ρ, I ρ → ∃ o ρ', lcStep g t f vs x ρ = .ok (o, ρ') ∧ I ρ' ∧ P x o) → I ρ →
    ∃ os ρ', os.length = xs.length ∧ lcL g t f vs xs ρ = .ok (os.filterMap id, ρ') ∧ I ρ' ∧ ∀ p ∈ xs.zip os, P p.1 p.2
  | [], ρ, _, i => ⟨[], ρ, rfl, rfl, i, fun _ h => nomatch h⟩
  | x :: xs, ρ, h, i => by
    obtain ⟨o, ρ', e, i', p⟩ := h x (List.mem_cons_self ..) ρ i
    obtain ⟨os, ρ2, l2, e2, i2, p2⟩ := lc_inv I P (fun y hy => h y (List.mem_cons_of_mem _ hy)) i'
    refine ⟨o :: os, ρ2, by simp [l2], ?_, i2, fun q hq => ?_⟩
    · rw [lcL_step e, e2]
      cases o <;> simp
    · rcases List.mem_cons.mp hq with rfl | hq
      · exact p
      · exact p2 q hq
theorem forL_inv {g : GF} {body : SF} (I : List Sl → Prop) : ∀ {xs : List D} {ρ : List Sl}, (∀ x ∈ xs, ∀ ρ, I ρ → ∃ ρ1 ρ2, g x ρ = some ρ1 ∧ (body ρ1 = .ok (.nx ρ2) ∨ body ρ1 = .ok (.ct ρ2)) ∧ I ρ2) → I ρ →
    ∃ ρ', forL g body xs ρ = .ok (.nx ρ') ∧ I ρ'
  | [], ρ, _, i => ⟨ρ, rfl, i⟩
  | x :: xs, ρ, h, i => by
    obtain ⟨ρ1, ρ2, e1, e2, i2⟩ := h x (List.mem_cons_self ..) ρ i
    obtain ⟨ρ', e, i'⟩ := forL_inv I (fun y hy => h y (List.mem_cons_of_mem _ hy)) i2
    refine ⟨ρ', ?_, i'⟩
    show (li (g x ρ) >>= fun ρ1 => body ρ1 >>= fun r => _) = _
    rw [e1]
    simp only [li, bind_ok]
    rcases e2 with e2 | e2 <;> rw [e2] <;> exact e
/-! ### draws -/
theorem atI_mem {α : Type} {xs : List α} {i : Int} (h0 : 0 ≤ i) (h1 : i < xs.length) : ∃ x, atI xs i = some x ∧ x ∈ xs := by
  unfold atI ixN
  have h2 : i.toNat < xs.length := by omega
  rw [if_pos h0, if_pos h1]
  exact ⟨xs[i.toNat], by simp [h2], List.getElem_mem h2⟩
theorem some_str {a b : Int} (c : CupOk a b) {x : Str} (h0 : 0 < x.length) (h1 : x.length < 18446744073709551616) : ∃ k a' b', k ∈ x.cps.toList ∧ CupOk a' b' ∧ m__law_some [.m [.int a, .int b], .d (.str x)] = .ok (.str ⟨#[k]⟩, [.m [.int a', .int b'], .d (.str x)]) := by
  obtain ⟨r, a', b', h2, h3, c', e⟩ := roll_ok c (many := (x.length : Int)) (by omega) (by omega)
  obtain ⟨k, q, hk⟩ := atI_mem (xs := x.cps.toList) h2 (show r < (x.length : Int) from h3)
  refine ⟨k, a', b', hk, c', ?_⟩
  simp [m__law_some, S__law_some, e, q]
theorem some_list {a b : Int} (c : CupOk a b) {xs : List D} (h0 : 0 < xs.length) (h1 : xs.length < 18446744073709551616) : ∃ d a' b', d ∈ xs ∧ CupOk a' b' ∧ m__law_some [.m [.int a, .int b], .d (.list xs)] = .ok (d, [.m [.int a', .int b'], .d (.list xs)]) := by
  obtain ⟨r, a', b', h2, h3, c', e⟩ := roll_ok c (many := (xs.length : Int)) (by omega) (by omega)
  obtain ⟨k, q, hk⟩ := atI_mem (xs := xs) h2 (by simpa using h3)
  refine ⟨k, a', b', hk, c', ?_⟩
  simp [m__law_some, S__law_some, e, q]
theorem some_tuple {a b : Int} (c : CupOk a b) {xs : List D} (h0 : 0 < xs.length) (h1 : xs.length < 18446744073709551616) : ∃ d a' b', d ∈ xs ∧ CupOk a' b' ∧ m__law_some [.m [.int a, .int b], .d (.tuple xs)] = .ok (d, [.m [.int a', .int b'], .d (.tuple xs)]) := by
  obtain ⟨r, a', b', h2, h3, c', e⟩ := roll_ok c (many := (xs.length : Int)) (by omega) (by omega)
  obtain ⟨k, q, hk⟩ := atI_mem (xs := xs) h2 (by simpa using h3)
  refine ⟨k, a', b', hk, c', ?_⟩
  simp [m__law_some, S__law_some, e, q]
/-! ### likeness -/
def sortD : D → Int
  | .none => 0
  | .bool _ => 1
  | .int _ => 2
  | .str _ => 3
  | .tuple _ => 4
  | .list _ => 5
  | .dict _ => 6
theorem sort_ok (d : D) : m__law_sort [.d d] = .ok (.int (sortD d), [.d d]) := by
  cases d <;> simp [m__law_sort, S__law_sort, sortD]
mutual
def lk : D → D → Bool
  | .none, .none => true
  | .bool a, .bool b => a == b
  | .int a, .int b => a == b
  | .str a, .str b => a == b
  | .tuple a, .tuple b => lkL a b
  | .list a, .list b => lkL a b
  | _, _ => false
def lkL : List D → List D → Bool
  | [], [] => true
  | a :: as, b :: bs => lk a b && lkL as bs
  | _, _ => false
end
theorem depthAll_mem {x : D} : ∀ {xs : List D}, x ∈ xs → x.depth ≤ PyData.depthAll xs
  | y :: ys, h => by
    rw [PyData.depthAll]
    rcases List.mem_cons.mp h with rfl | h
    · exact Nat.le_max_left ..
    · exact Nat.le_trans (depthAll_mem h) (Nat.le_max_right ..)
theorem zipWith_snd {xs ys : List D} {p : D} (h : p ∈ List.zipWith (fun a b => (.tuple [a, b] : D)) xs ys) : ∃ a b, b ∈ ys ∧ p = .tuple [a, b] := by
  obtain ⟨i, hi⟩ := List.mem_iff_getElem?.mp h
  obtain ⟨a, b, h1, h2, h3⟩ := zip_get hi
  exact ⟨a, b, List.mem_of_getElem? h2, h3⟩
@[simp] def unlike : D → Option D
  | .tuple [a, b] => if lk a b = true then none else some (.int 1)
  | _ => none
theorem unlike_none : ∀ xs ys : List D, xs.length = ys.length → ((List.zipWith (fun a b => (.tuple [a, b] : D)) xs ys).filterMap unlike = [] ↔ lkL xs ys = true)
  | [], [], _ => by simp [lkL]
  | x :: xs, y :: ys, h => by
    have ih := unlike_none xs ys (by simpa using h)
    simp only [List.zipWith_cons_cons, List.filterMap_cons, unlike, lkL]
    cases q : lk x y
    · simp
    · simpa using ih
  | [], _ :: _, h => by simp at h
  | _ :: _, [], h => by simp at h
theorem lkL_len : ∀ {xs ys : List D}, lkL xs ys = true → xs.length = ys.length
  | [], [], _ => rfl
  | x :: xs, y :: ys, h => by
    rw [lkL, Bool.and_eq_true] at h
    simp [lkL_len h.2]
  | [], _ :: _, h => by simp [lkL] at h
  | _ :: _, [], h => by simp [lkL] at h
@[simp] theorem eqv_int (i j : Int) : PyData.eqv (.int i) (.int j) = (i == j) := by rw [PyData.eqv]
@[simp] theorem eqv_str (i j : Str) : PyData.eqv (.str i) (.str j) = (i == j) := by rw [PyData.eqv]
@[simp] theorem eqv_bool (i j : Bool) : PyData.eqv (.bool i) (.bool j) = (i == j) := by rw [PyData.eqv]
@[simp] theorem eqv_none : PyData.eqv .none .none = true := by rw [PyData.eqv]
@[simp] theorem eqv_list (xs ys : List D) : PyData.eqv (.list xs) (.list ys) = PyData.eqvAll xs ys := by rw [PyData.eqv]
@[simp] theorem eqv_tuple (xs ys : List D) : PyData.eqv (.tuple xs) (.tuple ys) = PyData.eqvAll xs ys := by rw [PyData.eqv]
@[simp] theorem dep_int (i : Int) : PyData.depth (.int i) = 0 := by rw [PyData.depth]
@[simp] theorem dep_str (i : Str) : PyData.depth (.str i) = 0 := by rw [PyData.depth]
@[simp] theorem dep_bool (i : Bool) : PyData.depth (.bool i) = 0 := by rw [PyData.depth]
@[simp] theorem dep_none : PyData.depth .none = 0 := by rw [PyData.depth]
@[simp] theorem dep_list (xs : List D) : PyData.depth (.list xs) = PyData.depthAll xs + 1 := by rw [PyData.depth]
@[simp] theorem dep_tuple (xs : List D) : PyData.depth (.tuple xs) = PyData.depthAll xs + 1 := by rw [PyData.depth]
@[simp] theorem depAll_nil : PyData.depthAll [] = 0 := by rw [PyData.depthAll]
@[simp] theorem depAll_cons (x : D) (xs : List D) : PyData.depthAll (x :: xs) = max x.depth (PyData.depthAll xs) := by rw [PyData.depthAll]
theorem like_step {self : Fn} {x y : D} {vs : List D} (hs : ∀ a b, b ∈ vs → self [.d a, .d b] = .ok (.bool (lk a b), [.d a, .d b])) {ρ : List Sl} (hρ : ρ = [.d x, .d y, .d (.int (sortD y)), .u, .u]) {us : List D} :
    lcL (gTupD 2 (gsCons (setD 3) (gsCons (setD 4) (gsNil)))) (tNo (tOf (eUser 2 (self) (cD (eVar 3) (cD (eVar 4) (cNil)))))) (eC (.int 1)) [3, 4] (List.zipWith (fun a b => (.tuple [a, b] : D)) us vs) ρ = .ok ((List.zipWith (fun a b => (.tuple [a, b] : D)) us vs).filterMap unlike, ρ) := by
  subst hρ
  refine lc_fm unlike fun p hp => ?_
  obtain ⟨a, b, hb, rfl⟩ := zipWith_snd hp
  simp [hs a b hb]
  cases lk a b <;> simp
theorem eqv_ones {xs : List D} : PyData.eqvAll xs [] = decide (xs = []) := by
  cases xs <;> simp [PyData.eqvAll]
theorem unlike_flat {zs : List D} : ∀ {d : D}, d ∈ zs.filterMap unlike → d = .int 1 := by
  intro d h
  obtain ⟨p, _, e⟩ := List.mem_filterMap.mp h
  unfold unlike at e
  split at e
  · split at e
    · cases e
    · cases e; rfl
  · cases e
theorem depthAll_le {k : Nat} : ∀ {xs : List D}, (∀ x ∈ xs, x.depth ≤ k) → PyData.depthAll xs ≤ k
  | [], _ => by simp [PyData.depthAll]
  | x :: xs, h => by
    rw [PyData.depthAll]
    exact Nat.max_le.mpr ⟨h x (List.mem_cons_self ..), depthAll_le fun y hy => h y (List.mem_cons_of_mem _ hy)⟩
theorem ones_depth (zs : List D) : PyData.depthAll (zs.filterMap unlike) ≤ 63 := depthAll_le fun d h => by
  rw [unlike_flat h]; simp [PyData.depth]
mutual
@[simp] def fit : D → Bool
  | .tuple a => decide (a.length ≤ 1000000) && fitL a
  | .list a => decide (a.length ≤ 1000000) && fitL a
  | _ => true
@[simp] def fitL : List D → Bool
  | [] => true
  | a :: as => fit a && fitL as
end
theorem fitL_mem {x : D} : ∀ {xs : List D}, fitL xs = true → x ∈ xs → fit x = true
  | y :: ys, h, hm => by
    rw [fitL, Bool.and_eq_true] at h
    rcases List.mem_cons.mp hm with rfl | hm
    · exact h.1
    · exact fitL_mem h.2 hm
theorem i0 : inL (.int 0) [.int 4, .int 5] = false := by simp [inL]
theorem i1 : inL (.int 1) [.int 4, .int 5] = false := by simp [inL]
theorem i2 : inL (.int 2) [.int 4, .int 5] = false := by simp [inL]
theorem i3 : inL (.int 3) [.int 4, .int 5] = false := by simp [inL]
theorem i4 : inL (.int 4) [.int 4, .int 5] = true := by simp [inL]
theorem i5 : inL (.int 5) [.int 4, .int 5] = true := by simp [inL]
theorem like_seq {self : Fn} {us vs : List D} (hs : ∀ a b, b ∈ vs → self [.d a, .d b] = .ok (.bool (lk a b), [.d a, .d b])) (hl : vs.length ≤ 1000000) :
    mkFn 5 (S__law_like self) [.d (.list us), .d (.list vs)] = .ok (.bool (lkL us vs), [.d (.list us), .d (.list vs)])
    ∧ mkFn 5 (S__law_like self) [.d (.tuple us), .d (.tuple vs)] = .ok (.bool (lkL us vs), [.d (.tuple us), .d (.tuple vs)]) := by
  have e1 := like_step (x := .list us) (y := .list vs) hs rfl (us := us)
  have e2 := like_step (x := .tuple us) (y := .tuple vs) hs rfl (us := us)
  simp only [sortD] at e1 e2
  have h0 : (min us.length vs.length) ≤ 1000000 := Nat.le_trans (Nat.min_le_right ..) hl
  have h1 := ones_depth (List.zipWith (fun a b => (.tuple [a, b] : D)) us vs)
  by_cases hlen : us.length = vs.length
  · have h2 := unlike_none us vs hlen
    constructor <;> (simp [S__law_like, sort_ok, sortD, i4, i5, hlen, e1, e2, h0, h1, hl, eqv_ones]; cases q : lkL us vs <;> simp [q] at h2 ⊢ <;> simpa using h2)
  · have h3 : lkL us vs = false := by
      cases q : lkL us vs
      · rfl
      · exact absurd (lkL_len q) hlen
    have h4 : ((us.length : Int) == (vs.length : Int)) = false := by
      rw [beq_eq_false_iff_ne]
      omega
    constructor <;> simp [S__law_like, sort_ok, sortD, i4, i5, hlen, h3, h4]
theorem like_ok : ∀ (n : Nat) (x y : D), y.depth < n → fit y = true → m__law_like n [.d x, .d y] = .ok (.bool (lk x y), [.d x, .d y])
  | 0, x, y, hd, _ => by omega
  | n + 1, x, y, hd, hf => by
    show mkFn 5 (S__law_like (m__law_like n)) _ = _
    cases y with
    | list vs =>
      rw [PyData.depth] at hd
      simp only [fit, Bool.and_eq_true, decide_eq_true_eq] at hf
      have hs := fun us => like_seq (self := m__law_like n) (us := us) (vs := vs) (fun a b hb => like_ok n a b (by have := depthAll_mem hb; omega) (fitL_mem hf.2 hb)) hf.1
      cases x with
      | list us => exact (hs us).1
      | _ => simp [S__law_like, sort_ok, sortD, i4, i5, lk]
    | tuple vs =>
      rw [PyData.depth] at hd
      simp only [fit, Bool.and_eq_true, decide_eq_true_eq] at hf
      have hs := fun us => like_seq (self := m__law_like n) (us := us) (vs := vs) (fun a b hb => like_ok n a b (by have := depthAll_mem hb; omega) (fitL_mem hf.2 hb)) hf.1
      cases x with
      | tuple us => exact (hs us).2
      | _ => simp [S__law_like, sort_ok, sortD, i4, i5, lk]
    | _ => cases x <;> simp [S__law_like, sort_ok, sortD, i0, i1, i2, i3, lk]
/-! ### runs that end well -/
abbrev Rn {α : Type} (r : R α) (Q : α → Prop) : Prop := ∃ a, r = .ok a ∧ Q a
theorem rn_fin {α : Type} {r : R α} {a : α} {Q : α → Prop} (h : r = .ok a) (q : Q a) : Rn r Q := ⟨a, h, q⟩
theorem rn_nx {f g : SF} {ρ ρ' : List Sl} {Q : Fl → Prop} (h : f ρ = .ok (.nx ρ')) (k : Rn (g ρ') Q) : Rn (sSeq f g ρ) Q := by
  obtain ⟨a, e, q⟩ := k
  exact ⟨a, by simp [h, e], q⟩
theorem rn_seq {f g : SF} {ρ : List Sl} {Q : Fl → Prop} (h : Rn (f ρ) fun r => ∃ ρ', r = .nx ρ' ∧ Rn (g ρ') Q) : Rn (sSeq f g ρ) Q := by
  obtain ⟨_, e, ρ', rfl, k⟩ := h
  exact rn_nx e k
theorem forL_rn {g : GF} {body : SF} (I : Nat → List Sl → Prop) : ∀ {xs : List D} {ρ : List Sl} {n : Nat}, (∀ k x ρ, xs[k]? = some x → I (n + k) ρ → ∃ ρ1, g x ρ = some ρ1 ∧ Rn (body ρ1) fun r => ∃ ρ2, (r = .nx ρ2 ∨ r = .ct ρ2) ∧ I (n + k + 1) ρ2) → I n ρ →
    ∃ ρ', forL g body xs ρ = .ok (.nx ρ') ∧ I (n + xs.length) ρ'
  | [], ρ, _, _, i => ⟨ρ, rfl, i⟩
  | x :: xs, ρ, n, h, i => by
    obtain ⟨ρ1, e1, r, e2, ρ2, hr, i2⟩ := h 0 x ρ rfl i
    obtain ⟨ρ', e, i'⟩ := forL_rn I (xs := xs) (ρ := ρ2) (n := n + 1) (fun k y ρ hk hi => by
      have := h (k + 1) y ρ hk (by rw [show n + (k + 1) = n + 1 + k by omega]; exact hi)
      rw [show n + (k + 1) = n + 1 + k by omega] at this
      exact this) i2
    refine ⟨ρ', ?_, by rw [List.length_cons, show n + (xs.length + 1) = n + 1 + xs.length by omega]; exact i'⟩
    show (li (g x ρ) >>= fun ρ1 => body ρ1 >>= fun r => _) = _
    rw [e1]
    simp only [li, bind_ok]
    rcases hr with rfl | rfl <;> rw [e2] <;> exact e
theorem rn_for {F : AF} {g : GF} {body rest : SF} {ρ ρ1 : List Sl} {xs : List D} {Q : Fl → Prop} (I : Nat → List Sl → Prop) (h : F ρ = .ok (xs, ρ1)) (i0 : I 0 ρ1)
    (hb : ∀ k x ρ, xs[k]? = some x → I k ρ → ∃ ρ2, g x ρ = some ρ2 ∧ Rn (body ρ2) fun r => ∃ ρ3, (r = .nx ρ3 ∨ r = .ct ρ3) ∧ I (k + 1) ρ3) (k : ∀ ρ', I xs.length ρ' → Rn (rest ρ') Q) : Rn (sSeq (sFor F g body) rest ρ) Q := by
  obtain ⟨ρ', e, i⟩ := forL_rn I (n := 0) (fun k x ρ hk hi => by rw [Nat.zero_add] at hi ⊢; exact hb k x ρ hk hi) i0
  rw [Nat.zero_add] at i
  exact rn_nx (by simp [h, e]) (k ρ' i)
theorem rn_for1 {F : AF} {g : GF} {body : SF} {ρ ρ1 : List Sl} {xs : List D} {Q : Fl → Prop} (I : Nat → List Sl → Prop) (h : F ρ = .ok (xs, ρ1)) (i0 : I 0 ρ1)
    (hb : ∀ k x ρ, xs[k]? = some x → I k ρ → ∃ ρ2, g x ρ = some ρ2 ∧ Rn (body ρ2) fun r => ∃ ρ3, (r = .nx ρ3 ∨ r = .ct ρ3) ∧ I (k + 1) ρ3) (k : ∀ ρ', I xs.length ρ' → Q (.nx ρ')) : Rn (sFor F g body ρ) Q := by
  obtain ⟨ρ', e, i⟩ := forL_rn I (n := 0) (fun k x ρ hk hi => by rw [Nat.zero_add] at hi ⊢; exact hb k x ρ hk hi) i0
  rw [Nat.zero_add] at i
  exact rn_fin (by simp [h, e]) (k ρ' i)
theorem law_main {nN : Nat} {S : SF} {ns : List Int} (h : Rn (S (.s ns :: List.replicate (nN - 1) .u)) fun r => ∃ ρ, r = .rt (.bool true) ρ ∧ 1 ≤ ρ.length) : ∃ ρ, mkFn nN S [.s ns] = .ok (.bool true, ρ) := by
  obtain ⟨_, e, ρ, rfl, hl⟩ := h
  refine ⟨keepM [.s ns] ρ, ?_⟩
  simp only [mkFn, List.singleton_append, List.length_singleton, e, bind_ok, if_pos hl]
/-! ### texts -/
@[simp] theorem len1 (k : Nat) : Str.length ⟨#[k]⟩ = 1 := rfl
theorem cutS_len (x : Str) (lo hi : Option Int) : (cutS x lo hi).length ≤ x.length := by
  show (cutS x lo hi).cps.size ≤ x.cps.size
  unfold cutS
  simp only [List.size_toArray, List.length_take, List.length_drop, Array.length_toList]
  omega
end Pd
end

section
namespace K43
open PySem L2 Pd
def topS (i : Nat) : Stmt := PySem.Challenge.pw_pastedcells_k43_whole_products_and_krone.main.body.getD i (.Pass ⟨0, 0, 0, 0⟩)
structure Facts (K : Fg) (mg : Str → Option Value) : Prop where
  b_abs : mg "abs" = none
  b_all : mg "all" = none
  b_bool : mg "bool" = none
  b_int : mg "int" = none
  b_isinstance : mg "isinstance" = none
  b_len : mg "len" = none
  b_list : mg "list" = none
  b_range : mg "range" = none
  b_str : mg "str" = none
  b_sum : mg "sum" = none
  b_tuple : mg "tuple" = none
  b_zip : mg "zip" = none
  g_LARGEST : GC mg K "LARGEST" (.int 81)
  g_PRIMES : GC mg K "PRIMES" (.tuple [(.int 2), (.int 3), (.int 5), (.int 7)])
section
variable {P : Program} {w : World} {K : Fg} {mg : Str → Option Value} {base : Heap}
/-! ### is_whole -/
abbrev s_is_whole : Stmt := topS 6
theorem sc_is_whole : FnScope ["value", "low", "high"] ["value", "low", "high"] (defScope s_is_whole) := ⟨rfl, rfl, rfl, by decide +kernel, rfl, by decide +kernel, by decide +kernel⟩
def S_is_whole : SF :=
  sRet (eAn (eIsi "int" (eVar 0)) (eAn (eNo (eIsi "bool" (eVar 0))) (eCh leD leD (eVar 1) (eVar 0) (eVar 2))))
def m_is_whole : Fn := mkFn 3 S_is_whole
theorem fd_is_whole {f : Addr} {fd : FuncData} (T : Facts K mg) (D : FunD K "is_whole" "is_whole" (defArgs s_is_whole) (defBody s_is_whole) (defScope s_is_whole) [] [] f fd) (hm : mg "is_whole" = some (.ref f)) (hb : Binds K fd ["value", "low", "high"] []) : Fd P w K mg base 1 "is_whole" 3 m_is_whole :=
  fd_of (k := 0) D sc_is_whole hm hb fun cdv A outer s H E hr =>
    sds_one (sd_ret (ed_and (ed_isi kitT_int rfl T.b_isinstance rfl T.b_int (by decide +kernel) (by decide) (by decide) rfl rfl rfl (ed_var 0)) (ed_and (ed_not (ed_isi kitT_bool rfl T.b_isinstance rfl T.b_bool (by decide +kernel) (by decide) (by decide) rfl rfl rfl (ed_var 0))) (ed_one (ed_lele (ed_var 1) (ed_var 0) (ed_var 2))))))
/-! ### need_whole -/
abbrev s_need_whole : Stmt := topS 7
theorem sc_need_whole : FnScope ["value", "low", "high"] ["value", "low", "high"] (defScope s_need_whole) := ⟨rfl, rfl, rfl, by decide +kernel, rfl, by decide +kernel, by decide +kernel⟩
def S_need_whole : SF :=
  sIf (tNo (tOf (eUser 3 (m_is_whole) (cD (eVar 0) (cD (eVar 1) (cD (eVar 2) (cNil))))))) (sNever) (sNx)
def m_need_whole : Fn := mkFn 3 S_need_whole
theorem fd_need_whole {f : Addr} {fd : FuncData} (T : Facts K mg) (D : FunD K "need_whole" "need_whole" (defArgs s_need_whole) (defBody s_need_whole) (defScope s_need_whole) [] [] f fd) (hm : mg "need_whole" = some (.ref f)) (hb : Binds K fd ["value", "low", "high"] []) (c_is_whole : Fd P w K mg base 1 "is_whole" 3 (m_is_whole)) : Fd P w K mg base 2 "need_whole" 3 m_need_whole :=
  fd_of (k := 1) D sc_need_whole hm hb fun cdv A outer s H E hr =>
    sds_one (sd_if (td_not (td_val (by intro _; rfl) (ed_call c_is_whole hr bx_takes rfl (by decide) (by decide) rfl rfl (cd_d rfl (ed_var 0) (cd_d rfl (ed_var 1) (cd_d rfl (ed_var 2) (cd_nil))))))) (sds_never) (sds_nil))
/-! ### is_tuple_of -/
abbrev s_is_tuple_of : Stmt := topS 8
theorem sc_is_tuple_of : FnScope ["value", "low", "high"] ["value", "low", "high"] (defScope s_is_tuple_of) := ⟨rfl, rfl, rfl, by decide +kernel, rfl, by decide +kernel, by decide +kernel⟩
def S_is_tuple_of : SF :=
  sRet (eAn (eIsi "tuple" (eVar 0)) (eCh leD leD (eVar 1) (eCall lenD (aCons (eVar 0) (aNil))) (eVar 2)))
def m_is_tuple_of : Fn := mkFn 3 S_is_tuple_of
theorem fd_is_tuple_of {f : Addr} {fd : FuncData} (T : Facts K mg) (D : FunD K "is_tuple_of" "is_tuple_of" (defArgs s_is_tuple_of) (defBody s_is_tuple_of) (defScope s_is_tuple_of) [] [] f fd) (hm : mg "is_tuple_of" = some (.ref f)) (hb : Binds K fd ["value", "low", "high"] []) : Fd P w K mg base 1 "is_tuple_of" 3 m_is_tuple_of :=
  fd_of (k := 0) D sc_is_tuple_of hm hb fun cdv A outer s H E hr =>
    sds_one (sd_ret (ed_and (ed_isi kitT_tuple rfl T.b_isinstance rfl T.b_tuple (by decide +kernel) (by decide) (by decide) rfl rfl rfl (ed_var 0)) (ed_one (ed_lele (ed_var 1) (ed_callB call_len opc_len rfl T.b_len PySem.boot_len (by decide) (by decide) rfl rfl (ad_cons rfl (ed_var 0) (ad_nil))) (ed_var 2)))))
/-! ### is_prime -/
abbrev s_is_prime : Stmt := topS 12
theorem sc_is_prime : FnScope ["value"] ["value"] (defScope s_is_prime) := ⟨rfl, rfl, rfl, by decide +kernel, rfl, by decide +kernel, by decide +kernel⟩
def S_is_prime : SF :=
  sRet (eAn (eUser 3 (m_is_whole) (cD (eVar 0) (cD (eC (.int 2)) (cD (eC (.int 7)) (cNil))))) (eOp inD (eVar 0) (eC (.tuple [(.int 2), (.int 3), (.int 5), (.int 7)]))))
def m_is_prime : Fn := mkFn 1 S_is_prime
theorem fd_is_prime {f : Addr} {fd : FuncData} (T : Facts K mg) (D : FunD K "is_prime" "is_prime" (defArgs s_is_prime) (defBody s_is_prime) (defScope s_is_prime) [] [] f fd) (hm : mg "is_prime" = some (.ref f)) (hb : Binds K fd ["value"] []) (c_is_whole : Fd P w K mg base 1 "is_whole" 3 (m_is_whole)) : Fd P w K mg base 2 "is_prime" 1 m_is_prime :=
  fd_of (k := 1) D sc_is_prime hm hb fun cdv A outer s H E hr =>
    sds_one (sd_ret (ed_and (ed_call c_is_whole hr bx_takes rfl (by decide) (by decide) rfl rfl (cd_d rfl (ed_var 0) (cd_d rfl (ed_int) (cd_d rfl (ed_int) (cd_nil))))) (ed_one (ed_in (hu65 hr) (ed_var 0) (ed_glob rfl T.g_PRIMES)))))
/-! ### need_prime -/
abbrev s_need_prime : Stmt := topS 13
theorem sc_need_prime : FnScope ["value"] ["value"] (defScope s_need_prime) := ⟨rfl, rfl, rfl, by decide +kernel, rfl, by decide +kernel, by decide +kernel⟩
def S_need_prime : SF :=
  sIf (tNo (tOf (eUser 1 (m_is_prime) (cD (eVar 0) (cNil))))) (sNever) (sNx)
def m_need_prime : Fn := mkFn 1 S_need_prime
theorem fd_need_prime {f : Addr} {fd : FuncData} (T : Facts K mg) (D : FunD K "need_prime" "need_prime" (defArgs s_need_prime) (defBody s_need_prime) (defScope s_need_prime) [] [] f fd) (hm : mg "need_prime" = some (.ref f)) (hb : Binds K fd ["value"] []) (c_is_prime : Fd P w K mg base 2 "is_prime" 1 (m_is_prime)) : Fd P w K mg base 3 "need_prime" 1 m_need_prime :=
  fd_of (k := 2) D sc_need_prime hm hb fun cdv A outer s H E hr =>
    sds_one (sd_if (td_not (td_val (by intro _; rfl) (ed_call c_is_prime hr bx_takes rfl (by decide) (by decide) rfl rfl (cd_d rfl (ed_var 0) (cd_nil))))) (sds_never) (sds_nil))
/-! ### is_matrix_in -/
abbrev s_is_matrix_in : Stmt := topS 14
theorem sc_is_matrix_in : FnScope ["value", "prime", "most", "width", "row", "entry"] ["value", "prime", "most"] (defScope s_is_matrix_in) := ⟨rfl, rfl, rfl, by decide +kernel, rfl, by decide +kernel, by decide +kernel⟩
def S_is_matrix_in : SF :=
  sSeq (sIf (tOr' (tNo (tOf (eUser 3 (m_is_tuple_of) (cD (eVar 0) (cD (eC (.int 1)) (cD (eVar 2) (cNil))))))) (tNo (tOf (eUser 3 (m_is_tuple_of) (cD (eOp ixD (eVar 0) (eC (.int 0))) (cD (eC (.int 1)) (cD (eVar 2) (cNil)))))))) (sRet (eC (.bool false))) (sNx)) (sSeq (sAsg (eCall lenD (aCons (eOp ixD (eVar 0) (eC (.int 0))) (aNil))) (setD 3)) (sSeq (sFor (iAny (eVar 0)) (setD 4) (sIf (tOr' (tNo (tOf (eUser 3 (m_is_tuple_of) (cD (eVar 4) (cD (eVar 3) (cD (eVar 3) (cNil))))))) (tNo (tOf (eCall allD (aCons (eLc (iAny (eVar 4)) (setD 5) (tYs) (eUser 3 (m_is_whole) (cD (eVar 5) (cD (eC (.int 0)) (cD (eOp subD (eVar 1) (eC (.int 1))) (cNil))))) [5]) (aNil)))))) (sRet (eC (.bool false))) (sNx))) (sRet (eC (.bool true)))))
def m_is_matrix_in : Fn := mkFn 6 S_is_matrix_in
theorem fd_is_matrix_in {f : Addr} {fd : FuncData} (T : Facts K mg) (D : FunD K "is_matrix_in" "is_matrix_in" (defArgs s_is_matrix_in) (defBody s_is_matrix_in) (defScope s_is_matrix_in) [] [] f fd) (hm : mg "is_matrix_in" = some (.ref f)) (hb : Binds K fd ["value", "prime", "most"] []) (c_is_tuple_of : Fd P w K mg base 1 "is_tuple_of" 3 (m_is_tuple_of)) (c_is_whole : Fd P w K mg base 1 "is_whole" 3 (m_is_whole)) : Fd P w K mg base 2 "is_matrix_in" 3 m_is_matrix_in :=
  fd_of (k := 1) D sc_is_matrix_in hm hb fun cdv A outer s H E hr =>
    sds_cons (sd_if (td_bo (wd_or (td_not (td_val (by intro _; rfl) (ed_call c_is_tuple_of hr bx_takes rfl (by decide) (by decide) rfl rfl (cd_d rfl (ed_var 0) (cd_d rfl (ed_int) (cd_d rfl (ed_var 2) (cd_nil))))))) (wd_or1 (td_not (td_val (by intro _; rfl) (ed_call c_is_tuple_of hr bx_takes rfl (by decide) (by decide) rfl rfl (cd_d rfl (ed_ix (by intro _ _; rfl) (ed_var 0) (ed_int)) (cd_d rfl (ed_int) (cd_d rfl (ed_var 2) (cd_nil)))))))))) (sds_one (sd_ret (ed_bl))) (sds_nil)) (sds_cons (sd_set 3 sc_is_matrix_in.nd rfl (by first | exact Or.inl rfl | exact Or.inr rfl) rfl (by first | exact .inl rfl | exact .inr rfl) (ed_callB call_len opc_len rfl T.b_len PySem.boot_len (by decide) (by decide) rfl rfl (ad_cons rfl (ed_ix (by intro _ _; rfl) (ed_var 0) (ed_int)) (ad_nil)))) (sds_cons (sd_for bx_passes rfl (by intro _; rfl) (id_any (ed_var 0)) (gd_name 4 sc_is_matrix_in.nd rfl (by first | exact Or.inl rfl | exact Or.inr rfl) (by first | exact .inl rfl | exact .inr rfl)) (sds_one (sd_if (td_bo (wd_or (td_not (td_val (by intro _; rfl) (ed_call c_is_tuple_of hr bx_takes rfl (by decide) (by decide) rfl rfl (cd_d rfl (ed_var 4) (cd_d rfl (ed_var 3) (cd_d rfl (ed_var 3) (cd_nil))))))) (wd_or1 (td_not (td_val (by intro _; rfl) (ed_callB (cr_all rfl) opc_all rfl T.b_all (by decide +kernel) (by decide) (by decide) rfl rfl (ad_cons rfl (ed_lc (own := [("entry", 5)]) rfl sc_is_matrix_in.nd (blkOk_by (by kernel_rfl)) (by decide) (id_any (ed_var 4)) (fun _ _ _ _ _ => gd_name 5 sc_is_matrix_in.nd rfl (by first | exact Or.inl rfl | exact Or.inr rfl) (by first | exact .inl rfl | exact .inr rfl)) (fun _ _ _ _ _ => tsd_nil) (fun _ _ _ _ _ => ed_call c_is_whole hr takes0 rfl (by decide) (by decide) rfl rfl (cd_d rfl (ed_var 5) (cd_d rfl (ed_int) (cd_d rfl (ed_sub (ed_var 1) (ed_int)) (cd_nil)))))) (ad_nil)))))))) (sds_one (sd_ret (ed_bl))) (sds_nil)))) (sds_one (sd_ret (ed_bl)))))
/-! ### is_matrix -/
abbrev s_is_matrix : Stmt := topS 15
theorem sc_is_matrix : FnScope ["value", "prime"] ["value", "prime"] (defScope s_is_matrix) := ⟨rfl, rfl, rfl, by decide +kernel, rfl, by decide +kernel, by decide +kernel⟩
def S_is_matrix : SF :=
  sSeq (sDrop (eUser 1 (m_need_prime) (cD (eVar 1) (cNil)))) (sRet (eUser 3 (m_is_matrix_in) (cD (eVar 0) (cD (eVar 1) (cD (eC (.int 81)) (cNil))))))
def m_is_matrix : Fn := mkFn 2 S_is_matrix
theorem fd_is_matrix {f : Addr} {fd : FuncData} (T : Facts K mg) (D : FunD K "is_matrix" "is_matrix" (defArgs s_is_matrix) (defBody s_is_matrix) (defScope s_is_matrix) [] [] f fd) (hm : mg "is_matrix" = some (.ref f)) (hb : Binds K fd ["value", "prime"] []) (c_need_prime : Fd P w K mg base 3 "need_prime" 1 (m_need_prime)) (c_is_matrix_in : Fd P w K mg base 2 "is_matrix_in" 3 (m_is_matrix_in)) : Fd P w K mg base 4 "is_matrix" 2 m_is_matrix :=
  fd_of (k := 3) D sc_is_matrix hm hb fun cdv A outer s H E hr =>
    sds_cons (sd_expr rfl (ed_call c_need_prime hr bx_takes rfl (by decide) (by decide) rfl rfl (cd_d rfl (ed_var 1) (cd_nil)))) (sds_one (sd_ret (ed_call c_is_matrix_in hr bx_takes rfl (by decide) (by decide) rfl rfl (cd_d rfl (ed_var 0) (cd_d rfl (ed_var 1) (cd_d rfl (ed_glob rfl T.g_LARGEST) (cd_nil)))))))
/-! ### need_matrices -/
abbrev s_need_matrices : Stmt := topS 16
theorem sc_need_matrices : FnScope ["values", "prime", "value"] ["values", "prime"] (defScope s_need_matrices) := ⟨rfl, rfl, rfl, by decide +kernel, rfl, by decide +kernel, by decide +kernel⟩
def S_need_matrices : SF :=
  sFor (iAny (eVar 0)) (setD 2) (sIf (tNo (tOf (eUser 2 (m_is_matrix) (cD (eVar 2) (cD (eVar 1) (cNil)))))) (sNever) (sNx))
def m_need_matrices : Fn := mkFn 3 S_need_matrices
theorem fd_need_matrices {f : Addr} {fd : FuncData} (T : Facts K mg) (D : FunD K "need_matrices" "need_matrices" (defArgs s_need_matrices) (defBody s_need_matrices) (defScope s_need_matrices) [] [] f fd) (hm : mg "need_matrices" = some (.ref f)) (hb : Binds K fd ["values", "prime"] []) (c_is_matrix : Fd P w K mg base 4 "is_matrix" 2 (m_is_matrix)) : Fd P w K mg base 5 "need_matrices" 2 m_need_matrices :=
  fd_of (k := 4) D sc_need_matrices hm hb fun cdv A outer s H E hr =>
    sds_one (sd_for bx_passes rfl (by intro _; rfl) (id_any (ed_var 0)) (gd_name 2 sc_need_matrices.nd rfl (by first | exact Or.inl rfl | exact Or.inr rfl) (by first | exact .inl rfl | exact .inr rfl)) (sds_one (sd_if (td_not (td_val (by intro _; rfl) (ed_call c_is_matrix hr bx_takes rfl (by decide) (by decide) rfl rfl (cd_d rfl (ed_var 2) (cd_d rfl (ed_var 1) (cd_nil)))))) (sds_never) (sds_nil))))
/-! ### combined -/
abbrev s_combined : Stmt := topS 17
theorem sc_combined : FnScope ["entries", "rows", "prime", "width", "at", "entry", "row"] ["entries", "rows", "prime"] (defScope s_combined) := ⟨rfl, rfl, rfl, by decide +kernel, rfl, by decide +kernel, by decide +kernel⟩
def S_combined : SF :=
  sSeq (sAsg (eCall lenD (aCons (eOp ixD (eVar 1) (eC (.int 0))) (aNil))) (setD 3)) (sRet (eCall tupOf (aCons (eLc (iR1 (eVar 3)) (setD 4) (tYs) (eOp modD (eCall sumD (aCons (eLc (iZip2 (eVar 0) (eVar 1)) (gTupD 2 (gsCons (setD 5) (gsCons (setD 6) (gsNil)))) (tYs) (eOp mulD (eVar 5) (eOp ixD (eVar 6) (eVar 4))) [5, 6]) (aNil))) (eVar 2)) [4]) (aNil))))
def m_combined : Fn := mkFn 7 S_combined
theorem fd_combined {f : Addr} {fd : FuncData} (T : Facts K mg) (D : FunD K "combined" "combined" (defArgs s_combined) (defBody s_combined) (defScope s_combined) [] [] f fd) (hm : mg "combined" = some (.ref f)) (hb : Binds K fd ["entries", "rows", "prime"] []) : Fd P w K mg base 1 "combined" 3 m_combined :=
  fd_of (k := 0) D sc_combined hm hb fun cdv A outer s H E hr =>
    sds_cons (sd_set 3 sc_combined.nd rfl (by first | exact Or.inl rfl | exact Or.inr rfl) rfl (by first | exact .inl rfl | exact .inr rfl) (ed_callB call_len opc_len rfl T.b_len PySem.boot_len (by decide) (by decide) rfl rfl (ad_cons rfl (ed_ix (by intro _ _; rfl) (ed_var 1) (ed_int)) (ad_nil)))) (sds_one (sd_ret (ed_callT call_tuple_of opc_tup rfl T.b_tuple PyProof.Rows.boot_tuple (by decide) (by decide) rfl rfl (ad_cons rfl (ed_lc (own := [("at", 4)]) rfl sc_combined.nd (blkOk_by (by kernel_rfl)) (by decide) (id_r1 rfl T.b_range rfl (ed_var 3)) (fun _ _ _ _ _ => gd_name 4 sc_combined.nd rfl (by first | exact Or.inl rfl | exact Or.inr rfl) (by first | exact .inl rfl | exact .inr rfl)) (fun _ _ _ _ _ => tsd_nil) (fun _ _ _ _ _ => ed_mod (ed_callB (cr_sum rfl) opc_sum rfl T.b_sum (by decide +kernel) (by decide) (by decide) rfl rfl (ad_cons rfl (ed_lc (own := [("entry", 5), ("row", 6)]) rfl sc_combined.nd (blkOk_by (by kernel_rfl)) (by decide) (id_zip rfl T.b_zip rfl rfl rfl (ed_var 0) (ed_var 1)) (fun _ _ _ _ _ => gd_tup rfl rfl rfl (gds_cons rfl (gd_name 5 sc_combined.nd rfl (by first | exact Or.inl rfl | exact Or.inr rfl) (by first | exact .inl rfl | exact .inr rfl)) (gds_cons rfl (gd_name 6 sc_combined.nd rfl (by first | exact Or.inl rfl | exact Or.inr rfl) (by first | exact .inl rfl | exact .inr rfl)) (gds_nil)))) (fun _ _ _ _ _ => tsd_nil) (fun _ _ _ _ _ => ed_mul (ed_var 5) (ed_ix (by intro _ _; rfl) (ed_var 6) (ed_var 4)))) (ad_nil))) (ed_var 2))) (ad_nil)))))
/-! ### product_of -/
abbrev s_product_of : Stmt := topS 18
theorem sc_product_of : FnScope ["one", "other", "prime", "row"] ["one", "other", "prime"] (defScope s_product_of) := ⟨rfl, rfl, rfl, by decide +kernel, rfl, by decide +kernel, by decide +kernel⟩
def S_product_of : SF :=
  sRet (eCall tupOf (aCons (eLc (iAny (eVar 0)) (setD 3) (tYs) (eUser 3 (m_combined) (cD (eVar 3) (cD (eVar 1) (cD (eVar 2) (cNil))))) [3]) (aNil)))
def m_product_of : Fn := mkFn 4 S_product_of
theorem fd_product_of {f : Addr} {fd : FuncData} (T : Facts K mg) (D : FunD K "product_of" "product_of" (defArgs s_product_of) (defBody s_product_of) (defScope s_product_of) [] [] f fd) (hm : mg "product_of" = some (.ref f)) (hb : Binds K fd ["one", "other", "prime"] []) (c_combined : Fd P w K mg base 1 "combined" 3 (m_combined)) : Fd P w K mg base 2 "product_of" 3 m_product_of :=
  fd_of (k := 1) D sc_product_of hm hb fun cdv A outer s H E hr =>
    sds_one (sd_ret (ed_callT call_tuple_of opc_tup rfl T.b_tuple PyProof.Rows.boot_tuple (by decide) (by decide) rfl rfl (ad_cons rfl (ed_lc (own := [("row", 3)]) rfl sc_product_of.nd (blkOk_by (by kernel_rfl)) (by decide) (id_any (ed_var 0)) (fun _ _ _ _ _ => gd_name 3 sc_product_of.nd rfl (by first | exact Or.inl rfl | exact Or.inr rfl) (by first | exact .inl rfl | exact .inr rfl)) (fun _ _ _ _ _ => tsd_nil) (fun _ _ _ _ _ => ed_call c_combined hr takes0 rfl (by decide) (by decide) rfl rfl (cd_d rfl (ed_var 3) (cd_d rfl (ed_var 1) (cd_d rfl (ed_var 2) (cd_nil)))))) (ad_nil))))
/-! ### transpose_of -/
abbrev s_transpose_of : Stmt := topS 19
theorem sc_transpose_of : FnScope ["one", "at", "row"] ["one"] (defScope s_transpose_of) := ⟨rfl, rfl, rfl, by decide +kernel, rfl, by decide +kernel, by decide +kernel⟩
def S_transpose_of : SF :=
  sRet (eCall tupOf (aCons (eLc (iR1 (eCall lenD (aCons (eOp ixD (eVar 0) (eC (.int 0))) (aNil)))) (setD 1) (tYs) (eCall tupOf (aCons (eLc (iAny (eVar 0)) (setD 2) (tYs) (eOp ixD (eVar 2) (eVar 1)) [2]) (aNil))) [1]) (aNil)))
def m_transpose_of : Fn := mkFn 3 S_transpose_of
theorem fd_transpose_of {f : Addr} {fd : FuncData} (T : Facts K mg) (D : FunD K "transpose_of" "transpose_of" (defArgs s_transpose_of) (defBody s_transpose_of) (defScope s_transpose_of) [] [] f fd) (hm : mg "transpose_of" = some (.ref f)) (hb : Binds K fd ["one"] []) : Fd P w K mg base 1 "transpose_of" 1 m_transpose_of :=
  fd_of (k := 0) D sc_transpose_of hm hb fun cdv A outer s H E hr =>
    sds_one (sd_ret (ed_callT call_tuple_of opc_tup rfl T.b_tuple PyProof.Rows.boot_tuple (by decide) (by decide) rfl rfl (ad_cons rfl (ed_lc (own := [("at", 1)]) rfl sc_transpose_of.nd (blkOk_by (by kernel_rfl)) (by decide) (id_r1 rfl T.b_range rfl (ed_callB call_len opc_len rfl T.b_len PySem.boot_len (by decide) (by decide) rfl rfl (ad_cons rfl (ed_ix (by intro _ _; rfl) (ed_var 0) (ed_int)) (ad_nil)))) (fun _ _ _ _ _ => gd_name 1 sc_transpose_of.nd rfl (by first | exact Or.inl rfl | exact Or.inr rfl) (by first | exact .inl rfl | exact .inr rfl)) (fun _ _ _ _ _ => tsd_nil) (fun _ _ _ _ _ => ed_callT call_tuple_of opc_tup rfl T.b_tuple PyProof.Rows.boot_tuple (by decide) (by decide) rfl rfl (ad_cons rfl (ed_lc (own := [("row", 2)]) rfl sc_transpose_of.nd (blkOk_by (by kernel_rfl)) (by decide) (id_any (ed_var 0)) (fun _ _ _ _ _ => gd_name 2 sc_transpose_of.nd rfl (by first | exact Or.inl rfl | exact Or.inr rfl) (by first | exact .inl rfl | exact .inr rfl)) (fun _ _ _ _ _ => tsd_nil) (fun _ _ _ _ _ => ed_ix (by intro _ _; rfl) (ed_var 2) (ed_var 1))) (ad_nil)))) (ad_nil))))
/-! ### identity_of -/
abbrev s_identity_of : Stmt := topS 20
theorem sc_identity_of : FnScope ["size", "row", "column"] ["size"] (defScope s_identity_of) := ⟨rfl, rfl, rfl, by decide +kernel, rfl, by decide +kernel, by decide +kernel⟩
def S_identity_of : SF :=
  sRet (eCall tupOf (aCons (eLc (iR1 (eVar 0)) (setD 1) (tYs) (eCall tupOf (aCons (eLc (iR1 (eVar 0)) (setD 2) (tYs) (eIf (tBo (eOp eqD (eVar 1) (eVar 2))) (eC (.int 1)) (eC (.int 0))) [2]) (aNil))) [1]) (aNil)))
def m_identity_of : Fn := mkFn 3 S_identity_of
theorem fd_identity_of {f : Addr} {fd : FuncData} (T : Facts K mg) (D : FunD K "identity_of" "identity_of" (defArgs s_identity_of) (defBody s_identity_of) (defScope s_identity_of) [] [] f fd) (hm : mg "identity_of" = some (.ref f)) (hb : Binds K fd ["size"] []) : Fd P w K mg base 1 "identity_of" 1 m_identity_of :=
  fd_of (k := 0) D sc_identity_of hm hb fun cdv A outer s H E hr =>
    sds_one (sd_ret (ed_callT call_tuple_of opc_tup rfl T.b_tuple PyProof.Rows.boot_tuple (by decide) (by decide) rfl rfl (ad_cons rfl (ed_lc (own := [("row", 1)]) rfl sc_identity_of.nd (blkOk_by (by kernel_rfl)) (by decide) (id_r1 rfl T.b_range rfl (ed_var 0)) (fun _ _ _ _ _ => gd_name 1 sc_identity_of.nd rfl (by first | exact Or.inl rfl | exact Or.inr rfl) (by first | exact .inl rfl | exact .inr rfl)) (fun _ _ _ _ _ => tsd_nil) (fun _ _ _ _ _ => ed_callT call_tuple_of opc_tup rfl T.b_tuple PyProof.Rows.boot_tuple (by decide) (by decide) rfl rfl (ad_cons rfl (ed_lc (own := [("column", 2)]) rfl sc_identity_of.nd (blkOk_by (by kernel_rfl)) (by decide) (id_r1 rfl T.b_range rfl (ed_var 0)) (fun _ _ _ _ _ => gd_name 2 sc_identity_of.nd rfl (by first | exact Or.inl rfl | exact Or.inr rfl) (by first | exact .inl rfl | exact .inr rfl)) (fun _ _ _ _ _ => tsd_nil) (fun _ _ _ _ _ => ed_if (td_eq (hu64 hr) (ed_var 1) (ed_var 2)) (ed_int) (ed_int))) (ad_nil)))) (ad_nil))))
/-! ### matrix_product -/
abbrev s_matrix_product : Stmt := topS 21
theorem sc_matrix_product : FnScope ["one", "other", "prime"] ["one", "other", "prime"] (defScope s_matrix_product) := ⟨rfl, rfl, rfl, by decide +kernel, rfl, by decide +kernel, by decide +kernel⟩
def S_matrix_product : SF :=
  sSeq (sDrop (eUser 2 (m_need_matrices) (cD (eTup (aCons (eVar 0) (aCons (eVar 1) (aNil)))) (cD (eVar 2) (cNil))))) (sSeq (sIf (tBo (eOp neD (eCall lenD (aCons (eOp ixD (eVar 0) (eC (.int 0))) (aNil))) (eCall lenD (aCons (eVar 1) (aNil))))) (sNever) (sNx)) (sRet (eUser 3 (m_product_of) (cD (eVar 0) (cD (eVar 1) (cD (eVar 2) (cNil)))))))
def m_matrix_product : Fn := mkFn 3 S_matrix_product
theorem fd_matrix_product {f : Addr} {fd : FuncData} (T : Facts K mg) (D : FunD K "matrix_product" "matrix_product" (defArgs s_matrix_product) (defBody s_matrix_product) (defScope s_matrix_product) [] [] f fd) (hm : mg "matrix_product" = some (.ref f)) (hb : Binds K fd ["one", "other", "prime"] []) (c_need_matrices : Fd P w K mg base 5 "need_matrices" 2 (m_need_matrices)) (c_product_of : Fd P w K mg base 2 "product_of" 3 (m_product_of)) : Fd P w K mg base 6 "matrix_product" 3 m_matrix_product :=
  fd_of (k := 5) D sc_matrix_product hm hb fun cdv A outer s H E hr =>
    sds_cons (sd_expr rfl (ed_call c_need_matrices hr bx_takes rfl (by decide) (by decide) rfl rfl (cd_d rfl (ed_tup (ad_cons rfl (ed_var 0) (ad_cons rfl (ed_var 1) (ad_nil)))) (cd_d rfl (ed_var 2) (cd_nil))))) (sds_cons (sd_if (td_ne (hu64 hr) (ed_callB call_len opc_len rfl T.b_len PySem.boot_len (by decide) (by decide) rfl rfl (ad_cons rfl (ed_ix (by intro _ _; rfl) (ed_var 0) (ed_int)) (ad_nil))) (ed_callB call_len opc_len rfl T.b_len PySem.boot_len (by decide) (by decide) rfl rfl (ad_cons rfl (ed_var 1) (ad_nil)))) (sds_never) (sds_nil)) (sds_one (sd_ret (ed_call c_product_of hr bx_takes rfl (by decide) (by decide) rfl rfl (cd_d rfl (ed_var 0) (cd_d rfl (ed_var 1) (cd_d rfl (ed_var 2) (cd_nil))))))))
/-! ### kronecker_row -/
abbrev s_kronecker_row : Stmt := topS 22
theorem sc_kronecker_row : FnScope ["left", "right", "prime", "row", "entry", "factor"] ["left", "right", "prime"] (defScope s_kronecker_row) := ⟨rfl, rfl, rfl, by decide +kernel, rfl, by decide +kernel, by decide +kernel⟩
def S_kronecker_row : SF :=
  sSeq (sAsg (eLst (aNil)) (setD 3)) (sSeq (sFor (iAny (eVar 0)) (setD 4) (sAsg (eOp addD (eVar 3) (eLc (iAny (eVar 1)) (setD 5) (tYs) (eOp modD (eOp mulD (eVar 4) (eVar 5)) (eVar 2)) [5])) (setD 3))) (sRet (eCall tupOf (aCons (eVar 3) (aNil)))))
def m_kronecker_row : Fn := mkFn 6 S_kronecker_row
theorem fd_kronecker_row {f : Addr} {fd : FuncData} (T : Facts K mg) (D : FunD K "kronecker_row" "kronecker_row" (defArgs s_kronecker_row) (defBody s_kronecker_row) (defScope s_kronecker_row) [] [] f fd) (hm : mg "kronecker_row" = some (.ref f)) (hb : Binds K fd ["left", "right", "prime"] []) : Fd P w K mg base 1 "kronecker_row" 3 m_kronecker_row :=
  fd_of (k := 0) D sc_kronecker_row hm hb fun cdv A outer s H E hr =>
    sds_cons (sd_set 3 sc_kronecker_row.nd rfl (by first | exact Or.inl rfl | exact Or.inr rfl) rfl (by first | exact .inl rfl | exact .inr rfl) (ed_lst (ad_nil))) (sds_cons (sd_for bx_passes rfl (by intro _; rfl) (id_any (ed_var 0)) (gd_name 4 sc_kronecker_row.nd rfl (by first | exact Or.inl rfl | exact Or.inr rfl) (by first | exact .inl rfl | exact .inr rfl)) (sds_one (sd_set 3 sc_kronecker_row.nd rfl (by first | exact Or.inl rfl | exact Or.inr rfl) rfl (by first | exact .inl rfl | exact .inr rfl) (ed_add (ed_var 3) (ed_lc (own := [("factor", 5)]) rfl sc_kronecker_row.nd (blkOk_by (by kernel_rfl)) (by decide) (id_any (ed_var 1)) (fun _ _ _ _ _ => gd_name 5 sc_kronecker_row.nd rfl (by first | exact Or.inl rfl | exact Or.inr rfl) (by first | exact .inl rfl | exact .inr rfl)) (fun _ _ _ _ _ => tsd_nil) (fun _ _ _ _ _ => ed_mod (ed_mul (ed_var 4) (ed_var 5)) (ed_var 2))))))) (sds_one (sd_ret (ed_callT call_tuple_of opc_tup rfl T.b_tuple PyProof.Rows.boot_tuple (by decide) (by decide) rfl rfl (ad_cons rfl (ed_var 3) (ad_nil))))))
/-! ### kronecker -/
abbrev s_kronecker : Stmt := topS 23
theorem sc_kronecker : FnScope ["one", "other", "prime", "rows", "left", "right"] ["one", "other", "prime"] (defScope s_kronecker) := ⟨rfl, rfl, rfl, by decide +kernel, rfl, by decide +kernel, by decide +kernel⟩
def S_kronecker : SF :=
  sSeq (sDrop (eUser 2 (m_need_matrices) (cD (eTup (aCons (eVar 0) (aCons (eVar 1) (aNil)))) (cD (eVar 2) (cNil))))) (sSeq (sIf (tOr' (tBo (eOp gtD (eOp mulD (eCall lenD (aCons (eVar 0) (aNil))) (eCall lenD (aCons (eVar 1) (aNil)))) (eC (.int 81)))) (tBo (eOp gtD (eOp mulD (eCall lenD (aCons (eOp ixD (eVar 0) (eC (.int 0))) (aNil))) (eCall lenD (aCons (eOp ixD (eVar 1) (eC (.int 0))) (aNil)))) (eC (.int 81))))) (sNever) (sNx)) (sSeq (sAsg (eLst (aNil)) (setD 3)) (sSeq (sFor (iAny (eVar 0)) (setD 4) (sAsg (eOp addD (eVar 3) (eLc (iAny (eVar 1)) (setD 5) (tYs) (eUser 3 (m_kronecker_row) (cD (eVar 4) (cD (eVar 5) (cD (eVar 2) (cNil))))) [5])) (setD 3))) (sRet (eCall tupOf (aCons (eVar 3) (aNil)))))))
def m_kronecker : Fn := mkFn 6 S_kronecker
theorem fd_kronecker {f : Addr} {fd : FuncData} (T : Facts K mg) (D : FunD K "kronecker" "kronecker" (defArgs s_kronecker) (defBody s_kronecker) (defScope s_kronecker) [] [] f fd) (hm : mg "kronecker" = some (.ref f)) (hb : Binds K fd ["one", "other", "prime"] []) (c_need_matrices : Fd P w K mg base 5 "need_matrices" 2 (m_need_matrices)) (c_kronecker_row : Fd P w K mg base 1 "kronecker_row" 3 (m_kronecker_row)) : Fd P w K mg base 6 "kronecker" 3 m_kronecker :=
  fd_of (k := 5) D sc_kronecker hm hb fun cdv A outer s H E hr =>
    sds_cons (sd_expr rfl (ed_call c_need_matrices hr bx_takes rfl (by decide) (by decide) rfl rfl (cd_d rfl (ed_tup (ad_cons rfl (ed_var 0) (ad_cons rfl (ed_var 1) (ad_nil)))) (cd_d rfl (ed_var 2) (cd_nil))))) (sds_cons (sd_if (td_bo (wd_or (td_gt (ed_mul (ed_callB call_len opc_len rfl T.b_len PySem.boot_len (by decide) (by decide) rfl rfl (ad_cons rfl (ed_var 0) (ad_nil))) (ed_callB call_len opc_len rfl T.b_len PySem.boot_len (by decide) (by decide) rfl rfl (ad_cons rfl (ed_var 1) (ad_nil)))) (ed_glob rfl T.g_LARGEST)) (wd_or1 (td_gt (ed_mul (ed_callB call_len opc_len rfl T.b_len PySem.boot_len (by decide) (by decide) rfl rfl (ad_cons rfl (ed_ix (by intro _ _; rfl) (ed_var 0) (ed_int)) (ad_nil))) (ed_callB call_len opc_len rfl T.b_len PySem.boot_len (by decide) (by decide) rfl rfl (ad_cons rfl (ed_ix (by intro _ _; rfl) (ed_var 1) (ed_int)) (ad_nil)))) (ed_glob rfl T.g_LARGEST))))) (sds_never) (sds_nil)) (sds_cons (sd_set 3 sc_kronecker.nd rfl (by first | exact Or.inl rfl | exact Or.inr rfl) rfl (by first | exact .inl rfl | exact .inr rfl) (ed_lst (ad_nil))) (sds_cons (sd_for bx_passes rfl (by intro _; rfl) (id_any (ed_var 0)) (gd_name 4 sc_kronecker.nd rfl (by first | exact Or.inl rfl | exact Or.inr rfl) (by first | exact .inl rfl | exact .inr rfl)) (sds_one (sd_set 3 sc_kronecker.nd rfl (by first | exact Or.inl rfl | exact Or.inr rfl) rfl (by first | exact .inl rfl | exact .inr rfl) (ed_add (ed_var 3) (ed_lc (own := [("right", 5)]) rfl sc_kronecker.nd (blkOk_by (by kernel_rfl)) (by decide) (id_any (ed_var 1)) (fun _ _ _ _ _ => gd_name 5 sc_kronecker.nd rfl (by first | exact Or.inl rfl | exact Or.inr rfl) (by first | exact .inl rfl | exact .inr rfl)) (fun _ _ _ _ _ => tsd_nil) (fun _ _ _ _ _ => ed_call c_kronecker_row hr takes0 rfl (by decide) (by decide) rfl rfl (cd_d rfl (ed_var 4) (cd_d rfl (ed_var 5) (cd_d rfl (ed_var 2) (cd_nil)))))))))) (sds_one (sd_ret (ed_callT call_tuple_of opc_tup rfl T.b_tuple PyProof.Rows.boot_tuple (by decide) (by decide) rfl rfl (ad_cons rfl (ed_var 3) (ad_nil))))))))
/-! ### identity_matrix -/
abbrev s_identity_matrix : Stmt := topS 24
theorem sc_identity_matrix : FnScope ["size"] ["size"] (defScope s_identity_matrix) := ⟨rfl, rfl, rfl, by decide +kernel, rfl, by decide +kernel, by decide +kernel⟩
def S_identity_matrix : SF :=
  sSeq (sDrop (eUser 3 (m_need_whole) (cD (eVar 0) (cD (eC (.int 1)) (cD (eC (.int 81)) (cNil)))))) (sRet (eUser 1 (m_identity_of) (cD (eVar 0) (cNil))))
def m_identity_matrix : Fn := mkFn 1 S_identity_matrix
theorem fd_identity_matrix {f : Addr} {fd : FuncData} (T : Facts K mg) (D : FunD K "identity_matrix" "identity_matrix" (defArgs s_identity_matrix) (defBody s_identity_matrix) (defScope s_identity_matrix) [] [] f fd) (hm : mg "identity_matrix" = some (.ref f)) (hb : Binds K fd ["size"] []) (c_need_whole : Fd P w K mg base 2 "need_whole" 3 (m_need_whole)) (c_identity_of : Fd P w K mg base 1 "identity_of" 1 (m_identity_of)) : Fd P w K mg base 3 "identity_matrix" 1 m_identity_matrix :=
  fd_of (k := 2) D sc_identity_matrix hm hb fun cdv A outer s H E hr =>
    sds_cons (sd_expr rfl (ed_call c_need_whole hr bx_takes rfl (by decide) (by decide) rfl rfl (cd_d rfl (ed_var 0) (cd_d rfl (ed_int) (cd_d rfl (ed_glob rfl T.g_LARGEST) (cd_nil)))))) (sds_one (sd_ret (ed_call c_identity_of hr bx_takes rfl (by decide) (by decide) rfl rfl (cd_d rfl (ed_var 0) (cd_nil)))))
/-! ### transposed -/
abbrev s_transposed : Stmt := topS 25
theorem sc_transposed : FnScope ["one", "prime"] ["one", "prime"] (defScope s_transposed) := ⟨rfl, rfl, rfl, by decide +kernel, rfl, by decide +kernel, by decide +kernel⟩
def S_transposed : SF :=
  sSeq (sDrop (eUser 2 (m_need_matrices) (cD (eTup (aCons (eVar 0) (aNil))) (cD (eVar 1) (cNil))))) (sRet (eUser 1 (m_transpose_of) (cD (eVar 0) (cNil))))
def m_transposed : Fn := mkFn 2 S_transposed
theorem fd_transposed {f : Addr} {fd : FuncData} (T : Facts K mg) (D : FunD K "transposed" "transposed" (defArgs s_transposed) (defBody s_transposed) (defScope s_transposed) [] [] f fd) (hm : mg "transposed" = some (.ref f)) (hb : Binds K fd ["one", "prime"] []) (c_need_matrices : Fd P w K mg base 5 "need_matrices" 2 (m_need_matrices)) (c_transpose_of : Fd P w K mg base 1 "transpose_of" 1 (m_transpose_of)) : Fd P w K mg base 6 "transposed" 2 m_transposed :=
  fd_of (k := 5) D sc_transposed hm hb fun cdv A outer s H E hr =>
    sds_cons (sd_expr rfl (ed_call c_need_matrices hr bx_takes rfl (by decide) (by decide) rfl rfl (cd_d rfl (ed_tup (ad_cons rfl (ed_var 0) (ad_nil))) (cd_d rfl (ed_var 1) (cd_nil))))) (sds_one (sd_ret (ed_call c_transpose_of hr bx_takes rfl (by decide) (by decide) rfl rfl (cd_d rfl (ed_var 0) (cd_nil)))))
/-! ### _law_cup -/
abbrev s__law_cup : Stmt := topS 27
theorem sc__law_cup : FnScope ["script", "cell"] ["script"] (defScope s__law_cup) := ⟨rfl, rfl, rfl, by decide +kernel, rfl, by decide +kernel, by decide +kernel⟩
theorem fd__law_cup {f : Addr} {fd : FuncData} (T : Facts K mg) (D : FunD K "_law_cup" "_law_cup" (defArgs s__law_cup) (defBody s__law_cup) (defScope s__law_cup) [] [] f fd) (hm : mg "_law_cup" = some (.ref f)) (hb : Binds K fd ["script"] []) : FdN P w K mg base 1 "_law_cup" 1 m__law_cup :=
  fdN_of (k := 0) D sc__law_cup hm hb fun cdv A outer s H E hr =>
    sdn_cons (sd_set 1 sc__law_cup.nd rfl (by first | exact Or.inl rfl | exact Or.inr rfl) rfl (by first | exact .inl rfl | exact .inr rfl) (ed_callB call_abs opc_abs rfl T.b_abs (by decide +kernel) (by decide) (by decide) rfl rfl (ad_cons rfl (ed_ix (by intro _ _; rfl) (ed_add (ed_listS 0 rfl T.b_list) (ed_lst (ad_cons rfl (ed_int) (ad_nil)))) (ed_int)) (ad_nil)))) (sdn_ret (nd_lst (ad_cons rfl (ed_if (td_ge (ed_var 1) (ed_pow (ed_int) (ed_int))) (ed_div (ed_var 1) (ed_int)) (ed_int)) (ad_cons rfl (ed_add (ed_mod (ed_callT call_int1 opc_int rfl T.b_int (by decide +kernel) (by decide) (by decide) rfl rfl (ad_cons rfl (ed_add (ed_mul (ed_var 1) (ed_int)) (ed_int)) (ad_nil))) (ed_int)) (ed_int)) (ad_nil)))))
/-! ### _law_roll -/
abbrev s__law_roll : Stmt := topS 28
theorem sc__law_roll : FnScope ["cup", "many", "found", "deep"] ["cup", "many"] (defScope s__law_roll) := ⟨rfl, rfl, rfl, by decide +kernel, rfl, by decide +kernel, by decide +kernel⟩
theorem fd__law_roll {f : Addr} {fd : FuncData} (T : Facts K mg) (D : FunD K "_law_roll" "_law_roll" (defArgs s__law_roll) (defBody s__law_roll) (defScope s__law_roll) [] [] f fd) (hm : mg "_law_roll" = some (.ref f)) (hb : Binds K fd ["cup", "many"] []) : Fd P w K mg base 1 "_law_roll" 2 m__law_roll :=
  fd_of (k := 0) D sc__law_roll hm hb fun cdv A outer s H E hr =>
    sds_cons (sd_if (td_gt (ed_ixM 0 rfl (by first | exact Or.inl rfl | exact Or.inr (Or.inl rfl) | exact Or.inr (Or.inr rfl)) (by decide) (by decide) (by intro _ _; rfl) (ed_int)) (ed_int)) (sds_cons (sd_set 2 sc__law_roll.nd rfl (by first | exact Or.inl rfl | exact Or.inr rfl) rfl (by first | exact .inl rfl | exact .inr rfl) (ed_mod (ed_callT call_int1 opc_int rfl T.b_int (by decide +kernel) (by decide) (by decide) rfl rfl (ad_cons rfl (ed_ixM 0 rfl (by first | exact Or.inl rfl | exact Or.inr (Or.inl rfl) | exact Or.inr (Or.inr rfl)) (by decide) (by decide) (by intro _ _; rfl) (ed_int)) (ad_nil))) (ed_var 1))) (sds_cons (sd_setI 0 rfl (by first | exact Or.inl rfl | exact Or.inr (Or.inl rfl) | exact Or.inr (Or.inr rfl)) (by decide) (by decide) (by intro _; rfl) rfl rfl rfl (ed_int) (ed_div (ed_ixM 0 rfl (by first | exact Or.inl rfl | exact Or.inr (Or.inl rfl) | exact Or.inr (Or.inr rfl)) (by decide) (by decide) (by intro _ _; rfl) (ed_int)) (ed_var 1))) (sds_one (sd_ret (ed_var 2))))) (sds_nil)) (sds_cons (sd_setI 0 rfl (by first | exact Or.inl rfl | exact Or.inr (Or.inl rfl) | exact Or.inr (Or.inr rfl)) (by decide) (by decide) (by intro _; rfl) rfl rfl rfl (ed_int) (ed_mod (ed_callT call_int1 opc_int rfl T.b_int (by decide +kernel) (by decide) (by decide) rfl rfl (ad_cons rfl (ed_add (ed_mul (ed_ixM 0 rfl (by first | exact Or.inl rfl | exact Or.inr (Or.inl rfl) | exact Or.inr (Or.inr rfl)) (by decide) (by decide) (by intro _ _; rfl) (ed_int)) (ed_int)) (ed_int)) (ad_nil))) (ed_int))) (sds_cons (sd_set 3 sc__law_roll.nd rfl (by first | exact Or.inl rfl | exact Or.inr rfl) rfl (by first | exact .inl rfl | exact .inr rfl) (ed_mod (ed_callT call_int1 opc_int rfl T.b_int (by decide +kernel) (by decide) (by decide) rfl rfl (ad_cons rfl (ed_mul (ed_ixM 0 rfl (by first | exact Or.inl rfl | exact Or.inr (Or.inl rfl) | exact Or.inr (Or.inr rfl)) (by decide) (by decide) (by intro _ _; rfl) (ed_int)) (ed_add (ed_ixM 0 rfl (by first | exact Or.inl rfl | exact Or.inr (Or.inl rfl) | exact Or.inr (Or.inr rfl)) (by decide) (by decide) (by intro _ _; rfl) (ed_int)) (ed_int))) (ad_nil))) (ed_int))) (sds_one (sd_ret (ed_mod (ed_callT call_int1 opc_int rfl T.b_int (by decide +kernel) (by decide) (by decide) rfl rfl (ad_cons rfl (ed_div (ed_var 3) (ed_int)) (ad_nil))) (ed_var 1))))))
/-! ### _law_some -/
abbrev s__law_some : Stmt := topS 29
theorem sc__law_some : FnScope ["cup", "things"] ["cup", "things"] (defScope s__law_some) := ⟨rfl, rfl, rfl, by decide +kernel, rfl, by decide +kernel, by decide +kernel⟩
theorem fd__law_some {f : Addr} {fd : FuncData} (T : Facts K mg) (D : FunD K "_law_some" "_law_some" (defArgs s__law_some) (defBody s__law_some) (defScope s__law_some) [] [] f fd) (hm : mg "_law_some" = some (.ref f)) (hb : Binds K fd ["cup", "things"] []) (c__law_roll : Fd P w K mg base 1 "_law_roll" 2 (m__law_roll)) : Fd P w K mg base 2 "_law_some" 2 m__law_some :=
  fd_of (k := 1) D sc__law_some hm hb fun cdv A outer s H E hr =>
    sds_one (sd_ret (ed_ix (by intro _ _; rfl) (ed_var 1) (ed_call c__law_roll hr bx_takes rfl (by decide) (by decide) rfl rfl (cd_r 0 rfl (by first | exact Or.inl rfl | exact Or.inr (Or.inl rfl) | exact Or.inr (Or.inr rfl)) (by decide) (by decide) rfl (cd_d rfl (ed_callB call_len opc_len rfl T.b_len PySem.boot_len (by decide) (by decide) rfl rfl (ad_cons rfl (ed_var 1) (ad_nil))) (cd_nil))))))
/-! ### _law_sort -/
abbrev s__law_sort : Stmt := topS 30
theorem sc__law_sort : FnScope ["value"] ["value"] (defScope s__law_sort) := ⟨rfl, rfl, rfl, by decide +kernel, rfl, by decide +kernel, by decide +kernel⟩
theorem fd__law_sort {f : Addr} {fd : FuncData} (T : Facts K mg) (D : FunD K "_law_sort" "_law_sort" (defArgs s__law_sort) (defBody s__law_sort) (defScope s__law_sort) [] [] f fd) (hm : mg "_law_sort" = some (.ref f)) (hb : Binds K fd ["value"] []) : Fd P w K mg base 1 "_law_sort" 1 m__law_sort :=
  fd_of (k := 0) D sc__law_sort hm hb fun cdv A outer s H E hr =>
    sds_cons (sd_if (td_bo (wd_or (td_isN (ed_var 0) (ed_non)) (wd_or1 (td_val (by intro _; rfl) (ed_isi kitT_bool rfl T.b_isinstance rfl T.b_bool (by decide +kernel) (by decide) (by decide) rfl rfl rfl (ed_var 0)))))) (sds_one (sd_ret (ed_if (td_isN (ed_var 0) (ed_non)) (ed_int) (ed_int)))) (sds_nil)) (sds_cons (sd_if (td_bo (wd_or (td_val (by intro _; rfl) (ed_isi kitT_int rfl T.b_isinstance rfl T.b_int (by decide +kernel) (by decide) (by decide) rfl rfl rfl (ed_var 0))) (wd_or1 (td_val (by intro _; rfl) (ed_isi kitT_str rfl T.b_isinstance rfl T.b_str (by decide +kernel) (by decide) (by decide) rfl rfl rfl (ed_var 0)))))) (sds_one (sd_ret (ed_if (td_val (by intro _; rfl) (ed_isi kitT_int rfl T.b_isinstance rfl T.b_int (by decide +kernel) (by decide) (by decide) rfl rfl rfl (ed_var 0))) (ed_int) (ed_int)))) (sds_nil)) (sds_one (sd_ret (ed_if (td_val (by intro _; rfl) (ed_isi kitT_tuple rfl T.b_isinstance rfl T.b_tuple (by decide +kernel) (by decide) (by decide) rfl rfl rfl (ed_var 0))) (ed_int) (ed_if (td_val (by intro _; rfl) (ed_isi kitT_list rfl T.b_isinstance rfl T.b_list (by decide +kernel) (by decide) (by decide) rfl rfl rfl (ed_var 0))) (ed_int) (ed_int))))))
/-! ### _law_like -/
abbrev s__law_like : Stmt := topS 31
theorem sc__law_like : FnScope ["one", "other", "sort", "first", "second"] ["one", "other"] (defScope s__law_like) := ⟨rfl, rfl, rfl, by decide +kernel, rfl, by decide +kernel, by decide +kernel⟩
theorem fdn__law_like {f : Addr} {fd : FuncData} (T : Facts K mg) (D : FunD K "_law_like" "_law_like" (defArgs s__law_like) (defBody s__law_like) (defScope s__law_like) [] [] f fd) (hm : mg "_law_like" = some (.ref f)) (hb : Binds K fd ["one", "other"] []) (c__law_sort : Fd P w K mg base 1 "_law_sort" 1 (m__law_sort)) : ∀ j : Nat, Fd P w K mg base (1 + j) "_law_like" 2 (m__law_like j)
  | 0 => fd_bad D hm hb
  | j + 1 => by
    have ih := fdn__law_like T D hm hb c__law_sort j
    show Fd P w K mg base (1 + j + 1) "_law_like" 2 (mkFn 5 (S__law_like (m__law_like j)))
    generalize m__law_like j = self at ih ⊢
    exact fd_of (k := 1 + j) D sc__law_like hm hb fun cdv A outer s H E hr =>
      sds_cons (sd_set 2 sc__law_like.nd rfl (by first | exact Or.inl rfl | exact Or.inr rfl) rfl (by first | exact .inl rfl | exact .inr rfl) (ed_call c__law_sort hr bx_takes rfl (by omega) (by decide) rfl rfl (cd_d rfl (ed_var 1) (cd_nil)))) (sds_cons (sd_if (td_bo (wd_or (td_ne (hu64 hr) (ed_call c__law_sort hr bx_takes rfl (by omega) (by decide) rfl rfl (cd_d rfl (ed_var 0) (cd_nil))) (ed_var 2)) (wd_or1 (td_eq (hu64 hr) (ed_var 2) (ed_int))))) (sds_one (sd_ret (ed_bl))) (sds_nil)) (sds_cons (sd_if (td_in (hu65 hr) (ed_var 2) (ed_tup (ad_cons rfl (ed_int) (ad_cons rfl (ed_int) (ad_nil))))) (sds_one (sd_ret (ed_and (ed_eq (hu64 hr) (ed_callB call_len opc_len rfl T.b_len PySem.boot_len (by decide) (by decide) rfl rfl (ad_cons rfl (ed_var 0) (ad_nil))) (ed_callB call_len opc_len rfl T.b_len PySem.boot_len (by decide) (by decide) rfl rfl (ad_cons rfl (ed_var 1) (ad_nil)))) (ed_one (ed_eq (hu64 hr) (ed_lc (own := [("first", 3), ("second", 4)]) rfl sc__law_like.nd (blkOk_by (by kernel_rfl)) (by decide) (id_zip rfl T.b_zip rfl rfl rfl (ed_var 0) (ed_var 1)) (fun _ _ _ _ _ => gd_tup rfl rfl rfl (gds_cons rfl (gd_name 3 sc__law_like.nd rfl (by first | exact Or.inl rfl | exact Or.inr rfl) (by first | exact .inl rfl | exact .inr rfl)) (gds_cons rfl (gd_name 4 sc__law_like.nd rfl (by first | exact Or.inl rfl | exact Or.inr rfl) (by first | exact .inl rfl | exact .inr rfl)) (gds_nil)))) (fun _ _ _ _ _ => tsd_one (td_not (td_val (by intro _; rfl) (ed_call ih hr takes0 rfl (by omega) (by decide) rfl rfl (cd_d rfl (ed_var 3) (cd_d rfl (ed_var 4) (cd_nil))))))) (fun _ _ _ _ _ => ed_int)) (ed_lst (ad_nil))))))) (sds_nil)) (sds_one (sd_ret (ed_eq (hu64 hr) (ed_var 0) (ed_var 1))))))
theorem fd__law_like {f : Addr} {fd : FuncData} (T : Facts K mg) (D : FunD K "_law_like" "_law_like" (defArgs s__law_like) (defBody s__law_like) (defScope s__law_like) [] [] f fd) (hm : mg "_law_like" = some (.ref f)) (hb : Binds K fd ["one", "other"] []) (c__law_sort : Fd P w K mg base 1 "_law_sort" 1 (m__law_sort)) : Fd P w K mg base 9 "_law_like" 2 (m__law_like 8) := fdn__law_like T D hm hb c__law_sort 8
/-! ### _law_matrix -/
abbrev s__law_matrix : Stmt := topS 32
theorem sc__law_matrix : FnScope ["cup", "prime", "rows", "columns", "row", "column"] ["cup", "prime", "rows", "columns"] (defScope s__law_matrix) := ⟨rfl, rfl, rfl, by decide +kernel, rfl, by decide +kernel, by decide +kernel⟩
def S__law_matrix : SF :=
  sRet (eCall tupOf (aCons (eLc (iR1 (eVar 2)) (setD 4) (tYs) (eCall tupOf (aCons (eLc (iR1 (eVar 3)) (setD 5) (tYs) (eUser 2 (m__law_roll) (cR 0 (cD (eVar 1) (cNil)))) [5]) (aNil))) [4]) (aNil)))
def m__law_matrix : Fn := mkFn 6 S__law_matrix
theorem fd__law_matrix {f : Addr} {fd : FuncData} (T : Facts K mg) (D : FunD K "_law_matrix" "_law_matrix" (defArgs s__law_matrix) (defBody s__law_matrix) (defScope s__law_matrix) [] [] f fd) (hm : mg "_law_matrix" = some (.ref f)) (hb : Binds K fd ["cup", "prime", "rows", "columns"] []) (c__law_roll : Fd P w K mg base 1 "_law_roll" 2 (m__law_roll)) : Fd P w K mg base 2 "_law_matrix" 4 m__law_matrix :=
  fd_of (k := 1) D sc__law_matrix hm hb fun cdv A outer s H E hr =>
    sds_one (sd_ret (ed_callT call_tuple_of opc_tup rfl T.b_tuple PyProof.Rows.boot_tuple (by decide) (by decide) rfl rfl (ad_cons rfl (ed_lc (own := [("row", 4)]) rfl sc__law_matrix.nd (blkOk_by (by kernel_rfl)) (by decide) (id_r1 rfl T.b_range rfl (ed_var 2)) (fun _ _ _ _ _ => gd_name 4 sc__law_matrix.nd rfl (by first | exact Or.inl rfl | exact Or.inr rfl) (by first | exact .inl rfl | exact .inr rfl)) (fun _ _ _ _ _ => tsd_nil) (fun _ _ _ _ _ => ed_callT call_tuple_of opc_tup rfl T.b_tuple PyProof.Rows.boot_tuple (by decide) (by decide) rfl rfl (ad_cons rfl (ed_lc (own := [("column", 5)]) rfl sc__law_matrix.nd (blkOk_by (by kernel_rfl)) (by decide) (id_r1 rfl T.b_range rfl (ed_var 3)) (fun _ _ _ _ _ => gd_name 5 sc__law_matrix.nd rfl (by first | exact Or.inl rfl | exact Or.inr rfl) (by first | exact .inl rfl | exact .inr rfl)) (fun _ _ _ _ _ => tsd_nil) (fun _ _ _ _ _ => ed_call c__law_roll hr takes0 rfl (by decide) (by decide) rfl rfl (cd_r 0 rfl (by first | exact Or.inl rfl | exact Or.inr (Or.inl rfl) | exact Or.inr (Or.inr rfl)) (by decide) (by decide) rfl (cd_d rfl (ed_var 1) (cd_nil))))) (ad_nil)))) (ad_nil))))
/-! ### _law_rules -/
abbrev s__law_rules : Stmt := topS 33
theorem sc__law_rules : FnScope ["a", "b", "c", "d", "prime", "left", "right", "whole"] ["a", "b", "c", "d", "prime"] (defScope s__law_rules) := ⟨rfl, rfl, rfl, by decide +kernel, rfl, by decide +kernel, by decide +kernel⟩
def S__law_rules : SF :=
  sSeq (sPar 5 6 (eUser 3 (m_matrix_product) (cD (eVar 0) (cD (eVar 1) (cD (eVar 4) (cNil))))) (eUser 3 (m_matrix_product) (cD (eVar 2) (cD (eVar 3) (cD (eVar 4) (cNil)))))) (sSeq (sAsg (eUser 3 (m_kronecker) (cD (eVar 5) (cD (eVar 6) (cD (eVar 4) (cNil))))) (setD 7)) (sSeq (sIf (tNo (tOf (eUser 2 (m__law_like 8) (cD (eUser 3 (m_matrix_product) (cD (eUser 3 (m_kronecker) (cD (eVar 0) (cD (eVar 2) (cD (eVar 4) (cNil))))) (cD (eUser 3 (m_kronecker) (cD (eVar 1) (cD (eVar 3) (cD (eVar 4) (cNil))))) (cD (eVar 4) (cNil))))) (cD (eVar 7) (cNil)))))) (sRet (eC (.bool false))) (sNx)) (sSeq (sIf (tNo (tOf (eUser 2 (m__law_like 8) (cD (eUser 3 (m_kronecker) (cD (eUser 3 (m_kronecker) (cD (eVar 0) (cD (eVar 1) (cD (eVar 4) (cNil))))) (cD (eVar 2) (cD (eVar 4) (cNil))))) (cD (eUser 3 (m_kronecker) (cD (eVar 0) (cD (eUser 3 (m_kronecker) (cD (eVar 1) (cD (eVar 2) (cD (eVar 4) (cNil))))) (cD (eVar 4) (cNil))))) (cNil)))))) (sRet (eC (.bool false))) (sNx)) (sSeq (sIf (tNo (tOf (eUser 2 (m__law_like 8) (cD (eUser 2 (m_transposed) (cD (eVar 5) (cD (eVar 4) (cNil)))) (cD (eUser 3 (m_matrix_product) (cD (eUser 2 (m_transposed) (cD (eVar 1) (cD (eVar 4) (cNil)))) (cD (eUser 2 (m_transposed) (cD (eVar 0) (cD (eVar 4) (cNil)))) (cD (eVar 4) (cNil))))) (cNil)))))) (sRet (eC (.bool false))) (sNx)) (sSeq (sIf (tNo (tOf (eUser 2 (m__law_like 8) (cD (eUser 2 (m_transposed) (cD (eVar 7) (cD (eVar 4) (cNil)))) (cD (eUser 3 (m_kronecker) (cD (eUser 2 (m_transposed) (cD (eVar 5) (cD (eVar 4) (cNil)))) (cD (eUser 2 (m_transposed) (cD (eVar 6) (cD (eVar 4) (cNil)))) (cD (eVar 4) (cNil))))) (cNil)))))) (sRet (eC (.bool false))) (sNx)) (sRet (eUser 2 (m__law_like 8) (cD (eUser 2 (m_transposed) (cD (eUser 2 (m_transposed) (cD (eVar 0) (cD (eVar 4) (cNil)))) (cD (eVar 4) (cNil)))) (cD (eVar 0) (cNil))))))))))
def m__law_rules : Fn := mkFn 8 S__law_rules
theorem fd__law_rules {f : Addr} {fd : FuncData} (T : Facts K mg) (D : FunD K "_law_rules" "_law_rules" (defArgs s__law_rules) (defBody s__law_rules) (defScope s__law_rules) [] [] f fd) (hm : mg "_law_rules" = some (.ref f)) (hb : Binds K fd ["a", "b", "c", "d", "prime"] []) (c_matrix_product : Fd P w K mg base 6 "matrix_product" 3 (m_matrix_product)) (c_kronecker : Fd P w K mg base 6 "kronecker" 3 (m_kronecker)) (c__law_like : Fd P w K mg base 9 "_law_like" 2 (m__law_like 8)) (c_transposed : Fd P w K mg base 6 "transposed" 2 (m_transposed)) : Fd P w K mg base 10 "_law_rules" 5 m__law_rules :=
  fd_of (k := 9) D sc__law_rules hm hb fun cdv A outer s H E hr =>
    sds_cons (sd_par 5 6 rfl sc__law_rules.nd rfl rfl (by decide) rfl rfl rfl rfl rfl rfl (ed_call c_matrix_product hr bx_takes rfl (by decide) (by decide) rfl rfl (cd_d rfl (ed_var 0) (cd_d rfl (ed_var 1) (cd_d rfl (ed_var 4) (cd_nil))))) (ed_call c_matrix_product hr bx_takes rfl (by decide) (by decide) rfl rfl (cd_d rfl (ed_var 2) (cd_d rfl (ed_var 3) (cd_d rfl (ed_var 4) (cd_nil)))))) (sds_cons (sd_set 7 sc__law_rules.nd rfl (by first | exact Or.inl rfl | exact Or.inr rfl) rfl (by first | exact .inl rfl | exact .inr rfl) (ed_call c_kronecker hr bx_takes rfl (by decide) (by decide) rfl rfl (cd_d rfl (ed_var 5) (cd_d rfl (ed_var 6) (cd_d rfl (ed_var 4) (cd_nil)))))) (sds_cons (sd_if (td_not (td_val (by intro _; rfl) (ed_call c__law_like hr bx_takes rfl (by decide) (by decide) rfl rfl (cd_d rfl (ed_call c_matrix_product hr bx_takes rfl (by decide) (by decide) rfl rfl (cd_d rfl (ed_call c_kronecker hr bx_takes rfl (by decide) (by decide) rfl rfl (cd_d rfl (ed_var 0) (cd_d rfl (ed_var 2) (cd_d rfl (ed_var 4) (cd_nil))))) (cd_d rfl (ed_call c_kronecker hr bx_takes rfl (by decide) (by decide) rfl rfl (cd_d rfl (ed_var 1) (cd_d rfl (ed_var 3) (cd_d rfl (ed_var 4) (cd_nil))))) (cd_d rfl (ed_var 4) (cd_nil))))) (cd_d rfl (ed_var 7) (cd_nil)))))) (sds_one (sd_ret (ed_bl))) (sds_nil)) (sds_cons (sd_if (td_not (td_val (by intro _; rfl) (ed_call c__law_like hr bx_takes rfl (by decide) (by decide) rfl rfl (cd_d rfl (ed_call c_kronecker hr bx_takes rfl (by decide) (by decide) rfl rfl (cd_d rfl (ed_call c_kronecker hr bx_takes rfl (by decide) (by decide) rfl rfl (cd_d rfl (ed_var 0) (cd_d rfl (ed_var 1) (cd_d rfl (ed_var 4) (cd_nil))))) (cd_d rfl (ed_var 2) (cd_d rfl (ed_var 4) (cd_nil))))) (cd_d rfl (ed_call c_kronecker hr bx_takes rfl (by decide) (by decide) rfl rfl (cd_d rfl (ed_var 0) (cd_d rfl (ed_call c_kronecker hr bx_takes rfl (by decide) (by decide) rfl rfl (cd_d rfl (ed_var 1) (cd_d rfl (ed_var 2) (cd_d rfl (ed_var 4) (cd_nil))))) (cd_d rfl (ed_var 4) (cd_nil))))) (cd_nil)))))) (sds_one (sd_ret (ed_bl))) (sds_nil)) (sds_cons (sd_if (td_not (td_val (by intro _; rfl) (ed_call c__law_like hr bx_takes rfl (by decide) (by decide) rfl rfl (cd_d rfl (ed_call c_transposed hr bx_takes rfl (by decide) (by decide) rfl rfl (cd_d rfl (ed_var 5) (cd_d rfl (ed_var 4) (cd_nil)))) (cd_d rfl (ed_call c_matrix_product hr bx_takes rfl (by decide) (by decide) rfl rfl (cd_d rfl (ed_call c_transposed hr bx_takes rfl (by decide) (by decide) rfl rfl (cd_d rfl (ed_var 1) (cd_d rfl (ed_var 4) (cd_nil)))) (cd_d rfl (ed_call c_transposed hr bx_takes rfl (by decide) (by decide) rfl rfl (cd_d rfl (ed_var 0) (cd_d rfl (ed_var 4) (cd_nil)))) (cd_d rfl (ed_var 4) (cd_nil))))) (cd_nil)))))) (sds_one (sd_ret (ed_bl))) (sds_nil)) (sds_cons (sd_if (td_not (td_val (by intro _; rfl) (ed_call c__law_like hr bx_takes rfl (by decide) (by decide) rfl rfl (cd_d rfl (ed_call c_transposed hr bx_takes rfl (by decide) (by decide) rfl rfl (cd_d rfl (ed_var 7) (cd_d rfl (ed_var 4) (cd_nil)))) (cd_d rfl (ed_call c_kronecker hr bx_takes rfl (by decide) (by decide) rfl rfl (cd_d rfl (ed_call c_transposed hr bx_takes rfl (by decide) (by decide) rfl rfl (cd_d rfl (ed_var 5) (cd_d rfl (ed_var 4) (cd_nil)))) (cd_d rfl (ed_call c_transposed hr bx_takes rfl (by decide) (by decide) rfl rfl (cd_d rfl (ed_var 6) (cd_d rfl (ed_var 4) (cd_nil)))) (cd_d rfl (ed_var 4) (cd_nil))))) (cd_nil)))))) (sds_one (sd_ret (ed_bl))) (sds_nil)) (sds_one (sd_ret (ed_call c__law_like hr bx_takes rfl (by decide) (by decide) rfl rfl (cd_d rfl (ed_call c_transposed hr bx_takes rfl (by decide) (by decide) rfl rfl (cd_d rfl (ed_call c_transposed hr bx_takes rfl (by decide) (by decide) rfl rfl (cd_d rfl (ed_var 0) (cd_d rfl (ed_var 4) (cd_nil)))) (cd_d rfl (ed_var 4) (cd_nil)))) (cd_d rfl (ed_var 0) (cd_nil)))))))))))
/-! ### _law_identities -/
abbrev s__law_identities : Stmt := topS 34
theorem sc__law_identities : FnScope ["a", "prime", "high", "wide", "both"] ["a", "prime"] (defScope s__law_identities) := ⟨rfl, rfl, rfl, by decide +kernel, rfl, by decide +kernel, by decide +kernel⟩
def S__law_identities : SF :=
  sSeq (sPar 2 3 (eUser 1 (m_identity_matrix) (cD (eCall lenD (aCons (eVar 0) (aNil))) (cNil))) (eUser 1 (m_identity_matrix) (cD (eCall lenD (aCons (eOp ixD (eVar 0) (eC (.int 0))) (aNil))) (cNil)))) (sSeq (sAsg (eLst (aCons (eUser 3 (m_matrix_product) (cD (eVar 2) (cD (eVar 0) (cD (eVar 1) (cNil))))) (aCons (eUser 3 (m_matrix_product) (cD (eVar 0) (cD (eVar 3) (cD (eVar 1) (cNil))))) (aCons (eUser 3 (m_kronecker) (cD (eUser 1 (m_identity_matrix) (cD (eC (.int 1)) (cNil))) (cD (eVar 0) (cD (eVar 1) (cNil))))) (aCons (eUser 3 (m_kronecker) (cD (eVar 0) (cD (eUser 1 (m_identity_matrix) (cD (eC (.int 1)) (cNil))) (cD (eVar 1) (cNil))))) (aNil)))))) (setD 4)) (sRet (eAn (eUser 2 (m__law_like 8) (cD (eVar 4) (cD (eLst (aCons (eVar 0) (aCons (eVar 0) (aCons (eVar 0) (aCons (eVar 0) (aNil)))))) (cNil)))) (eUser 2 (m__law_like 8) (cD (eUser 3 (m_kronecker) (cD (eVar 2) (cD (eVar 3) (cD (eVar 1) (cNil))))) (cD (eUser 1 (m_identity_matrix) (cD (eOp mulD (eCall lenD (aCons (eVar 0) (aNil))) (eCall lenD (aCons (eOp ixD (eVar 0) (eC (.int 0))) (aNil)))) (cNil))) (cNil)))))))
def m__law_identities : Fn := mkFn 5 S__law_identities
theorem fd__law_identities {f : Addr} {fd : FuncData} (T : Facts K mg) (D : FunD K "_law_identities" "_law_identities" (defArgs s__law_identities) (defBody s__law_identities) (defScope s__law_identities) [] [] f fd) (hm : mg "_law_identities" = some (.ref f)) (hb : Binds K fd ["a", "prime"] []) (c_identity_matrix : Fd P w K mg base 3 "identity_matrix" 1 (m_identity_matrix)) (c_matrix_product : Fd P w K mg base 6 "matrix_product" 3 (m_matrix_product)) (c_kronecker : Fd P w K mg base 6 "kronecker" 3 (m_kronecker)) (c__law_like : Fd P w K mg base 9 "_law_like" 2 (m__law_like 8)) : Fd P w K mg base 10 "_law_identities" 2 m__law_identities :=
  fd_of (k := 9) D sc__law_identities hm hb fun cdv A outer s H E hr =>
    sds_cons (sd_par 2 3 rfl sc__law_identities.nd rfl rfl (by decide) rfl rfl rfl rfl rfl rfl (ed_call c_identity_matrix hr bx_takes rfl (by decide) (by decide) rfl rfl (cd_d rfl (ed_callB call_len opc_len rfl T.b_len PySem.boot_len (by decide) (by decide) rfl rfl (ad_cons rfl (ed_var 0) (ad_nil))) (cd_nil))) (ed_call c_identity_matrix hr bx_takes rfl (by decide) (by decide) rfl rfl (cd_d rfl (ed_callB call_len opc_len rfl T.b_len PySem.boot_len (by decide) (by decide) rfl rfl (ad_cons rfl (ed_ix (by intro _ _; rfl) (ed_var 0) (ed_int)) (ad_nil))) (cd_nil)))) (sds_cons (sd_set 4 sc__law_identities.nd rfl (by first | exact Or.inl rfl | exact Or.inr rfl) rfl (by first | exact .inl rfl | exact .inr rfl) (ed_lst (ad_cons rfl (ed_call c_matrix_product hr bx_takes rfl (by decide) (by decide) rfl rfl (cd_d rfl (ed_var 2) (cd_d rfl (ed_var 0) (cd_d rfl (ed_var 1) (cd_nil))))) (ad_cons rfl (ed_call c_matrix_product hr bx_takes rfl (by decide) (by decide) rfl rfl (cd_d rfl (ed_var 0) (cd_d rfl (ed_var 3) (cd_d rfl (ed_var 1) (cd_nil))))) (ad_cons rfl (ed_call c_kronecker hr bx_takes rfl (by decide) (by decide) rfl rfl (cd_d rfl (ed_call c_identity_matrix hr bx_takes rfl (by decide) (by decide) rfl rfl (cd_d rfl (ed_int) (cd_nil))) (cd_d rfl (ed_var 0) (cd_d rfl (ed_var 1) (cd_nil))))) (ad_cons rfl (ed_call c_kronecker hr bx_takes rfl (by decide) (by decide) rfl rfl (cd_d rfl (ed_var 0) (cd_d rfl (ed_call c_identity_matrix hr bx_takes rfl (by decide) (by decide) rfl rfl (cd_d rfl (ed_int) (cd_nil))) (cd_d rfl (ed_var 1) (cd_nil))))) (ad_nil))))))) (sds_one (sd_ret (ed_and (ed_call c__law_like hr bx_takes rfl (by decide) (by decide) rfl rfl (cd_d rfl (ed_var 4) (cd_d rfl (ed_lst (ad_cons rfl (ed_var 0) (ad_cons rfl (ed_var 0) (ad_cons rfl (ed_var 0) (ad_cons rfl (ed_var 0) (ad_nil)))))) (cd_nil)))) (ed_one (ed_call c__law_like hr bx_takes rfl (by decide) (by decide) rfl rfl (cd_d rfl (ed_call c_kronecker hr bx_takes rfl (by decide) (by decide) rfl rfl (cd_d rfl (ed_var 2) (cd_d rfl (ed_var 3) (cd_d rfl (ed_var 1) (cd_nil))))) (cd_d rfl (ed_call c_identity_matrix hr bx_takes rfl (by decide) (by decide) rfl rfl (cd_d rfl (ed_mul (ed_callB call_len opc_len rfl T.b_len PySem.boot_len (by decide) (by decide) rfl rfl (ad_cons rfl (ed_var 0) (ad_nil))) (ed_callB call_len opc_len rfl T.b_len PySem.boot_len (by decide) (by decide) rfl rfl (ad_cons rfl (ed_ix (by intro _ _; rfl) (ed_var 0) (ed_int)) (ad_nil)))) (cd_nil))) (cd_nil)))))))))
/-! ### law -/
abbrev s_law : Stmt := topS 35
theorem sc_law : FnScope ["script", "cup", "turn", "prime", "p", "q", "r", "s", "t", "u", "v", "a", "b", "c", "d", "third", "one", "other", "side"] ["script"] (defScope s_law) := ⟨rfl, rfl, rfl, by decide +kernel, rfl, by decide +kernel, by decide +kernel⟩
def S_law : SF :=
  sSeq (sNew 1 (nUser 1 (m__law_cup) (cR 0 (cNil)))) (sSeq (sFor (iR1 (eC (.int 4))) (setD 2) (sSeq (sAsg (eUser 2 (m__law_some) (cR 1 (cD (eLst (aCons (eC (.int 2)) (aCons (eC (.int 3)) (aCons (eC (.int 5)) (aCons (eC (.int 7)) (aNil)))))) (cNil)))) (setD 3)) (sSeq (sAsg (eLc (iR1 (eC (.int 7))) (setD 18) (tYs) (eOp addD (eC (.int 1)) (eUser 2 (m__law_roll) (cR 1 (cD (eC (.int 4)) (cNil))))) [18]) (gUnlD 7 (gsCons (setD 4) (gsCons (setD 5) (gsCons (setD 6) (gsCons (setD 7) (gsCons (setD 8) (gsCons (setD 9) (gsCons (setD 10) (gsNil)))))))))) (sSeq (sAsg (eTup (aCons (eUser 4 (m__law_matrix) (cR 1 (cD (eVar 3) (cD (eVar 4) (cD (eVar 5) (cNil)))))) (aCons (eUser 4 (m__law_matrix) (cR 1 (cD (eVar 3) (cD (eVar 5) (cD (eVar 6) (cNil)))))) (aCons (eUser 4 (m__law_matrix) (cR 1 (cD (eVar 3) (cD (eVar 7) (cD (eVar 8) (cNil)))))) (aCons (eUser 4 (m__law_matrix) (cR 1 (cD (eVar 3) (cD (eVar 8) (cD (eVar 9) (cNil)))))) (aNil)))))) (gTupD 4 (gsCons (setD 11) (gsCons (setD 12) (gsCons (setD 13) (gsCons (setD 14) (gsNil))))))) (sSeq (sIf (tOr' (tNo (tOf (eUser 5 (m__law_rules) (cD (eVar 11) (cD (eVar 12) (cD (eVar 13) (cD (eVar 14) (cD (eVar 3) (cNil))))))))) (tNo (tOf (eUser 2 (m__law_identities) (cD (eVar 11) (cD (eVar 3) (cNil))))))) (sRet (eC (.bool false))) (sNx)) (sSeq (sAsg (eUser 4 (m__law_matrix) (cR 1 (cD (eVar 3) (cD (eVar 6) (cD (eVar 10) (cNil)))))) (setD 15)) (sSeq (sPar 16 17 (eUser 3 (m_matrix_product) (cD (eUser 3 (m_matrix_product) (cD (eVar 11) (cD (eVar 12) (cD (eVar 3) (cNil))))) (cD (eVar 15) (cD (eVar 3) (cNil))))) (eUser 3 (m_matrix_product) (cD (eVar 11) (cD (eUser 3 (m_matrix_product) (cD (eVar 12) (cD (eVar 15) (cD (eVar 3) (cNil))))) (cD (eVar 3) (cNil)))))) (sIf (tNo (tOf (eUser 2 (m__law_like 8) (cD (eVar 16) (cD (eVar 17) (cNil)))))) (sRet (eC (.bool false))) (sNx))))))))) (sRet (eC (.bool true))))
def m_law : Fn := mkFn 19 S_law
theorem fd_law {f : Addr} {fd : FuncData} (T : Facts K mg) (D : FunD K "law" "law" (defArgs s_law) (defBody s_law) (defScope s_law) [] [] f fd) (c__law_cup : FdN P w K mg base 1 "_law_cup" 1 (m__law_cup)) (c__law_some : Fd P w K mg base 2 "_law_some" 2 (m__law_some)) (c__law_roll : Fd P w K mg base 1 "_law_roll" 2 (m__law_roll)) (c__law_matrix : Fd P w K mg base 2 "_law_matrix" 4 (m__law_matrix)) (c__law_rules : Fd P w K mg base 10 "_law_rules" 5 (m__law_rules)) (c__law_identities : Fd P w K mg base 10 "_law_identities" 2 (m__law_identities)) (c_matrix_product : Fd P w K mg base 6 "matrix_product" 3 (m_matrix_product)) (c__law_like : Fd P w K mg base 9 "_law_like" 2 (m__law_like 8)) : FnOk P w K mg base (L2.CX P w) 11 f fd ["script"] (spF mg K 1 m_law) :=
  fnok_of (k := 10) D sc_law fun cdv A outer s H E hr =>
    sds_cons (sd_new 1 sc_law.nd (by decide) rfl (by first | exact Or.inl rfl | exact Or.inr rfl) rfl (by first | exact .inl rfl | exact .inr rfl) (nd_call c__law_cup hr bx_takes rfl (by decide) (by decide) rfl rfl (cd_r 0 rfl (by first | exact Or.inl rfl | exact Or.inr (Or.inl rfl) | exact Or.inr (Or.inr rfl)) (by decide) (by decide) rfl (cd_nil)))) (sds_cons (sd_for bx_passes rfl (by intro _; rfl) (id_r1 rfl T.b_range rfl (ed_int)) (gd_name 2 sc_law.nd rfl (by first | exact Or.inl rfl | exact Or.inr rfl) (by first | exact .inl rfl | exact .inr rfl)) (sds_cons (sd_set 3 sc_law.nd rfl (by first | exact Or.inl rfl | exact Or.inr rfl) rfl (by first | exact .inl rfl | exact .inr rfl) (ed_call c__law_some hr bx_takes rfl (by decide) (by decide) rfl rfl (cd_r 1 rfl (by first | exact Or.inl rfl | exact Or.inr (Or.inl rfl) | exact Or.inr (Or.inr rfl)) (by decide) (by decide) rfl (cd_d rfl (ed_lst (ad_cons rfl (ed_int) (ad_cons rfl (ed_int) (ad_cons rfl (ed_int) (ad_cons rfl (ed_int) (ad_nil)))))) (cd_nil))))) (sds_cons (sd_asg rfl rfl rfl (ed_lc (own := [("side", 18)]) rfl sc_law.nd (blkOk_by (by kernel_rfl)) (by decide) (id_r1 rfl T.b_range rfl (ed_int)) (fun _ _ _ _ _ => gd_name 18 sc_law.nd rfl (by first | exact Or.inl rfl | exact Or.inr rfl) (by first | exact .inl rfl | exact .inr rfl)) (fun _ _ _ _ _ => tsd_nil) (fun _ _ _ _ _ => ed_add (ed_int) (ed_call c__law_roll hr takes0 rfl (by decide) (by decide) rfl rfl (cd_r 1 rfl (by first | exact Or.inl rfl | exact Or.inr (Or.inl rfl) | exact Or.inr (Or.inr rfl)) (by decide) (by decide) rfl (cd_d rfl (ed_int) (cd_nil)))))) (gd_unl rfl rfl rfl (gds_cons rfl (gd_name 4 sc_law.nd rfl (by first | exact Or.inl rfl | exact Or.inr rfl) (by first | exact .inl rfl | exact .inr rfl)) (gds_cons rfl (gd_name 5 sc_law.nd rfl (by first | exact Or.inl rfl | exact Or.inr rfl) (by first | exact .inl rfl | exact .inr rfl)) (gds_cons rfl (gd_name 6 sc_law.nd rfl (by first | exact Or.inl rfl | exact Or.inr rfl) (by first | exact .inl rfl | exact .inr rfl)) (gds_cons rfl (gd_name 7 sc_law.nd rfl (by first | exact Or.inl rfl | exact Or.inr rfl) (by first | exact .inl rfl | exact .inr rfl)) (gds_cons rfl (gd_name 8 sc_law.nd rfl (by first | exact Or.inl rfl | exact Or.inr rfl) (by first | exact .inl rfl | exact .inr rfl)) (gds_cons rfl (gd_name 9 sc_law.nd rfl (by first | exact Or.inl rfl | exact Or.inr rfl) (by first | exact .inl rfl | exact .inr rfl)) (gds_cons rfl (gd_name 10 sc_law.nd rfl (by first | exact Or.inl rfl | exact Or.inr rfl) (by first | exact .inl rfl | exact .inr rfl)) (gds_nil)))))))))) (sds_cons (sd_asg rfl rfl rfl (ed_tup (ad_cons rfl (ed_call c__law_matrix hr bx_takes rfl (by decide) (by decide) rfl rfl (cd_r 1 rfl (by first | exact Or.inl rfl | exact Or.inr (Or.inl rfl) | exact Or.inr (Or.inr rfl)) (by decide) (by decide) rfl (cd_d rfl (ed_var 3) (cd_d rfl (ed_var 4) (cd_d rfl (ed_var 5) (cd_nil)))))) (ad_cons rfl (ed_call c__law_matrix hr bx_takes rfl (by decide) (by decide) rfl rfl (cd_r 1 rfl (by first | exact Or.inl rfl | exact Or.inr (Or.inl rfl) | exact Or.inr (Or.inr rfl)) (by decide) (by decide) rfl (cd_d rfl (ed_var 3) (cd_d rfl (ed_var 5) (cd_d rfl (ed_var 6) (cd_nil)))))) (ad_cons rfl (ed_call c__law_matrix hr bx_takes rfl (by decide) (by decide) rfl rfl (cd_r 1 rfl (by first | exact Or.inl rfl | exact Or.inr (Or.inl rfl) | exact Or.inr (Or.inr rfl)) (by decide) (by decide) rfl (cd_d rfl (ed_var 3) (cd_d rfl (ed_var 7) (cd_d rfl (ed_var 8) (cd_nil)))))) (ad_cons rfl (ed_call c__law_matrix hr bx_takes rfl (by decide) (by decide) rfl rfl (cd_r 1 rfl (by first | exact Or.inl rfl | exact Or.inr (Or.inl rfl) | exact Or.inr (Or.inr rfl)) (by decide) (by decide) rfl (cd_d rfl (ed_var 3) (cd_d rfl (ed_var 8) (cd_d rfl (ed_var 9) (cd_nil)))))) (ad_nil)))))) (gd_tup rfl rfl rfl (gds_cons rfl (gd_name 11 sc_law.nd rfl (by first | exact Or.inl rfl | exact Or.inr rfl) (by first | exact .inl rfl | exact .inr rfl)) (gds_cons rfl (gd_name 12 sc_law.nd rfl (by first | exact Or.inl rfl | exact Or.inr rfl) (by first | exact .inl rfl | exact .inr rfl)) (gds_cons rfl (gd_name 13 sc_law.nd rfl (by first | exact Or.inl rfl | exact Or.inr rfl) (by first | exact .inl rfl | exact .inr rfl)) (gds_cons rfl (gd_name 14 sc_law.nd rfl (by first | exact Or.inl rfl | exact Or.inr rfl) (by first | exact .inl rfl | exact .inr rfl)) (gds_nil))))))) (sds_cons (sd_if (td_bo (wd_or (td_not (td_val (by intro _; rfl) (ed_call c__law_rules hr bx_takes rfl (by decide) (by decide) rfl rfl (cd_d rfl (ed_var 11) (cd_d rfl (ed_var 12) (cd_d rfl (ed_var 13) (cd_d rfl (ed_var 14) (cd_d rfl (ed_var 3) (cd_nil))))))))) (wd_or1 (td_not (td_val (by intro _; rfl) (ed_call c__law_identities hr bx_takes rfl (by decide) (by decide) rfl rfl (cd_d rfl (ed_var 11) (cd_d rfl (ed_var 3) (cd_nil))))))))) (sds_one (sd_ret (ed_bl))) (sds_nil)) (sds_cons (sd_set 15 sc_law.nd rfl (by first | exact Or.inl rfl | exact Or.inr rfl) rfl (by first | exact .inl rfl | exact .inr rfl) (ed_call c__law_matrix hr bx_takes rfl (by decide) (by decide) rfl rfl (cd_r 1 rfl (by first | exact Or.inl rfl | exact Or.inr (Or.inl rfl) | exact Or.inr (Or.inr rfl)) (by decide) (by decide) rfl (cd_d rfl (ed_var 3) (cd_d rfl (ed_var 6) (cd_d rfl (ed_var 10) (cd_nil))))))) (sds_cons (sd_par 16 17 rfl sc_law.nd rfl rfl (by decide) rfl rfl rfl rfl rfl rfl (ed_call c_matrix_product hr bx_takes rfl (by decide) (by decide) rfl rfl (cd_d rfl (ed_call c_matrix_product hr bx_takes rfl (by decide) (by decide) rfl rfl (cd_d rfl (ed_var 11) (cd_d rfl (ed_var 12) (cd_d rfl (ed_var 3) (cd_nil))))) (cd_d rfl (ed_var 15) (cd_d rfl (ed_var 3) (cd_nil))))) (ed_call c_matrix_product hr bx_takes rfl (by decide) (by decide) rfl rfl (cd_d rfl (ed_var 11) (cd_d rfl (ed_call c_matrix_product hr bx_takes rfl (by decide) (by decide) rfl rfl (cd_d rfl (ed_var 12) (cd_d rfl (ed_var 15) (cd_d rfl (ed_var 3) (cd_nil))))) (cd_d rfl (ed_var 3) (cd_nil)))))) (sds_one (sd_if (td_not (td_val (by intro _; rfl) (ed_call c__law_like hr bx_takes rfl (by decide) (by decide) rfl rfl (cd_d rfl (ed_var 16) (cd_d rfl (ed_var 17) (cd_nil)))))) (sds_one (sd_ret (ed_bl))) (sds_nil)))))))))) (sds_one (sd_ret (ed_bl))))
end
/-! ### the head -/
def d_is_whole : He.DefD := ⟨("is_whole", none), "is_whole", "is_whole", defArgs s_is_whole, defBody s_is_whole, defScope s_is_whole, [], []⟩
def d_need_whole : He.DefD := ⟨("need_whole", none), "need_whole", "need_whole", defArgs s_need_whole, defBody s_need_whole, defScope s_need_whole, [], []⟩
def d_is_tuple_of : He.DefD := ⟨("is_tuple_of", none), "is_tuple_of", "is_tuple_of", defArgs s_is_tuple_of, defBody s_is_tuple_of, defScope s_is_tuple_of, [], []⟩
def d_is_prime : He.DefD := ⟨("is_prime", none), "is_prime", "is_prime", defArgs s_is_prime, defBody s_is_prime, defScope s_is_prime, [], []⟩
def d_need_prime : He.DefD := ⟨("need_prime", none), "need_prime", "need_prime", defArgs s_need_prime, defBody s_need_prime, defScope s_need_prime, [], []⟩
def d_is_matrix_in : He.DefD := ⟨("is_matrix_in", none), "is_matrix_in", "is_matrix_in", defArgs s_is_matrix_in, defBody s_is_matrix_in, defScope s_is_matrix_in, [], []⟩
def d_is_matrix : He.DefD := ⟨("is_matrix", none), "is_matrix", "is_matrix", defArgs s_is_matrix, defBody s_is_matrix, defScope s_is_matrix, [], []⟩
def d_need_matrices : He.DefD := ⟨("need_matrices", none), "need_matrices", "need_matrices", defArgs s_need_matrices, defBody s_need_matrices, defScope s_need_matrices, [], []⟩
def d_combined : He.DefD := ⟨("combined", none), "combined", "combined", defArgs s_combined, defBody s_combined, defScope s_combined, [], []⟩
def d_product_of : He.DefD := ⟨("product_of", none), "product_of", "product_of", defArgs s_product_of, defBody s_product_of, defScope s_product_of, [], []⟩
def d_transpose_of : He.DefD := ⟨("transpose_of", none), "transpose_of", "transpose_of", defArgs s_transpose_of, defBody s_transpose_of, defScope s_transpose_of, [], []⟩
def d_identity_of : He.DefD := ⟨("identity_of", none), "identity_of", "identity_of", defArgs s_identity_of, defBody s_identity_of, defScope s_identity_of, [], []⟩
def d_matrix_product : He.DefD := ⟨("matrix_product", none), "matrix_product", "matrix_product", defArgs s_matrix_product, defBody s_matrix_product, defScope s_matrix_product, [], []⟩
def d_kronecker_row : He.DefD := ⟨("kronecker_row", none), "kronecker_row", "kronecker_row", defArgs s_kronecker_row, defBody s_kronecker_row, defScope s_kronecker_row, [], []⟩
def d_kronecker : He.DefD := ⟨("kronecker", none), "kronecker", "kronecker", defArgs s_kronecker, defBody s_kronecker, defScope s_kronecker, [], []⟩
def d_identity_matrix : He.DefD := ⟨("identity_matrix", none), "identity_matrix", "identity_matrix", defArgs s_identity_matrix, defBody s_identity_matrix, defScope s_identity_matrix, [], []⟩
def d_transposed : He.DefD := ⟨("transposed", none), "transposed", "transposed", defArgs s_transposed, defBody s_transposed, defScope s_transposed, [], []⟩
def d__law_cup : He.DefD := ⟨("_law_cup", none), "_law_cup", "_law_cup", defArgs s__law_cup, defBody s__law_cup, defScope s__law_cup, [], []⟩
def d__law_roll : He.DefD := ⟨("_law_roll", none), "_law_roll", "_law_roll", defArgs s__law_roll, defBody s__law_roll, defScope s__law_roll, [], []⟩
def d__law_some : He.DefD := ⟨("_law_some", none), "_law_some", "_law_some", defArgs s__law_some, defBody s__law_some, defScope s__law_some, [], []⟩
def d__law_sort : He.DefD := ⟨("_law_sort", none), "_law_sort", "_law_sort", defArgs s__law_sort, defBody s__law_sort, defScope s__law_sort, [], []⟩
def d__law_like : He.DefD := ⟨("_law_like", none), "_law_like", "_law_like", defArgs s__law_like, defBody s__law_like, defScope s__law_like, [], []⟩
def d__law_matrix : He.DefD := ⟨("_law_matrix", none), "_law_matrix", "_law_matrix", defArgs s__law_matrix, defBody s__law_matrix, defScope s__law_matrix, [], []⟩
def d__law_rules : He.DefD := ⟨("_law_rules", none), "_law_rules", "_law_rules", defArgs s__law_rules, defBody s__law_rules, defScope s__law_rules, [], []⟩
def d__law_identities : He.DefD := ⟨("_law_identities", none), "_law_identities", "_law_identities", defArgs s__law_identities, defBody s__law_identities, defScope s__law_identities, [], []⟩
def d_law : He.DefD := ⟨("law", none), "law", "law", defArgs s_law, defBody s_law, defScope s_law, [], []⟩
def fn : List He.DefD := [d_is_whole, d_need_whole, d_is_tuple_of, d_is_prime, d_need_prime, d_is_matrix_in, d_is_matrix, d_need_matrices, d_combined, d_product_of, d_transpose_of, d_identity_of, d_matrix_product, d_kronecker_row, d_kronecker, d_identity_matrix, d_transposed, d__law_cup, d__law_roll, d__law_some, d__law_sort, d__law_like, d__law_matrix, d__law_rules, d__law_identities, d_law]
def fa : List He.Fa := [.glo "is_whole", .glo "need_whole", .glo "is_tuple_of", .glo "is_prime", .glo "need_prime", .glo "is_matrix_in", .glo "is_matrix", .glo "need_matrices", .glo "combined", .glo "product_of", .glo "transpose_of", .glo "identity_of", .glo "matrix_product", .glo "kronecker_row", .glo "kronecker", .glo "identity_matrix", .glo "transposed", .glo "_law_cup", .glo "_law_roll", .glo "_law_some", .glo "_law_sort", .glo "_law_like", .glo "_law_matrix", .glo "_law_rules", .glo "_law_identities", .glo "law", .free "abs", .free "all", .free "bool", .free "int", .free "isinstance", .free "len", .free "list", .free "range", .free "str", .free "sum", .free "tuple", .free "zip", .int "LARGEST" 81, .glo "PRIMES"]
abbrev R : PySem.W.OpenRow := PySem.W.OpenLaw.row PySem.Challenge.rw_pastedcells_k43_whole_products_and_krone
def t_PRIMES : List He.Dv := [.int 2, .int 3, .int 5, .int 7]
def xb (K : Fg) : Bool := He.tupB K "PRIMES" t_PRIMES && true
abbrev hk : PySem.W.Hook := hookX 4 fa fn xb
def ob (s : PySem.W.SharedT) : AlX := obsXG 4 fa fn xb (HandSHeadRun.getT s)
theorem ob_eq (s : PySem.W.SharedT) : ob s = hk.obs s.abs := obsXG_eq (HandSHeadRun.getT_eq s)
def loose : List Str := (["PasteError", "InvalidNumber", "InvalidWorld", "TooMany", "is_whole", "need_whole", "is_tuple_of", "PRIMES", "LARGEST", "is_prime", "need_prime", "is_matrix_in", "is_matrix", "need_matrices", "combined", "product_of", "transpose_of", "identity_of", "matrix_product", "kronecker_row", "kronecker", "identity_matrix", "transposed", "_law_cup", "_law_roll", "_law_some", "_law_sort", "_law_like", "_law_matrix", "_law_rules", "_law_identities"] : List Str)
theorem run (w : World) : HandSHeadRun.RunEq R (PySem.W.view R.prog [35]) hk ob 4000 loose w := by
  intro os
  kernel_rfl
theorem facts {P : Program} {w : World} {K : Fg} {h : Heap} {mg : Str → Option Value} {f : Addr} (X : K.In h) (G : h.Ns mainGlobals mg) (hfa : mg ("law" : Str) = some (.ref f)) (c0 : SaysX fa fn xb K) :
    ∃ fd : FuncData, (∀ (s : Shared) (v : Value), BindsTo s fd ⟨[v], []⟩ [("script", v)]) ∧ ∀ base : Heap, K.In base → base.Ns mainGlobals mg → FnOk P w K mg base (L2.CX P w) 11 f fd ["script"] (spF mg K 1 m_law) := by
  have c := c0.d
  have cb := c0.b
  simp only [xb, Bool.and_eq_true] at cb
  have T : Facts K mg := ⟨He.free_ok X G (c.fact 26 (f := .free "abs") rfl), He.free_ok X G (c.fact 27 (f := .free "all") rfl), He.free_ok X G (c.fact 28 (f := .free "bool") rfl), He.free_ok X G (c.fact 29 (f := .free "int") rfl), He.free_ok X G (c.fact 30 (f := .free "isinstance") rfl), He.free_ok X G (c.fact 31 (f := .free "len") rfl), He.free_ok X G (c.fact 32 (f := .free "list") rfl), He.free_ok X G (c.fact 33 (f := .free "range") rfl), He.free_ok X G (c.fact 34 (f := .free "str") rfl), He.free_ok X G (c.fact 35 (f := .free "sum") rfl), He.free_ok X G (c.fact 36 (f := .free "tuple") rfl), He.free_ok X G (c.fact 37 (f := .free "zip") rfl), gc_int (He.int_ok X G (c.fact 38 (f := .int "LARGEST" 81) rfl)), gc_tup (He.glo_ok X G (c.fact 39 (f := .glo "PRIMES") rfl)) (vs := t_PRIMES) cb.1 (fun _ => .cons (.int _) (.cons (.int _) (.cons (.int _) (.cons (.int _) (.nil)))))⟩
  obtain ⟨fd_0, F_0⟩ := c.def_ 0 (d := d_is_whole) rfl
  have g_0 := He.glo_ok X G (c.fact 0 (f := .glo "is_whole") rfl)
  have b_0 := FunD.bindsN (ps := ["value", "low", "high"]) F_0 fun _ _ _ _ _ _ us hl => match us, hl with | [_, _, _], _ => rfl
  obtain ⟨fd_1, F_1⟩ := c.def_ 1 (d := d_need_whole) rfl
  have g_1 := He.glo_ok X G (c.fact 1 (f := .glo "need_whole") rfl)
  have b_1 := FunD.bindsN (ps := ["value", "low", "high"]) F_1 fun _ _ _ _ _ _ us hl => match us, hl with | [_, _, _], _ => rfl
  obtain ⟨fd_2, F_2⟩ := c.def_ 2 (d := d_is_tuple_of) rfl
  have g_2 := He.glo_ok X G (c.fact 2 (f := .glo "is_tuple_of") rfl)
  have b_2 := FunD.bindsN (ps := ["value", "low", "high"]) F_2 fun _ _ _ _ _ _ us hl => match us, hl with | [_, _, _], _ => rfl
  obtain ⟨fd_3, F_3⟩ := c.def_ 3 (d := d_is_prime) rfl
  have g_3 := He.glo_ok X G (c.fact 3 (f := .glo "is_prime") rfl)
  have b_3 := FunD.bindsN (ps := ["value"]) F_3 fun _ _ _ _ _ _ us hl => match us, hl with | [_], _ => rfl
  obtain ⟨fd_4, F_4⟩ := c.def_ 4 (d := d_need_prime) rfl
  have g_4 := He.glo_ok X G (c.fact 4 (f := .glo "need_prime") rfl)
  have b_4 := FunD.bindsN (ps := ["value"]) F_4 fun _ _ _ _ _ _ us hl => match us, hl with | [_], _ => rfl
  obtain ⟨fd_5, F_5⟩ := c.def_ 5 (d := d_is_matrix_in) rfl
  have g_5 := He.glo_ok X G (c.fact 5 (f := .glo "is_matrix_in") rfl)
  have b_5 := FunD.bindsN (ps := ["value", "prime", "most"]) F_5 fun _ _ _ _ _ _ us hl => match us, hl with | [_, _, _], _ => rfl
  obtain ⟨fd_6, F_6⟩ := c.def_ 6 (d := d_is_matrix) rfl
  have g_6 := He.glo_ok X G (c.fact 6 (f := .glo "is_matrix") rfl)
  have b_6 := FunD.bindsN (ps := ["value", "prime"]) F_6 fun _ _ _ _ _ _ us hl => match us, hl with | [_, _], _ => rfl
  obtain ⟨fd_7, F_7⟩ := c.def_ 7 (d := d_need_matrices) rfl
  have g_7 := He.glo_ok X G (c.fact 7 (f := .glo "need_matrices") rfl)
  have b_7 := FunD.bindsN (ps := ["values", "prime"]) F_7 fun _ _ _ _ _ _ us hl => match us, hl with | [_, _], _ => rfl
  obtain ⟨fd_8, F_8⟩ := c.def_ 8 (d := d_combined) rfl
  have g_8 := He.glo_ok X G (c.fact 8 (f := .glo "combined") rfl)
  have b_8 := FunD.bindsN (ps := ["entries", "rows", "prime"]) F_8 fun _ _ _ _ _ _ us hl => match us, hl with | [_, _, _], _ => rfl
  obtain ⟨fd_9, F_9⟩ := c.def_ 9 (d := d_product_of) rfl
  have g_9 := He.glo_ok X G (c.fact 9 (f := .glo "product_of") rfl)
  have b_9 := FunD.bindsN (ps := ["one", "other", "prime"]) F_9 fun _ _ _ _ _ _ us hl => match us, hl with | [_, _, _], _ => rfl
  obtain ⟨fd_10, F_10⟩ := c.def_ 10 (d := d_transpose_of) rfl
  have g_10 := He.glo_ok X G (c.fact 10 (f := .glo "transpose_of") rfl)
  have b_10 := FunD.bindsN (ps := ["one"]) F_10 fun _ _ _ _ _ _ us hl => match us, hl with | [_], _ => rfl
  obtain ⟨fd_11, F_11⟩ := c.def_ 11 (d := d_identity_of) rfl
  have g_11 := He.glo_ok X G (c.fact 11 (f := .glo "identity_of") rfl)
  have b_11 := FunD.bindsN (ps := ["size"]) F_11 fun _ _ _ _ _ _ us hl => match us, hl with | [_], _ => rfl
  obtain ⟨fd_12, F_12⟩ := c.def_ 12 (d := d_matrix_product) rfl
  have g_12 := He.glo_ok X G (c.fact 12 (f := .glo "matrix_product") rfl)
  have b_12 := FunD.bindsN (ps := ["one", "other", "prime"]) F_12 fun _ _ _ _ _ _ us hl => match us, hl with | [_, _, _], _ => rfl
  obtain ⟨fd_13, F_13⟩ := c.def_ 13 (d := d_kronecker_row) rfl
  have g_13 := He.glo_ok X G (c.fact 13 (f := .glo "kronecker_row") rfl)
  have b_13 := FunD.bindsN (ps := ["left", "right", "prime"]) F_13 fun _ _ _ _ _ _ us hl => match us, hl with | [_, _, _], _ => rfl
  obtain ⟨fd_14, F_14⟩ := c.def_ 14 (d := d_kronecker) rfl
  have g_14 := He.glo_ok X G (c.fact 14 (f := .glo "kronecker") rfl)
  have b_14 := FunD.bindsN (ps := ["one", "other", "prime"]) F_14 fun _ _ _ _ _ _ us hl => match us, hl with | [_, _, _], _ => rfl
  obtain ⟨fd_15, F_15⟩ := c.def_ 15 (d := d_identity_matrix) rfl
  have g_15 := He.glo_ok X G (c.fact 15 (f := .glo "identity_matrix") rfl)
  have b_15 := FunD.bindsN (ps := ["size"]) F_15 fun _ _ _ _ _ _ us hl => match us, hl with | [_], _ => rfl
  obtain ⟨fd_16, F_16⟩ := c.def_ 16 (d := d_transposed) rfl
  have g_16 := He.glo_ok X G (c.fact 16 (f := .glo "transposed") rfl)
  have b_16 := FunD.bindsN (ps := ["one", "prime"]) F_16 fun _ _ _ _ _ _ us hl => match us, hl with | [_, _], _ => rfl
  obtain ⟨fd_17, F_17⟩ := c.def_ 17 (d := d__law_cup) rfl
  have g_17 := He.glo_ok X G (c.fact 17 (f := .glo "_law_cup") rfl)
  have b_17 := FunD.bindsN (ps := ["script"]) F_17 fun _ _ _ _ _ _ us hl => match us, hl with | [_], _ => rfl
  obtain ⟨fd_18, F_18⟩ := c.def_ 18 (d := d__law_roll) rfl
  have g_18 := He.glo_ok X G (c.fact 18 (f := .glo "_law_roll") rfl)
  have b_18 := FunD.bindsN (ps := ["cup", "many"]) F_18 fun _ _ _ _ _ _ us hl => match us, hl with | [_, _], _ => rfl
  obtain ⟨fd_19, F_19⟩ := c.def_ 19 (d := d__law_some) rfl
  have g_19 := He.glo_ok X G (c.fact 19 (f := .glo "_law_some") rfl)
  have b_19 := FunD.bindsN (ps := ["cup", "things"]) F_19 fun _ _ _ _ _ _ us hl => match us, hl with | [_, _], _ => rfl
  obtain ⟨fd_20, F_20⟩ := c.def_ 20 (d := d__law_sort) rfl
  have g_20 := He.glo_ok X G (c.fact 20 (f := .glo "_law_sort") rfl)
  have b_20 := FunD.bindsN (ps := ["value"]) F_20 fun _ _ _ _ _ _ us hl => match us, hl with | [_], _ => rfl
  obtain ⟨fd_21, F_21⟩ := c.def_ 21 (d := d__law_like) rfl
  have g_21 := He.glo_ok X G (c.fact 21 (f := .glo "_law_like") rfl)
  have b_21 := FunD.bindsN (ps := ["one", "other"]) F_21 fun _ _ _ _ _ _ us hl => match us, hl with | [_, _], _ => rfl
  obtain ⟨fd_22, F_22⟩ := c.def_ 22 (d := d__law_matrix) rfl
  have g_22 := He.glo_ok X G (c.fact 22 (f := .glo "_law_matrix") rfl)
  have b_22 := FunD.bindsN (ps := ["cup", "prime", "rows", "columns"]) F_22 fun _ _ _ _ _ _ us hl => match us, hl with | [_, _, _, _], _ => rfl
  obtain ⟨fd_23, F_23⟩ := c.def_ 23 (d := d__law_rules) rfl
  have g_23 := He.glo_ok X G (c.fact 23 (f := .glo "_law_rules") rfl)
  have b_23 := FunD.bindsN (ps := ["a", "b", "c", "d", "prime"]) F_23 fun _ _ _ _ _ _ us hl => match us, hl with | [_, _, _, _, _], _ => rfl
  obtain ⟨fd_24, F_24⟩ := c.def_ 24 (d := d__law_identities) rfl
  have g_24 := He.glo_ok X G (c.fact 24 (f := .glo "_law_identities") rfl)
  have b_24 := FunD.bindsN (ps := ["a", "prime"]) F_24 fun _ _ _ _ _ _ us hl => match us, hl with | [_, _], _ => rfl
  obtain ⟨fd_25, F_25⟩ := c.def_ 25 (d := d_law) rfl
  have el := hfa.symm.trans (He.glo_ok X G (c.fact 25 (f := .glo "law") rfl))
  cases el
  have bl := FunD.bindsA (ps := ["script"]) F_25 fun _ _ _ _ _ _ us hl => match us, hl with | [_], _ => rfl
  refine ⟨fd_25, fun s v => bl s [v] rfl, fun base _ _ => ?_⟩
  have c_is_whole := fd_is_whole (P := P) (w := w) (base := base) T F_0 g_0 b_0
  have c_need_whole := fd_need_whole (P := P) (w := w) (base := base) T F_1 g_1 b_1 c_is_whole
  have c_is_tuple_of := fd_is_tuple_of (P := P) (w := w) (base := base) T F_2 g_2 b_2
  have c_is_prime := fd_is_prime (P := P) (w := w) (base := base) T F_3 g_3 b_3 c_is_whole
  have c_need_prime := fd_need_prime (P := P) (w := w) (base := base) T F_4 g_4 b_4 c_is_prime
  have c_is_matrix_in := fd_is_matrix_in (P := P) (w := w) (base := base) T F_5 g_5 b_5 c_is_tuple_of c_is_whole
  have c_is_matrix := fd_is_matrix (P := P) (w := w) (base := base) T F_6 g_6 b_6 c_need_prime c_is_matrix_in
  have c_need_matrices := fd_need_matrices (P := P) (w := w) (base := base) T F_7 g_7 b_7 c_is_matrix
  have c_combined := fd_combined (P := P) (w := w) (base := base) T F_8 g_8 b_8
  have c_product_of := fd_product_of (P := P) (w := w) (base := base) T F_9 g_9 b_9 c_combined
  have c_transpose_of := fd_transpose_of (P := P) (w := w) (base := base) T F_10 g_10 b_10
  have c_identity_of := fd_identity_of (P := P) (w := w) (base := base) T F_11 g_11 b_11
  have c_matrix_product := fd_matrix_product (P := P) (w := w) (base := base) T F_12 g_12 b_12 c_need_matrices c_product_of
  have c_kronecker_row := fd_kronecker_row (P := P) (w := w) (base := base) T F_13 g_13 b_13
  have c_kronecker := fd_kronecker (P := P) (w := w) (base := base) T F_14 g_14 b_14 c_need_matrices c_kronecker_row
  have c_identity_matrix := fd_identity_matrix (P := P) (w := w) (base := base) T F_15 g_15 b_15 c_need_whole c_identity_of
  have c_transposed := fd_transposed (P := P) (w := w) (base := base) T F_16 g_16 b_16 c_need_matrices c_transpose_of
  have c__law_cup := fd__law_cup (P := P) (w := w) (base := base) T F_17 g_17 b_17
  have c__law_roll := fd__law_roll (P := P) (w := w) (base := base) T F_18 g_18 b_18
  have c__law_some := fd__law_some (P := P) (w := w) (base := base) T F_19 g_19 b_19 c__law_roll
  have c__law_sort := fd__law_sort (P := P) (w := w) (base := base) T F_20 g_20 b_20
  have c__law_like := fd__law_like (P := P) (w := w) (base := base) T F_21 g_21 b_21 c__law_sort
  have c__law_matrix := fd__law_matrix (P := P) (w := w) (base := base) T F_22 g_22 b_22 c__law_roll
  have c__law_rules := fd__law_rules (P := P) (w := w) (base := base) T F_23 g_23 b_23 c_matrix_product c_kronecker c__law_like c_transposed
  have c__law_identities := fd__law_identities (P := P) (w := w) (base := base) T F_24 g_24 b_24 c_identity_matrix c_matrix_product c_kronecker c__law_like
  exact fd_law (P := P) (w := w) (base := base) T F_25 c__law_cup c__law_some c__law_roll c__law_matrix c__law_rules c__law_identities c_matrix_product c__law_like
end K43
open PySem PySem.W PySem.Calls PyProof.Rows
theorem K43.holds_of (main : ∀ ns : List Int, ns.length ≤ 63 → (∀ z ∈ ns, PySem.Builtin.Int.intBits z ≤ 1048576) → ∃ ρ, K43.m_law [.s ns] = .ok (.bool true, ρ)) : PySem.Challenge.rw_pastedcells_k43_whole_products_and_krone.Holds := by
  w_on; o_law
  refine HandSHeadRun.head_any (r := OpenLaw.row PySem.Challenge.rw_pastedcells_k43_whole_products_and_krone) (q := view (OpenLaw.row PySem.Challenge.rw_pastedcells_k43_whole_products_and_krone).prog [35]) (H := K43.hk) (ob := K43.ob) (M := 4000) (loose := K43.loose) (d := HandSHeadRun.topDef (OpenLaw.row PySem.Challenge.rw_pastedcells_k43_whole_products_and_krone).prog 35) (kwd := []) K43.ob_eq
    (by kernel_rfl) (fun s => by kernel_rfl) K43.run (by kernel_rfl) (by kernel_rfl) (by kernel_rfl) (by rfl) (by first | assumption | decide +kernel) (by decide +kernel) ⟨rfl, rfl, rfl, rfl, rfl, by decide +kernel⟩ ?hw ?hc
  case hw => w_witness2
  case hc =>
    refine Pd.walk_ofBE (l := PySem.Challenge.rw_pastedcells_k43_whole_products_and_krone) (n := 63) (k := 11) (x := "script") (CX := fun w => L2.CX PySem.Challenge.rw_pastedcells_k43_whole_products_and_krone.prog w) rfl (by decide) (by kernel_rfl) ⟨rfl, by decide, by decide⟩ ?F (fun w _ _ _ _ z => Pd.cx_none z)
    intro w mg fa h Y G hmg0
    obtain ⟨K, KX, c⟩ := Y
    have hmg : mg ("law" : PySem.Str) = some (.ref fa) := by
      have e : (HandSHeadRun.topDef (OpenLaw.row PySem.Challenge.rw_pastedcells_k43_whole_products_and_krone).prog 35).name = ("law" : PySem.Str) := by kernel_rfl
      rw [← e]
      exact hmg0
    obtain ⟨fd, hb, hF⟩ := K43.facts (P := (PySem.Challenge.rw_pastedcells_k43_whole_products_and_krone).prog) (w := w) KX G hmg c
    exact ⟨K, fd, Pd.spF mg K 1 K43.m_law, KX, hb, fun H a ns hl hbits hS => Pd.sp_law hS (main ns hl hbits), hF⟩
end

section
namespace K43
open PySem L2 Pd
def row (m : Nat) (f : Nat → Int) : D := .tuple ((List.range m).map fun j => .int (f j))
def mat (n m : Nat) (f : Nat → Nat → Int) : D := .tuple ((List.range n).map fun i => row m (f i))
def Bd (p : Int) (f : Nat → Nat → Int) : Prop := ∀ i j, 0 ≤ f i j ∧ f i j < p
def Pr (p : Int) : Prop := p = 2 ∨ p = 3 ∨ p = 5 ∨ p = 7
theorem Pr.lo {p : Int} (h : Pr p) : 2 ≤ p := by rcases h with rfl | rfl | rfl | rfl <;> decide
theorem Pr.hi {p : Int} (h : Pr p) : p ≤ 7 := by rcases h with rfl | rfl | rfl | rfl <;> decide
theorem sizeN : sizeLine = 16777216 := by rw [sizeLine_eq]
theorem lc_map {α : Type} {g : GF} {t : TF} {f : EF} {vs : List Nat} {ρ : List Sl} {h : α → D} (q : α → D) : ∀ {l : List α}, (∀ a ∈ l, lcStep g t f vs (h a) ρ = .ok (some (q a), ρ)) → lcL g t f vs (l.map h) ρ = .ok (l.map q, ρ)
  | [], _ => rfl
  | a :: l, e => by
    rw [List.map_cons, lcL_step (e a (List.mem_cons_self ..)), lc_map q (fun b hb => e b (List.mem_cons_of_mem _ hb))]
    simp
@[simp] theorem rgL0 (m : Nat) : rgL 0 (m : Int) = (List.range m).map fun (k : Nat) => .int (k : Int) := by
  simp [rgL]
theorem atR {m j : Nat} (q : Nat → D) (h : j < m) : atI ((List.range m).map q) (j : Int) = some (q j) := by
  unfold atI ixN
  have h2 : (j : Int) < (List.map q (List.range m)).length := by simp; omega
  rw [if_pos (by omega), if_pos h2]
  simp [h]
theorem atR0 {m : Nat} (q : Nat → D) (h : 0 < m) : atI ((List.range m).map q) 0 = some (q 0) := atR q h
theorem zipR {k : Nat} (a b : Nat → D) : List.zipWith (fun x y => (PyData.tuple [x, y] : D)) ((List.range k).map a) ((List.range k).map b) = (List.range k).map fun l => .tuple [a l, b l] := by
  rw [List.zipWith_map, List.zipWith_self]
theorem intsR {k : Nat} (w : Nat → Int) : intsOf ((List.range k).map fun l => .int (w l)) = some ((List.range k).map w) := by
  generalize List.range k = l
  induction l with
  | nil => rfl
  | cons a l ih => simp [ih]
theorem blsR {α : Type} (l : List α) : blsOf (l.map fun _ => .bool true) = some (l.map fun _ => true) := by
  induction l with
  | nil => rfl
  | cons a l ih => simp [ih]
theorem mul_lt {x y : Int} (h1 : 0 ≤ x) (h2 : x < 1000) (h3 : 0 ≤ y) (h4 : y < 1000) : x.natAbs.log2 + y.natAbs.log2 < 100000000 := by
  have g1 := log2_small (n := x.natAbs) (by omega)
  have g2 := log2_small (n := y.natAbs) (by omega)
  omega
/-! ### the small ones -/
theorem is_whole_ok (v lo hi : Int) : m_is_whole [.d (.int v), .d (.int lo), .d (.int hi)] = .ok (.bool (decide (lo ≤ v) && decide (v ≤ hi)), [.d (.int v), .d (.int lo), .d (.int hi)]) := by
  by_cases h : lo ≤ v <;> simp [m_is_whole, S_is_whole, h]
theorem need_whole_ok {v lo hi : Int} (h1 : lo ≤ v) (h2 : v ≤ hi) : m_need_whole [.d (.int v), .d (.int lo), .d (.int hi)] = .ok (.none, [.d (.int v), .d (.int lo), .d (.int hi)]) := by
  simp [m_need_whole, S_need_whole, is_whole_ok, h1, h2]
theorem is_tuple_of_ok (xs : List D) (lo hi : Int) : m_is_tuple_of [.d (.tuple xs), .d (.int lo), .d (.int hi)] = .ok (.bool (decide (lo ≤ xs.length) && decide ((xs.length : Int) ≤ hi)), [.d (.tuple xs), .d (.int lo), .d (.int hi)]) := by
  by_cases h : lo ≤ xs.length <;> simp [m_is_tuple_of, S_is_tuple_of, h]
theorem need_prime_ok {p : Int} (h : Pr p) : m_need_prime [.d (.int p)] = .ok (.none, [.d (.int p)]) := by
  rcases h with rfl | rfl | rfl | rfl <;> simp [m_need_prime, S_need_prime, m_is_prime, S_is_prime, is_whole_ok, inL]
section
variable {p : Int} (hp : Pr p)
include hp
theorem is_matrix_in_ok {n m : Nat} {f : Nat → Nat → Int} (hf : Bd p f) (n1 : 1 ≤ n) (n2 : n ≤ 81) (m1 : 1 ≤ m) (m2 : m ≤ 81) : m_is_matrix_in [.d (mat n m f), .d (.int p), .d (.int 81)] = .ok (.bool true, [.d (mat n m f), .d (.int p), .d (.int 81)]) := by
  have hp2 := hp.lo
  have hz : ∀ i s4, lcL (setD 5) tYs (eUser 3 m_is_whole (cD (eVar 5) (cD (eC (.int 0)) (cD (eOp subD (eVar 1) (eC (.int 1))) cNil)))) [5] ((List.range m).map fun j => .int (f i j)) [.d (mat n m f), .d (.int p), .d (.int 81), .d (.int m), s4, .u] = .ok ((List.range m).map (fun _ => .bool true), [.d (mat n m f), .d (.int p), .d (.int 81), .d (.int m), s4, .u]) := fun i s4 =>
    lc_map (fun _ => .bool true) fun j _ => by
      have := hf i j
      have h2 : f i j ≤ p - 1 := by omega
      simp [is_whole_ok, this.1, h2]
  obtain ⟨ρ', e, s4, hs4, rfl⟩ := forL_rn (g := setD 4) (body := sIf (tOr' (tNo (tOf (eUser 3 (m_is_tuple_of) (cD (eVar 4) (cD (eVar 3) (cD (eVar 3) (cNil))))))) (tNo (tOf (eCall allD (aCons (eLc (iAny (eVar 4)) (setD 5) (tYs) (eUser 3 (m_is_whole) (cD (eVar 5) (cD (eC (.int 0)) (cD (eOp subD (eVar 1) (eC (.int 1))) (cNil))))) [5]) (aNil)))))) (sRet (eC (.bool false))) (sNx))
    (fun _ ρ => ∃ s4, nm s4 = true ∧ ρ = [.d (mat n m f), .d (.int p), .d (.int 81), .d (.int m), s4, .u]) (xs := (List.range n).map fun i => row m (f i)) (ρ := [.d (mat n m f), .d (.int p), .d (.int 81), .d (.int m), .u, .u]) (n := 0) (fun k x ρ hk hI => by
      obtain ⟨s4, hs4, rfl⟩ := hI
      obtain ⟨i, _, rfl⟩ := List.mem_map.mp (List.mem_of_getElem? hk)
      refine ⟨[.d (mat n m f), .d (.int p), .d (.int 81), .d (.int m), .d (row m (f i)), .u], by simp [hs4], ?_⟩
      refine rn_fin (a := .nx [.d (mat n m f), .d (.int p), .d (.int 81), .d (.int m), .d (row m (f i)), .u]) ?_ ⟨_, .inl rfl, .d (row m (f i)), rfl, rfl⟩
      have hz2 := hz i (.d (row m (f i)))
      have m3 : m ≤ 1000000 := by omega
      unfold row at hz2 ⊢
      simp [is_tuple_of_ok, hz2, blsR, m3]) ⟨.u, rfl, rfl⟩
  have h81 : (n : Int) ≤ 81 := by omega
  have h82 : (m : Int) ≤ 81 := by omega
  have h83 : (1 : Int) ≤ n := by omega
  have h84 : (1 : Int) ≤ m := by omega
  unfold mat at e ⊢
  simp only [row] at e ⊢
  simp [m_is_matrix_in, S_is_matrix_in, is_tuple_of_ok, atR0, n1, h81, h82, h83, h84, e, (show 0 < n by omega)]
end
end K43
end

section
namespace K43
open PySem L2 Pd
theorem fn_rt {nN : Nat} {S : SF} {as ρ0 ρ' as' : List Sl} {d : D} (h0 : as ++ List.replicate (nN - as.length) .u = ρ0) (h : S ρ0 = .ok (.rt d ρ')) (hl : as.length ≤ ρ'.length) (hk : keepM as ρ' = as') : mkFn nN S as = .ok (d, as') := by
  subst h0 hk
  simp only [mkFn, h, bind_ok, if_pos hl]
theorem sq {f g : SF} {ρ ρ' : List Sl} {r : Pd.R Fl} (h : f ρ = .ok (.nx ρ')) (e : g ρ' = r) : sSeq f g ρ = r := by
  simp only [sSeq, h, bind_ok, e]
theorem rt {f : EF} {ρ ρ' : List Sl} {d : D} (h : f ρ = .ok (d, ρ')) : sRet f ρ = .ok (.rt d ρ') := by
  simp only [sRet, h, bind_ok]
theorem drp {f : EF} {ρ ρ' : List Sl} {d : D} (h : f ρ = .ok (d, ρ')) : sDrop f ρ = .ok (.nx ρ') := by
  simp only [sDrop, h, bind_ok]
theorem asg {f : EF} {g : GF} {ρ ρ' ρ2 : List Sl} {d : D} (h : f ρ = .ok (d, ρ')) (h2 : g d ρ' = some ρ2) : sAsg f g ρ = .ok (.nx ρ2) := by
  simp only [sAsg, h, bind_ok, h2, li]
theorem tupLc {F : AF} {g : GF} {t : TF} {f : EF} {vs : List Nat} {ρ ρ1 ρw ρ2 ρ3 : List Sl} {xs ys : List D} (hF : F ρ = .ok (xs, ρ1)) (hl : xs.length ≤ 1000000) (hn : noM vs ρ1 = true) (hw : wipeS vs ρ1 = ρw)
    (h : lcL g t f vs xs ρw = .ok (ys, ρ2)) (hm : mixS vs ρ1 ρ2 = ρ3) : eCall tupOf (aCons (eLc F g t f vs) aNil) ρ = .ok (.tuple ys, ρ3) := by
  subst hw hm
  simp only [eCall, aCons, eLc, eLc0, aNil, hF, bind_ok, if_pos (And.intro hl hn), h, noEx_ok, tupOf, li]
theorem lstLc {F : AF} {g : GF} {t : TF} {f : EF} {vs : List Nat} {ρ ρ1 ρw ρ2 ρ3 : List Sl} {xs ys : List D} (hF : F ρ = .ok (xs, ρ1)) (hl : xs.length ≤ 1000000) (hn : noM vs ρ1 = true) (hw : wipeS vs ρ1 = ρw)
    (h : lcL g t f vs xs ρw = .ok (ys, ρ2)) (hm : mixS vs ρ1 ρ2 = ρ3) : eLc F g t f vs ρ = .ok (.list ys, ρ3) := by
  subst hw hm
  simp only [eLc, eLc0, hF, bind_ok, if_pos (And.intro hl hn), h, noEx_ok]
theorem iR1_gen {f : EF} {M : Int} {ρ ρ1 : List Sl} {L : List D} (hf : f ρ = .ok (.int M, ρ1)) (hm : smallI M = true) (hr : rgL 0 M = L) : iR1 f ρ = .ok (L, ρ1) := by
  subst hr
  unfold iR1
  rw [hf]
  simp only [bind_ok]
  rw [if_pos hm]
theorem small_nat {m : Nat} (hm : m ≤ 1000000) : smallI (m : Int) = true := by
  unfold smallI
  rw [Bool.and_eq_true, decide_eq_true_iff, decide_eq_true_iff]
  omega
theorem iR1_ok {f : EF} {m : Nat} {ρ ρ1 : List Sl} (hf : f ρ = .ok (.int (m : Int), ρ1)) (hm : m ≤ 1000000) : iR1 f ρ = .ok ((List.range m).map (fun (k : Nat) => .int (k : Int)), ρ1) :=
  iR1_gen hf (small_nat hm) (rgL0 m)
theorem us {n : Nat} {F : Fn} {g : CF} {ρ ρ1 ρ2 sls sls' : List Sl} {args : List Ar} {d : D} (hg : g ρ = .ok (args, ρ1)) (hn : args.length = n ∧ (arIx args).Nodup) (hs : arSl ρ1 args = some sls) (hF : F sls = .ok (d, sls')) (hb : back ρ1 args sls' = some ρ2) : eUser n F g ρ = .ok (d, ρ2) := by
  simp only [eUser, hg, bind_ok, if_pos hn, hs, li, hF, hb]
theorem lc1 {g : GF} {f : EF} {vs : List Nat} {x d : D} {ρ ρ1 ρ2 ρ3 : List Sl} (hg : g x ρ = some ρ1) (hf : f ρ1 = .ok (d, ρ2)) (hw : wipeS vs ρ2 = ρ3) : lcStep g tYs f vs x ρ = .ok (some d, ρ3) := by
  subst hw
  simp only [lcStep, hg, li, bind_ok, tYs, if_true, hf]
theorem mapLen {α : Type} {n : Nat} {f : Nat → α} (h : n ≤ 81) : ((List.range n).map f).length ≤ 1000000 := by simp; omega
section
variable {p : Int} (hp : Pr p)
include hp
theorem is_matrix_ok {n m : Nat} {f : Nat → Nat → Int} (hf : Bd p f) (n1 : 1 ≤ n) (n2 : n ≤ 81) (m1 : 1 ≤ m) (m2 : m ≤ 81) : m_is_matrix [.d (mat n m f), .d (.int p)] = .ok (.bool true, [.d (mat n m f), .d (.int p)]) := by
  simp [m_is_matrix, S_is_matrix, need_prime_ok hp, is_matrix_in_ok hp hf n1 n2 m1 m2]
omit hp in
theorem need_ok {xs : List D} (h : ∀ x ∈ xs, m_is_matrix [.d x, .d (.int p)] = .ok (.bool true, [.d x, .d (.int p)])) : m_need_matrices [.d (.tuple xs), .d (.int p)] = .ok (.none, [.d (.tuple xs), .d (.int p)]) := by
  obtain ⟨ρ', e, s2, hs2, rfl⟩ := forL_rn (g := setD 2) (body := sIf (tNo (tOf (eUser 2 (m_is_matrix) (cD (eVar 2) (cD (eVar 1) (cNil)))))) (sNever) (sNx))
    (fun _ ρ => ∃ s2, nm s2 = true ∧ ρ = [.d (.tuple xs), .d (.int p), s2]) (xs := xs) (ρ := [.d (.tuple xs), .d (.int p), .u]) (n := 0) (fun k x ρ hk hI => by
      obtain ⟨s2, hs2, rfl⟩ := hI
      refine ⟨[.d (.tuple xs), .d (.int p), .d x], by simp [hs2], rn_fin (a := .nx [.d (.tuple xs), .d (.int p), .d x]) ?_ ⟨_, .inl rfl, .d x, rfl, rfl⟩⟩
      simp [h x (List.mem_of_getElem? hk)]) ⟨.u, rfl, rfl⟩
  simp [m_need_matrices, S_need_matrices, e]
theorem need1 {n m : Nat} {f : Nat → Nat → Int} (hf : Bd p f) (n1 : 1 ≤ n) (n2 : n ≤ 81) (m1 : 1 ≤ m) (m2 : m ≤ 81) : m_need_matrices [.d (.tuple [mat n m f]), .d (.int p)] = .ok (.none, [.d (.tuple [mat n m f]), .d (.int p)]) :=
  need_ok fun x hx => by
    simp at hx
    subst hx
    exact is_matrix_ok hp hf n1 n2 m1 m2
theorem need2 {n m : Nat} {f : Nat → Nat → Int} (hf : Bd p f) (n1 : 1 ≤ n) (n2 : n ≤ 81) (m1 : 1 ≤ m) (m2 : m ≤ 81) {n' m' : Nat} {f' : Nat → Nat → Int} (hf' : Bd p f') (n1' : 1 ≤ n') (n2' : n' ≤ 81) (m1' : 1 ≤ m') (m2' : m' ≤ 81) : m_need_matrices [.d (.tuple [mat n m f, mat n' m' f']), .d (.int p)] = .ok (.none, [.d (.tuple [mat n m f, mat n' m' f']), .d (.int p)]) :=
  need_ok fun x hx => by
    simp at hx
    rcases hx with rfl | rfl
    · exact is_matrix_ok hp hf n1 n2 m1 m2
    · exact is_matrix_ok hp hf' n1' n2' m1' m2'
/-! ### products -/
def sm (k : Nat) (w : Nat → Int) : Int := ((List.range k).map w).sum
def prod (p : Int) (k : Nat) (f g : Nat → Nat → Int) : Nat → Nat → Int := fun i j => sm k (fun l => f i l * g l j) % p
theorem prod_bd {k : Nat} {f g : Nat → Nat → Int} : Bd p (prod p k f g) := fun i j => ⟨Int.emod_nonneg _ (by have := hp.lo; omega), Int.emod_lt_of_pos _ (by have := hp.lo; omega)⟩
theorem combined_ok {k m : Nat} {u : Nat → Int} {g : Nat → Nat → Int} (hu : ∀ l, 0 ≤ u l ∧ u l < p) (hg : Bd p g) (k1 : 1 ≤ k) (k2 : k ≤ 81) (m1 : 1 ≤ m) (m2 : m ≤ 81) :
    m_combined [.d (row k u), .d (mat k m g), .d (.int p)] = .ok (row m (fun j => sm k (fun l => u l * g l j) % p), [.d (row k u), .d (mat k m g), .d (.int p)]) := by
  have hp2 := hp.lo
  have hp7 := hp.hi
  have hp0 : 0 < p := by omega
  have e : ∀ j, j < m → ∀ s4, nm s4 = true → lcL (gTupD 2 (gsCons (setD 5) (gsCons (setD 6) (gsNil)))) tYs (eOp mulD (eVar 5) (eOp ixD (eVar 6) (eVar 4))) [5, 6] ((List.range k).map fun l => .tuple [.int (u l), row m (g l)]) [.d (row k u), .d (mat k m g), .d (.int p), .d (.int m), .d (.int j), .u, .u] = .ok ((List.range k).map (fun l => .int (u l * g l j)), [.d (row k u), .d (mat k m g), .d (.int p), .d (.int m), .d (.int j), .u, .u]) := fun j hj s4 _ => lc_map (fun l => .int (u l * g l j)) fun l _ => by
    have h1 := hu l
    have h2 := hg l j
    have h3 := mul_lt h1.1 (by omega) h2.1 (by omega)
    unfold row
    simp [atR (m := m) (j := j) _ hj, h3]
  have m3 : m ≤ 1000000 := by omega
  have k3 : k ≤ 1000000 := by omega
  have e2 : lcL (setD 4) tYs (eOp modD (eCall sumD (aCons (eLc (iZip2 (eVar 0) (eVar 1)) (gTupD 2 (gsCons (setD 5) (gsCons (setD 6) (gsNil)))) (tYs) (eOp mulD (eVar 5) (eOp ixD (eVar 6) (eVar 4))) [5, 6]) (aNil))) (eVar 2)) [4] ((List.range m).map fun (j : Nat) => .int (j : Int)) [.d (row k u), .d (mat k m g), .d (.int p), .d (.int m), .u, .u, .u] = .ok ((List.range m).map (fun j => .int (sm k (fun l => u l * g l j) % p)), [.d (row k u), .d (mat k m g), .d (.int p), .d (.int m), .u, .u, .u]) := lc_map (fun j => .int (sm k (fun l => u l * g l j) % p)) fun j hj => by
    have e3 := e j (List.mem_range.mp hj) .u rfl
    unfold mat row at e3 ⊢
    unfold sm
    simp [zipR, e3, intsR, k3, hp0]
  unfold m_combined S_combined
  refine fn_rt (ρ0 := [.d (row k u), .d (mat k m g), .d (.int p), .u, .u, .u, .u]) rfl (sq (ρ' := [.d (row k u), .d (mat k m g), .d (.int p), .d (.int m), .u, .u, .u]) ?_ (rt (tupLc (iR1_ok (m := m) (ρ1 := [.d (row k u), .d (mat k m g), .d (.int p), .d (.int m), .u, .u, .u]) ?_ m3) (mapLen m2) rfl rfl e2 rfl))) (by simp) (by simp)
  · unfold mat row
    simp [atR0, (show 0 < k by omega)]
  · rfl
theorem product_of_ok {n k m : Nat} {f g : Nat → Nat → Int} (hf : Bd p f) (hg : Bd p g) (n2 : n ≤ 81) (k1 : 1 ≤ k) (k2 : k ≤ 81) (m1 : 1 ≤ m) (m2 : m ≤ 81) :
    m_product_of [.d (mat n k f), .d (mat k m g), .d (.int p)] = .ok (mat n m (prod p k f g), [.d (mat n k f), .d (mat k m g), .d (.int p)]) := by
  have e : lcL (setD 3) tYs (eUser 3 (m_combined) (cD (eVar 3) (cD (eVar 1) (cD (eVar 2) (cNil))))) [3] ((List.range n).map fun i => row k (f i)) [.d (mat n k f), .d (mat k m g), .d (.int p), .u] = .ok ((List.range n).map (fun i => row m (prod p k f g i)), [.d (mat n k f), .d (mat k m g), .d (.int p), .u]) := lc_map (fun i => row m (prod p k f g i)) fun i _ => by
    simp [combined_ok hp (hf i) hg k1 k2 m1 m2, prod]
    rfl
  have n3 : n ≤ 1000000 := by omega
  rw [show mat n k f = .tuple ((List.range n).map fun i => row k (f i)) from rfl] at e ⊢
  simp [m_product_of, S_product_of, e, n3]
  rfl
theorem matrix_product_ok {n k m : Nat} {f g : Nat → Nat → Int} (hf : Bd p f) (hg : Bd p g) (n1 : 1 ≤ n) (n2 : n ≤ 81) (k1 : 1 ≤ k) (k2 : k ≤ 81) (m1 : 1 ≤ m) (m2 : m ≤ 81) :
    m_matrix_product [.d (mat n k f), .d (mat k m g), .d (.int p)] = .ok (mat n m (prod p k f g), [.d (mat n k f), .d (mat k m g), .d (.int p)]) := by
  have e := product_of_ok hp hf hg n2 k1 k2 m1 m2
  have e2 := need2 hp hf n1 n2 k1 k2 hg k1 k2 m1 m2
  rw [show mat n k f = .tuple ((List.range n).map fun i => row k (f i)) from rfl, show mat k m g = .tuple ((List.range k).map fun i => row m (g i)) from rfl] at e e2 ⊢
  simp only [row] at e e2 ⊢
  simp [m_matrix_product, S_matrix_product, atR0, (show 0 < n by omega), e, e2]
/-! ### the transpose -/
def tr (f : Nat → Nat → Int) : Nat → Nat → Int := fun i j => f j i
omit hp in
theorem tr_bd {f : Nat → Nat → Int} (hf : Bd p f) : Bd p (tr f) := fun i j => hf j i
omit hp in
theorem transpose_of_ok {n m : Nat} {f : Nat → Nat → Int} (n1 : 1 ≤ n) (n2 : n ≤ 81) (m2 : m ≤ 81) : m_transpose_of [.d (mat n m f)] = .ok (mat m n (tr f), [.d (mat n m f)]) := by
  have n3 : n ≤ 1000000 := by omega
  have m3 : m ≤ 1000000 := by omega
  have e : ∀ j, j < m → lcL (setD 2) tYs (eOp ixD (eVar 2) (eVar 1)) [2] ((List.range n).map fun i => row m (f i)) [.d (mat n m f), .d (.int j), .u] = .ok ((List.range n).map (fun i => .int (f i j)), [.d (mat n m f), .d (.int j), .u]) := fun j hj => lc_map (fun i => .int (f i j)) fun i _ => by
    unfold row
    simp [atR (m := m) (j := j) _ hj]
  have e2 : lcL (setD 1) tYs (eCall tupOf (aCons (eLc (iAny (eVar 0)) (setD 2) (tYs) (eOp ixD (eVar 2) (eVar 1)) [2]) (aNil))) [1] ((List.range m).map fun (j : Nat) => .int (j : Int)) [.d (mat n m f), .u, .u] = .ok ((List.range m).map (fun j => row n (tr f j)), [.d (mat n m f), .u, .u]) := lc_map (fun j => row n (tr f j)) fun j hj => by
    have e3 := e j (List.mem_range.mp hj)
    rw [show mat n m f = .tuple ((List.range n).map fun i => row m (f i)) from rfl] at e3 ⊢
    simp [e3, n3]
    rfl
  unfold m_transpose_of S_transpose_of
  refine fn_rt (ρ0 := [.d (mat n m f), .u, .u]) rfl (rt (tupLc (iR1_ok (m := m) (ρ1 := [.d (mat n m f), .u, .u]) ?_ m3) (mapLen m2) rfl rfl e2 rfl)) (by simp) (by simp)
  unfold mat row
  simp [atR0, (show 0 < n by omega)]
theorem transposed_ok {n m : Nat} {f : Nat → Nat → Int} (hf : Bd p f) (n1 : 1 ≤ n) (n2 : n ≤ 81) (m1 : 1 ≤ m) (m2 : m ≤ 81) : m_transposed [.d (mat n m f), .d (.int p)] = .ok (mat m n (tr f), [.d (mat n m f), .d (.int p)]) := by
  simp [m_transposed, S_transposed, need1 hp hf n1 n2 m1 m2, transpose_of_ok n1 n2 m2]
/-! ### the identity -/
def idm : Nat → Nat → Int := fun i j => if i = j then 1 else 0
theorem idm_bd : Bd p idm := fun i j => by
  have := hp.lo
  unfold idm
  split <;> omega
omit hp in
theorem identity_of_ok {n : Nat} (n2 : n ≤ 81) : m_identity_of [.d (.int n)] = .ok (mat n n idm, [.d (.int n)]) := by
  have n3 : n ≤ 1000000 := by omega
  have e : ∀ i : Nat, lcL (setD 2) tYs (eIf (tBo (eOp eqD (eVar 1) (eVar 2))) (eC (.int 1)) (eC (.int 0))) [2] ((List.range n).map fun (j : Nat) => .int (j : Int)) [.d (.int n), .d (.int i), .u] = .ok ((List.range n).map (fun j => .int (idm i j)), [.d (.int n), .d (.int i), .u]) := fun i => lc_map (fun j => .int (idm i j)) fun j _ => by
    unfold idm
    by_cases h : i = j
    · subst h; simp
    · have h2 : ((i : Int) == (j : Int)) = false := by rw [beq_eq_false_iff_ne]; omega
      simp [h, h2]
  have e2 : lcL (setD 1) tYs (eCall tupOf (aCons (eLc (iR1 (eVar 0)) (setD 2) (tYs) (eIf (tBo (eOp eqD (eVar 1) (eVar 2))) (eC (.int 1)) (eC (.int 0))) [2]) (aNil))) [1] ((List.range n).map fun (j : Nat) => .int (j : Int)) [.d (.int n), .u, .u] = .ok ((List.range n).map (fun i => row n (idm i)), [.d (.int n), .u, .u]) := lc_map (fun i => row n (idm i)) fun i _ => by
    refine lc1 (ρ1 := [.d (.int n), .d (.int i), .u]) rfl (tupLc (iR1_ok (m := n) rfl n3) (mapLen n2) rfl rfl (e i) rfl) rfl
  unfold m_identity_of S_identity_of
  exact fn_rt (ρ0 := [.d (.int n), .u, .u]) rfl (rt (tupLc (iR1_ok (m := n) rfl n3) (mapLen n2) rfl rfl e2 rfl)) (by simp) (by simp)
omit hp in
theorem identity_matrix_ok {n : Nat} (n1 : 1 ≤ n) (n2 : n ≤ 81) : m_identity_matrix [.d (.int n)] = .ok (mat n n idm, [.d (.int n)]) := by
  unfold m_identity_matrix S_identity_matrix
  refine fn_rt (ρ0 := [.d (.int n)]) rfl (sq (drp (us (sls := [.d (.int n), .d (.int 1), .d (.int 81)]) rfl ⟨rfl, by simp⟩ rfl (need_whole_ok (v := (n : Int)) (lo := 1) (hi := 81) (by omega) (by omega)) rfl)) (rt (us (sls := [.d (.int n)]) rfl ⟨rfl, by simp⟩ rfl (identity_of_ok n2) rfl))) (by simp) (by simp)
end
end K43
end

section
namespace K43
open PySem L2 Pd
theorem getR {a k : Nat} {q : Nat → D} {x : D} (h : ((List.range a).map q)[k]? = some x) : k < a ∧ x = q k := by
  rw [List.getElem?_map] at h
  by_cases c : k < a
  · rw [List.getElem?_range c] at h
    simp at h
    exact ⟨c, h.symm⟩
  · rw [List.getElem?_eq_none (by simp; omega)] at h
    simp at h
theorem range_block {α : Type} (h : Nat → α) (k t : Nat) : (List.range ((k + 1) * t)).map h = (List.range (k * t)).map h ++ (List.range t).map fun y => h (k * t + y) := by
  rw [Nat.add_mul, Nat.one_mul, List.range_add, List.map_append, List.map_map]
  rfl
theorem blk_div {k t y : Nat} (hy : y < t) : (k * t + y) / t = k := by
  rw [Nat.mul_comm, Nat.mul_add_div (by omega), Nat.div_eq_of_lt hy]
  rfl
theorem blk_mod {k t y : Nat} (hy : y < t) : (k * t + y) % t = y := by
  rw [Nat.mul_comm, Nat.mul_add_mod, Nat.mod_eq_of_lt hy]
def kron (p : Int) (s t : Nat) (f g : Nat → Nat → Int) : Nat → Nat → Int := fun i j => f (i / s) (j / t) * g (i % s) (j % t) % p
theorem for_eq {F : AF} {g : GF} {body : SF} {ρ ρ1 ρ' : List Sl} {xs : List D} (h : F ρ = .ok (xs, ρ1)) (e : forL g body xs ρ1 = .ok (.nx ρ')) : sFor F g body ρ = .ok (.nx ρ') := by
  simp only [sFor, h, bind_ok, e]
theorem if_no {t : TF} {f : SF} {ρ ρ' : List Sl} (h : t ρ = .ok (false, ρ')) : sIf t f sNx ρ = .ok (.nx ρ') := by
  simp only [sIf, h, bind_ok, sNx]
  rfl
section
variable {p : Int} (hp : Pr p)
include hp
theorem kron_bd {s t : Nat} {f g : Nat → Nat → Int} : Bd p (kron p s t f g) := fun i j => ⟨Int.emod_nonneg _ (by have := hp.lo; omega), Int.emod_lt_of_pos _ (by have := hp.lo; omega)⟩
theorem kronecker_row_ok {a t : Nat} {u v : Nat → Int} (hu : ∀ l, 0 ≤ u l ∧ u l < p) (hv : ∀ l, 0 ≤ v l ∧ v l < p) (a2 : a ≤ 81) (t2 : t ≤ 81) :
    m_kronecker_row [.d (row a u), .d (row t v), .d (.int p)] = .ok (row (a * t) (fun x => u (x / t) * v (x % t) % p), [.d (row a u), .d (row t v), .d (.int p)]) := by
  have hp2 := hp.lo
  have hp7 := hp.hi
  have hp0 : 0 < p := by omega
  generalize hh : (fun x => PyData.int (u (x / t) * v (x % t) % p)) = h
  have hrow : row (a * t) (fun x => u (x / t) * v (x % t) % p) = .tuple ((List.range (a * t)).map h) := by rw [← hh]; rfl
  rw [hrow]
  have e : ∀ k l, lcL (setD 5) tYs (eOp modD (eOp mulD (eVar 4) (eVar 5)) (eVar 2)) [5] ((List.range t).map fun j => .int (v j)) [.d (row a u), .d (row t v), .d (.int p), .d l, .d (.int (u k)), .u] = .ok ((List.range t).map (fun y => h (k * t + y)), [.d (row a u), .d (row t v), .d (.int p), .d l, .d (.int (u k)), .u]) := fun k l => lc_map (fun y => h (k * t + y)) fun y hy => by
    have hy := List.mem_range.mp hy
    have h1 := hu k
    have h2 := hv y
    have h3 := mul_lt h1.1 (by omega) h2.1 (by omega)
    rw [← hh]
    simp [h3, hp0, blk_div hy, blk_mod hy]
  obtain ⟨ρ', e1, s4, hs4, rfl⟩ := forL_rn (g := setD 4) (body := sAsg (eOp addD (eVar 3) (eLc (iAny (eVar 1)) (setD 5) (tYs) (eOp modD (eOp mulD (eVar 4) (eVar 5)) (eVar 2)) [5])) (setD 3))
    (fun k ρ => ∃ s4, nm s4 = true ∧ ρ = [.d (row a u), .d (row t v), .d (.int p), .d (.list ((List.range (k * t)).map h)), s4, .u]) (xs := (List.range a).map fun i => .int (u i)) (ρ := [.d (row a u), .d (row t v), .d (.int p), .d (.list []), .u, .u]) (n := 0) (fun k x ρ hk hI => by
      obtain ⟨s4, hs4, rfl⟩ := hI
      obtain ⟨hka, rfl⟩ := getR hk
      rw [Nat.zero_add]
      refine ⟨[.d (row a u), .d (row t v), .d (.int p), .d (.list ((List.range (k * t)).map h)), .d (.int (u k)), .u], by simp [hs4], rn_fin (asg (ρ' := [.d (row a u), .d (row t v), .d (.int p), .d (.list ((List.range (k * t)).map h)), .d (.int (u k)), .u]) (d := .list ((List.range ((k + 1) * t)).map h)) ?_ (setD_eq rfl)) ⟨_, .inl rfl, .d (.int (u k)), rfl, rfl⟩⟩
      have hl : eLc (iAny (eVar 1)) (setD 5) (tYs) (eOp modD (eOp mulD (eVar 4) (eVar 5)) (eVar 2)) [5] [.d (row a u), .d (row t v), .d (.int p), .d (.list ((List.range (k * t)).map h)), .d (.int (u k)), .u] = .ok (.list ((List.range t).map (fun y => h (k * t + y))), [.d (row a u), .d (row t v), .d (.int p), .d (.list ((List.range (k * t)).map h)), .d (.int (u k)), .u]) :=
        lstLc (ρ1 := [.d (row a u), .d (row t v), .d (.int p), .d (.list ((List.range (k * t)).map h)), .d (.int (u k)), .u]) rfl (mapLen t2) rfl rfl (e k _) rfl
      have hsz : ((List.range (k * t)).map h).length + ((List.range t).map (fun y => h (k * t + y))).length ≤ sizeLine := by
        have : k * t ≤ 81 * 81 := Nat.mul_le_mul (by omega) t2
        rw [sizeN]
        simp
        omega
      rw [range_block h k t]
      generalize eLc (iAny (eVar 1)) (setD 5) (tYs) (eOp modD (eOp mulD (eVar 4) (eVar 5)) (eVar 2)) [5] = F at hl ⊢
      generalize (List.range (k * t)).map h = L1 at hl hsz ⊢
      generalize (List.range t).map (fun y => h (k * t + y)) = L2 at hl hsz ⊢
      simp [hl, hsz]) ⟨.u, rfl, by simp⟩
  unfold m_kronecker_row S_kronecker_row
  refine fn_rt (ρ0 := [.d (row a u), .d (row t v), .d (.int p), .u, .u, .u]) (ρ' := [.d (row a u), .d (row t v), .d (.int p), .d (.list ((List.range (a * t)).map h)), s4, .u]) rfl (sq (ρ' := [.d (row a u), .d (row t v), .d (.int p), .d (.list []), .u, .u]) (by simp) (sq (for_eq (ρ1 := [.d (row a u), .d (row t v), .d (.int p), .d (.list []), .u, .u]) rfl e1) ?_)) (by simp) (by simp)
  have ha : 0 + ((List.range a).map fun i => (PyData.int (u i) : D)).length = a := by simp
  rw [ha]
  simp
theorem kronecker_ok {n m s t : Nat} {f g : Nat → Nat → Int} (hf : Bd p f) (hg : Bd p g) (n1 : 1 ≤ n) (n2 : n ≤ 81) (m1 : 1 ≤ m) (m2 : m ≤ 81) (s1 : 1 ≤ s) (s2 : s ≤ 81) (t1 : 1 ≤ t) (t2 : t ≤ 81) (ns : n * s ≤ 81) (mt : m * t ≤ 81) :
    m_kronecker [.d (mat n m f), .d (mat s t g), .d (.int p)] = .ok (mat (n * s) (m * t) (kron p s t f g), [.d (mat n m f), .d (mat s t g), .d (.int p)]) := by
  generalize hh : (fun x => row (m * t) (kron p s t f g x)) = h
  have hmat : mat (n * s) (m * t) (kron p s t f g) = .tuple ((List.range (n * s)).map h) := by rw [← hh]; rfl
  rw [hmat]
  have e : ∀ k l, lcL (setD 5) tYs (eUser 3 (m_kronecker_row) (cD (eVar 4) (cD (eVar 5) (cD (eVar 2) (cNil))))) [5] ((List.range s).map fun j => row t (g j)) [.d (mat n m f), .d (mat s t g), .d (.int p), .d l, .d (row m (f k)), .u] = .ok ((List.range s).map (fun y => h (k * s + y)), [.d (mat n m f), .d (mat s t g), .d (.int p), .d l, .d (row m (f k)), .u]) := fun k l => lc_map (fun y => h (k * s + y)) fun y hy => by
    have hy := List.mem_range.mp hy
    have h3 := kronecker_row_ok hp (hf k) (hg y) m2 t2
    have h4 : h (k * s + y) = row (m * t) (fun x => f k (x / t) * g y (x % t) % p) := by
      rw [← hh]
      show row (m * t) (kron p s t f g (k * s + y)) = _
      congr 1
      funext x
      unfold kron
      rw [blk_div hy, blk_mod hy]
    rw [h4]
    exact lc1 (ρ1 := [.d (mat n m f), .d (mat s t g), .d (.int p), .d l, .d (row m (f k)), .d (row t (g y))]) rfl (us (sls := [.d (row m (f k)), .d (row t (g y)), .d (.int p)]) rfl ⟨rfl, by simp⟩ rfl h3 rfl) rfl
  obtain ⟨ρ', e1, s4, hs4, rfl⟩ := forL_rn (g := setD 4) (body := sAsg (eOp addD (eVar 3) (eLc (iAny (eVar 1)) (setD 5) (tYs) (eUser 3 (m_kronecker_row) (cD (eVar 4) (cD (eVar 5) (cD (eVar 2) (cNil))))) [5])) (setD 3))
    (fun k ρ => ∃ s4, nm s4 = true ∧ ρ = [.d (mat n m f), .d (mat s t g), .d (.int p), .d (.list ((List.range (k * s)).map h)), s4, .u]) (xs := (List.range n).map fun i => row m (f i)) (ρ := [.d (mat n m f), .d (mat s t g), .d (.int p), .d (.list []), .u, .u]) (n := 0) (fun k x ρ hk hI => by
      obtain ⟨s4, hs4, rfl⟩ := hI
      obtain ⟨hka, rfl⟩ := getR hk
      rw [Nat.zero_add]
      refine ⟨[.d (mat n m f), .d (mat s t g), .d (.int p), .d (.list ((List.range (k * s)).map h)), .d (row m (f k)), .u], by simp [hs4], rn_fin (asg (ρ' := [.d (mat n m f), .d (mat s t g), .d (.int p), .d (.list ((List.range (k * s)).map h)), .d (row m (f k)), .u]) (d := .list ((List.range ((k + 1) * s)).map h)) ?_ (setD_eq rfl)) ⟨_, .inl rfl, .d (row m (f k)), rfl, rfl⟩⟩
      have hl : eLc (iAny (eVar 1)) (setD 5) (tYs) (eUser 3 (m_kronecker_row) (cD (eVar 4) (cD (eVar 5) (cD (eVar 2) (cNil))))) [5] [.d (mat n m f), .d (mat s t g), .d (.int p), .d (.list ((List.range (k * s)).map h)), .d (row m (f k)), .u] = .ok (.list ((List.range s).map (fun y => h (k * s + y))), [.d (mat n m f), .d (mat s t g), .d (.int p), .d (.list ((List.range (k * s)).map h)), .d (row m (f k)), .u]) :=
        lstLc (ρ1 := [.d (mat n m f), .d (mat s t g), .d (.int p), .d (.list ((List.range (k * s)).map h)), .d (row m (f k)), .u]) rfl (mapLen s2) rfl rfl (e k _) rfl
      have hsz : ((List.range (k * s)).map h).length + ((List.range s).map (fun y => h (k * s + y))).length ≤ sizeLine := by
        have : k * s ≤ 81 * 81 := Nat.mul_le_mul (by omega) s2
        rw [sizeN]
        simp
        omega
      rw [range_block h k s]
      generalize eLc (iAny (eVar 1)) (setD 5) (tYs) (eUser 3 (m_kronecker_row) (cD (eVar 4) (cD (eVar 5) (cD (eVar 2) (cNil))))) [5] = F at hl ⊢
      generalize (List.range (k * s)).map h = L1 at hl hsz ⊢
      generalize (List.range s).map (fun y => h (k * s + y)) = L2 at hl hsz ⊢
      simp [hl, hsz]) ⟨.u, rfl, by simp⟩
  unfold m_kronecker S_kronecker
  have hz : ((n : Int) * s ≤ 81) := by exact_mod_cast ns
  have hz2 : ((m : Int) * t ≤ 81) := by exact_mod_cast mt
  have b1 := mul_lt (x := (n : Int)) (y := (s : Int)) (by omega) (by omega) (by omega) (by omega)
  have b2 := mul_lt (x := (m : Int)) (y := (t : Int)) (by omega) (by omega) (by omega) (by omega)
  refine fn_rt (ρ0 := [.d (mat n m f), .d (mat s t g), .d (.int p), .u, .u, .u]) (ρ' := [.d (mat n m f), .d (mat s t g), .d (.int p), .d (.list ((List.range (n * s)).map h)), s4, .u]) rfl
    (sq (ρ' := [.d (mat n m f), .d (mat s t g), .d (.int p), .u, .u, .u]) (drp (us (sls := [.d (.tuple [mat n m f, mat s t g]), .d (.int p)]) rfl ⟨rfl, by simp⟩ rfl (need2 hp hf n1 n2 m1 m2 hg s1 s2 t1 t2) rfl))
      (sq (ρ' := [.d (mat n m f), .d (mat s t g), .d (.int p), .u, .u, .u]) (if_no ?_) (sq (ρ' := [.d (mat n m f), .d (mat s t g), .d (.int p), .d (.list []), .u, .u]) (by simp) (sq (for_eq (ρ1 := [.d (mat n m f), .d (mat s t g), .d (.int p), .d (.list []), .u, .u]) rfl e1) ?_)))) (by simp) (by simp)
  · clear e e1 hmat hh h
    have b1' : n.log2 + s.log2 < 100000000 := by simpa using b1
    have b2' : m.log2 + t.log2 < 100000000 := by simpa using b2
    unfold mat row
    simp [atR0, (show 0 < n by omega), (show 0 < s by omega), Int.not_lt.mpr hz, Int.not_lt.mpr hz2, b1', b2']
  · have ha : 0 + ((List.range n).map fun i => row m (f i)).length = n := by simp
    rw [ha]
    simp
end
end K43
end

section
namespace K43
open PySem L2 Pd
/-! ### likeness of matrices -/
theorem lk_ints {α : Type} (w : α → Int) : ∀ l : List α, lkL (l.map fun a => .int (w a)) (l.map fun a => .int (w a)) = true
  | [] => by simp [lkL]
  | a :: l => by simp [lkL, lk, lk_ints w l]
theorem lk_row (m : Nat) (u : Nat → Int) : lk (row m u) (row m u) = true := by
  unfold row
  rw [lk]
  exact lk_ints u _
theorem lk_rows {α : Type} (h : α → D) (hh : ∀ a, lk (h a) (h a) = true) : ∀ l : List α, lkL (l.map h) (l.map h) = true
  | [] => by simp [lkL]
  | a :: l => by simp [lkL, hh a, lk_rows h hh l]
theorem lk_mat (n m : Nat) (f : Nat → Nat → Int) : lk (mat n m f) (mat n m f) = true := by
  unfold mat
  rw [lk]
  exact lk_rows (fun i => row m (f i)) (fun i => lk_row m (f i)) _
theorem fitL_map {α : Type} (h : α → D) (hh : ∀ a, fit (h a) = true) : ∀ l : List α, fitL (l.map h) = true
  | [] => by simp
  | a :: l => by simp [hh a, fitL_map h hh l]
theorem fit_row {m : Nat} (m2 : m ≤ 81) (u : Nat → Int) : fit (row m u) = true := by
  unfold row
  rw [fit, Bool.and_eq_true, decide_eq_true_iff]
  exact ⟨mapLen m2, fitL_map _ (fun a => by simp) _⟩
theorem fit_mat {n m : Nat} (n2 : n ≤ 81) (m2 : m ≤ 81) (f : Nat → Nat → Int) : fit (mat n m f) = true := by
  unfold mat
  rw [fit, Bool.and_eq_true, decide_eq_true_iff]
  exact ⟨mapLen n2, fitL_map _ (fun i => fit_row m2 (f i)) _⟩
theorem dep_row (m : Nat) (u : Nat → Int) : (row m u).depth ≤ 1 := by
  unfold row
  rw [dep_tuple]
  have := depthAll_le (k := 0) (xs := (List.range m).map fun j => .int (u j)) (fun x hx => by
    obtain ⟨j, _, rfl⟩ := List.mem_map.mp hx
    simp)
  omega
theorem dep_mat (n m : Nat) (f : Nat → Nat → Int) : (mat n m f).depth ≤ 2 := by
  unfold mat
  rw [dep_tuple]
  have := depthAll_le (k := 1) (xs := (List.range n).map fun i => row m (f i)) (fun x hx => by
    obtain ⟨j, _, rfl⟩ := List.mem_map.mp hx
    exact dep_row m (f j))
  omega
theorem mat_ext {n m : Nat} {f g : Nat → Nat → Int} (h : ∀ i j, i < n → j < m → f i j = g i j) : mat n m f = mat n m g := by
  unfold mat
  congr 1
  refine List.map_congr_left fun i hi => ?_
  unfold row
  congr 1
  refine List.map_congr_left fun j hj => ?_
  rw [h i j (List.mem_range.mp hi) (List.mem_range.mp hj)]
theorem like_mat {n m : Nat} (n2 : n ≤ 81) (m2 : m ≤ 81) {f g : Nat → Nat → Int} (h : mat n m f = mat n m g) : m__law_like 8 [.d (mat n m f), .d (mat n m g)] = .ok (.bool true, [.d (mat n m f), .d (mat n m g)]) := by
  rw [h, like_ok 8 _ _ (by have := dep_mat n m g; omega) (fit_mat n2 m2 g), lk_mat]
/-! ### sums -/
theorem sm_zero (w : Nat → Int) : sm 0 w = 0 := rfl
theorem sm_succ (k : Nat) (w : Nat → Int) : sm (k + 1) w = sm k w + w k := by
  unfold sm
  rw [List.range_succ, List.map_append, List.sum_append]
  simp
theorem sm_congr {k : Nat} {w w' : Nat → Int} (h : ∀ l, l < k → w l = w' l) : sm k w = sm k w' := by
  induction k with
  | zero => rfl
  | succ k ih => rw [sm_succ, sm_succ, ih (fun l hl => h l (by omega)), h k (by omega)]
theorem sm_congr_mod {p : Int} {k : Nat} {w w' : Nat → Int} (h : ∀ l, l < k → w l % p = w' l % p) : sm k w % p = sm k w' % p := by
  induction k with
  | zero => rfl
  | succ k ih => rw [sm_succ, sm_succ, Int.add_emod, ih (fun l hl => h l (by omega)), h k (by omega), ← Int.add_emod]
theorem sm_left (c : Int) (k : Nat) (w : Nat → Int) : sm k (fun l => c * w l) = c * sm k w := by
  induction k with
  | zero => simp [sm_zero]
  | succ k ih => rw [sm_succ, sm_succ, ih, Int.mul_add]
theorem sm_right (c : Int) (k : Nat) (w : Nat → Int) : sm k (fun l => w l * c) = sm k w * c := by
  induction k with
  | zero => simp [sm_zero]
  | succ k ih => rw [sm_succ, sm_succ, ih, Int.add_mul]
theorem sm_add (k : Nat) (w w' : Nat → Int) : sm k (fun l => w l + w' l) = sm k w + sm k w' := by
  induction k with
  | zero => rfl
  | succ k ih => rw [sm_succ, sm_succ, sm_succ, ih]; omega
theorem sm_swap (k m : Nat) (F : Nat → Nat → Int) : sm k (fun l => sm m (fun r => F l r)) = sm m (fun r => sm k (fun l => F l r)) := by
  induction k with
  | zero =>
    rw [sm_zero]
    induction m with
    | zero => rfl
    | succ m ih => rw [sm_succ, ← ih, sm_zero]; rfl
  | succ k ih =>
    rw [sm_succ, ih, ← sm_add]
    exact sm_congr fun r _ => (sm_succ k (fun l => F l r)).symm
theorem sm_app (a b : Nat) (w : Nat → Int) : sm (a + b) w = sm a w + sm b (fun y => w (a + y)) := by
  induction b with
  | zero => simp [sm_zero]
  | succ b ih => rw [← Nat.add_assoc, sm_succ, sm_succ, ih]; omega
theorem sm_prod {q t : Nat} (a b : Nat → Int) : sm (q * t) (fun l => a (l / t) * b (l % t)) = sm q a * sm t b := by
  induction q with
  | zero => simp [sm_zero]
  | succ q ih =>
    rw [Nat.add_mul, Nat.one_mul, sm_app, ih, sm_succ, Int.add_mul, ← sm_left (a q)]
    congr 1
    exact sm_congr fun y hy => by rw [blk_div hy, blk_mod hy]
theorem sm_delta {k i : Nat} (hi : i < k) (w : Nat → Int) : sm k (fun l => idm i l * w l) = w i := by
  induction k with
  | zero => omega
  | succ k ih =>
    rw [sm_succ]
    by_cases h : i = k
    · subst h
      have : sm i (fun l => idm i l * w l) = sm i (fun _ => 0 * 0) := sm_congr fun l hl => by
        unfold idm
        rw [if_neg (by omega)]
        simp
      rw [this, sm_left]
      unfold idm
      simp
    · rw [ih (by omega)]
      unfold idm
      rw [if_neg h]
      simp
theorem sm_delta' {k i : Nat} (hi : i < k) (w : Nat → Int) : sm k (fun l => w l * idm l i) = w i := by
  rw [← sm_delta hi w]
  refine sm_congr fun l _ => ?_
  rw [Int.mul_comm]
  unfold idm
  by_cases h : i = l
  · rw [if_pos h, if_pos h.symm]
  · rw [if_neg h, if_neg (fun z => h z.symm)]
/-! ### the rules -/
variable {p : Int}
theorem mulmod (a b : Int) : (a % p) * (b % p) % p = a * b % p := (Int.mul_emod a b p).symm
theorem mulmodl (a b : Int) : (a % p) * b % p = a * b % p := by
  rw [Int.mul_emod, Int.emod_emod, ← Int.mul_emod]
theorem mulmodr (a b : Int) : a * (b % p) % p = a * b % p := by
  rw [Int.mul_emod, Int.emod_emod, ← Int.mul_emod]
theorem r_mixed {Q S T U : Nat} (a b c d : Nat → Nat → Int) (i j : Nat) : prod p (Q * T) (kron p S T a c) (kron p T U b d) i j = kron p S U (prod p Q a b) (prod p T c d) i j := by
  unfold prod kron
  rw [mulmod, ← sm_prod]
  refine sm_congr_mod fun l _ => ?_
  rw [mulmod]
  congr 1
  simp only [Int.mul_assoc, Int.mul_left_comm]
theorem r_assoc {Q R S T : Nat} (a b c : Nat → Nat → Int) (i j : Nat) : kron p S T (kron p Q R a b) c i j = kron p (Q * S) (R * T) a (kron p S T b c) i j := by
  unfold kron
  rw [mulmodl, mulmodr, Nat.div_div_eq_div_mul, Nat.div_div_eq_div_mul, Nat.mul_comm S Q, Nat.mul_comm T R, Nat.mod_mul_left_div_self, Nat.mod_mul_left_div_self, Nat.mod_mod_of_dvd _ (Nat.dvd_mul_left S Q), Nat.mod_mod_of_dvd _ (Nat.dvd_mul_left T R), Int.mul_assoc]
theorem r_tr {Q : Nat} (a b : Nat → Nat → Int) (i j : Nat) : tr (prod p Q a b) i j = prod p Q (tr b) (tr a) i j := by
  unfold tr prod
  congr 1
  exact sm_congr fun l _ => Int.mul_comm ..
theorem r_ass {Q R : Nat} (a b c : Nat → Nat → Int) (i j : Nat) : prod p R (prod p Q a b) c i j = prod p Q a (prod p R b c) i j := by
  unfold prod
  have h1 : sm R (fun l => sm Q (fun l_1 => a i l_1 * b l_1 l) % p * c l j) % p = sm R (fun l => sm Q (fun l_1 => a i l_1 * b l_1 l * c l j)) % p := sm_congr_mod fun l _ => by rw [mulmodl, sm_right]
  have h2 : sm Q (fun l => a i l * (sm R (fun l_1 => b l l_1 * c l_1 j) % p)) % p = sm Q (fun l => sm R (fun l_1 => a i l * b l l_1 * c l_1 j)) % p := sm_congr_mod fun l _ => by
    rw [mulmodr, ← sm_left]
    congr 1
    exact sm_congr fun r _ => (Int.mul_assoc ..).symm
  rw [h1, h2, sm_swap]
theorem r_idl {P : Nat} {a : Nat → Nat → Int} (ha : Bd p a) {i j : Nat} (hi : i < P) : prod p P idm a i j = a i j := by
  unfold prod
  rw [sm_delta hi (fun l => a l j)]
  exact Int.emod_eq_of_lt (ha i j).1 (ha i j).2
theorem r_idr {Q : Nat} {a : Nat → Nat → Int} (ha : Bd p a) {i j : Nat} (hj : j < Q) : prod p Q a idm i j = a i j := by
  unfold prod
  rw [sm_delta' hj (fun l => a i l)]
  exact Int.emod_eq_of_lt (ha i j).1 (ha i j).2
theorem r_kl {P Q : Nat} {a : Nat → Nat → Int} (ha : Bd p a) {i j : Nat} (hi : i < P) (hj : j < Q) : kron p P Q idm a i j = a i j := by
  unfold kron idm
  rw [Nat.div_eq_of_lt hi, Nat.div_eq_of_lt hj, Nat.mod_eq_of_lt hi, Nat.mod_eq_of_lt hj, if_pos rfl, Int.one_mul]
  exact Int.emod_eq_of_lt (ha i j).1 (ha i j).2
theorem r_kr {a : Nat → Nat → Int} (ha : Bd p a) {i j : Nat} : kron p 1 1 a idm i j = a i j := by
  unfold kron idm
  rw [Nat.div_one, Nat.div_one, Nat.mod_one, Nat.mod_one, if_pos rfl, Int.mul_one]
  exact Int.emod_eq_of_lt (ha i j).1 (ha i j).2
theorem r_kk {Q : Nat} (hp : 2 ≤ p) (i j : Nat) : kron p Q Q idm idm i j = idm i j := by
  unfold kron idm
  by_cases h : i = j
  · subst h
    simp only [if_true]
    exact Int.emod_eq_of_lt (by decide) (by omega)
  · rw [if_neg h]
    by_cases h1 : i / Q = j / Q
    · by_cases h2 : i % Q = j % Q
      · exact absurd (by rw [← Nat.div_add_mod i Q, ← Nat.div_add_mod j Q, h1, h2]) h
      · rw [if_neg h2]; simp
    · rw [if_neg h1]; simp
end K43
end

section
namespace K43
open PySem L2 Pd
def Sz (n : Nat) : Prop := 1 ≤ n ∧ n ≤ 4
theorem m1 {x y : Nat} (hx : 1 ≤ x) (hy : 1 ≤ y) : 1 ≤ x * y := Nat.mul_pos hx hy
theorem m2 {x y a b : Nat} (hx : x ≤ a) (hy : y ≤ b) (h : a * b ≤ 81 := by decide) : x * y ≤ 81 := Nat.le_trans (Nat.mul_le_mul hx hy) h
theorem m16 {x y : Nat} (hx : x ≤ 4) (hy : y ≤ 4) : x * y ≤ 16 := Nat.mul_le_mul hx hy
section
variable {p : Int} (hp : Pr p) {P Q R S T U : Nat} (hP : Sz P) (hQ : Sz Q) (hR : Sz R) (hS : Sz S) (hT : Sz T) (hU : Sz U) {a b c d : Nat → Nat → Int} (ha : Bd p a) (hb : Bd p b) (hc : Bd p c) (hd : Bd p d)
include hp hP hQ hR hS hT hU ha hb hc hd
theorem rules_ok : m__law_rules [.d (mat P Q a), .d (mat Q R b), .d (mat S T c), .d (mat T U d), .d (.int p)] = .ok (.bool true, [.d (mat P Q a), .d (mat Q R b), .d (mat S T c), .d (mat T U d), .d (.int p)]) := by
  obtain ⟨P1, P4⟩ := hP
  obtain ⟨Q1, Q4⟩ := hQ
  obtain ⟨R1, R4⟩ := hR
  obtain ⟨S1, S4⟩ := hS
  obtain ⟨T1, T4⟩ := hT
  obtain ⟨U1, U4⟩ := hU
  have g : ∀ {x : Nat}, x ≤ 4 → x ≤ 81 := fun h => by omega
  have E1 := matrix_product_ok hp ha hb P1 (g P4) Q1 (g Q4) R1 (g R4)
  have E2 := matrix_product_ok hp hc hd S1 (g S4) T1 (g T4) U1 (g U4)
  have E3 := kronecker_ok hp (prod_bd hp (k := Q) (f := a) (g := b)) (prod_bd hp (k := T) (f := c) (g := d)) P1 (g P4) R1 (g R4) S1 (g S4) U1 (g U4) (m2 P4 S4) (m2 R4 U4)
  have E4 := kronecker_ok hp ha hc P1 (g P4) Q1 (g Q4) S1 (g S4) T1 (g T4) (m2 P4 S4) (m2 Q4 T4)
  have E5 := kronecker_ok hp hb hd Q1 (g Q4) R1 (g R4) T1 (g T4) U1 (g U4) (m2 Q4 T4) (m2 R4 U4)
  have E6 := matrix_product_ok hp (kron_bd hp (s := S) (t := T) (f := a) (g := c)) (kron_bd hp (s := T) (t := U) (f := b) (g := d)) (m1 P1 S1) (m2 P4 S4) (m1 Q1 T1) (m2 Q4 T4) (m1 R1 U1) (m2 R4 U4)
  have L1 := like_mat (n := P * S) (m := R * U) (m2 P4 S4) (m2 R4 U4) (mat_ext fun i j _ _ => r_mixed (p := p) (Q := Q) (S := S) (T := T) (U := U) a b c d i j)
  have E7 := kronecker_ok hp ha hb P1 (g P4) Q1 (g Q4) Q1 (g Q4) R1 (g R4) (m2 P4 Q4) (m2 Q4 R4)
  have E8 := kronecker_ok hp (kron_bd hp (s := Q) (t := R) (f := a) (g := b)) hc (m1 P1 Q1) (m2 P4 Q4) (m1 Q1 R1) (m2 Q4 R4) S1 (g S4) T1 (g T4) (m2 (m16 P4 Q4) S4) (m2 (m16 Q4 R4) T4)
  have E9 := kronecker_ok hp hb hc Q1 (g Q4) R1 (g R4) S1 (g S4) T1 (g T4) (m2 Q4 S4) (m2 R4 T4)
  have E10 := kronecker_ok hp ha (kron_bd hp (s := S) (t := T) (f := b) (g := c)) P1 (g P4) Q1 (g Q4) (m1 Q1 S1) (m2 Q4 S4) (m1 R1 T1) (m2 R4 T4) (m2 P4 (m16 Q4 S4)) (m2 Q4 (m16 R4 T4))
  have L2 := like_mat (n := P * (Q * S)) (m := Q * (R * T)) (m2 P4 (m16 Q4 S4)) (m2 Q4 (m16 R4 T4)) (mat_ext fun i j _ _ => r_assoc (p := p) (Q := Q) (R := R) (S := S) (T := T) a b c i j)
  rw [Nat.mul_assoc, Nat.mul_assoc] at E8
  have E11 := transposed_ok hp (prod_bd hp (k := Q) (f := a) (g := b)) P1 (g P4) R1 (g R4)
  have E12 := transposed_ok hp hb Q1 (g Q4) R1 (g R4)
  have E13 := transposed_ok hp ha P1 (g P4) Q1 (g Q4)
  have E14 := matrix_product_ok hp (tr_bd hb) (tr_bd ha) R1 (g R4) Q1 (g Q4) P1 (g P4)
  have L3 := like_mat (n := R) (m := P) (g R4) (g P4) (mat_ext fun i j _ _ => r_tr (p := p) (Q := Q) a b i j)
  have E15 := transposed_ok hp (kron_bd hp (s := S) (t := U) (f := prod p Q a b) (g := prod p T c d)) (m1 P1 S1) (m2 P4 S4) (m1 R1 U1) (m2 R4 U4)
  have E16 := transposed_ok hp (prod_bd hp (k := T) (f := c) (g := d)) S1 (g S4) U1 (g U4)
  have E17 := kronecker_ok hp (tr_bd (prod_bd hp (k := Q) (f := a) (g := b))) (tr_bd (prod_bd hp (k := T) (f := c) (g := d))) R1 (g R4) P1 (g P4) U1 (g U4) S1 (g S4) (m2 R4 U4) (m2 P4 S4)
  have L4 := like_mat (n := R * U) (m := P * S) (m2 R4 U4) (m2 P4 S4) (f := tr (kron p S U (prod p Q a b) (prod p T c d))) (g := kron p U S (tr (prod p Q a b)) (tr (prod p T c d))) rfl
  have E18 := transposed_ok hp (tr_bd ha) Q1 (g Q4) P1 (g P4)
  have L5 := like_mat (n := P) (m := Q) (g P4) (g Q4) (f := tr (tr a)) (g := a) rfl
  unfold m__law_rules S__law_rules
  generalize m_matrix_product = MP at *
  generalize m_kronecker = KR at *
  generalize m_transposed = TR at *
  generalize m__law_like 8 = LK at *
  generalize prod p (Q * T) (kron p S T a c) (kron p T U b d) = x1 at *
  generalize prod p Q (tr b) (tr a) = x2 at *
  generalize kron p U S (tr (prod p Q a b)) (tr (prod p T c d)) = x3 at *
  generalize tr (kron p S U (prod p Q a b) (prod p T c d)) = x4 at *
  generalize tr (tr a) = x5 at *
  clear ha hb hc hd
  generalize mat = mm at *
  simp [E1, E2, E3, E4, E5, E6, E7, E8, E9, E10, E11, E12, E13, E14, E15, E16, E17, E18, L1, L2, L3, L4, L5]
end
end K43
end

section
namespace K43
open PySem L2 Pd
theorem len_mat (n m : Nat) (f : Nat → Nat → Int) : lenD [mat n m f] = some (.int n) := by
  unfold mat
  simp
theorem len_row (m : Nat) (u : Nat → Int) : lenD [row m u] = some (.int m) := by
  unfold row
  simp
theorem ix_mat {n : Nat} (n1 : 1 ≤ n) (m : Nat) (f : Nat → Nat → Int) : ixD (mat n m f) (.int 0) = some (row m (f 0)) := by
  unfold mat
  simp [atR0 _ (show 0 < n by omega)]
theorem like_four {P Q : Nat} (P2 : P ≤ 81) (Q2 : Q ≤ 81) (a : Nat → Nat → Int) : m__law_like 8 [.d (.list [mat P Q a, mat P Q a, mat P Q a, mat P Q a]), .d (.list [mat P Q a, mat P Q a, mat P Q a, mat P Q a])] = .ok (.bool true, [.d (.list [mat P Q a, mat P Q a, mat P Q a, mat P Q a]), .d (.list [mat P Q a, mat P Q a, mat P Q a, mat P Q a])]) := by
  have h := dep_mat P Q a
  rw [like_ok 8 _ _ (by simp; omega) (by simp [fit_mat P2 Q2 a])]
  simp [lk, lkL, lk_mat]
theorem ident_ok {p : Int} (hp : Pr p) {P Q : Nat} (hP : Sz P) (hQ : Sz Q) {a : Nat → Nat → Int} (ha : Bd p a) : m__law_identities [.d (mat P Q a), .d (.int p)] = .ok (.bool true, [.d (mat P Q a), .d (.int p)]) := by
  obtain ⟨P1, P4⟩ := hP
  obtain ⟨Q1, Q4⟩ := hQ
  have g : ∀ {x : Nat}, x ≤ 4 → x ≤ 81 := fun h => by omega
  have I1 := identity_matrix_ok (n := P) P1 (g P4)
  have I2 := identity_matrix_ok (n := Q) Q1 (g Q4)
  have I3 := identity_matrix_ok (n := 1) (by decide) (by decide)
  have I4 := identity_matrix_ok (n := P * Q) (m1 P1 Q1) (m2 P4 Q4)
  have E1 := matrix_product_ok hp (idm_bd hp) ha P1 (g P4) P1 (g P4) Q1 (g Q4)
  rw [show mat P Q (prod p P idm a) = mat P Q a from mat_ext fun i j hi _ => r_idl ha hi] at E1
  have E2 := matrix_product_ok hp ha (idm_bd hp) P1 (g P4) Q1 (g Q4) Q1 (g Q4)
  rw [show mat P Q (prod p Q a idm) = mat P Q a from mat_ext fun i j _ hj => r_idr ha hj] at E2
  have E3 := kronecker_ok hp (idm_bd hp) ha (n := 1) (m := 1) (by decide) (by decide) (by decide) (by decide) P1 (g P4) Q1 (g Q4) (by omega) (by omega)
  rw [Nat.one_mul, Nat.one_mul, show mat P Q (kron p P Q idm a) = mat P Q a from mat_ext fun i j hi hj => r_kl ha hi hj] at E3
  have E4 := kronecker_ok hp ha (idm_bd hp) (s := 1) (t := 1) P1 (g P4) Q1 (g Q4) (by decide) (by decide) (by decide) (by decide) (by omega) (by omega)
  rw [Nat.mul_one, Nat.mul_one, show mat P Q (kron p 1 1 a idm) = mat P Q a from mat_ext fun i j _ _ => r_kr ha] at E4
  have E5 := kronecker_ok hp (idm_bd hp) (idm_bd hp) (n := P) (m := P) (s := Q) (t := Q) P1 (g P4) P1 (g P4) Q1 (g Q4) Q1 (g Q4) (m2 P4 Q4) (m2 P4 Q4)
  rw [show mat (P * Q) (P * Q) (kron p Q Q idm idm) = mat (P * Q) (P * Q) idm from mat_ext fun i j _ _ => r_kk hp.lo i j] at E5
  have L1 := like_four (g P4) (g Q4) a
  have L2' := like_mat (n := P * Q) (m := P * Q) (m2 P4 Q4) (m2 P4 Q4) (f := idm) (g := idm) rfl
  have h1 := len_mat P Q a
  have h2 := len_row Q (a 0)
  have h3 := ix_mat P1 Q a
  have hcast : ((P * Q : Nat) : Int) = (P : Int) * (Q : Int) := Int.natCast_mul P Q
  rw [hcast] at I4
  have I3' : m_identity_matrix [.d (.int 1)] = .ok (mat 1 1 idm, [.d (.int 1)]) := I3
  have b1 := mul_lt (x := (P : Int)) (y := (Q : Int)) (by omega) (by omega) (by omega) (by omega)
  clear I3 hcast ha
  unfold m__law_identities S__law_identities
  generalize m_matrix_product = MP at *
  generalize m_kronecker = KR at *
  generalize m_identity_matrix = TR at *
  generalize m__law_like 8 = LK at *
  generalize (row Q (a 0)) = rw0 at *
  generalize mat = mm at *
  generalize (P : Int) = Pi at *
  generalize (Q : Int) = Qi at *
  simp [I1, I2, I3', I4, E1, E2, E3, E4, E5, L1, L2', h1, h2, h3, b1, -lenD, -ixD]
/-! ### drawn matrices -/
theorem lc_ex {g : GF} {t : TF} {f : EF} {vs : List Nat} (I : List Sl → Prop) (C : D → Prop) : ∀ {xs : List D} {ρ : List Sl}, (∀ x ∈ xs, ∀ ρ, I ρ → ∃ y ρ', lcStep g t f vs x ρ = .ok (some y, ρ') ∧ I ρ' ∧ C y) → I ρ →
    ∃ ys ρ', ys.length = xs.length ∧ lcL g t f vs xs ρ = .ok (ys, ρ') ∧ I ρ' ∧ ∀ y ∈ ys, C y
  | [], ρ, _, i => ⟨[], ρ, rfl, rfl, i, fun _ h => nomatch h⟩
  | x :: xs, ρ, h, i => by
    obtain ⟨y, ρ', e, i', c⟩ := h x (List.mem_cons_self ..) ρ i
    obtain ⟨ys, ρ2, l2, e2, i2, c2⟩ := lc_ex I C (fun z hz => h z (List.mem_cons_of_mem _ hz)) i'
    refine ⟨y :: ys, ρ2, by simp [l2], by rw [lcL_step e, e2]; simp, i2, fun z hz => ?_⟩
    rcases List.mem_cons.mp hz with rfl | hz
    · exact c
    · exact c2 z hz
theorem ints_fn {p : Int} (hp : 0 < p) : ∀ {ys : List D}, (∀ y ∈ ys, ∃ z, y = .int z ∧ 0 ≤ z ∧ z < p) → ∃ u : Nat → Int, (∀ l, 0 ≤ u l ∧ u l < p) ∧ ys = (List.range ys.length).map fun j => .int (u j)
  | [], _ => ⟨fun _ => 0, fun _ => ⟨Int.le_refl _, hp⟩, rfl⟩
  | y :: ys, h => by
    obtain ⟨z, rfl, z0, z1⟩ := h y (List.mem_cons_self ..)
    obtain ⟨u, hu, e⟩ := ints_fn hp (fun x hx => h x (List.mem_cons_of_mem _ hx))
    refine ⟨fun l => match l with
      | 0 => z
      | l + 1 => u l, fun l => ?_, ?_⟩
    · cases l with
      | zero => exact ⟨z0, z1⟩
      | succ l => exact hu l
    · rw [List.length_cons, List.range_succ_eq_map, List.map_cons, List.map_map]
      exact congrArg _ e
theorem rows_fn {p : Int} (hp : 0 < p) {m : Nat} : ∀ {ys : List D}, (∀ y ∈ ys, ∃ u, y = row m u ∧ ∀ l, 0 ≤ u l ∧ u l < p) → ∃ f : Nat → Nat → Int, Bd p f ∧ ys = (List.range ys.length).map fun i => row m (f i)
  | [], _ => ⟨fun _ _ => 0, fun _ _ => ⟨Int.le_refl _, hp⟩, rfl⟩
  | y :: ys, h => by
    obtain ⟨u, rfl, hu⟩ := h y (List.mem_cons_self ..)
    obtain ⟨f, hf, e⟩ := rows_fn hp (fun x hx => h x (List.mem_cons_of_mem _ hx))
    refine ⟨fun l => match l with
      | 0 => u
      | l + 1 => f l, fun l j => ?_, ?_⟩
    · cases l with
      | zero => exact hu j
      | succ l => exact hf l j
    · rw [List.length_cons, List.range_succ_eq_map, List.map_cons, List.map_map]
      exact congrArg _ e
theorem law_matrix_ok {p : Int} (hp : Pr p) {n m : Nat} (n2 : n ≤ 81) (m2 : m ≤ 81) {a b : Int} (c : CupOk a b) : ∃ f a' b', Bd p f ∧ CupOk a' b' ∧ m__law_matrix [.m [.int a, .int b], .d (.int p), .d (.int n), .d (.int m)] = .ok (mat n m f, [.m [.int a', .int b'], .d (.int p), .d (.int n), .d (.int m)]) := by
  have hp2 := hp.lo
  have hp7 := hp.hi
  have inner : ∀ (i : D) (a b : Int), CupOk a b → ∃ (u : Nat → Int) (a' b' : Int), (∀ l, 0 ≤ u l ∧ u l < p) ∧ CupOk a' b' ∧ lcL (setD 5) tYs (eUser 2 (m__law_roll) (cR 0 (cD (eVar 1) (cNil)))) [5] ((List.range m).map fun (k : Nat) => .int (k : Int)) [.m [.int a, .int b], .d (.int p), .d (.int n), .d (.int m), .d i, .u] = .ok ((List.range m).map (fun j => .int (u j)), [.m [.int a', .int b'], .d (.int p), .d (.int n), .d (.int m), .d i, .u]) := fun i a b c => by
    obtain ⟨ys, ρ', hl, e, ⟨a', b', c', rfl⟩, hy⟩ := lc_ex (g := setD 5) (t := tYs) (f := eUser 2 (m__law_roll) (cR 0 (cD (eVar 1) (cNil)))) (vs := [5]) (fun ρ => ∃ a b, CupOk a b ∧ ρ = [.m [.int a, .int b], .d (.int p), .d (.int n), .d (.int m), .d i, .u]) (fun y => ∃ z, y = .int z ∧ 0 ≤ z ∧ z < p)
      (xs := (List.range m).map fun (k : Nat) => .int (k : Int)) (ρ := [.m [.int a, .int b], .d (.int p), .d (.int n), .d (.int m), .d i, .u]) (fun x _ ρ hI => by
        obtain ⟨a, b, c, rfl⟩ := hI
        obtain ⟨r, a', b', r0, r1, c', e⟩ := roll_ok c (many := p) (by omega) (by omega)
        exact ⟨.int r, [.m [.int a', .int b'], .d (.int p), .d (.int n), .d (.int m), .d i, .u], lc1 (ρ1 := [.m [.int a, .int b], .d (.int p), .d (.int n), .d (.int m), .d i, .d x]) (ρ2 := [.m [.int a', .int b'], .d (.int p), .d (.int n), .d (.int m), .d i, .d x]) rfl (us (sls := [.m [.int a, .int b], .d (.int p)]) rfl ⟨rfl, by simp⟩ rfl e rfl) rfl, ⟨a', b', c', rfl⟩, r, rfl, r0, r1⟩) ⟨a, b, c, rfl⟩
    obtain ⟨u, hu, hyu⟩ := ints_fn (by omega) hy
    refine ⟨u, a', b', hu, c', ?_⟩
    have hlm : ys.length = m := by rw [hl]; simp
    rw [hlm] at hyu
    rw [e, ← hyu]
  obtain ⟨ys, ρ', hl, e, ⟨a', b', c', rfl⟩, hy⟩ := lc_ex (g := setD 4) (t := tYs) (f := eCall tupOf (aCons (eLc (iR1 (eVar 3)) (setD 5) (tYs) (eUser 2 (m__law_roll) (cR 0 (cD (eVar 1) (cNil)))) [5]) (aNil))) (vs := [4]) (fun ρ => ∃ a b, CupOk a b ∧ ρ = [.m [.int a, .int b], .d (.int p), .d (.int n), .d (.int m), .u, .u]) (fun y => ∃ u, y = row m u ∧ ∀ l, 0 ≤ u l ∧ u l < p)
      (xs := (List.range n).map fun (k : Nat) => .int (k : Int)) (ρ := [.m [.int a, .int b], .d (.int p), .d (.int n), .d (.int m), .u, .u]) (fun x _ ρ hI => by
        obtain ⟨a, b, c, rfl⟩ := hI
        obtain ⟨u, a', b', hu, c', e⟩ := inner x a b c
        exact ⟨row m u, [.m [.int a', .int b'], .d (.int p), .d (.int n), .d (.int m), .u, .u], lc1 (ρ1 := [.m [.int a, .int b], .d (.int p), .d (.int n), .d (.int m), .d x, .u]) (ρ2 := [.m [.int a', .int b'], .d (.int p), .d (.int n), .d (.int m), .d x, .u]) rfl (tupLc (ρ1 := [.m [.int a, .int b], .d (.int p), .d (.int n), .d (.int m), .d x, .u]) (iR1_ok (m := m) rfl (by omega)) (mapLen m2) rfl rfl e rfl) rfl, ⟨a', b', c', rfl⟩, u, rfl, hu⟩) ⟨a, b, c, rfl⟩
  obtain ⟨f, hf, hyf⟩ := rows_fn (by omega) hy
  have hln : ys.length = n := by rw [hl]; simp
  rw [hln] at hyf
  refine ⟨f, a', b', hf, c', ?_⟩
  unfold m__law_matrix S__law_matrix mat
  rw [← hyf]
  exact fn_rt (ρ0 := [.m [.int a, .int b], .d (.int p), .d (.int n), .d (.int m), .u, .u]) (ρ' := [.m [.int a', .int b'], .d (.int p), .d (.int n), .d (.int m), .u, .u]) rfl (rt (tupLc (ρ1 := [.m [.int a, .int b], .d (.int p), .d (.int n), .d (.int m), .u, .u]) (iR1_ok (m := n) rfl (by omega)) (mapLen n2) rfl rfl e rfl)) (by simp) (by simp)
end K43
end

section
namespace K43
open PySem L2 Pd
theorem len7 {ys : List D} (h : ys.length = 7) : ∃ a b c d e f g, ys = [a, b, c, d, e, f, g] := by
  match ys, h with
  | [a, b, c, d, e, f, g], _ => exact ⟨a, b, c, d, e, f, g, rfl⟩
theorem acons {f : EF} {g : AF} {ρ ρ1 ρ2 : List Sl} {d : D} {ds : List D} (hf : f ρ = .ok (d, ρ1)) (hg : g ρ1 = .ok (ds, ρ2)) : aCons f g ρ = .ok (d :: ds, ρ2) := by
  simp only [aCons, hf, bind_ok, hg]
theorem etup {f : AF} {ρ ρ1 : List Sl} {ds : List D} (h : f ρ = .ok (ds, ρ1)) (hl : ds.length ≤ 1000) : eTup f ρ = .ok (.tuple ds, ρ1) := by
  simp only [eTup, h, bind_ok, if_pos hl]
theorem main (ns : List Int) (hl : ns.length ≤ 63) (hb : ∀ z ∈ ns, PySem.Builtin.Int.intBits z ≤ 1048576) : ∃ ρ, K43.m_law [.s ns] = .ok (.bool true, ρ) := by
  obtain ⟨a, b, c0, ec⟩ := cup_ok ns hl hb
  refine law_main ?_
  unfold S_law
  refine rn_nx (ρ' := [.s ns, .m [.int a, .int b], .u, .u, .u, .u, .u, .u, .u, .u, .u, .u, .u, .u, .u, .u, .u, .u, .u]) (by generalize m__law_cup = LC at *; simp [ec]) ?_
  refine rn_for (fun _ ρ => ∃ a b s2 s3 s4 s5 s6 s7 s8 s9 s10 s11 s12 s13 s14 s15 s16 s17, CupOk a b ∧ nm s2 = true ∧ nm s3 = true ∧ nm s4 = true ∧ nm s5 = true ∧ nm s6 = true ∧ nm s7 = true ∧ nm s8 = true ∧ nm s9 = true ∧ nm s10 = true ∧ nm s11 = true ∧ nm s12 = true ∧ nm s13 = true ∧ nm s14 = true ∧ nm s15 = true ∧ nm s16 = true ∧ nm s17 = true ∧ ρ = [.s ns, .m [.int a, .int b], s2, s3, s4, s5, s6, s7, s8, s9, s10, s11, s12, s13, s14, s15, s16, s17, .u]) (xs := rgL 0 4) (ρ1 := [.s ns, .m [.int a, .int b], .u, .u, .u, .u, .u, .u, .u, .u, .u, .u, .u, .u, .u, .u, .u, .u, .u]) (iR1_gen (M := 4) rfl (small_nat (m := 4) (by omega)) rfl) ⟨a, b, .u, .u, .u, .u, .u, .u, .u, .u, .u, .u, .u, .u, .u, .u, .u, .u, c0, rfl, rfl, rfl, rfl, rfl, rfl, rfl, rfl, rfl, rfl, rfl, rfl, rfl, rfl, rfl, rfl, rfl⟩ ?turn ?rest
  case rest =>
    intro ρ hI
    obtain ⟨a, b, s2, s3, s4, s5, s6, s7, s8, s9, s10, s11, s12, s13, s14, s15, s16, s17, c, n2, n3, n4, n5, n6, n7, n8, n9, n10, n11, n12, n13, n14, n15, n16, n17, rfl⟩ := hI
    exact rn_fin (a := .rt (.bool true) [.s ns, .m [.int a, .int b], s2, s3, s4, s5, s6, s7, s8, s9, s10, s11, s12, s13, s14, s15, s16, s17, .u]) (by simp) ⟨_, rfl, by simp⟩
  case turn =>
    intro k x ρ hk hI
    obtain ⟨a, b, s2, s3, s4, s5, s6, s7, s8, s9, s10, s11, s12, s13, s14, s15, s16, s17, c, n2, n3, n4, n5, n6, n7, n8, n9, n10, n11, n12, n13, n14, n15, n16, n17, rfl⟩ := hI
    refine ⟨[.s ns, .m [.int a, .int b], .d x, s3, s4, s5, s6, s7, s8, s9, s10, s11, s12, s13, s14, s15, s16, s17, .u], by simp [n2], ?_⟩
    obtain ⟨pd, a1, b1, hm, c1, e1⟩ := some_list c (xs := [.int 2, .int 3, .int 5, .int 7]) (by decide) (by decide)
    obtain ⟨pr, hp, rfl⟩ : ∃ pr : Int, Pr pr ∧ pd = .int pr := by
      simp at hm
      rcases hm with rfl | rfl | rfl | rfl
      · exact ⟨2, .inl rfl, rfl⟩
      · exact ⟨3, .inr (.inl rfl), rfl⟩
      · exact ⟨5, .inr (.inr (.inl rfl)), rfl⟩
      · exact ⟨7, .inr (.inr (.inr rfl)), rfl⟩
    refine rn_nx (ρ' := [.s ns, .m [.int a1, .int b1], .d x, .d (.int pr), s4, s5, s6, s7, s8, s9, s10, s11, s12, s13, s14, s15, s16, s17, .u]) (by generalize m__law_some = LS at *; simp [e1, n3]) ?_
    obtain ⟨ys, ρ', hlen, e2, ⟨a2, b2, c2, rfl⟩, hy⟩ := lc_ex (g := setD 18) (t := tYs) (f := eOp addD (eC (.int 1)) (eUser 2 (m__law_roll) (cR 1 (cD (eC (.int 4)) (cNil))))) (vs := [18]) (fun ρ => ∃ a1 b1, CupOk a1 b1 ∧ ρ = [.s ns, .m [.int a1, .int b1], .d x, .d (.int pr), s4, s5, s6, s7, s8, s9, s10, s11, s12, s13, s14, s15, s16, s17, .u]) (fun y => ∃ z : Nat, y = .int z ∧ Sz z)
      (xs := rgL 0 7) (ρ := [.s ns, .m [.int a1, .int b1], .d x, .d (.int pr), s4, s5, s6, s7, s8, s9, s10, s11, s12, s13, s14, s15, s16, s17, .u]) (fun y _ ρ hI => by
        obtain ⟨a1, b1, c1, rfl⟩ := hI
        obtain ⟨r, a2, b2, r0, r1, c2, e⟩ := roll_ok c1 (many := 4) (by decide) (by decide)
        obtain ⟨z, rfl⟩ : ∃ z : Nat, r = z := ⟨r.toNat, by omega⟩
        refine ⟨.int ((z + 1 : Nat) : Int), [.s ns, .m [.int a2, .int b2], .d x, .d (.int pr), s4, s5, s6, s7, s8, s9, s10, s11, s12, s13, s14, s15, s16, s17, .u], ?_, ⟨a2, b2, c2, rfl⟩, z + 1, rfl, by omega, by omega⟩
        have h1 : (1 : Int) + z = ((z + 1 : Nat) : Int) := by omega
        rw [← h1]
        generalize m__law_roll = LR at *
        simp [e]) ⟨a1, b1, c1, rfl⟩
    obtain ⟨d1, d2, d3, d4, d5, d6, d7, rfl⟩ := len7 (by rw [hlen]; rfl)
    obtain ⟨P, rfl, hP⟩ := hy d1 (by simp)
    obtain ⟨Q, rfl, hQ⟩ := hy d2 (by simp)
    obtain ⟨R, rfl, hR⟩ := hy d3 (by simp)
    obtain ⟨S, rfl, hS⟩ := hy d4 (by simp)
    obtain ⟨T, rfl, hT⟩ := hy d5 (by simp)
    obtain ⟨U, rfl, hU⟩ := hy d6 (by simp)
    obtain ⟨W, rfl, hW⟩ := hy d7 (by simp)
    have h7 : smallI 7 = true := small_nat (m := 7) (by omega)
    have h7l : (rgL 0 7).length ≤ 1000000 := by decide
    refine rn_nx (ρ' := [.s ns, .m [.int a2, .int b2], .d x, .d (.int pr), .d (.int P), .d (.int Q), .d (.int R), .d (.int S), .d (.int T), .d (.int U), .d (.int W), s11, s12, s13, s14, s15, s16, s17, .u]) ?_ ?_
    · exact asg (d := .list [.int P, .int Q, .int R, .int S, .int T, .int U, .int W]) (ρ' := [.s ns, .m [.int a2, .int b2], .d x, .d (.int pr), s4, s5, s6, s7, s8, s9, s10, s11, s12, s13, s14, s15, s16, s17, .u]) (lstLc (ρ1 := [.s ns, .m [.int a1, .int b1], .d x, .d (.int pr), s4, s5, s6, s7, s8, s9, s10, s11, s12, s13, s14, s15, s16, s17, .u]) (iR1_gen rfl h7 rfl) h7l rfl rfl e2 rfl) (by simp [n4, n5, n6, n7, n8, n9, n10])
    have g : ∀ {x : Nat}, Sz x → x ≤ 81 := fun h => by have := h.2; omega
    obtain ⟨fa, a3, b3, ha, c3, e3⟩ := law_matrix_ok hp (g hP) (g hQ) c2
    obtain ⟨fb, a4, b4, hb, c4, e4⟩ := law_matrix_ok hp (g hQ) (g hR) c3
    obtain ⟨fc, a5, b5, hc, c5, e5⟩ := law_matrix_ok hp (g hS) (g hT) c4
    obtain ⟨fd, a6, b6, hd, c6, e6⟩ := law_matrix_ok hp (g hT) (g hU) c5
    refine rn_nx (ρ' := [.s ns, .m [.int a6, .int b6], .d x, .d (.int pr), .d (.int P), .d (.int Q), .d (.int R), .d (.int S), .d (.int T), .d (.int U), .d (.int W), .d (mat P Q fa), .d (mat Q R fb), .d (mat S T fc), .d (mat T U fd), s15, s16, s17, .u]) ?_ ?_
    · exact asg (d := .tuple [mat P Q fa, mat Q R fb, mat S T fc, mat T U fd]) (ρ' := [.s ns, .m [.int a6, .int b6], .d x, .d (.int pr), .d (.int P), .d (.int Q), .d (.int R), .d (.int S), .d (.int T), .d (.int U), .d (.int W), s11, s12, s13, s14, s15, s16, s17, .u]) (etup (acons (us (ρ1 := [.s ns, .m [.int a2, .int b2], .d x, .d (.int pr), .d (.int P), .d (.int Q), .d (.int R), .d (.int S), .d (.int T), .d (.int U), .d (.int W), s11, s12, s13, s14, s15, s16, s17, .u]) (ρ2 := [.s ns, .m [.int a3, .int b3], .d x, .d (.int pr), .d (.int P), .d (.int Q), .d (.int R), .d (.int S), .d (.int T), .d (.int U), .d (.int W), s11, s12, s13, s14, s15, s16, s17, .u]) (sls := [.m [.int a2, .int b2], .d (.int pr), .d (.int P), .d (.int Q)]) rfl ⟨rfl, by simp⟩ rfl e3 rfl) (acons (us (ρ1 := [.s ns, .m [.int a3, .int b3], .d x, .d (.int pr), .d (.int P), .d (.int Q), .d (.int R), .d (.int S), .d (.int T), .d (.int U), .d (.int W), s11, s12, s13, s14, s15, s16, s17, .u]) (ρ2 := [.s ns, .m [.int a4, .int b4], .d x, .d (.int pr), .d (.int P), .d (.int Q), .d (.int R), .d (.int S), .d (.int T), .d (.int U), .d (.int W), s11, s12, s13, s14, s15, s16, s17, .u]) (sls := [.m [.int a3, .int b3], .d (.int pr), .d (.int Q), .d (.int R)]) rfl ⟨rfl, by simp⟩ rfl e4 rfl) (acons (us (ρ1 := [.s ns, .m [.int a4, .int b4], .d x, .d (.int pr), .d (.int P), .d (.int Q), .d (.int R), .d (.int S), .d (.int T), .d (.int U), .d (.int W), s11, s12, s13, s14, s15, s16, s17, .u]) (ρ2 := [.s ns, .m [.int a5, .int b5], .d x, .d (.int pr), .d (.int P), .d (.int Q), .d (.int R), .d (.int S), .d (.int T), .d (.int U), .d (.int W), s11, s12, s13, s14, s15, s16, s17, .u]) (sls := [.m [.int a4, .int b4], .d (.int pr), .d (.int S), .d (.int T)]) rfl ⟨rfl, by simp⟩ rfl e5 rfl) (acons (us (ρ1 := [.s ns, .m [.int a5, .int b5], .d x, .d (.int pr), .d (.int P), .d (.int Q), .d (.int R), .d (.int S), .d (.int T), .d (.int U), .d (.int W), s11, s12, s13, s14, s15, s16, s17, .u]) (ρ2 := [.s ns, .m [.int a6, .int b6], .d x, .d (.int pr), .d (.int P), .d (.int Q), .d (.int R), .d (.int S), .d (.int T), .d (.int U), .d (.int W), s11, s12, s13, s14, s15, s16, s17, .u]) (sls := [.m [.int a5, .int b5], .d (.int pr), .d (.int T), .d (.int U)]) rfl ⟨rfl, by simp⟩ rfl e6 rfl) (rfl))))) (by simp)) (by simp [n11, n12, n13, n14])
    have R1 := rules_ok hp hP hQ hR hS hT hU ha hb hc hd
    have R2 := ident_ok hp hP hQ ha
    refine rn_nx (ρ' := [.s ns, .m [.int a6, .int b6], .d x, .d (.int pr), .d (.int P), .d (.int Q), .d (.int R), .d (.int S), .d (.int T), .d (.int U), .d (.int W), .d (mat P Q fa), .d (mat Q R fb), .d (mat S T fc), .d (mat T U fd), s15, s16, s17, .u]) ?_ ?_
    · generalize m__law_rules = LR at *
      generalize m__law_identities = LI at *
      generalize mat = mm at *
      simp [R1, R2]
    obtain ⟨ft, a7, b7, ht, c7, e7⟩ := law_matrix_ok hp (g hR) (g hW) c6
    refine rn_nx (ρ' := [.s ns, .m [.int a7, .int b7], .d x, .d (.int pr), .d (.int P), .d (.int Q), .d (.int R), .d (.int S), .d (.int T), .d (.int U), .d (.int W), .d (mat P Q fa), .d (mat Q R fb), .d (mat S T fc), .d (mat T U fd), .d (mat R W ft), s16, s17, .u]) ?_ ?_
    · exact asg (d := mat R W ft) (ρ' := [.s ns, .m [.int a7, .int b7], .d x, .d (.int pr), .d (.int P), .d (.int Q), .d (.int R), .d (.int S), .d (.int T), .d (.int U), .d (.int W), .d (mat P Q fa), .d (mat Q R fb), .d (mat S T fc), .d (mat T U fd), s15, s16, s17, .u]) (us (ρ1 := [.s ns, .m [.int a6, .int b6], .d x, .d (.int pr), .d (.int P), .d (.int Q), .d (.int R), .d (.int S), .d (.int T), .d (.int U), .d (.int W), .d (mat P Q fa), .d (mat Q R fb), .d (mat S T fc), .d (mat T U fd), s15, s16, s17, .u]) (ρ2 := [.s ns, .m [.int a7, .int b7], .d x, .d (.int pr), .d (.int P), .d (.int Q), .d (.int R), .d (.int S), .d (.int T), .d (.int U), .d (.int W), .d (mat P Q fa), .d (mat Q R fb), .d (mat S T fc), .d (mat T U fd), s15, s16, s17, .u]) (sls := [.m [.int a6, .int b6], .d (.int pr), .d (.int R), .d (.int W)]) rfl ⟨rfl, by simp⟩ rfl e7 rfl) (by simp [n15])
    have E1 := matrix_product_ok hp ha hb hP.1 (g hP) hQ.1 (g hQ) hR.1 (g hR)
    have E2 := matrix_product_ok hp (prod_bd hp (k := Q) (f := fa) (g := fb)) ht hP.1 (g hP) hR.1 (g hR) hW.1 (g hW)
    have E3 := matrix_product_ok hp hb ht hQ.1 (g hQ) hR.1 (g hR) hW.1 (g hW)
    have E4 := matrix_product_ok hp ha (prod_bd hp (k := R) (f := fb) (g := ft)) hP.1 (g hP) hQ.1 (g hQ) hW.1 (g hW)
    have L1 := like_mat (n := P) (m := W) (g hP) (g hW) (mat_ext fun i j _ _ => r_ass (p := pr) (Q := Q) (R := R) fa fb ft i j)
    generalize prod pr R (prod pr Q fa fb) ft = o1 at *
    generalize prod pr Q fa (prod pr R fb ft) = o2 at *
    refine rn_nx (ρ' := [.s ns, .m [.int a7, .int b7], .d x, .d (.int pr), .d (.int P), .d (.int Q), .d (.int R), .d (.int S), .d (.int T), .d (.int U), .d (.int W), .d (mat P Q fa), .d (mat Q R fb), .d (mat S T fc), .d (mat T U fd), .d (mat R W ft), .d (mat P W o1), .d (mat P W o2), .u]) ?_ ?_
    · generalize m_matrix_product = MP at *
      generalize mat = mm at *
      simp [E1, E2, E3, E4, n16, n17]
    · refine rn_fin (a := .nx [.s ns, .m [.int a7, .int b7], .d x, .d (.int pr), .d (.int P), .d (.int Q), .d (.int R), .d (.int S), .d (.int T), .d (.int U), .d (.int W), .d (mat P Q fa), .d (mat Q R fb), .d (mat S T fc), .d (mat T U fd), .d (mat R W ft), .d (mat P W o1), .d (mat P W o2), .u]) ?_ ⟨_, .inl rfl, a7, b7, .d x, .d (.int pr), .d (.int P), .d (.int Q), .d (.int R), .d (.int S), .d (.int T), .d (.int U), .d (.int W), .d (mat P Q fa), .d (mat Q R fb), .d (mat S T fc), .d (mat T U fd), .d (mat R W ft), .d (mat P W o1), .d (mat P W o2), c7, rfl, rfl, rfl, rfl, rfl, rfl, rfl, rfl, rfl, rfl, rfl, rfl, rfl, rfl, rfl, rfl, rfl⟩
      generalize m__law_like 8 = LK at *
      generalize mat = mm at *
      simp [L1]
end K43
end

theorem PySem.Challenge.cw_pastedcells_k43_whole_products_and_krone_holds : PySem.Challenge.rw_pastedcells_k43_whole_products_and_krone.Holds := by
  exact K43.holds_of K43.main
