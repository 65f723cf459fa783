import PyProof.Rows.All
import HandS.Lambda
import HandS.HeadHook4
import Wide.All
import OpenK.AllK
import Wide.FinOn
import HandS.ForMost
import HandS.Exc
import HandS.ExcOwn
import HandS.ExcCtx
import HandS.IsInst
import HandS.TupAny
import HandS.Evl
import HandS.Codes
import HandS.Zip
import HandS.Wide
import HandS.TupMul
import HandS.Conv
import HandS.Deep
import HandS.Style
import HandS.Defaults
import HandS.HeadHook2
import HandS.EndTab
import HandS.EndBits
import HandS.HeadEnd
import HandS.Head0
import HandS.Head1
import HandS.Head2
import HandS.NoneIn
import HandS.Iter
import HandS.ExcIs
import HandS.ExcBuiltin
import HandS.HotCalls
import PySem.Challenge.RW_pastedcells_k13_vertical_pasting_and_spl
set_option Elab.async false
set_option linter.all false
set_option maxRecDepth 100000
set_option maxHeartbeats 8000000
section
/-! Pd, part 0: the defs of this law that make a function. -/
namespace Pd
def lamDefs : List He.Defn := [("law", none)]
end Pd
end

section
/-! Pd, part 1: a pure-data layer. Values as data (PyData), results, slots, environments. -/
namespace Pd
open PySem L2 Evl

abbrev D := PyData
abbrev Fg := PySem.W.Frag

/-- an exception as data: its class's name, its one field -/
structure Xc where
  cls : Str
  pay : Option (Str × D)
/-- a result -/
inductive R (α : Type) where
  | ok (a : α)
  | ex (c : Xc)
  | bad
namespace R
def bind {α β : Type} (r : R α) (f : α → R β) : R β := match r with
  | .ok a => f a
  | .ex c => .ex c
  | .bad => .bad
instance : Monad R where
  pure := R.ok
  bind := R.bind
end R
@[simp] theorem bind_ok {α β : Type} (a : α) (f : α → R β) : (R.ok a >>= f) = f a := rfl
@[simp] theorem bind_ex {α β : Type} (c : Xc) (f : α → R β) : ((R.ex c : R α) >>= f) = R.ex c := rfl
@[simp] theorem bind_bad {α β : Type} (f : α → R β) : ((R.bad : R α) >>= f) = R.bad := rfl
@[simp] theorem pure_ok {α : Type} (a : α) : (pure a : R α) = R.ok a := rfl
@[simp] theorem rbind_ok {α β : Type} (a : α) (f : α → R β) : (R.ok a).bind f = f a := rfl
@[simp] theorem rbind_ex {α β : Type} (c : Xc) (f : α → R β) : (R.ex c : R α).bind f = R.ex c := rfl
@[simp] theorem rbind_bad {α β : Type} (f : α → R β) : (R.bad : R α).bind f = R.bad := rfl
/-- what is wanted of a result -/
def wp {α : Type} (r : R α) (Q : α → Prop) (E : Xc → Prop) : Prop := match r with
  | .ok a => Q a
  | .ex c => E c
  | .bad => False
theorem wp_bind {α β : Type} {r : R α} {f : α → R β} {Q : β → Prop} {E : Xc → Prop} : wp (r >>= f) Q E ↔ wp r (fun a => wp (f a) Q E) E := by
  cases r <;> exact Iff.rfl
theorem wp_mono {α : Type} {r : R α} {Q Q' : α → Prop} {E E' : Xc → Prop} (h : wp r Q E) (hq : ∀ a, Q a → Q' a) (he : ∀ c, E c → E' c) : wp r Q' E' := by
  cases r with
  | ok a => exact hq a h
  | ex c => exact he c h
  | bad => exact h
/-- with the equation at hand -/
theorem wp_mono' {α : Type} {r : R α} {Q Q' : α → Prop} {E E' : Xc → Prop} (h : wp r Q E) (hq : ∀ a, r = .ok a → Q a → Q' a) (he : ∀ c, r = .ex c → E c → E' c) : wp r Q' E' := by
  cases r with
  | ok a => exact hq a rfl h
  | ex c => exact he c rfl h
  | bad => exact h

/-! ### data at a value -/
def okS (x : Str) : Bool := decide (x.length ≤ sizeLine) && PyData.strOk x
theorem okS.len {x : Str} (h : okS x = true) : x.length ≤ sizeLine := of_decide_eq_true (Bool.and_eq_true_iff.mp h).1
theorem okS.st {x : Str} (h : okS x = true) : PyData.strOk x = true := (Bool.and_eq_true_iff.mp h).2
theorem okS.mk {x : Str} (h : x.length ≤ sizeLine) (h2 : PyData.strOk x = true) : okS x = true := Bool.and_eq_true_iff.mpr ⟨decide_eq_true h, h2⟩
mutual
inductive At (K : Fg) (G : Hp) : V → D → Prop
  | non : At K G .non .none
  | bl (b : Bool) : At K G (.bl b) (.bool b)
  | int (i : Int) : At K G (.int i) (.int i)
  | str (x : Str) : okS x = true → At K G (.str x) (.str x)
  | lst {a : Addr} {xs : List V} {ds : List D} : G a = some (.lst xs) → AtL K G xs ds → At K G (.ref a) (.list ds)
  | tup {a : Addr} {xs : List V} {ds : List D} : SqT K G a xs → AtL K G xs ds → At K G (.ref a) (.tuple ds)
inductive AtL (K : Fg) (G : Hp) : List V → List D → Prop
  | nil : AtL K G [] []
  | cons {v : V} {vs : List V} {d : D} {ds : List D} : At K G v d → AtL K G vs ds → AtL K G (v :: vs) (d :: ds)
end
section
variable {K : Fg} {G G' H : Hp}
mutual
theorem At.mono (e : Ex G G') : ∀ (d : D) (v : V), At K G v d → At K G' v d
  | .none, _, h => by cases h; exact .non
  | .bool b, _, h => by cases h; exact .bl b
  | .int i, _, h => by cases h; exact .int i
  | .str x, _, h => by
    cases h with
    | str _ h => exact .str x h
  | .list ds, _, h => by
    cases h with
    | lst hs ha => exact .lst (e _ _ hs) (AtL.mono e ds _ ha)
  | .tuple ds, _, h => by
    cases h with
    | tup hs ha => exact .tup (ex_t e hs) (AtL.mono e ds _ ha)
  | .dict _, _, h => by cases h
theorem AtL.mono (e : Ex G G') : ∀ (ds : List D) (vs : List V), AtL K G vs ds → AtL K G' vs ds
  | [], _, h => by cases h; exact .nil
  | d :: ds, _, h => by
    cases h with
    | cons h1 h2 => exact .cons (At.mono e d _ h1) (AtL.mono e ds _ h2)
end
theorem At.up {v : V} {d : D} (h : At K G v d) (e : Ex G G') : At K G' v d := At.mono e d v h
theorem AtL.up {vs : List V} {ds : List D} (h : AtL K G vs ds) (e : Ex G G') : AtL K G' vs ds := AtL.mono e ds vs h
mutual
theorem At.dp' (e : Ex G H) : ∀ (d : D) (v : V), At K G v d → Dp K H v d
  | .none, _, h => by cases h; exact .non
  | .bool b, _, h => by cases h; exact .bl b
  | .int i, _, h => by cases h; exact .int i
  | .str x, _, h => by
    cases h with
    | str _ h => exact .str x
  | .list ds, _, h => by
    cases h with
    | lst hs ha => exact .lst (sq_of (e _ _ hs)) (AtL.dp' e ds _ ha)
  | .tuple ds, _, h => by
    cases h with
    | tup hs ha => exact .tup (ex_t e hs) (AtL.dp' e ds _ ha)
  | .dict _, _, h => by cases h
theorem AtL.dp' (e : Ex G H) : ∀ (ds : List D) (vs : List V), AtL K G vs ds → DpAll K H vs ds
  | [], _, h => by cases h; exact .nil
  | d :: ds, _, h => by
    cases h with
    | cons h1 h2 => exact .cons (At.dp' e d _ h1) (AtL.dp' e ds _ h2)
end
mutual
theorem At.lay : ∀ (d : D) (v : V), At K G v d → d.canLay0 = true
  | .none, _, h => by simp [PyData.canLay0]
  | .bool b, _, h => by simp [PyData.canLay0]
  | .int i, _, h => by simp [PyData.canLay0]
  | .str x, _, h => by
    cases h with
    | str _ h => simpa [PyData.canLay0] using okS.st h
  | .list ds, _, h => by
    cases h with
    | lst hs ha => simpa [PyData.canLay0] using AtL.lay ds _ ha
  | .tuple ds, _, h => by
    cases h with
    | tup hs ha => simpa [PyData.canLay0] using AtL.lay ds _ ha
  | .dict _, _, h => by cases h
theorem AtL.lay : ∀ (ds : List D) (vs : List V), AtL K G vs ds → PyData.canLayAll0 ds = true
  | [], _, h => by simp [PyData.canLayAll0]
  | d :: ds, _, h => by
    cases h with
    | cons h1 h2 => simp [PyData.canLayAll0, At.lay d _ h1, AtL.lay ds _ h2]
end
theorem AtL.length : ∀ {vs : List V} {ds : List D}, AtL K G vs ds → vs.length = ds.length
  | _, _, .nil => rfl
  | _, _, .cons _ h => by simp [AtL.length h]
theorem AtL.get : ∀ {vs : List V} {ds : List D} {i : Nat} {d : D}, AtL K G vs ds → ds[i]? = some d → ∃ v, vs[i]? = some v ∧ At K G v d
  | _, _, _, _, .nil, h => by simp at h
  | _, _, 0, _, .cons h1 _, h => by simp at h; subst h; exact ⟨_, rfl, h1⟩
  | _, _, i + 1, _, .cons _ h2, h => by
    obtain ⟨v, e, q⟩ := AtL.get (i := i) h2 (by simpa using h)
    exact ⟨v, by simpa using e, q⟩
theorem AtL.append : ∀ {vs ws : List V} {ds es : List D}, AtL K G vs ds → AtL K G ws es → AtL K G (vs ++ ws) (ds ++ es)
  | _, _, _, _, .nil, h => h
  | _, _, _, _, .cons h1 h2, h => .cons h1 (AtL.append h2 h)
theorem AtL.take : ∀ (n : Nat) {vs : List V} {ds : List D}, AtL K G vs ds → AtL K G (vs.take n) (ds.take n)
  | 0, _, _, _ => by simpa using AtL.nil
  | n + 1, _, _, .nil => by simpa using AtL.nil
  | n + 1, _, _, .cons h1 h2 => by simpa using AtL.cons h1 (AtL.take n h2)
theorem AtL.drop : ∀ (n : Nat) {vs : List V} {ds : List D}, AtL K G vs ds → AtL K G (vs.drop n) (ds.drop n)
  | 0, _, _, h => by simpa using h
  | n + 1, _, _, .nil => by simpa using AtL.nil
  | n + 1, _, _, .cons h1 h2 => by simpa using AtL.drop n h2
theorem AtL.set : ∀ (n : Nat) {vs : List V} {ds : List D} {v : V} {d : D}, AtL K G vs ds → At K G v d → AtL K G (vs.set n v) (ds.set n d)
  | _, _, _, _, _, .nil, _ => by simpa using AtL.nil
  | 0, _, _, _, _, .cons _ h2, h => by simpa using AtL.cons h h2
  | n + 1, _, _, _, _, .cons h1 h2, h => by simpa using AtL.cons h1 (AtL.set n h2 h)
theorem AtL.reverse {vs : List V} {ds : List D} (h : AtL K G vs ds) : AtL K G vs.reverse ds.reverse := by
  induction vs generalizing ds with
  | nil => cases h; exact .nil
  | cons v vs ih =>
    cases h with
    | cons h1 h2 => simpa using AtL.append (ih h2) (.cons h1 .nil)
theorem AtL.rep {vs : List V} {ds : List D} (h : AtL K G vs ds) : ∀ n : Nat, AtL K G (List.replicate n vs).flatten (List.replicate n ds).flatten
  | 0 => by simpa using AtL.nil
  | n + 1 => by
    simp only [List.replicate_succ, List.flatten_cons]
    exact AtL.append h (AtL.rep h n)
end

/-! ### slots -/
/-- a slot: unassigned, data, an own list that may change, the script -/
inductive Sl where
  | u
  | d (x : D)
  | m (xs : List D)
  | s (ns : List Int)
  | k (kvs : List (Key × D))
  | x (a : Addr) (P : Hp → Prop)
/-- a dict's entries -/
def AtK (K : Fg) (G : Hp) : List (Key × V) → List (Key × D) → Prop
  | [], [] => True
  | u :: us, k :: ks => u.1 = k.1 ∧ At K G u.2 k.2 ∧ AtK K G us ks
  | _, _ => False
theorem AtK.up {K : Fg} {G G' : Hp} (e : Ex G G') : ∀ {us : List (Key × V)} {kvs : List (Key × D)}, AtK K G us kvs → AtK K G' us kvs
  | [], [], _ => trivial
  | _ :: _, _ :: _, h => ⟨h.1, h.2.1.up e, AtK.up e h.2.2⟩
  | [], _ :: _, h => h.elim
  | _ :: _, [], h => h.elim
def AtS (K : Fg) (G H : Hp) (e : Option V) : Sl → Prop
  | .u => True
  | .d x => ∃ v, e = some v ∧ At K G v x
  | .m xs => ∃ p vs, e = some (.ref p) ∧ G p = none ∧ H p = some (.lst vs) ∧ AtL K G vs xs
  | .s ns => ∃ a, e = some (.ref a) ∧ SqL K G a (ns.map V.int)
  | .k kvs => ∃ a us, e = some (.ref a) ∧ G a = some (.dK us) ∧ AtK K G us kvs
  | .x a P => e = some (.ref a) ∧ ∀ G', Ex G G' → P G'
theorem x_up {K : Fg} {G G' H H' : Hp} {e : Option V} {a : Addr} {P : Hp → Prop} (h : AtS K G H e (.x a P)) (x : Ex G G') : AtS K G' H' e (.x a P) := ⟨h.1, fun G2 y => h.2 G2 (x.trans y)⟩
/-! ### tables of code objects -/
def NoT (G : Hp) : Prop := ∀ b ps, G b ≠ some (.tbl ps)
/-- the tables of this law's defs that make a function; no table is data -/
def TK (K : Fg) : List (Addr × Str) := lamDefs.map fun p => ((He.cT K p).2, (p.1 ++ ".<locals>.") ++ "<lambda>")
def Tb (K : Fg) (G H : Hp) : Prop := LamX.Tabs (TK K) H ∧ NoT G
theorem Tb.imp {K : Fg} {G G' H H' : Hp} (t : Tb K G H) (hn : NoT G') (h : ∀ b o, H b = some o → (∀ vs, o ≠ .lst vs) → H' b = some o) : Tb K G' H' := ⟨fun p hp => by
  obtain ⟨ps, h1, h2, h3⟩ := t.1 p hp
  refine ⟨ps, h _ _ h1 (fun vs z => nomatch z), h2, fun pos cv hc => ?_⟩
  obtain ⟨c, e1, e2⟩ := h3 pos cv hc
  exact ⟨c, e1, h _ _ e2 fun vs z => nomatch (show LamX.CodeO c p.2 = .lst vs from z)⟩, hn⟩
theorem NoT.new {G : Hp} {p : Addr} {o : HO} (h : NoT G) (ho : ∀ ps, o ≠ .tbl ps) : NoT (upd G p o) := fun b ps => by
  by_cases hb : b = p
  · subst hb; rw [upd_same]; exact fun z => ho ps (Option.some.inj z)
  · rw [upd_ne hb]; exact h b ps
theorem Tb.new {K : Fg} {G H : Hp} {p : Addr} {o : HO} (t : Tb K G H) (h : H p = none) (ho : ∀ ps, o ≠ .tbl ps) : Tb K (upd G p o) (upd H p o) :=
  t.imp (t.2.new ho) fun b u e _ => by rw [upd_ne (ne_of_none e h)]; exact e
theorem Tb.newH {K : Fg} {G H : Hp} {p : Addr} {o : HO} (t : Tb K G H) (h : H p = none) : Tb K G (upd H p o) :=
  t.imp t.2 fun b u e _ => by rw [upd_ne (ne_of_none e h)]; exact e
theorem Tb.at_ {K : Fg} {G H : Hp} {p : Addr} {vs : List V} {o : HO} (t : Tb K G H) (h : H p = some (.lst vs)) : Tb K G (upd H p o) :=
  t.imp t.2 fun b u e n => by
    by_cases hb : b = p
    · subst hb; rw [h] at e; exact absurd (Option.some.inj e).symm (n vs)
    · rw [upd_ne hb]; exact e
theorem Tb.g {K : Fg} {G H : Hp} {p : Addr} {o : HO} (t : Tb K G H) (ho : ∀ ps, o ≠ .tbl ps) : Tb K (upd G p o) H := ⟨t.1, t.2.new ho⟩
theorem k_up {K : Fg} {G G' H H' : Hp} {e : Option V} {kvs : List (Key × D)} (h : AtS K G H e (.k kvs)) (x : Ex G G') : AtS K G' H' e (.k kvs) := by
  obtain ⟨a, us, h1, h2, h3⟩ := h
  exact ⟨a, us, h1, x a _ h2, AtK.up x h3⟩
/-- p is the list of a slot that may change -/
def Mt (σ : L2.St) (ρ : List Sl) (p : Addr) : Prop := ∃ (i : Nat) (xs : List D), ρ[i]? = some (Sl.m xs) ∧ σ[i]? = some (some (V.ref p))
structure AtE (K : Fg) (G H : Hp) (σ : L2.St) (ρ : List Sl) : Prop where
  ex : Ex G H
  len : ρ.length = σ.length
  sl : ∀ (i : Nat) (s : Sl) (e : Option V), ρ[i]? = some s → σ[i]? = some e → AtS K G H e s
  dj : ∀ (i j : Nat) (p : Addr) (xs ys : List D), ρ[i]? = some (.m xs) → ρ[j]? = some (.m ys) → σ[i]? = some (some (.ref p)) → σ[j]? = some (some (.ref p)) → i = j
  tb : Tb K G H
/-- nothing but a table stands there -/
def Nl (H : Hp) (b : Addr) : Prop := ∀ o, H b = some o → ∃ ps, o = .tbl ps
theorem nl_of {H : Hp} {b : Addr} (h : H b = none) : Nl H b := fun o e => by rw [h] at e; cases e
theorem nl_lst {H : Hp} {b : Addr} {vs : List V} (e : H b = some (.lst vs)) : ¬ Nl H b := fun h => by
  obtain ⟨_, q⟩ := h _ e
  cases q
theorem nl_ne {H : Hp} {b : Addr} {o : HO} (e : H b = some o) (ho : ∀ ps, o ≠ .tbl ps) : ¬ Nl H b := fun h => by
  obtain ⟨ps, q⟩ := h _ e
  exact ho ps q
/-- from (G, H) to (G', H'): the data part grows by new objects, all but M is kept -/
structure Stp (K : Fg) (M : Addr → Prop) (G H G' H' : Hp) : Prop where
  ex : Ex G G'
  nw : ∀ b vs, H b = some (.lst vs) → G' b ≠ none → G b ≠ none
  fr : ∀ b o, H b = some o → ¬ M b → (∀ ps, o ≠ .tbl ps) → H' b = some o
  li : ∀ b, ¬ Nl H b → ¬ Nl H' b
  tb : Tb K G H → Tb K G' H'
  ls : ∀ b vs, H b = some (.lst vs) → ∃ ws, H' b = some (.lst ws)
theorem Stp.refl {K : Fg} {M : Addr → Prop} {G H : Hp} : Stp K M G H G H := ⟨Ex.refl G, fun _ _ _ h => h, fun _ _ h _ _ => h, fun _ h => h, fun t => t, fun _ vs h => ⟨vs, h⟩⟩
theorem Stp.trans {K : Fg} {M M1 : Addr → Prop} {G H G1 H1 G2 H2 : Hp} (a : Stp K M G H G1 H1) (b : Stp K M1 G1 H1 G2 H2) (hm : ∀ b, M1 b → M b ∨ Nl H b) : Stp K M G H G2 H2 where
  ex := a.ex.trans b.ex
  nw := fun x vs h1 h2 => let ⟨ws, h3⟩ := a.ls x vs h1; a.nw x vs h1 (b.nw x ws h3 h2)
  ls := fun x vs h1 => let ⟨ws, h3⟩ := a.ls x vs h1; b.ls x ws h3
  fr := fun x o h1 h2 h3 => b.fr x o (a.fr x o h1 h2 h3) (fun z => (hm x z).elim h2 fun q => nl_ne h1 h3 q) h3
  li := fun x h => b.li x (a.li x h)
  tb := fun t => b.tb (a.tb t)
theorem Stp.weak {K : Fg} {M M1 : Addr → Prop} {G H G1 H1 : Hp} (a : Stp K M G H G1 H1) (h : ∀ b, M b → M1 b) : Stp K M1 G H G1 H1 :=
  ⟨a.ex, a.nw, fun b o q n => a.fr b o q fun z => n (h b z), a.li, a.tb, a.ls⟩
abbrev No : Addr → Prop := fun _ => False
theorem Stp.no {K : Fg} {M : Addr → Prop} {G H G1 H1 : Hp} (a : Stp K No G H G1 H1) : Stp K M G H G1 H1 := a.weak fun _ z => z.elim
/-- a new object of data -/
theorem Stp.new {K : Fg} {M : Addr → Prop} {G H : Hp} {p : Addr} {o : HO} (e : Ex G H) (h : H p = none) (ho : ∀ ps, o ≠ .tbl ps := by intro _ z; exact nomatch z) : Stp K M G H (upd G p o) (upd H p o) where
  ex := Ex.new (fresh_back e h)
  nw := fun b vs h1 h2 => by
    by_cases hb : b = p
    · subst hb; rw [h] at h1; cases h1
    · rwa [upd_ne hb] at h2
  ls := fun b vs h1 => ⟨vs, by rw [upd_ne (ne_of_none h1 h)]; exact h1⟩
  fr := fun b u h1 _ _ => by
    rw [upd_ne (ne_of_none h1 h)]
    exact h1
  li := fun b h1 => by
    by_cases hb : b = p
    · subst hb; exact absurd (nl_of h) h1
    · unfold Nl at h1 ⊢; rwa [upd_ne hb]
  tb := fun t => t.new h ho
/-- a new object that is no data yet -/
theorem Stp.newH {K : Fg} {M : Addr → Prop} {G H : Hp} {p : Addr} {o : HO} (h : H p = none) : Stp K M G H G (upd H p o) where
  ex := Ex.refl G
  nw := fun b vs h1 h2 => h2
  ls := fun b vs h1 => ⟨vs, by rw [upd_ne (ne_of_none h1 h)]; exact h1⟩
  fr := fun b u h1 _ _ => by
    rw [upd_ne (ne_of_none h1 h)]
    exact h1
  li := fun b h1 => by
    by_cases hb : b = p
    · subst hb; exact absurd (nl_of h) h1
    · unfold Nl at h1 ⊢; rwa [upd_ne hb]
  tb := fun t => t.newH h
theorem ex_upd2 {G H : Hp} {p : Addr} {o : HO} (e : Ex G H) : Ex (upd G p o) (upd H p o) := fun b u q => by
  by_cases hb : b = p
  · subst hb; rw [upd_same] at q ⊢; exact q
  · rw [upd_ne hb] at q ⊢; exact e b u q
section
variable {K : Fg} {G H G' H' : Hp} {σ : L2.St} {ρ ρ' : List Sl}
theorem AtE.mtH (a : AtE K G H σ ρ) {p : Addr} (h : Mt σ ρ p) : G p = none ∧ ∃ vs, H p = some (.lst vs) := by
  obtain ⟨i, xs, h1, h2⟩ := h
  obtain ⟨q, vs, e, g, hh, _⟩ := a.sl i _ _ h1 h2
  cases e
  exact ⟨g, vs, hh⟩
/-- only new objects -/
theorem AtE.grow (a : AtE K G H σ ρ) (st : Stp K No G H G' H') (e : Ex G' H') : AtE K G' H' σ ρ where
  ex := e
  len := a.len
  sl := fun i s en h1 h2 => by
    have q := a.sl i s en h1 h2
    cases s with
    | u => exact True.intro
    | d x =>
      obtain ⟨v, e1, e2⟩ := q
      exact ⟨v, e1, e2.up st.ex⟩
    | m xs =>
      obtain ⟨p, vs, e1, e2, e3, e4⟩ := q
      refine ⟨p, vs, e1, ?_, st.fr p _ e3 id (fun _ z => nomatch z), e4.up st.ex⟩
      cases h : G' p with
      | none => rfl
      | some o => exact absurd e2 (st.nw p _ e3 (by rw [h]; exact fun z => nomatch z))
    | k kvs => exact k_up q st.ex
    | s ns =>
      obtain ⟨b, e1, e2⟩ := q
      exact ⟨b, e1, ex_l st.ex e2⟩
    | x b P => exact x_up q st.ex
  dj := a.dj
  tb := st.tb a.tb
/-- behind an expression -/
structure Af (K : Fg) (σ : L2.St) (G H : Hp) (ρ : List Sl) (G' H' : Hp) (ρ' : List Sl) : Prop where
  st : Stp K (Mt σ ρ) G H G' H'
  en : AtE K G' H' σ ρ'
  sh : ∀ i : Nat, (∃ xs, ρ'[i]? = some (Sl.m xs)) ↔ (∃ xs, ρ[i]? = some (Sl.m xs))
theorem Af.mt {K : Fg} {σ : L2.St} {G H G' H' : Hp} {ρ ρ' : List Sl} (a : Af K σ G H ρ G' H' ρ') (p : Addr) : Mt σ ρ' p ↔ Mt σ ρ p :=
  ⟨fun ⟨i, xs, h1, h2⟩ => let ⟨ys, h3⟩ := (a.sh i).mp ⟨xs, h1⟩; ⟨i, ys, h3, h2⟩, fun ⟨i, xs, h1, h2⟩ => let ⟨ys, h3⟩ := (a.sh i).mpr ⟨xs, h1⟩; ⟨i, ys, h3, h2⟩⟩
theorem Af.refl (a : AtE K G H σ ρ) : Af K σ G H ρ G H ρ := ⟨Stp.refl, a, fun _ => Iff.rfl⟩
theorem Af.trans {G1 H1 : Hp} {ρ1 : List Sl} (a : Af K σ G H ρ G1 H1 ρ1) (b : Af K σ G1 H1 ρ1 G' H' ρ') : Af K σ G H ρ G' H' ρ' :=
  ⟨a.st.trans b.st fun p q => .inl ((a.mt p).mp q), b.en, fun i => (b.sh i).trans (a.sh i)⟩
theorem Af.grow (a : AtE K G H σ ρ) (st : Stp K No G H G' H') (e : Ex G' H') : Af K σ G H ρ G' H' ρ := ⟨st.no, a.grow st e, fun _ => Iff.rfl⟩
end

/-! ### exceptions -/
structure AtX (mg : Str → Option Value) (K : Fg) (G H : Hp) (c : Xc) (cls : Value) (dd : Option Addr) : Prop where
  ex : Ex G H
  cl : ∃ C, mg c.cls = some (.ref C) ∧ cls = .ref C
  pay : match c.pay with
    | none => dd = none
    | some (f, x) => ∃ p v, dd = some p ∧ H p = some (.xd [(f, v)]) ∧ At K G v x

/-! ### judgements -/
abbrev EF := List Sl → R (D × List Sl)
abbrev TF := List Sl → R (Bool × List Sl)
abbrev AF := List Sl → R (List D × List Sl)
/-- what is wanted behind an expression -/
def Gn {α : Type} (K : Fg) (σ : L2.St) (G H : Hp) (ρ : List Sl) (Q : α → Hp → Hp → Prop) (r : α × List Sl) : Prop := ∀ G' H', Af K σ G H ρ G' H' r.2 → Q r.1 G' H'
abbrev QE (K : Fg) (Q : VK) : D → Hp → Hp → Prop := fun d G' H' => ∀ v, At K G' v d → Q v H'
abbrev QT (Q : Bool → Hp → Prop) : Bool → Hp → Hp → Prop := fun b _ H' => Q b H'
abbrev QA (K : Fg) (Q : List V → Hp → Prop) : List D → Hp → Hp → Prop := fun ds G' H' => ∀ vs, AtL K G' vs ds → Q vs H'
def GvX (mg : Str → Option Value) (K : Fg) (σ : L2.St) (G H : Hp) (ρ : List Sl) (W : WX) (c : Xc) : Prop := ∀ cls dd G' H', Stp K (Mt σ ρ) G H G' H' → AtX mg K G' H' c cls dd → W cls dd σ H'
def RdE (X : Cx) (W : WX) (t : TE) (F : EF) : Prop := ∀ (G H : Hp) (σ : L2.St) (ρ : List Sl) (Q : VK), AtE X.K G H σ ρ → wp (F ρ) (Gn X.K σ G H ρ (QE X.K Q)) (GvX X.mg X.K σ G H ρ W) → t σ H Q
def RdT (X : Cx) (W : WX) (t : TT) (F : TF) : Prop := ∀ (G H : Hp) (σ : L2.St) (ρ : List Sl) (Q : Bool → Hp → Prop), AtE X.K G H σ ρ → wp (F ρ) (Gn X.K σ G H ρ (QT Q)) (GvX X.mg X.K σ G H ρ W) → t σ H Q
def RdA (X : Cx) (W : WX) (t : TA) (F : AF) : Prop := ∀ (G H : Hp) (σ : L2.St) (ρ : List Sl) (Q : List V → Hp → Prop), AtE X.K G H σ ρ → wp (F ρ) (Gn X.K σ G H ρ (QA X.K Q)) (GvX X.mg X.K σ G H ρ W) → t σ H Q
def ED (X : Cx) (W : WX) (e : Expr) (F : EF) : Prop := ∃ t, PE X e t ∧ RdE X W t F
def TD (X : Cx) (W : WX) (e : Expr) (F : TF) : Prop := ∃ t, PT X e t ∧ RdT X W t F
def AD (X : Cx) (W : WX) (es : List Expr) (F : AF) : Prop := ∃ t, PA X es t ∧ RdA X W t F
section
variable {X : Cx} {W : WX} {σ : L2.St} {G H G1 H1 : Hp} {ρ ρ1 : List Sl} {α : Type}
theorem GvX.trans {mg : Str → Option Value} {K : Fg} {c : Xc} (h : GvX mg K σ G H ρ W c) (a : Af K σ G H ρ G1 H1 ρ1) : GvX mg K σ G1 H1 ρ1 W c :=
  fun cls dd G' H' st x => h cls dd G' H' (a.st.trans st fun p q => .inl ((a.mt p).mp q)) x
theorem Gn.trans {K : Fg} {P : α → Hp → Hp → Prop} {r : α × List Sl} (h : Gn K σ G H ρ P r) (a : Af K σ G H ρ G1 H1 ρ1) : Gn K σ G1 H1 ρ1 P r := fun G' H' b => h G' H' (a.trans b)
/-- the wish behind: a result's -/
abbrev Wh (X : Cx) (W : WX) (σ : L2.St) (G H : Hp) (ρ : List Sl) (P : α → Hp → Hp → Prop) (r : R (α × List Sl)) : Prop := wp r (Gn X.K σ G H ρ P) (GvX X.mg X.K σ G H ρ W)
theorem Wh.trans {P : α → Hp → Hp → Prop} {r : R (α × List Sl)} (h : Wh X W σ G H ρ P r) (a : Af X.K σ G H ρ G1 H1 ρ1) : Wh X W σ G1 H1 ρ1 P r := wp_mono h (fun _ q => q.trans a) fun _ q => q.trans a
theorem Wh.now {P : α → Hp → Hp → Prop} {x : α} (h : Wh X W σ G H ρ P (.ok (x, ρ1))) (a : Af X.K σ G H ρ G1 H1 ρ1) : P x G1 H1 := h G1 H1 a
theorem Wh.here {P : α → Hp → Hp → Prop} {x : α} (h : Wh X W σ G H ρ P (.ok (x, ρ))) (a : AtE X.K G H σ ρ) : P x G H := h G H (Af.refl a)
/-- an expression first -/
theorem RdE.use {t : TE} {F : EF} (ra : RdE X W t F) (a : AtE X.K G H σ ρ) {P : α → Hp → Hp → Prop} {k : D × List Sl → R (α × List Sl)} {C : VK} (h : Wh X W σ G H ρ P (F ρ >>= k))
    (c : ∀ d ρ1 v G1 H1, AtE X.K G1 H1 σ ρ1 → Af X.K σ G H ρ G1 H1 ρ1 → At X.K G1 v d → Wh X W σ G1 H1 ρ1 P (k (d, ρ1)) → C v H1) : t σ H C :=
  ra G H σ ρ C a (wp_mono (wp_bind.mp h) (fun r hr G1 H1 af v at1 => c r.1 r.2 v G1 H1 af.en af at1 (Wh.trans hr af)) fun _ q => q)
theorem RdT.use {t : TT} {F : TF} (ra : RdT X W t F) (a : AtE X.K G H σ ρ) {P : α → Hp → Hp → Prop} {k : Bool × List Sl → R (α × List Sl)} {C : Bool → Hp → Prop} (h : Wh X W σ G H ρ P (F ρ >>= k))
    (c : ∀ b ρ1 G1 H1, AtE X.K G1 H1 σ ρ1 → Af X.K σ G H ρ G1 H1 ρ1 → Wh X W σ G1 H1 ρ1 P (k (b, ρ1)) → C b H1) : t σ H C :=
  ra G H σ ρ C a (wp_mono (wp_bind.mp h) (fun r hr G1 H1 af => c r.1 r.2 G1 H1 af.en af (Wh.trans hr af)) fun _ q => q)
theorem RdA.use {t : TA} {F : AF} (ra : RdA X W t F) (a : AtE X.K G H σ ρ) {P : α → Hp → Hp → Prop} {k : List D × List Sl → R (α × List Sl)} {C : List V → Hp → Prop} (h : Wh X W σ G H ρ P (F ρ >>= k))
    (c : ∀ ds ρ1 vs G1 H1, AtE X.K G1 H1 σ ρ1 → Af X.K σ G H ρ G1 H1 ρ1 → AtL X.K G1 vs ds → Wh X W σ G1 H1 ρ1 P (k (ds, ρ1)) → C vs H1) : t σ H C :=
  ra G H σ ρ C a (wp_mono (wp_bind.mp h) (fun r hr G1 H1 af vs at1 => c r.1 r.2 vs G1 H1 af.en af at1 (Wh.trans hr af)) fun _ q => q)
end
/-! ### pure operations on data: only new objects are made -/
@[simp] def li {α : Type} (o : Option α) : R α := match o with
  | some a => .ok a
  | none => .bad
@[simp] theorem li_some {α : Type} (a : α) : li (some a) = R.ok a := rfl
@[simp] theorem li_none {α : Type} : li (none : Option α) = R.bad := rfl
def Pw (K : Fg) (G H : Hp) (r : Option D) (Q : VK) : Prop := match r with
  | some d => ∀ v G' H', Stp K No G H G' H' → Ex G' H' → At K G' v d → Q v H'
  | none => False
section
variable {K : Fg} {G H : Hp} {Q : VK}
theorem Pw.val {d : D} {v : V} (h : Pw K G H (some d) Q) (e : Ex G H) (a : At K G v d) : Q v H := h v G H Stp.refl e a
theorem Pw.lst {ds : List D} {vs : List V} (h : Pw K G H (some (.list ds)) Q) (e : Ex G H) (a : AtL K G vs ds) : ∀ p, H p = none → Q (.ref p) (upd H p (.lst vs)) := fun p hp =>
  h _ (upd G p (.lst vs)) _ (Stp.new e hp) (ex_upd2 e) (.lst upd_same (a.up (Ex.new (fresh_back e hp))))
theorem Pw.tup {ds : List D} {vs : List V} (h : Pw K G H (some (.tuple ds)) Q) (e : Ex G H) (a : AtL K G vs ds) : ∀ p, H p = none → Q (.ref p) (upd H p (.tup vs)) := fun p hp =>
  h _ (upd G p (.tup vs)) _ (Stp.new e hp) (ex_upd2 e) (.tup (st_of upd_same) (a.up (Ex.new (fresh_back e hp))))
/-- from a wish of a result -/
theorem Wh.pw {X : Cx} {W : WX} {σ : L2.St} {ρ : List Sl} {r : Option D} (h : Wh X W σ G H ρ (QE X.K Q) (li r >>= fun d => R.ok (d, ρ))) (a : AtE X.K G H σ ρ) : Pw X.K G H r Q := by
  cases r with
  | some d => exact fun v G' H' st e at_ => h G' H' (Af.grow a st e) v at_
  | none => exact h
end
end Pd
end

section
/-! Pd, part 2: names, constants, operators, comparisons, tests. -/
namespace Pd
open PySem L2 Evl
section
variable {X : Cx} {W : WX}

/-! ### names, constants -/
theorem AtE.at_ {K : Fg} {G H : Hp} {σ : L2.St} {ρ : List Sl} (a : AtE K G H σ ρ) {i : Nat} {s : Sl} (h : ρ[i]? = some s) : ∃ e, σ[i]? = some e ∧ AtS K G H e s := by
  have hi : i < σ.length := by rw [← a.len]; exact (List.getElem?_eq_some_iff.mp h).1
  exact ⟨σ[i], List.getElem?_eq_getElem hi, a.sl i s _ h (List.getElem?_eq_getElem hi)⟩
@[simp] def eVar (i : Nat) : EF := fun ρ => match ρ[i]? with
  | some (.d x) => .ok (x, ρ)
  | _ => .bad
theorem ed_var (i : Nat) {x : Str} {pos : Pos} (hN : X.N[i]? = some x := by rfl) (hv : Vis X.env.scope x := by first | exact Or.inl rfl | exact Or.inr (Or.inl rfl) | exact Or.inr (Or.inr rfl)) (hd : (x == ("__debug__" : Str)) = false := by decide)
    (hcd : (x == ("__classdict__" : Str)) = false := by decide) : ED X W (.Name x pos) (eVar i) := by
  refine ⟨tVar i, pv i hN hv hd hcd, fun G H σ ρ Q a h => ?_⟩
  unfold eVar at h
  split at h
  · rename_i x e
    obtain ⟨en, e1, v, e2, e3⟩ := a.at_ e
    subst e2
    exact ⟨v, e1, Wh.here (P := QE X.K Q) h a v e3⟩
  · exact h.elim
@[simp] def eC (d : D) : EF := fun ρ => .ok (d, ρ)
theorem ed_c {e : Expr} {v : V} {d : D} (he : PE X e (tC v)) (h : ∀ G, At X.K G v d) : ED X W e (eC d) := ⟨_, he, fun G H σ ρ Q a hw => Wh.here (P := QE X.K Q) hw a v (h G)⟩
theorem ed_int {i : Int} {j : Nat} {pos : Pos} : ED X W (.Constant (.int i) j pos) (eC (.int i)) := ed_c pe_int fun _ => .int i
theorem ed_bl {b : Bool} {j : Nat} {pos : Pos} : ED X W (.Constant (.bool b) j pos) (eC (.bool b)) := ed_c pe_bl fun _ => .bl b
theorem ed_non {j : Nat} {pos : Pos} : ED X W (.Constant .none j pos) (eC .none) := ed_c pe_non fun _ => .non
theorem ed_str {x : Str} {j : Nat} {pos : Pos} (h : okS x = true := by decide +kernel) : ED X W (.Constant (.str x) j pos) (eC (.str x)) := ed_c pe_str fun _ => .str x h
/-- a constant of the module -/
structure GC (mg : Str → Option Value) (K : Fg) (x : Str) (d : D) : Prop where
  h : ∃ v u, mg x = some u ∧ RelV v u ∧ ∀ G, At K G v d
theorem ed_glob {x : Str} {d : D} {pos : Pos} (hg : Gl X x) (g : GC X.mg X.K x d) (hd : (x == ("__debug__" : Str)) = false := by decide) : ED X W (.Name x pos) (eC d) := by
  obtain ⟨v, u, h1, h2, h3⟩ := g.h
  exact ed_c (pe_glob hg h1 h2 hd) h3

/-! ### pure two-place operations -/
/-- r serves f on data -/
def Op2 (K : Fg) (r : R2) (f : D → D → Option D) : Prop := ∀ (G H : Hp) (x y : V) (a b : D) (Q : VK), Ex G H → At K G x a → At K G y b → Pw K G H (f a b) Q → r x y H Q
@[simp] def eOp (f : D → D → Option D) (fa fb : EF) : EF := fun ρ => fa ρ >>= fun a => fb a.2 >>= fun b => li (f a.1 b.1) >>= fun d => .ok (d, b.2)
theorem rd_op {r : R2} {f : D → D → Option D} {ta tb : TE} {fa fb : EF} (o : Op2 X.K r f) (ra : RdE X W ta fa) (rb : RdE X W tb fb) : RdE X W (tOp r ta tb) (eOp f fa fb) := fun G H σ ρ Q a h =>
  ra.use a (P := QE X.K Q) h fun d ρ1 v G1 H1 a1 af1 at1 h1 => rb.use a1 (P := QE X.K Q) h1 fun d2 ρ2 u G2 H2 a2 af2 at2 h2 =>
    o G2 H2 v u d d2 Q a2.ex (at1.up af2.st.ex) at2 (h2.pw a2)
theorem ed_op {op : Operator} {r : R2} {f : D → D → Option D} {a b : Expr} {fa fb : EF} {pos : Pos} (ho : OpR X (binaryOp op) r) (o : Op2 X.K r f) : ED X W a fa → ED X W b fb → ED X W (.BinOp a op b pos) (eOp f fa fb)
  | ⟨_, pa, ra⟩, ⟨_, pb, rb⟩ => ⟨_, pe_op ho pa pb, rd_op o ra rb⟩
theorem ed_cmp {op : CmpOp} {r : R2} {f : D → D → Option D} {a b : Expr} {fa fb : EF} {pos : Pos} (ho : OpR X (compareOp op) r) (o : Op2 X.K r f) (hm : behindInMarks op b = false) : ED X W a fa → ED X W b fb → ED X W (.Compare a [op] [b] pos) (eOp f fa fb)
  | ⟨_, pa, ra⟩, ⟨_, pb, rb⟩ => ⟨_, pe_cmpR ho pa pb hm, rd_op o ra rb⟩
theorem Op2.or {K : Fg} {r r' : R2} {f g : D → D → Option D} (h : Op2 K r f) (h' : Op2 K r' g) (hd : ∀ a b, f a b = none ∨ g a b = none ∨ True) : Op2 K (fun x y H Q => r x y H Q ∨ r' x y H Q) (fun a b => match f a b with | some d => some d | none => g a b) := by
  intro G H x y a b Q e ax ay h0
  cases q : f a b with
  | some d => simp only [q] at h0; exact .inl (h G H x y a b Q e ax ay (by rw [q]; exact h0))
  | none => simp only [q] at h0; exact .inr (h' G H x y a b Q e ax ay h0)

theorem strOk_append {x y : Str} (hx : PyData.strOk x = true) (hy : PyData.strOk y = true) : PyData.strOk (x ++ y) = true := by
  have e : (x ++ y).cps = x.cps ++ y.cps := rfl
  unfold PyData.strOk at hx hy ⊢
  rw [e, Array.all_append, hx, hy]
  rfl
theorem str_len_append (x y : Str) : (x ++ y).length = x.length + y.length := by
  have e : (x ++ y).cps = x.cps ++ y.cps := rfl
  show (x ++ y).cps.size = _
  rw [e, Array.size_append]
  rfl
theorem okS_append {x y : Str} (hx : okS x = true) (hy : okS y = true) (h : x.length + y.length ≤ sizeLine) : okS (x ++ y) = true :=
  okS.mk (by rw [str_len_append]; exact h) (strOk_append (okS.st hx) (okS.st hy))

/-- + -/
def addD : D → D → Option D
  | .int i, .int j => some (.int (i + j))
  | .str x, .str y => if x.length + y.length ≤ sizeLine then some (.str (x ++ y)) else none
  | .list xs, .list ys => if xs.length + ys.length ≤ sizeLine then some (.list (xs ++ ys)) else none
  | .tuple xs, .tuple ys => if xs.length + ys.length ≤ sizeLine then some (.tuple (xs ++ ys)) else none
  | _, _ => none
@[simp] theorem addD_i (i j : Int) : addD (.int i) (.int j) = some (.int (i + j)) := rfl
@[simp] theorem addD_s (x y : Str) : addD (.str x) (.str y) = if x.length + y.length ≤ sizeLine then some (.str (x ++ y)) else none := rfl
@[simp] theorem addD_l (xs ys : List D) : addD (.list xs) (.list ys) = if xs.length + ys.length ≤ sizeLine then some (.list (xs ++ ys)) else none := rfl
@[simp] theorem addD_t (xs ys : List D) : addD (.tuple xs) (.tuple ys) = if xs.length + ys.length ≤ sizeLine then some (.tuple (xs ++ ys)) else none := rfl
abbrev rAddA (K : Fg) : R2 := fun x y H Q => rI0 (fun i j => .int (i + j)) x y H Q ∨ (∃ i j, x = .str i ∧ y = .str j ∧ i.length + j.length ≤ sizeLine ∧ Q (.str (i ++ j)) H) ∨ rCat x y H Q ∨ rCatA K x y H Q
theorem opr_add : OpR X (binaryOp .Add) (rAddA X.K) := op_add.or (op_add_str.or (op_cat.or op_catA))
theorem op2_add {K : Fg} : Op2 K (rAddA K) addD := by
  intro G H x y a b Q e ax ay h
  unfold addD at h
  split at h
  · cases ax; cases ay
    exact .inl ⟨_, _, rfl, rfl, h.val e (.int _)⟩
  · split at h
    · rename_i hl
      cases ax with
      | str _ h1 =>
        cases ay with
        | str _ h2 => exact .inr (.inl ⟨_, _, rfl, rfl, hl, h.val e (.str _ (okS_append h1 h2 hl))⟩)
    · exact h.elim
  · split at h
    · rename_i hl
      cases ax with
      | lst h1 h2 =>
        cases ay with
        | lst h3 h4 => exact .inr (.inr (.inl ⟨_, _, _, _, rfl, rfl, e _ _ h1, e _ _ h3, by rw [h2.length, h4.length]; exact hl, h.lst e (h2.append h4)⟩))
    · exact h.elim
  · split at h
    · rename_i hl
      cases ax with
      | tup h1 h2 =>
        cases ay with
        | tup h3 h4 =>
          refine .inr (.inr (.inr ⟨_, _, _, _, rfl, rfl, ex_t e h1, ex_t e h3, by rw [h2.length, h4.length]; exact hl, fun z => ?_, fun _ z => ?_, fun _ _ => h.tup e (h2.append h4)⟩))
          · subst z
            cases h2
            exact h.val e (.tup h3 h4)
          · subst z
            cases h4
            rw [List.append_nil] at h
            exact h.val e (.tup h1 h2)
    · exact h.elim
  · exact h.elim
theorem ed_add {a b : Expr} {fa fb : EF} {pos : Pos} (ha : ED X W a fa) (hb : ED X W b fb) : ED X W (.BinOp a .Add b pos) (eOp addD fa fb) := ed_op opr_add op2_add ha hb

/-- ints to an int -/
@[simp] def intD (c : Int → Int → Bool) (g : Int → Int → Int) : D → D → Option D
  | .int i, .int j => if c i j = true then some (.int (g i j)) else none
  | _, _ => none
theorem op2_int {K : Fg} {C : Int → Int → Prop} {c : Int → Int → Bool} {g : Int → Int → Int} (hc : ∀ i j, c i j = true → C i j) : Op2 K (rI C fun i j => .int (g i j)) (intD c g) := by
  intro G H x y a b Q e ax ay h
  unfold intD at h
  split at h
  · split at h
    · rename_i hl
      cases ax; cases ay
      exact ⟨_, _, rfl, rfl, hc _ _ hl, h.val e (.int _)⟩
    · exact h.elim
  · exact h.elim
@[simp] def subD : D → D → Option D
  | .int i, .int j => some (.int (i - j))
  | _, _ => none
theorem op2_sub {K : Fg} : Op2 K (rI0 fun i j => .int (i - j)) subD := by
  intro G H x y a b Q e ax ay h
  unfold subD at h
  split at h
  · cases ax; cases ay
    exact ⟨_, _, rfl, rfl, h.val e (.int _)⟩
  · exact h.elim
theorem ed_sub {a b : Expr} {fa fb : EF} {pos : Pos} (ha : ED X W a fa) (hb : ED X W b fb) : ED X W (.BinOp a .Sub b pos) (eOp subD fa fb) := ed_op op_sub op2_sub ha hb
@[simp] def divD : D → D → Option D := intD (fun _ j => decide (0 < j) && decide (j < 18446744073709551616)) fun i j => i / j
theorem ed_div {a b : Expr} {fa fb : EF} {pos : Pos} (ha : ED X W a fa) (hb : ED X W b fb) : ED X W (.BinOp a .FloorDiv b pos) (eOp divD fa fb) :=
  ed_op op_fdivW (op2_int fun i j h => by
    obtain ⟨h1, h2⟩ := Bool.and_eq_true_iff.mp h
    have h1 := of_decide_eq_true h1
    have h2 := of_decide_eq_true h2
    exact wide_div (b := 64) h1 (by omega) (by decide) (by decide)) ha hb
@[simp] def modD : D → D → Option D := intD (fun _ j => decide (0 < j)) fun i j => i % j
theorem ed_mod {a b : Expr} {fa fb : EF} {pos : Pos} (ha : ED X W a fa) (hb : ED X W b fb) : ED X W (.BinOp a .Mod b pos) (eOp modD fa fb) :=
  ed_op op_mod (op2_int fun i j h => of_decide_eq_true h) ha hb
@[simp] def powD : D → D → Option D := intD (fun i j => decide (0 ≤ j) && decide (j ≤ 1000000) && decide (i.natAbs < 18446744073709551616)) fun i j => i ^ j.toNat
theorem ed_pow {a b : Expr} {fa fb : EF} {pos : Pos} (ha : ED X W a fa) (hb : ED X W b fb) : ED X W (.BinOp a .Pow b pos) (eOp powD fa fb) :=
  ed_op op_pow (op2_int fun i j h => by
    obtain ⟨h1, h3⟩ := Bool.and_eq_true_iff.mp h
    obtain ⟨h1, h2⟩ := Bool.and_eq_true_iff.mp h1
    exact ⟨of_decide_eq_true h1, of_decide_eq_true h2, of_decide_eq_true h3⟩) ha hb

/-! ### comparisons -/
def eqD (a b : D) : Option D := if a.depth ≤ 64 ∧ b.depth ≤ 64 then some (.bool (PyData.eqv a b)) else none
def neD (a b : D) : Option D := if a.depth ≤ 64 ∧ b.depth ≤ 64 then some (.bool (!PyData.eqv a b)) else none
@[simp low] theorem eqD_def (a b : D) : eqD a b = if a.depth ≤ 64 ∧ b.depth ≤ 64 then some (.bool (PyData.eqv a b)) else none := rfl
@[simp low] theorem neD_def (a b : D) : neD a b = if a.depth ≤ 64 ∧ b.depth ≤ 64 then some (.bool (!PyData.eqv a b)) else none := rfl
theorem At.shaped {K : Fg} {G : Hp} {v : V} {d : D} (h : At K G v d) (hd : d.depth ≤ 64) : SeqAt.shaped d = true := by
  unfold SeqAt.shaped
  rw [At.lay d v h, decide_eq_true hd]
  rfl
theorem op2_eq {K : Fg} : Op2 K (rEqD K) eqD := by
  intro G H x y a b Q e ax ay h
  unfold eqD at h
  split at h
  · rename_i hl
    exact ⟨a, b, At.dp' e a x ax, At.dp' e b y ay, ax.shaped hl.1, ay.shaped hl.2, h.val e (.bl _)⟩
  · exact h.elim
theorem op2_ne {K : Fg} : Op2 K (rNeD K) neD := by
  intro G H x y a b Q e ax ay h
  unfold neD at h
  split at h
  · rename_i hl
    exact ⟨a, b, At.dp' e a x ax, At.dp' e b y ay, ax.shaped hl.1, ay.shaped hl.2, h.val e (.bl _)⟩
  · exact h.elim
theorem ed_eq {a b : Expr} {fa fb : EF} {pos : Pos} (hu : X.A.units + 64 < cLine) (ha : ED X W a fa) (hb : ED X W b fb) : ED X W (.Compare a [.Eq] [b] pos) (eOp eqD fa fb) := ed_cmp (op_eqD hu) op2_eq (nomark _) ha hb
theorem ed_ne {a b : Expr} {fa fb : EF} {pos : Pos} (hu : X.A.units + 64 < cLine) (ha : ED X W a fa) (hb : ED X W b fb) : ED X W (.Compare a [.NotEq] [b] pos) (eOp neD fa fb) := ed_cmp (op_neD hu) op2_ne (nomark _) ha hb
/-- order of ints and texts -/
@[simp] def ordD (p : Int → Int → Bool) (q : List Nat → List Nat → Bool) : D → D → Option D
  | .int i, .int j => some (.bool (p i j))
  | .str x, .str y => some (.bool (q x.cps.toList y.cps.toList))
  | _, _ => none
theorem op2_ord {K : Fg} {p : Int → Int → Bool} {q : List Nat → List Nat → Bool} {r : R2} (h : ∀ (x y : Str) (H : Hp) (Q : VK), Q (.bl (q x.cps.toList y.cps.toList)) H → r (.str x) (.str y) H Q) :
    Op2 K (fun x y H Q => rI0 (fun i j => .bl (p i j)) x y H Q ∨ r x y H Q) (ordD p q) := by
  intro G H x y a b Q e ax ay hp
  unfold ordD at hp
  split at hp
  · cases ax; cases ay
    exact .inl ⟨_, _, rfl, rfl, hp.val e (.bl _)⟩
  · cases ax; cases ay
    exact .inr (h _ _ _ _ (hp.val e (.bl _)))
  · exact hp.elim
abbrev ltD : D → D → Option D := ordD (fun i j => decide (i < j)) fun x y => decide (x < y)
abbrev leD : D → D → Option D := ordD (fun i j => decide (i ≤ j)) fun x y => decide (x ≤ y)
abbrev gtD : D → D → Option D := ordD (fun i j => decide (j < i)) fun x y => decide (y < x)
abbrev geD : D → D → Option D := ordD (fun i j => decide (j ≤ i)) fun x y => decide (y ≤ x)
theorem ed_lt {a b : Expr} {fa fb : EF} {pos : Pos} (ha : ED X W a fa) (hb : ED X W b fb) : ED X W (.Compare a [.Lt] [b] pos) (eOp ltD fa fb) :=
  ed_cmp (op_lt.or op_lt_str) (op2_ord fun x y H Q q => ⟨x, y, rfl, rfl, q⟩) (nomark _) ha hb

/-! ### tests -/
@[simp] def tOf (f : EF) : TF := fun ρ => f ρ >>= fun r => match r.1 with
  | .bool b => .ok (b, r.2)
  | .none => .ok (false, r.2)
  | .int i => .ok (i != 0, r.2)
  | .str x => .ok ((x.length : Int) != 0, r.2)
  | .list xs => .ok (!xs.isEmpty, r.2)
  | .tuple xs => .ok (!xs.isEmpty, r.2)
  | .dict _ => .bad
theorem isEmpty_atl {K : Fg} {G : Hp} {vs : List V} {ds : List D} (h : AtL K G vs ds) : vs.isEmpty = ds.isEmpty := by cases h <;> rfl
theorem rd_tru {t : TE} {f : EF} (r : RdE X W t f) : RdT X W (fun σ H Q => t σ H fun x H' => ∃ k, TruV X.K x H' k ∧ Q k H') (tOf f) := fun G H σ ρ Q a h =>
  r.use a (P := QT Q) h fun d ρ1 v G1 H1 a1 af1 at1 h1 => by
    cases at1 with
    | non => exact ⟨false, rfl, Wh.here (P := QT Q) h1 a1⟩
    | bl b => exact ⟨b, rfl, Wh.here (P := QT Q) h1 a1⟩
    | int i => exact ⟨_, rfl, Wh.here (P := QT Q) h1 a1⟩
    | str x hx => exact ⟨_, ⟨okS.len hx, rfl⟩, Wh.here (P := QT Q) h1 a1⟩
    | lst h2 h3 => exact ⟨_, .inl ⟨_, sq_of (a1.ex _ _ h2), rfl⟩, by rw [isEmpty_atl h3]; exact Wh.here (P := QT Q) h1 a1⟩
    | tup h2 h3 => exact ⟨_, .inr (.inl ⟨_, ex_t a1.ex h2, rfl⟩), by rw [isEmpty_atl h3]; exact Wh.here (P := QT Q) h1 a1⟩
theorem rd_tB {t : TE} {f : EF} (r : RdE X W t f) : RdT X W (tTest t) (fun ρ => f ρ >>= fun r => match r.1 with | .bool b => .ok (b, r.2) | _ => .bad) := fun G H σ ρ Q a h =>
  r.use a (P := QT Q) h fun d ρ1 v G1 H1 a1 af1 at1 h1 => by
    cases at1 with
    | bl b => exact ⟨b, rfl, Wh.here (P := QT Q) h1 a1⟩
    | _ => exact h1.elim
/-- any expression but a comparison, and, or, not, as a test -/
theorem td_val {e : Expr} {f : EF} (he : ∀ whole, isTrue e X.env whole = (do let v ← whole; standAt e.pos; holding [v] (truthy v)) := by intro _; rfl) : ED X W e f → TD X W e (tOf f)
  | ⟨_, p, r⟩ => ⟨_, pt_truth p he, rd_tru r⟩
@[simp] def tBo (f : EF) : TF := fun ρ => f ρ >>= fun r => match r.1 with
  | .bool b => .ok (b, r.2)
  | _ => .bad
theorem td_cmp {op : CmpOp} {r : R2} {f : D → D → Option D} {a b : Expr} {fa fb : EF} {pos : Pos} (ho : OpR X (compareOp op) r) (o : Op2 X.K r f) (hm : behindInMarks op b = false) : ED X W a fa → ED X W b fb → TD X W (.Compare a [op] [b] pos) (tBo (eOp f fa fb))
  | ⟨_, pa, ra⟩, ⟨_, pb, rb⟩ => ⟨_, pt_cmpR ho pa pb hm, rd_tB (rd_op o ra rb)⟩
@[simp] def tAn (f g : TF) : TF := fun ρ => f ρ >>= fun r => if r.1 = true then g r.2 else .ok (false, r.2)
@[simp] def tOr' (f g : TF) : TF := fun ρ => f ρ >>= fun r => if r.1 = true then .ok (true, r.2) else g r.2
@[simp] def tNo (f : TF) : TF := fun ρ => f ρ >>= fun r => .ok (!r.1, r.2)
theorem rd_and {t u : TT} {f g : TF} (r : RdT X W t f) (s : RdT X W u g) : RdT X W (tAnd t u) (tAn f g) := fun G H σ ρ Q a h =>
  r.use a (P := QT Q) h fun b ρ1 G1 H1 a1 af1 h1 => by
    cases b with
    | true => exact s G1 H1 σ ρ1 Q a1 h1
    | false => exact Wh.here (P := QT Q) h1 a1
theorem rd_or {t u : TT} {f g : TF} (r : RdT X W t f) (s : RdT X W u g) : RdT X W (tOr t u) (tOr' f g) := fun G H σ ρ Q a h =>
  r.use a (P := QT Q) h fun b ρ1 G1 H1 a1 af1 h1 => by
    cases b with
    | false => exact s G1 H1 σ ρ1 Q a1 h1
    | true => exact Wh.here (P := QT Q) h1 a1
/-- a BoolOp as a test, whatever its whole is -/
def WD (X : Cx) (W : WX) (e : Expr) (F : TF) : Prop := ∃ t, PW X e t ∧ RdT X W t F
theorem wd_and1 {a : Expr} {f : TF} {pos : Pos} : TD X W a f → WD X W (.BoolOp .And [a] pos) f
  | ⟨_, p, r⟩ => ⟨_, pw_and1 p, r⟩
theorem wd_or1 {a : Expr} {f : TF} {pos : Pos} : TD X W a f → WD X W (.BoolOp .Or [a] pos) f
  | ⟨_, p, r⟩ => ⟨_, pw_or1 p, r⟩
theorem wd_and {a b : Expr} {rest : List Expr} {f g : TF} {pos : Pos} : TD X W a f → WD X W (.BoolOp .And (b :: rest) pos) g → WD X W (.BoolOp .And (a :: b :: rest) pos) (tAn f g)
  | ⟨_, p, r⟩, ⟨_, q, s⟩ => ⟨_, pw_and p q, rd_and r s⟩
theorem wd_or {a b : Expr} {rest : List Expr} {f g : TF} {pos : Pos} : TD X W a f → WD X W (.BoolOp .Or (b :: rest) pos) g → WD X W (.BoolOp .Or (a :: b :: rest) pos) (tOr' f g)
  | ⟨_, p, r⟩, ⟨_, q, s⟩ => ⟨_, pw_or p q, rd_or r s⟩
theorem td_bo {e : Expr} {f : TF} : WD X W e f → TD X W e f
  | ⟨_, p, r⟩ => ⟨_, p.pt, r⟩
theorem td_not {a : Expr} {f : TF} {pos : Pos} : TD X W a f → TD X W (.UnaryOp .Not a pos) (tNo f)
  | ⟨_, p, r⟩ => ⟨_, pt_not p, fun G H σ ρ Q a h => r.use a (P := QT Q) h fun b ρ1 G1 H1 a1 af1 h1 => Wh.here (P := QT Q) h1 a1⟩
/-- and, or, not as values (all but the last a bool) -/
@[simp] def eAn (f g : EF) : EF := fun ρ => f ρ >>= fun r => match r.1 with
  | .bool true => g r.2
  | .bool false => .ok (.bool false, r.2)
  | _ => .bad
@[simp] def eOr (f g : EF) : EF := fun ρ => f ρ >>= fun r => match r.1 with
  | .bool true => .ok (.bool true, r.2)
  | .bool false => g r.2
  | _ => .bad
@[simp] def eNo (f : EF) : EF := fun ρ => f ρ >>= fun r => match r.1 with
  | .bool b => .ok (.bool (!b), r.2)
  | _ => .bad
theorem ed_one {op : BoolOp} {a : Expr} {f : EF} {pos : Pos} : ED X W a f → ED X W (.BoolOp op [a] pos) f
  | ⟨_, p, r⟩ => ⟨_, pe_one p, r⟩
theorem ed_and {a b : Expr} {rest : List Expr} {f g : EF} {pos : Pos} : ED X W a f → ED X W (.BoolOp .And (b :: rest) pos) g → ED X W (.BoolOp .And (a :: b :: rest) pos) (eAn f g)
  | ⟨_, p, r⟩, ⟨_, q, s⟩ => ⟨_, pe_and p q, fun G H σ ρ Q a h => r.use a (P := QE X.K Q) h fun d ρ1 v G1 H1 a1 af1 at1 h1 => by
    cases at1 with
    | bl b =>
      refine ⟨b, rfl, ?_⟩
      cases b with
      | true => exact s G1 H1 σ ρ1 Q a1 h1
      | false => exact Wh.here (P := QE X.K Q) h1 a1 _ (.bl _)
    | _ => exact h1.elim⟩
theorem ed_or {a b : Expr} {rest : List Expr} {f g : EF} {pos : Pos} : ED X W a f → ED X W (.BoolOp .Or (b :: rest) pos) g → ED X W (.BoolOp .Or (a :: b :: rest) pos) (eOr f g)
  | ⟨_, p, r⟩, ⟨_, q, s⟩ => ⟨_, pe_or p q, fun G H σ ρ Q a h => r.use a (P := QE X.K Q) h fun d ρ1 v G1 H1 a1 af1 at1 h1 => by
    cases at1 with
    | bl b =>
      refine ⟨b, rfl, ?_⟩
      cases b with
      | false => exact s G1 H1 σ ρ1 Q a1 h1
      | true => exact Wh.here (P := QE X.K Q) h1 a1 _ (.bl _)
    | _ => exact h1.elim⟩
theorem ed_not {a : Expr} {f : EF} {pos : Pos} : ED X W a f → ED X W (.UnaryOp .Not a pos) (eNo f)
  | ⟨_, p, r⟩ => ⟨_, pe_not p, fun G H σ ρ Q a h => r.use a (P := QE X.K Q) h fun d ρ1 v G1 H1 a1 af1 at1 h1 => by
    cases at1 with
    | bl b => exact ⟨b, rfl, Wh.here (P := QE X.K Q) h1 a1 _ (.bl _)⟩
    | _ => exact h1.elim⟩
/-- a if t else b -/
@[simp] def eIf (t : TF) (f g : EF) : EF := fun ρ => t ρ >>= fun r => if r.1 = true then f r.2 else g r.2
theorem ed_if {c a b : Expr} {t : TF} {f g : EF} {pos : Pos} : TD X W c t → ED X W a f → ED X W b g → ED X W (.IfExp c a b pos) (eIf t f g)
  | ⟨_, p, r⟩, ⟨_, pa, ra⟩, ⟨_, pb, rb⟩ => ⟨_, pe_ifExp p pa pb, fun G H σ ρ Q a h => r.use a (P := QE X.K Q) h fun b ρ1 G1 H1 a1 af1 h1 => by
    cases b with
    | true => exact ra G1 H1 σ ρ1 Q a1 h1
    | false => exact rb G1 H1 σ ρ1 Q a1 h1⟩
/-- a op b op' c -/
@[simp] def eCh (f g : D → D → Option D) (fa fb fc : EF) : EF := fun ρ => fa ρ >>= fun a => fb a.2 >>= fun b => li (f a.1 b.1) >>= fun d => match d with
  | .bool true => fc b.2 >>= fun c => li (g b.1 c.1) >>= fun e => .ok (e, c.2)
  | .bool false => .ok (.bool false, b.2)
  | _ => .bad
/-- a comparison on data that makes nothing -/
def Op2B (K : Fg) (r : R2) (f : D → D → Option D) : Prop := ∀ (G H : Hp) (x y : V) (a b d : D) (Q : VK), Ex G H → At K G x a → At K G y b → f a b = some d → (∀ v, At K G v d → Q v H) → r x y H Q
theorem op2B_ord {K : Fg} {p : Int → Int → Bool} {q : List Nat → List Nat → Bool} {r : R2} (h : ∀ (x y : Str) (H : Hp) (Q : VK), Q (.bl (q x.cps.toList y.cps.toList)) H → r (.str x) (.str y) H Q) :
    Op2B K (fun x y H Q => rI0 (fun i j => .bl (p i j)) x y H Q ∨ r x y H Q) (ordD p q) := by
  intro G H x y a b d Q e ax ay hf hp
  unfold ordD at hf
  split at hf
  · cases hf; cases ax; cases ay
    exact .inl ⟨_, _, rfl, rfl, hp _ (.bl _)⟩
  · cases hf; cases ax; cases ay
    exact .inr (h _ _ _ _ (hp _ (.bl _)))
  · cases hf
theorem rd_ch {r r' : R2} {f g : D → D → Option D} {ta tb tc : TE} {fa fb fc : EF} (o : Op2B X.K r f) (o' : Op2 X.K r' g) (ra : RdE X W ta fa) (rb : RdE X W tb fb) (rc : RdE X W tc fc) : RdE X W (tChain r r' ta tb tc) (eCh f g fa fb fc) := fun G H σ ρ Q a h =>
  ra.use a (P := QE X.K Q) h fun d ρ1 v G1 H1 a1 af1 at1 h1 => rb.use a1 (P := QE X.K Q) h1 fun d2 ρ2 u G2 H2 a2 af2 at2 h2 => by
    cases q : f d d2 with
    | none => simp only [q] at h2; exact h2.elim
    | some z =>
      simp only [q, li_some, bind_ok] at h2
      refine o G2 H2 v u d d2 z _ a2.ex (at1.up af2.st.ex) at2 q fun zv az => ?_
      cases az with
      | bl b =>
        cases b with
        | true => exact ⟨true, rfl, rc.use a2 (P := QE X.K Q) h2 fun d3 ρ3 w G3 H3 a3 af3 at3 h3 => o' G3 H3 u w d2 d3 Q a3.ex (at2.up af3.st.ex) at3 (h3.pw a3)⟩
        | false => exact ⟨false, rfl, Wh.here (P := QE X.K Q) h2 a2 _ (.bl _)⟩
      | _ => exact h2.elim
theorem ed_ch {op op' : CmpOp} {r r' : R2} {f g : D → D → Option D} {a b c : Expr} {fa fb fc : EF} {pos : Pos} (ho : OpR X (compareOp op) r) (o : Op2B X.K r f) (ho' : OpR X (compareOp op') r') (o' : Op2 X.K r' g)
    (hm : lastMarks [op, op'] [b, c] = false := by with_unfolding_all rfl) : ED X W a fa → ED X W b fb → ED X W c fc → ED X W (.Compare a [op, op'] [b, c] pos) (eCh f g fa fb fc)
  | ⟨_, pa, ra⟩, ⟨_, pb, rb⟩, ⟨_, pc, rc⟩ => ⟨_, pe_chain ho ho' pa pb pc hm, rd_ch o o' ra rb rc⟩
theorem td_ch {op op' : CmpOp} {r r' : R2} {f g : D → D → Option D} {a b c : Expr} {fa fb fc : EF} {pos : Pos} (ho : OpR X (compareOp op) r) (o : Op2B X.K r f) (ho' : OpR X (compareOp op') r') (o' : Op2 X.K r' g)
    (hm : lastMarks [op, op'] [b, c] = false := by with_unfolding_all rfl) : ED X W a fa → ED X W b fb → ED X W c fc → TD X W (.Compare a [op, op'] [b, c] pos) (tBo (eCh f g fa fb fc))
  | ⟨_, pa, ra⟩, ⟨_, pb, rb⟩, ⟨_, pc, rc⟩ => ⟨_, pt_chain ho ho' pa pb pc hm, rd_tB (rd_ch o o' ra rb rc)⟩
end
end Pd
end

section
/-! Pd, part 3: products, in, is, isinstance, len and other built-ins, subscripts, slices, displays. -/
namespace Pd
open PySem L2 Evl PyProof.Rows
section
variable {X : Cx} {W : WX}

/-! ### products -/
/-- two factors of together less than a hundred million bits -/
def CMulB (i j : Int) : Prop := i.natAbs.log2 + j.natAbs.log2 < 100000000
theorem CMulB.ok {i j : Int} (h : CMulB i j) : IntMulOk i j := by
  have b : ∀ x : Int, Builtin.Int.intBits x ≤ x.natAbs.log2 + 1 := fun x => by
    unfold Builtin.Int.intBits
    split <;> omega
  have h1 := b i
  have h2 := b j
  have h3 : i.natAbs.log2 + j.natAbs.log2 < 100000000 := h
  have e : bitsLine = 134217728 := by decide
  unfold IntMulOk
  intro z
  rw [Bool.and_eq_true] at z
  have z2 := z.2
  unfold Builtin.Int.intTooBig at z2
  have z3 := of_decide_eq_true z2
  rw [e] at z3
  omega
theorem op_mulB : OpR X (binaryOp .Mult) (rI CMulB fun i j => .int (i * j)) := opI fun _ _ _ _ _ _ _ hc q => mul_int q hc.ok
/-- a text repeated -/
def repS (x : Str) (n : Nat) : Str := ⟨(List.replicate n x.cps.toList).flatten.toArray⟩
def rRepS : R2 := fun x y H Q => ∃ z k, x = .str z ∧ y = .int k ∧ MulOk z k ∧ Q (.str (Txt.mul z k)) H
theorem op_repS : OpR X (binaryOp .Mult) rRepS := by
  intro pins s σ H x y v u Q I rx ry h
  obtain ⟨z, k, rfl, rfl, hk, q⟩ := h
  obtain ⟨t, rfl⟩ := rx
  obtain ⟨t', rfl⟩ := ry
  exact SB.mul hk fun t2 k2 => ⟨.str _, H, I.tok _, ⟨_, rfl⟩, q⟩
/-- a tuple once | an empty tuple -/
theorem tuple_mul1 (l : Addr) (items : Array Value) (n : Nat) (dd : Option Addr) (sl : Array (Option Value)) (x : Int) (u : Tok) (c0 : (decide (x < -(2 ^ 63)) || decide (x ≥ 2 ^ 63)) = false) (c1 : (items.isEmpty || x == 1) = true) :
    Meets (Builtin.«tuple.__mul__» ⟨[.ref l, .int x u], []⟩) (fun _ R s => s.heap.get? l = some { cls := .type "tuple", dict := dd, data := .seq items n, slots := sl } ∧ R (.ok (.ret (Value.ref l))) s) :=
  .of_wp fun prog w A R s h => by
    obtain ⟨hp, g, d, tk, os⟩ := s
    obtain ⟨hl, h⟩ := h
    have f1 := AutoSeq1.idx_int
    wp_walk using wpAny_loadPart' hl
    repeat (first
      | (refine wpAny_ite_false (decide_eq_false (by rw [c0]; exact Bool.false_ne_true)) ?_; wp_walk using wpAny_loadPart' hl)
      | (refine wpAny_ite_true (decide_eq_true c1) ?_; wp_walk using wpAny_loadPart' hl))
    exact ⟨_, rfl, h⟩
theorem tuple_mul0 (l : Addr) (items : Array Value) (n : Nat) (dd : Option Addr) (sl : Array (Option Value)) (x : Int) (u : Tok) (c0 : (decide (x < -(2 ^ 63)) || decide (x ≥ 2 ^ 63)) = false) (c1 : (items.isEmpty || x == 1) = false) (c2 : (decide (x ≤ 0) || items.isEmpty) = true) :
    Meets (Builtin.«tuple.__mul__» ⟨[.ref l, .int x u], []⟩) (fun _ R s => s.heap.get? l = some { cls := .type "tuple", dict := dd, data := .seq items n, slots := sl } ∧
      R (.ok (.ret (Value.ref s.heap.objs.size))) { s with heap := s.heap.push { cls := Value.type "tuple", data := Data.seq #[] }, toks := s.toks }) :=
  .of_wp fun prog w A R s h => by
    obtain ⟨hp, g, d, tk, os⟩ := s
    obtain ⟨hl, h⟩ := h
    have f1 := AutoSeq1.idx_int
    wp_walk using wpAny_loadPart' hl
    repeat (first
      | (refine wpAny_ite_false (decide_eq_false (by rw [c0]; exact Bool.false_ne_true)) ?_; wp_walk using wpAny_loadPart' hl)
      | (refine wpAny_ite_false (decide_eq_false (by rw [c1]; exact Bool.false_ne_true)) ?_; wp_walk using wpAny_loadPart' hl)
      | (refine wpAny_ite_true (decide_eq_true c2) ?_; wp_walk using wpAny_loadPart' hl))
    exact ⟨_, rfl, h⟩
def rRepTA (K : Fg) : R2 := fun x y H Q => ∃ l k xs, x = .ref l ∧ y = .int k ∧ SqT K H l xs ∧ -1000 ≤ k ∧ k ≤ 1000 ∧ xs.length ≤ 1000 ∧ ((xs = [] ∨ k = 1) → Q (.ref l) H) ∧
  (xs ≠ [] → k ≤ 0 → ∀ p, H p = none → Q (.ref p) (upd H p (.tup []))) ∧ (xs ≠ [] → 2 ≤ k → ∀ p, H p = none → Q (.ref p) (upd H p (.tup (List.replicate k.toNat xs).flatten)))
theorem op_repTA : OpR X (binaryOp .Mult) (rRepTA X.K) := by
  intro pins s σ H x y v u Q I rx ry h
  obtain ⟨l, k, xs, rfl, rfl, hT, h1, h2, hz, q1, q2, q3⟩ := h
  by_cases big : xs ≠ [] ∧ 2 ≤ k
  · exact op_repT pins s σ H _ _ v u Q I rx ry ⟨l, k, xs, rfl, rfl, hT, big.1, big.2, h2, hz, q3 big.1 big.2⟩
  cases rx
  obtain ⟨t, rfl⟩ := ry
  obtain ⟨its, r, ⟨⟨cls, dd, data, sl⟩, ho, hc, n, hd⟩, hs⟩ := I.tuple hT
  simp only at hc hd
  subst hc hd
  have hle : its.length = xs.length := r.length.symm
  have c0 : (decide (k < -(2 ^ 63)) || decide (k ≥ 2 ^ 63)) = false := by
    rw [decide_eq_false (by omega), decide_eq_false (by omega)] <;> rfl
  have road : ∀ {R : Value → Shared → Prop}, wpAny (model X.prog X.w) X.A (call (.builtin "tuple.__mul__") [.ref l, .int k t]) R X.xe s → wpAny (model X.prog X.w) X.A (binaryOp .Mult (.ref l) (.int k t)) R X.xe s := fun {R} hq =>
    wpAny_binaryOp_repeat_ref (T := "tuple") (U := "int") (by decide) ⟨_, ho, rfl⟩ (fun s' => typeIs_int s' k t) noFill_tuple_mul F.fills_int_mul F.slot_int_rmul repeat_tuple F.slot_int_index.lookup
      (call_meets F.slot_int_rmul (typeIs_int s k t) F.entry_int_rmul (F.args_int_rmul_2 _ _) (int_rmul_tuple k t l its.toArray n dd sl) ⟨ho, rfl, ⟨_, ho, rfl⟩, hq⟩)
  have emp : its.toArray.isEmpty = decide (xs = []) := by
    cases its with
    | nil =>
      have : xs = [] := List.eq_nil_of_length_eq_zero hle.symm
      rw [this]; rfl
    | cons a b =>
      have : xs ≠ [] := fun e => by rw [e] at hle; simp at hle
      rw [decide_eq_false this]; rfl
  by_cases e1 : xs = [] ∨ k = 1
  · have c1 : (its.toArray.isEmpty || k == 1) = true := by
      rw [emp]
      rcases e1 with e | e
      · rw [decide_eq_true e]; rfl
      · rw [e]; simp
    exact road (call_meets F.slot_tuple_mul ⟨_, ho, rfl⟩ F.entry_tuple_mul (F.args_tuple_mul_2 _ _) (tuple_mul1 l its.toArray n dd sl k t c0 c1) ⟨ho, ⟨.ref l, H, I, rfl, q1 e1⟩⟩)
  · have n1 : xs ≠ [] := fun e => e1 (.inl e)
    have n2 : k ≠ 1 := fun e => e1 (.inr e)
    have n3 : k ≤ 0 := by
      have : ¬ 2 ≤ k := fun z => big ⟨n1, z⟩
      omega
    have c1 : (its.toArray.isEmpty || k == 1) = false := by
      rw [emp, decide_eq_false n1, Bool.false_or]
      exact beq_eq_false_iff_ne.mpr n2
    have c2 : (decide (k ≤ 0) || its.toArray.isEmpty) = true := by
      rw [decide_eq_true n3]; rfl
    refine road (call_meets F.slot_tuple_mul ⟨_, ho, rfl⟩ F.entry_tuple_mul (F.args_tuple_mul_2 _ _) (tuple_mul0 l its.toArray n dd sl k t c0 c1 c2) ⟨ho, ?_⟩)
    refine ⟨.ref s.heap.objs.size, _, I.laid (t' := s.toks) (o := .tup []) (fun b ob q => Heap.get?_push_of_some _ q) (Nat.le_refl _) ?_, rfl, q2 n1 n3 _ (I.hok.fresh (Nat.le_refl _))⟩
    exact ⟨Nat.zero_le _, [], .nil, IsTup.new _ _⟩
theorem mul_repS (z : Str) (k : Int) : Txt.mul z k = repS z k.toNat := by
  unfold Txt.mul repS
  by_cases h1 : k < 1
  · rw [if_pos h1, show k.toNat = 0 by omega]
    rfl
  · rw [if_neg h1]
    by_cases h2 : (k == 1 || z.length == 0) = true
    · rw [if_pos h2]
      rcases Bool.or_eq_true_iff.mp h2 with e | e
      · have e : k = 1 := by simpa using e
        rw [e]
        simp
      · have e0 : z.cps.toList = [] := by
          have : z.cps.size = 0 := by simpa [Str.length] using e
          exact List.eq_nil_of_length_eq_zero (by simpa using this)
        rw [e0]
        have e2 : (List.replicate k.toNat ([] : List Nat)).flatten = [] := by simp
        rw [e2]
        have e3 : z.cps = #[] := Array.toList_inj.mp (by rw [e0])
        rw [show z = ⟨z.cps⟩ from rfl, e3]
    · rw [if_neg h2]
      have h := size_rep
      congr 1
      have : ∀ (m : Nat), (List.foldl (fun x1 x2 => x1 ++ x2) #[] (List.replicate m z.cps)) = (List.replicate m z.cps.toList).flatten.toArray := fun m => by
        induction m with
        | zero => rfl
        | succ m ih =>
          rw [List.replicate_succ', List.foldl_append, ih, List.replicate_succ', List.flatten_append]
          simp
      exact this _
theorem strOk_iff {x : Str} : PyData.strOk x = true ↔ ∀ c ∈ x.cps.toList, c < 0x110000 := by
  unfold PyData.strOk
  rw [Array.all_eq_true']
  simp
theorem repS_len (x : Str) (n : Nat) : (repS x n).length = n * x.length := by
  show (repS x n).cps.size = _
  unfold repS
  rw [List.size_toArray]
  induction n with
  | zero => simp
  | succ n ih =>
    rw [List.replicate_succ, List.flatten_cons, List.length_append, ih, Nat.succ_mul, Nat.add_comm]
    rfl
theorem okS_rep {x : Str} {n : Nat} (h : okS x = true) (hl : n * x.length ≤ sizeLine) : okS (repS x n) = true :=
  okS.mk (by rw [repS_len]; exact hl) (strOk_iff.mpr fun c hc => by
    have h2 := strOk_iff.mp (okS.st h)
    unfold repS at hc
    simp only [List.mem_flatten, List.mem_replicate] at hc
    obtain ⟨l, ⟨_, e⟩, hc⟩ := hc
    rw [e] at hc
    exact h2 c hc)
@[simp] def mulD : D → D → Option D
  | .int i, .int j => if i.natAbs.log2 + j.natAbs.log2 < 100000000 then some (.int (i * j)) else none
  | .str x, .int k => if k ≤ 10000000 ∧ -10000000 ≤ k ∧ k.toNat * x.length ≤ sizeLine then some (.str (repS x k.toNat)) else none
  | .list xs, .int k => if k ≤ 10000000 ∧ -10000000 ≤ k ∧ xs.length * k.toNat ≤ sizeLine then some (.list (List.replicate k.toNat xs).flatten) else none
  | .tuple xs, .int k => if k ≤ 1000 ∧ -1000 ≤ k ∧ xs.length ≤ 1000 then some (.tuple (List.replicate k.toNat xs).flatten) else none
  | _, _ => none
abbrev rMulA (K : Fg) : R2 := fun x y H Q => rI CMulB (fun i j => .int (i * j)) x y H Q ∨ rRepS x y H Q ∨ rRep x y H Q ∨ rRepTA K x y H Q
theorem op2_mul {K : Fg} : Op2 K (rMulA K) mulD := by
  intro G H x y a b Q e ax ay h
  unfold mulD at h
  split at h
  · split at h
    · rename_i hl
      cases ax; cases ay
      exact .inl ⟨_, _, rfl, rfl, hl, h.val e (.int _)⟩
    · exact h.elim
  · split at h
    · rename_i z k hl
      obtain ⟨h1, h2, h3⟩ := hl
      cases ax with
      | str _ hx =>
        cases ay
        refine .inr (.inl ⟨_, _, rfl, rfl, ⟨?_, fun n1 n2 => ?_, fun n1 n2 => ?_⟩, ?_⟩)
        · rw [decide_eq_false (by omega), decide_eq_false (by omega)] <;> rfl
        · intro z2
          have hk : (0 : Int) < k := by omega
          have h4 : ((2 : Int) ^ 63 - 1) / k * k ≤ 2 ^ 63 - 1 := Int.ediv_mul_le _ (by omega)
          have h5 : (2 ^ 63 - 1 : Int) < ((2 ^ 63 - 1) / k + 1) * k := Int.lt_ediv_add_one_mul_self _ hk
          have h6 : ((2 ^ 63 - 1 : Int) / k + 1) * k ≤ (z.length : Int) * k := Int.mul_le_mul_of_nonneg_right (by omega) (by omega)
          have h7 : (z.length : Int) * k = ((k.toNat * z.length : Nat) : Int) := by
            rw [Int.natCast_mul, Int.toNat_of_nonneg (by omega), Int.mul_comm]
          have h8 : k.toNat * z.length ≤ 16777216 := by rw [← sizeLine_eq]; exact h3
          omega
        · unfold Builtin.Str.tooLong
          exact decide_eq_false (by rw [Nat.mul_comm]; omega)
        · rw [mul_repS]
          exact h.val e (.str _ (okS_rep hx h3))
    · exact h.elim
  · split at h
    · rename_i z k hl
      obtain ⟨h1, h2, h3⟩ := hl
      cases ax with
      | lst g1 g2 =>
        cases ay
        exact .inr (.inr (.inl ⟨_, _, _, rfl, rfl, e _ _ g1, by omega, by omega, by rw [g2.length]; exact h3, h.lst e (g2.rep _)⟩))
    · exact h.elim
  · split at h
    · rename_i z k hl
      obtain ⟨h1, h2, h3⟩ := hl
      cases ax with
      | tup g1 g2 =>
        cases ay
        refine .inr (.inr (.inr ⟨_, _, _, rfl, rfl, ex_t e g1, h2, h1, by rw [g2.length]; exact h3, fun z => ?_, fun n1 n2 => ?_, fun _ _ => h.tup e (g2.rep _)⟩))
        · refine h.val e ?_
          rcases z with z | z
          · subst z
            cases g2
            have e2 : (List.replicate k.toNat ([] : List D)).flatten = [] := by simp
            rw [e2]
            exact .tup g1 .nil
          · subst z
            simpa using At.tup g1 g2
        · have e0 : k.toNat = 0 := by omega
          rw [e0] at h
          exact h.tup e .nil
    · exact h.elim
  · exact h.elim
theorem opr_mul : OpR X (binaryOp .Mult) (rMulA X.K) := op_mulB.or (op_repS.or (op_rep.or op_repTA))
theorem ed_mul {a b : Expr} {fa fb : EF} {pos : Pos} (ha : ED X W a fa) (hb : ED X W b fb) : ED X W (.BinOp a .Mult b pos) (eOp mulD fa fb) := ed_op opr_mul op2_mul ha hb
end
end Pd
end

section
/-! Pd, part 4: in, is, isinstance, built-in functions, subscripts, slices, displays. -/
namespace Pd
open PySem L2 Evl PyProof.Rows
section
variable {X : Cx} {W : WX}

/-! ### in -/
def inL (x : D) (ds : List D) : Bool := ds.any fun z => PyData.eqv z x
def inS (x z : Str) : Bool := !(Builtin.Str.occurrences z x 0 z.length 1).isEmpty
def inD : D → D → Option D
  | x, .list ds => if x.depth ≤ 64 ∧ PyData.depthAll ds ≤ 63 then some (.bool (inL x ds)) else none
  | x, .tuple ds => if x.depth ≤ 64 ∧ PyData.depthAll ds ≤ 63 then some (.bool (inL x ds)) else none
  | .str x, .str z => some (.bool (inS x z))
  | _, _ => none
def ninD : D → D → Option D
  | x, .list ds => if x.depth ≤ 64 ∧ PyData.depthAll ds ≤ 63 then some (.bool (!inL x ds)) else none
  | x, .tuple ds => if x.depth ≤ 64 ∧ PyData.depthAll ds ≤ 63 then some (.bool (!inL x ds)) else none
  | .str x, .str z => some (.bool (!inS x z))
  | _, _ => none
@[simp] theorem inD_l (x : D) (ds : List D) : inD x (.list ds) = if x.depth ≤ 64 ∧ PyData.depthAll ds ≤ 63 then some (.bool (inL x ds)) else none := by cases x <;> rfl
@[simp] theorem inD_t (x : D) (ds : List D) : inD x (.tuple ds) = if x.depth ≤ 64 ∧ PyData.depthAll ds ≤ 63 then some (.bool (inL x ds)) else none := by cases x <;> rfl
@[simp] theorem inD_s (x z : Str) : inD (.str x) (.str z) = some (.bool (inS x z)) := rfl
@[simp] theorem ninD_l (x : D) (ds : List D) : ninD x (.list ds) = if x.depth ≤ 64 ∧ PyData.depthAll ds ≤ 63 then some (.bool (!inL x ds)) else none := by cases x <;> rfl
@[simp] theorem ninD_t (x : D) (ds : List D) : ninD x (.tuple ds) = if x.depth ≤ 64 ∧ PyData.depthAll ds ≤ 63 then some (.bool (!inL x ds)) else none := by cases x <;> rfl
@[simp] theorem ninD_s (x z : Str) : ninD (.str x) (.str z) = some (.bool (!inS x z)) := rfl
def rInT (K : Fg) : R2 := fun x y H Q => ∃ d ds, Dp K H x d ∧ Dp K H y (.tuple ds) ∧ SeqAt.shaped d = true ∧ SeqAt.shaped (.tuple ds) = true ∧ Q (.bl (ds.any fun z => PyData.eqv z d)) H
def rNInT (K : Fg) : R2 := fun x y H Q => ∃ d ds, Dp K H x d ∧ Dp K H y (.tuple ds) ∧ SeqAt.shaped d = true ∧ SeqAt.shaped (.tuple ds) = true ∧ Q (.bl (!ds.any fun z => PyData.eqv z d)) H
theorem room_in {A : Around} {ds : List D} {d : D} (sd : SeqAt.shaped d = true) (hu : A.units + 65 < cLine) : A.units + 1 + min (PyData.depthAll ds) d.depth < cLine := by
  have h1 := SeqAt.depth_of_shaped sd
  have h2 : min (PyData.depthAll ds) d.depth ≤ d.depth := Nat.min_le_right _ _
  omega
theorem op_inT (hu : X.A.units + 65 < cLine) : OpR X (compareOp .In) (rInT X.K) := by
  intro pins s σ H x y v u Q I rx ry h
  obtain ⟨d, ds, hd, he, sd, se, q⟩ := h
  obtain ⟨as, r1⟩ := Dp.reads I d x v hd rx
  obtain ⟨bs, r2⟩ := Dp.reads I (.tuple ds) y u he ry
  exact SeqAt.in_tuple_reads r2 r1 (by have := SeqAt.canLay_of_shaped se; simpa [PyData.canLay0] using this) (SeqAt.canLay_of_shaped sd) (room_in sd hu) ⟨.bl _, H, I, rfl, q⟩
theorem op_ninT (hu : X.A.units + 65 < cLine) : OpR X (compareOp .NotIn) (rNInT X.K) := by
  intro pins s σ H x y v u Q I rx ry h
  obtain ⟨d, ds, hd, he, sd, se, q⟩ := h
  obtain ⟨as, r1⟩ := Dp.reads I d x v hd rx
  obtain ⟨bs, r2⟩ := Dp.reads I (.tuple ds) y u he ry
  exact SeqAt.notIn_tuple_reads r2 r1 (by have := SeqAt.canLay_of_shaped se; simpa [PyData.canLay0] using this) (SeqAt.canLay_of_shaped sd) (room_in sd hu) ⟨.bl _, H, I, rfl, q⟩
abbrev rInS : R2 := fun x y H Q => ∃ i j, x = .str i ∧ y = .str j ∧ Q (.bl (!(Builtin.Str.occurrences j i 0 j.length 1).isEmpty)) H
abbrev rNInS : R2 := fun x y H Q => ∃ i j, x = .str i ∧ y = .str j ∧ Q (.bl (!(!(Builtin.Str.occurrences j i 0 j.length 1).isEmpty))) H
theorem op2_in {K : Fg} : Op2 K (fun x y H Q => rInD K x y H Q ∨ rInT K x y H Q ∨ rInS x y H Q) inD := by
  intro G H x y a b Q e ax ay h
  unfold inD at h
  split at h
  · split at h
    · rename_i ds hl
      exact .inl ⟨a, ds, At.dp' e a x ax, At.dp' e _ y ay, ax.shaped hl.1, ay.shaped (by simp only [PyData.depth]; omega), h.val e (.bl _)⟩
    · exact h.elim
  · split at h
    · rename_i ds hl
      exact .inr (.inl ⟨a, ds, At.dp' e a x ax, At.dp' e _ y ay, ax.shaped hl.1, ay.shaped (by simp only [PyData.depth]; omega), h.val e (.bl _)⟩)
    · exact h.elim
  · cases ax; cases ay
    exact .inr (.inr ⟨_, _, rfl, rfl, h.val e (.bl _)⟩)
  · exact h.elim
theorem op2_nin {K : Fg} : Op2 K (fun x y H Q => rNotInD K x y H Q ∨ rNInT K x y H Q ∨ rNInS x y H Q) ninD := by
  intro G H x y a b Q e ax ay h
  unfold ninD at h
  split at h
  · split at h
    · rename_i ds hl
      exact .inl ⟨a, ds, At.dp' e a x ax, At.dp' e _ y ay, ax.shaped hl.1, ay.shaped (by simp only [PyData.depth]; omega), h.val e (.bl _)⟩
    · exact h.elim
  · split at h
    · rename_i ds hl
      exact .inr (.inl ⟨a, ds, At.dp' e a x ax, At.dp' e _ y ay, ax.shaped hl.1, ay.shaped (by simp only [PyData.depth]; omega), h.val e (.bl _)⟩)
    · exact h.elim
  · cases ax; cases ay
    exact .inr (.inr ⟨_, _, rfl, rfl, h.val e (.bl _)⟩)
  · exact h.elim
theorem opr_in (hu : X.A.units + 65 < cLine) : OpR X (compareOp .In) (fun x y H Q => rInD X.K x y H Q ∨ rInT X.K x y H Q ∨ rInS x y H Q) := (op_inD hu).or ((op_inT hu).or op_in_str)
theorem opr_nin (hu : X.A.units + 65 < cLine) : OpR X (compareOp .NotIn) (fun x y H Q => rNotInD X.K x y H Q ∨ rNInT X.K x y H Q ∨ rNInS x y H Q) := (op_notInD hu).or ((op_ninT hu).or op_notin_str)

/-! ### order, is -/
theorem le_flip {x y : List Nat} : (!decide (y < x)) = decide (x ≤ y) := by
  have h : (¬ y < x) ↔ x ≤ y := List.not_lt
  by_cases q : y < x
  · rw [decide_eq_true q, decide_eq_false (fun z => h.mpr z q)]; rfl
  · rw [decide_eq_false q, decide_eq_true (h.mp q)]; rfl
def isNonD : D → D → Option D
  | .none, .none => some (.bool true)
  | _, .none => some (.bool false)
  | _, _ => none
def notNonD : D → D → Option D
  | .none, .none => some (.bool false)
  | _, .none => some (.bool true)
  | _, _ => none
@[simp] theorem isNon_n : isNonD .none .none = some (.bool true) := rfl
@[simp] theorem isNon_t (xs : List D) : isNonD (.tuple xs) .none = some (.bool false) := rfl
@[simp] theorem isNon_l (xs : List D) : isNonD (.list xs) .none = some (.bool false) := rfl
@[simp] theorem isNon_s (x : Str) : isNonD (.str x) .none = some (.bool false) := rfl
@[simp] theorem isNon_i (x : Int) : isNonD (.int x) .none = some (.bool false) := rfl
@[simp] theorem isNon_b (x : Bool) : isNonD (.bool x) .none = some (.bool false) := rfl
@[simp] theorem nnon_n : notNonD .none .none = some (.bool false) := rfl
@[simp] theorem nnon_t (xs : List D) : notNonD (.tuple xs) .none = some (.bool true) := rfl
@[simp] theorem nnon_l (xs : List D) : notNonD (.list xs) .none = some (.bool true) := rfl
@[simp] theorem nnon_s (x : Str) : notNonD (.str x) .none = some (.bool true) := rfl
@[simp] theorem nnon_i (x : Int) : notNonD (.int x) .none = some (.bool true) := rfl
@[simp] theorem nnon_b (x : Bool) : notNonD (.bool x) .none = some (.bool true) := rfl
@[simp] theorem isNon_k (x : List (D × D)) : isNonD (.dict x) .none = some (.bool false) := rfl
@[simp] theorem nnon_k (x : List (D × D)) : notNonD (.dict x) .none = some (.bool true) := rfl
theorem At.isNon {K : Fg} {G : Hp} {v : V} {d : D} (h : At K G v d) : decide (v = .non) = match d with | .none => true | _ => false := by cases h <;> rfl
theorem op2_isN {K : Fg} : Op2 K (fun x y H Q => y = .non ∧ Q (.bl (decide (x = .non))) H) isNonD := by
  intro G H x y a b Q e ax ay h
  unfold isNonD at h
  split at h
  · cases ax; cases ay
    exact ⟨rfl, h.val e (.bl _)⟩
  · cases ay
    refine ⟨rfl, ?_⟩
    rw [ax.isNon]
    cases ax with
    | non => rename_i q; exact (q rfl).elim
    | _ => exact h.val e (.bl _)
  · exact h.elim
theorem op2_notN {K : Fg} : Op2 K (fun x y H Q => y = .non ∧ Q (.bl (!decide (x = .non))) H) notNonD := by
  intro G H x y a b Q e ax ay h
  unfold notNonD at h
  split at h
  · cases ax; cases ay
    exact ⟨rfl, h.val e (.bl _)⟩
  · cases ay
    refine ⟨rfl, ?_⟩
    rw [ax.isNon]
    cases ax with
    | non => rename_i q; exact (q rfl).elim
    | _ => exact h.val e (.bl _)
  · exact h.elim
@[simp] def isBoolD : D → D → Option D
  | .bool a, .bool b => some (.bool (decide (a = b)))
  | _, _ => none
@[simp] def notBoolD : D → D → Option D
  | .bool a, .bool b => some (.bool (!decide (a = b)))
  | _, _ => none
theorem op2_isB {K : Fg} : Op2 K rIsB isBoolD := by
  intro G H x y a b Q e ax ay h
  unfold isBoolD at h
  split at h
  · cases ax; cases ay
    exact ⟨_, _, rfl, rfl, h.val e (.bl _)⟩
  · exact h.elim
theorem op2_notB {K : Fg} : Op2 K rNotB notBoolD := by
  intro G H x y a b Q e ax ay h
  unfold notBoolD at h
  split at h
  · cases ax; cases ay
    exact ⟨_, _, rfl, rfl, h.val e (.bl _)⟩
  · exact h.elim

/-! ### lists of expressions -/
@[simp] def aNil : AF := fun ρ => .ok ([], ρ)
@[simp] def aCons (f : EF) (g : AF) : AF := fun ρ => f ρ >>= fun a => g a.2 >>= fun b => .ok (a.1 :: b.1, b.2)
theorem ad_nil : AD X W [] aNil := ⟨_, pa_nil, fun G H σ ρ Q a h => Wh.here (P := QA X.K Q) h a [] .nil⟩
theorem ad_cons {e : Expr} {es : List Expr} {f : EF} {g : AF} (hs : starEach (e :: es) X.env = (false, eval e X.env) :: starEach es X.env := by rfl) : ED X W e f → AD X W es g → AD X W (e :: es) (aCons f g)
  | ⟨_, p, r⟩, ⟨_, q, s⟩ => ⟨_, pa_cons p q hs, fun G H σ ρ Q a h => r.use a (P := QA X.K Q) h fun d ρ1 v G1 H1 a1 af1 at1 h1 => s.use a1 (P := QA X.K Q) h1 fun ds ρ2 vs G2 H2 a2 af2 at2 h2 =>
    Wh.here (P := QA X.K Q) h2 a2 (v :: vs) (.cons (at1.up af2.st.ex) at2)⟩
/-- (a, b, ..), [a, b, ..] as data -/
@[simp] def eTup (f : AF) : EF := fun ρ => f ρ >>= fun r => if r.1.length ≤ 1000 then .ok (.tuple r.1, r.2) else .bad
@[simp] def eLst (f : AF) : EF := fun ρ => f ρ >>= fun r => if r.1.length ≤ 1000 then .ok (.list r.1, r.2) else .bad
theorem sz1000 {n : Nat} (h : n ≤ 1000) : n ≤ sizeLine := by rw [sizeLine_eq]; omega
theorem ed_tup {es : List Expr} {f : AF} {x1 pos} : AD X W es f → ED X W (.Tuple es x1 pos) (eTup f)
  | ⟨_, p, r⟩ => ⟨_, pe_tup p, fun G H σ ρ Q a h => r.use a (P := QE X.K Q) h fun ds ρ1 vs G1 H1 a1 af1 at1 h1 => by
    by_cases hl : ds.length ≤ 1000
    · simp only [hl, if_true] at h1
      refine ⟨by rw [at1.length]; exact sz1000 hl, fun p hp => ?_⟩
      exact h1 (upd G1 p (.tup vs)) _ (Af.grow a1 (Stp.new a1.ex hp) (ex_upd2 a1.ex)) _ (.tup (st_of upd_same) (at1.up (Ex.new (fresh_back a1.ex hp))))
    · simp only [hl, if_false] at h1
      exact h1.elim⟩
theorem ed_lst {es : List Expr} {f : AF} {pos} : AD X W es f → ED X W (.List es pos) (eLst f)
  | ⟨_, p, r⟩ => ⟨_, pe_lst p, fun G H σ ρ Q a h => r.use a (P := QE X.K Q) h fun ds ρ1 vs G1 H1 a1 af1 at1 h1 => by
    by_cases hl : ds.length ≤ 1000
    · simp only [hl, if_true] at h1
      refine ⟨by rw [at1.length]; exact sz1000 hl, fun p hp => ?_⟩
      exact h1 (upd G1 p (.lst vs)) _ (Af.grow a1 (Stp.new a1.ex hp) (ex_upd2 a1.ex)) _ (.lst upd_same (at1.up (Ex.new (fresh_back a1.ex hp))))
    · simp only [hl, if_false] at h1
      exact h1.elim⟩

/-! ### built-in functions -/
def OpC (K : Fg) (r : List V → Hp → VK → Prop) (f : List D → Option D) : Prop := ∀ (G H : Hp) (vs : List V) (ds : List D) (Q : VK), Ex G H → AtL K G vs ds → Pw K G H (f ds) Q → r vs H Q
@[simp] def eCall (f : List D → Option D) (g : AF) : EF := fun ρ => g ρ >>= fun r => li (f r.1) >>= fun d => .ok (d, r.2)
theorem rd_cb {r : List V → Hp → VK → Prop} {f : List D → Option D} {t : TA} {g : AF} (o : OpC X.K r f) (s : RdA X W t g) : RdE X W (tCB r t) (eCall f g) := fun G H σ ρ Q a h =>
  s.use a (P := QE X.K Q) h fun ds ρ1 vs G1 H1 a1 af1 at1 h1 => o G1 H1 vs ds Q a1.ex at1 (h1.pw a1)
theorem ed_callB {x : Str} {p pos : Pos} {e : Expr} {es : List Expr} {id : String} {r : List V → Hp → VK → Prop} {f : List D → Option D} {g : AF} (hc : CallR X (.builtin id) r) (o : OpC X.K r f) (hg : Gl X x) (hm : X.mg x = none) (hv : bootBuiltins x = some (.builtin id) := by decide +kernel)
    (hn : x ≠ "__name__" := by decide) (hdb : (x == ("__debug__" : Str)) = false := by decide) (he : starEach (e :: es) X.env = (false, eval e X.env) :: starEach es X.env := by rfl) (hpl : (backTo pos (starEach es X.env)).any (·.1) = false := by rfl) :
    AD X W (e :: es) g → ED X W (.Call (.Name x p) (e :: es) [] pos) (eCall f g)
  | ⟨_, q, s⟩ => ⟨_, pe_callB hc hg hm hv q hn hdb he hpl, rd_cb o s⟩
theorem ed_callT {x : Str} {p pos : Pos} {e : Expr} {es : List Expr} {T : String} {r : List V → Hp → VK → Prop} {f : List D → Option D} {g : AF} (hc : CallR X (.type T) r) (o : OpC X.K r f) (hg : Gl X x) (hm : X.mg x = none) (hv : bootBuiltins x = some (.type T) := by decide +kernel)
    (hn : x ≠ "__name__" := by decide) (hdb : (x == ("__debug__" : Str)) = false := by decide) (he : starEach (e :: es) X.env = (false, eval e X.env) :: starEach es X.env := by rfl) (hpl : (backTo pos (starEach es X.env)).any (·.1) = false := by rfl) :
    AD X W (e :: es) g → ED X W (.Call (.Name x p) (e :: es) [] pos) (eCall f g)
  | ⟨_, q, s⟩ => ⟨_, pe_callTy hc hg hm hv q hn hdb he hpl, rd_cb o s⟩
theorem AtL.one {K : Fg} {G : Hp} {vs : List V} {d : D} (h : AtL K G vs [d]) : ∃ v, vs = [v] ∧ At K G v d := by
  cases h with
  | cons h1 h2 => cases h2; exact ⟨_, rfl, h1⟩
theorem AtL.two {K : Fg} {G : Hp} {vs : List V} {d e : D} (h : AtL K G vs [d, e]) : ∃ v w, vs = [v, w] ∧ At K G v d ∧ At K G w e := by
  cases h with
  | cons h1 h2 =>
    cases h2 with
    | cons h3 h4 => cases h4; exact ⟨_, _, rfl, h1, h3⟩
def lenD : List D → Option D
  | [.list xs] => some (.int xs.length)
  | [.tuple xs] => some (.int xs.length)
  | [.str x] => some (.int x.length)
  | _ => none
@[simp] theorem lenD_l (xs : List D) : lenD [.list xs] = some (.int xs.length) := rfl
@[simp] theorem lenD_t (xs : List D) : lenD [.tuple xs] = some (.int xs.length) := rfl
@[simp] theorem lenD_s (x : Str) : lenD [.str x] = some (.int x.length) := rfl
theorem opc_len {K : Fg} : OpC K (fun xs H Q => ∃ x n, xs = [x] ∧ LenV K x H n ∧ Q (.int n) H) lenD := by
  intro G H vs ds Q e a h
  unfold lenD at h
  split at h
  · obtain ⟨v, rfl, a'⟩ := a.one
    cases a' with
    | lst h1 h2 => exact ⟨_, _, rfl, .inl ⟨_, sq_of (e _ _ h1), rfl⟩, by rw [h2.length]; exact h.val e (.int _)⟩
  · obtain ⟨v, rfl, a'⟩ := a.one
    cases a' with
    | tup h1 h2 => exact ⟨_, _, rfl, .inr ⟨_, ex_t e h1, rfl⟩, by rw [h2.length]; exact h.val e (.int _)⟩
  · obtain ⟨v, rfl, a'⟩ := a.one
    cases a' with
    | str _ h1 => exact ⟨_, _, rfl, ⟨okS.len h1, rfl⟩, h.val e (.int _)⟩
  · exact h.elim
@[simp] def absD : List D → Option D
  | [.int i] => some (.int (if i < 0 then -i else i))
  | _ => none
theorem opc_abs {K : Fg} : OpC K (fun xs H Q => ∃ i, xs = [.int i] ∧ Q (.int (if i < 0 then -i else i)) H) absD := by
  intro G H vs ds Q e a h
  unfold absD at h
  split at h
  · obtain ⟨v, rfl, a'⟩ := a.one
    cases a'
    exact ⟨_, rfl, h.val e (.int _)⟩
  · exact h.elim
@[simp] def intOf : List D → Option D
  | [.int i] => some (.int i)
  | [.bool b] => some (.int (if b then 1 else 0))
  | _ => none
theorem opc_int {K : Fg} : OpC K (fun xs H Q => (∃ i, xs = [.int i] ∧ Q (.int i) H) ∨ ∃ k, xs = [.bl k] ∧ Q (.int (if k then 1 else 0)) H) intOf := by
  intro G H vs ds Q e a h
  unfold intOf at h
  split at h
  · obtain ⟨v, rfl, a'⟩ := a.one
    cases a'
    exact .inl ⟨_, rfl, h.val e (.int _)⟩
  · obtain ⟨v, rfl, a'⟩ := a.one
    cases a'
    exact .inr ⟨_, rfl, h.val e (.int _)⟩
  · exact h.elim
@[simp] def listOf : List D → Option D
  | [.list xs] => some (.list xs)
  | [.tuple xs] => some (.list xs)
  | _ => none
theorem opc_list {K : Fg} : OpC K (fun xs H Q => ∃ p ys, xs = [.ref p] ∧ (SqL K H p ys ∨ SqT K H p ys) ∧ ∀ l, H l = none → Q (.ref l) (upd H l (.lst ys))) listOf := by
  intro G H vs ds Q e a h
  unfold listOf at h
  split at h
  · obtain ⟨v, rfl, a'⟩ := a.one
    cases a' with
    | lst h1 h2 => exact ⟨_, _, rfl, .inl (sq_of (e _ _ h1)), h.lst e h2⟩
  · obtain ⟨v, rfl, a'⟩ := a.one
    cases a' with
    | tup h1 h2 => exact ⟨_, _, rfl, .inr (ex_t e h1), h.lst e h2⟩
  · exact h.elim
@[simp] def tupOf : List D → Option D
  | [.list xs] => some (.tuple xs)
  | [.tuple xs] => some (.tuple xs)
  | _ => none
theorem opc_tup {K : Fg} : OpC K (fun xs H Q => ∃ p ys, xs = [.ref p] ∧ ((SqL K H p ys ∧ ∀ l, H l = none → Q (.ref l) (upd H l (.tup ys))) ∨ (SqT K H p ys ∧ Q (.ref p) H))) tupOf := by
  intro G H vs ds Q e a h
  unfold tupOf at h
  split at h
  · obtain ⟨v, rfl, a'⟩ := a.one
    cases a' with
    | lst h1 h2 => exact ⟨_, _, rfl, .inl ⟨sq_of (e _ _ h1), h.tup e h2⟩⟩
  · obtain ⟨v, rfl, a'⟩ := a.one
    cases a' with
    | tup h1 h2 => exact ⟨_, _, rfl, .inr ⟨ex_t e h1, h.val e (.tup h1 h2)⟩⟩
  · exact h.elim
/-- lists of truth values, of ints, of texts -/
@[simp] def blsOf : List D → Option (List Bool)
  | [] => some []
  | .bool b :: r => (blsOf r).map (b :: ·)
  | _ => none
@[simp] def intsOf : List D → Option (List Int)
  | [] => some []
  | .int b :: r => (intsOf r).map (b :: ·)
  | _ => none
@[simp] def strsOf : List D → Option (List Str)
  | [] => some []
  | .str b :: r => (strsOf r).map (b :: ·)
  | _ => none
theorem bls_at {K : Fg} {G : Hp} : ∀ {ds : List D} {vs : List V} {bs : List Bool}, AtL K G vs ds → blsOf ds = some bs → vs = bs.map V.bl
  | [], _, _, .nil, h => by cases h; rfl
  | .bool b :: r, _, _, .cons h1 h2, h => by
    simp only [blsOf, Option.map_eq_some_iff] at h
    obtain ⟨cs, h3, rfl⟩ := h
    cases h1
    rw [bls_at h2 h3]; rfl
theorem ints_at {K : Fg} {G : Hp} : ∀ {ds : List D} {vs : List V} {bs : List Int}, AtL K G vs ds → intsOf ds = some bs → vs = bs.map V.int
  | [], _, _, .nil, h => by cases h; rfl
  | .int b :: r, _, _, .cons h1 h2, h => by
    simp only [intsOf, Option.map_eq_some_iff] at h
    obtain ⟨cs, h3, rfl⟩ := h
    cases h1
    rw [ints_at h2 h3]; rfl
theorem strs_at {K : Fg} {G : Hp} : ∀ {ds : List D} {vs : List V} {bs : List Str}, AtL K G vs ds → strsOf ds = some bs → vs = bs.map V.str ∧ ∀ x ∈ bs, okS x = true
  | [], _, _, .nil, h => by cases h; exact ⟨rfl, fun _ z => nomatch z⟩
  | .str b :: r, _, _, .cons h1 h2, h => by
    simp only [strsOf, Option.map_eq_some_iff] at h
    obtain ⟨cs, h3, rfl⟩ := h
    cases h1 with
    | str _ hx =>
      obtain ⟨e, k⟩ := strs_at h2 h3
      refine ⟨by rw [e]; rfl, fun x hm => ?_⟩
      rcases List.mem_cons.mp hm with q | q
      · rw [q]; exact hx
      · exact k x q
theorem at_ints {K : Fg} {G : Hp} : ∀ ns : List Int, AtL K G (ns.map V.int) (ns.map PyData.int)
  | [] => .nil
  | n :: ns => .cons (.int n) (at_ints ns)
theorem at_strs {K : Fg} {G : Hp} : ∀ ns : List Str, (∀ x ∈ ns, okS x = true) → AtL K G (ns.map V.str) (ns.map PyData.str)
  | [], _ => .nil
  | n :: ns, h => .cons (.str n (h n List.mem_cons_self)) (at_strs ns fun x hx => h x (List.mem_cons_of_mem _ hx))
@[simp] def allD : List D → Option D
  | [.list xs] => (blsOf xs).map fun bs => .bool (bs.all id)
  | _ => none
@[simp] def anyD : List D → Option D
  | [.list xs] => (blsOf xs).map fun bs => .bool (bs.any id)
  | _ => none
theorem opc_all {K : Fg} : OpC K (rAll K) allD := by
  intro G H vs ds Q e a h
  unfold allD at h
  split at h
  · obtain ⟨v, rfl, a'⟩ := a.one
    cases a' with
    | @lst p ws _ h1 h2 =>
      rename_i xs
      cases q : blsOf xs with
      | none => rw [q] at h; exact h.elim
      | some bs =>
        rw [q] at h
        have e2 := bls_at h2 q
        subst e2
        exact ⟨_, bs, rfl, sq_of (e _ _ h1), h.val e (.bl _)⟩
  · exact h.elim
theorem opc_any {K : Fg} : OpC K (rAny K) anyD := by
  intro G H vs ds Q e a h
  unfold anyD at h
  split at h
  · obtain ⟨v, rfl, a'⟩ := a.one
    cases a' with
    | @lst p ws _ h1 h2 =>
      rename_i xs
      cases q : blsOf xs with
      | none => rw [q] at h; exact h.elim
      | some bs =>
        rw [q] at h
        have e2 := bls_at h2 q
        subst e2
        exact ⟨_, bs, rfl, sq_of (e _ _ h1), h.val e (.bl _)⟩
  · exact h.elim
@[simp] def sumD : List D → Option D
  | [.list xs] => (intsOf xs).map fun bs => .int bs.sum
  | _ => none
theorem opc_sum {K : Fg} : OpC K (rSum K) sumD := by
  intro G H vs ds Q e a h
  unfold sumD at h
  split at h
  · obtain ⟨v, rfl, a'⟩ := a.one
    cases a' with
    | @lst p ws _ h1 h2 =>
      rename_i xs
      cases q : intsOf xs with
      | none => rw [q] at h; exact h.elim
      | some bs =>
        rw [q] at h
        have e2 := ints_at h2 q
        subst e2
        exact ⟨_, bs, rfl, sq_of (e _ _ h1), h.val e (.int _)⟩
  · exact h.elim
@[simp] def max2D : List D → Option D
  | [.int i, .int j] => some (.int (if j > i then j else i))
  | _ => none
@[simp] def min2D : List D → Option D
  | [.int i, .int j] => some (.int (if j < i then j else i))
  | _ => none
theorem opc_max2 {K : Fg} : OpC K (fun xs H Q => ∃ i j, xs = [.int i, .int j] ∧ Q (.int (if j > i then j else i)) H) max2D := by
  intro G H vs ds Q e a h
  unfold max2D at h
  split at h
  · obtain ⟨v, w, rfl, a', b'⟩ := a.two
    cases a'; cases b'
    exact ⟨_, _, rfl, h.val e (.int _)⟩
  · exact h.elim
theorem opc_min2 {K : Fg} : OpC K (fun xs H Q => ∃ i j, xs = [.int i, .int j] ∧ Q (.int (if j < i then j else i)) H) min2D := by
  intro G H vs ds Q e a h
  unfold min2D at h
  split at h
  · obtain ⟨v, w, rfl, a', b'⟩ := a.two
    cases a'; cases b'
    exact ⟨_, _, rfl, h.val e (.int _)⟩
  · exact h.elim
end
end Pd
end

section
/-! Pd, part 5: subscripts, slices, isinstance, in a range, minus. -/
namespace Pd
open PySem L2 Evl PyProof.Rows
section
variable {X : Cx} {W : WX}

/-! ### subscripts -/
theorem atI_atl {K : Fg} {G : Hp} {vs : List V} {ds : List D} {i : Int} {d : D} (h : AtL K G vs ds) (e : atI ds i = some d) : ∃ v, atI vs i = some v ∧ At K G v d := by
  unfold atI at e ⊢
  rw [h.length]
  cases q : ixN ds.length i with
  | none => rw [q] at e; cases e
  | some j =>
    rw [q] at e
    exact h.get e
def ixD : D → D → Option D
  | .list xs, .int i => atI xs i
  | .tuple xs, .int i => atI xs i
  | .str x, .int i => (atI x.cps.toList i).map fun c => .str ⟨#[c]⟩
  | _, _ => none
@[simp] theorem ixD_t (xs : List D) (i : Int) : ixD (.tuple xs) (.int i) = atI xs i := rfl
@[simp] theorem ixD_l (xs : List D) (i : Int) : ixD (.list xs) (.int i) = atI xs i := rfl
@[simp] theorem ixD_s (x : Str) (i : Int) : ixD (.str x) (.int i) = (atI x.cps.toList i).map fun c => .str ⟨#[c]⟩ := rfl
theorem mem_of_atI {α : Type} {xs : List α} {i : Int} {v : α} (h : atI xs i = some v) : v ∈ xs := by
  unfold atI at h
  cases q : ixN xs.length i with
  | none => rw [q] at h; cases h
  | some j => rw [q] at h; exact List.mem_of_getElem? h
theorem okS_one {x : Str} (h : okS x = true) {c : Nat} (hc : c ∈ x.cps.toList) : okS ⟨#[c]⟩ = true :=
  okS.mk (by rw [sizeLine_eq]; exact (by decide : (1 : Nat) ≤ 16777216)) (strOk_iff.mpr fun k hk => by
    have : k = c := by simpa using hk
    rw [this]
    exact strOk_iff.mp (okS.st h) c hc)
theorem op2_ix {K : Fg} : Op2 K (rIx K) ixD := by
  intro G H x y a b Q e ax ay h
  unfold ixD at h
  split at h
  · rename_i xs i
    cases q : atI xs i with
    | none => rw [q] at h; exact h.elim
    | some d =>
      rw [q] at h
      cases ax with
      | lst h1 h2 =>
        cases ay
        obtain ⟨v, hv, av⟩ := atI_atl h2 q
        exact .inl ⟨_, _, _, v, rfl, rfl, sq_of (e _ _ h1), hv, h.val e av⟩
  · rename_i xs i
    cases q : atI xs i with
    | none => rw [q] at h; exact h.elim
    | some d =>
      rw [q] at h
      cases ax with
      | tup h1 h2 =>
        cases ay
        obtain ⟨v, hv, av⟩ := atI_atl h2 q
        exact .inr (.inl ⟨_, _, _, v, rfl, rfl, ex_t e h1, hv, h.val e av⟩)
  · rename_i x' i
    cases q : atI x'.cps.toList i with
    | none => rw [q] at h; exact h.elim
    | some c =>
      rw [q] at h
      cases ax with
      | str _ h1 =>
        cases ay
        exact .inr (.inr ⟨_, _, c, rfl, rfl, okS.len h1, q, h.val e (.str _ (okS_one h1 (mem_of_atI q)))⟩)
  · exact h.elim
theorem ed_ix {a b : Expr} {fa fb : EF} {pos : Pos} (hs : PlainIx b := by intro _ _; rfl) : ED X W a fa → ED X W b fb → ED X W (.Subscript a b pos) (eOp ixD fa fb)
  | ⟨_, pa, ra⟩, ⟨_, pb, rb⟩ => ⟨_, pe_ix ix_seq pa pb hs, rd_op op2_ix ra rb⟩

/-! ### slices -/
def cutL {α : Type} (xs : List α) (lo hi : Option Int) : List α := (xs.drop (HT.sIx xs.length 0 lo)).take (HT.sIx xs.length xs.length hi - HT.sIx xs.length 0 lo)
theorem AtL.cut {K : Fg} {G : Hp} {vs : List V} {ds : List D} (h : AtL K G vs ds) (lo hi : Option Int) : AtL K G (cutV vs lo hi) (cutL ds lo hi) := by
  unfold cutV cutL
  rw [h.length]
  exact (h.drop _).take _
def slD (x : D) (lo hi : Option Int) : Option D := match x with
  | .list xs => some (.list (cutL xs lo hi))
  | .tuple xs => some (.tuple (cutL xs lo hi))
  | .str x => some (.str (cutS x lo hi))
  | _ => none
@[simp] theorem slD_l (xs : List D) (lo hi : Option Int) : slD (.list xs) lo hi = some (.list (cutL xs lo hi)) := rfl
@[simp] theorem slD_t (xs : List D) (lo hi : Option Int) : slD (.tuple xs) lo hi = some (.tuple (cutL xs lo hi)) := rfl
@[simp] theorem slD_s (x : Str) (lo hi : Option Int) : slD (.str x) lo hi = some (.str (cutS x lo hi)) := rfl
abbrev OF := List Sl → R (Option Int × List Sl)
@[simp] def oNo : OF := fun ρ => .ok (none, ρ)
@[simp] def oSome (f : EF) : OF := fun ρ => f ρ >>= fun r => match r.1 with
  | .int i => .ok (some i, r.2)
  | _ => .bad
def RdO (X : Cx) (W : WX) (t : TO) (F : OF) : Prop := ∀ (G H : Hp) (σ : L2.St) (ρ : List Sl) (Q : Option Int → Hp → Prop), AtE X.K G H σ ρ → Wh X W σ G H ρ (fun o _ H' => Q o H') (F ρ) → t σ H Q
def OD (X : Cx) (W : WX) (e : Option Expr) (F : OF) : Prop := ∃ t, PO X e t ∧ RdO X W t F
theorem RdO.use {α : Type} {σ : L2.St} {G H : Hp} {ρ : List Sl} {t : TO} {F : OF} (ra : RdO X W t F) (a : AtE X.K G H σ ρ) {P : α → Hp → Hp → Prop} {k : Option Int × List Sl → R (α × List Sl)} {C : Option Int → Hp → Prop} (h : Wh X W σ G H ρ P (F ρ >>= k))
    (c : ∀ b ρ1 G1 H1, AtE X.K G1 H1 σ ρ1 → Af X.K σ G H ρ G1 H1 ρ1 → Wh X W σ G1 H1 ρ1 P (k (b, ρ1)) → C b H1) : t σ H C :=
  ra G H σ ρ C a (wp_mono (wp_bind.mp h) (fun r hr G1 H1 af => c r.1 r.2 G1 H1 af.en af (Wh.trans hr af)) fun _ q => q)
theorem od_none : OD X W none oNo := ⟨_, po_none, fun G H σ ρ Q a h => Wh.here (P := fun o _ H' => Q o H') h a⟩
theorem od_some {e : Expr} {f : EF} : ED X W e f → OD X W (some e) (oSome f)
  | ⟨_, p, r⟩ => ⟨_, po_some p, fun G H σ ρ Q a h => r.use a (P := fun o _ H' => Q o H') h fun d ρ1 v G1 H1 a1 af1 at1 h1 => by
    cases at1 with
    | int i => exact ⟨i, rfl, Wh.here (P := fun o _ H' => Q o H') h1 a1⟩
    | _ => exact h1.elim⟩
@[simp] def eSl (f : EF) (l h : OF) : EF := fun ρ => f ρ >>= fun a => l a.2 >>= fun b => h b.2 >>= fun c => li (slD a.1 b.1 c.1) >>= fun d => .ok (d, c.2)
theorem cutS_ok {x : Str} (h : okS x = true) (lo hi : Option Int) : okS (cutS x lo hi) = true := by
  refine okS.mk (Nat.le_trans ?_ (okS.len h)) (strOk_iff.mpr fun c hc => strOk_iff.mp (okS.st h) c ?_)
  · show (cutS x lo hi).cps.size ≤ _
    unfold cutS
    rw [List.size_toArray, List.length_take, List.length_drop, Array.length_toList]
    exact Nat.le_trans (Nat.min_le_right _ _) (Nat.sub_le _ _)
  · unfold cutS at hc
    simp only at hc
    exact List.mem_of_mem_drop (List.mem_of_mem_take hc)
theorem cut_whole {α : Type} (xs : List α) (lo hi : Option Int) (h : HT.sIx xs.length 0 lo = 0 ∧ HT.sIx xs.length xs.length hi = xs.length) : cutL xs lo hi = xs := by
  unfold cutL
  rw [h.1, h.2]
  simp
theorem ed_slice {e : Expr} {lo hi : Option Expr} {f : EF} {g k : OF} {p2 pos : Pos} : ED X W e f → OD X W lo g → OD X W hi k → ED X W (.Subscript e (.Slice lo hi none p2) pos) (eSl f g k)
  | ⟨_, p, r⟩, ⟨_, q, s⟩, ⟨_, u, w⟩ => ⟨_, pe_slice (sl_list.or (sl_tupA.or sl_str)) p q u, fun G H σ ρ Q a h => r.use a (P := QE X.K Q) h fun d ρ1 v G1 H1 a1 af1 at1 h1 =>
    s.use a1 (P := QE X.K Q) h1 fun l ρ2 G2 H2 a2 af2 h2 => w.use a2 (P := QE X.K Q) h2 fun m ρ3 G3 H3 a3 af3 h3 => by
      have at3 := (at1.up af2.st.ex).up af3.st.ex
      have h4 := h3.pw a3
      cases at3 with
      | lst g1 g2 => exact .inl ⟨_, _, rfl, sq_of (a3.ex _ _ g1), h4.lst a3.ex (g2.cut l m)⟩
      | tup g1 g2 =>
        refine .inr (.inl ⟨_, _, rfl, ex_t a3.ex g1, fun z => ?_, fun _ => h4.tup a3.ex (g2.cut l m)⟩)
        rw [g2.length] at z
        simp only [slD, cut_whole _ l m z] at h4
        exact h4.val a3.ex (.tup g1 g2)
      | str x hx => exact .inr (.inr ⟨_, rfl, okS.len hx, h4.val a3.ex (.str _ (cutS_ok hx l m))⟩)
      | _ => exact h4.elim⟩

/-! ### -a -/
@[simp] def negD : D → Option D
  | .int i => some (.int (-i))
  | _ => none
@[simp] def eUn (f : D → Option D) (g : EF) : EF := fun ρ => g ρ >>= fun r => li (f r.1) >>= fun d => .ok (d, r.2)
theorem ed_neg {a : Expr} {f : EF} {pos : Pos} : ED X W a f → ED X W (.UnaryOp .USub a pos) (eUn negD f)
  | ⟨_, p, r⟩ => ⟨_, pe_un un_neg p, fun G H σ ρ Q a h => r.use a (P := QE X.K Q) h fun d ρ1 v G1 H1 a1 af1 at1 h1 => by
    have h2 := h1.pw a1
    cases at1 with
    | int i => exact ⟨i, rfl, h2.val a1.ex (.int _)⟩
    | _ => exact h2.elim⟩

/-! ### isinstance -/
def tyN : D → String
  | .none => "NoneType"
  | .bool _ => "bool"
  | .int _ => "int"
  | .str _ => "str"
  | .list _ => "list"
  | .tuple _ => "tuple"
  | .dict _ => "dict"
theorem At.ty {K : Fg} {G H : Hp} {v : V} {d : D} (h : At K G v d) (e : Ex G H) : TyX K H v (.type (tyN d)) := by
  cases h with
  | non => exact .base .non
  | bl b => exact .base (.bl b)
  | int i => exact .base (.int i)
  | str x _ => exact .base (.str x)
  | lst h1 _ => exact .base (.lst (e _ _ h1))
  | tup h1 _ =>
    rcases ex_t e h1 with h2 | ⟨o, its, n, h2, h3, _⟩
    · rcases h2 with h2 | ⟨o, h2⟩
      · exact .base (.tup h2)
      · exact .fTuple h2
    · exact .kTuple h2 h3
/-- the answers -/
@[simp] def isT (T : String) (d : D) : Bool := match d with
  | .none => false
  | .bool _ => T == "bool" || T == "int"
  | .int _ => T == "int"
  | .str _ => T == "str"
  | .list _ => T == "list"
  | .tuple _ => T == "tuple"
  | .dict _ => T == "dict"
def KitT (T : String) : Prop := ∀ a : String, a ∈ ["NoneType", "bool", "int", "str", "list", "tuple", "dict"] → kitB a T = some (match a with | "bool" => T == "bool" || T == "int" | "int" => T == "int" | "str" => T == "str" | "list" => T == "list" | "tuple" => T == "tuple" | "dict" => T == "dict" | _ => false)
theorem kitT_bool : KitT "bool" := by unfold KitT; decide +kernel
theorem kitT_int : KitT "int" := by unfold KitT; decide +kernel
theorem kitT_str : KitT "str" := by unfold KitT; decide +kernel
theorem kitT_list : KitT "list" := by unfold KitT; decide +kernel
theorem kitT_tuple : KitT "tuple" := by unfold KitT; decide +kernel
theorem kitT_dict : KitT "dict" := by unfold KitT; decide +kernel
theorem KitT.at_ {T : String} (h : KitT T) (d : D) : kitB (tyN d) T = some (isT T d) := by
  cases d <;> exact h _ (by simp [tyN])
@[simp] def eIsi (T : String) (f : EF) : EF := fun ρ => f ρ >>= fun r => .ok (.bool (isT T r.1), r.2)
theorem ed_isi {a : Expr} {T : String} {f : EF} {x : Str} {p p2 pos : Pos} (k : KitT T) (hg : Gl X "isinstance") (hm : X.mg "isinstance" = none) (hg2 : Gl X x) (hm2 : X.mg x = none) (hv2 : bootBuiltins x = some (.type T) := by decide +kernel)
    (hn : x ≠ "__name__" := by decide) (hdb : (x == ("__debug__" : Str)) = false := by decide)
    (he : starEach [a, .Name x p2] X.env = (false, eval a X.env) :: starEach [.Name x p2] X.env := by rfl) (he2 : starEach [Expr.Name x p2] X.env = (false, eval (.Name x p2) X.env) :: starEach [] X.env := by rfl) (hpl : (backTo pos (starEach [Expr.Name x p2] X.env)).any (·.1) = false := by rfl) :
    ED X W a f → ED X W (.Call (.Name "isinstance" p) [a, .Name x p2] [] pos) (eIsi T f)
  | ⟨_, q, r⟩ => ⟨_, pe_callB call_isi hg hm (by decide +kernel) (pa_cons q (pa_cons (pe_bltn (v := .ty T) (u := .type T) hg2 hm2 hv2 rfl hn hdb) pa_nil he2) he) (by decide) (by decide) he hpl, fun G H σ ρ Q a h =>
    r.use a (P := QE X.K Q) h fun d ρ1 v G1 H1 a1 af1 at1 h1 => ⟨v, .ty T, .type (tyN d), .type T, isT T d, rfl, .ty T, at1.ty a1.ex, kit_ty (k.at_ d), Wh.here (P := QE X.K Q) h1 a1 _ (.bl _)⟩⟩
@[simp] def eIsi2 (T U : String) (f : EF) : EF := fun ρ => f ρ >>= fun r => .ok (.bool (isT T r.1 || isT U r.1), r.2)
theorem ed_isi2 {a : Expr} {T U : String} {f : EF} {x y : Str} {p p2 p3 p4 pos : Pos} {n : Nat} (k : KitT T) (k2 : KitT U) (hg : Gl X "isinstance") (hm : X.mg "isinstance" = none) (hg2 : Gl X x) (hm2 : X.mg x = none) (hg3 : Gl X y) (hm3 : X.mg y = none) (hv2 : bootBuiltins x = some (.type T) := by decide +kernel)
    (hv3 : bootBuiltins y = some (.type U) := by decide +kernel) (hn : x ≠ "__name__" := by decide) (hdb : (x == ("__debug__" : Str)) = false := by decide) (hn3 : y ≠ "__name__" := by decide) (hdb3 : (y == ("__debug__" : Str)) = false := by decide)
    (e1 : starEach [a, .Tuple [.Name x p2, .Name y p3] n p4] X.env = (false, eval a X.env) :: starEach [.Tuple [.Name x p2, .Name y p3] n p4] X.env := by rfl)
    (e2 : starEach [Expr.Tuple [.Name x p2, .Name y p3] n p4] X.env = (false, eval (.Tuple [.Name x p2, .Name y p3] n p4) X.env) :: starEach [] X.env := by rfl)
    (e3 : starEach [Expr.Name x p2, .Name y p3] X.env = (false, eval (.Name x p2) X.env) :: starEach [.Name y p3] X.env := by rfl) (e4 : starEach [Expr.Name y p3] X.env = (false, eval (.Name y p3) X.env) :: starEach [] X.env := by rfl)
    (hpl : (backTo pos (starEach [Expr.Tuple [.Name x p2, .Name y p3] n p4] X.env)).any (·.1) = false := by rfl) :
    ED X W a f → ED X W (.Call (.Name "isinstance" p) [a, .Tuple [.Name x p2, .Name y p3] n p4] [] pos) (eIsi2 T U f)
  | ⟨_, q, r⟩ => ⟨_, pe_callB call_isiT hg hm (by decide +kernel) (pa_cons q (pa_cons (pe_tup (pa_cons (pe_bltn (v := .ty T) (u := .type T) hg2 hm2 hv2 rfl hn hdb) (pa_cons (pe_bltn (v := .ty U) (u := .type U) hg3 hm3 hv3 rfl hn3 hdb3) pa_nil e4) e3)) pa_nil e2) e1) (by decide) (by decide) e1 hpl, fun G H σ ρ Q a h =>
    r.use a (P := QE X.K Q) h fun d ρ1 v G1 H1 a1 af1 at1 h1 => by
      refine ⟨(by rw [sizeLine_eq]; exact (by decide : (2 : Nat) ≤ 16777216)), fun tp hp => ?_⟩
      have ax : Ex G1 (upd H1 tp (.tup [.ty T, .ty U])) := a1.ex.trans (Ex.new hp)
      refine ⟨v, tp, [.ty T, .ty U], .type (tyN d), [.type T, .type U], isT T d || isT U d, rfl, upd_same, .cons (.ty T) (.cons (.ty U) .nil), at1.ty ax, kitAny_cons (kit_ty (k.at_ d)) (fun e => kitAny_cons (kit_ty (k2.at_ d)) (fun e2 => ?_) fun e2 => ?_) fun e => ?_, ?_⟩
      · rw [e, e2]; exact kitAny_nil
      · rw [e, e2]; rfl
      · rw [e]; rfl
      · exact h1 G1 _ ⟨Stp.newH hp, ⟨ax, a1.len, fun i s en g1 g2 => by
          have g3 := a1.sl i s en g1 g2
          cases s with
          | u => exact True.intro
          | d x => exact g3
          | m xs =>
            obtain ⟨p, vs, k1, k2, k3, k4⟩ := g3
            exact ⟨p, vs, k1, k2, by rw [upd_ne (ne_of_none k3 hp)]; exact k3, k4⟩
          | k kvs => exact g3
          | x b P => exact g3
          | s ns => exact g3, a1.dj, a1.tb.newH hp⟩, fun _ => Iff.rfl⟩ _ (.bl _)⟩

/-! ### x in range(a, b) -/
theorem range_contains (r : Addr) (a b i : Int) (t u v k : Tok) : Meets (Builtin.«range.__contains__» ⟨[.ref r, .int i k], []⟩) (fun _ R s => IsRange s.heap r a b 1 t u v ∧ R (.ok (.ret (.bool (Builtin.Range.rangePlace? a b 1 i).isSome))) s) :=
  .of_wp fun prog w A R s h => by
    obtain ⟨hp, g, d, tk, os⟩ := s
    obtain ⟨hl, h⟩ := h
    wp_walk using wpAny_rangeFields hl
    exact ⟨_, rfl, h⟩
theorem place_some (a b i : Int) : (Builtin.Range.rangePlace? a b 1 i).isSome = (decide (a ≤ i) && decide (i < b)) := by
  unfold Builtin.Range.rangePlace?
  have e : ((i - a) % 1 == 0) = true := by rw [Int.emod_one]; rfl
  simp only [show (1 : Int) > 0 by decide, if_true, e, Bool.and_true]
  by_cases h : (decide (a ≤ i) && decide (i < b)) = true
  · simp [h]
  · simp only [h, Bool.not_eq_true] at *
    simp [h]
/-- an expression that makes a range -/
abbrev RF := List Sl → R ((Int × Int) × List Sl)
def RdR (X : Cx) (W : WX) (t : L2.St → Hp → (Int → Int → Hp → Prop) → Prop) (F : RF) : Prop := ∀ (G H : Hp) (σ : L2.St) (ρ : List Sl) (Q : Int → Int → Hp → Prop), AtE X.K G H σ ρ → Wh X W σ G H ρ (fun o _ H' => Q o.1 o.2 H') (F ρ) → t σ H Q
def RD (X : Cx) (W : WX) (e : Expr) (F : RF) : Prop := ∃ t, PRg X e t ∧ RdR X W t F
theorem RdR.use {α : Type} {σ : L2.St} {G H : Hp} {ρ : List Sl} {t : L2.St → Hp → (Int → Int → Hp → Prop) → Prop} {F : RF} (ra : RdR X W t F) (a : AtE X.K G H σ ρ) {P : α → Hp → Hp → Prop} {k : (Int × Int) × List Sl → R (α × List Sl)} {C : Int → Int → Hp → Prop} (h : Wh X W σ G H ρ P (F ρ >>= k))
    (c : ∀ i j ρ1 G1 H1, AtE X.K G1 H1 σ ρ1 → Af X.K σ G H ρ G1 H1 ρ1 → Wh X W σ G1 H1 ρ1 P (k ((i, j), ρ1)) → C i j H1) : t σ H C :=
  ra G H σ ρ C a (wp_mono (wp_bind.mp h) (fun r hr G1 H1 af => c r.1.1 r.1.2 r.2 G1 H1 af.en af (Wh.trans hr af)) fun _ q => q)
@[simp] def rg1 (f : EF) : RF := fun ρ => f ρ >>= fun a => match a.1 with
  | .int n => .ok ((0, n), a.2)
  | _ => .bad
@[simp] def rg2 (f g : EF) : RF := fun ρ => f ρ >>= fun a => g a.2 >>= fun b => match a.1, b.1 with
  | .int i, .int j => .ok ((i, j), b.2)
  | _, _ => .bad
theorem rd_1 {a : Expr} {f : EF} {p pos : Pos} (hg : Gl X "range") (hm : X.mg "range" = none) (na : starEach [a] X.env = (false, eval a X.env) :: starEach [] X.env := by rfl) : ED X W a f → RD X W (.Call (.Name "range" p) [a] [] pos) (rg1 f)
  | ⟨_, q, r⟩ => ⟨_, prg_1 hg hm q na, fun G H σ ρ Q a h => r.use a (P := fun (o : Int × Int) _ H' => Q o.1 o.2 H') h fun d ρ1 v G1 H1 a1 af1 at1 h1 => by
    cases at1 with
    | int n => exact ⟨n, rfl, Wh.here (P := fun (o : Int × Int) _ H' => Q o.1 o.2 H') (x := (0, n)) h1 a1⟩
    | _ => exact h1.elim⟩
theorem rd_2 {a b : Expr} {f g : EF} {p pos : Pos} (hg : Gl X "range") (hm : X.mg "range" = none) (na : starEach [a, b] X.env = (false, eval a X.env) :: starEach [b] X.env := by rfl)
    (nb : starEach [b] X.env = (false, eval b X.env) :: starEach [] X.env := by rfl) (hp : (backTo pos (starEach [b] X.env)).any (·.1) = false := by rfl) : ED X W a f → ED X W b g → RD X W (.Call (.Name "range" p) [a, b] [] pos) (rg2 f g)
  | ⟨_, q, r⟩, ⟨_, q2, r2⟩ => ⟨_, prg_2 hg hm q q2 na nb hp, fun G H σ ρ Q a h => r.use a (P := fun (o : Int × Int) _ H' => Q o.1 o.2 H') h fun d ρ1 v G1 H1 a1 af1 at1 h1 =>
    r2.use a1 (P := fun (o : Int × Int) _ H' => Q o.1 o.2 H') h1 fun d2 ρ2 v2 G2 H2 a2 af2 at2 h2 => by
      cases at1 with
      | int i =>
        cases at2 with
        | int j => exact ⟨i, j, rfl, rfl, Wh.here (P := fun (o : Int × Int) _ H' => Q o.1 o.2 H') (x := (i, j)) h2 a2⟩
        | _ => exact h2.elim
      | _ => exact h2.elim⟩
theorem range_in {M : Program} {w : World} {A : Around} {E : Value → Shared → Prop} {s : Shared} {r : Addr} {a b i : Int} {t u v k : Tok} {Q : Bool → Shared → Prop} (h : IsRange s.heap r a b 1 t u v) (hq : Q (decide (a ≤ i) && decide (i < b)) s) :
    wpAny (model M w) A (contains (.ref r) (.int i k)) Q E s := by
  have hT : s.TypeIs (.ref r) "range" := ⟨_, h, rfl⟩
  refine wpAny_contains_slot hT F.slot_range_contains (call_meets F.slot_range_contains hT F.entry_range_contains (F.args_range_contains_2 _ _) (range_contains r a b i t u v k) ⟨h, ?_⟩)
  show wpAny _ _ (truthy (.bool _)) _ _ _
  rw [place_some]
  exact wpAny_truthy_bool hq
theorem pe_inR {a b : Expr} {ta : TE} {t : L2.St → Hp → (Int → Int → Hp → Prop) → Prop} {pos : Pos} (ha : PE X a ta) (hb : PRg X b t) (hm : behindInMarks .In b = false) :
    PE X (.Compare a [.In] [b] pos) (fun σ H Q => ta σ H fun x H1 => t σ H1 fun lo hi H2 => ∃ i, x = .int i ∧ Q (.bl (decide (lo ≤ i) && decide (i < hi))) H2) :=
  ⟨fun pins s σ H Q I h => wpAny_Compare1 (thn (ha.run pins s σ H _ I h) fun v s1 ⟨x, H1, I1, r1, q1⟩ => thn (hb pins s1 σ H1 _ I1 q1) fun u s2 ⟨r, lo, hi, t1, t2, t3, H2, e, hR, I2, q2⟩ => by
    obtain ⟨i, rfl, q⟩ := q2
    obtain ⟨tk, rfl⟩ := r1
    subst e
    show wpAny _ _ (do return Value.bool (← contains (.ref r) (.int i tk))) _ _ _
    exact wpAny_bind (range_in hR (wpAny_pure ⟨.bl _, H2, I2, rfl, q⟩))) hm⟩
theorem pe_ninR {a b : Expr} {ta : TE} {t : L2.St → Hp → (Int → Int → Hp → Prop) → Prop} {pos : Pos} (ha : PE X a ta) (hb : PRg X b t) (hm : behindInMarks .NotIn b = false) :
    PE X (.Compare a [.NotIn] [b] pos) (fun σ H Q => ta σ H fun x H1 => t σ H1 fun lo hi H2 => ∃ i, x = .int i ∧ Q (.bl (!(decide (lo ≤ i) && decide (i < hi)))) H2) :=
  ⟨fun pins s σ H Q I h => wpAny_Compare1 (thn (ha.run pins s σ H _ I h) fun v s1 ⟨x, H1, I1, r1, q1⟩ => thn (hb pins s1 σ H1 _ I1 q1) fun u s2 ⟨r, lo, hi, t1, t2, t3, H2, e, hR, I2, q2⟩ => by
    obtain ⟨i, rfl, q⟩ := q2
    obtain ⟨tk, rfl⟩ := r1
    subst e
    show wpAny _ _ (do return Value.bool (!(← contains (.ref r) (.int i tk)))) _ _ _
    exact wpAny_bind (range_in hR (wpAny_pure ⟨.bl _, H2, I2, rfl, q⟩))) hm⟩
@[simp] def eInR (neg : Bool) (f : EF) (g : RF) : EF := fun ρ => f ρ >>= fun a => g a.2 >>= fun b => match a.1 with
  | .int i => .ok (.bool (if neg then !(decide (b.1.1 ≤ i) && decide (i < b.1.2)) else (decide (b.1.1 ≤ i) && decide (i < b.1.2))), b.2)
  | _ => .bad
theorem ed_inR {a b : Expr} {f : EF} {g : RF} {pos : Pos} (hm : behindInMarks .In b = false := by rfl) : ED X W a f → RD X W b g → ED X W (.Compare a [.In] [b] pos) (eInR false f g)
  | ⟨_, p, r⟩, ⟨_, q, s⟩ => ⟨_, pe_inR p q hm, fun G H σ ρ Q a h => r.use a (P := QE X.K Q) h fun d ρ1 v G1 H1 a1 af1 at1 h1 => s.use a1 (P := QE X.K Q) h1 fun lo hi ρ2 G2 H2 a2 af2 h2 => by
    cases at1 with
    | int i => exact ⟨i, rfl, Wh.here (P := QE X.K Q) h2 a2 _ (.bl _)⟩
    | _ => exact h2.elim⟩
theorem ed_ninR {a b : Expr} {f : EF} {g : RF} {pos : Pos} (hm : behindInMarks .NotIn b = false := by rfl) : ED X W a f → RD X W b g → ED X W (.Compare a [.NotIn] [b] pos) (eInR true f g)
  | ⟨_, p, r⟩, ⟨_, q, s⟩ => ⟨_, pe_ninR p q hm, fun G H σ ρ Q a h => r.use a (P := QE X.K Q) h fun d ρ1 v G1 H1 a1 af1 at1 h1 => s.use a1 (P := QE X.K Q) h1 fun lo hi ρ2 G2 H2 a2 af2 h2 => by
    cases at1 with
    | int i => exact ⟨i, rfl, Wh.here (P := QE X.K Q) h2 a2 _ (.bl _)⟩
    | _ => exact h2.elim⟩
/-- list(range(..)), tuple(range(..)) -/
def rgL (i j : Int) : List D := (List.range (j - i).toNat).map fun (k : Nat) => .int (i + k)
theorem at_rg {K : Fg} {G : Hp} (i j : Int) : AtL K G (rgV i j) (rgL i j) := by
  unfold rgV rgL
  generalize List.range (j - i).toNat = l
  induction l with
  | nil => exact .nil
  | cons a l ih => exact .cons (.int _) ih
@[simp] def eLstR (g : RF) : EF := fun ρ => g ρ >>= fun r => if -1000 ≤ r.1.1 ∧ r.1.1 ≤ 1000000 ∧ -1000 ≤ r.1.2 ∧ r.1.2 ≤ 1000000 then .ok (.list (rgL r.1.1 r.1.2), r.2) else .bad
@[simp] def eTupR (g : RF) : EF := fun ρ => g ρ >>= fun r => if -1000 ≤ r.1.1 ∧ r.1.1 ≤ 1000000 ∧ -1000 ≤ r.1.2 ∧ r.1.2 ≤ 1000000 then .ok (.tuple (rgL r.1.1 r.1.2), r.2) else .bad
theorem ed_lstR {e : Expr} {g : RF} {p pos : Pos} (hc : X.calm = true) (hg : Gl X "list") (hm : X.mg "list" = none) (na : starEach [e] X.env = (false, eval e X.env) :: starEach [] X.env := by rfl) : RD X W e g → ED X W (.Call (.Name "list" p) [e] [] pos) (eLstR g)
  | ⟨_, q, r⟩ => ⟨_, pe_listRg hc hg hm q na, fun G H σ ρ Q a h => r.use a (P := QE X.K Q) h fun i j ρ1 G1 H1 a1 af1 h1 => by
    by_cases c : -1000 ≤ i ∧ i ≤ 1000000 ∧ -1000 ≤ j ∧ j ≤ 1000000
    · simp only [c, and_self, if_true] at h1
      refine ⟨⟨by omega, by omega, by omega, by omega, by omega⟩, fun p hp => ?_⟩
      exact h1 (upd G1 p _) _ (Af.grow a1 (Stp.new a1.ex hp) (ex_upd2 a1.ex)) _ (.lst upd_same ((at_rg i j)))
    · rw [if_neg c] at h1
      exact h1.elim⟩
theorem ed_tupR {e : Expr} {g : RF} {p pos : Pos} (hc : X.calm = true) (hg : Gl X "tuple") (hm : X.mg "tuple" = none) (na : starEach [e] X.env = (false, eval e X.env) :: starEach [] X.env := by rfl) : RD X W e g → ED X W (.Call (.Name "tuple" p) [e] [] pos) (eTupR g)
  | ⟨_, q, r⟩ => ⟨_, pe_tupRg hc hg hm q na, fun G H σ ρ Q a h => r.use a (P := QE X.K Q) h fun i j ρ1 G1 H1 a1 af1 h1 => by
    by_cases c : -1000 ≤ i ∧ i ≤ 1000000 ∧ -1000 ≤ j ∧ j ≤ 1000000
    · simp only [c, and_self, if_true] at h1
      refine ⟨⟨by omega, by omega, by omega, by omega, by omega⟩, fun p hp => ?_⟩
      exact h1 (upd G1 p _) _ (Af.grow a1 (Stp.new a1.ex hp) (ex_upd2 a1.ex)) _ (.tup (st_of upd_same) ((at_rg i j)))
    · rw [if_neg c] at h1
      exact h1.elim⟩
end
end Pd
end

section
/-! Pd, part 6: calls of the program's own defs. -/
namespace Pd
open PySem L2 Evl PyProof.Rows

/-! ### a def as a function -/
abbrev Fn := List Sl → R (D × List Sl)
/-- what a def promises: it does what F does -/
def spF (mg : Str → Option Value) (K : Fg) (n : Nat) (F : Fn) : Sp := fun vs H Q E => vs.length = n ∧ ∃ G as, AtE K G H (vs.map some) as ∧
  wp (F as) (Gn K (vs.map some) G H as (QE K Q)) (fun c => ∀ cls dd G' H', Stp K (Mt (vs.map some) as) G H G' H' → AtX mg K G' H' c cls dd → E cls dd H')
/-- the def of the name x, n parameters -/
structure Fd (P : Program) (w : World) (K : Fg) (mg : Str → Option Value) (base : Heap) (k : Nat) (x : Str) (n : Nat) (F : Fn) : Prop where
  h : ∃ f fd ps, ps.length = n ∧ FnOk P w K mg base (L2N.CX P w) k f fd ps (spF mg K n F) ∧ mg x = some (.ref f) ∧ PySem.W.keepIn K (.ref f) = true ∧ Binds K fd ps []

/-! ### arguments: data, or a slot's own list, or the script -/
inductive Ar where
  | d (x : D)
  | r (i : Nat)
inductive ArL (K : Fg) (G : Hp) (σ : L2.St) : List V → List Ar → Prop
  | nil : ArL K G σ [] []
  | d {v : V} {x : D} {vs : List V} {as : List Ar} : At K G v x → ArL K G σ vs as → ArL K G σ (v :: vs) (.d x :: as)
  | r {v : V} {i : Nat} {vs : List V} {as : List Ar} : σ[i]? = some (some v) → ArL K G σ vs as → ArL K G σ (v :: vs) (.r i :: as)
abbrev CF := List Sl → R (List Ar × List Sl)
abbrev QR (K : Fg) (σ : L2.St) (Q : List V → Hp → Prop) : List Ar → Hp → Hp → Prop := fun as G' H' => ∀ vs, ArL K G' σ vs as → Q vs H'
section
variable {X : Cx} {W : WX}
def RdC (X : Cx) (W : WX) (t : TA) (F : CF) : Prop := ∀ (G H : Hp) (σ : L2.St) (ρ : List Sl) (Q : List V → Hp → Prop), AtE X.K G H σ ρ → Wh X W σ G H ρ (QR X.K σ Q) (F ρ) → t σ H Q
def CD (X : Cx) (W : WX) (es : List Expr) (F : CF) : Prop := ∃ t, PA X es t ∧ RdC X W t F
theorem RdC.use {α : Type} {σ : L2.St} {G H : Hp} {ρ : List Sl} {t : TA} {F : CF} (ra : RdC X W t F) (a : AtE X.K G H σ ρ) {P : α → Hp → Hp → Prop} {k : List Ar × List Sl → R (α × List Sl)} {C : List V → Hp → Prop} (h : Wh X W σ G H ρ P (F ρ >>= k))
    (c : ∀ as ρ1 vs G1 H1, AtE X.K G1 H1 σ ρ1 → Af X.K σ G H ρ G1 H1 ρ1 → ArL X.K G1 σ vs as → Wh X W σ G1 H1 ρ1 P (k (as, ρ1)) → C vs H1) : t σ H C :=
  ra G H σ ρ C a (wp_mono (wp_bind.mp h) (fun r hr G1 H1 af vs at1 => c r.1 r.2 vs G1 H1 af.en af at1 (Wh.trans hr af)) fun _ q => q)
theorem ArL.up {K : Fg} {G G' : Hp} {σ : L2.St} {vs : List V} {as : List Ar} (h : ArL K G σ vs as) (e : Ex G G') : ArL K G' σ vs as := by
  induction h with
  | nil => exact .nil
  | d h _ ih => exact .d (h.up e) ih
  | r h _ ih => exact .r h ih
@[simp] def cNil : CF := fun ρ => .ok ([], ρ)
@[simp] def cD (f : EF) (g : CF) : CF := fun ρ => f ρ >>= fun a => g a.2 >>= fun b => .ok (.d a.1 :: b.1, b.2)
@[simp] def cR (i : Nat) (g : CF) : CF := fun ρ => match ρ[i]? with
  | some (.m _) => g ρ >>= fun b => .ok (.r i :: b.1, b.2)
  | some (.s _) => g ρ >>= fun b => .ok (.r i :: b.1, b.2)
  | _ => .bad
theorem cd_nil : CD X W [] cNil := ⟨_, pa_nil, fun G H σ ρ Q a h => Wh.here (P := QR X.K σ Q) h a [] .nil⟩
theorem cd_d {e : Expr} {es : List Expr} {f : EF} {g : CF} (hs : starEach (e :: es) X.env = (false, eval e X.env) :: starEach es X.env := by rfl) : ED X W e f → CD X W es g → CD X W (e :: es) (cD f g)
  | ⟨_, p, r⟩, ⟨_, q, s⟩ => ⟨_, pa_cons p q hs, fun G H σ ρ Q a h => r.use a (P := QR X.K σ Q) h fun d ρ1 v G1 H1 a1 af1 at1 h1 => s.use a1 (P := QR X.K σ Q) h1 fun ds ρ2 vs G2 H2 a2 af2 at2 h2 =>
    Wh.here (P := QR X.K σ Q) h2 a2 (v :: vs) (.d (at1.up af2.st.ex) at2)⟩
theorem cd_r (i : Nat) {x : Str} {pos : Pos} {es : List Expr} {g : CF} (hN : X.N[i]? = some x := by rfl) (hv : Vis X.env.scope x := by first | exact Or.inl rfl | exact Or.inr (Or.inl rfl) | exact Or.inr (Or.inr rfl)) (hd : (x == ("__debug__" : Str)) = false := by decide)
    (hcd : (x == ("__classdict__" : Str)) = false := by decide) (hs : starEach (.Name x pos :: es) X.env = (false, eval (.Name x pos) X.env) :: starEach es X.env := by rfl) : CD X W es g → CD X W (.Name x pos :: es) (cR i g)
  | ⟨_, q, s⟩ => ⟨_, pa_cons (pv i hN hv hd hcd) q hs, fun G H σ ρ Q a h => by
    have go : ∀ e, σ[i]? = some (some e) → Wh X W σ G H ρ (QR X.K σ Q) (g ρ >>= fun b => .ok (.r i :: b.1, b.2)) → (tCons (tVar i) _) σ H Q := fun e he h =>
      ⟨e, he, s.use a (P := QR X.K σ Q) h fun ds ρ2 vs G2 H2 a2 af2 at2 h2 => Wh.here (P := QR X.K σ Q) h2 a2 (e :: vs) (.r he at2)⟩
    unfold cR at h
    split at h
    · rename_i xs e
      obtain ⟨en, e1, p, vs, e2, _⟩ := a.at_ e
      rw [e2] at e1
      exact go _ e1 h
    · rename_i xs e
      obtain ⟨en, e1, p, e2, _⟩ := a.at_ e
      rw [e2] at e1
      exact go _ e1 h
    · exact h.elim⟩
/-- the callee's slots -/
@[simp] def arSl (ρ : List Sl) : List Ar → Option (List Sl)
  | [] => some []
  | .d x :: as => (arSl ρ as).map (.d x :: ·)
  | .r i :: as => match ρ[i]? with
    | some (.m xs) => (arSl ρ as).map (.m xs :: ·)
    | some (.s ns) => (arSl ρ as).map (.s ns :: ·)
    | _ => none
@[simp] def arIx : List Ar → List Nat
  | [] => []
  | .d _ :: as => arIx as
  | .r i :: as => i :: arIx as
/-- what comes back into the slots -/
@[simp] def back : List Sl → List Ar → List Sl → Option (List Sl)
  | ρ, [], [] => some ρ
  | ρ, .d _ :: as, _ :: ss => back ρ as ss
  | ρ, .r i :: as, .m xs :: ss => back (ρ.set i (.m xs)) as ss
  | ρ, .r _ :: as, .s _ :: ss => back ρ as ss
  | _, _, _ => none
@[simp] def eUser (n : Nat) (F : Fn) (g : CF) : EF := fun ρ => g ρ >>= fun a => if a.1.length = n ∧ (arIx a.1).Nodup then li (arSl a.2 a.1) >>= fun sls => F sls >>= fun r => li (back a.2 a.1 r.2) >>= fun ρ2 => .ok (r.1, ρ2) else .bad
@[simp] def eUser0 (F : Fn) : EF := fun ρ => match F [] with
  | .ok r => .ok (r.1, ρ)
  | _ => .bad

section
variable {K : Fg} {G H G' H' : Hp} {σ : L2.St} {ρ : List Sl}
theorem arSl_len {as : List Ar} : ∀ {ss : List Sl}, arSl ρ as = some ss → ss.length = as.length := by
  induction as with
  | nil => intro ss h; cases h; rfl
  | cons a as ih =>
    intro ss h
    cases a with
    | d x =>
      simp only [arSl, Option.map_eq_some_iff] at h
      obtain ⟨t, h1, rfl⟩ := h
      simp [ih h1]
    | r i =>
      simp only [arSl] at h
      split at h
      · simp only [Option.map_eq_some_iff] at h
        obtain ⟨t, h1, rfl⟩ := h
        simp [ih h1]
      · simp only [Option.map_eq_some_iff] at h
        obtain ⟨t, h1, rfl⟩ := h
        simp [ih h1]
      · cases h
/-- one argument's slot -/
theorem arSl_get {as : List Ar} : ∀ {ss : List Sl} {j : Nat} {s : Sl}, arSl ρ as = some ss → ss[j]? = some s → (∃ x, as[j]? = some (.d x) ∧ s = .d x) ∨ (∃ i, as[j]? = some (.r i) ∧ ρ[i]? = some s ∧ ((∃ xs, s = .m xs) ∨ ∃ ns, s = .s ns)) := by
  induction as with
  | nil => intro ss j s h h2; cases h; simp at h2
  | cons a as ih =>
    intro ss j s h h2
    cases a with
    | d x =>
      simp only [arSl, Option.map_eq_some_iff] at h
      obtain ⟨t, h1, rfl⟩ := h
      cases j with
      | zero => simp at h2; exact .inl ⟨x, rfl, h2.symm⟩
      | succ j => simpa using ih h1 (by simpa using h2)
    | r i =>
      simp only [arSl] at h
      split at h
      · rename_i xs e
        simp only [Option.map_eq_some_iff] at h
        obtain ⟨t, h1, rfl⟩ := h
        cases j with
        | zero => simp at h2; subst h2; exact .inr ⟨i, rfl, e, .inl ⟨xs, rfl⟩⟩
        | succ j => simpa using ih h1 (by simpa using h2)
      · rename_i xs e
        simp only [Option.map_eq_some_iff] at h
        obtain ⟨t, h1, rfl⟩ := h
        cases j with
        | zero => simp at h2; subst h2; exact .inr ⟨i, rfl, e, .inr ⟨xs, rfl⟩⟩
        | succ j => simpa using ih h1 (by simpa using h2)
      · cases h
theorem ArL.length {vs : List V} {as : List Ar} (h : ArL K G σ vs as) : vs.length = as.length := by
  induction h with
  | nil => rfl
  | d _ _ ih => simp [ih]
  | r _ _ ih => simp [ih]
theorem ArL.get {vs : List V} {as : List Ar} (h : ArL K G σ vs as) : ∀ {j : Nat} {v : V}, vs[j]? = some v → (∃ x, as[j]? = some (.d x) ∧ At K G v x) ∨ (∃ i, as[j]? = some (.r i) ∧ σ[i]? = some (some v)) := by
  induction h with
  | nil => intro j v h; simp at h
  | d h1 _ ih =>
    intro j v h
    cases j with
    | zero => simp at h; subst h; exact .inl ⟨_, rfl, h1⟩
    | succ j => simpa using ih (by simpa using h)
  | r h1 _ ih =>
    intro j v h
    cases j with
    | zero => simp at h; subst h; exact .inr ⟨_, rfl, h1⟩
    | succ j => simpa using ih (by simpa using h)
theorem arIx_mem {as : List Ar} : ∀ {j i : Nat}, as[j]? = some (.r i) → i ∈ arIx as := by
  induction as with
  | nil => intro j i h; simp at h
  | cons a as ih =>
    intro j i h
    cases j with
    | zero => simp at h; subst h; exact List.mem_cons_self
    | succ j =>
      have := ih (by simpa using h)
      cases a with
      | d x => exact this
      | r k => exact List.mem_cons_of_mem _ this
theorem arIx_inj {as : List Ar} : ∀ {j k i : Nat}, (arIx as).Nodup → as[j]? = some (.r i) → as[k]? = some (.r i) → j = k := by
  induction as with
  | nil => intro j k i _ h; simp at h
  | cons a as ih =>
    intro j k i nd h1 h2
    cases a with
    | d x =>
      cases j with
      | zero => simp at h1
      | succ j =>
        cases k with
        | zero => simp at h2
        | succ k => exact congrArg Nat.succ (ih (i := i) nd (by simpa using h1) (by simpa using h2))
    | r l =>
      obtain ⟨nm, nd⟩ := List.nodup_cons.mp nd
      cases j with
      | zero =>
        simp at h1
        subst h1
        cases k with
        | zero => rfl
        | succ k => exact absurd (arIx_mem (as := as) (by simpa using h2)) nm
      | succ j =>
        cases k with
        | zero =>
          simp at h2
          subst h2
          exact absurd (arIx_mem (as := as) (by simpa using h1)) nm
        | succ k => exact congrArg Nat.succ (ih (i := i) nd (by simpa using h1) (by simpa using h2))
/-- the callee's environment -/
theorem args_env (a : AtE K G H σ ρ) {vs : List V} {as : List Ar} {ss : List Sl} (h : ArL K G σ vs as) (e : arSl ρ as = some ss) (nd : (arIx as).Nodup) : AtE K G H (vs.map some) ss where
  ex := a.ex
  tb := a.tb
  len := by rw [arSl_len e, List.length_map, h.length]
  sl := fun j s en h1 h2 => by
    rw [List.getElem?_map] at h2
    cases q : vs[j]? with
    | none => rw [q] at h2; cases h2
    | some v =>
      rw [q] at h2
      cases h2
      rcases arSl_get e h1 with ⟨x, g1, rfl⟩ | ⟨i, g1, g2, _⟩
      · rcases h.get q with ⟨x', k1, k2⟩ | ⟨i, k1, k2⟩
        · rw [g1] at k1; cases k1
          exact ⟨v, rfl, k2⟩
        · rw [g1] at k1; cases k1
      · rcases h.get q with ⟨x', k1, k2⟩ | ⟨i', k1, k2⟩
        · rw [g1] at k1; cases k1
        · rw [g1] at k1; cases k1
          exact a.sl i s _ g2 k2
  dj := fun j k p xs ys h1 h2 h3 h4 => by
    rw [List.getElem?_map] at h3 h4
    cases q1 : vs[j]? with
    | none => rw [q1] at h3; cases h3
    | some v =>
      cases q2 : vs[k]? with
      | none => rw [q2] at h4; cases h4
      | some u =>
        rw [q1] at h3; rw [q2] at h4
        cases h3; cases h4
        rcases arSl_get e h1 with ⟨x, _, z⟩ | ⟨i, g1, g2, _⟩
        · cases z
        · rcases arSl_get e h2 with ⟨x, _, z⟩ | ⟨i', g3, g4, _⟩
          · cases z
          · rcases h.get q1 with ⟨x', k1, k2⟩ | ⟨l, k1, k2⟩
            · rw [g1] at k1; cases k1
            · rw [g1] at k1; cases k1
              rcases h.get q2 with ⟨x', k3, k4⟩ | ⟨l', k3, k4⟩
              · rw [g3] at k3; cases k3
              · rw [g3] at k3; cases k3
                have := a.dj i i' p xs ys g2 g4 k2 k4
                subst this
                exact arIx_inj nd g1 g3
theorem args_mt {vs : List V} {as : List Ar} {ss : List Sl} (h : ArL K G σ vs as) (e : arSl ρ as = some ss) {p : Addr} (m : Mt (vs.map some) ss p) : Mt σ ρ p := by
  obtain ⟨j, xs, h1, h2⟩ := m
  rw [List.getElem?_map] at h2
  cases q : vs[j]? with
  | none => rw [q] at h2; cases h2
  | some v =>
    rw [q] at h2
    cases h2
    rcases arSl_get e h1 with ⟨x, _, z⟩ | ⟨i, g1, g2, _⟩
    · cases z
    · rcases h.get q with ⟨x', k1, k2⟩ | ⟨i', k1, k2⟩
      · rw [g1] at k1; cases k1
      · rw [g1] at k1; cases k1
        exact ⟨i, xs, g2, k2⟩
/-- what back does -/
theorem back_get : ∀ {as : List Ar} {ss : List Sl} {ρ ρ2 : List Sl}, (arIx as).Nodup → (∀ (j i : Nat) (xs : List D), as[j]? = some (Ar.r i) → ss[j]? = some (Sl.m xs) → i < ρ.length) → back ρ as ss = some ρ2 →
    ρ2.length = ρ.length ∧ (∀ i : Nat, (∀ (j : Nat) (xs : List D), as[j]? = some (Ar.r i) → ss[j]? ≠ some (Sl.m xs)) → ρ2[i]? = ρ[i]?) ∧ ∀ (j i : Nat) (xs : List D), as[j]? = some (Ar.r i) → ss[j]? = some (Sl.m xs) → ρ2[i]? = some (Sl.m xs)
  | [], [], _, _, _, _, h => by cases h; exact ⟨rfl, fun _ _ => rfl, fun j i xs h => by simp at h⟩
  | [], _ :: _, _, _, _, _, h => by cases h
  | .d _ :: as, [], _, _, _, _, h => by cases h
  | .r _ :: as, [], _, _, _, _, h => by cases h
  | .d x :: as, s :: ss, ρ, ρ2, nd, hl, h => by
    have h' : back ρ as ss = some ρ2 := by cases s <;> exact h
    obtain ⟨h1, h2, h3⟩ := back_get (as := as) (ss := ss) nd (fun j i xs a b => hl (j + 1) i xs (by simpa using a) (by simpa using b)) h'
    refine ⟨h1, fun i hi => h2 i fun j xs a => by simpa using hi (j + 1) xs (by simpa using a), fun j i xs a b => ?_⟩
    cases j with
    | zero => simp at a
    | succ j => exact h3 j i xs (by simpa using a) (by simpa using b)
  | .r i :: as, .m xs :: ss, ρ, ρ2, nd, hl, h => by
    obtain ⟨nm, nd⟩ := List.nodup_cons.mp nd
    have hi : i < ρ.length := hl 0 i xs rfl rfl
    obtain ⟨h1, h2, h3⟩ := back_get (as := as) (ss := ss) (ρ := ρ.set i (.m xs)) nd (fun j i' xs' a b => by rw [List.length_set]; exact hl (j + 1) i' xs' (by simpa using a) (by simpa using b)) h
    have hin : ρ2[i]? = some (.m xs) := by
      rw [h2 i fun j ys a => absurd (arIx_mem a) nm]
      simp [hi]
    refine ⟨by simpa using h1, fun i' hi' => ?_, fun j i' xs' a b => ?_⟩
    · have ne : i ≠ i' := fun z => by subst z; exact hi' 0 xs rfl rfl
      rw [h2 i' fun j ys a => by simpa using hi' (j + 1) ys (by simpa using a), List.getElem?_set_ne ne]
    · cases j with
      | zero =>
        simp at a b
        subst a b
        exact hin
      | succ j => exact h3 j i' xs' (by simpa using a) (by simpa using b)
  | .r i :: as, .s ns :: ss, ρ, ρ2, nd, hl, h => by
    obtain ⟨nm, nd⟩ := List.nodup_cons.mp nd
    obtain ⟨h1, h2, h3⟩ := back_get (as := as) (ss := ss) nd (fun j i xs a b => hl (j + 1) i xs (by simpa using a) (by simpa using b)) h
    refine ⟨h1, fun i' hi' => h2 i' fun j xs a => by simpa using hi' (j + 1) xs (by simpa using a), fun j i' xs a b => ?_⟩
    cases j with
    | zero => simp at b
    | succ j => exact h3 j i' xs (by simpa using a) (by simpa using b)
  | .r i :: as, .d x :: ss, ρ, ρ2, nd, hl, h => by cases h
  | .r i :: as, .u :: ss, ρ, ρ2, nd, hl, h => by cases h
  | .r i :: as, .x _ _ :: ss, ρ, ρ2, nd, hl, h => by cases h
/-- behind the call -/
theorem args_back (a : AtE K G H σ ρ) {vs : List V} {as : List Ar} {ss ss' ρ2 : List Sl} (h : ArL K G σ vs as) (e : arSl ρ as = some ss) (nd : (arIx as).Nodup) (af : Af K (vs.map some) G H ss G' H' ss') (eb : back ρ as ss' = some ρ2) : Af K σ G H ρ G' H' ρ2 := by
  have hs' : ∀ (j i : Nat) (xs : List D), as[j]? = some (Ar.r i) → ss'[j]? = some (Sl.m xs) → ∃ (ys : List D) (p : Addr), ρ[i]? = some (Sl.m ys) ∧ σ[i]? = some (some (V.ref p)) ∧ (vs.map some)[j]? = some (some (V.ref p)) := fun j i xs h1 h2 => by
    obtain ⟨ys, h3⟩ := (af.sh j).mp ⟨xs, h2⟩
    rcases arSl_get e h3 with ⟨x, _, z⟩ | ⟨i', g1, g2, _⟩
    · cases z
    · rw [h1] at g1; cases g1
      obtain ⟨en, k1, p, ws, k2, _⟩ := a.at_ g2
      rw [k2] at k1
      refine ⟨ys, p, g2, k1, ?_⟩
      have hj : j < vs.length := by rw [h.length]; exact (List.getElem?_eq_some_iff.mp h1).1
      rcases h.get (List.getElem?_eq_getElem hj) with ⟨x', q1, _⟩ | ⟨l, q1, q2⟩
      · rw [h1] at q1; cases q1
      · rw [h1] at q1; cases q1
        rw [k1] at q2
        rw [List.getElem?_map, List.getElem?_eq_getElem hj]
        have := Option.some.inj q2
        rw [← this]
        rfl
  obtain ⟨b1, b2, b3⟩ := back_get nd (fun j i xs h1 h2 => by
    obtain ⟨ys, p, g, _⟩ := hs' j i xs h1 h2
    exact (List.getElem?_eq_some_iff.mp g).1) eb
  have cases_ : ∀ i : Nat, (∃ (j : Nat) (xs : List D), as[j]? = some (Ar.r i) ∧ ss'[j]? = some (Sl.m xs)) ∨ ((∀ (j : Nat) (xs : List D), as[j]? = some (Ar.r i) → ss'[j]? ≠ some (Sl.m xs)) ∧ ρ2[i]? = ρ[i]?) := fun i => by
    by_cases q : ∃ (j : Nat) (xs : List D), as[j]? = some (Ar.r i) ∧ ss'[j]? = some (Sl.m xs)
    · exact .inl q
    · exact .inr ⟨fun j xs h1 h2 => q ⟨j, xs, h1, h2⟩, b2 i fun j xs h1 h2 => q ⟨j, xs, h1, h2⟩⟩
  have sh : ∀ i : Nat, (∃ xs, ρ2[i]? = some (Sl.m xs)) ↔ (∃ xs, ρ[i]? = some (Sl.m xs)) := fun i => by
    rcases cases_ i with ⟨j, xs, h1, h2⟩ | ⟨hno, q⟩
    · obtain ⟨ys, p, g, _⟩ := hs' j i xs h1 h2
      exact ⟨fun _ => ⟨ys, g⟩, fun _ => ⟨xs, b3 j i xs h1 h2⟩⟩
    · rw [q]
  refine ⟨af.st.weak fun p => args_mt h e, ⟨af.en.ex, b1.trans a.len, fun i s en h1 h2 => ?_, fun i j p xs ys h1 h2 h3 h4 => ?_, af.en.tb⟩, sh⟩
  · rcases cases_ i with ⟨j, xs, g1, g2⟩ | ⟨hno, q⟩
    · obtain ⟨ys, p, k1, k2, k3⟩ := hs' j i xs g1 g2
      rw [b3 j i xs g1 g2] at h1
      cases h1
      rw [h2] at k2
      cases k2
      exact af.en.sl j _ _ g2 k3
    · rw [q] at h1
      have at1 := a.sl i s en h1 h2
      cases s with
      | u => exact True.intro
      | d x =>
        obtain ⟨v, e1, e2⟩ := at1
        exact ⟨v, e1, e2.up af.st.ex⟩
      | m xs =>
        obtain ⟨p, ws, e1, e2, e3, e4⟩ := at1
        subst e1
        have nm : ¬ Mt (vs.map some) ss p := fun ⟨j, ys, m1, m2⟩ => by
          rcases arSl_get e m1 with ⟨x, _, z⟩ | ⟨l, g1, g2, _⟩
          · cases z
          · have hj : j < vs.length := by rw [h.length]; exact (List.getElem?_eq_some_iff.mp g1).1
            rcases h.get (List.getElem?_eq_getElem hj) with ⟨x', q1, _⟩ | ⟨l', q1, q2⟩
            · rw [g1] at q1; cases q1
            · rw [g1] at q1; cases q1
              rw [List.getElem?_map, List.getElem?_eq_getElem hj] at m2
              have m3 : vs[j] = .ref p := Option.some.inj (Option.some.inj m2)
              rw [m3] at q2
              have := a.dj i l p xs ys h1 g2 h2 q2
              subst this
              obtain ⟨zs, z1⟩ := (af.sh j).mpr ⟨ys, m1⟩
              exact hno j zs g1 z1
        refine ⟨p, ws, rfl, ?_, af.st.fr p _ e3 nm (fun _ z => nomatch z), e4.up af.st.ex⟩
        cases z : G' p with
        | none => rfl
        | some o => exact absurd e2 (af.st.nw p _ e3 (by rw [z]; exact fun z => nomatch z))
      | k kvs => exact k_up at1 af.st.ex
      | x b P => exact x_up at1 af.st.ex
      | s ns =>
        obtain ⟨b, e1, e2⟩ := at1
        exact ⟨b, e1, ex_l af.st.ex e2⟩
  · obtain ⟨xs', h1'⟩ := (sh i).mp ⟨xs, h1⟩
    obtain ⟨ys', h2'⟩ := (sh j).mp ⟨ys, h2⟩
    exact a.dj i j p xs' ys' h1' h2' h3 h4
end
theorem rd_call {n : Nat} {F : Fn} {t : TA} {g : CF} (s : RdC X W t g) : RdE X W (tCallS (spF X.mg X.K n F) (WE W) t) (eUser n F g) := fun G H σ ρ Q a h =>
  s.use a (P := QE X.K Q) h fun as ρ1 vs G1 H1 a1 af1 at1 h1 => by
    by_cases c : as.length = n ∧ (arIx as).Nodup
    · simp only [if_pos c] at h1
      cases e : arSl ρ1 as with
      | none => simp only [e] at h1; exact h1.elim
      | some ss =>
        simp only [e, li_some, bind_ok] at h1
        refine ⟨by rw [at1.length]; exact c.1, G1, ss, args_env a1 at1 e c.2, wp_mono (wp_bind.mp h1) (fun r hr G' H' af v av => ?_) fun x hx cls dd G' H' st q => hx cls dd G' H' (st.weak fun p => args_mt at1 e) q⟩
        cases eb : back ρ1 as r.2 with
        | none => rw [eb] at hr; exact hr.elim
        | some ρ2 =>
          rw [eb] at hr
          exact hr G' H' (args_back a1 at1 e c.2 af eb) v av
    · simp only [if_neg c] at h1
      exact h1.elim
theorem ed_call {k j n : Nat} {x : Str} {F : Fn} {e : Expr} {es : List Expr} {g : CF} {p pos : Pos} (c : Fd X.prog X.w X.K X.mg X.base k x n F) (hr : Room j X.A) (tk : L2N.Takes X W) (hg : Gl X x) (hk : k ≤ j := by decide) (hdb : (x == ("__debug__" : Str)) = false := by decide)
    (he : starEach (e :: es) X.env = (false, eval e X.env) :: starEach es X.env := by rfl) (hpl : (backTo pos (starEach es X.env)).any (·.1) = false := by rfl) : CD X W (e :: es) g → ED X W (.Call (.Name x p) (e :: es) [] pos) (eUser n F g)
  | ⟨_, q, s⟩ => by
    obtain ⟨f, fd, ps, hl, FO, hm, kp, hb⟩ := c.h
    exact ⟨_, pe_callS FO (hr.mono hk) hg hm kp hb (fun σ => L2N.passAt tk σ) q hdb he hpl, rd_call s⟩
theorem ed_call0 {k j : Nat} {x : Str} {F : Fn} {p pos : Pos} (c : Fd X.prog X.w X.K X.mg X.base k x 0 F) (hr : Room j X.A) (hg : Gl X x) (hk : k ≤ j := by decide) (hdb : (x == ("__debug__" : Str)) = false := by decide) : ED X W (.Call (.Name x p) [] [] pos) (eUser0 F) := by
  obtain ⟨f, fd, ps, hl, FO, hm, kp, hb⟩ := c.h
  refine ⟨_, pe_call0 (dvs := []) (E := E0) FO (hr.mono hk) hg hm kp hb .nil (fun _ _ _ _ _ _ _ h => by
    obtain ⟨_, _, _, _, _, _, _, _, _, _, _, _, z⟩ := h
    exact z.elim) hdb, fun G H σ ρ Q a h => ?_⟩
  have hF : ∃ r, F [] = .ok r := by
    unfold eUser0 at h
    cases q : F [] with
    | ok r => exact ⟨r, rfl⟩
    | ex c => rw [q] at h; exact h.elim
    | bad => rw [q] at h; exact h.elim
  obtain ⟨r, hF⟩ := hF
  have h2 : Wh X W σ G H ρ (QE X.K Q) (.ok (r.1, ρ)) := by
    unfold eUser0 at h
    rw [hF] at h
    exact h
  have ae : AtE X.K G H (([] : List V).map some) [] := ⟨a.ex, rfl, fun i s e q => by simp at q, fun i j p xs ys q => by simp at q, a.tb⟩
  refine ⟨rfl, G, [], ae, ?_⟩
  show wp (F []) _ _
  rw [hF]
  exact fun G' H' af v av => h2 G' H' (Af.grow a (af.st.weak fun p ⟨i, xs, q, _⟩ => by simp at q) af.en.ex) v av
end
end Pd
end

section
/-! Pd, part 7: statements, targets, loops, a def by its body. -/
namespace Pd
open PySem L2 Evl PyProof.Rows

/-! ### the environment of a body -/
structure Bd where
  F : Hp
  G : Hp
  H : Hp
  σ : L2.St
  as : List Sl
structure EnS (K : Fg) (B : Bd) (n : Nat) (G H : Hp) (σ : L2.St) (ρ : List Sl) : Prop where
  en : AtE K G H σ ρ
  st : Stp K (Mt B.σ B.as) B.G B.H G H
  fr : ∀ p, Mt σ ρ p → Mt B.σ B.as p ∨ Nl B.H p
  ar : ∀ (i : Nat) (xs : List D), B.as[i]? = some (Sl.m xs) → σ[i]? = B.σ[i]? ∧ ∃ ys, ρ[i]? = some (Sl.m ys)
  np : B.as.length = n
  ab : AtE K B.G B.H B.σ B.as
  fl : Ex B.F G
section
variable {K : Fg} {B : Bd} {n : Nat} {G H G' H' : Hp} {σ σ' : L2.St} {ρ ρ' : List Sl}
theorem EnS.af (e : EnS K B n G H σ ρ) (a : Af K σ G H ρ G' H' ρ') : EnS K B n G' H' σ ρ' :=
  ⟨a.en, e.st.trans a.st e.fr, fun p m => e.fr p ((a.mt p).mp m), fun i xs h => ⟨(e.ar i xs h).1, (a.sh i).mpr (e.ar i xs h).2⟩, e.np, e.ab, e.fl.trans a.st.ex⟩
/-- a target's stores -/
structure TgR (is : List Nat) (σ : L2.St) (ρ : List Sl) (σ' : L2.St) (ρ' : List Sl) : Prop where
  len : σ'.length = σ.length
  out : ∀ j : Nat, j ∉ is → σ'[j]? = σ[j]? ∧ ρ'[j]? = ρ[j]?
  inn : ∀ j : Nat, j ∈ is → (∀ xs, ρ[j]? ≠ some (Sl.m xs)) ∧ ∀ xs, ρ'[j]? ≠ some (Sl.m xs)
theorem TgR.refl : TgR [] σ ρ σ ρ := ⟨rfl, fun _ _ => ⟨rfl, rfl⟩, fun _ h => nomatch h⟩
theorem TgR.trans {is js : List Nat} {σ1 : L2.St} {ρ1 : List Sl} (a : TgR is σ ρ σ1 ρ1) (b : TgR js σ1 ρ1 σ' ρ') : TgR (is ++ js) σ ρ σ' ρ' where
  len := b.len.trans a.len
  out := fun j h => by
    have h1 : j ∉ is := fun z => h (List.mem_append_left _ z)
    have h2 : j ∉ js := fun z => h (List.mem_append_right _ z)
    exact ⟨(b.out j h2).1.trans (a.out j h1).1, (b.out j h2).2.trans (a.out j h1).2⟩
  inn := fun j h => by
    by_cases h1 : j ∈ is
    · refine ⟨(a.inn j h1).1, ?_⟩
      by_cases h2 : j ∈ js
      · exact (b.inn j h2).2
      · rw [(b.out j h2).2]; exact (a.inn j h1).2
    · have h2 : j ∈ js := (List.mem_append.mp h).resolve_left h1
      refine ⟨?_, (b.inn j h2).2⟩
      rw [← (a.out j h1).2]; exact (b.inn j h2).1
theorem TgR.m {is : List Nat} (t : TgR is σ ρ σ' ρ') (i : Nat) (xs : List D) : ρ'[i]? = some (Sl.m xs) ↔ ρ[i]? = some (Sl.m xs) := by
  by_cases h : i ∈ is
  · exact ⟨fun z => absurd z ((t.inn i h).2 xs), fun z => absurd z ((t.inn i h).1 xs)⟩
  · rw [(t.out i h).2]
theorem TgR.e {is : List Nat} (t : TgR is σ ρ σ' ρ') {i : Nat} {xs : List D} (h : ρ[i]? = some (Sl.m xs)) : σ'[i]? = σ[i]? := by
  by_cases h1 : i ∈ is
  · exact absurd h ((t.inn i h1).1 xs)
  · exact (t.out i h1).1
theorem TgR.mt {is : List Nat} (t : TgR is σ ρ σ' ρ') (p : Addr) : Mt σ' ρ' p ↔ Mt σ ρ p := by
  constructor
  · rintro ⟨i, xs, h1, h2⟩
    have h3 := (t.m i xs).mp h1
    rw [t.e h3] at h2
    exact ⟨i, xs, h3, h2⟩
  · rintro ⟨i, xs, h1, h2⟩
    refine ⟨i, xs, (t.m i xs).mpr h1, ?_⟩
    rw [t.e h1]; exact h2
theorem EnS.tg {is : List Nat} (e : EnS K B n G H σ ρ) (a : AtE K G H σ' ρ') (t : TgR is σ ρ σ' ρ') : EnS K B n G H σ' ρ' :=
  ⟨a, e.st, fun p m => e.fr p ((t.mt p).mp m), fun i xs h => by
    obtain ⟨h1, ys, h2⟩ := e.ar i xs h
    exact ⟨(t.e h2).trans h1, ys, (t.m i ys).mpr h2⟩, e.np, e.ab, e.fl⟩
/-- another floor -/
theorem EnS.onto (e : EnS K B n G H σ ρ) {F : Hp} (x : Ex F G) : EnS K { B with F := F } n G H σ ρ := ⟨e.en, e.st, e.fr, e.ar, e.np, e.ab, x⟩
/-- a slot of data is stored -/
def setD (i : Nat) (d : D) (ρ : List Sl) : Option (List Sl) := match ρ[i]? with
  | some (.m _) => none
  | none => none
  | some _ => some (ρ.set i (.d d))
theorem setD_at {i : Nat} {v : V} {d : D} (a : AtE K G H σ ρ) (av : At K G v d) (h : setD i d ρ = some ρ') : AtE K G H (σ.set i (some v)) ρ' ∧ TgR [i] σ ρ (σ.set i (some v)) ρ' := by
  have hs : (∀ xs, ρ[i]? ≠ some (Sl.m xs)) ∧ i < ρ.length ∧ ρ' = ρ.set i (.d d) := by
    unfold setD at h
    split at h
    · cases h
    · cases h
    · rename_i s hm e
      cases h
      exact ⟨fun xs z => hm xs (Option.some.inj (e.symm.trans z)), (List.getElem?_eq_some_iff.mp e).1, rfl⟩
  obtain ⟨hm, hi, rfl⟩ := hs
  have hiσ : i < σ.length := by rw [← a.len]; exact hi
  have get1 : ∀ j : Nat, j ≠ i → (σ.set i (some v))[j]? = σ[j]? ∧ (ρ.set i (.d d))[j]? = ρ[j]? := fun j hj => ⟨List.getElem?_set_ne (Ne.symm hj), List.getElem?_set_ne (Ne.symm hj)⟩
  refine ⟨⟨a.ex, by simpa using a.len, fun j s en h1 h2 => ?_, fun j k p xs ys h1 h2 h3 h4 => ?_, a.tb⟩, ⟨by simp, fun j hj => get1 j (by simpa using hj), fun j hj => ?_⟩⟩
  · by_cases hj : j = i
    · subst hj
      rw [List.getElem?_set_self hi] at h1
      rw [List.getElem?_set_self hiσ] at h2
      cases h1; cases h2
      exact ⟨v, rfl, av⟩
    · rw [(get1 j hj).2] at h1
      rw [(get1 j hj).1] at h2
      exact a.sl j s en h1 h2
  · have nj : ∀ (j : Nat) (xs : List D), (ρ.set i (.d d))[j]? = some (Sl.m xs) → j ≠ i := fun j xs q z => by
      subst z
      rw [List.getElem?_set_self hi] at q; cases q
    have n1 := nj j xs h1
    have n2 := nj k ys h2
    rw [(get1 j n1).2] at h1
    rw [(get1 k n2).2] at h2
    rw [(get1 j n1).1] at h3
    rw [(get1 k n2).1] at h4
    exact a.dj j k p xs ys h1 h2 h3 h4
  · have e : j = i := by simpa using hj
    subst e
    refine ⟨hm, fun xs z => ?_⟩
    rw [List.getElem?_set_self hi] at z; cases z
/-- what a def's own lists hold at its end -/
@[simp] def keep1 : Sl → Sl → Sl
  | .m _, r => r
  | a, _ => a
@[simp] def keepM (as ρ : List Sl) : List Sl := List.zipWith keep1 as ρ
end

/-! ### targets -/
abbrev GF := D → List Sl → Option (List Sl)
abbrev GFs := List D → List Sl → Option (List Sl)
section
variable {X : Cx} {W : WX}
/-- what is wanted behind a target -/
def Gt (K : Fg) (is : List Nat) (G H : Hp) (σ : L2.St) (ρ : List Sl) (Q : L2.St → Hp → Prop) (r : Option (List Sl)) : Prop := match r with
  | some ρ' => ∀ σ', AtE K G H σ' ρ' → TgR is σ ρ σ' ρ' → Q σ' H
  | none => False
def GD (X : Cx) (is : List Nat) (e : Expr) (g : GF) : Prop := ∃ t, PG X e t ∧ ∀ (G H : Hp) (σ : L2.St) (ρ : List Sl) (v : V) (d : D) (Q : L2.St → Hp → Prop), AtE X.K G H σ ρ → At X.K G v d → Gt X.K is G H σ ρ Q (g d ρ) → t v σ H Q
def GDs (X : Cx) (is : List Nat) (es : List Expr) (g : GFs) : Prop := ∃ t, PGs X es t ∧ ∀ (G H : Hp) (σ : L2.St) (ρ : List Sl) (vs : List V) (ds : List D) (Q : L2.St → Hp → Prop), AtE X.K G H σ ρ → AtL X.K G vs ds → Gt X.K is G H σ ρ Q (g ds ρ) → t vs σ H Q
theorem gd_name (i : Nat) {x : Str} {pos : Pos} (hN : X.N.Nodup) (hi : X.N[i]? = some x := by rfl) (hx : Loc X.env.scope x := by first | exact Or.inl rfl | exact Or.inr rfl) (hf : X.fn x = true ∨ X.env.scope.names.lookup x = some .local := by first | exact .inl rfl | exact .inr rfl | assumption) : GD X [i] (.Name x pos) (setD i) :=
  ⟨_, pg_name hN hi hx hf, fun G H σ ρ v d Q a av h => by
    cases q : setD i d ρ with
    | none => rw [q] at h; exact h.elim
    | some ρ' =>
      rw [q] at h
      obtain ⟨a', t'⟩ := setD_at a av q
      exact h _ a' t'⟩
@[simp] def gsNil : GFs := fun ds ρ => match ds with
  | [] => some ρ
  | _ => none
@[simp] def gsCons (g : GF) (gs : GFs) : GFs := fun ds ρ => match ds with
  | d :: r => (g d ρ).bind fun ρ' => gs r ρ'
  | [] => none
theorem gds_nil : GDs X [] [] gsNil := ⟨_, pgs_nil, fun G H σ ρ vs ds Q a av h => by
  unfold gsNil at h
  split at h
  · cases av
    exact ⟨rfl, h σ a TgR.refl⟩
  · exact h.elim⟩
theorem gds_cons {is js : List Nat} {e : Expr} {es : List Expr} {g : GF} {gs : GFs} (hs : (assignEach (e :: es) X.env).map (·.2) = assign e X.env :: (assignEach es X.env).map (·.2) := by rfl) : GD X is e g → GDs X js es gs → GDs X (is ++ js) (e :: es) (gsCons g gs)
  | ⟨_, p, r⟩, ⟨_, q, s⟩ => ⟨_, pgs_cons p q hs, fun G H σ ρ vs ds Q a av h => by
    unfold gsCons at h
    cases av with
    | nil => exact h.elim
    | @cons v vs d ds a1 a2 =>
      refine ⟨v, vs, rfl, r G H σ ρ v d _ a a1 ?_⟩
      cases q1 : g d ρ with
      | none => simp only [q1] at h; exact h.elim
      | some ρ1 =>
        simp only [q1, Option.bind_some] at h
        refine fun σ1 b1 t1 => s G H σ1 ρ1 vs ds Q b1 a2 ?_
        cases q2 : gs ds ρ1 with
        | none => rw [q2] at h; exact h.elim
        | some ρ2 =>
          rw [q2] at h
          exact fun σ2 b2 t2 => h σ2 b2 (t1.trans t2)⟩
@[simp] def gTupD (n : Nat) (gs : GFs) : GF := fun d ρ => match d with
  | .tuple xs => if xs.length = n then gs xs ρ else none
  | _ => none
theorem gd_tup {is : List Nat} {es : List Expr} {k n : Nat} {gs : GFs} {pos : Pos} (hc : X.calm = true) (hn : (assignEach es X.env).length = n := by rfl) (hst : (assignEach es X.env).findIdx? (·.1) = none := by rfl) : GDs X is es gs → GD X is (.Tuple es k pos) (gTupD n gs)
  | ⟨_, p, r⟩ => ⟨_, pg_tup hc p hn hst, fun G H σ ρ v d Q a av h => by
    unfold gTupD at h
    split at h
    · rename_i xs
      by_cases c : xs.length = n
      · simp only [c, if_true] at h
        cases av with
        | tup h1 h2 => exact ⟨_, _, rfl, ex_t a.ex h1, by rw [h2.length]; exact c, r G H σ ρ _ _ Q a h2 h⟩
      · simp only [c, if_false] at h
        exact h.elim
    · exact h.elim⟩

/-! ### statements -/
inductive Fl where
  | nx (ρ : List Sl)
  | rt (d : D) (ρ : List Sl)
  | bk (ρ : List Sl)
  | ct (ρ : List Sl)
abbrev SF := List Sl → R Fl
def QS (K : Fg) (B : Bd) (n : Nat) (D' : Ends) : Fl → Prop
  | .nx ρ' => ∀ σ' G' H', EnS K B n G' H' σ' ρ' → D'.nx σ' H'
  | .rt d ρ' => ∀ v σ' G' H', EnS K B n G' H' σ' ρ' → At K G' v d → D'.rt v H'
  | .bk ρ' => ∀ σ' G' H', EnS K B n G' H' σ' ρ' → D'.bk σ' H'
  | .ct ρ' => ∀ σ' G' H', EnS K B n G' H' σ' ρ' → D'.ct σ' H'
def QX (mg : Str → Option Value) (K : Fg) (B : Bd) (W : WX) (c : Xc) : Prop := ∀ cls dd σ' G' H', Stp K (Mt B.σ B.as) B.G B.H G' H' → AtX mg K G' H' c cls dd → W cls dd σ' H'
def RdS (X : Cx) (W : WX) (n : Nat) (t : TS) (F : SF) : Prop := ∀ (B : Bd) (D' : Ends) (G H : Hp) (σ : L2.St) (ρ : List Sl), EnS X.K B n G H σ ρ → wp (F ρ) (QS X.K B n D') (QX X.mg X.K B W) → t D' σ H
def SD (X : Cx) (W : WX) (n : Nat) (s : Stmt) (F : SF) : Prop := ∃ t, PS X s t ∧ RdS X W n t F
def SDs (X : Cx) (W : WX) (n : Nat) (s : List Stmt) (F : SF) : Prop := ∃ t, PSs X s t ∧ RdS X W n t F
theorem QX.gv {K : Fg} {mg : Str → Option Value} {B : Bd} {n : Nat} {G H : Hp} {σ : L2.St} {ρ : List Sl} {c : Xc} (h : QX mg K B W c) (e : EnS K B n G H σ ρ) : GvX mg K σ G H ρ W c := fun cls dd G' H' st x =>
  h cls dd σ G' H' (e.st.trans st e.fr) x
/-- an expression first, in a statement -/
theorem RdE.useS {n : Nat} {t : TE} {F : EF} (ra : RdE X W t F) {B : Bd} {D' : Ends} {G H : Hp} {σ : L2.St} {ρ : List Sl} (e : EnS X.K B n G H σ ρ) {k : PyData × List Sl → R Fl} {C : VK} (h : wp (F ρ >>= k) (QS X.K B n D') (QX X.mg X.K B W))
    (c : ∀ d ρ1 v G1 H1, EnS X.K B n G1 H1 σ ρ1 → Ex G G1 → At X.K G1 v d → wp (k (d, ρ1)) (QS X.K B n D') (QX X.mg X.K B W) → C v H1) : t σ H C :=
  ra G H σ ρ C e.en (wp_mono (wp_bind.mp h) (fun r hr G1 H1 af v at1 => c r.1 r.2 v G1 H1 (e.af af) af.st.ex at1 hr) fun _ q => q.gv e)
theorem RdT.useS {n : Nat} {t : TT} {F : TF} (ra : RdT X W t F) {B : Bd} {D' : Ends} {G H : Hp} {σ : L2.St} {ρ : List Sl} (e : EnS X.K B n G H σ ρ) {k : Bool × List Sl → R Fl} {C : Bool → Hp → Prop} (h : wp (F ρ >>= k) (QS X.K B n D') (QX X.mg X.K B W))
    (c : ∀ b ρ1 G1 H1, EnS X.K B n G1 H1 σ ρ1 → Ex G G1 → wp (k (b, ρ1)) (QS X.K B n D') (QX X.mg X.K B W) → C b H1) : t σ H C :=
  ra G H σ ρ C e.en (wp_mono (wp_bind.mp h) (fun r hr G1 H1 af => c r.1 r.2 G1 H1 (e.af af) af.st.ex hr) fun _ q => q.gv e)
variable {n : Nat}
@[simp] def sNx : SF := fun ρ => .ok (.nx ρ)
@[simp] def sSeq (f g : SF) : SF := fun ρ => f ρ >>= fun r => match r with
  | .nx ρ' => g ρ'
  | r => .ok r
@[simp] def sRet (f : EF) : SF := fun ρ => f ρ >>= fun r => .ok (.rt r.1 r.2)
@[simp] def sRetN : SF := fun ρ => .ok (.rt .none ρ)
@[simp] def sIf (t : TF) (f g : SF) : SF := fun ρ => t ρ >>= fun r => if r.1 = true then f r.2 else g r.2
@[simp] def sDrop (f : EF) : SF := fun ρ => f ρ >>= fun r => .ok (.nx r.2)
@[simp] def sAsg (f : EF) (g : GF) : SF := fun ρ => f ρ >>= fun r => li (g r.1 r.2) >>= fun ρ' => .ok (.nx ρ')
@[simp] def sBk : SF := fun ρ => .ok (.bk ρ)
@[simp] def sCt : SF := fun ρ => .ok (.ct ρ)
@[simp] def sNever : SF := fun _ => .bad
@[simp] def sRaise (x : Str) : SF := fun _ => .ex ⟨x, none⟩
theorem sds_nil : SDs X W n [] sNx := ⟨_, pss_nil, fun B D' G H σ ρ e h => h σ G H e⟩
theorem sds_one {s : Stmt} {f : SF} : SD X W n s f → SDs X W n [s] f
  | ⟨_, p, r⟩ => ⟨_, pss_one p, r⟩
theorem sds_cons {s : Stmt} {ss : List Stmt} {f g : SF} : SD X W n s f → SDs X W n ss g → SDs X W n (s :: ss) (sSeq f g)
  | ⟨_, p, r⟩, ⟨_, q, u⟩ => ⟨_, pss_cons p q, fun B D' G H σ ρ e h => r B _ G H σ ρ e (wp_mono (wp_bind.mp h) (fun fl hf => by
    cases fl with
    | nx ρ' => exact fun σ' G' H' e' => u B D' G' H' σ' ρ' e' hf
    | rt d ρ' => exact hf
    | bk ρ' => exact hf
    | ct ρ' => exact hf) fun _ q => q)⟩
theorem sds_never {ss : List Stmt} : SDs X W n ss sNever := ⟨_, pss_never, fun B D' G H σ ρ e h => h.elim⟩
theorem sd_never {s : Stmt} : SD X W n s sNever := ⟨_, ps_never, fun B D' G H σ ρ e h => h.elim⟩
theorem sd_ret {e : Expr} {f : EF} {pos : Pos} : ED X W e f → SD X W n (.Return (some e) pos) (sRet f)
  | ⟨_, p, r⟩ => ⟨_, ps_ret p, fun B D' G H σ ρ e h => r.useS e h fun d ρ1 v G1 H1 e1 ex1 at1 h1 => h1 v σ G1 H1 e1 at1⟩
theorem sd_retN {pos : Pos} : SD X W n (.Return none pos) sRetN := ⟨_, ps_retN, fun B D' G H σ ρ e h => h .non σ G H e .non⟩
theorem sd_pass {pos : Pos} : SD X W n (.Pass pos) sNx := ⟨_, ps_pass, fun B D' G H σ ρ e h => h σ G H e⟩
theorem sd_break {pos : Pos} : SD X W n (.Break pos) sBk := ⟨_, ps_break, fun B D' G H σ ρ e h => h σ G H e⟩
theorem sd_cont {pos : Pos} : SD X W n (.Continue pos) sCt := ⟨_, ps_continue, fun B D' G H σ ρ e h => h σ G H e⟩
theorem sd_doc {x j pos pos'} : SD X W n (.Expr (.Constant (.str x) j pos) pos') sNx := ⟨_, ps_doc, fun B D' G H σ ρ e h => h σ G H e⟩
theorem sd_expr {e : Expr} {f : EF} {pos : Pos} (hs : swapsWith e none pos.line X.env = pure false := by rfl) : ED X W e f → SD X W n (.Expr e pos) (sDrop f)
  | ⟨_, p, r⟩ => ⟨_, ps_expr p hs, fun B D' G H σ ρ e h => r.useS e h fun d ρ1 v G1 H1 e1 ex1 at1 h1 => h1 σ G1 H1 e1⟩
theorem sd_if {c : Expr} {a b : List Stmt} {t : TF} {f g : SF} {pos : Pos} : TD X W c t → SDs X W n a f → SDs X W n b g → SD X W n (.If c a b pos) (sIf t f g)
  | ⟨_, p, r⟩, ⟨_, pa, ra⟩, ⟨_, pb, rb⟩ => ⟨_, ps_if p pa pb, fun B D' G H σ ρ e h => r.useS e h fun b ρ1 G1 H1 e1 ex1 h1 => by
    cases b with
    | true => exact ra B D' G1 H1 σ ρ1 e1 h1
    | false => exact rb B D' G1 H1 σ ρ1 e1 h1⟩
theorem gt_use {is : List Nat} {B : Bd} {D' : Ends} {G H : Hp} {σ : L2.St} {ρ : List Sl} {r : Option (List Sl)} (e : EnS X.K B n G H σ ρ) (h : wp (li r >>= fun ρ' => R.ok (Fl.nx ρ')) (QS X.K B n D') (QX X.mg X.K B W)) : Gt X.K is G H σ ρ D'.nx r := by
  cases r with
  | none => exact h.elim
  | some ρ' => exact fun σ' a t => h σ' G H (e.tg a t)
theorem sd_asg {is : List Nat} {tg e : Expr} {f : EF} {g : GF} {pos : Pos} (hs : swapsWithSole [tg] e pos.line X.env = pure false := by rfl) (hw : swappedStores [tg] e X.env = pure none := by rfl)
    (h1 : (assignEach [tg] X.env).map (·.2) = [assign tg X.env] := by rfl) : ED X W e f → GD X is tg g → SD X W n (.Assign [tg] e pos) (sAsg f g)
  | ⟨_, p, r⟩, ⟨_, q, u⟩ => ⟨_, ps_asg p q hs hw h1, fun B D' G H σ ρ e h => r.useS e h fun d ρ1 v G1 H1 e1 ex1 at1 h1 => u G1 H1 σ ρ1 v d _ e1.en at1 (gt_use e1 h1)⟩
theorem sd_set (i : Nat) {x : Str} {e : Expr} {f : EF} {pos pos' : Pos} (hN : X.N.Nodup) (hi : X.N[i]? = some x := by rfl) (hx : Loc X.env.scope x := by first | exact Or.inl rfl | exact Or.inr rfl) (hs : swapsWith e (some (.Name x pos')) pos.line X.env = pure false := by rfl)
    (hf : X.fn x = true ∨ X.env.scope.names.lookup x = some .local := by first | exact .inl rfl | exact .inr rfl | assumption) : ED X W e f → SD X W n (.Assign [.Name x pos'] e pos) (sAsg f (setD i))
  | ⟨_, p, r⟩ => ⟨_, ps_set hN hi hx p hs hf, fun B D' G H σ ρ e h => r.useS e h fun d ρ1 v G1 H1 e1 ex1 at1 h1 => by
    have h2 := gt_use (is := [i]) e1 h1
    cases q : setD i d ρ1 with
    | none => rw [q] at h2; exact h2.elim
    | some ρ' =>
      rw [q] at h2
      obtain ⟨a', t'⟩ := setD_at e1.en at1 q
      exact h2 _ a' t'⟩
/-- a, b = e1, e2: two plain locals -/
@[simp] def sPar (i j : Nat) (f g : EF) : SF := fun ρ => f ρ >>= fun a => g a.2 >>= fun b => li ((setD i a.1 b.2).bind fun ρ' => setD j b.1 ρ') >>= fun ρ' => .ok (.nx ρ')
theorem sd_par (i j : Nat) {x y : Str} {a b : Expr} {f g : EF} {px py pt pos : Pos} {kt k2 pt2} (hc : X.calm = true) (hN : X.N.Nodup) (hi : X.N[i]? = some x := by rfl) (hj : X.N[j]? = some y := by rfl) (hij : i ≠ j := by decide)
    (hx : X.env.scope.names.lookup x = some .local := by rfl) (hy : X.env.scope.names.lookup y = some .local := by rfl)
    (hw : swappedStores [.Tuple [.Name x px, .Name y py] kt pt] (.Tuple [a, b] k2 pt2) X.env = pure (some [x, y]) := by rfl)
    (hs : swapsWithSole [.Tuple [.Name x px, .Name y py] kt pt] (.Tuple [a, b] k2 pt2) pos.line X.env = pure false := by rfl)
    (e1 : starEach [a, b] X.env = (false, eval a X.env) :: starEach [b] X.env := by rfl) (e2 : starEach [b] X.env = (false, eval b X.env) :: starEach [] X.env := by rfl) : ED X W a f → ED X W b g →
    SD X W n (.Assign [.Tuple [.Name x px, .Name y py] kt pt] (.Tuple [a, b] k2 pt2) pos) (sPar i j f g)
  | ⟨_, p, r⟩, ⟨_, q, s⟩ => ⟨_, ps_par hc hN hi hj hij hx hy (pa_cons p (pa_cons q pa_nil e2) e1) hw hs, fun B D' G H σ ρ e h => r.useS e h fun d ρ1 v G1 H1 e1 ex1 at1 h1 =>
    s.useS e1 h1 fun d2 ρ2 w G2 H2 e2 ex2 at2 h2 => by
      cases q1 : setD i d ρ2 with
      | none => simp only [q1] at h2; exact h2.elim
      | some ρ3 =>
        cases q2 : setD j d2 ρ3 with
        | none => simp only [q1, Option.bind_some, q2] at h2; exact h2.elim
        | some ρ4 =>
          simp only [q1, Option.bind_some, q2, li_some, bind_ok] at h2
          obtain ⟨a3, t3⟩ := setD_at e2.en (at1.up ex2) q1
          obtain ⟨a4, t4⟩ := setD_at a3 at2 q2
          exact ⟨v, w, rfl, h2 _ G2 H2 ((e2.tg a3 t3).tg a4 t4)⟩⟩
/-- three -/
@[simp] def sPar3 (i j l : Nat) (f g k : EF) : SF := fun ρ => f ρ >>= fun a => g a.2 >>= fun b => k b.2 >>= fun c => li ((setD i a.1 c.2).bind fun ρ' => (setD j b.1 ρ').bind fun ρ'' => setD l c.1 ρ'') >>= fun ρ' => .ok (.nx ρ')
theorem sd_par3 (i j l : Nat) {x y z : Str} {a b c : Expr} {f g k : EF} {px py pz pt pos : Pos} {kt k2 pt2} (hc : X.calm = true) (hN : X.N.Nodup) (hi : X.N[i]? = some x := by rfl) (hj : X.N[j]? = some y := by rfl) (hl : X.N[l]? = some z := by rfl) (hij : i ≠ j := by decide) (hil : i ≠ l := by decide) (hjl : j ≠ l := by decide)
    (hx : X.env.scope.names.lookup x = some .local := by rfl) (hy : X.env.scope.names.lookup y = some .local := by rfl) (hz : X.env.scope.names.lookup z = some .local := by rfl)
    (hw : swappedStores [.Tuple [.Name x px, .Name y py, .Name z pz] kt pt] (.Tuple [a, b, c] k2 pt2) X.env = pure (some [x, y, z]) := by rfl)
    (hs : swapsWithSole [.Tuple [.Name x px, .Name y py, .Name z pz] kt pt] (.Tuple [a, b, c] k2 pt2) pos.line X.env = pure false := by rfl)
    (e1 : starEach [a, b, c] X.env = (false, eval a X.env) :: starEach [b, c] X.env := by rfl) (e2 : starEach [b, c] X.env = (false, eval b X.env) :: starEach [c] X.env := by rfl) (e3 : starEach [c] X.env = (false, eval c X.env) :: starEach [] X.env := by rfl) : ED X W a f → ED X W b g → ED X W c k →
    SD X W n (.Assign [.Tuple [.Name x px, .Name y py, .Name z pz] kt pt] (.Tuple [a, b, c] k2 pt2) pos) (sPar3 i j l f g k)
  | ⟨_, p, r⟩, ⟨_, q, s⟩, ⟨_, p3, r3⟩ => ⟨_, ps_par3 hc hN hi hj hl hij hil hjl hx hy hz (pa_cons p (pa_cons q (pa_cons p3 pa_nil e3) e2) e1) hw hs, fun B D' G H σ ρ e h => r.useS e h fun d ρ1 v G1 H1 e1 ex1 at1 h1 =>
    s.useS e1 h1 fun d2 ρ2 w G2 H2 e2 ex2 at2 h2 => r3.useS e2 h2 fun d3 ρ3 u G3 H3 e3 ex3 at3 h3 => by
      cases q1 : setD i d ρ3 with
      | none => simp only [q1] at h3; exact h3.elim
      | some ρ4 =>
        cases q2 : setD j d2 ρ4 with
        | none => simp only [q1, Option.bind_some, q2] at h3; exact h3.elim
        | some ρ5 =>
          cases q3 : setD l d3 ρ5 with
          | none => simp only [q1, Option.bind_some, q2, q3] at h3; exact h3.elim
          | some ρ6 =>
            simp only [q1, Option.bind_some, q2, q3, li_some, bind_ok] at h3
            obtain ⟨a4, t4⟩ := setD_at e3.en ((at1.up ex2).up ex3) q1
            obtain ⟨a5, t5⟩ := setD_at a4 (at2.up ex3) q2
            obtain ⟨a6, t6⟩ := setD_at a5 at3 q3
            exact ⟨v, w, u, rfl, h3 _ G3 H3 (((e3.tg a4 t4).tg a5 t5).tg a6 t6)⟩⟩
end
end Pd
end

section
/-! Pd, part 8: what loops walk, for, while, comprehensions, a def by its body. -/
namespace Pd
open PySem L2 Evl PyProof.Rows

/-! ### what is walked -/
/-- J walks these items -/
structure Wk (K : Fg) (G1 : Hp) (items : List D) (J : It) : Prop where
  go : ∀ (i : Nat) (d : D) (H G : Hp), Ex G1 G → Ex G H → items[i]? = some d → J.go i H ∧ ∀ x H', J.yld i H x H' → ∃ G', Stp K No G H G' H' ∧ Ex G' H' ∧ At K G' x d
  stop : ∀ (i : Nat) (H G : Hp), Ex G1 G → Ex G H → items.length ≤ i → J.stop i H
abbrev QI (K : Fg) (R : It → Hp → Prop) : List D → Hp → Hp → Prop := fun items G1 H1 => ∀ J, Wk K G1 items J → R J H1
section
variable {X : Cx} {W : WX}
def RdI (X : Cx) (W : WX) (wi : TI) (F : AF) : Prop := ∀ (G H : Hp) (σ : L2.St) (ρ : List Sl) (R : It → Hp → Prop), AtE X.K G H σ ρ → Wh X W σ G H ρ (QI X.K R) (F ρ) → wi σ H R
def ID (X : Cx) (W : WX) (tg e : Expr) (F : AF) : Prop := ∃ wi, PI X tg e wi ∧ RdI X W wi F
theorem wk_list {K : Fg} {G : Hp} {a : Addr} {vs : List V} {ds : List D} (h : G a = some (.lst vs)) (av : AtL K G vs ds) : Wk K G ds (Itl K a) where
  go := fun i d H G' e1 e2 q => by
    have hs : SqL K H a vs := sq_of (e2 _ _ (e1 _ _ h))
    obtain ⟨v, g1, g2⟩ := av.get q
    refine ⟨⟨vs, v, hs, g1⟩, fun x H' y => ?_⟩
    obtain ⟨rfl, y⟩ := y
    have := (y vs hs).symm.trans g1
    cases this
    exact ⟨G', Stp.refl, e2, g2.up e1⟩
  stop := fun i H G' e1 e2 q => ⟨vs, sq_of (e2 _ _ (e1 _ _ h)), by rw [av.length]; exact q⟩
theorem wk_tup {K : Fg} {G : Hp} {a : Addr} {vs : List V} {ds : List D} (h : SqT K G a vs) (av : AtL K G vs ds) : Wk K G ds (Itt K a) where
  go := fun i d H G' e1 e2 q => by
    have hs : SqT K H a vs := ex_t e2 (ex_t e1 h)
    obtain ⟨v, g1, g2⟩ := av.get q
    refine ⟨⟨vs, v, hs, g1⟩, fun x H' y => ?_⟩
    obtain ⟨rfl, y⟩ := y
    have := (y vs hs).symm.trans g1
    cases this
    exact ⟨G', Stp.refl, e2, g2.up e1⟩
  stop := fun i H G' e1 e2 q => ⟨vs, ex_t e2 (ex_t e1 h), by rw [av.length]; exact q⟩
/-- the signs of a text -/
def signsD (x : Str) : List D := x.cps.toList.map fun c => .str ⟨#[c]⟩
theorem wk_str {K : Fg} {G : Hp} {x : Str} (hx : okS x = true) : Wk K G (signsD x) (Its x) where
  go := fun i d H G' e1 e2 q => by
    unfold signsD at q
    rw [List.getElem?_map] at q
    cases z : x.cps.toList[i]? with
    | none => rw [z] at q; cases q
    | some c =>
      rw [z] at q
      cases q
      have z' : x.cps[i]? = some c := by simpa using z
      refine ⟨(Array.getElem?_eq_some_iff.mp z').1, fun v H' y => ?_⟩
      obtain ⟨rfl, c', h1, rfl⟩ := y
      rw [z'] at h1
      cases h1
      exact ⟨G', Stp.refl, e2, .str _ (okS_one hx (List.mem_of_getElem? z))⟩
  stop := fun i H G' e1 e2 q => by
    unfold signsD at q
    show x.cps.size ≤ i
    simpa using q
theorem wk_range {K : Fg} {G : Hp} {lo : Int} {n : Nat} : Wk K G ((List.range n).map fun (k : Nat) => .int (lo + k)) (Itr lo n) where
  go := fun i d H G' e1 e2 q => by
    rw [List.getElem?_map] at q
    cases z : (List.range n)[i]? with
    | none => rw [z] at q; cases q
    | some c =>
      rw [z] at q
      cases q
      obtain ⟨hi, hc⟩ := List.getElem?_eq_some_iff.mp z
      simp at hi hc
      subst hc
      refine ⟨hi, fun v H' y => ?_⟩
      obtain ⟨rfl, rfl⟩ := y
      exact ⟨G', Stp.refl, e2, .int _⟩
  stop := fun i H G' e1 e2 q => by
    show n ≤ i
    simpa using q
def iterD : D → Option (List D)
  | .list xs => some xs
  | .tuple xs => some xs
  | .str x => some (signsD x)
  | _ => none
@[simp] theorem iterD_t (xs : List D) : iterD (.tuple xs) = some xs := rfl
@[simp] theorem iterD_l (xs : List D) : iterD (.list xs) = some xs := rfl
@[simp] theorem iterD_s (x : Str) : iterD (.str x) = some (signsD x) := rfl
@[simp] def iAny (f : EF) : AF := fun ρ => f ρ >>= fun r => li (iterD r.1) >>= fun xs => .ok (xs, r.2)
/-- a list, a tuple or a text -/
def wiAny (K : Fg) (te : TE) : TI := fun σ H R => te σ H fun x H1 => (∃ a, x = .ref a ∧ (∃ xs, SqL K H1 a xs) ∧ R (Itl K a) H1) ∨ (∃ a, x = .ref a ∧ (∃ xs, SqT K H1 a xs) ∧ R (Itt K a) H1) ∨ ∃ z, x = .str z ∧ R (Its z) H1
theorem pi_any {tg e : Expr} {te : TE} (he : PE X e te) : PI X tg e (wiAny X.K te) := by
  refine ⟨fun pins s σ H R I h => ?_⟩
  refine thn (he.run pins s σ H _ I h) fun v s1 ⟨x, H1, I1, r1, q1⟩ => ?_
  rcases q1 with ⟨a, e, ⟨xs, hq⟩, q⟩ | ⟨a, e, ⟨xs, hq⟩, q⟩ | ⟨z, e, q⟩
  · subst e
    cases r1
    obtain ⟨its, rv, p, hz⟩ := I1.list hq
    refine wpAny_pyIter_list p.isList ?_
    refine ⟨s1.heap.objs.size, [s1.heap.objs.size], _, _, H1, rfl, I1.kept (t' := s1.toks) fun b o e => Heap.get?_push_of_some _ e, turn_list a _, ⟨_, Heap.get?_push_size _ rfl, rfl, rfl⟩, fun b hb => ?_, q⟩
    have e : b = s1.heap.objs.size := by simpa using hb
    subst e
    exact I1.fpOk (Nat.le_refl _) (I1.hok.fresh (Nat.le_refl _))
  · subst e
    cases r1
    obtain ⟨its, rv, p, hz⟩ := I1.tuple hq
    refine wpAny_pyIter_tuple (show s1.heap.IsTuple a its.toArray from p) ?_
    refine ⟨s1.heap.objs.size, [s1.heap.objs.size], _, _, H1, rfl, I1.kept (t' := s1.toks) fun b o e => Heap.get?_push_of_some _ e, turn_tuple a _, ⟨_, Heap.get?_push_size _ rfl, rfl, rfl⟩, fun b hb => ?_, q⟩
    have e : b = s1.heap.objs.size := by simpa using hb
    subst e
    exact I1.fpOk (Nat.le_refl _) (I1.hok.fresh (Nat.le_refl _))
  · subst e
    obtain ⟨t, rfl⟩ := r1
    cases ha : z.cps.all (· < 128)
    · exact wpAny_pyIter_wide ha (pi_one (tk := s1.toks) I1 _ (turn_str _ z t "str_iterator" (.inr rfl)) ⟨_, Heap.get?_push_size _ rfl, rfl, rfl⟩ q)
    · exact wpAny_pyIter_ascii ha (pi_one (tk := s1.toks) I1 _ (turn_str _ z t "str_ascii_iterator" (.inl rfl)) ⟨_, Heap.get?_push_size _ rfl, rfl, rfl⟩ q)
theorem id_any {tg e : Expr} {f : EF} : ED X W e f → ID X W tg e (iAny f)
  | ⟨_, p, r⟩ => ⟨_, pi_any p, fun G H σ ρ R a h => r.use a (P := QI X.K R) h fun d ρ1 v G1 H1 a1 af1 at1 h1 => by
    cases at1 with
    | lst h2 h3 => exact .inl ⟨_, rfl, ⟨_, sq_of (a1.ex _ _ h2)⟩, Wh.here (P := QI X.K R) h1 a1 _ (wk_list h2 h3)⟩
    | tup h2 h3 => exact .inr (.inl ⟨_, rfl, ⟨_, ex_t a1.ex h2⟩, Wh.here (P := QI X.K R) h1 a1 _ (wk_tup h2 h3)⟩)
    | str x hx => exact .inr (.inr ⟨_, rfl, Wh.here (P := QI X.K R) h1 a1 _ (wk_str hx)⟩)
    | _ => exact h1.elim⟩
/-- range(n), range(a, b) -/
def smallI (i : Int) : Bool := decide (-4611686018427387904 ≤ i) && decide (i < 4611686018427387904)
theorem smallI.ok {i : Int} (h : smallI i = true) : -(2 ^ 62) ≤ i ∧ i < 2 ^ 62 := by
  unfold smallI at h
  obtain ⟨h1, h2⟩ := Bool.and_eq_true_iff.mp h
  have h1 := of_decide_eq_true h1
  have h2 := of_decide_eq_true h2
  omega
@[simp] def iR1 (f : EF) : AF := fun ρ => f ρ >>= fun r => match r.1 with
  | .int n => if smallI n = true then .ok (rgL 0 n, r.2) else .bad
  | _ => .bad
@[simp] def iR2 (f g : EF) : AF := fun ρ => f ρ >>= fun a => g a.2 >>= fun b => match a.1, b.1 with
  | .int i, .int j => if (smallI i && smallI j) = true then .ok (rgL i j, b.2) else .bad
  | _, _ => .bad
theorem rd_r1 {ta : TE} {f : EF} (r : RdE X W ta f) : RdI X W (iRng1 (tCons ta tNil)) (iR1 f) := fun G H σ ρ R a h => r.use a (P := QI X.K R) h fun d ρ1 v G1 H1 a1 af1 at1 h1 => by
    cases at1 with
    | int n =>
      by_cases c : smallI n = true
      · simp only [c, if_true] at h1
        refine ⟨n, rfl, (smallI.ok c).1, (smallI.ok c).2, Wh.here (P := QI X.K R) h1 a1 _ ?_⟩
        have := wk_range (K := X.K) (G := G1) (lo := 0) (n := n.toNat)
        unfold rgL
        rw [show n - 0 = n by omega]
        exact this
      · simp only [c] at h1
        exact h1.elim
    | _ => exact h1.elim
theorem id_r1 {tg a : Expr} {f : EF} {p pos : Pos} (hg : Gl X "range") (hm : X.mg "range" = none) (hs : starEach [a] X.env = [(false, eval a X.env)] := by rfl) : ED X W a f → ID X W tg (.Call (.Name "range" p) [a] [] pos) (iR1 f)
  | ⟨_, q, r⟩ => ⟨_, pi_range1 hg hm (pa_cons q pa_nil hs) hs, rd_r1 r⟩
theorem id_r2 {tg a b : Expr} {f g : EF} {p pos : Pos} (hg : Gl X "range") (hm : X.mg "range" = none) (hs : starEach [a, b] X.env = [(false, eval a X.env), (false, eval b X.env)] := by rfl) (hs2 : starEach [b] X.env = [(false, eval b X.env)] := by rfl) : ED X W a f → ED X W b g → ID X W tg (.Call (.Name "range" p) [a, b] [] pos) (iR2 f g)
  | ⟨_, q, r⟩, ⟨_, q2, r2⟩ => ⟨_, pi_range2 hg hm (pa_cons q (pa_cons q2 pa_nil hs2) (by rw [hs, hs2])) hs hs2, fun G H σ ρ R a h => r.use a (P := QI X.K R) h fun d ρ1 v G1 H1 a1 af1 at1 h1 =>
    r2.use a1 (P := QI X.K R) h1 fun d2 ρ2 v2 G2 H2 a2 af2 at2 h2 => by
      cases at1 with
      | int i =>
        cases at2 with
        | int j =>
          by_cases c : (smallI i && smallI j) = true
          · simp only [c, if_true] at h2
            obtain ⟨c1, c2⟩ := Bool.and_eq_true_iff.mp c
            exact ⟨i, j, rfl, ⟨(smallI.ok c1).1, (smallI.ok c1).2, (smallI.ok c2).1, (smallI.ok c2).2⟩, Wh.here (P := QI X.K R) h2 a2 _ wk_range⟩
          · simp only [c] at h2
            exact h2.elim
        | _ => exact h2.elim
      | _ => exact h2.elim⟩
/-- zip of two lists, of two tuples -/
def zipD : D → D → Option (List D)
  | .list xs, .list ys => some (List.zipWith (fun a b => .tuple [a, b]) xs ys)
  | .tuple xs, .tuple ys => some (List.zipWith (fun a b => .tuple [a, b]) xs ys)
  | _, _ => none
@[simp] theorem zipD_l (xs ys : List D) : zipD (.list xs) (.list ys) = some (List.zipWith (fun a b => .tuple [a, b]) xs ys) := rfl
@[simp] theorem zipD_t (xs ys : List D) : zipD (.tuple xs) (.tuple ys) = some (List.zipWith (fun a b => .tuple [a, b]) xs ys) := rfl
@[simp] def iZip2 (f g : EF) : AF := fun ρ => f ρ >>= fun a => g a.2 >>= fun b => li (zipD a.1 b.1) >>= fun xs => .ok (xs, b.2)
theorem zip_get {xs ys : List D} {i : Nat} {d : D} (h : (List.zipWith (fun a b => (.tuple [a, b] : D)) xs ys)[i]? = some d) : ∃ a b, xs[i]? = some a ∧ ys[i]? = some b ∧ d = .tuple [a, b] := by
  rw [List.getElem?_zipWith] at h
  cases q1 : xs[i]? with
  | none => rw [q1] at h; simp at h
  | some a =>
    cases q2 : ys[i]? with
    | none => rw [q1, q2] at h; simp at h
    | some b =>
      rw [q1, q2] at h
      simp at h
      exact ⟨a, b, rfl, rfl, h.symm⟩
theorem pair_new {K : Fg} {G H : Hp} {T : Addr} {x y : V} {a b : D} (e : Ex G H) (hT : H T = none) (ax : At K G x a) (ay : At K G y b) : ∃ G', Stp K No G H G' (upd H T (.tup [x, y])) ∧ Ex G' (upd H T (.tup [x, y])) ∧ At K G' (.ref T) (.tuple [a, b]) :=
  ⟨upd G T (.tup [x, y]), Stp.new e hT, ex_upd2 e, .tup (st_of upd_same) (.cons (ax.up (Ex.new (fresh_back e hT))) (.cons (ay.up (Ex.new (fresh_back e hT))) .nil))⟩
theorem wk_zipL {K : Fg} {G : Hp} {a b : Addr} {vs ws : List V} {xs ys : List D} (h : G a = some (.lst vs)) (av : AtL K G vs xs) (h' : G b = some (.lst ws)) (aw : AtL K G ws ys) : Wk K G (List.zipWith (fun a b => .tuple [a, b]) xs ys) (Itz K a b) where
  go := fun i d H G' e1 e2 q => by
    obtain ⟨p, r, q1, q2, rfl⟩ := zip_get q
    have hs : SqL K H a vs := sq_of (e2 _ _ (e1 _ _ h))
    have hs' : SqL K H b ws := sq_of (e2 _ _ (e1 _ _ h'))
    obtain ⟨v, g1, g2⟩ := av.get q1
    obtain ⟨w, g3, g4⟩ := aw.get q2
    refine ⟨⟨vs, ws, v, w, hs, hs', g1, g3⟩, fun x H' y => ?_⟩
    obtain ⟨T, x1, x2, rfl, nT, rfl, f1, f2⟩ := y
    have z1 := (f1 vs hs).symm.trans g1
    have z2 := (f2 ws hs').symm.trans g3
    cases z1; cases z2
    exact pair_new e2 nT (g2.up e1) (g4.up e1)
  stop := fun i H G' e1 e2 q => ⟨vs, ws, sq_of (e2 _ _ (e1 _ _ h)), sq_of (e2 _ _ (e1 _ _ h')), by
    rw [List.length_zipWith] at q
    rw [av.length, aw.length]
    omega⟩
theorem wk_zipT {K : Fg} {G : Hp} {a b : Addr} {vs ws : List V} {xs ys : List D} (h : SqT K G a vs) (av : AtL K G vs xs) (h' : SqT K G b ws) (aw : AtL K G ws ys) : Wk K G (List.zipWith (fun a b => .tuple [a, b]) xs ys) (RZ.ItzT K a b) where
  go := fun i d H G' e1 e2 q => by
    obtain ⟨p, r, q1, q2, rfl⟩ := zip_get q
    have hs : SqT K H a vs := ex_t e2 (ex_t e1 h)
    have hs' : SqT K H b ws := ex_t e2 (ex_t e1 h')
    obtain ⟨v, g1, g2⟩ := av.get q1
    obtain ⟨w, g3, g4⟩ := aw.get q2
    refine ⟨⟨vs, ws, v, w, hs, hs', g1, g3⟩, fun x H' y => ?_⟩
    obtain ⟨T, x1, x2, rfl, nT, rfl, f1, f2⟩ := y
    have z1 := (f1 vs hs).symm.trans g1
    have z2 := (f2 ws hs').symm.trans g3
    cases z1; cases z2
    exact pair_new e2 nT (g2.up e1) (g4.up e1)
  stop := fun i H G' e1 e2 q => ⟨vs, ws, ex_t e2 (ex_t e1 h), ex_t e2 (ex_t e1 h'), by
    rw [List.length_zipWith] at q
    rw [av.length, aw.length]
    omega⟩
theorem id_zip {elts : List Expr} {kk : Nat} {tpos : Pos} {a b : Expr} {f g : EF} {p pos : Pos} (hg : Gl X "zip") (hm : X.mg "zip" = none) (hs : starEach [a, b] X.env = (false, eval a X.env) :: starEach [b] X.env := by rfl) (hs2 : starEach [b] X.env = (false, eval b X.env) :: starEach [] X.env := by rfl)
    (hpl : (backTo pos (starEach [b] X.env)).any (·.1) = false := by rfl) : ED X W a f → ED X W b g → ID X W (.Tuple elts kk tpos) (.Call (.Name "zip" p) [a, b] [] pos) (iZip2 f g)
  | ⟨_, q, r⟩, ⟨_, q2, r2⟩ => ⟨_, RZ.pi_zipA hg hm (pa_cons q (pa_cons q2 pa_nil hs2) hs) hs hpl, fun G H σ ρ R a h => r.use a (P := QI X.K R) h fun d ρ1 v G1 H1 a1 af1 at1 h1 =>
    r2.use a1 (P := QI X.K R) h1 fun d2 ρ2 v2 G2 H2 a2 af2 at2 h2 => by
      have at1' := at1.up af2.st.ex
      cases at1' with
      | lst g1 g2 =>
        cases at2 with
        | lst g3 g4 => exact ⟨_, _, _, _, rfl, .inl ⟨sq_of (a2.ex _ _ g1), sq_of (a2.ex _ _ g3), Wh.here (P := QI X.K R) h2 a2 _ (wk_zipL g1 g2 g3 g4)⟩⟩
        | _ => exact h2.elim
      | tup g1 g2 =>
        cases at2 with
        | tup g3 g4 => exact ⟨_, _, _, _, rfl, .inr ⟨ex_t a2.ex g1, ex_t a2.ex g3, Wh.here (P := QI X.K R) h2 a2 _ (wk_zipT g1 g2 g3 g4)⟩⟩
        | _ => exact h2.elim
      | _ => exact h2.elim⟩
/-- enumerate of a list -/
def enumL : Nat → List D → List D
  | _, [] => []
  | i, x :: xs => .tuple [.int i, x] :: enumL (i + 1) xs
@[simp] def iEnumL (f : EF) : AF := fun ρ => f ρ >>= fun a => match a.1 with
  | .list xs => .ok (enumL 0 xs, a.2)
  | _ => .bad
theorem enum_get : ∀ {xs : List D} {k i : Nat} {d : D}, (enumL k xs)[i]? = some d → ∃ x, xs[i]? = some x ∧ d = .tuple [.int ((k + i : Nat) : Int), x]
  | [], _, _, _, h => by simp [enumL] at h
  | x :: xs, k, 0, d, h => by
    simp [enumL] at h
    exact ⟨x, rfl, h.symm⟩
  | x :: xs, k, i + 1, d, h => by
    obtain ⟨y, h1, h2⟩ := enum_get (xs := xs) (k := k + 1) (i := i) (d := d) (by simpa [enumL] using h)
    exact ⟨y, by simpa using h1, by rw [h2, show k + 1 + i = k + (i + 1) by omega]⟩
theorem enum_len : ∀ (xs : List D) (k : Nat), (enumL k xs).length = xs.length
  | [], _ => rfl
  | x :: xs, k => by simp [enumL, enum_len xs (k + 1)]
theorem id_enum {elts : List Expr} {kk : Nat} {tpos : Pos} {a : Expr} {f : EF} {p pos : Pos} (hg : Gl X "enumerate") (hm : X.mg "enumerate" = none) (hs : starEach [a] X.env = [(false, eval a X.env)] := by rfl) : ED X W a f → ID X W (.Tuple elts kk tpos) (.Call (.Name "enumerate" p) [a] [] pos) (iEnumL f)
  | ⟨_, q, r⟩ => ⟨_, pi_enum hg hm (pa_cons q pa_nil hs) hs, fun G H σ ρ R a h => r.use a (P := QI X.K R) h fun d ρ1 v G1 H1 a1 af1 at1 h1 => by
    cases at1 with
    | @lst p vs xs g1 g2 =>
      refine ⟨p, vs, rfl, sq_of (a1.ex _ _ g1), Wh.here (P := QI X.K R) h1 a1 _ ⟨fun i d H G' e1 e2 q => ?_, fun i H G' e1 e2 q => ?_⟩⟩
      · obtain ⟨x, q1, rfl⟩ := enum_get q
        have hs : SqL X.K H p vs := sq_of (e2 _ _ (e1 _ _ g1))
        obtain ⟨v, k1, k2⟩ := g2.get q1
        refine ⟨⟨vs, v, hs, k1⟩, fun y H' hy => ?_⟩
        obtain ⟨T, x1, rfl, nT, rfl, f1⟩ := hy
        have z1 := (f1 vs hs).symm.trans k1
        cases z1
        rw [show 0 + i = i by omega]
        exact pair_new e2 nT (.int _) (k2.up e1)
      · refine ⟨vs, sq_of (e2 _ _ (e1 _ _ g1)), ?_⟩
        rw [enum_len] at q
        rw [g2.length]
        exact q
    | _ => exact h1.elim⟩

/-! ### for -/
def forL (g : GF) (body : SF) : List D → SF
  | [], ρ => .ok (.nx ρ)
  | x :: xs, ρ => li (g x ρ) >>= fun ρ1 => body ρ1 >>= fun r => match r with
    | .nx ρ' => forL g body xs ρ'
    | .ct ρ' => forL g body xs ρ'
    | .bk ρ' => .ok (.nx ρ')
    | .rt d ρ' => .ok (.rt d ρ')
@[simp] def sFor (f : AF) (g : GF) (body : SF) : SF := fun ρ => f ρ >>= fun r => forL g body r.1 r.2
theorem RdI.useS {n : Nat} {wi : TI} {F : AF} (ra : RdI X W wi F) {B : Bd} {D' : Ends} {G H : Hp} {σ : L2.St} {ρ : List Sl} (e : EnS X.K B n G H σ ρ) {k : List D × List Sl → R Fl} {C : It → Hp → Prop} (h : wp (F ρ >>= k) (QS X.K B n D') (QX X.mg X.K B W))
    (c : ∀ ds ρ1 J G1 H1, EnS X.K B n G1 H1 σ ρ1 → Wk X.K G1 ds J → wp (k (ds, ρ1)) (QS X.K B n D') (QX X.mg X.K B W) → C J H1) : wi σ H C :=
  ra G H σ ρ C e.en (wp_mono (wp_bind.mp h) (fun r hr G1 H1 af J wk => c r.1 r.2 J G1 H1 (e.af af) wk hr) fun _ q => q.gv e)
theorem EnS.grow {K : Fg} {B : Bd} {n : Nat} {G H G' H' : Hp} {σ : L2.St} {ρ : List Sl} (e : EnS K B n G H σ ρ) (st : Stp K No G H G' H') (x : Ex G' H') : EnS K B n G' H' σ ρ := e.af (Af.grow e.en st x)
variable {n : Nat}
theorem sd_for {is : List Nat} {tg iter : Expr} {body : List Stmt} {f : AF} {g : GF} {b : SF} {pos : Pos} (hp : PassesOwn (model X.prog X.w) X.A X.env X.xe) (hc : X.calm = true) (hs : ∀ x, foldedSetIterable iter X.env x = pure x := by intro _; rfl) :
    ID X W tg iter f → GD X is tg g → SDs X W n body b → SD X W n (.For tg iter body [] pos) (sFor f g b)
  | ⟨_, p, r⟩, ⟨_, q, s⟩, ⟨_, u, w⟩ => ⟨_, ps_for hp hc p q u hs, fun B D' G H σ ρ e h => r.useS e h fun ds ρ1 J G1 H1 e1 wk h1 => by
    refine ⟨fun i m σ H => m = ds.length - i ∧ i ≤ ds.length ∧ ∃ G ρ, Ex G1 G ∧ EnS X.K B n G H σ ρ ∧ wp (forL g b (ds.drop i) ρ) (QS X.K B n D') (QX X.mg X.K B W), ⟨ds.length, rfl, Nat.zero_le _, G1, ρ1, Ex.refl _, e1, by simpa using h1⟩, ?_⟩
    rintro i m σ H ⟨rfl, hi, G2, ρ2, x2, e2, h2⟩
    by_cases hlt : i < ds.length
    · obtain ⟨hgo, hy⟩ := wk.go i ds[i] H G2 x2 e2.en.ex (List.getElem?_eq_getElem hlt)
      refine .inr ⟨hgo, fun σ' H' => ∃ G ρ, Ex G1 G ∧ EnS X.K B n G H' σ' ρ ∧ wp (forL g b (ds.drop (i + 1)) ρ) (QS X.K B n D') (QX X.mg X.K B W), fun σ' H' ⟨G', ρ', x', e', h'⟩ => ⟨ds.length - (i + 1), by omega, rfl, hlt, G', ρ', x', e', h'⟩, fun x H' y => ?_⟩
      obtain ⟨G3, st3, x3, at3⟩ := hy x H' y
      have e3 := e2.grow st3 x3
      have h3 : wp (li (g ds[i] ρ2) >>= fun ρ1 => b ρ1 >>= fun r => match r with
        | .nx ρ' => forL g b (ds.drop (i + 1)) ρ'
        | .ct ρ' => forL g b (ds.drop (i + 1)) ρ'
        | .bk ρ' => .ok (.nx ρ')
        | .rt d ρ' => .ok (.rt d ρ')) (QS X.K B n D') (QX X.mg X.K B W) := by
        rw [List.drop_eq_getElem_cons hlt] at h2
        exact h2
      refine s G3 H' σ ρ2 x ds[i] _ e3.en at3 ?_
      cases qg : g ds[i] ρ2 with
      | none => rw [qg] at h3; exact h3.elim
      | some ρ4 =>
        rw [qg] at h3
        refine fun σ4 a4 t4 => w { B with F := G3 } _ G3 H' σ4 ρ4 ((e3.tg a4 t4).onto (Ex.refl _)) (wp_mono (wp_bind.mp h3) (fun fl hf => ?_) fun _ z => z)
        have fl3 : Ex B.F G3 := e3.fl
        have x13 : Ex G1 G3 := x2.trans st3.ex
        cases fl with
        | nx ρ' => exact fun σ' G' H' e' => ⟨G', ρ', x13.trans e'.fl, e'.onto (fl3.trans e'.fl), hf⟩
        | ct ρ' => exact fun σ' G' H' e' => ⟨G', ρ', x13.trans e'.fl, e'.onto (fl3.trans e'.fl), hf⟩
        | bk ρ' => exact fun σ' G' H' e' => hf σ' G' H' (e'.onto (fl3.trans e'.fl))
        | rt d ρ' => exact fun v σ' G' H' e' av => hf v σ' G' H' (e'.onto (fl3.trans e'.fl)) av
    · have ei : i = ds.length := by omega
      subst ei
      refine .inl ⟨wk.stop _ H G2 x2 e2.en.ex (Nat.le_refl _), ?_⟩
      rw [List.drop_length] at h2
      exact h2 σ G2 H e2⟩
end
end Pd
end

section
/-! Pd, part 9: comprehensions. -/
namespace Pd
open PySem L2 Evl PyProof.Rows

/-! ### canonical readings -/
def tE (K : Fg) (mg : Str → Option Value) (W : WX) (F : EF) : TE := fun σ H Q => ∃ G ρ, AtE K G H σ ρ ∧ wp (F ρ) (Gn K σ G H ρ (QE K Q)) (GvX mg K σ G H ρ W)
def tT (K : Fg) (mg : Str → Option Value) (W : WX) (F : TF) : TT := fun σ H Q => ∃ G ρ, AtE K G H σ ρ ∧ wp (F ρ) (Gn K σ G H ρ (QT Q)) (GvX mg K σ G H ρ W)
def tG (K : Fg) (is : List Nat) (g : GF) : TG := fun v σ H Q => ∃ G ρ d, AtE K G H σ ρ ∧ At K G v d ∧ Gt K is G H σ ρ Q (g d ρ)
section
variable {X : Cx} {W : WX}
theorem ED.can {e : Expr} {F : EF} : ED X W e F → PE X e (tE X.K X.mg W F)
  | ⟨_, p, r⟩ => ⟨fun pins s σ H Q I h => by
    obtain ⟨G, ρ, a, h⟩ := h
    exact p.run pins s σ H Q I (r G H σ ρ Q a h)⟩
theorem TD.can {e : Expr} {F : TF} : TD X W e F → PT X e (tT X.K X.mg W F)
  | ⟨_, p, r⟩ => ⟨fun pins s σ H Q I h => by
    obtain ⟨G, ρ, a, h⟩ := h
    exact p.run pins s σ H Q I (r G H σ ρ Q a h)⟩
theorem GD.can {is : List Nat} {e : Expr} {g : GF} : GD X is e g → PG X e (tG X.K is g)
  | ⟨_, p, r⟩ => ⟨fun pins s σ H v u Q I rv h => by
    obtain ⟨G, ρ, d, a, av, h⟩ := h
    exact p.run pins s σ H v u Q I rv (r G H σ ρ v d Q a av h)⟩
/-- the ifs of a comprehension -/
def TsD (X : Cx) (W : WX) (es : List Expr) (F : TF) : Prop := PTs X es (tT X.K X.mg W F)
@[simp] def tYs : TF := fun ρ => .ok (true, ρ)
theorem tsd_nil : TsD X W [] tYs := ⟨fun pins s σ H Q I h => by
  obtain ⟨G, ρ, a, h⟩ := h
  exact pts_nil.run pins s σ H Q I (Wh.here (P := QT Q) h a)⟩
theorem tsd_one {e : Expr} {F : TF} (h : TD X W e F) : TsD X W [e] F := pts_one h.can
end

/-! ### own slots wiped, and back -/
@[simp] def wipeS : List Nat → List Sl → List Sl
  | [], ρ => ρ
  | v :: vs, ρ => (wipeS vs ρ).set v .u
@[simp] def mixS : List Nat → List Sl → List Sl → List Sl
  | [], _, ρ' => ρ'
  | v :: vs, ρ, ρ' => (mixS vs ρ ρ').set v (ρ.getD v .u)
theorem wipeS_len (ρ : List Sl) : ∀ vs : List Nat, (wipeS vs ρ).length = ρ.length
  | [] => rfl
  | v :: vs => by simp [wipeS, wipeS_len ρ vs]
theorem mixS_len (ρ ρ' : List Sl) : ∀ vs : List Nat, (mixS vs ρ ρ').length = ρ'.length
  | [] => rfl
  | v :: vs => by simp [mixS, mixS_len ρ ρ' vs]
theorem wipeS_in {ρ : List Sl} {i : Nat} (hi : i < ρ.length) : ∀ {vs : List Nat}, i ∈ vs → (wipeS vs ρ)[i]? = some .u
  | v :: vs, h => by
    unfold wipeS
    by_cases e : v = i
    · subst e; rw [List.getElem?_set_self (by rw [wipeS_len]; exact hi)]
    · rw [List.getElem?_set_ne e]
      exact wipeS_in hi ((List.mem_cons.mp h).resolve_left fun z => e z.symm)
theorem wipeS_out {ρ : List Sl} {i : Nat} : ∀ {vs : List Nat}, i ∉ vs → (wipeS vs ρ)[i]? = ρ[i]?
  | [], _ => rfl
  | v :: vs, h => by
    unfold wipeS
    rw [List.getElem?_set_ne (fun z => h (by rw [z]; exact List.mem_cons_self))]
    exact wipeS_out fun z => h (List.mem_cons_of_mem _ z)
theorem mixS_in {ρ ρ' : List Sl} {i : Nat} (hi : i < ρ'.length) : ∀ {vs : List Nat}, i ∈ vs → (mixS vs ρ ρ')[i]? = some (ρ.getD i .u)
  | v :: vs, h => by
    unfold mixS
    by_cases e : v = i
    · subst e; rw [List.getElem?_set_self (by rw [mixS_len]; exact hi)]
    · rw [List.getElem?_set_ne e]
      exact mixS_in hi ((List.mem_cons.mp h).resolve_left fun z => e z.symm)
theorem mixS_out {ρ ρ' : List Sl} {i : Nat} : ∀ {vs : List Nat}, i ∉ vs → (mixS vs ρ ρ')[i]? = ρ'[i]?
  | [], _ => rfl
  | v :: vs, h => by
    unfold mixS
    rw [List.getElem?_set_ne (fun z => h (by rw [z]; exact List.mem_cons_self))]
    exact mixS_out fun z => h (List.mem_cons_of_mem _ z)
theorem wipe_in {σ : L2.St} {i : Nat} (hi : i < σ.length) : ∀ {vs : List Nat}, i ∈ vs → (wipe σ vs)[i]? = some none
  | v :: vs, h => by
    unfold wipe
    by_cases e : v = i
    · subst e; rw [List.getElem?_set_self (by rw [wipe_length]; exact hi)]
    · rw [List.getElem?_set_ne e]
      exact wipe_in hi ((List.mem_cons.mp h).resolve_left fun z => e z.symm)
theorem wipe_congr {σ τ : L2.St} {vs : List Nat} (hl : σ.length = τ.length) (h : ∀ i : Nat, i ∉ vs → σ[i]? = τ[i]?) : wipe σ vs = wipe τ vs := by
  apply List.ext_getElem?
  intro i
  by_cases hi : i ∈ vs
  · by_cases hl' : i < σ.length
    · rw [wipe_in hl' hi, wipe_in (by rw [← hl]; exact hl') hi]
    · rw [List.getElem?_eq_none (by rw [wipe_length]; omega), List.getElem?_eq_none (by rw [wipe_length]; omega)]
  · rw [wipe_out hi, wipe_out hi]
    exact h i hi
section
variable {K : Fg} {G H G' H' : Hp} {σ : L2.St} {ρ : List Sl} {vs : List Nat}
/-- no own list among these slots -/
@[simp] def noM (vs : List Nat) (ρ : List Sl) : Bool := vs.all fun v => match ρ[v]? with
  | some (.m _) => false
  | _ => true
theorem noM_ok (h : noM vs ρ = true) {v : Nat} (hv : v ∈ vs) (xs : List D) : ρ[v]? ≠ some (Sl.m xs) := fun e => by
  have := List.all_eq_true.mp h v hv
  rw [e] at this
  cases this
theorem wipeS_m (h : ∀ v ∈ vs, ∀ xs, ρ[v]? ≠ some (Sl.m xs)) (i : Nat) (xs : List D) : (wipeS vs ρ)[i]? = some (Sl.m xs) ↔ ρ[i]? = some (Sl.m xs) := by
  by_cases hi : i ∈ vs
  · refine ⟨fun z => ?_, fun z => absurd z (h i hi xs)⟩
    by_cases hl : i < ρ.length
    · rw [wipeS_in hl hi] at z; cases z
    · rw [List.getElem?_eq_none (by rw [wipeS_len]; omega)] at z; cases z
  · rw [wipeS_out hi]
theorem wipeS_m' {i : Nat} {xs : List D} (z : (wipeS vs ρ)[i]? = some (Sl.m xs)) : i ∉ vs ∧ ρ[i]? = some (Sl.m xs) := by
  by_cases hi : i ∈ vs
  · by_cases hl : i < ρ.length
    · rw [wipeS_in hl hi] at z; cases z
    · rw [List.getElem?_eq_none (by rw [wipeS_len]; omega)] at z; cases z
  · rw [wipeS_out hi] at z
    exact ⟨hi, z⟩
theorem AtE.wipe_ (a : AtE K G H σ ρ) (vs : List Nat) : AtE K G H (wipe σ vs) (wipeS vs ρ) where
  ex := a.ex
  tb := a.tb
  len := by rw [wipeS_len, wipe_length]; exact a.len
  sl := fun i s e h1 h2 => by
    by_cases hi : i ∈ vs
    · by_cases hl : i < ρ.length
      · rw [wipeS_in hl hi] at h1; cases h1; exact True.intro
      · rw [List.getElem?_eq_none (by rw [wipeS_len]; omega)] at h1; cases h1
    · rw [wipeS_out hi] at h1
      rw [wipe_out hi] at h2
      exact a.sl i s e h1 h2
  dj := fun i j p xs ys h1 h2 h3 h4 => by
    obtain ⟨i1, h1⟩ := wipeS_m' h1
    obtain ⟨j1, h2⟩ := wipeS_m' h2
    rw [wipe_out i1] at h3
    rw [wipe_out j1] at h4
    exact a.dj i j p xs ys h1 h2 h3 h4
theorem Mt.wipe_ {p : Addr} (m : Mt (wipe σ vs) (wipeS vs ρ) p) : Mt σ ρ p := by
  obtain ⟨i, xs, h1, h2⟩ := m
  obtain ⟨hi, h1⟩ := wipeS_m' h1
  rw [wipe_out hi] at h2
  exact ⟨i, xs, h1, h2⟩
/-- an object that is neither data nor a slot's changes -/
theorem AtE.other {p : Addr} {o : HO} (a : AtE K G H σ ρ) (hg : G p = none) (hm : ¬ Mt σ ρ p) (ht : Tb K G (upd H p o)) : AtE K G (upd H p o) σ ρ where
  tb := ht
  ex := fun b u e => by rw [upd_ne (ne_of_none e hg)]; exact a.ex b u e
  len := a.len
  sl := fun i s e h1 h2 => by
    have q := a.sl i s e h1 h2
    cases s with
    | m xs =>
      obtain ⟨q, ws, e1, e2, e3, e4⟩ := q
      subst e1
      refine ⟨q, ws, rfl, e2, ?_, e4⟩
      rw [upd_ne fun z => hm ⟨i, xs, h1, by rw [← z]; exact h2⟩]
      exact e3
    | u => exact True.intro
    | d x => exact q
    | k kvs => exact q
    | x b P => exact q
    | s ns => exact q
  dj := a.dj
end

/-! ### a comprehension -/
def lcL (g : GF) (t : TF) (f : EF) (vs : List Nat) : List D → List Sl → R (List D × List Sl)
  | [], ρ => .ok ([], ρ)
  | x :: xs, ρ => li (g x ρ) >>= fun ρ1 => t ρ1 >>= fun b => if b.1 = true then f b.2 >>= fun y => lcL g t f vs xs (wipeS vs y.2) >>= fun r => .ok (y.1 :: r.1, r.2) else lcL g t f vs xs (wipeS vs b.2)
@[simp] def noEx {α : Type} (r : R α) : R α := match r with
  | .ok a => .ok a
  | _ => .bad
@[simp] theorem noEx_ok {α : Type} (a : α) : noEx (R.ok a) = R.ok a := rfl
theorem wp_noEx {α : Type} {r : R α} {Q : α → Prop} {E E' : Xc → Prop} (h : wp (noEx r) Q E) : wp r Q E' := by
  cases r with
  | ok a => exact h
  | ex c => exact h.elim
  | bad => exact h
@[simp] def eLc0 (F : AF) (g : GF) (t : TF) (f : EF) (vs : List Nat) : AF := fun ρ => F ρ >>= fun r => if r.1.length ≤ 1000000 ∧ noM vs r.2 = true then noEx (lcL g t f vs r.1 (wipeS vs r.2)) >>= fun q => .ok (q.1, mixS vs r.2 q.2) else .bad
@[simp] def eLc (F : AF) (g : GF) (t : TF) (f : EF) (vs : List Nat) : EF := fun ρ => eLc0 F g t f vs ρ >>= fun r => .ok (.list r.1, r.2)
abbrev W0 : WX := fun _ _ _ _ => False
section
variable {X : Cx} {W : WX}
theorem RdI.use {α : Type} {σ : L2.St} {G H : Hp} {ρ : List Sl} {wi : TI} {F : AF} (ra : RdI X W wi F) (a : AtE X.K G H σ ρ) {P : α → Hp → Hp → Prop} {k : List D × List Sl → R (α × List Sl)} {C : It → Hp → Prop} (h : Wh X W σ G H ρ P (F ρ >>= k))
    (c : ∀ ds ρ1 J G1 H1, AtE X.K G1 H1 σ ρ1 → Af X.K σ G H ρ G1 H1 ρ1 → Wk X.K G1 ds J → Wh X W σ G1 H1 ρ1 P (k (ds, ρ1)) → C J H1) : wi σ H C :=
  ra G H σ ρ C a (wp_mono (wp_bind.mp h) (fun r hr G1 H1 af J wk => c r.1 r.2 J G1 H1 af.en af wk (Wh.trans hr af)) fun _ q => q)
/-- what a made list brings: at p, not yet data -/
def QN (K : Fg) (σ : L2.St) (G H : Hp) (ρ : List Sl) (Q : VK) (r : List D × List Sl) : Prop := ∀ p vs G' H', Af K σ G H ρ G' H' r.2 → Nl H p → G' p = none → H' p = some (.lst vs) → AtL K G' vs r.1 → Q (.ref p) H'
/-- the state within a comprehension: D is the list that is made -/
structure LcS (K : Fg) (σ : L2.St) (ρ1 : List Sl) (G1 H1 : Hp) (D : Addr) (G2 H2 : Hp) (σ2 : L2.St) (ρ2 : List Sl) (acc : List V) : Prop where
  x : Ex G1 G2
  a : AtE K G2 H2 σ2 ρ2
  st : Stp K (fun p => Mt σ ρ1 p ∨ p = D) G1 H1 G2 H2
  mt : ∀ p, Mt σ2 ρ2 p → Mt σ ρ1 p
  sh : ∀ i : Nat, (∃ xs, ρ2[i]? = some (Sl.m xs)) ↔ (∃ xs, ρ1[i]? = some (Sl.m xs))
  hd : H2 D = some (.lst acc)
  gd : G2 D = none
section
variable {K : Fg} {σ σ2 σ3 : L2.St} {ρ1 ρ2 ρ3 : List Sl} {G1 H1 G2 H2 G3 H3 : Hp} {D : Addr} {acc : List V}
theorem LcS.grow (s : LcS K σ ρ1 G1 H1 D G2 H2 σ2 ρ2 acc) (st : Stp K No G2 H2 G3 H3) (e : Ex G3 H3) : LcS K σ ρ1 G1 H1 D G3 H3 σ2 ρ2 acc where
  x := s.x.trans st.ex
  a := s.a.grow st e
  st := s.st.trans st fun _ z => z.elim
  mt := s.mt
  sh := s.sh
  hd := st.fr D _ s.hd id (fun _ z => nomatch z)
  gd := by
    cases q : G3 D with
    | none => rfl
    | some o => exact absurd s.gd (st.nw D _ s.hd (by rw [q]; exact fun z => nomatch z))
theorem LcS.tg {is : List Nat} (s : LcS K σ ρ1 G1 H1 D G2 H2 σ2 ρ2 acc) (a : AtE K G2 H2 σ3 ρ3) (t : TgR is σ2 ρ2 σ3 ρ3) : LcS K σ ρ1 G1 H1 D G2 H2 σ3 ρ3 acc where
  x := s.x
  a := a
  st := s.st
  mt := fun p m => s.mt p ((t.mt p).mp m)
  sh := fun i => Iff.trans ⟨fun ⟨xs, z⟩ => ⟨xs, (t.m i xs).mp z⟩, fun ⟨xs, z⟩ => ⟨xs, (t.m i xs).mpr z⟩⟩ (s.sh i)
  hd := s.hd
  gd := s.gd
theorem LcS.af (s : LcS K σ ρ1 G1 H1 D G2 H2 σ2 ρ2 acc) (nMD : ∀ p, Mt σ ρ1 p → p ≠ D) (f : Af K σ2 G2 H2 ρ2 G3 H3 ρ3) : LcS K σ ρ1 G1 H1 D G3 H3 σ2 ρ3 acc where
  x := s.x.trans f.st.ex
  a := f.en
  st := s.st.trans f.st fun p m => .inl (.inl (s.mt p m))
  mt := fun p m => s.mt p ((f.mt p).mp m)
  sh := fun i => (f.sh i).trans (s.sh i)
  hd := f.st.fr D _ s.hd (fun m => nMD D (s.mt D m) rfl) (fun _ z => nomatch z)
  gd := by
    cases q : G3 D with
    | none => rfl
    | some o => exact absurd s.gd (f.st.nw D _ s.hd (by rw [q]; exact fun z => nomatch z))
theorem LcS.wipe_ {vs : List Nat} (s : LcS K σ ρ1 G1 H1 D G2 H2 σ2 ρ2 acc) (hno : ∀ v ∈ vs, ∀ xs, ρ1[v]? ≠ some (Sl.m xs)) : LcS K σ ρ1 G1 H1 D G2 H2 (wipe σ2 vs) (wipeS vs ρ2) acc where
  x := s.x
  a := s.a.wipe_ vs
  st := s.st
  mt := fun p m => s.mt p m.wipe_
  sh := fun i => by
    have hno2 : ∀ v ∈ vs, ∀ xs, ρ2[v]? ≠ some (Sl.m xs) := fun v hv xs z => by
      obtain ⟨ys, q⟩ := (s.sh v).mp ⟨xs, z⟩
      exact hno v hv ys q
    exact Iff.trans ⟨fun ⟨xs, z⟩ => ⟨xs, (wipeS_m hno2 i xs).mp z⟩, fun ⟨xs, z⟩ => ⟨xs, (wipeS_m hno2 i xs).mpr z⟩⟩ (s.sh i)
  hd := s.hd
  gd := s.gd
theorem Stp.at_ {K : Fg} {G H : Hp} {D : Addr} {vs us : List V} (hD : H D = some (.lst vs)) : Stp K (fun p => p = D) G H G (upd H D (.lst us)) where
  ex := Ex.refl G
  nw := fun _ _ _ h => h
  ls := fun b ws h => by
    by_cases e : b = D
    · subst e; exact ⟨us, upd_same⟩
    · exact ⟨ws, by rw [upd_ne e]; exact h⟩
  fr := fun b u h n _ => by rw [upd_ne n]; exact h
  tb := fun t => t.at_ hD
  li := fun b h => by
    by_cases e : b = D
    · subst e; exact nl_lst upd_same
    · unfold Nl at h ⊢; rwa [upd_ne e]
theorem LcS.app (s : LcS K σ ρ1 G1 H1 D G2 H2 σ2 ρ2 acc) (nMD : ∀ p, Mt σ ρ1 p → p ≠ D) (acc' : List V) : LcS K σ ρ1 G1 H1 D G2 (upd H2 D (.lst acc')) σ2 ρ2 acc' where
  x := s.x
  a := s.a.other s.gd (fun m => nMD D (s.mt D m) rfl) (s.a.tb.at_ s.hd)
  st := s.st.trans (Stp.at_ s.hd) fun p m => .inl (.inr m)
  mt := s.mt
  sh := s.sh
  hd := upd_same
  gd := s.gd
end
theorem lc_core {wi : TI} {F : AF} {g : GF} {t : TF} {f : EF} {vs is : List Nat} {mg : Str → Option Value} (his : ∀ i ∈ is, i ∈ vs) (r : RdI X W wi F) (G H : Hp) (σ : L2.St) (ρ : List Sl) (Q : VK) (a : AtE X.K G H σ ρ)
    (h : wp (eLc0 F g t f vs ρ) (QN X.K σ G H ρ Q) (GvX X.mg X.K σ G H ρ W)) : tLc wi (tG X.K is g) (tT X.K mg W0 t) (tE X.K mg W0 f) vs σ H Q := by
  refine r G H σ ρ _ a (wp_mono (wp_bind.mp h) (fun q hq G1 H1 af J wk => ?_) fun _ z => z)
  obtain ⟨ds, ρ1⟩ := q
  by_cases c : ds.length ≤ 1000000 ∧ noM vs ρ1 = true
  case neg =>
    simp only [if_neg c] at hq
    exact hq.elim
  simp only [if_pos c] at hq
  obtain ⟨hlen, hno⟩ := c
  have hno' : ∀ v ∈ vs, ∀ xs, ρ1[v]? ≠ some (Sl.m xs) := fun v hv => noM_ok hno hv
  have a1 : AtE X.K G1 H1 σ ρ1 := af.en
  intro D hD
  have hGD : G1 D = none := fresh_back a1.ex hD
  have nMD : ∀ p, Mt σ ρ1 p → p ≠ D := fun p m z => by
    obtain ⟨_, ws, e⟩ := a1.mtH m
    rw [z, hD] at e; cases e
  have lt_line : ∀ {n : Nat}, n < 1000001 → n < sizeLine := fun h => by rw [sizeLine_eq]; omega
  -- what is left to be done
  let Left : Nat → List Sl → List PyData → Prop := fun i ρ2 accD => wp (lcL g t f vs (ds.drop i) ρ2) (fun z => ∀ p ws G' H', Af X.K σ G H ρ G' H' (mixS vs ρ1 z.2) → Nl H p → G' p = none → H' p = some (.lst ws) → AtL X.K G' ws (accD ++ z.1) → Q (.ref p) H') (fun _ => False)
  refine ⟨fun i m H2 => m = ds.length - i ∧ i ≤ ds.length ∧ ∃ G2 ρ2 acc accD, LcS X.K σ ρ1 G1 H1 D G2 H2 (wipe σ vs) ρ2 acc ∧ AtL X.K G2 acc accD ∧ accD.length ≤ i ∧ Left i ρ2 accD,
    ⟨ds.length, rfl, Nat.zero_le _, G1, wipeS vs ρ1, [], [], ⟨Ex.refl _, ?_, Stp.newH hD, fun p m => m.wipe_, fun i => ?_, upd_same, hGD⟩, .nil, Nat.le_refl _, ?_⟩, ?_⟩
  · exact (a1.wipe_ vs).other hGD (fun m => nMD D m.wipe_ rfl) (a1.tb.newH hD)
  · exact ⟨fun ⟨xs, z⟩ => ⟨xs, (wipeS_m hno' i xs).mp z⟩, fun ⟨xs, z⟩ => ⟨xs, (wipeS_m hno' i xs).mpr z⟩⟩
  · show wp (lcL g t f vs (ds.drop 0) _) _ _
    rw [List.drop_zero]
    exact wp_noEx (wp_mono (wp_bind.mp hq) (fun z hz => hz) fun _ z => z)
  rintro i m H2 ⟨rfl, hi, G2, ρ2, acc, accD, s2, aa, hacc, h2⟩
  by_cases hlt : i < ds.length
  · obtain ⟨hgo, hy⟩ := wk.go i ds[i] H2 G2 s2.x s2.a.ex (List.getElem?_eq_getElem hlt)
    refine .inr ⟨hgo, fun H' => ∃ G2 ρ2 acc accD, LcS X.K σ ρ1 G1 H1 D G2 H' (wipe σ vs) ρ2 acc ∧ AtL X.K G2 acc accD ∧ accD.length ≤ i + 1 ∧ Left (i + 1) ρ2 accD,
      fun H' ⟨G', ρ', ac, acD, z⟩ => ⟨ds.length - (i + 1), by omega, rfl, hlt, G', ρ', ac, acD, z⟩, fun x H' y => ?_⟩
    obtain ⟨G3, st3, x3, at3⟩ := hy x H' y
    have s3 := s2.grow st3 x3
    have h3 : wp (lcL g t f vs (ds[i] :: ds.drop (i + 1)) ρ2) (fun z => ∀ p ws G' H', Af X.K σ G H ρ G' H' (mixS vs ρ1 z.2) → Nl H p → G' p = none → H' p = some (.lst ws) → AtL X.K G' ws (accD ++ z.1) → Q (.ref p) H') (fun _ => False) := by
      rw [← List.drop_eq_getElem_cons hlt]
      exact h2
    refine ⟨G3, ρ2, ds[i], s3.a, at3, ?_⟩
    simp only [lcL] at h3
    cases qg : g ds[i] ρ2 with
    | none => rw [qg] at h3; exact h3.elim
    | some ρ3 =>
      rw [qg] at h3
      intro σ3 a4 t4
      have s4 := s3.tg a4 t4
      have ew : wipe σ3 vs = wipe σ vs := wipe_congr (by rw [t4.len, wipe_length]) fun j hj => by
        rw [(t4.out j fun z => hj (his j z)).1, wipe_out hj]
      refine ⟨ew, G3, ρ3, a4, wp_mono (wp_bind.mp h3) (fun b hb G4 H4 af4 => ?_) fun _ z => z.elim⟩
      have s5 := s4.af nMD af4
      obtain ⟨b, ρ4⟩ := b
      cases b with
      | false =>
        have s6 := s5.wipe_ hno'
        rw [ew] at s6
        exact ⟨G4, _, acc, accD, s6, aa.up (st3.ex.trans af4.st.ex), by omega, hb⟩
      | true =>
        refine ⟨G4, ρ4, s5.a, wp_mono (wp_bind.mp hb) (fun yv hyv G5 H5 af5 v av => ?_) fun _ z => z.elim⟩
        have s6 := s5.af nMD af5
        have s7 := (s6.wipe_ hno').app nMD (acc ++ [v])
        rw [ew] at s7
        have aa5 := aa.up ((st3.ex.trans af4.st.ex).trans af5.st.ex)
        refine ⟨acc, s6.hd, lt_line (by rw [aa.length]; omega), G5, _, acc ++ [v], accD ++ [yv.1], s7, aa5.append (.cons av .nil), by simp; omega, ?_⟩
        exact wp_mono (wp_bind.mp hyv) (fun z hz p ws G' H' f1 f2 f3 f4 f5 => hz p ws G' H' f1 f2 f3 f4 (by simpa using f5)) fun _ z => z
  · have ei : i = ds.length := by omega
    subst ei
    refine .inl ⟨wk.stop _ H2 G2 s2.x s2.a.ex (Nat.le_refl _), ?_⟩
    have h3 : wp (lcL g t f vs [] ρ2) (fun z => ∀ p ws G' H', Af X.K σ G H ρ G' H' (mixS vs ρ1 z.2) → Nl H p → G' p = none → H' p = some (.lst ws) → AtL X.K G' ws (accD ++ z.1) → Q (.ref p) H') (fun _ => False) := by
      rw [← List.drop_length (l := ds)]
      exact h2
    have lenE : ρ2.length = ρ1.length := by rw [s2.a.len, wipe_length, a1.len]
    have hH : Nl H D := Classical.not_not.mp fun z => af.st.li D z (nl_of hD)
    have mixget : ∀ j : Nat, (j ∈ vs ∧ (mixS vs ρ1 ρ2)[j]? = ρ1[j]?) ∨ (j ∉ vs ∧ (mixS vs ρ1 ρ2)[j]? = ρ2[j]?) := fun j => by
      by_cases hj : j ∈ vs
      · refine .inl ⟨hj, ?_⟩
        by_cases hl : j < ρ1.length
        · rw [mixS_in (by omega) hj, List.getElem?_eq_getElem hl, List.getD_eq_getElem?_getD, List.getElem?_eq_getElem hl]
          rfl
        · rw [List.getElem?_eq_none (by rw [mixS_len]; omega), List.getElem?_eq_none (by omega)]
      · exact .inr ⟨hj, mixS_out hj⟩
    have mixm : ∀ (j : Nat) (xs : List PyData), (mixS vs ρ1 ρ2)[j]? = some (Sl.m xs) → j ∉ vs ∧ ρ2[j]? = some (Sl.m xs) := fun j xs z => by
      rcases mixget j with ⟨h1, h2⟩ | ⟨h1, h2⟩
      · rw [h2] at z; exact absurd z (hno' j h1 xs)
      · rw [h2] at z; exact ⟨h1, z⟩
    have en : AtE X.K G2 H2 σ (mixS vs ρ1 ρ2) := ⟨s2.a.ex, by rw [mixS_len, lenE]; exact a1.len, fun j s e k1 k2 => by
      rcases mixget j with ⟨g1, g2⟩ | ⟨g1, g2⟩
      · rw [g2] at k1
        have q := a1.sl j s e k1 k2
        cases s with
        | u => exact True.intro
        | d x => obtain ⟨v, e1, e2⟩ := q; exact ⟨v, e1, e2.up s2.x⟩
        | m xs => exact absurd k1 (hno' j g1 xs)
        | k kvs => exact k_up q s2.x
        | x b P => exact x_up q s2.x
        | s ns => obtain ⟨b, e1, e2⟩ := q; exact ⟨b, e1, ex_l s2.x e2⟩
      · rw [g2] at k1
        exact s2.a.sl j s e k1 (by rw [wipe_out g1]; exact k2), fun j k p xs ys k1 k2 k3 k4 => by
      obtain ⟨j1, k1⟩ := mixm j xs k1
      obtain ⟨j2, k2⟩ := mixm k ys k2
      exact s2.a.dj j k p xs ys k1 k2 (by rw [wipe_out j1]; exact k3) (by rw [wipe_out j2]; exact k4), s2.a.tb⟩
    have shE : ∀ j : Nat, (∃ xs, (mixS vs ρ1 ρ2)[j]? = some (Sl.m xs)) ↔ (∃ xs, ρ1[j]? = some (Sl.m xs)) := fun j => by
      rcases mixget j with ⟨g1, g2⟩ | ⟨g1, g2⟩
      · rw [g2]
      · rw [g2]; exact s2.sh j
    have af2 : Af X.K σ G1 H1 ρ1 G2 H2 (mixS vs ρ1 ρ2) := ⟨⟨s2.x, s2.st.nw, fun b o e n => s2.st.fr b o e fun z => z.elim n (fun q => by rw [q, hD] at e; cases e), s2.st.li, s2.st.tb, s2.st.ls⟩, en, shE⟩
    exact h3 D acc G2 H2 (af.trans af2) hH s2.gd s2.hd (by simpa using aa)
theorem rd_lc {wi : TI} {vs is : List Nat} {F : AF} {g : GF} {t : TF} {f : EF} {mg : Str → Option Value} (his : ∀ i ∈ is, i ∈ vs) (r : RdI X W wi F) : RdE X W (tLc wi (tG X.K is g) (tT X.K mg W0 t) (tE X.K mg W0 f) vs) (eLc F g t f vs) := fun G H σ ρ Q a h => by
  refine lc_core his r G H σ ρ Q a (wp_mono (wp_bind.mp h) (fun q hq p vs G' H' af hp gp hh av => ?_) fun _ z => z)
  have e2 : Ex G' (upd G' p (.lst vs)) := Ex.new gp
  have ex2 : Ex (upd G' p (.lst vs)) H' := fun b u q => by
    by_cases hb : b = p
    · subst hb; rw [upd_same] at q; rw [hh]; exact q
    · rw [upd_ne hb] at q; exact af.en.ex b u q
  have nm : ∀ q, Mt σ ρ q → q ≠ p := fun q m z => by
    obtain ⟨_, ws, e⟩ := a.mtH m
    rw [z] at e; exact nl_lst e hp
  have af' : Af X.K σ G H ρ (upd G' p (.lst vs)) H' q.2 := ⟨⟨af.st.ex.trans e2, fun b us h1 h2 => by
      by_cases hb : b = p
      · subst hb; exact absurd hp (nl_lst h1)
      · rw [upd_ne hb] at h2; exact af.st.nw b us h1 h2, af.st.fr, af.st.li, fun t => (af.st.tb t).g (fun _ z => nomatch z), af.st.ls⟩, ⟨ex2, af.en.len, fun i s en h1 h2 => by
      have q1 := af.en.sl i s en h1 h2
      cases s with
      | u => exact True.intro
      | d x => obtain ⟨v, k1, k2⟩ := q1; exact ⟨v, k1, k2.up e2⟩
      | m xs =>
        obtain ⟨b, ws, k1, k2, k3, k4⟩ := q1
        subst k1
        have m1 : Mt σ ρ b := (af.mt b).mp ⟨i, xs, h1, h2⟩
        exact ⟨b, ws, rfl, by rw [upd_ne (nm b m1)]; exact k2, k3, k4.up e2⟩
      | k kvs => exact k_up q1 e2
      | x b P => exact x_up q1 e2
      | s ns => obtain ⟨b, k1, k2⟩ := q1; exact ⟨b, k1, ex_l e2 k2⟩, af.en.dj, af.en.tb.g (fun _ z => nomatch z)⟩, af.sh⟩
  exact hq (upd G' p (.lst vs)) H' af' _ (.lst upd_same (av.up e2))
/-- [elt for tg in iter if ..] as a value -/
theorem ed_lc {elt tg iter : Expr} {ifs : List Expr} {scope : Scope} {own : List (Str × Nat)} {is : List Nat} {pos : Pos} {F : AF} {g : GF} {t : TF} {f : EF} (hc : X.calm = true) (hN : X.N.Nodup) (ok : BlkOk X.N X.env.scope scope own) (his : ∀ i ∈ is, i ∈ own.map (·.2))
    (hi : ID X W tg iter F) (hg : ∀ (s : Shared) (H : Hp) (C : Addr) (cl : List (Str × Addr)) (fp : List Addr), GD (X.blk s H scope (compEnvC scope cl C X.env) fp) is tg g)
    (ht : ∀ (s : Shared) (H : Hp) (C : Addr) (cl : List (Str × Addr)) (fp : List Addr), TsD (X.blk s H scope (compEnvC scope cl C X.env) fp) W0 ifs t)
    (he : ∀ (s : Shared) (H : Hp) (C : Addr) (cl : List (Str × Addr)) (fp : List Addr), ED (X.blk s H scope (compEnvC scope cl C X.env) fp) W0 elt f) (hs : ∀ x, foldedSetIterable iter X.env x = pure x := by intro _; rfl) :
    ED X W (.ListComp elt [⟨tg, iter, ifs, 0⟩] scope pos) (eLc F g t f (own.map (·.2))) := by
  obtain ⟨wi, p, r⟩ := hi
  refine ⟨_, pe_lc (g := tG X.K is g) (tt := tT X.K X.mg W0 t) (te := tE X.K X.mg W0 f) hc hN p ok (fun s H C cl fp => (hg s H C cl fp).can) (fun s H C cl fp => ht s H C cl fp) (fun s H C cl fp => (he s H C cl fp).can) hs, rd_lc his r⟩
end
end Pd
end

section
/-! Pd, part 10: a def by its body; lists that change; while. -/
namespace Pd
open PySem L2 Evl PyProof.Rows

/-! ### a def by its body -/
@[simp] def mkFn (nN : Nat) (S : SF) : Fn := fun as => S (as ++ List.replicate (nN - as.length) .u) >>= fun fl => match fl with
  | .nx ρ => if as.length ≤ ρ.length then .ok (.none, keepM as ρ) else .bad
  | .rt d ρ => if as.length ≤ ρ.length then .ok (d, keepM as ρ) else .bad
  | _ => .bad
section
variable {K : Fg} {B : Bd} {n : Nat} {G H G' H' : Hp} {σ : L2.St} {ρ : List Sl}
theorem keepM_get {as ρ : List Sl} {i : Nat} {a : Sl} (ha : as[i]? = some a) {r : Sl} (hr : ρ[i]? = some r) : (keepM as ρ)[i]? = some (keep1 a r) := by
  unfold keepM
  rw [List.getElem?_zipWith, ha, hr]
/-- out of a body -/
theorem EnS.out (e : EnS K B n G H σ ρ) (hl : B.as.length ≤ ρ.length) : Af K B.σ B.G B.H B.as G H (keepM B.as ρ) := by
  have len : (keepM B.as ρ).length = B.as.length := by
    unfold keepM
    rw [List.length_zipWith]
    exact Nat.min_eq_left hl
  have cas : ∀ (i : Nat) (s : Sl), (keepM B.as ρ)[i]? = some s → (∃ xs ys, B.as[i]? = some (.m xs) ∧ ρ[i]? = some (.m ys) ∧ s = .m ys ∧ σ[i]? = B.σ[i]?) ∨ (B.as[i]? = some s ∧ ∀ xs, s ≠ .m xs) := fun i s h => by
    have hi : i < B.as.length := by rw [← len]; exact (List.getElem?_eq_some_iff.mp h).1
    have h1 : B.as[i]? = some B.as[i] := List.getElem?_eq_getElem hi
    have h2 : ρ[i]? = some ρ[i] := List.getElem?_eq_getElem (Nat.lt_of_lt_of_le hi hl)
    rw [keepM_get h1 h2] at h
    cases q : B.as[i] with
    | m xs =>
      rw [q] at h h1
      obtain ⟨e1, ys, e2⟩ := e.ar i xs h1
      rw [e2] at h2
      have h3 : some ρ[i] = some s := h
      have h4 : ρ[i] = Sl.m ys := (Option.some.inj h2).symm
      rw [h4] at h3
      exact .inl ⟨xs, ys, h1, e2, (Option.some.inj h3).symm, e1⟩
    | u => rw [q] at h h1; cases h; exact .inr ⟨h1, fun _ z => nomatch z⟩
    | d x => rw [q] at h h1; cases h; exact .inr ⟨h1, fun _ z => nomatch z⟩
    | k x => rw [q] at h h1; cases h; exact .inr ⟨h1, fun _ z => nomatch z⟩
    | x b P => rw [q] at h h1; cases h; exact .inr ⟨h1, fun _ z => nomatch z⟩
    | s x => rw [q] at h h1; cases h; exact .inr ⟨h1, fun _ z => nomatch z⟩
  refine ⟨e.st, ⟨e.en.ex, by rw [len]; exact e.ab.len, fun i s en h1 h2 => ?_, fun i j p xs ys h1 h2 h3 h4 => ?_, e.en.tb⟩, fun i => ?_⟩
  · rcases cas i s h1 with ⟨xs, ys, g1, g2, rfl, g4⟩ | ⟨g1, g2⟩
    · exact e.en.sl i _ en g2 (by rw [g4]; exact h2)
    · have q := e.ab.sl i s en g1 h2
      cases s with
      | u => exact True.intro
      | d x => obtain ⟨v, k1, k2⟩ := q; exact ⟨v, k1, k2.up e.st.ex⟩
      | m xs => exact absurd rfl (g2 xs)
      | k kvs => exact k_up q e.st.ex
      | x b P => exact x_up q e.st.ex
      | s ns => obtain ⟨b, k1, k2⟩ := q; exact ⟨b, k1, ex_l e.st.ex k2⟩
  · rcases cas i _ h1 with ⟨xs', ys', g1, g2, g3, g4⟩ | ⟨g1, g2⟩
    · rcases cas j _ h2 with ⟨xs2, ys2, k1, k2, k3, k4⟩ | ⟨k1, k2⟩
      · exact e.en.dj i j p ys' ys2 g2 k2 (by rw [g4]; exact h3) (by rw [k4]; exact h4)
      · exact absurd rfl (k2 ys)
    · exact absurd rfl (g2 xs)
  · constructor
    · rintro ⟨xs, h⟩
      rcases cas i _ h with ⟨xs', ys', g1, g2, g3, g4⟩ | ⟨g1, g2⟩
      · exact ⟨xs', g1⟩
      · exact absurd rfl (g2 xs)
    · rintro ⟨xs, h⟩
      obtain ⟨_, ys, e2⟩ := e.ar i xs h
      exact ⟨ys, keepM_get h e2⟩
end
/-- the context of the body of a def that may raise -/
abbrev BX (P : Program) (w : World) (K : Fg) (mg : Str → Option Value) (base : Heap) (N : List Str) (x : Str) (scope : Scope) (f : Addr) (cdv : Value) (A : Around) (outer : List Env) (s : Shared) (H : Hp) (E : XK) : Cx := cxOf (L2N.CX P w) P w K mg base N x scope f cdv A outer s H E
abbrev BW (E : XK) : WX := fun cls d _ H => E cls d H
theorem bx_takes {P : Program} {w : World} {K : Fg} {mg : Str → Option Value} {base : Heap} {N : List Str} {x : Str} {scope : Scope} {f : Addr} {cdv : Value} {A : Around} {outer : List Env} {s : Shared} {H : Hp} {E : XK} : L2N.Takes (BX P w K mg base N x scope f cdv A outer s H E) (BW E) := L2N.takes_of rfl rfl rfl rfl
theorem bx_passes {P : Program} {w : World} {K : Fg} {mg : Str → Option Value} {base : Heap} {N : List Str} {x : Str} {scope : Scope} {f : Addr} {cdv : Value} {A : Around} {outer : List Env} {s : Shared} {H : Hp} {E : XK} : PassesOwn (model P w) (BX P w K mg base N x scope f cdv A outer s H E).A (BX P w K mg base N x scope f cdv A outer s H E).env (BX P w K mg base N x scope f cdv A outer s H E).xe :=
  passes_of (X := BX P w K mg base N x scope f cdv A outer s H E) rfl
/-- cdv is the code object of the def at f -/
def CodeAt (K : Fg) (f : Addr) (cdv : Value) : Prop := ∃ (oc : Value) (od : Option Addr) (fd : FuncData) (osl : Array (Option Value)) (c : Addr), K.lookup f = some ⟨oc, od, .func fd, osl⟩ ∧ fd.code = cdv ∧ cdv = .ref c
theorem CodeAt.eq {K : Fg} {p : He.Defn} {cdv : Value} (h : CodeAt K (He.fAd K p) cdv) : cdv = .ref (He.cT K p).1 := by
  obtain ⟨oc, od, fd, osl, c, h1, h2, h3⟩ := h
  rw [h3]
  exact congrArg Value.ref (He.codeOf_eq h1 (h2.trans h3)).symm
/-- every def of the text -/
theorem fnok_of {P : Program} {w : World} {K : Fg} {mg : Str → Option Value} {base : Heap} {x : Str} {params : Arguments} {body : List Stmt} {scope : Scope} {f : Addr} {fd : FuncData} {N ps : List Str} {k : Nat} {S : SF} (D : FunD K x x params body scope [] [] f fd) (sc : FnScope N ps scope)
    (hbody : ∀ (cdv : Value) (hcd : CodeAt K f cdv) (A : Around) (outer : List Env) (s : Shared) (H : Hp) (E : XK), Room k (A.deeper (envOfC x scope s.heap.objs.size f cdv)) → SDs (BX P w K mg base N x scope f cdv A outer s H E) (BW E) ps.length body S) :
    FnOk P w K mg base (L2N.CX P w) (k + 1) f fd ps (spF mg K ps.length (mkFn N.length S)) := by
  obtain ⟨oc, od, dV, kV, doc, pm, an, cdv, ct, osl, rfl, lk, hcd, _, _⟩ := D.ex
  obtain ⟨c0, hc0⟩ := He.codeIn_ref hcd
  refine fn_of lk hcd sc (fun vs H Q E h => h.1) fun A outer s H vs Q E hr h => ?_
  obtain ⟨t, p, r⟩ := hbody cdv ⟨oc, od, _, osl, c0, lk, rfl, hc0⟩ A outer s H E hr
  refine ⟨t, p, ?_⟩
  obtain ⟨hl, G, as, ae, hw⟩ := h
  have alen : as.length = ps.length := by rw [ae.len, List.length_map, hl]
  have pre : ps.length ≤ N.length := by
    have := congrArg List.length sc.pre
    rw [List.length_take] at this
    omega
  have get1 : ∀ i : Nat, i < as.length → (L2.start N vs)[i]? = (vs.map some)[i]? ∧ (as ++ List.replicate (N.length - as.length) Sl.u)[i]? = as[i]? := fun i hi => by
    unfold L2.start
    exact ⟨List.getElem?_append_left (by rw [List.length_map, hl, ← alen]; exact hi), List.getElem?_append_left hi⟩
  have get2 : ∀ (i : Nat) (s : Sl), (as ++ List.replicate (N.length - as.length) Sl.u)[i]? = some s → (i < as.length ∧ as[i]? = some s) ∨ s = .u := fun i s h => by
    by_cases hi : i < as.length
    · rw [(get1 i hi).2] at h
      exact .inl ⟨hi, h⟩
    · rw [List.getElem?_append_right (by omega)] at h
      obtain ⟨_, e⟩ := List.getElem?_eq_some_iff.mp h
      rw [List.getElem_replicate] at e
      exact .inr e.symm
  have en : AtE K G H (L2.start N vs) (as ++ List.replicate (N.length - as.length) .u) := ⟨ae.ex, by unfold L2.start; rw [List.length_append, List.length_append, List.length_map, List.length_replicate, List.length_replicate, hl, alen], fun i s e h1 h2 => by
    rcases get2 i s h1 with ⟨hi, g⟩ | g
    · rw [(get1 i hi).1] at h2
      exact ae.sl i s e g h2
    · rw [g]; exact True.intro, fun i j p xs ys h1 h2 h3 h4 => (by
    rcases get2 i _ h1 with ⟨hi, g⟩ | g
    · rcases get2 j _ h2 with ⟨hj, g'⟩ | g'
      · rw [(get1 i hi).1] at h3
        rw [(get1 j hj).1] at h4
        exact ae.dj i j p xs ys g g' h3 h4
      · exact nomatch g'
    · exact nomatch g), ae.tb⟩
  have es : EnS K ⟨G, G, H, vs.map some, as⟩ ps.length G H (L2.start N vs) (as ++ List.replicate (N.length - as.length) .u) := ⟨en, Stp.refl, fun p ⟨i, xs, h1, h2⟩ => (by
    rcases get2 i _ h1 with ⟨hi, g⟩ | g
    · rw [(get1 i hi).1] at h2
      exact .inl ⟨i, xs, g, h2⟩
    · exact nomatch g), fun i xs h => (by
    have hi : i < as.length := (List.getElem?_eq_some_iff.mp h).1
    exact ⟨(get1 i hi).1, xs, (get1 i hi).2.trans h⟩), alen, ae, Ex.refl _⟩
  refine r ⟨G, G, H, vs.map some, as⟩ _ G H (L2.start N vs) _ es (wp_mono (wp_bind.mp hw) (fun fl hf => ?_) fun c hc cls dd σ' G' H' st x => hc cls dd G' H' st x)
  cases fl with
  | nx ρ' =>
    intro σ' G' H' e'
    by_cases c : as.length ≤ ρ'.length
    · simp only [c, if_true] at hf
      exact hf G' H' (e'.out c) .non .non
    · simp only [c, if_false] at hf
      exact hf.elim
  | rt d ρ' =>
    intro v σ' G' H' e' av
    by_cases c : as.length ≤ ρ'.length
    · simp only [c, if_true] at hf
      exact hf G' H' (e'.out c) v av
    · simp only [c, if_false] at hf
      exact hf.elim
  | bk ρ' => exact hf.elim
  | ct ρ' => exact hf.elim
theorem fd_of {P : Program} {w : World} {K : Fg} {mg : Str → Option Value} {base : Heap} {x : Str} {params : Arguments} {body : List Stmt} {scope : Scope} {f : Addr} {fd : FuncData} {N ps : List Str} {k : Nat} {S : SF} (D : FunD K x x params body scope [] [] f fd) (sc : FnScope N ps scope)
    (hm : mg x = some (.ref f)) (hb : Binds K fd ps [])
    (hbody : ∀ (cdv : Value) (hcd : CodeAt K f cdv) (A : Around) (outer : List Env) (s : Shared) (H : Hp) (E : XK), Room k (A.deeper (envOfC x scope s.heap.objs.size f cdv)) → SDs (BX P w K mg base N x scope f cdv A outer s H E) (BW E) ps.length body S) :
    Fd P w K mg base (k + 1) x ps.length (mkFn N.length S) := ⟨f, fd, ps, rfl, fnok_of D sc hbody, hm, D.kp, hb⟩
end Pd
end

section
/-! Pd, part 11: lists that change; while. -/
namespace Pd
open PySem L2 Evl PyProof.Rows
section
variable {K : Fg} {G H G' H' : Hp} {σ : L2.St} {ρ : List Sl}
theorem AtE.getM (a : AtE K G H σ ρ) {i : Nat} {xs : List D} (h : ρ[i]? = some (.m xs)) : ∃ p ws, σ[i]? = some (some (.ref p)) ∧ G p = none ∧ H p = some (.lst ws) ∧ AtL K G ws xs := by
  obtain ⟨e, h1, p, ws, h2, h3, h4, h5⟩ := a.at_ h
  subst h2
  exact ⟨p, ws, h1, h3, h4, h5⟩
theorem Af.mset (a : AtE K G H σ ρ) {i : Nat} {p : Addr} {xs xs' : List D} {ws' : List V} (h1 : ρ[i]? = some (.m xs)) (h2 : σ[i]? = some (some (.ref p))) (av : AtL K G ws' xs') : Af K σ G H ρ G (upd H p (.lst ws')) (ρ.set i (.m xs')) := by
  have mp : Mt σ ρ p := ⟨i, xs, h1, h2⟩
  obtain ⟨hg, ws, hh⟩ := a.mtH mp
  have hi : i < ρ.length := (List.getElem?_eq_some_iff.mp h1).1
  have ex : Ex G (upd H p (.lst ws')) := fun b u e => by rw [upd_ne (ne_of_none e hg)]; exact a.ex b u e
  have sh : ∀ j : Nat, (∃ ys, (ρ.set i (.m xs'))[j]? = some (Sl.m ys)) ↔ (∃ ys, ρ[j]? = some (Sl.m ys)) := fun j => by
    by_cases hj : j = i
    · subst hj
      rw [List.getElem?_set_self hi]
      exact ⟨fun _ => ⟨xs, h1⟩, fun _ => ⟨xs', rfl⟩⟩
    · rw [List.getElem?_set_ne (Ne.symm hj)]
  refine ⟨⟨Ex.refl G, fun _ _ _ h => h, fun b o e n _ => ?_, fun b h => ?_, fun t => t.at_ hh, fun b us h => (Stp.at_ (K := K) (G := G) hh).ls b us h⟩, ⟨ex, by simpa using a.len, fun j s en k1 k2 => ?_, fun j k q ys zs k1 k2 k3 k4 => ?_, a.tb.at_ hh⟩, sh⟩
  · rw [upd_ne fun z => n (by rw [z]; exact mp)]; exact e
  · by_cases e : b = p
    · subst e; exact nl_lst upd_same
    · unfold Nl at h ⊢; rw [upd_ne e]; exact h
  · by_cases hj : j = i
    · subst hj
      rw [List.getElem?_set_self hi] at k1
      cases k1
      rw [h2] at k2
      cases k2
      exact ⟨p, ws', rfl, hg, upd_same, av⟩
    · rw [List.getElem?_set_ne (Ne.symm hj)] at k1
      have q := a.sl j s en k1 k2
      cases s with
      | m ys =>
        obtain ⟨r, vs, e1, e2, e3, e4⟩ := q
        subst e1
        refine ⟨r, vs, rfl, e2, ?_, e4⟩
        rw [upd_ne fun z => hj (a.dj j i p ys xs k1 h1 (by rw [← z]; exact k2) h2)]
        exact e3
      | u => exact True.intro
      | d x => exact q
      | k kvs => exact q
      | x b P => exact q
      | s ns => exact q
  · obtain ⟨ys', k1⟩ := (sh j).mp ⟨ys, k1⟩
    obtain ⟨zs', k2⟩ := (sh k).mp ⟨zs, k2⟩
    exact a.dj j k q ys' zs' k1 k2 k3 k4
end
section
variable {X : Cx} {W : WX} {n : Nat}
abbrev VisP (X : Cx) (x : Str) : Prop := Vis X.env.scope x

/-! ### reading -/
@[simp] def getM (i : Nat) (ρ : List Sl) : Option (List D) := match ρ[i]? with
  | some (.m xs) => some xs
  | _ => none
theorem getM_some {i : Nat} {ρ : List Sl} {xs : List D} (h : getM i ρ = some xs) : ρ[i]? = some (.m xs) := by
  unfold getM at h
  split at h
  · rename_i ys e; cases h; exact e
  · cases h
/-- x[k], x an own list -/
@[simp] def eIxM (i : Nat) (f : EF) : EF := fun ρ => li (getM i ρ) >>= fun _ => f ρ >>= fun r => li (getM i r.2) >>= fun xs => (match r.1 with
  | .int k => li (atI xs k)
  | _ => .bad) >>= fun d => .ok (d, r.2)
theorem ed_ixM (i : Nat) {x : Str} {p0 : Pos} {b : Expr} {f : EF} {pos : Pos} (hN : X.N[i]? = some x := by rfl) (hv : Vis X.env.scope x := by first | exact Or.inl rfl | exact Or.inr (Or.inl rfl) | exact Or.inr (Or.inr rfl)) (hd : (x == ("__debug__" : Str)) = false := by decide)
    (hcd : (x == ("__classdict__" : Str)) = false := by decide) (hs : PlainIx b := by intro _ _; rfl) : ED X W b f → ED X W (.Subscript (.Name x p0) b pos) (eIxM i f)
  | ⟨_, p, r⟩ => ⟨_, pe_ix ix_seq (pv i hN hv hd hcd) p hs, fun G H σ ρ Q a h => by
    cases q0 : getM i ρ with
    | none => simp only [eIxM, q0] at h; exact h.elim
    | some xs0 =>
      simp only [eIxM, q0, li_some, bind_ok] at h
      obtain ⟨q, ws, e1, e2, e3, e4⟩ := a.getM (getM_some q0)
      refine ⟨_, e1, r.use a (P := QE X.K Q) h fun d ρ1 v G1 H1 a1 af1 at1 h1 => ?_⟩
      cases q1 : getM i ρ1 with
      | none => simp only [q1] at h1; exact h1.elim
      | some xs =>
        simp only [q1, li_some, bind_ok] at h1
        obtain ⟨q', ws', g1, g2, g3, g4⟩ := a1.getM (getM_some q1)
        rw [e1] at g1
        cases g1
        cases at1 with
        | int k =>
          cases q2 : atI xs k with
          | none => simp only [q2] at h1; exact h1.elim
          | some d =>
            simp only [q2, li_some, bind_ok] at h1
            obtain ⟨w, k1, k2⟩ := atI_atl g4 q2
            exact .inl ⟨_, _, _, w, rfl, rfl, sq_of g3, k1, Wh.here (P := QE X.K Q) h1 a1 _ k2⟩
        | _ => exact h1.elim⟩
/-- len(x) -/
@[simp] def eLenM (i : Nat) : EF := fun ρ => li (getM i ρ) >>= fun xs => .ok (.int xs.length, ρ)
theorem ed_lenM (i : Nat) {x : Str} {p0 p pos : Pos} (hg : Gl X "len") (hm : X.mg "len" = none) (hN : X.N[i]? = some x := by rfl) (hv : Vis X.env.scope x := by first | exact Or.inl rfl | exact Or.inr (Or.inl rfl) | exact Or.inr (Or.inr rfl)) (hd : (x == ("__debug__" : Str)) = false := by decide)
    (hcd : (x == ("__classdict__" : Str)) = false := by decide) (he : starEach [Expr.Name x p0] X.env = (false, eval (.Name x p0) X.env) :: starEach [] X.env := by rfl) (hpl : (backTo pos (starEach [] X.env)).any (·.1) = false := by rfl) : ED X W (.Call (.Name "len" p) [.Name x p0] [] pos) (eLenM i) :=
  ⟨_, pe_callB call_len hg hm PySem.boot_len (pa_cons (pv i hN hv hd hcd) pa_nil he) (by decide) (by decide) he hpl, fun G H σ ρ Q a h => by
    cases q0 : getM i ρ with
    | none => simp only [eLenM, q0] at h; exact h.elim
    | some xs =>
      simp only [eLenM, q0, li_some, bind_ok] at h
      obtain ⟨q, ws, e1, e2, e3, e4⟩ := a.getM (getM_some q0)
      exact ⟨_, e1, _, ws.length, rfl, .inl ⟨ws, sq_of e3, rfl⟩, by rw [e4.length]; exact Wh.here (P := QE X.K Q) h a _ (.int _)⟩⟩
/-- tuple(x) -/
@[simp] def eTupM (i : Nat) : EF := fun ρ => li (getM i ρ) >>= fun xs => .ok (.tuple xs, ρ)
theorem ed_tupM (i : Nat) {x : Str} {p0 p pos : Pos} (hg : Gl X "tuple") (hm : X.mg "tuple" = none) (hN : X.N[i]? = some x := by rfl) (hv : Vis X.env.scope x := by first | exact Or.inl rfl | exact Or.inr (Or.inl rfl) | exact Or.inr (Or.inr rfl)) (hd : (x == ("__debug__" : Str)) = false := by decide)
    (hcd : (x == ("__classdict__" : Str)) = false := by decide) (he : starEach [Expr.Name x p0] X.env = (false, eval (.Name x p0) X.env) :: starEach [] X.env := by rfl) (hpl : (backTo pos (starEach [] X.env)).any (·.1) = false := by rfl) : ED X W (.Call (.Name "tuple" p) [.Name x p0] [] pos) (eTupM i) :=
  ⟨_, pe_callTy call_tuple_of hg hm PyProof.Rows.boot_tuple (pa_cons (pv i hN hv hd hcd) pa_nil he) (by decide) (by decide) he hpl, fun G H σ ρ Q a h => by
    cases q0 : getM i ρ with
    | none => simp only [eTupM, q0] at h; exact h.elim
    | some xs =>
      simp only [eTupM, q0, li_some, bind_ok] at h
      obtain ⟨q, ws, e1, e2, e3, e4⟩ := a.getM (getM_some q0)
      refine ⟨_, e1, _, ws, rfl, .inl ⟨sq_of e3, fun l hl => ?_⟩⟩
      exact h (upd G l (.tup ws)) _ (Af.grow a (Stp.new a.ex hl) (ex_upd2 a.ex)) _ (.tup (st_of upd_same) (e4.up (Ex.new (fresh_back a.ex hl))))⟩
/-- x.pop(k) -/
@[simp] def ePopM (i : Nat) (f : EF) : EF := fun ρ => li (getM i ρ) >>= fun _ => f ρ >>= fun r => li (getM i r.2) >>= fun xs => match r.1 with
  | .int k => if 0 ≤ k ∧ k < 1000000 then li (xs[k.toNat]?) >>= fun d => .ok (d, r.2.set i (.m (xs.eraseIdx k.toNat))) else .bad
  | _ => .bad
theorem AtL.erase {K : Fg} {G : Hp} : ∀ (k : Nat) {vs : List V} {ds : List D}, AtL K G vs ds → AtL K G (vs.eraseIdx k) (ds.eraseIdx k)
  | _, _, _, .nil => by simpa using AtL.nil
  | 0, _, _, .cons _ h => by simpa using h
  | k + 1, _, _, .cons h1 h2 => by simpa using AtL.cons h1 (AtL.erase k h2)
theorem ed_popM (i : Nat) {x : Str} {p0 apos cpos : Pos} {b : Expr} {f : EF} (hN : X.N[i]? = some x := by rfl) (hv : Vis X.env.scope x := by first | exact Or.inl rfl | exact Or.inr (Or.inl rfl) | exact Or.inr (Or.inr rfl)) (hd : (x == ("__debug__" : Str)) = false := by decide)
    (hcd : (x == ("__classdict__" : Str)) = false := by decide) (hbase : attributeBase (.Name x p0) "pop" X.env (eval (.Name x p0) X.env) = eval (.Name x p0) X.env := by rfl)
    (hfew : ((backTo cpos (starEach [b] X.env)).all (fun x => !x.1) && (backToKw cpos (keywordEach [] X.env)).all (fun x => x.1.isSome)
      && decide ([b].length + ([] : List Keyword).length + (if ([] : List Keyword).isEmpty then 0 else 1) < 30)) = true := by rfl)
    (hline : (apos.endLine == cpos.line) = true := by rfl) (hs : starEach [b] X.env = (false, eval b X.env) :: starEach [] X.env := by rfl) (hplain : (backTo cpos (starEach [] X.env)).any (·.1) = false := by rfl) : ED X W b f → ED X W (.Call (.Attribute (.Name x p0) "pop" apos) [b] [] cpos) (ePopM i f)
  | ⟨_, p, r⟩ => ⟨_, pe_bm PySem.F.plainAttrs_list PySem.F.slot_list_pop PySem.F.type_list_pop mt_popAt (pv i hN hv hd hcd) (pa_cons p pa_nil hs) hbase hfew hline hs hplain, fun G H σ ρ Q a h => by
    cases q0 : getM i ρ with
    | none => simp only [ePopM, q0] at h; exact h.elim
    | some xs0 =>
      simp only [ePopM, q0, li_some, bind_ok] at h
      obtain ⟨q, ws, e1, e2, e3, e4⟩ := a.getM (getM_some q0)
      refine ⟨_, e1, .inl ⟨rfl, _, sq_of e3⟩, r.use a (P := QE X.K Q) h fun d ρ1 v G1 H1 a1 af1 at1 h1 => ?_⟩
      cases q1 : getM i ρ1 with
      | none => simp only [q1] at h1; exact h1.elim
      | some xs =>
        simp only [q1, li_some, bind_ok] at h1
        obtain ⟨q', ws', g1, g2, g3, g4⟩ := a1.getM (getM_some q1)
        have g1' := g1
        rw [e1] at g1
        cases g1
        cases at1 with
        | int k =>
          by_cases c : 0 ≤ k ∧ k < 1000000
          · simp only [c, and_self, if_true] at h1
            cases q2 : xs[k.toNat]? with
            | none => simp only [q2] at h1; exact h1.elim
            | some d =>
              simp only [q2, li_some, bind_ok] at h1
              obtain ⟨w, k1, k2⟩ := g4.get q2
              have hk : k.toNat < ws'.length := (List.getElem?_eq_some_iff.mp k1).1
              refine ⟨_, ws', k, k.toNat, w, rfl, rfl, g3, by omega, by omega, PySem.StrLaws.seqIndex_nonneg c.1 (by omega), k1, ?_⟩
              exact h1 G1 _ (Af.mset a1 (getM_some q1) g1' (g4.erase k.toNat)) _ k2
          · simp only [c, if_false] at h1
            exact h1.elim
        | _ => exact h1.elim⟩

/-! ### writing -/
/-- x.append(e) -/
@[simp] def sApp (i : Nat) (f : EF) : SF := fun ρ => li (getM i ρ) >>= fun _ => f ρ >>= fun r => li (getM i r.2) >>= fun xs => if xs.length < 1000000 then .ok (.nx (r.2.set i (.m (xs ++ [r.1])))) else .bad
theorem lt_million {m : Nat} (h : m < 1000000) : m < sizeLine := by rw [sizeLine_eq]; omega
theorem sd_app (i : Nat) {x : Str} {p0 apos cpos pos : Pos} {b : Expr} {f : EF} (hN : X.N[i]? = some x := by rfl) (hv : Vis X.env.scope x := by first | exact Or.inl rfl | exact Or.inr (Or.inl rfl) | exact Or.inr (Or.inr rfl)) (hd : (x == ("__debug__" : Str)) = false := by decide)
    (hcd : (x == ("__classdict__" : Str)) = false := by decide) (hbase : attributeBase (.Name x p0) "append" X.env (eval (.Name x p0) X.env) = eval (.Name x p0) X.env := by rfl)
    (hfew : ((backTo cpos (starEach [b] X.env)).all (fun x => !x.1) && (backToKw cpos (keywordEach [] X.env)).all (fun x => x.1.isSome)
      && decide ([b].length + ([] : List Keyword).length + (if ([] : List Keyword).isEmpty then 0 else 1) < 30)) = true := by rfl)
    (hline : (apos.endLine == cpos.line) = true := by rfl) (hs : starEach [b] X.env = (false, eval b X.env) :: starEach [] X.env := by rfl) (hplain : (backTo cpos (starEach [] X.env)).any (·.1) = false := by rfl)
    (hsw : swapsWith (.Call (.Attribute (.Name x p0) "append" apos) [b] [] cpos) none pos.line X.env = pure false := by rfl) : ED X W b f → SD X W n (.Expr (.Call (.Attribute (.Name x p0) "append" apos) [b] [] cpos) pos) (sApp i f)
  | ⟨_, p, r⟩ => ⟨_, ps_expr (pe_bm PySem.F.plainAttrs_list PySem.F.slot_list_append PySem.F.type_list_append mt_append (pv i hN hv hd hcd) (pa_cons p pa_nil hs) hbase hfew hline hs hplain) hsw, fun B D' G H σ ρ e h => by
    cases q0 : getM i ρ with
    | none => simp only [sApp, q0] at h; exact h.elim
    | some xs0 =>
      simp only [sApp, q0, li_some, bind_ok] at h
      obtain ⟨q, ws, e1, e2, e3, e4⟩ := e.en.getM (getM_some q0)
      refine ⟨_, e1, .inl ⟨rfl, _, sq_of e3⟩, r.useS e h fun d ρ1 v G1 H1 es1 ex1 at1 h1 => ?_⟩
      cases q1 : getM i ρ1 with
      | none => simp only [q1] at h1; exact h1.elim
      | some xs =>
        simp only [q1, li_some, bind_ok] at h1
        obtain ⟨q', ws', g1, g2, g3, g4⟩ := es1.en.getM (getM_some q1)
        have g1' := g1
        rw [e1] at g1
        cases g1
        by_cases c : xs.length < 1000000
        · simp only [c, if_true] at h1
          refine ⟨_, ws', v, rfl, rfl, g3, by rw [g4.length]; exact lt_million c, ?_⟩
          exact h1 σ G1 _ (es1.af (Af.mset es1.en (getM_some q1) g1' (g4.append (.cons at1 .nil))))
        · simp only [c, if_false] at h1
          exact h1.elim⟩
/-- x[k] = e -/
@[simp] def sSetI (i : Nat) (fk fe : EF) : SF := fun ρ => fe ρ >>= fun a => li (getM i a.2) >>= fun _ => fk a.2 >>= fun b => li (getM i b.2) >>= fun xs => match b.1 with
  | .int k => li (ixN xs.length k) >>= fun j => .ok (.nx (b.2.set i (.m (xs.set j a.1))))
  | _ => .bad
theorem sd_setI (i : Nat) {x : Str} {p0 sp pos : Pos} {b e : Expr} {fk fe : EF} (hN : X.N[i]? = some x := by rfl) (hv : Vis X.env.scope x := by first | exact Or.inl rfl | exact Or.inr (Or.inl rfl) | exact Or.inr (Or.inr rfl)) (hd : (x == ("__debug__" : Str)) = false := by decide)
    (hcd : (x == ("__classdict__" : Str)) = false := by decide)
    (ha : ∀ v, assign (.Subscript (.Name x p0) b sp) X.env v = (do
      let ov ← holding [v] (eval (.Name x p0) X.env)
      let iv ← holding [v, ov] (eval b X.env)
      standAt sp
      holding [v, ov, iv] (setItem ov iv v)
      release [v, ov, iv] []) := by intro _; rfl)
    (hs : swapsWithSole [.Subscript (.Name x p0) b sp] e pos.line X.env = pure false := by rfl) (hw : swappedStores [.Subscript (.Name x p0) b sp] e X.env = pure none := by rfl)
    (h1 : (assignEach [.Subscript (.Name x p0) b sp] X.env).map (·.2) = [assign (.Subscript (.Name x p0) b sp) X.env] := by rfl) : ED X W b fk → ED X W e fe → SD X W n (.Assign [.Subscript (.Name x p0) b sp] e pos) (sSetI i fk fe)
  | ⟨_, p, r⟩, ⟨_, pe, re⟩ => ⟨_, ps_asg pe (pg_sub (pv i hN hv hd hcd) p set_list ha) hs hw h1, fun B D' G H σ ρ es h => re.useS es h fun d ρ1 v G1 H1 e1 ex1 at1 h1 => by
    cases q0 : getM i ρ1 with
    | none => simp only [q0] at h1; exact h1.elim
    | some xs0 =>
      simp only [q0, li_some, bind_ok] at h1
      obtain ⟨q, ws, k1, k2, k3, k4⟩ := e1.en.getM (getM_some q0)
      refine ⟨_, k1, r.useS e1 h1 fun d2 ρ2 v2 G2 H2 e2 ex2 at2 h2 => ?_⟩
      cases q1 : getM i ρ2 with
      | none => simp only [q1] at h2; exact h2.elim
      | some xs =>
        simp only [q1, li_some, bind_ok] at h2
        obtain ⟨q', ws', g1, g2, g3, g4⟩ := e2.en.getM (getM_some q1)
        have g1' := g1
        rw [k1] at g1
        cases g1
        cases at2 with
        | int k =>
          cases q2 : ixN xs.length k with
          | none => simp only [q2] at h2; exact h2.elim
          | some j =>
            simp only [q2, li_some, bind_ok] at h2
            refine ⟨_, ws', k, j, rfl, rfl, g3, by rw [g4.length]; exact q2, ?_⟩
            exact h2 σ G2 _ (e2.af (Af.mset e2.en (getM_some q1) g1' (g4.set j (at1.up ex2))))
        | _ => exact h2.elim⟩
/-! ### a list is made for a slot -/
def ND (X : Cx) (W : WX) (e : Expr) (F : AF) : Prop := ∃ t, PE X e t ∧ ∀ (G H : Hp) (σ : L2.St) (ρ : List Sl) (Q : VK), AtE X.K G H σ ρ → wp (F ρ) (QN X.K σ G H ρ Q) (GvX X.mg X.K σ G H ρ W) → t σ H Q
@[simp] def nLst (f : AF) : AF := fun ρ => f ρ >>= fun r => if r.1.length ≤ 1000 then .ok r else .bad
theorem nd_lst {es : List Expr} {f : AF} {pos : Pos} : AD X W es f → ND X W (.List es pos) (nLst f)
  | ⟨_, p, r⟩ => ⟨_, pe_lst p, fun G H σ ρ Q a h => r G H σ ρ _ a (wp_mono (wp_bind.mp h) (fun q hq G1 H1 af vs av => by
    by_cases hl : q.1.length ≤ 1000
    · simp only [hl, if_true] at hq
      refine ⟨by rw [av.length]; exact sz1000 hl, fun p hp => ?_⟩
      have hH : Nl H p := Classical.not_not.mp fun z => af.st.li p z (nl_of hp)
      have nm : ¬ Mt σ q.2 p := fun m => by
        obtain ⟨_, ws, e⟩ := af.en.mtH m
        rw [hp] at e; cases e
      have gp : G1 p = none := fresh_back af.en.ex hp
      exact hq p vs G1 (upd H1 p (.lst vs)) ⟨af.st.trans (Stp.newH (M := No) hp) fun _ z => z.elim, af.en.other gp nm (af.en.tb.newH hp), af.sh⟩ hH gp upd_same av
    · simp only [hl, if_false] at hq
      exact hq.elim) fun _ z => z)⟩
theorem nd_lc {elt tg iter : Expr} {ifs : List Expr} {scope : Scope} {own : List (Str × Nat)} {is : List Nat} {pos : Pos} {F : AF} {g : GF} {t : TF} {f : EF} (hc : X.calm = true) (hN : X.N.Nodup) (ok : BlkOk X.N X.env.scope scope own) (his : ∀ i ∈ is, i ∈ own.map (·.2))
    (hi : ID X W tg iter F) (hg : ∀ (s : Shared) (H : Hp) (C : Addr) (cl : List (Str × Addr)) (fp : List Addr), GD (X.blk s H scope (compEnvC scope cl C X.env) fp) is tg g)
    (ht : ∀ (s : Shared) (H : Hp) (C : Addr) (cl : List (Str × Addr)) (fp : List Addr), TsD (X.blk s H scope (compEnvC scope cl C X.env) fp) W0 ifs t)
    (he : ∀ (s : Shared) (H : Hp) (C : Addr) (cl : List (Str × Addr)) (fp : List Addr), ED (X.blk s H scope (compEnvC scope cl C X.env) fp) W0 elt f) (hs : ∀ x, foldedSetIterable iter X.env x = pure x := by intro _; rfl) :
    ND X W (.ListComp elt [⟨tg, iter, ifs, 0⟩] scope pos) (eLc0 F g t f (own.map (·.2))) := by
  obtain ⟨wi, p, r⟩ := hi
  exact ⟨_, pe_lc (g := tG X.K is g) (tt := tT X.K X.mg W0 t) (te := tE X.K X.mg W0 f) hc hN p ok (fun s H C cl fp => (hg s H C cl fp).can) (fun s H C cl fp => ht s H C cl fp) (fun s H C cl fp => (he s H C cl fp).can) hs, fun G H σ ρ Q a h => lc_core his r G H σ ρ Q a h⟩
/-- a slot takes a new list -/
theorem EnS.newM {K : Fg} {B : Bd} {G H G' H' : Hp} {σ : L2.St} {ρ ρ1 : List Sl} (e : EnS K B n G H σ ρ) (af : Af K σ G H ρ G' H' ρ1) {i : Nat} {p : Addr} {vs : List V} {ds : List D} (hi : i < ρ1.length) (hn : n ≤ i) (hp : Nl H p) (gp : G' p = none) (hh : H' p = some (.lst vs)) (av : AtL K G' vs ds) :
    EnS K B n G' H' (σ.set i (some (.ref p))) (ρ1.set i (.m ds)) := by
  have e1 := e.af af
  have hiσ : i < σ.length := by rw [← af.en.len]; exact hi
  have get1 : ∀ j : Nat, j ≠ i → (σ.set i (some (V.ref p)))[j]? = σ[j]? ∧ (ρ1.set i (.m ds))[j]? = ρ1[j]? := fun j hj => ⟨List.getElem?_set_ne (Ne.symm hj), List.getElem?_set_ne (Ne.symm hj)⟩
  have nmt : ∀ (j : Nat) (xs : List D), ρ1[j]? = some (Sl.m xs) → σ[j]? ≠ some (some (V.ref p)) := fun j xs h1 h2 => by
    obtain ⟨_, ws, q⟩ := e.en.mtH ((af.mt p).mp ⟨j, xs, h1, h2⟩)
    exact nl_lst q hp
  have bp : Nl B.H p := Classical.not_not.mp fun z => e.st.li p z hp
  refine ⟨⟨af.en.ex, by simpa using af.en.len, fun j s en h1 h2 => ?_, fun j k q xs ys h1 h2 h3 h4 => ?_, af.en.tb⟩, e1.st, fun q ⟨j, xs, h1, h2⟩ => ?_, fun j xs h => ?_, e.np, e.ab, e1.fl⟩
  · by_cases hj : j = i
    · subst hj
      rw [List.getElem?_set_self hi] at h1
      rw [List.getElem?_set_self hiσ] at h2
      cases h1; cases h2
      exact ⟨p, vs, rfl, gp, hh, av⟩
    · rw [(get1 j hj).2] at h1
      rw [(get1 j hj).1] at h2
      exact af.en.sl j s en h1 h2
  · by_cases hj : j = i
    · by_cases hk : k = i
      · rw [hj, hk]
      · rw [(get1 k hk).2] at h2
        rw [(get1 k hk).1] at h4
        rw [hj, List.getElem?_set_self hiσ] at h3
        cases h3
        exact absurd h4 (nmt k ys h2)
    · rw [(get1 j hj).2] at h1
      rw [(get1 j hj).1] at h3
      by_cases hk : k = i
      · rw [hk, List.getElem?_set_self hiσ] at h4
        cases h4
        exact absurd h3 (nmt j xs h1)
      · rw [(get1 k hk).2] at h2
        rw [(get1 k hk).1] at h4
        exact af.en.dj j k q xs ys h1 h2 h3 h4
  · by_cases hj : j = i
    · rw [hj, List.getElem?_set_self hiσ] at h2
      cases h2
      exact .inr bp
    · rw [(get1 j hj).2] at h1
      rw [(get1 j hj).1] at h2
      exact e1.fr q ⟨j, xs, h1, h2⟩
  · have hj : j ≠ i := fun z => by
      have := (List.getElem?_eq_some_iff.mp h).1
      have := e.np
      omega
    rw [(get1 j hj).1, (get1 j hj).2]
    exact e1.ar j xs h
@[simp] def sNew (i : Nat) (F : AF) : SF := fun ρ => F ρ >>= fun r => if i < r.2.length then .ok (.nx (r.2.set i (.m r.1))) else .bad
theorem sd_new (i : Nat) {x : Str} {e : Expr} {F : AF} {pos pos' : Pos} (hN : X.N.Nodup) (hn : n ≤ i := by decide) (hi : X.N[i]? = some x := by rfl) (hx : Loc X.env.scope x := by first | exact Or.inl rfl | exact Or.inr rfl) (hs : swapsWith e (some (.Name x pos')) pos.line X.env = pure false := by rfl)
    (hf : X.fn x = true ∨ X.env.scope.names.lookup x = some .local := by first | exact .inl rfl | exact .inr rfl | assumption) : ND X W e F → SD X W n (.Assign [.Name x pos'] e pos) (sNew i F)
  | ⟨_, p, r⟩ => ⟨_, ps_set hN hi hx p hs hf, fun B D' G H σ ρ es h => r G H σ ρ _ es.en (wp_mono (wp_bind.mp h) (fun q hq p vs G' H' af hp gp hh av => by
    by_cases c : i < q.2.length
    · simp only [c, if_true] at hq
      exact hq _ G' H' (es.newM af c hn hp gp hh av)
    · simp only [c, if_false] at hq
      exact hq.elim) fun _ z => z.gv es)⟩
/-- y = [.. for ..] on one line, y a local -/
theorem sd_newLc (i : Nat) {y : Str} {py : Pos} {elt tg iter : Expr} {ifs : List Expr} {scope : Scope} {own : List (Str × Nat)} {is : List Nat} {pos spos : Pos} {F : AF} {g : GF} {t : TF} {f : EF} (hc : X.calm = true) (hN : X.N.Nodup) (hyl : X.env.scope.names.lookup y = some .local)
    (hsw : swapsWith (.ListComp elt [⟨tg, iter, ifs, 0⟩] scope pos) (some (.Name y py)) spos.line X.env = pure true) (ok : BlkOk X.N X.env.scope scope own) (his : ∀ i ∈ is, i ∈ own.map (·.2))
    (hi : ID X W tg iter F) (hg : ∀ (s : Shared) (H : Hp) (C : Addr) (cl : List (Str × Addr)) (fp : List Addr), GD (X.blk s H scope (compEnvC scope cl C X.env) fp) is tg g)
    (ht : ∀ (s : Shared) (H : Hp) (C : Addr) (cl : List (Str × Addr)) (fp : List Addr), TsD (X.blk s H scope (compEnvC scope cl C X.env) fp) W0 ifs t)
    (he : ∀ (s : Shared) (H : Hp) (C : Addr) (cl : List (Str × Addr)) (fp : List Addr), ED (X.blk s H scope (compEnvC scope cl C X.env) fp) W0 elt f) (hn : n ≤ i := by decide) (hy : X.N[i]? = some y := by rfl) (hs : ∀ x, foldedSetIterable iter X.env x = pure x := by intro _; rfl) :
    SD X W n (.Assign [.Name y py] (.ListComp elt [⟨tg, iter, ifs, 0⟩] scope pos) spos) (sNew i (eLc0 F g t f (own.map (·.2)))) := by
  obtain ⟨wi, p, r⟩ := hi
  refine ⟨_, ps_setLc (i := i) (g := tG X.K is g) (tt := tT X.K X.mg W0 t) (te := tE X.K X.mg W0 f) hc hN hy hyl hsw p ok (fun s H C cl fp => (hg s H C cl fp).can) (fun s H C cl fp => ht s H C cl fp) (fun s H C cl fp => (he s H C cl fp).can) hs, fun B D' G H σ ρ es h => ?_⟩
  exact lc_core (W := W) his r G H σ ρ _ es.en (wp_mono (wp_bind.mp h) (fun q hq p vs G' H' af hp gp hh av => by
    by_cases c : i < q.2.length
    · simp only [c, if_true] at hq
      exact hq _ G' H' (es.newM af c hn hp gp hh av)
    · simp only [c, if_false] at hq
      exact hq.elim) fun _ z => z.gv es)
/-! ### a list that changed becomes data -/
@[simp] def frz (i : Nat) (ρ : List Sl) : Option (List Sl) := match ρ[i]? with
  | some (.m xs) => some (ρ.set i (.d (.list xs)))
  | _ => none
theorem EnS.frz_ {K : Fg} {B : Bd} {G H : Hp} {σ : L2.St} {ρ ρ' : List Sl} (e : EnS K B n G H σ ρ) {i : Nat} (hn : n ≤ i) (h : frz i ρ = some ρ') : ∃ G', EnS K B n G' H σ ρ' := by
  unfold frz at h
  split at h
  · rename_i xs q
    cases h
    obtain ⟨p, ws, e1, e2, e3, e4⟩ := e.en.getM q
    have hi : i < ρ.length := (List.getElem?_eq_some_iff.mp q).1
    have get1 : ∀ j : Nat, j ≠ i → (ρ.set i (.d (.list xs)))[j]? = ρ[j]? := fun j hj => List.getElem?_set_ne (Ne.symm hj)
    have nj : ∀ (j : Nat) (ys : List D), (ρ.set i (.d (.list xs)))[j]? = some (Sl.m ys) → j ≠ i ∧ ρ[j]? = some (Sl.m ys) := fun j ys z => by
      by_cases hj : j = i
      · subst hj; rw [List.getElem?_set_self hi] at z; cases z
      · exact ⟨hj, by rw [← get1 j hj]; exact z⟩
    have nB : Nl B.H p := by
      rcases e.fr p ⟨i, xs, q, e1⟩ with ⟨j, ys, k1, k2⟩ | z
      · obtain ⟨k3, zs, k4⟩ := e.ar j ys k1
        have := e.en.dj j i p zs xs k4 q (by rw [k3]; exact k2) e1
        have h2 := (List.getElem?_eq_some_iff.mp k1).1
        have h3 := e.np
        omega
      · exact z
    have x2 : Ex G (upd G p (.lst ws)) := Ex.new e2
    have x3 : Ex (upd G p (.lst ws)) H := fun b u z => by
      by_cases hb : b = p
      · subst hb; rw [upd_same] at z; rw [e3]; exact z
      · rw [upd_ne hb] at z; exact e.en.ex b u z
    refine ⟨upd G p (.lst ws), ⟨x3, by simpa using e.en.len, fun j s en h1 h2 => ?_, fun j k r xs' ys' h1 h2 h3 h4 => ?_, e.en.tb.g (fun _ z => nomatch z)⟩, ⟨e.st.ex.trans x2, fun b us h1 h2 => ?_, e.st.fr, e.st.li, fun t => (e.st.tb t).g (fun _ z => nomatch z), e.st.ls⟩, fun r ⟨j, ys, h1, h2⟩ => ?_, fun j ys h1 => ?_, e.np, e.ab, e.fl.trans x2⟩
    · by_cases hj : j = i
      · subst hj
        rw [List.getElem?_set_self hi] at h1
        cases h1
        rw [e1] at h2
        cases h2
        exact ⟨_, rfl, .lst upd_same (e4.up x2)⟩
      · rw [get1 j hj] at h1
        have z := e.en.sl j s en h1 h2
        cases s with
        | u => exact True.intro
        | d x => obtain ⟨v, k1, k2⟩ := z; exact ⟨v, k1, k2.up x2⟩
        | m ys =>
          obtain ⟨r, vs, k1, k2, k3, k4⟩ := z
          subst k1
          exact ⟨r, vs, rfl, by rw [upd_ne fun y => hj (e.en.dj j i p ys xs h1 q (by rw [← y]; exact h2) e1)]; exact k2, k3, k4.up x2⟩
        | k kvs => exact k_up z x2
        | x b P => exact x_up z x2
        | s ns => obtain ⟨b, k1, k2⟩ := z; exact ⟨b, k1, ex_l x2 k2⟩
    · exact e.en.dj j k r xs' ys' (nj j xs' h1).2 (nj k ys' h2).2 h3 h4
    · by_cases hb : b = p
      · subst hb; exact absurd nB (nl_lst h1)
      · rw [upd_ne hb] at h2; exact e.st.nw b us h1 h2
    · exact e.fr r ⟨j, ys, (nj j ys h1).2, h2⟩
    · have hj : j ≠ i := fun z => by
        have := (List.getElem?_eq_some_iff.mp h1).1
        have := e.np
        omega
      obtain ⟨k1, zs, k2⟩ := e.ar j ys h1
      exact ⟨k1, zs, by rw [get1 j hj]; exact k2⟩
  · cases h
@[simp] def sFz (i : Nat) (f : SF) : SF := fun ρ => li (frz i ρ) >>= f
theorem sds_fz (i : Nat) {ss : List Stmt} {f : SF} (hn : n ≤ i := by decide) : SDs X W n ss f → SDs X W n ss (sFz i f)
  | ⟨t, p, r⟩ => ⟨t, p, fun B D' G H σ ρ e h => by
    unfold sFz at h
    cases q : frz i ρ with
    | none => rw [q] at h; exact h.elim
    | some ρ' =>
      rw [q] at h
      obtain ⟨G', e'⟩ := e.frz_ hn q
      exact r B D' G' H σ ρ' e' h⟩
end
end Pd
end

section
/-! Pd, part 12: the script; defs that give a new list; the law's end. -/
namespace Pd
open PySem L2 Evl PyProof.Rows
section
variable {X : Cx} {W : WX} {n : Nat}
/-- list(script) -/
@[simp] def getS (i : Nat) (ρ : List Sl) : Option (List Int) := match ρ[i]? with
  | some (.s ns) => some ns
  | _ => none
theorem getS_some {i : Nat} {ρ : List Sl} {xs : List Int} (h : getS i ρ = some xs) : ρ[i]? = some (.s xs) := by
  unfold getS at h
  split at h
  · rename_i ys e; cases h; exact e
  · cases h
@[simp] def eListS (i : Nat) : EF := fun ρ => li (getS i ρ) >>= fun ns => .ok (.list (ns.map PyData.int), ρ)
theorem ed_listS (i : Nat) {x : Str} {p0 p pos : Pos} (hg : Gl X "list") (hm : X.mg "list" = none) (hN : X.N[i]? = some x := by rfl) (hv : Vis X.env.scope x := by first | exact Or.inl rfl | exact Or.inr (Or.inl rfl) | exact Or.inr (Or.inr rfl)) (hd : (x == ("__debug__" : Str)) = false := by decide)
    (hcd : (x == ("__classdict__" : Str)) = false := by decide) (he : starEach [Expr.Name x p0] X.env = (false, eval (.Name x p0) X.env) :: starEach [] X.env := by rfl) (hpl : (backTo pos (starEach [] X.env)).any (·.1) = false := by rfl) : ED X W (.Call (.Name "list" p) [.Name x p0] [] pos) (eListS i) :=
  ⟨_, pe_callTy call_list_of hg hm PyProof.Rows.boot_list (pa_cons (pv i hN hv hd hcd) pa_nil he) (by decide) (by decide) he hpl, fun G H σ ρ Q a h => by
    cases q0 : getS i ρ with
    | none => simp only [eListS, q0] at h; exact h.elim
    | some ns =>
      simp only [eListS, q0, li_some, bind_ok] at h
      obtain ⟨e, e1, b, e2, e3⟩ := a.at_ (getS_some q0)
      subst e2
      refine ⟨_, e1, b, ns.map V.int, rfl, .inl (ex_l a.ex e3), fun l hl => ?_⟩
      exact h (upd G l (.lst (ns.map V.int))) _ (Af.grow a (Stp.new a.ex hl) (ex_upd2 a.ex)) _ (.lst upd_same (at_ints ns))⟩

/-! ### defs that give a new list -/
abbrev FnL := List Sl → R (List D × List Sl)
def spN (mg : Str → Option Value) (K : Fg) (n : Nat) (F : FnL) : Sp := fun vs H Q E => vs.length = n ∧ ∃ G as, AtE K G H (vs.map some) as ∧
  wp (F as) (QN K (vs.map some) G H as Q) (fun c => ∀ cls dd G' H', Stp K (Mt (vs.map some) as) G H G' H' → AtX mg K G' H' c cls dd → E cls dd H')
structure FdN (P : Program) (w : World) (K : Fg) (mg : Str → Option Value) (base : Heap) (k : Nat) (x : Str) (n : Nat) (F : FnL) : Prop where
  h : ∃ f fd ps, ps.length = n ∧ FnOk P w K mg base (L2N.CX P w) k f fd ps (spN mg K n F) ∧ mg x = some (.ref f) ∧ PySem.W.keepIn K (.ref f) = true ∧ Binds K fd ps []
@[simp] def nUser (n : Nat) (F : FnL) (g : CF) : AF := fun ρ => g ρ >>= fun a => if a.1.length = n ∧ (arIx a.1).Nodup then li (arSl a.2 a.1) >>= fun sls => F sls >>= fun r => li (back a.2 a.1 r.2) >>= fun ρ2 => .ok (r.1, ρ2) else .bad
theorem nd_call {k j n : Nat} {x : Str} {F : FnL} {e : Expr} {es : List Expr} {g : CF} {p pos : Pos} (c : FdN X.prog X.w X.K X.mg X.base k x n F) (hr : Room j X.A) (tk : L2N.Takes X W) (hg : Gl X x) (hk : k ≤ j := by decide) (hdb : (x == ("__debug__" : Str)) = false := by decide)
    (he : starEach (e :: es) X.env = (false, eval e X.env) :: starEach es X.env := by rfl) (hpl : (backTo pos (starEach es X.env)).any (·.1) = false := by rfl) : CD X W (e :: es) g → ND X W (.Call (.Name x p) (e :: es) [] pos) (nUser n F g)
  | ⟨_, q, s⟩ => by
    obtain ⟨f, fd, ps, hl, FO, hm, kp, hb⟩ := c.h
    refine ⟨_, pe_callS FO (hr.mono hk) hg hm kp hb (fun σ => L2N.passAt tk σ) q hdb he hpl, fun G H σ ρ Q a h => ?_⟩
    refine s G H σ ρ _ a (wp_mono (wp_bind.mp h) (fun aq hq G1 H1 af1 vs at1 => ?_) fun _ z => z)
    obtain ⟨as, ρ1⟩ := aq
    have a1 := af1.en
    by_cases c : as.length = n ∧ (arIx as).Nodup
    · simp only [if_pos c] at hq
      cases e : arSl ρ1 as with
      | none => simp only [e] at hq; exact hq.elim
      | some ss =>
        simp only [e, li_some, bind_ok] at hq
        refine ⟨by rw [at1.length]; exact c.1, G1, ss, args_env a1 at1 e c.2, wp_mono (wp_bind.mp hq) (fun r hr p vs' G' H' af hp gp hh av => ?_) fun x hx cls dd G' H' st q => (hx.trans af1) cls dd G' H' (st.weak fun p => args_mt at1 e) q⟩
        cases eb : back ρ1 as r.2 with
        | none => rw [eb] at hr; exact hr.elim
        | some ρ2 =>
          rw [eb] at hr
          have hH : Nl H p := Classical.not_not.mp fun z => af1.st.li p z hp
          exact hr p vs' G' H' (af1.trans (args_back a1 at1 e c.2 af eb)) hH gp hh av
    · simp only [if_neg c] at hq
      exact hq.elim
/-- a block whose end is the return of a new list -/
def QSN (K : Fg) (B : Bd) (n : Nat) (D' : Ends) : List PyData × List Sl → Prop := fun r => ∀ p vs σ' G' H', EnS K B n G' H' σ' r.2 → Nl B.H p → G' p = none → H' p = some (.lst vs) → AtL K G' vs r.1 → D'.rt (.ref p) H'
def SDsN (X : Cx) (W : WX) (n : Nat) (s : List Stmt) (F : FnL) : Prop := ∃ t, PSs X s t ∧ ∀ (B : Bd) (D' : Ends) (G H : Hp) (σ : L2.St) (ρ : List Sl), EnS X.K B n G H σ ρ → wp (F ρ) (QSN X.K B n D') (QX X.mg X.K B W) → t D' σ H
theorem sdn_ret {e : Expr} {F : AF} {pos : Pos} : ND X W e F → SDsN X W n [.Return (some e) pos] F
  | ⟨_, p, r⟩ => ⟨_, pss_one (ps_ret p), fun B D' G H σ ρ es h => r G H σ ρ _ es.en (wp_mono h (fun q hq p vs G' H' af hp gp hh av => by
    exact hq p vs σ G' H' (es.af af) (Classical.not_not.mp fun z => es.st.li p z hp) gp hh av) fun _ z => z.gv es)⟩
@[simp] def nSeq (f : SF) (g : FnL) : FnL := fun ρ => f ρ >>= fun r => match r with
  | .nx ρ' => g ρ'
  | _ => .bad
theorem sdn_cons {s : Stmt} {ss : List Stmt} {f : SF} {g : FnL} : SD X W n s f → SDsN X W n ss g → SDsN X W n (s :: ss) (nSeq f g)
  | ⟨_, p, r⟩, ⟨_, q, u⟩ => ⟨_, pss_cons p q, fun B D' G H σ ρ e h => r B _ G H σ ρ e (wp_mono (wp_bind.mp h) (fun fl hf => by
    cases fl with
    | nx ρ' => exact fun σ' G' H' e' => u B D' G' H' σ' ρ' e' hf
    | rt d ρ' => exact hf.elim
    | bk ρ' => exact hf.elim
    | ct ρ' => exact hf.elim) fun _ q => q)⟩
@[simp] def mkFnN (nN : Nat) (S : FnL) : FnL := fun as => S (as ++ List.replicate (nN - as.length) .u) >>= fun r => if as.length ≤ r.2.length then .ok (r.1, keepM as r.2) else .bad
/-- the environment at a body's entry -/
theorem en_start {K : Fg} {N ps : List Str} {scope : Scope} {vs : List V} {G H : Hp} {as : List Sl} (sc : FnScope N ps scope) (hl : vs.length = ps.length) (ae : AtE K G H (vs.map some) as) :
    EnS K ⟨G, G, H, vs.map some, as⟩ ps.length G H (L2.start N vs) (as ++ List.replicate (N.length - as.length) .u) := by
  have alen : as.length = ps.length := by rw [ae.len, List.length_map, hl]
  have pre : ps.length ≤ N.length := by
    have := congrArg List.length sc.pre
    rw [List.length_take] at this
    omega
  have get1 : ∀ i : Nat, i < as.length → (L2.start N vs)[i]? = (vs.map some)[i]? ∧ (as ++ List.replicate (N.length - as.length) Sl.u)[i]? = as[i]? := fun i hi => by
    unfold L2.start
    exact ⟨List.getElem?_append_left (by rw [List.length_map, hl, ← alen]; exact hi), List.getElem?_append_left hi⟩
  have get2 : ∀ (i : Nat) (s : Sl), (as ++ List.replicate (N.length - as.length) Sl.u)[i]? = some s → (i < as.length ∧ as[i]? = some s) ∨ s = .u := fun i s h => by
    by_cases hi : i < as.length
    · rw [(get1 i hi).2] at h
      exact .inl ⟨hi, h⟩
    · rw [List.getElem?_append_right (by omega)] at h
      obtain ⟨_, e⟩ := List.getElem?_eq_some_iff.mp h
      rw [List.getElem_replicate] at e
      exact .inr e.symm
  have en : AtE K G H (L2.start N vs) (as ++ List.replicate (N.length - as.length) .u) := ⟨ae.ex, by unfold L2.start; rw [List.length_append, List.length_append, List.length_map, List.length_replicate, List.length_replicate, hl, alen], fun i s e h1 h2 => by
    rcases get2 i s h1 with ⟨hi, g⟩ | g
    · rw [(get1 i hi).1] at h2
      exact ae.sl i s e g h2
    · rw [g]; exact True.intro, fun i j p xs ys h1 h2 h3 h4 => (by
    rcases get2 i _ h1 with ⟨hi, g⟩ | g
    · rcases get2 j _ h2 with ⟨hj, g'⟩ | g'
      · rw [(get1 i hi).1] at h3
        rw [(get1 j hj).1] at h4
        exact ae.dj i j p xs ys g g' h3 h4
      · exact nomatch g'
    · exact nomatch g), ae.tb⟩
  exact ⟨en, Stp.refl, fun p ⟨i, xs, h1, h2⟩ => (by
    rcases get2 i _ h1 with ⟨hi, g⟩ | g
    · rw [(get1 i hi).1] at h2
      exact .inl ⟨i, xs, g, h2⟩
    · exact nomatch g), fun i xs h => (by
    have hi : i < as.length := (List.getElem?_eq_some_iff.mp h).1
    exact ⟨(get1 i hi).1, xs, (get1 i hi).2.trans h⟩), alen, ae, Ex.refl _⟩
theorem fdN_of {P : Program} {w : World} {K : Fg} {mg : Str → Option Value} {base : Heap} {x : Str} {params : Arguments} {body : List Stmt} {scope : Scope} {f : Addr} {fd : FuncData} {N ps : List Str} {k : Nat} {S : FnL} (D : FunD K x x params body scope [] [] f fd) (sc : FnScope N ps scope)
    (hm : mg x = some (.ref f)) (hb : Binds K fd ps [])
    (hbody : ∀ (cdv : Value) (A : Around) (outer : List Env) (s : Shared) (H : Hp) (E : XK), Room k (A.deeper (envOfC x scope s.heap.objs.size f cdv)) → SDsN (BX P w K mg base N x scope f cdv A outer s H E) (BW E) ps.length body S) :
    FdN P w K mg base (k + 1) x ps.length (mkFnN N.length S) := by
  refine ⟨f, fd, ps, rfl, ?_, hm, D.kp, hb⟩
  refine FunD.ok D sc (fun vs H Q E h => h.1) fun cdv A outer s H vs Q E hr h => ?_
  obtain ⟨t, p, r⟩ := hbody cdv A outer s H E hr
  refine ⟨t, p, ?_⟩
  obtain ⟨hl, G, as, ae, hw⟩ := h
  refine r ⟨G, G, H, vs.map some, as⟩ _ G H (L2.start N vs) _ (en_start sc hl ae) (wp_mono (wp_bind.mp hw) (fun q hq => ?_) fun c hc cls dd σ' G' H' st x => hc cls dd G' H' st x)
  intro p ws σ' G' H' e' hp gp hh av
  by_cases c : as.length ≤ q.2.length
  · simp only [c, if_true] at hq
    exact hq p ws G' H' (e'.out c) hp gp hh av
  · simp only [c, if_false] at hq
    exact hq.elim
end

/-! ### the law's end -/
/-- the end of a law whose defs make functions: the tables are empty at the start -/
theorem walk_ofBE {l : PySem.W.OpenLaw} {n k : Nat} {q : Program} {loose : List Str} {XP : (Str → Option Value) → Heap → Prop} {YP : World → Heap → Prop} {d : DefRec} {CX : World → CXT} {x : Str}
    (hn : l.most = some n) (hn2 : n ≤ sizeLine) (hdf : d.params.defaults = []) (hr : Room k callerA)
    (F : ∀ (w : World) (mg : Str → Option Value) (fa : Addr) (h : Heap), YP w h → h.Ns mainGlobals mg → mg d.name = some (.ref fa) →
      ∃ (K : PySem.W.Frag) (fd : FuncData) (sp : Sp), K.In h ∧ (∀ p ∈ lamDefs, PySem.W.codeHdIn K (He.cT K p).1 (He.cT K p).2 = true ∧ K.lookup (He.cT K p).2 = none ∧ h.get? (He.cT K p).2 = some { cls := .none, data := .fields #[] }) ∧
        (∀ (s : Shared) (u : Value), BindsTo s fd ⟨[u], []⟩ [(x, u)]) ∧
        (∀ (H : Hp) (a : Addr) (ns : List Int), ns.length ≤ n → (∀ z ∈ ns, Builtin.Int.intBits z ≤ 1048576) → (∀ p ∈ TK K, H p.1 = some (.tbl #[])) → SqL K H a (ns.map V.int) → sp [.ref a] H (fun v _ => v = .bl true) fun _ _ _ => False) ∧
        ∀ base : Heap, K.In base → base.Ns mainGlobals mg → (∀ p ∈ lamDefs, LamX.TabB base mg (He.cT K p).1 (He.cT K p).2) → FnOk l.prog w K mg base (CX w) k fa fd [x] sp)
    (hCX : ∀ (w : World) (H : Hp) (s : Shared) (e : Value) (s' : Shared), CX w [] H s (fun _ _ _ => False) e s' → False) :
    PySem.W.WalkO q loose XP YP l.row.toRowW d [] (fun f vs => PySem.call f vs) := by
  refine Att.attach_callB hn hdf fun w s₀ s₁ mg mb fa o pm cd doc a vs ns G Y ho hd hcd hmg hobj hints hlen hbits hg => ?_
  obtain ⟨K, fd, sp, KX, hT, hb, hsp, hF⟩ := F w mg fa _ Y G.T.g hmg
  have mem : ∀ p ∈ lamDefs.map (He.cT K), ∃ d ∈ lamDefs, He.cT K d = p := fun p hp => by
    obtain ⟨d, h1, h2⟩ := List.mem_map.mp hp
    exact ⟨d, h1, h2⟩
  refine LamX.law_callTs (cs := lamDefs.map (He.cT K)) KX G.T.g G.T.b G.T.builtins G.T.nolimit hg (fun p hp => ?_) (fun p hp => ?_) (fun p hp => ?_) G.T.bmain hobj hints (Nat.le_trans hlen hn2) hr (fun base h1 h2 h3 => hF base h1 h2 fun p hp => h3 _ (List.mem_map.mpr ⟨p, hp, rfl⟩)) hb (fun H hH hS => hsp H a ns hlen hbits (fun p hp => ?_) hS) fun H e s' => hCX w H s₁ e s'
  · obtain ⟨d, h1, rfl⟩ := mem p hp
    exact (hT d h1).2.2
  · obtain ⟨d, h1, rfl⟩ := mem p hp
    exact (hT d h1).2.1
  · obtain ⟨d, h1, rfl⟩ := mem p hp
    exact PySem.W.codeHd_of_K KX (hT d h1).1
  · obtain ⟨d, h1, rfl⟩ := List.mem_map.mp hp
    exact hH (He.cT K d) (List.mem_map.mpr ⟨d, h1, rfl⟩)
/-- all but the tables -/
def noTab (H : Hp) : Hp := fun b => match H b with
  | some (.tbl _) => none
  | o => o
theorem noTab_some {H : Hp} {b : Addr} {o : HO} (h : H b = some o) (n : ∀ ps, o ≠ .tbl ps) : noTab H b = some o := by
  unfold noTab
  rw [h]
  cases o <;> first | rfl | exact absurd rfl (n _)
theorem of_noTab {H : Hp} {b : Addr} {o : HO} (h : noTab H b = some o) : H b = some o ∧ ∀ ps, o ≠ .tbl ps := by
  unfold noTab at h
  split at h
  · cases h
  · rename_i n
    exact ⟨h, fun ps z => n ps (by rw [h, z])⟩
/-- from a def's mirror -/
theorem sp_law {mg : Str → Option Value} {K : Fg} {F : Fn} {H : Hp} {a : Addr} {ns : List Int} (hT : ∀ p ∈ TK K, H p.1 = some (.tbl #[])) (hS : SqL K H a (ns.map V.int)) (h : ∃ ρ, F [.s ns] = .ok (.bool true, ρ)) : spF mg K 1 F [.ref a] H (fun v _ => v = .bl true) fun _ _ _ => False := by
  have hS' : SqL K (noTab H) a (ns.map V.int) := by
    rcases hS with (q | ⟨o, q⟩) | q
    · exact .inl (.inl (noTab_some q fun _ z => nomatch z))
    · exact .inl (.inr ⟨o, noTab_some q fun _ z => nomatch z⟩)
    · exact .inr q
  refine ⟨rfl, noTab H, [.s ns], ⟨fun b o q => (of_noTab q).1, rfl, fun i s e h1 h2 => ?_, fun i j p xs ys h1 => ?_, ⟨fun p hp => LamX.TabS.nil (hT p hp), fun b ps q => (of_noTab q).2 ps rfl⟩⟩, ?_⟩
  · match i with
    | 0 =>
      cases h1
      cases h2
      exact ⟨a, rfl, hS'⟩
    | i + 1 => simp at h1
  · match i with
    | 0 => cases h1
    | i + 1 => simp at h1
  · obtain ⟨ρ, e⟩ := h
    rw [e]
    intro G' H' af v av
    cases av
    rfl
theorem cx_none {P : Program} {w : World} {H : Hp} {s : Shared} {e : Value} {s' : Shared} (h : L2N.CX P w [] H s (fun _ _ _ => False) e s') : False := by
  obtain ⟨_, _, _, _, _, _, _, _, _, _, _, _, z⟩ := h
  exact z
end Pd
end

section
/-! Pd, part 13: short rules for the generated walks. -/
namespace Pd
open PySem L2 Evl PyProof.Rows
section
variable {X : Cx} {W : WX} {n : Nat} {a b : Expr} {fa fb : EF} {pos : Pos}
theorem hu64 {k : Nat} {A : Around} (r : Room k A) : A.units + 64 < cLine := r.units
theorem hu65 {k : Nat} {A : Around} (r : Room k A) : A.units + 65 < cLine := by have := r.un; omega
theorem op2_le {K : Fg} : Op2 K (fun x y H Q => rI0 (fun i j => .bl (decide (i ≤ j))) x y H Q ∨ (∃ i j, x = .str i ∧ y = .str j ∧ Q (.bl (!decide (j.cps.toList < i.cps.toList))) H)) leD :=
  op2_ord fun x y H Q q => ⟨x, y, rfl, rfl, by rw [le_flip]; exact q⟩
theorem op2_ge {K : Fg} : Op2 K (fun x y H Q => rI0 (fun i j => .bl (decide (j ≤ i))) x y H Q ∨ (∃ i j, x = .str i ∧ y = .str j ∧ Q (.bl (!decide (i.cps.toList < j.cps.toList))) H)) geD :=
  op2_ord fun x y H Q q => ⟨x, y, rfl, rfl, by rw [le_flip]; exact q⟩
theorem op2_gt {K : Fg} : Op2 K (fun x y H Q => rI0 (fun i j => .bl (decide (j < i))) x y H Q ∨ (∃ i j, x = .str i ∧ y = .str j ∧ Q (.bl (decide (j.cps.toList < i.cps.toList))) H)) gtD :=
  op2_ord fun x y H Q q => ⟨x, y, rfl, rfl, q⟩
theorem op2_lt {K : Fg} : Op2 K (fun x y H Q => rI0 (fun i j => .bl (decide (i < j))) x y H Q ∨ (∃ i j, x = .str i ∧ y = .str j ∧ Q (.bl (decide (i.cps.toList < j.cps.toList))) H)) ltD :=
  op2_ord fun x y H Q q => ⟨x, y, rfl, rfl, q⟩
theorem op2B_le {K : Fg} : Op2B K (fun x y H Q => rI0 (fun i j => .bl (decide (i ≤ j))) x y H Q ∨ (∃ i j, x = .str i ∧ y = .str j ∧ Q (.bl (!decide (j.cps.toList < i.cps.toList))) H)) leD :=
  op2B_ord fun x y H Q q => ⟨x, y, rfl, rfl, by rw [le_flip]; exact q⟩
theorem op2B_lt {K : Fg} : Op2B K (fun x y H Q => rI0 (fun i j => .bl (decide (i < j))) x y H Q ∨ (∃ i j, x = .str i ∧ y = .str j ∧ Q (.bl (decide (i.cps.toList < j.cps.toList))) H)) ltD :=
  op2B_ord fun x y H Q q => ⟨x, y, rfl, rfl, q⟩
theorem ed_le (ha : ED X W a fa) (hb : ED X W b fb) : ED X W (.Compare a [.LtE] [b] pos) (eOp leD fa fb) := ed_cmp (op_le.or op_le_str) op2_le (nomark _) ha hb
theorem ed_gt (ha : ED X W a fa) (hb : ED X W b fb) : ED X W (.Compare a [.Gt] [b] pos) (eOp gtD fa fb) := ed_cmp (op_gt.or op_gt_str) op2_gt (nomark _) ha hb
theorem ed_ge (ha : ED X W a fa) (hb : ED X W b fb) : ED X W (.Compare a [.GtE] [b] pos) (eOp geD fa fb) := ed_cmp (op_ge.or op_ge_str) op2_ge (nomark _) ha hb
theorem ed_in (hu : X.A.units + 65 < cLine) (ha : ED X W a fa) (hb : ED X W b fb) (hm : behindInMarks .In b = false := by rfl) : ED X W (.Compare a [.In] [b] pos) (eOp inD fa fb) := ed_cmp (opr_in hu) op2_in hm ha hb
theorem ed_nin (hu : X.A.units + 65 < cLine) (ha : ED X W a fa) (hb : ED X W b fb) (hm : behindInMarks .NotIn b = false := by rfl) : ED X W (.Compare a [.NotIn] [b] pos) (eOp ninD fa fb) := ed_cmp (opr_nin hu) op2_nin hm ha hb
theorem ed_isN (ha : ED X W a fa) (hb : ED X W b fb) : ED X W (.Compare a [.Is] [b] pos) (eOp isNonD fa fb) := ed_cmp op_isN op2_isN (nomark _) ha hb
theorem ed_notN (ha : ED X W a fa) (hb : ED X W b fb) : ED X W (.Compare a [.IsNot] [b] pos) (eOp notNonD fa fb) := ed_cmp op_notN op2_notN (nomark _) ha hb
theorem ed_isB (ha : ED X W a fa) (hb : ED X W b fb) : ED X W (.Compare a [.Is] [b] pos) (eOp isBoolD fa fb) := ed_cmp op_isBl op2_isB (nomark _) ha hb
theorem ed_notB (ha : ED X W a fa) (hb : ED X W b fb) : ED X W (.Compare a [.IsNot] [b] pos) (eOp notBoolD fa fb) := ed_cmp op_notBl op2_notB (nomark _) ha hb
theorem td_eq (hu : X.A.units + 64 < cLine) (ha : ED X W a fa) (hb : ED X W b fb) : TD X W (.Compare a [.Eq] [b] pos) (tBo (eOp eqD fa fb)) := td_cmp (op_eqD hu) op2_eq (nomark _) ha hb
theorem td_ne (hu : X.A.units + 64 < cLine) (ha : ED X W a fa) (hb : ED X W b fb) : TD X W (.Compare a [.NotEq] [b] pos) (tBo (eOp neD fa fb)) := td_cmp (op_neD hu) op2_ne (nomark _) ha hb
theorem td_lt (ha : ED X W a fa) (hb : ED X W b fb) : TD X W (.Compare a [.Lt] [b] pos) (tBo (eOp ltD fa fb)) := td_cmp (op_lt.or op_lt_str) op2_lt (nomark _) ha hb
theorem td_le (ha : ED X W a fa) (hb : ED X W b fb) : TD X W (.Compare a [.LtE] [b] pos) (tBo (eOp leD fa fb)) := td_cmp (op_le.or op_le_str) op2_le (nomark _) ha hb
theorem td_gt (ha : ED X W a fa) (hb : ED X W b fb) : TD X W (.Compare a [.Gt] [b] pos) (tBo (eOp gtD fa fb)) := td_cmp (op_gt.or op_gt_str) op2_gt (nomark _) ha hb
theorem td_ge (ha : ED X W a fa) (hb : ED X W b fb) : TD X W (.Compare a [.GtE] [b] pos) (tBo (eOp geD fa fb)) := td_cmp (op_ge.or op_ge_str) op2_ge (nomark _) ha hb
theorem td_in (hu : X.A.units + 65 < cLine) (ha : ED X W a fa) (hb : ED X W b fb) (hm : behindInMarks .In b = false := by rfl) : TD X W (.Compare a [.In] [b] pos) (tBo (eOp inD fa fb)) := td_cmp (opr_in hu) op2_in hm ha hb
theorem td_nin (hu : X.A.units + 65 < cLine) (ha : ED X W a fa) (hb : ED X W b fb) (hm : behindInMarks .NotIn b = false := by rfl) : TD X W (.Compare a [.NotIn] [b] pos) (tBo (eOp ninD fa fb)) := td_cmp (opr_nin hu) op2_nin hm ha hb
theorem td_isN (ha : ED X W a fa) (hb : ED X W b fb) : TD X W (.Compare a [.Is] [b] pos) (tBo (eOp isNonD fa fb)) := td_cmp op_isN op2_isN (nomark _) ha hb
theorem td_notN (ha : ED X W a fa) (hb : ED X W b fb) : TD X W (.Compare a [.IsNot] [b] pos) (tBo (eOp notNonD fa fb)) := td_cmp op_notN op2_notN (nomark _) ha hb
theorem td_isB (ha : ED X W a fa) (hb : ED X W b fb) : TD X W (.Compare a [.Is] [b] pos) (tBo (eOp isBoolD fa fb)) := td_cmp op_isBl op2_isB (nomark _) ha hb
theorem td_notB (ha : ED X W a fa) (hb : ED X W b fb) : TD X W (.Compare a [.IsNot] [b] pos) (tBo (eOp notBoolD fa fb)) := td_cmp op_notBl op2_notB (nomark _) ha hb
/-- an expression's value as a test of its own kind: used for comparisons with a range -/
theorem rd_tB2 {t : TE} {f : EF} (r : RdE X W t f) : RdT X W (tB t) (tBo f) := fun G H σ ρ Q a h =>
  r.use a (P := QT Q) h fun d ρ1 v G1 H1 a1 af1 at1 h1 => by
    cases at1 with
    | bl b => exact ⟨b, rfl, Wh.here (P := QT Q) h1 a1⟩
    | _ => exact h1.elim
theorem pt_of_cmp {op : CmpOp} {e₁ e₂ : Expr} {t : TE} (h : PC X op e₁ e₂ t) (hm : behindInMarks op e₂ = false) : PT X (.Compare e₁ [op] [e₂] pos) (tB t) := pt_cmp h hm
theorem pc_inR {ta : TE} {t : L2.St → Hp → (Int → Int → Hp → Prop) → Prop} (ha : PE X a ta) (hb : PRg X b t) : PC X .In a b (fun σ H Q => ta σ H fun x H1 => t σ H1 fun lo hi H2 => ∃ i, x = .int i ∧ Q (.bl (decide (lo ≤ i) && decide (i < hi))) H2) :=
  ⟨fun pins s σ H Q I h => thn (ha.run pins s σ H _ I h) fun v s1 ⟨x, H1, I1, r1, q1⟩ => thn (hb pins s1 σ H1 _ I1 q1) fun u s2 ⟨r, lo, hi, t1, t2, t3, H2, e, hR, I2, q2⟩ => by
    obtain ⟨i, rfl, q⟩ := q2
    obtain ⟨tk, rfl⟩ := r1
    subst e
    show wpAny _ _ (do return Value.bool (← contains (.ref r) (.int i tk))) _ _ _
    exact wpAny_bind (range_in hR (wpAny_pure ⟨.bl _, H2, I2, rfl, q⟩))⟩
theorem pc_ninR {ta : TE} {t : L2.St → Hp → (Int → Int → Hp → Prop) → Prop} (ha : PE X a ta) (hb : PRg X b t) : PC X .NotIn a b (fun σ H Q => ta σ H fun x H1 => t σ H1 fun lo hi H2 => ∃ i, x = .int i ∧ Q (.bl (!(decide (lo ≤ i) && decide (i < hi)))) H2) :=
  ⟨fun pins s σ H Q I h => thn (ha.run pins s σ H _ I h) fun v s1 ⟨x, H1, I1, r1, q1⟩ => thn (hb pins s1 σ H1 _ I1 q1) fun u s2 ⟨r, lo, hi, t1, t2, t3, H2, e, hR, I2, q2⟩ => by
    obtain ⟨i, rfl, q⟩ := q2
    obtain ⟨tk, rfl⟩ := r1
    subst e
    show wpAny _ _ (do return Value.bool (!(← contains (.ref r) (.int i tk)))) _ _ _
    exact wpAny_bind (range_in hR (wpAny_pure ⟨.bl _, H2, I2, rfl, q⟩))⟩
theorem td_inR {f : EF} {g : RF} (hm : behindInMarks .In b = false := by rfl) : ED X W a f → RD X W b g → TD X W (.Compare a [.In] [b] pos) (tBo (eInR false f g))
  | ⟨_, p, r⟩, ⟨_, q, s⟩ => ⟨_, pt_cmp (pc_inR p q) hm, rd_tB2 fun G H σ ρ Q a h => r.use a (P := QE X.K Q) h fun d ρ1 v G1 H1 a1 af1 at1 h1 => s.use a1 (P := QE X.K Q) h1 fun lo hi ρ2 G2 H2 a2 af2 h2 => by
    cases at1 with
    | int i => exact ⟨i, rfl, Wh.here (P := QE X.K Q) h2 a2 _ (.bl _)⟩
    | _ => exact h2.elim⟩
theorem td_ninR {f : EF} {g : RF} (hm : behindInMarks .NotIn b = false := by rfl) : ED X W a f → RD X W b g → TD X W (.Compare a [.NotIn] [b] pos) (tBo (eInR true f g))
  | ⟨_, p, r⟩, ⟨_, q, s⟩ => ⟨_, pt_cmp (pc_ninR p q) hm, rd_tB2 fun G H σ ρ Q a h => r.use a (P := QE X.K Q) h fun d ρ1 v G1 H1 a1 af1 at1 h1 => s.use a1 (P := QE X.K Q) h1 fun lo hi ρ2 G2 H2 a2 af2 h2 => by
    cases at1 with
    | int i => exact ⟨i, rfl, Wh.here (P := QE X.K Q) h2 a2 _ (.bl _)⟩
    | _ => exact h2.elim⟩
/-- a <= b <= c -/
theorem td_lele {c : Expr} {fc : EF} (ha : ED X W a fa) (hb : ED X W b fb) (hc : ED X W c fc) (hm : lastMarks [.LtE, .LtE] [b, c] = false := by with_unfolding_all rfl) : TD X W (.Compare a [.LtE, .LtE] [b, c] pos) (tBo (eCh leD leD fa fb fc)) := td_ch (op_le.or op_le_str) op2B_le (op_le.or op_le_str) op2_le hm ha hb hc
theorem ed_lele {c : Expr} {fc : EF} (ha : ED X W a fa) (hb : ED X W b fb) (hc : ED X W c fc) (hm : lastMarks [.LtE, .LtE] [b, c] = false := by with_unfolding_all rfl) : ED X W (.Compare a [.LtE, .LtE] [b, c] pos) (eCh leD leD fa fb fc) := ed_ch (op_le.or op_le_str) op2B_le (op_le.or op_le_str) op2_le hm ha hb hc
theorem td_lelt {c : Expr} {fc : EF} (ha : ED X W a fa) (hb : ED X W b fb) (hc : ED X W c fc) (hm : lastMarks [.LtE, .Lt] [b, c] = false := by with_unfolding_all rfl) : TD X W (.Compare a [.LtE, .Lt] [b, c] pos) (tBo (eCh leD ltD fa fb fc)) := td_ch (op_le.or op_le_str) op2B_le (op_lt.or op_lt_str) op2_lt hm ha hb hc
theorem ed_lelt {c : Expr} {fc : EF} (ha : ED X W a fa) (hb : ED X W b fb) (hc : ED X W c fc) (hm : lastMarks [.LtE, .Lt] [b, c] = false := by with_unfolding_all rfl) : ED X W (.Compare a [.LtE, .Lt] [b, c] pos) (eCh leD ltD fa fb fc) := ed_ch (op_le.or op_le_str) op2B_le (op_lt.or op_lt_str) op2_lt hm ha hb hc
/-- y = [.. for ..] on one line, y a local, as data -/
theorem sd_setLc (i : Nat) {y : Str} {py : Pos} {elt tg iter : Expr} {ifs : List Expr} {scope : Scope} {own : List (Str × Nat)} {is : List Nat} {pos spos : Pos} {F : AF} {g : GF} {t : TF} {f : EF} (hc : X.calm = true) (hN : X.N.Nodup) (hyl : X.env.scope.names.lookup y = some .local)
    (hsw : swapsWith (.ListComp elt [⟨tg, iter, ifs, 0⟩] scope pos) (some (.Name y py)) spos.line X.env = pure true) (ok : BlkOk X.N X.env.scope scope own) (his : ∀ i ∈ is, i ∈ own.map (·.2))
    (hi : ID X W tg iter F) (hg : ∀ (s : Shared) (H : Hp) (C : Addr) (cl : List (Str × Addr)) (fp : List Addr), GD (X.blk s H scope (compEnvC scope cl C X.env) fp) is tg g)
    (ht : ∀ (s : Shared) (H : Hp) (C : Addr) (cl : List (Str × Addr)) (fp : List Addr), TsD (X.blk s H scope (compEnvC scope cl C X.env) fp) W0 ifs t)
    (he : ∀ (s : Shared) (H : Hp) (C : Addr) (cl : List (Str × Addr)) (fp : List Addr), ED (X.blk s H scope (compEnvC scope cl C X.env) fp) W0 elt f) (hy : X.N[i]? = some y := by rfl) (hs : ∀ x, foldedSetIterable iter X.env x = pure x := by intro _; rfl) :
    SD X W n (.Assign [.Name y py] (.ListComp elt [⟨tg, iter, ifs, 0⟩] scope pos) spos) (sAsg (eLc F g t f (own.map (·.2))) (setD i)) := by
  obtain ⟨wi, p, r⟩ := hi
  refine ⟨_, ps_setLc (i := i) (g := tG X.K is g) (tt := tT X.K X.mg W0 t) (te := tE X.K X.mg W0 f) hc hN hy hyl hsw p ok (fun s H C cl fp => (hg s H C cl fp).can) (fun s H C cl fp => ht s H C cl fp) (fun s H C cl fp => (he s H C cl fp).can) hs, fun B D' G H σ ρ es h => ?_⟩
  have h' : wp (eLc0 F g t f (own.map (·.2)) ρ) (fun r => wp (li (setD i (.list r.1) r.2) >>= fun ρ' => R.ok (Fl.nx ρ')) (QS X.K B n D') (QX X.mg X.K B W)) (QX X.mg X.K B W) := by
    have h2 := wp_bind.mp h
    have h3 := wp_bind.mp h2
    exact wp_mono h3 (fun _ z => z) fun _ z => z
  refine lc_core (W := W) his r G H σ ρ _ es.en (wp_mono h' (fun q hq p vs G' H' af hp gp hh av => ?_) fun _ z => z.gv es)
  cases qs : setD i (.list q.1) q.2 with
  | none => simp only [qs] at hq; exact hq.elim
  | some ρ' =>
    simp only [qs, li_some, bind_ok] at hq
    have e2 : Ex G' (upd G' p (.lst vs)) := Ex.new gp
    have ex2 : Ex (upd G' p (.lst vs)) H' := fun b u z => by
      by_cases hb : b = p
      · subst hb; rw [upd_same] at z; rw [hh]; exact z
      · rw [upd_ne hb] at z; exact af.en.ex b u z
    have nm : ∀ q, Mt σ ρ q → q ≠ p := fun q m z => by
      obtain ⟨_, ws, e⟩ := es.en.mtH m
      rw [z] at e; exact nl_lst e hp
    have af' : Af X.K σ G H ρ (upd G' p (.lst vs)) H' q.2 := ⟨⟨af.st.ex.trans e2, fun b us h1 h2 => (by
        by_cases hb : b = p
        · subst hb; exact absurd hp (nl_lst h1)
        · rw [upd_ne hb] at h2; exact af.st.nw b us h1 h2), af.st.fr, af.st.li, fun t => (af.st.tb t).g (fun _ z => nomatch z), af.st.ls⟩, ⟨ex2, af.en.len, fun i s en h1 h2 => (by
        have q1 := af.en.sl i s en h1 h2
        cases s with
        | u => exact True.intro
        | d x => obtain ⟨v, k1, k2⟩ := q1; exact ⟨v, k1, k2.up e2⟩
        | m xs =>
          obtain ⟨b, ws, k1, k2, k3, k4⟩ := q1
          subst k1
          have m1 : Mt σ ρ b := (af.mt b).mp ⟨i, xs, h1, h2⟩
          exact ⟨b, ws, rfl, by rw [upd_ne (nm b m1)]; exact k2, k3, k4.up e2⟩
        | k kvs => exact k_up q1 e2
        | x b P => exact x_up q1 e2
        | s ns => obtain ⟨b, k1, k2⟩ := q1; exact ⟨b, k1, ex_l e2 k2⟩), af.en.dj, af.en.tb.g (fun _ z => nomatch z)⟩, af.sh⟩
    obtain ⟨a', t'⟩ := setD_at (v := .ref p) af'.en (.lst upd_same (av.up e2)) qs
    exact hq _ _ H' ((es.af af').tg a' t')
end
end Pd
end

section
/-! Pd: the last part: ends for generated texts. -/
namespace Pd
open PySem L2 Evl PyProof.Rows
theorem takes0 {X : Cx} : L2N.Takes X W0 := fun _ _ x => by
  obtain ⟨_, _, _, _, _, _, _, _, _, _, _, _, _, _, _, _, z⟩ := x
  exact z.elim
/-- no promise at all -/
theorem fd_bad {P : Program} {w : World} {K : Fg} {mg : Str → Option Value} {base : Heap} {x : Str} {params : Arguments} {body : List Stmt} {scope : Scope} {f : Addr} {fd : FuncData} {ps : List Str} {k : Nat} (D : FunD K x x params body scope [] [] f fd) (hm : mg x = some (.ref f)) (hb : Binds K fd ps []) :
    Fd P w K mg base k x ps.length (fun _ => .bad) :=
  ⟨f, fd, ps, rfl, ⟨fun vs H Q E h => h.1, fun A outer s H args us vs Q E _ _ _ _ h => by
    obtain ⟨_, G, as, _, z⟩ := h
    exact z.elim⟩, hm, D.kp, hb⟩
theorem gc_str {mg : Str → Option Value} {K : Fg} {x z : Str} (h : ∃ t, mg x = some (.str z t)) (ok : okS z = true) : GC mg K x (.str z) := by
  obtain ⟨t, e⟩ := h
  exact ⟨.str z, _, e, ⟨t, rfl⟩, fun G => .str z ok⟩
theorem gc_int {mg : Str → Option Value} {K : Fg} {x : Str} {i : Int} (h : ∃ t, mg x = some (.int i t)) : GC mg K x (.int i) := by
  obtain ⟨t, e⟩ := h
  exact ⟨.int i, _, e, ⟨t, rfl⟩, fun G => .int i⟩
theorem gc_tup {mg : Str → Option Value} {K : Fg} {x : Str} {vs : List He.Dv} {ds : List D} (h : mg x = some (.ref (He.ga K x))) (ht : He.tupB K x vs = true) (ha : ∀ G, AtL K G (vs.map (He.Dv.v K)) ds) : GC mg K x (.tuple ds) :=
  ⟨.ref (He.ga K x), _, h, rfl, fun G => .tup (He.tupB_ok ht G) (ha G)⟩
/-! ### a head that looks at the module's tables too -/
abbrev AlX : Type := He.AlD × Bool
def obsX (fa : List He.Fa) (fn : List He.DefD) (xb : Fg → Bool) (K : Fg) : AlX := (He.obsD fa fn K, xb K)
def valX (fn : List He.DefD) : AlX := (He.valD fn, true)
def obsXG (n : Nat) (fa : List He.Fa) (fn : List He.DefD) (xb : Fg → Bool) (g : Addr → Option Obj) : AlX := obsX fa fn xb (He.frG g (He.asD g n))
def SaysX (fa : List He.Fa) (fn : List He.DefD) (xb : Fg → Bool) (K : Fg) : Prop := obsX fa fn xb K = valX fn
def hookX (n : Nat) (fa : List He.Fa) (fn : List He.DefD) (xb : Fg → Bool) : PySem.W.Hook where
  α := AlX
  obs := fun s => obsXG n fa fn xb s.heap.get?
  val := fun _ => valX fn
  says := fun _ h => ∃ K : Fg, K.In h ∧ SaysX fa fn xb K
  of := fun _ _ e => ⟨_, He.frG_in, e⟩
  keeps := fun _ _ _ ⟨K, hK, c⟩ k => ⟨K, PySem.W.Frag.In.keeps hK k, c⟩
theorem obsXG_eq {n : Nat} {fa : List He.Fa} {fn : List He.DefD} {xb : Fg → Bool} {g : Addr → Option Obj} {s : Shared} (h : ∀ a, g a = s.heap.get? a) : obsXG n fa fn xb g = (hookX n fa fn xb).obs s := by
  have e : g = s.heap.get? := funext h
  rw [e] <;> rfl
theorem SaysX.d {fa : List He.Fa} {fn : List He.DefD} {xb : Fg → Bool} {K : Fg} (c : SaysX fa fn xb K) : He.SaysD fa fn K := congrArg (fun z : AlX => z.1) c
theorem SaysX.b {fa : List He.Fa} {fn : List He.DefD} {xb : Fg → Bool} {K : Fg} (c : SaysX fa fn xb K) : xb K = true := congrArg (fun z : AlX => z.2) c
/-! ### a list unpacked -/
@[simp] def gUnlD (n : Nat) (gs : GFs) : GF := fun d ρ => match d with
  | .list xs => if xs.length = n then gs xs ρ else none
  | _ => none
theorem gd_unl {X : Cx} {is : List Nat} {es : List Expr} {k n : Nat} {gs : GFs} {pos : Pos} (hc : X.calm = true) (hn : (assignEach es X.env).length = n := by rfl) (hst : (assignEach es X.env).findIdx? (·.1) = none := by rfl) : GDs X is es gs → GD X is (.Tuple es k pos) (gUnlD n gs)
  | ⟨_, p, r⟩ => ⟨_, pg_unl hc p hn hst, fun G H σ ρ v d Q a av h => by
    unfold gUnlD at h
    split at h
    · rename_i xs
      by_cases c : xs.length = n
      · simp only [c, if_true] at h
        cases av with
        | lst h1 h2 => exact ⟨_, _, rfl, sq_of (a.ex _ _ h1), by rw [h2.length]; exact c, r G H σ ρ _ _ Q a h2 h⟩
      · simp only [c, if_false] at h
        exact h.elim
    · exact h.elim⟩
end Pd
end

section
/-! Pd: own lists in a pair of targets. -/
namespace Pd
open PySem L2 Evl
section
variable {X : Cx} {W : WX} {n : Nat}
/-- x, y = [..], e : x takes a new list -/
@[simp] def sParN1 (i j : Nat) (F : AF) (g : EF) : SF := fun ρ => F ρ >>= fun r => g r.2 >>= fun b => if i < b.2.length then li (setD j b.1 (b.2.set i (.m r.1))) >>= fun ρ' => .ok (.nx ρ') else .bad
theorem sd_parN1 (i j : Nat) {x y : Str} {a b : Expr} {f : AF} {g : EF} {px py pt pos : Pos} {kt k2 pt2} (hc : X.calm = true) (hN : X.N.Nodup) (hn : n ≤ i := by decide) (hi : X.N[i]? = some x := by rfl) (hj : X.N[j]? = some y := by rfl) (hij : i ≠ j := by decide)
    (hx : X.env.scope.names.lookup x = some .local := by rfl) (hy : X.env.scope.names.lookup y = some .local := by rfl)
    (hw : swappedStores [.Tuple [.Name x px, .Name y py] kt pt] (.Tuple [a, b] k2 pt2) X.env = pure (some [x, y]) := by rfl)
    (hs : swapsWithSole [.Tuple [.Name x px, .Name y py] kt pt] (.Tuple [a, b] k2 pt2) pos.line X.env = pure false := by rfl)
    (e1 : starEach [a, b] X.env = (false, eval a X.env) :: starEach [b] X.env := by rfl) (e2 : starEach [b] X.env = (false, eval b X.env) :: starEach [] X.env := by rfl) : ND X W a f → ED X W b g →
    SD X W n (.Assign [.Tuple [.Name x px, .Name y py] kt pt] (.Tuple [a, b] k2 pt2) pos) (sParN1 i j f g)
  | ⟨_, p, r⟩, ⟨_, q, s⟩ => ⟨_, ps_par hc hN hi hj hij hx hy (pa_cons p (pa_cons q pa_nil e2) e1) hw hs, fun B D' G H σ ρ e h =>
    r G H σ ρ _ e.en (wp_mono (wp_bind.mp h) (fun c hc pp vs G1 H1 af hp gp hh av =>
      s G1 H1 σ c.2 _ af.en (wp_mono (wp_bind.mp hc) (fun b hb G2 H2 af2 w at2 => by
        by_cases hl : i < b.2.length
        · simp only [hl, if_true] at hb
          have nm : ¬ Mt σ c.2 pp := fun m => by
            obtain ⟨_, ws, z⟩ := e.en.mtH ((af.mt pp).mp m)
            exact nl_lst z hp
          have h2 := af2.st.fr pp _ hh nm (fun _ z => nomatch z)
          have g2 : G2 pp = none := by
            cases z : G2 pp with
            | none => rfl
            | some o => exact absurd gp (af2.st.nw pp _ hh (by rw [z]; exact fun z => nomatch z))
          have e3 := e.newM (af.trans af2) hl hn hp g2 h2 (av.up af2.st.ex)
          cases q1 : setD j b.1 (b.2.set i (.m c.1)) with
          | none => simp only [q1] at hb; exact hb.elim
          | some ρ3 =>
            simp only [q1, li_some, bind_ok] at hb
            obtain ⟨a4, t4⟩ := setD_at e3.en at2 q1
            exact ⟨_, w, rfl, hb _ G2 H2 (e3.tg a4 t4)⟩
        · simp only [hl, if_false] at hb
          exact hb.elim) fun _ z => z.gv (e.af af))) fun _ z => z.gv e)⟩
/-- x, y = e, [..] : y takes a new list -/
@[simp] def sParN2 (i j : Nat) (g : EF) (F : AF) : SF := fun ρ => g ρ >>= fun a => F a.2 >>= fun r => if j < r.2.length then li (setD i a.1 (r.2.set j (.m r.1))) >>= fun ρ' => .ok (.nx ρ') else .bad
theorem sd_parN2 (i j : Nat) {x y : Str} {a b : Expr} {f : AF} {g : EF} {px py pt pos : Pos} {kt k2 pt2} (hc : X.calm = true) (hN : X.N.Nodup) (hn : n ≤ j := by decide) (hi : X.N[i]? = some x := by rfl) (hj : X.N[j]? = some y := by rfl) (hij : i ≠ j := by decide)
    (hx : X.env.scope.names.lookup x = some .local := by rfl) (hy : X.env.scope.names.lookup y = some .local := by rfl)
    (hw : swappedStores [.Tuple [.Name x px, .Name y py] kt pt] (.Tuple [a, b] k2 pt2) X.env = pure (some [x, y]) := by rfl)
    (hs : swapsWithSole [.Tuple [.Name x px, .Name y py] kt pt] (.Tuple [a, b] k2 pt2) pos.line X.env = pure false := by rfl)
    (e1 : starEach [a, b] X.env = (false, eval a X.env) :: starEach [b] X.env := by rfl) (e2 : starEach [b] X.env = (false, eval b X.env) :: starEach [] X.env := by rfl) : ED X W a g → ND X W b f →
    SD X W n (.Assign [.Tuple [.Name x px, .Name y py] kt pt] (.Tuple [a, b] k2 pt2) pos) (sParN2 i j g f)
  | ⟨_, p, r⟩, ⟨_, q, s⟩ => ⟨_, ps_par hc hN hi hj hij hx hy (pa_cons p (pa_cons q pa_nil e2) e1) hw hs, fun B D' G H σ ρ e h => r.useS e h fun d ρ1 v G1 H1 e1 ex1 at1 h1 =>
    s G1 H1 σ ρ1 _ e1.en (wp_mono (wp_bind.mp h1) (fun c hc pp vs G2 H2 af hp gp hh av => by
      by_cases hl : j < c.2.length
      · simp only [hl, if_true] at hc
        have e3 := e1.newM af hl hn hp gp hh av
        cases q1 : setD i d (c.2.set j (.m c.1)) with
        | none => simp only [q1] at hc; exact hc.elim
        | some ρ3 =>
          simp only [q1, li_some, bind_ok] at hc
          obtain ⟨a4, t4⟩ := setD_at e3.en (at1.up af.st.ex) q1
          have e4 := e3.tg a4 t4
          rw [List.set_comm _ _ (Ne.symm hij)] at e4
          exact ⟨v, _, rfl, hc _ G2 H2 e4⟩
      · simp only [hl, if_false] at hc
        exact hc.elim) fun _ z => z.gv e1)⟩
end
end Pd
end

section
/-! Pd: an own list lent as data to one expression whose answer is flat. -/
namespace Pd
open PySem L2 Evl
@[simp] def flatD : D → Bool
  | .none => true
  | .bool _ => true
  | .int _ => true
  | .str _ => true
  | _ => false
@[simp] def flatSl : Sl → Bool
  | .m xs => xs.all flatD
  | _ => true
theorem At.flat {K : Fg} {G G' : Hp} {v : V} {d : D} (h : At K G v d) (f : flatD d = true) : At K G' v d := by
  cases h with
  | non => exact .non
  | bl b => exact .bl b
  | int i => exact .int i
  | str x hx => exact .str x hx
  | lst _ _ => cases f
  | tup _ _ => cases f
theorem AtL.flat {K : Fg} {G G' : Hp} : ∀ {vs : List V} {ds : List D}, AtL K G vs ds → ds.all flatD = true → AtL K G' vs ds
  | _, _, .nil, _ => .nil
  | _, _, .cons h1 h2, f => by
    rw [List.all_cons, Bool.and_eq_true] at f
    exact .cons (h1.flat f.1) (h2.flat f.2)
section
variable {K : Fg} {G H G' H' : Hp} {σ : L2.St} {ρ ρ1 : List Sl}
theorem lend_env (a : AtE K G H σ ρ) {i : Nat} {xs : List D} {p : Addr} {ws : List V} (hi : ρ[i]? = some (.m xs)) (hp : σ[i]? = some (some (.ref p))) (gp : G p = none) (hh : H p = some (.lst ws)) (av : AtL K G ws xs) :
    Ex G (upd G p (.lst ws)) ∧ AtE K (upd G p (.lst ws)) H σ (ρ.set i (.d (.list xs))) := by
  have e1 : Ex G (upd G p (.lst ws)) := fun b o h => by
    by_cases c : b = p
    · subst c; rw [gp] at h; cases h
    · rw [upd_ne c]; exact h
  have hil : i < ρ.length := (List.getElem?_eq_some_iff.mp hi).1
  refine ⟨e1, ⟨fun b o h => ?_, by simpa using a.len, fun j s en h1 h2 => ?_, fun j k q ys zs h1 h2 h3 h4 => ?_, a.tb.g (fun _ z => nomatch z)⟩⟩
  · by_cases c : b = p
    · subst c; rw [upd_same] at h; cases h; exact hh
    · rw [upd_ne c] at h; exact a.ex b o h
  · by_cases c : j = i
    · subst c
      rw [List.getElem?_set_self hil] at h1
      cases h1
      rw [hp] at h2
      cases h2
      exact ⟨_, rfl, .lst upd_same (av.up e1)⟩
    · rw [List.getElem?_set_ne (Ne.symm c)] at h1
      have h := a.sl j s en h1 h2
      cases s with
      | u => exact True.intro
      | d x =>
        obtain ⟨v, z1, z2⟩ := h
        exact ⟨v, z1, z2.up e1⟩
      | m ys =>
        obtain ⟨q, us, z1, z2, z3, z4⟩ := h
        refine ⟨q, us, z1, ?_, z3, z4.up e1⟩
        have ne : q ≠ p := fun z => by
          subst z
          subst z1
          exact c (a.dj j i q ys xs h1 hi h2 hp)
        rw [upd_ne ne]; exact z2
      | k kvs => exact k_up h e1
      | x b P => exact x_up h e1
      | s ns =>
        obtain ⟨b, z1, z2⟩ := h
        exact ⟨b, z1, ex_l e1 z2⟩
  · have cj : j ≠ i := fun z => by subst z; rw [List.getElem?_set_self hil] at h1; cases h1
    have ck : k ≠ i := fun z => by subst z; rw [List.getElem?_set_self hil] at h2; cases h2
    rw [List.getElem?_set_ne (Ne.symm cj)] at h1
    rw [List.getElem?_set_ne (Ne.symm ck)] at h2
    exact a.dj j k q ys zs h1 h2 h3 h4
theorem lend_back (a : AtE K G H σ ρ) {i : Nat} {xs : List D} {p : Addr} {ws : List V} (hi : ρ[i]? = some (.m xs)) (hp : σ[i]? = some (some (.ref p))) (gp : G p = none) (hh : H p = some (.lst ws)) (av : AtL K G ws xs)
    (af : Af K σ (upd G p (.lst ws)) H (ρ.set i (.d (.list xs))) G' H' ρ1) (fl : ρ1.all flatSl = true) : Af K σ G H ρ G H' ((keepM ρ ρ1).set i (.m xs)) := by
  obtain ⟨e1, a1⟩ := lend_env a hi hp gp hh av
  have hil : i < ρ.length := (List.getElem?_eq_some_iff.mp hi).1
  have mt1 : ∀ b, Mt σ (ρ.set i (.d (.list xs))) b → Mt σ ρ b ∧ b ≠ p := fun b ⟨j, ys, h1, h2⟩ => by
    have cj : j ≠ i := fun z => by subst z; rw [List.getElem?_set_self hil] at h1; cases h1
    rw [List.getElem?_set_ne (Ne.symm cj)] at h1
    refine ⟨⟨j, ys, h1, h2⟩, fun z => ?_⟩
    subst z
    exact cj (a.dj j i b ys xs h1 hi h2 hp)
  have exGG : Ex G G' := e1.trans af.st.ex
  have hlen : ρ1.length = ρ.length := af.en.len.trans a.len.symm
  have hkl : (keepM ρ ρ1).length = ρ.length := by simp [keepM, hlen]
  -- a slot behind
  have at2 : ∀ (j : Nat) (s : Sl), j ≠ i → ((keepM ρ ρ1).set i (.m xs))[j]? = some s → (∃ r, ρ[j]? = some r ∧ (∀ ys, r ≠ .m ys) ∧ s = r) ∨ (∃ ys ys', ρ[j]? = some (.m ys) ∧ ρ1[j]? = some (.m ys') ∧ s = .m ys') := fun j s cj h => by
    rw [List.getElem?_set_ne (Ne.symm cj)] at h
    have hj : j < ρ.length := by
      have := (List.getElem?_eq_some_iff.mp h).1
      omega
    have hr : ρ[j]? = some ρ[j] := List.getElem?_eq_getElem hj
    have hr1 : ρ1[j]? = some (ρ1[j]'(by omega)) := List.getElem?_eq_getElem (by omega)
    rw [show (keepM ρ ρ1)[j]? = some (keep1 ρ[j] (ρ1[j]'(by omega))) by unfold keepM; rw [List.getElem?_zipWith, hr, hr1]] at h
    cases q : ρ[j] with
    | m ys =>
      rw [q] at h hr
      obtain ⟨ys', z⟩ := (af.sh j).mpr ⟨ys, by rw [List.getElem?_set_ne (Ne.symm cj)]; exact hr⟩
      rw [hr1] at z
      have z := Option.some.inj z
      rw [z] at h
      cases h
      exact .inr ⟨ys, ys', hr, by rw [hr1, z], rfl⟩
    | u => rw [q] at h hr; cases h; exact .inl ⟨_, hr, (fun _ z => nomatch z), rfl⟩
    | d x => rw [q] at h hr; cases h; exact .inl ⟨_, hr, (fun _ z => nomatch z), rfl⟩
    | k ns => rw [q] at h hr; cases h; exact .inl ⟨_, hr, (fun _ z => nomatch z), rfl⟩
    | x b P => rw [q] at h hr; cases h; exact .inl ⟨_, hr, (fun _ z => nomatch z), rfl⟩
    | s ns => rw [q] at h hr; cases h; exact .inl ⟨_, hr, (fun _ z => nomatch z), rfl⟩
  have self : ((keepM ρ ρ1).set i (.m xs))[i]? = some (.m xs) := List.getElem?_set_self (by omega)
  have sh : ∀ j : Nat, (∃ zs, ((keepM ρ ρ1).set i (.m xs))[j]? = some (Sl.m zs)) ↔ (∃ zs, ρ[j]? = some (Sl.m zs)) := fun j => by
    by_cases cj : j = i
    · subst cj
      exact ⟨fun _ => ⟨xs, hi⟩, fun _ => ⟨xs, self⟩⟩
    · refine ⟨fun ⟨zs, z⟩ => ?_, fun ⟨zs, z⟩ => ?_⟩
      · rcases at2 j _ cj z with ⟨r, _, h2, h3⟩ | ⟨ys, ys', h1, _, _⟩
        · exact absurd h3.symm (h2 zs)
        · exact ⟨ys, h1⟩
      · have hj : j < ((keepM ρ ρ1).set i (.m xs)).length := by
          have := (List.getElem?_eq_some_iff.mp z).1
          rw [List.length_set, hkl]; exact this
        rcases at2 j _ cj (List.getElem?_eq_getElem hj) with ⟨r, h1, h2, _⟩ | ⟨ys, ys', _, _, h3⟩
        · rw [z] at h1; cases h1
          exact absurd rfl (h2 zs)
        · exact ⟨ys', by rw [List.getElem?_eq_getElem hj, h3]⟩
  refine ⟨⟨Ex.refl G, fun _ _ _ h => h, fun b o h1 h2 => af.st.fr b o h1 fun m => h2 (mt1 b m).1, af.st.li, fun t => ⟨(af.st.tb (t.g (fun _ z => nomatch z))).1, t.2⟩, af.st.ls⟩, ⟨exGG.trans af.en.ex, by rw [List.length_set, hkl]; exact a.len, fun j s en h1 h2 => ?_, fun j k q ys zs h1 h2 h3 h4 => ?_, ⟨af.en.tb.1, a.tb.2⟩⟩, sh⟩
  · by_cases cj : j = i
    · subst cj
      rw [self] at h1
      cases h1
      rw [hp] at h2
      cases h2
      exact ⟨p, ws, rfl, gp, af.st.fr p _ hh (fun m => (mt1 p m).2 rfl) (fun _ z => nomatch z), av⟩
    · rcases at2 j s cj h1 with ⟨r, k1, k2, k3⟩ | ⟨ys, ys', k1, k2, k3⟩
      · subst k3
        have h := a.sl j s en k1 h2
        cases s with
        | u => exact True.intro
        | d x => exact h
        | m ys => exact absurd rfl (k2 ys)
        | k ns => exact h
        | x b P => exact h
        | s ns => exact h
      · subst k3
        obtain ⟨q, us, z1, z2, z3, z4⟩ := af.en.sl j _ en k2 h2
        refine ⟨q, us, z1, ?_, z3, z4.flat (by
          have := List.all_eq_true.mp fl _ (List.mem_of_getElem? k2)
          exact this)⟩
        cases z : G q with
        | none => rfl
        | some o => rw [exGG q o z] at z2; cases z2
  · obtain ⟨ys', h1'⟩ := (sh j).mp ⟨ys, h1⟩
    obtain ⟨zs', h2'⟩ := (sh k).mp ⟨zs, h2⟩
    exact a.dj j k q ys' zs' h1' h2' h3 h4
end
section
variable {X : Cx} {W : WX}
@[simp] def eLoan (i : Nat) (f : EF) : EF := fun ρ => match ρ[i]? with
  | some (.m xs) => noEx (f (ρ.set i (.d (.list xs)))) >>= fun r => if flatD r.1 = true ∧ r.2.all flatSl = true then .ok (r.1, (keepM ρ r.2).set i (.m xs)) else .bad
  | _ => .bad
theorem ed_loan (i : Nat) {e : Expr} {f : EF} : ED X W e f → ED X W e (eLoan i f)
  | ⟨t, p, r⟩ => ⟨t, p, fun G H σ ρ Q a h => by
    unfold eLoan at h
    split at h
    · rename_i xs hi
      obtain ⟨en, h1, q, ws, h2, gp, hh, av⟩ := a.at_ hi
      subst h2
      obtain ⟨_, a1⟩ := lend_env a hi h1 gp hh av
      refine r _ H σ _ Q a1 (wp_noEx (wp_mono (wp_bind.mp h) (fun s hs G' H' af v av' => ?_) fun _ z => z))
      by_cases c : flatD s.1 = true ∧ s.2.all flatSl = true
      · simp only [if_pos c] at hs
        exact hs G H' (lend_back a hi h1 gp hh av af c.2) v (av'.flat c.1)
      · simp only [if_neg c] at hs
        exact hs.elim
    · exact h.elim⟩
@[simp] def tLoan (i : Nat) (f : TF) : TF := fun ρ => match ρ[i]? with
  | some (.m xs) => noEx (f (ρ.set i (.d (.list xs)))) >>= fun r => if r.2.all flatSl = true then .ok (r.1, (keepM ρ r.2).set i (.m xs)) else .bad
  | _ => .bad
theorem td_loan (i : Nat) {e : Expr} {f : TF} : TD X W e f → TD X W e (tLoan i f)
  | ⟨t, p, r⟩ => ⟨t, p, fun G H σ ρ Q a h => by
    unfold tLoan at h
    split at h
    · rename_i xs hi
      obtain ⟨en, h1, q, ws, h2, gp, hh, av⟩ := a.at_ hi
      subst h2
      obtain ⟨_, a1⟩ := lend_env a hi h1 gp hh av
      refine r _ H σ _ Q a1 (wp_noEx (wp_mono (wp_bind.mp h) (fun s hs G' H' af => ?_) fun _ z => z))
      by_cases c : s.2.all flatSl = true
      · simp only [if_pos c] at hs
        exact hs G H' (lend_back a hi h1 gp hh av af c)
      · simp only [if_neg c] at hs
        exact hs.elim
    · exact h.elim⟩
end
end Pd
end

section
/-! Pd: str of an int, sorted texts. -/
namespace Pd
open PySem PySem.Spec L2 Evl PyProof.Rows
/-! ### str(i) -/
@[simp] def txtI (i : Int) : Str := toString i
@[simp] def strD : List D → Option D
  | [.int i] => if i.natAbs.log2 < 1920 ∧ okS (txtI i) = true then some (.str (txtI i)) else none
  | _ => none
theorem opc_str {K : Fg} : OpC K (fun xs H Q => ∃ i, xs = [.int i] ∧ i.natAbs.log2 < 1920 ∧ Q (.str (toString i)) H) strD := by
  intro G H vs ds Q e a h
  unfold strD at h
  split at h
  · rename_i i
    by_cases c : i.natAbs.log2 < 1920 ∧ okS (txtI i) = true
    · rw [if_pos c] at h
      obtain ⟨v, rfl, a'⟩ := a.one
      cases a' with
      | int _ => exact ⟨i, rfl, c.1, h.val e (.str _ c.2)⟩
    · rw [if_neg c] at h
      exact h.elim
  · exact h.elim
/-! ### sorted(texts) -/
def sle (a b : Str) : Bool := !ltCps b.cps.toList a.cps.toList
theorem sle_iff {a b : Str} : sle a b = true ↔ a.cps.toList ≤ b.cps.toList := by
  unfold sle
  rw [ltCps_eq, Bool.not_eq_true', decide_eq_false_iff_not]
  exact List.not_lt
theorem sle_trans (a b c : Str) (h1 : sle a b = true) (h2 : sle b c = true) : sle a c = true := sle_iff.mpr (List.le_trans (sle_iff.mp h1) (sle_iff.mp h2))
theorem sle_total (a b : Str) : (sle a b || sle b a) = true := by
  rw [Bool.or_eq_true, sle_iff, sle_iff]
  exact List.le_total ..
theorem sle_anti {a b : Str} (h1 : sle a b = true) (h2 : sle b a = true) : a = b := by
  have := List.le_antisymm (sle_iff.mp h1) (sle_iff.mp h2)
  cases a; cases b
  simp only [Str.mk.injEq]
  exact Array.toList_inj.mp this
theorem pw_rising : ∀ (p : Str) (l : List Str), risingS p l = true → (p :: l).Pairwise fun a b => sle a b = true
  | p, [], _ => by simp
  | p, x :: r, h => by
    have h' : (!ltCps x.cps.toList p.cps.toList && risingS x r) = true := h
    rw [Bool.and_eq_true] at h'
    have ih := pw_rising x r h'.2
    refine List.pairwise_cons.mpr ⟨fun y hy => ?_, ih⟩
    have h1 : sle p x = true := h'.1
    rcases List.mem_cons.mp hy with rfl | hy
    · exact h1
    · exact sle_trans _ _ _ h1 ((List.pairwise_cons.mp ih).1 y hy)
theorem pw_sorted : ∀ (l : List Str), sortedS l = true → l.Pairwise fun a b => sle a b = true
  | [], _ => .nil
  | x :: r, h => pw_rising x r h
def sortStr (xs : List Str) : List Str := xs.mergeSort sle
theorem sortStr_perm (xs : List Str) : (sortStr xs).Perm xs := List.mergeSort_perm ..
theorem sortStr_pw (xs : List Str) : (sortStr xs).Pairwise fun a b => sle a b = true := List.pairwise_mergeSort sle_trans sle_total xs
theorem sortStr_eq {xs ys : List Str} (h : ys.Perm xs) (hs : sortedS ys = true) : ys = sortStr xs :=
  List.Perm.eq_of_pairwise (fun _ _ _ _ h1 h2 => sle_anti h1 h2) (pw_sorted ys hs) (sortStr_pw xs) (h.trans (sortStr_perm xs).symm)
def srtL (xs : List D) : Option (List D) := (strsOf xs).bind fun ss => if ss.length < 64 then some ((sortStr ss).map PyData.str) else none
@[simp] def srtD : List D → Option D
  | [.list xs] => (srtL xs).map PyData.list
  | _ => none
theorem opc_srt {K : Fg} : OpC K (rSortedS K) srtD := by
  intro G H vs ds Q e a h
  unfold srtD at h
  split at h
  · rename_i xs
    obtain ⟨v, rfl, a'⟩ := a.one
    cases a' with
    | lst h1 h2 =>
      unfold srtL at h
      cases q : strsOf xs with
      | none => rw [q] at h; exact h.elim
      | some bs =>
        rw [q] at h
        obtain ⟨e2, ok⟩ := strs_at h2 q
        subst e2
        by_cases c : bs.length < 64
        · simp only [Option.bind_some, if_pos c, Option.map_some] at h
          refine ⟨_, bs, rfl, sq_of (e _ _ h1), c, fun ys p hp hs hn => ?_⟩
          rw [sortStr_eq hp hs]
          exact h.lst e (at_strs _ fun x hx => ok x ((sortStr_perm bs).mem_iff.mp hx)) p hn
        · simp only [Option.bind_some, if_neg c, Option.map_none] at h
          exact h.elim
  · exact h.elim
section
variable {X : Cx} {W : WX}
/-- sorted(x), x an own list of texts -/
@[simp] def eSrtM (i : Nat) : EF := fun ρ => li ((getM i ρ).bind srtL) >>= fun xs => .ok (.list xs, ρ)
theorem ed_srtM (i : Nat) {x : Str} {p0 p pos : Pos} (hg : Gl X "sorted") (hm : X.mg "sorted" = none) (hN : X.N[i]? = some x := by rfl) (hv : Vis X.env.scope x := by first | exact Or.inl rfl | exact Or.inr (Or.inl rfl) | exact Or.inr (Or.inr rfl)) (hd : (x == ("__debug__" : Str)) = false := by decide)
    (hcd : (x == ("__classdict__" : Str)) = false := by decide) (he : starEach [Expr.Name x p0] X.env = (false, eval (.Name x p0) X.env) :: starEach [] X.env := by rfl) (hpl : (backTo pos (starEach [] X.env)).any (·.1) = false := by rfl) : ED X W (.Call (.Name "sorted" p) [.Name x p0] [] pos) (eSrtM i) :=
  ⟨_, pe_callB cr_sortedS hg hm (by decide +kernel) (pa_cons (pv i hN hv hd hcd) pa_nil he) (by decide) (by decide) he hpl, fun G H σ ρ Q a h => by
    cases q0 : getM i ρ with
    | none => simp only [eSrtM, q0] at h; exact h.elim
    | some xs =>
      simp only [eSrtM, q0, Option.bind_some, srtL] at h
      obtain ⟨q, ws, e1, e2, e3, e4⟩ := a.getM (getM_some q0)
      cases q1 : strsOf xs with
      | none => rw [q1] at h; exact h.elim
      | some bs =>
        rw [q1] at h
        obtain ⟨e5, ok⟩ := strs_at e4 q1
        subst e5
        by_cases c : bs.length < 64
        · simp only [Option.bind_some, if_pos c, li_some, bind_ok] at h
          refine ⟨_, e1, _, bs, rfl, sq_of e3, c, fun ys l hp hs hl => ?_⟩
          rw [sortStr_eq hp hs]
          have av : AtL X.K G ((sortStr bs).map V.str) ((sortStr bs).map PyData.str) := at_strs _ fun x hx => ok x ((sortStr_perm bs).mem_iff.mp hx)
          exact h (upd G l (.lst _)) _ (Af.grow a (Stp.new a.ex hl) (ex_upd2 a.ex)) _ (.lst upd_same (av.up (Ex.new (fresh_back a.ex hl))))
        · simp only [Option.bind_some, if_neg c] at h
          exact h.elim⟩
end
end Pd
end

section
/-! Pd: dicts that are made once and looked up. -/
namespace Pd
open PySem L2 Evl
@[simp] def keyD : D → Option Key
  | .int i => some (.inl i)
  | .str x => some (.inr x)
  | _ => none
def valKD : List (Key × D) → Key → Option D
  | [], _ => none
  | u :: us, k => if u.1 = k then some u.2 else valKD us k
def putKD (kvs : List (Key × D)) (k : Key) (v : D) : List (Key × D) :=
  if (kvs.any fun kv => decide (kv.1 = k)) = true then kvs.map (fun kv => if kv.1 = k then (kv.1, v) else kv) else kvs ++ [(k, v)]
def mergeKD (kvs more : List (Key × D)) : List (Key × D) := more.foldl (fun acc kv => putKD acc kv.1 kv.2) kvs
section
variable {K : Fg} {G : Hp}
theorem At.key {v : V} {d : D} {k : Key} (h : At K G v d) (e : keyD d = some k) : v = kV k := by
  cases h <;> simp [keyD] at e <;> subst e <;> rfl
theorem AtK.val {k : Key} : ∀ {us : List (Key × V)} {kvs : List (Key × D)} {d : D}, AtK K G us kvs → valKD kvs k = some d → ∃ v, valV us k = some v ∧ At K G v d
  | [], [], _, _, e => by simp [valKD] at e
  | u :: us, q :: kvs, d, h, e => by
    obtain ⟨h1, h2, h3⟩ := h
    unfold valKD at e
    by_cases c : q.1 = k
    · rw [if_pos c] at e
      cases e
      exact ⟨u.2, valV_pos (h1.trans c), h2⟩
    · rw [if_neg c] at e
      obtain ⟨v, k1, k2⟩ := AtK.val h3 e
      exact ⟨v, by rw [valV_neg (fun z => c (h1.symm.trans z))]; exact k1, k2⟩
  | [], _ :: _, _, h, _ => h.elim
  | _ :: _, [], _, h, _ => h.elim
theorem AtK.any {k : Key} : ∀ {us : List (Key × V)} {kvs : List (Key × D)}, AtK K G us kvs → (us.any fun kv => decide (kv.1 = k)) = kvs.any fun kv => decide (kv.1 = k)
  | [], [], _ => rfl
  | u :: us, q :: kvs, h => by
    obtain ⟨h1, h2, h3⟩ := h
    rw [List.any_cons, List.any_cons, AtK.any h3, h1]
  | [], _ :: _, h => h.elim
  | _ :: _, [], h => h.elim
theorem AtK.app {k : Key} {v : V} {d : D} (a : At K G v d) : ∀ {us : List (Key × V)} {kvs : List (Key × D)}, AtK K G us kvs → AtK K G (us ++ [(k, v)]) (kvs ++ [(k, d)])
  | [], [], _ => ⟨rfl, a, trivial⟩
  | _ :: _, _ :: _, h => ⟨h.1, h.2.1, AtK.app a h.2.2⟩
  | [], _ :: _, h => h.elim
  | _ :: _, [], h => h.elim
theorem AtK.rep {k : Key} {v : V} {d : D} (a : At K G v d) : ∀ {us : List (Key × V)} {kvs : List (Key × D)}, AtK K G us kvs → AtK K G (us.map (fun kv => if kv.1 = k then (kv.1, v) else kv)) (kvs.map (fun kv => if kv.1 = k then (kv.1, d) else kv))
  | [], [], _ => trivial
  | u :: us, q :: kvs, h => by
    obtain ⟨h1, h2, h3⟩ := h
    rw [List.map_cons, List.map_cons]
    by_cases c : q.1 = k
    · rw [if_pos c, if_pos (h1.trans c)]
      exact ⟨h1, a, AtK.rep a h3⟩
    · rw [if_neg c, if_neg (fun z => c (h1.symm.trans z))]
      exact ⟨h1, h2, AtK.rep a h3⟩
  | [], _ :: _, h => h.elim
  | _ :: _, [], h => h.elim
theorem AtK.put {k : Key} {v : V} {d : D} {us : List (Key × V)} {kvs : List (Key × D)} (h : AtK K G us kvs) (a : At K G v d) : AtK K G (putK us k v) (putKD kvs k d) := by
  unfold putK putKD
  rw [h.any]
  split
  · exact AtK.rep a h
  · exact AtK.app a h
theorem AtK.merge : ∀ {ms : List (Key × V)} {mk : List (Key × D)} {us : List (Key × V)} {kvs : List (Key × D)}, AtK K G ms mk → AtK K G us kvs → AtK K G (mergeK us ms) (mergeKD kvs mk)
  | [], [], _, _, _, h => h
  | m :: ms, q :: mk, us, kvs, hm, h => by
    obtain ⟨h1, h2, h3⟩ := hm
    show AtK K G (mergeK (putK us m.1 m.2) ms) (mergeKD (putKD kvs q.1 q.2) mk)
    rw [h1]
    exact AtK.merge h3 (h.put h2)
  | [], _ :: _, _, _, h, _ => h.elim
  | _ :: _, [], _, _, h, _ => h.elim
end
/-- a list of pairs as entries -/
@[simp] def pairsD : List D → Option (List (Key × D))
  | [] => some []
  | .tuple [a, b] :: r => (keyD a).bind fun k => (pairsD r).map fun m => (k, b) :: m
  | _ => none
theorem pair_at {K : Fg} {G : Hp} {v : V} {a b : D} (h : At K G v (.tuple [a, b])) : ∃ p x y, v = .ref p ∧ SqT K G p [x, y] ∧ At K G x a ∧ At K G y b := by
  cases h with
  | tup h1 h2 =>
    cases h2 with
    | cons ha h3 =>
      cases h3 with
      | cons hb h4 =>
        cases h4
        exact ⟨_, _, _, rfl, h1, ha, hb⟩
theorem pairs_at {K : Fg} {G H : Hp} (e : Ex G H) {ds : List D} : ∀ {vs : List V} {m : List (Key × D)}, AtL K G vs ds → pairsD ds = some m → ∃ (ps : List Addr) (us : List (Key × V)), vs = ps.map V.ref ∧ Paired (fun p (kv : Key × V) => SqT K H p [kV kv.1, kv.2]) ps us ∧ AtK K G us m := by
  induction ds with
  | nil =>
    intro vs m av h
    cases av
    cases h
    exact ⟨[], [], rfl, .nil, trivial⟩
  | cons d r ih =>
    intro vs m av h
    cases av with
    | cons h1 h2 =>
      unfold pairsD at h
      split at h
      · next q => cases q
      · next a b r' q =>
        cases q
        simp only [Option.bind_eq_some_iff, Option.map_eq_some_iff] at h
        obtain ⟨k, hk, m', hm, rfl⟩ := h
        obtain ⟨p, x, y, rfl, g1, ha, hb⟩ := pair_at h1
        obtain ⟨ps, us, e1, e2, e3⟩ := ih h2 hm
        have e4 := ha.key hk
        subst e4
        exact ⟨p :: ps, (k, y) :: us, by rw [e1]; rfl, .cons (ex_t e g1) e2, rfl, hb, e3⟩
      · cases h
section
variable {X : Cx} {W : WX} {n : Nat}
abbrev KF := List Sl → R (List (Key × D) × List Sl)
def QK (K : Fg) (σ : L2.St) (G H : Hp) (ρ : List Sl) (Q : VK) (r : List (Key × D) × List Sl) : Prop := ∀ v G' H', Af K σ G H ρ G' H' r.2 → AtS K G' H' (some v) (.k r.1) → Q v H'
/-- an expression that makes a dict -/
def DD (X : Cx) (W : WX) (e : Expr) (F : KF) : Prop := ∃ t, PE X e t ∧ ∀ (G H : Hp) (σ : L2.St) (ρ : List Sl) (Q : VK), AtE X.K G H σ ρ → wp (F ρ) (QK X.K σ G H ρ Q) (GvX X.mg X.K σ G H ρ W) → t σ H Q
@[simp] def kDict (f : EF) : KF := fun ρ => f ρ >>= fun r => match r.1 with
  | .list xs => li (pairsD xs) >>= fun m => .ok (mergeKD [] m, r.2)
  | _ => .bad
theorem dd_dict {e : Expr} {f : EF} {p pos : Pos} (hcalm : X.calm = true) (hg : Gl X "dict") (hm : X.mg "dict" = none) (he : starEach [e] X.env = (false, eval e X.env) :: starEach [] X.env := by rfl) (hpl : (backTo pos (starEach [] X.env)).any (·.1) = false := by rfl) : ED X W e f → DD X W (.Call (.Name "dict" p) [e] [] pos) (kDict f)
  | ⟨_, q, r⟩ => ⟨_, pe_callTy (call_dictP hcalm) hg hm (by decide +kernel) (pa_cons q pa_nil he) (by decide) (by decide) he hpl, fun G H σ ρ Q a h => by
    refine r G H σ ρ _ a (wp_mono (wp_bind.mp h) (fun c hc G1 H1 af v av => ?_) fun _ z => z)
    obtain ⟨c1, c2⟩ := c
    cases av with
    | lst h1 h2 =>
      rename_i xs ds
      cases q1 : pairsD ds with
      | none => simp only [q1] at hc; exact hc.elim
      | some m =>
        simp only [q1, li_some, bind_ok] at hc
        obtain ⟨ps, us, e1, e2, e3⟩ := pairs_at af.en.ex h2 q1
        subst e1
        refine ⟨_, ps, us, rfl, sq_of (af.en.ex _ _ h1), e2, fun l hl => ?_⟩
        have eg := Ex.new (o := .dK (mergeK [] us)) (fresh_back af.en.ex hl)
        exact hc (.ref l) (upd G1 l (.dK (mergeK [] us))) _ (af.trans (Af.grow af.en (Stp.new af.en.ex hl) (ex_upd2 af.en.ex))) ⟨l, mergeK [] us, rfl, upd_same, (e3.up eg).merge (trivial : AtK _ _ [] [])⟩
    | _ => exact hc.elim⟩
/-- slot i is there and no own list -/
def freeAt (i : Nat) (ρ : List Sl) : Bool := match ρ[i]? with
  | some (.m _) => false
  | none => false
  | some _ => true
theorem setK_at {K : Fg} {G H : Hp} {σ : L2.St} {ρ : List Sl} {i : Nat} {v : V} {kvs : List (Key × D)} (a : AtE K G H σ ρ) (av : AtS K G H (some v) (.k kvs)) (h : freeAt i ρ = true) : AtE K G H (σ.set i (some v)) (ρ.set i (.k kvs)) ∧ TgR [i] σ ρ (σ.set i (some v)) (ρ.set i (.k kvs)) := by
  have hs : (∀ xs, ρ[i]? ≠ some (Sl.m xs)) ∧ i < ρ.length := by
    unfold freeAt at h
    split at h
    · cases h
    · cases h
    · rename_i s hm e
      exact ⟨fun xs z => hm xs (Option.some.inj (e.symm.trans z)), (List.getElem?_eq_some_iff.mp e).1⟩
  obtain ⟨hm, hi⟩ := hs
  have hiσ : i < σ.length := by rw [← a.len]; exact hi
  have get1 : ∀ j : Nat, j ≠ i → (σ.set i (some v))[j]? = σ[j]? ∧ (ρ.set i (.k kvs))[j]? = ρ[j]? := fun j hj => ⟨List.getElem?_set_ne (Ne.symm hj), List.getElem?_set_ne (Ne.symm hj)⟩
  refine ⟨⟨a.ex, by simpa using a.len, fun j s en h1 h2 => ?_, fun j k p xs ys h1 h2 h3 h4 => ?_, a.tb⟩, ⟨by simp, fun j hj => get1 j (by simpa using hj), fun j hj => ?_⟩⟩
  · by_cases hj : j = i
    · subst hj
      rw [List.getElem?_set_self hi] at h1
      rw [List.getElem?_set_self hiσ] at h2
      cases h1; cases h2
      exact av
    · rw [(get1 j hj).2] at h1
      rw [(get1 j hj).1] at h2
      exact a.sl j s en h1 h2
  · have nj : ∀ (j : Nat) (xs : List D), (ρ.set i (.k kvs))[j]? = some (Sl.m xs) → j ≠ i := fun j xs q z => by
      subst z
      rw [List.getElem?_set_self hi] at q; cases q
    have n1 := nj j xs h1
    have n2 := nj k ys h2
    rw [(get1 j n1).2] at h1
    rw [(get1 k n2).2] at h2
    rw [(get1 j n1).1] at h3
    rw [(get1 k n2).1] at h4
    exact a.dj j k p xs ys h1 h2 h3 h4
  · have e : j = i := by simpa using hj
    subst e
    refine ⟨hm, fun xs z => ?_⟩
    rw [List.getElem?_set_self hi] at z; cases z
/-- x, y = [..], dict(..) -/
@[simp] def sParNK (i j : Nat) (F : AF) (g : KF) : SF := fun ρ => F ρ >>= fun r => g r.2 >>= fun b => if i < b.2.length ∧ freeAt j (b.2.set i (.m r.1)) = true then .ok (.nx ((b.2.set i (.m r.1)).set j (.k b.1))) else .bad
theorem sd_parNK (i j : Nat) {x y : Str} {a b : Expr} {f : AF} {g : KF} {px py pt pos : Pos} {kt k2 pt2} (hc : X.calm = true) (hN : X.N.Nodup) (hn : n ≤ i := by decide) (hi : X.N[i]? = some x := by rfl) (hj : X.N[j]? = some y := by rfl) (hij : i ≠ j := by decide)
    (hx : X.env.scope.names.lookup x = some .local := by rfl) (hy : X.env.scope.names.lookup y = some .local := by rfl)
    (hw : swappedStores [.Tuple [.Name x px, .Name y py] kt pt] (.Tuple [a, b] k2 pt2) X.env = pure (some [x, y]) := by rfl)
    (hs : swapsWithSole [.Tuple [.Name x px, .Name y py] kt pt] (.Tuple [a, b] k2 pt2) pos.line X.env = pure false := by rfl)
    (e1 : starEach [a, b] X.env = (false, eval a X.env) :: starEach [b] X.env := by rfl) (e2 : starEach [b] X.env = (false, eval b X.env) :: starEach [] X.env := by rfl) : ND X W a f → DD X W b g →
    SD X W n (.Assign [.Tuple [.Name x px, .Name y py] kt pt] (.Tuple [a, b] k2 pt2) pos) (sParNK i j f g)
  | ⟨_, p, r⟩, ⟨_, q, s⟩ => ⟨_, ps_par hc hN hi hj hij hx hy (pa_cons p (pa_cons q pa_nil e2) e1) hw hs, fun B D' G H σ ρ e h =>
    r G H σ ρ _ e.en (wp_mono (wp_bind.mp h) (fun c hc pp vs G1 H1 af hp gp hh av =>
      s G1 H1 σ c.2 _ af.en (wp_mono (wp_bind.mp hc) (fun b hb w G2 H2 af2 at2 => by
        by_cases hl : i < b.2.length ∧ freeAt j (b.2.set i (.m c.1)) = true
        · rw [if_pos hl] at hb
          have nm : ¬ Mt σ c.2 pp := fun m => by
            obtain ⟨_, ws, z⟩ := e.en.mtH ((af.mt pp).mp m)
            exact nl_lst z hp
          have h2 := af2.st.fr pp _ hh nm (fun _ z => nomatch z)
          have g2 : G2 pp = none := by
            cases z : G2 pp with
            | none => rfl
            | some o => exact absurd gp (af2.st.nw pp _ hh (by rw [z]; exact fun z => nomatch z))
          have e3 := e.newM (af.trans af2) hl.1 hn hp g2 h2 (av.up af2.st.ex)
          obtain ⟨a4, t4⟩ := setK_at e3.en at2 hl.2
          exact ⟨_, w, rfl, hb _ G2 H2 (e3.tg a4 t4)⟩
        · rw [if_neg hl] at hb
          exact hb.elim) fun _ z => z.gv (e.af af))) fun _ z => z.gv e)⟩
/-- x[e], x a dict's slot -/
@[simp] def eGetK (i : Nat) (f : EF) : EF := fun ρ => match ρ[i]? with
  | some (.k _) => f ρ >>= fun r => match r.2[i]? with
    | some (.k kvs) => li ((keyD r.1).bind (valKD kvs)) >>= fun d => .ok (d, r.2)
    | _ => .bad
  | _ => .bad
theorem ed_getK (i : Nat) {x : Str} {e : Expr} {f : EF} {p pos : Pos} (hu : X.A.units + 65 < cLine) (hN : X.N[i]? = some x := by rfl) (hv : Vis X.env.scope x := by first | exact Or.inl rfl | exact Or.inr (Or.inl rfl) | exact Or.inr (Or.inr rfl)) (hd : (x == ("__debug__" : Str)) = false := by decide)
    (hcd : (x == ("__classdict__" : Str)) = false := by decide) (hs : NoSl e := by intro _ _; rfl) : ED X W e f → ED X W (.Subscript (.Name x p) e pos) (eGetK i f)
  | ⟨_, q, r⟩ => ⟨_, pe_dget (by omega) (pv i hN hv hd hcd) q hs, fun G H σ ρ Q a h => by
    unfold eGetK at h
    split at h
    · rename_i kvs0 e0
      obtain ⟨en, h1, a0, us0, h2, _⟩ := a.at_ e0
      subst h2
      refine ⟨.ref a0, h1, r.use a (P := QE X.K Q) h fun d ρ1 v G1 H1 a1 af1 at1 h3 => ?_⟩
      simp only at h3
      split at h3
      · rename_i kvs e4
        obtain ⟨en', h1', a4, us, h5, h6, h7⟩ := a1.at_ e4
        subst h5
        rw [h1] at h1'
        cases h1'
        cases q1 : keyD d with
        | none => rw [q1] at h3; exact h3.elim
        | some k =>
          cases q2 : valKD kvs k with
          | none => rw [q1, Option.bind_some, q2] at h3; exact h3.elim
          | some dd =>
            rw [q1, Option.bind_some, q2] at h3
            obtain ⟨w, k1, k2⟩ := AtK.val h7 q2
            refine ⟨a0, w, rfl, .inl ⟨us, k, .inl (a1.ex _ _ h6), at1.key q1, k1.symm⟩, Wh.here (P := QE X.K Q) h3 a1 _ k2⟩
      · exact h3.elim
    · exact h.elim⟩
end
end Pd
end

section
/-! Pd: the mirrors of the laws' common helpers (printed by gen.py), and what they do. -/
namespace Pd
open PySem L2
def S__law_cup : FnL :=
  nSeq (sAsg (eCall absD (aCons (eOp ixD (eOp addD (eListS 0) (eLst (aCons (eC (.int 0)) (aNil)))) (eC (.int 0))) (aNil))) (setD 1)) (nLst (aCons (eIf (tBo (eOp geD (eVar 1) (eOp powD (eC (.int 10)) (eC (.int 18))))) (eOp divD (eVar 1) (eC (.int 73))) (eC (.int 0))) (aCons (eOp addD (eOp modD (eCall intOf (aCons (eOp addD (eOp mulD (eVar 1) (eC (.int 283))) (eC (.int 3907))) (aNil))) (eC (.int 2077503167))) (eC (.int 167))) (aNil))))
def m__law_cup : FnL := mkFnN 2 S__law_cup
def S__law_roll : SF :=
  sSeq (sIf (tBo (eOp gtD (eIxM 0 (eC (.int 0))) (eC (.int 0)))) (sSeq (sAsg (eOp modD (eCall intOf (aCons (eIxM 0 (eC (.int 0))) (aNil))) (eVar 1)) (setD 2)) (sSeq (sSetI 0 (eC (.int 0)) (eOp divD (eIxM 0 (eC (.int 0))) (eVar 1))) (sRet (eVar 2)))) (sNx)) (sSeq (sSetI 0 (eC (.int 1)) (eOp modD (eCall intOf (aCons (eOp addD (eOp mulD (eIxM 0 (eC (.int 1))) (eC (.int 31051))) (eC (.int 7993))) (aNil))) (eC (.int 2147483543)))) (sSeq (sAsg (eOp modD (eCall intOf (aCons (eOp mulD (eIxM 0 (eC (.int 1))) (eOp addD (eIxM 0 (eC (.int 1))) (eC (.int 229)))) (aNil))) (eC (.int 2147483587))) (setD 3)) (sRet (eOp modD (eCall intOf (aCons (eOp divD (eVar 3) (eC (.int 821))) (aNil))) (eVar 1)))))
def m__law_roll : Fn := mkFn 4 S__law_roll
def S__law_some : SF :=
  sRet (eOp ixD (eVar 1) (eUser 2 (m__law_roll) (cR 0 (cD (eCall lenD (aCons (eVar 1) (aNil))) (cNil)))))
def m__law_some : Fn := mkFn 2 S__law_some
def S__law_sort : SF :=
  sSeq (sIf (tOr' (tBo (eOp isNonD (eVar 0) (eC .none))) (tOf (eIsi "bool" (eVar 0)))) (sRet (eIf (tBo (eOp isNonD (eVar 0) (eC .none))) (eC (.int 0)) (eC (.int 1)))) (sNx)) (sSeq (sIf (tOr' (tOf (eIsi "int" (eVar 0))) (tOf (eIsi "str" (eVar 0)))) (sRet (eIf (tOf (eIsi "int" (eVar 0))) (eC (.int 2)) (eC (.int 3)))) (sNx)) (sRet (eIf (tOf (eIsi "tuple" (eVar 0))) (eC (.int 4)) (eIf (tOf (eIsi "list" (eVar 0))) (eC (.int 5)) (eC (.int 6))))))
def m__law_sort : Fn := mkFn 1 S__law_sort
def S__law_like (self : Fn) : SF :=
  sSeq (sAsg (eUser 1 (m__law_sort) (cD (eVar 1) (cNil))) (setD 2)) (sSeq (sIf (tOr' (tBo (eOp neD (eUser 1 (m__law_sort) (cD (eVar 0) (cNil))) (eVar 2))) (tBo (eOp eqD (eVar 2) (eC (.int 6))))) (sRet (eC (.bool false))) (sNx)) (sSeq (sIf (tBo (eOp inD (eVar 2) (eTup (aCons (eC (.int 4)) (aCons (eC (.int 5)) (aNil)))))) (sRet (eAn (eOp eqD (eCall lenD (aCons (eVar 0) (aNil))) (eCall lenD (aCons (eVar 1) (aNil)))) (eOp eqD (eLc (iZip2 (eVar 0) (eVar 1)) (gTupD 2 (gsCons (setD 3) (gsCons (setD 4) (gsNil)))) (tNo (tOf (eUser 2 (self) (cD (eVar 3) (cD (eVar 4) (cNil)))))) (eC (.int 1)) [3, 4]) (eLst (aNil))))) (sNx)) (sRet (eOp eqD (eVar 0) (eVar 1)))))
def m__law_like : Nat → Fn
  | 0 => fun _ => .bad
  | n + 1 => mkFn 5 (S__law_like (m__law_like n))

/-! ### slots -/
def nm : Sl → Bool
  | .m _ => false
  | _ => true
@[simp] theorem nm_u : nm .u = true := rfl
@[simp] theorem nm_d (d : D) : nm (.d d) = true := rfl
@[simp] theorem nm_s (d : List Int) : nm (.s d) = true := rfl
@[simp] theorem nm_m (d : List D) : nm (.m d) = false := rfl
@[simp] def nmAt (i : Nat) (ρ : List Sl) : Bool := match ρ[i]? with
  | some s => nm s
  | none => false
@[simp] theorem setD_eq {i : Nat} {d : D} {ρ : List Sl} (h : nmAt i ρ = true) : setD i d ρ = some (ρ.set i (.d d)) := by
  unfold nmAt at h
  unfold setD
  cases q : ρ[i]? with
  | none => rw [q] at h; cases h
  | some s =>
    rw [q] at h
    cases s with
    | m xs => cases h
    | u => rfl
    | d x => rfl
    | k ns => rfl
    | s ns => rfl
    | x b P => rfl
/-! ### the cup -/
structure CupOk (a b : Int) : Prop where
  a0 : 0 ≤ a
  a1 : a.natAbs.log2 < 3000000
  b0 : 0 ≤ b
  b1 : b < 4294967296
theorem log2_small {n : Nat} (h : n < 18446744073709551616) : n.log2 < 64 := by
  by_cases h0 : n = 0
  · subst h0; decide
  · exact (Nat.log2_lt h0).mpr h
theorem log2_mono {m n : Nat} (h : m ≤ n) : m.log2 ≤ n.log2 := by
  by_cases h0 : m = 0
  · subst h0; simp
  · have hn : n ≠ 0 := by omega
    exact (Nat.le_log2 hn).mpr (Nat.le_trans (Nat.log2_self_le h0) h)
@[simp] theorem atI0 {α : Type} {x : α} {xs : List α} : atI (x :: xs) 0 = some x := by
  unfold atI ixN
  rw [if_pos (by decide), if_pos (by simp)]
  rfl
theorem roll_ok {a b many : Int} (c : CupOk a b) (h0 : 0 < many) (h1 : many < 18446744073709551616) :
    ∃ r a' b', 0 ≤ r ∧ r < many ∧ CupOk a' b' ∧ m__law_roll [.m [.int a, .int b], .d (.int many)] = .ok (.int r, [.m [.int a', .int b'], .d (.int many)]) := by
  obtain ⟨a0, a1, b0, b1⟩ := c
  have e1 : atI [PyData.int a, .int b] 1 = some (.int b) := rfl
  have e2 : ∀ x y : D, ixN [x, y].length 0 = some 0 := fun _ _ => rfl
  have e3 : ∀ x y : D, ixN [x, y].length 1 = some 1 := fun _ _ => rfl
  by_cases ha : 0 < a
  · refine ⟨a % many, a / many, b, Int.emod_nonneg _ (by omega), Int.emod_lt_of_pos _ h0, ⟨Int.ediv_nonneg a0 (by omega), ?_, b0, b1⟩, ?_⟩
    · have : (a / many).natAbs ≤ a.natAbs := by
        have h2 : a / many ≤ a := Int.ediv_le_self _ a0
        have h3 : 0 ≤ a / many := Int.ediv_nonneg a0 (by omega)
        omega
      exact Nat.lt_of_le_of_lt (log2_mono this) a1
    · simp [m__law_roll, S__law_roll, ha, h0, h1, ixN]
  · have hm : ∀ x y : Int, 0 ≤ x → x < 18446744073709551616 → 0 ≤ y → y < 18446744073709551616 → x.natAbs.log2 + y.natAbs.log2 < 100000000 := fun x y h1 h2 h3 h4 => by
      have g1 := log2_small (n := x.natAbs) (by omega)
      have g2 := log2_small (n := y.natAbs) (by omega)
      omega
    generalize hb' : (b * 31051 + 7993) % 2147483543 = b'
    have hb0 : 0 ≤ b' := by rw [← hb']; exact Int.emod_nonneg _ (by decide)
    have hb1 : b' < 2147483543 := by rw [← hb']; exact Int.emod_lt_of_pos _ (by decide)
    have m1 := hm b 31051 b0 (by omega) (by decide) (by decide)
    have m2 := hm b' (b' + 229) hb0 (by omega) (by omega) (by omega)
    have m1' : b.natAbs.log2 + Nat.log2 31051 < 100000000 := m1
    refine ⟨(b' * (b' + 229) % 2147483587 / 821) % many, a, b', Int.emod_nonneg _ (by omega), Int.emod_lt_of_pos _ h0, ⟨a0, a1, hb0, by omega⟩, ?_⟩
    have e1 : ∀ x y : D, atI [x, y] 1 = some y := fun _ _ => rfl
    have e2 : ixN 2 1 = some 1 := rfl
    simp [m__law_roll, S__law_roll, ha, h0, h1, e1, e2, m1', hb', m2]
theorem cup_key (ns : List Int) (z : Int) (hz : z.natAbs.log2 < 2000000) : ∃ a b, CupOk a b ∧ ∀ rest : List D, ns.map PyData.int ++ [.int 0] = .int z :: rest → rest.length ≤ 1000 → m__law_cup [.s ns] = .ok ([.int a, .int b], [.s ns]) := by
  generalize hc : (if z < 0 then -z else z) = c
  have c0 : 0 ≤ c := by rw [← hc]; split <;> omega
  have c1 : c.natAbs.log2 < 2000000 := by
    have : c.natAbs = z.natAbs := by rw [← hc]; split <;> omega
    rw [this]; exact hz
  have m1 : c.natAbs.log2 + Nat.log2 283 < 100000000 := by
    have : Nat.log2 283 < 64 := log2_small (by decide)
    omega
  refine ⟨if c ≥ 1000000000000000000 then c / 73 else 0, (c * 283 + 3907) % 2077503167 + 167, ⟨?_, ?_, ?_, ?_⟩, fun rest e hr => ?_⟩
  · split
    · exact Int.ediv_nonneg c0 (by decide)
    · exact Int.le_refl _
  · split
    · have h2 : c / 73 ≤ c := Int.ediv_le_self _ c0
      have h3 : 0 ≤ c / 73 := Int.ediv_nonneg c0 (by decide)
      have h4 : (c / 73).natAbs ≤ c.natAbs := by omega
      exact Nat.lt_of_le_of_lt (log2_mono h4) (by omega)
    · decide
  · have := Int.emod_nonneg (c * 283 + 3907) (show (2077503167 : Int) ≠ 0 by decide)
    omega
  · have := Int.emod_lt_of_pos (c * 283 + 3907) (show (0 : Int) < 2077503167 by decide)
    omega
  · have hl : ns.length + 1 ≤ sizeLine := by
      have := congrArg List.length e
      simp at this
      rw [sizeLine_eq]
      omega
    simp [m__law_cup, S__law_cup, e, hl, hc, m1]
    split <;> simp_all
theorem cup_ok (ns : List Int) (hl : ns.length ≤ 63) (h : ∀ z ∈ ns, PySem.Builtin.Int.intBits z ≤ 1048576) : ∃ a b, CupOk a b ∧ m__law_cup [.s ns] = .ok ([.int a, .int b], [.s ns]) := by
  cases ns with
  | nil =>
    obtain ⟨a, b, h1, h2⟩ := cup_key [] 0 (by decide)
    exact ⟨a, b, h1, h2 [] rfl (by decide)⟩
  | cons z zs =>
    have hz := h z (List.mem_cons_self ..)
    have hz' : z.natAbs.log2 < 2000000 := by
      unfold PySem.Builtin.Int.intBits at hz
      split at hz
      · next q => simp at q; subst q; decide
      · omega
    obtain ⟨a, b, h1, h2⟩ := cup_key (z :: zs) z hz'
    refine ⟨a, b, h1, h2 (zs.map PyData.int ++ [.int 0]) rfl ?_⟩
    simp at hl ⊢
    omega
/-! ### loops -/
/-- one round of a comprehension -/
@[simp] def lcStep (g : GF) (t : TF) (f : EF) (vs : List Nat) (x : D) (ρ : List Sl) : R (Option D × List Sl) :=
  li (g x ρ) >>= fun ρ1 => t ρ1 >>= fun b => if b.1 = true then f b.2 >>= fun y => .ok (some y.1, wipeS vs y.2) else .ok (none, wipeS vs b.2)
@[simp] def oCons (o : Option D) (r : List D) : List D := match o with
  | some y => y :: r
  | none => r
theorem lcL_step {g : GF} {t : TF} {f : EF} {vs : List Nat} {x : D} {xs : List D} {ρ ρ' : List Sl} {o : Option D} (h : lcStep g t f vs x ρ = .ok (o, ρ')) :
    lcL g t f vs (x :: xs) ρ = (lcL g t f vs xs ρ' >>= fun r => .ok (oCons o r.1, r.2)) := by
  unfold lcStep at h
  show (li (g x ρ) >>= fun ρ1 => t ρ1 >>= fun b => if b.1 = true then f b.2 >>= fun y => lcL g t f vs xs (wipeS vs y.2) >>= fun r => .ok (y.1 :: r.1, r.2) else lcL g t f vs xs (wipeS vs b.2)) = _
  cases q1 : g x ρ with
  | none => rw [q1] at h; simp at h
  | some ρ1 =>
    rw [q1] at h
    simp only [li, bind_ok] at h ⊢
    cases q2 : t ρ1 with
    | ex c => rw [q2] at h; simp at h
    | bad => rw [q2] at h; simp at h
    | ok b =>
      rw [q2] at h
      simp only [bind_ok] at h ⊢
      split at h
      · next hb =>
        rw [if_pos hb]
        cases q3 : f b.2 with
        | ex c => rw [q3] at h; simp at h
        | bad => rw [q3] at h; simp at h
        | ok y =>
          rw [q3] at h
          simp at h
          obtain ⟨rfl, rfl⟩ := h
          rfl
      · next hb =>
        rw [if_neg hb]
        simp at h
        obtain ⟨rfl, rfl⟩ := h
        cases lcL g t f vs xs (wipeS vs b.2) <;> rfl
theorem lc_fm {g : GF} {t : TF} {f : EF} {vs : List Nat} {ρ : List Sl} (F : D → Option D) : ∀ {xs : List D}, (∀ x ∈ xs, lcStep g t f vs x ρ = .ok (F x, ρ)) → lcL g t f vs xs ρ = .ok (xs.filterMap F, ρ)
  | [], _ => rfl
  | x :: xs, h => by
    rw [lcL_step (h x (List.mem_cons_self ..)), lc_fm F (fun y hy => h y (List.mem_cons_of_mem _ hy))]
    cases q : F x <;> simp [q]
/-- with a state that stays good -/
theorem lc_inv {g : GF} {t : TF} {f : EF} {vs : List Nat} (I : List Sl → Prop) (P : D → Option D → Prop) : ∀ {xs : List D} {ρ : List Sl}, (∀ x ∈ xs, ∀ ρ, I ρ → ∃ o ρ', lcStep g t f vs x ρ = .ok (o, ρ') ∧ I ρ' ∧ P x o) → I ρ →
    ∃ os ρ', os.length = xs.length ∧ lcL g t f vs xs ρ = .ok (os.filterMap id, ρ') ∧ I ρ' ∧ ∀ p ∈ xs.zip os, P p.1 p.2
  | [], ρ, _, i => ⟨[], ρ, rfl, rfl, i, fun _ h => nomatch h⟩
  | x :: xs, ρ, h, i => by
    obtain ⟨o, ρ', e, i', p⟩ := h x (List.mem_cons_self ..) ρ i
    obtain ⟨os, ρ2, l2, e2, i2, p2⟩ := lc_inv I P (fun y hy => h y (List.mem_cons_of_mem _ hy)) i'
    refine ⟨o :: os, ρ2, by simp [l2], ?_, i2, fun q hq => ?_⟩
    · rw [lcL_step e, e2]
      cases o <;> simp
    · rcases List.mem_cons.mp hq with rfl | hq
      · exact p
      · exact p2 q hq
theorem forL_inv {g : GF} {body : SF} (I : List Sl → Prop) : ∀ {xs : List D} {ρ : List Sl}, (∀ x ∈ xs, ∀ ρ, I ρ → ∃ ρ1 ρ2, g x ρ = some ρ1 ∧ (body ρ1 = .ok (.nx ρ2) ∨ body ρ1 = .ok (.ct ρ2)) ∧ I ρ2) → I ρ →
    ∃ ρ', forL g body xs ρ = .ok (.nx ρ') ∧ I ρ'
  | [], ρ, _, i => ⟨ρ, rfl, i⟩
  | x :: xs, ρ, h, i => by
    obtain ⟨ρ1, ρ2, e1, e2, i2⟩ := h x (List.mem_cons_self ..) ρ i
    obtain ⟨ρ', e, i'⟩ := forL_inv I (fun y hy => h y (List.mem_cons_of_mem _ hy)) i2
    refine ⟨ρ', ?_, i'⟩
    show (li (g x ρ) >>= fun ρ1 => body ρ1 >>= fun r => _) = _
    rw [e1]
    simp only [li, bind_ok]
    rcases e2 with e2 | e2 <;> rw [e2] <;> exact e
/-! ### draws -/
theorem atI_mem {α : Type} {xs : List α} {i : Int} (h0 : 0 ≤ i) (h1 : i < xs.length) : ∃ x, atI xs i = some x ∧ x ∈ xs := by
  unfold atI ixN
  have h2 : i.toNat < xs.length := by omega
  rw [if_pos h0, if_pos h1]
  exact ⟨xs[i.toNat], by simp [h2], List.getElem_mem h2⟩
theorem some_str {a b : Int} (c : CupOk a b) {x : Str} (h0 : 0 < x.length) (h1 : x.length < 18446744073709551616) : ∃ k a' b', k ∈ x.cps.toList ∧ CupOk a' b' ∧ m__law_some [.m [.int a, .int b], .d (.str x)] = .ok (.str ⟨#[k]⟩, [.m [.int a', .int b'], .d (.str x)]) := by
  obtain ⟨r, a', b', h2, h3, c', e⟩ := roll_ok c (many := (x.length : Int)) (by omega) (by omega)
  obtain ⟨k, q, hk⟩ := atI_mem (xs := x.cps.toList) h2 (show r < (x.length : Int) from h3)
  refine ⟨k, a', b', hk, c', ?_⟩
  simp [m__law_some, S__law_some, e, q]
theorem some_list {a b : Int} (c : CupOk a b) {xs : List D} (h0 : 0 < xs.length) (h1 : xs.length < 18446744073709551616) : ∃ d a' b', d ∈ xs ∧ CupOk a' b' ∧ m__law_some [.m [.int a, .int b], .d (.list xs)] = .ok (d, [.m [.int a', .int b'], .d (.list xs)]) := by
  obtain ⟨r, a', b', h2, h3, c', e⟩ := roll_ok c (many := (xs.length : Int)) (by omega) (by omega)
  obtain ⟨k, q, hk⟩ := atI_mem (xs := xs) h2 (by simpa using h3)
  refine ⟨k, a', b', hk, c', ?_⟩
  simp [m__law_some, S__law_some, e, q]
theorem some_tuple {a b : Int} (c : CupOk a b) {xs : List D} (h0 : 0 < xs.length) (h1 : xs.length < 18446744073709551616) : ∃ d a' b', d ∈ xs ∧ CupOk a' b' ∧ m__law_some [.m [.int a, .int b], .d (.tuple xs)] = .ok (d, [.m [.int a', .int b'], .d (.tuple xs)]) := by
  obtain ⟨r, a', b', h2, h3, c', e⟩ := roll_ok c (many := (xs.length : Int)) (by omega) (by omega)
  obtain ⟨k, q, hk⟩ := atI_mem (xs := xs) h2 (by simpa using h3)
  refine ⟨k, a', b', hk, c', ?_⟩
  simp [m__law_some, S__law_some, e, q]
/-! ### likeness -/
def sortD : D → Int
  | .none => 0
  | .bool _ => 1
  | .int _ => 2
  | .str _ => 3
  | .tuple _ => 4
  | .list _ => 5
  | .dict _ => 6
theorem sort_ok (d : D) : m__law_sort [.d d] = .ok (.int (sortD d), [.d d]) := by
  cases d <;> simp [m__law_sort, S__law_sort, sortD]
mutual
def lk : D → D → Bool
  | .none, .none => true
  | .bool a, .bool b => a == b
  | .int a, .int b => a == b
  | .str a, .str b => a == b
  | .tuple a, .tuple b => lkL a b
  | .list a, .list b => lkL a b
  | _, _ => false
def lkL : List D → List D → Bool
  | [], [] => true
  | a :: as, b :: bs => lk a b && lkL as bs
  | _, _ => false
end
theorem depthAll_mem {x : D} : ∀ {xs : List D}, x ∈ xs → x.depth ≤ PyData.depthAll xs
  | y :: ys, h => by
    rw [PyData.depthAll]
    rcases List.mem_cons.mp h with rfl | h
    · exact Nat.le_max_left ..
    · exact Nat.le_trans (depthAll_mem h) (Nat.le_max_right ..)
theorem zipWith_snd {xs ys : List D} {p : D} (h : p ∈ List.zipWith (fun a b => (.tuple [a, b] : D)) xs ys) : ∃ a b, b ∈ ys ∧ p = .tuple [a, b] := by
  obtain ⟨i, hi⟩ := List.mem_iff_getElem?.mp h
  obtain ⟨a, b, h1, h2, h3⟩ := zip_get hi
  exact ⟨a, b, List.mem_of_getElem? h2, h3⟩
@[simp] def unlike : D → Option D
  | .tuple [a, b] => if lk a b = true then none else some (.int 1)
  | _ => none
theorem unlike_none : ∀ xs ys : List D, xs.length = ys.length → ((List.zipWith (fun a b => (.tuple [a, b] : D)) xs ys).filterMap unlike = [] ↔ lkL xs ys = true)
  | [], [], _ => by simp [lkL]
  | x :: xs, y :: ys, h => by
    have ih := unlike_none xs ys (by simpa using h)
    simp only [List.zipWith_cons_cons, List.filterMap_cons, unlike, lkL]
    cases q : lk x y
    · simp
    · simpa using ih
  | [], _ :: _, h => by simp at h
  | _ :: _, [], h => by simp at h
theorem lkL_len : ∀ {xs ys : List D}, lkL xs ys = true → xs.length = ys.length
  | [], [], _ => rfl
  | x :: xs, y :: ys, h => by
    rw [lkL, Bool.and_eq_true] at h
    simp [lkL_len h.2]
  | [], _ :: _, h => by simp [lkL] at h
  | _ :: _, [], h => by simp [lkL] at h
@[simp] theorem eqv_int (i j : Int) : PyData.eqv (.int i) (.int j) = (i == j) := by rw [PyData.eqv]
@[simp] theorem eqv_str (i j : Str) : PyData.eqv (.str i) (.str j) = (i == j) := by rw [PyData.eqv]
@[simp] theorem eqv_bool (i j : Bool) : PyData.eqv (.bool i) (.bool j) = (i == j) := by rw [PyData.eqv]
@[simp] theorem eqv_none : PyData.eqv .none .none = true := by rw [PyData.eqv]
@[simp] theorem eqv_list (xs ys : List D) : PyData.eqv (.list xs) (.list ys) = PyData.eqvAll xs ys := by rw [PyData.eqv]
@[simp] theorem eqv_tuple (xs ys : List D) : PyData.eqv (.tuple xs) (.tuple ys) = PyData.eqvAll xs ys := by rw [PyData.eqv]
@[simp] theorem dep_int (i : Int) : PyData.depth (.int i) = 0 := by rw [PyData.depth]
@[simp] theorem dep_str (i : Str) : PyData.depth (.str i) = 0 := by rw [PyData.depth]
@[simp] theorem dep_bool (i : Bool) : PyData.depth (.bool i) = 0 := by rw [PyData.depth]
@[simp] theorem dep_none : PyData.depth .none = 0 := by rw [PyData.depth]
@[simp] theorem dep_list (xs : List D) : PyData.depth (.list xs) = PyData.depthAll xs + 1 := by rw [PyData.depth]
@[simp] theorem dep_tuple (xs : List D) : PyData.depth (.tuple xs) = PyData.depthAll xs + 1 := by rw [PyData.depth]
@[simp] theorem depAll_nil : PyData.depthAll [] = 0 := by rw [PyData.depthAll]
@[simp] theorem depAll_cons (x : D) (xs : List D) : PyData.depthAll (x :: xs) = max x.depth (PyData.depthAll xs) := by rw [PyData.depthAll]
theorem like_step {self : Fn} {x y : D} {vs : List D} (hs : ∀ a b, b ∈ vs → self [.d a, .d b] = .ok (.bool (lk a b), [.d a, .d b])) {ρ : List Sl} (hρ : ρ = [.d x, .d y, .d (.int (sortD y)), .u, .u]) {us : List D} :
    lcL (gTupD 2 (gsCons (setD 3) (gsCons (setD 4) (gsNil)))) (tNo (tOf (eUser 2 (self) (cD (eVar 3) (cD (eVar 4) (cNil)))))) (eC (.int 1)) [3, 4] (List.zipWith (fun a b => (.tuple [a, b] : D)) us vs) ρ = .ok ((List.zipWith (fun a b => (.tuple [a, b] : D)) us vs).filterMap unlike, ρ) := by
  subst hρ
  refine lc_fm unlike fun p hp => ?_
  obtain ⟨a, b, hb, rfl⟩ := zipWith_snd hp
  simp [hs a b hb]
  cases lk a b <;> simp
theorem eqv_ones {xs : List D} : PyData.eqvAll xs [] = decide (xs = []) := by
  cases xs <;> simp [PyData.eqvAll]
theorem unlike_flat {zs : List D} : ∀ {d : D}, d ∈ zs.filterMap unlike → d = .int 1 := by
  intro d h
  obtain ⟨p, _, e⟩ := List.mem_filterMap.mp h
  unfold unlike at e
  split at e
  · split at e
    · cases e
    · cases e; rfl
  · cases e
theorem depthAll_le {k : Nat} : ∀ {xs : List D}, (∀ x ∈ xs, x.depth ≤ k) → PyData.depthAll xs ≤ k
  | [], _ => by simp [PyData.depthAll]
  | x :: xs, h => by
    rw [PyData.depthAll]
    exact Nat.max_le.mpr ⟨h x (List.mem_cons_self ..), depthAll_le fun y hy => h y (List.mem_cons_of_mem _ hy)⟩
theorem ones_depth (zs : List D) : PyData.depthAll (zs.filterMap unlike) ≤ 63 := depthAll_le fun d h => by
  rw [unlike_flat h]; simp [PyData.depth]
mutual
@[simp] def fit : D → Bool
  | .tuple a => decide (a.length ≤ 1000000) && fitL a
  | .list a => decide (a.length ≤ 1000000) && fitL a
  | _ => true
@[simp] def fitL : List D → Bool
  | [] => true
  | a :: as => fit a && fitL as
end
theorem fitL_mem {x : D} : ∀ {xs : List D}, fitL xs = true → x ∈ xs → fit x = true
  | y :: ys, h, hm => by
    rw [fitL, Bool.and_eq_true] at h
    rcases List.mem_cons.mp hm with rfl | hm
    · exact h.1
    · exact fitL_mem h.2 hm
theorem i0 : inL (.int 0) [.int 4, .int 5] = false := by simp [inL]
theorem i1 : inL (.int 1) [.int 4, .int 5] = false := by simp [inL]
theorem i2 : inL (.int 2) [.int 4, .int 5] = false := by simp [inL]
theorem i3 : inL (.int 3) [.int 4, .int 5] = false := by simp [inL]
theorem i4 : inL (.int 4) [.int 4, .int 5] = true := by simp [inL]
theorem i5 : inL (.int 5) [.int 4, .int 5] = true := by simp [inL]
theorem like_seq {self : Fn} {us vs : List D} (hs : ∀ a b, b ∈ vs → self [.d a, .d b] = .ok (.bool (lk a b), [.d a, .d b])) (hl : vs.length ≤ 1000000) :
    mkFn 5 (S__law_like self) [.d (.list us), .d (.list vs)] = .ok (.bool (lkL us vs), [.d (.list us), .d (.list vs)])
    ∧ mkFn 5 (S__law_like self) [.d (.tuple us), .d (.tuple vs)] = .ok (.bool (lkL us vs), [.d (.tuple us), .d (.tuple vs)]) := by
  have e1 := like_step (x := .list us) (y := .list vs) hs rfl (us := us)
  have e2 := like_step (x := .tuple us) (y := .tuple vs) hs rfl (us := us)
  simp only [sortD] at e1 e2
  have h0 : (min us.length vs.length) ≤ 1000000 := Nat.le_trans (Nat.min_le_right ..) hl
  have h1 := ones_depth (List.zipWith (fun a b => (.tuple [a, b] : D)) us vs)
  by_cases hlen : us.length = vs.length
  · have h2 := unlike_none us vs hlen
    constructor <;> (simp [S__law_like, sort_ok, sortD, i4, i5, hlen, e1, e2, h0, h1, hl, eqv_ones]; cases q : lkL us vs <;> simp [q] at h2 ⊢ <;> simpa using h2)
  · have h3 : lkL us vs = false := by
      cases q : lkL us vs
      · rfl
      · exact absurd (lkL_len q) hlen
    have h4 : ((us.length : Int) == (vs.length : Int)) = false := by
      rw [beq_eq_false_iff_ne]
      omega
    constructor <;> simp [S__law_like, sort_ok, sortD, i4, i5, hlen, h3, h4]
theorem like_ok : ∀ (n : Nat) (x y : D), y.depth < n → fit y = true → m__law_like n [.d x, .d y] = .ok (.bool (lk x y), [.d x, .d y])
  | 0, x, y, hd, _ => by omega
  | n + 1, x, y, hd, hf => by
    show mkFn 5 (S__law_like (m__law_like n)) _ = _
    cases y with
    | list vs =>
      rw [PyData.depth] at hd
      simp only [fit, Bool.and_eq_true, decide_eq_true_eq] at hf
      have hs := fun us => like_seq (self := m__law_like n) (us := us) (vs := vs) (fun a b hb => like_ok n a b (by have := depthAll_mem hb; omega) (fitL_mem hf.2 hb)) hf.1
      cases x with
      | list us => exact (hs us).1
      | _ => simp [S__law_like, sort_ok, sortD, i4, i5, lk]
    | tuple vs =>
      rw [PyData.depth] at hd
      simp only [fit, Bool.and_eq_true, decide_eq_true_eq] at hf
      have hs := fun us => like_seq (self := m__law_like n) (us := us) (vs := vs) (fun a b hb => like_ok n a b (by have := depthAll_mem hb; omega) (fitL_mem hf.2 hb)) hf.1
      cases x with
      | tuple us => exact (hs us).2
      | _ => simp [S__law_like, sort_ok, sortD, i4, i5, lk]
    | _ => cases x <;> simp [S__law_like, sort_ok, sortD, i0, i1, i2, i3, lk]
/-! ### runs that end well -/
abbrev Rn {α : Type} (r : R α) (Q : α → Prop) : Prop := ∃ a, r = .ok a ∧ Q a
theorem rn_fin {α : Type} {r : R α} {a : α} {Q : α → Prop} (h : r = .ok a) (q : Q a) : Rn r Q := ⟨a, h, q⟩
theorem rn_nx {f g : SF} {ρ ρ' : List Sl} {Q : Fl → Prop} (h : f ρ = .ok (.nx ρ')) (k : Rn (g ρ') Q) : Rn (sSeq f g ρ) Q := by
  obtain ⟨a, e, q⟩ := k
  exact ⟨a, by simp [h, e], q⟩
theorem rn_seq {f g : SF} {ρ : List Sl} {Q : Fl → Prop} (h : Rn (f ρ) fun r => ∃ ρ', r = .nx ρ' ∧ Rn (g ρ') Q) : Rn (sSeq f g ρ) Q := by
  obtain ⟨_, e, ρ', rfl, k⟩ := h
  exact rn_nx e k
theorem forL_rn {g : GF} {body : SF} (I : Nat → List Sl → Prop) : ∀ {xs : List D} {ρ : List Sl} {n : Nat}, (∀ k x ρ, xs[k]? = some x → I (n + k) ρ → ∃ ρ1, g x ρ = some ρ1 ∧ Rn (body ρ1) fun r => ∃ ρ2, (r = .nx ρ2 ∨ r = .ct ρ2) ∧ I (n + k + 1) ρ2) → I n ρ →
    ∃ ρ', forL g body xs ρ = .ok (.nx ρ') ∧ I (n + xs.length) ρ'
  | [], ρ, _, _, i => ⟨ρ, rfl, i⟩
  | x :: xs, ρ, n, h, i => by
    obtain ⟨ρ1, e1, r, e2, ρ2, hr, i2⟩ := h 0 x ρ rfl i
    obtain ⟨ρ', e, i'⟩ := forL_rn I (xs := xs) (ρ := ρ2) (n := n + 1) (fun k y ρ hk hi => by
      have := h (k + 1) y ρ hk (by rw [show n + (k + 1) = n + 1 + k by omega]; exact hi)
      rw [show n + (k + 1) = n + 1 + k by omega] at this
      exact this) i2
    refine ⟨ρ', ?_, by rw [List.length_cons, show n + (xs.length + 1) = n + 1 + xs.length by omega]; exact i'⟩
    show (li (g x ρ) >>= fun ρ1 => body ρ1 >>= fun r => _) = _
    rw [e1]
    simp only [li, bind_ok]
    rcases hr with rfl | rfl <;> rw [e2] <;> exact e
theorem rn_for {F : AF} {g : GF} {body rest : SF} {ρ ρ1 : List Sl} {xs : List D} {Q : Fl → Prop} (I : Nat → List Sl → Prop) (h : F ρ = .ok (xs, ρ1)) (i0 : I 0 ρ1)
    (hb : ∀ k x ρ, xs[k]? = some x → I k ρ → ∃ ρ2, g x ρ = some ρ2 ∧ Rn (body ρ2) fun r => ∃ ρ3, (r = .nx ρ3 ∨ r = .ct ρ3) ∧ I (k + 1) ρ3) (k : ∀ ρ', I xs.length ρ' → Rn (rest ρ') Q) : Rn (sSeq (sFor F g body) rest ρ) Q := by
  obtain ⟨ρ', e, i⟩ := forL_rn I (n := 0) (fun k x ρ hk hi => by rw [Nat.zero_add] at hi ⊢; exact hb k x ρ hk hi) i0
  rw [Nat.zero_add] at i
  exact rn_nx (by simp [h, e]) (k ρ' i)
theorem rn_for1 {F : AF} {g : GF} {body : SF} {ρ ρ1 : List Sl} {xs : List D} {Q : Fl → Prop} (I : Nat → List Sl → Prop) (h : F ρ = .ok (xs, ρ1)) (i0 : I 0 ρ1)
    (hb : ∀ k x ρ, xs[k]? = some x → I k ρ → ∃ ρ2, g x ρ = some ρ2 ∧ Rn (body ρ2) fun r => ∃ ρ3, (r = .nx ρ3 ∨ r = .ct ρ3) ∧ I (k + 1) ρ3) (k : ∀ ρ', I xs.length ρ' → Q (.nx ρ')) : Rn (sFor F g body ρ) Q := by
  obtain ⟨ρ', e, i⟩ := forL_rn I (n := 0) (fun k x ρ hk hi => by rw [Nat.zero_add] at hi ⊢; exact hb k x ρ hk hi) i0
  rw [Nat.zero_add] at i
  exact rn_fin (by simp [h, e]) (k ρ' i)
theorem law_main {nN : Nat} {S : SF} {ns : List Int} (h : Rn (S (.s ns :: List.replicate (nN - 1) .u)) fun r => ∃ ρ, r = .rt (.bool true) ρ ∧ 1 ≤ ρ.length) : ∃ ρ, mkFn nN S [.s ns] = .ok (.bool true, ρ) := by
  obtain ⟨_, e, ρ, rfl, hl⟩ := h
  refine ⟨keepM [.s ns] ρ, ?_⟩
  simp only [mkFn, List.singleton_append, List.length_singleton, e, bind_ok, if_pos hl]
/-! ### texts -/
@[simp] theorem len1 (k : Nat) : Str.length ⟨#[k]⟩ = 1 := rfl
theorem cutS_len (x : Str) (lo hi : Option Int) : (cutS x lo hi).length ≤ x.length := by
  show (cutS x lo hi).cps.size ≤ x.cps.size
  unfold cutS
  simp only [List.size_toArray, List.length_take, List.length_drop, Array.length_toList]
  omega
end Pd
end

section
/-! Pd: what is_name computes. -/
namespace Pd
open PySem L2
def S_is_name : SF :=
  sSeq (sIf (tOr' (tNo (tOf (eIsi "str" (eVar 0)))) (tOr' (tNo (tBo (eCh leD leD (eC (.int 1)) (eCall lenD (aCons (eVar 0) (aNil))) (eC (.int 12))))) (tBo (eOp ninD (eOp ixD (eVar 0) (eC (.int 0))) (eC (.str "abcdefghijklmnopqrstuvwxyz")))))) (sRet (eC (.bool false))) (sNx)) (sRet (eCall allD (aCons (eLc (iAny (eVar 0)) (setD 1) (tYs) (eOp inD (eVar 1) (eOp addD (eC (.str "abcdefghijklmnopqrstuvwxyz")) (eC (.str "0123456789")))) [1]) (aNil))))
def m_is_name : Fn := mkFn 2 S_is_name
abbrev Ls : Str := "abcdefghijklmnopqrstuvwxyz"
abbrev Ds : Str := "0123456789"
theorem lL : Str.length Ls = 26 := by decide +kernel
theorem lD : Str.length Ds = 10 := by decide +kernel
/-- what a name is -/
def nmB : D → Bool
  | .str x => decide ((1 : Int) ≤ (x.length : Int)) && decide ((x.length : Int) ≤ 12) && (match atI x.cps.toList 0 with
    | some c => inS ⟨#[c]⟩ Ls
    | none => false) && x.cps.toList.all fun c => inS ⟨#[c]⟩ (Ls ++ Ds)
  | _ => false
theorem blsOf_map (p : Nat → Bool) : ∀ l : List Nat, blsOf (l.map fun c => .bool (p c)) = some (l.map p)
  | [] => rfl
  | c :: l => by simp [blsOf_map p l]
theorem is_name_ok (d : D) : m_is_name [.d d] = .ok (.bool (nmB d), [.d d]) := by
  cases d with
  | str x =>
    have hs : ∀ (xs : List D) , (∀ y ∈ xs, ∃ c, y = .str ⟨#[c]⟩) → lcL (setD 1) tYs (eOp inD (eVar 1) (eOp addD (eC (.str Ls)) (eC (.str Ds)))) [1] xs [.d (.str x), .u] = .ok (xs.filterMap (fun y => match y with
      | .str c => some (.bool (inS c (Ls ++ Ds)))
      | _ => none), [.d (.str x), .u]) := fun xs h => lc_fm _ fun y hy => by
        obtain ⟨c, rfl⟩ := h y hy
        simp [lL, lD, sizeLine_eq]
    have h2 := hs (signsD x) (fun y hy => by
      unfold signsD at hy
      obtain ⟨c, _, e⟩ := List.mem_map.mp hy
      exact ⟨c, e.symm⟩)
    have h3 : (signsD x).filterMap (fun y => match y with
      | .str c => some (PyData.bool (inS c (Ls ++ Ds)))
      | _ => none) = x.cps.toList.map fun c => .bool (inS ⟨#[c]⟩ (Ls ++ Ds)) := by
      unfold signsD
      rw [List.filterMap_map]
      rw [← List.filterMap_eq_map]
      rfl
    rw [h3] at h2
    have h4 : (signsD x).length = x.length := by simp [signsD]; rfl
    by_cases c1 : (1 : Int) ≤ (x.length : Int)
    · by_cases c2 : (x.length : Int) ≤ 12
      · have c3 : x.length ≤ 1000000 := by omega
        have ⟨c, q, _⟩ := atI_mem (xs := x.cps.toList) (i := 0) (by decide) (by have : x.length = x.cps.toList.length := rfl; omega)
        cases q2 : inS ⟨#[c]⟩ Ls <;> simp [m_is_name, S_is_name, nmB, c1, c2, c3, q, q2, h2, h4, blsOf_map]
      · simp [m_is_name, S_is_name, nmB, c1, c2]
    · simp [m_is_name, S_is_name, nmB, c1]
  | _ => simp [m_is_name, S_is_name, nmB]
end Pd
end

section
/-! Pd: laws of random names: the first steps of _law_name. -/
namespace Pd
open PySem L2
theorem addS {x y : Str} (h : x.length + y.length ≤ 16777216) : addD (.str x) (.str y) = some (.str (x ++ y)) := by
  show (if _ then _ else _) = _
  rw [if_pos (by rw [sizeLine_eq]; exact h)]
theorem nm_cps {x : Str} : nmB (.str x) = true ↔ 1 ≤ x.length ∧ x.length ≤ 12 ∧ (∃ c, atI x.cps.toList 0 = some c ∧ inS ⟨#[c]⟩ Ls = true) ∧ ∀ c ∈ x.cps.toList, inS ⟨#[c]⟩ (Ls ++ Ds) = true := by
  unfold nmB
  cases q : atI x.cps.toList 0 with
  | none => simp [q]
  | some c =>
    simp only [q, Bool.and_eq_true, decide_eq_true_iff, List.all_eq_true, Option.some.injEq, exists_eq_left']
    constructor
    · rintro ⟨⟨⟨h1, h2⟩, h3⟩, h4⟩
      exact ⟨by omega, by omega, h3, h4⟩
    · rintro ⟨h1, h2, h3, h4⟩
      exact ⟨⟨⟨by omega, by omega⟩, h3⟩, h4⟩
/-- a letter, then signs: a name -/
theorem nm_snoc {x : Str} {c : Nat} (h : nmB (.str x) = true) (hl : x.length < 12) (hc : inS ⟨#[c]⟩ (Ls ++ Ds) = true) : nmB (.str (x ++ ⟨#[c]⟩)) = true := by
  obtain ⟨h1, h2, ⟨k, h3, h4⟩, h5⟩ := nm_cps.mp h
  have e : (x ++ ⟨#[c]⟩ : Str).cps.toList = x.cps.toList ++ [c] := by
    show (x.cps ++ #[c]).toList = _
    simp
  refine nm_cps.mpr ⟨by rw [str_len_append]; omega, by rw [str_len_append, len1]; omega, ⟨k, ?_, h4⟩, fun d hd => ?_⟩
  · rw [e]
    have hx : 0 < x.cps.toList.length := h1
    unfold atI ixN at h3 ⊢
    rw [if_pos (by decide), if_pos (by omega)] at h3
    rw [if_pos (by decide), if_pos (by first | (simp; done) | (simp; omega))]
    simp only [Option.bind_some] at h3 ⊢
    rw [List.getElem?_append_left (by simpa using hx)]
    exact h3
  · rw [e] at hd
    rcases List.mem_append.mp hd with hd | hd
    · exact h5 d hd
    · simp at hd
      subst hd
      exact hc
end Pd
end

section
/-! Pd: rules for runs, in term style, and small facts. -/
namespace Pd
open PySem L2
theorem fn_rt {nN : Nat} {S : SF} {as ρ0 ρ' as' : List Sl} {d : D} (h0 : as ++ List.replicate (nN - as.length) .u = ρ0) (h : S ρ0 = .ok (.rt d ρ')) (hl : as.length ≤ ρ'.length) (hk : keepM as ρ' = as') : mkFn nN S as = .ok (d, as') := by
  subst h0 hk
  simp only [mkFn, h, bind_ok, if_pos hl]
theorem sq {f g : SF} {ρ ρ' : List Sl} {r : Pd.R Fl} (h : f ρ = .ok (.nx ρ')) (e : g ρ' = r) : sSeq f g ρ = r := by
  simp only [sSeq, h, bind_ok, e]
theorem sqr {f g : SF} {ρ ρ' : List Sl} {d : D} (h : f ρ = .ok (.rt d ρ')) : sSeq f g ρ = .ok (.rt d ρ') := by
  simp only [sSeq, h, bind_ok]
theorem rt {f : EF} {ρ ρ' : List Sl} {d : D} (h : f ρ = .ok (d, ρ')) : sRet f ρ = .ok (.rt d ρ') := by
  simp only [sRet, h, bind_ok]
theorem drp {f : EF} {ρ ρ' : List Sl} {d : D} (h : f ρ = .ok (d, ρ')) : sDrop f ρ = .ok (.nx ρ') := by
  simp only [sDrop, h, bind_ok]
theorem asg {f : EF} {g : GF} {ρ ρ' ρ2 : List Sl} {d : D} (h : f ρ = .ok (d, ρ')) (h2 : g d ρ' = some ρ2) : sAsg f g ρ = .ok (.nx ρ2) := by
  simp only [sAsg, h, bind_ok, h2, li]
theorem tupLc {F : AF} {g : GF} {t : TF} {f : EF} {vs : List Nat} {ρ ρ1 ρw ρ2 ρ3 : List Sl} {xs ys : List D} (hF : F ρ = .ok (xs, ρ1)) (hl : xs.length ≤ 1000000) (hn : noM vs ρ1 = true) (hw : wipeS vs ρ1 = ρw)
    (h : lcL g t f vs xs ρw = .ok (ys, ρ2)) (hm : mixS vs ρ1 ρ2 = ρ3) : eCall tupOf (aCons (eLc F g t f vs) aNil) ρ = .ok (.tuple ys, ρ3) := by
  subst hw hm
  simp only [eCall, aCons, eLc, eLc0, aNil, hF, bind_ok, if_pos (And.intro hl hn), h, noEx_ok, tupOf, li]
theorem lstLc {F : AF} {g : GF} {t : TF} {f : EF} {vs : List Nat} {ρ ρ1 ρw ρ2 ρ3 : List Sl} {xs ys : List D} (hF : F ρ = .ok (xs, ρ1)) (hl : xs.length ≤ 1000000) (hn : noM vs ρ1 = true) (hw : wipeS vs ρ1 = ρw)
    (h : lcL g t f vs xs ρw = .ok (ys, ρ2)) (hm : mixS vs ρ1 ρ2 = ρ3) : eLc F g t f vs ρ = .ok (.list ys, ρ3) := by
  subst hw hm
  simp only [eLc, eLc0, hF, bind_ok, if_pos (And.intro hl hn), h, noEx_ok]
theorem iR1_gen {f : EF} {M : Int} {ρ ρ1 : List Sl} {L : List D} (hf : f ρ = .ok (.int M, ρ1)) (hm : smallI M = true) (hr : rgL 0 M = L) : iR1 f ρ = .ok (L, ρ1) := by
  subst hr
  unfold iR1
  rw [hf]
  simp only [bind_ok]
  rw [if_pos hm]
theorem small_nat {m : Nat} (hm : m ≤ 1000000) : smallI (m : Int) = true := by
  unfold smallI
  rw [Bool.and_eq_true, decide_eq_true_iff, decide_eq_true_iff]
  omega
@[simp] theorem rgL0 (m : Nat) : rgL 0 (m : Int) = (List.range m).map fun (k : Nat) => .int (k : Int) := by
  simp [rgL]
theorem iR1_ok {f : EF} {m : Nat} {ρ ρ1 : List Sl} (hf : f ρ = .ok (.int (m : Int), ρ1)) (hm : m ≤ 1000000) : iR1 f ρ = .ok ((List.range m).map (fun (k : Nat) => .int (k : Int)), ρ1) :=
  iR1_gen hf (small_nat hm) (rgL0 m)
theorem us {n : Nat} {F : Fn} {g : CF} {ρ ρ1 ρ2 sls sls' : List Sl} {args : List Ar} {d : D} (hg : g ρ = .ok (args, ρ1)) (hn : args.length = n ∧ (arIx args).Nodup) (hs : arSl ρ1 args = some sls) (hF : F sls = .ok (d, sls')) (hb : back ρ1 args sls' = some ρ2) : eUser n F g ρ = .ok (d, ρ2) := by
  simp only [eUser, hg, bind_ok, if_pos hn, hs, li, hF, hb]
theorem lc1 {g : GF} {f : EF} {vs : List Nat} {x d : D} {ρ ρ1 ρ2 ρ3 : List Sl} (hg : g x ρ = some ρ1) (hf : f ρ1 = .ok (d, ρ2)) (hw : wipeS vs ρ2 = ρ3) : lcStep g tYs f vs x ρ = .ok (some d, ρ3) := by
  subst hw
  simp only [lcStep, hg, li, bind_ok, tYs, if_true, hf]
theorem for_eq {F : AF} {g : GF} {body : SF} {ρ ρ1 ρ' : List Sl} {xs : List D} (h : F ρ = .ok (xs, ρ1)) (e : forL g body xs ρ1 = .ok (.nx ρ')) : sFor F g body ρ = .ok (.nx ρ') := by
  simp only [sFor, h, bind_ok, e]
theorem if_no {t : TF} {f : SF} {ρ ρ' : List Sl} (h : t ρ = .ok (false, ρ')) : sIf t f sNx ρ = .ok (.nx ρ') := by
  simp only [sIf, h, bind_ok, sNx]
  rfl
theorem if_yes {t : TF} {f g : SF} {ρ ρ' : List Sl} {r : Pd.R Fl} (h : t ρ = .ok (true, ρ')) (e : f ρ' = r) : sIf t f g ρ = r := by
  simp only [sIf, h, bind_ok, if_true, e]
theorem lc_map {α : Type} {g : GF} {t : TF} {f : EF} {vs : List Nat} {ρ : List Sl} {h : α → D} (q : α → D) : ∀ {l : List α}, (∀ a ∈ l, lcStep g t f vs (h a) ρ = .ok (some (q a), ρ)) → lcL g t f vs (l.map h) ρ = .ok (l.map q, ρ)
  | [], _ => rfl
  | a :: l, e => by
    rw [List.map_cons, lcL_step (e a (List.mem_cons_self ..)), lc_map q (fun b hb => e b (List.mem_cons_of_mem _ hb))]
    simp
theorem lc_filt {α : Type} {g : GF} {t : TF} {f : EF} {vs : List Nat} {ρ : List Sl} {h : α → D} (p : α → Bool) : ∀ {l : List α}, (∀ a ∈ l, lcStep g t f vs (h a) ρ = .ok (if p a then some (h a) else none, ρ)) → lcL g t f vs (l.map h) ρ = .ok ((l.filter p).map h, ρ)
  | [], _ => rfl
  | a :: l, e => by
    rw [List.map_cons, lcL_step (e a (List.mem_cons_self ..)), lc_filt p (fun b hb => e b (List.mem_cons_of_mem _ hb))]
    cases q : p a <;> simp [q]
theorem blsR {α : Type} (l : List α) : blsOf (l.map fun _ => .bool true) = some (l.map fun _ => true) := by
  induction l with
  | nil => rfl
  | cons a l ih => simp [ih]
theorem blsM {α : Type} (p : α → Bool) (l : List α) : blsOf (l.map fun a => .bool (p a)) = some (l.map p) := by
  induction l with
  | nil => rfl
  | cons a l ih => simp [ih]
theorem intsM {α : Type} (p : α → Int) (l : List α) : intsOf (l.map fun a => .int (p a)) = some (l.map p) := by
  induction l with
  | nil => rfl
  | cons a l ih => simp [ih]
theorem strsM {α : Type} (p : α → Str) (l : List α) : strsOf (l.map fun a => .str (p a)) = some (l.map p) := by
  induction l with
  | nil => rfl
  | cons a l ih => simp [ih]
theorem lc_ex {g : GF} {t : TF} {f : EF} {vs : List Nat} (I : List Sl → Prop) (C : D → Prop) : ∀ {xs : List D} {ρ : List Sl}, (∀ x ∈ xs, ∀ ρ, I ρ → ∃ y ρ', lcStep g t f vs x ρ = .ok (some y, ρ') ∧ I ρ' ∧ C y) → I ρ →
    ∃ ys ρ', ys.length = xs.length ∧ lcL g t f vs xs ρ = .ok (ys, ρ') ∧ I ρ' ∧ ∀ y ∈ ys, C y
  | [], ρ, _, i => ⟨[], ρ, rfl, rfl, i, fun _ h => nomatch h⟩
  | x :: xs, ρ, h, i => by
    obtain ⟨y, ρ', e, i', c⟩ := h x (List.mem_cons_self ..) ρ i
    obtain ⟨ys, ρ2, l2, e2, i2, c2⟩ := lc_ex I C (fun z hz => h z (List.mem_cons_of_mem _ hz)) i'
    refine ⟨y :: ys, ρ2, by simp [l2], by rw [lcL_step e, e2]; simp, i2, fun z hz => ?_⟩
    rcases List.mem_cons.mp hz with rfl | hz
    · exact c
    · exact c2 z hz
theorem acons {f : EF} {g : AF} {ρ ρ1 ρ2 : List Sl} {d : D} {ds : List D} (hf : f ρ = .ok (d, ρ1)) (hg : g ρ1 = .ok (ds, ρ2)) : aCons f g ρ = .ok (d :: ds, ρ2) := by
  simp only [aCons, hf, bind_ok, hg]
theorem etup {f : AF} {ρ ρ1 : List Sl} {ds : List D} (h : f ρ = .ok (ds, ρ1)) (hl : ds.length ≤ 1000) : eTup f ρ = .ok (.tuple ds, ρ1) := by
  simp only [eTup, h, bind_ok, if_pos hl]
/-! ### loops by what is left -/
theorem forL_ri {α : Type} {g : GF} {body : SF} (f : α → D) (I : List α → List Sl → Prop) (J : D → List Sl → Prop)
    (hs : ∀ x xs ρ, I (x :: xs) ρ → ∃ ρ1, g (f x) ρ = some ρ1 ∧ Rn (body ρ1) fun fl => (∃ ρ2, fl = .nx ρ2 ∧ I xs ρ2) ∨ ∃ d ρ2, fl = .rt d ρ2 ∧ J d ρ2) :
    ∀ xs ρ, I xs ρ → (∃ ρ2, forL g body (xs.map f) ρ = .ok (.nx ρ2) ∧ I [] ρ2) ∨ ∃ d ρ2, forL g body (xs.map f) ρ = .ok (.rt d ρ2) ∧ J d ρ2
  | [], ρ, i => .inl ⟨ρ, rfl, i⟩
  | x :: xs, ρ, i => by
    obtain ⟨ρ1, e1, fl, e2, h⟩ := hs x xs ρ i
    have e0 : forL g body ((x :: xs).map f) ρ = (li (g (f x) ρ) >>= fun ρ1 => body ρ1 >>= fun r => match r with
      | .nx ρ' => forL g body (xs.map f) ρ'
      | .ct ρ' => forL g body (xs.map f) ρ'
      | .bk ρ' => .ok (.nx ρ')
      | .rt d ρ' => .ok (.rt d ρ')) := rfl
    rw [e0, e1]
    simp only [li, bind_ok, e2]
    rcases h with ⟨ρ2, rfl, i2⟩ | ⟨d, ρ2, rfl, j⟩
    · exact forL_ri f I J hs xs ρ2 i2
    · exact .inr ⟨d, ρ2, rfl, j⟩
/-- a loop, then the rest; the body may return -/
theorem for_ri {α : Type} {F : AF} {g : GF} {body rest : SF} {ρ ρ1 : List Sl} {xs : List α} {r : Pd.R Fl} (f : α → D) (I : List α → List Sl → Prop) (J : D → List Sl → Prop) (hF : F ρ = .ok (xs.map f, ρ1)) (i0 : I xs ρ1)
    (hs : ∀ x xs ρ, I (x :: xs) ρ → ∃ ρ1, g (f x) ρ = some ρ1 ∧ Rn (body ρ1) fun fl => (∃ ρ2, fl = .nx ρ2 ∧ I xs ρ2) ∨ ∃ d ρ2, fl = .rt d ρ2 ∧ J d ρ2)
    (k : ∀ ρ2, I [] ρ2 → rest ρ2 = r) (kr : ∀ d ρ2, J d ρ2 → .ok (.rt d ρ2) = r) : sSeq (sFor F g body) rest ρ = r := by
  rcases forL_ri f I J hs xs ρ1 i0 with ⟨ρ2, e, i⟩ | ⟨d, ρ2, e, j⟩
  · exact sq (by simp only [sFor, hF, bind_ok, e]) (k ρ2 i)
  · rw [← kr d ρ2 j]
    exact sqr (by simp only [sFor, hF, bind_ok, e])
/-- the same, with draws -/
theorem for_rn {α : Type} {F : AF} {g : GF} {body rest : SF} {ρ ρ1 : List Sl} {xs : List α} {Q : Fl → Prop} (f : α → D) (I : List α → List Sl → Prop) (J : D → List Sl → Prop) (hF : F ρ = .ok (xs.map f, ρ1)) (i0 : I xs ρ1)
    (hs : ∀ x xs ρ, I (x :: xs) ρ → ∃ ρ1, g (f x) ρ = some ρ1 ∧ Rn (body ρ1) fun fl => (∃ ρ2, fl = .nx ρ2 ∧ I xs ρ2) ∨ ∃ d ρ2, fl = .rt d ρ2 ∧ J d ρ2)
    (k : ∀ ρ2, I [] ρ2 → Rn (rest ρ2) Q) (kr : ∀ d ρ2, J d ρ2 → Q (.rt d ρ2)) : Rn (sSeq (sFor F g body) rest ρ) Q := by
  rcases forL_ri f I J hs xs ρ1 i0 with ⟨ρ2, e, i⟩ | ⟨d, ρ2, e, j⟩
  · exact rn_nx (by simp only [sFor, hF, bind_ok, e]) (k ρ2 i)
  · exact ⟨_, sqr (by simp only [sFor, hF, bind_ok, e]), kr d ρ2 j⟩
/-- a loop that is the last statement -/
theorem for_rn1 {α : Type} {F : AF} {g : GF} {body : SF} {ρ ρ1 : List Sl} {xs : List α} {Q : Fl → Prop} (f : α → D) (I : List α → List Sl → Prop) (J : D → List Sl → Prop) (hF : F ρ = .ok (xs.map f, ρ1)) (i0 : I xs ρ1)
    (hs : ∀ x xs ρ, I (x :: xs) ρ → ∃ ρ1, g (f x) ρ = some ρ1 ∧ Rn (body ρ1) fun fl => (∃ ρ2, fl = .nx ρ2 ∧ I xs ρ2) ∨ ∃ d ρ2, fl = .rt d ρ2 ∧ J d ρ2)
    (k : ∀ ρ2, I [] ρ2 → Q (.nx ρ2)) (kr : ∀ d ρ2, J d ρ2 → Q (.rt d ρ2)) : Rn (sFor F g body ρ) Q := by
  rcases forL_ri f I J hs xs ρ1 i0 with ⟨ρ2, e, i⟩ | ⟨d, ρ2, e, j⟩
  · exact ⟨_, by simp only [sFor, hF, bind_ok, e], k ρ2 i⟩
  · exact ⟨_, by simp only [sFor, hF, bind_ok, e], kr d ρ2 j⟩
/-- never returns -/
abbrev NoJ : D → List Sl → Prop := fun _ _ => False
/-- one round that goes on -/
theorem go {body : SF} {ρ1 ρ2 : List Sl} {I : List Sl → Prop} {J : D → List Sl → Prop} (h : body ρ1 = .ok (.nx ρ2)) (i : I ρ2) : Rn (body ρ1) fun fl => (∃ ρ2, fl = .nx ρ2 ∧ I ρ2) ∨ ∃ d ρ2, fl = .rt d ρ2 ∧ J d ρ2 := ⟨_, h, .inl ⟨ρ2, rfl, i⟩⟩
theorem out {body : SF} {ρ1 ρ2 : List Sl} {d : D} {I : List Sl → Prop} {J : D → List Sl → Prop} (h : body ρ1 = .ok (.rt d ρ2)) (j : J d ρ2) : Rn (body ρ1) fun fl => (∃ ρ2, fl = .nx ρ2 ∧ I ρ2) ∨ ∃ d ρ2, fl = .rt d ρ2 ∧ J d ρ2 := ⟨_, h, .inr ⟨d, ρ2, rfl, j⟩⟩
/-- a def's answer from the run of its body -/
theorem fn_end {nN : Nat} {S : SF} {as ρ0 as' : List Sl} {d : D} {P : List Sl → Prop} (h0 : as ++ List.replicate (nN - as.length) .u = ρ0) (h : Rn (S ρ0) fun fl => ∃ ρ', fl = .rt d ρ' ∧ P ρ') (hk : ∀ ρ', P ρ' → keepM as ρ' = as' ∧ as.length ≤ ρ'.length) : mkFn nN S as = .ok (d, as') := by
  obtain ⟨_, e, ρ', rfl, p⟩ := h
  exact fn_rt h0 e (hk ρ' p).2 (hk ρ' p).1
/-- the same with draws: the answer and the arguments behind are told by Q -/
theorem fn_rn {nN : Nat} {S : SF} {as ρ0 : List Sl} {Q : D → List Sl → Prop} (h0 : as ++ List.replicate (nN - as.length) .u = ρ0) (h : Rn (S ρ0) fun fl => ∃ d ρ', fl = .rt d ρ' ∧ as.length ≤ ρ'.length ∧ Q d (keepM as ρ')) : ∃ d as', mkFn nN S as = .ok (d, as') ∧ Q d as' := by
  obtain ⟨_, e, d, ρ', rfl, p, q⟩ := h
  exact ⟨d, _, fn_rt h0 e p rfl, q⟩
/-! ### small lists -/
@[simp] theorem at21 {α : Type} {a b : α} : atI [a, b] 1 = some b := rfl
@[simp] theorem at31 {α : Type} {a b c : α} : atI [a, b, c] 1 = some b := rfl
@[simp] theorem at32 {α : Type} {a b c : α} : atI [a, b, c] 2 = some c := rfl
@[simp] theorem at41 {α : Type} {a b c d : α} : atI [a, b, c, d] 1 = some b := rfl
@[simp] theorem at42 {α : Type} {a b c d : α} : atI [a, b, c, d] 2 = some c := rfl
@[simp] theorem at43 {α : Type} {a b c d : α} : atI [a, b, c, d] 3 = some d := rfl
theorem atI_nat {α : Type} (xs : List α) (i : Nat) : atI xs (i : Int) = xs[i]? := by
  unfold atI ixN
  rw [if_pos (by omega)]
  by_cases h : (i : Int) < (xs.length : Int)
  · rw [if_pos h]; simp
  · rw [if_neg h]
    simp only [Option.bind_none]
    exact (List.getElem?_eq_none (by omega)).symm
theorem atI_last {α : Type} (xs : List α) (h : xs ≠ []) : atI xs (-1) = xs.getLast? := by
  have hl : 0 < xs.length := List.length_pos_iff.mpr h
  unfold atI ixN
  rw [if_neg (by omega), if_pos (by omega)]
  simp only [Option.bind_some]
  rw [List.getLast?_eq_getElem?]
  congr 1
  omega
theorem atI_snoc {α : Type} (xs : List α) (x : α) : atI (xs ++ [x]) (-1) = some x := by
  rw [atI_last _ (by simp)]
  simp
theorem cut_take {α : Type} (xs : List α) (k : Nat) : cutL xs none (some (k : Int)) = xs.take k := by
  unfold cutL
  rw [HT.sIx_none, HT.sIx_nat]
  simp only [List.drop_zero, Nat.sub_zero]
  rw [← List.take_take]
  simp
theorem cut_drop {α : Type} (xs : List α) (k : Nat) : cutL xs (some (k : Int)) none = xs.drop k := by
  unfold cutL
  rw [HT.sIx_none, HT.sIx_nat]
  by_cases h : k ≤ xs.length
  · rw [Nat.min_eq_left h, List.take_of_length_le (by simp)]
  · rw [Nat.min_eq_right (by omega), List.drop_of_length_le (Nat.le_refl _), List.drop_of_length_le (by omega)]
    simp
theorem cut_mid {α : Type} (xs : List α) (k m : Nat) : cutL xs (some (k : Int)) (some ((k : Int) + (m : Int))) = (xs.drop k).take m := by
  unfold cutL
  rw [show (k : Int) + (m : Int) = ((k + m : Nat) : Int) by omega, HT.sIx_nat, HT.sIx_nat]
  by_cases h : k ≤ xs.length
  · rw [Nat.min_eq_left h]
    by_cases h2 : k + m ≤ xs.length
    · rw [Nat.min_eq_left h2]; congr 1; omega
    · rw [Nat.min_eq_right (by omega), List.take_of_length_le (by simp), List.take_of_length_le (by simp; omega)]
  · rw [Nat.min_eq_right (by omega), Nat.min_eq_right (by omega), List.drop_of_length_le (Nat.le_refl _), List.drop_of_length_le (by omega)]
    simp
theorem cut_map {α β : Type} (f : α → β) (xs : List α) (lo hi : Option Int) : cutL (xs.map f) lo hi = (cutL xs lo hi).map f := by
  unfold cutL
  simp
@[simp] theorem all_tt {α : Type} (l : List α) : (l.all fun _ => true) = true := by induction l <;> simp_all
@[simp] theorem nm_k (kvs : List (Key × D)) : nm (.k kvs) = true := rfl
/-! ### texts as data -/
abbrev strL (xs : List Str) : List D := xs.map PyData.str
abbrev sT (xs : List Str) : D := .tuple (xs.map PyData.str)
@[simp] theorem depAll_str (xs : List Str) : PyData.depthAll (xs.map PyData.str) = 0 := by
  induction xs with
  | nil => simp
  | cons x xs ih => simp [ih]
@[simp] theorem eqv_strL (xs ys : List Str) : PyData.eqvAll (xs.map PyData.str) (ys.map PyData.str) = decide (xs = ys) := by
  induction xs generalizing ys with
  | nil => cases ys <;> simp [PyData.eqvAll]
  | cons x xs ih =>
    cases ys with
    | nil => simp [PyData.eqvAll]
    | cons y ys =>
      rw [List.map_cons, List.map_cons, PyData.eqvAll, ih, eqv_str]
      by_cases h : x = y <;> simp [h]
@[simp] theorem inL_str (x : Str) (xs : List Str) : inL (.str x) (xs.map PyData.str) = decide (x ∈ xs) := by
  unfold inL
  induction xs with
  | nil => simp
  | cons y ys ih =>
    rw [List.map_cons, List.any_cons, ih, eqv_str]
    by_cases h : y = x
    · subst h; simp
    · have h2 : x ≠ y := fun z => h z.symm
      simp [h, h2]
@[simp] theorem fitL_str (xs : List Str) : fitL (xs.map PyData.str) = true := by
  induction xs with
  | nil => rfl
  | cons x xs ih => simp [ih]
@[simp] theorem lkL_str (xs ys : List Str) : lkL (xs.map PyData.str) (ys.map PyData.str) = decide (xs = ys) := by
  induction xs generalizing ys with
  | nil => cases ys <;> simp [lkL]
  | cons x xs ih =>
    cases ys with
    | nil => simp [lkL]
    | cons y ys =>
      rw [List.map_cons, List.map_cons, lkL, ih, lk]
      by_cases h : x = y <;> simp [h]
end Pd
end

section
/-! Pd: the mirrors of the core (computads, diagrams) and of the draws of them (printed by gen.py, mir.py). -/
namespace Pd
open PySem L2
noncomputable section
def S_is_whole : SF :=
  sRet (eAn (eIsi "int" (eVar 0)) (eAn (eNo (eIsi "bool" (eVar 0))) (eCh leD leD (eVar 1) (eVar 0) (eVar 2))))
theorem q_is_whole : ∃ F : Fn, F = mkFn 3 S_is_whole := ⟨_, rfl⟩
noncomputable def m_is_whole : Fn := Classical.choose q_is_whole
theorem m_is_whole_eq : m_is_whole = mkFn 3 S_is_whole := Classical.choose_spec q_is_whole
def S_is_tuple_of : SF :=
  sRet (eAn (eIsi "tuple" (eVar 0)) (eCh leD leD (eVar 1) (eCall lenD (aCons (eVar 0) (aNil))) (eVar 2)))
theorem q_is_tuple_of : ∃ F : Fn, F = mkFn 3 S_is_tuple_of := ⟨_, rfl⟩
noncomputable def m_is_tuple_of : Fn := Classical.choose q_is_tuple_of
theorem m_is_tuple_of_eq : m_is_tuple_of = mkFn 3 S_is_tuple_of := Classical.choose_spec q_is_tuple_of
def S_are_ascending : SF :=
  sRet (eCall allD (aCons (eLc (iZip2 (eVar 0) (eSl (eVar 0) (oSome (eC (.int 1))) (oNo))) (gTupD 2 (gsCons (setD 1) (gsCons (setD 2) (gsNil)))) (tYs) (eOp ltD (eVar 1) (eVar 2)) [1, 2]) (aNil)))
theorem q_are_ascending : ∃ F : Fn, F = mkFn 3 S_are_ascending := ⟨_, rfl⟩
noncomputable def m_are_ascending : Fn := Classical.choose q_are_ascending
theorem m_are_ascending_eq : m_are_ascending = mkFn 3 S_are_ascending := Classical.choose_spec q_are_ascending
def S_row_of : SF :=
  sSeq (sFor (iAny (eVar 0)) (setD 2) (sIf (tBo (eOp eqD (eOp ixD (eVar 2) (eC (.int 0))) (eVar 1))) (sRet (eVar 2)) (sNx))) (sRet (eC .none))
theorem q_row_of : ∃ F : Fn, F = mkFn 3 S_row_of := ⟨_, rfl⟩
noncomputable def m_row_of : Fn := Classical.choose q_row_of
theorem m_row_of_eq : m_row_of = mkFn 3 S_row_of := Classical.choose_spec q_row_of
def S_chained_points : SF :=
  sSeq (sNew 3 (nLst (aCons (eVar 1) (aNil)))) (sSeq (sFor (iAny (eVar 2)) (setD 4) (sSeq (sAsg (eIf (tOf (eIsi "str" (eVar 4))) (eUser 2 (m_row_of) (cD (eVar 0) (cD (eVar 4) (cNil)))) (eC .none)) (setD 5)) (sSeq (sIf (tOr' (tBo (eOp isNonD (eVar 5) (eC .none))) (tBo (eOp neD (eOp ixD (eVar 5) (eC (.int 1))) (eIxM 3 (eUn negD (eC (.int 1))))))) (sRet (eC .none)) (sNx)) (sApp 3 (eOp ixD (eVar 5) (eC (.int 2))))))) (sFz 3 (sRet (eVar 3))))
theorem q_chained_points : ∃ F : Fn, F = mkFn 6 S_chained_points := ⟨_, rfl⟩
noncomputable def m_chained_points : Fn := Classical.choose q_chained_points
theorem m_chained_points_eq : m_chained_points = mkFn 6 S_chained_points := Classical.choose_spec q_chained_points
def S_are_points : SF :=
  sRet (eAn (eUser 3 (m_is_tuple_of) (cD (eVar 0) (cD (eC (.int 1)) (cD (eC (.int 12)) (cNil))))) (eAn (eCall allD (aCons (eLc (iAny (eVar 0)) (setD 1) (tYs) (eUser 1 (m_is_name) (cD (eVar 1) (cNil))) [1]) (aNil))) (eUser 1 (m_are_ascending) (cD (eVar 0) (cNil)))))
theorem q_are_points : ∃ F : Fn, F = mkFn 2 S_are_points := ⟨_, rfl⟩
noncomputable def m_are_points : Fn := Classical.choose q_are_points
theorem m_are_points_eq : m_are_points = mkFn 2 S_are_points := Classical.choose_spec q_are_points
def S_are_arrows : SF :=
  sSeq (sIf (tNo (tOf (eUser 3 (m_is_tuple_of) (cD (eVar 1) (cD (eC (.int 0)) (cD (eC (.int 20)) (cNil))))))) (sRet (eC (.bool false))) (sNx)) (sSeq (sFor (iAny (eVar 1)) (setD 2) (sSeq (sIf (tOr' (tNo (tOf (eUser 3 (m_is_tuple_of) (cD (eVar 2) (cD (eC (.int 3)) (cD (eC (.int 3)) (cNil))))))) (tNo (tOf (eCall allD (aCons (eLc (iAny (eVar 2)) (setD 3) (tYs) (eUser 1 (m_is_name) (cD (eVar 3) (cNil))) [3]) (aNil)))))) (sRet (eC (.bool false))) (sNx)) (sIf (tOr' (tBo (eOp ninD (eOp ixD (eVar 2) (eC (.int 1))) (eVar 0))) (tBo (eOp ninD (eOp ixD (eVar 2) (eC (.int 2))) (eVar 0)))) (sRet (eC (.bool false))) (sNx)))) (sRet (eUser 1 (m_are_ascending) (cD (eLc (iAny (eVar 1)) (setD 2) (tYs) (eOp ixD (eVar 2) (eC (.int 0))) [2]) (cNil)))))
theorem q_are_arrows : ∃ F : Fn, F = mkFn 4 S_are_arrows := ⟨_, rfl⟩
noncomputable def m_are_arrows : Fn := Classical.choose q_are_arrows
theorem m_are_arrows_eq : m_are_arrows = mkFn 4 S_are_arrows := Classical.choose_spec q_are_arrows
def S_is_cell : SF :=
  sSeq (sIf (tOr' (tNo (tOf (eUser 3 (m_is_tuple_of) (cD (eVar 2) (cD (eC (.int 4)) (cD (eC (.int 4)) (cNil))))))) (tOr' (tNo (tOf (eUser 1 (m_is_name) (cD (eOp ixD (eVar 2) (eC (.int 0))) (cNil))))) (tOr' (tNo (tOf (eUser 1 (m_is_name) (cD (eOp ixD (eVar 2) (eC (.int 1))) (cNil))))) (tBo (eOp ninD (eOp ixD (eVar 2) (eC (.int 1))) (eVar 0)))))) (sRet (eC (.bool false))) (sNx)) (sSeq (sIf (tOr' (tNo (tOf (eUser 3 (m_is_tuple_of) (cD (eOp ixD (eVar 2) (eC (.int 2))) (cD (eC (.int 0)) (cD (eC (.int 6)) (cNil))))))) (tNo (tOf (eUser 3 (m_is_tuple_of) (cD (eOp ixD (eVar 2) (eC (.int 3))) (cD (eC (.int 0)) (cD (eC (.int 6)) (cNil)))))))) (sRet (eC (.bool false))) (sNx)) (sSeq (sPar 3 4 (eUser 3 (m_chained_points) (cD (eVar 1) (cD (eOp ixD (eVar 2) (eC (.int 1))) (cD (eOp ixD (eVar 2) (eC (.int 2))) (cNil))))) (eUser 3 (m_chained_points) (cD (eVar 1) (cD (eOp ixD (eVar 2) (eC (.int 1))) (cD (eOp ixD (eVar 2) (eC (.int 3))) (cNil)))))) (sRet (eAn (eOp notNonD (eVar 3) (eC .none)) (eAn (eOp notNonD (eVar 4) (eC .none)) (eOp eqD (eOp ixD (eVar 3) (eUn negD (eC (.int 1)))) (eOp ixD (eVar 4) (eUn negD (eC (.int 1))))))))))
theorem q_is_cell : ∃ F : Fn, F = mkFn 5 S_is_cell := ⟨_, rfl⟩
noncomputable def m_is_cell : Fn := Classical.choose q_is_cell
theorem m_is_cell_eq : m_is_cell = mkFn 5 S_is_cell := Classical.choose_spec q_is_cell
def S_is_computad : SF :=
  sSeq (sIf (tOr' (tNo (tOf (eUser 3 (m_is_tuple_of) (cD (eVar 0) (cD (eC (.int 3)) (cD (eC (.int 3)) (cNil))))))) (tOr' (tNo (tOf (eUser 1 (m_are_points) (cD (eOp ixD (eVar 0) (eC (.int 0))) (cNil))))) (tNo (tOf (eUser 2 (m_are_arrows) (cD (eOp ixD (eVar 0) (eC (.int 0))) (cD (eOp ixD (eVar 0) (eC (.int 1))) (cNil)))))))) (sRet (eC (.bool false))) (sNx)) (sSeq (sIf (tOr' (tNo (tOf (eUser 3 (m_is_tuple_of) (cD (eOp ixD (eVar 0) (eC (.int 2))) (cD (eC (.int 0)) (cD (eC (.int 20)) (cNil))))))) (tNo (tOf (eCall allD (aCons (eLc (iAny (eOp ixD (eVar 0) (eC (.int 2)))) (setD 1) (tYs) (eUser 3 (m_is_cell) (cD (eOp ixD (eVar 0) (eC (.int 0))) (cD (eOp ixD (eVar 0) (eC (.int 1))) (cD (eVar 1) (cNil))))) [1]) (aNil)))))) (sRet (eC (.bool false))) (sNx)) (sRet (eUser 1 (m_are_ascending) (cD (eLc (iAny (eOp ixD (eVar 0) (eC (.int 2)))) (setD 1) (tYs) (eOp ixD (eVar 1) (eC (.int 0))) [1]) (cNil)))))
theorem q_is_computad : ∃ F : Fn, F = mkFn 2 S_is_computad := ⟨_, rfl⟩
noncomputable def m_is_computad : Fn := Classical.choose q_is_computad
theorem m_is_computad_eq : m_is_computad = mkFn 2 S_is_computad := Classical.choose_spec q_is_computad
def S_need_computad : SF :=
  sIf (tNo (tOf (eUser 1 (m_is_computad) (cD (eVar 0) (cNil))))) (sRaise "InvalidComputad") (sNx)
theorem q_need_computad : ∃ F : Fn, F = mkFn 1 S_need_computad := ⟨_, rfl⟩
noncomputable def m_need_computad : Fn := Classical.choose q_need_computad
theorem m_need_computad_eq : m_need_computad = mkFn 1 S_need_computad := Classical.choose_spec q_need_computad
def S_is_path_in : SF :=
  sSeq (sIf (tOr' (tNo (tOf (eUser 3 (m_is_tuple_of) (cD (eVar 1) (cD (eC (.int 2)) (cD (eC (.int 2)) (cNil))))))) (tOr' (tNo (tOf (eUser 1 (m_is_name) (cD (eOp ixD (eVar 1) (eC (.int 0))) (cNil))))) (tBo (eOp ninD (eOp ixD (eVar 1) (eC (.int 0))) (eOp ixD (eVar 0) (eC (.int 0))))))) (sRet (eC (.bool false))) (sNx)) (sRet (eAn (eUser 3 (m_is_tuple_of) (cD (eOp ixD (eVar 1) (eC (.int 1))) (cD (eC (.int 0)) (cD (eC (.int 400)) (cNil))))) (eOp notNonD (eUser 3 (m_chained_points) (cD (eOp ixD (eVar 0) (eC (.int 1))) (cD (eOp ixD (eVar 1) (eC (.int 0))) (cD (eOp ixD (eVar 1) (eC (.int 1))) (cNil))))) (eC .none))))
theorem q_is_path_in : ∃ F : Fn, F = mkFn 2 S_is_path_in := ⟨_, rfl⟩
noncomputable def m_is_path_in : Fn := Classical.choose q_is_path_in
theorem m_is_path_in_eq : m_is_path_in = mkFn 2 S_is_path_in := Classical.choose_spec q_is_path_in
def S_is_path : SF :=
  sSeq (sDrop (eUser 1 (m_need_computad) (cD (eVar 0) (cNil)))) (sRet (eUser 2 (m_is_path_in) (cD (eVar 0) (cD (eVar 1) (cNil)))))
theorem q_is_path : ∃ F : Fn, F = mkFn 2 S_is_path := ⟨_, rfl⟩
noncomputable def m_is_path : Fn := Classical.choose q_is_path
theorem m_is_path_eq : m_is_path = mkFn 2 S_is_path := Classical.choose_spec q_is_path
def S_need_path : SF :=
  sIf (tNo (tOf (eUser 2 (m_is_path) (cD (eVar 0) (cD (eVar 1) (cNil)))))) (sRaise "InvalidPath") (sNx)
theorem q_need_path : ∃ F : Fn, F = mkFn 2 S_need_path := ⟨_, rfl⟩
noncomputable def m_need_path : Fn := Classical.choose q_need_path
theorem m_need_path_eq : m_need_path = mkFn 2 S_need_path := Classical.choose_spec q_need_path
def S_cell_row : SF :=
  sRet (eIf (tOf (eIsi "str" (eVar 1))) (eUser 2 (m_row_of) (cD (eOp ixD (eVar 0) (eC (.int 2))) (cD (eVar 1) (cNil)))) (eC .none))
theorem q_cell_row : ∃ F : Fn, F = mkFn 2 S_cell_row := ⟨_, rfl⟩
noncomputable def m_cell_row : Fn := Classical.choose q_cell_row
theorem m_cell_row_eq : m_cell_row = mkFn 2 S_cell_row := Classical.choose_spec q_cell_row
def S_point_at : SF :=
  sSeq (sAsg (eVar 1) (gTupD 2 (gsCons (setD 3) (gsCons (setD 4) (gsNil))))) (sRet (eIf (tBo (eOp gtD (eVar 2) (eC (.int 0)))) (eOp ixD (eUser 2 (m_row_of) (cD (eOp ixD (eVar 0) (eC (.int 1))) (cD (eOp ixD (eVar 4) (eOp subD (eVar 2) (eC (.int 1)))) (cNil)))) (eC (.int 2))) (eVar 3)))
theorem q_point_at : ∃ F : Fn, F = mkFn 5 S_point_at := ⟨_, rfl⟩
noncomputable def m_point_at : Fn := Classical.choose q_point_at
theorem m_point_at_eq : m_point_at = mkFn 5 S_point_at := Classical.choose_spec q_point_at
def S_applies : SF :=
  sSeq (sIf (tOr' (tNo (tOf (eUser 3 (m_is_tuple_of) (cD (eVar 2) (cD (eC (.int 2)) (cD (eC (.int 2)) (cNil))))))) (tNo (tOf (eUser 3 (m_is_whole) (cD (eOp ixD (eVar 2) (eC (.int 0))) (cD (eC (.int 0)) (cD (eCall lenD (aCons (eOp ixD (eVar 1) (eC (.int 1))) (aNil))) (cNil)))))))) (sRet (eC (.bool false))) (sNx)) (sSeq (sAsg (eVar 2) (gTupD 2 (gsCons (setD 3) (gsCons (setD 4) (gsNil))))) (sSeq (sAsg (eUser 2 (m_cell_row) (cD (eVar 0) (cD (eVar 4) (cNil)))) (setD 5)) (sRet (eAn (eOp notNonD (eVar 5) (eC .none)) (eAn (eOp eqD (eUser 3 (m_point_at) (cD (eVar 0) (cD (eVar 1) (cD (eVar 3) (cNil))))) (eOp ixD (eVar 5) (eC (.int 1)))) (eOp eqD (eSl (eOp ixD (eVar 1) (eC (.int 1))) (oSome (eVar 3)) (oSome (eOp addD (eVar 3) (eCall lenD (aCons (eOp ixD (eVar 5) (eC (.int 2))) (aNil)))))) (eOp ixD (eVar 5) (eC (.int 2)))))))))
theorem q_applies : ∃ F : Fn, F = mkFn 6 S_applies := ⟨_, rfl⟩
noncomputable def m_applies : Fn := Classical.choose q_applies
theorem m_applies_eq : m_applies = mkFn 6 S_applies := Classical.choose_spec q_applies
def S_after_layer : SF :=
  sSeq (sAsg (eVar 1) (gTupD 2 (gsCons (setD 3) (gsCons (setD 4) (gsNil))))) (sSeq (sAsg (eVar 2) (gTupD 2 (gsCons (setD 5) (gsCons (setD 6) (gsNil))))) (sSeq (sAsg (eUser 2 (m_cell_row) (cD (eVar 0) (cD (eVar 6) (cNil)))) (setD 7)) (sRet (eTup (aCons (eVar 3) (aCons (eOp addD (eOp addD (eSl (eVar 4) (oNo) (oSome (eVar 5))) (eOp ixD (eVar 7) (eC (.int 3)))) (eSl (eVar 4) (oSome (eOp addD (eVar 5) (eCall lenD (aCons (eOp ixD (eVar 7) (eC (.int 2))) (aNil))))) (oNo))) (aNil)))))))
theorem q_after_layer : ∃ F : Fn, F = mkFn 8 S_after_layer := ⟨_, rfl⟩
noncomputable def m_after_layer : Fn := Classical.choose q_after_layer
theorem m_after_layer_eq : m_after_layer = mkFn 8 S_after_layer := Classical.choose_spec q_after_layer
def S_sides_of : SF :=
  sSeq (sAsg (eUser 2 (m_cell_row) (cD (eVar 0) (cD (eVar 1) (cNil)))) (setD 2)) (sRet (eTup (aCons (eCall lenD (aCons (eOp ixD (eVar 2) (eC (.int 2))) (aNil))) (aCons (eCall lenD (aCons (eOp ixD (eVar 2) (eC (.int 3))) (aNil))) (aNil)))))
theorem q_sides_of : ∃ F : Fn, F = mkFn 3 S_sides_of := ⟨_, rfl⟩
noncomputable def m_sides_of : Fn := Classical.choose q_sides_of
theorem m_sides_of_eq : m_sides_of = mkFn 3 S_sides_of := Classical.choose_spec q_sides_of
def S_paths_in : SF :=
  sSeq (sNew 2 (nLst (aCons (eOp ixD (eVar 1) (eC (.int 0))) (aNil)))) (sSeq (sFor (iAny (eOp ixD (eVar 1) (eC (.int 1)))) (setD 3) (sApp 2 (eUser 3 (m_after_layer) (cD (eVar 0) (cD (eIxM 2 (eUn negD (eC (.int 1)))) (cD (eVar 3) (cNil))))))) (sRet (eTupM 2)))
theorem q_paths_in : ∃ F : Fn, F = mkFn 4 S_paths_in := ⟨_, rfl⟩
noncomputable def m_paths_in : Fn := Classical.choose q_paths_in
theorem m_paths_in_eq : m_paths_in = mkFn 4 S_paths_in := Classical.choose_spec q_paths_in
def S_size_in : SF :=
  sSeq (sAsg (eVar 1) (gTupD 2 (gsCons (setD 2) (gsCons (setD 3) (gsNil))))) (sRet (eOp addD (eCall lenD (aCons (eOp ixD (eVar 2) (eC (.int 1))) (aNil))) (eCall sumD (aCons (eLc (iAny (eVar 3)) (gTupD 2 (gsCons (setD 4) (gsCons (setD 5) (gsNil)))) (tYs) (eOp ixD (eUser 2 (m_sides_of) (cD (eVar 0) (cD (eVar 5) (cNil)))) (eC (.int 1))) [4, 5]) (aNil)))))
theorem q_size_in : ∃ F : Fn, F = mkFn 6 S_size_in := ⟨_, rfl⟩
noncomputable def m_size_in : Fn := Classical.choose q_size_in
theorem m_size_in_eq : m_size_in = mkFn 6 S_size_in := Classical.choose_spec q_size_in
def S_is_diagram_in : SF :=
  sSeq (sIf (tOr' (tNo (tOf (eUser 3 (m_is_tuple_of) (cD (eVar 1) (cD (eC (.int 2)) (cD (eC (.int 2)) (cNil))))))) (tOr' (tNo (tOf (eUser 2 (m_is_path_in) (cD (eVar 0) (cD (eOp ixD (eVar 1) (eC (.int 0))) (cNil)))))) (tNo (tOf (eUser 3 (m_is_tuple_of) (cD (eOp ixD (eVar 1) (eC (.int 1))) (cD (eC (.int 0)) (cD (eC (.int 200)) (cNil))))))))) (sRet (eC (.bool false))) (sNx)) (sSeq (sAsg (eOp ixD (eVar 1) (eC (.int 0))) (setD 2)) (sSeq (sFor (iAny (eOp ixD (eVar 1) (eC (.int 1)))) (setD 3) (sSeq (sIf (tNo (tOf (eUser 3 (m_applies) (cD (eVar 0) (cD (eVar 2) (cD (eVar 3) (cNil))))))) (sRet (eC (.bool false))) (sNx)) (sAsg (eUser 3 (m_after_layer) (cD (eVar 0) (cD (eVar 2) (cD (eVar 3) (cNil))))) (setD 2)))) (sRet (eOp leD (eUser 2 (m_size_in) (cD (eVar 0) (cD (eVar 1) (cNil)))) (eC (.int 400))))))
theorem q_is_diagram_in : ∃ F : Fn, F = mkFn 4 S_is_diagram_in := ⟨_, rfl⟩
noncomputable def m_is_diagram_in : Fn := Classical.choose q_is_diagram_in
theorem m_is_diagram_in_eq : m_is_diagram_in = mkFn 4 S_is_diagram_in := Classical.choose_spec q_is_diagram_in
def S_is_diagram : SF :=
  sSeq (sDrop (eUser 1 (m_need_computad) (cD (eVar 0) (cNil)))) (sRet (eUser 2 (m_is_diagram_in) (cD (eVar 0) (cD (eVar 1) (cNil)))))
theorem q_is_diagram : ∃ F : Fn, F = mkFn 2 S_is_diagram := ⟨_, rfl⟩
noncomputable def m_is_diagram : Fn := Classical.choose q_is_diagram
theorem m_is_diagram_eq : m_is_diagram = mkFn 2 S_is_diagram := Classical.choose_spec q_is_diagram
def S_need_diagram : SF :=
  sIf (tNo (tOf (eUser 2 (m_is_diagram) (cD (eVar 0) (cD (eVar 1) (cNil)))))) (sRaise "InvalidDiagram") (sNx)
theorem q_need_diagram : ∃ F : Fn, F = mkFn 2 S_need_diagram := ⟨_, rfl⟩
noncomputable def m_need_diagram : Fn := Classical.choose q_need_diagram
theorem m_need_diagram_eq : m_need_diagram = mkFn 2 S_need_diagram := Classical.choose_spec q_need_diagram
def S_diagram_size : SF :=
  sSeq (sDrop (eUser 2 (m_need_diagram) (cD (eVar 0) (cD (eVar 1) (cNil))))) (sRet (eUser 2 (m_size_in) (cD (eVar 0) (cD (eVar 1) (cNil)))))
theorem q_diagram_size : ∃ F : Fn, F = mkFn 2 S_diagram_size := ⟨_, rfl⟩
noncomputable def m_diagram_size : Fn := Classical.choose q_diagram_size
theorem m_diagram_size_eq : m_diagram_size = mkFn 2 S_diagram_size := Classical.choose_spec q_diagram_size
def S_diagram_paths : SF :=
  sSeq (sDrop (eUser 2 (m_need_diagram) (cD (eVar 0) (cD (eVar 1) (cNil))))) (sRet (eUser 2 (m_paths_in) (cD (eVar 0) (cD (eVar 1) (cNil)))))
theorem q_diagram_paths : ∃ F : Fn, F = mkFn 2 S_diagram_paths := ⟨_, rfl⟩
noncomputable def m_diagram_paths : Fn := Classical.choose q_diagram_paths
theorem m_diagram_paths_eq : m_diagram_paths = mkFn 2 S_diagram_paths := Classical.choose_spec q_diagram_paths
def S_diagram_target : SF :=
  sRet (eOp ixD (eUser 2 (m_diagram_paths) (cD (eVar 0) (cD (eVar 1) (cNil)))) (eUn negD (eC (.int 1))))
theorem q_diagram_target : ∃ F : Fn, F = mkFn 2 S_diagram_target := ⟨_, rfl⟩
noncomputable def m_diagram_target : Fn := Classical.choose q_diagram_target
theorem m_diagram_target_eq : m_diagram_target = mkFn 2 S_diagram_target := Classical.choose_spec q_diagram_target
def S_identity : SF :=
  sSeq (sDrop (eUser 2 (m_need_path) (cD (eVar 0) (cD (eVar 1) (cNil))))) (sRet (eTup (aCons (eVar 1) (aCons (eTup (aNil)) (aNil)))))
theorem q_identity : ∃ F : Fn, F = mkFn 2 S_identity := ⟨_, rfl⟩
noncomputable def m_identity : Fn := Classical.choose q_identity
theorem m_identity_eq : m_identity = mkFn 2 S_identity := Classical.choose_spec q_identity
def S__law_name : SF :=
  sSeq (sAsg (eTup (aCons (eC (.str "abcdefghijklmnopqrstuvwxyz")) (aCons (eC (.str "0123456789")) (aNil)))) (gTupD 2 (gsCons (setD 2) (gsCons (setD 3) (gsNil))))) (sSeq (sFor (iR1 (eC (.int 3))) (setD 4) (sSeq (sAsg (eUser 2 (m__law_some) (cR 0 (cD (eVar 2) (cNil)))) (setD 5)) (sSeq (sFor (iR1 (eUser 2 (m__law_some) (cR 0 (cD (eLst (aCons (eC (.int 0)) (aCons (eC (.int 0)) (aCons (eC (.int 0)) (aCons (eC (.int 1)) (aCons (eC (.int 2)) (aCons (eC (.int 11)) (aNil)))))))) (cNil))))) (setD 6) (sAsg (eOp addD (eVar 5) (eUser 2 (m__law_some) (cR 0 (cD (eOp addD (eVar 2) (eVar 3)) (cNil))))) (setD 5))) (sIf (tBo (eOp ninD (eVar 5) (eVar 1))) (sRet (eVar 5)) (sNx))))) (sRet (eOp ixD (eLc (iAny (eLc (iR1 (eC (.int 70))) (setD 7) (tYs) (eOp addD (eC (.str "n")) (eCall strD (aCons (eVar 7) (aNil)))) [7])) (setD 5) (tBo (eOp ninD (eVar 5) (eVar 1))) (eVar 5) [5]) (eC (.int 0)))))
theorem q__law_name : ∃ F : Fn, F = mkFn 8 S__law_name := ⟨_, rfl⟩
noncomputable def m__law_name : Fn := Classical.choose q__law_name
theorem m__law_name_eq : m__law_name = mkFn 8 S__law_name := Classical.choose_spec q__law_name
def S__law_names : SF :=
  sSeq (sNew 2 (nLst (aNil))) (sSeq (sFor (iR1 (eVar 1)) (setD 3) (sApp 2 (eLoan 2 (eUser 2 (m__law_name) (cR 0 (cD (eVar 2) (cNil))))))) (sFz 2 (sRet (eCall srtD (aCons (eVar 2) (aNil))))))
theorem q__law_names : ∃ F : Fn, F = mkFn 4 S__law_names := ⟨_, rfl⟩
noncomputable def m__law_names : Fn := Classical.choose q__law_names
theorem m__law_names_eq : m__law_names = mkFn 4 S__law_names := Classical.choose_spec q__law_names
def S__law_walk : SF :=
  sSeq (sAsg (eTup (aCons (eTup (aNil)) (aCons (eVar 2) (aNil)))) (gTupD 2 (gsCons (setD 4) (gsCons (setD 5) (gsNil))))) (sSeq (sFor (iR1 (eUser 2 (m__law_roll) (cR 0 (cD (eOp addD (eVar 3) (eC (.int 1))) (cNil))))) (setD 6) (sSeq (sAsg (eLc (iAny (eVar 1)) (setD 8) (tBo (eOp eqD (eOp ixD (eVar 8) (eC (.int 1))) (eVar 5))) (eVar 8) [8]) (setD 7)) (sIf (tBo (eOp neD (eVar 7) (eLst (aNil)))) (sSeq (sAsg (eUser 2 (m__law_some) (cR 0 (cD (eVar 7) (cNil)))) (setD 8)) (sAsg (eTup (aCons (eOp addD (eVar 4) (eTup (aCons (eOp ixD (eVar 8) (eC (.int 0))) (aNil)))) (aCons (eOp ixD (eVar 8) (eC (.int 2))) (aNil)))) (gTupD 2 (gsCons (setD 4) (gsCons (setD 5) (gsNil)))))) (sNx)))) (sRet (eVar 4)))
theorem q__law_walk : ∃ F : Fn, F = mkFn 9 S__law_walk := ⟨_, rfl⟩
noncomputable def m__law_walk : Fn := Classical.choose q__law_walk
theorem m__law_walk_eq : m__law_walk = mkFn 9 S__law_walk := Classical.choose_spec q__law_walk
def S__law_along : SF :=
  sSeq (sParNK 3 4 (nLst (aCons (eVar 1) (aNil))) (kDict (eLc (iAny (eVar 0)) (setD 6) (tYs) (eTup (aCons (eOp ixD (eVar 6) (eC (.int 0))) (aCons (eOp ixD (eVar 6) (eC (.int 2))) (aNil)))) [6]))) (sSeq (sFor (iAny (eVar 2)) (setD 5) (sApp 3 (eGetK 4 (eVar 5)))) (sFz 3 (sRet (eVar 3))))
theorem q__law_along : ∃ F : Fn, F = mkFn 7 S__law_along := ⟨_, rfl⟩
noncomputable def m__law_along : Fn := Classical.choose q__law_along
theorem m__law_along_eq : m__law_along = mkFn 7 S__law_along := Classical.choose_spec q__law_along
def S__law_cells : SF :=
  sSeq (sNew 5 (nLst (aNil))) (sSeq (sFor (iAny (eUser 2 (m__law_names) (cR 0 (cD (eVar 3) (cNil))))) (setD 6) (sSeq (sAsg (eUser 2 (m__law_some) (cR 0 (cD (eVar 1) (cNil)))) (setD 7)) (sSeq (sAsg (eUser 4 (m__law_walk) (cR 0 (cD (eVar 2) (cD (eVar 7) (cD (eC (.int 3)) (cNil)))))) (setD 8)) (sSeq (sAsg (eVar 8) (setD 9)) (sSeq (sFor (iR1 (eC (.int 4))) (setD 10) (sSeq (sAsg (eUser 4 (m__law_walk) (cR 0 (cD (eVar 2) (cD (eVar 7) (cD (eC (.int 3)) (cNil)))))) (setD 11)) (sIf (tAn (tBo (eOp geD (eCall lenD (aCons (eVar 11) (aNil))) (eVar 4))) (tBo (eOp eqD (eOp ixD (eUser 3 (m__law_along) (cD (eVar 2) (cD (eVar 7) (cD (eVar 11) (cNil))))) (eUn negD (eC (.int 1)))) (eOp ixD (eUser 3 (m__law_along) (cD (eVar 2) (cD (eVar 7) (cD (eVar 8) (cNil))))) (eUn negD (eC (.int 1))))))) (sAsg (eVar 11) (setD 9)) (sNx)))) (sIf (tAn (tBo (eOp geD (eCall lenD (aCons (eVar 8) (aNil))) (eVar 4))) (tBo (eOp geD (eCall lenD (aCons (eVar 9) (aNil))) (eVar 4)))) (sApp 5 (eTup (aCons (eVar 6) (aCons (eVar 7) (aCons (eVar 8) (aCons (eVar 9) (aNil))))))) (sNx))))))) (sRet (eTupM 5)))
theorem q__law_cells : ∃ F : Fn, F = mkFn 12 S__law_cells := ⟨_, rfl⟩
noncomputable def m__law_cells : Fn := Classical.choose q__law_cells
theorem m__law_cells_eq : m__law_cells = mkFn 12 S__law_cells := Classical.choose_spec q__law_cells
def S__law_computad : SF :=
  sSeq (sAsg (eCall tupOf (aCons (eUser 2 (m__law_names) (cR 0 (cD (eUser 2 (m__law_some) (cR 0 (cD (eLst (aCons (eC (.int 1)) (aCons (eC (.int 1)) (aCons (eC (.int 2)) (aCons (eC (.int 3)) (aNil)))))) (cNil)))) (cNil)))) (aNil))) (setD 2)) (sSeq (sAsg (eCall tupOf (aCons (eLc (iAny (eUser 2 (m__law_names) (cR 0 (cD (eOp addD (eC (.int 1)) (eUser 2 (m__law_roll) (cR 0 (cD (eC (.int 5)) (cNil))))) (cNil))))) (setD 4) (tYs) (eTup (aCons (eVar 4) (aCons (eUser 2 (m__law_some) (cR 0 (cD (eVar 2) (cNil)))) (aCons (eUser 2 (m__law_some) (cR 0 (cD (eVar 2) (cNil)))) (aNil))))) [4]) (aNil))) (setD 3)) (sRet (eTup (aCons (eVar 2) (aCons (eVar 3) (aCons (eUser 5 (m__law_cells) (cR 0 (cD (eVar 2) (cD (eVar 3) (cD (eOp addD (eC (.int 1)) (eUser 2 (m__law_roll) (cR 0 (cD (eC (.int 5)) (cNil))))) (cD (eVar 1) (cNil))))))) (aNil)))))))
theorem q__law_computad : ∃ F : Fn, F = mkFn 5 S__law_computad := ⟨_, rfl⟩
noncomputable def m__law_computad : Fn := Classical.choose q__law_computad
theorem m__law_computad_eq : m__law_computad = mkFn 5 S__law_computad := Classical.choose_spec q__law_computad
def S__law_large : SF :=
  sSeq (sAsg (eCall tupOf (aCons (eUser 2 (m__law_names) (cR 0 (cD (eC (.int 12)) (cNil)))) (aNil))) (setD 1)) (sSeq (sAsg (eCall tupOf (aCons (eLc (iAny (eUser 2 (m__law_names) (cR 0 (cD (eC (.int 20)) (cNil))))) (setD 4) (tYs) (eTup (aCons (eVar 4) (aCons (eUser 2 (m__law_some) (cR 0 (cD (eSl (eVar 1) (oNo) (oSome (eC (.int 4)))) (cNil)))) (aCons (eUser 2 (m__law_some) (cR 0 (cD (eOp addD (eSl (eVar 1) (oNo) (oSome (eC (.int 4)))) (eSl (eVar 1) (oSome (eUn negD (eC (.int 1)))) (oNo))) (cNil)))) (aNil))))) [4]) (aNil))) (setD 2)) (sSeq (sNew 3 (nLst (aNil))) (sSeq (sFor (iAny (eUser 2 (m__law_names) (cR 0 (cD (eC (.int 20)) (cNil))))) (setD 4) (sSeq (sAsg (eUser 2 (m__law_some) (cR 0 (cD (eSl (eVar 1) (oNo) (oSome (eC (.int 4)))) (cNil)))) (setD 5)) (sSeq (sPar 6 7 (eUser 4 (m__law_walk) (cR 0 (cD (eVar 2) (cD (eVar 5) (cD (eC (.int 3)) (cNil)))))) (eUser 4 (m__law_walk) (cR 0 (cD (eVar 2) (cD (eVar 5) (cD (eC (.int 6)) (cNil))))))) (sSeq (sIf (tBo (eOp neD (eOp ixD (eUser 3 (m__law_along) (cD (eVar 2) (cD (eVar 5) (cD (eVar 6) (cNil))))) (eUn negD (eC (.int 1)))) (eOp ixD (eUser 3 (m__law_along) (cD (eVar 2) (cD (eVar 5) (cD (eVar 7) (cNil))))) (eUn negD (eC (.int 1)))))) (sAsg (eVar 6) (setD 7)) (sNx)) (sApp 3 (eTup (aCons (eVar 4) (aCons (eVar 5) (aCons (eVar 6) (aCons (eVar 7) (aNil))))))))))) (sRet (eTup (aCons (eVar 1) (aCons (eVar 2) (aCons (eTupM 3) (aNil)))))))))
theorem q__law_large : ∃ F : Fn, F = mkFn 8 S__law_large := ⟨_, rfl⟩
noncomputable def m__law_large : Fn := Classical.choose q__law_large
theorem m__law_large_eq : m__law_large = mkFn 8 S__law_large := Classical.choose_spec q__law_large
def S__law_fitting : SF :=
  sSeq (sAsg (eVar 1) (gTupD 2 (gsCons (setD 2) (gsCons (setD 3) (gsNil))))) (sSeq (sParN2 4 5 (eUser 3 (m__law_along) (cD (eOp ixD (eVar 0) (eC (.int 1))) (cD (eVar 2) (cD (eVar 3) (cNil))))) (nLst (aNil))) (sSeq (sFor (iR1 (eOp addD (eCall lenD (aCons (eVar 3) (aNil))) (eC (.int 1)))) (setD 6) (sFor (iAny (eOp ixD (eVar 0) (eC (.int 2)))) (gTupD 4 (gsCons (setD 7) (gsCons (setD 8) (gsCons (setD 9) (gsCons (setD 10) (gsNil)))))) (sIf (tAn (tBo (eOp eqD (eOp ixD (eVar 4) (eVar 6)) (eVar 8))) (tBo (eOp eqD (eSl (eVar 3) (oSome (eVar 6)) (oSome (eOp addD (eVar 6) (eCall lenD (aCons (eVar 9) (aNil)))))) (eVar 9)))) (sApp 5 (eTup (aCons (eVar 6) (aCons (eVar 7) (aNil))))) (sNx)))) (sFz 5 (sRet (eVar 5)))))
theorem q__law_fitting : ∃ F : Fn, F = mkFn 11 S__law_fitting := ⟨_, rfl⟩
noncomputable def m__law_fitting : Fn := Classical.choose q__law_fitting
theorem m__law_fitting_eq : m__law_fitting = mkFn 11 S__law_fitting := Classical.choose_spec q__law_fitting
def S__law_after : SF :=
  sSeq (sAsg (eVar 1) (gTupD 2 (gsCons (setD 3) (gsCons (setD 4) (gsNil))))) (sSeq (sAsg (eVar 2) (gTupD 2 (gsCons (setD 5) (gsCons (setD 6) (gsNil))))) (sSeq (sAsg (eOp ixD (eLc (iAny (eOp ixD (eVar 0) (eC (.int 2)))) (setD 11) (tBo (eOp eqD (eOp ixD (eVar 11) (eC (.int 0))) (eVar 6))) (eVar 11) [11]) (eC (.int 0))) (gTupD 4 (gsCons (setD 7) (gsCons (setD 8) (gsCons (setD 9) (gsCons (setD 10) (gsNil))))))) (sRet (eTup (aCons (eVar 3) (aCons (eOp addD (eOp addD (eSl (eVar 4) (oNo) (oSome (eVar 5))) (eVar 10)) (eSl (eVar 4) (oSome (eOp addD (eVar 5) (eCall lenD (aCons (eVar 9) (aNil))))) (oNo))) (aNil)))))))
theorem q__law_after : ∃ F : Fn, F = mkFn 12 S__law_after := ⟨_, rfl⟩
noncomputable def m__law_after : Fn := Classical.choose q__law_after
theorem m__law_after_eq : m__law_after = mkFn 12 S__law_after := Classical.choose_spec q__law_after
def S__law_paths : SF :=
  sSeq (sNew 2 (nLst (aCons (eOp ixD (eVar 1) (eC (.int 0))) (aNil)))) (sSeq (sFor (iAny (eOp ixD (eVar 1) (eC (.int 1)))) (setD 3) (sApp 2 (eUser 3 (m__law_after) (cD (eVar 0) (cD (eIxM 2 (eUn negD (eC (.int 1)))) (cD (eVar 3) (cNil))))))) (sFz 2 (sRet (eVar 2))))
theorem q__law_paths : ∃ F : Fn, F = mkFn 4 S__law_paths := ⟨_, rfl⟩
noncomputable def m__law_paths : Fn := Classical.choose q__law_paths
theorem m__law_paths_eq : m__law_paths = mkFn 4 S__law_paths := Classical.choose_spec q__law_paths
def S__law_continued : SF :=
  sSeq (sAsg (eTup (aNil)) (setD 4)) (sSeq (sFor (iR1 (eVar 3)) (setD 5) (sSeq (sAsg (eUser 2 (m__law_fitting) (cD (eVar 1) (cD (eVar 2) (cNil)))) (setD 6)) (sIf (tBo (eOp neD (eVar 6) (eLst (aNil)))) (sSeq (sAsg (eUser 2 (m__law_some) (cR 0 (cD (eVar 6) (cNil)))) (setD 7)) (sPar 4 2 (eOp addD (eVar 4) (eTup (aCons (eVar 7) (aNil)))) (eUser 3 (m__law_after) (cD (eVar 1) (cD (eVar 2) (cD (eVar 7) (cNil))))))) (sNx)))) (sRet (eVar 4)))
theorem q__law_continued : ∃ F : Fn, F = mkFn 8 S__law_continued := ⟨_, rfl⟩
noncomputable def m__law_continued : Fn := Classical.choose q__law_continued
theorem m__law_continued_eq : m__law_continued = mkFn 8 S__law_continued := Classical.choose_spec q__law_continued
def S__law_path : SF :=
  sSeq (sAsg (eUser 2 (m__law_some) (cR 0 (cD (eOp ixD (eVar 1) (eC (.int 0))) (cNil)))) (setD 3)) (sRet (eTup (aCons (eVar 3) (aCons (eUser 4 (m__law_walk) (cR 0 (cD (eOp ixD (eVar 1) (eC (.int 1))) (cD (eVar 3) (cD (eVar 2) (cNil)))))) (aNil)))))
theorem q__law_path : ∃ F : Fn, F = mkFn 4 S__law_path := ⟨_, rfl⟩
noncomputable def m__law_path : Fn := Classical.choose q__law_path
theorem m__law_path_eq : m__law_path = mkFn 4 S__law_path := Classical.choose_spec q__law_path
def S__law_diagram : SF :=
  sSeq (sAsg (eUser 3 (m__law_path) (cR 0 (cD (eVar 1) (cD (eVar 2) (cNil))))) (setD 4)) (sRet (eTup (aCons (eVar 4) (aCons (eUser 4 (m__law_continued) (cR 0 (cD (eVar 1) (cD (eVar 4) (cD (eVar 3) (cNil)))))) (aNil)))))
theorem q__law_diagram : ∃ F : Fn, F = mkFn 5 S__law_diagram := ⟨_, rfl⟩
noncomputable def m__law_diagram : Fn := Classical.choose q__law_diagram
theorem m__law_diagram_eq : m__law_diagram = mkFn 5 S__law_diagram := Classical.choose_spec q__law_diagram
def S__law_sides : SF :=
  sSeq (sAsg (eOp ixD (eLc (iAny (eOp ixD (eVar 0) (eC (.int 2)))) (setD 2) (tBo (eOp eqD (eOp ixD (eVar 2) (eC (.int 0))) (eOp ixD (eVar 1) (eC (.int 1))))) (eVar 2) [2]) (eC (.int 0))) (setD 2)) (sRet (eTup (aCons (eCall lenD (aCons (eOp ixD (eVar 2) (eC (.int 2))) (aNil))) (aCons (eCall lenD (aCons (eOp ixD (eVar 2) (eC (.int 3))) (aNil))) (aNil)))))
theorem q__law_sides : ∃ F : Fn, F = mkFn 3 S__law_sides := ⟨_, rfl⟩
noncomputable def m__law_sides : Fn := Classical.choose q__law_sides
theorem m__law_sides_eq : m__law_sides = mkFn 3 S__law_sides := Classical.choose_spec q__law_sides
def S__law_size : SF :=
  sRet (eOp addD (eCall lenD (aCons (eOp ixD (eOp ixD (eVar 1) (eC (.int 0))) (eC (.int 1))) (aNil))) (eCall sumD (aCons (eLc (iAny (eOp ixD (eVar 1) (eC (.int 1)))) (setD 2) (tYs) (eOp ixD (eUser 2 (m__law_sides) (cD (eVar 0) (cD (eVar 2) (cNil)))) (eC (.int 1))) [2]) (aNil))))
theorem q__law_size : ∃ F : Fn, F = mkFn 3 S__law_size := ⟨_, rfl⟩
noncomputable def m__law_size : Fn := Classical.choose q__law_size
theorem m__law_size_eq : m__law_size = mkFn 3 S__law_size := Classical.choose_spec q__law_size
def S__law_case : SF :=
  sSeq (sAsg (eIf (tBo (eOp eqD (eUser 2 (m__law_roll) (cR 0 (cD (eC (.int 4)) (cNil)))) (eC (.int 0)))) (eUser 1 (m__law_large) (cR 0 (cNil))) (eUser 2 (m__law_computad) (cR 0 (cD (eUser 2 (m__law_some) (cR 0 (cD (eLst (aCons (eC (.int 0)) (aCons (eC (.int 0)) (aCons (eC (.int 1)) (aNil))))) (cNil)))) (cNil))))) (setD 1)) (sRet (eTup (aCons (eVar 1) (aCons (eUser 4 (m__law_diagram) (cR 0 (cD (eVar 1) (cD (eUser 2 (m__law_some) (cR 0 (cD (eLst (aCons (eC (.int 0)) (aCons (eC (.int 3)) (aCons (eC (.int 6)) (aCons (eC (.int 12)) (aNil)))))) (cNil)))) (cD (eUser 2 (m__law_some) (cR 0 (cD (eLst (aCons (eC (.int 0)) (aCons (eC (.int 2)) (aCons (eC (.int 5)) (aCons (eC (.int 9)) (aCons (eC (.int 20)) (aNil))))))) (cNil)))) (cNil)))))) (aNil)))))
theorem q__law_case : ∃ F : Fn, F = mkFn 2 S__law_case := ⟨_, rfl⟩
noncomputable def m__law_case : Fn := Classical.choose q__law_case
theorem m__law_case_eq : m__law_case = mkFn 2 S__law_case := Classical.choose_spec q__law_case
def S__law_is_path : SF :=
  sSeq (sIf (tOr' (tNo (tOf (eIsi "tuple" (eVar 1)))) (tOr' (tBo (eOp neD (eCall lenD (aCons (eVar 1) (aNil))) (eC (.int 2)))) (tOr' (tNo (tOf (eIsi "str" (eOp ixD (eVar 1) (eC (.int 0)))))) (tBo (eOp ninD (eOp ixD (eVar 1) (eC (.int 0))) (eOp ixD (eVar 0) (eC (.int 0)))))))) (sRet (eC (.bool false))) (sNx)) (sSeq (sIf (tOr' (tNo (tOf (eIsi "tuple" (eOp ixD (eVar 1) (eC (.int 1)))))) (tBo (eOp gtD (eCall lenD (aCons (eOp ixD (eVar 1) (eC (.int 1))) (aNil))) (eC (.int 400))))) (sRet (eC (.bool false))) (sNx)) (sSeq (sAsg (eOp ixD (eVar 1) (eC (.int 0))) (setD 2)) (sSeq (sFor (iAny (eOp ixD (eVar 1) (eC (.int 1)))) (setD 3) (sSeq (sAsg (eLc (iAny (eOp ixD (eVar 0) (eC (.int 1)))) (setD 5) (tAn (tOf (eIsi "str" (eVar 3))) (tAn (tBo (eOp eqD (eOp ixD (eVar 5) (eC (.int 0))) (eVar 3))) (tBo (eOp eqD (eOp ixD (eVar 5) (eC (.int 1))) (eVar 2))))) (eVar 5) [5]) (setD 4)) (sSeq (sIf (tBo (eOp eqD (eVar 4) (eLst (aNil)))) (sRet (eC (.bool false))) (sNx)) (sAsg (eOp ixD (eOp ixD (eVar 4) (eC (.int 0))) (eC (.int 2))) (setD 2))))) (sRet (eC (.bool true))))))
theorem q__law_is_path : ∃ F : Fn, F = mkFn 6 S__law_is_path := ⟨_, rfl⟩
noncomputable def m__law_is_path : Fn := Classical.choose q__law_is_path
theorem m__law_is_path_eq : m__law_is_path = mkFn 6 S__law_is_path := Classical.choose_spec q__law_is_path
def S__law_is_layer : SF :=
  sSeq (sIf (tOr' (tNo (tOf (eIsi "tuple" (eVar 2)))) (tOr' (tBo (eOp neD (eCall lenD (aCons (eVar 2) (aNil))) (eC (.int 2)))) (tOr' (tOf (eIsi "bool" (eOp ixD (eVar 2) (eC (.int 0))))) (tNo (tOf (eIsi "int" (eOp ixD (eVar 2) (eC (.int 0))))))))) (sRet (eC (.bool false))) (sNx)) (sSeq (sAsg (eLc (iAny (eOp ixD (eVar 0) (eC (.int 2)))) (setD 9) (tAn (tOf (eIsi "str" (eOp ixD (eVar 2) (eC (.int 1))))) (tBo (eOp eqD (eOp ixD (eVar 9) (eC (.int 0))) (eOp ixD (eVar 2) (eC (.int 1)))))) (eVar 9) [9]) (setD 3)) (sSeq (sIf (tOr' (tBo (eOp eqD (eVar 3) (eLst (aNil)))) (tNo (tBo (eCh leD leD (eC (.int 0)) (eOp ixD (eVar 2) (eC (.int 0))) (eCall lenD (aCons (eOp ixD (eVar 1) (eC (.int 1))) (aNil))))))) (sRet (eC (.bool false))) (sNx)) (sSeq (sAsg (eTup (aCons (eOp ixD (eVar 2) (eC (.int 0))) (aCons (eOp ixD (eVar 3) (eC (.int 0))) (aNil)))) (gTupD 2 (gsCons (setD 4) (gsCons (gTupD 4 (gsCons (setD 5) (gsCons (setD 6) (gsCons (setD 7) (gsCons (setD 8) (gsNil)))))) (gsNil))))) (sRet (eAn (eOp eqD (eOp ixD (eUser 3 (m__law_along) (cD (eOp ixD (eVar 0) (eC (.int 1))) (cD (eOp ixD (eVar 1) (eC (.int 0))) (cD (eSl (eOp ixD (eVar 1) (eC (.int 1))) (oNo) (oSome (eVar 4))) (cNil))))) (eUn negD (eC (.int 1)))) (eVar 6)) (eOp eqD (eSl (eOp ixD (eVar 1) (eC (.int 1))) (oSome (eVar 4)) (oSome (eOp addD (eVar 4) (eCall lenD (aCons (eVar 7) (aNil)))))) (eVar 7)))))))
theorem q__law_is_layer : ∃ F : Fn, F = mkFn 10 S__law_is_layer := ⟨_, rfl⟩
noncomputable def m__law_is_layer : Fn := Classical.choose q__law_is_layer
theorem m__law_is_layer_eq : m__law_is_layer = mkFn 10 S__law_is_layer := Classical.choose_spec q__law_is_layer
def S__law_is_diagram : SF :=
  sSeq (sIf (tOr' (tNo (tOf (eIsi "tuple" (eVar 1)))) (tOr' (tBo (eOp neD (eCall lenD (aCons (eVar 1) (aNil))) (eC (.int 2)))) (tNo (tOf (eUser 2 (m__law_is_path) (cD (eVar 0) (cD (eOp ixD (eVar 1) (eC (.int 0))) (cNil)))))))) (sRet (eC (.bool false))) (sNx)) (sSeq (sIf (tOr' (tNo (tOf (eIsi "tuple" (eOp ixD (eVar 1) (eC (.int 1)))))) (tBo (eOp gtD (eCall lenD (aCons (eOp ixD (eVar 1) (eC (.int 1))) (aNil))) (eC (.int 200))))) (sRet (eC (.bool false))) (sNx)) (sSeq (sAsg (eOp ixD (eVar 1) (eC (.int 0))) (setD 2)) (sSeq (sFor (iAny (eOp ixD (eVar 1) (eC (.int 1)))) (setD 3) (sSeq (sIf (tNo (tOf (eUser 3 (m__law_is_layer) (cD (eVar 0) (cD (eVar 2) (cD (eVar 3) (cNil))))))) (sRet (eC (.bool false))) (sNx)) (sAsg (eUser 3 (m__law_after) (cD (eVar 0) (cD (eVar 2) (cD (eVar 3) (cNil))))) (setD 2)))) (sRet (eOp leD (eUser 2 (m__law_size) (cD (eVar 0) (cD (eVar 1) (cNil)))) (eC (.int 400)))))))
theorem q__law_is_diagram : ∃ F : Fn, F = mkFn 4 S__law_is_diagram := ⟨_, rfl⟩
noncomputable def m__law_is_diagram : Fn := Classical.choose q__law_is_diagram
theorem m__law_is_diagram_eq : m__law_is_diagram = mkFn 4 S__law_is_diagram := Classical.choose_spec q__law_is_diagram
end
end Pd
end

section
/-! Pd: range(a, b, -1). -/
namespace Pd
open PySem L2 Evl
def rgDn (i j : Int) : List D := (List.range (i - j).toNat).map fun (k : Nat) => .int (i + (k : Int) * (-1))
@[simp] def iR3n (f g h : EF) : AF := fun ρ => f ρ >>= fun a => g a.2 >>= fun b => h b.2 >>= fun c => match a.1, b.1, c.1 with
  | .int i, .int j, .int k => if (smallI i && smallI j) = true ∧ k = -1 then .ok (rgDn i j, c.2) else .bad
  | _, _, _ => .bad
theorem wk_rangeC {K : Fg} {G : Hp} {lo c : Int} {n : Nat} : Wk K G ((List.range n).map fun (k : Nat) => .int (lo + (k : Int) * c)) (Itc lo c n) where
  go := fun i d H G' e1 e2 q => by
    rw [List.getElem?_map] at q
    cases z : (List.range n)[i]? with
    | none => rw [z] at q; cases q
    | some c =>
      rw [z] at q
      cases q
      obtain ⟨hi, hc⟩ := List.getElem?_eq_some_iff.mp z
      simp at hi hc
      subst hc
      refine ⟨hi, fun v H' y => ?_⟩
      obtain ⟨rfl, rfl⟩ := y
      exact ⟨G', Stp.refl, e2, .int _⟩
  stop := fun i H G' e1 e2 q => by
    show n ≤ i
    simpa using q
section
variable {X : Cx} {W : WX}
theorem id_r3n {tg a b c : Expr} {f g h : EF} {p pos : Pos} (hg : Gl X "range") (hm : X.mg "range" = none) (hs : starEach [a, b, c] X.env = (false, eval a X.env) :: starEach [b, c] X.env := by rfl) (hs2 : starEach [b, c] X.env = (false, eval b X.env) :: starEach [c] X.env := by rfl) (hs3 : starEach [c] X.env = (false, eval c X.env) :: starEach [] X.env := by rfl) (hpl : (backTo pos (starEach [b, c] X.env)).any (·.1) = false := by rfl) :
    ED X W a f → ED X W b g → ED X W c h → ID X W tg (.Call (.Name "range" p) [a, b, c] [] pos) (iR3n f g h)
  | ⟨_, q, r⟩, ⟨_, q2, r2⟩, ⟨_, q3, r3⟩ => ⟨_, pi_range3 hg hm (pa_cons q (pa_cons q2 (pa_cons q3 pa_nil hs3) hs2) hs) hs hpl, fun G H σ ρ R a h => r.use a (P := QI X.K R) h fun d ρ1 v G1 H1 a1 af1 at1 h1 =>
    r2.use a1 (P := QI X.K R) h1 fun d2 ρ2 v2 G2 H2 a2 af2 at2 h2 => r3.use a2 (P := QI X.K R) h2 fun d3 ρ3 v3 G3 H3 a3 af3 at3 h3 => by
      cases at1 with
      | int i =>
        cases at2 with
        | int j =>
          cases at3 with
          | int k =>
            by_cases c : (smallI i && smallI j) = true ∧ k = -1
            · simp only [if_pos c] at h3
              obtain ⟨c1, c2⟩ := c
              subst c2
              obtain ⟨c1, c3⟩ := Bool.and_eq_true_iff.mp c1
              exact ⟨i, j, -1, (i - j).toNat, rfl, RgC.neg (smallI.ok c1).1 (smallI.ok c1).2 (smallI.ok c3).1 (smallI.ok c3).2, Wh.here (P := QI X.K R) h3 a3 _ wk_rangeC⟩
            · simp only [if_neg c] at h3
              exact h3.elim
          | _ => exact h3.elim
        | _ => exact h3.elim
      | _ => exact h3.elim⟩
end
end Pd
end

section
/-! Pd: x[::-1] of lists and tuples. -/
namespace Pd
open PySem PySem.Spec PySem.W PyProof.Rows L2 Evl HT
section
variable {prog : Program} {w : World} {A : Around} {E : Value → Shared → Prop} {s : Shared}
theorem sliceApplied_rev {sl : Addr} {vl vu vs : Value} {n : Nat} {Q : Int × Int × Nat → Shared → Prop} (hs : s.heap.IsSliceOf sl vl vu vs) (pl : IsPart vl none) (pu : IsPart vu none) (ps : IsPart vs (some (-1)))
    (h : Q ((n : Int) - 1, -1, n) s) : wpAny (model prog w) A (Builtin.Slice.sliceApplied (.ref sl) (pure (n : Int))) Q E s := by
  obtain ⟨os, hos, hcs, hds⟩ := id hs
  unfold Builtin.Slice.sliceApplied Builtin.Slice.sliceFields
  refine wpAny_bind (wpAny_bind (wpAny_field hos hds (x := vl) rfl (wpAny_bind (wpAny_field hos hds (x := vu) rfl (wpAny_bind (wpAny_field hos hds (x := vs) rfl (wpAny_pure ?_)))))))
  refine wpAny_bind (slicePart_ ps ?_)
  show wpAny _ _ (if ((-1 : Int) == 0) = true then _ else _) _ _ s
  rw [if_neg (by decide)]
  refine wpAny_bind (slicePart_ pl (wpAny_bind (slicePart_ pu (wpAny_bind (wpAny_pure ?_)))))
  have e : Builtin.Slice.slicePlaces ((n : Int) - 1) (-1) (-1) = n := by
    unfold Builtin.Slice.slicePlaces
    have h1 : ¬ ((-1 : Int) > 0) := by decide
    simp only [h1, if_false]
    by_cases h : (n : Int) - 1 > -1
    · rw [if_pos h, show (-(-1) : Int) = 1 by decide, Int.ediv_one]
      omega
    · rw [if_neg h]
      omega
  show wpAny _ _ (pure ((n : Int) - 1, (-1 : Int), Builtin.Slice.slicePlaces ((n : Int) - 1) (-1) (-1))) _ _ s
  rw [e]
  exact wpAny_pure h
theorem fm_congr {α β : Type} {f g : α → Option β} : ∀ {l : List α}, (∀ a ∈ l, f a = g a) → l.filterMap f = l.filterMap g
  | [], _ => rfl
  | a :: l, h => by
    rw [List.filterMap_cons, List.filterMap_cons, h a (List.mem_cons_self ..), fm_congr fun b hb => h b (List.mem_cons_of_mem _ hb)]
theorem pick_rev (xs : Array Value) : ((List.range xs.size).filterMap fun (m : Nat) => xs[(((xs.size : Int) - 1) + (m : Int) * (-1)).toNat]?).toArray = xs.toList.reverse.toArray := by
  rw [← krv_all, ← List.filterMap_reverse, ← krv_range, List.filterMap_map]
  congr 1
  refine fm_congr fun k hk => ?_
  have := List.mem_range.mp hk
  have e : (((xs.size : Int) - 1) + (k : Int) * (-1)).toNat = xs.size - 1 - k := by omega
  rw [e]
  rfl
theorem getItem_tuple_rev {t sl : Addr} {items : Array Value} {vl vu vs : Value} {Q : Value → Shared → Prop} (ht : IsTup s.heap t items) (hs : s.heap.IsSliceOf sl vl vu vs) (pl : IsPart vl none) (pu : IsPart vu none) (ps : IsPart vs (some (-1)))
    (h : Q (.ref s.heap.objs.size) { s with heap := s.heap.push { cls := .type "tuple", data := .seq items.toList.reverse.toArray } })
    (hsz : items.size ≤ sizeLine) : wpAny (model prog w) A (getItem (.ref t) (.ref sl)) Q E s := by
  have htake : sizeOk (.seq items.toList.reverse.toArray) := by
    show items.toList.reverse.toArray.size ≤ sizeLine
    rw [List.size_toArray, List.length_reverse, Array.length_toList]
    exact hsz
  obtain ⟨os, hos, hcs, hds⟩ := id hs
  have hTs : s.TypeIs (.ref sl) "slice" := ⟨os, hos, hcs⟩
  unfold getItem
  try with_reducible refine wpAny_holding ?_
  first | refine wpAny_bind (wpAny_pure ?_) | skip
  refine wpAny_bind (wpAny_sequenceKey ht.typeIs (by decide) ?_)
  refine wpAny_bind (wpAny_callSpecial?_slot (name := Str.ofString "__getitem__") ht.typeIs PyProof.Rows.slot_tuple_getitem
    (wpAny_call_entry PyProof.Rows.slot_tuple_getitem ht.typeIs entry_tuple_getitem ?_ (args_tuple_getitem _ _)))
  show wpAny _ _ (Builtin.Tuple.tupleItemsOf (.ref t) >>= _) _ _ s
  refine wpAny_bind (tupleItemsOf_ ht ?_)
  refine wpAny_bind (wpAny_typeOf hTs ?_)
  rw [if_pos (by decide)]
  refine wpAny_bind (sliceApplied_rev hs pl pu ps ?_)
  have hno : ¬ ((((items.size : Int) - 1) == 0 && (-1 : Int) == 1 && items.size == items.size) = true) := by
    intro q
    rw [Bool.and_eq_true, Bool.and_eq_true] at q
    exact absurd q.1.2 (by decide)
  show wpAny _ _ (if (((items.size : Int) - 1) == 0 && (-1 : Int) == 1 && items.size == items.size) = true then _ else _) _ _ s
  rw [if_neg hno, pick_rev]
  first
    | exact wpAny_bind (m := Builtin.Tuple.tupleExact _) (wpAny_newObj_type (wpAny_pure ⟨_, rfl, wpAny_pure h⟩) htake)
    | exact wpAny_bind (m := Builtin.Tuple.tupleExact _) (wpAny_newObj_type (wpAny_bind (wpAny_pure (wpAny_pure ⟨_, rfl, wpAny_pure h⟩))) htake)
    | exact wpAny_bind (wpAny_bind (m := Builtin.Tuple.tupleExact _) (wpAny_newObj_type (wpAny_pure (wpAny_pure ⟨_, rfl, wpAny_pure h⟩)) htake))
    | exact wpAny_bind (wpAny_bind (m := Builtin.Tuple.tupleExact _) (wpAny_newObj_type (wpAny_pure ⟨_, rfl, wpAny_pure h⟩) htake))
end
section
variable {X : Cx} {W : WX}
def tRevA (K : PySem.W.Frag) (te : TE) : TE := fun σ H Q => te σ H fun x H1 => (∃ a xs, x = .ref a ∧ SqL K H1 a xs ∧ ∀ p, H1 p = none → Q (.ref p) (upd H1 p (.lst xs.reverse))) ∨ ∃ a xs, x = .ref a ∧ SqT K H1 a xs ∧ ∀ p, H1 p = none → Q (.ref p) (upd H1 p (.tup xs.reverse))
theorem pe_revA {e : Expr} {te : TE} {k : Nat} {p1 p2 p3 pos : Pos} (he : PE X e te) : PE X (.Subscript e (.Slice none none (some (.UnaryOp .USub (.Constant (.int 1) k p1) p2)) p3) pos) (tRevA X.K te) := by
  refine ⟨fun pins s σ H Q I h => ?_⟩
  refine Subscript_ (thn (he.run pins s σ H _ I h) fun v s1 ⟨x, H1, I1, r1, q1⟩ => ?_)
  have hst : PO X (some (.UnaryOp .USub (.Constant (.int 1) k p1) p2)) (tPart (tUn (rU fun i => .int (-i)) (tC (.int 1)))) := po_some (pe_un un_neg pe_int)
  refine wpAny_Slice (thn (po_none.run pins s1 σ H1 (fun o H2 => o = none ∧ H2 = H1) I1 ⟨rfl, rfl⟩) fun vl s2 ⟨l, H2, I2, pl, el, e2⟩ => ?_)
  subst el e2
  refine thn (po_none.run pins s2 σ H2 (fun o H3 => o = none ∧ H3 = H2) I2 ⟨rfl, rfl⟩) fun vu s3 ⟨u, H3, I3, pu, eu, e3⟩ => ?_
  subst eu e3
  refine thn (hst.run pins s3 σ H3 (fun o H4 => o = some (-1) ∧ H4 = H3) I3 ⟨1, rfl, -1, rfl, rfl, rfl⟩) fun vs s4 ⟨o, H4, I4, ps, eo, e4⟩ => ?_
  subst eo e4
  have I5 : Inv X pins σ H4 { s4 with heap := s4.heap.push { cls := .type "slice", data := .fields #[vl, vu, vs] } } := I4.kept (t' := s4.toks) fun b ob q => Heap.get?_push_of_some _ q
  rcases q1 with ⟨a, xs, ex, hx, q⟩ | ⟨a, xs, ex, hx, q⟩
  · subst ex
    cases r1
    obtain ⟨its, r, ht, hz⟩ := I5.list hx
    have hlen := r.length
    show wpAny (model X.prog X.w) X.A (subscriptTail e (.Slice none none (some (.UnaryOp .USub (.Constant (.int 1) k p1) p2)) p3) (.ref a) (.ref s4.heap.objs.size)) (EP X pins σ Q) X.xe { s4 with heap := s4.heap.push { cls := .type "slice", data := .fields #[vl, vu, vs] } }
    refine tail_any (ops := [.ref a, .ref s4.heap.objs.size]) ht.isList.typeIs (PySem.slot_list_getitem.lookup) ?_ (by with_unfolding_all rfl)
    refine wpAny_getItem_list_slice ht.isList (Heap.IsSliceOf.new _ vl vu vs) pl pu ps (by decide) ?_ (by rw [List.size_toArray]; omega)
    rw [PySem.W.krv_pick]
    refine ⟨.ref _, _, I5.laid (t' := s4.toks) (o := .lst xs.reverse) (fun b ob q => Heap.get?_push_of_some _ q) (Nat.le_refl _) ?_, rfl, q _ (I5.hok.fresh (Nat.le_refl _))⟩
    exact ⟨by rw [List.length_reverse]; exact hz, _, 0, r.reverse, Heap.get?_push_size _ rfl⟩
  · subst ex
    cases r1
    obtain ⟨its, r, ht, hz⟩ := I5.tuple hx
    have hlen : its.toArray.size = xs.length := by rw [List.size_toArray]; exact r.length.symm
    show wpAny (model X.prog X.w) X.A (subscriptTail e (.Slice none none (some (.UnaryOp .USub (.Constant (.int 1) k p1) p2)) p3) (.ref a) (.ref s4.heap.objs.size)) (EP X pins σ Q) X.xe { s4 with heap := s4.heap.push { cls := .type "slice", data := .fields #[vl, vu, vs] } }
    refine tail_any (ops := [.ref a, .ref s4.heap.objs.size]) ht.typeIs (PyProof.Rows.slot_tuple_getitem.lookup) ?_ (by with_unfolding_all rfl)
    refine getItem_tuple_rev ht (Heap.IsSliceOf.new _ vl vu vs) pl pu ps ?_ (by rw [hlen]; exact hz)
    refine ⟨.ref _, _, I5.laid (t' := s4.toks) (o := .tup xs.reverse) (fun b ob q => Heap.get?_push_of_some _ q) (Nat.le_refl _) ?_, rfl, q _ (I5.hok.fresh (Nat.le_refl _))⟩
    exact ⟨by rw [List.length_reverse]; exact hz, _, r.reverse, IsTup.new _ _⟩
def revD : D → Option D
  | .list xs => some (.list xs.reverse)
  | .tuple xs => some (.tuple xs.reverse)
  | _ => none
@[simp] theorem revD_l (xs : List D) : revD (.list xs) = some (.list xs.reverse) := rfl
@[simp] theorem revD_t (xs : List D) : revD (.tuple xs) = some (.tuple xs.reverse) := rfl
@[simp] def eRev (f : EF) : EF := fun ρ => f ρ >>= fun r => li (revD r.1) >>= fun d => .ok (d, r.2)
theorem ed_rev {e : Expr} {f : EF} {k : Nat} {p1 p2 p3 pos : Pos} : ED X W e f → ED X W (.Subscript e (.Slice none none (some (.UnaryOp .USub (.Constant (.int 1) k p1) p2)) p3) pos) (eRev f)
  | ⟨_, p, r⟩ => ⟨_, pe_revA p, fun G H σ ρ Q a h => r.use a (P := QE X.K Q) h fun d ρ1 v G1 H1 a1 af1 at1 h1 => by
    have h2 := h1.pw a1
    cases at1 with
    | lst g1 g2 => exact .inl ⟨_, _, rfl, sq_of (a1.ex _ _ g1), h2.lst a1.ex g2.reverse⟩
    | tup g1 g2 => exact .inr ⟨_, _, rfl, ex_t a1.ex g1, h2.tup a1.ex g2.reverse⟩
    | _ => exact h2.elim⟩
theorem erev {f : EF} {ρ ρ1 : List Sl} {x d : D} (h : f ρ = .ok (x, ρ1)) (h2 : revD x = some d) : eRev f ρ = .ok (d, ρ1) := by
  simp only [eRev, h, bind_ok, h2, li]
end
end Pd
end

section
/-! Pd: the mirrors of pasting and duals, and of the laws own ones (printed by gen.py, mir.py). -/
namespace Pd
open PySem L2
noncomputable section
def S_points_along : SF :=
  sRet (eCall tupOf (aCons (eUser 3 (m_chained_points) (cD (eOp ixD (eVar 0) (eC (.int 1))) (cD (eOp ixD (eVar 1) (eC (.int 0))) (cD (eOp ixD (eVar 1) (eC (.int 1))) (cNil))))) (aNil)))
theorem q_points_along : ∃ F : Fn, F = mkFn 2 S_points_along := ⟨_, rfl⟩
noncomputable def m_points_along : Fn := Classical.choose q_points_along
theorem m_points_along_eq : m_points_along = mkFn 2 S_points_along := Classical.choose_spec q_points_along
def S_limited : SF :=
  sSeq (sIf (tBo (eOp gtD (eCall lenD (aCons (eOp ixD (eVar 1) (eC (.int 1))) (aNil))) (eC (.int 200)))) (sNever) (sNx)) (sSeq (sIf (tBo (eOp gtD (eUser 2 (m_size_in) (cD (eVar 0) (cD (eVar 1) (cNil)))) (eC (.int 400)))) (sNever) (sNx)) (sRet (eVar 1)))
theorem q_limited : ∃ F : Fn, F = mkFn 2 S_limited := ⟨_, rfl⟩
noncomputable def m_limited : Fn := Classical.choose q_limited
theorem m_limited_eq : m_limited = mkFn 2 S_limited := Classical.choose_spec q_limited
def S_end_of : SF :=
  sRet (eOp ixD (eUser 2 (m_points_along) (cD (eVar 0) (cD (eVar 1) (cNil)))) (eUn negD (eC (.int 1))))
theorem q_end_of : ∃ F : Fn, F = mkFn 2 S_end_of := ⟨_, rfl⟩
noncomputable def m_end_of : Fn := Classical.choose q_end_of
theorem m_end_of_eq : m_end_of = mkFn 2 S_end_of := Classical.choose_spec q_end_of
def S_shifted : SF :=
  sRet (eCall tupOf (aCons (eLc (iAny (eVar 0)) (gTupD 2 (gsCons (setD 2) (gsCons (setD 3) (gsNil)))) (tYs) (eTup (aCons (eOp addD (eVar 2) (eVar 1)) (aCons (eVar 3) (aNil)))) [2, 3]) (aNil)))
theorem q_shifted : ∃ F : Fn, F = mkFn 4 S_shifted := ⟨_, rfl⟩
noncomputable def m_shifted : Fn := Classical.choose q_shifted
theorem m_shifted_eq : m_shifted = mkFn 4 S_shifted := Classical.choose_spec q_shifted
def S_vertical : SF :=
  sSeq (sDrop (eUser 2 (m_need_diagram) (cD (eVar 0) (cD (eVar 1) (cNil))))) (sSeq (sDrop (eUser 2 (m_need_diagram) (cD (eVar 0) (cD (eVar 2) (cNil))))) (sSeq (sIf (tBo (eOp neD (eOp ixD (eUser 2 (m_paths_in) (cD (eVar 0) (cD (eVar 1) (cNil)))) (eUn negD (eC (.int 1)))) (eOp ixD (eVar 2) (eC (.int 0))))) (sRaise "NotComposable") (sNx)) (sRet (eUser 2 (m_limited) (cD (eVar 0) (cD (eTup (aCons (eOp ixD (eVar 1) (eC (.int 0))) (aCons (eOp addD (eOp ixD (eVar 1) (eC (.int 1))) (eOp ixD (eVar 2) (eC (.int 1)))) (aNil)))) (cNil)))))))
theorem q_vertical : ∃ F : Fn, F = mkFn 3 S_vertical := ⟨_, rfl⟩
noncomputable def m_vertical : Fn := Classical.choose q_vertical
theorem m_vertical_eq : m_vertical = mkFn 3 S_vertical := Classical.choose_spec q_vertical
def S_whisker : SF :=
  sSeq (sDrop (eUser 2 (m_need_path) (cD (eVar 0) (cD (eVar 1) (cNil))))) (sSeq (sDrop (eUser 2 (m_need_diagram) (cD (eVar 0) (cD (eVar 2) (cNil))))) (sSeq (sDrop (eUser 2 (m_need_path) (cD (eVar 0) (cD (eVar 3) (cNil))))) (sSeq (sAsg (eOp ixD (eVar 2) (eC (.int 0))) (setD 4)) (sSeq (sIf (tOr' (tBo (eOp neD (eUser 2 (m_end_of) (cD (eVar 0) (cD (eVar 1) (cNil)))) (eOp ixD (eVar 4) (eC (.int 0))))) (tBo (eOp neD (eUser 2 (m_end_of) (cD (eVar 0) (cD (eVar 4) (cNil)))) (eOp ixD (eVar 3) (eC (.int 0)))))) (sRaise "NotComposable") (sNx)) (sSeq (sAsg (eTup (aCons (eOp ixD (eVar 1) (eC (.int 0))) (aCons (eOp addD (eOp addD (eOp ixD (eVar 1) (eC (.int 1))) (eOp ixD (eVar 4) (eC (.int 1)))) (eOp ixD (eVar 3) (eC (.int 1)))) (aNil)))) (setD 5)) (sRet (eUser 2 (m_limited) (cD (eVar 0) (cD (eTup (aCons (eVar 5) (aCons (eUser 2 (m_shifted) (cD (eOp ixD (eVar 2) (eC (.int 1))) (cD (eCall lenD (aCons (eOp ixD (eVar 1) (eC (.int 1))) (aNil))) (cNil)))) (aNil)))) (cNil))))))))))
theorem q_whisker : ∃ F : Fn, F = mkFn 6 S_whisker := ⟨_, rfl⟩
noncomputable def m_whisker : Fn := Classical.choose q_whisker
theorem m_whisker_eq : m_whisker = mkFn 6 S_whisker := Classical.choose_spec q_whisker
def S_horizontal : SF :=
  sSeq (sDrop (eUser 2 (m_need_diagram) (cD (eVar 0) (cD (eVar 1) (cNil))))) (sSeq (sDrop (eUser 2 (m_need_diagram) (cD (eVar 0) (cD (eVar 2) (cNil))))) (sSeq (sIf (tOr' (tNo (tOf (eIsi "str" (eVar 3)))) (tBo (eOp ninD (eVar 3) (eTup (aCons (eC (.str "left")) (aCons (eC (.str "right")) (aNil))))))) (sRaise "InvalidSide") (sNx)) (sSeq (sPar 4 5 (eOp ixD (eVar 1) (eC (.int 0))) (eOp ixD (eVar 2) (eC (.int 0)))) (sSeq (sIf (tBo (eOp neD (eUser 2 (m_end_of) (cD (eVar 0) (cD (eVar 4) (cNil)))) (eOp ixD (eVar 5) (eC (.int 0))))) (sRaise "NotComposable") (sNx)) (sSeq (sIf (tBo (eOp eqD (eVar 3) (eC (.str "left")))) (sAsg (eOp addD (eOp ixD (eVar 1) (eC (.int 1))) (eUser 2 (m_shifted) (cD (eOp ixD (eVar 2) (eC (.int 1))) (cD (eCall lenD (aCons (eOp ixD (eOp ixD (eUser 2 (m_paths_in) (cD (eVar 0) (cD (eVar 1) (cNil)))) (eUn negD (eC (.int 1)))) (eC (.int 1))) (aNil))) (cNil))))) (setD 6)) (sAsg (eOp addD (eUser 2 (m_shifted) (cD (eOp ixD (eVar 2) (eC (.int 1))) (cD (eCall lenD (aCons (eOp ixD (eVar 4) (eC (.int 1))) (aNil))) (cNil)))) (eOp ixD (eVar 1) (eC (.int 1)))) (setD 6))) (sRet (eUser 2 (m_limited) (cD (eVar 0) (cD (eTup (aCons (eTup (aCons (eOp ixD (eVar 4) (eC (.int 0))) (aCons (eOp addD (eOp ixD (eVar 4) (eC (.int 1))) (eOp ixD (eVar 5) (eC (.int 1)))) (aNil)))) (aCons (eVar 6) (aNil)))) (cNil))))))))))
theorem q_horizontal : ∃ F : Fn, F = mkFn 7 S_horizontal := ⟨_, rfl⟩
noncomputable def m_horizontal : Fn := Classical.choose q_horizontal
theorem m_horizontal_eq : m_horizontal = mkFn 7 S_horizontal := Classical.choose_spec q_horizontal
def S_mirrored_path : SF :=
  sRet (eTup (aCons (eOp ixD (eUser 2 (m_points_along) (cD (eVar 0) (cD (eVar 1) (cNil)))) (eUn negD (eC (.int 1)))) (aCons (eRev (eOp ixD (eVar 1) (eC (.int 1)))) (aNil))))
theorem q_mirrored_path : ∃ F : Fn, F = mkFn 2 S_mirrored_path := ⟨_, rfl⟩
noncomputable def m_mirrored_path : Fn := Classical.choose q_mirrored_path
theorem m_mirrored_path_eq : m_mirrored_path = mkFn 2 S_mirrored_path := Classical.choose_spec q_mirrored_path
def S_flip_diagram : SF :=
  sSeq (sDrop (eUser 2 (m_need_diagram) (cD (eVar 0) (cD (eVar 1) (cNil))))) (sRet (eTup (aCons (eOp ixD (eUser 2 (m_paths_in) (cD (eVar 0) (cD (eVar 1) (cNil)))) (eUn negD (eC (.int 1)))) (aCons (eRev (eOp ixD (eVar 1) (eC (.int 1)))) (aNil)))))
theorem q_flip_diagram : ∃ F : Fn, F = mkFn 2 S_flip_diagram := ⟨_, rfl⟩
noncomputable def m_flip_diagram : Fn := Classical.choose q_flip_diagram
theorem m_flip_diagram_eq : m_flip_diagram = mkFn 2 S_flip_diagram := Classical.choose_spec q_flip_diagram
def S_mirror_diagram : SF :=
  sSeq (sDrop (eUser 2 (m_need_diagram) (cD (eVar 0) (cD (eVar 1) (cNil))))) (sSeq (sAsg (eTup (aNil)) (setD 2)) (sSeq (sFor (iZip2 (eUser 2 (m_paths_in) (cD (eVar 0) (cD (eVar 1) (cNil)))) (eOp ixD (eVar 1) (eC (.int 1)))) (gTupD 2 (gsCons (setD 3) (gsCons (gTupD 2 (gsCons (setD 4) (gsCons (setD 5) (gsNil)))) (gsNil)))) (sAsg (eOp addD (eVar 2) (eTup (aCons (eTup (aCons (eOp subD (eOp subD (eCall lenD (aCons (eOp ixD (eVar 3) (eC (.int 1))) (aNil))) (eVar 4)) (eOp ixD (eUser 2 (m_sides_of) (cD (eVar 0) (cD (eVar 5) (cNil)))) (eC (.int 0)))) (aCons (eVar 5) (aNil)))) (aNil)))) (setD 2))) (sRet (eTup (aCons (eUser 2 (m_mirrored_path) (cD (eVar 0) (cD (eOp ixD (eVar 1) (eC (.int 0))) (cNil)))) (aCons (eVar 2) (aNil)))))))
theorem q_mirror_diagram : ∃ F : Fn, F = mkFn 6 S_mirror_diagram := ⟨_, rfl⟩
noncomputable def m_mirror_diagram : Fn := Classical.choose q_mirror_diagram
theorem m_mirror_diagram_eq : m_mirror_diagram = mkFn 6 S_mirror_diagram := Classical.choose_spec q_mirror_diagram
def S__law_end : SF :=
  sRet (eOp ixD (eUser 3 (m__law_along) (cD (eOp ixD (eVar 0) (eC (.int 1))) (cD (eOp ixD (eVar 1) (eC (.int 0))) (cD (eOp ixD (eVar 1) (eC (.int 1))) (cNil))))) (eUn negD (eC (.int 1))))
theorem q__law_end : ∃ F : Fn, F = mkFn 2 S__law_end := ⟨_, rfl⟩
noncomputable def m__law_end : Fn := Classical.choose q__law_end
theorem m__law_end_eq : m__law_end = mkFn 2 S__law_end := Classical.choose_spec q__law_end
def S__law_back : SF :=
  sSeq (sAsg (eTup (aCons (eTup (aNil)) (aCons (eVar 2) (aNil)))) (gTupD 2 (gsCons (setD 4) (gsCons (setD 5) (gsNil))))) (sSeq (sFor (iR1 (eUser 2 (m__law_roll) (cR 0 (cD (eOp addD (eVar 3) (eC (.int 1))) (cNil))))) (setD 6) (sSeq (sAsg (eLc (iAny (eVar 1)) (setD 8) (tBo (eOp eqD (eOp ixD (eVar 8) (eC (.int 2))) (eVar 5))) (eVar 8) [8]) (setD 7)) (sIf (tBo (eOp neD (eVar 7) (eLst (aNil)))) (sSeq (sAsg (eUser 2 (m__law_some) (cR 0 (cD (eVar 7) (cNil)))) (setD 8)) (sAsg (eTup (aCons (eOp addD (eTup (aCons (eOp ixD (eVar 8) (eC (.int 0))) (aNil))) (eVar 4)) (aCons (eOp ixD (eVar 8) (eC (.int 1))) (aNil)))) (gTupD 2 (gsCons (setD 4) (gsCons (setD 5) (gsNil)))))) (sNx)))) (sRet (eTup (aCons (eVar 5) (aCons (eVar 4) (aNil))))))
theorem q__law_back : ∃ F : Fn, F = mkFn 9 S__law_back := ⟨_, rfl⟩
noncomputable def m__law_back : Fn := Classical.choose q__law_back
theorem m__law_back_eq : m__law_back = mkFn 9 S__law_back := Classical.choose_spec q__law_back
def S__law_moved : SF :=
  sSeq (sAsg (eVar 2) (gTupD 2 (gsCons (setD 3) (gsCons (setD 4) (gsNil))))) (sSeq (sAsg (eTup (aCons (eOp ixD (eVar 1) (eVar 3)) (aCons (eOp ixD (eVar 1) (eOp addD (eVar 3) (eC (.int 1)))) (aNil)))) (gTupD 2 (gsCons (gTupD 2 (gsCons (setD 5) (gsCons (setD 6) (gsNil)))) (gsCons (gTupD 2 (gsCons (setD 7) (gsCons (setD 8) (gsNil)))) (gsNil))))) (sSeq (sAsg (eUser 2 (m__law_sides) (cD (eVar 0) (cD (eOp ixD (eVar 1) (eVar 3)) (cNil)))) (gTupD 2 (gsCons (setD 9) (gsCons (setD 10) (gsNil))))) (sSeq (sAsg (eUser 2 (m__law_sides) (cD (eVar 0) (cD (eOp ixD (eVar 1) (eOp addD (eVar 3) (eC (.int 1)))) (cNil)))) (gTupD 2 (gsCons (setD 11) (gsCons (setD 12) (gsNil))))) (sSeq (sIf (tBo (eOp eqD (eVar 4) (eC (.str "right")))) (sRet (eOp addD (eOp addD (eSl (eVar 1) (oNo) (oSome (eVar 3))) (eTup (aCons (eTup (aCons (eOp addD (eOp subD (eVar 7) (eVar 10)) (eVar 9)) (aCons (eVar 8) (aNil)))) (aCons (eTup (aCons (eVar 5) (aCons (eVar 6) (aNil)))) (aNil))))) (eSl (eVar 1) (oSome (eOp addD (eVar 3) (eC (.int 2)))) (oNo)))) (sNx)) (sRet (eOp addD (eOp addD (eSl (eVar 1) (oNo) (oSome (eVar 3))) (eTup (aCons (eTup (aCons (eVar 7) (aCons (eVar 8) (aNil)))) (aCons (eTup (aCons (eOp subD (eOp addD (eVar 5) (eVar 12)) (eVar 11)) (aCons (eVar 6) (aNil)))) (aNil))))) (eSl (eVar 1) (oSome (eOp addD (eVar 3) (eC (.int 2)))) (oNo))))))))
theorem q__law_moved : ∃ F : Fn, F = mkFn 13 S__law_moved := ⟨_, rfl⟩
noncomputable def m__law_moved : Fn := Classical.choose q__law_moved
theorem m__law_moved_eq : m__law_moved = mkFn 13 S__law_moved := Classical.choose_spec q__law_moved
def S__law_due_whisker : SF :=
  sSeq (sAsg (eVar 2) (gTupD 2 (gsCons (setD 4) (gsCons (setD 5) (gsNil))))) (sSeq (sIf (tOr' (tBo (eOp neD (eUser 2 (m__law_end) (cD (eVar 0) (cD (eVar 1) (cNil)))) (eOp ixD (eVar 4) (eC (.int 0))))) (tBo (eOp neD (eUser 2 (m__law_end) (cD (eVar 0) (cD (eVar 4) (cNil)))) (eOp ixD (eVar 3) (eC (.int 0)))))) (sRet (eTup (aCons (eC (.str "error")) (aCons (eC (.str "composable")) (aCons (eC (.int 0)) (aNil)))))) (sNx)) (sSeq (sAsg (eTup (aCons (eOp ixD (eVar 1) (eC (.int 0))) (aCons (eOp addD (eOp addD (eOp ixD (eVar 1) (eC (.int 1))) (eOp ixD (eVar 4) (eC (.int 1)))) (eOp ixD (eVar 3) (eC (.int 1)))) (aNil)))) (setD 6)) (sRet (eTup (aCons (eVar 6) (aCons (eCall tupOf (aCons (eLc (iAny (eVar 5)) (gTupD 2 (gsCons (setD 7) (gsCons (setD 8) (gsNil)))) (tYs) (eTup (aCons (eOp addD (eVar 7) (eCall lenD (aCons (eOp ixD (eVar 1) (eC (.int 1))) (aNil)))) (aCons (eVar 8) (aNil)))) [7, 8]) (aNil))) (aNil)))))))
theorem q__law_due_whisker : ∃ F : Fn, F = mkFn 9 S__law_due_whisker := ⟨_, rfl⟩
noncomputable def m__law_due_whisker : Fn := Classical.choose q__law_due_whisker
theorem m__law_due_whisker_eq : m__law_due_whisker = mkFn 9 S__law_due_whisker := Classical.choose_spec q__law_due_whisker
def S__law_due_horizontal : SF :=
  sSeq (sIf (tBo (eOp neD (eUser 2 (m__law_end) (cD (eVar 0) (cD (eOp ixD (eVar 1) (eC (.int 0))) (cNil)))) (eOp ixD (eOp ixD (eVar 2) (eC (.int 0))) (eC (.int 0))))) (sRet (eTup (aCons (eC (.str "error")) (aCons (eC (.str "composable")) (aCons (eC (.int 0)) (aNil)))))) (sNx)) (sSeq (sPar 4 5 (eTup (aCons (eOp ixD (eOp ixD (eVar 1) (eC (.int 0))) (eC (.int 0))) (aCons (eTup (aNil)) (aNil)))) (eTup (aCons (eUser 2 (m__law_end) (cD (eVar 0) (cD (eOp ixD (eVar 2) (eC (.int 0))) (cNil)))) (aCons (eTup (aNil)) (aNil))))) (sSeq (sIf (tBo (eOp eqD (eVar 3) (eC (.str "left")))) (sSeq (sAsg (eUser 4 (m__law_due_whisker) (cD (eVar 0) (cD (eVar 4) (cD (eVar 1) (cD (eOp ixD (eVar 2) (eC (.int 0))) (cNil)))))) (setD 6)) (sAsg (eUser 4 (m__law_due_whisker) (cD (eVar 0) (cD (eOp ixD (eUser 2 (m__law_paths) (cD (eVar 0) (cD (eVar 1) (cNil)))) (eUn negD (eC (.int 1)))) (cD (eVar 2) (cD (eVar 5) (cNil)))))) (setD 7))) (sSeq (sAsg (eUser 4 (m__law_due_whisker) (cD (eVar 0) (cD (eOp ixD (eVar 1) (eC (.int 0))) (cD (eVar 2) (cD (eVar 5) (cNil)))))) (setD 6)) (sAsg (eUser 4 (m__law_due_whisker) (cD (eVar 0) (cD (eVar 4) (cD (eVar 1) (cD (eOp ixD (eUser 2 (m__law_paths) (cD (eVar 0) (cD (eVar 2) (cNil)))) (eUn negD (eC (.int 1)))) (cNil)))))) (setD 7)))) (sRet (eTup (aCons (eOp ixD (eVar 6) (eC (.int 0))) (aCons (eOp addD (eOp ixD (eVar 6) (eC (.int 1))) (eOp ixD (eVar 7) (eC (.int 1)))) (aNil)))))))
theorem q__law_due_horizontal : ∃ F : Fn, F = mkFn 8 S__law_due_horizontal := ⟨_, rfl⟩
noncomputable def m__law_due_horizontal : Fn := Classical.choose q__law_due_horizontal
theorem m__law_due_horizontal_eq : m__law_due_horizontal = mkFn 8 S__law_due_horizontal := Classical.choose_spec q__law_due_horizontal
def S__law_flip : SF :=
  sRet (eTup (aCons (eOp ixD (eVar 0) (eC (.int 0))) (aCons (eOp ixD (eVar 0) (eC (.int 1))) (aCons (eCall tupOf (aCons (eLc (iAny (eOp ixD (eVar 0) (eC (.int 2)))) (gTupD 4 (gsCons (setD 1) (gsCons (setD 2) (gsCons (setD 3) (gsCons (setD 4) (gsNil)))))) (tYs) (eTup (aCons (eVar 1) (aCons (eVar 2) (aCons (eVar 4) (aCons (eVar 3) (aNil)))))) [1, 2, 3, 4]) (aNil))) (aNil)))))
theorem q__law_flip : ∃ F : Fn, F = mkFn 5 S__law_flip := ⟨_, rfl⟩
noncomputable def m__law_flip : Fn := Classical.choose q__law_flip
theorem m__law_flip_eq : m__law_flip = mkFn 5 S__law_flip := Classical.choose_spec q__law_flip
def S__law_mirror : SF :=
  sSeq (sAsg (eVar 0) (gTupD 3 (gsCons (setD 1) (gsCons (setD 2) (gsCons (setD 3) (gsNil)))))) (sSeq (sAsg (eCall tupOf (aCons (eLc (iAny (eVar 2)) (gTupD 3 (gsCons (setD 5) (gsCons (setD 6) (gsCons (setD 7) (gsNil))))) (tYs) (eTup (aCons (eVar 5) (aCons (eVar 7) (aCons (eVar 6) (aNil))))) [5, 6, 7]) (aNil))) (setD 4)) (sRet (eTup (aCons (eVar 1) (aCons (eVar 4) (aCons (eCall tupOf (aCons (eLc (iAny (eVar 3)) (setD 8) (tYs) (eTup (aCons (eOp ixD (eVar 8) (eC (.int 0))) (aCons (eUser 2 (m__law_end) (cD (eVar 0) (cD (eTup (aCons (eOp ixD (eVar 8) (eC (.int 1))) (aCons (eOp ixD (eVar 8) (eC (.int 2))) (aNil)))) (cNil)))) (aCons (eRev (eOp ixD (eVar 8) (eC (.int 2)))) (aCons (eRev (eOp ixD (eVar 8) (eC (.int 3)))) (aNil)))))) [8]) (aNil))) (aNil)))))))
theorem q__law_mirror : ∃ F : Fn, F = mkFn 9 S__law_mirror := ⟨_, rfl⟩
noncomputable def m__law_mirror : Fn := Classical.choose q__law_mirror
theorem m__law_mirror_eq : m__law_mirror = mkFn 9 S__law_mirror := Classical.choose_spec q__law_mirror
def S__law_mirror_path : SF :=
  sRet (eTup (aCons (eUser 2 (m__law_end) (cD (eVar 0) (cD (eVar 1) (cNil)))) (aCons (eRev (eOp ixD (eVar 1) (eC (.int 1)))) (aNil))))
theorem q__law_mirror_path : ∃ F : Fn, F = mkFn 2 S__law_mirror_path := ⟨_, rfl⟩
noncomputable def m__law_mirror_path : Fn := Classical.choose q__law_mirror_path
theorem m__law_mirror_path_eq : m__law_mirror_path = mkFn 2 S__law_mirror_path := Classical.choose_spec q__law_mirror_path
def S__law_flip_diagram : SF :=
  sRet (eTup (aCons (eOp ixD (eUser 2 (m__law_paths) (cD (eVar 0) (cD (eVar 1) (cNil)))) (eUn negD (eC (.int 1)))) (aCons (eRev (eOp ixD (eVar 1) (eC (.int 1)))) (aNil))))
theorem q__law_flip_diagram : ∃ F : Fn, F = mkFn 2 S__law_flip_diagram := ⟨_, rfl⟩
noncomputable def m__law_flip_diagram : Fn := Classical.choose q__law_flip_diagram
theorem m__law_flip_diagram_eq : m__law_flip_diagram = mkFn 2 S__law_flip_diagram := Classical.choose_spec q__law_flip_diagram
def S__law_mirror_diagram : SF :=
  sSeq (sAsg (eVar 1) (gTupD 2 (gsCons (setD 2) (gsCons (setD 3) (gsNil))))) (sSeq (sPar 4 5 (eUser 2 (m__law_paths) (cD (eVar 0) (cD (eVar 1) (cNil)))) (eTup (aNil))) (sSeq (sFor (iR1 (eCall lenD (aCons (eVar 3) (aNil)))) (setD 6) (sSeq (sAsg (eSl (eOp ixD (eOp ixD (eVar 4) (eVar 6)) (eC (.int 1))) (oSome (eOp addD (eOp ixD (eOp ixD (eVar 3) (eVar 6)) (eC (.int 0))) (eOp ixD (eUser 2 (m__law_sides) (cD (eVar 0) (cD (eOp ixD (eVar 3) (eVar 6)) (cNil)))) (eC (.int 0))))) (oNo)) (setD 7)) (sAsg (eOp addD (eVar 5) (eTup (aCons (eTup (aCons (eCall lenD (aCons (eVar 7) (aNil))) (aCons (eOp ixD (eOp ixD (eVar 3) (eVar 6)) (eC (.int 1))) (aNil)))) (aNil)))) (setD 5)))) (sRet (eTup (aCons (eUser 2 (m__law_mirror_path) (cD (eVar 0) (cD (eVar 2) (cNil)))) (aCons (eVar 5) (aNil)))))))
theorem q__law_mirror_diagram : ∃ F : Fn, F = mkFn 8 S__law_mirror_diagram := ⟨_, rfl⟩
noncomputable def m__law_mirror_diagram : Fn := Classical.choose q__law_mirror_diagram
theorem m__law_mirror_diagram_eq : m__law_mirror_diagram = mkFn 8 S__law_mirror_diagram := Classical.choose_spec q__law_mirror_diagram
end
end Pd
end

section
/-! Pd: own lists among three targets. -/
namespace Pd
open PySem L2 Evl
section
variable {X : Cx} {W : WX} {n : Nat}
/-- x, y, z = [..], e1, e2 -/
@[simp] def sPar3a (i j l : Nat) (F : AF) (g k : EF) : SF := fun ρ => F ρ >>= fun r => g r.2 >>= fun b => k b.2 >>= fun c => if i < c.2.length then li ((setD j b.1 (c.2.set i (.m r.1))).bind fun ρ' => setD l c.1 ρ') >>= fun ρ' => .ok (.nx ρ') else .bad
theorem sd_par3a (i j l : Nat) {x y z : Str} {a b c : Expr} {f : AF} {g k : EF} {px py pz pt pos : Pos} {kt k2 pt2} (hc : X.calm = true) (hN : X.N.Nodup) (hn : n ≤ i := by decide) (hi : X.N[i]? = some x := by rfl) (hj : X.N[j]? = some y := by rfl) (hl : X.N[l]? = some z := by rfl) (hij : i ≠ j := by decide) (hil : i ≠ l := by decide) (hjl : j ≠ l := by decide)
    (hx : X.env.scope.names.lookup x = some .local := by rfl) (hy : X.env.scope.names.lookup y = some .local := by rfl) (hz : X.env.scope.names.lookup z = some .local := by rfl)
    (hw : swappedStores [.Tuple [.Name x px, .Name y py, .Name z pz] kt pt] (.Tuple [a, b, c] k2 pt2) X.env = pure (some [x, y, z]) := by rfl)
    (hs : swapsWithSole [.Tuple [.Name x px, .Name y py, .Name z pz] kt pt] (.Tuple [a, b, c] k2 pt2) pos.line X.env = pure false := by rfl)
    (e1 : starEach [a, b, c] X.env = (false, eval a X.env) :: starEach [b, c] X.env := by rfl) (e2 : starEach [b, c] X.env = (false, eval b X.env) :: starEach [c] X.env := by rfl) (e3 : starEach [c] X.env = (false, eval c X.env) :: starEach [] X.env := by rfl) : ND X W a f → ED X W b g → ED X W c k →
    SD X W n (.Assign [.Tuple [.Name x px, .Name y py, .Name z pz] kt pt] (.Tuple [a, b, c] k2 pt2) pos) (sPar3a i j l f g k)
  | ⟨_, p, r⟩, ⟨_, q, s⟩, ⟨_, p3, r3⟩ => ⟨_, ps_par3 hc hN hi hj hl hij hil hjl hx hy hz (pa_cons p (pa_cons q (pa_cons p3 pa_nil e3) e2) e1) hw hs, fun B D' G H σ ρ e h =>
    r G H σ ρ _ e.en (wp_mono (wp_bind.mp h) (fun c1 hc1 pp vs G1 H1 af hp gp hh av =>
      s G1 H1 σ c1.2 _ af.en (wp_mono (wp_bind.mp hc1) (fun b1 hb G2 H2 af2 w at2 =>
        r3 G2 H2 σ b1.2 _ af2.en (wp_mono (wp_bind.mp hb) (fun d1 hd G3 H3 af3 u at3 => by
          by_cases hlt : i < d1.2.length
          · simp only [hlt, if_true] at hd
            have af23 := af2.trans af3
            have nm : ¬ Mt σ c1.2 pp := fun m => by
              obtain ⟨_, ws, z⟩ := e.en.mtH ((af.mt pp).mp m)
              exact nl_lst z hp
            have h2 := af23.st.fr pp _ hh nm (fun _ z => nomatch z)
            have g2 : G3 pp = none := by
              cases z : G3 pp with
              | none => rfl
              | some o => exact absurd gp (af23.st.nw pp _ hh (by rw [z]; exact fun z => nomatch z))
            have e4 := e.newM (af.trans af23) hlt hn hp g2 h2 (av.up af23.st.ex)
            cases q1 : setD j b1.1 (d1.2.set i (.m c1.1)) with
            | none => simp only [q1] at hd; exact hd.elim
            | some ρ3 =>
              cases q2 : setD l d1.1 ρ3 with
              | none => simp only [q1, Option.bind_some, q2] at hd; exact hd.elim
              | some ρ4 =>
                simp only [q1, Option.bind_some, q2, li_some, bind_ok] at hd
                obtain ⟨a4, t4⟩ := setD_at e4.en (at2.up af3.st.ex) q1
                obtain ⟨a5, t5⟩ := setD_at a4 at3 q2
                exact ⟨_, w, u, rfl, hd _ G3 H3 ((e4.tg a4 t4).tg a5 t5)⟩
          · simp only [hlt, if_false] at hd
            exact hd.elim) fun _ z => z.gv (e.af (af.trans af2)))) fun _ z => z.gv (e.af af))) fun _ z => z.gv e)⟩
/-- x, y, z = e1, e2, [..] -/
@[simp] def sPar3c (i j l : Nat) (g k : EF) (F : AF) : SF := fun ρ => g ρ >>= fun a => k a.2 >>= fun b => F b.2 >>= fun r => if l < r.2.length then li ((setD i a.1 (r.2.set l (.m r.1))).bind fun ρ' => setD j b.1 ρ') >>= fun ρ' => .ok (.nx ρ') else .bad
theorem sd_par3c (i j l : Nat) {x y z : Str} {a b c : Expr} {g k : EF} {f : AF} {px py pz pt pos : Pos} {kt k2 pt2} (hc : X.calm = true) (hN : X.N.Nodup) (hn : n ≤ l := by decide) (hi : X.N[i]? = some x := by rfl) (hj : X.N[j]? = some y := by rfl) (hl : X.N[l]? = some z := by rfl) (hij : i ≠ j := by decide) (hil : i ≠ l := by decide) (hjl : j ≠ l := by decide)
    (hx : X.env.scope.names.lookup x = some .local := by rfl) (hy : X.env.scope.names.lookup y = some .local := by rfl) (hz : X.env.scope.names.lookup z = some .local := by rfl)
    (hw : swappedStores [.Tuple [.Name x px, .Name y py, .Name z pz] kt pt] (.Tuple [a, b, c] k2 pt2) X.env = pure (some [x, y, z]) := by rfl)
    (hs : swapsWithSole [.Tuple [.Name x px, .Name y py, .Name z pz] kt pt] (.Tuple [a, b, c] k2 pt2) pos.line X.env = pure false := by rfl)
    (e1 : starEach [a, b, c] X.env = (false, eval a X.env) :: starEach [b, c] X.env := by rfl) (e2 : starEach [b, c] X.env = (false, eval b X.env) :: starEach [c] X.env := by rfl) (e3 : starEach [c] X.env = (false, eval c X.env) :: starEach [] X.env := by rfl) : ED X W a g → ED X W b k → ND X W c f →
    SD X W n (.Assign [.Tuple [.Name x px, .Name y py, .Name z pz] kt pt] (.Tuple [a, b, c] k2 pt2) pos) (sPar3c i j l g k f)
  | ⟨_, p, r⟩, ⟨_, q, s⟩, ⟨_, p3, r3⟩ => ⟨_, ps_par3 hc hN hi hj hl hij hil hjl hx hy hz (pa_cons p (pa_cons q (pa_cons p3 pa_nil e3) e2) e1) hw hs, fun B D' G H σ ρ e h => r.useS e h fun d ρ1 v G1 H1 e1 ex1 at1 h1 =>
    s.useS e1 h1 fun d2 ρ2 w G2 H2 e2 ex2 at2 h2 => r3 G2 H2 σ ρ2 _ e2.en (wp_mono (wp_bind.mp h2) (fun c1 hc1 pp vs G3 H3 af hp gp hh av => by
      by_cases hlt : l < c1.2.length
      · simp only [hlt, if_true] at hc1
        have e4 := e2.newM af hlt hn hp gp hh av
        cases q1 : setD i d (c1.2.set l (.m c1.1)) with
        | none => simp only [q1] at hc1; exact hc1.elim
        | some ρ3 =>
          cases q2 : setD j d2 ρ3 with
          | none => simp only [q1, Option.bind_some, q2] at hc1; exact hc1.elim
          | some ρ4 =>
            simp only [q1, Option.bind_some, q2, li_some, bind_ok] at hc1
            obtain ⟨a4, t4⟩ := setD_at e4.en ((at1.up ex2).up af.st.ex) q1
            obtain ⟨a5, t5⟩ := setD_at a4 (at2.up af.st.ex) q2
            have e5 := (e4.tg a4 t4).tg a5 t5
            rw [List.set_comm _ _ (Ne.symm hil), List.set_comm _ _ (Ne.symm hjl)] at e5
            exact ⟨v, w, _, rfl, hc1 _ G3 H3 e5⟩
      · simp only [hlt, if_false] at hc1
        exact hc1.elim) fun _ z => z.gv e2)⟩
end
end Pd
end

section
/-! Pd: comprehensions with two fors. -/
namespace Pd
open PySem L2 Evl PyProof.Rows
def tI (K : Fg) (mg : Str → Option Value) (W : WX) (F : AF) : TI := fun σ H R => ∃ G ρ, AtE K G H σ ρ ∧ wp (F ρ) (Gn K σ G H ρ (QI K R)) (GvX mg K σ G H ρ W)
def lcL2 (g : GF) (t : TF) (F1 : AF) (g1 : GF) (t1 : TF) (f : EF) (vs vs1 : List Nat) : List D → List Sl → R (List D × List Sl)
  | [], ρ => .ok ([], ρ)
  | x :: xs, ρ => li (g x ρ) >>= fun ρ1 => t ρ1 >>= fun b => if b.1 = true then F1 b.2 >>= fun r => if r.1.length ≤ 4000 then lcL g1 t1 f vs1 r.1 (wipeS vs1 r.2) >>= fun z => lcL2 g t F1 g1 t1 f vs vs1 xs (wipeS vs z.2) >>= fun q => .ok (z.1 ++ q.1, q.2) else .bad
    else lcL2 g t F1 g1 t1 f vs vs1 xs (wipeS vs b.2)
@[simp] def eLc20 (F : AF) (g : GF) (t : TF) (F1 : AF) (g1 : GF) (t1 : TF) (f : EF) (vs vs1 : List Nat) : AF := fun ρ => F ρ >>= fun r => if r.1.length ≤ 4000 ∧ noM vs r.2 = true then noEx (lcL2 g t F1 g1 t1 f vs vs1 r.1 (wipeS vs r.2)) >>= fun q => .ok (q.1, mixS vs r.2 q.2) else .bad
@[simp] def eLc2 (F : AF) (g : GF) (t : TF) (F1 : AF) (g1 : GF) (t1 : TF) (f : EF) (vs vs1 : List Nat) : EF := fun ρ => eLc20 F g t F1 g1 t1 f vs vs1 ρ >>= fun r => .ok (.list r.1, r.2)
section
variable {X : Cx} {W : WX}
theorem ID.can {tg e : Expr} {F : AF} : ID X W tg e F → PI X tg e (tI X.K X.mg W F)
  | ⟨_, p, r⟩ => ⟨fun pins s σ H R I h => by
    obtain ⟨G, ρ, a, h⟩ := h
    exact p.run pins s σ H R I (r G H σ ρ R a h)⟩
theorem lc2_core {wi : TI} {F F1 : AF} {g g1 : GF} {t t1 : TF} {f : EF} {vs vs1 is is1 : List Nat} {mg : Str → Option Value} (his : ∀ i ∈ is, i ∈ vs) (his1 : ∀ i ∈ is1, i ∈ vs1) (hvs : ∀ i ∈ vs1, i ∈ vs) (r : RdI X W wi F) (G H : Hp) (σ : L2.St) (ρ : List Sl) (Q : VK) (a : AtE X.K G H σ ρ)
    (h : wp (eLc20 F g t F1 g1 t1 f vs vs1 ρ) (QN X.K σ G H ρ Q) (GvX X.mg X.K σ G H ρ W)) : tLc2 wi (tG X.K is g) (tT X.K mg W0 t) (tI X.K mg W0 F1) (tG X.K is1 g1) (tT X.K mg W0 t1) (tE X.K mg W0 f) vs vs1 σ H Q := by
  refine r G H σ ρ _ a (wp_mono (wp_bind.mp h) (fun q hq G1 H1 af J wk => ?_) fun _ z => z)
  obtain ⟨ds, ρ1⟩ := q
  by_cases c : ds.length ≤ 4000 ∧ noM vs ρ1 = true
  case neg =>
    simp only [if_neg c] at hq
    exact hq.elim
  simp only [if_pos c] at hq
  obtain ⟨hlen, hno⟩ := c
  have hno' : ∀ v ∈ vs, ∀ xs, ρ1[v]? ≠ some (Sl.m xs) := fun v hv => noM_ok hno hv
  have hno1 : ∀ v ∈ vs1, ∀ xs, ρ1[v]? ≠ some (Sl.m xs) := fun v hv => hno' v (hvs v hv)
  have a1 : AtE X.K G1 H1 σ ρ1 := af.en
  intro D hD
  have hGD : G1 D = none := fresh_back a1.ex hD
  have nMD : ∀ p, Mt σ ρ1 p → p ≠ D := fun p m z => by
    obtain ⟨_, ws, e⟩ := a1.mtH m
    rw [z, hD] at e; cases e
  have lt_line : ∀ {n : Nat}, n < 16000001 → n < sizeLine := fun h => by rw [sizeLine_eq]; omega
  let Left : Nat → List Sl → List PyData → Prop := fun i ρ2 accD => wp (lcL2 g t F1 g1 t1 f vs vs1 (ds.drop i) ρ2) (fun z => ∀ p ws G' H', Af X.K σ G H ρ G' H' (mixS vs ρ1 z.2) → Nl H p → G' p = none → H' p = some (.lst ws) → AtL X.K G' ws (accD ++ z.1) → Q (.ref p) H') (fun _ => False)
  refine ⟨fun i m H2 => m = ds.length - i ∧ i ≤ ds.length ∧ ∃ G2 ρ2 acc accD, LcS X.K σ ρ1 G1 H1 D G2 H2 (wipe σ vs) ρ2 acc ∧ AtL X.K G2 acc accD ∧ accD.length ≤ i * 4000 ∧ Left i ρ2 accD,
    ⟨ds.length, rfl, Nat.zero_le _, G1, wipeS vs ρ1, [], [], ⟨Ex.refl _, ?_, Stp.newH hD, fun p m => m.wipe_, fun i => ?_, upd_same, hGD⟩, .nil, Nat.zero_le _, ?_⟩, ?_⟩
  · exact (a1.wipe_ vs).other hGD (fun m => nMD D m.wipe_ rfl) (a1.tb.newH hD)
  · exact ⟨fun ⟨xs, z⟩ => ⟨xs, (wipeS_m hno' i xs).mp z⟩, fun ⟨xs, z⟩ => ⟨xs, (wipeS_m hno' i xs).mpr z⟩⟩
  · show wp (lcL2 g t F1 g1 t1 f vs vs1 (ds.drop 0) _) _ _
    rw [List.drop_zero]
    exact wp_noEx (wp_mono (wp_bind.mp hq) (fun z hz => hz) fun _ z => z)
  rintro i m H2 ⟨rfl, hi, G2, ρ2, acc, accD, s2, aa, hacc, h2⟩
  by_cases hlt : i < ds.length
  · obtain ⟨hgo, hy⟩ := wk.go i ds[i] H2 G2 s2.x s2.a.ex (List.getElem?_eq_getElem hlt)
    refine .inr ⟨hgo, fun H' => ∃ G2 ρ2 acc accD, LcS X.K σ ρ1 G1 H1 D G2 H' (wipe σ vs) ρ2 acc ∧ AtL X.K G2 acc accD ∧ accD.length ≤ (i + 1) * 4000 ∧ Left (i + 1) ρ2 accD,
      fun H' ⟨G', ρ', ac, acD, z⟩ => ⟨ds.length - (i + 1), by omega, rfl, hlt, G', ρ', ac, acD, z⟩, fun x H' y => ?_⟩
    obtain ⟨G3, st3, x3, at3⟩ := hy x H' y
    have s3 := s2.grow st3 x3
    have h3 : wp (lcL2 g t F1 g1 t1 f vs vs1 (ds[i] :: ds.drop (i + 1)) ρ2) (fun z => ∀ p ws G' H', Af X.K σ G H ρ G' H' (mixS vs ρ1 z.2) → Nl H p → G' p = none → H' p = some (.lst ws) → AtL X.K G' ws (accD ++ z.1) → Q (.ref p) H') (fun _ => False) := by
      rw [← List.drop_eq_getElem_cons hlt]
      exact h2
    refine ⟨G3, ρ2, ds[i], s3.a, at3, ?_⟩
    simp only [lcL2] at h3
    cases qg : g ds[i] ρ2 with
    | none => rw [qg] at h3; exact h3.elim
    | some ρ3 =>
      rw [qg] at h3
      intro σ3 a4 t4
      have s4 := s3.tg a4 t4
      have ew : wipe σ3 vs = wipe σ vs := wipe_congr (by rw [t4.len, wipe_length]) fun j hj => by
        rw [(t4.out j fun z => hj (his j z)).1, wipe_out hj]
      refine ⟨ew, G3, ρ3, a4, wp_mono (wp_bind.mp h3) (fun b hb G4 H4 af4 => ?_) fun _ z => z.elim⟩
      have s5 := s4.af nMD af4
      obtain ⟨b, ρ4⟩ := b
      cases b with
      | false =>
        have s6 := s5.wipe_ hno'
        rw [ew] at s6
        exact ⟨G4, _, acc, accD, s6, aa.up (st3.ex.trans af4.st.ex), by omega, hb⟩
      | true =>
        refine ⟨G4, ρ4, s5.a, wp_mono (wp_bind.mp hb) (fun rv hrv G5 H5 af5 J1 wk1 => ?_) fun _ z => z.elim⟩
        obtain ⟨ds1, ρ5⟩ := rv
        by_cases c1 : ds1.length ≤ 4000
        case neg =>
          simp only [if_neg c1] at hrv
          exact hrv.elim
        simp only [if_pos c1] at hrv
        have s6 := (s5.af nMD af5).wipe_ hno1
        have aa5 := aa.up ((st3.ex.trans af4.st.ex).trans af5.st.ex)
        let Left1 : Nat → List Sl → List PyData → Prop := fun j ρ6 accD => wp (lcL g1 t1 f vs1 (ds1.drop j) ρ6) (fun z => Left (i + 1) (wipeS vs z.2) (accD ++ z.1)) (fun _ => False)
        refine ⟨fun j k H6 => k = ds1.length - j ∧ j ≤ ds1.length ∧ ∃ G6 ρ6 acc accD, LcS X.K σ ρ1 G1 H1 D G6 H6 (wipe σ3 vs1) ρ6 acc ∧ Ex G5 G6 ∧ AtL X.K G6 acc accD ∧ accD.length ≤ i * 4000 + j ∧ Left1 j ρ6 accD,
          ⟨ds1.length, rfl, Nat.zero_le _, G5, wipeS vs1 ρ5, acc, accD, s6, Ex.refl _, aa5, by omega, ?_⟩, ?_⟩
        · show wp (lcL g1 t1 f vs1 (ds1.drop 0) _) _ _
          rw [List.drop_zero]
          refine wp_mono (wp_bind.mp hrv) (fun z hz => ?_) fun _ z => z
          exact wp_mono (wp_bind.mp hz) (fun z2 hz2 p ws G' H' f1 f2 f3 f4 f5 => hz2 p ws G' H' f1 f2 f3 f4 (by simpa using f5)) fun _ z => z
        rintro j k H6 ⟨rfl, hj, G6, ρ6, acc6, accD6, s7, x6, aa6, hacc6, h6⟩
        by_cases hlt1 : j < ds1.length
        · obtain ⟨hgo1, hy1⟩ := wk1.go j ds1[j] H6 G6 x6 s7.a.ex (List.getElem?_eq_getElem hlt1)
          refine .inr ⟨hgo1, fun H' => ∃ G6 ρ6 acc accD, LcS X.K σ ρ1 G1 H1 D G6 H' (wipe σ3 vs1) ρ6 acc ∧ Ex G5 G6 ∧ AtL X.K G6 acc accD ∧ accD.length ≤ i * 4000 + (j + 1) ∧ Left1 (j + 1) ρ6 accD,
            fun H' ⟨G', ρ', ac, acD, z⟩ => ⟨ds1.length - (j + 1), by omega, rfl, hlt1, G', ρ', ac, acD, z⟩, fun x H' y => ?_⟩
          obtain ⟨G7, st7, x7, at7⟩ := hy1 x H' y
          have s8 := s7.grow st7 x7
          have h7 : wp (lcL g1 t1 f vs1 (ds1[j] :: ds1.drop (j + 1)) ρ6) (fun z => Left (i + 1) (wipeS vs z.2) (accD6 ++ z.1)) (fun _ => False) := by
            rw [← List.drop_eq_getElem_cons hlt1]
            exact h6
          have ews : wipe (wipe σ3 vs1) vs1 = wipe σ3 vs1 := wipe_congr (by rw [wipe_length]) fun v hv => by rw [wipe_out hv]
          refine ⟨G7, ρ6, ds1[j], s8.a, at7, ?_⟩
          simp only [lcL] at h7
          cases qg1 : g1 ds1[j] ρ6 with
          | none => rw [qg1] at h7; exact h7.elim
          | some ρ7 =>
            rw [qg1] at h7
            intro σ8 a8 t8
            have s9 := s8.tg a8 t8
            have ew1 : wipe σ8 vs1 = wipe σ3 vs1 := by
              rw [← ews]
              exact wipe_congr (by rw [t8.len]) fun v hv => (t8.out v fun z => hv (his1 v z)).1
            refine ⟨ew1, G7, ρ7, a8, wp_mono (wp_bind.mp h7) (fun b hb1 G8 H8 af8 => ?_) fun _ z => z.elim⟩
            have s10 := s9.af nMD af8
            obtain ⟨b, ρ8⟩ := b
            cases b with
            | false =>
              have s11 := s10.wipe_ hno1
              rw [ew1] at s11
              exact ⟨G8, _, acc6, accD6, s11, (x6.trans st7.ex).trans af8.st.ex, aa6.up (st7.ex.trans af8.st.ex), by omega, hb1⟩
            | true =>
              refine ⟨G8, ρ8, s10.a, wp_mono (wp_bind.mp hb1) (fun yv hyv G9 H9 af9 v av => ?_) fun _ z => z.elim⟩
              have s11 := s10.af nMD af9
              have s12 := (s11.wipe_ hno1).app nMD (acc6 ++ [v])
              rw [ew1] at s12
              have aa9 := aa6.up ((st7.ex.trans af8.st.ex).trans af9.st.ex)
              refine ⟨acc6, s11.hd, lt_line (by rw [aa6.length]; omega), G9, _, acc6 ++ [v], accD6 ++ [yv.1], s12, ((x6.trans st7.ex).trans af8.st.ex).trans af9.st.ex, aa9.append (.cons av .nil), by simp; omega, ?_⟩
              refine wp_mono (wp_bind.mp hyv) (fun z hz => ?_) fun _ z => z
              have hz' : Left (i + 1) (wipeS vs z.2) (accD6 ++ yv.1 :: z.1) := hz
              rw [show accD6 ++ [yv.1] ++ z.1 = accD6 ++ yv.1 :: z.1 by simp]
              exact hz'
        · have ej : j = ds1.length := by omega
          subst ej
          have s8 := s7.wipe_ hno'
          have ew2 : wipe (wipe σ3 vs1) vs = wipe σ vs := by
            rw [← ew]
            exact wipe_congr (by rw [wipe_length]) fun v hv => by rw [wipe_out fun z => hv (hvs v z)]
          rw [ew2] at s8
          refine .inl ⟨wk1.stop _ H6 G6 x6 s7.a.ex (Nat.le_refl _), G6, _, acc6, accD6, s8, aa6, by omega, ?_⟩
          have h7 : wp (lcL g1 t1 f vs1 [] ρ6) (fun z => Left (i + 1) (wipeS vs z.2) (accD6 ++ z.1)) (fun _ => False) := by
            rw [← List.drop_length (l := ds1)]
            exact h6
          have h8 : Left (i + 1) (wipeS vs ρ6) (accD6 ++ []) := h7
          rw [List.append_nil] at h8
          exact h8
  · have ei : i = ds.length := by omega
    subst ei
    refine .inl ⟨wk.stop _ H2 G2 s2.x s2.a.ex (Nat.le_refl _), ?_⟩
    have h3 : wp (lcL2 g t F1 g1 t1 f vs vs1 [] ρ2) (fun z => ∀ p ws G' H', Af X.K σ G H ρ G' H' (mixS vs ρ1 z.2) → Nl H p → G' p = none → H' p = some (.lst ws) → AtL X.K G' ws (accD ++ z.1) → Q (.ref p) H') (fun _ => False) := by
      rw [← List.drop_length (l := ds)]
      exact h2
    have lenE : ρ2.length = ρ1.length := by rw [s2.a.len, wipe_length, a1.len]
    have hH : Nl H D := Classical.not_not.mp fun z => af.st.li D z (nl_of hD)
    have mixget : ∀ j : Nat, (j ∈ vs ∧ (mixS vs ρ1 ρ2)[j]? = ρ1[j]?) ∨ (j ∉ vs ∧ (mixS vs ρ1 ρ2)[j]? = ρ2[j]?) := fun j => by
      by_cases hj : j ∈ vs
      · refine .inl ⟨hj, ?_⟩
        by_cases hl : j < ρ1.length
        · rw [mixS_in (by omega) hj, List.getElem?_eq_getElem hl, List.getD_eq_getElem?_getD, List.getElem?_eq_getElem hl]
          rfl
        · rw [List.getElem?_eq_none (by rw [mixS_len]; omega), List.getElem?_eq_none (by omega)]
      · exact .inr ⟨hj, mixS_out hj⟩
    have mixm : ∀ (j : Nat) (xs : List PyData), (mixS vs ρ1 ρ2)[j]? = some (Sl.m xs) → j ∉ vs ∧ ρ2[j]? = some (Sl.m xs) := fun j xs z => by
      rcases mixget j with ⟨h1, h2⟩ | ⟨h1, h2⟩
      · rw [h2] at z; exact absurd z (hno' j h1 xs)
      · rw [h2] at z; exact ⟨h1, z⟩
    have en : AtE X.K G2 H2 σ (mixS vs ρ1 ρ2) := ⟨s2.a.ex, by rw [mixS_len, lenE]; exact a1.len, fun j s e k1 k2 => by
      rcases mixget j with ⟨g1, g2⟩ | ⟨g1, g2⟩
      · rw [g2] at k1
        have q := a1.sl j s e k1 k2
        cases s with
        | u => exact True.intro
        | d x => obtain ⟨v, e1, e2⟩ := q; exact ⟨v, e1, e2.up s2.x⟩
        | m xs => exact absurd k1 (hno' j g1 xs)
        | k kvs => exact k_up q s2.x
        | x b P => exact x_up q s2.x
        | s ns => obtain ⟨b, e1, e2⟩ := q; exact ⟨b, e1, ex_l s2.x e2⟩
      · rw [g2] at k1
        exact s2.a.sl j s e k1 (by rw [wipe_out g1]; exact k2), fun j k p xs ys k1 k2 k3 k4 => by
      obtain ⟨j1, k1⟩ := mixm j xs k1
      obtain ⟨j2, k2⟩ := mixm k ys k2
      exact s2.a.dj j k p xs ys k1 k2 (by rw [wipe_out j1]; exact k3) (by rw [wipe_out j2]; exact k4), s2.a.tb⟩
    have shE : ∀ j : Nat, (∃ xs, (mixS vs ρ1 ρ2)[j]? = some (Sl.m xs)) ↔ (∃ xs, ρ1[j]? = some (Sl.m xs)) := fun j => by
      rcases mixget j with ⟨g1, g2⟩ | ⟨g1, g2⟩
      · rw [g2]
      · rw [g2]; exact s2.sh j
    have af2 : Af X.K σ G1 H1 ρ1 G2 H2 (mixS vs ρ1 ρ2) := ⟨⟨s2.x, s2.st.nw, fun b o e n => s2.st.fr b o e fun z => z.elim n (fun q => by rw [q, hD] at e; cases e), s2.st.li, s2.st.tb, s2.st.ls⟩, en, shE⟩
    exact h3 D acc G2 H2 (af.trans af2) hH s2.gd s2.hd (by simpa using aa)
theorem ed_lc2 {elt tg iter tg1 iter1 : Expr} {ifs ifs1 : List Expr} {scope : Scope} {own : List (Str × Nat)} {vs1 is is1 : List Nat} {pos : Pos} {F F1 : AF} {g g1 : GF} {t t1 : TF} {f : EF} (hc : X.calm = true) (hN : X.N.Nodup) (ok : BlkOk X.N X.env.scope scope own) (his : ∀ i ∈ is, i ∈ own.map (·.2)) (his1 : ∀ i ∈ is1, i ∈ vs1) (hvs : ∀ i ∈ vs1, i ∈ own.map (·.2))
    (hi : ID X W tg iter F) (hg : ∀ (s : Shared) (H : Hp) (C : Addr) (cl : List (Str × Addr)) (fp : List Addr), GD (X.blk s H scope (compEnvC scope cl C X.env) fp) is tg g)
    (ht : ∀ (s : Shared) (H : Hp) (C : Addr) (cl : List (Str × Addr)) (fp : List Addr), TsD (X.blk s H scope (compEnvC scope cl C X.env) fp) W0 ifs t)
    (hi1 : ∀ (s : Shared) (H : Hp) (C : Addr) (cl : List (Str × Addr)) (fp : List Addr), ID (X.blk s H scope (compEnvC scope cl C X.env) fp) W0 tg1 iter1 F1)
    (hg1 : ∀ (s : Shared) (H : Hp) (C : Addr) (cl : List (Str × Addr)) (fp : List Addr), GD (X.blk s H scope (compEnvC scope cl C X.env) fp) is1 tg1 g1)
    (ht1 : ∀ (s : Shared) (H : Hp) (C : Addr) (cl : List (Str × Addr)) (fp : List Addr), TsD (X.blk s H scope (compEnvC scope cl C X.env) fp) W0 ifs1 t1)
    (he : ∀ (s : Shared) (H : Hp) (C : Addr) (cl : List (Str × Addr)) (fp : List Addr), ED (X.blk s H scope (compEnvC scope cl C X.env) fp) W0 elt f) (hs : ∀ x, foldedSetIterable iter X.env x = pure x := by intro _; rfl) (hs1 : ∀ env x, foldedSetIterable iter1 env x = pure x := by intro _ _; rfl) :
    ED X W (.ListComp elt [⟨tg, iter, ifs, 0⟩, ⟨tg1, iter1, ifs1, 0⟩] scope pos) (eLc2 F g t F1 g1 t1 f (own.map (·.2)) vs1) := by
  obtain ⟨wi, p, r⟩ := hi
  refine ⟨_, pe_lc2 (g := tG X.K is g) (tt := tT X.K X.mg W0 t) (wi1 := tI X.K X.mg W0 F1) (g1 := tG X.K is1 g1) (tt1 := tT X.K X.mg W0 t1) (te := tE X.K X.mg W0 f) hc hN p ok hvs (fun s H C cl fp => (hg s H C cl fp).can) (fun s H C cl fp => ht s H C cl fp) (fun s H C cl fp => (hi1 s H C cl fp).can) (fun s H C cl fp => (hg1 s H C cl fp).can) (fun s H C cl fp => ht1 s H C cl fp) (fun s H C cl fp => (he s H C cl fp).can) hs hs1, fun G H σ ρ Q a h => ?_⟩
  refine lc2_core his his1 hvs r G H σ ρ Q a (wp_mono (wp_bind.mp h) (fun q hq p vs G' H' af hp gp hh av => ?_) fun _ z => z)
  have e2 : Ex G' (upd G' p (.lst vs)) := Ex.new gp
  have ex2 : Ex (upd G' p (.lst vs)) H' := fun b u q => by
    by_cases hb : b = p
    · subst hb; rw [upd_same] at q; rw [hh]; exact q
    · rw [upd_ne hb] at q; exact af.en.ex b u q
  have nm : ∀ q, Mt σ ρ q → q ≠ p := fun q m z => by
    obtain ⟨_, ws, e⟩ := a.mtH m
    rw [z] at e; exact nl_lst e hp
  have af' : Af X.K σ G H ρ (upd G' p (.lst vs)) H' q.2 := ⟨⟨af.st.ex.trans e2, fun b us h1 h2 => by
      by_cases hb : b = p
      · subst hb; exact absurd hp (nl_lst h1)
      · rw [upd_ne hb] at h2; exact af.st.nw b us h1 h2, af.st.fr, af.st.li, fun t => (af.st.tb t).g (fun _ z => nomatch z), af.st.ls⟩, ⟨ex2, af.en.len, fun i s en h1 h2 => by
      have q1 := af.en.sl i s en h1 h2
      cases s with
      | u => exact True.intro
      | d x => obtain ⟨v, k1, k2⟩ := q1; exact ⟨v, k1, k2.up e2⟩
      | m xs =>
        obtain ⟨b, ws, k1, k2, k3, k4⟩ := q1
        subst k1
        have m1 : Mt σ ρ b := (af.mt b).mp ⟨i, xs, h1, h2⟩
        exact ⟨b, ws, rfl, by rw [upd_ne (nm b m1)]; exact k2, k3, k4.up e2⟩
      | k kvs => exact k_up q1 e2
      | x b P => exact x_up q1 e2
      | s ns => obtain ⟨b, k1, k2⟩ := q1; exact ⟨b, k1, ex_l e2 k2⟩, af.en.dj, af.en.tb.g (fun _ z => nomatch z)⟩, af.sh⟩
  exact hq (upd G' p (.lst vs)) H' af' _ (.lst upd_same (av.up e2))
variable {n : Nat}
theorem sd_setLc2 (i : Nat) {y : Str} {py : Pos} {elt tg iter tg1 iter1 : Expr} {ifs ifs1 : List Expr} {scope : Scope} {own : List (Str × Nat)} {vs1 is is1 : List Nat} {pos spos : Pos} {F F1 : AF} {g g1 : GF} {t t1 : TF} {f : EF} (hc : X.calm = true) (hN : X.N.Nodup) (hyl : X.env.scope.names.lookup y = some .local)
    (hsw : swapsWith (.ListComp elt [⟨tg, iter, ifs, 0⟩, ⟨tg1, iter1, ifs1, 0⟩] scope pos) (some (.Name y py)) spos.line X.env = pure true) (ok : BlkOk X.N X.env.scope scope own) (his : ∀ i ∈ is, i ∈ own.map (·.2)) (his1 : ∀ i ∈ is1, i ∈ vs1) (hvs : ∀ i ∈ vs1, i ∈ own.map (·.2))
    (hi : ID X W tg iter F) (hg : ∀ (s : Shared) (H : Hp) (C : Addr) (cl : List (Str × Addr)) (fp : List Addr), GD (X.blk s H scope (compEnvC scope cl C X.env) fp) is tg g)
    (ht : ∀ (s : Shared) (H : Hp) (C : Addr) (cl : List (Str × Addr)) (fp : List Addr), TsD (X.blk s H scope (compEnvC scope cl C X.env) fp) W0 ifs t)
    (hi1 : ∀ (s : Shared) (H : Hp) (C : Addr) (cl : List (Str × Addr)) (fp : List Addr), ID (X.blk s H scope (compEnvC scope cl C X.env) fp) W0 tg1 iter1 F1)
    (hg1 : ∀ (s : Shared) (H : Hp) (C : Addr) (cl : List (Str × Addr)) (fp : List Addr), GD (X.blk s H scope (compEnvC scope cl C X.env) fp) is1 tg1 g1)
    (ht1 : ∀ (s : Shared) (H : Hp) (C : Addr) (cl : List (Str × Addr)) (fp : List Addr), TsD (X.blk s H scope (compEnvC scope cl C X.env) fp) W0 ifs1 t1)
    (he : ∀ (s : Shared) (H : Hp) (C : Addr) (cl : List (Str × Addr)) (fp : List Addr), ED (X.blk s H scope (compEnvC scope cl C X.env) fp) W0 elt f) (hy : X.N[i]? = some y := by rfl) (hs : ∀ x, foldedSetIterable iter X.env x = pure x := by intro _; rfl) (hs1 : ∀ env x, foldedSetIterable iter1 env x = pure x := by intro _ _; rfl) :
    SD X W n (.Assign [.Name y py] (.ListComp elt [⟨tg, iter, ifs, 0⟩, ⟨tg1, iter1, ifs1, 0⟩] scope pos) spos) (sAsg (eLc2 F g t F1 g1 t1 f (own.map (·.2)) vs1) (setD i)) := by
  obtain ⟨wi, p, r⟩ := hi
  refine ⟨_, ps_setLc2 (i := i) (g := tG X.K is g) (tt := tT X.K X.mg W0 t) (wi1 := tI X.K X.mg W0 F1) (g1 := tG X.K is1 g1) (tt1 := tT X.K X.mg W0 t1) (te := tE X.K X.mg W0 f) hc hN hy hyl hsw p ok hvs (fun s H C cl fp => (hg s H C cl fp).can) (fun s H C cl fp => ht s H C cl fp) (fun s H C cl fp => (hi1 s H C cl fp).can) (fun s H C cl fp => (hg1 s H C cl fp).can) (fun s H C cl fp => ht1 s H C cl fp) (fun s H C cl fp => (he s H C cl fp).can) hs hs1, fun B D' G H σ ρ es h => ?_⟩
  have h' : wp (eLc20 F g t F1 g1 t1 f (own.map (·.2)) vs1 ρ) (fun r => wp (li (setD i (.list r.1) r.2) >>= fun ρ' => R.ok (Fl.nx ρ')) (QS X.K B n D') (QX X.mg X.K B W)) (QX X.mg X.K B W) := by
    have h2 := wp_bind.mp h
    have h3 := wp_bind.mp h2
    exact wp_mono h3 (fun _ z => z) fun _ z => z
  refine lc2_core (W := W) his his1 hvs r G H σ ρ _ es.en (wp_mono h' (fun q hq p vs G' H' af hp gp hh av => ?_) fun _ z => z.gv es)
  cases qs : setD i (.list q.1) q.2 with
  | none => simp only [qs] at hq; exact hq.elim
  | some ρ' =>
    simp only [qs, li_some, bind_ok] at hq
    have e2 : Ex G' (upd G' p (.lst vs)) := Ex.new gp
    have ex2 : Ex (upd G' p (.lst vs)) H' := fun b u z => by
      by_cases hb : b = p
      · subst hb; rw [upd_same] at z; rw [hh]; exact z
      · rw [upd_ne hb] at z; exact af.en.ex b u z
    have nm : ∀ q, Mt σ ρ q → q ≠ p := fun q m z => by
      obtain ⟨_, ws, e⟩ := es.en.mtH m
      rw [z] at e; exact nl_lst e hp
    have af' : Af X.K σ G H ρ (upd G' p (.lst vs)) H' q.2 := ⟨⟨af.st.ex.trans e2, fun b us h1 h2 => (by
        by_cases hb : b = p
        · subst hb; exact absurd hp (nl_lst h1)
        · rw [upd_ne hb] at h2; exact af.st.nw b us h1 h2), af.st.fr, af.st.li, fun t => (af.st.tb t).g (fun _ z => nomatch z), af.st.ls⟩, ⟨ex2, af.en.len, fun i s en h1 h2 => (by
        have q1 := af.en.sl i s en h1 h2
        cases s with
        | u => exact True.intro
        | d x => obtain ⟨v, k1, k2⟩ := q1; exact ⟨v, k1, k2.up e2⟩
        | m xs =>
          obtain ⟨b, ws, k1, k2, k3, k4⟩ := q1
          subst k1
          have m1 : Mt σ ρ b := (af.mt b).mp ⟨i, xs, h1, h2⟩
          exact ⟨b, ws, rfl, by rw [upd_ne (nm b m1)]; exact k2, k3, k4.up e2⟩
        | k kvs => exact k_up q1 e2
        | x b P => exact x_up q1 e2
        | s ns => obtain ⟨b, k1, k2⟩ := q1; exact ⟨b, k1, ex_l e2 k2⟩), af.en.dj, af.en.tb.g (fun _ z => nomatch z)⟩, af.sh⟩
    obtain ⟨a', t'⟩ := setD_at (v := .ref p) af'.en (.lst upd_same (av.up e2)) qs
    exact hq _ _ H' ((es.af af').tg a' t')
end
end Pd
end

section
/-! PdT: raise, try. -/
namespace Pd
open PySem L2 Evl PyProof.Rows
/-! ### own exception classes -/
structure ExF (mg : Str → Option Value) (K : Fg) (x : Str) : Prop where
  ex : ∃ C, mg x = some (.ref C) ∧ PySem.W.excIn K C He.veBase "ValueError.__new__" = true ∧ PySem.W.keepIn K (.ref C) = true ∧ PySem.W.subIn K (.ref C) (.type "BaseException") = some true ∧ PySem.W.typeIn K (.ref C) = some (.type "type")
theorem exf_ok {K : Fg} {mg : Str → Option Value} {h : Heap} {x : Str} (X : K.In h) (G : h.Ns mainGlobals mg) (c : (He.Fa.glo x).ok K = true) (c2 : (He.Fa.exc x).ok K = true) : ExF mg K x := by
  obtain ⟨h1, h2, h3, h4⟩ := He.exc_ok c2
  exact ⟨_, He.glo_ok X G c, h1, h2, h3, h4⟩
theorem sd_raise {X : Cx} {W : WX} {n : Nat} {x m : Str} {j : Nat} {p p2 pos pos2 : Pos} (hc : X.calm = true) (tk : L2N.Takes X W) (F : ExF X.mg X.K x) (hg : Gl X x) (hdb : (x == ("__debug__" : Str)) = false := by decide) :
    SD X W n (.Raise (some (.Call (.Name x p) [.Constant (.str m) j p2] [] pos)) none pos2) (sRaise x) := by
  obtain ⟨C, h1, h2, h3, h4, h5⟩ := F.ex
  refine ⟨_, L2N.ps_raise hc tk (L2N.pmk_own PySem.F.excBase_ValueError h2 h1 h3 (raises_own h4 h5) hg hdb), fun B D' G H σ ρ e h => ?_⟩
  exact h (.ref C) none σ G H e.st ⟨e.en.ex, ⟨C, h1, rfl⟩, rfl⟩
/-! ### which class is under which -/
abbrev ET := List (Str × Str × Bool)
def tabF (l : ET) (x y : Str) : Option Bool := (l.find? fun t => decide (t.1 = x) && decide (t.2.1 = y)).map (·.2.2)
def ClsV (mg : Str → Option Value) (y : Str) (v : Value) : Prop := mg y = some v ∨ (mg y = none ∧ bootBuiltins y = some v ∧ y ≠ "__name__")
theorem ClsV.uniq {mg : Str → Option Value} {y : Str} {v v' : Value} (h : ClsV mg y v) (h' : ClsV mg y v') : v = v' := by
  rcases h with h | ⟨h1, h2, _⟩ <;> rcases h' with k | ⟨k1, k2, _⟩
  · rw [h] at k; exact Option.some.inj k
  · rw [h] at k1; cases k1
  · rw [h1] at k; cases k
  · rw [h2] at k2; exact Option.some.inj k2
def ExmF (mg : Str → Option Value) (K : Fg) (l : ET) : Prop := ∀ t ∈ l, ∃ C v, mg t.1 = some (.ref C) ∧ ClsV mg t.2.1 v ∧ PySem.W.exmOne K (.ref C) v = some t.2.2
def IsxF (mg : Str → Option Value) (K : Fg) (l : ET) : Prop := ∀ t ∈ l, ∃ C v, mg t.1 = some (.ref C) ∧ ClsV mg t.2.1 v ∧ PySem.W.kitOne K (.ref C) v = some t.2.2 ∧ L2.ExcC K C
theorem tabF_mem {l : ET} {x y : Str} {b : Bool} (h : tabF l x y = some b) : (x, y, b) ∈ l := by
  unfold tabF at h
  cases q : l.find? fun t => decide (t.1 = x) && decide (t.2.1 = y) with
  | none => rw [q] at h; cases h
  | some t =>
    rw [q] at h
    have h1 := List.find?_some q
    have h2 := List.mem_of_find?_eq_some q
    simp only [Bool.and_eq_true, decide_eq_true_eq] at h1
    obtain ⟨t1, t2, t3⟩ := t
    have h3 : t3 = b := Option.some.inj h
    obtain ⟨e1, e2⟩ := h1
    simp only at e1 e2
    subst e1 e2 h3
    exact h2
/-- what is known of an exception that is caught -/
def XcAt (mg : Str → Option Value) (c : Xc) (cls : Value) (d : Option Addr) : Prop := (∃ C, mg c.cls = some (.ref C) ∧ cls = .ref C) ∧ (c.pay = none → d = none)
theorem AtX.xc {mg : Str → Option Value} {K : Fg} {G H : Hp} {c : Xc} {cls : Value} {d : Option Addr} (h : AtX mg K G H c cls d) : XcAt mg c cls d := ⟨h.cl, fun e => by
  have := h.pay
  rw [e] at this
  exact this⟩
/-! ### try: one expression, except clauses -/
abbrev HS := Addr → Xc → SF
@[simp] def unX (i : Nat) : Fl → R Fl
  | .nx ρ => if freeAt i ρ = true then .ok (.nx (ρ.set i .u)) else .bad
  | .rt d ρ => if freeAt i ρ = true then .ok (.rt d (ρ.set i .u)) else .bad
  | .bk ρ => if freeAt i ρ = true then .ok (.bk (ρ.set i .u)) else .bad
  | .ct ρ => if freeAt i ρ = true then .ok (.ct (ρ.set i .u)) else .bad
@[simp] def hIn (o : Option Nat) (S : HS) (c : Xc) (ρ : List Sl) (a : Addr) : R Fl := match o with
  | none => S a c ρ
  | some i => if freeAt i ρ = true then S a c (ρ.set i (.x a fun _ => True)) >>= fun fl => unX i fl else .bad
open Classical in
noncomputable def hdS (o : Option Nat) (S : HS) (c : Xc) (ρ : List Sl) : R Fl := if ∀ a, hIn o S c ρ a = hIn o S c ρ 0 then noEx (hIn o S c ρ 0) else .bad
theorem hdS_eq {o : Option Nat} {S : HS} {c : Xc} {ρ : List Sl} {r : R Fl} (h : ∀ a, hIn o S c ρ a = r) : hdS o S c ρ = noEx r := by
  unfold hdS
  rw [if_pos fun a => (h a).trans (h 0).symm, h 0]
noncomputable def hRun (l : ET) (c : Xc) (ρ : List Sl) : List (Str × Option Nat × HS) → R Fl
  | [] => .ex c
  | (y, o, S) :: r => match tabF l c.cls y with
    | some true => hdS o S c ρ
    | some false => hRun l c ρ r
    | none => .bad
def noMs (ρ : List Sl) : Bool := ρ.all fun s => match s with
  | .m _ => false
  | _ => true
@[simp] noncomputable def sTryE (ret : Bool) (l : ET) (f : EF) (hs : List (Str × Option Nat × HS)) : SF := fun ρ => if noMs ρ = true then (match f ρ with
  | .ok r => if ret = true then .ok (.rt r.1 r.2) else .ok (.nx r.2)
  | .ex c => hRun l c ρ hs
  | .bad => .bad) else .bad
theorem noMs_ok {ρ : List Sl} (h : noMs ρ = true) (i : Nat) (xs : List D) : ρ[i]? ≠ some (Sl.m xs) := fun e => by
  have := List.all_eq_true.mp h _ (List.mem_of_getElem? e)
  cases this
theorem noMs_mt {σ : L2.St} {ρ : List Sl} (h : noMs ρ = true) (p : Addr) : ¬ Mt σ ρ p := fun ⟨i, xs, e, _⟩ => noMs_ok h i xs e
section
variable {K : Fg} {G H : Hp} {σ : L2.St} {ρ : List Sl}
theorem freeAt_ok {i : Nat} (h : freeAt i ρ = true) : (∀ xs, ρ[i]? ≠ some (Sl.m xs)) ∧ i < ρ.length := by
  unfold freeAt at h
  split at h
  · cases h
  · cases h
  · rename_i s hm e
    exact ⟨fun xs z => hm xs (Option.some.inj (e.symm.trans z)), (List.getElem?_eq_some_iff.mp e).1⟩
/-- a slot is set to what is no own list -/
theorem setS_at {i : Nat} {o : Option V} {s : Sl} (a : AtE K G H σ ρ) (av : AtS K G H o s) (hs : ∀ xs, s ≠ .m xs) (h : freeAt i ρ = true) : AtE K G H (σ.set i o) (ρ.set i s) ∧ TgR [i] σ ρ (σ.set i o) (ρ.set i s) := by
  obtain ⟨hm, hi⟩ := freeAt_ok h
  have hi2 : i < σ.length := by rw [← a.len]; exact hi
  have ne : ∀ {j : Nat} {xs : List D}, (ρ.set i s)[j]? = some (Sl.m xs) → i ≠ j := fun {j xs} z q => by
    subst q
    rw [List.getElem?_set_self hi] at z
    exact hs xs (Option.some.inj z)
  refine ⟨⟨a.ex, by rw [List.length_set, List.length_set]; exact a.len, fun j s' en h1 h2 => ?_, fun j k p xs ys h1 h2 h3 h4 => ?_, a.tb⟩, by rw [List.length_set], fun j hj => ?_, fun j hj => ?_⟩
  · by_cases q : i = j
    · subst q
      rw [List.getElem?_set_self hi] at h1
      rw [List.getElem?_set_self hi2] at h2
      cases h1; cases h2
      exact av
    · rw [List.getElem?_set_ne q] at h1 h2
      exact a.sl j s' en h1 h2
  · have q1 := ne h1
    have q2 := ne h2
    rw [List.getElem?_set_ne q1] at h1 h3
    rw [List.getElem?_set_ne q2] at h2 h4
    exact a.dj j k p xs ys h1 h2 h3 h4
  · have q : i ≠ j := fun z => hj (by rw [z]; exact List.mem_singleton.mpr rfl)
    exact ⟨List.getElem?_set_ne q, List.getElem?_set_ne q⟩
  · have q : j = i := List.mem_singleton.mp hj
    subst q
    exact ⟨hm, fun xs z => ne z rfl⟩
end
/-! ### the rule -/
/-- what the clauses wish -/
def wCl (K : Fg) (N : Nat) (Wout : WX) (D : Ends) : List (Value × Option Nat × (Addr → Value → Option Addr → TS)) → WX
  | [] => Wout
  | (v, o, ts) :: r => fun cls d σ H => ∃ b, PySem.W.exmOne K cls v = some b ∧ (b = true → σ.length = N → ∀ a, H a = none → match o with
      | none => ts a cls d D σ H
      | some i => ts a cls d { nx := fun σ' H' => D.nx (σ'.set i none) H', rt := D.rt, bk := fun σ' H' => D.bk (σ'.set i none) H', ct := fun σ' H' => D.ct (σ'.set i none) H' } (σ.set i (some (.ref a))) H) ∧ (b = false → wCl K N Wout D r cls d σ H)
/-- the clauses, their readings -/
inductive ClOk (X : Cx) : List ExceptHandler → List (Value × Option Nat × (Addr → Value → Option Addr → TS)) → Prop
  | nil : ClOk X [] []
  | bare {y : Str} {v : Value} {ts : Addr → Value → Option Addr → TS} {s₀ : Stmt} {ss : List Stmt} {q1 q2 : Pos} {hs : List ExceptHandler} {l : List (Value × Option Nat × (Addr → Value → Option Addr → TS))} (nm : Names X y v)
      (su : ∀ (a : Addr) (oe : Obj) (cls : Value) (d : Option Addr) (pn : List (Addr × Obj)), L2N.Zn cls d oe → (∃ vs, oe.data = .fields vs) → PSs (X.suite a ((a, oe) :: pn)) (s₀ :: ss) (ts a cls d)) (r : ClOk X hs l) :
      ClOk X (.ExceptHandler (some (.Name y q1)) none (s₀ :: ss) q2 :: hs) ((v, none, ts) :: l)
  | named {y n : Str} {i : Nat} {v : Value} {ts : Addr → Value → Option Addr → TS} {s₀ : Stmt} {ss : List Stmt} {q1 q2 : Pos} {hs : List ExceptHandler} {l : List (Value × Option Nat × (Addr → Value → Option Addr → TS))} (nm : Names X y v)
      (hi : X.N[i]? = some n) (hn : X.env.kindOf n = some .local)
      (su : ∀ (a : Addr) (oe : Obj) (cls : Value) (d : Option Addr) (pn : List (Addr × Obj)), L2N.Zn cls d oe → (∃ vs, oe.data = .fields vs) → PSs (X.suite a ((a, oe) :: pn)) (s₀ :: ss) (ts a cls d)) (r : ClOk X hs l) :
      ClOk X (.ExceptHandler (some (.Name y q1)) (some n) (s₀ :: ss) q2 :: hs) ((v, some i, ts) :: l)
section
variable {X : Cx} {W : WX}
/-- an exception that has landed, the state at hand -/
theorem clauses_run (hN : X.N.Nodup) (st : X.stack = X.env :: X.outer) (fr : X.env.frame = some X.env.locals) (tk : L2N.Takes X W) {pins : List (Addr × Obj)} {σ : L2.St} {H : Hp} {sI s : Shared} {D : Ends} {a : Addr} {B : Heap} {cls : Value} {d : Option Addr} (J : Inv X pins σ H sI)
    (nb : ∀ b o, sI.heap.get? b = some o → b ∉ frs X.stack → B.get? b = some o) (up : sI.heap.UpToSlots s.heap) (fly : HandSPX.FlyingZ B (X.env :: X.outer) a (L2N.Zn cls d) s.heap) (na : H a = none) (os : s.os = sI.os) (ag : AllBare s.gens)
    {hs : List ExceptHandler} {l : List (Value × Option Nat × (Addr → Value → Option Addr → TS))} (ok : ClOk X hs l) : wCl X.K X.N.length W D l cls d σ H → wpAny (model X.prog X.w) X.A (handleBy (.ref a) X.env hs) (SP X pins D) X.xe s := by
  have xok := J.ok
  -- a frame holds no exception
  have apart : ∀ {h : Heap} {o : Obj} {vs : Array Value}, h.FunFrames B (X.env :: X.outer) → h.get? a = some o → o.data = .fields vs → a ≠ X.env.locals ∧ a ∉ X.fs := fun {h o vs} ff e dd => by
    have out : a ∉ frs (X.env :: X.outer) := fun hm => by
      obtain ⟨_, o2, e2, hnf⟩ := ff.mem hm
      rw [e] at e2
      cases e2
      exact hnf vs dd
    refine ⟨fun z => out ?_, fun hm => out ?_⟩
    · exact List.mem_filterMap.mpr ⟨_, List.mem_cons_self, by rw [fr, z]⟩
    · obtain ⟨e1, he, q⟩ := List.mem_filterMap.mp hm
      exact List.mem_filterMap.mpr ⟨e1, List.mem_cons_of_mem _ he, q⟩
  obtain ⟨oe, vs, he, hz, hd⟩ := fly.there
  have I0 : Inv X pins σ H s := by
    have := J.landed nb fly.1 up os ag
    exact this
  obtain ⟨nL, nF⟩ := apart fly.2.2.1 he hd
  have S0 := I0.suite he hd na nL nF
  -- does a clause's class fit?
  have fits : ∀ {y : Str} {v : Value} {q : Pos} {b : Bool} {Q : Bool → Shared → Prop} {E : Value → Shared → Prop}, Names X y v → PySem.W.exmOne X.K cls v = some b → Q b s →
      wpAny (model X.prog X.w) (X.A.mark (some (.ref a))) (eval (.Name y q) X.env) (fun u s' => u = v ∧ s' = s) E s := fun {y v q b Q E} nm _ _ => by
    obtain ⟨hg, hdbg, hm | ⟨hm, hv, hnn⟩⟩ := nm
    · exact ld_glob (X := X.suite a ((a, oe) :: (X.pn ++ pins))) S0 hg hm ⟨rfl, rfl⟩ hdbg
    · exact ld_blt (X := X.suite a ((a, oe) :: (X.pn ++ pins))) S0 hg hm hv ⟨rfl, rfl⟩ hnn hdbg
  have look : PySem.W.Looks (model X.prog X.w) s.heap (typeOf (.ref a)) cls := fun A Q E s1 k q => wpAny_typeOf_ref (k _ _ he) (by rw [hz.1]; exact q)
  -- a suite's ground
  have ground : ∀ {h2 : Heap}, HandSPX.FlyingZ B (X.env :: X.outer) a (L2N.Zn cls d) h2 → s.heap.UpToSlots h2 → ∃ oe, L2N.Zn cls d oe ∧ (∃ vs, oe.data = .fields vs) ∧ Inv X pins σ H { s with heap := h2 } ∧ Inv (X.suite a ((a, oe) :: (X.pn ++ pins))) [] σ H { s with heap := h2 } := fun {h2} f2 u2 => by
    obtain ⟨o2, vs2, e2, z2, d2⟩ := f2.there
    have I2 : Inv X pins σ H { s with heap := h2 } := J.landed nb f2.1 (up.trans u2) os ag
    obtain ⟨n1, n2⟩ := apart f2.2.2.1 e2 d2
    exact ⟨o2, z2, ⟨vs2, d2⟩, I2, I2.suite e2 d2 na n1 n2⟩
  induction ok with
  | nil =>
    intro w
    refine wpAny_handleBy_nil ?_
    obtain ⟨_, _, _, oe1, vs1, T, oT, ts1, he1, _, hd1, h1, _⟩ := id fly
    unfold PySem.passOn
    refine wpAny_bind (wpAny_field he1 hd1 h1 ?_)
    rw [if_neg (by simp : ¬ ((Value.ref T == Value.none) = true))]
    have go : wpAny (model X.prog X.w) X.A (setFlight (.ref a) X.env.frame) (fun _ s4 => wpAny (model X.prog X.w) X.A (throw (.ref a) : Sem Flow) (SP X pins D) X.xe s4) X.xe s := by
      rw [fr]
      refine HandSPX.setFlight_upZ fly fun h4 held u4 => wpAny_throw (tk _ _ ⟨a, B, sI, pins, σ, H, cls, d, rfl, J, nb, up.trans u4, ?_, na, os, ag, w⟩)
      refine .inr (.inr ?_)
      rw [st]
      exact held
    first
      | exact wpAny_bind (wpAny_pure (wpAny_bind go))
      | exact wpAny_bind go
  | @bare y v ts s₀ ss q1 q2 hs l nm su r ih =>
    rintro ⟨b, hb, yes, no⟩
    refine wpAny_handleBy_cons (codeAny_handlers_test ?_) (by intro q; cases q)
    refine thn (fits (Q := fun _ _ => True) nm hb trivial) fun u s' ⟨eu, es⟩ => ?_
    subst eu es
    refine (PySem.W.exm_one (M := model X.prog X.w) I0.kIn look hb).here ?_
    cases b with
    | false => exact ih (no rfl)
    | true =>
      refine codeAny_handlers_suite (HandSPX.lands_againZ fly fun h4 f4 u4 => ?_)
      obtain ⟨o4, z4, d4, I4, S4⟩ := ground f4 u4
      refine wpAny_mono ((su a o4 cls d _ z4 d4).run [] _ _ H _ S4 (yes rfl I4.len a na)) (fun f s6 hsp => ?_) fun _ _ z => z.elim
      cases f with
      | next => obtain ⟨σ6, H6, S6, q6⟩ := hsp; exact ⟨σ6, H6, S6.unsuite xok, q6⟩
      | brk => obtain ⟨σ6, H6, S6, q6⟩ := hsp; exact ⟨σ6, H6, S6.unsuite xok, q6⟩
      | cont => obtain ⟨σ6, H6, S6, q6⟩ := hsp; exact ⟨σ6, H6, S6.unsuite xok, q6⟩
      | ret u => obtain ⟨v6, σ6, H6, S6, r6, q6⟩ := hsp; exact ⟨v6, σ6, H6, S6.unsuite xok, r6, q6⟩
  | @named y n i v ts s₀ ss q1 q2 hs l nm hi hn su r ih =>
    rintro ⟨b, hb, yes, no⟩
    refine wpAny_handleBy_cons (codeAny_handlers_test ?_) (by intro q; cases q)
    refine thn (fits (Q := fun _ _ => True) nm hb trivial) fun u s' ⟨eu, es⟩ => ?_
    subst eu es
    refine (PySem.W.exm_one (M := model X.prog X.w) I0.kIn look hb).here ?_
    cases b with
    | false => exact ih (no rfl)
    | true =>
      refine codeAny_handlers_suite_as (HandSPX.lands_againZ fly fun h4 f4 u4 => ?_)
      obtain ⟨o4, z4, d4, I4, S4⟩ := ground f4 u4
      refine store_ok (X := X.suite a ((a, o4) :: (X.pn ++ pins))) (v := .ref a) S4 hN hi (.inl hn) rfl (fun s5 S5 => ?_) (.inr hn)
      refine wpAny_mono ((su a o4 cls d _ z4 d4).run [] s5 _ H _ S5 (yes rfl I4.len a na)) (fun f s6 hsp => ?_) fun _ _ z => z.elim
      have gone : ∀ {σ6 : L2.St} {H6 : Hp} {Q : Shared → Prop}, Inv (X.suite a ((a, o4) :: (X.pn ++ pins))) [] σ6 H6 s6 → (∀ s7, Inv X pins (σ6.set i none) H6 s7 → Q s7) →
          wpAny (model X.prog X.w) X.A (do bindName X.env n .none; unbindBehindTheSuite X.env n q2) (fun _ s7 => Q s7) X.xe s6 := fun {σ6 H6 Q} S6 k => gone_ok (S6.unsuite xok) hN hi hn k
      cases f with
      | next => obtain ⟨σ6, H6, S6, q6⟩ := hsp; exact gone S6 fun s7 J7 => ⟨_, H6, J7, q6⟩
      | brk => obtain ⟨σ6, H6, S6, q6⟩ := hsp; exact gone S6 fun s7 J7 => ⟨_, H6, J7, q6⟩
      | cont => obtain ⟨σ6, H6, S6, q6⟩ := hsp; exact gone S6 fun s7 J7 => ⟨_, H6, J7, q6⟩
      | ret u => obtain ⟨v6, σ6, H6, S6, r6, q6⟩ := hsp; exact gone S6 fun s7 J7 => ⟨v6, _, H6, J7, r6, q6⟩
end
end Pd
end

section
/-! PdT2: a try statement in the layer. -/
namespace Pd
open PySem L2 Evl PyProof.Rows
section
variable {X : Cx} {W : WX}
theorem ps_tryX {body : List Stmt} {h₀ : ExceptHandler} {hs : List ExceptHandler} {l : List (Value × Option Nat × (Addr → Value → Option Addr → TS))} {pos : Pos} {tb : WX → TS} (hN : X.N.Nodup) (st : X.stack = X.env :: X.outer) (fr : X.env.frame = some X.env.locals) (tk : L2N.Takes X W)
    (hb : ∀ (U : WX) (pn : List (Addr × Obj)) (xe : Value → Shared → Prop), L2N.Takes (X.tr pn xe) U → PSs (X.tr pn xe) body (tb U)) (ok : ClOk X (h₀ :: hs) l) :
    PS X (.Try body (h₀ :: hs) [] [] pos) (fun D σ H => tb (wCl X.K X.N.length W D l) D σ H) := by
  refine ⟨fun pins s σ H D I h => wpAny_Try_except ?_⟩
  have xok := I.ok
  have frs_ : X.A.frames = some (X.env :: X.outer) := by rw [xok.frames, st]
  have bd := (hb (wCl X.K X.N.length W D l) (X.pn ++ pins) (fun e s₁ => wpAny (model X.prog X.w) X.A (noteFrame e X.env) (fun _ s₂ => wpAny (model X.prog X.w) X.A (setFlight e none) (fun _ s₃ => wpAny (model X.prog X.w) X.A (handleBy e X.env (h₀ :: hs)) (SP X pins D) X.xe s₃) X.xe s₂) X.xe s₁) fun u s' xx => by
    obtain ⟨a, B, sI, pins', σ', H', cls, d, rfl, J', nb, up, sky, na, os, ag, w⟩ := xx
    have J : Inv X pins σ' H' sI := J'.ofTry xok
    show wpAny (model X.prog X.w) X.A (noteFrame (.ref a) X.env) _ _ _
    refine L2N.Sky.land L2N.Zn.steady frs_ fr (by rw [← st]; exact sky) fun h3 fl3 u3 => ?_
    exact clauses_run hN st fr tk (s := { s' with heap := h3 }) J nb (up.trans u3) fl3 na os ag ok w).run [] s σ H D (I.toTry _) h
  refine wpAny_mono bd (fun f s1 hsp => ?_) fun e s1 he => he
  cases f with
  | next => obtain ⟨σ', H', J', q⟩ := hsp; exact wpAny_execs_nil ⟨σ', H', J'.ofTry xok, q⟩
  | brk => obtain ⟨σ', H', J', q⟩ := hsp; exact ⟨σ', H', J'.ofTry xok, q⟩
  | cont => obtain ⟨σ', H', J', q⟩ := hsp; exact ⟨σ', H', J'.ofTry xok, q⟩
  | ret u => obtain ⟨v, σ', H', J', r, q⟩ := hsp; exact ⟨v, σ', H', J'.ofTry xok, r, q⟩
/-- a suite's reading: for whatever exception it is -/
def tSu (K : Fg) (mg : Str → Option Value) (n : Nat) (S : HS) (a : Addr) (cls : Value) (d : Option Addr) : TS := fun D σ H => ∃ (c : Xc) (B : Bd) (G : Hp) (ρ : List Sl), XcAt mg c cls d ∧ EnS K B n G H σ ρ ∧ wp (S a c ρ) (QS K B n D) (fun _ => False)
/-- the suites, in the layer -/
inductive ClD (X : Cx) (n : Nat) : List ExceptHandler → List (Str × Option Nat × HS) → List (Value × Option Nat × (Addr → Value → Option Addr → TS)) → Prop
  | nil : ClD X n [] [] []
  | cons {y : Str} {o : Option Nat} {v : Value} {S : HS} {hd : ExceptHandler} {hs : List ExceptHandler} {l : List (Str × Option Nat × HS)} {m : List (Value × Option Nat × (Addr → Value → Option Addr → TS))} (hv : ClsV X.mg y v)
      (ok : ∀ {hs' : List ExceptHandler} {m' : List (Value × Option Nat × (Addr → Value → Option Addr → TS))}, ClOk X hs' m' → ClOk X (hd :: hs') ((v, o, tSu X.K X.mg n S) :: m')) (ho : ∀ i, o = some i → n ≤ i) (r : ClD X n hs l m) : ClD X n (hd :: hs) ((y, o, S) :: l) ((v, o, tSu X.K X.mg n S) :: m)
theorem ClD.ok {n : Nat} {hs : List ExceptHandler} {l : List (Str × Option Nat × HS)} {m : List (Value × Option Nat × (Addr → Value → Option Addr → TS))} (h : ClD X n hs l m) : ClOk X hs m := by
  induction h with
  | nil => exact .nil
  | cons _ ok _ _ ih => exact ok ih
abbrev SuD (X : Cx) (n : Nat) (ss : List Stmt) (S : HS) : Prop := ∀ (a : Addr) (oe : Obj) (cls : Value) (d : Option Addr) (pn : List (Addr × Obj)) (c : Xc), L2N.Zn cls d oe → (∃ vs, oe.data = .fields vs) → XcAt X.mg c cls d → SDs (X.suite a ((a, oe) :: pn)) W0 n ss (S a c)
theorem su_pss {n : Nat} {ss : List Stmt} {S : HS} (h : SuD X n ss S) (a : Addr) (oe : Obj) (cls : Value) (d : Option Addr) (pn : List (Addr × Obj)) (z : L2N.Zn cls d oe) (f : ∃ vs, oe.data = .fields vs) : PSs (X.suite a ((a, oe) :: pn)) ss (tSu X.K X.mg n S a cls d) :=
  ⟨fun pins s σ H D I k => by
    obtain ⟨c, B, G, ρ, xa, e, w⟩ := k
    obtain ⟨t, p, r⟩ := h a oe cls d pn c z f xa
    exact p.run pins s σ H D I (r B D G H σ ρ e (wp_mono w (fun _ q => q) fun _ q => q.elim))⟩
theorem cld_bare {n : Nat} {y : Str} {v : Value} {s₀ : Stmt} {ss : List Stmt} {q1 q2 : Pos} {S : HS} {hs : List ExceptHandler} {l : List (Str × Option Nat × HS)} {m : List (Value × Option Nat × (Addr → Value → Option Addr → TS))} (hv : ClsV X.mg y v) (hg : Gl X y) (h : SuD X n (s₀ :: ss) S) (r : ClD X n hs l m)
    (hdb : (y == ("__debug__" : Str)) = false := by decide) : ClD X n (.ExceptHandler (some (.Name y q1)) none (s₀ :: ss) q2 :: hs) ((y, none, S) :: l) ((v, none, tSu X.K X.mg n S) :: m) :=
  .cons hv (fun k => .bare ⟨hg, hdb, hv⟩ (su_pss h) k) (fun _ z => nomatch z) r
theorem cld_as {n : Nat} (i : Nat) {y nm : Str} {v : Value} {s₀ : Stmt} {ss : List Stmt} {q1 q2 : Pos} {S : HS} {hs : List ExceptHandler} {l : List (Str × Option Nat × HS)} {m : List (Value × Option Nat × (Addr → Value → Option Addr → TS))} (hv : ClsV X.mg y v) (hg : Gl X y) (h : SuD X n (s₀ :: ss) S) (r : ClD X n hs l m)
    (hi : X.N[i]? = some nm := by rfl) (hn : X.env.kindOf nm = some .local := by rfl) (hni : n ≤ i := by decide)
    (hdb : (y == ("__debug__" : Str)) = false := by decide) : ClD X n (.ExceptHandler (some (.Name y q1)) (some nm) (s₀ :: ss) q2 :: hs) ((y, some i, S) :: l) ((v, some i, tSu X.K X.mg n S) :: m) :=
  .cons hv (fun k => .named ⟨hg, hdb, hv⟩ hi hn (su_pss h) k) (fun j z => by cases z; exact hni) r
/-- what a suite with a name leaves -/
theorem qs_un {K : Fg} {B : Bd} {n i : Nat} {D : Ends} {fl : Fl} (hni : n ≤ i) (h : wp (unX i fl) (QS K B n D) fun _ => False) : QS K B n { nx := fun σ' H' => D.nx (σ'.set i none) H', rt := D.rt, bk := fun σ' H' => D.bk (σ'.set i none) H', ct := fun σ' H' => D.ct (σ'.set i none) H' } fl := by
  have un : ∀ {ρ : List Sl} {σ' : L2.St} {G' H' : Hp}, freeAt i ρ = true → EnS K B n G' H' σ' ρ → EnS K B n G' H' (σ'.set i none) (ρ.set i .u) := fun {ρ σ' G' H'} hf en => by
    obtain ⟨a, t⟩ := setS_at (i := i) (o := none) (s := .u) en.en trivial (fun _ z => nomatch z) hf
    exact en.tg a t
  cases fl with
  | nx ρ =>
    by_cases c : freeAt i ρ = true
    · simp only [unX, if_pos c] at h
      exact fun σ' G' H' e => h _ G' H' (un c e)
    · simp only [unX, if_neg c] at h
      exact h.elim
  | rt d ρ =>
    by_cases c : freeAt i ρ = true
    · simp only [unX, if_pos c] at h
      exact fun v σ' G' H' e av => h v _ G' H' (un c e) av
    · simp only [unX, if_neg c] at h
      exact h.elim
  | bk ρ =>
    by_cases c : freeAt i ρ = true
    · simp only [unX, if_pos c] at h
      exact fun σ' G' H' e => h _ G' H' (un c e)
    · simp only [unX, if_neg c] at h
      exact h.elim
  | ct ρ =>
    by_cases c : freeAt i ρ = true
    · simp only [unX, if_pos c] at h
      exact fun σ' G' H' e => h _ G' H' (un c e)
    · simp only [unX, if_neg c] at h
      exact h.elim
/-- the clauses' wish, from the run of their mirrors -/
theorem run_wish {n : Nat} {tbl : ET} (T : ExmF X.mg X.K tbl) {hs : List ExceptHandler} {l : List (Str × Option Nat × HS)} {m : List (Value × Option Nat × (Addr → Value → Option Addr → TS))} (h : ClD X n hs l m) {B : Bd} {D : Ends} {G H : Hp} {σ : L2.St} {ρ : List Sl} {c : Xc} {cls : Value} {d : Option Addr}
    (e : EnS X.K B n G H σ ρ) (xa : AtX X.mg X.K G H c cls d) (w : wp (hRun tbl c ρ l) (QS X.K B n D) (QX X.mg X.K B W)) : wCl X.K X.N.length W D m cls d σ H := by
  obtain ⟨C, hC, rfl⟩ := xa.cl
  induction h with
  | nil => exact w (.ref C) d σ G H e.st xa
  | @cons y o v S hd hs l m hv ok ho r ih =>
    unfold hRun at w
    cases q : tabF tbl c.cls y with
    | none => rw [q] at w; exact w.elim
    | some b =>
      rw [q] at w
      obtain ⟨C', v', h1, h2, h3⟩ := T _ (tabF_mem q)
      have e1 : C = C' := by
        have z : some (Value.ref C) = some (Value.ref C') := hC.symm.trans h1
        exact Value.ref.inj (Option.some.inj z)
      have e2 : v = v' := hv.uniq h2
      subst e1 e2
      refine ⟨b, h3, fun hb _ a na => ?_, fun hb => ?_⟩
      · subst hb
        replace w : wp (hdS o S c ρ) (QS X.K B n D) (QX X.mg X.K B W) := w
        unfold hdS at w
        split at w
        case isFalse => exact w.elim
        case isTrue all =>
          replace w := wp_noEx (E' := fun _ => False) w
          rw [← all a] at w
          cases o with
          | none => exact ⟨c, B, G, ρ, xa.xc, e, w⟩
          | some i =>
            by_cases cf : freeAt i ρ = true
            · simp only [hIn, if_pos cf] at w
              obtain ⟨a1, t1⟩ := setS_at (i := i) (o := some (.ref a)) (s := .x a fun _ => True) e.en ⟨rfl, fun _ _ => trivial⟩ (fun _ z => nomatch z) cf
              refine ⟨c, B, G, _, xa.xc, e.tg a1 t1, wp_mono (wp_bind.mp w) (fun fl hf => qs_un (ho i rfl) hf) fun _ z => z⟩
            · simp only [hIn, if_neg cf] at w
              exact w.elim
      · subst hb
        exact ih w
/-- the one expression of a try's body: return e, or e alone -/
inductive OneE : Bool → Expr → Stmt → Prop
  | ret {e : Expr} {pos : Pos} : OneE true e (.Return (some e) pos)
  | ex {e : Expr} {pos : Pos} : OneE false e (.Expr e pos)
theorem sd_tryE {n : Nat} {ret : Bool} {tbl : ET} {e : Expr} {s : Stmt} {f : EF} {h₀ : ExceptHandler} {hs : List ExceptHandler} {l : List (Str × Option Nat × HS)} {m : List (Value × Option Nat × (Addr → Value → Option Addr → TS))} {pos : Pos} (hN : X.N.Nodup) (st : X.stack = X.env :: X.outer) (fr : X.env.frame = some X.env.locals) (tk : L2N.Takes X W)
    (T : ExmF X.mg X.K tbl) (o : OneE ret e s) (hb : ∀ (U : WX) (pn : List (Addr × Obj)) (xe : Value → Shared → Prop), L2N.Takes (X.tr pn xe) U → ED (X.tr pn xe) U e f) (hsw : ret = false → ∀ pn xe pos, swapsWith e none (Pos.line pos) (X.tr pn xe).env = pure false) (c : ClD X n (h₀ :: hs) l m) :
    SD X W n (.Try [s] (h₀ :: hs) [] [] pos) (sTryE ret tbl f l) := by
  refine ⟨_, ps_tryX hN st fr tk (tb := fun U D σ H => tE X.K X.mg U f σ H (if ret = true then D.rt else fun _ H' => D.nx σ H')) (fun U pn xe tk' => ?_) c.ok, fun B D G H σ ρ en h => ?_⟩
  · cases o with
    | ret =>
      have p := pss_one (ps_ret (pos := ‹Pos›) (hb U pn xe tk').can)
      exact ⟨fun pins s σ H D I k => p.run pins s σ H D I k⟩
    | ex =>
      rename_i ps
      have p := pss_one (ps_expr (pos := ps) (hb U pn xe tk').can (hsw rfl pn xe ps))
      exact ⟨fun pins s σ H D I k => p.run pins s σ H D I k⟩
  · unfold sTryE at h
    by_cases nm : noMs ρ = true
    case neg => simp only [if_neg nm] at h; exact h.elim
    simp only [if_pos nm] at h
    refine ⟨G, ρ, en.en, ?_⟩
    cases q : f ρ with
    | bad => rw [q] at h; exact h.elim
    | ok r =>
      rw [q] at h
      cases ret with
      | true =>
        simp only [if_true] at h ⊢
        exact fun G' H' af v av => h v σ G' H' (en.af af) av
      | false =>
        have h2 : QS X.K B n D (.nx r.2) := h
        exact fun G' H' af v av => h2 σ G' H' (en.af af)
    | ex xc =>
      rw [q] at h
      intro cls d G' H' stp xa
      have s0 : Stp X.K No G H G' H' := stp.weak fun p mp => noMs_mt nm p mp
      exact run_wish T c (en.grow s0 xa.ex) xa h
end
end Pd
end

section
/-! PdL: a def that calls what it is given; a lambda handed to it. -/
namespace Pd
open PySem L2 Evl PySem.Spec PyProof.Rows
open LamX (TabB LamS lamEnv CodeO ExtN TabS Tabs)
/-- the context of a lambda's body, over the exceptions whose context is None -/
abbrev lamCx (X : Cx) (A : Around) (outer : List Env) (s : Shared) (H : Hp) (E : XK) (scope : Scope) (f c' : Addr) : Cx := (LamX.lamCx X A outer s H E scope f c').tr [] fun e s' =>
  wpAny (model X.prog X.w) (A.deeper (lamEnv X scope s.heap.objs.size f c')) (leaving (lamEnv X scope s.heap.objs.size f c') e) (fun _ s'' => L2N.CX X.prog X.w outer H s E e s'') (fun e' s'' => L2N.CX X.prog X.w outer H s E e' s'') s'
open Classical in
/-- what a thunk answers, called in the def that got it -/
noncomputable def eThk (i : Nat) (f : Addr) (P : Hp → Prop) (L : R D) : EF := fun ρ => if ρ[i]? = some (.x f P) then L >>= fun d => .ok (d, ρ) else .bad
theorem eThk_eq {i : Nat} {f : Addr} {P : Hp → Prop} {L : R D} {ρ : List Sl} (h : ρ[i]? = some (.x f P)) : eThk i f P L ρ = L >>= fun d => .ok (d, ρ) := by
  unfold eThk
  rw [if_pos h]
/-- own lists are not seen within a lambda -/
@[simp] def fl1 : Sl → Sl
  | .m _ => .u
  | s => s
@[simp] def flS (ρ : List Sl) : List Sl := ρ.map fl1
@[simp] def thk (F : EF) (ρ : List Sl) : R D := F (flS ρ) >>= fun r => .ok r.1
section
variable {K : Fg} {G G' H H' : Hp} {σ : L2.St} {ρ : List Sl}
theorem flS_get {i : Nat} {s : Sl} (h : (flS ρ)[i]? = some s) : (∀ xs, s ≠ .m xs) ∧ (s = .u ∨ ρ[i]? = some s) := by
  rw [flS, List.getElem?_map] at h
  cases q : ρ[i]? with
  | none => rw [q] at h; cases h
  | some t =>
    rw [q] at h
    cases t with
    | m xs => cases h; exact ⟨fun _ z => (nomatch z), .inl rfl⟩
    | u => cases h; exact ⟨fun _ z => (nomatch z), .inl rfl⟩
    | d x => cases h; exact ⟨fun _ z => (nomatch z), .inr rfl⟩
    | s ns => cases h; exact ⟨fun _ z => (nomatch z), .inr rfl⟩
    | k kvs => cases h; exact ⟨fun _ z => (nomatch z), .inr rfl⟩
    | x b P => cases h; exact ⟨fun _ z => (nomatch z), .inr rfl⟩
theorem flS_nm : noMs (flS ρ) = true := by
  unfold noMs
  rw [List.all_eq_true]
  intro s hs
  obtain ⟨t, _, rfl⟩ := List.mem_map.mp hs
  cases t <;> rfl
/-- the caller's names, later, within the lambda -/
theorem AtE.later (a : AtE K G H σ ρ) (x : Ex G G') (x2 : Ex G' H') (tb : Tb K G' H') : AtE K G' H' σ (flS ρ) where
  ex := x2
  len := by rw [flS, List.length_map]; exact a.len
  tb := tb
  sl := fun i s e h1 h2 => by
    obtain ⟨n, h | h⟩ := flS_get h1
    · subst h; exact True.intro
    · have q := a.sl i s e h h2
      cases s with
      | u => exact True.intro
      | d y => obtain ⟨v, e1, e2⟩ := q; exact ⟨v, e1, e2.up x⟩
      | m xs => exact absurd rfl (n xs)
      | s ns => obtain ⟨b, e1, e2⟩ := q; exact ⟨b, e1, ex_l x e2⟩
      | k kvs => exact k_up q x
      | x b P => exact x_up q x
  dj := fun i j p xs ys h1 => absurd rfl ((flS_get h1).1 xs)
end
section
variable {X : Cx} {pins : List (Addr × Obj)} {σ : L2.St} {H : Hp} {s : Shared}
/-- the thunk's call, read with what the place lets out at its very slots -/
theorem pe_thunk {Ng : List Str} {qg : Str} {sg : Scope} {g f c' : Addr} {cdg pm ctv : Value} {params : Arguments} {body : Expr} {scope : Scope} {k i : Nat} {a : Str} {pn : List (Addr × Obj)} {xe : Value → Shared → Prop} {U : WX} {tb : XK → TE} {p1 p2 : Pos} (I : Inv X pins σ H s) (L : LamS X.env.scope scope)
    (hf : s.heap.get? f = some (PySem.W.kla_obj "<lambda>" (X.env.qual ++ "<lambda>") params body scope (cloFrom X.env.cells scope.names []) pm c' ctv)) (hfn : H f = none) (hfr : f ∉ frs X.stack)
    (hbind : bindArgs (PySem.W.kla_fn "<lambda>" (X.env.qual ++ "<lambda>") params body scope (cloFrom X.env.cells scope.names []) pm (.ref c') ctv) ⟨[], []⟩ = pure [])
    (tk : L2N.Takes ((cxOf C8.CX0 X.prog X.w X.K X.mg X.base Ng qg sg g cdg X.A X.stack s H C8.E0).tr pn xe) U) (hr : Room (k + 1) (X.A.deeper (envOfC qg sg s.heap.objs.size g cdg)))
    (hbody : ∀ (A : Around) (outer : List Env) (s : Shared) (H : Hp) (E : XK), Room k (A.deeper (lamEnv X scope s.heap.objs.size f c')) → PE (lamCx X A outer s H E scope f c') body (tb E))
    (hN : Ng[i]? = some a) (hv : Vis sg a) (hd : (a == ("__debug__" : Str)) = false) (hcd : (a == ("__classdict__" : Str)) = false) :
    PE ((cxOf C8.CX0 X.prog X.w X.K X.mg X.base Ng qg sg g cdg X.A X.stack s H C8.E0).tr pn xe) (.Call (.Name a p1) [] [] p2) (fun σZ HZ Q => σZ[i]? = some (some (.ref f)) ∧ HZ c' = some (CodeO c' (X.env.qual ++ "<lambda>")) ∧ tb (WE U σZ) σ HZ Q) := by
  refine ⟨fun pz sz σz Hz Q Iz ⟨z1, z2, z3⟩ => ?_⟩
  have ld := (pe_var (X := (cxOf C8.CX0 X.prog X.w X.K X.mg X.base Ng qg sg g cdg X.A X.stack s H C8.E0).tr pn xe) (pos := p1) (i := i) hN hv hd hcd).run pz sz σz Hz (fun v H1 => v = .ref f ∧ H1 = Hz) Iz ⟨.ref f, z1, rfl, rfl⟩
  refine wpAny_Call_Name_kw (thn ld fun u s1 ⟨v, H1, I1, r1, q1, q2⟩ => ?_)
  subst q1 q2
  obtain rfl : u = Value.ref f := r1
  have fun_ := I1.base.keep f _ hf hfn hfr (fun z => nomatch (show f ∈ ([] : List Addr) from z))
  refine PySem.W.callWith_F0 ⟨_, _, _, _, fun_⟩ ?_
  obtain ⟨⟨oc, vs, t, o1, o2, o3⟩, _, _⟩ := I1.hok c' _ z2
  -- the lambda's run
  have run : codeAny (model X.prog X.w) (X.A.deeper (envOfC qg sg s.heap.objs.size g cdg)) (.call (.ref f) ⟨[], []⟩) (CR (L2N.CX X.prog X.w) (envOfC qg sg s.heap.objs.size g cdg :: X.stack) X.prog X.w H1 s1 Q (WE U σz)) s1 := by
    refine PySem.W.kla_callFunE hr.depth fun_ rfl L.co L.gen rfl ⟨c', oc, vs, t, rfl, o1, o2, o3⟩ ?_
    rw [hbind]
    refine wpAny_pure (wpAny_newFunctionEnv (fun y hy => (L.own y hy).2) (fun y hy => absurd hy (by simp)) (fun hh ns sb => ⟨I1.nolimit.fresh _ sb, PySem.W.kla_codeExpr ?_⟩) L.kind)
    have kp : ∀ b o, s1.heap.get? b = some o → hh.get? b = some o := fun b o e => sb.extBut b o (Nat.ne_of_lt (Heap.lt_size e)) (Heap.get?_push_of_some _ e)
    have J := LamX.lam_start2 (A := X.A.deeper (envOfC qg sg s.heap.objs.size g cdg)) (outer := envOfC qg sg s.heap.objs.size g cdg :: X.stack) (E := WE U σz) (f := f) (c' := c') (tk := s1.toks + ([] : List (Str × Value)).length) I L I1.env0 hr.hd I1.base ns kp
    refine wpAny_mono ((hbody _ _ s1 H1 (WE U σz) (hr.deeper _)).run [] _ _ H1 Q (J.toTry _) z3) (fun v s' ⟨w, H2, J2, rv, q⟩ => ?_) fun e s' q => q
    exact ⟨w, H2, J2.os, J2.bare, J2.base, J2.hok, rv, q⟩
  have out := L2N.passAt tk σz
  refine wpAny_call (codeAny_mono run fun r s' h => ?_)
  cases r with
  | error e => exact out pz H1 s1 e s' I1 h
  | ok fl =>
    cases fl with
    | ret u => exact I1.after h
    | next => exact h.elim
    | brk => exact h.elim
    | cont => exact h.elim
/-- the same in the layer -/
theorem ed_thunk {Ng : List Str} {qg : Str} {sg : Scope} {g f c' : Addr} {cdg pm ctv : Value} {params : Arguments} {body : Expr} {scope : Scope} {k i : Nat} {a : Str} {pn : List (Addr × Obj)} {xe : Value → Shared → Prop} {U : WX} {F : EF} {G0 H0 : Hp} {ρ : List Sl} {p1 p2 : Pos} (I : Inv X pins σ H s) (L : LamS X.env.scope scope)
    (hf : s.heap.get? f = some (PySem.W.kla_obj "<lambda>" (X.env.qual ++ "<lambda>") params body scope (cloFrom X.env.cells scope.names []) pm c' ctv)) (hfn : H f = none) (hfr : f ∉ frs X.stack)
    (hbind : bindArgs (PySem.W.kla_fn "<lambda>" (X.env.qual ++ "<lambda>") params body scope (cloFrom X.env.cells scope.names []) pm (.ref c') ctv) ⟨[], []⟩ = pure [])
    (tk : L2N.Takes ((cxOf C8.CX0 X.prog X.w X.K X.mg X.base Ng qg sg g cdg X.A X.stack s H C8.E0).tr pn xe) U) (hr : Room (k + 1) (X.A.deeper (envOfC qg sg s.heap.objs.size g cdg)))
    (hbody : ∀ (A : Around) (outer : List Env) (s : Shared) (H : Hp) (E : XK), Room k (A.deeper (lamEnv X scope s.heap.objs.size f c')) → ED (lamCx X A outer s H E scope f c') (BW E) body F)
    (hN : Ng[i]? = some a) (hv : Vis sg a) (hd : (a == ("__debug__" : Str)) = false) (hcd : (a == ("__classdict__" : Str)) = false) (a0 : AtE X.K G0 H0 σ ρ) :
    ED ((cxOf C8.CX0 X.prog X.w X.K X.mg X.base Ng qg sg g cdg X.A X.stack s H C8.E0).tr pn xe) U (.Call (.Name a p1) [] [] p2) (eThk i f (fun G' => G' c' = some (CodeO c' (X.env.qual ++ "<lambda>")) ∧ Ex G0 G') (thk F ρ)) := by
  refine ⟨_, pe_thunk (tb := fun E => tE X.K X.mg (BW E) F) I L hf hfn hfr hbind tk hr (fun A outer s H E hr2 => (hbody A outer s H E hr2).can) hN hv hd hcd, fun G1 H1 σ1 ρ1 Q a1 w => ?_⟩
  unfold eThk at w
  split at w
  case isFalse => exact w.elim
  case isTrue hs =>
    obtain ⟨e, e1, e2, e3⟩ := a1.at_ hs
    subst e2
    obtain ⟨y1, y2⟩ := e3 G1 (Ex.refl G1)
    have al := a0.later y2 a1.ex a1.tb
    refine ⟨e1, a1.ex _ _ y1, G1, flS ρ, al, ?_⟩
    rw [thk] at w
    cases q : F (flS ρ) with
    | bad => rw [q] at w; exact w.elim
    | ok r =>
      rw [q] at w
      intro G2 H2 af v av
      have st : Stp X.K No G1 H1 G2 H2 := af.st.weak fun p mp => noMs_mt flS_nm p mp
      exact w G2 H2 (Af.grow a1 st af.en.ex) v av
    | ex c =>
      rw [q] at w
      intro cls d G2 H2 st xa
      have st : Stp X.K No G1 H1 G2 H2 := st.weak fun p mp => noMs_mt flS_nm p mp
      exact w cls d G2 H2 st.no xa
end
/-- x: a def of one parameter that it calls -/
structure Told (P : Program) (w : World) (K : Fg) (mg : Str → Option Value) (base : Heap) (k : Nat) (x : Str) (M : Addr → (Hp → Prop) → R D → R D) : Prop where
  h : ∃ (g : Addr) (pg : Arguments) (bg : List Stmt) (sg : Scope) (dV kV doc pm cdv ct oc : Value) (an od : Option Addr) (osl : Array (Option Value)) (Ng : List Str) (a : Str) (S : Addr → (Hp → Prop) → R D → SF), mg x = some (.ref g) ∧ PySem.W.keepIn K (.ref g) = true ∧
    K.lookup g = some ⟨oc, od, .func (PySem.W.fnOf x x pg bg sg dV kV doc pm an cdv ct), osl⟩ ∧ PySem.W.codeIn K cdv x = true ∧ Binds K (PySem.W.fnOf x x pg bg sg dV kV doc pm an cdv ct) [a] [] ∧ FnScope Ng [a] sg ∧ Ng[0]? = some a ∧ Vis sg a ∧ (a == ("__debug__" : Str)) = false ∧ (a == ("__classdict__" : Str)) = false ∧
    (∀ f Pp L, M f Pp L = S f Pp L (.x f Pp :: List.replicate (Ng.length - 1) .u) >>= fun fl => match fl with
      | .nx _ => .ok .none
      | .rt d _ => .ok d
      | _ => .bad) ∧
    ∀ (f : Addr) (Pp : Hp → Prop) (L : R D) (A : Around) (outer : List Env) (s : Shared) (H : Hp), Room k (A.deeper (envOfC x sg s.heap.objs.size g cdv)) →
      (∀ (U : WX) (pn : List (Addr × Obj)) (xe : Value → Shared → Prop) (p1 p2 : Pos), L2N.Takes ((cxOf C8.CX0 P w K mg base Ng x sg g cdv A outer s H C8.E0).tr pn xe) U → ED ((cxOf C8.CX0 P w K mg base Ng x sg g cdv A outer s H C8.E0).tr pn xe) U (.Call (.Name a p1) [] [] p2) (eThk 0 f Pp L)) →
      SDs (cxOf C8.CX0 P w K mg base Ng x sg g cdv A outer s H C8.E0) W0 1 bg (S f Pp L)
@[simp] noncomputable def mkTold (n : Nat) (S : Addr → (Hp → Prop) → R D → SF) : Addr → (Hp → Prop) → R D → R D := fun f Pp L => S f Pp L (.x f Pp :: List.replicate (n - 1) .u) >>= fun fl => match fl with
  | .nx _ => .ok .none
  | .rt d _ => .ok d
  | _ => .bad
theorem told_of {P : Program} {w : World} {K : Fg} {mg : Str → Option Value} {base : Heap} {x a : Str} {params : Arguments} {body : List Stmt} {scope : Scope} {f : Addr} {fd : FuncData} {N : List Str} {k : Nat} {S : Addr → (Hp → Prop) → R D → SF} (Fd : FunD K x x params body scope [] [] f fd) (sc : FnScope N [a] scope)
    (hm : mg x = some (.ref f)) (hb : Binds K fd [a] []) (hN : N[0]? = some a := by rfl) (hv : Vis scope a := by exact Or.inl rfl) (hd : (a == ("__debug__" : Str)) = false := by decide) (hcd : (a == ("__classdict__" : Str)) = false := by decide)
    (hbody : ∀ (cdv : Value) (f' : Addr) (Pp : Hp → Prop) (L : R D) (A : Around) (outer : List Env) (s : Shared) (H : Hp), Room k (A.deeper (envOfC x scope s.heap.objs.size f cdv)) →
      (∀ (U : WX) (pn : List (Addr × Obj)) (xe : Value → Shared → Prop) (p1 p2 : Pos), L2N.Takes ((cxOf C8.CX0 P w K mg base N x scope f cdv A outer s H C8.E0).tr pn xe) U → ED ((cxOf C8.CX0 P w K mg base N x scope f cdv A outer s H C8.E0).tr pn xe) U (.Call (.Name a p1) [] [] p2) (eThk 0 f' Pp L)) →
      SDs (cxOf C8.CX0 P w K mg base N x scope f cdv A outer s H C8.E0) W0 1 body (S f' Pp L)) : Told P w K mg base k x (mkTold N.length S) := by
  obtain ⟨oc, od, dV, kV, doc, pm, an, cdv, ct, osl, rfl, lk, hc, _, _⟩ := Fd.ex
  exact ⟨f, params, body, scope, dV, kV, doc, pm, cdv, ct, oc, an, od, osl, N, a, S, hm, Fd.kp, lk, hc, hb, sc, hN, hv, hd, hcd, fun _ _ _ => rfl, hbody cdv⟩
open Classical in
noncomputable def eLam (M : Addr → (Hp → Prop) → R D → R D) (F : EF) : EF := fun ρ => if ∀ f Pp, M f Pp (thk F ρ) = M 0 (fun _ => True) (thk F ρ) then noEx (M 0 (fun _ => True) (thk F ρ)) >>= fun d => .ok (d, ρ) else .bad
theorem eLam_eq {M : Addr → (Hp → Prop) → R D → R D} {F : EF} {ρ : List Sl} {r : R D} (h : ∀ f Pp, M f Pp (thk F ρ) = r) : eLam M F ρ = noEx r >>= fun d => .ok (d, ρ) := by
  unfold eLam
  rw [if_pos fun f Pp => (h f Pp).trans (h 0 _).symm, h]
section
variable {X : Cx} {W : WX}
theorem ed_lam {k : Nat} {x : Str} {M : Addr → (Hp → Prop) → R D → R D} {F : EF} {params : Arguments} {body : Expr} {scope : Scope} {p lpos pos : Pos} (T : Told X.prog X.w X.K X.mg X.base (k + 1) x M) (hg : Gl X x) (mk : ∃ d ∈ lamDefs, (X.env.qual = d.1 ++ ".<locals>.") ∧ X.env.code = .ref (He.cT X.K d).1 ∧ TabB X.base X.mg (He.cT X.K d).1 (He.cT X.K d).2 ∧ ∀ e ∈ lamDefs, (He.cT X.K e).2 = (He.cT X.K d).2 → e.1 = d.1)
    (hr : Room (k + 2) X.A) (L : LamS X.env.scope scope) (hdef : defaultsOf params X.env = ([], []) := by rfl) (hbind : ∀ (q : Str) (cl : List (Str × Addr)) (pm cv ctv : Value), bindArgs (PySem.W.kla_fn "<lambda>" q params body scope cl pm cv ctv) ⟨[], []⟩ = pure [] := by intros; rfl)
    (hbody : ∀ (A : Around) (outer : List Env) (s : Shared) (H : Hp) (E : XK) (f c' : Addr), Room k (A.deeper (lamEnv X scope s.heap.objs.size f c')) → ED (lamCx X A outer s H E scope f c') (BW E) body F) (hdb : (x == ("__debug__" : Str)) = false := by decide) :
    ED X W (.Call (.Name x p) [.Lambda params body scope lpos] [] pos) (eLam M F) := by
  obtain ⟨d, hd, hq, hcode, TB, hu⟩ := mk
  obtain ⟨g, pg, bg, sg, dV, kV, doc, pm, cdv, ct, oc, an, od, osl, Ng, a, S, hm, hk, lk, hcg, hb, Sg, hNg, hva, hda, hcd, eM, run⟩ := T.h
  refine ⟨fun σ H Q => ∃ G ρ, AtE X.K G H σ ρ ∧ wp (eLam M F ρ) (Gn X.K σ G H ρ (QE X.K Q)) (fun _ => False), ⟨fun pins s σ H Q I h => ?_⟩, fun G H σ ρ Q a0 h => ⟨G, ρ, a0, ?_⟩⟩
  case refine_2 =>
    unfold eLam at h ⊢
    split at h
    case isFalse => exact h.elim
    case isTrue hh =>
      rw [if_pos hh]
      cases q : M 0 (fun _ => True) (thk F ρ) with
      | ok r => rw [q] at h; exact h
      | ex c => rw [q] at h; exact h.elim
      | bad => rw [q] at h; exact h.elim
  obtain ⟨G, ρ, a0, w⟩ := h
  unfold eLam at w
  split at w
  case isFalse => exact w.elim
  case isTrue all =>
    refine wpAny_Call_Name_kw (ld_glob I hg hm ?_ hdb)
    refine PySem.W.callWith_K (h₀ := X.base) I.ok.mod.kin hk ?_ (by rfl) (by rfl)
    have mT : ((He.cT X.K d).2, X.env.qual ++ "<lambda>") ∈ TK X.K := List.mem_map.mpr ⟨d, hd, by rw [hq]⟩
    have uT : ∀ q ∈ TK X.K, q.1 = (He.cT X.K d).2 → q.2 = X.env.qual ++ "<lambda>" := fun q hq2 e => by
      obtain ⟨d', h1, h2⟩ := List.mem_map.mp hq2
      subst h2
      show d'.1 ++ ".<locals>." ++ "<lambda>" = _
      rw [hu d' h1 e, hq]
    refine Calls.spliced_cons (LamX.lam_make2 I TB hcode mT uT a0.tb.1 hdef (L.has I.ok) fun f c' pm' ctv H1 s' I1 eN T1 hf hfn hfr hco => Calls.spliced_nil ⟨I1.kIn, ?_⟩)
    -- the data part knows the lambda's code object from now on
    obtain ⟨G1, hG1⟩ : ∃ G1 : Hp, G1 = upd G c' (CodeO c' (X.env.qual ++ "<lambda>")) := ⟨_, rfl⟩
    have keep : ∀ b o, G b = some o → H1 b = some o := fun b o e => eN b o (a0.ex b o e) fun ps z => a0.tb.2 b ps (by rw [e, z])
    have g1 : G1 c' = some (CodeO c' (X.env.qual ++ "<lambda>")) := by rw [hG1, upd_same]
    have x01 : Ex G G1 := fun b o e => by
      rw [hG1]
      by_cases hb : b = c'
      · have z := keep b o e
        rw [hb, hco] at z
        rw [hb, upd_same]
        exact z
      · rw [upd_ne hb]; exact e
    have x11 : Ex G1 H1 := fun b o e => by
      by_cases hb : b = c'
      · rw [hb, g1] at e; rw [hb, hco]; exact e
      · rw [hG1, upd_ne hb] at e; exact keep b o e
    have nC : ∀ b vs, H b = some (.lst vs) → b ≠ c' := fun b vs e z => by
      have h2 := eN b _ e fun _ y => nomatch y
      rw [z, hco] at h2
      cases h2
    have tb1 : Tb X.K G1 H1 := ⟨T1, by rw [hG1]; exact a0.tb.2.new fun ps z => nomatch (show CodeO c' (X.env.qual ++ "<lambda>") = .tbl ps from z)⟩
    have st1 : Stp X.K No G H G1 H1 := ⟨x01, fun b vs e n => by
        rw [hG1, upd_ne (nC b vs e)] at n; exact n, fun b o e _ n => eN b o e n, fun b n z => n fun o e => Classical.byContradiction fun q => by
        have h1 := eN b o e fun ps y => q ⟨ps, y⟩
        exact q (z o h1), fun _ => tb1, fun b vs e => ⟨vs, eN b _ e fun _ y => nomatch y⟩⟩
    have a1 : AtE X.K G1 H1 σ ρ := a0.grow st1 x11
    -- the def's run
    obtain ⟨Pp, hPp⟩ : ∃ Pp : Hp → Prop, Pp = fun G' => G' c' = some (CodeO c' (X.env.qual ++ "<lambda>")) ∧ Ex G1 G' := ⟨_, rfl⟩
    have rc : codeAny (model X.prog X.w) X.A (.call (.ref g) ⟨[.ref f], []⟩) (CR C8.CX0 X.stack X.prog X.w H1 s' Q C8.E0) s' := by
      refine LamX.run_ofS (N := Ng) (ps := [a]) (us := [.ref f]) (vs := [.ref f]) lk hcg Sg hr I1.env0 (hb s' [.ref f] I1.kIn rfl) (.cons rfl .nil) rfl fun hr' => ?_
      obtain ⟨t, p, r⟩ := run f Pp (thk F ρ) X.A X.stack s' H1 hr' fun U pn xe p1 p2 tk => by
        rw [hPp]
        exact ed_thunk (i := 0) I1 L hf hfn hfr (hbind _ _ _ _ _) tk hr' (fun A outer s H E hr2 => hbody A outer s H E f c' hr2) hNg hva hda hcd a1
      refine ⟨t, p, ?_⟩
      have ae : AtE X.K G1 H1 ([V.ref f].map some) [Sl.x f Pp] := ⟨x11, rfl, fun i sl e h1 h2 => by
        match i with
        | 0 =>
          cases h1; cases h2
          exact ⟨rfl, fun G' y => by rw [hPp]; exact ⟨y _ _ g1, y⟩⟩
        | i + 1 => simp at h1, fun i j p xs ys h1 => by
        match i with
        | 0 => cases h1
        | i + 1 => simp at h1, tb1⟩
      have es := en_start (K := X.K) Sg (vs := [V.ref f]) rfl ae
      refine r ⟨G1, G1, H1, [V.ref f].map some, [Sl.x f Pp]⟩ { nx := fun _ H' => Q .non H', rt := Q } G1 H1 _ _ es ?_
      have w2 : wp (M f Pp (thk F ρ)) (fun d' => Gn X.K σ G H ρ (QE X.K Q) (d', ρ)) (fun _ => False) := by
        rw [all f Pp]
        exact wp_noEx (wp_bind.mp w)
      rw [eM] at w2
      refine wp_mono (wp_bind.mp w2) (fun fl hfl => ?_) fun _ z => z.elim
      have fin : ∀ {d' : PyData} {σ' : L2.St} {G' H' : Hp} {ρ' : List Sl} {v : V}, EnS X.K ⟨G1, G1, H1, [V.ref f].map some, [Sl.x f Pp]⟩ 1 G' H' σ' ρ' → At X.K G' v d' → Gn X.K σ G H ρ (QE X.K Q) (d', ρ) → Q v H' := fun {d' σ' G' H' ρ' v} e' av gn => by
        have s2 : Stp X.K No G1 H1 G' H' := e'.st.weak fun p ⟨i, xs, m1, _⟩ => by
          match i with
          | 0 => cases m1
          | i + 1 => simp at m1
        exact gn G' H' (Af.grow a0 (st1.trans s2 fun _ z => z.elim) e'.en.ex) v av
      cases fl with
      | nx ρ' => exact fun σ' G' H' e' => fin e' .non hfl
      | rt d' ρ' => exact fun v σ' G' H' e' av => fin e' av hfl
      | bk ρ' => exact hfl.elim
      | ct ρ' => exact hfl.elim
    refine wpAny_call (codeAny_mono rc fun r s2 hq => ?_)
    cases r with
    | error e => exact (show False from hq).elim
    | ok fl =>
      cases fl with
      | ret u => exact I1.after hq
      | next => exact hq.elim
      | brk => exact hq.elim
      | cont => exact hq.elim
end
end Pd
end

section
/-! PdS: what stands in an except suite. -/
namespace Pd
open PySem L2 Evl PySem.Spec PyProof.Rows
theorem lam_takes {X : Cx} {A : Around} {outer : List Env} {s : Shared} {H : Hp} {E : XK} {scope : Scope} {f c' : Addr} : L2N.Takes (lamCx X A outer s H E scope f c') (BW E) := L2N.takes_of rfl rfl rfl rfl
section
variable {X : Cx} {W : WX}
/-- isinstance(e, y), e what the clause caught -/
def eIsx (l : ET) (i : Nat) (a : Addr) (c : Xc) (y : Str) : EF := fun ρ => match ρ[i]? with
  | some (.x b _) => if b = a ∧ c.pay = none then li ((tabF l c.cls y).map PyData.bool) >>= fun d => .ok (d, ρ) else .bad
  | _ => .bad
@[simp] theorem eIsx_eq {l : ET} {i : Nat} {a : Addr} {x y : Str} {P : Hp → Prop} {ρ : List Sl} (h : ρ[i]? = some (.x a P)) : eIsx l i a ⟨x, none⟩ y ρ = li ((tabF l x y).map PyData.bool) >>= fun d => .ok (d, ρ) := by
  unfold eIsx
  rw [h]
  exact if_pos ⟨rfl, rfl⟩
theorem ed_isx {l : ET} (i : Nat) {a : Addr} {oe : Obj} {pn : List (Addr × Obj)} {c : Xc} {cls : Value} {d : Option Addr} {x y : Str} {p p1 p2 pos : Pos} (T : IsxF X.mg X.K l) (z : L2N.Zn cls d oe) (f : ∃ vs, oe.data = .fields vs) (xa : XcAt X.mg c cls d) (hg : Gl (X.suite a ((a, oe) :: pn)) "isinstance") (hm : X.mg "isinstance" = none) (hgy : Gl (X.suite a ((a, oe) :: pn)) y)
    (hN : X.N[i]? = some x := by rfl) (hv : Vis X.env.scope x := by first | exact Or.inl rfl | exact Or.inr (Or.inl rfl) | exact Or.inr (Or.inr rfl)) (hy : ∃ v, ClsV X.mg y v)
    (hd : (x == ("__debug__" : Str)) = false := by decide) (hcd : (x == ("__classdict__" : Str)) = false := by decide) (hdy : (y == ("__debug__" : Str)) = false := by decide)
    (he : starEach [Expr.Name x p1, .Name y p2] X.env = (false, eval (.Name x p1) X.env) :: starEach [.Name y p2] X.env := by rfl) (he2 : starEach [Expr.Name y p2] X.env = (false, eval (.Name y p2) X.env) :: starEach [] X.env := by rfl) (hpl : (backTo pos (starEach [Expr.Name y p2] X.env)).any (·.1) = false := by rfl) :
    ED (X.suite a ((a, oe) :: pn)) W (.Call (.Name "isinstance" p) [.Name x p1, .Name y p2] [] pos) (eIsx l i a c y) := by
  obtain ⟨C, hC, rfl⟩ := xa.1
  by_cases hp : c.pay = none
  case neg =>
    refine ⟨fun _ _ _ => False, ⟨fun _ _ _ _ _ _ h => h.elim⟩, fun G H σ ρ Q a1 h => ?_⟩
    unfold eIsx at h
    split at h
    · rw [if_neg fun q => hp q.2] at h; exact h.elim
    · exact h.elim
  cases q : tabF l c.cls y with
  | none =>
    refine ⟨fun _ _ _ => False, ⟨fun _ _ _ _ _ _ h => h.elim⟩, fun G H σ ρ Q a1 h => ?_⟩
    unfold eIsx at h
    rw [q] at h
    split at h
    · split at h
      · exact h.elim
      · exact h.elim
    · exact h.elim
  | some b =>
    obtain ⟨C', v, h1, h2, h3, h4⟩ := T _ (tabF_mem q)
    obtain rfl : C = C' := Value.ref.inj (Option.some.inj (hC.symm.trans h1))
    have dn := xa.2 hp
    subst dn
    -- the class as a value
    obtain ⟨u, ru, un⟩ : ∃ u : V, RelV u v ∧ (∀ w, RelV u w → w = v) ∧ True := by
      rcases h2 with e | ⟨_, e, _⟩
      · cases v with
        | ref D => exact ⟨.ref D, rfl, fun w h => h, trivial⟩
        | type t => exact ⟨.ty t, rfl, fun w h => h, trivial⟩
        | _ => exact absurd h3 (by simp [PySem.W.kitOne, PySem.W.kitCls])
      · cases v with
        | ref D => exact ⟨.ref D, rfl, fun w h => h, trivial⟩
        | type t => exact ⟨.ty t, rfl, fun w h => h, trivial⟩
        | _ => exact absurd h3 (by simp [PySem.W.kitOne, PySem.W.kitCls])
    have py : PE (X.suite a ((a, oe) :: pn)) (.Name y p2) (tC u) := by
      rcases h2 with e | ⟨e1, e2, e3⟩
      · exact pe_glob hgy e ru hdy
      · exact pe_bltn hgy e1 e2 ru e3 hdy
    refine ⟨_, pe_callB (call_isE h4 z.zc f) hg hm (by decide +kernel) (pa_cons (pv i hN hv hd hcd) (pa_cons py pa_nil he2) he) (by decide) (by decide) he hpl, fun G H σ ρ Q a1 h => ?_⟩
    unfold eIsx at h
    split at h
    · rename_i b' P hs
      by_cases e : b' = a ∧ c.pay = none
      · rw [if_pos e, q] at h
        obtain ⟨e1, _⟩ := e
        subst e1
        obtain ⟨en, k1, k2, _⟩ := a1.at_ hs
        subst k2
        exact ⟨_, k1, u, v, b, rfl, un.1, h3, Wh.here (P := QE X.K Q) h a1 _ (.bl _)⟩
      · rw [if_neg e] at h; exact h.elim
    · exact h.elim
end
end Pd
end

section
/-! PdS2: a list comprehension while an exception is handled; join. -/
namespace Pd
open PySem L2 Evl PySem.Spec PyProof.Rows
/-- what stands in the state out of the reach of a block, too -/
theorem inv_and {X : Cx} {pins : List (Addr × Obj)} {σ : L2.St} {H : Hp} {s : Shared} {q : Addr × Obj} (I : Inv X pins σ H s) (h : s.heap.get? q.1 = some q.2 ∧ H q.1 = none ∧ q.1 ≠ X.env.locals ∧ q.1 ∉ X.fs ∧ ∀ v, q.2.data ≠ .cell v) : Inv X (q :: pins) σ H s :=
  I.pins_of fun p hp => by
    rcases List.mem_cons.mp hp with e | e
    · rw [e]; exact h
    · exact I.pin p (List.mem_append_right _ e)
section
variable {X : Cx}
theorem pe_lcH {elt tg iter : Expr} {ifs : List Expr} {scope : Scope} {own : List (Str × Nat)} {pos : Pos} {wi : TI} {g : TG} {tt : TT} {te : TE} (hot : L2H.HotC X) (sk : X.stack = X.env :: X.outer) (fr : X.env.frame = some X.env.locals) (hN : X.N.Nodup) (hi : L2H.PIH X tg iter wi) (ok : BlkOk X.N X.env.scope scope own)
    (hg : ∀ (s : Shared) (H : Hp) (C : Addr) (cl : List (Str × Addr)) (fp : List Addr), PG (X.blk s H scope (compEnvC scope cl C X.env) fp) tg g) (ht : ∀ (s : Shared) (H : Hp) (C : Addr) (cl : List (Str × Addr)) (fp : List Addr), PTs (X.blk s H scope (compEnvC scope cl C X.env) fp) ifs tt)
    (he : ∀ (s : Shared) (H : Hp) (C : Addr) (cl : List (Str × Addr)) (fp : List Addr), PE (X.blk s H scope (compEnvC scope cl C X.env) fp) elt te) (hs : ∀ x, foldedSetIterable iter X.env x = pure x := by intro _; rfl) : PE X (.ListComp elt [⟨tg, iter, ifs, 0⟩] scope pos) (tLc wi g tt te (own.map (·.2))) := by
  obtain ⟨q, hq1, hqm⟩ := hot
  refine ⟨fun pins s σ H Q I h => ?_⟩
  rw [eval_ListComp]
  have clo : ∀ y ∈ scope.names, y.2 = .free → ∃ c, X.env.cells.lookup y.1 = some c := fun y hy e => (ok.free y hy e).elim (fun k => I.ok.has _ (.inl k)) fun k => I.ok.has _ (.inr k)
  refine wpAny_comprehension_free (use := none) rfl hs (closure_ok clo) ok.kind (fun y hy e => by rw [ok.uniq y hy, e]) (thn (hi.run pins s σ H _ I h) fun xv s1 hx => thn hx fun itv s2 ⟨it, fp, tn, J, H2, e, I2, T, t0, f2, w⟩ => ?_)
  subst e
  refine wpAny_newObj_type (newEnv_comp ?_) (by show 0 ≤ sizeLine; decide)
  obtain ⟨D, hD⟩ : ∃ D, s2.heap.objs.size = D := ⟨_, rfl⟩
  rw [hD]
  have nD : H2 D = none := I2.hok.fresh (Nat.le_of_eq hD)
  obtain ⟨V, ⟨m0, w0⟩, turn⟩ := w D nD
  -- with the list that is made (the iterator stands)
  obtain ⟨s3, hs3⟩ : ∃ s3 : Shared, ({ s2 with heap := s2.heap.push { cls := .type "list", data := .seq ([] : List Value).toArray } } : Shared) = s3 := ⟨_, rfl⟩
  have eH : s3.heap = s2.heap.push { cls := .type "list", data := .seq ([] : List Value).toArray } := by rw [← hs3]
  obtain ⟨H3, hH3⟩ : ∃ H3 : Hp, upd H2 D (.lst []) = H3 := ⟨_, rfl⟩
  have I3 : Inv X pins σ H3 s3 := by
    rw [← hs3, ← hH3]
    refine I2.laid (t' := s2.toks) (fun b o e => Heap.get?_push_of_some _ e) (Nat.le_of_eq hD) ⟨Nat.zero_le _, [], 0, .nil, ?_⟩
    rw [← hD]
    exact Heap.get?_push_size _ rfl
  have lt2 : ∀ b ∈ fp, b < s2.heap.objs.size := fun b hb => let ⟨_, e, _⟩ := T.obj _ _ t0 b hb; Heap.lt_size e
  have f3 : ∀ b ∈ fp, FpOk X pins H3 b ∧ b < s3.heap.objs.size := fun b hb => by
    have l := lt2 b hb
    refine ⟨⟨?_, (f2 b hb).2⟩, ?_⟩
    · rw [← hH3, upd_ne (by rw [← hD]; exact Nat.ne_of_lt l)]
      exact (f2 b hb).1
    · rw [eH, Heap.size_push]
      exact Nat.lt_succ_of_lt l
  have t3 : tn 0 s3.heap := T.keep _ _ _ t0 fun b _ o e => by rw [eH]; exact Heap.get?_push_of_some _ e
  -- the block
  have I4 := block_start I3 ok hN f3
  have pg := hg s3 H3 s3.heap.objs.size (cellsFrom (s3.heap.objs.size + 1) scope.names (cloFrom X.env.cells scope.names [])) fp
  have pt := ht s3 H3 s3.heap.objs.size (cellsFrom (s3.heap.objs.size + 1) scope.names (cloFrom X.env.cells scope.names [])) fp
  have pe := he s3 H3 s3.heap.objs.size (cellsFrom (s3.heap.objs.size + 1) scope.names (cloFrom X.env.cells scope.names [])) fp
  rw [hs3]
  show codeAny _ _ (.compStart (.ListComp elt [⟨tg, iter, ifs, 0⟩] scope pos) 0 (.ref it) (.ref D) (compEnvC scope (cellsFrom (s3.heap.objs.size + 1) scope.names (cloFrom X.env.cells scope.names [])) s3.heap.objs.size X.env)) (compPost (model X.prog X.w) X.A X.xe none (EP X pins σ Q) (.ref D) s3.heap.objs.size) { s3 with heap := pushCells (s3.heap.push { cls := .type "dict", data := .dict #[] }) scope.names }
  obtain ⟨ce, hce⟩ : ∃ ce, compEnvC scope (cellsFrom (s3.heap.objs.size + 1) scope.names (cloFrom X.env.cells scope.names [])) s3.heap.objs.size X.env = ce := ⟨_, rfl⟩
  have ceL : ce.locals = s3.heap.objs.size := by rw [← hce]; rfl
  rw [hce] at I4 pg pt pe ⊢
  have kp : ∀ b o, s3.heap.get? b = some o → (pushCells (s3.heap.push { cls := .type "dict", data := .dict #[] }) scope.names).get? b = some o := fun b o e => pushCells_keeps _ _ _ _ (Heap.get?_push_of_some _ e)
  obtain ⟨s4, hs4⟩ : ∃ s4 : Shared, ({ s3 with heap := pushCells (s3.heap.push { cls := .type "dict", data := .dict #[] }) scope.names } : Shared) = s4 := ⟨_, rfl⟩
  have t4 : tn 0 s4.heap := T.keep _ _ _ t3 fun b _ o e => by rw [← hs4]; exact kp b o e
  have hq3 := I3.pin q (List.mem_append_left _ hqm)
  have out : q.1 ∉ frs X.stack := fun z => by
    rw [sk] at z
    unfold frs at z
    rw [List.filterMap_cons, fr] at z
    rcases List.mem_cons.mp z with y | y
    · exact hq3.2.2.1 y
    · exact hq3.2.2.2.1 y
  rw [hs4] at I4 ⊢
  have I4 : Inv (X.blk s3 H3 scope ce fp) [q] (wipe σ (own.map (·.2))) H3 s4 := inv_and I4 ⟨by rw [← hs4]; exact kp _ _ hq3.1, hq3.2.1, fun z => by
    have l := Heap.lt_size hq3.1
    have z : q.1 = ce.locals := z
    rw [z, ceL] at l
    exact Nat.lt_irrefl _ l, out, hq3.2.2.2.2⟩
  have qn : ∀ b ∈ fp, q.1 ≠ b := fun b hb => (f3 b hb).1.2.2.2.2.2 q (List.mem_append_left _ hqm)
  have stat : ∀ {σ' : L2.St} {H' : Hp} {s' : Shared} {ps : List (Addr × Obj)}, Inv (X.blk s3 H3 scope ce fp) ps σ' H' s' → (∀ b ∈ fp, H' b = none) → ∀ b ∈ fp, FpOk (X.blk s3 H3 scope ce fp) [q] H' b := fun {σ' H' s' ps} I' hn b hb =>
    ⟨hn b hb, (I'.ok.exf b hb).1, I'.ok.exfs b hb, .inl hb, fun x c e => (I'.ok.exf b hb).2 x c e, fun p hp => by
      rw [List.mem_singleton.mp (show p ∈ [q] from hp)]
      exact qn b hb⟩
  have heat : L2H.HotC ((X.blk s3 H3 scope ce fp).tr [q] fun _ _ => False) := ⟨q, hq1, List.mem_singleton.mpr rfl⟩
  have nfp : ∀ b ∈ fp, H3 b = none := fun b hb => (f3 b hb).1.1
  have all : codeAny (model X.prog X.w) X.A (.compLoop (.ListComp elt [⟨tg, iter, ifs, 0⟩] scope pos) 0 (.ref it) (.ref D) ce) (compPost (model X.prog X.w) X.A X.xe none (EP X pins σ Q) (.ref D) s3.heap.objs.size) s4 := by
    refine compLoop_any (fun n s' => ∃ i H', Inv (X.blk s3 H3 scope ce fp) [q] (wipe σ (own.map (·.2))) H' s' ∧ tn i s'.heap ∧ (∀ b ∈ fp, H' b = none) ∧ V i n H') ?_ m0 ⟨0, H3, I4, t4, nfp, by rw [← hH3]; exact w0⟩
    rintro n s5 ⟨i, H5, I5, t5, n5, w5⟩
    have I5t : Inv ((X.blk s3 H3 scope ce fp).tr [q] fun _ _ => False) [] (wipe σ (own.map (·.2))) H5 s5 := I5.toTry _
    have f5 : ∀ b ∈ fp, FpOk ((X.blk s3 H3 scope ce fp).tr [q] fun _ _ => False) [] H5 b := fun b hb => by
      obtain ⟨y1, y2, y3, y4, y5, y6⟩ := stat I5 n5 b hb
      exact ⟨y1, y2, y3, y4, y5, fun p hp => y6 p (by rw [List.append_nil] at hp; exact hp)⟩
    rcases turn i n H5 w5 with ⟨stop, fin⟩ | ⟨go, Nx, nx, step⟩
    · refine thnF (T.done ((X.blk s3 H3 scope ce fp).tr [q] fun _ _ => False) rfl rfl rfl heat i [] s5 _ H5 (fun _ _ => False) I5t f5 t5 stop) fun r s6 ⟨hr, I6⟩ => ?_
      subst hr
      have nC : H5 s3.heap.objs.size = none := by
        have z : H5 ce.locals = none := I6.free
        rwa [ceL] at z
      obtain ⟨m, hn, _⟩ := I6.loc
      have hn : s6.heap.Ns ce.locals m := hn
      rw [ceL] at hn
      have I7 : Inv X pins σ H5 s6 := I3.call' (ch := fp) I6.os I6.base I6.hok I6.bare fun b hb => ⟨(f3 b hb).1.2.2.2.1, (f3 b hb).1.2.1, (f3 b hb).1.2.2.2.2.1, (f3 b hb).1.2.2.2.2.2⟩
      obtain ⟨k0, k1, k2, k3, k4, k5⟩ := I3.fpOk (Nat.le_refl _) nC
      exact ⟨m, hn, fun h'' sb => ⟨.ref D, H5, I7.turned (t' := s6.toks) (fun b o hb e => (sb.2 b hb).trans e) k0 k1 k3 k4 k5, rfl, fin⟩⟩
    · refine thnF (T.item ((X.blk s3 H3 scope ce fp).tr [q] fun _ _ => False) rfl rfl rfl heat i [] s5 _ H5 (fun _ _ => False) I5t f5 t5 go) fun r s6 ⟨u, hr, h6⟩ => ?_
      subst hr
      refine thnF h6 fun _ s7 ⟨x, H7, I7, r7, y7, t7, n7⟩ => ?_
      have I7 : Inv (X.blk s3 H3 scope ce fp) [q] (wipe σ (own.map (·.2))) H7 s7 := ⟨I5.ok, I7.os, I7.bare, I7.base, I7.loc, I7.cell, I7.free, I7.freeC, fun p hp => I7.pin p (List.mem_append_left _ hp), I7.hok, I7.len⟩
      have P7 := I7.pinned (stat I7 n7) (T.obj _ _ t7)
      refine thnF (pg.run _ s7 _ H7 x u _ P7 r7 (step x H7 y7)) fun _ s8 ⟨σ8, H8, I8, e8, q8⟩ => thnF (pt.run _ s8 σ8 H8 _ I8 q8) fun b s9 ⟨H9, I9, q9⟩ => ?_
      have next : ∀ {s' : Shared} {H' : Hp}, Inv (X.blk s3 H3 scope ce fp) ([q] ++ pinsAt fp s7.heap) σ8 H' s' → Nx H' → ∃ m, m < n ∧ ∃ i H', Inv (X.blk s3 H3 scope ce fp) [q] (wipe σ (own.map (·.2))) H' s' ∧ tn i s'.heap ∧ (∀ b ∈ fp, H' b = none) ∧ V i m H' := fun {s' H'} I' k => by
        obtain ⟨m', lt, w'⟩ := nx H' k
        have there : ∀ b ∈ fp, ∀ o, s7.heap.get? b = some o → s'.heap.get? b = some o ∧ H' b = none := fun b hb o e => by
          have z := I'.pin (b, o) (List.mem_append_right _ (List.mem_append_right _ (mem_pinsAt hb e)))
          exact ⟨z.1, z.2.1⟩
        refine ⟨m', lt, i + 1, H', (I'.unpinned (pins := [q])).weak (by rw [← e8, wipe_length]) fun j v e => ?_, T.keep _ _ _ t7 fun b hb o e => (there b hb o e).1, fun b hb => ?_, w'⟩
        · rw [← e8] at e
          exact (wipe_some e).1
        · obtain ⟨o, e, _⟩ := T.obj _ _ t7 b hb
          exact (there b hb o e).2
      cases b with
      | false =>
        simp only [Bool.false_eq_true, if_false] at q9 ⊢
        exact next I9 q9
      | true =>
        simp only [if_true] at q9 ⊢
        refine thnF (pe.run _ s9 σ8 H9 _ I9 q9) fun z s10 ⟨yv, H10, I10, r10, acc, d10, z10, k10⟩ => ?_
        exact app_ok (X := X.blk s3 H3 scope ce fp) I10 d10 z10 r10 fun s11 I11 => next I11 k10
  exact codeAny_compStart_list all (T.self X.A 0 _ _ _ t4 all)
/-- [elt for tg in range(n) if ..] in a suite -/
theorem ed_lcH {W : WX} {elt tg e : Expr} {ifs : List Expr} {scope : Scope} {own : List (Str × Nat)} {is : List Nat} {pos p0 p1 : Pos} {F : EF} {g : GF} {t : TF} {f : EF} (hot : L2H.HotC X) (sk : X.stack = X.env :: X.outer) (fr : X.env.frame = some X.env.locals) (hN : X.N.Nodup) (ok : BlkOk X.N X.env.scope scope own) (his : ∀ i ∈ is, i ∈ own.map (·.2))
    (hr : Gl X "range") (hm : X.mg "range" = none) (hi : ED X W e F) (hg : ∀ (s : Shared) (H : Hp) (C : Addr) (cl : List (Str × Addr)) (fp : List Addr), GD (X.blk s H scope (compEnvC scope cl C X.env) fp) is tg g)
    (ht : ∀ (s : Shared) (H : Hp) (C : Addr) (cl : List (Str × Addr)) (fp : List Addr), TsD (X.blk s H scope (compEnvC scope cl C X.env) fp) W0 ifs t)
    (he : ∀ (s : Shared) (H : Hp) (C : Addr) (cl : List (Str × Addr)) (fp : List Addr), ED (X.blk s H scope (compEnvC scope cl C X.env) fp) W0 elt f) (h1 : starEach [e] X.env = [(false, eval e X.env)] := by rfl) :
    ED X W (.ListComp elt [⟨tg, .Call (.Name "range" p0) [e] [] p1, ifs, 0⟩] scope pos) (eLc (iR1 F) g t f (own.map (·.2))) := by
  obtain ⟨te, pE, rE⟩ := hi
  refine ⟨_, pe_lcH (g := tG X.K is g) (tt := tT X.K X.mg W0 t) (te := tE X.K X.mg W0 f) hot sk fr hN (L2H.pi_range1H hr hm (pa_cons pE pa_nil h1) h1) ok (fun s H C cl fp => (hg s H C cl fp).can) (fun s H C cl fp => ht s H C cl fp) (fun s H C cl fp => (he s H C cl fp).can) (by intro _; rfl), rd_lc his (rd_r1 rE)⟩
/-! ### join -/
/-- the texts of a list or a tuple -/
def txts : PyData → Option (List Str)
  | .list ds => strsOf ds
  | .tuple ds => strsOf ds
  | _ => none
@[simp] def eJoin (f g : EF) : EF := fun ρ => f ρ >>= fun a => match a.1 with
  | .str x => g a.2 >>= fun b => li (txts b.1) >>= fun ys => if (ys.map (·.length)).sum + ys.length * x.length ≤ 16777216 ∧ okS (Txt.join x ys) = true then .ok (.str (Txt.join x ys), b.2) else .bad
  | _ => .bad
theorem ed_join {W : WX} {o e : Expr} {f g : EF} {apos pos : Pos} (hs : starEach [e] X.env = [(false, eval e X.env)] := by rfl) (hbase : attributeBase o "join" X.env (eval o X.env) = eval o X.env := by rfl) (hline : (apos.endLine == pos.line) = true := by rfl) :
    ED X W o f → ED X W e g → ED X W (.Call (.Attribute o "join" apos) [e] [] pos) (eJoin f g)
  | ⟨_, p, r⟩, ⟨_, q, s⟩ => ⟨_, pe_join p q hs hbase hline, fun G H σ ρ Q a h => r.use a (P := QE X.K Q) h fun d ρ1 v G1 H1 a1 af1 at1 h1 => by
    cases d with
    | str x =>
      cases at1
      refine ⟨⟨x, rfl⟩, s.use a1 (P := QE X.K Q) h1 fun d2 ρ2 w G2 H2 a2 af2 at2 h2 => ?_⟩
      cases q1 : txts d2 with
      | none => simp only [q1] at h2; exact h2.elim
      | some ys =>
        simp only [q1, li_some, bind_ok] at h2
        by_cases c : (ys.map (·.length)).sum + ys.length * x.length ≤ 16777216 ∧ okS (Txt.join x ys) = true
        case neg => rw [if_neg c] at h2; exact h2.elim
        rw [if_pos c] at h2
        have fin := Wh.here (P := QE X.K Q) h2 a2 _ (.str _ c.2)
        cases at2 with
        | lst h3 h4 =>
          obtain ⟨e1, _⟩ := strs_at h4 (show strsOf _ = some ys from q1)
          subst e1
          exact ⟨x, _, ys, rfl, rfl, .inl (sq_of (a2.ex _ _ h3)), c.1, fin⟩
        | tup h3 h4 =>
          obtain ⟨e1, _⟩ := strs_at h4 (show strsOf _ = some ys from q1)
          subst e1
          exact ⟨x, _, ys, rfl, rfl, .inr (ex_t a2.ex h3), c.1, fin⟩
        | _ => cases q1
    | _ => exact h1.elim⟩
end
end Pd
end

section
/-! PdZ: the ends that gen.py leans on. -/
namespace Pd
open PySem L2 Evl PySem.Spec PyProof.Rows
theorem hot_of {X : Cx} {a : Addr} {oe : Obj} {cls : Value} {d : Option Addr} {pn : List (Addr × Obj)} (z : L2N.Zn cls d oe) (f : ∃ vs, oe.data = .fields vs) : L2H.HotC (X.suite a ((a, oe) :: pn)) := by
  obtain ⟨vs, hv⟩ := f
  exact ⟨(a, oe), ⟨rfl, vs, hv, z.2.2 vs hv⟩, List.mem_cons_self⟩
/-- the def x makes functions -/
structure MkF (K : Fg) (mg : Str → Option Value) (base : Heap) (x : Str) : Prop where
  mem : ((x, none) : He.Defn) ∈ lamDefs
  tb : LamX.TabB base mg (He.cT K (x, none)).1 (He.cT K (x, none)).2
  un : ∀ e ∈ lamDefs, (He.cT K e).2 = (He.cT K (x, none)).2 → e.1 = x
theorem MkF.mk_ {X : Cx} {x : Str} {cdv : Value} {f : Addr} (m : MkF X.K X.mg X.base x) (hq : X.env.qual = x ++ ".<locals>.") (hc : X.env.code = cdv) (hf : f = He.fAd X.K (x, none)) (h : CodeAt X.K f cdv) :
    ∃ d ∈ lamDefs, (X.env.qual = d.1 ++ ".<locals>.") ∧ X.env.code = .ref (He.cT X.K d).1 ∧ LamX.TabB X.base X.mg (He.cT X.K d).1 (He.cT X.K d).2 ∧ ∀ e ∈ lamDefs, (He.cT X.K e).2 = (He.cT X.K d).2 → e.1 = d.1 := by
  subst hf
  exact ⟨(x, none), m.mem, hq, by rw [hc]; exact h.eq, m.tb, m.un⟩
/-! ### facts of classes -/
def clsW (K : Fg) (y : Str) : Value := if y = "ValueError" then .type "ValueError" else .ref (He.ga K y)
def exmB (K : Fg) (l : ET) : Bool := l.all fun t => decide (PySem.W.exmOne K (.ref (He.ga K t.1)) (clsW K t.2.1) = some t.2.2)
def excCB (K : Fg) (D : Addr) : Bool := decide (PySem.W.findIn K (.ref D) "__getattribute__" = some (some (.builtin "BaseException.__getattribute__"))) && (decide (PySem.W.findIn K (.ref D) "__getattr__" = some none) && (decide (PySem.W.subIn K (.ref D) (.type "BaseException") = some true) && (PySem.W.hasDictIn K D &&
  (decide (PySem.W.findIn K (.ref D) "__class__" = some (some (.builtin "object.__class__"))) && (decide (PySem.W.specialIn K (.builtin "object.__class__") "__get__" = some (some (.builtin "getset_descriptor.__get__"))) && (decide (PySem.W.takesIn K (.builtin "object.__class__") = some true) && decide (PySem.W.mroIn K D (.type "object") = some true)))))))
theorem excCB_ok {K : Fg} {D : Addr} (h : excCB K D = true) : L2.ExcC K D := by
  unfold excCB at h
  simp only [Bool.and_eq_true, decide_eq_true_eq] at h
  obtain ⟨h1, h2, h3, h4, h5, h6, h7, h8⟩ := h
  exact ⟨h1, h2, h3, h4, h5, h6, h7, h8⟩
def isxB (K : Fg) (l : ET) : Bool := l.all fun t => decide (PySem.W.kitOne K (.ref (He.ga K t.1)) (clsW K t.2.1) = some t.2.2) && excCB K (He.ga K t.1)
/-- the classes that a table names -/
def inCl (cl : List Str) (l : ET) : Bool := l.all fun t => decide (t.1 ∈ cl) && (decide (t.2.1 = "ValueError") || (decide (t.2.1 ≠ "ValueError") && decide (t.2.1 ∈ cl)))
section
variable {K : Fg} {mg : Str → Option Value}
theorem clsW_ok {cl : List Str} (hg : ∀ x ∈ cl, mg x = some (.ref (He.ga K x))) (hv : mg "ValueError" = none) {y : Str} (h : (decide (y = "ValueError") || (decide (y ≠ "ValueError") && decide (y ∈ cl))) = true) : ClsV mg y (clsW K y) := by
  unfold clsW
  by_cases c : y = "ValueError"
  · rw [if_pos c]; subst c
    exact .inr ⟨hv, PyProof.Rows.Boot.«ValueError», by decide⟩
  · rw [if_neg c]
    have h2 : y ∈ cl := by simpa [c] using h
    exact .inl (hg y h2)
theorem exm_ok {cl : List Str} {l : ET} (hg : ∀ x ∈ cl, mg x = some (.ref (He.ga K x))) (hv : mg "ValueError" = none) (hi : inCl cl l = true) (h : exmB K l = true) : ExmF mg K l := fun t ht => by
  have h1 := of_decide_eq_true (List.all_eq_true.mp h t ht)
  have h2 := List.all_eq_true.mp hi t ht
  obtain ⟨h3, h4⟩ := Bool.and_eq_true_iff.mp h2
  exact ⟨_, _, hg _ (of_decide_eq_true h3), clsW_ok hg hv h4, h1⟩
theorem isx_ok {cl : List Str} {l : ET} (hg : ∀ x ∈ cl, mg x = some (.ref (He.ga K x))) (hv : mg "ValueError" = none) (hi : inCl cl l = true) (h : isxB K l = true) : IsxF mg K l := fun t ht => by
  obtain ⟨h1, h5⟩ := Bool.and_eq_true_iff.mp (List.all_eq_true.mp h t ht)
  have h2 := List.all_eq_true.mp hi t ht
  obtain ⟨h3, h4⟩ := Bool.and_eq_true_iff.mp h2
  exact ⟨_, _, hg _ (of_decide_eq_true h3), clsW_ok hg hv h4, of_decide_eq_true h1, excCB_ok h5⟩
theorem cls_ok {cl : List Str} (hg : ∀ x ∈ cl, mg x = some (.ref (He.ga K x))) (hv : mg "ValueError" = none) {y : Str} (h : (decide (y = "ValueError") || (decide (y ≠ "ValueError") && decide (y ∈ cl))) = true) : ∃ v, ClsV mg y v := ⟨_, clsW_ok hg hv h⟩
/-- no two of these defs have one table -/
def unB (K : Fg) : Bool := lamDefs.all fun d => lamDefs.all fun e => decide ((He.cT K d).2 ≠ (He.cT K e).2) || decide (e.1 = d.1)
theorem mkF_ok {base : Heap} {x : Str} (mem : ((x, none) : He.Defn) ∈ lamDefs) (hT : ∀ p ∈ lamDefs, LamX.TabB base mg (He.cT K p).1 (He.cT K p).2) (h : unB K = true) : MkF K mg base x :=
  ⟨mem, hT _ mem, fun e he q => by
    have z := List.all_eq_true.mp (List.all_eq_true.mp h _ mem) e he
    rcases Bool.or_eq_true_iff.mp z with y | y
    · exact absurd q.symm (of_decide_eq_true y)
    · exact of_decide_eq_true y⟩
end
end Pd
end

section
namespace K13
open PySem L2 Pd
def topS (i : Nat) : Stmt := PySem.Challenge.pw_pastedcells_k13_vertical_pasting_and_spl.main.body.getD i (.Pass ⟨0, 0, 0, 0⟩)
def etbl : ET := [("InvalidNumber", "PasteError", true), ("InvalidNumber", "TooMany", false), ("InvalidComputad", "PasteError", true), ("InvalidComputad", "TooMany", false), ("InvalidDiagram", "PasteError", true), ("InvalidDiagram", "TooMany", false), ("NotComposable", "PasteError", true), ("NotComposable", "TooMany", false)]
def itbl : ET := [("InvalidNumber", "InvalidComputad", false), ("InvalidNumber", "InvalidDiagram", false), ("InvalidNumber", "InvalidNumber", true), ("InvalidNumber", "InvalidPath", false), ("InvalidNumber", "InvalidSide", false), ("InvalidNumber", "NotComposable", false), ("InvalidNumber", "ValueError", true), ("InvalidComputad", "InvalidComputad", true), ("InvalidComputad", "InvalidDiagram", false), ("InvalidComputad", "InvalidNumber", false), ("InvalidComputad", "InvalidPath", false), ("InvalidComputad", "InvalidSide", false), ("InvalidComputad", "NotComposable", false), ("InvalidComputad", "ValueError", true), ("InvalidDiagram", "InvalidComputad", false), ("InvalidDiagram", "InvalidDiagram", true), ("InvalidDiagram", "InvalidNumber", false), ("InvalidDiagram", "InvalidPath", false), ("InvalidDiagram", "InvalidSide", false), ("InvalidDiagram", "NotComposable", false), ("InvalidDiagram", "ValueError", true), ("NotComposable", "InvalidComputad", false), ("NotComposable", "InvalidDiagram", false), ("NotComposable", "InvalidNumber", false), ("NotComposable", "InvalidPath", false), ("NotComposable", "InvalidSide", false), ("NotComposable", "NotComposable", true), ("NotComposable", "ValueError", true)]
def cl : List Str := ["InvalidComputad", "InvalidDiagram", "InvalidNumber", "InvalidPath", "InvalidSide", "NotComposable", "PasteError", "TooMany"]
structure Facts (K : Fg) (mg : Str → Option Value) : Prop where
  b_ValueError : mg "ValueError" = none
  b_abs : mg "abs" = none
  b_all : mg "all" = none
  b_bool : mg "bool" = none
  b_dict : mg "dict" = none
  b_int : mg "int" = none
  b_isinstance : mg "isinstance" = none
  b_len : mg "len" = none
  b_list : mg "list" = none
  b_range : mg "range" = none
  b_sorted : mg "sorted" = none
  b_str : mg "str" = none
  b_sum : mg "sum" = none
  b_tuple : mg "tuple" = none
  b_zip : mg "zip" = none
  g_ARROWS : GC mg K "ARROWS" (.int 20)
  g_CELLS : GC mg K "CELLS" (.int 20)
  g_DIGITS : GC mg K "DIGITS" (.str "0123456789")
  g_LAYERS : GC mg K "LAYERS" (.int 200)
  g_LETTERS : GC mg K "LETTERS" (.str "abcdefghijklmnopqrstuvwxyz")
  g_NAME_LENGTH : GC mg K "NAME_LENGTH" (.int 12)
  g_PATH_LENGTH : GC mg K "PATH_LENGTH" (.int 400)
  g_POINTS : GC mg K "POINTS" (.int 12)
  g_SIDE_LENGTH : GC mg K "SIDE_LENGTH" (.int 6)
  g_SIZE : GC mg K "SIZE" (.int 400)
  x_InvalidComputad : ExF mg K "InvalidComputad"
  x_InvalidDiagram : ExF mg K "InvalidDiagram"
  x_InvalidNumber : ExF mg K "InvalidNumber"
  x_NotComposable : ExF mg K "NotComposable"
  v_InvalidComputad : ∃ v, ClsV mg "InvalidComputad" v
  v_InvalidDiagram : ∃ v, ClsV mg "InvalidDiagram" v
  v_InvalidNumber : ∃ v, ClsV mg "InvalidNumber" v
  v_InvalidPath : ∃ v, ClsV mg "InvalidPath" v
  v_InvalidSide : ∃ v, ClsV mg "InvalidSide" v
  v_NotComposable : ∃ v, ClsV mg "NotComposable" v
  v_PasteError : ∃ v, ClsV mg "PasteError" v
  v_TooMany : ∃ v, ClsV mg "TooMany" v
  v_ValueError : ∃ v, ClsV mg "ValueError" v
  exm : ExmF mg K etbl
  isx : IsxF mg K itbl
noncomputable section
variable {P : Program} {w : World} {K : Fg} {mg : Str → Option Value} {base : Heap}
/-! ### is_whole -/
abbrev s_is_whole : Stmt := topS 18
theorem sc_is_whole : FnScope ["value", "low", "high"] ["value", "low", "high"] (defScope s_is_whole) := ⟨rfl, rfl, rfl, by decide +kernel, rfl, by decide +kernel, by decide +kernel⟩
theorem fd_is_whole {f : Addr} {fd : FuncData} (T : Facts K mg) (D : FunD K "is_whole" "is_whole" (defArgs s_is_whole) (defBody s_is_whole) (defScope s_is_whole) [] [] f fd) (hm : mg "is_whole" = some (.ref f)) (hb : Binds K fd ["value", "low", "high"] []) : Fd P w K mg base 1 "is_whole" 3 m_is_whole := by
  rw [m_is_whole_eq]
  exact
  fd_of (k := 0) D sc_is_whole hm hb fun cdv hcd A outer s H E hr =>
    sds_one (sd_ret (ed_and (ed_isi kitT_int rfl T.b_isinstance rfl T.b_int (by decide +kernel) (by decide) (by decide) rfl rfl rfl (ed_var 0)) (ed_and (ed_not (ed_isi kitT_bool rfl T.b_isinstance rfl T.b_bool (by decide +kernel) (by decide) (by decide) rfl rfl rfl (ed_var 0))) (ed_one (ed_lele (ed_var 1) (ed_var 0) (ed_var 2))))))
/-! ### need_whole -/
abbrev s_need_whole : Stmt := topS 19
theorem sc_need_whole : FnScope ["value", "low", "high"] ["value", "low", "high"] (defScope s_need_whole) := ⟨rfl, rfl, rfl, by decide +kernel, rfl, by decide +kernel, by decide +kernel⟩
def S_need_whole : SF :=
  sIf (tNo (tOf (eUser 3 (m_is_whole) (cD (eVar 0) (cD (eVar 1) (cD (eVar 2) (cNil))))))) (sRaise "InvalidNumber") (sNx)
theorem q_need_whole : ∃ F : Fn, F = mkFn 3 S_need_whole := ⟨_, rfl⟩
noncomputable def m_need_whole : Fn := Classical.choose q_need_whole
theorem m_need_whole_eq : m_need_whole = mkFn 3 S_need_whole := Classical.choose_spec q_need_whole
theorem fd_need_whole {f : Addr} {fd : FuncData} (T : Facts K mg) (D : FunD K "need_whole" "need_whole" (defArgs s_need_whole) (defBody s_need_whole) (defScope s_need_whole) [] [] f fd) (hm : mg "need_whole" = some (.ref f)) (hb : Binds K fd ["value", "low", "high"] []) (c_is_whole : Fd P w K mg base 1 "is_whole" 3 (m_is_whole)) : Fd P w K mg base 2 "need_whole" 3 m_need_whole := by
  rw [m_need_whole_eq]
  exact
  fd_of (k := 1) D sc_need_whole hm hb fun cdv hcd A outer s H E hr =>
    sds_one (sd_if (td_not (td_val (by intro _; rfl) (ed_call c_is_whole hr bx_takes rfl (by decide) (by decide) rfl rfl (cd_d rfl (ed_var 0) (cd_d rfl (ed_var 1) (cd_d rfl (ed_var 2) (cd_nil))))))) (sds_one (sd_raise rfl bx_takes T.x_InvalidNumber rfl)) (sds_nil))
/-! ### is_tuple_of -/
abbrev s_is_tuple_of : Stmt := topS 20
theorem sc_is_tuple_of : FnScope ["value", "low", "high"] ["value", "low", "high"] (defScope s_is_tuple_of) := ⟨rfl, rfl, rfl, by decide +kernel, rfl, by decide +kernel, by decide +kernel⟩
theorem fd_is_tuple_of {f : Addr} {fd : FuncData} (T : Facts K mg) (D : FunD K "is_tuple_of" "is_tuple_of" (defArgs s_is_tuple_of) (defBody s_is_tuple_of) (defScope s_is_tuple_of) [] [] f fd) (hm : mg "is_tuple_of" = some (.ref f)) (hb : Binds K fd ["value", "low", "high"] []) : Fd P w K mg base 1 "is_tuple_of" 3 m_is_tuple_of := by
  rw [m_is_tuple_of_eq]
  exact
  fd_of (k := 0) D sc_is_tuple_of hm hb fun cdv hcd A outer s H E hr =>
    sds_one (sd_ret (ed_and (ed_isi kitT_tuple rfl T.b_isinstance rfl T.b_tuple (by decide +kernel) (by decide) (by decide) rfl rfl rfl (ed_var 0)) (ed_one (ed_lele (ed_var 1) (ed_callB call_len opc_len rfl T.b_len PySem.boot_len (by decide) (by decide) rfl rfl (ad_cons rfl (ed_var 0) (ad_nil))) (ed_var 2)))))
/-! ### is_name -/
abbrev s_is_name : Stmt := topS 21
theorem sc_is_name : FnScope ["value", "sign"] ["value"] (defScope s_is_name) := ⟨rfl, rfl, rfl, by decide +kernel, rfl, by decide +kernel, by decide +kernel⟩
theorem fd_is_name {f : Addr} {fd : FuncData} (T : Facts K mg) (D : FunD K "is_name" "is_name" (defArgs s_is_name) (defBody s_is_name) (defScope s_is_name) [] [] f fd) (hm : mg "is_name" = some (.ref f)) (hb : Binds K fd ["value"] []) : Fd P w K mg base 1 "is_name" 1 m_is_name :=
  fd_of (k := 0) D sc_is_name hm hb fun cdv hcd A outer s H E hr =>
    sds_cons (sd_if (td_bo (wd_or (td_not (td_val (by intro _; rfl) (ed_isi kitT_str rfl T.b_isinstance rfl T.b_str (by decide +kernel) (by decide) (by decide) rfl rfl rfl (ed_var 0)))) (wd_or (td_not (td_lele (ed_int) (ed_callB call_len opc_len rfl T.b_len PySem.boot_len (by decide) (by decide) rfl rfl (ad_cons rfl (ed_var 0) (ad_nil))) (ed_glob rfl T.g_NAME_LENGTH))) (wd_or1 (td_nin (hu65 hr) (ed_ix (by intro _ _; rfl) (ed_var 0) (ed_int)) (ed_glob rfl T.g_LETTERS)))))) (sds_one (sd_ret (ed_bl))) (sds_nil)) (sds_one (sd_ret (ed_callB (cr_all rfl) opc_all rfl T.b_all (by decide +kernel) (by decide) (by decide) rfl rfl (ad_cons rfl (ed_lc (own := [("sign", 1)]) rfl sc_is_name.nd (blkOk_by (by kernel_rfl)) (by decide) (id_any (ed_var 0)) (fun _ _ _ _ _ => gd_name 1 sc_is_name.nd rfl (by first | exact Or.inl rfl | exact Or.inr rfl) (by first | exact .inl rfl | exact .inr rfl)) (fun _ _ _ _ _ => tsd_nil) (fun _ _ _ _ _ => ed_in (hu65 hr) (ed_var 1) (ed_add (ed_glob rfl T.g_LETTERS) (ed_glob rfl T.g_DIGITS)))) (ad_nil)))))
/-! ### are_ascending -/
abbrev s_are_ascending : Stmt := topS 22
theorem sc_are_ascending : FnScope ["names", "one", "other"] ["names"] (defScope s_are_ascending) := ⟨rfl, rfl, rfl, by decide +kernel, rfl, by decide +kernel, by decide +kernel⟩
theorem fd_are_ascending {f : Addr} {fd : FuncData} (T : Facts K mg) (D : FunD K "are_ascending" "are_ascending" (defArgs s_are_ascending) (defBody s_are_ascending) (defScope s_are_ascending) [] [] f fd) (hm : mg "are_ascending" = some (.ref f)) (hb : Binds K fd ["names"] []) : Fd P w K mg base 1 "are_ascending" 1 m_are_ascending := by
  rw [m_are_ascending_eq]
  exact
  fd_of (k := 0) D sc_are_ascending hm hb fun cdv hcd A outer s H E hr =>
    sds_one (sd_ret (ed_callB (cr_all rfl) opc_all rfl T.b_all (by decide +kernel) (by decide) (by decide) rfl rfl (ad_cons rfl (ed_lc (own := [("one", 1), ("other", 2)]) rfl sc_are_ascending.nd (blkOk_by (by kernel_rfl)) (by decide) (id_zip rfl T.b_zip rfl rfl rfl (ed_var 0) (ed_slice (ed_var 0) (od_some (ed_int)) (od_none))) (fun _ _ _ _ _ => gd_tup rfl rfl rfl (gds_cons rfl (gd_name 1 sc_are_ascending.nd rfl (by first | exact Or.inl rfl | exact Or.inr rfl) (by first | exact .inl rfl | exact .inr rfl)) (gds_cons rfl (gd_name 2 sc_are_ascending.nd rfl (by first | exact Or.inl rfl | exact Or.inr rfl) (by first | exact .inl rfl | exact .inr rfl)) (gds_nil)))) (fun _ _ _ _ _ => tsd_nil) (fun _ _ _ _ _ => ed_lt (ed_var 1) (ed_var 2))) (ad_nil))))
/-! ### row_of -/
abbrev s_row_of : Stmt := topS 23
theorem sc_row_of : FnScope ["rows", "name", "row"] ["rows", "name"] (defScope s_row_of) := ⟨rfl, rfl, rfl, by decide +kernel, rfl, by decide +kernel, by decide +kernel⟩
theorem fd_row_of {f : Addr} {fd : FuncData} (T : Facts K mg) (D : FunD K "row_of" "row_of" (defArgs s_row_of) (defBody s_row_of) (defScope s_row_of) [] [] f fd) (hm : mg "row_of" = some (.ref f)) (hb : Binds K fd ["rows", "name"] []) : Fd P w K mg base 1 "row_of" 2 m_row_of := by
  rw [m_row_of_eq]
  exact
  fd_of (k := 0) D sc_row_of hm hb fun cdv hcd A outer s H E hr =>
    sds_cons (sd_for bx_passes rfl (by intro _; rfl) (id_any (ed_var 0)) (gd_name 2 sc_row_of.nd rfl (by first | exact Or.inl rfl | exact Or.inr rfl) (by first | exact .inl rfl | exact .inr rfl)) (sds_one (sd_if (td_eq (hu64 hr) (ed_ix (by intro _ _; rfl) (ed_var 2) (ed_int)) (ed_var 1)) (sds_one (sd_ret (ed_var 2))) (sds_nil)))) (sds_one (sd_ret (ed_non)))
/-! ### chained_points -/
abbrev s_chained_points : Stmt := topS 24
theorem sc_chained_points : FnScope ["arrows", "point", "names", "found", "name", "row"] ["arrows", "point", "names"] (defScope s_chained_points) := ⟨rfl, rfl, rfl, by decide +kernel, rfl, by decide +kernel, by decide +kernel⟩
theorem fd_chained_points {f : Addr} {fd : FuncData} (T : Facts K mg) (D : FunD K "chained_points" "chained_points" (defArgs s_chained_points) (defBody s_chained_points) (defScope s_chained_points) [] [] f fd) (hm : mg "chained_points" = some (.ref f)) (hb : Binds K fd ["arrows", "point", "names"] []) (c_row_of : Fd P w K mg base 1 "row_of" 2 (m_row_of)) : Fd P w K mg base 2 "chained_points" 3 m_chained_points := by
  rw [m_chained_points_eq]
  exact
  fd_of (k := 1) D sc_chained_points hm hb fun cdv hcd A outer s H E hr =>
    sds_cons (sd_new 3 sc_chained_points.nd (by decide) rfl (by first | exact Or.inl rfl | exact Or.inr rfl) rfl (by first | exact .inl rfl | exact .inr rfl) (nd_lst (ad_cons rfl (ed_var 1) (ad_nil)))) (sds_cons (sd_for bx_passes rfl (by intro _; rfl) (id_any (ed_var 2)) (gd_name 4 sc_chained_points.nd rfl (by first | exact Or.inl rfl | exact Or.inr rfl) (by first | exact .inl rfl | exact .inr rfl)) (sds_cons (sd_set 5 sc_chained_points.nd rfl (by first | exact Or.inl rfl | exact Or.inr rfl) rfl (by first | exact .inl rfl | exact .inr rfl) (ed_if (td_val (by intro _; rfl) (ed_isi kitT_str rfl T.b_isinstance rfl T.b_str (by decide +kernel) (by decide) (by decide) rfl rfl rfl (ed_var 4))) (ed_call c_row_of hr bx_takes rfl (by decide) (by decide) rfl rfl (cd_d rfl (ed_var 0) (cd_d rfl (ed_var 4) (cd_nil)))) (ed_non))) (sds_cons (sd_if (td_bo (wd_or (td_isN (ed_var 5) (ed_non)) (wd_or1 (td_ne (hu64 hr) (ed_ix (by intro _ _; rfl) (ed_var 5) (ed_int)) (ed_ixM 3 rfl (by first | exact Or.inl rfl | exact Or.inr (Or.inl rfl) | exact Or.inr (Or.inr rfl)) (by decide) (by decide) (by intro _ _; rfl) (ed_neg (ed_int))))))) (sds_one (sd_ret (ed_non))) (sds_nil)) (sds_one (sd_app 3 rfl (by first | exact Or.inl rfl | exact Or.inr (Or.inl rfl) | exact Or.inr (Or.inr rfl)) (by decide) (by decide) rfl rfl rfl rfl rfl rfl (ed_ix (by intro _ _; rfl) (ed_var 5) (ed_int))))))) (sds_fz 3 (by decide) (sds_one (sd_ret (ed_var 3)))))
/-! ### are_points -/
abbrev s_are_points : Stmt := topS 25
theorem sc_are_points : FnScope ["value", "name"] ["value"] (defScope s_are_points) := ⟨rfl, rfl, rfl, by decide +kernel, rfl, by decide +kernel, by decide +kernel⟩
theorem fd_are_points {f : Addr} {fd : FuncData} (T : Facts K mg) (D : FunD K "are_points" "are_points" (defArgs s_are_points) (defBody s_are_points) (defScope s_are_points) [] [] f fd) (hm : mg "are_points" = some (.ref f)) (hb : Binds K fd ["value"] []) (c_is_tuple_of : Fd P w K mg base 1 "is_tuple_of" 3 (m_is_tuple_of)) (c_is_name : Fd P w K mg base 1 "is_name" 1 (m_is_name)) (c_are_ascending : Fd P w K mg base 1 "are_ascending" 1 (m_are_ascending)) : Fd P w K mg base 2 "are_points" 1 m_are_points := by
  rw [m_are_points_eq]
  exact
  fd_of (k := 1) D sc_are_points hm hb fun cdv hcd A outer s H E hr =>
    sds_one (sd_ret (ed_and (ed_call c_is_tuple_of hr bx_takes rfl (by decide) (by decide) rfl rfl (cd_d rfl (ed_var 0) (cd_d rfl (ed_int) (cd_d rfl (ed_glob rfl T.g_POINTS) (cd_nil))))) (ed_and (ed_callB (cr_all rfl) opc_all rfl T.b_all (by decide +kernel) (by decide) (by decide) rfl rfl (ad_cons rfl (ed_lc (own := [("name", 1)]) rfl sc_are_points.nd (blkOk_by (by kernel_rfl)) (by decide) (id_any (ed_var 0)) (fun _ _ _ _ _ => gd_name 1 sc_are_points.nd rfl (by first | exact Or.inl rfl | exact Or.inr rfl) (by first | exact .inl rfl | exact .inr rfl)) (fun _ _ _ _ _ => tsd_nil) (fun _ _ _ _ _ => ed_call c_is_name hr takes0 rfl (by decide) (by decide) rfl rfl (cd_d rfl (ed_var 1) (cd_nil)))) (ad_nil))) (ed_one (ed_call c_are_ascending hr bx_takes rfl (by decide) (by decide) rfl rfl (cd_d rfl (ed_var 0) (cd_nil)))))))
/-! ### are_arrows -/
abbrev s_are_arrows : Stmt := topS 26
theorem sc_are_arrows : FnScope ["points", "value", "row", "item"] ["points", "value"] (defScope s_are_arrows) := ⟨rfl, rfl, rfl, by decide +kernel, rfl, by decide +kernel, by decide +kernel⟩
theorem fd_are_arrows {f : Addr} {fd : FuncData} (T : Facts K mg) (D : FunD K "are_arrows" "are_arrows" (defArgs s_are_arrows) (defBody s_are_arrows) (defScope s_are_arrows) [] [] f fd) (hm : mg "are_arrows" = some (.ref f)) (hb : Binds K fd ["points", "value"] []) (c_is_tuple_of : Fd P w K mg base 1 "is_tuple_of" 3 (m_is_tuple_of)) (c_is_name : Fd P w K mg base 1 "is_name" 1 (m_is_name)) (c_are_ascending : Fd P w K mg base 1 "are_ascending" 1 (m_are_ascending)) : Fd P w K mg base 2 "are_arrows" 2 m_are_arrows := by
  rw [m_are_arrows_eq]
  exact
  fd_of (k := 1) D sc_are_arrows hm hb fun cdv hcd A outer s H E hr =>
    sds_cons (sd_if (td_not (td_val (by intro _; rfl) (ed_call c_is_tuple_of hr bx_takes rfl (by decide) (by decide) rfl rfl (cd_d rfl (ed_var 1) (cd_d rfl (ed_int) (cd_d rfl (ed_glob rfl T.g_ARROWS) (cd_nil))))))) (sds_one (sd_ret (ed_bl))) (sds_nil)) (sds_cons (sd_for bx_passes rfl (by intro _; rfl) (id_any (ed_var 1)) (gd_name 2 sc_are_arrows.nd rfl (by first | exact Or.inl rfl | exact Or.inr rfl) (by first | exact .inl rfl | exact .inr rfl)) (sds_cons (sd_if (td_bo (wd_or (td_not (td_val (by intro _; rfl) (ed_call c_is_tuple_of hr bx_takes rfl (by decide) (by decide) rfl rfl (cd_d rfl (ed_var 2) (cd_d rfl (ed_int) (cd_d rfl (ed_int) (cd_nil))))))) (wd_or1 (td_not (td_val (by intro _; rfl) (ed_callB (cr_all rfl) opc_all rfl T.b_all (by decide +kernel) (by decide) (by decide) rfl rfl (ad_cons rfl (ed_lc (own := [("item", 3)]) rfl sc_are_arrows.nd (blkOk_by (by kernel_rfl)) (by decide) (id_any (ed_var 2)) (fun _ _ _ _ _ => gd_name 3 sc_are_arrows.nd rfl (by first | exact Or.inl rfl | exact Or.inr rfl) (by first | exact .inl rfl | exact .inr rfl)) (fun _ _ _ _ _ => tsd_nil) (fun _ _ _ _ _ => ed_call c_is_name hr takes0 rfl (by decide) (by decide) rfl rfl (cd_d rfl (ed_var 3) (cd_nil)))) (ad_nil)))))))) (sds_one (sd_ret (ed_bl))) (sds_nil)) (sds_one (sd_if (td_bo (wd_or (td_nin (hu65 hr) (ed_ix (by intro _ _; rfl) (ed_var 2) (ed_int)) (ed_var 0)) (wd_or1 (td_nin (hu65 hr) (ed_ix (by intro _ _; rfl) (ed_var 2) (ed_int)) (ed_var 0))))) (sds_one (sd_ret (ed_bl))) (sds_nil))))) (sds_one (sd_ret (ed_call c_are_ascending hr bx_takes rfl (by decide) (by decide) rfl rfl (cd_d rfl (ed_lc (own := [("row", 2)]) rfl sc_are_arrows.nd (blkOk_by (by kernel_rfl)) (by decide) (id_any (ed_var 1)) (fun _ _ _ _ _ => gd_name 2 sc_are_arrows.nd rfl (by first | exact Or.inl rfl | exact Or.inr rfl) (by first | exact .inl rfl | exact .inr rfl)) (fun _ _ _ _ _ => tsd_nil) (fun _ _ _ _ _ => ed_ix (by intro _ _; rfl) (ed_var 2) (ed_int))) (cd_nil))))))
/-! ### is_cell -/
abbrev s_is_cell : Stmt := topS 27
theorem sc_is_cell : FnScope ["points", "arrows", "row", "upper", "lower"] ["points", "arrows", "row"] (defScope s_is_cell) := ⟨rfl, rfl, rfl, by decide +kernel, rfl, by decide +kernel, by decide +kernel⟩
theorem fd_is_cell {f : Addr} {fd : FuncData} (T : Facts K mg) (D : FunD K "is_cell" "is_cell" (defArgs s_is_cell) (defBody s_is_cell) (defScope s_is_cell) [] [] f fd) (hm : mg "is_cell" = some (.ref f)) (hb : Binds K fd ["points", "arrows", "row"] []) (c_is_tuple_of : Fd P w K mg base 1 "is_tuple_of" 3 (m_is_tuple_of)) (c_is_name : Fd P w K mg base 1 "is_name" 1 (m_is_name)) (c_chained_points : Fd P w K mg base 2 "chained_points" 3 (m_chained_points)) : Fd P w K mg base 3 "is_cell" 3 m_is_cell := by
  rw [m_is_cell_eq]
  exact
  fd_of (k := 2) D sc_is_cell hm hb fun cdv hcd A outer s H E hr =>
    sds_cons (sd_if (td_bo (wd_or (td_not (td_val (by intro _; rfl) (ed_call c_is_tuple_of hr bx_takes rfl (by decide) (by decide) rfl rfl (cd_d rfl (ed_var 2) (cd_d rfl (ed_int) (cd_d rfl (ed_int) (cd_nil))))))) (wd_or (td_not (td_val (by intro _; rfl) (ed_call c_is_name hr bx_takes rfl (by decide) (by decide) rfl rfl (cd_d rfl (ed_ix (by intro _ _; rfl) (ed_var 2) (ed_int)) (cd_nil))))) (wd_or (td_not (td_val (by intro _; rfl) (ed_call c_is_name hr bx_takes rfl (by decide) (by decide) rfl rfl (cd_d rfl (ed_ix (by intro _ _; rfl) (ed_var 2) (ed_int)) (cd_nil))))) (wd_or1 (td_nin (hu65 hr) (ed_ix (by intro _ _; rfl) (ed_var 2) (ed_int)) (ed_var 0))))))) (sds_one (sd_ret (ed_bl))) (sds_nil)) (sds_cons (sd_if (td_bo (wd_or (td_not (td_val (by intro _; rfl) (ed_call c_is_tuple_of hr bx_takes rfl (by decide) (by decide) rfl rfl (cd_d rfl (ed_ix (by intro _ _; rfl) (ed_var 2) (ed_int)) (cd_d rfl (ed_int) (cd_d rfl (ed_glob rfl T.g_SIDE_LENGTH) (cd_nil))))))) (wd_or1 (td_not (td_val (by intro _; rfl) (ed_call c_is_tuple_of hr bx_takes rfl (by decide) (by decide) rfl rfl (cd_d rfl (ed_ix (by intro _ _; rfl) (ed_var 2) (ed_int)) (cd_d rfl (ed_int) (cd_d rfl (ed_glob rfl T.g_SIDE_LENGTH) (cd_nil)))))))))) (sds_one (sd_ret (ed_bl))) (sds_nil)) (sds_cons (sd_par 3 4 rfl sc_is_cell.nd rfl rfl (by decide) rfl rfl rfl rfl rfl rfl (ed_call c_chained_points hr bx_takes rfl (by decide) (by decide) rfl rfl (cd_d rfl (ed_var 1) (cd_d rfl (ed_ix (by intro _ _; rfl) (ed_var 2) (ed_int)) (cd_d rfl (ed_ix (by intro _ _; rfl) (ed_var 2) (ed_int)) (cd_nil))))) (ed_call c_chained_points hr bx_takes rfl (by decide) (by decide) rfl rfl (cd_d rfl (ed_var 1) (cd_d rfl (ed_ix (by intro _ _; rfl) (ed_var 2) (ed_int)) (cd_d rfl (ed_ix (by intro _ _; rfl) (ed_var 2) (ed_int)) (cd_nil)))))) (sds_one (sd_ret (ed_and (ed_notN (ed_var 3) (ed_non)) (ed_and (ed_notN (ed_var 4) (ed_non)) (ed_one (ed_eq (hu64 hr) (ed_ix (by intro _ _; rfl) (ed_var 3) (ed_neg (ed_int))) (ed_ix (by intro _ _; rfl) (ed_var 4) (ed_neg (ed_int)))))))))))
/-! ### is_computad -/
abbrev s_is_computad : Stmt := topS 28
theorem sc_is_computad : FnScope ["value", "row"] ["value"] (defScope s_is_computad) := ⟨rfl, rfl, rfl, by decide +kernel, rfl, by decide +kernel, by decide +kernel⟩
theorem fd_is_computad {f : Addr} {fd : FuncData} (T : Facts K mg) (D : FunD K "is_computad" "is_computad" (defArgs s_is_computad) (defBody s_is_computad) (defScope s_is_computad) [] [] f fd) (hm : mg "is_computad" = some (.ref f)) (hb : Binds K fd ["value"] []) (c_is_tuple_of : Fd P w K mg base 1 "is_tuple_of" 3 (m_is_tuple_of)) (c_are_points : Fd P w K mg base 2 "are_points" 1 (m_are_points)) (c_are_arrows : Fd P w K mg base 2 "are_arrows" 2 (m_are_arrows)) (c_is_cell : Fd P w K mg base 3 "is_cell" 3 (m_is_cell)) (c_are_ascending : Fd P w K mg base 1 "are_ascending" 1 (m_are_ascending)) : Fd P w K mg base 4 "is_computad" 1 m_is_computad := by
  rw [m_is_computad_eq]
  exact
  fd_of (k := 3) D sc_is_computad hm hb fun cdv hcd A outer s H E hr =>
    sds_cons (sd_if (td_bo (wd_or (td_not (td_val (by intro _; rfl) (ed_call c_is_tuple_of hr bx_takes rfl (by decide) (by decide) rfl rfl (cd_d rfl (ed_var 0) (cd_d rfl (ed_int) (cd_d rfl (ed_int) (cd_nil))))))) (wd_or (td_not (td_val (by intro _; rfl) (ed_call c_are_points hr bx_takes rfl (by decide) (by decide) rfl rfl (cd_d rfl (ed_ix (by intro _ _; rfl) (ed_var 0) (ed_int)) (cd_nil))))) (wd_or1 (td_not (td_val (by intro _; rfl) (ed_call c_are_arrows hr bx_takes rfl (by decide) (by decide) rfl rfl (cd_d rfl (ed_ix (by intro _ _; rfl) (ed_var 0) (ed_int)) (cd_d rfl (ed_ix (by intro _ _; rfl) (ed_var 0) (ed_int)) (cd_nil)))))))))) (sds_one (sd_ret (ed_bl))) (sds_nil)) (sds_cons (sd_if (td_bo (wd_or (td_not (td_val (by intro _; rfl) (ed_call c_is_tuple_of hr bx_takes rfl (by decide) (by decide) rfl rfl (cd_d rfl (ed_ix (by intro _ _; rfl) (ed_var 0) (ed_int)) (cd_d rfl (ed_int) (cd_d rfl (ed_glob rfl T.g_CELLS) (cd_nil))))))) (wd_or1 (td_not (td_val (by intro _; rfl) (ed_callB (cr_all rfl) opc_all rfl T.b_all (by decide +kernel) (by decide) (by decide) rfl rfl (ad_cons rfl (ed_lc (own := [("row", 1)]) rfl sc_is_computad.nd (blkOk_by (by kernel_rfl)) (by decide) (id_any (ed_ix (by intro _ _; rfl) (ed_var 0) (ed_int))) (fun _ _ _ _ _ => gd_name 1 sc_is_computad.nd rfl (by first | exact Or.inl rfl | exact Or.inr rfl) (by first | exact .inl rfl | exact .inr rfl)) (fun _ _ _ _ _ => tsd_nil) (fun _ _ _ _ _ => ed_call c_is_cell hr takes0 rfl (by decide) (by decide) rfl rfl (cd_d rfl (ed_ix (by intro _ _; rfl) (ed_var 0) (ed_int)) (cd_d rfl (ed_ix (by intro _ _; rfl) (ed_var 0) (ed_int)) (cd_d rfl (ed_var 1) (cd_nil)))))) (ad_nil)))))))) (sds_one (sd_ret (ed_bl))) (sds_nil)) (sds_one (sd_ret (ed_call c_are_ascending hr bx_takes rfl (by decide) (by decide) rfl rfl (cd_d rfl (ed_lc (own := [("row", 1)]) rfl sc_is_computad.nd (blkOk_by (by kernel_rfl)) (by decide) (id_any (ed_ix (by intro _ _; rfl) (ed_var 0) (ed_int))) (fun _ _ _ _ _ => gd_name 1 sc_is_computad.nd rfl (by first | exact Or.inl rfl | exact Or.inr rfl) (by first | exact .inl rfl | exact .inr rfl)) (fun _ _ _ _ _ => tsd_nil) (fun _ _ _ _ _ => ed_ix (by intro _ _; rfl) (ed_var 1) (ed_int))) (cd_nil))))))
/-! ### need_computad -/
abbrev s_need_computad : Stmt := topS 29
theorem sc_need_computad : FnScope ["value"] ["value"] (defScope s_need_computad) := ⟨rfl, rfl, rfl, by decide +kernel, rfl, by decide +kernel, by decide +kernel⟩
theorem fd_need_computad {f : Addr} {fd : FuncData} (T : Facts K mg) (D : FunD K "need_computad" "need_computad" (defArgs s_need_computad) (defBody s_need_computad) (defScope s_need_computad) [] [] f fd) (hm : mg "need_computad" = some (.ref f)) (hb : Binds K fd ["value"] []) (c_is_computad : Fd P w K mg base 4 "is_computad" 1 (m_is_computad)) : Fd P w K mg base 5 "need_computad" 1 m_need_computad := by
  rw [m_need_computad_eq]
  exact
  fd_of (k := 4) D sc_need_computad hm hb fun cdv hcd A outer s H E hr =>
    sds_one (sd_if (td_not (td_val (by intro _; rfl) (ed_call c_is_computad hr bx_takes rfl (by decide) (by decide) rfl rfl (cd_d rfl (ed_var 0) (cd_nil))))) (sds_one (sd_raise rfl bx_takes T.x_InvalidComputad rfl)) (sds_nil))
/-! ### is_path_in -/
abbrev s_is_path_in : Stmt := topS 30
theorem sc_is_path_in : FnScope ["computad", "value"] ["computad", "value"] (defScope s_is_path_in) := ⟨rfl, rfl, rfl, by decide +kernel, rfl, by decide +kernel, by decide +kernel⟩
theorem fd_is_path_in {f : Addr} {fd : FuncData} (T : Facts K mg) (D : FunD K "is_path_in" "is_path_in" (defArgs s_is_path_in) (defBody s_is_path_in) (defScope s_is_path_in) [] [] f fd) (hm : mg "is_path_in" = some (.ref f)) (hb : Binds K fd ["computad", "value"] []) (c_is_tuple_of : Fd P w K mg base 1 "is_tuple_of" 3 (m_is_tuple_of)) (c_is_name : Fd P w K mg base 1 "is_name" 1 (m_is_name)) (c_chained_points : Fd P w K mg base 2 "chained_points" 3 (m_chained_points)) : Fd P w K mg base 3 "is_path_in" 2 m_is_path_in := by
  rw [m_is_path_in_eq]
  exact
  fd_of (k := 2) D sc_is_path_in hm hb fun cdv hcd A outer s H E hr =>
    sds_cons (sd_if (td_bo (wd_or (td_not (td_val (by intro _; rfl) (ed_call c_is_tuple_of hr bx_takes rfl (by decide) (by decide) rfl rfl (cd_d rfl (ed_var 1) (cd_d rfl (ed_int) (cd_d rfl (ed_int) (cd_nil))))))) (wd_or (td_not (td_val (by intro _; rfl) (ed_call c_is_name hr bx_takes rfl (by decide) (by decide) rfl rfl (cd_d rfl (ed_ix (by intro _ _; rfl) (ed_var 1) (ed_int)) (cd_nil))))) (wd_or1 (td_nin (hu65 hr) (ed_ix (by intro _ _; rfl) (ed_var 1) (ed_int)) (ed_ix (by intro _ _; rfl) (ed_var 0) (ed_int))))))) (sds_one (sd_ret (ed_bl))) (sds_nil)) (sds_one (sd_ret (ed_and (ed_call c_is_tuple_of hr bx_takes rfl (by decide) (by decide) rfl rfl (cd_d rfl (ed_ix (by intro _ _; rfl) (ed_var 1) (ed_int)) (cd_d rfl (ed_int) (cd_d rfl (ed_glob rfl T.g_PATH_LENGTH) (cd_nil))))) (ed_one (ed_notN (ed_call c_chained_points hr bx_takes rfl (by decide) (by decide) rfl rfl (cd_d rfl (ed_ix (by intro _ _; rfl) (ed_var 0) (ed_int)) (cd_d rfl (ed_ix (by intro _ _; rfl) (ed_var 1) (ed_int)) (cd_d rfl (ed_ix (by intro _ _; rfl) (ed_var 1) (ed_int)) (cd_nil))))) (ed_non))))))
/-! ### cell_row -/
abbrev s_cell_row : Stmt := topS 31
theorem sc_cell_row : FnScope ["computad", "name"] ["computad", "name"] (defScope s_cell_row) := ⟨rfl, rfl, rfl, by decide +kernel, rfl, by decide +kernel, by decide +kernel⟩
theorem fd_cell_row {f : Addr} {fd : FuncData} (T : Facts K mg) (D : FunD K "cell_row" "cell_row" (defArgs s_cell_row) (defBody s_cell_row) (defScope s_cell_row) [] [] f fd) (hm : mg "cell_row" = some (.ref f)) (hb : Binds K fd ["computad", "name"] []) (c_row_of : Fd P w K mg base 1 "row_of" 2 (m_row_of)) : Fd P w K mg base 2 "cell_row" 2 m_cell_row := by
  rw [m_cell_row_eq]
  exact
  fd_of (k := 1) D sc_cell_row hm hb fun cdv hcd A outer s H E hr =>
    sds_one (sd_ret (ed_if (td_val (by intro _; rfl) (ed_isi kitT_str rfl T.b_isinstance rfl T.b_str (by decide +kernel) (by decide) (by decide) rfl rfl rfl (ed_var 1))) (ed_call c_row_of hr bx_takes rfl (by decide) (by decide) rfl rfl (cd_d rfl (ed_ix (by intro _ _; rfl) (ed_var 0) (ed_int)) (cd_d rfl (ed_var 1) (cd_nil)))) (ed_non)))
/-! ### point_at -/
abbrev s_point_at : Stmt := topS 35
theorem sc_point_at : FnScope ["computad", "path", "at", "point", "names"] ["computad", "path", "at"] (defScope s_point_at) := ⟨rfl, rfl, rfl, by decide +kernel, rfl, by decide +kernel, by decide +kernel⟩
theorem fd_point_at {f : Addr} {fd : FuncData} (T : Facts K mg) (D : FunD K "point_at" "point_at" (defArgs s_point_at) (defBody s_point_at) (defScope s_point_at) [] [] f fd) (hm : mg "point_at" = some (.ref f)) (hb : Binds K fd ["computad", "path", "at"] []) (c_row_of : Fd P w K mg base 1 "row_of" 2 (m_row_of)) : Fd P w K mg base 2 "point_at" 3 m_point_at := by
  rw [m_point_at_eq]
  exact
  fd_of (k := 1) D sc_point_at hm hb fun cdv hcd A outer s H E hr =>
    sds_cons (sd_asg rfl rfl rfl (ed_var 1) (gd_tup rfl rfl rfl (gds_cons rfl (gd_name 3 sc_point_at.nd rfl (by first | exact Or.inl rfl | exact Or.inr rfl) (by first | exact .inl rfl | exact .inr rfl)) (gds_cons rfl (gd_name 4 sc_point_at.nd rfl (by first | exact Or.inl rfl | exact Or.inr rfl) (by first | exact .inl rfl | exact .inr rfl)) (gds_nil))))) (sds_one (sd_ret (ed_if (td_gt (ed_var 2) (ed_int)) (ed_ix (by intro _ _; rfl) (ed_call c_row_of hr bx_takes rfl (by decide) (by decide) rfl rfl (cd_d rfl (ed_ix (by intro _ _; rfl) (ed_var 0) (ed_int)) (cd_d rfl (ed_ix (by intro _ _; rfl) (ed_var 4) (ed_sub (ed_var 2) (ed_int))) (cd_nil)))) (ed_int)) (ed_var 3))))
/-! ### applies -/
abbrev s_applies : Stmt := topS 36
theorem sc_applies : FnScope ["computad", "path", "value", "at", "cell", "row"] ["computad", "path", "value"] (defScope s_applies) := ⟨rfl, rfl, rfl, by decide +kernel, rfl, by decide +kernel, by decide +kernel⟩
theorem fd_applies {f : Addr} {fd : FuncData} (T : Facts K mg) (D : FunD K "applies" "applies" (defArgs s_applies) (defBody s_applies) (defScope s_applies) [] [] f fd) (hm : mg "applies" = some (.ref f)) (hb : Binds K fd ["computad", "path", "value"] []) (c_is_tuple_of : Fd P w K mg base 1 "is_tuple_of" 3 (m_is_tuple_of)) (c_is_whole : Fd P w K mg base 1 "is_whole" 3 (m_is_whole)) (c_cell_row : Fd P w K mg base 2 "cell_row" 2 (m_cell_row)) (c_point_at : Fd P w K mg base 2 "point_at" 3 (m_point_at)) : Fd P w K mg base 3 "applies" 3 m_applies := by
  rw [m_applies_eq]
  exact
  fd_of (k := 2) D sc_applies hm hb fun cdv hcd A outer s H E hr =>
    sds_cons (sd_if (td_bo (wd_or (td_not (td_val (by intro _; rfl) (ed_call c_is_tuple_of hr bx_takes rfl (by decide) (by decide) rfl rfl (cd_d rfl (ed_var 2) (cd_d rfl (ed_int) (cd_d rfl (ed_int) (cd_nil))))))) (wd_or1 (td_not (td_val (by intro _; rfl) (ed_call c_is_whole hr bx_takes rfl (by decide) (by decide) rfl rfl (cd_d rfl (ed_ix (by intro _ _; rfl) (ed_var 2) (ed_int)) (cd_d rfl (ed_int) (cd_d rfl (ed_callB call_len opc_len rfl T.b_len PySem.boot_len (by decide) (by decide) rfl rfl (ad_cons rfl (ed_ix (by intro _ _; rfl) (ed_var 1) (ed_int)) (ad_nil))) (cd_nil)))))))))) (sds_one (sd_ret (ed_bl))) (sds_nil)) (sds_cons (sd_asg rfl rfl rfl (ed_var 2) (gd_tup rfl rfl rfl (gds_cons rfl (gd_name 3 sc_applies.nd rfl (by first | exact Or.inl rfl | exact Or.inr rfl) (by first | exact .inl rfl | exact .inr rfl)) (gds_cons rfl (gd_name 4 sc_applies.nd rfl (by first | exact Or.inl rfl | exact Or.inr rfl) (by first | exact .inl rfl | exact .inr rfl)) (gds_nil))))) (sds_cons (sd_set 5 sc_applies.nd rfl (by first | exact Or.inl rfl | exact Or.inr rfl) rfl (by first | exact .inl rfl | exact .inr rfl) (ed_call c_cell_row hr bx_takes rfl (by decide) (by decide) rfl rfl (cd_d rfl (ed_var 0) (cd_d rfl (ed_var 4) (cd_nil))))) (sds_one (sd_ret (ed_and (ed_notN (ed_var 5) (ed_non)) (ed_and (ed_eq (hu64 hr) (ed_call c_point_at hr bx_takes rfl (by decide) (by decide) rfl rfl (cd_d rfl (ed_var 0) (cd_d rfl (ed_var 1) (cd_d rfl (ed_var 3) (cd_nil))))) (ed_ix (by intro _ _; rfl) (ed_var 5) (ed_int))) (ed_one (ed_eq (hu64 hr) (ed_slice (ed_ix (by intro _ _; rfl) (ed_var 1) (ed_int)) (od_some (ed_var 3)) (od_some (ed_add (ed_var 3) (ed_callB call_len opc_len rfl T.b_len PySem.boot_len (by decide) (by decide) rfl rfl (ad_cons rfl (ed_ix (by intro _ _; rfl) (ed_var 5) (ed_int)) (ad_nil)))))) (ed_ix (by intro _ _; rfl) (ed_var 5) (ed_int))))))))))
/-! ### after_layer -/
abbrev s_after_layer : Stmt := topS 37
theorem sc_after_layer : FnScope ["computad", "path", "layer", "point", "names", "at", "cell", "row"] ["computad", "path", "layer"] (defScope s_after_layer) := ⟨rfl, rfl, rfl, by decide +kernel, rfl, by decide +kernel, by decide +kernel⟩
theorem fd_after_layer {f : Addr} {fd : FuncData} (T : Facts K mg) (D : FunD K "after_layer" "after_layer" (defArgs s_after_layer) (defBody s_after_layer) (defScope s_after_layer) [] [] f fd) (hm : mg "after_layer" = some (.ref f)) (hb : Binds K fd ["computad", "path", "layer"] []) (c_cell_row : Fd P w K mg base 2 "cell_row" 2 (m_cell_row)) : Fd P w K mg base 3 "after_layer" 3 m_after_layer := by
  rw [m_after_layer_eq]
  exact
  fd_of (k := 2) D sc_after_layer hm hb fun cdv hcd A outer s H E hr =>
    sds_cons (sd_asg rfl rfl rfl (ed_var 1) (gd_tup rfl rfl rfl (gds_cons rfl (gd_name 3 sc_after_layer.nd rfl (by first | exact Or.inl rfl | exact Or.inr rfl) (by first | exact .inl rfl | exact .inr rfl)) (gds_cons rfl (gd_name 4 sc_after_layer.nd rfl (by first | exact Or.inl rfl | exact Or.inr rfl) (by first | exact .inl rfl | exact .inr rfl)) (gds_nil))))) (sds_cons (sd_asg rfl rfl rfl (ed_var 2) (gd_tup rfl rfl rfl (gds_cons rfl (gd_name 5 sc_after_layer.nd rfl (by first | exact Or.inl rfl | exact Or.inr rfl) (by first | exact .inl rfl | exact .inr rfl)) (gds_cons rfl (gd_name 6 sc_after_layer.nd rfl (by first | exact Or.inl rfl | exact Or.inr rfl) (by first | exact .inl rfl | exact .inr rfl)) (gds_nil))))) (sds_cons (sd_set 7 sc_after_layer.nd rfl (by first | exact Or.inl rfl | exact Or.inr rfl) rfl (by first | exact .inl rfl | exact .inr rfl) (ed_call c_cell_row hr bx_takes rfl (by decide) (by decide) rfl rfl (cd_d rfl (ed_var 0) (cd_d rfl (ed_var 6) (cd_nil))))) (sds_one (sd_ret (ed_tup (ad_cons rfl (ed_var 3) (ad_cons rfl (ed_add (ed_add (ed_slice (ed_var 4) (od_none) (od_some (ed_var 5))) (ed_ix (by intro _ _; rfl) (ed_var 7) (ed_int))) (ed_slice (ed_var 4) (od_some (ed_add (ed_var 5) (ed_callB call_len opc_len rfl T.b_len PySem.boot_len (by decide) (by decide) rfl rfl (ad_cons rfl (ed_ix (by intro _ _; rfl) (ed_var 7) (ed_int)) (ad_nil))))) (od_none))) (ad_nil))))))))
/-! ### sides_of -/
abbrev s_sides_of : Stmt := topS 38
theorem sc_sides_of : FnScope ["computad", "cell", "row"] ["computad", "cell"] (defScope s_sides_of) := ⟨rfl, rfl, rfl, by decide +kernel, rfl, by decide +kernel, by decide +kernel⟩
theorem fd_sides_of {f : Addr} {fd : FuncData} (T : Facts K mg) (D : FunD K "sides_of" "sides_of" (defArgs s_sides_of) (defBody s_sides_of) (defScope s_sides_of) [] [] f fd) (hm : mg "sides_of" = some (.ref f)) (hb : Binds K fd ["computad", "cell"] []) (c_cell_row : Fd P w K mg base 2 "cell_row" 2 (m_cell_row)) : Fd P w K mg base 3 "sides_of" 2 m_sides_of := by
  rw [m_sides_of_eq]
  exact
  fd_of (k := 2) D sc_sides_of hm hb fun cdv hcd A outer s H E hr =>
    sds_cons (sd_set 2 sc_sides_of.nd rfl (by first | exact Or.inl rfl | exact Or.inr rfl) rfl (by first | exact .inl rfl | exact .inr rfl) (ed_call c_cell_row hr bx_takes rfl (by decide) (by decide) rfl rfl (cd_d rfl (ed_var 0) (cd_d rfl (ed_var 1) (cd_nil))))) (sds_one (sd_ret (ed_tup (ad_cons rfl (ed_callB call_len opc_len rfl T.b_len PySem.boot_len (by decide) (by decide) rfl rfl (ad_cons rfl (ed_ix (by intro _ _; rfl) (ed_var 2) (ed_int)) (ad_nil))) (ad_cons rfl (ed_callB call_len opc_len rfl T.b_len PySem.boot_len (by decide) (by decide) rfl rfl (ad_cons rfl (ed_ix (by intro _ _; rfl) (ed_var 2) (ed_int)) (ad_nil))) (ad_nil))))))
/-! ### paths_in -/
abbrev s_paths_in : Stmt := topS 39
theorem sc_paths_in : FnScope ["computad", "diagram", "found", "layer"] ["computad", "diagram"] (defScope s_paths_in) := ⟨rfl, rfl, rfl, by decide +kernel, rfl, by decide +kernel, by decide +kernel⟩
theorem fd_paths_in {f : Addr} {fd : FuncData} (T : Facts K mg) (D : FunD K "paths_in" "paths_in" (defArgs s_paths_in) (defBody s_paths_in) (defScope s_paths_in) [] [] f fd) (hm : mg "paths_in" = some (.ref f)) (hb : Binds K fd ["computad", "diagram"] []) (c_after_layer : Fd P w K mg base 3 "after_layer" 3 (m_after_layer)) : Fd P w K mg base 4 "paths_in" 2 m_paths_in := by
  rw [m_paths_in_eq]
  exact
  fd_of (k := 3) D sc_paths_in hm hb fun cdv hcd A outer s H E hr =>
    sds_cons (sd_new 2 sc_paths_in.nd (by decide) rfl (by first | exact Or.inl rfl | exact Or.inr rfl) rfl (by first | exact .inl rfl | exact .inr rfl) (nd_lst (ad_cons rfl (ed_ix (by intro _ _; rfl) (ed_var 1) (ed_int)) (ad_nil)))) (sds_cons (sd_for bx_passes rfl (by intro _; rfl) (id_any (ed_ix (by intro _ _; rfl) (ed_var 1) (ed_int))) (gd_name 3 sc_paths_in.nd rfl (by first | exact Or.inl rfl | exact Or.inr rfl) (by first | exact .inl rfl | exact .inr rfl)) (sds_one (sd_app 2 rfl (by first | exact Or.inl rfl | exact Or.inr (Or.inl rfl) | exact Or.inr (Or.inr rfl)) (by decide) (by decide) rfl rfl rfl rfl rfl rfl (ed_call c_after_layer hr bx_takes rfl (by decide) (by decide) rfl rfl (cd_d rfl (ed_var 0) (cd_d rfl (ed_ixM 2 rfl (by first | exact Or.inl rfl | exact Or.inr (Or.inl rfl) | exact Or.inr (Or.inr rfl)) (by decide) (by decide) (by intro _ _; rfl) (ed_neg (ed_int))) (cd_d rfl (ed_var 3) (cd_nil)))))))) (sds_one (sd_ret (ed_tupM 2 rfl T.b_tuple))))
/-! ### size_in -/
abbrev s_size_in : Stmt := topS 40
theorem sc_size_in : FnScope ["computad", "diagram", "path", "layers", "at", "cell"] ["computad", "diagram"] (defScope s_size_in) := ⟨rfl, rfl, rfl, by decide +kernel, rfl, by decide +kernel, by decide +kernel⟩
theorem fd_size_in {f : Addr} {fd : FuncData} (T : Facts K mg) (D : FunD K "size_in" "size_in" (defArgs s_size_in) (defBody s_size_in) (defScope s_size_in) [] [] f fd) (hm : mg "size_in" = some (.ref f)) (hb : Binds K fd ["computad", "diagram"] []) (c_sides_of : Fd P w K mg base 3 "sides_of" 2 (m_sides_of)) : Fd P w K mg base 4 "size_in" 2 m_size_in := by
  rw [m_size_in_eq]
  exact
  fd_of (k := 3) D sc_size_in hm hb fun cdv hcd A outer s H E hr =>
    sds_cons (sd_asg rfl rfl rfl (ed_var 1) (gd_tup rfl rfl rfl (gds_cons rfl (gd_name 2 sc_size_in.nd rfl (by first | exact Or.inl rfl | exact Or.inr rfl) (by first | exact .inl rfl | exact .inr rfl)) (gds_cons rfl (gd_name 3 sc_size_in.nd rfl (by first | exact Or.inl rfl | exact Or.inr rfl) (by first | exact .inl rfl | exact .inr rfl)) (gds_nil))))) (sds_one (sd_ret (ed_add (ed_callB call_len opc_len rfl T.b_len PySem.boot_len (by decide) (by decide) rfl rfl (ad_cons rfl (ed_ix (by intro _ _; rfl) (ed_var 2) (ed_int)) (ad_nil))) (ed_callB (cr_sum rfl) opc_sum rfl T.b_sum (by decide +kernel) (by decide) (by decide) rfl rfl (ad_cons rfl (ed_lc (own := [("at", 4), ("cell", 5)]) rfl sc_size_in.nd (blkOk_by (by kernel_rfl)) (by decide) (id_any (ed_var 3)) (fun _ _ _ _ _ => gd_tup rfl rfl rfl (gds_cons rfl (gd_name 4 sc_size_in.nd rfl (by first | exact Or.inl rfl | exact Or.inr rfl) (by first | exact .inl rfl | exact .inr rfl)) (gds_cons rfl (gd_name 5 sc_size_in.nd rfl (by first | exact Or.inl rfl | exact Or.inr rfl) (by first | exact .inl rfl | exact .inr rfl)) (gds_nil)))) (fun _ _ _ _ _ => tsd_nil) (fun _ _ _ _ _ => ed_ix (by intro _ _; rfl) (ed_call c_sides_of hr takes0 rfl (by decide) (by decide) rfl rfl (cd_d rfl (ed_var 0) (cd_d rfl (ed_var 5) (cd_nil)))) (ed_int))) (ad_nil))))))
/-! ### is_diagram_in -/
abbrev s_is_diagram_in : Stmt := topS 41
theorem sc_is_diagram_in : FnScope ["computad", "value", "path", "layer"] ["computad", "value"] (defScope s_is_diagram_in) := ⟨rfl, rfl, rfl, by decide +kernel, rfl, by decide +kernel, by decide +kernel⟩
theorem fd_is_diagram_in {f : Addr} {fd : FuncData} (T : Facts K mg) (D : FunD K "is_diagram_in" "is_diagram_in" (defArgs s_is_diagram_in) (defBody s_is_diagram_in) (defScope s_is_diagram_in) [] [] f fd) (hm : mg "is_diagram_in" = some (.ref f)) (hb : Binds K fd ["computad", "value"] []) (c_is_tuple_of : Fd P w K mg base 1 "is_tuple_of" 3 (m_is_tuple_of)) (c_is_path_in : Fd P w K mg base 3 "is_path_in" 2 (m_is_path_in)) (c_applies : Fd P w K mg base 3 "applies" 3 (m_applies)) (c_after_layer : Fd P w K mg base 3 "after_layer" 3 (m_after_layer)) (c_size_in : Fd P w K mg base 4 "size_in" 2 (m_size_in)) : Fd P w K mg base 5 "is_diagram_in" 2 m_is_diagram_in := by
  rw [m_is_diagram_in_eq]
  exact
  fd_of (k := 4) D sc_is_diagram_in hm hb fun cdv hcd A outer s H E hr =>
    sds_cons (sd_if (td_bo (wd_or (td_not (td_val (by intro _; rfl) (ed_call c_is_tuple_of hr bx_takes rfl (by decide) (by decide) rfl rfl (cd_d rfl (ed_var 1) (cd_d rfl (ed_int) (cd_d rfl (ed_int) (cd_nil))))))) (wd_or (td_not (td_val (by intro _; rfl) (ed_call c_is_path_in hr bx_takes rfl (by decide) (by decide) rfl rfl (cd_d rfl (ed_var 0) (cd_d rfl (ed_ix (by intro _ _; rfl) (ed_var 1) (ed_int)) (cd_nil)))))) (wd_or1 (td_not (td_val (by intro _; rfl) (ed_call c_is_tuple_of hr bx_takes rfl (by decide) (by decide) rfl rfl (cd_d rfl (ed_ix (by intro _ _; rfl) (ed_var 1) (ed_int)) (cd_d rfl (ed_int) (cd_d rfl (ed_glob rfl T.g_LAYERS) (cd_nil))))))))))) (sds_one (sd_ret (ed_bl))) (sds_nil)) (sds_cons (sd_set 2 sc_is_diagram_in.nd rfl (by first | exact Or.inl rfl | exact Or.inr rfl) rfl (by first | exact .inl rfl | exact .inr rfl) (ed_ix (by intro _ _; rfl) (ed_var 1) (ed_int))) (sds_cons (sd_for bx_passes rfl (by intro _; rfl) (id_any (ed_ix (by intro _ _; rfl) (ed_var 1) (ed_int))) (gd_name 3 sc_is_diagram_in.nd rfl (by first | exact Or.inl rfl | exact Or.inr rfl) (by first | exact .inl rfl | exact .inr rfl)) (sds_cons (sd_if (td_not (td_val (by intro _; rfl) (ed_call c_applies hr bx_takes rfl (by decide) (by decide) rfl rfl (cd_d rfl (ed_var 0) (cd_d rfl (ed_var 2) (cd_d rfl (ed_var 3) (cd_nil))))))) (sds_one (sd_ret (ed_bl))) (sds_nil)) (sds_one (sd_set 2 sc_is_diagram_in.nd rfl (by first | exact Or.inl rfl | exact Or.inr rfl) rfl (by first | exact .inl rfl | exact .inr rfl) (ed_call c_after_layer hr bx_takes rfl (by decide) (by decide) rfl rfl (cd_d rfl (ed_var 0) (cd_d rfl (ed_var 2) (cd_d rfl (ed_var 3) (cd_nil))))))))) (sds_one (sd_ret (ed_le (ed_call c_size_in hr bx_takes rfl (by decide) (by decide) rfl rfl (cd_d rfl (ed_var 0) (cd_d rfl (ed_var 1) (cd_nil)))) (ed_glob rfl T.g_SIZE))))))
/-! ### is_diagram -/
abbrev s_is_diagram : Stmt := topS 42
theorem sc_is_diagram : FnScope ["computad", "value"] ["computad", "value"] (defScope s_is_diagram) := ⟨rfl, rfl, rfl, by decide +kernel, rfl, by decide +kernel, by decide +kernel⟩
theorem fd_is_diagram {f : Addr} {fd : FuncData} (T : Facts K mg) (D : FunD K "is_diagram" "is_diagram" (defArgs s_is_diagram) (defBody s_is_diagram) (defScope s_is_diagram) [] [] f fd) (hm : mg "is_diagram" = some (.ref f)) (hb : Binds K fd ["computad", "value"] []) (c_need_computad : Fd P w K mg base 5 "need_computad" 1 (m_need_computad)) (c_is_diagram_in : Fd P w K mg base 5 "is_diagram_in" 2 (m_is_diagram_in)) : Fd P w K mg base 6 "is_diagram" 2 m_is_diagram := by
  rw [m_is_diagram_eq]
  exact
  fd_of (k := 5) D sc_is_diagram hm hb fun cdv hcd A outer s H E hr =>
    sds_cons (sd_expr rfl (ed_call c_need_computad hr bx_takes rfl (by decide) (by decide) rfl rfl (cd_d rfl (ed_var 0) (cd_nil)))) (sds_one (sd_ret (ed_call c_is_diagram_in hr bx_takes rfl (by decide) (by decide) rfl rfl (cd_d rfl (ed_var 0) (cd_d rfl (ed_var 1) (cd_nil))))))
/-! ### need_diagram -/
abbrev s_need_diagram : Stmt := topS 43
theorem sc_need_diagram : FnScope ["computad", "value"] ["computad", "value"] (defScope s_need_diagram) := ⟨rfl, rfl, rfl, by decide +kernel, rfl, by decide +kernel, by decide +kernel⟩
theorem fd_need_diagram {f : Addr} {fd : FuncData} (T : Facts K mg) (D : FunD K "need_diagram" "need_diagram" (defArgs s_need_diagram) (defBody s_need_diagram) (defScope s_need_diagram) [] [] f fd) (hm : mg "need_diagram" = some (.ref f)) (hb : Binds K fd ["computad", "value"] []) (c_is_diagram : Fd P w K mg base 6 "is_diagram" 2 (m_is_diagram)) : Fd P w K mg base 7 "need_diagram" 2 m_need_diagram := by
  rw [m_need_diagram_eq]
  exact
  fd_of (k := 6) D sc_need_diagram hm hb fun cdv hcd A outer s H E hr =>
    sds_one (sd_if (td_not (td_val (by intro _; rfl) (ed_call c_is_diagram hr bx_takes rfl (by decide) (by decide) rfl rfl (cd_d rfl (ed_var 0) (cd_d rfl (ed_var 1) (cd_nil)))))) (sds_one (sd_raise rfl bx_takes T.x_InvalidDiagram rfl)) (sds_nil))
/-! ### limited -/
abbrev s_limited : Stmt := topS 45
theorem sc_limited : FnScope ["computad", "diagram"] ["computad", "diagram"] (defScope s_limited) := ⟨rfl, rfl, rfl, by decide +kernel, rfl, by decide +kernel, by decide +kernel⟩
theorem fd_limited {f : Addr} {fd : FuncData} (T : Facts K mg) (D : FunD K "limited" "limited" (defArgs s_limited) (defBody s_limited) (defScope s_limited) [] [] f fd) (hm : mg "limited" = some (.ref f)) (hb : Binds K fd ["computad", "diagram"] []) (c_size_in : Fd P w K mg base 4 "size_in" 2 (m_size_in)) : Fd P w K mg base 5 "limited" 2 m_limited := by
  rw [m_limited_eq]
  exact
  fd_of (k := 4) D sc_limited hm hb fun cdv hcd A outer s H E hr =>
    sds_cons (sd_if (td_gt (ed_callB call_len opc_len rfl T.b_len PySem.boot_len (by decide) (by decide) rfl rfl (ad_cons rfl (ed_ix (by intro _ _; rfl) (ed_var 1) (ed_int)) (ad_nil))) (ed_glob rfl T.g_LAYERS)) (sds_never) (sds_nil)) (sds_cons (sd_if (td_gt (ed_call c_size_in hr bx_takes rfl (by decide) (by decide) rfl rfl (cd_d rfl (ed_var 0) (cd_d rfl (ed_var 1) (cd_nil)))) (ed_glob rfl T.g_SIZE)) (sds_never) (sds_nil)) (sds_one (sd_ret (ed_var 1))))
/-! ### vertical -/
abbrev s_vertical : Stmt := topS 46
theorem sc_vertical : FnScope ["computad", "one", "other"] ["computad", "one", "other"] (defScope s_vertical) := ⟨rfl, rfl, rfl, by decide +kernel, rfl, by decide +kernel, by decide +kernel⟩
theorem fd_vertical {f : Addr} {fd : FuncData} (T : Facts K mg) (D : FunD K "vertical" "vertical" (defArgs s_vertical) (defBody s_vertical) (defScope s_vertical) [] [] f fd) (hm : mg "vertical" = some (.ref f)) (hb : Binds K fd ["computad", "one", "other"] []) (c_need_diagram : Fd P w K mg base 7 "need_diagram" 2 (m_need_diagram)) (c_paths_in : Fd P w K mg base 4 "paths_in" 2 (m_paths_in)) (c_limited : Fd P w K mg base 5 "limited" 2 (m_limited)) : Fd P w K mg base 8 "vertical" 3 m_vertical := by
  rw [m_vertical_eq]
  exact
  fd_of (k := 7) D sc_vertical hm hb fun cdv hcd A outer s H E hr =>
    sds_cons (sd_expr rfl (ed_call c_need_diagram hr bx_takes rfl (by decide) (by decide) rfl rfl (cd_d rfl (ed_var 0) (cd_d rfl (ed_var 1) (cd_nil))))) (sds_cons (sd_expr rfl (ed_call c_need_diagram hr bx_takes rfl (by decide) (by decide) rfl rfl (cd_d rfl (ed_var 0) (cd_d rfl (ed_var 2) (cd_nil))))) (sds_cons (sd_if (td_ne (hu64 hr) (ed_ix (by intro _ _; rfl) (ed_call c_paths_in hr bx_takes rfl (by decide) (by decide) rfl rfl (cd_d rfl (ed_var 0) (cd_d rfl (ed_var 1) (cd_nil)))) (ed_neg (ed_int))) (ed_ix (by intro _ _; rfl) (ed_var 2) (ed_int))) (sds_one (sd_raise rfl bx_takes T.x_NotComposable rfl)) (sds_nil)) (sds_one (sd_ret (ed_call c_limited hr bx_takes rfl (by decide) (by decide) rfl rfl (cd_d rfl (ed_var 0) (cd_d rfl (ed_tup (ad_cons rfl (ed_ix (by intro _ _; rfl) (ed_var 1) (ed_int)) (ad_cons rfl (ed_add (ed_ix (by intro _ _; rfl) (ed_var 1) (ed_int)) (ed_ix (by intro _ _; rfl) (ed_var 2) (ed_int))) (ad_nil)))) (cd_nil))))))))
/-! ### split_at -/
abbrev s_split_at : Stmt := topS 47
theorem sc_split_at : FnScope ["computad", "diagram", "many", "path", "layers"] ["computad", "diagram", "many"] (defScope s_split_at) := ⟨rfl, rfl, rfl, by decide +kernel, rfl, by decide +kernel, by decide +kernel⟩
def S_split_at : SF :=
  sSeq (sDrop (eUser 2 (m_need_diagram) (cD (eVar 0) (cD (eVar 1) (cNil))))) (sSeq (sAsg (eVar 1) (gTupD 2 (gsCons (setD 3) (gsCons (setD 4) (gsNil))))) (sSeq (sDrop (eUser 3 (m_need_whole) (cD (eVar 2) (cD (eC (.int 0)) (cD (eCall lenD (aCons (eVar 4) (aNil))) (cNil)))))) (sRet (eTup (aCons (eTup (aCons (eVar 3) (aCons (eSl (eVar 4) (oNo) (oSome (eVar 2))) (aNil)))) (aCons (eTup (aCons (eOp ixD (eUser 2 (m_paths_in) (cD (eVar 0) (cD (eVar 1) (cNil)))) (eVar 2)) (aCons (eSl (eVar 4) (oSome (eVar 2)) (oNo)) (aNil)))) (aNil)))))))
theorem q_split_at : ∃ F : Fn, F = mkFn 5 S_split_at := ⟨_, rfl⟩
noncomputable def m_split_at : Fn := Classical.choose q_split_at
theorem m_split_at_eq : m_split_at = mkFn 5 S_split_at := Classical.choose_spec q_split_at
theorem fd_split_at {f : Addr} {fd : FuncData} (T : Facts K mg) (D : FunD K "split_at" "split_at" (defArgs s_split_at) (defBody s_split_at) (defScope s_split_at) [] [] f fd) (hm : mg "split_at" = some (.ref f)) (hb : Binds K fd ["computad", "diagram", "many"] []) (c_need_diagram : Fd P w K mg base 7 "need_diagram" 2 (m_need_diagram)) (c_need_whole : Fd P w K mg base 2 "need_whole" 3 (m_need_whole)) (c_paths_in : Fd P w K mg base 4 "paths_in" 2 (m_paths_in)) : Fd P w K mg base 8 "split_at" 3 m_split_at := by
  rw [m_split_at_eq]
  exact
  fd_of (k := 7) D sc_split_at hm hb fun cdv hcd A outer s H E hr =>
    sds_cons (sd_expr rfl (ed_call c_need_diagram hr bx_takes rfl (by decide) (by decide) rfl rfl (cd_d rfl (ed_var 0) (cd_d rfl (ed_var 1) (cd_nil))))) (sds_cons (sd_asg rfl rfl rfl (ed_var 1) (gd_tup rfl rfl rfl (gds_cons rfl (gd_name 3 sc_split_at.nd rfl (by first | exact Or.inl rfl | exact Or.inr rfl) (by first | exact .inl rfl | exact .inr rfl)) (gds_cons rfl (gd_name 4 sc_split_at.nd rfl (by first | exact Or.inl rfl | exact Or.inr rfl) (by first | exact .inl rfl | exact .inr rfl)) (gds_nil))))) (sds_cons (sd_expr rfl (ed_call c_need_whole hr bx_takes rfl (by decide) (by decide) rfl rfl (cd_d rfl (ed_var 2) (cd_d rfl (ed_int) (cd_d rfl (ed_callB call_len opc_len rfl T.b_len PySem.boot_len (by decide) (by decide) rfl rfl (ad_cons rfl (ed_var 4) (ad_nil))) (cd_nil)))))) (sds_one (sd_ret (ed_tup (ad_cons rfl (ed_tup (ad_cons rfl (ed_var 3) (ad_cons rfl (ed_slice (ed_var 4) (od_none) (od_some (ed_var 2))) (ad_nil)))) (ad_cons rfl (ed_tup (ad_cons rfl (ed_ix (by intro _ _; rfl) (ed_call c_paths_in hr bx_takes rfl (by decide) (by decide) rfl rfl (cd_d rfl (ed_var 0) (cd_d rfl (ed_var 1) (cd_nil)))) (ed_var 2)) (ad_cons rfl (ed_slice (ed_var 4) (od_some (ed_var 2)) (od_none)) (ad_nil)))) (ad_nil))))))))
/-! ### _law_cup -/
abbrev s__law_cup : Stmt := topS 49
theorem sc__law_cup : FnScope ["script", "cell"] ["script"] (defScope s__law_cup) := ⟨rfl, rfl, rfl, by decide +kernel, rfl, by decide +kernel, by decide +kernel⟩
theorem fd__law_cup {f : Addr} {fd : FuncData} (T : Facts K mg) (D : FunD K "_law_cup" "_law_cup" (defArgs s__law_cup) (defBody s__law_cup) (defScope s__law_cup) [] [] f fd) (hm : mg "_law_cup" = some (.ref f)) (hb : Binds K fd ["script"] []) : FdN P w K mg base 1 "_law_cup" 1 m__law_cup :=
  fdN_of (k := 0) D sc__law_cup hm hb fun cdv A outer s H E hr =>
    sdn_cons (sd_set 1 sc__law_cup.nd rfl (by first | exact Or.inl rfl | exact Or.inr rfl) rfl (by first | exact .inl rfl | exact .inr rfl) (ed_callB call_abs opc_abs rfl T.b_abs (by decide +kernel) (by decide) (by decide) rfl rfl (ad_cons rfl (ed_ix (by intro _ _; rfl) (ed_add (ed_listS 0 rfl T.b_list) (ed_lst (ad_cons rfl (ed_int) (ad_nil)))) (ed_int)) (ad_nil)))) (sdn_ret (nd_lst (ad_cons rfl (ed_if (td_ge (ed_var 1) (ed_pow (ed_int) (ed_int))) (ed_div (ed_var 1) (ed_int)) (ed_int)) (ad_cons rfl (ed_add (ed_mod (ed_callT call_int1 opc_int rfl T.b_int (by decide +kernel) (by decide) (by decide) rfl rfl (ad_cons rfl (ed_add (ed_mul (ed_var 1) (ed_int)) (ed_int)) (ad_nil))) (ed_int)) (ed_int)) (ad_nil)))))
/-! ### _law_roll -/
abbrev s__law_roll : Stmt := topS 50
theorem sc__law_roll : FnScope ["cup", "many", "found", "deep"] ["cup", "many"] (defScope s__law_roll) := ⟨rfl, rfl, rfl, by decide +kernel, rfl, by decide +kernel, by decide +kernel⟩
theorem fd__law_roll {f : Addr} {fd : FuncData} (T : Facts K mg) (D : FunD K "_law_roll" "_law_roll" (defArgs s__law_roll) (defBody s__law_roll) (defScope s__law_roll) [] [] f fd) (hm : mg "_law_roll" = some (.ref f)) (hb : Binds K fd ["cup", "many"] []) : Fd P w K mg base 1 "_law_roll" 2 m__law_roll :=
  fd_of (k := 0) D sc__law_roll hm hb fun cdv hcd A outer s H E hr =>
    sds_cons (sd_if (td_gt (ed_ixM 0 rfl (by first | exact Or.inl rfl | exact Or.inr (Or.inl rfl) | exact Or.inr (Or.inr rfl)) (by decide) (by decide) (by intro _ _; rfl) (ed_int)) (ed_int)) (sds_cons (sd_set 2 sc__law_roll.nd rfl (by first | exact Or.inl rfl | exact Or.inr rfl) rfl (by first | exact .inl rfl | exact .inr rfl) (ed_mod (ed_callT call_int1 opc_int rfl T.b_int (by decide +kernel) (by decide) (by decide) rfl rfl (ad_cons rfl (ed_ixM 0 rfl (by first | exact Or.inl rfl | exact Or.inr (Or.inl rfl) | exact Or.inr (Or.inr rfl)) (by decide) (by decide) (by intro _ _; rfl) (ed_int)) (ad_nil))) (ed_var 1))) (sds_cons (sd_setI 0 rfl (by first | exact Or.inl rfl | exact Or.inr (Or.inl rfl) | exact Or.inr (Or.inr rfl)) (by decide) (by decide) (by intro _; rfl) rfl rfl rfl (ed_int) (ed_div (ed_ixM 0 rfl (by first | exact Or.inl rfl | exact Or.inr (Or.inl rfl) | exact Or.inr (Or.inr rfl)) (by decide) (by decide) (by intro _ _; rfl) (ed_int)) (ed_var 1))) (sds_one (sd_ret (ed_var 2))))) (sds_nil)) (sds_cons (sd_setI 0 rfl (by first | exact Or.inl rfl | exact Or.inr (Or.inl rfl) | exact Or.inr (Or.inr rfl)) (by decide) (by decide) (by intro _; rfl) rfl rfl rfl (ed_int) (ed_mod (ed_callT call_int1 opc_int rfl T.b_int (by decide +kernel) (by decide) (by decide) rfl rfl (ad_cons rfl (ed_add (ed_mul (ed_ixM 0 rfl (by first | exact Or.inl rfl | exact Or.inr (Or.inl rfl) | exact Or.inr (Or.inr rfl)) (by decide) (by decide) (by intro _ _; rfl) (ed_int)) (ed_int)) (ed_int)) (ad_nil))) (ed_int))) (sds_cons (sd_set 3 sc__law_roll.nd rfl (by first | exact Or.inl rfl | exact Or.inr rfl) rfl (by first | exact .inl rfl | exact .inr rfl) (ed_mod (ed_callT call_int1 opc_int rfl T.b_int (by decide +kernel) (by decide) (by decide) rfl rfl (ad_cons rfl (ed_mul (ed_ixM 0 rfl (by first | exact Or.inl rfl | exact Or.inr (Or.inl rfl) | exact Or.inr (Or.inr rfl)) (by decide) (by decide) (by intro _ _; rfl) (ed_int)) (ed_add (ed_ixM 0 rfl (by first | exact Or.inl rfl | exact Or.inr (Or.inl rfl) | exact Or.inr (Or.inr rfl)) (by decide) (by decide) (by intro _ _; rfl) (ed_int)) (ed_int))) (ad_nil))) (ed_int))) (sds_one (sd_ret (ed_mod (ed_callT call_int1 opc_int rfl T.b_int (by decide +kernel) (by decide) (by decide) rfl rfl (ad_cons rfl (ed_div (ed_var 3) (ed_int)) (ad_nil))) (ed_var 1))))))
/-! ### _law_some -/
abbrev s__law_some : Stmt := topS 51
theorem sc__law_some : FnScope ["cup", "things"] ["cup", "things"] (defScope s__law_some) := ⟨rfl, rfl, rfl, by decide +kernel, rfl, by decide +kernel, by decide +kernel⟩
theorem fd__law_some {f : Addr} {fd : FuncData} (T : Facts K mg) (D : FunD K "_law_some" "_law_some" (defArgs s__law_some) (defBody s__law_some) (defScope s__law_some) [] [] f fd) (hm : mg "_law_some" = some (.ref f)) (hb : Binds K fd ["cup", "things"] []) (c__law_roll : Fd P w K mg base 1 "_law_roll" 2 (m__law_roll)) : Fd P w K mg base 2 "_law_some" 2 m__law_some :=
  fd_of (k := 1) D sc__law_some hm hb fun cdv hcd A outer s H E hr =>
    sds_one (sd_ret (ed_ix (by intro _ _; rfl) (ed_var 1) (ed_call c__law_roll hr bx_takes rfl (by decide) (by decide) rfl rfl (cd_r 0 rfl (by first | exact Or.inl rfl | exact Or.inr (Or.inl rfl) | exact Or.inr (Or.inr rfl)) (by decide) (by decide) rfl (cd_d rfl (ed_callB call_len opc_len rfl T.b_len PySem.boot_len (by decide) (by decide) rfl rfl (ad_cons rfl (ed_var 1) (ad_nil))) (cd_nil))))))
/-! ### _law_sort -/
abbrev s__law_sort : Stmt := topS 52
theorem sc__law_sort : FnScope ["value"] ["value"] (defScope s__law_sort) := ⟨rfl, rfl, rfl, by decide +kernel, rfl, by decide +kernel, by decide +kernel⟩
theorem fd__law_sort {f : Addr} {fd : FuncData} (T : Facts K mg) (D : FunD K "_law_sort" "_law_sort" (defArgs s__law_sort) (defBody s__law_sort) (defScope s__law_sort) [] [] f fd) (hm : mg "_law_sort" = some (.ref f)) (hb : Binds K fd ["value"] []) : Fd P w K mg base 1 "_law_sort" 1 m__law_sort :=
  fd_of (k := 0) D sc__law_sort hm hb fun cdv hcd A outer s H E hr =>
    sds_cons (sd_if (td_bo (wd_or (td_isN (ed_var 0) (ed_non)) (wd_or1 (td_val (by intro _; rfl) (ed_isi kitT_bool rfl T.b_isinstance rfl T.b_bool (by decide +kernel) (by decide) (by decide) rfl rfl rfl (ed_var 0)))))) (sds_one (sd_ret (ed_if (td_isN (ed_var 0) (ed_non)) (ed_int) (ed_int)))) (sds_nil)) (sds_cons (sd_if (td_bo (wd_or (td_val (by intro _; rfl) (ed_isi kitT_int rfl T.b_isinstance rfl T.b_int (by decide +kernel) (by decide) (by decide) rfl rfl rfl (ed_var 0))) (wd_or1 (td_val (by intro _; rfl) (ed_isi kitT_str rfl T.b_isinstance rfl T.b_str (by decide +kernel) (by decide) (by decide) rfl rfl rfl (ed_var 0)))))) (sds_one (sd_ret (ed_if (td_val (by intro _; rfl) (ed_isi kitT_int rfl T.b_isinstance rfl T.b_int (by decide +kernel) (by decide) (by decide) rfl rfl rfl (ed_var 0))) (ed_int) (ed_int)))) (sds_nil)) (sds_one (sd_ret (ed_if (td_val (by intro _; rfl) (ed_isi kitT_tuple rfl T.b_isinstance rfl T.b_tuple (by decide +kernel) (by decide) (by decide) rfl rfl rfl (ed_var 0))) (ed_int) (ed_if (td_val (by intro _; rfl) (ed_isi kitT_list rfl T.b_isinstance rfl T.b_list (by decide +kernel) (by decide) (by decide) rfl rfl rfl (ed_var 0))) (ed_int) (ed_int))))))
/-! ### _law_like -/
abbrev s__law_like : Stmt := topS 53
theorem sc__law_like : FnScope ["one", "other", "sort", "first", "second"] ["one", "other"] (defScope s__law_like) := ⟨rfl, rfl, rfl, by decide +kernel, rfl, by decide +kernel, by decide +kernel⟩
theorem fdn__law_like {f : Addr} {fd : FuncData} (T : Facts K mg) (D : FunD K "_law_like" "_law_like" (defArgs s__law_like) (defBody s__law_like) (defScope s__law_like) [] [] f fd) (hm : mg "_law_like" = some (.ref f)) (hb : Binds K fd ["one", "other"] []) (c__law_sort : Fd P w K mg base 1 "_law_sort" 1 (m__law_sort)) : ∀ j : Nat, Fd P w K mg base (1 + j) "_law_like" 2 (m__law_like j)
  | 0 => fd_bad D hm hb
  | j + 1 => by
    have ih := fdn__law_like T D hm hb c__law_sort j
    show Fd P w K mg base (1 + j + 1) "_law_like" 2 (mkFn 5 (S__law_like (m__law_like j)))
    generalize m__law_like j = self at ih ⊢
    exact fd_of (k := 1 + j) D sc__law_like hm hb fun cdv hcd A outer s H E hr =>
      sds_cons (sd_set 2 sc__law_like.nd rfl (by first | exact Or.inl rfl | exact Or.inr rfl) rfl (by first | exact .inl rfl | exact .inr rfl) (ed_call c__law_sort hr bx_takes rfl (by omega) (by decide) rfl rfl (cd_d rfl (ed_var 1) (cd_nil)))) (sds_cons (sd_if (td_bo (wd_or (td_ne (hu64 hr) (ed_call c__law_sort hr bx_takes rfl (by omega) (by decide) rfl rfl (cd_d rfl (ed_var 0) (cd_nil))) (ed_var 2)) (wd_or1 (td_eq (hu64 hr) (ed_var 2) (ed_int))))) (sds_one (sd_ret (ed_bl))) (sds_nil)) (sds_cons (sd_if (td_in (hu65 hr) (ed_var 2) (ed_tup (ad_cons rfl (ed_int) (ad_cons rfl (ed_int) (ad_nil))))) (sds_one (sd_ret (ed_and (ed_eq (hu64 hr) (ed_callB call_len opc_len rfl T.b_len PySem.boot_len (by decide) (by decide) rfl rfl (ad_cons rfl (ed_var 0) (ad_nil))) (ed_callB call_len opc_len rfl T.b_len PySem.boot_len (by decide) (by decide) rfl rfl (ad_cons rfl (ed_var 1) (ad_nil)))) (ed_one (ed_eq (hu64 hr) (ed_lc (own := [("first", 3), ("second", 4)]) rfl sc__law_like.nd (blkOk_by (by kernel_rfl)) (by decide) (id_zip rfl T.b_zip rfl rfl rfl (ed_var 0) (ed_var 1)) (fun _ _ _ _ _ => gd_tup rfl rfl rfl (gds_cons rfl (gd_name 3 sc__law_like.nd rfl (by first | exact Or.inl rfl | exact Or.inr rfl) (by first | exact .inl rfl | exact .inr rfl)) (gds_cons rfl (gd_name 4 sc__law_like.nd rfl (by first | exact Or.inl rfl | exact Or.inr rfl) (by first | exact .inl rfl | exact .inr rfl)) (gds_nil)))) (fun _ _ _ _ _ => tsd_one (td_not (td_val (by intro _; rfl) (ed_call ih hr takes0 rfl (by omega) (by decide) rfl rfl (cd_d rfl (ed_var 3) (cd_d rfl (ed_var 4) (cd_nil))))))) (fun _ _ _ _ _ => ed_int)) (ed_lst (ad_nil))))))) (sds_nil)) (sds_one (sd_ret (ed_eq (hu64 hr) (ed_var 0) (ed_var 1))))))
theorem fd__law_like {f : Addr} {fd : FuncData} (T : Facts K mg) (D : FunD K "_law_like" "_law_like" (defArgs s__law_like) (defBody s__law_like) (defScope s__law_like) [] [] f fd) (hm : mg "_law_like" = some (.ref f)) (hb : Binds K fd ["one", "other"] []) (c__law_sort : Fd P w K mg base 1 "_law_sort" 1 (m__law_sort)) : Fd P w K mg base 9 "_law_like" 2 (m__law_like 8) := fdn__law_like T D hm hb c__law_sort 8
/-! ### _law_name -/
abbrev s__law_name : Stmt := topS 54
theorem sc__law_name : FnScope ["cup", "taken", "letters", "digits", "turn", "name", "more", "number"] ["cup", "taken"] (defScope s__law_name) := ⟨rfl, rfl, rfl, by decide +kernel, rfl, by decide +kernel, by decide +kernel⟩
theorem fd__law_name {f : Addr} {fd : FuncData} (T : Facts K mg) (D : FunD K "_law_name" "_law_name" (defArgs s__law_name) (defBody s__law_name) (defScope s__law_name) [] [] f fd) (hm : mg "_law_name" = some (.ref f)) (hb : Binds K fd ["cup", "taken"] []) (c__law_some : Fd P w K mg base 2 "_law_some" 2 (m__law_some)) : Fd P w K mg base 3 "_law_name" 2 m__law_name := by
  rw [m__law_name_eq]
  exact
  fd_of (k := 2) D sc__law_name hm hb fun cdv hcd A outer s H E hr =>
    sds_cons (sd_asg rfl rfl rfl (ed_tup (ad_cons rfl (ed_str) (ad_cons rfl (ed_str) (ad_nil)))) (gd_tup rfl rfl rfl (gds_cons rfl (gd_name 2 sc__law_name.nd rfl (by first | exact Or.inl rfl | exact Or.inr rfl) (by first | exact .inl rfl | exact .inr rfl)) (gds_cons rfl (gd_name 3 sc__law_name.nd rfl (by first | exact Or.inl rfl | exact Or.inr rfl) (by first | exact .inl rfl | exact .inr rfl)) (gds_nil))))) (sds_cons (sd_for bx_passes rfl (by intro _; rfl) (id_r1 rfl T.b_range rfl (ed_int)) (gd_name 4 sc__law_name.nd rfl (by first | exact Or.inl rfl | exact Or.inr rfl) (by first | exact .inl rfl | exact .inr rfl)) (sds_cons (sd_set 5 sc__law_name.nd rfl (by first | exact Or.inl rfl | exact Or.inr rfl) rfl (by first | exact .inl rfl | exact .inr rfl) (ed_call c__law_some hr bx_takes rfl (by decide) (by decide) rfl rfl (cd_r 0 rfl (by first | exact Or.inl rfl | exact Or.inr (Or.inl rfl) | exact Or.inr (Or.inr rfl)) (by decide) (by decide) rfl (cd_d rfl (ed_var 2) (cd_nil))))) (sds_cons (sd_for bx_passes rfl (by intro _; rfl) (id_r1 rfl T.b_range rfl (ed_call c__law_some hr bx_takes rfl (by decide) (by decide) rfl rfl (cd_r 0 rfl (by first | exact Or.inl rfl | exact Or.inr (Or.inl rfl) | exact Or.inr (Or.inr rfl)) (by decide) (by decide) rfl (cd_d rfl (ed_lst (ad_cons rfl (ed_int) (ad_cons rfl (ed_int) (ad_cons rfl (ed_int) (ad_cons rfl (ed_int) (ad_cons rfl (ed_int) (ad_cons rfl (ed_int) (ad_nil)))))))) (cd_nil))))) (gd_name 6 sc__law_name.nd rfl (by first | exact Or.inl rfl | exact Or.inr rfl) (by first | exact .inl rfl | exact .inr rfl)) (sds_one (sd_set 5 sc__law_name.nd rfl (by first | exact Or.inl rfl | exact Or.inr rfl) rfl (by first | exact .inl rfl | exact .inr rfl) (ed_add (ed_var 5) (ed_call c__law_some hr bx_takes rfl (by decide) (by decide) rfl rfl (cd_r 0 rfl (by first | exact Or.inl rfl | exact Or.inr (Or.inl rfl) | exact Or.inr (Or.inr rfl)) (by decide) (by decide) rfl (cd_d rfl (ed_add (ed_var 2) (ed_var 3)) (cd_nil)))))))) (sds_one (sd_if (td_nin (hu65 hr) (ed_var 5) (ed_var 1)) (sds_one (sd_ret (ed_var 5))) (sds_nil)))))) (sds_one (sd_ret (ed_ix (by intro _ _; rfl) (ed_lc (own := [("name", 5)]) rfl sc__law_name.nd (blkOk_by (by kernel_rfl)) (by decide) (id_any (ed_lc (own := [("number", 7)]) rfl sc__law_name.nd (blkOk_by (by kernel_rfl)) (by decide) (id_r1 rfl T.b_range rfl (ed_int)) (fun _ _ _ _ _ => gd_name 7 sc__law_name.nd rfl (by first | exact Or.inl rfl | exact Or.inr rfl) (by first | exact .inl rfl | exact .inr rfl)) (fun _ _ _ _ _ => tsd_nil) (fun _ _ _ _ _ => ed_add (ed_str) (ed_callT call_str_int opc_str rfl T.b_str (by decide +kernel) (by decide) (by decide) rfl rfl (ad_cons rfl (ed_var 7) (ad_nil)))))) (fun _ _ _ _ _ => gd_name 5 sc__law_name.nd rfl (by first | exact Or.inl rfl | exact Or.inr rfl) (by first | exact .inl rfl | exact .inr rfl)) (fun _ _ _ _ _ => tsd_one (td_nin (hu65 hr) (ed_var 5) (ed_var 1))) (fun _ _ _ _ _ => ed_var 5)) (ed_int)))))
/-! ### _law_names -/
abbrev s__law_names : Stmt := topS 55
theorem sc__law_names : FnScope ["cup", "many", "found", "turn"] ["cup", "many"] (defScope s__law_names) := ⟨rfl, rfl, rfl, by decide +kernel, rfl, by decide +kernel, by decide +kernel⟩
theorem fd__law_names {f : Addr} {fd : FuncData} (T : Facts K mg) (D : FunD K "_law_names" "_law_names" (defArgs s__law_names) (defBody s__law_names) (defScope s__law_names) [] [] f fd) (hm : mg "_law_names" = some (.ref f)) (hb : Binds K fd ["cup", "many"] []) (c__law_name : Fd P w K mg base 3 "_law_name" 2 (m__law_name)) : Fd P w K mg base 4 "_law_names" 2 m__law_names := by
  rw [m__law_names_eq]
  exact
  fd_of (k := 3) D sc__law_names hm hb fun cdv hcd A outer s H E hr =>
    sds_cons (sd_new 2 sc__law_names.nd (by decide) rfl (by first | exact Or.inl rfl | exact Or.inr rfl) rfl (by first | exact .inl rfl | exact .inr rfl) (nd_lst (ad_nil))) (sds_cons (sd_for bx_passes rfl (by intro _; rfl) (id_r1 rfl T.b_range rfl (ed_var 1)) (gd_name 3 sc__law_names.nd rfl (by first | exact Or.inl rfl | exact Or.inr rfl) (by first | exact .inl rfl | exact .inr rfl)) (sds_one (sd_app 2 rfl (by first | exact Or.inl rfl | exact Or.inr (Or.inl rfl) | exact Or.inr (Or.inr rfl)) (by decide) (by decide) rfl rfl rfl rfl rfl rfl (ed_loan 2 (ed_call c__law_name hr bx_takes rfl (by decide) (by decide) rfl rfl (cd_r 0 rfl (by first | exact Or.inl rfl | exact Or.inr (Or.inl rfl) | exact Or.inr (Or.inr rfl)) (by decide) (by decide) rfl (cd_d rfl (ed_var 2) (cd_nil)))))))) (sds_fz 2 (by decide) (sds_one (sd_ret (ed_callB cr_sortedS opc_srt rfl T.b_sorted (by decide +kernel) (by decide) (by decide) rfl rfl (ad_cons rfl (ed_var 2) (ad_nil)))))))
/-! ### _law_walk -/
abbrev s__law_walk : Stmt := topS 56
theorem sc__law_walk : FnScope ["cup", "arrows", "point", "most", "names", "here", "turn", "rows", "row"] ["cup", "arrows", "point", "most"] (defScope s__law_walk) := ⟨rfl, rfl, rfl, by decide +kernel, rfl, by decide +kernel, by decide +kernel⟩
theorem fd__law_walk {f : Addr} {fd : FuncData} (T : Facts K mg) (D : FunD K "_law_walk" "_law_walk" (defArgs s__law_walk) (defBody s__law_walk) (defScope s__law_walk) [] [] f fd) (hm : mg "_law_walk" = some (.ref f)) (hb : Binds K fd ["cup", "arrows", "point", "most"] []) (c__law_roll : Fd P w K mg base 1 "_law_roll" 2 (m__law_roll)) (c__law_some : Fd P w K mg base 2 "_law_some" 2 (m__law_some)) : Fd P w K mg base 3 "_law_walk" 4 m__law_walk := by
  rw [m__law_walk_eq]
  exact
  fd_of (k := 2) D sc__law_walk hm hb fun cdv hcd A outer s H E hr =>
    sds_cons (sd_asg rfl rfl rfl (ed_tup (ad_cons rfl (ed_tup (ad_nil)) (ad_cons rfl (ed_var 2) (ad_nil)))) (gd_tup rfl rfl rfl (gds_cons rfl (gd_name 4 sc__law_walk.nd rfl (by first | exact Or.inl rfl | exact Or.inr rfl) (by first | exact .inl rfl | exact .inr rfl)) (gds_cons rfl (gd_name 5 sc__law_walk.nd rfl (by first | exact Or.inl rfl | exact Or.inr rfl) (by first | exact .inl rfl | exact .inr rfl)) (gds_nil))))) (sds_cons (sd_for bx_passes rfl (by intro _; rfl) (id_r1 rfl T.b_range rfl (ed_call c__law_roll hr bx_takes rfl (by decide) (by decide) rfl rfl (cd_r 0 rfl (by first | exact Or.inl rfl | exact Or.inr (Or.inl rfl) | exact Or.inr (Or.inr rfl)) (by decide) (by decide) rfl (cd_d rfl (ed_add (ed_var 3) (ed_int)) (cd_nil))))) (gd_name 6 sc__law_walk.nd rfl (by first | exact Or.inl rfl | exact Or.inr rfl) (by first | exact .inl rfl | exact .inr rfl)) (sds_cons (sd_setLc 7 (own := [("row", 8)]) rfl sc__law_walk.nd rfl (sw_true rfl rfl rfl (by decide +kernel)) (blkOk_by (by kernel_rfl)) (by decide) (id_any (ed_var 1)) (fun _ _ _ _ _ => gd_name 8 sc__law_walk.nd rfl (by first | exact Or.inl rfl | exact Or.inr rfl) (by first | exact .inl rfl | exact .inr rfl)) (fun _ _ _ _ _ => tsd_one (td_eq (hu64 hr) (ed_ix (by intro _ _; rfl) (ed_var 8) (ed_int)) (ed_var 5))) (fun _ _ _ _ _ => ed_var 8)) (sds_one (sd_if (td_ne (hu64 hr) (ed_var 7) (ed_lst (ad_nil))) (sds_cons (sd_set 8 sc__law_walk.nd rfl (by first | exact Or.inl rfl | exact Or.inr rfl) rfl (by first | exact .inl rfl | exact .inr rfl) (ed_call c__law_some hr bx_takes rfl (by decide) (by decide) rfl rfl (cd_r 0 rfl (by first | exact Or.inl rfl | exact Or.inr (Or.inl rfl) | exact Or.inr (Or.inr rfl)) (by decide) (by decide) rfl (cd_d rfl (ed_var 7) (cd_nil))))) (sds_one (sd_asg rfl rfl rfl (ed_tup (ad_cons rfl (ed_add (ed_var 4) (ed_tup (ad_cons rfl (ed_ix (by intro _ _; rfl) (ed_var 8) (ed_int)) (ad_nil)))) (ad_cons rfl (ed_ix (by intro _ _; rfl) (ed_var 8) (ed_int)) (ad_nil)))) (gd_tup rfl rfl rfl (gds_cons rfl (gd_name 4 sc__law_walk.nd rfl (by first | exact Or.inl rfl | exact Or.inr rfl) (by first | exact .inl rfl | exact .inr rfl)) (gds_cons rfl (gd_name 5 sc__law_walk.nd rfl (by first | exact Or.inl rfl | exact Or.inr rfl) (by first | exact .inl rfl | exact .inr rfl)) (gds_nil))))))) (sds_nil))))) (sds_one (sd_ret (ed_var 4))))
/-! ### _law_along -/
abbrev s__law_along : Stmt := topS 57
theorem sc__law_along : FnScope ["arrows", "point", "names", "found", "targets", "name", "row"] ["arrows", "point", "names"] (defScope s__law_along) := ⟨rfl, rfl, rfl, by decide +kernel, rfl, by decide +kernel, by decide +kernel⟩
theorem fd__law_along {f : Addr} {fd : FuncData} (T : Facts K mg) (D : FunD K "_law_along" "_law_along" (defArgs s__law_along) (defBody s__law_along) (defScope s__law_along) [] [] f fd) (hm : mg "_law_along" = some (.ref f)) (hb : Binds K fd ["arrows", "point", "names"] []) : Fd P w K mg base 1 "_law_along" 3 m__law_along := by
  rw [m__law_along_eq]
  exact
  fd_of (k := 0) D sc__law_along hm hb fun cdv hcd A outer s H E hr =>
    sds_cons (sd_parNK 3 4 rfl sc__law_along.nd (by decide) rfl rfl (by decide) rfl rfl rfl rfl rfl rfl (nd_lst (ad_cons rfl (ed_var 1) (ad_nil))) (dd_dict rfl rfl T.b_dict rfl rfl (ed_lc (own := [("row", 6)]) rfl sc__law_along.nd (blkOk_by (by kernel_rfl)) (by decide) (id_any (ed_var 0)) (fun _ _ _ _ _ => gd_name 6 sc__law_along.nd rfl (by first | exact Or.inl rfl | exact Or.inr rfl) (by first | exact .inl rfl | exact .inr rfl)) (fun _ _ _ _ _ => tsd_nil) (fun _ _ _ _ _ => ed_tup (ad_cons rfl (ed_ix (by intro _ _; rfl) (ed_var 6) (ed_int)) (ad_cons rfl (ed_ix (by intro _ _; rfl) (ed_var 6) (ed_int)) (ad_nil))))))) (sds_cons (sd_for bx_passes rfl (by intro _; rfl) (id_any (ed_var 2)) (gd_name 5 sc__law_along.nd rfl (by first | exact Or.inl rfl | exact Or.inr rfl) (by first | exact .inl rfl | exact .inr rfl)) (sds_one (sd_app 3 rfl (by first | exact Or.inl rfl | exact Or.inr (Or.inl rfl) | exact Or.inr (Or.inr rfl)) (by decide) (by decide) rfl rfl rfl rfl rfl rfl (ed_getK 4 (hu65 hr) rfl (by first | exact Or.inl rfl | exact Or.inr (Or.inl rfl) | exact Or.inr (Or.inr rfl)) (by decide) (by decide) (by intro _ _; rfl) (ed_var 5))))) (sds_fz 3 (by decide) (sds_one (sd_ret (ed_var 3)))))
/-! ### _law_cells -/
abbrev s__law_cells : Stmt := topS 58
theorem sc__law_cells : FnScope ["cup", "points", "arrows", "many", "least", "rows", "name", "point", "upper", "lower", "turn", "other"] ["cup", "points", "arrows", "many", "least"] (defScope s__law_cells) := ⟨rfl, rfl, rfl, by decide +kernel, rfl, by decide +kernel, by decide +kernel⟩
theorem fd__law_cells {f : Addr} {fd : FuncData} (T : Facts K mg) (D : FunD K "_law_cells" "_law_cells" (defArgs s__law_cells) (defBody s__law_cells) (defScope s__law_cells) [] [] f fd) (hm : mg "_law_cells" = some (.ref f)) (hb : Binds K fd ["cup", "points", "arrows", "many", "least"] []) (c__law_names : Fd P w K mg base 4 "_law_names" 2 (m__law_names)) (c__law_some : Fd P w K mg base 2 "_law_some" 2 (m__law_some)) (c__law_walk : Fd P w K mg base 3 "_law_walk" 4 (m__law_walk)) (c__law_along : Fd P w K mg base 1 "_law_along" 3 (m__law_along)) : Fd P w K mg base 5 "_law_cells" 5 m__law_cells := by
  rw [m__law_cells_eq]
  exact
  fd_of (k := 4) D sc__law_cells hm hb fun cdv hcd A outer s H E hr =>
    sds_cons (sd_new 5 sc__law_cells.nd (by decide) rfl (by first | exact Or.inl rfl | exact Or.inr rfl) rfl (by first | exact .inl rfl | exact .inr rfl) (nd_lst (ad_nil))) (sds_cons (sd_for bx_passes rfl (by intro _; rfl) (id_any (ed_call c__law_names hr bx_takes rfl (by decide) (by decide) rfl rfl (cd_r 0 rfl (by first | exact Or.inl rfl | exact Or.inr (Or.inl rfl) | exact Or.inr (Or.inr rfl)) (by decide) (by decide) rfl (cd_d rfl (ed_var 3) (cd_nil))))) (gd_name 6 sc__law_cells.nd rfl (by first | exact Or.inl rfl | exact Or.inr rfl) (by first | exact .inl rfl | exact .inr rfl)) (sds_cons (sd_set 7 sc__law_cells.nd rfl (by first | exact Or.inl rfl | exact Or.inr rfl) rfl (by first | exact .inl rfl | exact .inr rfl) (ed_call c__law_some hr bx_takes rfl (by decide) (by decide) rfl rfl (cd_r 0 rfl (by first | exact Or.inl rfl | exact Or.inr (Or.inl rfl) | exact Or.inr (Or.inr rfl)) (by decide) (by decide) rfl (cd_d rfl (ed_var 1) (cd_nil))))) (sds_cons (sd_set 8 sc__law_cells.nd rfl (by first | exact Or.inl rfl | exact Or.inr rfl) rfl (by first | exact .inl rfl | exact .inr rfl) (ed_call c__law_walk hr bx_takes rfl (by decide) (by decide) rfl rfl (cd_r 0 rfl (by first | exact Or.inl rfl | exact Or.inr (Or.inl rfl) | exact Or.inr (Or.inr rfl)) (by decide) (by decide) rfl (cd_d rfl (ed_var 2) (cd_d rfl (ed_var 7) (cd_d rfl (ed_int) (cd_nil))))))) (sds_cons (sd_set 9 sc__law_cells.nd rfl (by first | exact Or.inl rfl | exact Or.inr rfl) rfl (by first | exact .inl rfl | exact .inr rfl) (ed_var 8)) (sds_cons (sd_for bx_passes rfl (by intro _; rfl) (id_r1 rfl T.b_range rfl (ed_int)) (gd_name 10 sc__law_cells.nd rfl (by first | exact Or.inl rfl | exact Or.inr rfl) (by first | exact .inl rfl | exact .inr rfl)) (sds_cons (sd_set 11 sc__law_cells.nd rfl (by first | exact Or.inl rfl | exact Or.inr rfl) rfl (by first | exact .inl rfl | exact .inr rfl) (ed_call c__law_walk hr bx_takes rfl (by decide) (by decide) rfl rfl (cd_r 0 rfl (by first | exact Or.inl rfl | exact Or.inr (Or.inl rfl) | exact Or.inr (Or.inr rfl)) (by decide) (by decide) rfl (cd_d rfl (ed_var 2) (cd_d rfl (ed_var 7) (cd_d rfl (ed_int) (cd_nil))))))) (sds_one (sd_if (td_bo (wd_and (td_ge (ed_callB call_len opc_len rfl T.b_len PySem.boot_len (by decide) (by decide) rfl rfl (ad_cons rfl (ed_var 11) (ad_nil))) (ed_var 4)) (wd_and1 (td_eq (hu64 hr) (ed_ix (by intro _ _; rfl) (ed_call c__law_along hr bx_takes rfl (by decide) (by decide) rfl rfl (cd_d rfl (ed_var 2) (cd_d rfl (ed_var 7) (cd_d rfl (ed_var 11) (cd_nil))))) (ed_neg (ed_int))) (ed_ix (by intro _ _; rfl) (ed_call c__law_along hr bx_takes rfl (by decide) (by decide) rfl rfl (cd_d rfl (ed_var 2) (cd_d rfl (ed_var 7) (cd_d rfl (ed_var 8) (cd_nil))))) (ed_neg (ed_int))))))) (sds_one (sd_set 9 sc__law_cells.nd rfl (by first | exact Or.inl rfl | exact Or.inr rfl) rfl (by first | exact .inl rfl | exact .inr rfl) (ed_var 11))) (sds_nil))))) (sds_one (sd_if (td_bo (wd_and (td_ge (ed_callB call_len opc_len rfl T.b_len PySem.boot_len (by decide) (by decide) rfl rfl (ad_cons rfl (ed_var 8) (ad_nil))) (ed_var 4)) (wd_and1 (td_ge (ed_callB call_len opc_len rfl T.b_len PySem.boot_len (by decide) (by decide) rfl rfl (ad_cons rfl (ed_var 9) (ad_nil))) (ed_var 4))))) (sds_one (sd_app 5 rfl (by first | exact Or.inl rfl | exact Or.inr (Or.inl rfl) | exact Or.inr (Or.inr rfl)) (by decide) (by decide) rfl rfl rfl rfl rfl rfl (ed_tup (ad_cons rfl (ed_var 6) (ad_cons rfl (ed_var 7) (ad_cons rfl (ed_var 8) (ad_cons rfl (ed_var 9) (ad_nil)))))))) (sds_nil)))))))) (sds_one (sd_ret (ed_tupM 5 rfl T.b_tuple))))
/-! ### _law_computad -/
abbrev s__law_computad : Stmt := topS 59
theorem sc__law_computad : FnScope ["cup", "least", "points", "arrows", "name"] ["cup", "least"] (defScope s__law_computad) := ⟨rfl, rfl, rfl, by decide +kernel, rfl, by decide +kernel, by decide +kernel⟩
theorem fd__law_computad {f : Addr} {fd : FuncData} (T : Facts K mg) (D : FunD K "_law_computad" "_law_computad" (defArgs s__law_computad) (defBody s__law_computad) (defScope s__law_computad) [] [] f fd) (hm : mg "_law_computad" = some (.ref f)) (hb : Binds K fd ["cup", "least"] []) (c__law_names : Fd P w K mg base 4 "_law_names" 2 (m__law_names)) (c__law_some : Fd P w K mg base 2 "_law_some" 2 (m__law_some)) (c__law_roll : Fd P w K mg base 1 "_law_roll" 2 (m__law_roll)) (c__law_cells : Fd P w K mg base 5 "_law_cells" 5 (m__law_cells)) : Fd P w K mg base 6 "_law_computad" 2 m__law_computad := by
  rw [m__law_computad_eq]
  exact
  fd_of (k := 5) D sc__law_computad hm hb fun cdv hcd A outer s H E hr =>
    sds_cons (sd_set 2 sc__law_computad.nd rfl (by first | exact Or.inl rfl | exact Or.inr rfl) rfl (by first | exact .inl rfl | exact .inr rfl) (ed_callT call_tuple_of opc_tup rfl T.b_tuple PyProof.Rows.boot_tuple (by decide) (by decide) rfl rfl (ad_cons rfl (ed_call c__law_names hr bx_takes rfl (by decide) (by decide) rfl rfl (cd_r 0 rfl (by first | exact Or.inl rfl | exact Or.inr (Or.inl rfl) | exact Or.inr (Or.inr rfl)) (by decide) (by decide) rfl (cd_d rfl (ed_call c__law_some hr bx_takes rfl (by decide) (by decide) rfl rfl (cd_r 0 rfl (by first | exact Or.inl rfl | exact Or.inr (Or.inl rfl) | exact Or.inr (Or.inr rfl)) (by decide) (by decide) rfl (cd_d rfl (ed_lst (ad_cons rfl (ed_int) (ad_cons rfl (ed_int) (ad_cons rfl (ed_int) (ad_cons rfl (ed_int) (ad_nil)))))) (cd_nil)))) (cd_nil)))) (ad_nil)))) (sds_cons (sd_set 3 sc__law_computad.nd rfl (by first | exact Or.inl rfl | exact Or.inr rfl) rfl (by first | exact .inl rfl | exact .inr rfl) (ed_callT call_tuple_of opc_tup rfl T.b_tuple PyProof.Rows.boot_tuple (by decide) (by decide) rfl rfl (ad_cons rfl (ed_lc (own := [("name", 4)]) rfl sc__law_computad.nd (blkOk_by (by kernel_rfl)) (by decide) (id_any (ed_call c__law_names hr bx_takes rfl (by decide) (by decide) rfl rfl (cd_r 0 rfl (by first | exact Or.inl rfl | exact Or.inr (Or.inl rfl) | exact Or.inr (Or.inr rfl)) (by decide) (by decide) rfl (cd_d rfl (ed_add (ed_int) (ed_call c__law_roll hr bx_takes rfl (by decide) (by decide) rfl rfl (cd_r 0 rfl (by first | exact Or.inl rfl | exact Or.inr (Or.inl rfl) | exact Or.inr (Or.inr rfl)) (by decide) (by decide) rfl (cd_d rfl (ed_int) (cd_nil))))) (cd_nil))))) (fun _ _ _ _ _ => gd_name 4 sc__law_computad.nd rfl (by first | exact Or.inl rfl | exact Or.inr rfl) (by first | exact .inl rfl | exact .inr rfl)) (fun _ _ _ _ _ => tsd_nil) (fun _ _ _ _ _ => ed_tup (ad_cons rfl (ed_var 4) (ad_cons rfl (ed_call c__law_some hr takes0 rfl (by decide) (by decide) rfl rfl (cd_r 0 rfl (by first | exact Or.inl rfl | exact Or.inr (Or.inl rfl) | exact Or.inr (Or.inr rfl)) (by decide) (by decide) rfl (cd_d rfl (ed_var 2) (cd_nil)))) (ad_cons rfl (ed_call c__law_some hr takes0 rfl (by decide) (by decide) rfl rfl (cd_r 0 rfl (by first | exact Or.inl rfl | exact Or.inr (Or.inl rfl) | exact Or.inr (Or.inr rfl)) (by decide) (by decide) rfl (cd_d rfl (ed_var 2) (cd_nil)))) (ad_nil)))))) (ad_nil)))) (sds_one (sd_ret (ed_tup (ad_cons rfl (ed_var 2) (ad_cons rfl (ed_var 3) (ad_cons rfl (ed_call c__law_cells hr bx_takes rfl (by decide) (by decide) rfl rfl (cd_r 0 rfl (by first | exact Or.inl rfl | exact Or.inr (Or.inl rfl) | exact Or.inr (Or.inr rfl)) (by decide) (by decide) rfl (cd_d rfl (ed_var 2) (cd_d rfl (ed_var 3) (cd_d rfl (ed_add (ed_int) (ed_call c__law_roll hr bx_takes rfl (by decide) (by decide) rfl rfl (cd_r 0 rfl (by first | exact Or.inl rfl | exact Or.inr (Or.inl rfl) | exact Or.inr (Or.inr rfl)) (by decide) (by decide) rfl (cd_d rfl (ed_int) (cd_nil))))) (cd_d rfl (ed_var 1) (cd_nil))))))) (ad_nil))))))))
/-! ### _law_large -/
abbrev s__law_large : Stmt := topS 60
theorem sc__law_large : FnScope ["cup", "points", "arrows", "rows", "name", "point", "upper", "lower"] ["cup"] (defScope s__law_large) := ⟨rfl, rfl, rfl, by decide +kernel, rfl, by decide +kernel, by decide +kernel⟩
theorem fd__law_large {f : Addr} {fd : FuncData} (T : Facts K mg) (D : FunD K "_law_large" "_law_large" (defArgs s__law_large) (defBody s__law_large) (defScope s__law_large) [] [] f fd) (hm : mg "_law_large" = some (.ref f)) (hb : Binds K fd ["cup"] []) (c__law_names : Fd P w K mg base 4 "_law_names" 2 (m__law_names)) (c__law_some : Fd P w K mg base 2 "_law_some" 2 (m__law_some)) (c__law_walk : Fd P w K mg base 3 "_law_walk" 4 (m__law_walk)) (c__law_along : Fd P w K mg base 1 "_law_along" 3 (m__law_along)) : Fd P w K mg base 5 "_law_large" 1 m__law_large := by
  rw [m__law_large_eq]
  exact
  fd_of (k := 4) D sc__law_large hm hb fun cdv hcd A outer s H E hr =>
    sds_cons (sd_set 1 sc__law_large.nd rfl (by first | exact Or.inl rfl | exact Or.inr rfl) rfl (by first | exact .inl rfl | exact .inr rfl) (ed_callT call_tuple_of opc_tup rfl T.b_tuple PyProof.Rows.boot_tuple (by decide) (by decide) rfl rfl (ad_cons rfl (ed_call c__law_names hr bx_takes rfl (by decide) (by decide) rfl rfl (cd_r 0 rfl (by first | exact Or.inl rfl | exact Or.inr (Or.inl rfl) | exact Or.inr (Or.inr rfl)) (by decide) (by decide) rfl (cd_d rfl (ed_int) (cd_nil)))) (ad_nil)))) (sds_cons (sd_set 2 sc__law_large.nd rfl (by first | exact Or.inl rfl | exact Or.inr rfl) rfl (by first | exact .inl rfl | exact .inr rfl) (ed_callT call_tuple_of opc_tup rfl T.b_tuple PyProof.Rows.boot_tuple (by decide) (by decide) rfl rfl (ad_cons rfl (ed_lc (own := [("name", 4)]) rfl sc__law_large.nd (blkOk_by (by kernel_rfl)) (by decide) (id_any (ed_call c__law_names hr bx_takes rfl (by decide) (by decide) rfl rfl (cd_r 0 rfl (by first | exact Or.inl rfl | exact Or.inr (Or.inl rfl) | exact Or.inr (Or.inr rfl)) (by decide) (by decide) rfl (cd_d rfl (ed_int) (cd_nil))))) (fun _ _ _ _ _ => gd_name 4 sc__law_large.nd rfl (by first | exact Or.inl rfl | exact Or.inr rfl) (by first | exact .inl rfl | exact .inr rfl)) (fun _ _ _ _ _ => tsd_nil) (fun _ _ _ _ _ => ed_tup (ad_cons rfl (ed_var 4) (ad_cons rfl (ed_call c__law_some hr takes0 rfl (by decide) (by decide) rfl rfl (cd_r 0 rfl (by first | exact Or.inl rfl | exact Or.inr (Or.inl rfl) | exact Or.inr (Or.inr rfl)) (by decide) (by decide) rfl (cd_d rfl (ed_slice (ed_var 1) (od_none) (od_some (ed_int))) (cd_nil)))) (ad_cons rfl (ed_call c__law_some hr takes0 rfl (by decide) (by decide) rfl rfl (cd_r 0 rfl (by first | exact Or.inl rfl | exact Or.inr (Or.inl rfl) | exact Or.inr (Or.inr rfl)) (by decide) (by decide) rfl (cd_d rfl (ed_add (ed_slice (ed_var 1) (od_none) (od_some (ed_int))) (ed_slice (ed_var 1) (od_some (ed_neg (ed_int))) (od_none))) (cd_nil)))) (ad_nil)))))) (ad_nil)))) (sds_cons (sd_new 3 sc__law_large.nd (by decide) rfl (by first | exact Or.inl rfl | exact Or.inr rfl) rfl (by first | exact .inl rfl | exact .inr rfl) (nd_lst (ad_nil))) (sds_cons (sd_for bx_passes rfl (by intro _; rfl) (id_any (ed_call c__law_names hr bx_takes rfl (by decide) (by decide) rfl rfl (cd_r 0 rfl (by first | exact Or.inl rfl | exact Or.inr (Or.inl rfl) | exact Or.inr (Or.inr rfl)) (by decide) (by decide) rfl (cd_d rfl (ed_int) (cd_nil))))) (gd_name 4 sc__law_large.nd rfl (by first | exact Or.inl rfl | exact Or.inr rfl) (by first | exact .inl rfl | exact .inr rfl)) (sds_cons (sd_set 5 sc__law_large.nd rfl (by first | exact Or.inl rfl | exact Or.inr rfl) rfl (by first | exact .inl rfl | exact .inr rfl) (ed_call c__law_some hr bx_takes rfl (by decide) (by decide) rfl rfl (cd_r 0 rfl (by first | exact Or.inl rfl | exact Or.inr (Or.inl rfl) | exact Or.inr (Or.inr rfl)) (by decide) (by decide) rfl (cd_d rfl (ed_slice (ed_var 1) (od_none) (od_some (ed_int))) (cd_nil))))) (sds_cons (sd_par 6 7 rfl sc__law_large.nd rfl rfl (by decide) rfl rfl rfl rfl rfl rfl (ed_call c__law_walk hr bx_takes rfl (by decide) (by decide) rfl rfl (cd_r 0 rfl (by first | exact Or.inl rfl | exact Or.inr (Or.inl rfl) | exact Or.inr (Or.inr rfl)) (by decide) (by decide) rfl (cd_d rfl (ed_var 2) (cd_d rfl (ed_var 5) (cd_d rfl (ed_int) (cd_nil)))))) (ed_call c__law_walk hr bx_takes rfl (by decide) (by decide) rfl rfl (cd_r 0 rfl (by first | exact Or.inl rfl | exact Or.inr (Or.inl rfl) | exact Or.inr (Or.inr rfl)) (by decide) (by decide) rfl (cd_d rfl (ed_var 2) (cd_d rfl (ed_var 5) (cd_d rfl (ed_int) (cd_nil))))))) (sds_cons (sd_if (td_ne (hu64 hr) (ed_ix (by intro _ _; rfl) (ed_call c__law_along hr bx_takes rfl (by decide) (by decide) rfl rfl (cd_d rfl (ed_var 2) (cd_d rfl (ed_var 5) (cd_d rfl (ed_var 6) (cd_nil))))) (ed_neg (ed_int))) (ed_ix (by intro _ _; rfl) (ed_call c__law_along hr bx_takes rfl (by decide) (by decide) rfl rfl (cd_d rfl (ed_var 2) (cd_d rfl (ed_var 5) (cd_d rfl (ed_var 7) (cd_nil))))) (ed_neg (ed_int)))) (sds_one (sd_set 7 sc__law_large.nd rfl (by first | exact Or.inl rfl | exact Or.inr rfl) rfl (by first | exact .inl rfl | exact .inr rfl) (ed_var 6))) (sds_nil)) (sds_one (sd_app 3 rfl (by first | exact Or.inl rfl | exact Or.inr (Or.inl rfl) | exact Or.inr (Or.inr rfl)) (by decide) (by decide) rfl rfl rfl rfl rfl rfl (ed_tup (ad_cons rfl (ed_var 4) (ad_cons rfl (ed_var 5) (ad_cons rfl (ed_var 6) (ad_cons rfl (ed_var 7) (ad_nil)))))))))))) (sds_one (sd_ret (ed_tup (ad_cons rfl (ed_var 1) (ad_cons rfl (ed_var 2) (ad_cons rfl (ed_tupM 3 rfl T.b_tuple) (ad_nil))))))))))
/-! ### _law_fitting -/
abbrev s__law_fitting : Stmt := topS 61
theorem sc__law_fitting : FnScope ["computad", "path", "point", "names", "along", "found", "at", "name", "start", "upper", "lower"] ["computad", "path"] (defScope s__law_fitting) := ⟨rfl, rfl, rfl, by decide +kernel, rfl, by decide +kernel, by decide +kernel⟩
theorem fd__law_fitting {f : Addr} {fd : FuncData} (T : Facts K mg) (D : FunD K "_law_fitting" "_law_fitting" (defArgs s__law_fitting) (defBody s__law_fitting) (defScope s__law_fitting) [] [] f fd) (hm : mg "_law_fitting" = some (.ref f)) (hb : Binds K fd ["computad", "path"] []) (c__law_along : Fd P w K mg base 1 "_law_along" 3 (m__law_along)) : Fd P w K mg base 2 "_law_fitting" 2 m__law_fitting := by
  rw [m__law_fitting_eq]
  exact
  fd_of (k := 1) D sc__law_fitting hm hb fun cdv hcd A outer s H E hr =>
    sds_cons (sd_asg rfl rfl rfl (ed_var 1) (gd_tup rfl rfl rfl (gds_cons rfl (gd_name 2 sc__law_fitting.nd rfl (by first | exact Or.inl rfl | exact Or.inr rfl) (by first | exact .inl rfl | exact .inr rfl)) (gds_cons rfl (gd_name 3 sc__law_fitting.nd rfl (by first | exact Or.inl rfl | exact Or.inr rfl) (by first | exact .inl rfl | exact .inr rfl)) (gds_nil))))) (sds_cons (sd_parN2 4 5 rfl sc__law_fitting.nd (by decide) rfl rfl (by decide) rfl rfl rfl rfl rfl rfl (ed_call c__law_along hr bx_takes rfl (by decide) (by decide) rfl rfl (cd_d rfl (ed_ix (by intro _ _; rfl) (ed_var 0) (ed_int)) (cd_d rfl (ed_var 2) (cd_d rfl (ed_var 3) (cd_nil))))) (nd_lst (ad_nil))) (sds_cons (sd_for bx_passes rfl (by intro _; rfl) (id_r1 rfl T.b_range rfl (ed_add (ed_callB call_len opc_len rfl T.b_len PySem.boot_len (by decide) (by decide) rfl rfl (ad_cons rfl (ed_var 3) (ad_nil))) (ed_int))) (gd_name 6 sc__law_fitting.nd rfl (by first | exact Or.inl rfl | exact Or.inr rfl) (by first | exact .inl rfl | exact .inr rfl)) (sds_one (sd_for bx_passes rfl (by intro _; rfl) (id_any (ed_ix (by intro _ _; rfl) (ed_var 0) (ed_int))) (gd_tup rfl rfl rfl (gds_cons rfl (gd_name 7 sc__law_fitting.nd rfl (by first | exact Or.inl rfl | exact Or.inr rfl) (by first | exact .inl rfl | exact .inr rfl)) (gds_cons rfl (gd_name 8 sc__law_fitting.nd rfl (by first | exact Or.inl rfl | exact Or.inr rfl) (by first | exact .inl rfl | exact .inr rfl)) (gds_cons rfl (gd_name 9 sc__law_fitting.nd rfl (by first | exact Or.inl rfl | exact Or.inr rfl) (by first | exact .inl rfl | exact .inr rfl)) (gds_cons rfl (gd_name 10 sc__law_fitting.nd rfl (by first | exact Or.inl rfl | exact Or.inr rfl) (by first | exact .inl rfl | exact .inr rfl)) (gds_nil)))))) (sds_one (sd_if (td_bo (wd_and (td_eq (hu64 hr) (ed_ix (by intro _ _; rfl) (ed_var 4) (ed_var 6)) (ed_var 8)) (wd_and1 (td_eq (hu64 hr) (ed_slice (ed_var 3) (od_some (ed_var 6)) (od_some (ed_add (ed_var 6) (ed_callB call_len opc_len rfl T.b_len PySem.boot_len (by decide) (by decide) rfl rfl (ad_cons rfl (ed_var 9) (ad_nil)))))) (ed_var 9))))) (sds_one (sd_app 5 rfl (by first | exact Or.inl rfl | exact Or.inr (Or.inl rfl) | exact Or.inr (Or.inr rfl)) (by decide) (by decide) rfl rfl rfl rfl rfl rfl (ed_tup (ad_cons rfl (ed_var 6) (ad_cons rfl (ed_var 7) (ad_nil)))))) (sds_nil)))))) (sds_fz 5 (by decide) (sds_one (sd_ret (ed_var 5))))))
/-! ### _law_after -/
abbrev s__law_after : Stmt := topS 62
theorem sc__law_after : FnScope ["computad", "path", "layer", "point", "names", "at", "cell", "name", "start", "upper", "lower", "row"] ["computad", "path", "layer"] (defScope s__law_after) := ⟨rfl, rfl, rfl, by decide +kernel, rfl, by decide +kernel, by decide +kernel⟩
theorem fd__law_after {f : Addr} {fd : FuncData} (T : Facts K mg) (D : FunD K "_law_after" "_law_after" (defArgs s__law_after) (defBody s__law_after) (defScope s__law_after) [] [] f fd) (hm : mg "_law_after" = some (.ref f)) (hb : Binds K fd ["computad", "path", "layer"] []) : Fd P w K mg base 1 "_law_after" 3 m__law_after := by
  rw [m__law_after_eq]
  exact
  fd_of (k := 0) D sc__law_after hm hb fun cdv hcd A outer s H E hr =>
    sds_cons (sd_asg rfl rfl rfl (ed_var 1) (gd_tup rfl rfl rfl (gds_cons rfl (gd_name 3 sc__law_after.nd rfl (by first | exact Or.inl rfl | exact Or.inr rfl) (by first | exact .inl rfl | exact .inr rfl)) (gds_cons rfl (gd_name 4 sc__law_after.nd rfl (by first | exact Or.inl rfl | exact Or.inr rfl) (by first | exact .inl rfl | exact .inr rfl)) (gds_nil))))) (sds_cons (sd_asg rfl rfl rfl (ed_var 2) (gd_tup rfl rfl rfl (gds_cons rfl (gd_name 5 sc__law_after.nd rfl (by first | exact Or.inl rfl | exact Or.inr rfl) (by first | exact .inl rfl | exact .inr rfl)) (gds_cons rfl (gd_name 6 sc__law_after.nd rfl (by first | exact Or.inl rfl | exact Or.inr rfl) (by first | exact .inl rfl | exact .inr rfl)) (gds_nil))))) (sds_cons (sd_asg rfl rfl rfl (ed_ix (by intro _ _; rfl) (ed_lc (own := [("row", 11)]) rfl sc__law_after.nd (blkOk_by (by kernel_rfl)) (by decide) (id_any (ed_ix (by intro _ _; rfl) (ed_var 0) (ed_int))) (fun _ _ _ _ _ => gd_name 11 sc__law_after.nd rfl (by first | exact Or.inl rfl | exact Or.inr rfl) (by first | exact .inl rfl | exact .inr rfl)) (fun _ _ _ _ _ => tsd_one (td_eq (hu64 hr) (ed_ix (by intro _ _; rfl) (ed_var 11) (ed_int)) (ed_var 6))) (fun _ _ _ _ _ => ed_var 11)) (ed_int)) (gd_tup rfl rfl rfl (gds_cons rfl (gd_name 7 sc__law_after.nd rfl (by first | exact Or.inl rfl | exact Or.inr rfl) (by first | exact .inl rfl | exact .inr rfl)) (gds_cons rfl (gd_name 8 sc__law_after.nd rfl (by first | exact Or.inl rfl | exact Or.inr rfl) (by first | exact .inl rfl | exact .inr rfl)) (gds_cons rfl (gd_name 9 sc__law_after.nd rfl (by first | exact Or.inl rfl | exact Or.inr rfl) (by first | exact .inl rfl | exact .inr rfl)) (gds_cons rfl (gd_name 10 sc__law_after.nd rfl (by first | exact Or.inl rfl | exact Or.inr rfl) (by first | exact .inl rfl | exact .inr rfl)) (gds_nil))))))) (sds_one (sd_ret (ed_tup (ad_cons rfl (ed_var 3) (ad_cons rfl (ed_add (ed_add (ed_slice (ed_var 4) (od_none) (od_some (ed_var 5))) (ed_var 10)) (ed_slice (ed_var 4) (od_some (ed_add (ed_var 5) (ed_callB call_len opc_len rfl T.b_len PySem.boot_len (by decide) (by decide) rfl rfl (ad_cons rfl (ed_var 9) (ad_nil))))) (od_none))) (ad_nil))))))))
/-! ### _law_paths -/
abbrev s__law_paths : Stmt := topS 63
theorem sc__law_paths : FnScope ["computad", "diagram", "found", "layer"] ["computad", "diagram"] (defScope s__law_paths) := ⟨rfl, rfl, rfl, by decide +kernel, rfl, by decide +kernel, by decide +kernel⟩
theorem fd__law_paths {f : Addr} {fd : FuncData} (T : Facts K mg) (D : FunD K "_law_paths" "_law_paths" (defArgs s__law_paths) (defBody s__law_paths) (defScope s__law_paths) [] [] f fd) (hm : mg "_law_paths" = some (.ref f)) (hb : Binds K fd ["computad", "diagram"] []) (c__law_after : Fd P w K mg base 1 "_law_after" 3 (m__law_after)) : Fd P w K mg base 2 "_law_paths" 2 m__law_paths := by
  rw [m__law_paths_eq]
  exact
  fd_of (k := 1) D sc__law_paths hm hb fun cdv hcd A outer s H E hr =>
    sds_cons (sd_new 2 sc__law_paths.nd (by decide) rfl (by first | exact Or.inl rfl | exact Or.inr rfl) rfl (by first | exact .inl rfl | exact .inr rfl) (nd_lst (ad_cons rfl (ed_ix (by intro _ _; rfl) (ed_var 1) (ed_int)) (ad_nil)))) (sds_cons (sd_for bx_passes rfl (by intro _; rfl) (id_any (ed_ix (by intro _ _; rfl) (ed_var 1) (ed_int))) (gd_name 3 sc__law_paths.nd rfl (by first | exact Or.inl rfl | exact Or.inr rfl) (by first | exact .inl rfl | exact .inr rfl)) (sds_one (sd_app 2 rfl (by first | exact Or.inl rfl | exact Or.inr (Or.inl rfl) | exact Or.inr (Or.inr rfl)) (by decide) (by decide) rfl rfl rfl rfl rfl rfl (ed_call c__law_after hr bx_takes rfl (by decide) (by decide) rfl rfl (cd_d rfl (ed_var 0) (cd_d rfl (ed_ixM 2 rfl (by first | exact Or.inl rfl | exact Or.inr (Or.inl rfl) | exact Or.inr (Or.inr rfl)) (by decide) (by decide) (by intro _ _; rfl) (ed_neg (ed_int))) (cd_d rfl (ed_var 3) (cd_nil)))))))) (sds_fz 2 (by decide) (sds_one (sd_ret (ed_var 2)))))
/-! ### _law_continued -/
abbrev s__law_continued : Stmt := topS 64
theorem sc__law_continued : FnScope ["cup", "computad", "path", "many", "layers", "turn", "fitting", "layer"] ["cup", "computad", "path", "many"] (defScope s__law_continued) := ⟨rfl, rfl, rfl, by decide +kernel, rfl, by decide +kernel, by decide +kernel⟩
theorem fd__law_continued {f : Addr} {fd : FuncData} (T : Facts K mg) (D : FunD K "_law_continued" "_law_continued" (defArgs s__law_continued) (defBody s__law_continued) (defScope s__law_continued) [] [] f fd) (hm : mg "_law_continued" = some (.ref f)) (hb : Binds K fd ["cup", "computad", "path", "many"] []) (c__law_fitting : Fd P w K mg base 2 "_law_fitting" 2 (m__law_fitting)) (c__law_some : Fd P w K mg base 2 "_law_some" 2 (m__law_some)) (c__law_after : Fd P w K mg base 1 "_law_after" 3 (m__law_after)) : Fd P w K mg base 3 "_law_continued" 4 m__law_continued := by
  rw [m__law_continued_eq]
  exact
  fd_of (k := 2) D sc__law_continued hm hb fun cdv hcd A outer s H E hr =>
    sds_cons (sd_set 4 sc__law_continued.nd rfl (by first | exact Or.inl rfl | exact Or.inr rfl) rfl (by first | exact .inl rfl | exact .inr rfl) (ed_tup (ad_nil))) (sds_cons (sd_for bx_passes rfl (by intro _; rfl) (id_r1 rfl T.b_range rfl (ed_var 3)) (gd_name 5 sc__law_continued.nd rfl (by first | exact Or.inl rfl | exact Or.inr rfl) (by first | exact .inl rfl | exact .inr rfl)) (sds_cons (sd_set 6 sc__law_continued.nd rfl (by first | exact Or.inl rfl | exact Or.inr rfl) rfl (by first | exact .inl rfl | exact .inr rfl) (ed_call c__law_fitting hr bx_takes rfl (by decide) (by decide) rfl rfl (cd_d rfl (ed_var 1) (cd_d rfl (ed_var 2) (cd_nil))))) (sds_one (sd_if (td_ne (hu64 hr) (ed_var 6) (ed_lst (ad_nil))) (sds_cons (sd_set 7 sc__law_continued.nd rfl (by first | exact Or.inl rfl | exact Or.inr rfl) rfl (by first | exact .inl rfl | exact .inr rfl) (ed_call c__law_some hr bx_takes rfl (by decide) (by decide) rfl rfl (cd_r 0 rfl (by first | exact Or.inl rfl | exact Or.inr (Or.inl rfl) | exact Or.inr (Or.inr rfl)) (by decide) (by decide) rfl (cd_d rfl (ed_var 6) (cd_nil))))) (sds_one (sd_par 4 2 rfl sc__law_continued.nd rfl rfl (by decide) rfl rfl rfl rfl rfl rfl (ed_add (ed_var 4) (ed_tup (ad_cons rfl (ed_var 7) (ad_nil)))) (ed_call c__law_after hr bx_takes rfl (by decide) (by decide) rfl rfl (cd_d rfl (ed_var 1) (cd_d rfl (ed_var 2) (cd_d rfl (ed_var 7) (cd_nil)))))))) (sds_nil))))) (sds_one (sd_ret (ed_var 4))))
/-! ### _law_path -/
abbrev s__law_path : Stmt := topS 65
theorem sc__law_path : FnScope ["cup", "computad", "most", "point"] ["cup", "computad", "most"] (defScope s__law_path) := ⟨rfl, rfl, rfl, by decide +kernel, rfl, by decide +kernel, by decide +kernel⟩
theorem fd__law_path {f : Addr} {fd : FuncData} (T : Facts K mg) (D : FunD K "_law_path" "_law_path" (defArgs s__law_path) (defBody s__law_path) (defScope s__law_path) [] [] f fd) (hm : mg "_law_path" = some (.ref f)) (hb : Binds K fd ["cup", "computad", "most"] []) (c__law_some : Fd P w K mg base 2 "_law_some" 2 (m__law_some)) (c__law_walk : Fd P w K mg base 3 "_law_walk" 4 (m__law_walk)) : Fd P w K mg base 4 "_law_path" 3 m__law_path := by
  rw [m__law_path_eq]
  exact
  fd_of (k := 3) D sc__law_path hm hb fun cdv hcd A outer s H E hr =>
    sds_cons (sd_set 3 sc__law_path.nd rfl (by first | exact Or.inl rfl | exact Or.inr rfl) rfl (by first | exact .inl rfl | exact .inr rfl) (ed_call c__law_some hr bx_takes rfl (by decide) (by decide) rfl rfl (cd_r 0 rfl (by first | exact Or.inl rfl | exact Or.inr (Or.inl rfl) | exact Or.inr (Or.inr rfl)) (by decide) (by decide) rfl (cd_d rfl (ed_ix (by intro _ _; rfl) (ed_var 1) (ed_int)) (cd_nil))))) (sds_one (sd_ret (ed_tup (ad_cons rfl (ed_var 3) (ad_cons rfl (ed_call c__law_walk hr bx_takes rfl (by decide) (by decide) rfl rfl (cd_r 0 rfl (by first | exact Or.inl rfl | exact Or.inr (Or.inl rfl) | exact Or.inr (Or.inr rfl)) (by decide) (by decide) rfl (cd_d rfl (ed_ix (by intro _ _; rfl) (ed_var 1) (ed_int)) (cd_d rfl (ed_var 3) (cd_d rfl (ed_var 2) (cd_nil)))))) (ad_nil))))))
/-! ### _law_diagram -/
abbrev s__law_diagram : Stmt := topS 66
theorem sc__law_diagram : FnScope ["cup", "computad", "most", "many", "path"] ["cup", "computad", "most", "many"] (defScope s__law_diagram) := ⟨rfl, rfl, rfl, by decide +kernel, rfl, by decide +kernel, by decide +kernel⟩
theorem fd__law_diagram {f : Addr} {fd : FuncData} (T : Facts K mg) (D : FunD K "_law_diagram" "_law_diagram" (defArgs s__law_diagram) (defBody s__law_diagram) (defScope s__law_diagram) [] [] f fd) (hm : mg "_law_diagram" = some (.ref f)) (hb : Binds K fd ["cup", "computad", "most", "many"] []) (c__law_path : Fd P w K mg base 4 "_law_path" 3 (m__law_path)) (c__law_continued : Fd P w K mg base 3 "_law_continued" 4 (m__law_continued)) : Fd P w K mg base 5 "_law_diagram" 4 m__law_diagram := by
  rw [m__law_diagram_eq]
  exact
  fd_of (k := 4) D sc__law_diagram hm hb fun cdv hcd A outer s H E hr =>
    sds_cons (sd_set 4 sc__law_diagram.nd rfl (by first | exact Or.inl rfl | exact Or.inr rfl) rfl (by first | exact .inl rfl | exact .inr rfl) (ed_call c__law_path hr bx_takes rfl (by decide) (by decide) rfl rfl (cd_r 0 rfl (by first | exact Or.inl rfl | exact Or.inr (Or.inl rfl) | exact Or.inr (Or.inr rfl)) (by decide) (by decide) rfl (cd_d rfl (ed_var 1) (cd_d rfl (ed_var 2) (cd_nil)))))) (sds_one (sd_ret (ed_tup (ad_cons rfl (ed_var 4) (ad_cons rfl (ed_call c__law_continued hr bx_takes rfl (by decide) (by decide) rfl rfl (cd_r 0 rfl (by first | exact Or.inl rfl | exact Or.inr (Or.inl rfl) | exact Or.inr (Or.inr rfl)) (by decide) (by decide) rfl (cd_d rfl (ed_var 1) (cd_d rfl (ed_var 4) (cd_d rfl (ed_var 3) (cd_nil)))))) (ad_nil))))))
/-! ### _law_sides -/
abbrev s__law_sides : Stmt := topS 67
theorem sc__law_sides : FnScope ["computad", "layer", "row"] ["computad", "layer"] (defScope s__law_sides) := ⟨rfl, rfl, rfl, by decide +kernel, rfl, by decide +kernel, by decide +kernel⟩
theorem fd__law_sides {f : Addr} {fd : FuncData} (T : Facts K mg) (D : FunD K "_law_sides" "_law_sides" (defArgs s__law_sides) (defBody s__law_sides) (defScope s__law_sides) [] [] f fd) (hm : mg "_law_sides" = some (.ref f)) (hb : Binds K fd ["computad", "layer"] []) : Fd P w K mg base 1 "_law_sides" 2 m__law_sides := by
  rw [m__law_sides_eq]
  exact
  fd_of (k := 0) D sc__law_sides hm hb fun cdv hcd A outer s H E hr =>
    sds_cons (sd_set 2 sc__law_sides.nd rfl (by first | exact Or.inl rfl | exact Or.inr rfl) rfl (by first | exact .inl rfl | exact .inr rfl) (ed_ix (by intro _ _; rfl) (ed_lc (own := [("row", 2)]) rfl sc__law_sides.nd (blkOk_by (by kernel_rfl)) (by decide) (id_any (ed_ix (by intro _ _; rfl) (ed_var 0) (ed_int))) (fun _ _ _ _ _ => gd_name 2 sc__law_sides.nd rfl (by first | exact Or.inl rfl | exact Or.inr rfl) (by first | exact .inl rfl | exact .inr rfl)) (fun _ _ _ _ _ => tsd_one (td_eq (hu64 hr) (ed_ix (by intro _ _; rfl) (ed_var 2) (ed_int)) (ed_ix (by intro _ _; rfl) (ed_var 1) (ed_int)))) (fun _ _ _ _ _ => ed_var 2)) (ed_int))) (sds_one (sd_ret (ed_tup (ad_cons rfl (ed_callB call_len opc_len rfl T.b_len PySem.boot_len (by decide) (by decide) rfl rfl (ad_cons rfl (ed_ix (by intro _ _; rfl) (ed_var 2) (ed_int)) (ad_nil))) (ad_cons rfl (ed_callB call_len opc_len rfl T.b_len PySem.boot_len (by decide) (by decide) rfl rfl (ad_cons rfl (ed_ix (by intro _ _; rfl) (ed_var 2) (ed_int)) (ad_nil))) (ad_nil))))))
/-! ### _law_case -/
abbrev s__law_case : Stmt := topS 68
theorem sc__law_case : FnScope ["cup", "computad"] ["cup"] (defScope s__law_case) := ⟨rfl, rfl, rfl, by decide +kernel, rfl, by decide +kernel, by decide +kernel⟩
theorem fd__law_case {f : Addr} {fd : FuncData} (T : Facts K mg) (D : FunD K "_law_case" "_law_case" (defArgs s__law_case) (defBody s__law_case) (defScope s__law_case) [] [] f fd) (hm : mg "_law_case" = some (.ref f)) (hb : Binds K fd ["cup"] []) (c__law_roll : Fd P w K mg base 1 "_law_roll" 2 (m__law_roll)) (c__law_large : Fd P w K mg base 5 "_law_large" 1 (m__law_large)) (c__law_computad : Fd P w K mg base 6 "_law_computad" 2 (m__law_computad)) (c__law_some : Fd P w K mg base 2 "_law_some" 2 (m__law_some)) (c__law_diagram : Fd P w K mg base 5 "_law_diagram" 4 (m__law_diagram)) : Fd P w K mg base 7 "_law_case" 1 m__law_case := by
  rw [m__law_case_eq]
  exact
  fd_of (k := 6) D sc__law_case hm hb fun cdv hcd A outer s H E hr =>
    sds_cons (sd_set 1 sc__law_case.nd rfl (by first | exact Or.inl rfl | exact Or.inr rfl) rfl (by first | exact .inl rfl | exact .inr rfl) (ed_if (td_eq (hu64 hr) (ed_call c__law_roll hr bx_takes rfl (by decide) (by decide) rfl rfl (cd_r 0 rfl (by first | exact Or.inl rfl | exact Or.inr (Or.inl rfl) | exact Or.inr (Or.inr rfl)) (by decide) (by decide) rfl (cd_d rfl (ed_int) (cd_nil)))) (ed_int)) (ed_call c__law_large hr bx_takes rfl (by decide) (by decide) rfl rfl (cd_r 0 rfl (by first | exact Or.inl rfl | exact Or.inr (Or.inl rfl) | exact Or.inr (Or.inr rfl)) (by decide) (by decide) rfl (cd_nil))) (ed_call c__law_computad hr bx_takes rfl (by decide) (by decide) rfl rfl (cd_r 0 rfl (by first | exact Or.inl rfl | exact Or.inr (Or.inl rfl) | exact Or.inr (Or.inr rfl)) (by decide) (by decide) rfl (cd_d rfl (ed_call c__law_some hr bx_takes rfl (by decide) (by decide) rfl rfl (cd_r 0 rfl (by first | exact Or.inl rfl | exact Or.inr (Or.inl rfl) | exact Or.inr (Or.inr rfl)) (by decide) (by decide) rfl (cd_d rfl (ed_lst (ad_cons rfl (ed_int) (ad_cons rfl (ed_int) (ad_cons rfl (ed_int) (ad_nil))))) (cd_nil)))) (cd_nil)))))) (sds_one (sd_ret (ed_tup (ad_cons rfl (ed_var 1) (ad_cons rfl (ed_call c__law_diagram hr bx_takes rfl (by decide) (by decide) rfl rfl (cd_r 0 rfl (by first | exact Or.inl rfl | exact Or.inr (Or.inl rfl) | exact Or.inr (Or.inr rfl)) (by decide) (by decide) rfl (cd_d rfl (ed_var 1) (cd_d rfl (ed_call c__law_some hr bx_takes rfl (by decide) (by decide) rfl rfl (cd_r 0 rfl (by first | exact Or.inl rfl | exact Or.inr (Or.inl rfl) | exact Or.inr (Or.inr rfl)) (by decide) (by decide) rfl (cd_d rfl (ed_lst (ad_cons rfl (ed_int) (ad_cons rfl (ed_int) (ad_cons rfl (ed_int) (ad_cons rfl (ed_int) (ad_nil)))))) (cd_nil)))) (cd_d rfl (ed_call c__law_some hr bx_takes rfl (by decide) (by decide) rfl rfl (cd_r 0 rfl (by first | exact Or.inl rfl | exact Or.inr (Or.inl rfl) | exact Or.inr (Or.inr rfl)) (by decide) (by decide) rfl (cd_d rfl (ed_lst (ad_cons rfl (ed_int) (ad_cons rfl (ed_int) (ad_cons rfl (ed_int) (ad_cons rfl (ed_int) (ad_cons rfl (ed_int) (ad_nil))))))) (cd_nil)))) (cd_nil)))))) (ad_nil))))))
/-! ### _law_end -/
abbrev s__law_end : Stmt := topS 69
theorem sc__law_end : FnScope ["computad", "path"] ["computad", "path"] (defScope s__law_end) := ⟨rfl, rfl, rfl, by decide +kernel, rfl, by decide +kernel, by decide +kernel⟩
theorem fd__law_end {f : Addr} {fd : FuncData} (T : Facts K mg) (D : FunD K "_law_end" "_law_end" (defArgs s__law_end) (defBody s__law_end) (defScope s__law_end) [] [] f fd) (hm : mg "_law_end" = some (.ref f)) (hb : Binds K fd ["computad", "path"] []) (c__law_along : Fd P w K mg base 1 "_law_along" 3 (m__law_along)) : Fd P w K mg base 2 "_law_end" 2 m__law_end := by
  rw [m__law_end_eq]
  exact
  fd_of (k := 1) D sc__law_end hm hb fun cdv hcd A outer s H E hr =>
    sds_one (sd_ret (ed_ix (by intro _ _; rfl) (ed_call c__law_along hr bx_takes rfl (by decide) (by decide) rfl rfl (cd_d rfl (ed_ix (by intro _ _; rfl) (ed_var 0) (ed_int)) (cd_d rfl (ed_ix (by intro _ _; rfl) (ed_var 1) (ed_int)) (cd_d rfl (ed_ix (by intro _ _; rfl) (ed_var 1) (ed_int)) (cd_nil))))) (ed_neg (ed_int))))
/-! ### _law_odd -/
abbrev s__law_odd : Stmt := topS 70
theorem sc__law_odd : FnScope ["cup"] ["cup"] (defScope s__law_odd) := ⟨rfl, rfl, rfl, by decide +kernel, rfl, by decide +kernel, by decide +kernel⟩
def S__law_odd : SF :=
  sRet (eUser 2 (m__law_some) (cR 0 (cD (eLst (aCons (eC .none) (aCons (eC (.bool true)) (aCons (eC (.bool false)) (aCons (eC (.int 0)) (aCons (eUn negD (eC (.int 1))) (aCons (eC (.int 1)) (aCons (eC (.str "")) (aCons (eC (.str "x")) (aCons (eC (.str "left")) (aCons (eTup (aNil)) (aCons (eLst (aNil)) (aCons (eLst (aCons (eC (.int 0)) (aNil))) (aCons (eTup (aCons (eC (.str "x")) (aNil))) (aCons (eOp powD (eC (.int 10)) (eC (.int 30))) (aCons (eC (.str "zz")) (aNil))))))))))))))))) (cNil))))
theorem q__law_odd : ∃ F : Fn, F = mkFn 1 S__law_odd := ⟨_, rfl⟩
noncomputable def m__law_odd : Fn := Classical.choose q__law_odd
theorem m__law_odd_eq : m__law_odd = mkFn 1 S__law_odd := Classical.choose_spec q__law_odd
theorem fd__law_odd {f : Addr} {fd : FuncData} (T : Facts K mg) (D : FunD K "_law_odd" "_law_odd" (defArgs s__law_odd) (defBody s__law_odd) (defScope s__law_odd) [] [] f fd) (hm : mg "_law_odd" = some (.ref f)) (hb : Binds K fd ["cup"] []) (c__law_some : Fd P w K mg base 2 "_law_some" 2 (m__law_some)) : Fd P w K mg base 3 "_law_odd" 1 m__law_odd := by
  rw [m__law_odd_eq]
  exact
  fd_of (k := 2) D sc__law_odd hm hb fun cdv hcd A outer s H E hr =>
    sds_one (sd_ret (ed_call c__law_some hr bx_takes rfl (by decide) (by decide) rfl rfl (cd_r 0 rfl (by first | exact Or.inl rfl | exact Or.inr (Or.inl rfl) | exact Or.inr (Or.inr rfl)) (by decide) (by decide) rfl (cd_d rfl (ed_lst (ad_cons rfl (ed_non) (ad_cons rfl (ed_bl) (ad_cons rfl (ed_bl) (ad_cons rfl (ed_int) (ad_cons rfl (ed_neg (ed_int)) (ad_cons rfl (ed_int) (ad_cons rfl (ed_str) (ad_cons rfl (ed_str) (ad_cons rfl (ed_str) (ad_cons rfl (ed_tup (ad_nil)) (ad_cons rfl (ed_lst (ad_nil)) (ad_cons rfl (ed_lst (ad_cons rfl (ed_int) (ad_nil))) (ad_cons rfl (ed_tup (ad_cons rfl (ed_str) (ad_nil))) (ad_cons rfl (ed_pow (ed_int) (ed_int)) (ad_cons rfl (ed_str) (ad_nil))))))))))))))))) (cd_nil)))))
/-! ### _law_odd_computad -/
abbrev s__law_odd_computad : Stmt := topS 71
theorem sc__law_odd_computad : FnScope ["cup", "computad", "points", "arrows", "cells", "some"] ["cup", "computad"] (defScope s__law_odd_computad) := ⟨rfl, rfl, rfl, by decide +kernel, rfl, by decide +kernel, by decide +kernel⟩
def S__law_odd_computad : SF :=
  sSeq (sAsg (eVar 1) (gTupD 3 (gsCons (setD 2) (gsCons (setD 3) (gsCons (setD 4) (gsNil)))))) (sSeq (sAsg (eLst (aCons (eC .none) (aCons (eTup (aNil)) (aCons (eCall listOf (aCons (eVar 1) (aNil))) (aCons (eSl (eVar 1) (oNo) (oSome (eC (.int 2)))) (aCons (eOp addD (eVar 1) (eTup (aCons (eTup (aNil)) (aNil)))) (aCons (eTup (aCons (eTup (aNil)) (aCons (eVar 3) (aCons (eVar 4) (aNil))))) (aCons (eTup (aCons (eVar 2) (aCons (eVar 3) (aCons (eCall listOf (aCons (eVar 4) (aNil))) (aNil))))) (aCons (eTup (aCons (eVar 2) (aCons (eVar 3) (aCons (eC .none) (aNil))))) (aNil)))))))))) (setD 5)) (sSeq (sAsg (eOp addD (eVar 5) (eLst (aCons (eTup (aCons (eOp addD (eSl (eVar 2) (oNo) (oSome (eC (.int 1)))) (eVar 2)) (aCons (eVar 3) (aCons (eVar 4) (aNil))))) (aCons (eTup (aCons (eVar 2) (aCons (eVar 3) (aCons (eOp addD (eVar 4) (eTup (aCons (eTup (aCons (eC (.str "zz")) (aCons (eOp ixD (eVar 2) (eC (.int 0))) (aCons (eTup (aNil)) (aCons (eTup (aCons (eC (.str "none")) (aNil))) (aNil)))))) (aNil)))) (aNil))))) (aCons (eTup (aCons (eVar 2) (aCons (eVar 4) (aCons (eVar 3) (aCons (eC (.int 0)) (aNil)))))) (aNil)))))) (setD 5)) (sRet (eUser 2 (m__law_some) (cR 0 (cD (eVar 5) (cNil)))))))
theorem q__law_odd_computad : ∃ F : Fn, F = mkFn 6 S__law_odd_computad := ⟨_, rfl⟩
noncomputable def m__law_odd_computad : Fn := Classical.choose q__law_odd_computad
theorem m__law_odd_computad_eq : m__law_odd_computad = mkFn 6 S__law_odd_computad := Classical.choose_spec q__law_odd_computad
theorem fd__law_odd_computad {f : Addr} {fd : FuncData} (T : Facts K mg) (D : FunD K "_law_odd_computad" "_law_odd_computad" (defArgs s__law_odd_computad) (defBody s__law_odd_computad) (defScope s__law_odd_computad) [] [] f fd) (hm : mg "_law_odd_computad" = some (.ref f)) (hb : Binds K fd ["cup", "computad"] []) (c__law_some : Fd P w K mg base 2 "_law_some" 2 (m__law_some)) : Fd P w K mg base 3 "_law_odd_computad" 2 m__law_odd_computad := by
  rw [m__law_odd_computad_eq]
  exact
  fd_of (k := 2) D sc__law_odd_computad hm hb fun cdv hcd A outer s H E hr =>
    sds_cons (sd_asg rfl rfl rfl (ed_var 1) (gd_tup rfl rfl rfl (gds_cons rfl (gd_name 2 sc__law_odd_computad.nd rfl (by first | exact Or.inl rfl | exact Or.inr rfl) (by first | exact .inl rfl | exact .inr rfl)) (gds_cons rfl (gd_name 3 sc__law_odd_computad.nd rfl (by first | exact Or.inl rfl | exact Or.inr rfl) (by first | exact .inl rfl | exact .inr rfl)) (gds_cons rfl (gd_name 4 sc__law_odd_computad.nd rfl (by first | exact Or.inl rfl | exact Or.inr rfl) (by first | exact .inl rfl | exact .inr rfl)) (gds_nil)))))) (sds_cons (sd_set 5 sc__law_odd_computad.nd rfl (by first | exact Or.inl rfl | exact Or.inr rfl) rfl (by first | exact .inl rfl | exact .inr rfl) (ed_lst (ad_cons rfl (ed_non) (ad_cons rfl (ed_tup (ad_nil)) (ad_cons rfl (ed_callT call_list_of opc_list rfl T.b_list PyProof.Rows.boot_list (by decide) (by decide) rfl rfl (ad_cons rfl (ed_var 1) (ad_nil))) (ad_cons rfl (ed_slice (ed_var 1) (od_none) (od_some (ed_int))) (ad_cons rfl (ed_add (ed_var 1) (ed_tup (ad_cons rfl (ed_tup (ad_nil)) (ad_nil)))) (ad_cons rfl (ed_tup (ad_cons rfl (ed_tup (ad_nil)) (ad_cons rfl (ed_var 3) (ad_cons rfl (ed_var 4) (ad_nil))))) (ad_cons rfl (ed_tup (ad_cons rfl (ed_var 2) (ad_cons rfl (ed_var 3) (ad_cons rfl (ed_callT call_list_of opc_list rfl T.b_list PyProof.Rows.boot_list (by decide) (by decide) rfl rfl (ad_cons rfl (ed_var 4) (ad_nil))) (ad_nil))))) (ad_cons rfl (ed_tup (ad_cons rfl (ed_var 2) (ad_cons rfl (ed_var 3) (ad_cons rfl (ed_non) (ad_nil))))) (ad_nil))))))))))) (sds_cons (sd_set 5 sc__law_odd_computad.nd rfl (by first | exact Or.inl rfl | exact Or.inr rfl) rfl (by first | exact .inl rfl | exact .inr rfl) (ed_add (ed_var 5) (ed_lst (ad_cons rfl (ed_tup (ad_cons rfl (ed_add (ed_slice (ed_var 2) (od_none) (od_some (ed_int))) (ed_var 2)) (ad_cons rfl (ed_var 3) (ad_cons rfl (ed_var 4) (ad_nil))))) (ad_cons rfl (ed_tup (ad_cons rfl (ed_var 2) (ad_cons rfl (ed_var 3) (ad_cons rfl (ed_add (ed_var 4) (ed_tup (ad_cons rfl (ed_tup (ad_cons rfl (ed_str) (ad_cons rfl (ed_ix (by intro _ _; rfl) (ed_var 2) (ed_int)) (ad_cons rfl (ed_tup (ad_nil)) (ad_cons rfl (ed_tup (ad_cons rfl (ed_str) (ad_nil))) (ad_nil)))))) (ad_nil)))) (ad_nil))))) (ad_cons rfl (ed_tup (ad_cons rfl (ed_var 2) (ad_cons rfl (ed_var 4) (ad_cons rfl (ed_var 3) (ad_cons rfl (ed_int) (ad_nil)))))) (ad_nil))))))) (sds_one (sd_ret (ed_call c__law_some hr bx_takes rfl (by decide) (by decide) rfl rfl (cd_r 0 rfl (by first | exact Or.inl rfl | exact Or.inr (Or.inl rfl) | exact Or.inr (Or.inr rfl)) (by decide) (by decide) rfl (cd_d rfl (ed_var 5) (cd_nil))))))))
/-! ### _law_told -/
abbrev s__law_told : Stmt := topS 72
theorem sc__law_told : FnScope ["call", "words", "e", "some", "at"] ["call"] (defScope s__law_told) := ⟨rfl, rfl, rfl, by decide +kernel, rfl, by decide +kernel, by decide +kernel⟩
def S__law_told (f : Addr) (Pp : Hp → Prop) (L : R PyData) : SF :=
  sSeq (sAsg (eTup (aCons (eC (.str "computad")) (aCons (eC (.str "path")) (aCons (eC (.str "number")) (aCons (eC (.str "diagram")) (aCons (eC (.str "side")) (aCons (eC (.str "composable")) (aCons (eC (.str "many")) (aCons (eC (.str "value")) (aNil)))))))))) (setD 1)) (sTryE true etbl (eThk 0 f Pp L) [("TooMany", some 2, fun a c => sNever), ("PasteError", some 2, fun a c => sSeq (sAsg (eLst (aCons (eIsx itbl 2 a c "InvalidComputad") (aCons (eIsx itbl 2 a c "InvalidPath") (aCons (eIsx itbl 2 a c "InvalidNumber") (aCons (eIsx itbl 2 a c "InvalidDiagram") (aNil)))))) (setD 3)) (sSeq (sAsg (eOp addD (eVar 3) (eLst (aCons (eIsx itbl 2 a c "InvalidSide") (aCons (eIsx itbl 2 a c "NotComposable") (aCons (eC (.bool false)) (aCons (eNo (eIsx itbl 2 a c "ValueError")) (aNil))))))) (setD 3)) (sRet (eTup (aCons (eC (.str "error")) (aCons (eJoin (eC (.str " ")) (eLc (iR1 (eC (.int 8))) (setD 4) (tOf (eOp ixD (eVar 3) (eVar 4))) (eOp ixD (eVar 1) (eVar 4)) [4])) (aCons (eC (.int 0)) (aNil))))))))])
theorem q__law_told : ∃ F : Addr → (Hp → Prop) → R PyData → R PyData, F = mkTold 5 S__law_told := ⟨_, rfl⟩
noncomputable def m__law_told : Addr → (Hp → Prop) → R PyData → R PyData := Classical.choose q__law_told
theorem m__law_told_eq : m__law_told = mkTold 5 S__law_told := Classical.choose_spec q__law_told
theorem fd__law_told {f : Addr} {fd : FuncData} (T : Facts K mg) (D : FunD K "_law_told" "_law_told" (defArgs s__law_told) (defBody s__law_told) (defScope s__law_told) [] [] f fd) (hm : mg "_law_told" = some (.ref f)) (hb : Binds K fd ["call"] []) (k : Nat) : Told P w K mg base (k + 1) "_law_told" m__law_told := by
  rw [m__law_told_eq]
  exact told_of (k := k + 1) D sc__law_told hm hb rfl (by first | exact Or.inl rfl | exact Or.inr (Or.inl rfl)) (by decide) (by decide) fun cdv f Pp L A outer s H hr hth =>
    sds_cons (sd_set 1 sc__law_told.nd rfl (by first | exact Or.inl rfl | exact Or.inr rfl) rfl (by first | exact .inl rfl | exact .inr rfl) (ed_tup (ad_cons rfl (ed_str) (ad_cons rfl (ed_str) (ad_cons rfl (ed_str) (ad_cons rfl (ed_str) (ad_cons rfl (ed_str) (ad_cons rfl (ed_str) (ad_cons rfl (ed_str) (ad_cons rfl (ed_str) (ad_nil))))))))))) (sds_one (sd_tryE (ret := true) sc__law_told.nd rfl rfl takes0 T.exm .ret (fun U pn xe tk => hth U pn xe _ _ tk) (fun z => nomatch z) (cld_as 2 T.v_TooMany.choose_spec rfl (fun a oe cls d pn c z f xa => sds_never) (cld_as 2 T.v_PasteError.choose_spec rfl (fun a oe cls d pn c z f xa => sds_cons (sd_set 3 sc__law_told.nd rfl (by first | exact Or.inl rfl | exact Or.inr rfl) rfl (by first | exact .inl rfl | exact .inr rfl) (ed_lst (ad_cons rfl (ed_isx 2 T.isx z f xa rfl T.b_isinstance rfl (hy := T.v_InvalidComputad)) (ad_cons rfl (ed_isx 2 T.isx z f xa rfl T.b_isinstance rfl (hy := T.v_InvalidPath)) (ad_cons rfl (ed_isx 2 T.isx z f xa rfl T.b_isinstance rfl (hy := T.v_InvalidNumber)) (ad_cons rfl (ed_isx 2 T.isx z f xa rfl T.b_isinstance rfl (hy := T.v_InvalidDiagram)) (ad_nil))))))) (sds_cons (sd_set 3 sc__law_told.nd rfl (by first | exact Or.inl rfl | exact Or.inr rfl) rfl (by first | exact .inl rfl | exact .inr rfl) (ed_add (ed_var 3) (ed_lst (ad_cons rfl (ed_isx 2 T.isx z f xa rfl T.b_isinstance rfl (hy := T.v_InvalidSide)) (ad_cons rfl (ed_isx 2 T.isx z f xa rfl T.b_isinstance rfl (hy := T.v_NotComposable)) (ad_cons rfl (ed_bl) (ad_cons rfl (ed_not (ed_isx 2 T.isx z f xa rfl T.b_isinstance rfl (hy := T.v_ValueError))) (ad_nil)))))))) (sds_one (sd_ret (ed_tup (ad_cons rfl (ed_str) (ad_cons rfl (ed_join rfl rfl rfl (ed_str) (ed_lcH (own := [("at", 4)]) (hot_of z f) rfl rfl sc__law_told.nd (blkOk_by (by kernel_rfl)) (by decide) rfl T.b_range (ed_int) (fun _ _ _ _ _ => gd_name 4 sc__law_told.nd rfl (by first | exact Or.inl rfl | exact Or.inr rfl) (by first | exact .inl rfl | exact .inr rfl)) (fun _ _ _ _ _ => tsd_one (td_val (by intro _; rfl) (ed_ix (by intro _ _; rfl) (ed_var 3) (ed_var 4)))) (fun _ _ _ _ _ => ed_ix (by intro _ _; rfl) (ed_var 1) (ed_var 4)))) (ad_cons rfl (ed_int) (ad_nil))))))))) .nil))))
/-! ### law -/
abbrev s_law : Stmt := topS 73
theorem sc_law : FnScope ["script", "cup", "computad", "diagram", "path", "layers", "paths", "many", "parts", "more", "lone", "some", "turn", "one", "other", "due", "number", "bad", "odd", "told"] ["script"] (defScope s_law) := ⟨rfl, rfl, rfl, by decide +kernel, rfl, by decide +kernel, by decide +kernel⟩
def S_law : SF :=
  sSeq (sNew 1 (nUser 1 (m__law_cup) (cR 0 (cNil)))) (sSeq (sAsg (eUser 1 (m__law_case) (cR 1 (cNil))) (gTupD 2 (gsCons (setD 2) (gsCons (setD 3) (gsNil))))) (sSeq (sAsg (eVar 3) (gTupD 2 (gsCons (setD 4) (gsCons (setD 5) (gsNil))))) (sSeq (sAsg (eUser 2 (m__law_paths) (cD (eVar 2) (cD (eVar 3) (cNil)))) (setD 6)) (sSeq (sFor (iR1 (eOp addD (eCall lenD (aCons (eVar 5) (aNil))) (eC (.int 1)))) (setD 7) (sSeq (sAsg (eTup (aCons (eTup (aCons (eVar 4) (aCons (eSl (eVar 5) (oNo) (oSome (eVar 7))) (aNil)))) (aCons (eTup (aCons (eOp ixD (eVar 6) (eVar 7)) (aCons (eSl (eVar 5) (oSome (eVar 7)) (oNo)) (aNil)))) (aNil)))) (setD 8)) (sIf (tOr' (tNo (tOf (eUser 2 (m__law_like 8) (cD (eUser 3 (m_split_at) (cD (eVar 2) (cD (eVar 3) (cD (eVar 7) (cNil))))) (cD (eVar 8) (cNil)))))) (tNo (tOf (eUser 2 (m__law_like 8) (cD (eUser 3 (m_vertical) (cD (eVar 2) (cD (eOp ixD (eVar 8) (eC (.int 0))) (cD (eOp ixD (eVar 8) (eC (.int 1))) (cNil))))) (cD (eVar 3) (cNil))))))) (sRet (eC (.bool false))) (sNx)))) (sSeq (sAsg (eTup (aCons (eOp ixD (eVar 6) (eUn negD (eC (.int 1)))) (aCons (eUser 4 (m__law_continued) (cR 1 (cD (eVar 2) (cD (eOp ixD (eVar 6) (eUn negD (eC (.int 1)))) (cD (eUser 2 (m__law_some) (cR 1 (cD (eLst (aCons (eC (.int 1)) (aCons (eC (.int 3)) (aCons (eC (.int 8)) (aNil))))) (cNil)))) (cNil)))))) (aNil)))) (setD 9)) (sSeq (sIf (tNo (tOf (eUser 2 (m__law_like 8) (cD (eUser 3 (m_vertical) (cD (eVar 2) (cD (eVar 3) (cD (eVar 9) (cNil))))) (cD (eTup (aCons (eVar 4) (aCons (eOp addD (eVar 5) (eOp ixD (eVar 9) (eC (.int 1)))) (aNil)))) (cNil)))))) (sRet (eC (.bool false))) (sNx)) (sSeq (sAsg (eTup (aCons (eUser 2 (m__law_some) (cR 1 (cD (eOp ixD (eVar 2) (eC (.int 0))) (cNil)))) (aCons (eTup (aNil)) (aNil)))) (setD 10)) (sSeq (sAsg (eLst (aCons (eVar 3) (aCons (eVar 9) (aCons (eUser 4 (m__law_diagram) (cR 1 (cD (eVar 2) (cD (eC (.int 4)) (cD (eC (.int 4)) (cNil)))))) (aCons (eTup (aCons (eVar 10) (aCons (eTup (aNil)) (aNil)))) (aCons (eTup (aCons (eVar 10) (aCons (eUser 4 (m__law_continued) (cR 1 (cD (eVar 2) (cD (eVar 10) (cD (eC (.int 3)) (cNil)))))) (aNil)))) (aCons (eTup (aCons (eOp addD (eSl (eOp ixD (eVar 6) (eUn negD (eC (.int 1)))) (oNo) (oSome (eC (.int 1)))) (eTup (aCons (eTup (aNil)) (aNil)))) (aCons (eTup (aNil)) (aNil)))) (aNil)))))))) (setD 11)) (sSeq (sFor (iR1 (eC (.int 6))) (setD 12) (sSeq (sAsg (eTup (aCons (eUser 2 (m__law_some) (cR 1 (cD (eVar 11) (cNil)))) (aCons (eUser 2 (m__law_some) (cR 1 (cD (eVar 11) (cNil)))) (aNil)))) (gTupD 2 (gsCons (setD 13) (gsCons (setD 14) (gsNil))))) (sSeq (sAsg (eIf (tBo (eOp eqD (eOp ixD (eUser 2 (m__law_paths) (cD (eVar 2) (cD (eVar 13) (cNil)))) (eUn negD (eC (.int 1)))) (eOp ixD (eVar 14) (eC (.int 0))))) (eTup (aCons (eOp ixD (eVar 13) (eC (.int 0))) (aCons (eOp addD (eOp ixD (eVar 13) (eC (.int 1))) (eOp ixD (eVar 14) (eC (.int 1)))) (aNil)))) (eTup (aCons (eC (.str "error")) (aCons (eC (.str "composable")) (aCons (eC (.int 0)) (aNil)))))) (setD 15)) (sIf (tNo (tOf (eUser 2 (m__law_like 8) (cD (eLam m__law_told (eUser 3 (m_vertical) (cD (eVar 2) (cD (eVar 13) (cD (eVar 14) (cNil)))))) (cD (eVar 15) (cNil)))))) (sRet (eC (.bool false))) (sNx))))) (sSeq (sAsg (eUser 2 (m__law_some) (cR 1 (cD (eLst (aCons (eUn negD (eC (.int 1))) (aCons (eOp addD (eCall lenD (aCons (eVar 5) (aNil))) (eC (.int 1))) (aCons (eOp addD (eCall lenD (aCons (eVar 5) (aNil))) (eC (.int 400))) (aCons (eC .none) (aCons (eC (.bool true)) (aCons (eC (.bool false)) (aCons (eCall strD (aCons (eCall lenD (aCons (eVar 5) (aNil))) (aNil))) (aCons (eTup (aCons (eC (.int 0)) (aNil))) (aCons (eUn negD (eOp powD (eC (.int 10)) (eC (.int 30)))) (aNil))))))))))) (cNil)))) (setD 16)) (sSeq (sIf (tNo (tOf (eUser 2 (m__law_like 8) (cD (eLam m__law_told (eUser 3 (m_split_at) (cD (eVar 2) (cD (eVar 3) (cD (eVar 16) (cNil)))))) (cD (eTup (aCons (eC (.str "error")) (aCons (eC (.str "number")) (aCons (eC (.int 0)) (aNil))))) (cNil)))))) (sRet (eC (.bool false))) (sNx)) (sSeq (sAsg (eTup (aCons (eUser 1 (m__law_odd) (cR 1 (cNil))) (aCons (eUser 2 (m__law_odd_computad) (cR 1 (cD (eVar 2) (cNil)))) (aNil)))) (gTupD 2 (gsCons (setD 17) (gsCons (setD 18) (gsNil))))) (sSeq (sNew 19 (nLst (aCons (eLam m__law_told (eUser 3 (m_vertical) (cD (eVar 18) (cD (eVar 17) (cD (eVar 17) (cNil)))))) (aNil)))) (sSeq (sApp 19 (eLam m__law_told (eUser 3 (m_split_at) (cD (eVar 18) (cD (eVar 17) (cD (eUn negD (eC (.int 1))) (cNil))))))) (sSeq (sAsg (eOp addD (eOp mulD (eLst (aCons (eTup (aCons (eC (.str "error")) (aCons (eC (.str "computad")) (aCons (eC (.int 0)) (aNil))))) (aNil))) (eC (.int 2))) (eOp mulD (eLst (aCons (eTup (aCons (eC (.str "error")) (aCons (eC (.str "diagram")) (aCons (eC (.int 0)) (aNil))))) (aNil))) (eC (.int 4)))) (setD 15)) (sSeq (sApp 19 (eLam m__law_told (eUser 3 (m_vertical) (cD (eVar 2) (cD (eVar 17) (cD (eVar 9) (cNil))))))) (sSeq (sApp 19 (eLam m__law_told (eUser 3 (m_vertical) (cD (eVar 2) (cD (eVar 3) (cD (eVar 17) (cNil))))))) (sSeq (sApp 19 (eLam m__law_told (eUser 3 (m_vertical) (cD (eVar 2) (cD (eVar 9) (cD (eVar 17) (cNil))))))) (sSeq (sApp 19 (eLam m__law_told (eUser 3 (m_split_at) (cD (eVar 2) (cD (eVar 17) (cD (eUn negD (eC (.int 1))) (cNil))))))) (sRet (eLoan 19 (eUser 2 (m__law_like 8) (cD (eVar 19) (cD (eVar 15) (cNil)))))))))))))))))))))))))
def m_law : Fn := mkFn 20 S_law
theorem fd_law {f : Addr} {fd : FuncData} (T : Facts K mg) (D : FunD K "law" "law" (defArgs s_law) (defBody s_law) (defScope s_law) [] [] f fd) (hmk : MkF K mg base "law") (hfa : f = He.fAd K ("law", none)) (c__law_cup : FdN P w K mg base 1 "_law_cup" 1 (m__law_cup)) (c__law_case : Fd P w K mg base 7 "_law_case" 1 (m__law_case)) (c__law_paths : Fd P w K mg base 2 "_law_paths" 2 (m__law_paths)) (c__law_like : Fd P w K mg base 9 "_law_like" 2 (m__law_like 8)) (c_split_at : Fd P w K mg base 8 "split_at" 3 (m_split_at)) (c_vertical : Fd P w K mg base 8 "vertical" 3 (m_vertical)) (c__law_continued : Fd P w K mg base 3 "_law_continued" 4 (m__law_continued)) (c__law_some : Fd P w K mg base 2 "_law_some" 2 (m__law_some)) (c__law_diagram : Fd P w K mg base 5 "_law_diagram" 4 (m__law_diagram)) (c__law_told : ∀ k, Told P w K mg base (k + 1) "_law_told" m__law_told) (c__law_odd : Fd P w K mg base 3 "_law_odd" 1 (m__law_odd)) (c__law_odd_computad : Fd P w K mg base 3 "_law_odd_computad" 2 (m__law_odd_computad)) : FnOk P w K mg base (L2N.CX P w) 11 f fd ["script"] (spF mg K 1 m_law) :=
  fnok_of (k := 10) D sc_law fun cdv hcd A outer s H E hr =>
    sds_cons (sd_new 1 sc_law.nd (by decide) rfl (by first | exact Or.inl rfl | exact Or.inr rfl) rfl (by first | exact .inl rfl | exact .inr rfl) (nd_call c__law_cup hr bx_takes rfl (by decide) (by decide) rfl rfl (cd_r 0 rfl (by first | exact Or.inl rfl | exact Or.inr (Or.inl rfl) | exact Or.inr (Or.inr rfl)) (by decide) (by decide) rfl (cd_nil)))) (sds_cons (sd_asg rfl rfl rfl (ed_call c__law_case hr bx_takes rfl (by decide) (by decide) rfl rfl (cd_r 1 rfl (by first | exact Or.inl rfl | exact Or.inr (Or.inl rfl) | exact Or.inr (Or.inr rfl)) (by decide) (by decide) rfl (cd_nil))) (gd_tup rfl rfl rfl (gds_cons rfl (gd_name 2 sc_law.nd rfl (by first | exact Or.inl rfl | exact Or.inr rfl) (by first | exact .inl rfl | exact .inr rfl)) (gds_cons rfl (gd_name 3 sc_law.nd rfl (by first | exact Or.inl rfl | exact Or.inr rfl) (by first | exact .inl rfl | exact .inr rfl)) (gds_nil))))) (sds_cons (sd_asg rfl rfl rfl (ed_var 3) (gd_tup rfl rfl rfl (gds_cons rfl (gd_name 4 sc_law.nd rfl (by first | exact Or.inl rfl | exact Or.inr rfl) (by first | exact .inl rfl | exact .inr rfl)) (gds_cons rfl (gd_name 5 sc_law.nd rfl (by first | exact Or.inl rfl | exact Or.inr rfl) (by first | exact .inl rfl | exact .inr rfl)) (gds_nil))))) (sds_cons (sd_set 6 sc_law.nd rfl (by first | exact Or.inl rfl | exact Or.inr rfl) rfl (by first | exact .inl rfl | exact .inr rfl) (ed_call c__law_paths hr bx_takes rfl (by decide) (by decide) rfl rfl (cd_d rfl (ed_var 2) (cd_d rfl (ed_var 3) (cd_nil))))) (sds_cons (sd_for bx_passes rfl (by intro _; rfl) (id_r1 rfl T.b_range rfl (ed_add (ed_callB call_len opc_len rfl T.b_len PySem.boot_len (by decide) (by decide) rfl rfl (ad_cons rfl (ed_var 5) (ad_nil))) (ed_int))) (gd_name 7 sc_law.nd rfl (by first | exact Or.inl rfl | exact Or.inr rfl) (by first | exact .inl rfl | exact .inr rfl)) (sds_cons (sd_set 8 sc_law.nd rfl (by first | exact Or.inl rfl | exact Or.inr rfl) rfl (by first | exact .inl rfl | exact .inr rfl) (ed_tup (ad_cons rfl (ed_tup (ad_cons rfl (ed_var 4) (ad_cons rfl (ed_slice (ed_var 5) (od_none) (od_some (ed_var 7))) (ad_nil)))) (ad_cons rfl (ed_tup (ad_cons rfl (ed_ix (by intro _ _; rfl) (ed_var 6) (ed_var 7)) (ad_cons rfl (ed_slice (ed_var 5) (od_some (ed_var 7)) (od_none)) (ad_nil)))) (ad_nil))))) (sds_one (sd_if (td_bo (wd_or (td_not (td_val (by intro _; rfl) (ed_call c__law_like hr bx_takes rfl (by decide) (by decide) rfl rfl (cd_d rfl (ed_call c_split_at hr bx_takes rfl (by decide) (by decide) rfl rfl (cd_d rfl (ed_var 2) (cd_d rfl (ed_var 3) (cd_d rfl (ed_var 7) (cd_nil))))) (cd_d rfl (ed_var 8) (cd_nil)))))) (wd_or1 (td_not (td_val (by intro _; rfl) (ed_call c__law_like hr bx_takes rfl (by decide) (by decide) rfl rfl (cd_d rfl (ed_call c_vertical hr bx_takes rfl (by decide) (by decide) rfl rfl (cd_d rfl (ed_var 2) (cd_d rfl (ed_ix (by intro _ _; rfl) (ed_var 8) (ed_int)) (cd_d rfl (ed_ix (by intro _ _; rfl) (ed_var 8) (ed_int)) (cd_nil))))) (cd_d rfl (ed_var 3) (cd_nil))))))))) (sds_one (sd_ret (ed_bl))) (sds_nil))))) (sds_cons (sd_set 9 sc_law.nd rfl (by first | exact Or.inl rfl | exact Or.inr rfl) rfl (by first | exact .inl rfl | exact .inr rfl) (ed_tup (ad_cons rfl (ed_ix (by intro _ _; rfl) (ed_var 6) (ed_neg (ed_int))) (ad_cons rfl (ed_call c__law_continued hr bx_takes rfl (by decide) (by decide) rfl rfl (cd_r 1 rfl (by first | exact Or.inl rfl | exact Or.inr (Or.inl rfl) | exact Or.inr (Or.inr rfl)) (by decide) (by decide) rfl (cd_d rfl (ed_var 2) (cd_d rfl (ed_ix (by intro _ _; rfl) (ed_var 6) (ed_neg (ed_int))) (cd_d rfl (ed_call c__law_some hr bx_takes rfl (by decide) (by decide) rfl rfl (cd_r 1 rfl (by first | exact Or.inl rfl | exact Or.inr (Or.inl rfl) | exact Or.inr (Or.inr rfl)) (by decide) (by decide) rfl (cd_d rfl (ed_lst (ad_cons rfl (ed_int) (ad_cons rfl (ed_int) (ad_cons rfl (ed_int) (ad_nil))))) (cd_nil)))) (cd_nil)))))) (ad_nil))))) (sds_cons (sd_if (td_not (td_val (by intro _; rfl) (ed_call c__law_like hr bx_takes rfl (by decide) (by decide) rfl rfl (cd_d rfl (ed_call c_vertical hr bx_takes rfl (by decide) (by decide) rfl rfl (cd_d rfl (ed_var 2) (cd_d rfl (ed_var 3) (cd_d rfl (ed_var 9) (cd_nil))))) (cd_d rfl (ed_tup (ad_cons rfl (ed_var 4) (ad_cons rfl (ed_add (ed_var 5) (ed_ix (by intro _ _; rfl) (ed_var 9) (ed_int))) (ad_nil)))) (cd_nil)))))) (sds_one (sd_ret (ed_bl))) (sds_nil)) (sds_cons (sd_set 10 sc_law.nd rfl (by first | exact Or.inl rfl | exact Or.inr rfl) rfl (by first | exact .inl rfl | exact .inr rfl) (ed_tup (ad_cons rfl (ed_call c__law_some hr bx_takes rfl (by decide) (by decide) rfl rfl (cd_r 1 rfl (by first | exact Or.inl rfl | exact Or.inr (Or.inl rfl) | exact Or.inr (Or.inr rfl)) (by decide) (by decide) rfl (cd_d rfl (ed_ix (by intro _ _; rfl) (ed_var 2) (ed_int)) (cd_nil)))) (ad_cons rfl (ed_tup (ad_nil)) (ad_nil))))) (sds_cons (sd_set 11 sc_law.nd rfl (by first | exact Or.inl rfl | exact Or.inr rfl) rfl (by first | exact .inl rfl | exact .inr rfl) (ed_lst (ad_cons rfl (ed_var 3) (ad_cons rfl (ed_var 9) (ad_cons rfl (ed_call c__law_diagram hr bx_takes rfl (by decide) (by decide) rfl rfl (cd_r 1 rfl (by first | exact Or.inl rfl | exact Or.inr (Or.inl rfl) | exact Or.inr (Or.inr rfl)) (by decide) (by decide) rfl (cd_d rfl (ed_var 2) (cd_d rfl (ed_int) (cd_d rfl (ed_int) (cd_nil)))))) (ad_cons rfl (ed_tup (ad_cons rfl (ed_var 10) (ad_cons rfl (ed_tup (ad_nil)) (ad_nil)))) (ad_cons rfl (ed_tup (ad_cons rfl (ed_var 10) (ad_cons rfl (ed_call c__law_continued hr bx_takes rfl (by decide) (by decide) rfl rfl (cd_r 1 rfl (by first | exact Or.inl rfl | exact Or.inr (Or.inl rfl) | exact Or.inr (Or.inr rfl)) (by decide) (by decide) rfl (cd_d rfl (ed_var 2) (cd_d rfl (ed_var 10) (cd_d rfl (ed_int) (cd_nil)))))) (ad_nil)))) (ad_cons rfl (ed_tup (ad_cons rfl (ed_add (ed_slice (ed_ix (by intro _ _; rfl) (ed_var 6) (ed_neg (ed_int))) (od_none) (od_some (ed_int))) (ed_tup (ad_cons rfl (ed_tup (ad_nil)) (ad_nil)))) (ad_cons rfl (ed_tup (ad_nil)) (ad_nil)))) (ad_nil))))))))) (sds_cons (sd_for bx_passes rfl (by intro _; rfl) (id_r1 rfl T.b_range rfl (ed_int)) (gd_name 12 sc_law.nd rfl (by first | exact Or.inl rfl | exact Or.inr rfl) (by first | exact .inl rfl | exact .inr rfl)) (sds_cons (sd_asg rfl rfl rfl (ed_tup (ad_cons rfl (ed_call c__law_some hr bx_takes rfl (by decide) (by decide) rfl rfl (cd_r 1 rfl (by first | exact Or.inl rfl | exact Or.inr (Or.inl rfl) | exact Or.inr (Or.inr rfl)) (by decide) (by decide) rfl (cd_d rfl (ed_var 11) (cd_nil)))) (ad_cons rfl (ed_call c__law_some hr bx_takes rfl (by decide) (by decide) rfl rfl (cd_r 1 rfl (by first | exact Or.inl rfl | exact Or.inr (Or.inl rfl) | exact Or.inr (Or.inr rfl)) (by decide) (by decide) rfl (cd_d rfl (ed_var 11) (cd_nil)))) (ad_nil)))) (gd_tup rfl rfl rfl (gds_cons rfl (gd_name 13 sc_law.nd rfl (by first | exact Or.inl rfl | exact Or.inr rfl) (by first | exact .inl rfl | exact .inr rfl)) (gds_cons rfl (gd_name 14 sc_law.nd rfl (by first | exact Or.inl rfl | exact Or.inr rfl) (by first | exact .inl rfl | exact .inr rfl)) (gds_nil))))) (sds_cons (sd_set 15 sc_law.nd rfl (by first | exact Or.inl rfl | exact Or.inr rfl) rfl (by first | exact .inl rfl | exact .inr rfl) (ed_if (td_eq (hu64 hr) (ed_ix (by intro _ _; rfl) (ed_call c__law_paths hr bx_takes rfl (by decide) (by decide) rfl rfl (cd_d rfl (ed_var 2) (cd_d rfl (ed_var 13) (cd_nil)))) (ed_neg (ed_int))) (ed_ix (by intro _ _; rfl) (ed_var 14) (ed_int))) (ed_tup (ad_cons rfl (ed_ix (by intro _ _; rfl) (ed_var 13) (ed_int)) (ad_cons rfl (ed_add (ed_ix (by intro _ _; rfl) (ed_var 13) (ed_int)) (ed_ix (by intro _ _; rfl) (ed_var 14) (ed_int))) (ad_nil)))) (ed_tup (ad_cons rfl (ed_str) (ad_cons rfl (ed_str) (ad_cons rfl (ed_int) (ad_nil))))))) (sds_one (sd_if (td_not (td_val (by intro _; rfl) (ed_call c__law_like hr bx_takes rfl (by decide) (by decide) rfl rfl (cd_d rfl (ed_lam (k := 8) (c__law_told 8) rfl (MkF.mk_ hmk rfl rfl hfa hcd) (hr.mono (by decide)) (LamX.lamS_by (by kernel_rfl)) rfl (by intros; rfl) (fun A outer s H E f c' hr => ed_call c_vertical hr lam_takes rfl (by decide) (by decide) rfl rfl (cd_d rfl (ed_var 2) (cd_d rfl (ed_var 13) (cd_d rfl (ed_var 14) (cd_nil)))))) (cd_d rfl (ed_var 15) (cd_nil)))))) (sds_one (sd_ret (ed_bl))) (sds_nil)))))) (sds_cons (sd_set 16 sc_law.nd rfl (by first | exact Or.inl rfl | exact Or.inr rfl) rfl (by first | exact .inl rfl | exact .inr rfl) (ed_call c__law_some hr bx_takes rfl (by decide) (by decide) rfl rfl (cd_r 1 rfl (by first | exact Or.inl rfl | exact Or.inr (Or.inl rfl) | exact Or.inr (Or.inr rfl)) (by decide) (by decide) rfl (cd_d rfl (ed_lst (ad_cons rfl (ed_neg (ed_int)) (ad_cons rfl (ed_add (ed_callB call_len opc_len rfl T.b_len PySem.boot_len (by decide) (by decide) rfl rfl (ad_cons rfl (ed_var 5) (ad_nil))) (ed_int)) (ad_cons rfl (ed_add (ed_callB call_len opc_len rfl T.b_len PySem.boot_len (by decide) (by decide) rfl rfl (ad_cons rfl (ed_var 5) (ad_nil))) (ed_int)) (ad_cons rfl (ed_non) (ad_cons rfl (ed_bl) (ad_cons rfl (ed_bl) (ad_cons rfl (ed_callT call_str_int opc_str rfl T.b_str (by decide +kernel) (by decide) (by decide) rfl rfl (ad_cons rfl (ed_callB call_len opc_len rfl T.b_len PySem.boot_len (by decide) (by decide) rfl rfl (ad_cons rfl (ed_var 5) (ad_nil))) (ad_nil))) (ad_cons rfl (ed_tup (ad_cons rfl (ed_int) (ad_nil))) (ad_cons rfl (ed_neg (ed_pow (ed_int) (ed_int))) (ad_nil))))))))))) (cd_nil))))) (sds_cons (sd_if (td_not (td_val (by intro _; rfl) (ed_call c__law_like hr bx_takes rfl (by decide) (by decide) rfl rfl (cd_d rfl (ed_lam (k := 8) (c__law_told 8) rfl (MkF.mk_ hmk rfl rfl hfa hcd) (hr.mono (by decide)) (LamX.lamS_by (by kernel_rfl)) rfl (by intros; rfl) (fun A outer s H E f c' hr => ed_call c_split_at hr lam_takes rfl (by decide) (by decide) rfl rfl (cd_d rfl (ed_var 2) (cd_d rfl (ed_var 3) (cd_d rfl (ed_var 16) (cd_nil)))))) (cd_d rfl (ed_tup (ad_cons rfl (ed_str) (ad_cons rfl (ed_str) (ad_cons rfl (ed_int) (ad_nil))))) (cd_nil)))))) (sds_one (sd_ret (ed_bl))) (sds_nil)) (sds_cons (sd_asg rfl rfl rfl (ed_tup (ad_cons rfl (ed_call c__law_odd hr bx_takes rfl (by decide) (by decide) rfl rfl (cd_r 1 rfl (by first | exact Or.inl rfl | exact Or.inr (Or.inl rfl) | exact Or.inr (Or.inr rfl)) (by decide) (by decide) rfl (cd_nil))) (ad_cons rfl (ed_call c__law_odd_computad hr bx_takes rfl (by decide) (by decide) rfl rfl (cd_r 1 rfl (by first | exact Or.inl rfl | exact Or.inr (Or.inl rfl) | exact Or.inr (Or.inr rfl)) (by decide) (by decide) rfl (cd_d rfl (ed_var 2) (cd_nil)))) (ad_nil)))) (gd_tup rfl rfl rfl (gds_cons rfl (gd_name 17 sc_law.nd rfl (by first | exact Or.inl rfl | exact Or.inr rfl) (by first | exact .inl rfl | exact .inr rfl)) (gds_cons rfl (gd_name 18 sc_law.nd rfl (by first | exact Or.inl rfl | exact Or.inr rfl) (by first | exact .inl rfl | exact .inr rfl)) (gds_nil))))) (sds_cons (sd_new 19 sc_law.nd (by decide) rfl (by first | exact Or.inl rfl | exact Or.inr rfl) rfl (by first | exact .inl rfl | exact .inr rfl) (nd_lst (ad_cons rfl (ed_lam (k := 8) (c__law_told 8) rfl (MkF.mk_ hmk rfl rfl hfa hcd) (hr.mono (by decide)) (LamX.lamS_by (by kernel_rfl)) rfl (by intros; rfl) (fun A outer s H E f c' hr => ed_call c_vertical hr lam_takes rfl (by decide) (by decide) rfl rfl (cd_d rfl (ed_var 18) (cd_d rfl (ed_var 17) (cd_d rfl (ed_var 17) (cd_nil)))))) (ad_nil)))) (sds_cons (sd_app 19 rfl (by first | exact Or.inl rfl | exact Or.inr (Or.inl rfl) | exact Or.inr (Or.inr rfl)) (by decide) (by decide) rfl rfl rfl rfl rfl rfl (ed_lam (k := 8) (c__law_told 8) rfl (MkF.mk_ hmk rfl rfl hfa hcd) (hr.mono (by decide)) (LamX.lamS_by (by kernel_rfl)) rfl (by intros; rfl) (fun A outer s H E f c' hr => ed_call c_split_at hr lam_takes rfl (by decide) (by decide) rfl rfl (cd_d rfl (ed_var 18) (cd_d rfl (ed_var 17) (cd_d rfl (ed_neg (ed_int)) (cd_nil))))))) (sds_cons (sd_set 15 sc_law.nd rfl (by first | exact Or.inl rfl | exact Or.inr rfl) rfl (by first | exact .inl rfl | exact .inr rfl) (ed_add (ed_mul (ed_lst (ad_cons rfl (ed_tup (ad_cons rfl (ed_str) (ad_cons rfl (ed_str) (ad_cons rfl (ed_int) (ad_nil))))) (ad_nil))) (ed_int)) (ed_mul (ed_lst (ad_cons rfl (ed_tup (ad_cons rfl (ed_str) (ad_cons rfl (ed_str) (ad_cons rfl (ed_int) (ad_nil))))) (ad_nil))) (ed_int)))) (sds_cons (sd_app 19 rfl (by first | exact Or.inl rfl | exact Or.inr (Or.inl rfl) | exact Or.inr (Or.inr rfl)) (by decide) (by decide) rfl rfl rfl rfl rfl rfl (ed_lam (k := 8) (c__law_told 8) rfl (MkF.mk_ hmk rfl rfl hfa hcd) (hr.mono (by decide)) (LamX.lamS_by (by kernel_rfl)) rfl (by intros; rfl) (fun A outer s H E f c' hr => ed_call c_vertical hr lam_takes rfl (by decide) (by decide) rfl rfl (cd_d rfl (ed_var 2) (cd_d rfl (ed_var 17) (cd_d rfl (ed_var 9) (cd_nil))))))) (sds_cons (sd_app 19 rfl (by first | exact Or.inl rfl | exact Or.inr (Or.inl rfl) | exact Or.inr (Or.inr rfl)) (by decide) (by decide) rfl rfl rfl rfl rfl rfl (ed_lam (k := 8) (c__law_told 8) rfl (MkF.mk_ hmk rfl rfl hfa hcd) (hr.mono (by decide)) (LamX.lamS_by (by kernel_rfl)) rfl (by intros; rfl) (fun A outer s H E f c' hr => ed_call c_vertical hr lam_takes rfl (by decide) (by decide) rfl rfl (cd_d rfl (ed_var 2) (cd_d rfl (ed_var 3) (cd_d rfl (ed_var 17) (cd_nil))))))) (sds_cons (sd_app 19 rfl (by first | exact Or.inl rfl | exact Or.inr (Or.inl rfl) | exact Or.inr (Or.inr rfl)) (by decide) (by decide) rfl rfl rfl rfl rfl rfl (ed_lam (k := 8) (c__law_told 8) rfl (MkF.mk_ hmk rfl rfl hfa hcd) (hr.mono (by decide)) (LamX.lamS_by (by kernel_rfl)) rfl (by intros; rfl) (fun A outer s H E f c' hr => ed_call c_vertical hr lam_takes rfl (by decide) (by decide) rfl rfl (cd_d rfl (ed_var 2) (cd_d rfl (ed_var 9) (cd_d rfl (ed_var 17) (cd_nil))))))) (sds_cons (sd_app 19 rfl (by first | exact Or.inl rfl | exact Or.inr (Or.inl rfl) | exact Or.inr (Or.inr rfl)) (by decide) (by decide) rfl rfl rfl rfl rfl rfl (ed_lam (k := 8) (c__law_told 8) rfl (MkF.mk_ hmk rfl rfl hfa hcd) (hr.mono (by decide)) (LamX.lamS_by (by kernel_rfl)) rfl (by intros; rfl) (fun A outer s H E f c' hr => ed_call c_split_at hr lam_takes rfl (by decide) (by decide) rfl rfl (cd_d rfl (ed_var 2) (cd_d rfl (ed_var 17) (cd_d rfl (ed_neg (ed_int)) (cd_nil))))))) (sds_one (sd_ret (ed_loan 19 (ed_call c__law_like hr bx_takes rfl (by decide) (by decide) rfl rfl (cd_d rfl (ed_var 19) (cd_d rfl (ed_var 15) (cd_nil))))))))))))))))))))))))))
end
/-! ### the head -/
def d_is_whole : He.DefD := ⟨("is_whole", none), "is_whole", "is_whole", defArgs s_is_whole, defBody s_is_whole, defScope s_is_whole, [], []⟩
def d_need_whole : He.DefD := ⟨("need_whole", none), "need_whole", "need_whole", defArgs s_need_whole, defBody s_need_whole, defScope s_need_whole, [], []⟩
def d_is_tuple_of : He.DefD := ⟨("is_tuple_of", none), "is_tuple_of", "is_tuple_of", defArgs s_is_tuple_of, defBody s_is_tuple_of, defScope s_is_tuple_of, [], []⟩
def d_is_name : He.DefD := ⟨("is_name", none), "is_name", "is_name", defArgs s_is_name, defBody s_is_name, defScope s_is_name, [], []⟩
def d_are_ascending : He.DefD := ⟨("are_ascending", none), "are_ascending", "are_ascending", defArgs s_are_ascending, defBody s_are_ascending, defScope s_are_ascending, [], []⟩
def d_row_of : He.DefD := ⟨("row_of", none), "row_of", "row_of", defArgs s_row_of, defBody s_row_of, defScope s_row_of, [], []⟩
def d_chained_points : He.DefD := ⟨("chained_points", none), "chained_points", "chained_points", defArgs s_chained_points, defBody s_chained_points, defScope s_chained_points, [], []⟩
def d_are_points : He.DefD := ⟨("are_points", none), "are_points", "are_points", defArgs s_are_points, defBody s_are_points, defScope s_are_points, [], []⟩
def d_are_arrows : He.DefD := ⟨("are_arrows", none), "are_arrows", "are_arrows", defArgs s_are_arrows, defBody s_are_arrows, defScope s_are_arrows, [], []⟩
def d_is_cell : He.DefD := ⟨("is_cell", none), "is_cell", "is_cell", defArgs s_is_cell, defBody s_is_cell, defScope s_is_cell, [], []⟩
def d_is_computad : He.DefD := ⟨("is_computad", none), "is_computad", "is_computad", defArgs s_is_computad, defBody s_is_computad, defScope s_is_computad, [], []⟩
def d_need_computad : He.DefD := ⟨("need_computad", none), "need_computad", "need_computad", defArgs s_need_computad, defBody s_need_computad, defScope s_need_computad, [], []⟩
def d_is_path_in : He.DefD := ⟨("is_path_in", none), "is_path_in", "is_path_in", defArgs s_is_path_in, defBody s_is_path_in, defScope s_is_path_in, [], []⟩
def d_cell_row : He.DefD := ⟨("cell_row", none), "cell_row", "cell_row", defArgs s_cell_row, defBody s_cell_row, defScope s_cell_row, [], []⟩
def d_point_at : He.DefD := ⟨("point_at", none), "point_at", "point_at", defArgs s_point_at, defBody s_point_at, defScope s_point_at, [], []⟩
def d_applies : He.DefD := ⟨("applies", none), "applies", "applies", defArgs s_applies, defBody s_applies, defScope s_applies, [], []⟩
def d_after_layer : He.DefD := ⟨("after_layer", none), "after_layer", "after_layer", defArgs s_after_layer, defBody s_after_layer, defScope s_after_layer, [], []⟩
def d_sides_of : He.DefD := ⟨("sides_of", none), "sides_of", "sides_of", defArgs s_sides_of, defBody s_sides_of, defScope s_sides_of, [], []⟩
def d_paths_in : He.DefD := ⟨("paths_in", none), "paths_in", "paths_in", defArgs s_paths_in, defBody s_paths_in, defScope s_paths_in, [], []⟩
def d_size_in : He.DefD := ⟨("size_in", none), "size_in", "size_in", defArgs s_size_in, defBody s_size_in, defScope s_size_in, [], []⟩
def d_is_diagram_in : He.DefD := ⟨("is_diagram_in", none), "is_diagram_in", "is_diagram_in", defArgs s_is_diagram_in, defBody s_is_diagram_in, defScope s_is_diagram_in, [], []⟩
def d_is_diagram : He.DefD := ⟨("is_diagram", none), "is_diagram", "is_diagram", defArgs s_is_diagram, defBody s_is_diagram, defScope s_is_diagram, [], []⟩
def d_need_diagram : He.DefD := ⟨("need_diagram", none), "need_diagram", "need_diagram", defArgs s_need_diagram, defBody s_need_diagram, defScope s_need_diagram, [], []⟩
def d_limited : He.DefD := ⟨("limited", none), "limited", "limited", defArgs s_limited, defBody s_limited, defScope s_limited, [], []⟩
def d_vertical : He.DefD := ⟨("vertical", none), "vertical", "vertical", defArgs s_vertical, defBody s_vertical, defScope s_vertical, [], []⟩
def d_split_at : He.DefD := ⟨("split_at", none), "split_at", "split_at", defArgs s_split_at, defBody s_split_at, defScope s_split_at, [], []⟩
def d__law_cup : He.DefD := ⟨("_law_cup", none), "_law_cup", "_law_cup", defArgs s__law_cup, defBody s__law_cup, defScope s__law_cup, [], []⟩
def d__law_roll : He.DefD := ⟨("_law_roll", none), "_law_roll", "_law_roll", defArgs s__law_roll, defBody s__law_roll, defScope s__law_roll, [], []⟩
def d__law_some : He.DefD := ⟨("_law_some", none), "_law_some", "_law_some", defArgs s__law_some, defBody s__law_some, defScope s__law_some, [], []⟩
def d__law_sort : He.DefD := ⟨("_law_sort", none), "_law_sort", "_law_sort", defArgs s__law_sort, defBody s__law_sort, defScope s__law_sort, [], []⟩
def d__law_like : He.DefD := ⟨("_law_like", none), "_law_like", "_law_like", defArgs s__law_like, defBody s__law_like, defScope s__law_like, [], []⟩
def d__law_name : He.DefD := ⟨("_law_name", none), "_law_name", "_law_name", defArgs s__law_name, defBody s__law_name, defScope s__law_name, [], []⟩
def d__law_names : He.DefD := ⟨("_law_names", none), "_law_names", "_law_names", defArgs s__law_names, defBody s__law_names, defScope s__law_names, [], []⟩
def d__law_walk : He.DefD := ⟨("_law_walk", none), "_law_walk", "_law_walk", defArgs s__law_walk, defBody s__law_walk, defScope s__law_walk, [], []⟩
def d__law_along : He.DefD := ⟨("_law_along", none), "_law_along", "_law_along", defArgs s__law_along, defBody s__law_along, defScope s__law_along, [], []⟩
def d__law_cells : He.DefD := ⟨("_law_cells", none), "_law_cells", "_law_cells", defArgs s__law_cells, defBody s__law_cells, defScope s__law_cells, [], []⟩
def d__law_computad : He.DefD := ⟨("_law_computad", none), "_law_computad", "_law_computad", defArgs s__law_computad, defBody s__law_computad, defScope s__law_computad, [], []⟩
def d__law_large : He.DefD := ⟨("_law_large", none), "_law_large", "_law_large", defArgs s__law_large, defBody s__law_large, defScope s__law_large, [], []⟩
def d__law_fitting : He.DefD := ⟨("_law_fitting", none), "_law_fitting", "_law_fitting", defArgs s__law_fitting, defBody s__law_fitting, defScope s__law_fitting, [], []⟩
def d__law_after : He.DefD := ⟨("_law_after", none), "_law_after", "_law_after", defArgs s__law_after, defBody s__law_after, defScope s__law_after, [], []⟩
def d__law_paths : He.DefD := ⟨("_law_paths", none), "_law_paths", "_law_paths", defArgs s__law_paths, defBody s__law_paths, defScope s__law_paths, [], []⟩
def d__law_continued : He.DefD := ⟨("_law_continued", none), "_law_continued", "_law_continued", defArgs s__law_continued, defBody s__law_continued, defScope s__law_continued, [], []⟩
def d__law_path : He.DefD := ⟨("_law_path", none), "_law_path", "_law_path", defArgs s__law_path, defBody s__law_path, defScope s__law_path, [], []⟩
def d__law_diagram : He.DefD := ⟨("_law_diagram", none), "_law_diagram", "_law_diagram", defArgs s__law_diagram, defBody s__law_diagram, defScope s__law_diagram, [], []⟩
def d__law_sides : He.DefD := ⟨("_law_sides", none), "_law_sides", "_law_sides", defArgs s__law_sides, defBody s__law_sides, defScope s__law_sides, [], []⟩
def d__law_case : He.DefD := ⟨("_law_case", none), "_law_case", "_law_case", defArgs s__law_case, defBody s__law_case, defScope s__law_case, [], []⟩
def d__law_end : He.DefD := ⟨("_law_end", none), "_law_end", "_law_end", defArgs s__law_end, defBody s__law_end, defScope s__law_end, [], []⟩
def d__law_odd : He.DefD := ⟨("_law_odd", none), "_law_odd", "_law_odd", defArgs s__law_odd, defBody s__law_odd, defScope s__law_odd, [], []⟩
def d__law_odd_computad : He.DefD := ⟨("_law_odd_computad", none), "_law_odd_computad", "_law_odd_computad", defArgs s__law_odd_computad, defBody s__law_odd_computad, defScope s__law_odd_computad, [], []⟩
def d__law_told : He.DefD := ⟨("_law_told", none), "_law_told", "_law_told", defArgs s__law_told, defBody s__law_told, defScope s__law_told, [], []⟩
def d_law : He.DefD := ⟨("law", none), "law", "law", defArgs s_law, defBody s_law, defScope s_law, [], []⟩
def fn : List He.DefD := [d_is_whole, d_need_whole, d_is_tuple_of, d_is_name, d_are_ascending, d_row_of, d_chained_points, d_are_points, d_are_arrows, d_is_cell, d_is_computad, d_need_computad, d_is_path_in, d_cell_row, d_point_at, d_applies, d_after_layer, d_sides_of, d_paths_in, d_size_in, d_is_diagram_in, d_is_diagram, d_need_diagram, d_limited, d_vertical, d_split_at, d__law_cup, d__law_roll, d__law_some, d__law_sort, d__law_like, d__law_name, d__law_names, d__law_walk, d__law_along, d__law_cells, d__law_computad, d__law_large, d__law_fitting, d__law_after, d__law_paths, d__law_continued, d__law_path, d__law_diagram, d__law_sides, d__law_case, d__law_end, d__law_odd, d__law_odd_computad, d__law_told, d_law]
def fa : List He.Fa := List.append [.glo "is_whole", .glo "need_whole", .glo "is_tuple_of", .glo "is_name", .glo "are_ascending", .glo "row_of", .glo "chained_points", .glo "are_points", .glo "are_arrows", .glo "is_cell", .glo "is_computad", .glo "need_computad", .glo "is_path_in", .glo "cell_row", .glo "point_at", .glo "applies", .glo "after_layer", .glo "sides_of", .glo "paths_in", .glo "size_in", .glo "is_diagram_in", .glo "is_diagram", .glo "need_diagram", .glo "limited", .glo "vertical", .glo "split_at", .glo "_law_cup", .glo "_law_roll", .glo "_law_some", .glo "_law_sort", .glo "_law_like", .glo "_law_name", .glo "_law_names", .glo "_law_walk", .glo "_law_along", .glo "_law_cells", .glo "_law_computad", .glo "_law_large", .glo "_law_fitting", .glo "_law_after", .glo "_law_paths", .glo "_law_continued", .glo "_law_path", .glo "_law_diagram", .glo "_law_sides", .glo "_law_case", .glo "_law_end", .glo "_law_odd", .glo "_law_odd_computad", .glo "_law_told", .glo "law", .free "ValueError", .free "abs", .free "all", .free "bool", .free "dict", .free "int", .free "isinstance", .free "len", .free "list", .free "range", .free "sorted", .free "str", .free "sum", .free "tuple", .free "zip", .int "ARROWS" 20, .int "CELLS" 20, .str "DIGITS" "0123456789", .int "LAYERS" 200, .str "LETTERS" "abcdefghijklmnopqrstuvwxyz", .int "NAME_LENGTH" 12, .int "PATH_LENGTH" 400, .int "POINTS" 12, .int "SIDE_LENGTH" 6, .int "SIZE" 400, .exc "InvalidComputad", .exc "InvalidDiagram", .exc "InvalidNumber", .exc "NotComposable"] (cl.map He.Fa.glo)
abbrev R : PySem.W.OpenRow := PySem.W.OpenLaw.row PySem.Challenge.rw_pastedcells_k13_vertical_pasting_and_spl
def xb (K : Fg) : Bool := exmB K etbl && isxB K itbl && unB K && true
abbrev hk : PySem.W.Hook := He.hookX 4 fa fn [] lamDefs xb
def ob (s : PySem.W.SharedT) : He.AlX := He.obsX 4 fa fn [] lamDefs xb (HandSHeadRun.getT s)
theorem ob_eq (s : PySem.W.SharedT) : ob s = hk.obs s.abs := He.obsX_eq (HandSHeadRun.getT_eq s)
def loose : List Str := List.append (α := Str) (List.append (α := Str) ((["PasteError", "InvalidComputad", "InvalidPath", "InvalidNumber", "InvalidDiagram", "InvalidSide", "NotComposable", "TooMany", "LETTERS", "DIGITS", "NAME_LENGTH", "POINTS", "ARROWS", "CELLS", "SIDE_LENGTH", "PATH_LENGTH", "is_whole", "need_whole", "is_tuple_of", "is_name", "are_ascending", "row_of", "chained_points", "are_points"] : List Str)) (["are_arrows", "is_cell", "is_computad", "need_computad", "is_path_in", "cell_row", "LAYERS", "SIZE", "point_at", "applies", "after_layer", "sides_of", "paths_in", "size_in", "is_diagram_in", "is_diagram", "need_diagram", "limited", "vertical", "split_at", "_law_cup", "_law_roll", "_law_some", "_law_sort"] : List Str)) (["_law_like", "_law_name", "_law_names", "_law_walk", "_law_along", "_law_cells", "_law_computad", "_law_large", "_law_fitting", "_law_after", "_law_paths", "_law_continued", "_law_path", "_law_diagram", "_law_sides", "_law_case", "_law_end", "_law_odd", "_law_odd_computad", "_law_told"] : List Str)
theorem run (w : World) : HandSHeadRun.RunEq R (PySem.W.view R.prog [73]) hk ob 4000 loose w := by
  intro os
  kernel_rfl
theorem facts {P : Program} {w : World} {K : Fg} {h h0 : Heap} {mg : Str → Option Value} {f : Addr} (X : K.In h) (G : h.Ns mainGlobals mg) (hfa : mg ("law" : Str) = some (.ref f)) (c0 : He.SaysX fa fn [] lamDefs xb w h0 K) :
    ∃ fd : FuncData, (∀ (s : Shared) (v : Value), BindsTo s fd ⟨[v], []⟩ [("script", v)]) ∧ ∀ base : Heap, K.In base → base.Ns mainGlobals mg → (∀ p ∈ lamDefs, LamX.TabB base mg (He.cT K p).1 (He.cT K p).2) → FnOk P w K mg base (L2N.CX P w) 11 f fd ["script"] (spF mg K 1 m_law) := by
  have c := c0.t.d
  have cb := c0.more
  simp only [xb, Bool.and_eq_true] at cb
  have hcl : ∀ x ∈ cl, mg x = some (.ref (He.ga K x)) := fun x hx => He.glo_ok X G (c.facts (f := .glo x) (List.mem_append.mpr (.inr (List.mem_map.mpr ⟨x, hx, rfl⟩))))
  have hve : mg "ValueError" = none := He.free_ok X G (c.fact 51 (f := .free "ValueError") rfl)
  have T : Facts K mg := ⟨He.free_ok X G (c.fact 51 (f := .free "ValueError") rfl), He.free_ok X G (c.fact 52 (f := .free "abs") rfl), He.free_ok X G (c.fact 53 (f := .free "all") rfl), He.free_ok X G (c.fact 54 (f := .free "bool") rfl), He.free_ok X G (c.fact 55 (f := .free "dict") rfl), He.free_ok X G (c.fact 56 (f := .free "int") rfl), He.free_ok X G (c.fact 57 (f := .free "isinstance") rfl), He.free_ok X G (c.fact 58 (f := .free "len") rfl), He.free_ok X G (c.fact 59 (f := .free "list") rfl), He.free_ok X G (c.fact 60 (f := .free "range") rfl), He.free_ok X G (c.fact 61 (f := .free "sorted") rfl), He.free_ok X G (c.fact 62 (f := .free "str") rfl), He.free_ok X G (c.fact 63 (f := .free "sum") rfl), He.free_ok X G (c.fact 64 (f := .free "tuple") rfl), He.free_ok X G (c.fact 65 (f := .free "zip") rfl), gc_int (He.int_ok X G (c.fact 66 (f := .int "ARROWS" 20) rfl)), gc_int (He.int_ok X G (c.fact 67 (f := .int "CELLS" 20) rfl)), gc_str (He.str_ok X G (c.fact 68 (f := .str "DIGITS" "0123456789") rfl)) (by decide +kernel), gc_int (He.int_ok X G (c.fact 69 (f := .int "LAYERS" 200) rfl)), gc_str (He.str_ok X G (c.fact 70 (f := .str "LETTERS" "abcdefghijklmnopqrstuvwxyz") rfl)) (by decide +kernel), gc_int (He.int_ok X G (c.fact 71 (f := .int "NAME_LENGTH" 12) rfl)), gc_int (He.int_ok X G (c.fact 72 (f := .int "PATH_LENGTH" 400) rfl)), gc_int (He.int_ok X G (c.fact 73 (f := .int "POINTS" 12) rfl)), gc_int (He.int_ok X G (c.fact 74 (f := .int "SIDE_LENGTH" 6) rfl)), gc_int (He.int_ok X G (c.fact 75 (f := .int "SIZE" 400) rfl)), exf_ok X G (c.facts (f := .glo "InvalidComputad") (List.mem_append.mpr (.inr (List.mem_map.mpr ⟨_, by decide, rfl⟩)))) (c.fact 76 (f := .exc "InvalidComputad") rfl), exf_ok X G (c.facts (f := .glo "InvalidDiagram") (List.mem_append.mpr (.inr (List.mem_map.mpr ⟨_, by decide, rfl⟩)))) (c.fact 77 (f := .exc "InvalidDiagram") rfl), exf_ok X G (c.facts (f := .glo "InvalidNumber") (List.mem_append.mpr (.inr (List.mem_map.mpr ⟨_, by decide, rfl⟩)))) (c.fact 78 (f := .exc "InvalidNumber") rfl), exf_ok X G (c.facts (f := .glo "NotComposable") (List.mem_append.mpr (.inr (List.mem_map.mpr ⟨_, by decide, rfl⟩)))) (c.fact 79 (f := .exc "NotComposable") rfl), cls_ok hcl hve (by decide), cls_ok hcl hve (by decide), cls_ok hcl hve (by decide), cls_ok hcl hve (by decide), cls_ok hcl hve (by decide), cls_ok hcl hve (by decide), cls_ok hcl hve (by decide), cls_ok hcl hve (by decide), cls_ok hcl hve (by decide), exm_ok hcl hve (by decide) cb.1.1.1, isx_ok hcl hve (by decide) cb.1.1.2⟩
  obtain ⟨fd_0, F_0⟩ := c.def_ 0 (d := d_is_whole) rfl
  have g_0 := He.glo_ok X G (c.fact 0 (f := .glo "is_whole") rfl)
  have b_0 := FunD.bindsN (ps := ["value", "low", "high"]) F_0 fun _ _ _ _ _ _ us hl => match us, hl with | [_, _, _], _ => rfl
  obtain ⟨fd_1, F_1⟩ := c.def_ 1 (d := d_need_whole) rfl
  have g_1 := He.glo_ok X G (c.fact 1 (f := .glo "need_whole") rfl)
  have b_1 := FunD.bindsN (ps := ["value", "low", "high"]) F_1 fun _ _ _ _ _ _ us hl => match us, hl with | [_, _, _], _ => rfl
  obtain ⟨fd_2, F_2⟩ := c.def_ 2 (d := d_is_tuple_of) rfl
  have g_2 := He.glo_ok X G (c.fact 2 (f := .glo "is_tuple_of") rfl)
  have b_2 := FunD.bindsN (ps := ["value", "low", "high"]) F_2 fun _ _ _ _ _ _ us hl => match us, hl with | [_, _, _], _ => rfl
  obtain ⟨fd_3, F_3⟩ := c.def_ 3 (d := d_is_name) rfl
  have g_3 := He.glo_ok X G (c.fact 3 (f := .glo "is_name") rfl)
  have b_3 := FunD.bindsN (ps := ["value"]) F_3 fun _ _ _ _ _ _ us hl => match us, hl with | [_], _ => rfl
  obtain ⟨fd_4, F_4⟩ := c.def_ 4 (d := d_are_ascending) rfl
  have g_4 := He.glo_ok X G (c.fact 4 (f := .glo "are_ascending") rfl)
  have b_4 := FunD.bindsN (ps := ["names"]) F_4 fun _ _ _ _ _ _ us hl => match us, hl with | [_], _ => rfl
  obtain ⟨fd_5, F_5⟩ := c.def_ 5 (d := d_row_of) rfl
  have g_5 := He.glo_ok X G (c.fact 5 (f := .glo "row_of") rfl)
  have b_5 := FunD.bindsN (ps := ["rows", "name"]) F_5 fun _ _ _ _ _ _ us hl => match us, hl with | [_, _], _ => rfl
  obtain ⟨fd_6, F_6⟩ := c.def_ 6 (d := d_chained_points) rfl
  have g_6 := He.glo_ok X G (c.fact 6 (f := .glo "chained_points") rfl)
  have b_6 := FunD.bindsN (ps := ["arrows", "point", "names"]) F_6 fun _ _ _ _ _ _ us hl => match us, hl with | [_, _, _], _ => rfl
  obtain ⟨fd_7, F_7⟩ := c.def_ 7 (d := d_are_points) rfl
  have g_7 := He.glo_ok X G (c.fact 7 (f := .glo "are_points") rfl)
  have b_7 := FunD.bindsN (ps := ["value"]) F_7 fun _ _ _ _ _ _ us hl => match us, hl with | [_], _ => rfl
  obtain ⟨fd_8, F_8⟩ := c.def_ 8 (d := d_are_arrows) rfl
  have g_8 := He.glo_ok X G (c.fact 8 (f := .glo "are_arrows") rfl)
  have b_8 := FunD.bindsN (ps := ["points", "value"]) F_8 fun _ _ _ _ _ _ us hl => match us, hl with | [_, _], _ => rfl
  obtain ⟨fd_9, F_9⟩ := c.def_ 9 (d := d_is_cell) rfl
  have g_9 := He.glo_ok X G (c.fact 9 (f := .glo "is_cell") rfl)
  have b_9 := FunD.bindsN (ps := ["points", "arrows", "row"]) F_9 fun _ _ _ _ _ _ us hl => match us, hl with | [_, _, _], _ => rfl
  obtain ⟨fd_10, F_10⟩ := c.def_ 10 (d := d_is_computad) rfl
  have g_10 := He.glo_ok X G (c.fact 10 (f := .glo "is_computad") rfl)
  have b_10 := FunD.bindsN (ps := ["value"]) F_10 fun _ _ _ _ _ _ us hl => match us, hl with | [_], _ => rfl
  obtain ⟨fd_11, F_11⟩ := c.def_ 11 (d := d_need_computad) rfl
  have g_11 := He.glo_ok X G (c.fact 11 (f := .glo "need_computad") rfl)
  have b_11 := FunD.bindsN (ps := ["value"]) F_11 fun _ _ _ _ _ _ us hl => match us, hl with | [_], _ => rfl
  obtain ⟨fd_12, F_12⟩ := c.def_ 12 (d := d_is_path_in) rfl
  have g_12 := He.glo_ok X G (c.fact 12 (f := .glo "is_path_in") rfl)
  have b_12 := FunD.bindsN (ps := ["computad", "value"]) F_12 fun _ _ _ _ _ _ us hl => match us, hl with | [_, _], _ => rfl
  obtain ⟨fd_13, F_13⟩ := c.def_ 13 (d := d_cell_row) rfl
  have g_13 := He.glo_ok X G (c.fact 13 (f := .glo "cell_row") rfl)
  have b_13 := FunD.bindsN (ps := ["computad", "name"]) F_13 fun _ _ _ _ _ _ us hl => match us, hl with | [_, _], _ => rfl
  obtain ⟨fd_14, F_14⟩ := c.def_ 14 (d := d_point_at) rfl
  have g_14 := He.glo_ok X G (c.fact 14 (f := .glo "point_at") rfl)
  have b_14 := FunD.bindsN (ps := ["computad", "path", "at"]) F_14 fun _ _ _ _ _ _ us hl => match us, hl with | [_, _, _], _ => rfl
  obtain ⟨fd_15, F_15⟩ := c.def_ 15 (d := d_applies) rfl
  have g_15 := He.glo_ok X G (c.fact 15 (f := .glo "applies") rfl)
  have b_15 := FunD.bindsN (ps := ["computad", "path", "value"]) F_15 fun _ _ _ _ _ _ us hl => match us, hl with | [_, _, _], _ => rfl
  obtain ⟨fd_16, F_16⟩ := c.def_ 16 (d := d_after_layer) rfl
  have g_16 := He.glo_ok X G (c.fact 16 (f := .glo "after_layer") rfl)
  have b_16 := FunD.bindsN (ps := ["computad", "path", "layer"]) F_16 fun _ _ _ _ _ _ us hl => match us, hl with | [_, _, _], _ => rfl
  obtain ⟨fd_17, F_17⟩ := c.def_ 17 (d := d_sides_of) rfl
  have g_17 := He.glo_ok X G (c.fact 17 (f := .glo "sides_of") rfl)
  have b_17 := FunD.bindsN (ps := ["computad", "cell"]) F_17 fun _ _ _ _ _ _ us hl => match us, hl with | [_, _], _ => rfl
  obtain ⟨fd_18, F_18⟩ := c.def_ 18 (d := d_paths_in) rfl
  have g_18 := He.glo_ok X G (c.fact 18 (f := .glo "paths_in") rfl)
  have b_18 := FunD.bindsN (ps := ["computad", "diagram"]) F_18 fun _ _ _ _ _ _ us hl => match us, hl with | [_, _], _ => rfl
  obtain ⟨fd_19, F_19⟩ := c.def_ 19 (d := d_size_in) rfl
  have g_19 := He.glo_ok X G (c.fact 19 (f := .glo "size_in") rfl)
  have b_19 := FunD.bindsN (ps := ["computad", "diagram"]) F_19 fun _ _ _ _ _ _ us hl => match us, hl with | [_, _], _ => rfl
  obtain ⟨fd_20, F_20⟩ := c.def_ 20 (d := d_is_diagram_in) rfl
  have g_20 := He.glo_ok X G (c.fact 20 (f := .glo "is_diagram_in") rfl)
  have b_20 := FunD.bindsN (ps := ["computad", "value"]) F_20 fun _ _ _ _ _ _ us hl => match us, hl with | [_, _], _ => rfl
  obtain ⟨fd_21, F_21⟩ := c.def_ 21 (d := d_is_diagram) rfl
  have g_21 := He.glo_ok X G (c.fact 21 (f := .glo "is_diagram") rfl)
  have b_21 := FunD.bindsN (ps := ["computad", "value"]) F_21 fun _ _ _ _ _ _ us hl => match us, hl with | [_, _], _ => rfl
  obtain ⟨fd_22, F_22⟩ := c.def_ 22 (d := d_need_diagram) rfl
  have g_22 := He.glo_ok X G (c.fact 22 (f := .glo "need_diagram") rfl)
  have b_22 := FunD.bindsN (ps := ["computad", "value"]) F_22 fun _ _ _ _ _ _ us hl => match us, hl with | [_, _], _ => rfl
  obtain ⟨fd_23, F_23⟩ := c.def_ 23 (d := d_limited) rfl
  have g_23 := He.glo_ok X G (c.fact 23 (f := .glo "limited") rfl)
  have b_23 := FunD.bindsN (ps := ["computad", "diagram"]) F_23 fun _ _ _ _ _ _ us hl => match us, hl with | [_, _], _ => rfl
  obtain ⟨fd_24, F_24⟩ := c.def_ 24 (d := d_vertical) rfl
  have g_24 := He.glo_ok X G (c.fact 24 (f := .glo "vertical") rfl)
  have b_24 := FunD.bindsN (ps := ["computad", "one", "other"]) F_24 fun _ _ _ _ _ _ us hl => match us, hl with | [_, _, _], _ => rfl
  obtain ⟨fd_25, F_25⟩ := c.def_ 25 (d := d_split_at) rfl
  have g_25 := He.glo_ok X G (c.fact 25 (f := .glo "split_at") rfl)
  have b_25 := FunD.bindsN (ps := ["computad", "diagram", "many"]) F_25 fun _ _ _ _ _ _ us hl => match us, hl with | [_, _, _], _ => rfl
  obtain ⟨fd_26, F_26⟩ := c.def_ 26 (d := d__law_cup) rfl
  have g_26 := He.glo_ok X G (c.fact 26 (f := .glo "_law_cup") rfl)
  have b_26 := FunD.bindsN (ps := ["script"]) F_26 fun _ _ _ _ _ _ us hl => match us, hl with | [_], _ => rfl
  obtain ⟨fd_27, F_27⟩ := c.def_ 27 (d := d__law_roll) rfl
  have g_27 := He.glo_ok X G (c.fact 27 (f := .glo "_law_roll") rfl)
  have b_27 := FunD.bindsN (ps := ["cup", "many"]) F_27 fun _ _ _ _ _ _ us hl => match us, hl with | [_, _], _ => rfl
  obtain ⟨fd_28, F_28⟩ := c.def_ 28 (d := d__law_some) rfl
  have g_28 := He.glo_ok X G (c.fact 28 (f := .glo "_law_some") rfl)
  have b_28 := FunD.bindsN (ps := ["cup", "things"]) F_28 fun _ _ _ _ _ _ us hl => match us, hl with | [_, _], _ => rfl
  obtain ⟨fd_29, F_29⟩ := c.def_ 29 (d := d__law_sort) rfl
  have g_29 := He.glo_ok X G (c.fact 29 (f := .glo "_law_sort") rfl)
  have b_29 := FunD.bindsN (ps := ["value"]) F_29 fun _ _ _ _ _ _ us hl => match us, hl with | [_], _ => rfl
  obtain ⟨fd_30, F_30⟩ := c.def_ 30 (d := d__law_like) rfl
  have g_30 := He.glo_ok X G (c.fact 30 (f := .glo "_law_like") rfl)
  have b_30 := FunD.bindsN (ps := ["one", "other"]) F_30 fun _ _ _ _ _ _ us hl => match us, hl with | [_, _], _ => rfl
  obtain ⟨fd_31, F_31⟩ := c.def_ 31 (d := d__law_name) rfl
  have g_31 := He.glo_ok X G (c.fact 31 (f := .glo "_law_name") rfl)
  have b_31 := FunD.bindsN (ps := ["cup", "taken"]) F_31 fun _ _ _ _ _ _ us hl => match us, hl with | [_, _], _ => rfl
  obtain ⟨fd_32, F_32⟩ := c.def_ 32 (d := d__law_names) rfl
  have g_32 := He.glo_ok X G (c.fact 32 (f := .glo "_law_names") rfl)
  have b_32 := FunD.bindsN (ps := ["cup", "many"]) F_32 fun _ _ _ _ _ _ us hl => match us, hl with | [_, _], _ => rfl
  obtain ⟨fd_33, F_33⟩ := c.def_ 33 (d := d__law_walk) rfl
  have g_33 := He.glo_ok X G (c.fact 33 (f := .glo "_law_walk") rfl)
  have b_33 := FunD.bindsN (ps := ["cup", "arrows", "point", "most"]) F_33 fun _ _ _ _ _ _ us hl => match us, hl with | [_, _, _, _], _ => rfl
  obtain ⟨fd_34, F_34⟩ := c.def_ 34 (d := d__law_along) rfl
  have g_34 := He.glo_ok X G (c.fact 34 (f := .glo "_law_along") rfl)
  have b_34 := FunD.bindsN (ps := ["arrows", "point", "names"]) F_34 fun _ _ _ _ _ _ us hl => match us, hl with | [_, _, _], _ => rfl
  obtain ⟨fd_35, F_35⟩ := c.def_ 35 (d := d__law_cells) rfl
  have g_35 := He.glo_ok X G (c.fact 35 (f := .glo "_law_cells") rfl)
  have b_35 := FunD.bindsN (ps := ["cup", "points", "arrows", "many", "least"]) F_35 fun _ _ _ _ _ _ us hl => match us, hl with | [_, _, _, _, _], _ => rfl
  obtain ⟨fd_36, F_36⟩ := c.def_ 36 (d := d__law_computad) rfl
  have g_36 := He.glo_ok X G (c.fact 36 (f := .glo "_law_computad") rfl)
  have b_36 := FunD.bindsN (ps := ["cup", "least"]) F_36 fun _ _ _ _ _ _ us hl => match us, hl with | [_, _], _ => rfl
  obtain ⟨fd_37, F_37⟩ := c.def_ 37 (d := d__law_large) rfl
  have g_37 := He.glo_ok X G (c.fact 37 (f := .glo "_law_large") rfl)
  have b_37 := FunD.bindsN (ps := ["cup"]) F_37 fun _ _ _ _ _ _ us hl => match us, hl with | [_], _ => rfl
  obtain ⟨fd_38, F_38⟩ := c.def_ 38 (d := d__law_fitting) rfl
  have g_38 := He.glo_ok X G (c.fact 38 (f := .glo "_law_fitting") rfl)
  have b_38 := FunD.bindsN (ps := ["computad", "path"]) F_38 fun _ _ _ _ _ _ us hl => match us, hl with | [_, _], _ => rfl
  obtain ⟨fd_39, F_39⟩ := c.def_ 39 (d := d__law_after) rfl
  have g_39 := He.glo_ok X G (c.fact 39 (f := .glo "_law_after") rfl)
  have b_39 := FunD.bindsN (ps := ["computad", "path", "layer"]) F_39 fun _ _ _ _ _ _ us hl => match us, hl with | [_, _, _], _ => rfl
  obtain ⟨fd_40, F_40⟩ := c.def_ 40 (d := d__law_paths) rfl
  have g_40 := He.glo_ok X G (c.fact 40 (f := .glo "_law_paths") rfl)
  have b_40 := FunD.bindsN (ps := ["computad", "diagram"]) F_40 fun _ _ _ _ _ _ us hl => match us, hl with | [_, _], _ => rfl
  obtain ⟨fd_41, F_41⟩ := c.def_ 41 (d := d__law_continued) rfl
  have g_41 := He.glo_ok X G (c.fact 41 (f := .glo "_law_continued") rfl)
  have b_41 := FunD.bindsN (ps := ["cup", "computad", "path", "many"]) F_41 fun _ _ _ _ _ _ us hl => match us, hl with | [_, _, _, _], _ => rfl
  obtain ⟨fd_42, F_42⟩ := c.def_ 42 (d := d__law_path) rfl
  have g_42 := He.glo_ok X G (c.fact 42 (f := .glo "_law_path") rfl)
  have b_42 := FunD.bindsN (ps := ["cup", "computad", "most"]) F_42 fun _ _ _ _ _ _ us hl => match us, hl with | [_, _, _], _ => rfl
  obtain ⟨fd_43, F_43⟩ := c.def_ 43 (d := d__law_diagram) rfl
  have g_43 := He.glo_ok X G (c.fact 43 (f := .glo "_law_diagram") rfl)
  have b_43 := FunD.bindsN (ps := ["cup", "computad", "most", "many"]) F_43 fun _ _ _ _ _ _ us hl => match us, hl with | [_, _, _, _], _ => rfl
  obtain ⟨fd_44, F_44⟩ := c.def_ 44 (d := d__law_sides) rfl
  have g_44 := He.glo_ok X G (c.fact 44 (f := .glo "_law_sides") rfl)
  have b_44 := FunD.bindsN (ps := ["computad", "layer"]) F_44 fun _ _ _ _ _ _ us hl => match us, hl with | [_, _], _ => rfl
  obtain ⟨fd_45, F_45⟩ := c.def_ 45 (d := d__law_case) rfl
  have g_45 := He.glo_ok X G (c.fact 45 (f := .glo "_law_case") rfl)
  have b_45 := FunD.bindsN (ps := ["cup"]) F_45 fun _ _ _ _ _ _ us hl => match us, hl with | [_], _ => rfl
  obtain ⟨fd_46, F_46⟩ := c.def_ 46 (d := d__law_end) rfl
  have g_46 := He.glo_ok X G (c.fact 46 (f := .glo "_law_end") rfl)
  have b_46 := FunD.bindsN (ps := ["computad", "path"]) F_46 fun _ _ _ _ _ _ us hl => match us, hl with | [_, _], _ => rfl
  obtain ⟨fd_47, F_47⟩ := c.def_ 47 (d := d__law_odd) rfl
  have g_47 := He.glo_ok X G (c.fact 47 (f := .glo "_law_odd") rfl)
  have b_47 := FunD.bindsN (ps := ["cup"]) F_47 fun _ _ _ _ _ _ us hl => match us, hl with | [_], _ => rfl
  obtain ⟨fd_48, F_48⟩ := c.def_ 48 (d := d__law_odd_computad) rfl
  have g_48 := He.glo_ok X G (c.fact 48 (f := .glo "_law_odd_computad") rfl)
  have b_48 := FunD.bindsN (ps := ["cup", "computad"]) F_48 fun _ _ _ _ _ _ us hl => match us, hl with | [_, _], _ => rfl
  obtain ⟨fd_49, F_49⟩ := c.def_ 49 (d := d__law_told) rfl
  have g_49 := He.glo_ok X G (c.fact 49 (f := .glo "_law_told") rfl)
  have b_49 := FunD.bindsN (ps := ["call"]) F_49 fun _ _ _ _ _ _ us hl => match us, hl with | [_], _ => rfl
  obtain ⟨fd_50, F_50⟩ := c.def_ 50 (d := d_law) rfl
  have el := hfa.symm.trans (He.glo_ok X G (c.fact 50 (f := .glo "law") rfl))
  cases el
  have bl := FunD.bindsA (ps := ["script"]) F_50 fun _ _ _ _ _ _ us hl => match us, hl with | [_], _ => rfl
  refine ⟨fd_50, fun s v => bl s [v] rfl, fun base _ _ hT => ?_⟩
  have c_is_whole := fd_is_whole (P := P) (w := w) (base := base) T F_0 g_0 b_0
  have c_need_whole := fd_need_whole (P := P) (w := w) (base := base) T F_1 g_1 b_1 c_is_whole
  have c_is_tuple_of := fd_is_tuple_of (P := P) (w := w) (base := base) T F_2 g_2 b_2
  have c_is_name := fd_is_name (P := P) (w := w) (base := base) T F_3 g_3 b_3
  have c_are_ascending := fd_are_ascending (P := P) (w := w) (base := base) T F_4 g_4 b_4
  have c_row_of := fd_row_of (P := P) (w := w) (base := base) T F_5 g_5 b_5
  have c_chained_points := fd_chained_points (P := P) (w := w) (base := base) T F_6 g_6 b_6 c_row_of
  have c_are_points := fd_are_points (P := P) (w := w) (base := base) T F_7 g_7 b_7 c_is_tuple_of c_is_name c_are_ascending
  have c_are_arrows := fd_are_arrows (P := P) (w := w) (base := base) T F_8 g_8 b_8 c_is_tuple_of c_is_name c_are_ascending
  have c_is_cell := fd_is_cell (P := P) (w := w) (base := base) T F_9 g_9 b_9 c_is_tuple_of c_is_name c_chained_points
  have c_is_computad := fd_is_computad (P := P) (w := w) (base := base) T F_10 g_10 b_10 c_is_tuple_of c_are_points c_are_arrows c_is_cell c_are_ascending
  have c_need_computad := fd_need_computad (P := P) (w := w) (base := base) T F_11 g_11 b_11 c_is_computad
  have c_is_path_in := fd_is_path_in (P := P) (w := w) (base := base) T F_12 g_12 b_12 c_is_tuple_of c_is_name c_chained_points
  have c_cell_row := fd_cell_row (P := P) (w := w) (base := base) T F_13 g_13 b_13 c_row_of
  have c_point_at := fd_point_at (P := P) (w := w) (base := base) T F_14 g_14 b_14 c_row_of
  have c_applies := fd_applies (P := P) (w := w) (base := base) T F_15 g_15 b_15 c_is_tuple_of c_is_whole c_cell_row c_point_at
  have c_after_layer := fd_after_layer (P := P) (w := w) (base := base) T F_16 g_16 b_16 c_cell_row
  have c_sides_of := fd_sides_of (P := P) (w := w) (base := base) T F_17 g_17 b_17 c_cell_row
  have c_paths_in := fd_paths_in (P := P) (w := w) (base := base) T F_18 g_18 b_18 c_after_layer
  have c_size_in := fd_size_in (P := P) (w := w) (base := base) T F_19 g_19 b_19 c_sides_of
  have c_is_diagram_in := fd_is_diagram_in (P := P) (w := w) (base := base) T F_20 g_20 b_20 c_is_tuple_of c_is_path_in c_applies c_after_layer c_size_in
  have c_is_diagram := fd_is_diagram (P := P) (w := w) (base := base) T F_21 g_21 b_21 c_need_computad c_is_diagram_in
  have c_need_diagram := fd_need_diagram (P := P) (w := w) (base := base) T F_22 g_22 b_22 c_is_diagram
  have c_limited := fd_limited (P := P) (w := w) (base := base) T F_23 g_23 b_23 c_size_in
  have c_vertical := fd_vertical (P := P) (w := w) (base := base) T F_24 g_24 b_24 c_need_diagram c_paths_in c_limited
  have c_split_at := fd_split_at (P := P) (w := w) (base := base) T F_25 g_25 b_25 c_need_diagram c_need_whole c_paths_in
  have c__law_cup := fd__law_cup (P := P) (w := w) (base := base) T F_26 g_26 b_26
  have c__law_roll := fd__law_roll (P := P) (w := w) (base := base) T F_27 g_27 b_27
  have c__law_some := fd__law_some (P := P) (w := w) (base := base) T F_28 g_28 b_28 c__law_roll
  have c__law_sort := fd__law_sort (P := P) (w := w) (base := base) T F_29 g_29 b_29
  have c__law_like := fd__law_like (P := P) (w := w) (base := base) T F_30 g_30 b_30 c__law_sort
  have c__law_name := fd__law_name (P := P) (w := w) (base := base) T F_31 g_31 b_31 c__law_some
  have c__law_names := fd__law_names (P := P) (w := w) (base := base) T F_32 g_32 b_32 c__law_name
  have c__law_walk := fd__law_walk (P := P) (w := w) (base := base) T F_33 g_33 b_33 c__law_roll c__law_some
  have c__law_along := fd__law_along (P := P) (w := w) (base := base) T F_34 g_34 b_34
  have c__law_cells := fd__law_cells (P := P) (w := w) (base := base) T F_35 g_35 b_35 c__law_names c__law_some c__law_walk c__law_along
  have c__law_computad := fd__law_computad (P := P) (w := w) (base := base) T F_36 g_36 b_36 c__law_names c__law_some c__law_roll c__law_cells
  have c__law_large := fd__law_large (P := P) (w := w) (base := base) T F_37 g_37 b_37 c__law_names c__law_some c__law_walk c__law_along
  have c__law_fitting := fd__law_fitting (P := P) (w := w) (base := base) T F_38 g_38 b_38 c__law_along
  have c__law_after := fd__law_after (P := P) (w := w) (base := base) T F_39 g_39 b_39
  have c__law_paths := fd__law_paths (P := P) (w := w) (base := base) T F_40 g_40 b_40 c__law_after
  have c__law_continued := fd__law_continued (P := P) (w := w) (base := base) T F_41 g_41 b_41 c__law_fitting c__law_some c__law_after
  have c__law_path := fd__law_path (P := P) (w := w) (base := base) T F_42 g_42 b_42 c__law_some c__law_walk
  have c__law_diagram := fd__law_diagram (P := P) (w := w) (base := base) T F_43 g_43 b_43 c__law_path c__law_continued
  have c__law_sides := fd__law_sides (P := P) (w := w) (base := base) T F_44 g_44 b_44
  have c__law_case := fd__law_case (P := P) (w := w) (base := base) T F_45 g_45 b_45 c__law_roll c__law_large c__law_computad c__law_some c__law_diagram
  have c__law_end := fd__law_end (P := P) (w := w) (base := base) T F_46 g_46 b_46 c__law_along
  have c__law_odd := fd__law_odd (P := P) (w := w) (base := base) T F_47 g_47 b_47 c__law_some
  have c__law_odd_computad := fd__law_odd_computad (P := P) (w := w) (base := base) T F_48 g_48 b_48 c__law_some
  have c__law_told := fd__law_told (P := P) (w := w) (base := base) T F_49 g_49 b_49
  exact fd_law (P := P) (w := w) (base := base) T F_50 (mkF_ok (x := "law") (by decide) hT cb.1.2) rfl c__law_cup c__law_case c__law_paths c__law_like c_split_at c_vertical c__law_continued c__law_some c__law_diagram c__law_told c__law_odd c__law_odd_computad
end K13
open PySem PySem.W PySem.Calls PyProof.Rows
theorem K13.holds_of (main : ∀ ns : List Int, ns.length ≤ 63 → (∀ z ∈ ns, PySem.Builtin.Int.intBits z ≤ 1048576) → ∃ ρ, K13.m_law [.s ns] = .ok (.bool true, ρ)) : PySem.Challenge.rw_pastedcells_k13_vertical_pasting_and_spl.Holds := by
  w_on; o_law
  refine HandSHeadRun.head_any (r := OpenLaw.row PySem.Challenge.rw_pastedcells_k13_vertical_pasting_and_spl) (q := view (OpenLaw.row PySem.Challenge.rw_pastedcells_k13_vertical_pasting_and_spl).prog [73]) (H := K13.hk) (ob := K13.ob) (M := 4000) (loose := K13.loose) (d := HandSHeadRun.topDef (OpenLaw.row PySem.Challenge.rw_pastedcells_k13_vertical_pasting_and_spl).prog 73) (kwd := []) K13.ob_eq
    (by kernel_rfl) (fun s => by kernel_rfl) K13.run (by kernel_rfl) (by kernel_rfl) (by kernel_rfl) (by rfl) (by first | assumption | decide +kernel) (by decide +kernel) ⟨rfl, rfl, rfl, rfl, rfl, by decide +kernel⟩ ?hw ?hc
  case hw => w_witness2
  case hc =>
    refine Pd.walk_ofBE (l := PySem.Challenge.rw_pastedcells_k13_vertical_pasting_and_spl) (n := 63) (k := 11) (x := "script") (CX := fun w => L2N.CX PySem.Challenge.rw_pastedcells_k13_vertical_pasting_and_spl.prog w) rfl (by decide) (by kernel_rfl) ⟨rfl, by decide, by decide⟩ ?F (fun w _ _ _ _ z => Pd.cx_none z)
    intro w mg fa h Y G hmg0
    obtain ⟨K, KX, c⟩ := Y
    have hmg : mg ("law" : PySem.Str) = some (.ref fa) := by
      have e : (HandSHeadRun.topDef (OpenLaw.row PySem.Challenge.rw_pastedcells_k13_vertical_pasting_and_spl).prog 73).name = ("law" : PySem.Str) := by kernel_rfl
      rw [← e]
      exact hmg0
    obtain ⟨fd, hb, hF⟩ := K13.facts (P := (PySem.Challenge.rw_pastedcells_k13_vertical_pasting_and_spl).prog) (w := w) KX G hmg c
    exact ⟨K, fd, Pd.spF mg K 1 K13.m_law, KX, fun p hp => ⟨c.hd p hp, c.out p hp, c.empty p hp⟩, hb, fun H a ns hl hbits hT hS => Pd.sp_law hT hS (main ns hl hbits), hF⟩
end

section
/-! Pd: computads as plain data; rows, chains of points. -/
namespace Pd
open PySem L2
structure Arw where
  n : Str
  p : Str
  q : Str
structure Cel where
  n : Str
  p : Str
  up : List Str
  lo : List Str
structure Cpd where
  pts : List Str
  ars : List Arw
  cls : List Cel
def Arw.d (a : Arw) : D := .tuple [.str a.n, .str a.p, .str a.q]
def Cel.d (c : Cel) : D := .tuple [.str c.n, .str c.p, sT c.up, sT c.lo]
def arsD (as : List Arw) : D := .tuple (as.map Arw.d)
def clsD (cs : List Cel) : D := .tuple (cs.map Cel.d)
def Cpd.d (C : Cpd) : D := .tuple [sT C.pts, arsD C.ars, clsD C.cls]
@[simp] theorem Arw.i0 (a : Arw) : ixD a.d (.int 0) = some (.str a.n) := by unfold Arw.d; simp
@[simp] theorem Arw.i1 (a : Arw) : ixD a.d (.int 1) = some (.str a.p) := by unfold Arw.d; simp
@[simp] theorem Arw.i2 (a : Arw) : ixD a.d (.int 2) = some (.str a.q) := by unfold Arw.d; simp
@[simp] theorem Cel.i0 (a : Cel) : ixD a.d (.int 0) = some (.str a.n) := by unfold Cel.d; simp
@[simp] theorem Cel.i1 (a : Cel) : ixD a.d (.int 1) = some (.str a.p) := by unfold Cel.d; simp
@[simp] theorem Cel.i2 (a : Cel) : ixD a.d (.int 2) = some (sT a.up) := by unfold Cel.d; simp
@[simp] theorem Cel.i3 (a : Cel) : ixD a.d (.int 3) = some (sT a.lo) := by unfold Cel.d; simp
@[simp] theorem Cpd.i0 (C : Cpd) : ixD C.d (.int 0) = some (sT C.pts) := by unfold Cpd.d; simp
@[simp] theorem Cpd.i1 (C : Cpd) : ixD C.d (.int 1) = some (arsD C.ars) := by unfold Cpd.d; simp
@[simp] theorem Cpd.i2 (C : Cpd) : ixD C.d (.int 2) = some (clsD C.cls) := by unfold Cpd.d; simp
@[simp] theorem iter_ars (as : List Arw) : iterD (arsD as) = some (as.map Arw.d) := rfl
@[simp] theorem iter_cls (cs : List Cel) : iterD (clsD cs) = some (cs.map Cel.d) := rfl
@[simp] theorem Arw.non (a : Arw) : isNonD a.d .none = some (.bool false) := rfl
@[simp] theorem Cel.non (a : Cel) : isNonD a.d .none = some (.bool false) := rfl
@[simp] theorem Arw.nnon (a : Arw) : notNonD a.d .none = some (.bool true) := rfl
@[simp] theorem Cel.nnon (a : Cel) : notNonD a.d .none = some (.bool true) := rfl
/-! ### rows by name -/
def rowD {α : Type} (f : α → D) : Option α → D
  | some x => f x
  | none => .none
theorem row_of_ok {α : Type} (f : α → D) (k : α → Str) (hf : ∀ x, ixD (f x) (.int 0) = some (.str (k x))) (xs : List α) (n : Str) :
    m_row_of [.d (.tuple (xs.map f)), .d (.str n)] = .ok (rowD f (xs.find? fun x => decide (k x = n)), [.d (.tuple (xs.map f)), .d (.str n)]) := by
  generalize hT : (PyData.tuple (xs.map f) : D) = T
  have hit : iterD T = some (xs.map f) := by rw [← hT]; rfl
  rw [m_row_of_eq]
  unfold S_row_of
  generalize hR : (xs.find? fun x => decide (k x = n)) = R
  have hz : ∀ ρ', (∃ s, ρ' = [.d T, .d (.str n), s]) → keepM [.d T, .d (.str n)] ρ' = [.d T, .d (.str n)] ∧ 2 ≤ ρ'.length := by
    rintro _ ⟨s, rfl⟩; simp
  have main : ∃ ρ', (∃ s, ρ' = [.d T, .d (.str n), s]) ∧ (sSeq (sFor (iAny (eVar 0)) (setD 2) (sIf (tBo (eOp eqD (eOp ixD (eVar 2) (eC (.int 0))) (eVar 1))) (sRet (eVar 2)) (sNx))) (sRet (eC .none))) [.d T, .d (.str n), .u] = .ok (.rt (rowD f R) ρ') := by
    have h := for_rn (F := iAny (eVar 0)) (g := setD 2) (body := sIf (tBo (eOp eqD (eOp ixD (eVar 2) (eC (.int 0))) (eVar 1))) (sRet (eVar 2)) (sNx)) (rest := sRet (eC .none)) (ρ := [.d T, .d (.str n), .u]) (ρ1 := [.d T, .d (.str n), .u]) (xs := xs) (Q := fun fl => ∃ ρ', (∃ s, ρ' = [.d T, .d (.str n), s]) ∧ fl = .rt (rowD f R) ρ') f
      (fun ys ρ => (ys.find? fun x => decide (k x = n)) = R ∧ ∃ s, nm s = true ∧ ρ = [.d T, .d (.str n), s]) (fun d ρ => d = rowD f R ∧ ∃ s, ρ = [.d T, .d (.str n), s]) (by simp [hit]) ⟨hR, .u, rfl, rfl⟩
      (fun x ys ρ hI => by
        obtain ⟨h1, s, hs, rfl⟩ := hI
        refine ⟨[.d T, .d (.str n), .d (f x)], by simp [hs], ?_⟩
        by_cases c : k x = n
        · refine out (ρ2 := [.d T, .d (.str n), .d (f x)]) (d := f x) (by simp [hf, c]) ⟨?_, _, rfl⟩
          rw [List.find?_cons_of_pos (by simp [c])] at h1
          rw [← h1]; rfl
        · refine go (ρ2 := [.d T, .d (.str n), .d (f x)]) (by simp [hf, c]) ⟨?_, _, rfl, rfl⟩
          rw [List.find?_cons_of_neg (by simp [c])] at h1
          exact h1)
      (fun ρ2 hI => by
        obtain ⟨h1, s, hs, rfl⟩ := hI
        refine rn_fin (a := .rt .none [.d T, .d (.str n), s]) (by simp) ⟨_, ⟨s, rfl⟩, ?_⟩
        rw [← h1]; rfl)
      (fun d ρ2 hJ => by
        obtain ⟨h1, s, rfl⟩ := hJ
        exact ⟨_, ⟨s, rfl⟩, by rw [h1]⟩)
    obtain ⟨fl, e, ρ', hs, rfl⟩ := h
    exact ⟨ρ', hs, e⟩
  obtain ⟨ρ', hs, e⟩ := main
  obtain ⟨hk, hl⟩ := hz ρ' hs
  exact fn_rt rfl e hl hk
def rowA (as : List Arw) (n : Str) : Option Arw := as.find? fun a => decide (a.n = n)
def rowC (cs : List Cel) (n : Str) : Option Cel := cs.find? fun a => decide (a.n = n)
theorem row_of_ars (as : List Arw) (n : Str) : m_row_of [.d (arsD as), .d (.str n)] = .ok (rowD Arw.d (rowA as n), [.d (arsD as), .d (.str n)]) := row_of_ok Arw.d Arw.n Arw.i0 as n
theorem row_of_cls (as : List Cel) (n : Str) : m_row_of [.d (clsD as), .d (.str n)] = .ok (rowD Cel.d (rowC as n), [.d (clsD as), .d (.str n)]) := row_of_ok Cel.d Cel.n Cel.i0 as n
/-! ### chains -/
def nxt (as : List Arw) (p n : Str) : Option Str := match rowA as n with
  | some a => if a.p = p then some a.q else none
  | none => none
def stop (as : List Arw) : Str → List Str → Option Str
  | p, [] => some p
  | p, n :: ns => (nxt as p n).bind fun q => stop as q ns
def pth (as : List Arw) : Str → List Str → Option (List Str)
  | p, [] => some [p]
  | p, n :: ns => (nxt as p n).bind fun q => (pth as q ns).map (p :: ·)
theorem stop_append (as : List Arw) : ∀ (p : Str) (xs ys : List Str), stop as p (xs ++ ys) = (stop as p xs).bind fun q => stop as q ys
  | p, [], ys => rfl
  | p, x :: xs, ys => by
    simp only [List.cons_append, stop]
    cases nxt as p x with
    | none => rfl
    | some q => simp only [Option.bind_some]; exact stop_append as q xs ys
theorem pth_stop (as : List Arw) : ∀ (p : Str) (ns : List Str), (pth as p ns).bind (·.getLast?) = stop as p ns
  | p, [] => rfl
  | p, n :: ns => by
    have ih := fun q => pth_stop as q ns
    simp only [pth, stop]
    cases nxt as p n with
    | none => rfl
    | some q =>
      simp only [Option.bind_some]
      rw [← ih q]
      cases h : pth as q ns with
      | none => rfl
      | some l =>
        simp only [Option.map_some, Option.bind_some]
        cases l with
        | nil =>
          exfalso
          cases ns with
          | nil => simp [pth] at h
          | cons m ns =>
            simp only [pth] at h
            cases h2 : nxt as q m with
            | none => rw [h2] at h; simp at h
            | some r => rw [h2] at h; simp at h
        | cons y ys => simp [List.getLast?_cons]
theorem pth_ne {as : List Arw} {p : Str} {ns l : List Str} (h : pth as p ns = some l) : l ≠ [] := by
  rintro rfl
  cases ns with
  | nil => simp [pth] at h
  | cons m ns =>
    simp only [pth] at h
    cases h2 : nxt as p m with
    | none => rw [h2] at h; simp at h
    | some r => rw [h2] at h; simp at h
theorem stop_pth {as : List Arw} {p q : Str} {ns : List Str} (h : stop as p ns = some q) : ∃ l, pth as p ns = some l ∧ l.getLast? = some q := by
  rw [← pth_stop] at h
  cases h2 : pth as p ns with
  | none => rw [h2] at h; simp at h
  | some l => rw [h2] at h; exact ⟨l, rfl, h⟩
theorem pth_len {as : List Arw} : ∀ {p : Str} {ns l : List Str}, pth as p ns = some l → l.length = ns.length + 1
  | p, [], l, h => by simp [pth] at h; subst h; rfl
  | p, n :: ns, l, h => by
    simp only [pth] at h
    cases h2 : nxt as p n with
    | none => rw [h2] at h; simp at h
    | some q =>
      rw [h2] at h
      simp only [Option.bind_some, Option.map_eq_some_iff] at h
      obtain ⟨m, h3, rfl⟩ := h
      simp [pth_len h3]
theorem pth_get {as : List Arw} : ∀ {p : Str} {ns l : List Str} {k : Nat}, pth as p ns = some l → k ≤ ns.length → l[k]? = stop as p (ns.take k)
  | p, [], l, k, h, hk => by
    simp [pth] at h; subst h
    have : k = 0 := by simpa using hk
    subst this
    rfl
  | p, n :: ns, l, k, h, hk => by
    simp only [pth] at h
    cases h2 : nxt as p n with
    | none => rw [h2] at h; simp at h
    | some q =>
      rw [h2] at h
      simp only [Option.bind_some, Option.map_eq_some_iff] at h
      obtain ⟨m, h3, rfl⟩ := h
      cases k with
      | zero => rfl
      | succ k =>
        rw [List.take_succ_cons, stop, h2, Option.bind_some, List.getElem?_cons_succ]
        exact pth_get h3 (by simpa using hk)
theorem stop_take {as : List Arw} {p q : Str} {ns : List Str} (h : stop as p ns = some q) (k : Nat) : ∃ r, stop as p (ns.take k) = some r ∧ stop as r (ns.drop k) = some q := by
  rw [← List.take_append_drop k ns, stop_append] at h
  cases h2 : stop as p (ns.take k) with
  | none => rw [h2] at h; simp at h
  | some r => rw [h2] at h; exact ⟨r, rfl, h⟩
/-- what chained_points answers -/
def chD : Option (List Str) → D
  | some l => .list (strL l)
  | none => .none
theorem chained_ok (as : List Arw) (p : Str) (ns : List Str) (hl : ns.length < 800000) :
    m_chained_points [.d (arsD as), .d (.str p), .d (sT ns)] = .ok (chD (pth as p ns), [.d (arsD as), .d (.str p), .d (sT ns)]) := by
  rw [m_chained_points_eq]
  unfold S_chained_points
  generalize hN : sT ns = N
  have hit : iterD N = some (strL ns) := by rw [← hN]; rfl
  generalize hR : pth as p ns = R
  refine fn_end (ρ0 := [.d (arsD as), .d (.str p), .d N, .u, .u, .u]) rfl (P := fun ρ' => ∃ s3 s4 s5, ρ' = [.d (arsD as), .d (.str p), .d N, s3, s4, s5]) ?_ (fun ρ' h => by
    obtain ⟨s3, s4, s5, rfl⟩ := h; simp)
  refine rn_nx (ρ' := [.d (arsD as), .d (.str p), .d N, .m (strL [p]), .u, .u]) (by simp) ?_
  refine for_rn (ρ1 := [.d (arsD as), .d (.str p), .d N, .m (strL [p]), .u, .u]) (xs := ns) PyData.str
    (fun ys ρ => ∃ pre x s4 s5, nm s4 = true ∧ nm s5 = true ∧ pre.length + ys.length < 900000 ∧ (pth as x ys).map (pre ++ ·) = R ∧ ρ = [.d (arsD as), .d (.str p), .d N, .m (strL (pre ++ [x])), s4, s5])
    (fun d ρ => R = none ∧ d = .none ∧ ∃ s3 s4 s5, ρ = [.d (arsD as), .d (.str p), .d N, s3, s4, s5])
    (by simp [hit]) ⟨[], p, .u, .u, rfl, rfl, by simp; omega, by simp [hR], rfl⟩ ?_ ?_ ?_
  · intro n ys ρ hI
    obtain ⟨pre, x, s4, s5, h4, h5, hlen, hP, rfl⟩ := hI
    have e := row_of_ars as n
    have hlast : atI (strL (pre ++ [x])) (-1) = some (.str x) := by
      show atI ((pre ++ [x]).map PyData.str) (-1) = _
      rw [List.map_append]
      exact atI_snoc _ _
    have hlen2 : (strL (pre ++ [x])).length < 1000000 := by simp at hlen ⊢; omega
    have hsn : ∀ q, strL (pre ++ [x] ++ [q]) = strL (pre ++ [x]) ++ [.str q] := fun q => by simp
    simp only [List.length_cons] at hlen
    generalize hM : strL (pre ++ [x]) = M at hlast hlen2 hsn ⊢
    refine ⟨[.d (arsD as), .d (.str p), .d N, .m M, .d (.str n), s5], by simp [h4], ?_⟩
    simp only [pth, nxt] at hP
    cases q : rowA as n with
    | none =>
      rw [q] at e hP
      exact out (d := .none) (ρ2 := [.d (arsD as), .d (.str p), .d N, .m M, .d (.str n), .d .none]) (by simp [e, rowD, h5]) ⟨by rw [← hP]; rfl, rfl, _, _, _, rfl⟩
    | some a =>
      rw [q] at e hP
      by_cases c : a.p = x
      · simp only [if_pos c, Option.bind_some] at hP
        refine go (ρ2 := [.d (arsD as), .d (.str p), .d N, .m (strL (pre ++ [x] ++ [a.q])), .d (.str n), .d a.d]) ?_ ⟨pre ++ [x], a.q, _, _, rfl, rfl, by simp; omega, ?_, rfl⟩
        · rw [hsn]
          simp [e, rowD, h5, hlast, c, hlen2]
        · rw [← hP]
          cases pth as a.q ys <;> simp
      · simp only [if_neg c, Option.bind_none] at hP
        exact out (d := .none) (ρ2 := [.d (arsD as), .d (.str p), .d N, .m M, .d (.str n), .d a.d]) (by simp [e, rowD, h5, hlast, c]) ⟨by rw [← hP]; rfl, rfl, _, _, _, rfl⟩
  · intro ρ hI
    obtain ⟨pre, x, s4, s5, h4, h5, hlen, hP, rfl⟩ := hI
    simp only [pth, Option.map_some] at hP
    subst hP
    refine ⟨_, ?_, _, rfl, .d (.list (strL (pre ++ [x]))), s4, s5, rfl⟩
    show _ = Pd.R.ok (Fl.rt (.list (strL (pre ++ [x]))) _)
    generalize strL (pre ++ [x]) = M
    simp
  · intro d ρ hJ
    obtain ⟨h1, rfl, s3, s4, s5, rfl⟩ := hJ
    subst h1
    exact ⟨_, rfl, _, _, _, rfl⟩
end Pd
end

section
/-! Pd: what is a computad; the tests say so of each good one. -/
namespace Pd
open PySem L2
theorem is_whole_ok (v lo hi : Int) : m_is_whole [.d (.int v), .d (.int lo), .d (.int hi)] = .ok (.bool (decide (lo ≤ v) && decide (v ≤ hi)), [.d (.int v), .d (.int lo), .d (.int hi)]) := by
  by_cases h : lo ≤ v <;> simp [m_is_whole_eq, S_is_whole, h]
theorem is_tuple_of_ok (xs : List D) (lo hi : Int) : m_is_tuple_of [.d (.tuple xs), .d (.int lo), .d (.int hi)] = .ok (.bool (decide (lo ≤ xs.length) && decide ((xs.length : Int) ≤ hi)), [.d (.tuple xs), .d (.int lo), .d (.int hi)]) := by
  by_cases h : lo ≤ xs.length <;> simp [m_is_tuple_of_eq, S_is_tuple_of, h]
theorem tup_s (xs : List Str) (lo hi : Int) : m_is_tuple_of [.d (sT xs), .d (.int lo), .d (.int hi)] = .ok (.bool (decide (lo ≤ xs.length) && decide ((xs.length : Int) ≤ hi)), [.d (sT xs), .d (.int lo), .d (.int hi)]) := by
  rw [is_tuple_of_ok]; simp
theorem tup_a (xs : List Arw) (lo hi : Int) : m_is_tuple_of [.d (arsD xs), .d (.int lo), .d (.int hi)] = .ok (.bool (decide (lo ≤ xs.length) && decide ((xs.length : Int) ≤ hi)), [.d (arsD xs), .d (.int lo), .d (.int hi)]) := by
  unfold arsD; rw [is_tuple_of_ok]; simp
theorem tup_c (xs : List Cel) (lo hi : Int) : m_is_tuple_of [.d (clsD xs), .d (.int lo), .d (.int hi)] = .ok (.bool (decide (lo ≤ xs.length) && decide ((xs.length : Int) ≤ hi)), [.d (clsD xs), .d (.int lo), .d (.int hi)]) := by
  unfold clsD; rw [is_tuple_of_ok]; simp
theorem tup_C (C : Cpd) : m_is_tuple_of [.d C.d, .d (.int 3), .d (.int 3)] = .ok (.bool true, [.d C.d, .d (.int 3), .d (.int 3)]) := by
  unfold Cpd.d; rw [is_tuple_of_ok]; simp
theorem tup_arw (a : Arw) : m_is_tuple_of [.d a.d, .d (.int 3), .d (.int 3)] = .ok (.bool true, [.d a.d, .d (.int 3), .d (.int 3)]) := by
  unfold Arw.d; rw [is_tuple_of_ok]; simp
theorem tup_cel (c : Cel) : m_is_tuple_of [.d c.d, .d (.int 4), .d (.int 4)] = .ok (.bool true, [.d c.d, .d (.int 4), .d (.int 4)]) := by
  unfold Cel.d; rw [is_tuple_of_ok]; simp
/-! ### ascending names -/
def asc (xs : List Str) : Bool := (xs.zip (xs.drop 1)).all fun p => decide (p.1.cps.toList < p.2.cps.toList)
theorem asc_of : ∀ {xs : List Str}, (xs.Pairwise fun a b => sle a b = true) → xs.Nodup → asc xs = true
  | [], _, _ => rfl
  | [x], _, _ => rfl
  | x :: y :: r, h, hn => by
    have ih := asc_of (xs := y :: r) (List.pairwise_cons.mp h).2 (List.nodup_cons.mp hn).2
    have h1 : sle x y = true := (List.pairwise_cons.mp h).1 y (List.mem_cons_self ..)
    have h2 : x ≠ y := fun z => (List.nodup_cons.mp hn).1 (z ▸ List.mem_cons_self ..)
    have h3 : x.cps.toList < y.cps.toList := by
      by_cases c : x.cps.toList < y.cps.toList
      · exact c
      · exact absurd (sle_anti h1 (sle_iff.mpr (List.not_lt.mp c))) h2
    unfold asc at ih ⊢
    simp only [List.drop_succ_cons, List.drop_zero, List.zip_cons_cons, List.all_cons, Bool.and_eq_true, decide_eq_true_eq] at ih ⊢
    exact ⟨h3, ih⟩
theorem zip_str (xs ys : List Str) : List.zipWith (fun a b => (PyData.tuple [a, b] : D)) (strL xs) (strL ys) = (xs.zip ys).map fun p => .tuple [.str p.1, .str p.2] := by
  rw [List.zipWith_map, List.zip, List.map_zipWith]
theorem asc_lc (xs : List Str) (x : D) : lcL (gTupD 2 (gsCons (setD 1) (gsCons (setD 2) (gsNil)))) (tYs) (eOp ltD (eVar 1) (eVar 2)) [1, 2] ((xs.zip (xs.drop 1)).map fun p => .tuple [.str p.1, .str p.2]) [.d x, .u, .u] = .ok ((xs.zip (xs.drop 1)).map (fun p => .bool (decide (p.1.cps.toList < p.2.cps.toList))), [.d x, .u, .u]) :=
  lc_map (fun (p : Str × Str) => .bool (decide (p.1.cps.toList < p.2.cps.toList))) fun p _ => by simp
theorem cut1 {α : Type} (xs : List α) : cutL xs (some 1) none = xs.drop 1 := cut_drop xs 1
theorem asc_list (xs : List Str) (h : xs.length ≤ 1000) : m_are_ascending [.d (.list (strL xs))] = .ok (.bool (asc xs), [.d (.list (strL xs))]) := by
  have e := asc_lc xs (.list (strL xs))
  have h2 : ((xs.zip (xs.drop 1)).map fun p => (PyData.tuple [.str p.1, .str p.2] : D)).length ≤ 1000000 := by simp; omega
  have e3 : List.zipWith (fun a b => (PyData.tuple [a, b] : D)) (strL xs) (cutL (strL xs) (some 1) none) = (xs.zip (xs.drop 1)).map fun p => .tuple [.str p.1, .str p.2] := by
    rw [cut_map, cut1]; exact zip_str _ _
  rw [m_are_ascending_eq]
  unfold S_are_ascending
  generalize ((xs.zip (xs.drop 1)).map fun p => (PyData.tuple [.str p.1, .str p.2] : D)) = Z at *
  generalize strL xs = L at *
  simp [e3, h2, e, blsM]
  unfold asc
  simp [List.all_map, Function.comp_def]
theorem asc_tup (xs : List Str) (h : xs.length ≤ 1000) : m_are_ascending [.d (sT xs)] = .ok (.bool (asc xs), [.d (sT xs)]) := by
  have e := asc_lc xs (.tuple (strL xs))
  have h2 : ((xs.zip (xs.drop 1)).map fun p => (PyData.tuple [.str p.1, .str p.2] : D)).length ≤ 1000000 := by simp; omega
  have e3 : List.zipWith (fun a b => (PyData.tuple [a, b] : D)) (strL xs) (cutL (strL xs) (some 1) none) = (xs.zip (xs.drop 1)).map fun p => .tuple [.str p.1, .str p.2] := by
    rw [cut_map, cut1]; exact zip_str _ _
  rw [m_are_ascending_eq]
  unfold S_are_ascending
  generalize ((xs.zip (xs.drop 1)).map fun p => (PyData.tuple [.str p.1, .str p.2] : D)) = Z at *
  show mkFn _ _ [.d (.tuple (strL xs))] = .ok (_, [.d (.tuple (strL xs))])
  generalize strL xs = L at *
  simp [e3, h2, e, blsM]
  unfold asc
  simp [List.all_map, Function.comp_def]
/-! ### good computads -/
structure Ok (C : Cpd) : Prop where
  p1 : 1 ≤ C.pts.length
  p2 : C.pts.length ≤ 12
  pn : ∀ x ∈ C.pts, nmB (.str x) = true
  pa : asc C.pts = true
  a2 : C.ars.length ≤ 20
  an : ∀ a ∈ C.ars, nmB (.str a.n) = true ∧ a.p ∈ C.pts ∧ a.q ∈ C.pts
  nn : ∀ a ∈ C.ars, a.n.length ≠ 4
  aa : asc (C.ars.map Arw.n) = true
  ad : (C.ars.map Arw.n).Nodup
  c2 : C.cls.length ≤ 20
  cn : ∀ c ∈ C.cls, nmB (.str c.n) = true ∧ c.p ∈ C.pts ∧ c.up.length ≤ 6 ∧ c.lo.length ≤ 6 ∧ ∃ q, stop C.ars c.p c.up = some q ∧ stop C.ars c.p c.lo = some q
  ca : asc (C.cls.map Cel.n) = true
  cd : (C.cls.map Cel.n).Nodup
theorem are_points_ok {C : Cpd} (o : Ok C) : m_are_points [.d (sT C.pts)] = .ok (.bool true, [.d (sT C.pts)]) := by
  have e1 := tup_s C.pts 1 12
  have e2 := asc_tup C.pts (by have := o.p2; omega)
  have e3 : lcL (setD 1) tYs (eUser 1 (m_is_name) (cD (eVar 1) (cNil))) [1] (strL C.pts) [.d (sT C.pts), .u] = .ok (C.pts.map (fun _ => .bool true), [.d (sT C.pts), .u]) :=
    lc_map (fun _ => .bool true) fun x hx => by simp [is_name_ok, o.pn x hx]
  rw [o.pa] at e2
  have h1 : (1 : Int) ≤ C.pts.length := by have := o.p1; omega
  have h2 : (C.pts.length : Int) ≤ 12 := by have := o.p2; omega
  have h3 : (strL C.pts).length ≤ 1000000 := by simp; omega
  simp only [h1, h2, decide_true, Bool.and_true] at e1
  have hit : iterD (sT C.pts) = some (strL C.pts) := rfl
  rw [m_are_points_eq]
  unfold S_are_points
  generalize sT C.pts = T at *
  generalize strL C.pts = L at *
  simp [e1, e2, e3, hit, h3, blsR]
theorem are_arrows_ok {C : Cpd} (o : Ok C) : m_are_arrows [.d (sT C.pts), .d (arsD C.ars)] = .ok (.bool true, [.d (sT C.pts), .d (arsD C.ars)]) := by
  have e1 := tup_a C.ars 0 20
  have h2 : (C.ars.length : Int) ≤ 20 := by have := o.a2; omega
  simp only [Int.natCast_nonneg, h2, decide_true, Bool.and_true] at e1
  have e2 := asc_list (C.ars.map Arw.n) (by have := o.a2; simp; omega)
  rw [o.aa] at e2
  have e3 : lcL (setD 2) tYs (eOp ixD (eVar 2) (eC (.int 0))) [2] (C.ars.map Arw.d) [.d (sT C.pts), .d (arsD C.ars), .u, .u] = .ok (strL (C.ars.map Arw.n), [.d (sT C.pts), .d (arsD C.ars), .u, .u]) := by
    rw [show strL (C.ars.map Arw.n) = C.ars.map (fun a => PyData.str a.n) by simp [Function.comp_def]]
    exact lc_map (fun a : Arw => PyData.str a.n) fun x hx => by simp
  have h3 : (C.ars.map Arw.d).length ≤ 1000000 := by simp; omega
  have hin : ∀ x, x ∈ C.pts → ninD (.str x) (sT C.pts) = some (.bool false) := fun x hx => by simp [hx]
  have hit : iterD (arsD C.ars) = some (C.ars.map Arw.d) := rfl
  rw [m_are_arrows_eq]
  unfold S_are_arrows
  refine fn_end (ρ0 := [.d (sT C.pts), .d (arsD C.ars), .u, .u]) rfl (P := fun ρ' => ∃ s2 s3, ρ' = [.d (sT C.pts), .d (arsD C.ars), s2, s3]) ?_ (fun ρ' h => by
    obtain ⟨s3, s4, rfl⟩ := h; simp)
  generalize sT C.pts = T at *
  refine rn_nx (ρ' := [.d T, .d (arsD C.ars), .u, .u]) (by simp [e1]) ?_
  refine for_rn (ρ1 := [.d T, .d (arsD C.ars), .u, .u]) (xs := C.ars) Arw.d (fun ys ρ => (∀ a ∈ ys, a ∈ C.ars) ∧ ∃ s2, nm s2 = true ∧ ρ = [.d T, .d (arsD C.ars), s2, .u]) NoJ (by simp) ⟨fun _ h => h, .u, rfl, rfl⟩ ?_ ?_ (fun _ _ h => h.elim)
  · rintro a ys ρ ⟨hm, s2, hs, rfl⟩
    refine ⟨[.d T, .d (arsD C.ars), .d a.d, .u], by simp [hs], ?_⟩
    obtain ⟨g1, g2, g3⟩ := o.an a (hm a (List.mem_cons_self ..))
    have e4 : lcL (setD 3) tYs (eUser 1 (m_is_name) (cD (eVar 3) (cNil))) [3] [.str a.n, .str a.p, .str a.q] [.d T, .d (arsD C.ars), .d a.d, .u] = .ok ([.bool true, .bool true, .bool true], [.d T, .d (arsD C.ars), .d a.d, .u]) :=
      lc_map (l := [a.n, a.p, a.q]) (h := PyData.str) (fun _ => .bool true) fun x hx => by
        have : nmB (.str x) = true := by
          simp at hx
          rcases hx with rfl | rfl | rfl
          · exact g1
          · exact o.pn _ g2
          · exact o.pn _ g3
        simp [is_name_ok, this]
    have hi2 : iterD a.d = some [.str a.n, .str a.p, .str a.q] := rfl
    exact go (ρ2 := [.d T, .d (arsD C.ars), .d a.d, .u]) (by simp [tup_arw, e4, hi2, hin _ g2, hin _ g3]) ⟨fun b hb => hm b (List.mem_cons_of_mem _ hb), _, rfl, rfl⟩
  · rintro ρ ⟨_, s2, hs, rfl⟩
    refine rn_fin (a := .rt (.bool true) [.d T, .d (arsD C.ars), s2, .u]) ?_ ⟨_, rfl, _, _, rfl⟩
    generalize strL (C.ars.map Arw.n) = L at *
    generalize C.ars.map Arw.d = L2 at *
    simp [hit, h3]
    cases s2 with
    | m xs => cases hs
    | _ => simp [e3, e2]
theorem is_cell_ok {C : Cpd} (o : Ok C) {c : Cel} (hc : c ∈ C.cls) : m_is_cell [.d (sT C.pts), .d (arsD C.ars), .d c.d] = .ok (.bool true, [.d (sT C.pts), .d (arsD C.ars), .d c.d]) := by
  obtain ⟨g1, g2, g3, g4, q, g5, g6⟩ := o.cn c hc
  obtain ⟨l1, k1, k2⟩ := stop_pth g5
  obtain ⟨l2, k3, k4⟩ := stop_pth g6
  have e1 := chained_ok C.ars c.p c.up (by omega)
  have e2 := chained_ok C.ars c.p c.lo (by omega)
  rw [k1] at e1
  rw [k3] at e2
  have t1 := tup_s c.up 0 6
  have t2 := tup_s c.lo 0 6
  have h1 : (c.up.length : Int) ≤ 6 := by omega
  have h2 : (c.lo.length : Int) ≤ 6 := by omega
  simp only [Int.natCast_nonneg, h1, h2, decide_true, Bool.and_true] at t1 t2
  have hin : ninD (.str c.p) (sT C.pts) = some (.bool false) := by simp [g2]
  have a1 : ixD (chD (some l1)) (.int (-1)) = some (.str q) := by
    simp only [chD, ixD_l]
    rw [atI_last _ (by simpa using pth_ne k1), List.getLast?_map, k2]; rfl
  have a2 : ixD (chD (some l2)) (.int (-1)) = some (.str q) := by
    simp only [chD, ixD_l]
    rw [atI_last _ (by simpa using pth_ne k3), List.getLast?_map, k4]; rfl
  have b1 : notNonD (chD (some l1)) .none = some (.bool true) := rfl
  have b2 : notNonD (chD (some l2)) .none = some (.bool true) := rfl
  have n1 := is_name_ok (.str c.n)
  have n2 := is_name_ok (.str c.p)
  rw [g1] at n1
  rw [o.pn _ g2] at n2
  rw [m_is_cell_eq]
  unfold S_is_cell
  generalize chD (some l1) = D1 at *
  generalize chD (some l2) = D2 at *
  generalize sT C.pts = T at *
  have u2 := Cel.i2 c
  have u3 := Cel.i3 c
  generalize sT c.up = U at *
  generalize sT c.lo = L at *
  simp [tup_cel, n1, n2, hin, t1, t2, e1, e2, a1, a2, b1, b2, u2, u3]
theorem is_computad_ok {C : Cpd} (o : Ok C) : m_is_computad [.d C.d] = .ok (.bool true, [.d C.d]) := by
  have e1 := tup_c C.cls 0 20
  have h2 : (C.cls.length : Int) ≤ 20 := by have := o.c2; omega
  simp only [Int.natCast_nonneg, h2, decide_true, Bool.and_true] at e1
  have e2 := asc_list (C.cls.map Cel.n) (by have := o.c2; simp; omega)
  rw [o.ca] at e2
  have e3 : lcL (setD 1) tYs (eOp ixD (eVar 1) (eC (.int 0))) [1] (C.cls.map Cel.d) [.d C.d, .u] = .ok (strL (C.cls.map Cel.n), [.d C.d, .u]) := by
    rw [show strL (C.cls.map Cel.n) = C.cls.map (fun a => PyData.str a.n) by simp [Function.comp_def]]
    exact lc_map (fun a : Cel => PyData.str a.n) fun x hx => by simp
  have e4 : lcL (setD 1) tYs (eUser 3 (m_is_cell) (cD (eOp ixD (eVar 0) (eC (.int 0))) (cD (eOp ixD (eVar 0) (eC (.int 1))) (cD (eVar 1) (cNil))))) [1] (C.cls.map Cel.d) [.d C.d, .u] = .ok (C.cls.map (fun _ => .bool true), [.d C.d, .u]) :=
    lc_map (fun _ => .bool true) fun c hc => by
      have := is_cell_ok o hc
      have u0 := Cpd.i0 C
      generalize sT C.pts = T at *
      simp [this, u0]
  have h3 : (C.cls.map Cel.d).length ≤ 1000000 := by simp; omega
  have p1 := are_points_ok o
  have p2 := are_arrows_ok o
  have u0 := Cpd.i0 C
  have hit := iter_cls C.cls
  rw [m_is_computad_eq]
  unfold S_is_computad
  generalize sT C.pts = T at *
  generalize strL (C.cls.map Cel.n) = L at *
  generalize C.cls.map Cel.d = L2 at *
  simp [tup_C, e1, e2, e3, e4, p1, p2, u0, hit, h3, blsR]
theorem need_computad_ok {C : Cpd} (o : Ok C) : m_need_computad [.d C.d] = .ok (.none, [.d C.d]) := by
  rw [m_need_computad_eq]
  unfold S_need_computad
  simp [is_computad_ok o]
end Pd
end

section
/-! Pd: paths, layers, diagrams as plain data; what the program's tests and functions answer for them. -/
namespace Pd
open PySem L2
abbrev Lay := Nat × Str
def pD (p : Str) (ns : List Str) : D := .tuple [.str p, sT ns]
def yD (l : Lay) : D := .tuple [.int (l.1 : Int), .str l.2]
def ysD (ls : List Lay) : D := .tuple (ls.map yD)
def dD (p : Str) (ns : List Str) (ls : List Lay) : D := .tuple [pD p ns, ysD ls]
@[simp] theorem pD_0 (p : Str) (ns : List Str) : ixD (pD p ns) (.int 0) = some (.str p) := by unfold pD; simp
@[simp] theorem pD_1 (p : Str) (ns : List Str) : ixD (pD p ns) (.int 1) = some (sT ns) := by unfold pD; simp
@[simp] theorem yD_0 (l : Lay) : ixD (yD l) (.int 0) = some (.int l.1) := by unfold yD; simp
@[simp] theorem yD_1 (l : Lay) : ixD (yD l) (.int 1) = some (.str l.2) := by unfold yD; simp
@[simp] theorem dD_0 (p : Str) (ns : List Str) (ls : List Lay) : ixD (dD p ns ls) (.int 0) = some (pD p ns) := by unfold dD; simp
@[simp] theorem dD_1 (p : Str) (ns : List Str) (ls : List Lay) : ixD (dD p ns ls) (.int 1) = some (ysD ls) := by unfold dD; simp
@[simp] theorem iter_ls (ls : List Lay) : iterD (ysD ls) = some (ls.map yD) := rfl
theorem sT_ix {ns : List Str} {j : Nat} {n : Str} (h : ns[j]? = some n) : ixD (sT ns) (.int (j : Int)) = some (.str n) := by
  rw [ixD_t, atI_nat, List.getElem?_map, h]; rfl
theorem sT_take (ns : List Str) (k : Nat) : slD (sT ns) none (some (k : Int)) = some (sT (ns.take k)) := by
  rw [slD_t, cut_map, cut_take]
theorem sT_drop (ns : List Str) (k m : Nat) : slD (sT ns) (some ((k : Int) + (m : Int))) none = some (sT (ns.drop (k + m))) := by
  rw [slD_t, cut_map, show (k : Int) + (m : Int) = ((k + m : Nat) : Int) by omega, cut_drop]
theorem sT_mid (ns : List Str) (k m : Nat) : slD (sT ns) (some (k : Int)) (some ((k : Int) + (m : Int))) = some (sT ((ns.drop k).take m)) := by
  rw [slD_t, cut_map, cut_mid]
theorem sT_add (xs ys : List Str) (h : xs.length + ys.length ≤ 16000000) : addD (sT xs) (sT ys) = some (sT (xs ++ ys)) := by
  rw [addD_t, if_pos (by rw [sizeLine_eq]; simp; omega)]
  simp
theorem sT_len (xs : List Str) : lenD [sT xs] = some (.int xs.length) := by
  rw [lenD_t]; simp
theorem sT_eq (xs ys : List Str) : eqD (sT xs) (sT ys) = some (.bool (decide (xs = ys))) := by
  simp
theorem str_eq (x y : Str) : eqD (.str x) (.str y) = some (.bool (decide (x = y))) := by
  simp
  by_cases h : x = y <;> simp [h]
/-! ### rows, points -/
theorem cell_row_ok (C : Cpd) (n : Str) : m_cell_row [.d C.d, .d (.str n)] = .ok (rowD Cel.d (rowC C.cls n), [.d C.d, .d (.str n)]) := by
  simp [m_cell_row_eq, S_cell_row, row_of_cls]
theorem nxt_some {as : List Arw} {p n q : Str} (h : nxt as p n = some q) : ∃ a, rowA as n = some a ∧ a.p = p ∧ a.q = q := by
  unfold nxt at h
  cases h2 : rowA as n with
  | none => rw [h2] at h; simp at h
  | some a =>
    rw [h2] at h
    by_cases c : a.p = p
    · simp [c] at h
      exact ⟨a, rfl, c, h⟩
    · simp [c] at h
theorem point_at_ok (C : Cpd) {p r : Str} {ns : List Str} {k : Nat} (hk : k ≤ ns.length) (h : stop C.ars p (ns.take k) = some r) :
    m_point_at [.d C.d, .d (pD p ns), .d (.int (k : Int))] = .ok (.str r, [.d C.d, .d (pD p ns), .d (.int (k : Int))]) := by
  rw [m_point_at_eq]
  unfold S_point_at pD
  cases k with
  | zero =>
    simp [stop] at h
    subst h
    generalize sT ns = N
    simp
  | succ j =>
    obtain ⟨n, hn⟩ : ∃ n, ns[j]? = some n := ⟨ns[j], List.getElem?_eq_getElem (by omega)⟩
    have ht : ns.take (j + 1) = ns.take j ++ [n] := by
      rw [List.take_succ, hn]; rfl
    rw [ht, stop_append] at h
    cases h2 : stop C.ars p (ns.take j) with
    | none => rw [h2] at h; simp at h
    | some s =>
      rw [h2] at h
      simp only [Option.bind_some, stop] at h
      cases h3 : nxt C.ars s n with
      | none => rw [h3] at h; simp at h
      | some q =>
        rw [h3] at h
        simp at h
        subst h
        obtain ⟨a, e1, e2, e3⟩ := nxt_some h3
        have e4 := row_of_ars C.ars n
        rw [e1] at e4
        have e5 := sT_ix hn
        subst e3
        have e6 : ((j + 1 : Nat) : Int) - 1 = (j : Int) := by omega
        have e7 : (0 : Int) < ((j + 1 : Nat) : Int) := by omega
        generalize ((j + 1 : Nat) : Int) = J at *
        generalize sT ns = N at *
        simp [e4, e5, e6, e7, rowD]
/-! ### layers -/
def apl (C : Cpd) (p : Str) (ns : List Str) (l : Lay) : Bool := decide (l.1 ≤ ns.length) && match rowC C.cls l.2 with
  | none => false
  | some c => decide (stop C.ars p (ns.take l.1) = some c.p) && decide ((ns.drop l.1).take c.up.length = c.up)
def aft (C : Cpd) (ns : List Str) (l : Lay) : List Str := match rowC C.cls l.2 with
  | none => ns
  | some c => ns.take l.1 ++ c.lo ++ ns.drop (l.1 + c.up.length)
theorem tup_l (l : Lay) : m_is_tuple_of [.d (yD l), .d (.int 2), .d (.int 2)] = .ok (.bool true, [.d (yD l), .d (.int 2), .d (.int 2)]) := by
  unfold yD; rw [is_tuple_of_ok]; simp
theorem tup_p (p : Str) (ns : List Str) : m_is_tuple_of [.d (pD p ns), .d (.int 2), .d (.int 2)] = .ok (.bool true, [.d (pD p ns), .d (.int 2), .d (.int 2)]) := by
  unfold pD; rw [is_tuple_of_ok]; simp
theorem tup_d (p : Str) (ns : List Str) (ls : List Lay) : m_is_tuple_of [.d (dD p ns ls), .d (.int 2), .d (.int 2)] = .ok (.bool true, [.d (dD p ns ls), .d (.int 2), .d (.int 2)]) := by
  unfold dD; rw [is_tuple_of_ok]; simp
theorem tup_ls (ls : List Lay) (lo hi : Int) : m_is_tuple_of [.d (ysD ls), .d (.int lo), .d (.int hi)] = .ok (.bool (decide (lo ≤ ls.length) && decide ((ls.length : Int) ≤ hi)), [.d (ysD ls), .d (.int lo), .d (.int hi)]) := by
  unfold ysD; rw [is_tuple_of_ok]; simp
theorem applies_ok (C : Cpd) {p q : Str} {ns : List Str} (hs : stop C.ars p ns = some q) (l : Lay) :
    m_applies [.d C.d, .d (pD p ns), .d (yD l)] = .ok (.bool (apl C p ns l), [.d C.d, .d (pD p ns), .d (yD l)]) := by
  obtain ⟨k, n⟩ := l
  have t := tup_l (k, n)
  have w := is_whole_ok (k : Int) 0 (ns.length : Int)
  have i0 := yD_0 (k, n)
  have i1 := pD_1 p ns
  have ln := sT_len ns
  rw [m_applies_eq]
  unfold S_applies apl
  by_cases c : k ≤ ns.length
  · have c2 : (k : Int) ≤ (ns.length : Int) := by omega
    simp only [Int.natCast_nonneg, c2, decide_true, Bool.and_true] at w
    have r := cell_row_ok C n
    obtain ⟨x, hx, _⟩ := stop_take hs k
    have pa := point_at_ok C c hx
    have hl : ∀ D2 ρ, gTupD 2 (gsCons (setD 3) (gsCons (setD 4) gsNil)) (yD (k, n)) [.d C.d, .d D2, .d (yD (k, n)), .u, .u, .u] = some ρ ↔ ρ = [.d C.d, .d D2, .d (yD (k, n)), .d (.int k), .d (.str n), .u] := fun D2 ρ => by
      unfold yD
      simp
      exact eq_comm
    have hl2 := fun D2 => (hl D2 _).mpr rfl
    simp only [decide_eq_true c, Bool.true_and]
    cases q2 : rowC C.cls n with
    | none =>
      rw [q2] at r
      generalize sT ns = N at *
      generalize pD p ns = P at *
      generalize yD (k, n) = LL at *
      refine fn_rt (ρ' := [.d C.d, .d P, .d LL, .d (.int k), .d (.str n), .d .none]) rfl (sq (ρ' := [.d C.d, .d P, .d LL, .u, .u, .u]) (by simp [t, w, i0, i1, ln]) (sq (asg (ρ' := [.d C.d, .d P, .d LL, .u, .u, .u]) (d := LL) (by simp) (hl2 P)) ?_)) (by simp) (by simp)
      simp [r, rowD]
    | some cl =>
      rw [q2] at r
      have e1 := str_eq x cl.p
      have e2 := sT_mid ns k cl.up.length
      have e3 := sT_eq ((ns.drop k).take cl.up.length) cl.up
      have e4 := sT_len cl.up
      have u2 := Cel.i2 cl
      have hc : ((stop C.ars p (ns.take k) = some cl.p)) = (x = cl.p) := by rw [hx]; simp
      simp only [hc]
      generalize hU : sT cl.up = U at *
      generalize sT ((ns.drop k).take cl.up.length) = V at *
      generalize sT ns = N at *
      generalize pD p ns = P at *
      generalize yD (k, n) = LL at *
      refine fn_rt (ρ' := [.d C.d, .d P, .d LL, .d (.int k), .d (.str n), .d cl.d]) rfl (sq (ρ' := [.d C.d, .d P, .d LL, .u, .u, .u]) (by simp [t, w, i0, i1, ln]) (sq (asg (ρ' := [.d C.d, .d P, .d LL, .u, .u, .u]) (d := LL) (by simp) (hl2 P)) ?_)) (by simp) (by simp)
      by_cases d1 : x = cl.p
      · subst d1
        simp [-eqD_def, r, rowD, pa, e1, e2, e3, e4, u2, i1]
      · simp [-eqD_def, r, rowD, pa, e1, e2, e3, e4, u2, i1, d1]
  · have c2 : ¬ (k : Int) ≤ (ns.length : Int) := by omega
    simp only [c2, decide_false, Bool.and_false] at w
    generalize sT ns = N at *
    generalize pD p ns = P at *
    generalize yD (k, n) = LL at *
    refine fn_rt (ρ' := [.d C.d, .d P, .d LL, .u, .u, .u]) rfl (sqr (ρ' := [.d C.d, .d P, .d LL, .u, .u, .u]) ?_) (by simp) (by simp)
    simp [t, w, i0, i1, ln, c]
end Pd
end

section
/-! Pd: results of layers, paths, sizes; is_diagram. -/
namespace Pd
open PySem L2
def run (C : Cpd) (p : Str) : List Str → List Lay → Option (List Str)
  | ns, [] => some ns
  | ns, l :: ls => if apl C p ns l = true then run C p (aft C ns l) ls else none
def pths (C : Cpd) : List Str → List Lay → List (List Str)
  | ns, [] => [ns]
  | ns, l :: ls => ns :: pths C (aft C ns l) ls
def sz1 (C : Cpd) (l : Lay) : Nat := match rowC C.cls l.2 with
  | some c => c.lo.length
  | none => 0
def szL (C : Cpd) (ls : List Lay) : Nat := (ls.map (sz1 C)).sum
theorem apl_row {C : Cpd} {p : Str} {ns : List Str} {l : Lay} (h : apl C p ns l = true) : ∃ c, rowC C.cls l.2 = some c ∧ c ∈ C.cls ∧ l.1 ≤ ns.length ∧ stop C.ars p (ns.take l.1) = some c.p ∧ (ns.drop l.1).take c.up.length = c.up := by
  unfold apl at h
  rw [Bool.and_eq_true, decide_eq_true_eq] at h
  cases q : rowC C.cls l.2 with
  | none => rw [q] at h; simp at h
  | some c =>
    rw [q] at h
    simp only [Bool.and_eq_true, decide_eq_true_eq] at h
    exact ⟨c, rfl, List.mem_of_find?_eq_some q, h.1, h.2.1, h.2.2⟩
theorem cut3 {ns up : List Str} {k : Nat} (h : (ns.drop k).take up.length = up) : ns = ns.take k ++ (up ++ ns.drop (k + up.length)) := by
  have h1 : ns.drop k = up ++ ns.drop (k + up.length) := by
    rw [← List.drop_drop]
    have := List.take_append_drop up.length (ns.drop k)
    rw [h] at this
    exact this.symm
  rw [← h1, List.take_append_drop]
theorem aft_ok {C : Cpd} (o : Ok C) {p q : Str} {ns : List Str} {l : Lay} (hs : stop C.ars p ns = some q) (h : apl C p ns l = true) : stop C.ars p (aft C ns l) = some q ∧ (aft C ns l).length ≤ ns.length + 6 := by
  obtain ⟨c, e, hm, hk, h1, h2⟩ := apl_row h
  obtain ⟨_, _, g3, g4, z, g5, g6⟩ := o.cn c hm
  have e3 := cut3 h2
  unfold aft
  rw [e]
  constructor
  · rw [e3, stop_append, h1, Option.bind_some, stop_append, g5, Option.bind_some] at hs
    simp only
    rw [List.append_assoc, stop_append, h1, Option.bind_some, stop_append, g6, Option.bind_some]
    exact hs
  · simp
    omega
theorem after_ok (C : Cpd) (p : Str) {ns : List Str} {l : Lay} {c : Cel} (e : rowC C.cls l.2 = some c) (hl : ns.length ≤ 1000000) (hc : c.lo.length ≤ 1000000) :
    m_after_layer [.d C.d, .d (pD p ns), .d (yD l)] = .ok (pD p (aft C ns l), [.d C.d, .d (pD p ns), .d (yD l)]) := by
  obtain ⟨k, n⟩ := l
  have r := cell_row_ok C n
  rw [e] at r
  have e1 := sT_take ns k
  have e2 := sT_drop ns k c.up.length
  have e3 := sT_len c.up
  have a1 := sT_add (ns.take k) c.lo (by simp; omega)
  have a2 := sT_add (ns.take k ++ c.lo) (ns.drop (k + c.up.length)) (by simp; omega)
  have u2 := Cel.i2 c
  have u3 := Cel.i3 c
  rw [m_after_layer_eq]
  unfold S_after_layer aft pD yD
  rw [e]
  generalize sT (ns.take k ++ c.lo ++ ns.drop (k + c.up.length)) = X1 at *
  generalize sT (ns.take k ++ c.lo) = X2 at *
  generalize sT (ns.drop (k + c.up.length)) = X3 at *
  generalize sT (ns.take k) = X4 at *
  generalize sT ns = N at *
  generalize sT c.up = U at *
  generalize sT c.lo = V at *
  simp [r, rowD, e1, e2, e3, a1, a2, u2, u3]
/-- that a row of layers applies -/
theorem run_cons {C : Cpd} {p : Str} {ns : List Str} {l : Lay} {ls : List Lay} {r : List Str} (h : run C p ns (l :: ls) = some r) : apl C p ns l = true ∧ run C p (aft C ns l) ls = some r := by
  unfold run at h
  by_cases c : apl C p ns l = true
  · rw [if_pos c] at h; exact ⟨c, h⟩
  · rw [if_neg c] at h; cases h
theorem run_ok {C : Cpd} (o : Ok C) {p q : Str} : ∀ {ls : List Lay} {ns r : List Str}, stop C.ars p ns = some q → run C p ns ls = some r → stop C.ars p r = some q ∧ r.length ≤ ns.length + 6 * ls.length
  | [], ns, r, h, e => by cases e; exact ⟨h, by omega⟩
  | l :: ls, ns, r, h, e => by
    obtain ⟨c, e2⟩ := run_cons e
    obtain ⟨h2, h3⟩ := aft_ok o h c
    obtain ⟨h4, h5⟩ := run_ok o h2 e2
    exact ⟨h4, by simp; omega⟩
theorem run_rows {C : Cpd} {p : Str} : ∀ {ls : List Lay} {ns r : List Str}, run C p ns ls = some r → ∀ l ∈ ls, ∃ c, rowC C.cls l.2 = some c ∧ c ∈ C.cls
  | [], _, _, _, _, h => nomatch h
  | l :: ls, ns, r, e, x, h => by
    obtain ⟨c, e2⟩ := run_cons e
    rcases List.mem_cons.mp h with rfl | h
    · obtain ⟨cl, h1, h2, _⟩ := apl_row c
      exact ⟨cl, h1, h2⟩
    · exact run_rows e2 x h
theorem pths_ne (C : Cpd) (ns : List Str) (ls : List Lay) : pths C ns ls ≠ [] := by cases ls <;> simp [pths]
theorem pths_len (C : Cpd) : ∀ (ls : List Lay) (ns : List Str), (pths C ns ls).length = ls.length + 1
  | [], _ => rfl
  | l :: ls, ns => by simp [pths, pths_len C ls]
theorem pths_last {C : Cpd} {p : Str} : ∀ {ls : List Lay} {ns r : List Str}, run C p ns ls = some r → (pths C ns ls).getLast? = some r
  | [], ns, r, e => by cases e; rfl
  | l :: ls, ns, r, e => by
    obtain ⟨_, e2⟩ := run_cons e
    have := pths_last e2
    rw [pths, List.getLast?_cons, this]
    rfl
theorem pths_mem {C : Cpd} (o : Ok C) {p q : Str} : ∀ {ls : List Lay} {ns r : List Str}, stop C.ars p ns = some q → run C p ns ls = some r → ∀ x ∈ pths C ns ls, stop C.ars p x = some q ∧ x.length ≤ ns.length + 6 * ls.length
  | [], ns, r, h, _, x, hx => by
    simp [pths] at hx
    subst hx
    exact ⟨h, by omega⟩
  | l :: ls, ns, r, h, e, x, hx => by
    obtain ⟨c, e2⟩ := run_cons e
    obtain ⟨h2, h3⟩ := aft_ok o h c
    rw [pths] at hx
    rcases List.mem_cons.mp hx with rfl | hx
    · exact ⟨h, by omega⟩
    · obtain ⟨h4, h5⟩ := pths_mem o h2 e2 x hx
      exact ⟨h4, by simp; omega⟩
theorem paths_in_ok {C : Cpd} (o : Ok C) {p q : Str} {ns r : List Str} {ls : List Lay} (hs : stop C.ars p ns = some q) (hr : run C p ns ls = some r) (hl : ns.length + 6 * ls.length ≤ 100000) :
    m_paths_in [.d C.d, .d (dD p ns ls)] = .ok (.tuple ((pths C ns ls).map (pD p)), [.d C.d, .d (dD p ns ls)]) := by
  have i0 := dD_0 p ns ls
  have i1 := dD_1 p ns ls
  have it := iter_ls ls
  rw [m_paths_in_eq]
  unfold S_paths_in
  generalize hT : pths C ns ls = T
  generalize dD p ns ls = DD at *
  refine fn_end (ρ0 := [.d C.d, .d DD, .u, .u]) rfl (P := fun ρ' => ∃ s2 s3, ρ' = [.d C.d, .d DD, s2, s3]) ?_ (fun ρ' h => by
    obtain ⟨s3, s4, rfl⟩ := h; simp)
  refine rn_nx (ρ' := [.d C.d, .d DD, .m [pD p ns], .u]) (by simp [i0]) ?_
  refine for_rn (ρ1 := [.d C.d, .d DD, .m [pD p ns], .u]) (xs := ls) yD
    (fun ys ρ => ∃ pre cur s3, nm s3 = true ∧ pre ++ pths C cur ys = T ∧ stop C.ars p cur = some q ∧ run C p cur ys = some r ∧ cur.length + 6 * ys.length ≤ 100000 ∧ pre.length + ys.length ≤ 100000 ∧ ρ = [.d C.d, .d DD, .m ((pre ++ [cur]).map (pD p)), s3])
    NoJ (by generalize ysD ls = YL at *; simp [i1, it]) ⟨[], ns, .u, rfl, hT, hs, hr, hl, by simp; omega, rfl⟩ ?_ ?_ (fun _ _ h => h.elim)
  · rintro l ys ρ ⟨pre, cur, s3, h3, hp, hc, hr, hl1, hl2, rfl⟩
    obtain ⟨ha, hr2⟩ := run_cons hr
    obtain ⟨c, e1, e2, _⟩ := apl_row ha
    obtain ⟨h2, h4⟩ := aft_ok o hc ha
    have af := after_ok C p (ns := cur) (l := l) e1 (by simp at hl1; omega) (by have := (o.cn c e2).2.2.2.1; omega)
    have hlast : atI ((pre ++ [cur]).map (pD p)) (-1) = some (pD p cur) := by
      rw [List.map_append]
      exact atI_snoc _ _
    have hsn : (pre ++ [cur] ++ [aft C cur l]).map (pD p) = (pre ++ [cur]).map (pD p) ++ [pD p (aft C cur l)] := by simp
    have hn : ((pre ++ [cur]).map (pD p)).length < 1000000 := by simp; simp at hl2; omega
    refine ⟨[.d C.d, .d DD, .m ((pre ++ [cur]).map (pD p)), .d (yD l)], by simp [h3], ?_⟩
    refine go (ρ2 := [.d C.d, .d DD, .m ((pre ++ [cur] ++ [aft C cur l]).map (pD p)), .d (yD l)]) ?_ ⟨pre ++ [cur], aft C cur l, _, rfl, ?_, h2, hr2, by simp at hl1 ⊢; omega, by simp at hl2 ⊢; omega, rfl⟩
    · rw [hsn]
      generalize (pre ++ [cur]).map (pD p) = M at *
      generalize pD p cur = P1 at *
      generalize pD p (aft C cur l) = P2 at *
      generalize yD l = Y at *
      simp [af, hlast, hn]
    · rw [← hp, pths]
      simp
  · rintro ρ ⟨pre, cur, s3, h3, hp, hc, hr, hl1, hl2, rfl⟩
    rw [pths] at hp
    subst hp
    refine rn_fin (a := .rt (.tuple ((pre ++ [cur]).map (pD p))) [.d C.d, .d DD, .m ((pre ++ [cur]).map (pD p)), s3]) ?_ ⟨_, rfl, _, _, rfl⟩
    generalize (pre ++ [cur]).map (pD p) = M
    simp
theorem sides_of_ok (C : Cpd) {n : Str} {c : Cel} (e : rowC C.cls n = some c) : m_sides_of [.d C.d, .d (.str n)] = .ok (.tuple [.int c.up.length, .int c.lo.length], [.d C.d, .d (.str n)]) := by
  have r := cell_row_ok C n
  rw [e] at r
  have e3 := sT_len c.up
  have e4 := sT_len c.lo
  have u2 := Cel.i2 c
  have u3 := Cel.i3 c
  rw [m_sides_of_eq]
  unfold S_sides_of
  generalize sT c.up = U at *
  generalize sT c.lo = V at *
  simp [r, rowD, e3, e4, u2, u3]
theorem sum_nat (l : List Nat) : (l.map fun (n : Nat) => (n : Int)).sum = ((l.sum : Nat) : Int) := by
  induction l with
  | nil => rfl
  | cons a l ih => simp [ih]
theorem size_in_ok (C : Cpd) (p : Str) (ns : List Str) {ls : List Lay} (h : ∀ l ∈ ls, ∃ c, rowC C.cls l.2 = some c) (hl : ls.length ≤ 1000000) :
    m_size_in [.d C.d, .d (dD p ns ls)] = .ok (.int ((ns.length + szL C ls : Nat) : Int), [.d C.d, .d (dD p ns ls)]) := by
  have it := iter_ls ls
  have i1 := pD_1 p ns
  have ln := sT_len ns
  have e : ∀ DD P YL, lcL (gTupD 2 (gsCons (setD 4) (gsCons (setD 5) (gsNil)))) tYs (eOp ixD (eUser 2 (m_sides_of) (cD (eVar 0) (cD (eVar 5) (cNil)))) (eC (.int 1))) [4, 5] (ls.map yD) [.d C.d, .d DD, .d P, .d YL, .u, .u] = .ok (ls.map (fun l => .int (sz1 C l : Int)), [.d C.d, .d DD, .d P, .d YL, .u, .u]) := fun DD P YL => lc_map (fun l => .int (sz1 C l : Int)) fun l hm => by
    obtain ⟨c, hc⟩ := h l hm
    have s := sides_of_ok C hc
    unfold sz1
    rw [hc]
    unfold yD
    simp [s]
  have hn : (ls.map yD).length ≤ 1000000 := by simpa using hl
  have hi : intsOf (ls.map fun l => .int (sz1 C l : Int)) = some (ls.map fun l => (sz1 C l : Int)) := intsM _ _
  have hsum : (ls.map fun l => (sz1 C l : Int)).sum = ((szL C ls : Nat) : Int) := by
    unfold szL
    rw [← sum_nat, List.map_map]
    rfl
  rw [m_size_in_eq]
  unfold S_size_in dD
  generalize sT ns = N at *
  generalize pD p ns = P at *
  generalize ysD ls = YL at *
  generalize (ls.map fun l => PyData.int (sz1 C l : Int)) = Z at *
  generalize ls.map yD = Y at *
  simp [it, i1, ln, e, hn, hi, hsum]
/-! ### paths, diagrams -/
def pathB (C : Cpd) (p : Str) (ns : List Str) : Bool := decide (p ∈ C.pts) && (decide (ns.length ≤ 400) && (stop C.ars p ns).isSome)
def dgB (C : Cpd) (p : Str) (ns : List Str) (ls : List Lay) : Bool := pathB C p ns && (decide (ls.length ≤ 200) && ((run C p ns ls).isSome && decide (ns.length + szL C ls ≤ 400)))
theorem is_path_in_ok {C : Cpd} (o : Ok C) (p : Str) {ns : List Str} (hl : ns.length < 800000) : m_is_path_in [.d C.d, .d (pD p ns)] = .ok (.bool (pathB C p ns), [.d C.d, .d (pD p ns)]) := by
  have t := tup_p p ns
  have n := is_name_ok (.str p)
  have t2 := tup_s ns 0 400
  have ch := chained_ok C.ars p ns hl
  have i0 := pD_0 p ns
  have i1 := pD_1 p ns
  have u0 := Cpd.i0 C
  have hin : ninD (.str p) (sT C.pts) = some (.bool (!decide (p ∈ C.pts))) := by simp
  rw [m_is_path_in_eq]
  unfold S_is_path_in pathB
  by_cases c1 : p ∈ C.pts
  · rw [o.pn _ c1] at n
    by_cases c2 : ns.length ≤ 400
    · have c3 : (ns.length : Int) ≤ 400 := by omega
      simp only [Int.natCast_nonneg, c3, decide_true, Bool.and_true] at t2
      cases c4 : pth C.ars p ns with
      | none =>
        have h5 : stop C.ars p ns = none := by rw [← pth_stop, c4]; rfl
        rw [c4] at ch
        have b1 : notNonD (chD none) .none = some (.bool false) := rfl
        generalize sT ns = N at *
        generalize pD p ns = P at *
        generalize sT C.pts = T at *
        generalize chD none = CH at *
        simp [t, n, t2, ch, i0, i1, u0, hin, c1, c2, h5, b1]
      | some l =>
        have h5 : ∃ q, stop C.ars p ns = some q := by
          rw [← pth_stop, c4]
          simp only [Option.bind_some]
          exact ⟨_, List.getLast?_eq_some_getLast (pth_ne c4)⟩
        obtain ⟨q, h5⟩ := h5
        rw [c4] at ch
        have b1 : notNonD (chD (some l)) .none = some (.bool true) := rfl
        generalize sT ns = N at *
        generalize pD p ns = P at *
        generalize sT C.pts = T at *
        generalize chD (some l) = CH at *
        simp [t, n, t2, ch, i0, i1, u0, hin, c1, c2, h5, b1]
    · have c3 : ¬ (ns.length : Int) ≤ 400 := by omega
      simp only [c3, decide_false, Bool.and_false] at t2
      generalize sT ns = N at *
      generalize pD p ns = P at *
      generalize sT C.pts = T at *
      simp [t, n, t2, i0, i1, u0, hin, c1, c2]
  · generalize sT ns = N at *
    generalize pD p ns = P at *
    generalize sT C.pts = T at *
    cases q : nmB (.str p) <;> simp [t, n, q, t2, i0, i1, u0, hin, c1]
theorem is_diagram_in_ok {C : Cpd} (o : Ok C) (p : Str) {ns : List Str} {ls : List Lay} (hl : ns.length < 800000) : m_is_diagram_in [.d C.d, .d (dD p ns ls)] = .ok (.bool (dgB C p ns ls), [.d C.d, .d (dD p ns ls)]) := by
  have t := tup_d p ns ls
  have pa := is_path_in_ok o p hl
  have t2 := tup_ls ls 0 200
  have i0 := dD_0 p ns ls
  have i1 := dD_1 p ns ls
  have it := iter_ls ls
  have sz := fun h => size_in_ok C p ns (ls := ls) h
  rw [m_is_diagram_in_eq]
  unfold S_is_diagram_in dgB
  by_cases c1 : pathB C p ns = true
  · rw [c1] at pa ⊢
    by_cases c2 : ls.length ≤ 200
    · have c3 : (ls.length : Int) ≤ 200 := by omega
      simp only [Int.natCast_nonneg, c3, decide_true, Bool.and_true] at t2
      simp only [decide_eq_true c2, Bool.true_and]
      unfold pathB at c1
      simp only [Bool.and_eq_true, decide_eq_true_eq] at c1
      obtain ⟨_, c4, c5⟩ := c1
      obtain ⟨q, hs⟩ := Option.isSome_iff_exists.mp c5
      generalize hR : run C p ns ls = R
      generalize hDD : dD p ns ls = DD at *
      refine fn_end (ρ0 := [.d C.d, .d DD, .u, .u]) rfl (P := fun ρ' => ∃ s2 s3, ρ' = [.d C.d, .d DD, s2, s3]) ?_ (fun ρ' h => by
        obtain ⟨s3, s4, rfl⟩ := h; simp)
      refine rn_nx (ρ' := [.d C.d, .d DD, .u, .u]) (by
        generalize pD p ns = P at *
        generalize ysD ls = YL at *
        simp [t, pa, t2, i0, i1]) ?_
      refine rn_nx (ρ' := [.d C.d, .d DD, .d (pD p ns), .u]) (by
        generalize pD p ns = P at *
        simp [i0]) ?_
      refine for_rn (ρ1 := [.d C.d, .d DD, .d (pD p ns), .u]) (xs := ls) yD
        (fun ys ρ => ∃ cur s3, nm s3 = true ∧ stop C.ars p cur = some q ∧ run C p cur ys = R ∧ cur.length + 6 * ys.length ≤ 100000 ∧ ρ = [.d C.d, .d DD, .d (pD p cur), s3])
        (fun d ρ => R = none ∧ d = .bool false ∧ ∃ s2 s3, ρ = [.d C.d, .d DD, s2, s3]) (by generalize ysD ls = YL at *; simp [i1, it]) ⟨ns, .u, rfl, hs, hR, by omega, rfl⟩ ?_ ?_ ?_
      · rintro l ys ρ ⟨cur, s3, h3, hc, hr, hl1, rfl⟩
        have ap := applies_ok C hc l
        refine ⟨[.d C.d, .d DD, .d (pD p cur), .d (yD l)], by simp [h3], ?_⟩
        by_cases ca : apl C p cur l = true
        · rw [ca] at ap
          rw [run, if_pos ca] at hr
          obtain ⟨c, e1, e2, _⟩ := apl_row ca
          obtain ⟨h2, h4⟩ := aft_ok o hc ca
          have af := after_ok C p (ns := cur) (l := l) e1 (by simp at hl1; omega) (by have := (o.cn c e2).2.2.2.1; omega)
          refine go (ρ2 := [.d C.d, .d DD, .d (pD p (aft C cur l)), .d (yD l)]) ?_ ⟨aft C cur l, _, rfl, h2, hr, by simp at hl1; omega, rfl⟩
          generalize pD p cur = P1 at *
          generalize pD p (aft C cur l) = P2 at *
          generalize yD l = Y at *
          simp [ap, af]
        · rw [run, if_neg ca] at hr
          have ca' : apl C p cur l = false := by simpa using ca
          rw [ca'] at ap
          refine out (d := .bool false) (ρ2 := [.d C.d, .d DD, .d (pD p cur), .d (yD l)]) ?_ ⟨hr.symm, rfl, _, _, rfl⟩
          generalize pD p cur = P1 at *
          generalize yD l = Y at *
          simp [ap]
      · rintro ρ ⟨cur, s3, h3, hc, hr, hl1, rfl⟩
        rw [run] at hr
        subst hr
        have sz := sz (fun l hm => by
          obtain ⟨c, h1, _⟩ := run_rows hR l hm
          exact ⟨c, h1⟩) (by omega)
        refine rn_fin (a := .rt (.bool (decide (ns.length + szL C ls ≤ 400))) [.d C.d, .d DD, .d (pD p cur), s3]) ?_ ⟨[.d C.d, .d DD, .d (pD p cur), s3], ?_, _, _, rfl⟩
        · have hcast : decide (((ns.length + szL C ls : Nat) : Int) ≤ 400) = decide (ns.length + szL C ls ≤ 400) := by
            by_cases h : ns.length + szL C ls ≤ 400
            · rw [decide_eq_true h, decide_eq_true (by omega)]
            · rw [decide_eq_false h, decide_eq_false (by omega)]
          generalize pD p cur = P1 at *
          generalize ns.length + szL C ls = SZ at *
          generalize (SZ : Int) = SI at *
          simp [sz, hcast]
        · simp
      · rintro d ρ ⟨h1, rfl, s2, s3, rfl⟩
        subst h1
        exact ⟨_, rfl, _, _, rfl⟩
    · have c3 : ¬ (ls.length : Int) ≤ 200 := by omega
      simp only [c3, decide_false, Bool.and_false] at t2
      generalize pD p ns = P at *
      generalize dD p ns ls = DD at *
      generalize ysD ls = YL at *
      simp [t, pa, t2, i0, i1, c2]
  · have c1' : pathB C p ns = false := by simpa using c1
    rw [c1'] at pa ⊢
    generalize pD p ns = P at *
    generalize dD p ns ls = DD at *
    simp [t, pa, i0]
theorem is_diagram_ok {C : Cpd} (o : Ok C) (p : Str) {ns : List Str} {ls : List Lay} (hl : ns.length < 800000) : m_is_diagram [.d C.d, .d (dD p ns ls)] = .ok (.bool (dgB C p ns ls), [.d C.d, .d (dD p ns ls)]) := by
  simp [m_is_diagram_eq, S_is_diagram, need_computad_ok o, is_diagram_in_ok o p hl]
theorem is_path_ok {C : Cpd} (o : Ok C) (p : Str) {ns : List Str} (hl : ns.length < 800000) : m_is_path [.d C.d, .d (pD p ns)] = .ok (.bool (pathB C p ns), [.d C.d, .d (pD p ns)]) := by
  simp [m_is_path_eq, S_is_path, need_computad_ok o, is_path_in_ok o p hl]
theorem need_path_ok {C : Cpd} (o : Ok C) {p : Str} {ns : List Str} (h : pathB C p ns = true) : m_need_path [.d C.d, .d (pD p ns)] = .ok (.none, [.d C.d, .d (pD p ns)]) := by
  have hl : ns.length < 800000 := by
    unfold pathB at h
    simp only [Bool.and_eq_true, decide_eq_true_eq] at h
    omega
  simp [m_need_path_eq, S_need_path, is_path_ok o p hl, h]
theorem need_diagram_ok {C : Cpd} (o : Ok C) {p : Str} {ns : List Str} {ls : List Lay} (h : dgB C p ns ls = true) : m_need_diagram [.d C.d, .d (dD p ns ls)] = .ok (.none, [.d C.d, .d (dD p ns ls)]) := by
  have hl : ns.length < 800000 := by
    unfold dgB pathB at h
    simp only [Bool.and_eq_true, decide_eq_true_eq] at h
    omega
  simp [m_need_diagram_eq, S_need_diagram, is_diagram_ok o p hl, h]
/-- a diagram, with all that follows -/
structure Dg (C : Cpd) (p : Str) (ns : List Str) (ls : List Lay) (q : Str) (r : List Str) : Prop where
  b : dgB C p ns ls = true
  pm : p ∈ C.pts
  s : stop C.ars p ns = some q
  r : run C p ns ls = some r
  n4 : ns.length ≤ 400
  l2 : ls.length ≤ 200
theorem dg_of {C : Cpd} {p : Str} {ns : List Str} {ls : List Lay} (h : dgB C p ns ls = true) : ∃ q r, Dg C p ns ls q r := by
  have h' := h
  unfold dgB pathB at h'
  simp only [Bool.and_eq_true, decide_eq_true_eq] at h'
  obtain ⟨⟨h1, h2, h3⟩, h4, h5, h6⟩ := h'
  obtain ⟨q, h3⟩ := Option.isSome_iff_exists.mp h3
  obtain ⟨r, h5⟩ := Option.isSome_iff_exists.mp h5
  exact ⟨q, r, h, h1, h3, h5, h2, h4⟩
theorem diagram_size_ok {C : Cpd} (o : Ok C) {p q : Str} {ns r : List Str} {ls : List Lay} (g : Dg C p ns ls q r) : m_diagram_size [.d C.d, .d (dD p ns ls)] = .ok (.int ((ns.length + szL C ls : Nat) : Int), [.d C.d, .d (dD p ns ls)]) := by
  have sz := size_in_ok C p ns (ls := ls) (fun l hm => by
    obtain ⟨c, h1, _⟩ := run_rows g.r l hm
    exact ⟨c, h1⟩) (by have := g.l2; omega)
  have nd := need_diagram_ok o g.b
  generalize ns.length + szL C ls = SZ at *
  generalize (SZ : Int) = SI at *
  simp [m_diagram_size_eq, S_diagram_size, nd, sz]
theorem diagram_paths_ok {C : Cpd} (o : Ok C) {p q : Str} {ns r : List Str} {ls : List Lay} (g : Dg C p ns ls q r) : m_diagram_paths [.d C.d, .d (dD p ns ls)] = .ok (.tuple ((pths C ns ls).map (pD p)), [.d C.d, .d (dD p ns ls)]) := by
  have pi := paths_in_ok o g.s g.r (by have := g.l2; have := g.n4; omega)
  have nd := need_diagram_ok o g.b
  generalize (PyData.tuple ((pths C ns ls).map (pD p))) = T at *
  simp [m_diagram_paths_eq, S_diagram_paths, nd, pi]
theorem diagram_target_ok {C : Cpd} (o : Ok C) {p q : Str} {ns r : List Str} {ls : List Lay} (g : Dg C p ns ls q r) : m_diagram_target [.d C.d, .d (dD p ns ls)] = .ok (pD p r, [.d C.d, .d (dD p ns ls)]) := by
  have dp := diagram_paths_ok o g
  have hl : ixD (.tuple ((pths C ns ls).map (pD p))) (.int (-1)) = some (pD p r) := by
    rw [ixD_t, atI_last _ (by simpa using pths_ne C ns ls), List.getLast?_map, pths_last g.r]; rfl
  generalize (PyData.tuple ((pths C ns ls).map (pD p))) = T at *
  simp [m_diagram_target_eq, S_diagram_target, dp, hl]
theorem identity_ok {C : Cpd} (o : Ok C) {p : Str} {ns : List Str} (h : pathB C p ns = true) : m_identity [.d C.d, .d (pD p ns)] = .ok (dD p ns [], [.d C.d, .d (pD p ns)]) := by
  have np := need_path_ok o h
  unfold dD
  generalize pD p ns = P at *
  simp [m_identity_eq, S_identity, np, ysD]
end Pd
end

section
/-! Pd: the same questions as the laws ask them. -/
namespace Pd
open PySem L2
theorem find_key {α : Type} (k : α → Str) : ∀ {xs : List α} {x : α}, (xs.map k).Nodup → x ∈ xs → xs.find? (fun y => decide (k y = k x)) = some x
  | y :: ys, x, hn, hm => by
    rw [List.map_cons, List.nodup_cons] at hn
    rcases List.mem_cons.mp hm with rfl | hm
    · rw [List.find?_cons_of_pos (by simp)]
    · rw [List.find?_cons_of_neg, find_key k hn.2 hm]
      simp only [decide_eq_true_eq]
      intro h
      exact hn.1 (h ▸ List.mem_map_of_mem hm)
theorem rowA_mem {C : Cpd} (o : Ok C) {a : Arw} (h : a ∈ C.ars) : rowA C.ars a.n = some a := find_key Arw.n o.ad h
theorem rowC_mem {C : Cpd} (o : Ok C) {a : Cel} (h : a ∈ C.cls) : rowC C.cls a.n = some a := find_key Cel.n o.cd h
theorem rowA_some {as : List Arw} {n : Str} {a : Arw} (h : rowA as n = some a) : a ∈ as ∧ a.n = n := ⟨List.mem_of_find?_eq_some h, by simpa using List.find?_some h⟩
theorem rowC_some {as : List Cel} {n : Str} {a : Cel} (h : rowC as n = some a) : a ∈ as ∧ a.n = n := ⟨List.mem_of_find?_eq_some h, by simpa using List.find?_some h⟩
/-! ### the dict of targets -/
def kvs (as : List Arw) : List (Key × D) := as.map fun a => (.inr a.n, .str a.q)
theorem put_new {l : List (Key × D)} {k : Key} {v : D} (h : ∀ e ∈ l, e.1 ≠ k) : putKD l k v = l ++ [(k, v)] := by
  unfold putKD
  rw [if_neg]
  simp only [List.any_eq_true, decide_eq_true_eq, not_exists, not_and]
  exact fun e he => h e he
theorem merge_kvs : ∀ (as : List Arw) (pre : List (Key × D)), (as.map Arw.n).Nodup → (∀ e ∈ pre, ∀ a ∈ as, e.1 ≠ .inr a.n) → mergeKD pre (kvs as) = pre ++ kvs as
  | [], pre, _, _ => by simp [kvs, mergeKD]
  | a :: as, pre, hn, hp => by
    rw [List.map_cons, List.nodup_cons] at hn
    have e : mergeKD pre (kvs (a :: as)) = mergeKD (putKD pre (.inr a.n) (.str a.q)) (kvs as) := rfl
    rw [e, put_new (fun e he => hp e he a (List.mem_cons_self ..)), merge_kvs as _ hn.2]
    · simp [kvs]
    · intro e he b hb
      rcases List.mem_append.mp he with he | he
      · exact hp e he b (List.mem_cons_of_mem _ hb)
      · simp at he
        subst he
        intro h
        have : a.n = b.n := by simpa using h
        exact hn.1 (this ▸ List.mem_map_of_mem hb)
theorem val_kvs (n : Str) : ∀ as : List Arw, valKD (kvs as) (.inr n) = (rowA as n).map fun a => .str a.q
  | [] => rfl
  | a :: as => by
    show (if (Sum.inr a.n : Key) = .inr n then some (PyData.str a.q) else valKD (kvs as) (.inr n)) = _
    unfold rowA
    by_cases c : a.n = n
    · rw [if_pos (by rw [c]), List.find?_cons_of_pos (by simp [c])]; rfl
    · rw [if_neg (by intro h; exact c (by simpa using h)), List.find?_cons_of_neg (by simp [c]), val_kvs n as]; rfl
theorem pairs_kvs (as : List Arw) : pairsD (as.map fun a => .tuple [.str a.n, .str a.q]) = some (kvs as) := by
  induction as with
  | nil => rfl
  | cons a as ih => simp [ih, kvs]
/-- _law_along: the points along a path -/
theorem along_ok {C : Cpd} (o : Ok C) {p : Str} {ns l : List Str} (h : pth C.ars p ns = some l) (hl : ns.length ≤ 100000) :
    m__law_along [.d (arsD C.ars), .d (.str p), .d (sT ns)] = .ok (.list (strL l), [.d (arsD C.ars), .d (.str p), .d (sT ns)]) := by
  have it : iterD (sT ns) = some (strL ns) := rfl
  have it2 := iter_ars C.ars
  have e1 : ∀ N, lcL (setD 6) tYs (eTup (aCons (eOp ixD (eVar 6) (eC (.int 0))) (aCons (eOp ixD (eVar 6) (eC (.int 2))) (aNil)))) [6] (C.ars.map Arw.d) [.d (arsD C.ars), .d (.str p), .d N, .u, .u, .u, .u] = .ok (C.ars.map (fun a => .tuple [.str a.n, .str a.q]), [.d (arsD C.ars), .d (.str p), .d N, .u, .u, .u, .u]) :=
    fun N => lc_map (fun (a : Arw) => .tuple [.str a.n, .str a.q]) fun a _ => by simp
  have e2 := pairs_kvs C.ars
  have e3 : mergeKD [] (kvs C.ars) = kvs C.ars := by
    rw [merge_kvs _ _ o.ad (by intro e he; simp at he)]; rfl
  have hn : (C.ars.map Arw.d).length ≤ 1000000 := by have := o.a2; simp; omega
  have vk := fun n => val_kvs n C.ars
  rw [m__law_along_eq]
  unfold S__law_along
  generalize sT ns = N at *
  refine fn_end (ρ0 := [.d (arsD C.ars), .d (.str p), .d N, .u, .u, .u, .u]) rfl (P := fun ρ' => ∃ s3 s4 s5 s6, ρ' = [.d (arsD C.ars), .d (.str p), .d N, s3, s4, s5, s6]) ?_ (fun ρ' h => by
    obtain ⟨s3, s4, s5, s6, rfl⟩ := h; simp)
  refine rn_nx (ρ' := [.d (arsD C.ars), .d (.str p), .d N, .m (strL [p]), .k (kvs C.ars), .u, .u]) (by
    generalize (C.ars.map fun a => (PyData.tuple [.str a.n, .str a.q] : D)) = Z at *
    generalize C.ars.map Arw.d = Y at *
    simp [it2, e1, e2, e3, hn, freeAt]) ?_
  generalize kvs C.ars = KV at *
  refine for_rn (ρ1 := [.d (arsD C.ars), .d (.str p), .d N, .m (strL [p]), .k KV, .u, .u]) (xs := ns) PyData.str
    (fun ys ρ => ∃ pre x l2 s5, nm s5 = true ∧ pth C.ars x ys = some l2 ∧ pre ++ l2 = l ∧ pre.length + ys.length ≤ 200000 ∧ ρ = [.d (arsD C.ars), .d (.str p), .d N, .m (strL (pre ++ [x])), .k KV, s5, .u])
    NoJ (by simp [it]) ⟨[], p, l, .u, rfl, h, rfl, by simp; omega, rfl⟩ ?_ ?_ (fun _ _ h => h.elim)
  · rintro n ys ρ ⟨pre, x, l2, s5, h5, hp, hl2, hlen, rfl⟩
    rw [pth] at hp
    cases hx : nxt C.ars x n with
    | none => rw [hx] at hp; simp at hp
    | some y =>
      rw [hx] at hp
      simp only [Option.bind_some, Option.map_eq_some_iff] at hp
      obtain ⟨l3, h3, rfl⟩ := hp
      obtain ⟨a, k1, k2, k3⟩ := nxt_some hx
      have v := vk n
      rw [k1, Option.map_some, k3] at v
      have hlen2 : (strL (pre ++ [x])).length < 1000000 := by simp at hlen ⊢; omega
      have hsn : strL (pre ++ [x] ++ [y]) = strL (pre ++ [x]) ++ [.str y] := by simp
      refine ⟨[.d (arsD C.ars), .d (.str p), .d N, .m (strL (pre ++ [x])), .k KV, .d (.str n), .u], by simp [h5], ?_⟩
      refine go (ρ2 := [.d (arsD C.ars), .d (.str p), .d N, .m (strL (pre ++ [x] ++ [y])), .k KV, .d (.str n), .u]) ?_ ⟨pre ++ [x], y, l3, _, rfl, h3, by rw [← hl2]; simp, by simp at hlen ⊢; omega, rfl⟩
      rw [hsn]
      generalize strL (pre ++ [x]) = M at *
      simp [v, hlen2]
  · rintro ρ ⟨pre, x, l2, s5, h5, hp, hl2, hlen, rfl⟩
    simp [pth] at hp
    subst hp
    subst hl2
    refine rn_fin (a := .rt (.list (strL (pre ++ [x]))) [.d (arsD C.ars), .d (.str p), .d N, .d (.list (strL (pre ++ [x]))), .k KV, s5, .u]) ?_ ⟨_, rfl, _, _, _, _, rfl⟩
    generalize strL (pre ++ [x]) = M
    simp
theorem along_last {C : Cpd} (o : Ok C) {p q : Str} {ns : List Str} (h : stop C.ars p ns = some q) (hl : ns.length ≤ 100000) :
    ∃ L, m__law_along [.d (arsD C.ars), .d (.str p), .d (sT ns)] = .ok (L, [.d (arsD C.ars), .d (.str p), .d (sT ns)]) ∧ ixD L (.int (-1)) = some (.str q) := by
  obtain ⟨l, h1, h2⟩ := stop_pth h
  refine ⟨_, along_ok o h1 hl, ?_⟩
  rw [ixD_l, atI_last _ (by simpa using pth_ne h1), List.getLast?_map, h2]; rfl
/-! ### rows by a filter -/
theorem filt_row {α : Type} {f : α → D} (p : α → Bool) (xs : List α) {x : α} (h : xs.find? p = some x) : ixD (.list ((xs.filter p).map f)) (.int 0) = some (f x) := by
  rw [ixD_l, show (0 : Int) = ((0 : Nat) : Int) from rfl, atI_nat, List.getElem?_map, ← List.head?_eq_getElem?, List.head?_filter, h]; rfl
theorem law_after_ok {C : Cpd} (o : Ok C) (p : Str) {ns : List Str} {l : Lay} {c : Cel} (e : rowC C.cls l.2 = some c) (hl : ns.length ≤ 1000000) (hc : c.lo.length ≤ 1000000) :
    m__law_after [.d C.d, .d (pD p ns), .d (yD l)] = .ok (pD p (aft C ns l), [.d C.d, .d (pD p ns), .d (yD l)]) := by
  obtain ⟨k, n⟩ := l
  have e1 := sT_take ns k
  have e2 := sT_drop ns k c.up.length
  have e3 := sT_len c.up
  have a1 := sT_add (ns.take k) c.lo (by simp; omega)
  have a2 := sT_add (ns.take k ++ c.lo) (ns.drop (k + c.up.length)) (by simp; omega)
  have fr := filt_row (f := Cel.d) (fun a => decide (a.n = n)) C.cls e
  have hn : (C.cls.map Cel.d).length ≤ 1000000 := by have := o.c2; simp; omega
  have lc : ∀ P L N, lcL (setD 11) (tBo (eOp eqD (eOp ixD (eVar 11) (eC (.int 0))) (eVar 6))) (eVar 11) [11] (C.cls.map Cel.d) [.d C.d, .d P, .d L, .d (.str p), .d N, .d (.int k), .d (.str n), .u, .u, .u, .u, .u] = .ok ((C.cls.filter fun a => decide (a.n = n)).map Cel.d, [.d C.d, .d P, .d L, .d (.str p), .d N, .d (.int k), .d (.str n), .u, .u, .u, .u, .u]) :=
    fun P L N => lc_filt (fun (a : Cel) => decide (a.n = n)) fun a _ => by
      by_cases c : a.n = n <;> simp [-eqD_def, str_eq, c]
  have it := iter_cls C.cls
  rw [m__law_after_eq]
  unfold S__law_after aft pD yD
  simp only
  rw [e]
  generalize ((C.cls.filter fun a => decide (a.n = n)).map Cel.d) = FL at *
  generalize C.cls.map Cel.d = CL at *
  generalize hX : sT (ns.take k ++ c.lo ++ ns.drop (k + c.up.length)) = X1 at *
  generalize sT (ns.take k ++ c.lo) = X2 at *
  generalize sT (ns.drop (k + c.up.length)) = X3 at *
  generalize sT (ns.take k) = X4 at *
  generalize sT ns = N at *
  have hd : c.d = .tuple [.str c.n, .str c.p, sT c.up, sT c.lo] := rfl
  rw [hd] at fr
  generalize sT c.up = U at *
  generalize sT c.lo = V at *
  rw [ixD_l] at fr
  simp [it, lc, fr, hn, e1, e2, e3, a1, a2]
theorem law_paths_ok {C : Cpd} (o : Ok C) {p q : Str} {ns r : List Str} {ls : List Lay} (hs : stop C.ars p ns = some q) (hr : run C p ns ls = some r) (hl : ns.length + 6 * ls.length ≤ 100000) :
    m__law_paths [.d C.d, .d (dD p ns ls)] = .ok (.list ((pths C ns ls).map (pD p)), [.d C.d, .d (dD p ns ls)]) := by
  have i0 := dD_0 p ns ls
  have i1 := dD_1 p ns ls
  have it := iter_ls ls
  rw [m__law_paths_eq]
  unfold S__law_paths
  generalize hT : pths C ns ls = T
  generalize dD p ns ls = DD at *
  refine fn_end (ρ0 := [.d C.d, .d DD, .u, .u]) rfl (P := fun ρ' => ∃ s2 s3, ρ' = [.d C.d, .d DD, s2, s3]) ?_ (fun ρ' h => by
    obtain ⟨s3, s4, rfl⟩ := h; simp)
  refine rn_nx (ρ' := [.d C.d, .d DD, .m [pD p ns], .u]) (by simp [i0]) ?_
  refine for_rn (ρ1 := [.d C.d, .d DD, .m [pD p ns], .u]) (xs := ls) yD
    (fun ys ρ => ∃ pre cur s3, nm s3 = true ∧ pre ++ pths C cur ys = T ∧ stop C.ars p cur = some q ∧ run C p cur ys = some r ∧ cur.length + 6 * ys.length ≤ 100000 ∧ pre.length + ys.length ≤ 100000 ∧ ρ = [.d C.d, .d DD, .m ((pre ++ [cur]).map (pD p)), s3])
    NoJ (by generalize ysD ls = YL at *; simp [i1, it]) ⟨[], ns, .u, rfl, hT, hs, hr, hl, by simp; omega, rfl⟩ ?_ ?_ (fun _ _ h => h.elim)
  · rintro l ys ρ ⟨pre, cur, s3, h3, hp, hc, hr, hl1, hl2, rfl⟩
    obtain ⟨ha, hr2⟩ := run_cons hr
    obtain ⟨c, e1, e2, _⟩ := apl_row ha
    obtain ⟨h2, h4⟩ := aft_ok o hc ha
    have af := law_after_ok o p (ns := cur) (l := l) e1 (by simp at hl1; omega) (by have := (o.cn c e2).2.2.2.1; omega)
    have hlast : atI ((pre ++ [cur]).map (pD p)) (-1) = some (pD p cur) := by
      rw [List.map_append]
      exact atI_snoc _ _
    have hsn : (pre ++ [cur] ++ [aft C cur l]).map (pD p) = (pre ++ [cur]).map (pD p) ++ [pD p (aft C cur l)] := by simp
    have hn : ((pre ++ [cur]).map (pD p)).length < 1000000 := by simp; simp at hl2; omega
    refine ⟨[.d C.d, .d DD, .m ((pre ++ [cur]).map (pD p)), .d (yD l)], by simp [h3], ?_⟩
    refine go (ρ2 := [.d C.d, .d DD, .m ((pre ++ [cur] ++ [aft C cur l]).map (pD p)), .d (yD l)]) ?_ ⟨pre ++ [cur], aft C cur l, _, rfl, ?_, h2, hr2, by simp at hl1 ⊢; omega, by simp at hl2 ⊢; omega, rfl⟩
    · rw [hsn]
      generalize (pre ++ [cur]).map (pD p) = M at *
      generalize pD p cur = P1 at *
      generalize pD p (aft C cur l) = P2 at *
      generalize yD l = Y at *
      simp [af, hlast, hn]
    · rw [← hp, pths]
      simp
  · rintro ρ ⟨pre, cur, s3, h3, hp, hc, hr, hl1, hl2, rfl⟩
    rw [pths] at hp
    subst hp
    refine rn_fin (a := .rt (.list ((pre ++ [cur]).map (pD p))) [.d C.d, .d DD, .d (.list ((pre ++ [cur]).map (pD p))), s3]) ?_ ⟨_, rfl, _, _, rfl⟩
    generalize (pre ++ [cur]).map (pD p) = M
    simp
theorem law_sides_ok {C : Cpd} (o : Ok C) {l : Lay} {c : Cel} (e : rowC C.cls l.2 = some c) : m__law_sides [.d C.d, .d (yD l)] = .ok (.tuple [.int c.up.length, .int c.lo.length], [.d C.d, .d (yD l)]) := by
  obtain ⟨k, n⟩ := l
  have e3 := sT_len c.up
  have e4 := sT_len c.lo
  have u2 := Cel.i2 c
  have u3 := Cel.i3 c
  have fr := filt_row (f := Cel.d) (fun a => decide (a.n = n)) C.cls e
  have hn : (C.cls.map Cel.d).length ≤ 1000000 := by have := o.c2; simp; omega
  have i1 := yD_1 (k, n)
  have lc : ∀ Y, ixD Y (.int 1) = some (.str n) → lcL (setD 2) (tBo (eOp eqD (eOp ixD (eVar 2) (eC (.int 0))) (eOp ixD (eVar 1) (eC (.int 1))))) (eVar 2) [2] (C.cls.map Cel.d) [.d C.d, .d Y, .u] = .ok ((C.cls.filter fun a => decide (a.n = n)).map Cel.d, [.d C.d, .d Y, .u]) :=
    fun Y hY => lc_filt (fun (a : Cel) => decide (a.n = n)) fun a _ => by
      have := str_eq a.n n
      by_cases c : a.n = n <;> simp [-eqD_def, str_eq, c, hY]
  have lc := lc _ i1
  have it := iter_cls C.cls
  rw [m__law_sides_eq]
  unfold S__law_sides
  generalize ((C.cls.filter fun a => decide (a.n = n)).map Cel.d) = FL at *
  generalize C.cls.map Cel.d = CL at *
  generalize sT c.up = U at *
  generalize sT c.lo = V at *
  generalize yD (k, n) = Y at *
  rw [ixD_l] at fr
  simp [it, lc, fr, hn, e3, e4, u2, u3]
theorem law_size_ok {C : Cpd} (o : Ok C) (p : Str) (ns : List Str) {ls : List Lay} (h : ∀ l ∈ ls, ∃ c, rowC C.cls l.2 = some c) (hl : ls.length ≤ 1000000) :
    m__law_size [.d C.d, .d (dD p ns ls)] = .ok (.int ((ns.length + szL C ls : Nat) : Int), [.d C.d, .d (dD p ns ls)]) := by
  have it := iter_ls ls
  have i0 := dD_0 p ns ls
  have j1 := dD_1 p ns ls
  have i1 := pD_1 p ns
  have ln := sT_len ns
  have e : ∀ DD, lcL (setD 2) tYs (eOp ixD (eUser 2 (m__law_sides) (cD (eVar 0) (cD (eVar 2) (cNil)))) (eC (.int 1))) [2] (ls.map yD) [.d C.d, .d DD, .u] = .ok (ls.map (fun l => .int (sz1 C l : Int)), [.d C.d, .d DD, .u]) := fun DD => lc_map (fun l => .int (sz1 C l : Int)) fun l hm => by
    obtain ⟨c, hc⟩ := h l hm
    have s := law_sides_ok o hc
    unfold sz1
    rw [hc]
    generalize yD l = Y at *
    simp [s]
  have hn : (ls.map yD).length ≤ 1000000 := by simpa using hl
  have hi : intsOf (ls.map fun l => .int (sz1 C l : Int)) = some (ls.map fun l => (sz1 C l : Int)) := intsM _ _
  have hsum : (ls.map fun l => (sz1 C l : Int)).sum = ((szL C ls : Nat) : Int) := by
    unfold szL
    rw [← sum_nat, List.map_map]
    rfl
  rw [m__law_size_eq]
  unfold S__law_size
  generalize dD p ns ls = DD at *
  generalize sT ns = N at *
  generalize pD p ns = P at *
  generalize ysD ls = YL at *
  generalize (ls.map fun l => PyData.int (sz1 C l : Int)) = Z at *
  generalize ls.map yD = Y at *
  simp [it, i0, j1, i1, ln, e, hn, hi, hsum]
end Pd
end

section
/-! Pd: the laws' own is_path, is_layer, is_diagram. -/
namespace Pd
open PySem L2
theorem nxt_find {C : Cpd} (o : Ok C) (x n : Str) : nxt C.ars x n = (C.ars.find? fun a => decide (a.n = n) && decide (a.p = x)).map Arw.q := by
  cases h : C.ars.find? fun a => decide (a.n = n) && decide (a.p = x) with
  | some b =>
    have h1 := List.mem_of_find?_eq_some h
    have h2 := List.find?_some h
    simp only [Bool.and_eq_true, decide_eq_true_eq] at h2
    obtain ⟨rfl, rfl⟩ := h2
    unfold nxt
    rw [rowA_mem o h1]
    simp
  | none =>
    unfold nxt
    cases q : rowA C.ars n with
    | none => rfl
    | some a =>
      obtain ⟨h1, h2⟩ := rowA_some q
      have := List.find?_eq_none.mp h a h1
      simp only [Bool.and_eq_true, decide_eq_true_eq, not_and] at this
      simp [this h2]
theorem filt_nil {α : Type} {f : α → D} (p : α → Bool) (xs : List α) (h : xs.find? p = none) : (xs.filter p).map f = [] := by
  rw [List.find?_eq_none] at h
  rw [List.filter_eq_nil_iff.mpr h]
  rfl
theorem filt_cons {α : Type} {f : α → D} (p : α → Bool) (xs : List α) {x : α} (h : xs.find? p = some x) : ∃ r, (xs.filter p).map f = f x :: r := by
  have := List.head?_filter (p := p) (l := xs)
  rw [h] at this
  cases q : xs.filter p with
  | nil => rw [q] at this; simp at this
  | cons y r =>
    rw [q] at this
    simp at this
    subst this
    exact ⟨_, rfl⟩
theorem eqv_cons_nil (x : D) (xs : List D) : PyData.eqvAll (x :: xs) [] = false := by simp [PyData.eqvAll]
theorem eqv_nil : PyData.eqvAll [] [] = true := by simp [PyData.eqvAll]
theorem depthAll_arw (xs : List Arw) : PyData.depthAll (xs.map Arw.d) ≤ 1 := depthAll_le fun d h => by
  obtain ⟨a, _, rfl⟩ := List.mem_map.mp h
  unfold Arw.d
  simp
theorem depthAll_cel (xs : List Cel) : PyData.depthAll (xs.map Cel.d) ≤ 2 := depthAll_le fun d h => by
  obtain ⟨a, _, rfl⟩ := List.mem_map.mp h
  unfold Cel.d
  simp
/-- rows == [], by whether one is found -/
theorem eq_nil {xs : List D} (h : PyData.depthAll xs ≤ 60) : eqD (.list xs) (.list []) = some (.bool xs.isEmpty) := by
  rw [eqD_def, if_pos ⟨by simp; omega, by simp⟩, eqv_list]
  cases xs with
  | nil => rw [eqv_nil]; rfl
  | cons x r => rw [eqv_cons_nil]; rfl
theorem law_is_path_ok {C : Cpd} (o : Ok C) (p : Str) {ns : List Str} : m__law_is_path [.d C.d, .d (pD p ns)] = .ok (.bool (pathB C p ns), [.d C.d, .d (pD p ns)]) := by
  have i1 := pD_1 p ns
  have u0 := Cpd.i0 C
  have it := iter_ars C.ars
  have hin : ninD (.str p) (sT C.pts) = some (.bool (!decide (p ∈ C.pts))) := by simp
  have hn : (C.ars.map Arw.d).length ≤ 1000000 := by have := o.a2; simp; omega
  have e : ∀ P x n s4, nm s4 = true → lcL (setD 5) (tAn (tOf (eIsi "str" (eVar 3))) (tAn (tBo (eOp eqD (eOp ixD (eVar 5) (eC (.int 0))) (eVar 3))) (tBo (eOp eqD (eOp ixD (eVar 5) (eC (.int 1))) (eVar 2))))) (eVar 5) [5] (C.ars.map Arw.d) [.d C.d, .d P, .d (.str x), .d (.str n), s4, .u] = .ok ((C.ars.filter fun a => decide (a.n = n) && decide (a.p = x)).map Arw.d, [.d C.d, .d P, .d (.str x), .d (.str n), s4, .u]) := fun P x n s4 _ => lc_filt (fun (a : Arw) => decide (a.n = n) && decide (a.p = x)) fun a _ => by
    by_cases c : a.n = n
    · by_cases c2 : a.p = x <;> simp [-eqD_def, str_eq, c, c2]
    · simp [-eqD_def, str_eq, c]
  have hlen : (ns.map PyData.str).length = ns.length := by simp
  have hl : iterD (sT ns) = some (strL ns) := rfl
  rw [m__law_is_path_eq]
  unfold S__law_is_path
  refine fn_end (ρ0 := [.d C.d, .d (pD p ns), .u, .u, .u, .u]) rfl (P := fun ρ' => ∃ s2 s3 s4 s5, ρ' = [.d C.d, .d (pD p ns), s2, s3, s4, s5]) ?_ (fun ρ' h => by
    obtain ⟨s2, s3, s4, s5, rfl⟩ := h; simp)
  unfold pathB
  by_cases c1 : p ∈ C.pts
  · refine rn_nx (ρ' := [.d C.d, .d (pD p ns), .u, .u, .u, .u]) (by
      unfold pD
      generalize sT C.pts = T at *
      generalize ns.map PyData.str = N at *
      simp [-eqD_def, u0, hin, c1]) ?_
    by_cases c2 : ns.length ≤ 400
    · refine rn_nx (ρ' := [.d C.d, .d (pD p ns), .u, .u, .u, .u]) (by
        have c3 : (ns.length : Int) ≤ 400 := by omega
        unfold pD
        generalize sT C.pts = T at *
        generalize ns.map PyData.str = N at *
        simp [-eqD_def, u0, hin, c1, hlen, c3]) ?_
      refine rn_nx (ρ' := [.d C.d, .d (pD p ns), .d (.str p), .u, .u, .u]) (by
        unfold pD
        generalize ns.map PyData.str = N at *
        simp [-eqD_def]) ?_
      generalize hR : stop C.ars p ns = R
      refine for_rn (ρ1 := [.d C.d, .d (pD p ns), .d (.str p), .u, .u, .u]) (xs := ns) PyData.str
        (fun ys ρ => ∃ x s3 s4, nm s3 = true ∧ nm s4 = true ∧ stop C.ars x ys = R ∧ ρ = [.d C.d, .d (pD p ns), .d (.str x), s3, s4, .u])
        (fun d ρ => R = none ∧ d = .bool false ∧ ∃ s2 s3 s4 s5, ρ = [.d C.d, .d (pD p ns), s2, s3, s4, s5])
        (by
          generalize pD p ns = P at *
          generalize sT ns = N at *
          simp [i1, hl]) ⟨p, .u, .u, rfl, rfl, hR, rfl⟩ ?_ ?_ ?_
      · rintro n ys ρ ⟨x, s3, s4, h3, h4, hs, rfl⟩
        generalize pD p ns = P at *
        refine ⟨[.d C.d, .d P, .d (.str x), .d (.str n), s4, .u], by simp [h3], ?_⟩
        have e := e P x n s4 h4
        rw [stop, nxt_find o] at hs
        have dp := fun F => eq_nil (xs := (C.ars.filter F).map Arw.d) (by have := depthAll_arw (C.ars.filter F); omega)
        cases q : C.ars.find? fun a => decide (a.n = n) && decide (a.p = x) with
        | none =>
          have fn := filt_nil (f := Arw.d) _ _ q
          rw [q] at hs
          rw [fn] at e
          have dp := eq_nil (xs := []) (by simp)
          refine out (d := .bool false) (ρ2 := [.d C.d, .d P, .d (.str x), .d (.str n), .d (.list []), .u]) ?_ ⟨hs.symm, rfl, _, _, _, _, rfl⟩
          generalize C.ars.map Arw.d = AL at *
          cases s4 with
          | m xs => cases h4
          | x b P' => simp [-eqD_def, it, hn, e, dp, setD]
          | _ => simp [-eqD_def, it, hn, e, dp]
        | some a =>
          rw [q] at hs
          simp only [Option.map_some, Option.bind_some] at hs
          obtain ⟨r, hr⟩ := filt_cons (f := Arw.d) _ _ q
          have dp := dp (fun a => decide (a.n = n) && decide (a.p = x))
          rw [hr] at e dp
          refine go (ρ2 := [.d C.d, .d P, .d (.str a.q), .d (.str n), .d (.list (a.d :: r)), .u]) ?_ ⟨a.q, _, _, rfl, rfl, hs, rfl⟩
          generalize C.ars.map Arw.d = AL at *
          cases s4 with
          | m xs => cases h4
          | x b P' => simp [-eqD_def, it, hn, e, dp, setD]
          | _ => simp [-eqD_def, it, hn, e, dp]
      · rintro ρ ⟨x, s3, s4, h3, h4, hs, rfl⟩
        rw [stop] at hs
        subst hs
        exact rn_fin (a := .rt (.bool true) [.d C.d, .d (pD p ns), .d (.str x), s3, s4, .u]) (by simp) ⟨[.d C.d, .d (pD p ns), .d (.str x), s3, s4, .u], by simp [c1, c2], _, _, _, _, rfl⟩
      · rintro d ρ ⟨h1, rfl, s2, s3, s4, s5, rfl⟩
        subst h1
        exact ⟨[.d C.d, .d (pD p ns), s2, s3, s4, s5], by simp, _, _, _, _, rfl⟩
    · refine ⟨.rt (.bool false) [.d C.d, .d (pD p ns), .u, .u, .u, .u], sqr ?_, [.d C.d, .d (pD p ns), .u, .u, .u, .u], by simp [c2], _, _, _, _, rfl⟩
      have c3 : ¬ (ns.length : Int) ≤ 400 := by omega
      have c4 : (400 : Int) < (ns.length : Int) := by omega
      unfold pD
      generalize sT C.pts = T at *
      generalize ns.map PyData.str = N at *
      simp [-eqD_def, u0, hin, c1, hlen, c4]
  · refine ⟨.rt (.bool false) [.d C.d, .d (pD p ns), .u, .u, .u, .u], sqr ?_, [.d C.d, .d (pD p ns), .u, .u, .u, .u], by simp [c1], _, _, _, _, rfl⟩
    unfold pD
    generalize sT C.pts = T at *
    generalize ns.map PyData.str = N at *
    simp [-eqD_def, u0, hin, c1]
theorem law_is_layer_ok {C : Cpd} (o : Ok C) {p q : Str} {ns : List Str} (hs : stop C.ars p ns = some q) (hl : ns.length ≤ 100000) (l : Lay) :
    m__law_is_layer [.d C.d, .d (pD p ns), .d (yD l)] = .ok (.bool (apl C p ns l), [.d C.d, .d (pD p ns), .d (yD l)]) := by
  obtain ⟨k, n⟩ := l
  have i0 := pD_0 p ns
  have i1 := pD_1 p ns
  have j0 := yD_0 (k, n)
  have j1 := yD_1 (k, n)
  have ln := sT_len ns
  have it := iter_cls C.cls
  have hn : (C.cls.map Cel.d).length ≤ 1000000 := by have := o.c2; simp; omega
  have e : ∀ P Y, ixD Y (.int 1) = some (.str n) → lcL (setD 9) (tAn (tOf (eIsi "str" (eOp ixD (eVar 2) (eC (.int 1))))) (tBo (eOp eqD (eOp ixD (eVar 9) (eC (.int 0))) (eOp ixD (eVar 2) (eC (.int 1)))))) (eVar 9) [9] (C.cls.map Cel.d) [.d C.d, .d P, .d Y, .u, .u, .u, .u, .u, .u, .u] = .ok ((C.cls.filter fun a => decide (a.n = n)).map Cel.d, [.d C.d, .d P, .d Y, .u, .u, .u, .u, .u, .u, .u]) := fun P Y hY => lc_filt (fun (a : Cel) => decide (a.n = n)) fun a _ => by
    by_cases c : a.n = n <;> simp [-eqD_def, str_eq, c, hY]
  have e := e (pD p ns) _ j1
  have first : ∀ P, (sIf (tOr' (tNo (tOf (eIsi "tuple" (eVar 2)))) (tOr' (tBo (eOp neD (eCall lenD (aCons (eVar 2) (aNil))) (eC (.int 2)))) (tOr' (tOf (eIsi "bool" (eOp ixD (eVar 2) (eC (.int 0))))) (tNo (tOf (eIsi "int" (eOp ixD (eVar 2) (eC (.int 0))))))))) (sRet (eC (.bool false))) (sNx)) [.d C.d, .d P, .d (yD (k, n)), .u, .u, .u, .u, .u, .u, .u] = .ok (.nx [.d C.d, .d P, .d (yD (k, n)), .u, .u, .u, .u, .u, .u, .u]) := fun P => by
    unfold yD
    simp
  have first := first (pD p ns)
  have dp := eq_nil (xs := (C.cls.filter fun a => decide (a.n = n)).map Cel.d) (by have := depthAll_cel (C.cls.filter fun a => decide (a.n = n)); omega)
  rw [m__law_is_layer_eq]
  unfold S__law_is_layer apl
  refine fn_end (ρ0 := [.d C.d, .d (pD p ns), .d (yD (k, n)), .u, .u, .u, .u, .u, .u, .u]) rfl (P := fun ρ' => ∃ s3 s4 s5 s6 s7 s8 s9, ρ' = [.d C.d, .d (pD p ns), .d (yD (k, n)), s3, s4, s5, s6, s7, s8, s9]) ?_ (fun ρ' h => by
    obtain ⟨s3, s4, s5, s6, s7, s8, s9, rfl⟩ := h; simp)
  refine rn_nx first ?_
  clear first
  cases q2 : rowC C.cls n with
  | none =>
    have fn := filt_nil (f := Cel.d) (fun a => decide (a.n = n)) _ q2
    rw [fn] at e dp
    refine ⟨.rt (.bool false) [.d C.d, .d (pD p ns), .d (yD (k, n)), .d (.list []), .u, .u, .u, .u, .u, .u], ?_, [.d C.d, .d (pD p ns), .d (yD (k, n)), .d (.list []), .u, .u, .u, .u, .u, .u], by simp, _, _, _, _, _, _, _, rfl⟩
    generalize yD (k, n) = Y at *
    generalize pD p ns = P at *
    generalize C.cls.map Cel.d = CL at *
    simp [-eqD_def, it, hn, e, dp]
  | some c =>
    obtain ⟨r, hr⟩ := filt_cons (f := Cel.d) (fun a => decide (a.n = n)) _ q2
    rw [hr] at e dp
    refine rn_nx (ρ' := [.d C.d, .d (pD p ns), .d (yD (k, n)), .d (.list (c.d :: r)), .u, .u, .u, .u, .u, .u]) (by
      generalize yD (k, n) = Y at *
      generalize pD p ns = P at *
      generalize C.cls.map Cel.d = CL at *
      simp [-eqD_def, it, hn, e]) ?_
    by_cases c2 : k ≤ ns.length
    · have c3 : (k : Int) ≤ (ns.length : Int) := by omega
      refine rn_nx (ρ' := [.d C.d, .d (pD p ns), .d (yD (k, n)), .d (.list (c.d :: r)), .u, .u, .u, .u, .u, .u]) (by
        generalize yD (k, n) = Y at *
        generalize pD p ns = P at *
        generalize sT ns = N at *
        generalize C.cls.map Cel.d = CL at *
        simp [-eqD_def, dp, j0, i1, ln, c3]) ?_
      refine rn_nx (ρ' := [.d C.d, .d (pD p ns), .d (yD (k, n)), .d (.list (c.d :: r)), .d (.int k), .d (.str c.n), .d (.str c.p), .d (sT c.up), .d (sT c.lo), .u]) (by
        generalize yD (k, n) = Y at *
        generalize pD p ns = P at *
        unfold Cel.d
        generalize sT c.up = U at *
        generalize sT c.lo = V at *
        simp [-eqD_def, j0]) ?_
      obtain ⟨x, hx, _⟩ := stop_take hs k
      obtain ⟨L, al, hL⟩ := along_last o hx (by simp; omega)
      have e1 := str_eq x c.p
      have e2 := sT_mid ns k c.up.length
      have e3 := sT_eq ((ns.drop k).take c.up.length) c.up
      have e4 := sT_len c.up
      have e5 := sT_take ns k
      refine rn_fin (a := .rt (.bool (decide (x = c.p) && decide ((ns.drop k).take c.up.length = c.up))) [.d C.d, .d (pD p ns), .d (yD (k, n)), .d (.list (c.d :: r)), .d (.int k), .d (.str c.n), .d (.str c.p), .d (sT c.up), .d (sT c.lo), .u]) ?_ ⟨[.d C.d, .d (pD p ns), .d (yD (k, n)), .d (.list (c.d :: r)), .d (.int k), .d (.str c.n), .d (.str c.p), .d (sT c.up), .d (sT c.lo), .u], by simp [c2, hx], _, _, _, _, _, _, _, rfl⟩
      generalize yD (k, n) = Y at *
      generalize pD p ns = P at *
      generalize sT ((ns.drop k).take c.up.length) = N1 at *
      generalize sT (ns.take k) = N2 at *
      generalize sT ns = N at *
      generalize sT c.up = U at *
      generalize sT c.lo = V at *
      cases d1 : decide (x = c.p) <;> simp [-eqD_def, i0, i1, al, hL, e1, e2, e3, e4, e5, d1]
    · have c3 : ¬ (k : Int) ≤ (ns.length : Int) := by omega
      refine ⟨.rt (.bool false) [.d C.d, .d (pD p ns), .d (yD (k, n)), .d (.list (c.d :: r)), .u, .u, .u, .u, .u, .u], sqr ?_, [.d C.d, .d (pD p ns), .d (yD (k, n)), .d (.list (c.d :: r)), .u, .u, .u, .u, .u, .u], by simp [c2], _, _, _, _, _, _, _, rfl⟩
      generalize yD (k, n) = Y at *
      generalize pD p ns = P at *
      generalize sT ns = N at *
      generalize C.cls.map Cel.d = CL at *
      simp [-eqD_def, dp, j0, i1, ln, c3]
theorem law_is_diagram_ok {C : Cpd} (o : Ok C) (p : Str) {ns : List Str} {ls : List Lay} : m__law_is_diagram [.d C.d, .d (dD p ns ls)] = .ok (.bool (dgB C p ns ls), [.d C.d, .d (dD p ns ls)]) := by
  have pa := law_is_path_ok o p (ns := ns)
  have i0 := dD_0 p ns ls
  have i1 := dD_1 p ns ls
  have it := iter_ls ls
  have sz := fun h => law_size_ok o p ns (ls := ls) h
  have hlen : (ls.map yD).length = ls.length := by simp
  rw [m__law_is_diagram_eq]
  unfold S__law_is_diagram dgB
  by_cases c1 : pathB C p ns = true
  · rw [c1] at pa ⊢
    by_cases c2 : ls.length ≤ 200
    · simp only [decide_eq_true c2, Bool.true_and]
      unfold pathB at c1
      simp only [Bool.and_eq_true, decide_eq_true_eq] at c1
      obtain ⟨_, c4, c5⟩ := c1
      obtain ⟨q, hs⟩ := Option.isSome_iff_exists.mp c5
      generalize hR : run C p ns ls = R
      refine fn_end (ρ0 := [.d C.d, .d (dD p ns ls), .u, .u]) rfl (P := fun ρ' => ∃ s2 s3, ρ' = [.d C.d, .d (dD p ns ls), s2, s3]) ?_ (fun ρ' h => by
        obtain ⟨s3, s4, rfl⟩ := h; simp)
      refine rn_nx (ρ' := [.d C.d, .d (dD p ns ls), .u, .u]) (by
        unfold dD
        generalize pD p ns = P at *
        generalize ysD ls = YL at *
        simp [pa]) ?_
      have c3 : (ls.length : Int) ≤ 200 := by omega
      refine rn_nx (ρ' := [.d C.d, .d (dD p ns ls), .u, .u]) (by
        unfold dD ysD
        generalize pD p ns = P at *
        generalize ls.map yD = YL at *
        simp [hlen, c3]) ?_
      generalize hDD : dD p ns ls = DD at *
      refine rn_nx (ρ' := [.d C.d, .d DD, .d (pD p ns), .u]) (by
        generalize pD p ns = P at *
        simp [i0]) ?_
      refine for_rn (ρ1 := [.d C.d, .d DD, .d (pD p ns), .u]) (xs := ls) yD
        (fun ys ρ => ∃ cur s3, nm s3 = true ∧ stop C.ars p cur = some q ∧ run C p cur ys = R ∧ cur.length + 6 * ys.length ≤ 100000 ∧ ρ = [.d C.d, .d DD, .d (pD p cur), s3])
        (fun d ρ => R = none ∧ d = .bool false ∧ ∃ s2 s3, ρ = [.d C.d, .d DD, s2, s3]) (by generalize ysD ls = YL at *; simp [i1, it]) ⟨ns, .u, rfl, hs, hR, by omega, rfl⟩ ?_ ?_ ?_
      · rintro l ys ρ ⟨cur, s3, h3, hc, hr, hl1, rfl⟩
        have ap := law_is_layer_ok o hc (by omega) l
        refine ⟨[.d C.d, .d DD, .d (pD p cur), .d (yD l)], by simp [h3], ?_⟩
        by_cases ca : apl C p cur l = true
        · rw [ca] at ap
          rw [run, if_pos ca] at hr
          obtain ⟨c, e1, e2, _⟩ := apl_row ca
          obtain ⟨h2, h4⟩ := aft_ok o hc ca
          have af := law_after_ok o p (ns := cur) (l := l) e1 (by simp at hl1; omega) (by have := (o.cn c e2).2.2.2.1; omega)
          refine go (ρ2 := [.d C.d, .d DD, .d (pD p (aft C cur l)), .d (yD l)]) ?_ ⟨aft C cur l, _, rfl, h2, hr, by simp at hl1; omega, rfl⟩
          generalize pD p cur = P1 at *
          generalize pD p (aft C cur l) = P2 at *
          generalize yD l = Y at *
          simp [ap, af]
        · rw [run, if_neg ca] at hr
          have ca' : apl C p cur l = false := by simpa using ca
          rw [ca'] at ap
          refine out (d := .bool false) (ρ2 := [.d C.d, .d DD, .d (pD p cur), .d (yD l)]) ?_ ⟨hr.symm, rfl, _, _, rfl⟩
          generalize pD p cur = P1 at *
          generalize yD l = Y at *
          simp [ap]
      · rintro ρ ⟨cur, s3, h3, hc, hr, hl1, rfl⟩
        rw [run] at hr
        subst hr
        have sz := sz (fun l hm => by
          obtain ⟨c, h1, _⟩ := run_rows hR l hm
          exact ⟨c, h1⟩) (by omega)
        refine rn_fin (a := .rt (.bool (decide (ns.length + szL C ls ≤ 400))) [.d C.d, .d DD, .d (pD p cur), s3]) ?_ ⟨[.d C.d, .d DD, .d (pD p cur), s3], by simp, _, _, rfl⟩
        have hcast : decide (((ns.length + szL C ls : Nat) : Int) ≤ 400) = decide (ns.length + szL C ls ≤ 400) := by
          by_cases h : ns.length + szL C ls ≤ 400
          · rw [decide_eq_true h, decide_eq_true (by omega)]
          · rw [decide_eq_false h, decide_eq_false (by omega)]
        generalize pD p cur = P1 at *
        generalize ns.length + szL C ls = SZ at *
        generalize (SZ : Int) = SI at *
        simp [sz, hcast]
      · rintro d ρ ⟨h1, rfl, s2, s3, rfl⟩
        subst h1
        exact ⟨[.d C.d, .d DD, s2, s3], by simp, _, _, rfl⟩
    · have c4 : (200 : Int) < (ls.length : Int) := by omega
      unfold dD ysD
      generalize pD p ns = P at *
      generalize ls.map yD = YL at *
      simp [pa, hlen, c4, c2]
  · have c1' : pathB C p ns = false := by simpa using c1
    rw [c1'] at pa ⊢
    unfold dD
    generalize ysD ls = YL at *
    generalize pD p ns = P at *
    simp [pa]
end Pd
end

section
/-! Pd: the draws of names, walks. -/
namespace Pd
open PySem L2
abbrev cup (a b : Int) : Sl := .m [.int a, .int b]
theorem eop {f : D → D → Option D} {fa fb : EF} {ρ ρ1 ρ2 : List Sl} {x y d : D} (h1 : fa ρ = .ok (x, ρ1)) (h2 : fb ρ1 = .ok (y, ρ2)) (h3 : f x y = some d) : eOp f fa fb ρ = .ok (d, ρ2) := by
  simp only [eOp, h1, bind_ok, h2, h3, li]
theorem loan {i : Nat} {f : EF} {ρ ρ1 ρ2 : List Sl} {xs : List D} {d : D} (h : ρ[i]? = some (.m xs)) (e : f (ρ.set i (.d (.list xs))) = .ok (d, ρ1)) (hf : flatD d = true ∧ ρ1.all flatSl = true) (h2 : (keepM ρ ρ1).set i (.m xs) = ρ2) : eLoan i f ρ = .ok (d, ρ2) := by
  subst h2
  simp only [eLoan, h, e, noEx_ok, bind_ok, if_pos hf]
theorem app {i : Nat} {f : EF} {ρ ρ1 : List Sl} {xs ys : List D} {d : D} (h0 : getM i ρ = some xs) (e : f ρ = .ok (d, ρ1)) (h1 : getM i ρ1 = some ys) (hl : ys.length < 1000000) : sApp i f ρ = .ok (.nx (ρ1.set i (.m (ys ++ [d])))) := by
  simp only [sApp, h0, li, bind_ok, e, h1, if_pos hl]
theorem nodup_le : ∀ {xs ys : List Str}, xs.Nodup → (∀ x ∈ xs, x ∈ ys) → xs.length ≤ ys.length
  | [], _, _, _ => by simp
  | x :: xs, ys, hn, h => by
    have h1 := h x (List.mem_cons_self ..)
    have h2 := nodup_le (xs := xs) (ys := ys.erase x) (List.nodup_cons.mp hn).2 (fun y hy => (List.mem_erase_of_ne (by rintro rfl; exact (List.nodup_cons.mp hn).1 hy)).mpr (h y (List.mem_cons_of_mem _ hy)))
    rw [List.length_erase_of_mem h1] at h2
    have := List.length_pos_of_mem h1
    simp only [List.length_cons]
    omega
/-! ### one name -/
abbrev fbN (k : Nat) : Str := ("n" : Str) ++ txtI (k : Int)
theorem fb_nodup : ((List.range 70).map fbN).Nodup := by decide +kernel
theorem fb_names : ((List.range 70).all fun k => nmB (.str (fbN k))) = true := by decide +kernel
theorem fb_len : ((List.range 70).all fun k => decide ((fbN k).length ≠ 4)) = true := by decide +kernel
/-- a name that is drawn -/
def nmG (x : Str) : Prop := nmB (.str x) = true ∧ x.length ≠ 4
theorem fb_ok : ((List.range 70).all fun k => decide ((k : Int).natAbs.log2 < 1920) && okS (txtI (k : Int)) && decide (Str.length (txtI (k : Int)) ≤ 100)) = true := by decide +kernel
theorem letter {k : Nat} (h : k ∈ Ls.cps.toList) : inS ⟨#[k]⟩ Ls = true := by
  have : (Ls.cps.toList.all fun k => inS ⟨#[k]⟩ Ls) = true := by decide +kernel
  exact List.all_eq_true.mp this k h
theorem signk {k : Nat} (h : k ∈ (Ls ++ Ds : Str).cps.toList) : inS ⟨#[k]⟩ (Ls ++ Ds) = true := by
  have : ((Ls ++ Ds : Str).cps.toList.all fun k => inS ⟨#[k]⟩ (Ls ++ Ds)) = true := by decide +kernel
  exact List.all_eq_true.mp this k h
theorem letter2 {k : Nat} (h : k ∈ Ls.cps.toList) : inS ⟨#[k]⟩ (Ls ++ Ds) = true := by
  have : (Ls.cps.toList.all fun k => inS ⟨#[k]⟩ (Ls ++ Ds)) = true := by decide +kernel
  exact List.all_eq_true.mp this k h
theorem nm_one {k : Nat} (h : k ∈ Ls.cps.toList) : nmB (.str ⟨#[k]⟩) = true :=
  nm_cps.mpr ⟨by simp, by simp, ⟨k, by simp, letter h⟩, fun c hc => by
    simp at hc
    subst hc
    exact letter2 h⟩
theorem lLD : Str.length (Ls ++ Ds) = 36 := by decide +kernel
theorem addLD : addD (.str Ls) (.str Ds) = some (.str (Ls ++ Ds)) := addS (by rw [lL, lD]; decide)
theorem name_ok {a b : Int} (c : CupOk a b) {taken : List Str} (ht : taken.length < 70) :
    ∃ x a' b', nmG x ∧ x ∉ taken ∧ CupOk a' b' ∧ m__law_name [cup a b, .d (.list (strL taken))] = .ok (.str x, [cup a' b', .d (.list (strL taken))]) := by
  have hnin : ∀ x, ninD (.str x) (.list (strL taken)) = some (.bool (!decide (x ∈ taken))) := fun x => by simp
  rw [m__law_name_eq]
  unfold S__law_name
  generalize hT : (PyData.list (strL taken) : D) = T at *
  obtain ⟨d, as', e, x, a', b', rfl, rfl, hx1, hx2, hc⟩ := fn_rn (nN := 8) (as := [cup a b, .d T]) (ρ0 := [cup a b, .d T, .u, .u, .u, .u, .u, .u]) (S := S__law_name) (Q := fun d as' => ∃ x a' b', d = .str x ∧ as' = [cup a' b', .d T] ∧ nmG x ∧ x ∉ taken ∧ CupOk a' b') rfl (by
    unfold S__law_name
    refine rn_nx (ρ' := [cup a b, .d T, .d (.str Ls), .d (.str Ds), .u, .u, .u, .u]) (by simp) ?_
    refine for_rn (ρ1 := [cup a b, .d T, .d (.str Ls), .d (.str Ds), .u, .u, .u, .u]) (xs := List.range 3) (fun (k : Nat) => PyData.int (k : Int))
      (fun ys ρ => ∃ a b s4 s5 s6, CupOk a b ∧ nm s4 = true ∧ nm s5 = true ∧ nm s6 = true ∧ ρ = [cup a b, .d T, .d (.str Ls), .d (.str Ds), s4, s5, s6, .u])
      (fun d ρ => ∃ x a b s4 s5 s6, d = .str x ∧ nmG x ∧ x ∉ taken ∧ CupOk a b ∧ ρ = [cup a b, .d T, .d (.str Ls), .d (.str Ds), s4, s5, s6, .u])
      (iR1_ok (m := 3) rfl (by omega)) ⟨a, b, .u, .u, .u, c, rfl, rfl, rfl, rfl⟩ ?_ ?_ ?_
    · rintro k ys ρ ⟨a, b, s4, s5, s6, c, h4, h5, h6, rfl⟩
      refine ⟨[cup a b, .d T, .d (.str Ls), .d (.str Ds), .d (.int k), s5, s6, .u], by simp [h4], ?_⟩
      obtain ⟨k1, a1, b1, hk1, c1, e1⟩ := some_str c (x := Ls) (by rw [lL]; decide) (by rw [lL]; decide)
      refine rn_nx (ρ' := [cup a1 b1, .d T, .d (.str Ls), .d (.str Ds), .d (.int k), .d (.str ⟨#[k1]⟩), s6, .u]) (asg (us (sls := [cup a b, .d (.str Ls)]) rfl ⟨rfl, by simp⟩ rfl e1 rfl) (setD_eq (by simp [h5]))) ?_
      obtain ⟨d, a2, b2, hd, c2, e2⟩ := some_list c1 (xs := [.int 0, .int 0, .int 0, .int 1, .int 2, .int 11]) (by simp) (by simp)
      obtain ⟨m, rfl, hm⟩ : ∃ m : Nat, d = .int (m : Int) ∧ m ≤ 11 ∧ m ≠ 3 := by
        simp at hd
        rcases hd with rfl | rfl | rfl | rfl
        · exact ⟨0, rfl, by omega⟩
        · exact ⟨1, rfl, by omega⟩
        · exact ⟨2, rfl, by omega⟩
        · exact ⟨11, rfl, by omega⟩
      refine for_rn (ρ1 := [cup a2 b2, .d T, .d (.str Ls), .d (.str Ds), .d (.int k), .d (.str ⟨#[k1]⟩), s6, .u]) (xs := List.range m) (fun (k : Nat) => PyData.int (k : Int))
        (fun ys ρ => ∃ a b x s6, CupOk a b ∧ nmB (.str x) = true ∧ x.length + ys.length = m + 1 ∧ nm s6 = true ∧ ρ = [cup a b, .d T, .d (.str Ls), .d (.str Ds), .d (.int k), .d (.str x), s6, .u])
        NoJ (iR1_ok (m := m) (us (sls := [cup a1 b1, .d (.list [.int 0, .int 0, .int 0, .int 1, .int 2, .int 11])]) rfl ⟨rfl, by simp⟩ rfl e2 rfl) (by omega)) ⟨a2, b2, _, s6, c2, nm_one hk1, by simp <;> omega, h6, rfl⟩ ?_ ?_ (fun _ _ h => h.elim)
      · rintro j ys ρ ⟨a, b, x, s6, c, hx, hl, h6, rfl⟩
        simp only [List.length_cons] at hl
        refine ⟨[cup a b, .d T, .d (.str Ls), .d (.str Ds), .d (.int k), .d (.str x), .d (.int j), .u], by simp [h6], ?_⟩
        obtain ⟨k3, a3, b3, hk3, c3, e3⟩ := some_str c (x := Ls ++ Ds) (by rw [lLD]; decide) (by rw [lLD]; decide)
        refine go (ρ2 := [cup a3 b3, .d T, .d (.str Ls), .d (.str Ds), .d (.int k), .d (.str (x ++ ⟨#[k3]⟩)), .d (.int j), .u]) (asg (ρ' := [cup a3 b3, .d T, .d (.str Ls), .d (.str Ds), .d (.int k), .d (.str x), .d (.int j), .u]) (eop rfl (us (sls := [cup a b, .d (.str (Ls ++ Ds))]) (args := [.r 0, .d (.str (Ls ++ Ds))]) (ρ1 := [cup a b, .d T, .d (.str Ls), .d (.str Ds), .d (.int k), .d (.str x), .d (.int j), .u]) ?_ ⟨rfl, by simp⟩ rfl e3 rfl) (addS (by simp; omega))) (setD_eq rfl)) ⟨a3, b3, _, _, c3, nm_snoc hx (by omega) (signk hk3), by rw [str_len_append]; simp; omega, rfl, rfl⟩
        simp [-addD_s, addLD]
      · rintro ρ ⟨a, b, x, s6, c, hx, hl, h6, rfl⟩
        have hm3 := hm.2
        by_cases hm : x ∈ taken
        · exact go (ρ2 := [cup a b, .d T, .d (.str Ls), .d (.str Ds), .d (.int k), .d (.str x), s6, .u]) (by simp [hnin, hm]) ⟨a, b, _, _, _, c, rfl, rfl, h6, rfl⟩
        · exact out (d := .str x) (ρ2 := [cup a b, .d T, .d (.str Ls), .d (.str Ds), .d (.int k), .d (.str x), s6, .u]) (by simp [hnin, hm]) ⟨x, a, b, _, _, _, rfl, ⟨hx, by simp only [List.length_nil] at hl; omega⟩, hm, c, rfl⟩
    · rintro ρ ⟨a, b, s4, s5, s6, c, h4, h5, h6, rfl⟩
      generalize hF : (List.range 70).map fbN = F
      have lcF : lcL (setD 7) tYs (eOp addD (eC (.str "n")) (eCall strD (aCons (eVar 7) (aNil)))) [7] ((List.range 70).map fun (k : Nat) => .int (k : Int)) [cup a b, .d T, .d (.str Ls), .d (.str Ds), s4, s5, s6, .u] = .ok (strL F, [cup a b, .d T, .d (.str Ls), .d (.str Ds), s4, s5, s6, .u]) := by
        rw [← hF, show strL ((List.range 70).map fbN) = (List.range 70).map (fun k => .str (fbN k)) by simp [Function.comp_def]]
        exact lc_map (fun (k : Nat) => .str (fbN k)) fun k hk => by
          have := List.all_eq_true.mp fb_ok k hk
          simp only [Bool.and_eq_true, decide_eq_true_eq] at this
          obtain ⟨⟨g1, g2⟩, g3⟩ := this
          refine lc1 (ρ1 := [cup a b, .d T, .d (.str Ls), .d (.str Ds), s4, s5, s6, .d (.int k)]) (ρ2 := [cup a b, .d T, .d (.str Ls), .d (.str Ds), s4, s5, s6, .d (.int k)]) (setD_eq rfl) (eop (x := .str "n") (y := .str (txtI k)) rfl ?_ (addS ?_)) rfl
          · show (eCall strD (aCons (eVar 7) (aNil))) _ = _
            simp only [eCall, aCons, eVar, aNil, List.getElem?_cons_succ, List.getElem?_cons_zero, bind_ok, strD, if_pos (And.intro g1 g2), li]
          · have : Str.length "n" = 1 := by decide +kernel
            omega
      obtain ⟨y, hy⟩ : ∃ y, F.find? (fun x => !decide (x ∈ taken)) = some y := by
        cases q : F.find? (fun x => !decide (x ∈ taken)) with
        | some y => exact ⟨y, rfl⟩
        | none =>
          exfalso
          have h1 := List.find?_eq_none.mp q
          have h2 := nodup_le (xs := F) (ys := taken) (by rw [← hF]; exact fb_nodup) (fun x hx => by simpa using h1 x hx)
          have h3 : F.length = 70 := by rw [← hF]; simp
          omega
      have hym := List.mem_of_find?_eq_some hy
      have hyt : y ∉ taken := by simpa using List.find?_some hy
      have hyn : nmG y := by
        rw [← hF] at hym
        obtain ⟨k, hk, rfl⟩ := List.mem_map.mp hym
        exact ⟨List.all_eq_true.mp fb_names k hk, by simpa using List.all_eq_true.mp fb_len k hk⟩
      have lcT : ∀ s5, nm s5 = true → lcL (setD 5) (tBo (eOp ninD (eVar 5) (eVar 1))) (eVar 5) [5] (strL F) [cup a b, .d T, .d (.str Ls), .d (.str Ds), s4, .u, s6, .u] = .ok (strL (F.filter fun x => !decide (x ∈ taken)), [cup a b, .d T, .d (.str Ls), .d (.str Ds), s4, .u, s6, .u]) := fun s5 _ =>
        lc_filt (fun x => !decide (x ∈ taken)) fun x _ => by
          by_cases c : x ∈ taken <;> simp [hnin, c]
      have lcT := lcT s5 h5
      have fr := filt_row (f := PyData.str) (fun x => !decide (x ∈ taken)) F hy
      refine ⟨_, rt (eop (ρ1 := [cup a b, .d T, .d (.str Ls), .d (.str Ds), s4, s5, s6, .u]) (lstLc (xs := strL F) (ρ1 := [cup a b, .d T, .d (.str Ls), .d (.str Ds), s4, s5, s6, .u]) ?_ (by rw [← hF]; simp) ?_ rfl lcT rfl) rfl fr), .str y, _, rfl, by simp, y, a, b, rfl, by simp, hyn, hyt, c⟩
      · show (iAny _) _ = _
        rw [show iAny (eLc (iR1 (eC (.int 70))) (setD 7) tYs (eOp addD (eC (.str "n")) (eCall strD (aCons (eVar 7) aNil))) [7]) [cup a b, .d T, .d (.str Ls), .d (.str Ds), s4, s5, s6, .u] = (eLc (iR1 (eC (.int 70))) (setD 7) tYs (eOp addD (eC (.str "n")) (eCall strD (aCons (eVar 7) aNil))) [7] [cup a b, .d T, .d (.str Ls), .d (.str Ds), s4, s5, s6, .u] >>= fun r => li (iterD r.1) >>= fun xs => .ok (xs, r.2)) from rfl]
        rw [lstLc (iR1_ok (m := 70) rfl (by omega)) (by simp) rfl rfl lcF rfl]
        rfl
      · cases s5 with
        | m xs => cases h5
        | _ => rfl
    · rintro d ρ ⟨x, a, b, s4, s5, s6, rfl, hx, hm, c, rfl⟩
      exact ⟨_, _, rfl, by simp, x, a, b, rfl, by simp, hx, hm, c⟩)
  unfold S__law_name at e
  exact ⟨x, a', b', hx1, hx2, hc, e⟩
end Pd
end

section
/-! Pd: the draws of several names, walks. -/
namespace Pd
open PySem L2
theorem strsOf_map (xs : List Str) : strsOf (xs.map PyData.str) = some xs := by
  have := strsM id xs
  simpa using this
theorem srt_ok (xs : List Str) (h : xs.length < 64) : srtD [.list (strL xs)] = some (.list (strL (sortStr xs))) := by
  simp only [srtD, srtL, strsOf_map, Option.bind_some, if_pos h, Option.map_some]
theorem ecall {f : List D → Option D} {g : AF} {ρ ρ1 : List Sl} {xs : List D} {d : D} (h : g ρ = .ok (xs, ρ1)) (h2 : f xs = some d) : eCall f g ρ = .ok (d, ρ1) := by
  simp only [eCall, h, bind_ok, h2, li]
/-- names in ascending order -/
structure Nms (xs : List Str) : Prop where
  n : ∀ x ∈ xs, nmG x
  s : xs.Pairwise fun a b => sle a b = true
  d : xs.Nodup
theorem Nms.asc {xs : List Str} (h : Nms xs) : asc xs = true := asc_of h.s h.d
theorem Nms.sub {xs ys : List Str} (h : Nms ys) (s : xs.Sublist ys) : Nms xs := ⟨fun x hx => h.n x (s.subset hx), h.s.sublist s, h.d.sublist s⟩
theorem names_ok {a b : Int} (c : CupOk a b) {many : Nat} (hm : many < 64) :
    ∃ xs a' b', xs.length = many ∧ Nms xs ∧ CupOk a' b' ∧ m__law_names [cup a b, .d (.int (many : Int))] = .ok (.list (strL xs), [cup a' b', .d (.int (many : Int))]) := by
  rw [m__law_names_eq]
  obtain ⟨d, as', e, xs, a', b', rfl, rfl, h1, h2, hc⟩ := fn_rn (nN := 4) (as := [cup a b, .d (.int (many : Int))]) (ρ0 := [cup a b, .d (.int (many : Int)), .u, .u]) (S := S__law_names) (Q := fun d as' => ∃ xs a' b', d = .list (strL xs) ∧ as' = [cup a' b', .d (.int (many : Int))] ∧ xs.length = many ∧ Nms xs ∧ CupOk a' b') rfl (by
    unfold S__law_names
    refine rn_nx (ρ' := [cup a b, .d (.int (many : Int)), .m (strL []), .u]) rfl ?_
    refine for_rn (ρ1 := [cup a b, .d (.int (many : Int)), .m (strL []), .u]) (xs := List.range many) (fun (k : Nat) => PyData.int (k : Int))
      (fun ys ρ => ∃ a b xs s3, CupOk a b ∧ xs.length + ys.length = many ∧ (∀ x ∈ xs, nmG x) ∧ xs.Nodup ∧ nm s3 = true ∧ ρ = [cup a b, .d (.int (many : Int)), .m (strL xs), s3])
      NoJ (iR1_ok (m := many) rfl (by omega)) ⟨a, b, [], .u, c, by simp, by simp, by simp, rfl, rfl⟩ ?_ ?_ (fun _ _ h => h.elim)
    · rintro k ys ρ ⟨a, b, xs, s3, c, hl, hn, hd, h3, rfl⟩
      simp only [List.length_cons] at hl
      refine ⟨[cup a b, .d (.int (many : Int)), .m (strL xs), .d (.int k)], by simp [h3], ?_⟩
      obtain ⟨x, a1, b1, hx, hxt, c1, e1⟩ := name_ok c (taken := xs) (by omega)
      refine go (ρ2 := [cup a1 b1, .d (.int (many : Int)), .m (strL (xs ++ [x])), .d (.int k)]) ?_ ⟨a1, b1, xs ++ [x], _, c1, by simp; omega, ?_, ?_, rfl, rfl⟩
      · rw [show strL (xs ++ [x]) = strL xs ++ [.str x] by simp]
        refine app (i := 2) (ρ1 := [cup a1 b1, .d (.int (many : Int)), .m (strL xs), .d (.int k)]) (xs := strL xs) (ys := strL xs) rfl ?_ rfl (by simp; omega)
        exact loan (xs := strL xs) (ρ1 := [cup a1 b1, .d (.int (many : Int)), .d (.list (strL xs)), .d (.int k)]) rfl (us (sls := [cup a b, .d (.list (strL xs))]) rfl ⟨rfl, by simp⟩ rfl e1 rfl) (by simp) rfl
      · intro y hy
        rcases List.mem_append.mp hy with hy | hy
        · exact hn y hy
        · simp at hy; subst hy; exact hx
      · rw [List.nodup_append]
        refine ⟨hd, by simp, ?_⟩
        intro y hy z hz
        simp at hz
        subst hz
        rintro rfl
        exact hxt hy
    · rintro ρ ⟨a, b, xs, s3, c, hl, hn, hd, h3, rfl⟩
      simp only [List.length_nil, Nat.add_zero] at hl
      have e := srt_ok xs (by omega)
      have hp := sortStr_perm xs
      refine ⟨_, rt (ρ' := [cup a b, .d (.int (many : Int)), .d (.list (strL xs)), s3]) (ecall (xs := [.list (strL xs)]) rfl e), _, _, rfl, by simp, sortStr xs, a, b, rfl, by simp, ?_, ⟨fun x hx => hn x (hp.mem_iff.mp hx), sortStr_pw xs, hp.nodup_iff.mpr hd⟩, c⟩
      rw [hp.length_eq, hl])
  exact ⟨xs, a', b', h1, h2, hc, e⟩
/-! ### walks -/
theorem roll_n {a b : Int} (c : CupOk a b) {m : Nat} (h0 : 0 < m) (h1 : m ≤ 1000000) :
    ∃ (r : Nat) (a' b' : Int), r < m ∧ CupOk a' b' ∧ m__law_roll [cup a b, .d (.int (m : Int))] = .ok (.int (r : Int), [cup a' b', .d (.int (m : Int))]) := by
  obtain ⟨r, a', b', h2, h3, c', e⟩ := roll_ok c (many := (m : Int)) (by omega) (by omega)
  obtain ⟨k, rfl⟩ := Int.eq_ofNat_of_zero_le h2
  exact ⟨k, a', b', by omega, c', e⟩
theorem depth_arw (a : Arw) : PyData.depth a.d ≤ 1 := by unfold Arw.d; simp
theorem ne_nil {xs : List D} (h : PyData.depthAll xs ≤ 60) : neD (.list xs) (.list []) = some (.bool (!xs.isEmpty)) := by
  have := eq_nil h
  rw [eqD_def, if_pos ⟨by simp; omega, by simp⟩] at this
  rw [neD_def, if_pos ⟨by simp; omega, by simp⟩]
  simp only [Option.some.injEq, PyData.bool.injEq] at this ⊢
  rw [this]
theorem walk_ok {as : List Arw} (ha : (as.map Arw.n).Nodup) (hl : as.length ≤ 20) {a b : Int} (c : CupOk a b) (p : Str) {most : Nat} (hm : most ≤ 1000) :
    ∃ ns q a' b', stop as p ns = some q ∧ ns.length ≤ most ∧ CupOk a' b' ∧ m__law_walk [cup a b, .d (arsD as), .d (.str p), .d (.int (most : Int))] = .ok (sT ns, [cup a' b', .d (arsD as), .d (.str p), .d (.int (most : Int))]) := by
  have it := iter_ars as
  have hn : (as.map Arw.d).length ≤ 1000000 := by simp; omega
  have lc : ∀ a b N h s6 s7, nm s6 = true → nm s7 = true → lcL (setD 8) (tBo (eOp eqD (eOp ixD (eVar 8) (eC (.int 1))) (eVar 5))) (eVar 8) [8] (as.map Arw.d) [cup a b, .d (arsD as), .d (.str p), .d (.int (most : Int)), .d N, .d (.str h), s6, s7, .u] = .ok ((as.filter fun x => decide (x.p = h)).map Arw.d, [cup a b, .d (arsD as), .d (.str p), .d (.int (most : Int)), .d N, .d (.str h), s6, s7, .u]) := fun a b N h s6 s7 _ _ =>
    lc_filt (fun (x : Arw) => decide (x.p = h)) fun x _ => by
      by_cases c : x.p = h <;> simp [-eqD_def, str_eq, c]
  rw [m__law_walk_eq]
  obtain ⟨d, as', e, ns, q, a', b', rfl, rfl, h1, h2, hc⟩ := fn_rn (nN := 9) (as := [cup a b, .d (arsD as), .d (.str p), .d (.int (most : Int))]) (ρ0 := [cup a b, .d (arsD as), .d (.str p), .d (.int (most : Int)), .u, .u, .u, .u, .u]) (S := S__law_walk) (Q := fun d as' => ∃ ns q a' b', d = sT ns ∧ as' = [cup a' b', .d (arsD as), .d (.str p), .d (.int (most : Int))] ∧ stop as p ns = some q ∧ ns.length ≤ most ∧ CupOk a' b') rfl (by
    unfold S__law_walk
    generalize hA : arsD as = A at *
    refine rn_nx (ρ' := [cup a b, .d A, .d (.str p), .d (.int (most : Int)), .d (sT []), .d (.str p), .u, .u, .u]) rfl ?_
    obtain ⟨r, a1, b1, hr, c1, e1⟩ := roll_n c (m := most + 1) (by omega) (by omega)
    refine for_rn (ρ1 := [cup a1 b1, .d A, .d (.str p), .d (.int (most : Int)), .d (sT []), .d (.str p), .u, .u, .u]) (xs := List.range r) (fun (k : Nat) => PyData.int (k : Int))
      (fun ys ρ => ∃ a b ns h s6 s7 s8, CupOk a b ∧ stop as p ns = some h ∧ ns.length + ys.length ≤ most ∧ nm s6 = true ∧ nm s7 = true ∧ nm s8 = true ∧ ρ = [cup a b, .d A, .d (.str p), .d (.int (most : Int)), .d (sT ns), .d (.str h), s6, s7, s8])
      NoJ (iR1_ok (m := r) (us (sls := [cup a b, .d (.int ((most + 1 : Nat) : Int))]) (args := [.r 0, .d (.int ((most + 1 : Nat) : Int))]) (ρ1 := [cup a b, .d A, .d (.str p), .d (.int (most : Int)), .d (sT []), .d (.str p), .u, .u, .u]) rfl ⟨rfl, by simp⟩ rfl e1 rfl) (by omega)) ⟨a1, b1, [], p, .u, .u, .u, c1, rfl, by simp; omega, rfl, rfl, rfl, rfl⟩ ?_ ?_ (fun _ _ h => h.elim)
    · rintro k ys ρ ⟨a, b, ns, h, s6, s7, s8, c, hs, hlen, h6, h7, h8, rfl⟩
      simp only [List.length_cons] at hlen
      refine ⟨[cup a b, .d A, .d (.str p), .d (.int (most : Int)), .d (sT ns), .d (.str h), .d (.int k), s7, s8], by simp [h6], ?_⟩
      have lc := lc a b (sT ns) h (.d (.int k)) s7 rfl h7
      have dp := ne_nil (xs := (as.filter fun x => decide (x.p = h)).map Arw.d) (by have := depthAll_arw (as.filter fun x => decide (x.p = h)); omega)
      generalize hRW : (as.filter fun x => decide (x.p = h)).map Arw.d = RW at *
      have hmix : ∀ s8, nm s8 = true → noM [8] [cup a b, .d A, .d (.str p), .d (.int (most : Int)), .d (sT ns), .d (.str h), .d (.int k), s7, s8] = true := fun s8 h => by cases s8 with
        | m xs => cases h
        | _ => rfl
      refine rn_nx (ρ' := [cup a b, .d A, .d (.str p), .d (.int (most : Int)), .d (sT ns), .d (.str h), .d (.int k), .d (.list RW), s8]) (asg (lstLc (xs := as.map Arw.d) (ρ1 := [cup a b, .d A, .d (.str p), .d (.int (most : Int)), .d (sT ns), .d (.str h), .d (.int k), s7, s8]) (by simp [it]) hn (hmix s8 h8) rfl lc rfl) (setD_eq (by simp [h7]))) ?_
      by_cases hne : RW = []
      · rw [hne] at dp ⊢
        exact go (ρ2 := [cup a b, .d A, .d (.str p), .d (.int (most : Int)), .d (sT ns), .d (.str h), .d (.int k), .d (.list []), s8]) (by simp [-neD_def, dp]) ⟨a, b, ns, h, _, _, _, c, hs, by omega, rfl, rfl, h8, rfl⟩
      · have hlenR : RW.length ≤ 20 := by rw [← hRW]; simp; exact Nat.le_trans (List.length_filter_le _ _) hl
        obtain ⟨d, a2, b2, hd, c2, e2⟩ := some_list c (xs := RW) (List.length_pos_iff.mpr hne) (by omega)
        have hd' := hd
        rw [← hRW] at hd'
        obtain ⟨x, hx, rfl⟩ := List.mem_map.mp hd'
        rw [List.mem_filter] at hx
        obtain ⟨hx1, hx2⟩ := hx
        have hx2 : x.p = h := by simpa using hx2
        have hnx : nxt as h x.n = some x.q := by
          unfold nxt rowA
          rw [find_key Arw.n ha hx1]
          simp [hx2]
        have ad := sT_add ns [x.n] (by simp; omega)
        refine ⟨.nx [cup a2 b2, .d A, .d (.str p), .d (.int (most : Int)), .d (sT (ns ++ [x.n])), .d (.str x.q), .d (.int k), .d (.list RW), .d x.d], if_yes (ρ' := [cup a b, .d A, .d (.str p), .d (.int (most : Int)), .d (sT ns), .d (.str h), .d (.int k), .d (.list RW), s8]) ?_ (sq (ρ' := [cup a2 b2, .d A, .d (.str p), .d (.int (most : Int)), .d (sT ns), .d (.str h), .d (.int k), .d (.list RW), .d x.d]) (asg (us (sls := [cup a b, .d (.list RW)]) (args := [.r 0, .d (.list RW)]) (ρ1 := [cup a b, .d A, .d (.str p), .d (.int (most : Int)), .d (sT ns), .d (.str h), .d (.int k), .d (.list RW), s8]) rfl ⟨rfl, by simp⟩ rfl e2 rfl) (setD_eq (by simp [h8]))) ?_), .inl ⟨[cup a2 b2, .d A, .d (.str p), .d (.int (most : Int)), .d (sT (ns ++ [x.n])), .d (.str x.q), .d (.int k), .d (.list RW), .d x.d], rfl, a2, b2, ns ++ [x.n], x.q, _, _, _, c2, ?_, by simp; omega, rfl, rfl, rfl, rfl⟩⟩
        · have : (!RW.isEmpty) = true := by simpa using hne
          rw [this] at dp
          simp [-neD_def, dp]
        · have ad2 : addD (sT ns) (.tuple [.str x.n]) = some (sT (ns ++ [x.n])) := ad
          generalize sT (ns ++ [x.n]) = N2 at *
          generalize sT ns = N at *
          simp [ad2]
        · rw [stop_append, hs]
          simp [stop, hnx]
    · rintro ρ ⟨a, b, ns, h, s6, s7, s8, c, hs, hlen, h6, h7, h8, rfl⟩
      exact ⟨_, rfl, _, _, rfl, by simp, ns, h, a, b, rfl, by simp, hs, by simpa using hlen, c⟩)
  exact ⟨ns, q, a', b', h1, h2, hc, e⟩
end Pd
end

section
/-! Pd: the draws of cells and computads. -/
namespace Pd
open PySem L2
theorem iany {f : EF} {ρ ρ1 : List Sl} {d : D} {xs : List D} (h : f ρ = .ok (d, ρ1)) (h2 : iterD d = some xs) : iAny f ρ = .ok (xs, ρ1) := by
  simp only [iAny, h, bind_ok, h2, li]
theorem cr0 {g : CF} {ρ ρ1 : List Sl} {xs : List D} {as : List Ar} {i : Nat} (h0 : ρ[i]? = some (.m xs)) (h : g ρ = .ok (as, ρ1)) : cR i g ρ = .ok (.r i :: as, ρ1) := by
  simp only [cR, h0, h, bind_ok]
theorem cd1 {f : EF} {g : CF} {ρ ρ1 ρ2 : List Sl} {d : D} {as : List Ar} (h : f ρ = .ok (d, ρ1)) (h2 : g ρ1 = .ok (as, ρ2)) : cD f g ρ = .ok (.d d :: as, ρ2) := by
  simp only [cD, h, h2, bind_ok]
theorem lc_keys {α β : Type} {g : GF} {t : TF} {f : EF} {vs : List Nat} (h : α → D) (k : β → D) (key : β → α) (P : β → Prop) (I : List Sl → Prop) : ∀ {xs : List α} {ρ : List Sl}, (∀ x ρ, I ρ → ∃ y ρ', lcStep g t f vs (h x) ρ = .ok (some (k y), ρ') ∧ I ρ' ∧ key y = x ∧ P y) → I ρ →
    ∃ (ys : List β) (ρ' : List Sl), lcL g t f vs (xs.map h) ρ = .ok (ys.map k, ρ') ∧ I ρ' ∧ ys.map key = xs ∧ ∀ y ∈ ys, P y
  | [], ρ, _, i => ⟨[], ρ, rfl, i, rfl, by simp⟩
  | x :: xs, ρ, hs, i => by
    obtain ⟨y, ρ', e, i', hk, hp⟩ := hs x ρ i
    obtain ⟨ys, ρ2, e2, i2, hk2, hp2⟩ := lc_keys h k key P I (xs := xs) hs i'
    refine ⟨y :: ys, ρ2, by rw [List.map_cons, lcL_step e, e2]; simp, i2, by simp [hk, hk2], fun z hz => ?_⟩
    rcases List.mem_cons.mp hz with rfl | hz
    · exact hp
    · exact hp2 z hz
/-- what is known of points and arrows -/
structure PA (pts : List Str) (as : List Arw) : Prop where
  p1 : 1 ≤ pts.length
  p2 : pts.length ≤ 12
  pn : Nms pts
  a2 : as.length ≤ 20
  an : Nms (as.map Arw.n)
  am : ∀ a ∈ as, a.p ∈ pts ∧ a.q ∈ pts
def Gc (pts : List Str) (as : List Arw) (m : Nat) (c : Cel) : Prop := c.p ∈ pts ∧ c.up.length ≤ m ∧ c.lo.length ≤ m ∧ ∃ q, stop as c.p c.up = some q ∧ stop as c.p c.lo = some q
theorem PA.ok {pts : List Str} {as : List Arw} (h : PA pts as) {cs : List Cel} (hc : cs.length ≤ 20) (hn : Nms (cs.map Cel.n)) (hg : ∀ c ∈ cs, Gc pts as 6 c) : Ok ⟨pts, as, cs⟩ where
  p1 := h.p1
  p2 := h.p2
  pn := fun x hx => (h.pn.n x hx).1
  pa := h.pn.asc
  a2 := h.a2
  an := fun a ha => ⟨(h.an.n _ (List.mem_map_of_mem ha)).1, h.am a ha⟩
  nn := fun a ha => (h.an.n _ (List.mem_map_of_mem ha)).2
  aa := h.an.asc
  ad := h.an.d
  c2 := hc
  cn := fun c hm => ⟨(hn.n _ (List.mem_map_of_mem hm)).1, hg c hm⟩
  ca := hn.asc
  cd := hn.d
theorem PA.ok0 {pts : List Str} {as : List Arw} (h : PA pts as) : Ok ⟨pts, as, []⟩ := h.ok (cs := []) (by simp) ⟨by simp, by simp, by simp⟩ (by simp)
theorem some_pts {a b : Int} (c : CupOk a b) {xs : List Str} (h0 : 0 < xs.length) (h1 : xs.length ≤ 1000000) : ∃ x a' b', x ∈ xs ∧ CupOk a' b' ∧ m__law_some [cup a b, .d (sT xs)] = .ok (.str x, [cup a' b', .d (sT xs)]) := by
  obtain ⟨d, a', b', hd, hc, e⟩ := some_tuple c (xs := strL xs) (by simpa using h0) (by simp; omega)
  obtain ⟨x, hx, rfl⟩ := List.mem_map.mp hd
  exact ⟨x, a', b', hx, hc, e⟩
theorem cells_ok {pts : List Str} {as : List Arw} (h : PA pts as) {a b : Int} (c : CupOk a b) {many : Nat} (hm : many ≤ 20) (least : Int) :
    ∃ cs a' b', cs.length ≤ many ∧ Nms (cs.map Cel.n) ∧ (∀ x ∈ cs, Gc pts as 3 x) ∧ CupOk a' b' ∧ m__law_cells [cup a b, .d (sT pts), .d (arsD as), .d (.int (many : Int)), .d (.int least)] = .ok (clsD cs, [cup a' b', .d (sT pts), .d (arsD as), .d (.int (many : Int)), .d (.int least)]) := by
  rw [m__law_cells_eq]
  obtain ⟨d, as', e, cs, a', b', rfl, rfl, h1, h2, h3, hc⟩ := fn_rn (nN := 12) (as := [cup a b, .d (sT pts), .d (arsD as), .d (.int (many : Int)), .d (.int least)]) (ρ0 := [cup a b, .d (sT pts), .d (arsD as), .d (.int (many : Int)), .d (.int least), .u, .u, .u, .u, .u, .u, .u]) (S := S__law_cells) (Q := fun d as' => ∃ cs a' b', d = clsD cs ∧ as' = [cup a' b', .d (sT pts), .d (arsD as), .d (.int (many : Int)), .d (.int least)] ∧ cs.length ≤ many ∧ Nms (cs.map Cel.n) ∧ (∀ x ∈ cs, Gc pts as 3 x) ∧ CupOk a' b') rfl (by
    unfold S__law_cells
    refine rn_nx (ρ' := [cup a b, .d (sT pts), .d (arsD as), .d (.int (many : Int)), .d (.int least), .m [], .u, .u, .u, .u, .u, .u]) rfl ?_
    obtain ⟨xs, a1, b1, hl, hn, c1, e1⟩ := names_ok c (many := many) (by omega)
    refine for_rn (ρ1 := [cup a1 b1, .d (sT pts), .d (arsD as), .d (.int (many : Int)), .d (.int least), .m [], .u, .u, .u, .u, .u, .u]) (xs := xs) PyData.str
      (fun ys ρ => ∃ a b cs s6 s7 s8 s9 s10 s11, CupOk a b ∧ (cs.map Cel.n ++ ys).Sublist xs ∧ (∀ x ∈ cs, Gc pts as 3 x) ∧ nm s6 = true ∧ nm s7 = true ∧ nm s8 = true ∧ nm s9 = true ∧ nm s10 = true ∧ nm s11 = true ∧ ρ = [cup a b, .d (sT pts), .d (arsD as), .d (.int (many : Int)), .d (.int least), .m (cs.map Cel.d), s6, s7, s8, s9, s10, s11])
      NoJ (iany (d := .list (strL xs)) (us (sls := [cup a b, .d (.int (many : Int))]) rfl ⟨rfl, by simp⟩ rfl e1 rfl) rfl) ⟨a1, b1, [], .u, .u, .u, .u, .u, .u, c1, by simp, by simp, rfl, rfl, rfl, rfl, rfl, rfl, rfl⟩ ?_ ?_ (fun _ _ h => h.elim)
    · rintro x ys ρ ⟨a, b, cs, s6, s7, s8, s9, s10, s11, c, hsub, hg, h6, h7, h8, h9, h10, h11, rfl⟩
      refine ⟨[cup a b, .d (sT pts), .d (arsD as), .d (.int (many : Int)), .d (.int least), .m (cs.map Cel.d), .d (.str x), s7, s8, s9, s10, s11], by simp [h6], ?_⟩
      obtain ⟨pt, a1, b1, hpt, c1, e1⟩ := some_pts c (xs := pts) (by have := h.p1; omega) (by have := h.p2; omega)
      refine rn_nx (ρ' := [cup a1 b1, .d (sT pts), .d (arsD as), .d (.int (many : Int)), .d (.int least), .m (cs.map Cel.d), .d (.str x), .d (.str pt), s8, s9, s10, s11]) (asg (us (sls := [cup a b, .d (sT pts)]) rfl ⟨rfl, by simp⟩ rfl e1 rfl) (setD_eq (by simp [h7]))) ?_
      obtain ⟨up, q, a2, b2, hu1, hu2, c2, e2⟩ := walk_ok h.an.d h.a2 c1 pt (most := 3) (by omega)
      refine rn_nx (ρ' := [cup a2 b2, .d (sT pts), .d (arsD as), .d (.int (many : Int)), .d (.int least), .m (cs.map Cel.d), .d (.str x), .d (.str pt), .d (sT up), s9, s10, s11]) (asg (us (sls := [cup a1 b1, .d (arsD as), .d (.str pt), .d (.int ((3 : Nat) : Int))]) rfl ⟨rfl, by simp⟩ rfl e2 rfl) (setD_eq (by simp [h8]))) ?_
      refine rn_nx (ρ' := [cup a2 b2, .d (sT pts), .d (arsD as), .d (.int (many : Int)), .d (.int least), .m (cs.map Cel.d), .d (.str x), .d (.str pt), .d (sT up), .d (sT up), s10, s11]) (asg rfl (setD_eq (by simp [h9]))) ?_
      obtain ⟨LU, alU, lastU⟩ := along_last h.ok0 hu1 (by omega)
      refine for_rn (ρ1 := [cup a2 b2, .d (sT pts), .d (arsD as), .d (.int (many : Int)), .d (.int least), .m (cs.map Cel.d), .d (.str x), .d (.str pt), .d (sT up), .d (sT up), s10, s11]) (xs := List.range 4) (fun (k : Nat) => PyData.int (k : Int))
        (fun ys ρ => ∃ a b lo s10 s11, CupOk a b ∧ stop as pt lo = some q ∧ lo.length ≤ 3 ∧ nm s10 = true ∧ nm s11 = true ∧ ρ = [cup a b, .d (sT pts), .d (arsD as), .d (.int (many : Int)), .d (.int least), .m (cs.map Cel.d), .d (.str x), .d (.str pt), .d (sT up), .d (sT lo), s10, s11])
        NoJ (iR1_ok (m := 4) rfl (by omega)) ⟨a2, b2, up, s10, s11, c2, hu1, hu2, h10, h11, rfl⟩ ?_ ?_ (fun _ _ h => h.elim)
      · rintro k zs ρ ⟨a, b, lo, s10, s11, c, hlo1, hlo2, h10, h11, rfl⟩
        refine ⟨[cup a b, .d (sT pts), .d (arsD as), .d (.int (many : Int)), .d (.int least), .m (cs.map Cel.d), .d (.str x), .d (.str pt), .d (sT up), .d (sT lo), .d (.int k), s11], by simp [h10], ?_⟩
        obtain ⟨ot, r, a3, b3, ho1, ho2, c3, e3⟩ := walk_ok h.an.d h.a2 c pt (most := 3) (by omega)
        refine rn_nx (ρ' := [cup a3 b3, .d (sT pts), .d (arsD as), .d (.int (many : Int)), .d (.int least), .m (cs.map Cel.d), .d (.str x), .d (.str pt), .d (sT up), .d (sT lo), .d (.int k), .d (sT ot)]) (asg (us (sls := [cup a b, .d (arsD as), .d (.str pt), .d (.int ((3 : Nat) : Int))]) rfl ⟨rfl, by simp⟩ rfl e3 rfl) (setD_eq (by simp [h11]))) ?_
        obtain ⟨LO, alO, lastO⟩ := along_last h.ok0 ho1 (by omega)
        have lnO := sT_len ot
        have se := str_eq r q
        simp only at alU alO
        by_cases d1 : least ≤ (ot.length : Int)
        · by_cases d2 : r = q
          · subst d2
            refine go (ρ2 := [cup a3 b3, .d (sT pts), .d (arsD as), .d (.int (many : Int)), .d (.int least), .m (cs.map Cel.d), .d (.str x), .d (.str pt), .d (sT up), .d (sT ot), .d (.int k), .d (sT ot)]) ?_ ⟨a3, b3, ot, _, _, c3, ho1, ho2, rfl, rfl, rfl⟩
            generalize sT ot = OT at *
            generalize sT up = UP at *
            generalize sT lo = LO1 at *
            simp [-eqD_def, lnO, d1, alO, alU, lastO, lastU, se]
          · refine go (ρ2 := [cup a3 b3, .d (sT pts), .d (arsD as), .d (.int (many : Int)), .d (.int least), .m (cs.map Cel.d), .d (.str x), .d (.str pt), .d (sT up), .d (sT lo), .d (.int k), .d (sT ot)]) ?_ ⟨a3, b3, lo, _, _, c3, hlo1, hlo2, rfl, rfl, rfl⟩
            generalize sT ot = OT at *
            generalize sT up = UP at *
            generalize sT lo = LO1 at *
            simp [-eqD_def, lnO, d1, alO, alU, lastO, lastU, se, d2]
        · refine go (ρ2 := [cup a3 b3, .d (sT pts), .d (arsD as), .d (.int (many : Int)), .d (.int least), .m (cs.map Cel.d), .d (.str x), .d (.str pt), .d (sT up), .d (sT lo), .d (.int k), .d (sT ot)]) ?_ ⟨a3, b3, lo, _, _, c3, hlo1, hlo2, rfl, rfl, rfl⟩
          generalize sT ot = OT at *
          generalize sT up = UP at *
          generalize sT lo = LO1 at *
          simp [-eqD_def, lnO, d1]
      · rintro ρ ⟨a, b, lo, s10, s11, c, hlo1, hlo2, h10, h11, rfl⟩
        have lnU := sT_len up
        have lnL := sT_len lo
        have hcl : (cs.map Cel.d).length < 1000000 := by
          have := hsub.length_le
          simp at this ⊢
          omega
        have hx : cs.map Cel.d ++ [.tuple [.str x, .str pt, sT up, sT lo]] = (cs ++ [Cel.mk x pt up lo]).map Cel.d := by simp [Cel.d]
        by_cases d1 : least ≤ (up.length : Int) ∧ least ≤ (lo.length : Int)
        · refine go (ρ2 := [cup a b, .d (sT pts), .d (arsD as), .d (.int (many : Int)), .d (.int least), .m ((cs ++ [Cel.mk x pt up lo]).map Cel.d), .d (.str x), .d (.str pt), .d (sT up), .d (sT lo), s10, s11]) ?_ ⟨a, b, cs ++ [Cel.mk x pt up lo], _, _, _, _, _, _, c, by simpa using hsub, ?_, rfl, rfl, rfl, rfl, h10, h11, rfl⟩
          · rw [← hx]
            generalize sT up = UP at *
            generalize sT lo = LO1 at *
            generalize cs.map Cel.d = CS at *
            simp [lnU, lnL, d1.1, d1.2, hcl]
          · intro y hy
            rcases List.mem_append.mp hy with hy | hy
            · exact hg y hy
            · simp at hy; subst hy
              exact ⟨hpt, hu2, hlo2, q, hu1, hlo1⟩
        · refine go (ρ2 := [cup a b, .d (sT pts), .d (arsD as), .d (.int (many : Int)), .d (.int least), .m (cs.map Cel.d), .d (.str x), .d (.str pt), .d (sT up), .d (sT lo), s10, s11]) ?_ ⟨a, b, cs, _, _, _, _, _, _, c, ?_, hg, rfl, rfl, rfl, rfl, h10, h11, rfl⟩
          · generalize sT up = UP at *
            generalize sT lo = LO1 at *
            generalize cs.map Cel.d = CS at *
            by_cases d2 : least ≤ (up.length : Int)
            · have d3 : ¬ least ≤ (lo.length : Int) := fun z => d1 ⟨d2, z⟩
              simp [lnU, lnL, d2, d3]
            · simp [lnU, lnL, d2]
          · exact (List.Sublist.append_left (List.sublist_cons_self x ys) _).trans hsub
    · rintro ρ ⟨a, b, cs, s6, s7, s8, s9, s10, s11, c, hsub, hg, h6, h7, h8, h9, h10, h11, rfl⟩
      rw [List.append_nil] at hsub
      refine ⟨.rt (clsD cs) [cup a b, .d (sT pts), .d (arsD as), .d (.int (many : Int)), .d (.int least), .m (cs.map Cel.d), s6, s7, s8, s9, s10, s11], ?_, _, _, rfl, by simp, cs, a, b, rfl, by simp, ?_, hn.sub hsub, hg, c⟩
      · unfold clsD
        generalize cs.map Cel.d = CS
        simp
      · have := hsub.length_le
        simp at this
        omega)
  exact ⟨cs, a', b', h1, h2, h3, hc, e⟩
end Pd
end

section
/-! Pd: the draws of computads. -/
namespace Pd
open PySem L2
theorem noM_of {v : Nat} {ρ : List Sl} {s : Sl} (h : ρ[v]? = some s) (hs : nm s = true) : noM [v] ρ = true := by
  unfold noM
  simp only [List.all_cons, List.all_nil, h, Bool.and_true]
  cases s with
  | m xs => cases hs
  | _ => rfl
theorem tup_strL (xs : List Str) : tupOf [.list (strL xs)] = some (sT xs) := rfl
theorem list_int {ns : List Nat} {d : D} (h : d ∈ ns.map fun (n : Nat) => PyData.int (n : Int)) : ∃ n : Nat, n ∈ ns ∧ d = .int (n : Int) := by
  obtain ⟨n, hn, rfl⟩ := List.mem_map.mp h
  exact ⟨n, hn, rfl⟩
/-- a small number out of a list of numbers -/
theorem some_nat {a b : Int} (c : CupOk a b) (ns : List Nat) (h0 : 0 < ns.length) (h1 : ns.length ≤ 1000000) : ∃ n a' b', n ∈ ns ∧ CupOk a' b' ∧ m__law_some [cup a b, .d (.list (ns.map fun (n : Nat) => PyData.int (n : Int)))] = .ok (.int (n : Int), [cup a' b', .d (.list (ns.map fun (n : Nat) => PyData.int (n : Int)))]) := by
  obtain ⟨d, a', b', hd, hc, e⟩ := some_list c (xs := ns.map fun (n : Nat) => PyData.int (n : Int)) (by simpa using h0) (by simp; omega)
  obtain ⟨n, hn, rfl⟩ := list_int hd
  exact ⟨n, a', b', hn, hc, e⟩
theorem Gc.up {pts : List Str} {as : List Arw} {m k : Nat} {c : Cel} (h : Gc pts as m c) (hm : m ≤ k) : Gc pts as k c := ⟨h.1, by have := h.2.1; omega, by have := h.2.2.1; omega, h.2.2.2⟩
theorem computad_ok {a b : Int} (c : CupOk a b) (least : Int) :
    ∃ C a' b', Ok C ∧ CupOk a' b' ∧ m__law_computad [cup a b, .d (.int least)] = .ok (C.d, [cup a' b', .d (.int least)]) := by
  rw [m__law_computad_eq]
  obtain ⟨d, as', e, C, a', b', rfl, rfl, h1, hc⟩ := fn_rn (nN := 5) (as := [cup a b, .d (.int least)]) (ρ0 := [cup a b, .d (.int least), .u, .u, .u]) (S := S__law_computad) (Q := fun d as' => ∃ C a' b', d = C.d ∧ as' = [cup a' b', .d (.int least)] ∧ Ok C ∧ CupOk a' b') rfl (by
    unfold S__law_computad
    obtain ⟨n1, a1, b1, hn1, c1, e1⟩ := some_nat c [1, 1, 2, 3] (by simp) (by simp)
    have hn1' : 1 ≤ n1 ∧ n1 ≤ 3 := by simp at hn1; omega
    obtain ⟨pts, a2, b2, hl2, hn2, c2, e2⟩ := names_ok c1 (many := n1) (by omega)
    refine rn_nx (ρ' := [cup a2 b2, .d (.int least), .d (sT pts), .u, .u]) (asg (ecall (xs := [.list (strL pts)]) (acons (us (sls := [cup a1 b1, .d (.int (n1 : Int))]) (cr0 (xs := [.int a, .int b]) rfl (cd1 (us (sls := [cup a b, .d (.list ([1, 1, 2, 3].map fun (n : Nat) => PyData.int (n : Int)))]) rfl ⟨rfl, by simp⟩ rfl e1 rfl) rfl)) ⟨rfl, by simp⟩ rfl e2 rfl) rfl) (tup_strL pts)) (setD_eq rfl)) ?_
    obtain ⟨n3, a3, b3, hr3, c3, e3⟩ := roll_n c2 (m := 5) (by omega) (by omega)
    obtain ⟨xs, a4, b4, hl4, hn4, c4, e4⟩ := names_ok c3 (many := 1 + n3) (by omega)
    obtain ⟨as, ρ5, e5, ⟨a5, b5, c5, rfl⟩, hk, hP⟩ := lc_keys (xs := xs) (g := setD 4) (t := tYs) (f := eTup (aCons (eVar 4) (aCons (eUser 2 (m__law_some) (cR 0 (cD (eVar 2) (cNil)))) (aCons (eUser 2 (m__law_some) (cR 0 (cD (eVar 2) (cNil)))) (aNil))))) (vs := [4]) PyData.str Arw.d Arw.n (fun x => x.p ∈ pts ∧ x.q ∈ pts)
      (fun ρ => ∃ a b, CupOk a b ∧ ρ = [cup a b, .d (.int least), .d (sT pts), .u, .u]) (ρ := [cup a4 b4, .d (.int least), .d (sT pts), .u, .u]) (by
        rintro x ρ ⟨a, b, c, rfl⟩
        obtain ⟨p, a1, b1, hp, c1, e1⟩ := some_pts c (xs := pts) (by omega) (by omega)
        obtain ⟨q, a2, b2, hq, c2, e2⟩ := some_pts c1 (xs := pts) (by omega) (by omega)
        refine ⟨⟨x, p, q⟩, [cup a2 b2, .d (.int least), .d (sT pts), .u, .u], lc1 (ρ1 := [cup a b, .d (.int least), .d (sT pts), .u, .d (.str x)]) (ρ2 := [cup a2 b2, .d (.int least), .d (sT pts), .u, .d (.str x)]) rfl (etup (acons rfl (acons (us (sls := [cup a b, .d (sT pts)]) rfl ⟨rfl, by simp⟩ rfl e1 rfl) (acons (us (sls := [cup a1 b1, .d (sT pts)]) rfl ⟨rfl, by simp⟩ rfl e2 rfl) rfl))) (by simp)) rfl, ⟨a2, b2, c2, rfl⟩, rfl, hp, hq⟩) ⟨a4, b4, c4, rfl⟩
    have hlen : as.length = 1 + n3 := by rw [← hl4, ← hk]; simp
    have pa : PA pts as := ⟨by omega, by omega, hn2, by omega, hk ▸ hn4, hP⟩
    refine rn_nx (ρ' := [cup a5 b5, .d (.int least), .d (sT pts), .d (arsD as), .u]) (asg (tupLc (ρ1 := [cup a4 b4, .d (.int least), .d (sT pts), .u, .u]) (iany (d := .list (strL xs)) (us (sls := [cup a3 b3, .d (.int ((1 + n3 : Nat) : Int))]) (args := [.r 0, .d (.int ((1 + n3 : Nat) : Int))]) (cr0 (xs := [.int a2, .int b2]) rfl (cd1 (eop (x := .int 1) rfl (us (sls := [cup a2 b2, .d (.int ((5 : Nat) : Int))]) (ρ1 := [cup a2 b2, .d (.int least), .d (sT pts), .u, .u]) rfl ⟨rfl, by simp⟩ rfl e3 rfl) (by simp)) rfl)) ⟨rfl, by simp⟩ rfl e4 rfl) rfl) (by simp; omega) rfl rfl e5 rfl) (setD_eq rfl)) ?_
    obtain ⟨n6, a6, b6, hr6, c6, e6⟩ := roll_n c5 (m := 5) (by omega) (by omega)
    obtain ⟨cs, a7, b7, g1, g2, g3, c7, e7⟩ := cells_ok pa c6 (many := 1 + n6) (by omega) least
    refine ⟨_, rt (ρ' := [cup a7 b7, .d (.int least), .d (sT pts), .d (arsD as), .u]) (d := Cpd.d ⟨pts, as, cs⟩) (etup (acons rfl (acons rfl (acons (us (sls := [cup a6 b6, .d (sT pts), .d (arsD as), .d (.int ((1 + n6 : Nat) : Int)), .d (.int least)]) (args := [.r 0, .d (sT pts), .d (arsD as), .d (.int ((1 + n6 : Nat) : Int)), .d (.int least)]) (cr0 (xs := [.int a5, .int b5]) rfl (cd1 rfl (cd1 rfl (cd1 (eop (x := .int 1) rfl (us (sls := [cup a5 b5, .d (.int ((5 : Nat) : Int))]) (ρ1 := [cup a5 b5, .d (.int least), .d (sT pts), .d (arsD as), .u]) rfl ⟨rfl, by simp⟩ rfl e6 rfl) (by simp)) (cd1 rfl rfl))))) ⟨rfl, by simp⟩ rfl e7 rfl) rfl))) (by simp)), _, _, rfl, by simp, ⟨pts, as, cs⟩, a7, b7, rfl, by simp, pa.ok (by omega) g2 (fun x hx => (g3 x hx).up (by omega)), c7⟩)
  exact ⟨C, a', b', h1, hc, e⟩
theorem cut_sub {α : Type} (xs : List α) (lo hi : Option Int) : (cutL xs lo hi).Sublist xs := (List.take_sublist _ _).trans (List.drop_sublist _ _)
theorem cd0 (ρ : List Sl) : cNil ρ = .ok ([], ρ) := rfl
theorem esl {f : EF} {l h : OF} {ρ ρ1 ρ2 ρ3 : List Sl} {x d : D} {lo hi : Option Int} (e1 : f ρ = .ok (x, ρ1)) (e2 : l ρ1 = .ok (lo, ρ2)) (e3 : h ρ2 = .ok (hi, ρ3)) (e4 : slD x lo hi = some d) : eSl f l h ρ = .ok (d, ρ3) := by
  simp only [eSl, e1, e2, e3, e4, bind_ok, li]
theorem large_ok {a b : Int} (c : CupOk a b) : ∃ C a' b', Ok C ∧ CupOk a' b' ∧ m__law_large [cup a b] = .ok (C.d, [cup a' b']) := by
  rw [m__law_large_eq]
  obtain ⟨d, as', e, C, a', b', rfl, rfl, h1, hc⟩ := fn_rn (nN := 8) (as := [cup a b]) (ρ0 := [cup a b, .u, .u, .u, .u, .u, .u, .u]) (S := S__law_large) (Q := fun d as' => ∃ C a' b', d = C.d ∧ as' = [cup a' b'] ∧ Ok C ∧ CupOk a' b') rfl (by
    unfold S__law_large
    obtain ⟨pts, a2, b2, hl2, hn2, c2, e2⟩ := names_ok c (many := 12) (by omega)
    refine rn_nx (ρ' := [cup a2 b2, .d (sT pts), .u, .u, .u, .u, .u, .u]) (asg (ecall (xs := [.list (strL pts)]) (acons (us (sls := [cup a b, .d (.int ((12 : Nat) : Int))]) rfl ⟨rfl, by simp⟩ rfl e2 rfl) rfl) (tup_strL pts)) (setD_eq rfl)) ?_
    obtain ⟨xs, a4, b4, hl4, hn4, c4, e4⟩ := names_ok c2 (many := 20) (by omega)
    have s4 : slD (sT pts) none (some 4) = some (sT (pts.take 4)) := sT_take pts 4
    have sm : slD (sT pts) (some (-1)) none = some (sT (cutL pts (some (-1)) none)) := by rw [slD_t, cut_map]
    have subm := cut_sub pts (some (-1)) none
    generalize hE : cutL pts (some (-1)) none = E at sm subm
    have hE2 : E.length ≤ 12 := by have := subm.length_le; omega
    have ht4 : (pts.take 4).length = 4 := by simp; omega
    have ad := sT_add (pts.take 4) E (by omega)
    obtain ⟨as, ρ5, e5, ⟨a5, b5, c5, rfl⟩, hk, hP⟩ := lc_keys (xs := xs) (g := setD 4) (t := tYs) (f := eTup (aCons (eVar 4) (aCons (eUser 2 (m__law_some) (cR 0 (cD (eSl (eVar 1) (oNo) (oSome (eC (.int 4)))) (cNil)))) (aCons (eUser 2 (m__law_some) (cR 0 (cD (eOp addD (eSl (eVar 1) (oNo) (oSome (eC (.int 4)))) (eSl (eVar 1) (oSome (eUn negD (eC (.int 1)))) (oNo))) (cNil)))) (aNil))))) (vs := [4]) PyData.str Arw.d Arw.n (fun x => x.p ∈ pts ∧ x.q ∈ pts)
      (fun ρ => ∃ a b, CupOk a b ∧ ρ = [cup a b, .d (sT pts), .u, .u, .u, .u, .u, .u]) (ρ := [cup a4 b4, .d (sT pts), .u, .u, .u, .u, .u, .u]) (by
        rintro x ρ ⟨a, b, c, rfl⟩
        obtain ⟨p, a1, b1, hp, c1, e1⟩ := some_pts c (xs := pts.take 4) (by omega) (by omega)
        obtain ⟨q, a2, b2, hq, c2, e2⟩ := some_pts c1 (xs := pts.take 4 ++ E) (by simp; omega) (by simp; omega)
        refine ⟨⟨x, p, q⟩, [cup a2 b2, .d (sT pts), .u, .u, .u, .u, .u, .u], lc1 (ρ1 := [cup a b, .d (sT pts), .u, .u, .d (.str x), .u, .u, .u]) (ρ2 := [cup a2 b2, .d (sT pts), .u, .u, .d (.str x), .u, .u, .u]) rfl (etup (acons rfl (acons (us (sls := [cup a b, .d (sT (pts.take 4))]) (cr0 (xs := [.int a, .int b]) rfl (cd1 (esl rfl rfl rfl s4) rfl)) ⟨rfl, by simp⟩ rfl e1 rfl) (acons (us (sls := [cup a1 b1, .d (sT (pts.take 4 ++ E))]) (cr0 (xs := [.int a1, .int b1]) rfl (cd1 (eop (esl rfl rfl rfl s4) (esl rfl rfl rfl sm) ad) rfl)) ⟨rfl, by simp⟩ rfl e2 rfl) rfl))) (by simp)) rfl, ⟨a2, b2, c2, rfl⟩, rfl, List.mem_of_mem_take hp, ?_⟩
        rcases List.mem_append.mp hq with hq | hq
        · exact List.mem_of_mem_take hq
        · exact subm.subset hq) ⟨a4, b4, c4, rfl⟩
    have hlen : as.length = 20 := by rw [← hl4, ← hk]; simp
    have pa : PA pts as := ⟨by omega, by omega, hn2, by omega, hk ▸ hn4, hP⟩
    refine rn_nx (ρ' := [cup a5 b5, .d (sT pts), .d (arsD as), .u, .u, .u, .u, .u]) (asg (tupLc (ρ1 := [cup a4 b4, .d (sT pts), .u, .u, .u, .u, .u, .u]) (iany (d := .list (strL xs)) (us (sls := [cup a2 b2, .d (.int ((20 : Nat) : Int))]) rfl ⟨rfl, by simp⟩ rfl e4 rfl) rfl) (by simp; omega) rfl rfl e5 rfl) (setD_eq rfl)) ?_
    refine rn_nx (ρ' := [cup a5 b5, .d (sT pts), .d (arsD as), .m [], .u, .u, .u, .u]) rfl ?_
    obtain ⟨xs, a1, b1, hl, hn, c1, e1⟩ := names_ok c5 (many := 20) (by omega)
    refine for_rn (ρ1 := [cup a1 b1, .d (sT pts), .d (arsD as), .m [], .u, .u, .u, .u]) (xs := xs) PyData.str
      (fun ys ρ => ∃ a b cs s4 s5 s6 s7, CupOk a b ∧ (cs.map Cel.n ++ ys).Sublist xs ∧ (∀ x ∈ cs, Gc pts as 6 x) ∧ nm s4 = true ∧ nm s5 = true ∧ nm s6 = true ∧ nm s7 = true ∧ ρ = [cup a b, .d (sT pts), .d (arsD as), .m (cs.map Cel.d), s4, s5, s6, s7])
      NoJ (iany (d := .list (strL xs)) (us (sls := [cup a5 b5, .d (.int ((20 : Nat) : Int))]) rfl ⟨rfl, by simp⟩ rfl e1 rfl) rfl) ⟨a1, b1, [], .u, .u, .u, .u, c1, by simp, by simp, rfl, rfl, rfl, rfl, rfl⟩ ?_ ?_ (fun _ _ h => h.elim)
    · rintro x ys ρ ⟨a, b, cs, s4', s5, s6, s7, c, hsub, hg, h4, h5, h6, h7, rfl⟩
      refine ⟨[cup a b, .d (sT pts), .d (arsD as), .m (cs.map Cel.d), .d (.str x), s5, s6, s7], by simp [h4], ?_⟩
      obtain ⟨pt, a1, b1, hpt, c1, e1⟩ := some_pts c (xs := pts.take 4) (by omega) (by omega)
      refine rn_nx (ρ' := [cup a1 b1, .d (sT pts), .d (arsD as), .m (cs.map Cel.d), .d (.str x), .d (.str pt), s6, s7]) (asg (us (sls := [cup a b, .d (sT (pts.take 4))]) (ρ1 := [cup a b, .d (sT pts), .d (arsD as), .m (cs.map Cel.d), .d (.str x), s5, s6, s7]) (cr0 (xs := [.int a, .int b]) rfl (cd1 (esl rfl rfl rfl s4) rfl)) ⟨rfl, by simp⟩ rfl e1 rfl) (setD_eq (by simp [h5]))) ?_
      have hpt := List.mem_of_mem_take hpt
      obtain ⟨up, q, a2, b2, hu1, hu2, c2, e2⟩ := walk_ok pa.an.d pa.a2 c1 pt (most := 3) (by omega)
      obtain ⟨lo, r, a3, b3, hlo1, hlo2, c3, e3⟩ := walk_ok pa.an.d pa.a2 c2 pt (most := 6) (by omega)
      obtain ⟨LU, alU, lastU⟩ := along_last pa.ok0 hu1 (by omega)
      obtain ⟨LO, alO, lastO⟩ := along_last pa.ok0 hlo1 (by omega)
      simp only at alU alO
      have se : neD (.str q) (.str r) = some (.bool (!decide (q = r))) := by
        simp
        by_cases h : q = r <;> simp [h]
      have par : sPar 6 7 (eUser 4 (m__law_walk) (cR 0 (cD (eVar 2) (cD (eVar 5) (cD (eC (.int 3)) (cNil)))))) (eUser 4 (m__law_walk) (cR 0 (cD (eVar 2) (cD (eVar 5) (cD (eC (.int 6)) (cNil)))))) [cup a1 b1, .d (sT pts), .d (arsD as), .m (cs.map Cel.d), .d (.str x), .d (.str pt), s6, s7] = .ok (.nx [cup a3 b3, .d (sT pts), .d (arsD as), .m (cs.map Cel.d), .d (.str x), .d (.str pt), .d (sT up), .d (sT lo)]) := by
        have q1 : eUser 4 (m__law_walk) (cR 0 (cD (eVar 2) (cD (eVar 5) (cD (eC (.int 3)) (cNil))))) [cup a1 b1, .d (sT pts), .d (arsD as), .m (cs.map Cel.d), .d (.str x), .d (.str pt), s6, s7] = .ok (sT up, [cup a2 b2, .d (sT pts), .d (arsD as), .m (cs.map Cel.d), .d (.str x), .d (.str pt), s6, s7]) := us (sls := [cup a1 b1, .d (arsD as), .d (.str pt), .d (.int ((3 : Nat) : Int))]) rfl ⟨rfl, by simp⟩ rfl e2 rfl
        have q2 : eUser 4 (m__law_walk) (cR 0 (cD (eVar 2) (cD (eVar 5) (cD (eC (.int 6)) (cNil))))) [cup a2 b2, .d (sT pts), .d (arsD as), .m (cs.map Cel.d), .d (.str x), .d (.str pt), s6, s7] = .ok (sT lo, [cup a3 b3, .d (sT pts), .d (arsD as), .m (cs.map Cel.d), .d (.str x), .d (.str pt), s6, s7]) := us (sls := [cup a2 b2, .d (arsD as), .d (.str pt), .d (.int ((6 : Nat) : Int))]) rfl ⟨rfl, by simp⟩ rfl e3 rfl
        simp only [sPar, q1, q2, bind_ok]
        simp [h6, h7]
      refine rn_nx par ?_
      have hcl : (cs.map Cel.d).length < 1000000 := by
        have := hsub.length_le
        simp at this ⊢
        omega
      have fin : ∀ lo, stop as pt lo = some q → lo.length ≤ 6 → Rn (sApp 3 (eTup (aCons (eVar 4) (aCons (eVar 5) (aCons (eVar 6) (aCons (eVar 7) (aNil)))))) [cup a3 b3, .d (sT pts), .d (arsD as), .m (cs.map Cel.d), .d (.str x), .d (.str pt), .d (sT up), .d (sT lo)]) fun fl => (∃ ρ2, fl = .nx ρ2 ∧ ∃ (a b : Int) (cs : List Cel) (s4 s5 s6 s7 : Sl), CupOk a b ∧ (cs.map Cel.n ++ ys).Sublist xs ∧ (∀ x ∈ cs, Gc pts as 6 x) ∧ nm s4 = true ∧ nm s5 = true ∧ nm s6 = true ∧ nm s7 = true ∧ ρ2 = [cup a b, .d (sT pts), .d (arsD as), .m (cs.map Cel.d), s4, s5, s6, s7]) ∨ ∃ d ρ2, fl = .rt d ρ2 ∧ NoJ d ρ2 := fun lo hlo hle => by
        have hx : cs.map Cel.d ++ [.tuple [.str x, .str pt, sT up, sT lo]] = (cs ++ [Cel.mk x pt up lo]).map Cel.d := by simp [Cel.d]
        refine ⟨.nx [cup a3 b3, .d (sT pts), .d (arsD as), .m ((cs ++ [Cel.mk x pt up lo]).map Cel.d), .d (.str x), .d (.str pt), .d (sT up), .d (sT lo)], ?_, .inl ⟨_, rfl, a3, b3, cs ++ [Cel.mk x pt up lo], _, _, _, _, c3, by simpa using hsub, ?_, rfl, rfl, rfl, rfl, rfl⟩⟩
        · rw [← hx]
          generalize sT up = UP at *
          generalize sT lo = LO1 at *
          generalize cs.map Cel.d = CS at *
          simp [hcl]
        · intro y hy
          rcases List.mem_append.mp hy with hy | hy
          · exact hg y hy
          · simp at hy; subst hy
            exact ⟨hpt, by simp; omega, hle, q, hu1, hlo⟩
      by_cases d2 : q = r
      · subst d2
        refine rn_nx (ρ' := [cup a3 b3, .d (sT pts), .d (arsD as), .m (cs.map Cel.d), .d (.str x), .d (.str pt), .d (sT up), .d (sT lo)]) ?_ (fin lo hlo1 hlo2)
        generalize sT up = UP at *
        generalize sT lo = LO1 at *
        simp [-neD_def, alO, alU, lastO, lastU, se]
      · refine rn_nx (ρ' := [cup a3 b3, .d (sT pts), .d (arsD as), .m (cs.map Cel.d), .d (.str x), .d (.str pt), .d (sT up), .d (sT up)]) ?_ (fin up hu1 (by omega))
        generalize sT up = UP at *
        generalize sT lo = LO1 at *
        simp [-neD_def, alO, alU, lastO, lastU, se, d2]
    · rintro ρ ⟨a, b, cs, s4', s5, s6, s7, c, hsub, hg, h4, h5, h6, h7, rfl⟩
      rw [List.append_nil] at hsub
      refine ⟨.rt (Cpd.d ⟨pts, as, cs⟩) [cup a b, .d (sT pts), .d (arsD as), .m (cs.map Cel.d), s4', s5, s6, s7], ?_, _, _, rfl, by simp, ⟨pts, as, cs⟩, a, b, rfl, by simp, ?_, c⟩
      · unfold Cpd.d clsD
        simp only
        generalize cs.map Cel.d = CS
        generalize sT pts = PT
        simp
      · have := hsub.length_le
        simp at this
        exact pa.ok (by omega) (hn.sub hsub) hg)
  exact ⟨C, a', b', h1, hc, e⟩
end Pd
end

section
/-! Pd: the draws of diagrams. -/
namespace Pd
open PySem L2
theorem apl_of {C : Cpd} (o : Ok C) {p x : Str} {ns : List Str} {k : Nat} {c : Cel} (hc : c ∈ C.cls) (hk : k ≤ ns.length) (hx : stop C.ars p (ns.take k) = some x) (h1 : x = c.p) (h2 : (ns.drop k).take c.up.length = c.up) : apl C p ns (k, c.n) = true := by
  unfold apl
  simp only [rowC_mem o hc]
  simp [hk, hx, h1, h2]
theorem fitting_ok {C : Cpd} (o : Ok C) {p q : Str} {ns : List Str} (hs : stop C.ars p ns = some q) (hl : ns.length ≤ 1000) :
    ∃ fs : List Lay, (∀ l ∈ fs, apl C p ns l = true) ∧ fs.length ≤ 100000 ∧ m__law_fitting [.d C.d, .d (pD p ns)] = .ok (.list (fs.map yD), [.d C.d, .d (pD p ns)]) := by
  obtain ⟨L, hL, _⟩ := stop_pth hs
  have al := along_ok o hL (by omega)
  have ln := sT_len ns
  have hLl := pth_len hL
  have hit := iter_cls C.cls
  rw [m__law_fitting_eq]
  obtain ⟨d, as', e, fs, rfl, rfl, h1, h2⟩ := fn_rn (nN := 11) (as := [.d C.d, .d (pD p ns)]) (ρ0 := [.d C.d, .d (pD p ns), .u, .u, .u, .u, .u, .u, .u, .u, .u]) (S := S__law_fitting) (Q := fun d as' => ∃ fs : List Lay, d = .list (fs.map yD) ∧ as' = [.d C.d, .d (pD p ns)] ∧ (∀ l ∈ fs, apl C p ns l = true) ∧ fs.length ≤ 100000) rfl (by
    unfold S__law_fitting
    generalize hP : pD p ns = P at *
    refine rn_nx (ρ' := [.d C.d, .d P, .d (.str p), .d (sT ns), .u, .u, .u, .u, .u, .u, .u]) (by
      rw [← hP]; unfold pD
      generalize sT ns = N
      simp) ?_
    refine rn_nx (ρ' := [.d C.d, .d P, .d (.str p), .d (sT ns), .d (.list (strL L)), .m [], .u, .u, .u, .u, .u]) (by
      generalize sT ns = N at *
      generalize strL L = LL at *
      simp [al]) ?_
    refine for_rn (ρ1 := [.d C.d, .d P, .d (.str p), .d (sT ns), .d (.list (strL L)), .m [], .u, .u, .u, .u, .u]) (xs := List.range (ns.length + 1)) (fun (k : Nat) => PyData.int (k : Int))
      (fun ys ρ => ∃ (fs : List Lay) (s6 s7 s8 s9 s10 : Sl), (∀ k ∈ ys, k ≤ ns.length) ∧ (∀ l ∈ fs, apl C p ns l = true) ∧ fs.length + 20 * ys.length ≤ 20 * (ns.length + 1) ∧ nm s6 = true ∧ nm s7 = true ∧ nm s8 = true ∧ nm s9 = true ∧ nm s10 = true ∧ ρ = [.d C.d, .d P, .d (.str p), .d (sT ns), .d (.list (strL L)), .m (fs.map yD), s6, s7, s8, s9, s10])
      NoJ (iR1_ok (m := ns.length + 1) (eop (x := .int (ns.length : Int)) (y := .int 1) (ecall rfl ln) rfl (by simp)) (by omega)) ⟨[], .u, .u, .u, .u, .u, fun k hk => by simp at hk; omega, by simp, by simp, rfl, rfl, rfl, rfl, rfl, rfl⟩ ?_ ?_ (fun _ _ h => h.elim)
    · rintro k ys ρ ⟨fs, s6, s7, s8, s9, s10, hk, hf, hlen, h6, h7, h8, h9, h10, rfl⟩
      simp only [List.length_cons] at hlen
      have hk0 := hk k (List.mem_cons_self ..)
      refine ⟨[.d C.d, .d P, .d (.str p), .d (sT ns), .d (.list (strL L)), .m (fs.map yD), .d (.int k), s7, s8, s9, s10], by simp [h6], ?_⟩
      obtain ⟨x, hx, _⟩ := stop_take hs k
      have hLk : ixD (.list (strL L)) (.int (k : Int)) = some (.str x) := by
        rw [ixD_l, atI_nat, List.getElem?_map, pth_get hL hk0, hx]; rfl
      refine for_rn1 (ρ1 := [.d C.d, .d P, .d (.str p), .d (sT ns), .d (.list (strL L)), .m (fs.map yD), .d (.int k), s7, s8, s9, s10]) (xs := C.cls) Cel.d
        (fun zs ρ => ∃ (fs : List Lay) (s7 s8 s9 s10 : Sl), (∀ c ∈ zs, c ∈ C.cls) ∧ (∀ l ∈ fs, apl C p ns l = true) ∧ fs.length + zs.length + 20 * ys.length ≤ 20 * (ns.length + 1) ∧ nm s7 = true ∧ nm s8 = true ∧ nm s9 = true ∧ nm s10 = true ∧ ρ = [.d C.d, .d P, .d (.str p), .d (sT ns), .d (.list (strL L)), .m (fs.map yD), .d (.int k), s7, s8, s9, s10])
        NoJ (iany (eop rfl rfl (Cpd.i2 C)) hit) ⟨fs, s7, s8, s9, s10, fun c h => h, hf, by have := o.c2; omega, h7, h8, h9, h10, rfl⟩ ?_ ?_ (fun _ _ h => h.elim)
      · rintro c zs ρ ⟨fs, s7, s8, s9, s10, hc, hf, hlen, h7, h8, h9, h10, rfl⟩
        simp only [List.length_cons] at hlen
        have hc0 := hc c (List.mem_cons_self ..)
        refine ⟨[.d C.d, .d P, .d (.str p), .d (sT ns), .d (.list (strL L)), .m (fs.map yD), .d (.int k), .d (.str c.n), .d (.str c.p), .d (sT c.up), .d (sT c.lo)], by
          unfold Cel.d
          generalize sT c.up = U
          generalize sT c.lo = V
          simp [h7, h8, h9, h10], ?_⟩
        have e1 := str_eq x c.p
        have e2 := sT_mid ns k c.up.length
        have e3 := sT_eq ((ns.drop k).take c.up.length) c.up
        have e4 := sT_len c.up
        have hn : (fs.map yD).length < 1000000 := by simp; omega
        have no : (x ≠ c.p ∨ (ns.drop k).take c.up.length ≠ c.up) → Rn ((sIf (tAn (tBo (eOp eqD (eOp ixD (eVar 4) (eVar 6)) (eVar 8))) (tBo (eOp eqD (eSl (eVar 3) (oSome (eVar 6)) (oSome (eOp addD (eVar 6) (eCall lenD (aCons (eVar 9) (aNil)))))) (eVar 9)))) (sApp 5 (eTup (aCons (eVar 6) (aCons (eVar 7) (aNil))))) (sNx)) [.d C.d, .d P, .d (.str p), .d (sT ns), .d (.list (strL L)), .m (fs.map yD), .d (.int k), .d (.str c.n), .d (.str c.p), .d (sT c.up), .d (sT c.lo)]) fun fl => fl = .nx [.d C.d, .d P, .d (.str p), .d (sT ns), .d (.list (strL L)), .m (fs.map yD), .d (.int k), .d (.str c.n), .d (.str c.p), .d (sT c.up), .d (sT c.lo)] := fun h => by
          refine ⟨_, ?_, rfl⟩
          generalize sT ((ns.drop k).take c.up.length) = N1 at *
          generalize sT ns = N at *
          generalize sT c.up = U at *
          generalize sT c.lo = V at *
          generalize fs.map yD = FS at *
          generalize (PyData.list (strL L) : D) = LL at *
          by_cases d1 : x = c.p
          · have d2 := h.resolve_left (fun z => z d1)
            subst d1
            simp [-eqD_def, hLk, e1, e2, e3, e4, d2]
          · simp [-eqD_def, hLk, e1, d1]
        by_cases d1 : x = c.p
        · by_cases d2 : (ns.drop k).take c.up.length = c.up
          · refine go (ρ2 := [.d C.d, .d P, .d (.str p), .d (sT ns), .d (.list (strL L)), .m ((fs ++ [(k, c.n)]).map yD), .d (.int k), .d (.str c.n), .d (.str c.p), .d (sT c.up), .d (sT c.lo)]) ?_ ⟨fs ++ [(k, c.n)], _, _, _, _, fun y hy => hc y (List.mem_cons_of_mem _ hy), ?_, by simp; omega, rfl, rfl, rfl, rfl, rfl⟩
            · have hsn : (fs ++ [(k, c.n)]).map yD = fs.map yD ++ [.tuple [.int k, .str c.n]] := by simp [yD]
              rw [hsn]
              subst d1
              generalize sT ((ns.drop k).take c.up.length) = N1 at *
              generalize sT ns = N at *
              generalize sT c.up = U at *
              generalize sT c.lo = V at *
              generalize fs.map yD = FS at *
              generalize (PyData.list (strL L) : D) = LL at *
              simp [-eqD_def, hLk, e1, e2, e3, e4, d2, hn]
            · intro l hl
              rcases List.mem_append.mp hl with hl | hl
              · exact hf l hl
              · simp at hl; subst hl
                exact apl_of o hc0 hk0 hx d1 d2
          · obtain ⟨fl, e, rfl⟩ := no (.inr d2)
            exact go e ⟨fs, _, _, _, _, fun y hy => hc y (List.mem_cons_of_mem _ hy), hf, by omega, rfl, rfl, rfl, rfl, rfl⟩
        · obtain ⟨fl, e, rfl⟩ := no (.inl d1)
          exact go e ⟨fs, _, _, _, _, fun y hy => hc y (List.mem_cons_of_mem _ hy), hf, by omega, rfl, rfl, rfl, rfl, rfl⟩
      · rintro ρ ⟨fs, s7, s8, s9, s10, hc, hf, hlen, h7, h8, h9, h10, rfl⟩
        exact .inl ⟨_, rfl, fs, _, _, _, _, _, fun j hj => hk j (List.mem_cons_of_mem _ hj), hf, by simpa using hlen, rfl, h7, h8, h9, h10, rfl⟩
    · rintro ρ ⟨fs, s6, s7, s8, s9, s10, hk, hf, hlen, h6, h7, h8, h9, h10, rfl⟩
      refine ⟨.rt (.list (fs.map yD)) [.d C.d, .d P, .d (.str p), .d (sT ns), .d (.list (strL L)), .d (.list (fs.map yD)), s6, s7, s8, s9, s10], ?_, _, _, rfl, by simp, fs, rfl, by simp, hf, by simp at hlen; omega⟩
      generalize fs.map yD = FS
      simp)
  exact ⟨fs, h1, h2, e⟩
theorem run_snoc {C : Cpd} {p : Str} {l : Lay} : ∀ {ls : List Lay} {ns cur : List Str}, run C p ns ls = some cur → apl C p cur l = true → run C p ns (ls ++ [l]) = some (aft C cur l)
  | [], ns, cur, h, ha => by
    cases h
    simp [run, ha]
  | m :: ls, ns, cur, h, ha => by
    obtain ⟨h1, h2⟩ := run_cons h
    rw [List.cons_append, run, if_pos h1]
    exact run_snoc h2 ha
theorem depth_y (l : Lay) : PyData.depth (yD l) ≤ 1 := by unfold yD; simp
theorem continued_ok {C : Cpd} (o : Ok C) {p q : Str} {ns : List Str} (hs : stop C.ars p ns = some q) {many : Nat} (hl : ns.length + 6 * many ≤ 1000) {a b : Int} (c : CupOk a b) :
    ∃ (ls : List Lay) (r : List Str) (a' b' : Int), run C p ns ls = some r ∧ ls.length ≤ many ∧ CupOk a' b' ∧ m__law_continued [cup a b, .d C.d, .d (pD p ns), .d (.int (many : Int))] = .ok (ysD ls, [cup a' b', .d C.d, .d (pD p ns), .d (.int (many : Int))]) := by
  rw [m__law_continued_eq]
  obtain ⟨d, as', e, ls, r, a', b', rfl, rfl, h1, h2, hc⟩ := fn_rn (nN := 8) (as := [cup a b, .d C.d, .d (pD p ns), .d (.int (many : Int))]) (ρ0 := [cup a b, .d C.d, .d (pD p ns), .d (.int (many : Int)), .u, .u, .u, .u]) (S := S__law_continued) (Q := fun d as' => ∃ (ls : List Lay) (r : List Str) (a' b' : Int), d = ysD ls ∧ as' = [cup a' b', .d C.d, .d (pD p ns), .d (.int (many : Int))] ∧ run C p ns ls = some r ∧ ls.length ≤ many ∧ CupOk a' b') rfl (by
    unfold S__law_continued
    refine rn_nx (ρ' := [cup a b, .d C.d, .d (pD p ns), .d (.int (many : Int)), .d (ysD []), .u, .u, .u]) rfl ?_
    refine for_rn (ρ1 := [cup a b, .d C.d, .d (pD p ns), .d (.int (many : Int)), .d (ysD []), .u, .u, .u]) (xs := List.range many) (fun (k : Nat) => PyData.int (k : Int))
      (fun ys ρ => ∃ (a b : Int) (ls : List Lay) (cur : List Str) (s5 s6 s7 : Sl), CupOk a b ∧ run C p ns ls = some cur ∧ ls.length + ys.length ≤ many ∧ nm s5 = true ∧ nm s6 = true ∧ nm s7 = true ∧ ρ = [cup a b, .d C.d, .d (pD p cur), .d (.int (many : Int)), .d (ysD ls), s5, s6, s7])
      NoJ (iR1_ok (m := many) rfl (by omega)) ⟨a, b, [], ns, .u, .u, .u, c, rfl, by simp, rfl, rfl, rfl, rfl⟩ ?_ ?_ (fun _ _ h => h.elim)
    · rintro k ys ρ ⟨a, b, ls, cur, s5, s6, s7, c, hr, hlen, h5, h6, h7, rfl⟩
      simp only [List.length_cons] at hlen
      refine ⟨[cup a b, .d C.d, .d (pD p cur), .d (.int (many : Int)), .d (ysD ls), .d (.int k), s6, s7], by simp [h5], ?_⟩
      obtain ⟨hcs, hcl⟩ := run_ok o hs hr
      obtain ⟨fs, hf, hfl, e1⟩ := fitting_ok o hcs (by omega)
      refine rn_nx (ρ' := [cup a b, .d C.d, .d (pD p cur), .d (.int (many : Int)), .d (ysD ls), .d (.int k), .d (.list (fs.map yD)), s7]) (asg (us (sls := [.d C.d, .d (pD p cur)]) rfl ⟨rfl, by simp⟩ rfl e1 rfl) (setD_eq (by simp [h6]))) ?_
      have dp := ne_nil (xs := fs.map yD) (by
        have : PyData.depthAll (fs.map yD) ≤ 1 := depthAll_le fun d hd => by
          obtain ⟨l, _, rfl⟩ := List.mem_map.mp hd
          exact depth_y l
        omega)
      by_cases hne : fs = []
      · subst hne
        exact go (ρ2 := [cup a b, .d C.d, .d (pD p cur), .d (.int (many : Int)), .d (ysD ls), .d (.int k), .d (.list []), s7]) (by
          generalize pD p cur = P at *
          generalize ysD ls = YL at *
          simp only [List.map_nil] at dp ⊢
          simp [-neD_def, dp]) ⟨a, b, ls, cur, _, _, _, c, hr, by omega, rfl, rfl, h7, rfl⟩
      · obtain ⟨d, a2, b2, hd, c2, e2⟩ := some_list c (xs := fs.map yD) (by simpa using List.length_pos_iff.mpr hne) (by simp; omega)
        obtain ⟨l, hl1, rfl⟩ := List.mem_map.mp hd
        have ha := hf l hl1
        obtain ⟨cl, r1, r2, _⟩ := apl_row ha
        have af := law_after_ok o p (ns := cur) (l := l) r1 (by omega) (by have := (o.cn cl r2).2.2.2.1; omega)
        have ad : addD (ysD ls) (.tuple [yD l]) = some (ysD (ls ++ [l])) := by
          unfold ysD
          rw [addD_t, if_pos (by rw [sizeLine_eq]; simp; omega)]
          simp
        have hemp : (!(fs.map yD).isEmpty) = true := by simpa using hne
        rw [hemp] at dp
        refine ⟨.nx [cup a2 b2, .d C.d, .d (pD p (aft C cur l)), .d (.int (many : Int)), .d (ysD (ls ++ [l])), .d (.int k), .d (.list (fs.map yD)), .d (yD l)], if_yes (ρ' := [cup a b, .d C.d, .d (pD p cur), .d (.int (many : Int)), .d (ysD ls), .d (.int k), .d (.list (fs.map yD)), s7]) ?_ (sq (ρ' := [cup a2 b2, .d C.d, .d (pD p cur), .d (.int (many : Int)), .d (ysD ls), .d (.int k), .d (.list (fs.map yD)), .d (yD l)]) (asg (us (sls := [cup a b, .d (.list (fs.map yD))]) (args := [.r 0, .d (.list (fs.map yD))]) (ρ1 := [cup a b, .d C.d, .d (pD p cur), .d (.int (many : Int)), .d (ysD ls), .d (.int k), .d (.list (fs.map yD)), s7]) rfl ⟨rfl, by simp⟩ rfl e2 rfl) (setD_eq (by simp [h7]))) ?_), .inl ⟨_, rfl, a2, b2, ls ++ [l], aft C cur l, _, _, _, c2, run_snoc hr ha, by simp; omega, rfl, rfl, rfl, rfl⟩⟩
        · generalize pD p cur = P at *
          generalize ysD ls = YL at *
          generalize fs.map yD = FS at *
          simp [-neD_def, dp]
        · generalize pD p cur = P at *
          generalize pD p (aft C cur l) = P2 at *
          generalize ysD (ls ++ [l]) = YL2 at *
          generalize ysD ls = YL at *
          generalize fs.map yD = FS at *
          generalize yD l = Y at *
          simp [ad, af]
    · rintro ρ ⟨a, b, ls, cur, s5, s6, s7, c, hr, hlen, h5, h6, h7, rfl⟩
      exact ⟨_, rfl, _, _, rfl, by simp, ls, cur, a, b, rfl, by simp, hr, by simpa using hlen, c⟩)
  exact ⟨ls, r, a', b', h1, h2, hc, e⟩
theorem path_ok {C : Cpd} (o : Ok C) {most : Nat} (hm : most ≤ 1000) {a b : Int} (c : CupOk a b) :
    ∃ (p q : Str) (ns : List Str) (a' b' : Int), p ∈ C.pts ∧ stop C.ars p ns = some q ∧ ns.length ≤ most ∧ CupOk a' b' ∧ m__law_path [cup a b, .d C.d, .d (.int (most : Int))] = .ok (pD p ns, [cup a' b', .d C.d, .d (.int (most : Int))]) := by
  obtain ⟨p, a1, b1, hp, c1, e1⟩ := some_pts c (xs := C.pts) (by have := o.p1; omega) (by have := o.p2; omega)
  obtain ⟨ns, q, a2, b2, h1, h2, c2, e2⟩ := walk_ok o.ad o.a2 c1 p hm
  refine ⟨p, q, ns, a2, b2, hp, h1, h2, c2, ?_⟩
  rw [m__law_path_eq]
  unfold S__law_path
  exact fn_rt (ρ0 := [cup a b, .d C.d, .d (.int (most : Int)), .u]) (ρ' := [cup a2 b2, .d C.d, .d (.int (most : Int)), .d (.str p)]) rfl
    (sq (ρ' := [cup a1 b1, .d C.d, .d (.int (most : Int)), .d (.str p)]) (asg (us (sls := [cup a b, .d (sT C.pts)]) (cr0 (xs := [.int a, .int b]) rfl (cd1 (eop rfl rfl (Cpd.i0 C)) rfl)) ⟨rfl, by simp⟩ rfl e1 rfl) (setD_eq rfl))
      (rt (etup (acons rfl (acons (us (sls := [cup a1 b1, .d (arsD C.ars), .d (.str p), .d (.int (most : Int))]) (cr0 (xs := [.int a1, .int b1]) rfl (cd1 (eop rfl rfl (Cpd.i1 C)) (cd1 rfl (cd1 rfl rfl)))) ⟨rfl, by simp⟩ rfl e2 rfl) rfl)) (by simp)))) (by simp) (by simp)
theorem szL_le {C : Cpd} (o : Ok C) : ∀ ls : List Lay, szL C ls ≤ 6 * ls.length
  | [] => by simp [szL]
  | l :: ls => by
    have ih := szL_le o ls
    have h1 : sz1 C l ≤ 6 := by
      unfold sz1
      cases h : rowC C.cls l.2 with
      | none => simp
      | some c => exact (o.cn c (rowC_some h).1).2.2.2.1
    unfold szL at ih ⊢
    simp only [List.map_cons, List.sum_cons, List.length_cons]
    omega
theorem dg_mk {C : Cpd} (o : Ok C) {p q : Str} {ns r : List Str} {ls : List Lay} (hp : p ∈ C.pts) (hs : stop C.ars p ns = some q) (hr : run C p ns ls = some r) (h1 : ls.length ≤ 200) (h2 : ns.length + 6 * ls.length ≤ 400) : Dg C p ns ls q r := by
  have := szL_le o ls
  refine ⟨?_, hp, hs, hr, by omega, h1⟩
  unfold dgB pathB
  simp only [hp, hs, hr, Option.isSome_some, Bool.and_eq_true, decide_eq_true_eq, and_true, true_and]
  omega
theorem diagram_draw {C : Cpd} (o : Ok C) {most many : Nat} (hm : most + 6 * many ≤ 400) (hm2 : many ≤ 200) {a b : Int} (c : CupOk a b) :
    ∃ (p q : Str) (ns r : List Str) (ls : List Lay) (a' b' : Int), Dg C p ns ls q r ∧ ns.length ≤ most ∧ ls.length ≤ many ∧ CupOk a' b' ∧ m__law_diagram [cup a b, .d C.d, .d (.int (most : Int)), .d (.int (many : Int))] = .ok (dD p ns ls, [cup a' b', .d C.d, .d (.int (most : Int)), .d (.int (many : Int))]) := by
  obtain ⟨p, q, ns, a1, b1, hp, hs, hl, c1, e1⟩ := path_ok o (most := most) (by omega) c
  obtain ⟨ls, r, a2, b2, hr, hl2, c2, e2⟩ := continued_ok o hs (many := many) (by omega) c1
  refine ⟨p, q, ns, r, ls, a2, b2, dg_mk o hp hs hr (by omega) (by omega), hl, hl2, c2, ?_⟩
  rw [m__law_diagram_eq]
  unfold S__law_diagram
  exact fn_rt (ρ0 := [cup a b, .d C.d, .d (.int (most : Int)), .d (.int (many : Int)), .u]) (ρ' := [cup a2 b2, .d C.d, .d (.int (most : Int)), .d (.int (many : Int)), .d (pD p ns)]) rfl
    (sq (ρ' := [cup a1 b1, .d C.d, .d (.int (most : Int)), .d (.int (many : Int)), .d (pD p ns)]) (asg (us (sls := [cup a b, .d C.d, .d (.int (most : Int))]) rfl ⟨rfl, by simp⟩ rfl e1 rfl) (setD_eq rfl))
      (rt (etup (acons rfl (acons (us (sls := [cup a1 b1, .d C.d, .d (pD p ns), .d (.int (many : Int))]) rfl ⟨rfl, by simp⟩ rfl e2 rfl) rfl)) (by simp)))) (by simp) (by simp)
theorem case_ok2 {a b : Int} (c : CupOk a b) :
    ∃ (C : Cpd) (p q : Str) (ns r : List Str) (ls : List Lay) (a' b' : Int), Ok C ∧ Dg C p ns ls q r ∧ ns.length ≤ 12 ∧ ls.length ≤ 20 ∧ CupOk a' b' ∧ m__law_case [cup a b] = .ok (.tuple [C.d, dD p ns ls], [cup a' b']) := by
  obtain ⟨n, a1, b1, hn, c1, e1⟩ := roll_n c (m := 4) (by omega) (by omega)
  have first : ∃ (C : Cpd) (a' b' : Int), Ok C ∧ CupOk a' b' ∧ eIf (tBo (eOp eqD (eUser 2 (m__law_roll) (cR 0 (cD (eC (.int 4)) (cNil)))) (eC (.int 0)))) (eUser 1 (m__law_large) (cR 0 (cNil))) (eUser 2 (m__law_computad) (cR 0 (cD (eUser 2 (m__law_some) (cR 0 (cD (eLst (aCons (eC (.int 0)) (aCons (eC (.int 0)) (aCons (eC (.int 1)) (aNil))))) (cNil)))) (cNil)))) [cup a b, .u] = .ok (C.d, [cup a' b', .u]) := by
    have t : ∀ bb, PyData.eqv (.int (n : Int)) (.int 0) = bb → tBo (eOp eqD (eUser 2 (m__law_roll) (cR 0 (cD (eC (.int 4)) (cNil)))) (eC (.int 0))) [cup a b, .u] = .ok (bb, [cup a1 b1, .u]) := fun bb h => by
      have := eop (f := eqD) (fa := eUser 2 (m__law_roll) (cR 0 (cD (eC (.int 4)) (cNil)))) (fb := eC (.int 0)) (ρ := [cup a b, .u]) (ρ1 := [cup a1 b1, .u]) (ρ2 := [cup a1 b1, .u]) (x := .int (n : Int)) (y := .int 0) (d := .bool bb) (us (sls := [cup a b, .d (.int ((4 : Nat) : Int))]) rfl ⟨rfl, by simp⟩ rfl e1 rfl) rfl (by rw [eqD_def, if_pos (by simp), h])
      simp only [tBo, this, bind_ok]
    by_cases h0 : n = 0
    · obtain ⟨C, a2, b2, o, c2, e2⟩ := large_ok c1
      refine ⟨C, a2, b2, o, c2, ?_⟩
      simp only [eIf, t true (by subst h0; simp), bind_ok, if_true]
      exact us (sls := [cup a1 b1]) rfl ⟨rfl, by simp⟩ rfl e2 rfl
    · obtain ⟨k, a2, b2, hk, c2, e2⟩ := some_nat c1 [0, 0, 1] (by simp) (by simp)
      obtain ⟨C, a3, b3, o, c3, e3⟩ := computad_ok c2 (k : Int)
      refine ⟨C, a3, b3, o, c3, ?_⟩
      simp only [eIf, t false (by simp; omega), bind_ok]
      exact us (sls := [cup a2 b2, .d (.int (k : Int))]) (cr0 (xs := [.int a1, .int b1]) rfl (cd1 (us (sls := [cup a1 b1, .d (.list ([0, 0, 1].map fun (n : Nat) => PyData.int (n : Int)))]) rfl ⟨rfl, by simp⟩ rfl e2 rfl) rfl)) ⟨rfl, by simp⟩ rfl e3 rfl
  obtain ⟨C, a2, b2, o, c2, e2⟩ := first
  obtain ⟨most, a3, b3, hm3, c3, e3⟩ := some_nat c2 [0, 3, 6, 12] (by simp) (by simp)
  obtain ⟨many, a4, b4, hm4, c4, e4⟩ := some_nat c3 [0, 2, 5, 9, 20] (by simp) (by simp)
  have h3 : most ≤ 12 := by simp at hm3; omega
  have h4 : many ≤ 20 := by simp at hm4; omega
  obtain ⟨p, q, ns, r, ls, a5, b5, g, w1, w2, c5, e5⟩ := diagram_draw o (most := most) (many := many) (by omega) (by omega) c4
  refine ⟨C, p, q, ns, r, ls, a5, b5, o, g, by omega, by omega, c5, ?_⟩
  rw [m__law_case_eq]
  unfold S__law_case
  exact fn_rt (ρ0 := [cup a b, .u]) (ρ' := [cup a5 b5, .d C.d]) rfl
    (sq (ρ' := [cup a2 b2, .d C.d]) (asg e2 (setD_eq rfl))
      (rt (etup (acons rfl (acons (us (sls := [cup a4 b4, .d C.d, .d (.int (most : Int)), .d (.int (many : Int))]) (args := [.r 0, .d C.d, .d (.int (most : Int)), .d (.int (many : Int))]) (ρ1 := [cup a4 b4, .d C.d])
        (cr0 (xs := [.int a2, .int b2]) rfl (cd1 rfl (cd1 (us (sls := [cup a2 b2, .d (.list ([0, 3, 6, 12].map fun (n : Nat) => PyData.int (n : Int)))]) rfl ⟨rfl, by simp⟩ rfl e3 rfl) (cd1 (us (sls := [cup a3 b3, .d (.list ([0, 2, 5, 9, 20].map fun (n : Nat) => PyData.int (n : Int)))]) (ρ1 := [cup a3 b3, .d C.d]) rfl ⟨rfl, by simp⟩ rfl e4 rfl) rfl)))) ⟨rfl, by simp⟩ rfl e5 rfl) rfl)) (by simp)))) (by simp) (by simp)
theorem case_ok {a b : Int} (c : CupOk a b) :
    ∃ (C : Cpd) (p q : Str) (ns r : List Str) (ls : List Lay) (a' b' : Int), Ok C ∧ Dg C p ns ls q r ∧ CupOk a' b' ∧ m__law_case [cup a b] = .ok (.tuple [C.d, dD p ns ls], [cup a' b']) := by
  obtain ⟨C, p, q, ns, r, ls, a', b', h1, h2, _, _, h3, h4⟩ := case_ok2 c
  exact ⟨C, p, q, ns, r, ls, a', b', h1, h2, h3, h4⟩
end Pd
end

section
/-! Pd: likeness of paths and diagrams, sizes of paths, tests. -/
namespace Pd
open PySem L2
theorem tno_of {f : EF} {ρ ρ1 : List Sl} {b : Bool} (h : f ρ = .ok (.bool b, ρ1)) : tNo (tOf f) ρ = .ok (!b, ρ1) := by
  simp only [tNo, tOf, h, bind_ok]
theorem tof {f : EF} {ρ ρ1 : List Sl} {b : Bool} (h : f ρ = .ok (.bool b, ρ1)) : tOf f ρ = .ok (b, ρ1) := by
  simp only [tOf, h, bind_ok]
theorem tbo {f : EF} {ρ ρ1 : List Sl} {b : Bool} (h : f ρ = .ok (.bool b, ρ1)) : tBo f ρ = .ok (b, ρ1) := by
  simp only [tBo, h, bind_ok]
theorem tor_f {t u : TF} {ρ ρ1 ρ2 : List Sl} {b : Bool} (h1 : t ρ = .ok (false, ρ1)) (h2 : u ρ1 = .ok (b, ρ2)) : tOr' t u ρ = .ok (b, ρ2) := by
  simp only [tOr', h1, bind_ok, h2]
  rfl
theorem tor_t {t u : TF} {ρ ρ1 : List Sl} (h1 : t ρ = .ok (true, ρ1)) : tOr' t u ρ = .ok (true, ρ1) := by
  simp only [tOr', h1, bind_ok, if_true]
theorem aft_sz {C : Cpd} {p : Str} {ns : List Str} {l : Lay} (h : apl C p ns l = true) : (aft C ns l).length ≤ ns.length + sz1 C l := by
  obtain ⟨c, e, hm, hk, h1, h2⟩ := apl_row h
  unfold aft sz1
  rw [e]
  simp
  omega
theorem pths_sz {C : Cpd} {p : Str} : ∀ {ls : List Lay} {ns r : List Str}, run C p ns ls = some r → ∀ x ∈ pths C ns ls, x.length ≤ ns.length + szL C ls
  | [], ns, r, _, x, hx => by
    simp [pths] at hx
    subst hx
    omega
  | l :: ls, ns, r, e, x, hx => by
    obtain ⟨c, e2⟩ := run_cons e
    have h3 := aft_sz c
    have hz : szL C (l :: ls) = sz1 C l + szL C ls := by simp [szL]
    rw [pths] at hx
    rcases List.mem_cons.mp hx with rfl | hx
    · omega
    · have := pths_sz e2 x hx
      omega
theorem Dg.sz {C : Cpd} {p q : Str} {ns r : List Str} {ls : List Lay} (g : Dg C p ns ls q r) : ns.length + szL C ls ≤ 400 := by
  have := g.b
  unfold dgB at this
  simp only [Bool.and_eq_true, decide_eq_true_eq] at this
  exact this.2.2.2
theorem Dg.path {C : Cpd} (o : Ok C) {p q : Str} {ns r : List Str} {ls : List Lay} (g : Dg C p ns ls q r) {x : List Str} (hx : x ∈ pths C ns ls) : stop C.ars p x = some q ∧ x.length ≤ 400 ∧ pathB C p x = true := by
  have h1 := (pths_mem o g.s g.r x hx).1
  have h2 := pths_sz g.r x hx
  have h3 := g.sz
  refine ⟨h1, by omega, ?_⟩
  unfold pathB
  simp only [g.pm, h1, Option.isSome_some, Bool.and_eq_true, decide_eq_true_eq, and_true, true_and]
  omega
theorem dg_id {C : Cpd} {p q : Str} {x : List Str} (hp : pathB C p x = true) (hs : stop C.ars p x = some q) : Dg C p x [] q x := by
  have h := hp
  unfold pathB at h
  simp only [Bool.and_eq_true, decide_eq_true_eq] at h
  refine ⟨?_, h.1, hs, rfl, h.2.1, by simp⟩
  unfold dgB
  simp only [hp, run, szL, Option.isSome_some, Bool.and_eq_true, decide_eq_true_eq]
  simp
  exact h.2.1
/-! ### likeness -/
theorem lk_pD (p : Str) (x : List Str) : lk (pD p x) (pD p x) = true := by unfold pD; simp [lk, lkL]
theorem lkL_pD (p : Str) : ∀ l : List (List Str), lkL (l.map (pD p)) (l.map (pD p)) = true
  | [] => rfl
  | x :: l => by rw [List.map_cons, lkL, lk_pD, lkL_pD p l]; rfl
theorem dep_pD (p : Str) (x : List Str) : (pD p x).depth ≤ 2 := by unfold pD; simp
theorem depL_pD (p : Str) (l : List (List Str)) : PyData.depthAll (l.map (pD p)) ≤ 2 := depthAll_le fun d hd => by
  obtain ⟨x, _, rfl⟩ := List.mem_map.mp hd
  exact dep_pD p x
theorem fit_pD (p : Str) {x : List Str} (h : x.length ≤ 1000000) : fit (pD p x) = true := by
  unfold pD
  simp [h]
theorem fitL_of {l : List D} (h : ∀ x ∈ l, fit x = true) : fitL l = true := by
  induction l with
  | nil => rfl
  | cons x l ih =>
    rw [fitL, h x (List.mem_cons_self ..), ih fun y hy => h y (List.mem_cons_of_mem _ hy)]
    rfl
theorem fitL_pD (p : Str) {l : List (List Str)} (h : ∀ x ∈ l, x.length ≤ 1000000) : fitL (l.map (pD p)) = true := fitL_of fun d hd => by
  obtain ⟨x, hx, rfl⟩ := List.mem_map.mp hd
  exact fit_pD p (h x hx)
/-- the paths of a diagram as a tuple: like itself -/
theorem like_paths {C : Cpd} {p q : Str} {ns r : List Str} {ls : List Lay} (g : Dg C p ns ls q r) : m__law_like 8 [.d (.tuple ((pths C ns ls).map (pD p))), .d (.tuple ((pths C ns ls).map (pD p)))] = .ok (.bool true, [.d (.tuple ((pths C ns ls).map (pD p))), .d (.tuple ((pths C ns ls).map (pD p)))]) := by
  have h := like_ok 8 (.tuple ((pths C ns ls).map (pD p))) (.tuple ((pths C ns ls).map (pD p))) (by simp; have := depL_pD p (pths C ns ls); omega) (by
    simp only [fit, List.length_map, Bool.and_eq_true, decide_eq_true_eq]
    refine ⟨?_, fitL_pD p fun x hx => ?_⟩
    · rw [pths_len]; have := g.l2; omega
    · have := pths_sz g.r x hx
      have := g.sz
      omega)
  rw [lk, lkL_pD] at h
  exact h
theorem like_self {x : D} (h1 : x.depth < 8) (h2 : fit x = true) (h3 : lk x x = true) : m__law_like 8 [.d x, .d x] = .ok (.bool true, [.d x, .d x]) := by
  have := like_ok 8 x x h1 h2
  rw [h3] at this
  exact this
end Pd
end

section
/-! Pd: raising, in term style; values that are no computads, paths, diagrams. -/
namespace Pd
open PySem L2
theorem fn_ex {nN : Nat} {S : SF} {as ρ0 : List Sl} {c : Xc} (h0 : as ++ List.replicate (nN - as.length) .u = ρ0) (h : S ρ0 = .ex c) : mkFn nN S as = .ex c := by
  subst h0
  simp only [mkFn, h]
  rfl
theorem sq_ex {f g : SF} {ρ : List Sl} {c : Xc} (h : f ρ = .ex c) : sSeq f g ρ = .ex c := by
  simp only [sSeq, h]
  rfl
theorem rt_ex {f : EF} {ρ : List Sl} {c : Xc} (h : f ρ = .ex c) : sRet f ρ = .ex c := by
  simp only [sRet, h]
  rfl
theorem drp_ex {f : EF} {ρ : List Sl} {c : Xc} (h : f ρ = .ex c) : sDrop f ρ = .ex c := by
  simp only [sDrop, h]
  rfl
theorem asg_ex {f : EF} {g : GF} {ρ : List Sl} {c : Xc} (h : f ρ = .ex c) : sAsg f g ρ = .ex c := by
  simp only [sAsg, h]
  rfl
theorem us_ex {n : Nat} {F : Fn} {g : CF} {ρ ρ1 sls : List Sl} {args : List Ar} {c : Xc} (hg : g ρ = .ok (args, ρ1)) (hn : args.length = n ∧ (arIx args).Nodup) (hs : arSl ρ1 args = some sls) (hF : F sls = .ex c) : eUser n F g ρ = .ex c := by
  simp only [eUser, hg, bind_ok, if_pos hn, hs, li, hF]
  rfl
theorem eif_t {t : TF} {f g : EF} {ρ ρ1 : List Sl} {r : R (D × List Sl)} (h : t ρ = .ok (true, ρ1)) (e : f ρ1 = r) : eIf t f g ρ = r := by
  simp only [eIf, h, bind_ok, if_true, e]
theorem eif_f {t : TF} {f g : EF} {ρ ρ1 : List Sl} {r : R (D × List Sl)} (h : t ρ = .ok (false, ρ1)) (e : g ρ1 = r) : eIf t f g ρ = r := by
  simp only [eIf, h, bind_ok, e]
  rfl
theorem tno_y {f : EF} {ρ ρ1 : List Sl} (h : f ρ = .ok (.bool false, ρ1)) : tNo (tOf f) ρ = .ok (true, ρ1) := tno_of h
/-- whether a value is a tuple with a length within bounds -/
def tupB : D → Int → Int → Bool
  | .tuple xs, lo, hi => decide (lo ≤ xs.length) && decide ((xs.length : Int) ≤ hi)
  | _, _, _ => false
theorem tup_of (v : D) (lo hi : Int) : m_is_tuple_of [.d v, .d (.int lo), .d (.int hi)] = .ok (.bool (tupB v lo hi), [.d v, .d (.int lo), .d (.int hi)]) := by
  cases v with
  | tuple xs => exact is_tuple_of_ok xs lo hi
  | _ => simp [m_is_tuple_of_eq, S_is_tuple_of, tupB]
theorem path_in_odd (c : D) {v : D} (h : tupB v 2 2 = false) : m_is_path_in [.d c, .d v] = .ok (.bool false, [.d c, .d v]) := by
  simp [m_is_path_in_eq, S_is_path_in, tup_of, h]
theorem diagram_in_odd (c : D) {v : D} (h : tupB v 2 2 = false) : m_is_diagram_in [.d c, .d v] = .ok (.bool false, [.d c, .d v]) := by
  simp [m_is_diagram_in_eq, S_is_diagram_in, tup_of, h]
abbrev xC : Xc := ⟨"InvalidComputad", none⟩
abbrev xP : Xc := ⟨"InvalidPath", none⟩
abbrev xD : Xc := ⟨"InvalidDiagram", none⟩
/-! ### no computad -/
theorem need_computad_no {c : D} (h : m_is_computad [.d c] = .ok (.bool false, [.d c])) : m_need_computad [.d c] = .ex xC := by
  rw [m_need_computad_eq]
  unfold S_need_computad
  refine fn_ex rfl (if_yes (tno_y (us (sls := [.d c]) rfl ⟨rfl, by simp⟩ rfl h rfl)) rfl)
theorem is_path_noC {c : D} (h : m_is_computad [.d c] = .ok (.bool false, [.d c])) (v : D) : m_is_path [.d c, .d v] = .ex xC := by
  rw [m_is_path_eq]
  unfold S_is_path
  exact fn_ex rfl (sq_ex (drp_ex (us_ex (sls := [.d c]) rfl ⟨rfl, by simp⟩ rfl (need_computad_no h))))
theorem is_diagram_noC {c : D} (h : m_is_computad [.d c] = .ok (.bool false, [.d c])) (v : D) : m_is_diagram [.d c, .d v] = .ex xC := by
  rw [m_is_diagram_eq]
  unfold S_is_diagram
  exact fn_ex rfl (sq_ex (drp_ex (us_ex (sls := [.d c]) rfl ⟨rfl, by simp⟩ rfl (need_computad_no h))))
theorem if_ex {t : TF} {f g : SF} {ρ : List Sl} {c : Xc} (h : t ρ = .ex c) : sIf t f g ρ = .ex c := by
  simp only [sIf, h]
  rfl
theorem tno_ex {f : EF} {ρ : List Sl} {c : Xc} (h : f ρ = .ex c) : tNo (tOf f) ρ = .ex c := by
  simp only [tNo, tOf, h]
  rfl
theorem need_path_noC {c : D} (h : m_is_computad [.d c] = .ok (.bool false, [.d c])) (v : D) : m_need_path [.d c, .d v] = .ex xC := by
  rw [m_need_path_eq]
  unfold S_need_path
  exact fn_ex rfl (if_ex (tno_ex (us_ex (sls := [.d c, .d v]) rfl ⟨rfl, by simp⟩ rfl (is_path_noC h v))))
theorem need_diagram_noC {c : D} (h : m_is_computad [.d c] = .ok (.bool false, [.d c])) (v : D) : m_need_diagram [.d c, .d v] = .ex xC := by
  rw [m_need_diagram_eq]
  unfold S_need_diagram
  exact fn_ex rfl (if_ex (tno_ex (us_ex (sls := [.d c, .d v]) rfl ⟨rfl, by simp⟩ rfl (is_diagram_noC h v))))
/-! ### no path, no diagram -/
theorem is_path_of {C : Cpd} (o : Ok C) {v d : D} (h : m_is_path_in [.d C.d, .d v] = .ok (d, [.d C.d, .d v])) : m_is_path [.d C.d, .d v] = .ok (d, [.d C.d, .d v]) := by
  rw [m_is_path_eq]
  unfold S_is_path
  have n := need_computad_ok o
  generalize C.d = c at *
  exact fn_rt (ρ' := [.d c, .d v]) rfl (sq (drp (us (sls := [.d c]) rfl ⟨rfl, by simp⟩ rfl n rfl)) (rt (us (sls := [.d c, .d v]) rfl ⟨rfl, by simp⟩ rfl h rfl))) (by simp) (by simp)
theorem is_diagram_of {C : Cpd} (o : Ok C) {v d : D} (h : m_is_diagram_in [.d C.d, .d v] = .ok (d, [.d C.d, .d v])) : m_is_diagram [.d C.d, .d v] = .ok (d, [.d C.d, .d v]) := by
  rw [m_is_diagram_eq]
  unfold S_is_diagram
  have n := need_computad_ok o
  generalize C.d = c at *
  exact fn_rt (ρ' := [.d c, .d v]) rfl (sq (drp (us (sls := [.d c]) rfl ⟨rfl, by simp⟩ rfl n rfl)) (rt (us (sls := [.d c, .d v]) rfl ⟨rfl, by simp⟩ rfl h rfl))) (by simp) (by simp)
theorem need_path_no {C : Cpd} (o : Ok C) {v : D} (h : m_is_path_in [.d C.d, .d v] = .ok (.bool false, [.d C.d, .d v])) : m_need_path [.d C.d, .d v] = .ex xP := by
  have i := is_path_of o h
  rw [m_need_path_eq]
  unfold S_need_path
  generalize C.d = c at *
  exact fn_ex rfl (if_yes (tno_y (us (sls := [.d c, .d v]) rfl ⟨rfl, by simp⟩ rfl i rfl)) rfl)
theorem need_diagram_no {C : Cpd} (o : Ok C) {v : D} (h : m_is_diagram_in [.d C.d, .d v] = .ok (.bool false, [.d C.d, .d v])) : m_need_diagram [.d C.d, .d v] = .ex xD := by
  have i := is_diagram_of o h
  rw [m_need_diagram_eq]
  unfold S_need_diagram
  generalize C.d = c at *
  exact fn_ex rfl (if_yes (tno_y (us (sls := [.d c, .d v]) rfl ⟨rfl, by simp⟩ rfl i rfl)) rfl)
/-! ### the values that stand near a computad and are none -/
def zz (C : Cpd) : Cel := ⟨"zz", C.pts.headD "", [], ["none"]⟩
def OddC (C : Cpd) : List D := [.none, .tuple [], .list [sT C.pts, arsD C.ars, clsD C.cls], .tuple [sT C.pts, arsD C.ars], .tuple [sT C.pts, arsD C.ars, clsD C.cls, .tuple []],
  .tuple [.tuple [], arsD C.ars, clsD C.cls], .tuple [sT C.pts, arsD C.ars, .list (C.cls.map Cel.d)], .tuple [sT C.pts, arsD C.ars, .none],
  .tuple [sT (C.pts.take 1 ++ C.pts), arsD C.ars, clsD C.cls], .tuple [sT C.pts, arsD C.ars, clsD (C.cls ++ [zz C])], .tuple [sT C.pts, clsD C.cls, arsD C.ars, .int 0]]
theorem comp_tup {c : D} (h : tupB c 3 3 = false) : m_is_computad [.d c] = .ok (.bool false, [.d c]) := by
  simp [m_is_computad_eq, S_is_computad, tup_of, h]
theorem comp_pts {x y z : D} (h : m_are_points [.d x] = .ok (.bool false, [.d x])) : m_is_computad [.d (.tuple [x, y, z])] = .ok (.bool false, [.d (.tuple [x, y, z])]) := by
  have t : tupB (.tuple [x, y, z]) 3 3 = true := rfl
  have i0 : ixD (.tuple [x, y, z]) (.int 0) = some x := rfl
  generalize (PyData.tuple [x, y, z] : D) = c at *
  simp [m_is_computad_eq, S_is_computad, tup_of, t, i0, h]
theorem comp_cls {C : Cpd} (o : Ok C) {z : D} (h : tupB z 0 20 = false) : m_is_computad [.d (.tuple [sT C.pts, arsD C.ars, z])] = .ok (.bool false, [.d (.tuple [sT C.pts, arsD C.ars, z])]) := by
  have p1 := are_points_ok o
  have p2 := are_arrows_ok o
  generalize sT C.pts = x at *
  generalize arsD C.ars = y at *
  have t : tupB (.tuple [x, y, z]) 3 3 = true := rfl
  have i0 : ixD (.tuple [x, y, z]) (.int 0) = some x := rfl
  have i1 : ixD (.tuple [x, y, z]) (.int 1) = some y := rfl
  have i2 : ixD (.tuple [x, y, z]) (.int 2) = some z := rfl
  generalize (PyData.tuple [x, y, z] : D) = c at *
  simp [m_is_computad_eq, S_is_computad, tup_of, t, i0, i1, i2, p1, p2, h]
theorem pts_twice {C : Cpd} (o : Ok C) : m_are_points [.d (sT (C.pts.take 1 ++ C.pts))] = .ok (.bool false, [.d (sT (C.pts.take 1 ++ C.pts))]) := by
  have e0 := tup_of (sT (C.pts.take 1 ++ C.pts)) 1 12
  have e2 := asc_tup (C.pts.take 1 ++ C.pts) (by have := o.p2; simp; omega)
  have ha : asc (C.pts.take 1 ++ C.pts) = false := by
    have := o.p1
    cases q : C.pts with
    | nil => rw [q] at this; simp at this
    | cons p ps =>
      show (List.all ((p, p) :: (p :: ps).zip ps) fun q => decide (q.1.cps.toList < q.2.cps.toList)) = false
      rw [List.all_cons, decide_eq_false (List.lt_irrefl _)]
      rfl
  have e3 : lcL (setD 1) tYs (eUser 1 (m_is_name) (cD (eVar 1) (cNil))) [1] (strL (C.pts.take 1 ++ C.pts)) [.d (sT (C.pts.take 1 ++ C.pts)), .u] = .ok ((C.pts.take 1 ++ C.pts).map (fun _ => .bool true), [.d (sT (C.pts.take 1 ++ C.pts)), .u]) :=
    lc_map (fun _ => .bool true) fun x hx => by
      have : x ∈ C.pts := by
        rcases List.mem_append.mp hx with h | h
        · exact List.mem_of_mem_take h
        · exact h
      simp [is_name_ok, o.pn x this]
  rw [ha] at e2
  have h3 : (strL (C.pts.take 1 ++ C.pts)).length ≤ 1000000 := by have := o.p2; simp; omega
  have hit : iterD (sT (C.pts.take 1 ++ C.pts)) = some (strL (C.pts.take 1 ++ C.pts)) := rfl
  rw [m_are_points_eq]
  unfold S_are_points
  generalize tupB (sT (C.pts.take 1 ++ C.pts)) 1 12 = b at *
  generalize sT (C.pts.take 1 ++ C.pts) = T at *
  generalize strL (C.pts.take 1 ++ C.pts) = L at *
  generalize C.pts.take 1 ++ C.pts = Q at *
  cases b <;> simp [e0, e2, e3, hit, h3, blsR]
theorem zz_no {C : Cpd} (o : Ok C) : m_is_cell [.d (sT C.pts), .d (arsD C.ars), .d (zz C).d] = .ok (.bool false, [.d (sT C.pts), .d (arsD C.ars), .d (zz C).d]) := by
  have hp : (zz C).p ∈ C.pts := by
    have := o.p1
    unfold zz
    cases q : C.pts with
    | nil => rw [q] at this; simp at this
    | cons p ps => simp
  have hr : rowA C.ars "none" = none := by
    cases q : rowA C.ars "none" with
    | none => rfl
    | some a =>
      obtain ⟨h1, h2⟩ := rowA_some q
      have h3 := o.nn a h1
      rw [h2] at h3
      exact absurd (by decide +kernel) h3
  have e1 := chained_ok C.ars (zz C).p (zz C).up (by simp [zz])
  have e2 := chained_ok C.ars (zz C).p (zz C).lo (by simp [zz])
  have k1 : pth C.ars (zz C).p (zz C).up = some [(zz C).p] := rfl
  have k2 : pth C.ars (zz C).p (zz C).lo = none := by
    show (nxt C.ars (zz C).p "none").bind _ = none
    unfold nxt
    rw [hr]
    rfl
  rw [k1] at e1
  rw [k2] at e2
  have t1 := tup_s (zz C).up 0 6
  have t2 := tup_s (zz C).lo 0 6
  have l1 : (zz C).up.length = 0 := rfl
  have l2 : (zz C).lo.length = 1 := rfl
  rw [l1] at t1
  rw [l2] at t2
  have hin : ninD (.str (zz C).p) (sT C.pts) = some (.bool false) := by simp [hp]
  have b1 : notNonD (chD (some [(zz C).p])) .none = some (.bool true) := rfl
  have b2 : notNonD (chD none) .none = some (.bool false) := rfl
  have n1 := is_name_ok (.str (zz C).n)
  have n2 := is_name_ok (.str (zz C).p)
  have g1 : nmB (.str (zz C).n) = true := by
    show nmB (.str "zz") = true
    decide +kernel
  rw [g1] at n1
  rw [o.pn _ hp] at n2
  rw [m_is_cell_eq]
  unfold S_is_cell
  generalize chD (some [(zz C).p]) = D1 at *
  generalize chD none = D2 at *
  generalize sT C.pts = T at *
  have u2 := Cel.i2 (zz C)
  have u3 := Cel.i3 (zz C)
  have tc := tup_cel (zz C)
  have u0 : ixD (zz C).d (.int 0) = some (.str (zz C).n) := Cel.i0 (zz C)
  have u1 : ixD (zz C).d (.int 1) = some (.str (zz C).p) := rfl
  generalize (zz C).d = Z at *
  generalize (zz C).p = zp at *
  generalize (zz C).n = zn at *
  generalize sT (zz C).up = U at *
  generalize sT (zz C).lo = L at *
  simp at t1 t2
  simp [tc, n1, n2, hin, t1, t2, e1, e2, b1, b2, u0, u1, u2, u3]
theorem comp_zz {C : Cpd} (o : Ok C) : m_is_computad [.d (.tuple [sT C.pts, arsD C.ars, clsD (C.cls ++ [zz C])])] = .ok (.bool false, [.d (.tuple [sT C.pts, arsD C.ars, clsD (C.cls ++ [zz C])])]) := by
  have p1 := are_points_ok o
  have p2 := are_arrows_ok o
  have e0 := tup_of (clsD (C.cls ++ [zz C])) 0 20
  have hit : iterD (clsD (C.cls ++ [zz C])) = some ((C.cls ++ [zz C]).map Cel.d) := rfl
  have hl : ((C.cls ++ [zz C]).map Cel.d).length ≤ 1000000 := by have := o.c2; simp; omega
  have ic : ∀ c ∈ C.cls, m_is_cell [.d (sT C.pts), .d (arsD C.ars), .d c.d] = .ok (.bool true, [.d (sT C.pts), .d (arsD C.ars), .d c.d]) := fun c hc => is_cell_ok o hc
  have iz := zz_no o
  have hm : ((C.cls ++ [zz C]).map Cel.d) = (C.cls.map some ++ [none]).map fun x : Option Cel => match x with | some c => c.d | none => (zz C).d := by
    simp [Function.comp_def]
  generalize sT C.pts = x at *
  generalize arsD C.ars = y at *
  generalize clsD (C.cls ++ [zz C]) = z at *
  have t : tupB (.tuple [x, y, z]) 3 3 = true := rfl
  have i0 : ixD (.tuple [x, y, z]) (.int 0) = some x := rfl
  have i1 : ixD (.tuple [x, y, z]) (.int 1) = some y := rfl
  have i2 : ixD (.tuple [x, y, z]) (.int 2) = some z := rfl
  generalize (PyData.tuple [x, y, z] : D) = c at *
  generalize (zz C).d = Z at *
  have e4 : lcL (setD 1) tYs (eUser 3 (m_is_cell) (cD (eOp ixD (eVar 0) (eC (.int 0))) (cD (eOp ixD (eVar 0) (eC (.int 1))) (cD (eVar 1) (cNil))))) [1] ((C.cls ++ [zz C]).map Cel.d) [.d c, .u] = .ok ((C.cls.map some ++ [none]).map (fun x : Option Cel => .bool x.isSome), [.d c, .u]) := by
    rw [hm]
    exact lc_map (fun x : Option Cel => .bool x.isSome) fun v hv => by
      cases v with
      | none => simp [i0, i1, iz]
      | some v =>
        have hv : v ∈ C.cls := by simpa using hv
        simp [i0, i1, ic v hv]
  generalize (C.cls ++ [zz C]).map Cel.d = LL at *
  have hb : blsOf ((C.cls.map some ++ [none]).map (fun x : Option Cel => .bool x.isSome)) = some ((C.cls.map some ++ [none]).map fun x : Option Cel => x.isSome) := blsM _ _
  have hall : ((C.cls.map some ++ [none]).map fun x : Option Cel => x.isSome).all id = false := by simp
  generalize (C.cls.map some ++ [none]).map (fun x : Option Cel => PyData.bool x.isSome) = BB at *
  generalize (C.cls.map some ++ [none]).map (fun x : Option Cel => x.isSome) = B2 at *
  generalize tupB z 0 20 = b at *
  cases b <;> simp [m_is_computad_eq, S_is_computad, tup_of, t, i0, i1, i2, p1, p2, e0, e4, hit, hl, hb, hall]
theorem odd_not {C : Cpd} (o : Ok C) {d : D} (h : d ∈ OddC C) : m_is_computad [.d d] = .ok (.bool false, [.d d]) := by
  unfold OddC at h
  simp only [List.mem_cons, List.not_mem_nil, or_false] at h
  rcases h with rfl | rfl | rfl | rfl | rfl | rfl | rfl | rfl | rfl | rfl | rfl
  · exact comp_tup rfl
  · exact comp_tup rfl
  · exact comp_tup rfl
  · exact comp_tup rfl
  · exact comp_tup rfl
  · exact comp_pts (by simp [m_are_points_eq, S_are_points, tup_of, tupB])
  · exact comp_cls o rfl
  · exact comp_cls o rfl
  · exact comp_pts (pts_twice o)
  · exact comp_zz o
  · exact comp_tup rfl
/-- values that are neither a path, a layer nor a diagram -/
def OddV : List D := [.none, .bool true, .bool false, .int 0, .int (-1), .int 1, .str "", .str "x", .str "left", .tuple [], .list [], .list [.int 0], .tuple [.str "x"], .int (10 ^ 30), .str "zz"]
theorem odd_two {v : D} (h : v ∈ OddV) : tupB v 2 2 = false := by
  have : ∀ v ∈ OddV, tupB v 2 2 = false := by
    unfold OddV
    simp [tupB]
  exact this v h
end Pd
end

section
/-! Pd: pasting: whiskered rows of layers, vertical and horizontal pasting. -/
namespace Pd
open PySem L2
def sh (m : Nat) (ls : List Lay) : List Lay := ls.map fun l => (l.1 + m, l.2)
theorem sh_len (m : Nat) (ls : List Lay) : (sh m ls).length = ls.length := by simp [sh]
theorem sh_app (m : Nat) (a b : List Lay) : sh m (a ++ b) = sh m a ++ sh m b := by simp [sh]
theorem sh_sh (m k : Nat) (a : List Lay) : sh m (sh k a) = sh (k + m) a := by
  simp only [sh, List.map_map]
  apply List.map_congr_left
  intro l _
  simp only [Function.comp, Prod.mk.injEq, and_true]
  omega
theorem sh_0 (a : List Lay) : sh 0 a = a := by simp [sh]
theorem run_app {C : Cpd} {p : Str} : ∀ {a b : List Lay} {ns r s : List Str}, run C p ns a = some r → run C p r b = some s → run C p ns (a ++ b) = some s
  | [], b, ns, r, s, h1, h2 => by cases h1; exact h2
  | l :: a, b, ns, r, s, h1, h2 => by
    obtain ⟨c, e⟩ := run_cons h1
    rw [List.cons_append, run, if_pos c]
    exact run_app e h2
theorem szL_app (C : Cpd) (a b : List Lay) : szL C (a ++ b) = szL C a + szL C b := by simp [szL]
theorem szL_sh (C : Cpd) (m : Nat) (a : List Lay) : szL C (sh m a) = szL C a := by
  unfold szL sh
  rw [List.map_map]
  rfl
theorem apl_mk {C : Cpd} {p : Str} {ns : List Str} {l : Lay} {c : Cel} (e : rowC C.cls l.2 = some c) (h1 : l.1 ≤ ns.length) (h2 : stop C.ars p (ns.take l.1) = some c.p) (h3 : (ns.drop l.1).take c.up.length = c.up) : apl C p ns l = true := by
  unfold apl
  simp [e, h1, h2, h3]
theorem aft_eq {C : Cpd} {ns : List Str} {l : Lay} {c : Cel} (e : rowC C.cls l.2 = some c) : aft C ns l = ns.take l.1 ++ c.lo ++ ns.drop (l.1 + c.up.length) := by
  unfold aft
  rw [e]
theorem up_le {ns up : List Str} {k : Nat} (hk : k ≤ ns.length) (h : (ns.drop k).take up.length = up) : k + up.length ≤ ns.length := by
  have := congrArg List.length h
  simp at this
  omega
/-- a layer between paths on both sides -/
theorem apl_wh {C : Cpd} {p0 p : Str} {nl cur nr : List Str} {l : Lay} (hl : stop C.ars p0 nl = some p) (h : apl C p cur l = true) :
    apl C p0 (nl ++ (cur ++ nr)) (l.1 + nl.length, l.2) = true ∧ aft C (nl ++ (cur ++ nr)) (l.1 + nl.length, l.2) = nl ++ (aft C cur l ++ nr) := by
  obtain ⟨c, e, _, h1, h2, h3⟩ := apl_row h
  have h4 := up_le h1 h3
  have t1 : (nl ++ (cur ++ nr)).take (l.1 + nl.length) = nl ++ cur.take l.1 := by
    rw [Nat.add_comm, List.take_length_add_append, List.take_append_of_le_length h1]
  have d1 : (nl ++ (cur ++ nr)).drop (l.1 + nl.length) = cur.drop l.1 ++ nr := by
    rw [Nat.add_comm, List.drop_length_add_append, List.drop_append_of_le_length h1]
  have d2 : (nl ++ (cur ++ nr)).drop (l.1 + nl.length + c.up.length) = cur.drop (l.1 + c.up.length) ++ nr := by
    rw [show l.1 + nl.length + c.up.length = nl.length + (l.1 + c.up.length) by omega, List.drop_length_add_append, List.drop_append_of_le_length h4]
  constructor
  · refine apl_mk e (by simp; omega) ?_ ?_
    · simp only [t1]
      rw [stop_append, hl]
      exact h2
    · simp only [d1]
      rw [List.take_append_of_le_length (by simp; omega)]
      exact h3
  · rw [aft_eq (l := (l.1 + nl.length, l.2)) e, aft_eq e]
    simp only [t1, d2]
    simp
theorem run_wh {C : Cpd} {p0 p : Str} {nl nr : List Str} (hl : stop C.ars p0 nl = some p) : ∀ {ls : List Lay} {cur r : List Str}, run C p cur ls = some r → run C p0 (nl ++ (cur ++ nr)) (sh nl.length ls) = some (nl ++ (r ++ nr))
  | [], cur, r, h => by cases h; rfl
  | l :: ls, cur, r, h => by
    obtain ⟨c, e⟩ := run_cons h
    obtain ⟨h1, h2⟩ := apl_wh (nr := nr) hl c
    show run C p0 _ ((l.1 + nl.length, l.2) :: sh nl.length ls) = _
    rw [run, if_pos h1, h2]
    exact run_wh hl e
/-! ### diagrams by their parts -/
theorem dg_mk2 {C : Cpd} {p q : Str} {ns r : List Str} {ls : List Lay} (hp : p ∈ C.pts) (hs : stop C.ars p ns = some q) (hr : run C p ns ls = some r) (h1 : ls.length ≤ 200) (h2 : ns.length + szL C ls ≤ 400) : Dg C p ns ls q r := by
  refine ⟨?_, hp, hs, hr, by omega, h1⟩
  unfold dgB pathB
  simp only [hp, hs, hr, Option.isSome_some, Bool.and_eq_true, decide_eq_true_eq, and_true, true_and]
  omega
theorem stop_mem {C : Cpd} (o : Ok C) : ∀ {ns : List Str} {p q : Str}, p ∈ C.pts → stop C.ars p ns = some q → q ∈ C.pts
  | [], p, q, hp, h => by cases h; exact hp
  | n :: ns, p, q, hp, h => by
    rw [stop] at h
    cases hx : nxt C.ars p n with
    | none => rw [hx] at h; simp at h
    | some y =>
      rw [hx] at h
      obtain ⟨a, k1, k2, k3⟩ := nxt_some hx
      have hy : y ∈ C.pts := by rw [← k3]; exact (o.an a (rowA_some k1).1).2.2
      exact stop_mem o hy h
theorem Dg.vert {C : Cpd} {p q : Str} {ns r s : List Str} {a b : List Lay} (g1 : Dg C p ns a q r) (g2 : Dg C p r b q s) (h1 : a.length + b.length ≤ 200) (h2 : ns.length + szL C a + szL C b ≤ 400) : Dg C p ns (a ++ b) q s :=
  dg_mk2 g1.pm g1.s (run_app g1.r g2.r) (by simp; omega) (by rw [szL_app]; omega)
theorem Dg.whisk {C : Cpd} {p0 p q e : Str} {nl ns nr r : List Str} {a : List Lay} (hp : p0 ∈ C.pts) (hl : stop C.ars p0 nl = some p) (g : Dg C p ns a q r) (hr : stop C.ars q nr = some e) (h2 : nl.length + ns.length + nr.length + szL C a ≤ 400) : Dg C p0 (nl ++ (ns ++ nr)) (sh nl.length a) e (nl ++ (r ++ nr)) := by
  refine dg_mk2 hp ?_ (run_wh hl g.r) (by rw [sh_len]; exact g.l2) (by rw [szL_sh]; simp; omega)
  rw [stop_append, hl, Option.bind_some, stop_append, g.s]
  exact hr
theorem Dg.target {C : Cpd} (o : Ok C) {p q : Str} {ns r : List Str} {a : List Lay} (g : Dg C p ns a q r) : stop C.ars p r = some q ∧ r.length ≤ 400 := by
  refine ⟨(run_ok o g.s g.r).1, ?_⟩
  have h1 := pths_last g.r
  exact (g.path o (List.mem_of_getLast? h1)).2.1
theorem Dg.horL {C : Cpd} (o : Ok C) {p q e : Str} {ns r ms s : List Str} {a b : List Lay} (g1 : Dg C p ns a q r) (g2 : Dg C q ms b e s) (h1 : a.length + b.length ≤ 200) (h2 : ns.length + ms.length + szL C a + szL C b ≤ 400) : Dg C p (ns ++ ms) (a ++ sh r.length b) e (r ++ s) := by
  have e1 := run_wh (nr := ms) (p0 := p) (nl := []) rfl g1.r
  simp only [List.nil_append, List.length_nil, sh_0] at e1
  have e2 := run_wh (nr := []) (g1.target o).1 g2.r
  simp only [List.append_nil] at e2
  refine dg_mk2 g1.pm ?_ (run_app e1 e2) (by simp [sh_len]; omega) (by rw [szL_app, szL_sh]; simp; omega)
  rw [stop_append, g1.s]
  exact g2.s
theorem Dg.horR {C : Cpd} (o : Ok C) {p q e : Str} {ns r ms s : List Str} {a b : List Lay} (g1 : Dg C p ns a q r) (g2 : Dg C q ms b e s) (h1 : a.length + b.length ≤ 200) (h2 : ns.length + ms.length + szL C a + szL C b ≤ 400) : Dg C p (ns ++ ms) (sh ns.length b ++ a) e (r ++ s) := by
  have e1 := run_wh (nr := s) (p0 := p) (nl := []) rfl g1.r
  simp only [List.nil_append, List.length_nil, sh_0] at e1
  have e2 := run_wh (nr := []) g1.s g2.r
  simp only [List.append_nil] at e2
  refine dg_mk2 g1.pm ?_ (run_app e2 e1) (by simp [sh_len]; omega) (by rw [szL_app, szL_sh]; simp; omega)
  rw [stop_append, g1.s]
  exact g2.s
/-! ### the functions -/
theorem str_ne (x y : Str) : neD (.str x) (.str y) = some (.bool (!decide (x = y))) := by
  simp
  by_cases h : x = y <;> simp [h]
theorem pD_ne (p : Str) (x : List Str) : neD (pD p x) (pD p x) = some (.bool false) := by
  have h : PyData.eqv (pD p x) (pD p x) = true := by
    unfold pD
    simp [PyData.eqvAll]
  have := dep_pD p x
  rw [neD_def, if_pos ⟨by omega, by omega⟩, h]
  rfl
theorem points_along_ok {C : Cpd} {p q : Str} {ns : List Str} (h : stop C.ars p ns = some q) (hl : ns.length ≤ 100000) :
    ∃ L, m_points_along [.d C.d, .d (pD p ns)] = .ok (L, [.d C.d, .d (pD p ns)]) ∧ ixD L (.int (-1)) = some (.str q) := by
  obtain ⟨l, h1, h2⟩ := stop_pth h
  have ch := chained_ok C.ars p ns (by omega)
  rw [h1] at ch
  have i0 := pD_0 p ns
  have i1 := pD_1 p ns
  refine ⟨.tuple (strL l), ?_, ?_⟩
  · rw [m_points_along_eq]
    unfold S_points_along
    have tc : tupOf [chD (some l)] = some (.tuple (strL l)) := rfl
    generalize chD (some l) = CH at *
    generalize (PyData.tuple (strL l) : D) = T at *
    generalize sT ns = N at *
    generalize pD p ns = P at *
    exact fn_rt (ρ0 := [.d C.d, .d P]) rfl (rt (ecall (acons (us (sls := [.d (arsD C.ars), .d (.str p), .d N]) (cd1 (eop rfl rfl (Cpd.i1 C)) (cd1 (eop rfl rfl i0) (cd1 (eop rfl rfl i1) rfl))) ⟨rfl, by simp⟩ rfl ch rfl) rfl) tc)) (by simp) (by simp)
  · rw [ixD_t, atI_last _ (by simpa using pth_ne h1), List.getLast?_map, h2]; rfl
theorem end_of_ok {C : Cpd} {p q : Str} {ns : List Str} (h : stop C.ars p ns = some q) (hl : ns.length ≤ 100000) : m_end_of [.d C.d, .d (pD p ns)] = .ok (.str q, [.d C.d, .d (pD p ns)]) := by
  obtain ⟨L, h1, h2⟩ := points_along_ok h hl
  generalize pD p ns = P at *
  simp [m_end_of_eq, S_end_of, h1, h2]
theorem law_end_ok {C : Cpd} (o : Ok C) {p q : Str} {ns : List Str} (h : stop C.ars p ns = some q) (hl : ns.length ≤ 100000) : m__law_end [.d C.d, .d (pD p ns)] = .ok (.str q, [.d C.d, .d (pD p ns)]) := by
  obtain ⟨L, h1, h2⟩ := along_last o h hl
  have i0 := pD_0 p ns
  have i1 := pD_1 p ns
  generalize sT ns = N at *
  generalize pD p ns = P at *
  simp [m__law_end_eq, S__law_end, h1, h2, i0, i1]
theorem limited_ok {C : Cpd} {p q : Str} {ns r : List Str} {ls : List Lay} (g : Dg C p ns ls q r) : m_limited [.d C.d, .d (dD p ns ls)] = .ok (dD p ns ls, [.d C.d, .d (dD p ns ls)]) := by
  have i1 := dD_1 p ns ls
  have sz := size_in_ok C p ns (ls := ls) (fun l hm => by
    obtain ⟨c, h1, _⟩ := run_rows g.r l hm
    exact ⟨c, h1⟩) (by have := g.l2; omega)
  have hz := g.sz
  have ln : lenD [ysD ls] = some (.int ls.length) := by unfold ysD; simp
  have h1 : ¬ (200 : Int) < (ls.length : Int) := by have := g.l2; omega
  have h2 : ¬ (400 : Int) < ((ns.length + szL C ls : Nat) : Int) := by omega
  generalize ((ns.length + szL C ls : Nat) : Int) = SZ at *
  generalize ysD ls = YL at *
  generalize dD p ns ls = DD at *
  simp [m_limited_eq, S_limited, i1, sz, ln, h1, h2]
theorem shifted_ok (ls : List Lay) (m : Nat) (hl : ls.length ≤ 1000000) : m_shifted [.d (ysD ls), .d (.int (m : Int))] = .ok (ysD (sh m ls), [.d (ysD ls), .d (.int (m : Int))]) := by
  have it := iter_ls ls
  have e : ∀ Y, lcL (gTupD 2 (gsCons (setD 2) (gsCons (setD 3) (gsNil)))) tYs (eTup (aCons (eOp addD (eVar 2) (eVar 1)) (aCons (eVar 3) (aNil)))) [2, 3] (ls.map yD) [.d Y, .d (.int (m : Int)), .u, .u] = .ok (ls.map (fun l => yD (l.1 + m, l.2)), [.d Y, .d (.int (m : Int)), .u, .u]) := fun Y => lc_map (fun (l : Lay) => yD (l.1 + m, l.2)) fun l _ => by
    unfold yD
    simp
  have h2 : ls.map (fun l => yD (l.1 + m, l.2)) = (sh m ls).map yD := by unfold sh; rw [List.map_map]; rfl
  rw [h2] at e
  have hn : (ls.map yD).length ≤ 1000000 := by simpa using hl
  rw [m_shifted_eq]
  unfold S_shifted
  show _ = Pd.R.ok (PyData.tuple ((sh m ls).map yD), _)
  generalize (sh m ls).map yD = Y2 at *
  generalize ysD ls = YL at *
  generalize ls.map yD = Y at *
  simp [it, e, hn]
theorem ys_add (a b : List Lay) (h : a.length + b.length ≤ 1000000) : addD (ysD a) (ysD b) = some (ysD (a ++ b)) := by
  unfold ysD
  rw [addD_t, if_pos (by rw [sizeLine_eq]; simp; omega)]
  simp
theorem vertical_ok {C : Cpd} (o : Ok C) {p q : Str} {ns r s : List Str} {a b : List Lay} (g1 : Dg C p ns a q r) (g2 : Dg C p r b q s) (h1 : a.length + b.length ≤ 200) (h2 : ns.length + szL C a + szL C b ≤ 400) :
    m_vertical [.d C.d, .d (dD p ns a), .d (dD p r b)] = .ok (dD p ns (a ++ b), [.d C.d, .d (dD p ns a), .d (dD p r b)]) := by
  have n1 := need_diagram_ok o g1.b
  have n2 := need_diagram_ok o g2.b
  have pi := paths_in_ok o g1.s g1.r (by have := g1.l2; have := g1.n4; omega)
  have last : ixD (.tuple ((pths C ns a).map (pD p))) (.int (-1)) = some (pD p r) := by
    rw [ixD_t, atI_last _ (by simpa using pths_ne C ns a), List.getLast?_map, pths_last g1.r]; rfl
  have j0 := dD_0 p r b
  have j1 := dD_1 p r b
  have k0 := dD_0 p ns a
  have k1 := dD_1 p ns a
  have ad := ys_add a b (by omega)
  have lim := limited_ok (g1.vert g2 h1 h2)
  have ne := pD_ne p r
  rw [m_vertical_eq]
  unfold S_vertical
  have hd : (PyData.tuple [pD p ns, ysD (a ++ b)] : D) = dD p ns (a ++ b) := rfl
  generalize dD p ns (a ++ b) = D3 at *
  generalize ysD (a ++ b) = Y3 at *
  generalize dD p ns a = D1 at *
  generalize dD p r b = D2 at *
  generalize ysD a = Y1 at *
  generalize ysD b = Y2 at *
  generalize pD p r = PR at *
  generalize pD p ns = PN at *
  generalize (PyData.tuple ((pths C ns a).map (pD p)) : D) = T at *
  refine fn_rt (ρ' := [.d C.d, .d D1, .d D2]) rfl (sq (drp (us (sls := [.d C.d, .d D1]) rfl ⟨rfl, by simp⟩ rfl n1 rfl)) (sq (drp (us (sls := [.d C.d, .d D2]) rfl ⟨rfl, by simp⟩ rfl n2 rfl)) (sq (if_no (tbo (eop (eop (us (sls := [.d C.d, .d D1]) rfl ⟨rfl, by simp⟩ rfl pi rfl) rfl last) (eop rfl rfl j0) ne)))
    (rt (us (sls := [.d C.d, .d D3]) (cd1 rfl (cd1 (d := D3) (by rw [← hd]; exact etup (acons (eop rfl rfl k0) (acons (eop (eop rfl rfl k1) (eop rfl rfl j1) ad) rfl)) (by simp)) rfl)) ⟨rfl, by simp⟩ rfl lim rfl))))) (by simp) (by simp)
theorem whisker_ok {C : Cpd} (o : Ok C) {p0 p q e : Str} {nl ns nr r : List Str} {a : List Lay} (hp : p0 ∈ C.pts) (hl : stop C.ars p0 nl = some p) (g : Dg C p ns a q r) (hr : stop C.ars q nr = some e) (h2 : nl.length + ns.length + nr.length + szL C a ≤ 400) :
    m_whisker [.d C.d, .d (pD p0 nl), .d (dD p ns a), .d (pD q nr)] = .ok (dD p0 (nl ++ (ns ++ nr)) (sh nl.length a), [.d C.d, .d (pD p0 nl), .d (dD p ns a), .d (pD q nr)]) := by
  have hq := stop_mem o g.pm g.s
  have b1 : pathB C p0 nl = true := by unfold pathB; simp [hp, hl]; omega
  have b2 : pathB C q nr = true := by unfold pathB; simp [hq, hr]; omega
  have n1 := need_path_ok o b1
  have n2 := need_diagram_ok o g.b
  have n3 := need_path_ok o b2
  have e1 := end_of_ok hl (by omega)
  have e2 := end_of_ok g.s (by have := g.n4; omega)
  have lim := limited_ok (g.whisk hp hl hr h2)
  have s1 := shifted_ok a nl.length (by have := g.l2; omega)
  have l1 := sT_len nl
  have a1 := sT_add nl ns (by omega)
  have a2 := sT_add (nl ++ ns) nr (by simp; omega)
  rw [List.append_assoc] at a2
  have i0 := dD_0 p ns a
  have i1 := dD_1 p ns a
  have j0 := pD_0 p0 nl
  have j1 := pD_1 p0 nl
  have k0 := pD_0 p ns
  have k1 := pD_1 p ns
  have m0 := pD_0 q nr
  have m1 := pD_1 q nr
  have ne1 : neD (.str p) (.str p) = some (.bool false) := by rw [str_ne]; simp
  have ne2 : neD (.str q) (.str q) = some (.bool false) := by rw [str_ne]; simp
  rw [m_whisker_eq]
  unfold S_whisker
  have hd : (PyData.tuple [.tuple [.str p0, sT (nl ++ (ns ++ nr))], ysD (sh nl.length a)] : D) = dD p0 (nl ++ (ns ++ nr)) (sh nl.length a) := rfl
  generalize dD p0 (nl ++ (ns ++ nr)) (sh nl.length a) = D3 at *
  generalize sT (nl ++ (ns ++ nr)) = X3 at *
  generalize ysD (sh nl.length a) = Y3 at *
  generalize sT (nl ++ ns) = X2 at *
  generalize dD p ns a = D1 at *
  generalize ysD a = Y1 at *
  generalize pD p0 nl = P0 at *
  generalize pD p ns = P1 at *
  generalize pD q nr = P2 at *
  generalize sT nl = N0 at *
  generalize sT ns = N1 at *
  generalize sT nr = N2 at *
  generalize (nl.length : Int) = LN at *
  refine fn_rt (ρ0 := [.d C.d, .d P0, .d D1, .d P2, .u, .u]) (ρ' := [.d C.d, .d P0, .d D1, .d P2, .d P1, .d (.tuple [.str p0, X3])]) rfl
    (sq (drp (us (sls := [.d C.d, .d P0]) rfl ⟨rfl, by simp⟩ rfl n1 rfl)) (sq (drp (us (sls := [.d C.d, .d D1]) rfl ⟨rfl, by simp⟩ rfl n2 rfl)) (sq (drp (us (sls := [.d C.d, .d P2]) rfl ⟨rfl, by simp⟩ rfl n3 rfl))
      (sq (ρ' := [.d C.d, .d P0, .d D1, .d P2, .d P1, .u]) (asg (eop rfl rfl i0) (setD_eq rfl))
        (sq (if_no (tor_f (tbo (eop (us (sls := [.d C.d, .d P0]) rfl ⟨rfl, by simp⟩ rfl e1 rfl) (eop rfl rfl k0) ne1)) (tbo (eop (us (sls := [.d C.d, .d P1]) rfl ⟨rfl, by simp⟩ rfl e2 rfl) (eop rfl rfl m0) ne2))))
          (sq (ρ' := [.d C.d, .d P0, .d D1, .d P2, .d P1, .d (.tuple [.str p0, X3])]) (asg (etup (acons (eop rfl rfl j0) (acons (eop (eop (eop rfl rfl j1) (eop rfl rfl k1) a1) (eop rfl rfl m1) a2) rfl)) (by simp)) (setD_eq rfl))
            (rt (us (sls := [.d C.d, .d D3]) (cd1 rfl (cd1 (d := D3) (by rw [← hd]; exact etup (acons rfl (acons (us (sls := [.d Y1, .d (.int LN)]) (cd1 (eop rfl rfl i1) (cd1 (ecall (acons (eop rfl rfl j1) rfl) l1) rfl)) ⟨rfl, by simp⟩ rfl s1 rfl) rfl)) (by simp)) rfl)) ⟨rfl, by simp⟩ rfl lim rfl)))))))) (by simp) (by simp)
end Pd
end

section
/-! Pd: horizontal pasting, and the laws' own whiskering. -/
namespace Pd
open PySem L2
theorem spar {i j : Nat} {f g : EF} {ρ ρ1 ρ2 ρ3 ρ4 : List Sl} {x y : D} (h1 : f ρ = .ok (x, ρ1)) (h2 : g ρ1 = .ok (y, ρ2)) (h3 : setD i x ρ2 = some ρ3) (h4 : setD j y ρ3 = some ρ4) : sPar i j f g ρ = .ok (.nx ρ4) := by
  simp only [sPar, h1, h2, bind_ok, h3, Option.bind_some, h4, li]
theorem strEq_t (x y : Str) (h : (decide (x = y)) = true) : eqD (.str x) (.str y) = some (.bool true) := by rw [str_eq, h]
theorem strEq_f (x y : Str) (h : (decide (x = y)) = false) : eqD (.str x) (.str y) = some (.bool false) := by rw [str_eq, h]
abbrev Lf : Str := "left"
abbrev Rg : Str := "right"
theorem rl_ne : (decide (Rg = Lf)) = false := by decide +kernel
theorem side_in {f : Str} (h : f = Lf ∨ f = Rg) : ninD (.str f) (.tuple [.str Lf, .str Rg]) = some (.bool false) := by
  have e := inL_str f [Lf, Rg]
  simp only [List.map_cons, List.map_nil] at e
  have h2 : decide (f ∈ [Lf, Rg]) = true := by rcases h with rfl | rfl <;> simp
  rw [h2] at e
  rw [ninD_t, if_pos (by simp), e]
  rfl
/-- left first or right first -/
def hor (left : Bool) (ns r : List Str) (a b : List Lay) : List Lay := if left = true then a ++ sh r.length b else sh ns.length b ++ a
def sideS (left : Bool) : Str := if left = true then Lf else Rg
theorem Dg.hor {C : Cpd} (o : Ok C) (left : Bool) {p q e : Str} {ns r ms s : List Str} {a b : List Lay} (g1 : Dg C p ns a q r) (g2 : Dg C q ms b e s) (h1 : a.length + b.length ≤ 200) (h2 : ns.length + ms.length + szL C a + szL C b ≤ 400) : Dg C p (ns ++ ms) (hor left ns r a b) e (r ++ s) := by
  cases left
  · exact g1.horR o g2 h1 h2
  · exact g1.horL o g2 h1 h2
theorem if_no2 {t : TF} {f g : SF} {ρ ρ' : List Sl} {r : Pd.R Fl} (h : t ρ = .ok (false, ρ')) (e : g ρ' = r) : sIf t f g ρ = r := by
  simp only [sIf, h, bind_ok]
  exact e
theorem horizontal_ok {C : Cpd} (o : Ok C) (left : Bool) {p q e : Str} {ns r ms s : List Str} {a b : List Lay} (g1 : Dg C p ns a q r) (g2 : Dg C q ms b e s) (h1 : a.length + b.length ≤ 200) (h2 : ns.length + ms.length + szL C a + szL C b ≤ 400) :
    m_horizontal [.d C.d, .d (dD p ns a), .d (dD q ms b), .d (.str (sideS left))] = .ok (dD p (ns ++ ms) (hor left ns r a b), [.d C.d, .d (dD p ns a), .d (dD q ms b), .d (.str (sideS left))]) := by
  have n1 := need_diagram_ok o g1.b
  have n2 := need_diagram_ok o g2.b
  have e2 := end_of_ok g1.s (by have := g1.n4; omega)
  have lim := limited_ok (g1.hor o left g2 h1 h2)
  have pi := paths_in_ok o g1.s g1.r (by have := g1.l2; have := g1.n4; omega)
  have last : ixD (.tuple ((pths C ns a).map (pD p))) (.int (-1)) = some (pD p r) := by
    rw [ixD_t, atI_last _ (by simpa using pths_ne C ns a), List.getLast?_map, pths_last g1.r]; rfl
  have s1 := shifted_ok b r.length (by have := g2.l2; omega)
  have s2 := shifted_ok b ns.length (by have := g2.l2; omega)
  have l1 := sT_len r
  have l2 := sT_len ns
  have ad := ys_add a (sh r.length b) (by rw [sh_len]; omega)
  have ad2 := ys_add (sh ns.length b) a (by rw [sh_len]; omega)
  have a1 := sT_add ns ms (by have := g1.n4; have := g2.n4; omega)
  have i0 := dD_0 p ns a
  have i1 := dD_1 p ns a
  have j0 := dD_0 q ms b
  have j1 := dD_1 q ms b
  have k0 := pD_0 p ns
  have k1 := pD_1 p ns
  have m0 := pD_0 q ms
  have m1 := pD_1 q ms
  have r1 := pD_1 p r
  have ne1 : neD (.str q) (.str q) = some (.bool false) := by rw [str_ne]; simp
  have hs := side_in (f := sideS left) (by cases left <;> simp [sideS])
  rw [m_horizontal_eq]
  unfold S_horizontal
  have hd : (PyData.tuple [.tuple [.str p, sT (ns ++ ms)], ysD (hor left ns r a b)] : D) = dD p (ns ++ ms) (hor left ns r a b) := rfl
  have cs : eqD (.str (sideS left)) (.str Lf) = some (.bool left) := by
    cases left
    · exact strEq_f _ _ rl_ne
    · exact strEq_t _ _ (by simp [sideS])
  have fin : ∀ ρ6, ρ6 = [.d C.d, .d (dD p ns a), .d (dD q ms b), .d (.str (sideS left)), .d (pD p ns), .d (pD q ms), .d (ysD (hor left ns r a b))] → (sRet (eUser 2 (m_limited) (cD (eVar 0) (cD (eTup (aCons (eTup (aCons (eOp ixD (eVar 4) (eC (.int 0))) (aCons (eOp addD (eOp ixD (eVar 4) (eC (.int 1))) (eOp ixD (eVar 5) (eC (.int 1)))) (aNil)))) (aCons (eVar 6) (aNil)))) (cNil))))) ρ6 = .ok (.rt (dD p (ns ++ ms) (hor left ns r a b)) ρ6) := fun ρ6 h => by
    subst h
    generalize dD p (ns ++ ms) (hor left ns r a b) = D3 at *
    generalize ysD (hor left ns r a b) = Y3 at *
    generalize sT (ns ++ ms) = X3 at *
    generalize pD p ns = P1 at *
    generalize pD q ms = P2 at *
    generalize sT ns = N1 at *
    generalize sT ms = N2 at *
    exact rt (us (sls := [.d C.d, .d D3]) (cd1 rfl (cd1 (d := D3) (by rw [← hd]; exact etup (acons (etup (acons (eop rfl rfl k0) (acons (eop (eop rfl rfl k1) (eop rfl rfl m1) a1) rfl)) (by simp)) (acons rfl rfl)) (by simp)) rfl)) ⟨rfl, by simp⟩ rfl lim rfl)
  have fin := fin _ rfl
  generalize dD p (ns ++ ms) (hor left ns r a b) = D3 at *
  generalize dD p ns a = D1 at *
  generalize dD q ms b = D2 at *
  generalize sT (ns ++ ms) = X3 at *
  generalize hP1 : pD p ns = P1 at *
  generalize hP2 : pD q ms = P2 at *
  generalize pD p r = PR at *
  generalize sT ns = N1 at *
  generalize sT ms = N2 at *
  generalize sT r = N3 at *
  generalize hS : sideS left = SD at *
  refine fn_rt (ρ0 := [.d C.d, .d D1, .d D2, .d (.str SD), .u, .u, .u]) (ρ' := [.d C.d, .d D1, .d D2, .d (.str SD), .d P1, .d P2, .d (ysD (hor left ns r a b))]) rfl
    (sq (drp (us (sls := [.d C.d, .d D1]) rfl ⟨rfl, by simp⟩ rfl n1 rfl)) (sq (drp (us (sls := [.d C.d, .d D2]) rfl ⟨rfl, by simp⟩ rfl n2 rfl))
      (sq (if_no (tor_f (tno_of (b := true) rfl) (tbo (eop rfl (etup (acons rfl (acons rfl rfl)) (by simp)) hs))))
        (sq (ρ' := [.d C.d, .d D1, .d D2, .d (.str SD), .d P1, .d P2, .u]) (spar (eop rfl rfl i0) (eop rfl rfl j0) rfl rfl)
          (sq (if_no (tbo (eop (us (sls := [.d C.d, .d P1]) rfl ⟨rfl, by simp⟩ rfl e2 rfl) (eop rfl rfl m0) ne1)))
            (sq (ρ' := [.d C.d, .d D1, .d D2, .d (.str SD), .d P1, .d P2, .d (ysD (hor left ns r a b))]) ?_ fin)))))) (by simp) (by simp)
  cases left with
  | true =>
    refine if_yes (tbo (eop rfl rfl cs)) (asg (ρ' := [.d C.d, .d D1, .d D2, .d (.str SD), .d P1, .d P2, .u]) (d := ysD (a ++ sh r.length b)) ?_ rfl)
    generalize ysD (a ++ sh r.length b) = Y3 at *
    generalize ysD (sh r.length b) = Y4 at *
    generalize ysD a = Y1 at *
    generalize ysD b = Y2 at *
    generalize (r.length : Int) = LR at *
    generalize (PyData.tuple ((pths C ns a).map (pD p)) : D) = T at *
    exact eop (eop rfl rfl i1) (us (sls := [.d Y2, .d (.int LR)]) (cd1 (eop rfl rfl j1) (cd1 (ecall (acons (eop (eop (us (sls := [.d C.d, .d D1]) rfl ⟨rfl, by simp⟩ rfl pi rfl) rfl last) rfl r1) rfl) l1) rfl)) ⟨rfl, by simp⟩ rfl s1 rfl) ad
  | false =>
    refine if_no2 (tbo (eop rfl rfl cs)) (asg (ρ' := [.d C.d, .d D1, .d D2, .d (.str SD), .d P1, .d P2, .u]) (d := ysD (sh ns.length b ++ a)) ?_ rfl)
    generalize ysD (sh ns.length b ++ a) = Y3 at *
    generalize ysD (sh ns.length b) = Y4 at *
    generalize ysD a = Y1 at *
    generalize ysD b = Y2 at *
    generalize (ns.length : Int) = LR at *
    exact eop (us (sls := [.d Y2, .d (.int LR)]) (cd1 (eop rfl rfl j1) (cd1 (ecall (acons (eop rfl rfl k1) rfl) l2) rfl)) ⟨rfl, by simp⟩ rfl s2 rfl) (eop rfl rfl i1) ad2
/-! ### the laws' own -/
theorem due_whisker_ok {C : Cpd} (o : Ok C) {p0 p q : Str} {nl ns nr : List Str} {a : List Lay} (hl : stop C.ars p0 nl = some p) (hs : stop C.ars p ns = some q) (h1 : nl.length ≤ 10000) (h2 : ns.length ≤ 10000) (h3 : nr.length ≤ 10000) (h4 : a.length ≤ 1000) :
    m__law_due_whisker [.d C.d, .d (pD p0 nl), .d (dD p ns a), .d (pD q nr)] = .ok (dD p0 (nl ++ (ns ++ nr)) (sh nl.length a), [.d C.d, .d (pD p0 nl), .d (dD p ns a), .d (pD q nr)]) := by
  have e1 := law_end_ok o hl (by omega)
  have e2 := law_end_ok o hs (by omega)
  have l1 := sT_len nl
  have a1 := sT_add nl ns (by omega)
  have a2 := sT_add (nl ++ ns) nr (by simp; omega)
  rw [List.append_assoc] at a2
  have j0 := pD_0 p0 nl
  have j1 := pD_1 p0 nl
  have k0 := pD_0 p ns
  have k1 := pD_1 p ns
  have m0 := pD_0 q nr
  have m1 := pD_1 q nr
  have it := iter_ls a
  have ne1 : neD (.str p) (.str p) = some (.bool false) := by rw [str_ne]; simp
  have ne2 : neD (.str q) (.str q) = some (.bool false) := by rw [str_ne]; simp
  have hn : (a.map yD).length ≤ 1000000 := by simp; omega
  have e : ∀ CD P0 DD PR PS YA X N, ixD P0 (.int 1) = some N → lenD [N] = some (.int nl.length) → lcL (gTupD 2 (gsCons (setD 7) (gsCons (setD 8) (gsNil)))) tYs (eTup (aCons (eOp addD (eVar 7) (eCall lenD (aCons (eOp ixD (eVar 1) (eC (.int 1))) (aNil)))) (aCons (eVar 8) (aNil)))) [7, 8] (a.map yD) [.d CD, .d P0, .d DD, .d PR, .d PS, .d YA, .d X, .u, .u] = .ok (a.map (fun l => yD (l.1 + nl.length, l.2)), [.d CD, .d P0, .d DD, .d PR, .d PS, .d YA, .d X, .u, .u]) := fun CD P0 DD PR PS YA X N h1 h2 => lc_map (fun (l : Lay) => yD (l.1 + nl.length, l.2)) fun l _ => by
    unfold yD
    simp [h1, h2]
  have h5 : a.map (fun l => yD (l.1 + nl.length, l.2)) = (sh nl.length a).map yD := by unfold sh; rw [List.map_map]; rfl
  rw [h5] at e
  have e := e C.d (pD p0 nl) (dD p ns a) (pD q nr) (pD p ns) (ysD a) (pD p0 (nl ++ (ns ++ nr))) _ j1 l1
  rw [m__law_due_whisker_eq]
  unfold S__law_due_whisker
  have hd : (PyData.tuple [pD p0 (nl ++ (ns ++ nr)), .tuple ((sh nl.length a).map yD)] : D) = dD p0 (nl ++ (ns ++ nr)) (sh nl.length a) := rfl
  have hx : (PyData.tuple [.str p0, sT (nl ++ (ns ++ nr))] : D) = pD p0 (nl ++ (ns ++ nr)) := rfl
  have hg : gTupD 2 (gsCons (setD 4) (gsCons (setD 5) gsNil)) (dD p ns a) [.d C.d, .d (pD p0 nl), .d (dD p ns a), .d (pD q nr), .u, .u, .u, .u, .u] = some [.d C.d, .d (pD p0 nl), .d (dD p ns a), .d (pD q nr), .d (pD p ns), .d (ysD a), .u, .u, .u] := rfl
  generalize dD p0 (nl ++ (ns ++ nr)) (sh nl.length a) = D3 at *
  generalize (sh nl.length a).map yD = Y3 at *
  generalize pD p0 (nl ++ (ns ++ nr)) = PX at *
  generalize sT (nl ++ (ns ++ nr)) = X3 at *
  generalize sT (nl ++ ns) = X2 at *
  generalize dD p ns a = D1 at *
  generalize ysD a = Y1 at *
  generalize a.map yD = Y0 at *
  generalize pD p0 nl = P0 at *
  generalize pD p ns = P1 at *
  generalize pD q nr = P2 at *
  generalize sT nl = N0 at *
  generalize sT ns = N1 at *
  generalize sT nr = N2 at *
  refine fn_rt (ρ0 := [.d C.d, .d P0, .d D1, .d P2, .u, .u, .u, .u, .u]) (ρ' := [.d C.d, .d P0, .d D1, .d P2, .d P1, .d Y1, .d PX, .u, .u]) rfl
    (sq (asg (d := D1) rfl hg) (sq (if_no (tor_f (tbo (eop (us (sls := [.d C.d, .d P0]) rfl ⟨rfl, by simp⟩ rfl e1 rfl) (eop rfl rfl k0) ne1)) (tbo (eop (us (sls := [.d C.d, .d P1]) rfl ⟨rfl, by simp⟩ rfl e2 rfl) (eop rfl rfl m0) ne2))))
      (sq (ρ' := [.d C.d, .d P0, .d D1, .d P2, .d P1, .d Y1, .d PX, .u, .u]) (asg (d := PX) (by rw [← hx]; exact etup (acons (eop rfl rfl j0) (acons (eop (eop (eop rfl rfl j1) (eop rfl rfl k1) a1) (eop rfl rfl m1) a2) rfl)) (by simp)) (setD_eq rfl))
        (rt (by rw [← hd]; exact etup (acons rfl (acons (tupLc (iany rfl it) hn rfl rfl e rfl) rfl)) (by simp)))))) (by simp) (by simp)
theorem due_horizontal_ok {C : Cpd} (o : Ok C) (left : Bool) {p q e : Str} {ns r ms s : List Str} {a b : List Lay} (g1 : Dg C p ns a q r) (g2 : Dg C q ms b e s) :
    m__law_due_horizontal [.d C.d, .d (dD p ns a), .d (dD q ms b), .d (.str (sideS left))] = .ok (dD p (ns ++ ms) (hor left ns r a b), [.d C.d, .d (dD p ns a), .d (dD q ms b), .d (.str (sideS left))]) := by
  have t1 := g1.target o
  have t2 := g2.target o
  have l1 := g1.n4
  have l2 := g2.n4
  have w1 := g1.l2
  have w2 := g2.l2
  have e1 := law_end_ok o g1.s (by omega)
  have e2 := law_end_ok o g2.s (by omega)
  have pa := law_paths_ok o g1.s g1.r (by omega)
  have pb := law_paths_ok o g2.s g2.r (by omega)
  have lastA : ixD (.list ((pths C ns a).map (pD p))) (.int (-1)) = some (pD p r) := by
    rw [ixD_l, atI_last _ (by simpa using pths_ne C ns a), List.getLast?_map, pths_last g1.r]; rfl
  have lastB : ixD (.list ((pths C ms b).map (pD q))) (.int (-1)) = some (pD q s) := by
    rw [ixD_l, atI_last _ (by simpa using pths_ne C ms b), List.getLast?_map, pths_last g2.r]; rfl
  -- left first: one between nothing and ms; the other behind r
  have dl1 := due_whisker_ok o (p0 := p) (nl := []) (nr := ms) (a := a) rfl g1.s (by simp) (by omega) (by omega) (by omega)
  have dl2 := due_whisker_ok o (p0 := p) (nl := r) (nr := []) (a := b) t1.1 g2.s (by omega) (by omega) (by simp) (by omega)
  have dr1 := due_whisker_ok o (p0 := p) (nl := ns) (nr := []) (a := b) g1.s g2.s (by omega) (by omega) (by simp) (by omega)
  have dr2 := due_whisker_ok o (p0 := p) (nl := []) (nr := s) (a := a) rfl g1.s (by simp) (by omega) (by omega) (by omega)
  simp only [List.nil_append, List.append_nil, List.length_nil, sh_0] at dl1 dl2 dr1 dr2
  have ne1 : neD (.str q) (.str q) = some (.bool false) := by rw [str_ne]; simp
  have i0 := dD_0 p ns a
  have j0 := dD_0 q ms b
  have k0 := pD_0 p ns
  have m0 := pD_0 q ms
  have cs : eqD (.str (sideS left)) (.str Lf) = some (.bool left) := by
    cases left
    · exact strEq_f _ _ rl_ne
    · exact strEq_t _ _ (by simp [sideS])
  have x0 := dD_0 p (ns ++ ms) a
  have x1 := dD_1 p (ns ++ ms) a
  have y1 := dD_1 p (r ++ ms) (sh r.length b)
  have z0 := dD_0 p (ns ++ ms) (sh ns.length b)
  have z1 := dD_1 p (ns ++ ms) (sh ns.length b)
  have v1 := dD_1 p (ns ++ s) a
  have ad := ys_add a (sh r.length b) (by rw [sh_len]; omega)
  have ad2 := ys_add (sh ns.length b) a (by rw [sh_len]; omega)
  rw [m__law_due_horizontal_eq]
  unfold S__law_due_horizontal
  have hp1 : (PyData.tuple [.str p, .tuple []] : D) = pD p [] := rfl
  have hp2 : (PyData.tuple [.str e, .tuple []] : D) = pD e [] := rfl
  have par : ∀ (D1 D2 P1 P2 PA PB SD : D), ixD D1 (.int 0) = some P1 → ixD D2 (.int 0) = some P2 → ixD P1 (.int 0) = some (.str p) → m__law_end [.d C.d, .d P2] = .ok (.str e, [.d C.d, .d P2]) → (PyData.tuple [.str p, .tuple []] : D) = PA → (PyData.tuple [.str e, .tuple []] : D) = PB →
      sPar 4 5 (eTup (aCons (eOp ixD (eOp ixD (eVar 1) (eC (.int 0))) (eC (.int 0))) (aCons (eTup (aNil)) (aNil)))) (eTup (aCons (eUser 2 (m__law_end) (cD (eVar 0) (cD (eOp ixD (eVar 2) (eC (.int 0))) (cNil)))) (aCons (eTup (aNil)) (aNil)))) [.d C.d, .d D1, .d D2, .d SD, .u, .u, .u, .u] = .ok (.nx [.d C.d, .d D1, .d D2, .d SD, .d PA, .d PB, .u, .u]) := fun D1 D2 P1 P2 PA PB SD q1 q2 q3 q4 q5 q6 => by
    subst q5 q6
    exact spar (etup (acons (eop (eop rfl rfl q1) rfl q3) (acons rfl rfl)) (by simp)) (etup (acons (us (sls := [.d C.d, .d P2]) (cd1 rfl (cd1 (eop rfl rfl q2) rfl)) ⟨rfl, by simp⟩ rfl q4 rfl) (acons rfl rfl)) (by simp)) rfl rfl
  have par := par (dD p ns a) (dD q ms b) (pD p ns) (pD q ms) (pD p []) (pD e []) (.str (sideS left)) i0 j0 k0 e2 hp1 hp2
  cases left with
  | true =>
    have hd : (PyData.tuple [pD p (ns ++ ms), ysD (a ++ sh r.length b)] : D) = dD p (ns ++ ms) (hor true ns r a b) := rfl
    generalize dD p (ns ++ ms) (hor true ns r a b) = D9 at *
    generalize ysD (a ++ sh r.length b) = Y9 at *
    generalize dD p (ns ++ ms) a = D3 at *
    generalize dD p (r ++ ms) (sh r.length b) = D4 at *
    generalize dD p ns a = D1 at *
    generalize dD q ms b = D2 at *
    generalize pD p (ns ++ ms) = P3 at *
    generalize pD p [] = PA at *
    generalize pD e [] = PB at *
    generalize pD p ns = P1 at *
    generalize pD q ms = P2 at *
    generalize pD p r = PR at *
    generalize (PyData.list ((pths C ns a).map (pD p)) : D) = T at *
    generalize (PyData.list ((pths C ms b).map (pD q)) : D) = T2 at *
    generalize ysD a = Y1 at *
    generalize ysD (sh r.length b) = Y2 at *
    generalize sideS true = SD at *
    refine fn_rt (ρ0 := [.d C.d, .d D1, .d D2, .d (.str SD), .u, .u, .u, .u]) (ρ' := [.d C.d, .d D1, .d D2, .d (.str SD), .d PA, .d PB, .d D3, .d D4]) rfl
      (sq (if_no (tbo (eop (us (sls := [.d C.d, .d P1]) (cd1 rfl (cd1 (eop rfl rfl i0) rfl)) ⟨rfl, by simp⟩ rfl e1 rfl) (eop (eop rfl rfl j0) rfl m0) ne1))) (sq par
        (sq (if_yes (tbo (eop rfl rfl cs)) (sq (ρ' := [.d C.d, .d D1, .d D2, .d (.str SD), .d PA, .d PB, .d D3, .u]) (asg (us (sls := [.d C.d, .d PA, .d D1, .d P2]) (cd1 rfl (cd1 rfl (cd1 rfl (cd1 (eop rfl rfl j0) rfl)))) ⟨rfl, by simp⟩ rfl dl1 rfl) rfl)
          (asg (us (sls := [.d C.d, .d PR, .d D2, .d PB]) (cd1 rfl (cd1 (eop (us (sls := [.d C.d, .d D1]) rfl ⟨rfl, by simp⟩ rfl pa rfl) rfl lastA) (cd1 rfl (cd1 rfl rfl)))) ⟨rfl, by simp⟩ rfl dl2 rfl) rfl)))
          (rt (by rw [← hd]; exact etup (acons (eop rfl rfl x0) (acons (eop (eop rfl rfl x1) (eop rfl rfl y1) ad) rfl)) (by simp)))))) (by simp) (by simp)
  | false =>
    have hd : (PyData.tuple [pD p (ns ++ ms), ysD (sh ns.length b ++ a)] : D) = dD p (ns ++ ms) (hor false ns r a b) := rfl
    generalize dD p (ns ++ ms) (hor false ns r a b) = D9 at *
    generalize ysD (sh ns.length b ++ a) = Y9 at *
    generalize dD p (ns ++ ms) (sh ns.length b) = D3 at *
    generalize dD p (ns ++ s) a = D4 at *
    generalize dD p ns a = D1 at *
    generalize dD q ms b = D2 at *
    generalize pD p (ns ++ ms) = P3 at *
    generalize pD p [] = PA at *
    generalize pD e [] = PB at *
    generalize pD p ns = P1 at *
    generalize pD q ms = P2 at *
    generalize pD q s = PS at *
    generalize (PyData.list ((pths C ns a).map (pD p)) : D) = T at *
    generalize (PyData.list ((pths C ms b).map (pD q)) : D) = T2 at *
    generalize ysD a = Y1 at *
    generalize ysD (sh ns.length b) = Y2 at *
    generalize sideS false = SD at *
    refine fn_rt (ρ0 := [.d C.d, .d D1, .d D2, .d (.str SD), .u, .u, .u, .u]) (ρ' := [.d C.d, .d D1, .d D2, .d (.str SD), .d PA, .d PB, .d D3, .d D4]) rfl
      (sq (if_no (tbo (eop (us (sls := [.d C.d, .d P1]) (cd1 rfl (cd1 (eop rfl rfl i0) rfl)) ⟨rfl, by simp⟩ rfl e1 rfl) (eop (eop rfl rfl j0) rfl m0) ne1))) (sq par
        (sq (if_no2 (tbo (eop rfl rfl cs)) (sq (ρ' := [.d C.d, .d D1, .d D2, .d (.str SD), .d PA, .d PB, .d D3, .u]) (asg (us (sls := [.d C.d, .d P1, .d D2, .d PB]) (cd1 rfl (cd1 (eop rfl rfl i0) (cd1 rfl (cd1 rfl rfl)))) ⟨rfl, by simp⟩ rfl dr1 rfl) rfl)
          (asg (us (sls := [.d C.d, .d PA, .d D1, .d PS]) (cd1 rfl (cd1 rfl (cd1 rfl (cd1 (eop (us (sls := [.d C.d, .d D2]) rfl ⟨rfl, by simp⟩ rfl pb rfl) rfl lastB) rfl)))) ⟨rfl, by simp⟩ rfl dr2 rfl) rfl)))
          (rt (by rw [← hd]; exact etup (acons (eop rfl rfl z0) (acons (eop (eop rfl rfl z1) (eop rfl rfl v1) ad2) rfl)) (by simp)))))) (by simp) (by simp)
end Pd
end

section
/-! Pd: random paths backwards; likeness of diagrams in rows. -/
namespace Pd
open PySem L2
structure Fine (x : D) : Prop where
  d : x.depth ≤ 5
  f : fit x = true
  l : lk x x = true
theorem like_t2 {x y : D} (hx : Fine x) (hy : Fine y) : m__law_like 8 [.d (.tuple [x, y]), .d (.tuple [x, y])] = .ok (.bool true, [.d (.tuple [x, y]), .d (.tuple [x, y])]) :=
  like_self (by have := hx.d; have := hy.d; simp; omega) (by simp [hx.f, hy.f]) (by simp [lk, lkL, hx.l, hy.l])
theorem like_t3 {x y z : D} (hx : Fine x) (hy : Fine y) (hz : Fine z) : m__law_like 8 [.d (.tuple [x, y, z]), .d (.tuple [x, y, z])] = .ok (.bool true, [.d (.tuple [x, y, z]), .d (.tuple [x, y, z])]) :=
  like_self (by have := hx.d; have := hy.d; have := hz.d; simp; omega) (by simp [hx.f, hy.f, hz.f]) (by simp [lk, lkL, hx.l, hy.l, hz.l])
theorem like_f {x : D} (hx : Fine x) : m__law_like 8 [.d x, .d x] = .ok (.bool true, [.d x, .d x]) := like_self (by have := hx.d; omega) hx.f hx.l
theorem fine_ys {ls : List Lay} (h : ls.length ≤ 1000000) : Fine (ysD ls) := by
  have h1 : PyData.depthAll (ls.map yD) ≤ 1 := depthAll_le fun d hd => by
    obtain ⟨l, _, rfl⟩ := List.mem_map.mp hd
    exact depth_y l
  have h2 : fitL (ls.map yD) = true := fitL_of fun d hd => by
    obtain ⟨l, _, rfl⟩ := List.mem_map.mp hd
    unfold yD
    simp
  have h3 : ∀ l : List Lay, lkL (l.map yD) (l.map yD) = true := fun l => by
    induction l with
    | nil => rfl
    | cons a l ih =>
      rw [List.map_cons, lkL, ih]
      unfold yD
      simp [lk, lkL]
  unfold ysD
  exact ⟨by simp; omega, by simp [h2, h], by rw [lk, h3]⟩
theorem fine_dD (p : Str) {ns : List Str} {ls : List Lay} (h1 : ns.length ≤ 1000000) (h2 : ls.length ≤ 1000000) : Fine (dD p ns ls) := by
  have a1 := dep_pD p ns
  have a2 := fit_pD p h1
  have a3 := lk_pD p ns
  have b := fine_ys h2
  have b1 : (ysD ls).depth ≤ 2 := by
    have h1 : PyData.depthAll (ls.map yD) ≤ 1 := depthAll_le fun d hd => by
      obtain ⟨l, _, rfl⟩ := List.mem_map.mp hd
      exact depth_y l
    unfold ysD
    simp
    omega
  unfold dD
  exact ⟨by simp; omega, by simp [a2, b.f], by simp [lk, lkL, a3, b.l]⟩
theorem Dg.fine {C : Cpd} {p q : Str} {ns r : List Str} {ls : List Lay} (g : Dg C p ns ls q r) : Fine (dD p ns ls) := fine_dD p (by have := g.n4; omega) (by have := g.l2; omega)
theorem Dg.nil {C : Cpd} {p q : Str} {ns : List Str} (hp : p ∈ C.pts) (hs : stop C.ars p ns = some q) (h : ns.length ≤ 400) : Dg C p ns [] q ns := dg_mk2 hp hs rfl (by simp) (by simp [szL]; omega)
theorem back_ok {C : Cpd} (o : Ok C) {a b : Int} (c : CupOk a b) {p : Str} (hp : p ∈ C.pts) {most : Nat} (hm : most ≤ 1000) :
    ∃ (h : Str) (ns : List Str) (a' b' : Int), h ∈ C.pts ∧ stop C.ars h ns = some p ∧ ns.length ≤ most ∧ CupOk a' b' ∧ m__law_back [cup a b, .d (arsD C.ars), .d (.str p), .d (.int (most : Int))] = .ok (pD h ns, [cup a' b', .d (arsD C.ars), .d (.str p), .d (.int (most : Int))]) := by
  have it := iter_ars C.ars
  have hl := o.a2
  have hn : (C.ars.map Arw.d).length ≤ 1000000 := by simp; omega
  have lc : ∀ a b A N h s6 s7, nm s6 = true → nm s7 = true → lcL (setD 8) (tBo (eOp eqD (eOp ixD (eVar 8) (eC (.int 2))) (eVar 5))) (eVar 8) [8] (C.ars.map Arw.d) [cup a b, .d A, .d (.str p), .d (.int (most : Int)), .d N, .d (.str h), s6, s7, .u] = .ok ((C.ars.filter fun x => decide (x.q = h)).map Arw.d, [cup a b, .d A, .d (.str p), .d (.int (most : Int)), .d N, .d (.str h), s6, s7, .u]) := fun a b A N h s6 s7 _ _ =>
    lc_filt (fun (x : Arw) => decide (x.q = h)) fun x _ => by
      by_cases c : x.q = h <;> simp [-eqD_def, str_eq, c]
  rw [m__law_back_eq]
  obtain ⟨d, as', e, h, ns, a', b', rfl, rfl, h0, h1, h2, hc⟩ := fn_rn (nN := 9) (as := [cup a b, .d (arsD C.ars), .d (.str p), .d (.int (most : Int))]) (ρ0 := [cup a b, .d (arsD C.ars), .d (.str p), .d (.int (most : Int)), .u, .u, .u, .u, .u]) (S := S__law_back) (Q := fun d as' => ∃ (h : Str) (ns : List Str) (a' b' : Int), d = pD h ns ∧ as' = [cup a' b', .d (arsD C.ars), .d (.str p), .d (.int (most : Int))] ∧ h ∈ C.pts ∧ stop C.ars h ns = some p ∧ ns.length ≤ most ∧ CupOk a' b') rfl (by
    unfold S__law_back
    generalize hA : arsD C.ars = A at *
    refine rn_nx (ρ' := [cup a b, .d A, .d (.str p), .d (.int (most : Int)), .d (sT []), .d (.str p), .u, .u, .u]) rfl ?_
    obtain ⟨r, a1, b1, hr, c1, e1⟩ := roll_n c (m := most + 1) (by omega) (by omega)
    refine for_rn (ρ1 := [cup a1 b1, .d A, .d (.str p), .d (.int (most : Int)), .d (sT []), .d (.str p), .u, .u, .u]) (xs := List.range r) (fun (k : Nat) => PyData.int (k : Int))
      (fun ys ρ => ∃ (a b : Int) (ns : List Str) (h : Str) (s6 s7 s8 : Sl), CupOk a b ∧ h ∈ C.pts ∧ stop C.ars h ns = some p ∧ ns.length + ys.length ≤ most ∧ nm s6 = true ∧ nm s7 = true ∧ nm s8 = true ∧ ρ = [cup a b, .d A, .d (.str p), .d (.int (most : Int)), .d (sT ns), .d (.str h), s6, s7, s8])
      NoJ (iR1_ok (m := r) (us (sls := [cup a b, .d (.int ((most + 1 : Nat) : Int))]) (args := [.r 0, .d (.int ((most + 1 : Nat) : Int))]) (ρ1 := [cup a b, .d A, .d (.str p), .d (.int (most : Int)), .d (sT []), .d (.str p), .u, .u, .u]) rfl ⟨rfl, by simp⟩ rfl e1 rfl) (by omega)) ⟨a1, b1, [], p, .u, .u, .u, c1, hp, rfl, by simp; omega, rfl, rfl, rfl, rfl⟩ ?_ ?_ (fun _ _ h => h.elim)
    · rintro k ys ρ ⟨a, b, ns, h, s6, s7, s8, c, hh, hs, hlen, h6, h7, h8, rfl⟩
      simp only [List.length_cons] at hlen
      refine ⟨[cup a b, .d A, .d (.str p), .d (.int (most : Int)), .d (sT ns), .d (.str h), .d (.int k), s7, s8], by simp [h6], ?_⟩
      have lc := lc a b A (sT ns) h (.d (.int k)) s7 rfl h7
      have dp := ne_nil (xs := (C.ars.filter fun x => decide (x.q = h)).map Arw.d) (by have := depthAll_arw (C.ars.filter fun x => decide (x.q = h)); omega)
      generalize hRW : (C.ars.filter fun x => decide (x.q = h)).map Arw.d = RW at *
      refine rn_nx (ρ' := [cup a b, .d A, .d (.str p), .d (.int (most : Int)), .d (sT ns), .d (.str h), .d (.int k), .d (.list RW), s8]) (asg (lstLc (xs := C.ars.map Arw.d) (ρ1 := [cup a b, .d A, .d (.str p), .d (.int (most : Int)), .d (sT ns), .d (.str h), .d (.int k), s7, s8]) (by simp [it]) hn (noM_of (s := s8) rfl h8) rfl lc rfl) (setD_eq (by simp [h7]))) ?_
      by_cases hne : RW = []
      · rw [hne] at dp ⊢
        exact go (ρ2 := [cup a b, .d A, .d (.str p), .d (.int (most : Int)), .d (sT ns), .d (.str h), .d (.int k), .d (.list []), s8]) (by simp [-neD_def, dp]) ⟨a, b, ns, h, _, _, _, c, hh, hs, by omega, rfl, rfl, h8, rfl⟩
      · have hlenR : RW.length ≤ 20 := by rw [← hRW]; simp; exact Nat.le_trans (List.length_filter_le _ _) hl
        obtain ⟨d, a2, b2, hd, c2, e2⟩ := some_list c (xs := RW) (List.length_pos_iff.mpr hne) (by omega)
        have hd' := hd
        rw [← hRW] at hd'
        obtain ⟨x, hx, rfl⟩ := List.mem_map.mp hd'
        rw [List.mem_filter] at hx
        obtain ⟨hx1, hx2⟩ := hx
        have hx2 : x.q = h := by simpa using hx2
        have hnx : nxt C.ars x.p x.n = some h := by
          unfold nxt
          rw [rowA_mem o hx1]
          simp [hx2]
        have ad := sT_add [x.n] ns (by simp; omega)
        refine ⟨.nx [cup a2 b2, .d A, .d (.str p), .d (.int (most : Int)), .d (sT (x.n :: ns)), .d (.str x.p), .d (.int k), .d (.list RW), .d x.d], if_yes (ρ' := [cup a b, .d A, .d (.str p), .d (.int (most : Int)), .d (sT ns), .d (.str h), .d (.int k), .d (.list RW), s8]) ?_ (sq (ρ' := [cup a2 b2, .d A, .d (.str p), .d (.int (most : Int)), .d (sT ns), .d (.str h), .d (.int k), .d (.list RW), .d x.d]) (asg (us (sls := [cup a b, .d (.list RW)]) (args := [.r 0, .d (.list RW)]) (ρ1 := [cup a b, .d A, .d (.str p), .d (.int (most : Int)), .d (sT ns), .d (.str h), .d (.int k), .d (.list RW), s8]) rfl ⟨rfl, by simp⟩ rfl e2 rfl) (setD_eq (by simp [h8]))) ?_), .inl ⟨_, rfl, a2, b2, x.n :: ns, x.p, _, _, _, c2, (o.an x hx1).2.1, ?_, by simp; omega, rfl, rfl, rfl, rfl⟩⟩
        · have : (!RW.isEmpty) = true := by simpa using hne
          rw [this] at dp
          simp [-neD_def, dp]
        · have ad2 : addD (.tuple [.str x.n]) (sT ns) = some (sT (x.n :: ns)) := ad
          generalize sT (x.n :: ns) = N2 at *
          generalize sT ns = N at *
          simp [ad2]
        · rw [stop, hnx, Option.bind_some]
          exact hs
    · rintro ρ ⟨a, b, ns, h, s6, s7, s8, c, hh, hs, hlen, h6, h7, h8, rfl⟩
      exact ⟨_, rfl, _, _, rfl, by simp, h, ns, a, b, rfl, by simp, hh, hs, by simpa using hlen, c⟩)
  exact ⟨h, ns, a', b', h0, h1, h2, hc, e⟩
end Pd
end

section
namespace K13
open PySem L2 Pd
/-! ### what _law_told answers -/
theorem told_ok (d : PyData) (f : Addr) (Pp : Hp → Prop) : m__law_told f Pp (.ok d) = .ok d := by
  rw [m__law_told_eq]
  unfold mkTold S__law_told
  have e : ∀ ρ : List Sl, ρ[0]? = some (.x f Pp) → eThk 0 f Pp (.ok d) ρ = .ok (d, ρ) := fun ρ h => by rw [eThk_eq h]; rfl
  simp [setD, e, noMs, sTryE]
abbrev err (w : Str) : PyData := .tuple [.str "error", .str w, .int 0]
abbrev wordsT : PyData := .tuple [.str "computad", .str "path", .str "number", .str "diagram", .str "side", .str "composable", .str "many", .str "value"]
abbrev bitsT (b1 b2 b3 b4 b5 b6 : Bool) : PyData := .list [.bool b1, .bool b2, .bool b3, .bool b4, .bool b5, .bool b6, .bool false, .bool false]
theorem told_gen {X w : Str} {b1 b2 b3 b4 b5 b6 : Bool} (t1 : tabF etbl X "TooMany" = some false ∧ tabF etbl X "PasteError" = some true)
    (u : tabF itbl X "InvalidComputad" = some b1 ∧ tabF itbl X "InvalidPath" = some b2 ∧ tabF itbl X "InvalidNumber" = some b3 ∧ tabF itbl X "InvalidDiagram" = some b4 ∧ tabF itbl X "InvalidSide" = some b5 ∧ tabF itbl X "NotComposable" = some b6 ∧ tabF itbl X "ValueError" = some true)
    (hl : ∀ s0 s2 : Sl, lcL (setD 4) (tOf (eOp ixD (eVar 3) (eVar 4))) (eOp ixD (eVar 1) (eVar 4)) [4] (rgL 0 8) [s0, .d wordsT, s2, .d (bitsT b1 b2 b3 b4 b5 b6), .u] = .ok ([.str w], [s0, .d wordsT, s2, .d (bitsT b1 b2 b3 b4 b5 b6), .u]))
    (j : (w.length + (Str.ofString " ").length ≤ 16777216 ∧ okS w = true) ∧ Txt.join (Str.ofString " ") [w] = w)
    (f : Addr) (Pp : Hp → Prop) : m__law_told f Pp (.ex ⟨X, none⟩) = .ok (err w) := by
  rw [m__law_told_eq]
  unfold mkTold S__law_told
  have e : ∀ ρ : List Sl, ρ[0]? = some (.x f Pp) → eThk 0 f Pp (.ex ⟨X, none⟩) ρ = .ex ⟨X, none⟩ := fun ρ h => by rw [eThk_eq h]; rfl
  obtain ⟨u1, u2, u3, u4, u5, u6, u7⟩ := u
  have z8 : (8 : Nat) ≤ sizeLine := by rw [sizeLine_eq]; decide
  have r8 : (rgL 0 8).length = 8 := rfl
  simp [setD, e, noMs, sTryE, hRun, t1.1, t1.2]
  rw [hdS_eq (r := .ok (.rt (err w) [.x f Pp, .d wordsT, .u, .d (bitsT b1 b2 b3 b4 b5 b6), .u]))]
  · rfl
  · intro a
    have hE : ∀ (y : Str) (b : Bool) (W : Sl) (s3 s4 : Sl), tabF itbl X y = some b → eIsx itbl 2 a ⟨X, none⟩ y [.x f Pp, W, .x a (fun _ => True), s3, s4] = .ok (.bool b, [.x f Pp, W, .x a (fun _ => True), s3, s4]) := fun y b W s3 s4 q => by rw [eIsx_eq (P := fun _ => True) rfl, q]; rfl
    simp [freeAt, setD, hE _ _ _ _ _ u1, hE _ _ _ _ _ u2, hE _ _ _ _ _ u3, hE _ _ _ _ _ u4, hE _ _ _ _ _ u5, hE _ _ _ _ _ u6, hE _ _ _ _ _ u7, z8, addD_l, r8, smallI]
    simp [hl, txts, strsOf, j.2, j.1.1, j.1.2]
theorem lam_ok {F : EF} {ρ ρ' : List Sl} {d : PyData} (h : F (flS ρ) = .ok (d, ρ')) : eLam m__law_told F ρ = .ok (d, ρ) := by
  rw [eLam_eq (r := .ok d) fun f Pp => by
    rw [thk, h]
    exact told_ok d f Pp]
  rfl
theorem lam_ex {F : EF} {ρ : List Sl} {X w : Str} (t : ∀ f Pp, m__law_told f Pp (.ex ⟨X, none⟩) = .ok (err w)) (h : F (flS ρ) = .ex ⟨X, none⟩) : eLam m__law_told F ρ = .ok (err w, ρ) := by
  rw [eLam_eq (r := .ok (err w)) fun f Pp => by
    rw [thk, h]
    exact t f Pp]
  rfl
theorem told_C (f : Addr) (Pp : Hp → Prop) : m__law_told f Pp (.ex ⟨"InvalidComputad", none⟩) = .ok (err "computad") :=
  told_gen (b1 := true) (b2 := false) (b3 := false) (b4 := false) (b5 := false) (b6 := false) (by decide +kernel) (by decide +kernel) (fun _ _ => by rfl) (by decide +kernel) f Pp
theorem told_D (f : Addr) (Pp : Hp → Prop) : m__law_told f Pp (.ex ⟨"InvalidDiagram", none⟩) = .ok (err "diagram") :=
  told_gen (b1 := false) (b2 := false) (b3 := false) (b4 := true) (b5 := false) (b6 := false) (by decide +kernel) (by decide +kernel) (fun _ _ => by rfl) (by decide +kernel) f Pp
theorem told_N (f : Addr) (Pp : Hp → Prop) : m__law_told f Pp (.ex ⟨"InvalidNumber", none⟩) = .ok (err "number") :=
  told_gen (b1 := false) (b2 := false) (b3 := true) (b4 := false) (b5 := false) (b6 := false) (by decide +kernel) (by decide +kernel) (fun _ _ => by rfl) (by decide +kernel) f Pp
theorem told_K (f : Addr) (Pp : Hp → Prop) : m__law_told f Pp (.ex ⟨"NotComposable", none⟩) = .ok (err "composable") :=
  told_gen (b1 := false) (b2 := false) (b3 := false) (b4 := false) (b5 := false) (b6 := true) (by decide +kernel) (by decide +kernel) (fun _ _ => by rfl) (by decide +kernel) f Pp
end K13
end

section
namespace K13
open PySem L2 Pd
/-! ### odd values -/
theorem odd_ok {a b : Int} (c : CupOk a b) : ∃ v a' b', v ∈ OddV ∧ CupOk a' b' ∧ m__law_odd [cup a b] = .ok (v, [cup a' b']) := by
  obtain ⟨v, a', b', hv, c', e⟩ := some_list c (xs := OddV) (by simp [OddV]) (by simp [OddV])
  refine ⟨v, a', b', hv, c', ?_⟩
  rw [m__law_odd_eq]
  unfold S__law_odd
  unfold OddV at e
  refine fn_rt (ρ0 := [cup a b]) (ρ' := [cup a' b']) rfl (rt (us (sls := [cup a b, .d (.list OddV)]) (cr0 rfl (cd1 (ρ1 := [cup a b]) ?_ rfl)) ⟨rfl, by simp⟩ rfl e rfl)) (by simp) (by simp)
  simp [OddV]
theorem odd_computad_ok {C : Cpd} (o : Ok C) {a b : Int} (c : CupOk a b) : ∃ v a' b', v ∈ OddC C ∧ CupOk a' b' ∧ m__law_odd_computad [cup a b, .d C.d] = .ok (v, [cup a' b', .d C.d]) := by
  obtain ⟨v, a', b', hv, c', e⟩ := some_list c (xs := OddC C) (by simp [OddC]) (by simp [OddC])
  refine ⟨v, a', b', hv, c', ?_⟩
  rw [m__law_odd_computad_eq]
  unfold S__law_odd_computad
  have p0 : ixD (sT C.pts) (.int 0) = some (.str (C.pts.headD "")) := by
    have := o.p1
    cases q : C.pts with
    | nil => rw [q] at this; simp at this
    | cons p ps => exact sT_ix (j := 0) rfl
  have p1 : slD (sT C.pts) none (some 1) = some (sT (C.pts.take 1)) := sT_take C.pts 1
  have p2 : addD (sT (C.pts.take 1)) (sT C.pts) = some (sT (C.pts.take 1 ++ C.pts)) := sT_add _ _ (by have := o.p2; simp; omega)
  have c1 : addD (clsD C.cls) (.tuple [.tuple [.str "zz", .str (C.pts.headD ""), .tuple [], .tuple [.str "none"]]]) = some (clsD (C.cls ++ [zz C])) := by
    have := o.c2
    unfold clsD
    rw [addD_t, if_pos (by rw [sizeLine_eq]; simp; omega)]
    simp [zz, Cel.d, sT]
  have l1 : listOf [clsD C.cls] = some (.list (C.cls.map Cel.d)) := rfl
  have l0 : listOf [C.d] = some (.list [sT C.pts, arsD C.ars, clsD C.cls]) := rfl
  have s2 : slD C.d none (some 2) = some (.tuple [sT C.pts, arsD C.ars]) := rfl
  have a3 : addD C.d (.tuple [.tuple []]) = some (.tuple [sT C.pts, arsD C.ars, clsD C.cls, .tuple []]) := by
    unfold Cpd.d
    rw [addD_t, if_pos (by rw [sizeLine_eq]; simp)]
    rfl
  have un : gTupD 3 (gsCons (setD 2) (gsCons (setD 3) (gsCons (setD 4) (gsNil)))) C.d [cup a b, .d C.d, .u, .u, .u, .u] = some [cup a b, .d C.d, .d (sT C.pts), .d (arsD C.ars), .d (clsD C.cls), .u] := rfl
  have e8 : ∀ x y : List PyData, x.length + y.length ≤ 100 → addD (.list x) (.list y) = some (.list (x ++ y)) := fun x y h => by
    rw [addD_l, if_pos (by rw [sizeLine_eq]; omega)]
  unfold OddC at e
  generalize clsD (C.cls ++ [zz C]) = Z at *
  generalize sT (C.pts.take 1 ++ C.pts) = PP at *
  generalize sT (C.pts.take 1) = P1 at *
  generalize C.pts.headD "" = hd at *
  generalize C.cls.map Cel.d = CL at *
  generalize sT C.pts = P at *
  generalize arsD C.ars = A at *
  generalize clsD C.cls = L at *
  generalize C.d = D at *
  refine fn_rt (ρ0 := [cup a b, .d D, .u, .u, .u, .u]) (ρ' := [cup a' b', .d D, .d P, .d A, .d L, _]) rfl (sq (asg rfl un) (sq (asg (ρ' := [cup a b, .d D, .d P, .d A, .d L, .u]) (d := .list [.none, .tuple [], .list [P, A, L], .tuple [P, A], .tuple [P, A, L, .tuple []], .tuple [.tuple [], A, L], .tuple [P, A, .list CL], .tuple [P, A, .none]]) ?_ (setD_eq rfl))
    (sq (asg (ρ' := [cup a b, .d D, .d P, .d A, .d L, .d (.list [.none, .tuple [], .list [P, A, L], .tuple [P, A], .tuple [P, A, L, .tuple []], .tuple [.tuple [], A, L], .tuple [P, A, .list CL], .tuple [P, A, .none]])]) (d := .list [.none, .tuple [], .list [P, A, L], .tuple [P, A], .tuple [P, A, L, .tuple []], .tuple [.tuple [], A, L], .tuple [P, A, .list CL], .tuple [P, A, .none], .tuple [PP, A, L], .tuple [P, A, Z], .tuple [P, L, A, .int 0]]) (eop rfl (y := .list [.tuple [PP, A, L], .tuple [P, A, Z], .tuple [P, L, A, .int 0]]) ?_ (e8 _ _ (by simp))) (setD_eq rfl))
    (rt (us (sls := [cup a b, .d (.list _)]) (cr0 rfl (cd1 rfl rfl)) ⟨rfl, by simp⟩ rfl e rfl))))) (by simp) (by simp)
  · simp [-Pd.listOf, l0, l1, s2, a3]
  · simp [p0, p1, p2, c1]
end K13
end

section
namespace K13
open PySem L2 Pd
abbrev xN : Xc := ⟨"InvalidNumber", none⟩
abbrev xK : Xc := ⟨"NotComposable", none⟩
/-! ### whole numbers -/
def wholeB : PyData → Int → Int → Bool
  | .int v, lo, hi => decide (lo ≤ v) && decide (v ≤ hi)
  | _, _, _ => false
theorem whole_of (v : PyData) (lo hi : Int) : m_is_whole [.d v, .d (.int lo), .d (.int hi)] = .ok (.bool (wholeB v lo hi), [.d v, .d (.int lo), .d (.int hi)]) := by
  cases v with
  | int v => exact is_whole_ok v lo hi
  | _ => simp [m_is_whole_eq, S_is_whole, wholeB]
theorem need_whole_ok {v : PyData} {lo hi : Int} (h : wholeB v lo hi = true) : m_need_whole [.d v, .d (.int lo), .d (.int hi)] = .ok (.none, [.d v, .d (.int lo), .d (.int hi)]) := by
  have w := whole_of v lo hi
  rw [h] at w
  rw [m_need_whole_eq]
  unfold S_need_whole
  simp [w]
theorem need_whole_no {v : PyData} {lo hi : Int} (h : wholeB v lo hi = false) : m_need_whole [.d v, .d (.int lo), .d (.int hi)] = .ex xN := by
  have w := whole_of v lo hi
  rw [h] at w
  rw [m_need_whole_eq]
  unfold S_need_whole
  exact fn_ex rfl (if_yes (tno_y (us (sls := [.d v, .d (.int lo), .d (.int hi)]) rfl ⟨rfl, by simp⟩ rfl w rfl)) rfl)
/-! ### diagrams that are cut -/
theorem run_cut {C : Cpd} {p : Str} : ∀ {ls : List Lay} {ns r : List Str}, Pd.run C p ns ls = some r → ∀ k, k ≤ ls.length → ∃ x, (pths C ns ls)[k]? = some x ∧ Pd.run C p ns (ls.take k) = some x ∧ Pd.run C p x (ls.drop k) = some r
  | ls, ns, r, h, 0, _ => ⟨ns, by cases ls <;> simp [pths], by simp [Pd.run], by simpa using h⟩
  | [], ns, r, h, k + 1, hk => by simp at hk
  | l :: ls, ns, r, h, k + 1, hk => by
    obtain ⟨h1, h2⟩ := run_cons h
    obtain ⟨x, e1, e2, e3⟩ := run_cut h2 k (by simpa using hk)
    refine ⟨x, by simpa [pths] using e1, ?_, by simpa using e3⟩
    simp only [List.take_succ_cons, Pd.run, h1, e2, if_true]
theorem szL_cut (C : Cpd) (ls : List Lay) (k : Nat) : szL C (ls.take k) + szL C (ls.drop k) = szL C ls := by
  rw [← szL_app, List.take_append_drop]
theorem Dg_cut {C : Cpd} (o : Ok C) {p q : Str} {ns r : List Str} {ls : List Lay} (g : Dg C p ns ls q r) (k : Nat) (hk : k ≤ ls.length) :
    ∃ x, (pths C ns ls)[k]? = some x ∧ Dg C p ns (ls.take k) q x ∧ Dg C p x (ls.drop k) q r := by
  obtain ⟨x, e1, e2, e3⟩ := run_cut g.r k hk
  have z := szL_cut C ls k
  have hz := g.sz
  have hl := g.l2
  have hx : x.length ≤ ns.length + szL C (ls.take k) := pths_sz e2 x (List.mem_of_getLast? (pths_last e2))
  refine ⟨x, e1, dg_mk2 g.pm g.s e2 (by simp; omega) (by omega), dg_mk2 g.pm (run_ok o g.s e2).1 e3 (by simp; omega) (by omega)⟩
theorem ys_take (ls : List Lay) (k : Nat) : slD (ysD ls) none (some (k : Int)) = some (ysD (ls.take k)) := by
  unfold ysD
  rw [slD_t, cut_map, cut_take]
theorem ys_drop (ls : List Lay) (k : Nat) : slD (ysD ls) (some (k : Int)) none = some (ysD (ls.drop k)) := by
  unfold ysD
  rw [slD_t, cut_map, cut_drop]
theorem ys_len (ls : List Lay) : lenD [ysD ls] = some (.int (ls.length : Int)) := by
  unfold ysD
  simp
theorem pth_ix {C : Cpd} {p : Str} {ns x : List Str} {ls : List Lay} {k : Nat} (h : (pths C ns ls)[k]? = some x) : ixD (.tuple ((pths C ns ls).map (pD p))) (.int (k : Int)) = some (pD p x) := by
  rw [ixD_t, Pd.atI_nat, List.getElem?_map, h]; rfl
theorem split_ok {C : Cpd} (o : Ok C) {p q : Str} {ns r x : List Str} {ls : List Lay} (g : Dg C p ns ls q r) {k : Nat} (hk : k ≤ ls.length) (hx : (pths C ns ls)[k]? = some x) :
    m_split_at [.d C.d, .d (dD p ns ls), .d (.int (k : Int))] = .ok (.tuple [dD p ns (ls.take k), dD p x (ls.drop k)], [.d C.d, .d (dD p ns ls), .d (.int (k : Int))]) := by
  have n1 := need_diagram_ok o g.b
  have pi := paths_in_ok o g.s g.r (by have := g.l2; have := g.n4; omega)
  have ix := pth_ix (p := p) hx
  have n2 := need_whole_ok (v := .int (k : Int)) (lo := 0) (hi := (ls.length : Int)) (by simp [wholeB]; omega)
  have t1 := ys_take ls k
  have t2 := ys_drop ls k
  have ln := ys_len ls
  have un : gTupD 2 (gsCons (setD 3) (gsCons (setD 4) (gsNil))) (dD p ns ls) [.d C.d, .d (dD p ns ls), .d (.int (k : Int)), .u, .u] = some [.d C.d, .d (dD p ns ls), .d (.int (k : Int)), .d (pD p ns), .d (ysD ls)] := rfl
  have d1 : (PyData.tuple [pD p ns, ysD (ls.take k)] : PyData) = dD p ns (ls.take k) := rfl
  have d2 : (PyData.tuple [pD p x, ysD (ls.drop k)] : PyData) = dD p x (ls.drop k) := rfl
  rw [m_split_at_eq]
  unfold S_split_at
  generalize dD p ns (ls.take k) = D1 at *
  generalize dD p x (ls.drop k) = D2 at *
  generalize dD p ns ls = D at *
  generalize ysD (ls.take k) = Y1 at *
  generalize ysD (ls.drop k) = Y2 at *
  generalize ysD ls = Y at *
  generalize pD p ns = P at *
  generalize pD p x = X at *
  generalize (PyData.tuple ((pths C ns ls).map (pD p)) : PyData) = T at *
  subst d1 d2
  exact fn_rt (ρ' := [.d C.d, .d D, .d (.int (k : Int)), .d P, .d Y]) rfl (sq (drp (us (sls := [.d C.d, .d D]) rfl ⟨rfl, by simp⟩ rfl n1 rfl)) (sq (asg rfl un)
    (sq (drp (us (sls := [.d (.int (k : Int)), .d (.int 0), .d (.int (ls.length : Int))]) (cd1 rfl (cd1 rfl (cd1 (ecall (acons rfl rfl) ln) rfl))) ⟨rfl, by simp⟩ rfl n2 rfl))
    (rt (etup (acons (etup (acons rfl (acons (esl rfl rfl rfl t1) rfl)) (by simp)) (acons (etup (acons (eop (us (sls := [.d C.d, .d D]) rfl ⟨rfl, by simp⟩ rfl pi rfl) rfl ix) (acons (esl rfl rfl rfl t2) rfl)) (by simp)) rfl)) (by simp)))))) (by simp) (by simp)
theorem split_N {C : Cpd} (o : Ok C) {p q : Str} {ns r : List Str} {ls : List Lay} (g : Dg C p ns ls q r) {v : PyData} (hv : wholeB v 0 (ls.length : Int) = false) : m_split_at [.d C.d, .d (dD p ns ls), .d v] = .ex xN := by
  have n1 := need_diagram_ok o g.b
  have n2 := need_whole_no hv
  have ln := ys_len ls
  have un : gTupD 2 (gsCons (setD 3) (gsCons (setD 4) (gsNil))) (dD p ns ls) [.d C.d, .d (dD p ns ls), .d v, .u, .u] = some [.d C.d, .d (dD p ns ls), .d v, .d (pD p ns), .d (ysD ls)] := rfl
  rw [m_split_at_eq]
  unfold S_split_at
  generalize dD p ns ls = D at *
  generalize ysD ls = Y at *
  generalize pD p ns = P at *
  exact fn_ex (ρ0 := [.d C.d, .d D, .d v, .u, .u]) rfl (sq (drp (us (sls := [.d C.d, .d D]) rfl ⟨rfl, by simp⟩ rfl n1 rfl)) (sq (asg rfl un)
    (sq_ex (drp_ex (us_ex (sls := [.d v, .d (.int 0), .d (.int (ls.length : Int))]) (cd1 rfl (cd1 rfl (cd1 (ecall (acons rfl rfl) ln) rfl))) ⟨rfl, by simp⟩ rfl n2)))))
/-- what the check of the first diagram raises, split_at and vertical raise -/
theorem split_bad {c v w : PyData} {x : Xc} (h : m_need_diagram [.d c, .d v] = .ex x) : m_split_at [.d c, .d v, .d w] = .ex x := by
  rw [m_split_at_eq]
  unfold S_split_at
  exact fn_ex rfl (sq_ex (drp_ex (us_ex (sls := [.d c, .d v]) rfl ⟨rfl, by simp⟩ rfl h)))
theorem vert_bad {c v w : PyData} {x : Xc} (h : m_need_diagram [.d c, .d v] = .ex x) : m_vertical [.d c, .d v, .d w] = .ex x := by
  rw [m_vertical_eq]
  unfold S_vertical
  exact fn_ex rfl (sq_ex (drp_ex (us_ex (sls := [.d c, .d v]) rfl ⟨rfl, by simp⟩ rfl h)))
theorem vert_bad2 {C : Cpd} (o : Ok C) {p q : Str} {ns r : List Str} {ls : List Lay} (g : Dg C p ns ls q r) {w : PyData} {x : Xc} (h : m_need_diagram [.d C.d, .d w] = .ex x) : m_vertical [.d C.d, .d (dD p ns ls), .d w] = .ex x := by
  have n1 := need_diagram_ok o g.b
  rw [m_vertical_eq]
  unfold S_vertical
  generalize dD p ns ls = D at *
  exact fn_ex rfl (sq (drp (us (sls := [.d C.d, .d D]) rfl ⟨rfl, by simp⟩ rfl n1 rfl)) (sq_ex (drp_ex (us_ex (sls := [.d C.d, .d w]) rfl ⟨rfl, by simp⟩ rfl h))))
theorem pD_eqD (p q : Str) (x y : List Str) : eqD (pD p x) (pD q y) = some (.bool (decide (p = q ∧ x = y))) := by
  have h1 := dep_pD p x
  have h2 := dep_pD q y
  rw [eqD_def, if_pos ⟨by omega, by omega⟩]
  unfold pD
  simp [PyData.eqvAll]
  by_cases h : p = q <;> simp [h]
theorem pD_neD (p q : Str) (x y : List Str) : neD (pD p x) (pD q y) = some (.bool (!decide (p = q ∧ x = y))) := by
  have h1 := dep_pD p x
  have h2 := dep_pD q y
  have : PyData.eqv (pD p x) (pD q y) = decide (p = q ∧ x = y) := by
    unfold pD
    simp [PyData.eqvAll]
    by_cases h : p = q <;> simp [h]
  rw [neD_def, if_pos ⟨by omega, by omega⟩, this]
theorem vert_K {C : Cpd} (o : Ok C) {p q p2 q2 : Str} {ns r ms s : List Str} {a b : List Lay} (g1 : Dg C p ns a q r) (g2 : Dg C p2 ms b q2 s) (h : ¬ (p = p2 ∧ r = ms)) :
    m_vertical [.d C.d, .d (dD p ns a), .d (dD p2 ms b)] = .ex xK := by
  have n1 := need_diagram_ok o g1.b
  have n2 := need_diagram_ok o g2.b
  have pi := paths_in_ok o g1.s g1.r (by have := g1.l2; have := g1.n4; omega)
  have last : ixD (.tuple ((pths C ns a).map (pD p))) (.int (-1)) = some (pD p r) := by
    rw [ixD_t, atI_last _ (by simpa using pths_ne C ns a), List.getLast?_map, pths_last g1.r]; rfl
  have j0 := dD_0 p2 ms b
  have ne := pD_neD p p2 r ms
  rw [decide_eq_false h] at ne
  rw [m_vertical_eq]
  unfold S_vertical
  generalize dD p ns a = D1 at *
  generalize dD p2 ms b = D2 at *
  generalize pD p r = PR at *
  generalize pD p2 ms = PM at *
  generalize (PyData.tuple ((pths C ns a).map (pD p)) : PyData) = T at *
  exact fn_ex rfl (sq (drp (us (sls := [.d C.d, .d D1]) rfl ⟨rfl, by simp⟩ rfl n1 rfl)) (sq (drp (us (sls := [.d C.d, .d D2]) rfl ⟨rfl, by simp⟩ rfl n2 rfl)) (sq_ex (if_yes (tbo (b := true) (eop (eop (us (sls := [.d C.d, .d D1]) rfl ⟨rfl, by simp⟩ rfl pi rfl) rfl last) (eop rfl rfl j0) ne)) rfl))))
end K13
end

section
namespace K13
open PySem L2 Pd
theorem elst {f : AF} {ρ ρ1 : List Sl} {ds : List PyData} (h : f ρ = .ok (ds, ρ1)) (hl : ds.length ≤ 1000) : eLst f ρ = .ok (.list ds, ρ1) := by
  simp only [eLst, h, bind_ok, if_pos hl]
theorem nw {i : Nat} {F : AF} {ρ ρ1 ρ2 : List Sl} {xs : List PyData} (h : F ρ = .ok (xs, ρ1)) (hl : xs.length ≤ 1000) (hi : i < ρ1.length) (e : ρ1.set i (.m xs) = ρ2) : sNew i (nLst F) ρ = .ok (.nx ρ2) := by
  subst e
  simp only [sNew, nLst, h, bind_ok, if_pos hl, if_pos hi]
theorem appx {i : Nat} {f : EF} {ρ ρ2 : List Sl} {xs : List PyData} {d : PyData} (h0 : getM i ρ = some xs) (h : f ρ = .ok (d, ρ)) (hl : xs.length < 1000000) (e : ρ.set i (.m (xs ++ [d])) = ρ2) : sApp i f ρ = .ok (.nx ρ2) := by
  subst e
  exact app h0 h h0 hl
theorem ten (ρ : List Sl) : eUn negD (eOp powD (eC (.int 10)) (eC (.int 30))) ρ = .ok (.int (-(10 ^ 30)), ρ) := by rfl
theorem str_small {k : Nat} (h : k < 70) : strD [.int (k : Int)] = some (.str (txtI (k : Int))) := by
  have := List.all_eq_true.mp fb_ok k (by simpa using h)
  simp only [Bool.and_eq_true, decide_eq_true_eq] at this
  obtain ⟨⟨g1, g2⟩, _⟩ := this
  simp only [strD, if_pos (And.intro g1 g2)]
theorem mul2 (x : PyData) : mulD (.list [x]) (.int 2) = some (.list [x, x]) := by
  show (if (2 : Int) ≤ 10000000 ∧ (-10000000 : Int) ≤ 2 ∧ [x].length * (2 : Int).toNat ≤ sizeLine then some (PyData.list (List.replicate (2 : Int).toNat [x]).flatten) else none) = _
  rw [if_pos ⟨by decide, by decide, by rw [sizeLine_eq]; simp⟩]
  rfl
theorem mul4 (x : PyData) : mulD (.list [x]) (.int 4) = some (.list [x, x, x, x]) := by
  show (if (4 : Int) ≤ 10000000 ∧ (-10000000 : Int) ≤ 4 ∧ [x].length * (4 : Int).toNat ≤ sizeLine then some (PyData.list (List.replicate (4 : Int).toNat [x]).flatten) else none) = _
  rw [if_pos ⟨by decide, by decide, by rw [sizeLine_eq]; simp⟩]
  rfl
theorem nm_flat {s : Sl} (h : nm s = true) : flatSl s = true := by
  cases s with
  | m xs => cases h
  | _ => rfl
theorem fl_d (d : PyData) : flatSl (.d d) = true := rfl
theorem fl_s (d : List Int) : flatSl (.s d) = true := rfl
theorem fl_c (a b : Int) : flatSl (cup a b) = true := rfl
/-- a diagram of a drawn size -/
structure Gd (C : Cpd) (v : PyData) : Prop where
  ex : ∃ p q ns r ls, Dg C p ns ls q r ∧ ns.length ≤ 132 ∧ ls.length ≤ 20 ∧ v = dD p ns ls
theorem like_d {p : Str} {ns : List Str} {ls : List Lay} (h1 : ns.length ≤ 1000000) (h2 : ls.length ≤ 1000000) : m__law_like 8 [.d (dD p ns ls), .d (dD p ns ls)] = .ok (.bool true, [.d (dD p ns ls), .d (dD p ns ls)]) :=
  like_f (fine_dD p h1 h2)
theorem like_err {w : Str} : m__law_like 8 [.d (err w), .d (err w)] = .ok (.bool true, [.d (err w), .d (err w)]) := like_self (by simp) (by simp) (by simp [lk, lkL])
/-- one pair of diagrams -/
theorem pair_ok {C : Cpd} (o : Ok C) {v w : PyData} (G1 : Gd C v) (G2 : Gd C w) {s0 s1 s3 s4 s5 s6 s7 s8 s9 s10 s11 s12 s15 s16 s17 s18 s19 : Sl} (h15 : nm s15 = true) :
    ∃ d, sSeq (sAsg (eIf (tBo (eOp eqD (eOp ixD (eUser 2 (m__law_paths) (cD (eVar 2) (cD (eVar 13) (cNil)))) (eUn negD (eC (.int 1)))) (eOp ixD (eVar 14) (eC (.int 0))))) (eTup (aCons (eOp ixD (eVar 13) (eC (.int 0))) (aCons (eOp addD (eOp ixD (eVar 13) (eC (.int 1))) (eOp ixD (eVar 14) (eC (.int 1)))) (aNil)))) (eTup (aCons (eC (.str "error")) (aCons (eC (.str "composable")) (aCons (eC (.int 0)) (aNil)))))) (setD 15)) (sIf (tNo (tOf (eUser 2 (m__law_like 8) (cD (eLam m__law_told (eUser 3 (m_vertical) (cD (eVar 2) (cD (eVar 13) (cD (eVar 14) (cNil)))))) (cD (eVar 15) (cNil)))))) (sRet (eC (.bool false))) (sNx))
      [s0, s1, .d C.d, s3, s4, s5, s6, s7, s8, s9, s10, s11, s12, .d v, .d w, s15, s16, s17, s18, s19] = .ok (.nx [s0, s1, .d C.d, s3, s4, s5, s6, s7, s8, s9, s10, s11, s12, .d v, .d w, .d d, s16, s17, s18, s19]) := by
  obtain ⟨p, q, ns, r, a, g1, h1, h2, rfl⟩ := G1.ex
  obtain ⟨p2, q2, ms, s, b, g2, h3, h4, rfl⟩ := G2.ex
  have hl1 : ns.length + 6 * a.length ≤ 100000 := by omega
  have lp := law_paths_ok o g1.s g1.r hl1
  have last : ixD (.list ((pths C ns a).map (pD p))) (.int (-1)) = some (pD p r) := by
    rw [ixD_l, atI_last _ (by simpa using pths_ne C ns a), List.getLast?_map, pths_last g1.r]; rfl
  have j0 := dD_0 p2 ms b
  have j1 := dD_1 p2 ms b
  have k0 := dD_0 p ns a
  have k1 := dD_1 p ns a
  have eq := pD_eqD p p2 r ms
  have ad := ys_add a b (by omega)
  have z1 := szL_le o a
  have z2 := szL_le o b
  have hd : (PyData.tuple [pD p ns, ysD (a ++ b)] : PyData) = dD p ns (a ++ b) := rfl
  by_cases c : p = p2 ∧ r = ms
  · obtain ⟨rfl, rfl⟩ := c
    have hq : q2 = q := by
      have := (run_ok o g1.s g1.r).1
      rw [g2.s] at this
      exact Option.some.inj this
    subst hq
    have vo := vertical_ok o g1 g2 (by omega) (by omega)
    have lk := like_d (p := p) (ns := ns) (ls := a ++ b) (by omega) (by simp; omega)
    rw [decide_eq_true ⟨rfl, rfl⟩] at eq
    refine ⟨dD p ns (a ++ b), ?_⟩
    generalize dD p ns (a ++ b) = DD at *
    generalize ysD (a ++ b) = YY at *
    generalize dD p ns a = D1 at *
    generalize dD p r b = D2 at *
    generalize ysD a = Y1 at *
    generalize ysD b = Y2 at *
    generalize (PyData.list ((pths C ns a).map (pD p)) : PyData) = T at *
    generalize pD p ns = PN at *
    generalize pD p r = PR at *
    subst hd
    exact sq (asg (eif_t (tbo (eop (eop (us (sls := [.d C.d, .d D1]) rfl ⟨rfl, by simp⟩ rfl lp rfl) rfl last) (eop rfl rfl j0) eq)) (etup (acons (eop rfl rfl k0) (acons (eop (eop rfl rfl k1) (eop rfl rfl j1) ad) rfl)) (by simp))) (setD_eq h15))
      (if_no (tno_of (b := true) (us (sls := [.d _, .d _]) (cd1 (lam_ok (us (sls := [.d C.d, .d D1, .d D2]) rfl ⟨rfl, by simp⟩ rfl vo rfl)) (cd1 rfl rfl)) ⟨rfl, by simp⟩ rfl lk rfl)))
  · have vo := vert_K o g1 g2 c
    rw [decide_eq_false c] at eq
    refine ⟨err "composable", ?_⟩
    have lk := like_err (w := "composable")
    generalize dD p ns a = D1 at *
    generalize dD p2 ms b = D2 at *
    generalize (PyData.list ((pths C ns a).map (pD p)) : PyData) = T at *
    generalize pD p r = PR at *
    generalize pD p2 ms = PM at *
    exact sq (asg (d := err "composable") (eif_f (tbo (eop (eop (us (sls := [.d C.d, .d D1]) rfl ⟨rfl, by simp⟩ rfl lp rfl) rfl last) (eop rfl rfl j0) eq)) rfl) (setD_eq h15))
      (if_no (tno_of (b := true) (us (sls := [.d (err "composable"), .d (err "composable")]) (cd1 (lam_ex told_K (us_ex (sls := [.d C.d, .d D1, .d D2]) rfl ⟨rfl, by simp⟩ rfl vo)) (cd1 rfl rfl)) ⟨rfl, by simp⟩ rfl lk rfl)))
/-- the parts at one number -/
theorem cut_ok {C : Cpd} (o : Ok C) {p q : Str} {pn r : List Str} {ls : List Lay} (g : Dg C p pn ls q r) {k : Nat} (hk : k ≤ ls.length) {s0 s1 s8 s9 s10 s11 s12 s13 s14 s15 s16 s17 s18 s19 : Sl} (h8 : nm s8 = true) :
    ∃ d, sSeq (sAsg (eTup (aCons (eTup (aCons (eVar 4) (aCons (eSl (eVar 5) (oNo) (oSome (eVar 7))) (aNil)))) (aCons (eTup (aCons (eOp ixD (eVar 6) (eVar 7)) (aCons (eSl (eVar 5) (oSome (eVar 7)) (oNo)) (aNil)))) (aNil)))) (setD 8)) (sIf (tOr' (tNo (tOf (eUser 2 (m__law_like 8) (cD (eUser 3 (m_split_at) (cD (eVar 2) (cD (eVar 3) (cD (eVar 7) (cNil))))) (cD (eVar 8) (cNil)))))) (tNo (tOf (eUser 2 (m__law_like 8) (cD (eUser 3 (m_vertical) (cD (eVar 2) (cD (eOp ixD (eVar 8) (eC (.int 0))) (cD (eOp ixD (eVar 8) (eC (.int 1))) (cNil))))) (cD (eVar 3) (cNil))))))) (sRet (eC (.bool false))) (sNx))
      [s0, s1, .d C.d, .d (dD p pn ls), .d (pD p pn), .d (ysD ls), .d (.list ((pths C pn ls).map (pD p))), .d (.int (k : Int)), s8, s9, s10, s11, s12, s13, s14, s15, s16, s17, s18, s19]
      = .ok (.nx [s0, s1, .d C.d, .d (dD p pn ls), .d (pD p pn), .d (ysD ls), .d (.list ((pths C pn ls).map (pD p))), .d (.int (k : Int)), .d d, s9, s10, s11, s12, s13, s14, s15, s16, s17, s18, s19]) := by
  obtain ⟨x, hx, g1, g2⟩ := Dg_cut o g k hk
  have so := split_ok o g hk hx
  have z := szL_cut C ls k
  have hz := g.sz
  have hl := g.l2
  have hn := g.n4
  have vo := vertical_ok o g1 g2 (by simp; omega) (by omega)
  rw [List.take_append_drop] at vo
  have hxl : x.length ≤ 400 := g2.n4
  have lk1 : m__law_like 8 [.d (.tuple [dD p pn (ls.take k), dD p x (ls.drop k)]), .d (.tuple [dD p pn (ls.take k), dD p x (ls.drop k)])] = .ok (.bool true, [.d (.tuple [dD p pn (ls.take k), dD p x (ls.drop k)]), .d (.tuple [dD p pn (ls.take k), dD p x (ls.drop k)])]) :=
    like_t2 g1.fine g2.fine
  have lk2 := like_d (p := p) (ns := pn) (ls := ls) (by omega) (by omega)
  have t1 := ys_take ls k
  have t2 := ys_drop ls k
  have ix : ixD (.list ((pths C pn ls).map (pD p))) (.int (k : Int)) = some (pD p x) := by
    rw [ixD_l, Pd.atI_nat, List.getElem?_map, hx]; rfl
  have d1 : (PyData.tuple [pD p pn, ysD (ls.take k)] : PyData) = dD p pn (ls.take k) := rfl
  have d2 : (PyData.tuple [pD p x, ysD (ls.drop k)] : PyData) = dD p x (ls.drop k) := rfl
  generalize dD p pn (ls.take k) = D1 at *
  generalize dD p x (ls.drop k) = D2 at *
  refine ⟨.tuple [D1, D2], ?_⟩
  generalize dD p pn ls = D at *
  generalize ysD (ls.take k) = Y1 at *
  generalize ysD (ls.drop k) = Y2 at *
  generalize ysD ls = Y at *
  generalize pD p pn = P at *
  generalize pD p x = X at *
  generalize (PyData.list ((pths C pn ls).map (pD p)) : PyData) = T at *
  subst d1 d2
  exact sq (asg (etup (acons (etup (acons rfl (acons (esl rfl rfl rfl t1) rfl)) (by simp)) (acons (etup (acons (eop rfl rfl ix) (acons (esl rfl rfl rfl t2) rfl)) (by simp)) rfl)) (by simp)) (setD_eq h8))
    (if_no (tor_f (tno_of (b := true) (us (sls := [.d (.tuple [_, _]), .d (.tuple [_, _])]) (cd1 (us (sls := [.d C.d, .d D, .d (.int (k : Int))]) rfl ⟨rfl, by simp⟩ rfl so rfl) (cd1 rfl rfl)) ⟨rfl, by simp⟩ rfl lk1 rfl))
      (tno_of (b := true) (us (sls := [.d D, .d D]) (cd1 (us (sls := [.d C.d, .d _, .d _]) rfl ⟨rfl, by simp⟩ rfl vo rfl) (cd1 rfl rfl)) ⟨rfl, by simp⟩ rfl lk2 rfl))))

theorem gd_of {C : Cpd} {p q : Str} {ns r : List Str} {ls : List Lay} (g : Dg C p ns ls q r) (h1 : ns.length ≤ 132) (h2 : ls.length ≤ 20) : Gd C (dD p ns ls) := ⟨⟨p, q, ns, r, ls, g, h1, h2, rfl⟩⟩
theorem main (ns : List Int) (hl : ns.length ≤ 63) (hb : ∀ z ∈ ns, PySem.Builtin.Int.intBits z ≤ 1048576) : ∃ ρ, K13.m_law [.s ns] = .ok (.bool true, ρ) := by
  obtain ⟨a, b, c0, ec⟩ := cup_ok ns hl hb
  refine law_main ?_
  unfold S_law
  refine rn_nx (ρ' := [.s ns, cup a b, .u, .u, .u, .u, .u, .u, .u, .u, .u, .u, .u, .u, .u, .u, .u, .u, .u, .u]) (by generalize m__law_cup = LC at *; simp [ec]) ?_
  obtain ⟨C, p, q, pn, r, ls, a1, b1, o, g, hpn, hls, c1, e1⟩ := case_ok2 c0
  refine rn_nx (ρ' := [.s ns, cup a1 b1, .d C.d, .d (dD p pn ls), .u, .u, .u, .u, .u, .u, .u, .u, .u, .u, .u, .u, .u, .u, .u, .u]) (asg (us (sls := [cup a b]) rfl ⟨rfl, by simp⟩ rfl e1 rfl) rfl) ?_
  refine rn_nx (ρ' := [.s ns, cup a1 b1, .d C.d, .d (dD p pn ls), .d (pD p pn), .d (ysD ls), .u, .u, .u, .u, .u, .u, .u, .u, .u, .u, .u, .u, .u, .u]) (asg rfl rfl) ?_
  have lp := law_paths_ok o g.s g.r (by omega)
  refine rn_nx (ρ' := [.s ns, cup a1 b1, .d C.d, .d (dD p pn ls), .d (pD p pn), .d (ysD ls), .d (.list ((pths C pn ls).map (pD p))), .u, .u, .u, .u, .u, .u, .u, .u, .u, .u, .u, .u, .u]) (asg (us (sls := [.d C.d, .d (dD p pn ls)]) rfl ⟨rfl, by simp⟩ rfl lp rfl) rfl) ?_
  have ln := ys_len ls
  refine for_rn (ρ1 := [.s ns, cup a1 b1, .d C.d, .d (dD p pn ls), .d (pD p pn), .d (ysD ls), .d (.list ((pths C pn ls).map (pD p))), .u, .u, .u, .u, .u, .u, .u, .u, .u, .u, .u, .u, .u]) (xs := List.range (ls.length + 1)) (fun (k : Nat) => PyData.int (k : Int))
    (fun ys ρ => ∃ s7 s8 : Sl, (∀ k ∈ ys, k ≤ ls.length) ∧ nm s7 = true ∧ nm s8 = true ∧ ρ = [.s ns, cup a1 b1, .d C.d, .d (dD p pn ls), .d (pD p pn), .d (ysD ls), .d (.list ((pths C pn ls).map (pD p))), s7, s8, .u, .u, .u, .u, .u, .u, .u, .u, .u, .u, .u])
    NoJ (iR1_ok (m := ls.length + 1) (eop (ecall (acons rfl rfl) ln) rfl rfl) (by omega)) ⟨.u, .u, fun k hk => by simp at hk; omega, rfl, rfl, rfl⟩ ?_ ?_ (fun _ _ h => h.elim)
  · rintro k ys ρ ⟨s7, s8, hk, h7, h8, rfl⟩
    obtain ⟨d, hd⟩ := cut_ok o g (hk k (List.mem_cons_self ..)) (s0 := .s ns) (s1 := cup a1 b1) (s8 := s8) (s9 := .u) (s10 := .u) (s11 := .u) (s12 := .u) (s13 := .u) (s14 := .u) (s15 := .u) (s16 := .u) (s17 := .u) (s18 := .u) (s19 := .u) h8
    exact ⟨_, setD_eq (by simp [h7]), go hd ⟨_, _, fun j hj => hk j (List.mem_cons_of_mem _ hj), rfl, rfl, rfl⟩⟩
  rintro ρ ⟨s7, s8, -, h7, h8, rfl⟩
  -- the continuation
  have hrs := run_ok o g.s g.r
  obtain ⟨n, a2, b2, hn, c2, e2⟩ := some_nat c1 [1, 3, 8] (by simp) (by simp)
  have hn8 : n ≤ 8 := by
    simp at hn
    omega
  obtain ⟨l2, r2, a3, b3, hr2, hl2, c3, e3⟩ := continued_ok o hrs.1 (many := n) (by omega) c2
  have g2 : Dg C p r l2 q r2 := dg_mk o g.pm hrs.1 hr2 (by omega) (by omega)
  have last : ixD (.list ((pths C pn ls).map (pD p))) (.int (-1)) = some (pD p r) := by
    rw [ixD_l, atI_last _ (by simpa using pths_ne C pn ls), List.getLast?_map, pths_last g.r]; rfl
  have z1 := szL_le o ls
  have z2 := szL_le o l2
  have vo := vertical_ok o g g2 (by omega) (by omega)
  have ad := ys_add ls l2 (by omega)
  have lkv := like_d (p := p) (ns := pn) (ls := ls ++ l2) (by omega) (by simp; omega)
  have i1 := dD_1 p r l2
  have G1 : Gd C (dD p pn ls) := gd_of g (by omega) (by omega)
  have G2 : Gd C (dD p r l2) := gd_of g2 (by omega) (by omega)
  have id3 : (PyData.tuple [pD p pn, ysD (ls ++ l2)] : PyData) = dD p pn (ls ++ l2) := rfl
  have id2 : (PyData.tuple [pD p r, ysD l2] : PyData) = dD p r l2 := rfl
  -- a point alone
  obtain ⟨x, a4, b4, hx, c4, e4⟩ := some_pts c3 (xs := C.pts) (by have := o.p1; omega) (by have := o.p2; omega)
  have hsx : stop C.ars x [] = some x := rfl
  obtain ⟨p5, q5, n5, r5, l5, a5, b5, g5, w5, v5, c5, e5⟩ := diagram_draw o (most := 4) (many := 4) (by omega) (by omega) c4
  obtain ⟨l6, r6, a6, b6, hr6, hl6, c6, e6⟩ := continued_ok o hsx (many := 3) (by simp) c5
  have g6 : Dg C x [] l6 x r6 := dg_mk o hx hsx hr6 (by omega) (by simp; omega)
  have g7 : Dg C x [] [] x [] := dg_mk o hx hsx rfl (by simp) (by simp)
  have g8 : Dg C p [] [] p [] := dg_mk o g.pm rfl rfl (by simp) (by simp)
  have G5 : Gd C (dD p5 n5 l5) := gd_of g5 (by omega) (by omega)
  have G6 : Gd C (dD x [] l6) := gd_of g6 (by simp) (by omega)
  have G7 : Gd C (dD x [] []) := gd_of g7 (by simp) (by simp)
  have G8 : Gd C (dD p [] []) := gd_of g8 (by simp) (by simp)
  have id6 : (PyData.tuple [pD x [], ysD l6] : PyData) = dD x [] l6 := rfl
  have id7 : (PyData.tuple [pD x [], .tuple []] : PyData) = dD x [] [] := rfl
  have sl8 : slD (pD p r) none (some 1) = some (.tuple [.str p]) := rfl
  have ad8 : addD (.tuple [.str p]) (.tuple [.tuple []]) = some (pD p []) := by
    rw [addD_t, if_pos (by rw [sizeLine_eq]; simp)]
    rfl
  have id8 : (PyData.tuple [pD p [], .tuple []] : PyData) = dD p [] [] := rfl
  have idx : (PyData.tuple [.str x, .tuple []] : PyData) = pD x [] := rfl
  generalize hDv : dD p pn (ls ++ l2) = Dv at *
  generalize ysD (ls ++ l2) = Yv at *
  have sN : ∀ v : PyData, v ∈ [PyData.int (-1), .int ((ls.length : Int) + 1), .int ((ls.length : Int) + 400), .none, .bool true, .bool false, .str (txtI (ls.length : Int)), .tuple [.int 0], .int (-(10 ^ 30))] → wholeB v 0 (ls.length : Int) = false := by
    intro v hv
    simp only [List.mem_cons, List.not_mem_nil, or_false] at hv
    have hh : ∀ j : Int, (j < 0 ∨ (ls.length : Int) < j) → wholeB (.int j) 0 (ls.length : Int) = false := fun j hj => by
      simp only [wholeB, Bool.and_eq_false_iff, decide_eq_false_iff_not]
      omega
    rcases hv with rfl | rfl | rfl | rfl | rfl | rfl | rfl | rfl | rfl
    · exact hh _ (.inl (by omega))
    · exact hh _ (.inr (by omega))
    · exact hh _ (.inr (by omega))
    · rfl
    · rfl
    · rfl
    · rfl
    · rfl
    · exact hh _ (.inl (by decide))
  have nb : ∀ v : PyData, wholeB v 0 (ls.length : Int) = false → m_split_at [.d C.d, .d (dD p pn ls), .d v] = .ex xN := fun v hv => split_N o g hv
  have txt : strD [.int (ls.length : Int)] = some (.str (txtI (ls.length : Int))) := str_small (by omega)
  have bad1 : ∀ v : PyData, v ∈ OddV → m_need_diagram [.d C.d, .d v] = .ex xD := fun v hv => need_diagram_no o (diagram_in_odd C.d (odd_two hv))
  have bad2 : ∀ v : PyData, v ∈ OddV → m_vertical [.d C.d, .d (dD p pn ls), .d v] = .ex xD := fun v hv => vert_bad2 o g (bad1 v hv)
  have bad3 : ∀ v : PyData, v ∈ OddV → m_vertical [.d C.d, .d (dD p r l2), .d v] = .ex xD := fun v hv => vert_bad2 o g2 (bad1 v hv)
  have h0 : ixD C.d (.int 0) = some (sT C.pts) := Cpd.i0 C
  generalize ysD ls = Y at *
  generalize ysD l2 = Y2 at *
  generalize ysD l6 = Y6 at *
  generalize hD1 : dD p pn ls = D1 at *
  generalize hD2 : dD p r l2 = D2 at *
  generalize dD p5 n5 l5 = D5 at *
  generalize dD x [] l6 = D6 at *
  generalize dD x [] [] = D7 at *
  generalize dD p [] [] = D8 at *
  generalize pD p [] = P8 at *
  generalize pD x [] = PX at *
  generalize pD p pn = P at *
  generalize pD p r = PR at *
  generalize (PyData.list ((pths C pn ls).map (pD p)) : PyData) = T at *
  generalize sT C.pts = PT at *
  refine rn_nx (ρ' := [.s ns, cup a3 b3, .d C.d, .d D1, .d P, .d Y, .d T, s7, s8, .d D2, .u, .u, .u, .u, .u, .u, .u, .u, .u, .u]) (asg (d := D2) (by
    rw [← id2]
    exact etup (acons (eop rfl rfl last) (acons (us (sls := [cup a2 b2, .d C.d, .d PR, .d (.int (n : Int))]) (args := [.r 1, .d C.d, .d PR, .d (.int (n : Int))]) (ρ1 := [.s ns, cup a2 b2, .d C.d, .d D1, .d P, .d Y, .d T, s7, s8, .u, .u, .u, .u, .u, .u, .u, .u, .u, .u, .u])
      (cr0 rfl (cd1 rfl (cd1 (eop rfl rfl last) (cd1 (us (sls := [cup a1 b1, .d (.list [.int 1, .int 3, .int 8])]) rfl ⟨rfl, by simp⟩ rfl e2 rfl) rfl)))) ⟨rfl, by simp⟩ rfl e3 rfl) rfl)) (by simp)) rfl) ?_
  refine rn_nx (ρ' := [.s ns, cup a3 b3, .d C.d, .d D1, .d P, .d Y, .d T, s7, s8, .d D2, .u, .u, .u, .u, .u, .u, .u, .u, .u, .u]) (if_no (tno_of (b := true) (us (sls := [.d Dv, .d Dv]) (cd1 (us (sls := [.d C.d, .d D1, .d D2]) rfl ⟨rfl, by simp⟩ rfl vo rfl) (cd1 (d := Dv) (by
    rw [← id3]
    exact etup (acons rfl (acons (eop rfl (eop rfl rfl i1) ad) rfl)) (by simp)) rfl)) ⟨rfl, by simp⟩ rfl lkv rfl))) ?_
  refine rn_nx (ρ' := [.s ns, cup a4 b4, .d C.d, .d D1, .d P, .d Y, .d T, s7, s8, .d D2, .d PX, .u, .u, .u, .u, .u, .u, .u, .u, .u]) (asg (d := PX) (by
    rw [← idx]
    exact etup (acons (us (sls := [cup a3 b3, .d PT]) (cr0 rfl (cd1 (eop rfl rfl h0) rfl)) ⟨rfl, by simp⟩ rfl e4 rfl) (acons rfl rfl)) (by simp)) rfl) ?_
  have q5 : eUser 4 (m__law_diagram) (cR 1 (cD (eVar 2) (cD (eC (.int 4)) (cD (eC (.int 4)) (cNil))))) [.s ns, cup a4 b4, .d C.d, .d D1, .d P, .d Y, .d T, s7, s8, .d D2, .d PX, .u, .u, .u, .u, .u, .u, .u, .u, .u] = .ok (D5, [.s ns, cup a5 b5, .d C.d, .d D1, .d P, .d Y, .d T, s7, s8, .d D2, .d PX, .u, .u, .u, .u, .u, .u, .u, .u, .u]) := us (sls := [cup a4 b4, .d C.d, .d (.int 4), .d (.int 4)]) rfl ⟨rfl, by simp⟩ rfl e5 rfl
  have q7 : eTup (aCons (eVar 10) (aCons (eTup (aNil)) (aNil))) [.s ns, cup a5 b5, .d C.d, .d D1, .d P, .d Y, .d T, s7, s8, .d D2, .d PX, .u, .u, .u, .u, .u, .u, .u, .u, .u] = .ok (D7, [.s ns, cup a5 b5, .d C.d, .d D1, .d P, .d Y, .d T, s7, s8, .d D2, .d PX, .u, .u, .u, .u, .u, .u, .u, .u, .u]) := by
    rw [← id7]
    rfl
  have q6 : eTup (aCons (eVar 10) (aCons (eUser 4 (m__law_continued) (cR 1 (cD (eVar 2) (cD (eVar 10) (cD (eC (.int 3)) (cNil)))))) (aNil))) [.s ns, cup a5 b5, .d C.d, .d D1, .d P, .d Y, .d T, s7, s8, .d D2, .d PX, .u, .u, .u, .u, .u, .u, .u, .u, .u] = .ok (D6, [.s ns, cup a6 b6, .d C.d, .d D1, .d P, .d Y, .d T, s7, s8, .d D2, .d PX, .u, .u, .u, .u, .u, .u, .u, .u, .u]) := by
    rw [← id6]
    exact etup (acons rfl (acons (us (sls := [cup a5 b5, .d C.d, .d PX, .d (.int 3)]) rfl ⟨rfl, by simp⟩ rfl e6 rfl) rfl)) (by simp)
  have q8 : eTup (aCons (eOp addD (eSl (eOp ixD (eVar 6) (eUn negD (eC (.int 1)))) (oNo) (oSome (eC (.int 1)))) (eTup (aCons (eTup (aNil)) (aNil)))) (aCons (eTup (aNil)) (aNil))) [.s ns, cup a6 b6, .d C.d, .d D1, .d P, .d Y, .d T, s7, s8, .d D2, .d PX, .u, .u, .u, .u, .u, .u, .u, .u, .u] = .ok (D8, [.s ns, cup a6 b6, .d C.d, .d D1, .d P, .d Y, .d T, s7, s8, .d D2, .d PX, .u, .u, .u, .u, .u, .u, .u, .u, .u]) := by
    rw [← id8]
    exact etup (acons (eop (esl (eop rfl rfl last) rfl rfl sl8) rfl ad8) (acons rfl rfl)) (by simp)
  refine rn_nx (ρ' := [.s ns, cup a6 b6, .d C.d, .d D1, .d P, .d Y, .d T, s7, s8, .d D2, .d PX, .d (.list [D1, D2, D5, D7, D6, D8]), .u, .u, .u, .u, .u, .u, .u, .u]) (asg (ρ' := [.s ns, cup a6 b6, .d C.d, .d D1, .d P, .d Y, .d T, s7, s8, .d D2, .d PX, .u, .u, .u, .u, .u, .u, .u, .u, .u]) (d := .list [D1, D2, D5, D7, D6, D8]) (elst (acons (ρ1 := [.s ns, cup a4 b4, .d C.d, .d D1, .d P, .d Y, .d T, s7, s8, .d D2, .d PX, .u, .u, .u, .u, .u, .u, .u, .u, .u]) rfl (acons (ρ1 := [.s ns, cup a4 b4, .d C.d, .d D1, .d P, .d Y, .d T, s7, s8, .d D2, .d PX, .u, .u, .u, .u, .u, .u, .u, .u, .u]) rfl (acons q5 (acons q7 (acons q6 (acons q8 (ρ2 := [.s ns, cup a6 b6, .d C.d, .d D1, .d P, .d Y, .d T, s7, s8, .d D2, .d PX, .u, .u, .u, .u, .u, .u, .u, .u, .u]) (ds := []) rfl)))))) (by simp)) rfl) ?_
  refine for_rn (ρ1 := [.s ns, cup a6 b6, .d C.d, .d D1, .d P, .d Y, .d T, s7, s8, .d D2, .d PX, .d (.list [D1, D2, D5, D7, D6, D8]), .u, .u, .u, .u, .u, .u, .u, .u]) (xs := List.range 6) (fun (k : Nat) => PyData.int (k : Int))
    (fun ys ρ => ∃ (a b : Int) (s12 s13 s14 s15 : Sl), CupOk a b ∧ nm s12 = true ∧ nm s13 = true ∧ nm s14 = true ∧ nm s15 = true ∧ ρ = [.s ns, cup a b, .d C.d, .d D1, .d P, .d Y, .d T, s7, s8, .d D2, .d PX, .d (.list [D1, D2, D5, D7, D6, D8]), s12, s13, s14, s15, .u, .u, .u, .u])
    NoJ (iR1_ok (m := 6) rfl (by omega)) ⟨a6, b6, .u, .u, .u, .u, c6, rfl, rfl, rfl, rfl, rfl⟩ ?_ ?_ (fun _ _ h => h.elim)
  · rintro k ys ρ ⟨a, b, s12, s13, s14, s15, c, h12, h13, h14, h15, rfl⟩
    have GG : ∀ d ∈ [D1, D2, D5, D7, D6, D8], Gd C d := fun d hd => by
      simp only [List.mem_cons, List.not_mem_nil, or_false] at hd
      rcases hd with rfl | rfl | rfl | rfl | rfl | rfl
      · exact G1
      · exact G2
      · exact G5
      · exact G7
      · exact G6
      · exact G8
    obtain ⟨v, a7, b7, hv, c7, e7⟩ := some_list c (xs := [D1, D2, D5, D7, D6, D8]) (by simp) (by simp)
    obtain ⟨w, a8, b8, hw, c8, e8⟩ := some_list c7 (xs := [D1, D2, D5, D7, D6, D8]) (by simp) (by simp)
    have G1' := GG v hv
    have G2' := GG w hw
    generalize (PyData.list [D1, D2, D5, D7, D6, D8] : PyData) = SM at *
    obtain ⟨d, hd⟩ := pair_ok o G1' G2' (s0 := .s ns) (s1 := cup a8 b8) (s3 := .d D1) (s4 := .d P) (s5 := .d Y) (s6 := .d T) (s7 := s7) (s8 := s8) (s9 := .d D2) (s10 := .d PX) (s11 := .d SM) (s12 := .d (.int (k : Int))) (s15 := s15) (s16 := .u) (s17 := .u) (s18 := .u) (s19 := .u) h15
    refine ⟨_, setD_eq (by simp [h12]), ?_⟩
    refine rn_nx (ρ' := [.s ns, cup a8 b8, .d C.d, .d D1, .d P, .d Y, .d T, s7, s8, .d D2, .d PX, .d SM, .d (.int (k : Int)), .d v, .d w, s15, .u, .u, .u, .u]) (asg (etup (acons (us (sls := [cup a b, .d SM]) rfl ⟨rfl, by simp⟩ rfl e7 rfl) (acons (us (sls := [cup a7 b7, .d SM]) rfl ⟨rfl, by simp⟩ rfl e8 rfl) rfl)) (by simp)) (by simp [h13, h14])) ?_
    exact go hd ⟨a8, b8, _, _, _, _, c8, rfl, rfl, rfl, rfl, rfl⟩
  rintro ρ ⟨a, b, s12, s13, s14, s15, c, h12, h13, h14, h15, rfl⟩
  generalize (PyData.list [D1, D2, D5, D7, D6, D8] : PyData) = SM at *
  obtain ⟨v9, a9, b9, hv9, c9, e9⟩ := some_list c (xs := [PyData.int (-1), .int ((ls.length : Int) + 1), .int ((ls.length : Int) + 400), .none, .bool true, .bool false, .str (txtI (ls.length : Int)), .tuple [.int 0], .int (-(10 ^ 30))]) (by simp) (by simp)
  have nb9 := nb v9 (sN v9 hv9)
  have liE := like_err (w := "number")
  refine rn_nx (ρ' := [.s ns, cup a9 b9, .d C.d, .d D1, .d P, .d Y, .d T, s7, s8, .d D2, .d PX, .d SM, s12, s13, s14, s15, .d v9, .u, .u, .u]) (asg (us (sls := [cup a b, .d (.list [PyData.int (-1), .int ((ls.length : Int) + 1), .int ((ls.length : Int) + 400), .none, .bool true, .bool false, .str (txtI (ls.length : Int)), .tuple [.int 0], .int (-(10 ^ 30))])]) (cr0 rfl (cd1 (elst (acons rfl (acons (eop (ecall (acons rfl rfl) ln) rfl rfl) (acons (eop (ecall (acons rfl rfl) ln) rfl rfl) (acons rfl (acons rfl (acons rfl (acons (ecall (acons (ecall (acons rfl rfl) ln) rfl) txt) (acons rfl (acons (ten _) rfl))))))))) (by simp)) rfl)) ⟨rfl, by simp⟩ rfl e9 rfl) rfl) ?_
  refine rn_nx (ρ' := [.s ns, cup a9 b9, .d C.d, .d D1, .d P, .d Y, .d T, s7, s8, .d D2, .d PX, .d SM, s12, s13, s14, s15, .d v9, .u, .u, .u]) (if_no (tno_of (b := true) (us (sls := [.d (err "number"), .d (err "number")]) (cd1 (lam_ex told_N (us_ex (sls := [.d C.d, .d D1, .d v9]) rfl ⟨rfl, by simp⟩ rfl nb9)) (cd1 rfl rfl)) ⟨rfl, by simp⟩ rfl liE rfl))) ?_
  obtain ⟨bv, a10, b10, hbv, c10, e10⟩ := odd_ok c9
  obtain ⟨od, a11, b11, hod, c11, e11⟩ := odd_computad_ok o c10
  have noC := odd_not o hod
  have nd := need_diagram_noC noC bv
  have t1 := vert_bad (w := bv) nd
  have t2 := split_bad (w := .int (-1)) nd
  have t3 := vert_bad (w := D2) (bad1 bv hbv)
  have t4 := bad2 bv hbv
  have t5 := bad3 bv hbv
  have t6 := split_bad (w := .int (-1)) (bad1 bv hbv)
  refine rn_nx (ρ' := [.s ns, cup a11 b11, .d C.d, .d D1, .d P, .d Y, .d T, s7, s8, .d D2, .d PX, .d SM, s12, s13, s14, s15, .d v9, .d bv, .d od, .u]) (asg (etup (acons (us (sls := [cup a9 b9]) rfl ⟨rfl, by simp⟩ rfl e10 rfl) (acons (us (sls := [cup a10 b10, .d C.d]) rfl ⟨rfl, by simp⟩ rfl e11 rfl) rfl)) (by simp)) rfl) ?_
  refine rn_nx (ρ' := [.s ns, cup a11 b11, .d C.d, .d D1, .d P, .d Y, .d T, s7, s8, .d D2, .d PX, .d SM, s12, s13, s14, s15, .d v9, .d bv, .d od, .m [err "computad"]]) (nw (acons (lam_ex told_C (us_ex (sls := [.d od, .d bv, .d bv]) rfl ⟨rfl, by simp⟩ rfl t1)) rfl) (by simp) (by simp) rfl) ?_
  refine rn_nx (ρ' := [.s ns, cup a11 b11, .d C.d, .d D1, .d P, .d Y, .d T, s7, s8, .d D2, .d PX, .d SM, s12, s13, s14, s15, .d v9, .d bv, .d od, .m [err "computad", err "computad"]]) (appx rfl (lam_ex told_C (us_ex (sls := [.d od, .d bv, .d (.int (-1))]) rfl ⟨rfl, by simp⟩ rfl t2)) (by simp) rfl) ?_
  have du : addD (.list [err "computad", err "computad"]) (.list [err "diagram", err "diagram", err "diagram", err "diagram"]) = some (.list [err "computad", err "computad", err "diagram", err "diagram", err "diagram", err "diagram"]) := by
    rw [addD_l, if_pos (by rw [sizeLine_eq]; simp)]
    rfl
  refine rn_nx (ρ' := [.s ns, cup a11 b11, .d C.d, .d D1, .d P, .d Y, .d T, s7, s8, .d D2, .d PX, .d SM, s12, s13, s14, .d (.list [err "computad", err "computad", err "diagram", err "diagram", err "diagram", err "diagram"]), .d v9, .d bv, .d od, .m [err "computad", err "computad"]]) (asg (eop (eop rfl rfl (mul2 _)) (eop rfl rfl (mul4 _)) du) (setD_eq h15)) ?_
  refine rn_nx (ρ' := [.s ns, cup a11 b11, .d C.d, .d D1, .d P, .d Y, .d T, s7, s8, .d D2, .d PX, .d SM, s12, s13, s14, .d (.list [err "computad", err "computad", err "diagram", err "diagram", err "diagram", err "diagram"]), .d v9, .d bv, .d od, .m [err "computad", err "computad", err "diagram"]]) (appx rfl (lam_ex told_D (us_ex (sls := [.d C.d, .d bv, .d D2]) rfl ⟨rfl, by simp⟩ rfl t3)) (by simp) rfl) ?_
  refine rn_nx (ρ' := [.s ns, cup a11 b11, .d C.d, .d D1, .d P, .d Y, .d T, s7, s8, .d D2, .d PX, .d SM, s12, s13, s14, .d (.list [err "computad", err "computad", err "diagram", err "diagram", err "diagram", err "diagram"]), .d v9, .d bv, .d od, .m [err "computad", err "computad", err "diagram", err "diagram"]]) (appx rfl (lam_ex told_D (us_ex (sls := [.d C.d, .d D1, .d bv]) rfl ⟨rfl, by simp⟩ rfl t4)) (by simp) rfl) ?_
  refine rn_nx (ρ' := [.s ns, cup a11 b11, .d C.d, .d D1, .d P, .d Y, .d T, s7, s8, .d D2, .d PX, .d SM, s12, s13, s14, .d (.list [err "computad", err "computad", err "diagram", err "diagram", err "diagram", err "diagram"]), .d v9, .d bv, .d od, .m [err "computad", err "computad", err "diagram", err "diagram", err "diagram"]]) (appx rfl (lam_ex told_D (us_ex (sls := [.d C.d, .d D2, .d bv]) rfl ⟨rfl, by simp⟩ rfl t5)) (by simp) rfl) ?_
  refine rn_nx (ρ' := [.s ns, cup a11 b11, .d C.d, .d D1, .d P, .d Y, .d T, s7, s8, .d D2, .d PX, .d SM, s12, s13, s14, .d (.list [err "computad", err "computad", err "diagram", err "diagram", err "diagram", err "diagram"]), .d v9, .d bv, .d od, .m [err "computad", err "computad", err "diagram", err "diagram", err "diagram", err "diagram"]]) (appx rfl (lam_ex told_D (us_ex (sls := [.d C.d, .d bv, .d (.int (-1))]) rfl ⟨rfl, by simp⟩ rfl t6)) (by simp) rfl) ?_
  have lkF : m__law_like 8 [.d (.list [err "computad", err "computad", err "diagram", err "diagram", err "diagram", err "diagram"]), .d (.list [err "computad", err "computad", err "diagram", err "diagram", err "diagram", err "diagram"])] = .ok (.bool true, [.d (.list [err "computad", err "computad", err "diagram", err "diagram", err "diagram", err "diagram"]), .d (.list [err "computad", err "computad", err "diagram", err "diagram", err "diagram", err "diagram"])]) := like_self (by simp) (by simp) (by simp [lk, lkL])
  generalize [err "computad", err "computad", err "diagram", err "diagram", err "diagram", err "diagram"] = LE at *
  refine rn_fin (rt (loan (xs := LE) rfl (us (sls := [.d (.list LE), .d (.list LE)]) rfl ⟨rfl, by simp⟩ rfl lkF rfl) ?_ rfl)) ⟨_, rfl, by simp⟩
  simp [-flatSl, fl_d, fl_s, fl_c, nm_flat h7, nm_flat h8, nm_flat h12, nm_flat h13, nm_flat h14]
end K13
end

theorem PySem.Challenge.cw_pastedcells_k13_vertical_pasting_and_spl_holds : PySem.Challenge.rw_pastedcells_k13_vertical_pasting_and_spl.Holds := by
  exact K13.holds_of K13.main
