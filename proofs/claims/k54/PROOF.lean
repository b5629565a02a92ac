import PyProof.Rows.All
import Wide.All
import OpenK.AllK
import Wide.FinOn
import HandS.ForMost
import HandS.ForExc
import HandS.Walk
import HandS.TupAny
import HandS.IsInst
import HandS.StrMore
import HandS.TryMany
import HandS.Flow
import PyProof.Rows.StrPadFill
import PyProof.StrOps2
import KE.GoesEnum
import PySem.Challenge.RW_resumetrue_k54_main_leaves_broken_off
set_option Elab.async false
set_option linter.all false
set_option maxRecDepth 100000
set_option maxHeartbeats 2000000
/-! The data layer: what defs over plain data (PyData) compute, as total functions, and why the text does just that. -/
namespace DL
open PySem PySem.Spec PyProof.Rows L2

abbrev D := PyData
/-- an exception of the program's own: its class's name, what it bears -/
structure Exn where
  name : String
  pay : Option D := none
/-- what an expression comes to: a value, an exception, nothing that is known -/
inductive Out (α : Type) where
  | ok (a : α)
  | ex (c : Exn)
  | no
namespace Out
def bind {α β : Type} : Out α → (α → Out β) → Out β
  | .ok a, f => f a
  | .ex c, _ => .ex c
  | .no, _ => .no
instance : Monad Out where
  pure := .ok
  bind := Out.bind
def opt {α : Type} : Option α → Out α
  | some a => .ok a
  | none => .no
@[simp] theorem ok_bind {α β : Type} {a : α} {f : α → Out β} : (Out.ok a >>= f) = f a := id rfl
@[simp] theorem pure_eq {α : Type} {a : α} : (pure a : Out α) = .ok a := id rfl
@[simp] theorem no_bind {α β : Type} {f : α → Out β} : ((Out.no : Out α) >>= f) = .no := id rfl
@[simp] theorem ex_bind {α β : Type} {c : Exn} {f : α → Out β} : ((Out.ex c : Out α) >>= f) = .ex c := id rfl
@[simp] theorem opt_some {α : Type} {a : α} : opt (some a) = .ok a := id rfl
@[simp] theorem opt_none {α : Type} : opt (none : Option α) = .no := id rfl
end Out
/-- a slot: no value; data that stays; a list of the def's own; a list that is read alone -/
inductive Sl where
  | nil
  | val (d : D)
  | own (ds : List D)
  | raw (ds : List D)

def kD : Key → D
  | .inl i => .int i
  | .inr x => .str x
mutual
inductive Rp (K : PySem.W.Frag) (G : Hp) : V → D → Prop
  | non : Rp K G .non .none
  | bl (b : Bool) : Rp K G (.bl b) (.bool b)
  | int (i : Int) : Rp K G (.int i) (.int i)
  | str (x : Str) : Rp K G (.str x) (.str x)
  | lst {a : Addr} {xs : List V} {ds : List D} : G a = some (.lst xs) → RpAll K G xs ds → Rp K G (.ref a) (.list ds)
  | tup {a : Addr} {xs : List V} {ds : List D} : SqT K G a xs → RpAll K G xs ds → Rp K G (.ref a) (.tuple ds)
  | dct {a : Addr} {kvs : List (Key × V)} {ds : List (D × D)} : G a = some (.dK kvs) → RpKV K G kvs ds → Rp K G (.ref a) (.dict ds)
inductive RpAll (K : PySem.W.Frag) (G : Hp) : List V → List D → Prop
  | nil : RpAll K G [] []
  | cons {v : V} {vs : List V} {d : D} {ds : List D} : Rp K G v d → RpAll K G vs ds → RpAll K G (v :: vs) (d :: ds)
inductive RpKV (K : PySem.W.Frag) (G : Hp) : List (Key × V) → List (D × D) → Prop
  | nil : RpKV K G [] []
  | cons {k : Key} {v : V} {vs : List (Key × V)} {d : D} {ds : List (D × D)} : Rp K G v d → RpKV K G vs ds → RpKV K G ((k, v) :: vs) ((kD k, d) :: ds)
end

def Ex (H H' : Hp) : Prop := ∀ a o, H a = some o → H' a = some o
theorem Ex.refl (H : Hp) : Ex H H := fun _ _ h => h
theorem Ex.trans {H H1 H2 : Hp} (a : Ex H H1) (b : Ex H1 H2) : Ex H H2 := fun x o h => b x o (a x o h)
theorem Ex.new {H : Hp} {p : Addr} {o : HO} (h : H p = none) : Ex H (upd H p o) := fun a u e => by
  rw [upd_ne (ne_of_none e h)]
  exact e
theorem Ex.free {H H' : Hp} {p : Addr} (e : Ex H H') (h : H' p = none) : H p = none := by
  cases q : H p with
  | none => rfl
  | some o => rw [e p o q] at h; cases h
theorem Ex.sqT {K : PySem.W.Frag} {H H' : Hp} {a : Addr} {xs : List V} (e : Ex H H') (h : SqT K H a xs) : SqT K H' a xs := by
  rcases h with (h | ⟨o, h⟩) | h
  · exact .inl (.inl (e _ _ h))
  · exact .inl (.inr ⟨o, e _ _ h⟩)
  · exact .inr h
theorem Ex.sqL {K : PySem.W.Frag} {H H' : Hp} {a : Addr} {xs : List V} (e : Ex H H') (h : SqL K H a xs) : SqL K H' a xs := by
  rcases h with (h | ⟨o, h⟩) | h
  · exact .inl (.inl (e _ _ h))
  · exact .inl (.inr ⟨o, e _ _ h⟩)
  · exact .inr h
section
variable {K : PySem.W.Frag} {G G' : Hp}
mutual
theorem Rp.mono (e : Ex G G') : ∀ {v : V} {d : D}, Rp K G v d → Rp K G' v d
  | _, _, .non => .non
  | _, _, .bl b => .bl b
  | _, _, .int i => .int i
  | _, _, .str x => .str x
  | _, _, .lst h r => .lst (e _ _ h) (RpAll.mono e r)
  | _, _, .tup h r => .tup (e.sqT h) (RpAll.mono e r)
  | _, _, .dct h r => .dct (e _ _ h) (RpKV.mono e r)
theorem RpAll.mono (e : Ex G G') : ∀ {v : List V} {d : List D}, RpAll K G v d → RpAll K G' v d
  | _, _, .nil => .nil
  | _, _, .cons h r => .cons (Rp.mono e h) (RpAll.mono e r)
theorem RpKV.mono (e : Ex G G') : ∀ {v : List (Key × V)} {d : List (D × D)}, RpKV K G v d → RpKV K G' v d
  | _, _, .nil => .nil
  | _, _, .cons h r => .cons (Rp.mono e h) (RpKV.mono e r)
end
theorem RpAll.length : ∀ {v : List V} {d : List D}, RpAll K G v d → v.length = d.length
  | _, _, .nil => rfl
  | _, _, .cons _ r => by rw [List.length_cons, List.length_cons, RpAll.length r]
theorem RpAll.append : ∀ {v w : List V} {d e : List D}, RpAll K G v d → RpAll K G w e → RpAll K G (v ++ w) (d ++ e)
  | _, _, _, _, .nil, q => q
  | _, _, _, _, .cons h r, q => .cons h (RpAll.append r q)
theorem RpAll.get : ∀ {v : List V} {d : List D} {i : Nat} {x : V}, RpAll K G v d → v[i]? = some x → ∃ y, d[i]? = some y ∧ Rp K G x y
  | _, _, i, _, .nil, h => by simp at h
  | _, _, 0, _, .cons h r, e => by simp at e; subst e; exact ⟨_, rfl, h⟩
  | _, _, i + 1, _, .cons h r, e => by simpa using RpAll.get (i := i) r (by simpa using e)
theorem RpAll.get' : ∀ {v : List V} {d : List D} {i : Nat} {y : D}, RpAll K G v d → d[i]? = some y → ∃ x, v[i]? = some x ∧ Rp K G x y
  | _, _, i, _, .nil, h => by simp at h
  | _, _, 0, _, .cons h r, e => by simp at e; subst e; exact ⟨_, rfl, h⟩
  | _, _, i + 1, _, .cons h r, e => by simpa using RpAll.get' (i := i) r (by simpa using e)
theorem RpAll.take : ∀ {v : List V} {d : List D} (n : Nat), RpAll K G v d → RpAll K G (v.take n) (d.take n)
  | _, _, 0, _ => .nil
  | _, _, _ + 1, .nil => .nil
  | _, _, n + 1, .cons r t => .cons r (RpAll.take n t)
theorem RpAll.drop : ∀ {v : List V} {d : List D} (n : Nat), RpAll K G v d → RpAll K G (v.drop n) (d.drop n)
  | _, _, 0, r => r
  | _, _, _ + 1, .nil => .nil
  | _, _, n + 1, .cons _ t => RpAll.drop n t
theorem RpAll.set {x : V} {y : D} (q : Rp K G x y) : ∀ {v : List V} {d : List D} (n : Nat), RpAll K G v d → RpAll K G (v.set n x) (d.set n y)
  | _, _, _, .nil => .nil
  | _, _, 0, .cons _ t => .cons q t
  | _, _, n + 1, .cons r t => .cons r (RpAll.set q n t)
end

/-- from (G, H) to (G', H'): G what stays for good, H all -/
structure Le (G H G' H' : Hp) : Prop where
  g : Ex G G'
  h : Ex H H'
  n : ∀ a o, H a = some o → G a = none → G' a = none
  x : Ex G' H'
theorem Le.refl {G H : Hp} (x : Ex G H) : Le G H G H := ⟨Ex.refl _, Ex.refl _, fun _ _ _ h => h, x⟩
theorem Le.trans {G H G1 H1 G2 H2 : Hp} (a : Le G H G1 H1) (b : Le G1 H1 G2 H2) : Le G H G2 H2 :=
  ⟨a.g.trans b.g, a.h.trans b.h, fun c o h1 h2 => b.n c o (a.h c o h1) (a.n c o h1 h2), b.x⟩
/-- a new object that stays -/
theorem Le.new {G H : Hp} {p : Addr} {o : HO} (x : Ex G H) (h : H p = none) : Le G H (upd G p o) (upd H p o) :=
  ⟨Ex.new (x.free h), Ex.new h, fun a u h1 h2 => by rw [upd_ne (ne_of_none h1 h)]; exact h2, fun a u e => by
    by_cases q : a = p
    · subst q; rw [upd_same] at e ⊢; exact e
    · rw [upd_ne q] at e ⊢; exact x a u e⟩
/-- a new object that may change -/
theorem Le.newM {G H : Hp} {p : Addr} {o : HO} (x : Ex G H) (h : H p = none) : Le G H G (upd H p o) :=
  ⟨Ex.refl _, Ex.new h, fun _ _ _ h => h, x.trans (Ex.new h)⟩

def SlAt (K : PySem.W.Frag) (B G H : Hp) (o : Option V) : Sl → Prop
  | .nil => True
  | .val d => ∃ v, o = some v ∧ Rp K G v d
  | .own ds => ∃ p vs, o = some (.ref p) ∧ B p = none ∧ G p = none ∧ H p = some (.lst vs) ∧ RpAll K G vs ds
  | .raw ds => ∃ a vs, o = some (.ref a) ∧ SqL K G a vs ∧ RpAll K G vs ds
/-- the frame's data: G0, B the entry's; G what stays, H the heap -/
structure Sim (K : PySem.W.Frag) (G0 B G H : Hp) (σd : List Sl) (σ : L2.St) : Prop where
  le : Le G0 B G H
  len : σd.length = σ.length
  sl : ∀ (i : Nat) (s : Sl) (o : Option V), σd[i]? = some s → σ[i]? = some o → SlAt K B G H o s
  ap : ∀ (i j : Nat) (ds es : List D) (p : Addr), i ≠ j → σd[i]? = some (.own ds) → σd[j]? = some (.own es) → σ[i]? = some (some (.ref p)) → σ[j]? ≠ some (some (.ref p))
section
variable {K : PySem.W.Frag} {G0 B G H G1 H1 : Hp} {σd : List Sl} {σ : L2.St}
theorem SlAt.mono {o : Option V} {s : Sl} (h : SlAt K B G H o s) (le : Le G H G1 H1) : SlAt K B G1 H1 o s := by
  cases s with
  | nil => trivial
  | val d => obtain ⟨v, e, r⟩ := h; exact ⟨v, e, r.mono le.g⟩
  | own ds => obtain ⟨p, vs, e, b, g, h, r⟩ := h; exact ⟨p, vs, e, b, le.n _ _ h g, le.h _ _ h, r.mono le.g⟩
  | raw ds => obtain ⟨a, vs, e, q, r⟩ := h; exact ⟨a, vs, e, le.g.sqL q, r.mono le.g⟩
theorem Sim.mono (S : Sim K G0 B G H σd σ) (le : Le G H G1 H1) : Sim K G0 B G1 H1 σd σ :=
  ⟨S.le.trans le, S.len, fun i s o h1 h2 => (S.sl i s o h1 h2).mono le, S.ap⟩
theorem Sim.at_ (S : Sim K G0 B G H σd σ) {i : Nat} {s : Sl} (h : σd[i]? = some s) : ∃ o, σ[i]? = some o ∧ SlAt K B G H o s := by
  have h1 : i < σd.length := (List.getElem?_eq_some_iff.mp h).1
  have h2 : i < σ.length := by rw [← S.len]; exact h1
  refine ⟨σ[i], by simp [h2], S.sl i s _ h (by simp [h2])⟩
/-- a slot is stored: data -/
theorem Sim.set (S : Sim K G0 B G H σd σ) {i : Nat} {v : V} {s : Sl} (h : SlAt K B G H (some v) s) (ns : ∀ ds, s ≠ .own ds) : Sim K G0 B G H (σd.set i s) (σ.set i (some v)) := by
  refine ⟨S.le, by rw [List.length_set, List.length_set]; exact S.len, fun j t o h1 h2 => ?_, fun j k ds es p hjk h1 h2 h3 h4 => ?_⟩
  · by_cases e : i = j
    · subst e
      have l1 : i < σd.length := by have := (List.getElem?_eq_some_iff.mp h1).1; simpa using this
      have l2 : i < σ.length := by rw [← S.len]; exact l1
      rw [List.getElem?_set_self l1] at h1
      rw [List.getElem?_set_self l2] at h2
      cases h1; cases h2
      exact h
    · rw [List.getElem?_set_ne e] at h1 h2
      exact S.sl j t o h1 h2
  · have ne1 : i ≠ j := fun e => by
      subst e
      have l1 : i < σd.length := by have := (List.getElem?_eq_some_iff.mp h1).1; simpa using this
      rw [List.getElem?_set_self l1] at h1
      cases h1
      exact ns _ rfl
    have ne2 : i ≠ k := fun e => by
      subst e
      have l1 : i < σd.length := by have := (List.getElem?_eq_some_iff.mp h2).1; simpa using this
      rw [List.getElem?_set_self l1] at h2
      cases h2
      exact ns _ rfl
    rw [List.getElem?_set_ne ne1] at h1 h3
    rw [List.getElem?_set_ne ne2] at h2 h4
    exact S.ap j k ds es p hjk h1 h2 h3 h4
/-- a slot is stored: a list of its own, at an address that no other slot of this kind has -/
theorem Sim.setOwn (S : Sim K G0 B G H σd σ) {i : Nat} {p : Addr} {vs : List V} {ds : List D} (hb : B p = none) (hg : G p = none) (hh : H p = some (.lst vs)) (r : RpAll K G vs ds)
    (fr : ∀ (j : Nat) (es : List D), j ≠ i → σd[j]? = some (.own es) → σ[j]? ≠ some (some (.ref p))) : Sim K G0 B G H (σd.set i (.own ds)) (σ.set i (some (.ref p))) := by
  refine ⟨S.le, by rw [List.length_set, List.length_set]; exact S.len, fun j t o h1 h2 => ?_, fun j k ds1 es q hjk h1 h2 h3 h4 => ?_⟩
  · by_cases e : i = j
    · subst e
      have l1 : i < σd.length := by have := (List.getElem?_eq_some_iff.mp h1).1; simpa using this
      have l2 : i < σ.length := by rw [← S.len]; exact l1
      rw [List.getElem?_set_self l1] at h1
      rw [List.getElem?_set_self l2] at h2
      cases h1; cases h2
      exact ⟨p, vs, rfl, hb, hg, hh, r⟩
    · rw [List.getElem?_set_ne e] at h1 h2
      exact S.sl j t o h1 h2
  · by_cases e1 : i = j
    · subst e1
      have l1 : i < σd.length := by have := (List.getElem?_eq_some_iff.mp h1).1; simpa using this
      have l2 : i < σ.length := by rw [← S.len]; exact l1
      rw [List.getElem?_set_self l2] at h3
      cases h3
      rw [List.getElem?_set_ne hjk] at h2 h4
      exact fr k es (Ne.symm hjk) h2 h4
    · by_cases e2 : i = k
      · subst e2
        have l1 : i < σd.length := by have := (List.getElem?_eq_some_iff.mp h2).1; simpa using this
        have l2 : i < σ.length := by rw [← S.len]; exact l1
        rw [List.getElem?_set_self l2] at h4
        cases h4
        rw [List.getElem?_set_ne e1] at h1 h3
        exact fr j ds1 hjk h1 h3
      · rw [List.getElem?_set_ne e1] at h1 h3
        rw [List.getElem?_set_ne e2] at h2 h4
        exact S.ap j k ds1 es q hjk h1 h2 h3 h4
/-- the list of an own slot is changed -/
theorem Sim.chg (S : Sim K G0 B G H σd σ) {i : Nat} {p : Addr} {ds0 ds : List D} {vs : List V} (h0 : σd[i]? = some (.own ds0)) (hσ : σ[i]? = some (some (.ref p))) (r : RpAll K G vs ds) :
    Sim K G0 B G (upd H p (.lst vs)) (σd.set i (.own ds)) σ := by
  have l1 : i < σd.length := (List.getElem?_eq_some_iff.mp h0).1
  obtain ⟨p', vs0, e, hb, hg, hh, _⟩ := S.sl i _ _ h0 hσ
  cases e
  have ex : Ex B (upd H p (.lst vs)) := fun a o e => by
    rw [upd_ne (ne_of_none e hb)]
    exact S.le.h a o e
  have exg : Ex G (upd H p (.lst vs)) := fun a o e => by
    rw [upd_ne (ne_of_none e hg)]
    exact S.le.x a o e
  refine ⟨⟨S.le.g, ex, S.le.n, exg⟩, by rw [List.length_set]; exact S.len, fun j t o h1 h2 => ?_, fun j k ds1 es q hjk h1 h2 h3 h4 => ?_⟩
  · by_cases e : i = j
    · subst e
      rw [List.getElem?_set_self l1] at h1
      cases h1
      rw [hσ] at h2
      cases h2
      exact ⟨p, vs, rfl, hb, hg, upd_same, r⟩
    · rw [List.getElem?_set_ne e] at h1
      have q := S.sl j t o h1 h2
      cases t with
      | nil => trivial
      | val d => exact q
      | raw d => exact q
      | own es =>
        obtain ⟨p2, ws, e2, b2, g2, hh2, r2⟩ := q
        have ne : p2 ≠ p := fun z => by
          subst z
          subst e2
          exact S.ap i j _ _ _ e h0 h1 hσ h2
        exact ⟨p2, ws, e2, b2, g2, by rw [upd_ne ne]; exact hh2, r2⟩
  · have hj : ∃ es', σd[j]? = some (.own es') := by
      by_cases e : i = j
      · subst e; exact ⟨_, h0⟩
      · rw [List.getElem?_set_ne e] at h1; exact ⟨_, h1⟩
    have hk : ∃ es', σd[k]? = some (.own es') := by
      by_cases e : i = k
      · subst e; exact ⟨_, h0⟩
      · rw [List.getElem?_set_ne e] at h2; exact ⟨_, h2⟩
    obtain ⟨_, hj⟩ := hj
    obtain ⟨_, hk⟩ := hk
    exact S.ap j k _ _ q hjk hj hk h3 h4
/-- an own list stays from now on -/
theorem Sim.freeze (S : Sim K G0 B G H σd σ) {i : Nat} {ds : List D} (h0 : σd[i]? = some (.own ds)) : ∃ p vs, σ[i]? = some (some (.ref p)) ∧ G p = none ∧ H p = some (.lst vs) ∧ RpAll K G vs ds ∧
    Sim K G0 B (upd G p (.lst vs)) H (σd.set i (.val (.list ds))) σ := by
  have l1 : i < σd.length := (List.getElem?_eq_some_iff.mp h0).1
  obtain ⟨o, ho, p, vs, e, hb, hg, hh, r⟩ := S.at_ h0
  subst e
  have gx : Ex G (upd G p (.lst vs)) := Ex.new hg
  have xx : Ex (upd G p (.lst vs)) H := fun a u e => by
    by_cases q : a = p
    · subst q; rw [upd_same] at e; rw [hh]; exact e
    · rw [upd_ne q] at e; exact S.le.x a u e
  refine ⟨p, vs, ho, hg, hh, r, ⟨S.le.g.trans gx, S.le.h, fun a u h1 h2 => ?_, xx⟩, by rw [List.length_set]; exact S.len, fun j t o h1 h2 => ?_, fun j k ds1 es q hjk h1 h2 h3 h4 => ?_⟩
  · have ne : a ≠ p := ne_of_none h1 hb
    rw [upd_ne ne]
    exact S.le.n a u h1 h2
  · by_cases e : i = j
    · subst e
      rw [List.getElem?_set_self l1] at h1
      cases h1
      rw [ho] at h2
      cases h2
      exact ⟨_, rfl, .lst upd_same (r.mono gx)⟩
    · rw [List.getElem?_set_ne e] at h1
      have q := S.sl j t o h1 h2
      cases t with
      | nil => trivial
      | val d => obtain ⟨v, e1, r1⟩ := q; exact ⟨v, e1, r1.mono gx⟩
      | raw d => obtain ⟨a, ws, e1, q1, r1⟩ := q; exact ⟨a, ws, e1, gx.sqL q1, r1.mono gx⟩
      | own es =>
        obtain ⟨p2, ws, e2, b2, g2, hh2, r2⟩ := q
        have ne : p2 ≠ p := fun z => by
          subst z
          subst e2
          exact S.ap i j _ _ _ e h0 h1 ho h2
        exact ⟨p2, ws, e2, b2, by rw [upd_ne ne]; exact g2, hh2, r2.mono gx⟩
  · have hj : i ≠ j := fun e => by
      subst e
      rw [List.getElem?_set_self l1] at h1
      cases h1
    have hk : i ≠ k := fun e => by
      subst e
      rw [List.getElem?_set_self l1] at h2
      cases h2
    rw [List.getElem?_set_ne hj] at h1
    rw [List.getElem?_set_ne hk] at h2
    exact S.ap j k _ _ q hjk h1 h2 h3 h4
end

/-! ### what must hold behind: by the outcome -/
def WxE (ct : String → Addr) (W : WX) (σ : L2.St) (c : Exn) (H : Hp) : Prop := match c.pay with
  | none => W (.ref (ct c.name)) none σ H
  | some _ => False
def Post {α : Type} (ct : String → Addr) (W : WX) (G H : Hp) (σ : L2.St) (P : α → Hp → Hp → Prop) : Out α → Prop
  | .ok a => ∀ G' H', Le G H G' H' → P a G' H'
  | .ex c => ∀ G' H', Le G H G' H' → WxE ct W σ c H'
  | .no => False
section
variable {α β : Type} {ct : String → Addr} {W : WX} {G H G1 H1 : Hp} {σ : L2.St} {P R : α → Hp → Hp → Prop} {m : Out α}
theorem Post.mono (h : Post ct W G H σ P m) (le : Le G H G1 H1) : Post ct W G1 H1 σ P m := by
  cases m with
  | ok a => exact fun G' H' l => h G' H' (le.trans l)
  | ex c => exact fun G' H' l => h G' H' (le.trans l)
  | no => exact h
theorem Post.bind {P : β → Hp → Hp → Prop} {k : α → Out β} (h : Post ct W G H σ P (m >>= k)) (hk : ∀ a G1 H1, m = .ok a → Le G H G1 H1 → Post ct W G1 H1 σ P (k a) → R a G1 H1) : Post ct W G H σ R m := by
  cases m with
  | ok a =>
    intro G' H' le
    exact hk a G' H' rfl le (Post.mono (m := k a) h le)
  | ex c => exact h
  | no => exact h
theorem Post.imp (h : Post ct W G H σ P m) (hk : ∀ a G1 H1, m = .ok a → Le G H G1 H1 → P a G1 H1 → R a G1 H1) : Post ct W G H σ R m := by
  cases m with
  | ok a => exact fun G' H' le => hk a G' H' rfl le (h G' H' le)
  | ex c => exact h
  | no => exact h
theorem Post.opt {o : Option α} (x : Ex G H) (h : Post ct W G H σ P (Out.opt o)) : ∃ a, o = some a ∧ ∀ G' H', Le G H G' H' → P a G' H' := by
  cases o with
  | none => exact h.elim
  | some a => exact ⟨a, rfl, h⟩
theorem Post.no_ex (h : Post ct (fun _ _ _ _ => False) G H σ P m) (x : Ex G H) : ∃ a, m = .ok a := by
  cases m with
  | ok a => exact ⟨a, rfl⟩
  | ex c =>
    have z := h G H (Le.refl x)
    unfold WxE at z
    split at z <;> exact z.elim
  | no => exact h.elim
end

/-! ### the readings -/
abbrev DS := List Sl
def teD (K : PySem.W.Frag) (ct : String → Addr) (W : WX) (f : DS → Out D) : TE := fun σ H Q => ∃ G0 B G σd, Sim K G0 B G H σd σ ∧ Post ct W G H σ (fun d G' H' => ∀ v, Rp K G' v d → Q v H') (f σd)
/-- a new list, not yet one that stays -/
def teF (K : PySem.W.Frag) (ct : String → Addr) (W : WX) (f : DS → Out (List D)) : TE := fun σ H Q => ∃ G0 B G σd, Sim K G0 B G H σd σ ∧
  Post ct W G H σ (fun ds G' H' => ∀ p vs, H p = none → G' p = none → H' p = some (.lst vs) → RpAll K G' vs ds → Q (.ref p) H') (f σd)
def ttD (K : PySem.W.Frag) (ct : String → Addr) (W : WX) (f : DS → Out Bool) : TT := fun σ H Q => ∃ G0 B G σd, Sim K G0 B G H σd σ ∧ Post ct W G H σ (fun b _ H' => Q b H') (f σd)
def taD (K : PySem.W.Frag) (ct : String → Addr) (W : WX) (f : DS → Out (List D)) : TA := fun σ H Q => ∃ G0 B G σd, Sim K G0 B G H σd σ ∧ Post ct W G H σ (fun ds G' H' => ∀ vs, RpAll K G' vs ds → Q vs H') (f σd)
abbrev DE (X : Cx) (ct : String → Addr) (W : WX) (e : Expr) (f : DS → Out D) : Prop := PE X e (teD X.K ct W f)
abbrev DF (X : Cx) (ct : String → Addr) (W : WX) (e : Expr) (f : DS → Out (List D)) : Prop := PE X e (teF X.K ct W f)
abbrev DT (X : Cx) (ct : String → Addr) (W : WX) (e : Expr) (f : DS → Out Bool) : Prop := PT X e (ttD X.K ct W f)
abbrev DW (X : Cx) (ct : String → Addr) (W : WX) (e : Expr) (f : DS → Out Bool) : Prop := PW X e (ttD X.K ct W f)
abbrev DA (X : Cx) (ct : String → Addr) (W : WX) (es : List Expr) (f : DS → Out (List D)) : Prop := PA X es (taD X.K ct W f)

theorem PE_imp {X : Cx} {e : Expr} {t t' : TE} (h : PE X e t) (i : ∀ σ H Q, t' σ H Q → t σ H Q) : PE X e t' := ⟨fun pins s σ H Q I q => h.run pins s σ H Q I (i σ H Q q)⟩
theorem PT_imp {X : Cx} {e : Expr} {t t' : TT} (h : PT X e t) (i : ∀ σ H Q, t' σ H Q → t σ H Q) : PT X e t' := ⟨fun pins s σ H Q I q => h.run pins s σ H Q I (i σ H Q q)⟩
theorem PW_imp {X : Cx} {e : Expr} {t t' : TT} (h : PW X e t) (i : ∀ σ H Q, t' σ H Q → t σ H Q) : PW X e t' := ⟨fun w pins s σ H Q I q => h.run w pins s σ H Q I (i σ H Q q)⟩
theorem PA_imp {X : Cx} {es : List Expr} {t t' : TA} (h : PA X es t) (i : ∀ σ H Q, t' σ H Q → t σ H Q) : PA X es t' := ⟨fun pos pins s σ H Q I q => h.run pos pins s σ H Q I (i σ H Q q)⟩
theorem PS_imp {X : Cx} {st : Stmt} {t t' : TS} (h : PS X st t) (i : ∀ D σ H, t' D σ H → t D σ H) : PS X st t' := ⟨fun pins s σ H D I q => h.run pins s σ H D I (i D σ H q)⟩
theorem PSs_imp {X : Cx} {st : List Stmt} {t t' : TS} (h : PSs X st t) (i : ∀ D σ H, t' D σ H → t D σ H) : PSs X st t' := ⟨fun pins s σ H D I q => h.run pins s σ H D I (i D σ H q)⟩
theorem PI_imp {X : Cx} {tg e : Expr} {t t' : TI} (h : PI X tg e t) (i : ∀ σ H R, t' σ H R → t σ H R) : PI X tg e t' := ⟨fun pins s σ H R I q => h.run pins s σ H R I (i σ H R q)⟩
theorem PG_imp {X : Cx} {tg : Expr} {t t' : TG} (h : PG X tg t) (i : ∀ v σ H Q, t' v σ H Q → t v σ H Q) : PG X tg t' := ⟨fun pins s σ H v u Q I r q => h.run pins s σ H v u Q I r (i v σ H Q q)⟩
end DL

set_option maxRecDepth 100000
set_option maxHeartbeats 2000000
/-! The data layer, 2: names, constants, operators, tests. -/
namespace DL
open PySem PySem.Spec PyProof.Rows L2

/-- below every line of the model's sizes -/
def lim : Nat := 16000000
theorem lim_line {n : Nat} (h : n ≤ lim) : n ≤ sizeLine := Nat.le_trans h (by rw [sizeLine_eq]; decide)
theorem lim_lt {n : Nat} (h : n ≤ lim) : n < sizeLine := Nat.lt_of_le_of_lt h (by rw [sizeLine_eq]; decide)

section
variable {X : Cx} {ct : String → Addr} {W : WX} {x : Str} {pos : Pos} {a b c e : Expr} {es : List Expr} {fa fb fc : DS → Out D} {ga gb : DS → Out Bool}

/-! ### names, constants -/
def dVar (i : Nat) : DS → Out D := fun σ => match σ[i]? with
  | some (.val d) => .ok d
  | _ => .no
theorem de_var (i : Nat) (h : PE X (.Name x pos) (tVar i)) : DE X ct W (.Name x pos) (dVar i) := by
  refine PE_imp h ?_
  rintro σ H Q ⟨G0, B, G, σd, S, post⟩
  unfold dVar at post
  split at post
  · rename_i d hd
    obtain ⟨o, ho, v, rfl, r⟩ := S.at_ hd
    exact ⟨v, ho, post G H (Le.refl S.le.x) v r⟩
  · exact post.elim
def dC (d : D) : DS → Out D := fun _ => .ok d
theorem de_tC {v : V} {d : D} (h : PE X e (tC v)) (r : ∀ G, Rp X.K G v d) : DE X ct W e (dC d) := by
  refine PE_imp h ?_
  rintro σ H Q ⟨G0, B, G, σd, S, post⟩
  exact post G H (Le.refl S.le.x) v (r G)
theorem de_int {i : Int} {j : Nat} : DE X ct W (.Constant (.int i) j pos) (dC (.int i)) := de_tC pe_int fun _ => .int i
theorem de_bl {b : Bool} {j : Nat} : DE X ct W (.Constant (.bool b) j pos) (dC (.bool b)) := de_tC pe_bl fun _ => .bl b
theorem de_non {j : Nat} : DE X ct W (.Constant .none j pos) (dC .none) := de_tC pe_non fun _ => .non
theorem de_str {z : Str} {j : Nat} : DE X ct W (.Constant (.str z) j pos) (dC (.str z)) := de_tC pe_str fun _ => .str z
theorem de_glob {v : V} {u : Value} {d : D} (hg : Gl X x) (hm : X.mg x = some u) (r : RelV v u) (rp : ∀ G, Rp X.K G v d) (hd : (x == ("__debug__" : Str)) = false := by decide) : DE X ct W (.Name x pos) (dC d) :=
  de_tC (pe_glob hg hm r hd) rp

/-! ### operators -/
def rD (K : PySem.W.Frag) (p : D → D → Option D) : R2 := fun x y H Q => ∃ G d e r, Ex G H ∧ Rp K G x d ∧ Rp K G y e ∧ p d e = some r ∧ ∀ v G' H', Le G H G' H' → Rp K G' v r → Q v H'
abbrev OpD (X : Cx) (f : Value → Value → Sem Value) (p : D → D → Option D) : Prop := OpR X f (rD X.K p)
def dOp (p : D → D → Option D) (fa fb : DS → Out D) : DS → Out D := fun σ => fa σ >>= fun x => fb σ >>= fun y => Out.opt (p x y)
theorem op_imp {p : D → D → Option D} {ta tb : TE} (ia : ∀ σ H Q, teD X.K ct W fa σ H Q → ta σ H Q) (ib : ∀ σ H Q, teD X.K ct W fb σ H Q → tb σ H Q) : ∀ σ H Q, teD X.K ct W (dOp p fa fb) σ H Q → tOp (rD X.K p) ta tb σ H Q := by
  rintro σ H Q ⟨G0, B, G, σd, S, post⟩
  refine ia σ H _ ⟨G0, B, G, σd, S, Post.bind post fun d G1 H1 hd le1 post1 => fun v rv => ?_⟩
  refine ib σ H1 _ ⟨G0, B, G1, σd, S.mono le1, Post.bind post1 fun d2 G2 H2 hd2 le2 post2 => fun v2 rv2 => ?_⟩
  obtain ⟨r, hr, k⟩ := Post.opt le2.x post2
  exact ⟨G2, d, d2, r, le2.x, rv.mono le2.g, rv2, hr, fun w G3 H3 le3 rw => k G3 H3 le3 w rw⟩
theorem de_op {op : Operator} {p : D → D → Option D} (ho : OpD X (binaryOp op) p) (ha : DE X ct W a fa) (hb : DE X ct W b fb) : DE X ct W (.BinOp a op b pos) (dOp p fa fb) :=
  PE_imp (pe_op ho ha hb) (op_imp (fun _ _ _ h => h) fun _ _ _ h => h)
theorem de_cmp {op : CmpOp} {p : D → D → Option D} (ho : OpD X (compareOp op) p) (ha : DE X ct W a fa) (hb : DE X ct W b fb) (hm : behindInMarks op b = false) : DE X ct W (.Compare a [op] [b] pos) (dOp p fa fb) :=
  PE_imp (pe_cmpR ho ha hb hm) (op_imp (fun _ _ _ h => h) fun _ _ _ h => h)
/-- data that is a truth value -/
def asB : D → Option Bool
  | .bool b => some b
  | _ => none
theorem asB_eq {d : D} {b : Bool} (h : asB d = some b) : d = .bool b := by
  cases d <;> simp [asB] at h
  rw [h]
def dB (f : DS → Out D) : DS → Out Bool := fun σ => f σ >>= fun d => Out.opt (asB d)
theorem b_imp {te : TE} {f : DS → Out D} (i : ∀ σ H Q, teD X.K ct W f σ H Q → te σ H Q) : ∀ σ H Q, ttD X.K ct W (dB f) σ H Q → te σ H fun x H' => ∃ k, x = .bl k ∧ Q k H' := by
  rintro σ H Q ⟨G0, B, G, σd, S, post⟩
  refine i σ H _ ⟨G0, B, G, σd, S, Post.bind post fun d G1 H1 hd le1 post1 => fun v rv => ?_⟩
  obtain ⟨r, hr, k⟩ := Post.opt le1.x post1
  cases asB_eq hr
  cases rv
  exact ⟨r, rfl, k G1 H1 (Le.refl le1.x)⟩
theorem dt_cmp {op : CmpOp} {p : D → D → Option D} (ho : OpD X (compareOp op) p) (ha : DE X ct W a fa) (hb : DE X ct W b fb) (hm : behindInMarks op b = false) : DT X ct W (.Compare a [op] [b] pos) (dB (dOp p fa fb)) :=
  PT_imp (pt_cmpR ho ha hb hm) (b_imp (op_imp (fun _ _ _ h => h) fun _ _ _ h => h))
theorem dt_val {f : DS → Out D} (h : DE X ct W e f) (he : ∀ whole, isTrue e X.env whole = (do let v ← whole; standAt e.pos; holding [v] (truthy v)) := by intro _; rfl) : DT X ct W e (dB f) :=
  PT_imp (pt_val h he) (b_imp fun _ _ _ h => h)
/-- a < b < c -/
def dChain (p q : D → D → Option D) (fa fb fc : DS → Out D) : DS → Out D := fun σ => fa σ >>= fun x => fb σ >>= fun y => Out.opt (p x y) >>= fun z => Out.opt (asB z) >>= fun k => if k = true then fc σ >>= fun w => Out.opt (q y w) else .ok (.bool false)
theorem chain_imp {p q : D → D → Option D} : ∀ σ H Q, teD X.K ct W (dChain p q fa fb fc) σ H Q → tChain (rD X.K p) (rD X.K q) (teD X.K ct W fa) (teD X.K ct W fb) (teD X.K ct W fc) σ H Q := by
  rintro σ H Q ⟨G0, B, G, σd, S, post⟩
  refine ⟨G0, B, G, σd, S, Post.bind post fun d G1 H1 hd le1 post1 => fun v rv => ?_⟩
  refine ⟨G0, B, G1, σd, S.mono le1, Post.bind post1 fun d2 G2 H2 hd2 le2 post2 => fun v2 rv2 => ?_⟩
  have post3 : Post ct W G2 H2 σ (fun z G' H' => Post ct W G' H' σ (fun d G' H' => ∀ v, Rp X.K G' v d → Q v H') (Out.opt (asB z) >>= fun k => if k = true then fc σd >>= fun w => Out.opt (q d2 w) else .ok (.bool false))) (Out.opt (p d d2)) :=
    Post.bind post2 fun _ _ _ _ _ h => h
  obtain ⟨z, hz, k3⟩ := Post.opt le2.x post3
  refine ⟨G2, d, d2, z, le2.x, rv.mono le2.g, rv2, hz, fun w G3 H3 le3 rw => ?_⟩
  have post4 := k3 G3 H3 le3
  have post5 : Post ct W G3 H3 σ (fun b G' H' => Post ct W G' H' σ (fun d G' H' => ∀ v, Rp X.K G' v d → Q v H') (if b = true then fc σd >>= fun w => Out.opt (q d2 w) else .ok (.bool false))) (Out.opt (asB z)) :=
    Post.bind post4 fun _ _ _ _ _ h => h
  obtain ⟨k, hk, k5⟩ := Post.opt le3.x post5
  have post6 := k5 G3 H3 (Le.refl le3.x)
  cases asB_eq hk
  cases rw
  refine ⟨k, rfl, ?_⟩
  cases k with
  | false =>
    rw [if_neg Bool.false_ne_true] at post6 ⊢
    exact post6 G3 H3 (Le.refl le3.x) _ (.bl false)
  | true =>
    rw [if_pos rfl] at post6 ⊢
    refine ⟨G0, B, G3, σd, ((S.mono le1).mono le2).mono le3, Post.bind post6 fun d4 G4 H4 hd4 le4 post7 => fun v4 rv4 => ?_⟩
    obtain ⟨r, hr, k7⟩ := Post.opt le4.x post7
    exact ⟨G4, d2, d4, r, le4.x, rv2.mono (le3.trans le4).g, rv4, hr, fun w G5 H5 le5 rw => k7 G5 H5 le5 w rw⟩
theorem de_chain {op op' : CmpOp} {p q : D → D → Option D} (ho : OpD X (compareOp op) p) (ho' : OpD X (compareOp op') q) (ha : DE X ct W a fa) (hb : DE X ct W b fb) (hc : DE X ct W c fc)
    (hm : lastMarks [op, op'] [b, c] = false := by with_unfolding_all rfl) : DE X ct W (.Compare a [op, op'] [b, c] pos) (dChain p q fa fb fc) :=
  PE_imp (pe_chain ho ho' ha hb hc hm) chain_imp
theorem dt_chain {op op' : CmpOp} {p q : D → D → Option D} (ho : OpD X (compareOp op) p) (ho' : OpD X (compareOp op') q) (ha : DE X ct W a fa) (hb : DE X ct W b fb) (hc : DE X ct W c fc)
    (hm : lastMarks [op, op'] [b, c] = false := by with_unfolding_all rfl) : DT X ct W (.Compare a [op, op'] [b, c] pos) (dB (dChain p q fa fb fc)) :=
  PT_imp (pt_chain ho ho' ha hb hc hm) (b_imp chain_imp)

/-! ### and, or, not, if else -/
def dAndT (f g : DS → Out Bool) : DS → Out Bool := fun σ => f σ >>= fun b => if b = true then g σ else .ok false
def dOrT (f g : DS → Out Bool) : DS → Out Bool := fun σ => f σ >>= fun b => if b = true then .ok true else g σ
def dNotT (f : DS → Out Bool) : DS → Out Bool := fun σ => f σ >>= fun b => .ok (!b)
theorem dt_not (h : DT X ct W a ga) : DT X ct W (.UnaryOp .Not a pos) (dNotT ga) := by
  refine PT_imp (pt_not h) ?_
  rintro σ H Q ⟨G0, B, G, σd, S, post⟩
  exact ⟨G0, B, G, σd, S, Post.bind post fun b G1 H1 hb le1 post1 => post1 G1 H1 (Le.refl le1.x)⟩
theorem dw_and1 (h : DT X ct W a ga) : DW X ct W (.BoolOp .And [a] pos) ga := pw_and1 h
theorem dw_or1 (h : DT X ct W a ga) : DW X ct W (.BoolOp .Or [a] pos) ga := pw_or1 h
theorem dw_and (h : DT X ct W a ga) (hb : DW X ct W (.BoolOp .And (b :: es) pos) gb) : DW X ct W (.BoolOp .And (a :: b :: es) pos) (dAndT ga gb) := by
  refine PW_imp (pw_and h hb) ?_
  rintro σ H Q ⟨G0, B, G, σd, S, post⟩
  refine ⟨G0, B, G, σd, S, Post.bind post fun b G1 H1 hb le1 post1 => ?_⟩
  cases b with
  | true => rw [if_pos rfl] at post1 ⊢; exact ⟨G0, B, G1, σd, S.mono le1, post1⟩
  | false => rw [if_neg Bool.false_ne_true] at post1 ⊢; exact post1 G1 H1 (Le.refl le1.x)
theorem dw_or (h : DT X ct W a ga) (hb : DW X ct W (.BoolOp .Or (b :: es) pos) gb) : DW X ct W (.BoolOp .Or (a :: b :: es) pos) (dOrT ga gb) := by
  refine PW_imp (pw_or h hb) ?_
  rintro σ H Q ⟨G0, B, G, σd, S, post⟩
  refine ⟨G0, B, G, σd, S, Post.bind post fun b G1 H1 hb le1 post1 => ?_⟩
  cases b with
  | true => rw [if_pos rfl] at post1 ⊢; exact post1 G1 H1 (Le.refl le1.x)
  | false => rw [if_neg Bool.false_ne_true] at post1 ⊢; exact ⟨G0, B, G1, σd, S.mono le1, post1⟩
theorem dt_w (h : DW X ct W e ga) : DT X ct W e ga := PW.pt h
def dBl (f : DS → Out Bool) : DS → Out D := fun σ => f σ >>= fun b => .ok (.bool b)
def dAndV (fa fb : DS → Out D) : DS → Out D := fun σ => fa σ >>= fun d => Out.opt (asB d) >>= fun b => if b = true then fb σ else .ok (.bool false)
def dOrV (fa fb : DS → Out D) : DS → Out D := fun σ => fa σ >>= fun d => Out.opt (asB d) >>= fun b => if b = true then .ok (.bool true) else fb σ
theorem de_one {op} (h : DE X ct W a fa) : DE X ct W (.BoolOp op [a] pos) fa := pe_one h
theorem de_and (ha : DE X ct W a fa) (hb : DE X ct W (.BoolOp .And (b :: es) pos) fb) : DE X ct W (.BoolOp .And (a :: b :: es) pos) (dAndV fa fb) := by
  refine PE_imp (pe_and ha hb) ?_
  rintro σ H Q ⟨G0, B, G, σd, S, post⟩
  refine ⟨G0, B, G, σd, S, Post.bind post fun d G1 H1 hd le1 post1 => fun v rv => ?_⟩
  have post2 : Post ct W G1 H1 σ (fun b G' H' => Post ct W G' H' σ (fun d G' H' => ∀ v, Rp X.K G' v d → Q v H') (if b = true then fb σd else .ok (.bool false))) (Out.opt (asB d)) := Post.bind post1 fun _ _ _ _ _ h => h
  obtain ⟨b, hb, k⟩ := Post.opt le1.x post2
  have post3 := k G1 H1 (Le.refl le1.x)
  cases asB_eq hb
  cases rv
  refine ⟨b, rfl, ?_⟩
  cases b with
  | true => rw [if_pos rfl] at post3 ⊢; exact ⟨G0, B, G1, σd, S.mono le1, post3⟩
  | false => rw [if_neg Bool.false_ne_true] at post3 ⊢; exact post3 G1 H1 (Le.refl le1.x) _ (.bl false)
theorem de_or (ha : DE X ct W a fa) (hb : DE X ct W (.BoolOp .Or (b :: es) pos) fb) : DE X ct W (.BoolOp .Or (a :: b :: es) pos) (dOrV fa fb) := by
  refine PE_imp (pe_or ha hb) ?_
  rintro σ H Q ⟨G0, B, G, σd, S, post⟩
  refine ⟨G0, B, G, σd, S, Post.bind post fun d G1 H1 hd le1 post1 => fun v rv => ?_⟩
  have post2 : Post ct W G1 H1 σ (fun b G' H' => Post ct W G' H' σ (fun d G' H' => ∀ v, Rp X.K G' v d → Q v H') (if b = true then .ok (.bool true) else fb σd)) (Out.opt (asB d)) := Post.bind post1 fun _ _ _ _ _ h => h
  obtain ⟨b, hb, k⟩ := Post.opt le1.x post2
  have post3 := k G1 H1 (Le.refl le1.x)
  cases asB_eq hb
  cases rv
  refine ⟨b, rfl, ?_⟩
  cases b with
  | true => rw [if_pos rfl] at post3 ⊢; exact post3 G1 H1 (Le.refl le1.x) _ (.bl true)
  | false => rw [if_neg Bool.false_ne_true] at post3 ⊢; exact ⟨G0, B, G1, σd, S.mono le1, post3⟩
def dNotV (f : DS → Out D) : DS → Out D := fun σ => f σ >>= fun d => Out.opt (asB d) >>= fun b => .ok (.bool (!b))
theorem de_not (ha : DE X ct W a fa) : DE X ct W (.UnaryOp .Not a pos) (dNotV fa) := by
  refine PE_imp (pe_not ha) ?_
  rintro σ H Q ⟨G0, B, G, σd, S, post⟩
  refine ⟨G0, B, G, σd, S, Post.bind post fun d G1 H1 hd le1 post1 => fun v rv => ?_⟩
  have post2 : Post ct W G1 H1 σ (fun b G' H' => Post ct W G' H' σ (fun d G' H' => ∀ v, Rp X.K G' v d → Q v H') (.ok (.bool (!b)))) (Out.opt (asB d)) := Post.bind post1 fun _ _ _ _ _ h => h
  obtain ⟨b, hb, k⟩ := Post.opt le1.x post2
  have post3 := k G1 H1 (Le.refl le1.x)
  cases asB_eq hb
  cases rv
  exact ⟨b, rfl, post3 G1 H1 (Le.refl le1.x) _ (.bl (!b))⟩
def dIf (g : DS → Out Bool) (fa fb : DS → Out D) : DS → Out D := fun σ => g σ >>= fun b => if b = true then fa σ else fb σ
theorem de_if (hc : DT X ct W c ga) (ha : DE X ct W a fa) (hb : DE X ct W b fb) : DE X ct W (.IfExp c a b pos) (dIf ga fa fb) := by
  refine PE_imp (pe_ifExp hc ha hb) ?_
  rintro σ H Q ⟨G0, B, G, σd, S, post⟩
  refine ⟨G0, B, G, σd, S, Post.bind post fun b G1 H1 hb le1 post1 => ?_⟩
  cases b with
  | true => rw [if_pos rfl] at post1 ⊢; exact ⟨G0, B, G1, σd, S.mono le1, post1⟩
  | false => rw [if_neg Bool.false_ne_true] at post1 ⊢; exact ⟨G0, B, G1, σd, S.mono le1, post1⟩

/-! ### argument lists, displays -/
def dNil : DS → Out (List D) := fun _ => .ok []
def dCons (f : DS → Out D) (g : DS → Out (List D)) : DS → Out (List D) := fun σ => f σ >>= fun d => g σ >>= fun ds => .ok (d :: ds)
theorem da_nil : DA X ct W [] dNil := by
  refine PA_imp pa_nil ?_
  rintro σ H Q ⟨G0, B, G, σd, S, post⟩
  exact post G H (Le.refl S.le.x) [] .nil
theorem da_cons {g : DS → Out (List D)} (h : DE X ct W e fa) (r : DA X ct W es g) (hs : starEach (e :: es) X.env = (false, eval e X.env) :: starEach es X.env := by rfl) : DA X ct W (e :: es) (dCons fa g) := by
  refine PA_imp (pa_cons h r hs) ?_
  rintro σ H Q ⟨G0, B, G, σd, S, post⟩
  refine ⟨G0, B, G, σd, S, Post.bind post fun d G1 H1 hd le1 post1 => fun v rv => ?_⟩
  refine ⟨G0, B, G1, σd, S.mono le1, Post.bind post1 fun ds G2 H2 hds le2 post2 => fun vs rvs => ?_⟩
  exact post2 G2 H2 (Le.refl le2.x) _ (.cons (rv.mono le2.g) rvs)
def dTup (g : DS → Out (List D)) : DS → Out D := fun σ => g σ >>= fun ds => if ds.length ≤ lim then .ok (.tuple ds) else .no
theorem de_tup {g : DS → Out (List D)} {k} (h : DA X ct W es g) : DE X ct W (.Tuple es k pos) (dTup g) := by
  refine PE_imp (pe_tup h) ?_
  rintro σ H Q ⟨G0, B, G, σd, S, post⟩
  refine ⟨G0, B, G, σd, S, Post.bind post fun ds G1 H1 hd le1 post1 => fun vs rv => ?_⟩
  by_cases hl : ds.length ≤ lim
  · rw [if_pos hl] at post1
    refine ⟨by rw [rv.length]; exact lim_line hl, fun p hp => ?_⟩
    have l2 : Le G1 H1 (upd G1 p (.tup vs)) (upd H1 p (.tup vs)) := Le.new le1.x hp
    exact post1 _ _ l2 _ (.tup (SqT.of upd_same) (rv.mono l2.g))
  · rw [if_neg hl] at post1; exact post1.elim
def dLst (g : DS → Out (List D)) : DS → Out (List D) := fun σ => g σ >>= fun ds => if ds.length ≤ lim then .ok ds else .no
theorem df_lst {g : DS → Out (List D)} (h : DA X ct W es g) : DF X ct W (.List es pos) (dLst g) := by
  refine PE_imp (pe_lst h) ?_
  rintro σ H Q ⟨G0, B, G, σd, S, post⟩
  refine ⟨G0, B, G, σd, S, Post.bind post fun ds G1 H1 hd le1 post1 => fun vs rv => ?_⟩
  by_cases hl : ds.length ≤ lim
  · rw [if_pos hl] at post1
    refine ⟨by rw [rv.length]; exact lim_line hl, fun p hp => ?_⟩
    exact post1 _ _ (Le.newM le1.x hp) p vs (le1.h.free hp) (le1.x.free hp) upd_same rv
  · rw [if_neg hl] at post1; exact post1.elim
/-- a new list as data that stays -/
def dL (g : DS → Out (List D)) : DS → Out D := fun σ => g σ >>= fun ds => .ok (.list ds)
theorem de_f {g : DS → Out (List D)} (h : DF X ct W e g) : DE X ct W e (dL g) := by
  refine PE_imp h ?_
  rintro σ H Q ⟨G0, B, G, σd, S, post⟩
  refine ⟨G0, B, G, σd, S, ?_⟩
  unfold dL at post
  cases hm : g σd with
  | no => rw [hm] at post; exact post
  | ex c => rw [hm] at post; exact post
  | ok ds =>
    rw [hm] at post
    intro G1 H1 le1 p vs hp hg hh rv
    have e1 : Ex G1 (upd G1 p (.lst vs)) := Ex.new hg
    refine post (upd G1 p (.lst vs)) H1 ⟨le1.g.trans e1, le1.h, fun a o h1 h2 => ?_, fun a o e => ?_⟩ _ (.lst upd_same (rv.mono e1))
    · rw [upd_ne (ne_of_none h1 hp)]
      exact le1.n a o h1 h2
    · by_cases q : a = p
      · subst q; rw [upd_same] at e; rw [hh]; exact e
      · rw [upd_ne q] at e; exact le1.x a o e
end
end DL

set_option maxRecDepth 100000
set_option maxHeartbeats 2000000
/-! The data layer, 3: what operators, subscripts, built-in functions and methods do with data. -/
namespace DL
open PySem PySem.Spec PyProof.Rows L2

/-! ### operators on data -/
def pAdd : D → D → Option D
  | .int a, .int b => some (.int (a + b))
  | .str a, .str b => if a.length + b.length ≤ lim then some (.str (a ++ b)) else none
  | .list a, .list b => if a.length + b.length ≤ lim then some (.list (a ++ b)) else none
  | .tuple a, .tuple b => if a.length + b.length ≤ lim then some (.tuple (a ++ b)) else none
  | _, _ => none
def pSub : D → D → Option D
  | .int a, .int b => some (.int (a - b))
  | _, _ => none
/-- a number of few bits: said so that nothing is tempted to count to it -/
def fitI (k : Nat) (i : Int) : Bool := decide (i.natAbs.log2 < k)
theorem fitI_lt {k : Nat} {i : Int} (h : fitI k i = true) : i.natAbs < 2 ^ k := by
  have h := of_decide_eq_true h
  exact Nat.lt_of_lt_of_le Nat.lt_log2_self (Nat.pow_le_pow_right (by decide) h)
theorem fitI_of {k : Nat} {i : Int} (hk : 0 < k) (h : i.natAbs < 2 ^ k) : fitI k i = true := by
  refine decide_eq_true ?_
  by_cases h0 : i.natAbs = 0
  · rw [h0]; exact hk
  · exact (Nat.log2_lt h0).mpr h
def smallI (i : Int) : Bool := fitI 64 i
theorem smallI_iff {i : Int} (h : smallI i = true) : -(2 ^ 64) < i ∧ i < 2 ^ 64 := by
  have h := fitI_lt h
  omega
def repS (x : Str) (n : Nat) : Str := ⟨(List.replicate n x.cps.toList).flatten.toArray⟩
def pMul : D → D → Option D
  | .int a, .int b => if smallI a || smallI b then some (.int (a * b)) else none
  | .str a, .int n => if decide (2 ≤ n) && decide (1 ≤ a.length) && decide (a.length * n.toNat ≤ lim) && decide (n ≤ (lim : Int)) then some (.str (repS a n.toNat)) else none
  | .list a, .int n => if decide (-1000 ≤ n) && decide (n ≤ (lim : Int)) && decide (a.length * n.toNat ≤ lim) then some (.list (List.replicate n.toNat a).flatten) else none
  | _, _ => none
def pFdiv : D → D → Option D
  | .int a, .int b => if 0 < b ∧ fitI 30 b = true then some (.int (a / b)) else none
  | _, _ => none
def pMod : D → D → Option D
  | .int a, .int b => if 0 < b then some (.int (a % b)) else none
  | _, _ => none
def pPow : D → D → Option D
  | .int a, .int b => if 0 ≤ b ∧ b ≤ 1000000 ∧ a.natAbs < 2 ^ 64 then some (.int (a ^ b.toNat)) else none
  | _, _ => none
def pEqB : D → D → Option Bool
  | .str a, .str b => some (decide (a = b))
  | .int a, .int b => some (decide (a = b))
  | d, e => if SeqAt.shaped d && SeqAt.shaped e then some (PyData.eqv d e) else none
def pEq (d e : D) : Option D := (pEqB d e).map .bool
def pNe (d e : D) : Option D := (pEqB d e).map fun b => .bool (!b)
def pCmp (r : Int → Int → Bool) : D → D → Option D
  | .int a, .int b => some (.bool (r a b))
  | _, _ => none
def pLt : D → D → Option D := pCmp fun a b => decide (a < b)
def pLe : D → D → Option D := pCmp fun a b => decide (a ≤ b)
def pGt : D → D → Option D := pCmp fun a b => decide (b < a)
def pGe : D → D → Option D := pCmp fun a b => decide (b ≤ a)
def isNone : D → Bool
  | .none => true
  | _ => false
def pIs : D → D → Option D
  | d, .none => some (.bool (isNone d))
  | _, _ => none
def pIsNot : D → D → Option D
  | d, .none => some (.bool (!isNone d))
  | _, _ => none
def flatD : D → Bool
  | .none => true
  | .bool _ => true
  | .int _ => true
  | .str _ => true
  | _ => false
def inD (d : D) (ds : List D) : Bool := ds.any fun e => PyData.eqv e d
def pInB : D → D → Option Bool
  | .str a, .str b => match a.cps.toList with
    | [c] => some (decide (c ∈ b.cps.toList))
    | _ => none
  | d, .list ds => if flatD d && ds.all flatD then some (inD d ds) else none
  | d, .tuple ds => if flatD d && ds.all flatD then some (inD d ds) else none
  | _, _ => none
def pIn (d e : D) : Option D := (pInB d e).map .bool
def pNotIn (d e : D) : Option D := (pInB d e).map fun b => .bool (!b)

section
variable {X : Cx} {K : PySem.W.Frag} {G : Hp}
theorem opI' {f : Value → Value → Sem Value} {p : D → D → Option D} {r : R2} (ho : OpR X f r) (h : ∀ x y H Q, rD X.K p x y H Q → r x y H Q) : OpD X f p := fun pins s σ H x y v u Q I rx ry q => ho pins s σ H x y v u Q I rx ry (h x y H Q q)
theorem opc2 {f : Value → Value → Sem Value} {p : D → D → Option D} (h : ∀ x y G H Q d e r, Ex G H → Rp X.K G x d → Rp X.K G y e → p d e = some r → (∀ v G' H', Le G H G' H' → Rp X.K G' v r → Q v H') → ∃ r : R2, OpR X f r ∧ r x y H Q) : OpD X f p := by
  intro pins s σ H x y v u Q I rx ry q
  obtain ⟨G, d, e, r, ex, hx, hy, hp, k⟩ := q
  obtain ⟨r2, ho, q⟩ := h x y G H Q d e r ex hx hy hp k
  exact ho pins s σ H x y v u Q I rx ry q
theorem od_add : OpD X (binaryOp .Add) pAdd := opc2 fun x y G H Q d e r ex hx hy hp k => by
  unfold pAdd at hp
  split at hp
  · cases hx; cases hy; cases hp
    exact ⟨_, op_add, _, _, rfl, rfl, k _ _ _ (Le.refl ex) (.int _)⟩
  · cases hx; cases hy
    split at hp
    · rename_i hl
      cases hp
      exact ⟨_, op_add_str, _, _, rfl, rfl, lim_line hl, k _ _ _ (Le.refl ex) (.str _)⟩
    · cases hp
  · cases hx with
    | lst h1 r1 =>
      cases hy with
      | lst h2 r2 =>
        split at hp
        · rename_i hl
          cases hp
          refine ⟨_, op_cat, _, _, _, _, rfl, rfl, ex _ _ h1, ex _ _ h2, by rw [r1.length, r2.length]; exact lim_line hl, fun p hp => ?_⟩
          exact k _ _ _ (Le.new ex hp) (.lst upd_same ((r1.append r2).mono (Ex.new (ex.free hp))))
        · cases hp
  · cases hx with
    | tup h1 r1 =>
      cases hy with
      | tup h2 r2 =>
        split at hp
        · rename_i hl
          cases hp
          refine ⟨_, op_catA, _, _, _, _, rfl, rfl, ex.sqT h1, ex.sqT h2, by rw [r1.length, r2.length]; exact lim_line hl, fun e => ?_, fun _ e => ?_, fun _ _ p hp => ?_⟩
          · subst e
            cases r1
            exact k _ _ _ (Le.refl ex) (.tup h2 r2)
          · subst e
            cases r2
            rw [List.append_nil] at k
            exact k _ _ _ (Le.refl ex) (.tup h1 r1)
          · exact k _ _ _ (Le.new ex hp) (.tup (SqT.of upd_same) ((r1.append r2).mono (Ex.new (ex.free hp))))
        · cases hp
  · cases hp
theorem od_sub : OpD X (binaryOp .Sub) pSub := opc2 fun x y G H Q d e r ex hx hy hp k => by
  unfold pSub at hp
  split at hp
  · cases hx; cases hy; cases hp
    exact ⟨_, op_sub, _, _, rfl, rfl, k _ _ _ (Le.refl ex) (.int _)⟩
  · cases hp
theorem rep_fold (x : Array Nat) : ∀ (n : Nat) (acc : Array Nat), (List.replicate n x).foldl (· ++ ·) acc = acc ++ (List.replicate n x.toList).flatten.toArray
  | 0, acc => by simp
  | n + 1, acc => by
    rw [List.replicate_succ, List.foldl_cons, rep_fold x n]
    apply Array.ext'
    simp [List.replicate_succ]
theorem flat_rep (l : List Nat) : ∀ n : Nat, (List.replicate n l).flatten.length = n * l.length
  | 0 => by simp
  | n + 1 => by
    rw [List.replicate_succ, List.flatten_cons, List.length_append, flat_rep l n, Nat.succ_mul]
    omega
theorem repS_length (a : Str) (n : Nat) : (repS a n).length = n * a.length := by
  show (List.replicate n a.cps.toList).flatten.toArray.size = _
  rw [List.size_toArray, flat_rep]
  rfl
theorem op_repS : OpR X (binaryOp .Mult) (fun x y H Q => ∃ a n, x = .str a ∧ y = .int n ∧ 2 ≤ n ∧ 1 ≤ a.length ∧ a.length * n.toNat ≤ lim ∧ n ≤ (lim : Int) ∧ Q (.str (repS a n.toNat)) H) := by
  intro pins s σ H x y v u Q I rx ry h
  obtain ⟨a, n, rfl, rfl, h1, h2, h3, h4, q⟩ := h
  obtain ⟨t, rfl⟩ := rx
  obtain ⟨t', rfl⟩ := ry
  have hlim : lim = 16000000 := rfl
  have e1 : ¬ n < 1 := by omega
  have e2 : ((n == 1 || a.length == 0) = true) = False := by simp; omega
  refine PySem.P.mul_str (by
    have z1 : decide (n < -(2 ^ 63 : Int)) = false := decide_eq_false (by omega)
    have z2 : decide (n ≥ 2 ^ 63) = false := decide_eq_false (by omega)
    rw [z1, z2]; rfl) (fun _ _ => ?_) (fun _ _ => ?_) ?_
  · have hz : (a.length : Int) * n = ((a.length * n.toNat : Nat) : Int) := by
      rw [Int.natCast_mul, Int.toNat_of_nonneg (by omega)]
    exact Int.not_lt.mpr (Int.le_ediv_of_mul_le (by omega) (by rw [hz]; omega))
  · unfold Builtin.Str.tooLong
    have := lim_line h3
    first
      | exact decide_eq_false (by omega)
      | (simp; omega)
  · rw [if_neg e1, if_neg (by rw [e2]; exact fun z => z)]
    have e3 : (⟨(List.replicate n.toNat a.cps).foldl (· ++ ·) #[]⟩ : Str) = repS a n.toNat := by
      unfold repS
      rw [rep_fold]
      simp
    rw [e3]
    refine ⟨?_, ⟨.str _, H, I.tok _, ⟨_, rfl⟩, q⟩⟩
    rw [repS_length, Nat.mul_comm]
    exact lim_line h3
theorem od_mul : OpD X (binaryOp .Mult) pMul := opc2 fun x y G H Q d e r ex hx hy hp k => by
  unfold pMul at hp
  split at hp
  · cases hx; cases hy
    split at hp
    · rename_i h
      cases hp
      refine ⟨_, op_mul, _, _, rfl, rfl, ?_, k _ _ _ (Le.refl ex) (.int _)⟩
      unfold CMul
      rw [Bool.or_eq_true] at h
      exact h.imp smallI_iff smallI_iff
    · cases hp
  · cases hx; cases hy
    split at hp
    · rename_i h
      cases hp
      simp only [Bool.and_eq_true, decide_eq_true_eq] at h
      obtain ⟨⟨⟨h1, h2⟩, h3⟩, h4⟩ := h
      exact ⟨_, op_repS, _, _, rfl, rfl, h1, h2, h3, h4, k _ _ _ (Le.refl ex) (.str _)⟩
    · cases hp
  · cases hx with
    | lst h1 r1 =>
      cases hy
      split at hp
      · rename_i h
        cases hp
        simp only [Bool.and_eq_true, decide_eq_true_eq] at h
        obtain ⟨⟨z1, z2⟩, z3⟩ := h
        have hlim : lim = 16000000 := rfl
        refine ⟨_, op_rep, _, _, _, rfl, rfl, ex _ _ h1, by omega, by omega, by rw [r1.length]; exact lim_line z3, fun p hp => ?_⟩
        refine k _ _ _ (Le.new ex hp) (.lst upd_same (RpAll.mono (Ex.new (ex.free hp)) ?_))
        have rep : ∀ n : Nat, RpAll X.K G (List.replicate n _).flatten (List.replicate n _).flatten := fun n => by
          induction n with
          | zero => exact .nil
          | succ n ih =>
            rw [List.replicate_succ, List.replicate_succ, List.flatten_cons, List.flatten_cons]
            exact r1.append ih
        exact rep _
      · cases hp
  · cases hp
theorem od_fdiv : OpD X (binaryOp .FloorDiv) pFdiv := opc2 fun x y G H Q d e r ex hx hy hp k => by
  unfold pFdiv at hp
  split at hp
  · cases hx; cases hy
    split at hp
    · rename_i h
      cases hp
      exact ⟨_, op_fdiv, _, _, rfl, rfl, ⟨h.1, by have := fitI_lt h.2; omega⟩, k _ _ _ (Le.refl ex) (.int _)⟩
    · cases hp
  · cases hp
theorem od_mod : OpD X (binaryOp .Mod) pMod := opc2 fun x y G H Q d e r ex hx hy hp k => by
  unfold pMod at hp
  split at hp
  · cases hx; cases hy
    split at hp
    · rename_i h
      cases hp
      exact ⟨_, op_mod, _, _, rfl, rfl, h, k _ _ _ (Le.refl ex) (.int _)⟩
    · cases hp
  · cases hp
theorem od_pow : OpD X (binaryOp .Pow) pPow := opc2 fun x y G H Q d e r ex hx hy hp k => by
  unfold pPow at hp
  split at hp
  · cases hx; cases hy
    split at hp
    · rename_i h
      cases hp
      exact ⟨_, op_pow, _, _, rfl, rfl, h, k _ _ _ (Le.refl ex) (.int _)⟩
    · cases hp
  · cases hp
theorem od_cmp {f : Value → Value → Sem Value} {r : Int → Int → Bool} (ho : OpR X f (rI0 fun i j => .bl (r i j))) : OpD X f (pCmp r) := opc2 fun x y G H Q d e z ex hx hy hp k => by
  unfold pCmp at hp
  split at hp
  · cases hx; cases hy; cases hp
    exact ⟨_, ho, _, _, rfl, rfl, k _ _ _ (Le.refl ex) (.bl _)⟩
  · cases hp
theorem od_lt : OpD X (compareOp .Lt) pLt := od_cmp op_lt
theorem od_le : OpD X (compareOp .LtE) pLe := od_cmp op_le
theorem od_gt : OpD X (compareOp .Gt) pGt := od_cmp op_gt
theorem od_ge : OpD X (compareOp .GtE) pGe := od_cmp op_ge
mutual
theorem Rp.dp : ∀ {v : V} {d : D}, Rp K G v d → d.canLay0 = true → Dp K G v d
  | _, _, .non, _ => .non
  | _, _, .bl b, _ => .bl b
  | _, _, .int i, _ => .int i
  | _, _, .str x, _ => .str x
  | _, _, .lst h r, c => .lst (SqL.of h) (RpAll.dp r (by simpa only [PyData.canLay0] using c))
  | _, _, .tup h r, c => .tup h (RpAll.dp r (by simpa only [PyData.canLay0] using c))
  | _, _, .dct h r, c => by simp [PyData.canLay0] at c
theorem RpAll.dp : ∀ {v : List V} {d : List D}, RpAll K G v d → PyData.canLayAll0 d = true → DpAll K G v d
  | _, _, .nil, _ => .nil
  | _, _, .cons h r, c => by
    have c' := c
    simp only [PyData.canLayAll0, Bool.and_eq_true] at c'
    exact .cons (Rp.dp h c'.1) (RpAll.dp r c'.2)
end
theorem od_eq (hu : X.A.units + 64 < cLine) : OpD X (compareOp .Eq) pEq := opc2 fun x y G H Q d e z ex hx hy hp k => by
  unfold pEq pEqB at hp
  split at hp
  · cases hx; cases hy; cases hp
    refine ⟨_, op_eq, rfl, ?_⟩
    rw [show ∀ i j : Str, decide (V.str i = V.str j) = decide (i = j) from fun i j => by simp]
    exact k _ _ _ (Le.refl ex) (.bl _)
  · cases hx; cases hy; cases hp
    refine ⟨_, op_eq, rfl, ?_⟩
    rw [show ∀ i j : Int, decide (V.int i = V.int j) = decide (i = j) from fun i j => by simp]
    exact k _ _ _ (Le.refl ex) (.bl _)
  · split at hp
    · rename_i h
      cases hp
      rw [Bool.and_eq_true] at h
      exact ⟨_, op_eqD hu, d, e, (hx.dp (SeqAt.canLay_of_shaped h.1)) |> fun z => (Rp.dp (hx.mono ex) (SeqAt.canLay_of_shaped h.1)), Rp.dp (hy.mono ex) (SeqAt.canLay_of_shaped h.2), h.1, h.2, k _ _ _ (Le.refl ex) (.bl _)⟩
    · cases hp
theorem od_ne (hu : X.A.units + 64 < cLine) : OpD X (compareOp .NotEq) pNe := opc2 fun x y G H Q d e z ex hx hy hp k => by
  unfold pNe pEqB at hp
  split at hp
  · cases hx; cases hy; cases hp
    refine ⟨_, op_ne, rfl, ?_⟩
    rw [show ∀ i j : Str, decide (V.str i = V.str j) = decide (i = j) from fun i j => by simp]
    exact k _ _ _ (Le.refl ex) (.bl _)
  · cases hx; cases hy; cases hp
    refine ⟨_, op_ne, rfl, ?_⟩
    rw [show ∀ i j : Int, decide (V.int i = V.int j) = decide (i = j) from fun i j => by simp]
    exact k _ _ _ (Le.refl ex) (.bl _)
  · split at hp
    · rename_i h
      cases hp
      rw [Bool.and_eq_true] at h
      exact ⟨_, op_neD hu, d, e, Rp.dp (hx.mono ex) (SeqAt.canLay_of_shaped h.1), Rp.dp (hy.mono ex) (SeqAt.canLay_of_shaped h.2), h.1, h.2, k _ _ _ (Le.refl ex) (.bl _)⟩
    · cases hp
theorem Rp.isNone {v : V} {d : D} (h : Rp K G v d) : decide (v = .non) = DL.isNone d := by
  cases h <;> simp [DL.isNone]
theorem od_is : OpD X (compareOp .Is) pIs := opc2 fun x y G H Q d e z ex hx hy hp k => by
  unfold pIs at hp
  split at hp
  · cases hy; cases hp
    refine ⟨_, op_isN, rfl, ?_⟩
    rw [hx.isNone]
    exact k _ _ _ (Le.refl ex) (.bl _)
  · cases hp
theorem od_isNot : OpD X (compareOp .IsNot) pIsNot := opc2 fun x y G H Q d e z ex hx hy hp k => by
  unfold pIsNot at hp
  split at hp
  · cases hy; cases hp
    refine ⟨_, op_notN, rfl, ?_⟩
    rw [hx.isNone]
    exact k _ _ _ (Le.refl ex) (.bl _)
  · cases hp
theorem Rp.flat {v : V} {d : D} (h : Rp K G v d) (f : flatD d = true) : flatV v = true := by
  cases h <;> first | rfl | (simp [flatD] at f)
theorem Rp.eqV {v w : V} {d e : D} (h : Rp K G v d) (q : Rp K G w e) (f : flatD d = true) (g : flatD e = true) : L2.eqV v w = PyData.eqv d e := by
  cases h <;> first | (simp [flatD] at f; done) | (cases q <;> first | (simp [flatD] at g; done) | rfl | (simp [L2.eqV, PyData.eqv]; done))
theorem RpAll.flat : ∀ {v : List V} {d : List D}, RpAll K G v d → d.all flatD = true → v.all flatV = true
  | _, _, .nil, _ => rfl
  | _, _, .cons h r, f => by
    rw [List.all_cons, Bool.and_eq_true] at f ⊢
    exact ⟨h.flat f.1, RpAll.flat r f.2⟩
theorem RpAll.inV {x : V} {d : D} (hx : Rp K G x d) (fx : flatD d = true) : ∀ {vs : List V} {ds : List D}, RpAll K G vs ds → ds.all flatD = true → L2.inV x vs = inD d ds
  | _, _, .nil, _ => rfl
  | _, _, .cons h r, f => by
    rw [List.all_cons, Bool.and_eq_true] at f
    have ih := RpAll.inV hx fx r f.2
    unfold L2.inV inD at ih ⊢
    rw [List.any_cons, List.any_cons, h.eqV hx f.1 fx, ih]
theorem in_gen {op : CmpOp} {neg : Bool} {p : D → D → Option D} (hs : OpR X (compareOp op) (fun x y H Q => ∃ (c : Nat) (z : Str), x = .str ⟨#[c]⟩ ∧ y = .str z ∧ Q (.bl (if neg then !decide (c ∈ z.cps.toList) else decide (c ∈ z.cps.toList))) H))
    (hq : OpR X (compareOp op) (rIn X.K neg)) (he : ∀ d e, p d e = (pInB d e).map fun b => .bool (if neg then !b else b)) : OpD X (compareOp op) p := opc2 fun x y G H Q d e z ex hx hy hp k => by
  rw [he, Option.map_eq_some_iff] at hp
  obtain ⟨b, hb, rfl⟩ := hp
  unfold pInB at hb
  split at hb
  · rename_i a b
    cases hx; cases hy
    split at hb
    · rename_i c hc
      cases hb
      have ea : a = ⟨#[c]⟩ := by
        cases a with
        | mk l =>
          have : l = #[c] := by rw [← Array.toList_inj]; exact hc
          rw [this]
      subst ea
      exact ⟨_, hs, c, _, rfl, rfl, k _ _ _ (Le.refl ex) (.bl _)⟩
    · cases hb
  · cases hy with
    | lst h r =>
      split at hb
      · rename_i f
        rw [Bool.and_eq_true] at f
        cases hb
        refine ⟨_, hq, _, _, rfl, .inl (SqL.of (ex _ _ h)), hx.flat f.1, r.flat f.2, ?_⟩
        rw [RpAll.inV hx f.1 r f.2]
        exact k _ _ _ (Le.refl ex) (.bl _)
      · cases hb
  · cases hy with
    | tup h r =>
      split at hb
      · rename_i f
        rw [Bool.and_eq_true] at f
        cases hb
        refine ⟨_, hq, _, _, rfl, .inr (ex.sqT h), hx.flat f.1, r.flat f.2, ?_⟩
        rw [RpAll.inV hx f.1 r f.2]
        exact k _ _ _ (Le.refl ex) (.bl _)
      · cases hb
  · cases hb
theorem od_in : OpD X (compareOp .In) pIn := in_gen (neg := false) op_in_sign op_in_seq fun _ _ => rfl
theorem od_notIn : OpD X (compareOp .NotIn) pNotIn := in_gen (neg := true) op_notIn_sign op_notIn_seq fun _ _ => rfl
end
end DL

set_option maxRecDepth 100000
set_option maxHeartbeats 2000000
/-! The data layer, 4: subscripts, slices, calls of built-in functions and methods, calls of defs. -/
namespace DL
open PySem PySem.Spec PyProof.Rows L2

theorem RpAll.atI {K : PySem.W.Frag} {G : Hp} {vs : List V} {ds : List D} {i : Int} {d : D} (r : RpAll K G vs ds) (h : L2.atI ds i = some d) : ∃ v, L2.atI vs i = some v ∧ Rp K G v d := by
  unfold L2.atI at h ⊢
  rw [r.length]
  cases q : ixN ds.length i with
  | none => rw [q] at h; cases h
  | some j =>
    rw [q] at h
    obtain ⟨x, h1, h2⟩ := r.get' (i := j) h
    exact ⟨x, h1, h2⟩
def pIx : D → D → Option D
  | .list ds, .int i => atI ds i
  | .tuple ds, .int i => atI ds i
  | .str z, .int i => if z.length ≤ lim then (atI z.cps.toList i).map fun c => .str ⟨#[c]⟩ else none
  | _, _ => none
section
variable {X : Cx} {ct : String → Addr} {W : WX} {x : Str} {p pos : Pos} {a b c e o : Expr} {es : List Expr} {fa fb fc : DS → Out D} {ga gb : DS → Out (List D)}
theorem xd_ix : IxR X (rD X.K pIx) := by
  intro value slice pins s σ H x y v u Q I rx ry q hs
  obtain ⟨G, d, e, r, ex, hx, hy, hp, k⟩ := q
  unfold pIx at hp
  split at hp
  · cases hx with
    | lst h r1 =>
      cases hy
      obtain ⟨w, hw, rw'⟩ := r1.atI hp
      exact ix_list value slice pins s σ H _ _ v u Q I rx ry ⟨_, _, _, w, rfl, rfl, SqL.of (ex _ _ h), hw, k _ _ _ (Le.refl ex) rw'⟩ hs
  · cases hx with
    | tup h r1 =>
      cases hy
      obtain ⟨w, hw, rw'⟩ := r1.atI hp
      exact ix_tup value slice pins s σ H _ _ v u Q I rx ry ⟨_, _, _, w, rfl, rfl, ex.sqT h, hw, k _ _ _ (Le.refl ex) rw'⟩ hs
  · cases hx; cases hy
    split at hp
    · rename_i hl
      rw [Option.map_eq_some_iff] at hp
      obtain ⟨c, hc, rfl⟩ := hp
      exact ix_str value slice pins s σ H _ _ v u Q I rx ry ⟨_, _, c, rfl, rfl, lim_line hl, hc, k _ _ _ (Le.refl ex) (.str _)⟩ hs
    · cases hp
  · cases hp
theorem de_ix (ha : DE X ct W a fa) (hb : DE X ct W b fb) (hs : PlainIx b := by exact fun _ _ => rfl) : DE X ct W (.Subscript a b pos) (dOp pIx fa fb) :=
  PE_imp (pe_ix xd_ix ha hb hs) (op_imp (fun _ _ _ h => h) fun _ _ _ h => h)
/-- a slot's list, own or not -/
def dSeq (s : Option Sl) : Option D := match s with
  | some (.own ds) => some (.list ds)
  | some (.val d) => some d
  | _ => none
/-- name[e], the name's list may be the def's own -/
def dIxV (i : Nat) (fb : DS → Out D) : DS → Out D := fun σ => Out.opt (dSeq σ[i]?) >>= fun d => fb σ >>= fun k => Out.opt (pIx d k)
theorem de_ixV (i : Nat) (ha : PE X (.Name x p) (tVar i)) (hb : DE X ct W b fb) (hs : PlainIx b := by exact fun _ _ => rfl) : DE X ct W (.Subscript (.Name x p) b pos) (dIxV i fb) := by
  refine PE_imp (pe_ix ((ix_list (X := X)).or xd_ix) ha hb hs) ?_
  rintro σ H Q ⟨G0, B, G, σd, S, post⟩
  unfold dIxV at post
  cases hi : σd[i]? with
  | none => rw [hi] at post; exact post.elim
  | some s =>
    rw [hi] at post
    cases s with
    | nil => exact post.elim
    | raw ds => exact post.elim
    | val d =>
      obtain ⟨o, ho, v, rfl, r⟩ := S.at_ hi
      refine ⟨v, ho, G0, B, G, σd, S, Post.bind post fun kd G1 H1 hd le1 post1 => fun y ry => ?_⟩
      obtain ⟨z, hz, k⟩ := Post.opt le1.x post1
      exact .inr ⟨G1, d, kd, z, le1.x, r.mono le1.g, ry, hz, fun w G3 H3 le3 rw => k G3 H3 le3 w rw⟩
    | own ds =>
      obtain ⟨o, ho, q, vs, rfl, hb', hg, hh, r⟩ := S.at_ hi
      refine ⟨.ref q, ho, G0, B, G, σd, S, Post.bind post fun kd G1 H1 hd le1 post1 => fun y ry => ?_⟩
      obtain ⟨z, hz, k⟩ := Post.opt le1.x post1
      cases ry with
      | int j =>
        obtain ⟨w, hw, rw'⟩ := (r.mono le1.g).atI (show atI ds j = some z from hz)
        exact .inl ⟨q, vs, j, w, rfl, rfl, SqL.of (le1.h _ _ hh), hw, k G1 H1 (Le.refl le1.x) w rw'⟩
      | _ => exact absurd hz (by simp [pIx])

/-! ### built-in functions -/
def rC (K : PySem.W.Frag) (p : List D → Option D) : List V → Hp → VK → Prop := fun vs H Q => ∃ G ds r, Ex G H ∧ RpAll K G vs ds ∧ p ds = some r ∧ ∀ v G' H', Le G H G' H' → Rp K G' v r → Q v H'
abbrev CallD (X : Cx) (f : Value) (p : List D → Option D) : Prop := CallR X f (rC X.K p)
def dCall (p : List D → Option D) (g : DS → Out (List D)) : DS → Out D := fun σ => g σ >>= fun ds => Out.opt (p ds)
theorem call_imp {p : List D → Option D} : ∀ σ H Q, teD X.K ct W (dCall p ga) σ H Q → tCB (rC X.K p) (taD X.K ct W ga) σ H Q := by
  rintro σ H Q ⟨G0, B, G, σd, S, post⟩
  refine ⟨G0, B, G, σd, S, Post.bind post fun ds G1 H1 hd le1 post1 => fun vs rvs => ?_⟩
  obtain ⟨r, hr, k⟩ := Post.opt le1.x post1
  exact ⟨G1, ds, r, le1.x, rvs, hr, fun v G2 H2 le2 rv => k G2 H2 le2 v rv⟩
theorem de_callB {id : String} {q : List D → Option D} (hc : CallD X (.builtin id) q) (hg : Gl X x) (hm : X.mg x = none) (hv : bootBuiltins x = some (.builtin id)) (ha : DA X ct W (e :: es) ga) (hn : x ≠ "__name__" := by decide) (hdb : (x == ("__debug__" : Str)) = false := by decide)
    (he : starEach (e :: es) X.env = (false, eval e X.env) :: starEach es X.env := by rfl) (hpl : (backTo pos (starEach es X.env)).any (·.1) = false := by rfl) : DE X ct W (.Call (.Name x p) (e :: es) [] pos) (dCall q ga) :=
  PE_imp (pe_callB hc hg hm hv ha hn hdb he hpl) call_imp
theorem de_callTy {T : String} {q : List D → Option D} (hc : CallD X (.type T) q) (hg : Gl X x) (hm : X.mg x = none) (hv : bootBuiltins x = some (.type T)) (ha : DA X ct W (e :: es) ga) (hn : x ≠ "__name__" := by decide) (hdb : (x == ("__debug__" : Str)) = false := by decide)
    (he : starEach (e :: es) X.env = (false, eval e X.env) :: starEach es X.env := by rfl) (hpl : (backTo pos (starEach es X.env)).any (·.1) = false := by rfl) : DE X ct W (.Call (.Name x p) (e :: es) [] pos) (dCall q ga) :=
  PE_imp (pe_callTy hc hg hm hv ha hn hdb he hpl) call_imp
theorem cdc {f : Value} {p : List D → Option D} (h : ∀ vs G H Q ds r, Ex G H → RpAll X.K G vs ds → p ds = some r → (∀ v G' H', Le G H G' H' → Rp X.K G' v r → Q v H') → ∃ r2, CallR X f r2 ∧ r2 vs H Q) : CallD X f p := by
  intro pins s σ H xs us Q I rx q
  obtain ⟨G, ds, r, ex, hx, hp, k⟩ := q
  obtain ⟨r2, ho, q⟩ := h xs G H Q ds r ex hx hp k
  exact ho pins s σ H xs us Q I rx q
def lenD : D → Option Nat
  | .str z => if z.length ≤ lim then some z.length else none
  | .list ds => some ds.length
  | .tuple ds => some ds.length
  | _ => none
def pLen : List D → Option D
  | [d] => (lenD d).map fun (n : Nat) => .int (n : Int)
  | _ => none
theorem cd_len : CallD X (.builtin "len") pLen := cdc fun vs G H Q ds r ex hx hp k => by
  unfold pLen at hp
  split at hp
  · rename_i d
    rw [Option.map_eq_some_iff] at hp
    obtain ⟨n, hn, rfl⟩ := hp
    cases hx with
    | cons h1 h2 =>
      cases h2
      unfold lenD at hn
      split at hn
      · cases h1
        split at hn
        · rename_i hl
          cases hn
          exact ⟨_, call_len_str, _, rfl, lim_line hl, k _ _ _ (Le.refl ex) (.int _)⟩
        · cases hn
      · cases h1 with
        | lst h r =>
          cases hn
          refine ⟨_, call_len_seq, _, _, rfl, .inl (SqL.of (ex _ _ h)), ?_⟩
          rw [r.length]
          exact k _ _ _ (Le.refl ex) (.int _)
      · cases h1 with
        | tup h r =>
          cases hn
          refine ⟨_, call_len_seq, _, _, rfl, .inr (ex.sqT h), ?_⟩
          rw [r.length]
          exact k _ _ _ (Le.refl ex) (.int _)
      · cases hn
  · cases hp
/-- len(name), the name's list may be the def's own -/
def dLenV (i : Nat) : DS → Out D := fun σ => Out.opt (dSeq σ[i]?) >>= fun d => Out.opt (pLen [d])
theorem de_lenV (i : Nat) {p2 : Pos} {y : Str} (hn : PE X (.Name y p2) (tVar i)) (hg : Gl X "len") (hm : X.mg "len" = none) (he : starEach [.Name y p2] X.env = (false, eval (.Name y p2) X.env) :: starEach [] X.env := by rfl) : DE X ct W (.Call (.Name "len" p) [.Name y p2] [] pos) (dLenV i) := by
  refine PE_imp (pe_callB ((call_len_seq (X := X)).or cd_len) hg hm PySem.boot_len (pa_cons hn pa_nil he) (by decide) (by decide) he rfl) ?_
  rintro σ H Q ⟨G0, B, G, σd, S, post⟩
  unfold dLenV at post
  cases hi : σd[i]? with
  | none => rw [hi] at post; exact post.elim
  | some s =>
    rw [hi] at post
    cases s with
    | nil => exact post.elim
    | raw ds => exact post.elim
    | val d =>
      obtain ⟨o, ho, v, rfl, r⟩ := S.at_ hi
      have post' : Post ct W G H σ _ (Out.opt (pLen [d])) := post
      obtain ⟨z, hz, k⟩ := Post.opt S.le.x post'
      exact ⟨v, ho, .inr ⟨G, [d], z, S.le.x, .cons r .nil, hz, fun w G3 H3 le3 rw => k G3 H3 le3 w rw⟩⟩
    | own ds =>
      obtain ⟨o, ho, q, vs, rfl, hb', hg, hh, r⟩ := S.at_ hi
      have post' : Post ct W G H σ _ (Out.opt (pLen [.list ds])) := post
      obtain ⟨z, hz, k⟩ := Post.opt S.le.x post'
      cases hz
      refine ⟨.ref q, ho, .inl ⟨q, vs, rfl, .inl (SqL.of hh), ?_⟩⟩
      rw [r.length]
      exact k G H (Le.refl S.le.x) _ (.int _)
def pAbs : List D → Option D
  | [.int i] => some (.int (if i < 0 then -i else i))
  | _ => none
theorem cd_abs : CallD X (.builtin "abs") pAbs := cdc fun vs G H Q ds r ex hx hp k => by
  unfold pAbs at hp
  split at hp
  · cases hx with
    | cons h1 h2 =>
      cases h2; cases h1; cases hp
      exact ⟨_, call_abs, _, rfl, k _ _ _ (Le.refl ex) (.int _)⟩
  · cases hp
def pMin : List D → Option D
  | [.int i, .int j] => some (.int (if j < i then j else i))
  | _ => none
def pMax : List D → Option D
  | [.int i, .int j] => some (.int (if j > i then j else i))
  | _ => none
theorem cd_min (hc : X.calm = true) : CallD X (.builtin "min") pMin := cdc fun vs G H Q ds r ex hx hp k => by
  unfold pMin at hp
  split at hp
  · cases hx with
    | cons h1 h2 =>
      cases h2 with
      | cons h2 h3 =>
        cases h3; cases h2; cases h1; cases hp
        exact ⟨_, call_min2 hc, _, _, rfl, k _ _ _ (Le.refl ex) (.int _)⟩
  · cases hp
theorem cd_max (hc : X.calm = true) : CallD X (.builtin "max") pMax := cdc fun vs G H Q ds r ex hx hp k => by
  unfold pMax at hp
  split at hp
  · cases hx with
    | cons h1 h2 =>
      cases h2 with
      | cons h2 h3 =>
        cases h3; cases h2; cases h1; cases hp
        exact ⟨_, call_max2 hc, _, _, rfl, k _ _ _ (Le.refl ex) (.int _)⟩
  · cases hp
def pInt : List D → Option D
  | [.int i] => some (.int i)
  | _ => none
theorem cd_int : CallD X (.type "int") pInt := cdc fun vs G H Q ds r ex hx hp k => by
  unfold pInt at hp
  split at hp
  · cases hx with
    | cons h1 h2 =>
      cases h2; cases h1; cases hp
      exact ⟨_, call_int1, .inl ⟨_, rfl, k _ _ _ (Le.refl ex) (.int _)⟩⟩
  · cases hp
def strI (i : Int) : Str := toString i
def pStr : List D → Option D
  | [.int i] => if i.natAbs.log2 < 1920 then some (.str (strI i)) else none
  | _ => none
theorem cd_str : CallD X (.type "str") pStr := cdc fun vs G H Q ds r ex hx hp k => by
  unfold pStr at hp
  split at hp
  · cases hx with
    | cons h1 h2 =>
      cases h2; cases h1
      split at hp
      · rename_i hl
        cases hp
        exact ⟨_, call_str_int, _, rfl, hl, k _ _ _ (Le.refl ex) (.str _)⟩
      · cases hp
  · cases hp
def bools : List D → Option (List Bool)
  | [] => some []
  | .bool b :: ds => (bools ds).map (b :: ·)
  | _ :: _ => none
theorem bools_vals {K : PySem.W.Frag} {G : Hp} : ∀ {vs : List V} {ds : List D} {bs : List Bool}, RpAll K G vs ds → bools ds = some bs → vs = bs.map V.bl
  | _, [], _, .nil, h => by cases h; rfl
  | _, d :: ds, bs, .cons h1 h2, h => by
    unfold bools at h
    split at h
    · rename_i e; cases e
    · rename_i b ds' e
      cases e
      rw [Option.map_eq_some_iff] at h
      obtain ⟨bs', h3, rfl⟩ := h
      cases h1
      rw [List.map_cons, bools_vals h2 h3]
    · cases h
def pAll : List D → Option D
  | [.list ds] => (bools ds).map fun bs => .bool (bs.all id)
  | _ => none
def pAny : List D → Option D
  | [.list ds] => (bools ds).map fun bs => .bool (bs.any id)
  | _ => none
theorem cd_all (hc : X.calm = true) : CallD X (.builtin "all") pAll := cdc fun vs G H Q ds r ex hx hp k => by
  unfold pAll at hp
  split at hp
  · cases hx with
    | cons h1 h2 =>
      cases h2
      rw [Option.map_eq_some_iff] at hp
      obtain ⟨bs, hb, rfl⟩ := hp
      cases h1 with
      | lst h r =>
        have e := bools_vals r hb
        subst e
        exact ⟨_, cr_all hc, _, bs, rfl, SqL.of (ex _ _ h), k _ _ _ (Le.refl ex) (.bl _)⟩
  · cases hp
theorem cd_any (hc : X.calm = true) : CallD X (.builtin "any") pAny := cdc fun vs G H Q ds r ex hx hp k => by
  unfold pAny at hp
  split at hp
  · cases hx with
    | cons h1 h2 =>
      cases h2
      rw [Option.map_eq_some_iff] at hp
      obtain ⟨bs, hb, rfl⟩ := hp
      cases h1 with
      | lst h r =>
        have e := bools_vals r hb
        subst e
        exact ⟨_, cr_any hc, _, bs, rfl, SqL.of (ex _ _ h), k _ _ _ (Le.refl ex) (.bl _)⟩
  · cases hp
def intsD : List D → Option (List Int)
  | [] => some []
  | .int b :: ds => (intsD ds).map (b :: ·)
  | _ :: _ => none
theorem ints_vals {K : PySem.W.Frag} {G : Hp} : ∀ {vs : List V} {ds : List D} {bs : List Int}, RpAll K G vs ds → intsD ds = some bs → vs = bs.map V.int
  | _, [], _, .nil, h => by cases h; rfl
  | _, d :: ds, bs, .cons h1 h2, h => by
    unfold intsD at h
    split at h
    · rename_i e; cases e
    · rename_i b ds' e
      cases e
      rw [Option.map_eq_some_iff] at h
      obtain ⟨bs', h3, rfl⟩ := h
      cases h1
      rw [List.map_cons, ints_vals h2 h3]
    · cases h
def pSum : List D → Option D
  | [.list ds] => (intsD ds).map fun bs => .int bs.sum
  | _ => none
theorem cd_sum (hc : X.calm = true) : CallD X (.builtin "sum") pSum := cdc fun vs G H Q ds r ex hx hp k => by
  unfold pSum at hp
  split at hp
  · cases hx with
    | cons h1 h2 =>
      cases h2
      rw [Option.map_eq_some_iff] at hp
      obtain ⟨bs, hb, rfl⟩ := hp
      cases h1 with
      | lst h r =>
        have e := ints_vals r hb
        subst e
        exact ⟨_, cr_sum hc, _, bs, rfl, SqL.of (ex _ _ h), k _ _ _ (Le.refl ex) (.int _)⟩
  · cases hp
def pTuple : List D → Option D
  | [.list ds] => some (.tuple ds)
  | [.tuple ds] => some (.tuple ds)
  | _ => none
theorem cd_tuple : CallD X (.type "tuple") pTuple := cdc fun vs G H Q ds r ex hx hp k => by
  unfold pTuple at hp
  split at hp
  · cases hx with
    | cons h1 h2 =>
      cases h2; cases hp
      cases h1 with
      | lst h r => exact ⟨_, call_tuple_of, _, _, rfl, .inl ⟨SqL.of (ex _ _ h), fun p hp => k _ _ _ (Le.new ex hp) (.tup (SqT.of upd_same) (r.mono (Ex.new (ex.free hp))))⟩⟩
  · cases hx with
    | cons h1 h2 =>
      cases h2; cases hp
      cases h1 with
      | tup h r => exact ⟨_, call_tuple_of, _, _, rfl, .inr ⟨ex.sqT h, k _ _ _ (Le.refl ex) (.tup h r)⟩⟩
  · cases hp
/-- isinstance(x, T), T a built-in class -/
def tyName : D → String
  | .none => "NoneType"
  | .bool _ => "bool"
  | .int _ => "int"
  | .str _ => "str"
  | .list _ => "list"
  | .tuple _ => "tuple"
  | .dict _ => "dict"
def isTy (T : String) (d : D) : Bool := tyName d == T || (T == "int" && tyName d == "bool")
def kitAll (T : String) : Bool := (["NoneType", "bool", "int", "str", "list", "tuple", "dict"].all fun n => kitB n T == some (n == T || (T == "int" && n == "bool")))
theorem kitAll_of {T : String} (h : kitAll T = true) (d : D) : kitB (tyName d) T = some (isTy T d) := by
  unfold kitAll at h
  simp only [List.all_cons, List.all_nil, Bool.and_eq_true, beq_iff_eq, Bool.and_true] at h
  obtain ⟨h1, h2, h3, h4, h5, h6, h7⟩ := h
  cases d <;> first | exact h1 | exact h2 | exact h3 | exact h4 | exact h5 | exact h6 | exact h7
theorem Rp.ty {K : PySem.W.Frag} {G H : Hp} {v : V} {d : D} (h : Rp K G v d) (ex : Ex G H) : TyX K H v (.type (tyName d)) := by
  cases h with
  | non => exact .base .non
  | bl b => exact .base (.bl b)
  | int i => exact .base (.int i)
  | str z => exact .base (.str z)
  | lst h r => exact .base (.lst (ex _ _ h))
  | dct h r => exact .base (.dK (ex _ _ h))
  | tup h r =>
    rcases h with (h | ⟨o, h⟩) | ⟨o, its, n, h, hc, _⟩
    · exact .base (.tup (ex _ _ h))
    · exact .fTuple (ex _ _ h)
    · exact .kTuple h hc
def dIsi (T : String) (f : DS → Out D) : DS → Out D := fun σ => f σ >>= fun d => .ok (.bool (isTy T d))
theorem de_isi {T : String} (h : DE X ct W a fa) (hT : PE X b (tC (.ty T))) (hg : Gl X "isinstance") (hm : X.mg "isinstance" = none) (hk : kitAll T = true)
    (he : starEach [a, b] X.env = (false, eval a X.env) :: starEach [b] X.env := by rfl) (he2 : starEach [b] X.env = (false, eval b X.env) :: starEach [] X.env := by rfl) (hpl : (backTo pos (starEach [b] X.env)).any (·.1) = false := by rfl) :
    DE X ct W (.Call (.Name "isinstance" p) [a, b] [] pos) (dIsi T fa) := by
  refine PE_imp (pe_callB call_isi hg hm (by decide +kernel) (pa_cons h (pa_cons hT pa_nil he2) he) (by decide) (by decide) he hpl) ?_
  rintro σ H Q ⟨G0, B, G, σd, S, post⟩
  refine ⟨G0, B, G, σd, S, Post.bind post fun d G1 H1 hd le1 post1 => fun v rv => ?_⟩
  exact ⟨v, .ty T, _, _, isTy T d, rfl, .ty T, rv.ty le1.x, kit_ty (kitAll_of hk d), post1 G1 H1 (Le.refl le1.x) _ (.bl _)⟩

/-! ### methods of texts -/
def rM (K : PySem.W.Frag) (p : D → List D → Option D) : V → List V → Hp → VK → Prop := fun x xs H Q => ∃ G d ds r, Ex G H ∧ Rp K G x d ∧ RpAll K G xs ds ∧ p d ds = some r ∧ ∀ v G' H', Le G H G' H' → Rp K G' v r → Q v H'
abbrev MtD (X : Cx) (id : String) (p : D → List D → Option D) : Prop := MtR X id (rM X.K p)
def isStr : D → Bool
  | .str _ => true
  | _ => false
def dSM (p : D → List D → Option D) (f : DS → Out D) (g : DS → Out (List D)) : DS → Out D := fun σ => f σ >>= fun d => if isStr d = true then g σ >>= fun ds => Out.opt (p d ds) else .no
theorem de_sm {name : Str} {apos : Pos} {id : String} {q : D → List D → Option D} (pa : PlainAttrs "str") (slot : Slot "str" name id) (hty : typeOf (.builtin id) = pure (.type "method_descriptor")) (hm : MtD X id q) (ho : DE X ct W o fa) (ha : DA X ct W (e :: es) ga)
    (hbase : attributeBase o name X.env (eval o X.env) = eval o X.env := by rfl)
    (hfew : ((backTo pos (starEach (e :: es) X.env)).all (fun x => !x.1) && (backToKw pos (keywordEach [] X.env)).all (fun x => x.1.isSome)
      && decide ((e :: es).length + ([] : List Keyword).length + (if ([] : List Keyword).isEmpty then 0 else 1) < 30)) = true := by rfl)
    (hline : (apos.endLine == pos.line) = true := by rfl) (hs : starEach (e :: es) X.env = (false, eval e X.env) :: starEach es X.env := by rfl) (hplain : (backTo pos (starEach es X.env)).any (·.1) = false := by rfl) :
    DE X ct W (.Call (.Attribute o name apos) (e :: es) [] pos) (dSM q fa ga) := by
  refine PE_imp (pe_bm pa slot hty hm ho ha hbase hfew hline hs hplain) ?_
  rintro σ H Q ⟨G0, B, G, σd, S, post⟩
  refine ⟨G0, B, G, σd, S, Post.bind post fun d G1 H1 hd le1 post1 => fun v rv => ?_⟩
  by_cases hs : isStr d = true
  · rw [if_pos hs] at post1
    have ty : tyV X.K "str" v H1 := by
      cases rv <;> first | rfl | (simp [isStr] at hs)
    refine ⟨ty, G0, B, G1, σd, S.mono le1, Post.bind post1 fun ds G2 H2 hds le2 post2 => fun vs rvs => ?_⟩
    obtain ⟨r, hr, k⟩ := Post.opt le2.x post2
    exact ⟨G2, d, ds, r, le2.x, rv.mono le2.g, rvs, hr, fun w G3 H3 le3 rw => k G3 H3 le3 w rw⟩
  · rw [if_neg hs] at post1
    exact post1.elim
theorem mdc {id : String} {p : D → List D → Option D} (h : ∀ x vs G H Q d ds r, Ex G H → Rp X.K G x d → RpAll X.K G vs ds → p d ds = some r → (∀ v G' H', Le G H G' H' → Rp X.K G' v r → Q v H') → ∃ r2, MtR X id r2 ∧ r2 x vs H Q) : MtD X id p := by
  intro pins s σ H x xs v us Q I rx rs q
  obtain ⟨G, d, ds, r, ex, hx, hxs, hp, k⟩ := q
  obtain ⟨r2, ho, q⟩ := h x xs G H Q d ds r ex hx hxs hp k
  exact ho pins s σ H x xs v us Q I rx rs q
def strsD : List D → Option (List Str)
  | [] => some []
  | .str b :: ds => (strsD ds).map (b :: ·)
  | _ :: _ => none
theorem strs_vals {K : PySem.W.Frag} {G : Hp} : ∀ {vs : List V} {ds : List D} {bs : List Str}, RpAll K G vs ds → strsD ds = some bs → vs = bs.map V.str
  | _, [], _, .nil, h => by cases h; rfl
  | _, d :: ds, bs, .cons h1 h2, h => by
    unfold strsD at h
    split at h
    · rename_i e; cases e
    · rename_i b ds' e
      cases e
      rw [Option.map_eq_some_iff] at h
      obtain ⟨bs', h3, rfl⟩ := h
      cases h1
      rw [List.map_cons, strs_vals h2 h3]
    · cases h
def joinOf (a : Str) (ds : List D) : Option D := match strsD ds with
  | some ys => if (ys.map (·.length)).sum + ys.length * a.length ≤ lim then some (.str (Txt.join a ys)) else none
  | none => none
def pJoin : D → List D → Option D
  | .str a, [.list ds] => joinOf a ds
  | .str a, [.tuple ds] => joinOf a ds
  | _, _ => none
theorem md_join : MtD X "str.join" pJoin := mdc fun x vs G H Q d ds r ex hx hxs hp k => by
  have hlim : lim = 16000000 := rfl
  unfold pJoin at hp
  split at hp
  · cases hx
    cases hxs with
    | cons h1 h2 =>
      cases h2
      unfold joinOf at hp
      split at hp
      · rename_i ys hy
        split at hp
        · rename_i hl
          cases hp
          cases h1 with
          | lst h r =>
            have e := strs_vals r hy
            subst e
            exact ⟨_, mt_join, _, _, ys, rfl, rfl, .inl (SqL.of (ex _ _ h)), by omega, k _ _ _ (Le.refl ex) (.str _)⟩
        · cases hp
      · cases hp
  · cases hx
    cases hxs with
    | cons h1 h2 =>
      cases h2
      unfold joinOf at hp
      split at hp
      · rename_i ys hy
        split at hp
        · rename_i hl
          cases hp
          cases h1 with
          | tup h r =>
            have e := strs_vals r hy
            subst e
            exact ⟨_, mt_join, _, _, ys, rfl, rfl, .inr (ex.sqT h), by omega, k _ _ _ (Le.refl ex) (.str _)⟩
        · cases hp
      · cases hp
  · cases hp
def pFind : D → List D → Option D
  | .str a, [.str b] => some (.int (Txt.find a b))
  | .str a, [.str b, .int i] => some (.int (Txt.find3 a b i))
  | _, _ => none
theorem md_find : MtD X "str.find" pFind := mdc fun x vs G H Q d ds r ex hx hxs hp k => by
  unfold pFind at hp
  split at hp
  · cases hx
    cases hxs with
    | cons h1 h2 =>
      cases h2; cases h1; cases hp
      exact ⟨_, mt_find, _, _, rfl, rfl, k _ _ _ (Le.refl ex) (.int _)⟩
  · cases hx
    cases hxs with
    | cons h1 h2 =>
      cases h2 with
      | cons h2 h3 =>
        cases h3; cases h2; cases h1; cases hp
        exact ⟨_, mt_find3, _, _, _, rfl, rfl, k _ _ _ (Le.refl ex) (.int _)⟩
  · cases hp
def pIndex : D → List D → Option D
  | .str a, [.str b] => (Txt.index0 a b).map fun (n : Nat) => .int (n : Int)
  | _, _ => none
theorem mt_index1 (hc : X.calm = true) : MtR X "str.index" (fun x xs H Q => ∃ (a b : Str) (k : Nat), x = .str a ∧ xs = [.str b] ∧ Txt.index0 a b = some k ∧ Q (.int (k : Int)) H) := by
  intro pins s σ H x xs v us Q I rx rs h
  obtain ⟨a, b, k, rfl, rfl, hk, q⟩ := h
  refine mt_indexX (W := fun _ _ _ _ => False) hc takes0 pins s σ H _ _ v us Q I rx rs ⟨a, b, rfl, rfl, fun k' e => ?_, fun e => ?_⟩
  · rw [hk] at e; cases e; exact q
  · rw [hk] at e; cases e
theorem md_index (hc : X.calm = true) : MtD X "str.index" pIndex := mdc fun x vs G H Q d ds r ex hx hxs hp k => by
  unfold pIndex at hp
  split at hp
  · cases hx
    cases hxs with
    | cons h1 h2 =>
      cases h2; cases h1
      rw [Option.map_eq_some_iff] at hp
      obtain ⟨n, hn, rfl⟩ := hp
      exact ⟨_, mt_index1 hc, _, _, n, rfl, rfl, hn, k _ _ _ (Le.refl ex) (.int _)⟩
  · cases hp
theorem mt_rjustF : MtR X "str.rjust" (fun x xs H Q => ∃ (a f : Str) (i : Int), x = .str a ∧ xs = [.int i, .str f] ∧ PadOk i = true ∧ f.length = 1 ∧ Q (.str (Txt.rjustF a i (f.cps.getD 0 0))) H) := by
  intro pins s σ H x xs v us Q I rx rs h
  obtain ⟨a, f, i, rfl, rfl, hp, hf, q⟩ := h
  obtain ⟨t, rfl⟩ := rx
  cases rs with
  | cons r1 rs =>
    cases rs with
    | cons r2 rs =>
      cases rs
      obtain ⟨t1, rfl⟩ := r1
      obtain ⟨t2, rfl⟩ := r2
      exact rjust_fill hp hf fun t' k' => ⟨.str _, H, I.tok _, ⟨_, rfl⟩, q⟩
def pRjust : D → List D → Option D
  | .str a, [.int i, .str f] => if PadOk i && decide (f.length = 1) then some (.str (Txt.rjustF a i (f.cps.getD 0 0))) else none
  | _, _ => none
theorem md_rjust : MtD X "str.rjust" pRjust := mdc fun x vs G H Q d ds r ex hx hxs hp k => by
  unfold pRjust at hp
  split at hp
  · cases hx
    cases hxs with
    | cons h1 h2 =>
      cases h2 with
      | cons h2 h3 =>
        cases h3; cases h2; cases h1
        split at hp
        · rename_i h
          rw [Bool.and_eq_true, decide_eq_true_eq] at h
          cases hp
          exact ⟨_, mt_rjustF, _, _, _, rfl, rfl, h.1, h.2, k _ _ _ (Le.refl ex) (.str _)⟩
        · cases hp
  · cases hp

/-! ### slices -/
def asI : D → Option Int
  | .int i => some i
  | _ => none
def tpD (K : PySem.W.Frag) (ct : String → Addr) (W : WX) (f : DS → Out (Option Int)) : TO := fun σ H Q => ∃ G0 B G σd, Sim K G0 B G H σd σ ∧ Post ct W G H σ (fun o _ H' => Q o H') (f σd)
abbrev DP (X : Cx) (ct : String → Addr) (W : WX) (oe : Option Expr) (f : DS → Out (Option Int)) : Prop := PO X oe (tpD X.K ct W f)
theorem PO_imp {X : Cx} {e : Option Expr} {t t' : TO} (h : PO X e t) (i : ∀ σ H Q, t' σ H Q → t σ H Q) : PO X e t' := ⟨fun pins s σ H Q I q => h.run pins s σ H Q I (i σ H Q q)⟩
def dPN : DS → Out (Option Int) := fun _ => .ok none
def dPS (f : DS → Out D) : DS → Out (Option Int) := fun σ => f σ >>= fun d => Out.opt (asI d) >>= fun i => .ok (some i)
theorem dp_none : DP X ct W none dPN := by
  refine PO_imp po_none ?_
  rintro σ H Q ⟨G0, B, G, σd, S, post⟩
  exact post G H (Le.refl S.le.x)
theorem dp_some (h : DE X ct W e fa) : DP X ct W (some e) (dPS fa) := by
  refine PO_imp (po_some h) ?_
  rintro σ H Q ⟨G0, B, G, σd, S, post⟩
  refine ⟨G0, B, G, σd, S, Post.bind post fun d G1 H1 hd le1 post1 => fun v rv => ?_⟩
  have post2 : Post ct W G1 H1 σ (fun i _ H' => Q (some i) H') (Out.opt (asI d)) := Post.bind post1 fun i G2 H2 _ le2 h => h G2 H2 (Le.refl le2.x)
  obtain ⟨i, hi, k⟩ := Post.opt le1.x post2
  cases d <;> simp [asI] at hi
  cases rv
  subst hi
  exact ⟨_, rfl, k G1 H1 (Le.refl le1.x)⟩
def cutG {α : Type} (xs : List α) (lo hi : Option Int) : List α := (xs.drop (HT.sIx xs.length 0 lo)).take (HT.sIx xs.length xs.length hi - HT.sIx xs.length 0 lo)
def pSl (d : D) (lo hi : Option Int) : Option D := match d with
  | .list ds => some (.list (cutG ds lo hi))
  | .tuple ds => some (.tuple (cutG ds lo hi))
  | .str z => if z.length ≤ lim then some (.str (cutS z lo hi)) else none
  | _ => none
def dSl (f : DS → Out D) (l h : DS → Out (Option Int)) : DS → Out D := fun σ => f σ >>= fun d => l σ >>= fun lo => h σ >>= fun hi => Out.opt (pSl d lo hi)
theorem RpAll.cut {K : PySem.W.Frag} {G : Hp} {vs : List V} {ds : List D} (r : RpAll K G vs ds) (lo hi : Option Int) : RpAll K G (cutV vs lo hi) (cutG ds lo hi) := by
  unfold cutV cutG
  rw [r.length]
  exact (r.drop _).take _
theorem cutG_whole {α : Type} {xs : List α} {lo hi : Option Int} (h : HT.sIx xs.length 0 lo = 0 ∧ HT.sIx xs.length xs.length hi = xs.length) : cutG xs lo hi = xs := by
  unfold cutG
  rw [h.1, h.2]
  simp
def rSlD (K : PySem.W.Frag) : V → Option Int → Option Int → Hp → VK → Prop := fun x lo hi H Q => ∃ G d r, Ex G H ∧ Rp K G x d ∧ pSl d lo hi = some r ∧ ∀ v G' H', Le G H G' H' → Rp K G' v r → Q v H'
theorem sd_sl : SlR X (rSlD X.K) := by
  intro pins s σ H x v vl vu lo hi sl Q I rx hs pl pu h
  obtain ⟨G, d, r, ex, hx, hp, k⟩ := h
  unfold pSl at hp
  split at hp
  · cases hx with
    | lst h r1 =>
      cases hp
      exact sl_list pins s σ H _ v vl vu lo hi sl Q I rx hs pl pu ⟨_, _, rfl, SqL.of (ex _ _ h), fun p hp => k _ _ _ (Le.new ex hp) (.lst upd_same ((r1.cut lo hi).mono (Ex.new (ex.free hp))))⟩
  · cases hx with
    | tup h r1 =>
      cases hp
      refine sl_tupA pins s σ H _ v vl vu lo hi sl Q I rx hs pl pu ⟨_, _, rfl, ex.sqT h, fun w => ?_, fun _ p hp => k _ _ _ (Le.new ex hp) (.tup (SqT.of upd_same) ((r1.cut lo hi).mono (Ex.new (ex.free hp))))⟩
      rw [r1.length] at w
      rw [cutG_whole w] at k
      exact k _ _ _ (Le.refl ex) (.tup h r1)
  · cases hx
    split at hp
    · rename_i hl
      cases hp
      exact sl_str pins s σ H _ v vl vu lo hi sl Q I rx hs pl pu ⟨_, rfl, lim_line hl, k _ _ _ (Le.refl ex) (.str _)⟩
    · cases hp
  · cases hp
theorem de_sl {lo hi : Option Expr} {p2 : Pos} {l h : DS → Out (Option Int)} (he : DE X ct W e fa) (hl : DP X ct W lo l) (hh : DP X ct W hi h) : DE X ct W (.Subscript e (.Slice lo hi none p2) pos) (dSl fa l h) := by
  refine PE_imp (pe_slice sd_sl he hl hh) ?_
  rintro σ H Q ⟨G0, B, G, σd, S, post⟩
  refine ⟨G0, B, G, σd, S, Post.bind post fun d G1 H1 hd le1 post1 => fun v rv => ?_⟩
  refine ⟨G0, B, G1, σd, S.mono le1, Post.bind post1 fun lo G2 H2 hlo le2 post2 => ?_⟩
  refine ⟨G0, B, G2, σd, (S.mono le1).mono le2, Post.bind post2 fun hi G3 H3 hhi le3 post3 => ?_⟩
  obtain ⟨r, hr, k⟩ := Post.opt le3.x post3
  exact ⟨G3, d, r, le3.x, rv.mono (le2.trans le3).g, hr, fun w G4 H4 le4 rw => k G4 H4 le4 w rw⟩
/-- a slice of a list that is read alone, or of the def's own: a new list -/
def rawSeq (s : Option Sl) : Option (List D) := match s with
  | some (.own ds) => some ds
  | some (.raw ds) => some ds
  | some (.val (.list ds)) => some ds
  | _ => none
def dSlV (i : Nat) (l h : DS → Out (Option Int)) : DS → Out (List D) := fun σ => Out.opt (rawSeq σ[i]?) >>= fun ds => l σ >>= fun lo => h σ >>= fun hi => .ok (cutG ds lo hi)
theorem rawSeq_at {K : PySem.W.Frag} {G0 B G H : Hp} {σd : List Sl} {σ : L2.St} (S : Sim K G0 B G H σd σ) {i : Nat} {ds : List D} (h : rawSeq σd[i]? = some ds) : ∃ q vs, σ[i]? = some (some (.ref q)) ∧ SqL K H q vs ∧ RpAll K G vs ds := by
  cases hi : σd[i]? with
  | none => rw [hi] at h; cases h
  | some s =>
    rw [hi] at h
    obtain ⟨o, ho, q⟩ := S.at_ hi
    cases s with
    | nil => cases h
    | own ds' =>
      cases h
      obtain ⟨p, vs, rfl, _, _, hh, r⟩ := q
      exact ⟨p, vs, ho, SqL.of hh, r⟩
    | raw ds' =>
      cases h
      obtain ⟨p, vs, rfl, hh, r⟩ := q
      exact ⟨p, vs, ho, S.le.x.sqL hh, r⟩
    | val d =>
      cases d with
      | list ds' =>
        cases h
        obtain ⟨v, rfl, r⟩ := q
        cases r with
        | lst hh r => exact ⟨_, _, ho, SqL.of (S.le.x _ _ hh), r⟩
      | _ => cases h
theorem df_slV (i : Nat) {lo hi : Option Expr} {p2 : Pos} {l h : DS → Out (Option Int)} (hn : PE X (.Name x p) (tVar i)) (hl : DP X ct W lo l) (hh : DP X ct W hi h) : DF X ct W (.Subscript (.Name x p) (.Slice lo hi none p2) pos) (dSlV i l h) := by
  refine PE_imp (pe_slice sl_list hn hl hh) ?_
  rintro σ H Q ⟨G0, B, G, σd, S, post⟩
  unfold dSlV at post
  cases hq : rawSeq σd[i]? with
  | none => rw [hq] at post; exact post.elim
  | some ds =>
    rw [hq] at post
    obtain ⟨q, vs, ho, hsq, r⟩ := rawSeq_at S hq
    refine ⟨.ref q, ho, ?_⟩
    refine ⟨G0, B, G, σd, S, Post.bind post fun lo G2 H2 hlo le2 post2 => ?_⟩
    refine ⟨G0, B, G2, σd, S.mono le2, Post.bind post2 fun hi G3 H3 hhi le3 post3 => ?_⟩
    refine ⟨q, vs, rfl, (le2.trans le3).h.sqL hsq, fun p hp => ?_⟩
    exact post3 _ _ (Le.newM le3.x hp) p _ ((le2.trans le3).h.free hp) (le3.x.free hp) upd_same ((r.mono (le2.trans le3).g).cut lo hi)
end
end DL

set_option maxRecDepth 100000
set_option maxHeartbeats 2000000
/-! The data layer, 5: enumerate over tuples and texts. -/
namespace DLE
open PySem
set_option maxHeartbeats 4000000 in
theorem makes_enum {v : Value} {o : Obj} {C : Heap → Prop} (B : Begins v o C) :
    Meets (Builtin.«enumerate.__new__» ⟨[.type "enumerate", v], []⟩) (fun _ R s => C s.heap ∧
      R (.ok (.ret (.ref (s.heap.push o).objs.size)))
        { s with heap := (s.heap.push o).push { cls := .type "enumerate", data := .fields #[.none, .bool false, .ref s.heap.objs.size, rawInt 0, .none, .none] } }) :=
  .of_wp fun prog w A R s h => by
    obtain ⟨hp, g, d, tk, os⟩ := s
    obtain ⟨h1, h⟩ := h
    have hsub := sub_enumerate
    have itr : ∀ {A' : Around} {E : Value → Shared → Prop} {Q : Value → Shared → Prop}, Q (.ref hp.objs.size) ⟨hp.push o, g, d, tk, os⟩ → wpAny (model prog w) A' (pyIter v) Q E ⟨hp, g, d, tk, os⟩ := fun {A' E Q} q => B.iter prog w A' E ⟨hp, g, d, tk, os⟩ Q h1 q
    wp_walk using itr
    refine wpAny_stack_any fun st => wpAny_pure ?_
    split
    · rename_i c _ _ _ _ _
      cases (c == Value.type "enumerate")
      all_goals
        wp_walk using itr
        exact ⟨_, rfl, h⟩
    · wp_walk using itr
      exact ⟨_, rfl, h⟩
section
variable {prog : Program} {w : World} {A : Around} {E : Value → Shared → Prop} {s : Shared}
theorem call_enum {v : Value} {o : Obj} {C : Heap → Prop} {Q : Value → Shared → Prop} (B : Begins v o C) (h1 : C s.heap)
    (h : ∀ h', IsEnum h' (s.heap.objs.size + 1) s.heap.objs.size 0 .none → h'.get? s.heap.objs.size = some o → (∀ b u, s.heap.get? b = some u → h'.get? b = some u) → Q (.ref (s.heap.objs.size + 1)) { s with heap := h' }) :
    wpAny (model prog w) A (call (.type "enumerate") [v]) Q E s := by
  refine callType_new F.called_enumerate (by decide) (F.typeCall_enumerate_1 _) (F.newCall_enumerate_1 _) (fun obj => F.args_object_init_2 obj _) F.entry_enumerate_new (makes_enum B) ⟨h1, ?_⟩
  have hz : (s.heap.push o).objs.size = s.heap.objs.size + 1 := Heap.size_push ..
  show _ ∧ _
  rw [hz]
  have he : IsEnum ((s.heap.push o).push { cls := .type "enumerate", data := .fields #[.none, .bool false, .ref s.heap.objs.size, rawInt 0, .none, .none] }) (s.heap.objs.size + 1) s.heap.objs.size 0 .none := by
    have q := Heap.get?_push_size (s.heap.push o) (o := { cls := .type "enumerate", data := .fields #[.none, .bool false, .ref s.heap.objs.size, rawInt 0, .none, .none] }) rfl
    rw [hz] at q
    exact q
  exact ⟨⟨_, he, rfl⟩, h _ he (Heap.get?_push_of_some _ (Heap.get?_push_size _ B.free)) fun b u x => Heap.get?_push_of_some _ (Heap.get?_push_of_some _ x)⟩
end
end DLE
namespace DL
open PySem PySem.Spec PyProof.Rows L2
/-- the tuple at a, item by item, each in a new pair -/
def IteT (K : PySem.W.Frag) (a : Addr) : It :=
  ⟨fun i H => ∃ (xs : List V) (x : V), SqT K H a xs ∧ xs[i]? = some x, fun i H v H' => ∃ T x, v = .ref T ∧ H T = none ∧ H' = upd H T (.tup [.int (i : Nat), x]) ∧ ∀ xs, SqT K H a xs → xs[i]? = some x, fun i H => ∃ xs : List V, SqT K H a xs ∧ xs.length ≤ i⟩
/-- a text, sign by sign, each in a new pair -/
def IteS (z : Str) : It :=
  ⟨fun i _ => i < z.cps.size, fun i H v H' => ∃ T c, v = .ref T ∧ H T = none ∧ H' = upd H T (.tup [.int (i : Nat), .str ⟨#[c]⟩]) ∧ z.cps[i]? = some c, fun i _ => z.cps.size ≤ i⟩
/-- the turn of an enumerate whose inner iterator draws -/
theorem enum_item {X : Cx} {pins : List (Addr × Obj)} {σ : L2.St} {H : Hp} {s : Shared} {E : Value → Shared → Prop} {e it : Addr} {fp : List Addr} {n i : Nat} {P : Nat → Value → Prop} {S : Nat → Heap → Prop} {old : Value} {elts : List Expr} {kk : Nat} {tpos : Pos} {R : V → Hp → Heap → Prop}
    (I : Inv X pins σ H s) (hf : ∀ b ∈ [e, it], FpOk X pins H b) (D : Draws X.prog X.w X.A.in1 it fp n P S) (he : IsEnum s.heap e it i old) (hit : it < s.heap.objs.size) (hst : S i s.heap) (hlt : i < n) (hne : e ≠ it) (hef : e ∉ fp)
    (k : ∀ (x : Value) (h'' : Heap), P i x → (∃ old', IsEnum h'' e it ((i : Int) + 1) old') → S (i + 1) h'' → ∃ v, RelV v x ∧ R v (upd H s.heap.objs.size (.tup [.int (i : Nat), v])) h'') :
    wpAny (model X.prog X.w) X.A (pyNext (.ref e)) (fun r s1 => ∃ u, r = some u ∧
      wpAny (model X.prog X.w) X.A (letOwnedTupleGo (.Tuple elts kk tpos) (.ref e) u) (fun _ s2 => ∃ T v, u = .ref T ∧ H T = none ∧ Inv X pins σ (upd H T (.tup [.int (i : Nat), v])) s2 ∧ R v (upd H T (.tup [.int (i : Nat), v])) s2.heap ∧ ∀ b ∈ [e, it], (upd H T (.tup [.int (i : Nat), v])) b = none) E s1) E s := by
  have hel : e < s.heap.objs.size := Heap.lt_size he
  refine wpAny_pyNext_enum_itemD D he hst hlt hne hef fun x h' tk px ho st hT hsz hk => ?_
  refine ⟨_, rfl, wpAny_letOwnedTupleGo_enum (s := { s with heap := h', toks := tk + 1 }) ho fun h'' he' sb => ?_⟩
  have st2 : S (i + 1) h'' := D.frame _ _ _ st fun b hb o q => (sb.2 b fun z => hef (z ▸ hb)).trans q
  obtain ⟨v, rv, r⟩ := k x h'' px ⟨x, he'⟩ st2
  have hT2 : h''.get? s.heap.objs.size = some { cls := .type "tuple", data := .seq #[.int i tk, x] } := (sb.2 _ (Nat.ne_of_gt hel)).trans hT
  have new : ObjOk X.prog X.w (upd H s.heap.objs.size (.tup [.int (i : Nat), v])) h'' s.heap.objs.size (.tup [.int (i : Nat), v]) :=
    ⟨by show 2 ≤ sizeLine; decide, [.int i tk, x], .cons ⟨_, rfl⟩ (.cons rv .nil), ⟨_, hT2, rfl, _, rfl⟩⟩
  have I1 : Inv X pins σ (upd H s.heap.objs.size (.tup [.int (i : Nat), v])) { s with heap := h'', toks := tk + 1 } :=
    I.turnedNew (ch := [e, it]) (fun b ob hb q => (sb.2 b (fun z => hb (by simp [z]))).trans (hk b ob (fun z => hb (by simp [z])) (fun z => hb (by simp [z])) q)) hf (Nat.le_refl _) new
  refine ⟨s.heap.objs.size, v, rfl, I.hok.fresh (Nat.le_refl _), I1, r, fun b hb => ?_⟩
  have hb' : b < s.heap.objs.size := by
    have e' : b = e ∨ b = it := by simpa using hb
    rcases e' with z | z
    · rw [z]; exact hel
    · rw [z]; exact hit
  rw [upd_ne (Nat.ne_of_lt hb')]
  exact (hf b hb).1
theorem turn_enumT {P : Program} {w : World} {K : PySem.W.Frag} {elts : List Expr} {kk : Nat} {tpos : Pos} (a e it : Addr) :
    Turn P w K (.Tuple elts kk tpos) (IteT K a) [e, it] e (fun i h => (∃ old, IsEnum h e it ((i : Nat) : Int) old) ∧ h.IsTupleIter it a i ∧ e ≠ it) where
  mem := by simp
  obj := fun i h st b hb => by
    obtain ⟨⟨old, he⟩, ⟨o, ho, hc, hd⟩, _⟩ := st
    rcases (show b = e ∨ b = it by simpa using hb) with z | z
    · exact z ▸ ⟨_, he, fun v q => nomatch q⟩
    · exact z ▸ ⟨o, ho, fun v q => by rw [hd] at q; cases q⟩
  keep := fun i h h' st k => by
    obtain ⟨⟨old, he⟩, ⟨o, ho, hc, hd⟩, hne⟩ := st
    exact ⟨⟨old, k e (by simp) _ he⟩, ⟨o, k it (by simp) _ ho, hc, hd⟩, hne⟩
  item := by
    intro X hP hw hK hc i pins s σ H E I hf st hg
    subst hP hw hK
    obtain ⟨⟨old, he⟩, hit, hne⟩ := st
    obtain ⟨xs, x, hq, hx⟩ := hg
    obtain ⟨its, rv, p, hz⟩ := I.tuple hq
    obtain ⟨u, hu, ru⟩ := rv.get hx
    have hd : (X.A.in1).handled = none := I.ok.hd hc
    have nat : a ≠ it := by
      rintro rfl
      obtain ⟨o1, h1, c1, _⟩ := hit
      obtain ⟨o2, h2, c2, _⟩ := p
      rw [h1] at h2; cases h2
      rw [c1] at c2
      exact absurd (Value.type.inj c2) (by decide)
    have nae : e ≠ a := by
      rintro rfl
      obtain ⟨o2, h2, c2, _⟩ := p
      rw [show s.heap.get? e = _ from he] at h2; cases h2
      exact absurd (Value.type.inj c2) (by decide)
    have hil : it < s.heap.objs.size := by obtain ⟨_, q, _⟩ := hit; exact Heap.lt_size q
    refine thn (enum_item (elts := elts) (kk := kk) (tpos := tpos) (R := fun v H' h'' => (∃ old', IsEnum h'' e it (((i + 1 : Nat)) : Int) old') ∧ h''.IsTupleIter it a (i + 1) ∧ v = x) I hf (Draws.tuple hd it a nat its.toArray) he hil ⟨hit, p⟩ (by simpa using (List.getElem?_eq_some_iff.mp hu).1) hne (by simp [hne, nae]) fun y h'' py he2 st2 => ?_) fun r s1 ⟨u', hr, h2⟩ => ⟨u', hr, thn h2 fun _ s2 ⟨T, v, hT, hn, I1, ⟨r1, r2, r3⟩, fr⟩ => ?_⟩
    · have ey : y = u := by
        have q : its.toArray[i]? = some u := by simpa using hu
        rw [q] at py
        exact (Option.some.inj py).symm
      subst ey
      refine ⟨x, ru, ?_, st2.1, rfl⟩
      rw [show ((i + 1 : Nat) : Int) = (i : Int) + 1 by omega]
      exact he2
    · subst r3 hT
      exact ⟨.ref T, _, I1, rfl, ⟨T, v, rfl, hn, rfl, fun ys hy => by rw [I.tuple_inj hy hq]; exact hx⟩, ⟨r1, r2, hne⟩, fr⟩
  done := by
    intro X hP hw hK hc i pins s σ H E I hf st hg
    subst hP hw hK
    obtain ⟨⟨old, he⟩, hit, hne⟩ := st
    obtain ⟨xs, hq, hx⟩ := hg
    obtain ⟨its, rv, p, hz⟩ := I.tuple hq
    obtain ⟨f0, f1, f2, f3, f4, f5⟩ := hf it (by simp)
    have hd : (X.A.in1).handled = none := I.ok.hd hc
    have hl := rv.length
    have over : its.toArray[i]? = none := by simp; omega
    have D : Draws X.prog X.w X.A.in1 it [it, a] i (fun _ _ => True) (fun j h => h.IsTupleIter it a j ∧ h.IsTuple a its.toArray ∧ i = j) := ⟨fun _ _ z => let ⟨o, ho, _⟩ := z.1; ⟨o, ho⟩,
      fun _ _ _ z hk => ⟨z.1.at fun o q => hk it (by simp) o q, z.2.1.at fun o q => hk a (by simp) o q, z.2.2⟩, fun j s Q E hj z _ => absurd z.2.2 (Nat.ne_of_gt hj), fun s Q E z hE => wpAny_nextOf_tuple_end hd z.1 z.2.1 over hE⟩
    exact wpAny_pyNext_enum_endD D he ⟨hit, p, rfl⟩ fun h' eb => ⟨rfl, I.turned (t' := s.toks) (fun b o hb q => eb b o hb q) f0 f1 f3 f4 f5⟩
  self := fun A i s Q E st h => by
    obtain ⟨⟨_, he⟩, _⟩ := st
    exact wpAny_pyIter_enum he h
theorem turn_enumS {P : Program} {w : World} {K : PySem.W.Frag} {elts : List Expr} {kk : Nat} {tpos : Pos} (z : Str) (t : Tok) (e it : Addr) :
    Turn P w K (.Tuple elts kk tpos) (IteS z) [e, it] e (fun i h => (∃ old, IsEnum h e it ((i : Nat) : Int) old) ∧ h.IsStrIter it (strIterType z) z t i ∧ e ≠ it) where
  mem := by simp
  obj := fun i h st b hb => by
    obtain ⟨⟨old, he⟩, ⟨o, ho, hc, hd⟩, _⟩ := st
    rcases (show b = e ∨ b = it by simpa using hb) with z | z
    · exact z ▸ ⟨_, he, fun v q => nomatch q⟩
    · exact z ▸ ⟨o, ho, fun v q => by rw [hd] at q; cases q⟩
  keep := fun i h h' st k => by
    obtain ⟨⟨old, he⟩, ⟨o, ho, hc, hd⟩, hne⟩ := st
    exact ⟨⟨old, k e (by simp) _ he⟩, ⟨o, k it (by simp) _ ho, hc, hd⟩, hne⟩
  item := by
    intro X hP hw hK hc i pins s σ H E I hf st hg
    subst hP hw hK
    obtain ⟨⟨old, he⟩, hit, hne⟩ := st
    have hd : (X.A.in1).handled = none := I.ok.hd hc
    have hil : it < s.heap.objs.size := by obtain ⟨_, q, _⟩ := hit; exact Heap.lt_size q
    refine thn (enum_item (elts := elts) (kk := kk) (tpos := tpos) (R := fun v H' h'' => (∃ old', IsEnum h'' e it (((i + 1 : Nat)) : Int) old') ∧ h''.IsStrIter it (strIterType z) z t (i + 1) ∧ ∃ c, v = .str ⟨#[c]⟩ ∧ z.cps[i]? = some c) I hf (Draws.text hd it z t) he hil hit hg hne (by simp [hne]) fun y h'' py he2 st2 => ?_) fun r s1 ⟨u', hr, h2⟩ => ⟨u', hr, thn h2 fun _ s2 ⟨T, v, hT, hn, I1, ⟨r1, r2, r3⟩, fr⟩ => ?_⟩
    · obtain ⟨c, u, hc', rfl⟩ := py
      refine ⟨.str ⟨#[c]⟩, ⟨u, rfl⟩, ?_, st2, c, rfl, hc'⟩
      rw [show ((i + 1 : Nat) : Int) = (i : Int) + 1 by omega]
      exact he2
    · obtain ⟨c, rfl, hc'⟩ := r3
      subst hT
      exact ⟨.ref T, _, I1, rfl, ⟨T, c, rfl, hn, rfl, hc'⟩, ⟨r1, r2, hne⟩, fr⟩
  done := by
    intro X hP hw hK hc i pins s σ H E I hf st hg
    subst hP hw hK
    obtain ⟨⟨old, he⟩, hit, hne⟩ := st
    obtain ⟨f0, f1, f2, f3, f4, f5⟩ := hf it (by simp)
    have hd : (X.A.in1).handled = none := I.ok.hd hc
    have hi : z.cps.size ≤ i := hg
    have D0 := Draws.text (prog := X.prog) (w := X.w) hd it z t
    have D : Draws X.prog X.w X.A.in1 it [it] i (fun _ _ => True) (fun j h => h.IsStrIter it (strIterType z) z t j ∧ i = j) := ⟨fun _ _ y => let ⟨o, ho, _⟩ := y.1; ⟨o, ho⟩,
      fun _ _ _ y hk => ⟨D0.frame _ _ _ y.1 hk, y.2⟩, fun j s Q E hj y _ => absurd y.2 (Nat.ne_of_gt hj), fun s Q E y hE => by
        have over : z.cps[i]? = none := by simp; omega
        have y1 := y.1
        cases ha : z.cps.all (· < 128)
        · simp only [strIterType, ha, Bool.false_eq_true, if_false] at y1
          exact wpAny_nextOf_wide_end hd y1 over hE
        · simp only [strIterType, ha, if_true] at y1
          exact wpAny_nextOf_ascii_end hd y1 over hE⟩
    exact wpAny_pyNext_enum_endD D he ⟨hit, rfl⟩ fun h' eb => ⟨rfl, I.turned (t' := s.toks) (fun b o hb q => eb b o hb q) f0 f1 f3 f4 f5⟩
  self := fun A i s Q E st h => by
    obtain ⟨⟨_, he⟩, _⟩ := st
    exact wpAny_pyIter_enum he h
/-- enumerate(e), e a list, a tuple, a text -/
def iEnumA (K : PySem.W.Frag) (ta : TA) : TI := fun σ H R => ta σ H fun vs H1 => (∃ a xs, vs = [.ref a] ∧ SqL K H1 a xs ∧ R (Ite K a) H1) ∨ (∃ a xs, vs = [.ref a] ∧ SqT K H1 a xs ∧ R (IteT K a) H1) ∨ ∃ z, vs = [.str z] ∧ R (IteS z) H1
theorem pi_enumA {X : Cx} {e : Expr} {ta : TA} {p pos tpos : Pos} {elts : List Expr} {kk : Nat} (hg : Gl X "enumerate") (hm : X.mg "enumerate" = none) (ha : PA X [e] ta) (hs : starEach [e] X.env = [(false, eval e X.env)] := by rfl) :
    PI X (.Tuple elts kk tpos) (.Call (.Name "enumerate" p) [e] [] pos) (iEnumA X.K ta) := by
  constructor
  intro pins s σ H R I h
  refine Call_ (ld_blt I hg hm boot_enumerate (PyProof.Rows.callWith_type1 (thn (ha.run pos pins s σ H _ I h) fun us s1 ⟨vs, H1, I1, r1, q1⟩ => ?_) hs rfl))
  have ok : ∀ b ∈ [s1.heap.objs.size + 1, s1.heap.objs.size], FpOk X pins H1 b := fun b hb => by
    have hle : s1.heap.objs.size ≤ b := by
      rcases (show b = s1.heap.objs.size + 1 ∨ b = s1.heap.objs.size by simpa using hb) with z | z <;> omega
    exact I1.fpOk hle (I1.hok.fresh hle)
  rcases q1 with ⟨a, xs, ex, hq, q⟩ | ⟨a, xs, ex, hq, q⟩ | ⟨z, ex, q⟩
  · subst ex
    cases r1 with
    | cons r rr =>
      cases rr; cases r
      obtain ⟨its, rv, p', hz⟩ := I1.list hq
      refine call_enumerate_list p'.isList fun h' he hit hsz hk => wpAny_pyIter_enum he ?_
      exact ⟨_, _, _, _, H1, rfl, I1.kept (t' := s1.toks) hk, turn_enum a (s1.heap.objs.size + 1) s1.heap.objs.size, ⟨⟨.none, he⟩, hit, Nat.succ_ne_self _⟩, ok, q⟩
  · subst ex
    cases r1 with
    | cons r rr =>
      cases rr; cases r
      obtain ⟨its, rv, p', hz⟩ := I1.tuple hq
      refine DLE.call_enum (begins_tuple a its.toArray) p' fun h' he hit hk => wpAny_pyIter_enum he ?_
      exact ⟨_, _, _, _, H1, rfl, I1.kept (t' := s1.toks) hk, turn_enumT a (s1.heap.objs.size + 1) s1.heap.objs.size, ⟨⟨.none, he⟩, ⟨_, hit, rfl, rfl⟩, Nat.succ_ne_self _⟩, ok, q⟩
  · subst ex
    cases r1 with
    | cons r rr =>
      cases rr
      obtain ⟨t, rfl⟩ := r
      refine call_enumerate_str fun h' he hit hsz hk => wpAny_pyIter_enum he ?_
      exact ⟨_, _, _, _, H1, rfl, I1.kept (t' := s1.toks) hk, turn_enumS z t (s1.heap.objs.size + 1) s1.heap.objs.size, ⟨⟨.none, he⟩, hit, Nat.succ_ne_self _⟩, ok, q⟩
end DL

set_option maxRecDepth 100000
set_option maxHeartbeats 2000000
/-! The data layer, 6: what is walked, targets, comprehensions. -/
namespace DL
open PySem PySem.Spec PyProof.Rows L2

/-! ### what is walked -/
def WalkD (K : PySem.W.Frag) (G : Hp) (J : It) (ds : List D) : Prop := ∃ Y, Walk J ds.length (fun H => Ex G H) Y ∧
  ∀ (i : Nat) (G2 H : Hp) (x : V) (H' : Hp) (d : D), Ex G G2 → Ex G2 H → ds[i]? = some d → Y i H x H' → ∃ G3, Le G2 H G3 H' ∧ Rp K G3 x d
def tiD (K : PySem.W.Frag) (ct : String → Addr) (W : WX) (f : DS → Out (List D)) : TI := fun σ H R => ∃ G0 B G σd, Sim K G0 B G H σd σ ∧ Post ct W G H σ (fun ds G' H' => ∀ J, WalkD K G' J ds → R J H') (f σd)
abbrev DI (X : Cx) (ct : String → Addr) (W : WX) (tg e : Expr) (f : DS → Out (List D)) : Prop := PI X tg e (tiD X.K ct W f)
def itemsD : D → Option (List D)
  | .list ds => some ds
  | .tuple ds => some ds
  | .str z => some (z.cps.toList.map fun c => .str ⟨#[c]⟩)
  | _ => none
section
variable {X : Cx} {ct : String → Addr} {W : WX} {x : Str} {p pos : Pos} {tg e a b : Expr} {es : List Expr} {fa fb fc : DS → Out D} {ga gb : DS → Out (List D)} {K : PySem.W.Frag} {G : Hp}
theorem walkD_list {q : Addr} {xs : List V} {ds : List D} (h : ∀ H, Ex G H → SqL K H q xs) (r : RpAll K G xs ds) : WalkD K G (Itl K q) ds := by
  refine ⟨YAt xs, by rw [← r.length]; exact (walk_list (K := K) (a := q) (xs := xs)).mono h fun _ _ _ _ _ _ y => y, fun i G2 H y H' d e1 e2 hd hy => ?_⟩
  obtain ⟨rfl, hx⟩ := hy
  obtain ⟨d', hd', rr⟩ := r.get hx
  rw [hd] at hd'
  cases hd'
  exact ⟨G2, Le.refl e2, rr.mono e1⟩
theorem walkD_tup {q : Addr} {xs : List V} {ds : List D} (h : ∀ H, Ex G H → SqT K H q xs) (r : RpAll K G xs ds) : WalkD K G (Itt K q) ds := by
  refine ⟨YAt xs, by rw [← r.length]; exact (walk_tup (K := K) (a := q) (xs := xs)).mono h fun _ _ _ _ _ _ y => y, fun i G2 H y H' d e1 e2 hd hy => ?_⟩
  obtain ⟨rfl, hx⟩ := hy
  obtain ⟨d', hd', rr⟩ := r.get hx
  rw [hd] at hd'
  cases hd'
  exact ⟨G2, Le.refl e2, rr.mono e1⟩
theorem walkD_str {z : Str} : WalkD K G (Its z) (z.cps.toList.map fun c => .str ⟨#[c]⟩) := by
  refine ⟨_, by rw [List.length_map, Array.length_toList]; exact (walk_str (z := z)).mono (fun _ _ => trivial) fun _ _ _ _ _ _ y => y, fun i G2 H y H' d e1 e2 hd hy => ?_⟩
  obtain ⟨rfl, c, hc, rfl⟩ := hy
  have hd' : (z.cps.toList.map fun c => (PyData.str ⟨#[c]⟩ : D))[i]? = some (.str ⟨#[c]⟩) := by
    rw [List.getElem?_map, Array.getElem?_toList, hc]
    rfl
  rw [hd] at hd'
  cases hd'
  exact ⟨G2, Le.refl e2, .str _⟩
theorem PI_or {t u : TI} (h : PI X tg e t) (k : PI X tg e u) : PI X tg e (fun σ H R => t σ H R ∨ u σ H R) := ⟨fun pins s σ H R I q => q.elim (h.run pins s σ H R I) (k.run pins s σ H R I)⟩
def dItems (f : DS → Out D) : DS → Out (List D) := fun σ => f σ >>= fun d => Out.opt (itemsD d)
theorem di_any (he : DE X ct W e fa) : DI X ct W tg e (dItems fa) := by
  refine PI_imp (PI_or (pi_list he) (PI_or (pi_tup he) (pi_str he))) ?_
  rintro σ H R ⟨G0, B, G, σd, S, post⟩
  unfold dItems at post
  cases hm : fa σd with
  | no => rw [hm] at post; exact post.elim
  | ex c =>
    rw [hm] at post
    refine .inl ⟨G0, B, G, σd, S, ?_⟩
    rw [hm]
    exact post
  | ok d =>
    rw [hm] at post
    obtain ⟨ds, hds, k⟩ := Post.opt (o := itemsD d) S.le.x post
    unfold itemsD at hds
    split at hds
    · cases hds
      refine .inl ⟨G0, B, G, σd, S, ?_⟩
      rw [hm]
      intro G1 H1 le v rv
      cases rv with
      | lst h r => exact ⟨_, rfl, ⟨_, SqL.of (le.x _ _ h)⟩, k G1 H1 le _ (walkD_list (fun H e => SqL.of (e _ _ h)) r)⟩
    · cases hds
      refine .inr (.inl ⟨G0, B, G, σd, S, ?_⟩)
      rw [hm]
      intro G1 H1 le v rv
      cases rv with
      | tup h r => exact ⟨_, rfl, ⟨_, le.x.sqT h⟩, k G1 H1 le _ (walkD_tup (fun H e => e.sqT h) r)⟩
    · cases hds
      refine .inr (.inr ⟨G0, B, G, σd, S, ?_⟩)
      rw [hm]
      intro G1 H1 le v rv
      cases rv
      exact ⟨_, rfl, k G1 H1 le _ walkD_str⟩
    · cases hds
/-- over a name's list, the def's own, or read alone (no turn changes it) -/
def rangeD (lo : Int) (n : Nat) : List D := (List.range n).map fun (i : Nat) => .int (lo + (i : Int))
theorem walkD_range {lo : Int} {n : Nat} : WalkD K G (Itr lo n) (rangeD lo n) := by
  refine ⟨_, by unfold rangeD; rw [List.length_map, List.length_range]; exact (walk_range (lo := lo) (n := n)).mono (fun _ _ => trivial) fun _ _ _ _ _ _ y => y, fun i G2 H y H' d e1 e2 hd hy => ?_⟩
  obtain ⟨rfl, rfl⟩ := hy
  unfold rangeD at hd
  rw [List.getElem?_map, Option.map_eq_some_iff] at hd
  obtain ⟨j, hj, rfl⟩ := hd
  have e : j = i := by
    have := List.getElem?_eq_some_iff.mp hj
    obtain ⟨h1, h2⟩ := this
    rw [List.getElem_range] at h2
    exact h2.symm
  subst e
  exact ⟨G2, Le.refl e2, .int _⟩
def rng1 : List D → Option (List D)
  | [.int j] => if fitI 62 j then some (rangeD 0 j.toNat) else none
  | _ => none
def rng2 : List D → Option (List D)
  | [.int i, .int j] => if fitI 62 i && fitI 62 j then some (rangeD i (j - i).toNat) else none
  | _ => none
def dRng (r : List D → Option (List D)) (g : DS → Out (List D)) : DS → Out (List D) := fun σ => g σ >>= fun ds => Out.opt (r ds)
theorem di_range1 (hg : Gl X "range") (hm : X.mg "range" = none) (ha : DA X ct W [a] ga) (hs : starEach [a] X.env = [(false, eval a X.env)] := by rfl) : DI X ct W tg (.Call (.Name "range" p) [a] [] pos) (dRng rng1 ga) := by
  refine PI_imp (pi_range1 hg hm ha hs) ?_
  rintro σ H R ⟨G0, B, G, σd, S, post⟩
  refine ⟨G0, B, G, σd, S, Post.bind post fun ds G1 H1 hd le1 post1 => fun vs rvs => ?_⟩
  obtain ⟨r, hr, k⟩ := Post.opt le1.x post1
  unfold rng1 at hr
  split at hr
  · cases rvs with
    | cons h1 h2 =>
      cases h2; cases h1
      split at hr
      · rename_i hb
        have hb := fitI_lt hb
        cases hr
        exact ⟨_, rfl, by omega, by omega, k G1 H1 (Le.refl le1.x) _ walkD_range⟩
      · cases hr
  · cases hr
theorem di_range2 (hg : Gl X "range") (hm : X.mg "range" = none) (ha : DA X ct W [a, b] ga) (hs : starEach [a, b] X.env = [(false, eval a X.env), (false, eval b X.env)] := by rfl) (hs2 : starEach [b] X.env = [(false, eval b X.env)] := by rfl) : DI X ct W tg (.Call (.Name "range" p) [a, b] [] pos) (dRng rng2 ga) := by
  refine PI_imp (pi_range2 hg hm ha hs hs2) ?_
  rintro σ H R ⟨G0, B, G, σd, S, post⟩
  refine ⟨G0, B, G, σd, S, Post.bind post fun ds G1 H1 hd le1 post1 => fun vs rvs => ?_⟩
  obtain ⟨r, hr, k⟩ := Post.opt le1.x post1
  unfold rng2 at hr
  split at hr
  · cases rvs with
    | cons h1 h2 =>
      cases h2 with
      | cons h2 h3 =>
        cases h3; cases h2; cases h1
        split at hr
        · rename_i hb
          rw [Bool.and_eq_true] at hb
          have h1 := fitI_lt hb.1
          have h2 := fitI_lt hb.2
          cases hr
          exact ⟨_, _, rfl, ⟨by omega, by omega, by omega, by omega⟩, k G1 H1 (Le.refl le1.x) _ walkD_range⟩
        · cases hr
  · cases hr
def enumD (ds : List D) : List D := ds.mapIdx fun i d => .tuple [.int (i : Int), d]
theorem pair_step {G2 H H' : Hp} {T : Addr} {i : Nat} {y : V} {d : D} (e2 : Ex G2 H) (hT : H T = none) (hH : H' = upd H T (.tup [.int (i : Nat), y])) (r : Rp K G2 y d) : ∃ G3, Le G2 H G3 H' ∧ Rp K G3 (.ref T) (.tuple [.int (i : Int), d]) := by
  subst hH
  have l : Le G2 H (upd G2 T (.tup [.int (i : Nat), y])) (upd H T (.tup [.int (i : Nat), y])) := Le.new e2 hT
  exact ⟨_, l, .tup (SqT.of upd_same) (.cons (.int _) (.cons (r.mono l.g) .nil))⟩
theorem enumD_get {ds : List D} {i : Nat} {d : D} (h : (enumD ds)[i]? = some d) : ∃ e, ds[i]? = some e ∧ d = .tuple [.int (i : Int), e] := by
  unfold enumD at h
  rw [List.getElem?_mapIdx, Option.map_eq_some_iff] at h
  obtain ⟨e, h1, rfl⟩ := h
  exact ⟨e, h1, rfl⟩
theorem walkD_enumL {q : Addr} {xs : List V} {ds : List D} (h : ∀ H, Ex G H → SqL K H q xs) (r : RpAll K G xs ds) : WalkD K G (Ite K q) (enumD ds) := by
  refine ⟨_, by unfold enumD; rw [List.length_mapIdx, ← r.length]; exact (walk_enum (K := K) (a := q) (xs := xs)).mono h fun _ _ _ _ _ _ y => y, fun i G2 H y H' d e1 e2 hd hy => ?_⟩
  obtain ⟨T, u, v, rfl, hT, hH, hu, hv⟩ := hy
  cases hu
  obtain ⟨e', he', rfl⟩ := enumD_get hd
  obtain ⟨d', hd', rr⟩ := r.get hv
  rw [he'] at hd'
  cases hd'
  exact pair_step e2 hT hH (rr.mono e1)
theorem walkD_enumT {q : Addr} {xs : List V} {ds : List D} (h : ∀ H, Ex G H → SqT K H q xs) (r : RpAll K G xs ds) : WalkD K G (IteT K q) (enumD ds) := by
  refine ⟨fun i H v H' => ∃ T y, v = .ref T ∧ H T = none ∧ H' = upd H T (.tup [.int (i : Nat), y]) ∧ xs[i]? = some y, ?_, fun i G2 H y H' d e1 e2 hd hy => ?_⟩
  · unfold enumD
    rw [List.length_mapIdx, ← r.length]
    exact ⟨fun i H hi g => ⟨xs, xs[i], h H g, by simp [hi]⟩, fun H g => ⟨xs, h H g, Nat.le_refl _⟩, fun i H v H' _ g ⟨T, y, h1, h2, h3, h4⟩ => ⟨T, y, h1, h2, h3, h4 xs (h H g)⟩⟩
  obtain ⟨T, v, rfl, hT, hH, hv⟩ := hy
  obtain ⟨e', he', rfl⟩ := enumD_get hd
  obtain ⟨d', hd', rr⟩ := r.get hv
  rw [he'] at hd'
  cases hd'
  exact pair_step e2 hT hH (rr.mono e1)
theorem walkD_enumS {z : Str} : WalkD K G (IteS z) (enumD (z.cps.toList.map fun c => .str ⟨#[c]⟩)) := by
  refine ⟨fun i H v H' => ∃ T c, v = .ref T ∧ H T = none ∧ H' = upd H T (.tup [.int (i : Nat), .str ⟨#[c]⟩]) ∧ z.cps[i]? = some c, ?_, fun i G2 H y H' d e1 e2 hd hy => ?_⟩
  · unfold enumD
    rw [List.length_mapIdx, List.length_map, Array.length_toList]
    exact ⟨fun i H hi g => hi, fun H g => Nat.le_refl _, fun i H v H' _ g y => y⟩
  obtain ⟨T, c, rfl, hT, hH, hv⟩ := hy
  obtain ⟨e', he', rfl⟩ := enumD_get hd
  rw [List.getElem?_map, Array.getElem?_toList, hv] at he'
  cases he'
  exact pair_step e2 hT hH (.str _)
def dEnum (f : DS → Out D) : DS → Out (List D) := fun σ => f σ >>= fun d => Out.opt (itemsD d) >>= fun ds => .ok (enumD ds)
theorem di_enum {elts : List Expr} {kk : Nat} {tpos : Pos} (hg : Gl X "enumerate") (hm : X.mg "enumerate" = none) (he : DE X ct W e fa) (hs : starEach [e] X.env = [(false, eval e X.env)] := by rfl) (hs' : starEach [e] X.env = (false, eval e X.env) :: starEach [] X.env := by rfl) :
    DI X ct W (.Tuple elts kk tpos) (.Call (.Name "enumerate" p) [e] [] pos) (dEnum fa) := by
  refine PI_imp (pi_enumA hg hm (pa_cons he pa_nil hs') hs) ?_
  rintro σ H R ⟨G0, B, G, σd, S, post⟩
  refine ⟨G0, B, G, σd, S, Post.bind post fun d G1 H1 hd le1 post1 => fun v rv => ?_⟩
  have post2 : Post ct W G1 H1 σ (fun ds G' H' => ∀ J, WalkD X.K G' J (enumD ds) → R J H') (Out.opt (itemsD d)) := Post.bind post1 fun ds G2 H2 _ le2 h => h G2 H2 (Le.refl le2.x)
  obtain ⟨ds, hds, k⟩ := Post.opt le1.x post2
  have k := k G1 H1 (Le.refl le1.x)
  unfold itemsD at hds
  split at hds
  · cases hds
    cases rv with
    | lst h r => exact .inl ⟨_, _, rfl, SqL.of (le1.x _ _ h), k _ (walkD_enumL (fun H e => SqL.of (e _ _ h)) r)⟩
  · cases hds
    cases rv with
    | tup h r => exact .inr (.inl ⟨_, _, rfl, le1.x.sqT h, k _ (walkD_enumT (fun H e => e.sqT h) r)⟩)
  · cases hds
    cases rv
    exact .inr (.inr ⟨_, rfl, k _ walkD_enumS⟩)
  · cases hds
end

/-! ### targets -/
/-- js: the slots that are stored -/
def tgD (K : PySem.W.Frag) (js : List Nat) (g : D → DS → Option DS) : TG := fun v σ H Q => ∃ G0 B G σd d σd', Sim K G0 B G H σd σ ∧ Rp K G v d ∧ g d σd = some σd' ∧ ∀ σ', Sim K G0 B G H σd' σ' → σ'.length = σ.length → (∀ j, j ∉ js → σ'[j]? = σ[j]?) → Q σ' H
abbrev DG (X : Cx) (tg : Expr) (js : List Nat) (g : D → DS → Option DS) : Prop := PG X tg (tgD X.K js g)
def gN (i : Nat) : D → DS → Option DS := fun d σ => some (σ.set i (.val d))
section
variable {X : Cx} {x : Str} {pos : Pos} {es : List Expr} {e : Expr}
theorem dg_name (i : Nat) (h : PG X e (gName i)) : DG X e [i] (gN i) := by
  refine PG_imp h ?_
  rintro v σ H Q ⟨G0, B, G, σd, d, σd', S, r, hg, k⟩
  cases hg
  refine k _ (S.set ⟨v, rfl, r⟩ fun _ q => by cases q) (by rw [List.length_set]) fun j hj => ?_
  rw [List.getElem?_set_ne]
  simp at hj
  exact fun q => hj q.symm
def tgsD (K : PySem.W.Frag) (js : List Nat) (g : List D → DS → Option DS) : TGs := fun vs σ H Q => ∃ G0 B G σd ds σd', Sim K G0 B G H σd σ ∧ RpAll K G vs ds ∧ g ds σd = some σd' ∧ ∀ σ', Sim K G0 B G H σd' σ' → σ'.length = σ.length → (∀ j, j ∉ js → σ'[j]? = σ[j]?) → Q σ' H
abbrev DGs (X : Cx) (tg : List Expr) (js : List Nat) (g : List D → DS → Option DS) : Prop := PGs X tg (tgsD X.K js g)
theorem PGs_imp {tg : List Expr} {t t' : TGs} (h : PGs X tg t) (i : ∀ v σ H Q, t' v σ H Q → t v σ H Q) : PGs X tg t' := ⟨fun pins s σ H v u Q I r q => h.run pins s σ H v u Q I r (i v σ H Q q)⟩
def gsN : List D → DS → Option DS
  | [], σ => some σ
  | _ :: _, _ => none
def gsC (g : D → DS → Option DS) (gs : List D → DS → Option DS) : List D → DS → Option DS
  | [], _ => none
  | d :: ds, σ => (g d σ).bind fun σ' => gs ds σ'
theorem dgs_nil : DGs X [] [] gsN := by
  refine PGs_imp pgs_nil ?_
  rintro vs σ H Q ⟨G0, B, G, σd, ds, σd', S, r, hg, k⟩
  cases r with
  | nil =>
    cases hg
    exact ⟨rfl, k σ S rfl fun _ _ => rfl⟩
  | cons h1 h2 => cases hg
theorem dgs_cons {js ks : List Nat} {g : D → DS → Option DS} {gs : List D → DS → Option DS} (h : DG X e js g) (r : DGs X es ks gs) (hs : (assignEach (e :: es) X.env).map (·.2) = assign e X.env :: (assignEach es X.env).map (·.2) := by rfl) : DGs X (e :: es) (js ++ ks) (gsC g gs) := by
  refine PGs_imp (pgs_cons h r hs) ?_
  rintro vs σ H Q ⟨G0, B, G, σd, ds, σd', S, rr, hg, k⟩
  cases rr with
  | nil => cases hg
  | cons h1 h2 =>
    unfold gsC at hg
    rw [Option.bind_eq_some_iff] at hg
    obtain ⟨σ1, hg1, hg2⟩ := hg
    refine ⟨_, _, rfl, G0, B, G, σd, _, σ1, S, h1, hg1, fun σ2 S2 l2 a2 => ?_⟩
    refine ⟨G0, B, G, σ1, _, σd', S2, h2, hg2, fun σ3 S3 l3 a3 => ?_⟩
    exact k σ3 S3 (l3.trans l2) fun j hj => by
      rw [List.mem_append, not_or] at hj
      rw [a3 j hj.2, a2 j hj.1]
def gT (n : Nat) (gs : List D → DS → Option DS) : D → DS → Option DS := fun d σ => match d with
  | .tuple ds => if ds.length = n then gs ds σ else none
  | _ => none
theorem dg_tup {k n : Nat} {js : List Nat} {gs : List D → DS → Option DS} (hc : X.calm = true) (h : DGs X es js gs)
    (hn : (assignEach es X.env).length = n := by rfl) (hst : (assignEach es X.env).findIdx? (·.1) = none := by rfl) : DG X (.Tuple es k pos) js (gT n gs) := by
  refine PG_imp (pg_tup hc h hn hst) ?_
  rintro v σ H Q ⟨G0, B, G, σd, d, σd', S, r, hg, k⟩
  unfold gT at hg
  split at hg
  · split at hg
    · rename_i hl
      cases r with
      | tup h r => exact ⟨_, _, rfl, S.le.x.sqT h, r.length.trans hl, G0, B, G, σd, _, σd', S, r, hg, k⟩
    · cases hg
  · cases hg
end

/-! ### comprehensions -/
def wipeD (σ : DS) : List Nat → DS
  | [] => σ
  | v :: vs => (wipeD σ vs).set v .nil
theorem Sim.wipe {K : PySem.W.Frag} {G0 B G H : Hp} {σd : List Sl} {σ : L2.St} (S : Sim K G0 B G H σd σ) : ∀ vs, Sim K G0 B G H (wipeD σd vs) (L2.wipe σ vs)
  | [] => S
  | v :: vs => by
    have S1 := S.wipe vs
    unfold wipeD L2.wipe
    refine ⟨S1.le, by rw [List.length_set, List.length_set]; exact S1.len, fun j t o h1 h2 => ?_, fun j k ds es p hjk h1 h2 h3 h4 => ?_⟩
    · by_cases e : v = j
      · subst e
        have l1 : v < (wipeD σd vs).length := by have := (List.getElem?_eq_some_iff.mp h1).1; simpa using this
        rw [List.getElem?_set_self l1] at h1
        cases h1
        trivial
      · rw [List.getElem?_set_ne e] at h1 h2
        exact S1.sl j t o h1 h2
    · have ne1 : v ≠ j := fun e => by
        subst e
        have l1 : v < (wipeD σd vs).length := by have := (List.getElem?_eq_some_iff.mp h1).1; simpa using this
        rw [List.getElem?_set_self l1] at h1
        cases h1
      have ne2 : v ≠ k := fun e => by
        subst e
        have l1 : v < (wipeD σd vs).length := by have := (List.getElem?_eq_some_iff.mp h2).1; simpa using this
        rw [List.getElem?_set_self l1] at h2
        cases h2
      rw [List.getElem?_set_ne ne1] at h1 h3
      rw [List.getElem?_set_ne ne2] at h2 h4
      exact S1.ap j k ds es p hjk h1 h2 h3 h4
theorem wipe_get (σ : L2.St) : ∀ (vs : List Nat) (j : Nat), (L2.wipe σ vs)[j]? = if j ∈ vs ∧ j < σ.length then some none else σ[j]?
  | [], j => by
    show σ[j]? = _
    rw [if_neg (by simp)]
  | v :: vs, j => by
    show ((L2.wipe σ vs).set v none)[j]? = _
    by_cases e : v = j
    · subst e
      by_cases l : v < σ.length
      · rw [List.getElem?_set_self (by rw [wipe_length]; exact l), if_pos ⟨by simp, l⟩]
      · rw [if_neg (fun z => l z.2), List.getElem?_eq_none (by rw [List.length_set, wipe_length]; omega), List.getElem?_eq_none (by omega)]
    · rw [List.getElem?_set_ne e, wipe_get σ vs j]
      have hm : (j ∈ v :: vs) ↔ j ∈ vs := by
        rw [List.mem_cons]
        exact ⟨fun z => z.elim (fun q => absurd q.symm e) id, .inr⟩
      simp only [hm]
theorem wipe_same {σ σ2 : L2.St} {vs : List Nat} (hl : σ2.length = (L2.wipe σ vs).length) (ha : ∀ j, j ∉ vs → σ2[j]? = (L2.wipe σ vs)[j]?) : L2.wipe σ2 vs = L2.wipe σ vs := by
  have hl2 : σ2.length = σ.length := hl.trans (wipe_length σ vs)
  apply List.ext_getElem?
  intro j
  rw [wipe_get, wipe_get, hl2]
  by_cases h : j ∈ vs
  · by_cases l : j < σ.length
    · rw [if_pos ⟨h, l⟩, if_pos ⟨h, l⟩]
    · rw [if_neg (fun z => l z.2), if_neg (fun z => l z.2), List.getElem?_eq_none (by omega), List.getElem?_eq_none (by omega)]
  · rw [if_neg (fun z => h z.1), if_neg (fun z => h z.1), ha j h, wipe_get, if_neg (fun z => h z.1)]
/-- one item of a comprehension: what it gives, if anything -/
def lcStep (g : D → DS → Option DS) (t : DS → Out Bool) (e : DS → Out D) (σ : DS) (d : D) : Out (Option D) :=
  Out.opt (g d σ) >>= fun σ2 => t σ2 >>= fun b => if b = true then e σ2 >>= fun r => .ok (some r) else .ok none
def lcGo (f : D → Out (Option D)) : List D → Out (List D)
  | [] => .ok []
  | d :: ds => match f d with
    | .ok o => match lcGo f ds with
      | .ok r => .ok (o.toList ++ r)
      | _ => .no
    | _ => .no
theorem lcGo_ok {f : D → Out (Option D)} : ∀ {ds : List D} {r : List D}, lcGo f ds = .ok r → ∃ os : List (Option D), os.length = ds.length ∧ (∀ (i : Nat) (d : D), ds[i]? = some d → ∃ o : Option D, os[i]? = some o ∧ f d = .ok o) ∧ r = (os.map Option.toList).flatten
  | [], r, h => by
    cases h
    exact ⟨[], rfl, fun i d e => by simp at e, rfl⟩
  | d :: ds, r, h => by
    unfold lcGo at h
    split at h
    · rename_i o ho
      split at h
      · rename_i r' hr
        cases h
        obtain ⟨os, hl, ha, rfl⟩ := lcGo_ok hr
        refine ⟨o :: os, by simp [hl], fun i x hx => ?_, by simp⟩
        cases i with
        | zero => simp at hx; subst hx; exact ⟨o, rfl, ho⟩
        | succ i => exact ha i x (by simpa using hx)
      · cases h
    · cases h
def lcD (it : DS → Out (List D)) (g : D → DS → Option DS) (t : DS → Out Bool) (e : DS → Out D) (vs : List Nat) : DS → Out (List D) := fun σ => it σ >>= fun ds => if ds.length ≤ lim then lcGo (lcStep g t e (wipeD σ vs)) ds else .no
def W0 : WX := fun _ _ _ _ => False
section
variable {X : Cx} {ct : String → Addr} {W : WX}
theorem flat_take {α : Type} {os : List (Option α)} {i : Nat} {o : Option α} (h : os[i]? = some o) : ((os.take (i + 1)).map Option.toList).flatten = ((os.take i).map Option.toList).flatten ++ o.toList := by
  have hi : i < os.length := (List.getElem?_eq_some_iff.mp h).1
  rw [List.take_succ, h]
  simp
theorem toList_le {α : Type} (l : List (Option α)) : ((l.map Option.toList).flatten).length ≤ l.length := by
  induction l with
  | nil => simp
  | cons a l ih => cases a <;> simp at ih ⊢ <;> omega
theorem lc_imp {it : DS → Out (List D)} {g : D → DS → Option DS} {t : DS → Out Bool} {e : DS → Out D} {vs js : List Nat} (hj : ∀ j ∈ js, j ∈ vs) : ∀ σ H Q, teF X.K ct W (lcD it g t e vs) σ H Q → tLc (tiD X.K ct W it) (tgD X.K js g) (ttD X.K ct W0 t) (teD X.K ct W0 e) vs σ H Q := by
  rintro σ H Q ⟨G0, B, G, σd, S, post⟩
  refine ⟨G0, B, G, σd, S, ?_⟩
  unfold lcD at post
  cases hm : it σd with
  | no => rw [hm] at post; exact post.elim
  | ex c => rw [hm] at post; exact post
  | ok ds =>
    rw [hm] at post
    intro G1 H1 le1 J hJ Dl hD
    obtain ⟨Y, wk, yl⟩ := hJ
    have post1 : Post ct W G H σ (fun ds G' H' => ∀ p vs, H p = none → G' p = none → H' p = some (.lst vs) → RpAll X.K G' vs ds → Q (.ref p) H') (if ds.length ≤ lim then lcGo (lcStep g t e (wipeD σd vs)) ds else .no) := post
    by_cases hl : ds.length ≤ lim
    · rw [if_pos hl] at post1
      cases hr : lcGo (lcStep g t e (wipeD σd vs)) ds with
      | no => rw [hr] at post1; exact post1.elim
      | ex c =>
        exfalso
        cases ds with
        | nil => cases hr
        | cons d ds =>
          unfold lcGo at hr
          split at hr
          · split at hr <;> cases hr
          · cases hr
      | ok r =>
        rw [hr] at post1
        obtain ⟨os, hol, hoa, er⟩ := lcGo_ok hr
        subst er
        have hG1D : G1 Dl = none := le1.x.free hD
        refine lc_it wk (fun i H2 => ∃ G2 acc, Le G1 H1 G2 H2 ∧ G2 Dl = none ∧ H2 Dl = some (.lst acc) ∧ RpAll X.K G2 acc ((os.take i).map Option.toList).flatten) ?_ ?_ ?_ ?_
        · exact ⟨G1, [], Le.newM le1.x hD, hG1D, upd_same, .nil⟩
        · rintro i H2 _ ⟨G2, acc, l2, _⟩
          exact l2.g.trans l2.x
        · rintro i x H2 H3 hi ⟨G2, acc, l2, hGD, hHD, ra⟩ hy
          obtain ⟨o, ho, hf⟩ := hoa i ds[i] (by simp [hi])
          obtain ⟨G3, l3, rx⟩ := yl i G2 H2 x H3 ds[i] l2.g l2.x (by simp [hi]) hy
          have S3 : Sim X.K G0 B G3 H3 (wipeD σd vs) (L2.wipe σ vs) := ((S.mono le1).mono (l2.trans l3)).wipe vs
          unfold lcStep at hf
          cases hg : g ds[i] (wipeD σd vs) with
          | none => rw [hg] at hf; cases hf
          | some σd2 =>
            rw [hg] at hf
            refine ⟨G0, B, G3, _, ds[i], σd2, S3, rx, hg, fun σ2 S4 l4 a4 => ?_⟩
            refine ⟨wipe_same l4 fun j hj' => a4 j fun z => hj' (hj j z), G0, B, G3, σd2, S4, ?_⟩
            have hf' : (t σd2 >>= fun b => if b = true then e σd2 >>= fun r => Out.ok (some r) else Out.ok none) = Out.ok o := hf
            cases ht : t σd2 with
            | no => rw [ht] at hf'; cases hf'
            | ex c => rw [ht] at hf'; cases hf'
            | ok b =>
              rw [ht] at hf'
              intro G4 H4 l5
              have hG4 : ∀ {G5 H5}, Le G3 H3 G5 H5 → G5 Dl = none ∧ H5 Dl = some (.lst acc) := fun {G5 H5} l => ⟨(l3.trans l).n _ _ hHD hGD, (l3.trans l).h _ _ hHD⟩
              cases b with
              | false =>
                show (if _ = true then _ else _)
                rw [if_neg Bool.false_ne_true]
                have e0 : o = none := by cases hf'; rfl
                subst e0
                refine ⟨G4, acc, (l2.trans l3).trans l5, (hG4 l5).1, (hG4 l5).2, ?_⟩
                rw [flat_take ho]
                simpa using ra.mono (l3.trans l5).g
              | true =>
                show (if _ = true then _ else _)
                rw [if_pos rfl]
                have hf2 : (e σd2 >>= fun r => Out.ok (some r)) = Out.ok o := hf'
                refine ⟨G0, B, G4, σd2, S4.mono l5, ?_⟩
                cases he : e σd2 with
                | no => rw [he] at hf2; cases hf2
                | ex c => rw [he] at hf2; cases hf2
                | ok r =>
                  rw [he] at hf2
                  have e0 : o = some r := by cases hf2; rfl
                  subst e0
                  intro G5 H5 l6 y ry
                  have q5 := hG4 (l5.trans l6)
                  refine ⟨acc, q5.2, ?_, ?_⟩
                  · rw [ra.length]
                    have z1 := toList_le (os.take i)
                    rw [List.length_take] at z1
                    have z2 := lim_lt (n := ds.length) hl
                    omega
                  · have lx := ((l2.trans l3).trans l5).trans l6
                    refine ⟨G5, acc ++ [y], ⟨lx.g, fun a u q => ?_, lx.n, fun a u q => ?_⟩, q5.1, upd_same, ?_⟩
                    · rw [upd_ne (ne_of_none q hD)]
                      exact lx.h a u q
                    · rw [upd_ne (ne_of_none q q5.1)]
                      exact lx.x a u q
                    · rw [flat_take ho]
                      exact (ra.mono ((l3.trans l5).trans l6).g).append (.cons ry .nil)
        · rintro H2 ⟨G2, acc, l2, hGD, hHD, ra⟩
          rw [← hol, List.take_length] at ra
          exact post1 G2 H2 (le1.trans l2) Dl acc (le1.h.free hD) hGD hHD ra
    · rw [if_neg hl] at post1
      exact post1.elim
abbrev DTs (X : Cx) (ct : String → Addr) (W : WX) (ifs : List Expr) (f : DS → Out Bool) : Prop := PTs X ifs (ttD X.K ct W f)
theorem PTs_imp {ifs : List Expr} {t t' : TT} (h : PTs X ifs t) (i : ∀ σ H Q, t' σ H Q → t σ H Q) : PTs X ifs t' := ⟨fun pins s σ H Q I q => h.run pins s σ H Q I (i σ H Q q)⟩
def dYes : DS → Out Bool := fun _ => .ok true
theorem dts_nil : DTs X ct W [] dYes := by
  refine PTs_imp pts_nil ?_
  rintro σ H Q ⟨G0, B, G, σd, S, post⟩
  exact post G H (Le.refl S.le.x)
theorem dts_one {c : Expr} {f : DS → Out Bool} (h : DT X ct W c f) : DTs X ct W [c] f := pts_one h
theorem df_lc {elt tg iter : Expr} {ifs : List Expr} {scope : Scope} {own : List (Str × Nat)} {pos : Pos} {js : List Nat} {it : DS → Out (List D)} {g : D → DS → Option DS} {t : DS → Out Bool} {e : DS → Out D} (hc : X.calm = true) (hN : X.N.Nodup) (hi : DI X ct W tg iter it) (ok : BlkOk X.N X.env.scope scope own)
    (hj : ∀ j ∈ js, j ∈ own.map (·.2))
    (hg : ∀ (s : Shared) (H : Hp) (C : Addr) (cl : List (Str × Addr)) (fp : List Addr), DG (X.blk s H scope (compEnvC scope cl C X.env) fp) tg js g) (ht : ∀ (s : Shared) (H : Hp) (C : Addr) (cl : List (Str × Addr)) (fp : List Addr), DTs (X.blk s H scope (compEnvC scope cl C X.env) fp) ct W0 ifs t)
    (he : ∀ (s : Shared) (H : Hp) (C : Addr) (cl : List (Str × Addr)) (fp : List Addr), DE (X.blk s H scope (compEnvC scope cl C X.env) fp) ct W0 elt e) (hs : ∀ x, foldedSetIterable iter X.env x = pure x := by intro _; rfl) :
    DF X ct W (.ListComp elt [⟨tg, iter, ifs, 0⟩] scope pos) (lcD it g t e (own.map (·.2))) :=
  PE_imp (pe_lc hc hN hi ok hg ht he hs) (lc_imp hj)
end
end DL

set_option maxRecDepth 100000
set_option maxHeartbeats 2000000
/-! The data layer, 7: statements, defs, calls of defs. -/
namespace DL
open PySem PySem.Spec PyProof.Rows L2

theorem Sim.setV {K : PySem.W.Frag} {G0 B G H : Hp} {σd : List Sl} {σ : L2.St} (S : Sim K G0 B G H σd σ) {i : Nat} {v : V} {d : D} (r : Rp K G v d) : Sim K G0 B G H (σd.set i (.val d)) (σ.set i (some v)) := S.set (s := .val d) ⟨v, rfl, r⟩ fun _ q => by cases q
/-- how a statement ends -/
inductive Res where
  | nx (σ : DS)
  | rt (d : D)
  | bk (σ : DS)
  | ct (σ : DS)
  | ex (c : Exn) (σ : DS)
  | no
def PostS (K : PySem.W.Frag) (ct : String → Addr) (W : WX) (E : Ends) (G0 B G : Hp) : Res → Prop
  | .nx σd => ∀ G' H' σ', Ex G G' → Sim K G0 B G' H' σd σ' → E.nx σ' H'
  | .bk σd => ∀ G' H' σ', Ex G G' → Sim K G0 B G' H' σd σ' → E.bk σ' H'
  | .ct σd => ∀ G' H' σ', Ex G G' → Sim K G0 B G' H' σd σ' → E.ct σ' H'
  | .rt d => ∀ v G' H', Ex G G' → Le G0 B G' H' → Rp K G' v d → E.rt v H'
  | .ex c σd => ∀ G' H' σ', Ex G G' → Sim K G0 B G' H' σd σ' → WxE ct W σ' c H'
  | .no => False
def tsD (K : PySem.W.Frag) (ct : String → Addr) (W : WX) (f : DS → Res) : TS := fun E σ H => ∃ G0 B G σd, Sim K G0 B G H σd σ ∧ PostS K ct W E G0 B G (f σd)
abbrev DSt (X : Cx) (ct : String → Addr) (W : WX) (st : Stmt) (f : DS → Res) : Prop := PS X st (tsD X.K ct W f)
abbrev DSs (X : Cx) (ct : String → Addr) (W : WX) (st : List Stmt) (f : DS → Res) : Prop := PSs X st (tsD X.K ct W f)
theorem PostS.mono {K : PySem.W.Frag} {ct : String → Addr} {W : WX} {E : Ends} {G0 B G G1 : Hp} {r : Res} (h : PostS K ct W E G0 B G r) (e : Ex G G1) : PostS K ct W E G0 B G1 r := by
  cases r with
  | nx σ => exact fun G' H' σ' q => h G' H' σ' (e.trans q)
  | bk σ => exact fun G' H' σ' q => h G' H' σ' (e.trans q)
  | ct σ => exact fun G' H' σ' q => h G' H' σ' (e.trans q)
  | rt d => exact fun v G' H' q => h v G' H' (e.trans q)
  | ex c σ => exact fun G' H' σ' q => h G' H' σ' (e.trans q)
  | no => exact h
/-- an outcome of an expression, then the rest -/
def Res.of {α : Type} (o : Out α) (σ : DS) (k : α → Res) : Res := match o with
  | .ok a => k a
  | .ex c => .ex c σ
  | .no => .no
@[simp] theorem Res.of_ok {α : Type} {a : α} {σ : DS} {k : α → Res} : Res.of (.ok a) σ k = k a := id rfl
@[simp] theorem Res.of_no {α : Type} {σ : DS} {k : α → Res} : Res.of .no σ k = .no := id rfl
@[simp] theorem Res.of_ex {α : Type} {c : Exn} {σ : DS} {k : α → Res} : Res.of (.ex c) σ k = .ex c σ := id rfl
section
variable {K : PySem.W.Frag} {ct : String → Addr} {W : WX} {E : Ends} {G0 B G H : Hp} {σd : DS} {σ : L2.St} {α : Type}
theorem PostS.of {P : α → Hp → Hp → Prop} {o : Out α} {k : α → Res} (S : Sim K G0 B G H σd σ) (h : PostS K ct W E G0 B G (Res.of o σd k)) (hk : ∀ a G1 H1, o = .ok a → Le G H G1 H1 → PostS K ct W E G0 B G1 (k a) → P a G1 H1) : Post ct W G H σ P o := by
  cases o with
  | ok a =>
    intro G1 H1 le
    exact hk a G1 H1 rfl le (PostS.mono (r := k a) h le.g)
  | ex c =>
    intro G1 H1 le
    exact h G1 H1 σ le.g (S.mono le)
  | no => exact h
/-- the same, keeping what was known before the expression ran -/
theorem PostS.of0 {P : α → Hp → Hp → Prop} {o : Out α} {k : α → Res} (S : Sim K G0 B G H σd σ) (h : PostS K ct W E G0 B G (Res.of o σd k)) (hk : ∀ a G1 H1, o = .ok a → Le G H G1 H1 → PostS K ct W E G0 B G (k a) → P a G1 H1) : Post ct W G H σ P o := by
  cases o with
  | ok a =>
    intro G1 H1 le
    exact hk a G1 H1 rfl le h
  | ex c =>
    intro G1 H1 le
    exact h G1 H1 σ le.g (S.mono le)
  | no => exact h
end
section
variable {X : Cx} {ct : String → Addr} {W : WX} {x : Str} {p pos : Pos} {e : Expr} {es : List Expr} {f fa fb : DS → Out D} {g : DS → Out (List D)} {t : DS → Out Bool} {st : Stmt} {ss : List Stmt} {r r' : DS → Res}

/-! ### blocks -/
def dNext : DS → Res := fun σ => .nx σ
def dSeqS (r r' : DS → Res) : DS → Res := fun σ => match r σ with
  | .nx σ' => r' σ'
  | o => o
theorem dss_nil : DSs X ct W [] dNext := by
  refine PSs_imp pss_nil ?_
  rintro E σ H ⟨G0, B, G, σd, S, post⟩
  exact post G H σ (Ex.refl G) S
theorem seq_imp {t u : TS} (i : ∀ E σ H, tsD X.K ct W r E σ H → t E σ H) (j : ∀ E σ H, tsD X.K ct W r' E σ H → u E σ H) : ∀ E σ H, tsD X.K ct W (dSeqS r r') E σ H → tSeq t u E σ H := by
  rintro E σ H ⟨G0, B, G, σd, S, post⟩
  refine i _ σ H ⟨G0, B, G, σd, S, ?_⟩
  unfold dSeqS at post
  cases hr : r σd with
  | nx σ1 =>
    rw [hr] at post
    intro G1 H1 σ2 e S1
    exact j E σ2 H1 ⟨G0, B, G1, σ1, S1, PostS.mono (r := r' σ1) post e⟩
  | rt d => rw [hr] at post; exact post
  | bk σ1 => rw [hr] at post; exact post
  | ct σ1 => rw [hr] at post; exact post
  | ex c σ1 => rw [hr] at post; exact post
  | no => rw [hr] at post; exact post
theorem dss_cons (h : DSt X ct W st r) (k : DSs X ct W ss r') : DSs X ct W (st :: ss) (dSeqS r r') := PSs_imp (pss_cons h k) (seq_imp (fun _ _ _ q => q) fun _ _ _ q => q)
theorem dss_one (h : DSt X ct W st r) : DSs X ct W [st] r := pss_one h

/-! ### statements -/
theorem dst_pass : DSt X ct W (.Pass pos) dNext := by
  refine PS_imp ps_pass ?_
  rintro E σ H ⟨G0, B, G, σd, S, post⟩
  exact post G H σ (Ex.refl G) S
theorem dst_doc {z : Str} {j : Nat} {pos' : Pos} : DSt X ct W (.Expr (.Constant (.str z) j pos) pos') dNext := by
  refine PS_imp ps_doc ?_
  rintro E σ H ⟨G0, B, G, σd, S, post⟩
  exact post G H σ (Ex.refl G) S
def dBreak : DS → Res := fun σ => .bk σ
def dCont : DS → Res := fun σ => .ct σ
theorem dst_break : DSt X ct W (.Break pos) dBreak := by
  refine PS_imp ps_break ?_
  rintro E σ H ⟨G0, B, G, σd, S, post⟩
  exact post G H σ (Ex.refl G) S
theorem dst_continue : DSt X ct W (.Continue pos) dCont := by
  refine PS_imp ps_continue ?_
  rintro E σ H ⟨G0, B, G, σd, S, post⟩
  exact post G H σ (Ex.refl G) S
/-- target = e -/
def dAsg (f : DS → Out D) (k : D → DS → Option DS) : DS → Res := fun σ => Res.of (f σ) σ fun d => Res.of (Out.opt (k d σ)) σ .nx
theorem asg_imp {te : TE} {tg : TG} {js : List Nat} {k : D → DS → Option DS} (i : ∀ σ H Q, teD X.K ct W f σ H Q → te σ H Q) (j : ∀ v σ H Q, tgD X.K js k v σ H Q → tg v σ H Q) : ∀ E σ H, tsD X.K ct W (dAsg f k) E σ H → tAsg te tg E σ H := by
  rintro E σ H ⟨G0, B, G, σd, S, post⟩
  refine i σ H _ ⟨G0, B, G, σd, S, PostS.of S post fun d G1 H1 hd le post1 v rv => ?_⟩
  refine j v σ H1 _ ?_
  cases hk : k d σd with
  | none => rw [hk] at post1; exact post1.elim
  | some σ1 =>
    rw [hk] at post1
    exact ⟨G0, B, G1, σd, d, σ1, S.mono le, rv, hk, fun σ2 S2 _ _ => post1 G1 H1 σ2 (Ex.refl G1) S2⟩
theorem dst_asg {tg : Expr} {js : List Nat} {k : D → DS → Option DS} (he : DE X ct W e f) (hg : DG X tg js k) (hs : swapsWithSole [tg] e pos.line X.env = pure false := by rfl) (hw : swappedStores [tg] e X.env = pure none := by rfl)
    (h1 : (assignEach [tg] X.env).map (·.2) = [assign tg X.env] := by rfl) : DSt X ct W (.Assign [tg] e pos) (dAsg f k) :=
  PS_imp (ps_asg he hg hs hw h1) (asg_imp (fun _ _ _ q => q) fun _ _ _ _ q => q)
def dSet (i : Nat) (f : DS → Out D) : DS → Res := fun σ => Res.of (f σ) σ fun d => .nx (σ.set i (.val d))
theorem set_imp {te : TE} (i : Nat) (h : ∀ σ H Q, teD X.K ct W f σ H Q → te σ H Q) : ∀ E σ H, tsD X.K ct W (dSet i f) E σ H → tAsg te (gName i) E σ H := by
  rintro E σ H ⟨G0, B, G, σd, S, post⟩
  refine h σ H _ ⟨G0, B, G, σd, S, PostS.of S post fun d G1 H1 hd le post1 v rv => ?_⟩
  exact post1 G1 H1 _ (Ex.refl G1) ((S.mono le).setV rv)
/-- x = e; h: ps_set's statement over the very readings -/
theorem dst_set (i : Nat) (h : PS X st (tAsg (teD X.K ct W f) (gName i))) : DSt X ct W st (dSet i f) := PS_imp h (set_imp i fun _ _ _ q => q)
/-- x = a new list that the def may change -/
def dSetO (i : Nat) (g : DS → Out (List D)) : DS → Res := fun σ => Res.of (g σ) σ fun ds => .nx (σ.set i (.own ds))
theorem own_fresh {G0 B G H G1 H1 : Hp} {σd : DS} {σ : L2.St} {i : Nat} {q : Addr} {vs : List V} {ds : List D} (S : Sim X.K G0 B G H σd σ) (le : Le G H G1 H1) (hp : H q = none) (hg : G1 q = none) (hh : H1 q = some (.lst vs)) (r : RpAll X.K G1 vs ds) : Sim X.K G0 B G1 H1 (σd.set i (.own ds)) (σ.set i (some (.ref q))) := by
  refine (S.mono le).setOwn (S.le.h.free hp) hg hh r fun j es hj h1 h2 => ?_
  obtain ⟨p', vs', e1, _, _, hh', _⟩ := S.sl j _ _ h1 h2
  cases e1
  rw [hp] at hh'
  cases hh'
theorem setO_imp {te : TE} (i : Nat) (h : ∀ σ H Q, teF X.K ct W g σ H Q → te σ H Q) : ∀ E σ H, tsD X.K ct W (dSetO i g) E σ H → tAsg te (gName i) E σ H := by
  rintro E σ H ⟨G0, B, G, σd, S, post⟩
  refine h σ H _ ⟨G0, B, G, σd, S, PostS.of S post fun ds G1 H1 hd le post1 q vs hp hg hh rv => ?_⟩
  exact post1 G1 H1 _ (Ex.refl G1) (own_fresh S le hp hg hh rv)
theorem dst_setO (i : Nat) (h : PS X st (tAsg (teF X.K ct W g) (gName i))) : DSt X ct W st (dSetO i g) := PS_imp h (setO_imp i fun _ _ _ q => q)
/-- x = [.. for ..] -/
theorem dst_lc (i : Nat) {it : DS → Out (List D)} {k : D → DS → Option DS} {e : DS → Out D} {vs js : List Nat} (hj : ∀ j ∈ js, j ∈ vs) (h : PS X st (tAsg (tLc (tiD X.K ct W it) (tgD X.K js k) (ttD X.K ct W0 t) (teD X.K ct W0 e) vs) (gName i))) : DSt X ct W st (dSet i (dL (lcD it k t e vs))) := by
  refine PS_imp h ?_
  rintro E σ H ⟨G0, B, G, σd, S, post⟩
  refine lc_imp hj σ H _ ⟨G0, B, G, σd, S, ?_⟩
  have post' : PostS X.K ct W E G0 B G (Res.of (lcD it k t e vs σd) σd fun ds => .nx (σd.set i (.val (.list ds)))) := by
    have q : dSet i (dL (lcD it k t e vs)) σd = Res.of (lcD it k t e vs σd) σd fun ds => .nx (σd.set i (.val (.list ds))) := by
      unfold dSet dL
      cases lcD it k t e vs σd <;> rfl
    rw [← q]
    exact post
  refine PostS.of S post' fun ds G1 H1 hd le post1 q vs hp hg hh rv => ?_
  have S1 := own_fresh (i := i) S le hp hg hh rv
  by_cases hl : i < σd.length
  · obtain ⟨p', vs', e1, hg', hh', rr, S2⟩ := S1.freeze (i := i) (ds := ds) (by rw [List.getElem?_set_self hl])
    rw [List.set_set] at S2
    exact post1 _ H1 _ (Ex.new hg') S2
  · show E.nx (σ.set i (some (.ref q))) H1
    have l2 : ¬ i < σ.length := by rw [← S.len]; exact hl
    rw [List.set_eq_of_length_le (Nat.not_lt.mp l2)]
    rw [List.set_eq_of_length_le (Nat.not_lt.mp hl)] at post1
    exact post1 G1 H1 σ (Ex.refl G1) (S.mono le)
theorem dst_lcO (i : Nat) {it : DS → Out (List D)} {k : D → DS → Option DS} {e : DS → Out D} {vs js : List Nat} (hj : ∀ j ∈ js, j ∈ vs) (h : PS X st (tAsg (tLc (tiD X.K ct W it) (tgD X.K js k) (ttD X.K ct W0 t) (teD X.K ct W0 e) vs) (gName i))) : DSt X ct W st (dSetO i (lcD it k t e vs)) :=
  PS_imp h (setO_imp i (lc_imp hj))
/-- a, b = x, y -/
def dPar (i j : Nat) (fa fb : DS → Out D) : DS → Res := fun σ => Res.of (fa σ) σ fun a => Res.of (fb σ) σ fun b => .nx ((σ.set i (.val a)).set j (.val b))
theorem dst_par (i j : Nat) (h : PS X st (tPar i j (tCons (teD X.K ct W fa) (tCons (teD X.K ct W fb) tNil)))) : DSt X ct W st (dPar i j fa fb) := by
  refine PS_imp h ?_
  rintro E σ H ⟨G0, B, G, σd, S, post⟩
  refine ⟨G0, B, G, σd, S, PostS.of S post fun d G1 H1 hd le post1 v rv => ?_⟩
  refine ⟨G0, B, G1, σd, S.mono le, PostS.of (S.mono le) post1 fun d2 G2 H2 hd2 le2 post2 v2 rv2 => ?_⟩
  refine ⟨v, v2, rfl, post2 G2 H2 _ (Ex.refl G2) ?_⟩
  exact (((S.mono le).mono le2).setV (rv.mono le2.g)).setV rv2
/-- a, b = [..], y, the list the def's own -/
def dParO (i j : Nat) (g : DS → Out (List D)) (fb : DS → Out D) : DS → Res := fun σ => Res.of (g σ) σ fun a => Res.of (fb σ) σ fun b => .nx ((σ.set i (.own a)).set j (.val b))
theorem dst_parO (i j : Nat) (h : PS X st (tPar i j (tCons (teF X.K ct W g) (tCons (teD X.K ct W fb) tNil)))) : DSt X ct W st (dParO i j g fb) := by
  refine PS_imp h ?_
  rintro E σ H ⟨G0, B, G, σd, S, post⟩
  refine ⟨G0, B, G, σd, S, PostS.of S post fun ds G1 H1 hd le post1 q vs hp hg hh rv => ?_⟩
  refine ⟨G0, B, G1, σd, S.mono le, PostS.of (S.mono le) post1 fun d2 G2 H2 hd2 le2 post2 v2 rv2 => ?_⟩
  refine ⟨.ref q, v2, rfl, post2 G2 H2 _ (Ex.refl G2) ?_⟩
  exact (own_fresh S (le.trans le2) hp (le2.n _ _ hh hg) (le2.h _ _ hh) (rv.mono le2.g)).setV rv2
/-- x op= e -/
def dAug (i : Nat) (q : D → D → Option D) (f : DS → Out D) : DS → Res := fun σ => Res.of (dVar i σ) σ fun a => Res.of (f σ) σ fun b => Res.of (Out.opt (q a b)) σ fun c => .nx (σ.set i (.val c))
theorem dst_aug (i : Nat) {q : D → D → Option D} (h : PS X st (tAug i (teD X.K ct W f) (rD X.K q))) : DSt X ct W st (dAug i q f) := by
  refine PS_imp h ?_
  rintro E σ H ⟨G0, B, G, σd, S, post⟩
  unfold dAug at post
  cases hv : dVar i σd with
  | no => rw [hv] at post; exact post.elim
  | ex c =>
    exfalso
    unfold dVar at hv
    split at hv <;> cases hv
  | ok a =>
    have hi : σd[i]? = some (.val a) := by
      unfold dVar at hv
      split at hv
      · rename_i d' hd'; cases hv; exact hd'
      · cases hv
    rw [hv] at post
    obtain ⟨o, ho, v, rfl, ra⟩ := S.at_ hi
    refine ⟨v, ho, G0, B, G, σd, S, PostS.of (k := fun b => Res.of (Out.opt (q a b)) σd fun c => .nx (σd.set i (.val c))) S post fun b G1 H1 hb le post1 w rw' => ?_⟩
    cases hq : q a b with
    | none => rw [hq] at post1; exact post1.elim
    | some c =>
      rw [hq] at post1
      exact ⟨G1, a, b, c, le.x, ra.mono le.g, rw', hq, fun z G2 H2 le2 rz => post1 G2 H2 _ le2.g (((S.mono le).mono le2).setV rz)⟩
/-- an expression alone -/
def dDrop (f : DS → Out D) : DS → Res := fun σ => Res.of (f σ) σ fun _ => .nx σ
theorem dst_expr (he : DE X ct W e f) (hs : swapsWith e none pos.line X.env = pure false := by rfl) : DSt X ct W (.Expr e pos) (dDrop f) := by
  refine PS_imp (ps_expr he hs) ?_
  rintro E σ H ⟨G0, B, G, σd, S, post⟩
  exact ⟨G0, B, G, σd, S, PostS.of S post fun d G1 H1 hd le post1 v rv => post1 G1 H1 _ (Ex.refl G1) (S.mono le)⟩
/-- xs.append(e), xs the def's own -/
def ownOf (s : Option Sl) : Option (List D) := match s with
  | some (.own ds) => some ds
  | _ => none
def dApp (i : Nat) (f : DS → Out D) : DS → Res := fun σ => Res.of (Out.opt (ownOf σ[i]?)) σ fun ds => Res.of (f σ) σ fun d => if ds.length ≤ lim then .nx (σ.set i (.own (ds ++ [d]))) else .no
theorem dst_app (i : Nat) (h : PS X st (tDrop (tBM X.K "list" rAppend (tVar i) (tCons (teD X.K ct W f) tNil)))) : DSt X ct W st (dApp i f) := by
  refine PS_imp h ?_
  rintro E σ H ⟨G0, B, G, σd, S, post⟩
  unfold dApp at post
  cases hi : σd[i]? with
  | none => rw [hi] at post; exact post.elim
  | some s =>
    rw [hi] at post
    cases s with
    | nil => exact post.elim
    | val d => exact post.elim
    | raw ds => exact post.elim
    | own ds =>
      obtain ⟨o, ho, q, vs, rfl, hb, hg, hh, r⟩ := S.at_ hi
      refine ⟨.ref q, ho, .inl ⟨rfl, _, SqL.of hh⟩, G0, B, G, σd, S, PostS.of (k := fun d => if ds.length ≤ lim then .nx (σd.set i (.own (ds ++ [d]))) else .no) S post fun d G1 H1 hd le post1 v rv => ?_⟩
      by_cases hl : ds.length ≤ lim
      · rw [if_pos hl] at post1
        refine ⟨q, vs, v, rfl, rfl, le.h _ _ hh, by rw [r.length]; exact lim_lt hl, ?_⟩
        exact post1 G1 _ σ (Ex.refl G1) ((S.mono le).chg hi ho ((r.mono le.g).append (.cons rv .nil)))
      · rw [if_neg hl] at post1
        exact post1.elim
/-- xs.extend(ys), xs the def's own -/
def asL : D → Option (List D)
  | .list ds => some ds
  | _ => none
def dExt (i : Nat) (f : DS → Out D) : DS → Res := fun σ => Res.of (Out.opt (ownOf σ[i]?)) σ fun ds => Res.of (f σ) σ fun d => Res.of (Out.opt (asL d)) σ fun es => if ds.length + es.length ≤ lim then .nx (σ.set i (.own (ds ++ es))) else .no
theorem dst_ext (i : Nat) (h : PS X st (tDrop (tBM X.K "list" rExtend (tVar i) (tCons (teD X.K ct W f) tNil)))) : DSt X ct W st (dExt i f) := by
  refine PS_imp h ?_
  rintro E σ H ⟨G0, B, G, σd, S, post⟩
  unfold dExt at post
  cases hi : σd[i]? with
  | none => rw [hi] at post; exact post.elim
  | some s =>
    rw [hi] at post
    cases s with
    | nil => exact post.elim
    | val d => exact post.elim
    | raw ds => exact post.elim
    | own ds =>
      obtain ⟨o, ho, q, vs, rfl, hb, hg, hh, r⟩ := S.at_ hi
      refine ⟨.ref q, ho, .inl ⟨rfl, _, SqL.of hh⟩, G0, B, G, σd, S, PostS.of (k := fun d => Res.of (Out.opt (asL d)) σd fun es => if ds.length + es.length ≤ lim then .nx (σd.set i (.own (ds ++ es))) else .no) S post fun d G1 H1 hd le post1 v rv => ?_⟩
      cases d with
      | list es =>
        have post2 : PostS X.K ct W E G0 B G1 (if ds.length + es.length ≤ lim then .nx (σd.set i (.own (ds ++ es))) else .no) := post1
        by_cases hl : ds.length + es.length ≤ lim
        · rw [if_pos hl] at post2
          cases rv with
          | lst h1 r1 =>
            refine ⟨q, _, vs, _, rfl, rfl, le.h _ _ hh, le.x _ _ h1, by rw [r.length, r1.length]; exact lim_line hl, ?_⟩
            exact post2 G1 _ σ (Ex.refl G1) ((S.mono le).chg hi ho ((r.mono le.g).append r1))
        · rw [if_neg hl] at post2
          exact post2.elim
      | _ => exact (show False from post1).elim
def dIfS (t : DS → Out Bool) (r r' : DS → Res) : DS → Res := fun σ => Res.of (t σ) σ fun b => if b = true then r σ else r' σ
theorem dst_if {c : Expr} {a b : List Stmt} (hc : DT X ct W c t) (ha : DSs X ct W a r) (hb : DSs X ct W b r') : DSt X ct W (.If c a b pos) (dIfS t r r') := by
  refine PS_imp (ps_if hc ha hb) ?_
  rintro E σ H ⟨G0, B, G, σd, S, post⟩
  refine ⟨G0, B, G, σd, S, PostS.of S post fun b G1 H1 hd le post1 => ?_⟩
  cases b with
  | true => rw [if_pos rfl] at post1 ⊢; exact ⟨G0, B, G1, σd, S.mono le, post1⟩
  | false => rw [if_neg Bool.false_ne_true] at post1 ⊢; exact ⟨G0, B, G1, σd, S.mono le, post1⟩
def dRet (f : DS → Out D) : DS → Res := fun σ => Res.of (f σ) σ .rt
theorem dst_ret (he : DE X ct W e f) : DSt X ct W (.Return (some e) pos) (dRet f) := by
  refine PS_imp (ps_ret he) ?_
  rintro E σ H ⟨G0, B, G, σd, S, post⟩
  exact ⟨G0, B, G, σd, S, PostS.of S post fun d G1 H1 hd le post1 v rv => post1 v G1 H1 (Ex.refl G1) (S.le.trans le) rv⟩
def dRetN : DS → Res := fun _ => .rt .none
theorem dst_retN : DSt X ct W (.Return none pos) dRetN := by
  refine PS_imp ps_retN ?_
  rintro E σ H ⟨G0, B, G, σd, S, post⟩
  exact post .non G H (Ex.refl G) S.le .non
/-- return x, x the def's own list, or data -/
def dRetV (i : Nat) : DS → Res := fun σ => Res.of (Out.opt (dSeq σ[i]?)) σ .rt
theorem dst_retV (i : Nat) (h : PE X e (tVar i)) : DSt X ct W (.Return (some e) pos) (dRetV i) := by
  refine PS_imp (ps_ret h) ?_
  rintro E σ H ⟨G0, B, G, σd, S, post⟩
  unfold dRetV at post
  cases hi : σd[i]? with
  | none => rw [hi] at post; exact post.elim
  | some s =>
    rw [hi] at post
    cases s with
    | nil => exact post.elim
    | raw ds => exact post.elim
    | val d =>
      obtain ⟨o, ho, v, rfl, ra⟩ := S.at_ hi
      exact ⟨v, ho, post v G H (Ex.refl G) S.le ra⟩
    | own ds =>
      obtain ⟨q, vs, ho, hg, hh, rr, S2⟩ := S.freeze hi
      exact ⟨.ref q, ho, post (.ref q) _ H (Ex.new hg) S2.le (.lst upd_same (rr.mono (Ex.new hg)))⟩
/-- raise C('..') -/
def dRaise (n : String) : DS → Res := fun σ => .ex ⟨n, none⟩ σ
theorem dst_raise {n : String} (h : PS X st (fun _ σ H => W (.ref (ct n)) none σ H)) : DSt X ct W st (dRaise n) := by
  refine PS_imp h ?_
  rintro E σ H ⟨G0, B, G, σd, S, post⟩
  exact post G H σ (Ex.refl G) S
/-- for target in iter -/
def forD (k : D → DS → Option DS) (r : DS → Res) : List D → DS → Res
  | [], σ => .nx σ
  | d :: ds, σ => match k d σ with
    | none => .no
    | some σ1 => match r σ1 with
      | .nx σ2 => forD k r ds σ2
      | .ct σ2 => forD k r ds σ2
      | .bk σ2 => .nx σ2
      | o => o
theorem forD_nil {k : D → DS → Option DS} {r : DS → Res} {σ : DS} : forD k r [] σ = .nx σ := by rw [forD]
theorem forD_cons {k : D → DS → Option DS} {r : DS → Res} {d : D} {ds : List D} {σ : DS} : forD k r (d :: ds) σ = (match k d σ with
    | none => .no
    | some σ1 => match r σ1 with
      | .nx σ2 => forD k r ds σ2
      | .ct σ2 => forD k r ds σ2
      | .bk σ2 => .nx σ2
      | o => o) := by rw [forD]
def dFor (g : DS → Out (List D)) (k : D → DS → Option DS) (r : DS → Res) : DS → Res := fun σ => Res.of (g σ) σ fun ds => forD k r ds σ
theorem dst_for {tg iter : Expr} {body : List Stmt} {js : List Nat} {k : D → DS → Option DS} (hp : PassesOwn (model X.prog X.w) X.A X.env X.xe) (hc : X.calm = true) (hi : DI X ct W tg iter g) (hg : DG X tg js k) (hb : DSs X ct W body r)
    (hs : ∀ x, foldedSetIterable iter X.env x = pure x := by intro _; rfl) : DSt X ct W (.For tg iter body [] pos) (dFor g k r) := by
  refine PS_imp (ps_for hp hc hi hg hb hs) ?_
  rintro E σ H ⟨G0, B, G, σd, S, post⟩
  refine ⟨G0, B, G, σd, S, PostS.of S post fun ds G1 H1 hd le post1 J hJ => ?_⟩
  obtain ⟨Y, wk, yl⟩ := hJ
  refine for_it wk (fun i σ2 H2 => ∃ G2 σd2, Ex G1 G2 ∧ Sim X.K G0 B G2 H2 σd2 σ2 ∧ forD k r (ds.drop i) σd2 = forD k r ds σd) ?_ ?_ ?_ ?_
  · exact ⟨G1, σd, Ex.refl G1, S.mono le, rfl⟩
  · rintro i σ2 H2 _ ⟨G2, σd2, e, S2, _⟩
    exact e.trans S2.le.x
  · rintro i x σ2 H2 H3 hi ⟨G2, σd2, e2, S2, eq⟩ hy
    obtain ⟨G3, l3, rx⟩ := yl i G2 H2 x H3 ds[i] e2 S2.le.x (by simp [hi]) hy
    have hdrop : ds.drop i = ds[i] :: ds.drop (i + 1) := List.drop_eq_getElem_cons hi
    rw [hdrop, forD_cons] at eq
    cases hk : k ds[i] σd2 with
    | none =>
      rw [hk] at eq
      rw [← eq] at post1
      exact post1.elim
    | some σd3 =>
      rw [hk] at eq
      refine ⟨G0, B, G3, σd2, ds[i], σd3, S2.mono l3, rx, hk, fun σ4 S4 _ _ => ?_⟩
      refine ⟨G0, B, G3, σd3, S4, ?_⟩
      have e3 : Ex G1 G3 := e2.trans l3.g
      have eq' : (match r σd3 with
        | .nx σ2 => forD k r (ds.drop (i + 1)) σ2
        | .ct σ2 => forD k r (ds.drop (i + 1)) σ2
        | .bk σ2 => .nx σ2
        | o => o) = forD k r ds σd := eq
      cases hr : r σd3 with
      | nx σd5 =>
        rw [hr] at eq'
        exact fun G4 H4 σ5 e4 S5 => ⟨G4, σd5, e3.trans e4, S5, eq'⟩
      | ct σd5 =>
        rw [hr] at eq'
        exact fun G4 H4 σ5 e4 S5 => ⟨G4, σd5, e3.trans e4, S5, eq'⟩
      | bk σd5 =>
        rw [hr] at eq'
        rw [← eq'] at post1
        exact fun G4 H4 σ5 e4 S5 => post1 G4 H4 σ5 (e3.trans e4) S5
      | rt d =>
        rw [hr] at eq'
        rw [← eq'] at post1
        exact fun v G4 H4 e4 l4 rv => post1 v G4 H4 (e3.trans e4) l4 rv
      | ex c σd5 =>
        rw [hr] at eq'
        rw [← eq'] at post1
        exact fun G4 H4 σ5 e4 S5 => post1 G4 H4 σ5 (e3.trans e4) S5
      | no =>
        rw [hr] at eq'
        rw [← eq'] at post1
        exact post1
  · rintro σ2 H2 ⟨G2, σd2, e2, S2, eq⟩
    rw [List.drop_length, forD_nil] at eq
    rw [← eq] at post1
    exact post1 G2 H2 σ2 e2 S2
/-- while t, at most so many turns -/
def whileD (t : DS → Out Bool) (r : DS → Res) : Nat → DS → Res
  | 0, _ => .no
  | n + 1, σ => Res.of (t σ) σ fun b => if b = true then (match r σ with
      | .nx σ2 => whileD t r n σ2
      | .ct σ2 => whileD t r n σ2
      | .bk σ2 => .nx σ2
      | o => o) else .nx σ
theorem dst_while {c : Expr} {body : List Stmt} (n : Nat) (hp : PassesOwn (model X.prog X.w) X.A X.env X.xe) (hc : DT X ct W c t) (hb : DSs X ct W body r) : DSt X ct W (.While c body [] pos) (whileD t r n) := by
  refine PS_imp (ps_while hp hc hb) ?_
  rintro E σ H ⟨G0, B, G, σd, S, post⟩
  refine ⟨fun m σ2 H2 => ∃ G2 σd2, Ex G G2 ∧ Sim X.K G0 B G2 H2 σd2 σ2 ∧ whileD t r m σd2 = whileD t r n σd, ⟨n, G, σd, Ex.refl G, S, rfl⟩, ?_⟩
  rintro m σ2 H2 ⟨G2, σd2, e2, S2, eq⟩
  rw [← eq] at post
  cases m with
  | zero => exact post.elim
  | succ m =>
    have post2 := PostS.mono (r := whileD t r (m + 1) σd2) post e2
    unfold whileD at post2
    refine ⟨G0, B, G2, σd2, S2, PostS.of S2 post2 fun b G3 H3 hb' le post3 => ?_⟩
    have S3 := S2.mono le
    have eq2 : whileD t r (m + 1) σd2 = (if b = true then (match r σd2 with
      | .nx σ2 => whileD t r m σ2
      | .ct σ2 => whileD t r m σ2
      | .bk σ2 => .nx σ2
      | o => o) else .nx σd2) := by
      show Res.of (t σd2) σd2 _ = _
      rw [hb']
      rfl
    rw [eq2] at eq
    cases b with
    | false =>
      show (if _ = true then _ else _)
      rw [if_neg Bool.false_ne_true] at post3 ⊢
      exact post3 G3 H3 σ2 (Ex.refl G3) S3
    | true =>
      show (if _ = true then _ else _)
      rw [if_pos rfl] at post3 ⊢
      rw [if_pos rfl] at eq
      refine ⟨fun σ4 H4 => ∃ G4 σd4, Ex G G4 ∧ Sim X.K G0 B G4 H4 σd4 σ4 ∧ whileD t r m σd4 = whileD t r n σd, fun σ4 H4 q => ⟨m, Nat.lt_succ_self m, q⟩, G0, B, G3, σd2, S3, ?_⟩
      have e3 : Ex G G3 := e2.trans le.g
      cases hr : r σd2 with
      | nx σd5 =>
        rw [hr] at eq
        exact fun G4 H4 σ5 e4 S5 => ⟨G4, σd5, e3.trans e4, S5, eq⟩
      | ct σd5 =>
        rw [hr] at eq
        exact fun G4 H4 σ5 e4 S5 => ⟨G4, σd5, e3.trans e4, S5, eq⟩
      | bk σd5 => rw [hr] at post3; exact post3
      | rt d => rw [hr] at post3; exact post3
      | ex c σd5 => rw [hr] at post3; exact post3
      | no => rw [hr] at post3; exact post3
end
end DL

set_option maxRecDepth 100000
set_option maxHeartbeats 2000000
/-! The data layer, 8: try, defs and their calls, the law's own end. -/
namespace DL
open PySem PySem.Spec PyProof.Rows L2

/-- the program's exception classes: their names, who is under whom -/
structure ExEnv where
  names : List String
  sub : String → String → Bool
def tryGo (V : ExEnv) : List (String × (DS → Res)) → Exn → DS → Res
  | [], c, σ => .ex c σ
  | (n, r) :: cs, c, σ => if V.names.contains c.name && c.pay.isNone then (if V.sub c.name n = true then r σ else tryGo V cs c σ) else .no
def dTry (V : ExEnv) (r : DS → Res) (cs : List (String × (DS → Res))) : DS → Res := fun σ => match r σ with
  | .ex c σ' => tryGo V cs c σ'
  | o => o
section
variable {X : Cx} {ct : String → Addr} {W : WX} {pos : Pos}
def ExOk (K : PySem.W.Frag) (ct : String → Addr) (V : ExEnv) (n : String) : Prop := ∀ a, V.names.contains a = true → PySem.W.exmOne K (.ref (ct a)) (.ref (ct n)) = some (V.sub a n)
def clauses (K : PySem.W.Frag) (ct : String → Addr) (cs : List (String × (DS → Res))) : List (Value × (Addr → Value → Option Addr → TS)) := cs.map fun p => (.ref (ct p.1), fun _ _ _ => tsD K ct W0 p.2)
structure HdsD (X : Cx) (ct : String → Addr) (V : ExEnv) (hds : List ExceptHandler) (cs : List (String × (DS → Res))) : Prop where
  ok : HdsOk X hds (clauses X.K ct cs)
  ex : ∀ p ∈ cs, ExOk X.K ct V p.1
theorem hds_nil {V : ExEnv} : HdsD X ct V [] [] := ⟨.nil, fun _ h => by cases h⟩
theorem hds_cons {V : ExEnv} {x : Str} {n : String} {r : DS → Res} {b₀ : Stmt} {suite : List Stmt} {np pos' : Pos} {hds : List ExceptHandler} {cs : List (String × (DS → Res))} (hc : Names X x (.ref (ct n))) (he : ExOk X.K ct V n)
    (hsu : ∀ (a : Addr) (oe : Obj) (pn : List (Addr × Obj)), DSs (X.suite a ((a, oe) :: pn)) ct W0 (b₀ :: suite) r) (k : HdsD X ct V hds cs) : HdsD X ct V (.ExceptHandler (some (.Name x np)) none (b₀ :: suite) pos' :: hds) ((n, r) :: cs) :=
  ⟨.cons hc (fun a oe cls d pn _ _ => hsu a oe pn) k.ok, fun p hp => by
    rcases List.mem_cons.mp hp with rfl | hp
    · exact he
    · exact k.ex p hp⟩
theorem post_W0 {K : PySem.W.Frag} {E : Ends} {G0 B G : Hp} {r : Res} (h : PostS K ct W E G0 B G r) (n : ∀ c σ, r ≠ .ex c σ) : PostS K ct W0 E G0 B G r := by
  cases r with
  | ex c σ => exact absurd rfl (n c σ)
  | nx σ => exact h
  | bk σ => exact h
  | ct σ => exact h
  | rt d => exact h
  | no => exact h
/-- no suite of a clause raises -/
def calmR (r : DS → Res) : Prop := ∀ σ c σ', r σ ≠ .ex c σ'
theorem try_go {V : ExEnv} {E : Ends} {G0 B G H : Hp} {σd : DS} {σ : L2.St} {c : Exn} : ∀ {cs : List (String × (DS → Res))}, (∀ p ∈ cs, ExOk X.K ct V p.1) → (∀ p ∈ cs, calmR p.2) → Sim X.K G0 B G H σd σ → PostS X.K ct W E G0 B G (tryGo V cs c σd) → WxE ct (wMany X.K W E (clauses X.K ct cs)) σ c H
  | [], _, _, S, post => by
    have q := post G H σ (Ex.refl G) S
    exact q
  | (n, r) :: cs, he, hq, S, post => by
    unfold tryGo at post
    by_cases hn : (V.names.contains c.name && c.pay.isNone) = true
    · rw [if_pos hn] at post
      rw [Bool.and_eq_true] at hn
      have hx := he (n, r) List.mem_cons_self c.name hn.1
      have hp : c.pay = none := Option.isNone_iff_eq_none.mp hn.2
      have e1 : ∀ W' : WX, WxE ct W' σ c H = W' (.ref (ct c.name)) none σ H := fun W' => by
        unfold WxE
        rw [hp]
      rw [e1]
      refine ⟨V.sub c.name n, hx, fun hb a ha => ?_, fun hb => ?_⟩
      · rw [hb, if_pos rfl] at post
        exact ⟨G0, B, G, σd, S, post_W0 post fun c' σ' q => hq (n, r) List.mem_cons_self _ _ _ q⟩
      · rw [hb, if_neg Bool.false_ne_true] at post
        have q := try_go (cs := cs) (fun p hp => he p (List.mem_cons_of_mem _ hp)) (fun p hp => hq p (List.mem_cons_of_mem _ hp)) S post
        rw [e1] at q
        exact q
    · rw [if_neg hn] at post
      exact post.elim
theorem dst_try {V : ExEnv} {body : List Stmt} {h₀ : ExceptHandler} {hds : List ExceptHandler} {r : DS → Res} {cs : List (String × (DS → Res))} (hs : X.stack = X.env :: X.outer) (hf : X.env.frame = some X.env.locals) (tk : Takes X W)
    (hb : ∀ (W' : WX) (pn : List (Addr × Obj)) (xe : Value → Shared → Prop), Takes (X.tr pn xe) W' → PassesOwn (model X.prog X.w) X.A X.env xe → DSs (X.tr pn xe) ct W' body r)
    (hh : HdsD X ct V (h₀ :: hds) cs) (hq : ∀ p ∈ cs, calmR p.2) : DSt X ct W (.Try body (h₀ :: hds) [] [] pos) (dTry V r cs) := by
  refine PS_imp (ps_try_many (tb := fun W' => tsD X.K ct W' r) hs hf tk hb hh.ok) ?_
  rintro E σ H ⟨G0, B, G, σd, S, post⟩
  refine ⟨G0, B, G, σd, S, ?_⟩
  unfold dTry at post
  cases hr : r σd with
  | nx σ1 => rw [hr] at post; exact post
  | bk σ1 => rw [hr] at post; exact post
  | ct σ1 => rw [hr] at post; exact post
  | rt d => rw [hr] at post; exact post
  | no => rw [hr] at post; exact post
  | ex c σ1 =>
    rw [hr] at post
    intro G1 H1 σ2 e S1
    exact try_go hh.ex hq S1 (PostS.mono (r := tryGo V cs c σ1) post e)

/-! ### defs -/
inductive Args (K : PySem.W.Frag) (G : Hp) : List V → List Sl → Prop
  | nil : Args K G [] []
  | val {v : V} {vs : List V} {d : D} {ss : List Sl} : Rp K G v d → Args K G vs ss → Args K G (v :: vs) (.val d :: ss)
  | raw {a : Addr} {xs : List V} {ds : List D} {vs : List V} {ss : List Sl} : SqL K G a xs → RpAll K G xs ds → Args K G vs ss → Args K G (.ref a :: vs) (.raw ds :: ss)
theorem Args.length {K : PySem.W.Frag} {G : Hp} {vs : List V} {ss : List Sl} (h : Args K G vs ss) : vs.length = ss.length := by
  induction h with
  | nil => rfl
  | val _ _ ih => simp [ih]
  | raw _ _ _ ih => simp [ih]
theorem Args.get {K : PySem.W.Frag} {G B H : Hp} {vs : List V} {ss : List Sl} (h : Args K G vs ss) : ∀ {i : Nat} {s : Sl} {v : V}, ss[i]? = some s → vs[i]? = some v → SlAt K B G H (some v) s ∧ ∀ ds, s ≠ .own ds := by
  induction h with
  | nil => intro i s v h; simp at h
  | val r _ ih =>
    intro i s v h1 h2
    cases i with
    | zero =>
      simp at h1 h2
      subst h1 h2
      exact ⟨⟨_, rfl, r⟩, fun ds q => by cases q⟩
    | succ i => exact ih (by simpa using h1) (by simpa using h2)
  | raw q r _ ih =>
    intro i s v h1 h2
    cases i with
    | zero =>
      simp at h1 h2
      subst h1 h2
      exact ⟨⟨_, _, rfl, q, r⟩, fun ds q => by cases q⟩
    | succ i => exact ih (by simpa using h1) (by simpa using h2)
theorem Args.of {K : PySem.W.Frag} {G : Hp} : ∀ {vs : List V} {ds : List D}, RpAll K G vs ds → Args K G vs (ds.map .val)
  | _, _, .nil => .nil
  | _, _, .cons h r => .val h (Args.of r)
def XEE (ct : String → Addr) (E : XK) (c : Exn) (H : Hp) : Prop := match c.pay with
  | none => E (.ref (ct c.name)) none H
  | some _ => False
/-- what a def comes to, by its slots -/
abbrev Fn := List Sl → Out D
/-- a def's promise: with arguments that are such data it comes to F -/
def spD (ct : String → Addr) (K : PySem.W.Frag) (F : Fn) : Sp := fun vs H Q E => ∃ G ss, Ex G H ∧ Args K G vs ss ∧ match F ss with
  | .ok d => ∀ v G' H', Le G H G' H' → Rp K G' v d → Q v H'
  | .ex c => ∀ G' H', Le G H G' H' → XEE ct E c H'
  | .no => False
/-- a def's body, run at its arguments: n slots in all, np of them parameters -/
def runD (n np : Nat) (r : DS → Res) : Fn := fun ss => if ss.length = np then (match r (ss ++ List.replicate (n - np) .nil) with
  | .rt d => .ok d
  | .nx _ => .ok .none
  | .ex c _ => .ex c
  | _ => .no) else .no
theorem runD_len {n np : Nat} {r : DS → Res} {ss : List Sl} (h : runD n np r ss ≠ .no) : ss.length = np := by
  unfold runD at h
  by_cases e : ss.length = np
  · exact e
  · rw [if_neg e] at h
    exact absurd rfl h
theorem sim_start {K : PySem.W.Frag} {G H : Hp} {vs : List V} {ss : List Sl} {N : List Str} {np : Nat} (ex : Ex G H) (a : Args K G vs ss) (hn : ss.length = np) : Sim K G H G H (ss ++ List.replicate (N.length - np) .nil) (L2.start N vs) := by
  have hl := a.length
  have fst : ∀ i (s : Sl), i < ss.length → (ss ++ List.replicate (N.length - np) .nil)[i]? = some s → ss[i]? = some s := fun i s h1 h2 => by rwa [List.getElem?_append_left h1] at h2
  have snd : ∀ i (s : Sl), ¬ i < ss.length → (ss ++ List.replicate (N.length - np) .nil)[i]? = some s → s = .nil := fun i s h1 h2 => by
    rw [List.getElem?_append_right (by omega), List.getElem?_replicate] at h2
    split at h2
    · exact (Option.some.inj h2).symm
    · cases h2
  refine ⟨Le.refl ex, ?_, fun i s o h1 h2 => ?_, fun i j ds es p hij h1 h2 => ?_⟩
  · unfold L2.start
    rw [List.length_append, List.length_append, List.length_map, List.length_replicate, List.length_replicate, hl, hn]
  · by_cases hi : i < ss.length
    · have h3 := fst i s hi h1
      unfold L2.start at h2
      rw [List.getElem?_append_left (by rw [List.length_map, hl]; exact hi), List.getElem?_map, Option.map_eq_some_iff] at h2
      obtain ⟨v, hv, rfl⟩ := h2
      exact (a.get h3 hv).1
    · rw [snd i s hi h1]
      trivial
  · exfalso
    by_cases hi : i < ss.length
    · have h3 := fst i _ hi h1
      have hv : i < vs.length := by rw [hl]; exact hi
      exact (a.get (B := H) (H := H) h3 (show vs[i]? = some vs[i] by simp [hv])).2 ds rfl
    · cases snd i _ hi h1
end
section
variable {P : Program} {w : World} {K : PySem.W.Frag} {mg : Str → Option Value} {base : Heap} {ct : String → Addr}
/-- THE RULE for a def -/
theorem fn_D {x qual : Str} {st : Stmt} {f : Addr} {fd : FuncData} {N ps : List Str} {k : Nat} {r : DS → Res} (F : Fun K x qual st f fd) (S : FnScope N ps (defScope st))
    (hb : ∀ (cdv : Value) (A : Around) (outer : List Env) (s : Shared) (H : Hp) (E : XK), Room k (A.deeper (envOfC qual (defScope st) s.heap.objs.size f cdv)) →
      DSs (cxOf (L2.CX P w) P w K mg base N qual (defScope st) f cdv A outer s H E) ct (fun cls d _ H => E cls d H) (defBody st) r) : FnOk P w K mg base (L2.CX P w) (k + 1) f fd ps (spD ct K (runD N.length ps.length r)) := by
  refine F.okX S (fun vs H Q E h => ?_) (fun cdv A outer s H vs Q E hr h => ⟨_, hb cdv A outer s H E hr, ?_⟩)
  · obtain ⟨G, ss, ex, a, h⟩ := h
    rw [a.length]
    exact runD_len fun q => by rw [q] at h; exact h
  · obtain ⟨G, ss, ex, a, h⟩ := h
    have hn : ss.length = ps.length := runD_len fun q => by rw [q] at h; exact h
    have S0 : Sim K G H G H (ss ++ List.replicate (N.length - ps.length) Sl.nil) (L2.start N vs) := sim_start ex a hn
    refine ⟨G, H, G, ss ++ List.replicate (N.length - ps.length) Sl.nil, S0, ?_⟩
    unfold runD at h
    rw [if_pos hn] at h
    cases hr : r (ss ++ List.replicate (N.length - ps.length) .nil) with
    | nx σ => rw [hr] at h; exact fun G' H' σ' e S' => h .non G' H' S'.le .non
    | rt d => rw [hr] at h; exact fun v G' H' e le rv => h v G' H' le rv
    | bk σ => rw [hr] at h; exact h.elim
    | ct σ => rw [hr] at h; exact h.elim
    | no => rw [hr] at h; exact h.elim
    | ex c σ =>
      rw [hr] at h
      intro G' H' σ' e S'
      have q := h G' H' S'.le
      revert q
      unfold XEE WxE
      cases c.pay with
      | none => exact fun q => q
      | some d => exact fun q => q.elim
/-- what a def comes to, told by a function that agrees with it -/
theorem FnOk.as {f : Addr} {fd : FuncData} {ps : List Str} {k : Nat} {F F' : Fn} (h : FnOk P w K mg base (L2.CX P w) k f fd ps (spD ct K F)) (e : ∀ ss, F' ss ≠ .no → F ss = F' ss) : FnOk P w K mg base (L2.CX P w) k f fd ps (spD ct K F') :=
  h.imp fun vs H Q E q => by
    obtain ⟨G, ss, ex, a, q⟩ := q
    refine ⟨G, ss, ex, a, ?_⟩
    have n : F' ss ≠ .no := fun z => by rw [z] at q; exact q
    rw [e ss n]
    exact q
end
section
variable {X : Cx} {ct : String → Addr} {W : WX} {x y : Str} {p p2 pos : Pos} {e : Expr} {es : List Expr} {ga : DS → Out (List D)} {k : Nat} {f : Addr} {fd : FuncData} {ps : List Str} {F : Fn}
def dFn (F : Fn) (g : DS → Out (List D)) : DS → Out D := fun σ => g σ >>= fun ds => F (ds.map .val)
theorem fn_end {G H : Hp} {σ : L2.St} {vs : List V} {ss : List Sl} {Q : VK} (ex : Ex G H) (a : Args X.K G vs ss) (h : Post ct W G H σ (fun d G' H' => ∀ v, Rp X.K G' v d → Q v H') (F ss)) : spD ct X.K F vs H Q (WE W σ) := by
  refine ⟨G, ss, ex, a, ?_⟩
  cases hF : F ss with
  | ok d => rw [hF] at h; exact fun v G' H' le rv => h G' H' le v rv
  | ex c => rw [hF] at h; exact fun G' H' le => h G' H' le
  | no => rw [hF] at h; exact h
theorem de_fn (Fk : FnOk X.prog X.w X.K X.mg X.base (L2.CX X.prog X.w) k f fd ps (spD ct X.K F)) (hr : Room k X.A) (hg : Gl X x) (hm : X.mg x = some (.ref f)) (hk : PySem.W.keepIn X.K (.ref f) = true) (hb : Binds X.K fd ps []) (tk : Takes X W)
    (ha : DA X ct W (e :: es) ga) (hdb : (x == ("__debug__" : Str)) = false := by decide) (he : starEach (e :: es) X.env = (false, eval e X.env) :: starEach es X.env := by rfl) (hpl : (backTo pos (starEach es X.env)).any (·.1) = false := by rfl) :
    DE X ct W (.Call (.Name x p) (e :: es) [] pos) (dFn F ga) := by
  refine PE_imp (pe_callS Fk hr hg hm hk hb (fun σ => passAt tk σ) ha hdb he hpl) ?_
  rintro σ H Q ⟨G0, B, G, σd, S, post⟩
  exact ⟨G0, B, G, σd, S, Post.bind post fun ds G1 H1 hd le1 post1 vs rvs => fn_end le1.x (Args.of rvs) post1⟩
/-- f(name, ..), the name may be a list that is read alone -/
def argSl (s : Option Sl) : Option Sl := match s with
  | some (.raw ds) => some (.raw ds)
  | some (.val d) => some (.val d)
  | _ => none
def dFnV (F : Fn) (i : Nat) (g : DS → Out (List D)) : DS → Out D := fun σ => Out.opt (argSl σ[i]?) >>= fun s => g σ >>= fun ds => F (s :: ds.map .val)
theorem de_fnV (i : Nat) (Fk : FnOk X.prog X.w X.K X.mg X.base (L2.CX X.prog X.w) k f fd ps (spD ct X.K F)) (hr : Room k X.A) (hg : Gl X x) (hm : X.mg x = some (.ref f)) (hk : PySem.W.keepIn X.K (.ref f) = true) (hb : Binds X.K fd ps []) (tk : Takes X W)
    (hn : PE X (.Name y p2) (tVar i)) (ha : DA X ct W es ga) (hdb : (x == ("__debug__" : Str)) = false := by decide) (he : starEach (.Name y p2 :: es) X.env = (false, eval (.Name y p2) X.env) :: starEach es X.env := by rfl) (hpl : (backTo pos (starEach es X.env)).any (·.1) = false := by rfl) :
    DE X ct W (.Call (.Name x p) (.Name y p2 :: es) [] pos) (dFnV F i ga) := by
  refine PE_imp (pe_callS Fk hr hg hm hk hb (fun σ => passAt tk σ) (pa_cons hn ha he) hdb he hpl) ?_
  rintro σ H Q ⟨G0, B, G, σd, S, post⟩
  unfold dFnV at post
  cases hi : σd[i]? with
  | none => rw [hi] at post; exact post.elim
  | some s =>
    rw [hi] at post
    obtain ⟨o, ho, q⟩ := S.at_ hi
    cases s with
    | nil => exact post.elim
    | own ds => exact post.elim
    | val d =>
      obtain ⟨v, rfl, r⟩ := q
      exact ⟨v, ho, G0, B, G, σd, S, Post.bind (k := fun ds => F (.val d :: ds.map .val)) post fun ds G1 H1 hd le1 post1 vs rvs => fn_end le1.x (.val (r.mono le1.g) (Args.of rvs)) post1⟩
    | raw ds0 =>
      obtain ⟨a, xs, rfl, hq, r⟩ := q
      exact ⟨.ref a, ho, G0, B, G, σd, S, Post.bind (k := fun ds => F (.raw ds0 :: ds.map .val)) post fun ds G1 H1 hd le1 post1 vs rvs => fn_end le1.x (.raw (le1.g.sqL hq) (r.mono le1.g) (Args.of rvs)) post1⟩
end
/-! ### the law's own promise -/
def spLaw (K : PySem.W.Frag) : Sp := fun vs H Q _ => ∃ (a : Addr) (ns : List Int), vs = [.ref a] ∧ SqL K H a (ns.map V.int) ∧ ns.length ≤ 63 ∧ ∀ H', Q (.bl true) H'
theorem rp_ints {K : PySem.W.Frag} {G : Hp} : ∀ ns : List Int, RpAll K G (ns.map V.int) (ns.map .int)
  | [] => .nil
  | n :: ns => .cons (.int n) (rp_ints ns)
/-- a def that comes to True for every script keeps the law's promise; nothing leaves it -/
theorem law_of {P : Program} {w : World} {K : PySem.W.Frag} {mg : Str → Option Value} {base : Heap} {ct : String → Addr} {f : Addr} {fd : FuncData} {ps : List Str} {k : Nat} {F : Fn} (h : FnOk P w K mg base (L2.CX P w) k f fd ps (spD ct K F))
    (hF : ∀ ns : List Int, ns.length ≤ 63 → F [.raw (ns.map .int)] = .ok (.bool true)) : FnOk P w K mg base CX0 k f fd ps (spLaw K) := by
  have q : ∀ vs H Q E, spLaw K vs H Q E → spD ct K F vs H Q (fun _ _ _ => False) := by
    rintro vs H Q E ⟨a, ns, rfl, hq, hl, kk⟩
    refine ⟨H, [.raw (ns.map .int)], Ex.refl H, .raw hq (rp_ints ns) .nil, ?_⟩
    rw [hF ns hl]
    intro v G' H' le rv
    cases rv
    exact kk H'
  refine ⟨fun vs H Q E s => h.len _ _ _ _ (q vs H Q E s), fun A outer s H args us vs Q E hr he hb hv hs => ?_⟩
  refine codeAny_mono (h.run A outer s H args us vs Q (fun _ _ _ => False) hr he hb hv (q vs H Q E hs)) fun r s' hq => ?_
  cases r with
  | ok fl => cases fl <;> exact hq
  | error e =>
    obtain ⟨_, _, _, _, _, _, _, _, _, _, _, _, z⟩ := hq
    exact z.elim
end DL

set_option maxRecDepth 100000
set_option maxHeartbeats 2000000
/-! The data layer, 9: what a program's top has, by name; some more statements. -/
namespace DL
open PySem PySem.Spec PyProof.Rows L2
/-- a def of the top -/
structure FnAt (K : PySem.W.Frag) (mg : Str → Option Value) (x : Str) (st : Stmt) (ps : List Str) (f : Addr) (fd : FuncData) : Prop where
  F : Fun K x x st f fd
  g : mg x = some (.ref f)
  b : Binds K fd ps []
/-- an exception class of the top, over ValueError -/
structure ExAt (K : PySem.W.Frag) (mg : Str → Option Value) (x : Str) (C : Addr) : Prop where
  g : mg x = some (.ref C)
  xP : PySem.W.excIn K C [.type "ValueError", .type "Exception", .type "BaseException", .type "object"] "ValueError.__new__" = true
  kP : PySem.W.keepIn K (.ref C) = true
  bP : PySem.W.subIn K (.ref C) (.type "BaseException") = some true
  tP : PySem.W.typeIn K (.ref C) = some (.type "type")
  iP : PySem.W.isClsIn K C = true
theorem exm_sub {K : PySem.W.Frag} {C S : Addr} {b : Bool} (h1 : PySem.W.subIn K (.ref S) (.type "BaseException") = some true) (h2 : PySem.W.isClsIn K S = true) (h3 : PySem.W.typeIn K (.ref S) = some (.type "type")) (h4 : PySem.W.subIn K (.ref C) (.ref S) = some b) :
    PySem.W.exmOne K (.ref C) (.ref S) = some b := by
  have e1 : (PySem.W.subIn K (.ref S) (.type "BaseException") == some true) = true := by rw [h1] <;> rfl
  have e2 : ((PySem.W.clsIn K S).isSome && PySem.W.typeIn K (.ref S) == some (.type "type")) = true := by
    have h2' : (PySem.W.clsIn K S).isSome = true := h2
    rw [h2', h3] <;> rfl
  unfold PySem.W.exmOne
  rw [if_pos e1]
  unfold PySem.W.kitCls
  first
    | rw [if_pos e2]; exact h4
    | (simp only [e2, if_true]; exact h4)
section
variable {X : Cx} {ct : String → Addr} {W : WX} {x : Str} {p pos : Pos} {e : Expr} {es : List Expr} {f fa fb : DS → Out D} {g : DS → Out (List D)} {st : Stmt}
theorem de_raiseTerm {n : String} {x m : Str} {j : Nat} {p p2 pos : Pos} (h : ExAt X.K X.mg x (ct n)) (hg : Gl X x) (hdb : (x == ("__debug__" : Str)) = false := by decide) : PMk X (.Call (.Name x p) [.Constant (.str m) j p2] [] pos) (fun _ H Q => Q (.ref (ct n)) none H) :=
  pmk_own PySem.F.excBase_ValueError h.xP h.g h.kP (raises_own h.bP h.tP) hg hdb
theorem dst_raiseM (n : String) {x m : Str} {j : Nat} {p p2 q2 : Pos} (hc : X.calm = true) (tk : Takes X W) (h : ExAt X.K X.mg x (ct n)) (hg : Gl X x) (hdb : (x == ("__debug__" : Str)) = false := by decide) : DSt X ct W (.Raise (some (.Call (.Name x p) [.Constant (.str m) j p2] [] q2)) none pos) (dRaise n) :=
  dst_raise (ps_raise hc tk (de_raiseTerm (n := n) h hg hdb))
/-- a, b = [..], y by way of the tuple -/
theorem dst_tupO (i j : Nat) (h : PS X st (tAsg (tTup (tCons (teF X.K ct W g) (tCons (teD X.K ct W fb) tNil))) (gTup X.K 2 (gCons (gName i) (gCons (gName j) gNil))))) : DSt X ct W st (dParO i j g fb) := by
  refine PS_imp h ?_
  rintro E σ H ⟨G0, B, G, σd, S, post⟩
  refine ⟨G0, B, G, σd, S, PostS.of S post fun ds G1 H1 hd le post1 q vs hp hg hh rv => ?_⟩
  refine ⟨G0, B, G1, σd, S.mono le, PostS.of (S.mono le) post1 fun d2 G2 H2 hd2 le2 post2 v2 rv2 => ?_⟩
  refine ⟨by show 2 ≤ sizeLine; decide, fun z hz => ?_⟩
  refine ⟨z, _, rfl, SqT.of upd_same, rfl, _, _, rfl, _, _, rfl, rfl, ?_⟩
  have l3 : Le G2 H2 G2 (upd H2 z (.tup [.ref q, v2])) := Le.newM le2.x hz
  refine post2 G2 _ _ (Ex.refl G2) ?_
  exact (own_fresh S ((le.trans le2).trans l3) hp (le2.n _ _ hh hg) ((le2.trans l3).h _ _ hh) (rv.mono le2.g)).setV rv2
/-- x += e of numbers and texts -/
def pAddI : D → D → Option D
  | .int a, .int b => some (.int (a + b))
  | .str a, .str b => if a.length + b.length ≤ lim then some (.str (a ++ b)) else none
  | _, _ => none
theorem od_iadd : OpD X (inplaceOp .Add) pAddI := opc2 fun x y G H Q d e r ex hx hy hp k => by
  unfold pAddI at hp
  split at hp
  · cases hx; cases hy; cases hp
    exact ⟨_, iop_add, _, _, rfl, rfl, k _ _ _ (Le.refl ex) (.int _)⟩
  · cases hx; cases hy
    split at hp
    · rename_i hl
      cases hp
      exact ⟨_, iop_add_str, _, _, rfl, rfl, lim_line hl, k _ _ _ (Le.refl ex) (.str _)⟩
    · cases hp
  · cases hp
def pSubI : D → D → Option D
  | .int a, .int b => some (.int (a - b))
  | _, _ => none
theorem od_isub : OpD X (inplaceOp .Sub) pSubI := opc2 fun x y G H Q d e r ex hx hy hp k => by
  unfold pSubI at hp
  split at hp
  · cases hx; cases hy; cases hp
    exact ⟨_, iop_sub, _, _, rfl, rfl, k _ _ _ (Le.refl ex) (.int _)⟩
  · cases hp
end
end DL
namespace DL
open PySem PySem.Spec PyProof.Rows L2
section
variable {X : Cx} {ct : String → Addr} {W : WX} {pos : Pos} {e : Expr} {f : DS → Out D}
/-- -e -/
def pNeg : D → Option D
  | .int i => some (.int (-i))
  | _ => none
def dNeg (f : DS → Out D) : DS → Out D := fun σ => f σ >>= fun d => Out.opt (pNeg d)
theorem de_neg (h : DE X ct W e f) : DE X ct W (.UnaryOp .USub e pos) (dNeg f) := by
  refine PE_imp (pe_un un_neg h) ?_
  rintro σ H Q ⟨G0, B, G, σd, S, post⟩
  refine ⟨G0, B, G, σd, S, Post.bind post fun d G1 H1 hd le1 post1 => fun v rv => ?_⟩
  obtain ⟨r, hr, k⟩ := Post.opt le1.x post1
  cases rv with
  | int i => cases hr; exact ⟨i, rfl, k G1 H1 (Le.refl le1.x) _ (.int _)⟩
  | _ => cases hr
/-- the suites of clauses that only return -/
theorem calmR_ret {d : D} : calmR (dRet (dC d)) := fun σ c σ' q => by cases q
theorem calm_nil : ∀ p ∈ ([] : List (String × (DS → Res))), calmR p.2 := fun p h => by cases h
theorem calm_cons {n : String} {r : DS → Res} {cs : List (String × (DS → Res))} (h : calmR r) (k : ∀ p ∈ cs, calmR p.2) : ∀ p ∈ (n, r) :: cs, calmR p.2 := fun p hp => by
  rcases List.mem_cons.mp hp with rfl | hp
  · exact h
  · exact k p hp
end
end DL

set_option maxRecDepth 100000
set_option maxHeartbeats 2000000
/-! The data layer, reckoning 1: texts as lists of codes. -/
namespace DL
open PySem PySem.Spec PyProof.Rows L2

/-- a text by its codes -/
def S (l : List Nat) : Str := ⟨l.toArray⟩
@[simp] theorem S_codes (l : List Nat) : (S l).cps.toList = l := id rfl
@[simp] theorem S_len (l : List Nat) : (S l).length = l.length := by
  show l.toArray.size = l.length
  simp
theorem S_of (z : Str) : S z.cps.toList = z := by
  cases z with
  | mk c => show (⟨c.toList.toArray⟩ : Str) = ⟨c⟩; simp
theorem str_ext {x y : Str} (h : x.cps.toList = y.cps.toList) : x = y := by rw [← S_of x, ← S_of y, h]
theorem S_inj {a b : List Nat} : S a = S b ↔ a = b := by
  constructor
  · intro h
    have q := congrArg (fun z : Str => z.cps.toList) h
    exact q
  · intro h; rw [h]
@[simp] theorem S_app (a b : List Nat) : S a ++ S b = S (a ++ b) := by
  apply str_ext
  show ((S a).cps ++ (S b).cps).toList = a ++ b
  simp
@[simp] theorem S_one (c : Nat) : (⟨#[c]⟩ : Str) = S [c] := id rfl
theorem cutS_S (a : List Nat) (lo hi : Option Int) : cutS (S a) lo hi = S (cutG a lo hi) := by
  unfold cutS cutG
  rw [S_len]
  rfl
/-- slices between numbers that are not negative -/
theorem cutG_take {α : Type} (xs : List α) (k : Nat) : cutG xs none (some (k : Int)) = xs.take k := by
  unfold cutG
  rw [HT.sIx_nat]
  show (xs.drop 0).take (min k xs.length - 0) = xs.take k
  rw [List.drop_zero, Nat.sub_zero]
  by_cases h : k ≤ xs.length
  · rw [Nat.min_eq_left h]
  · rw [Nat.min_eq_right (by omega), List.take_of_length_le (Nat.le_refl _), List.take_of_length_le (by omega)]
theorem cutG_drop {α : Type} (xs : List α) (k : Nat) : cutG xs (some (k : Int)) none = xs.drop k := by
  unfold cutG
  rw [HT.sIx_nat]
  show (xs.drop (min k xs.length)).take (xs.length - min k xs.length) = xs.drop k
  by_cases h : k ≤ xs.length
  · rw [Nat.min_eq_left h, List.take_of_length_le (by rw [List.length_drop]; exact Nat.le_refl _)]
  · rw [Nat.min_eq_right (by omega), List.drop_of_length_le (Nat.le_refl _), List.drop_of_length_le (by omega)]
    simp
theorem cutG_mid {α : Type} (xs : List α) (i j : Nat) (h : i ≤ j) (hj : j ≤ xs.length) : cutG xs (some (i : Int)) (some (j : Int)) = (xs.drop i).take (j - i) := by
  unfold cutG
  rw [HT.sIx_nat, HT.sIx_nat, Nat.min_eq_left hj, Nat.min_eq_left (Nat.le_trans h hj)]
/-- slices by numbers from the end -/
theorem sIx_neg (n d k : Nat) (hk : 0 < k) : HT.sIx n d (some (-(k : Int))) = n - k := by
  unfold HT.sIx
  show (if (-(k : Int)) < 0 then ((-(k : Int)) + (n : Int)).toNat else min (-(k : Int)).toNat n) = n - k
  rw [if_pos (by omega)]
  omega
theorem cutG_end {α : Type} (xs : List α) (k : Nat) (hk : 0 < k) : cutG xs (some (-(k : Int))) none = xs.drop (xs.length - k) := by
  unfold cutG
  rw [sIx_neg _ _ _ hk]
  show (xs.drop (xs.length - k)).take (xs.length - (xs.length - k)) = _
  rw [List.take_of_length_le]
  rw [List.length_drop]
  exact Nat.le_refl _
theorem cutG_but {α : Type} (xs : List α) (k : Nat) (hk : 0 < k) : cutG xs none (some (-(k : Int))) = xs.take (xs.length - k) := by
  unfold cutG
  rw [sIx_neg _ _ _ hk]
  show (xs.drop 0).take (xs.length - k - 0) = _
  rw [List.drop_zero, Nat.sub_zero]
theorem cutG_mid_but {α : Type} (xs : List α) (i k : Nat) (hk : 0 < k) (hi : i ≤ xs.length) : cutG xs (some (i : Int)) (some (-(k : Int))) = (xs.drop i).take (xs.length - k - i) := by
  unfold cutG
  rw [sIx_neg _ _ _ hk, HT.sIx_nat, Nat.min_eq_left hi]
/-- joined with nothing between -/
theorem join_S (ls : List (List Nat)) : Txt.join (S []) (ls.map S) = S ls.flatten := by
  apply str_ext
  rw [TL.join_eq]
  have h := TL.tl_join (S []) (ls.map S)
  show TL.tl _ = _
  rw [h]
  have e : (ls.map S).map TL.tl = ls := by
    rw [List.map_map]
    have : (TL.tl ∘ S) = id := by funext l; rfl
    rw [this, List.map_id]
  rw [e]
  show TL.joinL [] ls = ls.flatten
  have go : ∀ ls : List (List Nat), TL.joinL [] ls = ls.flatten := by
    intro ls
    induction ls with
    | nil => rfl
    | cons a r ih =>
      cases r with
      | nil => show a = [a].flatten; simp
      | cons b r =>
        show a ++ ([] ++ TL.joinL [] (b :: r)) = _
        rw [ih]
        simp
  exact go ls
/-- a number's digits -/
abbrev dig (n : Nat) : List Nat := TL.numL n
theorem strI_nat (n : Nat) : strI (n : Int) = S (dig n) := by
  apply str_ext
  exact TL.tl_num n

/-! ### a sign's next place -/
open Builtin Builtin.Str in
theorem occ_full (s sub : Str) (hi : Nat) : ∀ (l : List Nat) (st : Array Nat × Nat), 1 ≤ st.fst.size → (forIn l st (StrLaws.occBody s sub hi 1)).run.fst = st.fst
  | [], st, h => rfl
  | a :: l, st, h => by
    rw [List.forIn_cons]
    unfold StrLaws.occBody
    rw [if_neg (fun z => by have := z.1.1.1; omega)]
    exact occ_full s sub hi l st h
open Builtin Builtin.Str in
theorem occ_find (x : Str) (c : Nat) : ∀ (l : List Nat) (free : Nat), (∀ i ∈ l, free ≤ i) → (forIn l ((#[] : Array Nat), free) (StrLaws.occBody x ⟨#[c]⟩ x.length 1)).run.fst.toList = (l.find? fun i => x.cps.toList[i]? == some c).toList
  | [], free, _ => rfl
  | a :: l, free, hf => by
    rw [List.forIn_cons, List.find?_cons]
    have ha := hf a (List.mem_cons_self ..)
    by_cases hc : x.cps.toList[a]? = some c
    · have h2 := (StrLaws.subAt_one x c a).mpr hc
      have e : (x.cps.toList[a]? == some c) = true := by rw [hc]; simp
      rw [e]
      unfold StrLaws.occBody
      rw [if_pos ⟨⟨⟨by simp, ha⟩, h2.1⟩, h2.2⟩]
      have q := occ_full x ⟨#[c]⟩ x.length l ((#[] : Array Nat).push a, a + (⟨#[c]⟩ : Str).length) (by simp)
      unfold StrLaws.occBody at q
      exact congrArg Array.toList q
    · have e : (x.cps.toList[a]? == some c) = false := by simpa using hc
      rw [e]
      have ih := occ_find x c l free fun i hi => hf i (List.mem_cons_of_mem _ hi)
      unfold StrLaws.occBody at ih ⊢
      rw [if_neg (fun z => hc ((StrLaws.subAt_one x c a).mp ⟨z.1.2, z.2⟩))]
      exact ih
/-- the first place of c from lo on -/
def nextIx (c : Nat) (l : List Nat) (lo : Nat) : Option Nat := (List.range' lo (l.length + 1 - lo)).find? fun i => l[i]? == some c
theorem occ_next (l : List Nat) (c lo : Nat) : Builtin.Str.occurrences (S l) (S [c]) lo (S l).length 1 = (nextIx c l lo).toList := by
  rw [StrLaws.occ_eq, S_len]
  have h := occ_find (S l) c (List.range' lo (l.length + 1 - lo)) lo (fun i hi => by simp [List.mem_range'] at hi; omega)
  rw [S_len] at h
  exact h
theorem nextIx_some {c : Nat} {l : List Nat} {lo : Nat} {a b : List Nat} (h : l.drop lo = a ++ c :: b) (hc : c ∉ a) : nextIx c l lo = some (lo + a.length) := by
  have hlen : l.length - lo = a.length + (b.length + 1) := by
    have := congrArg List.length h
    rw [List.length_drop, List.length_append, List.length_cons] at this
    exact this
  have get : ∀ i, l[lo + i]? = (a ++ c :: b)[i]? := fun i => by rw [← h, List.getElem?_drop]
  unfold nextIx
  rw [List.find?_eq_some_iff_append]
  refine ⟨by rw [get]; simp, List.range' lo a.length, List.range' (lo + a.length + 1) b.length.succ, ?_, fun i hi => ?_⟩
  · have e : l.length + 1 - lo = a.length + (1 + (b.length + 1)) := by omega
    rw [e, ← List.range'_append_1, ← List.range'_append_1]
    simp [List.range'_one, Nat.succ_eq_add_one]
  · simp only [List.mem_range'_1] at hi
    obtain ⟨j, rfl⟩ : ∃ j, i = lo + j := ⟨i - lo, by omega⟩
    rw [get, List.getElem?_append_left (by omega)]
    have hj : j < a.length := by omega
    rw [List.getElem?_eq_getElem hj]
    have : a[j] ≠ c := fun e => hc (e ▸ List.getElem_mem hj)
    simp [this]
theorem nextIx_none {c : Nat} {l : List Nat} {lo : Nat} (hc : c ∉ l.drop lo) : nextIx c l lo = none := by
  unfold nextIx
  rw [List.find?_eq_none]
  intro i hi
  simp only [List.mem_range'_1] at hi
  have : l[i]? ≠ some c := fun e => by
    refine hc ?_
    obtain ⟨j, rfl⟩ : ∃ j, i = lo + j := ⟨i - lo, by omega⟩
    rw [← List.getElem?_drop] at e
    exact List.mem_of_getElem? e
  simpa using this
def findN (o : Option Nat) : Int := match o with
  | some i => (i : Int)
  | none => -1
theorem find_S (l : List Nat) (c : Nat) : Txt.find (S l) (S [c]) = findN (nextIx c l 0) := by
  unfold Txt.find
  rw [occ_next]
  cases nextIx c l 0 <;> rfl
theorem find3_S (l : List Nat) (c k : Nat) : Txt.find3 (S l) (S [c]) (k : Int) = findN (nextIx c l k) := by
  unfold Txt.find3
  have e : PySem.fromIndex (S l).length (k : Int) = k := by
    unfold PySem.fromIndex
    rw [if_neg (by omega)]
    omega
  rw [e, occ_next]
  cases nextIx c l k <;> rfl
theorem index0_S (l : List Nat) (c : Nat) : Txt.index0 (S l) (S [c]) = nextIx c l 0 := by
  unfold Txt.index0
  rw [occ_next]
  cases nextIx c l 0 <;> rfl
theorem rjustF_S (a : List Nat) (k c : Nat) (h : a.length ≤ k) : Txt.rjustF (S a) (k : Int) c = S (List.replicate (k - a.length) c ++ a) := by
  unfold Txt.rjustF
  rw [S_len]
  by_cases e : (k : Int) ≤ a.length
  · have e2 : k - a.length = 0 := by omega
    rw [if_pos e, e2]
    rfl
  · rw [if_neg e]
    apply str_ext
    show (Array.replicate ((k : Int).toNat - a.length) c ++ (S a).cps ++ Array.replicate 0 c).toList = _
    simp
end DL

set_option maxRecDepth 100000
set_option maxHeartbeats 2000000
/-! The data layer, reckoning 2: what the pieces give at a known state; loops. -/
namespace DL
open PySem PySem.Spec PyProof.Rows L2

section
variable {σ : DS} {i j n : Nat} {d x y : D} {f fa fb fc : DS → Out D} {g : DS → Out (List D)} {t u : DS → Out Bool} {r r' : DS → Res} {p q : D → D → Option D} {k : D → DS → Option DS} {it : DS → Out (List D)}
@[simp] theorem dC_at : dC d σ = .ok d := id rfl
theorem dVar_at (h : σ[i]? = some (.val d)) : dVar i σ = .ok d := by unfold dVar; rw [h]
@[simp] theorem dVar_0 {l : DS} : dVar 0 (.val d :: l) = .ok d := id rfl
@[simp] theorem dVar_s {l : DS} {s : Sl} : dVar (i + 1) (s :: l) = dVar i l := by unfold dVar; rw [List.getElem?_cons_succ]
@[simp] theorem dOp_at : dOp p fa fb σ = (fa σ >>= fun x => fb σ >>= fun y => Out.opt (p x y)) := id rfl
@[simp] theorem dB_at : dB f σ = (f σ >>= fun d => Out.opt (asB d)) := id rfl
@[simp] theorem asB_bool {b : Bool} : asB (.bool b) = some b := id rfl
@[simp] theorem asI_int {b : Int} : asI (.int b) = some b := id rfl
@[simp] theorem dChain_at : dChain p q fa fb fc σ = (fa σ >>= fun x => fb σ >>= fun y => Out.opt (p x y) >>= fun z => Out.opt (asB z) >>= fun k => if k = true then fc σ >>= fun w => Out.opt (q y w) else .ok (.bool false)) := id rfl
@[simp] theorem dAndT_at : dAndT t u σ = (t σ >>= fun b => if b = true then u σ else .ok false) := id rfl
@[simp] theorem dOrT_at : dOrT t u σ = (t σ >>= fun b => if b = true then .ok true else u σ) := id rfl
@[simp] theorem dNotT_at : dNotT t σ = (t σ >>= fun b => .ok (!b)) := id rfl
@[simp] theorem dAndV_at : dAndV fa fb σ = (fa σ >>= fun d => Out.opt (asB d) >>= fun b => if b = true then fb σ else .ok (.bool false)) := id rfl
@[simp] theorem dOrV_at : dOrV fa fb σ = (fa σ >>= fun d => Out.opt (asB d) >>= fun b => if b = true then .ok (.bool true) else fb σ) := id rfl
@[simp] theorem dNotV_at : dNotV f σ = (f σ >>= fun d => Out.opt (asB d) >>= fun b => .ok (.bool (!b))) := id rfl
@[simp] theorem dIf_at : dIf t fa fb σ = (t σ >>= fun b => if b = true then fa σ else fb σ) := id rfl
@[simp] theorem dBl_at : dBl t σ = (t σ >>= fun b => .ok (.bool b)) := id rfl
@[simp] theorem dNil_at : dNil σ = .ok [] := id rfl
@[simp] theorem dYes_at : dYes σ = .ok true := id rfl
@[simp] theorem dCons_at : dCons f g σ = (f σ >>= fun d => g σ >>= fun ds => .ok (d :: ds)) := id rfl
@[simp] theorem dTup_at : dTup g σ = (g σ >>= fun ds => if ds.length ≤ lim then .ok (.tuple ds) else .no) := id rfl
@[simp] theorem dLst_at : dLst g σ = (g σ >>= fun ds => if ds.length ≤ lim then .ok ds else .no) := id rfl
@[simp] theorem dL_at : dL g σ = (g σ >>= fun ds => .ok (.list ds)) := id rfl
@[simp] theorem dCall_at {p : List D → Option D} : dCall p g σ = (g σ >>= fun ds => Out.opt (p ds)) := id rfl
@[simp] theorem dIsi_at {T : String} : dIsi T f σ = (f σ >>= fun d => .ok (.bool (isTy T d))) := id rfl
@[simp] theorem dSM_at {p : D → List D → Option D} : dSM p f g σ = (f σ >>= fun d => if isStr d = true then g σ >>= fun ds => Out.opt (p d ds) else .no) := id rfl
@[simp] theorem isStr_str {z : Str} : isStr (.str z) = true := id rfl
@[simp] theorem dPN_at : dPN σ = .ok none := id rfl
@[simp] theorem dPS_at : dPS f σ = (f σ >>= fun d => Out.opt (asI d) >>= fun i => .ok (some i)) := id rfl
@[simp] theorem dSl_at {l h : DS → Out (Option Int)} : dSl f l h σ = (f σ >>= fun d => l σ >>= fun lo => h σ >>= fun hi => Out.opt (pSl d lo hi)) := id rfl
@[simp] theorem dFn_at {F : Fn} : dFn F g σ = (g σ >>= fun ds => F (ds.map .val)) := id rfl
@[simp] theorem dFnV_at {F : Fn} : dFnV F i g σ = (Out.opt (argSl σ[i]?) >>= fun s => g σ >>= fun ds => F (s :: ds.map .val)) := id rfl
@[simp] theorem argSl_raw {ds : List D} : argSl (some (.raw ds)) = some (.raw ds) := id rfl
@[simp] theorem argSl_val : argSl (some (.val d)) = some (.val d) := id rfl
@[simp] theorem dItems_at : dItems f σ = (f σ >>= fun d => Out.opt (itemsD d)) := id rfl
@[simp] theorem dRng_at {r : List D → Option (List D)} : dRng r g σ = (g σ >>= fun ds => Out.opt (r ds)) := id rfl
@[simp] theorem dEnum_at : dEnum f σ = (f σ >>= fun d => Out.opt (itemsD d) >>= fun ds => .ok (enumD ds)) := id rfl
@[simp] theorem lcD_at {e : DS → Out D} {vs : List Nat} : lcD it k t e vs σ = (it σ >>= fun ds => if ds.length ≤ lim then lcGo (lcStep k t e (wipeD σ vs)) ds else .no) := id rfl
@[simp] theorem dIxV_at : dIxV i fb σ = (Out.opt (dSeq σ[i]?) >>= fun d => fb σ >>= fun k => Out.opt (pIx d k)) := id rfl
@[simp] theorem dLenV_at : dLenV i σ = (Out.opt (dSeq σ[i]?) >>= fun d => Out.opt (pLen [d])) := id rfl
@[simp] theorem dSeq_own {ds : List D} : dSeq (some (.own ds)) = some (.list ds) := id rfl
@[simp] theorem dSeq_val : dSeq (some (.val d)) = some d := id rfl
@[simp] theorem itemsD_list {ds : List D} : itemsD (.list ds) = some ds := id rfl
@[simp] theorem itemsD_tuple {ds : List D} : itemsD (.tuple ds) = some ds := id rfl
@[simp] theorem itemsD_S {l : List Nat} : itemsD (.str (S l)) = some (l.map fun c => .str (S [c])) := id rfl
@[simp] theorem Res_of_opt_some {α : Type} {a : α} {σ : DS} {k : α → Res} : Res.of (Out.opt (some a)) σ k = k a := id rfl
@[simp] theorem dSeqS_at : dSeqS r r' σ = (match r σ with | .nx σ' => r' σ' | o => o) := id rfl
@[simp] theorem dNext_at : dNext σ = .nx σ := id rfl
@[simp] theorem dSet_at : dSet i f σ = (Res.of (f σ) σ fun d => .nx (σ.set i (.val d))) := id rfl
@[simp] theorem dSetO_at : dSetO i g σ = (Res.of (g σ) σ fun ds => .nx (σ.set i (.own ds))) := id rfl
@[simp] theorem dPar_at : dPar i j fa fb σ = (Res.of (fa σ) σ fun a => Res.of (fb σ) σ fun b => .nx ((σ.set i (.val a)).set j (.val b))) := id rfl
@[simp] theorem dParO_at : dParO i j g fb σ = (Res.of (g σ) σ fun a => Res.of (fb σ) σ fun b => .nx ((σ.set i (.own a)).set j (.val b))) := id rfl
@[simp] theorem dAug_at : dAug i p f σ = (Res.of (dVar i σ) σ fun a => Res.of (f σ) σ fun b => Res.of (Out.opt (p a b)) σ fun c => .nx (σ.set i (.val c))) := id rfl
@[simp] theorem dDrop_at : dDrop f σ = (Res.of (f σ) σ fun _ => .nx σ) := id rfl
@[simp] theorem ownOf_own {ds : List D} : ownOf (some (.own ds)) = some ds := id rfl
@[simp] theorem dApp_at : dApp i f σ = (Res.of (Out.opt (ownOf σ[i]?)) σ fun ds => Res.of (f σ) σ fun d => if ds.length ≤ lim then .nx (σ.set i (.own (ds ++ [d]))) else .no) := id rfl
@[simp] theorem dIfS_at : dIfS t r r' σ = (Res.of (t σ) σ fun b => if b = true then r σ else r' σ) := id rfl
@[simp] theorem dRet_at : dRet f σ = Res.of (f σ) σ .rt := id rfl
@[simp] theorem dRetV_at : dRetV i σ = Res.of (Out.opt (dSeq σ[i]?)) σ .rt := id rfl
@[simp] theorem dRaise_at {n : String} : dRaise n σ = .ex ⟨n, none⟩ σ := id rfl
@[simp] theorem dFor_at : dFor it k r σ = (Res.of (it σ) σ fun ds => forD k r ds σ) := id rfl
@[simp] theorem dAsg_at : dAsg f k σ = (Res.of (f σ) σ fun d => Res.of (Out.opt (k d σ)) σ .nx) := id rfl
@[simp] theorem gN_at : gN i d σ = some (σ.set i (.val d)) := id rfl
@[simp] theorem gT_at {gs : List D → DS → Option DS} {ds : List D} : gT n gs (.tuple ds) σ = if ds.length = n then gs ds σ else none := id rfl
@[simp] theorem gsN_at : gsN [] σ = some σ := id rfl
@[simp] theorem gsC_at {gs : List D → DS → Option DS} {ds : List D} : gsC k gs (d :: ds) σ = (k d σ).bind fun σ' => gs ds σ' := id rfl
@[simp] theorem wipe_nil : wipeD σ [] = σ := id rfl
@[simp] theorem wipe_cons {v : Nat} {vs : List Nat} : wipeD σ (v :: vs) = (wipeD σ vs).set v .nil := id rfl
@[simp] theorem lcStep_at {e : DS → Out D} : lcStep k t e σ d = (Out.opt (k d σ) >>= fun σ2 => t σ2 >>= fun b => if b = true then e σ2 >>= fun r => .ok (some r) else .ok none) := id rfl
end

@[simp] theorem dNeg_at {σ : DS} {f : DS → Out D} : dNeg f σ = (f σ >>= fun d => Out.opt (pNeg d)) := id rfl
@[simp] theorem pNeg_int {i : Int} : pNeg (.int i) = some (.int (-i)) := id rfl
@[simp] theorem pIs_none : pIs .none .none = some (.bool true) := id rfl
@[simp] theorem pIs_tuple {ds : List D} : pIs (.tuple ds) .none = some (.bool false) := id rfl
@[simp] theorem lim_1 : (1 ≤ lim) = True := eq_true (by unfold lim; omega)
@[simp] theorem lim_2 : (2 ≤ lim) = True := eq_true (by unfold lim; omega)
@[simp] theorem lim_3 : (3 ≤ lim) = True := eq_true (by unfold lim; omega)
@[simp] theorem lim_4 : (4 ≤ lim) = True := eq_true (by unfold lim; omega)
@[simp] theorem lim_5 : (5 ≤ lim) = True := eq_true (by unfold lim; omega)
@[simp] theorem lim_6 : (6 ≤ lim) = True := eq_true (by unfold lim; omega)
@[simp] theorem lim_7 : (7 ≤ lim) = True := eq_true (by unfold lim; omega)
@[simp] theorem lim_8 : (8 ≤ lim) = True := eq_true (by unfold lim; omega)
@[simp] theorem lim_9 : (9 ≤ lim) = True := eq_true (by unfold lim; omega)
@[simp] theorem lim_10 : (10 ≤ lim) = True := eq_true (by unfold lim; omega)
@[simp] theorem dSlV_at {i : Nat} {l h : DS → Out (Option Int)} {σ : DS} : dSlV i l h σ = (Out.opt (rawSeq σ[i]?) >>= fun ds => l σ >>= fun lo => h σ >>= fun hi => .ok (cutG ds lo hi)) := id rfl
@[simp] theorem rawSeq_raw {ds : List D} : rawSeq (some (.raw ds)) = some ds := id rfl
@[simp] theorem rawSeq_list {ds : List D} : rawSeq (some (.val (.list ds))) = some ds := id rfl
@[simp] theorem rawSeq_own {ds : List D} : rawSeq (some (.own ds)) = some ds := id rfl
@[simp] theorem pAbs_int {i : Int} : pAbs [.int i] = some (.int (i.natAbs : Int)) := by
  show some (PyData.int (if i < 0 then -i else i)) = _
  by_cases h : i < 0
  · rw [if_pos h]; congr 2; omega
  · rw [if_neg h]; congr 2; omega
theorem first_at {c : Nat} : ∀ (l : List Nat), c ∈ l → ∃ a b, l = a ++ c :: b ∧ c ∉ a
  | [], h => by cases h
  | x :: l, h => by
    by_cases q : x = c
    · exact ⟨[], l, by rw [q]; rfl, fun z => by cases z⟩
    · obtain ⟨a, b, e, n⟩ := first_at l (by
        rcases List.mem_cons.mp h with h | h
        · exact absurd h.symm q
        · exact h)
      exact ⟨x :: a, b, by rw [e]; rfl, fun z => by
        rcases List.mem_cons.mp z with z | z
        · exact q z.symm
        · exact n z⟩

/-! ### loops -/
theorem whileD_go {t : DS → Out Bool} {r : DS → Res} {n : Nat} {σ σ2 : DS} (h1 : t σ = .ok true) (h2 : r σ = .nx σ2) : whileD t r (n + 1) σ = whileD t r n σ2 := by
  rw [whileD, h1, Res.of_ok, if_pos rfl, h2]
theorem whileD_stop {t : DS → Out Bool} {r : DS → Res} {n : Nat} {σ : DS} (h1 : t σ = .ok false) : whileD t r (n + 1) σ = .nx σ := by
  rw [whileD, h1, Res.of_ok, if_neg Bool.false_ne_true]
theorem whileD_ret {t : DS → Out Bool} {r : DS → Res} {n : Nat} {σ : DS} {d : D} (h1 : t σ = .ok true) (h2 : r σ = .rt d) : whileD t r (n + 1) σ = .rt d := by
  rw [whileD, h1, Res.of_ok, if_pos rfl, h2]
theorem lcGo_map {f : D → Out (Option D)} {α : Type} {h : α → D} {g : α → D} : ∀ (ds : List α), (∀ a ∈ ds, f (h a) = .ok (some (g a))) → lcGo f (ds.map h) = .ok (ds.map g)
  | [], _ => rfl
  | a :: ds, hf => by
    have ih := lcGo_map ds fun a h => hf a (List.mem_cons_of_mem _ h)
    rw [List.map_cons, lcGo, hf a List.mem_cons_self]
    show (match lcGo f (ds.map h) with | .ok r => Out.ok ((some (g a)).toList ++ r) | _ => .no) = _
    rw [ih]
    rfl
theorem forD_inv {k : D → DS → Option DS} {r : DS → Res} (P : Nat → DS → Prop) : ∀ (ds : List D) (n : Nat) (σ : DS), P n σ → (∀ i d σ, ds[i]? = some d → P (n + i) σ → ∃ σ1, k d σ = some σ1 ∧ ∃ σ2, r σ1 = .nx σ2 ∧ P (n + i + 1) σ2) → ∃ σ', forD k r ds σ = .nx σ' ∧ P (n + ds.length) σ'
  | [], n, σ, h, _ => ⟨σ, rfl, h⟩
  | d :: ds, n, σ, h, hs => by
    obtain ⟨σ1, h1, σ2, h2, h3⟩ := hs 0 d σ rfl h
    obtain ⟨σ', h4, h5⟩ := forD_inv P ds (n + 1) σ2 h3 fun i d σ hd hp => by
      have q := hs (i + 1) d σ hd (by rw [show n + (i + 1) = n + 1 + i from by omega]; exact hp)
      obtain ⟨σ1, q1, σ2, q2, q3⟩ := q
      exact ⟨σ1, q1, σ2, q2, by rw [show n + 1 + i + 1 = n + (i + 1) + 1 from by omega]; exact q3⟩
    refine ⟨σ', ?_, by rw [List.length_cons, show n + (ds.length + 1) = n + 1 + ds.length from by omega]; exact h5⟩
    rw [forD, h1]
    show (match r σ1 with | .nx σ2 => forD k r ds σ2 | .ct σ2 => forD k r ds σ2 | .bk σ2 => .nx σ2 | o => o) = _
    rw [h2]
    exact h4
/-- a loop over a list of known things -/
theorem forD_list {α : Type} {h : α → D} {k : D → DS → Option DS} {r : DS → Res} (P : List α → DS → Prop) : ∀ (as bs : List α) (σ : DS), P as σ → (∀ as a σ, P as σ → a ∈ bs → ∃ σ1, k (h a) σ = some σ1 ∧ ∃ σ2, r σ1 = .nx σ2 ∧ P (as ++ [a]) σ2) → ∃ σ', forD k r (bs.map h) σ = .nx σ' ∧ P (as ++ bs) σ'
  | as, [], σ, hp, _ => ⟨σ, rfl, by rw [List.append_nil]; exact hp⟩
  | as, b :: bs, σ, hp, hs => by
    obtain ⟨σ1, h1, σ2, h2, h3⟩ := hs as b σ hp List.mem_cons_self
    obtain ⟨σ', h4, h5⟩ := forD_list P (as ++ [b]) bs σ2 h3 fun as a σ hp hm => hs as a σ hp (List.mem_cons_of_mem _ hm)
    refine ⟨σ', ?_, by rw [List.append_assoc] at h5; exact h5⟩
    rw [List.map_cons, forD, h1]
    show (match r σ1 with | .nx σ2 => forD k r (bs.map h) σ2 | .ct σ2 => forD k r (bs.map h) σ2 | .bk σ2 => .nx σ2 | o => o) = _
    rw [h2]
    exact h4
/-- a loop whose state's form stays -/
theorem forD_keep {k : D → DS → Option DS} {r : DS → Res} (P : DS → Prop) (ds : List D) (σ : DS) (h0 : P σ) (h : ∀ d σ, d ∈ ds → P σ → ∃ σ1, k d σ = some σ1 ∧ ∃ σ2, r σ1 = .nx σ2 ∧ P σ2) : ∃ σ', forD k r ds σ = .nx σ' ∧ P σ' := by
  obtain ⟨σ', h1, h2⟩ := forD_inv (fun _ => P) ds 0 σ h0 fun i d σ hd hp => h d σ (List.mem_of_getElem? hd) hp
  exact ⟨σ', h1, h2⟩
theorem range_mem {lo : Int} {n : Nat} {d : D} (h : d ∈ rangeD lo n) : ∃ i : Nat, i < n ∧ d = .int (lo + (i : Int)) := by
  unfold rangeD at h
  rw [List.mem_map] at h
  obtain ⟨i, hi, rfl⟩ := h
  exact ⟨i, List.mem_range.mp hi, rfl⟩
theorem range_get {lo : Int} {n i : Nat} {d : D} (h : (rangeD lo n)[i]? = some d) : i < n ∧ d = .int (lo + (i : Int)) := by
  by_cases q : i < n
  · refine ⟨q, ?_⟩
    unfold rangeD at h
    rw [List.getElem?_map, List.getElem?_range q] at h
    cases h
    rfl
  · rw [List.getElem?_eq_none (by unfold rangeD; simp; omega)] at h
    cases h
@[simp] theorem range_len {lo : Int} {n : Nat} : (rangeD lo n).length = n := by simp [rangeD]

/-! ### data at work -/
theorem pAdd_S {a b : List Nat} (h : a.length + b.length ≤ lim) : pAdd (.str (S a)) (.str (S b)) = some (.str (S (a ++ b))) := by
  show (if (S a).length + (S b).length ≤ lim then some (PyData.str (S a ++ S b)) else none) = _
  rw [S_len, S_len, if_pos h, S_app]
@[simp] theorem pAdd_int {a b : Int} : pAdd (.int a) (.int b) = some (.int (a + b)) := id rfl
theorem pMul_int {a b : Int} : pMul (.int a) (.int b) = if smallI a || smallI b then some (.int (a * b)) else none := id rfl
theorem fitI_nat {k n : Nat} (hk : 0 < k) (h : n < 2 ^ k) : fitI k (n : Int) = true := fitI_of hk (by rw [Int.natAbs_natCast]; exact h)
theorem smallI_nat {n : Nat} (h : n < 1000000) : smallI (n : Int) = true := fitI_nat (by decide) (by omega)
theorem pMul_nat {a b : Nat} (h : a < 1000000 ∨ b < 1000000) : pMul (.int (a : Int)) (.int (b : Int)) = some (.int ((a * b : Nat) : Int)) := by
  rw [pMul_int, if_pos, Int.natCast_mul]
  rcases h with h | h
  · rw [smallI_nat h]; rfl
  · rw [smallI_nat h, Bool.or_true]
@[simp] theorem pAddI_int {a b : Int} : pAddI (.int a) (.int b) = some (.int (a + b)) := id rfl
theorem pAddI_S {a b : List Nat} (h : a.length + b.length ≤ lim) : pAddI (.str (S a)) (.str (S b)) = some (.str (S (a ++ b))) := by
  show (if (S a).length + (S b).length ≤ lim then some (PyData.str (S a ++ S b)) else none) = _
  rw [S_len, S_len, if_pos h, S_app]
theorem pMul_nat1 {a b : Nat} (h : b < 900000) : pMul (.int ((a : Int) + 1)) (.int ((b : Int) + 1)) = some (.int (((a + 1) * (b + 1) : Nat) : Int)) := by
  have q := pMul_nat (a := a + 1) (b := b + 1) (Or.inr (by omega))
  rw [Int.natCast_add a 1, Int.natCast_add b 1] at q
  exact q
theorem pMod_nat {a b : Nat} (h : 0 < b) : pMod (.int (a : Int)) (.int (b : Int)) = some (.int ((a % b : Nat) : Int)) := by
  show (if (0 : Int) < (b : Int) then some (PyData.int ((a : Int) % (b : Int))) else none) = _
  rw [if_pos (by omega), Int.natCast_emod]
theorem pFdiv_nat {a b : Nat} (h : 0 < b) (h2 : b < 1073741824) : pFdiv (.int (a : Int)) (.int (b : Int)) = some (.int ((a / b : Nat) : Int)) := by
  show (if 0 < (b : Int) ∧ fitI 30 (b : Int) = true then some (PyData.int ((a : Int) / (b : Int))) else none) = _
  rw [if_pos ⟨by omega, fitI_nat (by decide) h2⟩, Int.natCast_ediv]
theorem pAdd_nat {a b : Nat} : pAdd (.int (a : Int)) (.int (b : Int)) = some (.int ((a + b : Nat) : Int)) := by rw [pAdd_int, Int.natCast_add]
@[simp] theorem pSub_int {a b : Int} : pSub (.int a) (.int b) = some (.int (a - b)) := id rfl
theorem pAdd_L {a b : List D} (h : a.length + b.length ≤ lim) : pAdd (.list a) (.list b) = some (.list (a ++ b)) := if_pos h
theorem pAdd_T {a b : List D} (h : a.length + b.length ≤ lim) : pAdd (.tuple a) (.tuple b) = some (.tuple (a ++ b)) := if_pos h
@[simp] theorem pEq_S {a b : List Nat} : pEq (.str (S a)) (.str (S b)) = some (.bool (decide (a = b))) := by
  show some (PyData.bool (decide (S a = S b))) = _
  rw [show decide (S a = S b) = decide (a = b) from decide_eq_decide.mpr S_inj]
@[simp] theorem pNe_S {a b : List Nat} : pNe (.str (S a)) (.str (S b)) = some (.bool (!decide (a = b))) := by
  show some (PyData.bool (!decide (S a = S b))) = _
  rw [show decide (S a = S b) = decide (a = b) from decide_eq_decide.mpr S_inj]
@[simp] theorem pEq_int {a b : Int} : pEq (.int a) (.int b) = some (.bool (decide (a = b))) := id rfl
@[simp] theorem pNe_int {a b : Int} : pNe (.int a) (.int b) = some (.bool (!decide (a = b))) := id rfl
@[simp] theorem pLt_int {a b : Int} : pLt (.int a) (.int b) = some (.bool (decide (a < b))) := id rfl
@[simp] theorem pLe_int {a b : Int} : pLe (.int a) (.int b) = some (.bool (decide (a ≤ b))) := id rfl
@[simp] theorem pGt_int {a b : Int} : pGt (.int a) (.int b) = some (.bool (decide (b < a))) := id rfl
@[simp] theorem pGe_int {a b : Int} : pGe (.int a) (.int b) = some (.bool (decide (b ≤ a))) := id rfl
theorem pLen_S {a : List Nat} (h : a.length ≤ lim) : pLen [.str (S a)] = some (.int (a.length : Int)) := by
  show ((if (S a).length ≤ lim then some (S a).length else none).map fun (n : Nat) => PyData.int (n : Int)) = _
  rw [S_len, if_pos h]
  rfl
@[simp] theorem pLen_T {a : List D} : pLen [.tuple a] = some (.int (a.length : Int)) := id rfl
@[simp] theorem pLen_L {a : List D} : pLen [.list a] = some (.int (a.length : Int)) := id rfl
@[simp] theorem pInt_int {a : Int} : pInt [.int a] = some (.int a) := id rfl
theorem pStr_nat {n : Nat} (h : n < 2 ^ 64) : pStr [.int (n : Int)] = some (.str (S (dig n))) := by
  show (if (n : Int).natAbs.log2 < 1920 then some (PyData.str (strI (n : Int))) else none) = _
  rw [strI_nat, if_pos]
  rw [Int.natAbs_natCast]
  by_cases h0 : n = 0
  · subst h0; decide
  · have := (Nat.log2_lt h0).mpr h
    omega
theorem pSl_S {a : List Nat} {lo hi : Option Int} (h : a.length ≤ lim) : pSl (.str (S a)) lo hi = some (.str (S (cutG a lo hi))) := by
  show (if (S a).length ≤ lim then some (PyData.str (cutS (S a) lo hi)) else none) = _
  rw [S_len, if_pos h, cutS_S]
@[simp] theorem pSl_L {a : List D} {lo hi : Option Int} : pSl (.list a) lo hi = some (.list (cutG a lo hi)) := id rfl
@[simp] theorem pSl_T {a : List D} {lo hi : Option Int} : pSl (.tuple a) lo hi = some (.tuple (cutG a lo hi)) := id rfl
theorem strsD_S (ls : List (List Nat)) : strsD (ls.map fun l => PyData.str (S l)) = some (ls.map S) := by
  induction ls with
  | nil => rfl
  | cons a r ih =>
    show (strsD (r.map fun l => PyData.str (S l))).map (S a :: ·) = _
    rw [ih]
    rfl
theorem join_at {ls : List (List Nat)} (h : ls.flatten.length ≤ lim) : joinOf (S []) (ls.map fun l => PyData.str (S l)) = some (.str (S ls.flatten)) := by
  unfold joinOf
  rw [strsD_S]
  show (if ((ls.map S).map (·.length)).sum + (ls.map S).length * (S []).length ≤ lim then some (PyData.str (Txt.join (S []) (ls.map S))) else none) = _
  rw [join_S, if_pos]
  have e : ((ls.map S).map (·.length)).sum = ls.flatten.length := by
    rw [List.map_map, List.length_flatten]
    congr 1
  rw [e, S_len]
  simpa using h
theorem pJoin_L {ls : List (List Nat)} (h : ls.flatten.length ≤ lim) : pJoin (.str (S [])) [.list (ls.map fun l => PyData.str (S l))] = some (.str (S ls.flatten)) := join_at h
theorem pJoin_T {ls : List (List Nat)} (h : ls.flatten.length ≤ lim) : pJoin (.str (S [])) [.tuple (ls.map fun l => PyData.str (S l))] = some (.str (S ls.flatten)) := join_at h
theorem pIn_S {c : Nat} {l : List Nat} : pIn (.str (S [c])) (.str (S l)) = some (.bool (decide (c ∈ l))) := id rfl
theorem bools_map (bs : List Bool) : bools (bs.map .bool) = some bs := by
  induction bs with
  | nil => rfl
  | cons a r ih =>
    show (bools (r.map .bool)).map (a :: ·) = _
    rw [ih]
    rfl
theorem pAll_map {α : Type} (f : α → Bool) (l : List α) : pAll [.list (l.map fun a => .bool (f a))] = some (.bool (l.all f)) := by
  have e : (l.map fun a => PyData.bool (f a)) = (l.map f).map .bool := by rw [List.map_map]; rfl
  show (bools _).map _ = _
  rw [e, bools_map]
  simp
theorem pIx_list {ds : List D} {i : Nat} {d : D} (h : ds[i]? = some d) : pIx (.list ds) (.int (i : Int)) = some d := by
  show L2.atI ds (i : Int) = _
  unfold L2.atI
  have hl : i < ds.length := by
    by_cases q : i < ds.length
    · exact q
    · rw [List.getElem?_eq_none (by omega)] at h; cases h
  have e : ixN ds.length (i : Int) = some i := by
    unfold ixN
    simp
    omega
  rw [e]
  exact h
theorem pIx_tuple {ds : List D} {i : Nat} {d : D} (h : ds[i]? = some d) : pIx (.tuple ds) (.int (i : Int)) = some d := pIx_list h
theorem pIx_S {l : List Nat} {i c : Nat} (hl : l.length ≤ lim) (h : l[i]? = some c) : pIx (.str (S l)) (.int (i : Int)) = some (.str (S [c])) := by
  show (if (S l).length ≤ lim then (L2.atI (S l).cps.toList (i : Int)).map fun c => PyData.str ⟨#[c]⟩ else none) = _
  rw [S_len, if_pos hl, S_codes]
  unfold L2.atI
  have hl : i < l.length := by
    by_cases q : i < l.length
    · exact q
    · rw [List.getElem?_eq_none (by omega)] at h; cases h
  have e : ixN l.length (i : Int) = some i := by
    unfold ixN
    simp
    omega
  rw [e]
  show (l[i]?).map _ = _
  rw [h]
  rfl
theorem pMulC {a : Int} {b : Nat} (h : b < 1000000) : pMul (.int a) (.int (b : Int)) = some (.int (a * (b : Int))) := by
  rw [pMul_int, if_pos (by rw [smallI_nat h, Bool.or_true])]
theorem rng1_nat {n : Nat} (h : n < 1000000000) : rng1 [.int (n : Int)] = some (rangeD 0 n) := by
  have e : fitI 62 (n : Int) = true := fitI_nat (by decide) (by omega)
  unfold rng1
  dsimp only
  rw [if_pos e, Int.toNat_natCast]
theorem rng2_nat {m n : Nat} (hm : m < 1000000000) (h : n < 1000000000) : rng2 [.int (m : Int), .int (n : Int)] = some (rangeD (m : Int) (n - m)) := by
  have e : (fitI 62 (m : Int) && fitI 62 (n : Int)) = true := by
    rw [fitI_nat (by decide) (by omega), fitI_nat (by decide) (by omega)]
    rfl
  unfold rng2
  dsimp only
  rw [if_pos e, show ((n : Int) - (m : Int)).toNat = n - m from by omega]
theorem range_map (n : Nat) : rangeD 0 n = (List.range n).map fun (i : Nat) => .int (i : Int) := by
  unfold rangeD
  simp
end DL

set_option maxRecDepth 100000
set_option maxHeartbeats 4000000
namespace Pg
open PySem PySem.Spec PyProof.Rows L2 DL
def top (i : Nat) : Stmt := PySem.Challenge.pw_resumetrue_k54_main_leaves_broken_off.main.body.getD i (.Pass ⟨0, 0, 0, 0⟩)
abbrev s_are_words : Stmt := top 12
abbrev s_sum_by : Stmt := top 13
abbrev s_leaf_by : Stmt := top 14
abbrev s_leaves_by : Stmt := top 15
abbrev s_leaves_of : Stmt := top 16
abbrev s__row : Stmt := top 17
abbrev s_rows_of : Stmt := top 18
abbrev s_check_text : Stmt := top 19
abbrev s_words_in : Stmt := top 20
abbrev s__law_draws : Stmt := top 22
abbrev s__law_sum : Stmt := top 23
abbrev s__law_leaves : Stmt := top 24
abbrev s__law_text : Stmt := top 25
abbrev s__law_due : Stmt := top 26
abbrev s__law_word : Stmt := top 27
abbrev s_law : Stmt := top 28
abbrev N_are_words : List Str := ["value", "sign"]
abbrev P_are_words : List Str := ["value"]
abbrev N_sum_by : List Str := ["ahead", "text", "found", "place", "sign"]
abbrev P_sum_by : List Str := ["ahead", "text"]
abbrev N_leaf_by : List Str := ["ahead", "number", "words", "head", "total"]
abbrev P_leaf_by : List Str := ["ahead", "number", "words"]
abbrev N_leaves_by : List Str := ["texts", "found", "ahead", "place", "words", "leaf"]
abbrev P_leaves_by : List Str := ["texts"]
abbrev N_leaves_of : List Str := ["texts", "one"]
abbrev P_leaves_of : List Str := ["texts"]
abbrev N__row : List Str := ["ahead", "due", "line", "head", "total", "begin", "words", "own"]
abbrev P__row : List Str := ["ahead", "due", "line"]
abbrev N_rows_of : List Str := ["text", "found", "at", "ahead", "end", "row"]
abbrev P_rows_of : List Str := ["text"]
abbrev N_check_text : List Str := ["text"]
abbrev P_check_text : List Str := ["text"]
abbrev N_words_in : List Str := ["text", "rows", "row"]
abbrev P_words_in : List Str := ["text"]
abbrev N__law_draws : List Str := ["script", "many", "draws", "seed", "cell", "number", "k"]
abbrev P__law_draws : List Str := ["script", "many"]
abbrev N__law_sum : List Str := ["ahead", "text", "signs", "found", "k"]
abbrev P__law_sum : List Str := ["ahead", "text"]
abbrev N__law_leaves : List Str := ["texts", "found", "ahead", "k", "head", "size"]
abbrev P__law_leaves : List Str := ["texts"]
abbrev N__law_text : List Str := ["draws", "at", "signs", "draw", "k"]
abbrev P__law_text : List Str := ["draws", "at"]
abbrev N__law_due : List Str := ["leaves", "texts", "text", "count", "k"]
abbrev P__law_due : List Str := ["leaves", "texts", "text"]
abbrev N__law_word : List Str := ["way", "one"]
abbrev P__law_word : List Str := ["way", "one"]
abbrev N_law : List Str := ["script", "draws", "turn", "k", "texts", "leaves", "whole", "n", "at", "sign", "bent", "i", "j", "leaf", "head", "bad", "wrong", "size"]
abbrev P_law : List Str := ["script"]
theorem sc_are_words : FnScope N_are_words P_are_words (defScope s_are_words) := ⟨rfl, rfl, rfl, by decide +kernel, rfl, by decide +kernel, by decide +kernel⟩
theorem sc_sum_by : FnScope N_sum_by P_sum_by (defScope s_sum_by) := ⟨rfl, rfl, rfl, by decide +kernel, rfl, by decide +kernel, by decide +kernel⟩
theorem sc_leaf_by : FnScope N_leaf_by P_leaf_by (defScope s_leaf_by) := ⟨rfl, rfl, rfl, by decide +kernel, rfl, by decide +kernel, by decide +kernel⟩
theorem sc_leaves_by : FnScope N_leaves_by P_leaves_by (defScope s_leaves_by) := ⟨rfl, rfl, rfl, by decide +kernel, rfl, by decide +kernel, by decide +kernel⟩
theorem sc_leaves_of : FnScope N_leaves_of P_leaves_of (defScope s_leaves_of) := ⟨rfl, rfl, rfl, by decide +kernel, rfl, by decide +kernel, by decide +kernel⟩
theorem sc__row : FnScope N__row P__row (defScope s__row) := ⟨rfl, rfl, rfl, by decide +kernel, rfl, by decide +kernel, by decide +kernel⟩
theorem sc_rows_of : FnScope N_rows_of P_rows_of (defScope s_rows_of) := ⟨rfl, rfl, rfl, by decide +kernel, rfl, by decide +kernel, by decide +kernel⟩
theorem sc_check_text : FnScope N_check_text P_check_text (defScope s_check_text) := ⟨rfl, rfl, rfl, by decide +kernel, rfl, by decide +kernel, by decide +kernel⟩
theorem sc_words_in : FnScope N_words_in P_words_in (defScope s_words_in) := ⟨rfl, rfl, rfl, by decide +kernel, rfl, by decide +kernel, by decide +kernel⟩
theorem sc__law_draws : FnScope N__law_draws P__law_draws (defScope s__law_draws) := ⟨rfl, rfl, rfl, by decide +kernel, rfl, by decide +kernel, by decide +kernel⟩
theorem sc__law_sum : FnScope N__law_sum P__law_sum (defScope s__law_sum) := ⟨rfl, rfl, rfl, by decide +kernel, rfl, by decide +kernel, by decide +kernel⟩
theorem sc__law_leaves : FnScope N__law_leaves P__law_leaves (defScope s__law_leaves) := ⟨rfl, rfl, rfl, by decide +kernel, rfl, by decide +kernel, by decide +kernel⟩
theorem sc__law_text : FnScope N__law_text P__law_text (defScope s__law_text) := ⟨rfl, rfl, rfl, by decide +kernel, rfl, by decide +kernel, by decide +kernel⟩
theorem sc__law_due : FnScope N__law_due P__law_due (defScope s__law_due) := ⟨rfl, rfl, rfl, by decide +kernel, rfl, by decide +kernel, by decide +kernel⟩
theorem sc__law_word : FnScope N__law_word P__law_word (defScope s__law_word) := ⟨rfl, rfl, rfl, by decide +kernel, rfl, by decide +kernel, by decide +kernel⟩
theorem sc_law : FnScope N_law P_law (defScope s_law) := ⟨rfl, rfl, rfl, by decide +kernel, rfl, by decide +kernel, by decide +kernel⟩
def exV : ExEnv := ⟨["BadText", "BadWords", "ResumeError", "TooMany"], fun a b => match b with
  | "BadText" => a == "BadText"
  | "BadWords" => a == "BadWords"
  | "ResumeError" => a == "BadText" || a == "BadWords" || a == "ResumeError" || a == "TooMany"
  | "TooMany" => a == "TooMany"
  | _ => false⟩
structure Ad where
  f_are_words : Addr
  d_are_words : FuncData
  f_sum_by : Addr
  d_sum_by : FuncData
  f_leaf_by : Addr
  d_leaf_by : FuncData
  f_leaves_by : Addr
  d_leaves_by : FuncData
  f_leaves_of : Addr
  d_leaves_of : FuncData
  f__row : Addr
  d__row : FuncData
  f_rows_of : Addr
  d_rows_of : FuncData
  f_check_text : Addr
  d_check_text : FuncData
  f_words_in : Addr
  d_words_in : FuncData
  f__law_draws : Addr
  d__law_draws : FuncData
  f__law_sum : Addr
  d__law_sum : FuncData
  f__law_leaves : Addr
  d__law_leaves : FuncData
  f__law_text : Addr
  d__law_text : FuncData
  f__law_due : Addr
  d__law_due : FuncData
  f__law_word : Addr
  d__law_word : FuncData
  f_law : Addr
  d_law : FuncData
  t_MOST_LEAVES : Tok
  t_MOST_WORDS : Tok
  t_SIGNS : Tok
  t_SUMS : Tok
  t_TAIL : Tok
  t_WEIGHT : Tok
  ct : String → Addr
structure Facts (K : PySem.W.Frag) (mg : Str → Option Value) (A : Ad) : Prop where
  f_are_words : FnAt K mg "are_words" s_are_words P_are_words A.f_are_words A.d_are_words
  f_sum_by : FnAt K mg "sum_by" s_sum_by P_sum_by A.f_sum_by A.d_sum_by
  f_leaf_by : FnAt K mg "leaf_by" s_leaf_by P_leaf_by A.f_leaf_by A.d_leaf_by
  f_leaves_by : FnAt K mg "leaves_by" s_leaves_by P_leaves_by A.f_leaves_by A.d_leaves_by
  f_leaves_of : FnAt K mg "leaves_of" s_leaves_of P_leaves_of A.f_leaves_of A.d_leaves_of
  f__row : FnAt K mg "_row" s__row P__row A.f__row A.d__row
  f_rows_of : FnAt K mg "rows_of" s_rows_of P_rows_of A.f_rows_of A.d_rows_of
  f_check_text : FnAt K mg "check_text" s_check_text P_check_text A.f_check_text A.d_check_text
  f_words_in : FnAt K mg "words_in" s_words_in P_words_in A.f_words_in A.d_words_in
  f__law_draws : FnAt K mg "_law_draws" s__law_draws P__law_draws A.f__law_draws A.d__law_draws
  f__law_sum : FnAt K mg "_law_sum" s__law_sum P__law_sum A.f__law_sum A.d__law_sum
  f__law_leaves : FnAt K mg "_law_leaves" s__law_leaves P__law_leaves A.f__law_leaves A.d__law_leaves
  f__law_text : FnAt K mg "_law_text" s__law_text P__law_text A.f__law_text A.d__law_text
  f__law_due : FnAt K mg "_law_due" s__law_due P__law_due A.f__law_due A.d__law_due
  f__law_word : FnAt K mg "_law_word" s__law_word P__law_word A.f__law_word A.d__law_word
  f_law : FnAt K mg "law" s_law P_law A.f_law A.d_law
  c_MOST_LEAVES : mg "MOST_LEAVES" = some (.int (99999) A.t_MOST_LEAVES)
  c_MOST_WORDS : mg "MOST_WORDS" = some (.int (20000) A.t_MOST_WORDS)
  c_SIGNS : mg "SIGNS" = some (.str "abcdefghijklmnopqrstuvwxyz0123456789()+-*<=,:; " A.t_SIGNS)
  c_SUMS : mg "SUMS" = some (.int (99989) A.t_SUMS)
  c_TAIL : mg "TAIL" = some (.int (6) A.t_TAIL)
  c_WEIGHT : mg "WEIGHT" = some (.int (11) A.t_WEIGHT)
  b_abs : mg "abs" = none
  b_all : mg "all" = none
  b_enumerate : mg "enumerate" = none
  b_int : mg "int" = none
  b_isinstance : mg "isinstance" = none
  b_len : mg "len" = none
  b_max : mg "max" = none
  b_min : mg "min" = none
  b_range : mg "range" = none
  b_str : mg "str" = none
  b_tuple : mg "tuple" = none
  x_BadText : ExAt K mg "BadText" (A.ct "BadText")
  e_BadText : ExOk K A.ct exV "BadText"
  x_BadWords : ExAt K mg "BadWords" (A.ct "BadWords")
  e_BadWords : ExOk K A.ct exV "BadWords"
  x_ResumeError : ExAt K mg "ResumeError" (A.ct "ResumeError")
  e_ResumeError : ExOk K A.ct exV "ResumeError"
  x_TooMany : ExAt K mg "TooMany" (A.ct "TooMany")
  e_TooMany : ExOk K A.ct exV "TooMany"
end Pg

set_option maxRecDepth 100000
set_option maxHeartbeats 8000000
namespace Pg
open PySem PySem.Spec PyProof.Rows L2 DL
def d_are_words : DS → Res := (dRet (dAndV (dIsi "str" (dVar 0)) (dAndV (dChain pLe pLe (dC (.int 1)) (dCall pLen (dCons (dVar 0) dNil)) (dC (.int 20000))) (dCall pAll (dCons (dL (lcD (dItems (dVar 0)) (gN 1) dYes (dOp pIn (dVar 1) (dC (.str "abcdefghijklmnopqrstuvwxyz0123456789()+-*<=,:; "))) [1])) dNil)))))
@[irreducible] def F_are_words : Fn := runD 2 1 d_are_words
def d_sum_by : DS → Res := (dSeqS (dSet 2 (dOp pMul (dC (.int 11)) (dVar 0)))
  (dSeqS (dFor (dEnum (dVar 1)) (gT 2 (gsC (gN 3) (gsC (gN 4) gsN)))
    (dAug 2 pAddI (dOp pMul (dOp pAdd (dVar 3) (dC (.int 1))) (dOp pAdd (dSM pIndex (dC (.str "abcdefghijklmnopqrstuvwxyz0123456789()+-*<=,:; ")) (dCons (dVar 4) dNil)) (dC (.int 1))))))
  (dRet (dOp pMod (dVar 2) (dC (.int 99989))))))
@[irreducible] def F_sum_by : Fn := runD 5 2 d_sum_by
def d_leaf_by : DS → Res := (dSeqS (dSet 3 (dOp pAdd (dOp pAdd (dOp pAdd (dCall pStr (dCons (dVar 1) dNil)) (dC (.str " "))) (dVar 2)) (dC (.str " "))))
  (dSeqS (dSet 4 (dFn F_sum_by (dCons (dVar 0) (dCons (dVar 3) dNil))))
  (dRet (dTup (dCons (dOp pAdd (dOp pAdd (dOp pAdd (dVar 3) (dC (.str "#"))) (dSM pRjust (dCall pStr (dCons (dVar 4) dNil)) (dCons (dOp pSub (dC (.int 6)) (dC (.int 1))) (dCons (dC (.str "0")) dNil)))) (dC (.str "\n"))) (dCons (dVar 4) dNil))))))
@[irreducible] def F_leaf_by : Fn := runD 5 3 d_leaf_by
def d_leaves_by : DS → Res := (dSeqS (dAsg (dTup (dCons (dC (.str "")) (dCons (dC (.int 0)) dNil))) (gT 2 (gsC (gN 1) (gsC (gN 2) gsN))))
  (dSeqS (dFor (dEnum (dVar 0)) (gT 2 (gsC (gN 3) (gsC (gN 4) gsN)))
    (dSeqS (dAsg (dFn F_leaf_by (dCons (dVar 2) (dCons (dOp pAdd (dVar 3) (dC (.int 1))) (dCons (dVar 4) dNil)))) (gT 2 (gsC (gN 5) (gsC (gN 2) gsN))))
    (dAug 1 pAddI (dVar 5))))
  (dRetV 1)))
@[irreducible] def F_leaves_by : Fn := runD 6 1 d_leaves_by
def d_leaves_of : DS → Res := (dSeqS (dIfS (dOrT (dNotT (dB (dIsi "tuple" (dVar 0)))) (dNotT (dB (dCall pAll (dCons (dL (lcD (dItems (dVar 0)) (gN 1) dYes (dFn F_are_words (dCons (dVar 1) dNil)) [1])) dNil)))))
    (dRaise "BadWords")
    dNext)
  (dSeqS (dIfS (dB (dOp pGt (dCall pLen (dCons (dVar 0) dNil)) (dC (.int 99999))))
    (dRaise "TooMany")
    dNext)
  (dRet (dFn F_leaves_by (dCons (dVar 0) dNil)))))
@[irreducible] def F_leaves_of : Fn := runD 2 1 d_leaves_of
def d__row : DS → Res := (dSeqS (dPar 3 4 (dSl (dVar 2) dPN (dPS (dOp pSub (dC (.int 0)) (dC (.int 6))))) (dSl (dVar 2) (dPS (dOp pSub (dC (.int 0)) (dC (.int 6)))) dPN))
  (dSeqS (dSet 5 (dOp pAdd (dCall pStr (dCons (dVar 1) dNil)) (dC (.str " "))))
  (dSeqS (dIfS (dOrT (dB (dOp pNe (dSl (dVar 4) dPN (dPS (dC (.int 1)))) (dC (.str "#")))) (dOrT (dB (dOp pNe (dSl (dVar 3) dPN (dPS (dCall pLen (dCons (dVar 5) dNil)))) (dVar 5))) (dOrT (dB (dOp pNe (dSl (dVar 3) (dPS (dNeg (dC (.int 1)))) dPN) (dC (.str " ")))) (dB (dOp pLe (dCall pLen (dCons (dVar 3) dNil)) (dCall pLen (dCons (dVar 5) dNil)))))))
    (dRet (dC .none))
    dNext)
  (dSeqS (dSet 6 (dSl (dVar 3) (dPS (dCall pLen (dCons (dVar 5) dNil))) (dPS (dNeg (dC (.int 1))))))
  (dSeqS (dIfS (dNotT (dB (dFn F_are_words (dCons (dVar 6) dNil))))
    (dRet (dC .none))
    dNext)
  (dSeqS (dSet 7 (dFn F_sum_by (dCons (dVar 0) (dCons (dVar 3) dNil))))
  (dRet (dIf (dB (dOp pEq (dSl (dVar 4) (dPS (dC (.int 1))) dPN) (dSM pRjust (dCall pStr (dCons (dVar 7) dNil)) (dCons (dOp pSub (dC (.int 6)) (dC (.int 1))) (dCons (dC (.str "0")) dNil))))) (dTup (dCons (dVar 6) (dCons (dVar 7) dNil))) (dC .none)))))))))
@[irreducible] def F__row : Fn := runD 8 3 d__row
def d_rows_of : DS → Res := (dSeqS (dSetO 1 (dLst dNil))
  (dSeqS (dAsg (dTup (dCons (dC (.int 0)) (dCons (dC (.int 0)) dNil))) (gT 2 (gsC (gN 2) (gsC (gN 3) gsN))))
  (dSeqS (dSet 4 (dSM pFind (dVar 0) (dCons (dC (.str "\n")) dNil)))
  (dSeqS (whileD (dAndT (dB (dOp pGe (dVar 4) (dC (.int 0)))) (dB (dOp pLt (dLenV 1) (dC (.int 99999)))))
    (dSeqS (dSet 5 (dFn F__row (dCons (dVar 3) (dCons (dOp pAdd (dLenV 1) (dC (.int 1))) (dCons (dSl (dVar 0) (dPS (dVar 2)) (dPS (dVar 4))) dNil)))))
    (dSeqS (dIfS (dB (dOp pIs (dVar 5) (dC .none)))
      (dRetV 1)
      dNext)
    (dSeqS (dApp 1 (dOp pAdd (dVar 5) (dTup (dCons (dOp pAdd (dVar 4) (dC (.int 1))) dNil))))
    (dSeqS (dPar 2 3 (dOp pAdd (dVar 4) (dC (.int 1))) (dOp pIx (dVar 5) (dC (.int 1))))
    (dSet 4 (dSM pFind (dVar 0) (dCons (dC (.str "\n")) (dCons (dVar 2) dNil)))))))) 1000000)
  (dRetV 1)))))
@[irreducible] def F_rows_of : Fn := runD 6 1 d_rows_of
def d_check_text : DS → Res := (dIfS (dNotT (dB (dIsi "str" (dVar 0))))
    (dRaise "BadText")
    dNext)
@[irreducible] def F_check_text : Fn := runD 1 1 d_check_text
def d_words_in : DS → Res := (dSeqS (dDrop (dFn F_check_text (dCons (dVar 0) dNil)))
  (dSeqS (dSet 1 (dFn F_rows_of (dCons (dVar 0) dNil)))
  (dRet (dTup (dCons (dCall pTuple (dCons (dL (lcD (dItems (dVar 1)) (gN 2) dYes (dOp pIx (dVar 2) (dC (.int 0))) [2])) dNil)) (dCons (dIf (dB (dOp pGt (dCall pLen (dCons (dVar 1) dNil)) (dC (.int 0)))) (dOp pIx (dOp pIx (dVar 1) (dNeg (dC (.int 1)))) (dC (.int 2))) (dC (.int 0))) dNil))))))
@[irreducible] def F_words_in : Fn := runD 3 1 d_words_in
def d__law_draws : DS → Res := (dSeqS (dSetO 2 (dLst dNil))
  (dSeqS (dSet 3 (dC (.int 7)))
  (dSeqS (dFor (dItems (dL (dSlV 0 dPN (dPS (dC (.int 63)))))) (gN 4)
    (dSeqS (dSet 5 (dCall pAbs (dCons (dVar 4) dNil)))
    (dSeqS (dSet 3 (dOp pMod (dCall pInt (dCons (dOp pAdd (dOp pAdd (dOp pMul (dVar 3) (dC (.int 48271))) (dVar 5)) (dC (.int 11))) dNil)) (dC (.int 2147483647))))
    (dIfS (dB (dOp pGe (dVar 5) (dOp pPow (dC (.int 10)) (dC (.int 18)))))
      (dFor (dRng rng1 (dCons (dC (.int 60)) dNil)) (gN 6)
        (dIfS (dB (dOp pGt (dVar 5) (dC (.int 0))))
          (dSeqS (dApp 2 (dOp pMod (dCall pInt (dCons (dVar 5) dNil)) (dC (.int 1009))))
          (dSet 5 (dOp pFdiv (dVar 5) (dC (.int 1009)))))
          dNext))
      (dApp 2 (dOp pMod (dOp pFdiv (dCall pInt (dCons (dOp pAdd (dOp pMul (dVar 3) (dC (.int 16807))) (dC (.int 5))) dNil)) (dC (.int 3))) (dC (.int 65521))))))))
  (dSeqS (dFor (dRng rng1 (dCons (dVar 1) dNil)) (gN 6)
    (dIfS (dB (dOp pLt (dLenV 2) (dVar 1)))
      (dSeqS (dSet 3 (dOp pMod (dCall pInt (dCons (dOp pAdd (dOp pAdd (dOp pMul (dVar 3) (dC (.int 69621))) (dVar 6)) (dC (.int 1))) dNil)) (dC (.int 2147483647))))
      (dApp 2 (dOp pMod (dOp pFdiv (dCall pInt (dCons (dVar 3) dNil)) (dC (.int 7))) (dC (.int 65521)))))
      dNext))
  (dRet (dL (dSlV 2 dPN (dPS (dVar 1)))))))))
@[irreducible] def F__law_draws : Fn := runD 7 2 d__law_draws
def d__law_sum : DS → Res := (dSeqS (dPar 2 3 (dC (.str "abcdefghijklmnopqrstuvwxyz0123456789()+-*<=,:; ")) (dOp pMul (dC (.int 11)) (dVar 0)))
  (dSeqS (dFor (dRng rng1 (dCons (dCall pLen (dCons (dVar 1) dNil)) dNil)) (gN 4)
    (dSet 3 (dOp pAdd (dVar 3) (dOp pMul (dOp pAdd (dVar 4) (dC (.int 1))) (dOp pAdd (dSM pIndex (dVar 2) (dCons (dOp pIx (dVar 1) (dVar 4)) dNil)) (dC (.int 1)))))))
  (dRet (dOp pMod (dCall pInt (dCons (dVar 3) dNil)) (dC (.int 99989))))))
@[irreducible] def F__law_sum : Fn := runD 5 2 d__law_sum
def d__law_leaves : DS → Res := (dSeqS (dParO 1 2 (dLst dNil) (dC (.int 0)))
  (dSeqS (dFor (dRng rng1 (dCons (dCall pLen (dCons (dVar 0) dNil)) dNil)) (gN 3)
    (dSeqS (dSet 4 (dOp pAdd (dOp pAdd (dOp pAdd (dCall pStr (dCons (dOp pAdd (dVar 3) (dC (.int 1))) dNil)) (dC (.str " "))) (dOp pIx (dVar 0) (dVar 3))) (dC (.str " "))))
    (dSeqS (dSet 2 (dFn F__law_sum (dCons (dVar 2) (dCons (dVar 4) dNil))))
    (dApp 1 (dOp pAdd (dOp pAdd (dOp pAdd (dVar 4) (dC (.str "#"))) (dSM pJoin (dC (.str "")) (dCons (dL (lcD (dItems (dL (dLst (dCons (dC (.int 10000)) (dCons (dC (.int 1000)) (dCons (dC (.int 100)) (dCons (dC (.int 10)) (dCons (dC (.int 1)) dNil)))))))) (gN 5) dYes (dSl (dCall pStr (dCons (dOp pFdiv (dVar 2) (dVar 5)) dNil)) (dPS (dNeg (dC (.int 1)))) dPN) [5])) dNil))) (dC (.str "\n")))))))
  (dRetV 1)))
@[irreducible] def F__law_leaves : Fn := runD 6 1 d__law_leaves
def d__law_text : DS → Res := (dSeqS (dSet 2 (dC (.str "abz019()+-*<=,:; ")))
  (dSeqS (dSet 3 (dCall pInt (dCons (dOp pIx (dVar 0) (dOp pMod (dVar 1) (dCall pLen (dCons (dVar 0) dNil)))) dNil)))
  (dRet (dSM pJoin (dC (.str "")) (dCons (dL (lcD (dRng rng1 (dCons (dOp pAdd (dC (.int 1)) (dOp pMod (dVar 3) (dC (.int 30)))) dNil)) (gN 4) dYes (dOp pIx (dVar 2) (dOp pMod (dOp pFdiv (dCall pInt (dCons (dOp pIx (dVar 0) (dOp pMod (dOp pAdd (dVar 1) (dVar 4)) (dCall pLen (dCons (dVar 0) dNil)))) dNil)) (dOp pAdd (dC (.int 1)) (dVar 4))) (dC (.int 17)))) [4])) dNil)))))
@[irreducible] def F__law_text : Fn := runD 5 2 d__law_text
def d__law_due : DS → Res := (dSeqS (dSet 3 (dC (.int 0)))
  (dSeqS (dFor (dRng rng1 (dCons (dCall pLen (dCons (dVar 0) dNil)) dNil)) (gN 4)
    (dIfS (dB (dOp pEq (dSl (dVar 2) dPN (dPS (dCall pLen (dCons (dSM pJoin (dC (.str "")) (dCons (dSl (dVar 0) dPN (dPS (dOp pAdd (dVar 4) (dC (.int 1))))) dNil)) dNil)))) (dSM pJoin (dC (.str "")) (dCons (dSl (dVar 0) dPN (dPS (dOp pAdd (dVar 4) (dC (.int 1))))) dNil))))
      (dSet 3 (dOp pAdd (dVar 4) (dC (.int 1))))
      dNext))
  (dRet (dTup (dCons (dSl (dVar 1) dPN (dPS (dVar 3))) (dCons (dCall pLen (dCons (dSM pJoin (dC (.str "")) (dCons (dSl (dVar 0) dPN (dPS (dVar 3))) dNil)) dNil)) dNil))))))
@[irreducible] def F__law_due : Fn := runD 5 3 d__law_due
def d__law_word : DS → Res := (dSeqS (dTry exV (dIfS (dB (dOp pEq (dVar 0) (dC (.int 0))))
      (dDrop (dFn F_leaves_of (dCons (dVar 1) dNil)))
      (dDrop (dFn F_words_in (dCons (dVar 1) dNil))))
    [("BadWords", (dRet (dC (.str "words")))), ("BadText", (dRet (dC (.str "text")))), ("TooMany", (dRet (dC (.str "many"))))])
  (dRet (dC (.str "none"))))
@[irreducible] def F__law_word : Fn := runD 2 2 d__law_word
def d_law : DS → Res := (dSeqS (dSet 1 (dFnV F__law_draws 0 (dCons (dC (.int 120)) dNil)))
  (dSeqS (dFor (dRng rng1 (dCons (dC (.int 3)) dNil)) (gN 2)
    (dSeqS (dSet 4 (dCall pTuple (dCons (dL (lcD (dRng rng1 (dCons (dOp pAdd (dC (.int 1)) (dOp pMod (dCall pInt (dCons (dOp pIx (dVar 1) (dOp pAdd (dC (.int 3)) (dVar 2))) dNil)) (dC (.int 5)))) dNil)) (gN 3) dYes (dFn F__law_text (dCons (dVar 1) (dCons (dOp pAdd (dOp pAdd (dC (.int 7)) (dOp pMul (dC (.int 13)) (dVar 3))) (dVar 2)) dNil))) [3])) dNil)))
    (dSeqS (dSet 5 (dFn F__law_leaves (dCons (dVar 4) dNil)))
    (dSeqS (dSet 6 (dSM pJoin (dC (.str "")) (dCons (dVar 5) dNil)))
    (dSeqS (dIfS (dOrT (dB (dOp pNe (dFn F_leaves_of (dCons (dVar 4) dNil)) (dVar 6))) (dB (dOp pNe (dFn F_words_in (dCons (dVar 6) dNil)) (dTup (dCons (dVar 4) (dCons (dCall pLen (dCons (dVar 6) dNil)) dNil))))))
      (dRet (dC (.bool false)))
      dNext)
    (dSeqS (dFor (dRng rng1 (dCons (dOp pAdd (dCall pLen (dCons (dVar 6) dNil)) (dC (.int 1))) dNil)) (gN 3)
      (dIfS (dB (dOp pNe (dFn F_words_in (dCons (dSl (dVar 6) dPN (dPS (dVar 3))) dNil)) (dFn F__law_due (dCons (dVar 5) (dCons (dVar 4) (dCons (dSl (dVar 6) dPN (dPS (dVar 3))) dNil))))))
        (dRet (dC (.bool false)))
        dNext))
    (dSeqS (dFor (dRng rng1 (dCons (dC (.int 40)) dNil)) (gN 7)
      (dSeqS (dSet 8 (dOp pMod (dCall pInt (dCons (dOp pIx (dVar 1) (dOp pMod (dOp pAdd (dOp pAdd (dC (.int 10)) (dOp pMul (dC (.int 2)) (dVar 7))) (dVar 2)) (dC (.int 120)))) dNil)) (dCall pLen (dCons (dVar 6) dNil))))
      (dSeqS (dSet 9 (dOp pIx (dC (.str "abz019()+-*<=,:; #\nAX\"{}[]?/|")) (dOp pMod (dCall pInt (dCons (dOp pIx (dVar 1) (dOp pMod (dOp pAdd (dOp pAdd (dC (.int 11)) (dOp pMul (dC (.int 2)) (dVar 7))) (dVar 2)) (dC (.int 120)))) dNil)) (dC (.int 29)))))
      (dSeqS (dSet 10 (dOp pAdd (dOp pAdd (dSl (dVar 6) dPN (dPS (dVar 8))) (dVar 9)) (dSl (dVar 6) (dPS (dOp pAdd (dVar 8) (dC (.int 1)))) dPN)))
      (dSeqS (dIfS (dB (dOp pNe (dFn F_words_in (dCons (dVar 10) dNil)) (dFn F__law_due (dCons (dVar 5) (dCons (dVar 4) (dCons (dVar 10) dNil))))))
        (dRet (dC (.bool false)))
        dNext)
      (dSeqS (dSet 3 (dOp pMod (dCall pInt (dCons (dOp pIx (dVar 1) (dOp pMod (dOp pAdd (dOp pAdd (dC (.int 60)) (dVar 7)) (dVar 2)) (dC (.int 120)))) dNil)) (dCall pLen (dCons (dVar 5) dNil))))
      (dSeqS (dPar 11 12 (dOp pMod (dCall pInt (dCons (dOp pIx (dVar 1) (dOp pMod (dOp pAdd (dOp pAdd (dC (.int 61)) (dVar 7)) (dVar 2)) (dC (.int 120)))) dNil)) (dCall pLen (dCons (dOp pIx (dVar 5) (dVar 3)) dNil))) (dOp pMod (dCall pInt (dCons (dOp pIx (dVar 1) (dOp pMod (dOp pAdd (dOp pAdd (dC (.int 62)) (dVar 7)) (dVar 2)) (dC (.int 120)))) dNil)) (dCall pLen (dCons (dOp pIx (dVar 5) (dVar 3)) dNil))))
      (dSeqS (dPar 11 12 (dCall pMin (dCons (dVar 11) (dCons (dVar 12) dNil))) (dCall pMax (dCons (dVar 11) (dCons (dVar 12) dNil))))
      (dSeqS (dSet 13 (dIf (dB (dOp pLt (dVar 11) (dVar 12))) (dOp pAdd (dOp pAdd (dOp pAdd (dOp pAdd (dSl (dOp pIx (dVar 5) (dVar 3)) dPN (dPS (dVar 11))) (dOp pIx (dOp pIx (dVar 5) (dVar 3)) (dVar 12))) (dSl (dOp pIx (dVar 5) (dVar 3)) (dPS (dOp pAdd (dVar 11) (dC (.int 1)))) (dPS (dVar 12)))) (dOp pIx (dOp pIx (dVar 5) (dVar 3)) (dVar 11))) (dSl (dOp pIx (dVar 5) (dVar 3)) (dPS (dOp pAdd (dVar 12) (dC (.int 1)))) dPN)) (dOp pIx (dVar 5) (dVar 3))))
      (dSeqS (dSet 10 (dOp pAdd (dOp pAdd (dSM pJoin (dC (.str "")) (dCons (dSl (dVar 5) dPN (dPS (dVar 3))) dNil)) (dVar 13)) (dSM pJoin (dC (.str "")) (dCons (dSl (dVar 5) (dPS (dOp pAdd (dVar 3) (dC (.int 1)))) dPN) dNil))))
      (dIfS (dB (dOp pNe (dFn F_words_in (dCons (dVar 10) dNil)) (dFn F__law_due (dCons (dVar 5) (dCons (dVar 4) (dCons (dVar 10) dNil))))))
        (dRet (dC (.bool false)))
        dNext)))))))))))
    (dSeqS (dFor (dRng rng1 (dCons (dCall pLen (dCons (dVar 5) dNil)) dNil)) (gN 3)
      (dSeqS (dFor (dRng rng2 (dCons (dOp pAdd (dVar 3) (dC (.int 1))) (dCons (dCall pLen (dCons (dVar 5) dNil)) dNil))) (gN 7)
        (dSeqS (dSet 10 (dSM pJoin (dC (.str "")) (dCons (dOp pAdd (dOp pAdd (dOp pAdd (dOp pAdd (dSl (dVar 5) dPN (dPS (dVar 3))) (dL (dLst (dCons (dOp pIx (dVar 5) (dVar 7)) dNil)))) (dSl (dVar 5) (dPS (dOp pAdd (dVar 3) (dC (.int 1)))) (dPS (dVar 7)))) (dL (dLst (dCons (dOp pIx (dVar 5) (dVar 3)) dNil)))) (dSl (dVar 5) (dPS (dOp pAdd (dVar 7) (dC (.int 1)))) dPN)) dNil)))
        (dIfS (dB (dOp pNe (dFn F_words_in (dCons (dVar 10) dNil)) (dTup (dCons (dSl (dVar 4) dPN (dPS (dVar 3))) (dCons (dCall pLen (dCons (dSM pJoin (dC (.str "")) (dCons (dSl (dVar 5) dPN (dPS (dVar 3))) dNil)) dNil)) dNil)))))
          (dRet (dC (.bool false)))
          dNext)))
      (dSeqS (dIfS (dB (dOp pNe (dFn F_words_in (dCons (dSM pJoin (dC (.str "")) (dCons (dOp pAdd (dSl (dVar 5) dPN (dPS (dOp pAdd (dVar 3) (dC (.int 1))))) (dSl (dVar 5) (dPS (dVar 3)) dPN)) dNil)) dNil)) (dTup (dCons (dSl (dVar 4) dPN (dPS (dOp pAdd (dVar 3) (dC (.int 1))))) (dCons (dCall pLen (dCons (dSM pJoin (dC (.str "")) (dCons (dSl (dVar 5) dPN (dPS (dOp pAdd (dVar 3) (dC (.int 1))))) dNil)) dNil)) dNil)))))
        (dRet (dC (.bool false)))
        dNext)
      (dIfS (dAndT (dB (dOp pLt (dVar 3) (dOp pSub (dCall pLen (dCons (dVar 5) dNil)) (dC (.int 1))))) (dB (dOp pNe (dFn F_words_in (dCons (dSM pJoin (dC (.str "")) (dCons (dOp pAdd (dSl (dVar 5) dPN (dPS (dVar 3))) (dSl (dVar 5) (dPS (dOp pAdd (dVar 3) (dC (.int 1)))) dPN)) dNil)) dNil)) (dTup (dCons (dSl (dVar 4) dPN (dPS (dVar 3))) (dCons (dCall pLen (dCons (dSM pJoin (dC (.str "")) (dCons (dSl (dVar 5) dPN (dPS (dVar 3))) dNil)) dNil)) dNil))))))
        (dRet (dC (.bool false)))
        dNext))))
    (dFor (dItems (dL (dLst (dCons (dOp pAdd (dOp pAdd (dC (.str "01 ")) (dOp pIx (dVar 4) (dC (.int 0)))) (dC (.str " "))) (dCons (dOp pAdd (dC (.str "1 ")) (dOp pIx (dVar 4) (dC (.int 0)))) (dCons (dOp pAdd (dOp pAdd (dC (.str " ")) (dOp pIx (dVar 4) (dC (.int 0)))) (dC (.str " "))) (dCons (dC (.str "1  ")) (dCons (dOp pAdd (dOp pAdd (dC (.str "2 ")) (dOp pIx (dVar 4) (dC (.int 0)))) (dC (.str " "))) (dCons (dOp pAdd (dOp pAdd (dC (.str "x ")) (dOp pIx (dVar 4) (dC (.int 0)))) (dC (.str " "))) (dCons (dOp pAdd (dOp pAdd (dC (.str "-1 ")) (dOp pIx (dVar 4) (dC (.int 0)))) (dC (.str " "))) dNil)))))))))) (gN 14)
      (dSeqS (dSet 15 (dOp pAdd (dOp pAdd (dOp pAdd (dVar 14) (dC (.str "#"))) (dSM pJoin (dC (.str "")) (dCons (dL (lcD (dItems (dL (dLst (dCons (dC (.int 10000)) (dCons (dC (.int 1000)) (dCons (dC (.int 100)) (dCons (dC (.int 10)) (dCons (dC (.int 1)) dNil)))))))) (gN 17) dYes (dSl (dCall pStr (dCons (dOp pFdiv (dFn F__law_sum (dCons (dC (.int 0)) (dCons (dVar 14) dNil))) (dVar 17)) dNil)) (dPS (dNeg (dC (.int 1)))) dPN) [17])) dNil))) (dC (.str "\n"))))
      (dIfS (dAndT (dB (dOp pNe (dFn F_words_in (dCons (dVar 15) dNil)) (dTup (dCons (dTup dNil) (dCons (dC (.int 0)) dNil))))) (dOrT (dB (dOp pNe (dVar 14) (dOp pAdd (dC (.str "1 ")) (dOp pIx (dVar 4) (dC (.int 0)))))) (dOrT (dB (dOp pNe (dSl (dOp pIx (dVar 4) (dC (.int 0))) (dPS (dNeg (dC (.int 1)))) dPN) (dC (.str " ")))) (dB (dOp pLt (dCall pLen (dCons (dOp pIx (dVar 4) (dC (.int 0))) dNil)) (dC (.int 2)))))))
        (dRet (dC (.bool false)))
        dNext)))))))))))
  (dSeqS (dFor (dItems (dL (dLst (dCons (dC .none) (dCons (dC (.str "a")) (dCons (dL (dLst (dCons (dC (.str "a")) dNil))) (dCons (dTup (dCons (dC (.str "")) dNil)) (dCons (dTup (dCons (dC (.str "A")) dNil)) (dCons (dTup (dCons (dC (.str "a\n")) dNil)) (dCons (dTup (dCons (dC (.str "#")) dNil)) (dCons (dTup (dCons (dC .none) dNil)) (dCons (dTup (dCons (dOp pMul (dC (.str "a")) (dC (.int 20001))) dNil)) dNil)))))))))))) (gN 16)
    (dIfS (dB (dOp pNe (dFn F__law_word (dCons (dC (.int 0)) (dCons (dVar 16) dNil))) (dC (.str "words"))))
      (dRet (dC (.bool false)))
      dNext))
  (dSeqS (dIfS (dOrT (dB (dOp pNe (dL (lcD (dItems (dL (dLst (dCons (dC .none) (dCons (dC (.int 5)) (dCons (dTup (dCons (dC (.str "a")) dNil)) dNil)))))) (gN 16) dYes (dFn F__law_word (dCons (dC (.int 1)) (dCons (dVar 16) dNil))) [16])) (dOp pMul (dL (dLst (dCons (dC (.str "text")) dNil))) (dC (.int 3))))) (dOrT (dB (dOp pNe (dFn F_leaves_of (dCons (dTup dNil) dNil)) (dC (.str "")))) (dB (dOp pNe (dFn F_words_in (dCons (dC (.str "")) dNil)) (dTup (dCons (dTup dNil) (dCons (dC (.int 0)) dNil)))))))
    (dRet (dC (.bool false)))
    dNext)
  (dRet (dAndV (dOp pEq (dFn F_words_in (dCons (dFn F_leaves_of (dCons (dTup (dCons (dOp pMul (dC (.str "a")) (dC (.int 20000))) dNil)) dNil)) dNil)) (dTup (dCons (dTup (dCons (dOp pMul (dC (.str "a")) (dC (.int 20000))) dNil)) (dCons (dC (.int 20010)) dNil)))) (dOp pEq (dFn F_words_in (dCons (dC (.str "hello\n")) dNil)) (dTup (dCons (dTup dNil) (dCons (dC (.int 0)) dNil))))))))))
@[irreducible] def F_law : Fn := runD 18 1 d_law
theorem ok_are_words {P : Program} {w : World} {K : PySem.W.Frag} {mg : Str → Option Value} {base : Heap} {A : Ad} (T : Facts K mg A) : FnOk P w K mg base (L2.CX P w) 1 A.f_are_words A.d_are_words P_are_words (spD A.ct K F_are_words) := by
  unfold F_are_words
  refine fn_D (N := N_are_words) (r := d_are_words) T.f_are_words.F sc_are_words (fun cdv Ar outer s H E hr => ?_)
  have hu := hr.units
  have tk : Takes (cxOf (L2.CX P w) P w K mg base N_are_words "are_words" (defScope s_are_words) A.f_are_words cdv Ar outer s H E) (fun cls d _ H => E cls d H) := takes_of rfl rfl rfl rfl
  have po : PassesOwn (model P w) (Ar.deeper (envOfC "are_words" (defScope s_are_words) s.heap.objs.size A.f_are_words cdv)) (envOfC "are_words" (defScope s_are_words) s.heap.objs.size A.f_are_words cdv) (cxOf (L2.CX P w) P w K mg base N_are_words "are_words" (defScope s_are_words) A.f_are_words cdv Ar outer s H E).xe := passes_of (X := cxOf (L2.CX P w) P w K mg base N_are_words "are_words" (defScope s_are_words) A.f_are_words cdv Ar outer s H E) rfl
  exact (dss_one (dst_ret (de_and (de_isi (T := "str") (de_var 0 (pv 0)) (pe_bltn (v := .ty "str") rfl T.b_str (by decide +kernel) rfl) rfl T.b_isinstance (by decide +kernel)) (de_and (de_chain od_le od_le de_int (de_callB cd_len rfl T.b_len (by decide +kernel) (da_cons (de_var 0 (pv 0)) da_nil)) (de_glob (v := .int (20000)) rfl T.c_MOST_WORDS ⟨_, rfl⟩ fun _ => .int _)) (de_one (de_callB (cd_all rfl) rfl T.b_all (by decide +kernel) (da_cons (de_f (df_lc (own := [("sign", 1)]) rfl sc_are_words.nd (di_any (de_var 0 (pv 0))) (blkOk_by (N := N_are_words) (sc := defScope s_are_words) (by decide +kernel)) (by decide) (fun _ _ _ _ _ => (dg_name 1 (pg_name (i := 1) sc_are_words.nd rfl (Or.inl rfl)))) (fun _ _ _ _ _ => dts_nil) (fun _ _ _ _ _ => (de_cmp od_in (de_var 1 (pv 1)) (de_glob (v := .str "abcdefghijklmnopqrstuvwxyz0123456789()+-*<=,:; ") rfl T.c_SIGNS ⟨_, rfl⟩ fun _ => .str _) rfl)))) da_nil)))))))
theorem ok_sum_by {P : Program} {w : World} {K : PySem.W.Frag} {mg : Str → Option Value} {base : Heap} {A : Ad} (T : Facts K mg A) : FnOk P w K mg base (L2.CX P w) 1 A.f_sum_by A.d_sum_by P_sum_by (spD A.ct K F_sum_by) := by
  unfold F_sum_by
  refine fn_D (N := N_sum_by) (r := d_sum_by) T.f_sum_by.F sc_sum_by (fun cdv Ar outer s H E hr => ?_)
  have hu := hr.units
  have tk : Takes (cxOf (L2.CX P w) P w K mg base N_sum_by "sum_by" (defScope s_sum_by) A.f_sum_by cdv Ar outer s H E) (fun cls d _ H => E cls d H) := takes_of rfl rfl rfl rfl
  have po : PassesOwn (model P w) (Ar.deeper (envOfC "sum_by" (defScope s_sum_by) s.heap.objs.size A.f_sum_by cdv)) (envOfC "sum_by" (defScope s_sum_by) s.heap.objs.size A.f_sum_by cdv) (cxOf (L2.CX P w) P w K mg base N_sum_by "sum_by" (defScope s_sum_by) A.f_sum_by cdv Ar outer s H E).xe := passes_of (X := cxOf (L2.CX P w) P w K mg base N_sum_by "sum_by" (defScope s_sum_by) A.f_sum_by cdv Ar outer s H E) rfl
  exact (dss_cons (dst_set 2 (ps_set (i := 2) sc_sum_by.nd rfl (Or.inl rfl) (de_op od_mul (de_glob (v := .int (11)) rfl T.c_WEIGHT ⟨_, rfl⟩ fun _ => .int _) (de_var 0 (pv 0)))))
  (dss_cons (dst_for po rfl (di_enum rfl T.b_enumerate (de_var 1 (pv 1))) (dg_tup rfl (dgs_cons (dg_name 3 (pg_name (i := 3) sc_sum_by.nd rfl (Or.inl rfl))) (dgs_cons (dg_name 4 (pg_name (i := 4) sc_sum_by.nd rfl (Or.inl rfl))) dgs_nil)))
    (dss_one (dst_aug 2 (ps_aug (i := 2) sc_sum_by.nd rfl (Or.inl rfl) (de_op od_mul (de_op od_add (de_var 3 (pv 3)) de_int) (de_op od_add (de_sm PySem.F.plainAttrs_str PySem.F.slot_str_index PySem.F.type_str_index (md_index rfl) (de_glob (v := .str "abcdefghijklmnopqrstuvwxyz0123456789()+-*<=,:; ") rfl T.c_SIGNS ⟨_, rfl⟩ fun _ => .str _) (da_cons (de_var 4 (pv 4)) da_nil)) de_int)) od_iadd))))
  (dss_one (dst_ret (de_op od_mod (de_var 2 (pv 2)) (de_glob (v := .int (99989)) rfl T.c_SUMS ⟨_, rfl⟩ fun _ => .int _))))))
theorem ok_leaf_by {P : Program} {w : World} {K : PySem.W.Frag} {mg : Str → Option Value} {base : Heap} {A : Ad} (T : Facts K mg A) : FnOk P w K mg base (L2.CX P w) 2 A.f_leaf_by A.d_leaf_by P_leaf_by (spD A.ct K F_leaf_by) := by
  unfold F_leaf_by
  refine fn_D (N := N_leaf_by) (r := d_leaf_by) T.f_leaf_by.F sc_leaf_by (fun cdv Ar outer s H E hr => ?_)
  have hu := hr.units
  have tk : Takes (cxOf (L2.CX P w) P w K mg base N_leaf_by "leaf_by" (defScope s_leaf_by) A.f_leaf_by cdv Ar outer s H E) (fun cls d _ H => E cls d H) := takes_of rfl rfl rfl rfl
  have po : PassesOwn (model P w) (Ar.deeper (envOfC "leaf_by" (defScope s_leaf_by) s.heap.objs.size A.f_leaf_by cdv)) (envOfC "leaf_by" (defScope s_leaf_by) s.heap.objs.size A.f_leaf_by cdv) (cxOf (L2.CX P w) P w K mg base N_leaf_by "leaf_by" (defScope s_leaf_by) A.f_leaf_by cdv Ar outer s H E).xe := passes_of (X := cxOf (L2.CX P w) P w K mg base N_leaf_by "leaf_by" (defScope s_leaf_by) A.f_leaf_by cdv Ar outer s H E) rfl
  exact (dss_cons (dst_set 3 (ps_set (i := 3) sc_leaf_by.nd rfl (Or.inl rfl) (de_op od_add (de_op od_add (de_op od_add (de_callTy cd_str rfl T.b_str (by decide +kernel) (da_cons (de_var 1 (pv 1)) da_nil)) de_str) (de_var 2 (pv 2))) de_str)))
  (dss_cons (dst_set 4 (ps_set (i := 4) sc_leaf_by.nd rfl (Or.inl rfl) (de_fn (ok_sum_by T) (hr.mono (by decide)) rfl T.f_sum_by.g T.f_sum_by.F.kp T.f_sum_by.b tk (da_cons (de_var 0 (pv 0)) (da_cons (de_var 3 (pv 3)) da_nil)))))
  (dss_one (dst_ret (de_tup (da_cons (de_op od_add (de_op od_add (de_op od_add (de_var 3 (pv 3)) de_str) (de_sm PySem.F.plainAttrs_str PySem.F.slot_str_rjust PySem.F.type_str_rjust md_rjust (de_callTy cd_str rfl T.b_str (by decide +kernel) (da_cons (de_var 4 (pv 4)) da_nil)) (da_cons (de_op od_sub (de_glob (v := .int (6)) rfl T.c_TAIL ⟨_, rfl⟩ fun _ => .int _) de_int) (da_cons de_str da_nil)))) de_str) (da_cons (de_var 4 (pv 4)) da_nil)))))))
theorem ok_leaves_by {P : Program} {w : World} {K : PySem.W.Frag} {mg : Str → Option Value} {base : Heap} {A : Ad} (T : Facts K mg A) : FnOk P w K mg base (L2.CX P w) 3 A.f_leaves_by A.d_leaves_by P_leaves_by (spD A.ct K F_leaves_by) := by
  unfold F_leaves_by
  refine fn_D (N := N_leaves_by) (r := d_leaves_by) T.f_leaves_by.F sc_leaves_by (fun cdv Ar outer s H E hr => ?_)
  have hu := hr.units
  have tk : Takes (cxOf (L2.CX P w) P w K mg base N_leaves_by "leaves_by" (defScope s_leaves_by) A.f_leaves_by cdv Ar outer s H E) (fun cls d _ H => E cls d H) := takes_of rfl rfl rfl rfl
  have po : PassesOwn (model P w) (Ar.deeper (envOfC "leaves_by" (defScope s_leaves_by) s.heap.objs.size A.f_leaves_by cdv)) (envOfC "leaves_by" (defScope s_leaves_by) s.heap.objs.size A.f_leaves_by cdv) (cxOf (L2.CX P w) P w K mg base N_leaves_by "leaves_by" (defScope s_leaves_by) A.f_leaves_by cdv Ar outer s H E).xe := passes_of (X := cxOf (L2.CX P w) P w K mg base N_leaves_by "leaves_by" (defScope s_leaves_by) A.f_leaves_by cdv Ar outer s H E) rfl
  exact (dss_cons (dst_asg (de_tup (da_cons de_str (da_cons de_int da_nil))) (dg_tup rfl (dgs_cons (dg_name 1 (pg_name (i := 1) sc_leaves_by.nd rfl (Or.inl rfl))) (dgs_cons (dg_name 2 (pg_name (i := 2) sc_leaves_by.nd rfl (Or.inl rfl))) dgs_nil))))
  (dss_cons (dst_for po rfl (di_enum rfl T.b_enumerate (de_var 0 (pv 0))) (dg_tup rfl (dgs_cons (dg_name 3 (pg_name (i := 3) sc_leaves_by.nd rfl (Or.inl rfl))) (dgs_cons (dg_name 4 (pg_name (i := 4) sc_leaves_by.nd rfl (Or.inl rfl))) dgs_nil)))
    (dss_cons (dst_asg (de_fn (ok_leaf_by T) (hr.mono (by decide)) rfl T.f_leaf_by.g T.f_leaf_by.F.kp T.f_leaf_by.b tk (da_cons (de_var 2 (pv 2)) (da_cons (de_op od_add (de_var 3 (pv 3)) de_int) (da_cons (de_var 4 (pv 4)) da_nil)))) (dg_tup rfl (dgs_cons (dg_name 5 (pg_name (i := 5) sc_leaves_by.nd rfl (Or.inl rfl))) (dgs_cons (dg_name 2 (pg_name (i := 2) sc_leaves_by.nd rfl (Or.inl rfl))) dgs_nil))))
    (dss_one (dst_aug 1 (ps_aug (i := 1) sc_leaves_by.nd rfl (Or.inl rfl) (de_var 5 (pv 5)) od_iadd)))))
  (dss_one (dst_retV 1 (pv 1)))))
theorem ok_leaves_of {P : Program} {w : World} {K : PySem.W.Frag} {mg : Str → Option Value} {base : Heap} {A : Ad} (T : Facts K mg A) : FnOk P w K mg base (L2.CX P w) 4 A.f_leaves_of A.d_leaves_of P_leaves_of (spD A.ct K F_leaves_of) := by
  unfold F_leaves_of
  refine fn_D (N := N_leaves_of) (r := d_leaves_of) T.f_leaves_of.F sc_leaves_of (fun cdv Ar outer s H E hr => ?_)
  have hu := hr.units
  have tk : Takes (cxOf (L2.CX P w) P w K mg base N_leaves_of "leaves_of" (defScope s_leaves_of) A.f_leaves_of cdv Ar outer s H E) (fun cls d _ H => E cls d H) := takes_of rfl rfl rfl rfl
  have po : PassesOwn (model P w) (Ar.deeper (envOfC "leaves_of" (defScope s_leaves_of) s.heap.objs.size A.f_leaves_of cdv)) (envOfC "leaves_of" (defScope s_leaves_of) s.heap.objs.size A.f_leaves_of cdv) (cxOf (L2.CX P w) P w K mg base N_leaves_of "leaves_of" (defScope s_leaves_of) A.f_leaves_of cdv Ar outer s H E).xe := passes_of (X := cxOf (L2.CX P w) P w K mg base N_leaves_of "leaves_of" (defScope s_leaves_of) A.f_leaves_of cdv Ar outer s H E) rfl
  exact (dss_cons (dst_if (dt_w (dw_or (dt_not (dt_val (de_isi (T := "tuple") (de_var 0 (pv 0)) (pe_bltn (v := .ty "tuple") rfl T.b_tuple (by decide +kernel) rfl) rfl T.b_isinstance (by decide +kernel)))) (dw_or1 (dt_not (dt_val (de_callB (cd_all rfl) rfl T.b_all (by decide +kernel) (da_cons (de_f (df_lc (own := [("one", 1)]) rfl sc_leaves_of.nd (di_any (de_var 0 (pv 0))) (blkOk_by (N := N_leaves_of) (sc := defScope s_leaves_of) (by decide +kernel)) (by decide) (fun _ _ _ _ _ => (dg_name 1 (pg_name (i := 1) sc_leaves_of.nd rfl (Or.inl rfl)))) (fun _ _ _ _ _ => dts_nil) (fun _ _ _ _ _ => (de_fn (ok_are_words T) (hr.mono (by decide)) rfl T.f_are_words.g T.f_are_words.F.kp T.f_are_words.b takes0 (da_cons (de_var 1 (pv 1)) da_nil))))) da_nil)))))))
    (dss_one (dst_raiseM "BadWords" rfl tk T.x_BadWords rfl))
    dss_nil)
  (dss_cons (dst_if (dt_cmp od_gt (de_callB cd_len rfl T.b_len (by decide +kernel) (da_cons (de_var 0 (pv 0)) da_nil)) (de_glob (v := .int (99999)) rfl T.c_MOST_LEAVES ⟨_, rfl⟩ fun _ => .int _) (nomark _))
    (dss_one (dst_raiseM "TooMany" rfl tk T.x_TooMany rfl))
    dss_nil)
  (dss_one (dst_ret (de_fn (ok_leaves_by T) (hr.mono (by decide)) rfl T.f_leaves_by.g T.f_leaves_by.F.kp T.f_leaves_by.b tk (da_cons (de_var 0 (pv 0)) da_nil))))))
theorem ok__row {P : Program} {w : World} {K : PySem.W.Frag} {mg : Str → Option Value} {base : Heap} {A : Ad} (T : Facts K mg A) : FnOk P w K mg base (L2.CX P w) 2 A.f__row A.d__row P__row (spD A.ct K F__row) := by
  unfold F__row
  refine fn_D (N := N__row) (r := d__row) T.f__row.F sc__row (fun cdv Ar outer s H E hr => ?_)
  have hu := hr.units
  have tk : Takes (cxOf (L2.CX P w) P w K mg base N__row "_row" (defScope s__row) A.f__row cdv Ar outer s H E) (fun cls d _ H => E cls d H) := takes_of rfl rfl rfl rfl
  have po : PassesOwn (model P w) (Ar.deeper (envOfC "_row" (defScope s__row) s.heap.objs.size A.f__row cdv)) (envOfC "_row" (defScope s__row) s.heap.objs.size A.f__row cdv) (cxOf (L2.CX P w) P w K mg base N__row "_row" (defScope s__row) A.f__row cdv Ar outer s H E).xe := passes_of (X := cxOf (L2.CX P w) P w K mg base N__row "_row" (defScope s__row) A.f__row cdv Ar outer s H E) rfl
  exact (dss_cons (dst_par 3 4 (ps_par (i := 3) (j := 4) rfl sc__row.nd rfl rfl (by decide) rfl rfl (pa_cons (de_sl (de_var 2 (pv 2)) dp_none (dp_some (de_op od_sub de_int (de_glob (v := .int (6)) rfl T.c_TAIL ⟨_, rfl⟩ fun _ => .int _)))) (pa_cons (de_sl (de_var 2 (pv 2)) (dp_some (de_op od_sub de_int (de_glob (v := .int (6)) rfl T.c_TAIL ⟨_, rfl⟩ fun _ => .int _))) dp_none) pa_nil)) (by rfl)))
  (dss_cons (dst_set 5 (ps_set (i := 5) sc__row.nd rfl (Or.inl rfl) (de_op od_add (de_callTy cd_str rfl T.b_str (by decide +kernel) (da_cons (de_var 1 (pv 1)) da_nil)) de_str)))
  (dss_cons (dst_if (dt_w (dw_or (dt_cmp (od_ne hu) (de_sl (de_var 4 (pv 4)) dp_none (dp_some de_int)) de_str (nomark _)) (dw_or (dt_cmp (od_ne hu) (de_sl (de_var 3 (pv 3)) dp_none (dp_some (de_callB cd_len rfl T.b_len (by decide +kernel) (da_cons (de_var 5 (pv 5)) da_nil)))) (de_var 5 (pv 5)) (nomark _)) (dw_or (dt_cmp (od_ne hu) (de_sl (de_var 3 (pv 3)) (dp_some (de_neg de_int)) dp_none) de_str (nomark _)) (dw_or1 (dt_cmp od_le (de_callB cd_len rfl T.b_len (by decide +kernel) (da_cons (de_var 3 (pv 3)) da_nil)) (de_callB cd_len rfl T.b_len (by decide +kernel) (da_cons (de_var 5 (pv 5)) da_nil)) (nomark _)))))))
    (dss_one (dst_ret de_non))
    dss_nil)
  (dss_cons (dst_set 6 (ps_set (i := 6) sc__row.nd rfl (Or.inl rfl) (de_sl (de_var 3 (pv 3)) (dp_some (de_callB cd_len rfl T.b_len (by decide +kernel) (da_cons (de_var 5 (pv 5)) da_nil))) (dp_some (de_neg de_int)))))
  (dss_cons (dst_if (dt_not (dt_val (de_fn (ok_are_words T) (hr.mono (by decide)) rfl T.f_are_words.g T.f_are_words.F.kp T.f_are_words.b tk (da_cons (de_var 6 (pv 6)) da_nil))))
    (dss_one (dst_ret de_non))
    dss_nil)
  (dss_cons (dst_set 7 (ps_set (i := 7) sc__row.nd rfl (Or.inl rfl) (de_fn (ok_sum_by T) (hr.mono (by decide)) rfl T.f_sum_by.g T.f_sum_by.F.kp T.f_sum_by.b tk (da_cons (de_var 0 (pv 0)) (da_cons (de_var 3 (pv 3)) da_nil)))))
  (dss_one (dst_ret (de_if (dt_cmp (od_eq hu) (de_sl (de_var 4 (pv 4)) (dp_some de_int) dp_none) (de_sm PySem.F.plainAttrs_str PySem.F.slot_str_rjust PySem.F.type_str_rjust md_rjust (de_callTy cd_str rfl T.b_str (by decide +kernel) (da_cons (de_var 7 (pv 7)) da_nil)) (da_cons (de_op od_sub (de_glob (v := .int (6)) rfl T.c_TAIL ⟨_, rfl⟩ fun _ => .int _) de_int) (da_cons de_str da_nil))) (nomark _)) (de_tup (da_cons (de_var 6 (pv 6)) (da_cons (de_var 7 (pv 7)) da_nil))) de_non)))))))))
theorem ok_rows_of {P : Program} {w : World} {K : PySem.W.Frag} {mg : Str → Option Value} {base : Heap} {A : Ad} (T : Facts K mg A) : FnOk P w K mg base (L2.CX P w) 3 A.f_rows_of A.d_rows_of P_rows_of (spD A.ct K F_rows_of) := by
  unfold F_rows_of
  refine fn_D (N := N_rows_of) (r := d_rows_of) T.f_rows_of.F sc_rows_of (fun cdv Ar outer s H E hr => ?_)
  have hu := hr.units
  have tk : Takes (cxOf (L2.CX P w) P w K mg base N_rows_of "rows_of" (defScope s_rows_of) A.f_rows_of cdv Ar outer s H E) (fun cls d _ H => E cls d H) := takes_of rfl rfl rfl rfl
  have po : PassesOwn (model P w) (Ar.deeper (envOfC "rows_of" (defScope s_rows_of) s.heap.objs.size A.f_rows_of cdv)) (envOfC "rows_of" (defScope s_rows_of) s.heap.objs.size A.f_rows_of cdv) (cxOf (L2.CX P w) P w K mg base N_rows_of "rows_of" (defScope s_rows_of) A.f_rows_of cdv Ar outer s H E).xe := passes_of (X := cxOf (L2.CX P w) P w K mg base N_rows_of "rows_of" (defScope s_rows_of) A.f_rows_of cdv Ar outer s H E) rfl
  exact (dss_cons (dst_setO 1 (ps_set (i := 1) sc_rows_of.nd rfl (Or.inl rfl) (df_lst da_nil)))
  (dss_cons (dst_asg (de_tup (da_cons de_int (da_cons de_int da_nil))) (dg_tup rfl (dgs_cons (dg_name 2 (pg_name (i := 2) sc_rows_of.nd rfl (Or.inl rfl))) (dgs_cons (dg_name 3 (pg_name (i := 3) sc_rows_of.nd rfl (Or.inl rfl))) dgs_nil))))
  (dss_cons (dst_set 4 (ps_set (i := 4) sc_rows_of.nd rfl (Or.inl rfl) (de_sm PySem.F.plainAttrs_str PySem.F.slot_str_find PySem.F.type_str_find md_find (de_var 0 (pv 0)) (da_cons de_str da_nil))))
  (dss_cons (dst_while 1000000 po (dt_w (dw_and (dt_cmp od_ge (de_var 4 (pv 4)) de_int (nomark _)) (dw_and1 (dt_cmp od_lt (de_lenV 1 (pv 1) rfl T.b_len) (de_glob (v := .int (99999)) rfl T.c_MOST_LEAVES ⟨_, rfl⟩ fun _ => .int _) (nomark _)))))
    (dss_cons (dst_set 5 (ps_set (i := 5) sc_rows_of.nd rfl (Or.inl rfl) (de_fn (ok__row T) (hr.mono (by decide)) rfl T.f__row.g T.f__row.F.kp T.f__row.b tk (da_cons (de_var 3 (pv 3)) (da_cons (de_op od_add (de_lenV 1 (pv 1) rfl T.b_len) de_int) (da_cons (de_sl (de_var 0 (pv 0)) (dp_some (de_var 2 (pv 2))) (dp_some (de_var 4 (pv 4)))) da_nil))))))
    (dss_cons (dst_if (dt_cmp od_is (de_var 5 (pv 5)) de_non (nomark _))
      (dss_one (dst_retV 1 (pv 1)))
      dss_nil)
    (dss_cons (dst_app 1 (ps_expr (pe_bm PySem.F.plainAttrs_list PySem.F.slot_list_append PySem.F.type_list_append mt_append (pv 1) (pa_cons (de_op od_add (de_var 5 (pv 5)) (de_tup (da_cons (de_op od_add (de_var 4 (pv 4)) de_int) da_nil))) pa_nil))))
    (dss_cons (dst_par 2 3 (ps_par (i := 2) (j := 3) rfl sc_rows_of.nd rfl rfl (by decide) rfl rfl (pa_cons (de_op od_add (de_var 4 (pv 4)) de_int) (pa_cons (de_ix (de_var 5 (pv 5)) de_int) pa_nil)) (by rfl)))
    (dss_one (dst_set 4 (ps_set (i := 4) sc_rows_of.nd rfl (Or.inl rfl) (de_sm PySem.F.plainAttrs_str PySem.F.slot_str_find PySem.F.type_str_find md_find (de_var 0 (pv 0)) (da_cons de_str (da_cons (de_var 2 (pv 2)) da_nil)))))))))))
  (dss_one (dst_retV 1 (pv 1)))))))
theorem ok_check_text {P : Program} {w : World} {K : PySem.W.Frag} {mg : Str → Option Value} {base : Heap} {A : Ad} (T : Facts K mg A) : FnOk P w K mg base (L2.CX P w) 1 A.f_check_text A.d_check_text P_check_text (spD A.ct K F_check_text) := by
  unfold F_check_text
  refine fn_D (N := N_check_text) (r := d_check_text) T.f_check_text.F sc_check_text (fun cdv Ar outer s H E hr => ?_)
  have hu := hr.units
  have tk : Takes (cxOf (L2.CX P w) P w K mg base N_check_text "check_text" (defScope s_check_text) A.f_check_text cdv Ar outer s H E) (fun cls d _ H => E cls d H) := takes_of rfl rfl rfl rfl
  have po : PassesOwn (model P w) (Ar.deeper (envOfC "check_text" (defScope s_check_text) s.heap.objs.size A.f_check_text cdv)) (envOfC "check_text" (defScope s_check_text) s.heap.objs.size A.f_check_text cdv) (cxOf (L2.CX P w) P w K mg base N_check_text "check_text" (defScope s_check_text) A.f_check_text cdv Ar outer s H E).xe := passes_of (X := cxOf (L2.CX P w) P w K mg base N_check_text "check_text" (defScope s_check_text) A.f_check_text cdv Ar outer s H E) rfl
  exact (dss_one (dst_if (dt_not (dt_val (de_isi (T := "str") (de_var 0 (pv 0)) (pe_bltn (v := .ty "str") rfl T.b_str (by decide +kernel) rfl) rfl T.b_isinstance (by decide +kernel))))
    (dss_one (dst_raiseM "BadText" rfl tk T.x_BadText rfl))
    dss_nil))
theorem ok_words_in {P : Program} {w : World} {K : PySem.W.Frag} {mg : Str → Option Value} {base : Heap} {A : Ad} (T : Facts K mg A) : FnOk P w K mg base (L2.CX P w) 4 A.f_words_in A.d_words_in P_words_in (spD A.ct K F_words_in) := by
  unfold F_words_in
  refine fn_D (N := N_words_in) (r := d_words_in) T.f_words_in.F sc_words_in (fun cdv Ar outer s H E hr => ?_)
  have hu := hr.units
  have tk : Takes (cxOf (L2.CX P w) P w K mg base N_words_in "words_in" (defScope s_words_in) A.f_words_in cdv Ar outer s H E) (fun cls d _ H => E cls d H) := takes_of rfl rfl rfl rfl
  have po : PassesOwn (model P w) (Ar.deeper (envOfC "words_in" (defScope s_words_in) s.heap.objs.size A.f_words_in cdv)) (envOfC "words_in" (defScope s_words_in) s.heap.objs.size A.f_words_in cdv) (cxOf (L2.CX P w) P w K mg base N_words_in "words_in" (defScope s_words_in) A.f_words_in cdv Ar outer s H E).xe := passes_of (X := cxOf (L2.CX P w) P w K mg base N_words_in "words_in" (defScope s_words_in) A.f_words_in cdv Ar outer s H E) rfl
  exact (dss_cons (dst_expr (de_fn (ok_check_text T) (hr.mono (by decide)) rfl T.f_check_text.g T.f_check_text.F.kp T.f_check_text.b tk (da_cons (de_var 0 (pv 0)) da_nil)))
  (dss_cons (dst_set 1 (ps_set (i := 1) sc_words_in.nd rfl (Or.inl rfl) (de_fn (ok_rows_of T) (hr.mono (by decide)) rfl T.f_rows_of.g T.f_rows_of.F.kp T.f_rows_of.b tk (da_cons (de_var 0 (pv 0)) da_nil))))
  (dss_one (dst_ret (de_tup (da_cons (de_callTy cd_tuple rfl T.b_tuple (by decide +kernel) (da_cons (de_f (df_lc (own := [("row", 2)]) rfl sc_words_in.nd (di_any (de_var 1 (pv 1))) (blkOk_by (N := N_words_in) (sc := defScope s_words_in) (by decide +kernel)) (by decide) (fun _ _ _ _ _ => (dg_name 2 (pg_name (i := 2) sc_words_in.nd rfl (Or.inl rfl)))) (fun _ _ _ _ _ => dts_nil) (fun _ _ _ _ _ => (de_ix (de_var 2 (pv 2)) de_int)))) da_nil)) (da_cons (de_if (dt_cmp od_gt (de_callB cd_len rfl T.b_len (by decide +kernel) (da_cons (de_var 1 (pv 1)) da_nil)) de_int (nomark _)) (de_ix (de_ix (de_var 1 (pv 1)) (de_neg de_int)) de_int) de_int) da_nil)))))))
theorem ok__law_draws {P : Program} {w : World} {K : PySem.W.Frag} {mg : Str → Option Value} {base : Heap} {A : Ad} (T : Facts K mg A) : FnOk P w K mg base (L2.CX P w) 1 A.f__law_draws A.d__law_draws P__law_draws (spD A.ct K F__law_draws) := by
  unfold F__law_draws
  refine fn_D (N := N__law_draws) (r := d__law_draws) T.f__law_draws.F sc__law_draws (fun cdv Ar outer s H E hr => ?_)
  have hu := hr.units
  have tk : Takes (cxOf (L2.CX P w) P w K mg base N__law_draws "_law_draws" (defScope s__law_draws) A.f__law_draws cdv Ar outer s H E) (fun cls d _ H => E cls d H) := takes_of rfl rfl rfl rfl
  have po : PassesOwn (model P w) (Ar.deeper (envOfC "_law_draws" (defScope s__law_draws) s.heap.objs.size A.f__law_draws cdv)) (envOfC "_law_draws" (defScope s__law_draws) s.heap.objs.size A.f__law_draws cdv) (cxOf (L2.CX P w) P w K mg base N__law_draws "_law_draws" (defScope s__law_draws) A.f__law_draws cdv Ar outer s H E).xe := passes_of (X := cxOf (L2.CX P w) P w K mg base N__law_draws "_law_draws" (defScope s__law_draws) A.f__law_draws cdv Ar outer s H E) rfl
  exact (dss_cons (dst_setO 2 (ps_set (i := 2) sc__law_draws.nd rfl (Or.inl rfl) (df_lst da_nil)))
  (dss_cons (dst_set 3 (ps_set (i := 3) sc__law_draws.nd rfl (Or.inl rfl) de_int))
  (dss_cons (dst_for po rfl (di_any (de_f (df_slV 0 (pv 0) dp_none (dp_some de_int)))) (dg_name 4 (pg_name (i := 4) sc__law_draws.nd rfl (Or.inl rfl)))
    (dss_cons (dst_set 5 (ps_set (i := 5) sc__law_draws.nd rfl (Or.inl rfl) (de_callB cd_abs rfl T.b_abs (by decide +kernel) (da_cons (de_var 4 (pv 4)) da_nil))))
    (dss_cons (dst_set 3 (ps_set (i := 3) sc__law_draws.nd rfl (Or.inl rfl) (de_op od_mod (de_callTy cd_int rfl T.b_int (by decide +kernel) (da_cons (de_op od_add (de_op od_add (de_op od_mul (de_var 3 (pv 3)) de_int) (de_var 5 (pv 5))) de_int) da_nil)) de_int)))
    (dss_one (dst_if (dt_cmp od_ge (de_var 5 (pv 5)) (de_op od_pow de_int de_int) (nomark _))
      (dss_one (dst_for po rfl (di_range1 rfl T.b_range (da_cons de_int da_nil)) (dg_name 6 (pg_name (i := 6) sc__law_draws.nd rfl (Or.inl rfl)))
        (dss_one (dst_if (dt_cmp od_gt (de_var 5 (pv 5)) de_int (nomark _))
          (dss_cons (dst_app 2 (ps_expr (pe_bm PySem.F.plainAttrs_list PySem.F.slot_list_append PySem.F.type_list_append mt_append (pv 2) (pa_cons (de_op od_mod (de_callTy cd_int rfl T.b_int (by decide +kernel) (da_cons (de_var 5 (pv 5)) da_nil)) de_int) pa_nil))))
          (dss_one (dst_set 5 (ps_set (i := 5) sc__law_draws.nd rfl (Or.inl rfl) (de_op od_fdiv (de_var 5 (pv 5)) de_int)))))
          dss_nil))))
      (dss_one (dst_app 2 (ps_expr (pe_bm PySem.F.plainAttrs_list PySem.F.slot_list_append PySem.F.type_list_append mt_append (pv 2) (pa_cons (de_op od_mod (de_op od_fdiv (de_callTy cd_int rfl T.b_int (by decide +kernel) (da_cons (de_op od_add (de_op od_mul (de_var 3 (pv 3)) de_int) de_int) da_nil)) de_int) de_int) pa_nil))))))))))
  (dss_cons (dst_for po rfl (di_range1 rfl T.b_range (da_cons (de_var 1 (pv 1)) da_nil)) (dg_name 6 (pg_name (i := 6) sc__law_draws.nd rfl (Or.inl rfl)))
    (dss_one (dst_if (dt_cmp od_lt (de_lenV 2 (pv 2) rfl T.b_len) (de_var 1 (pv 1)) (nomark _))
      (dss_cons (dst_set 3 (ps_set (i := 3) sc__law_draws.nd rfl (Or.inl rfl) (de_op od_mod (de_callTy cd_int rfl T.b_int (by decide +kernel) (da_cons (de_op od_add (de_op od_add (de_op od_mul (de_var 3 (pv 3)) de_int) (de_var 6 (pv 6))) de_int) da_nil)) de_int)))
      (dss_one (dst_app 2 (ps_expr (pe_bm PySem.F.plainAttrs_list PySem.F.slot_list_append PySem.F.type_list_append mt_append (pv 2) (pa_cons (de_op od_mod (de_op od_fdiv (de_callTy cd_int rfl T.b_int (by decide +kernel) (da_cons (de_var 3 (pv 3)) da_nil)) de_int) de_int) pa_nil))))))
      dss_nil)))
  (dss_one (dst_ret (de_f (df_slV 2 (pv 2) dp_none (dp_some (de_var 1 (pv 1)))))))))))
theorem ok__law_sum {P : Program} {w : World} {K : PySem.W.Frag} {mg : Str → Option Value} {base : Heap} {A : Ad} (T : Facts K mg A) : FnOk P w K mg base (L2.CX P w) 1 A.f__law_sum A.d__law_sum P__law_sum (spD A.ct K F__law_sum) := by
  unfold F__law_sum
  refine fn_D (N := N__law_sum) (r := d__law_sum) T.f__law_sum.F sc__law_sum (fun cdv Ar outer s H E hr => ?_)
  have hu := hr.units
  have tk : Takes (cxOf (L2.CX P w) P w K mg base N__law_sum "_law_sum" (defScope s__law_sum) A.f__law_sum cdv Ar outer s H E) (fun cls d _ H => E cls d H) := takes_of rfl rfl rfl rfl
  have po : PassesOwn (model P w) (Ar.deeper (envOfC "_law_sum" (defScope s__law_sum) s.heap.objs.size A.f__law_sum cdv)) (envOfC "_law_sum" (defScope s__law_sum) s.heap.objs.size A.f__law_sum cdv) (cxOf (L2.CX P w) P w K mg base N__law_sum "_law_sum" (defScope s__law_sum) A.f__law_sum cdv Ar outer s H E).xe := passes_of (X := cxOf (L2.CX P w) P w K mg base N__law_sum "_law_sum" (defScope s__law_sum) A.f__law_sum cdv Ar outer s H E) rfl
  exact (dss_cons (dst_par 2 3 (ps_par (i := 2) (j := 3) rfl sc__law_sum.nd rfl rfl (by decide) rfl rfl (pa_cons de_str (pa_cons (de_op od_mul de_int (de_var 0 (pv 0))) pa_nil)) (by rfl)))
  (dss_cons (dst_for po rfl (di_range1 rfl T.b_range (da_cons (de_callB cd_len rfl T.b_len (by decide +kernel) (da_cons (de_var 1 (pv 1)) da_nil)) da_nil)) (dg_name 4 (pg_name (i := 4) sc__law_sum.nd rfl (Or.inl rfl)))
    (dss_one (dst_set 3 (ps_set (i := 3) sc__law_sum.nd rfl (Or.inl rfl) (de_op od_add (de_var 3 (pv 3)) (de_op od_mul (de_op od_add (de_var 4 (pv 4)) de_int) (de_op od_add (de_sm PySem.F.plainAttrs_str PySem.F.slot_str_index PySem.F.type_str_index (md_index rfl) (de_var 2 (pv 2)) (da_cons (de_ix (de_var 1 (pv 1)) (de_var 4 (pv 4))) da_nil)) de_int)))))))
  (dss_one (dst_ret (de_op od_mod (de_callTy cd_int rfl T.b_int (by decide +kernel) (da_cons (de_var 3 (pv 3)) da_nil)) de_int)))))
theorem ok__law_leaves {P : Program} {w : World} {K : PySem.W.Frag} {mg : Str → Option Value} {base : Heap} {A : Ad} (T : Facts K mg A) : FnOk P w K mg base (L2.CX P w) 2 A.f__law_leaves A.d__law_leaves P__law_leaves (spD A.ct K F__law_leaves) := by
  unfold F__law_leaves
  refine fn_D (N := N__law_leaves) (r := d__law_leaves) T.f__law_leaves.F sc__law_leaves (fun cdv Ar outer s H E hr => ?_)
  have hu := hr.units
  have tk : Takes (cxOf (L2.CX P w) P w K mg base N__law_leaves "_law_leaves" (defScope s__law_leaves) A.f__law_leaves cdv Ar outer s H E) (fun cls d _ H => E cls d H) := takes_of rfl rfl rfl rfl
  have po : PassesOwn (model P w) (Ar.deeper (envOfC "_law_leaves" (defScope s__law_leaves) s.heap.objs.size A.f__law_leaves cdv)) (envOfC "_law_leaves" (defScope s__law_leaves) s.heap.objs.size A.f__law_leaves cdv) (cxOf (L2.CX P w) P w K mg base N__law_leaves "_law_leaves" (defScope s__law_leaves) A.f__law_leaves cdv Ar outer s H E).xe := passes_of (X := cxOf (L2.CX P w) P w K mg base N__law_leaves "_law_leaves" (defScope s__law_leaves) A.f__law_leaves cdv Ar outer s H E) rfl
  exact (dss_cons (dst_tupO 1 2 (ps_asg (pe_tup (pa_cons (df_lst da_nil) (pa_cons de_int pa_nil))) (pg_tup rfl (pgs_cons (pg_name (i := 1) sc__law_leaves.nd rfl (Or.inl rfl)) (pgs_cons (pg_name (i := 2) sc__law_leaves.nd rfl (Or.inr rfl)) pgs_nil)))))
  (dss_cons (dst_for po rfl (di_range1 rfl T.b_range (da_cons (de_callB cd_len rfl T.b_len (by decide +kernel) (da_cons (de_var 0 (pv 0)) da_nil)) da_nil)) (dg_name 3 (pg_name (i := 3) sc__law_leaves.nd rfl (Or.inl rfl)))
    (dss_cons (dst_set 4 (ps_set (i := 4) sc__law_leaves.nd rfl (Or.inl rfl) (de_op od_add (de_op od_add (de_op od_add (de_callTy cd_str rfl T.b_str (by decide +kernel) (da_cons (de_op od_add (de_var 3 (pv 3)) de_int) da_nil)) de_str) (de_ix (de_var 0 (pv 0)) (de_var 3 (pv 3)))) de_str)))
    (dss_cons (dst_set 2 (ps_set (i := 2) sc__law_leaves.nd rfl (Or.inr rfl) (de_fn (ok__law_sum T) (hr.mono (by decide)) rfl T.f__law_sum.g T.f__law_sum.F.kp T.f__law_sum.b tk (da_cons (de_var 2 (pv 2)) (da_cons (de_var 4 (pv 4)) da_nil)))))
    (dss_one (dst_app 1 (ps_expr (pe_bm PySem.F.plainAttrs_list PySem.F.slot_list_append PySem.F.type_list_append mt_append (pv 1) (pa_cons (de_op od_add (de_op od_add (de_op od_add (de_var 4 (pv 4)) de_str) (de_sm PySem.F.plainAttrs_str PySem.F.slot_str_join PySem.F.type_str_join md_join de_str (da_cons (de_f (df_lc (own := [("size", 5)]) rfl sc__law_leaves.nd (di_any (de_f (df_lst (da_cons de_int (da_cons de_int (da_cons de_int (da_cons de_int (da_cons de_int da_nil)))))))) (blkOk_by (N := N__law_leaves) (sc := defScope s__law_leaves) (by decide +kernel)) (by decide) (fun _ _ _ _ _ => (dg_name 5 (pg_name (i := 5) sc__law_leaves.nd rfl (Or.inl rfl)))) (fun _ _ _ _ _ => dts_nil) (fun _ _ _ _ _ => (de_sl (de_callTy cd_str rfl T.b_str (by decide +kernel) (da_cons (de_op od_fdiv (de_var 2 (pv 2)) (de_var 5 (pv 5))) da_nil)) (dp_some (de_neg de_int)) dp_none)))) da_nil))) de_str) pa_nil))))))))
  (dss_one (dst_retV 1 (pv 1)))))
theorem ok__law_text {P : Program} {w : World} {K : PySem.W.Frag} {mg : Str → Option Value} {base : Heap} {A : Ad} (T : Facts K mg A) : FnOk P w K mg base (L2.CX P w) 1 A.f__law_text A.d__law_text P__law_text (spD A.ct K F__law_text) := by
  unfold F__law_text
  refine fn_D (N := N__law_text) (r := d__law_text) T.f__law_text.F sc__law_text (fun cdv Ar outer s H E hr => ?_)
  have hu := hr.units
  have tk : Takes (cxOf (L2.CX P w) P w K mg base N__law_text "_law_text" (defScope s__law_text) A.f__law_text cdv Ar outer s H E) (fun cls d _ H => E cls d H) := takes_of rfl rfl rfl rfl
  have po : PassesOwn (model P w) (Ar.deeper (envOfC "_law_text" (defScope s__law_text) s.heap.objs.size A.f__law_text cdv)) (envOfC "_law_text" (defScope s__law_text) s.heap.objs.size A.f__law_text cdv) (cxOf (L2.CX P w) P w K mg base N__law_text "_law_text" (defScope s__law_text) A.f__law_text cdv Ar outer s H E).xe := passes_of (X := cxOf (L2.CX P w) P w K mg base N__law_text "_law_text" (defScope s__law_text) A.f__law_text cdv Ar outer s H E) rfl
  exact (dss_cons (dst_set 2 (ps_set (i := 2) sc__law_text.nd rfl (Or.inr rfl) de_str))
  (dss_cons (dst_set 3 (ps_set (i := 3) sc__law_text.nd rfl (Or.inl rfl) (de_callTy cd_int rfl T.b_int (by decide +kernel) (da_cons (de_ix (de_var 0 (pv 0)) (de_op od_mod (de_var 1 (pv 1)) (de_callB cd_len rfl T.b_len (by decide +kernel) (da_cons (de_var 0 (pv 0)) da_nil)))) da_nil))))
  (dss_one (dst_ret (de_sm PySem.F.plainAttrs_str PySem.F.slot_str_join PySem.F.type_str_join md_join de_str (da_cons (de_f (df_lc (own := [("k", 4)]) rfl sc__law_text.nd (di_range1 rfl T.b_range (da_cons (de_op od_add de_int (de_op od_mod (de_var 3 (pv 3)) de_int)) da_nil)) (blkOk_by (N := N__law_text) (sc := defScope s__law_text) (by decide +kernel)) (by decide) (fun _ _ _ _ _ => (dg_name 4 (pg_name (i := 4) sc__law_text.nd rfl (Or.inl rfl)))) (fun _ _ _ _ _ => dts_nil) (fun _ _ _ _ _ => (de_ix (de_var 2 (pv 2)) (de_op od_mod (de_op od_fdiv (de_callTy cd_int rfl T.b_int (by decide +kernel) (da_cons (de_ix (de_var 0 (pv 0)) (de_op od_mod (de_op od_add (de_var 1 (pv 1)) (de_var 4 (pv 4))) (de_callB cd_len rfl T.b_len (by decide +kernel) (da_cons (de_var 0 (pv 0)) da_nil)))) da_nil)) (de_op od_add de_int (de_var 4 (pv 4)))) de_int))))) da_nil))))))
theorem ok__law_due {P : Program} {w : World} {K : PySem.W.Frag} {mg : Str → Option Value} {base : Heap} {A : Ad} (T : Facts K mg A) : FnOk P w K mg base (L2.CX P w) 1 A.f__law_due A.d__law_due P__law_due (spD A.ct K F__law_due) := by
  unfold F__law_due
  refine fn_D (N := N__law_due) (r := d__law_due) T.f__law_due.F sc__law_due (fun cdv Ar outer s H E hr => ?_)
  have hu := hr.units
  have tk : Takes (cxOf (L2.CX P w) P w K mg base N__law_due "_law_due" (defScope s__law_due) A.f__law_due cdv Ar outer s H E) (fun cls d _ H => E cls d H) := takes_of rfl rfl rfl rfl
  have po : PassesOwn (model P w) (Ar.deeper (envOfC "_law_due" (defScope s__law_due) s.heap.objs.size A.f__law_due cdv)) (envOfC "_law_due" (defScope s__law_due) s.heap.objs.size A.f__law_due cdv) (cxOf (L2.CX P w) P w K mg base N__law_due "_law_due" (defScope s__law_due) A.f__law_due cdv Ar outer s H E).xe := passes_of (X := cxOf (L2.CX P w) P w K mg base N__law_due "_law_due" (defScope s__law_due) A.f__law_due cdv Ar outer s H E) rfl
  exact (dss_cons (dst_set 3 (ps_set (i := 3) sc__law_due.nd rfl (Or.inl rfl) de_int))
  (dss_cons (dst_for po rfl (di_range1 rfl T.b_range (da_cons (de_callB cd_len rfl T.b_len (by decide +kernel) (da_cons (de_var 0 (pv 0)) da_nil)) da_nil)) (dg_name 4 (pg_name (i := 4) sc__law_due.nd rfl (Or.inl rfl)))
    (dss_one (dst_if (dt_cmp (od_eq hu) (de_sl (de_var 2 (pv 2)) dp_none (dp_some (de_callB cd_len rfl T.b_len (by decide +kernel) (da_cons (de_sm PySem.F.plainAttrs_str PySem.F.slot_str_join PySem.F.type_str_join md_join de_str (da_cons (de_sl (de_var 0 (pv 0)) dp_none (dp_some (de_op od_add (de_var 4 (pv 4)) de_int))) da_nil)) da_nil)))) (de_sm PySem.F.plainAttrs_str PySem.F.slot_str_join PySem.F.type_str_join md_join de_str (da_cons (de_sl (de_var 0 (pv 0)) dp_none (dp_some (de_op od_add (de_var 4 (pv 4)) de_int))) da_nil)) (nomark _))
      (dss_one (dst_set 3 (ps_set (i := 3) sc__law_due.nd rfl (Or.inl rfl) (de_op od_add (de_var 4 (pv 4)) de_int))))
      dss_nil)))
  (dss_one (dst_ret (de_tup (da_cons (de_sl (de_var 1 (pv 1)) dp_none (dp_some (de_var 3 (pv 3)))) (da_cons (de_callB cd_len rfl T.b_len (by decide +kernel) (da_cons (de_sm PySem.F.plainAttrs_str PySem.F.slot_str_join PySem.F.type_str_join md_join de_str (da_cons (de_sl (de_var 0 (pv 0)) dp_none (dp_some (de_var 3 (pv 3)))) da_nil)) da_nil)) da_nil)))))))
theorem ok__law_word {P : Program} {w : World} {K : PySem.W.Frag} {mg : Str → Option Value} {base : Heap} {A : Ad} (T : Facts K mg A) : FnOk P w K mg base (L2.CX P w) 5 A.f__law_word A.d__law_word P__law_word (spD A.ct K F__law_word) := by
  unfold F__law_word
  refine fn_D (N := N__law_word) (r := d__law_word) T.f__law_word.F sc__law_word (fun cdv Ar outer s H E hr => ?_)
  have hu := hr.units
  have tk : Takes (cxOf (L2.CX P w) P w K mg base N__law_word "_law_word" (defScope s__law_word) A.f__law_word cdv Ar outer s H E) (fun cls d _ H => E cls d H) := takes_of rfl rfl rfl rfl
  have po : PassesOwn (model P w) (Ar.deeper (envOfC "_law_word" (defScope s__law_word) s.heap.objs.size A.f__law_word cdv)) (envOfC "_law_word" (defScope s__law_word) s.heap.objs.size A.f__law_word cdv) (cxOf (L2.CX P w) P w K mg base N__law_word "_law_word" (defScope s__law_word) A.f__law_word cdv Ar outer s H E).xe := passes_of (X := cxOf (L2.CX P w) P w K mg base N__law_word "_law_word" (defScope s__law_word) A.f__law_word cdv Ar outer s H E) rfl
  exact (dss_cons (dst_try (V := exV) rfl rfl tk (fun _ _ _ tk po => (dss_one (dst_if (dt_cmp (od_eq hu) (de_var 0 (pv 0)) de_int (nomark _))
      (dss_one (dst_expr (de_fn (ok_leaves_of T) (hr.mono (by decide)) rfl T.f_leaves_of.g T.f_leaves_of.F.kp T.f_leaves_of.b tk (da_cons (de_var 1 (pv 1)) da_nil))))
      (dss_one (dst_expr (de_fn (ok_words_in T) (hr.mono (by decide)) rfl T.f_words_in.g T.f_words_in.F.kp T.f_words_in.b tk (da_cons (de_var 1 (pv 1)) da_nil)))))))
    (hds_cons (n := "BadWords") ⟨rfl, by decide, Or.inl T.x_BadWords.g⟩ (T.e_BadWords) (fun _ _ _ => (dss_one (dst_ret de_str))) (hds_cons (n := "BadText") ⟨rfl, by decide, Or.inl T.x_BadText.g⟩ (T.e_BadText) (fun _ _ _ => (dss_one (dst_ret de_str))) (hds_cons (n := "TooMany") ⟨rfl, by decide, Or.inl T.x_TooMany.g⟩ (T.e_TooMany) (fun _ _ _ => (dss_one (dst_ret de_str))) hds_nil))) (calm_cons calmR_ret (calm_cons calmR_ret (calm_cons calmR_ret calm_nil))))
  (dss_one (dst_ret de_str)))
theorem ok_law {P : Program} {w : World} {K : PySem.W.Frag} {mg : Str → Option Value} {base : Heap} {A : Ad} (T : Facts K mg A) : FnOk P w K mg base (L2.CX P w) 6 A.f_law A.d_law P_law (spD A.ct K F_law) := by
  unfold F_law
  refine fn_D (N := N_law) (r := d_law) T.f_law.F sc_law (fun cdv Ar outer s H E hr => ?_)
  have hu := hr.units
  have tk : Takes (cxOf (L2.CX P w) P w K mg base N_law "law" (defScope s_law) A.f_law cdv Ar outer s H E) (fun cls d _ H => E cls d H) := takes_of rfl rfl rfl rfl
  have po : PassesOwn (model P w) (Ar.deeper (envOfC "law" (defScope s_law) s.heap.objs.size A.f_law cdv)) (envOfC "law" (defScope s_law) s.heap.objs.size A.f_law cdv) (cxOf (L2.CX P w) P w K mg base N_law "law" (defScope s_law) A.f_law cdv Ar outer s H E).xe := passes_of (X := cxOf (L2.CX P w) P w K mg base N_law "law" (defScope s_law) A.f_law cdv Ar outer s H E) rfl
  exact (dss_cons (dst_set 1 (ps_set (i := 1) sc_law.nd rfl (Or.inr rfl) (de_fnV 0 (ok__law_draws T) (hr.mono (by decide)) rfl T.f__law_draws.g T.f__law_draws.F.kp T.f__law_draws.b tk (pv 0) (da_cons de_int da_nil))))
  (dss_cons (dst_for po rfl (di_range1 rfl T.b_range (da_cons de_int da_nil)) (dg_name 2 (pg_name (i := 2) sc_law.nd rfl (Or.inr rfl)))
    (dss_cons (dst_set 4 (ps_set (i := 4) sc_law.nd rfl (Or.inl rfl) (de_callTy cd_tuple rfl T.b_tuple (by decide +kernel) (da_cons (de_f (df_lc (own := [("k", 3)]) rfl sc_law.nd (di_range1 rfl T.b_range (da_cons (de_op od_add de_int (de_op od_mod (de_callTy cd_int rfl T.b_int (by decide +kernel) (da_cons (de_ix (de_var 1 (pv 1)) (de_op od_add de_int (de_var 2 (pv 2)))) da_nil)) de_int)) da_nil)) (blkOk_by (N := N_law) (sc := defScope s_law) (by decide +kernel)) (by decide) (fun _ _ _ _ _ => (dg_name 3 (pg_name (i := 3) sc_law.nd rfl (Or.inl rfl)))) (fun _ _ _ _ _ => dts_nil) (fun _ _ _ _ _ => (de_fn (ok__law_text T) (hr.mono (by decide)) rfl T.f__law_text.g T.f__law_text.F.kp T.f__law_text.b takes0 (da_cons (de_var 1 (pv 1)) (da_cons (de_op od_add (de_op od_add de_int (de_op od_mul de_int (de_var 3 (pv 3)))) (de_var 2 (pv 2))) da_nil)))))) da_nil))))
    (dss_cons (dst_set 5 (ps_set (i := 5) sc_law.nd rfl (Or.inl rfl) (de_fn (ok__law_leaves T) (hr.mono (by decide)) rfl T.f__law_leaves.g T.f__law_leaves.F.kp T.f__law_leaves.b tk (da_cons (de_var 4 (pv 4)) da_nil))))
    (dss_cons (dst_set 6 (ps_set (i := 6) sc_law.nd rfl (Or.inl rfl) (de_sm PySem.F.plainAttrs_str PySem.F.slot_str_join PySem.F.type_str_join md_join de_str (da_cons (de_var 5 (pv 5)) da_nil))))
    (dss_cons (dst_if (dt_w (dw_or (dt_cmp (od_ne hu) (de_fn (ok_leaves_of T) (hr.mono (by decide)) rfl T.f_leaves_of.g T.f_leaves_of.F.kp T.f_leaves_of.b tk (da_cons (de_var 4 (pv 4)) da_nil)) (de_var 6 (pv 6)) (nomark _)) (dw_or1 (dt_cmp (od_ne hu) (de_fn (ok_words_in T) (hr.mono (by decide)) rfl T.f_words_in.g T.f_words_in.F.kp T.f_words_in.b tk (da_cons (de_var 6 (pv 6)) da_nil)) (de_tup (da_cons (de_var 4 (pv 4)) (da_cons (de_callB cd_len rfl T.b_len (by decide +kernel) (da_cons (de_var 6 (pv 6)) da_nil)) da_nil))) (nomark _)))))
      (dss_one (dst_ret de_bl))
      dss_nil)
    (dss_cons (dst_for po rfl (di_range1 rfl T.b_range (da_cons (de_op od_add (de_callB cd_len rfl T.b_len (by decide +kernel) (da_cons (de_var 6 (pv 6)) da_nil)) de_int) da_nil)) (dg_name 3 (pg_name (i := 3) sc_law.nd rfl (Or.inl rfl)))
      (dss_one (dst_if (dt_cmp (od_ne hu) (de_fn (ok_words_in T) (hr.mono (by decide)) rfl T.f_words_in.g T.f_words_in.F.kp T.f_words_in.b tk (da_cons (de_sl (de_var 6 (pv 6)) dp_none (dp_some (de_var 3 (pv 3)))) da_nil)) (de_fn (ok__law_due T) (hr.mono (by decide)) rfl T.f__law_due.g T.f__law_due.F.kp T.f__law_due.b tk (da_cons (de_var 5 (pv 5)) (da_cons (de_var 4 (pv 4)) (da_cons (de_sl (de_var 6 (pv 6)) dp_none (dp_some (de_var 3 (pv 3)))) da_nil)))) (nomark _))
        (dss_one (dst_ret de_bl))
        dss_nil)))
    (dss_cons (dst_for po rfl (di_range1 rfl T.b_range (da_cons de_int da_nil)) (dg_name 7 (pg_name (i := 7) sc_law.nd rfl (Or.inl rfl)))
      (dss_cons (dst_set 8 (ps_set (i := 8) sc_law.nd rfl (Or.inl rfl) (de_op od_mod (de_callTy cd_int rfl T.b_int (by decide +kernel) (da_cons (de_ix (de_var 1 (pv 1)) (de_op od_mod (de_op od_add (de_op od_add de_int (de_op od_mul de_int (de_var 7 (pv 7)))) (de_var 2 (pv 2))) de_int)) da_nil)) (de_callB cd_len rfl T.b_len (by decide +kernel) (da_cons (de_var 6 (pv 6)) da_nil)))))
      (dss_cons (dst_set 9 (ps_set (i := 9) sc_law.nd rfl (Or.inl rfl) (de_ix de_str (de_op od_mod (de_callTy cd_int rfl T.b_int (by decide +kernel) (da_cons (de_ix (de_var 1 (pv 1)) (de_op od_mod (de_op od_add (de_op od_add de_int (de_op od_mul de_int (de_var 7 (pv 7)))) (de_var 2 (pv 2))) de_int)) da_nil)) de_int))))
      (dss_cons (dst_set 10 (ps_set (i := 10) sc_law.nd rfl (Or.inl rfl) (de_op od_add (de_op od_add (de_sl (de_var 6 (pv 6)) dp_none (dp_some (de_var 8 (pv 8)))) (de_var 9 (pv 9))) (de_sl (de_var 6 (pv 6)) (dp_some (de_op od_add (de_var 8 (pv 8)) de_int)) dp_none))))
      (dss_cons (dst_if (dt_cmp (od_ne hu) (de_fn (ok_words_in T) (hr.mono (by decide)) rfl T.f_words_in.g T.f_words_in.F.kp T.f_words_in.b tk (da_cons (de_var 10 (pv 10)) da_nil)) (de_fn (ok__law_due T) (hr.mono (by decide)) rfl T.f__law_due.g T.f__law_due.F.kp T.f__law_due.b tk (da_cons (de_var 5 (pv 5)) (da_cons (de_var 4 (pv 4)) (da_cons (de_var 10 (pv 10)) da_nil)))) (nomark _))
        (dss_one (dst_ret de_bl))
        dss_nil)
      (dss_cons (dst_set 3 (ps_set (i := 3) sc_law.nd rfl (Or.inl rfl) (de_op od_mod (de_callTy cd_int rfl T.b_int (by decide +kernel) (da_cons (de_ix (de_var 1 (pv 1)) (de_op od_mod (de_op od_add (de_op od_add de_int (de_var 7 (pv 7))) (de_var 2 (pv 2))) de_int)) da_nil)) (de_callB cd_len rfl T.b_len (by decide +kernel) (da_cons (de_var 5 (pv 5)) da_nil)))))
      (dss_cons (dst_par 11 12 (ps_par (i := 11) (j := 12) rfl sc_law.nd rfl rfl (by decide) rfl rfl (pa_cons (de_op od_mod (de_callTy cd_int rfl T.b_int (by decide +kernel) (da_cons (de_ix (de_var 1 (pv 1)) (de_op od_mod (de_op od_add (de_op od_add de_int (de_var 7 (pv 7))) (de_var 2 (pv 2))) de_int)) da_nil)) (de_callB cd_len rfl T.b_len (by decide +kernel) (da_cons (de_ix (de_var 5 (pv 5)) (de_var 3 (pv 3))) da_nil))) (pa_cons (de_op od_mod (de_callTy cd_int rfl T.b_int (by decide +kernel) (da_cons (de_ix (de_var 1 (pv 1)) (de_op od_mod (de_op od_add (de_op od_add de_int (de_var 7 (pv 7))) (de_var 2 (pv 2))) de_int)) da_nil)) (de_callB cd_len rfl T.b_len (by decide +kernel) (da_cons (de_ix (de_var 5 (pv 5)) (de_var 3 (pv 3))) da_nil))) pa_nil)) (by rfl)))
      (dss_cons (dst_par 11 12 (ps_par (i := 11) (j := 12) rfl sc_law.nd rfl rfl (by decide) rfl rfl (pa_cons (de_callB (cd_min rfl) rfl T.b_min (by decide +kernel) (da_cons (de_var 11 (pv 11)) (da_cons (de_var 12 (pv 12)) da_nil))) (pa_cons (de_callB (cd_max rfl) rfl T.b_max (by decide +kernel) (da_cons (de_var 11 (pv 11)) (da_cons (de_var 12 (pv 12)) da_nil))) pa_nil)) (by rfl)))
      (dss_cons (dst_set 13 (ps_set (i := 13) sc_law.nd rfl (Or.inl rfl) (de_if (dt_cmp od_lt (de_var 11 (pv 11)) (de_var 12 (pv 12)) (nomark _)) (de_op od_add (de_op od_add (de_op od_add (de_op od_add (de_sl (de_ix (de_var 5 (pv 5)) (de_var 3 (pv 3))) dp_none (dp_some (de_var 11 (pv 11)))) (de_ix (de_ix (de_var 5 (pv 5)) (de_var 3 (pv 3))) (de_var 12 (pv 12)))) (de_sl (de_ix (de_var 5 (pv 5)) (de_var 3 (pv 3))) (dp_some (de_op od_add (de_var 11 (pv 11)) de_int)) (dp_some (de_var 12 (pv 12))))) (de_ix (de_ix (de_var 5 (pv 5)) (de_var 3 (pv 3))) (de_var 11 (pv 11)))) (de_sl (de_ix (de_var 5 (pv 5)) (de_var 3 (pv 3))) (dp_some (de_op od_add (de_var 12 (pv 12)) de_int)) dp_none)) (de_ix (de_var 5 (pv 5)) (de_var 3 (pv 3))))))
      (dss_cons (dst_set 10 (ps_set (i := 10) sc_law.nd rfl (Or.inl rfl) (de_op od_add (de_op od_add (de_sm PySem.F.plainAttrs_str PySem.F.slot_str_join PySem.F.type_str_join md_join de_str (da_cons (de_sl (de_var 5 (pv 5)) dp_none (dp_some (de_var 3 (pv 3)))) da_nil)) (de_var 13 (pv 13))) (de_sm PySem.F.plainAttrs_str PySem.F.slot_str_join PySem.F.type_str_join md_join de_str (da_cons (de_sl (de_var 5 (pv 5)) (dp_some (de_op od_add (de_var 3 (pv 3)) de_int)) dp_none) da_nil)))))
      (dss_one (dst_if (dt_cmp (od_ne hu) (de_fn (ok_words_in T) (hr.mono (by decide)) rfl T.f_words_in.g T.f_words_in.F.kp T.f_words_in.b tk (da_cons (de_var 10 (pv 10)) da_nil)) (de_fn (ok__law_due T) (hr.mono (by decide)) rfl T.f__law_due.g T.f__law_due.F.kp T.f__law_due.b tk (da_cons (de_var 5 (pv 5)) (da_cons (de_var 4 (pv 4)) (da_cons (de_var 10 (pv 10)) da_nil)))) (nomark _))
        (dss_one (dst_ret de_bl))
        dss_nil))))))))))))
    (dss_cons (dst_for po rfl (di_range1 rfl T.b_range (da_cons (de_callB cd_len rfl T.b_len (by decide +kernel) (da_cons (de_var 5 (pv 5)) da_nil)) da_nil)) (dg_name 3 (pg_name (i := 3) sc_law.nd rfl (Or.inl rfl)))
      (dss_cons (dst_for po rfl (di_range2 rfl T.b_range (da_cons (de_op od_add (de_var 3 (pv 3)) de_int) (da_cons (de_callB cd_len rfl T.b_len (by decide +kernel) (da_cons (de_var 5 (pv 5)) da_nil)) da_nil))) (dg_name 7 (pg_name (i := 7) sc_law.nd rfl (Or.inl rfl)))
        (dss_cons (dst_set 10 (ps_set (i := 10) sc_law.nd rfl (Or.inl rfl) (de_sm PySem.F.plainAttrs_str PySem.F.slot_str_join PySem.F.type_str_join md_join de_str (da_cons (de_op od_add (de_op od_add (de_op od_add (de_op od_add (de_sl (de_var 5 (pv 5)) dp_none (dp_some (de_var 3 (pv 3)))) (de_f (df_lst (da_cons (de_ix (de_var 5 (pv 5)) (de_var 7 (pv 7))) da_nil)))) (de_sl (de_var 5 (pv 5)) (dp_some (de_op od_add (de_var 3 (pv 3)) de_int)) (dp_some (de_var 7 (pv 7))))) (de_f (df_lst (da_cons (de_ix (de_var 5 (pv 5)) (de_var 3 (pv 3))) da_nil)))) (de_sl (de_var 5 (pv 5)) (dp_some (de_op od_add (de_var 7 (pv 7)) de_int)) dp_none)) da_nil))))
        (dss_one (dst_if (dt_cmp (od_ne hu) (de_fn (ok_words_in T) (hr.mono (by decide)) rfl T.f_words_in.g T.f_words_in.F.kp T.f_words_in.b tk (da_cons (de_var 10 (pv 10)) da_nil)) (de_tup (da_cons (de_sl (de_var 4 (pv 4)) dp_none (dp_some (de_var 3 (pv 3)))) (da_cons (de_callB cd_len rfl T.b_len (by decide +kernel) (da_cons (de_sm PySem.F.plainAttrs_str PySem.F.slot_str_join PySem.F.type_str_join md_join de_str (da_cons (de_sl (de_var 5 (pv 5)) dp_none (dp_some (de_var 3 (pv 3)))) da_nil)) da_nil)) da_nil))) (nomark _))
          (dss_one (dst_ret de_bl))
          dss_nil))))
      (dss_cons (dst_if (dt_cmp (od_ne hu) (de_fn (ok_words_in T) (hr.mono (by decide)) rfl T.f_words_in.g T.f_words_in.F.kp T.f_words_in.b tk (da_cons (de_sm PySem.F.plainAttrs_str PySem.F.slot_str_join PySem.F.type_str_join md_join de_str (da_cons (de_op od_add (de_sl (de_var 5 (pv 5)) dp_none (dp_some (de_op od_add (de_var 3 (pv 3)) de_int))) (de_sl (de_var 5 (pv 5)) (dp_some (de_var 3 (pv 3))) dp_none)) da_nil)) da_nil)) (de_tup (da_cons (de_sl (de_var 4 (pv 4)) dp_none (dp_some (de_op od_add (de_var 3 (pv 3)) de_int))) (da_cons (de_callB cd_len rfl T.b_len (by decide +kernel) (da_cons (de_sm PySem.F.plainAttrs_str PySem.F.slot_str_join PySem.F.type_str_join md_join de_str (da_cons (de_sl (de_var 5 (pv 5)) dp_none (dp_some (de_op od_add (de_var 3 (pv 3)) de_int))) da_nil)) da_nil)) da_nil))) (nomark _))
        (dss_one (dst_ret de_bl))
        dss_nil)
      (dss_one (dst_if (dt_w (dw_and (dt_cmp od_lt (de_var 3 (pv 3)) (de_op od_sub (de_callB cd_len rfl T.b_len (by decide +kernel) (da_cons (de_var 5 (pv 5)) da_nil)) de_int) (nomark _)) (dw_and1 (dt_cmp (od_ne hu) (de_fn (ok_words_in T) (hr.mono (by decide)) rfl T.f_words_in.g T.f_words_in.F.kp T.f_words_in.b tk (da_cons (de_sm PySem.F.plainAttrs_str PySem.F.slot_str_join PySem.F.type_str_join md_join de_str (da_cons (de_op od_add (de_sl (de_var 5 (pv 5)) dp_none (dp_some (de_var 3 (pv 3)))) (de_sl (de_var 5 (pv 5)) (dp_some (de_op od_add (de_var 3 (pv 3)) de_int)) dp_none)) da_nil)) da_nil)) (de_tup (da_cons (de_sl (de_var 4 (pv 4)) dp_none (dp_some (de_var 3 (pv 3)))) (da_cons (de_callB cd_len rfl T.b_len (by decide +kernel) (da_cons (de_sm PySem.F.plainAttrs_str PySem.F.slot_str_join PySem.F.type_str_join md_join de_str (da_cons (de_sl (de_var 5 (pv 5)) dp_none (dp_some (de_var 3 (pv 3)))) da_nil)) da_nil)) da_nil))) (nomark _)))))
        (dss_one (dst_ret de_bl))
        dss_nil)))))
    (dss_one (dst_for po rfl (di_any (de_f (df_lst (da_cons (de_op od_add (de_op od_add de_str (de_ix (de_var 4 (pv 4)) de_int)) de_str) (da_cons (de_op od_add de_str (de_ix (de_var 4 (pv 4)) de_int)) (da_cons (de_op od_add (de_op od_add de_str (de_ix (de_var 4 (pv 4)) de_int)) de_str) (da_cons de_str (da_cons (de_op od_add (de_op od_add de_str (de_ix (de_var 4 (pv 4)) de_int)) de_str) (da_cons (de_op od_add (de_op od_add de_str (de_ix (de_var 4 (pv 4)) de_int)) de_str) (da_cons (de_op od_add (de_op od_add de_str (de_ix (de_var 4 (pv 4)) de_int)) de_str) da_nil)))))))))) (dg_name 14 (pg_name (i := 14) sc_law.nd rfl (Or.inr rfl)))
      (dss_cons (dst_set 15 (ps_set (i := 15) sc_law.nd rfl (Or.inl rfl) (de_op od_add (de_op od_add (de_op od_add (de_var 14 (pv 14)) de_str) (de_sm PySem.F.plainAttrs_str PySem.F.slot_str_join PySem.F.type_str_join md_join de_str (da_cons (de_f (df_lc (own := [("size", 17)]) rfl sc_law.nd (di_any (de_f (df_lst (da_cons de_int (da_cons de_int (da_cons de_int (da_cons de_int (da_cons de_int da_nil)))))))) (blkOk_by (N := N_law) (sc := defScope s_law) (by decide +kernel)) (by decide) (fun _ _ _ _ _ => (dg_name 17 (pg_name (i := 17) sc_law.nd rfl (Or.inl rfl)))) (fun _ _ _ _ _ => dts_nil) (fun _ _ _ _ _ => (de_sl (de_callTy cd_str rfl T.b_str (by decide +kernel) (da_cons (de_op od_fdiv (de_fn (ok__law_sum T) (hr.mono (by decide)) rfl T.f__law_sum.g T.f__law_sum.F.kp T.f__law_sum.b takes0 (da_cons de_int (da_cons (de_var 14 (pv 14)) da_nil))) (de_var 17 (pv 17))) da_nil)) (dp_some (de_neg de_int)) dp_none)))) da_nil))) de_str)))
      (dss_one (dst_if (dt_w (dw_and (dt_cmp (od_ne hu) (de_fn (ok_words_in T) (hr.mono (by decide)) rfl T.f_words_in.g T.f_words_in.F.kp T.f_words_in.b tk (da_cons (de_var 15 (pv 15)) da_nil)) (de_tup (da_cons (de_tup da_nil) (da_cons de_int da_nil))) (nomark _)) (dw_and1 (dt_w (dw_or (dt_cmp (od_ne hu) (de_var 14 (pv 14)) (de_op od_add de_str (de_ix (de_var 4 (pv 4)) de_int)) (nomark _)) (dw_or (dt_cmp (od_ne hu) (de_sl (de_ix (de_var 4 (pv 4)) de_int) (dp_some (de_neg de_int)) dp_none) de_str (nomark _)) (dw_or1 (dt_cmp od_lt (de_callB cd_len rfl T.b_len (by decide +kernel) (da_cons (de_ix (de_var 4 (pv 4)) de_int) da_nil)) de_int (nomark _)))))))))
        (dss_one (dst_ret de_bl))
        dss_nil)))))))))))))
  (dss_cons (dst_for po rfl (di_any (de_f (df_lst (da_cons de_non (da_cons de_str (da_cons (de_f (df_lst (da_cons de_str da_nil))) (da_cons (de_tup (da_cons de_str da_nil)) (da_cons (de_tup (da_cons de_str da_nil)) (da_cons (de_tup (da_cons de_str da_nil)) (da_cons (de_tup (da_cons de_str da_nil)) (da_cons (de_tup (da_cons de_non da_nil)) (da_cons (de_tup (da_cons (de_op od_mul de_str de_int) da_nil)) da_nil)))))))))))) (dg_name 16 (pg_name (i := 16) sc_law.nd rfl (Or.inl rfl)))
    (dss_one (dst_if (dt_cmp (od_ne hu) (de_fn (ok__law_word T) (hr.mono (by decide)) rfl T.f__law_word.g T.f__law_word.F.kp T.f__law_word.b tk (da_cons de_int (da_cons (de_var 16 (pv 16)) da_nil))) de_str (nomark _))
      (dss_one (dst_ret de_bl))
      dss_nil)))
  (dss_cons (dst_if (dt_w (dw_or (dt_cmp (od_ne hu) (de_f (df_lc (own := [("wrong", 16)]) rfl sc_law.nd (di_any (de_f (df_lst (da_cons de_non (da_cons de_int (da_cons (de_tup (da_cons de_str da_nil)) da_nil)))))) (blkOk_by (N := N_law) (sc := defScope s_law) (by decide +kernel)) (by decide) (fun _ _ _ _ _ => (dg_name 16 (pg_name (i := 16) sc_law.nd rfl (Or.inl rfl)))) (fun _ _ _ _ _ => dts_nil) (fun _ _ _ _ _ => (de_fn (ok__law_word T) (hr.mono (by decide)) rfl T.f__law_word.g T.f__law_word.F.kp T.f__law_word.b takes0 (da_cons de_int (da_cons (de_var 16 (pv 16)) da_nil)))))) (de_op od_mul (de_f (df_lst (da_cons de_str da_nil))) de_int) (nomark _)) (dw_or (dt_cmp (od_ne hu) (de_fn (ok_leaves_of T) (hr.mono (by decide)) rfl T.f_leaves_of.g T.f_leaves_of.F.kp T.f_leaves_of.b tk (da_cons (de_tup da_nil) da_nil)) de_str (nomark _)) (dw_or1 (dt_cmp (od_ne hu) (de_fn (ok_words_in T) (hr.mono (by decide)) rfl T.f_words_in.g T.f_words_in.F.kp T.f_words_in.b tk (da_cons de_str da_nil)) (de_tup (da_cons (de_tup da_nil) (da_cons de_int da_nil))) (nomark _))))))
    (dss_one (dst_ret de_bl))
    dss_nil)
  (dss_one (dst_ret (de_and (de_cmp (od_eq hu) (de_fn (ok_words_in T) (hr.mono (by decide)) rfl T.f_words_in.g T.f_words_in.F.kp T.f_words_in.b tk (da_cons (de_fn (ok_leaves_of T) (hr.mono (by decide)) rfl T.f_leaves_of.g T.f_leaves_of.F.kp T.f_leaves_of.b tk (da_cons (de_tup (da_cons (de_op od_mul de_str de_int) da_nil)) da_nil)) da_nil)) (de_tup (da_cons (de_tup (da_cons (de_op od_mul de_str de_int) da_nil)) (da_cons de_int da_nil))) (nomark _)) (de_one (de_cmp (od_eq hu) (de_fn (ok_words_in T) (hr.mono (by decide)) rfl T.f_words_in.g T.f_words_in.F.kp T.f_words_in.b tk (da_cons de_str da_nil)) (de_tup (da_cons (de_tup da_nil) (da_cons de_int da_nil))) (nomark _))))))))))
end Pg

set_option maxRecDepth 100000
set_option maxHeartbeats 2000000
namespace Pg
open PySem PySem.Spec PyProof.Rows L2 DL

/-- the signs -/
def sigs : List Nat := [97,98,99,100,101,102,103,104,105,106,107,108,109,110,111,112,113,114,115,116,117,118,119,120,121,122,48,49,50,51,52,53,54,55,56,57,40,41,43,45,42,60,61,44,58,59,32]
theorem lit_sigs : ("abcdefghijklmnopqrstuvwxyz0123456789()+-*<=,:; " : Str) = S sigs := id rfl
theorem lit_sp : (" " : Str) = S [32] := id rfl
theorem lit_ha : ("#" : Str) = S [35] := id rfl
theorem lit_nl : ("\n" : Str) = S [10] := id rfl
theorem lit_0 : ("0" : Str) = S [48] := id rfl
theorem lit_e : ("" : Str) = S [] := id rfl
def wordOK (w : List Nat) : Prop := w ≠ [] ∧ w.length ≤ 20000 ∧ ∀ c ∈ w, c ∈ sigs
instance (w : List Nat) : Decidable (wordOK w) := inferInstanceAs (Decidable (w ≠ [] ∧ w.length ≤ 20000 ∧ ∀ c ∈ w, c ∈ sigs))
theorem v_are_words (w : List Nat) (h : w.length ≤ 100000) : F_are_words [.val (.str (S w))] = .ok (.bool (decide (wordOK w))) := by
  have hl : lim = 16000000 := rfl
  unfold F_are_words
  unfold d_are_words
  have e : lcGo (lcStep (gN 1) dYes (dOp pIn (dVar 1) (dC (.str (S sigs)))) (wipeD [Sl.val (PyData.str (S w)), .nil] [1])) (w.map fun c => PyData.str (S [c])) = .ok (w.map fun c => PyData.bool (decide (c ∈ sigs))) := by
    refine lcGo_map w fun c hc => ?_
    simp [pIn_S]
  simp only [wipe_cons, wipe_nil, List.set_cons_succ, List.set_cons_zero] at e
  by_cases h0 : 1 ≤ w.length
  · by_cases h1 : w.length ≤ 20000
    · have i0 : (1 : Int) ≤ (w.length : Int) := by omega
      have i1 : (w.length : Int) ≤ 20000 := by omega
      have i2 : w.length ≤ lim := by omega
      have ne : w ≠ [] := by intro z; subst z; simp at h0
      simp [runD, lit_sigs, isTy, tyName, pLen_S i2, i0, i1, i2, e, pAll_map, wordOK, ne, h1]
      exact Bool.eq_iff_iff.mpr (by simp)
    · have i0 : (1 : Int) ≤ (w.length : Int) := by omega
      have i1 : ¬ (w.length : Int) ≤ 20000 := by omega
      have i2 : w.length ≤ lim := by omega
      simp [runD, lit_sigs, isTy, tyName, pLen_S i2, i0, i1, wordOK, h1]
  · have ne : w = [] := by
      cases w with
      | nil => rfl
      | cons a r => simp at h0
    subst ne
    simp [runD, lit_sigs, isTy, tyName, pLen_S (show ([] : List Nat).length ≤ lim from by decide), wordOK]

/-! ### sums -/
def ixs (c : Nat) : Nat := sigs.idxOf c
def wsum : Nat → List Nat → Nat
  | _, [] => 0
  | k, c :: l => (k + 1) * (ixs c + 1) + wsum (k + 1) l
theorem wsum_app : ∀ (a b : List Nat) (k : Nat), wsum k (a ++ b) = wsum k a + wsum (k + a.length) b
  | [], b, k => by simp [wsum]
  | c :: a, b, k => by
    have ih := wsum_app a b (k + 1)
    show (k + 1) * (ixs c + 1) + wsum (k + 1) (a ++ b) = _
    rw [ih]
    show _ = (k + 1) * (ixs c + 1) + wsum (k + 1) a + wsum (k + (a.length + 1)) b
    rw [show k + (a.length + 1) = k + 1 + a.length from by omega]
    omega
def sumN (a : Nat) (l : List Nat) : Nat := (11 * a + wsum 0 l) % 99989
theorem sumN_lt (a : Nat) (l : List Nat) : sumN a l < 99989 := Nat.mod_lt _ (by decide)
theorem ix_all : sigs.all (fun c => nextIx c sigs 0 == some (ixs c)) = true := by decide +kernel
theorem ix_at {c : Nat} (h : c ∈ sigs) : pIndex (.str (S sigs)) [.str (S [c])] = some (.int (ixs c : Int)) := by
  have e := List.all_eq_true.mp ix_all c h
  show (Txt.index0 (S sigs) (S [c])).map (fun (n : Nat) => PyData.int (n : Int)) = _
  rw [index0_S, eq_of_beq e]
  rfl
theorem wsum_take {w : List Nat} {i c : Nat} (hc : w[i]? = some c) : wsum 0 (w.take (i + 1)) = wsum 0 (w.take i) + (i + 1) * (ixs c + 1) := by
  rw [List.take_add_one, hc, wsum_app]
  have hi : i < w.length := by
    by_cases q : i < w.length
    · exact q
    · rw [List.getElem?_eq_none (by omega)] at hc; cases hc
  rw [List.length_take, Nat.min_eq_left (by omega)]
  simp [wsum]
theorem mul_11 (a : Nat) : pMul (.int 11) (.int (a : Int)) = some (.int ((11 * a : Nat) : Int)) := pMul_nat (a := 11) (b := a) (Or.inl (by decide))
def sumB : DS → Res := dAug 2 pAddI (dOp pMul (dOp pAdd (dVar 3) (dC (.int 1))) (dOp pAdd (dSM pIndex (dC (.str (S sigs))) (dCons (dVar 4) dNil)) (dC (.int 1))))
theorem sumB_at {a c : Nat} {i : Nat} {w : List Nat} {n : Nat} (hcs : c ∈ sigs) : sumB [.val (.int (a : Int)), .val (.str (S w)), .val (.int (n : Int)), .val (.int (i : Int)), .val (.str (S [c]))] = .nx [.val (.int (a : Int)), .val (.str (S w)), .val (.int ((n + (i + 1) * (ixs c + 1) : Nat) : Int)), .val (.int (i : Int)), .val (.str (S [c]))] := by
  have hx : ixs c ≤ 47 := List.idxOf_le_length
  have hmul : pMul (.int ((i : Int) + 1)) (.int ((ixs c : Int) + 1)) = some (.int (((i + 1) * (ixs c + 1) : Nat) : Int)) := pMul_nat1 (by omega)
  unfold sumB
  simp [ix_at hcs, hmul]
theorem sumB_for (a : Nat) (w : List Nat) (h : ∀ c ∈ w, c ∈ sigs) : ∃ x y, forD (gT 2 (gsC (gN 3) (gsC (gN 4) gsN))) sumB (enumD (w.map fun c => .str (S [c]))) [Sl.val (.int (a : Int)), .val (.str (S w)), .val (.int ((11 * a : Nat) : Int)), .nil, .nil] = .nx [.val (.int (a : Int)), .val (.str (S w)), .val (.int ((11 * a + wsum 0 w : Nat) : Int)), x, y] := by
  obtain ⟨σ', h1, x, y, rfl⟩ := forD_inv (k := gT 2 (gsC (gN 3) (gsC (gN 4) gsN))) (r := sumB)
    (fun i σ => ∃ x y, σ = [Sl.val (.int (a : Int)), .val (.str (S w)), .val (.int ((11 * a + wsum 0 (w.take i) : Nat) : Int)), x, y]) (enumD (w.map fun c => .str (S [c]))) 0 [Sl.val (.int (a : Int)), .val (.str (S w)), .val (.int ((11 * a : Nat) : Int)), .nil, .nil] ⟨.nil, .nil, by simp [wsum]⟩ (by
      rintro i d σ hd ⟨x, y, rfl⟩
      obtain ⟨e, he, rfl⟩ := enumD_get hd
      rw [List.getElem?_map, Option.map_eq_some_iff] at he
      obtain ⟨c, hc, rfl⟩ := he
      refine ⟨_, rfl, _, sumB_at (h c (List.mem_of_getElem? hc)), .val (.int (i : Int)), .val (.str (S [c])), ?_⟩
      rw [Nat.zero_add, wsum_take hc, Nat.add_assoc])
  have hr : 0 + (enumD (w.map fun c => PyData.str (S [c]))).length = w.length := by simp [enumD]
  rw [hr, List.take_length] at h1
  exact ⟨x, y, h1⟩
theorem v_sum_by (a : Nat) (w : List Nat) (h : ∀ c ∈ w, c ∈ sigs) : F_sum_by [.val (.int (a : Int)), .val (.str (S w))] = .ok (.int (sumN a w : Int)) := by
  unfold F_sum_by
  unfold d_sum_by
  obtain ⟨x, y, h1⟩ := sumB_for a w h
  unfold sumB at h1
  have hm : pMod (.int ((11 * a + wsum 0 w : Nat) : Int)) (.int 99989) = some (.int (sumN a w : Int)) := pMod_nat (b := 99989) (by decide)
  simp only [runD, lit_sigs, List.length_cons, List.length_nil, dSeqS_at, dSet_at, dOp_at, dC_at, dVar_0, dVar_s, mul_11, Out.ok_bind, Out.opt_some, Res.of_ok, List.set_cons_succ, List.set_cons_zero, List.cons_append, List.nil_append, List.replicate, dFor_at, dEnum_at, itemsD_S, h1, dRet_at, hm]
  rfl
end Pg

set_option maxRecDepth 100000
set_option maxHeartbeats 2000000
namespace Pg
open PySem PySem.Spec PyProof.Rows L2 DL

/-! ### leaves -/
def tail5 (s : Nat) : List Nat := List.replicate (5 - (dig s).length) 48 ++ dig s
def headL (n : Nat) (w : List Nat) : List Nat := dig n ++ 32 :: (w ++ [32])
def lineL (a n : Nat) (w : List Nat) : List Nat := headL n w ++ 35 :: tail5 (sumN a (headL n w))
def leafT (a n : Nat) (w : List Nat) : List Nat := lineL a n w ++ [10]
def leafs : Nat → Nat → List (List Nat) → List (List Nat)
  | _, _, [] => []
  | a, n, w :: ws => leafT a n w :: leafs (sumN a (headL n w)) (n + 1) ws
def lastA : Nat → Nat → List (List Nat) → Nat
  | a, _, [] => a
  | a, n, w :: ws => lastA (sumN a (headL n w)) (n + 1) ws
theorem leafs_app : ∀ (xs ys : List (List Nat)) (a n : Nat), leafs a n (xs ++ ys) = leafs a n xs ++ leafs (lastA a n xs) (n + xs.length) ys
  | [], ys, a, n => rfl
  | x :: xs, ys, a, n => by
    have ih := leafs_app xs ys (sumN a (headL n x)) (n + 1)
    show leafT a n x :: leafs _ _ (xs ++ ys) = _
    rw [ih]
    show _ = leafT a n x :: (leafs _ _ xs ++ leafs _ (n + (xs.length + 1)) ys)
    rw [show n + (xs.length + 1) = n + 1 + xs.length from by omega]
    rfl
theorem lastA_app : ∀ (xs ys : List (List Nat)) (a n : Nat), lastA a n (xs ++ ys) = lastA (lastA a n xs) (n + xs.length) ys
  | [], ys, a, n => rfl
  | x :: xs, ys, a, n => by
    have ih := lastA_app xs ys (sumN a (headL n x)) (n + 1)
    show lastA _ _ (xs ++ ys) = lastA _ (n + (xs.length + 1)) ys
    rw [ih, show n + (xs.length + 1) = n + 1 + xs.length from by omega]
    rfl
theorem leafs_len : ∀ (xs : List (List Nat)) (a n : Nat), (leafs a n xs).length = xs.length
  | [], _, _ => rfl
  | x :: xs, a, n => by
    show (leafs _ _ xs).length + 1 = _
    rw [leafs_len xs]
    rfl
theorem dig_sigs {n c : Nat} (h : c ∈ dig n) : 48 ≤ c ∧ c ≤ 57 := by
  by_cases q : c < 48 ∨ 57 < c
  · exact absurd h (TL.numL_free q)
  · omega
theorem digit_sigs : ∀ c, 48 ≤ c → c ≤ 57 → c ∈ sigs := by
  intro c h1 h2
  have : ∀ k : Fin 10, 48 + k.val ∈ sigs := by decide
  have := this ⟨c - 48, by omega⟩
  rwa [show 48 + (c - 48) = c from by omega] at this
theorem sp_sigs : 32 ∈ sigs := by decide
theorem head_sigs {n : Nat} {w : List Nat} (h : ∀ c ∈ w, c ∈ sigs) : ∀ c ∈ headL n w, c ∈ sigs := by
  intro c hc
  unfold headL at hc
  simp only [List.mem_append, List.mem_cons, List.not_mem_nil, or_false] at hc
  rcases hc with hc | hc | hc | hc
  · have := dig_sigs hc
    exact digit_sigs c this.1 this.2
  · rw [hc]; exact sp_sigs
  · exact h c hc
  · rw [hc]; exact sp_sigs
theorem dig_len {n : Nat} (h : n < 2 ^ 64) : (dig n).length ≤ 20 := TL.numL_len (by decide) (Nat.lt_of_lt_of_le h (by decide))
theorem dig_len5 {n : Nat} (h : n < 99989) : (dig n).length ≤ 5 := TL.numL_len (by decide) (by omega)
theorem tail5_len {s : Nat} (h : s < 99989) : (tail5 s).length = 5 := by
  unfold tail5
  have := dig_len5 h
  rw [List.length_append, List.length_replicate]
  omega
theorem head_len (n : Nat) (w : List Nat) : (headL n w).length = (dig n).length + w.length + 2 := by
  unfold headL
  simp
  omega
theorem line_len (a n : Nat) (w : List Nat) : (lineL a n w).length = (headL n w).length + 6 := by
  unfold lineL
  rw [List.length_append, List.length_cons, tail5_len (sumN_lt _ _)]
theorem leaf_len (a n : Nat) (w : List Nat) : (leafT a n w).length = (headL n w).length + 7 := by
  unfold leafT
  rw [List.length_append, line_len]
  rfl
theorem rjust5 {s : Nat} (h : s < 99989) : pRjust (.str (S (dig s))) [.int 5, .str (S [48])] = some (.str (S (tail5 s))) := by
  have e : Txt.rjustF (S (dig s)) ((5 : Nat) : Int) 48 = S (tail5 s) := rjustF_S (dig s) 5 48 (dig_len5 h)
  show (if PadOk 5 && decide ((S [48]).length = 1) then some (PyData.str (Txt.rjustF (S (dig s)) 5 ((S [48]).cps.getD 0 0))) else none) = _
  rw [if_pos (by decide)]
  exact congrArg (fun z => some (PyData.str z)) e
theorem v_leaf_by (a n : Nat) (w : List Nat) (hn : n < 2 ^ 64) (hl : w.length ≤ 100000) (h : ∀ c ∈ w, c ∈ sigs) : F_leaf_by [.val (.int (a : Int)), .val (.int (n : Int)), .val (.str (S w))] = .ok (.tuple [.str (S (leafT a n w)), .int (sumN a (headL n w) : Int)]) := by
  have hlim : lim = 16000000 := rfl
  have l1 := dig_len hn
  have l2 := head_len n w
  have hs := v_sum_by a (headL n w) (head_sigs h)
  have q1 : pAdd (.str (S (dig n))) (.str (S [32])) = some (.str (S (dig n ++ [32]))) := pAdd_S (by simp; omega)
  have q2 : pAdd (.str (S (dig n ++ [32]))) (.str (S w)) = some (.str (S (dig n ++ 32 :: w))) := by
    rw [pAdd_S (by simp; omega)]
    simp
  have q3 : pAdd (.str (S (dig n ++ 32 :: w))) (.str (S [32])) = some (.str (S (headL n w))) := by
    rw [pAdd_S (by simp; omega)]
    unfold headL
    simp
  have q4 : pAdd (.str (S (headL n w))) (.str (S [35])) = some (.str (S (headL n w ++ [35]))) := pAdd_S (by simp; omega)
  have q5 : pAdd (.str (S (headL n w ++ [35]))) (.str (S (tail5 (sumN a (headL n w))))) = some (.str (S (lineL a n w))) := by
    rw [pAdd_S (by rw [tail5_len (sumN_lt _ _)]; simp; omega)]
    unfold lineL
    simp
  have q6 : pAdd (.str (S (lineL a n w))) (.str (S [10])) = some (.str (S (leafT a n w))) := pAdd_S (by rw [line_len]; simp; omega)
  have q7 : pStr [.int (sumN a (headL n w) : Int)] = some (.str (S (dig (sumN a (headL n w))))) := pStr_nat (by have := sumN_lt a (headL n w); omega)
  unfold F_leaf_by
  unfold d_leaf_by
  simp [runD, lit_sp, lit_ha, lit_0, lit_nl, pStr_nat hn, q1, q2, q3, q4, q5, q6, q7, hs, rjust5 (sumN_lt _ _), hlim]
def strD (w : List Nat) : D := .str (S w)
theorem flat_take_le (ls : List (List Nat)) (i : Nat) : (ls.take i).flatten.length ≤ ls.flatten.length := by
  have := List.take_append_drop i ls
  have h2 : ls.flatten.length = (ls.take i).flatten.length + (ls.drop i).flatten.length := by
    rw [← List.length_append, ← List.flatten_append, this]
  omega
theorem leafs_take : ∀ (ws : List (List Nat)) (i a n : Nat), leafs a n (ws.take i) = (leafs a n ws).take i
  | [], i, a, n => by simp [leafs]
  | w :: ws, 0, a, n => by simp [leafs]
  | w :: ws, i + 1, a, n => by
    have ih := leafs_take ws i (sumN a (headL n w)) (n + 1)
    show leafT a n w :: leafs _ _ (ws.take i) = leafT a n w :: (leafs _ _ ws).take i
    rw [ih]
def wordsOK (ws : List (List Nat)) : Prop := ∀ w ∈ ws, wordOK w
def leavesB : DS → Res := (dSeqS (dAsg (dFn F_leaf_by (dCons (dVar 2) (dCons (dOp pAdd (dVar 3) (dC (.int 1))) (dCons (dVar 4) dNil)))) (gT 2 (gsC (gN 5) (gsC (gN 2) gsN))))
    (dAug 1 pAddI (dVar 5)))
theorem leavesB_for (ws : List (List Nat)) (h : wordsOK ws) (hl : (leafs 0 1 ws).flatten.length ≤ 100000) (hn : ws.length < 2 ^ 60) : ∃ x y z, forD (gT 2 (gsC (gN 3) (gsC (gN 4) gsN))) leavesB (enumD (ws.map strD)) [Sl.val (.tuple (ws.map strD)), .val (.str (S [])), .val (.int 0), .nil, .nil, .nil] = .nx [Sl.val (.tuple (ws.map strD)), .val (.str (S (leafs 0 1 ws).flatten)), .val (.int (lastA 0 1 ws : Int)), x, y, z] := by
  have hlim : lim = 16000000 := rfl
  obtain ⟨σ', h1, x, y, z, rfl⟩ := forD_inv (k := gT 2 (gsC (gN 3) (gsC (gN 4) gsN))) (r := leavesB)
    (fun i σ => ∃ x y z, σ = [Sl.val (.tuple (ws.map strD)), .val (.str (S (leafs 0 1 (ws.take i)).flatten)), .val (.int (lastA 0 1 (ws.take i) : Int)), x, y, z]) (enumD (ws.map strD)) 0 [Sl.val (.tuple (ws.map strD)), .val (.str (S [])), .val (.int 0), .nil, .nil, .nil] ⟨.nil, .nil, .nil, by simp [leafs, lastA]⟩ (by
      rintro i d σ hd ⟨x, y, z, rfl⟩
      obtain ⟨e, he, rfl⟩ := enumD_get hd
      rw [List.getElem?_map, Option.map_eq_some_iff] at he
      obtain ⟨w, hw, rfl⟩ := he
      rw [Nat.zero_add]
      have hi : i < ws.length := by
        by_cases q : i < ws.length
        · exact q
        · rw [List.getElem?_eq_none (by omega)] at hw; cases hw
      have ok := h w (List.mem_of_getElem? hw)
      have v := v_leaf_by (lastA 0 1 (ws.take i)) (i + 1) w (by omega) (by have := ok.2.1; omega) ok.2.2
      have ht : ws.take (i + 1) = ws.take i ++ [w] := by rw [List.take_add_one, hw]; rfl
      have hlen : (ws.take i).length = i := by rw [List.length_take]; omega
      have e1 : leafs 0 1 (ws.take (i + 1)) = leafs 0 1 (ws.take i) ++ [leafT (lastA 0 1 (ws.take i)) (i + 1) w] := by
        rw [ht, leafs_app, hlen, Nat.add_comm 1 i]
        rfl
      have e2 : lastA 0 1 (ws.take (i + 1)) = sumN (lastA 0 1 (ws.take i)) (headL (i + 1) w) := by
        rw [ht, lastA_app, hlen, Nat.add_comm 1 i]
        rfl
      have b1 : (leafs 0 1 (ws.take (i + 1))).flatten.length ≤ 100000 := by
        rw [leafs_take]
        have := flat_take_le (leafs 0 1 ws) (i + 1)
        omega
      have q : pAddI (.str (S (leafs 0 1 (ws.take i)).flatten)) (.str (S (leafT (lastA 0 1 (ws.take i)) (i + 1) w))) = some (.str (S (leafs 0 1 (ws.take (i + 1))).flatten)) := by
        rw [e1] at b1 ⊢
        rw [List.flatten_append, List.length_append] at b1
        rw [pAddI_S (by simp only [List.flatten_cons, List.flatten_nil, List.append_nil] at b1; omega)]
        simp
      rw [Int.natCast_add i 1] at v
      refine ⟨_, rfl, [Sl.val (.tuple (ws.map strD)), .val (.str (S (leafs 0 1 (ws.take (i + 1))).flatten)), .val (.int (lastA 0 1 (ws.take (i + 1)) : Int)), .val (.int (i : Int)), .val (strD w), .val (.str (S (leafT (lastA 0 1 (ws.take i)) (i + 1) w)))], ?_, _, _, _, rfl⟩
      rw [e2]
      have v' : F_leaf_by [Sl.val (PyData.int (lastA 0 1 (ws.take i) : Int)), Sl.val (PyData.int ((i : Int) + 1)), Sl.val (strD w)] = _ := v
      unfold leavesB
      simp [v', q])
  have hr : 0 + (enumD (ws.map strD)).length = ws.length := by simp [enumD]
  rw [hr, List.take_length] at h1
  exact ⟨x, y, z, h1⟩
theorem v_leaves_by (ws : List (List Nat)) (h : wordsOK ws) (hl : (leafs 0 1 ws).flatten.length ≤ 100000) (hn : ws.length < 2 ^ 60) : F_leaves_by [.val (.tuple (ws.map strD))] = .ok (.str (S (leafs 0 1 ws).flatten)) := by
  unfold F_leaves_by
  unfold d_leaves_by
  obtain ⟨x, y, z, h1⟩ := leavesB_for ws h hl hn
  unfold leavesB at h1
  simp [runD, lit_e, h1, lim]
theorem v_all_words (ws : List (List Nat)) (hl : ∀ w ∈ ws, w.length ≤ 100000) (σ : DS) (hσ : σ.length = 2) (hw : ws.length ≤ lim) : lcGo (lcStep (gN 1) dYes (dFn F_are_words (dCons (dVar 1) dNil)) σ) (ws.map strD) = .ok (ws.map fun w => PyData.bool (decide (wordOK w))) := by
  obtain ⟨x, y, rfl⟩ : ∃ x y, σ = [x, y] := by
    match σ, hσ with
    | [x, y], _ => exact ⟨x, y, rfl⟩
  refine lcGo_map ws fun w hc => ?_
  simp [strD, v_are_words w (hl w hc)]
theorem v_leaves_of (ws : List (List Nat)) (h : wordsOK ws) (hl : (leafs 0 1 ws).flatten.length ≤ 100000) (hn : ws.length ≤ 99999) : F_leaves_of [.val (.tuple (ws.map strD))] = .ok (.str (S (leafs 0 1 ws).flatten)) := by
  unfold F_leaves_of
  unfold d_leaves_of
  have e := v_all_words ws (fun w hw => Nat.le_trans (h w hw).2.1 (by decide)) [Sl.val (.tuple (ws.map strD)), .nil] rfl (Nat.le_trans hn (by decide))
  have ha : ws.all (fun w => decide (wordOK w)) = true := List.all_eq_true.mpr fun w hw => decide_eq_true (h w hw)
  have hw : ws.length ≤ lim := Nat.le_trans hn (by decide)
  have hi : ¬ (99999 : Int) < (ws.length : Int) := by omega
  simp [runD, isTy, tyName, e, pAll_map, ha, hw, hi, v_leaves_by ws h hl (by omega)]
end Pg

set_option maxRecDepth 100000
set_option maxHeartbeats 2000000
namespace Pg
open PySem PySem.Spec PyProof.Rows L2 DL

/-! ### rows -/
theorem cut_b6 (l : List Nat) : cutG l none (some (-6)) = l.take (l.length - 6) := cutG_but l 6 (by decide)
theorem cut_e6 (l : List Nat) : cutG l (some (-6)) none = l.drop (l.length - 6) := cutG_end l 6 (by decide)
theorem cut_t1 (l : List Nat) : cutG l none (some 1) = l.take 1 := cutG_take l 1
theorem cut_d1 (l : List Nat) : cutG l (some 1) none = l.drop 1 := cutG_drop l 1
theorem cut_e1 (l : List Nat) : cutG l (some (-1)) none = l.drop (l.length - 1) := cutG_end l 1 (by decide)
theorem cut_m1 (l : List Nat) (i : Nat) (h : i ≤ l.length) : cutG l (some (i : Int)) (some (-1)) = (l.drop i).take (l.length - 1 - i) := cutG_mid_but l i 1 (by decide) h
def rowOk (a n : Nat) (w line : List Nat) : Prop := wordOK w ∧ line = lineL a n w
theorem v_row_gen (a n : Nat) (line : List Nat) (hn : n < 2 ^ 64) (hl : line.length ≤ 100000) :
    (∃ w, rowOk a n w line ∧ F__row [.val (.int (a : Int)), .val (.int (n : Int)), .val (.str (S line))] = .ok (.tuple [strD w, .int (sumN a (headL n w) : Int)])) ∨
    ((∀ w, ¬ rowOk a n w line) ∧ F__row [.val (.int (a : Int)), .val (.int (n : Int)), .val (.str (S line))] = .ok .none) := by
  have hlim : lim = 16000000 := rfl
  have l1 := dig_len hn
  have hl' : line.length ≤ lim := by omega
  have q1 : pAdd (.str (S (dig n))) (.str (S [32])) = some (.str (S (dig n ++ [32]))) := pAdd_S (by simp; omega)
  generalize hb : line.take (line.length - 6) = body
  generalize ht : line.drop (line.length - 6) = tail
  generalize hs : dig n ++ [32] = st at q1
  have lb : body.length ≤ 100000 := by rw [← hb, List.length_take]; omega
  have lt : tail.length ≤ 100000 := by rw [← ht, List.length_drop]; omega
  have ls : st.length ≤ 21 := by rw [← hs]; simp; omega
  have lb' : body.length ≤ lim := by omega
  have lt' : tail.length ≤ lim := by omega
  have ls' : st.length ≤ lim := by omega
  have shape : ∀ w, rowOk a n w line → body = st ++ w ++ [32] ∧ tail = 35 :: tail5 (sumN a (headL n w)) := by
    rintro w ⟨h1, h2⟩
    have e1 : line.length - 6 = (headL n w).length := by rw [h2, line_len]; omega
    refine ⟨?_, ?_⟩
    · rw [← hb, e1, h2]
      unfold lineL
      rw [List.take_left, ← hs]
      unfold headL
      simp
    · rw [← ht, e1, h2]
      unfold lineL
      rw [List.drop_left]
  have c_st : cutG body none (some (st.length : Int)) = body.take st.length := cutG_take body st.length
  unfold F__row
  unfold d__row
  by_cases k1 : tail.take 1 = [35]
  case neg =>
    right
    refine ⟨fun w hw => k1 (by rw [(shape w hw).2]; rfl), ?_⟩
    simp [runD, lit_sp, lit_ha, lit_0, pStr_nat hn, q1, hs, pSl_S hl', pSl_S lt', pSl_S lb', pLen_S lb', pLen_S ls', cut_b6, cut_e6, cut_t1, cut_d1, cut_e1, hb, ht, k1]
  by_cases k2 : body.take st.length = st
  case neg =>
    right
    refine ⟨fun w hw => k2 (by rw [(shape w hw).1]; simp), ?_⟩
    simp [runD, lit_sp, lit_ha, lit_0, pStr_nat hn, q1, hs, pSl_S hl', pSl_S lt', pSl_S lb', pLen_S lb', pLen_S ls', cut_b6, cut_e6, cut_t1, cut_d1, cut_e1, hb, ht, k1, c_st, k2]
  by_cases k3 : body.drop (body.length - 1) = [32]
  case neg =>
    right
    refine ⟨fun w hw => k3 ?_, ?_⟩
    · rw [(shape w hw).1, List.length_append, List.length_singleton, Nat.add_sub_cancel, List.drop_left]
    simp [runD, lit_sp, lit_ha, lit_0, pStr_nat hn, q1, hs, pSl_S hl', pSl_S lt', pSl_S lb', pLen_S lb', pLen_S ls', cut_b6, cut_e6, cut_t1, cut_d1, cut_e1, hb, ht, k1, c_st, k2, k3]
  by_cases k4 : st.length < body.length
  case neg =>
    right
    refine ⟨fun w hw => k4 ?_, ?_⟩
    · rw [(shape w hw).1]
      simp
    have i4 : (body.length : Int) ≤ (st.length : Int) := by omega
    simp [runD, lit_sp, lit_ha, lit_0, pStr_nat hn, q1, hs, pSl_S hl', pSl_S lt', pSl_S lb', pLen_S lb', pLen_S ls', cut_b6, cut_e6, cut_t1, cut_d1, cut_e1, hb, ht, k1, c_st, k2, k3, i4]
  have i4 : ¬ (body.length : Int) ≤ (st.length : Int) := by omega
  have c_m := cut_m1 body st.length (by omega)
  generalize hw : (body.drop st.length).take (body.length - 1 - st.length) = word at c_m
  have lw : word.length ≤ 100000 := by
    rw [← hw, List.length_take]
    omega
  have eb : body = st ++ word ++ [32] := by
    have z1 := List.take_append_drop st.length body
    have z2 := List.take_append_drop (body.length - 1 - st.length) (body.drop st.length)
    have z3 : (body.drop st.length).drop (body.length - 1 - st.length) = [32] := by
      rw [List.drop_drop, ← k3]
      congr 1
      omega
    rw [k2] at z1
    rw [hw, z3] at z2
    rw [List.append_assoc, z2, z1]
  have same : ∀ w, rowOk a n w line → w = word := fun w h => by
    have := (shape w h).1
    rw [eb] at this
    have := List.append_cancel_right this
    exact (List.append_cancel_left this).symm
  have eh : body = headL n word := by
    rw [eb, ← hs]
    unfold headL
    simp
  by_cases k5 : wordOK word
  case neg =>
    right
    refine ⟨fun w h => k5 (same w h ▸ h.1), ?_⟩
    simp [runD, lit_sp, lit_ha, lit_0, pStr_nat hn, q1, hs, pSl_S hl', pSl_S lt', pSl_S lb', pLen_S lb', pLen_S ls', cut_b6, cut_e6, cut_t1, cut_d1, cut_e1, hb, ht, k1, c_st, k2, k3, i4, c_m, v_are_words word lw, k5]
  have vs := v_sum_by a body (by rw [eh]; exact head_sigs k5.2.2)
  have sl := sumN_lt a body
  have q2 : pStr [.int (sumN a body : Int)] = some (.str (S (dig (sumN a body)))) := pStr_nat (by omega)
  by_cases k6 : tail.drop 1 = tail5 (sumN a body)
  · left
    refine ⟨word, ⟨k5, ?_⟩, ?_⟩
    · have z1 := List.take_append_drop (line.length - 6) line
      have z2 := List.take_append_drop 1 tail
      rw [hb, ht] at z1
      rw [k1, k6] at z2
      rw [← z1, ← z2, eh]
      rfl
    · simp [runD, lit_sp, lit_ha, lit_0, pStr_nat hn, q1, hs, pSl_S hl', pSl_S lt', pSl_S lb', pLen_S lb', pLen_S ls', cut_b6, cut_e6, cut_t1, cut_d1, cut_e1, hb, ht, k1, c_st, k2, k3, i4, c_m, v_are_words word lw, k5, vs, q2, rjust5 sl, k6, hlim, ← eh, strD]
  · right
    refine ⟨fun w h => k6 ?_, ?_⟩
    · have := (shape w h).2
      rw [this, same w h, eh]
      rfl
    · have k6' : ¬ tail.tail = tail5 (sumN a body) := by simpa using k6
      simp [runD, lit_sp, lit_ha, lit_0, pStr_nat hn, q1, hs, pSl_S hl', pSl_S lt', pSl_S lb', pLen_S lb', pLen_S ls', cut_b6, cut_e6, cut_t1, cut_d1, cut_e1, hb, ht, k1, c_st, k2, k3, i4, c_m, v_are_words word lw, k5, vs, q2, rjust5 sl, k6', hlim]
theorem line_inj {a n : Nat} {w w' : List Nat} (h : lineL a n w = lineL a n w') : w = w' := by
  have l := congrArg List.length h
  rw [line_len, line_len] at l
  unfold lineL at h
  have h2 := (List.append_inj h (by omega)).1
  unfold headL at h2
  have h3 := List.append_cancel_left h2
  simpa using h3
theorem v_row_some (a n : Nat) (w : List Nat) (hn : n < 2 ^ 64) (h : wordOK w) : F__row [.val (.int (a : Int)), .val (.int (n : Int)), .val (.str (S (lineL a n w)))] = .ok (.tuple [strD w, .int (sumN a (headL n w) : Int)]) := by
  have l1 := dig_len hn
  rcases v_row_gen a n (lineL a n w) hn (by rw [line_len, head_len]; have := h.2.1; omega) with ⟨w', h1, h2⟩ | ⟨h1, h2⟩
  · rw [h2, line_inj h1.2]
  · exact absurd ⟨h, rfl⟩ (h1 w)
theorem v_row_none (a n : Nat) (line : List Nat) (hn : n < 2 ^ 64) (hl : line.length ≤ 100000) (h : ∀ w, wordOK w → line ≠ lineL a n w) : F__row [.val (.int (a : Int)), .val (.int (n : Int)), .val (.str (S line))] = .ok .none := by
  rcases v_row_gen a n line hn hl with ⟨w', h1, h2⟩ | ⟨h1, h2⟩
  · exact absurd h1.2 (h w' h1.1)
  · exact h2
end Pg

set_option maxRecDepth 100000
set_option maxHeartbeats 2000000
namespace Pg
open PySem PySem.Spec PyProof.Rows L2 DL

/-! ### rows_of, words_in -/
def Bad (a n : Nat) (rest : List Nat) : Prop := ∀ w, wordOK w → ¬ leafT a n w <+: rest
def rowD (a n : Nat) (w : List Nat) (e : Nat) : D := .tuple [strD w, .int (sumN a (headL n w) : Int), .int (e : Int)]
def rowsD : Nat → Nat → Nat → List (List Nat) → List D
  | _, _, _, [] => []
  | a, n, p, w :: ws => rowD a n w (p + (leafT a n w).length) :: rowsD (sumN a (headL n w)) (n + 1) (p + (leafT a n w).length) ws
theorem lineL_nl (a n : Nat) (w : List Nat) (h : wordOK w) : 10 ∉ lineL a n w := by
  intro hc
  unfold lineL at hc
  rw [List.mem_append, List.mem_cons] at hc
  rcases hc with hc | hc | hc
  · have := head_sigs h.2.2 10 hc
    revert this
    decide
  · cases hc
  · unfold tail5 at hc
    rw [List.mem_append] at hc
    rcases hc with hc | hc
    · have := List.eq_of_mem_replicate hc
      omega
    · have := dig_sigs hc
      omega
def rowsT : DS → Out Bool := dAndT (dB (dOp pGe (dVar 4) (dC (.int 0)))) (dB (dOp pLt (dLenV 1) (dC (.int 99999))))
def rowsB : DS → Res := (dSeqS (dSet 5 (dFn F__row (dCons (dVar 3) (dCons (dOp pAdd (dLenV 1) (dC (.int 1))) (dCons (dSl (dVar 0) (dPS (dVar 2)) (dPS (dVar 4))) dNil)))))
    (dSeqS (dIfS (dB (dOp pIs (dVar 5) (dC .none)))
      (dRetV 1)
      dNext)
    (dSeqS (dApp 1 (dOp pAdd (dVar 5) (dTup (dCons (dOp pAdd (dVar 4) (dC (.int 1))) dNil))))
    (dSeqS (dPar 2 3 (dOp pAdd (dVar 4) (dC (.int 1))) (dOp pIx (dVar 5) (dC (.int 1))))
    (dSet 4 (dSM pFind (dVar 0) (dCons (dC (.str (S [10]))) (dCons (dVar 2) dNil))))))))
def rowsEnd (r : Res) (rows : List D) : Prop := r = .rt (.list rows) ∨ ∃ a b c d e, r = .nx [a, .own rows, b, c, d, e]
theorem find3_at (t : List Nat) (p : Nat) : pFind (.str (S t)) [.str (S [10]), .int (p : Int)] = some (.int (findN (nextIx 10 t p))) := by
  show some (PyData.int (Txt.find3 (S t) (S [10]) (p : Int))) = _
  rw [find3_S]
theorem find_at (t : List Nat) : pFind (.str (S t)) [.str (S [10])] = some (.int (findN (nextIx 10 t 0))) := by
  show some (PyData.int (Txt.find (S t) (S [10]))) = _
  rw [find_S]
theorem rows_go (rest : List Nat) : ∀ (ws : List (List Nat)) (a n p : Nat) (pre : List Nat) (rows : List D) (t : List Nat) (x : Sl) (fuel : Nat),
    wordsOK ws → t = pre ++ ((leafs a n ws).flatten ++ rest) → pre.length = p → rows.length + 1 = n → n + ws.length ≤ 1000 → t.length ≤ 100000 → ws.length + 1 ≤ fuel → Bad (lastA a n ws) (n + ws.length) rest →
    rowsEnd (whileD rowsT rowsB fuel [.val (.str (S t)), .own rows, .val (.int (p : Int)), .val (.int (a : Int)), .val (.int (findN (nextIx 10 t p))), x]) (rows ++ rowsD a n p ws)
  | [], a, n, p, pre, rows, t, x, fuel, ok, ht, hp, hr, hn, hl, hf, hb => by
    have hlim : lim = 16000000 := rfl
    obtain ⟨f, rfl⟩ : ∃ f, fuel = f + 1 := ⟨fuel - 1, by simp at hf; omega⟩
    have hd : t.drop p = rest := by
      rw [ht, ← hp, List.drop_left]
      rfl
    have hl' : t.length ≤ lim := by omega
    simp only [List.length_nil, Nat.add_zero] at hb hn
    by_cases hm : 10 ∈ rest
    · obtain ⟨line, more, e, nm⟩ := first_at rest hm
      have hx : nextIx 10 t p = some (p + line.length) := nextIx_some (by rw [hd, e]) nm
      have hc : cutG t (some (p : Int)) (some ((p + line.length : Nat) : Int)) = line := by
        have hlen : t.length = p + rest.length := by rw [ht, List.length_append, hp]; rfl
        rw [cutG_mid t p (p + line.length) (by omega) (by rw [hlen, e]; simp), hd, e]
        simp
      have hll : line.length ≤ 100000 := by
        have hlen : t.length = p + rest.length := by rw [ht, List.length_append, hp]; rfl
        rw [e] at hlen
        simp at hlen
        omega
      have v := v_row_none (lastA a n []) n line (by omega) hll (fun w hw q => hb w hw (by
        rw [e, q]
        exact ⟨more, by unfold leafT; simp⟩))
      left
      have hr' : ((rows.length : Int) + 1) = (n : Int) := by omega
      rw [hx]
      have hi : (0 : Int) ≤ ((p + line.length : Nat) : Int) := by omega
      have hi2 : ((rows.length : Int) < 99999) := by omega
      refine whileD_ret ?_ ?_
      · unfold rowsT
        simp [findN, hi2]
        omega
      · rw [Int.natCast_add] at hc
        have v' : F__row [Sl.val (PyData.int (a : Int)), Sl.val (PyData.int (n : Int)), Sl.val (PyData.str (S line))] = _ := v
        unfold rowsB
        simp [findN, hr', pSl_S hl', hc, v', rowsD]
    · have hx : nextIx 10 t p = none := nextIx_none (by rw [hd]; exact hm)
      right
      rw [hx]
      refine ⟨.val (.str (S t)), .val (.int (p : Int)), .val (.int (a : Int)), .val (.int (-1)), x, ?_⟩
      rw [rowsD, List.append_nil]
      exact whileD_stop (by unfold rowsT; simp [findN])
  | w :: ws, a, n, p, pre, rows, t, x, fuel, ok, ht, hp, hr, hn, hl, hf, hb => by
    have hlim : lim = 16000000 := rfl
    obtain ⟨f, rfl⟩ : ∃ f, fuel = f + 1 := ⟨fuel - 1, by simp at hf; omega⟩
    have okw := ok w List.mem_cons_self
    have hd : t.drop p = lineL a n w ++ 10 :: ((leafs (sumN a (headL n w)) (n + 1) ws).flatten ++ rest) := by
      rw [ht, ← hp, List.drop_left]
      show (leafT a n w :: leafs _ _ ws).flatten ++ rest = _
      unfold leafT
      simp
    have hl' : t.length ≤ lim := by omega
    have hlen : t.length = p + ((lineL a n w).length + 1 + ((leafs (sumN a (headL n w)) (n + 1) ws).flatten ++ rest).length) := by
      have := congrArg List.length hd
      rw [List.length_drop, List.length_append, List.length_cons] at this
      have h2 : p ≤ t.length := by rw [ht, List.length_append]; omega
      omega
    have hx : nextIx 10 t p = some (p + (lineL a n w).length) := nextIx_some hd (lineL_nl a n w okw)
    have hc : cutG t (some (p : Int)) (some ((p + (lineL a n w).length : Nat) : Int)) = lineL a n w := by
      rw [cutG_mid t p (p + (lineL a n w).length) (by omega) (by omega), hd]
      simp
    have v := v_row_some a n w (by omega) okw
    have hr' : ((rows.length : Int) + 1) = (n : Int) := by omega
    have hi2 : ((rows.length : Int) < 99999) := by omega
    have hp2 : p + (lineL a n w).length + 1 = p + (leafT a n w).length := by unfold leafT; simp; omega
    have ih := rows_go rest ws (sumN a (headL n w)) (n + 1) (p + (leafT a n w).length) (pre ++ leafT a n w) (rows ++ [rowD a n w (p + (leafT a n w).length)]) t (.val (.tuple [strD w, .int (sumN a (headL n w) : Int)])) f
      (fun z hz => ok z (List.mem_cons_of_mem _ hz)) (by
        rw [ht]
        show pre ++ ((leafT a n w :: leafs _ _ ws).flatten ++ rest) = _
        simp) (by rw [List.length_append, hp]) (by rw [List.length_append]; simp; omega) (by simp at hn; omega) hl (by simp at hf; omega) (by
        have e : n + 1 + ws.length = n + (w :: ws).length := by simp; omega
        rw [e]
        exact hb)
    rw [List.append_assoc] at ih
    rw [hx, whileD_go (σ2 := [.val (.str (S t)), .own (rows ++ [rowD a n w (p + (leafT a n w).length)]), .val (.int ((p + (leafT a n w).length : Nat) : Int)), .val (.int (sumN a (headL n w) : Int)), .val (.int (findN (nextIx 10 t (p + (leafT a n w).length)))), .val (.tuple [strD w, .int (sumN a (headL n w) : Int)])]) ?_ ?_]
    · exact ih
    · unfold rowsT
      simp [findN, hi2]
      omega
    · have f3 := find3_at t (p + (leafT a n w).length)
      rw [← hp2, Int.natCast_add, Int.natCast_add] at f3
      rw [Int.natCast_add] at hc
      have lr : rows.length ≤ lim := by omega
      have i1 : pIx (.tuple [strD w, .int (sumN a (headL n w) : Int)]) (.int 1) = some (.int (sumN a (headL n w) : Int)) := pIx_tuple (i := 1) rfl
      have a1 : pAdd (.tuple [strD w, .int (sumN a (headL n w) : Int)]) (.tuple [.int ((p : Int) + ((lineL a n w).length : Int) + 1)]) = some (rowD a n w (p + (leafT a n w).length)) := by
        rw [pAdd_T (by simp), ← hp2]
        unfold rowD
        rw [Int.natCast_add, Int.natCast_add]
        rfl
      have c1 : ((p + (leafT a n w).length : Nat) : Int) = (p : Int) + ((lineL a n w).length : Int) + 1 := by omega
      have lr16 : rows.length ≤ 16000000 := by omega
      have one : ([PyData.int ((p : Int) + ((lineL a n w).length : Int) + 1)] : List D).length ≤ lim := by simp
      rw [c1]
      unfold rowsB
      simp [findN, hr', pSl_S hl', hc, v, lr, lr16, hlim, a1, i1, show ((1 : Nat) : Int) = 1 from rfl] at f3 ⊢
      simp [f3, ← hp2]
end Pg

set_option maxRecDepth 100000
set_option maxHeartbeats 2000000
namespace Pg
open PySem PySem.Spec PyProof.Rows L2 DL

theorem rowsD_len : ∀ (ws : List (List Nat)) (a n p : Nat), (rowsD a n p ws).length = ws.length
  | [], _, _, _ => rfl
  | w :: ws, a, n, p => by
    show (rowsD _ _ _ ws).length + 1 = _
    rw [rowsD_len ws]
    rfl
theorem rows_fst {f : D → Out (Option D)} (h : ∀ a n w e, f (rowD a n w e) = .ok (some (strD w))) : ∀ (ws : List (List Nat)) (a n p : Nat), lcGo f (rowsD a n p ws) = .ok (ws.map strD)
  | [], _, _, _ => rfl
  | w :: ws, a, n, p => by
    have ih := rows_fst h ws (sumN a (headL n w)) (n + 1) (p + (leafT a n w).length)
    rw [rowsD, lcGo, h]
    show (match lcGo f (rowsD _ _ _ ws) with | .ok r => Out.ok ((some (strD w)).toList ++ r) | _ => .no) = _
    rw [ih]
    rfl
theorem rows_last : ∀ (ws : List (List Nat)) (a n p : Nat), ws ≠ [] → ∃ a' n' w', (rowsD a n p ws)[ws.length - 1]? = some (rowD a' n' w' (p + (leafs a n ws).flatten.length))
  | [], _, _, _, h => absurd rfl h
  | [w], a, n, p, _ => ⟨a, n, w, by simp [rowsD, leafs]⟩
  | w :: v :: ws, a, n, p, _ => by
    obtain ⟨a', n', w', e⟩ := rows_last (v :: ws) (sumN a (headL n w)) (n + 1) (p + (leafT a n w).length) (by simp)
    refine ⟨a', n', w', ?_⟩
    have l : (leafs a n (w :: v :: ws)).flatten.length = (leafT a n w).length + (leafs (sumN a (headL n w)) (n + 1) (v :: ws)).flatten.length := by
      show (leafT a n w :: leafs _ _ (v :: ws)).flatten.length = _
      rw [List.flatten_cons, List.length_append]
    rw [l, ← Nat.add_assoc, ← e]
    show (rowD a n w _ :: rowsD _ _ _ (v :: ws))[(v :: ws).length]? = _
    simp
theorem pIx_last {ds : List D} {d : D} (h : ds[ds.length - 1]? = some d) : pIx (.list ds) (.int (-1)) = some d := by
  show L2.atI ds (-1) = _
  unfold L2.atI
  have hl : 1 ≤ ds.length := by
    cases ds with
    | nil => simp at h
    | cons a r => simp
  have e : ixN ds.length (-1) = some (ds.length - 1) := by
    unfold ixN
    rw [if_neg (by decide), if_pos (by omega)]
    congr 1
    omega
  rw [e]
  exact h
theorem v_rows_of (ws : List (List Nat)) (rest : List Nat) (ok : wordsOK ws) (hn : ws.length ≤ 900) (hl : ((leafs 0 1 ws).flatten ++ rest).length ≤ 100000) (hb : Bad (lastA 0 1 ws) (1 + ws.length) rest) :
    F_rows_of [.val (.str (S ((leafs 0 1 ws).flatten ++ rest)))] = .ok (.list (rowsD 0 1 0 ws)) := by
  have g := rows_go rest ws 0 1 0 [] [] _ .nil 1000000 ok rfl rfl rfl (by omega) hl (by omega) hb
  rw [List.nil_append, List.nil_append] at g
  generalize (leafs 0 1 ws).flatten ++ rest = t at g hl
  unfold rowsT rowsB at g
  unfold F_rows_of
  unfold d_rows_of
  have f := find_at t
  rw [Int.natCast_zero] at g
  rcases g with g | ⟨a, b, c, d, e, g⟩
  · simp [runD, lit_nl, f, g]
  · simp [runD, lit_nl, f, g]
theorem v_words_in (ws : List (List Nat)) (rest : List Nat) (ok : wordsOK ws) (hn : ws.length ≤ 900) (hl : ((leafs 0 1 ws).flatten ++ rest).length ≤ 100000) (hb : Bad (lastA 0 1 ws) (1 + ws.length) rest) :
    F_words_in [.val (.str (S ((leafs 0 1 ws).flatten ++ rest)))] = .ok (.tuple [.tuple (ws.map strD), .int ((leafs 0 1 ws).flatten.length : Int)]) := by
  have hlim : lim = 16000000 := rfl
  have v := v_rows_of ws rest ok hn hl hb
  generalize (leafs 0 1 ws).flatten ++ rest = t at v hl
  have c : F_check_text [.val (.str (S t))] = .ok .none := by
    unfold F_check_text
    unfold d_check_text
    simp [runD, isTy, tyName]
  have l := rowsD_len ws 0 1 0
  have e : lcGo (lcStep (gN 2) dYes (dOp pIx (dVar 2) (dC (.int 0))) [Sl.val (.str (S t)), Sl.val (.list (rowsD 0 1 0 ws)), .nil]) (rowsD 0 1 0 ws) = .ok (ws.map strD) := rows_fst (fun a n w e => by
    have q : pIx (rowD a n w e) (.int 0) = some (strD w) := pIx_tuple (i := 0) rfl
    simp [q]) ws 0 1 0
  have hw : ws.length ≤ lim := by omega
  unfold F_words_in
  unfold d_words_in
  by_cases h0 : ws = []
  · subst h0
    have e' : lcGo (lcStep (gN 2) dYes (dOp pIx (dVar 2) (dC (.int 0))) [Sl.val (.str (S t)), Sl.val (.list (rowsD 0 1 0 [])), .nil]) (rowsD 0 1 0 []) = .ok [] := e
    simp [runD, c, v, e', rowsD, leafs, pTuple, lcGo]
  · obtain ⟨a', n', w', q⟩ := rows_last ws 0 1 0 h0
    rw [Nat.zero_add, ← l] at q
    have i1 := pIx_last q
    have i2 : pIx (rowD a' n' w' (leafs 0 1 ws).flatten.length) (.int 2) = some (.int ((leafs 0 1 ws).flatten.length : Int)) := pIx_tuple (i := 2) rfl
    have hp : 0 < ws.length := by
      cases ws with
      | nil => exact absurd rfl h0
      | cons _ _ => simp
    simp [runD, c, v, e, l, hw, pTuple, hp, i1]
    simp at i2
    simp [i2]
end Pg

set_option maxRecDepth 100000
set_option maxHeartbeats 2000000
namespace Pg
open PySem PySem.Spec PyProof.Rows L2 DL

/-! ### draws -/
def natsD (l : List Nat) : List D := l.map fun (x : Nat) => .int (x : Int)
@[simp] theorem natsD_len (l : List Nat) : (natsD l).length = l.length := by simp [natsD]
theorem natsD_app (l : List Nat) (x : Nat) : natsD l ++ [.int (x : Int)] = natsD (l ++ [x]) := by simp [natsD]
theorem pow18 : pPow (.int 10) (.int 18) = some (.int 1000000000000000000) := by simp [pPow]
def drawsIn : DS → Res := (dIfS (dB (dOp pGt (dVar 5) (dC (.int 0))))
          (dSeqS (dApp 2 (dOp pMod (dCall pInt (dCons (dVar 5) dNil)) (dC (.int 1009))))
          (dSet 5 (dOp pFdiv (dVar 5) (dC (.int 1009)))))
          dNext)
theorem drawsIn_for (a b c d f : Sl) (l : List Nat) (v : Nat) (hl : l.length ≤ 100000) : ∃ l' v' y, l'.length ≤ l.length + 60 ∧ forD (gN 6) drawsIn (rangeD 0 60) [a, b, .own (natsD l), c, d, .val (.int (v : Int)), f] = .nx [a, b, .own (natsD l'), c, d, .val (.int (v' : Int)), y] := by
  have hlim : lim = 16000000 := rfl
  obtain ⟨σ', h1, l', v', y, h2, rfl⟩ := forD_inv (k := gN 6) (r := drawsIn)
    (fun i σ => ∃ (l' : List Nat) (v' : Nat) (y : Sl), l'.length ≤ l.length + i ∧ σ = [a, b, .own (natsD l'), c, d, .val (.int (v' : Int)), y]) (rangeD 0 60) 0 [a, b, .own (natsD l), c, d, .val (.int (v : Int)), f] ⟨l, v, f, Nat.le_refl _, rfl⟩ (by
      rintro i e σ hd ⟨l', v', y, h2, rfl⟩
      obtain ⟨hi, rfl⟩ := range_get hd
      refine ⟨_, rfl, ?_⟩
      by_cases hv : 0 < v'
      · have m := pMod_nat (a := v') (b := 1009) (by decide)
        have q := pFdiv_nat (a := v') (b := 1009) (by decide) (by decide)
        have hl2 : l'.length ≤ lim := by omega
        refine ⟨[a, b, .own (natsD (l' ++ [v' % 1009])), c, d, .val (.int ((v' / 1009 : Nat) : Int)), .val (.int (0 + (i : Int)))], ?_, _, _, _, by simp; omega, rfl⟩
        rw [← natsD_app]
        unfold drawsIn
        rw [Int.natCast_emod] at m
        rw [Int.natCast_ediv] at q
        simp at m q
        simp [hv, m, q, hl2]
      · refine ⟨[a, b, .own (natsD l'), c, d, .val (.int (v' : Int)), .val (.int (0 + (i : Int)))], ?_, _, _, _, by omega, rfl⟩
        unfold drawsIn
        simp [hv])
  exact ⟨l', v', y, by simpa using h2, h1⟩
def drawsB1 : DS → Res := (dSeqS (dSet 5 (dCall pAbs (dCons (dVar 4) dNil)))
    (dSeqS (dSet 3 (dOp pMod (dCall pInt (dCons (dOp pAdd (dOp pAdd (dOp pMul (dVar 3) (dC (.int 48271))) (dVar 5)) (dC (.int 11))) dNil)) (dC (.int 2147483647))))
    (dIfS (dB (dOp pGe (dVar 5) (dOp pPow (dC (.int 10)) (dC (.int 18)))))
      (dFor (dRng rng1 (dCons (dC (.int 60)) dNil)) (gN 6) drawsIn)
      (dApp 2 (dOp pMod (dOp pFdiv (dCall pInt (dCons (dOp pAdd (dOp pMul (dVar 3) (dC (.int 16807))) (dC (.int 5))) dNil)) (dC (.int 3))) (dC (.int 65521)))))))
theorem drawsB1_for (ns : List Int) (hn : ns.length ≤ 63) (b : Sl) : ∃ (l : List Nat) (s : Nat) (x y z : Sl), l.length ≤ 60 * 63 ∧ forD (gN 4) drawsB1 (ns.map .int) [.raw (ns.map .int), b, .own (natsD []), .val (.int 7), .nil, .nil, .nil] = .nx [.raw (ns.map .int), b, .own (natsD l), .val (.int (s : Int)), x, y, z] := by
  have hlim : lim = 16000000 := rfl
  obtain ⟨σ', h1, l, s, x, y, z, h2, rfl⟩ := forD_inv (k := gN 4) (r := drawsB1)
    (fun i σ => ∃ (l : List Nat) (s : Nat) (x y z : Sl), l.length ≤ 60 * i ∧ σ = [.raw (ns.map .int), b, .own (natsD l), .val (.int (s : Int)), x, y, z]) (ns.map .int) 0 [.raw (ns.map .int), b, .own (natsD []), .val (.int 7), .nil, .nil, .nil] ⟨[], 7, .nil, .nil, .nil, by simp, rfl⟩ (by
      rintro i e σ hd ⟨l, s, x, y, z, h2, rfl⟩
      rw [Nat.zero_add] at h2 ⊢
      have hi : i < ns.length := by
        by_cases q : i < ns.length
        · exact q
        · rw [List.getElem?_eq_none (by simp; omega)] at hd; cases hd
      rw [List.getElem?_map, Option.map_eq_some_iff] at hd
      obtain ⟨v, hv, rfl⟩ := hd
      refine ⟨_, rfl, ?_⟩
      have m1 : pMul (.int (s : Int)) (.int 48271) = some (.int ((s : Int) * 48271)) := pMulC (b := 48271) (by decide)
      have m2 : pMod (.int ((s : Int) * 48271 + (v.natAbs : Int) + 11)) (.int 2147483647) = some (.int (((s * 48271 + v.natAbs + 11) % 2147483647 : Nat) : Int)) := by
        have q := pMod_nat (a := s * 48271 + v.natAbs + 11) (b := 2147483647) (by decide)
        rw [Int.natCast_add, Int.natCast_add, Int.natCast_mul] at q
        exact q
      generalize (s * 48271 + v.natAbs + 11) % 2147483647 = s2 at m2
      have m3 : pMul (.int (s2 : Int)) (.int 16807) = some (.int ((s2 : Int) * 16807)) := pMulC (b := 16807) (by decide)
      have m4 : pFdiv (.int ((s2 : Int) * 16807 + 5)) (.int 3) = some (.int (((s2 * 16807 + 5) / 3 : Nat) : Int)) := by
        have q := pFdiv_nat (a := s2 * 16807 + 5) (b := 3) (by decide) (by decide)
        rw [Int.natCast_add, Int.natCast_mul] at q
        exact q
      generalize (s2 * 16807 + 5) / 3 = s3 at m4
      have m5 : pMod (.int (s3 : Int)) (.int 65521) = some (.int ((s3 % 65521 : Nat) : Int)) := pMod_nat (b := 65521) (by decide)
      generalize s3 % 65521 = s4 at m5
      have r60 : rng1 [.int 60] = some (rangeD 0 60) := rng1_nat (n := 60) (by decide)
      by_cases hb : 1000000000000000000 ≤ v.natAbs
      · obtain ⟨l', v', w, g1, g2⟩ := drawsIn_for (.raw (ns.map .int)) b (.val (.int (s2 : Int))) (.val (.int v)) z l v.natAbs (by omega)
        refine ⟨_, ?_, l', s2, .val (.int v), .val (.int (v' : Int)), w, by omega, rfl⟩
        rw [← g2]
        have hb2 : (1000000000000000000 : Int) ≤ (v.natAbs : Int) := by omega
        unfold drawsB1
        simp [m1, m2, pow18, hb2, r60]
      · have hb2 : ¬ (1000000000000000000 : Int) ≤ (v.natAbs : Int) := by omega
        have hl2 : l.length ≤ lim := by omega
        refine ⟨[.raw (ns.map .int), b, .own (natsD (l ++ [s4])), .val (.int (s2 : Int)), .val (.int v), .val (.int (v.natAbs : Int)), z], ?_, _, _, _, _, _, by simp; omega, rfl⟩
        rw [← natsD_app]
        unfold drawsB1
        simp [m1, m2, pow18, hb2, m3, m4, m5, hl2])
  refine ⟨l, s, x, y, z, ?_, h1⟩
  rw [Nat.zero_add, List.length_map] at h2
  omega
def drawsB2 : DS → Res := (dIfS (dB (dOp pLt (dLenV 2) (dVar 1)))
      (dSeqS (dSet 3 (dOp pMod (dCall pInt (dCons (dOp pAdd (dOp pAdd (dOp pMul (dVar 3) (dC (.int 69621))) (dVar 6)) (dC (.int 1))) dNil)) (dC (.int 2147483647))))
      (dApp 2 (dOp pMod (dOp pFdiv (dCall pInt (dCons (dVar 3) dNil)) (dC (.int 7))) (dC (.int 65521)))))
      dNext)
theorem drawsB2_for (a x y z : Sl) (many s : Nat) (hm : many ≤ 100000) (l : List Nat) (hl : l.length ≤ 100000) : ∃ (l' : List Nat) (s' : Nat) (z' : Sl), many ≤ l'.length ∧ forD (gN 6) drawsB2 (rangeD 0 many) [a, .val (.int (many : Int)), .own (natsD l), .val (.int (s : Int)), x, y, z] = .nx [a, .val (.int (many : Int)), .own (natsD l'), .val (.int (s' : Int)), x, y, z'] := by
  have hlim : lim = 16000000 := rfl
  obtain ⟨σ', h1, l', s', z', h2, h3, rfl⟩ := forD_inv (k := gN 6) (r := drawsB2)
    (fun i σ => ∃ (l' : List Nat) (s' : Nat) (z' : Sl), i ≤ max l'.length (if many ≤ l'.length then i else 0) ∧ l'.length ≤ l.length + i ∧ σ = [a, .val (.int (many : Int)), .own (natsD l'), .val (.int (s' : Int)), x, y, z']) (rangeD 0 many) 0 [a, .val (.int (many : Int)), .own (natsD l), .val (.int (s : Int)), x, y, z] ⟨l, s, z, by omega, by omega, rfl⟩ (by
      rintro i e σ hd ⟨l', s', z', h2, h3, rfl⟩
      obtain ⟨hi, rfl⟩ := range_get hd
      refine ⟨_, rfl, ?_⟩
      by_cases hv : l'.length < many
      · have m1 : pMul (.int (s' : Int)) (.int 69621) = some (.int ((s' : Int) * 69621)) := pMulC (b := 69621) (by decide)
        have m2 : pMod (.int ((s' : Int) * 69621 + (i : Int) + 1)) (.int 2147483647) = some (.int (((s' * 69621 + i + 1) % 2147483647 : Nat) : Int)) := by
          have q := pMod_nat (a := s' * 69621 + i + 1) (b := 2147483647) (by decide)
          rw [Int.natCast_add, Int.natCast_add, Int.natCast_mul] at q
          exact q
        generalize (s' * 69621 + i + 1) % 2147483647 = s2 at m2
        have m4 : pFdiv (.int (s2 : Int)) (.int 7) = some (.int ((s2 / 7 : Nat) : Int)) := pFdiv_nat (b := 7) (by decide) (by decide)
        generalize s2 / 7 = s3 at m4
        have m5 : pMod (.int (s3 : Int)) (.int 65521) = some (.int ((s3 % 65521 : Nat) : Int)) := pMod_nat (b := 65521) (by decide)
        generalize s3 % 65521 = s4 at m5
        have hl2 : l'.length ≤ lim := by omega
        refine ⟨[a, .val (.int (many : Int)), .own (natsD (l' ++ [s4])), .val (.int (s2 : Int)), x, y, .val (.int (0 + (i : Int)))], ?_, _, _, _, ?_, by simp; omega, rfl⟩
        · rw [← natsD_app]
          unfold drawsB2
          simp [hv, m1, m2, m4, m5, hl2]
        · rw [if_neg (by omega)] at h2
          rw [List.length_append]
          simp
          omega
      · refine ⟨[a, .val (.int (many : Int)), .own (natsD l'), .val (.int (s' : Int)), x, y, .val (.int (0 + (i : Int)))], ?_, _, _, _, ?_, by omega, rfl⟩
        · unfold drawsB2
          simp [hv]
        · rw [if_pos (by omega)]
          omega)
  refine ⟨l', s', z', ?_, h1⟩
  rw [range_len, Nat.zero_add] at h2
  split at h2
  · assumption
  · omega
theorem v_draws (ns : List Int) (hn : ns.length ≤ 63) (many : Nat) (hm : many ≤ 100000) : ∃ l : List Nat, l.length = many ∧ F__law_draws [.raw (ns.map .int), .val (.int (many : Int))] = .ok (.list (natsD l)) := by
  have hlim : lim = 16000000 := rfl
  obtain ⟨l, s, x, y, z, h1, h2⟩ := drawsB1_for ns hn (.val (.int (many : Int)))
  obtain ⟨l', s', z', h3, h4⟩ := drawsB2_for (.raw (ns.map .int)) x y z many s hm l (by omega)
  refine ⟨l'.take many, by rw [List.length_take]; omega, ?_⟩
  have r1 := rng1_nat (n := many) (by omega)
  have c1 : cutG (ns.map PyData.int) none (some 63) = ns.map .int := by
    have q := cutG_take (ns.map PyData.int) 63
    rw [List.take_of_length_le (by simpa using hn)] at q
    exact q
  have c2 : cutG (natsD l') none (some (many : Int)) = natsD (l'.take many) := by
    rw [cutG_take]
    simp [natsD, List.map_take]
  have e0 : natsD [] = [] := rfl
  rw [e0] at h2
  unfold drawsB1 drawsIn at h2
  unfold drawsB2 at h4
  unfold F__law_draws
  unfold d__law_draws
  simp [runD, c1, h2, r1, h4, c2, hlim]
end Pg

set_option maxRecDepth 100000
set_option maxHeartbeats 2000000
namespace Pg
open PySem PySem.Spec PyProof.Rows L2 DL

/-! ### the law's own sums and leaves -/
def lsumB : DS → Res := (dSet 3 (dOp pAdd (dVar 3) (dOp pMul (dOp pAdd (dVar 4) (dC (.int 1))) (dOp pAdd (dSM pIndex (dVar 2) (dCons (dOp pIx (dVar 1) (dVar 4)) dNil)) (dC (.int 1))))))
theorem v_law_sum (a : Nat) (w : List Nat) (hl : w.length ≤ 100000) (h : ∀ c ∈ w, c ∈ sigs) : F__law_sum [.val (.int (a : Int)), .val (.str (S w))] = .ok (.int (sumN a w : Int)) := by
  have hlim : lim = 16000000 := rfl
  have hl' : w.length ≤ lim := by omega
  obtain ⟨σ', h1, x, rfl⟩ := forD_inv (k := gN 4) (r := lsumB)
    (fun i σ => ∃ x, σ = [Sl.val (.int (a : Int)), .val (.str (S w)), .val (.str (S sigs)), .val (.int ((11 * a + wsum 0 (w.take i) : Nat) : Int)), x]) (rangeD 0 w.length) 0 [Sl.val (.int (a : Int)), .val (.str (S w)), .val (.str (S sigs)), .val (.int ((11 * a : Nat) : Int)), .nil] ⟨.nil, by simp [wsum]⟩ (by
      rintro i d σ hd ⟨x, rfl⟩
      obtain ⟨hi, rfl⟩ := range_get hd
      rw [Nat.zero_add]
      have hc : w[i]? = some w[i] := List.getElem?_eq_getElem hi
      generalize w[i] = c at hc
      have hcs := h c (List.mem_of_getElem? hc)
      have q1 := pIx_S hl' hc
      have hx : ixs c ≤ 47 := List.idxOf_le_length
      have hmul : pMul (.int ((i : Int) + 1)) (.int ((ixs c : Int) + 1)) = some (.int (((i + 1) * (ixs c + 1) : Nat) : Int)) := pMul_nat1 (by omega)
      refine ⟨_, rfl, _, ?_, .val (.int (i : Int)), rfl⟩
      rw [wsum_take hc, ← Nat.add_assoc, Int.natCast_add (11 * a + wsum 0 (List.take i w))]
      unfold lsumB
      simp [q1, ix_at hcs, hmul])
  rw [range_len, Nat.zero_add, List.take_length] at h1
  have r1 := rng1_nat (n := w.length) (by omega)
  have hm : pMod (.int ((11 * a + wsum 0 w : Nat) : Int)) (.int 99989) = some (.int (sumN a w : Int)) := pMod_nat (b := 99989) (by decide)
  unfold lsumB at h1
  unfold F__law_sum
  unfold d__law_sum
  simp only [runD, lit_sigs, List.length_cons, List.length_nil, dSeqS_at, dSet_at, dOp_at, dC_at, dVar_0, dVar_s, mul_11, Out.ok_bind, Out.opt_some, Res.of_ok, List.set_cons_succ, List.set_cons_zero, List.cons_append, List.nil_append, List.replicate, dFor_at, dPar_at, dRng_at, dCons_at, dNil_at, dCall_at, pLen_S hl', r1, h1, dRet_at, pInt_int, hm]
  rfl
theorem dig_lt {m : Nat} (h : m < 10) : dig m = [48 + m] := TL.numL_lt h
theorem dig_step {m : Nat} (h : 10 ≤ m) : dig m = dig (m / 10) ++ [48 + m % 10] := TL.numL_step h
theorem dig_last (m : Nat) : (dig m).drop ((dig m).length - 1) = [48 + m % 10] := by
  by_cases h : m < 10
  · rw [dig_lt h, Nat.mod_eq_of_lt h]
    rfl
  · rw [dig_step (m := m) (by omega), List.length_append, List.length_singleton, Nat.add_sub_cancel, List.drop_left]
def padD (k m : Nat) : List Nat := List.replicate (k - (dig m).length) 48 ++ dig m
theorem padD_step {k m : Nat} (hk : 1 ≤ k) : padD (k + 1) m = padD k (m / 10) ++ [48 + m % 10] := by
  unfold padD
  by_cases h : m < 10
  · have e : m / 10 = 0 := by omega
    rw [e, dig_lt h, dig_lt (show 0 < 10 from by decide), Nat.mod_eq_of_lt h]
    simp only [List.length_singleton, Nat.add_sub_cancel]
    congr 1
    rw [show [48 + 0] = List.replicate 1 48 from rfl, List.replicate_append_replicate]
    congr 1
    omega
  · rw [dig_step (m := m) (by omega)]
    simp only [List.length_append, List.length_singleton]
    rw [← List.append_assoc]
    congr 3
    omega
theorem padD_one {m : Nat} (h : m < 10) : padD 1 m = [48 + m % 10] := by
  unfold padD
  rw [dig_lt h, Nat.mod_eq_of_lt h]
  rfl
theorem tail5_digits {s : Nat} (h : s < 99989) : tail5 s = [48 + s / 10000 % 10, 48 + s / 1000 % 10, 48 + s / 100 % 10, 48 + s / 10 % 10, 48 + s / 1 % 10] := by
  have e : tail5 s = padD 5 s := rfl
  rw [e, padD_step (by decide), padD_step (by decide), padD_step (by decide), padD_step (by decide), padD_one (by omega)]
  simp [Nat.div_div_eq_div_mul]
/-- the law's way to five digits -/
def dl5 (i j : Nat) : DS → Out D := dSM pJoin (dC (.str (S []))) (dCons (dL (lcD (dItems (dL (dLst (dCons (dC (.int 10000)) (dCons (dC (.int 1000)) (dCons (dC (.int 100)) (dCons (dC (.int 10)) (dCons (dC (.int 1)) dNil)))))))) (gN j) dYes (dSl (dCall pStr (dCons (dOp pFdiv (dVar i) (dVar j)) dNil)) (dPS (dNeg (dC (.int 1)))) dPN) [j])) dNil)
theorem pJoin5 {a b c d e : Nat} : pJoin (.str (S [])) [.list [.str (S [a]), .str (S [b]), .str (S [c]), .str (S [d]), .str (S [e])]] = some (.str (S [a, b, c, d, e])) := by
  have q := pJoin_L (ls := [[a], [b], [c], [d], [e]]) (by simp)
  simpa using q
theorem last_dig (s p : Nat) (hs : s < 99989) : (Out.opt (pStr [.int ((s / p : Nat) : Int)]) >>= fun d => Out.opt (pSl d (some (-1)) none)) = .ok (PyData.str (S [48 + s / p % 10])) := by
  have hb : s / p < 2 ^ 64 := Nat.lt_of_le_of_lt (Nat.div_le_self _ _) (by omega)
  rw [pStr_nat hb]
  have hl : (dig (s / p)).length ≤ lim := Nat.le_trans (dig_len hb) (by decide)
  rw [Out.opt_some, Out.ok_bind, pSl_S hl, cut_e1, dig_last]
  rfl
theorem five (f : D → Out (Option D)) (s : Nat) (hs : s < 99989) (hf : ∀ p : Nat, 0 < p → p < 1073741824 → f (.int (p : Int)) = .ok (some (.str (S [48 + s / p % 10])))) : lcGo f [.int 10000, .int 1000, .int 100, .int 10, .int 1] = .ok [.str (S [48 + s / 10000 % 10]), .str (S [48 + s / 1000 % 10]), .str (S [48 + s / 100 % 10]), .str (S [48 + s / 10 % 10]), .str (S [48 + s / 1 % 10])] := by
  have h1 : f (.int 10000) = _ := hf 10000 (by decide) (by decide)
  have h2 : f (.int 1000) = _ := hf 1000 (by decide) (by decide)
  have h3 : f (.int 100) = _ := hf 100 (by decide) (by decide)
  have h4 : f (.int 10) = _ := hf 10 (by decide) (by decide)
  have h5 : f (.int 1) = _ := hf 1 (by decide) (by decide)
  simp only [lcGo, h1, h2, h3, h4, h5]
  rfl
end Pg

set_option maxRecDepth 100000
set_option maxHeartbeats 2000000
namespace Pg
open PySem PySem.Spec PyProof.Rows L2 DL

theorem dl5_at (a b d e : Sl) (sm : Nat) (sl : sm < 99989) : dl5 2 5 [a, b, .val (.int (sm : Int)), d, e, .nil] = .ok (.str (S (tail5 sm))) := by
  have f5 := five (lcStep (gN 5) dYes (dSl (dCall pStr (dCons (dOp pFdiv (dVar 2) (dVar 5)) dNil)) (dPS (dNeg (dC (.int 1)))) dPN) [a, b, .val (.int (sm : Int)), d, e, .nil]) sm sl (fun p hp hp2 => by
    have d1 := pFdiv_nat (a := sm) hp hp2
    have d2 := last_dig sm p sl
    simp at d1 d2
    simp [d1, d2])
  unfold dl5
  rw [tail5_digits sl]
  simp [f5, pJoin5]
def lleavesB : DS → Res := (dSeqS (dSet 4 (dOp pAdd (dOp pAdd (dOp pAdd (dCall pStr (dCons (dOp pAdd (dVar 3) (dC (.int 1))) dNil)) (dC (.str (S [32])))) (dOp pIx (dVar 0) (dVar 3))) (dC (.str (S [32])))))
    (dSeqS (dSet 2 (dFn F__law_sum (dCons (dVar 2) (dCons (dVar 4) dNil))))
    (dApp 1 (dOp pAdd (dOp pAdd (dOp pAdd (dVar 4) (dC (.str (S [35])))) (dl5 2 5)) (dC (.str (S [10])))))))
theorem pStr_suc {i : Nat} (h : i + 1 < 2 ^ 64) : pStr [.int ((i : Int) + 1)] = some (.str (S (dig (i + 1)))) := by
  have := pStr_nat (n := i + 1) h
  rw [Int.natCast_add] at this
  exact this
theorem lleavesB_at (wd : List D) (lv : List D) (a i : Nat) (w : List Nat) (y : Sl) (hi : i < 900) (hw : wd[i]? = some (.str (S w))) (ok : wordOK w) (lz : lv.length ≤ lim) : lleavesB [.val (.tuple wd), .own lv, .val (.int (a : Int)), .val (.int (i : Int)), y, .nil] = .nx [.val (.tuple wd), .own (lv ++ [.str (S (leafT a (i + 1) w))]), .val (.int (sumN a (headL (i + 1) w) : Int)), .val (.int (i : Int)), .val (.str (S (headL (i + 1) w))), .nil] := by
  have hlim : lim = 16000000 := rfl
  have l1 := dig_len (n := i + 1) (by omega)
  have l2 := head_len (i + 1) w
  have l3 := ok.2.1
  have hs := v_law_sum a (headL (i + 1) w) (by omega) (head_sigs ok.2.2)
  have hn' := pStr_suc (i := i) (by omega)
  have q0 : pIx (.tuple wd) (.int (i : Int)) = some (.str (S w)) := pIx_tuple hw
  have q1 : pAdd (.str (S (dig (i + 1)))) (.str (S [32])) = some (.str (S (dig (i + 1) ++ [32]))) := pAdd_S (by simp; omega)
  have q2 : pAdd (.str (S (dig (i + 1) ++ [32]))) (.str (S w)) = some (.str (S (dig (i + 1) ++ 32 :: w))) := by
    rw [pAdd_S (by simp; omega)]
    simp
  have q3 : pAdd (.str (S (dig (i + 1) ++ 32 :: w))) (.str (S [32])) = some (.str (S (headL (i + 1) w))) := by
    rw [pAdd_S (by simp; omega)]
    unfold headL
    simp
  have q6 : pAdd (.str (S (lineL a (i + 1) w))) (.str (S [10])) = some (.str (S (leafT a (i + 1) w))) := pAdd_S (by rw [line_len]; simp; omega)
  have q5 : pAdd (.str (S (headL (i + 1) w ++ [35]))) (.str (S (tail5 (sumN a (headL (i + 1) w))))) = some (.str (S (lineL a (i + 1) w))) := by
    rw [pAdd_S (by rw [tail5_len (sumN_lt _ _)]; simp; omega)]
    unfold lineL
    simp
  have q4 : pAdd (.str (S (headL (i + 1) w))) (.str (S [35])) = some (.str (S (headL (i + 1) w ++ [35]))) := pAdd_S (by simp; omega)
  have q7 := dl5_at (.val (.tuple wd)) (.own lv) (.val (.int (i : Int))) (.val (.str (S (headL (i + 1) w)))) (sumN a (headL (i + 1) w)) (sumN_lt _ _)
  generalize headL (i + 1) w = hd' at *
  generalize sumN a hd' = sm at *
  generalize tail5 sm = tl at *
  unfold lleavesB
  simp [hn', q0, q1, q2, q3, hs, q4, q5, q6, q7, lz]
theorem lleaves_for (ws : List (List Nat)) (h : wordsOK ws) (hn : ws.length ≤ 900) : ∃ x y, forD (gN 3) lleavesB (rangeD 0 ws.length) [Sl.val (.tuple (ws.map strD)), .own [], .val (.int 0), .nil, .nil, .nil] = .nx [Sl.val (.tuple (ws.map strD)), .own ((leafs 0 1 ws).map strD), .val (.int (lastA 0 1 ws : Int)), x, y, .nil] := by
  have hlim : lim = 16000000 := rfl
  obtain ⟨σ', h1, x, y, rfl⟩ := forD_inv (k := gN 3) (r := lleavesB)
    (fun i σ => ∃ x y, σ = [Sl.val (.tuple (ws.map strD)), .own ((leafs 0 1 (ws.take i)).map strD), .val (.int (lastA 0 1 (ws.take i) : Int)), x, y, .nil]) (rangeD 0 ws.length) 0 [Sl.val (.tuple (ws.map strD)), .own [], .val (.int 0), .nil, .nil, .nil] ⟨.nil, .nil, by simp [leafs, lastA]⟩ (by
      rintro i d σ hd ⟨x, y, rfl⟩
      obtain ⟨hi, rfl⟩ := range_get hd
      rw [Nat.zero_add]
      have hw : ws[i]? = some ws[i] := List.getElem?_eq_getElem hi
      generalize ws[i] = w at hw
      have ok := h w (List.mem_of_getElem? hw)
      have ht : ws.take (i + 1) = ws.take i ++ [w] := by rw [List.take_add_one, hw]; rfl
      have hlen : (ws.take i).length = i := by rw [List.length_take]; omega
      have e1 : leafs 0 1 (ws.take (i + 1)) = leafs 0 1 (ws.take i) ++ [leafT (lastA 0 1 (ws.take i)) (i + 1) w] := by
        rw [ht, leafs_app, hlen, Nat.add_comm 1 i]
        rfl
      have e2 : lastA 0 1 (ws.take (i + 1)) = sumN (lastA 0 1 (ws.take i)) (headL (i + 1) w) := by
        rw [ht, lastA_app, hlen, Nat.add_comm 1 i]
        rfl
      have lz : ((leafs 0 1 (ws.take i)).map strD).length ≤ lim := by rw [List.length_map, leafs_len]; omega
      have q := lleavesB_at (ws.map strD) ((leafs 0 1 (ws.take i)).map strD) (lastA 0 1 (ws.take i)) i w y (by omega) (by rw [List.getElem?_map, hw]; rfl) ok lz
      refine ⟨[Sl.val (.tuple (ws.map strD)), .own ((leafs 0 1 (ws.take i)).map strD), .val (.int (lastA 0 1 (ws.take i) : Int)), .val (.int (i : Int)), y, .nil], by simp, _, q, .val (.int (i : Int)), .val (.str (S (headL (i + 1) w))), ?_⟩
      rw [e1, e2, List.map_append]
      rfl)
  rw [range_len, Nat.zero_add, List.take_length] at h1
  exact ⟨x, y, h1⟩
theorem law_leaves_form : d__law_leaves = dSeqS (dParO 1 2 (dLst dNil) (dC (.int 0))) (dSeqS (dFor (dRng rng1 (dCons (dCall pLen (dCons (dVar 0) dNil)) dNil)) (gN 3) lleavesB) (dRetV 1)) := by
  unfold d__law_leaves lleavesB dl5
  simp only [lit_e, lit_sp, lit_ha, lit_nl]
theorem v_law_leaves (ws : List (List Nat)) (h : wordsOK ws) (hn : ws.length ≤ 900) : F__law_leaves [.val (.tuple (ws.map strD))] = .ok (.list ((leafs 0 1 ws).map strD)) := by
  obtain ⟨x, y, h1⟩ := lleaves_for ws h hn
  have r1 := rng1_nat (n := ws.length) (by omega)
  unfold F__law_leaves
  rw [law_leaves_form]
  simp [runD, h1, r1]
end Pg

set_option maxRecDepth 100000
set_option maxHeartbeats 2000000
namespace Pg
open PySem PySem.Spec PyProof.Rows L2 DL

/-! ### the law's words -/
def tsig : List Nat := [97,98,122,48,49,57,40,41,43,45,42,60,61,44,58,59,32]
theorem lit_tsig : ("abz019()+-*<=,:; " : Str) = S tsig := id rfl
theorem tsig_sub : ∀ c ∈ tsig, c ∈ sigs := by decide
theorem flat_one {α β : Type} (f : α → β) : ∀ l : List α, (l.map fun i => [f i]).flatten = l.map f
  | [] => rfl
  | a :: l => by
    rw [List.map_cons, List.flatten_cons, flat_one f l]
    rfl
def tx (l : List Nat) (k i : Nat) : Nat := l.getD ((k + i) % l.length) 0 / (1 + i) % 17
def txC (l : List Nat) (k i : Nat) : Nat := tsig.getD (tx l k i) 0
def txW (l : List Nat) (k : Nat) : List Nat := (List.range (1 + l.getD (k % l.length) 0 % 30)).map (txC l k)
theorem txC_mem (l : List Nat) (k i : Nat) : txC l k i ∈ tsig := by
  unfold txC
  have h : tx l k i < tsig.length := Nat.mod_lt _ (by decide)
  rw [List.getD_eq_getElem?_getD, List.getElem?_eq_getElem h]
  exact List.getElem_mem h
theorem txW_ok (l : List Nat) (k : Nat) : wordOK (txW l k) ∧ (txW l k).length ≤ 30 := by
  have e : (txW l k).length = 1 + l.getD (k % l.length) 0 % 30 := by unfold txW; simp
  refine ⟨⟨?_, by omega, ?_⟩, by omega⟩
  · intro h
    rw [h] at e
    simp at e
    omega
  · intro c hc
    unfold txW at hc
    rw [List.mem_map] at hc
    obtain ⟨i, _, rfl⟩ := hc
    exact tsig_sub _ (txC_mem l k i)
theorem natsD_at {l : List Nat} {i : Nat} (h : i < l.length) : pIx (.list (natsD l)) (.int (i : Int)) = some (.int (l.getD i 0 : Int)) := by
  refine pIx_list ?_
  unfold natsD
  rw [List.getElem?_map, List.getElem?_eq_getElem h, List.getD_eq_getElem?_getD, List.getElem?_eq_getElem h]
  rfl
theorem nats_mod (l : List Nat) (hl : 0 < l.length) (k : Nat) : (Out.opt (pMod (.int (k : Int)) (.int (l.length : Int))) >>= fun y => Out.opt (pIx (.list (natsD l)) y)) = .ok (.int (l.getD (k % l.length) 0 : Int)) := by
  rw [pMod_nat hl, Out.opt_some, Out.ok_bind, natsD_at (Nat.mod_lt _ hl), Out.opt_some]
def ltxE : DS → Out D := (dOp pIx (dVar 2) (dOp pMod (dOp pFdiv (dCall pInt (dCons (dOp pIx (dVar 0) (dOp pMod (dOp pAdd (dVar 1) (dVar 4)) (dCall pLen (dCons (dVar 0) dNil)))) dNil)) (dOp pAdd (dC (.int 1)) (dVar 4))) (dC (.int 17))))
theorem ltxE_at (l : List Nat) (hl : 0 < l.length) (k i : Nat) (hi : i < 1000) (x : Sl) : ltxE [.val (.list (natsD l)), .val (.int (k : Int)), .val (.str (S tsig)), x, .val (.int (i : Int))] = .ok (.str (S [txC l k i])) := by
  have q1 := pMod_nat (a := k + i) (b := l.length) hl
  have q2 := natsD_at (l := l) (Nat.mod_lt (k + i) hl)
  rw [Int.natCast_add] at q1
  have q3 := pFdiv_nat (a := l.getD ((k + i) % l.length) 0) (b := 1 + i) (by omega) (by omega)
  have q4 : pMod (.int ((l.getD ((k + i) % l.length) 0 / (1 + i) : Nat) : Int)) (.int 17) = some (.int (tx l k i : Int)) := pMod_nat (b := 17) (by decide)
  have h : tx l k i < tsig.length := Nat.mod_lt _ (by decide)
  have q5 : pIx (.str (S tsig)) (.int (tx l k i : Int)) = some (.str (S [txC l k i])) := pIx_S (by simp [tsig, lim]) (by
    unfold txC
    rw [List.getD_eq_getElem?_getD, List.getElem?_eq_getElem h]
    rfl)
  rw [Int.natCast_add 1 i] at q3
  generalize l.getD ((k + i) % l.length) 0 / (1 + i) = z at q3 q4
  generalize l.getD ((k + i) % l.length) 0 = z2 at q2 q3
  generalize (k + i) % l.length = z3 at q1 q2
  have q3' : pFdiv (.int (z2 : Int)) (.int (1 + (i : Int))) = some (.int (z : Int)) := q3
  unfold ltxE
  simp [q1, q2, q3', q4, q5]
theorem law_text_form : d__law_text = (dSeqS (dSet 2 (dC (.str (S tsig))))
  (dSeqS (dSet 3 (dCall pInt (dCons (dOp pIx (dVar 0) (dOp pMod (dVar 1) (dCall pLen (dCons (dVar 0) dNil)))) dNil)))
  (dRet (dSM pJoin (dC (.str (S []))) (dCons (dL (lcD (dRng rng1 (dCons (dOp pAdd (dC (.int 1)) (dOp pMod (dVar 3) (dC (.int 30)))) dNil)) (gN 4) dYes ltxE [4])) dNil))))) := by
  unfold d__law_text ltxE
  simp only [lit_tsig, lit_e]
theorem v_law_text (l : List Nat) (hl : 0 < l.length) (k : Nat) : F__law_text [.val (.list (natsD l)), .val (.int (k : Int))] = .ok (.str (S (txW l k))) := by
  have q1 := pMod_nat (a := k) (b := l.length) hl
  have q2 := natsD_at (l := l) (Nat.mod_lt k hl)
  generalize hz : l.getD (k % l.length) 0 = z at q2
  have q3 : pMod (.int (z : Int)) (.int 30) = some (.int ((z % 30 : Nat) : Int)) := pMod_nat (b := 30) (by decide)
  have q4 : rng1 [.int (1 + ((z % 30 : Nat) : Int))] = some (rangeD 0 (1 + z % 30)) := by
    have := rng1_nat (n := 1 + z % 30) (by omega)
    rw [Int.natCast_add] at this
    exact this
  have q5 : lcGo (lcStep (gN 4) dYes ltxE [.val (.list (natsD l)), .val (.int (k : Int)), .val (.str (S tsig)), .val (.int (z : Int)), .nil]) (rangeD 0 (1 + z % 30)) = .ok (((List.range (1 + z % 30)).map fun i => [txC l k i]).map fun x => .str (S x)) := by
    rw [range_map, List.map_map]
    refine lcGo_map _ fun i hi => ?_
    have := ltxE_at l hl k i (by have := List.mem_range.mp hi; omega) (.val (.int (z : Int)))
    simp [this]
  have q6 := pJoin_L (ls := (List.range (1 + z % 30)).map fun i => [txC l k i]) (by
    rw [flat_one]
    have : lim = 16000000 := rfl
    simp
    omega)
  have e : ((List.range (1 + z % 30)).map fun i => [txC l k i]).flatten = txW l k := by
    unfold txW
    rw [hz, flat_one]
  rw [e] at q6
  generalize ((List.range (1 + z % 30)).map fun i => [txC l k i]) = ls at q5 q6
  have hb : 1 + z % 30 ≤ lim := by have : lim = 16000000 := rfl; omega
  generalize z % 30 = z3 at *
  generalize k % l.length = z4 at *
  unfold F__law_text
  rw [law_text_form]
  simp [runD, q1, q2, q3, q4, q5, q6, hb, -List.map_map]

/-! ### what is due -/
def dueB : DS → Res := (dIfS (dB (dOp pEq (dSl (dVar 2) dPN (dPS (dCall pLen (dCons (dSM pJoin (dC (.str (S []))) (dCons (dSl (dVar 0) dPN (dPS (dOp pAdd (dVar 4) (dC (.int 1))))) dNil)) dNil)))) (dSM pJoin (dC (.str (S []))) (dCons (dSl (dVar 0) dPN (dPS (dOp pAdd (dVar 4) (dC (.int 1))))) dNil))))
      (dSet 3 (dOp pAdd (dVar 4) (dC (.int 1))))
      dNext)
theorem cut_L (ls : List (List Nat)) (k : Nat) : cutG (ls.map strD) none (some (k : Int)) = (ls.take k).map strD := by
  rw [cutG_take, List.map_take]
theorem dueB_at (ls : List (List Nat)) (t : List Nat) (b x : Sl) (k i : Nat) (hl : ls.flatten.length ≤ 100000) (ht : t.length ≤ 100000) : dueB [.val (.list (ls.map strD)), b, .val (.str (S t)), .val (.int (k : Int)), .val (.int (i : Int))] = .nx [.val (.list (ls.map strD)), b, .val (.str (S t)), .val (.int ((if (ls.take (i + 1)).flatten <+: t then i + 1 else k : Nat) : Int)), .val (.int (i : Int))] := by
  have hlim : lim = 16000000 := rfl
  have ht' : t.length ≤ lim := by omega
  have l2 := flat_take_le ls (i + 1)
  have l3 : (ls.take (i + 1)).flatten.length ≤ lim := by omega
  have q1 := cut_L ls (i + 1)
  rw [Int.natCast_add] at q1
  have q2 : pJoin (.str (S [])) [.list ((ls.take (i + 1)).map strD)] = some (.str (S (ls.take (i + 1)).flatten)) := pJoin_L l3
  have q3 := pLen_S l3
  have q4 := cutG_take t (ls.take (i + 1)).flatten.length
  have q5 : (t.take (ls.take (i + 1)).flatten.length = (ls.take (i + 1)).flatten) ↔ (ls.take (i + 1)).flatten <+: t := by
    rw [List.prefix_iff_eq_take]
    exact eq_comm
  generalize (ls.take (i + 1)).map strD = l5 at *
  generalize (ls.take (i + 1)).flatten = fl at *
  have q1' : cutG (ls.map strD) none (some ((i : Int) + 1)) = l5 := q1
  unfold dueB
  by_cases h : fl <+: t
  · simp [q1', q2, q3, q4, pSl_S ht', q5.mpr h, if_pos h]
  · have h' := fun z => h (q5.mp z)
    simp [q1', q2, q3, q4, pSl_S ht', h', if_neg h]
    exact fun z => absurd z h'
def isDue (ls : List (List Nat)) (t : List Nat) (k : Nat) : Prop := k ≤ ls.length ∧ (ls.take k).flatten <+: t ∧ (k < ls.length → ¬ (ls.take (k + 1)).flatten <+: t)
theorem due_for (ls : List (List Nat)) (t : List Nat) (b : Sl) (hl : ls.flatten.length ≤ 100000) (ht : t.length ≤ 100000) : ∃ k x, isDue ls t k ∧ forD (gN 4) dueB (rangeD 0 ls.length) [.val (.list (ls.map strD)), b, .val (.str (S t)), .val (.int 0), .nil] = .nx [.val (.list (ls.map strD)), b, .val (.str (S t)), .val (.int (k : Int)), x] := by
  obtain ⟨σ', h1, k, x, h2, h3, h4, rfl⟩ := forD_inv (k := gN 4) (r := dueB)
    (fun i σ => ∃ (k : Nat) (x : Sl), k ≤ i ∧ (ls.take k).flatten <+: t ∧ (∀ j, k < j → j ≤ i → ¬ (ls.take j).flatten <+: t) ∧ σ = [.val (.list (ls.map strD)), b, .val (.str (S t)), .val (.int (k : Int)), x]) (rangeD 0 ls.length) 0 [.val (.list (ls.map strD)), b, .val (.str (S t)), .val (.int 0), .nil] ⟨0, .nil, Nat.le_refl _, by simp, fun j h1 h2 => by omega, rfl⟩ (by
      rintro i d σ hd ⟨k, x, h2, h3, h4, rfl⟩
      obtain ⟨hi, rfl⟩ := range_get hd
      rw [Nat.zero_add] at *
      refine ⟨[.val (.list (ls.map strD)), b, .val (.str (S t)), .val (.int (k : Int)), .val (.int (i : Int))], by simp, _, dueB_at ls t b x k i hl ht, _, _, ?_, ?_, ?_, rfl⟩
      · split <;> omega
      · split
        · assumption
        · exact h3
      · intro j hj1 hj2
        split at hj1
        · omega
        · rename_i hn
          by_cases e : j = i + 1
          · rw [e]; exact hn
          · exact h4 j hj1 (by omega))
  rw [range_len, Nat.zero_add] at h2 h4
  exact ⟨k, x, ⟨h2, h3, fun h => h4 (k + 1) (by omega) (by omega)⟩, h1⟩
theorem law_due_form : d__law_due = (dSeqS (dSet 3 (dC (.int 0)))
  (dSeqS (dFor (dRng rng1 (dCons (dCall pLen (dCons (dVar 0) dNil)) dNil)) (gN 4) dueB)
  (dRet (dTup (dCons (dSl (dVar 1) dPN (dPS (dVar 3))) (dCons (dCall pLen (dCons (dSM pJoin (dC (.str (S []))) (dCons (dSl (dVar 0) dPN (dPS (dVar 3))) dNil)) dNil)) dNil)))))) := by
  unfold d__law_due dueB
  simp only [lit_e]
theorem cut_T (ws : List D) (k : Nat) : cutG ws none (some (k : Int)) = ws.take k := cutG_take ws k
theorem v_law_due (ls ws : List (List Nat)) (t : List Nat) (hn : ls.length ≤ 1000) (hl : ls.flatten.length ≤ 100000) (ht : t.length ≤ 100000) : ∃ k, isDue ls t k ∧ F__law_due [.val (.list (ls.map strD)), .val (.tuple (ws.map strD)), .val (.str (S t))] = .ok (.tuple [.tuple ((ws.take k).map strD), .int ((ls.take k).flatten.length : Int)]) := by
  have hlim : lim = 16000000 := rfl
  obtain ⟨k, x, h1, h2⟩ := due_for ls t (.val (.tuple (ws.map strD))) hl ht
  refine ⟨k, h1, ?_⟩
  have r1 := rng1_nat (n := ls.length) (by omega)
  have l2 := flat_take_le ls k
  have l3 : (ls.take k).flatten.length ≤ lim := by omega
  have q1 := cut_L ls k
  have q2 : pJoin (.str (S [])) [.list ((ls.take k).map strD)] = some (.str (S (ls.take k).flatten)) := pJoin_L l3
  have q3 := pLen_S l3
  have q6 := cut_L ws k
  generalize (ls.take k).map strD = l5 at *
  generalize (ls.take k).flatten = fl at *
  generalize (ws.take k).map strD = l6 at *
  unfold F__law_due
  rw [law_due_form]
  simp [runD, r1, h2, q1, q2, q3, q6]
end Pg

set_option maxRecDepth 100000
set_option maxHeartbeats 2000000
namespace Pg
open PySem PySem.Spec PyProof.Rows L2 DL

/-! ### where a sign first stands -/
theorem first_eq {c : Nat} : ∀ (a a' b b' : List Nat), a ++ c :: b = a' ++ c :: b' → c ∉ a → c ∉ a' → a = a' ∧ b = b'
  | [], [], b, b', h, _, _ => ⟨rfl, by simpa using h⟩
  | [], x :: a', b, b', h, _, n' => by
    simp at h
    exact absurd (h.1 ▸ List.mem_cons_self) n'
  | x :: a, [], b, b', h, n, _ => by
    simp at h
    exact absurd (h.1 ▸ List.mem_cons_self) n
  | x :: a, y :: a', b, b', h, n, n' => by
    simp at h
    obtain ⟨h1, h2⟩ := first_eq a a' b b' h.2 (fun z => n (List.mem_cons_of_mem _ z)) (fun z => n' (List.mem_cons_of_mem _ z))
    exact ⟨by rw [h.1, h1], h2⟩
theorem first_pre {c : Nat} {a a' b : List Nat} (h : a ++ [c] <+: a' ++ c :: b) (n : c ∉ a) (n' : c ∉ a') : a = a' := by
  obtain ⟨z, e⟩ := h
  rw [List.append_assoc] at e
  exact (first_eq (c := c) a a' z b e n n').1
/-- a leaf's number is the number that is written -/
theorem num_pre {a n m : Nat} {w z : List Nat} (h : leafT a n w <+: dig m ++ 32 :: z) : n = m := by
  obtain ⟨y, e⟩ := h
  unfold leafT lineL headL at e
  have e2 : dig n ++ 32 :: (w ++ [32] ++ (35 :: tail5 (sumN a (dig n ++ 32 :: (w ++ [32]))) ++ [10] ++ y)) = dig m ++ 32 :: z := by
    rw [← e]
    simp
  exact TL.numL_inj (first_eq _ _ _ _ e2 (TL.numL_free (by decide)) (TL.numL_free (by decide))).1
theorem bad_num {a n m : Nat} {z : List Nat} (h : n ≠ m) : Bad a n (dig m ++ 32 :: z) := fun w _ q => h (num_pre q)
theorem bad_leaf {a n b m : Nat} {w z : List Nat} (h : n ≠ m) : Bad a n (leafT b m w ++ z) := by
  have e : leafT b m w ++ z = dig m ++ 32 :: (w ++ [32] ++ (35 :: tail5 (sumN b (headL m w)) ++ [10] ++ z)) := by
    unfold leafT lineL headL
    simp
  rw [e]
  exact bad_num h
theorem bad_nl {a n : Nat} {rest : List Nat} (h : 10 ∉ rest) : Bad a n rest := fun w _ q => by
  obtain ⟨z, e⟩ := q
  refine h ?_
  rw [← e]
  unfold leafT
  simp
/-! ### the places of a line -/
theorem line_get {a n p c : Nat} {w : List Nat} (h : (lineL a n w)[p]? = some c) : (p < (headL n w).length ∧ c ∈ headL n w) ∨ (p = (headL n w).length ∧ c = 35) ∨ ((headL n w).length < p ∧ p < (headL n w).length + 6 ∧ 48 ≤ c ∧ c ≤ 57) := by
  unfold lineL at h
  generalize headL n w = hd at h ⊢
  have tl := tail5_len (sumN_lt a hd)
  have td : ∀ c ∈ tail5 (sumN a hd), 48 ≤ c ∧ c ≤ 57 := by
    intro c hc
    unfold tail5 at hc
    rw [List.mem_append] at hc
    rcases hc with hc | hc
    · have := List.eq_of_mem_replicate hc
      omega
    · exact dig_sigs hc
  by_cases h1 : p < hd.length
  · rw [List.getElem?_append_left h1] at h
    exact .inl ⟨h1, List.mem_of_getElem? h⟩
  · rw [List.getElem?_append_right (by omega)] at h
    by_cases h2 : p = hd.length
    · rw [h2, Nat.sub_self] at h
      cases h
      exact .inr (.inl ⟨h2, rfl⟩)
    · obtain ⟨q, hq⟩ : ∃ q, p - hd.length = q + 1 := ⟨p - hd.length - 1, by omega⟩
      rw [hq, List.getElem?_cons_succ] at h
      have hl : q < 5 := by
        by_cases z : q < 5
        · exact z
        · rw [List.getElem?_eq_none (by omega)] at h
          cases h
      have := td c (List.mem_of_getElem? h)
      exact .inr (.inr ⟨by omega, by omega, this⟩)
theorem line_mid (a n : Nat) (w : List Nat) : (lineL a n w)[(headL n w).length]? = some 35 := by
  unfold lineL
  rw [List.getElem?_append_right (Nat.le_refl _), Nat.sub_self]
  rfl
theorem no35 {n : Nat} {w : List Nat} (h : wordOK w) : 35 ∉ headL n w := fun z => by
  have := head_sigs h.2.2 35 z
  revert this
  decide
/-- no line is another line's beginning -/
theorem no_pre {a n a' n' : Nat} {w w' : List Nat} (ok : wordOK w') (h : lineL a n w <+: lineL a' n' w') (hl : (lineL a n w).length < (lineL a' n' w').length) : False := by
  obtain ⟨z, e⟩ := h
  have g := line_mid a n w
  have g2 : (lineL a' n' w')[(headL n w).length]? = some 35 := by
    rw [← e, List.getElem?_append_left (by rw [line_len]; omega)]
    exact g
  rw [line_len, line_len] at hl
  rcases line_get g2 with ⟨h1, h2⟩ | ⟨h1, h2⟩ | ⟨h1, h2, h3⟩
  · exact no35 ok h2
  · omega
  · omega
/-! ### weighed sums -/
def phi (W : Nat → Int) : Nat → List Nat → Int
  | _, [] => 0
  | k, c :: l => W k * (ixs c : Int) + phi W (k + 1) l
theorem phi_app (W : Nat → Int) : ∀ (a b : List Nat) (k : Nat), phi W k (a ++ b) = phi W k a + phi W (k + a.length) b
  | [], b, k => by simp [phi]
  | c :: a, b, k => by
    have ih := phi_app W a b (k + 1)
    show W k * (ixs c : Int) + phi W (k + 1) (a ++ b) = W k * (ixs c : Int) + phi W (k + 1) a + phi W (k + (a.length + 1)) b
    rw [ih, show k + (a.length + 1) = k + 1 + a.length from by omega]
    omega
def Wt (h i : Nat) : Int := if i < h then (i : Int) + 1 else if i = h then 0 else -((10 ^ (h + 5 - i) : Nat) : Int)
def tri : Nat → Nat → Int
  | _, 0 => 0
  | k, n + 1 => (k : Int) + 1 + tri (k + 1) n
theorem phi_head (h : Nat) : ∀ (l : List Nat) (k : Nat), k + l.length ≤ h → phi (Wt h) k l = (wsum k l : Int) - tri k l.length
  | [], k, _ => rfl
  | c :: l, k, hk => by
    have hk2 : k + (l.length + 1) ≤ h := hk
    have ih := phi_head h l (k + 1) (by omega)
    have e : Wt h k = (k : Int) + 1 := if_pos (by omega)
    show Wt h k * (ixs c : Int) + phi (Wt h) (k + 1) l = (((k + 1) * (ixs c + 1) + wsum (k + 1) l : Nat) : Int) - ((k : Int) + 1 + tri (k + 1) l.length)
    have z : (((k + 1) * (ixs c + 1) : Nat) : Int) = ((k : Int) + 1) * (ixs c : Int) + ((k : Int) + 1) := by
      rw [Nat.mul_add, Nat.mul_one, Int.natCast_add, Int.natCast_mul]
      rfl
    rw [ih, e, Int.natCast_add, z]
    omega
theorem ixs_dig {v : Nat} (h : v < 10) : ixs (48 + v) = 26 + v := by
  have : ∀ k : Fin 10, ixs (48 + k.val) = 26 + k.val := by decide +kernel
  exact this ⟨v, h⟩
theorem phi_tail (h s : Nat) (hs : s < 99989) : phi (Wt h) (h + 1) (tail5 s) = -((s : Int) + 288886) := by
  rw [tail5_digits hs]
  have w4 : Wt h (h + 1) = -10000 := by unfold Wt; rw [if_neg (by omega), if_neg (by omega), show h + 5 - (h + 1) = 4 from by omega]; rfl
  have w3 : Wt h (h + 1 + 1) = -1000 := by unfold Wt; rw [if_neg (by omega), if_neg (by omega), show h + 5 - (h + 1 + 1) = 3 from by omega]; rfl
  have w2 : Wt h (h + 1 + 1 + 1) = -100 := by unfold Wt; rw [if_neg (by omega), if_neg (by omega), show h + 5 - (h + 1 + 1 + 1) = 2 from by omega]; rfl
  have w1 : Wt h (h + 1 + 1 + 1 + 1) = -10 := by unfold Wt; rw [if_neg (by omega), if_neg (by omega), show h + 5 - (h + 1 + 1 + 1 + 1) = 1 from by omega]; rfl
  have w0 : Wt h (h + 1 + 1 + 1 + 1 + 1) = -1 := by unfold Wt; rw [if_neg (by omega), if_neg (by omega), show h + 5 - (h + 1 + 1 + 1 + 1 + 1) = 0 from by omega]; rfl
  simp only [phi]
  rw [w4, w3, w2, w1, w0, ixs_dig (Nat.mod_lt _ (by decide)), ixs_dig (Nat.mod_lt _ (by decide)), ixs_dig (Nat.mod_lt _ (by decide)), ixs_dig (Nat.mod_lt _ (by decide)), ixs_dig (Nat.mod_lt _ (by decide))]
  omega
theorem phi_line (a n : Nat) (w : List Nat) : ∃ q : Int, phi (Wt (headL n w).length) 0 (lineL a n w) = 99989 * q - 11 * (a : Int) - tri 0 (headL n w).length - 288886 := by
  have e1 := phi_head (headL n w).length (headL n w) 0 (by omega)
  have e2 := phi_tail (headL n w).length (sumN a (headL n w)) (sumN_lt _ _)
  have e3 : Wt (headL n w).length (headL n w).length = 0 := by unfold Wt; rw [if_neg (by omega), if_pos rfl]
  refine ⟨((11 * a + wsum 0 (headL n w)) / 99989 : Nat), ?_⟩
  unfold lineL
  rw [phi_app, Nat.zero_add, e1]
  show _ + (Wt _ _ * (ixs 35 : Int) + phi _ _ _) = _
  rw [e2, e3, Int.zero_mul]
  have := Nat.div_add_mod (11 * a + wsum 0 (headL n w)) 99989
  unfold sumN
  omega
theorem phi_two {a n : Nat} {w w' : List Nat} (h : (lineL a n w).length = (lineL a n w').length) : ∃ q : Int, phi (Wt (headL n w).length) 0 (lineL a n w) - phi (Wt (headL n w).length) 0 (lineL a n w') = 99989 * q := by
  have e : (headL n w).length = (headL n w').length := by rw [line_len, line_len] at h; omega
  obtain ⟨q, h1⟩ := phi_line a n w
  obtain ⟨q', h2⟩ := phi_line a n w'
  rw [← e] at h2
  exact ⟨q - q', by omega⟩
theorem ixs_all : (sigs.all fun c => sigs.all fun d => ixs c != ixs d || c == d) = true := by decide +kernel
theorem ixs_inj {c d : Nat} (hc : c ∈ sigs) (hd : d ∈ sigs) (h : ixs c = ixs d) : c = d := by
  have := List.all_eq_true.mp (List.all_eq_true.mp ixs_all c hc) d hd
  simpa [h] using this
theorem ixs_lt {c : Nat} (hc : c ∈ sigs) : ixs c < 47 := List.idxOf_lt_length_of_mem hc
theorem ixs_digit {c : Nat} (h1 : 48 ≤ c) (h2 : c ≤ 57) : 26 ≤ ixs c ∧ ixs c ≤ 35 := by
  have := ixs_dig (v := c - 48) (by omega)
  rw [show 48 + (c - 48) = c from by omega] at this
  omega
theorem small_zero {x q : Int} (h : x = 99989 * q) (h1 : -99989 < x) (h2 : x < 99989) : x = 0 := by omega
theorem mul_bd {x y : Int} {m n : Nat} (hx : x.natAbs ≤ m) (hy : y.natAbs ≤ n) : (x * y).natAbs ≤ m * n := by
  rw [Int.natAbs_mul]
  exact Nat.mul_le_mul hx hy
theorem no_mul {x y q : Int} {m n : Nat} (h : x * y = 99989 * q) (hx : x.natAbs ≤ m) (hy : y.natAbs ≤ n) (hb : m * n < 99989) (nx : x ≠ 0) (ny : y ≠ 0) : False := by
  have b := mul_bd hx hy
  have z := small_zero h (by omega) (by omega)
  rcases Int.mul_eq_zero.mp z with h | h
  · exact nx h
  · exact ny h
theorem pow_le4 {e : Nat} (h : e ≤ 4) : 10 ^ e ≤ 10000 := Nat.pow_le_pow_right (by decide) h
theorem pow_pos4 (e : Nat) : 1 ≤ 10 ^ e := Nat.pos_of_ne_zero (by simp)
/-- no line differs from a line in one place -/
theorem no_one {a n : Nat} {w w' x y : List Nat} {c d : Nat} (ok : wordOK w) (ok' : wordOK w') (hb : (headL n w).length ≤ 1000) (e : lineL a n w = x ++ d :: y) (e' : lineL a n w' = x ++ c :: y) (hcd : d ≠ c) : False := by
  obtain ⟨q, hq⟩ := phi_two (a := a) (n := n) (w := w) (w' := w') (by rw [e, e', List.length_append, List.length_append]; rfl)
  have hh : (headL n w).length = (headL n w').length := by
    have l1 := congrArg List.length e
    have l2 := congrArg List.length e'
    rw [line_len, List.length_append, List.length_cons] at l1 l2
    omega
  have g : (lineL a n w)[x.length]? = some d := by rw [e, List.getElem?_append_right (Nat.le_refl _), Nat.sub_self]; rfl
  have g' : (lineL a n w')[x.length]? = some c := by rw [e', List.getElem?_append_right (Nat.le_refl _), Nat.sub_self]; rfl
  rw [e, e', phi_app, phi_app] at hq
  have hq2 : Wt (headL n w).length x.length * ((ixs d : Int) - (ixs c : Int)) = 99989 * q := by
    rw [← hq, Int.mul_sub]
    show _ = phi _ _ x + (Wt _ (0 + x.length) * (ixs d : Int) + phi _ _ y) - (phi _ _ x + (Wt _ (0 + x.length) * (ixs c : Int) + phi _ _ y))
    rw [Nat.zero_add]
    omega
  have G := line_get g
  have G' := line_get g'
  rw [← hh] at G'
  rcases G with ⟨h1, h2⟩ | ⟨h1, h2⟩ | ⟨h1, h2, h3, h4⟩
  · have c2 : c ∈ headL n w' := by
      rcases G' with ⟨_, h⟩ | ⟨h, _⟩ | ⟨h, _⟩
      · exact h
      · omega
      · omega
    have s1 := head_sigs ok.2.2 d h2
    have s2 := head_sigs ok'.2.2 c c2
    have i1 := ixs_lt s1
    have i2 := ixs_lt s2
    have ne : ixs d ≠ ixs c := fun z => hcd (ixs_inj s1 s2 z)
    have wt : Wt (headL n w).length x.length = (x.length : Int) + 1 := if_pos h1
    rw [wt] at hq2
    exact no_mul (m := 1000) (n := 46) hq2 (by omega) (by omega) (by decide) (by omega) (by omega)
  · rcases G' with ⟨h, _⟩ | ⟨_, h⟩ | ⟨h, _⟩
    · omega
    · exact hcd (h2.trans h.symm)
    · omega
  · have c2 : 48 ≤ c ∧ c ≤ 57 := by
      rcases G' with ⟨h, _⟩ | ⟨h, _⟩ | ⟨_, _, h⟩
      · omega
      · omega
      · exact h
    have i1 := ixs_digit h3 h4
    have i2 := ixs_digit c2.1 c2.2
    have ne : ixs d ≠ ixs c := fun z => hcd (ixs_inj (digit_sigs d h3 h4) (digit_sigs c c2.1 c2.2) z)
    have wt : Wt (headL n w).length x.length = -((10 ^ ((headL n w).length + 5 - x.length) : Nat) : Int) := by unfold Wt; rw [if_neg (by omega), if_neg (by omega)]
    rw [wt] at hq2
    have p1 := pow_le4 (e := (headL n w).length + 5 - x.length) (by omega)
    have p2 := pow_pos4 ((headL n w).length + 5 - x.length)
    generalize 10 ^ ((headL n w).length + 5 - x.length) = P at *
    exact no_mul (m := 10000) (n := 9) hq2 (by omega) (by omega) (by decide) (by omega) (by omega)
/-- no line is a line with two places exchanged -/
theorem no_two {a n : Nat} {w w' x y z : List Nat} {c d : Nat} (ok : wordOK w) (ok' : wordOK w') (hb : (headL n w).length ≤ 900) (e : lineL a n w = x ++ d :: (y ++ c :: z)) (e' : lineL a n w' = x ++ c :: (y ++ d :: z)) (hcd : d ≠ c) : False := by
  obtain ⟨q, hq⟩ := phi_two (a := a) (n := n) (w := w) (w' := w') (by rw [e, e']; simp)
  have hh : (headL n w).length = (headL n w').length := by
    have l1 := congrArg List.length e
    have l2 := congrArg List.length e'
    rw [line_len] at l1 l2
    simp at l1 l2
    omega
  have g : (lineL a n w)[x.length]? = some d := by rw [e, List.getElem?_append_right (Nat.le_refl _), Nat.sub_self]; rfl
  have g' : (lineL a n w')[x.length]? = some c := by rw [e', List.getElem?_append_right (Nat.le_refl _), Nat.sub_self]; rfl
  have f : (lineL a n w)[x.length + (y.length + 1)]? = some c := by rw [e, List.getElem?_append_right (by omega), Nat.add_sub_cancel_left, List.getElem?_cons_succ, List.getElem?_append_right (Nat.le_refl _), Nat.sub_self]; rfl
  have f' : (lineL a n w')[x.length + (y.length + 1)]? = some d := by rw [e', List.getElem?_append_right (by omega), Nat.add_sub_cancel_left, List.getElem?_cons_succ, List.getElem?_append_right (Nat.le_refl _), Nat.sub_self]; rfl
  rw [e, e', phi_app, phi_app] at hq
  have hq2 : (Wt (headL n w).length x.length - Wt (headL n w).length (x.length + (y.length + 1))) * ((ixs d : Int) - (ixs c : Int)) = 99989 * q := by
    rw [← hq]
    show _ = phi _ _ x + (Wt _ (0 + x.length) * (ixs d : Int) + phi _ _ (y ++ c :: z)) - (phi _ _ x + (Wt _ (0 + x.length) * (ixs c : Int) + phi _ _ (y ++ d :: z)))
    rw [Nat.zero_add, phi_app, phi_app]
    show _ = phi _ _ x + (Wt _ x.length * (ixs d : Int) + (phi _ _ y + (Wt _ (x.length + 1 + y.length) * (ixs c : Int) + phi _ _ z))) - (phi _ _ x + (Wt _ x.length * (ixs c : Int) + (phi _ _ y + (Wt _ (x.length + 1 + y.length) * (ixs d : Int) + phi _ _ z))))
    rw [show x.length + (y.length + 1) = x.length + 1 + y.length from by omega, Int.sub_mul, Int.mul_sub, Int.mul_sub]
    omega
  have G := line_get g
  have G' := line_get g'
  have F := line_get f
  have F' := line_get f'
  rw [← hh] at G' F'
  generalize hp2 : x.length + (y.length + 1) = p2 at *
  rcases F with ⟨h1, h2⟩ | ⟨h1, h2⟩ | ⟨h1, h2, h3, h4⟩
  · -- both in the head
    have d2 : d ∈ headL n w := by
      rcases G with ⟨_, h⟩ | ⟨h, _⟩ | ⟨h, _⟩
      · exact h
      · omega
      · omega
    have s1 := head_sigs ok.2.2 d d2
    have s2 := head_sigs ok.2.2 c h2
    have i1 := ixs_lt s1
    have i2 := ixs_lt s2
    have ne : ixs d ≠ ixs c := fun z => hcd (ixs_inj s1 s2 z)
    have wt : Wt (headL n w).length x.length = (x.length : Int) + 1 := if_pos (by omega)
    have wt2 : Wt (headL n w).length p2 = (p2 : Int) + 1 := if_pos h1
    rw [wt, wt2] at hq2
    exact no_mul (m := 1000) (n := 46) hq2 (by omega) (by omega) (by decide) (by omega) (by omega)
  · rcases F' with ⟨h, _⟩ | ⟨_, h⟩ | ⟨h, _⟩
    · omega
    · exact hcd (h.trans h2.symm)
    · omega
  · have d2 : 48 ≤ d ∧ d ≤ 57 := by
      rcases F' with ⟨h, _⟩ | ⟨h, _⟩ | ⟨_, _, h⟩
      · omega
      · omega
      · exact h
    have i1 := ixs_digit h3 h4
    have i2 := ixs_digit d2.1 d2.2
    have ne : ixs d ≠ ixs c := fun z => hcd (ixs_inj (digit_sigs d d2.1 d2.2) (digit_sigs c h3 h4) z)
    have wt2 : Wt (headL n w).length p2 = -((10 ^ ((headL n w).length + 5 - p2) : Nat) : Int) := by unfold Wt; rw [if_neg (by omega), if_neg (by omega)]
    have p3 := pow_le4 (e := (headL n w).length + 5 - p2) (by omega)
    have p4 := pow_pos4 ((headL n w).length + 5 - p2)
    rcases G with ⟨k1, k2⟩ | ⟨k1, k2⟩ | ⟨k1, k2, k3, k4⟩
    · have wt : Wt (headL n w).length x.length = (x.length : Int) + 1 := if_pos (by omega)
      rw [wt, wt2] at hq2
      generalize 10 ^ ((headL n w).length + 5 - p2) = P at *
      exact no_mul (m := 11000) (n := 9) hq2 (by omega) (by omega) (by decide) (by omega) (by omega)
    · rcases G' with ⟨h, _⟩ | ⟨_, h⟩ | ⟨h, _⟩
      · omega
      · exact hcd (k2.trans h.symm)
      · omega
    · have wt : Wt (headL n w).length x.length = -((10 ^ ((headL n w).length + 5 - x.length) : Nat) : Int) := by unfold Wt; rw [if_neg (by omega), if_neg (by omega)]
      have p5 := pow_le4 (e := (headL n w).length + 5 - x.length) (by omega)
      have p6 : 10 ^ ((headL n w).length + 5 - p2) < 10 ^ ((headL n w).length + 5 - x.length) := Nat.pow_lt_pow_right (by decide) (by omega)
      rw [wt, wt2] at hq2
      generalize 10 ^ ((headL n w).length + 5 - p2) = P at *
      generalize 10 ^ ((headL n w).length + 5 - x.length) = P2 at *
      exact no_mul (m := 10000) (n := 9) hq2 (by omega) (by omega) (by decide) (by omega) (by omega)
end Pg

set_option maxRecDepth 100000
set_option maxHeartbeats 2000000
namespace Pg
open PySem PySem.Spec PyProof.Rows L2 DL

theorem pre_le {l1 l2 l3 : List Nat} (h1 : l1 <+: l3) (h2 : l2 <+: l3) (h : l1.length ≤ l2.length) : l1 <+: l2 := List.prefix_of_prefix_length_le h1 h2 h
theorem leaf_pre_line {a n : Nat} {w' l : List Nat} (h : leafT a n w' <+: l) : 10 ∈ l := by
  obtain ⟨z, e⟩ := h
  rw [← e]
  unfold leafT
  simp
/-- a leaf with one other sign is no leaf -/
theorem bad_change {a n : Nat} {w more : List Nat} (ok : wordOK w) (hb : (headL n w).length ≤ 900) {p c : Nat} (hp : p < (leafT a n w).length) (hc : (leafT a n w)[p]? ≠ some c) : Bad a n ((leafT a n w).take p ++ c :: ((leafT a n w).drop (p + 1) ++ more)) := by
  intro w' ok' q
  have nl := lineL_nl a n w ok
  have nl' := lineL_nl a n w' ok'
  have hl : (leafT a n w).length = (lineL a n w).length + 1 := by unfold leafT; simp
  by_cases h : p = (lineL a n w).length
  · have e1 : (leafT a n w).take p = lineL a n w := by rw [h]; unfold leafT; rw [List.take_left]
    have e2 : (leafT a n w).drop (p + 1) = [] := List.drop_eq_nil_of_le (by omega)
    have hc2 : c ≠ 10 := fun z => hc (by
      rw [h, z]
      unfold leafT
      rw [List.getElem?_append_right (Nat.le_refl _), Nat.sub_self]
      rfl)
    rw [e1, e2] at q
    have r1 : lineL a n w <+: lineL a n w ++ c :: ([] ++ more) := List.prefix_append _ _
    have r2 : lineL a n w ++ [c] <+: lineL a n w ++ c :: ([] ++ more) := ⟨more, by simp⟩
    have hl' : (leafT a n w').length = (lineL a n w').length + 1 := by unfold leafT; simp
    by_cases k1 : (leafT a n w').length ≤ (lineL a n w).length
    · exact nl (leaf_pre_line (pre_le q r1 k1))
    by_cases k2 : (leafT a n w').length ≤ (lineL a n w ++ [c]).length
    · have := leaf_pre_line (pre_le q r2 k2)
      rw [List.mem_append, List.mem_singleton] at this
      rcases this with z | z
      · exact nl z
      · exact hc2 z.symm
    · have r3 : lineL a n w' <+: lineL a n w ++ c :: ([] ++ more) := List.IsPrefix.trans (by unfold leafT; exact List.prefix_append _ _) q
      rw [List.length_append, List.length_singleton] at k2
      exact no_pre ok' (pre_le r1 r3 (by omega)) (by omega)
  · have hp2 : p < (lineL a n w).length := by omega
    have e1 : (leafT a n w).take p = (lineL a n w).take p := by unfold leafT; rw [List.take_append_of_le_length (by omega)]
    have e2 : (leafT a n w).drop (p + 1) = (lineL a n w).drop (p + 1) ++ [10] := by unfold leafT; rw [List.drop_append_of_le_length (by omega)]
    have e3 : (lineL a n w)[p]? = some (lineL a n w)[p] := List.getElem?_eq_getElem hp2
    have e4 : (leafT a n w)[p]? = (lineL a n w)[p]? := by unfold leafT; rw [List.getElem?_append_left hp2]
    generalize (lineL a n w)[p] = d at e3
    have hdc : d ≠ c := fun z => hc (by rw [e4, e3, z])
    have e5 : lineL a n w = (lineL a n w).take p ++ d :: (lineL a n w).drop (p + 1) := by
      have := List.take_append_drop p (lineL a n w)
      rw [List.drop_eq_getElem_cons hp2] at this
      have g := e3
      rw [List.getElem?_eq_getElem hp2] at g
      cases g
      exact this.symm
    rw [e1, e2] at q
    have lx : ((lineL a n w).take p).length = p := by rw [List.length_take]; omega
    have nx : 10 ∉ (lineL a n w).take p := fun z => nl (List.mem_of_mem_take z)
    have ny : 10 ∉ (lineL a n w).drop (p + 1) := fun z => nl (List.mem_of_mem_drop z)
    generalize (lineL a n w).take p = x at *
    generalize (lineL a n w).drop (p + 1) = y at *
    unfold leafT at q
    by_cases h10 : c = 10
    · rw [h10] at q
      have := first_pre q nl' nx
      exact no_pre ok (w := w') (a := a) (n := n) (by rw [this, e5]; exact List.prefix_append _ _) (by rw [this, e5]; simp)
    · have q2 : lineL a n w' ++ [10] <+: (x ++ c :: y) ++ 10 :: more := by
        rw [show (x ++ c :: y) ++ 10 :: more = x ++ c :: (y ++ [10] ++ more) from by simp]
        exact q
      have := first_pre q2 nl' (by
        rw [List.mem_append, List.mem_cons]
        rintro (z | z | z)
        · exact nx z
        · exact h10 z.symm
        · exact ny z)
      exact no_one ok ok' (by omega) e5 this hdc
/-- a leaf with two signs exchanged is no leaf -/
theorem bad_swap {a n : Nat} {w more x y z : List Nat} {c d : Nat} (ok : wordOK w) (hb : (headL n w).length ≤ 900) (e : leafT a n w = x ++ d :: (y ++ c :: z)) (hcd : d ≠ c) : Bad a n (x ++ c :: (y ++ d :: (z ++ more))) := by
  intro w' ok' q
  have nl := lineL_nl a n w ok
  have nl' := lineL_nl a n w' ok'
  unfold leafT at q
  rcases List.eq_nil_or_concat z with hz | ⟨z', l, hz⟩
  · rw [hz] at e
    have e2 : lineL a n w ++ [10] = (x ++ d :: y) ++ [c] := by
      show leafT a n w = _
      rw [e]
      simp
    have e3 := List.append_inj' e2 rfl
    have hc : c = 10 := by
      have := e3.2
      simp at this
      exact this.symm
    rw [hc] at q
    have nx : 10 ∉ x := fun z => nl (by rw [e3.1]; exact List.mem_append_left _ z)
    have := first_pre q nl' nx
    exact no_pre ok (w := w') (a := a) (n := n) (by rw [this, e3.1]; exact List.prefix_append _ _) (by rw [this, e3.1]; simp)
  · rw [hz, List.concat_eq_append] at e
    have e2 : lineL a n w ++ [10] = (x ++ d :: (y ++ c :: z')) ++ [l] := by
      show leafT a n w = _
      rw [e]
      simp
    have e3 := List.append_inj' e2 rfl
    have hl : l = 10 := by
      have := e3.2
      simp at this
      exact this.symm
    rw [hz, List.concat_eq_append, hl] at q
    have q2 : lineL a n w' ++ [10] <+: (x ++ c :: (y ++ d :: z')) ++ 10 :: more := by
      rw [show (x ++ c :: (y ++ d :: z')) ++ 10 :: more = x ++ c :: (y ++ d :: (z' ++ [10] ++ more)) from by simp]
      exact q
    rw [e3.1] at nl
    have := first_pre q2 nl' (by
      simp only [List.mem_append, List.mem_cons] at nl ⊢
      intro z
      exact nl (by
        rcases z with z | z | z | z | z
        · exact .inl z
        · exact .inr (.inr (.inr (.inl z)))
        · exact .inr (.inr (.inl z))
        · exact .inr (.inl z)
        · exact .inr (.inr (.inr (.inr z)))))
    exact no_two ok ok' hb e3.1 this hcd
/-! ### what is due -/
def preK (ws : List (List Nat)) (k : Nat) : List Nat := (leafs 0 1 (ws.take k)).flatten
def accK (ws : List (List Nat)) (k : Nat) : Nat := lastA 0 1 (ws.take k)
def leafK (ws : List (List Nat)) (k : Nat) (w : List Nat) : List Nat := leafT (accK ws k) (1 + k) w
def whole (ws : List (List Nat)) : List Nat := (leafs 0 1 ws).flatten
theorem take_suc {α : Type} {ws : List α} {k : Nat} {w : α} (h : ws[k]? = some w) : ws.take (k + 1) = ws.take k ++ [w] := by rw [List.take_add_one, h]; rfl
theorem get_lt {α : Type} {ws : List α} {k : Nat} {w : α} (h : ws[k]? = some w) : k < ws.length := by
  by_cases q : k < ws.length
  · exact q
  · rw [List.getElem?_eq_none (by omega)] at h; cases h
theorem preK_suc {ws : List (List Nat)} {k : Nat} {w : List Nat} (h : ws[k]? = some w) : preK ws (k + 1) = preK ws k ++ leafK ws k w := by
  have hl := get_lt h
  unfold preK leafK accK
  rw [take_suc h, leafs_app, List.flatten_append, List.length_take, Nat.min_eq_left (by omega)]
  show _ ++ (leafT _ _ _ ++ []) = _
  rw [List.append_nil]
theorem preK_all (ws : List (List Nat)) {k : Nat} (h : ws.length ≤ k) : preK ws k = whole ws := by
  unfold preK whole
  rw [List.take_of_length_le h]
theorem preK_pre (ws : List (List Nat)) {j k : Nat} (h : j ≤ k) : preK ws j <+: preK ws k := by
  unfold preK
  rw [leafs_take, leafs_take]
  have : (leafs 0 1 ws).take j = ((leafs 0 1 ws).take k).take j := by rw [List.take_take, Nat.min_eq_left h]
  rw [this]
  generalize (leafs 0 1 ws).take k = L
  refine ⟨(L.drop j).flatten, ?_⟩
  rw [← List.flatten_append, List.take_append_drop]
theorem preK_whole (ws : List (List Nat)) (j : Nat) : preK ws j <+: whole ws := by
  rw [← preK_all ws (k := max j ws.length) (by omega)]
  exact preK_pre ws (by omega)
def Good (ws : List (List Nat)) (t : List Nat) : Prop := ∀ k rest, k ≤ ws.length → t = preK ws k ++ rest → (∀ w, ws[k]? = some w → ¬ leafK ws k w <+: rest) → Bad (accK ws k) (1 + k) rest
def resD (ws : List (List Nat)) (n : Nat) : D := .tuple [.tuple (ws.map strD), .int (n : Int)]
theorem sig_small : (sigs.all fun c => decide (c < 128)) = true := by decide
theorem sigs_lt {c : Nat} (h : c ∈ sigs) : c < 128 := of_decide_eq_true (List.all_eq_true.mp sig_small c h)
theorem strOk_S {w : List Nat} (h : ∀ c ∈ w, c < 128) : PyData.strOk (S w) = true := by
  show w.toArray.all (fun c => decide (c < 0x110000)) = true
  rw [List.all_toArray, List.all_eq_true]
  intro c hc
  have := h c hc
  exact decide_eq_true (by omega)
theorem lay_all : ∀ ws : List (List Nat), wordsOK ws → PyData.canLayAll0 (ws.map strD) = true ∧ PyData.depthAll (ws.map strD) ≤ 2
  | [], _ => by simp [PyData.canLayAll0, PyData.depthAll]
  | w :: ws, ok => by
    have ih := lay_all ws fun z hz => ok z (List.mem_cons_of_mem _ hz)
    have okw := ok w List.mem_cons_self
    refine ⟨?_, ?_⟩
    · simp [PyData.canLayAll0, strD, PyData.canLay0]
      exact ⟨strOk_S fun c hc => sigs_lt (okw.2.2 c hc), ih.1⟩
    · simp only [List.map_cons, PyData.depthAll, strD, PyData.depth]
      have := ih.2
      unfold strD at this
      omega
theorem resD_shaped {ws : List (List Nat)} (ok : wordsOK ws) (n : Nat) : SeqAt.shaped (resD ws n) = true := by
  have h := lay_all ws ok
  unfold SeqAt.shaped resD
  simp only [PyData.canLay0, PyData.canLayAll0, PyData.depth, PyData.depthAll, h.1, Bool.and_true, Bool.true_and]
  exact decide_eq_true (by have := h.2; omega)
theorem ne_self {d : D} (h : SeqAt.shaped d = true) : pNe d d = some (.bool false) := by
  have e := SeqAt.eqv_refl d (SeqAt.canLay_of_shaped h)
  have : pEqB d d = some true := by
    unfold pEqB
    split
    · simp
    · simp
    · rw [h, if_pos (by rfl), e]
  unfold pNe
  rw [this]
  rfl
theorem eq_self {d : D} (h : SeqAt.shaped d = true) : pEq d d = some (.bool true) := by
  have e := SeqAt.eqv_refl d (SeqAt.canLay_of_shaped h)
  have : pEqB d d = some true := by
    unfold pEqB
    split
    · simp
    · simp
    · rw [h, if_pos (by rfl), e]
  unfold pEq
  rw [this]
  rfl
/-- a text that begins with k leaves and then with no leaf -/
theorem words_at {ws : List (List Nat)} {k : Nat} {t rest : List Nat} (ok : wordsOK ws) (hn : ws.length ≤ 900) (ht : t.length ≤ 100000) (e : t = preK ws k ++ rest) (hk : k ≤ ws.length) (hb : Bad (accK ws k) (1 + k) rest) : F_words_in [.val (.str (S t))] = .ok (resD (ws.take k) (preK ws k).length) := by
  subst e
  have := v_words_in (ws.take k) rest (fun w h => ok w (List.mem_of_mem_take h)) (by rw [List.length_take]; omega) ht (by
    rw [List.length_take, Nat.min_eq_left hk]
    exact hb)
  exact this
theorem due_same {ws : List (List Nat)} {t : List Nat} (ok : wordsOK ws) (hn : ws.length ≤ 900) (hw : (whole ws).length ≤ 100000) (ht : t.length ≤ 100000) (g : Good ws t) : ∃ d, F_words_in [.val (.str (S t))] = .ok d ∧ F__law_due [.val (.list ((leafs 0 1 ws).map strD)), .val (.tuple (ws.map strD)), .val (.str (S t))] = .ok d ∧ pNe d d = some (.bool false) := by
  obtain ⟨k, ⟨h1, h2, h3⟩, h4⟩ := v_law_due (leafs 0 1 ws) ws t (by rw [leafs_len]; omega) hw ht
  rw [leafs_len] at h1 h3
  have e1 : ((leafs 0 1 ws).take k).flatten = preK ws k := by unfold preK; rw [leafs_take]
  have e2 : ((leafs 0 1 ws).take (k + 1)).flatten = preK ws (k + 1) := by unfold preK; rw [leafs_take]
  rw [e1] at h2 h4
  rw [e2] at h3
  obtain ⟨rest, e⟩ := h2
  have hb := g k rest h1 e.symm fun w hw q => h3 (get_lt hw) (by
    rw [preK_suc hw, ← e]
    exact (List.prefix_append_right_inj _).mpr q)
  exact ⟨_, words_at ok hn ht e.symm h1 hb, h4, ne_self (resD_shaped (fun w h => ok w (List.mem_of_mem_take h)) _)⟩
/-- the whole's beginnings are good -/
theorem good_pre {ws : List (List Nat)} {t : List Nat} (ok : wordsOK ws) (h : t <+: whole ws) : Good ws t := by
  intro k rest hk e hno
  refine bad_nl ?_
  by_cases hl : k < ws.length
  · have hw : ws[k]? = some ws[k] := List.getElem?_eq_getElem hl
    generalize ws[k] = w at hw
    have okw := ok w (List.mem_of_getElem? hw)
    have p1 : preK ws k ++ leafK ws k w <+: whole ws := by
      rw [← preK_suc hw]
      exact preK_whole ws (k + 1)
    rw [e] at h
    by_cases q : (preK ws k ++ leafK ws k w).length ≤ (preK ws k ++ rest).length
    · exact absurd ((List.prefix_append_right_inj _).mp (pre_le p1 h q)) (hno w hw)
    · have p2 := (List.prefix_append_right_inj _).mp (pre_le h p1 (by omega))
      rw [List.length_append, List.length_append] at q
      have p3 : lineL (accK ws k) (1 + k) w <+: leafK ws k w := ⟨[10], rfl⟩
      have p4 : rest <+: lineL (accK ws k) (1 + k) w := pre_le p2 p3 (by unfold leafK leafT at q; rw [List.length_append, List.length_singleton] at q; omega)
      exact fun z => lineL_nl _ _ _ okw (p4.mem z)
  · rw [e, preK_all ws (by omega)] at h
    have := h.length_le
    rw [List.length_append] at this
    have : rest = [] := List.eq_nil_of_length_eq_zero (by omega)
    rw [this]
    exact fun z => by cases z
/-- one leaf put otherwise, as long as it was, no leaf now -/
theorem good_mod {ws : List (List Nat)} {j : Nat} {w m Q : List Nat} (hw : ws[j]? = some w) (hl : m.length = (leafK ws j w).length) (hne : m ≠ leafK ws j w) (hb : Bad (accK ws j) (1 + j) (m ++ Q)) : Good ws (preK ws j ++ (m ++ Q)) := by
  intro k rest hk e hno
  rcases Nat.lt_trichotomy k j with h | h | h
  · exfalso
    have hkl : k < ws.length := by have := get_lt hw; omega
    have hv : ws[k]? = some ws[k] := List.getElem?_eq_getElem hkl
    generalize ws[k] = v at hv
    have p1 : preK ws k ++ leafK ws k v <+: preK ws j := by
      rw [← preK_suc hv]
      exact preK_pre ws (by omega)
    have p2 : preK ws k ++ leafK ws k v <+: preK ws k ++ rest := by
      rw [← e]
      exact p1.trans (List.prefix_append _ _)
    exact hno v hv ((List.prefix_append_right_inj _).mp p2)
  · subst h
    rw [← List.append_cancel_left e]
    exact hb
  · exfalso
    have p1 : preK ws (j + 1) <+: preK ws k := preK_pre ws (by omega)
    rw [preK_suc hw] at p1
    have p2 : preK ws j ++ leafK ws j w <+: preK ws j ++ (m ++ Q) := by
      rw [e]
      exact p1.trans (List.prefix_append _ _)
    have p3 := (List.prefix_append_right_inj _).mp p2
    have p4 : m <+: m ++ Q := List.prefix_append _ _
    have p5 := pre_le p4 p3 (by omega)
    exact hne (p5.eq_of_length hl)
end Pg

set_option maxRecDepth 100000
set_option maxHeartbeats 4000000
namespace Pg
open PySem PySem.Spec PyProof.Rows L2 DL

/-! ### the law's turn -/
structure Tn (l : List Nat) (ws : List (List Nat)) : Prop where
  dl : l.length = 120
  ok : wordsOK ws
  sh : ∀ w ∈ ws, w.length ≤ 30
  lo : 1 ≤ ws.length
  hi : ws.length ≤ 5
theorem leafs_small : ∀ (ws : List (List Nat)) (a n : Nat), (∀ w ∈ ws, w.length ≤ 30) → n + ws.length ≤ 1000 → (leafs a n ws).flatten.length ≤ ws.length * 60
  | [], _, _, _, _ => by simp [leafs]
  | w :: ws, a, n, h, hn => by
    have ih := leafs_small ws (sumN a (headL n w)) (n + 1) (fun z hz => h z (List.mem_cons_of_mem _ hz)) (by simp at hn; omega)
    have l1 := leaf_len a n w
    have l2 := head_len n w
    have l3 := dig_len (n := n) (by simp at hn; omega)
    have l4 := h w List.mem_cons_self
    show (leafT a n w :: leafs _ _ ws).flatten.length ≤ (ws.length + 1) * 60
    rw [List.flatten_cons, List.length_append]
    omega
variable {l : List Nat} {ws : List (List Nat)}
theorem Tn.wl (T : Tn l ws) : (whole ws).length ≤ 300 := by
  have := leafs_small ws 0 1 T.sh (by have := T.hi; omega)
  have := T.hi
  unfold whole
  omega
theorem Tn.hb (T : Tn l ws) {w : List Nat} (h : w ∈ ws) {n : Nat} (hn : n ≤ 10) : (headL n w).length ≤ 900 := by
  have := head_len n w
  have := dig_len (n := n) (by omega)
  have := T.sh w h
  omega
theorem whole_split {j : Nat} {w : List Nat} (h : ws[j]? = some w) : whole ws = preK ws j ++ (leafK ws j w ++ ((leafs 0 1 ws).drop (j + 1)).flatten) := by
  have e := preK_suc h
  have e2 : ((leafs 0 1 ws).take (j + 1)).flatten = preK ws (j + 1) := by unfold preK; rw [leafs_take]
  rw [← List.append_assoc, ← e, ← e2, ← List.flatten_append, List.take_append_drop]
  rfl
theorem leaf_get {j : Nat} {w : List Nat} (h : ws[j]? = some w) : (leafs 0 1 ws)[j]? = some (leafK ws j w) := by
  have hl := get_lt h
  have e1 : leafs 0 1 (ws.take (j + 1)) = leafs 0 1 (ws.take j) ++ [leafK ws j w] := by
    rw [take_suc h, leafs_app, List.length_take, Nat.min_eq_left (by omega)]
    rfl
  rw [leafs_take] at e1
  have e2 : ((leafs 0 1 ws).take (j + 1))[j]? = (leafs 0 1 ws)[j]? := by rw [List.getElem?_take_of_lt (by omega)]
  rw [← e2, e1, List.getElem?_append_right (by rw [leafs_len, List.length_take]; omega), leafs_len, List.length_take, Nat.min_eq_left (by omega), Nat.sub_self]
  rfl
theorem find_leaf : ∀ (k p : Nat), k ≤ ws.length → p < (preK ws k).length → ∃ j w q, ws[j]? = some w ∧ q < (leafK ws j w).length ∧ p = (preK ws j).length + q
  | 0, p, _, h => by simp [preK, leafs] at h
  | k + 1, p, hk, h => by
    by_cases q : p < (preK ws k).length
    · exact find_leaf k p (by omega) q
    · have hw : ws[k]? = some ws[k] := List.getElem?_eq_getElem (by omega)
      rw [preK_suc hw, List.length_append] at h
      exact ⟨k, _, p - (preK ws k).length, hw, by omega, by omega⟩
/-- one sign of the whole put otherwise -/
theorem good_sign (T : Tn l ws) {p c : Nat} (hp : p < (whole ws).length) : Good ws ((whole ws).take p ++ c :: (whole ws).drop (p + 1)) := by
  have hp' : p < (preK ws ws.length).length := by rw [preK_all ws (Nat.le_refl _)]; exact hp
  obtain ⟨j, w, q, hw, hq, rfl⟩ := find_leaf ws.length p (Nat.le_refl _) hp'
  have hs := whole_split hw
  generalize hQ : ((leafs 0 1 ws).drop (j + 1)).flatten = Q at hs
  have e : (whole ws).take ((preK ws j).length + q) ++ c :: (whole ws).drop ((preK ws j).length + q + 1) = preK ws j ++ (((leafK ws j w).take q ++ c :: (leafK ws j w).drop (q + 1)) ++ Q) := by
    rw [hs, List.take_length_add_append, Nat.add_assoc, List.drop_length_add_append, List.take_append_of_le_length (by omega), List.drop_append_of_le_length (by omega)]
    simp
  rw [e]
  by_cases hc : (leafK ws j w)[q]? = some c
  · have e2 : (leafK ws j w).take q ++ c :: (leafK ws j w).drop (q + 1) = leafK ws j w := by
      have := List.take_append_drop q (leafK ws j w)
      rw [List.drop_eq_getElem_cons hq] at this
      rw [List.getElem?_eq_getElem hq] at hc
      cases hc
      exact this
    rw [e2, ← hs]
    exact good_pre T.ok (List.prefix_refl _)
  · have hj := get_lt hw
    have hwm := List.mem_of_getElem? hw
    refine good_mod hw ?_ ?_ ?_
    · rw [List.length_append, List.length_cons, List.length_take, List.length_drop]
      omega
    · intro z
      refine hc ?_
      rw [← z, List.getElem?_append_right (by rw [List.length_take]; omega), List.length_take, Nat.min_eq_left (by omega), Nat.sub_self]
      rfl
    · have := bad_change (a := accK ws j) (n := 1 + j) (w := w) (more := Q) (T.ok w hwm) (T.hb hwm (by have := T.hi; omega)) hq hc
      rw [show ((leafK ws j w).take q ++ c :: (leafK ws j w).drop (q + 1)) ++ Q = (leafK ws j w).take q ++ c :: ((leafK ws j w).drop (q + 1) ++ Q) from by simp]
      exact this
/-- two signs of one leaf exchanged -/
theorem good_swap (T : Tn l ws) {j : Nat} {w x y z : List Nat} {c d : Nat} (hw : ws[j]? = some w) (e : leafK ws j w = x ++ d :: (y ++ c :: z)) : Good ws (preK ws j ++ ((x ++ c :: (y ++ d :: z)) ++ ((leafs 0 1 ws).drop (j + 1)).flatten)) := by
  have hs := whole_split hw
  have hj := get_lt hw
  have hwm := List.mem_of_getElem? hw
  by_cases h : d = c
  · rw [← h]
    rw [e] at hs
    rw [← h] at hs
    rw [← hs]
    exact good_pre T.ok (List.prefix_refl _)
  · refine good_mod hw ?_ ?_ ?_
    · rw [e]; simp
    · intro q
      rw [e] at q
      have := List.append_cancel_left q
      simp at this
      exact h this.1.symm
    · have := bad_swap (a := accK ws j) (n := 1 + j) (w := w) (more := ((leafs 0 1 ws).drop (j + 1)).flatten) (T.ok w hwm) (T.hb hwm (by have := T.hi; omega)) e h
      rw [show (x ++ c :: (y ++ d :: z)) ++ ((leafs 0 1 ws).drop (j + 1)).flatten = x ++ c :: (y ++ d :: (z ++ ((leafs 0 1 ws).drop (j + 1)).flatten)) from by simp]
      exact this
/-! ### the state -/
def stW (l : List Nat) (ws : List (List Nat)) (tn : Nat) (a0 a3 a7 a8 a9 a10 a11 a12 a13 a14 a15 a16 a17 : Sl) : DS :=
  [a0, .val (.list (natsD l)), .val (.int (tn : Int)), a3, .val (.tuple (ws.map strD)), .val (.list ((leafs 0 1 ws).map strD)), .val (.str (S (whole ws))), a7, a8, a9, a10, a11, a12, a13, a14, a15, a16, a17]
def InW (l : List Nat) (ws : List (List Nat)) (tn : Nat) (σ : DS) : Prop := ∃ a0 a3 a7 a8 a9 a10 a11 a12 a13 a14 a15 a16 a17, σ = stW l ws tn a0 a3 a7 a8 a9 a10 a11 a12 a13 a14 a15 a16 a17
variable {tn : Nat} {a0 a3 a7 a8 a9 a10 a11 a12 a13 a14 a15 a16 a17 : Sl}
theorem inW : InW l ws tn (stW l ws tn a0 a3 a7 a8 a9 a10 a11 a12 a13 a14 a15 a16 a17) := ⟨_, _, _, _, _, _, _, _, _, _, _, _, _, rfl⟩
def retF : DS → Res := dRet (dC (.bool false))
/-! ### every beginning -/
def lw1 : DS → Res := (dIfS (dB (dOp pNe (dFn F_words_in (dCons (dSl (dVar 6) dPN (dPS (dVar 3))) dNil)) (dFn F__law_due (dCons (dVar 5) (dCons (dVar 4) (dCons (dSl (dVar 6) dPN (dPS (dVar 3))) dNil)))))) retF dNext)
theorem lw1_at (T : Tn l ws) (i : Nat) : lw1 (stW l ws tn a0 (.val (.int (i : Int))) a7 a8 a9 a10 a11 a12 a13 a14 a15 a16 a17) = .nx (stW l ws tn a0 (.val (.int (i : Int))) a7 a8 a9 a10 a11 a12 a13 a14 a15 a16 a17) := by
  have wl := T.wl
  have hlim : lim = 16000000 := rfl
  have g := good_pre T.ok (List.take_prefix i (whole ws))
  obtain ⟨d, h1, h2, h3⟩ := due_same T.ok (by have := T.hi; omega) (by omega) (by rw [List.length_take]; omega) g
  have s := pSl_S (a := whole ws) (lo := none) (hi := some (i : Int)) (by omega)
  rw [cutG_take] at s
  unfold lw1 stW
  simp [s, h1, h2, h3]
theorem lw1_for (T : Tn l ws) {σ : DS} (h : InW l ws tn σ) (n : Nat) : ∃ σ', forD (gN 3) lw1 (rangeD 0 n) σ = .nx σ' ∧ InW l ws tn σ' := by
  refine forD_keep (InW l ws tn) _ σ h ?_
  rintro d σ hd ⟨a0, a3, a7, a8, a9, a10, a11, a12, a13, a14, a15, a16, a17, rfl⟩
  obtain ⟨i, hi, rfl⟩ := range_mem hd
  exact ⟨_, rfl, _, by rw [Int.zero_add]; exact lw1_at T i, inW⟩
/-! ### other signs -/
def chk : DS → Res := (dIfS (dB (dOp pNe (dFn F_words_in (dCons (dVar 10) dNil)) (dFn F__law_due (dCons (dVar 5) (dCons (dVar 4) (dCons (dVar 10) dNil)))))) retF dNext)
theorem chk_at (T : Tn l ws) {t : List Nat} (g : Good ws t) (ht : t.length ≤ 100000) : chk (stW l ws tn a0 a3 a7 a8 a9 (.val (.str (S t))) a11 a12 a13 a14 a15 a16 a17) = .nx (stW l ws tn a0 a3 a7 a8 a9 (.val (.str (S t))) a11 a12 a13 a14 a15 a16 a17) := by
  have wl := T.wl
  obtain ⟨d, h1, h2, h3⟩ := due_same T.ok (by have := T.hi; omega) (by omega) ht g
  unfold chk stW
  simp [h1, h2, h3]
theorem draw_at (T : Tn l ws) (m : Nat) : (Out.opt (pMod (.int (m : Int)) (.int 120)) >>= fun y => Out.opt (pIx (.list (natsD l)) y)) = .ok (.int (l.getD (m % 120) 0 : Int)) := by
  have := nats_mod l (by rw [T.dl]; decide) m
  rw [T.dl] at this
  exact this
theorem mul2 (k : Nat) : pMul (.int 2) (.int (k : Int)) = some (.int (2 * (k : Int))) := by
  have := pMul_nat (a := 2) (b := k) (Or.inl (by decide))
  rw [Int.natCast_mul] at this
  exact this
def atE : DS → Out D := (dOp pMod (dCall pInt (dCons (dOp pIx (dVar 1) (dOp pMod (dOp pAdd (dOp pAdd (dC (.int 10)) (dOp pMul (dC (.int 2)) (dVar 7))) (dVar 2)) (dC (.int 120)))) dNil)) (dCall pLen (dCons (dVar 6) dNil)))
theorem whole_pos (T : Tn l ws) : 0 < (whole ws).length := by
  have h := T.lo
  have hw : ws[0]? = some ws[0] := List.getElem?_eq_getElem (by omega)
  rw [whole_split hw, List.length_append, List.length_append]
  unfold leafK
  rw [leaf_len]
  omega
theorem atE_at (T : Tn l ws) (k : Nat) : ∃ p, p < (whole ws).length ∧ atE (stW l ws tn a0 a3 (.val (.int (k : Int))) a8 a9 a10 a11 a12 a13 a14 a15 a16 a17) = .ok (.int (p : Int)) := by
  have wl := T.wl
  have hlim : lim = 16000000 := rfl
  have q1 := draw_at T (10 + 2 * k + tn)
  rw [Int.natCast_add, Int.natCast_add, Int.natCast_mul] at q1
  generalize l.getD ((10 + 2 * k + tn) % 120) 0 = v at q1
  have q2 := pMod_nat (a := v) (whole_pos T)
  refine ⟨v % (whole ws).length, Nat.mod_lt _ (whole_pos T), ?_⟩
  have q3 := pLen_S (a := whole ws) (by omega)
  have q1' : (Out.opt (pMod (.int (10 + 2 * (k : Int) + (tn : Int))) (.int 120)) >>= fun y => Out.opt (pIx (.list (natsD l)) y)) = .ok (.int (v : Int)) := q1
  generalize v % (whole ws).length = r at q2
  unfold atE stW
  simp [mul2, q1', q3, q2]
def s29 : List Nat := [97,98,122,48,49,57,40,41,43,45,42,60,61,44,58,59,32,35,10,65,88,34,123,125,91,93,63,47,124]
theorem lit_s29 : ("abz019()+-*<=,:; #\nAX\"{}[]?/|" : Str) = S s29 := id rfl
def sgE : DS → Out D := (dOp pIx (dC (.str (S s29))) (dOp pMod (dCall pInt (dCons (dOp pIx (dVar 1) (dOp pMod (dOp pAdd (dOp pAdd (dC (.int 11)) (dOp pMul (dC (.int 2)) (dVar 7))) (dVar 2)) (dC (.int 120)))) dNil)) (dC (.int 29))))
theorem sgE_at (T : Tn l ws) (k : Nat) : ∃ c, sgE (stW l ws tn a0 a3 (.val (.int (k : Int))) a8 a9 a10 a11 a12 a13 a14 a15 a16 a17) = .ok (.str (S [c])) := by
  have q1 := draw_at T (11 + 2 * k + tn)
  rw [Int.natCast_add, Int.natCast_add, Int.natCast_mul] at q1
  generalize l.getD ((11 + 2 * k + tn) % 120) 0 = v at q1
  have q2 : pMod (.int (v : Int)) (.int 29) = some (.int ((v % 29 : Nat) : Int)) := pMod_nat (b := 29) (by decide)
  have hr : v % 29 < s29.length := Nat.mod_lt _ (by decide)
  have q4 := pIx_S (l := s29) (i := v % 29) (by simp [s29, lim]) (List.getElem?_eq_getElem hr)
  refine ⟨s29[v % 29], ?_⟩
  have q1' : (Out.opt (pMod (.int (11 + 2 * (k : Int) + (tn : Int))) (.int 120)) >>= fun y => Out.opt (pIx (.list (natsD l)) y)) = .ok (.int (v : Int)) := q1
  generalize s29[v % 29] = c at q4
  generalize v % 29 = r at q2 q4
  unfold sgE stW
  simp [mul2, q1', q2, q4]
def txE : DS → Out D := (dOp pAdd (dOp pAdd (dSl (dVar 6) dPN (dPS (dVar 8))) (dVar 9)) (dSl (dVar 6) (dPS (dOp pAdd (dVar 8) (dC (.int 1)))) dPN))
theorem txE_at (T : Tn l ws) (p c : Nat) : txE (stW l ws tn a0 a3 a7 (.val (.int (p : Int))) (.val (.str (S [c]))) a10 a11 a12 a13 a14 a15 a16 a17) = .ok (.str (S ((whole ws).take p ++ c :: (whole ws).drop (p + 1)))) := by
  have wl := T.wl
  have hlim : lim = 16000000 := rfl
  have s1 := pSl_S (a := whole ws) (lo := none) (hi := some (p : Int)) (by omega)
  have s2 := pSl_S (a := whole ws) (lo := some ((p + 1 : Nat) : Int)) (hi := none) (by omega)
  rw [cutG_take] at s1
  rw [cutG_drop, Int.natCast_add] at s2
  have q1 : pAdd (.str (S ((whole ws).take p))) (.str (S [c])) = some (.str (S ((whole ws).take p ++ [c]))) := pAdd_S (by simp; omega)
  have q2 : pAdd (.str (S ((whole ws).take p ++ [c]))) (.str (S ((whole ws).drop (p + 1)))) = some (.str (S ((whole ws).take p ++ c :: (whole ws).drop (p + 1)))) := by
    rw [pAdd_S (by simp; omega)]
    simp
  have s2' : pSl (.str (S (whole ws))) (some ((p : Int) + 1)) none = some (.str (S ((whole ws).drop (p + 1)))) := s2
  unfold txE stW
  simp [s1, s2', q1, q2]
def ixE : DS → Out D := (dOp pMod (dCall pInt (dCons (dOp pIx (dVar 1) (dOp pMod (dOp pAdd (dOp pAdd (dC (.int 60)) (dVar 7)) (dVar 2)) (dC (.int 120)))) dNil)) (dCall pLen (dCons (dVar 5) dNil)))
theorem ixE_at (T : Tn l ws) (k : Nat) : ∃ j, j < ws.length ∧ ixE (stW l ws tn a0 a3 (.val (.int (k : Int))) a8 a9 a10 a11 a12 a13 a14 a15 a16 a17) = .ok (.int (j : Int)) := by
  have q1 := draw_at T (60 + k + tn)
  rw [Int.natCast_add, Int.natCast_add] at q1
  generalize l.getD ((60 + k + tn) % 120) 0 = v at q1
  have q2 := pMod_nat (a := v) (b := ws.length) T.lo
  refine ⟨v % ws.length, Nat.mod_lt _ T.lo, ?_⟩
  have q1' : (Out.opt (pMod (.int (60 + (k : Int) + (tn : Int))) (.int 120)) >>= fun y => Out.opt (pIx (.list (natsD l)) y)) = .ok (.int (v : Int)) := q1
  generalize v % ws.length = r at q2
  unfold ixE stW
  simp [q1', q2, leafs_len]
/-- a place in the leaf that is looked at -/
def plE (b : Int) : DS → Out D := (dOp pMod (dCall pInt (dCons (dOp pIx (dVar 1) (dOp pMod (dOp pAdd (dOp pAdd (dC (.int b)) (dVar 7)) (dVar 2)) (dC (.int 120)))) dNil)) (dCall pLen (dCons (dOp pIx (dVar 5) (dVar 3)) dNil)))
theorem leafD_at {j : Nat} {w : List Nat} (h : ws[j]? = some w) : pIx (.list ((leafs 0 1 ws).map strD)) (.int (j : Int)) = some (.str (S (leafK ws j w))) := pIx_list (by rw [List.getElem?_map, leaf_get h]; rfl)
theorem leafK_len (T : Tn l ws) {j : Nat} {w : List Nat} (h : ws[j]? = some w) : 0 < (leafK ws j w).length ∧ (leafK ws j w).length ≤ 300 := by
  have hs := congrArg List.length (whole_split h)
  have := T.wl
  rw [List.length_append, List.length_append] at hs
  refine ⟨?_, by omega⟩
  unfold leafK
  rw [leaf_len]
  omega
theorem plE_at (T : Tn l ws) (b k j : Nat) {w : List Nat} (h : ws[j]? = some w) : ∃ p, p < (leafK ws j w).length ∧ plE (b : Int) (stW l ws tn a0 (.val (.int (j : Int))) (.val (.int (k : Int))) a8 a9 a10 a11 a12 a13 a14 a15 a16 a17) = .ok (.int (p : Int)) := by
  have hlim : lim = 16000000 := rfl
  have kl := leafK_len T h
  have q1 := draw_at T (b + k + tn)
  rw [Int.natCast_add, Int.natCast_add] at q1
  generalize l.getD ((b + k + tn) % 120) 0 = v at q1
  have q2 := pMod_nat (a := v) kl.1
  refine ⟨v % (leafK ws j w).length, Nat.mod_lt _ kl.1, ?_⟩
  have q3 := pLen_S (a := leafK ws j w) (by omega)
  have q4 := leafD_at h
  generalize v % (leafK ws j w).length = r at q2
  unfold plE stW
  simp [q1, q2, q3, q4]
def mnE : DS → Out D := (dCall pMin (dCons (dVar 11) (dCons (dVar 12) dNil)))
def mxE : DS → Out D := (dCall pMax (dCons (dVar 11) (dCons (dVar 12) dNil)))
theorem mn_at (p q : Nat) : mnE (stW l ws tn a0 a3 a7 a8 a9 a10 (.val (.int (p : Int))) (.val (.int (q : Int))) a13 a14 a15 a16 a17) = .ok (.int ((min p q : Nat) : Int)) := by
  have : pMin [.int (p : Int), .int (q : Int)] = some (.int ((min p q : Nat) : Int)) := by
    show some (PyData.int (if (q : Int) < (p : Int) then (q : Int) else (p : Int))) = _
    by_cases h : (q : Int) < (p : Int)
    · rw [if_pos h, Nat.min_eq_right (by omega)]
    · rw [if_neg h, Nat.min_eq_left (by omega)]
  unfold mnE stW
  simp [this]
theorem mx_at (p q : Nat) : mxE (stW l ws tn a0 a3 a7 a8 a9 a10 (.val (.int (p : Int))) (.val (.int (q : Int))) a13 a14 a15 a16 a17) = .ok (.int ((max p q : Nat) : Int)) := by
  have : pMax [.int (p : Int), .int (q : Int)] = some (.int ((max p q : Nat) : Int)) := by
    show some (PyData.int (if (q : Int) > (p : Int) then (q : Int) else (p : Int))) = _
    by_cases h : (q : Int) > (p : Int)
    · rw [if_pos h, Nat.max_eq_right (by omega)]
    · rw [if_neg h, Nat.max_eq_left (by omega)]
  unfold mxE stW
  simp [this]
end Pg

set_option maxRecDepth 100000
set_option maxHeartbeats 4000000
namespace Pg
open PySem PySem.Spec PyProof.Rows L2 DL
variable {l : List Nat} {ws : List (List Nat)}
variable {tn : Nat} {a0 a3 a7 a8 a9 a10 a11 a12 a13 a14 a15 a16 a17 : Sl}

def lvE : DS → Out D := (dOp pIx (dVar 5) (dVar 3))
theorem lvE_at {j : Nat} {w : List Nat} (h : ws[j]? = some w) : lvE (stW l ws tn a0 (.val (.int (j : Int))) a7 a8 a9 a10 a11 a12 a13 a14 a15 a16 a17) = .ok (.str (S (leafK ws j w))) := by
  have q := leafD_at h
  unfold lvE stW
  simp [q]
def swE : DS → Out D := (dOp pAdd (dOp pAdd (dOp pAdd (dOp pAdd (dSl lvE dPN (dPS (dVar 11))) (dOp pIx lvE (dVar 12))) (dSl lvE (dPS (dOp pAdd (dVar 11) (dC (.int 1)))) (dPS (dVar 12)))) (dOp pIx lvE (dVar 11))) (dSl lvE (dPS (dOp pAdd (dVar 12) (dC (.int 1)))) dPN))
theorem swE_gen {σ : DS} {L x y z : List Nat} {c d : Nat} (hL : L.length ≤ 300) (e : L = x ++ d :: (y ++ c :: z)) (h1 : lvE σ = .ok (.str (S L))) (h2 : dVar 11 σ = .ok (.int (x.length : Int))) (h3 : dVar 12 σ = .ok (.int ((x.length + (y.length + 1) : Nat) : Int))) : swE σ = .ok (.str (S (x ++ c :: (y ++ d :: z)))) := by
  have hlim : lim = 16000000 := rfl
  have hl : L.length = x.length + (y.length + (z.length + 1) + 1) := by rw [e]; simp
  have s1 := pSl_S (a := L) (lo := none) (hi := some (x.length : Int)) (by omega)
  have e1 : L.take x.length = x := by rw [e, List.take_left]
  rw [cutG_take, e1] at s1
  have i1 := pIx_S (l := L) (i := x.length + (y.length + 1)) (c := c) (by omega) (by rw [e, List.getElem?_append_right (by omega), Nat.add_sub_cancel_left, List.getElem?_cons_succ, List.getElem?_append_right (Nat.le_refl _), Nat.sub_self]; rfl)
  have s2 := pSl_S (a := L) (lo := some ((x.length + 1 : Nat) : Int)) (hi := some ((x.length + (y.length + 1) : Nat) : Int)) (by omega)
  have e2 : (L.drop (x.length + 1)).take (x.length + (y.length + 1) - (x.length + 1)) = y := by
    have : L = (x ++ [d]) ++ (y ++ c :: z) := by rw [e]; simp
    rw [this, show x.length + 1 = (x ++ [d]).length from by simp, List.drop_left, show x.length + (y.length + 1) - (x ++ [d]).length = y.length from by simp; omega, List.take_left]
  rw [cutG_mid _ _ _ (by omega) (by omega), e2, Int.natCast_add x.length 1] at s2
  have s2' : pSl (.str (S L)) (some ((x.length : Int) + 1)) (some ((x.length + (y.length + 1) : Nat) : Int)) = some (.str (S y)) := s2
  have i2 := pIx_S (l := L) (i := x.length) (c := d) (by omega) (by rw [e, List.getElem?_append_right (Nat.le_refl _), Nat.sub_self]; rfl)
  have s3 := pSl_S (a := L) (lo := some ((x.length + (y.length + 1) + 1 : Nat) : Int)) (hi := none) (by omega)
  have e3 : L.drop (x.length + (y.length + 1) + 1) = z := by
    have : L = (x ++ d :: (y ++ [c])) ++ z := by rw [e]; simp
    rw [this, show x.length + (y.length + 1) + 1 = (x ++ d :: (y ++ [c])).length from by simp; omega, List.drop_left]
  rw [cutG_drop, e3, Int.natCast_add _ 1] at s3
  have s3' : pSl (.str (S L)) (some (((x.length + (y.length + 1) : Nat) : Int) + 1)) none = some (.str (S z)) := s3
  have q1 : pAdd (.str (S x)) (.str (S [c])) = some (.str (S (x ++ [c]))) := pAdd_S (by simp; omega)
  have q2 : pAdd (.str (S (x ++ [c]))) (.str (S y)) = some (.str (S (x ++ c :: y))) := by rw [pAdd_S (by simp; omega)]; simp
  have q3 : pAdd (.str (S (x ++ c :: y))) (.str (S [d])) = some (.str (S (x ++ c :: (y ++ [d])))) := by rw [pAdd_S (by simp; omega)]; simp
  have q4 : pAdd (.str (S (x ++ c :: (y ++ [d])))) (.str (S z)) = some (.str (S (x ++ c :: (y ++ d :: z)))) := by rw [pAdd_S (by simp; omega)]; simp
  generalize ((x.length + (y.length + 1) : Nat) : Int) = hi at *
  generalize (x.length : Int) = lo at *
  unfold swE
  simp only [dOp_at, dSl_at, dPN_at, dPS_at, dC_at, h1, h2, h3, Out.ok_bind, Out.opt_some, asI_int, pAdd_int, s1, i1, s2', i2, s3', q1, q2, q3, q4]
def lfE : DS → Out D := (dIf (dB (dOp pLt (dVar 11) (dVar 12))) swE lvE)
theorem lfE_at (T : Tn l ws) {j p q : Nat} {w : List Nat} (h : ws[j]? = some w) (hp : p ≤ q) (hq : q < (leafK ws j w).length) : ∃ m, lfE (stW l ws tn a0 (.val (.int (j : Int))) a7 a8 a9 a10 (.val (.int (p : Int))) (.val (.int (q : Int))) a13 a14 a15 a16 a17) = .ok (.str (S m)) ∧ m.length = (leafK ws j w).length ∧ Good ws (preK ws j ++ (m ++ ((leafs 0 1 ws).drop (j + 1)).flatten)) := by
  have kl := leafK_len T h
  by_cases hpq : p < q
  · obtain ⟨x, d, y, c, z, e, hx, hy⟩ : ∃ x d y c z, leafK ws j w = x ++ d :: (y ++ c :: z) ∧ x.length = p ∧ x.length + (y.length + 1) = q := by
      generalize leafK ws j w = L at hq
      have hp2 : p < L.length := by omega
      have t1 := List.take_append_drop p L
      rw [List.drop_eq_getElem_cons hp2] at t1
      have hq2 : q - (p + 1) < (L.drop (p + 1)).length := by rw [List.length_drop]; omega
      have t2 := List.take_append_drop (q - (p + 1)) (L.drop (p + 1))
      rw [List.drop_eq_getElem_cons hq2] at t2
      exact ⟨L.take p, L[p], (L.drop (p + 1)).take (q - (p + 1)), _, _, by rw [t2, t1], by rw [List.length_take]; omega, by rw [List.length_take, List.length_take, List.length_drop]; omega⟩
    have v := swE_gen (σ := stW l ws tn a0 (.val (.int (j : Int))) a7 a8 a9 a10 (.val (.int (p : Int))) (.val (.int (q : Int))) a13 a14 a15 a16 a17) kl.2 e (lvE_at h) (by rw [hx]; rfl) (by rw [hy]; rfl)
    refine ⟨_, ?_, ?_, good_swap T h e⟩
    · have : dB (dOp pLt (dVar 11) (dVar 12)) (stW l ws tn a0 (.val (.int (j : Int))) a7 a8 a9 a10 (.val (.int (p : Int))) (.val (.int (q : Int))) a13 a14 a15 a16 a17) = .ok true := by
        unfold stW
        simp [hpq]
      unfold lfE
      rw [dIf_at, this, Out.ok_bind, if_pos rfl]
      exact v
    · rw [e]; simp
  · refine ⟨leafK ws j w, ?_, rfl, ?_⟩
    · have : dB (dOp pLt (dVar 11) (dVar 12)) (stW l ws tn a0 (.val (.int (j : Int))) a7 a8 a9 a10 (.val (.int (p : Int))) (.val (.int (q : Int))) a13 a14 a15 a16 a17) = .ok false := by
        unfold stW
        simp [hpq]
      unfold lfE
      rw [dIf_at, this, Out.ok_bind, if_neg (by decide)]
      exact lvE_at h
    · rw [← whole_split h]
      exact good_pre T.ok (List.prefix_refl _)
def jnE : DS → Out D := (dOp pAdd (dOp pAdd (dSM pJoin (dC (.str (S []))) (dCons (dSl (dVar 5) dPN (dPS (dVar 3))) dNil)) (dVar 13)) (dSM pJoin (dC (.str (S []))) (dCons (dSl (dVar 5) (dPS (dOp pAdd (dVar 3) (dC (.int 1)))) dPN) dNil)))
theorem leafs_pre (k : Nat) : ((leafs 0 1 ws).take k).flatten = preK ws k := by unfold preK; rw [leafs_take]
theorem cut_LD (ls : List (List Nat)) (k : Nat) : cutG (ls.map strD) (some (k : Int)) none = (ls.drop k).map strD := by
  rw [cutG_drop, List.map_drop]
theorem drop_le (ls : List (List Nat)) (i : Nat) : (ls.drop i).flatten.length ≤ ls.flatten.length := by
  have := List.take_append_drop i ls
  have h2 : ls.flatten.length = (ls.take i).flatten.length + (ls.drop i).flatten.length := by
    rw [← List.length_append, ← List.flatten_append, this]
  omega
theorem join_pre (T : Tn l ws) (k : Nat) : pJoin (.str (S [])) [.list (((leafs 0 1 ws).take k).map strD)] = some (.str (S (preK ws k))) := by
  have wl := T.wl
  have hlim : lim = 16000000 := rfl
  have := flat_take_le (leafs 0 1 ws) k
  have e := pJoin_L (ls := (leafs 0 1 ws).take k) (by unfold whole at wl; omega)
  rw [leafs_pre] at e
  exact e
theorem join_suf (T : Tn l ws) (k : Nat) : pJoin (.str (S [])) [.list (((leafs 0 1 ws).drop k).map strD)] = some (.str (S ((leafs 0 1 ws).drop k).flatten)) := by
  have wl := T.wl
  have hlim : lim = 16000000 := rfl
  have := drop_le (leafs 0 1 ws) k
  exact pJoin_L (ls := (leafs 0 1 ws).drop k) (by unfold whole at wl; omega)
theorem preK_le (T : Tn l ws) (k : Nat) : (preK ws k).length ≤ 300 := by
  have := (preK_whole ws k).length_le
  have := T.wl
  omega
theorem jnE_at (T : Tn l ws) {j : Nat} {m : List Nat} (hm : m.length ≤ 300) : jnE (stW l ws tn a0 (.val (.int (j : Int))) a7 a8 a9 a10 a11 a12 (.val (.str (S m))) a14 a15 a16 a17) = .ok (.str (S (preK ws j ++ (m ++ ((leafs 0 1 ws).drop (j + 1)).flatten)))) := by
  have wl := T.wl
  have hlim : lim = 16000000 := rfl
  have l1 := preK_le T j
  have l2 := drop_le (leafs 0 1 ws) (j + 1)
  unfold whole at wl
  have c1 := cut_L (leafs 0 1 ws) j
  have c2 := cut_LD (leafs 0 1 ws) (j + 1)
  rw [Int.natCast_add] at c2
  have j1 := join_pre T j
  have j2 := join_suf T (j + 1)
  have q1 : pAdd (.str (S (preK ws j))) (.str (S m)) = some (.str (S (preK ws j ++ m))) := pAdd_S (by omega)
  have q2 : pAdd (.str (S (preK ws j ++ m))) (.str (S ((leafs 0 1 ws).drop (j + 1)).flatten)) = some (.str (S (preK ws j ++ (m ++ ((leafs 0 1 ws).drop (j + 1)).flatten)))) := by rw [pAdd_S (by rw [List.length_append]; omega), List.append_assoc]
  have c2' : cutG ((leafs 0 1 ws).map strD) (some ((j : Int) + 1)) none = ((leafs 0 1 ws).drop (j + 1)).map strD := c2
  generalize ((leafs 0 1 ws).drop (j + 1)).map strD = z1 at *
  generalize ((leafs 0 1 ws).take j).map strD = z2 at *
  generalize ((leafs 0 1 ws).drop (j + 1)).flatten = z3 at *
  unfold jnE stW
  simp [c1, c2', j1, j2, q1, q2]
def lw2 : DS → Res := (dSeqS (dSet 8 atE) (dSeqS (dSet 9 sgE) (dSeqS (dSet 10 txE) (dSeqS chk (dSeqS (dSet 3 ixE) (dSeqS (dPar 11 12 (plE 61) (plE 62)) (dSeqS (dPar 11 12 mnE mxE) (dSeqS (dSet 13 lfE) (dSeqS (dSet 10 jnE) chk)))))))))
theorem seq_go {r r' : DS → Res} {σ σ1 : DS} (h : r σ = .nx σ1) : dSeqS r r' σ = r' σ1 := by rw [dSeqS_at, h]
theorem set_go {i : Nat} {f : DS → Out D} {σ : DS} {d : D} (h : f σ = .ok d) : dSet i f σ = .nx (σ.set i (.val d)) := by rw [dSet_at, h, Res.of_ok]
theorem par_go {i j : Nat} {f g : DS → Out D} {σ : DS} {d e : D} (h : f σ = .ok d) (h2 : g σ = .ok e) : dPar i j f g σ = .nx ((σ.set i (.val d)).set j (.val e)) := by rw [dPar_at, h, Res.of_ok, h2, Res.of_ok]
theorem lw2_at (T : Tn l ws) (k : Nat) : ∃ σ', lw2 (stW l ws tn a0 a3 (.val (.int (k : Int))) a8 a9 a10 a11 a12 a13 a14 a15 a16 a17) = .nx σ' ∧ InW l ws tn σ' := by
  have wl := T.wl
  obtain ⟨p, hp, h1⟩ := atE_at (tn := tn) (a0 := a0) (a3 := a3) (a8 := a8) (a9 := a9) (a10 := a10) (a11 := a11) (a12 := a12) (a13 := a13) (a14 := a14) (a15 := a15) (a16 := a16) (a17 := a17) T k
  obtain ⟨c, h2⟩ := sgE_at (tn := tn) (a0 := a0) (a3 := a3) (a8 := .val (.int (p : Int))) (a9 := a9) (a10 := a10) (a11 := a11) (a12 := a12) (a13 := a13) (a14 := a14) (a15 := a15) (a16 := a16) (a17 := a17) T k
  have h3 := txE_at (tn := tn) (a0 := a0) (a3 := a3) (a7 := .val (.int (k : Int))) (a10 := a10) (a11 := a11) (a12 := a12) (a13 := a13) (a14 := a14) (a15 := a15) (a16 := a16) (a17 := a17) T p c
  have g1 := good_sign T (c := c) hp
  have h4 := chk_at (tn := tn) (a0 := a0) (a3 := a3) (a7 := .val (.int (k : Int))) (a8 := .val (.int (p : Int))) (a9 := .val (.str (S [c]))) (a11 := a11) (a12 := a12) (a13 := a13) (a14 := a14) (a15 := a15) (a16 := a16) (a17 := a17) T g1 (by simp; omega)
  generalize (whole ws).take p ++ c :: (whole ws).drop (p + 1) = t1 at *
  obtain ⟨j, hj, h5⟩ := ixE_at (tn := tn) (a0 := a0) (a3 := a3) (a8 := .val (.int (p : Int))) (a9 := .val (.str (S [c]))) (a10 := .val (.str (S t1))) (a11 := a11) (a12 := a12) (a13 := a13) (a14 := a14) (a15 := a15) (a16 := a16) (a17 := a17) T k
  have hw : ws[j]? = some ws[j] := List.getElem?_eq_getElem hj
  generalize ws[j] = w at hw
  obtain ⟨p1, k1, h6⟩ := plE_at (tn := tn) (a0 := a0) (a8 := .val (.int (p : Int))) (a9 := .val (.str (S [c]))) (a10 := .val (.str (S t1))) (a11 := a11) (a12 := a12) (a13 := a13) (a14 := a14) (a15 := a15) (a16 := a16) (a17 := a17) T 61 k j hw
  obtain ⟨p2, k2, h7⟩ := plE_at (tn := tn) (a0 := a0) (a8 := .val (.int (p : Int))) (a9 := .val (.str (S [c]))) (a10 := .val (.str (S t1))) (a11 := a11) (a12 := a12) (a13 := a13) (a14 := a14) (a15 := a15) (a16 := a16) (a17 := a17) T 62 k j hw
  have h8 := mn_at (l := l) (ws := ws) (tn := tn) (a0 := a0) (a3 := .val (.int (j : Int))) (a7 := .val (.int (k : Int))) (a8 := .val (.int (p : Int))) (a9 := .val (.str (S [c]))) (a10 := .val (.str (S t1))) (a13 := a13) (a14 := a14) (a15 := a15) (a16 := a16) (a17 := a17) p1 p2
  have h9 := mx_at (l := l) (ws := ws) (tn := tn) (a0 := a0) (a3 := .val (.int (j : Int))) (a7 := .val (.int (k : Int))) (a8 := .val (.int (p : Int))) (a9 := .val (.str (S [c]))) (a10 := .val (.str (S t1))) (a13 := a13) (a14 := a14) (a15 := a15) (a16 := a16) (a17 := a17) p1 p2
  obtain ⟨m, h10, h11, g2⟩ := lfE_at (tn := tn) (a0 := a0) (a7 := .val (.int (k : Int))) (a8 := .val (.int (p : Int))) (a9 := .val (.str (S [c]))) (a10 := .val (.str (S t1))) (a13 := a13) (a14 := a14) (a15 := a15) (a16 := a16) (a17 := a17) T (p := min p1 p2) (q := max p1 p2) hw (by omega) (by omega)
  have kl := leafK_len T hw
  have h12 := jnE_at (tn := tn) (a0 := a0) (a7 := .val (.int (k : Int))) (a8 := .val (.int (p : Int))) (a9 := .val (.str (S [c]))) (a10 := .val (.str (S t1))) (a11 := .val (.int ((min p1 p2 : Nat) : Int))) (a12 := .val (.int ((max p1 p2 : Nat) : Int))) (a14 := a14) (a15 := a15) (a16 := a16) (a17 := a17) T (j := j) (m := m) (by omega)
  have ll : (preK ws j ++ (m ++ ((leafs 0 1 ws).drop (j + 1)).flatten)).length ≤ 100000 := by
    have := preK_le T j
    have := drop_le (leafs 0 1 ws) (j + 1)
    unfold whole at wl
    rw [List.length_append, List.length_append]
    omega
  have h13 := chk_at (tn := tn) (a0 := a0) (a3 := .val (.int (j : Int))) (a7 := .val (.int (k : Int))) (a8 := .val (.int (p : Int))) (a9 := .val (.str (S [c]))) (a11 := .val (.int ((min p1 p2 : Nat) : Int))) (a12 := .val (.int ((max p1 p2 : Nat) : Int))) (a13 := .val (.str (S m))) (a14 := a14) (a15 := a15) (a16 := a16) (a17 := a17) T g2 ll
  generalize preK ws j ++ (m ++ ((leafs 0 1 ws).drop (j + 1)).flatten) = t2 at *
  refine ⟨_, ?_, inW (a0 := a0) (a3 := .val (.int (j : Int))) (a7 := .val (.int (k : Int))) (a8 := .val (.int (p : Int))) (a9 := .val (.str (S [c]))) (a10 := .val (.str (S t2))) (a11 := .val (.int ((min p1 p2 : Nat) : Int))) (a12 := .val (.int ((max p1 p2 : Nat) : Int))) (a13 := .val (.str (S m))) (a14 := a14) (a15 := a15) (a16 := a16) (a17 := a17)⟩
  have f1 := set_go (i := 8) h1
  have f2 := set_go (i := 9) h2
  have f3 := set_go (i := 10) h3
  have f5 := set_go (i := 3) h5
  have f6 := par_go (i := 11) (j := 12) h6 h7
  have f8 := par_go (i := 11) (j := 12) h8 h9
  have f10 := set_go (i := 13) h10
  have f12 := set_go (i := 10) h12
  unfold lw2
  rw [seq_go f1]
  refine Eq.trans (seq_go f2) ?_
  refine Eq.trans (seq_go f3) ?_
  refine Eq.trans (seq_go h4) ?_
  refine Eq.trans (seq_go f5) ?_
  refine Eq.trans (seq_go f6) ?_
  refine Eq.trans (seq_go f8) ?_
  refine Eq.trans (seq_go f10) ?_
  refine Eq.trans (seq_go f12) ?_
  exact h13
theorem lw2_for (T : Tn l ws) {σ : DS} (h : InW l ws tn σ) (n : Nat) : ∃ σ', forD (gN 7) lw2 (rangeD 0 n) σ = .nx σ' ∧ InW l ws tn σ' := by
  refine forD_keep (InW l ws tn) _ σ h ?_
  rintro d σ hd ⟨a0, a3, a7, a8, a9, a10, a11, a12, a13, a14, a15, a16, a17, rfl⟩
  obtain ⟨i, hi, rfl⟩ := range_mem hd
  rw [Int.zero_add]
  obtain ⟨σ', h1, h2⟩ := lw2_at T (tn := tn) (a0 := a0) (a3 := a3) (a8 := a8) (a9 := a9) (a10 := a10) (a11 := a11) (a12 := a12) (a13 := a13) (a14 := a14) (a15 := a15) (a16 := a16) (a17 := a17) i
  exact ⟨_, rfl, σ', h1, h2⟩
end Pg

set_option maxRecDepth 100000
set_option maxHeartbeats 4000000
namespace Pg
open PySem PySem.Spec PyProof.Rows L2 DL
variable {l : List Nat} {ws : List (List Nat)}
variable {tn : Nat} {a0 a3 a7 a8 a9 a10 a11 a12 a13 a14 a15 a16 a17 : Sl}

/-! ### whole leaves exchanged, twice, left out -/
def exL : DS → Out D := (dOp pAdd (dOp pAdd (dOp pAdd (dOp pAdd (dSl (dVar 5) dPN (dPS (dVar 3))) (dL (dLst (dCons (dOp pIx (dVar 5) (dVar 7)) dNil)))) (dSl (dVar 5) (dPS (dOp pAdd (dVar 3) (dC (.int 1)))) (dPS (dVar 7)))) (dL (dLst (dCons (dOp pIx (dVar 5) (dVar 3)) dNil)))) (dSl (dVar 5) (dPS (dOp pAdd (dVar 7) (dC (.int 1)))) dPN))
def jn (f : DS → Out D) : DS → Out D := dSM pJoin (dC (.str (S []))) (dCons f dNil)
theorem jn_at {f : DS → Out D} {σ : DS} {X : List (List Nat)} (h : f σ = .ok (.list (X.map strD))) (hl : X.flatten.length ≤ lim) : jn f σ = .ok (.str (S X.flatten)) := by
  have q : pJoin (.str (S [])) [.list (X.map strD)] = some (.str (S X.flatten)) := pJoin_L hl
  unfold jn
  rw [dSM_at, dC_at, Out.ok_bind, if_pos (by rfl), dCons_at, h, Out.ok_bind, dNil_at, Out.ok_bind, Out.ok_bind, q, Out.opt_some]
theorem addL {X Y : List (List Nat)} (h : X.length + Y.length ≤ lim) : pAdd (.list (X.map strD)) (.list (Y.map strD)) = some (.list ((X ++ Y).map strD)) := by
  rw [pAdd_L (by simpa using h), List.map_append]
theorem exL_at (T : Tn l ws) {i j : Nat} {w v : List Nat} (hw : ws[i]? = some w) (hv : ws[j]? = some v) (hij : i < j) : exL (stW l ws tn a0 (.val (.int (i : Int))) (.val (.int (j : Int))) a8 a9 a10 a11 a12 a13 a14 a15 a16 a17) = .ok (.list (((leafs 0 1 ws).take i ++ [leafK ws j v] ++ ((leafs 0 1 ws).drop (i + 1)).take (j - (i + 1)) ++ [leafK ws i w] ++ (leafs 0 1 ws).drop (j + 1)).map strD)) := by
  have hlim : lim = 16000000 := rfl
  have hn := T.hi
  have ln := leafs_len ws 0 1
  have hj := get_lt hv
  have c1 := cut_L (leafs 0 1 ws) i
  have c2 : cutG ((leafs 0 1 ws).map strD) (some ((i : Int) + 1)) (some (j : Int)) = (((leafs 0 1 ws).drop (i + 1)).take (j - (i + 1))).map strD := by
    have := cutG_mid ((leafs 0 1 ws).map strD) (i + 1) j (by omega) (by rw [List.length_map]; omega)
    rw [List.map_take, List.map_drop, ← this]
    rfl
  have c3 : cutG ((leafs 0 1 ws).map strD) (some ((j : Int) + 1)) none = ((leafs 0 1 ws).drop (j + 1)).map strD := cut_LD (leafs 0 1 ws) (j + 1)
  have q1 := leafD_at hw
  have q2 := leafD_at hv
  generalize hL : leafs 0 1 ws = L at *
  have s1 := addL (X := L.take i) (Y := [leafK ws j v]) (by simp; omega)
  have s2 := addL (X := L.take i ++ [leafK ws j v]) (Y := (L.drop (i + 1)).take (j - (i + 1))) (by simp; omega)
  have s3 := addL (X := L.take i ++ [leafK ws j v] ++ (L.drop (i + 1)).take (j - (i + 1))) (Y := [leafK ws i w]) (by simp; omega)
  have s4 := addL (X := L.take i ++ [leafK ws j v] ++ (L.drop (i + 1)).take (j - (i + 1)) ++ [leafK ws i w]) (Y := L.drop (j + 1)) (by simp; omega)
  have o1 : [leafK ws j v].map strD = [PyData.str (S (leafK ws j v))] := rfl
  have o2 : [leafK ws i w].map strD = [PyData.str (S (leafK ws i w))] := rfl
  rw [o1] at s1
  rw [o2] at s3
  generalize (L.take i ++ [leafK ws j v] ++ (L.drop (i + 1)).take (j - (i + 1)) ++ [leafK ws i w] ++ L.drop (j + 1)).map strD = X5 at *
  generalize (L.take i ++ [leafK ws j v] ++ (L.drop (i + 1)).take (j - (i + 1)) ++ [leafK ws i w]).map strD = X4 at *
  generalize (L.take i ++ [leafK ws j v] ++ (L.drop (i + 1)).take (j - (i + 1))).map strD = X3 at *
  generalize (L.take i ++ [leafK ws j v]).map strD = X2 at *
  generalize (L.take i).map strD = X1 at *
  generalize ((L.drop (i + 1)).take (j - (i + 1))).map strD = Y1 at *
  generalize (L.drop (j + 1)).map strD = Y2 at *
  unfold exL stW
  rw [hL]
  simp [c1, c2, c3, q1, q2, s1, s2, s3, s4]
/-- the words of the first leaves, and where they end -/
def duE (e : DS → Out D) : DS → Out D := dTup (dCons (dSl (dVar 4) dPN (dPS e)) (dCons (dCall pLen (dCons (jn (dSl (dVar 5) dPN (dPS e))) dNil)) dNil))
theorem duE_at (T : Tn l ws) {e : DS → Out D} {k : Nat} {σ : DS} (hs : σ = stW l ws tn a0 a3 a7 a8 a9 a10 a11 a12 a13 a14 a15 a16 a17) (h : e σ = .ok (.int (k : Int))) : duE e σ = .ok (resD (ws.take k) (preK ws k).length) := by
  have hlim : lim = 16000000 := rfl
  have lp := preK_le T k
  have c1 := cut_L (leafs 0 1 ws) k
  have c2 := cut_L ws k
  have e5 : dVar 5 σ = .ok (.list ((leafs 0 1 ws).map strD)) := by rw [hs]; rfl
  have e4 : dVar 4 σ = .ok (.tuple (ws.map strD)) := by rw [hs]; rfl
  have j1 : jn (dSl (dVar 5) dPN (dPS e)) σ = .ok (.str (S (preK ws k))) := by
    rw [← leafs_pre]
    refine jn_at ?_ (by rw [leafs_pre]; omega)
    rw [dSl_at, e5, Out.ok_bind, dPN_at, Out.ok_bind, dPS_at, h, Out.ok_bind, asI_int, Out.opt_some, Out.ok_bind, Out.ok_bind, pSl_L, c1]
    rfl
  have q := pLen_S (a := preK ws k) (by omega)
  unfold duE
  simp only [dTup_at, dCons_at, dSl_at, e4, h, j1, dPN_at, dPS_at, asI_int, Out.opt_some, Out.ok_bind, pSl_T, c2, dCall_at, dNil_at, q]
  rfl
theorem ne_ok {f g : DS → Out D} {σ : DS} {d : D} (h1 : f σ = .ok d) (h2 : g σ = .ok d) (hs : SeqAt.shaped d = true) : dB (dOp pNe f g) σ = .ok false := by
  rw [dB_at, dOp_at, h1, Out.ok_bind, h2, Out.ok_bind, ne_self hs]
  rfl
theorem if_skip {t : DS → Out Bool} {r : DS → Res} {σ : DS} (h : t σ = .ok false) : dIfS t r dNext σ = .nx σ := by
  rw [dIfS_at, h, Res.of_ok, if_neg Bool.false_ne_true, dNext_at]
def wiE (f : DS → Out D) : DS → Out D := dFn F_words_in (dCons f dNil)
theorem wiE_at {f : DS → Out D} {σ : DS} {t : List Nat} {d : D} (h : f σ = .ok (.str (S t))) (hw : F_words_in [.val (.str (S t))] = .ok d) : wiE f σ = .ok d := by
  unfold wiE
  rw [dFn_at, dCons_at, h, Out.ok_bind, dNil_at, Out.ok_bind, Out.ok_bind]
  exact hw
/-- a text that begins with k leaves, then with a leaf of another number -/
theorem words_cut (T : Tn l ws) {k m b : Nat} {w z t : List Nat} (hk : k ≤ ws.length) (hm : 1 + k ≠ m) (e : t = preK ws k ++ (leafT b m w ++ z)) (ht : t.length ≤ 100000) : F_words_in [.val (.str (S t))] = .ok (resD (ws.take k) (preK ws k).length) :=
  words_at T.ok (by have := T.hi; omega) ht e hk (bad_leaf hm)
def v3 : DS → Out D := dVar 3
def v31 : DS → Out D := dOp pAdd (dVar 3) (dC (.int 1))
def lw3a : DS → Res := (dSeqS (dSet 10 (jn exL)) (dIfS (dB (dOp pNe (wiE (dVar 10)) (duE v3))) retF dNext))
theorem lw3a_at (T : Tn l ws) {i j : Nat} (hij : i < j) (hj : j < ws.length) : ∃ σ', lw3a (stW l ws tn a0 (.val (.int (i : Int))) (.val (.int (j : Int))) a8 a9 a10 a11 a12 a13 a14 a15 a16 a17) = .nx σ' ∧ ∃ a7 a10, σ' = stW l ws tn a0 (.val (.int (i : Int))) a7 a8 a9 a10 a11 a12 a13 a14 a15 a16 a17 := by
  have wl := T.wl
  have hlim : lim = 16000000 := rfl
  have hw : ws[i]? = some ws[i] := List.getElem?_eq_getElem (by omega)
  have hv : ws[j]? = some ws[j] := List.getElem?_eq_getElem hj
  generalize ws[i] = w at hw
  generalize ws[j] = v at hv
  have h1 := exL_at (tn := tn) (a0 := a0) (a8 := a8) (a9 := a9) (a10 := a10) (a11 := a11) (a12 := a12) (a13 := a13) (a14 := a14) (a15 := a15) (a16 := a16) (a17 := a17) T hw hv hij
  have k1 := leafK_len T hw
  have k2 := leafK_len T hv
  have hlen : ((leafs 0 1 ws).take i ++ [leafK ws j v] ++ ((leafs 0 1 ws).drop (i + 1)).take (j - (i + 1)) ++ [leafK ws i w] ++ (leafs 0 1 ws).drop (j + 1)).flatten.length ≤ 2000 := by
    have b1 := flat_take_le (leafs 0 1 ws) i
    have b2 := drop_le (leafs 0 1 ws) (i + 1)
    have b3 := flat_take_le ((leafs 0 1 ws).drop (i + 1)) (j - (i + 1))
    have b4 := drop_le (leafs 0 1 ws) (j + 1)
    unfold whole at wl
    simp only [List.flatten_append, List.length_append, List.flatten_cons, List.flatten_nil, List.append_nil]
    omega
  have e : ((leafs 0 1 ws).take i ++ [leafK ws j v] ++ ((leafs 0 1 ws).drop (i + 1)).take (j - (i + 1)) ++ [leafK ws i w] ++ (leafs 0 1 ws).drop (j + 1)).flatten = preK ws i ++ (leafT (accK ws j) (1 + j) v ++ (((leafs 0 1 ws).drop (i + 1)).take (j - (i + 1)) ++ [leafK ws i w] ++ (leafs 0 1 ws).drop (j + 1)).flatten) := by
    rw [← leafs_pre]
    simp [leafK]
  have h2 := jn_at h1 (by omega)
  generalize ((leafs 0 1 ws).take i ++ [leafK ws j v] ++ ((leafs 0 1 ws).drop (i + 1)).take (j - (i + 1)) ++ [leafK ws i w] ++ (leafs 0 1 ws).drop (j + 1)).flatten = t at *
  have h3 := words_cut T (by omega) (by omega) e (by omega)
  refine ⟨_, ?_, .val (.int (j : Int)), .val (.str (S t)), rfl⟩
  unfold lw3a
  rw [seq_go (set_go h2)]
  refine if_skip (ne_ok (wiE_at (t := t) rfl h3) ?_ (resD_shaped (fun w h => T.ok w (List.mem_of_mem_take h)) _))
  exact duE_at (a0 := a0) (a3 := .val (.int (i : Int))) (a7 := .val (.int (j : Int))) (a8 := a8) (a9 := a9) (a10 := .val (.str (S t))) (a11 := a11) (a12 := a12) (a13 := a13) (a14 := a14) (a15 := a15) (a16 := a16) (a17 := a17) T rfl rfl
def twL : DS → Out D := (dOp pAdd (dSl (dVar 5) dPN (dPS (dOp pAdd (dVar 3) (dC (.int 1))))) (dSl (dVar 5) (dPS (dVar 3)) dPN))
theorem twL_at (T : Tn l ws) {i : Nat} : twL (stW l ws tn a0 (.val (.int (i : Int))) a7 a8 a9 a10 a11 a12 a13 a14 a15 a16 a17) = .ok (.list (((leafs 0 1 ws).take (i + 1) ++ (leafs 0 1 ws).drop i).map strD)) := by
  have hlim : lim = 16000000 := rfl
  have hn := T.hi
  have ln := leafs_len ws 0 1
  have c1 : cutG ((leafs 0 1 ws).map strD) none (some ((i : Int) + 1)) = ((leafs 0 1 ws).take (i + 1)).map strD := cut_L (leafs 0 1 ws) (i + 1)
  have c2 := cut_LD (leafs 0 1 ws) i
  have s1 := addL (X := (leafs 0 1 ws).take (i + 1)) (Y := (leafs 0 1 ws).drop i) (by simp; omega)
  generalize ((leafs 0 1 ws).take (i + 1) ++ (leafs 0 1 ws).drop i).map strD = X5 at *
  generalize ((leafs 0 1 ws).take (i + 1)).map strD = X1 at *
  generalize ((leafs 0 1 ws).drop i).map strD = Y1 at *
  unfold twL stW
  simp [c1, c2, s1]
def loL : DS → Out D := (dOp pAdd (dSl (dVar 5) dPN (dPS (dVar 3))) (dSl (dVar 5) (dPS (dOp pAdd (dVar 3) (dC (.int 1)))) dPN))
theorem loL_at (T : Tn l ws) {i : Nat} : loL (stW l ws tn a0 (.val (.int (i : Int))) a7 a8 a9 a10 a11 a12 a13 a14 a15 a16 a17) = .ok (.list (((leafs 0 1 ws).take i ++ (leafs 0 1 ws).drop (i + 1)).map strD)) := by
  have hlim : lim = 16000000 := rfl
  have hn := T.hi
  have ln := leafs_len ws 0 1
  have c1 := cut_L (leafs 0 1 ws) i
  have c2 : cutG ((leafs 0 1 ws).map strD) (some ((i : Int) + 1)) none = ((leafs 0 1 ws).drop (i + 1)).map strD := cut_LD (leafs 0 1 ws) (i + 1)
  have s1 := addL (X := (leafs 0 1 ws).take i) (Y := (leafs 0 1 ws).drop (i + 1)) (by simp; omega)
  generalize ((leafs 0 1 ws).take i ++ (leafs 0 1 ws).drop (i + 1)).map strD = X5 at *
  generalize ((leafs 0 1 ws).take i).map strD = X1 at *
  generalize ((leafs 0 1 ws).drop (i + 1)).map strD = Y1 at *
  unfold loL stW
  simp [c1, c2, s1]
theorem drop_leaf {i : Nat} {w : List Nat} (h : ws[i]? = some w) : ((leafs 0 1 ws).drop i).flatten = leafT (accK ws i) (1 + i) w ++ ((leafs 0 1 ws).drop (i + 1)).flatten := by
  have g := leaf_get h
  have hl := get_lt g
  rw [List.drop_eq_getElem_cons hl]
  rw [List.getElem?_eq_getElem hl] at g
  rw [Option.some.inj g]
  rfl
def lw3b : DS → Res := (dIfS (dB (dOp pNe (wiE (jn twL)) (duE v31))) retF dNext)
def lw3c : DS → Res := (dIfS (dAndT (dB (dOp pLt (dVar 3) (dOp pSub (dCall pLen (dCons (dVar 5) dNil)) (dC (.int 1))))) (dB (dOp pNe (wiE (jn loL)) (duE v3)))) retF dNext)
theorem lw3b_at (T : Tn l ws) {i : Nat} (hi : i < ws.length) : lw3b (stW l ws tn a0 (.val (.int (i : Int))) a7 a8 a9 a10 a11 a12 a13 a14 a15 a16 a17) = .nx (stW l ws tn a0 (.val (.int (i : Int))) a7 a8 a9 a10 a11 a12 a13 a14 a15 a16 a17) := by
  have wl := T.wl
  have hlim : lim = 16000000 := rfl
  have hw : ws[i]? = some ws[i] := List.getElem?_eq_getElem hi
  generalize ws[i] = w at hw
  have h1 := twL_at (tn := tn) (a0 := a0) (a7 := a7) (a8 := a8) (a9 := a9) (a10 := a10) (a11 := a11) (a12 := a12) (a13 := a13) (a14 := a14) (a15 := a15) (a16 := a16) (a17 := a17) T (i := i)
  have hlen : ((leafs 0 1 ws).take (i + 1) ++ (leafs 0 1 ws).drop i).flatten.length ≤ 2000 := by
    have b1 := flat_take_le (leafs 0 1 ws) (i + 1)
    have b2 := drop_le (leafs 0 1 ws) i
    unfold whole at wl
    simp only [List.flatten_append, List.length_append]
    omega
  have e : ((leafs 0 1 ws).take (i + 1) ++ (leafs 0 1 ws).drop i).flatten = preK ws (i + 1) ++ (leafT (accK ws i) (1 + i) w ++ ((leafs 0 1 ws).drop (i + 1)).flatten) := by
    rw [← leafs_pre, List.flatten_append, drop_leaf hw]
  have h2 := jn_at h1 (by omega)
  generalize ((leafs 0 1 ws).take (i + 1) ++ (leafs 0 1 ws).drop i).flatten = t at *
  have h3 := words_cut T (by omega) (by omega) e (by omega)
  unfold lw3b
  refine if_skip (ne_ok (wiE_at h2 h3) ?_ (resD_shaped (fun w h => T.ok w (List.mem_of_mem_take h)) _))
  exact duE_at (a0 := a0) (a3 := .val (.int (i : Int))) (a7 := a7) (a8 := a8) (a9 := a9) (a10 := a10) (a11 := a11) (a12 := a12) (a13 := a13) (a14 := a14) (a15 := a15) (a16 := a16) (a17 := a17) T rfl (by unfold v31 stW; simp)
theorem lw3c_at (T : Tn l ws) {i : Nat} (hi : i < ws.length) : lw3c (stW l ws tn a0 (.val (.int (i : Int))) a7 a8 a9 a10 a11 a12 a13 a14 a15 a16 a17) = .nx (stW l ws tn a0 (.val (.int (i : Int))) a7 a8 a9 a10 a11 a12 a13 a14 a15 a16 a17) := by
  have wl := T.wl
  have hlim : lim = 16000000 := rfl
  have ln := leafs_len ws 0 1
  have tst : dB (dOp pLt (dVar 3) (dOp pSub (dCall pLen (dCons (dVar 5) dNil)) (dC (.int 1)))) (stW l ws tn a0 (.val (.int (i : Int))) a7 a8 a9 a10 a11 a12 a13 a14 a15 a16 a17) = .ok (decide ((i : Int) < (ws.length : Int) - 1)) := by
    unfold stW
    simp [ln]
  unfold lw3c
  refine if_skip ?_
  rw [dAndT_at, tst, Out.ok_bind]
  by_cases hlt : (i : Int) < (ws.length : Int) - 1
  · rw [decide_eq_true hlt, if_pos rfl]
    have hw : ws[i + 1]? = some ws[i + 1] := List.getElem?_eq_getElem (by omega)
    generalize ws[i + 1] = w at hw
    have h1 := loL_at (tn := tn) (a0 := a0) (a7 := a7) (a8 := a8) (a9 := a9) (a10 := a10) (a11 := a11) (a12 := a12) (a13 := a13) (a14 := a14) (a15 := a15) (a16 := a16) (a17 := a17) T (i := i)
    have hlen : ((leafs 0 1 ws).take i ++ (leafs 0 1 ws).drop (i + 1)).flatten.length ≤ 2000 := by
      have b1 := flat_take_le (leafs 0 1 ws) i
      have b2 := drop_le (leafs 0 1 ws) (i + 1)
      unfold whole at wl
      simp only [List.flatten_append, List.length_append]
      omega
    have e : ((leafs 0 1 ws).take i ++ (leafs 0 1 ws).drop (i + 1)).flatten = preK ws i ++ (leafT (accK ws (i + 1)) (1 + (i + 1)) w ++ ((leafs 0 1 ws).drop (i + 1 + 1)).flatten) := by
      rw [← leafs_pre, List.flatten_append, drop_leaf hw]
    have h2 := jn_at h1 (by omega)
    generalize ((leafs 0 1 ws).take i ++ (leafs 0 1 ws).drop (i + 1)).flatten = t at *
    have h3 := words_cut T (by omega) (by omega) e (by omega)
    refine ne_ok (wiE_at h2 h3) ?_ (resD_shaped (fun w h => T.ok w (List.mem_of_mem_take h)) _)
    exact duE_at (a0 := a0) (a3 := .val (.int (i : Int))) (a7 := a7) (a8 := a8) (a9 := a9) (a10 := a10) (a11 := a11) (a12 := a12) (a13 := a13) (a14 := a14) (a15 := a15) (a16 := a16) (a17 := a17) T rfl rfl
  · rw [decide_eq_false hlt, if_neg Bool.false_ne_true]
def lw3 : DS → Res := (dSeqS (dFor (dRng rng2 (dCons v31 (dCons (dCall pLen (dCons (dVar 5) dNil)) dNil))) (gN 7) lw3a) (dSeqS lw3b lw3c))
theorem lw3_at (T : Tn l ws) {i : Nat} (hi : i < ws.length) : ∃ σ', lw3 (stW l ws tn a0 (.val (.int (i : Int))) a7 a8 a9 a10 a11 a12 a13 a14 a15 a16 a17) = .nx σ' ∧ InW l ws tn σ' := by
  have ln := leafs_len ws 0 1
  have hh := T.hi
  have r : dRng rng2 (dCons v31 (dCons (dCall pLen (dCons (dVar 5) dNil)) dNil)) (stW l ws tn a0 (.val (.int (i : Int))) a7 a8 a9 a10 a11 a12 a13 a14 a15 a16 a17) = .ok (rangeD ((i + 1 : Nat) : Int) (ws.length - (i + 1))) := by
    have q := rng2_nat (m := i + 1) (n := ws.length) (by omega) (by omega)
    rw [Int.natCast_add i 1] at q ⊢
    have q' : rng2 [.int ((i : Int) + 1), .int (ws.length : Int)] = some (rangeD ((i : Int) + ((1 : Nat) : Int)) (ws.length - (i + 1))) := q
    generalize rangeD ((i : Int) + ((1 : Nat) : Int)) (ws.length - (i + 1)) = R at q'
    unfold v31 stW
    simp [ln, q']
  obtain ⟨σ', h1, b7, b10, rfl⟩ := forD_keep (k := gN 7) (r := lw3a) (fun σ => ∃ a7 a10, σ = stW l ws tn a0 (.val (.int (i : Int))) a7 a8 a9 a10 a11 a12 a13 a14 a15 a16 a17) (rangeD ((i + 1 : Nat) : Int) (ws.length - (i + 1))) _ ⟨a7, a10, rfl⟩ (by
    rintro d σ hd ⟨b7, b10, rfl⟩
    obtain ⟨k, hk, rfl⟩ := range_mem hd
    rw [← Int.natCast_add]
    obtain ⟨σ', g1, g2⟩ := lw3a_at (tn := tn) (a0 := a0) (a8 := a8) (a9 := a9) (a10 := b10) (a11 := a11) (a12 := a12) (a13 := a13) (a14 := a14) (a15 := a15) (a16 := a16) (a17 := a17) T (i := i) (j := i + 1 + k) (by omega) (by omega)
    exact ⟨_, rfl, σ', g1, g2⟩)
  refine ⟨_, ?_, inW (a0 := a0) (a3 := .val (.int (i : Int))) (a7 := b7) (a8 := a8) (a9 := a9) (a10 := b10) (a11 := a11) (a12 := a12) (a13 := a13) (a14 := a14) (a15 := a15) (a16 := a16) (a17 := a17)⟩
  unfold lw3
  rw [seq_go (σ1 := stW l ws tn a0 (.val (.int (i : Int))) b7 a8 a9 b10 a11 a12 a13 a14 a15 a16 a17) (by rw [dFor_at, r, Res.of_ok]; exact h1), seq_go (lw3b_at T hi)]
  exact lw3c_at T hi
theorem lw3_for (T : Tn l ws) {σ : DS} (h : InW l ws tn σ) : ∃ σ', forD (gN 3) lw3 (rangeD 0 ws.length) σ = .nx σ' ∧ InW l ws tn σ' := by
  refine forD_keep (InW l ws tn) _ σ h ?_
  rintro d σ hd ⟨a0, a3, a7, a8, a9, a10, a11, a12, a13, a14, a15, a16, a17, rfl⟩
  obtain ⟨i, hi, rfl⟩ := range_mem hd
  rw [Int.zero_add]
  obtain ⟨σ', h1, h2⟩ := lw3_at T (tn := tn) (a0 := a0) (a7 := a7) (a8 := a8) (a9 := a9) (a10 := a10) (a11 := a11) (a12 := a12) (a13 := a13) (a14 := a14) (a15 := a15) (a16 := a16) (a17 := a17) hi
  exact ⟨_, rfl, σ', h1, h2⟩
end Pg

set_option maxRecDepth 100000
set_option maxHeartbeats 4000000
namespace Pg
open PySem PySem.Spec PyProof.Rows L2 DL
variable {l : List Nat} {ws : List (List Nat)}
variable {tn : Nat} {a0 a3 a7 a8 a9 a10 a11 a12 a13 a14 a15 a16 a17 : Sl}

/-! ### other heads -/
def hd5 : DS → Out D := dSM pJoin (dC (.str (S []))) (dCons (dL (lcD (dItems (dL (dLst (dCons (dC (.int 10000)) (dCons (dC (.int 1000)) (dCons (dC (.int 100)) (dCons (dC (.int 10)) (dCons (dC (.int 1)) dNil)))))))) (gN 17) dYes (dSl (dCall pStr (dCons (dOp pFdiv (dFn F__law_sum (dCons (dC (.int 0)) (dCons (dVar 14) dNil))) (dVar 17)) dNil)) (dPS (dNeg (dC (.int 1)))) dPN) [17])) dNil)
theorem hd5_at {h : List Nat} (hl : h.length ≤ 100000) (hs : ∀ c ∈ h, c ∈ sigs) : hd5 (stW l ws tn a0 a3 a7 a8 a9 a10 a11 a12 a13 (.val (.str (S h))) a15 a16 a17) = .ok (.str (S (tail5 (sumN 0 h)))) := by
  have v := v_law_sum 0 h hl hs
  have sl := sumN_lt 0 h
  rw [Int.natCast_zero] at v
  have f5 := five (lcStep (gN 17) dYes (dSl (dCall pStr (dCons (dOp pFdiv (dFn F__law_sum (dCons (dC (.int 0)) (dCons (dVar 14) dNil))) (dVar 17)) dNil)) (dPS (dNeg (dC (.int 1)))) dPN) (stW l ws tn a0 a3 a7 a8 a9 a10 a11 a12 a13 (.val (.str (S h))) a15 a16 .nil)) (sumN 0 h) sl (fun p hp hp2 => by
    have d1 := pFdiv_nat (a := sumN 0 h) hp hp2
    have d2 := last_dig (sumN 0 h) p sl
    simp at d1 d2
    unfold stW
    simp [v, d1, d2])
  rw [tail5_digits sl]
  unfold stW at f5
  unfold hd5 stW
  simp [f5, pJoin5]
def txtH (h : List Nat) : List Nat := h ++ 35 :: (tail5 (sumN 0 h) ++ [10])
def thE : DS → Out D := (dOp pAdd (dOp pAdd (dOp pAdd (dVar 14) (dC (.str (S [35])))) hd5) (dC (.str (S [10]))))
theorem thE_at {h : List Nat} (hl : h.length ≤ 1000) (hs : ∀ c ∈ h, c ∈ sigs) : thE (stW l ws tn a0 a3 a7 a8 a9 a10 a11 a12 a13 (.val (.str (S h))) a15 a16 a17) = .ok (.str (S (txtH h))) := by
  have hlim : lim = 16000000 := rfl
  have v := hd5_at (l := l) (ws := ws) (tn := tn) (a0 := a0) (a3 := a3) (a7 := a7) (a8 := a8) (a9 := a9) (a10 := a10) (a11 := a11) (a12 := a12) (a13 := a13) (a15 := a15) (a16 := a16) (a17 := a17) (h := h) (by omega) hs
  have tl := tail5_len (sumN_lt 0 h)
  have q1 : pAdd (.str (S h)) (.str (S [35])) = some (.str (S (h ++ [35]))) := pAdd_S (by simp; omega)
  have q2 : pAdd (.str (S (h ++ [35]))) (.str (S (tail5 (sumN 0 h)))) = some (.str (S (h ++ 35 :: tail5 (sumN 0 h)))) := by rw [pAdd_S (by rw [tl]; simp; omega)]; simp
  have q3 : pAdd (.str (S (h ++ 35 :: tail5 (sumN 0 h)))) (.str (S [10])) = some (.str (S (txtH h))) := by
    rw [pAdd_S (by rw [List.length_append, List.length_cons, tl]; simp; omega)]
    unfold txtH
    simp
  have e : dVar 14 (stW l ws tn a0 a3 a7 a8 a9 a10 a11 a12 a13 (.val (.str (S h))) a15 a16 a17) = .ok (.str (S h)) := rfl
  unfold thE
  simp only [dOp_at, e, dC_at, v, Out.ok_bind, Out.opt_some, q1, q2, q3]
/-- a text that does not begin as a first leaf does -/
theorem dig1 : dig 1 = [49] := TL.numL_lt (by decide)
theorem leaf1 (w : List Nat) : leafT 0 1 w = 49 :: 32 :: (w ++ [32] ++ (35 :: tail5 (sumN 0 (headL 1 w)) ++ [10])) := by
  unfold leafT lineL
  rw [show headL 1 w = 49 :: 32 :: (w ++ [32]) from by unfold headL; rw [dig1]; rfl]
  simp
theorem bad_first {c : Nat} {t : List Nat} (h : c ≠ 49) : Bad 0 1 (c :: t) := fun w _ q => by
  rw [leaf1, List.cons_prefix_cons] at q
  exact h q.1.symm
theorem tail5_nl {s : Nat} (h : s < 99989) : 10 ∉ tail5 s := by
  rw [tail5_digits h]
  simp
  omega
theorem bad_txt {h : List Nat} (hs : ∀ c ∈ h, c ∈ sigs) (hb : ∀ w, wordOK w → h ≠ 49 :: 32 :: (w ++ [32])) : Bad 0 1 (txtH h) := fun w ok q => by
  have nl := lineL_nl 0 1 w ok
  have e : leafT 0 1 w <+: (h ++ 35 :: tail5 (sumN 0 h)) ++ 10 :: [] := by
    have : txtH h = (h ++ 35 :: tail5 (sumN 0 h)) ++ 10 :: [] := by unfold txtH; simp
    rw [← this]
    exact q
  unfold leafT at e
  have := first_pre e nl (by
    rw [List.mem_append, List.mem_cons]
    rintro (z | z | z)
    · have := hs 10 z
      revert this
      decide
    · cases z
    · exact tail5_nl (sumN_lt _ _) z)
  unfold lineL at this
  have l1 := congrArg List.length this
  rw [List.length_append, List.length_append, List.length_cons, List.length_cons, tail5_len (sumN_lt _ _), tail5_len (sumN_lt _ _)] at l1
  have := (List.append_inj this (by omega)).1
  exact hb w ok (by
    rw [← this]
    unfold headL
    rw [dig1]
    rfl)
theorem words_none {t : List Nat} (ht : t.length ≤ 100000) (hb : Bad 0 1 t) : F_words_in [.val (.str (S t))] = .ok (resD [] 0) :=
  words_at (ws := []) (k := 0) (fun w h => by cases h) (by decide) ht rfl (Nat.le_refl _) hb
def w0E : DS → Out D := dOp pIx (dVar 4) (dC (.int 0))
def orE : DS → Out Bool := (dOrT (dB (dOp pNe (dVar 14) (dOp pAdd (dC (.str (S [49, 32]))) w0E))) (dOrT (dB (dOp pNe (dSl w0E (dPS (dNeg (dC (.int 1)))) dPN) (dC (.str (S [32]))))) (dB (dOp pLt (dCall pLen (dCons w0E dNil)) (dC (.int 2))))))
def nnE : DS → Out D := dTup (dCons (dTup dNil) (dCons (dC (.int 0)) dNil))
def lw4 : DS → Res := (dSeqS (dSet 15 thE) (dIfS (dAndT (dB (dOp pNe (wiE (dVar 15)) nnE)) orE) retF dNext))
theorem nnE_at {σ : DS} : nnE σ = .ok (resD [] 0) := by
  unfold nnE resD
  simp
theorem w0E_at {w0 : List Nat} (hw : ws[0]? = some w0) : w0E (stW l ws tn a0 a3 a7 a8 a9 a10 a11 a12 a13 a14 a15 a16 a17) = .ok (.str (S w0)) := by
  have q : pIx (.tuple (ws.map strD)) (.int 0) = some (.str (S w0)) := pIx_tuple (i := 0) (by rw [List.getElem?_map, hw]; rfl)
  unfold w0E stW
  simp [q]
theorem lw4_bad {h : List Nat} (hl : h.length ≤ 1000) (hs : ∀ c ∈ h, c ∈ sigs) (hb : Bad 0 1 (txtH h)) : lw4 (stW l ws tn a0 a3 a7 a8 a9 a10 a11 a12 a13 (.val (.str (S h))) a15 a16 a17) = .nx (stW l ws tn a0 a3 a7 a8 a9 a10 a11 a12 a13 (.val (.str (S h))) (.val (.str (S (txtH h)))) a16 a17) := by
  have tl := tail5_len (sumN_lt 0 h)
  have ht : (txtH h).length ≤ 100000 := by
    unfold txtH
    rw [List.length_append, List.length_cons, List.length_append, tl]
    simp
    omega
  unfold lw4
  rw [seq_go (set_go (thE_at hl hs))]
  refine if_skip ?_
  rw [dAndT_at, ne_ok (wiE_at (t := txtH h) rfl (words_none ht hb)) nnE_at (resD_shaped (fun w h => by cases h) _), Out.ok_bind, if_neg Bool.false_ne_true]
theorem ne_some {d e : D} (h1 : SeqAt.shaped d = true) (h2 : SeqAt.shaped e = true) : ∃ b, pNe d e = some (.bool b) := by
  have : ∃ b, pEqB d e = some b := by
    unfold pEqB
    split
    · exact ⟨_, rfl⟩
    · exact ⟨_, rfl⟩
    · rw [h1, h2]
      exact ⟨_, rfl⟩
  obtain ⟨b, hb⟩ := this
  exact ⟨!b, by unfold pNe; rw [hb]; rfl⟩
theorem lw4_good (T : Tn l ws) {w0 w : List Nat} (hw : ws[0]? = some w0) (hw0 : w0 = w ++ [32]) (hne : w ≠ []) : lw4 (stW l ws tn a0 a3 a7 a8 a9 a10 a11 a12 a13 (.val (.str (S (49 :: 32 :: w0)))) a15 a16 a17) = .nx (stW l ws tn a0 a3 a7 a8 a9 a10 a11 a12 a13 (.val (.str (S (49 :: 32 :: w0)))) (.val (.str (S (txtH (49 :: 32 :: w0))))) a16 a17) := by
  have hlim : lim = 16000000 := rfl
  have hm := List.mem_of_getElem? hw
  have ok0 := T.ok w0 hm
  have sh := T.sh w0 hm
  have okw : wordOK w := ⟨hne, by rw [hw0] at sh; simp at sh; omega, fun c hc => ok0.2.2 c (by rw [hw0]; exact List.mem_append_left _ hc)⟩
  have hs : ∀ c ∈ 49 :: 32 :: w0, c ∈ sigs := by
    intro c hc
    simp only [List.mem_cons] at hc
    rcases hc with hc | hc | hc
    · rw [hc]; decide
    · rw [hc]; decide
    · exact ok0.2.2 c hc
  have eh : 49 :: 32 :: w0 = headL 1 w := by
    unfold headL
    rw [dig1, hw0]
    rfl
  have et : txtH (49 :: 32 :: w0) = preK [w] 1 ++ [] := by
    unfold txtH preK
    rw [eh]
    show _ = (leafT 0 1 w ++ []) ++ []
    unfold leafT lineL
    simp
  have okk : wordsOK [w] := fun z hz => by
    rw [List.mem_singleton] at hz
    rw [hz]
    exact okw
  have ht : (txtH (49 :: 32 :: w0)).length ≤ 100000 := by
    have tl := tail5_len (sumN_lt 0 (49 :: 32 :: w0))
    unfold txtH
    rw [List.length_append, List.length_cons (a := 35), List.length_append, tl]
    simp
    omega
  have v := words_at (ws := [w]) (k := 1) okk (by simp) ht et (by simp) (bad_nl (by simp))
  obtain ⟨b, hb⟩ := ne_some (resD_shaped (ws := [w].take 1) okk (preK [w] 1).length) (resD_shaped (ws := []) (fun w h => by cases h) 0)
  have e1 : dB (dOp pNe (wiE (dVar 15)) nnE) (stW l ws tn a0 a3 a7 a8 a9 a10 a11 a12 a13 (.val (.str (S (49 :: 32 :: w0)))) (.val (.str (S (txtH (49 :: 32 :: w0))))) a16 a17) = .ok b := by
    rw [dB_at, dOp_at, wiE_at (t := txtH (49 :: 32 :: w0)) rfl v, Out.ok_bind, nnE_at, Out.ok_bind, hb]
    rfl
  have e2 : orE (stW l ws tn a0 a3 a7 a8 a9 a10 a11 a12 a13 (.val (.str (S (49 :: 32 :: w0)))) (.val (.str (S (txtH (49 :: 32 :: w0))))) a16 a17) = .ok false := by
    have q0 := w0E_at (l := l) (tn := tn) (a0 := a0) (a3 := a3) (a7 := a7) (a8 := a8) (a9 := a9) (a10 := a10) (a11 := a11) (a12 := a12) (a13 := a13) (a14 := .val (.str (S (49 :: 32 :: w0)))) (a15 := .val (.str (S (txtH (49 :: 32 :: w0))))) (a16 := a16) (a17 := a17) hw
    have q1 : pAdd (.str (S [49, 32])) (.str (S w0)) = some (.str (S (49 :: 32 :: w0))) := by rw [pAdd_S (by simp; omega)]; rfl
    have q2 : pSl (.str (S w0)) (some (-1)) none = some (.str (S [32])) := by
      rw [pSl_S (by omega), cut_e1, hw0, List.length_append, List.length_singleton, Nat.add_sub_cancel, List.drop_left]
    have q3 := pLen_S (a := w0) (by omega)
    have q4 : ¬ (w0.length : Int) < 2 := by
      rw [hw0]
      have : 0 < w.length := List.length_pos_iff.mpr hne
      simp
      omega
    have q5 : dVar 14 (stW l ws tn a0 a3 a7 a8 a9 a10 a11 a12 a13 (.val (.str (S (49 :: 32 :: w0)))) (.val (.str (S (txtH (49 :: 32 :: w0))))) a16 a17) = .ok (.str (S (49 :: 32 :: w0))) := rfl
    unfold orE
    simp only [dOrT_at, dB_at, dOp_at, dSl_at, dPS_at, dPN_at, dNeg_at, dC_at, dCall_at, dCons_at, dNil_at, q0, q1, q2, q3, q5, Out.ok_bind, Out.opt_some, pNeg_int, asI_int, pNe_S, asB_bool, pLt_int, decide_true, Bool.not_true, Bool.false_eq_true, if_false, decide_eq_false q4]
  unfold lw4
  rw [seq_go (set_go (thE_at (by simp; omega) hs))]
  refine if_skip ?_
  rw [dAndT_at]
  refine Eq.trans (congrArg (fun z => z >>= _) e1) ?_
  rw [Out.ok_bind]
  cases b with
  | true => rw [if_pos rfl]; exact e2
  | false => rw [if_neg Bool.false_ne_true]
/-- the heads that are tried -/
def heads (w0 : List Nat) : List (List Nat) := [[48, 49, 32] ++ w0 ++ [32], [49, 32] ++ w0, [32] ++ w0 ++ [32], [49, 32, 32], [50, 32] ++ w0 ++ [32], [120, 32] ++ w0 ++ [32], [45, 49, 32] ++ w0 ++ [32]]
theorem lw4_head (T : Tn l ws) {w0 h : List Nat} (hw : ws[0]? = some w0) (hh : h ∈ heads w0) : lw4 (stW l ws tn a0 a3 a7 a8 a9 a10 a11 a12 a13 (.val (.str (S h))) a15 a16 a17) = .nx (stW l ws tn a0 a3 a7 a8 a9 a10 a11 a12 a13 (.val (.str (S h))) (.val (.str (S (txtH h)))) a16 a17) := by
  have hm := List.mem_of_getElem? hw
  have ok0 := T.ok w0 hm
  have sh := T.sh w0 hm
  have hl : h.length ≤ 1000 := by
    unfold heads at hh
    simp only [List.mem_cons, List.not_mem_nil, or_false] at hh
    rcases hh with rfl | rfl | rfl | rfl | rfl | rfl | rfl <;> simp <;> omega
  have hs : ∀ c ∈ h, c ∈ sigs := by
    intro c hc
    by_cases k : c ∈ w0
    · exact ok0.2.2 c k
    · have : c ∈ [48, 49, 32, 50, 120, 45] := by
        unfold heads at hh
        simp only [List.mem_cons, List.not_mem_nil, or_false] at hh ⊢
        rcases hh with rfl | rfl | rfl | rfl | rfl | rfl | rfl <;> simp [k] at hc <;> omega
      revert this
      have : ∀ c ∈ [48, 49, 32, 50, 120, 45], c ∈ sigs := by decide
      exact this c
  by_cases h1 : h = [49, 32] ++ w0
  · by_cases h2 : ∃ w, w ≠ [] ∧ w0 = w ++ [32]
    · obtain ⟨w, hne, e⟩ := h2
      rw [h1]
      exact lw4_good T hw e hne
    · refine lw4_bad hl hs (bad_txt hs fun w ok e => ?_)
      rw [h1] at e
      have : w0 = w ++ [32] := by
        injection e with _ e
        injection e
      exact h2 ⟨w, ok.1, this⟩
  · refine lw4_bad hl hs ?_
    unfold heads at hh
    simp only [List.mem_cons, List.not_mem_nil, or_false] at hh
    rcases hh with rfl | rfl | rfl | rfl | rfl | rfl | rfl
    · exact bad_first (by decide)
    · exact absurd rfl h1
    · exact bad_first (by decide)
    · refine bad_txt hs fun w ok e => ?_
      have := congrArg List.length e
      simp at this
      exact ok.1 (by simpa using this)
    · exact bad_first (by decide)
    · exact bad_first (by decide)
    · exact bad_first (by decide)
theorem lw4_for (T : Tn l ws) {w0 : List Nat} (hw : ws[0]? = some w0) {σ : DS} (h : InW l ws tn σ) : ∃ σ', forD (gN 14) lw4 ((heads w0).map strD) σ = .nx σ' ∧ InW l ws tn σ' := by
  refine forD_keep (InW l ws tn) _ σ h ?_
  rintro d σ hd ⟨a0, a3, a7, a8, a9, a10, a11, a12, a13, a14, a15, a16, a17, rfl⟩
  rw [List.mem_map] at hd
  obtain ⟨h, hh, rfl⟩ := hd
  exact ⟨_, rfl, _, lw4_head T hw hh, inW⟩
def hdE : DS → Out (List D) := (dItems (dL (dLst (dCons (dOp pAdd (dOp pAdd (dC (.str (S [48, 49, 32]))) w0E) (dC (.str (S [32])))) (dCons (dOp pAdd (dC (.str (S [49, 32]))) w0E) (dCons (dOp pAdd (dOp pAdd (dC (.str (S [32]))) w0E) (dC (.str (S [32])))) (dCons (dC (.str (S [49, 32, 32]))) (dCons (dOp pAdd (dOp pAdd (dC (.str (S [50, 32]))) w0E) (dC (.str (S [32])))) (dCons (dOp pAdd (dOp pAdd (dC (.str (S [120, 32]))) w0E) (dC (.str (S [32])))) (dCons (dOp pAdd (dOp pAdd (dC (.str (S [45, 49, 32]))) w0E) (dC (.str (S [32])))) dNil))))))))))
theorem hdE_at (T : Tn l ws) {w0 : List Nat} (hw : ws[0]? = some w0) {σ : DS} (h : InW l ws tn σ) : hdE σ = .ok ((heads w0).map strD) := by
  have hlim : lim = 16000000 := rfl
  have sh := T.sh w0 (List.mem_of_getElem? hw)
  obtain ⟨a0, a3, a7, a8, a9, a10, a11, a12, a13, a14, a15, a16, a17, rfl⟩ := h
  have q0 := w0E_at (l := l) (tn := tn) (a0 := a0) (a3 := a3) (a7 := a7) (a8 := a8) (a9 := a9) (a10 := a10) (a11 := a11) (a12 := a12) (a13 := a13) (a14 := a14) (a15 := a15) (a16 := a16) (a17 := a17) hw
  have p1 : ∀ a : List Nat, a.length ≤ 3 → pAdd (.str (S a)) (.str (S w0)) = some (.str (S (a ++ w0))) := fun a h => pAdd_S (by omega)
  have p2 : ∀ a : List Nat, a.length ≤ 3 → pAdd (.str (S (a ++ w0))) (.str (S [32])) = some (.str (S (a ++ w0 ++ [32]))) := fun a h => pAdd_S (by simp; omega)
  unfold hdE
  simp only [dItems_at, dL_at, dLst_at, dCons_at, dNil_at, dOp_at, dC_at, q0, Out.ok_bind, Out.opt_some, p1 [48, 49, 32] (by decide), p1 [49, 32] (by decide), p1 [32] (by decide), p1 [50, 32] (by decide), p1 [120, 32] (by decide), p1 [45, 49, 32] (by decide), p2 [48, 49, 32] (by decide), p2 [49, 32] (by decide), p2 [32] (by decide), p2 [50, 32] (by decide), p2 [120, 32] (by decide), p2 [45, 49, 32] (by decide), itemsD_list]
  rfl
end Pg

set_option maxRecDepth 100000
set_option maxHeartbeats 4000000
namespace Pg
open PySem PySem.Spec PyProof.Rows L2 DL
variable {l : List Nat} {ws : List (List Nat)}
variable {tn : Nat} {a0 a3 a4 a5 a6 a7 a8 a9 a10 a11 a12 a13 a14 a15 a16 a17 : Sl}

/-! ### one turn -/
def wdE : DS → Out D := (dCall pTuple (dCons (dL (lcD (dRng rng1 (dCons (dOp pAdd (dC (.int 1)) (dOp pMod (dCall pInt (dCons (dOp pIx (dVar 1) (dOp pAdd (dC (.int 3)) (dVar 2))) dNil)) (dC (.int 5)))) dNil)) (gN 3) dYes (dFn F__law_text (dCons (dVar 1) (dCons (dOp pAdd (dOp pAdd (dC (.int 7)) (dOp pMul (dC (.int 13)) (dVar 3))) (dVar 2)) dNil))) [3])) dNil))
def wdW (l : List Nat) (tn : Nat) : List (List Nat) := (List.range (1 + l.getD (3 + tn) 0 % 5)).map fun i => txW l (7 + 13 * i + tn)
theorem wd_tn (hl : l.length = 120) : Tn l (wdW l tn) := by
  have hn : (wdW l tn).length = 1 + l.getD (3 + tn) 0 % 5 := by unfold wdW; simp
  refine ⟨hl, ?_, ?_, by omega, by omega⟩
  · intro w hw
    unfold wdW at hw
    rw [List.mem_map] at hw
    obtain ⟨i, _, rfl⟩ := hw
    exact (txW_ok l _).1
  · intro w hw
    unfold wdW at hw
    rw [List.mem_map] at hw
    obtain ⟨i, _, rfl⟩ := hw
    exact (txW_ok l _).2
theorem wdE_at (hl : l.length = 120) (ht : tn < 3) : wdE [a0, .val (.list (natsD l)), .val (.int (tn : Int)), a3, a4, a5, a6, a7, a8, a9, a10, a11, a12, a13, a14, a15, a16, a17] = .ok (.tuple ((wdW l tn).map strD)) := by
  have hlim : lim = 16000000 := rfl
  have q1 : pIx (.list (natsD l)) (.int (3 + (tn : Int))) = some (.int (l.getD (3 + tn) 0 : Int)) := natsD_at (l := l) (i := 3 + tn) (by omega)
  unfold wdW
  generalize l.getD (3 + tn) 0 = z at q1
  have q2 : pMod (.int (z : Int)) (.int 5) = some (.int ((z % 5 : Nat) : Int)) := pMod_nat (b := 5) (by decide)
  have q3 : rng1 [.int (1 + ((z % 5 : Nat) : Int))] = some (rangeD 0 (1 + z % 5)) := by
    have := rng1_nat (n := 1 + z % 5) (by omega)
    rw [Int.natCast_add] at this
    exact this
  have hb : 1 + z % 5 ≤ lim := by omega
  generalize z % 5 = r at q2 q3 hb
  have q4 : lcGo (lcStep (gN 3) dYes (dFn F__law_text (dCons (dVar 1) (dCons (dOp pAdd (dOp pAdd (dC (.int 7)) (dOp pMul (dC (.int 13)) (dVar 3))) (dVar 2)) dNil))) [a0, .val (.list (natsD l)), .val (.int (tn : Int)), .nil, a4, a5, a6, a7, a8, a9, a10, a11, a12, a13, a14, a15, a16, a17]) (rangeD 0 (1 + r)) = .ok ((List.range (1 + r)).map fun i => strD (txW l (7 + 13 * i + tn))) := by
    rw [range_map]
    refine lcGo_map _ fun i hi => ?_
    have m : pMul (.int 13) (.int (i : Int)) = some (.int (13 * (i : Int))) := by
      have := pMul_nat (a := 13) (b := i) (Or.inl (by decide))
      rw [Int.natCast_mul] at this
      exact this
    have v := v_law_text l (by omega) (7 + 13 * i + tn)
    rw [Int.natCast_add, Int.natCast_add, Int.natCast_mul] at v
    have v' : F__law_text [.val (.list (natsD l)), .val (.int (7 + 13 * (i : Int) + (tn : Int)))] = _ := v
    simp [m, v', strD]
  have e : ((List.range (1 + r)).map fun i => txW l (7 + 13 * i + tn)).map strD = (List.range (1 + r)).map fun i => strD (txW l (7 + 13 * i + tn)) := by rw [List.map_map]; rfl
  rw [e]
  generalize ((List.range (1 + r)).map fun i => strD (txW l (7 + 13 * i + tn))) = W at q4
  unfold wdE
  simp [q1, q2, q3, hb, q4, pTuple]
def lv0 : DS → Out D := dFn F__law_leaves (dCons (dVar 4) dNil)
def jn5 : DS → Out D := dSM pJoin (dC (.str (S []))) (dCons (dVar 5) dNil)
def st0 : DS → Res := (dIfS (dOrT (dB (dOp pNe (dFn F_leaves_of (dCons (dVar 4) dNil)) (dVar 6))) (dB (dOp pNe (dFn F_words_in (dCons (dVar 6) dNil)) (dTup (dCons (dVar 4) (dCons (dCall pLen (dCons (dVar 6) dNil)) dNil)))))) retF dNext)
theorem st0_at (T : Tn l ws) : st0 (stW l ws tn a0 a3 a7 a8 a9 a10 a11 a12 a13 a14 a15 a16 a17) = .nx (stW l ws tn a0 a3 a7 a8 a9 a10 a11 a12 a13 a14 a15 a16 a17) := by
  have hlim : lim = 16000000 := rfl
  have wl := T.wl
  have hi := T.hi
  have v1 : F_leaves_of [.val (.tuple (ws.map strD))] = .ok (.str (S (whole ws))) := v_leaves_of ws T.ok (by unfold whole at wl; omega) (by omega)
  have v2 : F_words_in [.val (.str (S (whole ws)))] = .ok (resD ws (whole ws).length) := by
    have := words_at (ws := ws) (k := ws.length) (t := whole ws) (rest := []) T.ok (by omega) (by omega) (by rw [preK_all ws (Nat.le_refl _), List.append_nil]) (Nat.le_refl _) (bad_nl (by simp))
    rw [List.take_length, preK_all ws (Nat.le_refl _)] at this
    exact this
  have q := pLen_S (a := whole ws) (by omega)
  have n := ne_self (resD_shaped T.ok (whole ws).length)
  unfold resD at v2 n
  unfold st0 stW
  simp [v1, v2, q, n]
def trn : DS → Res := (dSeqS (dSet 4 wdE) (dSeqS (dSet 5 lv0) (dSeqS (dSet 6 jn5) (dSeqS st0
    (dSeqS (dFor (dRng rng1 (dCons (dOp pAdd (dCall pLen (dCons (dVar 6) dNil)) (dC (.int 1))) dNil)) (gN 3) lw1)
    (dSeqS (dFor (dRng rng1 (dCons (dC (.int 40)) dNil)) (gN 7) lw2)
    (dSeqS (dFor (dRng rng1 (dCons (dCall pLen (dCons (dVar 5) dNil)) dNil)) (gN 3) lw3)
    (dFor hdE (gN 14) lw4))))))))
theorem for_go {it : DS → Out (List D)} {k : D → DS → Option DS} {r : DS → Res} {σ σ' : DS} {ds : List D} (h : it σ = .ok ds) (h2 : forD k r ds σ = .nx σ') : dFor it k r σ = .nx σ' := by rw [dFor_at, h, Res.of_ok, h2]
theorem InW.v5 {σ : DS} (h : InW l ws tn σ) : dVar 5 σ = .ok (.list ((leafs 0 1 ws).map strD)) := by
  obtain ⟨a0, a3, a7, a8, a9, a10, a11, a12, a13, a14, a15, a16, a17, rfl⟩ := h
  rfl
theorem InW.v6 {σ : DS} (h : InW l ws tn σ) : dVar 6 σ = .ok (.str (S (whole ws))) := by
  obtain ⟨a0, a3, a7, a8, a9, a10, a11, a12, a13, a14, a15, a16, a17, rfl⟩ := h
  rfl
theorem trn_at (hl : l.length = 120) (ht : tn < 3) : ∃ σ', trn [a0, .val (.list (natsD l)), .val (.int (tn : Int)), a3, a4, a5, a6, a7, a8, a9, a10, a11, a12, a13, a14, a15, a16, a17] = .nx σ' ∧ InW l (wdW l tn) tn σ' := by
  have hlim : lim = 16000000 := rfl
  have T := wd_tn (tn := tn) hl
  have h1 := wdE_at (l := l) (tn := tn) (a0 := a0) (a3 := a3) (a4 := a4) (a5 := a5) (a6 := a6) (a7 := a7) (a8 := a8) (a9 := a9) (a10 := a10) (a11 := a11) (a12 := a12) (a13 := a13) (a14 := a14) (a15 := a15) (a16 := a16) (a17 := a17) hl ht
  generalize wdW l tn = ws at *
  have wl := T.wl
  have hi := T.hi
  have h2 := v_law_leaves ws T.ok (by omega)
  have j := pJoin_L (ls := leafs 0 1 ws) (by unfold whole at wl; omega)
  have h3 : lv0 [a0, .val (.list (natsD l)), .val (.int (tn : Int)), a3, .val (.tuple (ws.map strD)), a5, a6, a7, a8, a9, a10, a11, a12, a13, a14, a15, a16, a17] = .ok (.list ((leafs 0 1 ws).map strD)) := by
    unfold lv0
    simp [h2]
  have h4 : jn5 [a0, .val (.list (natsD l)), .val (.int (tn : Int)), a3, .val (.tuple (ws.map strD)), .val (.list ((leafs 0 1 ws).map strD)), a6, a7, a8, a9, a10, a11, a12, a13, a14, a15, a16, a17] = .ok (.str (S (whole ws))) := by
    have j' : pJoin (.str (S [])) [.list ((leafs 0 1 ws).map strD)] = some (.str (S (whole ws))) := j
    unfold jn5
    simp [j']
  have i1 : InW l ws tn (stW l ws tn a0 a3 a7 a8 a9 a10 a11 a12 a13 a14 a15 a16 a17) := inW
  have g0 := st0_at (tn := tn) (a0 := a0) (a3 := a3) (a7 := a7) (a8 := a8) (a9 := a9) (a10 := a10) (a11 := a11) (a12 := a12) (a13 := a13) (a14 := a14) (a15 := a15) (a16 := a16) (a17 := a17) T
  obtain ⟨σ1, g1, i2⟩ := lw1_for T i1 ((whole ws).length + 1)
  obtain ⟨σ2, g2, i3⟩ := lw2_for T i2 40
  obtain ⟨σ3, g3, i4⟩ := lw3_for T i3
  have lo := T.lo
  have hw : ws[0]? = some ws[0] := List.getElem?_eq_getElem (by omega)
  obtain ⟨σ4, g4, i5⟩ := lw4_for T hw i4
  refine ⟨σ4, ?_, i5⟩
  unfold trn
  refine Eq.trans (seq_go (set_go h1)) ?_
  refine Eq.trans (seq_go (set_go h3)) ?_
  refine Eq.trans (seq_go (set_go h4)) ?_
  refine Eq.trans (seq_go g0) ?_
  refine Eq.trans (seq_go (for_go ?_ g1)) ?_
  · have q := pLen_S (a := whole ws) (by omega)
    have r : rng1 [.int (((whole ws).length : Int) + 1)] = some (rangeD 0 ((whole ws).length + 1)) := rng1_nat (n := (whole ws).length + 1) (by omega)
    simp only [dRng_at, dCons_at, dOp_at, dCall_at, i1.v6, dNil_at, dC_at, Out.ok_bind, Out.opt_some, q, pAdd_int, r]
  refine Eq.trans (seq_go (for_go ?_ g2)) ?_
  · have r : rng1 [.int 40] = some (rangeD 0 40) := rng1_nat (n := 40) (by decide)
    simp only [dRng_at, dCons_at, dNil_at, dC_at, Out.ok_bind, Out.opt_some, r]
  refine Eq.trans (seq_go (for_go ?_ g3)) ?_
  · have r := rng1_nat (n := ws.length) (by omega)
    simp only [dRng_at, dCons_at, dCall_at, i3.v5, dNil_at, Out.ok_bind, Out.opt_some, pLen_L, List.length_map, leafs_len, r]
  exact for_go (hdE_at T hw i4) g4
/-! ### what is no word, no text -/
theorem leaves_not {d : D} (h : isTy "tuple" d = false) : F_leaves_of [.val d] = .ex ⟨"BadWords", none⟩ := by
  unfold F_leaves_of
  unfold d_leaves_of
  simp [runD, h]
theorem leaves_bad {d : D} (h : F_are_words [.val d] = .ok (.bool false)) : F_leaves_of [.val (.tuple [d])] = .ex ⟨"BadWords", none⟩ := by
  have e : lcGo (lcStep (gN 1) dYes (dFn F_are_words (dCons (dVar 1) dNil)) [Sl.val (.tuple [d]), .nil]) [d] = .ok [.bool false] := by
    unfold lcGo
    simp [h, lcGo]
  unfold F_leaves_of
  unfold d_leaves_of
  simp [runD, isTy, tyName, e, pAll, bools]
theorem are_no {d : D} (h : isTy "str" d = false) : F_are_words [.val d] = .ok (.bool false) := by
  unfold F_are_words
  unfold d_are_words
  simp [runD, h]
theorem are_not {w : List Nat} (h : ¬ wordOK w) (hl : w.length ≤ 100000) : F_are_words [.val (.str (S w))] = .ok (.bool false) := by
  rw [v_are_words w hl, decide_eq_false h]
theorem words_not {d : D} (h : isTy "str" d = false) : F_words_in [.val d] = .ex ⟨"BadText", none⟩ := by
  have c : F_check_text [.val d] = .ex ⟨"BadText", none⟩ := by
    unfold F_check_text
    unfold d_check_text
    simp [runD, h]
  unfold F_words_in
  unfold d_words_in
  simp [runD, c]
theorem word_0 {d : D} (h : F_leaves_of [.val d] = .ex ⟨"BadWords", none⟩) : F__law_word [.val (.int 0), .val d] = .ok (.str "words") := by
  unfold F__law_word
  unfold d__law_word
  simp [runD, dTry, tryGo, exV, h]
theorem word_1 {d : D} (h : F_words_in [.val d] = .ex ⟨"BadText", none⟩) : F__law_word [.val (.int 1), .val d] = .ok (.str "text") := by
  unfold F__law_word
  unfold d__law_word
  simp [runD, dTry, tryGo, exV, h]
/-! ### the whole law -/
theorem lit_a1 : ("01 " : Str) = S [48, 49, 32] := id rfl
theorem lit_a2 : ("1 " : Str) = S [49, 32] := id rfl
theorem lit_a3 : ("1  " : Str) = S [49, 32, 32] := id rfl
theorem lit_a4 : ("2 " : Str) = S [50, 32] := id rfl
theorem lit_a5 : ("x " : Str) = S [120, 32] := id rfl
theorem lit_a6 : ("-1 " : Str) = S [45, 49, 32] := id rfl
theorem lit_b1 : ("a" : Str) = S [97] := id rfl
theorem lit_b2 : ("A" : Str) = S [65] := id rfl
theorem lit_b3 : ("a\n" : Str) = S [97, 10] := id rfl
theorem lit_b4 : ("hello\n" : Str) = S [104, 101, 108, 108, 111, 10] := id rfl
def itW : DS → Out (List D) := (dItems (dL (dLst (dCons (dC .none) (dCons (dC (.str (S [97]))) (dCons (dL (dLst (dCons (dC (.str (S [97]))) dNil))) (dCons (dTup (dCons (dC (.str (S []))) dNil)) (dCons (dTup (dCons (dC (.str (S [65]))) dNil)) (dCons (dTup (dCons (dC (.str (S [97, 10]))) dNil)) (dCons (dTup (dCons (dC (.str (S [35]))) dNil)) (dCons (dTup (dCons (dC .none) dNil)) (dCons (dTup (dCons (dOp pMul (dC (.str (S [97]))) (dC (.int 20001))) dNil)) dNil))))))))))))
def lwW : DS → Res := (dIfS (dB (dOp pNe (dFn F__law_word (dCons (dC (.int 0)) (dCons (dVar 16) dNil))) (dC (.str "words")))) retF dNext)
def enT : DS → Res := (dIfS (dOrT (dB (dOp pNe (dL (lcD (dItems (dL (dLst (dCons (dC .none) (dCons (dC (.int 5)) (dCons (dTup (dCons (dC (.str (S [97]))) dNil)) dNil)))))) (gN 16) dYes (dFn F__law_word (dCons (dC (.int 1)) (dCons (dVar 16) dNil))) [16])) (dOp pMul (dL (dLst (dCons (dC (.str "text")) dNil))) (dC (.int 3))))) (dOrT (dB (dOp pNe (dFn F_leaves_of (dCons (dTup dNil) dNil)) (dC (.str (S []))))) (dB (dOp pNe (dFn F_words_in (dCons (dC (.str (S []))) dNil)) nnE)))) retF dNext)
def enR : DS → Res := (dRet (dAndV (dOp pEq (dFn F_words_in (dCons (dFn F_leaves_of (dCons (dTup (dCons (dOp pMul (dC (.str (S [97]))) (dC (.int 20000))) dNil)) dNil)) dNil)) (dTup (dCons (dTup (dCons (dOp pMul (dC (.str (S [97]))) (dC (.int 20000))) dNil)) (dCons (dC (.int 20010)) dNil)))) (dOp pEq (dFn F_words_in (dCons (dC (.str (S [104, 101, 108, 108, 111, 10]))) dNil)) nnE)))
theorem law_form : d_law = (dSeqS (dSet 1 (dFnV F__law_draws 0 (dCons (dC (.int 120)) dNil))) (dSeqS (dFor (dRng rng1 (dCons (dC (.int 3)) dNil)) (gN 2) trn) (dSeqS (dFor itW (gN 16) lwW) (dSeqS enT enR)))) := by
  unfold d_law trn wdE lv0 jn5 st0 lw1 lw2 atE sgE txE chk ixE plE mnE mxE lfE swE lvE jnE lw3 lw3a exL lw3b twL lw3c loL wiE duE v31 v3 jn hdE lw4 thE hd5 orE w0E itW lwW enT enR nnE retF
  simp only [lit_a1, lit_a2, lit_a3, lit_a4, lit_a5, lit_a6, lit_b1, lit_b2, lit_b3, lit_b4, lit_e, lit_sp, lit_ha, lit_nl, lit_s29]
  rfl
def aL (n : Nat) : List Nat := List.replicate n 97
theorem aL_len (n : Nat) : (aL n).length = n := by unfold aL; simp
theorem mul_a {n : Nat} (h1 : 2 ≤ n) (h2 : n ≤ 100000) : pMul (.str (S [97])) (.int (n : Int)) = some (.str (S (aL n))) := by
  have hlim : lim = 16000000 := rfl
  have f : ∀ n : Nat, (List.replicate n [97]).flatten = List.replicate n 97 := fun n => by
    induction n with
    | zero => rfl
    | succ n ih => rw [List.replicate_succ, List.replicate_succ, List.flatten_cons, ih]; rfl
  have e : repS (S [97]) n = S (aL n) := str_ext (f n)
  show (if decide (2 ≤ (n : Int)) && decide (1 ≤ (S [97]).length) && decide ((S [97]).length * (n : Int).toNat ≤ lim) && decide ((n : Int) ≤ (lim : Int)) then some (PyData.str (repS (S [97]) (n : Int).toNat)) else none) = _
  rw [if_pos, Int.toNat_natCast, e]
  rw [Int.toNat_natCast, S_len, hlim]
  simp only [Bool.and_eq_true, decide_eq_true_eq]
  exact ⟨⟨⟨by omega, by decide⟩, by simp; omega⟩, by omega⟩
theorem itW_at {σ : DS} : itW σ = .ok [PyData.none, .str (S [97]), .list [.str (S [97])], .tuple [.str (S [])], .tuple [.str (S [65])], .tuple [.str (S [97, 10])], .tuple [.str (S [35])], .tuple [.none], .tuple [.str (S (aL 20001))]] := by
  have m : pMul (.str (S [97])) (.int 20001) = some (.str (S (aL 20001))) := mul_a (n := 20001) (by decide) (by decide)
  generalize aL 20001 = z at m
  unfold itW
  simp [m]
theorem bad9 : ∀ d ∈ [PyData.none, .str (S [97]), .list [.str (S [97])], .tuple [.str (S [])], .tuple [.str (S [65])], .tuple [.str (S [97, 10])], .tuple [.str (S [35])], .tuple [.none], .tuple [.str (S (aL 20001))]], F_leaves_of [.val d] = .ex ⟨"BadWords", none⟩ := by
  have b9 : F_leaves_of [.val (.tuple [.str (S (aL 20001))])] = .ex ⟨"BadWords", none⟩ := leaves_bad (are_not (fun h => by
    have := h.2.1
    rw [aL_len] at this
    omega) (by rw [aL_len]; omega))
  generalize aL 20001 = z at b9
  intro d hd
  simp only [List.mem_cons, List.not_mem_nil, or_false] at hd
  rcases hd with rfl | rfl | rfl | rfl | rfl | rfl | rfl | rfl | rfl
  · exact leaves_not rfl
  · exact leaves_not rfl
  · exact leaves_not rfl
  · exact leaves_bad (are_not (by decide) (by decide))
  · exact leaves_bad (are_not (by decide) (by decide))
  · exact leaves_bad (are_not (by decide) (by decide))
  · exact leaves_bad (are_not (by decide) (by decide))
  · exact leaves_bad (are_no rfl)
  · exact b9
def Any18 (l : List Nat) (σ : DS) : Prop := ∃ a0 a2 a3 a4 a5 a6 a7 a8 a9 a10 a11 a12 a13 a14 a15 a16 a17, σ = [a0, .val (.list (natsD l)), a2, a3, a4, a5, a6, a7, a8, a9, a10, a11, a12, a13, a14, a15, a16, a17]
theorem any18 {a2 : Sl} : Any18 l [a0, .val (.list (natsD l)), a2, a3, a4, a5, a6, a7, a8, a9, a10, a11, a12, a13, a14, a15, a16, a17] := ⟨_, _, _, _, _, _, _, _, _, _, _, _, _, _, _, _, _, rfl⟩
theorem InW.any {σ : DS} (h : InW l ws tn σ) : Any18 l σ := by
  obtain ⟨a0, a3, a7, a8, a9, a10, a11, a12, a13, a14, a15, a16, a17, rfl⟩ := h
  exact any18
theorem trn_for (hl : l.length = 120) {σ : DS} (h : Any18 l σ) : ∃ σ', forD (gN 2) trn (rangeD 0 3) σ = .nx σ' ∧ Any18 l σ' := by
  refine forD_keep (Any18 l) _ σ h ?_
  rintro d σ hd ⟨a0, a2, a3, a4, a5, a6, a7, a8, a9, a10, a11, a12, a13, a14, a15, a16, a17, rfl⟩
  obtain ⟨i, hi, rfl⟩ := range_mem hd
  rw [Int.zero_add]
  obtain ⟨σ', h1, h2⟩ := trn_at (l := l) (tn := i) (a0 := a0) (a3 := a3) (a4 := a4) (a5 := a5) (a6 := a6) (a7 := a7) (a8 := a8) (a9 := a9) (a10 := a10) (a11 := a11) (a12 := a12) (a13 := a13) (a14 := a14) (a15 := a15) (a16 := a16) (a17 := a17) hl hi
  exact ⟨_, rfl, σ', h1, h2.any⟩
theorem lwW_for {σ : DS} (h : Any18 l σ) {ds : List D} (hb : ∀ d ∈ ds, F_leaves_of [.val d] = .ex ⟨"BadWords", none⟩) : ∃ σ', forD (gN 16) lwW ds σ = .nx σ' ∧ Any18 l σ' := by
  refine forD_keep (Any18 l) _ σ h ?_
  rintro d σ hd ⟨a0, a2, a3, a4, a5, a6, a7, a8, a9, a10, a11, a12, a13, a14, a15, a16, a17, rfl⟩
  have v := word_0 (hb d hd)
  refine ⟨_, rfl, _, ?_, any18 (a0 := a0) (a2 := a2) (a3 := a3) (a4 := a4) (a5 := a5) (a6 := a6) (a7 := a7) (a8 := a8) (a9 := a9) (a10 := a10) (a11 := a11) (a12 := a12) (a13 := a13) (a14 := a14) (a15 := a15) (a16 := .val d) (a17 := a17)⟩
  have n : pNe (.str "words") (.str "words") = some (.bool false) := by
    show some (PyData.bool (!decide (("words" : Str) = "words"))) = _
    simp
  unfold lwW
  simp [v, n]
theorem enT_at {σ : DS} (h : Any18 l σ) : enT σ = .nx σ := by
  obtain ⟨a0, a2, a3, a4, a5, a6, a7, a8, a9, a10, a11, a12, a13, a14, a15, a16, a17, rfl⟩ := h
  have w1 : ∀ d, isTy "str" d = false → F__law_word [.val (.int 1), .val d] = .ok (.str "text") := fun d h => word_1 (words_not h)
  have x1 := w1 .none rfl
  have x2 := w1 (.int 5) rfl
  have x3 := w1 (.tuple [.str (S [97])]) rfl
  have m : pMul (.list [.str "text"]) (.int 3) = some (.list [.str "text", .str "text", .str "text"]) := by
    show (if decide (-1000 ≤ (3 : Int)) && decide ((3 : Int) ≤ (lim : Int)) && decide (([PyData.str "text"] : List D).length * (3 : Int).toNat ≤ lim) then some (PyData.list (List.replicate (3 : Int).toNat [PyData.str "text"]).flatten) else none) = _
    rw [if_pos (by decide)]
    rfl
  have n := ne_self (d := .list [.str "text", .str "text", .str "text"]) (by decide +kernel)
  have v1 : F_leaves_of [.val (.tuple [])] = .ok (.str (S [])) := v_leaves_of [] (fun w h => by cases h) (by decide) (by decide)
  have v2 := words_none (t := []) (by decide) (bad_nl (by simp))
  have n2 := ne_self (resD_shaped (ws := []) (fun w h => by cases h) 0)
  have n3 : ∀ σ : DS, nnE σ = .ok (resD [] 0) := fun σ => nnE_at
  generalize resD [] 0 = R at *
  unfold enT
  simp [lcGo, x1, x2, x3, m, n, v1, v2, n2, n3]
theorem a20 : F_leaves_of [.val (.tuple [.str (S (aL 20000))])] = .ok (.str (S (whole [aL 20000]))) ∧ F_words_in [.val (.str (S (whole [aL 20000])))] = .ok (resD [aL 20000] 20010) := by
  have ok : wordsOK [aL 20000] := fun w hw => by
    rw [List.mem_singleton] at hw
    rw [hw]
    refine ⟨fun z => ?_, by rw [aL_len]; omega, fun c hc => ?_⟩
    · have := congrArg List.length z
      rw [aL_len] at this
      cases this
    · unfold aL at hc
      rw [List.eq_of_mem_replicate hc]
      decide
  have hl : (whole [aL 20000]).length = 20010 := by
    show (leafT 0 1 (aL 20000) ++ []).length = _
    rw [List.append_nil, leaf_len, head_len, aL_len, dig1]
    rfl
  refine ⟨v_leaves_of [aL 20000] ok (by unfold whole at hl; omega) (by simp), ?_⟩
  have := words_at (ws := [aL 20000]) (k := 1) (t := whole [aL 20000]) (rest := []) ok (by simp) (by omega) (by rw [preK_all [aL 20000] (by simp), List.append_nil]) (by simp) (bad_nl (by simp))
  rw [preK_all [aL 20000] (by simp), hl] at this
  exact this
theorem enR_at {σ : DS} : enR σ = .rt (.bool true) := by
  have m : pMul (.str (S [97])) (.int 20000) = some (.str (S (aL 20000))) := mul_a (n := 20000) (by decide) (by decide)
  obtain ⟨v1, v2⟩ := a20
  have ok : wordsOK [aL 20000] := fun w hw => by
    rw [List.mem_singleton] at hw
    rw [hw]
    refine ⟨fun z => ?_, by rw [aL_len]; omega, fun c hc => ?_⟩
    · have := congrArg List.length z
      rw [aL_len] at this
      cases this
    · unfold aL at hc
      rw [List.eq_of_mem_replicate hc]
      decide
  have n := eq_self (resD_shaped ok 20010)
  have v3 := words_none (t := [104, 101, 108, 108, 111, 10]) (by decide) (bad_first (by decide))
  have n2 := eq_self (resD_shaped (ws := []) (fun w h => by cases h) 0)
  have n3 : ∀ σ : DS, nnE σ = .ok (resD [] 0) := fun σ => nnE_at
  have r : resD [aL 20000] 20010 = .tuple [.tuple [.str (S (aL 20000))], .int 20010] := rfl
  rw [r] at n v2
  generalize resD [] 0 = R at *
  generalize whole [aL 20000] = W at *
  generalize aL 20000 = z at *
  unfold enR
  simp [m, v1, v2, v3, n, n2, n3]
theorem law_true : ∀ ns : List Int, ns.length ≤ 63 → F_law [.raw (ns.map .int)] = .ok (.bool true) := by
  intro ns hn
  obtain ⟨l, hl, v⟩ := v_draws ns hn 120 (by decide)
  have v' : F__law_draws [.raw (ns.map .int), .val (.int 120)] = .ok (.list (natsD l)) := v
  have s0 : Any18 l [.raw (ns.map .int), .val (.list (natsD l)), .nil, .nil, .nil, .nil, .nil, .nil, .nil, .nil, .nil, .nil, .nil, .nil, .nil, .nil, .nil, .nil] := any18
  obtain ⟨σ1, h1, s1⟩ := trn_for hl s0
  obtain ⟨σ2, h2, s2⟩ := lwW_for s1 bad9
  have r3 : rng1 [.int 3] = some (rangeD 0 3) := rng1_nat (n := 3) (by decide)
  have f0 : dSet 1 (dFnV F__law_draws 0 (dCons (dC (.int 120)) dNil)) [Sl.raw (ns.map .int), .nil, .nil, .nil, .nil, .nil, .nil, .nil, .nil, .nil, .nil, .nil, .nil, .nil, .nil, .nil, .nil, .nil] = .nx [.raw (ns.map .int), .val (.list (natsD l)), .nil, .nil, .nil, .nil, .nil, .nil, .nil, .nil, .nil, .nil, .nil, .nil, .nil, .nil, .nil, .nil] := by
    simp [v']
  have f : d_law [Sl.raw (ns.map .int), .nil, .nil, .nil, .nil, .nil, .nil, .nil, .nil, .nil, .nil, .nil, .nil, .nil, .nil, .nil, .nil, .nil] = .rt (.bool true) := by
    rw [law_form]
    refine Eq.trans (seq_go f0) ?_
    refine Eq.trans (seq_go (for_go ?_ h1)) ?_
    · simp only [dRng_at, dCons_at, dNil_at, dC_at, Out.ok_bind, Out.opt_some, r3]
    refine Eq.trans (seq_go (for_go itW_at h2)) ?_
    refine Eq.trans (seq_go (enT_at s2)) ?_
    exact enR_at
  unfold F_law
  have e : runD 18 1 d_law [.raw (ns.map .int)] = (match d_law [Sl.raw (ns.map .int), .nil, .nil, .nil, .nil, .nil, .nil, .nil, .nil, .nil, .nil, .nil, .nil, .nil, .nil, .nil, .nil, .nil] with
    | .rt d => .ok d
    | .nx _ => .ok .none
    | .ex c _ => .ex c
    | _ => .no) := if_pos rfl
  rw [e, f]
end Pg

set_option maxRecDepth 100000
set_option maxHeartbeats 8000000
namespace Pg
open PySem PySem.Spec PyProof.Rows L2 DL
def ctOf (C_BadText C_BadWords C_ResumeError C_TooMany : Addr) : String → Addr := fun n => match n with
  | "BadText" => C_BadText
  | "BadWords" => C_BadWords
  | "ResumeError" => C_ResumeError
  | "TooMany" => C_TooMany
  | _ => 0
theorem facts_mk {K : PySem.W.Frag} {h : Heap} {mg : Str → Option Value} (X : K.In h) (G : h.Ns mainGlobals mg) {f0 f1 f2 f3 f4 f5 f6 f7 f8 f9 f10 f11 f12 f13 f14 f15 C_BadText C_BadWords C_ResumeError C_TooMany : Addr} {od0 an0 : Option Addr} {sl0 : Array (Option Value)} {oc0 kV0 dc0 pm0 cd0 ct0 : Value} {od1 an1 : Option Addr} {sl1 : Array (Option Value)} {oc1 kV1 dc1 pm1 cd1 ct1 : Value} {od2 an2 : Option Addr} {sl2 : Array (Option Value)} {oc2 kV2 dc2 pm2 cd2 ct2 : Value} {od3 an3 : Option Addr} {sl3 : Array (Option Value)} {oc3 kV3 dc3 pm3 cd3 ct3 : Value} {od4 an4 : Option Addr} {sl4 : Array (Option Value)} {oc4 kV4 dc4 pm4 cd4 ct4 : Value} {od5 an5 : Option Addr} {sl5 : Array (Option Value)} {oc5 kV5 dc5 pm5 cd5 ct5 : Value} {od6 an6 : Option Addr} {sl6 : Array (Option Value)} {oc6 kV6 dc6 pm6 cd6 ct6 : Value} {od7 an7 : Option Addr} {sl7 : Array (Option Value)} {oc7 kV7 dc7 pm7 cd7 ct7 : Value} {od8 an8 : Option Addr} {sl8 : Array (Option Value)} {oc8 kV8 dc8 pm8 cd8 ct8 : Value} {od9 an9 : Option Addr} {sl9 : Array (Option Value)} {oc9 kV9 dc9 pm9 cd9 ct9 : Value} {od10 an10 : Option Addr} {sl10 : Array (Option Value)} {oc10 kV10 dc10 pm10 cd10 ct10 : Value} {od11 an11 : Option Addr} {sl11 : Array (Option Value)} {oc11 kV11 dc11 pm11 cd11 ct11 : Value} {od12 an12 : Option Addr} {sl12 : Array (Option Value)} {oc12 kV12 dc12 pm12 cd12 ct12 : Value} {od13 an13 : Option Addr} {sl13 : Array (Option Value)} {oc13 kV13 dc13 pm13 cd13 ct13 : Value} {od14 an14 : Option Addr} {sl14 : Array (Option Value)} {oc14 kV14 dc14 pm14 cd14 ct14 : Value} {od15 an15 : Option Addr} {sl15 : Array (Option Value)} {oc15 kV15 dc15 pm15 cd15 ct15 : Value} {t_MOST_LEAVES t_MOST_WORDS t_SIGNS t_SUMS t_TAIL t_WEIGHT : Tok}
    (a0 : PySem.W.nsIn K mainGlobals "are_words" = some (some (.ref f0)))
    (l0 : K.lookup f0 = some ⟨oc0, od0, .func (PySem.W.fnOf "are_words" "are_words" (defArgs s_are_words) (defBody s_are_words) (defScope s_are_words) .none kV0 dc0 pm0 an0 cd0 ct0), sl0⟩)
    (c0 : PySem.W.codeIn K cd0 "are_words" = true)
    (k0 : PySem.W.keepIn K (.ref f0) = true)
    (a1 : PySem.W.nsIn K mainGlobals "sum_by" = some (some (.ref f1)))
    (l1 : K.lookup f1 = some ⟨oc1, od1, .func (PySem.W.fnOf "sum_by" "sum_by" (defArgs s_sum_by) (defBody s_sum_by) (defScope s_sum_by) .none kV1 dc1 pm1 an1 cd1 ct1), sl1⟩)
    (c1 : PySem.W.codeIn K cd1 "sum_by" = true)
    (k1 : PySem.W.keepIn K (.ref f1) = true)
    (a2 : PySem.W.nsIn K mainGlobals "leaf_by" = some (some (.ref f2)))
    (l2 : K.lookup f2 = some ⟨oc2, od2, .func (PySem.W.fnOf "leaf_by" "leaf_by" (defArgs s_leaf_by) (defBody s_leaf_by) (defScope s_leaf_by) .none kV2 dc2 pm2 an2 cd2 ct2), sl2⟩)
    (c2 : PySem.W.codeIn K cd2 "leaf_by" = true)
    (k2 : PySem.W.keepIn K (.ref f2) = true)
    (a3 : PySem.W.nsIn K mainGlobals "leaves_by" = some (some (.ref f3)))
    (l3 : K.lookup f3 = some ⟨oc3, od3, .func (PySem.W.fnOf "leaves_by" "leaves_by" (defArgs s_leaves_by) (defBody s_leaves_by) (defScope s_leaves_by) .none kV3 dc3 pm3 an3 cd3 ct3), sl3⟩)
    (c3 : PySem.W.codeIn K cd3 "leaves_by" = true)
    (k3 : PySem.W.keepIn K (.ref f3) = true)
    (a4 : PySem.W.nsIn K mainGlobals "leaves_of" = some (some (.ref f4)))
    (l4 : K.lookup f4 = some ⟨oc4, od4, .func (PySem.W.fnOf "leaves_of" "leaves_of" (defArgs s_leaves_of) (defBody s_leaves_of) (defScope s_leaves_of) .none kV4 dc4 pm4 an4 cd4 ct4), sl4⟩)
    (c4 : PySem.W.codeIn K cd4 "leaves_of" = true)
    (k4 : PySem.W.keepIn K (.ref f4) = true)
    (a5 : PySem.W.nsIn K mainGlobals "_row" = some (some (.ref f5)))
    (l5 : K.lookup f5 = some ⟨oc5, od5, .func (PySem.W.fnOf "_row" "_row" (defArgs s__row) (defBody s__row) (defScope s__row) .none kV5 dc5 pm5 an5 cd5 ct5), sl5⟩)
    (c5 : PySem.W.codeIn K cd5 "_row" = true)
    (k5 : PySem.W.keepIn K (.ref f5) = true)
    (a6 : PySem.W.nsIn K mainGlobals "rows_of" = some (some (.ref f6)))
    (l6 : K.lookup f6 = some ⟨oc6, od6, .func (PySem.W.fnOf "rows_of" "rows_of" (defArgs s_rows_of) (defBody s_rows_of) (defScope s_rows_of) .none kV6 dc6 pm6 an6 cd6 ct6), sl6⟩)
    (c6 : PySem.W.codeIn K cd6 "rows_of" = true)
    (k6 : PySem.W.keepIn K (.ref f6) = true)
    (a7 : PySem.W.nsIn K mainGlobals "check_text" = some (some (.ref f7)))
    (l7 : K.lookup f7 = some ⟨oc7, od7, .func (PySem.W.fnOf "check_text" "check_text" (defArgs s_check_text) (defBody s_check_text) (defScope s_check_text) .none kV7 dc7 pm7 an7 cd7 ct7), sl7⟩)
    (c7 : PySem.W.codeIn K cd7 "check_text" = true)
    (k7 : PySem.W.keepIn K (.ref f7) = true)
    (a8 : PySem.W.nsIn K mainGlobals "words_in" = some (some (.ref f8)))
    (l8 : K.lookup f8 = some ⟨oc8, od8, .func (PySem.W.fnOf "words_in" "words_in" (defArgs s_words_in) (defBody s_words_in) (defScope s_words_in) .none kV8 dc8 pm8 an8 cd8 ct8), sl8⟩)
    (c8 : PySem.W.codeIn K cd8 "words_in" = true)
    (k8 : PySem.W.keepIn K (.ref f8) = true)
    (a9 : PySem.W.nsIn K mainGlobals "_law_draws" = some (some (.ref f9)))
    (l9 : K.lookup f9 = some ⟨oc9, od9, .func (PySem.W.fnOf "_law_draws" "_law_draws" (defArgs s__law_draws) (defBody s__law_draws) (defScope s__law_draws) .none kV9 dc9 pm9 an9 cd9 ct9), sl9⟩)
    (c9 : PySem.W.codeIn K cd9 "_law_draws" = true)
    (k9 : PySem.W.keepIn K (.ref f9) = true)
    (a10 : PySem.W.nsIn K mainGlobals "_law_sum" = some (some (.ref f10)))
    (l10 : K.lookup f10 = some ⟨oc10, od10, .func (PySem.W.fnOf "_law_sum" "_law_sum" (defArgs s__law_sum) (defBody s__law_sum) (defScope s__law_sum) .none kV10 dc10 pm10 an10 cd10 ct10), sl10⟩)
    (c10 : PySem.W.codeIn K cd10 "_law_sum" = true)
    (k10 : PySem.W.keepIn K (.ref f10) = true)
    (a11 : PySem.W.nsIn K mainGlobals "_law_leaves" = some (some (.ref f11)))
    (l11 : K.lookup f11 = some ⟨oc11, od11, .func (PySem.W.fnOf "_law_leaves" "_law_leaves" (defArgs s__law_leaves) (defBody s__law_leaves) (defScope s__law_leaves) .none kV11 dc11 pm11 an11 cd11 ct11), sl11⟩)
    (c11 : PySem.W.codeIn K cd11 "_law_leaves" = true)
    (k11 : PySem.W.keepIn K (.ref f11) = true)
    (a12 : PySem.W.nsIn K mainGlobals "_law_text" = some (some (.ref f12)))
    (l12 : K.lookup f12 = some ⟨oc12, od12, .func (PySem.W.fnOf "_law_text" "_law_text" (defArgs s__law_text) (defBody s__law_text) (defScope s__law_text) .none kV12 dc12 pm12 an12 cd12 ct12), sl12⟩)
    (c12 : PySem.W.codeIn K cd12 "_law_text" = true)
    (k12 : PySem.W.keepIn K (.ref f12) = true)
    (a13 : PySem.W.nsIn K mainGlobals "_law_due" = some (some (.ref f13)))
    (l13 : K.lookup f13 = some ⟨oc13, od13, .func (PySem.W.fnOf "_law_due" "_law_due" (defArgs s__law_due) (defBody s__law_due) (defScope s__law_due) .none kV13 dc13 pm13 an13 cd13 ct13), sl13⟩)
    (c13 : PySem.W.codeIn K cd13 "_law_due" = true)
    (k13 : PySem.W.keepIn K (.ref f13) = true)
    (a14 : PySem.W.nsIn K mainGlobals "_law_word" = some (some (.ref f14)))
    (l14 : K.lookup f14 = some ⟨oc14, od14, .func (PySem.W.fnOf "_law_word" "_law_word" (defArgs s__law_word) (defBody s__law_word) (defScope s__law_word) .none kV14 dc14 pm14 an14 cd14 ct14), sl14⟩)
    (c14 : PySem.W.codeIn K cd14 "_law_word" = true)
    (k14 : PySem.W.keepIn K (.ref f14) = true)
    (a15 : PySem.W.nsIn K mainGlobals "law" = some (some (.ref f15)))
    (l15 : K.lookup f15 = some ⟨oc15, od15, .func (PySem.W.fnOf "law" "law" (defArgs s_law) (defBody s_law) (defScope s_law) .none kV15 dc15 pm15 an15 cd15 ct15), sl15⟩)
    (c15 : PySem.W.codeIn K cd15 "law" = true)
    (k15 : PySem.W.keepIn K (.ref f15) = true)
    (g_MOST_LEAVES : PySem.W.nsIn K mainGlobals "MOST_LEAVES" = some (some (.int (99999) t_MOST_LEAVES)))
    (g_MOST_WORDS : PySem.W.nsIn K mainGlobals "MOST_WORDS" = some (some (.int (20000) t_MOST_WORDS)))
    (g_SIGNS : PySem.W.nsIn K mainGlobals "SIGNS" = some (some (.str "abcdefghijklmnopqrstuvwxyz0123456789()+-*<=,:; " t_SIGNS)))
    (g_SUMS : PySem.W.nsIn K mainGlobals "SUMS" = some (some (.int (99989) t_SUMS)))
    (g_TAIL : PySem.W.nsIn K mainGlobals "TAIL" = some (some (.int (6) t_TAIL)))
    (g_WEIGHT : PySem.W.nsIn K mainGlobals "WEIGHT" = some (some (.int (11) t_WEIGHT)))
    (b_abs : PySem.W.nsIn K mainGlobals "abs" = some none)
    (b_all : PySem.W.nsIn K mainGlobals "all" = some none)
    (b_enumerate : PySem.W.nsIn K mainGlobals "enumerate" = some none)
    (b_int : PySem.W.nsIn K mainGlobals "int" = some none)
    (b_isinstance : PySem.W.nsIn K mainGlobals "isinstance" = some none)
    (b_len : PySem.W.nsIn K mainGlobals "len" = some none)
    (b_max : PySem.W.nsIn K mainGlobals "max" = some none)
    (b_min : PySem.W.nsIn K mainGlobals "min" = some none)
    (b_range : PySem.W.nsIn K mainGlobals "range" = some none)
    (b_str : PySem.W.nsIn K mainGlobals "str" = some none)
    (b_tuple : PySem.W.nsIn K mainGlobals "tuple" = some none)
    (xg_BadText : PySem.W.nsIn K mainGlobals "BadText" = some (some (.ref C_BadText)))
    (xx_BadText : PySem.W.excIn K C_BadText [.type "ValueError", .type "Exception", .type "BaseException", .type "object"] "ValueError.__new__" = true)
    (xk_BadText : PySem.W.keepIn K (.ref C_BadText) = true)
    (xb_BadText : PySem.W.subIn K (.ref C_BadText) (.type "BaseException") = some true)
    (xt_BadText : PySem.W.typeIn K (.ref C_BadText) = some (.type "type"))
    (xi_BadText : PySem.W.isClsIn K C_BadText = true)
    (xg_BadWords : PySem.W.nsIn K mainGlobals "BadWords" = some (some (.ref C_BadWords)))
    (xx_BadWords : PySem.W.excIn K C_BadWords [.type "ValueError", .type "Exception", .type "BaseException", .type "object"] "ValueError.__new__" = true)
    (xk_BadWords : PySem.W.keepIn K (.ref C_BadWords) = true)
    (xb_BadWords : PySem.W.subIn K (.ref C_BadWords) (.type "BaseException") = some true)
    (xt_BadWords : PySem.W.typeIn K (.ref C_BadWords) = some (.type "type"))
    (xi_BadWords : PySem.W.isClsIn K C_BadWords = true)
    (xg_ResumeError : PySem.W.nsIn K mainGlobals "ResumeError" = some (some (.ref C_ResumeError)))
    (xx_ResumeError : PySem.W.excIn K C_ResumeError [.type "ValueError", .type "Exception", .type "BaseException", .type "object"] "ValueError.__new__" = true)
    (xk_ResumeError : PySem.W.keepIn K (.ref C_ResumeError) = true)
    (xb_ResumeError : PySem.W.subIn K (.ref C_ResumeError) (.type "BaseException") = some true)
    (xt_ResumeError : PySem.W.typeIn K (.ref C_ResumeError) = some (.type "type"))
    (xi_ResumeError : PySem.W.isClsIn K C_ResumeError = true)
    (xg_TooMany : PySem.W.nsIn K mainGlobals "TooMany" = some (some (.ref C_TooMany)))
    (xx_TooMany : PySem.W.excIn K C_TooMany [.type "ValueError", .type "Exception", .type "BaseException", .type "object"] "ValueError.__new__" = true)
    (xk_TooMany : PySem.W.keepIn K (.ref C_TooMany) = true)
    (xb_TooMany : PySem.W.subIn K (.ref C_TooMany) (.type "BaseException") = some true)
    (xt_TooMany : PySem.W.typeIn K (.ref C_TooMany) = some (.type "type"))
    (xi_TooMany : PySem.W.isClsIn K C_TooMany = true)
    (s_BadText_BadText : PySem.W.subIn K (.ref C_BadText) (.ref C_BadText) = some true)
    (s_BadText_BadWords : PySem.W.subIn K (.ref C_BadText) (.ref C_BadWords) = some false)
    (s_BadText_ResumeError : PySem.W.subIn K (.ref C_BadText) (.ref C_ResumeError) = some true)
    (s_BadText_TooMany : PySem.W.subIn K (.ref C_BadText) (.ref C_TooMany) = some false)
    (s_BadWords_BadText : PySem.W.subIn K (.ref C_BadWords) (.ref C_BadText) = some false)
    (s_BadWords_BadWords : PySem.W.subIn K (.ref C_BadWords) (.ref C_BadWords) = some true)
    (s_BadWords_ResumeError : PySem.W.subIn K (.ref C_BadWords) (.ref C_ResumeError) = some true)
    (s_BadWords_TooMany : PySem.W.subIn K (.ref C_BadWords) (.ref C_TooMany) = some false)
    (s_ResumeError_BadText : PySem.W.subIn K (.ref C_ResumeError) (.ref C_BadText) = some false)
    (s_ResumeError_BadWords : PySem.W.subIn K (.ref C_ResumeError) (.ref C_BadWords) = some false)
    (s_ResumeError_ResumeError : PySem.W.subIn K (.ref C_ResumeError) (.ref C_ResumeError) = some true)
    (s_ResumeError_TooMany : PySem.W.subIn K (.ref C_ResumeError) (.ref C_TooMany) = some false)
    (s_TooMany_BadText : PySem.W.subIn K (.ref C_TooMany) (.ref C_BadText) = some false)
    (s_TooMany_BadWords : PySem.W.subIn K (.ref C_TooMany) (.ref C_BadWords) = some false)
    (s_TooMany_ResumeError : PySem.W.subIn K (.ref C_TooMany) (.ref C_ResumeError) = some true)
    (s_TooMany_TooMany : PySem.W.subIn K (.ref C_TooMany) (.ref C_TooMany) = some true)
    : ∃ A : Ad, A.f_law = f15 ∧ Facts K mg A ∧ ∀ (s : Shared) (u : Value), BindsTo s A.d_law ⟨[u], []⟩ [("script", u)] := by
  have F0 := fun_mk (st := s_are_words) l0 c0 k0
  have B0 := F0.binds (ps := P_are_words) fun _ _ _ _ _ _ us hl => match us, hl with | [_], _ => rfl
  have F1 := fun_mk (st := s_sum_by) l1 c1 k1
  have B1 := F1.binds (ps := P_sum_by) fun _ _ _ _ _ _ us hl => match us, hl with | [_, _], _ => rfl
  have F2 := fun_mk (st := s_leaf_by) l2 c2 k2
  have B2 := F2.binds (ps := P_leaf_by) fun _ _ _ _ _ _ us hl => match us, hl with | [_, _, _], _ => rfl
  have F3 := fun_mk (st := s_leaves_by) l3 c3 k3
  have B3 := F3.binds (ps := P_leaves_by) fun _ _ _ _ _ _ us hl => match us, hl with | [_], _ => rfl
  have F4 := fun_mk (st := s_leaves_of) l4 c4 k4
  have B4 := F4.binds (ps := P_leaves_of) fun _ _ _ _ _ _ us hl => match us, hl with | [_], _ => rfl
  have F5 := fun_mk (st := s__row) l5 c5 k5
  have B5 := F5.binds (ps := P__row) fun _ _ _ _ _ _ us hl => match us, hl with | [_, _, _], _ => rfl
  have F6 := fun_mk (st := s_rows_of) l6 c6 k6
  have B6 := F6.binds (ps := P_rows_of) fun _ _ _ _ _ _ us hl => match us, hl with | [_], _ => rfl
  have F7 := fun_mk (st := s_check_text) l7 c7 k7
  have B7 := F7.binds (ps := P_check_text) fun _ _ _ _ _ _ us hl => match us, hl with | [_], _ => rfl
  have F8 := fun_mk (st := s_words_in) l8 c8 k8
  have B8 := F8.binds (ps := P_words_in) fun _ _ _ _ _ _ us hl => match us, hl with | [_], _ => rfl
  have F9 := fun_mk (st := s__law_draws) l9 c9 k9
  have B9 := F9.binds (ps := P__law_draws) fun _ _ _ _ _ _ us hl => match us, hl with | [_, _], _ => rfl
  have F10 := fun_mk (st := s__law_sum) l10 c10 k10
  have B10 := F10.binds (ps := P__law_sum) fun _ _ _ _ _ _ us hl => match us, hl with | [_, _], _ => rfl
  have F11 := fun_mk (st := s__law_leaves) l11 c11 k11
  have B11 := F11.binds (ps := P__law_leaves) fun _ _ _ _ _ _ us hl => match us, hl with | [_], _ => rfl
  have F12 := fun_mk (st := s__law_text) l12 c12 k12
  have B12 := F12.binds (ps := P__law_text) fun _ _ _ _ _ _ us hl => match us, hl with | [_, _], _ => rfl
  have F13 := fun_mk (st := s__law_due) l13 c13 k13
  have B13 := F13.binds (ps := P__law_due) fun _ _ _ _ _ _ us hl => match us, hl with | [_, _, _], _ => rfl
  have F14 := fun_mk (st := s__law_word) l14 c14 k14
  have B14 := F14.binds (ps := P__law_word) fun _ _ _ _ _ _ us hl => match us, hl with | [_, _], _ => rfl
  have F15 := fun_mk (st := s_law) l15 c15 k15
  have B15 := F15.binds (ps := P_law) fun _ _ _ _ _ _ us hl => match us, hl with | [_], _ => rfl
  have ex_BadText : ExOk K (ctOf C_BadText C_BadWords C_ResumeError C_TooMany) exV "BadText" := by
    intro a ha
    have hm : a = "BadText" ∨ a = "BadWords" ∨ a = "ResumeError" ∨ a = "TooMany" := by simpa [exV] using ha
    rcases hm with rfl | rfl | rfl | rfl
    · exact exm_sub xb_BadText xi_BadText xt_BadText s_BadText_BadText
    · exact exm_sub xb_BadText xi_BadText xt_BadText s_BadWords_BadText
    · exact exm_sub xb_BadText xi_BadText xt_BadText s_ResumeError_BadText
    · exact exm_sub xb_BadText xi_BadText xt_BadText s_TooMany_BadText
  have ex_BadWords : ExOk K (ctOf C_BadText C_BadWords C_ResumeError C_TooMany) exV "BadWords" := by
    intro a ha
    have hm : a = "BadText" ∨ a = "BadWords" ∨ a = "ResumeError" ∨ a = "TooMany" := by simpa [exV] using ha
    rcases hm with rfl | rfl | rfl | rfl
    · exact exm_sub xb_BadWords xi_BadWords xt_BadWords s_BadText_BadWords
    · exact exm_sub xb_BadWords xi_BadWords xt_BadWords s_BadWords_BadWords
    · exact exm_sub xb_BadWords xi_BadWords xt_BadWords s_ResumeError_BadWords
    · exact exm_sub xb_BadWords xi_BadWords xt_BadWords s_TooMany_BadWords
  have ex_ResumeError : ExOk K (ctOf C_BadText C_BadWords C_ResumeError C_TooMany) exV "ResumeError" := by
    intro a ha
    have hm : a = "BadText" ∨ a = "BadWords" ∨ a = "ResumeError" ∨ a = "TooMany" := by simpa [exV] using ha
    rcases hm with rfl | rfl | rfl | rfl
    · exact exm_sub xb_ResumeError xi_ResumeError xt_ResumeError s_BadText_ResumeError
    · exact exm_sub xb_ResumeError xi_ResumeError xt_ResumeError s_BadWords_ResumeError
    · exact exm_sub xb_ResumeError xi_ResumeError xt_ResumeError s_ResumeError_ResumeError
    · exact exm_sub xb_ResumeError xi_ResumeError xt_ResumeError s_TooMany_ResumeError
  have ex_TooMany : ExOk K (ctOf C_BadText C_BadWords C_ResumeError C_TooMany) exV "TooMany" := by
    intro a ha
    have hm : a = "BadText" ∨ a = "BadWords" ∨ a = "ResumeError" ∨ a = "TooMany" := by simpa [exV] using ha
    rcases hm with rfl | rfl | rfl | rfl
    · exact exm_sub xb_TooMany xi_TooMany xt_TooMany s_BadText_TooMany
    · exact exm_sub xb_TooMany xi_TooMany xt_TooMany s_BadWords_TooMany
    · exact exm_sub xb_TooMany xi_TooMany xt_TooMany s_ResumeError_TooMany
    · exact exm_sub xb_TooMany xi_TooMany xt_TooMany s_TooMany_TooMany
  refine ⟨{ f_are_words := f0, d_are_words := _, f_sum_by := f1, d_sum_by := _, f_leaf_by := f2, d_leaf_by := _, f_leaves_by := f3, d_leaves_by := _, f_leaves_of := f4, d_leaves_of := _, f__row := f5, d__row := _, f_rows_of := f6, d_rows_of := _, f_check_text := f7, d_check_text := _, f_words_in := f8, d_words_in := _, f__law_draws := f9, d__law_draws := _, f__law_sum := f10, d__law_sum := _, f__law_leaves := f11, d__law_leaves := _, f__law_text := f12, d__law_text := _, f__law_due := f13, d__law_due := _, f__law_word := f14, d__law_word := _, f_law := f15, d_law := _, t_MOST_LEAVES := t_MOST_LEAVES, t_MOST_WORDS := t_MOST_WORDS, t_SIGNS := t_SIGNS, t_SUMS := t_SUMS, t_TAIL := t_TAIL, t_WEIGHT := t_WEIGHT, ct := ctOf C_BadText C_BadWords C_ResumeError C_TooMany }, rfl, ⟨⟨F0, PySem.W.mg_of X G a0, B0⟩, ⟨F1, PySem.W.mg_of X G a1, B1⟩, ⟨F2, PySem.W.mg_of X G a2, B2⟩, ⟨F3, PySem.W.mg_of X G a3, B3⟩, ⟨F4, PySem.W.mg_of X G a4, B4⟩, ⟨F5, PySem.W.mg_of X G a5, B5⟩, ⟨F6, PySem.W.mg_of X G a6, B6⟩, ⟨F7, PySem.W.mg_of X G a7, B7⟩, ⟨F8, PySem.W.mg_of X G a8, B8⟩, ⟨F9, PySem.W.mg_of X G a9, B9⟩, ⟨F10, PySem.W.mg_of X G a10, B10⟩, ⟨F11, PySem.W.mg_of X G a11, B11⟩, ⟨F12, PySem.W.mg_of X G a12, B12⟩, ⟨F13, PySem.W.mg_of X G a13, B13⟩, ⟨F14, PySem.W.mg_of X G a14, B14⟩, ⟨F15, PySem.W.mg_of X G a15, B15⟩, PySem.W.mg_of X G g_MOST_LEAVES, PySem.W.mg_of X G g_MOST_WORDS, PySem.W.mg_of X G g_SIGNS, PySem.W.mg_of X G g_SUMS, PySem.W.mg_of X G g_TAIL, PySem.W.mg_of X G g_WEIGHT, PySem.W.mg_none_of X G b_abs, PySem.W.mg_none_of X G b_all, PySem.W.mg_none_of X G b_enumerate, PySem.W.mg_none_of X G b_int, PySem.W.mg_none_of X G b_isinstance, PySem.W.mg_none_of X G b_len, PySem.W.mg_none_of X G b_max, PySem.W.mg_none_of X G b_min, PySem.W.mg_none_of X G b_range, PySem.W.mg_none_of X G b_str, PySem.W.mg_none_of X G b_tuple, ⟨PySem.W.mg_of X G xg_BadText, xx_BadText, xk_BadText, xb_BadText, xt_BadText, xi_BadText⟩, ex_BadText, ⟨PySem.W.mg_of X G xg_BadWords, xx_BadWords, xk_BadWords, xb_BadWords, xt_BadWords, xi_BadWords⟩, ex_BadWords, ⟨PySem.W.mg_of X G xg_ResumeError, xx_ResumeError, xk_ResumeError, xb_ResumeError, xt_ResumeError, xi_ResumeError⟩, ex_ResumeError, ⟨PySem.W.mg_of X G xg_TooMany, xx_TooMany, xk_TooMany, xb_TooMany, xt_TooMany, xi_TooMany⟩, ex_TooMany⟩, fun s v => .of_eq rfl⟩
theorem walk {l : PySem.W.OpenLaw} {q : Program} {loose : List Str} {XP : (Str → Option Value) → Heap → Prop} {YP : World → Heap → Prop} {d : DefRec} {K : Params → PySem.W.Frag} (hn : l.most = some 63) (hdf : d.params.defaults = [])
    (hY : ∀ (w : World) (h : Heap), YP w h → (K w.params).In h)
    (F : ∀ (w : World) (mg : Str → Option Value) (fa : Addr) (h : Heap), (K w.params).In h → h.Ns mainGlobals mg → mg d.name = some (.ref fa) →
      ∃ fd : FuncData, (∀ (s : Shared) (u : Value), BindsTo s fd ⟨[u], []⟩ [("script", u)]) ∧ ∀ base : Heap, (K w.params).In base → base.Ns mainGlobals mg → FnOk l.prog w (K w.params) mg base CX0 6 fa fd ["script"] (DL.spLaw (K w.params))) :
    PySem.W.WalkO q loose XP YP l.row.toRowW d [] (fun f vs => PySem.call f vs) :=
  L2.walk_of (n := 63) (k := 6) (x := "script") (CX := fun _ => CX0) (sp := fun w => DL.spLaw (K w.params)) hn (by decide) hdf ⟨rfl, by decide, by decide⟩ hY F (fun _ _ a ns hl _ hS => ⟨a, ns, rfl, hS, hl, fun _ => rfl⟩) fun _ _ _ _ _ z => z
theorem last {P : Program} {w : World} {K : PySem.W.Frag} {mg : Str → Option Value} {h : Heap} {fa : Addr} {A : Ad} (hfa : mg "law" = some (.ref fa)) (T : Facts K mg A) (bL : ∀ (s : Shared) (u : Value), BindsTo s A.d_law ⟨[u], []⟩ [("script", u)])
    (hF : ∀ ns : List Int, ns.length ≤ 63 → F_law [.raw (ns.map .int)] = .ok (.bool true)) :
    ∃ fd : FuncData, (∀ (s : Shared) (u : Value), BindsTo s fd ⟨[u], []⟩ [("script", u)]) ∧ ∀ base : Heap, K.In base → base.Ns mainGlobals mg → FnOk P w K mg base CX0 6 fa fd ["script"] (DL.spLaw K) := by
  have e : A.f_law = fa := by
    have q := T.f_law.g.symm.trans hfa
    injection q with q
    exact Value.ref.inj q
  subst e
  exact ⟨A.d_law, bL, fun base _ _ => law_of (ok_law T) hF⟩
end Pg
open PySem PySem.W PyProof.Rows
set_option maxRecDepth 100000 in
set_option maxHeartbeats 0 in
theorem PySem.Challenge.cw_resumetrue_k54_main_leaves_broken_off_holds : PySem.Challenge.rw_resumetrue_k54_main_leaves_broken_off.Holds := by
  w_on; o_law; k_head; (case hw => w_witness2)
  k_fill
  refine Pg.walk (l := PySem.Challenge.rw_resumetrue_k54_main_leaves_broken_off) rfl rfl (fun w h Y => PySem.W.kIn_of Y) ?F
  case F =>
    intro w mg fa h KX G hmg
    suffices key : ∃ A : Pg.Ad, Pg.Facts _ mg A ∧ ∀ (s : Shared) (u : Value), BindsTo s A.d_law ⟨[u], []⟩ [("script", u)] by
      obtain ⟨A, T, bL⟩ := key
      exact Pg.last (h := h) hmg T bL Pg.law_true
    refine' (Pg.facts_mk KX G ?a0 ?l0 ?c0 ?k0 ?a1 ?l1 ?c1 ?k1 ?a2 ?l2 ?c2 ?k2 ?a3 ?l3 ?c3 ?k3 ?a4 ?l4 ?c4 ?k4 ?a5 ?l5 ?c5 ?k5 ?a6 ?l6 ?c6 ?k6 ?a7 ?l7 ?c7 ?k7 ?a8 ?l8 ?c8 ?k8 ?a9 ?l9 ?c9 ?k9 ?a10 ?l10 ?c10 ?k10 ?a11 ?l11 ?c11 ?k11 ?a12 ?l12 ?c12 ?k12 ?a13 ?l13 ?c13 ?k13 ?a14 ?l14 ?c14 ?k14 ?a15 ?l15 ?c15 ?k15 ?g_MOST_LEAVES ?g_MOST_WORDS ?g_SIGNS ?g_SUMS ?g_TAIL ?g_WEIGHT ?b_abs ?b_all ?b_enumerate ?b_int ?b_isinstance ?b_len ?b_max ?b_min ?b_range ?b_str ?b_tuple ?xg_BadText ?xx_BadText ?xk_BadText ?xb_BadText ?xt_BadText ?xi_BadText ?xg_BadWords ?xx_BadWords ?xk_BadWords ?xb_BadWords ?xt_BadWords ?xi_BadWords ?xg_ResumeError ?xx_ResumeError ?xk_ResumeError ?xb_ResumeError ?xt_ResumeError ?xi_ResumeError ?xg_TooMany ?xx_TooMany ?xk_TooMany ?xb_TooMany ?xt_TooMany ?xi_TooMany ?s_BadText_BadText ?s_BadText_BadWords ?s_BadText_ResumeError ?s_BadText_TooMany ?s_BadWords_BadText ?s_BadWords_BadWords ?s_BadWords_ResumeError ?s_BadWords_TooMany ?s_ResumeError_BadText ?s_ResumeError_BadWords ?s_ResumeError_ResumeError ?s_ResumeError_TooMany ?s_TooMany_BadText ?s_TooMany_BadWords ?s_TooMany_ResumeError ?s_TooMany_TooMany).imp fun A z => z.2
    (case a0 => k_is)
    (case l0 => k_is)
    (case c0 => k_is)
    (case k0 => k_is)
    (case a1 => k_is)
    (case l1 => k_is)
    (case c1 => k_is)
    (case k1 => k_is)
    (case a2 => k_is)
    (case l2 => k_is)
    (case c2 => k_is)
    (case k2 => k_is)
    (case a3 => k_is)
    (case l3 => k_is)
    (case c3 => k_is)
    (case k3 => k_is)
    (case a4 => k_is)
    (case l4 => k_is)
    (case c4 => k_is)
    (case k4 => k_is)
    (case a5 => k_is)
    (case l5 => k_is)
    (case c5 => k_is)
    (case k5 => k_is)
    (case a6 => k_is)
    (case l6 => k_is)
    (case c6 => k_is)
    (case k6 => k_is)
    (case a7 => k_is)
    (case l7 => k_is)
    (case c7 => k_is)
    (case k7 => k_is)
    (case a8 => k_is)
    (case l8 => k_is)
    (case c8 => k_is)
    (case k8 => k_is)
    (case a9 => k_is)
    (case l9 => k_is)
    (case c9 => k_is)
    (case k9 => k_is)
    (case a10 => k_is)
    (case l10 => k_is)
    (case c10 => k_is)
    (case k10 => k_is)
    (case a11 => k_is)
    (case l11 => k_is)
    (case c11 => k_is)
    (case k11 => k_is)
    (case a12 => k_is)
    (case l12 => k_is)
    (case c12 => k_is)
    (case k12 => k_is)
    (case a13 => k_is)
    (case l13 => k_is)
    (case c13 => k_is)
    (case k13 => k_is)
    (case a14 => k_is)
    (case l14 => k_is)
    (case c14 => k_is)
    (case k14 => k_is)
    (case a15 => k_is)
    (case l15 => k_is)
    (case c15 => k_is)
    (case k15 => k_is)
    (case g_MOST_LEAVES => k_is)
    (case g_MOST_WORDS => k_is)
    (case g_SIGNS => k_is)
    (case g_SUMS => k_is)
    (case g_TAIL => k_is)
    (case g_WEIGHT => k_is)
    (case b_abs => k_is)
    (case b_all => k_is)
    (case b_enumerate => k_is)
    (case b_int => k_is)
    (case b_isinstance => k_is)
    (case b_len => k_is)
    (case b_max => k_is)
    (case b_min => k_is)
    (case b_range => k_is)
    (case b_str => k_is)
    (case b_tuple => k_is)
    (case xg_BadText => k_is)
    (case xx_BadText => k_exc)
    (case xk_BadText => k_is)
    (case xb_BadText => k_is)
    (case xt_BadText => k_is)
    (case xi_BadText => k_is)
    (case xg_BadWords => k_is)
    (case xx_BadWords => k_exc)
    (case xk_BadWords => k_is)
    (case xb_BadWords => k_is)
    (case xt_BadWords => k_is)
    (case xi_BadWords => k_is)
    (case xg_ResumeError => k_is)
    (case xx_ResumeError => k_exc)
    (case xk_ResumeError => k_is)
    (case xb_ResumeError => k_is)
    (case xt_ResumeError => k_is)
    (case xi_ResumeError => k_is)
    (case xg_TooMany => k_is)
    (case xx_TooMany => k_exc)
    (case xk_TooMany => k_is)
    (case xb_TooMany => k_is)
    (case xt_TooMany => k_is)
    (case xi_TooMany => k_is)
    (case s_BadText_BadText => k_is)
    (case s_BadText_BadWords => k_is)
    (case s_BadText_ResumeError => k_is)
    (case s_BadText_TooMany => k_is)
    (case s_BadWords_BadText => k_is)
    (case s_BadWords_BadWords => k_is)
    (case s_BadWords_ResumeError => k_is)
    (case s_BadWords_TooMany => k_is)
    (case s_ResumeError_BadText => k_is)
    (case s_ResumeError_BadWords => k_is)
    (case s_ResumeError_ResumeError => k_is)
    (case s_ResumeError_TooMany => k_is)
    (case s_TooMany_BadText => k_is)
    (case s_TooMany_BadWords => k_is)
    (case s_TooMany_ResumeError => k_is)
    (case s_TooMany_TooMany => k_is)

