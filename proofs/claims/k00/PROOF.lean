import PyProof.Rows.All
import Wide.All
import OpenK.AllK
import Wide.FinOn
import HandS.ForMost
import HandS.Exc
import HandS.TupAny
import HandS.TupMul
import HandS.Conv
import HandS.IsInst
import HandS.Style
import HandS.More
import HandS.Flow
import PySem.Challenge.RW_twiceeach_k00_symbols_and_fresh_names
set_option Elab.async false
set_option linter.all false
set_option maxRecDepth 100000
set_option maxHeartbeats 4000000
/-! DV: data in the place of heaps. What a def computes, as a plain function over data. -/
namespace DV
open PySem PySem.Spec L2

/-! ### data -/
/-- rdl: a list that is read alone (the script, a list of the module's top) -/
inductive D where
  | non | bl (b : Bool) | int (i : Int) | str (l : List Nat) | tup (xs : List D) | lst (xs : List D) | rdl (xs : List D)

mutual
inductive Rp (K : PySem.W.Frag) (G : Hp) : V → D → Prop
  | non : Rp K G .non .non
  | bl (b : Bool) : Rp K G (.bl b) (.bl b)
  | int (i : Int) : Rp K G (.int i) (.int i)
  | str (x : Str) : Rp K G (.str x) (.str x.cps.toList)
  | tup {a : Addr} {xs : List V} {ds : List D} : SqT K G a xs → Rps K G xs ds → Rp K G (.ref a) (.tup ds)
  | lst {a : Addr} {xs : List V} {ds : List D} : G a = some (.lst xs) → Rps K G xs ds → Rp K G (.ref a) (.lst ds)
  | rdl {a : Addr} {xs : List V} {ds : List D} : SqL K G a xs → Rps K G xs ds → Rp K G (.ref a) (.rdl ds)
inductive Rps (K : PySem.W.Frag) (G : Hp) : List V → List D → Prop
  | nil : Rps K G [] []
  | cons {v : V} {vs : List V} {d : D} {ds : List D} : Rp K G v d → Rps K G vs ds → Rps K G (v :: vs) (d :: ds)
end

/-- all that was there is there as it was -/
def Ex (H H' : Hp) : Prop := ∀ a o, H a = some o → H' a = some o
theorem Ex.refl (H : Hp) : Ex H H := fun _ _ h => h
theorem Ex.trans {H H1 H2 : Hp} (a : Ex H H1) (b : Ex H1 H2) : Ex H H2 := fun x o h => b x o (a x o h)
theorem Ex.new {H : Hp} {p : Addr} {o : HO} (h : H p = none) : Ex H (upd H p o) := fun a u e => by
  rw [upd_ne (ne_of_none e h)]; exact e
theorem Ex.free {H H' : Hp} {p : Addr} (e : Ex H H') (h : H' p = none) : H p = none := by
  cases h1 : H p with
  | none => rfl
  | some o => rw [e p o h1] at h; cases h
theorem Ex.mut {H H' : Hp} {p : Addr} {o : HO} (e : Ex H H') (h : H p = none) : Ex H (upd H' p o) := fun a u ha => by
  rw [upd_ne (ne_of_none ha h)]; exact e a u ha
theorem Rd.ex {H H' : Hp} {a : Addr} {u : HO} (e : Ex H H') (h : Rd H a u) : Rd H' a u := by
  rcases h with h | ⟨o, h⟩
  · exact .inl (e _ _ h)
  · exact .inr ⟨o, e _ _ h⟩
section
variable {K : PySem.W.Frag} {G G' : Hp}
theorem SqL.ex {a : Addr} {xs : List V} (e : Ex G G') (h : SqL K G a xs) : SqL K G' a xs := by
  rcases h with h | h
  · exact .inl (Rd.ex e h)
  · exact .inr h
theorem SqT.ex {a : Addr} {xs : List V} (e : Ex G G') (h : SqT K G a xs) : SqT K G' a xs := by
  rcases h with h | h
  · exact .inl (Rd.ex e h)
  · exact .inr h
mutual
theorem Rp.ex (e : Ex G G') : ∀ (d : D) (v : V), Rp K G v d → Rp K G' v d
  | .non, _, h => by cases h; exact .non
  | .bl b, _, h => by cases h; exact .bl b
  | .int i, _, h => by cases h; exact .int i
  | .str l, _, h => by cases h; exact .str _
  | .tup ds, _, h => by
    cases h with
    | tup h1 h2 => exact .tup (SqT.ex e h1) (Rps.ex e ds _ h2)
  | .lst ds, _, h => by
    cases h with
    | lst h1 h2 => exact .lst (e _ _ h1) (Rps.ex e ds _ h2)
  | .rdl ds, _, h => by
    cases h with
    | rdl h1 h2 => exact .rdl (SqL.ex e h1) (Rps.ex e ds _ h2)
theorem Rps.ex (e : Ex G G') : ∀ (ds : List D) (vs : List V), Rps K G vs ds → Rps K G' vs ds
  | [], _, h => by cases h; exact .nil
  | d :: ds, _, h => by
    cases h with
    | cons h1 h2 => exact .cons (Rp.ex e d _ h1) (Rps.ex e ds _ h2)
end
theorem Rps.length : ∀ {vs : List V} {ds : List D}, Rps K G vs ds → vs.length = ds.length
  | _, _, .nil => rfl
  | _, _, .cons _ h => congrArg (· + 1) (Rps.length h)
theorem Rps.append : ∀ {vs ws : List V} {ds es : List D}, Rps K G vs ds → Rps K G ws es → Rps K G (vs ++ ws) (ds ++ es)
  | _, _, _, _, .nil, h => h
  | _, _, _, _, .cons a b, h => .cons a (Rps.append b h)
theorem Rps.get : ∀ {vs : List V} {ds : List D} {i : Nat} {d : D}, Rps K G vs ds → ds[i]? = some d → ∃ v, vs[i]? = some v ∧ Rp K G v d
  | _, _, _, _, .nil, e => by simp at e
  | _, _, 0, _, .cons a b, e => by
    simp only [List.getElem?_cons_zero, Option.some.injEq] at e ⊢
    subst e; exact ⟨_, rfl, a⟩
  | _, _, i + 1, _, .cons a b, e => by
    simp only [List.getElem?_cons_succ] at e ⊢
    exact Rps.get b e
theorem Rps.getv : ∀ {vs : List V} {ds : List D} {i : Nat} {v : V}, Rps K G vs ds → vs[i]? = some v → ∃ d, ds[i]? = some d ∧ Rp K G v d
  | _, _, _, _, .nil, e => by simp at e
  | _, _, 0, _, .cons a b, e => by
    simp only [List.getElem?_cons_zero, Option.some.injEq] at e ⊢
    subst e; exact ⟨_, rfl, a⟩
  | _, _, i + 1, _, .cons a b, e => by
    simp only [List.getElem?_cons_succ] at e ⊢
    exact Rps.getv b e
theorem Rps.set {v : V} {d : D} (r : Rp K G v d) : ∀ {vs : List V} {ds : List D} (i : Nat), Rps K G vs ds → Rps K G (vs.set i v) (ds.set i d)
  | _, _, _, .nil => .nil
  | _, _, 0, .cons _ t => .cons r t
  | _, _, i + 1, .cons q t => .cons q (Rps.set r i t)
theorem Rps.take : ∀ {vs : List V} {ds : List D} (n : Nat), Rps K G vs ds → Rps K G (vs.take n) (ds.take n)
  | _, _, 0, _ => .nil
  | _, _, _ + 1, .nil => .nil
  | _, _, n + 1, .cons r t => .cons r (Rps.take n t)
theorem Rps.drop : ∀ {vs : List V} {ds : List D} (n : Nat), Rps K G vs ds → Rps K G (vs.drop n) (ds.drop n)
  | _, _, 0, r => r
  | _, _, _ + 1, .nil => .nil
  | _, _, n + 1, .cons _ t => Rps.drop n t
theorem Rps.reverse : ∀ {vs : List V} {ds : List D}, Rps K G vs ds → Rps K G vs.reverse ds.reverse
  | _, _, .nil => .nil
  | _, _, .cons a b => by
    rw [List.reverse_cons, List.reverse_cons]
    exact (Rps.reverse b).append (.cons a .nil)
theorem Rps.dropLast {vs : List V} {ds : List D} (h : Rps K G vs ds) : Rps K G vs.dropLast ds.dropLast := by
  rw [List.dropLast_eq_take, List.dropLast_eq_take, h.length]
  exact h.take _
theorem Rps.split : ∀ {vs ws : List V} {ds es : List D}, vs.length = ds.length → Rps K G (vs ++ ws) (ds ++ es) → Rps K G vs ds ∧ Rps K G ws es
  | [], _, [], _, _, h => ⟨.nil, h⟩
  | _ :: _, _, _ :: _, _, e, h => by
    cases h with
    | cons a b =>
      obtain ⟨x, y⟩ := Rps.split (Nat.succ.inj e) b
      exact ⟨.cons a x, y⟩
  | [], _, _ :: _, _, e, _ => by cases e
  | _ :: _, _, [], _, e, _ => by cases e
end

/-! ### the heap without what is owned -/
open Classical in
noncomputable def msk (P : Addr → Prop) (H : Hp) : Hp := fun a => if P a then none else H a
theorem msk_out {P : Addr → Prop} {H : Hp} {a : Addr} (h : ¬ P a) : msk P H a = H a := by unfold msk; rw [if_neg h]
theorem msk_in {P : Addr → Prop} {H : Hp} {a : Addr} (h : P a) : msk P H a = none := by unfold msk; rw [if_pos h]
theorem msk_some {P : Addr → Prop} {H : Hp} {a : Addr} {o : HO} (h : msk P H a = some o) : ¬ P a ∧ H a = some o := by
  by_cases p : P a
  · rw [msk_in p] at h; cases h
  · rw [msk_out p] at h; exact ⟨p, h⟩
theorem msk_ex {P P' : Addr → Prop} {H H' : Hp} (e : Ex H H') (h : ∀ a, H a ≠ none → P' a → P a) : Ex (msk P H) (msk P' H') := fun a o q => by
  obtain ⟨n, q⟩ := msk_some q
  have n' : ¬ P' a := fun p => n (h a (by rw [q]; exact fun z => nomatch z) p)
  rw [msk_out n']; exact e _ _ q
theorem msk_upd_in {P : Addr → Prop} {H : Hp} {a : Addr} {o : HO} (h : P a) : msk P (upd H a o) = msk P H := by
  funext b
  by_cases p : P b
  · rw [msk_in p, msk_in p]
  · rw [msk_out p, msk_out p, upd_ne (fun e => p (by rw [e]; exact h))]

/-! ### slots -/
inductive T where
  | no | val (d : D) | lst (ds : List D)
abbrev Env := List T
def T.frz : T → D
  | .no => .non
  | .val d => d
  | .lst ds => .lst ds

/-- what a slot holds, who owns it -/
def SlotOk (K : PySem.W.Frag) (H G : Hp) (own : Option Addr) (s : Option V) : T → Prop
  | .no => own = none
  | .val d => own = none ∧ ∃ v, s = some v ∧ Rp K G v d
  | .lst ds => ∃ a xs, own = some a ∧ s = some (.ref a) ∧ H a = some (.lst xs) ∧ Rps K G xs ds

/-- the context: the heap at the entry, what others own -/
structure Cc where
  H0 : Hp
  F : Addr → Prop

/-- a pending value: its datum; or the list that slot i owns -/
abbrev Pd := D × Option Nat
def PendOk (K : PySem.W.Frag) (G : Hp) (ρ : Env) (own : Nat → Option Addr) (v : V) : Pd → Prop
  | (d, none) => Rp K G v d
  | (d, some i) => ∃ a ds, v = .ref a ∧ own i = some a ∧ d = .lst ds ∧ ρ[i]? = some (.lst ds)
inductive Pends (K : PySem.W.Frag) (G : Hp) (ρ : Env) (own : Nat → Option Addr) : List V → List Pd → Prop
  | nil : Pends K G ρ own [] []
  | cons {v : V} {p : Pd} {vs : List V} {ps : List Pd} : PendOk K G ρ own v p → Pends K G ρ own vs ps → Pends K G ρ own (v :: vs) (p :: ps)

def Msk (c : Cc) (own : Nat → Option Addr) : Addr → Prop := fun a => c.F a ∨ ∃ i, own i = some a

structure StO (K : PySem.W.Frag) (c : Cc) (ρ : Env) (σ : St) (H : Hp) (own : Nat → Option Addr) (vs : List V) (ps : List Pd) : Prop where
  len : σ.length = ρ.length
  slot : ∀ i t, ρ[i]? = some t → SlotOk K H (msk (Msk c own) H) (own i) (σ[i]?.join) t
  out : ∀ i, ρ.length ≤ i → own i = none
  inj : ∀ i j a, own i = some a → own j = some a → i = j
  new : ∀ i a, own i = some a → c.H0 a = none
  frm : ∀ a, c.F a → H a ≠ none
  dis : ∀ i a, own i = some a → ¬ c.F a
  ex : Ex c.H0 H
  pend : Pends K (msk (Msk c own) H) ρ own vs ps
def StS (K : PySem.W.Frag) (c : Cc) (ρ : Env) (σ : St) (H : Hp) (vs : List V) (ps : List Pd) : Prop := ∃ own, StO K c ρ σ H own vs ps

section
variable {K : PySem.W.Frag} {c : Cc} {ρ : Env} {σ : St} {H H' : Hp} {own : Nat → Option Addr} {vs : List V} {ps : List Pd}
theorem SlotOk.trk {G : Hp} {o : Option Addr} {s : Option V} {t : T} {a : Addr} (h : SlotOk K H G o s t) (e : o = some a) : H a ≠ none := by
  cases t with
  | no => rw [show o = none from h] at e; cases e
  | val d => rw [h.1] at e; cases e
  | lst ds =>
    obtain ⟨b, xs, e1, _, e3, _⟩ := h
    rw [e] at e1; cases e1
    rw [e3]; exact fun z => nomatch z
theorem StO.trk (h : StO K c ρ σ H own vs ps) {i : Nat} {a : Addr} (e : own i = some a) : H a ≠ none := by
  by_cases hi : i < ρ.length
  · exact (h.slot i _ (List.getElem?_eq_getElem hi)).trk e
  · rw [h.out i (by omega)] at e; cases e
theorem StO.mtrk (h : StO K c ρ σ H own vs ps) {a : Addr} (m : Msk c own a) : H a ≠ none := by
  rcases m with m | ⟨i, m⟩
  · exact h.frm a m
  · exact h.trk m
theorem SlotOk.mono {G G' : Hp} {o : Option Addr} {s : Option V} {t : T} (h : SlotOk K H G o s t) (e : Ex G G') (eH : ∀ a x, o = some a → H a = some x → H' a = some x) : SlotOk K H' G' o s t := by
  cases t with
  | no => exact h
  | val d =>
    obtain ⟨h1, v, h2, h3⟩ := h
    exact ⟨h1, v, h2, Rp.ex e _ _ h3⟩
  | lst ds =>
    obtain ⟨a, xs, e1, e2, e3, e4⟩ := h
    exact ⟨a, xs, e1, e2, eH a _ e1 e3, Rps.ex e _ _ e4⟩
theorem PendOk.mono {G G' : Hp} {v : V} {p : Pd} (h : PendOk K G ρ own v p) (e : Ex G G') : PendOk K G' ρ own v p := by
  obtain ⟨d, k⟩ := p
  cases k with
  | none => exact Rp.ex e _ _ h
  | some i => exact h
theorem Pends.mono {G G' : Hp} : ∀ {vs : List V} {ps : List Pd}, Pends K G ρ own vs ps → Ex G G' → Pends K G' ρ own vs ps
  | _, _, .nil, _ => .nil
  | _, _, .cons a b, e => .cons (a.mono e) (b.mono e)
/-- the heap grows -/
theorem StO.grow (h : StO K c ρ σ H own vs ps) (e : Ex H H') : StO K c ρ σ H' own vs ps where
  len := h.len
  slot := fun i t q => (h.slot i t q).mono (msk_ex e fun _ _ m => m) fun a x _ z => e _ _ z
  out := h.out
  inj := h.inj
  new := h.new
  frm := fun a m q => h.frm a m (e.free q)
  dis := h.dis
  ex := h.ex.trans e
  pend := h.pend.mono (msk_ex e fun _ _ m => m)
theorem StS.grow (h : StS K c ρ σ H vs ps) (e : Ex H H') : StS K c ρ σ H' vs ps := let ⟨o, h⟩ := h; ⟨o, h.grow e⟩
theorem StS.push (h : StO K c ρ σ H own vs ps) {v : V} {p : Pd} (q : PendOk K (msk (Msk c own) H) ρ own v p) : StS K c ρ σ H (v :: vs) (p :: ps) :=
  ⟨own, { h with pend := .cons q h.pend }⟩
theorem StS.pop {v : V} {p : Pd} (h : StS K c ρ σ H (v :: vs) (p :: ps)) : StS K c ρ σ H vs ps := by
  obtain ⟨o, h⟩ := h
  cases h.pend with
  | cons a b => exact ⟨o, { h with pend := b }⟩
theorem StO.top {v : V} {p : Pd} (h : StO K c ρ σ H own (v :: vs) (p :: ps)) : PendOk K (msk (Msk c own) H) ρ own v p := by
  cases h.pend with
  | cons a b => exact a
theorem StO.below {v : V} {p : Pd} (h : StO K c ρ σ H own (v :: vs) (p :: ps)) : StO K c ρ σ H own vs ps := by
  cases h.pend with
  | cons a b => exact { h with pend := b }
/-- a new object that is not a slot's -/
theorem msk_new {P : Addr → Prop} {p : Addr} {o : HO} (hp : H p = none) (n : ¬ P p) : msk P (upd H p o) p = some o := by
  rw [msk_out n, upd_same]
end
end DV

namespace DV
open PySem PySem.Spec L2

/-- an exception: its class by name, its fields -/
structure Xn where
  cls : List Nat
  fs : List D
inductive Res (α : Type) where
  | ok (a : α) | exc (x : Xn) | err
def Res.bind {α β : Type} : Res α → (α → Res β) → Res β
  | .ok a, f => f a
  | .exc x, _ => .exc x
  | .err, _ => .err
theorem Res.bind_ok {α β : Type} {r : Res α} {f : α → Res β} {b : β} (h : r.bind f = .ok b) : ∃ a, r = .ok a ∧ f a = .ok b := by
  cases r with
  | ok a => exact ⟨a, rfl, h⟩
  | exc x => cases h
  | err => cases h

/-- what a value is, peeked at -/
def RpP (K : PySem.W.Frag) (M : Addr → Prop) (H : Hp) (v : V) (d : D) : Prop :=
  Rp K (msk M H) v d ∨ ∃ a xs ds, v = .ref a ∧ d = .lst ds ∧ H a = some (.lst xs) ∧ Rps K (msk M H) xs ds
theorem ex_msk {M : Addr → Prop} {H : Hp} : Ex (msk M H) H := fun _ _ h => (msk_some h).2
theorem msk_grow {M : Addr → Prop} {H H' : Hp} (e : Ex H H') : Ex (msk M H) (msk M H') := msk_ex e fun _ _ m => m
section
variable {K : PySem.W.Frag} {M : Addr → Prop} {H H' : Hp} {v : V}
theorem RpP.grow {d : D} (h : RpP K M H v d) (e : Ex H H') : RpP K M H' v d := by
  rcases h with h | ⟨a, xs, ds, h1, h2, h3, h4⟩
  · exact .inl (Rp.ex (msk_grow e) _ _ h)
  · exact .inr ⟨a, xs, ds, h1, h2, e _ _ h3, Rps.ex (msk_grow e) _ _ h4⟩
theorem RpP.non (h : RpP K M H v .non) : v = .non := by
  rcases h with h | ⟨a, xs, ds, _, h2, _⟩
  · cases h; rfl
  · cases h2
theorem RpP.int {i : Int} (h : RpP K M H v (.int i)) : v = .int i := by
  rcases h with h | ⟨a, xs, ds, _, h2, _⟩
  · cases h; rfl
  · cases h2
theorem RpP.bl {b : Bool} (h : RpP K M H v (.bl b)) : v = .bl b := by
  rcases h with h | ⟨a, xs, ds, _, h2, _⟩
  · cases h; rfl
  · cases h2
theorem RpP.str {l : List Nat} (h : RpP K M H v (.str l)) : ∃ x : Str, v = .str x ∧ x.cps.toList = l := by
  rcases h with h | ⟨a, xs, ds, _, h2, _⟩
  · cases h; exact ⟨_, rfl, rfl⟩
  · cases h2
theorem RpP.tup {ds : List D} (h : RpP K M H v (.tup ds)) : ∃ a xs, v = .ref a ∧ SqT K H a xs ∧ Rps K (msk M H) xs ds := by
  rcases h with h | ⟨a, xs, es, _, h2, _⟩
  · cases h with
    | tup h1 h2 => exact ⟨_, _, rfl, SqT.ex ex_msk h1, h2⟩
  · cases h2
theorem RpP.rdl {ds : List D} (h : RpP K M H v (.rdl ds)) : ∃ a xs, v = .ref a ∧ SqL K H a xs ∧ Rps K (msk M H) xs ds := by
  rcases h with h | ⟨a, xs, es, _, h2, _⟩
  · cases h with
    | rdl h1 h2 => exact ⟨_, _, rfl, SqL.ex ex_msk h1, h2⟩
  · cases h2
theorem RpP.lst {ds : List D} (h : RpP K M H v (.lst ds)) : ∃ a xs, v = .ref a ∧ H a = some (.lst xs) ∧ Rps K (msk M H) xs ds := by
  rcases h with h | ⟨a, xs, es, h1, h2, h3, h4⟩
  · cases h with
    | lst h1 h2 => exact ⟨_, _, rfl, (msk_some h1).2, h2⟩
  · cases h2; exact ⟨_, _, h1, h3, h4⟩
theorem str_len {x : Str} {l : List Nat} (h : x.cps.toList = l) : x.length = l.length := by
  rw [← h]; simp [Str.length]
theorem rp_str {G : Hp} {x : Str} {l : List Nat} (h : x.cps.toList = l) : Rp K G (.str x) (.str l) := by
  rw [← h]; exact .str x
/-- a new tuple, a new list of what stands -/
theorem rp_tup {p : Addr} {xs : List V} {ds : List D} (hp : H p = none) (n : ¬ M p) (r : Rps K (msk M H) xs ds) : Rp K (msk M (upd H p (.tup xs))) (.ref p) (.tup ds) :=
  .tup (.inl (.inl (msk_new hp n))) (Rps.ex (msk_grow (Ex.new hp)) _ _ r)
theorem rp_lst {p : Addr} {xs : List V} {ds : List D} (hp : H p = none) (n : ¬ M p) (r : Rps K (msk M H) xs ds) : Rp K (msk M (upd H p (.lst xs))) (.ref p) (.lst ds) :=
  .lst (msk_new hp n) (Rps.ex (msk_grow (Ex.new hp)) _ _ r)
end

section
variable {K : PySem.W.Frag} {c : Cc} {ρ : Env} {σ : L2.St} {H H' : Hp} {own : Nat → Option Addr} {vs : List V} {ps : List Pd} {v : V} {p : Pd}
theorem StO.nomsk (h : StO K c ρ σ H own vs ps) {a : Addr} (n : H a = none) : ¬ Msk c own a := fun m => h.mtrk m n
theorem PendOk.peek (h : StO K c ρ σ H own vs ps) (q : PendOk K (msk (Msk c own) H) ρ own v p) : RpP K (Msk c own) H v p.1 := by
  obtain ⟨d, k⟩ := p
  cases k with
  | none => exact .inl q
  | some i =>
    obtain ⟨a, ds, rfl, ho, e2, hs⟩ := q
    have e2 : d = .lst ds := e2
    subst e2
    obtain ⟨b, xs, h1, h2, h3, h4⟩ := h.slot i _ hs
    rw [ho] at h1; cases h1
    exact .inr ⟨a, xs, ds, rfl, rfl, h3, h4⟩
theorem StO.peek (h : StO K c ρ σ H own (v :: vs) (p :: ps)) : RpP K (Msk c own) H v p.1 := h.top.peek h
theorem StO.peek2 {u : V} {q : Pd} (h : StO K c ρ σ H own (u :: v :: vs) (q :: p :: ps)) : RpP K (Msk c own) H v p.1 := h.below.peek
/-- a clean value comes on top, the heap has grown -/
theorem StO.val {d : D} (h : StO K c ρ σ H own vs ps) (e : Ex H H') (r : Rp K (msk (Msk c own) H') v d) : StS K c ρ σ H' (v :: vs) ((d, none) :: ps) :=
  StS.push (h.grow e) r
end

/-! ### expressions -/
abbrev EX := Env → Res Pd
def tX (K : PySem.W.Frag) (c : Cc) (m : EX) : TE := fun σ H Q => ∃ ρ vs ps, StS K c ρ σ H vs ps ∧ ∃ p, m ρ = .ok p ∧ ∀ v H', StS K c ρ σ H' (v :: vs) (p :: ps) → Q v H'
structure SX (X : Cx) (c : Cc) (e : Expr) (m : EX) : Prop where
  pe : PE X e (tX X.K c m)
theorem PE.imp {X : Cx} {e : Expr} {t t' : TE} (h : PE X e t) (i : ∀ σ H Q, t' σ H Q → t σ H Q) : PE X e t' := ⟨fun pins s σ H Q I q => h.run pins s σ H Q I (i σ H Q q)⟩
theorem PT.imp {X : Cx} {e : Expr} {t t' : TT} (h : PT X e t) (i : ∀ σ H Q, t' σ H Q → t σ H Q) : PT X e t' := ⟨fun pins s σ H Q I q => h.run pins s σ H Q I (i σ H Q q)⟩
theorem PA.imp {X : Cx} {e : List Expr} {t t' : TA} (h : PA X e t) (i : ∀ σ H Q, t' σ H Q → t σ H Q) : PA X e t' := ⟨fun pos pins s σ H Q I q => h.run pos pins s σ H Q I (i σ H Q q)⟩
theorem PS.imp {X : Cx} {e : Stmt} {t t' : TS} (h : PS X e t) (i : ∀ D σ H, t' D σ H → t D σ H) : PS X e t' := ⟨fun pins s σ H D I q => h.run pins s σ H D I (i D σ H q)⟩
theorem PSs.imp {X : Cx} {e : List Stmt} {t t' : TS} (h : PSs X e t) (i : ∀ D σ H, t' D σ H → t D σ H) : PSs X e t' := ⟨fun pins s σ H D I q => h.run pins s σ H D I (i D σ H q)⟩

def xC (d : D) : EX := fun _ => .ok (d, none)
def xVar (i : Nat) : EX := fun ρ => match ρ[i]? with
  | some (.val d) => .ok (d, none)
  | some (.lst ds) => .ok (.lst ds, some i)
  | _ => .err
def xOp (f : D → D → Res D) (a b : EX) : EX := fun ρ => (a ρ).bind fun x => (b ρ).bind fun y => (f x.1 y.1).bind fun d => .ok (d, none)
def xUn (f : D → Res D) (a : EX) : EX := fun ρ => (a ρ).bind fun x => (f x.1).bind fun d => .ok (d, none)
/-- a clean value alone -/
def xCl (a : EX) : Env → Res D := fun ρ => (a ρ).bind fun x => match x.2 with | none => .ok x.1 | some _ => .err

/-- an operator of two values is the function f of their data -/
def OpD (K : PySem.W.Frag) (r : R2) (f : D → D → Res D) : Prop :=
  ∀ (H : Hp) (M : Addr → Prop) (x y : V) (dx dy d : D), (∀ a, H a = none → ¬ M a) → RpP K M H x dx → RpP K M H y dy → f dx dy = .ok d → ∀ Q : VK, (∀ v H', Ex H H' → Rp K (msk M H') v d → Q v H') → r x y H Q
def UnD (K : PySem.W.Frag) (r : V → Hp → VK → Prop) (f : D → Res D) : Prop :=
  ∀ (H : Hp) (M : Addr → Prop) (x : V) (dx d : D), (∀ a, H a = none → ¬ M a) → RpP K M H x dx → f dx = .ok d → ∀ Q : VK, (∀ v H', Ex H H' → Rp K (msk M H') v d → Q v H') → r x H Q
def CaD (K : PySem.W.Frag) (r : List V → Hp → VK → Prop) (f : List D → Res D) : Prop :=
  ∀ (H : Hp) (M : Addr → Prop) (xs : List V) (ds : List D) (d : D), (∀ a, H a = none → ¬ M a) → Paired (RpP K M H) xs ds → f ds = .ok d → ∀ Q : VK, (∀ v H', Ex H H' → Rp K (msk M H') v d → Q v H') → r xs H Q

section
variable {X : Cx} {c : Cc} {a b e : Expr} {ma mb : EX} {pos : Pos}
theorem sx_int {i j pos} : SX X c (.Constant (.int i) j pos) (xC (.int i)) := ⟨PE.imp pe_int fun σ H Q ⟨ρ, vs, ps, S, p, e, k⟩ => by
  cases e; obtain ⟨o, S⟩ := S; exact k _ _ (StS.push S (Rp.int i))⟩
theorem sx_bl {i j pos} : SX X c (.Constant (.bool i) j pos) (xC (.bl i)) := ⟨PE.imp pe_bl fun σ H Q ⟨ρ, vs, ps, S, p, e, k⟩ => by
  cases e; obtain ⟨o, S⟩ := S; exact k _ _ (StS.push S (Rp.bl i))⟩
theorem sx_non {j pos} : SX X c (.Constant .none j pos) (xC .non) := ⟨PE.imp pe_non fun σ H Q ⟨ρ, vs, ps, S, p, e, k⟩ => by
  cases e; obtain ⟨o, S⟩ := S; exact k _ _ (StS.push S Rp.non)⟩
theorem sx_str {x : Str} {j pos} (l : List Nat) (h : x.cps.toList = l := by decide +kernel) : SX X c (.Constant (.str x) j pos) (xC (.str l)) := ⟨PE.imp pe_str fun σ H Q ⟨ρ, vs, ps, S, p, e, k⟩ => by
  cases e; obtain ⟨o, S⟩ := S; exact k _ _ (StS.push S (rp_str h))⟩
theorem sx_var (i : Nat) {x : Str} {pos : Pos} (hN : X.N[i]? = some x := by rfl) (hv : Vis X.env.scope x := by first | exact Or.inl rfl | exact Or.inr (Or.inl rfl) | exact Or.inr (Or.inr rfl)) (hd : (x == ("__debug__" : Str)) = false := by decide)
    (hcd : (x == ("__classdict__" : Str)) = false := by decide) : SX X c (.Name x pos) (xVar i) := ⟨PE.imp (pe_var hN hv hd hcd) fun σ H Q ⟨ρ, vs, ps, S, p, e, k⟩ => by
  obtain ⟨o, S⟩ := S
  unfold xVar at e
  cases hs : ρ[i]? with
  | none => rw [hs] at e; cases e
  | some t =>
    rw [hs] at e
    have q := S.slot i t hs
    cases t with
    | no => cases e
    | val d =>
      cases e
      obtain ⟨_, v, h2, h3⟩ := q
      refine ⟨v, ?_, k v H (StS.push S h3)⟩
      cases h : σ[i]? with
      | none => rw [h] at h2; cases h2
      | some z => rw [h] at h2; rw [show z = some v from h2]
    | lst ds =>
      cases e
      obtain ⟨a, xs, h1, h2, h3, h4⟩ := q
      refine ⟨.ref a, ?_, k _ H (StS.push S ⟨a, ds, rfl, h1, rfl, hs⟩)⟩
      cases h : σ[i]? with
      | none => rw [h] at h2; cases h2
      | some z => rw [h] at h2; rw [show z = some (V.ref a) from h2]⟩
/-- two operands -/
theorem two_of {K : PySem.W.Frag} {r : R2} {f : D → D → Res D} (hr : OpD K r f) {σ : L2.St} {H : Hp} {Q : VK} (h : tX K c (xOp f ma mb) σ H Q) : tOp r (tX K c ma) (tX K c mb) σ H Q := by
  obtain ⟨ρ, vs, ps, S, p, e, k⟩ := h
  obtain ⟨x, ea, e⟩ := Res.bind_ok e
  obtain ⟨y, eb, e⟩ := Res.bind_ok e
  obtain ⟨d, ed, e⟩ := Res.bind_ok e
  cases e
  refine ⟨ρ, vs, ps, S, x, ea, fun v H1 S1 => ⟨ρ, _, _, S1, y, eb, fun u H2 S2 => ?_⟩⟩
  obtain ⟨o, S2⟩ := S2
  exact hr H2 _ v u x.1 y.1 d (fun a n => S2.nomsk n) S2.peek2 S2.peek ed Q fun w H3 e3 r3 => k w H3 (S2.below.below.val e3 r3)
theorem sx_op {op : Operator} {r : R2} {f : D → D → Res D} (ho : OpR X (binaryOp op) r) (hr : OpD X.K r f) (ha : SX X c a ma) (hb : SX X c b mb) : SX X c (.BinOp a op b pos) (xOp f ma mb) :=
  ⟨PE.imp (pe_op ho ha.pe hb.pe) fun σ H Q h => two_of hr h⟩
theorem sx_cmp {op : CmpOp} {r : R2} {f : D → D → Res D} (ho : OpR X (compareOp op) r) (hr : OpD X.K r f) (ha : SX X c a ma) (hb : SX X c b mb) (hm : behindInMarks op b = false := by first | exact nomark _ | rfl) : SX X c (.Compare a [op] [b] pos) (xOp f ma mb) :=
  ⟨PE.imp (pe_cmpR ho ha.pe hb.pe hm) fun σ H Q h => two_of hr h⟩
theorem sx_ix {r : R2} {f : D → D → Res D} (hi : IxR X r) (hr : OpD X.K r f) (ha : SX X c a ma) (hb : SX X c b mb) (hs : PlainIx b := by exact fun _ _ => rfl) : SX X c (.Subscript a b pos) (xOp f ma mb) :=
  ⟨PE.imp (pe_ix hi ha.pe hb.pe hs) fun σ H Q h => two_of hr h⟩
theorem one_of {K : PySem.W.Frag} {r : V → Hp → VK → Prop} {f : D → Res D} (hr : UnD K r f) {σ : L2.St} {H : Hp} {Q : VK} (h : tX K c (xUn f ma) σ H Q) : tUn r (tX K c ma) σ H Q := by
  obtain ⟨ρ, vs, ps, S, p, e, k⟩ := h
  obtain ⟨x, ea, e⟩ := Res.bind_ok e
  obtain ⟨d, ed, e⟩ := Res.bind_ok e
  cases e
  refine ⟨ρ, vs, ps, S, x, ea, fun v H1 S1 => ?_⟩
  obtain ⟨o, S1⟩ := S1
  exact hr H1 _ v x.1 d (fun a n => S1.nomsk n) S1.peek ed Q fun w H3 e3 r3 => k w H3 (S1.below.val e3 r3)
theorem sx_un {op : UnaryOp} {r : V → Hp → VK → Prop} {f : D → Res D} (ho : UnR X (unaryOp op) r) (hr : UnD X.K r f) (ha : SX X c a ma) : SX X c (.UnaryOp op a pos) (xUn f ma) :=
  ⟨PE.imp (pe_un ho ha.pe) fun σ H Q h => one_of hr h⟩
end

/-! ### arguments -/
abbrev EA := Env → Res (List Pd)
def tA (K : PySem.W.Frag) (c : Cc) (m : EA) : TA := fun σ H Q => ∃ ρ vs ps, StS K c ρ σ H vs ps ∧ ∃ qs, m ρ = .ok qs ∧ ∀ us H', us.length = qs.length → StS K c ρ σ H' (us ++ vs) (qs ++ ps) → Q us H'
structure SA (X : Cx) (c : Cc) (es : List Expr) (m : EA) : Prop where
  pa : PA X es (tA X.K c m)
def aNil : EA := fun _ => .ok []
def aCons (a : EX) (r : EA) : EA := fun ρ => (a ρ).bind fun x => (r ρ).bind fun xs => .ok (x :: xs)
theorem Pends.length {K : PySem.W.Frag} {G : Hp} {ρ : Env} {own : Nat → Option Addr} : ∀ {vs : List V} {ps : List Pd}, Pends K G ρ own vs ps → vs.length = ps.length
  | _, _, .nil => rfl
  | _, _, .cons _ h => congrArg (· + 1) (Pends.length h)
theorem Pends.append {K : PySem.W.Frag} {G : Hp} {ρ : Env} {own : Nat → Option Addr} : ∀ {vs ws : List V} {ps qs : List Pd}, Pends K G ρ own vs ps → Pends K G ρ own ws qs → Pends K G ρ own (vs ++ ws) (ps ++ qs)
  | _, _, _, _, .nil, h => h
  | _, _, _, _, .cons a b, h => .cons a (Pends.append b h)
theorem Pends.split {K : PySem.W.Frag} {G : Hp} {ρ : Env} {own : Nat → Option Addr} : ∀ {vs ws : List V} {ps qs : List Pd}, vs.length = ps.length → Pends K G ρ own (vs ++ ws) (ps ++ qs) → Pends K G ρ own vs ps ∧ Pends K G ρ own ws qs
  | [], _, [], _, _, h => ⟨.nil, h⟩
  | _ :: _, _, _ :: _, _, e, h => by
    cases h with
    | cons a b =>
      obtain ⟨x, y⟩ := Pends.split (Nat.succ.inj e) b
      exact ⟨.cons a x, y⟩
  | [], _, _ :: _, _, e, _ => by cases e
  | _ :: _, _, [], _, e, _ => by cases e
section
variable {X : Cx} {c : Cc} {e : Expr} {es : List Expr} {me : EX} {ms : EA}
theorem sa_nil : SA X c [] aNil := ⟨PA.imp pa_nil fun σ H Q ⟨ρ, vs, ps, S, qs, e, k⟩ => by cases e; exact k [] H rfl S⟩
theorem sa_cons (he : SX X c e me) (hs : SA X c es ms) (hst : starEach (e :: es) X.env = (false, eval e X.env) :: starEach es X.env := by rfl) : SA X c (e :: es) (aCons me ms) :=
  ⟨PA.imp (pa_cons he.pe hs.pa hst) fun σ H Q ⟨ρ, vs, ps, S, qs, ee, k⟩ => by
    obtain ⟨x, ea, ee⟩ := Res.bind_ok ee
    obtain ⟨xs, eb, ee⟩ := Res.bind_ok ee
    cases ee
    refine ⟨ρ, vs, ps, S, x, ea, fun v H1 S1 => ⟨ρ, _, _, S1, xs, eb, fun us H2 hl S2 => ?_⟩⟩
    obtain ⟨o, S2⟩ := S2
    obtain ⟨p1, p2⟩ := Pends.split hl S2.pend
    cases p2 with
    | cons p2 p3 =>
      exact k (v :: us) H2 (congrArg (· + 1) hl) ⟨o, { S2 with pend := .cons p2 (p1.append p3) }⟩⟩
end
end DV

namespace DV
open PySem PySem.Spec L2

abbrev lim : Nat := 16777216
theorem lim_le {n : Nat} (h : n ≤ lim) : n ≤ sizeLine := by rw [sizeLine_eq]; exact h

/-! ### arithmetic -/
def addD : D → D → Res D
  | .int i, .int j => .ok (.int (i + j))
  | .str a, .str b => if a.length + b.length ≤ lim then .ok (.str (a ++ b)) else .err
  | .tup a, .tup b => if a.length + b.length ≤ lim then .ok (.tup (a ++ b)) else .err
  | .lst a, .lst b => if a.length + b.length ≤ lim then .ok (.lst (a ++ b)) else .err
  | _, _ => .err
def subD : D → D → Res D
  | .int i, .int j => .ok (.int (i - j))
  | _, _ => .err
/-- a list, k times -/
def rep {α : Type} (k : Int) (l : List α) : List α := (List.replicate k.toNat l).flatten
def mulD : D → D → Res D
  | .int i, .int j => if (-(2 ^ 64) < i ∧ i < 2 ^ 64) ∨ (-(2 ^ 64) < j ∧ j < 2 ^ 64) then .ok (.int (i * j)) else .err
  | .str a, .int k => if k < 2 ^ 62 ∧ -(2 ^ 62) < k ∧ a.length * k.toNat ≤ lim then .ok (.str (rep k a)) else .err
  | .lst a, .int k => if k < 2 ^ 62 ∧ -(2 ^ 62) < k ∧ a.length * k.toNat ≤ lim then .ok (.lst (rep k a)) else .err
  | _, _ => .err
def divD : D → D → Res D
  | .int i, .int j => if 0 < j ∧ j < 1073741824 then .ok (.int (i / j)) else .err
  | _, _ => .err
def modD : D → D → Res D
  | .int i, .int j => if 0 < j then .ok (.int (i % j)) else .err
  | _, _ => .err
def powD : D → D → Res D
  | .int i, .int j => if 0 ≤ j ∧ j ≤ 1000000 ∧ i.natAbs < 2 ^ 64 then .ok (.int (i ^ j.toNat)) else .err
  | _, _ => .err
def negD : D → Res D
  | .int i => .ok (.int (-i))
  | _ => .err
def cmpD (p : Int → Int → Bool) : D → D → Res D
  | .int i, .int j => .ok (.bl (p i j))
  | _, _ => .err
def ltD : D → D → Res D
  | .int i, .int j => .ok (.bl (decide (i < j)))
  | .str a, .str b => .ok (.bl (decide (a < b)))
  | _, _ => .err
def leD : D → D → Res D
  | .int i, .int j => .ok (.bl (decide (i ≤ j)))
  | .str a, .str b => .ok (.bl (!decide (b < a)))
  | _, _ => .err
def gtD : D → D → Res D
  | .int i, .int j => .ok (.bl (decide (j < i)))
  | .str a, .str b => .ok (.bl (decide (b < a)))
  | _, _ => .err
def geD : D → D → Res D
  | .int i, .int j => .ok (.bl (decide (j ≤ i)))
  | .str a, .str b => .ok (.bl (!decide (a < b)))
  | _, _ => .err
def isND : D → Res D
  | .non => .ok (.bl true)
  | .int _ | .bl _ | .str _ | .tup _ | .lst _ | .rdl _ => .ok (.bl false)


/-- str * int -/
def rRepS : R2 := fun x y H Q => ∃ z n, x = .str z ∧ y = .int n ∧ -(2 ^ 62) < n ∧ n < 2 ^ 62 ∧ z.length * n.toNat ≤ lim ∧ Q (.str ⟨(rep n z.cps.toList).toArray⟩) H
theorem foldl_app (x : Array Nat) : ∀ (k : Nat) (acc : Array Nat), (List.foldl (fun a b => a ++ b) acc (List.replicate k x)).toList = acc.toList ++ (List.replicate k x.toList).flatten
  | 0, acc => by simp
  | k + 1, acc => by
    rw [List.replicate_succ, List.foldl_cons, foldl_app x k]
    simp [List.replicate_succ]
theorem op_repS {X : Cx} : OpR X (binaryOp .Mult) rRepS := by
  intro pins s σ H x y v u Q I rx ry h
  obtain ⟨z, n, rfl, rfl, h1, h2, h3, q⟩ := h
  obtain ⟨t, rfl⟩ := rx
  obtain ⟨t', rfl⟩ := ry
  have key : ∀ m : Str, m.cps.toList = rep n z.cps.toList → (⟨(rep n z.cps.toList).toArray⟩ : Str) = m := fun m e => by
    cases m with
    | mk c =>
      have e : c.toList = rep n z.cps.toList := e
      rw [← e]
  refine PySem.P.mul_str ?_ ?_ ?_ ?_
  · have a1 : ¬ n < -2 ^ 63 := by omega
    have a2 : ¬ n ≥ 2 ^ 63 := by omega
    rw [decide_eq_false a1, decide_eq_false a2]; rfl
  · intro a1 a2
    have hz : z.length ≤ 16777216 := by
      have h4 : z.length * 1 ≤ z.length * n.toNat := Nat.mul_le_mul_left _ (by omega)
      have h3 : z.length * n.toNat ≤ 16777216 := h3
      omega
    have h5 : (z.length : Int) * n ≤ 16777216 := by
      have h3 : z.length * n.toNat ≤ 16777216 := h3
      have e : ((z.length * n.toNat : Nat) : Int) = (z.length : Int) * n := by
        rw [Int.natCast_mul, Int.toNat_of_nonneg (by omega)]
      omega
    have h6 : (z.length : Int) ≤ (2 ^ 63 - 1) / n := by
      rw [Int.le_ediv_iff_mul_le (by omega)]
      omega
    omega
  · intro a1 a2
    unfold Builtin.Str.tooLong
    have h3 : z.length * n.toNat ≤ sizeLine := lim_le h3
    exact decide_eq_false (by omega)
  · split
    · rename_i hn
      refine ⟨by decide, ?_⟩
      refine ⟨.str _, H, I.tok _, ⟨_, rfl⟩, ?_⟩
      rw [← key Str.empty (by
        have e : n.toNat = 0 := by omega
        unfold rep
        rw [e]; rfl)]
      exact q
    · rename_i hn
      split
      · rename_i hc
        refine ⟨.str z, H, I, ⟨_, rfl⟩, ?_⟩
        rw [← key z (by
          rw [Bool.or_eq_true] at hc
          rcases hc with hc | hc
          · have e : n = 1 := by simpa using hc
            subst e
            show z.cps.toList = (List.replicate 1 z.cps.toList).flatten
            simp
          · have e : z.cps.toList = [] := by
              have e : z.length = 0 := by simpa using hc
              have e : z.cps.size = 0 := e
              simpa using e
            unfold rep
            rw [e]
            simp)]
        exact q
      · refine ⟨?_, ?_⟩
        · show Array.size _ ≤ _
          rw [← Array.length_toList, foldl_app]
          refine lim_le ?_
          have h3 : z.length * n.toNat ≤ 16777216 := h3
          have e : z.length = z.cps.toList.length := by simp [Str.length]
          rw [e] at h3
          simp only [List.nil_append, List.length_flatten, List.map_replicate, List.sum_replicate_nat]
          rw [Nat.mul_comm] at h3
          exact h3
        · refine ⟨.str _, H, I.tok _, ⟨_, rfl⟩, ?_⟩
          rw [← key ⟨List.foldl (fun a b => a ++ b) #[] (List.replicate n.toNat z.cps)⟩ (by
            show (List.foldl (fun a b => a ++ b) #[] (List.replicate n.toNat z.cps)).toList = _
            rw [foldl_app]; rfl)]
          exact q

section
variable {K : PySem.W.Frag}
def rAddA (K : PySem.W.Frag) : R2 := fun x y H Q => (rI0 fun i j => .int (i + j)) x y H Q ∨ (∃ i j, x = .str i ∧ y = .str j ∧ i.length + j.length ≤ sizeLine ∧ Q (.str (i ++ j)) H) ∨ rCatA K x y H Q ∨ rCat x y H Q
theorem op_addA {X : Cx} : OpR X (binaryOp .Add) (rAddA X.K) := op_add.or (op_add_str.or (op_catA.or op_cat))
theorem cps_app (x y : Str) : (x ++ y).cps.toList = x.cps.toList ++ y.cps.toList := by
  show (Str.append x y).cps.toList = _
  simp [Str.append]
theorem addD_ok : OpD K (rAddA K) addD := by
  intro H M x y dx dy d n hx hy e Q q
  unfold addD at e
  split at e
  · cases e
    have := hx.int; have := hy.int; subst_vars
    exact .inl ⟨_, _, rfl, rfl, q _ _ (Ex.refl H) (.int _)⟩
  · rename_i a b
    split at e
    · rename_i hl
      cases e
      obtain ⟨z, rfl, ez⟩ := hx.str
      obtain ⟨w, rfl, ew⟩ := hy.str
      refine .inr (.inl ⟨z, w, rfl, rfl, lim_le (by rw [str_len ez, str_len ew]; exact hl), q _ _ (Ex.refl H) (rp_str ?_)⟩)
      rw [cps_app, ez, ew]
    · cases e
  · rename_i a b
    split at e
    · rename_i hl
      cases e
      obtain ⟨p, xs, rfl, hp, rp⟩ := hx.tup
      obtain ⟨r, ys, rfl, hr, rr⟩ := hy.tup
      refine .inr (.inr (.inl ⟨p, r, xs, ys, rfl, rfl, hp, hr, lim_le (by rw [rp.length, rr.length]; exact hl), fun e0 => ?_, fun e0 e1 => ?_, fun e0 e1 l hl => ?_⟩))
      · subst e0
        cases rp
        rcases hy with hy | ⟨_, _, _, _, z, _⟩
        · exact q _ _ (Ex.refl H) hy
        · cases z
      · subst e1
        cases rr
        rw [List.append_nil] at q
        rcases hx with hx | ⟨_, _, _, _, z, _⟩
        · exact q _ _ (Ex.refl H) hx
        · cases z
      · exact q _ _ (Ex.new hl) (rp_tup hl (n _ hl) (rp.append rr))
    · cases e
  · rename_i a b
    split at e
    · rename_i hl
      cases e
      obtain ⟨p, xs, rfl, hp, rp⟩ := hx.lst
      obtain ⟨r, ys, rfl, hr, rr⟩ := hy.lst
      exact .inr (.inr (.inr ⟨p, r, xs, ys, rfl, rfl, hp, hr, lim_le (by rw [rp.length, rr.length]; exact hl), fun l hl => q _ _ (Ex.new hl) (rp_lst hl (n _ hl) (rp.append rr))⟩))
    · cases e
  · cases e
theorem subD_ok : OpD K (rI0 fun i j => .int (i - j)) subD := by
  intro H M x y dx dy d n hx hy e Q q
  unfold subD at e
  split at e
  · cases e
    have := hx.int; have := hy.int; subst_vars
    exact ⟨_, _, rfl, rfl, q _ _ (Ex.refl H) (.int _)⟩
  · cases e
theorem Rps.rep {G : Hp} {xs : List V} {ds : List D} (r : Rps K G xs ds) : ∀ k : Nat, Rps K G (List.replicate k xs).flatten (List.replicate k ds).flatten
  | 0 => .nil
  | k + 1 => by
    rw [List.replicate_succ, List.replicate_succ, List.flatten_cons, List.flatten_cons]
    exact r.append (Rps.rep r k)
def rMulA : R2 := fun x y H Q => (rI CMul fun i j => .int (i * j)) x y H Q ∨ rRepS x y H Q ∨ rRep x y H Q
theorem op_mulA {X : Cx} : OpR X (binaryOp .Mult) rMulA := op_mul.or (op_repS.or op_rep)
theorem mulD_ok : OpD K rMulA mulD := by
  intro H M x y dx dy d n hx hy e Q q
  unfold mulD at e
  split at e
  · split at e
    · rename_i hc
      cases e
      have := hx.int; have := hy.int; subst_vars
      exact .inl ⟨_, _, rfl, rfl, hc, q _ _ (Ex.refl H) (.int _)⟩
    · cases e
  · split at e
    · rename_i hl
      cases e
      obtain ⟨z, rfl, ez⟩ := hx.str
      have := hy.int; subst_vars
      exact .inr (.inl ⟨z, _, rfl, rfl, hl.2.1, hl.1, by rw [str_len rfl]; exact hl.2.2, q _ _ (Ex.refl H) (rp_str rfl)⟩)
    · cases e
  · split at e
    · rename_i hl
      cases e
      obtain ⟨p, xs, rfl, hp, rp⟩ := hx.lst
      have := hy.int; subst_vars
      obtain ⟨h1, h2, h3⟩ := hl
      exact .inr (.inr ⟨p, _, xs, rfl, rfl, hp, by omega, by omega, lim_le (by rw [rp.length]; exact h3), fun l hl => q _ _ (Ex.new hl) (rp_lst hl (n _ hl) (rp.rep _))⟩)
    · cases e
  · cases e
theorem divD_ok : OpD K (rI CDiv fun i j => .int (i / j)) divD := by
  intro H M x y dx dy d n hx hy e Q q
  unfold divD at e
  split at e
  · split at e
    · rename_i hc
      cases e
      have := hx.int; have := hy.int; subst_vars
      exact ⟨_, _, rfl, rfl, hc, q _ _ (Ex.refl H) (.int _)⟩
    · cases e
  · cases e
theorem modD_ok : OpD K (rI (fun _ j => 0 < j) fun i j => .int (i % j)) modD := by
  intro H M x y dx dy d n hx hy e Q q
  unfold modD at e
  split at e
  · split at e
    · rename_i hc
      cases e
      have := hx.int; have := hy.int; subst_vars
      exact ⟨_, _, rfl, rfl, hc, q _ _ (Ex.refl H) (.int _)⟩
    · cases e
  · cases e
theorem powD_ok : OpD K (rI CPow fun i j => .int (i ^ j.toNat)) powD := by
  intro H M x y dx dy d n hx hy e Q q
  unfold powD at e
  split at e
  · split at e
    · rename_i hc
      cases e
      have := hx.int; have := hy.int; subst_vars
      exact ⟨_, _, rfl, rfl, hc, q _ _ (Ex.refl H) (.int _)⟩
    · cases e
  · cases e
theorem negD_ok : UnD K (rU fun i => .int (-i)) negD := by
  intro H M x dx d n hx e Q q
  unfold negD at e
  split at e
  · cases e
    have := hx.int; subst_vars
    exact ⟨_, rfl, q _ _ (Ex.refl H) (.int _)⟩
  · cases e
def rOr (r r' : R2) : R2 := fun x y H Q => r x y H Q ∨ r' x y H Q
def rCmpS (p : Str → Str → Bool) : R2 := fun x y H Q => ∃ i j, x = .str i ∧ y = .str j ∧ Q (.bl (p i j)) H
theorem cmp2_ok {f : D → D → Res D} {p : Int → Int → Bool} {s : List Nat → List Nat → Bool} {ps : Str → Str → Bool}
    (hs : ∀ x y : Str, ps x y = s x.cps.toList y.cps.toList) (hf : ∀ dx dy d, f dx dy = .ok d → (∃ i j, dx = .int i ∧ dy = .int j ∧ d = .bl (p i j)) ∨ ∃ a b, dx = .str a ∧ dy = .str b ∧ d = .bl (s a b)) :
    OpD K (rOr (rI0 fun i j => .bl (p i j)) (rCmpS ps)) f := by
  intro H M x y dx dy d n hx hy e Q q
  rcases hf _ _ _ e with ⟨i, j, rfl, rfl, rfl⟩ | ⟨a, b, rfl, rfl, rfl⟩
  · have := hx.int; have := hy.int; subst_vars
    exact .inl ⟨_, _, rfl, rfl, q _ _ (Ex.refl H) (.bl _)⟩
  · obtain ⟨z, rfl, ez⟩ := hx.str
    obtain ⟨w, rfl, ew⟩ := hy.str
    refine .inr ⟨z, w, rfl, rfl, ?_⟩
    rw [hs, ez, ew]
    exact q _ _ (Ex.refl H) (.bl _)
theorem op_ltA {X : Cx} : OpR X (compareOp .Lt) (rOr (rI0 fun i j => .bl (decide (i < j))) (rCmpS fun i j => decide (i.cps.toList < j.cps.toList))) := op_lt.or op_lt_str
theorem op_leA {X : Cx} : OpR X (compareOp .LtE) (rOr (rI0 fun i j => .bl (decide (i ≤ j))) (rCmpS fun i j => !decide (j.cps.toList < i.cps.toList))) := op_le.or op_le_str
theorem op_gtA {X : Cx} : OpR X (compareOp .Gt) (rOr (rI0 fun i j => .bl (decide (j < i))) (rCmpS fun i j => decide (j.cps.toList < i.cps.toList))) := op_gt.or op_gt_str
theorem op_geA {X : Cx} : OpR X (compareOp .GtE) (rOr (rI0 fun i j => .bl (decide (j ≤ i))) (rCmpS fun i j => !decide (i.cps.toList < j.cps.toList))) := op_ge.or op_ge_str
theorem ltD_ok : OpD K (rOr (rI0 fun i j => .bl (decide (i < j))) (rCmpS fun i j => decide (i.cps.toList < j.cps.toList))) ltD :=
  cmp2_ok (fun _ _ => rfl) fun dx dy d e => by
    unfold ltD at e; split at e
    · cases e; exact .inl ⟨_, _, rfl, rfl, rfl⟩
    · cases e; exact .inr ⟨_, _, rfl, rfl, rfl⟩
    · cases e
theorem leD_ok : OpD K (rOr (rI0 fun i j => .bl (decide (i ≤ j))) (rCmpS fun i j => !decide (j.cps.toList < i.cps.toList))) leD :=
  cmp2_ok (s := fun a b => !decide (b < a)) (fun _ _ => rfl) fun dx dy d e => by
    unfold leD at e; split at e
    · cases e; exact .inl ⟨_, _, rfl, rfl, rfl⟩
    · cases e; exact .inr ⟨_, _, rfl, rfl, rfl⟩
    · cases e
theorem gtD_ok : OpD K (rOr (rI0 fun i j => .bl (decide (j < i))) (rCmpS fun i j => decide (j.cps.toList < i.cps.toList))) gtD :=
  cmp2_ok (s := fun a b => decide (b < a)) (fun _ _ => rfl) fun dx dy d e => by
    unfold gtD at e; split at e
    · cases e; exact .inl ⟨_, _, rfl, rfl, rfl⟩
    · cases e; exact .inr ⟨_, _, rfl, rfl, rfl⟩
    · cases e
theorem geD_ok : OpD K (rOr (rI0 fun i j => .bl (decide (j ≤ i))) (rCmpS fun i j => !decide (i.cps.toList < j.cps.toList))) geD :=
  cmp2_ok (s := fun a b => !decide (a < b)) (fun _ _ => rfl) fun dx dy d e => by
    unfold geD at e; split at e
    · cases e; exact .inl ⟨_, _, rfl, rfl, rfl⟩
    · cases e; exact .inr ⟨_, _, rfl, rfl, rfl⟩
    · cases e
end
end DV

namespace DV
open PySem PySem.Spec L2

/-! ### equality -/
mutual
def toPy : D → PyData
  | .non => .none | .bl b => .bool b | .int i => .int i | .str l => .str ⟨l.toArray⟩
  | .tup xs => .tuple (toPys xs) | .lst xs => .list (toPys xs) | .rdl xs => .list (toPys xs)
def toPys : List D → List PyData
  | [] => []
  | d :: ds => toPy d :: toPys ds
end
theorem str_back (x : Str) : (⟨x.cps.toList.toArray⟩ : Str) = x := by cases x; rfl
section
variable {K : PySem.W.Frag} {G H : Hp}
mutual
theorem Rp.dp : ∀ (d : D) (v : V), Rp K G v d → Dp K G v (toPy d)
  | .non, _, h => by cases h; exact .non
  | .bl b, _, h => by cases h; exact .bl b
  | .int i, _, h => by cases h; exact .int i
  | .str l, _, h => by
    cases h with
    | str x =>
      have e : toPy (.str x.cps.toList) = .str x := by unfold toPy; rw [str_back]
      rw [e]; exact .str x
  | .tup ds, _, h => by
    cases h with
    | tup h1 h2 => exact .tup h1 (Rps.dp ds _ h2)
  | .lst ds, _, h => by
    cases h with
    | lst h1 h2 => exact .lst (SqL.of h1) (Rps.dp ds _ h2)
  | .rdl ds, _, h => by
    cases h with
    | rdl h1 h2 => exact .lst h1 (Rps.dp ds _ h2)
theorem Rps.dp : ∀ (ds : List D) (vs : List V), Rps K G vs ds → DpAll K G vs (toPys ds)
  | [], _, h => by cases h; exact .nil
  | d :: ds, _, h => by
    cases h with
    | cons h1 h2 => exact .cons (Rp.dp d _ h1) (Rps.dp ds _ h2)
end
theorem RpP.dp {M : Addr → Prop} {v : V} {d : D} (h : RpP K M H v d) : Dp K H v (toPy d) := by
  rcases h with h | ⟨a, xs, ds, rfl, rfl, h3, h4⟩
  · exact Rp.dp _ _ (Rp.ex ex_msk _ _ h)
  · exact .lst (SqL.of h3) (Rps.dp _ _ (Rps.ex ex_msk _ _ h4))
end
def shD (d : D) : Bool := SeqAt.shaped (toPy d)
def eqvD (d e : D) : Bool := PyData.eqv (toPy d) (toPy e)
/-- == -/
def eqB : D → D → Res Bool
  | .int i, .int j => .ok (decide (i = j))
  | .str a, .str b => .ok (decide (a = b))
  | .bl a, .bl b => .ok (decide (a = b))
  | d, e => if shD d && shD e then .ok (eqvD d e) else .err
def eqD (d e : D) : Res D := (eqB d e).bind fun b => .ok (.bl b)
def neD (d e : D) : Res D := (eqB d e).bind fun b => .ok (.bl (!b))
theorem dec_strs {x y : Str} : decide (V.str x = V.str y) = decide (x.cps.toList = y.cps.toList) := by
  rw [Bool.eq_iff_iff]
  simp only [decide_eq_true_eq, V.str.injEq]
  constructor
  · rintro rfl; rfl
  · intro e
    cases x; cases y
    simpa using e
section
variable {K : PySem.W.Frag}
theorem eqB_ok {H : Hp} {M : Addr → Prop} {x y : V} {dx dy : D} {b : Bool} (hx : RpP K M H x dx) (hy : RpP K M H y dy) (e : eqB dx dy = .ok b) :
    (scal x y = true ∧ decide (x = y) = b) ∨ (∃ p q, Dp K H x p ∧ Dp K H y q ∧ SeqAt.shaped p = true ∧ SeqAt.shaped q = true ∧ PyData.eqv p q = b) := by
  unfold eqB at e
  split at e
  · cases e
    have := hx.int; have := hy.int; subst_vars
    exact .inl ⟨rfl, by simp⟩
  · cases e
    obtain ⟨z, rfl, ez⟩ := hx.str
    obtain ⟨w, rfl, ew⟩ := hy.str
    exact .inl ⟨rfl, by rw [dec_strs, ez, ew]⟩
  · cases e
    have := hx.bl; have := hy.bl; subst_vars
    exact .inl ⟨rfl, by simp⟩
  · split at e
    · rename_i hs
      cases e
      rw [Bool.and_eq_true] at hs
      exact .inr ⟨_, _, hx.dp, hy.dp, hs.1, hs.2, rfl⟩
    · cases e
theorem eqD_ok : OpD K (rOr rEq (rEqD K)) eqD := by
  intro H M x y dx dy d n hx hy e Q q
  obtain ⟨b, eb, e⟩ := Res.bind_ok e
  cases e
  rcases eqB_ok hx hy eb with ⟨h1, h2⟩ | ⟨p, r, h1, h2, h3, h4, h5⟩
  · exact .inl ⟨h1, by rw [h2]; exact q _ _ (Ex.refl H) (.bl _)⟩
  · exact .inr ⟨p, r, h1, h2, h3, h4, by rw [h5]; exact q _ _ (Ex.refl H) (.bl _)⟩
theorem neD_ok : OpD K (rOr rNe (rNeD K)) neD := by
  intro H M x y dx dy d n hx hy e Q q
  obtain ⟨b, eb, e⟩ := Res.bind_ok e
  cases e
  rcases eqB_ok hx hy eb with ⟨h1, h2⟩ | ⟨p, r, h1, h2, h3, h4, h5⟩
  · exact .inl ⟨h1, by rw [h2]; exact q _ _ (Ex.refl H) (.bl _)⟩
  · exact .inr ⟨p, r, h1, h2, h3, h4, by rw [h5]; exact q _ _ (Ex.refl H) (.bl _)⟩
theorem op_eqA {X : Cx} (hu : X.A.units + 64 < cLine) : OpR X (compareOp .Eq) (rOr rEq (rEqD X.K)) := op_eq.or (op_eqD hu)
theorem op_neA {X : Cx} (hu : X.A.units + 64 < cLine) : OpR X (compareOp .NotEq) (rOr rNe (rNeD X.K)) := op_ne.or (op_neD hu)

/-! ### in -/
def flatD : D → Bool
  | .non | .bl _ | .int _ | .str _ => true
  | _ => false
/-- the items' == with flat things -/
def feq : D → D → Bool
  | .non, .non => true
  | .bl a, .bl b => a == b
  | .bl a, .int b => (if a then 1 else 0) == b
  | .int a, .bl b => a == (if b then 1 else 0)
  | .int a, .int b => a == b
  | .str a, .str b => a == b
  | _, _ => false
def memF (x : D) (ds : List D) : Bool := ds.any fun y => feq y x
def inB : D → D → Res Bool
  | .str [c], .str l => .ok (decide (c ∈ l))
  | x, .tup ds => if flatD x && ds.all flatD then .ok (memF x ds) else .err
  | x, .lst ds => if flatD x && ds.all flatD then .ok (memF x ds) else .err
  | x, .rdl ds => if flatD x && ds.all flatD then .ok (memF x ds) else .err
  | _, _ => .err
def inD (d e : D) : Res D := (inB d e).bind fun b => .ok (.bl b)
def niD (d e : D) : Res D := (inB d e).bind fun b => .ok (.bl (!b))
theorem str_eqb {x y : Str} : (x == y) = (x.cps.toList == y.cps.toList) := by
  rw [Bool.eq_iff_iff]
  simp only [beq_iff_eq]
  constructor
  · rintro rfl; rfl
  · intro e
    cases x; cases y
    simpa using e
theorem flat_V {G : Hp} {v : V} {d : D} (h : Rp K G v d) : flatV v = flatD d := by
  cases h <;> rfl
theorem flat_all {G : Hp} : ∀ {vs : List V} {ds : List D}, Rps K G vs ds → vs.all flatV = ds.all flatD
  | _, _, .nil => rfl
  | _, _, .cons a b => by rw [List.all_cons, List.all_cons, flat_V a, flat_all b]
theorem feq_V {G G' : Hp} {v u : V} {d e : D} (h : Rp K G v d) (h' : Rp K G' u e) (fv : flatD d = true) (fu : flatD e = true) : eqV v u = feq d e := by
  cases h <;> cases h' <;> first | rfl | exact str_eqb | cases fv | cases fu
theorem mem_V {G G' : Hp} {x : V} {d : D} (h : Rp K G' x d) (fd : flatD d = true) : ∀ {vs : List V} {ds : List D}, Rps K G vs ds → ds.all flatD = true → inV x vs = memF d ds
  | _, _, .nil, _ => rfl
  | v :: vs, e :: ds, .cons a b, fs => by
    rw [List.all_cons, Bool.and_eq_true] at fs
    show (eqV v x || inV x vs) = (feq e d || memF d ds)
    rw [feq_V a h fs.1 fd, mem_V h fd b fs.2]
def rInA (K : PySem.W.Frag) : R2 := fun x y H Q => (∃ (c : Nat) (z : Str), x = .str ⟨#[c]⟩ ∧ y = .str z ∧ Q (.bl (decide (c ∈ z.cps.toList))) H) ∨ rIn K false x y H Q
def rNiA (K : PySem.W.Frag) : R2 := fun x y H Q => (∃ (c : Nat) (z : Str), x = .str ⟨#[c]⟩ ∧ y = .str z ∧ Q (.bl (!decide (c ∈ z.cps.toList))) H) ∨ rIn K true x y H Q
theorem op_inA {X : Cx} : OpR X (compareOp .In) (rInA X.K) := op_in_sign.or op_in_seq
theorem op_niA {X : Cx} : OpR X (compareOp .NotIn) (rNiA X.K) := op_notIn_sign.or op_notIn_seq
theorem one_sign {x : Str} {c : Nat} (h : x.cps.toList = [c]) : x = ⟨#[c]⟩ := by
  cases x with
  | mk a =>
    have h : a.toList = [c] := h
    have : a = #[c] := by
      apply Array.toList_inj.mp
      rw [h]
    rw [this]
theorem RpP.flat {M : Addr → Prop} {H : Hp} {v : V} {d : D} (h : RpP K M H v d) (f : flatD d = true) : Rp K H v d := by
  rcases h with h | ⟨_, _, _, _, rfl, _, _⟩
  · exact Rp.ex ex_msk _ _ h
  · cases f
theorem inB_ok {H : Hp} {M : Addr → Prop} {x y : V} {dx dy : D} {b : Bool} (hx : RpP K M H x dx) (hy : RpP K M H y dy) (e : inB dx dy = .ok b) :
    (∃ (c : Nat) (z : Str), x = .str ⟨#[c]⟩ ∧ y = .str z ∧ decide (c ∈ z.cps.toList) = b) ∨
    (∃ p xs, y = .ref p ∧ (SqL K H p xs ∨ SqT K H p xs) ∧ flatV x = true ∧ xs.all flatV = true ∧ inV x xs = b) := by
  have seq : ∀ {p : Addr} {xs : List V} {ds : List D}, (SqL K H p xs ∨ SqT K H p xs) → Rps K (msk M H) xs ds → (if flatD dx && ds.all flatD then Res.ok (memF dx ds) else .err) = .ok b →
      (∃ p' xs', V.ref p = .ref p' ∧ (SqL K H p' xs' ∨ SqT K H p' xs') ∧ flatV x = true ∧ xs'.all flatV = true ∧ inV x xs' = b) := fun {p xs ds} hs r e => by
    split at e
    · rename_i hf
      cases e
      rw [Bool.and_eq_true] at hf
      have fx := hx.flat hf.1
      exact ⟨p, xs, rfl, hs, by rw [flat_V fx]; exact hf.1, by rw [flat_all r]; exact hf.2, mem_V fx hf.1 r hf.2⟩
    · cases e
  unfold inB at e
  split at e
  · cases e
    obtain ⟨z, rfl, ez⟩ := hx.str
    obtain ⟨w, rfl, ew⟩ := hy.str
    exact .inl ⟨_, w, by rw [one_sign ez], rfl, by rw [ew]⟩
  · obtain ⟨a, xs, rfl, h1, h2⟩ := hy.tup
    exact .inr (seq (.inr h1) h2 e)
  · obtain ⟨a, xs, rfl, h1, h2⟩ := hy.lst
    exact .inr (seq (.inl (SqL.of h1)) h2 e)
  · obtain ⟨a, xs, rfl, h1, h2⟩ := hy.rdl
    exact .inr (seq (.inl h1) h2 e)
  · cases e
theorem inD_ok : OpD K (rInA K) inD := by
  intro H M x y dx dy d n hx hy e Q q
  obtain ⟨b, eb, e⟩ := Res.bind_ok e
  cases e
  rcases inB_ok hx hy eb with ⟨c, z, h1, h2, h3⟩ | ⟨p, xs, h1, h2, h3, h4, h5⟩
  · exact .inl ⟨c, z, h1, h2, by rw [h3]; exact q _ _ (Ex.refl H) (.bl _)⟩
  · exact .inr ⟨p, xs, h1, h2, h3, h4, by rw [if_neg Bool.false_ne_true, h5]; exact q _ _ (Ex.refl H) (.bl _)⟩
theorem niD_ok : OpD K (rNiA K) niD := by
  intro H M x y dx dy d n hx hy e Q q
  obtain ⟨b, eb, e⟩ := Res.bind_ok e
  cases e
  rcases inB_ok hx hy eb with ⟨c, z, h1, h2, h3⟩ | ⟨p, xs, h1, h2, h3, h4, h5⟩
  · exact .inl ⟨c, z, h1, h2, by rw [h3]; exact q _ _ (Ex.refl H) (.bl _)⟩
  · exact .inr ⟨p, xs, h1, h2, h3, h4, by rw [if_pos rfl, h5]; exact q _ _ (Ex.refl H) (.bl _)⟩

/-! ### is None -/
def isD : D → D → Res D
  | .non, .non => .ok (.bl true)
  | _, .non => .ok (.bl false)
  | _, _ => .err
def isnD : D → D → Res D
  | .non, .non => .ok (.bl false)
  | _, .non => .ok (.bl true)
  | _, _ => .err
theorem RpP.notNon {M : Addr → Prop} {H : Hp} {v : V} {d : D} (h : RpP K M H v d) (e : d ≠ .non) : v ≠ .non := by
  rcases h with h | ⟨_, _, _, rfl, _, _, _⟩
  · rintro rfl; cases h; exact e rfl
  · exact fun z => nomatch z
theorem isD_ok : OpD K (fun x y H Q => y = .non ∧ Q (.bl (decide (x = .non))) H) isD := by
  intro H M x y dx dy d n hx hy e Q q
  unfold isD at e
  split at e
  · cases e
    refine ⟨hy.non, ?_⟩
    rw [decide_eq_true hx.non]
    exact q _ _ (Ex.refl H) (.bl _)
  · rename_i h
    cases e
    refine ⟨hy.non, ?_⟩
    rw [decide_eq_false (hx.notNon fun z => h z)]
    exact q _ _ (Ex.refl H) (.bl _)
  · cases e
theorem isnD_ok : OpD K (fun x y H Q => y = .non ∧ Q (.bl (!decide (x = .non))) H) isnD := by
  intro H M x y dx dy d n hx hy e Q q
  unfold isnD at e
  split at e
  · cases e
    refine ⟨hy.non, ?_⟩
    rw [decide_eq_true hx.non]
    exact q _ _ (Ex.refl H) (.bl _)
  · rename_i h
    cases e
    refine ⟨hy.non, ?_⟩
    rw [decide_eq_false (hx.notNon fun z => h z)]
    exact q _ _ (Ex.refl H) (.bl _)
  · cases e

/-! ### items, slices -/
def optR {α : Type} : Option α → Res α
  | some a => .ok a
  | none => .err
def ixD : D → D → Res D
  | .lst ds, .int i => optR (atI ds i)
  | .tup ds, .int i => optR (atI ds i)
  | .rdl ds, .int i => optR (atI ds i)
  | .str l, .int i => if l.length ≤ lim then (optR (atI l i)).bind fun c => .ok (.str [c]) else .err
  | _, _ => .err
theorem optR_ok {α : Type} {o : Option α} {a : α} (h : optR o = .ok a) : o = some a := by
  cases o with
  | some b => cases h; rfl
  | none => cases h
theorem atI_rps {G : Hp} {vs : List V} {ds : List D} {i : Int} {d : D} (r : Rps K G vs ds) (h : atI ds i = some d) : ∃ v, atI vs i = some v ∧ Rp K G v d := by
  unfold atI at h ⊢
  rw [r.length]
  cases e : ixN ds.length i with
  | none => rw [e] at h; cases h
  | some j =>
    rw [e] at h
    exact r.get h
theorem ixD_ok : OpD K (rIx K) ixD := by
  intro H M x y dx dy d n hx hy e Q q
  unfold ixD at e
  split at e
  · obtain ⟨a, xs, rfl, h1, h2⟩ := hx.lst
    have := hy.int; subst_vars
    obtain ⟨v, e1, r⟩ := atI_rps h2 (optR_ok e)
    exact .inl ⟨a, xs, _, v, rfl, rfl, SqL.of h1, e1, q _ _ (Ex.refl H) r⟩
  · obtain ⟨a, xs, rfl, h1, h2⟩ := hx.tup
    have := hy.int; subst_vars
    obtain ⟨v, e1, r⟩ := atI_rps h2 (optR_ok e)
    exact .inr (.inl ⟨a, xs, _, v, rfl, rfl, h1, e1, q _ _ (Ex.refl H) r⟩)
  · obtain ⟨a, xs, rfl, h1, h2⟩ := hx.rdl
    have := hy.int; subst_vars
    obtain ⟨v, e1, r⟩ := atI_rps h2 (optR_ok e)
    exact .inl ⟨a, xs, _, v, rfl, rfl, h1, e1, q _ _ (Ex.refl H) r⟩
  · split at e
    · rename_i hl
      obtain ⟨z, rfl, ez⟩ := hx.str
      have := hy.int; subst_vars
      obtain ⟨c, e1, e⟩ := Res.bind_ok e
      cases e
      exact .inr (.inr ⟨z, _, c, rfl, rfl, lim_le (by rw [str_len rfl]; exact hl), optR_ok e1, q _ _ (Ex.refl H) (rp_str rfl)⟩)
    · cases e
  · cases e
/-- xs[lo:hi] -/
def cutL {α : Type} (xs : List α) (lo hi : Option Int) : List α := (xs.drop (HT.sIx xs.length 0 lo)).take (HT.sIx xs.length xs.length hi - HT.sIx xs.length 0 lo)
def slD : D → Option Int → Option Int → Res D
  | .str l, lo, hi => if l.length ≤ lim then .ok (.str (cutL l lo hi)) else .err
  | .lst ds, lo, hi => .ok (.lst (cutL ds lo hi))
  | .rdl ds, lo, hi => .ok (.lst (cutL ds lo hi))
  | .tup ds, lo, hi => .ok (.tup (cutL ds lo hi))
  | _, _, _ => .err
theorem cut_rps {G : Hp} {vs : List V} {ds : List D} {lo hi : Option Int} (r : Rps K G vs ds) : Rps K G (cutV vs lo hi) (cutL ds lo hi) := by
  unfold cutV cutL
  rw [r.length]
  exact (r.drop _).take _
def rSlAll (K : PySem.W.Frag) : V → Option Int → Option Int → Hp → VK → Prop := fun x lo hi H Q => rSlS x lo hi H Q ∨ rSlL K x lo hi H Q ∨ rSlA K x lo hi H Q
theorem sl_all {X : Cx} : SlR X (rSlAll X.K) := sl_str.or (sl_list.or sl_tupA)
theorem slD_ok {H : Hp} {M : Addr → Prop} {x : V} {dx d : D} {lo hi : Option Int} (n : ∀ a, H a = none → ¬ M a) (hx : RpP K M H x dx) (e : slD dx lo hi = .ok d) {Q : VK}
    (q : ∀ v H', Ex H H' → Rp K (msk M H') v d → Q v H') : rSlAll K x lo hi H Q := by
  unfold slD at e
  split at e
  · split at e
    · rename_i hl
      cases e
      obtain ⟨z, rfl, ez⟩ := hx.str
      refine .inl ⟨z, rfl, lim_le (by rw [str_len ez]; exact hl), q _ _ (Ex.refl H) (rp_str ?_)⟩
      unfold cutS cutL
      rw [str_len ez, ez]
    · cases e
  · cases e
    obtain ⟨a, xs, rfl, h1, h2⟩ := hx.lst
    exact .inr (.inl ⟨a, xs, rfl, SqL.of h1, fun l hl => q _ _ (Ex.new hl) (rp_lst hl (n _ hl) (cut_rps h2))⟩)
  · cases e
    obtain ⟨a, xs, rfl, h1, h2⟩ := hx.rdl
    exact .inr (.inl ⟨a, xs, rfl, h1, fun l hl => q _ _ (Ex.new hl) (rp_lst hl (n _ hl) (cut_rps h2))⟩)
  · cases e
    obtain ⟨a, xs, rfl, h1, h2⟩ := hx.tup
    refine .inr (.inr ⟨a, xs, rfl, h1, fun w => ?_, fun w l hl => q _ _ (Ex.new hl) (rp_tup hl (n _ hl) (cut_rps h2))⟩)
    rcases hx with hx | ⟨_, _, _, _, z, _⟩
    · refine q _ _ (Ex.refl H) ?_
      have e : ∀ ds : List D, xs.length = ds.length → cutL ds lo hi = ds := fun ds hl => by
        unfold cutL
        rw [← hl, w.1, w.2, Nat.sub_zero, List.drop_zero, hl, List.take_length]
      rw [e _ h2.length]
      exact hx
    · cases z
  · cases e
end

abbrev EO := Env → Res (Option Int)
def tOp' (K : PySem.W.Frag) (c : Cc) (m : EO) : TO := fun σ H Q => ∃ ρ vs ps, StS K c ρ σ H vs ps ∧ ∃ o, m ρ = .ok o ∧ ∀ H', StS K c ρ σ H' vs ps → Q o H'
structure SO (X : Cx) (c : Cc) (e : Option Expr) (m : EO) : Prop where
  po : PO X e (tOp' X.K c m)
theorem PO.imp {X : Cx} {e : Option Expr} {t t' : TO} (h : PO X e t) (i : ∀ σ H Q, t' σ H Q → t σ H Q) : PO X e t' := ⟨fun pins s σ H Q I q => h.run pins s σ H Q I (i σ H Q q)⟩
def oNone : EO := fun _ => .ok none
def asInt : D → Res Int
  | .int i => .ok i
  | _ => .err
def oSome (a : EX) : EO := fun ρ => (a ρ).bind fun x => (asInt x.1).bind fun i => .ok (some i)
def xSl (a : EX) (lo hi : EO) : EX := fun ρ => (a ρ).bind fun x => (lo ρ).bind fun l => (hi ρ).bind fun h => (slD x.1 l h).bind fun d => .ok (d, none)
section
variable {X : Cx} {c : Cc} {a b e : Expr} {ma mb : EX} {pos : Pos} {lo hi : Option Expr} {ml mh : EO}
theorem so_none : SO X c none oNone := ⟨PO.imp po_none fun σ H Q ⟨ρ, vs, ps, S, o, e, k⟩ => by cases e; exact k H S⟩
theorem asInt_ok {d : D} {i : Int} (h : asInt d = .ok i) : d = .int i := by
  unfold asInt at h; split at h <;> cases h; rfl
theorem so_some (ha : SX X c a ma) : SO X c (some a) (oSome ma) := ⟨PO.imp (po_some ha.pe) fun σ H Q ⟨ρ, vs, ps, S, o, e, k⟩ => by
  obtain ⟨x, ea, e⟩ := Res.bind_ok e
  obtain ⟨i, ei, e⟩ := Res.bind_ok e
  cases e
  refine ⟨ρ, vs, ps, S, x, ea, fun v H1 S1 => ⟨i, ?_, k H1 S1.pop⟩⟩
  obtain ⟨o, S1⟩ := S1
  have h := S1.peek
  rw [asInt_ok ei] at h
  exact h.int⟩
theorem sx_slice {p2 : Pos} (ha : SX X c a ma) (hl : SO X c lo ml) (hh : SO X c hi mh) : SX X c (.Subscript a (.Slice lo hi none p2) pos) (xSl ma ml mh) :=
  ⟨PE.imp (pe_slice sl_all ha.pe hl.po hh.po) fun σ H Q ⟨ρ, vs, ps, S, p, e, k⟩ => by
    obtain ⟨x, ea, e⟩ := Res.bind_ok e
    obtain ⟨l, el, e⟩ := Res.bind_ok e
    obtain ⟨h, eh, e⟩ := Res.bind_ok e
    obtain ⟨d, ed, e⟩ := Res.bind_ok e
    cases e
    refine ⟨ρ, vs, ps, S, x, ea, fun v H1 S1 => ⟨ρ, _, _, S1, l, el, fun H2 S2 => ⟨ρ, _, _, S2, h, eh, fun H3 S3 => ?_⟩⟩⟩
    obtain ⟨o, S3⟩ := S3
    exact slD_ok (fun a n => S3.nomsk n) S3.peek ed fun w H4 e4 r4 => k w H4 (S3.below.val e4 r4)⟩
end
end DV

namespace DV
open PySem PySem.Spec L2

/-! ### tests -/
abbrev EB := Env → Res Bool
def tT (K : PySem.W.Frag) (c : Cc) (m : EB) : TT := fun σ H Q => ∃ ρ vs ps, StS K c ρ σ H vs ps ∧ ∃ b, m ρ = .ok b ∧ ∀ H', StS K c ρ σ H' vs ps → Q b H'
structure BX (X : Cx) (c : Cc) (e : Expr) (m : EB) : Prop where
  pt : PT X e (tT X.K c m)
structure BW (X : Cx) (c : Cc) (e : Expr) (m : EB) : Prop where
  pw : PW X e (tT X.K c m)
theorem PW.imp {X : Cx} {e : Expr} {t t' : TT} (h : PW X e t) (i : ∀ σ H Q, t' σ H Q → t σ H Q) : PW X e t' := ⟨fun w pins s σ H Q I q => h.run w pins s σ H Q I (i σ H Q q)⟩
def asB : D → Res Bool
  | .bl b => .ok b
  | _ => .err
theorem asB_ok {d : D} {i : Bool} (h : asB d = .ok i) : d = .bl i := by
  unfold asB at h; split at h <;> cases h; rfl
def bOf (m : EX) : EB := fun ρ => (m ρ).bind fun x => asB x.1
def truB : D → Res Bool
  | .non => .ok false
  | .bl b => .ok b
  | .int i => .ok (i != 0)
  | .str l => if l.length ≤ lim then .ok (!l.isEmpty) else .err
  | .tup ds | .lst ds | .rdl ds => .ok (!ds.isEmpty)
def bTru (m : EX) : EB := fun ρ => (m ρ).bind fun x => truB x.1
def bNot (m : EB) : EB := fun ρ => (m ρ).bind fun b => .ok (!b)
def bAnd (m n : EB) : EB := fun ρ => (m ρ).bind fun b => match b with | true => n ρ | false => .ok false
def bOr (m n : EB) : EB := fun ρ => (m ρ).bind fun b => match b with | true => .ok true | false => n ρ
def xAnd (m n : EX) : EX := fun ρ => (m ρ).bind fun x => (asB x.1).bind fun b => match b with | true => n ρ | false => .ok (.bl false, none)
def xOr (m n : EX) : EX := fun ρ => (m ρ).bind fun x => (asB x.1).bind fun b => match b with | true => .ok (.bl true, none) | false => n ρ
def notD : D → Res D
  | .bl b => .ok (.bl (!b))
  | _ => .err
def xIf (t : EB) (m n : EX) : EX := fun ρ => (t ρ).bind fun b => match b with | true => m ρ | false => n ρ
section
variable {X : Cx} {c : Cc} {a b e : Expr} {ma mb : EX} {na nb : EB} {pos : Pos} {rest : List Expr}
theorem bx_cmp {op : CmpOp} {r : R2} {f : D → D → Res D} (ho : OpR X (compareOp op) r) (hr : OpD X.K r f) (ha : SX X c a ma) (hb : SX X c b mb) (hm : behindInMarks op b = false := by first | exact nomark _ | rfl) : BX X c (.Compare a [op] [b] pos) (bOf (xOp f ma mb)) :=
  ⟨PT.imp (pt_cmpR ho ha.pe hb.pe hm) fun σ H Q ⟨ρ, vs, ps, S, p, e, k⟩ => by
    obtain ⟨x, ex, e⟩ := Res.bind_ok e
    have t : tX X.K c (xOp f ma mb) σ H fun v H' => v = .bl p ∧ StS X.K c ρ σ H' vs ps := ⟨ρ, vs, ps, S, x, ex, fun v H' S' => by
      refine ⟨?_, S'.pop⟩
      obtain ⟨o, S'⟩ := S'
      have h := S'.peek
      rw [asB_ok e] at h
      exact h.bl⟩
    have h := two_of hr t
    refine (show tOp r (tX X.K c ma) (tX X.K c mb) σ H (fun x H' => ∃ k, x = .bl k ∧ Q k H') from ?_)
    refine two_of hr ⟨ρ, vs, ps, S, x, ex, fun v H' S' => ⟨p, ?_, k H' S'.pop⟩⟩
    obtain ⟨o, S'⟩ := S'
    have h := S'.peek
    rw [asB_ok e] at h
    exact h.bl⟩
theorem bx_val (h : SX X c e ma) (he : ∀ whole, isTrue e X.env whole = (do let v ← whole; standAt e.pos; holding [v] (truthy v)) := by intro _; rfl) : BX X c e (bOf ma) :=
  ⟨PT.imp (pt_val h.pe he) fun σ H Q ⟨ρ, vs, ps, S, p, e, k⟩ => by
    obtain ⟨x, ex, e⟩ := Res.bind_ok e
    refine ⟨ρ, vs, ps, S, x, ex, fun v H' S' => ⟨p, ?_, k H' S'.pop⟩⟩
    obtain ⟨o, S'⟩ := S'
    have h := S'.peek
    rw [asB_ok e] at h
    exact h.bl⟩
theorem tru_ok' {K : PySem.W.Frag} {H : Hp} {M : Addr → Prop} {v : V} {d : D} {k : Bool} (h : RpP K M H v d) (e : truB d = .ok k) : TruV K v H k := by
  have len : ∀ {xs : List V} {ds : List D} {G : Hp}, Rps K G xs ds → (!ds.isEmpty) = !xs.isEmpty := fun r => by cases r <;> rfl
  unfold truB at e
  split at e
  · cases e; rw [h.non]; rfl
  · cases e; rw [h.bl]; rfl
  · cases e; rw [h.int]; rfl
  · split at e
    · rename_i l hl
      cases e
      obtain ⟨z, rfl, ez⟩ := h.str
      refine ⟨lim_le (by rw [str_len ez]; exact hl), ?_⟩
      rw [str_len ez]
      cases l with
      | nil => rfl
      | cons c l =>
        simp only [List.isEmpty_cons, List.length_cons]
        have : ((l.length + 1 : Nat) : Int) ≠ 0 := by omega
        simp [bne, this]
        omega
    · cases e
  · cases e
    obtain ⟨a, xs, rfl, h1, h2⟩ := h.tup
    exact .inr (.inl ⟨xs, h1, len h2⟩)
  · cases e
    obtain ⟨a, xs, rfl, h1, h2⟩ := h.lst
    exact .inl ⟨xs, SqL.of h1, len h2⟩
  · cases e
    obtain ⟨a, xs, rfl, h1, h2⟩ := h.rdl
    exact .inl ⟨xs, h1, len h2⟩
theorem bx_tru (h : SX X c e ma) (he : ∀ whole, isTrue e X.env whole = (do let v ← whole; standAt e.pos; holding [v] (truthy v)) := by intro _; rfl) : BX X c e (bTru ma) :=
  ⟨PT.imp (pt_truth h.pe he) fun σ H Q ⟨ρ, vs, ps, S, p, e, k⟩ => by
    obtain ⟨x, ex, e⟩ := Res.bind_ok e
    refine ⟨ρ, vs, ps, S, x, ex, fun v H' S' => ⟨p, ?_, k H' S'.pop⟩⟩
    obtain ⟨o, S'⟩ := S'
    exact tru_ok' S'.peek e⟩
theorem bx_not (h : BX X c a na) : BX X c (.UnaryOp .Not a pos) (bNot na) :=
  ⟨PT.imp (pt_not h.pt) fun σ H Q ⟨ρ, vs, ps, S, p, e, k⟩ => by
    obtain ⟨b, eb, e⟩ := Res.bind_ok e
    cases e
    exact ⟨ρ, vs, ps, S, b, eb, fun H' S' => k H' S'⟩⟩
theorem bx_bw (h : BW X c a na) : BX X c a na := ⟨PW.pt h.pw⟩
theorem bw_and1 (h : BX X c a na) : BW X c (.BoolOp .And [a] pos) na := ⟨pw_and1 h.pt⟩
theorem bw_or1 (h : BX X c a na) : BW X c (.BoolOp .Or [a] pos) na := ⟨pw_or1 h.pt⟩
theorem bw_and (h : BX X c a na) (h2 : BW X c (.BoolOp .And (b :: rest) pos) nb) : BW X c (.BoolOp .And (a :: b :: rest) pos) (bAnd na nb) :=
  ⟨PW.imp (pw_and h.pt h2.pw) fun σ H Q ⟨ρ, vs, ps, S, p, e, k⟩ => by
    obtain ⟨b, eb, e⟩ := Res.bind_ok e
    refine ⟨ρ, vs, ps, S, b, eb, fun H' S' => ?_⟩
    cases b with
    | true => exact iteT ⟨ρ, vs, ps, S', p, e, k⟩
    | false => cases e; exact iteF (k H' S')⟩
theorem bw_or (h : BX X c a na) (h2 : BW X c (.BoolOp .Or (b :: rest) pos) nb) : BW X c (.BoolOp .Or (a :: b :: rest) pos) (bOr na nb) :=
  ⟨PW.imp (pw_or h.pt h2.pw) fun σ H Q ⟨ρ, vs, ps, S, p, e, k⟩ => by
    obtain ⟨b, eb, e⟩ := Res.bind_ok e
    refine ⟨ρ, vs, ps, S, b, eb, fun H' S' => ?_⟩
    cases b with
    | true => cases e; exact iteT (k H' S')
    | false => exact iteF ⟨ρ, vs, ps, S', p, e, k⟩⟩
theorem sx_one {op} (h : SX X c a ma) : SX X c (.BoolOp op [a] pos) ma := ⟨pe_one h.pe⟩
theorem peekB {K : PySem.W.Frag} {ρ : Env} {σ : L2.St} {H : Hp} {v : V} {vs : List V} {p : Pd} {ps : List Pd} {b : Bool} (S : StS K c ρ σ H (v :: vs) (p :: ps)) (e : asB p.1 = .ok b) : v = .bl b := by
  obtain ⟨o, S⟩ := S
  have h := S.peek
  rw [asB_ok e] at h
  exact h.bl
theorem StS.bl {K : PySem.W.Frag} {ρ : Env} {σ : L2.St} {H : Hp} {vs : List V} {ps : List Pd} (S : StS K c ρ σ H vs ps) (b : Bool) : StS K c ρ σ H (.bl b :: vs) ((.bl b, none) :: ps) := by
  obtain ⟨o, S⟩ := S
  exact StS.push S (Rp.bl b)
theorem sx_and (h : SX X c a ma) (h2 : SX X c (.BoolOp .And (b :: rest) pos) mb) : SX X c (.BoolOp .And (a :: b :: rest) pos) (xAnd ma mb) :=
  ⟨PE.imp (pe_and h.pe h2.pe) fun σ H Q ⟨ρ, vs, ps, S, p, e, k⟩ => by
    obtain ⟨x, ex, e⟩ := Res.bind_ok e
    obtain ⟨b, eb, e⟩ := Res.bind_ok e
    refine ⟨ρ, vs, ps, S, x, ex, fun v H' S' => ⟨b, peekB S' eb, ?_⟩⟩
    cases b with
    | true => exact iteT ⟨ρ, vs, ps, S'.pop, p, e, k⟩
    | false => cases e; exact iteF (k _ H' (S'.pop.bl false))⟩
theorem sx_or (h : SX X c a ma) (h2 : SX X c (.BoolOp .Or (b :: rest) pos) mb) : SX X c (.BoolOp .Or (a :: b :: rest) pos) (xOr ma mb) :=
  ⟨PE.imp (pe_or h.pe h2.pe) fun σ H Q ⟨ρ, vs, ps, S, p, e, k⟩ => by
    obtain ⟨x, ex, e⟩ := Res.bind_ok e
    obtain ⟨b, eb, e⟩ := Res.bind_ok e
    refine ⟨ρ, vs, ps, S, x, ex, fun v H' S' => ⟨b, peekB S' eb, ?_⟩⟩
    cases b with
    | true => cases e; exact iteT (k _ H' (S'.pop.bl true))
    | false => exact iteF ⟨ρ, vs, ps, S'.pop, p, e, k⟩⟩
theorem sx_not (h : SX X c a ma) : SX X c (.UnaryOp .Not a pos) (xUn notD ma) :=
  ⟨PE.imp (pe_not h.pe) fun σ H Q ⟨ρ, vs, ps, S, p, e, k⟩ => by
    obtain ⟨x, ex, e⟩ := Res.bind_ok e
    obtain ⟨d, ed, e⟩ := Res.bind_ok e
    cases e
    unfold notD at ed
    split at ed
    · rename_i y hb
      cases ed
      exact ⟨ρ, vs, ps, S, x, ex, fun v H' S' => ⟨_, peekB (b := y) S' (by rw [hb]; rfl), k _ H' (S'.pop.bl _)⟩⟩
    · cases ed⟩
theorem sx_if {t : Expr} {mt : EB} (ht : BX X c t mt) (ha : SX X c a ma) (hb : SX X c b mb) : SX X c (.IfExp t a b pos) (xIf mt ma mb) :=
  ⟨PE.imp (pe_ifExp ht.pt ha.pe hb.pe) fun σ H Q ⟨ρ, vs, ps, S, p, e, k⟩ => by
    obtain ⟨b, eb, e⟩ := Res.bind_ok e
    refine ⟨ρ, vs, ps, S, b, eb, fun H' S' => ?_⟩
    cases b with
    | true => exact iteT ⟨ρ, vs, ps, S', p, e, k⟩
    | false => exact iteF ⟨ρ, vs, ps, S', p, e, k⟩⟩

/-! ### calls of built-ins -/
def xCa (f : List D → Res D) (m : EA) : EX := fun ρ => (m ρ).bind fun qs => (f (qs.map (·.1))).bind fun d => .ok (d, none)
theorem pends_peek {K : PySem.W.Frag} {ρ : Env} {σ : L2.St} {H : Hp} {own : Nat → Option Addr} {vs0 : List V} {ps0 : List Pd} (S : StO K c ρ σ H own vs0 ps0) : ∀ {vs : List V} {ps : List Pd}, Pends K (msk (Msk c own) H) ρ own vs ps → Paired (RpP K (Msk c own) H) vs (ps.map (·.1))
  | _, _, .nil => .nil
  | _, _, .cons a b => .cons (a.peek S) (pends_peek S b)
theorem ca_of {K : PySem.W.Frag} {r : List V → Hp → VK → Prop} {f : List D → Res D} {ms : EA} (hr : CaD K r f) {σ : L2.St} {H : Hp} {Q : VK} (h : tX K c (xCa f ms) σ H Q) : tCB r (tA K c ms) σ H Q := by
  obtain ⟨ρ, vs, ps, S, p, e, k⟩ := h
  obtain ⟨qs, eq, e⟩ := Res.bind_ok e
  obtain ⟨d, ed, e⟩ := Res.bind_ok e
  cases e
  refine ⟨ρ, vs, ps, S, qs, eq, fun us H1 hl S1 => ?_⟩
  obtain ⟨o, S1⟩ := S1
  obtain ⟨p1, p2⟩ := Pends.split hl S1.pend
  have S2 : StO K c ρ σ H1 o vs ps := { S1 with pend := p2 }
  exact hr H1 _ us _ d (fun a n => S1.nomsk n) (pends_peek S1 p1) ed Q fun w H3 e3 r3 => k w H3 (S2.val e3 r3)
theorem sx_callB {es : List Expr} {ms : EA} {id : String} {x : Str} {p : Pos} {r : List V → Hp → VK → Prop} {f : List D → Res D} (hc : CallR X (.builtin id) r) (hr : CaD X.K r f) (hg : Gl X x) (hm : X.mg x = none) (hv : bootBuiltins x = some (.builtin id)) (ha : SA X c (e :: es) ms) (hn : x ≠ "__name__" := by decide) (hdb : (x == ("__debug__" : Str)) = false := by decide)
    (he : starEach (e :: es) X.env = (false, eval e X.env) :: starEach es X.env := by rfl) (hpl : (backTo pos (starEach es X.env)).any (·.1) = false := by rfl) : SX X c (.Call (.Name x p) (e :: es) [] pos) (xCa f ms) :=
  ⟨PE.imp (pe_callB hc hg hm hv ha.pa hn hdb he hpl) fun σ H Q h => ca_of hr h⟩
theorem sx_callT {es : List Expr} {ms : EA} {T : String} {x : Str} {p : Pos} {r : List V → Hp → VK → Prop} {f : List D → Res D} (hc : CallR X (.type T) r) (hr : CaD X.K r f) (hg : Gl X x) (hm : X.mg x = none) (hv : bootBuiltins x = some (.type T)) (ha : SA X c (e :: es) ms) (hn : x ≠ "__name__" := by decide) (hdb : (x == ("__debug__" : Str)) = false := by decide)
    (he : starEach (e :: es) X.env = (false, eval e X.env) :: starEach es X.env := by rfl) (hpl : (backTo pos (starEach es X.env)).any (·.1) = false := by rfl) : SX X c (.Call (.Name x p) (e :: es) [] pos) (xCa f ms) :=
  ⟨PE.imp (pe_callTy hc hg hm hv ha.pa hn hdb he hpl) fun σ H Q h => ca_of hr h⟩
end

def lenD : List D → Res D
  | [.str l] => if l.length ≤ lim then .ok (.int l.length) else .err
  | [.tup ds] | [.lst ds] | [.rdl ds] => .ok (.int ds.length)
  | _ => .err
def absD : List D → Res D
  | [.int i] => .ok (.int (if i < 0 then -i else i))
  | _ => .err
def intD : List D → Res D
  | [.int i] => .ok (.int i)
  | [.bl b] => .ok (.int (if b then 1 else 0))
  | _ => .err
def strI (i : Int) : List Nat := (toString i).toList.map Char.toNat
def strD : List D → Res D
  | [.int i] => if i.natAbs.log2 < 1920 then .ok (.str (strI i)) else .err
  | _ => .err
def maxD : List D → Res D
  | [.int i, .int j] => .ok (.int (if j > i then j else i))
  | _ => .err
def minD : List D → Res D
  | [.int i, .int j] => .ok (.int (if j < i then j else i))
  | _ => .err
def tupD : List D → Res D
  | [.tup ds] | [.lst ds] | [.rdl ds] => .ok (.tup ds)
  | _ => .err
section
variable {K : PySem.W.Frag}
theorem lenD_ok : CaD K (fun xs H Q => ∃ x n, xs = [x] ∧ LenV K x H n ∧ Q (.int n) H) lenD := by
  intro H M xs ds d n hp e Q q
  unfold lenD at e
  split at e
  · split at e
    · rename_i l hl
      cases e
      cases hp with
      | cons h t =>
        cases t
        obtain ⟨z, rfl, ez⟩ := h.str
        exact ⟨_, l.length, rfl, ⟨lim_le (by rw [str_len ez]; exact hl), (str_len ez).symm⟩, q _ _ (Ex.refl H) (.int _)⟩
    · cases e
  · cases e
    cases hp with
    | cons h t =>
      cases t
      obtain ⟨a, xs, rfl, h1, h2⟩ := h.tup
      exact ⟨_, _, rfl, .inr ⟨xs, h1, h2.length.symm⟩, q _ _ (Ex.refl H) (.int _)⟩
  · cases e
    cases hp with
    | cons h t =>
      cases t
      obtain ⟨a, xs, rfl, h1, h2⟩ := h.lst
      exact ⟨_, _, rfl, .inl ⟨xs, SqL.of h1, h2.length.symm⟩, q _ _ (Ex.refl H) (.int _)⟩
  · cases e
    cases hp with
    | cons h t =>
      cases t
      obtain ⟨a, xs, rfl, h1, h2⟩ := h.rdl
      exact ⟨_, _, rfl, .inl ⟨xs, h1, h2.length.symm⟩, q _ _ (Ex.refl H) (.int _)⟩
  · cases e
theorem absD_ok : CaD K (fun xs H Q => ∃ i, xs = [.int i] ∧ Q (.int (if i < 0 then -i else i)) H) absD := by
  intro H M xs ds d n hp e Q q
  unfold absD at e
  split at e
  · cases e
    cases hp with
    | cons h t =>
      cases t
      have := h.int; subst_vars
      exact ⟨_, rfl, q _ _ (Ex.refl H) (.int _)⟩
  · cases e
theorem intD_ok : CaD K (fun xs H Q => (∃ i, xs = [.int i] ∧ Q (.int i) H) ∨ ∃ k, xs = [.bl k] ∧ Q (.int (if k then 1 else 0)) H) intD := by
  intro H M xs ds d n hp e Q q
  unfold intD at e
  split at e
  · cases e
    cases hp with
    | cons h t =>
      cases t
      have := h.int; subst_vars
      exact .inl ⟨_, rfl, q _ _ (Ex.refl H) (.int _)⟩
  · cases e
    cases hp with
    | cons h t =>
      cases t
      have := h.bl; subst_vars
      exact .inr ⟨_, rfl, q _ _ (Ex.refl H) (.int _)⟩
  · cases e
theorem strD_ok : CaD K (fun xs H Q => ∃ i, xs = [.int i] ∧ i.natAbs.log2 < 1920 ∧ Q (.str (toString i)) H) strD := by
  intro H M xs ds d n hp e Q q
  unfold strD at e
  split at e
  · split at e
    · rename_i hl
      cases e
      cases hp with
      | cons h t =>
        cases t
        have := h.int; subst_vars
        exact ⟨_, rfl, hl, q _ _ (Ex.refl H) (rp_str (PyProof.Rows.signs_ofString _))⟩
    · cases e
  · cases e
theorem maxD_ok : CaD K (fun xs H Q => ∃ i j, xs = [.int i, .int j] ∧ Q (.int (if j > i then j else i)) H) maxD := by
  intro H M xs ds d n hp e Q q
  unfold maxD at e
  split at e
  · cases e
    cases hp with
    | cons h t =>
      cases t with
      | cons h2 t =>
        cases t
        have := h.int; have := h2.int; subst_vars
        exact ⟨_, _, rfl, q _ _ (Ex.refl H) (.int _)⟩
  · cases e
theorem minD_ok : CaD K (fun xs H Q => ∃ i j, xs = [.int i, .int j] ∧ Q (.int (if j < i then j else i)) H) minD := by
  intro H M xs ds d n hp e Q q
  unfold minD at e
  split at e
  · cases e
    cases hp with
    | cons h t =>
      cases t with
      | cons h2 t =>
        cases t
        have := h.int; have := h2.int; subst_vars
        exact ⟨_, _, rfl, q _ _ (Ex.refl H) (.int _)⟩
  · cases e
theorem tupD_ok : CaD K (fun xs H Q => ∃ p ys, xs = [.ref p] ∧ ((SqL K H p ys ∧ ∀ l, H l = none → Q (.ref l) (upd H l (.tup ys))) ∨ (SqT K H p ys ∧ Q (.ref p) H))) tupD := by
  intro H M xs ds d n hp e Q q
  unfold tupD at e
  split at e
  · cases e
    cases hp with
    | cons h t =>
      cases t
      obtain ⟨a, xs, rfl, h1, h2⟩ := id h.tup
      rcases h with h | ⟨_, _, _, _, z, _⟩
      · exact ⟨_, _, rfl, .inr ⟨h1, q _ _ (Ex.refl H) h⟩⟩
      · cases z
  · cases e
    cases hp with
    | cons h t =>
      cases t
      obtain ⟨a, xs, rfl, h1, h2⟩ := h.lst
      exact ⟨_, _, rfl, .inl ⟨SqL.of h1, fun l hl => q _ _ (Ex.new hl) (rp_tup hl (n _ hl) h2)⟩⟩
  · cases e
    cases hp with
    | cons h t =>
      cases t
      obtain ⟨a, xs, rfl, h1, h2⟩ := h.rdl
      exact ⟨_, _, rfl, .inl ⟨h1, fun l hl => q _ _ (Ex.new hl) (rp_tup hl (n _ hl) h2)⟩⟩
  · cases e
end

/-! ### isinstance -/
/-- the kind of a datum -/
def kd : D → Nat
  | .non => 0 | .bl _ => 1 | .int _ => 2 | .str _ => 3 | .tup _ => 4 | .lst _ | .rdl _ => 5
def kdN : Nat → String
  | 0 => "NoneType" | 1 => "bool" | 2 => "int" | 3 => "str" | 4 => "tuple" | _ => "list"
def isiD (p : Nat → Bool) (d : D) : Res D := .ok (.bl (p (kd d)))
theorem RpP.ty {K : PySem.W.Frag} {H : Hp} {M : Addr → Prop} {v : V} {d : D} (h : RpP K M H v d) : TyX K H v (.type (kdN (kd d))) := by
  cases d with
  | non => rw [h.non]; exact .base .non
  | bl b => rw [h.bl]; exact .base (.bl b)
  | int i => rw [h.int]; exact .base (.int i)
  | str l => obtain ⟨z, rfl, _⟩ := h.str; exact .base (.str z)
  | tup ds =>
    obtain ⟨a, xs, rfl, h1, _⟩ := h.tup
    rcases h1 with (h1 | ⟨o, h1⟩) | ⟨o, its, n, h1, h2, _⟩
    · exact .base (.tup h1)
    · exact .fTuple h1
    · exact .kTuple h1 h2
  | lst ds => obtain ⟨a, xs, rfl, h1, _⟩ := h.lst; exact .base (.lst h1)
  | rdl ds =>
    obtain ⟨a, xs, rfl, h1, _⟩ := h.rdl
    rcases h1 with (h1 | ⟨o, h1⟩) | ⟨o, its, n, h1, h2, _⟩
    · exact .base (.lst h1)
    · exact .base (.frz h1)
    · exact .kList h1 h2
def kindOk (T : String) (p : Nat → Bool) : Bool := (List.range 6).all fun k => kitB (kdN k) T == some (p k)
theorem kd_lt (d : D) : kd d < 6 := by cases d <;> (simp only [kd]; omega)
theorem sx_isi {X : Cx} {c : Cc} {a : Expr} {ma : EX} {pos p q : Pos} {x : Str} {T : String} (f : Nat → Bool) (hk : kindOk T f = true) (ha : SX X c a ma) (hg : Gl X "isinstance") (hm : X.mg "isinstance" = none)
    (hgT : Gl X x) (hmT : X.mg x = none) (hvT : bootBuiltins x = some (.type T)) (hnT : x ≠ "__name__" := by decide) (hdT : (x == ("__debug__" : Str)) = false := by decide)
    (he : starEach [a, .Name x q] X.env = (false, eval a X.env) :: starEach [.Name x q] X.env := by rfl) (he2 : starEach [.Name x q] X.env = (false, eval (.Name x q) X.env) :: starEach [] X.env := by rfl)
    (hpl : (backTo pos (starEach [.Name x q] X.env)).any (·.1) = false := by rfl) : SX X c (.Call (.Name "isinstance" p) [a, .Name x q] [] pos) (xUn (isiD f) ma) :=
  ⟨PE.imp (pe_callB call_isi hg hm (by decide +kernel) (pa_cons ha.pe (pa_cons (pe_bltn (v := .ty T) hgT hmT hvT rfl hnT hdT) pa_nil he2) he) (by decide) (by decide) he hpl) fun σ H Q ⟨ρ, vs, ps, S, p, e, k⟩ => by
    obtain ⟨y, ey, e⟩ := Res.bind_ok e
    cases e
    refine ⟨ρ, vs, ps, S, y, ey, fun v H' S' => ?_⟩
    have ty : TyX X.K H' v (.type (kdN (kd y.1))) := by
      obtain ⟨o, S'⟩ := S'
      exact S'.peek.ty
    refine ⟨v, .ty T, _, _, f (kd y.1), rfl, .ty T, ty, ?_, k _ H' (S'.pop.bl _)⟩
    refine kit_ty ?_
    have := List.all_eq_true.mp hk (kd y.1) (List.mem_range.mpr (kd_lt _))
    simpa using this⟩
end DV

namespace DV
open PySem PySem.Spec L2

/-! ### clean values -/
def clP : List Pd → Res (List D)
  | [] => .ok []
  | p :: ps => match p.2 with
    | none => (clP ps).bind fun ds => .ok (p.1 :: ds)
    | some _ => .err
abbrev cl (ds : List D) : List Pd := ds.map fun d => (d, none)
theorem clP_ok {K : PySem.W.Frag} {G : Hp} {ρ : Env} {own : Nat → Option Addr} : ∀ {us : List V} {qs : List Pd} {ds : List D}, Pends K G ρ own us qs → clP qs = .ok ds → Rps K G us ds
  | _, _, _, .nil, e => by cases e; exact .nil
  | _, _, _, @Pends.cons _ _ _ _ v p vs ps a b, e => by
    obtain ⟨d, k⟩ := p
    unfold clP at e
    cases k with
    | some i => cases e
    | none =>
      obtain ⟨es, e1, e⟩ := Res.bind_ok e
      cases e
      exact .cons a (clP_ok b e1)
section
variable {K : PySem.W.Frag} {c : Cc} {ρ : Env} {σ : L2.St} {H H' : Hp} {own : Nat → Option Addr} {vs us : List V} {ps : List Pd} {ds es : List D}
theorem cl_pend {ρ' : Env} {own' : Nat → Option Addr} {G : Hp} : ∀ {vs : List V} {ds : List D}, Pends K G ρ own vs (cl ds) → Pends K G ρ' own' vs (cl ds)
  | _, [], .nil => .nil
  | _, _ :: _, .cons a b => .cons a (cl_pend b)
theorem pend_cl {G : Hp} {ρ' : Env} {own' : Nat → Option Addr} : ∀ {vs : List V} {ds : List D}, Rps K G vs ds → Pends K G ρ' own' vs (cl ds)
  | _, _, .nil => .nil
  | _, _, .cons a b => .cons a (pend_cl b)
theorem cl_rps {G : Hp} : ∀ {vs : List V} {ds : List D}, Pends K G ρ own vs (cl ds) → Rps K G vs ds
  | _, [], .nil => .nil
  | _, _ :: _, .cons a b => .cons a (cl_rps b)
end

/-! ### displays -/
def xTup (m : EA) : EX := fun ρ => (m ρ).bind fun qs => (clP qs).bind fun ds => if ds.length ≤ lim then .ok (.tup ds, none) else .err
def xLst (m : EA) : EX := fun ρ => (m ρ).bind fun qs => (clP qs).bind fun ds => if ds.length ≤ lim then .ok (.lst ds, none) else .err
section
variable {X : Cx} {c : Cc} {es : List Expr} {ms : EA} {pos : Pos}
theorem sx_tup {x1} (h : SA X c es ms) : SX X c (.Tuple es x1 pos) (xTup ms) :=
  ⟨PE.imp (pe_tup h.pa) fun σ H Q ⟨ρ, vs, ps, S, p, e, k⟩ => by
    obtain ⟨qs, eq, e⟩ := Res.bind_ok e
    obtain ⟨ds, ed, e⟩ := Res.bind_ok e
    split at e
    · rename_i hl
      cases e
      refine ⟨ρ, vs, ps, S, qs, eq, fun us H1 hu S1 => ?_⟩
      obtain ⟨o, S1⟩ := S1
      obtain ⟨p1, p2⟩ := Pends.split hu S1.pend
      have S2 : StO X.K c ρ σ H1 o vs ps := { S1 with pend := p2 }
      have r := clP_ok p1 ed
      exact ⟨lim_le (by rw [r.length]; exact hl), fun l hl => k _ _ (S2.val (Ex.new hl) (rp_tup hl (S1.nomsk hl) r))⟩
    · cases e⟩
theorem sx_lst (h : SA X c es ms) : SX X c (.List es pos) (xLst ms) :=
  ⟨PE.imp (pe_lst h.pa) fun σ H Q ⟨ρ, vs, ps, S, p, e, k⟩ => by
    obtain ⟨qs, eq, e⟩ := Res.bind_ok e
    obtain ⟨ds, ed, e⟩ := Res.bind_ok e
    split at e
    · rename_i hl
      cases e
      refine ⟨ρ, vs, ps, S, qs, eq, fun us H1 hu S1 => ?_⟩
      obtain ⟨o, S1⟩ := S1
      obtain ⟨p1, p2⟩ := Pends.split hu S1.pend
      have S2 : StO X.K c ρ σ H1 o vs ps := { S1 with pend := p2 }
      have r := clP_ok p1 ed
      exact ⟨lim_le (by rw [r.length]; exact hl), fun l hl => k _ _ (S2.val (Ex.new hl) (rp_lst hl (S1.nomsk hl) r))⟩
    · cases e⟩
end

/-! ### what is new and owned -/
abbrev EN := Env → Res T
def tN (K : PySem.W.Frag) (c : Cc) (m : EN) : TE := fun σ H Q => ∃ ρ vs ds, StS K c ρ σ H vs (cl ds) ∧ ∃ t, m ρ = .ok t ∧ ∀ v H', StS K c (ρ ++ [t]) (σ ++ [some v]) H' vs (cl ds) → Q v H'
structure NX (X : Cx) (c : Cc) (e : Expr) (m : EN) : Prop where
  pe : PE X e (tN X.K c m)
def ownX (own : Nat → Option Addr) (n : Nat) (a : Option Addr) : Nat → Option Addr := fun i => if i < n then own i else if i = n then a else none
section
variable {K : PySem.W.Frag} {c : Cc} {ρ : Env} {σ : L2.St} {H H' : Hp} {own : Nat → Option Addr} {vs us : List V} {ps : List Pd} {ds es : List D}
theorem ownX_lt {n i : Nat} {a : Option Addr} (h : i < n) : ownX own n a i = own i := by unfold ownX; rw [if_pos h]
theorem ownX_eq {n : Nat} {a : Option Addr} : ownX own n a n = a := by unfold ownX; rw [if_neg (by omega), if_pos rfl]
theorem ownX_gt {n i : Nat} {a : Option Addr} (h : n < i) : ownX own n a i = none := by unfold ownX; rw [if_neg (by omega), if_neg (by omega)]
theorem get_app {α : Type} {l : List α} {x y : α} {i : Nat} (h : (l ++ [x])[i]? = some y) : (i < l.length ∧ l[i]? = some y) ∨ (i = l.length ∧ y = x) := by
  by_cases hi : i < l.length
  · rw [List.getElem?_append_left hi] at h
    exact .inl ⟨hi, h⟩
  · rw [List.getElem?_append_right (by omega)] at h
    cases e : i - l.length with
    | zero =>
      rw [e] at h
      have h : some x = some y := h
      cases h
      exact .inr ⟨by omega, rfl⟩
    | succ k =>
      rw [e] at h
      simp at h
/-- a new object p of its own goes to a new slot at the end -/
theorem StO.fresh (S : StO K c ρ σ H own vs (cl es)) {p : Addr} {xs : List V} (hp : H p = none) (r : Rps K (msk (Msk c own) H) xs ds) :
    StS K c (ρ ++ [.lst ds]) (σ ++ [some (.ref p)]) (upd H p (.lst xs)) vs (cl es) := by
  have nm : ¬ Msk c own p := S.nomsk hp
  have hM : ∀ a, Msk c (ownX own ρ.length (some p)) a → Msk c own a ∨ a = p := fun a m => by
    rcases m with m | ⟨i, m⟩
    · exact .inl (.inl m)
    · by_cases h1 : i < ρ.length
      · rw [ownX_lt h1] at m; exact .inl (.inr ⟨i, m⟩)
      · by_cases h2 : i = ρ.length
        · subst h2; rw [ownX_eq] at m; exact .inr (Option.some.inj m).symm
        · rw [ownX_gt (by omega)] at m; cases m
  have hM2 : ∀ a, Msk c own a → Msk c (ownX own ρ.length (some p)) a := fun a m => by
    rcases m with m | ⟨i, m⟩
    · exact .inl m
    · by_cases h1 : i < ρ.length
      · exact .inr ⟨i, by rw [ownX_lt h1]; exact m⟩
      · rw [S.out i (by omega)] at m; cases m
  have hp2 : Msk c (ownX own ρ.length (some p)) p := .inr ⟨ρ.length, ownX_eq⟩
  have eG : msk (Msk c (ownX own ρ.length (some p))) (upd H p (.lst xs)) = msk (Msk c own) H := by
    funext a
    by_cases ha : a = p
    · subst ha; rw [msk_in hp2, msk_out nm, hp]
    · by_cases m : Msk c own a
      · rw [msk_in m, msk_in (hM2 a m)]
      · rw [msk_out m, msk_out (fun z => (hM a z).elim m ha), upd_ne ha]
  refine ⟨ownX own ρ.length (some p), ?_, ?_, ?_, ?_, ?_, ?_, ?_, (S.ex.trans (Ex.new hp)), ?_⟩
  · rw [List.length_append, List.length_append, S.len]; rfl
  · intro i t ht
    rw [eG]
    rcases get_app ht with ⟨h1, h2⟩ | ⟨h1, h2⟩
    · have hs : ((σ ++ [some (V.ref p)])[i]?).join = (σ[i]?).join := by rw [List.getElem?_append_left (by rw [S.len]; exact h1)]
      rw [hs, ownX_lt h1]
      refine (S.slot i t h2).mono (Ex.refl _) fun a x e q => ?_
      rw [upd_ne]
      · exact q
      · intro z; rw [z, hp] at q; cases q
    · subst h1 h2
      refine ⟨p, xs, ownX_eq, ?_, upd_same, r⟩
      rw [← S.len]; simp
  · intro i hi
    rw [List.length_append, List.length_singleton] at hi
    exact ownX_gt (by omega)
  · intro i j a h1 h2
    have key : ∀ i, ownX own ρ.length (some p) i = some a → (i < ρ.length ∧ own i = some a ∧ a ≠ p) ∨ (i = ρ.length ∧ a = p) := fun i h => by
      by_cases q1 : i < ρ.length
      · rw [ownX_lt q1] at h
        exact .inl ⟨q1, h, fun z => S.trk h (by rw [z]; exact hp)⟩
      · by_cases q2 : i = ρ.length
        · subst q2; rw [ownX_eq] at h; exact .inr ⟨rfl, (Option.some.inj h).symm⟩
        · rw [ownX_gt (by omega)] at h; cases h
    rcases key i h1 with ⟨_, a1, a2⟩ | ⟨a1, a2⟩ <;> rcases key j h2 with ⟨_, b1, b2⟩ | ⟨b1, b2⟩
    · exact S.inj i j a a1 b1
    · exact absurd b2 a2
    · exact absurd a2 b2
    · rw [a1, b1]
  · intro i a h
    by_cases q1 : i < ρ.length
    · rw [ownX_lt q1] at h; exact S.new i a h
    · by_cases q2 : i = ρ.length
      · subst q2; rw [ownX_eq] at h; cases h; exact S.ex.free hp
      · rw [ownX_gt (by omega)] at h; cases h
  · intro a m
    rw [upd_ne]
    · exact S.frm a m
    · intro z; subst z; exact S.frm _ m hp
  · intro i a h m
    by_cases q1 : i < ρ.length
    · rw [ownX_lt q1] at h; exact S.dis i a h m
    · by_cases q2 : i = ρ.length
      · subst q2; rw [ownX_eq] at h; cases h; exact S.frm _ m hp
      · rw [ownX_gt (by omega)] at h; cases h
  · rw [eG]; exact cl_pend S.pend
theorem StO.freshVal (S : StO K c ρ σ H own vs (cl es)) {v : V} {d : D} (r : Rp K (msk (Msk c own) H) v d) :
    StS K c (ρ ++ [.val d]) (σ ++ [some v]) H vs (cl es) := by
  refine ⟨own, ?_, ?_, ?_, S.inj, S.new, S.frm, S.dis, S.ex, ?_⟩
  · rw [List.length_append, List.length_append, S.len]; rfl
  · intro i t ht
    rcases get_app ht with ⟨h1, h2⟩ | ⟨h1, h2⟩
    · have hs : ((σ ++ [some v])[i]?).join = (σ[i]?).join := by rw [List.getElem?_append_left (by rw [S.len]; exact h1)]
      rw [hs]
      exact S.slot i t h2
    · subst h1 h2
      refine ⟨S.out _ (Nat.le_refl _), v, ?_, r⟩
      rw [← S.len]; simp
  · intro i hi
    rw [List.length_append, List.length_singleton] at hi
    exact S.out i (by omega)
  · exact cl_pend S.pend
theorem msk_sub {M M' : Addr → Prop} (h : ∀ a, M' a → M a) : Ex (msk M H) (msk M' H) := msk_ex (Ex.refl H) fun a _ m => h a m
/-- owners are dropped, or turn about -/
theorem StO.owns {ρ' : Env} {σ' : L2.St} {own' : Nat → Option Addr} (S : StO K c ρ σ H own vs (cl es)) (hl : σ'.length = ρ'.length)
    (f : ∀ i t, ρ'[i]? = some t → ∃ j, own' i = own j ∧ ρ[j]? = some t ∧ (σ'[i]?).join = (σ[j]?).join) (hi : ∀ i j a, own' i = some a → own' j = some a → i = j) (ho : ∀ i, ρ'.length ≤ i → own' i = none) :
    StS K c ρ' σ' H vs (cl es) := by
  have sub : ∀ i a, own' i = some a → ∃ j, own j = some a := fun i a e => by
    by_cases hi : i < ρ'.length
    · obtain ⟨j, e1, _⟩ := f i _ (List.getElem?_eq_getElem hi)
      exact ⟨j, by rw [← e1]; exact e⟩
    · rw [ho i (by omega)] at e; cases e
  have hM : ∀ a, Msk c own' a → Msk c own a := fun a m => by
    rcases m with m | ⟨i, m⟩
    · exact .inl m
    · obtain ⟨j, e⟩ := sub i a m
      exact .inr ⟨j, e⟩
  refine ⟨own', hl, fun i t ht => ?_, ho, hi, fun i a e => ?_, S.frm, fun i a e => ?_, S.ex, ?_⟩
  · obtain ⟨j, e1, e2, e3⟩ := f i t ht
    rw [e1, e3]
    exact (S.slot j t e2).mono (msk_sub hM) fun _ _ _ q => q
  · obtain ⟨j, e⟩ := sub i a e
    exact S.new j a e
  · obtain ⟨j, e⟩ := sub i a e
    exact S.dis j a e
  · exact cl_pend (S.pend.mono (msk_sub hM))
theorem app_last {α : Type} {l : List α} {x : α} : (l ++ [x])[l.length]? = some x := by simp
/-- the last slot's value goes to slot i -/
theorem StS.move {t : T} {v : Option V} (S : StS K c (ρ ++ [t]) (σ ++ [v]) H vs (cl es)) (i : Nat) : StS K c (ρ.set i t) (σ.set i v) H vs (cl es) := by
  obtain ⟨own, S⟩ := S
  have hl : σ.length = ρ.length := by have := S.len; simpa using this
  refine S.owns (own' := fun j => if j < ρ.length then (if j = i then own ρ.length else own j) else none) (by rw [List.length_set, List.length_set, hl]) ?_ ?_ ?_
  · intro j u hj
    have hjl : j < ρ.length := by
      have := (List.getElem?_eq_some_iff.mp hj).1
      rwa [List.length_set] at this
    simp only [hjl, if_true]
    by_cases e : j = i
    · subst e
      rw [List.getElem?_set_self hjl] at hj
      cases hj
      refine ⟨ρ.length, by rw [if_pos rfl], app_last, ?_⟩
      rw [List.getElem?_set_self (by rw [hl]; exact hjl), ← hl, app_last]
    · rw [List.getElem?_set_ne (Ne.symm e)] at hj
      refine ⟨j, by rw [if_neg e], by rw [List.getElem?_append_left hjl]; exact hj, ?_⟩
      rw [List.getElem?_set_ne (Ne.symm e), List.getElem?_append_left (by rw [hl]; exact hjl)]
  · intro j k a h1 h2
    split at h1
    · split at h2
      · split at h1 <;> split at h2
        · omega
        · have := S.inj _ _ _ h1 h2; omega
        · have := S.inj _ _ _ h1 h2; omega
        · exact S.inj _ _ _ h1 h2
      · cases h2
    · cases h1
  · intro j hj
    rw [List.length_set] at hj
    simp only [show ¬ j < ρ.length by omega, if_false]
/-- a slot's value is forgotten -/
theorem StS.wipe1 (S : StS K c ρ σ H vs (cl es)) (i : Nat) (v : Option V) : StS K c (ρ.set i .no) (σ.set i v) H vs (cl es) := by
  obtain ⟨own, S⟩ := S
  refine ⟨fun j => if j = i then none else own j, ?_⟩
  have hM : ∀ a, Msk c (fun j => if j = i then none else own j) a → Msk c own a := fun a m => by
    rcases m with m | ⟨j, m⟩
    · exact .inl m
    · simp only at m; split at m
      · cases m
      · exact .inr ⟨j, m⟩
  have hk : ∀ j a, (if j = i then none else own j) = some a → j ≠ i ∧ own j = some a := fun j a e => by
    split at e
    · cases e
    · exact ⟨by assumption, e⟩
  refine ⟨by rw [List.length_set, List.length_set, S.len], fun j t ht => ?_, fun j hj => ?_, fun j k a h1 h2 => S.inj _ _ _ (hk j a h1).2 (hk k a h2).2, fun j a h => S.new j a (hk j a h).2, S.frm, fun j a h => S.dis j a (hk j a h).2, S.ex, cl_pend (S.pend.mono (msk_sub hM))⟩
  · by_cases e : j = i
    · subst e
      have hj : j < ρ.length := by
        have := (List.getElem?_eq_some_iff.mp ht).1
        rwa [List.length_set] at this
      rw [List.getElem?_set_self hj] at ht
      cases ht
      show (if j = j then none else own j) = none
      rw [if_pos rfl]
    · rw [List.getElem?_set_ne (Ne.symm e)] at ht ⊢
      rw [if_neg e]
      exact (S.slot j t ht).mono (msk_sub hM) fun _ _ _ q => q
  · rw [List.length_set] at hj
    show (if j = i then none else own j) = none
    split
    · rfl
    · exact S.out j hj
/-- a clean value is put into slot i -/
theorem StS.put {v : V} {d : D} (S : StS K c ρ σ H (v :: vs) (cl (d :: es))) (i : Nat) : StS K c (ρ.set i (.val d)) (σ.set i (some v)) H vs (cl es) := by
  obtain ⟨own, S⟩ := S
  have r : Rp K (msk (Msk c own) H) v d := S.top
  have S2 : StO K c ρ σ H own vs (cl es) := S.below
  exact (S2.freshVal r).move i
/-- what a return hands back -/
def RtOk (K : PySem.W.Frag) (c : Cc) (v : V) (H : Hp) (t : T) : Prop :=
  ∃ o, SlotOk K H (msk (fun a => c.F a ∨ o = some a) H) o (some v) t ∧ (∀ a, o = some a → c.H0 a = none ∧ ¬ c.F a) ∧ Ex c.H0 H
theorem StS.rt {t : T} {v : V} (S : StS K c (ρ ++ [t]) (σ ++ [some v]) H vs (cl es)) : RtOk K c v H t := by
  obtain ⟨own, S⟩ := S
  have hl : σ.length = ρ.length := by have := S.len; simpa using this
  have h := S.slot ρ.length t app_last
  rw [← hl, app_last, hl] at h
  refine ⟨own ρ.length, h.mono (msk_sub fun a m => ?_) fun _ _ _ q => q, fun a e => ⟨S.new _ _ e, S.dis _ _ e⟩, S.ex⟩
  rcases m with m | m
  · exact .inl m
  · exact .inr ⟨_, m⟩
end
def nLst (m : EA) : EN := fun ρ => (m ρ).bind fun qs => (clP qs).bind fun ds => if ds.length ≤ lim then .ok (.lst ds) else .err
def nOf (m : EX) : EN := fun ρ => (m ρ).bind fun x => match x.2 with | none => .ok (.val x.1) | some _ => .err
section
variable {X : Cx} {c : Cc} {e : Expr} {es : List Expr} {me : EX} {ms : EA} {pos : Pos}
theorem nx_lst (h : SA X c es ms) : NX X c (.List es pos) (nLst ms) :=
  ⟨PE.imp (pe_lst h.pa) fun σ H Q ⟨ρ, vs, es, S, t, e, k⟩ => by
    obtain ⟨qs, eq, e⟩ := Res.bind_ok e
    obtain ⟨ds, ed, e⟩ := Res.bind_ok e
    split at e
    · rename_i hl
      cases e
      refine ⟨ρ, vs, _, S, qs, eq, fun us H1 hu S1 => ?_⟩
      obtain ⟨o, S1⟩ := S1
      obtain ⟨p1, p2⟩ := Pends.split hu S1.pend
      have S2 : StO X.K c ρ σ H1 o vs (cl es) := { S1 with pend := p2 }
      have r := clP_ok p1 ed
      exact ⟨lim_le (by rw [r.length]; exact hl), fun l hl => k _ _ (S2.fresh hl r)⟩
    · cases e⟩
theorem nx_of (h : SX X c e me) : NX X c e (nOf me) :=
  ⟨PE.imp h.pe fun σ H Q ⟨ρ, vs, es, S, t, e, k⟩ => by
    obtain ⟨x, ex, e⟩ := Res.bind_ok e
    obtain ⟨d, kk⟩ := x
    cases kk with
    | some i => cases e
    | none =>
      cases e
      refine ⟨ρ, vs, _, S, _, ex, fun v H' S' => ?_⟩
      obtain ⟨o, S'⟩ := S'
      exact k v H' (S'.below.freshVal S'.top)⟩
end

/-! ### statements -/
inductive Out where
  | nx (ρ : Env) | rt (t : T) | bk (ρ : Env) | ct (ρ : Env) | exc (x : Xn) | err
abbrev SM := Env → Out
def Res.out {α : Type} : Res α → (α → Out) → Out
  | .ok a, f => f a
  | .exc x, _ => .exc x
  | .err, _ => .err
/-- what is wanted behind -/
def OutOk (K : PySem.W.Frag) (c : Cc) (D : Ends) (vs : List V) (es : List DV.D) : Out → Prop
  | .nx ρ => ∀ σ H, StS K c ρ σ H vs (cl es) → D.nx σ H
  | .rt t => ∀ v H, RtOk K c v H t → D.rt v H
  | .bk ρ => ∀ σ H, StS K c ρ σ H vs (cl es) → D.bk σ H
  | .ct ρ => ∀ σ H, StS K c ρ σ H vs (cl es) → D.ct σ H
  | .exc _ => False
  | .err => False
def tS (K : PySem.W.Frag) (c : Cc) (M : SM) : TS := fun D σ H => ∃ ρ vs es, StS K c ρ σ H vs (cl es) ∧ OutOk K c D vs es (M ρ)
structure SS (X : Cx) (c : Cc) (st : Stmt) (M : SM) : Prop where
  ps : PS X st (tS X.K c M)
structure SB (X : Cx) (c : Cc) (sts : List Stmt) (M : SM) : Prop where
  ps : PSs X sts (tS X.K c M)
def sNil : SM := fun ρ => .nx ρ
def sSeq (M N : SM) : SM := fun ρ => match M ρ with
  | .nx ρ' => N ρ'
  | .rt t => .rt t
  | .bk ρ' => .bk ρ'
  | .ct ρ' => .ct ρ'
  | .exc x => .exc x
  | .err => .err
def sSet (i : Nat) (m : EN) : SM := fun ρ => (m ρ).out fun t => .nx (ρ.set i t)
def sRet (m : EN) : SM := fun ρ => (m ρ).out fun t => .rt t
def sRetN : SM := fun _ => .rt (.val .non)
def sIf (t : EB) (M N : SM) : SM := fun ρ => (t ρ).out fun b => match b with | true => M ρ | false => N ρ
def sDrop (m : EX) : SM := fun ρ => (m ρ).out fun _ => .nx ρ
section
variable {X : Cx} {c : Cc} {st : Stmt} {sts : List Stmt} {M N : SM} {e : Expr} {me : EX} {mn : EN} {mt : EB} {pos : Pos}
theorem Res.out_ok {D : Ends} {vs : List V} {es : List DV.D} {α : Type} {r : Res α} {f : α → Out} {K : PySem.W.Frag} (h : OutOk K c D vs es (r.out f)) : ∃ a, r = .ok a ∧ OutOk K c D vs es (f a) := by
  cases r with
  | ok a => exact ⟨a, rfl, h⟩
  | exc x => exact h.elim
  | err => exact h.elim
theorem sb_nil : SB X c [] sNil := ⟨PSs.imp pss_nil fun D σ H ⟨ρ, vs, es, S, k⟩ => k σ H S⟩
theorem sb_cons (h : SS X c st M) (h2 : SB X c sts N) : SB X c (st :: sts) (sSeq M N) :=
  ⟨PSs.imp (pss_cons h.ps h2.ps) fun D σ H ⟨ρ, vs, es, S, k⟩ => by
    refine ⟨ρ, vs, es, S, ?_⟩
    unfold sSeq at k
    cases e : M ρ with
    | nx ρ' => rw [e] at k; exact fun σ' H' S' => ⟨ρ', vs, es, S', k⟩
    | rt t => rw [e] at k; exact k
    | bk ρ' => rw [e] at k; exact k
    | ct ρ' => rw [e] at k; exact k
    | exc x => rw [e] at k; exact k
    | err => rw [e] at k; exact k⟩
theorem sb_one (h : SS X c st M) : SB X c [st] M := ⟨PSs.imp (pss_one h.ps) fun D σ H h => h⟩
theorem ss_set (i : Nat) {x : Str} {pos' : Pos} (h : NX X c e mn) (hN : X.N.Nodup) (hi : X.N[i]? = some x := by rfl) (hx : Loc X.env.scope x := by first | exact .inl rfl | exact .inr rfl) (hs : swapsWith e (some (.Name x pos')) pos.line X.env = pure false := by rfl) (hf : X.fn x = true ∨ X.env.scope.names.lookup x = some .local := by first | exact .inl rfl | exact .inr rfl | assumption) :
    SS X c (.Assign [.Name x pos'] e pos) (sSet i mn) :=
  ⟨PS.imp (ps_set hN hi hx h.pe hs hf) fun D σ H ⟨ρ, vs, es, S, k⟩ => by
    obtain ⟨t, et, k⟩ := Res.out_ok k
    exact ⟨ρ, vs, es, S, t, et, fun v H' S' => k _ _ (S'.move i)⟩⟩
theorem ss_ret (h : NX X c e mn) : SS X c (.Return (some e) pos) (sRet mn) :=
  ⟨PS.imp (ps_ret h.pe) fun D σ H ⟨ρ, vs, es, S, k⟩ => by
    obtain ⟨t, et, k⟩ := Res.out_ok k
    exact ⟨ρ, vs, es, S, t, et, fun v H' S' => k _ _ S'.rt⟩⟩
theorem ss_retN : SS X c (.Return none pos) sRetN := ⟨PS.imp ps_retN fun D σ H ⟨ρ, vs, es, S, k⟩ => by
  obtain ⟨o, S⟩ := S
  exact k _ _ (S.freshVal Rp.non).rt⟩
theorem ss_if {a b : List Stmt} (hc : BX X c e mt) (ha : SB X c a M) (hb : SB X c b N) : SS X c (.If e a b pos) (sIf mt M N) :=
  ⟨PS.imp (ps_if hc.pt ha.ps hb.ps) fun D σ H ⟨ρ, vs, es, S, k⟩ => by
    obtain ⟨b, eb, k⟩ := Res.out_ok k
    refine ⟨ρ, vs, _, S, b, eb, fun H' S' => ?_⟩
    cases b with
    | true => exact iteT ⟨ρ, vs, es, S', k⟩
    | false => exact iteF ⟨ρ, vs, es, S', k⟩⟩
theorem ss_drop (h : SX X c e me) (hs : swapsWith e none pos.line X.env = pure false := by rfl) : SS X c (.Expr e pos) (sDrop me) :=
  ⟨PS.imp (ps_expr h.pe hs) fun D σ H ⟨ρ, vs, es, S, k⟩ => by
    obtain ⟨x, ex, k⟩ := Res.out_ok k
    exact ⟨ρ, vs, _, S, x, ex, fun v H' S' => k _ _ S'.pop⟩⟩
theorem ss_pass : SS X c (.Pass pos) sNil := ⟨PS.imp ps_pass fun D σ H ⟨ρ, vs, es, S, k⟩ => k σ H S⟩
theorem ss_break : SS X c (.Break pos) (fun ρ => .bk ρ) := ⟨PS.imp ps_break fun D σ H ⟨ρ, vs, es, S, k⟩ => k σ H S⟩
theorem ss_continue : SS X c (.Continue pos) (fun ρ => .ct ρ) := ⟨PS.imp ps_continue fun D σ H ⟨ρ, vs, es, S, k⟩ => k σ H S⟩
theorem ss_doc {x j pos'} : SS X c (.Expr (.Constant (.str x) j pos) pos') sNil := ⟨PS.imp ps_doc fun D σ H ⟨ρ, vs, es, S, k⟩ => k σ H S⟩
end
end DV

namespace DV
open PySem PySem.Spec L2

/-! ### what is walked -/
theorem PI.or {X : Cx} {tg l : Expr} {w1 w2 : TI} (h1 : PI X tg l w1) (h2 : PI X tg l w2) : PI X tg l (fun σ H R => w1 σ H R ∨ w2 σ H R) :=
  ⟨fun pins s σ H R I h => h.elim (h1.run pins s σ H R I) (h2.run pins s σ H R I)⟩
theorem PI.imp {X : Cx} {tg l : Expr} {w1 w2 : TI} (h1 : PI X tg l w1) (i : ∀ σ H R, w2 σ H R → w1 σ H R) : PI X tg l w2 :=
  ⟨fun pins s σ H R I h => h1.run pins s σ H R I (i σ H R h)⟩
/-- the iterator J gives the data ds while us, fs stand -/
def ItOk (K : PySem.W.Frag) (J : It) (us : List V) (fs : List D) (ds : List D) : Prop :=
  ∀ (c : Cc) (ρ : Env) (σ : L2.St) (H : Hp) (vs : List V) (ps : List Pd) (i : Nat), StS K c ρ σ H (us ++ vs) (cl fs ++ ps) →
    (∀ d, ds[i]? = some d → J.go i H ∧ ∀ x H', J.yld i H x H' → StS K c ρ σ H' (x :: (us ++ vs)) ((d, none) :: (cl fs ++ ps))) ∧ (ds.length ≤ i → J.stop i H)
abbrev EI := Env → Res (List D)
/-- the walk's making, told by data -/
def tI (K : PySem.W.Frag) (c : Cc) (m : EI) : TI := fun σ H R => ∃ ρ vs ps, StS K c ρ σ H vs ps ∧ ∃ ds, m ρ = .ok ds ∧
  ∀ J us fs H', us.length = fs.length → StS K c ρ σ H' (us ++ vs) (cl fs ++ ps) → ItOk K J us fs ds → R J H'
structure SI (X : Cx) (c : Cc) (tg e : Expr) (m : EI) : Prop where
  pi : PI X tg e (tI X.K c m)
/-- the items of a sequence -/
def seqD : D → Res (List D)
  | .lst ds | .tup ds | .rdl ds => .ok ds
  | .str l => .ok (l.map fun c => .str [c])
  | _ => .err
def iSeq (m : EX) : EI := fun ρ => (m ρ).bind fun x => match x.2 with | none => seqD x.1 | some _ => .err
section
variable {K : PySem.W.Frag} {c : Cc} {ρ : Env} {σ : L2.St} {H H' : Hp} {own : Nat → Option Addr} {vs us : List V} {ps : List Pd} {ds es : List D}
theorem ev_top {v : V} {d : D} (S : StS K c ρ σ H (v :: vs) ((d, none) :: ps)) : ∃ M : Addr → Prop, Rp K (msk M H) v d := by
  obtain ⟨o, S⟩ := S
  exact ⟨_, S.top⟩
theorem rp_lstL {G : Hp} {a : Addr} (h : Rp K G (.ref a) (.lst ds)) : ∃ xs, SqL K G a xs ∧ Rps K G xs ds := by
  cases h with
  | lst h1 h2 => exact ⟨_, SqL.of h1, h2⟩
theorem pend_push {v : V} {d : D} (S : StO K c ρ σ H own vs (cl es)) (r : Rp K (msk (Msk c own) H) v d) : StS K c ρ σ H (v :: vs) (cl (d :: es)) := StS.push S r
/-- two readings of one list, one tuple are one, item by item -/
theorem itl_ok {a : Addr} {d0 : D} (hd : seqD d0 = .ok ds) (hs : ∀ G : Hp, Rp K G (.ref a) d0 → ∃ xs, SqL K G a xs ∧ Rps K G xs ds) : ItOk K (Itl K a) [.ref a] [d0] ds := by
  intro c ρ σ H vs ps i S
  obtain ⟨o, S⟩ := S
  obtain ⟨xs, h1, h2⟩ := hs _ (S.top (p := (d0, none)) (v := V.ref a))
  have h1' := SqL.ex ex_msk h1
  refine ⟨fun d hd => ?_, fun hi => ⟨xs, h1', by rw [h2.length]; exact hi⟩⟩
  obtain ⟨v, e1, r⟩ := h2.get hd
  refine ⟨⟨xs, v, h1', e1⟩, fun x H' y => ?_⟩
  obtain ⟨rfl, f⟩ := y
  have e2 := f xs h1'
  rw [e1] at e2; cases e2
  exact StS.push S r
theorem itt_ok {a : Addr} : ItOk K (Itt K a) [.ref a] [.tup ds] ds := by
  intro c ρ σ H vs ps i S
  obtain ⟨o, S⟩ := S
  have h0 : Rp K (msk (Msk c o) H) (.ref a) (.tup ds) := S.top (p := (.tup ds, none)) (v := V.ref a)
  obtain ⟨xs, h1, h2⟩ : ∃ xs, SqT K (msk (Msk c o) H) a xs ∧ Rps K (msk (Msk c o) H) xs ds := by
    cases h0 with
    | tup h1 h2 => exact ⟨_, h1, h2⟩
  have h1' := SqT.ex ex_msk h1
  refine ⟨fun d hd => ?_, fun hi => ⟨xs, h1', by rw [h2.length]; exact hi⟩⟩
  obtain ⟨v, e1, r⟩ := h2.get hd
  refine ⟨⟨xs, v, h1', e1⟩, fun x H' y => ?_⟩
  obtain ⟨rfl, f⟩ := y
  have e2 := f xs h1'
  rw [e1] at e2; cases e2
  exact StS.push S r
theorem its_ok {x : Str} {l : List Nat} (h : x.cps.toList = l) : ItOk K (Its x) [] [] (l.map fun c => .str [c]) := by
  intro c ρ σ H vs ps i S
  have hsz : x.cps.size = l.length := by rw [← h]; simp
  refine ⟨fun d hd => ?_, fun hi => by show x.cps.size ≤ i; rw [hsz]; simpa using hi⟩
  rw [List.getElem?_map] at hd
  cases hc : l[i]? with
  | none => rw [hc] at hd; cases hd
  | some k =>
    rw [hc] at hd
    cases hd
    have hi := (List.getElem?_eq_some_iff.mp hc).1
    refine ⟨by show i < x.cps.size; omega, fun v H' y => ?_⟩
    obtain ⟨rfl, k', e1, rfl⟩ := y
    have e2 : k' = k := by
      rw [← Array.getElem?_toList, h, hc] at e1
      exact (Option.some.inj e1).symm
    subst e2
    obtain ⟨o, S⟩ := S
    exact StS.push S (rp_str rfl)
theorem itr_ok {lo : Int} {n : Nat} : ItOk K (Itr lo n) [] [] ((List.range n).map fun i => .int (lo + (i : Nat))) := by
  intro c ρ σ H vs ps i S
  refine ⟨fun d hd => ?_, fun hi => by show n ≤ i; simpa using hi⟩
  rw [List.getElem?_map] at hd
  by_cases hi : i < n
  · rw [List.getElem?_range hi] at hd
    cases hd
    refine ⟨hi, fun x H' y => ?_⟩
    obtain ⟨rfl, rfl⟩ := y
    obtain ⟨o, S⟩ := S
    exact StS.push S (Rp.int _)
  · rw [List.getElem?_eq_none (by simpa using hi)] at hd; cases hd
end
section
variable {X : Cx} {c : Cc} {tg e : Expr} {me : EX}
theorem si_seq (h : SX X c e me) : SI X c tg e (iSeq me) :=
  ⟨PI.imp (PI.or (pi_list h.pe) (PI.or (pi_tup h.pe) (pi_str h.pe))) fun σ H R ⟨ρ, vs, ps, S, ds, e, k⟩ => by
    obtain ⟨x, ex, e⟩ := Res.bind_ok e
    obtain ⟨d, kk⟩ := x
    cases kk with
    | some i => cases e
    | none =>
      have e : seqD d = .ok ds := e
      unfold seqD at e
      split at e
      · cases e
        refine .inl ⟨ρ, vs, _, S, _, ex, fun v H' S' => ?_⟩
        obtain ⟨M, r⟩ := ev_top (d := .lst ds) (ps := ps) S'
        cases r with
        | lst h1 h2 =>
          exact ⟨_, rfl, ⟨_, SqL.of (msk_some h1).2⟩, k _ [.ref _] [.lst ds] H' rfl S' (itl_ok rfl fun G => rp_lstL)⟩
      · cases e
        refine .inr (.inl ⟨ρ, vs, _, S, _, ex, fun v H' S' => ?_⟩)
        obtain ⟨M, r⟩ := ev_top (d := .tup ds) (ps := ps) S'
        cases r with
        | tup h1 h2 =>
          exact ⟨_, rfl, ⟨_, SqT.ex ex_msk h1⟩, k _ [.ref _] [.tup ds] H' rfl S' itt_ok⟩
      · cases e
        refine .inl ⟨ρ, vs, _, S, _, ex, fun v H' S' => ?_⟩
        obtain ⟨M, r⟩ := ev_top (d := .rdl ds) (ps := ps) S'
        cases r with
        | rdl h1 h2 =>
          exact ⟨_, rfl, ⟨_, SqL.ex ex_msk h1⟩, k _ [.ref _] [.rdl ds] H' rfl S' (itl_ok rfl fun G r => by
            cases r with
            | rdl h1 h2 => exact ⟨_, h1, h2⟩)⟩
      · cases e
        refine .inr (.inr ⟨ρ, vs, _, S, _, ex, fun v H' S' => ?_⟩)
        obtain ⟨o, S'⟩ := S'
        obtain ⟨z, rfl, ez⟩ := S'.peek.str
        exact ⟨z, rfl, k _ [] [] H' rfl ⟨o, S'.below⟩ (its_ok ez)⟩
      · cases e⟩
def rngD (lo hi : Int) : Res (List D) := if -(2 ^ 62) ≤ lo ∧ lo < 2 ^ 62 ∧ -(2 ^ 62) ≤ hi ∧ hi < 2 ^ 62 then .ok ((List.range (hi - lo).toNat).map fun i => .int (lo + (i : Nat))) else .err
def iRng1 (m : EX) : EI := fun ρ => (m ρ).bind fun x => (asInt x.1).bind fun n => rngD 0 n
def iRng2 (m n : EX) : EI := fun ρ => (m ρ).bind fun x => (asInt x.1).bind fun a => (n ρ).bind fun y => (asInt y.1).bind fun b => rngD a b
theorem peekI {K : PySem.W.Frag} {ρ : Env} {σ : L2.St} {H : Hp} {v : V} {vs : List V} {p : Pd} {ps : List Pd} {i : Int} (S : StS K c ρ σ H (v :: vs) (p :: ps)) (e : asInt p.1 = .ok i) : v = .int i := by
  obtain ⟨o, S⟩ := S
  have h := S.peek
  rw [asInt_ok e] at h
  exact h.int
theorem si_rng1 {a : Expr} {ma : EX} {p pos : Pos} (ha : SX X c a ma) (hm : X.mg "range" = none) (hg : Gl X "range" := by rfl) (hs : starEach [a] X.env = [(false, eval a X.env)] := by rfl) : SI X c tg (.Call (.Name "range" p) [a] [] pos) (iRng1 ma) :=
  ⟨PI.imp (pi_range1 hg hm (pa_cons ha.pe pa_nil hs) hs) fun σ H R ⟨ρ, vs, ps, S, ds, e, k⟩ => by
    obtain ⟨x, ex, e⟩ := Res.bind_ok e
    obtain ⟨n, en, e⟩ := Res.bind_ok e
    unfold rngD at e
    split at e
    · rename_i hb
      cases e
      refine ⟨ρ, vs, _, S, x, ex, fun v H' S' => ⟨n, by rw [peekI S' en], hb.2.2.1, hb.2.2.2, ?_⟩⟩
      have := k (Itr 0 n.toNat) [] [] H' rfl S'.pop (by rw [show (n - 0).toNat = n.toNat by omega]; exact itr_ok)
      exact this
    · cases e⟩
theorem si_rng2 {a b : Expr} {ma mb : EX} {p pos : Pos} (ha : SX X c a ma) (hb : SX X c b mb) (hm : X.mg "range" = none) (hg : Gl X "range" := by rfl) (hs : starEach [a, b] X.env = [(false, eval a X.env), (false, eval b X.env)] := by rfl) (hs2 : starEach [b] X.env = [(false, eval b X.env)] := by rfl)
    (hpl : (backTo pos (starEach [b] X.env)).any (·.1) = false := by rfl) : SI X c tg (.Call (.Name "range" p) [a, b] [] pos) (iRng2 ma mb) :=
  ⟨PI.imp (pi_range2 hg hm (pa_cons ha.pe (pa_cons hb.pe pa_nil hs2) (by rw [hs, hs2])) hs hs2) fun σ H R ⟨ρ, vs, ps, S, ds, e, k⟩ => by
    obtain ⟨x, ex, e⟩ := Res.bind_ok e
    obtain ⟨n, en, e⟩ := Res.bind_ok e
    obtain ⟨y, ey, e⟩ := Res.bind_ok e
    obtain ⟨m, em, e⟩ := Res.bind_ok e
    unfold rngD at e
    split at e
    · rename_i hb
      cases e
      refine ⟨ρ, vs, _, S, x, ex, fun v H' S' => ⟨ρ, _, _, S', y, ey, fun w H2 S2 => ⟨n, m, ?_, hb, ?_⟩⟩⟩
      · rw [peekI S' en, peekI S2 em]
      · exact k (Itr n (m - n).toNat) [] [] H2 rfl S2.pop.pop itr_ok
    · cases e⟩
end

/-! ### targets -/
abbrev EG := D → Env → Option Env
def GOk (K : PySem.W.Frag) (g : TG) (m : EG) : Prop :=
  ∀ (c : Cc) (v : V) (d : D) (ρ ρ' : Env) (σ : L2.St) (H : Hp) (vs : List V) (es : List D), StS K c ρ σ H (v :: vs) (cl (d :: es)) → m d ρ = some ρ' → ∀ Q : L2.St → Hp → Prop, (∀ σ' H', StS K c ρ' σ' H' vs (cl es) → Q σ' H') → g v σ H Q
structure SG (X : Cx) (tg : Expr) (m : EG) : Prop where
  pg : ∃ g, PG X tg g ∧ GOk X.K g m
def gPut (i : Nat) : EG := fun d ρ => some (ρ.set i (.val d))
theorem g_put {K : PySem.W.Frag} {i : Nat} : GOk K (gName i) (gPut i) := fun c v d ρ ρ' σ H vs es S e Q q => by
  cases e
  exact q _ _ (S.put i)
theorem sg_name {X : Cx} (i : Nat) {x : Str} {pos : Pos} (hN : X.N.Nodup) (hi : X.N[i]? = some x := by rfl) (hx : Loc X.env.scope x := by first | exact .inl rfl | exact .inr rfl) (hf : X.fn x = true ∨ X.env.scope.names.lookup x = some .local := by first | exact .inl rfl | exact .inr rfl | assumption) : SG X (.Name x pos) (gPut i) :=
  ⟨gName i, pg_name hN hi hx hf, g_put⟩
/-- several targets, one after another -/
abbrev EGs := List D → Env → Option Env
def GsOk (K : PySem.W.Frag) (g : TGs) (m : EGs) : Prop :=
  ∀ (c : Cc) (us : List V) (ds : List D) (ρ ρ' : Env) (σ : L2.St) (H : Hp) (vs : List V) (es : List D), us.length = ds.length → StS K c ρ σ H (us ++ vs) (cl (ds ++ es)) → m ds ρ = some ρ' → ∀ Q : L2.St → Hp → Prop, (∀ σ' H', StS K c ρ' σ' H' vs (cl es) → Q σ' H') → g us σ H Q
structure SGs (X : Cx) (tgs : List Expr) (m : EGs) : Prop where
  pg : ∃ g, PGs X tgs g ∧ GsOk X.K g m
def gNil' : EGs := fun ds ρ => match ds with | [] => some ρ | _ => none
def gCons' (m : EG) (ms : EGs) : EGs := fun ds ρ => match ds with | [] => none | d :: ds => match m d ρ with | some ρ' => ms ds ρ' | none => none
theorem sgs_nil {X : Cx} : SGs X [] gNil' := ⟨gNil, pgs_nil, fun c us ds ρ ρ' σ H vs es hl S e Q q => by
  cases ds with
  | cons _ _ => cases e
  | nil =>
    cases e
    cases us with
    | cons _ _ => cases hl
    | nil => exact ⟨rfl, q _ _ S⟩⟩
theorem sgs_cons {X : Cx} {e : Expr} {es : List Expr} {m : EG} {ms : EGs} (h : SG X e m) (h2 : SGs X es ms) (hs : (assignEach (e :: es) X.env).map (·.2) = assign e X.env :: (assignEach es X.env).map (·.2) := by rfl) : SGs X (e :: es) (gCons' m ms) := by
  obtain ⟨g, pg, ok⟩ := h.pg
  obtain ⟨g2, pg2, ok2⟩ := h2.pg
  refine ⟨gCons g g2, pgs_cons pg pg2 hs, fun c us ds ρ ρ' σ H vs es hl S e Q q => ?_⟩
  cases ds with
  | nil => cases e
  | cons d ds =>
    cases us with
    | nil => cases hl
    | cons u us =>
      unfold gCons' at e
      cases e1 : m d ρ with
      | none => simp only [e1] at e; cases e
      | some ρ1 =>
        simp only [e1] at e
        refine ⟨u, us, rfl, ok c u d ρ ρ1 σ H (us ++ vs) (ds ++ es) S e1 _ fun σ' H' S' => ?_⟩
        exact ok2 c us ds ρ1 ρ' σ' H' vs es (Nat.succ.inj hl) S' e Q q
def gTup' (n : Nat) (ms : EGs) : EG := fun d ρ => match d with | .tup ds => if ds.length = n then ms ds ρ else none | _ => none
theorem sg_tup {X : Cx} {es : List Expr} {k : Nat} {pos : Pos} {ms : EGs} {n : Nat} (hc : X.calm = true) (h : SGs X es ms) (hn : (assignEach es X.env).length = n := by rfl) (hst : (assignEach es X.env).findIdx? (·.1) = none := by rfl) : SG X (.Tuple es k pos) (gTup' n ms) := by
  obtain ⟨g, pg, ok⟩ := h.pg
  refine ⟨gTup X.K n g, pg_tup hc pg hn hst, fun c v d ρ ρ' σ H vs es S e Q q => ?_⟩
  unfold gTup' at e
  split at e
  · split at e
    · rename_i ds hl
      obtain ⟨o, S⟩ := S
      have r : Rp X.K (msk (Msk c o) H) v (.tup ds) := S.top (p := (.tup ds, none))
      cases r with
      | @tup a xs _ h1 h2 =>
        refine ⟨a, xs, rfl, SqT.ex ex_msk h1, by rw [h2.length]; exact hl, ok c xs ds ρ ρ' σ H vs es h2.length ?_ e Q q⟩
        refine ⟨o, { S.below with pend := ?_ }⟩
        rw [show cl (ds ++ es) = cl ds ++ cl es from List.map_append]
        exact (pend_cl h2).append S.below.pend
    · cases e
  · cases e

/-! ### loops -/
def forL (g : EG) (B : SM) : List D → Env → Out
  | [], ρ => .nx ρ
  | d :: ds, ρ => match g d ρ with
    | none => .err
    | some ρ1 => match B ρ1 with
      | .nx ρ2 => forL g B ds ρ2
      | .ct ρ2 => forL g B ds ρ2
      | .bk ρ2 => .nx ρ2
      | .rt t => .rt t
      | .exc x => .exc x
      | .err => .err
def sFor (m : EI) (g : EG) (B : SM) : SM := fun ρ => (m ρ).out fun ds => forL g B ds ρ
def whileL (t : EB) (B : SM) : Nat → Env → Out
  | 0, _ => .err
  | n + 1, ρ => (t ρ).out fun b => match b with
    | false => .nx ρ
    | true => match B ρ with
      | .nx ρ2 => whileL t B n ρ2
      | .ct ρ2 => whileL t B n ρ2
      | .bk ρ2 => .nx ρ2
      | .rt t => .rt t
      | .exc x => .exc x
      | .err => .err
def sWhile (n : Nat) (t : EB) (B : SM) : SM := whileL t B n
section
variable {X : Cx} {c : Cc} {M : SM} {pos : Pos}
theorem StS.popN {K : PySem.W.Frag} {ρ : Env} {σ : L2.St} {H : Hp} {vs : List V} {ps : List Pd} : ∀ {us : List V} {qs : List Pd}, us.length = qs.length → StS K c ρ σ H (us ++ vs) (qs ++ ps) → StS K c ρ σ H vs ps
  | [], [], _, S => S
  | _ :: _, _ :: _, e, S => StS.popN (Nat.succ.inj e) (StS.pop S)
  | [], _ :: _, e, _ => by cases e
  | _ :: _, [], e, _ => by cases e
theorem ss_for {tg it : Expr} {body : List Stmt} {m : EI} {g : EG} (hi : SI X c tg it m) (hg : SG X tg g) (hb : SB X c body M) (hp : PassesOwn (model X.prog X.w) X.A X.env X.xe) (hc : X.calm = true := by rfl)
    (hs : ∀ x, foldedSetIterable it X.env x = pure x := by intro _; rfl) : SS X c (.For tg it body [] pos) (sFor m g M) := by
  obtain ⟨gt, pg, ok⟩ := hg.pg
  refine ⟨PS.imp (ps_for hp hc hi.pi pg hb.ps hs) fun D σ H ⟨ρ, vs, es, S, k⟩ => ?_⟩
  obtain ⟨ds, ed, k⟩ := Res.out_ok k
  refine ⟨ρ, vs, cl es, S, ds, ed, fun J us fs H1 hl S1 itok => ?_⟩
  rw [← List.map_append] at S1
  refine ⟨fun i m σ' H' => m = ds.length - i ∧ i ≤ ds.length ∧ ∃ ρ', StS X.K c ρ' σ' H' (us ++ vs) (cl (fs ++ es)) ∧ forL g M (ds.drop i) ρ' = forL g M ds ρ, ⟨_, rfl, Nat.zero_le _, ρ, S1, rfl⟩, ?_⟩
  rintro i m σ' H' ⟨rfl, hi, ρ', S', e⟩
  obtain ⟨hgo, hstop⟩ := itok c ρ' σ' H' vs (cl es) i (by rw [← List.map_append]; exact S')
  by_cases hlt : i < ds.length
  · refine .inr ⟨(hgo _ (List.getElem?_eq_getElem hlt)).1, fun σ2 H2 => ∃ ρ2, StS X.K c ρ2 σ2 H2 (us ++ vs) (cl (fs ++ es)) ∧ forL g M (ds.drop (i + 1)) ρ2 = forL g M ds ρ, fun σ2 H2 ⟨ρ2, S2, e2⟩ => ⟨_, by omega, rfl, hlt, ρ2, S2, e2⟩, fun x H2 y => ?_⟩
    have S2 : StS X.K c ρ' σ' H2 (x :: (us ++ vs)) (cl (ds[i] :: (fs ++ es))) := by
      have := (hgo _ (List.getElem?_eq_getElem hlt)).2 x H2 y
      rw [← List.map_append] at this
      exact this
    rw [List.drop_eq_getElem_cons hlt, forL] at e
    cases e1 : g ds[i] ρ' with
    | none => rw [e1] at e; rw [← e] at k; exact k.elim
    | some ρ1 =>
      simp only [e1] at e
      refine ok c x ds[i] ρ' ρ1 σ' H2 (us ++ vs) (fs ++ es) S2 e1 _ fun σ3 H3 S3 => ⟨ρ1, us ++ vs, fs ++ es, S3, ?_⟩
      cases e2 : M ρ1 with
      | nx ρ2 => simp only [e2] at e; exact fun σ4 H4 S4 => ⟨ρ2, S4, e⟩
      | ct ρ2 => simp only [e2] at e; exact fun σ4 H4 S4 => ⟨ρ2, S4, e⟩
      | bk ρ2 =>
        simp only [e2] at e; rw [← e] at k
        refine fun σ4 H4 S4 => k σ4 H4 (StS.popN (qs := cl fs) (by rw [hl]; simp) ?_)
        rw [← List.map_append]; exact S4
      | rt t => simp only [e2] at e; rw [← e] at k; exact k
      | exc x => simp only [e2] at e; rw [← e] at k; exact k.elim
      | err => simp only [e2] at e; rw [← e] at k; exact k.elim
  · have hi2 : i = ds.length := by omega
    subst hi2
    rw [List.drop_length, forL] at e
    rw [← e] at k
    refine .inl ⟨hstop (Nat.le_refl _), k σ' H' (StS.popN (qs := cl fs) (by rw [hl]; simp) ?_)⟩
    rw [← List.map_append]; exact S'
theorem ss_while (n : Nat) {t : Expr} {body : List Stmt} {mt : EB} (ht : BX X c t mt) (hb : SB X c body M) (hp : PassesOwn (model X.prog X.w) X.A X.env X.xe) : SS X c (.While t body [] pos) (sWhile n mt M) :=
  ⟨PS.imp (ps_while hp ht.pt hb.ps) fun D σ H ⟨ρ, vs, es, S, k⟩ => by
    refine ⟨fun m σ' H' => ∃ ρ', StS X.K c ρ' σ' H' vs (cl es) ∧ whileL mt M m ρ' = whileL mt M n ρ, ⟨n, ρ, S, rfl⟩, ?_⟩
    rintro m σ' H' ⟨ρ', S', e⟩
    have k' : OutOk X.K c D vs es (whileL mt M m ρ') := by rw [e]; exact k
    cases m with
    | zero => exact k'.elim
    | succ m =>
      rw [whileL] at e k'
      obtain ⟨b, eb, k'⟩ := Res.out_ok k'
      rw [eb] at e
      refine ⟨ρ', vs, _, S', b, eb, fun H2 S2 => ?_⟩
      cases b with
      | false => exact iteF (k' σ' H2 S2)
      | true =>
        refine iteT ⟨fun σ3 H3 => ∃ ρ3, StS X.K c ρ3 σ3 H3 vs (cl es) ∧ whileL mt M m ρ3 = whileL mt M n ρ, fun σ3 H3 h3 => ⟨m, Nat.lt_succ_self _, h3⟩, ρ', vs, es, S2, ?_⟩
        cases e2 : M ρ' with
        | nx ρ2 => simp only [e2] at e k'; exact fun σ4 H4 S4 => ⟨ρ2, S4, e⟩
        | ct ρ2 => simp only [e2] at e k'; exact fun σ4 H4 S4 => ⟨ρ2, S4, e⟩
        | bk ρ2 => simp only [e2] at k'; exact fun σ4 H4 S4 => k' σ4 H4 S4
        | rt t => simp only [e2] at k'; exact k'
        | exc x => simp only [e2] at k'; exact k'.elim
        | err => simp only [e2] at k'; exact k'.elim⟩
end
end DV

namespace DV
open PySem PySem.Spec L2

/-! ### comprehensions -/
def lcL (g : EG) (t : EB) (m : EX) : List D → Env → Res (List D)
  | [], _ => .ok []
  | d :: ds, ρ => match g d ρ with
    | none => .err
    | some ρ1 => (t ρ1).bind fun b => match b with
      | true => (xCl m ρ1).bind fun e => (lcL g t m ds ρ).bind fun es => .ok (e :: es)
      | false => lcL g t m ds ρ
def wipeN (ρ : Env) : List Nat → Env
  | [] => ρ
  | v :: vs => (wipeN ρ vs).set v .no
def wipeE (ρ : Env) : List Nat → Res Env
  | [] => .ok ρ
  | v :: vs => (wipeE ρ vs).bind fun ρ' => match ρ'[v]? with
    | some (.lst _) => .err
    | _ => .ok (ρ'.set v .no)
def lcD (mi : EI) (g : EG) (t : EB) (m : EX) (ws : List Nat) : EI := fun ρ => (mi ρ).bind fun ds => (wipeE ρ ws).bind fun ρ' => (lcL g t m ds ρ').bind fun es => if es.length ≤ lim then .ok es else .err
def xLc (mi : EI) (g : EG) (t : EB) (m : EX) (ws : List Nat) : EX := fun ρ => (lcD mi g t m ws ρ).bind fun es => .ok (.lst es, none)
def nLc (mi : EI) (g : EG) (t : EB) (m : EX) (ws : List Nat) : EN := fun ρ => (lcD mi g t m ws ρ).bind fun es => .ok (.lst es)
section
variable {K : PySem.W.Frag} {c : Cc} {ρ ρ' : Env} {σ : L2.St} {H H' : Hp} {own own' : Nat → Option Addr} {vs us : List V} {ps : List Pd} {ds es : List D}
/-- what the wiping keeps -/
theorem wipe_of : ∀ {ws : List Nat} {ρ' : Env}, wipeE ρ ws = .ok ρ' → σ.length = ρ.length →
    (∀ (i : Nat) (ds : List D), ρ[i]? = some (T.lst ds) → ρ'[i]? = some (T.lst ds) ∧ (wipe σ ws)[i]? = σ[i]?) ∧
    (∀ (i : Nat) (t : T), ρ'[i]? = some t → t = T.no ∨ (ρ[i]? = some t ∧ (wipe σ ws)[i]? = σ[i]?)) ∧ ρ'.length = ρ.length
  | [], _, e, hl => by cases e; exact ⟨fun i ds h => ⟨h, rfl⟩, fun i t h => .inr ⟨h, rfl⟩, rfl⟩
  | v :: ws, ρ', e, hl => by
    obtain ⟨ρ1, e1, e⟩ := Res.bind_ok e
    obtain ⟨h1, h2, h3⟩ := wipe_of e1 hl
    have ne : ∀ ds, ρ1[v]? ≠ some (.lst ds) := fun ds z => by
      simp only [z] at e; cases e
    have e : ρ' = ρ1.set v .no := by
      split at e
      · cases e
      · cases e; rfl
    subst e
    refine ⟨fun i ds h => ?_, fun i t h => ?_, by rw [List.length_set, h3]⟩
    · obtain ⟨a, b⟩ := h1 i ds h
      have hv : v ≠ i := fun z => ne ds (by rw [z]; exact a)
      exact ⟨by rw [List.getElem?_set_ne hv]; exact a, by show ((wipe σ ws).set v none)[i]? = _; rw [List.getElem?_set_ne hv]; exact b⟩
    · by_cases hv : v = i
      · subst hv
        have hj : v < ρ1.length := by
          have := (List.getElem?_eq_some_iff.mp h).1
          rwa [List.length_set] at this
        rw [List.getElem?_set_self hj] at h
        cases h; exact .inl rfl
      · rw [List.getElem?_set_ne hv] at h
        rcases h2 i t h with h | ⟨a, b⟩
        · exact .inl h
        · exact .inr ⟨a, by show ((wipe σ ws).set v none)[i]? = _; rw [List.getElem?_set_ne hv]; exact b⟩
/-- who owns what is told by the slots -/
theorem StO.own_of (S : StO K c ρ σ H own vs ps) {i : Nat} {ds : List D} (h : ρ[i]? = some (.lst ds)) : ∃ a, own i = some a ∧ (σ[i]?).join = some (.ref a) := by
  obtain ⟨a, xs, h1, h2, _⟩ := S.slot i _ h
  exact ⟨a, h1, h2⟩
theorem StO.own_some (S : StO K c ρ σ H own vs ps) {i : Nat} {a : Addr} (h : own i = some a) : ∃ ds, ρ[i]? = some (.lst ds) ∧ (σ[i]?).join = some (.ref a) := by
  by_cases hi : i < ρ.length
  · have q := S.slot i _ (List.getElem?_eq_getElem hi)
    rw [List.getElem?_eq_getElem hi]
    cases e : ρ[i] with
    | no => rw [e] at q; have q : own i = none := q; rw [h] at q; cases q
    | val d => rw [e] at q; have q := q.1; rw [h] at q; cases q
    | lst ds =>
      rw [e] at q
      obtain ⟨b, xs, h1, h2, _⟩ := q
      rw [h] at h1; cases h1
      exact ⟨ds, rfl, h2⟩
  · rw [S.out i (by omega)] at h; cases h
/-- within a block what the def owns is not seen as the entry's -/
noncomputable def blkC (c : Cc) (own : Nat → Option Addr) (H : Hp) : Cc := ⟨msk (fun a => ∃ i, own i = some a) H, c.F⟩
theorem StO.block {ws : List Nat} (S : StO K c ρ σ H own vs (cl ds)) (hw : wipeE ρ ws = .ok ρ') : StS K (blkC c own H) ρ' (wipe σ ws) H vs (cl ds) := by
  obtain ⟨h1, h2, h3⟩ := wipe_of (σ := σ) hw S.len
  refine ⟨own, by rw [wipe_length, h3, S.len], fun i t ht => ?_, fun i hi => S.out i (by omega), S.inj, fun i a e => (show msk (fun a => ∃ i, own i = some a) H a = none from msk_in ⟨i, e⟩), S.frm, S.dis, ex_msk, cl_pend S.pend⟩
  show SlotOk K H (msk (Msk c own) H) (own i) _ t
  rcases h2 i t ht with rfl | ⟨a, b⟩
  · show own i = none
    cases e : own i with
    | none => rfl
    | some a =>
      obtain ⟨fs, q, _⟩ := S.own_some e
      obtain ⟨q, _⟩ := h1 i fs q
      rw [ht] at q; cases q
  · rw [b]; exact S.slot i t a
/-- and back -/
theorem StO.unblock {ws : List Nat} {qs : List Pd} (S : StO K c ρ σ H own vs ps) (hw : wipeE ρ ws = .ok ρ') (B : StO K (blkC c own H) ρ' (wipe σ ws) H' own' us qs) :
    StO K c ρ σ H' own vs ps ∧ (∀ a, Msk c own a → Msk (blkC c own H) own' a) ∧ ∀ a o, ¬ (∃ i, own i = some a) → H a = some o → H' a = some o := by
  obtain ⟨h1, h2, h3⟩ := wipe_of (σ := σ) hw S.len
  have keep : ∀ a o, ¬ (∃ i, own i = some a) → H a = some o → H' a = some o := fun a o n q => by
    refine B.ex a o ?_
    show msk (fun a => ∃ i, own i = some a) H a = _
    rw [msk_out n]
    exact q
  have sub : ∀ a, Msk c own a → Msk (blkC c own H) own' a := fun a m => by
    rcases m with m | ⟨i, m⟩
    · exact .inl m
    · obtain ⟨fs, q, s⟩ := S.own_some m
      obtain ⟨q', w⟩ := h1 i fs q
      obtain ⟨b, o, j⟩ := B.own_of q'
      rw [w, s] at j; cases j
      exact .inr ⟨i, o⟩
  have exG : Ex (msk (Msk c own) H) (msk (Msk c own) H') := fun a o q => by
    obtain ⟨n, q⟩ := msk_some q
    rw [msk_out n]
    exact keep a o (fun z => n (.inr z)) q
  refine ⟨⟨S.len, fun i t ht => ?_, S.out, S.inj, S.new, B.frm, S.dis, fun a o q => keep a o (fun ⟨i, e⟩ => ?_) (S.ex a o q), ?_⟩, sub, keep⟩
  · cases t with
    | no => exact S.slot i _ ht
    | val d =>
      obtain ⟨q1, v, q2, q3⟩ := S.slot i _ ht
      exact ⟨q1, v, q2, Rp.ex exG _ _ q3⟩
    | lst fs =>
      obtain ⟨a, o, s⟩ := S.own_of ht
      obtain ⟨q', w⟩ := h1 i fs ht
      obtain ⟨b, xs, k1, k2, k3, k4⟩ := B.slot i _ q'
      rw [w, s] at k2; cases k2
      exact ⟨a, xs, o, s, k3, Rps.ex (msk_sub sub) _ _ k4⟩
  · rw [S.new i a e] at q; cases q
  · exact S.pend.mono exG
/-- an object comes to what others own -/
abbrev addF (c : Cc) (p : Addr) : Cc := ⟨c.H0, fun a => c.F a ∨ a = p⟩
theorem addF_msk {p a : Addr} : Msk (addF c p) own a ↔ Msk c own a ∨ a = p := by
  constructor
  · rintro ((m | m) | m)
    · exact .inl (.inl m)
    · exact .inr m
    · exact .inl (.inr m)
  · rintro ((m | m) | m)
    · exact .inl (.inl m)
    · exact .inr m
    · exact .inl (.inr m)
theorem StO.addF (S : StO K c ρ σ H own vs ps) {p : Addr} {o : HO} (hp : H p = none) : StO K (addF c p) ρ σ (upd H p o) own vs ps := by
  have nD : ∀ a, Msk c own a → a ≠ p := fun a m z => S.mtrk m (by rw [z]; exact hp)
  have eG : msk (Msk (DV.addF c p) own) (upd H p o) = msk (Msk c own) H := by
    funext a
    by_cases ha : a = p
    · subst ha
      rw [msk_in (addF_msk.mpr (.inr rfl))]
      by_cases m : Msk c own a
      · rw [msk_in m]
      · rw [msk_out m, hp]
    · by_cases m : Msk c own a
      · rw [msk_in m, msk_in (addF_msk.mpr (.inl m))]
      · rw [msk_out m, msk_out (fun z => (addF_msk.mp z).elim m ha), upd_ne ha]
  refine ⟨S.len, fun i t ht => ?_, S.out, S.inj, S.new, fun a m => ?_, fun i a e m => ?_, S.ex.trans (Ex.new hp), ?_⟩
  · rw [eG]
    refine (S.slot i t ht).mono (Ex.refl _) fun z x e q => ?_
    rw [upd_ne (nD z (.inr ⟨i, e⟩))]
    exact q
  · rcases m with m | m
    · rw [upd_ne (nD a (.inl m))]; exact S.frm a m
    · rw [m, upd_same]; exact fun z => nomatch z
  · rcases m with m | m
    · exact S.dis i a e m
    · exact nD a (.inr ⟨i, e⟩) m
  · rw [eG]; exact S.pend
/-- what others own changes -/
theorem StO.mutF (S : StO K c ρ σ H own vs ps) {p : Addr} {o : HO} (hp : c.F p) (h0 : c.H0 p = none) : StO K c ρ σ (upd H p o) own vs ps := by
  have eG : msk (Msk c own) (upd H p o) = msk (Msk c own) H := msk_upd_in (.inl hp)
  refine ⟨S.len, fun i t ht => ?_, S.out, S.inj, S.new, fun a m => ?_, S.dis, S.ex.mut h0, by rw [eG]; exact S.pend⟩
  · rw [eG]
    refine (S.slot i t ht).mono (Ex.refl _) fun z x e q => ?_
    rw [upd_ne (fun h => S.dis i z e (by rw [h]; exact hp))]
    exact q
  · by_cases e : a = p
    · rw [e, upd_same]; exact fun z => nomatch z
    · rw [upd_ne e]; exact S.frm a m
/-- it is let go -/
theorem StO.remF {p : Addr} (S : StO K (DV.addF c p) ρ σ H own vs ps) : StO K c ρ σ H own vs ps := by
  have sub : Ex (msk (Msk (DV.addF c p) own) H) (msk (Msk c own) H) := msk_sub fun a m => addF_msk.mpr (.inl m)
  exact ⟨S.len, fun i t ht => (S.slot i t ht).mono sub fun _ _ _ q => q, S.out, S.inj, S.new, fun a m => S.frm a (.inl m), fun i a e m => S.dis i a e (.inl m), S.ex, S.pend.mono sub⟩
end

section
variable {K : PySem.W.Frag} {c : Cc} {ρ ρ' : Env} {σ : L2.St} {H H' : Hp} {own own' : Nat → Option Addr} {vs us : List V} {ps : List Pd} {ds es : List D}
theorem wipeE_N : ∀ {ws : List Nat} {ρ' : Env}, wipeE ρ ws = .ok ρ' → ρ' = wipeN ρ ws
  | [], _, e => by cases e; rfl
  | v :: ws, ρ', e => by
    obtain ⟨ρ1, e1, e⟩ := Res.bind_ok e
    have := wipeE_N e1
    subst this
    show ρ' = (wipeN ρ ws).set v .no
    split at e
    · cases e
    · cases e; rfl
theorem StS.wipes (S : StS K c ρ σ H vs (cl es)) : ∀ ws : List Nat, StS K c (wipeN ρ ws) (wipe σ ws) H vs (cl es)
  | [] => S
  | v :: ws => (StS.wipes S ws).wipe1 v none
theorem wipeN_get (ρ : Env) : ∀ (ws : List Nat) (i : Nat), (wipeN ρ ws)[i]? = if i ∈ ws then (ρ[i]?).map (fun _ => T.no) else ρ[i]?
  | [], i => by simp [wipeN]
  | v :: ws, i => by
    show ((wipeN ρ ws).set v .no)[i]? = _
    rw [List.getElem?_set, wipeN_get ρ ws i]
    have hl : (wipeN ρ ws).length = ρ.length := by
      clear i
      induction ws with
      | nil => rfl
      | cons w ws ih => show ((wipeN ρ ws).set w .no).length = _; rw [List.length_set, ih]
    by_cases hv : v = i
    · subst hv
      rw [if_pos rfl, hl]
      by_cases h : v < ρ.length
      · simp [h]
      · simp [h]
    · rw [if_neg hv]
      have hv' : ¬ i = v := fun z => hv z.symm
      simp [hv']
theorem wipeN_idem (ρ : Env) (ws : List Nat) : wipeN (wipeN ρ ws) ws = wipeN ρ ws := by
  apply List.ext_getElem?
  intro i
  rw [wipeN_get, wipeN_get]
  by_cases h : i ∈ ws
  · simp only [h, if_true]; cases ρ[i]? <;> rfl
  · simp [h]
theorem wipe_idem (σ : L2.St) (ws : List Nat) : wipe (wipe σ ws) ws = wipe σ ws := by
  have get : ∀ (σ : L2.St) (ws : List Nat) (i : Nat), (wipe σ ws)[i]? = if i ∈ ws then (σ[i]?).map (fun _ => none) else σ[i]? := by
    intro σ ws
    induction ws with
    | nil => intro i; simp [wipe]
    | cons v ws ih =>
      intro i
      show ((wipe σ ws).set v none)[i]? = _
      rw [List.getElem?_set, ih i, wipe_length]
      by_cases hv : v = i
      · subst hv
        rw [if_pos rfl]
        by_cases h : v < σ.length
        · simp [h]
        · simp [h]
      · rw [if_neg hv]
        have hv' : ¬ i = v := fun z => hv z.symm
        simp [hv']
  apply List.ext_getElem?
  intro i
  rw [get, get]
  by_cases h : i ∈ ws
  · simp only [h, if_true]; cases σ[i]? <;> rfl
  · simp [h]
end

/-- a target of a comprehension: it stores in the block's own slots alone -/
structure CgOk (K : PySem.W.Frag) (g : TG) (ws : List Nat) (m : EG) : Prop where
  ok : ∀ (c : Cc) (v : V) (d : D) (ρ ρ' : Env) (σ : L2.St) (H : Hp) (vs : List V) (es : List D), StS K c ρ σ H (v :: vs) (cl (d :: es)) → m d ρ = some ρ' → ∀ Q : L2.St → Hp → Prop, (∀ σ' H', wipe σ' ws = wipe σ ws → StS K c ρ' σ' H' vs (cl es) → Q σ' H') → g v σ H Q
  wn : ∀ d ρ ρ', m d ρ = some ρ' → wipeN ρ' ws = wipeN ρ ws
theorem lc_of {c : Cc} {K : PySem.W.Frag} {mi : EI} {gt : TG} {g : EG} {t : EB} {m : EX} {ws : List Nat} (G : CgOk K gt ws g)
    {σ : L2.St} {H : Hp} {Q : VK} {ρ : Env} {vs : List V} {ps : List Pd} {es : List D} (S : StS K c ρ σ H vs ps) (e : lcD mi g t m ws ρ = .ok es)
    (k : ∀ own H' Dl acc, StO K c ρ σ H' own vs ps → H' Dl = some (.lst acc) → Rps K (msk (Msk (addF c Dl) own) H') acc es → c.H0 Dl = none → ¬ Msk c own Dl → StO K (addF c Dl) ρ σ H' own vs ps → Q (.ref Dl) H') :
    tLc (fun σ H R => tI K c mi σ H R) gt (fun σ H Q => ∃ c, tT K c t σ H Q) (fun σ H Q => ∃ c, tX K c m σ H Q) ws σ H Q := by
  obtain ⟨ds, ed, e⟩ := Res.bind_ok e
  obtain ⟨ρ', ew, e⟩ := Res.bind_ok e
  obtain ⟨es', ee, e⟩ := Res.bind_ok e
  split at e
  case isFalse => cases e
  rename_i hlim
  cases e
  refine ⟨ρ, vs, ps, S, ds, ed, fun J us fs H1 hl S1 itok Dl hD => ?_⟩
  obtain ⟨own, S1⟩ := S1
  have nD : ¬ Msk c own Dl := S1.nomsk hD
  have h0 : c.H0 Dl = none := S1.ex.free hD
  have S2 := S1.addF (o := .lst []) hD
  have k2 := fun own H' acc => k own H' Dl acc
  clear k
  generalize hc : DV.addF c Dl = c2 at S2 k2
  have fD : c2.F Dl := by rw [← hc]; exact .inr rfl
  have h02 : c2.H0 Dl = none := by rw [← hc]; exact h0
  have back : ∀ {H3 : Hp} {vs : List V} {ps : List Pd}, StO K c2 ρ σ H3 own vs ps → StO K c ρ σ H3 own vs ps := fun {H3 vs ps} Z => by rw [← hc] at Z; exact Z.remF
  have mD : Msk c2 own Dl := .inl fD
  clear hc
  have Sa : StO K c2 ρ σ (upd H1 Dl (.lst [])) own vs ps := { S2 with pend := (Pends.split (by rw [hl]; simp) S2.pend).2 }
  have Sb : StO K c2 ρ σ (upd H1 Dl (.lst [])) own us (cl fs) := { S2 with pend := (Pends.split (by rw [hl]; simp) S2.pend).1 }
  let Wt : Nat → Hp → Prop := fun i H2 => ∃ acc da rest, StO K c2 ρ σ H2 own vs ps ∧ StO K c2 ρ σ H2 own (us ++ acc) (cl (fs ++ da)) ∧ H2 Dl = some (.lst acc) ∧ acc.length = da.length ∧ lcL g t m (ds.drop i) ρ' = .ok rest ∧ da ++ rest = es
  refine ⟨fun i n H2 => n = ds.length - i ∧ i ≤ ds.length ∧ Wt i H2, ?_, ?_⟩
  · exact ⟨_, rfl, Nat.zero_le _, [], [], es, Sa, by rw [List.append_nil, List.append_nil]; exact Sb, upd_same, rfl, ee, rfl⟩
  rintro i n H2 ⟨rfl, hi, acc, da, rest, Sa, Sb, hL, la, e, ea⟩
  have B : StS K (blkC c2 own H2) ρ' (wipe σ ws) H2 (us ++ acc) (cl (fs ++ da)) := Sb.block ew
  obtain ⟨hgo, hstop⟩ := itok (blkC c2 own H2) ρ' (wipe σ ws) H2 acc (cl da) i (by rw [← List.map_append]; exact B)
  have nown : ¬ ∃ i, own i = some Dl := fun ⟨i, z⟩ => Sa.dis i _ z fD
  have lu : (us ++ acc).length = (fs ++ da).length := by rw [List.length_append, List.length_append, hl, la]
  -- out of the block again
  have out : ∀ {ρ1 : Env} {σ2 : L2.St} {H5 : Hp} {ws' : List V} {ds' : List D}, wipe σ2 ws = wipe σ ws → wipeN ρ1 ws = ρ' → StS K (blkC c2 own H2) ρ1 σ2 H5 ws' (cl ds') →
      StO K c2 ρ σ H5 own vs ps ∧ StO K c2 ρ σ H5 own ws' (cl ds') ∧ H5 Dl = some (.lst acc) := fun {ρ1 σ2 H5 ws' ds'} w1 w2 S5 => by
    have S6 := S5.wipes ws
    rw [w1, w2] at S6
    obtain ⟨o, S6⟩ := S6
    obtain ⟨q1, q2, q3⟩ := Sa.unblock ew S6
    refine ⟨q1, { q1 with pend := ?_ }, q3 Dl _ nown hL⟩
    exact cl_pend (S6.pend.mono (msk_sub q2))
  have eN : ρ' = wipeN ρ ws := wipeE_N ew
  by_cases hlt : i < ds.length
  · refine .inr ⟨(hgo _ (List.getElem?_eq_getElem hlt)).1, Wt (i + 1), fun H3 h3 => ⟨_, by omega, rfl, hlt, h3⟩, fun x H3 y => ?_⟩
    have S3 := (hgo _ (List.getElem?_eq_getElem hlt)).2 x H3 y
    rw [List.drop_eq_getElem_cons hlt, lcL] at e
    cases e1 : g ds[i] ρ' with
    | none => simp only [e1] at e; cases e
    | some ρ1 =>
      simp only [e1] at e
      obtain ⟨b, eb, e⟩ := Res.bind_ok e
      rw [← List.map_append] at S3
      have w2 : wipeN ρ1 ws = ρ' := by rw [G.wn _ _ _ e1, eN, wipeN_idem]
      refine G.ok (blkC c2 own H2) x ds[i] ρ' ρ1 (wipe σ ws) H3 (us ++ acc) (fs ++ da) S3 e1 _ fun σ4 H4 w1 S4 => ?_
      rw [wipe_idem] at w1
      refine ⟨w1, blkC c2 own H2, ρ1, _, _, S4, b, eb, fun H5 S5 => ?_⟩
      cases b with
        | false =>
          refine iteF ?_
          obtain ⟨q1, q2, q3⟩ := out w1 w2 S5
          exact ⟨acc, da, rest, q1, q2, q3, la, e, ea⟩
        | true =>
          obtain ⟨d, e2, e⟩ := Res.bind_ok e
          obtain ⟨rest', e3, e⟩ := Res.bind_ok e
          cases e
          obtain ⟨q, e4, e2⟩ := Res.bind_ok e2
          obtain ⟨p, kk⟩ := q
          cases kk with
          | some _ => cases e2
          | none =>
            cases e2
            refine iteT ⟨blkC c2 own H2, ρ1, _, _, S5, _, e4, fun v H6 S6 => ?_⟩
            obtain ⟨q1, q2, q3⟩ := out w1 w2 (ds' := p :: (fs ++ da)) S6
            have hlen : da.length + 1 ≤ lim := by
              have : es.length ≤ lim := hlim
              rw [← ea, List.length_append, List.length_cons] at this
              omega
            refine ⟨acc, q3, by rw [la]; have := lim_le hlen; omega, acc ++ [v], da ++ [p], rest', q1.mutF fD h02, ?_, upd_same, by rw [List.length_append, List.length_append, la]; rfl, e3, by rw [List.append_assoc]; exact ea⟩
            have q4 : StO K c2 ρ σ H6 own (us ++ (acc ++ [v])) (cl (fs ++ (da ++ [p]))) := { q2 with pend := ?_ }
            · exact q4.mutF fD h02
            · have := cl_rps q2.pend
              cases this with
              | cons r1 r2 =>
                rw [← List.append_assoc, ← List.append_assoc]
                exact pend_cl (r2.append (.cons r1 .nil))
  · have hi2 : i = ds.length := by omega
    subst hi2
    rw [List.drop_length, lcL] at e
    cases e
    rw [List.append_nil] at ea
    subst ea
    have Sb' := Sb.pend
    rw [show cl (fs ++ da) = cl fs ++ cl da from List.map_append] at Sb'
    have r : Rps K (msk (Msk c2 own) H2) acc da := cl_rps (Pends.split (by rw [hl]; simp) Sb').2
    exact .inl ⟨hstop (Nat.le_refl _), k2 own H2 acc (back Sa) hL r h0 nD Sa⟩
section
variable {X : Cx} {c : Cc}
structure CG (X : Cx) (tg : Expr) (ws : List Nat) (g : TG) (m : EG) : Prop where
  pg : PG X tg g
  ok : CgOk X.K g ws m
theorem wipe_set {σ : L2.St} {i : Nat} {v : Option V} {ws : List Nat} (h : i ∈ ws) : wipe (σ.set i v) ws = wipe σ ws := by
  have get : ∀ (σ : L2.St) (ws : List Nat) (i : Nat), (wipe σ ws)[i]? = if i ∈ ws then (σ[i]?).map (fun _ => none) else σ[i]? := by
    intro σ ws
    induction ws with
    | nil => intro i; simp [wipe]
    | cons v ws ih =>
      intro i
      show ((wipe σ ws).set v none)[i]? = _
      rw [List.getElem?_set, ih i, wipe_length]
      by_cases hv : v = i
      · subst hv
        rw [if_pos rfl]
        by_cases h : v < σ.length
        · simp [h]
        · simp [h]
      · rw [if_neg hv]
        have hv' : ¬ i = v := fun z => hv z.symm
        simp [hv']
  apply List.ext_getElem?
  intro j
  rw [get, get, List.getElem?_set]
  by_cases hj : i = j
  · subst hj
    rw [if_pos h, if_pos h, if_pos rfl]
    by_cases hl : i < σ.length
    · simp [hl]
    · simp [hl]
  · rw [if_neg hj]
theorem wipeN_set {ρ : Env} {i : Nat} {v : T} {ws : List Nat} (h : i ∈ ws) : wipeN (ρ.set i v) ws = wipeN ρ ws := by
  apply List.ext_getElem?
  intro j
  rw [wipeN_get, wipeN_get, List.getElem?_set]
  by_cases hj : i = j
  · subst hj
    rw [if_pos h, if_pos h, if_pos rfl]
    by_cases hl : i < ρ.length
    · simp [hl]
    · simp [hl]
  · rw [if_neg hj]
theorem cg_name (i : Nat) {ws : List Nat} {x : Str} {pos : Pos} (hN : X.N.Nodup) (hi : X.N[i]? = some x := by rfl) (hx : Loc X.env.scope x := by first | exact .inl rfl | exact .inr rfl) (hw : i ∈ ws := by decide) (hf : X.fn x = true ∨ X.env.scope.names.lookup x = some .local := by first | exact .inl rfl | exact .inr rfl | assumption) : CG X (.Name x pos) ws (gName i) (gPut i) :=
  ⟨pg_name hN hi hx hf, ⟨fun c v d ρ ρ' σ H vs es S e Q q => by
    cases e
    exact q _ _ (wipe_set hw) (S.put i), fun d ρ ρ' e => by cases e; exact wipeN_set hw⟩⟩
/-- several names -/
structure CGs (X : Cx) (tgs : List Expr) (ws : List Nat) (g : TGs) (m : EGs) : Prop where
  pg : PGs X tgs g ∧ (∀ (c : Cc) (us : List V) (ds : List D) (ρ ρ' : Env) (σ : L2.St) (H : Hp) (vs : List V) (es : List D), us.length = ds.length → StS X.K c ρ σ H (us ++ vs) (cl (ds ++ es)) → m ds ρ = some ρ' → ∀ Q : L2.St → Hp → Prop, (∀ σ' H', wipe σ' ws = wipe σ ws → StS X.K c ρ' σ' H' vs (cl es) → Q σ' H') → g us σ H Q) ∧
    ∀ ds ρ ρ', m ds ρ = some ρ' → wipeN ρ' ws = wipeN ρ ws
theorem cgs_nil {ws : List Nat} : CGs X [] ws gNil gNil' := ⟨pgs_nil, fun c us ds ρ ρ' σ H vs es hl S e Q q => by
  cases ds with
  | cons _ _ => cases e
  | nil =>
    cases e
    cases us with
    | cons _ _ => cases hl
    | nil => exact ⟨rfl, q _ _ rfl S⟩, fun ds ρ ρ' e => by
  cases ds with
  | cons _ _ => cases e
  | nil => cases e; rfl⟩
theorem cgs_cons {e : Expr} {es : List Expr} {ws : List Nat} {g : TG} {g2 : TGs} {m : EG} {ms : EGs} (h : CG X e ws g m) (h2 : CGs X es ws g2 ms) (hs : (assignEach (e :: es) X.env).map (·.2) = assign e X.env :: (assignEach es X.env).map (·.2) := by rfl) : CGs X (e :: es) ws (gCons g g2) (gCons' m ms) := by
  obtain ⟨pg, ok⟩ := h
  obtain ⟨pg2, ok2, wn2⟩ := h2.pg
  refine ⟨pgs_cons pg pg2 hs, fun c us ds ρ ρ' σ H vs es hl S e Q q => ?_, fun ds ρ ρ' e => ?_⟩
  · cases ds with
    | nil => cases e
    | cons d ds =>
      cases us with
      | nil => cases hl
      | cons u us =>
        unfold gCons' at e
        cases e1 : m d ρ with
        | none => simp only [e1] at e; cases e
        | some ρ1 =>
          simp only [e1] at e
          refine ⟨u, us, rfl, ok.ok c u d ρ ρ1 σ H (us ++ vs) (ds ++ es) S e1 _ fun σ' H' w S' => ?_⟩
          exact ok2 c us ds ρ1 ρ' σ' H' vs es (Nat.succ.inj hl) S' e Q fun σ2 H2 w2 S2 => q _ _ (w2.trans w) S2
  · cases ds with
    | nil => cases e
    | cons d ds =>
      unfold gCons' at e
      cases e1 : m d ρ with
      | none => simp only [e1] at e; cases e
      | some ρ1 =>
        simp only [e1] at e
        rw [wn2 _ _ _ e, ok.wn _ _ _ e1]
theorem cg_tup {es : List Expr} {ws : List Nat} {k : Nat} {pos : Pos} {g : TGs} {ms : EGs} {n : Nat} (hc : X.calm = true) (h : CGs X es ws g ms) (hn : (assignEach es X.env).length = n := by rfl) (hst : (assignEach es X.env).findIdx? (·.1) = none := by rfl) : CG X (.Tuple es k pos) ws (gTup X.K n g) (gTup' n ms) := by
  obtain ⟨pg, ok, wn⟩ := h.pg
  refine ⟨pg_tup hc pg hn hst, ⟨fun c v d ρ ρ' σ H vs es S e Q q => ?_, fun d ρ ρ' e => ?_⟩⟩
  · unfold gTup' at e
    split at e
    · split at e
      · rename_i ds hl
        obtain ⟨o, S⟩ := S
        have r : Rp X.K (msk (Msk c o) H) v (.tup ds) := S.top (p := (.tup ds, none))
        cases r with
        | @tup a xs _ h1 h2 =>
          refine ⟨a, xs, rfl, SqT.ex ex_msk h1, by rw [h2.length]; exact hl, ok c xs ds ρ ρ' σ H vs es h2.length ?_ e Q q⟩
          refine ⟨o, { S.below with pend := ?_ }⟩
          rw [show cl (ds ++ es) = cl ds ++ cl es from List.map_append]
          exact (pend_cl h2).append S.below.pend
      · cases e
    · cases e
  · unfold gTup' at e
    split at e
    · split at e
      · exact wn _ _ _ e
      · cases e
    · cases e

theorem tImpT {X : Cx} {ifs : List Expr} {t t' : TT} (h : PTs X ifs t) (i : ∀ σ H Q, t' σ H Q → t σ H Q) : PTs X ifs t' := ⟨fun pins s σ H Q I q => h.run pins s σ H Q I (i σ H Q q)⟩
structure TX (X : Cx) (c : Cc) (ifs : List Expr) (m : EB) : Prop where
  pt : PTs X ifs (tT X.K c m)
theorem tx_nil : TX X c [] (fun _ => .ok true) := ⟨tImpT pts_nil fun σ H Q ⟨ρ, vs, ps, S, b, e, k⟩ => by cases e; exact k H S⟩
theorem tx_one {e : Expr} {m : EB} (h : BX X c e m) : TX X c [e] m := ⟨pts_one h.pt⟩
abbrev BlkX (X : Cx) (scope : Scope) (s : Shared) (H : Hp) (C : Addr) (cl : List (Str × Addr)) (fp : List Addr) : Cx := X.blk s H scope (compEnvC scope cl C X.env) fp
/-- a list that stands already goes to a new slot at the end -/
theorem StO.adopt {K : PySem.W.Frag} {c : Cc} {ρ : Env} {σ : L2.St} {H : Hp} {own : Nat → Option Addr} {vs : List V} {ds es : List D} {p : Addr} {xs : List V} (S : StO K (DV.addF c p) ρ σ H own vs (cl es)) (hp : H p = some (.lst xs)) (h0 : c.H0 p = none) (nm : ¬ Msk c own p)
    (r : Rps K (msk (Msk (DV.addF c p) own) H) xs ds) : StS K c (ρ ++ [.lst ds]) (σ ++ [some (.ref p)]) H vs (cl es) := by
  have eM : ∀ a, Msk c (ownX own ρ.length (some p)) a ↔ Msk (DV.addF c p) own a := fun a => by
    rw [addF_msk]
    constructor
    · rintro (m | ⟨i, m⟩)
      · exact .inl (.inl m)
      · by_cases h1 : i < ρ.length
        · rw [ownX_lt h1] at m; exact .inl (.inr ⟨i, m⟩)
        · by_cases h2 : i = ρ.length
          · subst h2; rw [ownX_eq] at m; exact .inr (Option.some.inj m).symm
          · rw [ownX_gt (by omega)] at m; cases m
    · rintro ((m | ⟨i, m⟩) | m)
      · exact .inl m
      · by_cases h1 : i < ρ.length
        · exact .inr ⟨i, by rw [ownX_lt h1]; exact m⟩
        · rw [S.out i (by omega)] at m; cases m
      · exact .inr ⟨ρ.length, by rw [ownX_eq, m]⟩
  have eG : msk (Msk c (ownX own ρ.length (some p))) H = msk (Msk (DV.addF c p) own) H := by
    have : Msk c (ownX own ρ.length (some p)) = Msk (DV.addF c p) own := funext fun a => propext (eM a)
    rw [this]
  have key : ∀ i a, ownX own ρ.length (some p) i = some a → (i < ρ.length ∧ own i = some a ∧ a ≠ p) ∨ (i = ρ.length ∧ a = p) := fun i a h => by
    by_cases q1 : i < ρ.length
    · rw [ownX_lt q1] at h
      exact .inl ⟨q1, h, fun z => nm (by rw [← z]; exact .inr ⟨i, h⟩)⟩
    · by_cases q2 : i = ρ.length
      · subst q2; rw [ownX_eq] at h; exact .inr ⟨rfl, (Option.some.inj h).symm⟩
      · rw [ownX_gt (by omega)] at h; cases h
  refine ⟨ownX own ρ.length (some p), ?_, ?_, ?_, ?_, ?_, fun a m => S.frm a (.inl m), ?_, S.ex, ?_⟩
  · rw [List.length_append, List.length_append, S.len]; rfl
  · intro i t ht
    rw [eG]
    rcases get_app ht with ⟨h1, h2⟩ | ⟨h1, h2⟩
    · have hs : ((σ ++ [some (V.ref p)])[i]?).join = (σ[i]?).join := by rw [List.getElem?_append_left (by rw [S.len]; exact h1)]
      rw [hs, ownX_lt h1]
      exact S.slot i t h2
    · subst h1 h2
      refine ⟨p, xs, ownX_eq, ?_, hp, r⟩
      rw [← S.len]; simp
  · intro i hi
    rw [List.length_append, List.length_singleton] at hi
    exact ownX_gt (by omega)
  · intro i j a h1 h2
    rcases key i a h1 with ⟨_, a1, a2⟩ | ⟨a1, a2⟩ <;> rcases key j a h2 with ⟨_, b1, b2⟩ | ⟨b1, b2⟩
    · exact S.inj i j a a1 b1
    · exact absurd b2 a2
    · exact absurd a2 b2
    · rw [a1, b1]
  · intro i a h
    rcases key i a h with ⟨_, a1, a2⟩ | ⟨a1, a2⟩
    · exact S.new i a a1
    · rw [a2]; exact h0
  · intro i a h m
    rcases key i a h with ⟨_, a1, a2⟩ | ⟨a1, a2⟩
    · exact S.dis i a a1 (.inl m)
    · rw [a2] at m; exact nm (.inl m)
  · rw [eG]; exact cl_pend S.pend
section
variable {elt tg iter : Expr} {ifs : List Expr} {scope : Scope} {own : List (Str × Nat)} {pos : Pos} {mi : EI} {g : EG} {gt : TG} {t : EB} {m : EX}
/-- what a comprehension asks, by its block -/
structure LcOk (X : Cx) (c : Cc) (elt tg iter : Expr) (ifs : List Expr) (scope : Scope) (own : List (Str × Nat)) (mi : EI) (gt : TG) (g : EG) (t : EB) (m : EX) : Prop where
  nd : X.N.Nodup
  calm : X.calm = true
  it : SI X c tg iter mi
  ok : BlkOk X.N X.env.scope scope own
  tgt : ∀ (s : Shared) (H : Hp) (C : Addr) (cl : List (Str × Addr)) (fp : List Addr), CG (BlkX X scope s H C cl fp) tg (own.map (·.2)) gt g
  tst : ∀ (c : Cc) (s : Shared) (H : Hp) (C : Addr) (cl : List (Str × Addr)) (fp : List Addr), TX (BlkX X scope s H C cl fp) c ifs t
  elt : ∀ (c : Cc) (s : Shared) (H : Hp) (C : Addr) (cl : List (Str × Addr)) (fp : List Addr), SX (BlkX X scope s H C cl fp) c elt m
theorem LcOk.pe (h : LcOk X c elt tg iter ifs scope own mi gt g t m) (hs : ∀ x, foldedSetIterable iter X.env x = pure x) :
    PE X (.ListComp elt [⟨tg, iter, ifs, 0⟩] scope pos) (tLc (fun σ H R => tI X.K c mi σ H R) gt (fun σ H Q => ∃ c, tT X.K c t σ H Q) (fun σ H Q => ∃ c, tX X.K c m σ H Q) (own.map (·.2))) :=
  pe_lc h.calm h.nd h.it.pi h.ok (fun s H C cl fp => (h.tgt s H C cl fp).pg) (fun s H C cl fp => ⟨fun pins s' σ H' Q I ⟨c, q⟩ => (h.tst c s H C cl fp).pt.run pins s' σ H' Q I q⟩)
    (fun s H C cl fp => ⟨fun pins s' σ H' Q I ⟨c, q⟩ => (h.elt c s H C cl fp).pe.run pins s' σ H' Q I q⟩) hs
theorem LcOk.go (h : LcOk X c elt tg iter ifs scope own mi gt g t m) {σ : L2.St} {H : Hp} {Q : VK} {ρ : Env} {vs : List V} {ps : List Pd} {es : List D} (S : StS X.K c ρ σ H vs ps) (e : lcD mi g t m (own.map (·.2)) ρ = .ok es)
    (k : ∀ own H' Dl acc, StO X.K c ρ σ H' own vs ps → H' Dl = some (.lst acc) → Rps X.K (msk (Msk (addF c Dl) own) H') acc es → c.H0 Dl = none → ¬ Msk c own Dl → StO X.K (addF c Dl) ρ σ H' own vs ps → Q (.ref Dl) H') :
    tLc (fun σ H R => tI X.K c mi σ H R) gt (fun σ H Q => ∃ c, tT X.K c t σ H Q) (fun σ H Q => ∃ c, tX X.K c m σ H Q) (own.map (·.2)) σ H Q :=
  lc_of (h.tgt {} (fun _ => none) 0 [] []).ok S e k
end
end
end DV

namespace DV
open PySem PySem.Spec L2

section
variable {X : Cx} {c : Cc} {elt tg iter : Expr} {ifs : List Expr} {scope : Scope} {own : List (Str × Nat)} {pos : Pos} {mi : EI} {g : EG} {gt : TG} {t : EB} {m : EX}
theorem sx_lc (h : LcOk X c elt tg iter ifs scope own mi gt g t m) (hs : ∀ x, foldedSetIterable iter X.env x = pure x := by intro _; rfl) : SX X c (.ListComp elt [⟨tg, iter, ifs, 0⟩] scope pos) (xLc mi g t m (own.map (·.2))) :=
  ⟨PE.imp (h.pe hs) fun σ H Q ⟨ρ, vs, ps, S, p, e, k⟩ => by
    obtain ⟨es, e1, e⟩ := Res.bind_ok e
    cases e
    refine h.go S e1 fun own H' Dl acc S1 hL r h0 nm S2 => k _ _ (StS.push S1 ?_)
    exact .lst (by rw [msk_out nm]; exact hL) (Rps.ex (msk_sub fun a m => addF_msk.mpr (.inl m)) _ _ r)⟩
theorem nx_lc (h : LcOk X c elt tg iter ifs scope own mi gt g t m) (hs : ∀ x, foldedSetIterable iter X.env x = pure x := by intro _; rfl) : NX X c (.ListComp elt [⟨tg, iter, ifs, 0⟩] scope pos) (nLc mi g t m (own.map (·.2))) :=
  ⟨PE.imp (h.pe hs) fun σ H Q ⟨ρ, vs, es0, S, p, e, k⟩ => by
    obtain ⟨es, e1, e⟩ := Res.bind_ok e
    cases e
    refine h.go S e1 fun own H' Dl acc S1 hL r h0 nm S2 => k _ _ ?_
    exact S2.adopt hL h0 nm r⟩
theorem ss_setLc (i : Nat) {y : Str} {py spos : Pos} (h : LcOk X c elt tg iter ifs scope own mi gt g t m) (hsw : swapsWith (.ListComp elt [⟨tg, iter, ifs, 0⟩] scope pos) (some (.Name y py)) spos.line X.env = pure true)
    (hy : X.N[i]? = some y := by rfl) (hyl : X.env.scope.names.lookup y = some .local := by rfl) (hs : ∀ x, foldedSetIterable iter X.env x = pure x := by intro _; rfl) :
    SS X c (.Assign [.Name y py] (.ListComp elt [⟨tg, iter, ifs, 0⟩] scope pos) spos) (sSet i (nLc mi g t m (own.map (·.2)))) :=
  ⟨PS.imp (ps_setLc (wi := fun σ H R => tI X.K c mi σ H R) (g := gt) (tt := fun σ H Q => ∃ c, tT X.K c t σ H Q) (te := fun σ H Q => ∃ c, tX X.K c m σ H Q) h.calm h.nd hy hyl hsw h.it.pi h.ok (fun s H C cl fp => (h.tgt s H C cl fp).pg) (fun s H C cl fp => ⟨fun pins s' σ H' Q I ⟨c, q⟩ => (h.tst c s H C cl fp).pt.run pins s' σ H' Q I q⟩)
    (fun s H C cl fp => ⟨fun pins s' σ H' Q I ⟨c, q⟩ => (h.elt c s H C cl fp).pe.run pins s' σ H' Q I q⟩) hs) fun D σ H ⟨ρ, vs, es0, S, k⟩ => by
    obtain ⟨t, et, k⟩ := Res.out_ok k
    obtain ⟨es, e1, et⟩ := Res.bind_ok et
    cases et
    refine h.go S e1 fun own H' Dl acc S1 hL r h0 nm S2 => ?_
    exact k _ _ ((S2.adopt hL h0 nm r).move i)⟩
end

/-! ### a def's promise -/
abbrev FD := List D → Res T
def SpD (K : PySem.W.Frag) (n : Nat) (f : FD) : Sp := fun vs H Q _ => vs.length = n ∧ ∃ (F : Addr → Prop) (ds : List D), (∀ a, F a → H a ≠ none) ∧ Rps K (msk F H) vs ds ∧
  ∃ t, f ds = .ok t ∧ ∀ v H', RtOk K ⟨H, F⟩ v H' t → Q v H'
def runD (M : SM) (n : Nat) : FD := fun ds => match M (ds.map .val ++ List.replicate (n - ds.length) .no) with
  | .nx _ => .ok (.val .non)
  | .rt t => .ok t
  | .exc x => .exc x
  | _ => .err
theorem start_ok {K : PySem.W.Frag} {H : Hp} {F : Addr → Prop} {N : List Str} {vs : List V} {ds : List D} (hF : ∀ a, F a → H a ≠ none) (r : Rps K (msk F H) vs ds) (hN : vs.length ≤ N.length) :
    StS K ⟨H, F⟩ (ds.map .val ++ List.replicate (N.length - ds.length) .no) (L2.start N vs) H [] (cl []) := by
  have hl := r.length
  refine ⟨fun _ => none, ?_, ?_, fun _ _ => rfl, fun i j a h => (by cases h), fun i a h => (by cases h), hF, fun i a h => (by cases h), Ex.refl H, .nil⟩
  · unfold L2.start
    simp only [List.length_append, List.length_map, List.length_replicate]
    omega
  · intro i t ht
    have eM : msk (Msk ⟨H, F⟩ fun _ => none) H = msk F H := by
      have : (Msk ⟨H, F⟩ fun _ => none) = F := funext fun a => propext ⟨fun m => m.elim id fun ⟨i, z⟩ => (by cases z), .inl⟩
      rw [this]
    rw [eM]
    by_cases hi : i < ds.length
    · rw [List.getElem?_append_left (by simpa using hi), List.getElem?_map, List.getElem?_eq_getElem hi] at ht
      cases ht
      obtain ⟨v, e, q⟩ := r.get (List.getElem?_eq_getElem hi)
      refine ⟨rfl, v, ?_, q⟩
      unfold L2.start
      rw [List.getElem?_append_left (by rw [List.length_map, hl]; exact hi), List.getElem?_map, e]
      rfl
    · rw [List.getElem?_append_right (by simpa using hi)] at ht
      have := List.mem_of_getElem? ht
      rw [List.mem_replicate] at this
      rw [this.2]
      rfl
section
variable {P : Program} {w : World} {K : PySem.W.Frag} {mg : Str → Option Value} {base : Heap}
abbrev DefOk (P : Program) (w : World) (K : PySem.W.Frag) (mg : Str → Option Value) (base : Heap) (k : Nat) (f : Addr) (fd : FuncData) (ps : List Str) (F : FD) : Prop := FnOk P w K mg base CX0 k f fd ps (SpD K ps.length F)
/-- a def keeps what its body's data tell -/
theorem def_ok {x qual : Str} {st : Stmt} {f : Addr} {fd : FuncData} {N ps : List Str} {k : Nat} {M : SM} (F : Fun K x qual st f fd) (S : FnScope N ps (defScope st)) (hl : ps.length ≤ N.length)
    (hb : ∀ (cdv : Value) (A : Around) (outer : List PySem.Env) (s : Shared) (H : Hp) (E : XK) (c : Cc), Room k (A.deeper (PyProof.Rows.envOfC qual (defScope st) s.heap.objs.size f cdv)) →
      SB (cxOf CX0 P w K mg base N qual (defScope st) f cdv A outer s H E).nox c (defBody st) M) : DefOk P w K mg base (k + 1) f fd ps (runD M N.length) := by
  refine F.ok S (fun vs H Q E h => h.1) (fun cdv A outer s H vs Q E hr h => ?_)
  obtain ⟨hlen, G, ds, hG, r, t, e, q⟩ := h
  refine ⟨_, (hb cdv A outer s H E ⟨H, G⟩ hr).ps, ds.map T.val ++ List.replicate (N.length - ds.length) T.no, [], [], start_ok (N := N) hG r (by rw [hlen]; exact hl), ?_⟩
  unfold runD at e
  split at e
  · rename_i ρ e1
    cases e
    rw [e1]
    refine fun σ' H' S' => q _ _ ?_
    obtain ⟨o, S'⟩ := S'
    exact (S'.freshVal Rp.non).rt
  · rename_i t' e1
    cases e
    rw [e1]
    exact fun v H' h' => q v H' h'
  · cases e
  · cases e
theorem DefOk.mono {j k : Nat} {f : Addr} {fd : FuncData} {ps : List Str} {F : FD} (h : DefOk P w K mg base j f fd ps F) (l : j ≤ k) : DefOk P w K mg base k f fd ps F := FnOk.mono h l
/-- another function that answers wherever this one does -/
theorem DefOk.to {k : Nat} {f : Addr} {fd : FuncData} {ps : List Str} {F F' : FD} (h : DefOk P w K mg base k f fd ps F) (l : ∀ ds t, F' ds = .ok t → F ds = .ok t) : DefOk P w K mg base k f fd ps F' :=
  FnOk.imp h (fun vs H Q E z => by
    obtain ⟨a, G, ds, b, r, t, e, q⟩ := z
    exact ⟨a, G, ds, b, r, t, l _ _ e, q⟩)
end

/-! ### calls -/
def frzR : T → Res D
  | .no => .err
  | .val d => .ok d
  | .lst ds => .ok (.lst ds)
def xCall (f : FD) (m : EA) : EX := fun ρ => (m ρ).bind fun qs => (f (qs.map (·.1))).bind fun t => (frzR t).bind fun d => if qs.all (fun q => q.2.isNone) || flatD d then .ok (d, none) else .err
def nCall (f : FD) (m : EA) : EN := fun ρ => (m ρ).bind fun qs => (clP qs).bind fun ds => f ds
section
variable {K : PySem.W.Frag} {c : Cc} {ρ : Env} {σ : L2.St} {H H' : Hp} {own : Nat → Option Addr} {vs us : List V} {ps qs : List Pd} {ds es : List D}
/-- the arguments of a call, with what others own meanwhile -/
theorem args_ok {bor : List Nat} (S : StO K c ρ σ H own vs ps) : ∀ {us : List V} {qs : List Pd}, Pends K (msk (Msk c own) H) ρ own us qs → (∀ q ∈ qs, ∀ i, q.2 = some i → i ∈ bor) →
    Rps K (msk (fun a => c.F a ∨ ∃ i, i ∉ bor ∧ own i = some a) H) us (qs.map (·.1))
  | _, _, .nil, _ => .nil
  | _, _, @Pends.cons _ _ _ _ v p vs ps a b, hb => by
    have sub : Ex (msk (Msk c own) H) (msk (fun a => c.F a ∨ ∃ i, i ∉ bor ∧ own i = some a) H) := msk_sub fun a m => m.elim .inl fun ⟨i, _, z⟩ => .inr ⟨i, z⟩
    refine .cons ?_ (args_ok S b fun q hq => hb q (List.mem_cons_of_mem _ hq))
    obtain ⟨d, k⟩ := p
    cases k with
    | none => exact Rp.ex sub _ _ a
    | some i =>
      obtain ⟨a, ds, rfl, ho, e2, hs⟩ := a
      have e2 : d = .lst ds := e2
      subst e2
      obtain ⟨b', xs, h1, h2, h3, h4⟩ := S.slot i _ hs
      rw [ho] at h1; cases h1
      refine .lst ?_ (Rps.ex sub _ _ h4)
      rw [msk_out]
      · exact h3
      · rintro (m | ⟨j, nj, m⟩)
        · exact S.dis i a ho m
        · have := S.inj _ _ _ m ho
          exact nj (by rw [this]; exact hb (DV.D.lst ds, some i) List.mem_cons_self i rfl)
def borOf (qs : List Pd) : List Nat := qs.filterMap (·.2)
theorem borOf_mem : ∀ q ∈ qs, ∀ i, q.2 = some i → i ∈ borOf qs := fun q hq i e => List.mem_filterMap.mpr ⟨q, hq, e⟩
theorem sp_run (S : StO K c ρ σ H own (us ++ vs) (qs ++ ps)) (hl : us.length = qs.length) {n : Nat} {f : FD} {t : T} (hn : us.length = n) (e : f (qs.map (·.1)) = .ok t) {Q : VK} {E : XK}
    (q : ∀ v H', RtOk K ⟨H, fun a => c.F a ∨ ∃ i, i ∉ borOf qs ∧ own i = some a⟩ v H' t → Q v H') : SpD K n f (us ++ []) H Q E := by
  obtain ⟨p1, p2⟩ := Pends.split hl S.pend
  have S2 : StO K c ρ σ H own vs ps := { S with pend := p2 }
  rw [List.append_nil]
  exact ⟨hn, _, _, fun a m => m.elim (S.frm a) fun ⟨i, _, z⟩ => S.trk z, args_ok S2 p1 borOf_mem, t, e, q⟩
theorem bor_none (h : qs.all (fun q => q.2.isNone) = true) : borOf qs = [] := by
  unfold borOf
  rw [List.filterMap_eq_nil_iff]
  intro q hq
  have := List.all_eq_true.mp h q hq
  simpa using this
theorem flat_rp {G G' : Hp} {v : V} {d : D} (h : Rp K G v d) (f : flatD d = true) : Rp K G' v d := by
  cases h with
  | non => exact .non
  | bl b => exact .bl b
  | int i => exact .int i
  | str x => exact .str x
  | tup _ _ => cases f
  | lst _ _ => cases f
  | rdl _ _ => cases f
/-- what a call hands back, frozen -/
theorem rt_frz {F : Addr → Prop} {v : V} {t : T} {d : D} (r : RtOk K ⟨H, F⟩ v H' t) (e : frzR t = .ok d) : Rp K (msk F H') v d := by
  obtain ⟨o, h1, h2, h3⟩ := r
  have sub : Ex (msk (fun a => F a ∨ o = some a) H') (msk F H') := msk_sub fun a m => .inl m
  cases t with
  | no => cases e
  | val d' =>
    cases e
    obtain ⟨_, v', e1, r⟩ := h1
    cases e1
    exact Rp.ex sub _ _ r
  | lst ds =>
    cases e
    obtain ⟨a, xs, e1, e2, e3, e4⟩ := h1
    cases e2
    refine .lst ?_ (Rps.ex sub _ _ e4)
    rw [msk_out]
    · exact e3
    · exact (h2 a e1).2
end
section
variable {X : Cx} {c : Cc} {k : Nat} {f : Addr} {fd : FuncData} {pn : List Str} {F : FD} {x : Str} {p pos : Pos} {e : Expr} {es : List Expr} {ms : EA}
theorem call_of {Q : VK} {σ : L2.St} {H : Hp} {E : XK} (h : tX X.K c (xCall F ms) σ H Q) (hn : ∀ ρ qs, ms ρ = .ok qs → qs.length = pn.length) : tCall (SpD X.K pn.length F) [] E (tA X.K c ms) σ H Q := by
  obtain ⟨ρ, vs, ps, S, p, e, k⟩ := h
  obtain ⟨qs, eq, e⟩ := Res.bind_ok e
  obtain ⟨t, et, e⟩ := Res.bind_ok e
  obtain ⟨d, ed, e⟩ := Res.bind_ok e
  split at e
  case isFalse => cases e
  rename_i hb
  cases e
  refine ⟨ρ, vs, ps, S, qs, eq, fun us H1 hl S1 => ?_⟩
  obtain ⟨o, S1⟩ := S1
  refine sp_run S1 hl (by rw [hl]; exact hn _ _ eq) et fun v H' r => ?_
  have S2 : StO X.K c ρ σ H1 o vs ps := { S1 with pend := (Pends.split hl S1.pend).2 }
  have hx : Ex H1 H' := by obtain ⟨_, _, _, h3⟩ := r; exact h3
  have rp := rt_frz r ed
  refine k v H' (S2.val hx ?_)
  rw [Bool.or_eq_true] at hb
  rcases hb with hb | hb
  · rw [bor_none hb] at rp
    refine Rp.ex (msk_sub fun a m => ?_) _ _ rp
    rcases m with m | ⟨i, m⟩
    · exact .inl m
    · exact .inr ⟨i, by simp, m⟩
  · exact flat_rp rp hb
theorem sx_call (G : DefOk X.prog X.w X.K X.mg X.base k f fd pn F) (hr : Room k X.A) (hm : X.mg x = some (.ref f)) (hk : PySem.W.keepIn X.K (.ref f) = true) (hb : Binds X.K fd pn []) (ha : SA X c (e :: es) ms) (hn : ∀ ρ qs, ms ρ = .ok qs → qs.length = pn.length)
    (hg : Gl X x := by rfl) (hdb : (x == ("__debug__" : Str)) = false := by decide) (he : starEach (e :: es) X.env = (false, eval e X.env) :: starEach es X.env := by rfl) (hpl : (backTo pos (starEach es X.env)).any (·.1) = false := by rfl) :
    SX X c (.Call (.Name x p) (e :: es) [] pos) (xCall F ms) :=
  ⟨PE.imp (pe_call G hr hg hm hk hb .nil pass0 ha.pa hdb he hpl) fun σ H Q h => call_of h hn⟩
theorem nx_call (G : DefOk X.prog X.w X.K X.mg X.base k f fd pn F) (hr : Room k X.A) (hm : X.mg x = some (.ref f)) (hk : PySem.W.keepIn X.K (.ref f) = true) (hb : Binds X.K fd pn []) (ha : SA X c (e :: es) ms) (hn : ∀ ρ qs, ms ρ = .ok qs → qs.length = pn.length)
    (hg : Gl X x := by rfl) (hdb : (x == ("__debug__" : Str)) = false := by decide) (he : starEach (e :: es) X.env = (false, eval e X.env) :: starEach es X.env := by rfl) (hpl : (backTo pos (starEach es X.env)).any (·.1) = false := by rfl) :
    NX X c (.Call (.Name x p) (e :: es) [] pos) (nCall F ms) :=
  ⟨PE.imp (pe_call G hr hg hm hk hb .nil pass0 ha.pa hdb he hpl) fun σ H Q ⟨ρ, vs, es0, S, t, e, k⟩ => by
    obtain ⟨qs, eq, e⟩ := Res.bind_ok e
    obtain ⟨ds, ed, e⟩ := Res.bind_ok e
    refine ⟨ρ, vs, _, S, qs, eq, fun us H1 hl S1 => ?_⟩
    obtain ⟨o, S1⟩ := S1
    have hcl : ∀ {qs : List Pd} {ds : List D}, clP qs = .ok ds → qs.map (·.1) = ds ∧ qs.all (fun q => q.2.isNone) = true := by
      intro qs
      induction qs with
      | nil => intro ds e; cases e; exact ⟨rfl, rfl⟩
      | cons q qs ih =>
        intro ds e
        obtain ⟨d, kk⟩ := q
        unfold clP at e
        cases kk with
        | some i => cases e
        | none =>
          obtain ⟨es, e1, e⟩ := Res.bind_ok e
          cases e
          obtain ⟨a, b⟩ := ih e1
          exact ⟨by rw [List.map_cons, a], by rw [List.all_cons, b]; rfl⟩
    obtain ⟨e1, e2⟩ := hcl ed
    refine sp_run S1 hl (by rw [hl]; exact hn _ _ eq) (by rw [e1]; exact e) fun v H' r => ?_
    have S2 : StO X.K c ρ σ H1 o vs (cl es0) := { S1 with pend := (Pends.split hl S1.pend).2 }
    refine k v H' ?_
    rw [bor_none e2] at r
    obtain ⟨w, h1, h2, h3⟩ := r
    have S3 := S2.grow h3
    cases t with
    | no =>
      -- nothing is known of it
      have w0 : w = none := h1
      subst w0
      refine ⟨o, ?_, ?_, fun i hi => S3.out i (by rw [List.length_append] at hi; simp at hi; omega), S3.inj, S3.new, S3.frm, S3.dis, S3.ex, cl_pend S3.pend⟩
      · rw [List.length_append, List.length_append, S3.len]; rfl
      · intro i t ht
        rcases get_app ht with ⟨q1, q2⟩ | ⟨q1, q2⟩
        · rw [List.getElem?_append_left (by rw [S3.len]; exact q1)]
          exact S3.slot i t q2
        · subst q1 q2
          exact S3.out _ (Nat.le_refl _)
    | val d =>
      obtain ⟨w0, v', e3, rp⟩ := h1
      cases e3
      subst w0
      refine S3.freshVal (Rp.ex (msk_sub fun a m => ?_) _ _ rp)
      rcases m with m | ⟨i, m⟩
      · exact .inl (.inl m)
      · exact .inl (.inr ⟨i, by simp, m⟩)
    | lst fs =>
      obtain ⟨a, xs, w0, e3, e4, e5⟩ := h1
      cases e3
      subst w0
      have h2' := h2 a rfl
      have na : ¬ Msk c o a := fun m => S1.mtrk m h2'.1
      have S4 : StO X.K (DV.addF c a) ρ σ H' o vs (cl es0) := by
        have S5 := S2.addF (o := .lst xs) h2'.1
        refine ⟨S5.len, ?_, S5.out, S5.inj, S5.new, fun b m => ?_, S5.dis, S3.ex, ?_⟩
        · intro i t ht
          have eG : Ex (msk (Msk (DV.addF c a) o) (upd H1 a (.lst xs))) (msk (Msk (DV.addF c a) o) H') := msk_ex (fun b u hb => by
            by_cases hba : b = a
            · subst hba; rw [upd_same] at hb; cases hb; exact e4
            · rw [upd_ne hba] at hb; exact h3 b u hb) fun _ _ m => m
          refine (S5.slot i t ht).mono eG fun b u ho hb => ?_
          by_cases hba : b = a
          · subst hba; rw [upd_same] at hb; cases hb; exact e4
          · rw [upd_ne hba] at hb; exact h3 b u hb
        · rcases m with m | m
          · exact S3.frm b m
          · rw [m, e4]; exact fun z => nomatch z
        · refine S5.pend.mono (msk_ex (fun b u hb => ?_) fun _ _ m => m)
          by_cases hba : b = a
          · subst hba; rw [upd_same] at hb; cases hb; exact e4
          · rw [upd_ne hba] at hb; exact h3 b u hb
      refine S4.adopt e4 (S1.ex.free h2'.1) na (Rps.ex (msk_sub fun b m => ?_) _ _ e5)
      rcases addF_msk.mp m with (m | ⟨i, m⟩) | m
      · exact .inl (.inl m)
      · exact .inl (.inr ⟨i, by simp, m⟩)
      · exact .inr (by rw [m])⟩
end
end DV

namespace DV
open PySem PySem.Spec L2

/-! ### an owned list changes -/
section
variable {K : PySem.W.Frag} {c : Cc} {ρ : Env} {σ : L2.St} {H H' : Hp} {own : Nat → Option Addr} {vs us : List V} {ps : List Pd} {ds es fs : List D}
theorem StO.mutS (S : StO K c ρ σ H own vs (cl es)) {i : Nat} {a : Addr} {xs : List V} (hi : ρ[i]? = some (.lst ds)) (ha : own i = some a) (r : Rps K (msk (Msk c own) H) xs fs) :
    StS K c (ρ.set i (.lst fs)) σ (upd H a (.lst xs)) vs (cl es) := by
  have eG : msk (Msk c own) (upd H a (.lst xs)) = msk (Msk c own) H := msk_upd_in (.inr ⟨i, ha⟩)
  obtain ⟨b, ys, h1, h2, h3, h4⟩ := S.slot i _ hi
  rw [ha] at h1; cases h1
  refine ⟨own, by rw [List.length_set]; exact S.len, fun j t ht => ?_, fun j hj => S.out j (by rw [List.length_set] at hj; exact hj), S.inj, S.new, fun z m => ?_, S.dis, S.ex.mut (S.new i a ha), ?_⟩
  · rw [eG]
    by_cases e : i = j
    · subst e
      have hl := (List.getElem?_eq_some_iff.mp hi).1
      rw [List.getElem?_set_self hl] at ht
      cases ht
      exact ⟨a, xs, ha, h2, upd_same, r⟩
    · rw [List.getElem?_set_ne e] at ht
      refine (S.slot j t ht).mono (Ex.refl _) fun z x ho q => ?_
      rw [upd_ne]
      · exact q
      · intro z'; subst z'; exact e (S.inj _ _ _ ha ho)
  · rw [upd_ne]
    · exact S.frm z m
    · intro e; subst e; exact S.dis _ _ ha m
  · rw [eG]; exact cl_pend S.pend
end
/-- what a method does to a list: from its items and the arguments the new items and the answer -/
abbrev FM := List D → List D → Res (List D × D)
def MuD (K : PySem.W.Frag) (r : V → List V → Hp → VK → Prop) (f : FM) : Prop :=
  ∀ (H : Hp) (M : Addr → Prop) (a : Addr) (xs us : List V) (ds as : List D) (ds' : List D) (d : D), M a → H a = some (.lst xs) → Rps K (msk M H) xs ds → Rps K (msk M H) us as → f ds as = .ok (ds', d) →
    ∀ Q : VK, (∀ v xs', Rps K (msk M H) xs' ds' → Rp K (msk M H) v d → Q v (upd H a (.lst xs'))) → r (.ref a) us H Q
def getL (ρ : Env) (i : Nat) : Res (List D) := match ρ[i]? with
  | some (.lst ds) => .ok ds
  | _ => .err
def sMut (i : Nat) (f : FM) (m : EA) : SM := fun ρ => (m ρ).out fun qs => (clP qs).out fun as => (getL ρ i).out fun ds => (f ds as).out fun r => .nx (ρ.set i (.lst r.1))
/-- y = x.pop(..) -/
def sSetMut (j i : Nat) (f : FM) (m : EA) : SM := fun ρ => (m ρ).out fun qs => (clP qs).out fun as => (getL ρ i).out fun ds => (f ds as).out fun r => .nx ((ρ.set i (.lst r.1)).set j (.val r.2))
theorem getL_ok {ρ : Env} {i : Nat} {ds : List D} (h : getL ρ i = .ok ds) : ρ[i]? = some (.lst ds) := by
  unfold getL at h
  split at h
  · cases h; assumption
  · cases h
section
variable {X : Cx} {c : Cc} {e : Expr} {es : List Expr} {ms : EA} {pos : Pos} {name : Str} {apos cpos : Pos} {id : String} {r : V → List V → Hp → VK → Prop} {f : FM}
/-- the receiver is slot i's own list -/
theorem own_var {K : PySem.W.Frag} {ρ : Env} {σ : L2.St} {H : Hp} {vs : List V} {es : List D} {ds : List D} {i : Nat} (S : StS K c ρ σ H vs (cl es)) (h : ρ[i]? = some (.lst ds)) :
    ∃ own a xs, StO K c ρ σ H own vs (cl es) ∧ own i = some a ∧ σ[i]? = some (some (.ref a)) ∧ H a = some (.lst xs) ∧ Rps K (msk (Msk c own) H) xs ds := by
  obtain ⟨own, S⟩ := S
  obtain ⟨a, xs, h1, h2, h3, h4⟩ := S.slot i _ h
  refine ⟨own, a, xs, S, h1, ?_, h3, h4⟩
  cases q : σ[i]? with
  | none => rw [q] at h2; cases h2
  | some z => rw [q] at h2; rw [show z = some (V.ref a) from h2]
theorem mut_of (hr : MuD X.K r f) {i : Nat} {σ : L2.St} {H : Hp} {ρ : Env} {vs : List V} {es0 : List D} {qs : List Pd} {as ds : List D} {p : List D × D} (S : StS X.K c ρ σ H vs (cl es0)) (e1 : ms ρ = .ok qs) (e2 : clP qs = .ok as) (e3 : getL ρ i = .ok ds) (e4 : f ds as = .ok p)
    {Q : VK} (k : ∀ v H', StS X.K c (ρ.set i (.lst p.1)) σ H' (v :: vs) (cl (p.2 :: es0)) → Q v H') : tBM X.K "list" r (tVar i) (tA X.K c ms) σ H Q := by
  obtain ⟨own, a, xs, S1, ho, hs, hx, rx⟩ := own_var S (getL_ok e3)
  refine ⟨_, hs, .inl ⟨rfl, xs, SqL.of hx⟩, ρ, vs, cl es0, ⟨own, S1⟩, qs, e1, fun us H' hu S2 => ?_⟩
  obtain ⟨own2, S2⟩ := S2
  obtain ⟨p1, p2⟩ := Pends.split hu S2.pend
  have S3 : StO X.K c ρ σ H' own2 vs (cl es0) := { S2 with pend := p2 }
  obtain ⟨b, ys, h1, h2, h3, h4⟩ := S3.slot i _ (getL_ok e3)
  rw [hs] at h2
  have h2 : some (V.ref a) = some (V.ref b) := h2
  cases h2
  obtain ⟨ds', d⟩ := p
  refine hr H' (Msk c own2) a ys us ds as ds' d (.inr ⟨i, h1⟩) h3 h4 (clP_ok p1 e2) e4 Q fun v xs' r1 r2 => k v _ ?_
  have S4 : StO X.K c ρ σ H' own2 (v :: vs) (cl (d :: es0)) := { S3 with pend := .cons r2 S3.pend }
  exact S4.mutS (getL_ok e3) h1 r1
theorem ss_mut (i : Nat) {x : Str} {p : Pos} (slot : Slot "list" name id) (hty : typeOf (.builtin id) = pure (.type "method_descriptor")) (hm : MtR X id r) (hr : MuD X.K r f) (ha : SA X c (e :: es) ms) (hN : X.N[i]? = some x := by rfl)
    (hv : Vis X.env.scope x := by first | exact Or.inl rfl | exact Or.inr (Or.inl rfl)) (hd : (x == ("__debug__" : Str)) = false := by decide) (hcd : (x == ("__classdict__" : Str)) = false := by decide)
    (hbase : attributeBase (.Name x p) name X.env (eval (.Name x p) X.env) = eval (.Name x p) X.env := by rfl)
    (hfew : ((backTo cpos (starEach (e :: es) X.env)).all (fun x => !x.1) && (backToKw cpos (keywordEach [] X.env)).all (fun x => x.1.isSome)
      && decide ((e :: es).length + ([] : List Keyword).length + (if ([] : List Keyword).isEmpty then 0 else 1) < 30)) = true := by rfl)
    (hline : (apos.endLine == cpos.line) = true := by rfl) (hst : starEach (e :: es) X.env = (false, eval e X.env) :: starEach es X.env := by rfl) (hplain : (backTo cpos (starEach es X.env)).any (·.1) = false := by rfl)
    (hs : swapsWith (.Call (.Attribute (.Name x p) name apos) (e :: es) [] cpos) none pos.line X.env = pure false := by rfl) :
    SS X c (.Expr (.Call (.Attribute (.Name x p) name apos) (e :: es) [] cpos) pos) (sMut i f ms) :=
  ⟨PS.imp (ps_expr (pe_bm PySem.F.plainAttrs_list slot hty hm (pe_var hN hv hd hcd) ha.pa hbase hfew hline hst hplain) hs) fun D σ H ⟨ρ, vs, es0, S, k⟩ => by
    obtain ⟨qs, e1, k⟩ := Res.out_ok k
    obtain ⟨as, e2, k⟩ := Res.out_ok k
    obtain ⟨ds, e3, k⟩ := Res.out_ok k
    obtain ⟨p, e4, k⟩ := Res.out_ok k
    exact mut_of hr S e1 e2 e3 e4 fun v H' S' => k _ _ S'.pop⟩
theorem ss_mut0 (i : Nat) {x : Str} {p : Pos} (slot : Slot "list" name id) (hty : typeOf (.builtin id) = pure (.type "method_descriptor")) (hm : MtR X id r) (hr : MuD X.K r f) (hN : X.N[i]? = some x := by rfl)
    (hv : Vis X.env.scope x := by first | exact Or.inl rfl | exact Or.inr (Or.inl rfl)) (hd : (x == ("__debug__" : Str)) = false := by decide) (hcd : (x == ("__classdict__" : Str)) = false := by decide)
    (hbase : attributeBase (.Name x p) name X.env (eval (.Name x p) X.env) = eval (.Name x p) X.env := by rfl) (hline : (apos.endLine == cpos.line) = true := by rfl)
    (hs : swapsWith (.Call (.Attribute (.Name x p) name apos) [] [] cpos) none pos.line X.env = pure false := by rfl) :
    SS X c (.Expr (.Call (.Attribute (.Name x p) name apos) [] [] cpos) pos) (sMut i f aNil) :=
  ⟨PS.imp (ps_expr (pe_bm0 PySem.F.plainAttrs_list slot hty hm (pe_var hN hv hd hcd) hbase hline) hs) fun D σ H ⟨ρ, vs, es0, S, k⟩ => by
    have k : OutOk X.K c D vs es0 ((getL ρ i).out fun ds => (f ds []).out fun r => .nx (ρ.set i (.lst r.1))) := k
    obtain ⟨ds, e3, k⟩ := Res.out_ok k
    obtain ⟨p, e4, k⟩ := Res.out_ok k
    have h := mut_of (ms := aNil) (as := []) (qs := []) hr S rfl rfl e3 e4 (Q := fun _ H1 => D.nx σ H1) fun v H' S' => k _ _ S'.pop
    obtain ⟨v, hv, ty, ρ', vs', ps', S2, qs', eq, h⟩ := h
    cases eq
    exact ⟨v, hv, ty, h [] H rfl S2⟩⟩
/-- y = x.pop(i) -/
theorem ss_setMut (j i : Nat) {x y : Str} {p py : Pos} (slot : Slot "list" name id) (hty : typeOf (.builtin id) = pure (.type "method_descriptor")) (hm : MtR X id r) (hr : MuD X.K r f) (ha : SA X c (e :: es) ms) (hNd : X.N.Nodup) (hN : X.N[i]? = some x := by rfl)
    (hv : Vis X.env.scope x := by first | exact Or.inl rfl | exact Or.inr (Or.inl rfl)) (hd : (x == ("__debug__" : Str)) = false := by decide) (hcd : (x == ("__classdict__" : Str)) = false := by decide)
    (hbase : attributeBase (.Name x p) name X.env (eval (.Name x p) X.env) = eval (.Name x p) X.env := by rfl)
    (hfew : ((backTo cpos (starEach (e :: es) X.env)).all (fun x => !x.1) && (backToKw cpos (keywordEach [] X.env)).all (fun x => x.1.isSome)
      && decide ((e :: es).length + ([] : List Keyword).length + (if ([] : List Keyword).isEmpty then 0 else 1) < 30)) = true := by rfl)
    (hline : (apos.endLine == cpos.line) = true := by rfl) (hst : starEach (e :: es) X.env = (false, eval e X.env) :: starEach es X.env := by rfl) (hplain : (backTo cpos (starEach es X.env)).any (·.1) = false := by rfl)
    (hj : X.N[j]? = some y := by rfl) (hy : Loc X.env.scope y := by first | exact .inl rfl | exact .inr rfl) (hs : swapsWith (.Call (.Attribute (.Name x p) name apos) (e :: es) [] cpos) (some (.Name y py)) pos.line X.env = pure false := by rfl)
    (hf : X.fn y = true ∨ X.env.scope.names.lookup y = some .local := by first | exact .inl rfl | exact .inr rfl | assumption) :
    SS X c (.Assign [.Name y py] (.Call (.Attribute (.Name x p) name apos) (e :: es) [] cpos) pos) (sSetMut j i f ms) :=
  ⟨PS.imp (ps_set hNd hj hy (pe_bm PySem.F.plainAttrs_list slot hty hm (pe_var hN hv hd hcd) ha.pa hbase hfew hline hst hplain) hs hf) fun D σ H ⟨ρ, vs, es0, S, k⟩ => by
    obtain ⟨qs, e1, k⟩ := Res.out_ok k
    obtain ⟨as, e2, k⟩ := Res.out_ok k
    obtain ⟨ds, e3, k⟩ := Res.out_ok k
    obtain ⟨p, e4, k⟩ := Res.out_ok k
    exact mut_of hr S e1 e2 e3 e4 fun v H' S' => k _ _ (S'.put j)⟩
theorem ss_setMut0 (j i : Nat) {x y : Str} {p py : Pos} (slot : Slot "list" name id) (hty : typeOf (.builtin id) = pure (.type "method_descriptor")) (hm : MtR X id r) (hr : MuD X.K r f) (hNd : X.N.Nodup) (hN : X.N[i]? = some x := by rfl)
    (hv : Vis X.env.scope x := by first | exact Or.inl rfl | exact Or.inr (Or.inl rfl)) (hd : (x == ("__debug__" : Str)) = false := by decide) (hcd : (x == ("__classdict__" : Str)) = false := by decide)
    (hbase : attributeBase (.Name x p) name X.env (eval (.Name x p) X.env) = eval (.Name x p) X.env := by rfl) (hline : (apos.endLine == cpos.line) = true := by rfl)
    (hj : X.N[j]? = some y := by rfl) (hy : Loc X.env.scope y := by first | exact .inl rfl | exact .inr rfl) (hs : swapsWith (.Call (.Attribute (.Name x p) name apos) [] [] cpos) (some (.Name y py)) pos.line X.env = pure false := by rfl)
    (hf : X.fn y = true ∨ X.env.scope.names.lookup y = some .local := by first | exact .inl rfl | exact .inr rfl | assumption) :
    SS X c (.Assign [.Name y py] (.Call (.Attribute (.Name x p) name apos) [] [] cpos) pos) (sSetMut j i f aNil) :=
  ⟨PS.imp (ps_set hNd hj hy (pe_bm0 PySem.F.plainAttrs_list slot hty hm (pe_var hN hv hd hcd) hbase hline) hs hf) fun D σ H ⟨ρ, vs, es0, S, k⟩ => by
    have k : OutOk X.K c D vs es0 ((getL ρ i).out fun ds => (f ds []).out fun r => .nx ((ρ.set i (.lst r.1)).set j (.val r.2))) := k
    obtain ⟨ds, e3, k⟩ := Res.out_ok k
    obtain ⟨p, e4, k⟩ := Res.out_ok k
    have h := mut_of (ms := aNil) (as := []) (qs := []) hr S rfl rfl e3 e4 (Q := fun x H1 => gName j x σ H1 D.nx) fun v H' S' => k _ _ (S'.put j)
    obtain ⟨v, hv, ty, ρ', vs', ps', S2, qs', eq, h⟩ := h
    cases eq
    exact ⟨v, hv, ty, h [] H rfl S2⟩⟩
end
/-! the methods -/
def appF : FM := fun ds as => match as with | [d] => if ds.length < lim then .ok (ds ++ [d], .non) else .err | _ => .err
def popF : FM := fun ds as => match as with
  | [] => (optR ds[ds.length - 1]?).bind fun d => .ok (ds.dropLast, d)
  | _ => .err
def popIF : FM := fun ds as => match as with
  | [.int i] => if 0 ≤ i ∧ i < 2 ^ 62 then (optR ds[i.toNat]?).bind fun d => .ok (ds.eraseIdx i.toNat, d) else .err
  | _ => .err
def insF : FM := fun ds as => match as with
  | [.int i, d] => if 0 ≤ i ∧ i < 2 ^ 62 ∧ ds.length < lim then .ok (ds.take i.toNat ++ [d] ++ ds.drop i.toNat, .non) else .err
  | _ => .err
def revF : FM := fun ds as => match as with | [] => .ok (ds.reverse, .non) | _ => .err
def extF : FM := fun ds as => match as with
  | [.lst es] => if ds.length + es.length ≤ lim then .ok (ds ++ es, .non) else .err
  | [.tup es] => if ds.length + es.length ≤ lim then .ok (ds ++ es, .non) else .err
  | _ => .err
section
variable {K : PySem.W.Frag}
theorem appF_ok : MuD K rAppend appF := by
  intro H M a xs us ds as ds' d m hx r1 r2 e Q q
  unfold appF at e
  split at e
  · split at e
    · rename_i hl
      cases e
      cases r2 with
      | cons r2 t =>
        cases t
        refine ⟨a, xs, _, rfl, rfl, hx, ?_, q _ _ (r1.append (.cons r2 .nil)) .non⟩
        rw [r1.length, sizeLine_eq]; exact hl
    · cases e
  · cases e
theorem popF_ok : MuD K rPop popF := by
  intro H M a xs us ds as ds' d m hx r1 r2 e Q q
  unfold popF at e
  split at e
  · cases r2
    obtain ⟨y, ey, e⟩ := Res.bind_ok e
    cases e
    obtain ⟨v, ev, rv⟩ := r1.get (optR_ok ey)
    exact ⟨a, xs, v, rfl, rfl, hx, by rw [r1.length]; exact ev, q _ _ r1.dropLast rv⟩
  · cases e
theorem Rps.erase {G : Hp} : ∀ {vs : List V} {ds : List D} (i : Nat), Rps K G vs ds → Rps K G (vs.eraseIdx i) (ds.eraseIdx i)
  | _, _, _, .nil => .nil
  | _, _, 0, .cons _ t => t
  | _, _, i + 1, .cons q t => .cons q (Rps.erase i t)
theorem popIF_ok : MuD K rPopAt popIF := by
  intro H M a xs us ds as ds' d m hx r1 r2 e Q q
  unfold popIF at e
  split at e
  · split at e
    · rename_i hi
      obtain ⟨y, ey, e⟩ := Res.bind_ok e
      cases e
      obtain ⟨v, ev, rv⟩ := r1.get (optR_ok ey)
      have hl := (List.getElem?_eq_some_iff.mp ev).1
      cases r2 with
      | cons r2 t =>
        cases t
        cases r2
        refine ⟨a, xs, _, _, v, rfl, rfl, hx, by omega, by omega, seqIndex_of hi.1 (by omega), ev, q _ _ (r1.erase _) rv⟩
    · cases e
  · cases e
theorem revF_ok : MuD K rReverse revF := by
  intro H M a xs us ds as ds' d m hx r1 r2 e Q q
  unfold revF at e
  split at e
  · cases r2
    cases e
    exact ⟨a, xs, rfl, rfl, hx, q _ _ r1.reverse .non⟩
  · cases e
def rIns : V → List V → Hp → VK → Prop := fun x vs H Q => ∃ (l : Addr) (xs : List V) (i : Int) (y : V), x = .ref l ∧ vs = [.int i, y] ∧ H l = some (.lst xs) ∧ xs.length < sizeLine ∧ 0 ≤ i ∧ i < 2 ^ 63 ∧ Q .non (upd H l (.lst (xs.take i.toNat ++ [y] ++ xs.drop i.toNat)))
theorem insF_ok : MuD K rIns insF := by
  intro H M a xs us ds as ds' d m hx r1 r2 e Q q
  unfold insF at e
  split at e
  · split at e
    · rename_i hi
      cases e
      cases r2 with
      | cons r2 t =>
        cases t with
        | cons r3 t =>
          cases t
          cases r2
          refine ⟨a, xs, _, _, rfl, rfl, hx, ?_, hi.1, by omega, q _ _ (((r1.take _).append (.cons r3 .nil)).append (r1.drop _)) .non⟩
          rw [r1.length, sizeLine_eq]; exact hi.2.2
    · cases e
  · cases e
def rExtA : V → List V → Hp → VK → Prop := rExtend
/-- xs.extend(a list) -/
def extLF : FM := fun ds as => match as with
  | [.lst es] => if ds.length + es.length ≤ lim then .ok (ds ++ es, .non) else .err
  | _ => .err
theorem extLF_ok : MuD K rExtend extLF := by
  intro H M a xs us ds as ds' d m hx r1 r2 e Q q
  unfold extLF at e
  split at e
  · split at e
    · rename_i hl
      cases e
      cases r2 with
      | cons r2 t =>
        cases t
        cases r2 with
        | lst h1 h2 =>
          exact ⟨a, _, xs, _, rfl, rfl, hx, (msk_some h1).2, lim_le (by rw [r1.length, h2.length]; exact hl), q _ _ (r1.append h2) .non⟩
    · cases e
  · cases e
end

/-! ### x[i] = v -/
def sSetIx (i : Nat) (mi mv : EX) : SM := fun ρ => (mv ρ).out fun v => match v.2 with
  | some _ => .err
  | none => (mi ρ).out fun k => (asInt k.1).out fun j => (getL ρ i).out fun ds => match ixN ds.length j with
    | none => .err
    | some j => .nx (ρ.set i (.lst (ds.set j v.1)))
section
variable {X : Cx} {c : Cc} {e ie : Expr} {me mi : EX} {pos : Pos}
theorem ss_setIx (i : Nat) {x : Str} {p spos : Pos} (he : SX X c e me) (hi : SX X c ie mi) (hN : X.N[i]? = some x := by rfl)
    (hv : Vis X.env.scope x := by first | exact Or.inl rfl | exact Or.inr (Or.inl rfl)) (hd : (x == ("__debug__" : Str)) = false := by decide) (hcd : (x == ("__classdict__" : Str)) = false := by decide)
    (ha : ∀ v, assign (.Subscript (.Name x p) ie spos) X.env v = (do
      let ov ← holding [v] (eval (.Name x p) X.env)
      let iv ← holding [v, ov] (eval ie X.env)
      standAt spos
      holding [v, ov, iv] (setItem ov iv v)
      release [v, ov, iv] []) := by intro _; rfl)
    (hs : swapsWithSole [.Subscript (.Name x p) ie spos] e pos.line X.env = pure false := by rfl) (hw : swappedStores [.Subscript (.Name x p) ie spos] e X.env = pure none := by rfl)
    (h1 : (assignEach [.Subscript (.Name x p) ie spos] X.env).map (·.2) = [assign (.Subscript (.Name x p) ie spos) X.env] := by rfl) :
    SS X c (.Assign [.Subscript (.Name x p) ie spos] e pos) (sSetIx i mi me) :=
  ⟨PS.imp (ps_asg he.pe (pg_sub (pe_var hN hv hd hcd) hi.pe set_list ha) hs hw h1) fun D σ H ⟨ρ, vs, es0, S, k⟩ => by
    obtain ⟨v, ev, k⟩ := Res.out_ok k
    obtain ⟨d, kk⟩ := v
    cases kk with
    | some _ => exact k.elim
    | none =>
      obtain ⟨z, ez, k⟩ := Res.out_ok k
      obtain ⟨j, ej, k⟩ := Res.out_ok k
      obtain ⟨ds, e3, k⟩ := Res.out_ok k
      cases e4 : ixN ds.length j with
      | none => simp only [e4] at k; exact k.elim
      | some n =>
        simp only [e4] at k
        refine ⟨ρ, vs, cl es0, S, _, ev, fun v H1 S1 => ?_⟩
        obtain ⟨own, a, xs, S1, ho, hs, hx, rx⟩ := own_var (es := d :: es0) S1 (getL_ok e3)
        refine ⟨_, hs, ρ, v :: vs, cl (d :: es0), ⟨own, S1⟩, z, ez, fun iv H2 S2 => ?_⟩
        have hj := peekI S2 ej
        have S3 := S2.pop
        obtain ⟨own2, S3⟩ := S3
        obtain ⟨b, ys, h1, h2, h3, h4⟩ := S3.slot i _ (getL_ok e3)
        rw [hs] at h2
        have h2 : some (V.ref a) = some (V.ref b) := h2
        cases h2
        have rv : Rp X.K (msk (Msk c own2) H2) v d := S3.top (p := (d, none))
        have S4 : StO X.K c ρ σ H2 own2 vs (cl es0) := S3.below
        exact ⟨a, ys, j, n, rfl, hj, h3, by rw [h4.length]; exact e4, k _ _ (S4.mutS (getL_ok e3) h1 (h4.set rv n))⟩⟩

/-! ### x op= e -/
def getV (ρ : Env) (i : Nat) : Res D := match ρ[i]? with
  | some (.val d) => .ok d
  | _ => .err
def sAug (i : Nat) (f : D → D → Res D) (m : EX) : SM := fun ρ => (getV ρ i).out fun x => (m ρ).out fun y => (f x y.1).out fun d => .nx (ρ.set i (.val d))
theorem ss_aug (i : Nat) {x : Str} {p : Pos} {op : Operator} {r : R2} {f : D → D → Res D} (ho : OpR X (inplaceOp op) r) (hr : OpD X.K r f) (he : SX X c e me) (hN : X.N.Nodup) (hi : X.N[i]? = some x := by rfl) (hx : Loc X.env.scope x := by first | exact .inl rfl | exact .inr rfl)
    (hf : X.fn x = true ∨ X.env.scope.names.lookup x = some .local := by first | exact .inl rfl | exact .inr rfl | assumption) : SS X c (.AugAssign (.Name x p) op e pos) (sAug i f me) :=
  ⟨PS.imp (ps_aug hN hi hx he.pe (ti := r) (fun pins s σ H x y v u Q => ho pins s σ H x y v u Q) hf) fun D σ H ⟨ρ, vs, es0, S, k⟩ => by
    obtain ⟨x, ex, k⟩ := Res.out_ok k
    obtain ⟨y, ey, k⟩ := Res.out_ok k
    obtain ⟨d, ed, k⟩ := Res.out_ok k
    obtain ⟨own, S⟩ := S
    have hx : ρ[i]? = some (.val x) := by
      unfold getV at ex
      split at ex
      · cases ex; assumption
      · cases ex
    obtain ⟨_, v, h2, h3⟩ := S.slot i _ hx
    refine ⟨v, ?_, ρ, v :: vs, cl (x :: es0), StS.push S h3, y, ey, fun w H1 S1 => ?_⟩
    · cases q : σ[i]? with
      | none => rw [q] at h2; cases h2
      | some z => rw [q] at h2; rw [show z = some v from h2]
    · obtain ⟨own1, S1⟩ := S1
      refine hr H1 _ v w x y.1 d (fun a n => S1.nomsk n) (S1.peek2 (q := y) (p := (x, none))) S1.peek ed _ fun u H2 e2 r2 => k _ _ ?_
      have S2 : StO X.K c ρ σ H1 own1 vs (cl es0) := S1.below.below
      exact StS.put (S2.val e2 r2) i⟩
end
end DV

namespace DV
open PySem PySem.Spec L2

/-! ### methods of texts -/
def MeD (K : PySem.W.Frag) (r : V → List V → Hp → VK → Prop) (f : D → D → Res D) : Prop :=
  (∀ dx dy d, f dx dy = .ok d → ∃ l, dx = .str l) ∧ ∀ (H : Hp) (M : Addr → Prop) (x y : V) (dx dy d : D), (∀ a, H a = none → ¬ M a) → RpP K M H x dx → RpP K M H y dy → f dx dy = .ok d → ∀ Q : VK, (∀ v H', Ex H H' → Rp K (msk M H') v d → Q v H') → r x [y] H Q
def MeD0 (K : PySem.W.Frag) (r : V → List V → Hp → VK → Prop) (f : D → Res D) : Prop :=
  (∀ dx d, f dx = .ok d → ∃ l, dx = .str l) ∧ ∀ (H : Hp) (M : Addr → Prop) (x : V) (dx d : D), (∀ a, H a = none → ¬ M a) → RpP K M H x dx → f dx = .ok d → ∀ Q : VK, (∀ v H', Ex H H' → Rp K (msk M H') v d → Q v H') → r x [] H Q
section
variable {X : Cx} {c : Cc} {o e : Expr} {mo me : EX} {id : String} {name : Str} {apos pos : Pos} {r : V → List V → Hp → VK → Prop}
theorem sx_m1 {f : D → D → Res D} (slot : Slot "str" name id) (ty : typeOf (.builtin id) = pure (.type "method_descriptor")) (rule : MtR X id r) (hr : MeD X.K r f) (ho : SX X c o mo) (he : SX X c e me)
    (hs : starEach [e] X.env = [(false, eval e X.env)] := by rfl) (hbase : attributeBase o name X.env (eval o X.env) = eval o X.env := by rfl) (hline : (apos.endLine == pos.line) = true := by rfl) :
    SX X c (.Call (.Attribute o name apos) [e] [] pos) (xOp f mo me) :=
  ⟨PE.imp (pe_m1 slot ty rule ho.pe he.pe hs hbase hline) fun σ H Q ⟨ρ, vs, ps, S, p, e, k⟩ => by
    obtain ⟨x, ea, e⟩ := Res.bind_ok e
    obtain ⟨y, eb, e⟩ := Res.bind_ok e
    obtain ⟨d, ed, e⟩ := Res.bind_ok e
    cases e
    refine ⟨ρ, vs, ps, S, x, ea, fun v H1 S1 => ⟨?_, ρ, _, _, S1, y, eb, fun u H2 S2 => ?_⟩⟩
    · obtain ⟨l, hl⟩ := hr.1 _ _ _ ed
      obtain ⟨o, S1⟩ := S1
      have h := S1.peek
      rw [hl] at h
      obtain ⟨z, rfl, _⟩ := h.str
      exact ⟨z, rfl⟩
    · obtain ⟨o, S2⟩ := S2
      exact hr.2 H2 _ v u x.1 y.1 d (fun a n => S2.nomsk n) S2.peek2 S2.peek ed Q fun w H3 e3 r3 => k w H3 (S2.below.below.val e3 r3)⟩
theorem sx_m0 {f : D → Res D} (slot : Slot "str" name id) (ty : typeOf (.builtin id) = pure (.type "method_descriptor")) (rule : MtR X id r) (hr : MeD0 X.K r f) (ho : SX X c o mo)
    (hbase : attributeBase o name X.env (eval o X.env) = eval o X.env := by rfl) (hline : (apos.endLine == pos.line) = true := by rfl) : SX X c (.Call (.Attribute o name apos) [] [] pos) (xUn f mo) :=
  ⟨PE.imp (pe_m0 slot ty rule ho.pe hbase hline) fun σ H Q ⟨ρ, vs, ps, S, p, e, k⟩ => by
    obtain ⟨x, ea, e⟩ := Res.bind_ok e
    obtain ⟨d, ed, e⟩ := Res.bind_ok e
    cases e
    refine ⟨ρ, vs, ps, S, x, ea, fun v H1 S1 => ⟨?_, ?_⟩⟩
    · obtain ⟨l, hl⟩ := hr.1 _ _ ed
      obtain ⟨o, S1⟩ := S1
      have h := S1.peek
      rw [hl] at h
      obtain ⟨z, rfl, _⟩ := h.str
      exact ⟨z, rfl⟩
    · obtain ⟨o, S1⟩ := S1
      exact hr.2 H1 _ v x.1 d (fun a n => S1.nomsk n) S1.peek ed Q fun w H3 e3 r3 => k w H3 (S1.below.val e3 r3)⟩
end
def endsL (a b : List Nat) : Bool := decide (b.length ≤ a.length) && (a.drop (a.length - b.length) == b)
def startsL (a b : List Nat) : Bool := a.take b.length == b
def endsD : D → D → Res D
  | .str a, .str b => .ok (.bl (endsL a b))
  | _, _ => .err
def startsD : D → D → Res D
  | .str a, .str b => .ok (.bl (startsL a b))
  | _, _ => .err
def strsOf : List D → Res (List (List Nat))
  | [] => .ok []
  | .str l :: ds => (strsOf ds).bind fun ls => .ok (l :: ls)
  | _ => .err
def joinR (sep : List Nat) (ls : List (List Nat)) : Res D := if (ls.map List.length).sum + ls.length * sep.length ≤ lim then .ok (.str (TL.joinL sep ls)) else .err
def joinD : D → D → Res D
  | .str sep, .lst ds => (strsOf ds).bind fun ls => joinR sep ls
  | .str sep, .tup ds => (strsOf ds).bind fun ls => joinR sep ls
  | _, _ => .err
section
variable {K : PySem.W.Frag}
theorem ends_tl (x y : Str) : Txt.endswith x y = endsL x.cps.toList y.cps.toList := by
  unfold Txt.endswith endsL
  rw [StrLaws.subAt_eq, str_len (x := x) rfl, str_len (x := y) rfl, Nat.zero_add]
  by_cases h : y.cps.toList.length ≤ x.cps.toList.length
  · rw [List.take_of_length_le (by rw [List.length_drop]; omega)]
  · rw [decide_eq_false h, Bool.false_and, Bool.false_and]
theorem starts_tl (x y : Str) : Txt.startswith x y = startsL x.cps.toList y.cps.toList := by
  unfold Txt.startswith startsL
  rw [StrLaws.subAt_eq, str_len (x := x) rfl, str_len (x := y) rfl, Nat.zero_add, List.drop_zero]
  by_cases h : y.cps.toList.length ≤ x.cps.toList.length
  · rw [decide_eq_true h, Bool.true_and]
  · have : (List.take y.cps.toList.length x.cps.toList == y.cps.toList) = false := by
      rw [beq_eq_false_iff_ne]
      intro e
      have := congrArg List.length e
      rw [List.length_take] at this
      omega
    rw [this]; simp
theorem endsD_ok : MeD K (fun x xs H Q => ∃ a b, x = .str a ∧ xs = [.str b] ∧ Q (.bl (Txt.endswith a b)) H) endsD := by
  refine ⟨fun dx dy d e => ?_, fun H M x y dx dy d n hx hy e Q q => ?_⟩
  · unfold endsD at e; split at e
    · exact ⟨_, rfl⟩
    · cases e
  · unfold endsD at e; split at e
    · cases e
      obtain ⟨z, rfl, ez⟩ := hx.str
      obtain ⟨w, rfl, ew⟩ := hy.str
      exact ⟨z, w, rfl, rfl, by rw [ends_tl, ez, ew]; exact q _ _ (Ex.refl H) (.bl _)⟩
    · cases e
theorem startsD_ok : MeD K (fun x xs H Q => ∃ a b, x = .str a ∧ xs = [.str b] ∧ Q (.bl (Txt.startswith a b)) H) startsD := by
  refine ⟨fun dx dy d e => ?_, fun H M x y dx dy d n hx hy e Q q => ?_⟩
  · unfold startsD at e; split at e
    · exact ⟨_, rfl⟩
    · cases e
  · unfold startsD at e; split at e
    · cases e
      obtain ⟨z, rfl, ez⟩ := hx.str
      obtain ⟨w, rfl, ew⟩ := hy.str
      exact ⟨z, w, rfl, rfl, by rw [starts_tl, ez, ew]; exact q _ _ (Ex.refl H) (.bl _)⟩
    · cases e
theorem strsOf_ok {G : Hp} : ∀ {vs : List V} {ds : List D} {ls : List (List Nat)}, Rps K G vs ds → strsOf ds = .ok ls → ∃ ys : List Str, vs = ys.map V.str ∧ ys.map (fun y => y.cps.toList) = ls
  | _, _, _, .nil, e => by cases e; exact ⟨[], rfl, rfl⟩
  | _, _, _, @Rps.cons _ _ v vs d ds a b, e => by
    unfold strsOf at e
    split at e
    · rename_i h; cases h
    · rename_i l ds' h
      cases h
      obtain ⟨ls, e1, e⟩ := Res.bind_ok e
      cases e
      obtain ⟨ys, rfl, h2⟩ := strsOf_ok b e1
      cases a with
      | str x => exact ⟨x :: ys, rfl, by rw [List.map_cons, h2]⟩
    · cases e
theorem joinD_ok : MeD K (fun x xs H Q => ∃ a p, ∃ ys : List Str, x = .str a ∧ xs = [.ref p] ∧ (SqL K H p (ys.map V.str) ∨ SqT K H p (ys.map V.str)) ∧ (ys.map (·.length)).sum + ys.length * a.length ≤ 16777216 ∧ Q (.str (Txt.join a ys)) H) joinD := by
  have go : ∀ {sep : List Nat} {ds : List D} {d : D} {H : Hp} {M : Addr → Prop} {x : V} {p : Addr} {xs : List V} {Q : VK}, RpP K M H x (.str sep) → (SqL K H p xs ∨ SqT K H p xs) → Rps K (msk M H) xs ds → ((strsOf ds).bind fun ls => joinR sep ls) = .ok d → (∀ v H', Ex H H' → Rp K (msk M H') v d → Q v H') →
      ∃ a p', ∃ ys : List Str, x = .str a ∧ [V.ref p] = [.ref p'] ∧ (SqL K H p' (ys.map V.str) ∨ SqT K H p' (ys.map V.str)) ∧ (ys.map (·.length)).sum + ys.length * a.length ≤ 16777216 ∧ Q (.str (Txt.join a ys)) H := by
    intro sep ds d H M x p xs Q hx hs r e q
    obtain ⟨ls, e1, e⟩ := Res.bind_ok e
    unfold joinR at e
    split at e
    · rename_i hl
      cases e
      obtain ⟨z, rfl, ez⟩ := hx.str
      obtain ⟨ys, rfl, ey⟩ := strsOf_ok r e1
      have e2 : ys.map (·.length) = ls.map List.length := by
        rw [← ey, List.map_map]
        exact List.map_congr_left fun y _ => str_len rfl
      refine ⟨z, p, ys, rfl, rfl, hs, ?_, q _ _ (Ex.refl H) (rp_str ?_)⟩
      · rw [e2, str_len ez]
        have : ys.length = ls.length := by rw [← ey, List.length_map]
        rw [this]; exact hl
      · rw [TL.join_eq]
        have := TL.tl_join z ys
        rw [show TL.tl z = sep from ez, show ys.map TL.tl = ls from ey] at this
        exact this
    · cases e
  refine ⟨fun dx dy d e => ?_, fun H M x y dx dy d n hx hy e Q q => ?_⟩
  · unfold joinD at e; split at e
    · exact ⟨_, rfl⟩
    · exact ⟨_, rfl⟩
    · cases e
  · unfold joinD at e; split at e
    · obtain ⟨a, xs, rfl, h1, h2⟩ := hy.lst
      exact go hx (.inl (SqL.of h1)) h2 e q
    · obtain ⟨a, xs, rfl, h1, h2⟩ := hy.tup
      exact go hx (.inr h1) h2 e q
    · cases e
end

/-! ### [::-1] -/
theorem rev_idx (n : Nat) : Builtin.Str.strSliceIndices none none (-1) n = (List.range n).reverse := by
  unfold Builtin.Str.strSliceIndices
  have h1 : ¬ ((-1 : Int) > 0) := by decide
  simp only [h1, if_false]
  rw [PySem.W.krv_sliceRange, PySem.W.krv_range]
def revD : D → Res D
  | .str l => if l.length ≤ lim then .ok (.str l.reverse) else .err
  | .lst ds => .ok (.lst ds.reverse)
  | .rdl ds => .ok (.lst ds.reverse)
  | _ => .err
def tRevA (K : PySem.W.Frag) (te : TE) : TE := fun σ H Q => te σ H fun x H1 => (∃ a xs, x = .ref a ∧ SqL K H1 a xs ∧ ∀ p, H1 p = none → Q (.ref p) (upd H1 p (.lst xs.reverse))) ∨ (∃ z, x = .str z ∧ z.length ≤ sizeLine ∧ Q (.str ⟨z.cps.toList.reverse.toArray⟩) H1)
theorem pe_revA {X : Cx} {e : Expr} {te : TE} {k : Nat} {p1 p2 p3 pos : Pos} (he : PE X e te) : PE X (.Subscript e (.Slice none none (some (.UnaryOp .USub (.Constant (.int 1) k p1) p2)) p3) pos) (tRevA X.K te) := by
  refine ⟨fun pins s σ H Q I h => ?_⟩
  refine PyProof.Rows.Subscript_ (thn (he.run pins s σ H _ I h) fun v s1 ⟨x, H1, I1, r1, q1⟩ => ?_)
  have hst : PO X (some (.UnaryOp .USub (.Constant (.int 1) k p1) p2)) (tPart (tUn (rU fun i => .int (-i)) (tC (.int 1)))) := po_some (pe_un un_neg pe_int)
  refine wpAny_Slice (thn (po_none.run pins s1 σ H1 (fun o H2 => o = none ∧ H2 = H1) I1 ⟨rfl, rfl⟩) fun vl s2 ⟨l, H2, I2, pl, el, e2⟩ => ?_)
  subst el e2
  refine thn (po_none.run pins s2 σ H2 (fun o H3 => o = none ∧ H3 = H2) I2 ⟨rfl, rfl⟩) fun vu s3 ⟨u, H3, I3, pu, eu, e3⟩ => ?_
  subst eu e3
  refine thn (hst.run pins s3 σ H3 (fun o H4 => o = some (-1) ∧ H4 = H3) I3 ⟨1, rfl, -1, rfl, rfl, rfl⟩) fun vs s4 ⟨o, H4, I4, ps, eo, e4⟩ => ?_
  subst eo e4
  have I5 : Inv X pins σ H4 { s4 with heap := s4.heap.push { cls := .type "slice", data := .fields #[vl, vu, vs] } } := I4.kept (t' := s4.toks) fun b ob q => Heap.get?_push_of_some _ q
  rcases q1 with ⟨a, xs, ex, hx, q⟩ | ⟨z, ex, hz, q⟩
  · subst ex
    cases r1
    obtain ⟨its, r, ht, hz⟩ := I5.list hx
    have hlen := r.length
    show wpAny (model X.prog X.w) X.A (PyProof.Rows.subscriptTail e (.Slice none none (some (.UnaryOp .USub (.Constant (.int 1) k p1) p2)) p3) (.ref a) (.ref s4.heap.objs.size)) (EP X pins σ Q) X.xe { s4 with heap := s4.heap.push { cls := .type "slice", data := .fields #[vl, vu, vs] } }
    refine PyProof.Rows.tail_any (ops := [.ref a, .ref s4.heap.objs.size]) ht.isList.typeIs (PySem.slot_list_getitem.lookup) ?_ (by with_unfolding_all rfl)
    refine wpAny_getItem_list_slice ht.isList (Heap.IsSliceOf.new _ vl vu vs) pl pu ps (by decide) ?_ (by rw [List.size_toArray]; omega)
    rw [PySem.W.krv_pick]
    refine ⟨.ref _, _, I5.laid (t' := s4.toks) (o := .lst xs.reverse) (fun b ob q => Heap.get?_push_of_some _ q) (Nat.le_refl _) ?_, rfl, q _ (I5.hok.fresh (Nat.le_refl _))⟩
    exact ⟨by rw [List.length_reverse]; exact hz, _, 0, r.reverse, Heap.get?_push_size _ rfl⟩
  · subst ex
    obtain ⟨t, rfl⟩ := r1
    obtain ⟨l0, rfl, el⟩ := IsPart.raw pl
    obtain ⟨u0, rfl, eu⟩ := IsPart.raw pu
    obtain ⟨s0, rfl, es⟩ := IsPart.raw ps
    show wpAny (model X.prog X.w) X.A (PyProof.Rows.subscriptTail e (.Slice none none (some (.UnaryOp .USub (.Constant (.int 1) k p1) p2)) p3) (.str z t) (.ref s4.heap.objs.size)) (EP X pins σ Q) X.xe { s4 with heap := s4.heap.push { cls := .type "slice", data := .fields #[partValue l0, partValue u0, partValue s0] } }
    refine PyProof.Rows.tail_any (ops := [.ref s4.heap.objs.size, .str z t]) (typeIs_str _ _ _) F.slot_str_getitem.lookup ?_ (by with_unfolding_all rfl)
    refine wpAny_getItem_str_slice (l := l0) (u := u0) (st := s0) ⟨_, Heap.get?_push_size _ rfl, rfl, rfl⟩ (by rw [es]; rfl) ?_
    unfold sliceMade
    rw [es]
    refine (?_ : Made.post (if ((-1 : Int) == 1 && _) = true then _ else _) _ _)
    rw [if_neg (by simp)]
    have ei : slicePicked z l0 u0 s0 = (List.range z.length).reverse := by
      unfold slicePicked
      rw [el, eu, es]
      exact rev_idx _
    have er : ((slicePicked z l0 u0 s0).filterMap (z.cps[·]?)).toArray = z.cps.toList.reverse.toArray := by
      rw [ei, List.filterMap_reverse]
      rw [show z.length = z.cps.size from rfl, PySem.W.krv_all]
    refine ⟨?_, .str _, H4, I5.tok _, ⟨_, rfl⟩, ?_⟩
    · show Array.size _ ≤ _
      rw [er]
      simpa [Str.length] using hz
    · rw [er]; exact q
theorem sx_rev {X : Cx} {c : Cc} {e : Expr} {me : EX} {k : Nat} {p1 p2 p3 pos : Pos} (he : SX X c e me) : SX X c (.Subscript e (.Slice none none (some (.UnaryOp .USub (.Constant (.int 1) k p1) p2)) p3) pos) (xUn revD me) :=
  ⟨PE.imp (pe_revA he.pe) fun σ H Q ⟨ρ, vs, ps, S, p, e, k⟩ => by
    obtain ⟨x, ea, e⟩ := Res.bind_ok e
    obtain ⟨d, ed, e⟩ := Res.bind_ok e
    cases e
    refine ⟨ρ, vs, ps, S, x, ea, fun v H1 S1 => ?_⟩
    obtain ⟨o, S1⟩ := S1
    have h := S1.peek
    unfold revD at ed
    split at ed
    · split at ed
      · rename_i l hx hl
        cases ed
        rw [hx] at h
        obtain ⟨z, rfl, ez⟩ := h.str
        refine .inr ⟨z, rfl, lim_le (by rw [str_len ez]; exact hl), k _ _ (S1.below.val (Ex.refl _) (rp_str ?_))⟩
        rw [← ez]
      · cases ed
    · rename_i hx
      cases ed
      rw [hx] at h
      obtain ⟨a, xs, rfl, h1, h2⟩ := h.lst
      exact .inl ⟨a, xs, rfl, SqL.of h1, fun l hl => k _ _ (S1.below.val (Ex.new hl) (rp_lst hl (S1.nomsk hl) h2.reverse))⟩
    · rename_i hx
      cases ed
      rw [hx] at h
      obtain ⟨a, xs, rfl, h1, h2⟩ := h.rdl
      exact .inl ⟨a, xs, rfl, h1, fun l hl => k _ _ (S1.below.val (Ex.new hl) (rp_lst hl (S1.nomsk hl) h2.reverse))⟩
    · cases ed⟩

/-! ### list(x), list(range(..)) -/
def lstR : D → Res (List D)
  | .lst ds | .tup ds | .rdl ds => .ok ds
  | _ => .err
def nList (m : EX) : EN := fun ρ => (m ρ).bind fun x => (lstR x.1).bind fun ds => .ok (.lst ds)
def xList (m : EX) : EX := fun ρ => (m ρ).bind fun x => (lstR x.1).bind fun ds => .ok (.lst ds, none)
section
variable {X : Cx} {c : Cc} {e : Expr} {me : EX} {p pos : Pos}
theorem lst_of {K : PySem.W.Frag} {H : Hp} {M : Addr → Prop} {v : V} {d : D} {ds : List D} (h : RpP K M H v d) (e : lstR d = .ok ds) : ∃ a xs, v = .ref a ∧ (SqL K H a xs ∨ SqT K H a xs) ∧ Rps K (msk M H) xs ds := by
  unfold lstR at e
  split at e
  · cases e; obtain ⟨a, xs, rfl, h1, h2⟩ := h.lst; exact ⟨a, xs, rfl, .inl (SqL.of h1), h2⟩
  · cases e; obtain ⟨a, xs, rfl, h1, h2⟩ := h.tup; exact ⟨a, xs, rfl, .inr h1, h2⟩
  · cases e; obtain ⟨a, xs, rfl, h1, h2⟩ := h.rdl; exact ⟨a, xs, rfl, .inl h1, h2⟩
  · cases e
theorem nx_list (he : SX X c e me) (hm : X.mg "list" = none) (hg : Gl X "list" := by rfl) (hs : starEach [e] X.env = (false, eval e X.env) :: starEach [] X.env := by rfl) (hpl : (backTo pos (starEach [] X.env)).any (·.1) = false := by rfl) : NX X c (.Call (.Name "list" p) [e] [] pos) (nList me) :=
  ⟨PE.imp (pe_callTy call_list_of hg hm (by decide +kernel) (pa_cons he.pe pa_nil hs) (by decide) (by decide) hs hpl) fun σ H Q ⟨ρ, vs, es0, S, t, e, k⟩ => by
    obtain ⟨x, ex, e⟩ := Res.bind_ok e
    obtain ⟨ds, ed, e⟩ := Res.bind_ok e
    cases e
    refine ⟨ρ, vs, _, S, x, ex, fun v H1 S1 => ?_⟩
    obtain ⟨o, S1⟩ := S1
    obtain ⟨a, xs, rfl, h1, h2⟩ := lst_of S1.peek ed
    have S2 : StO X.K c ρ σ H1 o vs (cl es0) := S1.below
    exact ⟨a, xs, rfl, h1, fun l hl => k _ _ (S2.fresh hl h2)⟩⟩
theorem sx_list (he : SX X c e me) (hm : X.mg "list" = none) (hg : Gl X "list" := by rfl) (hs : starEach [e] X.env = (false, eval e X.env) :: starEach [] X.env := by rfl) (hpl : (backTo pos (starEach [] X.env)).any (·.1) = false := by rfl) : SX X c (.Call (.Name "list" p) [e] [] pos) (xList me) :=
  ⟨PE.imp (pe_callTy call_list_of hg hm (by decide +kernel) (pa_cons he.pe pa_nil hs) (by decide) (by decide) hs hpl) fun σ H Q ⟨ρ, vs, ps, S, t, e, k⟩ => by
    obtain ⟨x, ex, e⟩ := Res.bind_ok e
    obtain ⟨ds, ed, e⟩ := Res.bind_ok e
    cases e
    refine ⟨ρ, vs, _, S, x, ex, fun v H1 S1 => ?_⟩
    obtain ⟨o, S1⟩ := S1
    obtain ⟨a, xs, rfl, h1, h2⟩ := lst_of S1.peek ed
    have S2 : StO X.K c ρ σ H1 o vs ps := S1.below
    exact ⟨a, xs, rfl, h1, fun l hl => k _ _ (S2.val (Ex.new hl) (rp_lst hl (S2.nomsk hl) h2))⟩⟩
def rngR (lo hi : Int) : Res (List D) := if -(2 ^ 62) ≤ lo ∧ lo < 2 ^ 62 ∧ -(2 ^ 62) ≤ hi ∧ hi < 2 ^ 62 ∧ (hi - lo).toNat ≤ lim then .ok ((List.range (hi - lo).toNat).map fun i => .int (lo + (i : Nat))) else .err
def nListR1 (m : EX) : EN := fun ρ => (m ρ).bind fun x => (asInt x.1).bind fun n => (rngR 0 n).bind fun ds => .ok (.lst ds)
theorem rg_rps {G : Hp} (a : Int) : ∀ l : List Nat, Rps X.K G (l.map fun i => V.int (a + (i : Nat))) (l.map fun i => D.int (a + (i : Nat)))
  | [] => .nil
  | _ :: l => .cons (.int _) (rg_rps a l)
theorem nx_listR1 {q : Pos} (he : SX X c e me) (hm : X.mg "list" = none) (hm2 : X.mg "range" = none) (hc : X.calm = true := by rfl) (hg : Gl X "list" := by rfl) (hg2 : Gl X "range" := by rfl) (hs : starEach [e] X.env = (false, eval e X.env) :: starEach [] X.env := by rfl)
    (hs2 : starEach [.Call (.Name "range" q) [e] [] p] X.env = (false, eval (.Call (.Name "range" q) [e] [] p) X.env) :: starEach [] X.env := by rfl) {p' : Pos} : NX X c (.Call (.Name "list" p') [.Call (.Name "range" q) [e] [] p] [] pos) (nListR1 me) :=
  ⟨PE.imp (pe_listRg hc hg hm (prg_1 hg2 hm2 he.pe hs) hs2) fun σ H Q ⟨ρ, vs, es0, S, t, e, k⟩ => by
    obtain ⟨x, ex, e⟩ := Res.bind_ok e
    obtain ⟨n, en, e⟩ := Res.bind_ok e
    obtain ⟨ds, ed, e⟩ := Res.bind_ok e
    cases e
    unfold rngR at ed
    split at ed
    · rename_i hb
      cases ed
      refine ⟨ρ, vs, _, S, x, ex, fun v H1 S1 => ⟨n, peekI S1 en, ⟨hb.1, hb.2.1, hb.2.2.1, hb.2.2.2.1, hb.2.2.2.2⟩, fun l hl => ?_⟩⟩
      obtain ⟨o, S1⟩ := S1
      have S2 : StO X.K c ρ σ H1 o vs (cl es0) := S1.below
      exact k _ _ (S2.fresh hl (rg_rps 0 _))
    · cases ed⟩
end

/-! ### x += e -/
def iaddD : D → D → Res D
  | .int i, .int j => .ok (.int (i + j))
  | .str a, .str b => if a.length + b.length ≤ lim then .ok (.str (a ++ b)) else .err
  | _, _ => .err
def rIadd : R2 := fun x y H Q => (rI0 fun i j => .int (i + j)) x y H Q ∨ ∃ i j, x = .str i ∧ y = .str j ∧ i.length + j.length ≤ sizeLine ∧ Q (.str (i ++ j)) H
theorem iop_addA {X : Cx} : OpR X (inplaceOp .Add) rIadd := iop_add.or iop_add_str
theorem iaddD_ok {K : PySem.W.Frag} : OpD K rIadd iaddD := by
  intro H M x y dx dy d n hx hy e Q q
  unfold iaddD at e
  split at e
  · cases e
    have := hx.int; have := hy.int; subst_vars
    exact .inl ⟨_, _, rfl, rfl, q _ _ (Ex.refl H) (.int _)⟩
  · split at e
    · rename_i hl
      cases e
      obtain ⟨z, rfl, ez⟩ := hx.str
      obtain ⟨w, rfl, ew⟩ := hy.str
      refine .inr ⟨z, w, rfl, rfl, lim_le (by rw [str_len ez, str_len ew]; exact hl), q _ _ (Ex.refl H) (rp_str ?_)⟩
      rw [cps_app, ez, ew]
    · cases e
  · cases e
end DV

namespace DV
open PySem PySem.Spec L2

/-! ### freezing what a slot owns -/
def frzE (ρ : Env) (i : Nat) : Env := match ρ[i]? with
  | some (.lst ds) => ρ.set i (.val (.lst ds))
  | _ => ρ
def sFz (i : Nat) (M : SM) : SM := fun ρ => M (frzE ρ i)
theorem StS.frz {K : PySem.W.Frag} {c : Cc} {ρ : Env} {σ : L2.St} {H : Hp} {vs : List V} {es : List D} (S : StS K c ρ σ H vs (cl es)) (i : Nat) : StS K c (frzE ρ i) σ H vs (cl es) := by
  unfold frzE
  split
  · rename_i ds hi
    obtain ⟨own, S⟩ := S
    obtain ⟨a, xs, h1, h2, h3, h4⟩ := S.slot i _ hi
    have hl := (List.getElem?_eq_some_iff.mp hi).1
    have hM : ∀ b, Msk c (fun j => if j = i then none else own j) b → Msk c own b := fun b m => by
      rcases m with m | ⟨j, m⟩
      · exact .inl m
      · simp only at m; split at m
        · cases m
        · exact .inr ⟨j, m⟩
    have hk : ∀ j b, (if j = i then none else own j) = some b → j ≠ i ∧ own j = some b := fun j b e => by
      split at e
      · cases e
      · exact ⟨by assumption, e⟩
    have na : ¬ Msk c (fun j => if j = i then none else own j) a := fun m => by
      rcases m with m | ⟨j, m⟩
      · exact S.dis i a h1 m
      · obtain ⟨q1, q2⟩ := hk j a m
        exact q1 (S.inj _ _ _ q2 h1)
    refine ⟨fun j => if j = i then none else own j, by rw [List.length_set]; exact S.len, fun j t ht => ?_, fun j hj => ?_, fun j k b h1 h2 => S.inj _ _ _ (hk j b h1).2 (hk k b h2).2, fun j b h => S.new j b (hk j b h).2, S.frm, fun j b h => S.dis j b (hk j b h).2, S.ex, cl_pend (S.pend.mono (msk_sub hM))⟩
    · by_cases e : j = i
      · subst e
        rw [List.getElem?_set_self hl] at ht
        cases ht
        refine ⟨if_pos rfl, .ref a, h2, .lst (by rw [msk_out na]; exact h3) (Rps.ex (msk_sub hM) _ _ h4)⟩
      · rw [List.getElem?_set_ne (Ne.symm e)] at ht
        rw [if_neg e]
        exact (S.slot j t ht).mono (msk_sub hM) fun _ _ _ q => q
    · rw [List.length_set] at hj
      show (if j = i then none else own j) = none
      split
      · rfl
      · exact S.out j hj
  · exact S
theorem ss_fz {X : Cx} {c : Cc} {st : Stmt} {M : SM} (i : Nat) (h : SS X c st M) : SS X c st (sFz i M) :=
  ⟨PS.imp h.ps fun D σ H ⟨ρ, vs, es, S, k⟩ => ⟨frzE ρ i, vs, es, S.frz i, k⟩⟩

/-! ### the module's constants -/
theorem sx_glob {X : Cx} {c : Cc} {x : Str} {u : Value} {v : V} {d : D} {pos : Pos} (hm : X.mg x = some u) (r : RelV v u) (hd : ∀ G : Hp, Rp X.K G v d) (hg : Gl X x := by rfl) (hdb : (x == ("__debug__" : Str)) = false := by decide) : SX X c (.Name x pos) (xC d) :=
  ⟨PE.imp (pe_glob hg hm r hdb) fun σ H Q ⟨ρ, vs, ps, S, p, e, k⟩ => by
    cases e; obtain ⟨o, S⟩ := S; exact k _ _ (StS.push S (hd _))⟩

/-! ### a def that stands, a def that keeps its word -/
structure DefAt (K : PySem.W.Frag) (mg : Str → Option Value) (x qual : Str) (st : Stmt) (ps : List Str) : Prop where
  ex : ∃ f fd, Fun K x qual st f fd ∧ mg x = some (.ref f) ∧ Binds K fd ps []
structure Has (P : Program) (w : World) (K : PySem.W.Frag) (mg : Str → Option Value) (base : Heap) (x : Str) (ps : List Str) (k : Nat) (F : FD) : Prop where
  ex : ∃ f fd, DefOk P w K mg base k f fd ps F ∧ mg x = some (.ref f) ∧ PySem.W.keepIn K (.ref f) = true ∧ Binds K fd ps []
section
variable {P : Program} {w : World} {K : PySem.W.Frag} {mg : Str → Option Value} {base : Heap}
theorem has_of {x qual : Str} {st : Stmt} {N ps : List Str} {k : Nat} {M : SM} (D : DefAt K mg x qual st ps) (S : FnScope N ps (defScope st))
    (hb : ∀ (f : Addr) (cdv : Value) (A : Around) (outer : List PySem.Env) (s : Shared) (H : Hp) (E : XK) (c : Cc), Room k (A.deeper (PyProof.Rows.envOfC qual (defScope st) s.heap.objs.size f cdv)) →
      SB (cxOf CX0 P w K mg base N qual (defScope st) f cdv A outer s H E).nox c (defBody st) M) (hl : ps.length ≤ N.length := by decide) : Has P w K mg base x ps (k + 1) (runD M N.length) := by
  obtain ⟨f, fd, F, m, b⟩ := D.ex
  exact ⟨f, fd, def_ok F S hl (fun cdv A outer s H E c hr => hb f cdv A outer s H E c hr), m, F.kp, b⟩
theorem Has.to {x : Str} {ps : List Str} {k : Nat} {F F' : FD} (h : Has P w K mg base x ps k F) (l : ∀ ds t, F' ds = .ok t → F ds = .ok t) : Has P w K mg base x ps k F' := by
  obtain ⟨f, fd, G, m⟩ := h.ex
  exact ⟨f, fd, G.to l, m⟩
theorem Has.mono {x : Str} {ps : List Str} {j k : Nat} {F : FD} (h : Has P w K mg base x ps j F) (l : j ≤ k) : Has P w K mg base x ps k F := by
  obtain ⟨f, fd, G, m⟩ := h.ex
  exact ⟨f, fd, DefOk.mono G l, m⟩
end
theorem aNil_len : ∀ (ρ : Env) (qs : List Pd), aNil ρ = .ok qs → qs.length = 0 := fun ρ qs e => by cases e; rfl
theorem aCons_len {a : EX} {r : EA} {n : Nat} (h : ∀ (ρ : Env) (qs : List Pd), r ρ = .ok qs → qs.length = n) : ∀ (ρ : Env) (qs : List Pd), aCons a r ρ = .ok qs → qs.length = n + 1 := fun ρ qs e => by
  obtain ⟨x, _, e⟩ := Res.bind_ok e
  obtain ⟨xs, e1, e⟩ := Res.bind_ok e
  cases e
  rw [List.length_cons, h ρ xs e1]
section
variable {X : Cx} {c : Cc} {k j : Nat} {pn : List Str} {F : FD} {x : Str} {p pos : Pos} {e : Expr} {es : List Expr} {ms : EA}
theorem sx_callH (G : Has X.prog X.w X.K X.mg X.base x pn k F) (hr : Room j X.A) (ha : SA X c (e :: es) ms) (hn : ∀ ρ qs, ms ρ = .ok qs → qs.length = pn.length) (hj : k ≤ j := by decide)
    (hg : Gl X x := by rfl) (hdb : (x == ("__debug__" : Str)) = false := by decide) (he : starEach (e :: es) X.env = (false, eval e X.env) :: starEach es X.env := by rfl) (hpl : (backTo pos (starEach es X.env)).any (·.1) = false := by rfl) :
    SX X c (.Call (.Name x p) (e :: es) [] pos) (xCall F ms) := by
  obtain ⟨f, fd, G, m, kp, b⟩ := G.ex
  exact sx_call G (hr.mono hj) m kp b ha hn hg hdb he hpl
theorem nx_callH (G : Has X.prog X.w X.K X.mg X.base x pn k F) (hr : Room j X.A) (ha : SA X c (e :: es) ms) (hn : ∀ ρ qs, ms ρ = .ok qs → qs.length = pn.length) (hj : k ≤ j := by decide)
    (hg : Gl X x := by rfl) (hdb : (x == ("__debug__" : Str)) = false := by decide) (he : starEach (e :: es) X.env = (false, eval e X.env) :: starEach es X.env := by rfl) (hpl : (backTo pos (starEach es X.env)).any (·.1) = false := by rfl) :
    NX X c (.Call (.Name x p) (e :: es) [] pos) (nCall F ms) := by
  obtain ⟨f, fd, G, m, kp, b⟩ := G.ex
  exact nx_call G (hr.mono hj) m kp b ha hn hg hdb he hpl
end

/-! ### the law -/
def spLaw (K : PySem.W.Frag) : Sp := fun vs H Q _ => ∃ (a : Addr) (ns : List Int), vs = [.ref a] ∧ SqL K H a (ns.map V.int) ∧ ns.length ≤ 63 ∧ ∀ H', Q (.bl true) H'
theorem ints_rps {K : PySem.W.Frag} {G : Hp} : ∀ ns : List Int, Rps K G (ns.map V.int) (ns.map D.int)
  | [] => .nil
  | _ :: ns => .cons (.int _) (ints_rps ns)
theorem law_ok {P : Program} {w : World} {K : PySem.W.Frag} {mg : Str → Option Value} {base : Heap} {k : Nat} {f : Addr} {fd : FuncData} {x : Str} {F : FD} (G : DefOk P w K mg base k f fd [x] F) (h : ∀ ns : List Int, ns.length ≤ 63 → F [.rdl (ns.map D.int)] = .ok (.val (.bl true))) :
    FnOk P w K mg base CX0 k f fd [x] (spLaw K) :=
  FnOk.imp G fun vs H Q E z => by
    obtain ⟨a, ns, rfl, hs, hl, q⟩ := z
    refine ⟨rfl, fun _ => False, [.rdl (ns.map D.int)], fun _ z => z.elim, .cons (.rdl (SqL.ex (fun b o e => ?_) hs) (ints_rps ns)) .nil, _, h ns hl, fun v H' r => ?_⟩
    · rw [msk_out (fun z => z)]; exact e
    · obtain ⟨o, ⟨_, v', e, r⟩, _⟩ := r
      cases e
      cases r
      exact q H'
/-- the end: all that the top has left gives the law -/
theorem law_end {l : PySem.W.OpenLaw} {w : World} {K : PySem.W.Frag} {mg : Str → Option Value} {fa : Addr} {k : Nat} {x : Str} {F : FD} {st : Stmt} {qual : Str} {nm : Str} (Dx : ∃ fd, Fun K nm qual st fa fd ∧ ∀ (s : Shared) (v : Value), BindsTo s fd ⟨[v], []⟩ [(x, v)])
    (G : ∀ base : Heap, K.In base → base.Ns mainGlobals mg → ∀ fd, Fun K nm qual st fa fd → DefOk l.prog w K mg base k fa fd [x] F) (h : ∀ ns : List Int, ns.length ≤ 63 → F [.rdl (ns.map DV.D.int)] = .ok (.val (.bl true))) :
    ∃ fd : FuncData, (∀ (s : Shared) (v : Value), BindsTo s fd ⟨[v], []⟩ [(x, v)]) ∧ ∀ base : Heap, K.In base → base.Ns mainGlobals mg → FnOk l.prog w K mg base CX0 k fa fd [x] (spLaw K) := by
  obtain ⟨fd, F', b⟩ := Dx
  exact ⟨fd, b, fun base hb hn => law_ok (G base hb hn fd F') h⟩
end DV

namespace DV
open PySem PySem.Spec L2

/-! ### return x; pairs of targets -/
def sRetV (i : Nat) : SM := fun ρ => match ρ[i]? with
  | some (.val d) => .rt (.val d)
  | some (.lst ds) => .rt (.lst ds)
  | _ => .err
def sAsg (m : EX) (g : EG) : SM := fun ρ => (xCl m ρ).out fun d => match g d ρ with
  | some ρ' => .nx ρ'
  | none => .err
def sPar (i j : Nat) (m n : EX) : SM := fun ρ => (xCl m ρ).out fun d => (xCl n ρ).out fun e => .nx ((ρ.set i (.val d)).set j (.val e))
section
variable {X : Cx} {c : Cc} {e a b : Expr} {me ma mb : EX} {pos : Pos}
theorem xCl_ok {m : EX} {ρ : Env} {d : D} (h : xCl m ρ = .ok d) : m ρ = .ok (d, none) := by
  obtain ⟨p, e1, h⟩ := Res.bind_ok h
  obtain ⟨d', k⟩ := p
  cases k with
  | none => cases h; exact e1
  | some _ => cases h
theorem ss_retV (i : Nat) {x : Str} {p : Pos} (hN : X.N[i]? = some x := by rfl) (hv : Vis X.env.scope x := by first | exact Or.inl rfl | exact Or.inr (Or.inl rfl)) (hd : (x == ("__debug__" : Str)) = false := by decide)
    (hcd : (x == ("__classdict__" : Str)) = false := by decide) : SS X c (.Return (some (.Name x p)) pos) (sRetV i) :=
  ⟨PS.imp (ps_ret (pe_var hN hv hd hcd)) fun D σ H ⟨ρ, vs, es, S, k⟩ => by
    obtain ⟨own, S⟩ := S
    unfold sRetV at k
    split at k
    · rename_i d hi
      obtain ⟨_, v, h2, h3⟩ := S.slot i _ hi
      refine ⟨v, ?_, k v H (S.freshVal h3).rt⟩
      cases q : σ[i]? with
      | none => rw [q] at h2; cases h2
      | some z => rw [q] at h2; rw [show z = some v from h2]
    · rename_i ds hi
      obtain ⟨a, xs, h1, h2, h3, h4⟩ := S.slot i _ hi
      refine ⟨.ref a, ?_, k _ H ⟨some a, ⟨a, xs, rfl, rfl, h3, Rps.ex (msk_sub fun b m => ?_) _ _ h4⟩, fun b e => ?_, S.ex⟩⟩
      · cases q : σ[i]? with
        | none => rw [q] at h2; cases h2
        | some z => rw [q] at h2; rw [show z = some (V.ref a) from h2]
      · rcases m with m | m
        · exact .inl m
        · exact .inr ⟨i, by rw [h1, m]⟩
      · cases e; exact ⟨S.new i _ h1, S.dis i _ h1⟩
    · exact k.elim⟩
theorem ss_asg {tg : Expr} {g : EG} (he : SX X c e me) (hg : SG X tg g) (hs : swapsWithSole [tg] e pos.line X.env = pure false := by rfl) (hw : swappedStores [tg] e X.env = pure none := by rfl)
    (h1 : (assignEach [tg] X.env).map (·.2) = [assign tg X.env] := by rfl) : SS X c (.Assign [tg] e pos) (sAsg me g) := by
  obtain ⟨gt, pg, ok⟩ := hg.pg
  exact ⟨PS.imp (ps_asg he.pe pg hs hw h1) fun D σ H ⟨ρ, vs, es, S, k⟩ => by
    obtain ⟨d, ed, k⟩ := Res.out_ok k
    refine ⟨ρ, vs, _, S, _, xCl_ok ed, fun v H' S' => ?_⟩
    cases e1 : g d ρ with
    | none => simp only [e1] at k; exact k.elim
    | some ρ' =>
      simp only [e1] at k
      exact ok c v d ρ ρ' σ H' vs es S' e1 _ k⟩
theorem ss_par (i j : Nat) {x y : Str} {px py pt : Pos} {kt k2 pt2} (ha : SX X c a ma) (hb : SX X c b mb) (hN : X.N.Nodup) (hc : X.calm = true := by rfl) (hi : X.N[i]? = some x := by rfl) (hj : X.N[j]? = some y := by rfl) (hij : i ≠ j := by decide)
    (hx : X.env.scope.names.lookup x = some .local := by rfl) (hy : X.env.scope.names.lookup y = some .local := by rfl) (hst : starEach [a, b] X.env = (false, eval a X.env) :: starEach [b] X.env := by rfl) (hst2 : starEach [b] X.env = (false, eval b X.env) :: starEach [] X.env := by rfl)
    (hw : swappedStores [.Tuple [.Name x px, .Name y py] kt pt] (.Tuple [a, b] k2 pt2) X.env = pure (some [x, y]) := by rfl)
    (hs : swapsWithSole [.Tuple [.Name x px, .Name y py] kt pt] (.Tuple [a, b] k2 pt2) pos.line X.env = pure false := by rfl) :
    SS X c (.Assign [.Tuple [.Name x px, .Name y py] kt pt] (.Tuple [a, b] k2 pt2) pos) (sPar i j ma mb) :=
  ⟨PS.imp (ps_par hc hN hi hj hij hx hy (pa_cons ha.pe (pa_cons hb.pe pa_nil hst2) hst) hw hs) fun D σ H ⟨ρ, vs, es, S, k⟩ => by
    obtain ⟨d, ed, k⟩ := Res.out_ok k
    obtain ⟨e, ee, k⟩ := Res.out_ok k
    refine ⟨ρ, vs, _, S, _, xCl_ok ed, fun v H1 S1 => ⟨ρ, _, _, S1, _, xCl_ok ee, fun u H2 S2 => ⟨v, u, rfl, k _ _ ?_⟩⟩⟩
    -- stored one after the other
    obtain ⟨own, S2⟩ := S2
    have r1 : Rp X.K (msk (Msk c own) H2) u e := S2.top (p := (e, none))
    have r2 : Rp X.K (msk (Msk c own) H2) v d := S2.below.top (p := (d, none))
    have S3 : StO X.K c ρ σ H2 own vs (cl es) := S2.below.below
    have S4 : StS X.K c ρ σ H2 (v :: u :: vs) (cl (d :: e :: es)) := ⟨own, { S3 with pend := .cons r2 (.cons r1 S3.pend) }⟩
    exact (S4.put i).put j⟩

/-! ### frozen at once -/
def sSetF (i : Nat) (m : EN) : SM := fun ρ => (m ρ).out fun t => (frzR t).out fun d => .nx (ρ.set i (.val d))
theorem StS.frzLast {K : PySem.W.Frag} {c : Cc} {ρ : Env} {σ : L2.St} {H : Hp} {vs : List V} {es : List D} {t : T} {v : Option V} {d : D} (S : StS K c (ρ ++ [t]) (σ ++ [v]) H vs (cl es)) (e : frzR t = .ok d) : StS K c (ρ ++ [.val d]) (σ ++ [v]) H vs (cl es) := by
  cases t with
  | no => cases e
  | val d' => cases e; exact S
  | lst ds =>
    cases e
    have := S.frz ρ.length
    unfold frzE at this
    rw [app_last] at this
    simpa using this
section
variable {X : Cx} {c : Cc} {e : Expr} {mn : EN} {pos : Pos}
theorem ss_setF (i : Nat) {x : Str} {pos' : Pos} (h : NX X c e mn) (hN : X.N.Nodup) (hi : X.N[i]? = some x := by rfl) (hx : Loc X.env.scope x := by first | exact .inl rfl | exact .inr rfl) (hs : swapsWith e (some (.Name x pos')) pos.line X.env = pure false := by rfl) (hf : X.fn x = true ∨ X.env.scope.names.lookup x = some .local := by first | exact .inl rfl | exact .inr rfl | assumption) :
    SS X c (.Assign [.Name x pos'] e pos) (sSetF i mn) :=
  ⟨PS.imp (ps_set hN hi hx h.pe hs hf) fun D σ H ⟨ρ, vs, es, S, k⟩ => by
    obtain ⟨t, et, k⟩ := Res.out_ok k
    obtain ⟨d, ed, k⟩ := Res.out_ok k
    exact ⟨ρ, vs, es, S, t, et, fun v H' S' => k _ _ ((S'.frzLast ed).move i)⟩⟩
end
section
variable {X : Cx} {c : Cc} {elt tg iter : Expr} {ifs : List Expr} {scope : Scope} {own : List (Str × Nat)} {pos : Pos} {mi : EI} {g : EG} {gt : TG} {t : EB} {m : EX}
theorem ss_setLcF (i : Nat) {y : Str} {py spos : Pos} (h : LcOk X c elt tg iter ifs scope own mi gt g t m) (hsw : swapsWith (.ListComp elt [⟨tg, iter, ifs, 0⟩] scope pos) (some (.Name y py)) spos.line X.env = pure true)
    (hy : X.N[i]? = some y := by rfl) (hyl : X.env.scope.names.lookup y = some .local := by rfl) (hs : ∀ x, foldedSetIterable iter X.env x = pure x := by intro _; rfl) :
    SS X c (.Assign [.Name y py] (.ListComp elt [⟨tg, iter, ifs, 0⟩] scope pos) spos) (sSetF i (nLc mi g t m (own.map (·.2)))) :=
  ⟨PS.imp (ps_setLc (wi := fun σ H R => tI X.K c mi σ H R) (g := gt) (tt := fun σ H Q => ∃ c, tT X.K c t σ H Q) (te := fun σ H Q => ∃ c, tX X.K c m σ H Q) h.calm h.nd hy hyl hsw h.it.pi h.ok (fun s H C cl fp => (h.tgt s H C cl fp).pg) (fun s H C cl fp => ⟨fun pins s' σ H' Q I ⟨c, q⟩ => (h.tst c s H C cl fp).pt.run pins s' σ H' Q I q⟩)
    (fun s H C cl fp => ⟨fun pins s' σ H' Q I ⟨c, q⟩ => (h.elt c s H C cl fp).pe.run pins s' σ H' Q I q⟩) hs) fun D σ H ⟨ρ, vs, es0, S, k⟩ => by
    obtain ⟨t, et, k⟩ := Res.out_ok k
    obtain ⟨es, e1, et⟩ := Res.bind_ok et
    cases et
    obtain ⟨d, ed, k⟩ := Res.out_ok k
    refine h.go S e1 fun own H' Dl acc S1 hL r h0 nm S2 => ?_
    exact k _ _ (((S2.adopt hL h0 nm r).frzLast ed).move i)⟩
end

/-! ### chains of two comparisons -/
def xChain (f g : D → D → Res D) (a b m : EX) : EX := fun ρ => (a ρ).bind fun x => (b ρ).bind fun y => (f x.1 y.1).bind fun d => (asB d).bind fun k => match k with
  | false => .ok (.bl false, none)
  | true => (m ρ).bind fun z => (g y.1 z.1).bind fun d => .ok (d, none)
end

/-! ### names of the built-in things -/
theorem b_len : bootBuiltins "len" = some (.builtin "len") := by decide +kernel
theorem b_abs : bootBuiltins "abs" = some (.builtin "abs") := by decide +kernel
theorem b_max : bootBuiltins "max" = some (.builtin "max") := by decide +kernel
theorem b_min : bootBuiltins "min" = some (.builtin "min") := by decide +kernel
theorem b_sum : bootBuiltins "sum" = some (.builtin "sum") := by decide +kernel
theorem b_sorted : bootBuiltins "sorted" = some (.builtin "sorted") := by decide +kernel
theorem b_int : bootBuiltins "int" = some (.type "int") := by decide +kernel
theorem b_str : bootBuiltins "str" = some (.type "str") := by decide +kernel
theorem b_bool : bootBuiltins "bool" = some (.type "bool") := by decide +kernel
theorem b_tuple : bootBuiltins "tuple" = some (.type "tuple") := by decide +kernel
theorem b_list : bootBuiltins "list" = some (.type "list") := by decide +kernel
theorem b_dict : bootBuiltins "dict" = some (.type "dict") := by decide +kernel
def kInt (k : Nat) : Bool := k == 1 || k == 2
def kBool (k : Nat) : Bool := k == 1
def kStr (k : Nat) : Bool := k == 3
def kTup (k : Nat) : Bool := k == 4
def kLst (k : Nat) : Bool := k == 5
def kDict (_ : Nat) : Bool := false
theorem k_int : kindOk "int" kInt = true := by decide +kernel
theorem k_bool : kindOk "bool" kBool = true := by decide +kernel
theorem k_str : kindOk "str" kStr = true := by decide +kernel
theorem k_tup : kindOk "tuple" kTup = true := by decide +kernel
theorem k_lst : kindOk "list" kLst = true := by decide +kernel
theorem k_dict : kindOk "dict" kDict = true := by decide +kernel
end DV

/-! evaluation: what the bodies come to, by simp -/
namespace DV
open PySem PySem.Spec L2

section
variable {α β : Type}
@[simp] theorem lim_ev : lim = 16777216 := (rfl)
@[simp] theorem ok_bind {a : α} {f : α → Res β} : (Res.ok a).bind f = f a := (rfl)
@[simp] theorem exc_bind {x : Xn} {f : α → Res β} : (Res.exc x).bind f = .exc x := (rfl)
@[simp] theorem err_bind {f : α → Res β} : (Res.err).bind f = .err := (rfl)
@[simp] theorem ok_out {a : α} {f : α → Out} : (Res.ok a).out f = f a := (rfl)
@[simp] theorem exc_out {x : Xn} {f : α → Out} : (Res.exc x).out f = .exc x := (rfl)
@[simp] theorem err_out {f : α → Out} : (Res.err).out f = .err := (rfl)
@[simp] theorem optR_some {a : α} : optR (some a) = .ok a := (rfl)
@[simp] theorem optR_none : optR (none : Option α) = .err := (rfl)
end
section
variable {ρ : Env} {i : Nat} {f : D → D → Res D} {g : D → Res D} {a b : EX} {d e : D} {n m : Int}
@[simp] theorem xC_ev : xC d ρ = .ok (d, none) := (rfl)
@[simp] theorem xOp_ev : xOp f a b ρ = (a ρ).bind fun x => (b ρ).bind fun y => (f x.1 y.1).bind fun d => .ok (d, none) := (rfl)
@[simp] theorem xUn_ev : xUn g a ρ = (a ρ).bind fun x => (g x.1).bind fun d => .ok (d, none) := (rfl)
@[simp] theorem xVar_ev : xVar i ρ = match ρ[i]? with
  | some (.val d) => .ok (d, none)
  | some (.lst ds) => .ok (.lst ds, some i)
  | _ => .err := (rfl)
@[simp] theorem xCl_ev : xCl a ρ = (a ρ).bind fun x => match x.2 with | none => .ok x.1 | some _ => .err := (rfl)
@[simp] theorem xAnd_ev : xAnd a b ρ = (a ρ).bind fun x => (asB x.1).bind fun k => match k with | true => b ρ | false => .ok (.bl false, none) := (rfl)
@[simp] theorem xOr_ev : xOr a b ρ = (a ρ).bind fun x => (asB x.1).bind fun k => match k with | true => .ok (.bl true, none) | false => b ρ := (rfl)
@[simp] theorem xIf_ev {t : EB} : xIf t a b ρ = (t ρ).bind fun k => match k with | true => a ρ | false => b ρ := (rfl)
@[simp] theorem aNil_ev : aNil ρ = .ok [] := (rfl)
@[simp] theorem aCons_ev {r : EA} : aCons a r ρ = (a ρ).bind fun x => (r ρ).bind fun xs => .ok (x :: xs) := (rfl)
@[simp] theorem xCa_ev {f : List D → Res D} {m : EA} : xCa f m ρ = (m ρ).bind fun qs => (f (qs.map (·.1))).bind fun d => .ok (d, none) := (rfl)
@[simp] theorem xTup_ev {m : EA} : xTup m ρ = (m ρ).bind fun qs => (clP qs).bind fun ds => if ds.length ≤ lim then .ok (.tup ds, none) else .err := (rfl)
@[simp] theorem xLst_ev {m : EA} : xLst m ρ = (m ρ).bind fun qs => (clP qs).bind fun ds => if ds.length ≤ lim then .ok (.lst ds, none) else .err := (rfl)
@[simp] theorem nLst_ev {m : EA} : nLst m ρ = (m ρ).bind fun qs => (clP qs).bind fun ds => if ds.length ≤ lim then .ok (.lst ds) else .err := (rfl)
@[simp] theorem clP_nil : clP [] = .ok [] := (rfl)
@[simp] theorem clP_cons {ps : List Pd} : clP ((d, none) :: ps) = (clP ps).bind fun ds => .ok (d :: ds) := (rfl)
@[simp] theorem nOf_ev : nOf a ρ = (a ρ).bind fun x => match x.2 with | none => .ok (.val x.1) | some _ => .err := (rfl)
@[simp] theorem xCall_ev {F : FD} {m : EA} : xCall F m ρ = (m ρ).bind fun qs => (F (qs.map (·.1))).bind fun t => (frzR t).bind fun d => if qs.all (fun q => q.2.isNone) || flatD d then .ok (d, none) else .err := (rfl)
@[simp] theorem nCall_ev {F : FD} {m : EA} : nCall F m ρ = (m ρ).bind fun qs => (clP qs).bind fun ds => F ds := (rfl)
@[simp] theorem frzR_val : frzR (.val d) = .ok d := (rfl)
@[simp] theorem frzR_lst {ds : List D} : frzR (.lst ds) = .ok (.lst ds) := (rfl)
@[simp] theorem bOf_ev : bOf a ρ = (a ρ).bind fun x => asB x.1 := (rfl)
@[simp] theorem bTru_ev : bTru a ρ = (a ρ).bind fun x => truB x.1 := (rfl)
@[simp] theorem bNot_ev {t : EB} : bNot t ρ = (t ρ).bind fun b => .ok (!b) := (rfl)
@[simp] theorem bAnd_ev {t u : EB} : bAnd t u ρ = (t ρ).bind fun k => match k with | true => u ρ | false => .ok false := (rfl)
@[simp] theorem bOr_ev {t u : EB} : bOr t u ρ = (t ρ).bind fun k => match k with | true => .ok true | false => u ρ := (rfl)
@[simp] theorem oNone_ev : oNone ρ = .ok none := (rfl)
@[simp] theorem oSome_ev : oSome a ρ = (a ρ).bind fun x => (asInt x.1).bind fun i => .ok (some i) := (rfl)
@[simp] theorem xSl_ev {lo hi : EO} : xSl a lo hi ρ = (a ρ).bind fun x => (lo ρ).bind fun l => (hi ρ).bind fun h => (slD x.1 l h).bind fun d => .ok (d, none) := (rfl)
@[simp] theorem asB_bl {k : Bool} : asB (.bl k) = .ok k := (rfl)
@[simp] theorem asInt_int : asInt (.int n) = .ok n := (rfl)
@[simp] theorem truB_bl {k : Bool} : truB (.bl k) = .ok k := (rfl)
@[simp] theorem truB_int : truB (.int n) = .ok (n != 0) := (rfl)
@[simp] theorem truB_lst {ds : List D} : truB (.lst ds) = .ok (!ds.isEmpty) := (rfl)
@[simp] theorem truB_tup {ds : List D} : truB (.tup ds) = .ok (!ds.isEmpty) := (rfl)
@[simp] theorem notD_bl {k : Bool} : notD (.bl k) = .ok (.bl (!k)) := (rfl)
@[simp] theorem add_int : addD (.int n) (.int m) = .ok (.int (n + m)) := (rfl)
@[simp] theorem sub_int : subD (.int n) (.int m) = .ok (.int (n - m)) := (rfl)
@[simp] theorem neg_int : negD (.int n) = .ok (.int (-n)) := (rfl)
@[simp] theorem lt_int : ltD (.int n) (.int m) = .ok (.bl (decide (n < m))) := (rfl)
@[simp] theorem le_int : leD (.int n) (.int m) = .ok (.bl (decide (n ≤ m))) := (rfl)
@[simp] theorem gt_int : gtD (.int n) (.int m) = .ok (.bl (decide (m < n))) := (rfl)
@[simp] theorem ge_int : geD (.int n) (.int m) = .ok (.bl (decide (m ≤ n))) := (rfl)
@[simp] theorem lt_str {l k : List Nat} : ltD (.str l) (.str k) = .ok (.bl (decide (l < k))) := (rfl)
@[simp] theorem eq_int : eqD (.int n) (.int m) = .ok (.bl (decide (n = m))) := (rfl)
@[simp] theorem ne_int : neD (.int n) (.int m) = .ok (.bl (!decide (n = m))) := (rfl)
@[simp] theorem eq_str {l k : List Nat} : eqD (.str l) (.str k) = .ok (.bl (decide (l = k))) := (rfl)
@[simp] theorem ne_str {l k : List Nat} : neD (.str l) (.str k) = .ok (.bl (!decide (l = k))) := (rfl)
@[simp] theorem eq_bl {l k : Bool} : eqD (.bl l) (.bl k) = .ok (.bl (decide (l = k))) := (rfl)
@[simp] theorem ne_bl {l k : Bool} : neD (.bl l) (.bl k) = .ok (.bl (!decide (l = k))) := (rfl)
theorem mul_right (h : -(2 ^ 64) < m ∧ m < 2 ^ 64) : mulD (.int n) (.int m) = .ok (.int (n * m)) := by
  show (if _ then _ else _) = _
  rw [if_pos (.inr h)]
theorem mul_left (h : -(2 ^ 64) < n ∧ n < 2 ^ 64) : mulD (.int n) (.int m) = .ok (.int (n * m)) := by
  show (if _ then _ else _) = _
  rw [if_pos (.inl h)]
theorem mod_pos (h : 0 < m) : modD (.int n) (.int m) = .ok (.int (n % m)) := by
  show (if _ then _ else _) = _
  rw [if_pos h]
theorem div_pos (h : 0 < m) (h2 : m < 1073741824) : divD (.int n) (.int m) = .ok (.int (n / m)) := by
  show (if _ then _ else _) = _
  rw [if_pos ⟨h, h2⟩]
@[simp] theorem len_lst {ds : List D} : lenD [.lst ds] = .ok (.int ds.length) := (rfl)
@[simp] theorem len_tup {ds : List D} : lenD [.tup ds] = .ok (.int ds.length) := (rfl)
@[simp] theorem len_rdl {ds : List D} : lenD [.rdl ds] = .ok (.int ds.length) := (rfl)
theorem len_str {l : List Nat} (h : l.length ≤ lim) : lenD [.str l] = .ok (.int l.length) := if_pos h
@[simp] theorem int_int : intD [.int n] = .ok (.int n) := (rfl)
@[simp] theorem int_bl {k : Bool} : intD [.bl k] = .ok (.int (if k then 1 else 0)) := (rfl)
@[simp] theorem abs_int : absD [.int n] = .ok (.int (if n < 0 then -n else n)) := (rfl)
@[simp] theorem max_int : maxD [.int n, .int m] = .ok (.int (if m > n then m else n)) := (rfl)
@[simp] theorem min_int : minD [.int n, .int m] = .ok (.int (if m < n then m else n)) := (rfl)
@[simp] theorem tup_lst {ds : List D} : tupD [.lst ds] = .ok (.tup ds) := (rfl)
@[simp] theorem tup_tup {ds : List D} : tupD [.tup ds] = .ok (.tup ds) := (rfl)
@[simp] theorem isi_ev {p : Nat → Bool} : isiD p d = .ok (.bl (p (kd d))) := (rfl)
@[simp] theorem kd_non : kd .non = 0 := (rfl)
@[simp] theorem kd_bl {k : Bool} : kd (.bl k) = 1 := (rfl)
@[simp] theorem kd_int : kd (.int n) = 2 := (rfl)
@[simp] theorem kd_str {l : List Nat} : kd (.str l) = 3 := (rfl)
@[simp] theorem kd_tup {ds : List D} : kd (.tup ds) = 4 := (rfl)
@[simp] theorem kd_lst {ds : List D} : kd (.lst ds) = 5 := (rfl)
@[simp] theorem kd_rdl {ds : List D} : kd (.rdl ds) = 5 := (rfl)
@[simp] theorem ix_lst {ds : List D} : ixD (.lst ds) (.int n) = optR (atI ds n) := (rfl)
@[simp] theorem ix_tup' {ds : List D} : ixD (.tup ds) (.int n) = optR (atI ds n) := (rfl)
@[simp] theorem ix_rdl {ds : List D} : ixD (.rdl ds) (.int n) = optR (atI ds n) := (rfl)
theorem ix_str' {l : List Nat} (h : l.length ≤ lim) : ixD (.str l) (.int n) = (optR (atI l n)).bind fun c => .ok (.str [c]) := if_pos h
theorem atI_of {α : Type} {l : List α} {n : Int} {x : α} (h0 : 0 ≤ n) (h : l[n.toNat]? = some x) : atI l n = some x := by
  have := atI_nat h
  rwa [Int.toNat_of_nonneg h0] at this
@[simp] theorem sl_lst {ds : List D} {lo hi : Option Int} : slD (.lst ds) lo hi = .ok (.lst (cutL ds lo hi)) := (rfl)
@[simp] theorem sl_tup' {ds : List D} {lo hi : Option Int} : slD (.tup ds) lo hi = .ok (.tup (cutL ds lo hi)) := (rfl)
theorem sl_str' {l : List Nat} {lo hi : Option Int} (h : l.length ≤ lim) : slD (.str l) lo hi = .ok (.str (cutL l lo hi)) := if_pos h
theorem add_str {l k : List Nat} (h : l.length + k.length ≤ lim) : addD (.str l) (.str k) = .ok (.str (l ++ k)) := if_pos h
theorem add_lst {l k : List D} (h : l.length + k.length ≤ lim) : addD (.lst l) (.lst k) = .ok (.lst (l ++ k)) := if_pos h
theorem add_tup {l k : List D} (h : l.length + k.length ≤ lim) : addD (.tup l) (.tup k) = .ok (.tup (l ++ k)) := if_pos h
theorem rev_str {l : List Nat} (h : l.length ≤ lim) : revD (.str l) = .ok (.str l.reverse) := if_pos h
@[simp] theorem rev_lst {ds : List D} : revD (.lst ds) = .ok (.lst ds.reverse) := (rfl)
theorem mul_str' {l : List Nat} (h0 : 0 ≤ n) (h1 : n ≤ 1000000) (h : l.length * n.toNat ≤ lim) : mulD (.str l) (.int n) = .ok (.str (rep n l)) := by
  show (if _ then _ else _) = _
  rw [if_pos ⟨by omega, by omega, h⟩]
end
section
variable {α : Type} {l : List α}
theorem cut_take (k : Nat) : cutL l none (some (k : Int)) = l.take k := by
  unfold cutL
  rw [HT.sIx_none, HT.sIx_nat, List.drop_zero, Nat.sub_zero]
  by_cases h : k ≤ l.length
  · rw [Nat.min_eq_left h]
  · rw [Nat.min_eq_right (by omega), List.take_length, List.take_of_length_le (by omega)]
theorem cut_drop (k : Nat) : cutL l (some (k : Int)) none = l.drop k := by
  unfold cutL
  rw [HT.sIx_none, HT.sIx_nat]
  by_cases h : k ≤ l.length
  · rw [Nat.min_eq_left h, List.take_of_length_le (by rw [List.length_drop]; omega)]
  · rw [Nat.min_eq_right (by omega), List.drop_length, List.take_nil, List.drop_of_length_le (by omega)]
theorem cut_mid (j k : Nat) : cutL l (some (j : Int)) (some (k : Int)) = (l.take k).drop j := by
  unfold cutL
  rw [HT.sIx_nat, HT.sIx_nat, List.drop_take]
  by_cases h : j ≤ l.length
  · rw [Nat.min_eq_left h]
    by_cases h2 : k ≤ l.length
    · rw [Nat.min_eq_left h2]
    · rw [Nat.min_eq_right (by omega), List.take_of_length_le (by rw [List.length_drop]; omega), List.take_of_length_le (by rw [List.length_drop]; omega)]
  · rw [Nat.min_eq_right (show l.length ≤ j by omega), List.drop_length, List.take_nil, List.drop_of_length_le (show l.length ≤ j by omega), List.take_nil]
theorem cut_all : cutL l none none = l := by
  unfold cutL
  rw [HT.sIx_none, HT.sIx_none, List.drop_zero, Nat.sub_zero, List.take_length]
end

/-! statements -/
section
variable {ρ ρ' : Env} {M N : SM} {i : Nat} {t : T}
theorem seq_nx (h : M ρ = .nx ρ') : sSeq M N ρ = N ρ' := by unfold sSeq; rw [h]
theorem seq_rt (h : M ρ = .rt t) : sSeq M N ρ = .rt t := by unfold sSeq; rw [h]
theorem seq_bk (h : M ρ = .bk ρ') : sSeq M N ρ = .bk ρ' := by unfold sSeq; rw [h]
@[simp] theorem sNil_ev : sNil ρ = .nx ρ := (rfl)
@[simp] theorem sSet_ev {m : EN} : sSet i m ρ = (m ρ).out fun t => .nx (ρ.set i t) := (rfl)
@[simp] theorem sSetF_ev {m : EN} : sSetF i m ρ = (m ρ).out fun t => (frzR t).out fun d => .nx (ρ.set i (.val d)) := (rfl)
@[simp] theorem sRet_ev {m : EN} : sRet m ρ = (m ρ).out fun t => .rt t := (rfl)
@[simp] theorem sRetN_ev : sRetN ρ = .rt (.val .non) := (rfl)
@[simp] theorem sIf_ev {c : EB} : sIf c M N ρ = (c ρ).out fun b => match b with | true => M ρ | false => N ρ := (rfl)
@[simp] theorem sDrop_ev {m : EX} : sDrop m ρ = (m ρ).out fun _ => .nx ρ := (rfl)
@[simp] theorem sRetV_ev : sRetV i ρ = match ρ[i]? with
  | some (.val d) => .rt (.val d)
  | some (.lst ds) => .rt (.lst ds)
  | _ => .err := (rfl)
@[simp] theorem sMut_ev {f : FM} {m : EA} : sMut i f m ρ = (m ρ).out fun qs => (clP qs).out fun as => (getL ρ i).out fun ds => (f ds as).out fun r => .nx (ρ.set i (.lst r.1)) := (rfl)
@[simp] theorem sSetMut_ev {j : Nat} {f : FM} {m : EA} : sSetMut j i f m ρ = (m ρ).out fun qs => (clP qs).out fun as => (getL ρ i).out fun ds => (f ds as).out fun r => .nx ((ρ.set i (.lst r.1)).set j (.val r.2)) := (rfl)
@[simp] theorem getL_ev : getL ρ i = match ρ[i]? with | some (.lst ds) => .ok ds | _ => .err := (rfl)
@[simp] theorem getV_ev : getV ρ i = match ρ[i]? with | some (.val d) => .ok d | _ => .err := (rfl)
@[simp] theorem sAug_ev {f : D → D → Res D} {m : EX} : sAug i f m ρ = (getV ρ i).out fun x => (m ρ).out fun y => (f x y.1).out fun d => .nx (ρ.set i (.val d)) := (rfl)
@[simp] theorem sAsg_ev {m : EX} {g : EG} : sAsg m g ρ = (xCl m ρ).out fun d => match g d ρ with | some ρ' => .nx ρ' | none => .err := (rfl)
@[simp] theorem sPar_ev {j : Nat} {m n : EX} : sPar i j m n ρ = (xCl m ρ).out fun d => (xCl n ρ).out fun e => .nx ((ρ.set i (.val d)).set j (.val e)) := (rfl)
@[simp] theorem sFz_ev : sFz i M ρ = M (frzE ρ i) := (rfl)
@[simp] theorem frzE_ev : frzE ρ i = match ρ[i]? with | some (.lst ds) => ρ.set i (.val (.lst ds)) | _ => ρ := (rfl)
@[simp] theorem sSetIx_ev {mi mv : EX} : sSetIx i mi mv ρ = (mv ρ).out fun v => match v.2 with
  | some _ => .err
  | none => (mi ρ).out fun k => (asInt k.1).out fun j => (getL ρ i).out fun ds => match ixN ds.length j with
    | none => .err
    | some j => .nx (ρ.set i (.lst (ds.set j v.1))) := (rfl)
@[simp] theorem appF_ev {ds : List D} {d : D} : appF ds [d] = if ds.length < lim then .ok (ds ++ [d], .non) else .err := (rfl)
@[simp] theorem gPut_ev {d : D} : gPut i d ρ = some (ρ.set i (.val d)) := (rfl)
@[simp] theorem gNil_ev : gNil' [] ρ = some ρ := (rfl)
@[simp] theorem gCons_ev {m : EG} {ms : EGs} {d : D} {ds : List D} : gCons' m ms (d :: ds) ρ = match m d ρ with | some ρ' => ms ds ρ' | none => none := (rfl)
@[simp] theorem gTup_ev {n : Nat} {ms : EGs} {ds : List D} : gTup' n ms (.tup ds) ρ = if ds.length = n then ms ds ρ else none := (rfl)
@[simp] theorem forL_nil {g : EG} {B : SM} : forL g B [] ρ = .nx ρ := (rfl)
theorem forL_cons {g : EG} {B : SM} {d : D} {ds : List D} : forL g B (d :: ds) ρ = match g d ρ with
    | none => .err
    | some ρ1 => match B ρ1 with
      | .nx ρ2 => forL g B ds ρ2
      | .ct ρ2 => forL g B ds ρ2
      | .bk ρ2 => .nx ρ2
      | .rt t => .rt t
      | .exc x => .exc x
      | .err => .err := (rfl)
theorem sFor_ev {m : EI} {g : EG} {B : SM} : sFor m g B ρ = (m ρ).out fun ds => forL g B ds ρ := (rfl)
theorem iRng1_ev {m : EX} : iRng1 m ρ = (m ρ).bind fun x => (asInt x.1).bind fun n => rngD 0 n := (rfl)
theorem iRng2_ev {m n : EX} : iRng2 m n ρ = (m ρ).bind fun x => (asInt x.1).bind fun a => (n ρ).bind fun y => (asInt y.1).bind fun b => rngD a b := (rfl)
@[simp] theorem iSeq_ev {m : EX} : iSeq m ρ = (m ρ).bind fun x => match x.2 with | none => seqD x.1 | some _ => .err := (rfl)
@[simp] theorem seq_lst {ds : List D} : seqD (.lst ds) = .ok ds := (rfl)
@[simp] theorem seq_tup {ds : List D} : seqD (.tup ds) = .ok ds := (rfl)
@[simp] theorem seq_rdl {ds : List D} : seqD (.rdl ds) = .ok ds := (rfl)
@[simp] theorem seq_str {l : List Nat} : seqD (.str l) = .ok (l.map fun c => .str [c]) := (rfl)
theorem rng_nat (a b : Nat) (hb : b ≤ 1000000) (ha : a ≤ 1000000) : rngD (a : Int) (b : Int) = .ok ((List.range (b - a)).map fun i => .int ((a + i : Nat) : Int)) := by
  unfold rngD
  rw [if_pos ⟨by omega, by omega, by omega, by omega⟩]
  have : ((b : Int) - (a : Int)).toNat = b - a := by omega
  rw [this]
  rfl
theorem rng_zero (b : Nat) (hb : b ≤ 1000000) : rngD 0 (b : Int) = .ok ((List.range b).map fun (i : Nat) => D.int (i : Int)) := by
  have := rng_nat 0 b hb (by omega)
  simpa using this
/-- a loop by what holds from turn to turn -/
theorem forL_inv {g : EG} {B : SM} {I : Nat → Env → Prop} {R : Out → Prop} : ∀ {ds : List D} {ρ : Env} (k : Nat), I k ρ →
    (∀ (j : Nat) (d : D) (ρ : Env), ds[j]? = some d → I (k + j) ρ → ∃ ρ1, g d ρ = some ρ1 ∧ ((∃ ρ2, (B ρ1 = .nx ρ2 ∨ B ρ1 = .ct ρ2) ∧ I (k + j + 1) ρ2) ∨ (∃ t, B ρ1 = .rt t ∧ R (.rt t)) ∨ ∃ ρ2, B ρ1 = .bk ρ2 ∧ R (.nx ρ2))) →
    (∀ ρ, I (k + ds.length) ρ → R (.nx ρ)) → R (forL g B ds ρ)
  | [], ρ, k, h, _, hd => hd ρ h
  | d :: ds, ρ, k, h, hs, hd => by
    rw [forL_cons]
    obtain ⟨ρ1, e1, h1⟩ := hs 0 d ρ rfl h
    rw [e1]
    have next : ∀ ρ2, I (k + 0 + 1) ρ2 → R (forL g B ds ρ2) := fun ρ2 h2 => forL_inv (k + 1) h2 (fun j d ρ hj hI => by
      have := hs (j + 1) d ρ (by simpa using hj) (by rw [show k + (j + 1) = k + 1 + j by omega]; exact hI)
      rw [show k + (j + 1) + 1 = k + 1 + j + 1 by omega] at this
      exact this) (fun ρ h => hd ρ (by rw [show k + (d :: ds).length = k + 1 + ds.length by rw [List.length_cons]; omega]; exact h))
    rcases h1 with ⟨ρ2, h2 | h2, h3⟩ | ⟨t, h2, h3⟩ | ⟨ρ2, h2, h3⟩
    · simp only [h2]; exact next ρ2 h3
    · simp only [h2]; exact next ρ2 h3
    · simp only [h2]; exact h3
    · simp only [h2]; exact h3
/-- a loop whose turns all go on -/
theorem forL_run {g : EG} {B : SM} {I : Nat → Env → Prop} {ds : List D} {ρ : Env} (h0 : I 0 ρ) (hs : ∀ (j : Nat) (d : D) (ρ : Env), ds[j]? = some d → I j ρ → ∃ ρ1 ρ2, g d ρ = some ρ1 ∧ B ρ1 = .nx ρ2 ∧ I (j + 1) ρ2) :
    ∃ ρ', forL g B ds ρ = .nx ρ' ∧ I ds.length ρ' := by
  refine forL_inv (I := I) (R := fun o => ∃ ρ', o = .nx ρ' ∧ I ds.length ρ') 0 h0 (fun j d ρ hj hI => ?_) (fun ρ h => ⟨ρ, rfl, by simpa using h⟩)
  obtain ⟨ρ1, ρ2, e1, e2, h⟩ := hs j d ρ hj (by simpa using hI)
  exact ⟨ρ1, e1, .inl ⟨ρ2, .inl e2, by simpa using h⟩⟩
end
/-! comprehensions, evaluated -/
theorem lcL_of {g : EG} {t : EB} {m : EX} {ρ : Env} (p : D → Bool) (f : D → D) : ∀ {ds : List D}, (∀ d ∈ ds, ∃ ρ1, g d ρ = some ρ1 ∧ t ρ1 = .ok (p d) ∧ (p d = true → xCl m ρ1 = .ok (f d))) →
    lcL g t m ds ρ = .ok ((ds.filter p).map f)
  | [], _ => rfl
  | d :: ds, h => by
    obtain ⟨ρ1, e1, e2, e3⟩ := h d (.head _)
    have ih := lcL_of (ds := ds) p f fun d h' => h d (.tail _ h')
    unfold lcL
    rw [e1]
    show ((t ρ1).bind _) = _
    rw [e2, ok_bind, List.filter_cons]
    cases hp : p d with
    | true => simp only [e3 hp, ok_bind, ih, if_true, List.map_cons]
    | false => simp only [ih]; simp
theorem lcD_of {mi : EI} {g : EG} {t : EB} {m : EX} {ws : List Nat} {ρ ρ' : Env} {ds : List D} (p : D → Bool) (f : D → D) (h1 : mi ρ = .ok ds) (hw : wipeE ρ ws = .ok ρ') (hl : ds.length ≤ lim)
    (h : ∀ d ∈ ds, ∃ ρ1, g d ρ' = some ρ1 ∧ t ρ1 = .ok (p d) ∧ (p d = true → xCl m ρ1 = .ok (f d))) : lcD mi g t m ws ρ = .ok ((ds.filter p).map f) := by
  unfold lcD
  rw [h1, ok_bind, hw, ok_bind, lcL_of p f h, ok_bind, if_pos]
  rw [List.length_map]
  exact Nat.le_trans (List.length_filter_le _ _) hl
theorem lcD_map {mi : EI} {g : EG} {m : EX} {ws : List Nat} {ρ ρ' : Env} {ds : List D} (f : D → D) (h1 : mi ρ = .ok ds) (hw : wipeE ρ ws = .ok ρ') (hl : ds.length ≤ lim)
    (h : ∀ d ∈ ds, ∃ ρ1, g d ρ' = some ρ1 ∧ xCl m ρ1 = .ok (f d)) : lcD mi g (fun _ => .ok true) m ws ρ = .ok (ds.map f) := by
  have := lcD_of (t := fun _ => .ok true) (m := m) (fun _ => true) f h1 hw hl fun d hd => by
    obtain ⟨ρ1, e1, e2⟩ := h d hd
    exact ⟨ρ1, e1, rfl, fun _ => e2⟩
  rwa [List.filter_eq_self.2 (fun _ _ => rfl)] at this
@[simp] theorem xLc_ev {mi : EI} {g : EG} {t : EB} {m : EX} {ws : List Nat} {ρ : Env} : xLc mi g t m ws ρ = (lcD mi g t m ws ρ).bind fun es => .ok (.lst es, none) := (rfl)
@[simp] theorem nLc_ev {mi : EI} {g : EG} {t : EB} {m : EX} {ws : List Nat} {ρ : Env} : nLc mi g t m ws ρ = (lcD mi g t m ws ρ).bind fun es => .ok (.lst es) := (rfl)
theorem strsOf_map {α : Type} {f : α → List Nat} : ∀ {l : List α}, strsOf (l.map fun a => .str (f a)) = .ok (l.map f)
  | [] => rfl
  | a :: l => by
    show ((strsOf (l.map fun a => .str (f a))).bind _) = _
    rw [strsOf_map (l := l)]; rfl
/-- a loop that answers at place k -/
theorem forL_ret {g : EG} {B : SM} {I : Nat → Env → Prop} {ds : List D} {ρ : Env} {t : T} (k : Nat) (d : D) (hk : ds[k]? = some d) (h0 : I 0 ρ)
    (hs : ∀ (j : Nat) (d : D) (ρ : Env), j < k → ds[j]? = some d → I j ρ → ∃ ρ1 ρ2, g d ρ = some ρ1 ∧ B ρ1 = .nx ρ2 ∧ I (j + 1) ρ2)
    (hr : ∀ ρ, I k ρ → ∃ ρ1, g d ρ = some ρ1 ∧ B ρ1 = .rt t) : forL g B ds ρ = .rt t := by
  refine forL_inv (I := fun j ρ => j ≤ k ∧ I j ρ) (R := fun o => o = .rt t) 0 ⟨Nat.zero_le _, h0⟩ (fun j d' ρ hj hI => ?_) (fun ρ h => ?_)
  · rw [Nat.zero_add] at hI ⊢
    by_cases hjk : j = k
    · subst hjk
      rw [hk] at hj; cases hj
      obtain ⟨ρ1, e1, e2⟩ := hr ρ hI.2
      exact ⟨ρ1, e1, .inr (.inl ⟨_, e2, rfl⟩)⟩
    · obtain ⟨ρ1, ρ2, e1, e2, e3⟩ := hs j d' ρ (by omega) hj hI.2
      exact ⟨ρ1, e1, .inl ⟨ρ2, .inl e2, by omega, e3⟩⟩
  · have := (List.getElem?_eq_some_iff.1 hk).1
    omega
theorem rng_at {a n j : Nat} {d : D} (h : ((List.range n).map fun i => D.int ((a + i : Nat) : Int))[j]? = some d) : j < n ∧ d = .int ((a + j : Nat) : Int) := by
  rw [List.getElem?_map] at h
  cases e : (List.range n)[j]? with
  | none => rw [e] at h; cases h
  | some x =>
    rw [e] at h
    have := List.getElem?_eq_some_iff.1 e
    obtain ⟨h1, h2⟩ := this
    rw [List.length_range] at h1
    rw [List.getElem_range] at h2
    subst h2
    exact ⟨h1, (Option.some.inj h).symm⟩
theorem rng_get (a : Nat) {n j : Nat} (h : j < n) : ((List.range n).map fun i => D.int ((a + i : Nat) : Int))[j]? = some (.int ((a + j : Nat) : Int)) := by
  rw [List.getElem?_map, List.getElem?_range h]; rfl
theorem seq_go {ρ : Env} {M N : SM} {o : Out} (h : M ρ = .nx ρ) (h2 : N ρ = o) : sSeq M N ρ = o := by unfold sSeq; rw [h]; exact h2
theorem seq_to {ρ : Env} {M N : SM} {o : Out} (ρ' : Env) (h : M ρ = .nx ρ') (h2 : N ρ' = o) : sSeq M N ρ = o := by unfold sSeq; rw [h]; exact h2
end DV

/-! what is not reached; chains; the least of a list of texts -/
namespace DV
open PySem PySem.Spec L2

section
variable {X : Cx} {c : Cc} {a b e : Expr} {ma mb mc : EX} {pos : Pos}
/-- a statement that nothing reaches -/
theorem ss_err {s : Stmt} : SS X c s (fun _ => .err) := ⟨⟨fun pins s σ H D I q => by
    obtain ⟨ρ, vs, ps, S, k⟩ := q
    exact k.elim⟩⟩
theorem chain_of {K : PySem.W.Frag} {r r' : R2} {f g : D → D → Res D} (hr : OpD K r f) (hr' : OpD K r' g) {σ : L2.St} {H : Hp} {Q : VK} (h : tX K c (xChain f g ma mb mc) σ H Q) : tChain r r' (tX K c ma) (tX K c mb) (tX K c mc) σ H Q := by
  obtain ⟨ρ, vs, ps, S, p, e, k⟩ := h
  obtain ⟨x, ea, e⟩ := Res.bind_ok e
  obtain ⟨y, eb, e⟩ := Res.bind_ok e
  obtain ⟨d, ed, e⟩ := Res.bind_ok e
  obtain ⟨bb, ed2, e⟩ := Res.bind_ok e
  have hd := asB_ok ed2
  subst hd
  refine ⟨ρ, vs, ps, S, x, ea, fun v H1 S1 => ⟨ρ, _, _, S1, y, eb, fun u H2 S2 => ?_⟩⟩
  obtain ⟨o, S2⟩ := S2
  refine hr H2 _ v u x.1 y.1 _ (fun a n => S2.nomsk n) S2.peek2 S2.peek ed _ fun w H3 e3 r3 => ⟨bb, (RpP.bl (.inl r3)), ?_⟩
  cases bb with
  | false =>
    rw [if_neg Bool.false_ne_true]
    cases e
    cases r3
    exact k _ H3 (S2.below.below.val e3 (.bl false))
  | true =>
    rw [if_pos rfl]
    have e : (mc ρ).bind (fun z => (g y.1 z.1).bind fun d => .ok (d, none)) = .ok p := e
    obtain ⟨z, ez, e⟩ := Res.bind_ok e
    obtain ⟨d2, ed2, e⟩ := Res.bind_ok e
    cases e
    have S3 := (S2.val e3 r3).pop
    refine ⟨ρ, _, _, S3, z, ez, fun t H4 S4 => ?_⟩
    obtain ⟨o4, S4⟩ := S4
    exact hr' H4 _ u t y.1 z.1 _ (fun a n => S4.nomsk n) S4.peek2 S4.peek ed2 Q fun w H5 e5 r5 => k w H5 (S4.below.below.below.val e5 r5)
theorem sx_chain {op op' : CmpOp} {r r' : R2} {f g : D → D → Res D} (ho : OpR X (compareOp op) r) (hr : OpD X.K r f) (ho' : OpR X (compareOp op') r') (hr' : OpD X.K r' g) (ha : SX X c a ma) (hb : SX X c b mb) (he : SX X c e mc)
    (hm : lastMarks [op, op'] [b, e] = false := by with_unfolding_all rfl) : SX X c (.Compare a [op, op'] [b, e] pos) (xChain f g ma mb mc) :=
  ⟨PE.imp (pe_chain ho ho' ha.pe hb.pe he.pe hm) fun σ H Q h => chain_of hr hr' h⟩
theorem bx_chain {op op' : CmpOp} {r r' : R2} {f g : D → D → Res D} (ho : OpR X (compareOp op) r) (hr : OpD X.K r f) (ho' : OpR X (compareOp op') r') (hr' : OpD X.K r' g) (ha : SX X c a ma) (hb : SX X c b mb) (he : SX X c e mc)
    (hm : lastMarks [op, op'] [b, e] = false := by with_unfolding_all rfl) : BX X c (.Compare a [op, op'] [b, e] pos) (bOf (xChain f g ma mb mc)) :=
  ⟨PT.imp (pt_chain ho ho' ha.pe hb.pe he.pe hm) fun σ H Q ⟨ρ, vs, ps, S, p, e, k⟩ => by
    obtain ⟨x, ex, e⟩ := Res.bind_ok e
    refine chain_of hr hr' ⟨ρ, vs, ps, S, x, ex, fun v H' S' => ⟨p, ?_, k H' S'.pop⟩⟩
    obtain ⟨o, S'⟩ := S'
    have h := S'.peek
    rw [asB_ok e] at h
    exact h.bl⟩
end
@[simp] theorem xChain_ev {f g : D → D → Res D} {a b m : EX} {ρ : Env} : xChain f g a b m ρ = (a ρ).bind fun x => (b ρ).bind fun y => (f x.1 y.1).bind fun d => (asB d).bind fun k => match k with
  | false => .ok (.bl false, none)
  | true => (m ρ).bind fun z => (g y.1 z.1).bind fun d => .ok (d, none) := (rfl)

/-! ### the least of a list of texts, of a list of ints -/
theorem iter_any {prog : Program} {w : World} {A : Around} {E : Value → Shared → Prop} {s : Shared} {l : Addr} {its : Array Value} {Q : Value → Shared → Prop} (hl : s.heap.IsList l its)
    (h : ∀ s₂ : Shared, s₂ = { s with heap := s.heap.push { cls := .type "list_iterator", data := .fields #[.ref l, .int 0 0] } } →
      (s₂.heap.IsListIter s.heap.objs.size l 0 ∧ s₂.heap.IsList l its) → (∀ b ∈ [s.heap.objs.size, l], b < s₂.heap.objs.size) → l ≠ s.heap.objs.size → Q (.ref s.heap.objs.size) s₂) :
    wpAny (model prog w) A (pyIter (.ref l)) Q E s := by
  have hlt : l < s.heap.objs.size := by obtain ⟨_, e, _⟩ := hl; exact Heap.lt_size e
  refine wpAny_pyIter_list hl (h _ rfl ⟨⟨_, Heap.get?_push_size _ rfl, rfl, rfl⟩, hl.push _⟩ (fun b hb => ?_) (Nat.ne_of_lt hlt))
  show b < (s.heap.push _).objs.size
  rw [Heap.size_push]
  rcases List.mem_cons.mp hb with rfl | hb
  · exact Nat.lt_succ_self _
  · rcases List.mem_cons.mp hb with rfl | hb
    · exact Nat.lt_succ_of_lt hlt
    · cases hb
theorem gives_lt {prog : Program} {w : World} {A : Around} {P : Nat → Value → Prop} (val : Nat → Str) (hval : ∀ i v, P i v → ∃ t, v = .str (val i) t) :
    CmpOf prog w A .Lt P (fun i j => decide ((val i).cps.toList < (val j).cps.toList)) := fun i j vi vj s Q E hi hj h => by
  obtain ⟨t, rfl⟩ := hval i vi hi
  obtain ⟨u, rfl⟩ := hval j vj hj
  exact richCompare_gives (op := .Lt) (typeIs_str s _ t) (typeIs_str s _ u) F.slot_str_lt F.entry_str_lt (F.args_str_lt_2 _ _) (gives_str_lt _ _ t u) (fun x => nomatch x) h
theorem strsAre_at : ∀ {its : List Value} {xs : List Str}, PyProof.Rows.StrsAre its xs → ∀ {i : Nat} {v : Value}, its[i]? = some v → ∃ t, v = .str (xs.getD i ⟨#[]⟩) t
  | _, _, .nil, i, v, h => by simp at h
  | _, _, .cons y t r, 0, v, h => ⟨t, by simpa using h.symm⟩
  | _, _, .cons y t r, i + 1, v, h => by
    obtain ⟨t, e⟩ := strsAre_at r (i := i) (v := v) (by simpa using h)
    exact ⟨t, by simpa using e⟩
theorem strsAre_len : ∀ {its : List Value} {xs : List Str}, PyProof.Rows.StrsAre its xs → its.length = xs.length
  | _, _, .nil => rfl
  | _, _, .cons y t r => by rw [List.length_cons, List.length_cons, strsAre_len r]
theorem min_strs {prog : Program} {w : World} {A : Around} {E : Value → Shared → Prop} {s : Shared} {l : Addr} {its : List Value} {xs : List Str} {Q : Value → Shared → Prop} (hh : A.handled = none) (hl : s.heap.IsList l its.toArray) (hi : PyProof.Rows.StrsAre its xs) (hne : 0 < xs.length)
    (h : ∀ h' tk t, (∀ b o, s.heap.get? b = some o → h'.get? b = some o) → Q (.str (xs.getD (argBest (fun i j => decide ((xs.getD i ⟨#[]⟩).cps.toList < (xs.getD j ⟨#[]⟩).cps.toList)) (xs.length - 1)) ⟨#[]⟩) t) { s with heap := h', toks := tk }) :
    wpAny (model prog w) A (call (.builtin "min") [.ref l]) Q E s := by
  refine call_min_walk (iter_any hl fun s₂ e st hfp hlI => ?_)
  subst e
  have hlen := strsAre_len hi
  refine ⟨_, _, _, _, _, _, _, rfl, Walks.list (A := A.in1) hh _ l hlI its.toArray, st, hfp, by simpa [hlen] using hne, gives_lt (fun i => xs.getD i ⟨#[]⟩) (fun i v hv => strsAre_at hi (by simpa using hv)), fun v h' tk hP hk => ?_⟩
  have hP : its[argBest (fun i j => decide ((xs.getD i ⟨#[]⟩).cps.toList < (xs.getD j ⟨#[]⟩).cps.toList)) (xs.length - 1)]? = some v := by
    rw [List.size_toArray, hlen] at hP
    simpa using hP
  obtain ⟨t, rfl⟩ := strsAre_at hi hP
  exact h h' tk t (old_kept hk)
/-- min(xs) of a list of texts: the first of the least -/
def minS (ls : List (List Nat)) : List Nat := ls.getD (argBest (fun i j => decide (ls.getD i [] < ls.getD j [])) (ls.length - 1)) []
def rMinS (K : PySem.W.Frag) : List V → Hp → VK → Prop := fun vs H Q => ∃ (a : Addr) (xs : List Str), vs = [V.ref a] ∧ SqL K H a (xs.map V.str) ∧ 0 < xs.length ∧ ∀ m : Str, m.cps.toList = minS (xs.map fun y => y.cps.toList) → Q (.str m) H
theorem getD_str (xs : List Str) (i : Nat) : (xs.map fun y => y.cps.toList).getD i [] = (xs.getD i ⟨#[]⟩).cps.toList := by
  simp only [List.getD_eq_getElem?_getD, List.getElem?_map]
  cases xs[i]? <;> rfl
theorem cr_minS {X : Cx} (hc : X.calm = true) : CallR X (.builtin "min") (rMinS X.K) := by
  intro pins s σ H vs us Q I r h
  obtain ⟨a, xs, rfl, hs, hne, q⟩ := h
  obtain ⟨its, rv, hl, _⟩ := I.list hs
  rw [Vals.ref1 r]
  refine min_strs (I.ok.hd hc) hl.isList rv.strs hne fun h' tk t hk => ⟨.str _, H, I.kept hk, ⟨_, rfl⟩, q _ ?_⟩
  unfold minS
  rw [getD_str, List.length_map]
  simp only [getD_str]
def intsOf : List D → Res (List Int)
  | [] => .ok []
  | .int i :: ds => (intsOf ds).bind fun l => .ok (i :: l)
  | _ => .err
theorem intsOf_ok {K : PySem.W.Frag} {G : Hp} : ∀ {vs : List V} {ds : List D} {ls : List Int}, Rps K G vs ds → intsOf ds = .ok ls → vs = ls.map V.int
  | _, [], ls, h, e => by cases h; cases e; rfl
  | _, d :: ds, ls, h, e => by
    cases h with
    | cons a b =>
      unfold intsOf at e
      split at e
      · rename_i h; cases h
      · rename_i h
        cases h
        obtain ⟨l, e1, e⟩ := Res.bind_ok e
        cases e
        cases a
        rw [intsOf_ok b e1]; rfl
      · cases e
def minL : List Int → Int
  | [] => 0
  | [a] => a
  | a :: b :: l => let m := minL (b :: l); if m < a then m else a
def maxL : List Int → Int
  | [] => 0
  | [a] => a
  | a :: b :: l => let m := maxL (b :: l); if m > a then m else a
theorem minL_ok : ∀ {l : List Int}, l ≠ [] → minL l ∈ l ∧ ∀ y ∈ l, minL l ≤ y
  | [a], _ => by simp [minL]
  | a :: b :: l, _ => by
    obtain ⟨h1, h2⟩ := minL_ok (l := b :: l) (by simp)
    unfold minL
    simp only []
    split
    · refine ⟨.tail _ h1, fun y hy => ?_⟩
      rcases List.mem_cons.1 hy with rfl | hy
      · omega
      · exact h2 y hy
    · refine ⟨.head _, fun y hy => ?_⟩
      rcases List.mem_cons.1 hy with rfl | hy
      · omega
      · have := h2 y hy; omega
theorem maxL_ok : ∀ {l : List Int}, l ≠ [] → maxL l ∈ l ∧ ∀ y ∈ l, y ≤ maxL l
  | [a], _ => by simp [maxL]
  | a :: b :: l, _ => by
    obtain ⟨h1, h2⟩ := maxL_ok (l := b :: l) (by simp)
    unfold maxL
    simp only []
    split
    · refine ⟨.tail _ h1, fun y hy => ?_⟩
      rcases List.mem_cons.1 hy with rfl | hy
      · omega
      · exact h2 y hy
    · refine ⟨.head _, fun y hy => ?_⟩
      rcases List.mem_cons.1 hy with rfl | hy
      · omega
      · have := h2 y hy; omega
def minA : List D → Res D
  | [.lst (.str l :: ds)] => (strsOf (.str l :: ds)).bind fun ls => .ok (.str (minS ls))
  | [.lst (.int i :: ds)] => (intsOf (.int i :: ds)).bind fun ls => .ok (.int (minL ls))
  | [.int i, .int j] => minD [.int i, .int j]
  | _ => .err
def maxA : List D → Res D
  | [.lst (.int i :: ds)] => (intsOf (.int i :: ds)).bind fun ls => .ok (.int (maxL ls))
  | [.int i, .int j] => maxD [.int i, .int j]
  | _ => .err
theorem str_of (m : List Nat) : ∃ y : Str, y.cps.toList = m := ⟨⟨m.toArray⟩, by simp⟩
section
variable {K : PySem.W.Frag}
theorem minA_ok : CaD K (fun xs H Q => ((∃ i j, xs = [.int i, .int j] ∧ Q (.int (if j < i then j else i)) H) ∨ rMin K xs H Q) ∨ rMinS K xs H Q) minA := by
  intro H M xs ds d n hp e Q q
  unfold minA at e
  split at e
  · cases hp with
    | cons h t =>
      cases t
      obtain ⟨ls, e1, e⟩ := Res.bind_ok e
      cases e
      obtain ⟨a, xs, rfl, h1, h2⟩ := h.lst
      obtain ⟨ys, rfl, ey⟩ := strsOf_ok h2 e1
      refine .inr ⟨a, ys, rfl, SqL.of h1, ?_, fun m hm => q _ _ (Ex.refl H) ?_⟩
      · have := h2.length
        rw [List.length_map, List.length_cons] at this
        omega
      · rw [← ey, ← hm]
        exact .str _
  · cases hp with
    | cons h t =>
      cases t
      obtain ⟨ls, e1, e⟩ := Res.bind_ok e
      cases e
      obtain ⟨a, xs, rfl, h1, h2⟩ := h.lst
      have := intsOf_ok h2 e1
      subst this
      have hl := h2.length
      rw [List.length_map, List.length_cons] at hl
      refine .inl (.inr ⟨a, ls, rfl, SqL.of h1, by omega, fun m hm hle => ?_⟩)
      obtain ⟨g1, g2⟩ := minL_ok (l := ls) (List.length_pos_iff.1 (by omega))
      have : m = minL ls := by have := hle _ g1; have := g2 _ hm; omega
      rw [this]
      exact q _ _ (Ex.refl H) (.int _)
  · exact .inl (.inl (minD_ok H M xs _ d n hp e Q q))
  · cases e
theorem maxA_ok : CaD K (fun xs H Q => (∃ i j, xs = [.int i, .int j] ∧ Q (.int (if j > i then j else i)) H) ∨ rMax K xs H Q) maxA := by
  intro H M xs ds d n hp e Q q
  unfold maxA at e
  split at e
  · cases hp with
    | cons h t =>
      cases t
      obtain ⟨ls, e1, e⟩ := Res.bind_ok e
      cases e
      obtain ⟨a, xs, rfl, h1, h2⟩ := h.lst
      have := intsOf_ok h2 e1
      subst this
      have hl := h2.length
      rw [List.length_map, List.length_cons] at hl
      refine .inr ⟨a, ls, rfl, SqL.of h1, by omega, fun m hm hle => ?_⟩
      obtain ⟨g1, g2⟩ := maxL_ok (l := ls) (List.length_pos_iff.1 (by omega))
      have : m = maxL ls := by have := hle _ g1; have := g2 _ hm; omega
      rw [this]
      exact q _ _ (Ex.refl H) (.int _)
  · exact .inl (maxD_ok H M xs _ d n hp e Q q)
  · cases e
end
theorem call_minA {X : Cx} (hc : X.calm = true) : CallR X (.builtin "min") (fun xs H Q => ((∃ i j, xs = [.int i, .int j] ∧ Q (.int (if j < i then j else i)) H) ∨ rMin X.K xs H Q) ∨ rMinS X.K xs H Q) := ((call_min2 hc).or (cr_min hc)).or (cr_minS hc)
theorem call_maxA {X : Cx} (hc : X.calm = true) : CallR X (.builtin "max") (fun xs H Q => (∃ i j, xs = [.int i, .int j] ∧ Q (.int (if j > i then j else i)) H) ∨ rMax X.K xs H Q) := (call_max2 hc).or (cr_max hc)
@[simp] theorem minA_int {n m : Int} : minA [.int n, .int m] = .ok (.int (if m < n then m else n)) := (rfl)
@[simp] theorem maxA_int {n m : Int} : maxA [.int n, .int m] = .ok (.int (if m > n then m else n)) := (rfl)

/-! ### defs that call themselves -/
def fuelF (M : FD → SM) (n : Nat) : Nat → FD
  | 0 => runD (fun _ => .err) n
  | k + 1 => runD (M (fuelF M n k)) n
section
variable {P : Program} {w : World} {K : PySem.W.Frag} {mg : Str → Option Value} {base : Heap}
theorem sb_err {X : Cx} {c : Cc} {sts : List Stmt} : SB X c sts (fun _ => .err) := ⟨⟨fun pins s σ H D I q => by
    obtain ⟨ρ, vs, ps, S, k⟩ := q
    exact k.elim⟩⟩
theorem has_rec {x qual : Str} {st : Stmt} {N ps : List Str} {M : FD → SM} (D : DefAt K mg x qual st ps) (S : FnScope N ps (defScope st)) (hl : ps.length ≤ N.length)
    (step : ∀ (k : Nat) (F : FD), Has P w K mg base x ps k F → Has P w K mg base x ps (k + 1) (runD (M F) N.length)) : ∀ j, Has P w K mg base x ps (j + 1) (fuelF M N.length j)
  | 0 => has_of D S (fun _ _ _ _ _ _ _ _ _ => sb_err) hl
  | j + 1 => step (j + 1) _ (has_rec D S hl step j)
end
/-! ### the module's constants, their marks unknown -/
theorem sx_cS {X : Cx} {c : Cc} {x y : Str} {l : List Nat} {pos : Pos} (hm : ∃ t, X.mg x = some (.str y t)) (hl : y.cps.toList = l := by decide +kernel) (hg : Gl X x := by rfl) (hdb : (x == ("__debug__" : Str)) = false := by decide) : SX X c (.Name x pos) (xC (.str l)) := by
  obtain ⟨t, hm⟩ := hm
  exact sx_glob (v := .str y) hm ⟨t, rfl⟩ (fun _ => rp_str hl) hg hdb
theorem sx_cI {X : Cx} {c : Cc} {x : Str} {i : Int} {pos : Pos} (hm : ∃ t, X.mg x = some (.int i t)) (hg : Gl X x := by rfl) (hdb : (x == ("__debug__" : Str)) = false := by decide) : SX X c (.Name x pos) (xC (.int i)) := by
  obtain ⟨t, hm⟩ := hm
  exact sx_glob (v := .int i) hm ⟨t, rfl⟩ (fun _ => .int i) hg hdb
/-- a loop that answers at the first thing that is not good -/
theorem forL_all {g : EG} {B : SM} {I : Env → Prop} {t : T} (good : D → Bool) : ∀ {ds : List D} {ρ : Env}, I ρ →
    (∀ d ∈ ds, ∀ ρ, I ρ → ∃ ρ1, g d ρ = some ρ1 ∧ ((good d = true ∧ ∃ ρ2, B ρ1 = .nx ρ2 ∧ I ρ2) ∨ (good d = false ∧ B ρ1 = .rt t))) →
    (ds.all good = true ∧ ∃ ρ', forL g B ds ρ = .nx ρ' ∧ I ρ') ∨ (ds.all good = false ∧ forL g B ds ρ = .rt t)
  | [], ρ, h, _ => .inl ⟨rfl, ρ, rfl, h⟩
  | d :: ds, ρ, h, hs => by
    obtain ⟨ρ1, e1, h1⟩ := hs d (.head _) ρ h
    rcases h1 with ⟨hg, ρ2, e2, h2⟩ | ⟨hg, e2⟩
    · rw [List.all_cons, hg, Bool.true_and, forL_cons, e1]
      simp only [e2]
      exact forL_all good h2 fun d hd => hs d (.tail _ hd)
    · refine .inr ⟨by rw [List.all_cons, hg]; rfl, ?_⟩
      rw [forL_cons, e1]
      simp only [e2]
/-- a loop that always goes on: by what holds, the things in sight -/
theorem forL_keep {g : EG} {B : SM} {I : Env → Prop} : ∀ {ds : List D} {ρ : Env}, I ρ → (∀ d ∈ ds, ∀ ρ, I ρ → ∃ ρ1 ρ2, g d ρ = some ρ1 ∧ B ρ1 = .nx ρ2 ∧ I ρ2) → ∃ ρ', forL g B ds ρ = .nx ρ' ∧ I ρ'
  | [], ρ, h, _ => ⟨ρ, rfl, h⟩
  | d :: ds, ρ, h, hs => by
    obtain ⟨ρ1, ρ2, e1, e2, h2⟩ := hs d (.head _) ρ h
    obtain ⟨ρ', e3, h3⟩ := forL_keep h2 fun d hd => hs d (.tail _ hd)
    refine ⟨ρ', ?_, h3⟩
    rw [forL_cons, e1]
    simp only [e2]
    exact e3
theorem sWhile_ev {n : Nat} {t : EB} {B : SM} {ρ : Env} : sWhile n t B ρ = whileL t B n ρ := rfl
/-- a loop that is done after k turns -/
theorem whileL_run {t : EB} {B : SM} {I : Nat → Env → Prop} : ∀ {k n : Nat} {ρ : Env} (j : Nat), j ≤ k → k < n + j → I j ρ → (∀ i ρ, i < k → I i ρ → t ρ = .ok true ∧ ∃ ρ2, B ρ = .nx ρ2 ∧ I (i + 1) ρ2) → (∀ ρ, I k ρ → t ρ = .ok false) → ∃ ρ', whileL t B n ρ = .nx ρ' ∧ I k ρ'
  | k, 0, ρ, j, hj, hk, _, _, _ => by omega
  | k, n + 1, ρ, j, hj, hk, h, hs, hd => by
    unfold whileL
    by_cases e : j = k
    · subst e
      rw [hd ρ h]
      exact ⟨ρ, rfl, h⟩
    · obtain ⟨e1, ρ2, e2, h2⟩ := hs j ρ (by omega) h
      rw [e1]
      obtain ⟨ρ', e3, h3⟩ := whileL_run (k := k) (n := n) (j + 1) (by omega) (by omega) h2 hs hd
      refine ⟨ρ', ?_, h3⟩
      simp only [ok_out, e2]
      exact e3
theorem str_int {i : Int} (h : i.natAbs.log2 < 1920) : strD [.int i] = .ok (.str (strI i)) := if_pos h
@[simp] theorem isD_non : isD .non .non = .ok (.bl true) := (rfl)
@[simp] theorem isD_bl {b : Bool} : isD (.bl b) .non = .ok (.bl false) := (rfl)
@[simp] theorem isD_int {n : Int} : isD (.int n) .non = .ok (.bl false) := (rfl)
@[simp] theorem isD_str {l : List Nat} : isD (.str l) .non = .ok (.bl false) := (rfl)
@[simp] theorem isD_tup {l : List D} : isD (.tup l) .non = .ok (.bl false) := (rfl)
@[simp] theorem isD_lst {l : List D} : isD (.lst l) .non = .ok (.bl false) := (rfl)
@[simp] theorem xList_ev {m : EX} {ρ : Env} : xList m ρ = (m ρ).bind fun x => (lstR x.1).bind fun ds => .ok (.lst ds, none) := (rfl)
@[simp] theorem nList_ev {m : EX} {ρ : Env} : nList m ρ = (m ρ).bind fun x => (lstR x.1).bind fun ds => .ok (.lst ds) := (rfl)
@[simp] theorem lstR_tup {ds : List D} : lstR (.tup ds) = .ok ds := (rfl)
@[simp] theorem lstR_lst {ds : List D} : lstR (.lst ds) = .ok ds := (rfl)
@[simp] theorem endsD_ev {a b : List Nat} : endsD (.str a) (.str b) = .ok (.bl (endsL a b)) := (rfl)
@[simp] theorem startsD_ev {a b : List Nat} : startsD (.str a) (.str b) = .ok (.bl (startsL a b)) := (rfl)
@[simp] theorem iadd_int {n m : Int} : iaddD (.int n) (.int m) = .ok (.int (n + m)) := (rfl)
theorem in_one {c : Nat} {l : List Nat} : inD (.str [c]) (.str l) = .ok (.bl (decide (c ∈ l))) := rfl
theorem ni_one {c : Nat} {l : List Nat} : niD (.str [c]) (.str l) = .ok (.bl (!decide (c ∈ l))) := rfl
theorem ends_snoc {l : List Nat} {c : Nat} : endsL (l ++ [c]) [c] = true := by
  unfold endsL
  simp
theorem ends_one {l : List Nat} {c : Nat} : endsL l [c] = true ↔ ∃ k, l = k ++ [c] := by
  constructor
  · intro h
    unfold endsL at h
    rw [Bool.and_eq_true] at h
    refine ⟨l.take (l.length - 1), ?_⟩
    have h2 := eq_of_beq h.2
    simp only [List.length_singleton] at h2
    rw [← h2, List.take_append_drop]
  · rintro ⟨k, rfl⟩; exact ends_snoc
theorem cut_neg1 {α : Type} {l : List α} : cutL l none (some (-1)) = l.dropLast := by
  unfold cutL
  rw [HT.sIx_none, List.drop_zero, Nat.sub_zero]
  have : HT.sIx l.length l.length (some (-1)) = l.length - 1 := by
    unfold HT.sIx
    simp
    omega
  rw [this, List.dropLast_eq_take]
end DV

namespace LW
open L2 DV
theorem pow_int {n m : Int} (h : 0 ≤ m ∧ m ≤ 1000000 ∧ n.natAbs < 2 ^ 64) : powD (.int n) (.int m) = .ok (.int (n ^ m.toNat)) := if_pos h
theorem pow_10_18 : powD (.int 10) (.int 18) = .ok (.int 1000000000000000000) := by
  rw [pow_int (by decide)]
  exact congrArg (fun x : Int => Res.ok (D.int x)) (by decide)
theorem run_rt {M : SM} {n : Nat} {ds : List D} {t : T} (h : M (ds.map .val ++ List.replicate (n - ds.length) .no) = .rt t) : runD M n ds = .ok t := by
  unfold runD; rw [h]
theorem run_nx {M : SM} {n : Nat} {ds : List D} {ρ : Env} (h : M (ds.map .val ++ List.replicate (n - ds.length) .no) = .nx ρ) : runD M n ds = .ok (.val .non) := by
  unfold runD; rw [h]
theorem emod_lt (a : Int) {m : Int} (h : 0 < m) : 0 ≤ a % m ∧ a % m < m := ⟨Int.emod_nonneg _ (by omega), Int.emod_lt_of_pos _ h⟩
abbrev dB1 : SM := (sSet 4 (nOf (xOp modD (xCa intD (aCons (xOp addD (xOp addD (xOp mulD (xVar 4) (xC (.int 48271))) (xOp mulD (xC (.int 13)) (xVar 6))) (xC (.int 11))) aNil)) (xC (.int 1000003)))))
abbrev dB2 : SM := (sIf (bAnd (bTru (xVar 3)) (bOf (xOp gtD (xVar 2) (xC (.int 0))))) (sSeq (sMut 5 appF (aCons (xOp modD (xCa intD (aCons (xVar 2) aNil)) (xC (.int 1000))) aNil))
  (sSet 2 (nOf (xOp divD (xVar 2) (xC (.int 1000)))))) (sMut 5 appF (aCons (xOp modD (xOp modD (xCa intD (aCons (xOp addD (xOp addD (xOp mulD (xVar 4) (xVar 4)) (xOp mulD (xC (.int 7)) (xVar 4))) (xVar 6)) aNil)) (xC (.int 999983))) (xC (.int 1000))) aNil)))
section
variable (c n left mixed k : Int) (dg : Bool) (ds : List D)
theorem dstep1 : dB1 [.val (.int c), .val (.int n), .val (.int left), .val (.bl dg), .val (.int mixed), .lst ds, .val (.int k)] = .nx [.val (.int c), .val (.int n), .val (.int left), .val (.bl dg), .val (.int ((mixed * 48271 + 13 * k + 11) % 1000003)), .lst ds, .val (.int k)] := by
  simp [mod_pos, mul_right, mul_left]
theorem dstep2 (hm : 0 ≤ mixed ∧ mixed < 1000003) (hl : 0 ≤ left) (hd : ds.length < 1000) :
   ∃ left' d : Int, dB2 [.val (.int c), .val (.int n), .val (.int left), .val (.bl dg), .val (.int mixed), .lst ds, .val (.int k)] = .nx [.val (.int c), .val (.int n), .val (.int left'), .val (.bl dg), .val (.int mixed), .lst (ds ++ [.int d]), .val (.int k)] ∧ 0 ≤ left' ∧ 0 ≤ d ∧ d < 1000 := by
  have hl2 : ds.length < 16777216 := by omega
  by_cases h : dg = true ∧ 0 < left
  · refine ⟨left / 1000, left % 1000, ?_, by omega, by omega, by omega⟩
    obtain ⟨rfl, h⟩ := h
    simp [sSeq, mod_pos, div_pos, h, hl2]
  · refine ⟨left, (mixed * mixed + 7 * mixed + k) % 999983 % 1000, ?_, hl, by omega, by omega⟩
    have hm2 : mulD (.int mixed) (.int mixed) = .ok (.int (mixed * mixed)) := mul_right (by omega)
    have hm3 : mulD (.int 7) (.int mixed) = .ok (.int (7 * mixed)) := mul_right (by omega)
    rcases dg with _ | _
    · simp [mod_pos, hm2, hm3, hl2]
    · have h : ¬ (0 < left) := by simpa using h
      simp [mod_pos, hm2, hm3, hl2, h]
end
abbrev dBody : SM := sSeq dB1 dB2
def M_l_draws : SM := (sSeq (sSet 2 (nOf (xCa absD (aCons (xVar 0) aNil))))
  (sSeq (sSet 3 (nOf (xOp geD (xVar 2) (xOp powD (xC (.int 10)) (xC (.int 18))))))
  (sSeq (sSet 4 (nOf (xOp modD (xCa intD (aCons (xVar 2) aNil)) (xC (.int 1000003)))))
  (sSeq (sSet 5 (nLst aNil))
  (sSeq (sFor (iRng1 (xVar 1)) (gPut 6) dBody)
  (sRetV 5))))))
def F_l_draws : FD := runD M_l_draws 7
theorem draws_ok (c : Int) (n : Nat) (hn : n ≤ 1000) : ∃ ds : List Int, ds.length = n ∧ (∀ d ∈ ds, 0 ≤ d ∧ d < 1000) ∧ F_l_draws [.int c, .int n] = .ok (.lst (ds.map .int)) := by
  let a : Int := if c < 0 then -c else c
  have ha : 0 ≤ a := by simp only [a]; split <;> omega
  have hm := emod_lt a (m := 1000003) (by decide)
  have e1 : (sSet 2 (nOf (xCa absD (aCons (xVar 0) aNil)))) [.val (.int c), .val (.int n), .no, .no, .no, .no, .no] = .nx [.val (.int c), .val (.int n), .val (.int a), .no, .no, .no, .no] := by
    simp [a]
  have e2 : (sSet 3 (nOf (xOp geD (xVar 2) (xOp powD (xC (.int 10)) (xC (.int 18)))))) [.val (.int c), .val (.int n), .val (.int a), .no, .no, .no, .no] = .nx [.val (.int c), .val (.int n), .val (.int a), .val (.bl (decide (1000000000000000000 ≤ a))), .no, .no, .no] := by
    simp [pow_10_18]
  have e3 : (sSet 4 (nOf (xOp modD (xCa intD (aCons (xVar 2) aNil)) (xC (.int 1000003))))) [.val (.int c), .val (.int n), .val (.int a), .val (.bl (decide (1000000000000000000 ≤ a))), .no, .no, .no] = .nx [.val (.int c), .val (.int n), .val (.int a), .val (.bl (decide (1000000000000000000 ≤ a))), .val (.int (a % 1000003)), .no, .no] := by
    simp [mod_pos]
  have e4 (l) : (sSet 5 (nLst aNil)) [.val (.int c), .val (.int n), .val (.int a), .val (.bl (decide (1000000000000000000 ≤ a))), .val (.int (a % 1000003)), l, .no] = .nx [.val (.int c), .val (.int n), .val (.int a), .val (.bl (decide (1000000000000000000 ≤ a))), .val (.int (a % 1000003)), .lst [], .no] := by
    simp
  let I : Nat → Env → Prop := fun k ρ => ∃ (left mixed : Int) (dg : Bool) (ds : List Int) (t : T), ρ = [.val (.int c), .val (.int n), .val (.int left), .val (.bl dg), .val (.int mixed), .lst (ds.map .int), t] ∧ 0 ≤ left ∧ 0 ≤ mixed ∧ mixed < 1000003 ∧ ds.length = k ∧ ∀ d ∈ ds, 0 ≤ d ∧ d < 1000
  obtain ⟨ρ', e5, left, mixed, dg, ds, t, rfl, _, _, _, hl, hd⟩ := forL_run (g := gPut 6) (B := dBody) (I := I) (ds := (List.range n).map fun (i : Nat) => D.int (i : Int)) (ρ := [.val (.int c), .val (.int n), .val (.int a), .val (.bl (decide (1000000000000000000 ≤ a))), .val (.int (a % 1000003)), .lst [], .no])
    ⟨a, _, _, [], _, rfl, ha, hm.1, hm.2, rfl, by simp⟩ (by
      rintro j d ρ hj ⟨left, mixed, dg, ds, t, rfl, h1, h2, h3, hl, hd⟩
      have hjn : j < n := by
        have := List.getElem?_eq_some_iff.1 hj
        simpa using this.1
      have : d = .int j := by
        rw [List.getElem?_map, List.getElem?_range hjn] at hj
        simpa using hj.symm
      subst this
      have hm := emod_lt (mixed * 48271 + 13 * (j : Int) + 11) (m := 1000003) (by decide)
      obtain ⟨left', d, e, h4, h5, h6⟩ := dstep2 c n left ((mixed * 48271 + 13 * (j : Int) + 11) % 1000003) j dg (ds.map .int) hm h1 (by simp; omega)
      refine ⟨_, _, rfl, (seq_nx (dstep1 c n left mixed j dg (ds.map .int))).trans e, left', _, dg, ds ++ [d], .val (.int j), by simp, h4, hm.1, hm.2, by simp [hl], ?_⟩
      intro x hx
      rcases List.mem_append.1 hx with h | h
      · exact hd x h
      · rw [List.mem_singleton.1 h]; exact ⟨h5, h6⟩)
  refine ⟨ds, by simpa using hl, hd, ?_⟩
  have e6 : (sFor (iRng1 (xVar 1)) (gPut 6) dBody) [.val (.int c), .val (.int n), .val (.int a), .val (.bl (decide (1000000000000000000 ≤ a))), .val (.int (a % 1000003)), .lst [], .no] = .nx [.val (.int c), .val (.int n), .val (.int left), .val (.bl dg), .val (.int mixed), .lst (ds.map .int), t] := by
    rw [sFor_ev, iRng1_ev]
    have : ((xVar 1) [.val (.int c), .val (.int n), .val (.int a), .val (.bl (decide (1000000000000000000 ≤ a))), .val (.int (a % 1000003)), .lst [], .no]) = .ok (.int n, none) := rfl
    rw [this, ok_bind, asInt_int, ok_bind, rng_zero n (by omega), ok_out]
    exact e5
  refine run_rt (ds := [.int c, .int n]) (?_ : M_l_draws [.val (.int c), .val (.int n), .no, .no, .no, .no, .no] = _)
  unfold M_l_draws
  rw [seq_nx e1, seq_nx e2, seq_nx e3, seq_nx (e4 _), seq_nx e6]
  rfl
abbrev alpha : List Nat := [97, 98, 99, 100, 101, 102, 103, 104, 105, 106, 107, 108, 109, 110, 111, 112, 113, 114, 115, 116, 117, 118, 119, 120, 121, 122]
theorem alpha_at {n : Int} (h : 0 ≤ n ∧ n < 26) : ixD (.str alpha) (.int n) = .ok (.str [97 + n.toNat]) := by
  rw [ix_str' (by decide)]
  have : ∀ k, k < 26 → alpha[k]? = some (97 + k) := by decide
  rw [atI_of h.1 (this n.toNat (by omega))]
  rfl
def M_l_letters : SM := (sSeq (sSet 1 (nOf (xC (.str alpha))))
  (sSeq (sSet 2 (nOf (xOp modD (xCa intD (aCons (xOp divD (xVar 0) (xC (.int 8))) aNil)) (xC (.int 25)))))
  (sSeq (sSet 3 (nOf (xOp addD (xOp addD (xVar 2) (xC (.int 1))) (xOp modD (xCa intD (aCons (xOp divD (xVar 0) (xC (.int 200))) aNil)) (xOp subD (xC (.int 25)) (xVar 2))))))
  (sSeq (sSet 4 (nOf (xOp modD (xCa intD (aCons (xVar 0) aNil)) (xC (.int 8)))))
  (sSeq (sIf (bOf (xOp ltD (xVar 4) (xC (.int 5)))) (sRet (nOf (xOp addD (xOp ixD (xVar 1) (xVar 2)) (xOp ixD (xVar 1) (xVar 3))))) sNil)
  (sRet (nOf (xOp ixD (xLst (aCons (xOp ixD (xVar 1) (xVar 3)) (aCons (xC (.str [97, 99, 122])) (aCons (xC (.str [97, 98, 99, 100])) aNil)))) (xOp subD (xVar 4) (xC (.int 5)))))))))))
def F_l_letters : FD := runD M_l_letters 5
theorem letters_ok (c : Int) : ∃ l : List Nat, F_l_letters [.int c] = .ok (.val (.str l)) ∧ 1 ≤ l.length ∧ l.length ≤ 4 ∧ (∀ x ∈ l, 97 ≤ x ∧ x < 123) ∧ l.Pairwise (· < ·) := by
  let p : Int := c / 8 % 25
  let q : Int := p + 1 + c / 200 % (25 - p)
  let f : Int := c % 8
  have hp := emod_lt (c / 8) (m := 25) (by decide)
  have hq := emod_lt (c / 200) (m := 25 - p) (by omega)
  have hf := emod_lt c (m := 8) (by decide)
  have e1 (t2 t3 t4 : T) : (sSet 1 (nOf (xC (.str alpha)))) [.val (.int c), .no, t2, t3, t4] = .nx [.val (.int c), .val (.str alpha), t2, t3, t4] := rfl
  have e2 (t2 t3 t4 : T) : (sSet 2 (nOf (xOp modD (xCa intD (aCons (xOp divD (xVar 0) (xC (.int 8))) aNil)) (xC (.int 25))))) [.val (.int c), .val (.str alpha), t2, t3, t4] = .nx [.val (.int c), .val (.str alpha), .val (.int p), t3, t4] := by
    simp [mod_pos, div_pos, p]
  have e3 (t3 t4 : T) : (sSet 3 (nOf (xOp addD (xOp addD (xVar 2) (xC (.int 1))) (xOp modD (xCa intD (aCons (xOp divD (xVar 0) (xC (.int 200))) aNil)) (xOp subD (xC (.int 25)) (xVar 2)))))) [.val (.int c), .val (.str alpha), .val (.int p), t3, t4] = .nx [.val (.int c), .val (.str alpha), .val (.int p), .val (.int q), t4] := by
    simp [mod_pos (show 0 < 25 - p by omega), div_pos, q]
  have e4 (t4 : T) : (sSet 4 (nOf (xOp modD (xCa intD (aCons (xVar 0) aNil)) (xC (.int 8))))) [.val (.int c), .val (.str alpha), .val (.int p), .val (.int q), t4] = .nx [.val (.int c), .val (.str alpha), .val (.int p), .val (.int q), .val (.int f)] := by
    simp [mod_pos, f]
  have ap := alpha_at (n := p) (by omega)
  have aq := alpha_at (n := q) (by omega)
  by_cases h5 : f < 5
  · refine ⟨[97 + p.toNat, 97 + q.toNat], ?_, by simp, by simp, ?_, ?_⟩
    · refine run_rt (ds := [.int c]) (?_ : M_l_letters [.val (.int c), .no, .no, .no, .no] = _)
      unfold M_l_letters
      rw [seq_nx (e1 _ _ _), seq_nx (e2 _ _ _), seq_nx (e3 _ _), seq_nx (e4 _)]
      refine seq_rt ?_
      simp [h5, ap, aq, add_str]
    · simp only [List.mem_cons, List.not_mem_nil, or_false]
      rintro x (rfl | rfl) <;> omega
    · simp; omega
  · have e5 : (sIf (bOf (xOp ltD (xVar 4) (xC (.int 5)))) (sRet (nOf (xOp addD (xOp ixD (xVar 1) (xVar 2)) (xOp ixD (xVar 1) (xVar 3))))) sNil) [.val (.int c), .val (.str alpha), .val (.int p), .val (.int q), .val (.int f)] = .nx [.val (.int c), .val (.str alpha), .val (.int p), .val (.int q), .val (.int f)] := by
      simp [h5]
    have key (l) (h : (if f = 5 then some [97 + q.toNat] else if f = 6 then some [97, 99, 122] else if f = 7 then some [97, 98, 99, 100] else none) = some l) : F_l_letters [.int c] = .ok (.val (.str l)) := by
      refine run_rt (ds := [.int c]) (?_ : M_l_letters [.val (.int c), .no, .no, .no, .no] = _)
      unfold M_l_letters
      rw [seq_nx (e1 _ _ _), seq_nx (e2 _ _ _), seq_nx (e3 _ _), seq_nx (e4 _), seq_nx e5]
      split at h
      · rename_i g; cases h; simp [aq, g, atI, ixN]
      split at h
      · rename_i g; cases h; simp [aq, g, atI, ixN]
      split at h
      · rename_i g; cases h; simp [aq, g, atI, ixN]
      · cases h
    rcases (by omega : f = 5 ∨ f = 6 ∨ f = 7) with h | h | h
    · refine ⟨[97 + q.toNat], key _ (by rw [if_pos h]), by simp, by simp, ?_, by simp⟩
      intro x hx
      rw [List.mem_singleton.1 hx]; omega
    · exact ⟨_, key [97, 99, 122] (by rw [h]; rfl), by decide, by decide, by decide, by decide⟩
    · exact ⟨_, key [97, 98, 99, 100] (by rw [h]; rfl), by decide, by decide, by decide, by decide⟩
def M_l_text : SM := (sRet (nOf (xOp joinD (xC (.str [])) (xLc (iSeq (xVar 0)) (gPut 2) (fun _ => .ok true) (xOp ixD (xVar 1) (xOp modD (xCa intD (aCons (xVar 2) aNil)) (xCa lenD (aCons (xVar 1) aNil)))) [2]))))
def F_l_text : FD := runD M_l_text 3
theorem joinL_one (f : Int → Nat) : ∀ l : List Int, TL.joinL [] (l.map fun a => [f a]) = l.map f
  | [] => rfl
  | [a] => rfl
  | a :: b :: l => by
    show [f a] ++ ([] ++ TL.joinL [] ((b :: l).map fun a => [f a])) = _
    rw [joinL_one f (b :: l)]; rfl
theorem sum_one (f : Int → Nat) : ∀ l : List Int, ((l.map fun a => [f a]).map List.length).sum = l.length
  | [] => rfl
  | a :: l => by rw [List.map_cons, List.map_cons, List.sum_cons, sum_one f l, List.length_cons]; simp; omega
def tf (f : Int → Nat) : D → D
  | .int a => .str [f a]
  | _ => .non
theorem text_ok (ds : List Int) (l : List Nat) (h1 : 1 ≤ l.length) (h2 : l.length ≤ 1000) (hd : ds.length ≤ 1000000) :
    ∃ t : List Nat, F_l_text [.lst (ds.map .int), .str l] = .ok (.val (.str t)) ∧ t.length = ds.length ∧ ∀ x ∈ t, x ∈ l := by
  let f : Int → Nat := fun a => l.getD (a % (l.length : Int)).toNat 0
  have hlt (a : Int) : (a % (l.length : Int)).toNat < l.length := by
    have := emod_lt a (m := (l.length : Int)) (by omega)
    omega
  refine ⟨ds.map f, ?_, by simp, ?_⟩
  · refine run_rt (ds := [.lst (ds.map .int), .str l]) (?_ : M_l_text [.val (.lst (ds.map .int)), .val (.str l), .no] = _)
    have hlc : lcD (iSeq (xVar 0)) (gPut 2) (fun _ => .ok true) (xOp ixD (xVar 1) (xOp modD (xCa intD (aCons (xVar 2) aNil)) (xCa lenD (aCons (xVar 1) aNil)))) [2] [.val (.lst (ds.map .int)), .val (.str l), .no] = .ok ((ds.map .int).map (tf f)) := by
      refine lcD_map (ds := ds.map .int) (ρ' := [.val (.lst (ds.map .int)), .val (.str l), .no]) _ (by simp) rfl (by simp; omega) ?_
      intro d hd
      obtain ⟨a, _, rfl⟩ := List.mem_map.1 hd
      refine ⟨_, rfl, ?_⟩
      unfold tf
      have hm := emod_lt a (m := (l.length : Int)) (by omega)
      have : l[(a % (l.length : Int)).toNat]? = some (f a) := by
        simp only [f, List.getD_eq_getElem?_getD, List.getElem?_eq_getElem (hlt a), Option.getD_some]
      simp [mod_pos (show 0 < (l.length : Int) by omega), len_str (l := l) (by simp; omega), ix_str' (l := l) (by simp; omega), atI_of hm.1 this]
    have e : joinD (.str []) (.lst ((ds.map .int).map (tf f))) = .ok (.str (ds.map f)) := by
      show ((strsOf _).bind fun ls => joinR [] ls) = _
      rw [List.map_map]
      have : strsOf (ds.map fun a => .str ((fun a => [f a]) a)) = .ok (ds.map fun a => [f a]) := strsOf_map
      have e2 : (tf f ∘ D.int) = fun a => .str ((fun a => [f a]) a) := rfl
      rw [e2, this, ok_bind]
      unfold joinR
      rw [sum_one, if_pos, joinL_one]
      simp; omega
    unfold M_l_text
    rw [sRet_ev, nOf_ev, xOp_ev, xC_ev, ok_bind, xLc_ev, hlc]
    simp only [ok_bind, e, ok_out]
  · intro x hx
    obtain ⟨a, _, rfl⟩ := List.mem_map.1 hx
    simp only [f, List.getD_eq_getElem?_getD, List.getElem?_eq_getElem (hlt a), Option.getD_some]
    exact List.getElem_mem _
theorem text_nil (l : List Nat) : F_l_text [.lst [], .str l] = .ok (.val (.str [])) := rfl
/-! texts of at most a thousand letters -/
theorem len_any {l : List Nat} (h : l.length ≤ 1000) : lenD [.str l] = .ok (.int l.length) := len_str (by simp; omega)
theorem sl_take {l : List Nat} {p : Nat} (hl : l.length ≤ 1000) : slD (.str l) none (some (p : Int)) = .ok (.str (l.take p)) := by rw [sl_str' (by simp; omega), cut_take]
theorem sl_drop {l : List Nat} {p : Nat} (hl : l.length ≤ 1000) : slD (.str l) (some (p : Int)) none = .ok (.str (l.drop p)) := by rw [sl_str' (by simp; omega), cut_drop]
theorem mul_any {l : List Nat} {k : Nat} (h : k ≤ 1000) (hl : l.length * k ≤ 10000) : mulD (.str l) (.int (k : Int)) = .ok (.str (rep (k : Int) l)) := by
  refine mul_str' (by omega) (by omega) ?_
  rw [Int.toNat_natCast]; simp; omega
theorem add_any {l k : List Nat} (hl : l.length ≤ 1000) (hk : k.length ≤ 1000) : addD (.str l) (.str k) = .ok (.str (l ++ k)) := add_str (by simp; omega)
theorem ix_any {l : List Nat} {d : Int} (hl : 1 ≤ l.length) (h2 : l.length ≤ 1000) : ∃ x, x ∈ l ∧ ixD (.str l) (.int (d % (l.length : Int))) = .ok (.str [x]) := by
  have hm := emod_lt d (m := (l.length : Int)) (by omega)
  have hlt : (d % (l.length : Int)).toNat < l.length := by omega
  refine ⟨l[(d % (l.length : Int)).toNat], List.getElem_mem _, ?_⟩
  rw [ix_str' (by simp; omega), atI_of hm.1 (List.getElem?_eq_getElem hlt)]
  rfl
/-- draws, read by place -/
theorem draws_at (c : Int) (n : Nat) (hn : n ≤ 1000) : ∃ (L : List D) (d : Nat → Int), L.length = n ∧ (∀ k, k < n → 0 ≤ d k ∧ d k < 1000) ∧ (∀ k : Nat, k < n → atI L (k : Int) = some (.int (d k))) ∧ F_l_draws [.int c, .int n] = .ok (.lst L) ∧ (∀ x ∈ L, ∃ i, x = .int i ∧ 0 ≤ i ∧ i < 1000) := by
  obtain ⟨ds, hl, hd, e⟩ := draws_ok c n hn
  refine ⟨ds.map .int, fun k => ds.getD k 0, by simpa using hl, fun k hk => ?_, fun k hk => ?_, e, fun x hx => ?_⟩
  · show 0 ≤ ds.getD k 0 ∧ ds.getD k 0 < 1000
    rw [List.getD_eq_getElem?_getD, List.getElem?_eq_getElem (by omega), Option.getD_some]
    exact hd _ (List.getElem_mem _)
  · apply atI_nat
    rw [List.getElem?_map, List.getElem?_eq_getElem (by omega)]
    simp [List.getD_eq_getElem?_getD, List.getElem?_eq_getElem (show k < ds.length by omega)]
  · obtain ⟨i, hi, rfl⟩ := List.mem_map.1 hx
    exact ⟨i, rfl, hd i hi⟩
theorem text_of (c : Int) (n : Nat) (hn : n ≤ 500) {l : List Nat} (h1 : 1 ≤ l.length) (h2 : l.length ≤ 1000) : ∃ (ds : List D) (t : List Nat), F_l_draws [.int c, .int (n : Int)] = .ok (.lst ds) ∧ F_l_text [.lst ds, .str l] = .ok (.val (.str t)) ∧ t.length = n ∧ ∀ x ∈ t, x ∈ l := by
  obtain ⟨ds, hl, hd, e⟩ := draws_ok c n (by omega)
  obtain ⟨t, e2, hl2, hx⟩ := text_ok ds l h1 h2 (by omega)
  exact ⟨_, t, e, e2, by omega, hx⟩
theorem nat_of {i : Int} (h : 0 ≤ i) : ∃ n : Nat, i = (n : Int) := ⟨i.toNat, by omega⟩
end LW

/-! the laws' own comparison -/
namespace LS
open L2 DV LW
def M_l_same (F_l_same : FD) : SM := (sSeq (sIf (bOf (xOp isD (xVar 1) (xC .non))) (sRet (nOf (xOp isD (xVar 0) (xC .non)))) sNil)
  (sSeq (sIf (bOr (bTru (xUn (isiD DV.kTup) (xVar 1))) (bTru (xUn (isiD kLst) (xVar 1)))) (sSeq (sIf (bOr (bAnd (bTru (xUn (isiD DV.kTup) (xVar 1))) (bNot (bTru (xUn (isiD DV.kTup) (xVar 0))))) (bAnd (bTru (xUn (isiD kLst) (xVar 1))) (bNot (bTru (xUn (isiD kLst) (xVar 0)))))) (sRet (nOf (xC (.bl false)))) sNil)
  (sSeq (sIf (bOf (xOp neD (xCa lenD (aCons (xVar 0) aNil)) (xCa lenD (aCons (xVar 1) aNil)))) (sRet (nOf (xC (.bl false)))) sNil)
  (sSeq (sFor (iRng1 (xCa lenD (aCons (xVar 1) aNil))) (gPut 2) (sIf (bNot (bTru (xCall F_l_same (aCons (xOp ixD (xVar 0) (xVar 2)) (aCons (xOp ixD (xVar 1) (xVar 2)) aNil))))) (sRet (nOf (xC (.bl false)))) sNil))
  (sRet (nOf (xC (.bl true))))))) sNil)
  (sSeq (sIf (bTru (xUn (isiD kDict) (xVar 1))) (sSeq (sIf (bOr (bNot (bTru (xUn (isiD kDict) (xVar 0)))) (bOf (xOp neD (xCa lenD (aCons (xVar 0) aNil)) (xCa lenD (aCons (xVar 1) aNil))))) (sRet (nOf (xC (.bl false)))) sNil)
  (sSeq (sFor (iSeq (xVar 1)) (gPut 3) (sIf (bOr (bOf (xOp niD (xVar 3) (xVar 0))) (bNot (bTru (xCall F_l_same (aCons (xOp ixD (xVar 0) (xVar 3)) (aCons (xOp ixD (xVar 1) (xVar 3)) aNil)))))) (sRet (nOf (xC (.bl false)))) sNil))
  (sRet (nOf (xC (.bl true)))))) sNil)
  (sSeq (sIf (bTru (xUn (isiD kBool) (xVar 1))) (sRet (nOf (xAnd (xUn (isiD kBool) (xVar 0)) (xOp eqD (xVar 0) (xVar 1))))) sNil)
  (sSeq (sIf (bTru (xUn (isiD kInt) (xVar 1))) (sRet (nOf (xAnd (xUn (isiD kInt) (xVar 0)) (xAnd (xUn notD (xUn (isiD kBool) (xVar 0))) (xOp eqD (xVar 0) (xVar 1)))))) sNil)
  (sRet (nOf (xAnd (xUn (isiD kStr) (xVar 0)) (xOp eqD (xVar 0) (xVar 1))))))))))
/-- plain data, of a depth -/
inductive Pl : Nat → D → Prop
  | non {n : Nat} : Pl n .non
  | bl {n : Nat} (b : Bool) : Pl n (.bl b)
  | int {n : Nat} (i : Int) : Pl n (.int i)
  | str {n : Nat} (l : List Nat) : Pl n (.str l)
  | tup {n : Nat} {ds : List D} (h : ds.length ≤ 1000000) (h2 : ∀ d ∈ ds, Pl n d) : Pl (n + 1) (.tup ds)
  | lst {n : Nat} {ds : List D} (h : ds.length ≤ 1000000) (h2 : ∀ d ∈ ds, Pl n d) : Pl (n + 1) (.lst ds)
theorem same_atom (F : FD) {d : D} (h : Pl 0 d) : runD (M_l_same F) 4 [d, d] = .ok (.val (.bl true)) := by
  cases h <;> refine run_rt (ds := [_, _]) (?_ : M_l_same F [.val _, .val _, .no, .no] = _) <;> simp [M_l_same, sSeq, DV.kTup, kLst, kDict, kBool, kInt, kStr]
abbrev sB (F : FD) : SM := (sIf (bNot (bTru (xCall F (aCons (xOp ixD (xVar 0) (xVar 2)) (aCons (xOp ixD (xVar 1) (xVar 2)) aNil))))) (sRet (nOf (xC (.bl false)))) sNil)
theorem same_seq (F : FD) {ds : List D} {d : D} (hd : d = .tup ds ∨ d = .lst ds) (h : ds.length ≤ 1000000) (h2 : ∀ e ∈ ds, F [e, e] = .ok (.val (.bl true))) : runD (M_l_same F) 4 [d, d] = .ok (.val (.bl true)) := by
  refine run_rt (ds := [d, d]) (?_ : M_l_same F [.val d, .val d, .no, .no] = _)
  have hix (k : Nat) : ixD d (.int (k : Int)) = optR (atI ds (k : Int)) := by rcases hd with rfl | rfl <;> rfl
  have hlen : lenD [d] = .ok (.int ds.length) := by rcases hd with rfl | rfl <;> rfl
  obtain ⟨ρ', e, x, rfl⟩ := forL_run (g := gPut 2) (B := sB F) (I := fun _ ρ => ∃ x : T, ρ = [.val d, .val d, x, .no]) (ds := (List.range ds.length).map fun (i : Nat) => D.int (i : Int)) (ρ := [.val d, .val d, .no, .no]) ⟨_, rfl⟩ (by
    rintro j y ρ hj ⟨x, rfl⟩
    obtain ⟨hjn, rfl⟩ := rng_at (a := 0) (n := ds.length) (j := j) (d := y) (by simpa using hj)
    rw [Nat.zero_add]
    refine ⟨_, _, rfl, ?_, .val (.int (j : Int)), rfl⟩
    have ha : atI ds (j : Int) = some ds[j] := atI_nat (List.getElem?_eq_getElem hjn)
    simp [hix, ha, h2 _ (List.getElem_mem hjn)])
  have ef : sFor (iRng1 (xCa lenD (aCons (xVar 1) aNil))) (gPut 2) (sB F) [.val d, .val d, .no, .no] = .nx [.val d, .val d, x, .no] := by
    rw [sFor_ev, iRng1_ev]
    simp only [xCa_ev, aCons_ev, aNil_ev, xVar_ev, List.getElem?_cons_zero, List.getElem?_cons_succ, ok_bind, List.map_cons, List.map_nil, hlen, asInt_int, rng_zero _ h, ok_out, e]
  unfold M_l_same
  refine seq_go (by rcases hd with rfl | rfl <;> simp) (seq_rt ?_)
  rw [sIf_ev]
  have c1 : (bOr (bTru (xUn (isiD DV.kTup) (xVar 1))) (bTru (xUn (isiD kLst) (xVar 1)))) [.val d, .val d, .no, .no] = .ok true := by rcases hd with rfl | rfl <;> simp [DV.kTup, kLst]
  rw [c1, ok_out]
  refine seq_go (by rcases hd with rfl | rfl <;> simp [DV.kTup, kLst]) (seq_go (by simp [hlen]) (seq_to _ ef (by simp)))
theorem same_step {n : Nat} {d : D} (h : Pl (n + 1) d) (F : FD) (h2 : ∀ e, Pl n e → F [e, e] = .ok (.val (.bl true))) : runD (M_l_same F) 4 [d, d] = .ok (.val (.bl true)) := by
  cases h with
  | non => exact same_atom F .non
  | bl b => exact same_atom F (.bl b)
  | int i => exact same_atom F (.int i)
  | str l => exact same_atom F (.str l)
  | tup h h3 => exact same_seq F (.inl rfl) h fun e he => h2 e (h3 e he)
  | lst h h3 => exact same_seq F (.inr rfl) h fun e he => h2 e (h3 e he)
theorem same_refl : ∀ {n : Nat} {d : D}, Pl n d → fuelF M_l_same 4 (n + 1) [d, d] = .ok (.val (.bl true))
  | 0, d, h => same_atom _ h
  | n + 1, d, h => same_step h _ fun e he => same_refl he
theorem Pl.up {n : Nat} {d : D} (h : Pl n d) : Pl (n + 1) d := by
  induction h with
  | non => exact .non
  | bl b => exact .bl b
  | int i => exact .int i
  | str l => exact .str l
  | tup h _ ih => exact .tup h ih
  | lst h _ ih => exact .lst h ih
theorem same7 {d : D} (h : Pl 7 d) : fuelF M_l_same 4 8 [d, d] = .ok (.val (.bl true)) := same_refl h
end LS

/-! words: turns, periods, roots -/
namespace WD
open DV
theorem least {P : Nat → Prop} : ∀ {n : Nat}, P n → ∃ m, P m ∧ m ≤ n ∧ ∀ k, P k → m ≤ k := by
  intro n
  induction n using Nat.strongRecOn with
  | ind n ih =>
    intro h
    by_cases h2 : ∃ k, k < n ∧ P k
    · obtain ⟨k, hk, hp⟩ := h2
      obtain ⟨m, a, b, c⟩ := ih k hk hp
      exact ⟨m, a, by omega, c⟩
    · exact ⟨n, h, Nat.le_refl _, fun k hk => Nat.le_of_not_lt fun hlt => h2 ⟨k, hlt, hk⟩⟩
theorem rep_len {α : Type} (k : Nat) (l : List α) : (rep (k : Int) l).length = k * l.length := by
  unfold rep
  rw [Int.toNat_natCast]
  induction k with
  | zero => simp
  | succ k ih => rw [List.replicate_succ, List.flatten_cons, List.length_append, ih, Nat.succ_mul]; omega
theorem rep_succ {α : Type} (k : Nat) (l : List α) : rep ((k + 1 : Nat) : Int) l = l ++ rep (k : Int) l := by
  unfold rep
  rw [Int.toNat_natCast, Int.toNat_natCast, List.replicate_succ, List.flatten_cons]
theorem rep_get {α : Type} (l : List α) : ∀ (k i : Nat), i < k * l.length → (rep (k : Int) l)[i]? = l[i % l.length]?
  | 0, i, h => by omega
  | k + 1, i, h => by
    rw [rep_succ]
    by_cases h2 : i < l.length
    · rw [List.getElem?_append_left h2, Nat.mod_eq_of_lt h2]
    · rw [List.getElem?_append_right (by omega), rep_get l k _ (by rw [Nat.succ_mul] at h; omega)]
      congr 1
      rw [← Nat.mod_eq_sub_mod (by omega)]
/-- the letter at place i, read round -/
def cyc (l : List Nat) (i : Nat) : Nat := l.getD (i % l.length) 0
def Per (f : Nat → Nat) (p : Nat) : Prop := ∀ i, f (i + p) = f i
def Mn (f : Nat → Nat) (m : Nat) : Prop := 0 < m ∧ Per f m ∧ ∀ p, 0 < p → Per f p → m ≤ p
theorem cyc_lt {l : List Nat} {i : Nat} (h : i < l.length) : l[i]? = some (cyc l i) := by
  unfold cyc
  rw [Nat.mod_eq_of_lt h, List.getD_eq_getElem?_getD, List.getElem?_eq_getElem h, Option.getD_some]
theorem cyc_len (l : List Nat) : Per (cyc l) l.length := fun i => by unfold cyc; rw [Nat.add_mod_right]
theorem Per.mul {f : Nat → Nat} {p : Nat} (h : Per f p) : ∀ k i, f (i + p * k) = f i
  | 0, i => by simp
  | k + 1, i => by rw [Nat.mul_succ, ← Nat.add_assoc, h, Per.mul h k]
theorem Per.dvd {f : Nat → Nat} {p q : Nat} (h : Per f p) (d : p ∣ q) : Per f q := by
  obtain ⟨k, rfl⟩ := d
  exact fun i => h.mul k i
theorem Per.mod {f : Nat → Nat} {p : Nat} (h : Per f p) (i : Nat) : f (i % p) = f i := by
  have := h.mul (i / p) (i % p)
  rw [Nat.mod_add_div] at this
  exact this.symm
theorem Mn.of {f : Nat → Nat} {n : Nat} (h0 : 0 < n) (h : Per f n) : ∃ m, Mn f m := by
  obtain ⟨m, ⟨a, b⟩, _, c⟩ := least (P := fun p => 0 < p ∧ Per f p) ⟨h0, h⟩
  exact ⟨m, a, b, fun p hp h => c p ⟨hp, h⟩⟩
theorem Mn.dvd {f : Nat → Nat} {m p : Nat} (h : Mn f m) (hp : Per f p) : m ∣ p := by
  obtain ⟨h0, h1, h2⟩ := h
  have : Per f (p % m) := fun i => by
    have := h1.mul (p / m) (i + p % m)
    rw [Nat.add_assoc, Nat.mod_add_div, hp] at this
    exact this.symm
  by_cases h3 : p % m = 0
  · exact Nat.dvd_of_mod_eq_zero h3
  · have a := h2 _ (by omega) this
    have b := Nat.mod_lt p h0
    omega
theorem Mn.uniq {f : Nat → Nat} {m k : Nat} (h : Mn f m) (h2 : Mn f k) : m = k :=
  Nat.le_antisymm (h.2.2 k h2.1 h2.2.1) (h2.2.2 m h.1 h.2.1)
theorem Mn.congr {f g : Nat → Nat} {m : Nat} (h : Mn f m) (e : ∀ p, Per f p ↔ Per g p) : Mn g m :=
  ⟨h.1, (e m).1 h.2.1, fun p hp h3 => h.2.2 p hp ((e p).2 h3)⟩
/-- when a word is a power of its beginning -/
theorem pow_iff {l : List Nat} {p : Nat} (h0 : 0 < p) (hp : p ≤ l.length) : rep ((l.length / p : Nat) : Int) (l.take p) = l ↔ p ∣ l.length ∧ Per (cyc l) p := by
  have ht : (l.take p).length = p := by rw [List.length_take]; omega
  constructor
  · intro h
    have hl := congrArg List.length h
    rw [rep_len, ht] at hl
    have hd : p ∣ l.length := ⟨_, by rw [Nat.mul_comm]; exact hl.symm⟩
    have key : ∀ i, cyc l i = cyc l (i % p) := fun i => by
      have hn : 0 < l.length := by omega
      have h1 : i % l.length < l.length := Nat.mod_lt _ hn
      have h2 : i % p < p := Nat.mod_lt _ h0
      have e := rep_get (l.take p) (l.length / p) (i % l.length) (by rw [ht, hl]; exact h1)
      rw [h, ht, cyc_lt h1, Nat.mod_mod_of_dvd _ hd, List.getElem?_take_of_lt h2, cyc_lt (by omega)] at e
      have e := Option.some.inj e
      rw [(cyc_len l).mod] at e
      exact e
    exact ⟨hd, fun i => by rw [key (i + p), Nat.add_mod_right, ← key i]⟩
  · rintro ⟨hd, h⟩
    apply List.ext_getElem?
    intro i
    by_cases hi : i < l.length
    · have hl : l.length / p * p = l.length := Nat.div_mul_cancel hd
      have h2 : i % p < p := Nat.mod_lt _ h0
      rw [rep_get _ _ _ (by rw [ht, hl]; exact hi), ht, List.getElem?_take_of_lt h2, cyc_lt hi, cyc_lt (by omega), h.mod]
    · rw [List.getElem?_eq_none (l := l) (by omega), List.getElem?_eq_none]
      rw [rep_len, ht]
      have := Nat.div_mul_le_self l.length p
      omega
theorem cyc_rep (l : List Nat) {k : Nat} (hk : 0 < k) : cyc (rep (k : Int) l) = cyc l := by
  funext i
  by_cases h0 : l.length = 0
  · have : l = [] := List.length_eq_zero_iff.1 h0
    subst this
    have : (rep (k : Int) ([] : List Nat)) = [] := List.length_eq_zero_iff.1 (by rw [rep_len]; rfl)
    rw [this]
  · have hn : 0 < k * l.length := Nat.mul_pos hk (by omega)
    have h1 : i % (k * l.length) < k * l.length := Nat.mod_lt _ hn
    have e := rep_get l k (i % (k * l.length)) h1
    unfold cyc
    rw [rep_len, List.getD_eq_getElem?_getD, e, List.getD_eq_getElem?_getD, Nat.mod_mod_of_dvd _ ⟨k, Nat.mul_comm _ _⟩]
theorem cyc_take {l : List Nat} {m : Nat} (h0 : 0 < m) (h : m ≤ l.length) (hp : Per (cyc l) m) : cyc (l.take m) = cyc l := by
  funext i
  have ht : (l.take m).length = m := by rw [List.length_take]; omega
  have h2 : i % m < m := Nat.mod_lt _ h0
  rw [← hp.mod]
  have := cyc_lt (l := l) (i := i % m) (by omega)
  unfold cyc at this ⊢
  rw [ht, List.getD_eq_getElem?_getD, List.getElem?_take_of_lt h2, this]
  rfl
theorem cyc_mod {l : List Nat} {i j : Nat} (h : i % l.length = j % l.length) : cyc l i = cyc l j := by unfold cyc; rw [h]
theorem cyc_turn {l : List Nat} {k : Nat} (h : k ≤ l.length) (i : Nat) : cyc (l.drop k ++ l.take k) i = cyc l (i + k) := by
  have hl : (l.drop k ++ l.take k).length = l.length := by simp; omega
  have go (j : Nat) (h1 : j < l.length) : cyc (l.drop k ++ l.take k) j = cyc l (j + k) := by
    have e := cyc_lt (l := l.drop k ++ l.take k) (i := j) (by rw [hl]; exact h1)
    have e2 : (l.drop k ++ l.take k)[j]? = some (cyc l (j + k)) := by
      by_cases h3 : j < l.length - k
      · rw [List.getElem?_append_left (by rw [List.length_drop]; exact h3), List.getElem?_drop, cyc_lt (by omega), Nat.add_comm]
      · rw [List.getElem?_append_right (by rw [List.length_drop]; omega), List.length_drop, List.getElem?_take_of_lt (by omega), cyc_lt (by omega), ← cyc_len l (j - (l.length - k))]
        congr 2; omega
    rw [e2] at e
    exact (Option.some.inj e).symm
  by_cases h0 : l.length = 0
  · have : l = [] := List.length_eq_zero_iff.1 h0
    subst this; simp [cyc]
  · have h1 : i % l.length < l.length := Nat.mod_lt _ (by omega)
    rw [← (cyc_len (l.drop k ++ l.take k)).mod, hl, go _ h1]
    have := (cyc_len l).mul (i / l.length) (i % l.length + k)
    rw [← this]
    congr 1
    have := Nat.mod_add_div i l.length
    omega
theorem cyc_rev {l : List Nat} {j : Nat} (h : j < l.length) : cyc l.reverse j = cyc l (l.length - 1 - j) := by
  have e := cyc_lt (l := l.reverse) (i := j) (by simpa using h)
  rw [List.getElem?_reverse h, cyc_lt (by omega)] at e
  exact (Option.some.inj e).symm
theorem per_rev1 {l : List Nat} {p : Nat} (h : Per (cyc l) p) : Per (cyc l.reverse) p := by
  intro i
  by_cases h0 : l.length = 0
  · have : l = [] := List.length_eq_zero_iff.1 h0
    subst this; simp [cyc]
  have hn : 0 < l.length := by omega
  have h1 : i % l.length < l.length := Nat.mod_lt _ hn
  have h2 : (i + p) % l.length < l.length := Nat.mod_lt _ hn
  have hr : l.reverse.length = l.length := List.length_reverse
  rw [← (cyc_len l.reverse).mod, ← (cyc_len l.reverse).mod i, hr, cyc_rev h1, cyc_rev h2, ← h]
  have a := Nat.mod_add_div i l.length
  have b := Nat.mod_add_div (i + p) l.length
  have c : i / l.length ≤ (i + p) / l.length := Nat.div_le_div_right (by omega)
  obtain ⟨t, ht⟩ := Nat.le.dest c
  rw [← ht, Nat.mul_add] at b
  rw [← (cyc_len l).mul t (l.length - 1 - i % l.length)]
  congr 1
  omega
theorem per_rev {l : List Nat} {p : Nat} : Per (cyc l) p ↔ Per (cyc l.reverse) p :=
  ⟨per_rev1, fun h => by have := per_rev1 h; rwa [List.reverse_reverse] at this⟩
theorem per_turn {l : List Nat} {k p : Nat} (h : k ≤ l.length) : Per (cyc l) p ↔ Per (cyc (l.drop k ++ l.take k)) p := by
  constructor
  · intro hp i
    rw [cyc_turn h, cyc_turn h, ← hp (i + k)]
    congr 1; omega
  · intro hp i
    have a := hp (i + (l.length - k))
    rw [cyc_turn h, cyc_turn h, show i + (l.length - k) + p + k = i + p + l.length by omega, show i + (l.length - k) + k = i + l.length by omega, cyc_len, cyc_len] at a
    exact a
/-- the root of a word: its length -/
theorem root_len {l : List Nat} (h : l ≠ []) : ∃ m, Mn (cyc l) m ∧ m ∣ l.length ∧ 0 < m ∧ m ≤ l.length ∧ rep ((l.length / m : Nat) : Int) (l.take m) = l := by
  have hn : 0 < l.length := List.length_pos_iff.2 h
  obtain ⟨m, hm⟩ := Mn.of hn (cyc_len l)
  have hd := hm.dvd (cyc_len l)
  have hle := Nat.le_of_dvd hn hd
  exact ⟨m, hm, hd, hm.1, hle, (pow_iff hm.1 hle).2 ⟨hd, hm.2.1⟩⟩
def turn (l : List Nat) (b : Nat) : List Nat := l.drop b ++ l.take b
theorem turn_len {l : List Nat} {b : Nat} (h : b ≤ l.length) : (turn l b).length = l.length := by unfold turn; simp; omega
theorem cyc_ext {l k : List Nat} (h : l.length = k.length) (e : ∀ i, cyc l i = cyc k i) : l = k := by
  apply List.ext_getElem?
  intro i
  by_cases hi : i < l.length
  · rw [cyc_lt hi, cyc_lt (by omega), e]
  · rw [List.getElem?_eq_none (by omega), List.getElem?_eq_none (by omega)]
theorem turn_eq {l : List Nat} {m a b : Nat} (hm : Mn (cyc l) m) (ha : a ≤ l.length) (hb : b ≤ l.length) : turn l a = turn l b ↔ a % m = b % m := by
  have one : ∀ {a b : Nat}, a ≤ l.length → b ≤ l.length → a ≤ b → turn l a = turn l b → a % m = b % m := by
    intro a b ha hb hab h
    have hp : Per (cyc l) (b - a) := by
      intro j
      have e := congrArg (fun x => cyc x (j + (l.length - a))) h
      simp only [turn] at e
      rw [cyc_turn ha, cyc_turn hb, show j + (l.length - a) + a = j + l.length by omega, show j + (l.length - a) + b = j + (b - a) + l.length by omega, cyc_len, cyc_len] at e
      exact e.symm
    have hd := hm.dvd hp
    obtain ⟨k, hk⟩ := hd
    rw [show b = a + m * k by omega, Nat.add_mul_mod_self_left]
  constructor
  · intro h
    rcases Nat.le_total a b with hab | hab
    · exact one ha hb hab h
    · exact (one hb ha hab h.symm).symm
  · intro h
    apply cyc_ext (by rw [turn_len ha, turn_len hb])
    intro i
    unfold turn
    rw [cyc_turn ha, cyc_turn hb, ← hm.2.1.mod, ← hm.2.1.mod (i + b), Nat.add_mod, h, ← Nat.add_mod]
theorem filter_mod {m r : Nat} (hr : r < m) : ∀ q, (List.range (m * q)).filter (fun b => decide (b % m = r)) = (List.range q).map (fun k => r + m * k)
  | 0 => rfl
  | q + 1 => by
    rw [Nat.mul_succ, List.range_add, List.filter_append, filter_mod hr q, List.range_succ, List.map_append]
    congr 1
    rw [List.filter_map]
    have : (List.range m).filter ((fun b => decide (b % m = r)) ∘ fun x => m * q + x) = (List.range m).filter (fun x => decide (x = r)) := by
      apply List.filter_congr
      intro x hx
      rw [List.mem_range] at hx
      simp only [Function.comp]
      rw [Nat.mul_add_mod, Nat.mod_eq_of_lt hx]
    rw [this]
    have one : ∀ n, (List.range n).filter (fun x => decide (x = r)) = if r < n then [r] else [] := by
      intro n
      induction n with
      | zero => rfl
      | succ n ih =>
        rw [List.range_succ, List.filter_append, ih]
        by_cases h1 : r < n
        · rw [if_pos h1, if_pos (by omega), List.filter_cons_of_neg (by simp; omega)]; rfl
        · rw [if_neg h1]
          by_cases h2 : n = r
          · rw [if_pos (by omega), h2]; simp
          · rw [if_neg (by omega)]; simp [h2]
    rw [one, if_pos hr]
    simp; omega
/-- where a word turned is another word -/
def turns (t l : List Nat) : List Nat := (List.range (max 1 l.length)).filter fun b => decide (turn l b = t)
theorem turns_ne {t l : List Nat} (h : t.length ≠ l.length) : turns t l = [] := by
  unfold turns
  rw [List.filter_eq_nil_iff]
  intro b hb
  rw [List.mem_range] at hb
  simp only [decide_eq_true_eq]
  rintro rfl
  exact h (turn_len (by omega))
theorem turns_ok {t l : List Nat} (h : turns t l ≠ []) (hl : l ≠ []) : ∃ m r, Mn (cyc l) m ∧ Mn (cyc t) m ∧ r < m ∧ t.length = l.length ∧ turns t l = (List.range (l.length / m)).map fun k => r + m * k := by
  obtain ⟨m, hm, hd, h0, hle, _⟩ := root_len hl
  obtain ⟨b, hb⟩ := List.exists_mem_of_ne_nil _ h
  unfold turns at hb
  rw [List.mem_filter, List.mem_range] at hb
  obtain ⟨hb, e⟩ := hb
  have e := of_decide_eq_true e
  have hb : b < l.length := by omega
  refine ⟨m, b % m, hm, ?_, Nat.mod_lt _ h0, ?_, ?_⟩
  · rw [← e]; exact hm.congr fun p => per_turn (by omega)
  · rw [← e]; exact turn_len (by omega)
  · unfold turns
    rw [Nat.max_eq_right (by omega)]
    have : (List.range l.length).filter (fun c => decide (turn l c = t)) = (List.range (m * (l.length / m))).filter (fun c => decide (c % m = b % m)) := by
      rw [Nat.mul_div_cancel' hd]
      apply List.filter_congr
      intro c hc
      rw [List.mem_range] at hc
      rw [← e]
      simp only [turn_eq hm (Nat.le_of_lt hc) (Nat.le_of_lt hb)]
    rw [this, filter_mod (Nat.mod_lt _ h0)]
theorem turns_nil : turns [] [] = [0] := rfl
end WD

namespace K00
open PySem L2 DV
def M_l_is_name : SM := (sSeq (sIf (bOr (bOf (xOp ltD (xCa lenD (aCons (xVar 0) aNil)) (xC (.int 1)))) (bOr (bOf (xOp gtD (xCa lenD (aCons (xVar 0) aNil)) (xC (.int 4)))) (bOf (xOp niD (xOp ixD (xVar 0) (xC (.int 0))) (xC (.str [65, 66, 67, 68, 69, 70, 71, 72, 73, 74, 75, 76, 77, 78, 79, 80, 81, 82, 83, 84, 85, 86, 87, 88, 89, 90])))))) (sRet (nOf (xC (.bl false)))) sNil)
  (sSeq (sFor (iSeq (xSl (xVar 0) (oSome (xC (.int 1))) oNone)) (gPut 1) (sIf (bOf (xOp niD (xVar 1) (xC (.str [97, 98, 99, 100, 101, 102, 103, 104, 105, 106, 107, 108, 109, 110, 111, 112, 113, 114, 115, 116, 117, 118, 119, 120, 121, 122, 48, 49, 50, 51, 52, 53, 54, 55, 56, 57])))) (sRet (nOf (xC (.bl false)))) sNil))
  (sRet (nOf (xC (.bl true))))))
def F_l_is_name : FD := runD M_l_is_name 2
def M_is_letter : SM := (sRet (nOf (xAnd (xOp eqD (xCa lenD (aCons (xVar 0) aNil)) (xC (.int 1))) (xOp inD (xVar 0) (xC (.str [97, 98, 99, 100, 101, 102, 103, 104, 105, 106, 107, 108, 109, 110, 111, 112, 113, 114, 115, 116, 117, 118, 119, 120, 121, 122]))))))
def F_is_letter : FD := runD M_is_letter 1
def M_l_same (F_l_same : FD) : SM := (sSeq (sIf (bOf (xOp isD (xVar 1) (xC .non))) (sRet (nOf (xOp isD (xVar 0) (xC .non)))) sNil)
  (sSeq (sIf (bOr (bTru (xUn (isiD kTup) (xVar 1))) (bTru (xUn (isiD kLst) (xVar 1)))) (sSeq (sIf (bOr (bAnd (bTru (xUn (isiD kTup) (xVar 1))) (bNot (bTru (xUn (isiD kTup) (xVar 0))))) (bAnd (bTru (xUn (isiD kLst) (xVar 1))) (bNot (bTru (xUn (isiD kLst) (xVar 0)))))) (sRet (nOf (xC (.bl false)))) sNil)
  (sSeq (sIf (bOf (xOp neD (xCa lenD (aCons (xVar 0) aNil)) (xCa lenD (aCons (xVar 1) aNil)))) (sRet (nOf (xC (.bl false)))) sNil)
  (sSeq (sFor (iRng1 (xCa lenD (aCons (xVar 1) aNil))) (gPut 2) (sIf (bNot (bTru (xCall F_l_same (aCons (xOp ixD (xVar 0) (xVar 2)) (aCons (xOp ixD (xVar 1) (xVar 2)) aNil))))) (sRet (nOf (xC (.bl false)))) sNil))
  (sRet (nOf (xC (.bl true))))))) sNil)
  (sSeq (sIf (bTru (xUn (isiD kDict) (xVar 1))) (sSeq (sIf (bOr (bNot (bTru (xUn (isiD kDict) (xVar 0)))) (bOf (xOp neD (xCa lenD (aCons (xVar 0) aNil)) (xCa lenD (aCons (xVar 1) aNil))))) (sRet (nOf (xC (.bl false)))) sNil)
  (sSeq (sFor (iSeq (xVar 1)) (gPut 3) (sIf (bOr (bOf (xOp niD (xVar 3) (xVar 0))) (bNot (bTru (xCall F_l_same (aCons (xOp ixD (xVar 0) (xVar 3)) (aCons (xOp ixD (xVar 1) (xVar 3)) aNil)))))) (sRet (nOf (xC (.bl false)))) sNil))
  (sRet (nOf (xC (.bl true)))))) sNil)
  (sSeq (sIf (bTru (xUn (isiD kBool) (xVar 1))) (sRet (nOf (xAnd (xUn (isiD kBool) (xVar 0)) (xOp eqD (xVar 0) (xVar 1))))) sNil)
  (sSeq (sIf (bTru (xUn (isiD kInt) (xVar 1))) (sRet (nOf (xAnd (xUn (isiD kInt) (xVar 0)) (xAnd (xUn notD (xUn (isiD kBool) (xVar 0))) (xOp eqD (xVar 0) (xVar 1)))))) sNil)
  (sRet (nOf (xAnd (xUn (isiD kStr) (xVar 0)) (xOp eqD (xVar 0) (xVar 1))))))))))
def F_l_same : FD := fuelF M_l_same 4 8
def M_is_name : SM := (sSeq (sIf (bOr (bNot (bOf (xChain leD leD (xC (.int 1)) (xCa lenD (aCons (xVar 0) aNil)) (xC (.int 4))))) (bOf (xOp niD (xOp ixD (xVar 0) (xC (.int 0))) (xC (.str [65, 66, 67, 68, 69, 70, 71, 72, 73, 74, 75, 76, 77, 78, 79, 80, 81, 82, 83, 84, 85, 86, 87, 88, 89, 90]))))) (sRet (nOf (xC (.bl false)))) sNil)
  (sSeq (sFor (iSeq (xSl (xVar 0) (oSome (xC (.int 1))) oNone)) (gPut 1) (sIf (bAnd (bOf (xOp niD (xVar 1) (xC (.str [97, 98, 99, 100, 101, 102, 103, 104, 105, 106, 107, 108, 109, 110, 111, 112, 113, 114, 115, 116, 117, 118, 119, 120, 121, 122])))) (bOf (xOp niD (xVar 1) (xC (.str [48, 49, 50, 51, 52, 53, 54, 55, 56, 57]))))) (sRet (nOf (xC (.bl false)))) sNil))
  (sRet (nOf (xC (.bl true))))))
def F_is_name : FD := runD M_is_name 2
def M_is_piece : SM := (sSeq (sIf (bTru (xOp endsD (xVar 0) (xC (.str [126])))) (sRet (nCall F_is_name (aCons (xSl (xVar 0) oNone (oSome (xUn negD (xC (.int 1))))) aNil))) sNil)
  (sRet (nCall F_is_name (aCons (xVar 0) aNil))))
def F_is_piece : FD := runD M_is_piece 1
def M_name_of : SM := (sSeq (sIf (bTru (xOp endsD (xVar 0) (xC (.str [126])))) (sRet (nOf (xSl (xVar 0) oNone (oSome (xUn negD (xC (.int 1))))))) sNil)
  (sRetV 0))
def F_name_of : FD := runD M_name_of 1
def M_turned_symbol : SM := (sSeq (sIf (bOf (xOp niD (xOp ixD (xVar 0) (xC (.int 0))) (xC (.str [65, 66, 67, 68, 69, 70, 71, 72, 73, 74, 75, 76, 77, 78, 79, 80, 81, 82, 83, 84, 85, 86, 87, 88, 89, 90])))) (sRetV 0) sNil)
  (sSeq (sIf (bTru (xOp endsD (xVar 0) (xC (.str [126])))) (sRet (nOf (xSl (xVar 0) oNone (oSome (xUn negD (xC (.int 1))))))) sNil)
  (sRet (nOf (xOp addD (xVar 0) (xC (.str [126])))))))
def F_turned_symbol : FD := runD M_turned_symbol 1
def M_l_good_string : SM := (sSeq (sSet 1 (nOf (xVar 0)))
  (sSeq (sIf (bTru (xOp endsD (xVar 0) (xC (.str [126])))) (sSet 1 (nOf (xSl (xVar 0) oNone (oSome (xUn negD (xC (.int 1))))))) sNil)
  (sSeq (sSet 2 (nOf (xAnd (xOp eqD (xCa lenD (aCons (xVar 0) aNil)) (xC (.int 1))) (xOp inD (xVar 0) (xC (.str [97, 98, 99, 100, 101, 102, 103, 104, 105, 106, 107, 108, 109, 110, 111, 112, 113, 114, 115, 116, 117, 118, 119, 120, 121, 122]))))))
  (sSeq (sSet 3 (nOf (xCall F_l_is_name (aCons (xVar 1) aNil))))
  (sSeq (sIf (bOr (bNot (bTru (xCall F_l_same (aCons (xCall F_is_letter (aCons (xVar 0) aNil)) (aCons (xVar 2) aNil))))) (bNot (bTru (xCall F_l_same (aCons (xCall F_is_name (aCons (xVar 0) aNil)) (aCons (xCall F_l_is_name (aCons (xVar 0) aNil)) aNil)))))) (sRet (nOf (xC (.bl false)))) sNil)
  (sSeq (sIf (bNot (bTru (xCall F_l_same (aCons (xCall F_is_piece (aCons (xVar 0) aNil)) (aCons (xVar 3) aNil))))) (sRet (nOf (xC (.bl false)))) sNil)
  (sSeq (sIf (bAnd (bNot (bTru (xVar 2))) (bAnd (bNot (bTru (xVar 3))) (bOf (xOp neD (xVar 0) (xC (.str [35])))))) (sRet (nOf (xC (.bl true)))) sNil)
  (sSeq (sSet 4 (nOf (xVar 0)))
  (sSeq (sIf (bNot (bTru (xVar 3))) (sSet 1 (nOf (xVar 0))) (sIf (bOf (xOp eqD (xVar 1) (xVar 0))) (sSet 4 (nOf (xOp addD (xVar 0) (xC (.str [126]))))) (sSet 4 (nOf (xVar 1)))))
  (sSeq (sIf (bOr (bNot (bTru (xCall F_l_same (aCons (xCall F_name_of (aCons (xVar 0) aNil)) (aCons (xVar 1) aNil))))) (bNot (bTru (xCall F_l_same (aCons (xCall F_turned_symbol (aCons (xVar 0) aNil)) (aCons (xVar 4) aNil)))))) (sRet (nOf (xC (.bl false)))) sNil)
  (sRet (nOf (xAnd (xCall F_l_same (aCons (xCall F_name_of (aCons (xVar 4) aNil)) (aCons (xVar 1) aNil))) (xCall F_l_same (aCons (xCall F_turned_symbol (aCons (xVar 4) aNil)) (aCons (xVar 0) aNil))))))))))))))))
def F_l_good_string : FD := runD M_l_good_string 5
def M_l_cell : SM := (sSeq (sIf (bOf (xOp ltD (xVar 1) (xCa lenD (aCons (xVar 0) aNil)))) (sRet (nOf (xOp ixD (xVar 0) (xVar 1)))) sNil)
  (sRet (nOf (xC (.int 0)))))
def F_l_cell : FD := runD M_l_cell 2
def M_l_draws : SM := (sSeq (sSet 2 (nOf (xCa absD (aCons (xVar 0) aNil))))
  (sSeq (sSet 3 (nOf (xOp geD (xVar 2) (xOp powD (xC (.int 10)) (xC (.int 18))))))
  (sSeq (sSet 4 (nOf (xOp modD (xCa intD (aCons (xVar 2) aNil)) (xC (.int 1000003)))))
  (sSeq (sSet 5 (nLst aNil))
  (sSeq (sFor (iRng1 (xVar 1)) (gPut 6) (sSeq (sSet 4 (nOf (xOp modD (xCa intD (aCons (xOp addD (xOp addD (xOp mulD (xVar 4) (xC (.int 48271))) (xOp mulD (xC (.int 13)) (xVar 6))) (xC (.int 11))) aNil)) (xC (.int 1000003)))))
  (sIf (bAnd (bTru (xVar 3)) (bOf (xOp gtD (xVar 2) (xC (.int 0))))) (sSeq (sMut 5 appF (aCons (xOp modD (xCa intD (aCons (xVar 2) aNil)) (xC (.int 1000))) aNil))
  (sSet 2 (nOf (xOp divD (xVar 2) (xC (.int 1000)))))) (sMut 5 appF (aCons (xOp modD (xOp modD (xCa intD (aCons (xOp addD (xOp addD (xOp mulD (xVar 4) (xVar 4)) (xOp mulD (xC (.int 7)) (xVar 4))) (xVar 6)) aNil)) (xC (.int 999983))) (xC (.int 1000))) aNil)))))
  (sRetV 5))))))
def F_l_draws : FD := runD M_l_draws 7
def M_l_string : SM := (sSeq (sSet 1 (nOf (xOp addD (xC (.str [32, 33, 34, 35, 36, 38, 39, 40, 41, 42, 43, 44, 45, 46, 47, 48, 49, 50, 51, 52, 53, 54, 55, 56, 57, 58, 59, 60, 61, 62, 63, 64, 65, 66, 67, 68, 69, 70, 71, 72, 73, 74, 75, 76, 77, 78, 79, 80, 81, 82, 83, 84, 85, 86, 87, 88, 89, 90, 91, 92, 93, 94, 95, 96])) (xC (.str [97, 98, 99, 100, 101, 102, 103, 104, 105, 106, 107, 108, 109, 110, 111, 112, 113, 114, 115, 116, 117, 118, 119, 120, 121, 122, 123, 124, 125, 126, 10, 9])))))
  (sSeq (sSet 2 (nOf (xC (.str [65, 66, 67, 68, 69, 70, 71, 72, 73, 74, 75, 76, 77, 78, 79, 80, 81, 82, 83, 84, 85, 86, 87, 88, 89, 90]))))
  (sSeq (sSet 3 (nOf (xC (.str [97, 98, 99, 100, 101, 102, 103, 104, 105, 106, 107, 108, 109, 110, 111, 112, 113, 114, 115, 116, 117, 118, 119, 120, 121, 122, 48, 49, 50, 51, 52, 53, 54, 55, 56, 57]))))
  (sSeq (sSet 4 (nOf (xLst (aCons (xC (.str [])) (aCons (xC (.str [126])) (aCons (xC (.str [126, 126])) (aCons (xC (.str [35, 126])) (aCons (xC (.str [97, 126])) (aCons (xC (.str [88, 126, 126])) (aCons (xC (.str [126, 88])) (aCons (xC (.str [88, 126, 97])) (aCons (xC (.str [65, 98, 49, 99, 50])) (aCons (xC (.str [65, 66])) (aCons (xC (.str [65, 32, 66])) (aCons (xC (.str [65, 32])) (aCons (xC (.str [32, 65])) (aCons (xC (.str [49, 97])) (aCons (xC (.str [35, 35])) (aCons (xC (.str [97, 97])) (aCons (xC (.str [65, 10])) (aCons (xC (.str [65, 126, 10])) aNil)))))))))))))))))))))
  (sSeq (sSet 4 (nOf (xOp addD (xVar 4) (xLst (aCons (xC (.str [35])) (aCons (xC (.str [90, 122, 122, 57, 126])) aNil))))))
  (sSeq (sSet 5 (nOf (xOp modD (xCa intD (aCons (xOp ixD (xVar 0) (xC (.int 0))) aNil)) (xC (.int 9)))))
  (sSeq (sSet 6 (nOf (xOp modD (xCa intD (aCons (xOp ixD (xVar 0) (xC (.int 1))) aNil)) (xC (.int 4)))))
  (sSeq (sSet 7 (nOf (xOp addD (xOp ixD (xVar 2) (xOp modD (xCa intD (aCons (xOp ixD (xVar 0) (xC (.int 2))) aNil)) (xC (.int 26)))) (xOp joinD (xC (.str [])) (xLc (iSeq (xSl (xVar 0) (oSome (xC (.int 3))) (oSome (xOp addD (xC (.int 3)) (xVar 6))))) (gPut 8) (fun _ => .ok true) (xOp ixD (xVar 3) (xOp modD (xCa intD (aCons (xVar 8) aNil)) (xC (.int 36)))) [8])))))
  (sSeq (sSet 9 (nOf (xOp modD (xCa intD (aCons (xOp ixD (xVar 0) (xC (.int 7))) aNil)) (xOp addD (xCa lenD (aCons (xVar 7) aNil)) (xC (.int 1))))))
  (sSeq (sSet 10 (nOf (xOp ixD (xVar 1) (xOp modD (xCa intD (aCons (xOp ixD (xVar 0) (xC (.int 8))) aNil)) (xCa lenD (aCons (xVar 1) aNil))))))
  (sSeq (sIf (bOf (xOp eqD (xVar 5) (xC (.int 0)))) (sRet (nOf (xOp joinD (xC (.str [])) (xLc (iSeq (xSl (xVar 0) (oSome (xC (.int 2))) (oSome (xOp addD (xC (.int 2)) (xOp modD (xCa intD (aCons (xOp ixD (xVar 0) (xC (.int 1))) aNil)) (xC (.int 7))))))) (gPut 8) (fun _ => .ok true) (xOp ixD (xVar 1) (xOp modD (xCa intD (aCons (xVar 8) aNil)) (xCa lenD (aCons (xVar 1) aNil)))) [8])))) sNil)
  (sSeq (sIf (bOf (xOp eqD (xVar 5) (xC (.int 1)))) (sRetV 7) sNil)
  (sSeq (sIf (bOf (xOp eqD (xVar 5) (xC (.int 2)))) (sRet (nOf (xOp addD (xVar 7) (xC (.str [126]))))) sNil)
  (sSeq (sIf (bOf (xOp eqD (xVar 5) (xC (.int 3)))) (sRet (nOf (xOp ixD (xVar 3) (xOp modD (xCa intD (aCons (xOp ixD (xVar 0) (xC (.int 2))) aNil)) (xC (.int 36)))))) sNil)
  (sSeq (sIf (bOf (xOp eqD (xVar 5) (xC (.int 4)))) (sRet (nOf (xOp addD (xOp addD (xSl (xVar 7) oNone (oSome (xVar 9))) (xVar 10)) (xSl (xVar 7) (oSome (xVar 9)) oNone)))) sNil)
  (sSeq (sIf (bOf (xOp eqD (xVar 5) (xC (.int 5)))) (sRet (nOf (xOp addD (xOp addD (xSl (xVar 7) oNone (oSome (xVar 9))) (xVar 10)) (xSl (xVar 7) (oSome (xOp addD (xVar 9) (xC (.int 1)))) oNone)))) sNil)
  (sSeq (sIf (bOf (xOp eqD (xVar 5) (xC (.int 6)))) (sRet (nOf (xOp addD (xOp addD (xOp addD (xSl (xVar 7) oNone (oSome (xVar 9))) (xVar 10)) (xSl (xVar 7) (oSome (xVar 9)) oNone)) (xC (.str [126]))))) sNil)
  (sSeq (sIf (bOf (xOp eqD (xVar 5) (xC (.int 7)))) (sRet (nOf (xOp ixD (xVar 4) (xOp modD (xCa intD (aCons (xOp ixD (xVar 0) (xC (.int 2))) aNil)) (xC (.int 20)))))) sNil)
  (sRetV 10)))))))))))))))))))
def F_l_string : FD := runD M_l_string 11
def M_l_given : SM := (sSeq (sSet 1 (nOf (xLst (aCons (xC (.str [78, 48, 48])) (aCons (xC (.str [78, 48, 97])) (aCons (xC (.str [78, 48, 49])) (aCons (xC (.str [78])) (aCons (xC (.str [78, 97])) (aCons (xC (.str [77, 48])) (aCons (xC (.str [78, 57, 122])) (aCons (xC (.str [88])) (aCons (xC (.str [79, 49])) (aCons (xC (.str [78, 49, 97, 48])) (aCons (xC (.str [78, 48, 48, 50])) (aCons (xC (.str [78, 110, 49])) aNil)))))))))))))))
  (sSeq (sSet 2 (nOf (xOp modD (xCa intD (aCons (xOp ixD (xVar 0) (xC (.int 0))) aNil)) (xC (.int 13)))))
  (sSeq (sIf (bOf (xOp eqD (xOp modD (xCa intD (aCons (xOp ixD (xVar 0) (xC (.int 1))) aNil)) (xC (.int 8))) (xC (.int 3)))) (sSet 2 (nOf (xOp addD (xC (.int 95)) (xOp modD (xCa intD (aCons (xOp ixD (xVar 0) (xC (.int 0))) aNil)) (xC (.int 20)))))) sNil)
  (sSeq (sSet 3 (nLc (iRng1 (xVar 2)) (gPut 4) (fun _ => .ok true) (xOp addD (xC (.str [78])) (xCa strD (aCons (xVar 4) aNil))) [4]))
  (sSeq (sIf (bAnd (bOf (xOp gtD (xOp modD (xCa intD (aCons (xOp ixD (xVar 0) (xC (.int 2))) aNil)) (xC (.int 3))) (xC (.int 0)))) (bOf (xOp gtD (xVar 2) (xC (.int 0))))) (sMut 3 popIF (aCons (xOp modD (xCa intD (aCons (xOp ixD (xVar 0) (xC (.int 3))) aNil)) (xVar 2)) aNil)) sNil)
  (sSeq (sFor (iSeq (xSl (xVar 0) (oSome (xC (.int 4))) (oSome (xOp addD (xC (.int 4)) (xOp modD (xCa intD (aCons (xOp ixD (xVar 0) (xC (.int 8))) aNil)) (xC (.int 4))))))) (gPut 5) (sSeq (sSet 6 (nOf (xOp ixD (xVar 1) (xOp modD (xCa intD (aCons (xOp divD (xVar 5) (xC (.int 13))) aNil)) (xC (.int 12))))))
  (sIf (bOf (xOp niD (xVar 6) (xVar 3))) (sMut 3 insF (aCons (xOp modD (xCa intD (aCons (xVar 5) aNil)) (xOp addD (xCa lenD (aCons (xVar 3) aNil)) (xC (.int 1)))) (aCons (xVar 6) aNil))) sNil)))
  (sSeq (sIf (bOf (xOp eqD (xOp modD (xCa intD (aCons (xOp ixD (xVar 0) (xC (.int 9))) aNil)) (xC (.int 2))) (xC (.int 1)))) (sRet (nOf (xUn revD (xVar 3)))) sNil)
  (sRetV 3))))))))
def F_l_given : FD := runD M_l_given 7
def M_l_fresh : SM := (sSeq (sSet 2 (nLst aNil))
  (sSeq (sFor (iRng1 (xOp addD (xCa lenD (aCons (xVar 0) aNil)) (xVar 1))) (gPut 3) (sSeq (sSet 4 (nOf (xOp addD (xC (.str [78])) (xCa strD (aCons (xVar 3) aNil)))))
  (sIf (bAnd (bOf (xOp niD (xVar 4) (xVar 0))) (bOf (xOp ltD (xCa lenD (aCons (xVar 2) aNil)) (xVar 1)))) (sMut 2 appF (aCons (xVar 4) aNil)) sNil)))
  (sRet (nOf (xCa tupD (aCons (xVar 2) aNil))))))
def F_l_fresh : FD := runD M_l_fresh 5
def M_fresh_names : SM := (sSeq (sSet 2 (nLst aNil))
  (sSeq (sSet 3 (nOf (xC (.int 0))))
  (sSeq (sWhile 1000000 (bOf (xOp ltD (xCa lenD (aCons (xVar 2) aNil)) (xVar 1))) (sSeq (sSet 4 (nOf (xOp addD (xC (.str [78])) (xCa strD (aCons (xVar 3) aNil)))))
  (sSeq (sIf (bOf (xOp niD (xVar 4) (xVar 0))) (sMut 2 appF (aCons (xVar 4) aNil)) sNil)
  (sAug 3 iaddD (xC (.int 1))))))
  (sRet (nOf (xCa tupD (aCons (xVar 2) aNil)))))))
def F_fresh_names : FD := runD M_fresh_names 5
def M_law : SM := (sSeq (sFor (iSeq (xLst (aCons (xC (.str [])) (aCons (xC (.str [126])) (aCons (xC (.str [35])) (aCons (xC (.str [88, 126, 126])) (aCons (xC (.str [126, 126])) (aCons (xC (.str [65, 66])) (aCons (xC (.str [65, 98, 99, 100])) (aCons (xC (.str [65, 98, 99, 100, 101])) (aCons (xC (.str [97, 126])) (aCons (xC (.str [97])) (aCons (xC (.str [97, 98])) (aCons (xC (.str [65])) (aCons (xC (.str [65, 126])) (aCons (xC (.str [65, 32, 98])) (aCons (xC (.str [90, 48, 57, 122, 126])) (aCons (xC (.str [90, 48, 57, 122, 126, 126])) (aCons (xC (.str [55])) (aCons (xC (.str [35, 126])) aNil)))))))))))))))))))) (gPut 1) (sIf (bNot (bTru (xCall F_l_good_string (aCons (xVar 1) aNil)))) (sRet (nOf (xC (.bl false)))) sNil))
  (sSeq (sFor (iRng1 (xC (.int 20))) (gPut 2) (sIf (bNot (bTru (xCall F_l_good_string (aCons (xCall F_l_string (aCons (xCall F_l_draws (aCons (xOp addD (xCall F_l_cell (aCons (xVar 0) (aCons (xOp addD (xC (.int 1)) (xVar 2)) aNil))) (xVar 2)) (aCons (xC (.int 9)) aNil))) aNil)) aNil)))) (sRet (nOf (xC (.bl false)))) sNil))
  (sSeq (sSet 3 (nOf (xCall F_l_draws (aCons (xCall F_l_cell (aCons (xVar 0) (aCons (xC (.int 0)) aNil))) (aCons (xC (.int 11)) aNil)))))
  (sSeq (sSet 4 (nOf (xCall F_l_given (aCons (xVar 3) aNil))))
  (sSeq (sSet 5 (nOf (xOp modD (xCa intD (aCons (xOp ixD (xVar 3) (xC (.int 10))) aNil)) (xC (.int 6)))))
  (sSeq (sSet 6 (nOf (xCall F_l_fresh (aCons (xVar 4) (aCons (xVar 5) aNil)))))
  (sSeq (sIf (bOr (bNot (bTru (xCall F_l_same (aCons (xCall F_fresh_names (aCons (xCa tupD (aCons (xVar 4) aNil)) (aCons (xVar 5) aNil))) (aCons (xVar 6) aNil))))) (bNot (bTru (xCall F_l_same (aCons (xCall F_fresh_names (aCons (xCa tupD (aCons (xUn revD (xVar 4)) aNil)) (aCons (xVar 5) aNil))) (aCons (xVar 6) aNil)))))) (sRet (nOf (xC (.bl false)))) sNil)
  (sSeq (sIf (bNot (bTru (xCall F_l_same (aCons (xCall F_fresh_names (aCons (xTup aNil) (aCons (xVar 5) aNil))) (aCons (xCall F_l_fresh (aCons (xLst aNil) (aCons (xVar 5) aNil))) aNil))))) (sRet (nOf (xC (.bl false)))) sNil)
  (sSeq (sSet 7 (nOf (xCall F_l_fresh (aCons (xOp addD (xVar 4) (xList (xVar 6))) (aCons (xVar 5) aNil)))))
  (sRet (nCall F_l_same (aCons (xCall F_fresh_names (aCons (xOp addD (xCa tupD (aCons (xVar 4) aNil)) (xVar 6)) (aCons (xVar 5) aNil))) (aCons (xVar 7) aNil)))))))))))))
def F_law : FD := runD M_law 8
end K00

namespace K00
open PySem PySem.Spec L2 DV
def top (i : Nat) : Stmt := PySem.Challenge.pw_twiceeach_k00_symbols_and_fresh_names.main.body.getD i (.Pass ⟨0, 0, 0, 0⟩)
abbrev s_l_is_name : Stmt := top 16
abbrev s_is_letter : Stmt := top 6
abbrev s_l_same : Stmt := top 15
abbrev s_is_name : Stmt := top 7
abbrev s_is_piece : Stmt := top 8
abbrev s_name_of : Stmt := top 9
abbrev s_turned_symbol : Stmt := top 10
abbrev s_l_good_string : Stmt := top 18
abbrev s_l_cell : Stmt := top 13
abbrev s_l_draws : Stmt := top 14
abbrev s_l_string : Stmt := top 17
abbrev s_l_given : Stmt := top 19
abbrev s_l_fresh : Stmt := top 20
abbrev s_fresh_names : Stmt := top 11
abbrev s_law : Stmt := top 21
/-- what the top has left of the built-in names and the constants -/
structure Txt (K : PySem.W.Frag) (mg : Str → Option Value) : Prop where
  b_abs : mg "abs" = none
  b_bool : mg "bool" = none
  b_dict : mg "dict" = none
  b_int : mg "int" = none
  b_isinstance : mg "isinstance" = none
  b_len : mg "len" = none
  b_list : mg "list" = none
  b_range : mg "range" = none
  b_str : mg "str" = none
  b_tuple : mg "tuple" = none
  c_SMALL : ∃ t, mg "SMALL" = some (.str "abcdefghijklmnopqrstuvwxyz" t)
  c_MOST_SIGNS : ∃ t, mg "MOST_SIGNS" = some (.int 4 t)
  c_CAPITALS : ∃ t, mg "CAPITALS" = some (.str "ABCDEFGHIJKLMNOPQRSTUVWXYZ" t)
  c_DIGITS : ∃ t, mg "DIGITS" = some (.str "0123456789" t)
  c_TURN : ∃ t, mg "TURN" = some (.str "~" t)
theorem sc_l_is_name : FnScope ["_law_text", "_law_sign"] ["_law_text"] (defScope s_l_is_name) := ⟨rfl, rfl, rfl, by decide +kernel, rfl, by decide +kernel, by decide +kernel⟩
theorem sc_is_letter : FnScope ["symbol"] ["symbol"] (defScope s_is_letter) := ⟨rfl, rfl, rfl, by decide +kernel, rfl, by decide +kernel, by decide +kernel⟩
theorem sc_l_same : FnScope ["_law_actual", "_law_due", "_law_k", "_law_key"] ["_law_actual", "_law_due"] (defScope s_l_same) := ⟨rfl, rfl, rfl, by decide +kernel, rfl, by decide +kernel, by decide +kernel⟩
theorem sc_is_name : FnScope ["text", "char"] ["text"] (defScope s_is_name) := ⟨rfl, rfl, rfl, by decide +kernel, rfl, by decide +kernel, by decide +kernel⟩
theorem sc_is_piece : FnScope ["symbol"] ["symbol"] (defScope s_is_piece) := ⟨rfl, rfl, rfl, by decide +kernel, rfl, by decide +kernel, by decide +kernel⟩
theorem sc_name_of : FnScope ["symbol"] ["symbol"] (defScope s_name_of) := ⟨rfl, rfl, rfl, by decide +kernel, rfl, by decide +kernel, by decide +kernel⟩
theorem sc_turned_symbol : FnScope ["symbol"] ["symbol"] (defScope s_turned_symbol) := ⟨rfl, rfl, rfl, by decide +kernel, rfl, by decide +kernel, by decide +kernel⟩
theorem sc_l_good_string : FnScope ["_law_text", "_law_name", "_law_letter", "_law_piece", "_law_due"] ["_law_text"] (defScope s_l_good_string) := ⟨rfl, rfl, rfl, by decide +kernel, rfl, by decide +kernel, by decide +kernel⟩
theorem sc_l_cell : FnScope ["_law_script", "_law_k"] ["_law_script", "_law_k"] (defScope s_l_cell) := ⟨rfl, rfl, rfl, by decide +kernel, rfl, by decide +kernel, by decide +kernel⟩
theorem sc_l_draws : FnScope ["_law_cell_here", "_law_many", "_law_left", "_law_digits", "_law_mixed", "_law_draws_here", "_law_k"] ["_law_cell_here", "_law_many"] (defScope s_l_draws) := ⟨rfl, rfl, rfl, by decide +kernel, rfl, by decide +kernel, by decide +kernel⟩
theorem sc_l_string : FnScope ["_law_draws_here", "_law_signs", "_law_capitals", "_law_tails", "_law_odd", "_law_form", "_law_size", "_law_name", "_law_draw", "_law_at", "_law_sign"] ["_law_draws_here"] (defScope s_l_string) := ⟨rfl, rfl, rfl, by decide +kernel, rfl, by decide +kernel, by decide +kernel⟩
theorem sc_l_given : FnScope ["_law_draws_here", "_law_others", "_law_many", "_law_names", "_law_k", "_law_draw", "_law_name"] ["_law_draws_here"] (defScope s_l_given) := ⟨rfl, rfl, rfl, by decide +kernel, rfl, by decide +kernel, by decide +kernel⟩
theorem sc_l_fresh : FnScope ["_law_names", "_law_many", "_law_found", "_law_number", "_law_name"] ["_law_names", "_law_many"] (defScope s_l_fresh) := ⟨rfl, rfl, rfl, by decide +kernel, rfl, by decide +kernel, by decide +kernel⟩
theorem sc_fresh_names : FnScope ["names", "many", "found", "number", "name"] ["names", "many"] (defScope s_fresh_names) := ⟨rfl, rfl, rfl, by decide +kernel, rfl, by decide +kernel, by decide +kernel⟩
theorem sc_law : FnScope ["_law_script", "_law_text", "_law_k", "_law_draws_here", "_law_names", "_law_many", "_law_due", "_law_more"] ["_law_script"] (defScope s_law) := ⟨rfl, rfl, rfl, by decide +kernel, rfl, by decide +kernel, by decide +kernel⟩
section
variable {P : Program} {w : World} {K : PySem.W.Frag} {mg : Str → Option Value} {base : Heap}
theorem h_l_is_name (T : Txt K mg) (D_l_is_name : DefAt K mg "_law_is_name" "_law_is_name" s_l_is_name ["_law_text"])  : Has P w K mg base "_law_is_name" ["_law_text"] 1 F_l_is_name :=
  has_of (k := 0) (N := ["_law_text", "_law_sign"]) D_l_is_name sc_l_is_name (fun f cdv A outer s H E c hr => by
    unfold M_l_is_name
    exact (sb_cons (ss_if (bx_bw (bw_or (bx_cmp op_ltA ltD_ok (sx_callB call_len lenD_ok (by rfl) T.b_len b_len (sa_cons (sx_var 0) sa_nil)) sx_int) (bw_or (bx_cmp op_gtA gtD_ok (sx_callB call_len lenD_ok (by rfl) T.b_len b_len (sa_cons (sx_var 0) sa_nil)) sx_int) (bw_or1 (bx_cmp op_niA niD_ok (sx_ix ix_seq ixD_ok (sx_var 0) sx_int) (sx_str [65, 66, 67, 68, 69, 70, 71, 72, 73, 74, 75, 76, 77, 78, 79, 80, 81, 82, 83, 84, 85, 86, 87, 88, 89, 90])))))) (sb_one (ss_ret (nx_of sx_bl))) sb_nil)
      (sb_cons (ss_for (si_seq (sx_slice (sx_var 0) (so_some sx_int) so_none)) (sg_name 1 sc_l_is_name.nd) (sb_one (ss_if (bx_cmp op_niA niD_ok (sx_var 1) (sx_str [97, 98, 99, 100, 101, 102, 103, 104, 105, 106, 107, 108, 109, 110, 111, 112, 113, 114, 115, 116, 117, 118, 119, 120, 121, 122, 48, 49, 50, 51, 52, 53, 54, 55, 56, 57])) (sb_one (ss_ret (nx_of sx_bl))) sb_nil)) PassesOwn.never)
      (sb_one (ss_ret (nx_of sx_bl))))))
theorem h_is_letter (T : Txt K mg) (D_is_letter : DefAt K mg "is_letter" "is_letter" s_is_letter ["symbol"])  : Has P w K mg base "is_letter" ["symbol"] 1 F_is_letter :=
  has_of (k := 0) (N := ["symbol"]) D_is_letter sc_is_letter (fun f cdv A outer s H E c hr => by
    unfold M_is_letter
    exact (sb_one (ss_ret (nx_of (sx_and (sx_cmp (op_eqA hr.units) eqD_ok (sx_callB call_len lenD_ok (by rfl) T.b_len b_len (sa_cons (sx_var 0) sa_nil)) sx_int) (sx_one (sx_cmp op_inA inD_ok (sx_var 0) (sx_cS T.c_SMALL))))))))
theorem h_l_same (T : Txt K mg) (D_l_same : DefAt K mg "_law_same" "_law_same" s_l_same ["_law_actual", "_law_due"]) {k : Nat} {F_l_same : FD} (H_l_same : Has P w K mg base "_law_same" ["_law_actual", "_law_due"] k F_l_same)  : Has P w K mg base "_law_same" ["_law_actual", "_law_due"] (k + 1) (runD (M_l_same F_l_same) 4) :=
  has_of (N := ["_law_actual", "_law_due", "_law_k", "_law_key"]) D_l_same sc_l_same (fun f cdv A outer s H E c hr => by
    unfold M_l_same
    exact (sb_cons (ss_if (bx_cmp op_isN isD_ok (sx_var 1) sx_non) (sb_one (ss_ret (nx_of (sx_cmp op_isN isD_ok (sx_var 0) sx_non)))) sb_nil)
      (sb_cons (ss_if (bx_bw (bw_or (bx_tru (sx_isi kTup k_tup (sx_var 1) (by rfl) T.b_isinstance (by rfl) T.b_tuple b_tuple)) (bw_or1 (bx_tru (sx_isi kLst k_lst (sx_var 1) (by rfl) T.b_isinstance (by rfl) T.b_list b_list))))) (sb_cons (ss_if (bx_bw (bw_or (bx_bw (bw_and (bx_tru (sx_isi kTup k_tup (sx_var 1) (by rfl) T.b_isinstance (by rfl) T.b_tuple b_tuple)) (bw_and1 (bx_not (bx_tru (sx_isi kTup k_tup (sx_var 0) (by rfl) T.b_isinstance (by rfl) T.b_tuple b_tuple)))))) (bw_or1 (bx_bw (bw_and (bx_tru (sx_isi kLst k_lst (sx_var 1) (by rfl) T.b_isinstance (by rfl) T.b_list b_list)) (bw_and1 (bx_not (bx_tru (sx_isi kLst k_lst (sx_var 0) (by rfl) T.b_isinstance (by rfl) T.b_list b_list))))))))) (sb_one (ss_ret (nx_of sx_bl))) sb_nil)
      (sb_cons (ss_if (bx_cmp (op_neA hr.units) neD_ok (sx_callB call_len lenD_ok (by rfl) T.b_len b_len (sa_cons (sx_var 0) sa_nil)) (sx_callB call_len lenD_ok (by rfl) T.b_len b_len (sa_cons (sx_var 1) sa_nil))) (sb_one (ss_ret (nx_of sx_bl))) sb_nil)
      (sb_cons (ss_for (si_rng1 (sx_callB call_len lenD_ok (by rfl) T.b_len b_len (sa_cons (sx_var 1) sa_nil)) T.b_range) (sg_name 2 sc_l_same.nd) (sb_one (ss_if (bx_not (bx_tru (sx_callH H_l_same hr (sa_cons (sx_ix ix_seq ixD_ok (sx_var 0) (sx_var 2)) (sa_cons (sx_ix ix_seq ixD_ok (sx_var 1) (sx_var 2)) sa_nil)) (aCons_len (aCons_len aNil_len)) (hj := Nat.le_refl _)))) (sb_one (ss_ret (nx_of sx_bl))) sb_nil)) PassesOwn.never)
      (sb_one (ss_ret (nx_of sx_bl)))))) sb_nil)
      (sb_cons (ss_if (bx_tru (sx_isi kDict k_dict (sx_var 1) (by rfl) T.b_isinstance (by rfl) T.b_dict b_dict)) (sb_cons (ss_if (bx_bw (bw_or (bx_not (bx_tru (sx_isi kDict k_dict (sx_var 0) (by rfl) T.b_isinstance (by rfl) T.b_dict b_dict))) (bw_or1 (bx_cmp (op_neA hr.units) neD_ok (sx_callB call_len lenD_ok (by rfl) T.b_len b_len (sa_cons (sx_var 0) sa_nil)) (sx_callB call_len lenD_ok (by rfl) T.b_len b_len (sa_cons (sx_var 1) sa_nil)))))) (sb_one (ss_ret (nx_of sx_bl))) sb_nil)
      (sb_cons (ss_for (si_seq (sx_var 1)) (sg_name 3 sc_l_same.nd) (sb_one (ss_if (bx_bw (bw_or (bx_cmp op_niA niD_ok (sx_var 3) (sx_var 0)) (bw_or1 (bx_not (bx_tru (sx_callH H_l_same hr (sa_cons (sx_ix ix_seq ixD_ok (sx_var 0) (sx_var 3)) (sa_cons (sx_ix ix_seq ixD_ok (sx_var 1) (sx_var 3)) sa_nil)) (aCons_len (aCons_len aNil_len)) (hj := Nat.le_refl _))))))) (sb_one (ss_ret (nx_of sx_bl))) sb_nil)) PassesOwn.never)
      (sb_one (ss_ret (nx_of sx_bl))))) sb_nil)
      (sb_cons (ss_if (bx_tru (sx_isi kBool k_bool (sx_var 1) (by rfl) T.b_isinstance (by rfl) T.b_bool b_bool)) (sb_one (ss_ret (nx_of (sx_and (sx_isi kBool k_bool (sx_var 0) (by rfl) T.b_isinstance (by rfl) T.b_bool b_bool) (sx_one (sx_cmp (op_eqA hr.units) eqD_ok (sx_var 0) (sx_var 1))))))) sb_nil)
      (sb_cons (ss_if (bx_tru (sx_isi kInt k_int (sx_var 1) (by rfl) T.b_isinstance (by rfl) T.b_int b_int)) (sb_one (ss_ret (nx_of (sx_and (sx_isi kInt k_int (sx_var 0) (by rfl) T.b_isinstance (by rfl) T.b_int b_int) (sx_and (sx_not (sx_isi kBool k_bool (sx_var 0) (by rfl) T.b_isinstance (by rfl) T.b_bool b_bool)) (sx_one (sx_cmp (op_eqA hr.units) eqD_ok (sx_var 0) (sx_var 1)))))))) sb_nil)
      (sb_one (ss_ret (nx_of (sx_and (sx_isi kStr k_str (sx_var 0) (by rfl) T.b_isinstance (by rfl) T.b_str b_str) (sx_one (sx_cmp (op_eqA hr.units) eqD_ok (sx_var 0) (sx_var 1)))))))))))))
theorem hrec_l_same (T : Txt K mg) (D_l_same : DefAt K mg "_law_same" "_law_same" s_l_same ["_law_actual", "_law_due"]) : Has P w K mg base "_law_same" ["_law_actual", "_law_due"] 9 F_l_same :=
  has_rec (N := ["_law_actual", "_law_due", "_law_k", "_law_key"]) D_l_same sc_l_same (by decide) (fun k F H => h_l_same T D_l_same H) 8
theorem h_is_name (T : Txt K mg) (D_is_name : DefAt K mg "is_name" "is_name" s_is_name ["text"])  : Has P w K mg base "is_name" ["text"] 1 F_is_name :=
  has_of (k := 0) (N := ["text", "char"]) D_is_name sc_is_name (fun f cdv A outer s H E c hr => by
    unfold M_is_name
    exact (sb_cons (ss_if (bx_bw (bw_or (bx_not (bx_chain op_leA leD_ok op_leA leD_ok sx_int (sx_callB call_len lenD_ok (by rfl) T.b_len b_len (sa_cons (sx_var 0) sa_nil)) (sx_cI T.c_MOST_SIGNS))) (bw_or1 (bx_cmp op_niA niD_ok (sx_ix ix_seq ixD_ok (sx_var 0) sx_int) (sx_cS T.c_CAPITALS))))) (sb_one (ss_ret (nx_of sx_bl))) sb_nil)
      (sb_cons (ss_for (si_seq (sx_slice (sx_var 0) (so_some sx_int) so_none)) (sg_name 1 sc_is_name.nd) (sb_one (ss_if (bx_bw (bw_and (bx_cmp op_niA niD_ok (sx_var 1) (sx_cS T.c_SMALL)) (bw_and1 (bx_cmp op_niA niD_ok (sx_var 1) (sx_cS T.c_DIGITS))))) (sb_one (ss_ret (nx_of sx_bl))) sb_nil)) PassesOwn.never)
      (sb_one (ss_ret (nx_of sx_bl))))))
theorem h_is_piece (T : Txt K mg) (D_is_piece : DefAt K mg "is_piece" "is_piece" s_is_piece ["symbol"]) (H_is_name : Has P w K mg base "is_name" ["text"] 1 F_is_name) : Has P w K mg base "is_piece" ["symbol"] 2 F_is_piece :=
  has_of (k := 1) (N := ["symbol"]) D_is_piece sc_is_piece (fun f cdv A outer s H E c hr => by
    unfold M_is_piece
    exact (sb_cons (ss_if (bx_tru (sx_m1 PySem.F.slot_str_endswith PySem.F.type_str_endswith mt_endswith endsD_ok (sx_var 0) (sx_cS T.c_TURN))) (sb_one (ss_ret (nx_callH H_is_name hr (sa_cons (sx_slice (sx_var 0) so_none (so_some (sx_un un_neg negD_ok sx_int))) sa_nil) (aCons_len aNil_len)))) sb_nil)
      (sb_one (ss_ret (nx_callH H_is_name hr (sa_cons (sx_var 0) sa_nil) (aCons_len aNil_len))))))
theorem h_name_of (T : Txt K mg) (D_name_of : DefAt K mg "name_of" "name_of" s_name_of ["symbol"])  : Has P w K mg base "name_of" ["symbol"] 1 F_name_of :=
  has_of (k := 0) (N := ["symbol"]) D_name_of sc_name_of (fun f cdv A outer s H E c hr => by
    unfold M_name_of
    exact (sb_cons (ss_if (bx_tru (sx_m1 PySem.F.slot_str_endswith PySem.F.type_str_endswith mt_endswith endsD_ok (sx_var 0) (sx_cS T.c_TURN))) (sb_one (ss_ret (nx_of (sx_slice (sx_var 0) so_none (so_some (sx_un un_neg negD_ok sx_int)))))) sb_nil)
      (sb_one (ss_retV 0))))
theorem h_turned_symbol (T : Txt K mg) (D_turned_symbol : DefAt K mg "turned_symbol" "turned_symbol" s_turned_symbol ["symbol"])  : Has P w K mg base "turned_symbol" ["symbol"] 1 F_turned_symbol :=
  has_of (k := 0) (N := ["symbol"]) D_turned_symbol sc_turned_symbol (fun f cdv A outer s H E c hr => by
    unfold M_turned_symbol
    exact (sb_cons (ss_if (bx_cmp op_niA niD_ok (sx_ix ix_seq ixD_ok (sx_var 0) sx_int) (sx_cS T.c_CAPITALS)) (sb_one (ss_retV 0)) sb_nil)
      (sb_cons (ss_if (bx_tru (sx_m1 PySem.F.slot_str_endswith PySem.F.type_str_endswith mt_endswith endsD_ok (sx_var 0) (sx_cS T.c_TURN))) (sb_one (ss_ret (nx_of (sx_slice (sx_var 0) so_none (so_some (sx_un un_neg negD_ok sx_int)))))) sb_nil)
      (sb_one (ss_ret (nx_of (sx_op op_addA addD_ok (sx_var 0) (sx_cS T.c_TURN))))))))
theorem h_l_good_string (T : Txt K mg) (D_l_good_string : DefAt K mg "_law_good_string" "_law_good_string" s_l_good_string ["_law_text"]) (H_l_is_name : Has P w K mg base "_law_is_name" ["_law_text"] 1 F_l_is_name) (H_is_letter : Has P w K mg base "is_letter" ["symbol"] 1 F_is_letter) (H_l_same : Has P w K mg base "_law_same" ["_law_actual", "_law_due"] 9 F_l_same) (H_is_name : Has P w K mg base "is_name" ["text"] 1 F_is_name) (H_is_piece : Has P w K mg base "is_piece" ["symbol"] 2 F_is_piece) (H_name_of : Has P w K mg base "name_of" ["symbol"] 1 F_name_of) (H_turned_symbol : Has P w K mg base "turned_symbol" ["symbol"] 1 F_turned_symbol) : Has P w K mg base "_law_good_string" ["_law_text"] 10 F_l_good_string :=
  has_of (k := 9) (N := ["_law_text", "_law_name", "_law_letter", "_law_piece", "_law_due"]) D_l_good_string sc_l_good_string (fun f cdv A outer s H E c hr => by
    unfold M_l_good_string
    exact (sb_cons (ss_set 1 (nx_of (sx_var 0)) sc_l_good_string.nd)
      (sb_cons (ss_if (bx_tru (sx_m1 PySem.F.slot_str_endswith PySem.F.type_str_endswith mt_endswith endsD_ok (sx_var 0) (sx_str [126]))) (sb_one (ss_set 1 (nx_of (sx_slice (sx_var 0) so_none (so_some (sx_un un_neg negD_ok sx_int)))) sc_l_good_string.nd)) sb_nil)
      (sb_cons (ss_set 2 (nx_of (sx_and (sx_cmp (op_eqA hr.units) eqD_ok (sx_callB call_len lenD_ok (by rfl) T.b_len b_len (sa_cons (sx_var 0) sa_nil)) sx_int) (sx_one (sx_cmp op_inA inD_ok (sx_var 0) (sx_str [97, 98, 99, 100, 101, 102, 103, 104, 105, 106, 107, 108, 109, 110, 111, 112, 113, 114, 115, 116, 117, 118, 119, 120, 121, 122]))))) sc_l_good_string.nd)
      (sb_cons (ss_set 3 (nx_of (sx_callH H_l_is_name hr (sa_cons (sx_var 1) sa_nil) (aCons_len aNil_len))) sc_l_good_string.nd)
      (sb_cons (ss_if (bx_bw (bw_or (bx_not (bx_tru (sx_callH H_l_same hr (sa_cons (sx_callH H_is_letter hr (sa_cons (sx_var 0) sa_nil) (aCons_len aNil_len)) (sa_cons (sx_var 2) sa_nil)) (aCons_len (aCons_len aNil_len))))) (bw_or1 (bx_not (bx_tru (sx_callH H_l_same hr (sa_cons (sx_callH H_is_name hr (sa_cons (sx_var 0) sa_nil) (aCons_len aNil_len)) (sa_cons (sx_callH H_l_is_name hr (sa_cons (sx_var 0) sa_nil) (aCons_len aNil_len)) sa_nil)) (aCons_len (aCons_len aNil_len)))))))) (sb_one (ss_ret (nx_of sx_bl))) sb_nil)
      (sb_cons (ss_if (bx_not (bx_tru (sx_callH H_l_same hr (sa_cons (sx_callH H_is_piece hr (sa_cons (sx_var 0) sa_nil) (aCons_len aNil_len)) (sa_cons (sx_var 3) sa_nil)) (aCons_len (aCons_len aNil_len))))) (sb_one (ss_ret (nx_of sx_bl))) sb_nil)
      (sb_cons (ss_if (bx_bw (bw_and (bx_not (bx_tru (sx_var 2))) (bw_and (bx_not (bx_tru (sx_var 3))) (bw_and1 (bx_cmp (op_neA hr.units) neD_ok (sx_var 0) (sx_str [35])))))) (sb_one (ss_ret (nx_of sx_bl))) sb_nil)
      (sb_cons (ss_set 4 (nx_of (sx_var 0)) sc_l_good_string.nd)
      (sb_cons (ss_if (bx_not (bx_tru (sx_var 3))) (sb_one (ss_set 1 (nx_of (sx_var 0)) sc_l_good_string.nd)) (sb_one (ss_if (bx_cmp (op_eqA hr.units) eqD_ok (sx_var 1) (sx_var 0)) (sb_one (ss_set 4 (nx_of (sx_op op_addA addD_ok (sx_var 0) (sx_str [126]))) sc_l_good_string.nd)) (sb_one (ss_set 4 (nx_of (sx_var 1)) sc_l_good_string.nd)))))
      (sb_cons (ss_if (bx_bw (bw_or (bx_not (bx_tru (sx_callH H_l_same hr (sa_cons (sx_callH H_name_of hr (sa_cons (sx_var 0) sa_nil) (aCons_len aNil_len)) (sa_cons (sx_var 1) sa_nil)) (aCons_len (aCons_len aNil_len))))) (bw_or1 (bx_not (bx_tru (sx_callH H_l_same hr (sa_cons (sx_callH H_turned_symbol hr (sa_cons (sx_var 0) sa_nil) (aCons_len aNil_len)) (sa_cons (sx_var 4) sa_nil)) (aCons_len (aCons_len aNil_len)))))))) (sb_one (ss_ret (nx_of sx_bl))) sb_nil)
      (sb_one (ss_ret (nx_of (sx_and (sx_callH H_l_same hr (sa_cons (sx_callH H_name_of hr (sa_cons (sx_var 4) sa_nil) (aCons_len aNil_len)) (sa_cons (sx_var 1) sa_nil)) (aCons_len (aCons_len aNil_len))) (sx_one (sx_callH H_l_same hr (sa_cons (sx_callH H_turned_symbol hr (sa_cons (sx_var 4) sa_nil) (aCons_len aNil_len)) (sa_cons (sx_var 0) sa_nil)) (aCons_len (aCons_len aNil_len)))))))))))))))))))
theorem h_l_cell (T : Txt K mg) (D_l_cell : DefAt K mg "_law_cell" "_law_cell" s_l_cell ["_law_script", "_law_k"])  : Has P w K mg base "_law_cell" ["_law_script", "_law_k"] 1 F_l_cell :=
  has_of (k := 0) (N := ["_law_script", "_law_k"]) D_l_cell sc_l_cell (fun f cdv A outer s H E c hr => by
    unfold M_l_cell
    exact (sb_cons (ss_if (bx_cmp op_ltA ltD_ok (sx_var 1) (sx_callB call_len lenD_ok (by rfl) T.b_len b_len (sa_cons (sx_var 0) sa_nil))) (sb_one (ss_ret (nx_of (sx_ix ix_seq ixD_ok (sx_var 0) (sx_var 1))))) sb_nil)
      (sb_one (ss_ret (nx_of sx_int)))))
theorem h_l_draws (T : Txt K mg) (D_l_draws : DefAt K mg "_law_draws" "_law_draws" s_l_draws ["_law_cell_here", "_law_many"])  : Has P w K mg base "_law_draws" ["_law_cell_here", "_law_many"] 1 F_l_draws :=
  has_of (k := 0) (N := ["_law_cell_here", "_law_many", "_law_left", "_law_digits", "_law_mixed", "_law_draws_here", "_law_k"]) D_l_draws sc_l_draws (fun f cdv A outer s H E c hr => by
    unfold M_l_draws
    exact (sb_cons (ss_set 2 (nx_of (sx_callB call_abs absD_ok (by rfl) T.b_abs b_abs (sa_cons (sx_var 0) sa_nil))) sc_l_draws.nd)
      (sb_cons (ss_set 3 (nx_of (sx_cmp op_geA geD_ok (sx_var 2) (sx_op op_pow powD_ok sx_int sx_int))) sc_l_draws.nd)
      (sb_cons (ss_set 4 (nx_of (sx_op op_mod modD_ok (sx_callT call_int1 intD_ok (by rfl) T.b_int b_int (sa_cons (sx_var 2) sa_nil)) sx_int)) sc_l_draws.nd)
      (sb_cons (ss_set 5 (nx_lst sa_nil) sc_l_draws.nd)
      (sb_cons (ss_for (si_rng1 (sx_var 1) T.b_range) (sg_name 6 sc_l_draws.nd) (sb_cons (ss_set 4 (nx_of (sx_op op_mod modD_ok (sx_callT call_int1 intD_ok (by rfl) T.b_int b_int (sa_cons (sx_op op_addA addD_ok (sx_op op_addA addD_ok (sx_op op_mulA mulD_ok (sx_var 4) sx_int) (sx_op op_mulA mulD_ok sx_int (sx_var 6))) sx_int) sa_nil)) sx_int)) sc_l_draws.nd)
      (sb_one (ss_if (bx_bw (bw_and (bx_tru (sx_var 3)) (bw_and1 (bx_cmp op_gtA gtD_ok (sx_var 2) sx_int)))) (sb_cons (ss_mut 5 PySem.F.slot_list_append PySem.F.type_list_append mt_append appF_ok (sa_cons (sx_op op_mod modD_ok (sx_callT call_int1 intD_ok (by rfl) T.b_int b_int (sa_cons (sx_var 2) sa_nil)) sx_int) sa_nil))
      (sb_one (ss_set 2 (nx_of (sx_op op_fdiv divD_ok (sx_var 2) sx_int)) sc_l_draws.nd))) (sb_one (ss_mut 5 PySem.F.slot_list_append PySem.F.type_list_append mt_append appF_ok (sa_cons (sx_op op_mod modD_ok (sx_op op_mod modD_ok (sx_callT call_int1 intD_ok (by rfl) T.b_int b_int (sa_cons (sx_op op_addA addD_ok (sx_op op_addA addD_ok (sx_op op_mulA mulD_ok (sx_var 4) (sx_var 4)) (sx_op op_mulA mulD_ok sx_int (sx_var 4))) (sx_var 6)) sa_nil)) sx_int) sx_int) sa_nil)))))) PassesOwn.never)
      (sb_one (ss_retV 5))))))))
theorem h_l_string (T : Txt K mg) (D_l_string : DefAt K mg "_law_string" "_law_string" s_l_string ["_law_draws_here"])  : Has P w K mg base "_law_string" ["_law_draws_here"] 1 F_l_string :=
  has_of (k := 0) (N := ["_law_draws_here", "_law_signs", "_law_capitals", "_law_tails", "_law_odd", "_law_form", "_law_size", "_law_name", "_law_draw", "_law_at", "_law_sign"]) D_l_string sc_l_string (fun f cdv A outer s H E c hr => by
    unfold M_l_string
    exact (sb_cons (ss_set 1 (nx_of (sx_op op_addA addD_ok (sx_str [32, 33, 34, 35, 36, 38, 39, 40, 41, 42, 43, 44, 45, 46, 47, 48, 49, 50, 51, 52, 53, 54, 55, 56, 57, 58, 59, 60, 61, 62, 63, 64, 65, 66, 67, 68, 69, 70, 71, 72, 73, 74, 75, 76, 77, 78, 79, 80, 81, 82, 83, 84, 85, 86, 87, 88, 89, 90, 91, 92, 93, 94, 95, 96]) (sx_str [97, 98, 99, 100, 101, 102, 103, 104, 105, 106, 107, 108, 109, 110, 111, 112, 113, 114, 115, 116, 117, 118, 119, 120, 121, 122, 123, 124, 125, 126, 10, 9]))) sc_l_string.nd)
      (sb_cons (ss_set 2 (nx_of (sx_str [65, 66, 67, 68, 69, 70, 71, 72, 73, 74, 75, 76, 77, 78, 79, 80, 81, 82, 83, 84, 85, 86, 87, 88, 89, 90])) sc_l_string.nd)
      (sb_cons (ss_set 3 (nx_of (sx_str [97, 98, 99, 100, 101, 102, 103, 104, 105, 106, 107, 108, 109, 110, 111, 112, 113, 114, 115, 116, 117, 118, 119, 120, 121, 122, 48, 49, 50, 51, 52, 53, 54, 55, 56, 57])) sc_l_string.nd)
      (sb_cons (ss_set 4 (nx_of (sx_lst (sa_cons (sx_str []) (sa_cons (sx_str [126]) (sa_cons (sx_str [126, 126]) (sa_cons (sx_str [35, 126]) (sa_cons (sx_str [97, 126]) (sa_cons (sx_str [88, 126, 126]) (sa_cons (sx_str [126, 88]) (sa_cons (sx_str [88, 126, 97]) (sa_cons (sx_str [65, 98, 49, 99, 50]) (sa_cons (sx_str [65, 66]) (sa_cons (sx_str [65, 32, 66]) (sa_cons (sx_str [65, 32]) (sa_cons (sx_str [32, 65]) (sa_cons (sx_str [49, 97]) (sa_cons (sx_str [35, 35]) (sa_cons (sx_str [97, 97]) (sa_cons (sx_str [65, 10]) (sa_cons (sx_str [65, 126, 10]) sa_nil)))))))))))))))))))) sc_l_string.nd)
      (sb_cons (ss_set 4 (nx_of (sx_op op_addA addD_ok (sx_var 4) (sx_lst (sa_cons (sx_str [35]) (sa_cons (sx_str [90, 122, 122, 57, 126]) sa_nil))))) sc_l_string.nd)
      (sb_cons (ss_set 5 (nx_of (sx_op op_mod modD_ok (sx_callT call_int1 intD_ok (by rfl) T.b_int b_int (sa_cons (sx_ix ix_seq ixD_ok (sx_var 0) sx_int) sa_nil)) sx_int)) sc_l_string.nd)
      (sb_cons (ss_set 6 (nx_of (sx_op op_mod modD_ok (sx_callT call_int1 intD_ok (by rfl) T.b_int b_int (sa_cons (sx_ix ix_seq ixD_ok (sx_var 0) sx_int) sa_nil)) sx_int)) sc_l_string.nd)
      (sb_cons (ss_set 7 (nx_of (sx_op op_addA addD_ok (sx_ix ix_seq ixD_ok (sx_var 2) (sx_op op_mod modD_ok (sx_callT call_int1 intD_ok (by rfl) T.b_int b_int (sa_cons (sx_ix ix_seq ixD_ok (sx_var 0) sx_int) sa_nil)) sx_int)) (sx_m1 PySem.F.slot_str_join PySem.F.type_str_join mt_join joinD_ok (sx_str []) (sx_lc (own := [("_law_draw", 8)]) ⟨sc_l_string.nd, rfl, (si_seq (sx_slice (sx_var 0) (so_some sx_int) (so_some (sx_op op_addA addD_ok sx_int (sx_var 6))))), blkOk_by (N := ["_law_draws_here", "_law_signs", "_law_capitals", "_law_tails", "_law_odd", "_law_form", "_law_size", "_law_name", "_law_draw", "_law_at", "_law_sign"]) (sc := defScope s_l_string) (by decide +kernel), fun _ _ _ _ _ => (cg_name 8 sc_l_string.nd), fun _ _ _ _ _ _ => tx_nil, fun _ _ _ _ _ _ => (sx_ix ix_seq ixD_ok (sx_var 3) (sx_op op_mod modD_ok (sx_callT call_int1 intD_ok (by rfl) T.b_int b_int (sa_cons (sx_var 8) sa_nil)) sx_int))⟩)))) sc_l_string.nd)
      (sb_cons (ss_set 9 (nx_of (sx_op op_mod modD_ok (sx_callT call_int1 intD_ok (by rfl) T.b_int b_int (sa_cons (sx_ix ix_seq ixD_ok (sx_var 0) sx_int) sa_nil)) (sx_op op_addA addD_ok (sx_callB call_len lenD_ok (by rfl) T.b_len b_len (sa_cons (sx_var 7) sa_nil)) sx_int))) sc_l_string.nd)
      (sb_cons (ss_set 10 (nx_of (sx_ix ix_seq ixD_ok (sx_var 1) (sx_op op_mod modD_ok (sx_callT call_int1 intD_ok (by rfl) T.b_int b_int (sa_cons (sx_ix ix_seq ixD_ok (sx_var 0) sx_int) sa_nil)) (sx_callB call_len lenD_ok (by rfl) T.b_len b_len (sa_cons (sx_var 1) sa_nil))))) sc_l_string.nd)
      (sb_cons (ss_if (bx_cmp (op_eqA hr.units) eqD_ok (sx_var 5) sx_int) (sb_one (ss_ret (nx_of (sx_m1 PySem.F.slot_str_join PySem.F.type_str_join mt_join joinD_ok (sx_str []) (sx_lc (own := [("_law_draw", 8)]) ⟨sc_l_string.nd, rfl, (si_seq (sx_slice (sx_var 0) (so_some sx_int) (so_some (sx_op op_addA addD_ok sx_int (sx_op op_mod modD_ok (sx_callT call_int1 intD_ok (by rfl) T.b_int b_int (sa_cons (sx_ix ix_seq ixD_ok (sx_var 0) sx_int) sa_nil)) sx_int))))), blkOk_by (N := ["_law_draws_here", "_law_signs", "_law_capitals", "_law_tails", "_law_odd", "_law_form", "_law_size", "_law_name", "_law_draw", "_law_at", "_law_sign"]) (sc := defScope s_l_string) (by decide +kernel), fun _ _ _ _ _ => (cg_name 8 sc_l_string.nd), fun _ _ _ _ _ _ => tx_nil, fun _ _ _ _ _ _ => (sx_ix ix_seq ixD_ok (sx_var 1) (sx_op op_mod modD_ok (sx_callT call_int1 intD_ok (by rfl) T.b_int b_int (sa_cons (sx_var 8) sa_nil)) (sx_callB call_len lenD_ok (by rfl) T.b_len b_len (sa_cons (sx_var 1) sa_nil))))⟩))))) sb_nil)
      (sb_cons (ss_if (bx_cmp (op_eqA hr.units) eqD_ok (sx_var 5) sx_int) (sb_one (ss_retV 7)) sb_nil)
      (sb_cons (ss_if (bx_cmp (op_eqA hr.units) eqD_ok (sx_var 5) sx_int) (sb_one (ss_ret (nx_of (sx_op op_addA addD_ok (sx_var 7) (sx_str [126]))))) sb_nil)
      (sb_cons (ss_if (bx_cmp (op_eqA hr.units) eqD_ok (sx_var 5) sx_int) (sb_one (ss_ret (nx_of (sx_ix ix_seq ixD_ok (sx_var 3) (sx_op op_mod modD_ok (sx_callT call_int1 intD_ok (by rfl) T.b_int b_int (sa_cons (sx_ix ix_seq ixD_ok (sx_var 0) sx_int) sa_nil)) sx_int))))) sb_nil)
      (sb_cons (ss_if (bx_cmp (op_eqA hr.units) eqD_ok (sx_var 5) sx_int) (sb_one (ss_ret (nx_of (sx_op op_addA addD_ok (sx_op op_addA addD_ok (sx_slice (sx_var 7) so_none (so_some (sx_var 9))) (sx_var 10)) (sx_slice (sx_var 7) (so_some (sx_var 9)) so_none))))) sb_nil)
      (sb_cons (ss_if (bx_cmp (op_eqA hr.units) eqD_ok (sx_var 5) sx_int) (sb_one (ss_ret (nx_of (sx_op op_addA addD_ok (sx_op op_addA addD_ok (sx_slice (sx_var 7) so_none (so_some (sx_var 9))) (sx_var 10)) (sx_slice (sx_var 7) (so_some (sx_op op_addA addD_ok (sx_var 9) sx_int)) so_none))))) sb_nil)
      (sb_cons (ss_if (bx_cmp (op_eqA hr.units) eqD_ok (sx_var 5) sx_int) (sb_one (ss_ret (nx_of (sx_op op_addA addD_ok (sx_op op_addA addD_ok (sx_op op_addA addD_ok (sx_slice (sx_var 7) so_none (so_some (sx_var 9))) (sx_var 10)) (sx_slice (sx_var 7) (so_some (sx_var 9)) so_none)) (sx_str [126]))))) sb_nil)
      (sb_cons (ss_if (bx_cmp (op_eqA hr.units) eqD_ok (sx_var 5) sx_int) (sb_one (ss_ret (nx_of (sx_ix ix_seq ixD_ok (sx_var 4) (sx_op op_mod modD_ok (sx_callT call_int1 intD_ok (by rfl) T.b_int b_int (sa_cons (sx_ix ix_seq ixD_ok (sx_var 0) sx_int) sa_nil)) sx_int))))) sb_nil)
      (sb_one (ss_retV 10)))))))))))))))))))))
theorem h_l_given (T : Txt K mg) (D_l_given : DefAt K mg "_law_given" "_law_given" s_l_given ["_law_draws_here"])  : Has P w K mg base "_law_given" ["_law_draws_here"] 1 F_l_given :=
  has_of (k := 0) (N := ["_law_draws_here", "_law_others", "_law_many", "_law_names", "_law_k", "_law_draw", "_law_name"]) D_l_given sc_l_given (fun f cdv A outer s H E c hr => by
    unfold M_l_given
    exact (sb_cons (ss_set 1 (nx_of (sx_lst (sa_cons (sx_str [78, 48, 48]) (sa_cons (sx_str [78, 48, 97]) (sa_cons (sx_str [78, 48, 49]) (sa_cons (sx_str [78]) (sa_cons (sx_str [78, 97]) (sa_cons (sx_str [77, 48]) (sa_cons (sx_str [78, 57, 122]) (sa_cons (sx_str [88]) (sa_cons (sx_str [79, 49]) (sa_cons (sx_str [78, 49, 97, 48]) (sa_cons (sx_str [78, 48, 48, 50]) (sa_cons (sx_str [78, 110, 49]) sa_nil)))))))))))))) sc_l_given.nd)
      (sb_cons (ss_set 2 (nx_of (sx_op op_mod modD_ok (sx_callT call_int1 intD_ok (by rfl) T.b_int b_int (sa_cons (sx_ix ix_seq ixD_ok (sx_var 0) sx_int) sa_nil)) sx_int)) sc_l_given.nd)
      (sb_cons (ss_if (bx_cmp (op_eqA hr.units) eqD_ok (sx_op op_mod modD_ok (sx_callT call_int1 intD_ok (by rfl) T.b_int b_int (sa_cons (sx_ix ix_seq ixD_ok (sx_var 0) sx_int) sa_nil)) sx_int) sx_int) (sb_one (ss_set 2 (nx_of (sx_op op_addA addD_ok sx_int (sx_op op_mod modD_ok (sx_callT call_int1 intD_ok (by rfl) T.b_int b_int (sa_cons (sx_ix ix_seq ixD_ok (sx_var 0) sx_int) sa_nil)) sx_int))) sc_l_given.nd)) sb_nil)
      (sb_cons (ss_setLc 3 (own := [("_law_k", 4)]) ⟨sc_l_given.nd, rfl, (si_rng1 (sx_var 2) T.b_range), blkOk_by (N := ["_law_draws_here", "_law_others", "_law_many", "_law_names", "_law_k", "_law_draw", "_law_name"]) (sc := defScope s_l_given) (by decide +kernel), fun _ _ _ _ _ => (cg_name 4 sc_l_given.nd), fun _ _ _ _ _ _ => tx_nil, fun _ _ _ _ _ _ => (sx_op op_addA addD_ok (sx_str [78]) (sx_callT call_str_int strD_ok (by rfl) T.b_str b_str (sa_cons (sx_var 4) sa_nil)))⟩ (sw_true rfl rfl rfl (by decide +kernel)))
      (sb_cons (ss_if (bx_bw (bw_and (bx_cmp op_gtA gtD_ok (sx_op op_mod modD_ok (sx_callT call_int1 intD_ok (by rfl) T.b_int b_int (sa_cons (sx_ix ix_seq ixD_ok (sx_var 0) sx_int) sa_nil)) sx_int) sx_int) (bw_and1 (bx_cmp op_gtA gtD_ok (sx_var 2) sx_int)))) (sb_one (ss_mut 3 PySem.F.slot_list_pop PySem.F.type_list_pop mt_popAt popIF_ok (sa_cons (sx_op op_mod modD_ok (sx_callT call_int1 intD_ok (by rfl) T.b_int b_int (sa_cons (sx_ix ix_seq ixD_ok (sx_var 0) sx_int) sa_nil)) (sx_var 2)) sa_nil))) sb_nil)
      (sb_cons (ss_for (si_seq (sx_slice (sx_var 0) (so_some sx_int) (so_some (sx_op op_addA addD_ok sx_int (sx_op op_mod modD_ok (sx_callT call_int1 intD_ok (by rfl) T.b_int b_int (sa_cons (sx_ix ix_seq ixD_ok (sx_var 0) sx_int) sa_nil)) sx_int))))) (sg_name 5 sc_l_given.nd) (sb_cons (ss_set 6 (nx_of (sx_ix ix_seq ixD_ok (sx_var 1) (sx_op op_mod modD_ok (sx_callT call_int1 intD_ok (by rfl) T.b_int b_int (sa_cons (sx_op op_fdiv divD_ok (sx_var 5) sx_int) sa_nil)) sx_int))) sc_l_given.nd)
      (sb_one (ss_if (bx_cmp op_niA niD_ok (sx_var 6) (sx_var 3)) (sb_one (ss_mut 3 PySem.F.slot_list_insert PySem.F.type_list_insert mt_insert insF_ok (sa_cons (sx_op op_mod modD_ok (sx_callT call_int1 intD_ok (by rfl) T.b_int b_int (sa_cons (sx_var 5) sa_nil)) (sx_op op_addA addD_ok (sx_callB call_len lenD_ok (by rfl) T.b_len b_len (sa_cons (sx_var 3) sa_nil)) sx_int)) (sa_cons (sx_var 6) sa_nil)))) sb_nil))) PassesOwn.never)
      (sb_cons (ss_if (bx_cmp (op_eqA hr.units) eqD_ok (sx_op op_mod modD_ok (sx_callT call_int1 intD_ok (by rfl) T.b_int b_int (sa_cons (sx_ix ix_seq ixD_ok (sx_var 0) sx_int) sa_nil)) sx_int) sx_int) (sb_one (ss_ret (nx_of (sx_rev (sx_var 3))))) sb_nil)
      (sb_one (ss_retV 3))))))))))
theorem h_l_fresh (T : Txt K mg) (D_l_fresh : DefAt K mg "_law_fresh" "_law_fresh" s_l_fresh ["_law_names", "_law_many"])  : Has P w K mg base "_law_fresh" ["_law_names", "_law_many"] 1 F_l_fresh :=
  has_of (k := 0) (N := ["_law_names", "_law_many", "_law_found", "_law_number", "_law_name"]) D_l_fresh sc_l_fresh (fun f cdv A outer s H E c hr => by
    unfold M_l_fresh
    exact (sb_cons (ss_set 2 (nx_lst sa_nil) sc_l_fresh.nd)
      (sb_cons (ss_for (si_rng1 (sx_op op_addA addD_ok (sx_callB call_len lenD_ok (by rfl) T.b_len b_len (sa_cons (sx_var 0) sa_nil)) (sx_var 1)) T.b_range) (sg_name 3 sc_l_fresh.nd) (sb_cons (ss_set 4 (nx_of (sx_op op_addA addD_ok (sx_str [78]) (sx_callT call_str_int strD_ok (by rfl) T.b_str b_str (sa_cons (sx_var 3) sa_nil)))) sc_l_fresh.nd)
      (sb_one (ss_if (bx_bw (bw_and (bx_cmp op_niA niD_ok (sx_var 4) (sx_var 0)) (bw_and1 (bx_cmp op_ltA ltD_ok (sx_callB call_len lenD_ok (by rfl) T.b_len b_len (sa_cons (sx_var 2) sa_nil)) (sx_var 1))))) (sb_one (ss_mut 2 PySem.F.slot_list_append PySem.F.type_list_append mt_append appF_ok (sa_cons (sx_var 4) sa_nil))) sb_nil))) PassesOwn.never)
      (sb_one (ss_ret (nx_of (sx_callT call_tuple_of tupD_ok (by rfl) T.b_tuple b_tuple (sa_cons (sx_var 2) sa_nil))))))))
theorem h_fresh_names (T : Txt K mg) (D_fresh_names : DefAt K mg "fresh_names" "fresh_names" s_fresh_names ["names", "many"])  : Has P w K mg base "fresh_names" ["names", "many"] 1 F_fresh_names :=
  has_of (k := 0) (N := ["names", "many", "found", "number", "name"]) D_fresh_names sc_fresh_names (fun f cdv A outer s H E c hr => by
    unfold M_fresh_names
    exact (sb_cons (ss_set 2 (nx_lst sa_nil) sc_fresh_names.nd)
      (sb_cons (ss_set 3 (nx_of sx_int) sc_fresh_names.nd)
      (sb_cons (ss_while 1000000 (bx_cmp op_ltA ltD_ok (sx_callB call_len lenD_ok (by rfl) T.b_len b_len (sa_cons (sx_var 2) sa_nil)) (sx_var 1)) (sb_cons (ss_set 4 (nx_of (sx_op op_addA addD_ok (sx_str [78]) (sx_callT call_str_int strD_ok (by rfl) T.b_str b_str (sa_cons (sx_var 3) sa_nil)))) sc_fresh_names.nd)
      (sb_cons (ss_if (bx_cmp op_niA niD_ok (sx_var 4) (sx_var 0)) (sb_one (ss_mut 2 PySem.F.slot_list_append PySem.F.type_list_append mt_append appF_ok (sa_cons (sx_var 4) sa_nil))) sb_nil)
      (sb_one (ss_aug 3 iop_addA iaddD_ok sx_int sc_fresh_names.nd)))) PassesOwn.never)
      (sb_one (ss_ret (nx_of (sx_callT call_tuple_of tupD_ok (by rfl) T.b_tuple b_tuple (sa_cons (sx_var 2) sa_nil)))))))))
theorem h_law (T : Txt K mg) {f : Addr} {fd : FuncData} (G : Fun K "law" "law" s_law f fd) (H_l_good_string : Has P w K mg base "_law_good_string" ["_law_text"] 10 F_l_good_string) (H_l_cell : Has P w K mg base "_law_cell" ["_law_script", "_law_k"] 1 F_l_cell) (H_l_draws : Has P w K mg base "_law_draws" ["_law_cell_here", "_law_many"] 1 F_l_draws) (H_l_string : Has P w K mg base "_law_string" ["_law_draws_here"] 1 F_l_string) (H_l_given : Has P w K mg base "_law_given" ["_law_draws_here"] 1 F_l_given) (H_l_fresh : Has P w K mg base "_law_fresh" ["_law_names", "_law_many"] 1 F_l_fresh) (H_fresh_names : Has P w K mg base "fresh_names" ["names", "many"] 1 F_fresh_names) (H_l_same : Has P w K mg base "_law_same" ["_law_actual", "_law_due"] 9 F_l_same) : DefOk P w K mg base 11 f fd ["_law_script"] F_law :=
  def_ok (k := 10) (N := ["_law_script", "_law_text", "_law_k", "_law_draws_here", "_law_names", "_law_many", "_law_due", "_law_more"]) G sc_law (by decide) (fun cdv A outer s H E c hr => by
    unfold M_law
    exact (sb_cons (ss_for (si_seq (sx_lst (sa_cons (sx_str []) (sa_cons (sx_str [126]) (sa_cons (sx_str [35]) (sa_cons (sx_str [88, 126, 126]) (sa_cons (sx_str [126, 126]) (sa_cons (sx_str [65, 66]) (sa_cons (sx_str [65, 98, 99, 100]) (sa_cons (sx_str [65, 98, 99, 100, 101]) (sa_cons (sx_str [97, 126]) (sa_cons (sx_str [97]) (sa_cons (sx_str [97, 98]) (sa_cons (sx_str [65]) (sa_cons (sx_str [65, 126]) (sa_cons (sx_str [65, 32, 98]) (sa_cons (sx_str [90, 48, 57, 122, 126]) (sa_cons (sx_str [90, 48, 57, 122, 126, 126]) (sa_cons (sx_str [55]) (sa_cons (sx_str [35, 126]) sa_nil)))))))))))))))))))) (sg_name 1 sc_law.nd) (sb_one (ss_if (bx_not (bx_tru (sx_callH H_l_good_string hr (sa_cons (sx_var 1) sa_nil) (aCons_len aNil_len)))) (sb_one (ss_ret (nx_of sx_bl))) sb_nil)) PassesOwn.never)
      (sb_cons (ss_for (si_rng1 sx_int T.b_range) (sg_name 2 sc_law.nd) (sb_one (ss_if (bx_not (bx_tru (sx_callH H_l_good_string hr (sa_cons (sx_callH H_l_string hr (sa_cons (sx_callH H_l_draws hr (sa_cons (sx_op op_addA addD_ok (sx_callH H_l_cell hr (sa_cons (sx_var 0) (sa_cons (sx_op op_addA addD_ok sx_int (sx_var 2)) sa_nil)) (aCons_len (aCons_len aNil_len))) (sx_var 2)) (sa_cons sx_int sa_nil)) (aCons_len (aCons_len aNil_len))) sa_nil) (aCons_len aNil_len)) sa_nil) (aCons_len aNil_len)))) (sb_one (ss_ret (nx_of sx_bl))) sb_nil)) PassesOwn.never)
      (sb_cons (ss_set 3 (nx_of (sx_callH H_l_draws hr (sa_cons (sx_callH H_l_cell hr (sa_cons (sx_var 0) (sa_cons sx_int sa_nil)) (aCons_len (aCons_len aNil_len))) (sa_cons sx_int sa_nil)) (aCons_len (aCons_len aNil_len)))) sc_law.nd)
      (sb_cons (ss_set 4 (nx_of (sx_callH H_l_given hr (sa_cons (sx_var 3) sa_nil) (aCons_len aNil_len))) sc_law.nd)
      (sb_cons (ss_set 5 (nx_of (sx_op op_mod modD_ok (sx_callT call_int1 intD_ok (by rfl) T.b_int b_int (sa_cons (sx_ix ix_seq ixD_ok (sx_var 3) sx_int) sa_nil)) sx_int)) sc_law.nd)
      (sb_cons (ss_set 6 (nx_of (sx_callH H_l_fresh hr (sa_cons (sx_var 4) (sa_cons (sx_var 5) sa_nil)) (aCons_len (aCons_len aNil_len)))) sc_law.nd)
      (sb_cons (ss_if (bx_bw (bw_or (bx_not (bx_tru (sx_callH H_l_same hr (sa_cons (sx_callH H_fresh_names hr (sa_cons (sx_callT call_tuple_of tupD_ok (by rfl) T.b_tuple b_tuple (sa_cons (sx_var 4) sa_nil)) (sa_cons (sx_var 5) sa_nil)) (aCons_len (aCons_len aNil_len))) (sa_cons (sx_var 6) sa_nil)) (aCons_len (aCons_len aNil_len))))) (bw_or1 (bx_not (bx_tru (sx_callH H_l_same hr (sa_cons (sx_callH H_fresh_names hr (sa_cons (sx_callT call_tuple_of tupD_ok (by rfl) T.b_tuple b_tuple (sa_cons (sx_rev (sx_var 4)) sa_nil)) (sa_cons (sx_var 5) sa_nil)) (aCons_len (aCons_len aNil_len))) (sa_cons (sx_var 6) sa_nil)) (aCons_len (aCons_len aNil_len)))))))) (sb_one (ss_ret (nx_of sx_bl))) sb_nil)
      (sb_cons (ss_if (bx_not (bx_tru (sx_callH H_l_same hr (sa_cons (sx_callH H_fresh_names hr (sa_cons (sx_tup sa_nil) (sa_cons (sx_var 5) sa_nil)) (aCons_len (aCons_len aNil_len))) (sa_cons (sx_callH H_l_fresh hr (sa_cons (sx_lst sa_nil) (sa_cons (sx_var 5) sa_nil)) (aCons_len (aCons_len aNil_len))) sa_nil)) (aCons_len (aCons_len aNil_len))))) (sb_one (ss_ret (nx_of sx_bl))) sb_nil)
      (sb_cons (ss_set 7 (nx_of (sx_callH H_l_fresh hr (sa_cons (sx_op op_addA addD_ok (sx_var 4) (sx_list (sx_var 6) T.b_list)) (sa_cons (sx_var 5) sa_nil)) (aCons_len (aCons_len aNil_len)))) sc_law.nd)
      (sb_one (ss_ret (nx_callH H_l_same hr (sa_cons (sx_callH H_fresh_names hr (sa_cons (sx_op op_addA addD_ok (sx_callT call_tuple_of tupD_ok (by rfl) T.b_tuple b_tuple (sa_cons (sx_var 4) sa_nil)) (sx_var 6)) (sa_cons (sx_var 5) sa_nil)) (aCons_len (aCons_len aNil_len))) (sa_cons (sx_var 7) sa_nil)) (aCons_len (aCons_len aNil_len)))))))))))))))
end
end K00

namespace K00
open L2 DV LW LS
abbrev caps : List Nat := [65, 66, 67, 68, 69, 70, 71, 72, 73, 74, 75, 76, 77, 78, 79, 80, 81, 82, 83, 84, 85, 86, 87, 88, 89, 90]
abbrev small : List Nat := [97, 98, 99, 100, 101, 102, 103, 104, 105, 106, 107, 108, 109, 110, 111, 112, 113, 114, 115, 116, 117, 118, 119, 120, 121, 122]
abbrev digs : List Nat := [48, 49, 50, 51, 52, 53, 54, 55, 56, 57]
abbrev tails : List Nat := [97, 98, 99, 100, 101, 102, 103, 104, 105, 106, 107, 108, 109, 110, 111, 112, 113, 114, 115, 116, 117, 118, 119, 120, 121, 122, 48, 49, 50, 51, 52, 53, 54, 55, 56, 57]
def okc (c : Nat) : Bool := decide (c ∈ tails)
/-- a name -/
def isN : List Nat → Bool
  | [] => false
  | c :: r => decide (r.length ≤ 3) && decide (c ∈ caps) && r.all okc
theorem same_bl (b : Bool) : F_l_same [.bl b, .bl b] = .ok (.val (.bl true)) := same7 (.bl b)
theorem same_str (l : List Nat) : F_l_same [.str l, .str l] = .ok (.val (.bl true)) := same7 (.str l)
def gd : D → Bool
  | .str [c] => okc c
  | _ => false
theorem all_gd (r : List Nat) : (r.map fun c => D.str [c]).all gd = r.all okc := by
  rw [List.all_map]; rfl
theorem ix0 {c : Nat} {r : List Nat} (h : (c :: r).length ≤ 1000) : ixD (.str (c :: r)) (.int 0) = .ok (.str [c]) := by
  rw [ix_str' (by simp at h ⊢; omega)]
  have : atI (c :: r) (0 : Int) = some c := atI_nat (j := 0) rfl
  rw [this]; rfl
theorem sl1 {c : Nat} {r : List Nat} (h : (c :: r).length ≤ 1000) : slD (.str (c :: r)) (some 1) none = .ok (.str r) := sl_drop (p := 1) h
theorem lname_ok {l : List Nat} (h : l.length ≤ 1000) : F_l_is_name [.str l] = .ok (.val (.bl (isN l))) := by
  refine run_rt (ds := [.str l]) (?_ : M_l_is_name [.val (.str l), .no] = _)
  unfold M_l_is_name
  match l, h with
  | [], _ => exact seq_rt (by simp [len_any, isN])
  | c :: r, h =>
    have hl := len_any h
    by_cases h4 : 3 < r.length
    · refine seq_rt ?_
      have e : isN (c :: r) = false := by simp [isN]; omega
      rw [e]
      have h5 : ¬ ((r.length : Int) + 1 < 1) := by omega
      have h6 : (4 : Int) < (r.length : Int) + 1 := by omega
      simp [hl, h5, h6]
    have h5 : ¬ ((r.length : Int) + 1 < 1) := by omega
    have h6 : ¬ ((4 : Int) < (r.length : Int) + 1) := by omega
    by_cases hc : c ∈ caps
    · refine seq_go (by simp [hl, h5, h6, ix0 h, ni_one, hc, -List.mem_cons]) ?_
      have hr : decide (r.length ≤ 3) = true := by simpa using h4
      have e : isN (c :: r) = r.all okc := by simp only [isN, hr, hc, decide_true, Bool.true_and]
      rw [e, ← all_gd]
      have ei : (iSeq (xSl (xVar 0) (oSome (xC (.int 1))) oNone)) [.val (.str (c :: r)), .no] = .ok (r.map fun c => D.str [c]) := by
        simp [sl1 h]
      rcases forL_all (g := gPut 1) (B := sIf (bOf (xOp niD (xVar 1) (xC (.str tails)))) (sRet (nOf (xC (.bl false)))) sNil) (I := fun ρ => ∃ x : T, ρ = [.val (.str (c :: r)), x]) (t := .val (.bl false)) gd (ds := r.map fun c => D.str [c]) (ρ := [.val (.str (c :: r)), .no]) ⟨_, rfl⟩ (by
        rintro d hd ρ ⟨x, rfl⟩
        obtain ⟨y, hy, rfl⟩ := List.mem_map.1 hd
        refine ⟨_, rfl, ?_⟩
        by_cases hg : y ∈ tails
        · refine .inl ⟨by simpa [gd, okc] using hg, _, ?_, .val (.str [y]), rfl⟩
          simp [ni_one, hg, -List.mem_cons]
        · refine .inr ⟨by simpa [gd, okc] using hg, ?_⟩
          simp [ni_one, hg, -List.mem_cons]) with ⟨e1, ρ', e2, _⟩ | ⟨e1, e2⟩
      · rw [e1]
        refine seq_to ρ' ?_ (by simp)
        rw [sFor_ev, ei]; exact e2
      · rw [e1]
        refine seq_rt ?_
        rw [sFor_ev, ei]; exact e2
    · refine seq_rt ?_
      have e : isN (c :: r) = false := by simp only [isN, hc, decide_false, Bool.and_false, Bool.false_and]
      rw [e]
      simp [hl, h5, h6, ix0 h, ni_one, hc, -List.mem_cons]
theorem name_ok {l : List Nat} (h : l.length ≤ 1000) : F_is_name [.str l] = .ok (.val (.bl (isN l))) := by
  refine run_rt (ds := [.str l]) (?_ : M_is_name [.val (.str l), .no] = _)
  unfold M_is_name
  match l, h with
  | [], _ => exact seq_rt (by simp [len_any, isN])
  | c :: r, h =>
    have hl := len_any h
    by_cases h4 : 3 < r.length
    · refine seq_rt ?_
      have e : isN (c :: r) = false := by simp [isN]; omega
      rw [e]
      have h5 : ((1 : Int) ≤ (r.length : Int) + 1) := by omega
      have h6 : ¬ ((r.length : Int) + 1 ≤ 4) := by omega
      simp [hl, h5, h6]
    have h5 : ((1 : Int) ≤ (r.length : Int) + 1) := by omega
    have h6 : ((r.length : Int) + 1 ≤ 4) := by omega
    by_cases hc : c ∈ caps
    · refine seq_go (by simp [hl, h5, h6, ix0 h, ni_one, hc, -List.mem_cons]) ?_
      have hr : decide (r.length ≤ 3) = true := by simpa using h4
      have e : isN (c :: r) = r.all okc := by simp only [isN, hr, hc, decide_true, Bool.true_and]
      rw [e, ← all_gd]
      have ei : (iSeq (xSl (xVar 0) (oSome (xC (.int 1))) oNone)) [.val (.str (c :: r)), .no] = .ok (r.map fun c => D.str [c]) := by
        simp [sl1 h]
      rcases forL_all (g := gPut 1) (B := sIf (bAnd (bOf (xOp niD (xVar 1) (xC (.str small)))) (bOf (xOp niD (xVar 1) (xC (.str digs))))) (sRet (nOf (xC (.bl false)))) sNil) (I := fun ρ => ∃ x : T, ρ = [.val (.str (c :: r)), x]) (t := .val (.bl false)) gd (ds := r.map fun c => D.str [c]) (ρ := [.val (.str (c :: r)), .no]) ⟨_, rfl⟩ (by
        rintro d hd ρ ⟨x, rfl⟩
        obtain ⟨y, hy, rfl⟩ := List.mem_map.1 hd
        refine ⟨_, rfl, ?_⟩
        have hsplit : y ∈ tails ↔ y ∈ small ∨ y ∈ digs := List.mem_append (s := small) (t := digs)
        by_cases h1 : y ∈ small
        · refine .inl ⟨by have := hsplit.2 (.inl h1); simpa [gd, okc] using this, _, ?_, .val (.str [y]), rfl⟩
          simp [ni_one, h1, -List.mem_cons]
        · by_cases h2 : y ∈ digs
          · refine .inl ⟨by have := hsplit.2 (.inr h2); simpa [gd, okc] using this, _, ?_, .val (.str [y]), rfl⟩
            simp [ni_one, h1, h2, -List.mem_cons]
          · refine .inr ⟨by have := mt hsplit.1 (fun h => h.elim h1 h2); simpa [gd, okc] using this, ?_⟩
            simp [ni_one, h1, h2, -List.mem_cons]) with ⟨e1, ρ', e2, _⟩ | ⟨e1, e2⟩
      · rw [e1]
        refine seq_to ρ' ?_ (by simp)
        rw [sFor_ev, ei]; exact e2
      · rw [e1]
        refine seq_rt ?_
        rw [sFor_ev, ei]; exact e2
    · refine seq_rt ?_
      have e : isN (c :: r) = false := by simp only [isN, hc, decide_false, Bool.and_false, Bool.false_and]
      rw [e]
      simp [hl, h5, h6, ix0 h, ni_one, hc, -List.mem_cons]
theorem sl_neg {l : List Nat} (h : l.length ≤ 1000) : slD (.str l) none (some (-1)) = .ok (.str l.dropLast) := by rw [sl_str' (by simp; omega), cut_neg1]
theorem neg1 : negD (.int 1) = .ok (.int (-1)) := rfl
theorem piece_ok {l : List Nat} (h : l.length ≤ 1000) : F_is_piece [.str l] = .ok (.val (.bl (if endsL l [126] then isN l.dropLast else isN l))) := by
  refine run_rt (ds := [.str l]) (?_ : M_is_piece [.val (.str l)] = _)
  unfold M_is_piece
  cases e : endsL l [126] with
  | true => exact seq_rt (by simp [e, sl_neg h, name_ok (l := l.dropLast) (by simp; omega)])
  | false => exact seq_go (by simp [e]) (by simp [name_ok h])
theorem nameof_ok {l : List Nat} (h : l.length ≤ 1000) : F_name_of [.str l] = .ok (.val (.str (if endsL l [126] then l.dropLast else l))) := by
  refine run_rt (ds := [.str l]) (?_ : M_name_of [.val (.str l)] = _)
  unfold M_name_of
  cases e : endsL l [126] with
  | true => exact seq_rt (by simp [e, sl_neg h])
  | false => exact seq_go (by simp [e]) (by simp)
theorem turned_ok {c : Nat} {r : List Nat} (h : (c :: r).length ≤ 999) : F_turned_symbol [.str (c :: r)] = .ok (.val (.str (if c ∈ caps then (if endsL (c :: r) [126] then (c :: r).dropLast else (c :: r) ++ [126]) else c :: r))) := by
  refine run_rt (ds := [.str (c :: r)]) (?_ : M_turned_symbol [.val (.str (c :: r))] = _)
  unfold M_turned_symbol
  have h0 := ix0 (c := c) (r := r) (by omega)
  by_cases hc : c ∈ caps
  · refine seq_go (by simp [h0, ni_one, hc, -List.mem_cons]) ?_
    rw [if_pos hc]
    cases e : endsL (c :: r) [126] with
    | true => exact seq_rt (by simp [e, sl_neg (l := c :: r) (by omega)])
    | false => exact seq_go (by simp [e]) (by simp [add_any (l := c :: r) (k := [126]) (by omega) (by simp)])
  · refine seq_rt ?_
    rw [if_neg hc]
    simp [h0, ni_one, hc, -List.mem_cons]
def letE : EX := xAnd (xOp eqD (xCa lenD (aCons (xVar 0) aNil)) (xC (.int 1))) (xOp inD (xVar 0) (xC (.str small)))
theorem letE_ok {l : List Nat} (h : l.length ≤ 1000) : ∃ b, (∀ ρ, letE (T.val (.str l) :: ρ) = .ok (.bl b, none)) ∧ (b = true ↔ ∃ c, l = [c] ∧ c ∈ small) := by
  by_cases h1 : ∃ c, l = [c]
  · obtain ⟨c, rfl⟩ := h1
    refine ⟨decide (c ∈ small), fun ρ => ?_, fun h => ⟨c, rfl, of_decide_eq_true h⟩, fun ⟨_, e, hc⟩ => by cases e; exact decide_eq_true hc⟩
    unfold letE
    simp [len_any h, in_one, -List.mem_cons]
  · have h2 : ¬ ((l.length : Int) = 1) := fun h => h1 (by
      match l, h with
      | [c], _ => exact ⟨c, rfl⟩
      | c :: d :: r, h => simp at h; omega)
    refine ⟨false, fun ρ => ?_, by simp; intro c hc; exact absurd ⟨c, hc⟩ h1⟩
    unfold letE
    simp [len_any h, h2]
theorem isN_head {l : List Nat} (h : isN l = true) : ∃ c r, l = c :: r ∧ c ∈ caps ∧ ∀ x ∈ r, x ∈ tails := by
  match l, h with
  | c :: r, h =>
    unfold isN at h
    rw [Bool.and_eq_true, Bool.and_eq_true] at h
    refine ⟨c, r, rfl, of_decide_eq_true h.1.2, fun x hx => ?_⟩
    have := List.all_eq_true.1 h.2 x hx
    exact of_decide_eq_true this
/-- no name ends with the turn -/
theorem isN_end {l : List Nat} (h : isN l = true) : endsL l [126] = false := by
  cases e : endsL l [126] with
  | false => rfl
  | true =>
    obtain ⟨k, rfl⟩ := ends_one.1 e
    obtain ⟨c, r, e1, hc, hr⟩ := isN_head h
    have hm : 126 ∈ c :: r := by rw [← e1]; simp
    rcases List.mem_cons.1 hm with h1 | h1
    · rw [← h1] at hc; exact absurd hc (by decide)
    · exact absurd (hr _ h1) (by decide)
theorem good_ok {l : List Nat} (h : l.length ≤ 900) : F_l_good_string [.str l] = .ok (.val (.bl true)) := by
  refine run_rt (ds := [.str l]) (?_ : M_l_good_string [.val (.str l), .no, .no, .no, .no] = _)
  unfold M_l_good_string
  obtain ⟨b, hb, hb2⟩ := letE_ok (l := l) (by omega)
  have hlt : F_is_letter [.str l] = .ok (.val (.bl b)) := by
    refine run_rt (ds := [.str l]) (?_ : (sRet (nOf letE)) [.val (.str l)] = _)
    simp [hb]
  have hln := lname_ok (l := l) (by omega)
  have hnm := name_ok (l := l) (by omega)
  have hpc := piece_ok (l := l) (by omega)
  have hno := nameof_ok (l := l) (by omega)
  refine seq_to [.val (.str l), .val (.str l), .no, .no, .no] (by simp) ?_
  -- the name ahead of the turn
  obtain ⟨nm, hnm1, hnm2⟩ : ∃ nm : List Nat, nm = (if endsL l [126] then l.dropLast else l) ∧ nm.length ≤ l.length := ⟨_, rfl, by split <;> simp⟩
  refine seq_to [.val (.str l), .val (.str nm), .no, .no, .no] ?_ ?_
  · cases e : endsL l [126] with
    | true => rw [e, if_pos rfl] at hnm1; simp [e, sl_neg (l := l) (by omega), hnm1]
    | false => rw [e, if_neg Bool.false_ne_true] at hnm1; simp [e, hnm1]
  rw [← hnm1] at hno
  have hpc : F_is_piece [.str l] = .ok (.val (.bl (isN nm))) := by
    rw [hpc, hnm1]; split <;> rfl
  have hl2 : F_l_is_name [.str nm] = .ok (.val (.bl (isN nm))) := lname_ok (by omega)
  refine seq_to [.val (.str l), .val (.str nm), .val (.bl b), .no, .no] ?_ ?_
  · show sSet 2 (nOf letE) _ = _
    simp [hb]
  refine seq_to [.val (.str l), .val (.str nm), .val (.bl b), .val (.bl (isN nm)), .no] (by simp [hl2]) ?_
  refine seq_go (by simp [hlt, hnm, hln, same_bl]) ?_
  refine seq_go (by simp [hpc, same_bl]) ?_
  have nocap : ∀ c, c ∈ small → c ∉ caps := by decide
  -- what the signs are when the text is no piece
  cases hp : isN nm with
  | false =>
    by_cases hq : b = false ∧ l ≠ [35]
    · refine seq_rt ?_
      simp [hq.1, hq.2]
    · refine seq_go ?_ ?_
      · cases b with
        | true => simp
        | false =>
          have : l = [35] := by
            by_cases e : l = [35]
            · exact e
            · exact absurd ⟨rfl, e⟩ hq
          simp [this]
      have hc : ∃ c, l = [c] ∧ c ∉ caps ∧ c ≠ 126 := by
        cases b with
        | true =>
          obtain ⟨c, e, hc⟩ := hb2.1 rfl
          exact ⟨c, e, nocap c hc, fun h => by rw [h] at hc; exact absurd hc (by decide)⟩
        | false =>
          refine ⟨35, ?_, by decide, by decide⟩
          by_cases e : l = [35]
          · exact e
          · exact absurd ⟨rfl, e⟩ hq
      obtain ⟨c, rfl, hc, hc2⟩ := hc
      have he : endsL [c] [126] = false := by
        cases e : endsL [c] [126] with
        | false => rfl
        | true =>
          obtain ⟨k, hk⟩ := ends_one.1 e
          have : k = [] := by
            cases k with
            | nil => rfl
            | cons a k => simp at hk
          subst this
          exact absurd (by simpa using hk) hc2
      have hnl : nm = [c] := by rw [hnm1, he]; rfl
      subst hnl
      have hno2 := nameof_ok (l := [c]) (by simp)
      rw [he, if_neg Bool.false_ne_true] at hno2
      have htu := turned_ok (c := c) (r := []) (by simp)
      rw [if_neg hc] at htu
      refine seq_to [.val (.str [c]), .val (.str [c]), .val (.bl b), .val (.bl false), .val (.str [c])] (by simp) ?_
      refine seq_go (by simp) ?_
      refine seq_go (by simp [hno2, htu, same_str]) ?_
      simp [hno2, htu, same_str]
  | true =>
    obtain ⟨c, r, e1, hc, hr⟩ := isN_head hp
    have hne := isN_end hp
    refine seq_go (by cases b <;> simp) ?_
    refine seq_to [.val (.str l), .val (.str nm), .val (.bl b), .val (.bl true), .val (.str l)] (by simp) ?_
    have hnn := nameof_ok (l := nm) (by omega)
    rw [hne, if_neg Bool.false_ne_true] at hnn
    have hnt := turned_ok (c := c) (r := r) (by rw [← e1]; omega)
    rw [if_pos hc, ← e1, hne, if_neg Bool.false_ne_true] at hnt
    have h2 : endsL (nm ++ [126]) [126] = true := ends_snoc
    have hvn := nameof_ok (l := nm ++ [126]) (by simp; omega)
    rw [h2, if_pos rfl, List.dropLast_concat] at hvn
    have hvt := turned_ok (c := c) (r := r ++ [126]) (by rw [← List.cons_append, ← e1]; simp; omega)
    rw [if_pos hc, ← List.cons_append, ← e1, h2, if_pos rfl, List.dropLast_concat] at hvt
    cases e : endsL l [126] with
    | false =>
      rw [e, if_neg Bool.false_ne_true] at hnm1
      subst hnm1
      refine seq_to [.val (.str nm), .val (.str nm), .val (.bl b), .val (.bl true), .val (.str (nm ++ [126]))] (by simp [add_any (l := nm) (k := [126]) (by omega) (by simp)]) ?_
      refine seq_go (by simp [hnn, hnt, same_str]) ?_
      simp [hvn, hvt, same_str]
    | true =>
      rw [e, if_pos rfl] at hnm1
      obtain ⟨k, rfl⟩ := ends_one.1 e
      rw [List.dropLast_concat] at hnm1
      subst hnm1
      have hnel : ¬ (nm = nm ++ [126]) := by simp
      refine seq_to [.val (.str (nm ++ [126])), .val (.str nm), .val (.bl b), .val (.bl true), .val (.str nm)] (by simp [hnel]) ?_
      refine seq_go (by simp [hvn, hvt, same_str]) ?_
      simp [hnn, hnt, same_str]
end K00

namespace K00
open L2 DV LW LS
theorem nd : (List.range 160).Pairwise (fun (a b : Nat) => strI (a : Int) ≠ strI (b : Int)) := by decide +kernel
theorem pw_range {R : Nat → Nat → Prop} {n i j : Nat} (h : (List.range n).Pairwise R) (hij : i < j) (hj : j < n) : R i j := by
  rw [List.pairwise_iff_getElem] at h
  have := h i j (by rw [List.length_range]; omega) (by rw [List.length_range]; omega) hij
  rw [List.getElem_range, List.getElem_range] at this
  exact this
def nm (k : Nat) : List Nat := 78 :: strI (k : Int)
theorem nm_inj {i j : Nat} (hi : i < 160) (hj : j < 160) (h : nm i = nm j) : i = j := by
  have h : strI (i : Int) = strI (j : Int) := (List.cons.inj h).2
  rcases Nat.lt_trichotomy i j with hlt | he | hlt
  · exact absurd h (pw_range nd hlt hj)
  · exact he
  · exact absurd h.symm (pw_range nd hlt hi)
theorem nodup_len : ∀ {l S : List (List Nat)}, l.Nodup → (∀ x ∈ l, x ∈ S) → l.length ≤ S.length
  | [], S, _, _ => Nat.zero_le _
  | a :: l, S, h, hs => by
    have ha := hs a (.head _)
    have hl : l.length ≤ (S.erase a).length := by
      refine nodup_len (List.nodup_cons.1 h).2 fun x hx => ?_
      have hne : x ≠ a := fun e => (List.nodup_cons.1 h).1 (e ▸ hx)
      exact (List.mem_erase_of_ne hne).2 (hs x (.tail _ hx))
    rw [List.length_erase_of_mem ha] at hl
    have := List.length_pos_of_mem ha
    rw [List.length_cons]; omega
def fr (S : List (List Nat)) (n : Nat) : List Nat := (List.range n).filter fun k => decide (nm k ∉ S)
theorem fr_succ (S : List (List Nat)) (n : Nat) : fr S (n + 1) = if nm n ∈ S then fr S n else fr S n ++ [n] := by
  unfold fr
  rw [List.range_succ, List.filter_append]
  by_cases h : nm n ∈ S
  · simp [h]
  · simp [h]
theorem filter_two {α : Type} (p : α → Bool) : ∀ l : List α, (l.filter p).length + (l.filter fun x => !p x).length = l.length
  | [] => rfl
  | a :: l => by
    have := filter_two p l
    rw [List.filter_cons, List.filter_cons]
    cases p a <;> simp <;> omega
theorem fr_many {S : List (List Nat)} {n : Nat} (hn : n ≤ 160) : n ≤ (fr S n).length + S.length := by
  have h1 : (fr S n).length + ((List.range n).filter fun k => decide (nm k ∈ S)).length = n := by
    have := filter_two (fun k => decide (nm k ∈ S)) (List.range n)
    rw [List.length_range] at this
    unfold fr
    have e : (List.range n).filter (fun k => decide (nm k ∉ S)) = (List.range n).filter (fun k => !decide (nm k ∈ S)) := by
      apply List.filter_congr; intro x _; simp
    rw [e]
    omega
  have h2 : ((List.range n).filter fun k => decide (nm k ∈ S)).length ≤ S.length := by
    rw [← List.length_map (f := nm)]
    refine nodup_len ?_ fun x hx => ?_
    · rw [List.nodup_iff_pairwise_ne, List.pairwise_map]
      refine List.Pairwise.imp_of_mem (R := fun a b => a ≠ b) ?_ ?_
      · intro a b ha hb hab h
        have ha := List.mem_range.1 (List.mem_filter.1 ha).1
        have hb := List.mem_range.1 (List.mem_filter.1 hb).1
        exact hab (nm_inj (by omega) (by omega) h)
      · exact List.nodup_iff_pairwise_ne.1 (List.nodup_range.filter _)
    · obtain ⟨k, hk, rfl⟩ := List.mem_map.1 hx
      exact of_decide_eq_true (List.mem_filter.1 hk).2
  omega
theorem fr_app (S : List (List Nat)) (a b : Nat) : ∃ Y, fr S (a + b) = fr S a ++ Y := by
  unfold fr
  rw [List.range_add, List.filter_append]
  exact ⟨_, rfl⟩
/-- where as many are found as are wanted -/
theorem fr_at {S : List (List Nat)} {m : Nat} (h : S.length + m ≤ 160) : ∃ k, k ≤ S.length + m ∧ (fr S k).length = m ∧ ∀ j, j < k → (fr S j).length < m := by
  have h1 := fr_many (S := S) h
  obtain ⟨k, hk, hle, hmin⟩ := WD.least (P := fun k => m ≤ (fr S k).length) (n := S.length + m) (by omega)
  refine ⟨k, hle, ?_, fun j hj => Nat.lt_of_not_le fun hm => by have := hmin j hm; omega⟩
  cases k with
  | zero => have : (fr S 0).length = 0 := rfl; omega
  | succ k =>
    have h2 : (fr S k).length < m := Nat.lt_of_not_le fun hm => by have := hmin k hm; omega
    have h3 := fr_succ S k
    split at h3
    · rw [h3] at hk; omega
    · rw [h3] at hk ⊢; rw [List.length_append, List.length_singleton] at hk ⊢; omega
def due (S : List (List Nat)) (m : Nat) : List Nat := (fr S (S.length + m)).take m
def ds (T : List Nat) : List D := T.map fun k => D.str (nm k)
def ss (S : List (List Nat)) : List D := S.map D.str
theorem memF_ss (x : List Nat) (S : List (List Nat)) : memF (.str x) (ss S) = decide (x ∈ S) := by
  unfold memF ss
  rw [List.any_map]
  rw [Bool.eq_iff_iff, List.any_eq_true, decide_eq_true_eq]
  constructor
  · rintro ⟨y, hy, e⟩
    have : y = x := by simpa [feq] using e
    exact this ▸ hy
  · intro h
    exact ⟨x, h, by simp [feq]⟩
theorem flat_ss (S : List (List Nat)) : (ss S).all flatD = true := by
  unfold ss; rw [List.all_map]; exact List.all_eq_true.2 fun _ _ => rfl
theorem ni_lst (x : List Nat) (S : List (List Nat)) : niD (.str x) (.lst (ss S)) = .ok (.bl (!decide (x ∈ S))) := by
  have : inB (.str x) (.lst (ss S)) = .ok (decide (x ∈ S)) := by
    have e : inB (.str x) (.lst (ss S)) = if flatD (.str x) && (ss S).all flatD then .ok (memF (.str x) (ss S)) else .err := by
      match x with
      | [] => rfl
      | [_] => rfl
      | _ :: _ :: _ => rfl
    rw [e, flat_ss, memF_ss]; rfl
  show ((inB _ _).bind _) = _
  rw [this]; rfl
theorem ni_tup (x : List Nat) (S : List (List Nat)) : niD (.str x) (.tup (ss S)) = .ok (.bl (!decide (x ∈ S))) := by
  have : inB (.str x) (.tup (ss S)) = .ok (decide (x ∈ S)) := by
    have e : inB (.str x) (.tup (ss S)) = if flatD (.str x) && (ss S).all flatD then .ok (memF (.str x) (ss S)) else .err := by
      match x with
      | [] => rfl
      | [_] => rfl
      | _ :: _ :: _ => rfl
    rw [e, flat_ss, memF_ss]; rfl
  show ((inB _ _).bind _) = _
  rw [this]; rfl
theorem log_small {k : Nat} (h : k < 1000) : ((k : Int)).natAbs.log2 < 1920 := by
  have : ((k : Int)).natAbs = k := rfl
  rw [this]
  have := Nat.log2_lt (n := k) (k := 1920)
  by_cases h0 : k = 0
  · subst h0; decide
  · rw [this h0]
    exact Nat.lt_of_lt_of_le h (Nat.le_trans (by decide : 1000 ≤ 2 ^ 10) (Nat.pow_le_pow_right (by decide) (by decide)))
theorem strI_len : ∀ k, k < 200 → (strI ((k : Nat) : Int)).length ≤ 3 := by decide +kernel
theorem nm_ok {k : Nat} (h : k < 200) : strD [.int (k : Int)] = .ok (.str (strI (k : Int))) ∧ addD (.str [78]) (.str (strI (k : Int))) = .ok (.str (nm k)) := by
  refine ⟨str_int (log_small (by omega)), ?_⟩
  have := strI_len k h
  exact add_any (by simp) (by omega)
theorem fresh_names_ok {S : List (List Nat)} {m : Nat} (h : S.length + m ≤ 150) : F_fresh_names [.tup (ss S), .int (m : Int)] = .ok (.val (.tup (ds (due S m)))) := by
  refine run_rt (ds := [.tup (ss S), .int (m : Int)]) (?_ : M_fresh_names [.val (.tup (ss S)), .val (.int (m : Int)), .no, .no, .no] = _)
  unfold M_fresh_names
  refine seq_to [.val (.tup (ss S)), .val (.int (m : Int)), .lst [], .no, .no] (by simp) ?_
  refine seq_to [.val (.tup (ss S)), .val (.int (m : Int)), .lst [], .val (.int 0), .no] (by simp) ?_
  obtain ⟨k, hk, hk2, hk3⟩ := fr_at (S := S) (m := m) (by omega)
  have hdue : due S m = fr S k := by
    unfold due
    obtain ⟨Y, hY⟩ := fr_app S k (S.length + m - k)
    rw [show S.length + m = k + (S.length + m - k) by omega, hY, List.take_append_of_le_length (by omega), List.take_of_length_le (by omega)]
  have hlt (j : Nat) : (fr S j).length ≤ j := by
    have := List.length_filter_le (fun k => decide (nm k ∉ S)) (List.range j)
    rw [List.length_range] at this; exact this
  obtain ⟨ρ', e, x, rfl⟩ := whileL_run (t := (bOf (xOp ltD (xCa lenD (aCons (xVar 2) aNil)) (xVar 1)))) (B := (sSeq (sSet 4 (nOf (xOp addD (xC (.str [78])) (xCa strD (aCons (xVar 3) aNil)))))
      (sSeq (sIf (bOf (xOp niD (xVar 4) (xVar 0))) (sMut 2 appF (aCons (xVar 4) aNil)) sNil)
      (sAug 3 iaddD (xC (.int 1)))))) (I := fun j ρ => ∃ x : T, ρ = [.val (.tup (ss S)), .val (.int (m : Int)), .lst (ds (fr S j)), .val (.int (j : Int)), x]) (k := k) (n := 1000000) (ρ := [.val (.tup (ss S)), .val (.int (m : Int)), .lst [], .val (.int 0), .no]) 0 (by omega) (by omega) ⟨_, rfl⟩
      (by
        rintro j ρ hj ⟨x, rfl⟩
        have hl := hk3 j hj
        have hlj := hlt j
        have hld : (ds (fr S j)).length = (fr S j).length := by unfold ds; simp
        refine ⟨by simp [hld, hl], [.val (.tup (ss S)), .val (.int (m : Int)), .lst (ds (fr S (j + 1))), .val (.int ((j + 1 : Nat) : Int)), .val (.str (nm j))], ?_, _, rfl⟩
        obtain ⟨n1, n2⟩ := nm_ok (k := j) (by omega)
        refine seq_to [.val (.tup (ss S)), .val (.int (m : Int)), .lst (ds (fr S j)), .val (.int (j : Int)), .val (.str (nm j))] (by simp [n1, n2]) ?_
        refine seq_to [.val (.tup (ss S)), .val (.int (m : Int)), .lst (ds (fr S (j + 1))), .val (.int (j : Int)), .val (.str (nm j))] ?_ (by simp)
        rw [fr_succ]
        by_cases hm : nm j ∈ S
        · simp [ni_tup, hm]
        · have hcap : (fr S j).length < 16777216 := by omega
          simp [ni_tup, hm, hld, hcap]
          simp [ds])
      (by
        rintro ρ ⟨x, rfl⟩
        have hld : (ds (fr S k)).length = (fr S k).length := by unfold ds; simp
        simp [hld, hk2])
  refine seq_to _ (by rw [sWhile_ev]; exact e) ?_
  rw [hdue]
  simp
theorem l_fresh_ok {S : List (List Nat)} {m : Nat} (h : S.length + m ≤ 150) : F_l_fresh [.lst (ss S), .int (m : Int)] = .ok (.val (.tup (ds (due S m)))) := by
  refine run_rt (ds := [.lst (ss S), .int (m : Int)]) (?_ : M_l_fresh [.val (.lst (ss S)), .val (.int (m : Int)), .no, .no, .no] = _)
  unfold M_l_fresh
  refine seq_to [.val (.lst (ss S)), .val (.int (m : Int)), .lst [], .no, .no] (by simp) ?_
  obtain ⟨ρ', e, x, y, rfl⟩ := forL_run (g := gPut 3) (B := (sSeq (sSet 4 (nOf (xOp addD (xC (.str [78])) (xCa strD (aCons (xVar 3) aNil)))))
      (sIf (bAnd (bOf (xOp niD (xVar 4) (xVar 0))) (bOf (xOp ltD (xCa lenD (aCons (xVar 2) aNil)) (xVar 1)))) (sMut 2 appF (aCons (xVar 4) aNil)) sNil)))
      (I := fun j ρ => ∃ x y : T, ρ = [.val (.lst (ss S)), .val (.int (m : Int)), .lst (ds ((fr S j).take m)), x, y]) (ds := (List.range (S.length + m)).map fun (i : Nat) => D.int (i : Int)) (ρ := [.val (.lst (ss S)), .val (.int (m : Int)), .lst [], .no, .no]) ⟨.no, .no, by simp [fr, ds]⟩
      (by
        rintro j d ρ hj ⟨x, y, rfl⟩
        obtain ⟨hjn, rfl⟩ := rng_at (a := 0) (n := S.length + m) (j := j) (d := d) (by simpa using hj)
        rw [Nat.zero_add]
        obtain ⟨n1, n2⟩ := nm_ok (k := j) (by omega)
        refine ⟨_, [.val (.lst (ss S)), .val (.int (m : Int)), .lst (ds ((fr S (j + 1)).take m)), .val (.int (j : Int)), .val (.str (nm j))], rfl, ?_, _, _, rfl⟩
        refine seq_to [.val (.lst (ss S)), .val (.int (m : Int)), .lst (ds ((fr S j).take m)), .val (.int (j : Int)), .val (.str (nm j))] (by simp [n1, n2]) ?_
        have hld : (ds ((fr S j).take m)).length = min m (fr S j).length := by unfold ds; simp
        rw [fr_succ]
        by_cases hm : nm j ∈ S
        · simp [ni_lst, hm]
        · by_cases hl : (fr S j).length < m
          · have h1 : min m (fr S j).length = (fr S j).length := by omega
            have hcap : (fr S j).length < 16777216 := by omega
            have h2 : ((fr S j) ++ [j]).take m = (fr S j) ++ [j] := List.take_of_length_le (by simp; omega)
            have h3 : (fr S j).take m = fr S j := List.take_of_length_le (by omega)
            rw [h1, h3] at hld
            rw [if_neg hm, h2, h3]
            simp [ni_lst, hm, hld, hl, hcap]
            simp [ds]
          · have h1 : min m (fr S j).length = m := by omega
            have h2 : ((fr S j) ++ [j]).take m = (fr S j).take m := List.take_append_of_le_length (by omega)
            rw [h1] at hld
            rw [if_neg hm, h2]
            simp [ni_lst, hm, hld])
  have hls : (ss S).length = S.length := by unfold ss; simp
  refine seq_to [.val (.lst (ss S)), .val (.int (m : Int)), .lst (ds (due S m)), x, y] ?_ (by simp)
  rw [sFor_ev, iRng1_ev]
  have hr : rngD 0 (((S.length : Int)) + (m : Int)) = .ok ((List.range (S.length + m)).map fun (i : Nat) => D.int (i : Int)) := by
    have := rng_zero (S.length + m) (by omega)
    rwa [Int.natCast_add] at this
  simp only [xOp_ev, xCa_ev, aCons_ev, aNil_ev, xVar_ev, List.getElem?_cons_zero, List.getElem?_cons_succ, ok_bind, List.map_cons, List.map_nil, len_lst, hls, add_int, asInt_int, hr, ok_out, e]
  simp [due]
end K00

namespace K00
open L2 DV LW LS
theorem mem_cut {α : Type} {l : List α} {a b : Option Int} {x : α} (h : x ∈ cutL l a b) : x ∈ l := List.mem_of_mem_drop (List.mem_of_mem_take h)
theorem len_cut {α : Type} {l : List α} {a b : Option Int} : (cutL l a b).length ≤ l.length := by
  unfold cutL
  rw [List.length_take, List.length_drop]; omega
theorem join_tf (f : Int → Nat) (is : List Int) (h : is.length ≤ 1000) : joinD (.str []) (.lst ((is.map .int).map (tf f))) = .ok (.str (is.map f)) := by
  show ((strsOf _).bind fun ls => joinR [] ls) = _
  rw [List.map_map]
  have : strsOf (is.map fun a => .str ((fun a => [f a]) a)) = .ok (is.map fun a => [f a]) := strsOf_map
  have e2 : (tf f ∘ D.int) = fun a => .str ((fun a => [f a]) a) := rfl
  rw [e2, this, ok_bind]
  unfold joinR
  rw [sum_one, if_pos, joinL_one]
  simp; omega
theorem ints_of {Y : List D} (h : ∀ x ∈ Y, ∃ i, x = D.int i ∧ 0 ≤ i ∧ i < 1000) : ∃ is : List Int, Y = is.map D.int := by
  induction Y with
  | nil => exact ⟨[], rfl⟩
  | cons y Y ih =>
    obtain ⟨i, rfl, _⟩ := h y (.head _)
    obtain ⟨is, rfl⟩ := ih fun x hx => h x (.tail _ hx)
    exact ⟨i :: is, rfl⟩
/-- signs drawn from a text, joined -/
theorem join_lc {Y : List D} {W : List Nat} {mi : EI} {m : EX} {ρ ρ' : Env} (hY : ∀ x ∈ Y, ∃ i, x = D.int i ∧ 0 ≤ i ∧ i < 1000) (hl : Y.length ≤ 1000) (hi : mi ρ = .ok Y) (hw : wipeE ρ [8] = .ok ρ') (h1 : 1 ≤ W.length) (h2 : W.length ≤ 1000)
    (hm : ∀ i : Int, ∃ ρ1, gPut 8 (.int i) ρ' = some ρ1 ∧ xCl m ρ1 = xCl (xOp ixD (xC (.str W)) (xC (.int (i % (W.length : Int))))) ρ1) :
    ∃ t : List Nat, (xOp joinD (xC (.str [])) (xLc mi (gPut 8) (fun _ => .ok true) m [8])) ρ = .ok (.str t, none) ∧ t.length = Y.length := by
  obtain ⟨is, rfl⟩ := ints_of hY
  let f : Int → Nat := fun a => W.getD (a % (W.length : Int)).toNat 0
  have hlt (a : Int) : (a % (W.length : Int)).toNat < W.length := by
    have := emod_lt a (m := (W.length : Int)) (by omega)
    omega
  have hlc : lcD mi (gPut 8) (fun _ => .ok true) m [8] ρ = .ok ((is.map .int).map (tf f)) := by
    refine lcD_map (ρ' := ρ') (tf f) hi hw (by simp at hl ⊢; omega) ?_
    intro d hd
    obtain ⟨a, _, rfl⟩ := List.mem_map.1 hd
    obtain ⟨ρ1, g1, g2⟩ := hm a
    refine ⟨ρ1, g1, ?_⟩
    rw [g2]
    have hmm := emod_lt a (m := (W.length : Int)) (by omega)
    have : W[(a % (W.length : Int)).toNat]? = some (f a) := by
      simp only [f, List.getD_eq_getElem?_getD, List.getElem?_eq_getElem (hlt a), Option.getD_some]
    simp [ix_str' (l := W) (by simp; omega), atI_of hmm.1 this, tf]
  refine ⟨is.map f, ?_, by simp⟩
  rw [xOp_ev, xC_ev, ok_bind, xLc_ev, hlc, ok_bind, ok_bind, join_tf f is (by simpa using hl), ok_bind]
abbrev signs : List Nat := [32, 33, 34, 35, 36, 38, 39, 40, 41, 42, 43, 44, 45, 46, 47, 48, 49, 50, 51, 52, 53, 54, 55, 56, 57, 58, 59, 60, 61, 62, 63, 64, 65, 66, 67, 68, 69, 70, 71, 72, 73, 74, 75, 76, 77, 78, 79, 80, 81, 82, 83, 84, 85, 86, 87, 88, 89, 90, 91, 92, 93, 94, 95, 96, 97, 98, 99, 100, 101, 102, 103, 104, 105, 106, 107, 108, 109, 110, 111, 112, 113, 114, 115, 116, 117, 118, 119, 120, 121, 122, 123, 124, 125, 126, 10, 9]
def odd18 : List (List Nat) := [[], [126], [126, 126], [35, 126], [97, 126], [88, 126, 126], [126, 88], [88, 126, 97], [65, 98, 49, 99, 50], [65, 66], [65, 32, 66], [65, 32], [32, 65], [49, 97], [35, 35], [97, 97], [65, 10], [65, 126, 10]]
def odd2 : List (List Nat) := [[35], [90, 122, 122, 57, 126]]
def odd20 : List (List Nat) := odd18 ++ odd2
theorem ss_at {S : List (List Nat)} {n : Int} (h0 : 0 ≤ n) (h : n < (S.length : Int)) : ∃ t, t ∈ S ∧ ixD (.lst (ss S)) (.int n) = .ok (.str t) := by
  have hlt : n.toNat < S.length := by omega
  refine ⟨S[n.toNat], List.getElem_mem _, ?_⟩
  have : (ss S)[n.toNat]? = some (.str S[n.toNat]) := by
    unfold ss
    rw [List.getElem?_map, List.getElem?_eq_getElem hlt]; rfl
  rw [ix_lst, atI_of h0 this]; rfl
theorem odd_len : ∀ t ∈ odd20, t.length ≤ 5 := by decide
theorem ix_lit {l : List Nat} {n : Nat} {d : Int} (hn : l.length = n) (h1 : 1 ≤ n) (h2 : n ≤ 1000) : ∃ x, x ∈ l ∧ ixD (.str l) (.int (d % (n : Int))) = .ok (.str [x]) := by
  subst hn
  exact ix_any h1 h2
theorem string_ok {L : List D} {d : Nat → Int} (hL : L.length = 9) (hd : ∀ k, k < 9 → 0 ≤ d k ∧ d k < 1000) (hix : ∀ k : Nat, k < 9 → atI L (k : Int) = some (.int (d k))) (hx : ∀ x ∈ L, ∃ i, x = D.int i ∧ 0 ≤ i ∧ i < 1000) :
    ∃ t : List Nat, F_l_string [.lst L] = .ok (.val (.str t)) ∧ t.length ≤ 500 := by
  have i0 : atI L 0 = some (.int (d 0)) := hix 0 (by omega)
  have i1 : atI L 1 = some (.int (d 1)) := hix 1 (by omega)
  have i2 : atI L 2 = some (.int (d 2)) := hix 2 (by omega)
  have i7 : atI L 7 = some (.int (d 7)) := hix 7 (by omega)
  have i8 : atI L 8 = some (.int (d 8)) := hix 8 (by omega)
  let form : Int := d 0 % 9
  let size : Int := d 1 % 4
  let A : D := .lst L
  have hcutl {a b : Option Int} : (cutL L a b).length ≤ 9 := by rw [← hL]; exact len_cut
  obtain ⟨cc, _, hcc⟩ := ix_lit (l := caps) (n := 26) (d := d 2) rfl (by omega) (by omega)
  obtain ⟨tt, _, htt⟩ := ix_lit (l := tails) (n := 36) (d := d 2) rfl (by omega) (by omega)
  obtain ⟨sg, _, hsg⟩ := ix_lit (l := signs) (n := 96) (d := d 8) rfl (by omega) (by omega)
  obtain ⟨od, hod1, hod⟩ := ss_at (S := odd20) (n := d 2 % 20) (by omega) (by have : odd20.length = 20 := rfl; omega)
  have hodl := odd_len od hod1
  have hodd : ixD (.lst (ss odd20)) (.int (d 2 % 20)) = .ok (.str od) := hod
  -- the tail of the name
  obtain ⟨tl, htl, htl2⟩ := join_lc (Y := cutL L (some 3) (some (3 + size))) (W := tails) (mi := iSeq (xSl (xVar 0) (oSome (xC (.int 3))) (oSome (xOp addD (xC (.int 3)) (xVar 6))))) (m := xOp ixD (xVar 3) (xOp modD (xCa intD (aCons (xVar 8) aNil)) (xC (.int 36))))
    (ρ := [.val A, .val (.str signs), .val (.str caps), .val (.str tails), .val (.lst (ss odd20)), .val (.int form), .val (.int size), .no, .no, .no, .no])
    (ρ' := [.val A, .val (.str signs), .val (.str caps), .val (.str tails), .val (.lst (ss odd20)), .val (.int form), .val (.int size), .no, .no, .no, .no])
    (fun x h => hx x (mem_cut h)) (Nat.le_trans hcutl (by omega)) (by simp [A]) rfl (by decide) (by decide)
    (fun i => ⟨_, rfl, by simp [mod_pos]⟩)
  let name : List Nat := cc :: tl
  have hname : name.length ≤ 10 := by show tl.length + 1 ≤ 10; have := @hcutl (some 3) (some (3 + size)); omega
  have hadd : addD (.str [cc]) (.str tl) = .ok (.str name) := add_any (by simp) (by have : tl.length + 1 ≤ 10 := hname; omega)
  have hlen1 : lenD [.str name] = .ok (.int (name.length : Int)) := len_any (by omega)
  have hm7 := emod_lt (d 7) (m := (name.length : Int) + 1) (by omega)
  obtain ⟨a, ha⟩ := nat_of hm7.1
  have hm1 : (0 : Int) < (name.length : Int) + 1 := by omega
  have pre (N : SM) (o : Out) (h : N [.val A, .val (.str signs), .val (.str caps), .val (.str tails), .val (.lst (ss odd20)), .val (.int form), .val (.int size), .val (.str name), .no, .val (.int (a : Int)), .val (.str [sg])] = o) :
      (sSeq (sSet 1 (nOf (xOp addD (xC (.str [32, 33, 34, 35, 36, 38, 39, 40, 41, 42, 43, 44, 45, 46, 47, 48, 49, 50, 51, 52, 53, 54, 55, 56, 57, 58, 59, 60, 61, 62, 63, 64, 65, 66, 67, 68, 69, 70, 71, 72, 73, 74, 75, 76, 77, 78, 79, 80, 81, 82, 83, 84, 85, 86, 87, 88, 89, 90, 91, 92, 93, 94, 95, 96])) (xC (.str [97, 98, 99, 100, 101, 102, 103, 104, 105, 106, 107, 108, 109, 110, 111, 112, 113, 114, 115, 116, 117, 118, 119, 120, 121, 122, 123, 124, 125, 126, 10, 9])))))
  (sSeq (sSet 2 (nOf (xC (.str [65, 66, 67, 68, 69, 70, 71, 72, 73, 74, 75, 76, 77, 78, 79, 80, 81, 82, 83, 84, 85, 86, 87, 88, 89, 90]))))
  (sSeq (sSet 3 (nOf (xC (.str [97, 98, 99, 100, 101, 102, 103, 104, 105, 106, 107, 108, 109, 110, 111, 112, 113, 114, 115, 116, 117, 118, 119, 120, 121, 122, 48, 49, 50, 51, 52, 53, 54, 55, 56, 57]))))
  (sSeq (sSet 4 (nOf (xLst (aCons (xC (.str [])) (aCons (xC (.str [126])) (aCons (xC (.str [126, 126])) (aCons (xC (.str [35, 126])) (aCons (xC (.str [97, 126])) (aCons (xC (.str [88, 126, 126])) (aCons (xC (.str [126, 88])) (aCons (xC (.str [88, 126, 97])) (aCons (xC (.str [65, 98, 49, 99, 50])) (aCons (xC (.str [65, 66])) (aCons (xC (.str [65, 32, 66])) (aCons (xC (.str [65, 32])) (aCons (xC (.str [32, 65])) (aCons (xC (.str [49, 97])) (aCons (xC (.str [35, 35])) (aCons (xC (.str [97, 97])) (aCons (xC (.str [65, 10])) (aCons (xC (.str [65, 126, 10])) aNil)))))))))))))))))))))
  (sSeq (sSet 4 (nOf (xOp addD (xVar 4) (xLst (aCons (xC (.str [35])) (aCons (xC (.str [90, 122, 122, 57, 126])) aNil))))))
  (sSeq (sSet 5 (nOf (xOp modD (xCa intD (aCons (xOp ixD (xVar 0) (xC (.int 0))) aNil)) (xC (.int 9)))))
  (sSeq (sSet 6 (nOf (xOp modD (xCa intD (aCons (xOp ixD (xVar 0) (xC (.int 1))) aNil)) (xC (.int 4)))))
  (sSeq (sSet 7 (nOf (xOp addD (xOp ixD (xVar 2) (xOp modD (xCa intD (aCons (xOp ixD (xVar 0) (xC (.int 2))) aNil)) (xC (.int 26)))) (xOp joinD (xC (.str [])) (xLc (iSeq (xSl (xVar 0) (oSome (xC (.int 3))) (oSome (xOp addD (xC (.int 3)) (xVar 6))))) (gPut 8) (fun _ => .ok true) (xOp ixD (xVar 3) (xOp modD (xCa intD (aCons (xVar 8) aNil)) (xC (.int 36)))) [8])))))
  (sSeq (sSet 9 (nOf (xOp modD (xCa intD (aCons (xOp ixD (xVar 0) (xC (.int 7))) aNil)) (xOp addD (xCa lenD (aCons (xVar 7) aNil)) (xC (.int 1))))))
  (sSeq (sSet 10 (nOf (xOp ixD (xVar 1) (xOp modD (xCa intD (aCons (xOp ixD (xVar 0) (xC (.int 8))) aNil)) (xCa lenD (aCons (xVar 1) aNil))))))
  N)))))))))) [.val A, .no, .no, .no, .no, .no, .no, .no, .no, .no, .no] = o := by
    refine seq_to [.val A, .val (.str signs), .no, .no, .no, .no, .no, .no, .no, .no, .no] rfl ?_
    refine seq_to [.val A, .val (.str signs), .val (.str caps), .no, .no, .no, .no, .no, .no, .no, .no] rfl ?_
    refine seq_to [.val A, .val (.str signs), .val (.str caps), .val (.str tails), .no, .no, .no, .no, .no, .no, .no] rfl ?_
    refine seq_to [.val A, .val (.str signs), .val (.str caps), .val (.str tails), .val (.lst (ss odd18)), .no, .no, .no, .no, .no, .no] rfl ?_
    refine seq_to [.val A, .val (.str signs), .val (.str caps), .val (.str tails), .val (.lst (ss odd20)), .no, .no, .no, .no, .no, .no] rfl ?_
    refine seq_to [.val A, .val (.str signs), .val (.str caps), .val (.str tails), .val (.lst (ss odd20)), .val (.int form), .no, .no, .no, .no, .no] (by simp [A, i0, mod_pos, form]) ?_
    refine seq_to [.val A, .val (.str signs), .val (.str caps), .val (.str tails), .val (.lst (ss odd20)), .val (.int form), .val (.int size), .no, .no, .no, .no] (by simp [A, i1, mod_pos, size]) ?_
    refine seq_to [.val A, .val (.str signs), .val (.str caps), .val (.str tails), .val (.lst (ss odd20)), .val (.int form), .val (.int size), .val (.str name), .no, .no, .no] ?_ ?_
    · rw [sSet_ev, nOf_ev, xOp_ev, htl]
      have hcc : ixD (.str caps) (.int (d 2 % 26)) = .ok (.str [cc]) := hcc
      simp [A, i2, mod_pos, hcc, hadd]
    refine seq_to [.val A, .val (.str signs), .val (.str caps), .val (.str tails), .val (.lst (ss odd20)), .val (.int form), .val (.int size), .val (.str name), .no, .val (.int (a : Int)), .no] ?_ ?_
    · simp [A, i7, mod_pos hm1, hlen1, ha]
    refine seq_to [.val A, .val (.str signs), .val (.str caps), .val (.str tails), .val (.lst (ss odd20)), .val (.int form), .val (.int size), .val (.str name), .no, .val (.int (a : Int)), .val (.str [sg])] ?_ h
    have hsl : lenD [.str signs] = .ok (.int 96) := rfl
    have hsg : ixD (.str signs) (.int (d 8 % 96)) = .ok (.str [sg]) := hsg
    simp only [sSet_ev, nOf_ev, xOp_ev, xVar_ev, xCa_ev, aCons_ev, aNil_ev, xC_ev, List.getElem?_cons_zero, List.getElem?_cons_succ, ok_bind, List.map_cons, List.map_nil, A, ix_lst, i8, optR_some, int_int, hsl, mod_pos (show (0 : Int) < 96 by decide), hsg, ok_out, List.set_cons_succ, List.set_cons_zero]
  have s1 : slD (.str name) none (some (a : Int)) = .ok (.str (name.take a)) := sl_take (by omega)
  have s2 : slD (.str name) (some (a : Int)) none = .ok (.str (name.drop a)) := sl_drop (by omega)
  have s3 : slD (.str name) (some ((a : Int) + 1)) none = .ok (.str (name.drop (a + 1))) := sl_drop (p := a + 1) (by omega)
  have a1 : addD (.str (name.take a)) (.str [sg]) = .ok (.str (name.take a ++ [sg])) := add_any (by simp; omega) (by simp)
  have a2 : addD (.str (name.take a ++ [sg])) (.str (name.drop (a + 1))) = .ok (.str (name.take a ++ [sg] ++ name.drop (a + 1))) := add_any (by simp; omega) (by simp; omega)
  have a3 : addD (.str (name.take a ++ [sg])) (.str (name.drop a)) = .ok (.str (name.take a ++ [sg] ++ name.drop a)) := add_any (by simp; omega) (by simp; omega)
  have a4 : addD (.str (name.take a ++ [sg] ++ name.drop a)) (.str [126]) = .ok (.str (name.take a ++ [sg] ++ name.drop a ++ [126])) := add_any (by simp; omega) (by simp)
  have a5 : addD (.str name) (.str [126]) = .ok (.str (name ++ [126])) := add_any (by omega) (by simp)
  have out (N : List Nat) (h : N.length ≤ 500) (hr : M_l_string [.val A, .no, .no, .no, .no, .no, .no, .no, .no, .no, .no] = .rt (.val (.str N))) : ∃ t : List Nat, F_l_string [.lst L] = .ok (.val (.str t)) ∧ t.length ≤ 500 :=
    ⟨N, run_rt (ds := [.lst L]) hr, h⟩
  obtain ⟨jn, hj1, hj2⟩ := join_lc (Y := cutL L (some 2) (some (2 + d 1 % 7))) (W := signs) (mi := iSeq (xSl (xVar 0) (oSome (xC (.int 2))) (oSome (xOp addD (xC (.int 2)) (xOp modD (xCa intD (aCons (xOp ixD (xVar 0) (xC (.int 1))) aNil)) (xC (.int 7))))))) (m := xOp ixD (xVar 1) (xOp modD (xCa intD (aCons (xVar 8) aNil)) (xCa lenD (aCons (xVar 1) aNil))))
    (ρ := [.val A, .val (.str signs), .val (.str caps), .val (.str tails), .val (.lst (ss odd20)), .val (.int form), .val (.int size), .val (.str name), .no, .val (.int (a : Int)), .val (.str [sg])])
    (ρ' := [.val A, .val (.str signs), .val (.str caps), .val (.str tails), .val (.lst (ss odd20)), .val (.int form), .val (.int size), .val (.str name), .no, .val (.int (a : Int)), .val (.str [sg])])
    (fun x h => hx x (mem_cut h)) (Nat.le_trans hcutl (by omega)) (by simp [A, i1, mod_pos]) rfl (by decide) (by decide)
    (fun i => ⟨_, rfl, by simp [len_any (l := signs) (by decide), mod_pos]⟩)
  have hjl := @hcutl (some 2) (some (2 + d 1 % 7))
  have go0 {N : SM} {M : SM} {o : Out} {k : Int} {ρ : Env} (hk : form ≠ k) (hρ : ρ[5]? = some (.val (.int form))) (h : N ρ = o) : sSeq (sIf (bOf (xOp eqD (xVar 5) (xC (.int k)))) M sNil) N ρ = o :=
    seq_go (by simp [hρ, hk]) h
  have at0 {N : SM} {M : SM} {t : T} {k : Int} {ρ : Env} (hk : form = k) (hρ : ρ[5]? = some (.val (.int form))) (h : M ρ = .rt t) : sSeq (sIf (bOf (xOp eqD (xVar 5) (xC (.int k)))) M sNil) N ρ = .rt t :=
    seq_rt (by simp [hρ, hk, h])
  have hf : 0 ≤ form ∧ form < 9 := emod_lt (d 0) (by decide)
  rcases (by omega : form = 0 ∨ form = 1 ∨ form = 2 ∨ form = 3 ∨ form = 4 ∨ form = 5 ∨ form = 6 ∨ form = 7 ∨ form = 8) with h | h | h | h | h | h | h | h | h
  · refine out jn (by omega) (pre _ _ (at0 h rfl ?_))
    rw [sRet_ev, nOf_ev, hj1]; rfl
  · refine out name (by omega) (pre _ _ (go0 (by omega) rfl (at0 h rfl ?_)))
    rfl
  · refine out (name ++ [126]) (by simp; omega) (pre _ _ (go0 (by omega) rfl (go0 (by omega) rfl (at0 h rfl ?_))))
    simp [a5]
  · refine out [tt] (by simp) (pre _ _ (go0 (by omega) rfl (go0 (by omega) rfl (go0 (by omega) rfl (at0 h rfl ?_)))))
    have htt : ixD (.str tails) (.int (d 2 % 36)) = .ok (.str [tt]) := htt
    simp [A, i2, mod_pos, htt]
  · refine out (name.take a ++ [sg] ++ name.drop a) (by simp; omega) (pre _ _ (go0 (by omega) rfl (go0 (by omega) rfl (go0 (by omega) rfl (go0 (by omega) rfl (at0 h rfl ?_))))))
    simp [s1, s2, a1, a3, -List.append_assoc]
  · refine out (name.take a ++ [sg] ++ name.drop (a + 1)) (by simp; omega) (pre _ _ (go0 (by omega) rfl (go0 (by omega) rfl (go0 (by omega) rfl (go0 (by omega) rfl (go0 (by omega) rfl (at0 h rfl ?_)))))))
    simp [s1, s3, a1, a2, -List.append_assoc]
  · refine out (name.take a ++ [sg] ++ name.drop a ++ [126]) (by simp; omega) (pre _ _ (go0 (by omega) rfl (go0 (by omega) rfl (go0 (by omega) rfl (go0 (by omega) rfl (go0 (by omega) rfl (go0 (by omega) rfl (at0 h rfl ?_))))))))
    simp [s1, s2, a1, a3, a4, -List.append_assoc]
  · refine out od (by omega) (pre _ _ (go0 (by omega) rfl (go0 (by omega) rfl (go0 (by omega) rfl (go0 (by omega) rfl (go0 (by omega) rfl (go0 (by omega) rfl (go0 (by omega) rfl (at0 h rfl ?_)))))))))
    have hq : (xOp ixD (xVar 4) (xOp modD (xCa intD (aCons (xOp ixD (xVar 0) (xC (.int 2))) aNil)) (xC (.int 20)))) [.val A, .val (.str signs), .val (.str caps), .val (.str tails), .val (.lst (ss odd20)), .val (.int form), .val (.int size), .val (.str name), .no, .val (.int (a : Int)), .val (.str [sg])] = .ok (.str od, none) := by
      simp only [xOp_ev, xVar_ev, xCa_ev, aCons_ev, aNil_ev, xC_ev, List.getElem?_cons_zero, List.getElem?_cons_succ, ok_bind, List.map_cons, List.map_nil, A, ix_lst, i2, optR_some, int_int, mod_pos (show (0 : Int) < 20 by decide)]
      rw [ix_lst] at hodd
      rw [hodd]; rfl
    rw [sRet_ev, nOf_ev, hq]; rfl
  · refine out [sg] (by simp) (pre _ _ (go0 (by omega) rfl (go0 (by omega) rfl (go0 (by omega) rfl (go0 (by omega) rfl (go0 (by omega) rfl (go0 (by omega) rfl (go0 (by omega) rfl (go0 (by omega) rfl rfl)))))))))
end K00

namespace K00
open L2 DV LW LS
def oth : List (List Nat) := [[78, 48, 48], [78, 48, 97], [78, 48, 49], [78], [78, 97], [77, 48], [78, 57, 122], [88], [79, 49], [78, 49, 97, 48], [78, 48, 48, 50], [78, 110, 49]]
theorem ss_len (S : List (List Nat)) : (ss S).length = S.length := by unfold ss; simp
theorem given_ok {L : List D} {d : Nat → Int} (hL : L.length = 11) (hd : ∀ k, k < 11 → 0 ≤ d k ∧ d k < 1000) (hix : ∀ k : Nat, k < 11 → atI L (k : Int) = some (.int (d k))) (hx : ∀ x ∈ L, ∃ i, x = D.int i ∧ 0 ≤ i ∧ i < 1000) :
    ∃ (S : List (List Nat)) (t : T), F_l_given [.lst L] = .ok t ∧ frzR t = .ok (.lst (ss S)) ∧ S.length ≤ 120 := by
  have i0 : atI L 0 = some (.int (d 0)) := hix 0 (by omega)
  have i1 : atI L 1 = some (.int (d 1)) := hix 1 (by omega)
  have i2 : atI L 2 = some (.int (d 2)) := hix 2 (by omega)
  have i3 : atI L 3 = some (.int (d 3)) := hix 3 (by omega)
  have i8 : atI L 8 = some (.int (d 8)) := hix 8 (by omega)
  have i9 : atI L 9 = some (.int (d 9)) := hix 9 (by omega)
  have b0 := hd 0 (by omega)
  have b3 := hd 3 (by omega)
  have b8 := hd 8 (by omega)
  let A : D := .lst L
  have main : ∃ (S : List (List Nat)) (t : T), M_l_given [.val A, .no, .no, .no, .no, .no, .no] = .rt t ∧ frzR t = .ok (.lst (ss S)) ∧ S.length ≤ 120 := by
    obtain ⟨m, hm, hm2⟩ : ∃ m : Nat, (if d 1 % 8 = 3 then 95 + d 0 % 20 else d 0 % 13) = (m : Int) ∧ m ≤ 114 := by
      split
      · exact ⟨(95 + d 0 % 20).toNat, by omega, by omega⟩
      · exact ⟨(d 0 % 13).toNat, by omega, by omega⟩
    have hlc : lcD (iRng1 (xVar 2)) (gPut 4) (fun _ => .ok true) (xOp addD (xC (.str [78])) (xCa strD (aCons (xVar 4) aNil))) [4] [.val A, .val (.lst (ss oth)), .val (.int (m : Int)), .no, .no, .no, .no] = .ok (((List.range m).map fun (i : Nat) => D.int (i : Int)).map fun e => match e with | .int i => .str (nm i.toNat) | _ => .non) := by
      refine lcD_map (ρ' := [.val A, .val (.lst (ss oth)), .val (.int (m : Int)), .no, .no, .no, .no]) _ ?_ rfl (by simp; omega) ?_
      · rw [iRng1_ev]
        simp [rng_zero m (by omega)]
      · intro e he
        obtain ⟨k, hk, rfl⟩ := List.mem_map.1 he
        have hk := List.mem_range.1 hk
        obtain ⟨n1, n2⟩ := nm_ok (k := k) (by omega)
        exact ⟨_, rfl, by simp [n1, n2]⟩
    let S0 : List (List Nat) := (List.range m).map nm
    have hS0 : (((List.range m).map fun (i : Nat) => D.int (i : Int)).map fun e => match e with | .int i => D.str (nm i.toNat) | _ => .non) = ss S0 := by
      unfold ss
      rw [List.map_map, List.map_map]; rfl
    rw [hS0] at hlc
    have hS0l : S0.length = m := by simp [S0]
    -- one left out
    obtain ⟨S1, e1, hl1⟩ : ∃ S1 : List (List Nat), (sIf (bAnd (bOf (xOp gtD (xOp modD (xCa intD (aCons (xOp ixD (xVar 0) (xC (.int 2))) aNil)) (xC (.int 3))) (xC (.int 0)))) (bOf (xOp gtD (xVar 2) (xC (.int 0))))) (sMut 3 popIF (aCons (xOp modD (xCa intD (aCons (xOp ixD (xVar 0) (xC (.int 3))) aNil)) (xVar 2)) aNil)) sNil) [.val A, .val (.lst (ss oth)), .val (.int (m : Int)), .lst (ss S0), .no, .no, .no] = .nx [.val A, .val (.lst (ss oth)), .val (.int (m : Int)), .lst (ss S1), .no, .no, .no] ∧ S1.length ≤ 114 := by
      by_cases h1 : 0 < d 2 % 3 ∧ 0 < m
      · have h2 : (0 : Int) < (m : Int) := by omega
        have hmm := emod_lt (d 3) h2
        obtain ⟨a, ha⟩ := nat_of hmm.1
        have hpop : popIF (ss S0) [.int (a : Int)] = .ok (ss (S0.eraseIdx a), .str (S0[a]'(by omega))) := by
          have hlt : a < S0.length := by omega
          unfold popIF
          simp only []
          rw [if_pos ⟨by omega, by omega⟩, Int.toNat_natCast]
          have : (ss S0)[a]? = some (.str S0[a]) := by
            unfold ss; rw [List.getElem?_map, List.getElem?_eq_getElem hlt]; rfl
          rw [this, optR_some, ok_bind]
          unfold ss
          simp [List.eraseIdx_eq_take_drop_succ]
        refine ⟨S0.eraseIdx a, ?_, by have := List.length_eraseIdx_le S0 a; omega⟩
        simp [A, i2, i3, mod_pos, mod_pos h2, h1.1, h1.2, ha, hpop]
      · refine ⟨S0, ?_, by omega⟩
        by_cases h2 : 0 < d 2 % 3
        · have h3 : ¬ (0 < m) := fun h => h1 ⟨h2, h⟩
          simp [A, i2, mod_pos, h2, h3]
        · simp [A, i2, mod_pos, h2]
    -- others put in
    obtain ⟨c, hc⟩ := nat_of (show 0 ≤ 4 + d 8 % 4 by omega)
    let Y : List D := (L.take c).drop 4
    have hYl : Y.length ≤ 3 := by simp only [Y]; rw [List.length_drop, List.length_take]; omega
    have hYx : ∀ x ∈ Y, ∃ i, x = D.int i ∧ 0 ≤ i ∧ i < 1000 := fun x h => hx x (List.mem_of_mem_take (List.mem_of_mem_drop h))
    have hsl : slD A (some 4) (some (c : Int)) = .ok (.lst Y) := by
      show Res.ok _ = _
      rw [show (some (4 : Int)) = some ((4 : Nat) : Int) from rfl, cut_mid]
    obtain ⟨ρ', e2, S2, t5, t6, rfl, hl2⟩ := forL_run (g := gPut 5) (B := (sSeq (sSet 6 (nOf (xOp ixD (xVar 1) (xOp modD (xCa intD (aCons (xOp divD (xVar 5) (xC (.int 13))) aNil)) (xC (.int 12))))))
        (sIf (bOf (xOp niD (xVar 6) (xVar 3))) (sMut 3 insF (aCons (xOp modD (xCa intD (aCons (xVar 5) aNil)) (xOp addD (xCa lenD (aCons (xVar 3) aNil)) (xC (.int 1)))) (aCons (xVar 6) aNil))) sNil)))
      (I := fun j ρ => ∃ (S : List (List Nat)) (t5 t6 : T), ρ = [.val A, .val (.lst (ss oth)), .val (.int (m : Int)), .lst (ss S), .no, t5, t6] ∧ S.length ≤ 114 + j) (ds := Y) (ρ := [.val A, .val (.lst (ss oth)), .val (.int (m : Int)), .lst (ss S1), .no, .no, .no]) ⟨S1, _, _, rfl, by omega⟩
      (by
        rintro j e ρ hj ⟨S, t5, t6, rfl, hS⟩
        have hjY := (List.getElem?_eq_some_iff.1 hj).1
        obtain ⟨i, rfl, hi⟩ := hYx e (List.mem_of_getElem? hj)
        obtain ⟨x, _, hox⟩ := ss_at (S := oth) (n := i / 13 % 12) (by omega) (by have : oth.length = 12 := rfl; omega)
        have hlS := ss_len S
        have hmS := emod_lt i (m := (S.length : Int) + 1) (by omega)
        obtain ⟨a, ha⟩ := nat_of hmS.1
        refine ⟨[.val A, .val (.lst (ss oth)), .val (.int (m : Int)), .lst (ss S), .no, .val (.int i), t6], ?_⟩
        have f1 : (sSet 6 (nOf (xOp ixD (xVar 1) (xOp modD (xCa intD (aCons (xOp divD (xVar 5) (xC (.int 13))) aNil)) (xC (.int 12)))))) [.val A, .val (.lst (ss oth)), .val (.int (m : Int)), .lst (ss S), .no, .val (.int i), t6] = .nx [.val A, .val (.lst (ss oth)), .val (.int (m : Int)), .lst (ss S), .no, .val (.int i), .val (.str x)] := by
          simp only [sSet_ev, nOf_ev, xOp_ev, xVar_ev, xCa_ev, aCons_ev, aNil_ev, xC_ev, List.getElem?_cons_zero, List.getElem?_cons_succ, ok_bind, List.map_cons, List.map_nil, div_pos (show (0 : Int) < 13 by decide) (by decide), int_int, mod_pos (show (0 : Int) < 12 by decide), hox, ok_out, List.set_cons_succ, List.set_cons_zero]
        by_cases hmem : x ∈ S
        · exact ⟨[.val A, .val (.lst (ss oth)), .val (.int (m : Int)), .lst (ss S), .no, .val (.int i), .val (.str x)], rfl, seq_to _ f1 (by simp [ni_lst, hmem]), S, _, _, rfl, by omega⟩
        · refine ⟨[.val A, .val (.lst (ss oth)), .val (.int (m : Int)), .lst (ss (S.take a ++ [x] ++ S.drop a)), .no, .val (.int i), .val (.str x)], rfl, seq_to _ f1 ?_, S.take a ++ [x] ++ S.drop a, _, _, rfl, by simp; omega⟩
          have hins : insF (ss S) [.int (a : Int), .str x] = .ok (ss (S.take a ++ [x] ++ S.drop a), .non) := by
            unfold insF
            simp only []
            rw [if_pos ⟨by omega, by omega, by rw [hlS]; simp; omega⟩, Int.toNat_natCast]
            unfold ss
            simp
          have hm1 : (0 : Int) < (S.length : Int) + 1 := by omega
          simp [ni_lst, hmem, hlS, mod_pos hm1, ha, hins, -List.append_assoc])
    have hl2 : S2.length ≤ 117 := by omega
    have pre (N : SM) (o : Out) (h : N [.val A, .val (.lst (ss oth)), .val (.int (m : Int)), .lst (ss S2), .no, t5, t6] = o) : (sSeq (sSet 1 (nOf (xLst (aCons (xC (.str [78, 48, 48])) (aCons (xC (.str [78, 48, 97])) (aCons (xC (.str [78, 48, 49])) (aCons (xC (.str [78])) (aCons (xC (.str [78, 97])) (aCons (xC (.str [77, 48])) (aCons (xC (.str [78, 57, 122])) (aCons (xC (.str [88])) (aCons (xC (.str [79, 49])) (aCons (xC (.str [78, 49, 97, 48])) (aCons (xC (.str [78, 48, 48, 50])) (aCons (xC (.str [78, 110, 49])) aNil)))))))))))))))
  (sSeq (sSet 2 (nOf (xOp modD (xCa intD (aCons (xOp ixD (xVar 0) (xC (.int 0))) aNil)) (xC (.int 13)))))
  (sSeq (sIf (bOf (xOp eqD (xOp modD (xCa intD (aCons (xOp ixD (xVar 0) (xC (.int 1))) aNil)) (xC (.int 8))) (xC (.int 3)))) (sSet 2 (nOf (xOp addD (xC (.int 95)) (xOp modD (xCa intD (aCons (xOp ixD (xVar 0) (xC (.int 0))) aNil)) (xC (.int 20)))))) sNil)
  (sSeq (sSet 3 (nLc (iRng1 (xVar 2)) (gPut 4) (fun _ => .ok true) (xOp addD (xC (.str [78])) (xCa strD (aCons (xVar 4) aNil))) [4]))
  (sSeq (sIf (bAnd (bOf (xOp gtD (xOp modD (xCa intD (aCons (xOp ixD (xVar 0) (xC (.int 2))) aNil)) (xC (.int 3))) (xC (.int 0)))) (bOf (xOp gtD (xVar 2) (xC (.int 0))))) (sMut 3 popIF (aCons (xOp modD (xCa intD (aCons (xOp ixD (xVar 0) (xC (.int 3))) aNil)) (xVar 2)) aNil)) sNil)
  (sSeq (sFor (iSeq (xSl (xVar 0) (oSome (xC (.int 4))) (oSome (xOp addD (xC (.int 4)) (xOp modD (xCa intD (aCons (xOp ixD (xVar 0) (xC (.int 8))) aNil)) (xC (.int 4))))))) (gPut 5) (sSeq (sSet 6 (nOf (xOp ixD (xVar 1) (xOp modD (xCa intD (aCons (xOp divD (xVar 5) (xC (.int 13))) aNil)) (xC (.int 12))))))
        (sIf (bOf (xOp niD (xVar 6) (xVar 3))) (sMut 3 insF (aCons (xOp modD (xCa intD (aCons (xVar 5) aNil)) (xOp addD (xCa lenD (aCons (xVar 3) aNil)) (xC (.int 1)))) (aCons (xVar 6) aNil))) sNil)))
  N)))))) [.val A, .no, .no, .no, .no, .no, .no] = o := by
      refine seq_to [.val A, .val (.lst (ss oth)), .no, .no, .no, .no, .no] rfl ?_
      refine seq_to [.val A, .val (.lst (ss oth)), .val (.int (d 0 % 13)), .no, .no, .no, .no] (by simp [A, i0, mod_pos]) ?_
      refine seq_to [.val A, .val (.lst (ss oth)), .val (.int (m : Int)), .no, .no, .no, .no] ?_ ?_
      · by_cases h3 : d 1 % 8 = 3
        · rw [if_pos h3] at hm; simp [A, i0, i1, mod_pos, h3, hm]
        · rw [if_neg h3] at hm; simp [A, i1, mod_pos, h3, hm]
      refine seq_to [.val A, .val (.lst (ss oth)), .val (.int (m : Int)), .lst (ss S0), .no, .no, .no] (by rw [sSet_ev, nLc_ev, hlc]; rfl) ?_
      refine seq_to _ e1 ?_
      refine seq_to _ ?_ h
      have hsl : slD (.lst L) (some 4) (some (c : Int)) = .ok (.lst Y) := hsl
      rw [sFor_ev, iSeq_ev, xSl_ev]
      simp only [oSome_ev, xOp_ev, xVar_ev, xCa_ev, aCons_ev, aNil_ev, xC_ev, List.getElem?_cons_zero, List.getElem?_cons_succ, ok_bind, List.map_cons, List.map_nil, A, ix_lst, i8, optR_some, int_int, asInt_int, mod_pos (show (0 : Int) < 4 by decide), add_int, hc, hsl, seq_lst, ok_out]
      exact e2
    by_cases h9 : d 9 % 2 = 1
    · refine ⟨S2.reverse, .val (.lst (ss S2.reverse)), pre _ _ (seq_rt ?_), rfl, by simp; omega⟩
      have hr : (ss S2).reverse = ss S2.reverse := by unfold ss; rw [List.map_reverse]
      simp [A, i9, mod_pos, h9, hr]
    · refine ⟨S2, .lst (ss S2), pre _ _ (seq_go ?_ rfl), rfl, by omega⟩
      simp [A, i9, mod_pos, h9]
  obtain ⟨S, t, h1, h2, h3⟩ := main
  exact ⟨S, t, run_rt (ds := [.lst L]) h1, h2, h3⟩
theorem pl_ds (T : List Nat) (h : T.length ≤ 1000) : Pl 7 (.tup (ds T)) := by
  refine .tup (by unfold ds; simp; omega) fun d hd => ?_
  obtain ⟨k, _, rfl⟩ := List.mem_map.1 hd
  exact .str _
theorem same_ds (T : List Nat) (h : T.length ≤ 1000) : F_l_same [.tup (ds T), .tup (ds T)] = .ok (.val (.bl true)) := same7 (pl_ds T h)
theorem due_len (S : List (List Nat)) (m : Nat) : (due S m).length ≤ m := by unfold due; rw [List.length_take]; omega
theorem due_rev (S : List (List Nat)) (m : Nat) : due S.reverse m = due S m := by
  unfold due fr
  rw [List.length_reverse]
  congr 1
  apply List.filter_congr
  intro x _
  simp
theorem cell_ok (ns : List Int) (k : Nat) : F_l_cell [.rdl (ns.map .int), .int k] = .ok (.val (.int (ns.getD k 0))) := by
  by_cases h : k < ns.length
  · simp [F_l_cell, M_l_cell, runD, sSeq, h, atI, ixN]
  · simp [F_l_cell, M_l_cell, runD, sSeq, h]
def eighteen : List (List Nat) := [[], [126], [35], [88, 126, 126], [126, 126], [65, 66], [65, 98, 99, 100], [65, 98, 99, 100, 101], [97, 126], [97], [97, 98], [65], [65, 126], [65, 32, 98], [90, 48, 57, 122, 126], [90, 48, 57, 122, 126, 126], [55], [35, 126]]
theorem eighteen_len : ∀ t ∈ eighteen, t.length ≤ 900 := by decide
theorem law_true (ns : List Int) (_ : ns.length ≤ 63) : F_law [.rdl (ns.map .int)] = .ok (.val (.bl true)) := by
  obtain ⟨A, hA⟩ : ∃ A : D, A = .rdl (ns.map .int) := ⟨_, rfl⟩
  have cell (k : Nat) : ∃ q, F_l_cell [A, .int (k : Int)] = .ok (.val (.int q)) := ⟨_, by rw [hA]; exact cell_ok ns k⟩
  obtain ⟨q0, c0⟩ : ∃ q, F_l_cell [A, .int 0] = .ok (.val (.int q)) := cell 0
  rw [← hA]
  refine run_rt (ds := [A]) (?_ : M_law [.val A, .no, .no, .no, .no, .no, .no, .no] = _)
  unfold M_law
  obtain ⟨ρ1, e1, t1, rfl⟩ := forL_keep (g := gPut 1) (B := sIf (bNot (bTru (xCall F_l_good_string (aCons (xVar 1) aNil)))) (sRet (nOf (xC (.bl false)))) sNil) (I := fun ρ => ∃ t : T, ρ = [.val A, t, .no, .no, .no, .no, .no, .no]) (ds := ss eighteen) (ρ := [.val A, .no, .no, .no, .no, .no, .no, .no]) ⟨_, rfl⟩ (by
    rintro d hd ρ ⟨t, rfl⟩
    obtain ⟨l, hl, rfl⟩ := List.mem_map.1 hd
    exact ⟨_, _, rfl, by simp [good_ok (l := l) (eighteen_len l hl)]; rfl, _, rfl⟩)
  refine seq_to _ (?_ : _ = Out.nx [.val A, t1, .no, .no, .no, .no, .no, .no]) ?_
  · rw [sFor_ev]
    exact e1
  obtain ⟨ρ2, e2, t2, rfl⟩ := forL_run (g := gPut 2) (B := (sIf (bNot (bTru (xCall F_l_good_string (aCons (xCall F_l_string (aCons (xCall F_l_draws (aCons (xOp addD (xCall F_l_cell (aCons (xVar 0) (aCons (xOp addD (xC (.int 1)) (xVar 2)) aNil))) (xVar 2)) (aCons (xC (.int 9)) aNil))) aNil)) aNil)))) (sRet (nOf (xC (.bl false)))) sNil)) (I := fun _ ρ => ∃ t : T, ρ = [.val A, t1, t, .no, .no, .no, .no, .no]) (ds := (List.range 20).map fun (i : Nat) => D.int (i : Int)) (ρ := [.val A, t1, .no, .no, .no, .no, .no, .no]) ⟨_, rfl⟩ (by
    rintro j d ρ hj ⟨t, rfl⟩
    obtain ⟨hjn, rfl⟩ := rng_at (a := 0) (n := 20) (j := j) (d := d) (by simpa using hj)
    rw [Nat.zero_add]
    obtain ⟨q, hq⟩ := cell (1 + j)
    have hq : F_l_cell [A, .int (1 + (j : Int))] = .ok (.val (.int q)) := by rw [← hq, Int.natCast_add]; rfl
    obtain ⟨L, dd, g1, g2, g3, g4, g5⟩ := draws_at (q + j) 9 (by omega)
    have g4 : F_l_draws [.int (q + (j : Int)), .int 9] = .ok (.lst L) := g4
    obtain ⟨s, hs, hsl⟩ := string_ok g1 g2 g3 g5
    exact ⟨_, _, rfl, by simp [hq, g4, hs, good_ok (l := s) (by omega)]; rfl, _, rfl⟩)
  refine seq_to _ (?_ : _ = Out.nx [.val A, t1, t2, .no, .no, .no, .no, .no]) ?_
  · rw [sFor_ev, iRng1_ev]
    have : rngD 0 20 = .ok ((List.range 20).map fun (i : Nat) => D.int (i : Int)) := rng_zero 20 (by omega)
    simp only [xC_ev, ok_bind, asInt_int, this, ok_out, e2]
  obtain ⟨L, d, hL, hd, hix, e, hx⟩ := draws_at q0 11 (by omega)
  have e : F_l_draws [.int q0, .int 11] = .ok (.lst L) := e
  have i10 : atI L 10 = some (.int (d 10)) := hix 10 (by omega)
  have b10 := hd 10 (by omega)
  obtain ⟨S, t, hg, hf, hS⟩ := given_ok hL hd hix hx
  obtain ⟨m, hm⟩ := nat_of (show 0 ≤ d 10 % 6 by omega)
  refine seq_to [.val A, t1, t2, .val (.lst L), .no, .no, .no, .no] (by simp [c0, e]) ?_
  refine seq_to [.val A, t1, t2, .val (.lst L), .val (.lst (ss S)), .no, .no, .no] (by simp [hg, hf]) ?_
  refine seq_to [.val A, t1, t2, .val (.lst L), .val (.lst (ss S)), .val (.int (m : Int)), .no, .no] (by simp [i10, mod_pos, hm]) ?_
  have f1 := l_fresh_ok (S := S) (m := m) (by omega)
  have f2 := fresh_names_ok (S := S) (m := m) (by omega)
  have f3 := fresh_names_ok (S := S.reverse) (m := m) (by simp; omega)
  rw [due_rev] at f3
  have hr : (ss S).reverse = ss S.reverse := by unfold ss; rw [List.map_reverse]
  have f4 : F_fresh_names [.tup [], .int (m : Int)] = .ok (.val (.tup (ds (due [] m)))) := fresh_names_ok (S := []) (m := m) (by simp; omega)
  have f5 : F_l_fresh [.lst [], .int (m : Int)] = .ok (.val (.tup (ds (due [] m)))) := l_fresh_ok (S := []) (m := m) (by simp; omega)
  have dl := due_len S m
  have dl0 := due_len [] m
  have sm := same_ds (due S m) (by omega)
  have sm0 := same_ds (due [] m) (by omega)
  refine seq_to [.val A, t1, t2, .val (.lst L), .val (.lst (ss S)), .val (.int (m : Int)), .val (.tup (ds (due S m))), .no] (by simp [f1]) ?_
  refine seq_go (by simp [f2, hr, f3, sm]) ?_
  refine seq_go (by simp [f4, f5, sm0]) ?_
  let S2 : List (List Nat) := S ++ (due S m).map nm
  have hS2 : ss S ++ ds (due S m) = ss S2 := by
    unfold ss ds
    simp [S2]
  have hdl : (ds (due S m)).length = (due S m).length := by unfold ds; simp
  have hlS := ss_len S
  have ad1 : addD (.lst (ss S)) (.lst (ds (due S m))) = .ok (.lst (ss S2)) := by rw [add_lst (by simp; omega), hS2]
  have ad2 : addD (.tup (ss S)) (.tup (ds (due S m))) = .ok (.tup (ss S2)) := by rw [add_tup (by simp; omega), hS2]
  have hS2l : S2.length ≤ 126 := by simp [S2]; omega
  have f6 := l_fresh_ok (S := S2) (m := m) (by omega)
  have f7 := fresh_names_ok (S := S2) (m := m) (by omega)
  have dl2 := due_len S2 m
  have sm2 := same_ds (due S2 m) (by omega)
  refine seq_to [.val A, t1, t2, .val (.lst L), .val (.lst (ss S)), .val (.int (m : Int)), .val (.tup (ds (due S m))), .val (.tup (ds (due S2 m)))] (by simp [ad1, f6]) ?_
  simp [ad2, f7, sm2]
end K00

namespace K00
open PySem PySem.Spec L2 DV
/-- all that the top has written, put together -/
theorem all_mk {l : PySem.W.OpenLaw} {w : World} {K : PySem.W.Frag} {h : Heap} {mg : Str → Option Value} {fa : Addr} (X : K.In h) (G : h.Ns mainGlobals mg) (hfa : mg "law" = some (.ref fa))
    {f0 f1 f2 f3 f4 f5 f6 f7 f8 f9 f10 f11 f12 f13 f14 : Addr} {od0 od1 od2 od3 od4 od5 od6 od7 od8 od9 od10 od11 od12 od13 od14 an0 an1 an2 an3 an4 an5 an6 an7 an8 an9 an10 an11 an12 an13 an14 : Option Addr} {sl0 sl1 sl2 sl3 sl4 sl5 sl6 sl7 sl8 sl9 sl10 sl11 sl12 sl13 sl14 : Array (Option Value)} {oc0 oc1 oc2 oc3 oc4 oc5 oc6 oc7 oc8 oc9 oc10 oc11 oc12 oc13 oc14 kV0 kV1 kV2 kV3 kV4 kV5 kV6 kV7 kV8 kV9 kV10 kV11 kV12 kV13 kV14 dc0 dc1 dc2 dc3 dc4 dc5 dc6 dc7 dc8 dc9 dc10 dc11 dc12 dc13 dc14 pm0 pm1 pm2 pm3 pm4 pm5 pm6 pm7 pm8 pm9 pm10 pm11 pm12 pm13 pm14 cd0 cd1 cd2 cd3 cd4 cd5 cd6 cd7 cd8 cd9 cd10 cd11 cd12 cd13 cd14 ct0 ct1 ct2 ct3 ct4 ct5 ct6 ct7 ct8 ct9 ct10 ct11 ct12 ct13 ct14 : Value}
    (a0 : PySem.W.nsIn K mainGlobals "_law_is_name" = some (some (.ref f0))) (l0 : K.lookup f0 = some ⟨oc0, od0, .func (PySem.W.fnOf "_law_is_name" "_law_is_name" (defArgs s_l_is_name) (defBody s_l_is_name) (defScope s_l_is_name) .none kV0 dc0 pm0 an0 cd0 ct0), sl0⟩) (c0 : PySem.W.codeIn K cd0 "_law_is_name" = true) (k0 : PySem.W.keepIn K (.ref f0) = true)
    (a1 : PySem.W.nsIn K mainGlobals "is_letter" = some (some (.ref f1))) (l1 : K.lookup f1 = some ⟨oc1, od1, .func (PySem.W.fnOf "is_letter" "is_letter" (defArgs s_is_letter) (defBody s_is_letter) (defScope s_is_letter) .none kV1 dc1 pm1 an1 cd1 ct1), sl1⟩) (c1 : PySem.W.codeIn K cd1 "is_letter" = true) (k1 : PySem.W.keepIn K (.ref f1) = true)
    (a2 : PySem.W.nsIn K mainGlobals "_law_same" = some (some (.ref f2))) (l2 : K.lookup f2 = some ⟨oc2, od2, .func (PySem.W.fnOf "_law_same" "_law_same" (defArgs s_l_same) (defBody s_l_same) (defScope s_l_same) .none kV2 dc2 pm2 an2 cd2 ct2), sl2⟩) (c2 : PySem.W.codeIn K cd2 "_law_same" = true) (k2 : PySem.W.keepIn K (.ref f2) = true)
    (a3 : PySem.W.nsIn K mainGlobals "is_name" = some (some (.ref f3))) (l3 : K.lookup f3 = some ⟨oc3, od3, .func (PySem.W.fnOf "is_name" "is_name" (defArgs s_is_name) (defBody s_is_name) (defScope s_is_name) .none kV3 dc3 pm3 an3 cd3 ct3), sl3⟩) (c3 : PySem.W.codeIn K cd3 "is_name" = true) (k3 : PySem.W.keepIn K (.ref f3) = true)
    (a4 : PySem.W.nsIn K mainGlobals "is_piece" = some (some (.ref f4))) (l4 : K.lookup f4 = some ⟨oc4, od4, .func (PySem.W.fnOf "is_piece" "is_piece" (defArgs s_is_piece) (defBody s_is_piece) (defScope s_is_piece) .none kV4 dc4 pm4 an4 cd4 ct4), sl4⟩) (c4 : PySem.W.codeIn K cd4 "is_piece" = true) (k4 : PySem.W.keepIn K (.ref f4) = true)
    (a5 : PySem.W.nsIn K mainGlobals "name_of" = some (some (.ref f5))) (l5 : K.lookup f5 = some ⟨oc5, od5, .func (PySem.W.fnOf "name_of" "name_of" (defArgs s_name_of) (defBody s_name_of) (defScope s_name_of) .none kV5 dc5 pm5 an5 cd5 ct5), sl5⟩) (c5 : PySem.W.codeIn K cd5 "name_of" = true) (k5 : PySem.W.keepIn K (.ref f5) = true)
    (a6 : PySem.W.nsIn K mainGlobals "turned_symbol" = some (some (.ref f6))) (l6 : K.lookup f6 = some ⟨oc6, od6, .func (PySem.W.fnOf "turned_symbol" "turned_symbol" (defArgs s_turned_symbol) (defBody s_turned_symbol) (defScope s_turned_symbol) .none kV6 dc6 pm6 an6 cd6 ct6), sl6⟩) (c6 : PySem.W.codeIn K cd6 "turned_symbol" = true) (k6 : PySem.W.keepIn K (.ref f6) = true)
    (a7 : PySem.W.nsIn K mainGlobals "_law_good_string" = some (some (.ref f7))) (l7 : K.lookup f7 = some ⟨oc7, od7, .func (PySem.W.fnOf "_law_good_string" "_law_good_string" (defArgs s_l_good_string) (defBody s_l_good_string) (defScope s_l_good_string) .none kV7 dc7 pm7 an7 cd7 ct7), sl7⟩) (c7 : PySem.W.codeIn K cd7 "_law_good_string" = true) (k7 : PySem.W.keepIn K (.ref f7) = true)
    (a8 : PySem.W.nsIn K mainGlobals "_law_cell" = some (some (.ref f8))) (l8 : K.lookup f8 = some ⟨oc8, od8, .func (PySem.W.fnOf "_law_cell" "_law_cell" (defArgs s_l_cell) (defBody s_l_cell) (defScope s_l_cell) .none kV8 dc8 pm8 an8 cd8 ct8), sl8⟩) (c8 : PySem.W.codeIn K cd8 "_law_cell" = true) (k8 : PySem.W.keepIn K (.ref f8) = true)
    (a9 : PySem.W.nsIn K mainGlobals "_law_draws" = some (some (.ref f9))) (l9 : K.lookup f9 = some ⟨oc9, od9, .func (PySem.W.fnOf "_law_draws" "_law_draws" (defArgs s_l_draws) (defBody s_l_draws) (defScope s_l_draws) .none kV9 dc9 pm9 an9 cd9 ct9), sl9⟩) (c9 : PySem.W.codeIn K cd9 "_law_draws" = true) (k9 : PySem.W.keepIn K (.ref f9) = true)
    (a10 : PySem.W.nsIn K mainGlobals "_law_string" = some (some (.ref f10))) (l10 : K.lookup f10 = some ⟨oc10, od10, .func (PySem.W.fnOf "_law_string" "_law_string" (defArgs s_l_string) (defBody s_l_string) (defScope s_l_string) .none kV10 dc10 pm10 an10 cd10 ct10), sl10⟩) (c10 : PySem.W.codeIn K cd10 "_law_string" = true) (k10 : PySem.W.keepIn K (.ref f10) = true)
    (a11 : PySem.W.nsIn K mainGlobals "_law_given" = some (some (.ref f11))) (l11 : K.lookup f11 = some ⟨oc11, od11, .func (PySem.W.fnOf "_law_given" "_law_given" (defArgs s_l_given) (defBody s_l_given) (defScope s_l_given) .none kV11 dc11 pm11 an11 cd11 ct11), sl11⟩) (c11 : PySem.W.codeIn K cd11 "_law_given" = true) (k11 : PySem.W.keepIn K (.ref f11) = true)
    (a12 : PySem.W.nsIn K mainGlobals "_law_fresh" = some (some (.ref f12))) (l12 : K.lookup f12 = some ⟨oc12, od12, .func (PySem.W.fnOf "_law_fresh" "_law_fresh" (defArgs s_l_fresh) (defBody s_l_fresh) (defScope s_l_fresh) .none kV12 dc12 pm12 an12 cd12 ct12), sl12⟩) (c12 : PySem.W.codeIn K cd12 "_law_fresh" = true) (k12 : PySem.W.keepIn K (.ref f12) = true)
    (a13 : PySem.W.nsIn K mainGlobals "fresh_names" = some (some (.ref f13))) (l13 : K.lookup f13 = some ⟨oc13, od13, .func (PySem.W.fnOf "fresh_names" "fresh_names" (defArgs s_fresh_names) (defBody s_fresh_names) (defScope s_fresh_names) .none kV13 dc13 pm13 an13 cd13 ct13), sl13⟩) (c13 : PySem.W.codeIn K cd13 "fresh_names" = true) (k13 : PySem.W.keepIn K (.ref f13) = true)
    (a14 : PySem.W.nsIn K mainGlobals "law" = some (some (.ref f14))) (l14 : K.lookup f14 = some ⟨oc14, od14, .func (PySem.W.fnOf "law" "law" (defArgs s_law) (defBody s_law) (defScope s_law) .none kV14 dc14 pm14 an14 cd14 ct14), sl14⟩) (c14 : PySem.W.codeIn K cd14 "law" = true) (k14 : PySem.W.keepIn K (.ref f14) = true)
    (z_abs : PySem.W.nsIn K mainGlobals "abs" = some none)
    (z_bool : PySem.W.nsIn K mainGlobals "bool" = some none)
    (z_dict : PySem.W.nsIn K mainGlobals "dict" = some none)
    (z_int : PySem.W.nsIn K mainGlobals "int" = some none)
    (z_isinstance : PySem.W.nsIn K mainGlobals "isinstance" = some none)
    (z_len : PySem.W.nsIn K mainGlobals "len" = some none)
    (z_list : PySem.W.nsIn K mainGlobals "list" = some none)
    (z_range : PySem.W.nsIn K mainGlobals "range" = some none)
    (z_str : PySem.W.nsIn K mainGlobals "str" = some none)
    (z_tuple : PySem.W.nsIn K mainGlobals "tuple" = some none)
    {t_SMALL : Tok} (y_SMALL : PySem.W.nsIn K mainGlobals "SMALL" = some (some (.str "abcdefghijklmnopqrstuvwxyz" t_SMALL)))
    {t_MOST_SIGNS : Tok} (y_MOST_SIGNS : PySem.W.nsIn K mainGlobals "MOST_SIGNS" = some (some (.int 4 t_MOST_SIGNS)))
    {t_CAPITALS : Tok} (y_CAPITALS : PySem.W.nsIn K mainGlobals "CAPITALS" = some (some (.str "ABCDEFGHIJKLMNOPQRSTUVWXYZ" t_CAPITALS)))
    {t_DIGITS : Tok} (y_DIGITS : PySem.W.nsIn K mainGlobals "DIGITS" = some (some (.str "0123456789" t_DIGITS)))
    {t_TURN : Tok} (y_TURN : PySem.W.nsIn K mainGlobals "TURN" = some (some (.str "~" t_TURN)))
    : ∃ fd : FuncData, (∀ (s : Shared) (v : Value), BindsTo s fd ⟨[v], []⟩ [("_law_script", v)]) ∧ ∀ base : Heap, K.In base → base.Ns mainGlobals mg → FnOk l.prog w K mg base CX0 11 fa fd ["_law_script"] (DV.spLaw K) := by
  have e := hfa.symm.trans (PySem.W.mg_of X G a14)
  cases e
  have T : Txt K mg := ⟨PySem.W.mg_none_of X G z_abs, PySem.W.mg_none_of X G z_bool, PySem.W.mg_none_of X G z_dict, PySem.W.mg_none_of X G z_int, PySem.W.mg_none_of X G z_isinstance, PySem.W.mg_none_of X G z_len, PySem.W.mg_none_of X G z_list, PySem.W.mg_none_of X G z_range, PySem.W.mg_none_of X G z_str, PySem.W.mg_none_of X G z_tuple, ⟨t_SMALL, PySem.W.mg_of X G y_SMALL⟩, ⟨t_MOST_SIGNS, PySem.W.mg_of X G y_MOST_SIGNS⟩, ⟨t_CAPITALS, PySem.W.mg_of X G y_CAPITALS⟩, ⟨t_DIGITS, PySem.W.mg_of X G y_DIGITS⟩, ⟨t_TURN, PySem.W.mg_of X G y_TURN⟩⟩
  have G0 := fun_mk (st := s_l_is_name) l0 c0 k0
  have D_l_is_name : DefAt K mg "_law_is_name" "_law_is_name" s_l_is_name ["_law_text"] := ⟨_, _, G0, PySem.W.mg_of X G a0, G0.binds (ps := ["_law_text"]) fun _ _ _ _ _ _ us hl => match us, hl with | [_], _ => rfl⟩
  have G1 := fun_mk (st := s_is_letter) l1 c1 k1
  have D_is_letter : DefAt K mg "is_letter" "is_letter" s_is_letter ["symbol"] := ⟨_, _, G1, PySem.W.mg_of X G a1, G1.binds (ps := ["symbol"]) fun _ _ _ _ _ _ us hl => match us, hl with | [_], _ => rfl⟩
  have G2 := fun_mk (st := s_l_same) l2 c2 k2
  have D_l_same : DefAt K mg "_law_same" "_law_same" s_l_same ["_law_actual", "_law_due"] := ⟨_, _, G2, PySem.W.mg_of X G a2, G2.binds (ps := ["_law_actual", "_law_due"]) fun _ _ _ _ _ _ us hl => match us, hl with | [_, _], _ => rfl⟩
  have G3 := fun_mk (st := s_is_name) l3 c3 k3
  have D_is_name : DefAt K mg "is_name" "is_name" s_is_name ["text"] := ⟨_, _, G3, PySem.W.mg_of X G a3, G3.binds (ps := ["text"]) fun _ _ _ _ _ _ us hl => match us, hl with | [_], _ => rfl⟩
  have G4 := fun_mk (st := s_is_piece) l4 c4 k4
  have D_is_piece : DefAt K mg "is_piece" "is_piece" s_is_piece ["symbol"] := ⟨_, _, G4, PySem.W.mg_of X G a4, G4.binds (ps := ["symbol"]) fun _ _ _ _ _ _ us hl => match us, hl with | [_], _ => rfl⟩
  have G5 := fun_mk (st := s_name_of) l5 c5 k5
  have D_name_of : DefAt K mg "name_of" "name_of" s_name_of ["symbol"] := ⟨_, _, G5, PySem.W.mg_of X G a5, G5.binds (ps := ["symbol"]) fun _ _ _ _ _ _ us hl => match us, hl with | [_], _ => rfl⟩
  have G6 := fun_mk (st := s_turned_symbol) l6 c6 k6
  have D_turned_symbol : DefAt K mg "turned_symbol" "turned_symbol" s_turned_symbol ["symbol"] := ⟨_, _, G6, PySem.W.mg_of X G a6, G6.binds (ps := ["symbol"]) fun _ _ _ _ _ _ us hl => match us, hl with | [_], _ => rfl⟩
  have G7 := fun_mk (st := s_l_good_string) l7 c7 k7
  have D_l_good_string : DefAt K mg "_law_good_string" "_law_good_string" s_l_good_string ["_law_text"] := ⟨_, _, G7, PySem.W.mg_of X G a7, G7.binds (ps := ["_law_text"]) fun _ _ _ _ _ _ us hl => match us, hl with | [_], _ => rfl⟩
  have G8 := fun_mk (st := s_l_cell) l8 c8 k8
  have D_l_cell : DefAt K mg "_law_cell" "_law_cell" s_l_cell ["_law_script", "_law_k"] := ⟨_, _, G8, PySem.W.mg_of X G a8, G8.binds (ps := ["_law_script", "_law_k"]) fun _ _ _ _ _ _ us hl => match us, hl with | [_, _], _ => rfl⟩
  have G9 := fun_mk (st := s_l_draws) l9 c9 k9
  have D_l_draws : DefAt K mg "_law_draws" "_law_draws" s_l_draws ["_law_cell_here", "_law_many"] := ⟨_, _, G9, PySem.W.mg_of X G a9, G9.binds (ps := ["_law_cell_here", "_law_many"]) fun _ _ _ _ _ _ us hl => match us, hl with | [_, _], _ => rfl⟩
  have G10 := fun_mk (st := s_l_string) l10 c10 k10
  have D_l_string : DefAt K mg "_law_string" "_law_string" s_l_string ["_law_draws_here"] := ⟨_, _, G10, PySem.W.mg_of X G a10, G10.binds (ps := ["_law_draws_here"]) fun _ _ _ _ _ _ us hl => match us, hl with | [_], _ => rfl⟩
  have G11 := fun_mk (st := s_l_given) l11 c11 k11
  have D_l_given : DefAt K mg "_law_given" "_law_given" s_l_given ["_law_draws_here"] := ⟨_, _, G11, PySem.W.mg_of X G a11, G11.binds (ps := ["_law_draws_here"]) fun _ _ _ _ _ _ us hl => match us, hl with | [_], _ => rfl⟩
  have G12 := fun_mk (st := s_l_fresh) l12 c12 k12
  have D_l_fresh : DefAt K mg "_law_fresh" "_law_fresh" s_l_fresh ["_law_names", "_law_many"] := ⟨_, _, G12, PySem.W.mg_of X G a12, G12.binds (ps := ["_law_names", "_law_many"]) fun _ _ _ _ _ _ us hl => match us, hl with | [_, _], _ => rfl⟩
  have G13 := fun_mk (st := s_fresh_names) l13 c13 k13
  have D_fresh_names : DefAt K mg "fresh_names" "fresh_names" s_fresh_names ["names", "many"] := ⟨_, _, G13, PySem.W.mg_of X G a13, G13.binds (ps := ["names", "many"]) fun _ _ _ _ _ _ us hl => match us, hl with | [_, _], _ => rfl⟩
  have G14 := fun_mk (st := s_law) l14 c14 k14
  have D_law : DefAt K mg "law" "law" s_law ["_law_script"] := ⟨_, _, G14, PySem.W.mg_of X G a14, G14.binds (ps := ["_law_script"]) fun _ _ _ _ _ _ us hl => match us, hl with | [_], _ => rfl⟩
  refine ⟨PySem.W.fnOf "law" "law" (defArgs s_law) (defBody s_law) (defScope s_law) .none kV14 dc14 pm14 an14 cd14 ct14, fun s v => .of_eq rfl, fun base hb hn => law_ok (F := F_law) ?_ K00.law_true⟩
  have H_l_is_name := h_l_is_name (P := l.prog) (w := w) (base := base) T D_l_is_name 
  have H_is_letter := h_is_letter (P := l.prog) (w := w) (base := base) T D_is_letter 
  have H_l_same := hrec_l_same (P := l.prog) (w := w) (base := base) T D_l_same 
  have H_is_name := h_is_name (P := l.prog) (w := w) (base := base) T D_is_name 
  have H_is_piece := h_is_piece (P := l.prog) (w := w) (base := base) T D_is_piece H_is_name
  have H_name_of := h_name_of (P := l.prog) (w := w) (base := base) T D_name_of 
  have H_turned_symbol := h_turned_symbol (P := l.prog) (w := w) (base := base) T D_turned_symbol 
  have H_l_good_string := h_l_good_string (P := l.prog) (w := w) (base := base) T D_l_good_string H_l_is_name H_is_letter H_l_same H_is_name H_is_piece H_name_of H_turned_symbol
  have H_l_cell := h_l_cell (P := l.prog) (w := w) (base := base) T D_l_cell 
  have H_l_draws := h_l_draws (P := l.prog) (w := w) (base := base) T D_l_draws 
  have H_l_string := h_l_string (P := l.prog) (w := w) (base := base) T D_l_string 
  have H_l_given := h_l_given (P := l.prog) (w := w) (base := base) T D_l_given 
  have H_l_fresh := h_l_fresh (P := l.prog) (w := w) (base := base) T D_l_fresh 
  have H_fresh_names := h_fresh_names (P := l.prog) (w := w) (base := base) T D_fresh_names 
  exact h_law T G14 H_l_good_string H_l_cell H_l_draws H_l_string H_l_given H_l_fresh H_fresh_names H_l_same
end K00

open PySem PySem.W PyProof.Rows in
set_option maxRecDepth 100000 in
set_option maxHeartbeats 0 in
theorem PySem.Challenge.cw_twiceeach_k00_symbols_and_fresh_names_holds : PySem.Challenge.rw_twiceeach_k00_symbols_and_fresh_names.Holds := by
  w_on; o_law; k_head; (case hw => w_witness2)
  k_fill
  refine L2.walk_of (l := PySem.Challenge.rw_twiceeach_k00_symbols_and_fresh_names) (n := 63) (k := 11) (x := "_law_script") (CX := fun _ => L2.CX0) (sp := fun w => DV.spLaw _) rfl (by decide) rfl ⟨rfl, by decide, by decide⟩ (fun w h Y => PySem.W.kIn_of Y) ?F (fun _ _ a ns hl _ hS => ⟨a, ns, rfl, hS, hl, fun _ => rfl⟩) (fun _ _ _ _ _ h => h)
  case F =>
    intro w mg fa h KX G hmg
    refine' K00.all_mk KX G hmg ?a0 ?l0 ?c0 ?k0 ?a1 ?l1 ?c1 ?k1 ?a2 ?l2 ?c2 ?k2 ?a3 ?l3 ?c3 ?k3 ?a4 ?l4 ?c4 ?k4 ?a5 ?l5 ?c5 ?k5 ?a6 ?l6 ?c6 ?k6 ?a7 ?l7 ?c7 ?k7 ?a8 ?l8 ?c8 ?k8 ?a9 ?l9 ?c9 ?k9 ?a10 ?l10 ?c10 ?k10 ?a11 ?l11 ?c11 ?k11 ?a12 ?l12 ?c12 ?k12 ?a13 ?l13 ?c13 ?k13 ?a14 ?l14 ?c14 ?k14 ?z_abs ?z_bool ?z_dict ?z_int ?z_isinstance ?z_len ?z_list ?z_range ?z_str ?z_tuple ?y_SMALL ?y_MOST_SIGNS ?y_CAPITALS ?y_DIGITS ?y_TURN
    (case a0 => k_is)
    (case l0 => k_is)
    (case c0 => k_is)
    (case k0 => k_is)
    (case a1 => k_is)
    (case l1 => k_is)
    (case c1 => k_is)
    (case k1 => k_is)
    (case a2 => k_is)
    (case l2 => k_is)
    (case c2 => k_is)
    (case k2 => k_is)
    (case a3 => k_is)
    (case l3 => k_is)
    (case c3 => k_is)
    (case k3 => k_is)
    (case a4 => k_is)
    (case l4 => k_is)
    (case c4 => k_is)
    (case k4 => k_is)
    (case a5 => k_is)
    (case l5 => k_is)
    (case c5 => k_is)
    (case k5 => k_is)
    (case a6 => k_is)
    (case l6 => k_is)
    (case c6 => k_is)
    (case k6 => k_is)
    (case a7 => k_is)
    (case l7 => k_is)
    (case c7 => k_is)
    (case k7 => k_is)
    (case a8 => k_is)
    (case l8 => k_is)
    (case c8 => k_is)
    (case k8 => k_is)
    (case a9 => k_is)
    (case l9 => k_is)
    (case c9 => k_is)
    (case k9 => k_is)
    (case a10 => k_is)
    (case l10 => k_is)
    (case c10 => k_is)
    (case k10 => k_is)
    (case a11 => k_is)
    (case l11 => k_is)
    (case c11 => k_is)
    (case k11 => k_is)
    (case a12 => k_is)
    (case l12 => k_is)
    (case c12 => k_is)
    (case k12 => k_is)
    (case a13 => k_is)
    (case l13 => k_is)
    (case c13 => k_is)
    (case k13 => k_is)
    (case a14 => k_is)
    (case l14 => k_is)
    (case c14 => k_is)
    (case k14 => k_is)
    (case z_abs => k_is)
    (case z_bool => k_is)
    (case z_dict => k_is)
    (case z_int => k_is)
    (case z_isinstance => k_is)
    (case z_len => k_is)
    (case z_list => k_is)
    (case z_range => k_is)
    (case z_str => k_is)
    (case z_tuple => k_is)
    (case y_SMALL => k_is)
    (case y_MOST_SIGNS => k_is)
    (case y_CAPITALS => k_is)
    (case y_DIGITS => k_is)
    (case y_TURN => k_is)
