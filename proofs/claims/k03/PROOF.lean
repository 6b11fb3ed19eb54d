import PyProof.Rows.All
import Wide.All
import OpenK.AllK
import Wide.FinOn
import HandS.ForMost
import HandS.ForExc
import HandS.Wide
import HandS.IsInst
import HandS.Walk
import HandS.Zip
import HandS.CallSlots
import HandS.Lambda
import HandS.TupAny
import HandS.CallLocal
import HandS.More
import HandS.Defaults
import PyProof.CollectIter
import PyProof.WalksMore
import KE.KUnpack
import KE.GoesZip
import PyProof.EnumMake
import KE.GoesMore
import KE.GoesEnum
import PyProof.Rows.CallKw2
import HandS.FStr
import HandS.RaiseMore
import HandS.SetFor
import HandS.DictComp
import KE.KxIndex
import HandS.Style
import HandS.ExcInit
import HandS.ExcField
import HandS.TryMany
import KE.KTryMore
import HandS.EndOwn
import PySem.Challenge.RW_strikeloom_k03_amounts_written_and_read
set_option Elab.async false
set_option linter.all false
set_option maxRecDepth 100000
set_option maxHeartbeats 4000000
set_option autoImplicit false
set_option synthInstance.maxHeartbeats 4000000
set_option synthInstance.maxSize 100000
namespace DL
open PySem PySem.Spec PyProof.Rows L2
/-! ### data, slots, flows -/
inductive Dt where
  | non | bl (b : Bool) | int (i : Int) | str (x : Str) | tup (xs : List Dt) | lst (xs : List Dt) | ref (a : Addr) | ty (n : String) | scr (ns : List Int) | fn (x : Str)
  | dK (kvs : List (Key × Dt)) | obj (C : Str) (fs : List (Str × Dt))
inductive Wt where
  | sh (d : Dt) | own (xs : List Dt)
abbrev Rho := List (Option Wt)
inductive RD where
  | ok (d : Dt) | ex (C : Str) (fs : List (Str × Dt))
inductive RW where
  | ok (w : Wt) | ex (C : Str) (fs : List (Str × Dt))
inductive Fl where
  | nx | bk | ct | rt (w : Wt) | ex (C : Str) (fs : List (Str × Dt))
abbrev FE := Rho → Option (RD × Rho)
abbrev FW := Rho → Option (RW × Rho)
abbrev FS := Rho → Option (Fl × Rho)
/-! ### a value stands for data, over the frozen heap F -/
mutual
inductive Rp (K : PySem.W.Frag) (F : Hp) : Dt → V → Prop
  | non : Rp K F .non .non
  | bl (b : Bool) : Rp K F (.bl b) (.bl b)
  | int (i : Int) : Rp K F (.int i) (.int i)
  | str (x : Str) : Rp K F (.str x) (.str x)
  | tup {a : Addr} {vs : List V} {ds : List Dt} : SqT K F a vs → Rps K F ds vs → Rp K F (.tup ds) (.ref a)
  | lst {a : Addr} {vs : List V} {ds : List Dt} : F a = some (.lst vs) → Rps K F ds vs → Rp K F (.lst ds) (.ref a)
  | ref (a : Addr) : Rp K F (.ref a) (.ref a)
  | ty (n : String) : Rp K F (.ty n) (.ty n)
  | scr {a : Addr} {ns : List Int} : SqL K F a (ns.map V.int) → Rp K F (.scr ns) (.ref a)
  | fn {x : Str} {f : Addr} : PySem.W.nsIn K mainGlobals x = some (some (.ref f)) → Rp K F (.fn x) (.ref f)
  | dK {a : Addr} {gs : List (Key × V)} {kvs : List (Key × Dt)} : F a = some (.dK gs) → gs.map (·.1) = kvs.map (·.1) → Rps K F (kvs.map (·.2)) (gs.map (·.2)) → Rp K F (.dK kvs) (.ref a)
  | obj {a Ca dx : Addr} {gs : List (Str × V)} {C : Str} {fs : List (Str × Dt)} : PySem.W.nsIn K mainGlobals C = some (some (.ref Ca)) → F a = some (.ins Ca dx gs) → gs.map (·.1) = fs.map (·.1) → Rps K F (fs.map (·.2)) (gs.map (·.2)) → Rp K F (.obj C fs) (.ref a)
inductive Rps (K : PySem.W.Frag) (F : Hp) : List Dt → List V → Prop
  | nil : Rps K F [] []
  | cons {d : Dt} {v : V} {ds : List Dt} {vs : List V} : Rp K F d v → Rps K F ds vs → Rps K F (d :: ds) (v :: vs)
end
section
variable {K : PySem.W.Frag} {F F' H H' : Hp}
theorem same_sqT {a : Addr} {xs : List V} (e : Same F F') (h : SqT K F a xs) : SqT K F' a xs := by
  rcases h with (h | ⟨o, h⟩) | h
  · exact .inl (.inl (e _ _ h))
  · exact .inl (.inr ⟨o, e _ _ h⟩)
  · exact .inr h
mutual
theorem Rp.mono (s : Same F F') : ∀ {d : Dt} {v : V}, Rp K F d v → Rp K F' d v
  | _, _, .non => .non
  | _, _, .bl b => .bl b
  | _, _, .int i => .int i
  | _, _, .str x => .str x
  | _, _, .tup h r => .tup (same_sqT s h) (Rps.mono s r)
  | _, _, .lst h r => .lst (s _ _ h) (Rps.mono s r)
  | _, _, .ref a => .ref a
  | _, _, .ty n => .ty n
  | _, _, .scr h => .scr (s.seq h)
  | _, _, .fn h => .fn h
  | _, _, .dK h e r => .dK (s _ _ h) e (Rps.mono s r)
  | _, _, .obj c h e r => .obj c (s _ _ h) e (Rps.mono s r)
theorem Rps.mono (s : Same F F') : ∀ {ds : List Dt} {vs : List V}, Rps K F ds vs → Rps K F' ds vs
  | _, _, .nil => .nil
  | _, _, .cons h r => .cons (Rp.mono s h) (Rps.mono s r)
end
theorem Rps.length : ∀ {ds : List Dt} {vs : List V}, Rps K F ds vs → ds.length = vs.length
  | _, _, .nil => rfl
  | _, _, .cons _ r => by simp [Rps.length r]
theorem Rps.get : ∀ {ds : List Dt} {vs : List V} {i : Nat} {d : Dt}, Rps K F ds vs → ds[i]? = some d → ∃ v, vs[i]? = some v ∧ Rp K F d v
  | _, _, _, _, .nil, e => by simp at e
  | _, _, 0, _, .cons h _, e => by simp at e; subst e; exact ⟨_, rfl, h⟩
  | _, _, i + 1, d, .cons _ r, e => by
    obtain ⟨v, h1, h2⟩ := Rps.get (i := i) (d := d) r (by simpa using e)
    exact ⟨v, by simpa using h1, h2⟩
theorem Rps.getV : ∀ {ds : List Dt} {vs : List V} {i : Nat} {v : V}, Rps K F ds vs → vs[i]? = some v → ∃ d, ds[i]? = some d ∧ Rp K F d v
  | _, _, _, _, .nil, e => by simp at e
  | _, _, 0, _, .cons h _, e => by simp at e; subst e; exact ⟨_, rfl, h⟩
  | _, _, i + 1, d, .cons _ r, e => by
    obtain ⟨v, h1, h2⟩ := Rps.getV (i := i) (v := d) r (by simpa using e)
    exact ⟨v, by simpa using h1, h2⟩
theorem Rps.append : ∀ {ds es : List Dt} {vs ws : List V}, Rps K F ds vs → Rps K F es ws → Rps K F (ds ++ es) (vs ++ ws)
  | _, _, _, _, .nil, s => s
  | _, _, _, _, .cons h r, s => .cons h (Rps.append r s)
theorem Rps.set {d : Dt} {v : V} (h : Rp K F d v) : ∀ {ds : List Dt} {vs : List V} (i : Nat), Rps K F ds vs → Rps K F (ds.set i d) (vs.set i v)
  | _, _, _, .nil => .nil
  | _, _, 0, .cons _ r => .cons h r
  | _, _, i + 1, .cons q r => .cons q (Rps.set h i r)
theorem Rps.take : ∀ {ds : List Dt} {vs : List V} (n : Nat), Rps K F ds vs → Rps K F (ds.take n) (vs.take n)
  | _, _, 0, _ => .nil
  | _, _, _ + 1, .nil => .nil
  | _, _, n + 1, .cons h r => .cons h (Rps.take n r)
theorem Rps.drop : ∀ {ds : List Dt} {vs : List V} (n : Nat), Rps K F ds vs → Rps K F (ds.drop n) (vs.drop n)
  | _, _, 0, h => h
  | _, _, _ + 1, .nil => .nil
  | _, _, n + 1, .cons _ r => Rps.drop n r
end
/-! ### growing heaps -/
structure Grow (F H F' H' : Hp) : Prop where
  f : Same F F'
  h : Same H H'
  fh : Same F' H'
  new : ∀ p o, F' p = some o → F p = some o ∨ H p = none
theorem Grow.refl {F H : Hp} (s : Same F H) : Grow F H F H := ⟨.refl _, .refl _, s, fun _ _ e => .inl e⟩
theorem Grow.trans {F H F1 H1 F2 H2 : Hp} (a : Grow F H F1 H1) (b : Grow F1 H1 F2 H2) : Grow F H F2 H2 :=
  ⟨a.f.trans b.f, a.h.trans b.h, b.fh, fun p o e => (b.new p o e).elim (fun q => a.new p o q) fun q => .inr (a.h.free q)⟩
theorem same_new {H : Hp} {p : Addr} {o : HO} (h : H p = none) : Same H (upd H p o) := fun b x e => by
  rw [upd_ne (ne_of_none e h)]
  exact e
theorem free_of {F H : Hp} (s : Same F H) {p : Addr} (h : H p = none) : F p = none := s.free h
/-- a new object, frozen at once -/
theorem Grow.lay {F H : Hp} {p : Addr} {o : HO} (s : Same F H) (h : H p = none) : Grow F H (upd F p o) (upd H p o) where
  f := same_new (free_of s h)
  h := same_new h
  fh := fun b x e => by
    by_cases hb : b = p
    · subst hb; rw [upd_same] at e ⊢; exact e
    · rw [upd_ne hb] at e ⊢; exact s b x e
  new := fun b x e => by
    by_cases hb : b = p
    · subst hb; exact .inr h
    · rw [upd_ne hb] at e; exact .inl e
/-- a new object, not frozen -/
theorem Grow.laid {F H : Hp} {p : Addr} {o : HO} (s : Same F H) (h : H p = none) : Grow F H F (upd H p o) where
  f := .refl _
  h := same_new h
  fh := s.trans (same_new h)
  new := fun _ _ e => .inl e
/-! ### the relation of slots -/
structure Pt where
  F0 : Hp
  H0 : Hp
  bs : List Nat
  ba : Nat → Addr
  T : List (Addr × Str)
def Pt.isB (P : Pt) (p : Addr) : Prop := ∃ j, j ∈ P.bs ∧ P.ba j = p
def SlotW (K : PySem.W.Frag) (P : Pt) (F H : Hp) (i : Nat) (v : V) : Wt → Prop
  | .sh d => Rp K F d v
  | .own xs => ∃ p vs, v = .ref p ∧ F p = none ∧ H p = some (.lst vs) ∧ Rps K F xs vs ∧ (P.H0 p = none ∨ (i ∈ P.bs ∧ P.ba i = p))
structure Rel (K : PySem.W.Frag) (P : Pt) (F H : Hp) (σ : L2.St) (ρ : Rho) : Prop where
  fh : Same F H
  f0 : Same P.F0 F
  keep : ∀ p o, P.H0 p = some o → ¬ P.isB p → H p = some o
  new : ∀ p o, F p = some o → P.F0 p = some o ∨ P.H0 p = none
  len : ρ.length = σ.length
  slot : ∀ (i : Nat) (w : Wt), ρ[i]? = some (some w) → ∃ v, σ[i]? = some (some v) ∧ SlotW K P F H i v w
  sep : ∀ (i j : Nat) (xs ys : List Dt) (a : Addr), ρ[i]? = some (some (.own xs)) → ρ[j]? = some (some (.own ys)) → σ[i]? = some (some (.ref a)) → σ[j]? = some (some (.ref a)) → i = j
  bor : ∀ j : Nat, j ∈ P.bs → σ[j]? = some (some (.ref (P.ba j))) ∧ ∃ xs, ρ[j]? = some (some (.own xs))
  tb : ∀ q ∈ P.T, F q.1 = none ∧ LamX.TabS H q.1 q.2
/-- what an expression has given -/
def ResW (K : PySem.W.Frag) (P : Pt) (F H : Hp) (σ : L2.St) (ρ : Rho) (v : V) : Wt → Prop
  | .sh d => Rp K F d v
  | .own xs => ∃ p vs, v = .ref p ∧ F p = none ∧ H p = some (.lst vs) ∧ Rps K F xs vs ∧ P.H0 p = none ∧ ∀ (i : Nat) (ys : List Dt), ρ[i]? = some (some (.own ys)) → σ[i]? ≠ some (some (.ref p))
section
variable {K : PySem.W.Frag} {P : Pt} {F H F' H' : Hp} {σ : L2.St} {ρ : Rho}
theorem Rel.there (R : Rel K P F H σ ρ) {p : Addr} {o : HO} (h : P.H0 p = some o) : ∃ u, H p = some u := by
  by_cases hb : P.isB p
  · obtain ⟨j, hj, rfl⟩ := hb
    obtain ⟨e, xs, ex⟩ := R.bor j hj
    obtain ⟨v, ev, q⟩ := R.slot j _ ex
    rw [e] at ev
    cases ev
    obtain ⟨p, vs, e1, _, e2, _⟩ := q
    cases e1
    exact ⟨_, e2⟩
  · exact ⟨o, R.keep p o h hb⟩
theorem Rel.fresh (R : Rel K P F H σ ρ) {p : Addr} (h : H p = none) : P.H0 p = none := by
  cases e : P.H0 p with
  | none => rfl
  | some o =>
    obtain ⟨u, hu⟩ := R.there e
    rw [h] at hu
    cases hu
theorem SlotW.grow {i : Nat} {v : V} {w : Wt} (g : Grow F H F' H') (h : SlotW K P F H i v w) : SlotW K P F' H' i v w := by
  cases w with
  | sh d => exact Rp.mono g.f h
  | own xs =>
    obtain ⟨p, vs, e, e1, e2, r, z⟩ := h
    refine ⟨p, vs, e, ?_, g.h _ _ e2, r.mono g.f, z⟩
    cases q : F' p with
    | none => rfl
    | some o =>
      rcases g.new p o q with h1 | h1
      · rw [e1] at h1; cases h1
      · rw [e2] at h1; cases h1
theorem tab_free {p : Addr} {q : Str} (a : F p = none) (t : LamX.TabS H p q) (n : ∀ o, F' p = some o → F p = some o ∨ H p = none) : F' p = none := by
  cases e : F' p with
  | none => rfl
  | some o =>
    obtain ⟨ps, hp, _⟩ := t
    rcases n o e with h | h
    · rw [a] at h; cases h
    · rw [hp] at h; cases h
theorem tab_ne {p : Addr} {r : Addr} {q : Str} {vs : List V} (t : LamX.TabS H r q) (h : H p = some (.lst vs)) : r ≠ p := fun e => by
  subst e
  obtain ⟨ps, hp, _⟩ := t
  rw [h] at hp
  cases hp
theorem tab_upd {p : Addr} {r : Addr} {q : Str} {vs us : List V} (t : LamX.TabS H r q) (h : H p = some (.lst vs)) : LamX.TabS (upd H p (.lst us)) r q := by
  have hne := tab_ne t h
  obtain ⟨ps, hp, ht, hc⟩ := t
  refine ⟨ps, by rw [upd_ne hne]; exact hp, ht, fun pos cv e => ?_⟩
  obtain ⟨c, e1, e2⟩ := hc pos cv e
  refine ⟨c, e1, ?_⟩
  rw [upd_ne]
  · exact e2
  · intro z
    subst z
    rw [h] at e2
    cases e2
theorem tab_map {H2 : Hp} {r : Addr} {q : Str} (t : LamX.TabS H r q) (k : ∀ p o, H p = some o → (∀ vs, o ≠ .lst vs) → H2 p = some o) : LamX.TabS H2 r q := by
  obtain ⟨ps, hp, ht, hc⟩ := t
  refine ⟨ps, k _ _ hp fun vs z => (by cases z), ht, fun pos cv e => ?_⟩
  obtain ⟨c, e1, e2⟩ := hc pos cv e
  exact ⟨c, e1, k _ _ e2 fun vs z => by unfold LamX.CodeO at z; cases z⟩
theorem Rel.grow (R : Rel K P F H σ ρ) (g : Grow F H F' H') : Rel K P F' H' σ ρ where
  fh := g.fh
  f0 := R.f0.trans g.f
  keep := fun p o h hb => g.h _ _ (R.keep p o h hb)
  new := fun p o h => (g.new p o h).elim (fun q => R.new p o q) fun q => .inr (R.fresh q)
  len := R.len
  slot := fun i w h => by
    obtain ⟨v, e, q⟩ := R.slot i w h
    exact ⟨v, e, q.grow g⟩
  sep := R.sep
  bor := R.bor
  tb := fun q hq => ⟨tab_free (R.tb q hq).1 (R.tb q hq).2 fun o e => g.new q.1 o e, (R.tb q hq).2.ext g.h⟩
theorem ResW.grow {v : V} {w : Wt} (g : Grow F H F' H') (h : ResW K P F H σ ρ v w) : ResW K P F' H' σ ρ v w := by
  cases w with
  | sh d => exact Rp.mono g.f h
  | own xs =>
    obtain ⟨p, vs, e, e1, e2, r, z, y⟩ := h
    refine ⟨p, vs, e, ?_, g.h _ _ e2, r.mono g.f, z, y⟩
    cases q : F' p with
    | none => rfl
    | some o =>
      rcases g.new p o q with h1 | h1
      · rw [e1] at h1; cases h1
      · rw [e2] at h1; cases h1
/-- freezing what has been given -/
theorem ResW.freeze {v : V} {xs : List Dt} (R : Rel K P F H σ ρ) (h : ResW K P F H σ ρ v (.own xs)) : ∃ F', Same F F' ∧ Rel K P F' H σ ρ ∧ Rp K F' (.lst xs) v := by
  obtain ⟨p, vs, rfl, e1, e2, r, z, y⟩ := h
  have sF : Same F (upd F p (.lst vs)) := same_new e1
  refine ⟨upd F p (.lst vs), sF, ?_, .lst upd_same (r.mono sF)⟩
  refine ⟨fun b o e => ?_, R.f0.trans sF, R.keep, fun b o e => ?_, R.len, fun i w h => ?_, R.sep, R.bor, fun t ht => ⟨by rw [upd_ne (tab_ne (R.tb t ht).2 e2)]; exact (R.tb t ht).1, (R.tb t ht).2⟩⟩
  · by_cases hb : b = p
    · subst hb; rw [upd_same] at e; rw [e2]; exact e
    · rw [upd_ne hb] at e; exact R.fh b o e
  · by_cases hb : b = p
    · subst hb; exact .inr z
    · rw [upd_ne hb] at e; exact R.new b o e
  · obtain ⟨v, e, q⟩ := R.slot i w h
    refine ⟨v, e, ?_⟩
    cases w with
    | sh d => exact Rp.mono sF q
    | own ys =>
      obtain ⟨p', vs', ev, q1, q2, q3, q4⟩ := q
      refine ⟨p', vs', ev, ?_, q2, q3.mono sF, q4⟩
      rw [upd_ne]
      · exact q1
      · intro e'
        subst e'
        subst ev
        exact y i ys h e
/-- a slot is given a value -/
theorem Rel.asg {i : Nat} {v : V} {w : Wt} (R : Rel K P F H σ ρ) (hi : i ∉ P.bs) (h : ResW K P F H σ ρ v w) : Rel K P F H (σ.set i (some v)) (ρ.set i (some w)) where
  fh := R.fh
  f0 := R.f0
  keep := R.keep
  new := R.new
  len := by simp [R.len]
  slot := fun j u hj => by
    by_cases e : i = j
    · subst e
      have hl : i < ρ.length := by
        cases Nat.lt_or_ge i ρ.length with
        | inl h => exact h
        | inr h =>
          rw [List.getElem?_eq_none (by simpa using h)] at hj
          cases hj
      rw [List.getElem?_set_self hl] at hj
      cases hj
      refine ⟨v, by rw [List.getElem?_set_self (by rw [← R.len]; exact hl)], ?_⟩
      cases w with
      | sh d => exact h
      | own xs =>
        obtain ⟨p, vs, e, e1, e2, r, z, y⟩ := h
        exact ⟨p, vs, e, e1, e2, r, .inl z⟩
    · rw [List.getElem?_set_ne e] at hj
      rw [List.getElem?_set_ne e]
      exact R.slot j u hj
  sep := fun a b xs ys p h1 h2 h3 h4 => by
    have key : ∀ (c : Nat) (zs us : List Dt) (hc : i ≠ c), (ρ.set i (some w))[i]? = some (some (.own zs)) → ρ[c]? = some (some (.own us)) → (σ.set i (some v))[i]? = some (some (.ref p)) → σ[c]? = some (some (.ref p)) → False := by
      intro c zs us hc k1 k2 k3 k4
      have hl : i < ρ.length := by
        cases Nat.lt_or_ge i ρ.length with
        | inl h => exact h
        | inr h =>
          rw [List.getElem?_eq_none (by simpa using h)] at k1
          cases k1
      rw [List.getElem?_set_self hl] at k1
      cases k1
      rw [List.getElem?_set_self (by rw [← R.len]; exact hl)] at k3
      cases k3
      obtain ⟨p', vs, e, e1, e2, r, z, y⟩ := h
      cases e
      exact y c us k2 k4
    by_cases ea : i = a
    · by_cases eb : i = b
      · omega
      · subst ea
        rw [List.getElem?_set_ne eb] at h2 h4
        exact (key b xs ys eb h1 h2 h3 h4).elim
    · by_cases eb : i = b
      · subst eb
        rw [List.getElem?_set_ne ea] at h1 h3
        exact (key a ys xs ea h2 h1 h4 h3).elim
      · rw [List.getElem?_set_ne ea] at h1 h3
        rw [List.getElem?_set_ne eb] at h2 h4
        exact R.sep a b xs ys p h1 h2 h3 h4
  tb := R.tb
  bor := fun j hj => by
    have e : i ≠ j := fun z => by subst z; exact hi hj
    rw [List.getElem?_set_ne e, List.getElem?_set_ne e]
    exact R.bor j hj
/-- a slot is forgotten -/
theorem Rel.forget {i : Nat} (R : Rel K P F H σ ρ) (hi : i ∉ P.bs) : Rel K P F H σ (ρ.set i none) where
  fh := R.fh
  f0 := R.f0
  keep := R.keep
  new := R.new
  len := by simp [R.len]
  slot := fun j u hj => by
    by_cases e : i = j
    · subst e
      by_cases hl : i < ρ.length
      · rw [List.getElem?_set_self hl] at hj; cases hj
      · rw [List.getElem?_eq_none (by simpa using hl)] at hj; cases hj
    · rw [List.getElem?_set_ne e] at hj
      exact R.slot j u hj
  sep := fun a b xs ys p h1 h2 h3 h4 => by
    have key : ∀ (c : Nat) (zs : List Dt), (ρ.set i none)[c]? = some (some (.own zs)) → ρ[c]? = some (some (.own zs)) := fun c zs hc => by
      by_cases e : i = c
      · subst e
        by_cases hl : i < ρ.length
        · rw [List.getElem?_set_self hl] at hc; cases hc
        · rw [List.getElem?_eq_none (by simpa using hl)] at hc; cases hc
      · rw [List.getElem?_set_ne e] at hc; exact hc
    exact R.sep a b xs ys p (key a xs h1) (key b ys h2) h3 h4
  tb := R.tb
  bor := fun j hj => by
    have e : i ≠ j := fun z => by subst z; exact hi hj
    rw [List.getElem?_set_ne e]
    exact R.bor j hj
/-- an own slot's list is written -/
theorem Rel.write {i : Nat} {p : Addr} {xs ys : List Dt} {us : List V} (R : Rel K P F H σ ρ) (h : ρ[i]? = some (some (.own xs))) (hs : σ[i]? = some (some (.ref p))) (hu : Rps K F ys us) :
    Rel K P F (upd H p (.lst us)) σ (ρ.set i (some (.own ys))) := by
  obtain ⟨v, e, q⟩ := R.slot i _ h
  rw [hs] at e
  cases e
  obtain ⟨p', vs, e0, e1, e2, r, z⟩ := q
  cases e0
  have hl : i < ρ.length := (List.getElem?_eq_some_iff.mp h).1
  refine ⟨fun b o e => ?_, R.f0, fun b o e hb => ?_, R.new, by simp [R.len], fun j w hj => ?_, fun a b zs ws c h1 h2 h3 h4 => ?_, fun j hj => ?_, fun t ht => ⟨(R.tb t ht).1, tab_upd (R.tb t ht).2 e2⟩⟩
  · have hb : b ≠ p := fun e' => by subst e'; rw [e1] at e; cases e
    rw [upd_ne hb]; exact R.fh b o e
  · have hp : b ≠ p := fun e' => by
      subst e'
      rcases z with z | ⟨z1, z2⟩
      · rw [z] at e; cases e
      · exact hb ⟨i, z1, z2⟩
    rw [upd_ne hp]; exact R.keep b o e hb
  · by_cases e : i = j
    · subst e
      rw [List.getElem?_set_self hl] at hj
      cases hj
      exact ⟨_, hs, p, us, rfl, e1, upd_same, hu, z⟩
    · rw [List.getElem?_set_ne e] at hj
      obtain ⟨v, ev, q⟩ := R.slot j w hj
      refine ⟨v, ev, ?_⟩
      cases w with
      | sh d => exact q
      | own ws =>
        obtain ⟨p', vs', e0, q1, q2, q3, q4⟩ := q
        refine ⟨p', vs', e0, q1, ?_, q3, q4⟩
        have hp : p' ≠ p := fun e' => by
          subst e'
          subst e0
          exact e (R.sep i j xs ws p' h hj hs ev)
        rw [upd_ne hp]; exact q2
  · have key : ∀ (c : Nat) (zs : List Dt), (ρ.set i (some (.own ys)))[c]? = some (some (.own zs)) → ∃ us, ρ[c]? = some (some (.own us)) := fun c zs hc => by
      by_cases e : i = c
      · subst e; exact ⟨xs, h⟩
      · rw [List.getElem?_set_ne e] at hc; exact ⟨zs, hc⟩
    obtain ⟨x1, k1⟩ := key a zs h1
    obtain ⟨x2, k2⟩ := key b ws h2
    exact R.sep a b x1 x2 c k1 k2 h3 h4
  · refine ⟨(R.bor j hj).1, ?_⟩
    by_cases e : i = j
    · subst e; exact ⟨ys, by rw [List.getElem?_set_self hl]⟩
    · rw [List.getElem?_set_ne e]; exact (R.bor j hj).2
/-- an own slot (not borrowed) is moved out -/
theorem Rel.out {i : Nat} {xs : List Dt} (R : Rel K P F H σ ρ) (hi : i ∉ P.bs) (h : ρ[i]? = some (some (.own xs))) : ∃ v, σ[i]? = some (some v) ∧ Rel K P F H σ (ρ.set i none) ∧ ResW K P F H σ (ρ.set i none) v (.own xs) := by
  obtain ⟨v, e, q⟩ := R.slot i _ h
  obtain ⟨p, vs, rfl, e1, e2, r, z⟩ := q
  refine ⟨.ref p, e, R.forget hi, p, vs, rfl, e1, e2, r, ?_, fun j ys hj hs => ?_⟩
  · rcases z with z | ⟨z1, _⟩
    · exact z
    · exact absurd z1 hi
  · have hl : i < ρ.length := (List.getElem?_eq_some_iff.mp h).1
    by_cases ej : i = j
    · subst ej
      rw [List.getElem?_set_self hl] at hj; cases hj
    · rw [List.getElem?_set_ne ej] at hj
      exact ej (R.sep i j xs ys p h hj e hs)
end
end DL
namespace DL
open PySem PySem.Spec PyProof.Rows L2
/-! ### lifting -/
def Xp (K : PySem.W.Frag) (F : Hp) (cls : Value) (dd : Option Addr) (C : Str) (fs : List (Str × Dt)) : Prop :=
  (∃ c : Addr, cls = .ref c ∧ PySem.W.nsIn K mainGlobals C = some (some (.ref c))) ∧ ∃ (a : Addr) (gs : List (Str × V)), dd = some a ∧ F a = some (.xd gs) ∧ gs.map (·.1) = fs.map (·.1) ∧ Rps K F (fs.map (·.2)) (gs.map (·.2))
section
variable (K : PySem.W.Frag) (P : Pt) (Wx : WX)
def postE (σ : L2.St) (F : Hp) (Q : VK) : Option (RD × Rho) → Prop
  | none => False
  | some (.ok d, ρ) => ∀ F' H' v, Same F F' → Rel K P F' H' σ ρ → Rp K F' d v → Q v H'
  | some (.ex C fs, ρ) => ∀ F' H' cls dd, Same F F' → Rel K P F' H' σ ρ → Xp K F' cls dd C fs → Wx cls dd σ H'
def LE (f : FE) : TE := fun σ H Q => ∃ F ρ, Rel K P F H σ ρ ∧ postE K P Wx σ F Q (f ρ)
def postW (σ : L2.St) (F : Hp) (Q : VK) : Option (RW × Rho) → Prop
  | none => False
  | some (.ok w, ρ) => ∀ F' H' v, Same F F' → Rel K P F' H' σ ρ → ResW K P F' H' σ ρ v w → Q v H'
  | some (.ex C fs, ρ) => ∀ F' H' cls dd, Same F F' → Rel K P F' H' σ ρ → Xp K F' cls dd C fs → Wx cls dd σ H'
def LW (f : FW) : TE := fun σ H Q => ∃ F ρ, Rel K P F H σ ρ ∧ postW K P Wx σ F Q (f ρ)
def LT (f : FE) : TT := tB (LE K P Wx f)
end
inductive Av where
  | val (d : Dt) | slot (j : Nat) | tmp (xs : List Dt)
inductive RA where
  | ok (as : List Av) | ex (C : Str) (fs : List (Str × Dt))
abbrev FA := Rho → Option (RA × Rho)
/-- the arguments' values; a list of its own stands last -/
inductive Avs (K : PySem.W.Frag) (P : Pt) (F H : Hp) (σ : L2.St) (ρ : Rho) : List Av → List V → Prop
  | nil : Avs K P F H σ ρ [] []
  | val {d : Dt} {v : V} {as : List Av} {vs : List V} : Rp K F d v → Avs K P F H σ ρ as vs → Avs K P F H σ ρ (.val d :: as) (v :: vs)
  | slot {j : Nat} {v : V} {as : List Av} {vs : List V} : σ[j]? = some (some v) → Avs K P F H σ ρ as vs → Avs K P F H σ ρ (.slot j :: as) (v :: vs)
  | tmp {v : V} {xs : List Dt} : ResW K P F H σ ρ v (.own xs) → Avs K P F H σ ρ [.tmp xs] [v]
section
variable (K : PySem.W.Frag) (P : Pt) (Wx : WX)
def postA (σ : L2.St) (F : Hp) (Q : List V → Hp → Prop) : Option (RA × Rho) → Prop
  | none => False
  | some (.ok as, ρ) => ∀ F' H' vs, Same F F' → Rel K P F' H' σ ρ → Avs K P F' H' σ ρ as vs → Q vs H'
  | some (.ex C fs, ρ) => ∀ F' H' cls dd, Same F F' → Rel K P F' H' σ ρ → Xp K F' cls dd C fs → Wx cls dd σ H'
def LA (f : FA) : TA := fun σ H Q => ∃ F ρ, Rel K P F H σ ρ ∧ postA K P Wx σ F Q (f ρ)
def postS (F : Hp) (D : Ends) : Option (Fl × Rho) → Prop
  | none => False
  | some (.nx, ρ) => ∀ F' H' σ, Same F F' → Rel K P F' H' σ ρ → D.nx σ H'
  | some (.bk, ρ) => ∀ F' H' σ, Same F F' → Rel K P F' H' σ ρ → D.bk σ H'
  | some (.ct, ρ) => ∀ F' H' σ, Same F F' → Rel K P F' H' σ ρ → D.ct σ H'
  | some (.rt w, ρ) => ∀ F' H' σ v, Same F F' → Rel K P F' H' σ ρ → ResW K P F' H' σ ρ v w → D.rt v H'
  | some (.ex C fs, ρ) => ∀ F' H' σ cls dd, Same F F' → Rel K P F' H' σ ρ → Xp K F' cls dd C fs → Wx cls dd σ H'
def LS (f : FS) : TS := fun D σ H => ∃ F ρ, Rel K P F H σ ρ ∧ postS K P Wx F D (f ρ)
end
section
variable {X : Cx} {e : Expr} {es : List Expr} {st : Stmt} {sts : List Stmt}
theorem PEm {t t' : TE} (h : PE X e t) (m : ∀ σ H Q, t' σ H Q → t σ H Q) : PE X e t' := ⟨fun pins s σ H Q I q => h.run pins s σ H Q I (m σ H Q q)⟩
theorem PTm {t t' : TT} (h : PT X e t) (m : ∀ σ H Q, t' σ H Q → t σ H Q) : PT X e t' := ⟨fun pins s σ H Q I q => h.run pins s σ H Q I (m σ H Q q)⟩
theorem PWm {t t' : TT} (h : PW X e t) (m : ∀ σ H Q, t' σ H Q → t σ H Q) : PW X e t' := ⟨fun whole pins s σ H Q I q => h.run whole pins s σ H Q I (m σ H Q q)⟩
theorem PAm {t t' : TA} (h : PA X es t) (m : ∀ σ H Q, t' σ H Q → t σ H Q) : PA X es t' := ⟨fun pos pins s σ H Q I q => h.run pos pins s σ H Q I (m σ H Q q)⟩
theorem PSm {t t' : TS} (h : PS X st t) (m : ∀ D σ H, t' D σ H → t D σ H) : PS X st t' := ⟨fun pins s σ H D I q => h.run pins s σ H D I (m D σ H q)⟩
theorem PSsm {t t' : TS} (h : PSs X sts t) (m : ∀ D σ H, t' D σ H → t D σ H) : PSs X sts t' := ⟨fun pins s σ H D I q => h.run pins s σ H D I (m D σ H q)⟩
end
section
variable {K : PySem.W.Frag} {P : Pt} {Wx : WX} {σ : L2.St} {F F1 H : Hp} {ρ : Rho}
theorem postE.mono {Q : VK} (s : Same F F1) {r : Option (RD × Rho)} (h : postE K P Wx σ F Q r) : postE K P Wx σ F1 Q r := by
  match r, h with
  | some (.ok d, ρ), h => exact fun F' H' v a => h F' H' v (s.trans a)
  | some (.ex C fs, ρ), h => exact fun F' H' cls dd a => h F' H' cls dd (s.trans a)
theorem postW.mono {Q : VK} (s : Same F F1) {r : Option (RW × Rho)} (h : postW K P Wx σ F Q r) : postW K P Wx σ F1 Q r := by
  match r, h with
  | some (.ok d, ρ), h => exact fun F' H' v a => h F' H' v (s.trans a)
  | some (.ex C fs, ρ), h => exact fun F' H' cls dd a => h F' H' cls dd (s.trans a)
theorem postA.mono {Q : List V → Hp → Prop} (s : Same F F1) {r : Option (RA × Rho)} (h : postA K P Wx σ F Q r) : postA K P Wx σ F1 Q r := by
  match r, h with
  | some (.ok d, ρ), h => exact fun F' H' v a => h F' H' v (s.trans a)
  | some (.ex C fs, ρ), h => exact fun F' H' cls dd a => h F' H' cls dd (s.trans a)
theorem postS.mono {D : Ends} (s : Same F F1) {r : Option (Fl × Rho)} (h : postS K P Wx F D r) : postS K P Wx F1 D r := by
  match r, h with
  | some (.nx, ρ), h => exact fun F' H' v a => h F' H' v (s.trans a)
  | some (.bk, ρ), h => exact fun F' H' v a => h F' H' v (s.trans a)
  | some (.ct, ρ), h => exact fun F' H' v a => h F' H' v (s.trans a)
  | some (.rt w, ρ), h => exact fun F' H' σ v a => h F' H' σ v (s.trans a)
  | some (.ex C fs, ρ), h => exact fun F' H' σ cls dd a => h F' H' σ cls dd (s.trans a)
/-! ### binding -/
def bindE (f : FE) (k : Dt → FE) : FE := fun ρ => match f ρ with
  | none => none
  | some (.ok d, ρ1) => k d ρ1
  | some (.ex C fs, ρ1) => some (.ex C fs, ρ1)
def bindEW (f : FE) (k : Dt → FW) : FW := fun ρ => match f ρ with
  | none => none
  | some (.ok d, ρ1) => k d ρ1
  | some (.ex C fs, ρ1) => some (.ex C fs, ρ1)
def bindAW (f : FA) (k : List Av → FW) : FW := fun ρ => match f ρ with
  | none => none
  | some (.ok d, ρ1) => k d ρ1
  | some (.ex C fs, ρ1) => some (.ex C fs, ρ1)
def bindAE (f : FA) (k : List Av → FE) : FE := fun ρ => match f ρ with
  | none => none
  | some (.ok d, ρ1) => k d ρ1
  | some (.ex C fs, ρ1) => some (.ex C fs, ρ1)
def bindEA (f : FE) (k : Dt → FA) : FA := fun ρ => match f ρ with
  | none => none
  | some (.ok d, ρ1) => k d ρ1
  | some (.ex C fs, ρ1) => some (.ex C fs, ρ1)
def bindES (f : FE) (k : Dt → FS) : FS := fun ρ => match f ρ with
  | none => none
  | some (.ok d, ρ1) => k d ρ1
  | some (.ex C fs, ρ1) => some (.ex C fs, ρ1)
def bindWS (f : FW) (k : Wt → FS) : FS := fun ρ => match f ρ with
  | none => none
  | some (.ok d, ρ1) => k d ρ1
  | some (.ex C fs, ρ1) => some (.ex C fs, ρ1)
theorem LE.bind {f : FE} {k : Dt → FE} {Q R : VK} (r : Rel K P F H σ ρ) (h : postE K P Wx σ F Q (bindE f k ρ))
    (hk : ∀ d ρ1 F1 H1 v, Same F F1 → Rel K P F1 H1 σ ρ1 → Rp K F1 d v → postE K P Wx σ F1 Q (k d ρ1) → R v H1) : LE K P Wx f σ H R := by
  refine ⟨F, ρ, r, ?_⟩
  unfold bindE at h
  match e : f ρ with
  | none => rw [e] at h; exact h.elim
  | some (.ok d, ρ1) => rw [e] at h; exact fun F' H' v a b c => hk d ρ1 F' H' v a b c (postE.mono a h)
  | some (.ex C fs, ρ1) => rw [e] at h; exact h
theorem LE.bindW {f : FE} {k : Dt → FW} {Q R : VK} (r : Rel K P F H σ ρ) (h : postW K P Wx σ F Q (bindEW f k ρ))
    (hk : ∀ d ρ1 F1 H1 v, Same F F1 → Rel K P F1 H1 σ ρ1 → Rp K F1 d v → postW K P Wx σ F1 Q (k d ρ1) → R v H1) : LE K P Wx f σ H R := by
  refine ⟨F, ρ, r, ?_⟩
  unfold bindEW at h
  match e : f ρ with
  | none => rw [e] at h; exact h.elim
  | some (.ok d, ρ1) => rw [e] at h; exact fun F' H' v a b c => hk d ρ1 F' H' v a b c (postW.mono a h)
  | some (.ex C fs, ρ1) => rw [e] at h; exact h
theorem LE.bindA {f : FE} {k : Dt → FA} {Q : List V → Hp → Prop} {R : VK} (r : Rel K P F H σ ρ) (h : postA K P Wx σ F Q (bindEA f k ρ))
    (hk : ∀ d ρ1 F1 H1 v, Same F F1 → Rel K P F1 H1 σ ρ1 → Rp K F1 d v → postA K P Wx σ F1 Q (k d ρ1) → R v H1) : LE K P Wx f σ H R := by
  refine ⟨F, ρ, r, ?_⟩
  unfold bindEA at h
  match e : f ρ with
  | none => rw [e] at h; exact h.elim
  | some (.ok d, ρ1) => rw [e] at h; exact fun F' H' v a b c => hk d ρ1 F' H' v a b c (postA.mono a h)
  | some (.ex C fs, ρ1) => rw [e] at h; exact h
theorem LE.bindS {f : FE} {k : Dt → FS} {D : Ends} {R : VK} (r : Rel K P F H σ ρ) (h : postS K P Wx F D (bindES f k ρ))
    (hk : ∀ d ρ1 F1 H1 v, Same F F1 → Rel K P F1 H1 σ ρ1 → Rp K F1 d v → postS K P Wx F1 D (k d ρ1) → R v H1) : LE K P Wx f σ H R := by
  refine ⟨F, ρ, r, ?_⟩
  unfold bindES at h
  match e : f ρ with
  | none => rw [e] at h; exact h.elim
  | some (.ok d, ρ1) => rw [e] at h; exact fun F' H' v a b c => hk d ρ1 F' H' v a b c (postS.mono a h)
  | some (.ex C fs, ρ1) => rw [e] at h; exact fun F' H' cls dd a b c => h F' H' σ cls dd a b c
theorem LW.bindS {f : FW} {k : Wt → FS} {D : Ends} {R : VK} (r : Rel K P F H σ ρ) (h : postS K P Wx F D (bindWS f k ρ))
    (hk : ∀ w ρ1 F1 H1 v, Same F F1 → Rel K P F1 H1 σ ρ1 → ResW K P F1 H1 σ ρ1 v w → postS K P Wx F1 D (k w ρ1) → R v H1) : LW K P Wx f σ H R := by
  refine ⟨F, ρ, r, ?_⟩
  unfold bindWS at h
  match e : f ρ with
  | none => rw [e] at h; exact h.elim
  | some (.ok d, ρ1) => rw [e] at h; exact fun F' H' v a b c => hk d ρ1 F' H' v a b c (postS.mono a h)
  | some (.ex C fs, ρ1) => rw [e] at h; exact fun F' H' cls dd a b c => h F' H' σ cls dd a b c
theorem LA.bindW {f : FA} {k : List Av → FW} {Q : VK} {R : List V → Hp → Prop} (r : Rel K P F H σ ρ) (h : postW K P Wx σ F Q (bindAW f k ρ))
    (hk : ∀ as ρ1 F1 H1 vs, Same F F1 → Rel K P F1 H1 σ ρ1 → Avs K P F1 H1 σ ρ1 as vs → postW K P Wx σ F1 Q (k as ρ1) → R vs H1) : LA K P Wx f σ H R := by
  refine ⟨F, ρ, r, ?_⟩
  unfold bindAW at h
  match e : f ρ with
  | none => rw [e] at h; exact h.elim
  | some (.ok d, ρ1) => rw [e] at h; exact fun F' H' v a b c => hk d ρ1 F' H' v a b c (postW.mono a h)
  | some (.ex C fs, ρ1) => rw [e] at h; exact h
theorem LA.bindE {f : FA} {k : List Av → FE} {Q : VK} {R : List V → Hp → Prop} (r : Rel K P F H σ ρ) (h : postE K P Wx σ F Q (bindAE f k ρ))
    (hk : ∀ as ρ1 F1 H1 vs, Same F F1 → Rel K P F1 H1 σ ρ1 → Avs K P F1 H1 σ ρ1 as vs → postE K P Wx σ F1 Q (k as ρ1) → R vs H1) : LA K P Wx f σ H R := by
  refine ⟨F, ρ, r, ?_⟩
  unfold bindAE at h
  match e : f ρ with
  | none => rw [e] at h; exact h.elim
  | some (.ok d, ρ1) => rw [e] at h; exact fun F' H' v a b c => hk d ρ1 F' H' v a b c (postE.mono a h)
  | some (.ex C fs, ρ1) => rw [e] at h; exact h
end
/-! ### expressions -/
def eC (d : Dt) : FE := fun ρ => some (.ok d, ρ)
/-- a value that an operation gives, or none -/
def eV (o : Option Dt) : FE := fun ρ => match o with | some d => some (.ok d, ρ) | none => none
def eVar (i : Nat) : FE := fun ρ => match ρ[i]? with
  | some (some (.sh d)) => some (.ok d, ρ)
  | some (some (.own xs)) => some (.ok (.lst xs), ρ.set i (some (.sh (.lst xs))))
  | _ => none
def wVar (i : Nat) : FW := fun ρ => match ρ[i]? with
  | some (some (.sh d)) => some (.ok (.sh d), ρ)
  | some (some (.own xs)) => some (.ok (.own xs), ρ.set i none)
  | _ => none
def wSh (f : FE) : FW := bindEW f fun d ρ => some (.ok (.sh d), ρ)
def eFrz (f : FW) : FE := fun ρ => match f ρ with
  | none => none
  | some (.ok (.sh d), ρ1) => some (.ok d, ρ1)
  | some (.ok (.own xs), ρ1) => some (.ok (.lst xs), ρ1)
  | some (.ex C fs, ρ1) => some (.ex C fs, ρ1)
def eOp (o : Dt → Dt → Option Dt) (fa fb : FE) : FE := bindE fa fun d => bindE fb fun e => eV (o d e)
def eUn (o : Dt → Option Dt) (fa : FE) : FE := bindE fa fun d => eV (o d)
def eIte (c a b : FE) : FE := bindE c fun d => match d with
  | .bl true => a
  | .bl false => b
  | _ => fun _ => none
def wIte (c : FE) (a b : FW) : FW := bindEW c fun d => match d with
  | .bl true => a
  | .bl false => b
  | _ => fun _ => none
def eAnd (a b : FE) : FE := eIte a b (eC (.bl false))
def eOr (a b : FE) : FE := eIte a (eC (.bl true)) b
def dNot : Dt → Option Dt
  | .bl b => some (.bl (!b))
  | _ => none
def eNot (a : FE) : FE := eUn dNot a
def OpD (K : PySem.W.Frag) (r : R2) (o : Dt → Dt → Option Dt) : Prop :=
  ∀ d e g, o d e = some g → ∀ (F H : Hp) (x y : V) (Q : VK), Same F H → Rp K F d x → Rp K F e y → (∀ F' H' z, Grow F H F' H' → Rp K F' g z → Q z H') → r x y H Q
def UnD (K : PySem.W.Frag) (r : V → Hp → VK → Prop) (o : Dt → Option Dt) : Prop :=
  ∀ d g, o d = some g → ∀ (F H : Hp) (x : V) (Q : VK), Same F H → Rp K F d x → (∀ F' H' z, Grow F H F' H' → Rp K F' g z → Q z H') → r x H Q
section
variable {X : Cx} {P : Pt} {Wx : WX} {pos : Pos} {a b c : Expr} {fa fb fc : FE}
theorem LE_c {d : Dt} {v : V} (hv : ∀ F : Hp, Rp X.K F d v) {σ : L2.St} {H : Hp} {Q : VK} (h : LE X.K P Wx (eC d) σ H Q) : Q v H := by
  obtain ⟨F, ρ, r, q⟩ := h
  exact q F H v (.refl _) r (hv F)
theorem d_int {i : Int} {j : Nat} : PE X (.Constant (.int i) j pos) (LE X.K P Wx (eC (.int i))) := PEm pe_int fun _ _ _ h => LE_c (fun _ => .int i) h
theorem d_bl {i : Bool} {j : Nat} : PE X (.Constant (.bool i) j pos) (LE X.K P Wx (eC (.bl i))) := PEm pe_bl fun _ _ _ h => LE_c (fun _ => .bl i) h
theorem d_str {i : Str} {j : Nat} : PE X (.Constant (.str i) j pos) (LE X.K P Wx (eC (.str i))) := PEm pe_str fun _ _ _ h => LE_c (fun _ => .str i) h
theorem d_non {j : Nat} : PE X (.Constant .none j pos) (LE X.K P Wx (eC .non)) := PEm pe_non fun _ _ _ h => LE_c (fun _ => .non) h
/-- a module's name -/
theorem d_glob {x : Str} {v : V} {u : Value} {d : Dt} (hg : Gl X x) (hm : X.mg x = some u) (r : RelV v u) (hv : ∀ F : Hp, Rp X.K F d v) (hd : (x == ("__debug__" : Str)) = false := by decide) : PE X (.Name x pos) (LE X.K P Wx (eC d)) := PEm (pe_glob hg hm r hd) fun _ _ _ h => LE_c hv h
theorem d_var (i : Nat) {x : Str} (hi : i ∉ P.bs) (hN : X.N[i]? = some x := by rfl) (hv : Vis X.env.scope x := by first | exact Or.inl rfl | exact Or.inr (Or.inl rfl) | exact Or.inr (Or.inr rfl)) (hd : (x == ("__debug__" : Str)) = false := by decide)
    (hcd : (x == ("__classdict__" : Str)) = false := by decide) : PE X (.Name x pos) (LE X.K P Wx (eVar i)) := PEm (pe_var hN hv hd hcd) fun σ H Q h => by
  obtain ⟨F, ρ, r, q⟩ := h
  unfold eVar at q
  match e : ρ[i]? with
  | none => rw [e] at q; exact q.elim
  | some none => rw [e] at q; exact q.elim
  | some (some (.sh d)) =>
    rw [e] at q
    obtain ⟨v, ev, hv⟩ := r.slot i _ e
    exact ⟨v, ev, q F H v (.refl _) r hv⟩
  | some (some (.own xs)) =>
    rw [e] at q
    obtain ⟨v, ev, r1, rw⟩ := r.out hi e
    obtain ⟨F1, s1, r2, rp⟩ := rw.freeze r1
    refine ⟨v, ev, q F1 H v s1 ?_ rp⟩
    have hl : i < ρ.length := (List.getElem?_eq_some_iff.mp e).1
    have r3 := Rel.asg (i := i) (v := v) (w := .sh (.lst xs)) r2 hi rp
    have e1 : σ.set i (some v) = σ := by
      apply List.ext_getElem?
      intro k
      by_cases hk : i = k
      · subst hk
        rw [List.getElem?_set_self (by rw [← r.len]; exact hl), ev]
      · rw [List.getElem?_set_ne hk]
    rw [e1, List.set_set] at r3
    exact r3
theorem w_var (i : Nat) {x : Str} (hi : i ∉ P.bs) (hN : X.N[i]? = some x := by rfl) (hv : Vis X.env.scope x := by first | exact Or.inl rfl | exact Or.inr (Or.inl rfl) | exact Or.inr (Or.inr rfl)) (hd : (x == ("__debug__" : Str)) = false := by decide)
    (hcd : (x == ("__classdict__" : Str)) = false := by decide) : PE X (.Name x pos) (LW X.K P Wx (wVar i)) := PEm (pe_var hN hv hd hcd) fun σ H Q h => by
  obtain ⟨F, ρ, r, q⟩ := h
  unfold wVar at q
  match e : ρ[i]? with
  | none => rw [e] at q; exact q.elim
  | some none => rw [e] at q; exact q.elim
  | some (some (.sh d)) =>
    rw [e] at q
    obtain ⟨v, ev, hv⟩ := r.slot i _ e
    exact ⟨v, ev, q F H v (.refl _) r hv⟩
  | some (some (.own xs)) =>
    rw [e] at q
    obtain ⟨v, ev, r1, rw⟩ := r.out hi e
    exact ⟨v, ev, q F H v (.refl _) r1 rw⟩
theorem w_sh (ha : PE X a (LE X.K P Wx fa)) : PE X a (LW X.K P Wx (wSh fa)) := PEm ha fun σ H Q h => by
  obtain ⟨F, ρ, r, q⟩ := h
  exact LE.bindW r q fun d ρ1 F1 H1 v s1 r1 p1 q1 => q1 F1 H1 v (.refl _) r1 p1
theorem d_frz {f : FW} (ha : PE X a (LW X.K P Wx f)) : PE X a (LE X.K P Wx (eFrz f)) := PEm ha fun σ H Q h => by
  obtain ⟨F, ρ, r, q⟩ := h
  refine ⟨F, ρ, r, ?_⟩
  unfold eFrz at q
  match e : f ρ with
  | none => rw [e] at q; exact q.elim
  | some (.ok (.sh d), ρ1) => rw [e] at q; exact q
  | some (.ok (.own xs), ρ1) =>
    rw [e] at q
    intro F1 H1 v s1 r1 p1
    obtain ⟨F2, s2, r2, rp⟩ := p1.freeze r1
    exact q F2 H1 v (s1.trans s2) r2 rp
  | some (.ex C fs, ρ1) => rw [e] at q; exact q
theorem LE_op {r : R2} {o : Dt → Dt → Option Dt} (hr : OpD X.K r o) {σ : L2.St} {H : Hp} {Q : VK} (h : LE X.K P Wx (eOp o fa fb) σ H Q) : tOp r (LE X.K P Wx fa) (LE X.K P Wx fb) σ H Q := by
  obtain ⟨F, ρ, rr, q⟩ := h
  refine LE.bind rr q fun d ρ1 F1 H1 x s1 r1 p1 q1 => ?_
  refine LE.bind r1 q1 fun e ρ2 F2 H2 y s2 r2 p2 q2 => ?_
  cases eo : o d e with
  | none => rw [eo] at q2; exact q2.elim
  | some g =>
    rw [eo] at q2
    exact hr d e g eo F2 H2 x y Q r2.fh (p1.mono s2) p2 fun F' H' z g' pz => q2 F' H' z g'.f (r2.grow g') pz
theorem d_op {op : Operator} {r : R2} {o : Dt → Dt → Option Dt} (ho : OpR X (binaryOp op) r) (hr : OpD X.K r o) (ha : PE X a (LE X.K P Wx fa)) (hb : PE X b (LE X.K P Wx fb)) : PE X (.BinOp a op b pos) (LE X.K P Wx (eOp o fa fb)) :=
  PEm (pe_op ho ha hb) fun _ _ _ h => LE_op hr h
theorem d_ix {r : R2} {o : Dt → Dt → Option Dt} (ho : IxR X r) (hr : OpD X.K r o) (ha : PE X a (LE X.K P Wx fa)) (hb : PE X b (LE X.K P Wx fb)) (hs : PlainIx b) : PE X (.Subscript a b pos) (LE X.K P Wx (eOp o fa fb)) :=
  PEm (pe_ix ho ha hb hs) fun _ _ _ h => LE_op hr h
theorem d_cmp {op : CmpOp} {r : R2} {o : Dt → Dt → Option Dt} (ho : OpR X (compareOp op) r) (hr : OpD X.K r o) (ha : PE X a (LE X.K P Wx fa)) (hb : PE X b (LE X.K P Wx fb)) (hm : behindInMarks op b = false) : PE X (.Compare a [op] [b] pos) (LE X.K P Wx (eOp o fa fb)) :=
  PEm (pe_cmpR ho ha hb hm) fun _ _ _ h => LE_op hr h
theorem LE_un {r : V → Hp → VK → Prop} {o : Dt → Option Dt} (hr : UnD X.K r o) {σ : L2.St} {H : Hp} {Q : VK} (h : LE X.K P Wx (eUn o fa) σ H Q) : tUn r (LE X.K P Wx fa) σ H Q := by
  obtain ⟨F, ρ, rr, q⟩ := h
  refine LE.bind rr q fun d ρ1 F1 H1 x s1 r1 p1 q1 => ?_
  cases eo : o d with
  | none => rw [eo] at q1; exact q1.elim
  | some g =>
    rw [eo] at q1
    exact hr d g eo F1 H1 x Q r1.fh p1 fun F' H' z g' pz => q1 F' H' z g'.f (r1.grow g') pz
theorem d_un {op : UnaryOp} {r : V → Hp → VK → Prop} {o : Dt → Option Dt} (ho : UnR X (unaryOp op) r) (hr : UnD X.K r o) (ha : PE X a (LE X.K P Wx fa)) : PE X (.UnaryOp op a pos) (LE X.K P Wx (eUn o fa)) :=
  PEm (pe_un ho ha) fun _ _ _ h => LE_un hr h
/-! tests -/
theorem t_val (ha : PE X a (LE X.K P Wx fa)) (he : ∀ whole, isTrue a X.env whole = (do let v ← whole; standAt a.pos; holding [v] (truthy v)) := by intro _; rfl) : PT X a (LT X.K P Wx fa) := pt_val ha he
theorem t_cmp {op : CmpOp} {r : R2} {o : Dt → Dt → Option Dt} (ho : OpR X (compareOp op) r) (hr : OpD X.K r o) (ha : PE X a (LE X.K P Wx fa)) (hb : PE X b (LE X.K P Wx fb)) (hm : behindInMarks op b = false) : PT X (.Compare a [op] [b] pos) (LT X.K P Wx (eOp o fa fb)) :=
  PTm (pt_cmpR ho ha hb hm) fun _ _ _ h => LE_op hr h
/-- a test's two ways -/
theorem LT.ite {fd : FE} {k1 k2 : FE} {σ : L2.St} {H : Hp} {Q : VK} {R : Bool → Hp → Prop} {F : Hp} {ρ : Rho} (r : Rel X.K P F H σ ρ) (h : postE X.K P Wx σ F Q (eIte fd k1 k2 ρ))
    (hk : ∀ c ρ1 F1 H1, Same F F1 → Rel X.K P F1 H1 σ ρ1 → postE X.K P Wx σ F1 Q ((if c = true then k1 else k2) ρ1) → R c H1) : LT X.K P Wx fd σ H R := by
  refine LE.bind r h fun d ρ1 F1 H1 v s1 r1 p1 q1 => ?_
  cases p1 with
  | bl c =>
    refine ⟨c, rfl, hk c ρ1 F1 H1 s1 r1 ?_⟩
    cases c <;> exact q1
  | _ => exact q1.elim
theorem t_and (ha : PT X a (LT X.K P Wx fa)) {rest : List Expr} (hb : PW X (.BoolOp .And (b :: rest) pos) (LT X.K P Wx fb)) : PW X (.BoolOp .And (a :: b :: rest) pos) (LT X.K P Wx (eAnd fa fb)) :=
  PWm (pw_and ha hb) fun σ H Q h => by
    obtain ⟨F, ρ, r, q⟩ := h
    refine LT.ite r q fun c ρ1 F1 H1 s1 r1 q1 => ?_
    cases c with
    | true => exact ⟨F1, ρ1, r1, q1⟩
    | false =>
      obtain ⟨k, e1, e2⟩ := q1 F1 H1 (.bl false) (.refl _) r1 (.bl false)
      cases e1
      exact e2
theorem t_or (ha : PT X a (LT X.K P Wx fa)) {rest : List Expr} (hb : PW X (.BoolOp .Or (b :: rest) pos) (LT X.K P Wx fb)) : PW X (.BoolOp .Or (a :: b :: rest) pos) (LT X.K P Wx (eOr fa fb)) :=
  PWm (pw_or ha hb) fun σ H Q h => by
    obtain ⟨F, ρ, r, q⟩ := h
    refine LT.ite r q fun c ρ1 F1 H1 s1 r1 q1 => ?_
    cases c with
    | false => exact ⟨F1, ρ1, r1, q1⟩
    | true =>
      obtain ⟨k, e1, e2⟩ := q1 F1 H1 (.bl true) (.refl _) r1 (.bl true)
      cases e1
      exact e2
theorem t_not (ha : PT X a (LT X.K P Wx fa)) : PT X (.UnaryOp .Not a pos) (LT X.K P Wx (eNot fa)) :=
  PTm (pt_not ha) fun σ H Q h => by
    obtain ⟨F, ρ, r, q⟩ := h
    refine LE.bind r q fun d ρ1 F1 H1 v s1 r1 p1 q1 => ?_
    cases p1 with
    | bl c =>
      obtain ⟨k, e1, e2⟩ := q1 F1 H1 (.bl (!c)) (.refl _) r1 (.bl (!c))
      cases e1
      exact ⟨c, rfl, e2⟩
    | _ => exact q1.elim
theorem d_not (ha : PE X a (LE X.K P Wx fa)) : PE X (.UnaryOp .Not a pos) (LE X.K P Wx (eNot fa)) :=
  PEm (pe_not ha) fun σ H Q h => by
    obtain ⟨F, ρ, r, q⟩ := h
    refine LE.bind r q fun d ρ1 F1 H1 v s1 r1 p1 q1 => ?_
    cases p1 with
    | bl c => exact ⟨c, rfl, q1 F1 H1 (.bl (!c)) (.refl _) r1 (.bl (!c))⟩
    | _ => exact q1.elim
theorem d_and (ha : PE X a (LE X.K P Wx fa)) {rest : List Expr} (hb : PE X (.BoolOp .And (b :: rest) pos) (LE X.K P Wx fb)) : PE X (.BoolOp .And (a :: b :: rest) pos) (LE X.K P Wx (eAnd fa fb)) :=
  PEm (pe_and ha hb) fun σ H Q h => by
    obtain ⟨F, ρ, r, q⟩ := h
    refine LT.ite r q fun c ρ1 F1 H1 s1 r1 q1 => ?_
    cases c with
    | true => exact ⟨F1, ρ1, r1, q1⟩
    | false => exact q1 F1 H1 (.bl false) (.refl _) r1 (.bl false)
theorem d_or (ha : PE X a (LE X.K P Wx fa)) {rest : List Expr} (hb : PE X (.BoolOp .Or (b :: rest) pos) (LE X.K P Wx fb)) : PE X (.BoolOp .Or (a :: b :: rest) pos) (LE X.K P Wx (eOr fa fb)) :=
  PEm (pe_or ha hb) fun σ H Q h => by
    obtain ⟨F, ρ, r, q⟩ := h
    refine LT.ite r q fun c ρ1 F1 H1 s1 r1 q1 => ?_
    cases c with
    | false => exact ⟨F1, ρ1, r1, q1⟩
    | true => exact q1 F1 H1 (.bl true) (.refl _) r1 (.bl true)
theorem d_one {op : BoolOp} (ha : PE X a (LE X.K P Wx fa)) : PE X (.BoolOp op [a] pos) (LE X.K P Wx fa) := pe_one ha
theorem d_ite (hc : PT X c (LT X.K P Wx fc)) (ha : PE X a (LE X.K P Wx fa)) (hb : PE X b (LE X.K P Wx fb)) : PE X (.IfExp c a b pos) (LE X.K P Wx (eIte fc fa fb)) :=
  PEm (pe_ifExp hc ha hb) fun σ H Q h => by
    obtain ⟨F, ρ, r, q⟩ := h
    refine LT.ite r q fun c ρ1 F1 H1 s1 r1 q1 => ?_
    cases c with
    | false => exact ⟨F1, ρ1, r1, q1⟩
    | true => exact ⟨F1, ρ1, r1, q1⟩
theorem w_ite {wa wb : FW} (hc : PT X c (LT X.K P Wx fc)) (ha : PE X a (LW X.K P Wx wa)) (hb : PE X b (LW X.K P Wx wb)) : PE X (.IfExp c a b pos) (LW X.K P Wx (wIte fc wa wb)) :=
  PEm (pe_ifExp hc ha hb) fun σ H Q h => by
    obtain ⟨F, ρ, r, q⟩ := h
    refine LE.bindW r q fun d ρ1 F1 H1 v s1 r1 p1 q1 => ?_
    cases p1 with
    | bl c =>
      refine ⟨c, rfl, ?_⟩
      cases c with
      | false => exact ⟨F1, ρ1, r1, q1⟩
      | true => exact ⟨F1, ρ1, r1, q1⟩
    | _ => exact q1.elim
/-! chains -/
def eChain (o o' : Dt → Dt → Option Dt) (fa fb fc : FE) : FE := bindE fa fun d => bindE fb fun e => bindE (eV (o d e)) fun g => match g with
  | .bl true => bindE fc fun f => eV (o' e f)
  | .bl false => eC (.bl false)
  | _ => fun _ => none
end
end DL
namespace DL
open PySem PySem.Spec PyProof.Rows L2
section
variable {X : Cx} {P : Pt} {Wx : WX} {pos : Pos} {a b c : Expr} {fa fb fc : FE}
theorem LE_chain {r r' : R2} {o o' : Dt → Dt → Option Dt} (hr : OpD X.K r o) (hr' : OpD X.K r' o') {σ : L2.St} {H : Hp} {Q : VK} (h : LE X.K P Wx (eChain o o' fa fb fc) σ H Q) : tChain r r' (LE X.K P Wx fa) (LE X.K P Wx fb) (LE X.K P Wx fc) σ H Q := by
  obtain ⟨F, ρ, rr, q⟩ := h
  refine LE.bind rr q fun d ρ1 F1 H1 x s1 r1 p1 q1 => ?_
  refine LE.bind r1 q1 fun e ρ2 F2 H2 y s2 r2 p2 q2 => ?_
  cases eo : o d e with
  | none => rw [eo] at q2; exact q2.elim
  | some g =>
    rw [eo] at q2
    refine hr d e g eo F2 H2 x y _ r2.fh (p1.mono s2) p2 fun F3 H3 z g3 pz => ?_
    have r3 := r2.grow g3
    cases pz with
    | bl k =>
      refine ⟨k, rfl, ?_⟩
      cases k with
      | false => exact q2 F3 H3 (.bl false) g3.f r3 (.bl false)
      | true =>
        refine LE.bind r3 (postE.mono g3.f q2) fun f ρ4 F4 H4 w s4 r4 p4 q4 => ?_
        cases eo' : o' e f with
        | none => rw [eo'] at q4; exact q4.elim
        | some g' =>
          rw [eo'] at q4
          exact hr' e f g' eo' F4 H4 y w Q r4.fh (p2.mono (g3.f.trans s4)) p4 fun F' H' z g'' pz => q4 F' H' z g''.f (r4.grow g'') pz
    | _ => exact q2.elim
theorem d_chain {op op' : CmpOp} {r r' : R2} {o o' : Dt → Dt → Option Dt} (ho : OpR X (compareOp op) r) (hr : OpD X.K r o) (ho' : OpR X (compareOp op') r') (hr' : OpD X.K r' o') (ha : PE X a (LE X.K P Wx fa)) (hb : PE X b (LE X.K P Wx fb)) (hc : PE X c (LE X.K P Wx fc))
    (hm : lastMarks [op, op'] [b, c] = false := by with_unfolding_all rfl) : PE X (.Compare a [op, op'] [b, c] pos) (LE X.K P Wx (eChain o o' fa fb fc)) :=
  PEm (pe_chain ho ho' ha hb hc hm) fun _ _ _ h => LE_chain hr hr' h
theorem t_chain {op op' : CmpOp} {r r' : R2} {o o' : Dt → Dt → Option Dt} (ho : OpR X (compareOp op) r) (hr : OpD X.K r o) (ho' : OpR X (compareOp op') r') (hr' : OpD X.K r' o') (ha : PE X a (LE X.K P Wx fa)) (hb : PE X b (LE X.K P Wx fb)) (hc : PE X c (LE X.K P Wx fc))
    (hm : lastMarks [op, op'] [b, c] = false := by with_unfolding_all rfl) : PT X (.Compare a [op, op'] [b, c] pos) (LT X.K P Wx (eChain o o' fa fb fc)) :=
  PTm (pt_chain ho ho' ha hb hc hm) fun _ _ _ h => LE_chain hr hr' h
end
/-! ### arguments -/
def aNil : FA := fun ρ => some (.ok [], ρ)
def aVal (f : FE) (r : FA) : FA := bindEA f fun d ρ => match r ρ with
  | none => none
  | some (.ok as, ρ1) => some (.ok (.val d :: as), ρ1)
  | some (.ex C fs, ρ1) => some (.ex C fs, ρ1)
def aSlot (j : Nat) (r : FA) : FA := fun ρ => match ρ[j]? with
  | some (some (.own _)) => (match r ρ with
    | none => none
    | some (.ok as, ρ1) => some (.ok (.slot j :: as), ρ1)
    | some (.ex C fs, ρ1) => some (.ex C fs, ρ1))
  | _ => none
/-- a list of its own, the last argument -/
def aTmp (f : FW) : FA := fun ρ => match f ρ with
  | none => none
  | some (.ok (.own xs), ρ1) => some (.ok [.tmp xs], ρ1)
  | some (.ok (.sh d), ρ1) => some (.ok [.val d], ρ1)
  | some (.ex C fs, ρ1) => some (.ex C fs, ρ1)
def vals : List Av → Option (List Dt)
  | [] => some []
  | .val d :: as => match vals as with
    | some ds => some (d :: ds)
    | none => none
  | .slot _ :: _ => none
  | .tmp _ :: _ => none
theorem vals_ok {K : PySem.W.Frag} {P : Pt} {F H : Hp} {σ : L2.St} {ρ : Rho} : ∀ {as : List Av} {vs : List V} {ds : List Dt}, Avs K P F H σ ρ as vs → vals as = some ds → Rps K F ds vs
  | _, _, _, .nil, e => by cases e; exact .nil
  | _, _, ds, .val h r, e => by
    unfold vals at e
    cases q : vals _ with
    | none => rw [q] at e; cases e
    | some es => rw [q] at e; cases e; exact .cons h (vals_ok r q)
  | _, _, _, .slot _ _, e => by cases e
  | _, _, _, .tmp _, e => by cases e
section
variable {X : Cx} {P : Pt} {Wx : WX} {pos : Pos} {e : Expr} {es : List Expr} {f : FE} {r : FA}
theorem a_nil : PA X [] (LA X.K P Wx aNil) := PAm pa_nil fun σ H Q h => by
  obtain ⟨F, ρ, r, q⟩ := h
  exact q F H [] (.refl _) r .nil
theorem a_val (he : PE X e (LE X.K P Wx f)) (hr : PA X es (LA X.K P Wx r)) (hs : starEach (e :: es) X.env = (false, eval e X.env) :: starEach es X.env := by rfl) : PA X (e :: es) (LA X.K P Wx (aVal f r)) :=
  PAm (pa_cons he hr hs) fun σ H Q h => by
    obtain ⟨F, ρ, rr, q⟩ := h
    refine LE.bindA rr q fun d ρ1 F1 H1 v s1 r1 p1 q1 => ⟨F1, ρ1, r1, ?_⟩
    match e : r ρ1 with
    | none => simp only [e] at q1; exact q1.elim
    | some (.ok as, ρ2) =>
      simp only [e] at q1
      exact fun F2 H2 vs s2 r2 p2 => q1 F2 H2 (v :: vs) s2 r2 (.val (p1.mono s2) p2)
    | some (.ex C fs, ρ2) => simp only [e] at q1; exact q1
theorem a_slot (j : Nat) {x : Str} (hr : PA X es (LA X.K P Wx r)) (hN : X.N[j]? = some x := by rfl) (hv : Vis X.env.scope x := by first | exact Or.inl rfl | exact Or.inr (Or.inl rfl) | exact Or.inr (Or.inr rfl)) (hd : (x == ("__debug__" : Str)) = false := by decide)
    (hcd : (x == ("__classdict__" : Str)) = false := by decide) (hs : starEach (.Name x pos :: es) X.env = (false, eval (.Name x pos) X.env) :: starEach es X.env := by rfl) : PA X (.Name x pos :: es) (LA X.K P Wx (aSlot j r)) :=
  PAm (pa_cons (pe_var hN hv hd hcd) hr hs) fun σ H Q h => by
    obtain ⟨F, ρ, rr, q⟩ := h
    unfold aSlot at q
    match e : ρ[j]? with
    | none => simp only [e] at q; exact q.elim
    | some none => simp only [e] at q; exact q.elim
    | some (some (.sh d)) => simp only [e] at q; exact q.elim
    | some (some (.own xs)) =>
      simp only [e] at q
      obtain ⟨v, ev, _⟩ := rr.slot j _ e
      refine ⟨v, ev, F, ρ, rr, ?_⟩
      match e2 : r ρ with
      | none => simp only [e2] at q; exact q.elim
      | some (.ok as, ρ2) =>
        simp only [e2] at q
        exact fun F2 H2 vs s2 r2 p2 => q F2 H2 (v :: vs) s2 r2 (.slot ev p2)
      | some (.ex C fs, ρ2) => simp only [e2] at q; exact q
theorem a_tmp {f : FW} (he : PE X e (LW X.K P Wx f)) (hs : starEach [e] X.env = [(false, eval e X.env)] := by rfl) : PA X [e] (LA X.K P Wx (aTmp f)) :=
  PAm (pa_cons he pa_nil (by rw [hs]; rfl)) fun σ H Q h => by
    obtain ⟨F, ρ, rr, q⟩ := h
    refine ⟨F, ρ, rr, ?_⟩
    unfold aTmp at q
    match e : f ρ with
    | none => simp only [e] at q; exact q.elim
    | some (.ok (.own xs), ρ1) => simp only [e] at q; exact fun F1 H1 v s1 r1 p1 => q F1 H1 [v] s1 r1 (.tmp p1)
    | some (.ok (.sh d), ρ1) => simp only [e] at q; exact fun F1 H1 v s1 r1 p1 => q F1 H1 [v] s1 r1 (.val p1 .nil)
    | some (.ex C fs, ρ1) => simp only [e] at q; exact q
end
theorem sz1000 {n : Nat} (h : n ≤ 100000) : n ≤ sizeLine := Nat.le_trans h (by decide)
theorem sz1000' {n : Nat} (h : n < 100000) : n < sizeLine := Nat.lt_of_lt_of_le h (by decide)
def eTup (f : FA) : FE := bindAE f fun as => match vals as with
  | some ds => if ds.length ≤ 100000 then eC (.tup ds) else fun _ => none
  | none => fun _ => none
def wLst (f : FA) : FW := bindAW f fun as ρ => match vals as with
  | some ds => if ds.length ≤ 100000 then some (.ok (.own ds), ρ) else none
  | none => none
section
variable {X : Cx} {P : Pt} {Wx : WX} {pos : Pos} {es : List Expr} {f : FA}
theorem d_tup {x1 : Nat} (h : PA X es (LA X.K P Wx f)) : PE X (.Tuple es x1 pos) (LE X.K P Wx (eTup f)) := PEm (pe_tup h) fun σ H Q h => by
  obtain ⟨F, ρ, r, q⟩ := h
  refine LA.bindE r q fun as ρ1 F1 H1 vs s1 r1 p1 q1 => ?_
  cases e : vals as with
  | none => simp only [e] at q1; exact q1.elim
  | some ds =>
    simp only [e] at q1
    have hr := vals_ok p1 e
    by_cases hl : ds.length ≤ 100000
    · rw [if_pos hl] at q1
      refine ⟨by rw [← hr.length]; exact sz1000 hl, fun p np => ?_⟩
      have g := Grow.lay (o := .tup vs) r1.fh np
      exact q1 _ _ (.ref p) g.f (r1.grow g) (.tup (.inl (.inl upd_same)) (hr.mono g.f))
    · rw [if_neg hl] at q1; exact q1.elim
theorem w_lst (h : PA X es (LA X.K P Wx f)) : PE X (.List es pos) (LW X.K P Wx (wLst f)) := PEm (pe_lst h) fun σ H Q h => by
  obtain ⟨F, ρ, r, q⟩ := h
  refine LA.bindW r q fun as ρ1 F1 H1 vs s1 r1 p1 q1 => ?_
  cases e : vals as with
  | none => simp only [e] at q1; exact q1.elim
  | some ds =>
    simp only [e] at q1
    have hr := vals_ok p1 e
    by_cases hl : ds.length ≤ 100000
    · rw [if_pos hl] at q1
      refine ⟨by rw [← hr.length]; exact sz1000 hl, fun p np => ?_⟩
      have g := Grow.laid (o := .lst vs) r1.fh np
      refine q1 _ _ (.ref p) g.f (r1.grow g) ⟨p, vs, rfl, free_of r1.fh np, upd_same, hr, r1.fresh np, fun i ys hi hs => ?_⟩
      obtain ⟨v, ev, sw⟩ := r1.slot i _ hi
      rw [hs] at ev
      cases ev
      obtain ⟨p', vs', e0, _, e2, _⟩ := sw
      cases e0
      rw [np] at e2
      cases e2
    · rw [if_neg hl] at q1; exact q1.elim
end
/-! ### builtins and methods by values -/
def CallD (K : PySem.W.Frag) (r : List V → Hp → VK → Prop) (o : List Dt → Option Dt) : Prop :=
  ∀ ds g, o ds = some g → ∀ (F H : Hp) (vs : List V) (Q : VK), Same F H → Rps K F ds vs → (∀ F' H' z, Grow F H F' H' → Rp K F' g z → Q z H') → r vs H Q
def eCB (o : List Dt → Option Dt) (f : FA) : FE := bindAE f fun as => match vals as with
  | some ds => eV (o ds)
  | none => fun _ => none
def MtD (K : PySem.W.Frag) (T : String) (r : V → List V → Hp → VK → Prop) (o : Dt → List Dt → Option Dt) : Prop :=
  ∀ d ds g, o d ds = some g → ∀ (F H : Hp) (x : V) (vs : List V) (Q : VK), Same F H → Rp K F d x → Rps K F ds vs → (∀ F' H' z, Grow F H F' H' → Rp K F' g z → Q z H') → r x vs H Q
def TyD (K : PySem.W.Frag) (T : String) (t : Dt → Bool) : Prop := ∀ d, t d = true → ∀ (F H : Hp) (x : V), Same F H → Rp K F d x → tyV K T x H
def eBM (t : Dt → Bool) (o : Dt → List Dt → Option Dt) (fo : FE) (f : FA) : FE := bindE fo fun d => if t d = true then bindAE f fun as => (match vals as with
  | some ds => eV (o d ds)
  | none => fun _ => none) else fun _ => none
section
variable {X : Cx} {P : Pt} {Wx : WX} {pos : Pos} {es : List Expr} {e : Expr} {f : FA}
theorem LA_cb {r : List V → Hp → VK → Prop} {o : List Dt → Option Dt} (hr : CallD X.K r o) {σ : L2.St} {H : Hp} {Q : VK} (h : LE X.K P Wx (eCB o f) σ H Q) : tCB r (LA X.K P Wx f) σ H Q := by
  obtain ⟨F, ρ, rr, q⟩ := h
  refine LA.bindE rr q fun as ρ1 F1 H1 vs s1 r1 p1 q1 => ?_
  cases e : vals as with
  | none => simp only [e] at q1; exact q1.elim
  | some ds =>
    simp only [e] at q1
    cases eo : o ds with
    | none => rw [eo] at q1; exact q1.elim
    | some g =>
      rw [eo] at q1
      exact hr ds g eo F1 H1 vs Q r1.fh (vals_ok p1 e) fun F' H' z g' pz => q1 F' H' z g'.f (r1.grow g') pz
theorem d_cb {x : Str} {id : String} {p : Pos} {r : List V → Hp → VK → Prop} {o : List Dt → Option Dt} (hr : CallD X.K r o) (hc : CallR X (.builtin id) r) (hg : Gl X x) (hm : X.mg x = none) (hv : bootBuiltins x = some (.builtin id)) (ha : PA X (e :: es) (LA X.K P Wx f))
    (hn : x ≠ "__name__" := by decide) (hdb : (x == ("__debug__" : Str)) = false := by decide) (he : starEach (e :: es) X.env = (false, eval e X.env) :: starEach es X.env := by rfl) (hpl : (backTo pos (starEach es X.env)).any (·.1) = false := by rfl) :
    PE X (.Call (.Name x p) (e :: es) [] pos) (LE X.K P Wx (eCB o f)) := PEm (pe_callB hc hg hm hv ha hn hdb he hpl) fun _ _ _ h => LA_cb hr h
theorem d_cty {x : Str} {T : String} {p : Pos} {r : List V → Hp → VK → Prop} {o : List Dt → Option Dt} (hr : CallD X.K r o) (hc : CallR X (.type T) r) (hg : Gl X x) (hm : X.mg x = none) (hv : bootBuiltins x = some (.type T)) (ha : PA X (e :: es) (LA X.K P Wx f))
    (hn : x ≠ "__name__" := by decide) (hdb : (x == ("__debug__" : Str)) = false := by decide) (he : starEach (e :: es) X.env = (false, eval e X.env) :: starEach es X.env := by rfl) (hpl : (backTo pos (starEach es X.env)).any (·.1) = false := by rfl) :
    PE X (.Call (.Name x p) (e :: es) [] pos) (LE X.K P Wx (eCB o f)) := PEm (pe_callTy hc hg hm hv ha hn hdb he hpl) fun _ _ _ h => LA_cb hr h
end
/-! ### statements -/
def sNx : FS := fun ρ => some (.nx, ρ)
def sSeq (f g : FS) : FS := fun ρ => match f ρ with
  | none => none
  | some (.nx, ρ1) => g ρ1
  | some (.bk, ρ1) => some (.bk, ρ1)
  | some (.ct, ρ1) => some (.ct, ρ1)
  | some (.rt w, ρ1) => some (.rt w, ρ1)
  | some (.ex C fs, ρ1) => some (.ex C fs, ρ1)
def sIf (c : FE) (f g : FS) : FS := bindES c fun d => match d with
  | .bl true => f
  | .bl false => g
  | _ => fun _ => none
def sAsg (i : Nat) (f : FW) : FS := bindWS f fun w ρ => some (.nx, ρ.set i (some w))
def sRet (f : FW) : FS := bindWS f fun w ρ => some (.rt w, ρ)
def sRetN : FS := fun ρ => some (.rt (.sh .non), ρ)
def sDrop (f : FW) : FS := bindWS f fun _ ρ => some (.nx, ρ)
def sBk : FS := fun ρ => some (.bk, ρ)
def sCt : FS := fun ρ => some (.ct, ρ)
section
variable {X : Cx} {P : Pt} {Wx : WX} {pos : Pos} {e : Expr} {st : Stmt} {sts us : List Stmt} {f g : FS} {fe : FE} {fw : FW}
theorem s_nil : PSs X [] (LS X.K P Wx sNx) := PSsm pss_nil fun D σ H h => by
  obtain ⟨F, ρ, r, q⟩ := h
  exact q F H σ (.refl _) r
theorem s_pass : PS X (.Pass pos) (LS X.K P Wx sNx) := PSm ps_pass fun D σ H h => by
  obtain ⟨F, ρ, r, q⟩ := h
  exact q F H σ (.refl _) r
theorem s_bk : PS X (.Break pos) (LS X.K P Wx sBk) := PSm ps_break fun D σ H h => by
  obtain ⟨F, ρ, r, q⟩ := h
  exact q F H σ (.refl _) r
theorem s_ct : PS X (.Continue pos) (LS X.K P Wx sCt) := PSm ps_continue fun D σ H h => by
  obtain ⟨F, ρ, r, q⟩ := h
  exact q F H σ (.refl _) r
theorem s_cons (h1 : PS X st (LS X.K P Wx f)) (h2 : PSs X sts (LS X.K P Wx g)) : PSs X (st :: sts) (LS X.K P Wx (sSeq f g)) := PSsm (pss_cons h1 h2) fun D σ H h => by
  obtain ⟨F, ρ, r, q⟩ := h
  refine ⟨F, ρ, r, ?_⟩
  unfold sSeq at q
  match e : f ρ with
  | none => simp only [e] at q; exact q.elim
  | some (.nx, ρ1) => simp only [e] at q; exact fun F1 H1 σ1 s1 r1 => ⟨F1, ρ1, r1, postS.mono s1 q⟩
  | some (.bk, ρ1) => simp only [e] at q; exact q
  | some (.ct, ρ1) => simp only [e] at q; exact q
  | some (.rt w, ρ1) => simp only [e] at q; exact q
  | some (.ex C fs, ρ1) => simp only [e] at q; exact q
theorem s_one (h1 : PS X st (LS X.K P Wx f)) : PSs X [st] (LS X.K P Wx f) := pss_one h1
theorem s_if {c : Expr} {fc : FE} (hc : PT X c (LT X.K P Wx fc)) (h1 : PSs X sts (LS X.K P Wx f)) (h2 : PSs X us (LS X.K P Wx g)) : PS X (.If c sts us pos) (LS X.K P Wx (sIf fc f g)) := PSm (ps_if hc h1 h2) fun D σ H h => by
  obtain ⟨F, ρ, r, q⟩ := h
  refine LE.bindS r q fun d ρ1 F1 H1 v s1 r1 p1 q1 => ?_
  cases p1 with
  | bl k =>
    refine ⟨k, rfl, ?_⟩
    cases k with
    | false => exact ⟨F1, ρ1, r1, q1⟩
    | true => exact ⟨F1, ρ1, r1, q1⟩
  | _ => exact q1.elim
theorem s_set (i : Nat) {x : Str} {pos' : Pos} (hi' : i ∉ P.bs) (he : PE X e (LW X.K P Wx fw)) (hN : X.N.Nodup) (hx : Loc X.env.scope x) (hi : X.N[i]? = some x := by rfl)
    (hs : swapsWith e (some (.Name x pos')) pos.line X.env = pure false := by rfl) (hf : X.fn x = true ∨ X.env.scope.names.lookup x = some .local := by first | exact .inl rfl | exact .inr rfl | assumption) :
    PS X (.Assign [.Name x pos'] e pos) (LS X.K P Wx (sAsg i fw)) := PSm (ps_set hN hi hx he hs hf) fun D σ H h => by
  obtain ⟨F, ρ, r, q⟩ := h
  refine LW.bindS r q fun w ρ1 F1 H1 v s1 r1 p1 q1 => ?_
  exact q1 F1 H1 _ (.refl _) (r1.asg hi' p1)
theorem s_ret (he : PE X e (LW X.K P Wx fw)) : PS X (.Return (some e) pos) (LS X.K P Wx (sRet fw)) := PSm (ps_ret he) fun D σ H h => by
  obtain ⟨F, ρ, r, q⟩ := h
  exact LW.bindS r q fun w ρ1 F1 H1 v s1 r1 p1 q1 => q1 F1 H1 σ v (.refl _) r1 p1
theorem s_retN : PS X (.Return none pos) (LS X.K P Wx sRetN) := PSm ps_retN fun D σ H h => by
  obtain ⟨F, ρ, r, q⟩ := h
  exact q F H σ .non (.refl _) r .non
theorem s_expr (he : PE X e (LW X.K P Wx fw)) (hs : swapsWith e none pos.line X.env = pure false := by rfl) : PS X (.Expr e pos) (LS X.K P Wx (sDrop fw)) := PSm (ps_expr he hs) fun D σ H h => by
  obtain ⟨F, ρ, r, q⟩ := h
  exact LW.bindS r q fun w ρ1 F1 H1 v s1 r1 p1 q1 => q1 F1 H1 σ (.refl _) r1
end
/-! own lists by slots -/
theorem Rel.own {K : PySem.W.Frag} {P : Pt} {F H : Hp} {σ : L2.St} {ρ : Rho} (r : Rel K P F H σ ρ) {j : Nat} {xs : List Dt} (h : ρ[j]? = some (some (.own xs))) : ∃ p vs, σ[j]? = some (some (.ref p)) ∧ F p = none ∧ H p = some (.lst vs) ∧ Rps K F xs vs := by
  obtain ⟨v, ev, p, vs, e0, e1, e2, e3, _⟩ := r.slot j _ h
  subst e0
  exact ⟨p, vs, ev, e1, e2, e3⟩
def ifOwn {α : Type} (j : Nat) (f : Rho → Option α) : Rho → Option α := fun ρ => match ρ[j]? with
  | some (some (.own _)) => f ρ
  | _ => none
theorem ifOwn_some {α : Type} {j : Nat} {f : Rho → Option α} {ρ : Rho} {p : Option α → Prop} (h : p (ifOwn j f ρ)) (hn : ¬ p none) : ∃ xs, ρ[j]? = some (some (.own xs)) ∧ p (f ρ) := by
  unfold ifOwn at h
  match e : ρ[j]? with
  | none => simp only [e] at h; exact (hn h).elim
  | some none => simp only [e] at h; exact (hn h).elim
  | some (some (.sh d)) => simp only [e] at h; exact (hn h).elim
  | some (some (.own xs)) => simp only [e] at h; exact ⟨xs, rfl, h⟩
/-- a change of an own list -/
def sMut (j : Nat) (g : List Dt → Option (List Dt)) : FS := fun ρ => match ρ[j]? with
  | some (some (.own xs)) => (match g xs with
    | some ys => some (.nx, ρ.set j (some (.own ys)))
    | none => none)
  | _ => none
theorem sMut_some {K : PySem.W.Frag} {P : Pt} {Wx : WX} {F : Hp} {D : Ends} {j : Nat} {g : List Dt → Option (List Dt)} {ρ : Rho} (h : postS K P Wx F D (sMut j g ρ)) : ∃ xs ys, ρ[j]? = some (some (.own xs)) ∧ g xs = some ys ∧ postS K P Wx F D (some (.nx, ρ.set j (some (.own ys)))) := by
  unfold sMut at h
  match e : ρ[j]? with
  | none => simp only [e] at h; exact h.elim
  | some none => simp only [e] at h; exact h.elim
  | some (some (.sh d)) => simp only [e] at h; exact h.elim
  | some (some (.own xs)) =>
    simp only [e] at h
    match e2 : g xs with
    | none => simp only [e2] at h; exact h.elim
    | some ys => simp only [e2] at h; exact ⟨xs, ys, rfl, e2, h⟩
def appX (d : Dt) (xs : List Dt) : Option (List Dt) := if xs.length < 100000 then some (xs ++ [d]) else none
def putX (k d : Dt) (xs : List Dt) : Option (List Dt) := match k with
  | .int i => (match ixN xs.length i with
    | some n => some (xs.set n d)
    | none => none)
  | _ => none
def sApp (j : Nat) (f : FE) : FS := ifOwn j (bindES f fun d => sMut j (appX d))
def sPut (j : Nat) (fi fe : FE) : FS := bindES fe fun d => ifOwn j (bindES fi fun k => sMut j (putX k d))
section
variable {X : Cx} {P : Pt} {Wx : WX} {pos pos' apos cpos : Pos} {e i : Expr} {fe fi : FE}
theorem s_app (j : Nat) {x : Str} (he : PE X e (LE X.K P Wx fe)) (hN : X.N[j]? = some x := by rfl) (hv : Vis X.env.scope x := by first | exact Or.inl rfl | exact Or.inr (Or.inl rfl) | exact Or.inr (Or.inr rfl)) (hd : (x == ("__debug__" : Str)) = false := by decide)
    (hcd : (x == ("__classdict__" : Str)) = false := by decide)
    (hbase : attributeBase (.Name x pos') "append" X.env (eval (.Name x pos') X.env) = eval (.Name x pos') X.env := by rfl)
    (hfew : ((backTo cpos (starEach (e :: []) X.env)).all (fun x => !x.1) && (backToKw cpos (keywordEach [] X.env)).all (fun x => x.1.isSome)
      && decide ((e :: []).length + ([] : List Keyword).length + (if ([] : List Keyword).isEmpty then 0 else 1) < 30)) = true := by rfl)
    (hline : (apos.endLine == cpos.line) = true := by rfl) (hs : starEach (e :: []) X.env = (false, eval e X.env) :: starEach [] X.env := by rfl) (hplain : (backTo cpos (starEach [] X.env)).any (·.1) = false := by rfl)
    (hsw : swapsWith (.Call (.Attribute (.Name x pos') "append" apos) [e] [] cpos) none pos.line X.env = pure false := by rfl) :
    PS X (.Expr (.Call (.Attribute (.Name x pos') "append" apos) [e] [] cpos) pos) (LS X.K P Wx (sApp j fe)) :=
  PSm (ps_expr (pe_bm PySem.F.plainAttrs_list PySem.F.slot_list_append PySem.F.type_list_append mt_append (pe_var hN hv hd hcd) (pa_cons he pa_nil hs) hbase hfew hline hs hplain) hsw) fun D σ H h => by
  obtain ⟨F, ρ, r, q⟩ := h
  obtain ⟨xs0, e0, q⟩ := ifOwn_some (p := postS X.K P Wx F D) q (fun z => z)
  obtain ⟨p, vs0, ev, _, e2, _⟩ := r.own e0
  refine ⟨.ref p, ev, .inl ⟨rfl, _, .inl (.inl e2)⟩, ?_⟩
  refine LE.bindS r q fun d ρ1 F1 H1 v s1 r1 p1 q1 => ?_
  obtain ⟨xs, ys, k1, k2, q1⟩ := sMut_some q1
  obtain ⟨p', vs, ev', e3, e4, e5⟩ := r1.own k1
  rw [ev] at ev'
  cases ev'
  unfold appX at k2
  by_cases hl : xs.length < 100000
  · rw [if_pos hl] at k2
    cases k2
    refine ⟨p, vs, v, rfl, rfl, e4, by rw [← e5.length]; exact sz1000' hl, ?_⟩
    exact q1 F1 _ σ (.refl _) (r1.write k1 ev (e5.append (.cons p1 .nil)))
  · rw [if_neg hl] at k2; cases k2
theorem s_put (j : Nat) {x : Str} (hi : PE X i (LE X.K P Wx fi)) (he : PE X e (LE X.K P Wx fe)) (hN : X.N[j]? = some x := by rfl) (hv : Vis X.env.scope x := by first | exact Or.inl rfl | exact Or.inr (Or.inl rfl) | exact Or.inr (Or.inr rfl)) (hd : (x == ("__debug__" : Str)) = false := by decide)
    (hcd : (x == ("__classdict__" : Str)) = false := by decide)
    (ha : ∀ v, assign (.Subscript (.Name x pos') i apos) X.env v = (do
      let ov ← holding [v] (eval (.Name x pos') X.env)
      let iv ← holding [v, ov] (eval i X.env)
      standAt apos
      holding [v, ov, iv] (setItem ov iv v)
      release [v, ov, iv] []) := by intro _; rfl)
    (hs : swapsWithSole [.Subscript (.Name x pos') i apos] e pos.line X.env = pure false := by rfl) (hw : swappedStores [.Subscript (.Name x pos') i apos] e X.env = pure none := by rfl)
    (h1 : (assignEach [.Subscript (.Name x pos') i apos] X.env).map (·.2) = [assign (.Subscript (.Name x pos') i apos) X.env] := by rfl) :
    PS X (.Assign [.Subscript (.Name x pos') i apos] e pos) (LS X.K P Wx (sPut j fi fe)) :=
  PSm (ps_asg he (pg_sub (pe_var hN hv hd hcd) hi set_list ha) hs hw h1) fun D σ H h => by
  obtain ⟨F, ρ, r, q⟩ := h
  refine LE.bindS r q fun d ρ1 F1 H1 v s1 r1 p1 q1 => ?_
  obtain ⟨xs0, e0, q1⟩ := ifOwn_some (p := postS X.K P Wx F1 D) q1 (fun z => z)
  obtain ⟨p, vs0, ev, _, e2, _⟩ := r1.own e0
  refine ⟨.ref p, ev, ?_⟩
  refine LE.bindS r1 q1 fun k ρ2 F2 H2 y s2 r2 p2 q2 => ?_
  obtain ⟨xs, ys, k1, k2, q2⟩ := sMut_some q2
  obtain ⟨p', vs, ev', e3, e4, e5⟩ := r2.own k1
  rw [ev] at ev'
  cases ev'
  cases p2 with
  | int i =>
    unfold putX at k2
    simp only [] at k2
    cases hx : ixN xs.length i with
    | none => rw [hx] at k2; cases k2
    | some n =>
      rw [hx] at k2
      cases k2
      refine ⟨p, vs, i, n, rfl, rfl, e4, by rw [← e5.length]; exact hx, ?_⟩
      exact q2 F2 _ σ (.refl _) (r2.write k1 ev (e5.set (p1.mono s2) n))
  | _ => cases k2
end
/-! pop, extend -/
def ePop (j : Nat) : FE := fun ρ => match ρ[j]? with
  | some (some (.own xs)) => (match xs[xs.length - 1]? with
    | some d => some (.ok d, ρ.set j (some (.own xs.dropLast)))
    | none => none)
  | _ => none
theorem Rps.dropLast {K : PySem.W.Frag} {F : Hp} : ∀ {ds : List Dt} {vs : List V}, Rps K F ds vs → Rps K F ds.dropLast vs.dropLast
  | _, _, .nil => .nil
  | _, _, .cons _ .nil => .nil
  | _, _, .cons h (.cons h2 r) => by
    have := Rps.dropLast (.cons h2 r)
    simpa using Rps.cons h this
def extX (d : Dt) (xs : List Dt) : Option (List Dt) := match d with
  | .lst ys => if xs.length + ys.length ≤ 100000 then some (xs ++ ys) else none
  | _ => none
def sExt (j : Nat) (f : FE) : FS := ifOwn j (bindES f fun d => sMut j (extX d))
/-- x[i], x a name -/
def dIx : Dt → Dt → Option Dt
  | .lst xs, .int i => atI xs i
  | .tup xs, .int i => atI xs i
  | .str z, .int i => if z.length ≤ 100000 then (atI z.cps.toList i).map fun c => .str ⟨#[c]⟩ else none
  | _, _ => none
def slotD : Option (Option Wt) → Option Dt
  | some (some (.sh d)) => some d
  | some (some (.own xs)) => some (.lst xs)
  | _ => none
def eIxV (j : Nat) (fi : FE) : FE := fun ρ => match slotD ρ[j]? with
  | none => none
  | some _ => bindE fi (fun k ρ1 => match slotD ρ1[j]? with
    | some d => eV (dIx d k) ρ1
    | none => none) ρ
theorem Rps.atI {K : PySem.W.Frag} {F : Hp} {ds : List Dt} {vs : List V} {i : Int} {d : Dt} (h : Rps K F ds vs) (e : atI ds i = some d) : ∃ v, atI vs i = some v ∧ Rp K F d v := by
  unfold L2.atI at e ⊢
  rw [← h.length]
  cases hj : ixN ds.length i with
  | none => rw [hj] at e; cases e
  | some j =>
    rw [hj] at e
    exact h.get e
section
variable {X : Cx} {P : Pt} {Wx : WX} {pos pos' apos cpos : Pos} {e i : Expr} {fe fi fa fb : FE}
theorem od_ix : OpD X.K (rIx X.K) dIx := by
  intro d e g h F H x y Q s hd he q
  cases hd with
  | lst hq hr =>
    cases he with
    | int i =>
      obtain ⟨v, e1, e2⟩ := hr.atI h
      exact .inl ⟨_, _, i, v, rfl, rfl, .inl (.inl (s _ _ hq)), e1, q F H v (Grow.refl s) e2⟩
    | _ => cases h
  | tup hq hr =>
    cases he with
    | int i =>
      obtain ⟨v, e1, e2⟩ := hr.atI h
      exact .inr (.inl ⟨_, _, i, v, rfl, rfl, same_sqT s hq, e1, q F H v (Grow.refl s) e2⟩)
    | _ => cases h
  | str z =>
    cases he with
    | int i =>
      unfold dIx at h
      simp only [] at h
      by_cases hl : z.length ≤ 100000
      · rw [if_pos hl] at h
        cases ha : atI z.cps.toList i with
        | none => rw [ha] at h; cases h
        | some c =>
          rw [ha] at h
          cases h
          exact .inr (.inr ⟨z, i, c, rfl, rfl, sz1000 hl, ha, q F H _ (Grow.refl s) (.str _)⟩)
      · rw [if_neg hl] at h; cases h
    | _ => cases h
  | _ => cases h
theorem d_sub (ha : PE X e (LE X.K P Wx fa)) (hb : PE X i (LE X.K P Wx fb)) (hs : PlainIx i := by exact fun _ _ => rfl) : PE X (.Subscript e i pos) (LE X.K P Wx (eOp dIx fa fb)) := d_ix ix_seq od_ix ha hb hs
theorem d_ixV (j : Nat) {x : Str} (hi : PE X i (LE X.K P Wx fi)) (hs : PlainIx i := by exact fun _ _ => rfl) (hN : X.N[j]? = some x := by rfl) (hv : Vis X.env.scope x := by first | exact Or.inl rfl | exact Or.inr (Or.inl rfl) | exact Or.inr (Or.inr rfl)) (hd : (x == ("__debug__" : Str)) = false := by decide)
    (hcd : (x == ("__classdict__" : Str)) = false := by decide) : PE X (.Subscript (.Name x pos') i pos) (LE X.K P Wx (eIxV j fi)) :=
  PEm (pe_ix ix_seq (pe_var hN hv hd hcd) hi hs) fun σ H Q h => by
  obtain ⟨F, ρ, r, q⟩ := h
  unfold eIxV at q
  have hsl : ∃ u, σ[j]? = some (some u) := by
    match e : ρ[j]? with
    | none => simp only [e, slotD] at q; exact q.elim
    | some none => simp only [e, slotD] at q; exact q.elim
    | some (some w) => obtain ⟨v, ev, _⟩ := r.slot j w e; exact ⟨v, ev⟩
  obtain ⟨u, eu⟩ := hsl
  refine ⟨u, eu, ?_⟩
  cases e0 : slotD ρ[j]? with
  | none => simp only [e0] at q; exact q.elim
  | some d0 =>
    simp only [e0] at q
    refine LE.bind r q fun k ρ1 F1 H1 y s1 r1 p1 q1 => ?_
    match e : ρ1[j]? with
    | none => simp only [e, slotD] at q1; exact q1.elim
    | some none => simp only [e, slotD] at q1; exact q1.elim
    | some (some (.sh d)) =>
      simp only [e, slotD] at q1
      obtain ⟨v, ev, hv⟩ := r1.slot j _ e
      rw [eu] at ev
      cases ev
      cases eo : dIx d k with
      | none => rw [eo] at q1; exact q1.elim
      | some g =>
        rw [eo] at q1
        exact od_ix d k g eo F1 H1 u y Q r1.fh hv p1 fun F' H' z g' pz => q1 F' H' z g'.f (r1.grow g') pz
    | some (some (.own xs)) =>
      simp only [e, slotD] at q1
      obtain ⟨p, vs, ev, e1, e2, e3⟩ := r1.own e
      rw [eu] at ev
      cases ev
      cases p1 with
      | int i =>
        cases eo : dIx (.lst xs) (.int i) with
        | none => rw [eo] at q1; exact q1.elim
        | some g =>
          rw [eo] at q1
          obtain ⟨v, k1, k2⟩ := e3.atI (show atI xs i = some g from eo)
          exact .inl ⟨p, vs, i, v, rfl, rfl, .inl (.inl e2), k1, q1 F1 H1 v (.refl _) r1 k2⟩
      | _ => exact q1.elim
theorem d_pop (j : Nat) {x : Str} (hN : X.N[j]? = some x := by rfl) (hv : Vis X.env.scope x := by first | exact Or.inl rfl | exact Or.inr (Or.inl rfl) | exact Or.inr (Or.inr rfl)) (hd : (x == ("__debug__" : Str)) = false := by decide)
    (hcd : (x == ("__classdict__" : Str)) = false := by decide)
    (hbase : attributeBase (.Name x pos') "pop" X.env (eval (.Name x pos') X.env) = eval (.Name x pos') X.env := by rfl) (hline : (apos.endLine == cpos.line) = true := by rfl) :
    PE X (.Call (.Attribute (.Name x pos') "pop" apos) [] [] cpos) (LE X.K P Wx (ePop j)) :=
  PEm (pe_bm0 PySem.F.plainAttrs_list PySem.F.slot_list_pop PySem.F.type_list_pop mt_pop (pe_var hN hv hd hcd) hbase hline) fun σ H Q h => by
  obtain ⟨F, ρ, r, q⟩ := h
  unfold ePop at q
  match e : ρ[j]? with
  | none => simp only [e] at q; exact q.elim
  | some none => simp only [e] at q; exact q.elim
  | some (some (.sh d)) => simp only [e] at q; exact q.elim
  | some (some (.own xs)) =>
    simp only [e] at q
    obtain ⟨p, vs, ev, e1, e2, e3⟩ := r.own e
    cases el : xs[xs.length - 1]? with
    | none => simp only [el] at q; exact q.elim
    | some d =>
      simp only [el] at q
      obtain ⟨v, k1, k2⟩ := e3.get el
      refine ⟨.ref p, ev, .inl ⟨rfl, _, .inl (.inl e2)⟩, p, vs, v, rfl, rfl, e2, by rw [← e3.length]; exact k1, ?_⟩
      exact q F _ v (.refl _) (r.write e ev e3.dropLast) k2
end
end DL
namespace DL
open PySem PySem.Spec PyProof.Rows L2
/-! ### a def by a function of data -/
/-- what is handed: data, a list lent, a list given away -/
inductive Aw where
  | sh (d : Dt) | own (xs : List Dt) | mv (xs : List Dt)
def Aw.wt : Aw → Wt
  | .sh d => .sh d
  | .own xs => .own xs
  | .mv xs => .own xs
abbrev FnD := List Aw → Option (RW × List (List Dt))
inductive ArgW (K : PySem.W.Frag) (F G H : Hp) : List V → List Aw → Prop
  | nil : ArgW K F G H [] []
  | sh {d : Dt} {v : V} {vs : List V} {ws : List Aw} : Rp K F d v → ArgW K F G H vs ws → ArgW K F G H (v :: vs) (.sh d :: ws)
  | own {p : Addr} {us : List V} {xs : List Dt} {vs : List V} {ws : List Aw} : F p = none → G p = some (.lst us) → Rps K F xs us → ArgW K F G H vs ws → ArgW K F G H (.ref p :: vs) (.own xs :: ws)
  | mv {p : Addr} {us : List V} {xs : List Dt} {vs : List V} {ws : List Aw} : F p = none → G p = none → H p = some (.lst us) → Rps K F xs us → ArgW K F G H vs ws → ArgW K F G H (.ref p :: vs) (.mv xs :: ws)
def ownAddrs : List V → List Aw → List Addr
  | .ref p :: vs, .own _ :: ws => p :: ownAddrs vs ws
  | _ :: vs, _ :: ws => ownAddrs vs ws
  | _, _ => []
def allAddrs : List V → List Aw → List Addr
  | .ref p :: vs, .own _ :: ws => p :: allAddrs vs ws
  | .ref p :: vs, .mv _ :: ws => p :: allAddrs vs ws
  | _ :: vs, _ :: ws => allAddrs vs ws
  | _, _ => []
structure GrowB (K : PySem.W.Frag) (F H F' H' : Hp) (ps : List Addr) (cs : List (List Dt)) : Prop where
  len : cs.length = ps.length
  f : Same F F'
  fh : Same F' H'
  h : ∀ p o, H p = some o → p ∉ ps → H' p = some o
  new : ∀ p o, F' p = some o → F p = some o ∨ H p = none
  put : ∀ (k : Nat) (p : Addr) (c : List Dt), ps[k]? = some p → cs[k]? = some c → ∃ us, H' p = some (.lst us) ∧ Rps K F' c us
def FinW (K : PySem.W.Frag) (F' H H' : Hp) (v : V) : Wt → Prop
  | .sh d => Rp K F' d v
  | .own xs => ∃ p us, v = .ref p ∧ H p = none ∧ F' p = none ∧ H' p = some (.lst us) ∧ Rps K F' xs us
def postF (K : PySem.W.Frag) (F H : Hp) (ps : List Addr) (Q : VK) (E : XK) : Option (RW × List (List Dt)) → Prop
  | none => False
  | some (.ok w, cs) => ∀ F' H' v, GrowB K F H F' H' ps cs → FinW K F' H H' v w → Q v H'
  | some (.ex C fs, cs) => ∀ F' H' cls dd, GrowB K F H F' H' ps cs → Xp K F' cls dd C fs → E cls dd H'
def spF (K : PySem.W.Frag) (n : Nat) (g : FnD) : Sp := fun vs H Q E => vs.length = n ∧ ∃ F G ws, Same F G ∧ Same G H ∧ ArgW K F G H vs ws ∧ (allAddrs vs ws).Nodup ∧ postF K F G (ownAddrs vs ws) Q E (g ws)
section
variable {K : PySem.W.Frag} {F G H : Hp}
theorem ArgW.length : ∀ {vs : List V} {ws : List Aw}, ArgW K F G H vs ws → vs.length = ws.length
  | _, _, .nil => rfl
  | _, _, .sh _ r => by simp [r.length]
  | _, _, .own _ _ _ r => by simp [r.length]
  | _, _, .mv _ _ _ _ r => by simp [r.length]
theorem ownAddrs_sh {v : V} {vs : List V} {d : Dt} {ws : List Aw} : ownAddrs (v :: vs) (.sh d :: ws) = ownAddrs vs ws := by cases v <;> rfl
theorem allAddrs_sh {v : V} {vs : List V} {d : Dt} {ws : List Aw} : allAddrs (v :: vs) (.sh d :: ws) = allAddrs vs ws := by cases v <;> rfl
theorem ownAddrs_mv {v : V} {vs : List V} {d : List Dt} {ws : List Aw} : ownAddrs (v :: vs) (.mv d :: ws) = ownAddrs vs ws := by cases v <;> rfl
theorem ArgW.getSh : ∀ {vs : List V} {ws : List Aw} {i : Nat} {d : Dt}, ArgW K F G H vs ws → ws[i]? = some (.sh d) → ∃ v, vs[i]? = some v ∧ Rp K F d v
  | _, _, _, _, .nil, e => by simp at e
  | _, _, 0, _, .sh h _, e => by simp at e; subst e; exact ⟨_, rfl, h⟩
  | _, _, i + 1, d, .sh _ r, e => by
    obtain ⟨v, a, b⟩ := ArgW.getSh (i := i) (d := d) r (by simpa using e)
    exact ⟨v, by simpa using a, b⟩
  | _, _, 0, _, .own _ _ _ _, e => by simp at e
  | _, _, i + 1, d, .own _ _ _ r, e => by
    obtain ⟨v, a, b⟩ := ArgW.getSh (i := i) (d := d) r (by simpa using e)
    exact ⟨v, by simpa using a, b⟩
  | _, _, 0, _, .mv _ _ _ _ _, e => by simp at e
  | _, _, i + 1, d, .mv _ _ _ _ r, e => by
    obtain ⟨v, a, b⟩ := ArgW.getSh (i := i) (d := d) r (by simpa using e)
    exact ⟨v, by simpa using a, b⟩
theorem ArgW.getOwn (gh : Same G H) : ∀ {vs : List V} {ws : List Aw} {i : Nat} {xs : List Dt}, ArgW K F G H vs ws → (ws[i]?).map Aw.wt = some (.own xs) → ∃ p us, vs[i]? = some (.ref p) ∧ F p = none ∧ H p = some (.lst us) ∧ Rps K F xs us ∧ p ∈ allAddrs vs ws ∧ (G p = none ∨ ws[i]? = some (.own xs))
  | _, _, _, _, .nil, e => by simp at e
  | _, _, 0, _, .sh h _, e => by simp [Aw.wt] at e
  | _, _, i + 1, d, .sh (v := v) (d := d') h r, e => by
    obtain ⟨p, us, a, b, c, x, y, z⟩ := ArgW.getOwn gh (i := i) (xs := d) r (by simpa using e)
    exact ⟨p, us, by simpa using a, b, c, x, by rw [allAddrs_sh]; exact y, by simpa using z⟩
  | _, _, 0, _, .own h1 h2 h3 _, e => by
    simp [Aw.wt] at e
    subst e
    exact ⟨_, _, rfl, h1, gh _ _ h2, h3, by simp [allAddrs], .inr (by simp)⟩
  | _, _, i + 1, d, .own _ _ _ r, e => by
    obtain ⟨p, us, a, b, c, x, y, z⟩ := ArgW.getOwn gh (i := i) (xs := d) r (by simpa using e)
    exact ⟨p, us, by simpa using a, b, c, x, by simp [allAddrs, y], by simpa using z⟩
  | _, _, 0, _, .mv h1 h2 h3 h4 _, e => by
    simp [Aw.wt] at e
    subst e
    exact ⟨_, _, rfl, h1, h3, h4, by simp [allAddrs], .inl h2⟩
  | _, _, i + 1, d, .mv _ _ _ _ r, e => by
    obtain ⟨p, us, a, b, c, x, y, z⟩ := ArgW.getOwn gh (i := i) (xs := d) r (by simpa using e)
    exact ⟨p, us, by simpa using a, b, c, x, by simp [allAddrs, y], by simpa using z⟩
theorem ArgW.sep (gh : Same G H) : ∀ {vs : List V} {ws : List Aw} {i j : Nat} {xs ys : List Dt} {p : Addr}, ArgW K F G H vs ws → (allAddrs vs ws).Nodup → (ws[i]?).map Aw.wt = some (.own xs) → (ws[j]?).map Aw.wt = some (.own ys) → vs[i]? = some (.ref p) → vs[j]? = some (.ref p) → i = j
  | _, _, _, _, _, _, _, .nil, _, e, _, _, _ => by simp at e
  | _, _, 0, 0, _, _, _, _, _, _, _, _, _ => rfl
  | _, _, 0, j + 1, _, _, _, .sh _ _, _, e, _, _, _ => by simp [Aw.wt] at e
  | _, _, i + 1, 0, _, _, _, .sh _ _, _, _, e, _, _ => by simp [Aw.wt] at e
  | _, _, i + 1, j + 1, xs, ys, p, .sh h r, nd, e1, e2, e3, e4 => by
    rw [allAddrs_sh] at nd
    rw [ArgW.sep gh (i := i) (j := j) (xs := xs) (ys := ys) (p := p) r nd (by simpa using e1) (by simpa using e2) (by simpa using e3) (by simpa using e4)]
  | _, _, 0, j + 1, xs, ys, p, .own _ _ _ r, nd, e1, e2, e3, e4 => by
    obtain ⟨p', us, a, _, _, _, m, _⟩ := r.getOwn gh (i := j) (xs := ys) (by simpa using e2)
    simp only [List.getElem?_cons_succ] at e4
    rw [a] at e4
    cases e4
    simp at e3
    subst e3
    simp only [allAddrs, List.nodup_cons] at nd
    exact absurd m nd.1
  | _, _, i + 1, 0, xs, ys, p, .own _ _ _ r, nd, e1, e2, e3, e4 => by
    obtain ⟨p', us, a, _, _, _, m, _⟩ := r.getOwn gh (i := i) (xs := xs) (by simpa using e1)
    simp only [List.getElem?_cons_succ] at e3
    rw [a] at e3
    cases e3
    simp at e4
    subst e4
    simp only [allAddrs, List.nodup_cons] at nd
    exact absurd m nd.1
  | _, _, i + 1, j + 1, xs, ys, p, .own _ _ _ r, nd, e1, e2, e3, e4 => by
    simp only [allAddrs, List.nodup_cons] at nd
    rw [ArgW.sep gh (i := i) (j := j) (xs := xs) (ys := ys) (p := p) r nd.2 (by simpa using e1) (by simpa using e2) (by simpa using e3) (by simpa using e4)]
  | _, _, 0, j + 1, xs, ys, p, .mv _ _ _ _ r, nd, e1, e2, e3, e4 => by
    obtain ⟨p', us, a, _, _, _, m, _⟩ := r.getOwn gh (i := j) (xs := ys) (by simpa using e2)
    simp only [List.getElem?_cons_succ] at e4
    rw [a] at e4
    cases e4
    simp at e3
    subst e3
    simp only [allAddrs, List.nodup_cons] at nd
    exact absurd m nd.1
  | _, _, i + 1, 0, xs, ys, p, .mv _ _ _ _ r, nd, e1, e2, e3, e4 => by
    obtain ⟨p', us, a, _, _, _, m, _⟩ := r.getOwn gh (i := i) (xs := xs) (by simpa using e1)
    simp only [List.getElem?_cons_succ] at e3
    rw [a] at e3
    cases e3
    simp at e4
    subst e4
    simp only [allAddrs, List.nodup_cons] at nd
    exact absurd m nd.1
  | _, _, i + 1, j + 1, xs, ys, p, .mv _ _ _ _ r, nd, e1, e2, e3, e4 => by
    simp only [allAddrs, List.nodup_cons] at nd
    rw [ArgW.sep gh (i := i) (j := j) (xs := xs) (ys := ys) (p := p) r nd.2 (by simpa using e1) (by simpa using e2) (by simpa using e3) (by simpa using e4)]
end
/-! ### the caller -/
def toWs (ρ : Rho) : List Av → Option (List Aw)
  | [] => some []
  | .val d :: as => match toWs ρ as with
    | some ws => some (.sh d :: ws)
    | none => none
  | .slot j :: as => match ρ[j]? with
    | some (some (.own xs)) => (match toWs ρ as with
      | some ws => some (.own xs :: ws)
      | none => none)
    | _ => none
  | .tmp xs :: as => match toWs ρ as with
    | some ws => some (.mv xs :: ws)
    | none => none
def slotsOf : List Av → List Nat
  | [] => []
  | .val _ :: as => slotsOf as
  | .slot j :: as => j :: slotsOf as
  | .tmp _ :: as => slotsOf as
def putBack : List Nat → List (List Dt) → Rho → Rho
  | j :: js, c :: cs, ρ => putBack js cs (ρ.set j (some (.own c)))
  | _, _, ρ => ρ
def wCall (n : Nat) (g : FnD) (fa : FA) : FW := bindAW fa fun as ρ => match toWs ρ as with
  | none => none
  | some ws => if ws.length = n ∧ (slotsOf as).Nodup then (match g ws with
    | none => none
    | some (r, cs) => some (r, putBack (slotsOf as) cs ρ)) else none
theorem putBack_len : ∀ (js : List Nat) (cs : List (List Dt)) (ρ : Rho), (putBack js cs ρ).length = ρ.length
  | [], _, _ => by simp [putBack]
  | _ :: _, [], _ => by simp [putBack]
  | j :: js, c :: cs, ρ => by simp [putBack, putBack_len js cs]
theorem putBack_not : ∀ {js : List Nat} {cs : List (List Dt)} {ρ : Rho} {i : Nat}, i ∉ js → (putBack js cs ρ)[i]? = ρ[i]?
  | [], _, _, _, _ => by simp [putBack]
  | _ :: _, [], _, _, _ => by simp [putBack]
  | j :: js, c :: cs, ρ, i, h => by
    simp only [List.mem_cons, not_or] at h
    rw [putBack, putBack_not h.2, List.getElem?_set_ne (fun e => h.1 e.symm)]
theorem putBack_in : ∀ {js : List Nat} {cs : List (List Dt)} {ρ : Rho} {i k : Nat} {c : List Dt}, js.Nodup → js[k]? = some i → cs[k]? = some c → i < ρ.length → (putBack js cs ρ)[i]? = some (some (.own c))
  | [], _, _, _, _, _, _, e, _, _ => by simp at e
  | _ :: _, [], _, _, _, _, _, _, e, _ => by simp at e
  | j :: js, c :: cs, ρ, i, 0, c', nd, e1, e2, hl => by
    simp at e1 e2
    subst e1
    subst e2
    rw [putBack, putBack_not (List.nodup_cons.mp nd).1, List.getElem?_set_self hl]
  | j :: js, c :: cs, ρ, i, k + 1, c', nd, e1, e2, hl => by
    rw [putBack]
    exact putBack_in (k := k) (List.nodup_cons.mp nd).2 (by simpa using e1) (by simpa using e2) (by simpa using hl)
/-- slots and the addresses in them -/
inductive SlA (σ : L2.St) (ρ : Rho) : List Nat → List Addr → Prop
  | nil : SlA σ ρ [] []
  | cons {j : Nat} {p : Addr} {js : List Nat} {ps : List Addr} (xs : List Dt) : σ[j]? = some (some (.ref p)) → ρ[j]? = some (some (.own xs)) → SlA σ ρ js ps → SlA σ ρ (j :: js) (p :: ps)
theorem SlA.get {σ : L2.St} {ρ : Rho} : ∀ {js : List Nat} {ps : List Addr} {k j : Nat}, SlA σ ρ js ps → js[k]? = some j → ∃ p xs, ps[k]? = some p ∧ σ[j]? = some (some (.ref p)) ∧ ρ[j]? = some (some (.own xs))
  | _, _, _, _, .nil, e => by simp at e
  | _, _, 0, _, .cons xs h1 h2 _, e => by simp at e; subst e; exact ⟨_, xs, rfl, h1, h2⟩
  | _, _, k + 1, j, .cons xs h1 h2 r, e => by
    obtain ⟨p, ys, a, b⟩ := SlA.get (k := k) (j := j) r (by simpa using e)
    exact ⟨p, ys, by simpa using a, b⟩
theorem SlA.mem {σ : L2.St} {ρ : Rho} : ∀ {js : List Nat} {ps : List Addr} {p : Addr}, SlA σ ρ js ps → p ∈ ps → ∃ j xs, j ∈ js ∧ σ[j]? = some (some (.ref p)) ∧ ρ[j]? = some (some (.own xs))
  | _, _, _, .nil, e => by simp at e
  | _, _, _, .cons xs h1 h2 r, e => by
    rcases List.mem_cons.mp e with e | e
    · subst e; exact ⟨_, xs, List.mem_cons_self, h1, h2⟩
    · obtain ⟨j, ys, a, b⟩ := SlA.mem r e
      exact ⟨j, ys, List.mem_cons_of_mem _ a, b⟩
theorem SlA.length {σ : L2.St} {ρ : Rho} : ∀ {js : List Nat} {ps : List Addr}, SlA σ ρ js ps → js.length = ps.length
  | _, _, .nil => rfl
  | _, _, .cons _ _ _ r => by simp [r.length]
section
variable {K : PySem.W.Frag} {P : Pt} {F H F' H' : Hp} {σ : L2.St} {ρ : Rho}
theorem SlA.nodup (R : Rel K P F H σ ρ) : ∀ {js : List Nat} {ps : List Addr}, SlA σ ρ js ps → js.Nodup → ps.Nodup
  | _, _, .nil, _ => List.nodup_nil
  | _, _, .cons xs h1 h2 r, nd => by
    obtain ⟨n1, n2⟩ := List.nodup_cons.mp nd
    refine List.nodup_cons.mpr ⟨fun m => ?_, SlA.nodup R r n2⟩
    obtain ⟨j, ys, a, b, c⟩ := r.mem m
    have := R.sep _ _ _ _ _ h2 c h1 b
    subst this
    exact n1 a
/-- the heap that stays with the caller -/
structure Sub (P : Pt) (σ : L2.St) (ρ : Rho) (F G H : Hp) : Prop where
  fg : Same F G
  gh : Same G H
  out : ∀ a o, H a = some o → G a = none → P.H0 a = none ∧ ∀ (i : Nat) (ys : List Dt), ρ[i]? = some (some (.own ys)) → σ[i]? ≠ some (some (.ref a))
  tab : ∀ t ∈ P.T, LamX.TabS G t.1 t.2
theorem Sub.slot {G : Hp} (S : Sub P σ ρ F G H) {i : Nat} {ys : List Dt} {a : Addr} {o : HO} (h : ρ[i]? = some (some (.own ys))) (hs : σ[i]? = some (some (.ref a))) (e : H a = some o) : G a = some o := by
  cases q : G a with
  | none => exact absurd hs ((S.out a o e q).2 i ys h)
  | some u => have := S.gh a u q; rw [e] at this; exact this.symm
theorem Sub.h0 {G : Hp} (S : Sub P σ ρ F G H) (R : Rel K P F H σ ρ) {a : Addr} (h : G a = none) : P.H0 a = none := by
  cases q : H a with
  | none => exact R.fresh q
  | some o => exact (S.out a o q h).1
theorem Sub.mem {G : Hp} (S : Sub P σ ρ F G H) {a : Addr} {o : HO} (h : H a = some o) {u : HO} (z : P.H0 a = some u) : G a = some o := by
  cases q : G a with
  | none => rw [(S.out a o h q).1] at z; cases z
  | some u => have := S.gh a u q; rw [h] at this; exact this.symm
theorem args_ok (R : Rel K P F H σ ρ) : ∀ {as : List Av} {vs : List V} {ws : List Aw}, Avs K P F H σ ρ as vs → toWs ρ as = some ws → (slotsOf as).Nodup →
    ∃ G, Sub P σ ρ F G H ∧ ArgW K F G H vs ws ∧ SlA σ ρ (slotsOf as) (ownAddrs vs ws) ∧ (allAddrs vs ws).Nodup ∧
      ∀ a, a ∈ allAddrs vs ws → (∃ j xs, j ∈ slotsOf as ∧ σ[j]? = some (some (.ref a)) ∧ ρ[j]? = some (some (.own xs))) ∨ ∀ (i : Nat) (ys : List Dt), ρ[i]? = some (some (.own ys)) → σ[i]? ≠ some (some (.ref a))
  | _, _, _, .nil, e, _ => by
    cases e
    exact ⟨H, ⟨R.fh, .refl _, fun a o e q => (by rw [e] at q; cases q), fun t ht => (R.tb t ht).2⟩, .nil, .nil, List.nodup_nil, fun a m => by simp [allAddrs] at m⟩
  | _, _, _, .val (as := as) h r, e, nd => by
    unfold toWs at e
    cases q : toWs ρ as with
    | none => rw [q] at e; cases e
    | some us =>
      rw [q] at e
      cases e
      obtain ⟨G, S, a, b, c, d⟩ := args_ok R r q nd
      refine ⟨G, S, .sh h a, ?_, ?_, ?_⟩
      · rw [ownAddrs_sh]; exact b
      · rw [allAddrs_sh]; exact c
      · rw [allAddrs_sh]; exact d
  | _, _, _, .slot (as := as) (j := j) h r, e, nd => by
    unfold toWs at e
    match e1 : ρ[j]? with
    | none => simp only [e1] at e; cases e
    | some none => simp only [e1] at e; cases e
    | some (some (.sh d)) => simp only [e1] at e; cases e
    | some (some (.own xs)) =>
      simp only [e1] at e
      cases q : toWs ρ as with
      | none => rw [q] at e; cases e
      | some us =>
        rw [q] at e
        cases e
        obtain ⟨n1, n2⟩ := List.nodup_cons.mp (show (j :: slotsOf as).Nodup from nd)
        obtain ⟨G, S, a, b, c, d⟩ := args_ok R r q n2
        obtain ⟨p, vs, ev, k1, k2, k3⟩ := R.own e1
        rw [h] at ev
        cases ev
        refine ⟨G, S, .own k1 (S.slot e1 h k2) k3 a, .cons xs h e1 b, ?_, fun x m => ?_⟩
        · refine List.nodup_cons.mpr ⟨fun m => ?_, c⟩
          rcases d _ m with ⟨i, ys, d1, d2, d3⟩ | d
          · have := R.sep _ _ _ _ _ e1 d3 h d2
            subst this
            exact n1 d1
          · exact d j xs e1 h
        · rcases List.mem_cons.mp (show x ∈ p :: allAddrs _ _ from m) with m | m
          · subst m
            exact .inl ⟨j, xs, List.mem_cons_self, h, e1⟩
          · rcases d x m with ⟨i, ys, d1, d2, d3⟩ | d
            · exact .inl ⟨i, ys, List.mem_cons_of_mem _ d1, d2, d3⟩
            · exact .inr d
  | _, _, _, .tmp (xs := xs) h, e, nd => by
    cases e
    obtain ⟨p, vs, rfl, k1, k2, k3, k4, k5⟩ := h
    refine ⟨fun a => if a = p then none else H a, ⟨fun a o e => ?_, fun a o e => ?_, fun a o e q => ?_, fun t ht => tab_map (R.tb t ht).2 fun x o e ne => (if_neg fun z => by rw [z, k2] at e; cases e; exact ne _ rfl).trans e⟩, .mv k1 (by simp) k2 k3 .nil, .nil, ?_, fun a m => ?_⟩
    · by_cases ha : a = p
      · subst ha; rw [k1] at e; cases e
      · simp only [ha, if_false]; exact R.fh _ _ e
    · by_cases ha : a = p
      · subst ha; simp at e
      · simp only [ha, if_false] at e; exact e
    · by_cases ha : a = p
      · subst ha; exact ⟨k4, k5⟩
      · simp only [ha, if_false] at q; rw [q] at e; cases e
    · simp [allAddrs]
    · simp [allAddrs] at m
      subst m
      exact .inr k5
theorem Rel.after {js : List Nat} {ps : List Addr} {cs : List (List Dt)} {G : Hp} (R : Rel K P F H σ ρ) (S : Sub P σ ρ F G H) (g : GrowB K F G F' H' ps cs) (sl : SlA σ ρ js ps) (nd : js.Nodup) : Rel K P F' H' σ (putBack js cs ρ) where
  fh := g.fh
  f0 := R.f0.trans g.f
  keep := fun p o h hb => by
    refine g.h p o (S.mem (R.keep p o h hb) h) fun m => ?_
    obtain ⟨j, xs, a, b, c⟩ := sl.mem m
    obtain ⟨v, ev, p', vs, e0, _, _, _, z⟩ := R.slot j _ c
    subst e0
    rw [b] at ev
    cases ev
    rcases z with z | ⟨z1, z2⟩
    · rw [z] at h; cases h
    · exact hb ⟨j, z1, z2⟩
  tb := fun t ht => ⟨tab_free (R.tb t ht).1 (S.tab t ht) fun o e => g.new t.1 o e, tab_map (S.tab t ht) fun p o e ne => g.h p o e fun m => by
    obtain ⟨j, xs, a, b, c⟩ := sl.mem m
    obtain ⟨v, ev, p', vs, e0, _, e2, _⟩ := R.slot j _ c
    subst e0
    rw [b] at ev
    cases ev
    have := S.gh p o e
    rw [e2] at this
    cases this
    exact ne _ rfl⟩
  new := fun p o h => (g.new p o h).elim (fun q => R.new p o q) fun q => .inr (S.h0 R q)
  len := by rw [putBack_len]; exact R.len
  slot := fun i w h => by
    by_cases hi : i ∈ js
    · obtain ⟨k, hk⟩ := List.getElem?_of_mem hi
      obtain ⟨p, xs, a, b, c⟩ := sl.get hk
      have hkl : k < cs.length := by
        have := (List.getElem?_eq_some_iff.mp a).1
        have hc := g.len
        omega
      have hck : cs[k]? = some cs[k] := List.getElem?_eq_getElem hkl
      have hil : i < ρ.length := (List.getElem?_eq_some_iff.mp c).1
      rw [putBack_in nd hk hck hil] at h
      cases h
      obtain ⟨us, k1, k2⟩ := g.put k p _ a hck
      obtain ⟨v, ev, p', vs, e0, e1, e2, e3, z⟩ := R.slot i _ c
      subst e0
      rw [b] at ev
      cases ev
      refine ⟨_, b, p, us, rfl, ?_, k1, k2, z⟩
      cases q : F' p with
      | none => rfl
      | some o =>
        rcases g.new p o q with h1 | h1
        · rw [e1] at h1; cases h1
        · rw [S.slot c b e2] at h1; cases h1
    · rw [putBack_not hi] at h
      obtain ⟨v, ev, q⟩ := R.slot i w h
      refine ⟨v, ev, ?_⟩
      cases w with
      | sh d => exact Rp.mono g.f q
      | own ys =>
        obtain ⟨p', vs, e0, e1, e2, e3, z⟩ := q
        subst e0
        refine ⟨p', vs, rfl, ?_, ?_, e3.mono g.f, z⟩
        · cases q : F' p' with
          | none => rfl
          | some o =>
            rcases g.new p' o q with h1 | h1
            · rw [e1] at h1; cases h1
            · rw [S.slot h ev e2] at h1; cases h1
        · refine g.h _ _ (S.slot h ev e2) fun m => ?_
          obtain ⟨j, xs, a, b, c⟩ := sl.mem m
          have := R.sep _ _ _ _ _ h c ev b
          subst this
          exact hi a
  sep := fun i j xs ys p h1 h2 h3 h4 => by
    have key : ∀ (c : Nat) (zs : List Dt), (putBack js cs ρ)[c]? = some (some (.own zs)) → ∃ us, ρ[c]? = some (some (.own us)) := fun c zs hz => by
      by_cases hi : c ∈ js
      · obtain ⟨k, hk⟩ := List.getElem?_of_mem hi
        obtain ⟨p, xs, _, _, e⟩ := sl.get hk
        exact ⟨xs, e⟩
      · rw [putBack_not hi] at hz; exact ⟨zs, hz⟩
    obtain ⟨x1, k1⟩ := key i xs h1
    obtain ⟨x2, k2⟩ := key j ys h2
    exact R.sep i j x1 x2 p k1 k2 h3 h4
  bor := fun j hj => by
    obtain ⟨b1, xs, b2⟩ := R.bor j hj
    refine ⟨b1, ?_⟩
    by_cases hi : j ∈ js
    · obtain ⟨k, hk⟩ := List.getElem?_of_mem hi
      obtain ⟨p, ys, a, _, c⟩ := sl.get hk
      have hkl : k < cs.length := by
        have := (List.getElem?_eq_some_iff.mp a).1
        have hc := g.len
        omega
      exact ⟨_, putBack_in nd hk (List.getElem?_eq_getElem hkl) (List.getElem?_eq_some_iff.mp c).1⟩
    · rw [putBack_not hi]; exact ⟨xs, b2⟩
end
section
variable {X : Cx} {P : Pt} {Wx : WX} {pos p : Pos} {e : Expr} {es : List Expr} {fa : FA} {k n : Nat} {f : Addr} {fd : FuncData} {ps : List Str} {g : FnD} {x : Str}
theorem LA_call {σ : L2.St} {H : Hp} {Q : VK} (h : LW X.K P Wx (wCall n g fa) σ H Q) : tCallS (spF X.K n g) (WE Wx) (LA X.K P Wx fa) σ H Q := by
  obtain ⟨F, ρ, r, q⟩ := h
  refine LA.bindW r q fun as ρ1 F1 H1 vs s1 r1 p1 q => ?_
  cases e1 : toWs ρ1 as with
  | none => simp only [e1] at q; exact q.elim
  | some ws =>
    simp only [e1] at q
    by_cases nd : ws.length = n ∧ (slotsOf as).Nodup
    · rw [if_pos nd] at q
      obtain ⟨nl, nd⟩ := nd
      obtain ⟨G, S, aw, sl, an, _⟩ := args_ok r1 p1 e1 nd
      refine ⟨by rw [aw.length]; exact nl, F1, G, ws, S.fg, S.gh, aw, an, ?_⟩
      match e2 : g ws with
      | none => simp only [e2] at q; exact q.elim
      | some (.ok w, cs) =>
        simp only [e2] at q
        intro F2 H2 v gb fw
        have r2 := r1.after S gb sl nd
        refine q F2 H2 v gb.f r2 ?_
        cases w with
        | sh d => exact fw
        | own xs =>
          obtain ⟨a, us, rfl, k1, k2, k3, k4⟩ := fw
          refine ⟨a, us, rfl, k2, k3, k4, S.h0 r1 k1, fun i ys hi hs => ?_⟩
          have : ∃ zs, ρ1[i]? = some (some (.own zs)) := by
            by_cases hj : i ∈ slotsOf as
            · obtain ⟨kk, hk⟩ := List.getElem?_of_mem hj
              obtain ⟨_, zs, _, _, e⟩ := sl.get hk
              exact ⟨zs, e⟩
            · rw [putBack_not hj] at hi; exact ⟨ys, hi⟩
          obtain ⟨zs, hz⟩ := this
          obtain ⟨p', vs', ev, _, e4, _⟩ := r1.own hz
          rw [hs] at ev
          cases ev
          rw [S.slot hz hs e4] at k1
          cases k1
      | some (.ex C fs, cs) =>
        simp only [e2] at q
        exact fun F2 H2 cls dd gb xp => q F2 H2 cls dd gb.f (r1.after S gb sl nd) xp
    · rw [if_neg nd] at q; exact q.elim
theorem w_call (G : FnOk X.prog X.w X.K X.mg X.base (L2.CX X.prog X.w) k f fd ps (spF X.K n g)) (hr : Room k X.A) (hg : Gl X x) (hm : X.mg x = some (.ref f)) (hk : PySem.W.keepIn X.K (.ref f) = true) (hb : Binds X.K fd ps []) (tk : Takes X Wx)
    (ha : PA X (e :: es) (LA X.K P Wx fa)) (hdb : (x == ("__debug__" : Str)) = false := by decide) (he : starEach (e :: es) X.env = (false, eval e X.env) :: starEach es X.env := by rfl) (hpl : (backTo pos (starEach es X.env)).any (·.1) = false := by rfl) :
    PE X (.Call (.Name x p) (e :: es) [] pos) (LW X.K P Wx (wCall n g fa)) :=
  PEm (pe_callS G hr hg hm hk hb (fun σ => passAt tk σ) ha hdb he hpl) fun _ _ _ h => LA_call h
end
/-! ### the def -/
def ownPos : Nat → List Aw → List Nat
  | _, [] => []
  | i, .sh _ :: ws => ownPos (i + 1) ws
  | i, .own _ :: ws => i :: ownPos (i + 1) ws
  | i, .mv _ :: ws => ownPos (i + 1) ws
def getOwns (ρ : Rho) : List Nat → Option (List (List Dt))
  | [] => some []
  | j :: js => match ρ[j]? with
    | some (some (.own xs)) => (match getOwns ρ js with
      | some cs => some (xs :: cs)
      | none => none)
    | _ => none
def outs (bs : List Nat) (ρ : Rho) (r : RW) : Option (RW × List (List Dt)) := match getOwns ρ bs with
  | some cs => some (r, cs)
  | none => none
def callF (n : Nat) (bs : List Nat) (fb : FS) : FnD := fun ws => if (ownPos 0 ws).all (fun j => bs.contains j) = true then (match fb (ws.map (fun w => some w.wt) ++ List.replicate (n - ws.length) none) with
  | some (.nx, ρ) => outs (ownPos 0 ws) ρ (.ok (.sh .non))
  | some (.rt w, ρ) => outs (ownPos 0 ws) ρ (.ok w)
  | some (.ex C fs, ρ) => outs (ownPos 0 ws) ρ (.ex C fs)
  | _ => none) else none
theorem getOwns_len {ρ : Rho} : ∀ {bs : List Nat} {cs : List (List Dt)}, getOwns ρ bs = some cs → cs.length = bs.length
  | [], _, e => by cases e; rfl
  | j :: js, cs, e => by
    unfold getOwns at e
    match e1 : ρ[j]? with
    | none => simp only [e1] at e; cases e
    | some none => simp only [e1] at e; cases e
    | some (some (.sh d)) => simp only [e1] at e; cases e
    | some (some (.own xs)) =>
      simp only [e1] at e
      cases q : getOwns ρ js with
      | none => rw [q] at e; cases e
      | some ds => rw [q] at e; cases e; simp [getOwns_len q]
theorem getOwns_get {ρ : Rho} : ∀ {bs : List Nat} {cs : List (List Dt)} {k j : Nat} {c : List Dt}, getOwns ρ bs = some cs → bs[k]? = some j → cs[k]? = some c → ρ[j]? = some (some (.own c))
  | [], _, _, _, _, _, e, _ => by simp at e
  | j :: js, cs, k, i, c, e, h1, h2 => by
    unfold getOwns at e
    match e1 : ρ[j]? with
    | none => simp only [e1] at e; cases e
    | some none => simp only [e1] at e; cases e
    | some (some (.sh d)) => simp only [e1] at e; cases e
    | some (some (.own xs)) =>
      simp only [e1] at e
      cases q : getOwns ρ js with
      | none => rw [q] at e; cases e
      | some ds =>
        rw [q] at e
        cases e
        cases k with
        | zero => simp at h1 h2; subst h1; subst h2; exact e1
        | succ k => exact getOwns_get (k := k) q (by simpa using h1) (by simpa using h2)
theorem ownPos_get {K : PySem.W.Frag} {F G H : Hp} : ∀ {vs : List V} {ws : List Aw} {n k j : Nat}, ArgW K F G H vs ws → (ownPos n ws)[k]? = some j → ∃ p xs, n ≤ j ∧ (ownAddrs vs ws)[k]? = some p ∧ vs[j - n]? = some (.ref p) ∧ ws[j - n]? = some (.own xs)
  | _, _, _, _, _, .nil, e => by simp [ownPos] at e
  | _, _, n, k, j, .sh h r, e => by
    obtain ⟨p, xs, a, b, c, d⟩ := ownPos_get (n := n + 1) (k := k) (j := j) r e
    refine ⟨p, xs, by omega, by rw [ownAddrs_sh]; exact b, ?_, ?_⟩
    · rw [show j - n = (j - (n + 1)) + 1 by omega]; exact c
    · rw [show j - n = (j - (n + 1)) + 1 by omega]; exact d
  | _, _, n, k, j, .mv _ _ _ _ r, e => by
    obtain ⟨p, xs, a, b, c, d⟩ := ownPos_get (n := n + 1) (k := k) (j := j) r e
    refine ⟨p, xs, by omega, by rw [ownAddrs_mv]; exact b, ?_, ?_⟩
    · rw [show j - n = (j - (n + 1)) + 1 by omega]; exact c
    · rw [show j - n = (j - (n + 1)) + 1 by omega]; exact d
  | _, _, n, 0, j, .own (p := p) (xs := xs) h1 h2 h3 r, e => by
    simp [ownPos] at e
    subst e
    exact ⟨p, xs, Nat.le_refl _, by simp [ownAddrs], by simp, by simp⟩
  | _, _, n, k + 1, j, .own h1 h2 h3 r, e => by
    obtain ⟨p, xs, a, b, c, d⟩ := ownPos_get (n := n + 1) (k := k) (j := j) r (by simpa [ownPos] using e)
    refine ⟨p, xs, by omega, by simpa [ownAddrs] using b, ?_, ?_⟩
    · rw [show j - n = (j - (n + 1)) + 1 by omega]; exact c
    · rw [show j - n = (j - (n + 1)) + 1 by omega]; exact d
theorem ownPos_len {K : PySem.W.Frag} {F G H : Hp} : ∀ {vs : List V} {ws : List Aw} {n : Nat}, ArgW K F G H vs ws → (ownPos n ws).length = (ownAddrs vs ws).length
  | _, _, _, .nil => rfl
  | _, _, n, .sh h r => by rw [ownAddrs_sh]; exact ownPos_len (n := n + 1) r
  | _, _, n, .mv _ _ _ _ r => by rw [ownAddrs_mv]; exact ownPos_len (n := n + 1) r
  | _, _, n, .own h1 h2 h3 r => by simp [ownPos, ownAddrs, ownPos_len (n := n + 1) r]
theorem ownPos_mem : ∀ {ws : List Aw} {n i : Nat} {xs : List Dt}, ws[i]? = some (.own xs) → n + i ∈ ownPos n ws
  | [], _, _, _, e => by simp at e
  | w :: ws, n, 0, xs, e => by
    simp at e
    subst e
    simp [ownPos]
  | w :: ws, n, i + 1, xs, e => by
    have := ownPos_mem (ws := ws) (n := n + 1) (i := i) (xs := xs) (by simpa using e)
    rw [show n + (i + 1) = n + 1 + i by omega]
    cases w with
    | sh d => exact this
    | mv d => exact this
    | own ys => exact List.mem_cons_of_mem _ this
def addrAt (vs : List V) (j : Nat) : Addr := match vs[j]? with
  | some (.ref p) => p
  | _ => 0
section
variable {K : PySem.W.Frag}
theorem rel_start {N : List Str} {F G H : Hp} {vs : List V} {ws : List Aw} (fg : Same F G) (gh : Same G H) (aw : ArgW K F G H vs ws) (nd : (allAddrs vs ws).Nodup) :
    Rel K ⟨F, G, ownPos 0 ws, addrAt vs, []⟩ F H (L2.start N vs) (ws.map (fun w => some w.wt) ++ List.replicate (N.length - ws.length) none) := by
  have hl := aw.length
  have key : ∀ (i : Nat) (w : Wt), (ws.map (fun w => some w.wt) ++ List.replicate (N.length - ws.length) none)[i]? = some (some w) → (ws[i]?).map Aw.wt = some w := fun i w h => by
    by_cases hi : i < ws.length
    · rw [List.getElem?_append_left (by simpa using hi), List.getElem?_map] at h
      cases q : ws[i]? with
      | none => rw [q] at h; cases h
      | some u => rw [q] at h; cases h; rfl
    · rw [List.getElem?_append_right (by simpa using hi), List.getElem?_replicate] at h
      split at h <;> cases h
  have keyV : ∀ (i : Nat) (v : V), vs[i]? = some v → (L2.start N vs)[i]? = some (some v) := fun i v h => by
    unfold L2.start
    have hi : i < vs.length := (List.getElem?_eq_some_iff.mp h).1
    rw [List.getElem?_append_left (by simpa using hi), List.getElem?_map, h]
    rfl
  have keyB : ∀ (i : Nat) (v : V), i < vs.length → (L2.start N vs)[i]? = some (some v) → vs[i]? = some v := fun i v hi h => by
    unfold L2.start at h
    rw [List.getElem?_append_left (by simpa using hi), List.getElem?_map] at h
    cases q : vs[i]? with
    | none => rw [q] at h; cases h
    | some u => rw [q] at h; cases h; rfl
  have len : ∀ (i : Nat) (w : Wt), (ws[i]?).map Aw.wt = some w → i < ws.length := fun i w h => by
    cases q : ws[i]? with
    | none => rw [q] at h; cases h
    | some u => exact (List.getElem?_eq_some_iff.mp q).1
  refine ⟨fg.trans gh, .refl _, fun p o h _ => gh p o h, fun p o h => .inl h, ?_, fun i w h => ?_, fun i j xs ys a h1 h2 h3 h4 => ?_, fun j hj => ?_, fun q hq => by cases hq⟩
  · simp [L2.start, hl]
  · have hw := key i w h
    cases w with
    | sh d =>
      have : ws[i]? = some (.sh d) := by
        cases q : ws[i]? with
        | none => rw [q] at hw; cases hw
        | some u =>
          rw [q] at hw
          cases u with
          | sh d' => cases hw; rfl
          | own _ => cases hw
          | mv _ => cases hw
      obtain ⟨v, a, b⟩ := aw.getSh this
      exact ⟨v, keyV i v a, b⟩
    | own xs =>
      obtain ⟨p, us, a, b, c, d, m, z⟩ := aw.getOwn gh hw
      refine ⟨_, keyV i _ a, p, us, rfl, b, c, d, ?_⟩
      rcases z with z | z
      · exact .inl z
      · refine .inr ⟨?_, ?_⟩
        · show i ∈ ownPos 0 ws
          have := ownPos_mem (n := 0) z
          simpa using this
        · show addrAt vs i = p
          unfold addrAt
          rw [a]
  · have w1 := key i _ h1
    have w2 := key j _ h2
    have l1 : i < vs.length := by rw [hl]; exact len i _ w1
    have l2 : j < vs.length := by rw [hl]; exact len j _ w2
    exact aw.sep gh nd w1 w2 (keyB i _ l1 h3) (keyB j _ l2 h4)
  · obtain ⟨k, hk⟩ := List.getElem?_of_mem (show j ∈ ownPos 0 ws from hj)
    obtain ⟨p, xs, _, _, c, d⟩ := ownPos_get aw hk
    rw [Nat.sub_zero] at c d
    refine ⟨?_, xs, ?_⟩
    · have : addrAt vs j = p := by unfold addrAt; rw [c]
      show (L2.start N vs)[j]? = some (some (.ref (addrAt vs j)))
      rw [this]
      exact keyV j _ c
    · have hi : j < ws.length := (List.getElem?_eq_some_iff.mp d).1
      rw [List.getElem?_append_left (by simpa using hi), List.getElem?_map, d]
      rfl
theorem growB_end {F G H F' H' : Hp} {vs : List V} {ws : List Aw} {σ : L2.St} {ρ : Rho} {cs : List (List Dt)} (aw : ArgW K F G H vs ws) (R : Rel K ⟨F, G, ownPos 0 ws, addrAt vs, []⟩ F' H' σ ρ) (hc : getOwns ρ (ownPos 0 ws) = some cs) : GrowB K F G F' H' (ownAddrs vs ws) cs where
  len := by rw [getOwns_len hc, ownPos_len aw]
  f := R.f0
  fh := R.fh
  h := fun p o h hp => R.keep p o h fun ⟨j, hj, e⟩ => by
    obtain ⟨k, hk⟩ := List.getElem?_of_mem (show j ∈ ownPos 0 ws from hj)
    obtain ⟨p', xs, _, b, c, d⟩ := ownPos_get aw hk
    rw [Nat.sub_zero] at c
    have : addrAt vs j = p' := by unfold addrAt; rw [c]
    have e' : addrAt vs j = p := e
    rw [this] at e'
    subst e'
    exact hp (List.mem_of_getElem? b)
  new := R.new
  put := fun k p c hp hk => by
    have hk' : k < (ownPos 0 ws).length := by rw [← getOwns_len hc]; exact (List.getElem?_eq_some_iff.mp hk).1
    have hj : (ownPos 0 ws)[k]? = some (ownPos 0 ws)[k] := List.getElem?_eq_getElem hk'
    obtain ⟨p', xs, _, b, c', d⟩ := ownPos_get aw hj
    rw [Nat.sub_zero] at c'
    rw [b] at hp
    cases hp
    have e1 := getOwns_get hc hj hk
    obtain ⟨q, us, ev, _, e4, e5⟩ := R.own e1
    have e2 := (R.bor _ (List.mem_of_getElem? hj)).1
    rw [ev] at e2
    have e3 : addrAt vs (ownPos 0 ws)[k] = p := by unfold addrAt; rw [c']
    have e6 : (V.ref q) = .ref (addrAt vs (ownPos 0 ws)[k]) := Option.some.inj (Option.some.inj e2)
    rw [e3] at e6
    cases e6
    exact ⟨us, e4, e5⟩
end
section
variable {P : Program} {w : World} {K : PySem.W.Frag} {mg : Str → Option Value} {base : Heap}
theorem fn_okD {x qual : Str} {st : Stmt} {f : Addr} {fd : FuncData} {N ps : List Str} {k : Nat} (bs : List Nat) {fb : FS} (F : Fun K x qual st f fd) (S : FnScope N ps (defScope st))
    (hb : ∀ (cdv : Value) (A : Around) (outer : List Env) (s : Shared) (H : Hp) (E : XK) (Z : Pt), (∀ j, j ∈ Z.bs → j ∈ bs) → Room k (A.deeper (envOfC qual (defScope st) s.heap.objs.size f cdv)) →
      PSs (cxOf (L2.CX P w) P w K mg base N qual (defScope st) f cdv A outer s H E) (defBody st) (LS K Z (fun cls d _ H => E cls d H) fb)) :
    FnOk P w K mg base (L2.CX P w) (k + 1) f fd ps (spF K ps.length (callF N.length bs fb)) := by
  refine F.okX S (fun vs H Q E h => h.1) fun cdv A outer s H vs Q E hr h => ?_
  obtain ⟨hl, F0, G, ws, fg, gh, aw, nd, q⟩ := h
  unfold callF at q
  by_cases hbs : (ownPos 0 ws).all (fun j => bs.contains j) = true
  · rw [if_pos hbs] at q
    have hbs' : ∀ j, j ∈ ownPos 0 ws → j ∈ bs := fun j hj => by
      have := List.all_eq_true.mp hbs j hj
      simpa using this
    refine ⟨_, hb cdv A outer s H E ⟨F0, G, ownPos 0 ws, addrAt vs, []⟩ hbs' hr, F0, _, rel_start fg gh aw nd, ?_⟩
    have out : ∀ {ρ : Rho} {r : RW}, postF K F0 G (ownAddrs vs ws) Q E (outs (ownPos 0 ws) ρ r) → ∃ cs, getOwns ρ (ownPos 0 ws) = some cs ∧ postF K F0 G (ownAddrs vs ws) Q E (some (r, cs)) := fun {ρ r} h => by
      unfold outs at h
      cases e : getOwns ρ (ownPos 0 ws) with
      | none => rw [e] at h; exact h.elim
      | some cs => rw [e] at h; exact ⟨cs, rfl, h⟩
    match e : fb (ws.map (fun w => some w.wt) ++ List.replicate (N.length - ws.length) none) with
    | none => simp only [e] at q; exact q.elim
    | some (.nx, ρ) =>
      simp only [e] at q
      obtain ⟨cs, hc, q⟩ := out q
      intro F' H' σ s1 R
      exact q F' H' .non (growB_end aw R hc) .non
    | some (.bk, ρ) => simp only [e] at q; exact q.elim
    | some (.ct, ρ) => simp only [e] at q; exact q.elim
    | some (.rt w, ρ) =>
      simp only [e] at q
      obtain ⟨cs, hc, q⟩ := out q
      intro F' H' σ v s1 R rw
      refine q F' H' v (growB_end aw R hc) ?_
      cases w with
      | sh d => exact rw
      | own xs =>
        obtain ⟨p, us, e0, e1, e2, e3, e4, _⟩ := rw
        exact ⟨p, us, e0, e4, e1, e2, e3⟩
    | some (.ex C fs, ρ) =>
      simp only [e] at q
      obtain ⟨cs, hc, q⟩ := out q
      intro F' H' σ cls dd s1 R xp
      exact q F' H' cls dd (growB_end aw R hc) xp
  · rw [if_neg hbs] at q; exact q.elim
end
end DL
namespace DL
open PySem PySem.Spec PyProof.Rows L2
/-! ### targets -/
abbrev GD := Dt → Rho → Option Rho
/-- the slots but those of ts are as they were -/
structure But (ts : List Nat) (σ σ' : L2.St) : Prop where
  len : σ'.length = σ.length
  get : ∀ i : Nat, i ∉ ts → σ'[i]? = σ[i]?
theorem But.refl (ts : List Nat) (σ : L2.St) : But ts σ σ := ⟨rfl, fun _ _ => rfl⟩
theorem But.trans {ts us : List Nat} {σ σ1 σ2 : L2.St} (a : But ts σ σ1) (b : But us σ1 σ2) : But (ts ++ us) σ σ2 := ⟨b.len.trans a.len, fun i hi => by
  rw [List.mem_append, not_or] at hi
  rw [b.get i hi.2, a.get i hi.1]⟩
def LG (K : PySem.W.Frag) (P : Pt) (ts : List Nat) (g : GD) : TG := fun v σ H Q => ∃ F ρ d ρ', Rel K P F H σ ρ ∧ Rp K F d v ∧ g d ρ = some ρ' ∧ ∀ σ', Rel K P F H σ' ρ' → But ts σ σ' → Q σ' H
def LGs (K : PySem.W.Frag) (P : Pt) (ts : List Nat) (g : List Dt → Rho → Option Rho) : TGs := fun vs σ H Q => ∃ F ρ ds ρ', Rel K P F H σ ρ ∧ Rps K F ds vs ∧ g ds ρ = some ρ' ∧ ∀ σ', Rel K P F H σ' ρ' → But ts σ σ' → Q σ' H
def gN (i : Nat) : GD := fun d ρ => some (ρ.set i (some (.sh d)))
def gsNil : List Dt → Rho → Option Rho := fun ds ρ => match ds with | [] => some ρ | _ => none
def gsCons (g : GD) (gs : List Dt → Rho → Option Rho) : List Dt → Rho → Option Rho := fun ds ρ => match ds with
  | [] => none
  | d :: ds => match g d ρ with
    | none => none
    | some ρ1 => gs ds ρ1
def gT (n : Nat) (gs : List Dt → Rho → Option Rho) : GD := fun d ρ => match d with
  | .tup ds => if ds.length = n then gs ds ρ else none
  | .lst ds => if ds.length = n then gs ds ρ else none
  | _ => none
section
variable {X : Cx} {P : Pt} {pos : Pos}
theorem PGm {e : Expr} {t t' : TG} (h : PG X e t) (m : ∀ v σ H Q, t' v σ H Q → t v σ H Q) : PG X e t' := ⟨fun pins s σ H v u Q I r q => h.run pins s σ H v u Q I r (m v σ H Q q)⟩
theorem PG.or {e : Expr} {t t' : TG} (h : PG X e t) (h' : PG X e t') : PG X e (fun v σ H Q => t v σ H Q ∨ t' v σ H Q) := ⟨fun pins s σ H v u Q I r q => q.elim (fun q => h.run pins s σ H v u Q I r q) fun q => h'.run pins s σ H v u Q I r q⟩
theorem g_name (i : Nat) {x : Str} (hb : i ∉ P.bs) (hN : X.N.Nodup) (hx : Loc X.env.scope x) (hi : X.N[i]? = some x := by rfl) (hf : X.fn x = true ∨ X.env.scope.names.lookup x = some .local := by first | exact .inl rfl | exact .inr rfl | assumption) : PG X (.Name x pos) (LG X.K P [i] (gN i)) :=
  PGm (pg_name hN hi hx hf) fun v σ H Q h => by
    obtain ⟨F, ρ, d, ρ', r, p, e, q⟩ := h
    cases e
    exact q _ (r.asg (w := .sh d) hb p) ⟨List.length_set, fun j hj => List.getElem?_set_ne (fun e => hj (by simp [e]))⟩
end
section
variable {X : Cx} {P : Pt} {pos : Pos}
theorem PGsm {es : List Expr} {t t' : TGs} (h : PGs X es t) (m : ∀ v σ H Q, t' v σ H Q → t v σ H Q) : PGs X es t' := ⟨fun pins s σ H vs us Q I r q => h.run pins s σ H vs us Q I r (m vs σ H Q q)⟩
theorem g_nil : PGs X [] (LGs X.K P [] gsNil) := PGsm pgs_nil fun vs σ H Q h => by
  obtain ⟨F, ρ, ds, ρ', r, p, e, q⟩ := h
  cases p with
  | nil => cases e; exact ⟨rfl, q _ r (.refl _ _)⟩
  | cons _ _ => cases e
theorem g_cons {e : Expr} {es : List Expr} {ts us : List Nat} {g : GD} {gs : List Dt → Rho → Option Rho} (h1 : PG X e (LG X.K P ts g)) (h2 : PGs X es (LGs X.K P us gs))
    (hs : (assignEach (e :: es) X.env).map (·.2) = assign e X.env :: (assignEach es X.env).map (·.2) := by rfl) : PGs X (e :: es) (LGs X.K P (ts ++ us) (gsCons g gs)) := PGsm (pgs_cons h1 h2 hs) fun vs σ H Q h => by
  obtain ⟨F, ρ, ds, ρ', r, p, e, q⟩ := h
  cases p with
  | nil => cases e
  | cons p1 p2 =>
    rename_i d v ds vs
    unfold gsCons at e
    simp only [] at e
    cases e1 : g d ρ with
    | none => rw [e1] at e; cases e
    | some ρ1 =>
      rw [e1] at e
      exact ⟨v, vs, rfl, F, ρ, d, ρ1, r, p1, e1, fun σ' r' b1 => ⟨F, ρ1, ds, ρ', r', p2, e, fun σ2 r2 b2 => q σ2 r2 (b1.trans b2)⟩⟩
theorem g_tup {es : List Expr} {k : Nat} {ts : List Nat} {gs : List Dt → Rho → Option Rho} {n : Nat} (hc : X.calm = true) (h : PGs X es (LGs X.K P ts gs))
    (hn : (assignEach es X.env).length = n := by rfl) (hst : (assignEach es X.env).findIdx? (·.1) = none := by rfl) : PG X (.Tuple es k pos) (LG X.K P ts (gT n gs)) := PGm (PG.or (pg_tup hc h hn hst) (pg_lst hc h hn hst)) fun v σ H Q h => by
  obtain ⟨F, ρ, d, ρ', r, p, e, q⟩ := h
  cases p with
  | tup hq hr =>
    unfold gT at e
    simp only [] at e
    split at e
    · rename_i hl
      exact .inl ⟨_, _, rfl, same_sqT r.fh hq, by rw [← hr.length]; exact hl, F, ρ, _, ρ', r, hr, e, q⟩
    · cases e
  | lst hq hr =>
    unfold gT at e
    simp only [] at e
    split at e
    · rename_i hl
      exact .inr ⟨_, _, rfl, .inl (.inl (r.fh _ _ hq)), by rw [← hr.length]; exact hl, F, ρ, _, ρ', r, hr, e, q⟩
    · cases e
  | _ => cases e
end
def sAsgT (g : GD) (f : FE) : FS := bindES f fun d ρ => match g d ρ with
  | some ρ1 => some (.nx, ρ1)
  | none => none
def sPar (i j : Nat) (f : FA) : FS := fun ρ => match f ρ with
  | none => none
  | some (.ok [.val d, .val e], ρ1) => some (.nx, (ρ1.set i (some (.sh d))).set j (some (.sh e)))
  | some (.ok _, _) => none
  | some (.ex C fs, ρ1) => some (.ex C fs, ρ1)
section
variable {X : Cx} {P : Pt} {Wx : WX} {pos : Pos} {e tg : Expr} {fe : FE} {g : GD} {ts : List Nat}
theorem s_asgT (hg : PG X tg (LG X.K P ts g)) (he : PE X e (LE X.K P Wx fe)) (hs : swapsWithSole [tg] e pos.line X.env = pure false := by rfl) (hw : swappedStores [tg] e X.env = pure none := by rfl)
    (h1 : (assignEach [tg] X.env).map (·.2) = [assign tg X.env] := by rfl) : PS X (.Assign [tg] e pos) (LS X.K P Wx (sAsgT g fe)) := PSm (ps_asg he hg hs hw h1) fun D σ H h => by
  obtain ⟨F, ρ, r, q⟩ := h
  refine LE.bindS r q fun d ρ1 F1 H1 v s1 r1 p1 q1 => ?_
  cases e : g d ρ1 with
  | none => simp only [e] at q1; exact q1.elim
  | some ρ2 =>
    simp only [e] at q1
    exact ⟨F1, ρ1, d, ρ2, r1, p1, e, fun σ' r' _ => q1 F1 H1 σ' (.refl _) r'⟩
theorem s_par (i j : Nat) {x y : Str} {a b : Expr} {fa : FA} {px py pt : Pos} {kt k2 pt2} (hbi : i ∉ P.bs) (hbj : j ∉ P.bs) (hc : X.calm = true) (hN : X.N.Nodup) (ha : PA X [a, b] (LA X.K P Wx fa)) (hi : X.N[i]? = some x := by rfl) (hj : X.N[j]? = some y := by rfl) (hij : i ≠ j := by decide)
    (hx : X.env.scope.names.lookup x = some .local := by rfl) (hy : X.env.scope.names.lookup y = some .local := by rfl)
    (hw : swappedStores [.Tuple [.Name x px, .Name y py] kt pt] (.Tuple [a, b] k2 pt2) X.env = pure (some [x, y]) := by rfl)
    (hs : swapsWithSole [.Tuple [.Name x px, .Name y py] kt pt] (.Tuple [a, b] k2 pt2) pos.line X.env = pure false := by rfl) :
    PS X (.Assign [.Tuple [.Name x px, .Name y py] kt pt] (.Tuple [a, b] k2 pt2) pos) (LS X.K P Wx (sPar i j fa)) := PSm (ps_par hc hN hi hj hij hx hy ha hw hs) fun D σ H h => by
  obtain ⟨F, ρ, r, q⟩ := h
  refine ⟨F, ρ, r, ?_⟩
  unfold sPar at q
  match e : fa ρ with
  | none => simp only [e] at q; exact q.elim
  | some (.ex C fs, ρ1) => simp only [e] at q; exact fun F' H' cls dd a b c => q F' H' σ cls dd a b c
  | some (.ok [.val d, .val e'], ρ1) =>
    simp only [e] at q
    intro F1 H1 vs s1 r1 p1
    match vs, p1 with
    | _, .val (v := v) h1 (.val (v := w) h2 .nil) =>
      refine ⟨v, w, rfl, q F1 H1 _ s1 ?_⟩
      exact (r1.asg (w := .sh d) hbi h1).asg (w := .sh e') hbj h2
  | some (.ok [], ρ1) => simp only [e] at q; exact q.elim
  | some (.ok [_], ρ1) => simp only [e] at q; exact q.elim
  | some (.ok [.slot _, _], ρ1) => simp only [e] at q; exact q.elim
  | some (.ok [.tmp _, _], ρ1) => simp only [e] at q; exact q.elim
  | some (.ok [.val _, .slot _], ρ1) => simp only [e] at q; exact q.elim
  | some (.ok [.val _, .tmp _], ρ1) => simp only [e] at q; exact q.elim
  | some (.ok (_ :: _ :: _ :: _), ρ1) => simp only [e] at q; exact q.elim
end
/-! ### while -/
def whileD (c : FE) (b : FS) : Nat → FS
  | 0, _ => none
  | n + 1, ρ => match c ρ with
    | some (.ok (.bl true), ρ1) => (match b ρ1 with
      | some (.nx, ρ2) => whileD c b n ρ2
      | some (.ct, ρ2) => whileD c b n ρ2
      | some (.bk, ρ2) => some (.nx, ρ2)
      | some (.rt w, ρ2) => some (.rt w, ρ2)
      | some (.ex C fs, ρ2) => some (.ex C fs, ρ2)
      | none => none)
    | some (.ok (.bl false), ρ1) => some (.nx, ρ1)
    | some (.ex C fs, ρ1) => some (.ex C fs, ρ1)
    | _ => none
def sWhile (m : Rho → Nat) (c : FE) (b : FS) : FS := fun ρ => whileD c b (m ρ) ρ
section
variable {X : Cx} {P : Pt} {Wx : WX} {pos : Pos} {c : Expr} {body : List Stmt} {fc : FE} {fb : FS}
theorem s_while (m : Rho → Nat) (hp : PassesOwn (model X.prog X.w) X.A X.env X.xe) (hc : PT X c (LT X.K P Wx fc)) (hb : PSs X body (LS X.K P Wx fb)) : PS X (.While c body [] pos) (LS X.K P Wx (sWhile m fc fb)) :=
  PSm (ps_while hp hc hb) fun D σ H h => by
  obtain ⟨F, ρ, r, q⟩ := h
  refine ⟨fun n σ H => ∃ F' ρ', Same F F' ∧ Rel X.K P F' H σ ρ' ∧ postS X.K P Wx F' D (whileD fc fb n ρ'), ⟨m ρ, F, ρ, .refl _, r, q⟩, ?_⟩
  rintro n σ H ⟨F1, ρ1, s1, r1, q1⟩
  refine ⟨F1, ρ1, r1, ?_⟩
  cases n with
  | zero => exact q1.elim
  | succ n =>
    unfold whileD at q1
    match e : fc ρ1 with
    | none => simp only [e] at q1; exact q1.elim
    | some (.ex C fs, ρ2) => simp only [e] at q1; exact fun F' H' cls dd a b c => q1 F' H' σ cls dd a b c
    | some (.ok d, ρ2) =>
      simp only [e] at q1
      intro F2 H2 v s2 r2 p2
      cases p2 with
      | bl k =>
        refine ⟨k, rfl, ?_⟩
        cases k with
        | false => exact q1 F2 H2 σ s2 r2
        | true =>
          refine ⟨fun σ' H' => ∃ F' ρ', Same F F' ∧ Rel X.K P F' H' σ' ρ' ∧ postS X.K P Wx F' D (whileD fc fb n ρ'), fun σ' H' h => ⟨n, Nat.lt_succ_self n, h⟩, F2, ρ2, r2, ?_⟩
          match e2 : fb ρ2 with
          | none => simp only [e2] at q1; exact q1.elim
          | some (.nx, ρ3) => simp only [e2] at q1; exact fun F3 H3 σ3 s3 r3 => ⟨F3, ρ3, (s1.trans s2).trans s3, r3, postS.mono (s2.trans s3) q1⟩
          | some (.ct, ρ3) => simp only [e2] at q1; exact fun F3 H3 σ3 s3 r3 => ⟨F3, ρ3, (s1.trans s2).trans s3, r3, postS.mono (s2.trans s3) q1⟩
          | some (.bk, ρ3) => simp only [e2] at q1; exact fun F3 H3 σ3 s3 r3 => q1 F3 H3 σ3 (s2.trans s3) r3
          | some (.rt w, ρ3) => simp only [e2] at q1; exact fun F3 H3 σ3 v s3 r3 => q1 F3 H3 σ3 v (s2.trans s3) r3
          | some (.ex C fs, ρ3) => simp only [e2] at q1; exact fun F3 H3 σ3 cls dd s3 r3 => q1 F3 H3 σ3 cls dd (s2.trans s3) r3
      | _ => exact q1.elim
end
/-! ### what is walked -/
structure WalkD (K : PySem.W.Frag) (F : Hp) (J : It) (ds : List Dt) : Prop where
  goes : ∀ i H, i < ds.length → Same F H → J.go i H
  stops : ∀ H, Same F H → J.stop ds.length H
  yields : ∀ i H x H' (G : Hp), i < ds.length → Same F G → Same G H → J.yld i H x H' → ∃ G' d, ds[i]? = some d ∧ Grow G H G' H' ∧ Rp K G' d x
inductive RI where
  | ok (ds : List Dt) | ex (C : Str) (fs : List (Str × Dt))
abbrev FI := Rho → Option (RI × Rho)
section
variable (K : PySem.W.Frag) (P : Pt) (Wx : WX)
def postI (σ : L2.St) (F : Hp) (R : It → Hp → Prop) : Option (RI × Rho) → Prop
  | none => False
  | some (.ok ds, ρ) => ∀ F' H' J, Same F F' → Rel K P F' H' σ ρ → WalkD K F' J ds → R J H'
  | some (.ex C fs, ρ) => ∀ F' H' cls dd, Same F F' → Rel K P F' H' σ ρ → Xp K F' cls dd C fs → Wx cls dd σ H'
def LI (f : FI) : TI := fun σ H R => ∃ F ρ, Rel K P F H σ ρ ∧ postI K P Wx σ F R (f ρ)
end
def forD (g : GD) (b : FS) : List Dt → FS
  | [], ρ => some (.nx, ρ)
  | d :: ds, ρ => match g d ρ with
    | none => none
    | some ρ1 => match b ρ1 with
      | some (.nx, ρ2) => forD g b ds ρ2
      | some (.ct, ρ2) => forD g b ds ρ2
      | some (.bk, ρ2) => some (.nx, ρ2)
      | some (.rt w, ρ2) => some (.rt w, ρ2)
      | some (.ex C fs, ρ2) => some (.ex C fs, ρ2)
      | none => none
def sFor (fi : FI) (g : GD) (b : FS) : FS := fun ρ => match fi ρ with
  | none => none
  | some (.ok ds, ρ1) => forD g b ds ρ1
  | some (.ex C fs, ρ1) => some (.ex C fs, ρ1)
section
variable {X : Cx} {P : Pt} {Wx : WX} {pos : Pos} {tg iter : Expr} {body : List Stmt} {fi : FI} {g : GD} {ts : List Nat} {fb : FS}
theorem s_for (hp : PassesOwn (model X.prog X.w) X.A X.env X.xe) (hc : X.calm = true) (hi : PI X tg iter (LI X.K P Wx fi)) (hg : PG X tg (LG X.K P ts g)) (hb : PSs X body (LS X.K P Wx fb))
    (hs : ∀ x, foldedSetIterable iter X.env x = pure x := by intro _; rfl) : PS X (.For tg iter body [] pos) (LS X.K P Wx (sFor fi g fb)) :=
  PSm (ps_for hp hc hi hg hb hs) fun D σ H h => by
  obtain ⟨F, ρ, r, q⟩ := h
  refine ⟨F, ρ, r, ?_⟩
  unfold sFor at q
  match e : fi ρ with
  | none => simp only [e] at q; exact q.elim
  | some (.ex C fs, ρ1) => simp only [e] at q; exact fun F' H' cls dd a b c => q F' H' σ cls dd a b c
  | some (.ok ds, ρ1) =>
    simp only [e] at q
    intro F1 H1 J s1 r1 wk
    refine ⟨fun i m σ H => m = ds.length - i ∧ i ≤ ds.length ∧ ∃ F' ρ', Same F1 F' ∧ Rel X.K P F' H σ ρ' ∧ postS X.K P Wx F' D (forD g fb (ds.drop i) ρ'), ⟨ds.length, by simp, Nat.zero_le _, F1, ρ1, .refl _, r1, postS.mono s1 q⟩, ?_⟩
    rintro i m σ H ⟨rfl, hi, F2, ρ2, s2, r2, q2⟩
    by_cases hlt : i < ds.length
    · refine .inr ⟨wk.goes i H hlt (s2.trans r2.fh), fun σ' H' => ∃ F' ρ', Same F1 F' ∧ Rel X.K P F' H' σ' ρ' ∧ postS X.K P Wx F' D (forD g fb (ds.drop (i + 1)) ρ'), fun σ' H' h => ⟨ds.length - (i + 1), by omega, rfl, hlt, h⟩, fun x H' y => ?_⟩
      obtain ⟨G', d, k1, k2, k3⟩ := wk.yields i H x H' F2 hlt s2 r2.fh y
      have hd : ds.drop i = d :: ds.drop (i + 1) := by
        rw [List.drop_eq_getElem_cons hlt]
        congr 1
        rw [List.getElem?_eq_getElem hlt] at k1
        exact Option.some.inj k1
      rw [hd] at q2
      unfold forD at q2
      cases e2 : g d ρ2 with
      | none => simp only [e2] at q2; exact q2.elim
      | some ρ3 =>
        simp only [e2] at q2
        refine ⟨G', ρ2, d, ρ3, r2.grow k2, k3, e2, fun σ' r' _ => ⟨G', ρ3, r', ?_⟩⟩
        match e3 : fb ρ3 with
        | none => simp only [e3] at q2; exact q2.elim
        | some (.nx, ρ4) => simp only [e3] at q2; exact fun F3 H3 σ3 s3 r3 => ⟨F3, ρ4, (s2.trans k2.f).trans s3, r3, postS.mono (k2.f.trans s3) q2⟩
        | some (.ct, ρ4) => simp only [e3] at q2; exact fun F3 H3 σ3 s3 r3 => ⟨F3, ρ4, (s2.trans k2.f).trans s3, r3, postS.mono (k2.f.trans s3) q2⟩
        | some (.bk, ρ4) => simp only [e3] at q2; exact fun F3 H3 σ3 s3 r3 => q2 F3 H3 σ3 (k2.f.trans s3) r3
        | some (.rt w, ρ4) => simp only [e3] at q2; exact fun F3 H3 σ3 v s3 r3 => q2 F3 H3 σ3 v (k2.f.trans s3) r3
        | some (.ex C fs, ρ4) => simp only [e3] at q2; exact fun F3 H3 σ3 cls dd s3 r3 => q2 F3 H3 σ3 cls dd (k2.f.trans s3) r3
    · have e' : i = ds.length := by omega
      subst e'
      rw [List.drop_length] at q2
      exact .inl ⟨wk.stops H (s2.trans r2.fh), q2 F2 H σ (.refl _) r2⟩
end
/-! walks: lists, tuples, texts, ranges -/
def iterD : Dt → Option (List Dt)
  | .lst xs => some xs
  | .tup xs => some xs
  | .str z => some (z.cps.toList.map fun c => .str ⟨#[c]⟩)
  | _ => none
def iSeq (f : FE) : FI := fun ρ => match f ρ with
  | none => none
  | some (.ok d, ρ1) => (match iterD d with
    | some ds => some (.ok ds, ρ1)
    | none => none)
  | some (.ex C fs, ρ1) => some (.ex C fs, ρ1)
section
variable {K : PySem.W.Frag} {F : Hp} {a : Addr} {vs : List V} {ds : List Dt}
theorem walkD_list (h : SqL K F a vs) (r : Rps K F ds vs) : WalkD K F (Itl K a) ds where
  goes := fun i H hi s => walk_list.goes i H (by rw [← r.length]; exact hi) (s.seq h)
  stops := fun H s => by rw [r.length]; exact walk_list.stops H (s.seq h)
  yields := fun i H x H' G hi s1 s2 y => by
    obtain ⟨e, hx⟩ := walk_list.yields i H x H' (by rw [← r.length]; exact hi) ((s1.trans s2).seq h) y
    obtain ⟨d, k1, k2⟩ := r.getV hx
    subst e
    exact ⟨G, d, k1, Grow.refl s2, k2.mono s1⟩
theorem walkD_tup (h : SqT K F a vs) (r : Rps K F ds vs) : WalkD K F (Itt K a) ds where
  goes := fun i H hi s => walk_tup.goes i H (by rw [← r.length]; exact hi) (same_sqT s h)
  stops := fun H s => by rw [r.length]; exact walk_tup.stops H (same_sqT s h)
  yields := fun i H x H' G hi s1 s2 y => by
    obtain ⟨e, hx⟩ := walk_tup.yields i H x H' (by rw [← r.length]; exact hi) (same_sqT (s1.trans s2) h) y
    obtain ⟨d, k1, k2⟩ := r.getV hx
    subst e
    exact ⟨G, d, k1, Grow.refl s2, k2.mono s1⟩
theorem walkD_str {z : Str} : WalkD K F (Its z) (z.cps.toList.map fun c => .str ⟨#[c]⟩) where
  goes := fun i H hi s => walk_str.goes i H (by simpa using hi) trivial
  stops := fun H s => by simpa using walk_str.stops H trivial
  yields := fun i H x H' G hi s1 s2 y => by
    obtain ⟨e, c, hc, hx⟩ := walk_str.yields i H x H' (by simpa using hi) trivial y
    subst e
    subst hx
    refine ⟨G, .str ⟨#[c]⟩, ?_, Grow.refl s2, .str _⟩
    rw [List.getElem?_map, Array.getElem?_toList, hc]
    rfl
theorem walkD_range {lo : Int} {n : Nat} : WalkD K F (Itr lo n) ((List.range n).map fun i => .int (lo + (i : Nat))) where
  goes := fun i H hi s => walk_range.goes i H (by simpa using hi) trivial
  stops := fun H s => by simpa using (walk_range (lo := lo) (n := n)).stops H trivial
  yields := fun i H x H' G hi s1 s2 y => by
    have hi' : i < n := by simpa using hi
    obtain ⟨e, hx⟩ := walk_range.yields i H x H' hi' trivial y
    subst e
    subst hx
    refine ⟨G, .int (lo + (i : Nat)), ?_, Grow.refl s2, .int _⟩
    simp [List.getElem?_map, List.getElem?_range hi']
end
section
variable {X : Cx} {P : Pt} {Wx : WX} {pos p : Pos} {tg l : Expr} {f : FE}
theorem PI.or {wi wi' : TI} (h : PI X tg l wi) (h' : PI X tg l wi') : PI X tg l (fun σ H R => wi σ H R ∨ wi' σ H R) := ⟨fun pins s σ H R I q => q.elim (fun q => h.run pins s σ H R I q) fun q => h'.run pins s σ H R I q⟩
theorem PIm {wi wi' : TI} (h : PI X tg l wi) (m : ∀ σ H R, wi' σ H R → wi σ H R) : PI X tg l wi' := ⟨fun pins s σ H R I q => h.run pins s σ H R I (m σ H R q)⟩
theorem i_seq (hl : PE X l (LE X.K P Wx f)) : PI X tg l (LI X.K P Wx (iSeq f)) := PIm (PI.or (pi_list hl) (PI.or (pi_tup hl) (pi_str hl))) fun σ H R h => by
  obtain ⟨F, ρ, r, q⟩ := h
  unfold iSeq at q
  match e : f ρ with
  | none => simp only [e] at q; exact q.elim
  | some (.ex C fs, ρ1) => simp only [e] at q; exact .inl ⟨F, ρ, r, by rw [e]; exact q⟩
  | some (.ok d, ρ1) =>
    simp only [e] at q
    match d with
    | .lst xs =>
      refine .inl ⟨F, ρ, r, ?_⟩
      rw [e]
      intro F1 H1 v s1 r1 p1
      cases p1 with
      | lst hq hr => exact ⟨_, rfl, ⟨_, .inl (.inl (r1.fh _ _ hq))⟩, q F1 H1 _ s1 r1 (walkD_list (.inl (.inl hq)) hr)⟩
    | .tup xs =>
      refine .inr (.inl ⟨F, ρ, r, ?_⟩)
      rw [e]
      intro F1 H1 v s1 r1 p1
      cases p1 with
      | tup hq hr => exact ⟨_, rfl, ⟨_, same_sqT r1.fh hq⟩, q F1 H1 _ s1 r1 (walkD_tup hq hr)⟩
    | .str z =>
      refine .inr (.inr ⟨F, ρ, r, ?_⟩)
      rw [e]
      intro F1 H1 v s1 r1 p1
      cases p1 with
      | str z => exact ⟨_, rfl, q F1 H1 _ s1 r1 walkD_str⟩
    | .non => exact q.elim
    | .bl _ => exact q.elim
    | .int _ => exact q.elim
    | .ref _ => exact q.elim
    | .ty _ => exact q.elim
    | .scr _ => exact q.elim
    | .fn _ => exact q.elim
    | .dK _ => exact q.elim
    | .obj _ _ => exact q.elim
def rangeD : List Dt → Option (List Dt)
  | [.int j] => if -(2 ^ 62) ≤ j ∧ j < 2 ^ 62 then some ((List.range j.toNat).map fun i => .int (0 + (i : Nat))) else none
  | _ => none
def rangeD2 : List Dt → Option (List Dt)
  | [.int i, .int j] => if -(2 ^ 62) ≤ i ∧ i < 2 ^ 62 ∧ -(2 ^ 62) ≤ j ∧ j < 2 ^ 62 then some ((List.range (j - i).toNat).map fun k => .int (i + (k : Nat))) else none
  | _ => none
def iArgs (o : List Dt → Option (List Dt)) (f : FA) : FI := fun ρ => match f ρ with
  | none => none
  | some (.ok as, ρ1) => (match vals as with
    | some ds => (match o ds with
      | some es => some (.ok es, ρ1)
      | none => none)
    | none => none)
  | some (.ex C fs, ρ1) => some (.ex C fs, ρ1)
theorem LA.bindI {o : List Dt → Option (List Dt)} {f : FA} {R : It → Hp → Prop} {S : List V → Hp → Prop} {σ : L2.St} {H : Hp} (h : LI X.K P Wx (iArgs o f) σ H R)
    (hk : ∀ ds es F1 H1 vs, Rps X.K F1 ds vs → Same F1 H1 → o ds = some es → (∀ J, WalkD X.K F1 J es → R J H1) → S vs H1) : LA X.K P Wx f σ H S := by
  obtain ⟨F, ρ, r, q⟩ := h
  refine ⟨F, ρ, r, ?_⟩
  unfold iArgs at q
  match e : f ρ with
  | none => simp only [e] at q; exact q.elim
  | some (.ex C fs, ρ1) => simp only [e] at q; exact q
  | some (.ok as, ρ1) =>
    simp only [e] at q
    cases e1 : vals as with
    | none => simp only [e1] at q; exact q.elim
    | some ds =>
      simp only [e1] at q
      cases e2 : o ds with
      | none => simp only [e2] at q; exact q.elim
      | some es =>
        simp only [e2] at q
        exact fun F1 H1 vs s1 r1 p1 => hk ds es F1 H1 vs (vals_ok p1 e1) r1.fh e2 fun J w => q F1 H1 J s1 r1 w
theorem i_range1 {a : Expr} {fa : FA} (hg : Gl X "range") (hm : X.mg "range" = none) (ha : PA X [a] (LA X.K P Wx fa)) (hs : starEach [a] X.env = [(false, eval a X.env)] := by rfl) : PI X tg (.Call (.Name "range" p) [a] [] pos) (LI X.K P Wx (iArgs rangeD fa)) :=
  PIm (pi_range1 hg hm ha hs) fun σ H R h => LA.bindI h fun ds es F1 H1 vs rp sF e k => by
    match ds, rp, e with
    | [.int j], .cons (.int _) .nil, e =>
      unfold rangeD at e
      simp only [] at e
      split at e
      · rename_i hj
        cases e
        exact ⟨j, rfl, hj.1, hj.2, k _ walkD_range⟩
      · cases e
theorem i_range2 {a b : Expr} {fa : FA} (hg : Gl X "range") (hm : X.mg "range" = none) (ha : PA X [a, b] (LA X.K P Wx fa)) (hs : starEach [a, b] X.env = [(false, eval a X.env), (false, eval b X.env)] := by rfl) (hs2 : starEach [b] X.env = [(false, eval b X.env)] := by rfl) : PI X tg (.Call (.Name "range" p) [a, b] [] pos) (LI X.K P Wx (iArgs rangeD2 fa)) :=
  PIm (pi_range2 hg hm ha hs hs2) fun σ H R h => LA.bindI h fun ds es F1 H1 vs rp sF e k => by
    match ds, rp, e with
    | [.int i, .int j], .cons (.int _) (.cons (.int _) .nil), e =>
      unfold rangeD2 at e
      simp only [] at e
      split at e
      · rename_i hj
        cases e
        exact ⟨i, j, rfl, hj, k _ walkD_range⟩
      · cases e
end
end DL
namespace DL
open PySem PySem.Spec PyProof.Rows L2
/-! ### operators by data -/
def dAdd : Dt → Dt → Option Dt
  | .int i, .int j => some (.int (i + j))
  | .str x, .str y => if x.length + y.length ≤ 1000000 then some (.str (x ++ y)) else none
  | .tup xs, .tup ys => if xs.length + ys.length ≤ 100000 then some (.tup (xs ++ ys)) else none
  | .lst xs, .lst ys => if xs.length + ys.length ≤ 100000 then some (.lst (xs ++ ys)) else none
  | _, _ => none
def dSub : Dt → Dt → Option Dt
  | .int i, .int j => some (.int (i - j))
  | _, _ => none
def dMul : Dt → Dt → Option Dt
  | .int i, .int j => if i.natAbs.log2 + j.natAbs.log2 < 1000000 then some (.int (i * j)) else none
  | _, _ => none
def dFdiv : Dt → Dt → Option Dt
  | .int i, .int j => if j ≠ 0 ∧ j.natAbs.log2 < 9000 then some (.int (i.fdiv j)) else none
  | _, _ => none
def dMod : Dt → Dt → Option Dt
  | .int i, .int j => if j ≠ 0 then some (.int (i.fmod j)) else none
  | _, _ => none
def dPow : Dt → Dt → Option Dt
  | .int i, .int j => if 0 ≤ j ∧ j ≤ 1000000 ∧ i.natAbs < 2 ^ 64 then some (.int (i ^ j.toNat)) else none
  | _, _ => none
def dNeg : Dt → Option Dt
  | .int i => some (.int (-i))
  | _ => none
def dLt : Dt → Dt → Option Dt
  | .int i, .int j => some (.bl (decide (i < j)))
  | _, _ => none
def dLe : Dt → Dt → Option Dt
  | .int i, .int j => some (.bl (decide (i ≤ j)))
  | _, _ => none
def dGt : Dt → Dt → Option Dt
  | .int i, .int j => some (.bl (decide (j < i)))
  | _, _ => none
def dGe : Dt → Dt → Option Dt
  | .int i, .int j => some (.bl (decide (j ≤ i)))
  | _, _ => none
theorem sz1m {n : Nat} (h : n ≤ 1000000) : n ≤ sizeLine := Nat.le_trans h (by decide)
section
variable {X : Cx}
theorem op_fdivZ : OpR X (binaryOp .FloorDiv) (rI (fun _ j => j ≠ 0 ∧ j.natAbs.log2 < 9000) fun i j => .int (i.fdiv j)) := opI fun _ _ _ _ _ _ _ hc q => floordiv_int hc.1 q (.inl (PyProof.noPylong_of_log2 hc.2))
def rAddA (K : PySem.W.Frag) : R2 := fun x y H Q => rI0 (fun i j => .int (i + j)) x y H Q ∨ (∃ i j, x = .str i ∧ y = .str j ∧ i.length + j.length ≤ sizeLine ∧ Q (.str (i ++ j)) H) ∨ rCatA K x y H Q ∨ rCat x y H Q
theorem op_addA : OpR X (binaryOp .Add) (rAddA X.K) := op_add.or (op_add_str.or (op_catA.or op_cat))
theorem lay_lst {K : PySem.W.Frag} {F H : Hp} {ds : List Dt} {vs : List V} {p : Addr} {Q : VK} (s : Same F H) (np : H p = none) (hr : Rps K F ds vs) (q : ∀ F' H' z, Grow F H F' H' → Rp K F' (.lst ds) z → Q z H') : Q (.ref p) (upd H p (.lst vs)) :=
  have gg := Grow.lay (o := .lst vs) s np
  q _ _ _ gg (.lst upd_same (hr.mono gg.f))
theorem lay_tup {K : PySem.W.Frag} {F H : Hp} {ds : List Dt} {vs : List V} {p : Addr} {Q : VK} (s : Same F H) (np : H p = none) (hr : Rps K F ds vs) (q : ∀ F' H' z, Grow F H F' H' → Rp K F' (.tup ds) z → Q z H') : Q (.ref p) (upd H p (.tup vs)) :=
  have gg := Grow.lay (o := .tup vs) s np
  q _ _ _ gg (.tup (.inl (.inl upd_same)) (hr.mono gg.f))
theorem od_add : OpD X.K (rAddA X.K) dAdd := by
  intro d e g h F H x y Q s hd he q
  cases hd with
  | int i =>
    cases he with
    | int j => cases h; exact .inl ⟨i, j, rfl, rfl, q F H _ (Grow.refl s) (.int _)⟩
    | _ => cases h
  | str z =>
    cases he with
    | str z2 =>
      unfold dAdd at h
      simp only [] at h
      split at h
      · rename_i hl
        cases h
        exact .inr (.inl ⟨z, z2, rfl, rfl, sz1m hl, q F H _ (Grow.refl s) (.str _)⟩)
      · cases h
    | _ => cases h
  | tup hq hr =>
    cases he with
    | tup hq2 hr2 =>
      unfold dAdd at h
      simp only [] at h
      split at h
      · rename_i hl
        cases h
        refine .inr (.inr (.inl ⟨_, _, _, _, rfl, rfl, same_sqT s hq, same_sqT s hq2, by rw [← hr.length, ← hr2.length]; exact sz1000 hl, fun e => ?_, fun e1 e2 => ?_, fun e1 e2 p np => ?_⟩))
        · subst e
          cases hr
          exact q F H _ (Grow.refl s) (.tup hq2 hr2)
        · subst e2
          cases hr2
          rw [List.append_nil] at q
          exact q F H _ (Grow.refl s) (.tup hq hr)
        · exact lay_tup s np (hr.append hr2) q
      · cases h
    | _ => cases h
  | lst hq hr =>
    cases he with
    | lst hq2 hr2 =>
      unfold dAdd at h
      simp only [] at h
      split at h
      · rename_i hl
        cases h
        refine .inr (.inr (.inr ⟨_, _, _, _, rfl, rfl, s _ _ hq, s _ _ hq2, by rw [← hr.length, ← hr2.length]; exact sz1000 hl, fun p np => ?_⟩))
        exact lay_lst s np (hr.append hr2) q
      · cases h
    | _ => cases h
  | _ => cases h
theorem od_I0 {gi : Int → Int → Dt} {gv : Int → Int → V} (hg : ∀ F i j, Rp X.K F (gi i j) (gv i j)) {o : Dt → Dt → Option Dt} (ho : ∀ d e g, o d e = some g → ∃ i j, d = .int i ∧ e = .int j ∧ g = gi i j) : OpD X.K (rI0 gv) o := by
  intro d e g h F H x y Q s hd he q
  obtain ⟨i, j, rfl, rfl, rfl⟩ := ho d e g h
  cases hd
  cases he
  exact ⟨i, j, rfl, rfl, q F H _ (Grow.refl s) (hg F i j)⟩
theorem od_I {C : Int → Int → Prop} {gi : Int → Int → Dt} {gv : Int → Int → V} (hg : ∀ F i j, Rp X.K F (gi i j) (gv i j)) {o : Dt → Dt → Option Dt} (ho : ∀ d e g, o d e = some g → ∃ i j, d = .int i ∧ e = .int j ∧ C i j ∧ g = gi i j) : OpD X.K (rI C gv) o := by
  intro d e g h F H x y Q s hd he q
  obtain ⟨i, j, rfl, rfl, c, rfl⟩ := ho d e g h
  cases hd
  cases he
  exact ⟨i, j, rfl, rfl, c, q F H _ (Grow.refl s) (hg F i j)⟩
theorem od_sub : OpD X.K (rI0 fun i j => .int (i - j)) dSub := od_I0 (gi := fun i j => .int (i - j)) (fun _ _ _ => .int _) fun d e g h => by
  unfold dSub at h
  split at h
  · cases h; exact ⟨_, _, rfl, rfl, rfl⟩
  · cases h
theorem od_lt : OpD X.K (rI0 fun i j => .bl (decide (i < j))) dLt := od_I0 (gi := fun i j => .bl (decide (i < j))) (fun _ _ _ => .bl _) fun d e g h => by
  unfold dLt at h
  split at h
  · cases h; exact ⟨_, _, rfl, rfl, rfl⟩
  · cases h
theorem od_le : OpD X.K (rI0 fun i j => .bl (decide (i ≤ j))) dLe := od_I0 (gi := fun i j => .bl (decide (i ≤ j))) (fun _ _ _ => .bl _) fun d e g h => by
  unfold dLe at h
  split at h
  · cases h; exact ⟨_, _, rfl, rfl, rfl⟩
  · cases h
theorem od_gt : OpD X.K (rI0 fun i j => .bl (decide (j < i))) dGt := od_I0 (gi := fun i j => .bl (decide (j < i))) (fun _ _ _ => .bl _) fun d e g h => by
  unfold dGt at h
  split at h
  · cases h; exact ⟨_, _, rfl, rfl, rfl⟩
  · cases h
theorem od_ge : OpD X.K (rI0 fun i j => .bl (decide (j ≤ i))) dGe := od_I0 (gi := fun i j => .bl (decide (j ≤ i))) (fun _ _ _ => .bl _) fun d e g h => by
  unfold dGe at h
  split at h
  · cases h; exact ⟨_, _, rfl, rfl, rfl⟩
  · cases h
theorem od_mul : OpD X.K (rI CMulW fun i j => .int (i * j)) dMul := od_I (gi := fun i j => .int (i * j)) (fun _ _ _ => .int _) fun d e g h => by
  unfold dMul at h
  split at h
  · split at h
    · cases h; exact ⟨_, _, rfl, rfl, by assumption, rfl⟩
    · cases h
  · cases h
theorem od_fdiv : OpD X.K (rI (fun _ j => j ≠ 0 ∧ j.natAbs.log2 < 9000) fun i j => .int (i.fdiv j)) dFdiv := od_I (gi := fun i j => .int (i.fdiv j)) (fun _ _ _ => .int _) fun d e g h => by
  unfold dFdiv at h
  split at h
  · split at h
    · cases h; exact ⟨_, _, rfl, rfl, by assumption, rfl⟩
    · cases h
  · cases h
theorem od_mod : OpD X.K (rI (fun _ j => j ≠ 0) fun i j => .int (i.fmod j)) dMod := od_I (gi := fun i j => .int (i.fmod j)) (fun _ _ _ => .int _) fun d e g h => by
  unfold dMod at h
  split at h
  · split at h
    · cases h; exact ⟨_, _, rfl, rfl, by assumption, rfl⟩
    · cases h
  · cases h
theorem od_pow : OpD X.K (rI CPow fun i j => .int (i ^ j.toNat)) dPow := od_I (gi := fun i j => .int (i ^ j.toNat)) (fun _ _ _ => .int _) fun d e g h => by
  unfold dPow at h
  split at h
  · split at h
    · cases h; exact ⟨_, _, rfl, rfl, by assumption, rfl⟩
    · cases h
  · cases h
theorem ud_neg : UnD X.K (rU fun i => .int (-i)) dNeg := by
  intro d g h F H x Q s hd q
  cases hd with
  | int i => cases h; exact ⟨i, rfl, q F H _ (Grow.refl s) (.int _)⟩
  | _ => cases h
end
/-! equality -/
mutual
def toPy : Dt → PyData
  | .non => .none
  | .bl b => .bool b
  | .int i => .int i
  | .str x => .str x
  | .tup xs => .tuple (toPys xs)
  | .lst xs => .list (toPys xs)
  | .ref _ => .dict []
  | .ty _ => .dict []
  | .scr _ => .dict []
  | .fn _ => .dict []
  | .dK _ => .dict []
  | .obj _ _ => .dict []
def toPys : List Dt → List PyData
  | [] => []
  | d :: ds => toPy d :: toPys ds
end
mutual
theorem Rp.dp {K : PySem.W.Frag} {F H : Hp} (s : Same F H) : ∀ {d : Dt} {v : V}, Rp K F d v → (toPy d).canLay0 = true → Dp K H v (toPy d)
  | _, _, .non, _ => by simp only [toPy]; exact .non
  | _, _, .bl b, _ => by simp only [toPy]; exact .bl b
  | _, _, .int i, _ => by simp only [toPy]; exact .int i
  | _, _, .str x, _ => by simp only [toPy]; exact .str x
  | _, _, .tup h r, c => by
    simp only [toPy] at c ⊢
    exact .tup (same_sqT s h) (Rps.dp s r (by simpa only [PyData.canLay0] using c))
  | _, _, .lst h r, c => by
    simp only [toPy] at c ⊢
    exact .lst (.inl (.inl (s _ _ h))) (Rps.dp s r (by simpa only [PyData.canLay0] using c))
  | _, _, .ref _, c => by simp [toPy, PyData.canLay0] at c
  | _, _, .ty _, c => by simp [toPy, PyData.canLay0] at c
  | _, _, .scr _, c => by simp [toPy, PyData.canLay0] at c
  | _, _, .fn _, c => by simp [toPy, PyData.canLay0] at c
  | _, _, .dK _ _ _, c => by simp [toPy, PyData.canLay0] at c
  | _, _, .obj _ _ _ _, c => by simp [toPy, PyData.canLay0] at c
theorem Rps.dp {K : PySem.W.Frag} {F H : Hp} (s : Same F H) : ∀ {ds : List Dt} {vs : List V}, Rps K F ds vs → PyData.canLayAll0 (toPys ds) = true → DpAll K H vs (toPys ds)
  | _, _, .nil, _ => by simp only [toPys]; exact .nil
  | _, _, .cons h r, c => by
    simp only [toPys, PyData.canLayAll0, Bool.and_eq_true] at c ⊢
    exact .cons (Rp.dp s h c.1) (Rps.dp s r c.2)
end
def okPy (d : Dt) : Bool := SeqAt.shaped (toPy d)
def eqB : Dt → Dt → Option Bool
  | .int i, .int j => some (decide (i = j))
  | .str x, .str y => some (decide (x = y))
  | .bl x, .bl y => some (decide (x = y))
  | d, e => if okPy d = true ∧ okPy e = true then some (PyData.eqv (toPy d) (toPy e)) else none
def dEq (d e : Dt) : Option Dt := (eqB d e).map .bl
def dNe (d e : Dt) : Option Dt := (eqB d e).map fun b => .bl (!b)
def isNon : Dt → Bool
  | .non => true
  | _ => false
def dIs : Dt → Dt → Option Dt
  | d, .non => some (.bl (isNon d))
  | _, _ => none
def dIsNot : Dt → Dt → Option Dt
  | d, .non => some (.bl (!isNon d))
  | _, _ => none
section
variable {X : Cx}
theorem isNon_ok {K : PySem.W.Frag} {F : Hp} {d : Dt} {v : V} (h : Rp K F d v) : decide (v = .non) = isNon d := by
  cases h <;> rfl
theorem od_is : OpD X.K (fun x y H Q => y = .non ∧ Q (.bl (decide (x = .non))) H) dIs := by
  intro d e g h F H x y Q s hd he q
  cases he with
  | non =>
    cases h
    refine ⟨rfl, ?_⟩
    rw [isNon_ok hd]
    exact q F H _ (Grow.refl s) (.bl _)
  | _ => cases h
theorem od_isNot : OpD X.K (fun x y H Q => y = .non ∧ Q (.bl (!decide (x = .non))) H) dIsNot := by
  intro d e g h F H x y Q s hd he q
  cases he with
  | non =>
    cases h
    refine ⟨rfl, ?_⟩
    rw [isNon_ok hd]
    exact q F H _ (Grow.refl s) (.bl _)
  | _ => cases h
theorem eqB_rule {d e : Dt} {b : Bool} (h : eqB d e = some b) {F H : Hp} {x y : V} (s : Same F H) (hd : Rp X.K F d x) (he : Rp X.K F e y) :
    (scal x y = true ∧ decide (x = y) = b) ∨ (∃ d' e', Dp X.K H x d' ∧ Dp X.K H y e' ∧ SeqAt.shaped d' = true ∧ SeqAt.shaped e' = true ∧ PyData.eqv d' e' = b) := by
  unfold eqB at h
  split at h
  · cases hd; cases he; cases h
    refine .inl ⟨rfl, ?_⟩
    simp
  · cases hd; cases he; cases h
    refine .inl ⟨rfl, ?_⟩
    simp
  · cases hd; cases he; cases h
    refine .inl ⟨rfl, ?_⟩
    simp
  · split at h
    · rename_i c
      cases h
      exact .inr ⟨_, _, hd.dp s (SeqAt.canLay_of_shaped c.1), he.dp s (SeqAt.canLay_of_shaped c.2), c.1, c.2, rfl⟩
    · cases h
theorem od_eq : OpD X.K (fun x y H Q => rEq x y H Q ∨ rEqD X.K x y H Q) dEq := by
  intro d e g h F H x y Q s hd he q
  unfold dEq at h
  cases hb : eqB d e with
  | none => rw [hb] at h; cases h
  | some b =>
    rw [hb] at h
    cases h
    rcases eqB_rule hb s hd he with ⟨a1, a2⟩ | ⟨d', e', a1, a2, a3, a4, a5⟩
    · exact .inl ⟨a1, by rw [a2]; exact q F H _ (Grow.refl s) (.bl _)⟩
    · exact .inr ⟨d', e', a1, a2, a3, a4, by rw [a5]; exact q F H _ (Grow.refl s) (.bl _)⟩
theorem od_ne : OpD X.K (fun x y H Q => rNe x y H Q ∨ rNeD X.K x y H Q) dNe := by
  intro d e g h F H x y Q s hd he q
  unfold dNe at h
  cases hb : eqB d e with
  | none => rw [hb] at h; cases h
  | some b =>
    rw [hb] at h
    cases h
    rcases eqB_rule hb s hd he with ⟨a1, a2⟩ | ⟨d', e', a1, a2, a3, a4, a5⟩
    · exact .inl ⟨a1, by rw [a2]; exact q F H _ (Grow.refl s) (.bl _)⟩
    · exact .inr ⟨d', e', a1, a2, a3, a4, by rw [a5]; exact q F H _ (Grow.refl s) (.bl _)⟩
theorem op_eqA (hu : X.A.units + 64 < cLine) : OpR X (compareOp .Eq) (fun x y H Q => rEq x y H Q ∨ rEqD X.K x y H Q) := op_eq.or (op_eqD hu)
theorem op_neA (hu : X.A.units + 64 < cLine) : OpR X (compareOp .NotEq) (fun x y H Q => rNe x y H Q ∨ rNeD X.K x y H Q) := op_ne.or (op_neD hu)
end
/-! calls of built-ins -/
def dAbs : List Dt → Option Dt
  | [.int i] => some (.int (if i < 0 then -i else i))
  | _ => none
def dLen : List Dt → Option Dt
  | [.lst xs] => some (.int xs.length)
  | [.tup xs] => some (.int xs.length)
  | [.str z] => if z.length ≤ 1000000 then some (.int z.length) else none
  | [.scr ns] => some (.int ns.length)
  | _ => none
def bools : List Dt → Option (List Bool)
  | [] => some []
  | .bl b :: ds => (bools ds).map (b :: ·)
  | _ => none
def dAll : List Dt → Option Dt
  | [.lst xs] => (bools xs).map fun bs => .bl (bs.all id)
  | _ => none
def tyName : Dt → Option String
  | .non => some "NoneType"
  | .bl _ => some "bool"
  | .int _ => some "int"
  | .str _ => some "str"
  | .tup _ => some "tuple"
  | .lst _ => some "list"
  | _ => none
def dIsi : List Dt → Option Dt
  | [d, .ty T] => match tyName d with
    | some t => (kitB t T).map .bl
    | none => none
  | _ => none
/-- list(x): a list of its own -/
def dListOf : List Dt → Option Dt
  | [.lst xs] => some (.lst xs)
  | [.tup xs] => some (.lst xs)
  | _ => none
def dTupOf : List Dt → Option Dt
  | [.lst xs] => some (.tup xs)
  | [.tup xs] => some (.tup xs)
  | _ => none
theorem bools_ok {K : PySem.W.Frag} {F : Hp} : ∀ {ds : List Dt} {vs : List V} {bs : List Bool}, Rps K F ds vs → bools ds = some bs → vs = bs.map V.bl
  | _, _, _, .nil, e => by cases e; rfl
  | _, _, bs, .cons (ds := ds) h r, e => by
    cases h with
    | bl b =>
      unfold bools at e
      cases q : bools ds with
      | none => rw [q] at e; cases e
      | some cs => rw [q] at e; cases e; rw [bools_ok r q]; rfl
    | _ => cases e
section
variable {X : Cx}
theorem cd_abs : CallD X.K (fun xs H Q => ∃ i, xs = [.int i] ∧ Q (.int (if i < 0 then -i else i)) H) dAbs := by
  intro ds g h F H vs Q s hr q
  unfold dAbs at h
  split at h
  · cases h
    match vs, hr with
    | _, .cons (.int i) .nil => exact ⟨i, rfl, q F H _ (Grow.refl s) (.int _)⟩
  · cases h
theorem cd_len : CallD X.K (fun xs H Q => ∃ x n, xs = [x] ∧ LenV X.K x H n ∧ Q (.int n) H) dLen := by
  intro ds g h F H vs Q s hr q
  unfold dLen at h
  split at h
  · cases h
    match vs, hr with
    | _, .cons (.lst hq hr) .nil => exact ⟨_, _, rfl, .inl ⟨_, .inl (.inl (s _ _ hq)), hr.length⟩, q F H _ (Grow.refl s) (.int _)⟩
  · cases h
    match vs, hr with
    | _, .cons (.tup hq hr) .nil => exact ⟨_, _, rfl, .inr ⟨_, same_sqT s hq, hr.length⟩, q F H _ (Grow.refl s) (.int _)⟩
  · split at h
    · rename_i hl
      cases h
      match vs, hr with
      | _, .cons (.str z) .nil => exact ⟨_, _, rfl, ⟨sz1m hl, rfl⟩, q F H _ (Grow.refl s) (.int _)⟩
    · cases h
  · cases h
    match vs, hr with
    | _, .cons (.scr hq) .nil => exact ⟨_, _, rfl, .inl ⟨_, s.seq hq, by simp⟩, q F H _ (Grow.refl s) (.int _)⟩
  · cases h
theorem cd_all : CallD X.K (rAll X.K) dAll := by
  intro ds g h F H vs Q s hr q
  unfold dAll at h
  split at h
  · rename_i xs
    match vs, hr with
    | _, .cons (.lst hq hr) .nil =>
      cases hb : bools xs with
      | none => rw [hb] at h; cases h
      | some bs =>
        rw [hb] at h
        cases h
        have e := bools_ok hr hb
        subst e
        exact ⟨_, bs, rfl, .inl (.inl (s _ _ hq)), q F H _ (Grow.refl s) (.bl _)⟩
  · cases h
theorem tyName_ok {F H : Hp} (s : Same F H) {d : Dt} {v : V} (h : Rp X.K F d v) {t : String} (e : tyName d = some t) : TyX X.K H v (.type t) := by
  cases h with
  | non => cases e; exact .base .non
  | bl b => cases e; exact .base (.bl b)
  | int i => cases e; exact .base (.int i)
  | str z => cases e; exact .base (.str z)
  | lst hq hr => cases e; exact .base (.lst (s _ _ hq))
  | tup hq hr =>
    cases e
    rcases hq with (hq | ⟨o, hq⟩) | ⟨o, its, n, hk, hc, _⟩
    · exact .base (.tup (s _ _ hq))
    · exact .fTuple (s _ _ hq)
    · exact .kTuple hk hc
  | _ => cases e
theorem cd_isi : CallD X.K (rIsi X.K) dIsi := by
  intro ds g h F H vs Q s hr q
  unfold dIsi at h
  split at h
  · rename_i d T
    match vs, hr with
    | _, .cons hd (.cons (.ty _) .nil) =>
      cases ht : tyName d with
      | none => rw [ht] at h; cases h
      | some t =>
        simp only [ht] at h
        cases hk : kitB t T with
        | none => rw [hk] at h; cases h
        | some b =>
          rw [hk] at h
          cases h
          exact ⟨_, _, _, _, b, rfl, .ty T, tyName_ok s hd ht, kit_ty hk, q F H _ (Grow.refl s) (.bl _)⟩
  · cases h
theorem cd_list : CallD X.K (fun xs H Q => ∃ p ys, xs = [.ref p] ∧ (SqL X.K H p ys ∨ SqT X.K H p ys) ∧ ∀ l, H l = none → Q (.ref l) (upd H l (.lst ys))) dListOf := by
  intro ds g h F H vs Q s hr q
  unfold dListOf at h
  split at h
  · cases h
    match vs, hr with
    | _, .cons (.lst hq hr) .nil =>
      refine ⟨_, _, rfl, .inl (.inl (.inl (s _ _ hq))), fun l nl => ?_⟩
      exact lay_lst s nl hr q
  · cases h
    match vs, hr with
    | _, .cons (.tup hq hr) .nil =>
      refine ⟨_, _, rfl, .inr (same_sqT s hq), fun l nl => ?_⟩
      exact lay_lst s nl hr q
  · cases h
theorem cd_tuple : CallD X.K (fun xs H Q => ∃ p ys, xs = [.ref p] ∧ ((SqL X.K H p ys ∧ ∀ l, H l = none → Q (.ref l) (upd H l (.tup ys))) ∨ (SqT X.K H p ys ∧ Q (.ref p) H))) dTupOf := by
  intro ds g h F H vs Q s hr q
  unfold dTupOf at h
  split at h
  · cases h
    match vs, hr with
    | _, .cons (.lst hq hr) .nil =>
      refine ⟨_, _, rfl, .inl ⟨.inl (.inl (s _ _ hq)), fun l nl => ?_⟩⟩
      exact lay_tup s nl hr q
  · cases h
    match vs, hr with
    | _, .cons (.tup hq hr) .nil => exact ⟨_, _, rfl, .inr ⟨same_sqT s hq, q F H _ (Grow.refl s) (.tup hq hr)⟩⟩
  · cases h
variable {P : Pt} {Wx : WX} {pos : Pos}
theorem d_bltn {x : Str} {n : String} (hg : Gl X x) (hm : X.mg x = none) (hv : bootBuiltins x = some (.type n)) (hn : x ≠ "__name__" := by decide) (hd : (x == ("__debug__" : Str)) = false := by decide) : PE X (.Name x pos) (LE X.K P Wx (eC (.ty n))) :=
  PEm (pe_bltn (v := .ty n) hg hm hv rfl hn hd) fun _ _ _ h => LE_c (fun _ => .ty n) h
end
/-! slices -/
def cutD {α : Type} (xs : List α) (lo hi : Option Int) : List α := (xs.drop (HT.sIx xs.length 0 lo)).take (HT.sIx xs.length xs.length hi - HT.sIx xs.length 0 lo)
def partD : Option Dt → Option (Option Int)
  | none => some none
  | some (.int i) => some (some i)
  | _ => none
def dSl (d : Dt) (lo hi : Option Int) : Option Dt := match d with
  | .lst xs => some (.lst (cutD xs lo hi))
  | .tup xs => some (.tup (cutD xs lo hi))
  | .scr ns => some (.lst ((cutD ns lo hi).map .int))
  | .str z => if z.length ≤ 1000000 then some (.str (cutS z lo hi)) else none
  | _ => none
def eSl (f : FE) (lo hi : Option FE) : FE := bindE f fun d => match lo, hi with
  | none, none => eV (dSl d none none)
  | some l, none => bindE l fun a => (match a with | .int i => eV (dSl d (some i) none) | _ => fun _ => none)
  | none, some h => bindE h fun b => (match b with | .int j => eV (dSl d none (some j)) | _ => fun _ => none)
  | some l, some h => bindE l fun a => (match a with | .int i => bindE h (fun b => match b with | .int j => eV (dSl d (some i) (some j)) | _ => fun _ => none) | _ => fun _ => none)
theorem Rps.ints {K : PySem.W.Frag} {F : Hp} : ∀ (ns : List Int), Rps K F (ns.map .int) (ns.map V.int)
  | [] => .nil
  | n :: ns => .cons (.int n) (Rps.ints ns)
section
variable {X : Cx} {P : Pt} {Wx : WX} {pos p2 : Pos} {e l h : Expr} {f fl fh : FE}
theorem sl_all : SlR X (fun x lo hi H Q => rSlL X.K x lo hi H Q ∨ rSlA X.K x lo hi H Q ∨ rSlS x lo hi H Q) := sl_list.or (sl_tupA.or sl_str)
theorem sd_all {d g : Dt} {lo hi : Option Int} (e : dSl d lo hi = some g) {F H : Hp} {x : V} {Q : VK} (s : Same F H) (hd : Rp X.K F d x) (q : ∀ F' H' z, Grow F H F' H' → Rp X.K F' g z → Q z H') : rSlL X.K x lo hi H Q ∨ rSlA X.K x lo hi H Q ∨ rSlS x lo hi H Q := by
  have hcut : ∀ {ds : List Dt} {vs : List V}, Rps X.K F ds vs → Rps X.K F (cutD ds lo hi) (cutV vs lo hi) := fun {ds vs} r => by
    unfold cutD cutV
    rw [← r.length]
    exact (r.drop _).take _
  cases hd with
  | lst hq hr =>
    cases e
    refine .inl ⟨_, _, rfl, .inl (.inl (s _ _ hq)), fun p np => ?_⟩
    exact lay_lst s np (hcut hr) q
  | scr hq =>
    cases e
    refine .inl ⟨_, _, rfl, s.seq hq, fun p np => ?_⟩
    refine lay_lst s np ?_ q
    have : ∀ ns : List Int, cutV (List.map V.int ns) lo hi = (cutD ns lo hi).map V.int := fun ns => by
      unfold cutV cutD
      rw [List.length_map, ← List.map_drop, ← List.map_take]
    rw [this]
    exact Rps.ints _
  | tup hq hr =>
    cases e
    refine .inr (.inl ⟨_, _, rfl, same_sqT s hq, fun hw => ?_, fun hw p np => ?_⟩)
    · rename_i ds
      have e1 : cutD ds lo hi = ds := by
        unfold cutD
        rw [hr.length, hw.1, hw.2, List.drop_zero, Nat.sub_zero, ← hr.length]
        exact List.take_length
      rw [e1] at q
      exact q F H _ (Grow.refl s) (.tup hq hr)
    · exact lay_tup s np (hcut hr) q
  | str z =>
    unfold dSl at e
    simp only [] at e
    split at e
    · rename_i hl
      cases e
      exact .inr (.inr ⟨z, rfl, sz1m hl, q F H _ (Grow.refl s) (.str _)⟩)
    · cases e
  | _ => cases e
theorem d_sl00 (he : PE X e (LE X.K P Wx f)) : PE X (.Subscript e (.Slice none none none p2) pos) (LE X.K P Wx (eSl f none none)) := PEm (pe_slice sl_all he po_none po_none) fun σ H Q h => by
  obtain ⟨F, ρ, r, q⟩ := h
  refine LE.bind r q fun d ρ1 F1 H1 x s1 r1 p1 q1 => ?_
  cases eo : dSl d none none with
  | none => simp only [eo] at q1; exact q1.elim
  | some g => simp only [eo] at q1; exact sd_all eo r1.fh p1 fun F' H' z g' pz => q1 F' H' z g'.f (r1.grow g') pz
theorem d_sl10 (he : PE X e (LE X.K P Wx f)) (hl : PE X l (LE X.K P Wx fl)) : PE X (.Subscript e (.Slice (some l) none none p2) pos) (LE X.K P Wx (eSl f (some fl) none)) := PEm (pe_slice sl_all he (po_some hl) po_none) fun σ H Q h => by
  obtain ⟨F, ρ, r, q⟩ := h
  refine LE.bind r q fun d ρ1 F1 H1 x s1 r1 p1 q1 => ?_
  refine LE.bind r1 q1 fun a ρ2 F2 H2 y s2 r2 p2 q2 => ?_
  cases p2 with
  | int i =>
    refine ⟨i, rfl, ?_⟩
    cases eo : dSl d (some i) none with
    | none => simp only [eo] at q2; exact q2.elim
    | some g => simp only [eo] at q2; exact sd_all eo r2.fh (p1.mono s2) fun F' H' z g' pz => q2 F' H' z g'.f (r2.grow g') pz
  | _ => exact q2.elim
theorem d_sl01 (he : PE X e (LE X.K P Wx f)) (hh : PE X h (LE X.K P Wx fh)) : PE X (.Subscript e (.Slice none (some h) none p2) pos) (LE X.K P Wx (eSl f none (some fh))) := PEm (pe_slice sl_all he po_none (po_some hh)) fun σ H Q h => by
  obtain ⟨F, ρ, r, q⟩ := h
  refine LE.bind r q fun d ρ1 F1 H1 x s1 r1 p1 q1 => ?_
  refine LE.bind r1 q1 fun a ρ2 F2 H2 y s2 r2 p2 q2 => ?_
  cases p2 with
  | int i =>
    refine ⟨i, rfl, ?_⟩
    cases eo : dSl d none (some i) with
    | none => simp only [eo] at q2; exact q2.elim
    | some g => simp only [eo] at q2; exact sd_all eo r2.fh (p1.mono s2) fun F' H' z g' pz => q2 F' H' z g'.f (r2.grow g') pz
  | _ => exact q2.elim
theorem d_sl11 (he : PE X e (LE X.K P Wx f)) (hl : PE X l (LE X.K P Wx fl)) (hh : PE X h (LE X.K P Wx fh)) : PE X (.Subscript e (.Slice (some l) (some h) none p2) pos) (LE X.K P Wx (eSl f (some fl) (some fh))) := PEm (pe_slice sl_all he (po_some hl) (po_some hh)) fun σ H Q h => by
  obtain ⟨F, ρ, r, q⟩ := h
  refine LE.bind r q fun d ρ1 F1 H1 x s1 r1 p1 q1 => ?_
  refine LE.bind r1 q1 fun a ρ2 F2 H2 y s2 r2 p2 q2 => ?_
  cases p2 with
  | int i =>
    refine ⟨i, rfl, ?_⟩
    refine LE.bind r2 q2 fun b ρ3 F3 H3 y s3 r3 p3 q3 => ?_
    cases p3 with
    | int j =>
      refine ⟨j, rfl, ?_⟩
      cases eo : dSl d (some i) (some j) with
      | none => simp only [eo] at q3; exact q3.elim
      | some g => simp only [eo] at q3; exact sd_all eo r3.fh (p1.mono (s2.trans s3)) fun F' H' z g' pz => q3 F' H' z g'.f (r3.grow g') pz
    | _ => exact q3.elim
  | _ => exact q2.elim
end
end DL
namespace DL
open PySem PySem.Spec PyProof.Rows L2
open Classical in
/-- the point of a frame: what is no slot's own list stays -/
noncomputable def Pfr (P : Pt) (F H : Hp) (σ : L2.St) (ρ : Rho) : Pt := ⟨F, fun p => if (∃ (i : Nat) (xs : List Dt), ρ[i]? = some (some (.own xs)) ∧ σ[i]? = some (some (.ref p))) then P.H0 p else H p, P.bs, P.ba, P.T⟩
/-- what is no slot's own list -/
def NoOwn (σ : L2.St) (ρ : Rho) (p : Addr) : Prop := ∀ (i : Nat) (xs : List Dt), ρ[i]? = some (some (.own xs)) → σ[i]? ≠ some (some (.ref p))
def Frm (F H F' H' : Hp) (σ : L2.St) (ρ : Rho) (σ' : L2.St) (ρ' : Rho) : Prop := ∀ p o, H p = some o → NoOwn σ ρ p → H' p = some o ∧ (F p = none → F' p = none) ∧ NoOwn σ' ρ' p
section
variable {K : PySem.W.Frag} {P : Pt} {F H F' H' : Hp} {σ : L2.St} {ρ ρ' : Rho}
theorem pfr_no {p : Addr} (h : NoOwn σ ρ p) : (Pfr P F H σ ρ).H0 p = H p := if_neg fun ⟨i, xs, a, b⟩ => h i xs a b
theorem pfr_own {p : Addr} {i : Nat} {xs : List Dt} (a : ρ[i]? = some (some (.own xs))) (b : σ[i]? = some (some (.ref p))) : (Pfr P F H σ ρ).H0 p = P.H0 p := if_pos ⟨i, xs, a, b⟩
theorem no_or (σ : L2.St) (ρ : Rho) (p : Addr) : NoOwn σ ρ p ∨ ∃ (i : Nat) (xs : List Dt), ρ[i]? = some (some (.own xs)) ∧ σ[i]? = some (some (.ref p)) := by
  by_cases h : ∃ (i : Nat) (xs : List Dt), ρ[i]? = some (some (.own xs)) ∧ σ[i]? = some (some (.ref p))
  · exact .inr h
  · exact .inl fun i xs a b => h ⟨i, xs, a, b⟩
theorem Rel.fr (R : Rel K P F H σ ρ) : Rel K (Pfr P F H σ ρ) F H σ ρ where
  fh := R.fh
  f0 := .refl _
  keep := fun p o h hb => by
    rcases no_or σ ρ p with n | ⟨i, xs, a, b⟩
    · rw [pfr_no n] at h; exact h
    · rw [pfr_own a b] at h
      exact R.keep p o h hb
  new := fun p o h => .inl h
  len := R.len
  slot := fun i w h => by
    obtain ⟨v, ev, q⟩ := R.slot i w h
    refine ⟨v, ev, ?_⟩
    cases w with
    | sh d => exact q
    | own xs =>
      obtain ⟨p, vs, e0, e1, e2, e3, z⟩ := q
      subst e0
      refine ⟨p, vs, rfl, e1, e2, e3, ?_⟩
      rcases z with z | z
      · left; rw [pfr_own h ev]; exact z
      · exact .inr z
  sep := R.sep
  bor := R.bor
  tb := R.tb
theorem Rel.unfr {σ' : L2.St} (R : Rel K P F H σ ρ) (R' : Rel K (Pfr P F H σ ρ) F' H' σ' ρ') : Rel K P F' H' σ' ρ' ∧ Frm F H F' H' σ ρ σ' ρ' := by
  have key : ∀ p, (Pfr P F H σ ρ).H0 p = none → P.H0 p = none := fun p h => by
    rcases no_or σ ρ p with n | ⟨i, xs, a, b⟩
    · rw [pfr_no n] at h; exact R.fresh h
    · rw [pfr_own a b] at h; exact h
  refine ⟨⟨R'.fh, R.f0.trans R'.f0, fun p o h hb => ?_, fun p o h => ?_, R'.len, fun i w h => ?_, R'.sep, R'.bor, R'.tb⟩, fun p o h n => ⟨?_, fun hf => ?_, fun i xs hi hs => ?_⟩⟩
  · refine R'.keep p o ?_ hb
    rcases no_or σ ρ p with n | ⟨i, xs, a, b⟩
    · rw [pfr_no n]; exact R.keep p o h hb
    · rw [pfr_own a b]; exact h
  · rcases R'.new p o h with h1 | h1
    · exact R.new p o h1
    · exact .inr (key p h1)
  · obtain ⟨v, ev, q⟩ := R'.slot i w h
    refine ⟨v, ev, ?_⟩
    cases w with
    | sh d => exact q
    | own xs =>
      obtain ⟨p, vs, e0, e1, e2, e3, z⟩ := q
      refine ⟨p, vs, e0, e1, e2, e3, ?_⟩
      rcases z with z | z
      · exact .inl (key p z)
      · exact .inr z
  · refine R'.keep p o (by rw [pfr_no n]; exact h) fun ⟨j, hj, e⟩ => ?_
    obtain ⟨b1, xs, b2⟩ := R.bor j hj
    have e' : P.ba j = p := e
    rw [e'] at b1
    exact n j xs b2 b1
  · cases q : F' p with
    | none => rfl
    | some u =>
      rcases R'.new p u q with h1 | h1
      · have h1' : F p = some u := h1
        rw [hf] at h1'; cases h1'
      · rw [pfr_no n, h] at h1; cases h1
  · obtain ⟨v, ev, p', vs, e0, _, _, _, z⟩ := R'.slot i _ hi
    subst e0
    rw [hs] at ev
    cases ev
    rcases z with z | ⟨z1, z2⟩
    · rw [pfr_no n, h] at z; cases z
    · obtain ⟨b1, ys, b2⟩ := R.bor i z1
      have e' : P.ba i = p := z2
      rw [e'] at b1
      exact n i ys b2 b1
end
section
variable (K : PySem.W.Frag) (P : Pt) (Wx : WX)
def LEf (f : FE) : TE := fun σ H Q => ∃ F ρ, Rel K P F H σ ρ ∧ match f ρ with
  | none => False
  | some (.ok d, ρ') => ∀ F' H' v, Same F F' → Rel K P F' H' σ ρ' → Rp K F' d v → Frm F H F' H' σ ρ σ ρ' → Q v H'
  | some (.ex C fs, ρ') => ∀ F' H' cls dd, Same F F' → Rel K P F' H' σ ρ' → Xp K F' cls dd C fs → Wx cls dd σ H'
def LTf (f : FE) : TT := tB (LEf K P Wx f)
end
section
variable {X : Cx} {P : Pt} {Wx : WX} {e : Expr} {es : List Expr} {f : FE}
theorem LEf.to {σ : L2.St} {H : Hp} {Q : VK} (h : LEf X.K P Wx f σ H Q) : ∃ P', P'.bs = P.bs ∧ LE X.K P' Wx f σ H Q := by
  obtain ⟨F, ρ, R, q⟩ := h
  refine ⟨Pfr P F H σ ρ, rfl, F, ρ, R.fr, ?_⟩
  match e : f ρ with
  | none => simp only [e] at q
  | some (.ok d, ρ') =>
    simp only [e] at q
    intro F' H' v s1 r1 p1
    obtain ⟨a, b⟩ := R.unfr r1
    exact q F' H' v s1 a p1 b
  | some (.ex C fs, ρ') =>
    simp only [e] at q
    intro F' H' cls dd s1 r1 xp
    exact q F' H' cls dd s1 (R.unfr r1).1 xp
theorem d_fr (h : ∀ P', P'.bs = P.bs → PE X e (LE X.K P' Wx f)) : PE X e (LEf X.K P Wx f) := ⟨fun pins s σ H Q I q => by
  obtain ⟨P', e, q⟩ := LEf.to q
  exact (h P' e).run pins s σ H Q I q⟩
theorem t_fr (h : ∀ P', P'.bs = P.bs → PTs X es (LT X.K P' Wx f)) : PTs X es (LTf X.K P Wx f) := ⟨fun pins s σ H Q I q => by
  obtain ⟨P', e, q⟩ := LEf.to q
  exact (h P' e).run pins s σ H Q I q⟩
theorem ts_nil : PTs X [] (LT X.K P Wx (eC (.bl true))) := ⟨fun pins s σ H Q I q => pts_nil.run pins s σ H Q I (by
  obtain ⟨k, e1, e2⟩ := LE_c (v := .bl true) (fun _ => .bl true) q
  cases e1
  exact e2)⟩
theorem ts_one (h : PT X e (LT X.K P Wx f)) : PTs X [e] (LT X.K P Wx f) := pts_one h
end
def LGf (K : PySem.W.Frag) (P : Pt) (ts : List Nat) (g : GD) : TG := fun v σ H Q => ∃ F ρ d ρ', Rel K P F H σ ρ ∧ Rp K F d v ∧ g d ρ = some ρ' ∧ ∀ σ', Rel K P F H σ' ρ' → But ts σ σ' → (∀ p o, H p = some o → NoOwn σ ρ p → NoOwn σ' ρ' p) → Q σ' H
theorem g_fr {X : Cx} {P : Pt} {e : Expr} {ts : List Nat} {g : GD} (h : ∀ P', P'.bs = P.bs → PG X e (LG X.K P' ts g)) : PG X e (LGf X.K P ts g) := ⟨fun pins s σ H v u Q I r q => by
  obtain ⟨F, ρ, d, ρ', R, p, e, q⟩ := q
  refine (h (Pfr P F H σ ρ) rfl).run pins s σ H v u Q I r ⟨F, ρ, d, ρ', R.fr, p, e, fun σ' R' b => ?_⟩
  obtain ⟨a, f⟩ := R.unfr R'
  exact q σ' a b fun p o hp hn => (f p o hp hn).2.2⟩
/-! ### a comprehension -/
def wipeR (ρ : Rho) : List Nat → Rho
  | [] => ρ
  | v :: vs => (wipeR ρ vs).set v none
def keepSh : Option (Option Wt) → Option Wt
  | some (some (.sh d)) => some (.sh d)
  | _ => none
def restR (ρ1 ρ2 : Rho) : List Nat → Rho
  | [] => ρ2
  | v :: vs => (restR ρ1 ρ2 vs).set v (keepSh ρ1[v]?)
def lcD (vs : List Nat) (g : GD) (ft fe : FE) : List Dt → Rho → List Dt → Option (List Dt × Rho)
  | [], ρ, acc => some (acc, ρ)
  | d :: ds, ρ, acc => match g d ρ with
    | none => none
    | some ρ1 => match ft ρ1 with
      | some (.ok (.bl true), ρ2) => (match fe ρ2 with
        | some (.ok y, ρ3) => if acc.length < 100000 then lcD vs g ft fe ds (wipeR ρ3 vs) (acc ++ [y]) else none
        | _ => none)
      | some (.ok (.bl false), ρ2) => lcD vs g ft fe ds (wipeR ρ2 vs) acc
      | _ => none
def wLc (vs : List Nat) (fi : FI) (g : GD) (ft fe : FE) : FW := fun ρ => match fi ρ with
  | none => none
  | some (.ex C fs, ρ1) => some (.ex C fs, ρ1)
  | some (.ok ds, ρ1) => match lcD vs g ft fe ds (wipeR ρ1 vs) [] with
    | none => none
    | some (acc, ρ2) => some (.ok (.own acc), restR ρ1 ρ2 vs)
theorem wipeR_len (ρ : Rho) : ∀ vs : List Nat, (wipeR ρ vs).length = ρ.length
  | [] => rfl
  | v :: vs => by simp [wipeR, wipeR_len ρ vs]
theorem wipeR_some {ρ : Rho} {i : Nat} {w : Wt} : ∀ {vs : List Nat}, (wipeR ρ vs)[i]? = some (some w) → ρ[i]? = some (some w) ∧ i ∉ vs
  | [], h => ⟨h, by simp⟩
  | v :: vs, h => by
    unfold wipeR at h
    by_cases hi : v = i
    · subst hi
      by_cases hv : v < (wipeR ρ vs).length
      · rw [List.getElem?_set_self hv] at h; cases h
      · rw [List.getElem?_eq_none (by simpa using hv)] at h; cases h
    · rw [List.getElem?_set_ne hi] at h
      obtain ⟨h1, h2⟩ := wipeR_some h
      exact ⟨h1, by simp only [List.mem_cons, not_or]; exact ⟨fun e => hi e.symm, h2⟩⟩
theorem wipeR_out {ρ : Rho} {i : Nat} : ∀ {vs : List Nat}, i ∉ vs → (wipeR ρ vs)[i]? = ρ[i]?
  | [], _ => rfl
  | v :: vs, h => by
    simp only [List.mem_cons, not_or] at h
    unfold wipeR
    rw [List.getElem?_set_ne (fun e => h.1 e.symm)]
    exact wipeR_out h.2
theorem restR_len (ρ1 ρ2 : Rho) : ∀ vs : List Nat, (restR ρ1 ρ2 vs).length = ρ2.length
  | [] => rfl
  | v :: vs => by simp [restR, restR_len ρ1 ρ2 vs]
theorem restR_some {ρ1 ρ2 : Rho} {i : Nat} {w : Wt} : ∀ {vs : List Nat}, (restR ρ1 ρ2 vs)[i]? = some (some w) → (i ∉ vs ∧ ρ2[i]? = some (some w)) ∨ (∃ d, w = .sh d ∧ ρ1[i]? = some (some (.sh d)))
  | [], h => .inl ⟨by simp, h⟩
  | v :: vs, h => by
    unfold restR at h
    by_cases hi : v = i
    · subst hi
      by_cases hv : v < (restR ρ1 ρ2 vs).length
      · rw [List.getElem?_set_self hv] at h
        match e : ρ1[v]? with
        | none => simp only [e, keepSh] at h; cases h
        | some none => simp only [e, keepSh] at h; cases h
        | some (some (.own xs)) => simp only [e, keepSh] at h; cases h
        | some (some (.sh d)) => simp only [e, keepSh] at h; cases h; exact .inr ⟨d, rfl, rfl⟩
      · rw [List.getElem?_eq_none (by simpa using hv)] at h; cases h
    · rw [List.getElem?_set_ne hi] at h
      rcases restR_some h with ⟨h1, h2⟩ | h
      · exact .inl ⟨by simp only [List.mem_cons, not_or]; exact ⟨fun e => hi e.symm, h1⟩, h2⟩
      · exact .inr h
theorem restR_out {ρ1 ρ2 : Rho} {i : Nat} : ∀ {vs : List Nat}, i ∉ vs → (restR ρ1 ρ2 vs)[i]? = ρ2[i]?
  | [], _ => rfl
  | v :: vs, h => by
    simp only [List.mem_cons, not_or] at h
    unfold restR
    rw [List.getElem?_set_ne (fun e => h.1 e.symm)]
    exact restR_out h.2
section
variable {K : PySem.W.Frag} {P : Pt} {F H F' H' : Hp} {σ σ' : L2.St} {ρ ρ' : Rho}
/-- other slots: what is known of them was known -/
theorem Rel.reslot (R : Rel K P F H σ ρ) (hl : ρ'.length = σ'.length) (h : ∀ (i : Nat) (w : Wt), ρ'[i]? = some (some w) → ρ[i]? = some (some w) ∧ σ'[i]? = σ[i]?) (hb : ∀ j, j ∈ P.bs → ρ'[j]? = ρ[j]? ∧ σ'[j]? = σ[j]?) : Rel K P F H σ' ρ' where
  fh := R.fh
  f0 := R.f0
  keep := R.keep
  new := R.new
  len := hl
  slot := fun i w hi => by
    obtain ⟨a, b⟩ := h i w hi
    rw [b]
    exact R.slot i w a
  sep := fun i j xs ys p h1 h2 h3 h4 => by
    obtain ⟨a1, b1⟩ := h i _ h1
    obtain ⟨a2, b2⟩ := h j _ h2
    rw [b1] at h3
    rw [b2] at h4
    exact R.sep i j xs ys p a1 a2 h3 h4
  tb := R.tb
  bor := fun j hj => by
    obtain ⟨a, b⟩ := hb j hj
    rw [a, b]
    exact R.bor j hj
theorem Rel.wipe {vs : List Nat} (R : Rel K P F H σ ρ) (hv : ∀ v, v ∈ vs → v ∉ P.bs) : Rel K P F H (L2.wipe σ vs) (wipeR ρ vs) :=
  R.reslot (by rw [wipeR_len, wipe_length]; exact R.len) (fun i w h => by
    obtain ⟨a, b⟩ := wipeR_some h
    exact ⟨a, wipe_out b⟩) fun j hj => by
    have hn : j ∉ vs := fun e => hv j e hj
    exact ⟨wipeR_out hn, wipe_out hn⟩
theorem wipe_eq {ts vs : List Nat} (b : But ts σ σ') (h : ∀ t, t ∈ ts → t ∈ vs) : L2.wipe σ' vs = L2.wipe σ vs := by
  apply List.ext_getElem?
  intro i
  by_cases hi : i ∈ vs
  · have key : ∀ (τ : L2.St) (us : List Nat), i ∈ us → (L2.wipe τ us)[i]? = if i < τ.length then some none else none := by
      intro τ us
      induction us with
      | nil => intro h; simp at h
      | cons u us ih =>
        intro hu
        unfold L2.wipe
        by_cases e : u = i
        · subst e
          by_cases hl : u < (L2.wipe τ us).length
          · rw [List.getElem?_set_self hl, if_pos (by rw [wipe_length] at hl; exact hl)]
          · rw [List.getElem?_eq_none (by simpa using hl), if_neg (by rw [wipe_length] at hl; exact hl)]
        · rw [List.getElem?_set_ne e]
          rcases List.mem_cons.mp hu with hu | hu
          · exact absurd hu.symm e
          · exact ih hu
    rw [key σ' vs hi, key σ vs hi, b.len]
  · rw [wipe_out hi, wipe_out hi]
    exact b.get i fun e => hi (h i e)
theorem But.wipe (σ : L2.St) (vs : List Nat) : But vs σ (L2.wipe σ vs) := ⟨wipe_length σ vs, fun i hi => wipe_out hi⟩
end
abbrev W0 : WX := fun _ _ _ _ => False
section
variable {X : Cx} {P : Pt} {Wx : WX} {elt tg iter : Expr} {ifs : List Expr} {scope : Scope} {own : List (Str × Nat)} {pos : Pos} {fi : FI} {g : GD} {ts : List Nat} {ft fe : FE}
theorem LW_lc {vs : List Nat} (hv : ∀ v, v ∈ vs → v ∉ P.bs) (hts : ∀ t, t ∈ ts → t ∈ vs) {σ : L2.St} {H : Hp} {Q : VK} (h : LW X.K P Wx (wLc vs fi g ft fe) σ H Q) :
    tLc (LI X.K P Wx fi) (LGf X.K P ts g) (LTf X.K P W0 ft) (LEf X.K P W0 fe) vs σ H Q := by
  obtain ⟨F, ρ, r, q⟩ := h
  refine ⟨F, ρ, r, ?_⟩
  unfold wLc at q
  match e : fi ρ with
  | none => simp only [e] at q; exact q.elim
  | some (.ex C fs, ρ1) => simp only [e] at q; exact q
  | some (.ok ds, ρ1) =>
    simp only [e] at q
    intro F1 H1 J s1 r1 wk D nD
    match e2 : lcD vs g ft fe ds (wipeR ρ1 vs) [] with
    | none => simp only [e2] at q; exact q.elim
    | some (accF, ρF) =>
      simp only [e2] at q
      have gD := Grow.laid (o := .lst []) r1.fh nD
      have rD := (r1.grow gD).wipe hv
      refine ⟨fun i m H => m = ds.length - i ∧ i ≤ ds.length ∧ ∃ F' ρ' acc us, Same F1 F' ∧ Rel X.K P F' H (L2.wipe σ vs) ρ' ∧ H D = some (.lst us) ∧ F' D = none ∧ Rps X.K F' acc us ∧ NoOwn (L2.wipe σ vs) ρ' D ∧ lcD vs g ft fe (ds.drop i) ρ' acc = some (accF, ρF),
        ⟨ds.length, by simp, Nat.zero_le _, F1, wipeR ρ1 vs, [], [], .refl _, rD, upd_same, free_of r1.fh nD, .nil, fun i xs hi hs => ?_, e2⟩, ?_⟩
      · obtain ⟨a, b⟩ := wipeR_some hi
        rw [wipe_out b] at hs
        obtain ⟨p', us, ev, _, e4, _⟩ := r1.own a
        rw [hs] at ev
        cases ev
        rw [nD] at e4
        cases e4
      · rintro i m H ⟨rfl, hi, F2, ρ2, acc, us, s2, r2, hD, fD, ra, no, el⟩
        by_cases hlt : i < ds.length
        · refine .inr ⟨wk.goes i H hlt (s2.trans r2.fh), fun H => ∃ F' ρ' acc us, Same F1 F' ∧ Rel X.K P F' H (L2.wipe σ vs) ρ' ∧ H D = some (.lst us) ∧ F' D = none ∧ Rps X.K F' acc us ∧ NoOwn (L2.wipe σ vs) ρ' D ∧ lcD vs g ft fe (ds.drop (i + 1)) ρ' acc = some (accF, ρF),
            fun H' h => ⟨ds.length - (i + 1), by omega, rfl, hlt, h⟩, fun x H' y => ?_⟩
          obtain ⟨G', d, k1, k2, k3⟩ := wk.yields i H x H' F2 hlt s2 r2.fh y
          have hd : ds.drop i = d :: ds.drop (i + 1) := by
            rw [List.drop_eq_getElem_cons hlt]
            congr 1
            rw [List.getElem?_eq_getElem hlt] at k1
            exact Option.some.inj k1
          rw [hd] at el
          unfold lcD at el
          cases e3 : g d ρ2 with
          | none => simp only [e3] at el; cases el
          | some ρ3 =>
            simp only [e3] at el
            have hD' : H' D = some (.lst us) := k2.h _ _ hD
            have fD' : G' D = none := by
              cases q : G' D with
              | none => rfl
              | some o =>
                rcases k2.new D o q with h1 | h1
                · rw [fD] at h1; cases h1
                · rw [hD] at h1; cases h1
            refine ⟨G', ρ2, d, ρ3, r2.grow k2, k3, e3, fun σ3 r3 b3 n3 => ⟨?_, G', ρ3, r3, ?_⟩⟩
            · rw [wipe_eq b3 hts]
              exact wipe_eq (.wipe σ vs) fun t h => h
            · have no3 := n3 D _ hD' no
              have wp : L2.wipe σ3 vs = L2.wipe σ vs := (wipe_eq b3 hts).trans (wipe_eq (.wipe σ vs) fun t h => h)
              have back : ∀ {F5 H5 : Hp} {ρ5 : Rho}, Rel X.K P F5 H5 σ3 ρ5 → Rel X.K P F5 H5 (L2.wipe σ vs) (wipeR ρ5 vs) := fun r5 => by
                rw [← wp]
                exact r5.wipe hv
              have noback : ∀ {ρ5 : Rho}, NoOwn σ3 ρ5 D → NoOwn (L2.wipe σ vs) (wipeR ρ5 vs) D := fun {ρ5} n5 j xs hj hs => by
                obtain ⟨a, b⟩ := wipeR_some hj
                rw [← wp, wipe_out b] at hs
                exact n5 j xs a hs
              match e4 : ft ρ3 with
              | none => simp only [e4] at el; cases el
              | some (.ex C fs, ρ4) => simp only [e4] at el; cases el
              | some (.ok b, ρ4) =>
                simp only [e4] at el ⊢
                intro F4 H4 v s4 r4 p4 f4
                obtain ⟨f41, f42, f43⟩ := f4 D _ hD' no3
                cases p4 with
                | bl k =>
                  refine ⟨k, rfl, ?_⟩
                  cases k with
                  | false =>
                    rw [if_neg Bool.false_ne_true]
                    exact ⟨F4, wipeR ρ4 vs, acc, us, (s2.trans k2.f).trans s4, back r4, f41, f42 fD', ra.mono (k2.f.trans s4), noback f43, el⟩
                  | true =>
                    rw [if_pos rfl]
                    match e5 : fe ρ4 with
                    | none => simp only [e5] at el; cases el
                    | some (.ex C fs, ρ5) => simp only [e5] at el; cases el
                    | some (.ok y, ρ5) =>
                      simp only [e5] at el
                      split at el
                      · rename_i hl
                        refine ⟨F4, ρ4, r4, ?_⟩
                        rw [e5]
                        intro F5 H5 v5 s5 r5 p5 f5
                        obtain ⟨f51, f52, f53⟩ := f5 D _ f41 f43
                        have ra5 := ra.mono ((k2.f.trans s4).trans s5)
                        refine ⟨us, f51, by rw [← ra.length]; exact sz1000' hl, F5, wipeR ρ5 vs, acc ++ [y], us ++ [v5], ((s2.trans k2.f).trans s4).trans s5, ?_, upd_same, f52 (f42 fD'), ra5.append (.cons p5 .nil), noback f53, el⟩
                        -- the list at D is written
                        have rb := back r5
                        have nb := noback f53
                        exact ⟨fun p o h => by
                            have hp : p ≠ D := fun z => by subst z; rw [f52 (f42 fD')] at h; cases h
                            rw [upd_ne hp]; exact rb.fh p o h, rb.f0, fun p o h hb => by
                            have hp : p ≠ D := fun z => by
                              subst z
                              rw [r1.fresh nD] at h; cases h
                            rw [upd_ne hp]; exact rb.keep p o h hb, rb.new, rb.len, fun j w hj => by
                            obtain ⟨v, ev, q⟩ := rb.slot j w hj
                            refine ⟨v, ev, ?_⟩
                            cases w with
                            | sh d => exact q
                            | own xs =>
                              obtain ⟨p, vs', e0, q1, q2, q3, q4⟩ := q
                              refine ⟨p, vs', e0, q1, ?_, q3, q4⟩
                              have hp : p ≠ D := fun z => by
                                subst z
                                subst e0
                                exact nb j xs hj ev
                              rw [upd_ne hp]; exact q2, rb.sep, rb.bor, fun t ht => ⟨(rb.tb t ht).1, tab_upd (rb.tb t ht).2 f51⟩⟩
                      · cases el
                | _ => cases el
        · have e' : i = ds.length := by omega
          subst e'
          rw [List.drop_length] at el
          unfold lcD at el
          cases el
          refine .inl ⟨wk.stops H (s2.trans r2.fh), q F2 H (.ref D) (s1.trans s2) ?_ ⟨D, us, rfl, fD, hD, ra, r1.fresh nD, fun j ys hj hs => ?_⟩⟩
          · refine ⟨r2.fh, r2.f0, r2.keep, r2.new, ?_, fun j w hj => ?_, fun a b xs ys p h1 h2 h3 h4 => ?_, fun j hj => ?_, r2.tb⟩
            · rw [restR_len, r2.len, wipe_length]
            · rcases restR_some hj with ⟨a, b⟩ | ⟨d, e0, b⟩
              · obtain ⟨v, ev, q⟩ := r2.slot j w b
                rw [wipe_out a] at ev
                exact ⟨v, ev, q⟩
              · subst e0
                obtain ⟨v, ev, q⟩ := r1.slot j _ b
                exact ⟨v, ev, Rp.mono s2 q⟩
            · rcases restR_some h1 with ⟨a1, b1⟩ | ⟨d, e0, _⟩
              · rcases restR_some h2 with ⟨a2, b2⟩ | ⟨d, e0, _⟩
                · exact r2.sep a b xs ys p b1 b2 (by rw [wipe_out a1]; exact h3) (by rw [wipe_out a2]; exact h4)
                · cases e0
              · cases e0
            · have hn : j ∉ vs := fun z => hv j z hj
              rw [restR_out hn, ← wipe_out (σ := σ) hn]
              exact r2.bor j hj
          · rcases restR_some hj with ⟨a, b⟩ | ⟨d, e0, _⟩
            · exact no j ys b (by rw [wipe_out a]; exact hs)
            · cases e0
theorem w_lc {vs : List Nat} (hc : X.calm = true) (hN : X.N.Nodup) (hi : PI X tg iter (LI X.K P Wx fi)) (ok : BlkOk X.N X.env.scope scope own) (hw : own.map (·.2) = vs) (hv : ∀ v, v ∈ vs → v ∉ P.bs) (hts : ∀ t, t ∈ ts → t ∈ vs)
    (hg : ∀ (s : Shared) (H : Hp) (C : Addr) (cl : List (Str × Addr)) (fp : List Addr) (P' : Pt), P'.bs = P.bs → PG (X.blk s H scope (compEnvC scope cl C X.env) fp) tg (LG X.K P' ts g))
    (ht : ∀ (s : Shared) (H : Hp) (C : Addr) (cl : List (Str × Addr)) (fp : List Addr) (P' : Pt), P'.bs = P.bs → PTs (X.blk s H scope (compEnvC scope cl C X.env) fp) ifs (LT X.K P' W0 ft))
    (he : ∀ (s : Shared) (H : Hp) (C : Addr) (cl : List (Str × Addr)) (fp : List Addr) (P' : Pt), P'.bs = P.bs → PE (X.blk s H scope (compEnvC scope cl C X.env) fp) elt (LE X.K P' W0 fe)) (hs : ∀ x, foldedSetIterable iter X.env x = pure x := by intro _; rfl) :
    PE X (.ListComp elt [⟨tg, iter, ifs, 0⟩] scope pos) (LW X.K P Wx (wLc vs fi g ft fe)) := by
  subst hw
  exact PEm (pe_lc hc hN hi ok (fun s H C cl fp => g_fr (X := X.blk s H scope (compEnvC scope cl C X.env) fp) (hg s H C cl fp)) (fun s H C cl fp => t_fr (X := X.blk s H scope (compEnvC scope cl C X.env) fp) (ht s H C cl fp)) (fun s H C cl fp => d_fr (X := X.blk s H scope (compEnvC scope cl C X.env) fp) (he s H C cl fp)) hs)
    fun σ H Q h => LW_lc hv hts h
end
end DL
namespace DL
open PySem PySem.Spec PyProof.Rows L2 RZ
/-! ### zip, enumerate -/
def zipD (xs ys : List Dt) : List Dt := List.zipWith (fun a b => .tup [a, b]) xs ys
def zipO : List Dt → Option (List Dt)
  | [.lst xs, .lst ys] => some (zipD xs ys)
  | [.tup xs, .tup ys] => some (zipD xs ys)
  | _ => none
def enumD (xs : List Dt) : List Dt := List.zipWith (fun (i : Nat) b => .tup [.int i, b]) (List.range xs.length) xs
def enumO : List Dt → Option (List Dt)
  | [.lst xs] => some (enumD xs)
  | _ => none
section
variable {K : PySem.W.Frag} {F : Hp} {a b : Addr} {vs us : List V} {ds es : List Dt}
theorem zipD_len : (zipD ds es).length = min ds.length es.length := by simp [zipD]
theorem pair_ok {G H : Hp} {d e : Dt} {x y : V} {T : Addr} (s : Same G H) (nT : H T = none) (hd : Rp K G d x) (he : Rp K G e y) : ∃ G', Grow G H G' (upd H T (.tup [x, y])) ∧ Rp K G' (.tup [d, e]) (.ref T) :=
  have gg := Grow.lay (o := .tup [x, y]) s nT
  ⟨_, gg, .tup (.inl (.inl upd_same)) (.cons (hd.mono gg.f) (.cons (he.mono gg.f) .nil))⟩
theorem walkD_zip (h : SqL K F a vs) (h2 : SqL K F b us) (r : Rps K F ds vs) (r2 : Rps K F es us) : WalkD K F (Itz K a b) (zipD ds es) where
  goes := fun i H hi s => (walk_zip (xs := vs) (ys := us) rfl).goes i H (by rw [zipD_len, r.length, r2.length] at hi; exact hi) ⟨s.seq h, s.seq h2⟩
  stops := fun H s => by
    rw [zipD_len, r.length, r2.length]
    exact (walk_zip (xs := vs) (ys := us) rfl).stops H ⟨s.seq h, s.seq h2⟩
  yields := fun i H x H' G hi s1 s2 y => by
    obtain ⟨T, x1, y1, rfl, nT, rfl, e1, e2⟩ := (walk_zip (xs := vs) (ys := us) rfl).yields i H x H' (by rw [zipD_len, r.length, r2.length] at hi; exact hi) ⟨(s1.trans s2).seq h, (s1.trans s2).seq h2⟩ y
    obtain ⟨d, k1, k2⟩ := r.getV e1
    obtain ⟨e, k3, k4⟩ := r2.getV e2
    obtain ⟨G', g1, g2⟩ := pair_ok s2 nT (k2.mono s1) (k4.mono s1)
    exact ⟨G', .tup [d, e], by simp [zipD, List.getElem?_zipWith, k1, k3], g1, g2⟩
theorem walkD_zipT (h : SqT K F a vs) (h2 : SqT K F b us) (r : Rps K F ds vs) (r2 : Rps K F es us) : WalkD K F (ItzT K a b) (zipD ds es) where
  goes := fun i H hi s => by
    rw [zipD_len, r.length, r2.length] at hi
    exact ⟨vs, us, vs[i], us[i], same_sqT s h, same_sqT s h2, by simp [show i < vs.length by omega], by simp [show i < us.length by omega]⟩
  stops := fun H s => by
    rw [zipD_len, r.length, r2.length]
    exact ⟨vs, us, same_sqT s h, same_sqT s h2, by omega⟩
  yields := fun i H x H' G hi s1 s2 y => by
    obtain ⟨T, x1, y1, rfl, nT, rfl, e1, e2⟩ := y
    obtain ⟨d, k1, k2⟩ := r.getV (e1 vs (same_sqT (s1.trans s2) h))
    obtain ⟨e, k3, k4⟩ := r2.getV (e2 us (same_sqT (s1.trans s2) h2))
    obtain ⟨G', g1, g2⟩ := pair_ok s2 nT (k2.mono s1) (k4.mono s1)
    exact ⟨G', .tup [d, e], by simp [zipD, List.getElem?_zipWith, k1, k3], g1, g2⟩
theorem walkD_enum (h : SqL K F a vs) (r : Rps K F ds vs) : WalkD K F (Ite K a) (enumD ds) where
  goes := fun i H hi s => walk_enum.goes i H (by simpa [enumD, r.length] using hi) (s.seq h)
  stops := fun H s => by simpa [enumD, r.length] using walk_enum.stops H (s.seq h)
  yields := fun i H x H' G hi s1 s2 y => by
    have hi' : i < vs.length := by simpa [enumD, r.length] using hi
    obtain ⟨T, x1, y1, rfl, nT, rfl, e1, e2⟩ := walk_enum.yields i H x H' hi' ((s1.trans s2).seq h) y
    cases e1
    obtain ⟨d, k1, k2⟩ := r.getV e2
    obtain ⟨G', g1, g2⟩ := pair_ok (d := .int (i : Nat)) s2 nT (.int _) (k2.mono s1)
    exact ⟨G', .tup [.int (i : Nat), d], by simp [enumD, List.getElem?_zipWith, k1, List.getElem?_range (show i < ds.length by rw [r.length]; exact hi')], g1, g2⟩
end
section
variable {X : Cx} {P : Pt} {Wx : WX} {pos p tpos : Pos} {elts : List Expr} {kk : Nat} {e e2 : Expr} {fa : FA}
theorem i_zip (hg : Gl X "zip") (hm : X.mg "zip" = none) (ha : PA X [e, e2] (LA X.K P Wx fa)) (hs : starEach [e, e2] X.env = (false, eval e X.env) :: starEach [e2] X.env := by rfl) (hpl : (backTo pos (starEach [e2] X.env)).any (·.1) = false := by rfl) :
    PI X (.Tuple elts kk tpos) (.Call (.Name "zip" p) [e, e2] [] pos) (LI X.K P Wx (iArgs zipO fa)) :=
  PIm (pi_zipA hg hm ha hs hpl) fun σ H R h => LA.bindI h fun ds es F1 H1 vs rp sF e k => by
    match ds, rp, e with
    | [.lst xs, .lst ys], .cons (.lst h1 r1) (.cons (.lst h2 r2) .nil), e =>
      cases e
      exact ⟨_, _, _, _, rfl, .inl ⟨.inl (.inl (sF _ _ h1)), .inl (.inl (sF _ _ h2)), k _ (walkD_zip (.inl (.inl h1)) (.inl (.inl h2)) r1 r2)⟩⟩
    | [.tup xs, .tup ys], .cons (.tup h1 r1) (.cons (.tup h2 r2) .nil), e =>
      cases e
      exact ⟨_, _, _, _, rfl, .inr ⟨same_sqT sF h1, same_sqT sF h2, k _ (walkD_zipT h1 h2 r1 r2)⟩⟩
theorem i_enum (hg : Gl X "enumerate") (hm : X.mg "enumerate" = none) (ha : PA X [e] (LA X.K P Wx fa)) (hs : starEach [e] X.env = [(false, eval e X.env)] := by rfl) :
    PI X (.Tuple elts kk tpos) (.Call (.Name "enumerate" p) [e] [] pos) (LI X.K P Wx (iArgs enumO fa)) :=
  PIm (pi_enum hg hm ha hs) fun σ H R h => LA.bindI h fun ds es F1 H1 vs rp sF e k => by
    match ds, rp, e with
    | [.lst xs], .cons (.lst h1 r1) .nil, e =>
      cases e
      exact ⟨_, _, rfl, .inl (.inl (sF _ _ h1)), k _ (walkD_enum (.inl (.inl h1)) r1)⟩
end
/-! ### in -/
def flatD : Dt → Bool
  | .non => true
  | .bl _ => true
  | .int _ => true
  | .str _ => true
  | _ => false
def eqF : Dt → Dt → Bool
  | .non, .non => true
  | .bl a, .bl b => a == b
  | .bl a, .int b => (if a then 1 else 0) == b
  | .int a, .bl b => a == (if b then 1 else 0)
  | .int a, .int b => a == b
  | .str a, .str b => a == b
  | _, _ => false
def signOf (x : Str) : Option Nat := match x.cps.toList with
  | [c] => some c
  | _ => none
theorem signOf_ok {x : Str} {c : Nat} (h : signOf x = some c) : x = ⟨#[c]⟩ := by
  unfold signOf at h
  split at h
  · rename_i e
    cases h
    cases x
    rename_i cps
    have : cps = #[c] := by rw [← Array.toList_inj]; exact e
    rw [this]
  · cases h
def inB : Dt → Dt → Option Bool
  | .str x, .str z => (match signOf x with
    | some c => some (decide (c ∈ z.cps.toList))
    | none => none)
  | d, .tup xs => if flatD d = true ∧ xs.all flatD = true then some (xs.any fun y => eqF y d) else none
  | d, .lst xs => if flatD d = true ∧ xs.all flatD = true then some (xs.any fun y => eqF y d) else none
  | _, _ => none
def dIn (d e : Dt) : Option Dt := (inB d e).map .bl
def dNotIn (d e : Dt) : Option Dt := (inB d e).map fun b => .bl (!b)
section
variable {K : PySem.W.Frag} {F : Hp}
theorem flat_ok {d : Dt} {v : V} (h : Rp K F d v) (e : flatD d = true) : flatV v = true := by cases h <;> first | rfl | cases e
theorem eqF_ok {d e : Dt} {v u : V} (h : Rp K F d v) (h2 : Rp K F e u) (e1 : flatD d = true) (e2 : flatD e = true) : eqV v u = eqF d e := by
  cases h <;> first | (cases h2 <;> first | rfl | cases e2) | cases e1
theorem flats_ok : ∀ {ds : List Dt} {vs : List V}, Rps K F ds vs → ds.all flatD = true → vs.all flatV = true
  | _, _, .nil, _ => rfl
  | _, _, .cons h r, e => by
    simp only [List.all_cons, Bool.and_eq_true] at e ⊢
    exact ⟨flat_ok h e.1, flats_ok r e.2⟩
theorem any_ok {d : Dt} {v : V} (h : Rp K F d v) (e : flatD d = true) : ∀ {ds : List Dt} {vs : List V}, Rps K F ds vs → ds.all flatD = true → inV v vs = ds.any fun y => eqF y d
  | _, _, .nil, _ => rfl
  | _, _, .cons h2 r, e2 => by
    simp only [List.all_cons, Bool.and_eq_true] at e2
    have := any_ok h e r e2.2
    unfold inV at this ⊢
    simp only [List.any_cons]
    rw [eqF_ok h2 h e2.1 e, this]
end
def rInA (K : PySem.W.Frag) (neg : Bool) : R2 := fun x y H Q => (∃ (c : Nat) (z : Str), x = .str ⟨#[c]⟩ ∧ y = .str z ∧ Q (.bl (if neg then !decide (c ∈ z.cps.toList) else decide (c ∈ z.cps.toList))) H) ∨ rIn K neg x y H Q
section
variable {X : Cx}
theorem op_inA : OpR X (compareOp .In) (rInA X.K false) := op_in_sign.or op_in_seq
theorem op_notInA : OpR X (compareOp .NotIn) (rInA X.K true) := op_notIn_sign.or op_notIn_seq
theorem in_rule {neg : Bool} {d e : Dt} {b : Bool} (h : inB d e = some b) {F H : Hp} {x y : V} {Q : VK} (s : Same F H) (hd : Rp X.K F d x) (he : Rp X.K F e y) (q : Q (.bl (if neg then !b else b)) H) : rInA X.K neg x y H Q := by
  unfold inB at h
  split at h
  · split at h
    · rename_i hs
      cases h
      have := signOf_ok hs
      subst this
      cases hd
      cases he
      exact .inl ⟨_, _, rfl, rfl, q⟩
    · cases h
  · split at h
    · rename_i c
      cases h
      cases he with
      | tup hq hr =>
        refine .inr ⟨_, _, rfl, .inr (same_sqT s hq), flat_ok hd c.1, flats_ok hr c.2, ?_⟩
        rw [any_ok hd c.1 hr c.2]
        exact q
    · cases h
  · split at h
    · rename_i c
      cases h
      cases he with
      | lst hq hr =>
        refine .inr ⟨_, _, rfl, .inl (.inl (.inl (s _ _ hq))), flat_ok hd c.1, flats_ok hr c.2, ?_⟩
        rw [any_ok hd c.1 hr c.2]
        exact q
    · cases h
  · cases h
theorem od_in : OpD X.K (rInA X.K false) dIn := by
  intro d e g h F H x y Q s hd he q
  unfold dIn at h
  cases hb : inB d e with
  | none => rw [hb] at h; cases h
  | some b => rw [hb] at h; cases h; exact in_rule (neg := false) hb s hd he (q F H _ (Grow.refl s) (.bl _))
theorem od_notIn : OpD X.K (rInA X.K true) dNotIn := by
  intro d e g h F H x y Q s hd he q
  unfold dNotIn at h
  cases hb : inB d e with
  | none => rw [hb] at h; cases h
  | some b => rw [hb] at h; cases h; exact in_rule (neg := true) hb s hd he (q F H _ (Grow.refl s) (.bl _))
end
/-! ### a look at a slot's own list -/
theorem Rel.peek {K : PySem.W.Frag} {P : Pt} {F H : Hp} {σ : L2.St} {ρ : Rho} (r : Rel K P F H σ ρ) {j : Nat} {d : Dt} (h : slotD ρ[j]? = some d) : ∃ v F1, σ[j]? = some (some v) ∧ Same F F1 ∧ Same F1 H ∧ Rp K F1 d v := by
  match e : ρ[j]? with
  | none => rw [e] at h; cases h
  | some none => rw [e] at h; cases h
  | some (some (.sh d')) =>
    rw [e] at h
    cases h
    obtain ⟨v, ev, q⟩ := r.slot j _ e
    exact ⟨v, F, ev, .refl _, r.fh, q⟩
  | some (some (.own xs)) =>
    rw [e] at h
    cases h
    obtain ⟨p, vs, ev, e1, e2, e3⟩ := r.own e
    refine ⟨_, upd F p (.lst vs), ev, same_new e1, fun b o q => ?_, .lst upd_same (e3.mono (same_new e1))⟩
    by_cases hb : b = p
    · subst hb; rw [upd_same] at q; rw [e2]; exact q
    · rw [upd_ne hb] at q; exact r.fh b o q
theorem flat_any {K : PySem.W.Frag} {F F' : Hp} {d : Dt} {v : V} (h : Rp K F d v) (e : flatD d = true) : Rp K F' d v := by
  cases h with
  | non => exact .non
  | bl b => exact .bl b
  | int i => exact .int i
  | str x => exact .str x
  | _ => cases e
def eF (o : Option Dt) : FE := fun ρ => match o with
  | some d => if flatD d = true then some (.ok d, ρ) else none
  | none => none
def withV (j : Nat) (k : Dt → FE) : FE := fun ρ => match slotD ρ[j]? with
  | some d => k d ρ
  | none => none
def eOpL (o : Dt → Dt → Option Dt) (j : Nat) (fb : FE) : FE := withV j fun _ => bindE fb fun e => withV j fun d => eF (o d e)
def eOpR (o : Dt → Dt → Option Dt) (fa : FE) (j : Nat) : FE := bindE fa fun d => withV j fun e => eF (o d e)
def eCBV (o : List Dt → Option Dt) (j : Nat) : FE := withV j fun d => eF (o [d])
theorem withV_some {j : Nat} {k : Dt → FE} {ρ : Rho} {p : Option (RD × Rho) → Prop} (h : p (withV j k ρ)) (hn : ¬ p none) : ∃ d, slotD ρ[j]? = some d ∧ p (k d ρ) := by
  unfold withV at h
  cases e : slotD ρ[j]? with
  | none => simp only [e] at h; exact (hn h).elim
  | some d => simp only [e] at h; exact ⟨d, rfl, h⟩
theorem eF_some {K : PySem.W.Frag} {P : Pt} {Wx : WX} {σ : L2.St} {F : Hp} {Q : VK} {o : Option Dt} {ρ : Rho} (h : postE K P Wx σ F Q (eF o ρ)) : ∃ g, o = some g ∧ flatD g = true ∧ postE K P Wx σ F Q (some (.ok g, ρ)) := by
  unfold eF at h
  cases o with
  | none => exact h.elim
  | some g =>
    simp only [] at h
    split at h
    · rename_i c; exact ⟨g, rfl, c, h⟩
    · exact h.elim
theorem growH {F H H' F1 F' : Hp} (s : Same F H) (g : Grow F1 H F' H') : Grow F H F H' := ⟨.refl _, g.h, s.trans g.h, fun _ _ e => .inl e⟩
section
variable {X : Cx} {P : Pt} {Wx : WX} {pos pos' p : Pos} {a b : Expr} {fa fb : FE}
theorem LE_opL {r : R2} {o : Dt → Dt → Option Dt} (hr : OpD X.K r o) {j : Nat} {σ : L2.St} {H : Hp} {Q : VK} (h : LE X.K P Wx (eOpL o j fb) σ H Q) : tOp r (tVar j) (LE X.K P Wx fb) σ H Q := by
  obtain ⟨F, ρ, rr, q⟩ := h
  obtain ⟨d0, e0, q⟩ := withV_some (p := postE X.K P Wx σ F Q) q (fun z => z)
  obtain ⟨v, _, ev, _⟩ := rr.peek e0
  refine ⟨v, ev, ?_⟩
  refine LE.bind rr q fun e ρ1 F1 H1 y s1 r1 p1 q1 => ?_
  obtain ⟨d, e1, q1⟩ := withV_some (p := postE X.K P Wx σ F1 Q) q1 (fun z => z)
  obtain ⟨v', F2, ev', s2, s3, pd⟩ := r1.peek e1
  rw [ev] at ev'
  cases ev'
  obtain ⟨g, e2, fl, q1⟩ := eF_some q1
  exact hr d e g e2 F2 H1 v y Q s3 pd (p1.mono s2) fun F' H' z g' pz => q1 F1 H' z (.refl _) (r1.grow (growH r1.fh g')) (flat_any pz fl)
theorem LE_opR {r : R2} {o : Dt → Dt → Option Dt} (hr : OpD X.K r o) {j : Nat} {σ : L2.St} {H : Hp} {Q : VK} (h : LE X.K P Wx (eOpR o fa j) σ H Q) : tOp r (LE X.K P Wx fa) (tVar j) σ H Q := by
  obtain ⟨F, ρ, rr, q⟩ := h
  refine LE.bind rr q fun d ρ1 F1 H1 x s1 r1 p1 q1 => ?_
  obtain ⟨e, e1, q1⟩ := withV_some (p := postE X.K P Wx σ F1 Q) q1 (fun z => z)
  obtain ⟨v, F2, ev, s2, s3, pe⟩ := r1.peek e1
  obtain ⟨g, e2, fl, q1⟩ := eF_some q1
  exact ⟨v, ev, hr d e g e2 F2 H1 x v Q s3 (p1.mono s2) pe fun F' H' z g' pz => q1 F1 H' z (.refl _) (r1.grow (growH r1.fh g')) (flat_any pz fl)⟩
theorem d_cmpL {op : CmpOp} {r : R2} {o : Dt → Dt → Option Dt} (j : Nat) {x : Str} (ho : OpR X (compareOp op) r) (hr : OpD X.K r o) (hb : PE X b (LE X.K P Wx fb)) (hm : behindInMarks op b = false) (hN : X.N[j]? = some x := by rfl) (hv : Vis X.env.scope x := by first | exact Or.inl rfl | exact Or.inr (Or.inl rfl) | exact Or.inr (Or.inr rfl)) (hd : (x == ("__debug__" : Str)) = false := by decide)
    (hcd : (x == ("__classdict__" : Str)) = false := by decide) : PE X (.Compare (.Name x pos') [op] [b] pos) (LE X.K P Wx (eOpL o j fb)) := PEm (pe_cmpR ho (pe_var hN hv hd hcd) hb hm) fun _ _ _ h => LE_opL hr h
theorem t_cmpL {op : CmpOp} {r : R2} {o : Dt → Dt → Option Dt} (j : Nat) {x : Str} (ho : OpR X (compareOp op) r) (hr : OpD X.K r o) (hb : PE X b (LE X.K P Wx fb)) (hm : behindInMarks op b = false) (hN : X.N[j]? = some x := by rfl) (hv : Vis X.env.scope x := by first | exact Or.inl rfl | exact Or.inr (Or.inl rfl) | exact Or.inr (Or.inr rfl)) (hd : (x == ("__debug__" : Str)) = false := by decide)
    (hcd : (x == ("__classdict__" : Str)) = false := by decide) : PT X (.Compare (.Name x pos') [op] [b] pos) (LT X.K P Wx (eOpL o j fb)) := PTm (pt_cmpR ho (pe_var hN hv hd hcd) hb hm) fun _ _ _ h => LE_opL hr h
theorem d_cmpRt {op : CmpOp} {r : R2} {o : Dt → Dt → Option Dt} (j : Nat) {x : Str} (ho : OpR X (compareOp op) r) (hr : OpD X.K r o) (ha : PE X a (LE X.K P Wx fa)) (hm : behindInMarks op (.Name x pos') = false) (hN : X.N[j]? = some x := by rfl) (hv : Vis X.env.scope x := by first | exact Or.inl rfl | exact Or.inr (Or.inl rfl) | exact Or.inr (Or.inr rfl)) (hd : (x == ("__debug__" : Str)) = false := by decide)
    (hcd : (x == ("__classdict__" : Str)) = false := by decide) : PE X (.Compare a [op] [.Name x pos'] pos) (LE X.K P Wx (eOpR o fa j)) := PEm (pe_cmpR ho ha (pe_var hN hv hd hcd) hm) fun _ _ _ h => LE_opR hr h
theorem t_cmpRt {op : CmpOp} {r : R2} {o : Dt → Dt → Option Dt} (j : Nat) {x : Str} (ho : OpR X (compareOp op) r) (hr : OpD X.K r o) (ha : PE X a (LE X.K P Wx fa)) (hm : behindInMarks op (.Name x pos') = false) (hN : X.N[j]? = some x := by rfl) (hv : Vis X.env.scope x := by first | exact Or.inl rfl | exact Or.inr (Or.inl rfl) | exact Or.inr (Or.inr rfl)) (hd : (x == ("__debug__" : Str)) = false := by decide)
    (hcd : (x == ("__classdict__" : Str)) = false := by decide) : PT X (.Compare a [op] [.Name x pos'] pos) (LT X.K P Wx (eOpR o fa j)) := PTm (pt_cmpR ho ha (pe_var hN hv hd hcd) hm) fun _ _ _ h => LE_opR hr h
theorem LE_cbV {r : List V → Hp → VK → Prop} {o : List Dt → Option Dt} (hr : CallD X.K r o) {j : Nat} {σ : L2.St} {H : Hp} {Q : VK} (h : LE X.K P Wx (eCBV o j) σ H Q) : tCB r (tCons (tVar j) tNil) σ H Q := by
  obtain ⟨F, ρ, rr, q⟩ := h
  obtain ⟨d, e1, q⟩ := withV_some (p := postE X.K P Wx σ F Q) q (fun z => z)
  obtain ⟨v, F2, ev, s2, s3, pd⟩ := rr.peek e1
  obtain ⟨g, e2, fl, q⟩ := eF_some q
  exact ⟨v, ev, hr [d] g e2 F2 H [v] Q s3 (.cons pd .nil) fun F' H' z g' pz => q F H' z (.refl _) (rr.grow (growH rr.fh g')) (flat_any pz fl)⟩
theorem d_cbV {x y : Str} {id : String} (j : Nat) {r : List V → Hp → VK → Prop} {o : List Dt → Option Dt} (hr : CallD X.K r o) (hc : CallR X (.builtin id) r) (hg : Gl X y) (hm : X.mg y = none) (hv' : bootBuiltins y = some (.builtin id)) (hN : X.N[j]? = some x := by rfl) (hv : Vis X.env.scope x := by first | exact Or.inl rfl | exact Or.inr (Or.inl rfl) | exact Or.inr (Or.inr rfl)) (hd : (x == ("__debug__" : Str)) = false := by decide)
    (hcd : (x == ("__classdict__" : Str)) = false := by decide) (hn : y ≠ "__name__" := by decide) (hdb : (y == ("__debug__" : Str)) = false := by decide) (he : starEach (.Name x pos' :: []) X.env = (false, eval (.Name x pos') X.env) :: starEach [] X.env := by rfl) (hpl : (backTo pos (starEach [] X.env)).any (·.1) = false := by rfl) :
    PE X (.Call (.Name y p) [.Name x pos'] [] pos) (LE X.K P Wx (eCBV o j)) := PEm (pe_callB hc hg hm hv' (pa_cons (pe_var hN hv hd hcd) pa_nil he) hn hdb he hpl) fun _ _ _ h => LE_cbV hr h
end
end DL
namespace DL
open PySem PySem.Spec PyProof.Rows L2 RZ
/-! ### defs by name -/
structure FnAt (P : Program) (w : World) (K : PySem.W.Frag) (mg : Str → Option Value) (base : Heap) (k : Nat) (x : Str) (n : Nat) (g : FnD) : Prop where
  ex : ∃ f fd ps, FnOk P w K mg base (L2.CX P w) k f fd ps (spF K n g) ∧ mg x = some (.ref f) ∧ PySem.W.keepIn K (.ref f) = true ∧ Binds K fd ps [] ∧ PySem.W.nsIn K mainGlobals x = some (some (.ref f))
section
variable {P : Program} {w : World} {K : PySem.W.Frag} {mg : Str → Option Value} {base : Heap}
theorem FnAt.mono {j k : Nat} {x : Str} {n : Nat} {g : FnD} (h : FnAt P w K mg base j x n g) (hk : j ≤ k) : FnAt P w K mg base k x n g := by
  obtain ⟨f, fd, ps, a, b, c, d⟩ := h.ex
  exact ⟨f, fd, ps, a.mono hk, b, c, d⟩
/-- where a def stands -/
structure DefAt (K : PySem.W.Frag) (mg : Str → Option Value) (x : Str) (st : Stmt) (ps : List Str) : Prop where
  ex : ∃ f fd, Fun K x x st f fd ∧ mg x = some (.ref f) ∧ Binds K fd ps [] ∧ PySem.W.nsIn K mainGlobals x = some (some (.ref f))
theorem FnAt.none {x : Str} {st : Stmt} {ps : List Str} (D : DefAt K mg x st ps) : FnAt P w K mg base 0 x ps.length (fun _ => none) := by
  obtain ⟨f, fd, F, b, d⟩ := D.ex
  refine ⟨f, fd, ps, ⟨fun vs H Q E h => h.1, fun A outer s H args us vs Q E _ _ _ _ h => ?_⟩, b, F.kp, d⟩
  obtain ⟨_, _, _, _, _, _, _, _, z⟩ := h
  exact z.elim
theorem fn_at {x : Str} {st : Stmt} {N ps : List Str} {k : Nat} (bs : List Nat) {fb : FS} (D : DefAt K mg x st ps) (S : FnScope N ps (defScope st))
    (hb : ∀ (f : Addr) (cdv : Value) (A : Around) (outer : List Env) (s : Shared) (H : Hp) (E : XK) (Z : Pt), (∀ j, j ∈ Z.bs → j ∈ bs) → Room k (A.deeper (envOfC x (defScope st) s.heap.objs.size f cdv)) →
      PSs (cxOf (L2.CX P w) P w K mg base N x (defScope st) f cdv A outer s H E) (defBody st) (LS K Z (fun cls d _ H => E cls d H) fb)) :
    FnAt P w K mg base (k + 1) x ps.length (callF N.length bs fb) := by
  obtain ⟨f, fd, F, b, d⟩ := D.ex
  exact ⟨f, fd, ps, fn_okD bs F S (hb f), b, F.kp, d⟩
end
section
variable {X : Cx} {P : Pt} {Wx : WX} {pos p : Pos} {e : Expr} {es : List Expr} {fa : FA} {k n : Nat} {g : FnD} {x : Str}
theorem w_fn (h : FnAt X.prog X.w X.K X.mg X.base k x n g) (hr : Room k X.A) (tk : Takes X Wx) (hg : Gl X x) (ha : PA X (e :: es) (LA X.K P Wx fa)) (hdb : (x == ("__debug__" : Str)) = false := by decide) (he : starEach (e :: es) X.env = (false, eval e X.env) :: starEach es X.env := by rfl) (hpl : (backTo pos (starEach es X.env)).any (·.1) = false := by rfl) :
    PE X (.Call (.Name x p) (e :: es) [] pos) (LW X.K P Wx (wCall n g fa)) := by
  obtain ⟨f, fd, ps, a, b, c, d⟩ := h.ex
  exact w_call a hr hg b c d.1 tk ha hdb he hpl
theorem t_and1 {a : Expr} {f : FE} (ha : PT X a (LT X.K P Wx f)) : PW X (.BoolOp .And [a] pos) (LT X.K P Wx f) := pw_and1 ha
theorem t_or1 {a : Expr} {f : FE} (ha : PT X a (LT X.K P Wx f)) : PW X (.BoolOp .Or [a] pos) (LT X.K P Wx f) := pw_or1 ha
theorem nb {Z : Pt} {bs : List Nat} {i : Nat} (hZ : ∀ j, j ∈ Z.bs → j ∈ bs) (h : i ∉ bs) : i ∉ Z.bs := fun m => h (hZ i m)
theorem nbs {Z : Pt} {bs vs : List Nat} (hZ : ∀ j, j ∈ Z.bs → j ∈ bs) (h : ∀ v, v ∈ vs → v ∉ bs) : ∀ v, v ∈ vs → v ∉ Z.bs := fun v hv m => h v hv (hZ v m)
theorem nbt {Z Z' : Pt} {bs : List Nat} (e : Z'.bs = Z.bs) (hZ : ∀ j, j ∈ Z.bs → j ∈ bs) : ∀ j, j ∈ Z'.bs → j ∈ bs := by rw [e]; exact hZ
/-- name = [.. for ..] -/
theorem s_setLc {vs : List Nat} {i : Nat} {y : Str} {py : Pos} {elt tg iter : Expr} {ifs : List Expr} {scope : Scope} {own : List (Str × Nat)} {spos : Pos} {fi : FI} {gd : GD} {ts : List Nat} {ft fe : FE} (hib : i ∉ P.bs) (hc : X.calm = true) (hN : X.N.Nodup) (hy : X.N[i]? = some y) (hyl : X.env.scope.names.lookup y = some .local)
    (hsw : swapsWith (.ListComp elt [⟨tg, iter, ifs, 0⟩] scope pos) (some (.Name y py)) spos.line X.env = pure true) (hi : PI X tg iter (LI X.K P Wx fi)) (ok : BlkOk X.N X.env.scope scope own) (hw : own.map (·.2) = vs) (hv : ∀ v, v ∈ vs → v ∉ P.bs) (hts : ∀ t, t ∈ ts → t ∈ vs)
    (hg : ∀ (s : Shared) (H : Hp) (C : Addr) (cl : List (Str × Addr)) (fp : List Addr) (P' : Pt), P'.bs = P.bs → PG (X.blk s H scope (compEnvC scope cl C X.env) fp) tg (LG X.K P' ts gd))
    (ht : ∀ (s : Shared) (H : Hp) (C : Addr) (cl : List (Str × Addr)) (fp : List Addr) (P' : Pt), P'.bs = P.bs → PTs (X.blk s H scope (compEnvC scope cl C X.env) fp) ifs (LT X.K P' W0 ft))
    (he : ∀ (s : Shared) (H : Hp) (C : Addr) (cl : List (Str × Addr)) (fp : List Addr) (P' : Pt), P'.bs = P.bs → PE (X.blk s H scope (compEnvC scope cl C X.env) fp) elt (LE X.K P' W0 fe)) (hs : ∀ x, foldedSetIterable iter X.env x = pure x := by intro _; rfl) :
    PS X (.Assign [.Name y py] (.ListComp elt [⟨tg, iter, ifs, 0⟩] scope pos) spos) (LS X.K P Wx (sAsg i (wLc vs fi gd ft fe))) := by
  subst hw
  exact PSm (ps_setLc hc hN hy hyl hsw hi ok (fun s H C cl fp => g_fr (X := X.blk s H scope (compEnvC scope cl C X.env) fp) (hg s H C cl fp)) (fun s H C cl fp => t_fr (X := X.blk s H scope (compEnvC scope cl C X.env) fp) (ht s H C cl fp)) (fun s H C cl fp => d_fr (X := X.blk s H scope (compEnvC scope cl C X.env) fp) (he s H C cl fp)) hs)
    fun D σ H h => by
    refine LW_lc (P := P) (Wx := Wx) (g := gd) (ft := ft) (fe := fe) hv hts ?_
    obtain ⟨F, ρ, r, q⟩ := h
    exact LW.bindS r q fun w ρ1 F1 H1 v s1 r1 p1 q1 => q1 F1 H1 _ (.refl _) (r1.asg hib p1)
end
/-! ### the end of a law -/
theorem def_mk {K : PySem.W.Frag} {h : Heap} {mg : Str → Option Value} {x : Str} {st : Stmt} {ps : List Str} {f : Addr} {oc : Value} {od an : Option Addr} {osl : Array (Option Value)} {kV doc pm cdv ct : Value} (X : K.In h) (G : h.Ns mainGlobals mg)
    (a : PySem.W.nsIn K mainGlobals x = some (some (.ref f))) (l : K.lookup f = some ⟨oc, od, .func (PySem.W.fnOf x x (defArgs st) (defBody st) (defScope st) .none kV doc pm an cdv ct), osl⟩)
    (c : PySem.W.codeIn K cdv x = true) (k : PySem.W.keepIn K (.ref f) = true)
    (hb : ∀ (kV doc pm : Value) (an : Option Addr) (cdv ct : Value) (us : List Value), us.length = ps.length → bindArgs (PySem.W.fnOf x x (defArgs st) (defBody st) (defScope st) .none kV doc pm an cdv ct) ⟨us, []⟩ = pure (ps.zip us)) : DefAt K mg x st ps :=
  have F := fun_mk (st := st) l c k
  ⟨f, _, F, PySem.W.mg_of X G a, F.binds hb, a⟩
theorem CX_no {P : Program} {w : World} {H : Hp} {s : Shared} {e : Value} {s' : Shared} (h : L2.CX P w [] H s (fun _ _ _ => False) e s') : False := by
  obtain ⟨_, _, _, _, _, _, _, _, _, _, _, _, z⟩ := h
  exact z
/-- what a law's promise asks of its function -/
theorem law_sp {K : PySem.W.Frag} {g : FnD} {H : Hp} {a : Addr} {ns : List Int} (hS : SqL K H a (ns.map V.int)) (hg : g [.sh (.scr ns)] = some (.ok (.sh (.bl true)), [])) : spF K 1 g [.ref a] H (fun v _ => v = .bl true) (fun _ _ _ => False) := by
  refine ⟨rfl, H, H, [.sh (.scr ns)], .refl _, .refl _, .sh (.scr hS) .nil, List.nodup_nil, ?_⟩
  rw [hg]
  intro F' H' v _ fw
  cases fw
  rfl
end DL
namespace DL
open PySem PySem.Spec PyProof.Rows L2 RZ
/-! ### running functions of data -/
def EvE (f : FE) (ρ : Rho) (Q : Dt → Rho → Prop) : Prop := ∃ d ρ', f ρ = some (.ok d, ρ') ∧ Q d ρ'
def EvW (f : FW) (ρ : Rho) (Q : Wt → Rho → Prop) : Prop := ∃ w ρ', f ρ = some (.ok w, ρ') ∧ Q w ρ'
def EvA (f : FA) (ρ : Rho) (Q : List Av → Rho → Prop) : Prop := ∃ as ρ', f ρ = some (.ok as, ρ') ∧ Q as ρ'
def EvI (f : FI) (ρ : Rho) (Q : List Dt → Rho → Prop) : Prop := ∃ ds ρ', f ρ = some (.ok ds, ρ') ∧ Q ds ρ'
def EvF (g : FnD) (ws : List Aw) (Q : Wt → List (List Dt) → Prop) : Prop := ∃ w cs, g ws = some (.ok w, cs) ∧ Q w cs
def EvS (f : FS) (ρ : Rho) (N : Rho → Prop) (R : Wt → Rho → Prop) : Prop := (∃ ρ', f ρ = some (.nx, ρ') ∧ N ρ') ∨ (∃ w ρ', f ρ = some (.rt w, ρ') ∧ R w ρ')
/-- a truth value's two ways -/
inductive EvB : Dt → Prop → Prop → Prop
  | mk (b : Bool) {T F : Prop} (h1 : b = true → T) (h2 : b = false → F) : EvB (.bl b) T F
theorem EvB.ex {d : Dt} {T F : Prop} (h : EvB d T F) : ∃ b, d = .bl b ∧ (b = true → T) ∧ (b = false → F) := by
  cases h with
  | mk b h1 h2 => exact ⟨b, rfl, h1, h2⟩
/-- slots that are to be written out -/
def Nrm (ρ : Rho) (P : Rho → Prop) : Prop := P ρ
theorem nrm_eq {ρ ρ' : Rho} {P : Rho → Prop} (e : ρ = ρ') (h : P ρ') : Nrm ρ P := by subst e; exact h
section
variable {ρ : Rho} {Q : Dt → Rho → Prop} {QW : Wt → Rho → Prop} {QA : List Av → Rho → Prop} {f fa fb fc : FE} {r : FA}
theorem evB {b : Bool} {T F : Prop} (h1 : b = true → T) (h2 : b = false → F) : EvB (.bl b) T F := .mk b h1 h2
theorem evB_t {T F : Prop} (h1 : T) : EvB (.bl true) T F := .mk true (fun _ => h1) (fun h => nomatch h)
theorem evB_f {T F : Prop} (h1 : F) : EvB (.bl false) T F := .mk false (fun h => nomatch h) fun _ => h1
theorem ev_c {d : Dt} (h : Q d ρ) : EvE (eC d) ρ Q := ⟨d, ρ, rfl, h⟩
theorem ev_var {i : Nat} {d : Dt} (e : ρ[i]? = some (some (.sh d))) (h : Q d ρ) : EvE (eVar i) ρ Q := ⟨d, ρ, by unfold eVar; rw [e], h⟩
theorem ev_varO {i : Nat} {xs : List Dt} (e : ρ[i]? = some (some (.own xs))) (h : Q (.lst xs) (ρ.set i (some (.sh (.lst xs))))) : EvE (eVar i) ρ Q := ⟨_, _, by unfold eVar; rw [e], h⟩
theorem ev_bind {k : Dt → FE} (h : EvE fa ρ fun d ρ1 => EvE (k d) ρ1 Q) : EvE (bindE fa k) ρ Q := by
  obtain ⟨d, ρ1, e, d2, ρ2, e2, q⟩ := h
  exact ⟨d2, ρ2, by unfold bindE; simp only [e, e2], q⟩
theorem ev_V {o : Option Dt} {d : Dt} (e : o = some d) (h : Q d ρ) : EvE (eV o) ρ Q := ⟨d, ρ, by subst e; rfl, h⟩
theorem ev_op {o : Dt → Dt → Option Dt} (h : EvE fa ρ fun d ρ1 => EvE fb ρ1 fun e ρ2 => ∃ g, o d e = some g ∧ Q g ρ2) : EvE (eOp o fa fb) ρ Q := by
  refine ev_bind ?_
  obtain ⟨d, ρ1, e, h⟩ := h
  refine ⟨d, ρ1, e, ev_bind ?_⟩
  obtain ⟨d, ρ1, e, g, eg, h⟩ := h
  exact ⟨d, ρ1, e, ev_V eg h⟩
theorem ev_un {o : Dt → Option Dt} (h : EvE fa ρ fun d ρ1 => ∃ g, o d = some g ∧ Q g ρ1) : EvE (eUn o fa) ρ Q := by
  refine ev_bind ?_
  obtain ⟨d, ρ1, e, g, eg, h⟩ := h
  exact ⟨d, ρ1, e, ev_V eg h⟩
theorem ev_ite (h : EvE fc ρ fun d ρ1 => EvB d (EvE fa ρ1 Q) (EvE fb ρ1 Q)) : EvE (eIte fc fa fb) ρ Q := by
  refine ev_bind ?_
  obtain ⟨d, ρ1, e, h⟩ := h
  obtain ⟨b, rfl, h1, h2⟩ := h.ex
  refine ⟨_, ρ1, e, ?_⟩
  cases b with
  | true => exact h1 rfl
  | false => exact h2 rfl
theorem ev_and (h : EvE fa ρ fun d ρ1 => EvB d (EvE fb ρ1 Q) (Q (.bl false) ρ1)) : EvE (eAnd fa fb) ρ Q := by
  refine ev_ite ?_
  obtain ⟨d, ρ1, e, h⟩ := h
  obtain ⟨b, rfl, h1, h2⟩ := h.ex
  exact ⟨_, ρ1, e, evB h1 fun z => ev_c (h2 z)⟩
theorem ev_or (h : EvE fa ρ fun d ρ1 => EvB d (Q (.bl true) ρ1) (EvE fb ρ1 Q)) : EvE (eOr fa fb) ρ Q := by
  refine ev_ite ?_
  obtain ⟨d, ρ1, e, h⟩ := h
  obtain ⟨b, rfl, h1, h2⟩ := h.ex
  exact ⟨_, ρ1, e, evB (fun z => ev_c (h1 z)) h2⟩
theorem ev_not (h : EvE fa ρ fun d ρ1 => ∃ b, d = .bl b ∧ Q (.bl (!b)) ρ1) : EvE (eNot fa) ρ Q := by
  refine ev_un ?_
  obtain ⟨d, ρ1, e, b, rfl, h⟩ := h
  exact ⟨_, ρ1, e, _, rfl, h⟩
theorem ev_chain {o o' : Dt → Dt → Option Dt} (h : EvE fa ρ fun d ρ1 => EvE fb ρ1 fun e ρ2 => ∃ b, o d e = some (.bl b) ∧ (b = true → EvE fc ρ2 fun f ρ3 => ∃ g, o' e f = some g ∧ Q g ρ3) ∧ (b = false → Q (.bl false) ρ2)) : EvE (eChain o o' fa fb fc) ρ Q := by
  refine ev_bind ?_
  obtain ⟨d, ρ1, e, h⟩ := h
  refine ⟨d, ρ1, e, ev_bind ?_⟩
  obtain ⟨d2, ρ2, e2, b, eb, h1, h2⟩ := h
  refine ⟨d2, ρ2, e2, ev_bind (ev_V eb ?_)⟩
  cases b with
  | true =>
    refine ev_bind ?_
    obtain ⟨d3, ρ3, e3, g, eg, q⟩ := h1 rfl
    exact ⟨d3, ρ3, e3, ev_V eg q⟩
  | false => exact ev_c (h2 rfl)
theorem ea_nil (h : QA [] ρ) : EvA aNil ρ QA := ⟨[], ρ, rfl, h⟩
theorem ea_val (h : EvE f ρ fun d ρ1 => EvA r ρ1 fun as ρ2 => QA (.val d :: as) ρ2) : EvA (aVal f r) ρ QA := by
  obtain ⟨d, ρ1, e, as, ρ2, e2, q⟩ := h
  exact ⟨_, ρ2, by unfold aVal bindEA; simp only [e, e2], q⟩
theorem ea_slot {j : Nat} {xs : List Dt} (e : ρ[j]? = some (some (.own xs))) (h : EvA r ρ fun as ρ2 => QA (.slot j :: as) ρ2) : EvA (aSlot j r) ρ QA := by
  obtain ⟨as, ρ2, e2, q⟩ := h
  exact ⟨_, ρ2, by unfold aSlot; simp only [e, e2], q⟩
theorem ea_tmp {w : FW} (h : EvW w ρ fun x ρ1 => match x with | .own xs => QA [.tmp xs] ρ1 | .sh d => QA [.val d] ρ1) : EvA (aTmp w) ρ QA := by
  obtain ⟨x, ρ1, e, q⟩ := h
  cases x with
  | own xs => exact ⟨_, ρ1, by unfold aTmp; simp only [e], q⟩
  | sh d => exact ⟨_, ρ1, by unfold aTmp; simp only [e], q⟩
theorem ev_tup (h : EvA r ρ fun as ρ1 => ∃ ds, vals as = some ds ∧ ds.length ≤ 100000 ∧ Q (.tup ds) ρ1) : EvE (eTup r) ρ Q := by
  obtain ⟨as, ρ1, e, ds, e2, hl, q⟩ := h
  exact ⟨_, ρ1, by unfold eTup bindAE; simp only [e, e2, if_pos hl]; rfl, q⟩
theorem ew_lst (h : EvA r ρ fun as ρ1 => ∃ ds, vals as = some ds ∧ ds.length ≤ 100000 ∧ QW (.own ds) ρ1) : EvW (wLst r) ρ QW := by
  obtain ⟨as, ρ1, e, ds, e2, hl, q⟩ := h
  exact ⟨_, ρ1, by unfold wLst bindAW; simp only [e, e2, if_pos hl], q⟩
theorem ew_sh (h : EvE f ρ fun d ρ1 => QW (.sh d) ρ1) : EvW (wSh f) ρ QW := by
  obtain ⟨d, ρ1, e, q⟩ := h
  exact ⟨_, ρ1, by unfold wSh bindEW; simp only [e], q⟩
theorem ew_var {i : Nat} {d : Dt} (e : ρ[i]? = some (some (.sh d))) (h : QW (.sh d) ρ) : EvW (wVar i) ρ QW := ⟨_, ρ, by unfold wVar; rw [e], h⟩
theorem ew_varO {i : Nat} {xs : List Dt} (e : ρ[i]? = some (some (.own xs))) (h : QW (.own xs) (ρ.set i none)) : EvW (wVar i) ρ QW := ⟨_, _, by unfold wVar; rw [e], h⟩
@[reducible] def frz : Wt → Dt
  | .sh d => d
  | .own xs => .lst xs
theorem ev_frz {w : FW} (h : EvW w ρ fun x ρ1 => Q (frz x) ρ1) : EvE (eFrz w) ρ Q := by
  obtain ⟨x, ρ1, e, q⟩ := h
  cases x with
  | sh d => exact ⟨d, ρ1, by unfold eFrz; simp only [e], q⟩
  | own xs => exact ⟨.lst xs, ρ1, by unfold eFrz; simp only [e], q⟩
theorem ew_ite {wa wb : FW} (h : EvE fc ρ fun d ρ1 => EvB d (EvW wa ρ1 QW) (EvW wb ρ1 QW)) : EvW (wIte fc wa wb) ρ QW := by
  obtain ⟨d, ρ1, e, h⟩ := h
  obtain ⟨b, rfl, h1, h2⟩ := h.ex
  cases b with
  | true =>
    obtain ⟨x, ρ2, e2, q⟩ := h1 rfl
    exact ⟨x, ρ2, by unfold wIte bindEW; simp only [e, e2], q⟩
  | false =>
    obtain ⟨x, ρ2, e2, q⟩ := h2 rfl
    exact ⟨x, ρ2, by unfold wIte bindEW; simp only [e, e2], q⟩
theorem ew_call {n : Nat} {g : FnD} (h : EvA r ρ fun as ρ1 => ∃ ws, toWs ρ1 as = some ws ∧ ws.length = n ∧ (slotsOf as).Nodup ∧ EvF g ws fun w cs => Nrm (putBack (slotsOf as) cs ρ1) fun ρ2 => QW w ρ2) : EvW (wCall n g r) ρ QW := by
  obtain ⟨as, ρ1, e, ws, e2, hl, nd, w, cs, e3, q⟩ := h
  exact ⟨w, _, by unfold wCall bindAW; simp only [e, e2, if_pos (And.intro hl nd), e3], q⟩
theorem ev_cb {o : List Dt → Option Dt} (h : EvA r ρ fun as ρ1 => ∃ ds g, vals as = some ds ∧ o ds = some g ∧ Q g ρ1) : EvE (eCB o r) ρ Q := by
  obtain ⟨as, ρ1, e, ds, g, e2, e3, q⟩ := h
  exact ⟨g, ρ1, by unfold eCB bindAE; simp only [e, e2, e3]; rfl, q⟩
theorem ev_ixV {j : Nat} {d0 : Dt} (e0 : slotD ρ[j]? = some d0) (h : EvE f ρ fun k ρ1 => ∃ d g, slotD ρ1[j]? = some d ∧ dIx d k = some g ∧ Q g ρ1) : EvE (eIxV j f) ρ Q := by
  obtain ⟨k, ρ1, e, d, g, e1, e2, q⟩ := h
  exact ⟨g, ρ1, by unfold eIxV bindE; simp only [e0, e, e1, e2]; rfl, q⟩
theorem ev_pop {j : Nat} {xs : List Dt} {d : Dt} (e : ρ[j]? = some (some (.own xs))) (e2 : xs[xs.length - 1]? = some d) (h : Q d (ρ.set j (some (.own xs.dropLast)))) : EvE (ePop j) ρ Q := ⟨_, _, by unfold ePop; simp only [e, e2], h⟩
theorem ev_sl00 (h : EvE f ρ fun d ρ1 => ∃ g, dSl d none none = some g ∧ Q g ρ1) : EvE (eSl f none none) ρ Q := by
  refine ev_bind ?_
  obtain ⟨d, ρ1, e, g, eg, q⟩ := h
  exact ⟨d, ρ1, e, ev_V eg q⟩
theorem ev_sl10 (h : EvE f ρ fun d ρ1 => EvE fa ρ1 fun a ρ2 => ∃ i g, a = .int i ∧ dSl d (some i) none = some g ∧ Q g ρ2) : EvE (eSl f (some fa) none) ρ Q := by
  refine ev_bind ?_
  obtain ⟨d, ρ1, e, a, ρ2, e2, i, g, rfl, eg, q⟩ := h
  exact ⟨d, ρ1, e, ev_bind ⟨_, ρ2, e2, ev_V eg q⟩⟩
theorem ev_sl01 (h : EvE f ρ fun d ρ1 => EvE fa ρ1 fun a ρ2 => ∃ i g, a = .int i ∧ dSl d none (some i) = some g ∧ Q g ρ2) : EvE (eSl f none (some fa)) ρ Q := by
  refine ev_bind ?_
  obtain ⟨d, ρ1, e, a, ρ2, e2, i, g, rfl, eg, q⟩ := h
  exact ⟨d, ρ1, e, ev_bind ⟨_, ρ2, e2, ev_V eg q⟩⟩
theorem ev_sl11 (h : EvE f ρ fun d ρ1 => EvE fa ρ1 fun a ρ2 => ∃ i, a = .int i ∧ EvE fb ρ2 fun b ρ3 => ∃ j g, b = .int j ∧ dSl d (some i) (some j) = some g ∧ Q g ρ3) : EvE (eSl f (some fa) (some fb)) ρ Q := by
  refine ev_bind ?_
  obtain ⟨d, ρ1, e, a, ρ2, e2, i, rfl, b, ρ3, e3, j, g, rfl, eg, q⟩ := h
  exact ⟨d, ρ1, e, ev_bind ⟨_, ρ2, e2, ev_bind ⟨_, ρ3, e3, ev_V eg q⟩⟩⟩
theorem ev_F {o : Option Dt} {d : Dt} (e : o = some d) (hf : flatD d = true) (h : Q d ρ) : EvE (eF o) ρ Q := ⟨d, ρ, by subst e; unfold eF; simp only [if_pos hf], h⟩
theorem ev_withV {j : Nat} {k : Dt → FE} {d : Dt} (e : slotD ρ[j]? = some d) (h : EvE (k d) ρ Q) : EvE (withV j k) ρ Q := by
  obtain ⟨x, ρ1, e1, q⟩ := h
  exact ⟨x, ρ1, by unfold withV; simp only [e, e1], q⟩
theorem ev_opL {o : Dt → Dt → Option Dt} {j : Nat} {d0 : Dt} (e0 : slotD ρ[j]? = some d0) (h : EvE fb ρ fun e ρ1 => ∃ d g, slotD ρ1[j]? = some d ∧ o d e = some g ∧ flatD g = true ∧ Q g ρ1) : EvE (eOpL o j fb) ρ Q := by
  refine ev_withV e0 (ev_bind ?_)
  obtain ⟨x, ρ1, e1, d, g, a, b, c, q⟩ := h
  exact ⟨x, ρ1, e1, ev_withV a (ev_F b c q)⟩
theorem ev_opR {o : Dt → Dt → Option Dt} {j : Nat} (h : EvE fa ρ fun d ρ1 => ∃ e g, slotD ρ1[j]? = some e ∧ o d e = some g ∧ flatD g = true ∧ Q g ρ1) : EvE (eOpR o fa j) ρ Q := by
  refine ev_bind ?_
  obtain ⟨x, ρ1, e1, d, g, a, b, c, q⟩ := h
  exact ⟨x, ρ1, e1, ev_withV a (ev_F b c q)⟩
theorem ev_cbV {o : List Dt → Option Dt} {j : Nat} {d g : Dt} (e : slotD ρ[j]? = some d) (e2 : o [d] = some g) (hf : flatD g = true) (h : Q g ρ) : EvE (eCBV o j) ρ Q := ev_withV e (ev_F e2 hf h)
end
section
variable {ρ : Rho} {N : Rho → Prop} {R : Wt → Rho → Prop} {a b : FS} {f fc : FE} {w : FW}
theorem es_nx (h : N ρ) : EvS sNx ρ N R := .inl ⟨ρ, rfl, h⟩
theorem es_seq (h : EvS a ρ (fun ρ1 => Nrm ρ1 fun ρ2 => EvS b ρ2 N R) R) : EvS (sSeq a b) ρ N R := by
  rcases h with ⟨ρ1, e, h⟩ | ⟨w, ρ1, e, h⟩
  · rcases h with ⟨ρ2, e2, h⟩ | ⟨w, ρ2, e2, h⟩
    · exact .inl ⟨ρ2, by unfold sSeq; simp only [e, e2], h⟩
    · exact .inr ⟨w, ρ2, by unfold sSeq; simp only [e, e2], h⟩
  · exact .inr ⟨w, ρ1, by unfold sSeq; simp only [e], h⟩
theorem es_if (h : EvE fc ρ fun d ρ1 => EvB d (EvS a ρ1 N R) (EvS b ρ1 N R)) : EvS (sIf fc a b) ρ N R := by
  obtain ⟨d, ρ1, e, h⟩ := h
  obtain ⟨x, rfl, h1, h2⟩ := h.ex
  cases x with
  | true =>
    rcases h1 rfl with ⟨ρ2, e2, h⟩ | ⟨w, ρ2, e2, h⟩
    · exact .inl ⟨ρ2, by unfold sIf bindES; simp only [e, e2], h⟩
    · exact .inr ⟨w, ρ2, by unfold sIf bindES; simp only [e, e2], h⟩
  | false =>
    rcases h2 rfl with ⟨ρ2, e2, h⟩ | ⟨w, ρ2, e2, h⟩
    · exact .inl ⟨ρ2, by unfold sIf bindES; simp only [e, e2], h⟩
    · exact .inr ⟨w, ρ2, by unfold sIf bindES; simp only [e, e2], h⟩
theorem es_asg {i : Nat} (h : EvW w ρ fun x ρ1 => N (ρ1.set i (some x))) : EvS (sAsg i w) ρ N R := by
  obtain ⟨x, ρ1, e, q⟩ := h
  exact .inl ⟨_, by unfold sAsg bindWS; simp only [e], q⟩
theorem es_ret (h : EvW w ρ fun x ρ1 => R x ρ1) : EvS (sRet w) ρ N R := by
  obtain ⟨x, ρ1, e, q⟩ := h
  exact .inr ⟨x, ρ1, by unfold sRet bindWS; simp only [e], q⟩
theorem es_retN (h : R (.sh .non) ρ) : EvS sRetN ρ N R := .inr ⟨_, _, rfl, h⟩
theorem es_drop (h : EvW w ρ fun _ ρ1 => N ρ1) : EvS (sDrop w) ρ N R := by
  obtain ⟨x, ρ1, e, q⟩ := h
  exact .inl ⟨_, by unfold sDrop bindWS; simp only [e], q⟩
theorem es_app {j : Nat} {xs : List Dt} (e0 : ρ[j]? = some (some (.own xs))) (h : EvE f ρ fun d ρ1 => ∃ ys, ρ1[j]? = some (some (.own ys)) ∧ ys.length < 100000 ∧ N (ρ1.set j (some (.own (ys ++ [d]))))) : EvS (sApp j f) ρ N R := by
  obtain ⟨d, ρ1, e, ys, e1, hl, q⟩ := h
  exact .inl ⟨_, by unfold sApp ifOwn bindES; simp only [e0, e]; unfold sMut appX; simp only [e1, if_pos hl], q⟩
theorem es_ext {j : Nat} {xs : List Dt} (e0 : ρ[j]? = some (some (.own xs))) (h : EvE f ρ fun d ρ1 => ∃ ys zs, d = .lst zs ∧ ρ1[j]? = some (some (.own ys)) ∧ ys.length + zs.length ≤ 100000 ∧ N (ρ1.set j (some (.own (ys ++ zs))))) : EvS (sExt j f) ρ N R := by
  obtain ⟨d, ρ1, e, ys, zs, rfl, e1, hl, q⟩ := h
  exact .inl ⟨_, by unfold sExt ifOwn bindES; simp only [e0, e]; unfold sMut extX; simp only [e1, if_pos hl], q⟩
theorem es_put {j : Nat} {fi : FE} (h : EvE f ρ fun d ρ1 => ∃ xs, ρ1[j]? = some (some (.own xs)) ∧ EvE fi ρ1 fun k ρ2 => ∃ i ys n, k = .int i ∧ ρ2[j]? = some (some (.own ys)) ∧ ixN ys.length i = some n ∧ N (ρ2.set j (some (.own (ys.set n d))))) : EvS (sPut j fi f) ρ N R := by
  obtain ⟨d, ρ1, e, xs, e0, k, ρ2, e2, i, ys, n, rfl, e3, e4, q⟩ := h
  exact .inl ⟨_, by unfold sPut bindES; simp only [e]; unfold ifOwn; simp only [e0, e2]; unfold sMut putX; simp only [e3, e4], q⟩
theorem es_par {i j : Nat} {fa : FA} (h : EvA fa ρ fun as ρ1 => ∃ d e, as = [.val d, .val e] ∧ N ((ρ1.set i (some (.sh d))).set j (some (.sh e)))) : EvS (sPar i j fa) ρ N R := by
  obtain ⟨as, ρ1, e, d, e2, rfl, q⟩ := h
  exact .inl ⟨_, by unfold sPar; simp only [e], q⟩
theorem es_asgT {g : GD} (h : EvE f ρ fun d ρ1 => ∃ ρ2, g d ρ1 = some ρ2 ∧ N ρ2) : EvS (sAsgT g f) ρ N R := by
  obtain ⟨d, ρ1, e, ρ2, e2, q⟩ := h
  exact .inl ⟨_, by unfold sAsgT bindES; simp only [e, e2], q⟩
/-- a for by an invariant over the rest of the items -/
theorem forD_ev {g : GD} {b : FS} (I : List Dt → Rho → Prop) (hs : ∀ d ds ρ, I (d :: ds) ρ → ∃ ρ1, g d ρ = some ρ1 ∧ EvS b ρ1 (fun ρ2 => I ds ρ2) R) (hd : ∀ ρ, I [] ρ → N ρ) : ∀ (ds : List Dt) (ρ : Rho), I ds ρ → EvS (forD g b ds) ρ N R
  | [], ρ, h => .inl ⟨ρ, rfl, hd ρ h⟩
  | d :: ds, ρ, h => by
    obtain ⟨ρ1, e, h⟩ := hs d ds ρ h
    rcases h with ⟨ρ2, e2, h⟩ | ⟨w, ρ2, e2, h⟩
    · rcases forD_ev I hs hd ds ρ2 h with ⟨ρ3, e3, h⟩ | ⟨w, ρ3, e3, h⟩
      · exact .inl ⟨ρ3, by unfold forD; simp only [e, e2, e3], h⟩
      · exact .inr ⟨w, ρ3, by unfold forD; simp only [e, e2, e3], h⟩
    · exact .inr ⟨w, ρ2, by unfold forD; simp only [e, e2], h⟩
theorem es_for {fi : FI} {g : GD} {b : FS} (h : EvI fi ρ fun ds ρ1 => EvS (forD g b ds) ρ1 N R) : EvS (sFor fi g b) ρ N R := by
  obtain ⟨ds, ρ1, e, h⟩ := h
  rcases h with ⟨ρ2, e2, h⟩ | ⟨w, ρ2, e2, h⟩
  · exact .inl ⟨ρ2, by unfold sFor; simp only [e, e2], h⟩
  · exact .inr ⟨w, ρ2, by unfold sFor; simp only [e, e2], h⟩
theorem es_forNil {g : GD} {b : FS} (h : N ρ) : EvS (forD g b []) ρ N R := .inl ⟨ρ, rfl, h⟩
theorem es_forCons {g : GD} {b : FS} {d : Dt} {ds : List Dt} {ρ1 : Rho} (e : g d ρ = some ρ1) (h : EvS b ρ1 (fun ρ2 => EvS (forD g b ds) ρ2 N R) R) : EvS (forD g b (d :: ds)) ρ N R := by
  rcases h with ⟨ρ2, e2, h⟩ | ⟨w, ρ2, e2, h⟩
  · rcases h with ⟨ρ3, e3, h⟩ | ⟨w, ρ3, e3, h⟩
    · exact .inl ⟨ρ3, by unfold forD; simp only [e, e2, e3], h⟩
    · exact .inr ⟨w, ρ3, by unfold forD; simp only [e, e2, e3], h⟩
  · exact .inr ⟨w, ρ2, by unfold forD; simp only [e, e2], h⟩
theorem ei_seq {Q : List Dt → Rho → Prop} (h : EvE f ρ fun d ρ1 => ∃ ds, iterD d = some ds ∧ Q ds ρ1) : EvI (iSeq f) ρ Q := by
  obtain ⟨d, ρ1, e, ds, e2, q⟩ := h
  exact ⟨ds, ρ1, by unfold iSeq; simp only [e, e2], q⟩
theorem ei_args {o : List Dt → Option (List Dt)} {fa : FA} {Q : List Dt → Rho → Prop} (h : EvA fa ρ fun as ρ1 => ∃ ds es, vals as = some ds ∧ o ds = some es ∧ Q es ρ1) : EvI (iArgs o fa) ρ Q := by
  obtain ⟨as, ρ1, e, ds, es, e2, e3, q⟩ := h
  exact ⟨es, ρ1, by unfold iArgs; simp only [e, e2, e3], q⟩
/-- a while by an invariant and a measure -/
theorem whileD_ev {c : FE} {b : FS} (I : Rho → Prop) (m : Rho → Nat) (hs : ∀ ρ, I ρ → EvE c ρ fun d ρ1 => EvB d (EvS b ρ1 (fun ρ2 => I ρ2 ∧ m ρ2 < m ρ) R) (N ρ1)) : ∀ (n : Nat) (ρ : Rho), I ρ → m ρ < n → EvS (whileD c b n) ρ N R
  | 0, ρ, h, hn => absurd hn (Nat.not_lt_zero _)
  | n + 1, ρ, h, hn => by
    obtain ⟨d, ρ1, e, h⟩ := hs ρ h
    obtain ⟨x, rfl, h1, h2⟩ := h.ex
    cases x with
    | true =>
      rcases h1 rfl with ⟨ρ2, e2, h⟩ | ⟨w, ρ2, e2, h⟩
      · rcases whileD_ev I m hs n ρ2 h.1 (by omega) with ⟨ρ3, e3, h⟩ | ⟨w, ρ3, e3, h⟩
        · exact .inl ⟨ρ3, by unfold whileD; simp only [e, e2, e3], h⟩
        · exact .inr ⟨w, ρ3, by unfold whileD; simp only [e, e2, e3], h⟩
      · exact .inr ⟨w, ρ2, by unfold whileD; simp only [e, e2], h⟩
    | false => exact .inl ⟨ρ1, by unfold whileD; simp only [e], h2 rfl⟩
theorem es_while {m : Rho → Nat} {c : FE} {b : FS} (h : EvS (whileD c b (m ρ)) ρ N R) : EvS (sWhile m c b) ρ N R := h
def startW : List Aw → Rho
  | [] => []
  | .sh d :: ws => some (.sh d) :: startW ws
  | .own xs :: ws => some (.own xs) :: startW ws
  | .mv xs :: ws => some (.own xs) :: startW ws
theorem startW_eq : ∀ ws : List Aw, ws.map (fun w => some w.wt) = startW ws
  | [] => rfl
  | .sh d :: ws => by rw [List.map_cons, startW_eq ws]; rfl
  | .own d :: ws => by rw [List.map_cons, startW_eq ws]; rfl
  | .mv d :: ws => by rw [List.map_cons, startW_eq ws]; rfl
theorem ef_callM {n : Nat} {bs : List Nat} (os : List Nat) {fb : FS} {ws : List Aw} {Q : Wt → List (List Dt) → Prop} (hp : ownPos 0 ws = os) (hb : os.all (fun j => bs.contains j) = true) (h : Nrm (startW ws ++ List.replicate (n - ws.length) none) fun ρ0 => EvS fb ρ0 (fun ρ => ∃ cs, getOwns ρ os = some cs ∧ Q (.sh .non) cs) (fun w ρ => ∃ cs, getOwns ρ os = some cs ∧ Q w cs)) : EvF (callF n bs fb) ws Q := by
  subst hp
  rw [← startW_eq] at h
  rcases h with ⟨ρ1, e, cs, e2, q⟩ | ⟨w, ρ1, e, cs, e2, q⟩
  · exact ⟨_, cs, by unfold callF; rw [if_pos hb]; simp only [e]; unfold outs; rw [e2], q⟩
  · exact ⟨w, cs, by unfold callF; rw [if_pos hb]; simp only [e]; unfold outs; rw [e2], q⟩
theorem all_self (bs : List Nat) : bs.all (fun j => bs.contains j) = true := List.all_eq_true.mpr fun j hj => by simpa using hj
theorem ef_call {n : Nat} {bs : List Nat} {fb : FS} {ws : List Aw} {Q : Wt → List (List Dt) → Prop} (hp : ownPos 0 ws = bs) (h : Nrm (startW ws ++ List.replicate (n - ws.length) none) fun ρ0 => EvS fb ρ0 (fun ρ => ∃ cs, getOwns ρ bs = some cs ∧ Q (.sh .non) cs) (fun w ρ => ∃ cs, getOwns ρ bs = some cs ∧ Q w cs)) : EvF (callF n bs fb) ws Q :=
  ef_callM bs hp (all_self bs) h
theorem ef_eq {g : FnD} {ws : List Aw} {w : Wt} {cs : List (List Dt)} {Q : Wt → List (List Dt) → Prop} (e : g ws = some (.ok w, cs)) (h : Q w cs) : EvF g ws Q := ⟨w, cs, e, h⟩
/-- the comprehension's loop -/
def EvL (vs : List Nat) (g : GD) (ft fe : FE) (ds : List Dt) (ρ : Rho) (acc : List Dt) (Q : List Dt → Rho → Prop) : Prop := ∃ xs ρ', lcD vs g ft fe ds ρ acc = some (xs, ρ') ∧ Q xs ρ'
theorem lcD_ev {vs : List Nat} {g : GD} {ft fe : FE} (I : List Dt → Rho → List Dt → Prop) (hs : ∀ d ds ρ acc, I (d :: ds) ρ acc → ∃ ρ1, g d ρ = some ρ1 ∧ EvE ft ρ1 fun x ρ2 => EvB x (EvE fe ρ2 fun y ρ3 => acc.length < 100000 ∧ I ds (wipeR ρ3 vs) (acc ++ [y])) (I ds (wipeR ρ2 vs) acc)) {Q : List Dt → Rho → Prop} (hd : ∀ ρ acc, I [] ρ acc → Q acc ρ) :
    ∀ (ds : List Dt) (ρ : Rho) (acc : List Dt), I ds ρ acc → EvL vs g ft fe ds ρ acc Q
  | [], ρ, acc, h => ⟨acc, ρ, rfl, hd ρ acc h⟩
  | d :: ds, ρ, acc, h => by
    obtain ⟨ρ1, e, x, ρ2, e2, h⟩ := hs d ds ρ acc h
    obtain ⟨b, rfl, h1, h2⟩ := h.ex
    cases b with
    | true =>
      obtain ⟨y, ρ3, e3, hl, h3⟩ := h1 rfl
      obtain ⟨xs, ρ', e4, q⟩ := lcD_ev I hs hd ds _ _ h3
      exact ⟨xs, ρ', by unfold lcD; simp only [e, e2, e3, if_pos hl, e4], q⟩
    | false =>
      obtain ⟨xs, ρ', e4, q⟩ := lcD_ev I hs hd ds _ _ (h2 rfl)
      exact ⟨xs, ρ', by unfold lcD; simp only [e, e2, e4], q⟩
theorem lc_nil {vs : List Nat} {g : GD} {ft fe : FE} {acc : List Dt} {Q : List Dt → Rho → Prop} (h : Q acc ρ) : EvL vs g ft fe [] ρ acc Q := ⟨acc, ρ, rfl, h⟩
theorem lc_cons {vs : List Nat} {g : GD} {ft fe : FE} {d : Dt} {ds acc : List Dt} {ρ1 : Rho} {Q : List Dt → Rho → Prop} (e : g d ρ = some ρ1) (h : EvE ft ρ1 fun x ρ2 => EvB x (EvE fe ρ2 fun y ρ3 => acc.length < 100000 ∧ Nrm (wipeR ρ3 vs) fun ρ4 => EvL vs g ft fe ds ρ4 (acc ++ [y]) Q) (Nrm (wipeR ρ2 vs) fun ρ4 => EvL vs g ft fe ds ρ4 acc Q)) :
    EvL vs g ft fe (d :: ds) ρ acc Q := by
  obtain ⟨x, ρ2, e2, h⟩ := h
  obtain ⟨b, rfl, h1, h2⟩ := h.ex
  cases b with
  | true =>
    obtain ⟨y, ρ3, e3, hl, xs, ρ', e4, q⟩ := h1 rfl
    exact ⟨xs, ρ', by unfold lcD; simp only [e, e2, e3, if_pos hl, e4], q⟩
  | false =>
    obtain ⟨xs, ρ', e4, q⟩ := h2 rfl
    exact ⟨xs, ρ', by unfold lcD; simp only [e, e2, e4], q⟩
theorem EvL.imp {vs : List Nat} {g : GD} {ft fe : FE} {ds acc : List Dt} {Q R : List Dt → Rho → Prop} (h : EvL vs g ft fe ds ρ acc Q) (k : ∀ xs ρ', Q xs ρ' → R xs ρ') : EvL vs g ft fe ds ρ acc R := by
  obtain ⟨xs, ρ', e, q⟩ := h
  exact ⟨xs, ρ', e, k xs ρ' q⟩
theorem ew_lc {vs : List Nat} {fi : FI} {g : GD} {ft fe : FE} {Q : Wt → Rho → Prop} (h : EvI fi ρ fun ds ρ1 => Nrm (wipeR ρ1 vs) fun ρ0 => EvL vs g ft fe ds ρ0 [] fun xs ρ2 => Nrm (restR ρ1 ρ2 vs) fun ρ3 => Q (.own xs) ρ3) : EvW (wLc vs fi g ft fe) ρ Q := by
  obtain ⟨ds, ρ1, e, xs, ρ2, e2, q⟩ := h
  exact ⟨_, _, by unfold wLc; simp only [e, e2], q⟩
end
/-- a def's value, told by running it -/
theorem fn_eq {g : FnD} {ws : List Aw} {w : Wt} {cs : List (List Dt)} (h : EvF g ws fun x ys => x = w ∧ ys = cs) : g ws = some (.ok w, cs) := by
  obtain ⟨x, ys, e, rfl, rfl⟩ := h
  exact e
end DL
namespace DL
open PySem PySem.Spec PyProof.Rows L2 RZ
/-! ### sizes, and the values of operations -/
theorem log2_small {n k : Nat} (h : n < 2 ^ k) (hk : 0 < k) : n.log2 < k := PySem.Flt.log2_lt_of hk h
theorem mul_sz {a b : Int} (h1 : a.natAbs < 2 ^ 100000) (h2 : b.natAbs < 2 ^ 100000) : a.natAbs.log2 + b.natAbs.log2 < 1000000 := by
  have := log2_small h1 (by decide)
  have := log2_small h2 (by decide)
  omega
theorem div_sz {b : Int} (h0 : b ≠ 0) (h2 : b.natAbs < 2 ^ 9000) : b ≠ 0 ∧ b.natAbs.log2 < 9000 := ⟨h0, log2_small h2 (by decide)⟩
/-- small numbers -/
def Sm (a : Int) : Prop := a.natAbs < 2 ^ 8999
theorem sm_of {a : Int} {k : Nat} (h : a.natAbs < 2 ^ k) (hk : k ≤ 8999) : Sm a := Nat.lt_of_lt_of_le h (Nat.pow_le_pow_right (by decide) hk)
theorem Sm.div {b : Int} (h : Sm b) (h0 : b ≠ 0) : b ≠ 0 ∧ b.natAbs.log2 < 9000 := ⟨h0, Nat.lt_of_lt_of_le (log2_small h (by decide)) (by decide)⟩
theorem Sm.mul {a b : Int} (h1 : Sm a) (h2 : Sm b) : a.natAbs.log2 + b.natAbs.log2 < 1000000 := by
  have := log2_small h1 (by decide)
  have := log2_small h2 (by decide)
  omega
section
variable {Q : Dt → Prop}
theorem ex_mul {a b : Int} (h : a.natAbs.log2 + b.natAbs.log2 < 1000000) (q : Q (.int (a * b))) : ∃ g, dMul (.int a) (.int b) = some g ∧ Q g := ⟨_, if_pos h, q⟩
theorem ex_fdiv {a b : Int} (h : b ≠ 0 ∧ b.natAbs.log2 < 9000) (q : Q (.int (a.fdiv b))) : ∃ g, dFdiv (.int a) (.int b) = some g ∧ Q g := ⟨_, if_pos h, q⟩
theorem ex_mod {a b : Int} (h : b ≠ 0) (q : Q (.int (a.fmod b))) : ∃ g, dMod (.int a) (.int b) = some g ∧ Q g := ⟨_, if_pos h, q⟩
theorem ex_addS {x y : Str} (h : x.length + y.length ≤ 1000000) (q : Q (.str (x ++ y))) : ∃ g, dAdd (.str x) (.str y) = some g ∧ Q g := ⟨_, if_pos h, q⟩
theorem ex_addT {x y : List Dt} (h : x.length + y.length ≤ 100000) (q : Q (.tup (x ++ y))) : ∃ g, dAdd (.tup x) (.tup y) = some g ∧ Q g := ⟨_, if_pos h, q⟩
theorem ex_addL {x y : List Dt} (h : x.length + y.length ≤ 100000) (q : Q (.lst (x ++ y))) : ∃ g, dAdd (.lst x) (.lst y) = some g ∧ Q g := ⟨_, if_pos h, q⟩
theorem ex_eqI {a b : Int} (q : Q (.bl (decide (a = b)))) : ∃ g, dEq (.int a) (.int b) = some g ∧ Q g := ⟨_, rfl, q⟩
theorem ex_neI {a b : Int} (q : Q (.bl (!decide (a = b)))) : ∃ g, dNe (.int a) (.int b) = some g ∧ Q g := ⟨_, rfl, q⟩
theorem ex_eqS {a b : Str} (q : Q (.bl (decide (a = b)))) : ∃ g, dEq (.str a) (.str b) = some g ∧ Q g := ⟨_, rfl, q⟩
theorem ex_neS {a b : Str} (q : Q (.bl (!decide (a = b)))) : ∃ g, dNe (.str a) (.str b) = some g ∧ Q g := ⟨_, rfl, q⟩
theorem ex_lt {a b : Int} (q : Q (.bl (decide (a < b)))) : ∃ g, dLt (.int a) (.int b) = some g ∧ Q g := ⟨_, rfl, q⟩
theorem ex_le {a b : Int} (q : Q (.bl (decide (a ≤ b)))) : ∃ g, dLe (.int a) (.int b) = some g ∧ Q g := ⟨_, rfl, q⟩
theorem ex_gt {a b : Int} (q : Q (.bl (decide (b < a)))) : ∃ g, dGt (.int a) (.int b) = some g ∧ Q g := ⟨_, rfl, q⟩
theorem ex_ge {a b : Int} (q : Q (.bl (decide (b ≤ a)))) : ∃ g, dGe (.int a) (.int b) = some g ∧ Q g := ⟨_, rfl, q⟩
theorem ex_add {a b : Int} (q : Q (.int (a + b))) : ∃ g, dAdd (.int a) (.int b) = some g ∧ Q g := ⟨_, rfl, q⟩
theorem ex_sub {a b : Int} (q : Q (.int (a - b))) : ∃ g, dSub (.int a) (.int b) = some g ∧ Q g := ⟨_, rfl, q⟩
theorem ex_neg {a : Int} (q : Q (.int (-a))) : ∃ g, dNeg (.int a) = some g ∧ Q g := ⟨_, rfl, q⟩
/-- an item of a list at a place that is known to lie in it -/
theorem atI_lt {α : Type} {xs : List α} {i : Int} (h0 : 0 ≤ i) (h1 : i < xs.length) : ∃ (h : i.toNat < xs.length), atI xs i = some xs[i.toNat] := by
  have hl : i.toNat < xs.length := by omega
  refine ⟨hl, ?_⟩
  have e : ((i.toNat : Nat) : Int) = i := by omega
  have := atI_nat (xs := xs) (j := i.toNat) (v := xs[i.toNat]) (List.getElem?_eq_getElem hl)
  rw [e] at this
  exact this
theorem ex_ixL {xs : List Dt} {i : Int} (h0 : 0 ≤ i) (h1 : i < xs.length) (q : ∀ h : i.toNat < xs.length, Q xs[i.toNat]) : ∃ g, dIx (.lst xs) (.int i) = some g ∧ Q g := by
  obtain ⟨h, e⟩ := atI_lt h0 h1
  exact ⟨_, e, q h⟩
theorem ex_ixT {xs : List Dt} {i : Int} (h0 : 0 ≤ i) (h1 : i < xs.length) (q : ∀ h : i.toNat < xs.length, Q xs[i.toNat]) : ∃ g, dIx (.tup xs) (.int i) = some g ∧ Q g := by
  obtain ⟨h, e⟩ := atI_lt h0 h1
  exact ⟨_, e, q h⟩
end
theorem nodup1 {i : Nat} : [i].Nodup := List.nodup_cons.mpr ⟨List.not_mem_nil, List.nodup_nil⟩
theorem nodup2 {i j : Nat} (h : i ≠ j) : [i, j].Nodup := List.nodup_cons.mpr ⟨by simpa using h, nodup1⟩
theorem mod_pos {a b : Int} (h : 0 < b) : a.fmod b = a % b := Int.fmod_eq_emod_of_nonneg a (by omega)
theorem div_pos {a b : Int} (h : 0 < b) : a.fdiv b = a / b := Int.fdiv_eq_ediv_of_nonneg a (by omega)
theorem EvS.cut {a : FS} {ρ : Rho} {N : Rho → Prop} {R : Wt → Rho → Prop} (N' : Rho → Prop) (h : EvS a ρ N' R) (k : ∀ ρ1, N' ρ1 → N ρ1) : EvS a ρ N R := by
  rcases h with ⟨ρ1, e, h⟩ | h
  · exact .inl ⟨ρ1, e, k ρ1 h⟩
  · exact .inr h
/-- b is true: the first way -/
theorem evBt {b : Bool} {T F : Prop} (e : b = true) (h : T) : EvB (.bl b) T F := by subst e; exact evB_t h
theorem evBf {b : Bool} {T F : Prop} (e : b = false) (h : F) : EvB (.bl b) T F := by subst e; exact evB_f h
theorem evD {p : Prop} [Decidable p] {T F : Prop} (h1 : p → T) (h2 : ¬ p → F) : EvB (.bl (decide p)) T F := evB (fun h => h1 (of_decide_eq_true h)) fun h => h2 (of_decide_eq_false h)
theorem evDn {p : Prop} [Decidable p] {T F : Prop} (h1 : ¬ p → T) (h2 : p → F) : EvB (.bl (!decide p)) T F := evB (fun h => h1 (by simpa using h)) fun h => h2 (by simpa using h)
theorem ex_eqB {a b : Bool} {Q : Dt → Prop} (q : Q (.bl (decide (a = b)))) : ∃ g, dEq (.bl a) (.bl b) = some g ∧ Q g := ⟨_, rfl, q⟩
theorem ex_neB {a b : Bool} {Q : Dt → Prop} (q : Q (.bl (!decide (a = b)))) : ∃ g, dNe (.bl a) (.bl b) = some g ∧ Q g := ⟨_, rfl, q⟩
end DL
namespace DL
open PySem PySem.Spec PyProof.Rows L2 RZ
/-! ### constants of the module -/
structure ConstAt (K : PySem.W.Frag) (mg : Str → Option Value) (x : Str) (d : Dt) : Prop where
  ex : ∃ u v, mg x = some u ∧ RelV v u ∧ ∀ F : Hp, Rp K F d v
section
variable {X : Cx} {P : Pt} {Wx : WX} {pos p : Pos} {x : Str} {d : Dt}
theorem ConstAt.pe (h : ConstAt X.K X.mg x d) (hg : Gl X x) (hd : (x == ("__debug__" : Str)) = false := by decide) : PE X (.Name x pos) (LE X.K P Wx (eC d)) := by
  obtain ⟨u, v, a, b, c⟩ := h.ex
  exact d_glob hg a b c hd
end
/-- a plain value as data -/
def scalD : Value → Option Dt
  | .none => some .non
  | .bool b => some (.bl b)
  | .int i _ => some (.int i)
  | .str x _ => some (.str x)
  | _ => none
theorem scal_ok {K : PySem.W.Frag} {u : Value} {d : Dt} (h : scalD u = some d) : ∃ v, RelV v u ∧ ∀ F : Hp, Rp K F d v := by
  cases u <;> first | cases h | skip
  · exact ⟨.non, rfl, fun _ => .non⟩
  · exact ⟨.bl _, rfl, fun _ => .bl _⟩
  · exact ⟨.int _, ⟨_, rfl⟩, fun _ => .int _⟩
  · exact ⟨.str _, ⟨_, rfl⟩, fun _ => .str _⟩
theorem scals_ok {K : PySem.W.Frag} : ∀ {us : List Value} {ds : List Dt}, us.map scalD = ds.map some → ∃ vs, Vals vs us ∧ ∀ F : Hp, Rps K F ds vs
  | [], [], _ => ⟨[], .nil, fun _ => .nil⟩
  | [], _ :: _, h => by simp at h
  | _ :: _, [], h => by simp at h
  | u :: us, d :: ds, h => by
    simp only [List.map_cons, List.cons.injEq] at h
    obtain ⟨v, a, b⟩ := scal_ok (K := K) h.1
    obtain ⟨vs, c, e⟩ := scals_ok (K := K) h.2
    exact ⟨v :: vs, .cons a c, fun F => .cons (b F) (e F)⟩
section
variable {K : PySem.W.Frag} {h : Heap} {mg : Str → Option Value} {x : Str}
theorem const_mk {u : Value} {d : Dt} (X : K.In h) (G : h.Ns mainGlobals mg) (a : PySem.W.nsIn K mainGlobals x = some (some u)) (e : scalD u = some d) : ConstAt K mg x d := by
  obtain ⟨v, b, c⟩ := scal_ok (K := K) e
  exact ⟨u, v, PySem.W.mg_of X G a, b, c⟩
theorem tup_mk {q : Addr} {od : Option Addr} {its : Array Value} {n : Nat} {sl : Array (Option Value)} {ds : List Dt} (l : K.lookup q = some ⟨.type "tuple", od, .seq its n, sl⟩) (e : its.toList.map scalD = ds.map some) (hz : its.size ≤ sizeLine) : ∀ F : Hp, Rp K F (.tup ds) (.ref q) := by
  obtain ⟨vs, b, c⟩ := scals_ok (K := K) e
  exact fun F => .tup (.inr ⟨_, its, n, l, rfl, rfl, hz, b⟩) (c F)
theorem const_tup {q : Addr} {od : Option Addr} {its : Array Value} {n : Nat} {sl : Array (Option Value)} {ds : List Dt} (X : K.In h) (G : h.Ns mainGlobals mg) (a : PySem.W.nsIn K mainGlobals x = some (some (.ref q))) (l : K.lookup q = some ⟨.type "tuple", od, .seq its n, sl⟩)
    (e : its.toList.map scalD = ds.map some) (hz : its.size ≤ sizeLine) : ConstAt K mg x (.tup ds) :=
  ⟨.ref q, .ref q, PySem.W.mg_of X G a, rfl, tup_mk l e hz⟩
end
/-! ### tables of the module -/
def tabD (kvs : List (Str × Dt)) : Dt → Option Dt
  | .str z => kvs.lookup z
  | _ => none
structure TabAt (K : PySem.W.Frag) (w : World) (mg : Str → Option Value) (t : Str) (kvs : List (Str × Dt)) : Prop where
  ex : ∃ q, mg t = some (.ref q) ∧ ∀ z e, (z, e) ∈ kvs → ∃ v, KDct K w q z v ∧ ∀ F : Hp, Rp K F e v
theorem lookup_mem {z : Str} {e : Dt} : ∀ {kvs : List (Str × Dt)}, kvs.lookup z = some e → (z, e) ∈ kvs
  | [], h => by cases h
  | (k, d) :: r, h => by
    unfold List.lookup at h
    split at h
    · rename_i q
      cases h
      have := eq_of_beq q
      subst this
      exact List.mem_cons_self
    · exact List.mem_cons_of_mem _ (lookup_mem h)
section
variable {X : Cx} {P : Pt} {Wx : WX} {pos p : Pos} {t : Str} {kvs : List (Str × Dt)} {b : Expr} {fb : FE}
theorem TabAt.get (T : TabAt X.K X.w X.mg t kvs) (hg : Gl X t) (hb : PE X b (LE X.K P Wx fb)) (hs : PlainIx b := by exact fun _ _ => rfl) (hd : (t == ("__debug__" : Str)) = false := by decide) : PE X (.Subscript (.Name t p) b pos) (LE X.K P Wx (eUn (tabD kvs) fb)) := by
  obtain ⟨q, m, hk⟩ := T.ex
  refine PEm (pe_ix ix_kdict (pe_glob (v := .ref q) hg m rfl hd) hb hs) fun σ H Q h => ?_
  obtain ⟨F, ρ, rr, h⟩ := h
  show LE X.K P Wx fb σ H _
  refine LE.bind rr h fun d ρ1 F1 H1 x s1 r1 p1 q1 => ?_
  cases eo : tabD kvs d with
  | none => rw [eo] at q1; exact q1.elim
  | some e =>
    rw [eo] at q1
    cases p1 with
    | str z =>
      obtain ⟨v, kd, rv⟩ := hk z e (lookup_mem eo)
      exact ⟨q, z, v, rfl, rfl, kd, q1 F1 H1 v (.refl _) r1 (rv F1)⟩
    | _ => cases eo
end
section
variable {K : PySem.W.Frag} {w : World} {h : Heap} {mg : Str → Option Value} {t : Str}
/-- what a table's entry says -/
def EntryOk (K : PySem.W.Frag) (q : Addr) (kv : Str × Dt) : Prop := ∃ u v, PySem.W.nsIn K q kv.1 = some (some u) ∧ RelV v u ∧ ∀ F : Hp, Rp K F kv.2 v
def EntriesOk (K : PySem.W.Frag) (q : Addr) : List (Str × Dt) → Prop
  | [] => True
  | kv :: r => EntryOk K q kv ∧ EntriesOk K q r
theorem EntriesOk.mem {q : Addr} : ∀ {kvs : List (Str × Dt)} {kv : Str × Dt}, EntriesOk K q kvs → kv ∈ kvs → EntryOk K q kv
  | _ :: _, _, ⟨a, _⟩, .head _ => a
  | _ :: _, _, ⟨_, r⟩, .tail _ m => r.mem m
theorem entry_fn {q f : Addr} {k x : Str} (a : PySem.W.nsIn K mainGlobals x = some (some (.ref f))) (e : PySem.W.nsIn K q k = some (some (.ref f))) : EntryOk K q (k, .fn x) := ⟨.ref f, .ref f, e, rfl, fun _ => .fn a⟩
theorem entry_scal {q : Addr} {k : Str} {u : Value} {d : Dt} (e : PySem.W.nsIn K q k = some (some u)) (hs : scalD u = some d) : EntryOk K q (k, d) := by
  obtain ⟨v, b, c⟩ := scal_ok (K := K) hs
  exact ⟨u, v, e, b, c⟩
theorem tab_mk {q : Addr} {es : Array DictEntry} {n : Nat} {kvs : List (Str × Dt)} (X : K.In h) (G : h.Ns mainGlobals mg) (a : PySem.W.nsIn K mainGlobals t = some (some (.ref q))) (l : K.lookup q = some ⟨.type "dict", none, .dict es n, #[]⟩)
    (hk : PySem.W.KeysLit w.params es.toList) (he : EntriesOk K q kvs) : TabAt K w mg t kvs :=
  ⟨q, PySem.W.mg_of X G a, fun z e m => by
    obtain ⟨u, v, b, c, d⟩ := he.mem m
    exact ⟨v, ⟨es, n, u, l, hk, b, c⟩, d⟩⟩
end
theorem ev_tab {kvs : List (Str × Dt)} {fb : FE} {ρ : Rho} {Q : Dt → Rho → Prop} (h : EvE fb ρ fun d ρ1 => ∃ g, tabD kvs d = some g ∧ Q g ρ1) : EvE (eUn (tabD kvs) fb) ρ Q := ev_un h
/-! ### a call of a name that holds a def -/
structure DispAt (P : Program) (w : World) (K : PySem.W.Frag) (mg : Str → Option Value) (base : Heap) (k n : Nat) (D : List (Str × FnD)) : Prop where
  ex : ∀ x g, (x, g) ∈ D → FnAt P w K mg base k x n g
theorem DispAt.nil {P : Program} {w : World} {K : PySem.W.Frag} {mg : Str → Option Value} {base : Heap} {k n : Nat} : DispAt P w K mg base k n [] := ⟨fun _ _ m => by cases m⟩
theorem DispAt.cons {P : Program} {w : World} {K : PySem.W.Frag} {mg : Str → Option Value} {base : Heap} {k n : Nat} {x : Str} {g : FnD} {D : List (Str × FnD)} (h : FnAt P w K mg base k x n g) (r : DispAt P w K mg base k n D) : DispAt P w K mg base k n ((x, g) :: D) := ⟨fun y e m => by
  rcases List.mem_cons.mp m with m | m
  · cases m; exact h
  · exact r.ex y e m⟩
def wCallL (i n : Nat) (D : List (Str × FnD)) (fa : FA) : FW := fun ρ => match ρ[i]? with
  | some (some (.sh (.fn x))) => (match D.lookup x with
    | some g => wCall n g fa ρ
    | none => none)
  | _ => none
theorem lookup_memF {z : Str} {e : FnD} : ∀ {kvs : List (Str × FnD)}, kvs.lookup z = some e → (z, e) ∈ kvs
  | [], h => by cases h
  | (k, d) :: r, h => by
    unfold List.lookup at h
    split at h
    · rename_i q
      cases h
      have := eq_of_beq q
      subst this
      exact List.mem_cons_self
    · exact List.mem_cons_of_mem _ (lookup_memF h)
section
variable {X : Cx} {P : Pt} {Wx : WX} {pos p : Pos} {x : Str} {e : Expr} {es : List Expr} {fa : FA} {k n i : Nat} {D : List (Str × FnD)}
theorem DispAt.mono {P : Program} {w : World} {K : PySem.W.Frag} {mg : Str → Option Value} {base : Heap} {j k n : Nat} {D : List (Str × FnD)} (h : DispAt P w K mg base j n D) (hk : j ≤ k) : DispAt P w K mg base k n D := ⟨fun x g m => (h.ex x g m).mono hk⟩
theorem w_callL (i : Nat) (T : DispAt X.prog X.w X.K X.mg X.base k n D) (hr : Room k X.A) (tk : Takes X Wx) (ha : PA X (e :: es) (LA X.K P Wx fa)) (hN : X.N[i]? = some x := by rfl)
    (hv : Vis X.env.scope x := by first | exact Or.inl rfl | exact Or.inr (Or.inl rfl) | exact Or.inr (Or.inr rfl)) (hdb : (x == ("__debug__" : Str)) = false := by decide) (hcd : (x == ("__classdict__" : Str)) = false := by decide)
    (he : starEach (e :: es) X.env = (false, eval e X.env) :: starEach es X.env := by rfl) (hpl : (backTo pos (starEach es X.env)).any (·.1) = false := by rfl) : PE X (.Call (.Name x p) (e :: es) [] pos) (LW X.K P Wx (wCallL i n D fa)) := by
  refine ⟨fun pins s σ H Q I h => ?_⟩
  obtain ⟨F, ρ, r, q⟩ := h
  unfold wCallL at q
  match e1 : ρ[i]? with
  | none => simp only [e1] at q; exact q.elim
  | some none => simp only [e1] at q; exact q.elim
  | some (some (.own _)) => simp only [e1] at q; exact q.elim
  | some (some (.sh d)) =>
    obtain ⟨v, ev, sv⟩ := r.slot i _ e1
    cases (show Rp X.K F d v from sv) with
    | fn hx =>
      rename_i y f
      simp only [e1] at q
      cases e2 : D.lookup y with
      | none => rw [e2] at q; exact q.elim
      | some g =>
        rw [e2] at q
        obtain ⟨f', fd, ps, G, _, hk, hb, hn⟩ := (T.ex y g (lookup_memF e2)).ex
        rw [hx] at hn
        cases hn
        have ht : tCallS (spF X.K n g) (WE Wx) (LA X.K P Wx fa) σ H Q := LA_call ⟨F, ρ, r, q⟩
        refine wpAny_Call_Name_kw (thn ((pe_var (pos := p) hN hv hdb hcd).run pins s σ H (fun v H1 => v = .ref f ∧ H1 = H) I ⟨.ref f, ev, rfl, rfl⟩) fun u s1 ⟨v, H1, I1, r1, q1⟩ => ?_)
        obtain ⟨rfl, rfl⟩ := q1
        cases r1
        refine PySem.W.callWith_K (h₀ := X.base) I.ok.mod.kin hk (thn (ha.run pos pins s1 σ _ _ I1 ht) fun us s2 ⟨vs, H2, I2, r, q⟩ => ⟨I2.kIn, ?_⟩) he hpl
        refine run_fnSD (dvs := []) (ds := []) (E := fun σ => WE Wx σ) G hr hb .nil (passAt tk σ) I2 r ?_
        rw [List.append_nil]
        exact q
    | _ => simp only [e1] at q; exact q.elim
end
theorem ew_callL {i n : Nat} {D : List (Str × FnD)} {fa : FA} {ρ : Rho} {x : Str} {g : FnD} {Q : Wt → Rho → Prop} (e : ρ[i]? = some (some (.sh (.fn x)))) (eg : D.lookup x = some g) (h : EvW (wCall n g fa) ρ Q) : EvW (wCallL i n D fa) ρ Q := by
  obtain ⟨w, ρ1, e1, q⟩ := h
  exact ⟨w, ρ1, by unfold wCallL; simp only [e, eg, e1], q⟩
/-! ### xs + ys, a list of its own -/
def wCat (fa fb : FE) : FW := bindEW fa fun d => bindEW fb fun e ρ => match d, e with
  | .lst xs, .lst ys => if xs.length + ys.length ≤ 100000 then some (.ok (.own (xs ++ ys)), ρ) else none
  | _, _ => none
section
variable {X : Cx} {P : Pt} {Wx : WX} {pos : Pos} {a b : Expr} {fa fb : FE}
theorem w_cat (ha : PE X a (LE X.K P Wx fa)) (hb : PE X b (LE X.K P Wx fb)) : PE X (.BinOp a .Add b pos) (LW X.K P Wx (wCat fa fb)) :=
  PEm (pe_op op_cat ha hb) fun σ H Q h => by
    obtain ⟨F, ρ, rr, q⟩ := h
    refine LE.bindW rr q fun d ρ1 F1 H1 x s1 r1 p1 q1 => ?_
    refine LE.bindW r1 q1 fun e ρ2 F2 H2 y s2 r2 p2 q2 => ?_
    cases p1 with
    | lst hq hr =>
      rename_i a1 vs1 ds1
      cases p2 with
      | lst hq2 hr2 =>
        rename_i a2 vs2 ds2
        simp only [] at q2
        split at q2
        · rename_i hl
          refine ⟨_, _, _, _, rfl, rfl, r2.fh _ _ (s2 _ _ hq), r2.fh _ _ hq2, by rw [← hr.length, ← hr2.length]; exact sz1000 hl, fun p np => ?_⟩
          have g := Grow.laid (o := .lst (vs1 ++ vs2)) r2.fh np
          refine q2 _ _ (.ref p) g.f (r2.grow g) ⟨p, _, rfl, free_of r2.fh np, upd_same, (hr.mono s2).append hr2, r2.fresh np, fun i ys hi hs => ?_⟩
          obtain ⟨v, ev, sw⟩ := r2.slot i _ hi
          rw [hs] at ev
          cases ev
          obtain ⟨p', vs', e0, _, e2, _⟩ := sw
          cases e0
          rw [np] at e2
          cases e2
        · exact q2.elim
      | _ => exact q2.elim
    | _ => exact q2.elim
end
theorem ew_cat {fa fb : FE} {ρ : Rho} {Q : Wt → Rho → Prop} (h : EvE fa ρ fun d ρ1 => EvE fb ρ1 fun e ρ2 => ∃ xs ys, d = .lst xs ∧ e = .lst ys ∧ xs.length + ys.length ≤ 100000 ∧ Q (.own (xs ++ ys)) ρ2) : EvW (wCat fa fb) ρ Q := by
  obtain ⟨d, ρ1, e1, e, ρ2, e2, xs, ys, rfl, rfl, hl, q⟩ := h
  exact ⟨_, ρ2, by unfold wCat bindEW; simp only [e1, e2, if_pos hl], q⟩
end DL
namespace DL
open PySem PySem.Spec PyProof.Rows L2 RZ
/-! ### calls by keywords, with defaults -/
def arr1 {α : Type} (ds vs : List α) : Nat ⊕ Nat → Option α
  | .inl i => vs[i]?
  | .inr j => ds[j]?
def arrL {α : Type} (ds : List α) : List (Nat ⊕ Nat) → List α → List α
  | [], _ => []
  | x :: ar, vs => match arr1 ds vs x with
    | some v => v :: arrL ds ar vs
    | none => arrL ds ar vs
theorem arrL_none {α : Type} {ds vs : List α} {x : Nat ⊕ Nat} {ar : List (Nat ⊕ Nat)} (h : arr1 ds vs x = none) : arrL ds (x :: ar) vs = arrL ds ar vs := by
  rw [arrL, h]
theorem arrL_some {α : Type} {ds vs : List α} {x : Nat ⊕ Nat} {ar : List (Nat ⊕ Nat)} {v : α} (h : arr1 ds vs x = some v) : arrL ds (x :: ar) vs = v :: arrL ds ar vs := by
  rw [arrL, h]
theorem vals_arr {vs dvs : List V} {us ds : List Value} (r : Vals vs us) (rd : Vals dvs ds) : ∀ ar : List (Nat ⊕ Nat), Vals (arrL dvs ar vs) (arrL ds ar us)
  | [] => .nil
  | x :: ar => by
    have ih := vals_arr r rd ar
    have key : ∀ {as : List V} {bs : List Value} (i : Nat), Vals as bs → (as[i]? = none ∧ bs[i]? = none) ∨ ∃ a b, as[i]? = some a ∧ bs[i]? = some b ∧ RelV a b := fun {as bs} i h => by
      cases e : as[i]? with
      | none => exact .inl ⟨rfl, h.none_of e⟩
      | some a =>
        obtain ⟨b, e1, e2⟩ := h.get e
        exact .inr ⟨a, b, rfl, e1, e2⟩
    cases x with
    | inl i =>
      rcases key i r with ⟨a, b⟩ | ⟨a, b, e1, e2, h⟩
      · rw [arrL_none (x := .inl i) a, arrL_none (x := .inl i) b]; exact ih
      · rw [arrL_some (x := .inl i) e1, arrL_some (x := .inl i) e2]; exact .cons h ih
    | inr i =>
      rcases key i rd with ⟨a, b⟩ | ⟨a, b, e1, e2, h⟩
      · rw [arrL_none (x := .inr i) a, arrL_none (x := .inr i) b]; exact ih
      · rw [arrL_some (x := .inr i) e1, arrL_some (x := .inr i) e2]; exact .cons h ih
def noTmp : List Av → Bool
  | [] => true
  | .tmp _ :: _ => false
  | _ :: as => noTmp as
def Av1 (K : PySem.W.Frag) (F : Hp) (σ : L2.St) (v : V) : Av → Prop
  | .val d => Rp K F d v
  | .slot j => σ[j]? = some (some v)
  | .tmp _ => False
section
variable {K : PySem.W.Frag} {P : Pt} {F H : Hp} {σ : L2.St} {ρ : Rho}
theorem avs_at : ∀ {as : List Av} {vs : List V} (i : Nat), Avs K P F H σ ρ as vs → noTmp as = true → (as[i]? = none ∧ vs[i]? = none) ∨ ∃ a v, as[i]? = some a ∧ vs[i]? = some v ∧ Av1 K F σ v a
  | _, _, _, .nil, _ => .inl ⟨rfl, rfl⟩
  | _, _, 0, .val (d := d) h _, _ => .inr ⟨.val d, _, rfl, rfl, h⟩
  | _, _, 0, .slot (j := j) h _, _ => .inr ⟨.slot j, _, rfl, rfl, h⟩
  | _, _, i + 1, .val h r, e => by simpa using avs_at i r e
  | _, _, i + 1, .slot h r, e => by simpa using avs_at i r e
  | _, _, _, .tmp _, e => by cases e
theorem avs_arr {as : List Av} {vs : List V} {dd : List Dt} {dvs : List V} (h : Avs K P F H σ ρ as vs) (hn : noTmp as = true) (hd : Rps K F dd dvs) : ∀ ar : List (Nat ⊕ Nat), Avs K P F H σ ρ (arrL (dd.map Av.val) ar as) (arrL dvs ar vs)
  | [] => .nil
  | x :: ar => by
    have ih := avs_arr h hn hd ar
    cases x with
    | inl i =>
      rcases avs_at i h hn with ⟨a, b⟩ | ⟨a, v, e1, e2, q⟩
      · rw [arrL_none (x := .inl i) a, arrL_none (x := .inl i) b]; exact ih
      · rw [arrL_some (x := .inl i) e1, arrL_some (x := .inl i) e2]
        cases a with
        | val d => exact .val q ih
        | slot j => exact .slot q ih
        | tmp xs => exact q.elim
    | inr j =>
      cases e : dd[j]? with
      | none =>
        have e2 : dvs[j]? = none := by
          rw [List.getElem?_eq_none_iff] at e ⊢
          rw [← hd.length]; exact e
        rw [arrL_none (by show (dd.map Av.val)[j]? = none; simp only [List.getElem?_map, e]; rfl), arrL_none (x := .inr j) e2]; exact ih
      | some d =>
        obtain ⟨v, e2, q⟩ := hd.get e
        rw [arrL_some (v := Av.val d) (by show (dd.map Av.val)[j]? = _; simp only [List.getElem?_map, e]; rfl), arrL_some (x := .inr j) e2]
        exact .val q ih
theorem avs_app : ∀ {as bs : List Av} {vs us : List V}, Avs K P F H σ ρ as vs → noTmp as = true → Avs K P F H σ ρ bs us → Avs K P F H σ ρ (as ++ bs) (vs ++ us)
  | _, _, _, _, .nil, _, r => r
  | _, _, _, _, .val h q, e, r => .val h (avs_app q e r)
  | _, _, _, _, .slot h q, e, r => .slot h (avs_app q e r)
  | _, _, _, _, .tmp _, e, _ => by cases e
theorem avs_len : ∀ {as : List Av} {vs : List V}, Avs K P F H σ ρ as vs → as.length = vs.length
  | _, _, .nil => rfl
  | _, _, .val _ q => by simp [avs_len q]
  | _, _, .slot _ q => by simp [avs_len q]
  | _, _, .tmp _ => rfl
/-- arguments without lists of their own stay, whatever slots are read -/
theorem avs_move {F' H' : Hp} {ρ' : Rho} (s : Same F F') : ∀ {as : List Av} {vs : List V}, Avs K P F H σ ρ as vs → noTmp as = true → Avs K P F' H' σ ρ' as vs
  | _, _, .nil, _ => .nil
  | _, _, .val h q, e => .val (h.mono s) (avs_move s q e)
  | _, _, .slot h q, e => .slot h (avs_move s q e)
  | _, _, .tmp _, e => by cases e
end
def aApp (fa fk : FA) : FA := fun ρ => match fa ρ with
  | none => none
  | some (.ex C fs, ρ1) => some (.ex C fs, ρ1)
  | some (.ok as, ρ1) => if noTmp as = true then (match fk ρ1 with
    | none => none
    | some (.ex C fs, ρ2) => some (.ex C fs, ρ2)
    | some (.ok bs, ρ2) => some (.ok (as ++ bs), ρ2)) else none
def aArr (n m : Nat) (dd : List Dt) (ar : List (Nat ⊕ Nat)) (fa fk : FA) : FA := fun ρ => match fa ρ with
  | none => none
  | some (.ex C fs, ρ1) => some (.ex C fs, ρ1)
  | some (.ok as, ρ1) => if noTmp as = true ∧ as.length = n then (match fk ρ1 with
    | none => none
    | some (.ex C fs, ρ2) => some (.ex C fs, ρ2)
    | some (.ok bs, ρ2) => if noTmp (as ++ bs) = true ∧ bs.length = m then some (.ok (arrL (dd.map Av.val) ar (as ++ bs)), ρ2) else none) else none
structure KB (K : PySem.W.Frag) (fd : FuncData) (ps : List Str) (n : Nat) (ks : List Str) (ar : List (Nat ⊕ Nat)) (ds : List Value) : Prop where
  to : ∀ (s : Shared) (us ws : List Value), K.In s.heap → us.length = n → ws.length = ks.length → BindsTo s fd ⟨us, ks.zip ws⟩ (ps.zip (arrL ds ar (us ++ ws)))
section
variable {X : Cx} {P : Pt} {Wx : WX} {pos p : Pos} {e : Expr} {es : List Expr} {kws : List Keyword} {fa fk : FA} {k n np : Nat} {f : Addr} {fd : FuncData} {ps ks : List Str} {g : FnD} {x : Str} {ar : List (Nat ⊕ Nat)} {ds : List Value} {dd : List Dt} {dvs : List V}
/-- the call itself, the arguments being there -/
theorem call_sp {σ : L2.St} {H F : Hp} {ρ : Rho} {as : List Av} {vs : List V} {Q : VK} (r1 : Rel X.K P F H σ ρ) (p1 : Avs X.K P F H σ ρ as vs)
    (q : postW X.K P Wx σ F Q (match toWs ρ as with | none => none | some ws => if ws.length = n ∧ (slotsOf as).Nodup then (match g ws with | none => none | some (r, cs) => some (r, putBack (slotsOf as) cs ρ)) else none)) : spF X.K n g vs H Q (WE Wx σ) := by
  have h : LW X.K P Wx (wCall n g (fun _ => some (.ok as, ρ))) σ H Q := ⟨F, ρ, r1, q⟩
  cases e1 : toWs ρ as with
  | none => simp only [e1] at q; exact q.elim
  | some ws =>
    simp only [e1] at q
    by_cases nd : ws.length = n ∧ (slotsOf as).Nodup
    · rw [if_pos nd] at q
      obtain ⟨nl, nd⟩ := nd
      obtain ⟨G, S, aw, sl, an, _⟩ := args_ok r1 p1 e1 nd
      refine ⟨by rw [aw.length]; exact nl, F, G, ws, S.fg, S.gh, aw, an, ?_⟩
      match e2 : g ws with
      | none => simp only [e2] at q; exact q.elim
      | some (.ok w, cs) =>
        simp only [e2] at q
        intro F2 H2 v gb fw
        have r2 := r1.after S gb sl nd
        refine q F2 H2 v gb.f r2 ?_
        cases w with
        | sh d => exact fw
        | own xs =>
          obtain ⟨a, us, rfl, k1, k2, k3, k4⟩ := fw
          refine ⟨a, us, rfl, k2, k3, k4, S.h0 r1 k1, fun i ys hi hs => ?_⟩
          have : ∃ zs, ρ[i]? = some (some (.own zs)) := by
            by_cases hj : i ∈ slotsOf as
            · obtain ⟨kk, hk⟩ := List.getElem?_of_mem hj
              obtain ⟨_, zs, _, _, e⟩ := sl.get hk
              exact ⟨zs, e⟩
            · rw [putBack_not hj] at hi; exact ⟨ys, hi⟩
          obtain ⟨zs, hz⟩ := this
          obtain ⟨p', vs', ev, _, e4, _⟩ := r1.own hz
          rw [hs] at ev
          cases ev
          rw [S.slot hz hs e4] at k1
          cases k1
      | some (.ex C fs, cs) =>
        simp only [e2] at q
        exact fun F2 H2 cls dd gb xp => q F2 H2 cls dd gb.f (r1.after S gb sl nd) xp
    · rw [if_neg nd] at q; exact q.elim
theorem run_kb {pins : List (Addr × Obj)} {σ : L2.St} {H : Hp} {s : Shared} {Q : VK} {us ws : List Value} {vs zs : List V} (G : FnOk X.prog X.w X.K X.mg X.base (L2.CX X.prog X.w) k f fd ps (spF X.K np g)) (hr : Room k X.A) (hb : KB X.K fd ps n ks ar ds) (hd : Vals dvs ds) (tk : Takes X Wx)
    (I : Inv X pins σ H s) (r : Vals vs us) (rz : Vals zs ws) (l1 : vs.length = n) (l2 : zs.length = ks.length) (h : spF X.K np g (arrL dvs ar (vs ++ zs)) H Q (WE Wx σ)) :
    wpAny (model X.prog X.w) X.A (call (.ref f) us (ks.zip ws)) (EP X pins σ Q) X.xe s := by
  have r2 := vals_arr (r.append rz) hd ar
  have bt := hb.to s us ws I.kIn (by rw [← r.length]; exact l1) (by rw [← rz.length]; exact l2)
  refine wpAny_call (codeAny_mono (G.run X.A X.stack s H ⟨us, ks.zip ws⟩ _ _ Q (WE Wx σ) hr I.env0 bt r2 h) fun y s' hq => ?_)
  match y, hq with
  | .error e, hq => exact passAt tk σ pins H s e s' I hq
  | .ok (.ret u), hq => exact I.after hq
  | .ok .next, hq => exact hq.elim
  | .ok .brk, hq => exact hq.elim
  | .ok .cont, hq => exact hq.elim
/-- positional arguments, then keywords -/
theorem LA_kw {σ : L2.St} {H : Hp} {Q : VK} (hd : ∀ F : Hp, Rps X.K F dd dvs) (h : LW X.K P Wx (wCall np g (aArr n ks.length dd ar fa fk)) σ H Q) :
    LA X.K P Wx fa σ H fun vs H1 => LA X.K P Wx fk σ H1 fun zs H2 => vs.length = n ∧ zs.length = ks.length ∧ spF X.K np g (arrL dvs ar (vs ++ zs)) H2 Q (WE Wx σ) := by
  obtain ⟨F, ρ, r, q⟩ := h
  refine ⟨F, ρ, r, ?_⟩
  unfold wCall bindAW aArr at q
  match e1 : fa ρ with
  | none => simp only [e1] at q; exact q.elim
  | some (.ex C fs, ρ1) => simp only [e1] at q; exact q
  | some (.ok as, ρ1) =>
    simp only [e1] at q
    intro F1 H1 vs s1 r1 p1
    by_cases hn : noTmp as = true ∧ as.length = n
    · simp only [if_pos hn] at q
      refine ⟨F1, ρ1, r1, ?_⟩
      match e2 : fk ρ1 with
      | none => simp only [e2] at q; exact q.elim
      | some (.ex C fs, ρ2) => simp only [e2] at q; exact fun F' H' cls dd a => q F' H' cls dd (s1.trans a)
      | some (.ok bs, ρ2) =>
        simp only [e2] at q
        intro F2 H2 zs s2 r2 p2
        by_cases hm : noTmp (as ++ bs) = true ∧ bs.length = ks.length
        · simp only [if_pos hm] at q
          refine ⟨by rw [← avs_len p1]; exact hn.2, by rw [← avs_len p2]; exact hm.2, ?_⟩
          have pa := avs_app (avs_move (F' := F2) (H' := H2) (ρ' := ρ2) s2 p1 hn.1) hn.1 p2
          exact call_sp r2 (avs_arr pa hm.1 (hd F2) ar) (postW.mono (s1.trans s2) q)
        · simp only [if_neg hm] at q; exact q.elim
    · simp only [if_neg hn] at q; exact q.elim
end
/-- a def by the form of a call: n positional values, keywords ks -/
structure CallAt (P : Program) (w : World) (K : PySem.W.Frag) (mg : Str → Option Value) (base : Heap) (k : Nat) (x : Str) (n : Nat) (ks : List Str) (ar : List (Nat ⊕ Nat)) (dd : List Dt) (np : Nat) (g : FnD) : Prop where
  ex : ∃ f fd ps ds dvs, FnOk P w K mg base (L2.CX P w) k f fd ps (spF K np g) ∧ mg x = some (.ref f) ∧ PySem.W.keepIn K (.ref f) = true ∧ KB K fd ps n ks ar ds ∧ Vals dvs ds ∧ ∀ F : Hp, Rps K F dd dvs
theorem CallAt.mono {P : Program} {w : World} {K : PySem.W.Frag} {mg : Str → Option Value} {base : Heap} {j k : Nat} {x : Str} {n : Nat} {ks : List Str} {ar : List (Nat ⊕ Nat)} {dd : List Dt} {np : Nat} {g : FnD} (h : CallAt P w K mg base j x n ks ar dd np g) (hk : j ≤ k) : CallAt P w K mg base k x n ks ar dd np g := by
  obtain ⟨f, fd, ps, ds, dvs, a, b⟩ := h.ex
  exact ⟨f, fd, ps, ds, dvs, a.mono hk, b⟩
section
variable {X : Cx} {P : Pt} {Wx : WX} {pos p : Pos} {e : Expr} {es : List Expr} {kws : List Keyword} {fa fk : FA} {k n np : Nat} {ks : List Str} {g : FnD} {x : Str} {ar : List (Nat ⊕ Nat)} {dd : List Dt}
theorem w_kw (h : CallAt X.prog X.w X.K X.mg X.base k x n ks ar dd np g) (hr : Room k X.A) (tk : Takes X Wx) (hg : Gl X x) (ha : PA X (e :: es) (LA X.K P Wx fa)) (hk : PK X kws (LA X.K P Wx fk))
    (hall : (backToKw pos (keywordEach kws X.env)).all (·.1.isSome) = true := by rfl) (hks : (backToKw pos (keywordEach kws X.env)).filterMap (·.1) = ks := by rfl) (hdb : (x == ("__debug__" : Str)) = false := by decide) (he : starEach (e :: es) X.env = (false, eval e X.env) :: starEach es X.env := by rfl)
    (hpl : ((backTo pos (starEach (e :: es) X.env)).any (·.1) || (backToKw pos (keywordEach kws X.env)).any (·.1.isNone)) = false := by rfl) :
    PE X (.Call (.Name x p) (e :: es) kws pos) (LW X.K P Wx (wCall np g (aArr n ks.length dd ar fa fk))) := by
  obtain ⟨f, fd, ps, ds, dvs, G, hm, hkp, hb, hv, hd⟩ := h.ex
  refine ⟨fun pins s σ H Q I q => wpAny_Call_Name_kw (ld_glob I hg hm ?_ hdb)⟩
  refine PySem.W.callWith_KW (h₀ := X.base) I.ok.mod.kin hkp hall ?_ hpl he
  refine thn (ha.run pos pins s σ H _ I (LA_kw hd q)) fun us s1 ⟨vs, H1, I1, r, q1⟩ => ?_
  refine thn (hk.run pos pins s1 σ H1 _ I1 q1) fun ws s2 ⟨zs, H2, I2, rz, l1, l2, q2⟩ => ⟨I2.kIn, ?_⟩
  rw [hks]
  exact run_kb G hr hb hv tk I2 r rz l1 l2 q2
theorem w_kw1 (h : CallAt X.prog X.w X.K X.mg X.base k x n [] ar dd np g) (hr : Room k X.A) (tk : Takes X Wx) (hg : Gl X x) (ha : PA X (e :: es) (LA X.K P Wx fa)) (hdb : (x == ("__debug__" : Str)) = false := by decide) (he : starEach (e :: es) X.env = (false, eval e X.env) :: starEach es X.env := by rfl)
    (hpl : (backTo pos (starEach es X.env)).any (·.1) = false := by rfl) : PE X (.Call (.Name x p) (e :: es) [] pos) (LW X.K P Wx (wCall np g (aArr n 0 dd ar fa aNil))) := by
  obtain ⟨f, fd, ps, ds, dvs, G, hm, hkp, hb, hv, hd⟩ := h.ex
  refine ⟨fun pins s σ H Q I q => wpAny_Call_Name_kw (ld_glob I hg hm ?_ hdb)⟩
  refine PySem.W.callWith_K (h₀ := X.base) I.ok.mod.kin hkp (thn (ha.run pos pins s σ H _ I (LA_kw (ks := []) hd q)) fun us s1 ⟨vs, H1, I1, r, q1⟩ => ⟨I1.kIn, ?_⟩) he hpl
  obtain ⟨F, ρ, r2, q2⟩ := q1
  obtain ⟨l1, l2, q3⟩ := q2 F H1 [] (.refl _) r2 .nil
  exact run_kb (ws := []) G hr hb hv tk I1 r .nil l1 l2 q3
theorem w_kw0 (h : CallAt X.prog X.w X.K X.mg X.base k x 0 [] ar dd np g) (hr : Room k X.A) (tk : Takes X Wx) (hg : Gl X x) (hdb : (x == ("__debug__" : Str)) = false := by decide) : PE X (.Call (.Name x p) [] [] pos) (LW X.K P Wx (wCall np g (aArr 0 0 dd ar aNil aNil))) := by
  obtain ⟨f, fd, ps, ds, dvs, G, hm, hkp, hb, hv, hd⟩ := h.ex
  refine ⟨fun pins s σ H Q I q => wpAny_Call_Name_kw (ld_glob I hg hm ?_ hdb)⟩
  obtain ⟨F, ρ, r1, q1⟩ := LA_kw (ks := []) hd q
  obtain ⟨F2, ρ2, r2, q2⟩ := q1 F H [] (.refl _) r1 .nil
  obtain ⟨l1, l2, q3⟩ := q2 F2 H [] (.refl _) r2 .nil
  exact PySem.W.callWith_K0 I.kIn hkp (run_kb (us := []) (ws := []) G hr hb hv tk I .nil .nil l1 l2 q3)
theorem k_nil : PK X [] (LA X.K P Wx aNil) := ⟨fun pos pins s σ H Q I h => by
  obtain ⟨F, ρ, r, q⟩ := h
  exact pk_nil.run pos pins s σ H Q I (q F H [] (.refl _) r .nil)⟩
theorem k_val {nm : Option Str} {kp : Pos} {f : FE} {r : FA} (he : PE X e (LE X.K P Wx f)) (hr : PK X kws (LA X.K P Wx r)) : PK X (⟨nm, e, kp⟩ :: kws) (LA X.K P Wx (aVal f r)) := ⟨fun pos pins s σ H Q I h => by
  refine (pk_cons he hr).run pos pins s σ H Q I ?_
  obtain ⟨F, ρ, rr, q⟩ := h
  refine LE.bindA rr q fun d ρ1 F1 H1 v s1 r1 p1 q1 => ⟨F1, ρ1, r1, ?_⟩
  match e : r ρ1 with
  | none => simp only [e] at q1; exact q1.elim
  | some (.ok as, ρ2) =>
    simp only [e] at q1
    exact fun F2 H2 vs s2 r2 p2 => q1 F2 H2 (v :: vs) s2 r2 (.val (p1.mono s2) p2)
  | some (.ex C fs, ρ2) => simp only [e] at q1; exact q1⟩
end
/-! what is run -/
theorem ea_arr {n m : Nat} {dd : List Dt} {ar : List (Nat ⊕ Nat)} {fa fk : FA} {ρ : Rho} {Q : List Av → Rho → Prop} (h : EvA fa ρ fun as ρ1 => noTmp as = true ∧ as.length = n ∧ EvA fk ρ1 fun bs ρ2 => noTmp (as ++ bs) = true ∧ bs.length = m ∧ ∃ cs, arrL (dd.map Av.val) ar (as ++ bs) = cs ∧ Q cs ρ2) : EvA (aArr n m dd ar fa fk) ρ Q := by
  obtain ⟨as, ρ1, e1, h1, h2, bs, ρ2, e2, h3, h4, _, rfl, q⟩ := h
  exact ⟨_, ρ2, by unfold aArr; simp only [e1, if_pos (And.intro h1 h2), e2, if_pos (And.intro h3 h4)], q⟩
/-! ### where such a def stands -/
structure KDefAt (K : PySem.W.Frag) (mg : Str → Option Value) (x : Str) (st : Stmt) (ps : List Str) (n : Nat) (ks : List Str) (ar : List (Nat ⊕ Nat)) (dd : List Dt) : Prop where
  ex : ∃ f fd ds dvs, Fun K x x st f fd ∧ mg x = some (.ref f) ∧ KB K fd ps n ks ar ds ∧ Vals dvs ds ∧ ∀ F : Hp, Rps K F dd dvs
section
variable {P : Program} {w : World} {K : PySem.W.Frag} {mg : Str → Option Value} {base : Heap}
theorem fn_atK {x : Str} {st : Stmt} {N ps : List Str} {k n : Nat} {ks : List Str} {ar : List (Nat ⊕ Nat)} {dd : List Dt} (bs : List Nat) {fb : FS} (D : KDefAt K mg x st ps n ks ar dd) (S : FnScope N ps (defScope st))
    (hb : ∀ (f : Addr) (cdv : Value) (A : Around) (outer : List Env) (s : Shared) (H : Hp) (E : XK) (Z : Pt), (∀ j, j ∈ Z.bs → j ∈ bs) → Room k (A.deeper (envOfC x (defScope st) s.heap.objs.size f cdv)) →
      PSs (cxOf (L2.CX P w) P w K mg base N x (defScope st) f cdv A outer s H E) (defBody st) (LS K Z (fun cls d _ H => E cls d H) fb)) :
    CallAt P w K mg base (k + 1) x n ks ar dd ps.length (callF N.length bs fb) := by
  obtain ⟨f, fd, ds, dvs, F, b, d⟩ := D.ex
  exact ⟨f, fd, ps, ds, dvs, fn_okD bs F S (hb f), b, F.kp, d⟩
theorem CallAt.none {x : Str} {st : Stmt} {ps : List Str} {n : Nat} {ks : List Str} {ar : List (Nat ⊕ Nat)} {dd : List Dt} (D : KDefAt K mg x st ps n ks ar dd) : CallAt P w K mg base 0 x n ks ar dd ps.length (fun _ => none) := by
  obtain ⟨f, fd, ds, dvs, F, b, d⟩ := D.ex
  refine ⟨f, fd, ps, ds, dvs, ⟨fun vs H Q E h => h.1, fun A outer s H args us vs Q E _ _ _ _ h => ?_⟩, b, F.kp, d⟩
  obtain ⟨_, _, _, _, _, _, _, _, z⟩ := h
  exact z.elim
/-- the defaults that are lacking -/
theorem entries_vals {D : Addr} : ∀ {kvs : List (Str × Dt)}, EntriesOk K D kvs → ∃ (us : List Value) (vs : List V), us.length = kvs.length ∧ Vals vs us ∧ (∀ F : Hp, Rps K F (kvs.map (·.2)) vs) ∧ ∀ q ∈ (kvs.map (·.1)).zip us, PySem.W.nsIn K D q.1 = some (some q.2)
  | [], _ => ⟨[], [], rfl, .nil, fun _ => .nil, fun q hq => by cases hq⟩
  | (k, d) :: r, ⟨⟨u, v, a, b, c⟩, h⟩ => by
    obtain ⟨us, vs, e1, e2, e3, e4⟩ := entries_vals h
    refine ⟨u :: us, v :: vs, by simp [e1], .cons b e2, fun F => .cons (c F) (e3 F), fun q hq => ?_⟩
    rcases List.mem_cons.mp (show q ∈ (k, u) :: (r.map (·.1)).zip us from hq) with e | hq
    · rw [e]; exact a
    · exact e4 q hq
theorem kdef_mk0 {h : Heap} {x : Str} {st : Stmt} {ps : List Str} {n : Nat} {ks : List Str} {ar : List (Nat ⊕ Nat)} {f : Addr} {oc : Value} {od an : Option Addr} {osl : Array (Option Value)} {kV doc pm cdv ct : Value} (X : K.In h) (G : h.Ns mainGlobals mg)
    (a : PySem.W.nsIn K mainGlobals x = some (some (.ref f))) (l : K.lookup f = some ⟨oc, od, .func (PySem.W.fnOf x x (defArgs st) (defBody st) (defScope st) .none kV doc pm an cdv ct), osl⟩)
    (c : PySem.W.codeIn K cdv x = true) (k : PySem.W.keepIn K (.ref f) = true)
    (hb : ∀ (kV doc pm : Value) (an : Option Addr) (cdv ct : Value) (us ws : List Value), us.length = n → ws.length = ks.length → bindArgs (PySem.W.fnOf x x (defArgs st) (defBody st) (defScope st) .none kV doc pm an cdv ct) ⟨us, ks.zip ws⟩ = pure (ps.zip (arrL [] ar (us ++ ws)))) : KDefAt K mg x st ps n ks ar [] :=
  have F := fun_mk (st := st) l c k
  ⟨f, _, [], [], F, PySem.W.mg_of X G a, ⟨fun s us ws _ h1 h2 => .of_eq (hb kV doc pm an cdv ct us ws h1 h2)⟩, .nil, fun _ => .nil⟩
theorem kdef_mk1 {h : Heap} {x : Str} {st : Stmt} {ps : List Str} {n : Nat} {ks : List Str} {ar : List (Nat ⊕ Nat)} {kvs : List (Str × Dt)} {f D : Addr} {oc : Value} {od an : Option Addr} {osl : Array (Option Value)} {doc pm cdv ct : Value} (X : K.In h) (G : h.Ns mainGlobals mg)
    (a : PySem.W.nsIn K mainGlobals x = some (some (.ref f))) (l : K.lookup f = some ⟨oc, od, .func (PySem.W.fnOf x x (defArgs st) (defBody st) (defScope st) .none (.ref D) doc pm an cdv ct), osl⟩)
    (c : PySem.W.codeIn K cdv x = true) (k : PySem.W.keepIn K (.ref f) = true) (he : EntriesOk K D kvs)
    (hb : ∀ (D : Addr) (doc pm : Value) (an : Option Addr) (cdv ct : Value) (us ws ms : List Value), us.length = n → ws.length = ks.length → ms.length = kvs.length → KwChain D ((kvs.map (·.1)).zip ms) (bindArgs (PySem.W.fnOf x x (defArgs st) (defBody st) (defScope st) .none (.ref D) doc pm an cdv ct) ⟨us, ks.zip ws⟩) (ps.zip (arrL ms ar (us ++ ws)))) : KDefAt K mg x st ps n ks ar (kvs.map (·.2)) :=
  have F := fun_mk (st := st) l c k
  have ⟨ms, vs, e1, e2, e3, e4⟩ := entries_vals he
  ⟨f, _, ms, vs, F, PySem.W.mg_of X G a, ⟨fun s us ws KI h1 h2 => BindsTo.of_looks fun M => KwChain.looks KI e4 (hb D doc pm an cdv ct us ws ms h1 h2 e1)⟩, e2, e3⟩
theorem entry_tup {q T : Addr} {k : Str} {od : Option Addr} {its : Array Value} {n : Nat} {sl : Array (Option Value)} {ds : List Dt} (e : PySem.W.nsIn K q k = some (some (.ref T))) (l : K.lookup T = some ⟨.type "tuple", od, .seq its n, sl⟩) (hs : its.toList.map scalD = ds.map some) (hz : its.size ≤ sizeLine) : EntryOk K q (k, .tup ds) := ⟨.ref T, .ref T, e, rfl, tup_mk l hs hz⟩
end
end DL
namespace DL
open PySem PySem.Spec PyProof.Rows L2 RZ
/-! ### int(..), str(..) -/
theorem CallR.or {X : Cx} {f : Value} {r r' : List V → Hp → VK → Prop} (h : CallR X f r) (h' : CallR X f r') : CallR X f (fun xs H Q => r xs H Q ∨ r' xs H Q) :=
  fun pins s σ H xs us Q I v q => q.elim (fun q => h pins s σ H xs us Q I v q) fun q => h' pins s σ H xs us Q I v q
def dInt : List Dt → Option Dt
  | [.int i] => some (.int i)
  | [.bl k] => some (.int (if k then 1 else 0))
  | [.str a] => match PySem.intText? a with
    | some n => if a.length ≤ 640 then some (.int n) else none
    | none => none
  | _ => none
def dStr : List Dt → Option Dt
  | [.int i] => if i.natAbs.log2 < 1920 then some (.str (toString i)) else none
  | _ => none
section
variable {X : Cx}
theorem call_intA : CallR X (.type "int") (fun xs H Q => ((∃ i, xs = [.int i] ∧ Q (.int i) H) ∨ ∃ k, xs = [.bl k] ∧ Q (.int (if k then 1 else 0)) H) ∨ ∃ a n, xs = [.str a] ∧ PySem.intText? a = some n ∧ a.length ≤ 640 ∧ Q (.int n) H) := CallR.or call_int1 call_int_str
theorem cd_int : CallD X.K (fun xs H Q => ((∃ i, xs = [.int i] ∧ Q (.int i) H) ∨ ∃ k, xs = [.bl k] ∧ Q (.int (if k then 1 else 0)) H) ∨ ∃ a n, xs = [.str a] ∧ PySem.intText? a = some n ∧ a.length ≤ 640 ∧ Q (.int n) H) dInt := by
  intro ds g h F H vs Q s hr q
  unfold dInt at h
  split at h
  · cases h
    match vs, hr with
    | _, .cons (.int i) .nil => exact .inl (.inl ⟨i, rfl, q F H _ (Grow.refl s) (.int _)⟩)
  · cases h
    match vs, hr with
    | _, .cons (.bl k) .nil => exact .inl (.inr ⟨k, rfl, q F H _ (Grow.refl s) (.int _)⟩)
  · rename_i a
    split at h
    · rename_i n hn
      split at h
      · rename_i hl
        cases h
        match vs, hr with
        | _, .cons (.str _) .nil => exact .inr ⟨_, n, rfl, hn, hl, q F H _ (Grow.refl s) (.int _)⟩
      · cases h
    · cases h
  · cases h
theorem cd_str : CallD X.K (fun xs H Q => ∃ i, xs = [.int i] ∧ i.natAbs.log2 < 1920 ∧ Q (.str (toString i)) H) dStr := by
  intro ds g h F H vs Q s hr q
  unfold dStr at h
  split at h
  · split at h
    · rename_i hl
      cases h
      match vs, hr with
      | _, .cons (.int i) .nil => exact ⟨i, rfl, hl, q F H _ (Grow.refl s) (.str _)⟩
    · cases h
  · cases h
end
end DL
namespace DL
open PySem PySem.Spec PyProof.Rows L2 RZ
/-! ### min, max, sum, any -/
def dMin2 : List Dt → Option Dt
  | [.int i, .int j] => some (.int (if j < i then j else i))
  | _ => none
def dMax2 : List Dt → Option Dt
  | [.int i, .int j] => some (.int (if j > i then j else i))
  | _ => none
def intsD : List Dt → Option (List Int)
  | [] => some []
  | .int i :: ds => (intsD ds).map (i :: ·)
  | _ => none
def dSum : List Dt → Option Dt
  | [.lst xs] => (intsD xs).map fun ns => .int ns.sum
  | _ => none
def dAny : List Dt → Option Dt
  | [.lst xs] => (bools xs).map fun bs => .bl (bs.any id)
  | _ => none
theorem intsD_ok {K : PySem.W.Frag} {F : Hp} : ∀ {ds : List Dt} {vs : List V} {ns : List Int}, Rps K F ds vs → intsD ds = some ns → vs = ns.map V.int
  | _, _, _, .nil, e => by cases e; rfl
  | _, _, ns, .cons (ds := ds) h r, e => by
    cases h with
    | int b =>
      unfold intsD at e
      cases q : intsD ds with
      | none => rw [q] at e; cases e
      | some cs => rw [q] at e; cases e; rw [intsD_ok r q]; rfl
    | _ => cases e
section
variable {X : Cx}
theorem cd_min2 : CallD X.K (fun xs H Q => ∃ i j, xs = [.int i, .int j] ∧ Q (.int (if j < i then j else i)) H) dMin2 := by
  intro ds g h F H vs Q s hr q
  unfold dMin2 at h
  split at h
  · cases h
    match vs, hr with
    | _, .cons (.int i) (.cons (.int j) .nil) => exact ⟨i, j, rfl, q F H _ (Grow.refl s) (.int _)⟩
  · cases h
theorem cd_max2 : CallD X.K (fun xs H Q => ∃ i j, xs = [.int i, .int j] ∧ Q (.int (if j > i then j else i)) H) dMax2 := by
  intro ds g h F H vs Q s hr q
  unfold dMax2 at h
  split at h
  · cases h
    match vs, hr with
    | _, .cons (.int i) (.cons (.int j) .nil) => exact ⟨i, j, rfl, q F H _ (Grow.refl s) (.int _)⟩
  · cases h
theorem cd_sum : CallD X.K (rSum X.K) dSum := by
  intro ds g h F H vs Q s hr q
  unfold dSum at h
  split at h
  · rename_i xs
    match vs, hr with
    | _, .cons (.lst hq hr) .nil =>
      cases hb : intsD xs with
      | none => rw [hb] at h; cases h
      | some bs =>
        rw [hb] at h
        cases h
        have e := intsD_ok hr hb
        subst e
        exact ⟨_, bs, rfl, .inl (.inl (s _ _ hq)), q F H _ (Grow.refl s) (.int _)⟩
  · cases h
theorem cd_any : CallD X.K (rAny X.K) dAny := by
  intro ds g h F H vs Q s hr q
  unfold dAny at h
  split at h
  · rename_i xs
    match vs, hr with
    | _, .cons (.lst hq hr) .nil =>
      cases hb : bools xs with
      | none => rw [hb] at h; cases h
      | some bs =>
        rw [hb] at h
        cases h
        have e := bools_ok hr hb
        subst e
        exact ⟨_, bs, rfl, .inl (.inl (s _ _ hq)), q F H _ (Grow.refl s) (.bl _)⟩
  · cases h
end
end DL
namespace DL
open PySem PySem.Spec PyProof.Rows L2 RZ
/-! ### what a run asks, told so that it unfolds by itself -/
/-- here the unfolding halts -/
structure At (P : Prop) : Prop where
  h : P
def fL {α : Type} : List α → (List α → Prop) → Prop
  | [], k => k []
  | x :: xs, k => fL xs fun ys => k (x :: ys)
theorem fL_ok {α : Type} : ∀ (xs : List α) (k : List α → Prop), fL xs k → k xs
  | [], _, h => h
  | x :: xs, k, h => fL_ok xs (fun ys => k (x :: ys)) h
theorem fL_of {α : Type} : ∀ (xs : List α) (k : List α → Prop), k xs → fL xs k
  | [], _, h => h
  | x :: xs, k, h => fL_of xs (fun ys => k (x :: ys)) h
def wO {α : Type} (o : Option α) (Q : α → Prop) : Prop := match o with
  | some g => Q g
  | none => False
theorem wO.ex {α : Type} {o : Option α} {Q : α → Prop} (h : wO o Q) : ∃ g, o = some g ∧ Q g := by
  cases o with
  | none => exact h.elim
  | some g => exact ⟨g, rfl, h⟩
theorem wo {α : Type} {o : Option α} {Q : α → Prop} {g : α} (e : o = some g) (h : Q g) : wO o Q := by subst e; exact h
def wT (b : Bool) (T F : Prop) : Prop := match b with
  | true => T
  | false => F
theorem wt {b : Bool} {T F : Prop} (h1 : b = true → T) (h2 : b = false → F) : wT b T F := by
  cases b with
  | true => exact h1 rfl
  | false => exact h2 rfl
theorem wT.h1 {b : Bool} {T F : Prop} (h : wT b T F) (e : b = true) : T := by subst e; exact h
theorem wT.h2 {b : Bool} {T F : Prop} (h : wT b T F) (e : b = false) : F := by subst e; exact h
def wB (d : Dt) (T F : Prop) : Prop := match d with
  | .bl b => wT b T F
  | _ => False
theorem wB.evb {d : Dt} {T F : Prop} (h : wB d T F) : EvB d T F := by
  cases d with
  | bl b => exact evB (fun e => wT.h1 h e) fun e => wT.h2 h e
  | _ => exact h.elim
def wI (d : Dt) (Q : Int → Prop) : Prop := match d with
  | .int i => Q i
  | _ => False
theorem wI.ex {d : Dt} {Q : Int → Prop} (h : wI d Q) : ∃ i, d = .int i ∧ Q i := by
  cases d with
  | int i => exact ⟨i, rfl, h⟩
  | _ => exact h.elim
def wC (p : Bool) (Q : Prop) : Prop := match p with
  | true => Q
  | false => False
theorem wC.ex {p : Bool} {Q : Prop} (h : wC p Q) : p = true ∧ Q := by
  cases p with
  | true => exact ⟨rfl, h⟩
  | false => exact h.elim
theorem wc {p : Bool} {Q : Prop} (e : p = true) (h : Q) : wC p Q := by subst e; exact h
def wOwn (o : Option (Option Wt)) (Q : List Dt → Prop) : Prop := match o with
  | some (some (.own xs)) => Q xs
  | _ => False
theorem wOwn.ex {o : Option (Option Wt)} {Q : List Dt → Prop} (h : wOwn o Q) : ∃ xs, o = some (some (.own xs)) ∧ Q xs := by
  match o, h with
  | some (some (.own xs)), h => exact ⟨xs, rfl, h⟩
theorem At.mono {P P' : Prop} (h : At P) (k : P → P') : At P' := ⟨k h.h⟩
theorem fL.mono {α : Type} : ∀ {xs : List α} {Q Q' : List α → Prop}, fL xs Q → (∀ g, Q g → Q' g) → fL xs Q'
  | [], _, _, h, k => k _ h
  | x :: xs, Q, Q', h, k => fL.mono (xs := xs) h fun g h => k (x :: g) h
theorem wO.mono {α : Type} {o : Option α} {Q Q' : α → Prop} (h : wO o Q) (k : ∀ g, Q g → Q' g) : wO o Q' := by
  cases o with
  | none => exact h
  | some g => exact k g h
theorem wT.mono {b : Bool} {T F T' F' : Prop} (h : wT b T F) (k1 : T → T') (k2 : F → F') : wT b T' F' := by
  cases b with
  | true => exact k1 h
  | false => exact k2 h
theorem wB.mono {d : Dt} {T F T' F' : Prop} (h : wB d T F) (k1 : T → T') (k2 : F → F') : wB d T' F' := by
  cases d with
  | bl b => exact wT.mono (b := b) h k1 k2
  | _ => exact h
theorem wI.mono {d : Dt} {Q Q' : Int → Prop} (h : wI d Q) (k : ∀ g, Q g → Q' g) : wI d Q' := by
  cases d with
  | int i => exact k i h
  | _ => exact h
theorem wC.mono {p : Bool} {Q Q' : Prop} (h : wC p Q) (k : Q → Q') : wC p Q' := by
  cases p with
  | true => exact k h
  | false => exact h
theorem wOwn.mono {o : Option (Option Wt)} {Q Q' : List Dt → Prop} (h : wOwn o Q) (k : ∀ g, Q g → Q' g) : wOwn o Q' := by
  obtain ⟨xs, rfl, h⟩ := h.ex
  exact k xs h
theorem EvE.imp {f : FE} {ρ : Rho} {Q Q' : Dt → Rho → Prop} (h : EvE f ρ Q) (k : ∀ d ρ1, Q d ρ1 → Q' d ρ1) : EvE f ρ Q' := by
  obtain ⟨d, ρ1, e, q⟩ := h
  exact ⟨d, ρ1, e, k d ρ1 q⟩
theorem EvW.imp {f : FW} {ρ : Rho} {Q Q' : Wt → Rho → Prop} (h : EvW f ρ Q) (k : ∀ d ρ1, Q d ρ1 → Q' d ρ1) : EvW f ρ Q' := by
  obtain ⟨d, ρ1, e, q⟩ := h
  exact ⟨d, ρ1, e, k d ρ1 q⟩
theorem EvA.imp {f : FA} {ρ : Rho} {Q Q' : List Av → Rho → Prop} (h : EvA f ρ Q) (k : ∀ d ρ1, Q d ρ1 → Q' d ρ1) : EvA f ρ Q' := by
  obtain ⟨d, ρ1, e, q⟩ := h
  exact ⟨d, ρ1, e, k d ρ1 q⟩
theorem EvI.imp {f : FI} {ρ : Rho} {Q Q' : List Dt → Rho → Prop} (h : EvI f ρ Q) (k : ∀ d ρ1, Q d ρ1 → Q' d ρ1) : EvI f ρ Q' := by
  obtain ⟨d, ρ1, e, q⟩ := h
  exact ⟨d, ρ1, e, k d ρ1 q⟩
theorem EvF.imp {f : FnD} {ws : List Aw} {Q Q' : Wt → List (List Dt) → Prop} (h : EvF f ws Q) (k : ∀ d cs, Q d cs → Q' d cs) : EvF f ws Q' := by
  obtain ⟨d, ρ1, e, q⟩ := h
  exact ⟨d, ρ1, e, k d ρ1 q⟩
theorem EvS.imp {f : FS} {ρ : Rho} {N N' : Rho → Prop} {R R' : Wt → Rho → Prop} (h : EvS f ρ N R) (k : ∀ ρ1, N ρ1 → N' ρ1) (k2 : ∀ w ρ1, R w ρ1 → R' w ρ1) : EvS f ρ N' R' := by
  rcases h with ⟨ρ1, e, q⟩ | ⟨w, ρ1, e, q⟩
  · exact .inl ⟨ρ1, e, k ρ1 q⟩
  · exact .inr ⟨w, ρ1, e, k2 w ρ1 q⟩
theorem EvB.imp {d : Dt} {T F T' F' : Prop} (h : EvB d T F) (k : T → T') (k2 : F → F') : EvB d T' F' := by
  obtain ⟨b, rfl, h1, h2⟩ := h.ex
  exact evB (fun e => k (h1 e)) fun e => k2 (h2 e)
class WpE (f : FE) where
  wp : Rho → (Dt → Rho → Prop) → Prop
  ok : ∀ {ρ : Rho} {Q : Dt → Rho → Prop}, wp ρ Q → EvE f ρ Q
  mono : ∀ {ρ : Rho} {Q Q' : Dt → Rho → Prop}, wp ρ Q → (∀ d ρ1, Q d ρ1 → Q' d ρ1) → wp ρ Q'
class WpW (f : FW) where
  wp : Rho → (Wt → Rho → Prop) → Prop
  ok : ∀ {ρ : Rho} {Q : Wt → Rho → Prop}, wp ρ Q → EvW f ρ Q
  mono : ∀ {ρ : Rho} {Q Q' : Wt → Rho → Prop}, wp ρ Q → (∀ d ρ1, Q d ρ1 → Q' d ρ1) → wp ρ Q'
class WpA (f : FA) where
  wp : Rho → (List Av → Rho → Prop) → Prop
  ok : ∀ {ρ : Rho} {Q : List Av → Rho → Prop}, wp ρ Q → EvA f ρ Q
  mono : ∀ {ρ : Rho} {Q Q' : List Av → Rho → Prop}, wp ρ Q → (∀ d ρ1, Q d ρ1 → Q' d ρ1) → wp ρ Q'
class WpI (f : FI) where
  wp : Rho → (List Dt → Rho → Prop) → Prop
  ok : ∀ {ρ : Rho} {Q : List Dt → Rho → Prop}, wp ρ Q → EvI f ρ Q
  mono : ∀ {ρ : Rho} {Q Q' : List Dt → Rho → Prop}, wp ρ Q → (∀ d ρ1, Q d ρ1 → Q' d ρ1) → wp ρ Q'
class WpS (f : FS) where
  wp : Rho → (Rho → Prop) → (Wt → Rho → Prop) → Prop
  ok : ∀ {ρ : Rho} {N : Rho → Prop} {R : Wt → Rho → Prop}, wp ρ N R → EvS f ρ N R
  mono : ∀ {ρ : Rho} {N N' : Rho → Prop} {R R' : Wt → Rho → Prop}, wp ρ N R → (∀ ρ1, N ρ1 → N' ρ1) → (∀ w ρ1, R w ρ1 → R' w ρ1) → wp ρ N' R'
section
variable {f fa fb fc : FE} {r : FA} {w wa wb : FW} {fi : FI} {a b : FS}
instance p_c {d : Dt} : WpE (eC d) := ⟨fun ρ Q => Q d ρ, ev_c, fun h k => k _ _ h⟩
def varE (i : Nat) (ρ : Rho) (Q : Dt → Rho → Prop) : Prop := match ρ[i]? with
  | some (some (.sh d)) => Q d ρ
  | some (some (.own xs)) => fL (ρ.set i (some (.sh (.lst xs)))) fun ρ1 => Q (.lst xs) ρ1
  | _ => False
theorem varE_mono {i : Nat} {ρ : Rho} {Q Q' : Dt → Rho → Prop} (h : varE i ρ Q) (k : ∀ d ρ1, Q d ρ1 → Q' d ρ1) : varE i ρ Q' := by
  unfold varE at h ⊢
  split at h
  · exact k _ _ h
  · exact h.mono fun _ h => k _ _ h
  · exact h.elim
instance p_var {i : Nat} : WpE (eVar i) := ⟨varE i, fun {ρ Q} h => by
  unfold varE at h
  split at h
  · rename_i d e; exact ev_var e h
  · rename_i xs e; exact ev_varO e (fL_ok _ _ h)
  · exact h.elim, fun h k => varE_mono h k⟩
def varW (i : Nat) (ρ : Rho) (Q : Wt → Rho → Prop) : Prop := match ρ[i]? with
  | some (some (.sh d)) => Q (.sh d) ρ
  | some (some (.own xs)) => fL (ρ.set i none) fun ρ1 => Q (.own xs) ρ1
  | _ => False
theorem varW_mono {i : Nat} {ρ : Rho} {Q Q' : Wt → Rho → Prop} (h : varW i ρ Q) (k : ∀ d ρ1, Q d ρ1 → Q' d ρ1) : varW i ρ Q' := by
  unfold varW at h ⊢
  split at h
  · exact k _ _ h
  · exact h.mono fun _ h => k _ _ h
  · exact h.elim
instance p_varW {i : Nat} : WpW (wVar i) := ⟨varW i, fun {ρ Q} h => by
  unfold varW at h
  split at h
  · rename_i d e; exact ew_var e h
  · rename_i xs e; exact ew_varO e (fL_ok _ _ h)
  · exact h.elim, fun h k => varW_mono h k⟩
instance p_op {o : Dt → Dt → Option Dt} [WpE fa] [WpE fb] : WpE (eOp o fa fb) :=
  ⟨fun ρ Q => WpE.wp fa ρ fun d ρ1 => WpE.wp fb ρ1 fun e ρ2 => wO (o d e) fun g => Q g ρ2, fun h => ev_op ((WpE.ok h).imp fun _ _ h => (WpE.ok h).imp fun _ _ h => h.ex), fun h k => WpE.mono h fun _ _ h => WpE.mono h fun _ _ h => h.mono fun _ h => k _ _ h⟩
instance p_un {o : Dt → Option Dt} [WpE fa] : WpE (eUn o fa) :=
  ⟨fun ρ Q => WpE.wp fa ρ fun d ρ1 => wO (o d) fun g => Q g ρ1, fun h => ev_un ((WpE.ok h).imp fun _ _ h => h.ex), fun h k => WpE.mono h fun _ _ h => h.mono fun _ h => k _ _ h⟩
instance p_not [WpE fa] : WpE (eNot fa) :=
  ⟨fun ρ Q => WpE.wp fa ρ fun d ρ1 => wO (dNot d) fun g => Q g ρ1, fun h => ev_un ((WpE.ok h).imp fun _ _ h => h.ex), fun h k => WpE.mono h fun _ _ h => h.mono fun _ h => k _ _ h⟩
instance p_and [WpE fa] [WpE fb] : WpE (eAnd fa fb) :=
  ⟨fun ρ Q => WpE.wp fa ρ fun d ρ1 => wB d (WpE.wp fb ρ1 Q) (Q (.bl false) ρ1), fun h => ev_and ((WpE.ok h).imp fun _ _ h => h.evb.imp (fun h => WpE.ok h) id), fun h k => WpE.mono h fun _ _ h => h.mono (fun h => WpE.mono h k) (k _ _)⟩
instance p_or [WpE fa] [WpE fb] : WpE (eOr fa fb) :=
  ⟨fun ρ Q => WpE.wp fa ρ fun d ρ1 => wB d (Q (.bl true) ρ1) (WpE.wp fb ρ1 Q), fun h => ev_or ((WpE.ok h).imp fun _ _ h => h.evb.imp id fun h => WpE.ok h), fun h k => WpE.mono h fun _ _ h => h.mono (k _ _) fun h => WpE.mono h k⟩
instance p_ite [WpE fa] [WpE fb] [WpE fc] : WpE (eIte fc fa fb) :=
  ⟨fun ρ Q => WpE.wp fc ρ fun d ρ1 => wB d (WpE.wp fa ρ1 Q) (WpE.wp fb ρ1 Q), fun h => ev_ite ((WpE.ok h).imp fun _ _ h => h.evb.imp (fun h => WpE.ok h) fun h => WpE.ok h), fun h k => WpE.mono h fun _ _ h => h.mono (fun h => WpE.mono h k) fun h => WpE.mono h k⟩
instance p_chain {o o' : Dt → Dt → Option Dt} [WpE fa] [WpE fb] [WpE fc] : WpE (eChain o o' fa fb fc) :=
  ⟨fun ρ Q => WpE.wp fa ρ fun d ρ1 => WpE.wp fb ρ1 fun e ρ2 => wO (o d e) fun g => wB g (WpE.wp fc ρ2 fun f ρ3 => wO (o' e f) fun g => Q g ρ3) (Q (.bl false) ρ2),
    fun h => ev_chain ((WpE.ok h).imp fun _ _ h => (WpE.ok h).imp fun _ _ h => by
      obtain ⟨g, e, h⟩ := h.ex
      obtain ⟨b, rfl, h1, h2⟩ := h.evb.ex
      exact ⟨b, e, fun z => (WpE.ok (h1 z)).imp fun _ _ h => h.ex, h2⟩), fun h k => WpE.mono h fun _ _ h => WpE.mono h fun _ _ h => h.mono fun _ h => h.mono (fun h => WpE.mono h fun _ _ h => h.mono fun _ h => k _ _ h) (k _ _)⟩
def frzQ (x : Wt) (Q : Dt → Prop) : Prop := match x with
  | .own xs => Q (.lst xs)
  | .sh d => Q d
instance p_frz [WpW w] : WpE (eFrz w) := ⟨fun ρ Q => WpW.wp w ρ fun x ρ1 => frzQ x fun d => Q d ρ1, fun h => ev_frz ((WpW.ok h).imp fun x _ h => by cases x <;> exact h), fun h k => WpW.mono h fun x _ h => by cases x <;> exact k _ _ h⟩
instance p_nil : WpA aNil := ⟨fun ρ Q => Q [] ρ, ea_nil, fun h k => k _ _ h⟩
instance p_val [WpE f] [WpA r] : WpA (aVal f r) :=
  ⟨fun ρ Q => WpE.wp f ρ fun d ρ1 => WpA.wp r ρ1 fun as ρ2 => Q (.val d :: as) ρ2, fun h => ea_val ((WpE.ok h).imp fun _ _ h => WpA.ok h), fun h k => WpE.mono h fun _ _ h => WpA.mono h fun _ _ h => k _ _ h⟩
instance p_slot {j : Nat} [WpA r] : WpA (aSlot j r) :=
  ⟨fun ρ Q => wOwn ρ[j]? fun _ => WpA.wp r ρ fun as ρ2 => Q (.slot j :: as) ρ2, fun h => by
    obtain ⟨xs, e, h⟩ := h.ex
    exact ea_slot e (WpA.ok h), fun h k => h.mono fun _ h => WpA.mono h fun _ _ h => k _ _ h⟩
def tmpA (x : Wt) (Q : List Av → Prop) : Prop := match x with
  | .own xs => Q [.tmp xs]
  | .sh d => Q [.val d]
instance p_tmp [WpW w] : WpA (aTmp w) :=
  ⟨fun ρ Q => WpW.wp w ρ fun x ρ1 => tmpA x fun as => Q as ρ1, fun h => ea_tmp ((WpW.ok h).imp fun x _ h => by cases x <;> exact h), fun h k => WpW.mono h fun x _ h => by cases x <;> exact k _ _ h⟩
instance p_tup [WpA r] : WpE (eTup r) :=
  ⟨fun ρ Q => WpA.wp r ρ fun as ρ1 => wO (vals as) fun ds => wC (Nat.ble ds.length 100000) (fL ds fun es => Q (.tup es) ρ1), fun h => ev_tup ((WpA.ok h).imp fun _ _ h => by
    obtain ⟨ds, e, h⟩ := h.ex
    obtain ⟨l, h⟩ := h.ex
    exact ⟨ds, e, Nat.le_of_ble_eq_true l, by have q := fL_ok ds _ h; exact q⟩), fun h k => WpA.mono h fun _ _ h => h.mono fun _ h => h.mono fun h => h.mono fun _ h => k _ _ h⟩
instance p_lst [WpA r] : WpW (wLst r) :=
  ⟨fun ρ Q => WpA.wp r ρ fun as ρ1 => wO (vals as) fun ds => wC (Nat.ble ds.length 100000) (fL ds fun es => Q (.own es) ρ1), fun h => ew_lst ((WpA.ok h).imp fun _ _ h => by
    obtain ⟨ds, e, h⟩ := h.ex
    obtain ⟨l, h⟩ := h.ex
    exact ⟨ds, e, Nat.le_of_ble_eq_true l, by have q := fL_ok ds _ h; exact q⟩), fun h k => WpA.mono h fun _ _ h => h.mono fun _ h => h.mono fun h => h.mono fun _ h => k _ _ h⟩
instance p_sh [WpE f] : WpW (wSh f) := ⟨fun ρ Q => WpE.wp f ρ fun d ρ1 => Q (.sh d) ρ1, fun h => ew_sh (WpE.ok h), fun h k => WpE.mono h fun _ _ h => k _ _ h⟩
instance p_iteW [WpE fc] [WpW wa] [WpW wb] : WpW (wIte fc wa wb) :=
  ⟨fun ρ Q => WpE.wp fc ρ fun d ρ1 => wB d (WpW.wp wa ρ1 Q) (WpW.wp wb ρ1 Q), fun h => ew_ite ((WpE.ok h).imp fun _ _ h => h.evb.imp (fun h => WpW.ok h) fun h => WpW.ok h), fun h k => WpE.mono h fun _ _ h => h.mono (fun h => WpW.mono h k) fun h => WpW.mono h k⟩
def nodB (xs : List Nat) : Bool := match xs with
  | [] => true
  | [_] => true
  | xs => decide xs.Nodup
theorem nodB_ok : ∀ {xs : List Nat}, nodB xs = true → xs.Nodup
  | [], _ => List.nodup_nil
  | [_], _ => nodup1
  | _ :: _ :: _, h => of_decide_eq_true h
/-- a call: here the walk halts -/
def callW (n : Nat) (g : FnD) (as : List Av) (ρ1 : Rho) (Q : Wt → Rho → Prop) : Prop :=
  wO (toWs ρ1 as) fun ws => wC (Nat.beq ws.length n) (wC (nodB (slotsOf as)) (fL ws fun ws => At (EvF g ws fun w cs => fL (putBack (slotsOf as) cs ρ1) fun ρ2 => Q w ρ2)))
theorem callW_ok {n : Nat} {g : FnD} {as : List Av} {ρ1 : Rho} {Q : Wt → Rho → Prop} (h : callW n g as ρ1 Q) : ∃ ws, toWs ρ1 as = some ws ∧ ws.length = n ∧ (slotsOf as).Nodup ∧ EvF g ws fun w cs => Nrm (putBack (slotsOf as) cs ρ1) fun ρ2 => Q w ρ2 := by
  obtain ⟨ws, e, h⟩ := wO.ex h
  obtain ⟨l, h⟩ := h.ex
  obtain ⟨m, h⟩ := h.ex
  have h := fL_ok ws _ h
  exact ⟨ws, e, Nat.eq_of_beq_eq_true l, nodB_ok m, h.h.imp fun _ _ h => fL_ok _ _ h⟩
theorem callW_mono {n : Nat} {g : FnD} {as : List Av} {ρ1 : Rho} {Q Q' : Wt → Rho → Prop} (h : callW n g as ρ1 Q) (k : ∀ d ρ1, Q d ρ1 → Q' d ρ1) : callW n g as ρ1 Q' :=
  wO.mono h fun _ h => h.mono fun h => h.mono fun h => h.mono fun _ h => h.mono fun h => h.imp fun _ _ h => h.mono fun _ h => k _ _ h
instance p_call {n : Nat} {g : FnD} [WpA r] : WpW (wCall n g r) :=
  ⟨fun ρ Q => WpA.wp r ρ fun as ρ1 => callW n g as ρ1 Q, fun h => ew_call ((WpA.ok h).imp fun _ _ h => callW_ok h), fun h k => WpA.mono h fun _ _ h => callW_mono h k⟩
def fnOf (o : Option (Option Wt)) (Q : Str → Prop) : Prop := match o with
  | some (some (.sh (.fn x))) => Q x
  | _ => False
theorem fnOf.ex {o : Option (Option Wt)} {Q : Str → Prop} (h : fnOf o Q) : ∃ x, o = some (some (.sh (.fn x))) ∧ Q x := by
  match o, h with
  | some (some (.sh (.fn x))), h => exact ⟨x, rfl, h⟩
theorem fnOf_mono {o : Option (Option Wt)} {Q Q' : Str → Prop} (h : fnOf o Q) (k : ∀ x, Q x → Q' x) : fnOf o Q' := by
  obtain ⟨x, rfl, h⟩ := h.ex
  exact k x h
instance p_callL {i n : Nat} {D : List (Str × FnD)} [WpA r] : WpW (wCallL i n D r) :=
  ⟨fun ρ Q => fnOf ρ[i]? fun x => wO (D.lookup x) fun g => WpA.wp r ρ fun as ρ1 => callW n g as ρ1 Q, fun h => by
    obtain ⟨x, e, h⟩ := h.ex
    obtain ⟨g, eg, h⟩ := h.ex
    exact ew_callL e eg (ew_call ((WpA.ok h).imp fun _ _ h => callW_ok h)), fun h k => fnOf_mono h fun _ h => h.mono fun _ h => WpA.mono h fun _ _ h => callW_mono h k⟩
instance p_cb {o : List Dt → Option Dt} [WpA r] : WpE (eCB o r) :=
  ⟨fun ρ Q => WpA.wp r ρ fun as ρ1 => wO (vals as) fun ds => fL ds fun ds => wO (o ds) fun g => Q g ρ1, fun h => ev_cb ((WpA.ok h).imp fun _ _ h => by
    obtain ⟨ds, e, h⟩ := h.ex
    obtain ⟨g, e2, h⟩ := wO.ex (fL_ok ds (fun ds => wO (o ds) _) h)
    exact ⟨ds, g, e, e2, h⟩), fun h k => WpA.mono h fun _ _ h => h.mono fun _ h => h.mono fun _ h => h.mono fun _ h => k _ _ h⟩
instance p_ixV {j : Nat} [WpE f] : WpE (eIxV j f) :=
  ⟨fun ρ Q => wO (slotD ρ[j]?) fun _ => WpE.wp f ρ fun k ρ1 => wO (slotD ρ1[j]?) fun d => wO (dIx d k) fun g => Q g ρ1, fun h => by
    obtain ⟨d0, e0, h⟩ := h.ex
    exact ev_ixV e0 ((WpE.ok h).imp fun _ _ h => by
      obtain ⟨d, e, h⟩ := h.ex
      obtain ⟨g, e2, h⟩ := h.ex
      exact ⟨d, g, e, e2, h⟩), fun h k => h.mono fun _ h => WpE.mono h fun _ _ h => h.mono fun _ h => h.mono fun _ h => k _ _ h⟩
instance p_pop {j : Nat} : WpE (ePop j) :=
  ⟨fun ρ Q => wOwn ρ[j]? fun xs => wO xs[xs.length - 1]? fun d => fL (ρ.set j (some (.own xs.dropLast))) fun ρ1 => Q d ρ1, fun h => by
    obtain ⟨xs, e, h⟩ := h.ex
    obtain ⟨d, e2, h⟩ := h.ex
    exact ev_pop e e2 (fL_ok _ _ h), fun h k => h.mono fun _ h => h.mono fun _ h => h.mono fun _ h => k _ _ h⟩
instance p_sl00 [WpE f] : WpE (eSl f none none) :=
  ⟨fun ρ Q => WpE.wp f ρ fun d ρ1 => wO (dSl d none none) fun g => Q g ρ1, fun h => ev_sl00 ((WpE.ok h).imp fun _ _ h => h.ex), fun h k => WpE.mono h fun _ _ h => h.mono fun _ h => k _ _ h⟩
instance p_sl10 [WpE f] [WpE fa] : WpE (eSl f (some fa) none) :=
  ⟨fun ρ Q => WpE.wp f ρ fun d ρ1 => WpE.wp fa ρ1 fun a ρ2 => wI a fun i => wO (dSl d (some i) none) fun g => Q g ρ2, fun h => ev_sl10 ((WpE.ok h).imp fun _ _ h => (WpE.ok h).imp fun _ _ h => by
    obtain ⟨i, ei, k⟩ := h.ex
    obtain ⟨g, e, h⟩ := k.ex
    exact ⟨i, g, ei, e, h⟩), fun h k => WpE.mono h fun _ _ h => WpE.mono h fun _ _ h => h.mono fun _ h => h.mono fun _ h => k _ _ h⟩
instance p_sl01 [WpE f] [WpE fa] : WpE (eSl f none (some fa)) :=
  ⟨fun ρ Q => WpE.wp f ρ fun d ρ1 => WpE.wp fa ρ1 fun a ρ2 => wI a fun i => wO (dSl d none (some i)) fun g => Q g ρ2, fun h => ev_sl01 ((WpE.ok h).imp fun _ _ h => (WpE.ok h).imp fun _ _ h => by
    obtain ⟨i, ei, k⟩ := h.ex
    obtain ⟨g, e, h⟩ := k.ex
    exact ⟨i, g, ei, e, h⟩), fun h k => WpE.mono h fun _ _ h => WpE.mono h fun _ _ h => h.mono fun _ h => h.mono fun _ h => k _ _ h⟩
instance p_sl11 [WpE f] [WpE fa] [WpE fb] : WpE (eSl f (some fa) (some fb)) :=
  ⟨fun ρ Q => WpE.wp f ρ fun d ρ1 => WpE.wp fa ρ1 fun a ρ2 => wI a fun i => WpE.wp fb ρ2 fun b ρ3 => wI b fun j => wO (dSl d (some i) (some j)) fun g => Q g ρ3,
    fun h => ev_sl11 ((WpE.ok h).imp fun _ _ h => (WpE.ok h).imp fun _ _ h => by
    obtain ⟨i, ei, k⟩ := h.ex
    exact ⟨i, ei, (WpE.ok k).imp fun _ _ h => by
      obtain ⟨j, ej, k⟩ := h.ex
      obtain ⟨g, e, h⟩ := k.ex
      exact ⟨j, g, ej, e, h⟩⟩), fun h k => WpE.mono h fun _ _ h => WpE.mono h fun _ _ h => h.mono fun _ h => WpE.mono h fun _ _ h => h.mono fun _ h => h.mono fun _ h => k _ _ h⟩
instance p_opL {o : Dt → Dt → Option Dt} {j : Nat} [WpE fb] : WpE (eOpL o j fb) :=
  ⟨fun ρ Q => wO (slotD ρ[j]?) fun _ => WpE.wp fb ρ fun e ρ1 => wO (slotD ρ1[j]?) fun d => wO (o d e) fun g => wC (flatD g) (Q g ρ1), fun h => by
    obtain ⟨d0, e0, h⟩ := h.ex
    exact ev_opL e0 ((WpE.ok h).imp fun _ _ h => by
      obtain ⟨d, e, h⟩ := h.ex
      obtain ⟨g, e2, h⟩ := h.ex
      exact ⟨d, g, e, e2, h.ex⟩), fun h k => h.mono fun _ h => WpE.mono h fun _ _ h => h.mono fun _ h => h.mono fun _ h => h.mono fun h => k _ _ h⟩
instance p_opR {o : Dt → Dt → Option Dt} {j : Nat} [WpE fa] : WpE (eOpR o fa j) :=
  ⟨fun ρ Q => WpE.wp fa ρ fun d ρ1 => wO (slotD ρ1[j]?) fun e => wO (o d e) fun g => wC (flatD g) (Q g ρ1), fun h => ev_opR ((WpE.ok h).imp fun _ _ h => by
      obtain ⟨d, e, h⟩ := h.ex
      obtain ⟨g, e2, h⟩ := h.ex
      exact ⟨d, g, e, e2, h.ex⟩), fun h k => WpE.mono h fun _ _ h => h.mono fun _ h => h.mono fun _ h => h.mono fun h => k _ _ h⟩
instance p_cbV {o : List Dt → Option Dt} {j : Nat} : WpE (eCBV o j) :=
  ⟨fun ρ Q => wO (slotD ρ[j]?) fun d => wO (o [d]) fun g => wC (flatD g) (Q g ρ), fun h => by
      obtain ⟨d, e, h⟩ := h.ex
      obtain ⟨g, e2, h⟩ := h.ex
      obtain ⟨e3, h⟩ := h.ex
      exact ev_cbV e e2 e3 h, fun h k => h.mono fun _ h => h.mono fun _ h => h.mono fun h => k _ _ h⟩
def twoL (d e : Dt) (Q : List Dt → List Dt → Prop) : Prop := match d, e with
  | .lst xs, .lst ys => Q xs ys
  | _, _ => False
theorem twoL.ex {d e : Dt} {Q : List Dt → List Dt → Prop} (h : twoL d e Q) : ∃ xs ys, d = .lst xs ∧ e = .lst ys ∧ Q xs ys := by
  unfold twoL at h
  split at h
  · exact ⟨_, _, rfl, rfl, h⟩
  · exact h.elim
theorem twoL_mono {d e : Dt} {Q Q' : List Dt → List Dt → Prop} (h : twoL d e Q) (k : ∀ x y, Q x y → Q' x y) : twoL d e Q' := by
  obtain ⟨x, y, rfl, rfl, h⟩ := h.ex
  exact k x y h
instance p_cat [WpE fa] [WpE fb] : WpW (wCat fa fb) :=
  ⟨fun ρ Q => WpE.wp fa ρ fun d ρ1 => WpE.wp fb ρ1 fun e ρ2 => twoL d e fun xs ys => xs.length + ys.length ≤ 100000 ∧ Q (.own (xs ++ ys)) ρ2, fun h => ew_cat ((WpE.ok h).imp fun _ _ h => (WpE.ok h).imp fun _ _ h => h.ex), fun h k => WpE.mono h fun _ _ h => WpE.mono h fun _ _ h => twoL_mono h fun _ _ h => ⟨h.1, k _ _ h.2⟩⟩
instance p_arr {n m : Nat} {dd : List Dt} {ar : List (Nat ⊕ Nat)} {r k : FA} [WpA r] [WpA k] : WpA (aArr n m dd ar r k) :=
  ⟨fun ρ Q => WpA.wp r ρ fun as ρ1 => wC (noTmp as && Nat.beq as.length n) (WpA.wp k ρ1 fun bs ρ2 => wC (noTmp (as ++ bs) && Nat.beq bs.length m) (fL (arrL (dd.map Av.val) ar (as ++ bs)) fun cs => Q cs ρ2)), fun h => ea_arr ((WpA.ok h).imp fun _ _ h => by
    obtain ⟨p, h⟩ := h.ex
    obtain ⟨p1, p2⟩ := Bool.and_eq_true_iff.mp p
    exact ⟨p1, Nat.eq_of_beq_eq_true p2, (WpA.ok h).imp fun _ _ h => by
      obtain ⟨p, h⟩ := h.ex
      obtain ⟨p1, p2⟩ := Bool.and_eq_true_iff.mp p
      exact ⟨p1, Nat.eq_of_beq_eq_true p2, _, rfl, by have q := fL_ok _ _ h; exact q⟩⟩), fun h k => WpA.mono h fun _ _ h => h.mono fun h => WpA.mono h fun _ _ h => h.mono fun h => h.mono fun _ h => k _ _ h⟩
instance p_lc {vs : List Nat} {g : GD} {ft fe : FE} [WpI fi] : WpW (wLc vs fi g ft fe) :=
  ⟨fun ρ Q => WpI.wp fi ρ fun ds ρ1 => fL (wipeR ρ1 vs) fun ρ0 => At (EvL vs g ft fe ds ρ0 [] fun xs ρ2 => fL (restR ρ1 ρ2 vs) fun ρ3 => Q (.own xs) ρ3), fun h => ew_lc ((WpI.ok h).imp fun _ ρ1 h => (fL_ok _ _ h).h.imp fun _ _ h => fL_ok _ _ h), fun h k => WpI.mono h fun _ _ h => h.mono fun _ h => h.mono fun h => h.imp fun _ _ h => h.mono fun _ h => k _ _ h⟩
instance p_seqI [WpE f] : WpI (iSeq f) := ⟨fun ρ Q => WpE.wp f ρ fun d ρ1 => wO (iterD d) fun ds => Q ds ρ1, fun h => ei_seq ((WpE.ok h).imp fun _ _ h => h.ex), fun h k => WpE.mono h fun _ _ h => h.mono fun _ h => k _ _ h⟩
instance p_argsI {o : List Dt → Option (List Dt)} [WpA r] : WpI (iArgs o r) :=
  ⟨fun ρ Q => WpA.wp r ρ fun as ρ1 => wO (vals as) fun ds => fL ds fun ds => wO (o ds) fun es => Q es ρ1, fun h => ei_args ((WpA.ok h).imp fun _ _ h => by
    obtain ⟨ds, e, h⟩ := h.ex
    obtain ⟨g, e2, h⟩ := wO.ex (fL_ok ds (fun ds => wO (o ds) _) h)
    exact ⟨ds, g, e, e2, h⟩), fun h k => WpA.mono h fun _ _ h => h.mono fun _ h => h.mono fun _ h => h.mono fun _ h => k _ _ h⟩
instance p_nx : WpS sNx := ⟨fun ρ N _ => N ρ, es_nx, fun h k k2 => k _ h⟩
instance p_seq [WpS a] [WpS b] : WpS (sSeq a b) := ⟨fun ρ N R => WpS.wp a ρ (fun ρ1 => WpS.wp b ρ1 N R) R, fun h => es_seq ((WpS.ok h).imp (fun _ h => WpS.ok h) fun _ _ h => h), fun h k k2 => WpS.mono h (fun _ h => WpS.mono h k k2) k2⟩
instance p_if [WpE fc] [WpS a] [WpS b] : WpS (sIf fc a b) :=
  ⟨fun ρ N R => WpE.wp fc ρ fun d ρ1 => wB d (WpS.wp a ρ1 N R) (WpS.wp b ρ1 N R), fun h => es_if ((WpE.ok h).imp fun _ _ h => h.evb.imp (fun h => WpS.ok h) fun h => WpS.ok h), fun h k k2 => WpE.mono h fun _ _ h => h.mono (fun h => WpS.mono h k k2) fun h => WpS.mono h k k2⟩
instance p_asg {i : Nat} [WpW w] : WpS (sAsg i w) := ⟨fun ρ N _ => WpW.wp w ρ fun x ρ1 => fL (ρ1.set i (some x)) N, fun h => es_asg ((WpW.ok h).imp fun _ _ h => fL_ok _ _ h), fun h k k2 => WpW.mono h fun _ _ h => h.mono k⟩
instance p_ret [WpW w] : WpS (sRet w) := ⟨fun ρ _ R => WpW.wp w ρ R, fun h => es_ret (WpW.ok h), fun h k k2 => WpW.mono h k2⟩
instance p_retN : WpS sRetN := ⟨fun ρ _ R => R (.sh .non) ρ, es_retN, fun h k k2 => k2 _ _ h⟩
instance p_drop [WpW w] : WpS (sDrop w) := ⟨fun ρ N _ => WpW.wp w ρ fun _ ρ1 => N ρ1, fun h => es_drop (WpW.ok h), fun h k k2 => WpW.mono h fun _ _ h => k _ h⟩
instance p_app {j : Nat} [WpE f] : WpS (sApp j f) :=
  ⟨fun ρ N _ => wOwn ρ[j]? fun _ => WpE.wp f ρ fun d ρ1 => wOwn ρ1[j]? fun ys => ys.length < 100000 ∧ fL (ρ1.set j (some (.own (ys ++ [d])))) N, fun h => by
    obtain ⟨xs, e, h⟩ := h.ex
    exact es_app e ((WpE.ok h).imp fun _ _ h => by
      obtain ⟨ys, e, l, h⟩ := h.ex
      exact ⟨ys, e, l, fL_ok _ _ h⟩), fun h k k2 => h.mono fun _ h => WpE.mono h fun _ _ h => h.mono fun _ h => ⟨h.1, h.2.mono k⟩⟩
def lstOf (d : Dt) (Q : List Dt → Prop) : Prop := match d with
  | .lst xs => Q xs
  | _ => False
theorem lstOf.ex {d : Dt} {Q : List Dt → Prop} (h : lstOf d Q) : ∃ xs, d = .lst xs ∧ Q xs := by
  cases d with
  | lst xs => exact ⟨xs, rfl, h⟩
  | _ => exact h.elim
theorem lstOf_mono {d : Dt} {Q Q' : List Dt → Prop} (h : lstOf d Q) (k : ∀ x, Q x → Q' x) : lstOf d Q' := by
  obtain ⟨x, rfl, h⟩ := h.ex
  exact k x h
instance p_ext {j : Nat} [WpE f] : WpS (sExt j f) :=
  ⟨fun ρ N _ => wOwn ρ[j]? fun _ => WpE.wp f ρ fun d ρ1 => lstOf d fun zs => wOwn ρ1[j]? fun ys => ys.length + zs.length ≤ 100000 ∧ fL (ρ1.set j (some (.own (ys ++ zs)))) N, fun h => by
    obtain ⟨xs, e, h⟩ := h.ex
    exact es_ext e ((WpE.ok h).imp fun _ _ h => by
      obtain ⟨zs, ez, k⟩ := h.ex
      obtain ⟨ys, e, l, h⟩ := k.ex
      exact ⟨ys, zs, ez, e, l, fL_ok _ _ h⟩), fun h k k2 => h.mono fun _ h => WpE.mono h fun _ _ h => lstOf_mono h fun _ h => h.mono fun _ h => ⟨h.1, h.2.mono k⟩⟩
instance p_put {j : Nat} {fk : FE} [WpE f] [WpE fk] : WpS (sPut j fk f) :=
  ⟨fun ρ N _ => WpE.wp f ρ fun d ρ1 => wOwn ρ1[j]? fun _ => WpE.wp fk ρ1 fun k ρ2 => wI k fun i => wOwn ρ2[j]? fun ys => wO (ixN ys.length i) fun n => fL (ρ2.set j (some (.own (ys.set n d)))) N, fun h => es_put ((WpE.ok h).imp fun _ _ h => by
    obtain ⟨xs, e, h⟩ := h.ex
    exact ⟨xs, e, (WpE.ok h).imp fun _ _ h => by
      obtain ⟨i, ei, k⟩ := h.ex
      obtain ⟨ys, e, h⟩ := k.ex
      obtain ⟨n, e2, h⟩ := h.ex
      exact ⟨i, ys, n, ei, e, e2, fL_ok _ _ h⟩⟩), fun h k k2 => WpE.mono h fun _ _ h => h.mono fun _ h => WpE.mono h fun _ _ h => h.mono fun _ h => h.mono fun _ h => h.mono fun _ h => h.mono k⟩
def twoA (as : List Av) (Q : Dt → Dt → Prop) : Prop := match as with
  | [.val d, .val e] => Q d e
  | _ => False
theorem twoA.ex {as : List Av} {Q : Dt → Dt → Prop} (h : twoA as Q) : ∃ d e, as = [.val d, .val e] ∧ Q d e := by
  unfold twoA at h
  split at h
  · exact ⟨_, _, rfl, h⟩
  · exact h.elim
theorem twoA_mono {as : List Av} {Q Q' : Dt → Dt → Prop} (h : twoA as Q) (k : ∀ x y, Q x y → Q' x y) : twoA as Q' := by
  obtain ⟨x, y, rfl, h⟩ := h.ex
  exact k x y h
instance p_par {i j : Nat} [WpA r] : WpS (sPar i j r) :=
  ⟨fun ρ N _ => WpA.wp r ρ fun as ρ1 => twoA as fun d e => fL ((ρ1.set i (some (.sh d))).set j (some (.sh e))) N, fun h => es_par ((WpA.ok h).imp fun _ _ h => by
    obtain ⟨d, e, rfl, h⟩ := h.ex
    exact ⟨d, e, rfl, fL_ok _ _ h⟩), fun h k k2 => WpA.mono h fun _ _ h => twoA_mono h fun _ _ h => h.mono k⟩
instance p_asgT {g : GD} [WpE f] : WpS (sAsgT g f) :=
  ⟨fun ρ N _ => WpE.wp f ρ fun d ρ1 => wO (g d ρ1) fun ρ2 => fL ρ2 N, fun h => es_asgT ((WpE.ok h).imp fun _ _ h => by
    obtain ⟨ρ2, e, h⟩ := h.ex
    exact ⟨ρ2, e, fL_ok _ _ h⟩), fun h k k2 => WpE.mono h fun _ _ h => h.mono fun _ h => h.mono k⟩
instance p_for {g : GD} [WpI fi] : WpS (sFor fi g b) :=
  ⟨fun ρ N R => WpI.wp fi ρ fun ds ρ1 => At (EvS (forD g b ds) ρ1 N R), fun h => es_for ((WpI.ok h).imp fun _ _ h => h.h), fun h k k2 => WpI.mono h fun _ _ h => h.mono fun h => EvS.imp h k k2⟩
instance p_while {m : Rho → Nat} {c : FE} : WpS (sWhile m c b) := ⟨fun ρ N R => At (EvS (whileD c b (m ρ)) ρ N R), fun h => es_while h.h, fun h k k2 => At.mono h fun h => EvS.imp h k k2⟩
end
/-- a def's body, run from its arguments -/
theorem ef_go {n : Nat} {bs : List Nat} {fb : FS} [WpS fb] {ws : List Aw} {Q : Wt → List (List Dt) → Prop} (hp : ownPos 0 ws = bs) (h : fL (startW ws ++ List.replicate (n - ws.length) none) fun ρ0 => WpS.wp fb ρ0 (fun ρ => wO (getOwns ρ bs) fun cs => Q (.sh .non) cs) (fun w ρ => wO (getOwns ρ bs) fun cs => Q w cs)) : EvF (callF n bs fb) ws Q :=
  ef_call hp ((WpS.ok (fL_ok _ _ h)).imp (fun _ h => h.ex) fun _ _ h => h.ex)
/-- the same in two steps, for a body that is to be written out between -/
theorem ef_in {n : Nat} {bs : List Nat} {fb : FS} {ws : List Aw} {Q : Wt → List (List Dt) → Prop} (hp : ownPos 0 ws = bs) (h : Nrm (startW ws ++ List.replicate (n - ws.length) none) fun ρ0 => EvS fb ρ0 (fun ρ => wO (getOwns ρ bs) fun cs => Q (.sh .non) cs) (fun w ρ => wO (getOwns ρ bs) fun cs => Q w cs)) : EvF (callF n bs fb) ws Q :=
  ef_call hp (EvS.imp h (fun _ h => h.ex) fun _ _ h => h.ex)
theorem nrm_go {ρ : Rho} {f : FS} [WpS f] {N : Rho → Prop} {R : Wt → Rho → Prop} (h : fL ρ fun ρ0 => WpS.wp f ρ0 N R) : Nrm ρ fun ρ0 => EvS f ρ0 N R := WpS.ok (fL_ok _ _ h)
theorem wd {p : Prop} [Decidable p] {T F : Prop} (h1 : p → T) (h2 : ¬ p → F) : wT (decide p) T F := wt (fun e => h1 (of_decide_eq_true e)) fun e => h2 (of_decide_eq_false e)
theorem wtt {b : Bool} {T F : Prop} (e : b = true) (h : T) : wT b T F := by subst e; exact h
theorem wtf {b : Bool} {T F : Prop} (e : b = false) (h : F) : wT b T F := by subst e; exact h
theorem wox {α : Type} {o : Option α} {Q : α → Prop} (h : ∃ g, o = some g ∧ Q g) : wO o Q := by
  obtain ⟨g, e, h⟩ := h
  exact wo e h
theorem lc_go {vs : List Nat} {g : GD} {ft fe : FE} [WpE ft] [WpE fe] {d : Dt} {ds acc : List Dt} {ρ : Rho} {Q : List Dt → Rho → Prop} (h : wO (g d ρ) fun ρ1 => fL ρ1 fun ρ1 => WpE.wp ft ρ1 fun x ρ2 => wB x (WpE.wp fe ρ2 fun y ρ3 => acc.length < 100000 ∧ fL (wipeR ρ3 vs) fun ρ4 => At (EvL vs g ft fe ds ρ4 (acc ++ [y]) Q)) (fL (wipeR ρ2 vs) fun ρ4 => At (EvL vs g ft fe ds ρ4 acc Q))) :
    EvL vs g ft fe (d :: ds) ρ acc Q := by
  obtain ⟨ρ1, e, h⟩ := wO.ex h
  refine lc_cons e ((WpE.ok (fL_ok _ _ h)).imp fun x ρ2 h => h.evb.imp (fun h => (WpE.ok h).imp fun y ρ3 h => ⟨h.1, ?_⟩) fun h => ?_)
  · exact (fL_ok _ _ h.2).h
  · exact (fL_ok _ _ h).h
theorem for_go {g : GD} {b : FS} [WpS b] {d : Dt} {ds : List Dt} {ρ : Rho} {N : Rho → Prop} {R : Wt → Rho → Prop} (h : wO (g d ρ) fun ρ1 => fL ρ1 fun ρ1 => WpS.wp b ρ1 (fun ρ2 => At (EvS (forD g b ds) ρ2 N R)) R) : EvS (forD g b (d :: ds)) ρ N R := by
  obtain ⟨ρ1, e, h⟩ := wO.ex h
  exact es_forCons e ((WpS.ok (fL_ok _ _ h)).imp (fun _ h => h.h) fun _ _ h => h)
/-- one claim for both ways of an if -/
theorem cutS {b : Bool} {f g : FS} [WpS f] [WpS g] {ρ ρ' : Rho} {N : Rho → Prop} {R : Wt → Rho → Prop} (N' : Rho → Prop) (h : wT b (WpS.wp f ρ N' R) (WpS.wp g ρ' N' R)) (k : ∀ ρ1, N' ρ1 → N ρ1) : wT b (WpS.wp f ρ N R) (WpS.wp g ρ' N R) :=
  h.mono (fun h => WpS.mono h k fun _ _ h => h) fun h => WpS.mono h k fun _ _ h => h
theorem cutW {b : Bool} {f g : FW} [WpW f] [WpW g] {ρ ρ' : Rho} {Q : Wt → Rho → Prop} (Q' : Wt → Rho → Prop) (h : wT b (WpW.wp f ρ Q') (WpW.wp g ρ' Q')) (k : ∀ w ρ1, Q' w ρ1 → Q w ρ1) : wT b (WpW.wp f ρ Q) (WpW.wp g ρ' Q) :=
  h.mono (fun h => WpW.mono h k) fun h => WpW.mono h k
theorem cutE {b : Bool} {f g : FE} [WpE f] [WpE g] {ρ ρ' : Rho} {Q : Dt → Rho → Prop} (Q' : Dt → Rho → Prop) (h : wT b (WpE.wp f ρ Q') (WpE.wp g ρ' Q')) (k : ∀ w ρ1, Q' w ρ1 → Q w ρ1) : wT b (WpE.wp f ρ Q) (WpE.wp g ρ' Q) :=
  h.mono (fun h => WpE.mono h k) fun h => WpE.mono h k
/-- loops by an invariant, each round told by its wp -/
theorem for_inv {g : GD} {b : FS} [WpS b] {N : Rho → Prop} {R : Wt → Rho → Prop} (I : List Dt → Rho → Prop) (hs : ∀ d ds ρ, I (d :: ds) ρ → wO (g d ρ) fun ρ1 => fL ρ1 fun ρ1 => WpS.wp b ρ1 (fun ρ2 => I ds ρ2) R) (hd : ∀ ρ, I [] ρ → N ρ) (ds : List Dt) (ρ : Rho) (h : I ds ρ) : EvS (forD g b ds) ρ N R :=
  forD_ev I (fun d ds ρ h => by
    obtain ⟨ρ1, e, h⟩ := (hs d ds ρ h).ex
    exact ⟨ρ1, e, WpS.ok (fL_ok _ _ h)⟩) hd ds ρ h
theorem while_inv {c : FE} {b : FS} [WpE c] [WpS b] {N : Rho → Prop} {R : Wt → Rho → Prop} (I : Rho → Prop) (m : Rho → Nat) (hs : ∀ ρ, I ρ → WpE.wp c ρ fun d ρ1 => wB d (WpS.wp b ρ1 (fun ρ2 => I ρ2 ∧ m ρ2 < m ρ) R) (N ρ1)) (n : Nat) (ρ : Rho) (h : I ρ) (hn : m ρ < n) : EvS (whileD c b n) ρ N R :=
  whileD_ev I m (fun ρ h => (WpE.ok (hs ρ h)).imp fun _ _ h => h.evb.imp (fun h => WpS.ok h) id) n ρ h hn
theorem lc_inv {vs : List Nat} {g : GD} {ft fe : FE} [WpE ft] [WpE fe] (I : List Dt → Rho → List Dt → Prop) (hs : ∀ d ds ρ acc, I (d :: ds) ρ acc → wO (g d ρ) fun ρ1 => fL ρ1 fun ρ1 => WpE.wp ft ρ1 fun x ρ2 => wB x (WpE.wp fe ρ2 fun y ρ3 => acc.length < 100000 ∧ fL (wipeR ρ3 vs) fun ρ4 => I ds ρ4 (acc ++ [y])) (fL (wipeR ρ2 vs) fun ρ4 => I ds ρ4 acc)) {Q : List Dt → Rho → Prop} (hd : ∀ ρ acc, I [] ρ acc → Q acc ρ)
    (ds : List Dt) (ρ : Rho) (acc : List Dt) (h : I ds ρ acc) : EvL vs g ft fe ds ρ acc Q :=
  lcD_ev I (fun d ds ρ acc h => by
    obtain ⟨ρ1, e, h⟩ := (hs d ds ρ acc h).ex
    exact ⟨ρ1, e, (WpE.ok (fL_ok _ _ h)).imp fun x ρ2 h => h.evb.imp (fun h => (WpE.ok h).imp fun y ρ3 h => ⟨h.1, by have q := fL_ok _ _ h.2; exact q⟩) fun h => by have q := fL_ok _ _ h; exact q⟩) hd ds ρ acc h
theorem ef_at {g : FnD} {ws : List Aw} {w : Wt} {cs : List (List Dt)} {Q : Wt → List (List Dt) → Prop} (e : g ws = some (.ok w, cs)) (h : Q w cs) : At (EvF g ws Q) := ⟨w, cs, e, h⟩
theorem ef_run {g : FnD} {ws : List Aw} {Q' Q : Wt → List (List Dt) → Prop} (e : EvF g ws Q') (h : ∀ w cs, Q' w cs → Q w cs) : At (EvF g ws Q) := ⟨e.imp h⟩
end DL
namespace DL
open PySem PySem.Spec PyProof.Rows L2 RZ
/-! ### a, *b, c = seq -/
theorem walksTail {prog : Program} {w : World} {A : Around} {I : Addr} {fp wr : List Addr} {G : Array GenState → Array GenState → Prop} {n : Nat} {P : Nat → Value → Prop} {St : Nat → Shared → Prop}
    (W : WalksS prog w A I fp wr G n P St) (i : Nat) (hi : i ≤ n) : WalksS prog w A I fp wr G (n - i) (fun j => P (i + j)) (fun j => St (i + j)) where
  sub := W.sub
  grefl := W.grefl
  gtrans := W.gtrans
  frame := fun j => W.frame (i + j)
  item := fun j s Q E hj st hQ => W.item (i + j) s Q E (by omega) st hQ
  done := fun s Q E st hQ => W.done s Q E (by rw [show i + (n - i) = n by omega] at st; exact st) hQ
  self := fun j => W.self (i + j)
theorem items_drop {items acc : Array Value} {i : Nat} (hi : i ≤ items.size) (h : ItemsOf (fun j v => items[i + j]? = some v) acc (items.size - i)) : acc.toList = items.toList.drop i := by
  obtain ⟨h1, h2⟩ := h
  apply List.ext_getElem?
  intro j
  rw [List.getElem?_drop]
  by_cases hj : j < acc.size
  · have e : acc[j]? = some acc[j] := Array.getElem?_eq_getElem hj
    have := h2 j _ e
    rw [Array.getElem?_toList, Array.getElem?_toList, e, this]
  · rw [List.getElem?_eq_none (by simpa using hj), List.getElem?_eq_none (by simp; omega)]
section
variable {prog : Program} {w : World} {A : Around} {E : Value → Shared → Prop} {s : Shared}
theorem unpackStar_tuple {t : Addr} {items : Array Value} {n i after : Nat} {Q : List Value → Shared → Prop} (hh : A.handled = none) (ht : s.heap.IsTuple t items) (hn : n = i + 1 + after) (hl : i + after ≤ items.size) (hz : items.size ≤ sizeLine)
    (hQ : ∀ (h' : Heap) (tk : Nat), (∀ b o, s.heap.get? b = some o → h'.get? b = some o) →
      Q (items.toList.take i ++ [.ref h'.objs.size] ++ (items.toList.drop i).drop (items.size - i - after)) { s with heap := h'.push { cls := .type "list", data := .seq (((items.toList.drop i).take (items.size - i - after)).toArray) }, toks := tk }) : wpAny (model prog w) A (unpackItems (.ref t) n (some i)) Q E s := by
  have hlt : t ≠ s.heap.objs.size := by obtain ⟨o, ho, _⟩ := ht; exact Nat.ne_of_lt (Heap.lt_size ho)
  obtain ⟨hp, g, d, tk0, os⟩ := s
  unfold unpackItems
  refine wpAny_bind ?_
  unfold notIterableAtAll
  refine wpAny_bind (wpAny_specialOf ht.typeIs slot_tuple_iter.lookup ?_)
  refine wpAny_pure ?_
  simp only [Bool.false_eq_true, if_false]
  refine wpAny_bind (wpAny_holding (iter_tuple ht ?_))
  refine wpAny_bind (wpAny_holding (draw_tuple hlt i 0 _ _ ⟨_, Heap.get?_push_size _ rfl, rfl, rfl⟩ (IsTup.push ht _) (by omega) fun h₁ hit₁ hs₁ => ?_))
  rw [List.drop_zero, if_neg (by simp; omega)]
  rw [Nat.zero_add] at hit₁
  have ht₁ : h₁.IsTuple t items := (IsTup.push ht _).extBut hs₁.extBut hlt
  have hW := walksTail (Walks.tuple (prog := prog) (w := w) (A := A.in1) hh hp.objs.size t hlt items).toS i (by omega)
  have hl1 : ∀ b ∈ [hp.objs.size, t], b < h₁.objs.size := fun b hb => by
    have e' : b = hp.objs.size ∨ b = t := by simpa using hb
    rcases e' with q | q
    · rw [q]; obtain ⟨o, ho, _⟩ := hit₁; exact Heap.lt_size ho
    · rw [q]; obtain ⟨o, ho, _⟩ := ht₁; exact Heap.lt_size ho
  refine wpAny_bind (wpAny_holding (wpAny_collect_iter (s := ⟨h₁, g, d, tk0, os⟩) (T := "tuple_iterator") (by simp) hW (fun j s st => by obtain ⟨o, ho, hc, _⟩ := st.1; exact ⟨o, ho, hc⟩) ⟨hit₁, ht₁⟩ hl1 (by simp) ?_ (by omega)))
  intro s' acc hm hacc
  obtain ⟨hp', g', d', tk', os'⟩ := s'
  have e1 : g' = g := hm.gens
  have e2 : d' = d := hm.drawn
  have e3 : os' = os := hm.os
  subst e1 e2 e3
  have ea := items_drop (by omega) hacc
  simp only [ea]
  have el : (items.toList.drop i).length = items.size - i := by simp
  have keep : ∀ b o, hp.get? b = some o → hp'.get? b = some o := fun b o e => hm.heap b o (by simp; exact Nat.ne_of_lt (Heap.lt_size e)) (hs₁.extBut b o (Nat.ne_of_lt (Heap.lt_size e)) (Heap.get?_push_of_some _ e))
  rw [if_neg (by rw [el]; omega)]
  refine wpAny_bind (wpAny_newList ?_ (by simp; omega))
  refine wpAny_pure ?_
  rw [el, show items.size - i - (n - 1 - i) = items.size - i - after by omega]
  exact hQ hp' tk' keep
theorem unpackStar_list {t : Addr} {items : Array Value} {n i after : Nat} {Q : List Value → Shared → Prop} (hh : A.handled = none) (ht : s.heap.IsList t items) (hn : n = i + 1 + after) (hl : i + after ≤ items.size) (hz : items.size ≤ sizeLine)
    (hQ : ∀ (h' : Heap) (tk : Nat), (∀ b o, s.heap.get? b = some o → h'.get? b = some o) →
      Q (items.toList.take i ++ [.ref h'.objs.size] ++ (items.toList.drop i).drop (items.size - i - after)) { s with heap := h'.push { cls := .type "list", data := .seq (((items.toList.drop i).take (items.size - i - after)).toArray) }, toks := tk }) : wpAny (model prog w) A (unpackItems (.ref t) n (some i)) Q E s := by
  have hlt : t ≠ s.heap.objs.size := by obtain ⟨o, ho, _⟩ := ht; exact Nat.ne_of_lt (Heap.lt_size ho)
  obtain ⟨hp, g, d, tk0, os⟩ := s
  unfold unpackItems
  refine wpAny_bind ?_
  unfold notIterableAtAll
  refine wpAny_bind (wpAny_specialOf ht.typeIs slot_list_iter.lookup ?_)
  refine wpAny_pure ?_
  simp only [Bool.false_eq_true, if_false]
  refine wpAny_bind (wpAny_holding (wpAny_pyIter_list ht ?_))
  refine wpAny_bind (wpAny_holding (PySem.W.kun_draw hlt i 0 _ _ ⟨_, Heap.get?_push_size _ rfl, rfl, rfl⟩ (Heap.IsList.push ht _) (by omega) fun h₁ hit₁ hs₁ => ?_))
  rw [List.drop_zero, if_neg (by simp; omega)]
  rw [Nat.zero_add] at hit₁
  have ht₁ : h₁.IsList t items := (Heap.IsList.push ht _).extBut hs₁.extBut hlt
  have hW := walksTail (Walks.list (prog := prog) (w := w) (A := A.in1) hh hp.objs.size t hlt items).toS i (by omega)
  have hl1 : ∀ b ∈ [hp.objs.size, t], b < h₁.objs.size := fun b hb => by
    have e' : b = hp.objs.size ∨ b = t := by simpa using hb
    rcases e' with q | q
    · rw [q]; obtain ⟨o, ho, _⟩ := hit₁; exact Heap.lt_size ho
    · rw [q]; obtain ⟨o, ho, _⟩ := ht₁; exact Heap.lt_size ho
  refine wpAny_bind (wpAny_holding (wpAny_collect_iter (s := ⟨h₁, g, d, tk0, os⟩) (T := "list_iterator") (by simp) hW (fun j s st => by obtain ⟨o, ho, hc, _⟩ := st.1; exact ⟨o, ho, hc⟩) ⟨hit₁, ht₁⟩ hl1 (by simp) ?_ (by omega)))
  intro s' acc hm hacc
  obtain ⟨hp', g', d', tk', os'⟩ := s'
  have e1 : g' = g := hm.gens
  have e2 : d' = d := hm.drawn
  have e3 : os' = os := hm.os
  subst e1 e2 e3
  have ea := items_drop (by omega) hacc
  simp only [ea]
  have el : (items.toList.drop i).length = items.size - i := by simp
  have keep : ∀ b o, hp.get? b = some o → hp'.get? b = some o := fun b o e => hm.heap b o (by simp; exact Nat.ne_of_lt (Heap.lt_size e)) (hs₁.extBut b o (Nat.ne_of_lt (Heap.lt_size e)) (Heap.get?_push_of_some _ e))
  rw [if_neg (by rw [el]; omega)]
  refine wpAny_bind (wpAny_newList ?_ (by simp; omega))
  refine wpAny_pure ?_
  rw [el, show items.size - i - (n - 1 - i) = items.size - i - after by omega]
  exact hQ hp' tk' keep
end
/-! over the layer -/
def gStar (K : PySem.W.Frag) (i after : Nat) (t : TGs) : TG := fun v σ H Q => ∃ a xs, v = .ref a ∧ (SqT K H a xs ∨ SqL K H a xs) ∧ i + after ≤ xs.length ∧
  ∀ p, H p = none → t (xs.take i ++ [.ref p] ++ (xs.drop i).drop (xs.length - i - after)) σ (upd H p (.lst ((xs.drop i).take (xs.length - i - after)))) Q
section
variable {X : Cx} {pos p : Pos}
theorem pgs_star {e : Expr} {es : List Expr} {t : TG} {u : TGs} (h1 : PG X e t) (h2 : PGs X es u)
    (hs : (assignEach (.Starred e p :: es) X.env).map (·.2) = assign e X.env :: (assignEach es X.env).map (·.2) := by rfl) : PGs X (.Starred e p :: es) (gCons t u) := by
  refine ⟨fun pins s σ H vs us Q I r h => ?_⟩
  obtain ⟨v, vr, e1, h⟩ := h
  subst e1
  cases r with
  | cons r rr =>
    rw [hs]
    refine assignInOrder_cons (thn (h1.run pins s σ H _ _ _ I r h) fun _ s1 ⟨σ1, H1, I1, q1⟩ => ?_)
    exact h2.run pins s1 σ1 H1 _ _ _ I1 rr q1
theorem pg_star {es : List Expr} {k : Nat} {t : TGs} {n i after : Nat} (hc : X.calm = true) (h : PGs X es t) (hn : (assignEach es X.env).length = n) (hst : (assignEach es X.env).findIdx? (·.1) = some i) (hni : n = i + 1 + after) : PG X (.Tuple es k pos) (gStar X.K i after t) := by
  refine ⟨fun pins s σ H v u Q I r hw => ?_⟩
  obtain ⟨a, xs, e1, hq, hl, hw⟩ := hw
  subst e1
  cases r
  rw [PyProof.Rows.assign_Tuple]
  refine wpAny_bind (wpAny_standAt ?_)
  unfold unpack
  rw [hn, hst]
  have fin : ∀ (its : List Value), Vals xs its → xs.length ≤ sizeLine → ∀ (h' : Heap) (tk : Nat), (∀ b o, s.heap.get? b = some o → h'.get? b = some o) →
      wpAny (model X.prog X.w) X.A (assignInOrder ((assignEach es X.env).map (·.2)) (its.toArray.toList.take i ++ [.ref h'.objs.size] ++ (its.toArray.toList.drop i).drop (its.toArray.size - i - after))) (fun _ s' => ∃ σ' H', Inv X pins σ' H' s' ∧ Q σ' H') X.xe
        { s with heap := h'.push { cls := .type "list", data := .seq (((its.toArray.toList.drop i).take (its.toArray.size - i - after)).toArray) }, toks := tk } := fun its rv hz h' tk hk => by
    have I1 : Inv X pins σ H { s with heap := h' } := I.kept (t' := s.toks) hk
    have hlen : its.toArray.size = xs.length := by rw [List.size_toArray]; exact rv.length.symm
    have I2 : Inv X pins σ (upd H h'.objs.size (.lst ((xs.drop i).take (xs.length - i - after)))) { s with heap := h'.push { cls := .type "list", data := .seq (((its.toArray.toList.drop i).take (its.toArray.size - i - after)).toArray) }, toks := tk } :=
      I1.laid (t' := tk) (fun b o e => Heap.get?_push_of_some _ e) (Nat.le_refl _) ⟨by simp; omega, (its.drop i).take (its.toArray.size - i - after), 0, by rw [hlen]; exact (rv.drop i).take _, Heap.get?_push_size _ rfl⟩
    refine h.run pins _ σ _ _ _ Q I2 ?_ (hw h'.objs.size (I1.hok.fresh (Nat.le_refl _)))
    rw [hlen]
    exact ((rv.take i).append (.cons (show RelV (.ref h'.objs.size) (.ref h'.objs.size) from rfl) .nil)).append ((rv.drop i).drop _)
  rcases hq with hq | hq
  · obtain ⟨its, rv, ht, hz⟩ := I.tuple hq
    refine wpAny_bind (wpAny_holding (unpackStar_tuple (after := after) (I.ok.hd hc) ht hni (by rw [List.size_toArray, ← rv.length]; exact hl) (by rw [List.size_toArray, ← rv.length]; exact hz) (fin its rv hz)))
  · obtain ⟨its, rv, ht, hz⟩ := I.list hq
    refine wpAny_bind (wpAny_holding (unpackStar_list (after := after) (I.ok.hd hc) ht.isList hni (by rw [List.size_toArray, ← rv.length]; exact hl) (by rw [List.size_toArray, ← rv.length]; exact hz) (fin its rv hz)))
end
/-! as data; the middle is a list that stays -/
def LGn (K : PySem.W.Frag) (P : Pt) (g : GD) : TG := fun v σ H Q => ∃ F ρ d ρ', Rel K P F H σ ρ ∧ Rp K F d v ∧ g d ρ = some ρ' ∧ ∀ F' H' σ', Same F F' → Rel K P F' H' σ' ρ' → Q σ' H'
def starX (i after : Nat) (ds : List Dt) : List Dt := ds.take i ++ [.lst ((ds.drop i).take (ds.length - i - after))] ++ (ds.drop i).drop (ds.length - i - after)
def gTs (i after : Nat) (gs : List Dt → Rho → Option Rho) : GD := fun d ρ => match d with
  | .tup ds => if i + after ≤ ds.length then gs (starX i after ds) ρ else none
  | .lst ds => if i + after ≤ ds.length then gs (starX i after ds) ρ else none
  | _ => none
section
variable {X : Cx} {P : Pt} {Wx : WX} {pos p : Pos} {e tg : Expr} {fe : FE}
theorem g_star {es : List Expr} {ts us : List Nat} {g : GD} {gs : List Dt → Rho → Option Rho} (h1 : PG X e (LG X.K P ts g)) (h2 : PGs X es (LGs X.K P us gs))
    (hs : (assignEach (.Starred e p :: es) X.env).map (·.2) = assign e X.env :: (assignEach es X.env).map (·.2) := by rfl) : PGs X (.Starred e p :: es) (LGs X.K P (ts ++ us) (gsCons g gs)) := PGsm (pgs_star h1 h2 hs) fun vs σ H Q h => by
  obtain ⟨F, ρ, ds, ρ', r, p, e, q⟩ := h
  cases p with
  | nil => cases e
  | cons p1 p2 =>
    rename_i d v ds vs
    unfold gsCons at e
    simp only [] at e
    cases e1 : g d ρ with
    | none => rw [e1] at e; cases e
    | some ρ1 =>
      rw [e1] at e
      exact ⟨v, vs, rfl, F, ρ, d, ρ1, r, p1, e1, fun σ' r' b1 => ⟨F, ρ1, ds, ρ', r', p2, e, fun σ2 r2 b2 => q σ2 r2 (b1.trans b2)⟩⟩
theorem g_tupS (i after : Nat) {es : List Expr} {k : Nat} {ts : List Nat} {gs : List Dt → Rho → Option Rho} {n : Nat} (hc : X.calm = true) (h : PGs X es (LGs X.K P ts gs))
    (hn : (assignEach es X.env).length = n := by rfl) (hst : (assignEach es X.env).findIdx? (·.1) = some i := by rfl) (hni : n = i + 1 + after := by rfl) : PG X (.Tuple es k pos) (LGn X.K P (gTs i after gs)) := PGm (pg_star hc h hn hst hni) fun v σ H Q h => by
  obtain ⟨F, ρ, d, ρ', r, p, e, q⟩ := h
  have fin : ∀ (ds : List Dt) (vs : List V), Rps X.K F ds vs → gs (starX i after ds) ρ = some ρ' → ∀ a, H a = none → LGs X.K P ts gs (vs.take i ++ [.ref a] ++ (vs.drop i).drop (vs.length - i - after)) σ (upd H a (.lst ((vs.drop i).take (vs.length - i - after)))) Q := fun ds vs hr e a na => by
    have gg := Grow.lay (o := .lst ((vs.drop i).take (vs.length - i - after))) r.fh na
    refine ⟨_, ρ, starX i after ds, ρ', r.grow gg, ?_, e, fun σ' r' _ => q _ _ σ' gg.f r'⟩
    have hr' := hr.mono gg.f
    unfold starX
    rw [hr.length]
    exact ((hr'.take i).append (.cons (.lst upd_same ((hr'.drop i).take _)) .nil)).append ((hr'.drop i).drop _)
  cases p with
  | tup hq hr =>
    unfold gTs at e
    simp only [] at e
    split at e
    · rename_i hl
      exact ⟨_, _, rfl, .inl (same_sqT r.fh hq), by rw [← hr.length]; exact hl, fin _ _ hr e⟩
    · cases e
  | lst hq hr =>
    unfold gTs at e
    simp only [] at e
    split at e
    · rename_i hl
      exact ⟨_, _, rfl, .inr (.inl (.inl (r.fh _ _ hq))), by rw [← hr.length]; exact hl, fin _ _ hr e⟩
    · cases e
  | _ => cases e
theorem s_asgS {g : GD} (hg : PG X tg (LGn X.K P g)) (he : PE X e (LE X.K P Wx fe)) (hs : swapsWithSole [tg] e pos.line X.env = pure false := by rfl) (hw : swappedStores [tg] e X.env = pure none := by rfl)
    (h1 : (assignEach [tg] X.env).map (·.2) = [assign tg X.env] := by rfl) : PS X (.Assign [tg] e pos) (LS X.K P Wx (sAsgT g fe)) := PSm (ps_asg he hg hs hw h1) fun D σ H h => by
  obtain ⟨F, ρ, r, q⟩ := h
  refine LE.bindS r q fun d ρ1 F1 H1 v s1 r1 p1 q1 => ?_
  cases e : g d ρ1 with
  | none => simp only [e] at q1; exact q1.elim
  | some ρ2 =>
    simp only [e] at q1
    exact ⟨F1, ρ1, d, ρ2, r1, p1, e, fun F' H' σ' s' r' => q1 F' H' σ' s' r'⟩
end
end DL
namespace DLZ
open PySem PySem.Spec PyProof.Rows
/-! ### zip(.., strict=True) over two iterators -/
abbrev IsZs (h : Heap) (z TI TO : Addr) (f0 : Value) : Prop := h.get? z = some { cls := .type "zip", dict := none, data := .fields #[f0, .bool false, .bool true, .ref TI, .ref TO], slots := #[] }
section
variable {prog : Program} {w : World} {A : Around} {E : Value → Shared → Prop} {s : Shared} {it : Addr} {fp : List Addr} {n i : Nat} {P : Nat → Value → Prop} {St : Nat → Heap → Prop} {Q : Option Value → Shared → Prop}
theorem draw_item (D : Draws prog w A it fp n P St) (hlt : i < n) (st : St i s.heap) (hQ : ∀ x h' tk, P i x → St (i + 1) h' → Heap.SameBut it s.heap h' → Q (some x) { s with heap := h', toks := tk }) : wpAny (model prog w) A (Builtin.SmallTypes.nextOrEnd (.ref it)) Q E s := by
  unfold Builtin.SmallTypes.nextOrEnd
  exact wpAny_bind (wpAny_attempt (D.item i s _ _ hlt st fun x h' tk a b c => wpAny_pure (hQ x h' tk a b c)))
theorem draw_end (D : Draws prog w A it fp n P St) (st : St n s.heap) (hQ : ∀ h', Heap.ExtBut it s.heap h' → Q none { s with heap := h' }) : wpAny (model prog w) A (Builtin.SmallTypes.nextOrEnd (.ref it)) Q E s := by
  unfold Builtin.SmallTypes.nextOrEnd
  refine wpAny_bind (wpAny_attempt (D.done s _ _ st fun h' e hx he => ?_))
  obtain ⟨o, ho, hc⟩ := he
  exact wpAny_bind (wpAny_isInstance (T := "StopIteration") (b := true) ⟨o, ho, hc⟩ isSubtype_stop (wpAny_pure (hQ h' hx)))
end
section
variable {prog : Program} {w : World} {A : Around} {E : Value → Shared → Prop} {s : Shared} {z TI TO i1 i2 : Addr} {fp1 fp2 : List Addr} {n1 n2 i : Nat} {P1 P2 : Nat → Value → Prop} {St1 St2 : Nat → Heap → Prop} {a1 a2 : Value}
theorem next_item {Q : Value → Shared → Prop} (S : ZipSep2 z TI TO i1 i2 fp1 fp2) (D1 : Draws prog w A i1 fp1 n1 P1 St1) (D2 : Draws prog w A i2 fp2 n2 P2 St2)
    (hz : IsZs s.heap z TI TO .none) (hTI : IsTupOf2 s.heap TI (.ref i1) (.ref i2)) (hTO : IsTupOf2 s.heap TO a1 a2) (st1 : St1 i s.heap) (st2 : St2 i s.heap) (hlt1 : i < n1) (hlt2 : i < n2)
    (hQ : ∀ x1 x2 h' tk, P1 i x1 → P2 i x2 → IsZs h' z TI TO (rawInt s.heap.objs.size) → IsTupOf2 h' TO x1 x2 → St1 (i + 1) h' → St2 (i + 1) h' → IsTupOf2 h' s.heap.objs.size x1 x2 → h'.objs.size = s.heap.objs.size + 1 →
      (∀ c o, c ≠ z → c ≠ TO → c ≠ i1 → c ≠ i2 → s.heap.get? c = some o → h'.get? c = some o) → Q (.ref s.heap.objs.size) { s with heap := h', toks := tk }) :
    wpAny (model prog w) A (Builtin.«zip.__next__» ⟨[.ref z], []⟩) (fun fin s' => ∃ v, fin = .done (.ret v) ∧ Q v s') E s := by
  obtain ⟨hp, g, d, tk0, os⟩ := s
  show wpAny _ _ (field (.ref z) 2 >>= _) _ _ _; refine wpAny_bind (wpAny_field hz rfl (x := .bool true) rfl ?_)
  show wpAny _ _ (field (.ref z) 3 >>= _) _ _ _; refine wpAny_bind (wpAny_field hz rfl (x := .ref TI) rfl (wpAny_bind (wpAny_seqItems hTI rfl ?_)))
  show wpAny _ _ (Builtin.SmallTypes.ownedTupleIsFree (.ref z) >>= _) _ _ _; refine wpAny_bind ?_; unfold Builtin.SmallTypes.ownedTupleIsFree
  refine wpAny_bind (wpAny_field hz rfl (x := .none) rfl (wpAny_pure ?_)); simp only [if_true]
  refine wpAny_bind (wpAny_rule (wpAny_bind (wpAny_field hz rfl (x := .ref TO) rfl (wpAny_bind (wpAny_setField_rec hz (by simp) fun g0 hz0 hs0 => wpAny_bind ?_)))))
  replace hz0 : IsZs g0 z TI TO .ellipsis := hz0; replace hs0 : Heap.SameBut z hp g0 := hs0
  simp only [List.zipIdx_cons, List.zipIdx_nil, List.forIn_cons, List.forIn_nil]; refine wpAny_bind (wpAny_bind (wpAny_onRaise ?_))
  show wpAny _ _ (Builtin.SmallTypes.nextOrEnd (.ref i1)) _ _ ⟨g0, g, d, tk0, os⟩
  refine draw_item D1 hlt1 (D1.over st1 hs0 S.zf1) fun x1 p1 tk1 hx1 sn1 hp1 => ?_
  replace hp1 : Heap.SameBut i1 g0 p1 := hp1; have hU1 : IsTupOf2 p1 TO a1 a2 := hp1.extBut _ _ S.Ti1 (hs0.extBut _ _ S.TOz hTO)
  refine wpAny_bind (wpAny_seqItems (s := ⟨p1, g, d, tk1, os⟩) hU1 rfl (wpAny_bind (updateSeq_IsTupOf2 (s := ⟨p1, g, d, tk1, os⟩) hU1 fun g1 hT1 hs1 => wpAny_bind (wpAny_letGo (wpAny_pure ?_)))))
  replace hT1 : IsTupOf2 g1 TO x1 a2 := hT1; replace hs1 : Heap.SameBut TO p1 g1 := hs1
  refine wpAny_bind (wpAny_bind (wpAny_onRaise ?_)); show wpAny _ _ (Builtin.SmallTypes.nextOrEnd (.ref i2)) _ _ ⟨g1, g, d, tk1, os⟩
  refine draw_item D2 hlt2 (D2.over (D2.over (D2.over st2 hs0 S.zf2) hp1 S.sep1_2) hs1 S.Tf2) fun x2 p2 tk2 hx2 sn2 hp2 => ?_
  replace hp2 : Heap.SameBut i2 g1 p2 := hp2; have hU2 : IsTupOf2 p2 TO x1 a2 := hp2.extBut _ _ S.Ti2 hT1
  refine wpAny_bind (wpAny_seqItems (s := ⟨p2, g, d, tk2, os⟩) hU2 rfl (wpAny_bind (updateSeq_IsTupOf2 (s := ⟨p2, g, d, tk2, os⟩) hU2 fun g2 hT2 hs2 => wpAny_bind (wpAny_letGo (wpAny_pure (wpAny_pure ?_))))))
  replace hT2 : IsTupOf2 g2 TO x1 x2 := hT2; replace hs2 : Heap.SameBut TO p2 g2 := hs2
  refine wpAny_bind (wpAny_seqItems (s := ⟨g2, g, d, tk2, os⟩) hT2 rfl (wpAny_bind (wpAny_newTuple ?_)))
  have hsz : g2.objs.size = hp.objs.size := hs2.1.trans (hp2.1.trans (hs1.1.trans (hp1.1.trans hs0.1)))
  have hzz : IsZs g2 z TI TO .ellipsis := hs2.extBut _ _ S.TOz.symm (hp2.extBut _ _ S.zi2 (hs1.extBut _ _ S.TOz.symm (hp1.extBut _ _ S.zi1 hz0)))
  have hkk : ∀ c o, c ≠ z → c ≠ TO → c ≠ i1 → c ≠ i2 → hp.get? c = some o → g2.get? c = some o := fun c o cz cT c1 c2 e => hs2.extBut _ _ cT (hp2.extBut _ _ c2 (hs1.extBut _ _ cT (hp1.extBut _ _ c1 (hs0.extBut _ _ cz e))))
  have hj1 : St1 (i + 1) g2 := D1.over (D1.over (D1.over sn1 hs1 S.Tf1) hp2 S.sep2_1) hs2 S.Tf1; have hj2 : St2 (i + 1) g2 := D2.over sn2 hs2 S.Tf2
  have hzlt : z < g2.objs.size := Heap.lt_size hzz
  show wpAny _ _ (Builtin.SmallTypes.ownedTupleHandOut (.ref z) (.ref g2.objs.size) >>= _) _ _ ⟨g2.push { cls := .type "tuple", data := .seq #[x1, x2] }, g, d, tk2, os⟩; refine wpAny_bind ?_; unfold Builtin.SmallTypes.ownedTupleHandOut
  have hz6 : IsZs (g2.push { cls := .type "tuple", data := .seq #[x1, x2] }) z TI TO .ellipsis := Heap.get?_push_of_some _ hzz
  refine wpAny_bind (wpAny_setField_rec hz6 (by simp) fun h7 hz7 hs7 => ?_); replace hz7 : IsZs h7 z TI TO (rawInt g2.objs.size) := hz7
  refine wpAny_setField_rec hz7 (by simp) fun h8 hz8 hs8 => ?_; replace hz8 : IsZs h8 z TI TO (rawInt g2.objs.size) := hz8
  replace hs7 : Heap.SameBut z (g2.push { cls := .type "tuple", data := .seq #[x1, x2] }) h7 := hs7; replace hs8 : Heap.SameBut z h7 h8 := hs8
  have up : ∀ c o, c ≠ z → g2.get? c = some o → h8.get? c = some o := fun c o c1 e => hs8.extBut _ _ c1 (hs7.extBut _ _ c1 (Heap.get?_push_of_some _ e))
  have hT8 : IsTupOf2 h8 g2.objs.size x1 x2 := hs8.extBut _ _ (Nat.ne_of_gt hzlt) (hs7.extBut _ _ (Nat.ne_of_gt hzlt) (Heap.get?_push_size _ rfl))
  have hz9 : h8.objs.size = g2.objs.size + 1 := by rw [hs8.1, hs7.1, Heap.size_push]
  rw [hsz] at hz8 hT8 hz9
  refine wpAny_pure ⟨_, rfl, ?_⟩; show Q (.ref g2.objs.size) ⟨h8, g, d, tk2, os⟩; rw [hsz]
  exact hQ x1 x2 h8 tk2 hx1 hx2 hz8 (up _ _ S.TOz hT2) (D1.frame _ _ _ hj1 fun b hb o e => up b o (fun q => S.zf1 (q ▸ hb)) e) (D2.frame _ _ _ hj2 fun b hb o e => up b o (fun q => S.zf2 (q ▸ hb)) e) hT8 hz9 fun c o cz cT c1 c2 e => up c o cz (hkk c o cz cT c1 c2 e)
/-- both have come to their end -/
theorem next_end {Q : Fin → Shared → Prop} (hh : A.handled = none) (S : ZipSep2 z TI TO i1 i2 fp1 fp2) (D1 : Draws prog w A i1 fp1 i P1 St1) (D2 : Draws prog w A i2 fp2 i P2 St2)
    (hz : IsZs s.heap z TI TO .none) (hTI : IsTupOf2 s.heap TI (.ref i1) (.ref i2)) (hTO : IsTupOf2 s.heap TO a1 a2) (st1 : St1 i s.heap) (st2 : St2 i s.heap)
    (hE : ∀ h' tk e, (∀ c o, c ≠ z → c ≠ TO → c ≠ i1 → c ≠ i2 → s.heap.get? c = some o → h'.get? c = some o) → (∃ o, h'.get? e = some o ∧ o.cls = .type "StopIteration") → E (.ref e) { s with heap := h', toks := tk }) :
    wpAny (model prog w) A (Builtin.«zip.__next__» ⟨[.ref z], []⟩) Q E s := by
  obtain ⟨hp, g, d, tk0, os⟩ := s
  show wpAny _ _ (field (.ref z) 2 >>= _) _ _ _; refine wpAny_bind (wpAny_field hz rfl (x := .bool true) rfl ?_)
  show wpAny _ _ (field (.ref z) 3 >>= _) _ _ _; refine wpAny_bind (wpAny_field hz rfl (x := .ref TI) rfl (wpAny_bind (wpAny_seqItems hTI rfl ?_)))
  show wpAny _ _ (Builtin.SmallTypes.ownedTupleIsFree (.ref z) >>= _) _ _ _; refine wpAny_bind ?_; unfold Builtin.SmallTypes.ownedTupleIsFree
  refine wpAny_bind (wpAny_field hz rfl (x := .none) rfl (wpAny_pure ?_)); simp only [if_true]
  refine wpAny_bind (wpAny_rule (wpAny_bind (wpAny_field hz rfl (x := .ref TO) rfl (wpAny_bind (wpAny_setField_rec hz (by simp) fun g0 hz0 hs0 => wpAny_bind ?_)))))
  replace hz0 : IsZs g0 z TI TO .ellipsis := hz0; replace hs0 : Heap.SameBut z hp g0 := hs0
  simp only [List.zipIdx_cons, List.zipIdx_nil, List.forIn_cons, List.forIn_nil]; refine wpAny_bind (wpAny_bind (wpAny_onRaise ?_))
  show wpAny _ _ (Builtin.SmallTypes.nextOrEnd (.ref i1)) _ _ ⟨g0, g, d, tk0, os⟩
  refine draw_end D1 (D1.over st1 hs0 S.zf1) fun q1 hq1 => ?_
  replace hq1 : Heap.ExtBut i1 g0 q1 := hq1
  have hzq : IsZs q1 z TI TO .ellipsis := hq1 _ _ S.zi1 hz0
  refine wpAny_bind (wpAny_setField_rec (s := ⟨q1, g, d, tk0, os⟩) hzq (by simp) fun q2 hz2 hs2 => ?_)
  replace hs2 : Heap.SameBut z q1 q2 := hs2
  refine wpAny_bind ?_
  show wpAny _ _ (Bind.bind (forIn [(Value.ref i2, 1)] PUnit.unit _) _) _ _ _
  simp only [List.forIn_cons, List.forIn_nil]
  refine wpAny_bind (wpAny_bind (wpAny_bind (draw_end D2 (D2.over (D2.frame _ _ _ (D2.over st2 hs0 S.zf2) fun b hb o e => hq1 b o (fun q => S.sep1_2 (q ▸ hb)) e) hs2 S.zf2) fun q3 hq3 => ?_)))
  replace hq3 : Heap.ExtBut i2 q2 q3 := hq3
  have hkeep : ∀ c o, c ≠ z → c ≠ TO → c ≠ i1 → c ≠ i2 → hp.get? c = some o → q3.get? c = some o := fun c o cz _ c1 c2 x => hq3 _ _ c2 (hs2.extBut _ _ cz (hq1 _ _ c1 (hs0.extBut _ _ cz x)))
  refine wpAny_pure (wpAny_pure (wpAny_bind (wpAny_rule ?_)))
  show wpAny _ _ (newExc (.type "StopIteration") [] >>= _) _ _ ⟨q3, g, d, tk0, os⟩; refine wpAny_bind ?_; simp only [newExc, newTuple]
  refine wpAny_bind (wpAny_newObj_type ?_ (by size_fits)); refine wpAny_bind (m := firstArgMember _ _) (wpAny_of_eq (a := Value.none) (by first | rfl | (simp only [firstArgMember]; rfl)) (wpAny_newObj_type ?_ (by size_fits)))
  simp only [raiseNew]; refine wpAny_bind (wpAny_handled ?_); first | rw [show A.in1.handled = none from hh] | rw [hh]
  refine wpAny_bind (wpAny_pure (wpAny_throw (hE _ _ _ (fun c o cz cT c1 c2 x => Heap.get?_push_of_some _ (Heap.get?_push_of_some _ (hkeep c o cz cT c1 c2 x))) ⟨_, Heap.get?_push_size _ rfl, rfl⟩)))
theorem pyNext_item {Q : Option Value → Shared → Prop} (S : ZipSep2 z TI TO i1 i2 fp1 fp2) (D1 : Draws prog w A.in1 i1 fp1 n1 P1 St1) (D2 : Draws prog w A.in1 i2 fp2 n2 P2 St2)
    (hz : IsZs s.heap z TI TO .none) (hTI : IsTupOf2 s.heap TI (.ref i1) (.ref i2)) (hTO : IsTupOf2 s.heap TO a1 a2) (st1 : St1 i s.heap) (st2 : St2 i s.heap) (hlt1 : i < n1) (hlt2 : i < n2)
    (hQ : ∀ x1 x2 h' tk, P1 i x1 → P2 i x2 → IsZs h' z TI TO (rawInt s.heap.objs.size) → IsTupOf2 h' TO x1 x2 → St1 (i + 1) h' → St2 (i + 1) h' → IsTupOf2 h' s.heap.objs.size x1 x2 → h'.objs.size = s.heap.objs.size + 1 →
      (∀ c o, c ≠ z → c ≠ TO → c ≠ i1 → c ≠ i2 → s.heap.get? c = some o → h'.get? c = some o) → Q (some (.ref s.heap.objs.size)) { s with heap := h', toks := tk }) :
    wpAny (model prog w) A (pyNext (.ref z)) Q E s := by
  have hT : s.TypeIs (.ref z) "zip" := ⟨_, hz, rfl⟩; unfold pyNext
  exact wpAny_bind (wpAny_attempt (wpAny_callSpecial?_slot (name := Str.ofString "__next__") hT F.slot_zip_next (wpAny_call_entry F.slot_zip_next hT F.entry_zip_next (next_item S D1 D2 hz hTI hTO st1 st2 hlt1 hlt2 fun x1 x2 h' tk y1 y2 b1 b2 d1 d2 b5 b6 b7 => wpAny_pure (hQ x1 x2 h' tk y1 y2 b1 b2 d1 d2 b5 b6 b7)) (F.args_zip_next_1 _))))
theorem pyNext_end {Q : Option Value → Shared → Prop} (hh : A.handled = none) (S : ZipSep2 z TI TO i1 i2 fp1 fp2) (D1 : Draws prog w A.in1 i1 fp1 i P1 St1) (D2 : Draws prog w A.in1 i2 fp2 i P2 St2)
    (hz : IsZs s.heap z TI TO .none) (hTI : IsTupOf2 s.heap TI (.ref i1) (.ref i2)) (hTO : IsTupOf2 s.heap TO a1 a2) (st1 : St1 i s.heap) (st2 : St2 i s.heap)
    (hQ : ∀ h' tk, (∀ c o, c ≠ z → c ≠ TO → c ≠ i1 → c ≠ i2 → s.heap.get? c = some o → h'.get? c = some o) → Q none { s with heap := h', toks := tk }) : wpAny (model prog w) A (pyNext (.ref z)) Q E s := by
  have hT : s.TypeIs (.ref z) "zip" := ⟨_, hz, rfl⟩; unfold pyNext
  refine wpAny_bind (wpAny_attempt (wpAny_callSpecial?_slot (name := Str.ofString "__next__") hT F.slot_zip_next (wpAny_call_entry F.slot_zip_next hT F.entry_zip_next (next_end (A := A.in1) hh S D1 D2 hz hTI hTO st1 st2 fun h' tk e hk he => ?_) (F.args_zip_next_1 _))))
  obtain ⟨o, ho, hc⟩ := he
  exact wpAny_bind (wpAny_isInstance (T := "StopIteration") (b := true) ⟨o, ho, hc⟩ isSubtype_stop (wpAny_pure (hQ _ _ hk)))
theorem go_zs {elts : List Expr} {x1 : Nat} {pos : Pos} {T : Addr} {Q : Unit → Shared → Prop} (hz : IsZs s.heap z TI TO (rawInt T)) (hQ : ∀ h', IsZs h' z TI TO .none → Heap.SameBut z s.heap h' → Q () { s with heap := h' }) : wpAny (model prog w) A (letOwnedTupleGo (.Tuple elts x1 pos) (.ref z) (.ref T)) Q E s := by
  unfold letOwnedTupleGo
  refine wpAny_bind (wpAny_load hz ?_); show wpAny _ _ (if (["enumerate", "zip", "dict_itemiterator", "dict_reverseitemiterator", "odict_iterator", "itertools.zip_longest", "itertools.pairwise"].contains "zip" && (#[rawInt T, .bool false, .bool true, .ref TI, .ref TO] : Array Value)[0]? == some (rawInt T)) = true then _ else _) Q E s
  rw [if_pos (by simp)]; refine wpAny_bind (wpAny_rule ?_); show wpAny _ _ (setField (.ref z) 0 .none) Q E s
  exact wpAny_setField_rec hz (by simp) fun h' hz' hs' => hQ h' hz' hs'
theorem pyIter_zs {f0 : Value} {Q : Value → Shared → Prop} (hz : IsZs s.heap z TI TO f0) (h : Q (.ref z) s) : wpAny (model prog w) A (pyIter (.ref z)) Q E s := by
  have hT : s.TypeIs (.ref z) "zip" := ⟨_, hz, rfl⟩
  refine wpAny_pyIter_slot hT F.slot_zip_iter (wpAny_call_entry F.slot_zip_iter hT F.entry_zip_iter ?_ (F.args_zip_iter_1 _)); show wpAny _ _ (ret (.ref z)) _ _ s
  exact wpAny_pure ⟨_, rfl, "zip", _, hT, F.slot_zip_next.lookup, h⟩
end
/-! ### the call -/
section
variable {prog : Program} {w : World} {A : Around} {E : Value → Shared → Prop} {s : Shared}
theorem init_meets {T newId : String} {self : Value} {a : Value} {rest : List Value} {kw : List (Str × Value)} (hl : typeLookup (.type T) "__init__" = pure (some (.builtin "object.__init__")))
    (hm : Bind.madeBy (.type T) = pure (some newId)) (hne : (some newId != some "object.__new__") = true) :
    Meets (Builtin.«object.__init__» ⟨self :: a :: rest, kw⟩) (fun _ R s => s.TypeIs self T ∧ R (.ok (.ret .none)) s) := by
  refine Meets.of_wp fun prog w A R s hs => ?_
  obtain ⟨hT, hq⟩ := hs
  repeat (any_goals (first | assumption | wp_step))
  exact ⟨_, rfl, hq⟩
theorem callType_kw {T newId : String} {Bn : Builtin} {a : Value} {args : List Value} {kw : List (Str × Value)} {S : PySem.Spec} {Q : Value → Shared → Prop} (ft : TypeCalled T newId "object.__init__")
    (hne : (some newId != some "object.__new__") = true) (hct : checkTypeCall T ⟨a :: args, kw⟩ = pure ()) (hcn : checkBuiltinCall newId ⟨.type T :: a :: args, kw⟩ = pure ())
    (hok : ∀ obj, argsOk "object.__init__" ⟨obj :: a :: args, kw⟩) (entryN : entryFor table newId = some Bn) (g : Meets (Bn ⟨.type T :: a :: args, kw⟩) S)
    (h : S A.in1 (wants (fun obj s1 => s1.TypeIs obj T ∧ Q obj s1) E) s) : wpAny (model prog w) A (call (.type T) (a :: args) kw) Q E s := by
  obtain ⟨c, tl, hmro⟩ := ft.mro
  have hmade := ft.made; have hsub := ft.sub
  refine wpAny_call (codeAny_of_tree ?_); show wpAny _ _ (callAny (.type T) _) _ _ _
  refine wpAny_pure ⟨Code.quiet_builtin _ (by decide +kernel), codeAny_builtin F.entry_type_call ?_⟩
  rw [Around.under_plain (weight_type_call_type T (a :: args) kw) (units_type_call_type T (a :: args) kw)]
  have h1 := ft.notType; have h2 := ft.canCreate
  repeat (any_goals (first | assumption | wp_step))
  refine codeAny_mono (codeAny_call_builtin ft.plain entryN (wpAny_of_eq hcn (g prog w A.in1 _ s h))) fun r s1 hr => ?_
  match r, hr with
  | .error e, hr => exact hr
  | .ok (.ret obj), hr =>
    obtain ⟨hT, hq⟩ := hr
    have hli := ft.init.lookup; have hbi := ft.init.bind obj
    repeat (any_goals (first | assumption | wp_step))
    refine codeAny_mono (codeAny_call_builtin ft.init.plain F.entry_object_init (ft.init.check _ _ _ _ _ _ _ _ hT (hok obj) (init_meets ft.init.lookup ft.made hne prog w A.in1 _ s1 ⟨hT, show wants (fun r s2 => r = .none ∧ Q obj s2) E _ s1 from ⟨rfl, hq⟩⟩))) fun r2 s2 hr2 => ?_
    match r2, hr2 with
    | .error e, hr2 => exact hr2
    | .ok (.ret r), hr2 =>
      obtain ⟨rfl, hq⟩ := hr2
      repeat (any_goals (first | assumption | wp_step))
    | .ok .next, hr2 => exact hr2.elim
    | .ok .brk, hr2 => exact hr2.elim
    | .ok .cont, hr2 => exact hr2.elim
  | .ok .next, hr => exact hr.elim
  | .ok .brk, hr => exact hr.elim
  | .ok .cont, hr => exact hr.elim
end
theorem tcheck {a b c : Value} : checkTypeCall "zip" ⟨[a, b], [("strict", c)]⟩ = pure () := by kernel_rfl
theorem ncheck {a b c : Value} : checkBuiltinCall "zip.__new__" ⟨[.type "zip", a, b], [("strict", c)]⟩ = pure () := by kernel_rfl
theorem icheck (a : Value) {b c d : Value} : argsOk "object.__init__" ⟨[a, b, c], [("strict", d)]⟩ := by
  unfold argsOk; rw [signature?_of (id := "object.__init__") (n := ['_', '_', 't', 'i', 'n', 'i', '_', '_']) (o := ['t', 'c', 'e', 'j', 'b', 'o']) (by kernel_rfl) F.owner_object]; kernel_rfl
abbrev zAL (h : Heap) (x : Str) (t : Tok) : Heap := h.push { cls := .type (strIterType x), data := .fields #[.str x t, .int 0 0] }
abbrev zBL (h : Heap) (x : Str) (t : Tok) (l : Addr) : Heap := (zAL h x t).push { cls := .type "list_iterator", data := .fields #[.ref l, .int 0 0] }
abbrev zCL (h : Heap) (x : Str) (t : Tok) (l : Addr) : Heap := (zBL h x t l).push { cls := .type "tuple", data := .seq #[.ref h.objs.size, .ref (zAL h x t).objs.size] }
abbrev zDL (h : Heap) (x : Str) (t : Tok) (l : Addr) : Heap := (zCL h x t l).push { cls := .type "tuple", data := .seq #[.none, .none] }
abbrev zEL (h : Heap) (x : Str) (t : Tok) (l : Addr) : Heap := (zDL h x t l).push { cls := .type "zip", data := .fields #[.none, .bool false, .bool true, .ref (zBL h x t l).objs.size, .ref (zCL h x t l).objs.size] }
theorem new_L (x : Str) (t : Tok) (l : Addr) (ys : Array Value) : Meets (Builtin.«zip.__new__» ⟨[.type "zip", .str x t, .ref l], [("strict", .bool true)]⟩) (fun _ R s => s.heap.IsList l ys ∧ R (.ok (.ret (.ref (zDL s.heap x t l).objs.size))) { s with heap := zEL s.heap x t l }) :=
  .of_wp fun prog w A R s h => by
    obtain ⟨hp, g, d, tk, os⟩ := s; obtain ⟨hl2, h⟩ := h; have hsub := sub_zip
    have hL2 : Heap.IsList (Shared.heap ⟨hp.push { cls := .type (strIterType x), data := .fields #[.str x t, .int 0 0] }, g, d, tk, os⟩) l ys := Heap.IsList.push hl2 _
    wp_walk using wpAny_pyIter_strU, wpAny_pyIter_list hL2
    exact ⟨_, rfl, h⟩
theorem call_L {prog : Program} {w : World} {A : Around} {E : Value → Shared → Prop} {s : Shared} {x : Str} {t : Tok} {l : Addr} {ys : Array Value} {Q : Value → Shared → Prop} (hl : s.heap.IsList l ys)
    (h : ∀ h', IsZs h' (s.heap.objs.size + 4) (s.heap.objs.size + 2) (s.heap.objs.size + 3) .none → IsTupOf2 h' (s.heap.objs.size + 2) (.ref s.heap.objs.size) (.ref (s.heap.objs.size + 1)) → IsTupOf2 h' (s.heap.objs.size + 3) .none .none →
      h'.IsStrIter s.heap.objs.size (strIterType x) x t 0 → h'.IsListIter (s.heap.objs.size + 1) l 0 → h'.objs.size = s.heap.objs.size + 5 → (∀ c o, s.heap.get? c = some o → h'.get? c = some o) → Q (.ref (s.heap.objs.size + 4)) { s with heap := h' }) :
    wpAny (model prog w) A (call (.type "zip") [.str x t, .ref l] [("strict", .bool true)]) Q E s := by
  refine callType_kw F.called_zip (by decide) tcheck ncheck (fun obj => icheck obj) F.entry_zip_new (new_L x t l ys) ⟨hl, ?_⟩
  have z1 : (zAL s.heap x t).objs.size = s.heap.objs.size + 1 := Heap.size_push ..
  have z2 : (zBL s.heap x t l).objs.size = s.heap.objs.size + 2 := by rw [Heap.size_push, z1]
  have z3 : (zCL s.heap x t l).objs.size = s.heap.objs.size + 3 := by rw [Heap.size_push, z2]
  have z4 : (zDL s.heap x t l).objs.size = s.heap.objs.size + 4 := by rw [Heap.size_push, z3]
  have z5 : (zEL s.heap x t l).objs.size = s.heap.objs.size + 5 := by rw [Heap.size_push, z4]
  have p5 : ∀ c o, s.heap.get? c = some o → (zEL s.heap x t l).get? c = some o := fun c o q => Heap.get?_push_of_some _ (Heap.get?_push_of_some _ (Heap.get?_push_of_some _ (Heap.get?_push_of_some _ (Heap.get?_push_of_some _ q))))
  have g5 : (zEL s.heap x t l).get? (zDL s.heap x t l).objs.size = some _ := Heap.get?_push_size _ rfl
  have g4 : (zEL s.heap x t l).get? (zCL s.heap x t l).objs.size = some _ := Heap.get?_push_of_some _ (Heap.get?_push_size _ rfl)
  have g3 : (zEL s.heap x t l).get? (zBL s.heap x t l).objs.size = some _ := Heap.get?_push_of_some _ (Heap.get?_push_of_some _ (Heap.get?_push_size _ rfl))
  have g2 : (zEL s.heap x t l).get? (zAL s.heap x t).objs.size = some _ := Heap.get?_push_of_some _ (Heap.get?_push_of_some _ (Heap.get?_push_of_some _ (Heap.get?_push_size _ rfl)))
  have g1 : (zEL s.heap x t l).get? s.heap.objs.size = some _ := Heap.get?_push_of_some _ (Heap.get?_push_of_some _ (Heap.get?_push_of_some _ (Heap.get?_push_of_some _ (Heap.get?_push_size _ rfl))))
  show _ ∧ _; rw [z2, z3, z4] at g5; rw [z1, z2] at g3; rw [z3] at g4; rw [z1] at g2; rw [z4]
  exact ⟨⟨_, g5, rfl⟩, h _ g5 g3 g4 ⟨_, g1, rfl, rfl⟩ ⟨_, g2, rfl, rfl⟩ z5 p5⟩
abbrev zAT (h : Heap) (x : Str) (t : Tok) : Heap := h.push { cls := .type (strIterType x), data := .fields #[.str x t, .int 0 0] }
abbrev zBT (h : Heap) (x : Str) (t : Tok) (l : Addr) : Heap := (zAT h x t).push { cls := .type "tuple_iterator", data := .fields #[.ref l, .int 0 0] }
abbrev zCT (h : Heap) (x : Str) (t : Tok) (l : Addr) : Heap := (zBT h x t l).push { cls := .type "tuple", data := .seq #[.ref h.objs.size, .ref (zAT h x t).objs.size] }
abbrev zDT (h : Heap) (x : Str) (t : Tok) (l : Addr) : Heap := (zCT h x t l).push { cls := .type "tuple", data := .seq #[.none, .none] }
abbrev zET (h : Heap) (x : Str) (t : Tok) (l : Addr) : Heap := (zDT h x t l).push { cls := .type "zip", data := .fields #[.none, .bool false, .bool true, .ref (zBT h x t l).objs.size, .ref (zCT h x t l).objs.size] }
theorem new_T (x : Str) (t : Tok) (l : Addr) (ys : Array Value) : Meets (Builtin.«zip.__new__» ⟨[.type "zip", .str x t, .ref l], [("strict", .bool true)]⟩) (fun _ R s => s.heap.IsTuple l ys ∧ R (.ok (.ret (.ref (zDT s.heap x t l).objs.size))) { s with heap := zET s.heap x t l }) :=
  .of_wp fun prog w A R s h => by
    obtain ⟨hp, g, d, tk, os⟩ := s; obtain ⟨hl2, h⟩ := h; have hsub := sub_zip
    have hL2 : Heap.IsTuple (Shared.heap ⟨hp.push { cls := .type (strIterType x), data := .fields #[.str x t, .int 0 0] }, g, d, tk, os⟩) l ys := Heap.IsTuple.push hl2 _
    wp_walk using wpAny_pyIter_strU, wpAny_pyIter_tuple hL2
    exact ⟨_, rfl, h⟩
theorem call_T {prog : Program} {w : World} {A : Around} {E : Value → Shared → Prop} {s : Shared} {x : Str} {t : Tok} {l : Addr} {ys : Array Value} {Q : Value → Shared → Prop} (hl : s.heap.IsTuple l ys)
    (h : ∀ h', IsZs h' (s.heap.objs.size + 4) (s.heap.objs.size + 2) (s.heap.objs.size + 3) .none → IsTupOf2 h' (s.heap.objs.size + 2) (.ref s.heap.objs.size) (.ref (s.heap.objs.size + 1)) → IsTupOf2 h' (s.heap.objs.size + 3) .none .none →
      h'.IsStrIter s.heap.objs.size (strIterType x) x t 0 → h'.IsTupleIter (s.heap.objs.size + 1) l 0 → h'.objs.size = s.heap.objs.size + 5 → (∀ c o, s.heap.get? c = some o → h'.get? c = some o) → Q (.ref (s.heap.objs.size + 4)) { s with heap := h' }) :
    wpAny (model prog w) A (call (.type "zip") [.str x t, .ref l] [("strict", .bool true)]) Q E s := by
  refine callType_kw F.called_zip (by decide) tcheck ncheck (fun obj => icheck obj) F.entry_zip_new (new_T x t l ys) ⟨hl, ?_⟩
  have z1 : (zAT s.heap x t).objs.size = s.heap.objs.size + 1 := Heap.size_push ..
  have z2 : (zBT s.heap x t l).objs.size = s.heap.objs.size + 2 := by rw [Heap.size_push, z1]
  have z3 : (zCT s.heap x t l).objs.size = s.heap.objs.size + 3 := by rw [Heap.size_push, z2]
  have z4 : (zDT s.heap x t l).objs.size = s.heap.objs.size + 4 := by rw [Heap.size_push, z3]
  have z5 : (zET s.heap x t l).objs.size = s.heap.objs.size + 5 := by rw [Heap.size_push, z4]
  have p5 : ∀ c o, s.heap.get? c = some o → (zET s.heap x t l).get? c = some o := fun c o q => Heap.get?_push_of_some _ (Heap.get?_push_of_some _ (Heap.get?_push_of_some _ (Heap.get?_push_of_some _ (Heap.get?_push_of_some _ q))))
  have g5 : (zET s.heap x t l).get? (zDT s.heap x t l).objs.size = some _ := Heap.get?_push_size _ rfl
  have g4 : (zET s.heap x t l).get? (zCT s.heap x t l).objs.size = some _ := Heap.get?_push_of_some _ (Heap.get?_push_size _ rfl)
  have g3 : (zET s.heap x t l).get? (zBT s.heap x t l).objs.size = some _ := Heap.get?_push_of_some _ (Heap.get?_push_of_some _ (Heap.get?_push_size _ rfl))
  have g2 : (zET s.heap x t l).get? (zAT s.heap x t).objs.size = some _ := Heap.get?_push_of_some _ (Heap.get?_push_of_some _ (Heap.get?_push_of_some _ (Heap.get?_push_size _ rfl)))
  have g1 : (zET s.heap x t l).get? s.heap.objs.size = some _ := Heap.get?_push_of_some _ (Heap.get?_push_of_some _ (Heap.get?_push_of_some _ (Heap.get?_push_of_some _ (Heap.get?_push_size _ rfl))))
  show _ ∧ _; rw [z2, z3, z4] at g5; rw [z1, z2] at g3; rw [z3] at g4; rw [z1] at g2; rw [z4]
  exact ⟨⟨_, g5, rfl⟩, h _ g5 g3 g4 ⟨_, g1, rfl, rfl⟩ ⟨_, g2, rfl, rfl⟩ z5 p5⟩
end DLZ
namespace DL
open PySem PySem.Spec PyProof.Rows L2 RZ DLZ
/-! ### zip(text, seq, strict=True), walked -/
theorem cw_typeK {M : Model} {A : Around} {E : Value → Shared → Prop} {s : Shared} {env : Env} {pos : Pos} {T : String} {e : Expr} {rest : List Expr} {kws : List Keyword} {Q : Value → Shared → Prop}
    (hall : (backToKw pos (keywordEach kws env)).all (·.1.isSome) = true) (hkw : (backToKw pos (keywordEach kws env)).any (·.1.isNone) = false) (hpl : (backTo pos (starEach (e :: rest) env)).any (·.1) = false) (he : starEach (e :: rest) env = (false, eval e env) :: starEach rest env)
    (h : wpAny M A (spliced (backTo pos (starEach (e :: rest) env))) (fun vs s₁ => wpAny M A (evalAll ((backToKw pos (keywordEach kws env)).map (·.2))) (fun ks s₂ => wpAny M A (call (.type T) vs (((backToKw pos (keywordEach kws env)).filterMap (·.1)).zip ks)) Q E s₂) E s₁) E s) :
    wpAny M A (callWith pos (.type T) [] (backTo pos (starEach (e :: rest) env)) (backToKw pos (keywordEach kws env))) Q E s := by
  unfold callWith
  refine wpAny_bind (wpAny_holding (wpAny_mono (evalArgs_kw2 (Q := fun a s₁ => wpAny M A (call (.type T) ([] ++ a.pos) a.kw) Q E s₁) hall h he) (fun a s₁ h₁ => wpAny_bind (wpAny_standAt ?_)) fun _ _ x => x))
  simp only [hpl, hkw, Bool.or_false]
  refine wpAny_bind (wpAny_pure ?_)
  exact wpAny_bind (wpAny_mono h₁ (fun r s₂ hr => wpAny_bind (wpAny_holding (wpAny_point (wpAny_pure hr)))) fun _ _ x => x)
def ItzsL (K : PySem.W.Frag) (x : Str) (b : Addr) : It :=
  ⟨fun i H => ∃ (ys : List V) (y : V), i < x.cps.size ∧ SqL K H b ys ∧ ys[i]? = some y,
    fun i H v H' => ∃ T c y, v = .ref T ∧ H T = none ∧ H' = upd H T (.tup [.str ⟨#[c]⟩, y]) ∧ x.cps[i]? = some c ∧ ∀ ys, SqL K H b ys → ys[i]? = some y,
    fun i H => ∃ ys : List V, SqL K H b ys ∧ ys.length = i ∧ x.cps.size = i⟩
theorem turn_zsL {P : Program} {w : World} {K : PySem.W.Frag} {elts : List Expr} {kk : Nat} {tpos : Pos} {x : Str} {t : Tok} {b z TI TO i1 i2 : Addr} (D : ZipSep2 z TI TO i1 i2 [i1] [i2, b]) (hb2 : b ≠ i2) :
    Turn P w K (.Tuple elts kk tpos) (ItzsL K x b) [z, TI, TO, i1, i2] z (fun i h => IsZs h z TI TO .none ∧ IsTupOf2 h TI (.ref i1) (.ref i2) ∧ (∃ x y, IsTupOf2 h TO x y) ∧ h.IsStrIter i1 (strIterType x) x t i ∧ h.IsListIter i2 b i) where
  mem := by simp
  obj := fun i h st c hc => by
    obtain ⟨hz, hTI, ⟨x, y, hTO⟩, ⟨o1, e1, _, d1⟩, ⟨o2, e2, _, d2⟩⟩ := st
    have e' : c = z ∨ c = TI ∨ c = TO ∨ c = i1 ∨ c = i2 := by simpa using hc
    rcases e' with q | q | q | q | q
    · rw [q]; exact ⟨_, hz, fun v q => nomatch q⟩
    · rw [q]; exact ⟨_, hTI, fun v q => nomatch q⟩
    · rw [q]; exact ⟨_, hTO, fun v q => nomatch q⟩
    · rw [q]; exact ⟨o1, e1, fun v q => by rw [d1] at q; cases q⟩
    · rw [q]; exact ⟨o2, e2, fun v q => by rw [d2] at q; cases q⟩
  keep := fun i h h' st k => by
    obtain ⟨hz, hTI, ⟨x, y, hTO⟩, ⟨o1, h1, r1⟩, h2⟩ := st
    exact ⟨k z (by simp) _ hz, k TI (by simp) _ hTI, ⟨x, y, k TO (by simp) _ hTO⟩, ⟨o1, k i1 (by simp) o1 h1, r1⟩, h2.at fun o q => k i2 (by simp) o q⟩
  item := by
    intro X hP hw hK hc i pins s σ H E I hf st hg
    subst hP hw hK
    obtain ⟨hz, hTI, ⟨x0, y0, hTO⟩, h1, h2⟩ := st
    obtain ⟨ys, y, hix, hqy, hy⟩ := hg
    obtain ⟨its2, rv2, p2, _⟩ := I.list  hqy
    obtain ⟨u2, hu2, ru2⟩ := rv2.get hy
    have hh : X.A.in1.handled = none := I.ok.hd hc
    have hzl : z < s.heap.objs.size := Heap.lt_size hz
    have D1 := Draws.text (prog := X.prog) (w := X.w) hh i1 x t
    have D2 := Draws.list (prog := X.prog) (w := X.w) hh i2 b hb2 its2.toArray
    refine pyNext_item D D1 D2 hz hTI hTO h1 ⟨h2, p2.isList⟩ hix (by have := (List.getElem?_eq_some_iff.mp hu2).1; simpa using this) fun x1 x2 h' tk P1 P2 z' TO' st1 st2 hT hsz hk => ?_
    obtain ⟨c, tu, hc1, rfl⟩ := P1
    have e2 : x2 = u2 := by
      have : its2[i]? = some x2 := by simpa using P2
      rw [hu2] at this
      exact (Option.some.inj this).symm
    subst e2
    refine ⟨_, rfl, go_zs (s := { s with heap := h', toks := tk }) z' fun h'' z'' sb => ?_⟩
    have hT2 : h''.get? s.heap.objs.size = some { cls := .type "tuple", data := .seq #[.str ⟨#[c]⟩ tu, x2] } := (sb.2 _ (Nat.ne_of_gt hzl)).trans hT
    have new : ObjOk X.prog X.w (upd H s.heap.objs.size (.tup [.str ⟨#[c]⟩, y])) h'' s.heap.objs.size (.tup [.str ⟨#[c]⟩, y]) :=
      ⟨by show 2 ≤ sizeLine; decide, [.str ⟨#[c]⟩ tu, x2], .cons ⟨_, rfl⟩ (.cons ru2 .nil), ⟨_, hT2, rfl, _, rfl⟩⟩
    have I1 : Inv X pins σ (upd H s.heap.objs.size (.tup [.str ⟨#[c]⟩, y])) { s with heap := h'', toks := tk } :=
      I.turnedNew (t' := tk) (ch := [z, TI, TO, i1, i2]) (fun c o hb q => (sb.2 c (fun q' => hb (by simp [q']))).trans (hk c o (fun q' => hb (by simp [q'])) (fun q' => hb (by simp [q'])) (fun q' => hb (by simp [q'])) (fun q' => hb (by simp [q'])) q)) hf (Nat.le_refl _) new
    have ziT : TI ≠ z := D.TIz
    refine ⟨.ref s.heap.objs.size, _, I1, rfl, ⟨_, c, y, rfl, I.hok.fresh (Nat.le_refl _), rfl, hc1, fun l hl => by rw [I.list_inj hl hqy]; exact hy⟩, ⟨z'', ?_, ⟨.str ⟨#[c]⟩ tu, x2, ?_⟩, ?_, ?_⟩, fun c hcm => ?_⟩
    · exact (sb.2 _ D.TIz).trans (hk _ _ D.TIz D.TITO D.TIi1 D.TIi2 hTI)
    · exact (sb.2 _ D.TOz).trans TO'
    · obtain ⟨o1, q1, r1⟩ := st1
      exact ⟨o1, (sb.2 _ (Ne.symm D.zi1)).trans q1, r1⟩
    · exact st2.1.at fun o q => (sb.2 _ (Ne.symm D.zi2)).trans q
    · have hlt : c < s.heap.objs.size := by
        have e' : c = z ∨ c = TI ∨ c = TO ∨ c = i1 ∨ c = i2 := by simpa using hcm
        rcases e' with q | q | q | q | q
        · rw [q]; exact hzl
        · rw [q]; exact Heap.lt_size hTI
        · rw [q]; exact Heap.lt_size hTO
        · rw [q]; obtain ⟨_, e1, _⟩ := h1; exact Heap.lt_size e1
        · rw [q]; obtain ⟨_, e2, _⟩ := h2; exact Heap.lt_size e2
      rw [upd_ne (Nat.ne_of_lt hlt)]
      exact (hf c hcm).1
  done := by
    intro X hP hw hK hc i pins s σ H E I hf st hg
    subst hP hw hK
    obtain ⟨hz, hTI, ⟨x0, y0, hTO⟩, h1, h2⟩ := st
    obtain ⟨ys, hqy, hl1, hl2⟩ := hg
    obtain ⟨its2, rv2, p2, _⟩ := I.list hqy
    have l2 := rv2.length
    have hh : X.A.handled = none := I.ok.hd hc
    have D1 := Draws.text (prog := X.prog) (w := X.w) (A := X.A.in1) hh i1 x t
    have D2 := Draws.list (prog := X.prog) (w := X.w) (A := X.A.in1) hh i2 b hb2 its2.toArray
    rw [hl2] at D1
    rw [show its2.toArray.size = i by simp; omega] at D2
    exact pyNext_end hh D D1 D2 hz hTI hTO h1 ⟨h2, p2.isList⟩ fun h' tk hk => ⟨rfl, I.turnedL (t' := tk) (ch := [z, TI, TO, i1, i2]) (fun c o hb q =>
      hk c o (fun q' => hb (by simp [q'])) (fun q' => hb (by simp [q'])) (fun q' => hb (by simp [q'])) (fun q' => hb (by simp [q'])) q) hf⟩
  self := fun A i s Q E st h => pyIter_zs st.1 h
def ItzsT (K : PySem.W.Frag) (x : Str) (b : Addr) : It :=
  ⟨fun i H => ∃ (ys : List V) (y : V), i < x.cps.size ∧ SqT K H b ys ∧ ys[i]? = some y,
    fun i H v H' => ∃ T c y, v = .ref T ∧ H T = none ∧ H' = upd H T (.tup [.str ⟨#[c]⟩, y]) ∧ x.cps[i]? = some c ∧ ∀ ys, SqT K H b ys → ys[i]? = some y,
    fun i H => ∃ ys : List V, SqT K H b ys ∧ ys.length = i ∧ x.cps.size = i⟩
theorem turn_zsT {P : Program} {w : World} {K : PySem.W.Frag} {elts : List Expr} {kk : Nat} {tpos : Pos} {x : Str} {t : Tok} {b z TI TO i1 i2 : Addr} (D : ZipSep2 z TI TO i1 i2 [i1] [i2, b]) (hb2 : b ≠ i2) :
    Turn P w K (.Tuple elts kk tpos) (ItzsT K x b) [z, TI, TO, i1, i2] z (fun i h => IsZs h z TI TO .none ∧ IsTupOf2 h TI (.ref i1) (.ref i2) ∧ (∃ x y, IsTupOf2 h TO x y) ∧ h.IsStrIter i1 (strIterType x) x t i ∧ h.IsTupleIter i2 b i) where
  mem := by simp
  obj := fun i h st c hc => by
    obtain ⟨hz, hTI, ⟨x, y, hTO⟩, ⟨o1, e1, _, d1⟩, ⟨o2, e2, _, d2⟩⟩ := st
    have e' : c = z ∨ c = TI ∨ c = TO ∨ c = i1 ∨ c = i2 := by simpa using hc
    rcases e' with q | q | q | q | q
    · rw [q]; exact ⟨_, hz, fun v q => nomatch q⟩
    · rw [q]; exact ⟨_, hTI, fun v q => nomatch q⟩
    · rw [q]; exact ⟨_, hTO, fun v q => nomatch q⟩
    · rw [q]; exact ⟨o1, e1, fun v q => by rw [d1] at q; cases q⟩
    · rw [q]; exact ⟨o2, e2, fun v q => by rw [d2] at q; cases q⟩
  keep := fun i h h' st k => by
    obtain ⟨hz, hTI, ⟨x, y, hTO⟩, ⟨o1, h1, r1⟩, h2⟩ := st
    exact ⟨k z (by simp) _ hz, k TI (by simp) _ hTI, ⟨x, y, k TO (by simp) _ hTO⟩, ⟨o1, k i1 (by simp) o1 h1, r1⟩, h2.at fun o q => k i2 (by simp) o q⟩
  item := by
    intro X hP hw hK hc i pins s σ H E I hf st hg
    subst hP hw hK
    obtain ⟨hz, hTI, ⟨x0, y0, hTO⟩, h1, h2⟩ := st
    obtain ⟨ys, y, hix, hqy, hy⟩ := hg
    obtain ⟨its2, rv2, p2, _⟩ := I.tuple  hqy
    obtain ⟨u2, hu2, ru2⟩ := rv2.get hy
    have hh : X.A.in1.handled = none := I.ok.hd hc
    have hzl : z < s.heap.objs.size := Heap.lt_size hz
    have D1 := Draws.text (prog := X.prog) (w := X.w) hh i1 x t
    have D2 := Draws.tuple (prog := X.prog) (w := X.w) hh i2 b hb2 its2.toArray
    refine pyNext_item D D1 D2 hz hTI hTO h1 ⟨h2, p2⟩ hix (by have := (List.getElem?_eq_some_iff.mp hu2).1; simpa using this) fun x1 x2 h' tk P1 P2 z' TO' st1 st2 hT hsz hk => ?_
    obtain ⟨c, tu, hc1, rfl⟩ := P1
    have e2 : x2 = u2 := by
      have : its2[i]? = some x2 := by simpa using P2
      rw [hu2] at this
      exact (Option.some.inj this).symm
    subst e2
    refine ⟨_, rfl, go_zs (s := { s with heap := h', toks := tk }) z' fun h'' z'' sb => ?_⟩
    have hT2 : h''.get? s.heap.objs.size = some { cls := .type "tuple", data := .seq #[.str ⟨#[c]⟩ tu, x2] } := (sb.2 _ (Nat.ne_of_gt hzl)).trans hT
    have new : ObjOk X.prog X.w (upd H s.heap.objs.size (.tup [.str ⟨#[c]⟩, y])) h'' s.heap.objs.size (.tup [.str ⟨#[c]⟩, y]) :=
      ⟨by show 2 ≤ sizeLine; decide, [.str ⟨#[c]⟩ tu, x2], .cons ⟨_, rfl⟩ (.cons ru2 .nil), ⟨_, hT2, rfl, _, rfl⟩⟩
    have I1 : Inv X pins σ (upd H s.heap.objs.size (.tup [.str ⟨#[c]⟩, y])) { s with heap := h'', toks := tk } :=
      I.turnedNew (t' := tk) (ch := [z, TI, TO, i1, i2]) (fun c o hb q => (sb.2 c (fun q' => hb (by simp [q']))).trans (hk c o (fun q' => hb (by simp [q'])) (fun q' => hb (by simp [q'])) (fun q' => hb (by simp [q'])) (fun q' => hb (by simp [q'])) q)) hf (Nat.le_refl _) new
    have ziT : TI ≠ z := D.TIz
    refine ⟨.ref s.heap.objs.size, _, I1, rfl, ⟨_, c, y, rfl, I.hok.fresh (Nat.le_refl _), rfl, hc1, fun l hl => by rw [I.tuple_inj hl hqy]; exact hy⟩, ⟨z'', ?_, ⟨.str ⟨#[c]⟩ tu, x2, ?_⟩, ?_, ?_⟩, fun c hcm => ?_⟩
    · exact (sb.2 _ D.TIz).trans (hk _ _ D.TIz D.TITO D.TIi1 D.TIi2 hTI)
    · exact (sb.2 _ D.TOz).trans TO'
    · obtain ⟨o1, q1, r1⟩ := st1
      exact ⟨o1, (sb.2 _ (Ne.symm D.zi1)).trans q1, r1⟩
    · exact st2.1.at fun o q => (sb.2 _ (Ne.symm D.zi2)).trans q
    · have hlt : c < s.heap.objs.size := by
        have e' : c = z ∨ c = TI ∨ c = TO ∨ c = i1 ∨ c = i2 := by simpa using hcm
        rcases e' with q | q | q | q | q
        · rw [q]; exact hzl
        · rw [q]; exact Heap.lt_size hTI
        · rw [q]; exact Heap.lt_size hTO
        · rw [q]; obtain ⟨_, e1, _⟩ := h1; exact Heap.lt_size e1
        · rw [q]; obtain ⟨_, e2, _⟩ := h2; exact Heap.lt_size e2
      rw [upd_ne (Nat.ne_of_lt hlt)]
      exact (hf c hcm).1
  done := by
    intro X hP hw hK hc i pins s σ H E I hf st hg
    subst hP hw hK
    obtain ⟨hz, hTI, ⟨x0, y0, hTO⟩, h1, h2⟩ := st
    obtain ⟨ys, hqy, hl1, hl2⟩ := hg
    obtain ⟨its2, rv2, p2, _⟩ := I.tuple hqy
    have l2 := rv2.length
    have hh : X.A.handled = none := I.ok.hd hc
    have D1 := Draws.text (prog := X.prog) (w := X.w) (A := X.A.in1) hh i1 x t
    have D2 := Draws.tuple (prog := X.prog) (w := X.w) (A := X.A.in1) hh i2 b hb2 its2.toArray
    rw [hl2] at D1
    rw [show its2.toArray.size = i by simp; omega] at D2
    exact pyNext_end hh D D1 D2 hz hTI hTO h1 ⟨h2, p2⟩ fun h' tk hk => ⟨rfl, I.turnedL (t' := tk) (ch := [z, TI, TO, i1, i2]) (fun c o hb q =>
      hk c o (fun q' => hb (by simp [q'])) (fun q' => hb (by simp [q'])) (fun q' => hb (by simp [q'])) (fun q' => hb (by simp [q'])) q) hf⟩
  self := fun A i s Q E st h => pyIter_zs st.1 h
theorem zs_sep (I b : Nat) (h2 : b < I) : ZipSep2 (I + 4) (I + 2) (I + 3) I (I + 1) [I] [I + 1, b] := zip_sep2 (fun _ m => by cases m) (fun c m => by rw [List.mem_singleton] at m; subst m; exact h2)
def iZs (K : PySem.W.Frag) (ta : TA) : TI := fun σ H R => ta σ H fun vs H1 => ∃ x b ys, vs = [.str x, .ref b] ∧ ((SqL K H1 b ys ∧ R (ItzsL K x b) H1) ∨ (SqT K H1 b ys ∧ R (ItzsT K x b) H1))
theorem pi_zs {X : Cx} {e e2 : Expr} {ta : TA} {p pos tpos kpos kp : Pos} {j : Nat} {elts : List Expr} {kk : Nat} (hg : Gl X "zip") (hm : X.mg "zip" = none) (ha : PA X [e, e2] ta)
    (hs : starEach [e, e2] X.env = (false, eval e X.env) :: starEach [e2] X.env := by rfl) (hpl : (backTo pos (starEach [e, e2] X.env)).any (·.1) = false := by rfl)
    (hall : (backToKw pos (keywordEach [⟨some "strict", .Constant (.bool true) j kp, kpos⟩] X.env)).all (·.1.isSome) = true := by rfl) (hnone : (backToKw pos (keywordEach [⟨some "strict", .Constant (.bool true) j kp, kpos⟩] X.env)).any (·.1.isNone) = false := by rfl)
    (hks : (backToKw pos (keywordEach [⟨some "strict", .Constant (.bool true) j kp, kpos⟩] X.env)).filterMap (·.1) = [Str.ofString "strict"] := by rfl) :
    PI X (.Tuple elts kk tpos) (.Call (.Name "zip" p) [e, e2] [⟨some "strict", .Constant (.bool true) j kp, kpos⟩] pos) (iZs X.K ta) := by
  refine ⟨fun pins s σ H R I h => ?_⟩
  refine wpAny_Call_Name_kw (ld_blt I hg hm PyProof.Rows.boot_zip ?_)
  refine cw_typeK hall hnone hpl hs (thn (ha.run pos pins s σ H _ I h) fun us s0 ⟨vs, H1, I0, r1, q1⟩ => thn ((pk_cons (nm := some "strict") (kpos := kpos) (pe_bl (b := true) (pos := kp) (j := j)) pk_nil).run pos pins s0 σ H1 (fun zs H' => zs = [.bl true] ∧ H' = H1) I0 ⟨rfl, rfl⟩) fun ws s1 ⟨zs, H2, I1, r2, q2⟩ => ?_)
  obtain ⟨rfl, rfl⟩ := q2
  rw [hks]
  obtain ⟨w1, rfl, e1⟩ := vals1 r2
  obtain rfl : w1 = Value.bool true := e1
  obtain ⟨x, b, ys, ex, q1⟩ := q1
  subst ex
  cases r1 with
  | cons r rr =>
    cases rr with
    | cons r' rr =>
      cases rr
      obtain ⟨t, rfl⟩ := r
      cases r'
      have fresh5 : ∀ c, c ∈ [s1.heap.objs.size + 4, s1.heap.objs.size + 2, s1.heap.objs.size + 3, s1.heap.objs.size, s1.heap.objs.size + 1] → FpOk X pins H2 c := fun c hcm => by
        have e' : c = s1.heap.objs.size + 4 ∨ c = s1.heap.objs.size + 2 ∨ c = s1.heap.objs.size + 3 ∨ c = s1.heap.objs.size ∨ c = s1.heap.objs.size + 1 := by simpa using hcm
        have hle : s1.heap.objs.size ≤ c := by omega
        exact I1.fpOk hle (I1.hok.fresh hle)
      rcases q1 with ⟨hqy, q⟩ | ⟨hqy, q⟩
      · obtain ⟨its2, rv2, p2, _⟩ := I1.list hqy
        refine call_L p2.isList fun h' hz hTI hTO h1 h2 hsz hk => pyIter_zs hz ?_
        have I2 : Inv X pins σ H2 { s1 with heap := h' } := I1.kept (t' := s1.toks) hk
        have hlt := p2.lt
        exact ⟨s1.heap.objs.size + 4, [s1.heap.objs.size + 4, s1.heap.objs.size + 2, s1.heap.objs.size + 3, s1.heap.objs.size, s1.heap.objs.size + 1], _, _, H2, rfl, I2, turn_zsL (x := x) (t := t) (zs_sep s1.heap.objs.size b hlt) (Nat.ne_of_lt (Nat.lt_succ_of_lt hlt)), ⟨hz, hTI, ⟨_, _, hTO⟩, h1, h2⟩, fresh5, q⟩
      · obtain ⟨its2, rv2, p2, _⟩ := I1.tuple hqy
        obtain ⟨o2, ho2, _⟩ := id p2
        refine call_T (show s1.heap.IsTuple b its2.toArray from p2) fun h' hz hTI hTO h1 h2 hsz hk => pyIter_zs hz ?_
        have I2 : Inv X pins σ H2 { s1 with heap := h' } := I1.kept (t' := s1.toks) hk
        have hlt := Heap.lt_size ho2
        exact ⟨s1.heap.objs.size + 4, [s1.heap.objs.size + 4, s1.heap.objs.size + 2, s1.heap.objs.size + 3, s1.heap.objs.size, s1.heap.objs.size + 1], _, _, H2, rfl, I2, turn_zsT (x := x) (t := t) (zs_sep s1.heap.objs.size b hlt) (Nat.ne_of_lt (Nat.lt_succ_of_lt hlt)), ⟨hz, hTI, ⟨_, _, hTO⟩, h1, h2⟩, fresh5, q⟩
/-! as data -/
def zsD (z : Str) (ys : List Dt) : List Dt := List.zipWith (fun c b => .tup [.str ⟨#[c]⟩, b]) z.cps.toList ys
def zsO : List Dt → Option (List Dt)
  | [.str z, .lst ys] => if z.cps.toList.length = ys.length then some (zsD z ys) else none
  | [.str z, .tup ys] => if z.cps.toList.length = ys.length then some (zsD z ys) else none
  | _ => none
section
variable {K : PySem.W.Frag} {F : Hp} {b : Addr} {us : List V} {es : List Dt} {z : Str}
theorem zsD_len (hl : z.cps.toList.length = es.length) : (zsD z es).length = es.length := by simp [zsD] at hl ⊢; omega
theorem walkD_zsL (h2 : SqL K F b us) (r2 : Rps K F es us) (hl : z.cps.toList.length = es.length) : WalkD K F (ItzsL K z b) (zsD z es) where
  goes := fun i H hi s => by
    rw [zsD_len hl, r2.length] at hi
    exact ⟨us, us[i], by simp at hl; rw [hl, r2.length]; exact hi, s.seq h2, by simp [hi]⟩
  stops := fun H s => ⟨us, s.seq h2, by rw [zsD_len hl, r2.length], by rw [zsD_len hl]; simpa using hl⟩
  yields := fun i H x H' G hi s1 s2 y => by
    obtain ⟨T, c, y1, rfl, nT, rfl, e1, e2⟩ := y
    obtain ⟨e, k3, k4⟩ := r2.getV (e2 us ((s1.trans s2).seq h2))
    obtain ⟨G', g1, g2⟩ := pair_ok (d := .str ⟨#[c]⟩) s2 nT (.str _) (k4.mono s1)
    exact ⟨G', .tup [.str ⟨#[c]⟩, e], by simp [zsD, List.getElem?_zipWith, k3, e1], g1, g2⟩
theorem walkD_zsT (h2 : SqT K F b us) (r2 : Rps K F es us) (hl : z.cps.toList.length = es.length) : WalkD K F (ItzsT K z b) (zsD z es) where
  goes := fun i H hi s => by
    rw [zsD_len hl, r2.length] at hi
    exact ⟨us, us[i], by simp at hl; rw [hl, r2.length]; exact hi, same_sqT s h2, by simp [hi]⟩
  stops := fun H s => ⟨us, same_sqT s h2, by rw [zsD_len hl, r2.length], by rw [zsD_len hl]; simpa using hl⟩
  yields := fun i H x H' G hi s1 s2 y => by
    obtain ⟨T, c, y1, rfl, nT, rfl, e1, e2⟩ := y
    obtain ⟨e, k3, k4⟩ := r2.getV (e2 us (same_sqT (s1.trans s2) h2))
    obtain ⟨G', g1, g2⟩ := pair_ok (d := .str ⟨#[c]⟩) s2 nT (.str _) (k4.mono s1)
    exact ⟨G', .tup [.str ⟨#[c]⟩, e], by simp [zsD, List.getElem?_zipWith, k3, e1], g1, g2⟩
end
section
variable {X : Cx} {P : Pt} {Wx : WX} {pos p tpos kpos kp : Pos} {j : Nat} {elts : List Expr} {kk : Nat} {e e2 : Expr} {fa : FA}
theorem i_zs (hg : Gl X "zip") (hm : X.mg "zip" = none) (ha : PA X [e, e2] (LA X.K P Wx fa)) (hs : starEach [e, e2] X.env = (false, eval e X.env) :: starEach [e2] X.env := by rfl) (hpl : (backTo pos (starEach [e, e2] X.env)).any (·.1) = false := by rfl)
    (hall : (backToKw pos (keywordEach [⟨some "strict", .Constant (.bool true) j kp, kpos⟩] X.env)).all (·.1.isSome) = true := by rfl) (hnone : (backToKw pos (keywordEach [⟨some "strict", .Constant (.bool true) j kp, kpos⟩] X.env)).any (·.1.isNone) = false := by rfl)
    (hks : (backToKw pos (keywordEach [⟨some "strict", .Constant (.bool true) j kp, kpos⟩] X.env)).filterMap (·.1) = [Str.ofString "strict"] := by rfl) :
    PI X (.Tuple elts kk tpos) (.Call (.Name "zip" p) [e, e2] [⟨some "strict", .Constant (.bool true) j kp, kpos⟩] pos) (LI X.K P Wx (iArgs zsO fa)) :=
  PIm (pi_zs hg hm ha hs hpl hall hnone hks) fun σ H R h => LA.bindI h fun ds es F1 H1 vs rp sF e k => by
    match ds, rp, e with
    | [.str z, .lst ys], .cons (.str _) (.cons (.lst h2 r2) .nil), e =>
      unfold zsO at e
      simp only [] at e
      split at e
      · rename_i hl
        cases e
        exact ⟨_, _, _, rfl, .inl ⟨.inl (.inl (sF _ _ h2)), k _ (walkD_zsL (.inl (.inl h2)) r2 hl)⟩⟩
      · cases e
    | [.str z, .tup ys], .cons (.str _) (.cons (.tup h2 r2) .nil), e =>
      unfold zsO at e
      simp only [] at e
      split at e
      · rename_i hl
        cases e
        exact ⟨_, _, _, rfl, .inr ⟨same_sqT sF h2, k _ (walkD_zsT h2 r2 hl)⟩⟩
      · cases e
end
end DL
namespace DL
open PySem PySem.Spec PyProof.Rows L2 RZ
/-! ### methods of texts with one argument -/
def eMS (o : Str → Dt → Option Dt) (fa fb : FE) : FE := bindE fa fun d => match d with
  | .str a => bindE fb fun e => eV (o a e)
  | _ => fun _ => none
def MsD (K : PySem.W.Frag) (r : V → List V → Hp → VK → Prop) (o : Str → Dt → Option Dt) : Prop :=
  ∀ a e g, o a e = some g → ∀ (F H : Hp) (y : V) (Q : VK), Same F H → Rp K F e y → (∀ F' H' z, Grow F H F' H' → Rp K F' g z → Q z H') → r (.str a) [y] H Q
section
variable {X : Cx} {P : Pt} {Wx : WX} {pos apos : Pos} {o e : Expr} {fa fb : FE}
theorem LE_ms {r : V → List V → Hp → VK → Prop} {m : Str → Dt → Option Dt} (hr : MsD X.K r m) {σ : L2.St} {H : Hp} {Q : VK} (h : LE X.K P Wx (eMS m fa fb) σ H Q) : tM1 r (LE X.K P Wx fa) (LE X.K P Wx fb) σ H Q := by
  obtain ⟨F, ρ, rr, q⟩ := h
  refine LE.bind rr q fun d ρ1 F1 H1 x s1 r1 p1 q1 => ?_
  cases p1 with
  | str a =>
    refine ⟨⟨a, rfl⟩, LE.bind r1 q1 fun e ρ2 F2 H2 y s2 r2 p2 q2 => ?_⟩
    cases eo : m a e with
    | none => rw [eo] at q2; exact q2.elim
    | some g =>
      rw [eo] at q2
      exact hr a e g eo F2 H2 y Q r2.fh p2 fun F' H' z g' pz => q2 F' H' z g'.f (r2.grow g') pz
  | _ => exact q1.elim
theorem d_ms {id : String} {name : Str} {r : V → List V → Hp → VK → Prop} {m : Str → Dt → Option Dt} (slot : Slot "str" name id) (ty : typeOf (.builtin id) = pure (.type "method_descriptor")) (rule : MtR X id r) (hr : MsD X.K r m) (ha : PE X o (LE X.K P Wx fa)) (hb : PE X e (LE X.K P Wx fb))
    (hs : starEach [e] X.env = [(false, eval e X.env)] := by rfl) (hbase : attributeBase o name X.env (eval o X.env) = eval o X.env := by rfl) (hline : (apos.endLine == pos.line) = true := by rfl) :
    PE X (.Call (.Attribute o name apos) [e] [] pos) (LE X.K P Wx (eMS m fa fb)) := PEm (pe_m1 slot ty rule ha hb hs hbase hline) fun _ _ _ h => LE_ms hr h
end
def strsOf : List Dt → Option (List Str)
  | [] => some []
  | .str x :: ds => (match strsOf ds with
    | some ys => some (x :: ys)
    | none => none)
  | _ => none
theorem strsOf_ok {K : PySem.W.Frag} {F : Hp} : ∀ {ds : List Dt} {vs : List V} {ys : List Str}, Rps K F ds vs → strsOf ds = some ys → vs = ys.map V.str
  | _, _, _, .nil, e => by cases e; rfl
  | _, _, ys, .cons (.str x) r, e => by
    unfold strsOf at e
    split at e
    · rename_i zs hz
      cases e
      rw [strsOf_ok r hz]
      rfl
    · cases e
theorem strsOf_map (ys : List Str) : strsOf (ys.map Dt.str) = some ys := by
  induction ys with
  | nil => rfl
  | cons y ys ih => simp only [List.map_cons, strsOf, ih]
def mJoin (a : Str) (e : Dt) : Option Dt := match (match e with
  | .lst ds => strsOf ds
  | .tup ds => strsOf ds
  | _ => none) with
  | some ys => if (ys.map (·.length)).sum + ys.length * a.length ≤ 16777216 then some (.str (Txt.join a ys)) else none
  | none => none
def mPart (a : Str) : Dt → Option Dt
  | .str b => if (b.length == 0) = false ∧ a.length ≤ 100000 then some (.tup [.str (Txt.partition a b).1, .str (Txt.partition a b).2.1, .str (Txt.partition a b).2.2]) else none
  | _ => none
def mStarts (a : Str) : Dt → Option Dt
  | .str b => some (.bl (Txt.startswith a b))
  | _ => none
def mFind (a : Str) : Dt → Option Dt
  | .str b => some (.int (Txt.find a b))
  | _ => none
def mSplit (a : Str) : Dt → Option Dt
  | .str b => if (b.length == 0) = false ∧ a.length ≤ 100000 then some (.lst ((Txt.split a b).map .str)) else none
  | _ => none
section
variable {X : Cx}
theorem ms_join : MsD X.K (fun x xs H Q => ∃ a p, ∃ ys : List Str, x = .str a ∧ xs = [.ref p] ∧ (SqL X.K H p (ys.map V.str) ∨ SqT X.K H p (ys.map V.str)) ∧
    (ys.map (·.length)).sum + ys.length * a.length ≤ 16777216 ∧ Q (.str (Txt.join a ys)) H) mJoin := by
  intro a e g h F H y Q s he q
  unfold mJoin at h
  split at h
  · rename_i ys hy
    split at h
    · rename_i hz
      cases h
      cases he with
      | lst hq hr =>
        have := strsOf_ok hr hy
        subst this
        exact ⟨a, _, ys, rfl, rfl, .inl (.inl (.inl (s _ _ hq))), hz, q F H _ (Grow.refl s) (.str _)⟩
      | tup hq hr =>
        have := strsOf_ok hr hy
        subst this
        exact ⟨a, _, ys, rfl, rfl, .inr (same_sqT s hq), hz, q F H _ (Grow.refl s) (.str _)⟩
      | _ => cases hy
    · cases h
  · cases h
theorem ms_part : MsD X.K (fun x xs H Q => ∃ a b, x = .str a ∧ xs = [.str b] ∧ (b.length == 0) = false ∧ a.length ≤ sizeLine ∧
    ∀ p, H p = none → Q (.ref p) (upd H p (.tup [.str (Txt.partition a b).1, .str (Txt.partition a b).2.1, .str (Txt.partition a b).2.2]))) mPart := by
  intro a e g h F H y Q s he q
  cases he with
  | str b =>
    unfold mPart at h
    simp only [] at h
    split at h
    · rename_i hz
      cases h
      refine ⟨a, b, rfl, rfl, hz.1, sz1000 hz.2, fun p np => ?_⟩
      have gg := Grow.lay (o := .tup [.str (Txt.partition a b).1, .str (Txt.partition a b).2.1, .str (Txt.partition a b).2.2]) s np
      exact q _ _ _ gg (.tup (.inl (.inl upd_same)) (.cons (.str _) (.cons (.str _) (.cons (.str _) .nil))))
    · cases h
  | _ => cases h
theorem ms_starts : MsD X.K (fun x xs H Q => ∃ a b, x = .str a ∧ xs = [.str b] ∧ Q (.bl (Txt.startswith a b)) H) mStarts := by
  intro a e g h F H y Q s he q
  cases he with
  | str b => cases h; exact ⟨a, b, rfl, rfl, q F H _ (Grow.refl s) (.bl _)⟩
  | _ => cases h
theorem ms_find : MsD X.K (fun x xs H Q => ∃ a b, x = .str a ∧ xs = [.str b] ∧ Q (.int (Txt.find a b)) H) mFind := by
  intro a e g h F H y Q s he q
  cases he with
  | str b => cases h; exact ⟨a, b, rfl, rfl, q F H _ (Grow.refl s) (.int _)⟩
  | _ => cases h
theorem Rps.strs {K : PySem.W.Frag} {F : Hp} : ∀ ys : List Str, Rps K F (ys.map Dt.str) (ys.map V.str)
  | [] => .nil
  | y :: ys => .cons (.str y) (Rps.strs ys)
theorem ms_split : MsD X.K (fun x xs H Q => ∃ a b, x = .str a ∧ xs = [.str b] ∧ (b.length == 0) = false ∧ a.length + 2 ≤ sizeLine ∧ rNewStrs (Txt.split a b) H Q) mSplit := by
  intro a e g h F H y Q s he q
  cases he with
  | str b =>
    unfold mSplit at h
    simp only [] at h
    split at h
    · rename_i hz
      cases h
      refine ⟨a, b, rfl, rfl, hz.1, Nat.le_trans (Nat.add_le_add_right hz.2 2) (by decide), fun p np => ?_⟩
      have gg := Grow.lay (o := .lst ((Txt.split a b).map V.str)) s np
      exact q _ _ _ gg (.lst upd_same (Rps.strs _))
    · cases h
  | _ => cases h
end
/-! ### texts with parts put in -/
def dFmt : Dt → Option Dt
  | .str y => if y.length ≤ 100000 then some (.str y) else none
  | .int i => if i.natAbs.log2 < 1920 then some (.str (toString i)) else none
  | _ => none
def eJs : List FE → Str → FE
  | [], acc => eC (.str acc)
  | f :: fs, acc => bindE f fun d => match d with
    | .str y => if (acc ++ y).length ≤ 100000 then eJs fs (acc ++ y) else fun _ => none
    | _ => fun _ => none
inductive PJD (X : Cx) (P : Pt) (Wx : WX) : List Expr → List FE → Prop where
  | nil : PJD X P Wx [] []
  | cons {e : Expr} {f : FE} {es : List Expr} {fs : List FE} (h : PE X e (LE X.K P Wx f)) (r : PJD X P Wx es fs) : PJD X P Wx (e :: es) (f :: fs)
section
variable {X : Cx} {P : Pt} {Wx : WX} {pos : Pos} {e v1 v2 : Expr} {rest : List Expr} {fa : FE} {fs : List FE}
theorem d_fmt (he : PE X e (LE X.K P Wx fa)) : PE X (.FormattedValue e (-1) none pos) (LE X.K P Wx (eUn dFmt fa)) := PEm (pe_fmt he) fun σ H Q h => by
  obtain ⟨F, ρ, rr, q⟩ := h
  refine LE.bind rr q fun d ρ1 F1 H1 x s1 r1 p1 q1 => ?_
  cases p1 with
  | str y =>
    by_cases hl : y.length ≤ 100000
    · rw [show dFmt (.str y) = some (.str y) from if_pos hl] at q1
      exact .inl ⟨y, rfl, sz1000 hl, q1 F1 H1 _ (.refl _) r1 (.str _)⟩
    · rw [show dFmt (.str y) = none from if_neg hl] at q1
      exact q1.elim
  | int i =>
    by_cases hl : i.natAbs.log2 < 1920
    · rw [show dFmt (.int i) = some (.str (toString i)) from if_pos hl] at q1
      exact .inr ⟨i, rfl, hl, q1 F1 H1 _ (.refl _) r1 (.str _)⟩
    · rw [show dFmt (.int i) = none from if_neg hl] at q1
      exact q1.elim
  | _ => exact q1.elim
theorem PJD.pj {es : List Expr} (h : PJD X P Wx es fs) : PJ X es (fs.map fun f => LE X.K P Wx f) := by
  induction h with
  | nil => exact .nil
  | cons h _ ih => exact .cons h ih
theorem LE_js {σ : L2.St} {Q : VK} : ∀ (fs : List FE) (acc : Str) (F H : Hp) (ρ : Rho), Rel X.K P F H σ ρ → postE X.K P Wx σ F Q (eJs fs acc ρ) → tJs (fs.map fun f => LE X.K P Wx f) acc σ H fun out H1 => Q (.str out) H1
  | [], acc, F, H, ρ, r, q => q F H _ (.refl _) r (.str acc)
  | f :: fs, acc, F, H, ρ, r, q => by
    refine LE.bind r q fun d ρ1 F1 H1 x s1 r1 p1 q1 => ?_
    cases p1 with
    | str y =>
      simp only [] at q1
      split at q1
      · rename_i hl
        exact ⟨y, rfl, sz1000 hl, LE_js fs (acc ++ y) F1 H1 ρ1 r1 q1⟩
      · exact q1.elim
    | _ => exact q1.elim
theorem d_js (h : PJD X P Wx (v1 :: v2 :: rest) fs) : PE X (.JoinedStr (v1 :: v2 :: rest) pos) (LE X.K P Wx (eJs fs Str.empty)) := PEm (pe_joined h.pj) fun σ H Q q => by
  obtain ⟨F, ρ, r, q⟩ := q
  exact LE_js fs Str.empty F H ρ r q
theorem d_js1 (h : PE X e (LE X.K P Wx fa)) : PE X (.JoinedStr [e] pos) (LE X.K P Wx fa) := pe_joined1 h
end
/-! ### str(..) of texts too -/
def dStrA : List Dt → Option Dt
  | [.int i] => if i.natAbs.log2 < 1920 then some (.str (toString i)) else none
  | [.str a] => some (.str a)
  | _ => none
section
variable {X : Cx}
theorem call_strA : CallR X (.type "str") (fun xs H Q => (∃ i, xs = [.int i] ∧ i.natAbs.log2 < 1920 ∧ Q (.str (toString i)) H) ∨ ∃ a, xs = [.str a] ∧ Q (.str a) H) := CallR.or call_str_int SkE.call_str_str
theorem cd_strA : CallD X.K (fun xs H Q => (∃ i, xs = [.int i] ∧ i.natAbs.log2 < 1920 ∧ Q (.str (toString i)) H) ∨ ∃ a, xs = [.str a] ∧ Q (.str a) H) dStrA := by
  intro ds g h F H vs Q s hr q
  unfold dStrA at h
  split at h
  · split at h
    · rename_i hl
      cases h
      match vs, hr with
      | _, .cons (.int i) .nil => exact .inl ⟨i, rfl, hl, q F H _ (Grow.refl s) (.str _)⟩
    · cases h
  · cases h
    match vs, hr with
    | _, .cons (.str a) .nil => exact .inr ⟨a, rfl, q F H _ (Grow.refl s) (.str _)⟩
  · cases h
end
/-! ### wp -/
def wS (d : Dt) (Q : Str → Prop) : Prop := match d with
  | .str a => Q a
  | _ => False
theorem wS.mono {d : Dt} {Q Q' : Str → Prop} (h : wS d Q) (k : ∀ g, Q g → Q' g) : wS d Q' := by
  cases d with
  | str a => exact k a h
  | _ => exact h
theorem wS.ex {d : Dt} {Q : Str → Prop} (h : wS d Q) : ∃ a, d = .str a ∧ Q a := by
  cases d with
  | str a => exact ⟨a, rfl, h⟩
  | _ => exact h.elim
theorem ev_ms {m : Str → Dt → Option Dt} {fa fb : FE} {ρ : Rho} {Q : Dt → Rho → Prop} (h : EvE fa ρ fun d ρ1 => ∃ a, d = .str a ∧ EvE fb ρ1 fun e ρ2 => ∃ g, m a e = some g ∧ Q g ρ2) : EvE (eMS m fa fb) ρ Q := by
  obtain ⟨d, ρ1, e1, a, rfl, e, ρ2, e2, g, eg, q⟩ := h
  exact ⟨g, ρ2, by unfold eMS bindE; simp only [e1, e2, eg]; rfl, q⟩
instance p_ms {m : Str → Dt → Option Dt} {fa fb : FE} [WpE fa] [WpE fb] : WpE (eMS m fa fb) :=
  ⟨fun ρ Q => WpE.wp fa ρ fun d ρ1 => wS d fun a => WpE.wp fb ρ1 fun e ρ2 => wO (m a e) fun g => Q g ρ2,
    fun h => ev_ms ((WpE.ok h).imp fun _ _ h => by
      obtain ⟨a, rfl, h⟩ := h.ex
      exact ⟨a, rfl, (WpE.ok h).imp fun _ _ h => h.ex⟩), fun h k => WpE.mono h fun _ _ h => h.mono fun _ h => WpE.mono h fun _ _ h => h.mono fun _ h => k _ _ h⟩
instance p_js0 {acc : Str} : WpE (eJs [] acc) := ⟨fun ρ Q => Q (.str acc) ρ, ev_c, fun h k => k _ _ h⟩
def wL (acc : Str) (Q : Prop) : Prop := wC (Nat.ble acc.length 100000) Q
instance p_js1 {f : FE} {fs : List FE} {acc : Str} [WpE f] [∀ a, WpE (eJs fs a)] : WpE (eJs (f :: fs) acc) :=
  ⟨fun ρ Q => WpE.wp f ρ fun d ρ1 => wS d fun y => wC (Nat.ble (acc ++ y).length 100000) (WpE.wp (eJs fs (acc ++ y)) ρ1 Q),
    fun {ρ Q} h => by
      obtain ⟨d, ρ1, e1, h⟩ := WpE.ok h
      obtain ⟨y, hy, h⟩ := wS.ex h
      subst hy
      obtain ⟨hl, h⟩ := wC.ex h
      obtain ⟨g, ρ2, e2, q⟩ := WpE.ok h
      refine ⟨g, ρ2, ?_, q⟩
      show bindE f _ ρ = _
      unfold bindE
      simp only [e1]
      rw [if_pos (Nat.le_of_ble_eq_true hl)]
      exact e2, fun h k => WpE.mono h fun _ _ h => h.mono fun _ h => h.mono fun h => WpE.mono h k⟩
/-! ### tables of the module: looked into -/
def keyText : Value → Option Str
  | .str x _ => some x
  | _ => none
structure TabsAt (K : PySem.W.Frag) (w : World) (mg : Str → Option Value) (t : Str) (kvs : List (Str × Dt)) : Prop where
  ex : ∃ q es n, mg t = some (.ref q) ∧ K.lookup q = some ⟨.type "dict", none, .dict es n, #[]⟩ ∧ PySem.W.KeysLit w.params es.toList ∧ (q == sysModules) = false ∧ es.toList.map (fun e => keyText e.key) = kvs.map (fun kv => some kv.1) ∧ ∀ z e, (z, e) ∈ kvs → ∃ u v, PySem.W.nsIn K q z = some (some u) ∧ RelV v u ∧ ∀ F : Hp, Rp K F e v
def tabG (kvs : List (Str × Dt)) : Dt → Option Dt
  | .str z => some (match kvs.lookup z with
    | some e => e
    | none => .non)
  | _ => none
def tabI (kvs : List (Str × Dt)) : Dt → Option Dt
  | .str z => some (.bl (kvs.lookup z).isSome)
  | _ => none
def tabN (kvs : List (Str × Dt)) : Dt → Option Dt
  | .str z => some (.bl (!(kvs.lookup z).isSome))
  | _ => none
theorem find_none {es : List DictEntry} {z : Str} : ∀ {kvs : List (Str × Dt)}, es.map (fun e => keyText e.key) = kvs.map (fun kv => some kv.1) → kvs.lookup z = none → es.find? (fun d => Value.isStrOf z d.key) = none := by
  induction es with
  | nil => intro kvs _ _; rfl
  | cons e es ih =>
    intro kvs h hl
    cases kvs with
    | nil => simp at h
    | cons kv kvs =>
      simp only [List.map_cons, List.cons.injEq] at h
      obtain ⟨k, d⟩ := kv
      unfold List.lookup at hl
      split at hl
      · cases hl
      · rename_i hne
        rw [List.find?_cons]
        have : Value.isStrOf z e.key = false := by
          have hk := h.1
          cases hh : e.key with
          | str x t =>
            rw [hh] at hk
            have e1 : x = k := Option.some.inj hk
            subst e1
            show (x == z) = false
            have : (z == x) = false := hne
            rw [Bool.eq_false_iff] at this ⊢
            exact fun q => this (by rw [eq_of_beq q]; exact beq_self_eq_true _)
          | _ => rw [hh] at hk; cases hk
        rw [this]
        exact ih h.2 hl
section
variable {X : Cx} {P : Pt} {Wx : WX} {pos p apos : Pos} {t : Str} {kvs : List (Str × Dt)} {b : Expr} {fb : FE}
theorem TabsAt.find (T : TabsAt X.K X.w X.mg t kvs) : ∃ q, ∃ f : Str → Option Value, X.mg t = some (.ref q) ∧ (q == sysModules) = false ∧ (∀ {pins : List (Addr × Obj)} {σ : L2.St} {H : Hp} {s : Shared}, Inv X pins σ H s → s.heap.MapOf (strKind X.prog X.w) q f) ∧ ∀ z, (kvs.lookup z = none → f z = none) ∧ ∀ e, kvs.lookup z = some e → ∃ u v, f z = some u ∧ RelV v u ∧ ∀ F : Hp, Rp X.K F e v := by
  obtain ⟨q, es, n, m, hl, hk, hs, hm, he⟩ := T.ex
  refine ⟨q, _, m, hs, fun I => PySem.W.mapOf_K (prog := X.prog) (w := X.w) I.kIn hl hk, fun z => ⟨fun hz => ?_, fun e hz => ?_⟩⟩
  · unfold findBy
    obtain ⟨l⟩ := es
    rw [List.find?_toArray]
    rw [find_none hm hz]
    rfl
  · obtain ⟨u, v, e1, e2, e3⟩ := he z e (lookup_mem hz)
    exact ⟨u, v, PySem.W.find_K hl e1, e2, e3⟩
theorem TabsAt.get (T : TabsAt X.K X.w X.mg t kvs) (hg : Gl X t) (hb : PE X b (LE X.K P Wx fb)) (m : M1 X (.Name t p) "get" apos b pos) (hd : (t == ("__debug__" : Str)) = false := by decide) : PE X (.Call (.Attribute (.Name t p) "get" apos) [b] [] pos) (LE X.K P Wx (eUn (tabG kvs) fb)) := by
  obtain ⟨q, f, mq, hs, hf, hz⟩ := T.find
  refine ⟨fun pins s σ H Q I h => ?_⟩
  refine wpAny_Call_method m.base m.few m.line PySem.F.plainAttrs_dict PySem.F.slot_dict_get PySem.F.type_dict_get (thn ((pe_glob (v := .ref q) hg mq rfl hd (pos := p)).run pins s σ H (fun v H1 => v = .ref q ∧ H1 = H) I ⟨rfl, rfl⟩) fun u s1 ⟨x, H1, I1, rx, q1⟩ => ?_)
  obtain ⟨rfl, rfl⟩ := q1
  obtain rfl : u = Value.ref q := rx
  have hm1 := hf I1
  refine ⟨hm1.typeIs, fun b e => ?_, ?_⟩
  · cases e
    obtain ⟨ob, _, _, h1, h2, _⟩ := hm1
    exact ⟨ob, h1, h2.2.1⟩
  rw [m.trees]
  obtain ⟨F, ρ, rr, h⟩ := h
  refine Calls.callWith_builtin rfl (Calls.evalArgs_plain (Calls.spliced_cons (thn (hb.run pins s1 σ H1 (fun y H2 => ∃ z, y = .str z ∧ ∃ v, RelV v ((f z).getD .none) ∧ Q v H2) I1 ?_) fun iv s2 ⟨y, H2, I2, ry, z, ey, v, ev, q2⟩ => Calls.spliced_nil ?_)))
  · refine LE.bind rr h fun d ρ1 F1 H1 x s1 r1 p1 q1 => ?_
    cases p1 with
    | str z =>
      refine ⟨z, rfl, ?_⟩
      cases hk : kvs.lookup z with
      | none =>
        have e0 : tabG kvs (.str z) = some .non := by show some _ = _; rw [hk]
        rw [e0] at q1
        refine ⟨.non, ?_, q1 F1 H1 _ (.refl _) r1 .non⟩
        rw [(hz z).1 hk]
        rfl
      | some e =>
        have e0 : tabG kvs (.str z) = some e := by show some _ = _; rw [hk]
        rw [e0] at q1
        obtain ⟨u, v, e1, e2, e3⟩ := (hz z).2 e hk
        refine ⟨v, ?_, q1 F1 H1 v (.refl _) r1 (e3 F1)⟩
        rw [e1]
        exact e2
    | _ => exact q1.elim
  · subst ey
    obtain ⟨tk, rfl⟩ := ry
    exact call_meetsIn PySem.F.slot_dict_get (hf I2).typeIs PySem.F.entry_dict_get (PySem.F.args_dict_get_2 _ _) (meets_dict_get (strKind X.prog X.w) q (strKind_is X.prog X.w z tk) hs) ⟨f, hf I2, v, H2, I2.tok _, ev, q2⟩
theorem LE_tabB {f : Str → Option Value} {g : Bool → Bool} {o : Dt → Option Dt} (ho : ∀ z, o (.str z) = some (.bl (g (kvs.lookup z).isSome))) (ho2 : ∀ d, (∀ z, d ≠ .str z) → o d = none) (hz : ∀ z, (kvs.lookup z = none → f z = none) ∧ ∀ e, kvs.lookup z = some e → ∃ u v, f z = some u ∧ RelV v u ∧ ∀ F : Hp, Rp X.K F e v)
    {σ : L2.St} {H : Hp} {Q : VK} (h : LE X.K P Wx (eUn o fb) σ H Q) : LE X.K P Wx fb σ H fun y H2 => ∃ z, y = .str z ∧ Q (.bl (g (f z).isSome)) H2 := by
  obtain ⟨F, ρ, rr, h⟩ := h
  refine LE.bind rr h fun d ρ1 F1 H1 x s1 r1 p1 q1 => ?_
  cases p1 with
  | str z =>
    rw [ho] at q1
    refine ⟨z, rfl, ?_⟩
    have e : (f z).isSome = (kvs.lookup z).isSome := by
      cases hk : kvs.lookup z with
      | none => rw [(hz z).1 hk]; rfl
      | some e =>
        obtain ⟨u, v, e1, _⟩ := (hz z).2 e hk
        rw [e1]; rfl
    rw [e]
    exact q1 F1 H1 _ (.refl _) r1 (.bl _)
  | _ => rw [ho2 _ (by intro z e; cases e)] at q1; exact q1.elim
theorem TabsAt.pc (T : TabsAt X.K X.w X.mg t kvs) (hg : Gl X t) (hb : PE X b (LE X.K P Wx fb)) (hd : (t == ("__debug__" : Str)) = false := by decide) : PC X .In b (.Name t p) (LE X.K P Wx (eUn (tabI kvs) fb)) := by
  obtain ⟨q, f, mq, hs, hf, hz⟩ := T.find
  refine ⟨fun pins s σ H Q I h => ?_⟩
  refine thn (hb.run pins s σ H _ I (LE_tabB (g := fun b => b) (fun _ => rfl) (fun d hd => by cases d <;> first | rfl | exact absurd rfl (hd _)) hz h)) fun iv s1 ⟨y, H1, I1, ry, z, ey, q1⟩ => thn ((pe_glob (v := .ref q) hg mq rfl hd (pos := p)).run pins s1 σ H1 (fun v H2 => v = .ref q ∧ H2 = H1) I1 ⟨rfl, rfl⟩) fun u s2 ⟨x, H2, I2, rx, q2⟩ => ?_
  obtain ⟨rfl, rfl⟩ := q2
  obtain rfl : u = Value.ref q := rx
  subst ey
  obtain ⟨tk, rfl⟩ := ry
  exact wpAny_in_of (strKind_is X.prog X.w z tk) hs (hf I2) ⟨.bl _, H2, I2.tok _, rfl, q1⟩
theorem TabsAt.pcN (T : TabsAt X.K X.w X.mg t kvs) (hg : Gl X t) (hb : PE X b (LE X.K P Wx fb)) (hd : (t == ("__debug__" : Str)) = false := by decide) : PC X .NotIn b (.Name t p) (LE X.K P Wx (eUn (tabN kvs) fb)) := by
  obtain ⟨q, f, mq, hs, hf, hz⟩ := T.find
  refine ⟨fun pins s σ H Q I h => ?_⟩
  refine thn (hb.run pins s σ H _ I (LE_tabB (g := fun b => !b) (fun _ => rfl) (fun d hd => by cases d <;> first | rfl | exact absurd rfl (hd _)) hz h)) fun iv s1 ⟨y, H1, I1, ry, z, ey, q1⟩ => thn ((pe_glob (v := .ref q) hg mq rfl hd (pos := p)).run pins s1 σ H1 (fun v H2 => v = .ref q ∧ H2 = H1) I1 ⟨rfl, rfl⟩) fun u s2 ⟨x, H2, I2, rx, q2⟩ => ?_
  obtain ⟨rfl, rfl⟩ := q2
  obtain rfl : u = Value.ref q := rx
  subst ey
  obtain ⟨tk, rfl⟩ := ry
  exact wpAny_notIn_of (strKind_is X.prog X.w z tk) hs (hf I2) ⟨.bl _, H2, I2.tok _, rfl, q1⟩
theorem TabsAt.tab (T : TabsAt X.K X.w X.mg t kvs) : TabAt X.K X.w X.mg t kvs := by
  obtain ⟨q, es, n, m, hl, hk, hs, hm, he⟩ := T.ex
  refine ⟨q, m, fun z e me => ?_⟩
  obtain ⟨u, v, e1, e2, e3⟩ := he z e me
  exact ⟨v, ⟨es, n, u, hl, hk, e1, e2⟩, e3⟩
end
section
variable {K : PySem.W.Frag} {w : World} {h : Heap} {mg : Str → Option Value} {t : Str}
theorem tabs_mk {q : Addr} {es : Array DictEntry} {n : Nat} {kvs : List (Str × Dt)} (X : K.In h) (G : h.Ns mainGlobals mg) (a : PySem.W.nsIn K mainGlobals t = some (some (.ref q))) (l : K.lookup q = some ⟨.type "dict", none, .dict es n, #[]⟩)
    (hk : PySem.W.KeysLit w.params es.toList) (hs : (q == sysModules) = false) (hm : es.toList.map (fun e => keyText e.key) = kvs.map (fun kv => some kv.1)) (he : EntriesOk K q kvs) : TabsAt K w mg t kvs :=
  ⟨q, es, n, PySem.W.mg_of X G a, l, hk, hs, hm, fun z e m => he.mem m⟩
end
/-! ### own lists of texts: count -/
def eqs (k : Str) (v : Value) : Bool := match v with
  | .str n _ => n == k
  | _ => false
theorem eqs_at {A : Around} {s : Shared} {k : Str} {t : Tok} : ∀ {us : List Value} {ys : List Str}, Vals (ys.map V.str) us → ∀ y ∈ us, SeqAt.EqAt A s y (.str k t) (eqs k y)
  | _, [], .nil => fun y hy => by cases hy
  | _, n :: ys, .cons r h => fun y hy => by
    rcases List.mem_cons.mp hy with e | e
    · obtain ⟨t', rfl⟩ := r
      rw [e]
      exact SeqAt.EqAt.str_str n t' k t
    · exact eqs_at h y e
theorem eqs_count {k : Str} : ∀ {us : List Value} {ys : List Str}, Vals (ys.map V.str) us → us.countP (eqs k) = ys.count k
  | _, [], .nil => rfl
  | _, n :: ys, .cons r h => by
    obtain ⟨t, rfl⟩ := r
    have ih := eqs_count (k := k) h
    rw [List.countP_cons, List.count_cons, ih] <;> rfl
def rCnt (K : PySem.W.Frag) : V → List V → Hp → VK → Prop := fun x xs H Q => ∃ (p : Addr) (ys : List Str) (k : Str), x = .ref p ∧ xs = [.str k] ∧ SqL K H p (ys.map V.str) ∧ Q (.int (ys.count k : Nat)) H
section
variable {X : Cx} {P : Pt} {Wx : WX} {pos' apos cpos : Pos} {e : Expr} {fb : FE}
theorem mt_cntS : MtR X "list.count" (rCnt X.K) := by
  intro pins s σ H x xs v us Q I rx rxs h
  obtain ⟨p, ys, k, rfl, rfl, hs, q⟩ := h
  cases rx
  obtain ⟨u, rfl, t, rfl⟩ := vals1 rxs
  obtain ⟨its, rv, ⟨⟨cls, dd, data, sl⟩, n, ho, hc, hdn, hd⟩, hlen⟩ := I.list hs
  simp only at hc hd
  subst hc hd
  refine call_meets PySem.F.slot_list_count ⟨_, ho, rfl⟩ PySem.F.entry_list_count (PySem.F.args_list_count_2 _ _)
    (SeqAt.list_countAt p its.toArray n dd sl (.str k t) (eqs k)) ⟨ho, fun y hy => eqs_at rv y (by simpa using hy), ?_⟩
  have ec : its.toArray.toList.countP (eqs k) = ys.count k := eqs_count rv
  refine ⟨.int (ys.count k : Nat), H, I.tok _, ⟨s.toks, ?_⟩, q⟩
  show Value.int ((its.toArray.toList.countP (eqs k) : Nat) : Int) s.toks = Value.int ((ys.count k : Nat) : Int) s.toks
  rw [ec]
def cntD : Dt → Dt → Option Dt
  | .lst ds, .str k => (match strsOf ds with
    | some ys => some (.int (ys.count k : Nat))
    | none => none)
  | _, _ => none
def isLst : Dt → Bool
  | .lst _ => true
  | _ => false
def eCnt (j : Nat) (fb : FE) : FE := withV j fun d0 => if isLst d0 = true then bindE fb fun e => withV j fun d => eF (cntD d e) else fun _ => none
theorem d_cnt (j : Nat) {x : Str} (hb : PE X e (LE X.K P Wx fb)) (hN : X.N[j]? = some x := by rfl) (hv : Vis X.env.scope x := by first | exact Or.inl rfl | exact Or.inr (Or.inl rfl) | exact Or.inr (Or.inr rfl)) (hd : (x == ("__debug__" : Str)) = false := by decide)
    (hcd : (x == ("__classdict__" : Str)) = false := by decide)
    (hbase : attributeBase (.Name x pos') "count" X.env (eval (.Name x pos') X.env) = eval (.Name x pos') X.env := by rfl)
    (hfew : ((backTo cpos (starEach (e :: []) X.env)).all (fun x => !x.1) && (backToKw cpos (keywordEach [] X.env)).all (fun x => x.1.isSome)
      && decide ((e :: []).length + ([] : List Keyword).length + (if ([] : List Keyword).isEmpty then 0 else 1) < 30)) = true := by rfl)
    (hline : (apos.endLine == cpos.line) = true := by rfl) (hs : starEach (e :: []) X.env = (false, eval e X.env) :: starEach [] X.env := by rfl) (hplain : (backTo cpos (starEach [] X.env)).any (·.1) = false := by rfl) :
    PE X (.Call (.Attribute (.Name x pos') "count" apos) [e] [] cpos) (LE X.K P Wx (eCnt j fb)) :=
  PEm (pe_bm PySem.F.plainAttrs_list PySem.F.slot_list_count PySem.F.type_list_count mt_cntS (pe_var hN hv hd hcd) (pa_cons hb pa_nil hs) hbase hfew hline hs hplain) fun σ H Q h => by
  obtain ⟨F, ρ, rr, q⟩ := h
  obtain ⟨d0, e0, q⟩ := withV_some (p := postE X.K P Wx σ F Q) q (fun z => z)
  obtain ⟨v, F0, ev, _, sf, p0⟩ := rr.peek e0
  split at q
  · rename_i hl
    refine ⟨v, ev, ?_, ?_⟩
    · cases p0 with
      | lst hq hr => exact .inl ⟨rfl, _, .inl (.inl (sf _ _ hq))⟩
      | _ => cases hl
    · refine LE.bind rr q fun e ρ1 F1 H1 y s1 r1 p1 q1 => ?_
      obtain ⟨d, e1, q1⟩ := withV_some (p := postE X.K P Wx σ F1 Q) q1 (fun z => z)
      obtain ⟨v', F2, ev', s2, s3, pd⟩ := r1.peek e1
      rw [ev] at ev'
      cases ev'
      obtain ⟨g, e2, fl, q1⟩ := eF_some q1
      cases pd with
      | lst hq hr =>
        cases p1 with
        | str k =>
          unfold cntD at e2
          simp only [] at e2
          split at e2
          · rename_i ys hy
            cases e2
            have := strsOf_ok hr hy
            subst this
            exact ⟨_, ys, k, rfl, rfl, .inl (.inl (s3 _ _ hq)), q1 F1 H1 _ (.refl _) r1 (.int _)⟩
          · cases e2
        | _ => cases e2
      | _ => cases e2
  · exact q.elim
end
theorem ev_cnt {j : Nat} {fb : FE} {ρ : Rho} {Q : Dt → Rho → Prop} {d0 : Dt} (e0 : slotD ρ[j]? = some d0) (hl : isLst d0 = true) (h : EvE fb ρ fun e ρ1 => ∃ d g, slotD ρ1[j]? = some d ∧ cntD d e = some g ∧ flatD g = true ∧ Q g ρ1) : EvE (eCnt j fb) ρ Q := by
  refine ev_withV e0 ?_
  rw [if_pos hl]
  refine ev_bind ?_
  obtain ⟨x, ρ1, e1, d, g, a, b, c, q⟩ := h
  exact ⟨x, ρ1, e1, ev_withV a (ev_F b c q)⟩
instance p_cnt {j : Nat} {fb : FE} [WpE fb] : WpE (eCnt j fb) :=
  ⟨fun ρ Q => wO (slotD ρ[j]?) fun d0 => wC (isLst d0) (WpE.wp fb ρ fun e ρ1 => wO (slotD ρ1[j]?) fun d => wO (cntD d e) fun g => wC (flatD g) (Q g ρ1)), fun h => by
    obtain ⟨d0, e0, h⟩ := h.ex
    obtain ⟨hl, h⟩ := h.ex
    exact ev_cnt e0 hl ((WpE.ok h).imp fun _ _ h => by
      obtain ⟨d, e1, h⟩ := h.ex
      obtain ⟨g, e2, h⟩ := h.ex
      obtain ⟨fl, h⟩ := h.ex
      exact ⟨d, g, e1, e2, fl, h⟩), fun h k => h.mono fun _ h => h.mono fun h => WpE.mono h fun _ _ h => h.mono fun _ h => h.mono fun _ h => h.mono fun h => k _ _ h⟩
end DL
namespace DL
open PySem PySem.Spec PyProof.Rows L2 RZ
/-! ### what is never come to -/
def sNone : FS := fun _ => none
theorem s_none {X : Cx} {P : Pt} {Wx : WX} {st : Stmt} : PS X st (LS X.K P Wx sNone) := ⟨fun pins s σ H D I h => by
  obtain ⟨F, ρ, r, q⟩ := h
  exact q.elim⟩
instance p_none : WpS sNone := ⟨fun _ _ _ => False, fun h => h.elim, fun h _ _ => h⟩
/-! ### x += e, ints -/
def sAugI (i : Nat) (f : FE) : FS := fun ρ => match ρ[i]? with
  | some (some (.sh (.int a))) => bindES f (fun d ρ1 => match d with
    | .int b => some (.nx, ρ1.set i (some (.sh (.int (a + b)))))
    | _ => none) ρ
  | _ => none
section
variable {X : Cx} {P : Pt} {Wx : WX} {pos pos' : Pos} {e : Expr} {fe : FE}
theorem s_augI (i : Nat) {x : Str} (hi' : i ∉ P.bs) (he : PE X e (LE X.K P Wx fe)) (hN : X.N.Nodup) (hx : Loc X.env.scope x) (hi : X.N[i]? = some x := by rfl)
    (hf : X.fn x = true ∨ X.env.scope.names.lookup x = some .local := by first | exact .inl rfl | exact .inr rfl | assumption) : PS X (.AugAssign (.Name x pos') .Add e pos) (LS X.K P Wx (sAugI i fe)) :=
  PSm (ps_aug hN hi hx he ip_add hf) fun D σ H h => by
  obtain ⟨F, ρ, r, q⟩ := h
  unfold sAugI at q
  split at q
  · rename_i a e0
    obtain ⟨v, ev, hv⟩ := r.slot i _ e0
    cases (show Rp X.K F (.int a) v from hv)
    refine ⟨_, ev, ?_⟩
    refine LE.bindS r q fun d ρ1 F1 H1 y s1 r1 p1 q1 => ?_
    cases p1 with
    | int b => exact ⟨a, b, rfl, rfl, q1 F1 H1 _ (.refl _) (r1.asg (w := .sh (.int (a + b))) hi' (.int _))⟩
    | _ => exact q1.elim
  · exact q.elim
end
def wSI (o : Option (Option Wt)) (Q : Int → Prop) : Prop := match o with
  | some (some (.sh (.int a))) => Q a
  | _ => False
theorem wSI.ex {o : Option (Option Wt)} {Q : Int → Prop} (h : wSI o Q) : ∃ a, o = some (some (.sh (.int a))) ∧ Q a := by
  unfold wSI at h
  split at h
  · rename_i a; exact ⟨a, rfl, h⟩
  · exact h.elim
instance p_augI {i : Nat} {f : FE} [WpE f] : WpS (sAugI i f) :=
  ⟨fun ρ N _ => wSI ρ[i]? fun a => WpE.wp f ρ fun d ρ1 => wI d fun b => fL (ρ1.set i (some (.sh (.int (a + b))))) N, fun {ρ N R} h => by
    obtain ⟨a, e0, h⟩ := wSI.ex h
    obtain ⟨d, ρ1, e1, h⟩ := WpE.ok h
    obtain ⟨b, hb, h⟩ := wI.ex h
    subst hb
    exact .inl ⟨_, by unfold sAugI bindES; simp only [e0, e1], fL_ok _ _ h⟩, fun {ρ N N' R R'} h k k2 => by
    obtain ⟨a, e0, h⟩ := wSI.ex h
    show wSI ρ[i]? _
    rw [e0]
    exact WpE.mono h fun _ _ h => h.mono fun _ h => h.mono fun _ h => k _ h⟩
end DL
namespace Lw
open PySem PySem.Spec PyProof.Rows L2 RZ DL
def tb_NOTES : List (Str × Dt) := [("none", (.str "")), ("pay", (.str "dv")), ("now", (.str "v")), ("both", (.str "nn")), ("times", (.str "an")), ("turn", (.str "n")), ("till", (.str "sann")), ("may", (.str "moddnn")), ("seen", (.str "wdaq")), ("use", (.str "m"))]
def tb_VALUES : List (Str × Dt) := [("price", (.str "")), ("coin", (.str "a")), ("of", (.str "av")), ("plus", (.str "vv")), ("minus", (.str "vv")), ("best", (.str "vv")), ("least", (.str "vv"))]
end Lw
namespace Lw
open PySem PySem.Spec PyProof.Rows L2 RZ DL
local macro_rules | `(tactic| walk_at "sm") => `(tactic| first | assumption | exact sm_of (k := 200) (by omega) (by decide) | exact sm_of (k := 200) (by decide) (by decide))
local macro_rules | `(tactic| walk_at "ev3") => `(tactic| first
  | (with_reducible first
    | refine es_seq ?_ | refine es_asg ?_ | refine es_ret ?_ | refine es_if ?_ | refine es_par ?_ | refine es_put ?_ | refine es_nx ?_ | refine es_drop ?_ | refine es_asgT ?_
    | refine ew_sh ?_ | refine ev_frz ?_ | refine ew_lst ?_ | refine ew_call ?_ | refine ew_ite ?_ | refine ew_lc ?_ | refine ev_op ?_ | refine ev_un ?_ | refine ev_not ?_ | refine ev_and ?_ | refine ev_or ?_ | refine ev_ite ?_ | refine ev_chain ?_
    | refine ea_nil ?_ | refine ea_val ?_ | refine ea_tmp ?_ | refine ew_cat ?_ | refine ev_tup ?_ | refine ev_cb ?_ | refine ev_c ?_ | refine ev_sl00 ?_ | refine ev_sl01 ?_ | refine ev_sl10 ?_ | refine ev_sl11 ?_ | refine ei_args ?_ | refine ei_seq ?_ | refine es_for ?_ | refine es_while ?_ | refine ev_opR ?_
    | refine ex_add ?_ | refine ex_sub ?_ | refine ex_lt ?_ | refine ex_le ?_ | refine ex_gt ?_ | refine ex_ge ?_ | refine ex_eqI ?_ | refine ex_neI ?_ | refine ex_eqS ?_ | refine ex_neS ?_ | refine ex_eqB ?_ | refine ex_neB ?_ | refine ex_neg ?_)
  | ((with_reducible refine nrm_eq (ρ' := ?r) ?e ?_); (case e => (try dsimp only [List.set_cons_zero, List.set_cons_succ, putBack, slotsOf, wipeR, restR, keepSh, List.map_cons, List.map_nil, List.cons_append, List.nil_append, List.append_nil, List.length_cons, List.length_nil, Nat.reduceAdd, Nat.reduceSub, List.replicate, List.getElem?_cons_zero, List.getElem?_cons_succ, frz, startW]); exact rfl))
  | refine ev_var rfl ?_ | refine ev_varO rfl ?_ | refine ew_var rfl ?_ | refine ew_varO rfl ?_ | refine ea_slot rfl ?_ | refine ev_ixV rfl ?_ | refine es_app rfl ?_ | refine es_ext rfl ?_ | refine ev_opL rfl ?_ | refine ev_cbV rfl rfl rfl ?_
  | (with_reducible refine ex_mod ?_ ?_; first | decide | omega | assumption)
  | (with_reducible refine ex_fdiv ?_ ?_; refine Sm.div ?_ ?_; walk_at "sm"; first | decide | omega | assumption)
  | (with_reducible refine ex_mul ?_ ?_; refine Sm.mul ?_ ?_; walk_at "sm"; walk_at "sm")
  | ((with_reducible show Exists _); (fail_if_success (with_reducible show ∃ g, dMul _ _ = some g ∧ _)); (fail_if_success (with_reducible show ∃ g, dFdiv _ _ = some g ∧ _)); (fail_if_success (with_reducible show ∃ g, dMod _ _ = some g ∧ _)); (fail_if_success (with_reducible show ∃ g, dNe _ _ = some g ∧ _)); (fail_if_success (with_reducible show ∃ g, dEq _ _ = some g ∧ _));
     first | refine ⟨_, rfl, Nat.le_of_ble_eq_true rfl, ?_⟩ | refine ⟨_, rfl, rfl, List.nodup_nil, ?_⟩ | refine ⟨_, rfl, rfl, nodup1, ?_⟩ | refine ⟨_, rfl, rfl, nodup2 (by decide), ?_⟩ | refine ⟨_, rfl, ?_⟩ | refine ⟨_, _, rfl, rfl, ?_⟩ | refine ⟨_, _, rfl, ?_⟩ | refine ⟨_, _, _, rfl, rfl, rfl, ?_⟩))
def slotN (ρ : Rho) (i : Nat) : Nat := match ρ[i]? with
  | some (some (.sh (.int n))) => n.natAbs
  | _ => 0
theorem mod_bd {a b : Int} (h : 0 < b) : 0 ≤ a.fmod b ∧ a.fmod b < b := by
  rw [mod_pos h]
  exact ⟨Int.emod_nonneg _ (by omega), Int.emod_lt_of_pos _ h⟩
/-- the box of draws -/
def BoxOk (xs : List Dt) : Prop := ∃ (ns : List Int) (i b s : Int), xs = [.lst (ns.map .int), .int i, .int b, .int s] ∧ ns.length ≤ 63 ∧ 0 ≤ i ∧ i ≤ ns.length ∧ 0 ≤ b ∧ 0 ≤ s ∧ s < 2147482951
theorem abs_eq (i : Int) : (if i < 0 then -i else i) = (i.natAbs : Int) := by
  split <;> omega
abbrev amt (p : Int × Int) : Dt := .tup [.int p.1, .int p.2]
def lowL (n d : Int) : Int × Int := (n.fdiv (Int.gcd n d), d.fdiv (Int.gcd n d))
def lowI (a b : Int) : Int × Int := if b < 0 then (a.fdiv (-(Int.gcd a b : Int)), b.fdiv (-(Int.gcd a b : Int))) else lowL a b
theorem gcd_pos {a b : Int} (h : b ≠ 0) : 0 < (Int.gcd a b : Int) := by
  have := Int.gcd_pos_of_ne_zero_right a h
  omega
theorem gcd_le {a b : Int} (h : b ≠ 0) : Int.gcd a b ≤ b.natAbs := Nat.le_of_dvd (by omega) (Int.gcd_dvd_natAbs_right a b)
theorem sm_gcd {a b : Int} (h : b ≠ 0) (hs : Sm b) : Sm (Int.gcd a b : Int) := by
  unfold Sm
  exact Nat.lt_of_le_of_lt (by have := gcd_le (a := a) h; omega) hs
theorem sm_neg {a : Int} (h : Sm a) : Sm (-a) := by unfold Sm; rw [Int.natAbs_neg]; exact h
def lessI (p q : Int × Int) : Bool := decide (p.1 * q.2 < q.1 * p.2)
structure SmA (p : Int × Int) : Prop where
  o : Sm p.1
  u : Sm p.2
/-- an amount in lowest terms -/
structure Am (p : Int × Int) : Prop where
  pos : 0 < p.2
  low : Int.gcd p.1 p.2 = 1
theorem fdiv_exact {a b g : Int} (hg : 0 < g) (h : a = g * b) : a.fdiv g = b := by
  rw [div_pos hg, h]
  exact Int.mul_ediv_cancel_left b (by omega)
theorem lowL_ex {n d : Int} (h : d ≠ 0) : ∃ (g : Nat) (a b : Int), 0 < g ∧ n = g * a ∧ d = g * b ∧ Int.gcd a b = 1 ∧ lowL n d = (a, b) := by
  have hg := gcd_pos (a := n) h
  have hg0 : 0 < Int.gcd n d := by omega
  obtain ⟨a, ha⟩ := Int.gcd_dvd_left n d
  obtain ⟨b, hb⟩ := Int.gcd_dvd_right n d
  refine ⟨Int.gcd n d, a, b, hg0, ha, hb, ?_, ?_⟩
  · have e : Int.gcd n d = Int.gcd ((Int.gcd n d : Int) * a) ((Int.gcd n d : Int) * b) := by rw [← ha, ← hb]
    rw [Int.gcd_mul_left, Int.natAbs_natCast] at e
    have : Int.gcd n d * 1 = Int.gcd n d * Int.gcd a b := by omega
    exact (Nat.eq_of_mul_eq_mul_left hg0 this).symm
  · unfold lowL
    rw [fdiv_exact hg ha, fdiv_exact hg hb]
theorem lowL_ok {n d : Int} (h : 0 < d) : Am (lowL n d) ∧ (lowL n d).2 ≤ d ∧ (lowL n d).1.natAbs ≤ n.natAbs ∧ n * (lowL n d).2 = (lowL n d).1 * d := by
  obtain ⟨g, a, b, hg, ha, hb, hc, e⟩ := lowL_ex (n := n) (d := d) (by omega)
  rw [e]
  have hb0 : 0 < b := by
    rcases Int.lt_or_le 0 b with h1 | h1
    · exact h1
    · have : (g : Int) * b ≤ 0 := Int.mul_nonpos_of_nonneg_of_nonpos (by omega) h1
      omega
  refine ⟨⟨hb0, hc⟩, ?_, ?_, ?_⟩
  · show b ≤ d
    rw [hb]
    have := Int.mul_le_mul_of_nonneg_right (show (1 : Int) ≤ g by omega) (show 0 ≤ b by omega)
    omega
  · show a.natAbs ≤ n.natAbs
    rw [ha, Int.natAbs_mul, Int.natAbs_natCast]
    exact Nat.le_mul_of_pos_left _ hg
  · show n * b = a * d
    rw [ha, hb]
    ac_rfl
theorem gcd_neg_l (a b : Int) : Int.gcd (-a) b = Int.gcd a b := by rw [Int.neg_gcd]
theorem lowI_neg {a b : Int} (h : 0 < b) : lowI a (-b) = lowL (-a) b := by
  unfold lowI lowL
  rw [if_pos (by omega), Int.gcd_neg, Int.neg_gcd]
  have hg := gcd_pos (a := a) (b := b) (by omega)
  congr 1
  · rw [← Int.neg_fdiv_neg, Int.neg_neg]
  · rw [Int.neg_fdiv_neg]
theorem lowI_pos {a b : Int} (h : 0 < b) : lowI a b = lowL a b := by
  unfold lowI
  rw [if_neg (by omega)]
theorem ix_den {i r : Int} {Q : Dt → Prop} (hi : 0 ≤ i) (h6 : i < 6) (hr : 0 ≤ r) (hr9 : r < 9) (q : ∀ d, 1 ≤ d → d ≤ 9 → Q (.int d)) : ∃ g, dIx (.lst [.int 1, .int 1, .int 1, .int 2, .int 3, .int (1 + r)]) (.int i) = some g ∧ Q g := by
  have : i = 0 ∨ i = 1 ∨ i = 2 ∨ i = 3 ∨ i = 4 ∨ i = 5 := by omega
  rcases this with rfl | rfl | rfl | rfl | rfl | rfl
  · exact ⟨_, rfl, q 1 (by omega) (by omega)⟩
  · exact ⟨_, rfl, q 1 (by omega) (by omega)⟩
  · exact ⟨_, rfl, q 1 (by omega) (by omega)⟩
  · exact ⟨_, rfl, q 2 (by omega) (by omega)⟩
  · exact ⟨_, rfl, q 3 (by omega) (by omega)⟩
  · exact ⟨_, rfl, q (1 + r) (by omega) (by omega)⟩
theorem sm_nat {a : Int} (h : a.natAbs < 2 ^ 200) : Sm a := sm_of h (by decide)
theorem nat3000 {a : Nat} (h : a < 2 ^ 200) : a < 2 ^ 3000 := Nat.lt_of_lt_of_le h (Nat.pow_le_pow_right (by decide) (by decide))
theorem am_sm {p : Int × Int} (h : p.1.natAbs < 2 ^ 200) (h2 : p.2.natAbs < 2 ^ 200) : SmA p := ⟨sm_nat h, sm_nat h2⟩
end Lw
namespace Lw
open PySem PySem.Spec PyProof.Rows L2 RZ DL
local macro_rules | `(tactic| walk_at "sm") => `(tactic| first | assumption | exact sm_of (k := 200) (by omega) (by decide) | exact sm_of (k := 200) (by decide) (by decide))
local macro_rules | `(tactic| walk_at "w1") => `(tactic| ((conv => whnf); (try refine At.mk ?_)))
local macro_rules | `(tactic| walk_at "wa") => `(tactic| first
  | refine wox (ex_mul (Sm.mul (by walk_at "sm") (by walk_at "sm")) ?_)
  | refine wox (ex_mod (by first | decide | omega | assumption) ?_)
  | refine wox (ex_fdiv (Sm.div (by walk_at "sm") (by first | decide | omega | assumption)) ?_))
local macro_rules | `(tactic| walk_at "w") => `(tactic| ((first | refine nrm_go ?_ | refine WpS.ok ?_ | refine WpE.ok ?_ | skip); walk_at "w1"))
local macro_rules | `(tactic| walk_at "wm") => `(tactic| (walk_at "w"; (repeat (walk_at "wa"; walk_at "w1"))))
def b__law_box : FS :=
  (sRet (wLst (aVal (eCB dListOf (aVal (eSl (eVar 0) none (some (eC (.int 63)))) aNil)) (aVal (eC (.int 0)) (aVal (eC (.int 0)) (aVal (eOp dAdd (eC (.int 4019)) (eOp dMul (eC (.int 57)) (eCB dLen (aVal (eSl (eVar 0) none (some (eC (.int 63)))) aNil)))) aNil))))))
abbrev f__law_box : FnD := callF 1 [] b__law_box
def b__law_take : FS :=
  (sSeq (sIf (eAnd (eOp dEq (eIxV 0 (eC (.int 2))) (eC (.int 0))) (eOp dLt (eIxV 0 (eC (.int 1))) (eCB dLen (aVal (eIxV 0 (eC (.int 0))) aNil)))) (sSeq (sAsg 2 (wSh (eOp dIx (eIxV 0 (eC (.int 0))) (eIxV 0 (eC (.int 1))))))
    (sSeq (sPut 0 (eC (.int 1)) (eOp dAdd (eIxV 0 (eC (.int 1))) (eC (.int 1))))
    (sIf (eOp dGe (eVar 2) (eOp dPow (eC (.int 10)) (eC (.int 18)))) (sPut 0 (eC (.int 2)) (eVar 2)) (sSeq (sAsg 3 (wSh (eOp dAdd (eOp dMul (eIxV 0 (eC (.int 3))) (eC (.int 69069))) (eOp dMul (eIxV 0 (eC (.int 1))) (eC (.int 1299721))))))
    (sPut 0 (eC (.int 3)) (eOp dMod (eOp dAdd (eVar 3) (eOp dMul (eOp dMod (eVar 2) (eC (.int 2147483587))) (eC (.int 7)))) (eC (.int 2147482951)))))))) sNx)
    (sSeq (sIf (eOp dGt (eIxV 0 (eC (.int 2))) (eC (.int 0))) (sSeq (sAsg 4 (wSh (eOp dMod (eIxV 0 (eC (.int 2))) (eVar 1))))
    (sSeq (sPut 0 (eC (.int 2)) (eOp dFdiv (eIxV 0 (eC (.int 2))) (eVar 1)))
    (sRet (wVar 4)))) sNx)
    (sSeq (sAsg 3 (wSh (eOp dAdd (eOp dAdd (eOp dMul (eIxV 0 (eC (.int 3))) (eIxV 0 (eC (.int 3)))) (eOp dMul (eIxV 0 (eC (.int 3))) (eC (.int 30269)))) (eC (.int 7919)))))
    (sSeq (sPut 0 (eC (.int 3)) (eOp dMod (eOp dAdd (eVar 3) (eOp dMul (eIxV 0 (eC (.int 1))) (eC (.int 101)))) (eC (.int 2147482951))))
    (sRet (wSh (eOp dMod (eOp dAdd (eOp dFdiv (eIxV 0 (eC (.int 3))) (eC (.int 11))) (eOp dMul (eOp dMod (eIxV 0 (eC (.int 3))) (eC (.int 9973))) (eC (.int 53)))) (eVar 1))))))))
abbrev f__law_take : FnD := callF 5 [0] b__law_take
theorem take_ev {xs : List Dt} {m : Int} (hx : BoxOk xs) (h0 : 0 < m) (hs : Sm m) {Q : Wt → List (List Dt) → Prop} (q : ∀ r ys, 0 ≤ r → r < m → BoxOk ys → Q (.sh (.int r)) [ys]) : EvF f__law_take [.own xs, .sh (.int m)] Q := by
  obtain ⟨ns, i, b, s, rfl, hl, hi, hi', hb, hs0, hs1⟩ := hx
  have hm : m ≠ 0 := by omega
  refine ef_in rfl ?_
  unfold b__law_take
  refine es_seq (EvS.cut (fun ρ1 => ∃ (i b s : Int) (c d e : Option Wt), ρ1 = [some (.own [.lst (ns.map .int), .int i, .int b, .int s]), some (.sh (.int m)), c, d, e] ∧ 0 ≤ i ∧ i ≤ ns.length ∧ 0 ≤ b ∧ 0 ≤ s ∧ s < 2147482951) ?_ ?_)
  · walk_at "wm"
    refine wd (fun e => ?_) (fun e => ?_)
    · walk_at "wm"
      refine wd (fun e2 => ?_) (fun e2 => ?_)
      · rw [List.length_map] at e2
        walk_at "wm"
        refine wox (ex_ixL hi (by rw [List.length_map]; exact e2) fun hh => ?_)
        rw [List.getElem_map]
        generalize ns[i.toNat]'(by simpa using hh) = c
        walk_at "wm"
        refine wd (fun e3 => ?_) (fun e3 => ?_)
        · have : (0 : Int) < c := Int.lt_of_lt_of_le (by decide) e3
          walk_at "wm"
          exact ⟨_, _, _, _, _, _, rfl, by omega, by omega, by omega, hs0, hs1⟩
        · have hc : 0 ≤ c.fmod 2147483587 ∧ c.fmod 2147483587 < 2147483587 := by
            rw [mod_pos (by decide)]
            exact ⟨Int.emod_nonneg _ (by decide), Int.emod_lt_of_pos _ (by decide)⟩
          walk_at "wm"
          refine ⟨_, _, _, _, _, _, rfl, by omega, by omega, hb, ?_, ?_⟩
          · rw [mod_pos (by decide)]; exact Int.emod_nonneg _ (by decide)
          · rw [mod_pos (by decide)]; exact Int.emod_lt_of_pos _ (by decide)
      · walk_at "wm"
        exact ⟨_, _, _, _, _, _, rfl, hi, hi', hb, hs0, hs1⟩
    · walk_at "wm"
      exact ⟨_, _, _, _, _, _, rfl, hi, hi', hb, hs0, hs1⟩
  · rintro ρ1 ⟨i, b, s, c, d, e, rfl, hi, hi', hb, hs0, hs1⟩
    walk_at "wm"
    refine wd (fun e => ?_) (fun e => ?_)
    · walk_at "wm"
      walk_at "wm"
      refine q _ _ ?_ ?_ ⟨ns, _, _, _, rfl, hl, hi, hi', ?_, hs0, hs1⟩
      · rw [mod_pos h0]; exact Int.emod_nonneg _ hm
      · rw [mod_pos h0]; exact Int.emod_lt_of_pos _ h0
      · rw [div_pos h0]; exact Int.ediv_nonneg hb (by omega)
    · walk_at "wm"
      refine wox (ex_mul (Sm.mul (sm_of (k := 40) ?_ (by decide)) (sm_of (k := 40) (by decide) (by decide))) ?_)
      · have := mod_bd (a := (s * s + s * 30269 + 7919 + i * 101).fmod 2147482951) (b := 9973) (by decide)
        omega
      · walk_at "wm"
        refine q _ _ (mod_bd h0).1 (mod_bd h0).2 ⟨ns, _, _, _, rfl, hl, hi, hi', hb, (mod_bd (by decide)).1, (mod_bd (by decide)).2⟩
theorem box_ev {ns : List Int} (hl : ns.length ≤ 63) {Q : Wt → List (List Dt) → Prop} (q : ∀ ys, BoxOk ys → Q (.own ys) []) : EvF f__law_box [.sh (.scr ns)] Q := by
  refine ef_in rfl ?_
  unfold b__law_box
  have e : DL.cutD ns none (some 63) = ns := by
    unfold DL.cutD
    rw [show HT.sIx ns.length 0 none = 0 from rfl, show HT.sIx ns.length ns.length (some 63) = min 63 ns.length from HT.sIx_nat _ _ 63, List.drop_zero, Nat.sub_zero]
    exact List.take_of_length_le (by omega)
  walk_at "wm"
  rw [e]
  walk_at "wm"
  refine wox (ex_mul (Sm.mul (sm_of (k := 40) (by decide) (by decide)) (sm_of (k := 40) ?_ (by decide))) ?_)
  · rw [List.length_map]
    omega
  · walk_at "wm"
    refine q _ ⟨ns, 0, 0, _, rfl, hl, by omega, by omega, by omega, ?_, ?_⟩
    · rw [List.length_map]; omega
    · rw [List.length_map]; omega
def b__law_near (g__law_take : FnD) : FS :=
  (sRet (wSh (eOp dSub (eFrz (wCall 2 g__law_take (aSlot 0 (aVal (eOp dAdd (eOp dMul (eC (.int 2)) (eVar 1)) (eC (.int 1))) aNil)))) (eVar 1))))
abbrev f__law_near : FnD := callF 2 [0] (b__law_near f__law_take)
theorem near_ev {xs : List Dt} {m : Int} (hx : BoxOk xs) (h0 : 0 ≤ m) (hs : m.natAbs < 2 ^ 3000) {Q : Wt → List (List Dt) → Prop} (q : ∀ r ys, -m ≤ r → r ≤ m → BoxOk ys → Q (.sh (.int r)) [ys]) : EvF f__law_near [.own xs, .sh (.int m)] Q := by
  refine ef_in rfl ?_
  unfold b__law_near
  have hs2 : Sm m := sm_of hs (by decide)
  have hs3 : Sm (2 * m + 1) := sm_of (k := 3002) (by
    have : (2 : Nat) ^ 3002 = 4 * 2 ^ 3000 := by rw [show 3002 = 3000 + 2 from rfl, Nat.pow_add, Nat.mul_comm]
    omega) (by decide)
  walk_at "wm"
  refine take_ev hx (by omega) hs3 fun r ys h1 h2 hy => ?_
  walk_at "wm"
  exact q _ _ (by omega) (by omega) hy
end Lw
namespace Lw
open PySem PySem.Spec PyProof.Rows L2 RZ DL
local macro_rules | `(tactic| walk_at "sm") => `(tactic| first | assumption | exact sm_of (k := 200) (by omega) (by decide) | exact sm_of (k := 200) (by decide) (by decide))
local macro_rules | `(tactic| walk_at "w1") => `(tactic| ((conv => whnf); (try refine At.mk ?_)))
local macro_rules | `(tactic| walk_at "wa") => `(tactic| first
  | refine wox (ex_mul (Sm.mul (by walk_at "sm") (by walk_at "sm")) ?_)
  | refine wox (ex_mod (by first | decide | omega | assumption) ?_)
  | refine wox (ex_fdiv (Sm.div (by walk_at "sm") (by first | decide | omega | assumption)) ?_))
local macro_rules | `(tactic| walk_at "w") => `(tactic| ((first | refine nrm_go ?_ | refine WpS.ok ?_ | refine WpE.ok ?_ | skip); walk_at "w1"))
local macro_rules | `(tactic| walk_at "wm") => `(tactic| (walk_at "w"; (repeat (walk_at "wa"; walk_at "w1"))))
/-- the body of both greatest common parts -/
def bCom : FS :=
  (sSeq (sPar 0 1 (aVal (eCB dAbs (aVal (eVar 0) aNil)) (aVal (eCB dAbs (aVal (eVar 1) aNil)) aNil)))
    (sSeq (sWhile (fun ρ => slotN ρ 1 + 1) (eOp dGt (eVar 1) (eC (.int 0))) (sPar 0 1 (aVal (eVar 1) (aVal (eOp dMod (eVar 0) (eVar 1)) aNil))))
    (sRet (wVar 0))))
theorem com_ev {a b : Int} {Q : Wt → List (List Dt) → Prop} (q : Q (.sh (.int (Int.gcd a b))) []) : EvF (callF 2 [] bCom) [.sh (.int a), .sh (.int b)] Q := by
  refine ef_in rfl ?_
  unfold bCom
  walk_at "wm"
  rw [abs_eq, abs_eq]
  refine EvS.cut (fun ρ1 => ∃ z : Option Wt, ρ1 = [some (.sh (.int (Int.gcd a b))), z]) ?_ ?_
  · refine while_inv (fun ρ => ∃ x y : Nat, ρ = [some (.sh (.int (x : Int))), some (.sh (.int (y : Int)))] ∧ Nat.gcd x y = Nat.gcd a.natAbs b.natAbs) (fun ρ => slotN ρ 1) ?_ _ _ ⟨a.natAbs, b.natAbs, rfl, rfl⟩ ?_
    · rintro ρ ⟨x, y, rfl, hg⟩
      walk_at "wm"
      refine wd (fun e => ?_) (fun e => ?_)
      · walk_at "wm"
        have hy : 0 < y := by omega
        refine ⟨⟨y, x % y, ?_, ?_⟩, ?_⟩
        · rw [mod_pos e]; rfl
        · rw [← hg, Nat.gcd_comm x y, Nat.gcd_rec y x, Nat.gcd_comm]
        · show ((x : Int).fmod y).natAbs < (y : Int).natAbs
          rw [mod_pos e]
          have := Nat.mod_lt x hy
          omega
      · have hy : y = 0 := by omega
        subst hy
        rw [Nat.gcd_zero_right] at hg
        exact ⟨_, by rw [hg]; rfl⟩
    · show ((b.natAbs : Nat) : Int).natAbs < _
      exact Nat.lt_succ_self _
  · rintro ρ1 ⟨z, rfl⟩
    walk_at "wm"
    exact q
def b_common : FS :=
  (sSeq (sPar 0 1 (aVal (eCB dAbs (aVal (eVar 0) aNil)) (aVal (eCB dAbs (aVal (eVar 1) aNil)) aNil)))
    (sSeq (sWhile (fun ρ => slotN ρ 1 + 1) (eOp dGt (eVar 1) (eC (.int 0))) (sPar 0 1 (aVal (eVar 1) (aVal (eOp dMod (eVar 0) (eVar 1)) aNil))))
    (sRet (wVar 0))))
abbrev f_common : FnD := callF 2 [] b_common
theorem common_ev {a b : Int} {Q : Wt → List (List Dt) → Prop} (q : Q (.sh (.int (Int.gcd a b))) []) : EvF f_common [.sh (.int a), .sh (.int b)] Q := com_ev q
def b__law_common : FS :=
  (sSeq (sPar 0 1 (aVal (eCB dAbs (aVal (eVar 0) aNil)) (aVal (eCB dAbs (aVal (eVar 1) aNil)) aNil)))
    (sSeq (sWhile (fun ρ => slotN ρ 1 + 1) (eOp dGt (eVar 1) (eC (.int 0))) (sPar 0 1 (aVal (eVar 1) (aVal (eOp dMod (eVar 0) (eVar 1)) aNil))))
    (sRet (wVar 0))))
abbrev f__law_common : FnD := callF 2 [] b__law_common
theorem law_common_ev {a b : Int} {Q : Wt → List (List Dt) → Prop} (q : Q (.sh (.int (Int.gcd a b))) []) : EvF f__law_common [.sh (.int a), .sh (.int b)] Q := com_ev q
def b__law_low (g__law_common : FnD) : FS :=
  (sSeq (sAsg 2 (wCall 2 g__law_common (aVal (eVar 0) (aVal (eVar 1) aNil))))
    (sRet (wSh (eTup (aVal (eOp dFdiv (eVar 0) (eVar 2)) (aVal (eOp dFdiv (eVar 1) (eVar 2)) aNil))))))
abbrev f__law_low : FnD := callF 3 [] (b__law_low f__law_common)
theorem low_ev {a b : Int} (h : b ≠ 0) (hs : Sm b) {Q : Wt → List (List Dt) → Prop} (q : Q (.sh (amt (lowL a b))) []) : EvF f__law_low [.sh (.int a), .sh (.int b)] Q := by
  refine ef_in rfl ?_
  unfold b__law_low
  have h1 := gcd_pos (a := a) h
  have h2 := sm_gcd (a := a) h hs
  have h3 : (Int.gcd a b : Int) ≠ 0 := by omega
  walk_at "wm"
  refine law_common_ev ?_
  walk_at "wm"
  exact q
def b_lowest (g_common : FnD) : FS :=
  (sSeq (sAsg 2 (wCall 2 g_common (aVal (eVar 0) (aVal (eVar 1) aNil))))
    (sSeq (sIf (eOp dLt (eVar 1) (eC (.int 0))) (sAsg 2 (wSh (eUn dNeg (eVar 2)))) sNx)
    (sRet (wSh (eTup (aVal (eOp dFdiv (eVar 0) (eVar 2)) (aVal (eOp dFdiv (eVar 1) (eVar 2)) aNil)))))))
abbrev f_lowest : FnD := callF 3 [] (b_lowest f_common)
theorem lowest_ev {a b : Int} (h : b ≠ 0) (hs : Sm b) {Q : Wt → List (List Dt) → Prop} (q : Q (.sh (amt (lowI a b))) []) : EvF f_lowest [.sh (.int a), .sh (.int b)] Q := by
  refine ef_in rfl ?_
  unfold b_lowest
  have h1 := gcd_pos (a := a) h
  have h2 := sm_gcd (a := a) h hs
  have h3 : (Int.gcd a b : Int) ≠ 0 := by omega
  have h4 : -(Int.gcd a b : Int) ≠ 0 := by omega
  have h5 := sm_neg h2
  unfold lowI at q
  walk_at "wm"
  refine common_ev ?_
  walk_at "wm"
  refine wd (fun e => ?_) (fun e => ?_)
  · rw [if_pos e] at q
    walk_at "wm"
    exact q
  · rw [if_neg e] at q
    walk_at "wm"
    exact q
end Lw
namespace Lw
open PySem PySem.Spec PyProof.Rows L2 RZ DL
local macro_rules | `(tactic| walk_at "sm") => `(tactic| first | assumption | exact sm_of (k := 200) (by omega) (by decide) | exact sm_of (k := 200) (by decide) (by decide))
local macro_rules | `(tactic| walk_at "w1") => `(tactic| ((conv => whnf); (try refine At.mk ?_)))
local macro_rules | `(tactic| walk_at "wa") => `(tactic| first
  | refine wox (ex_mul (Sm.mul (by walk_at "sm") (by walk_at "sm")) ?_)
  | refine wox (ex_mod (by first | decide | omega | assumption) ?_)
  | refine wox (ex_fdiv (Sm.div (by walk_at "sm") (by first | decide | omega | assumption)) ?_))
local macro_rules | `(tactic| walk_at "w") => `(tactic| ((first | refine nrm_go ?_ | refine WpS.ok ?_ | refine WpE.ok ?_ | skip); walk_at "w1"))
local macro_rules | `(tactic| walk_at "wm") => `(tactic| (walk_at "w"; (repeat (walk_at "wa"; walk_at "w1"))))
/-- both parts below 2 ^ k -/
structure Bd (k : Nat) (p : Int × Int) : Prop where
  o : p.1.natAbs < 2 ^ k
  u : p.2.natAbs < 2 ^ k
theorem Bd.mono {j k : Nat} {p : Int × Int} (h : Bd j p) (hk : j ≤ k) : Bd k p := ⟨Nat.lt_of_lt_of_le h.o (Nat.pow_le_pow_right (by decide) hk), Nat.lt_of_lt_of_le h.u (Nat.pow_le_pow_right (by decide) hk)⟩
theorem Bd.sm {k : Nat} {p : Int × Int} (h : Bd k p) (hk : k ≤ 8999) : SmA p := ⟨sm_of h.o hk, sm_of h.u hk⟩
theorem mul_bd {a b : Int} {j k : Nat} (h1 : a.natAbs < 2 ^ j) (h2 : b.natAbs < 2 ^ k) : (a * b).natAbs < 2 ^ (j + k) := wide_lt h1 h2
theorem add_bd {a b : Int} {k : Nat} (h1 : a.natAbs < 2 ^ k) (h2 : b.natAbs < 2 ^ k) : (a + b).natAbs < 2 ^ (k + 1) := by
  rw [Nat.pow_succ]
  omega
theorem sub_bd {a b : Int} {k : Nat} (h1 : a.natAbs < 2 ^ k) (h2 : b.natAbs < 2 ^ k) : (a - b).natAbs < 2 ^ (k + 1) := by
  rw [Nat.pow_succ]
  omega
theorem lowL_bd {n d : Int} {k : Nat} (hd : 0 < d) (h1 : n.natAbs < 2 ^ k) (h2 : d.natAbs < 2 ^ k) : Bd k (lowL n d) := by
  obtain ⟨a1, a2, a3, _⟩ := lowL_ok (n := n) hd
  have := a1.pos
  exact ⟨by omega, by omega⟩
def plusP (x y : Int × Int) : Int × Int := lowL (x.1 * y.2 + y.1 * x.2) (x.2 * y.2)
def minusP (x y : Int × Int) : Int × Int := lowL (x.1 * y.2 - y.1 * x.2) (x.2 * y.2)
def timesP (x y : Int × Int) : Int × Int := lowL (x.1 * y.1) (x.2 * y.2)
def byP (x y : Int × Int) : Int × Int := lowI (x.1 * y.2) (x.2 * y.1)
/-- what lowest, and the law's own one, do where the under is above nought -/
def LowSpec (g : FnD) : Prop := ∀ a b : Int, 0 < b → Sm b → g [.sh (.int a), .sh (.int b)] = some (.ok (.sh (amt (lowL a b))), [])
def bSum (g : FnD) : FS := (sRet (wCall 2 g (aVal (eOp dAdd (eOp dMul (eOp dIx (eVar 0) (eC (.int 0))) (eOp dIx (eVar 1) (eC (.int 1)))) (eOp dMul (eOp dIx (eVar 1) (eC (.int 0))) (eOp dIx (eVar 0) (eC (.int 1))))) (aVal (eOp dMul (eOp dIx (eVar 0) (eC (.int 1))) (eOp dIx (eVar 1) (eC (.int 1)))) aNil))))
def bSubt (g : FnD) : FS := (sRet (wCall 2 g (aVal (eOp dSub (eOp dMul (eOp dIx (eVar 0) (eC (.int 0))) (eOp dIx (eVar 1) (eC (.int 1)))) (eOp dMul (eOp dIx (eVar 1) (eC (.int 0))) (eOp dIx (eVar 0) (eC (.int 1))))) (aVal (eOp dMul (eOp dIx (eVar 0) (eC (.int 1))) (eOp dIx (eVar 1) (eC (.int 1)))) aNil))))
def bProd (g : FnD) : FS := (sRet (wCall 2 g (aVal (eOp dMul (eOp dIx (eVar 0) (eC (.int 0))) (eOp dIx (eVar 1) (eC (.int 0)))) (aVal (eOp dMul (eOp dIx (eVar 0) (eC (.int 1))) (eOp dIx (eVar 1) (eC (.int 1)))) aNil))))
section
variable {x y : Int × Int} {j k : Nat} {g : FnD} {Q : Wt → List (List Dt) → Prop}
theorem sum_ev (hg : LowSpec g) (hx : Bd j x) (hy : Bd k y) (px : 0 < x.2) (py : 0 < y.2) (hjk : j + k ≤ 8900) (q : Q (.sh (amt (plusP x y))) []) : EvF (callF 2 [] (bSum g)) [.sh (amt x), .sh (amt y)] Q := by
  obtain ⟨a1, a2⟩ := hx.sm (by omega)
  obtain ⟨b1, b2⟩ := hy.sm (by omega)
  have hd : Sm (x.2 * y.2) := sm_of (mul_bd hx.u hy.u) (by omega)
  refine ef_in rfl ?_
  unfold bSum
  walk_at "wm"
  refine ef_eq (hg _ _ (Int.mul_pos px py) hd) ?_
  walk_at "wm"
  exact q
theorem subt_ev (hg : LowSpec g) (hx : Bd j x) (hy : Bd k y) (px : 0 < x.2) (py : 0 < y.2) (hjk : j + k ≤ 8900) (q : Q (.sh (amt (minusP x y))) []) : EvF (callF 2 [] (bSubt g)) [.sh (amt x), .sh (amt y)] Q := by
  obtain ⟨a1, a2⟩ := hx.sm (by omega)
  obtain ⟨b1, b2⟩ := hy.sm (by omega)
  have hd : Sm (x.2 * y.2) := sm_of (mul_bd hx.u hy.u) (by omega)
  refine ef_in rfl ?_
  unfold bSubt
  walk_at "wm"
  refine ef_eq (hg _ _ (Int.mul_pos px py) hd) ?_
  walk_at "wm"
  exact q
theorem prod_ev (hg : LowSpec g) (hx : Bd j x) (hy : Bd k y) (px : 0 < x.2) (py : 0 < y.2) (hjk : j + k ≤ 8900) (q : Q (.sh (amt (timesP x y))) []) : EvF (callF 2 [] (bProd g)) [.sh (amt x), .sh (amt y)] Q := by
  obtain ⟨a1, a2⟩ := hx.sm (by omega)
  obtain ⟨b1, b2⟩ := hy.sm (by omega)
  have hd : Sm (x.2 * y.2) := sm_of (mul_bd hx.u hy.u) (by omega)
  refine ef_in rfl ?_
  unfold bProd
  walk_at "wm"
  refine ef_eq (hg _ _ (Int.mul_pos px py) hd) ?_
  walk_at "wm"
  exact q
theorem plus_bd (hx : Bd j x) (hy : Bd k y) (px : 0 < x.2) (py : 0 < y.2) : Am (plusP x y) ∧ Bd (j + k + 1) (plusP x y) := by
  have hd := Int.mul_pos px py
  refine ⟨(lowL_ok hd).1, lowL_bd hd (add_bd (mul_bd hx.o hy.u) ?_) ?_⟩
  · rw [Nat.add_comm]; exact mul_bd hy.o hx.u
  · exact Nat.lt_of_lt_of_le (mul_bd hx.u hy.u) (Nat.pow_le_pow_right (by decide) (by omega))
theorem minus_bd (hx : Bd j x) (hy : Bd k y) (px : 0 < x.2) (py : 0 < y.2) : Am (minusP x y) ∧ Bd (j + k + 1) (minusP x y) := by
  have hd := Int.mul_pos px py
  refine ⟨(lowL_ok hd).1, lowL_bd hd (sub_bd (mul_bd hx.o hy.u) ?_) ?_⟩
  · rw [Nat.add_comm]; exact mul_bd hy.o hx.u
  · exact Nat.lt_of_lt_of_le (mul_bd hx.u hy.u) (Nat.pow_le_pow_right (by decide) (by omega))
theorem times_bd (hx : Bd j x) (hy : Bd k y) (px : 0 < x.2) (py : 0 < y.2) : Am (timesP x y) ∧ Bd (j + k) (timesP x y) := by
  have hd := Int.mul_pos px py
  exact ⟨(lowL_ok hd).1, lowL_bd hd (mul_bd hx.o hy.o) (mul_bd hx.u hy.u)⟩
end
theorem lowSpec_law : LowSpec f__law_low := fun a b h hs => fn_eq (low_ev (by omega) hs ⟨rfl, rfl⟩)
theorem lowSpec_prog : LowSpec f_lowest := fun a b h hs => fn_eq (lowest_ev (by omega) hs ⟨by rw [lowI_pos h], rfl⟩)
def b_plus (g_lowest : FnD) : FS :=
  (sRet (wCall 2 g_lowest (aVal (eOp dAdd (eOp dMul (eOp dIx (eVar 0) (eC (.int 0))) (eOp dIx (eVar 1) (eC (.int 1)))) (eOp dMul (eOp dIx (eVar 1) (eC (.int 0))) (eOp dIx (eVar 0) (eC (.int 1))))) (aVal (eOp dMul (eOp dIx (eVar 0) (eC (.int 1))) (eOp dIx (eVar 1) (eC (.int 1)))) aNil))))
abbrev f_plus : FnD := callF 2 [] (b_plus f_lowest)
theorem plus_ev {x y : Int × Int} {j k : Nat} {Q : Wt → List (List Dt) → Prop} (hx : Bd j x) (hy : Bd k y) (px : 0 < x.2) (py : 0 < y.2) (hjk : j + k ≤ 8900) (q : Q (.sh (amt (plusP x y))) []) : EvF f_plus [.sh (amt x), .sh (amt y)] Q := sum_ev lowSpec_prog hx hy px py hjk q
def b_minus (g_lowest : FnD) : FS :=
  (sRet (wCall 2 g_lowest (aVal (eOp dSub (eOp dMul (eOp dIx (eVar 0) (eC (.int 0))) (eOp dIx (eVar 1) (eC (.int 1)))) (eOp dMul (eOp dIx (eVar 1) (eC (.int 0))) (eOp dIx (eVar 0) (eC (.int 1))))) (aVal (eOp dMul (eOp dIx (eVar 0) (eC (.int 1))) (eOp dIx (eVar 1) (eC (.int 1)))) aNil))))
abbrev f_minus : FnD := callF 2 [] (b_minus f_lowest)
theorem minus_ev {x y : Int × Int} {j k : Nat} {Q : Wt → List (List Dt) → Prop} (hx : Bd j x) (hy : Bd k y) (px : 0 < x.2) (py : 0 < y.2) (hjk : j + k ≤ 8900) (q : Q (.sh (amt (minusP x y))) []) : EvF f_minus [.sh (amt x), .sh (amt y)] Q := subt_ev lowSpec_prog hx hy px py hjk q
def b_times (g_lowest : FnD) : FS :=
  (sRet (wCall 2 g_lowest (aVal (eOp dMul (eOp dIx (eVar 0) (eC (.int 0))) (eOp dIx (eVar 1) (eC (.int 0)))) (aVal (eOp dMul (eOp dIx (eVar 0) (eC (.int 1))) (eOp dIx (eVar 1) (eC (.int 1)))) aNil))))
abbrev f_times : FnD := callF 2 [] (b_times f_lowest)
theorem times_ev {x y : Int × Int} {j k : Nat} {Q : Wt → List (List Dt) → Prop} (hx : Bd j x) (hy : Bd k y) (px : 0 < x.2) (py : 0 < y.2) (hjk : j + k ≤ 8900) (q : Q (.sh (amt (timesP x y))) []) : EvF f_times [.sh (amt x), .sh (amt y)] Q := prod_ev lowSpec_prog hx hy px py hjk q
def b__law_sum (g__law_low : FnD) : FS :=
  (sRet (wCall 2 g__law_low (aVal (eOp dAdd (eOp dMul (eOp dIx (eVar 0) (eC (.int 0))) (eOp dIx (eVar 1) (eC (.int 1)))) (eOp dMul (eOp dIx (eVar 1) (eC (.int 0))) (eOp dIx (eVar 0) (eC (.int 1))))) (aVal (eOp dMul (eOp dIx (eVar 0) (eC (.int 1))) (eOp dIx (eVar 1) (eC (.int 1)))) aNil))))
abbrev f__law_sum : FnD := callF 2 [] (b__law_sum f__law_low)
theorem law_sum_ev {x y : Int × Int} {j k : Nat} {Q : Wt → List (List Dt) → Prop} (hx : Bd j x) (hy : Bd k y) (px : 0 < x.2) (py : 0 < y.2) (hjk : j + k ≤ 8900) (q : Q (.sh (amt (plusP x y))) []) : EvF f__law_sum [.sh (amt x), .sh (amt y)] Q := sum_ev lowSpec_law hx hy px py hjk q
def b__law_less_by (g__law_low : FnD) : FS :=
  (sRet (wCall 2 g__law_low (aVal (eOp dSub (eOp dMul (eOp dIx (eVar 0) (eC (.int 0))) (eOp dIx (eVar 1) (eC (.int 1)))) (eOp dMul (eOp dIx (eVar 1) (eC (.int 0))) (eOp dIx (eVar 0) (eC (.int 1))))) (aVal (eOp dMul (eOp dIx (eVar 0) (eC (.int 1))) (eOp dIx (eVar 1) (eC (.int 1)))) aNil))))
abbrev f__law_less_by : FnD := callF 2 [] (b__law_less_by f__law_low)
theorem law_less_by_ev {x y : Int × Int} {j k : Nat} {Q : Wt → List (List Dt) → Prop} (hx : Bd j x) (hy : Bd k y) (px : 0 < x.2) (py : 0 < y.2) (hjk : j + k ≤ 8900) (q : Q (.sh (amt (minusP x y))) []) : EvF f__law_less_by [.sh (amt x), .sh (amt y)] Q := subt_ev lowSpec_law hx hy px py hjk q
def b__law_product (g__law_low : FnD) : FS :=
  (sRet (wCall 2 g__law_low (aVal (eOp dMul (eOp dIx (eVar 0) (eC (.int 0))) (eOp dIx (eVar 1) (eC (.int 0)))) (aVal (eOp dMul (eOp dIx (eVar 0) (eC (.int 1))) (eOp dIx (eVar 1) (eC (.int 1)))) aNil))))
abbrev f__law_product : FnD := callF 2 [] (b__law_product f__law_low)
theorem law_product_ev {x y : Int × Int} {j k : Nat} {Q : Wt → List (List Dt) → Prop} (hx : Bd j x) (hy : Bd k y) (px : 0 < x.2) (py : 0 < y.2) (hjk : j + k ≤ 8900) (q : Q (.sh (amt (timesP x y))) []) : EvF f__law_product [.sh (amt x), .sh (amt y)] Q := prod_ev lowSpec_law hx hy px py hjk q
def b_by (g_lowest : FnD) : FS :=
  (sRet (wCall 2 g_lowest (aVal (eOp dMul (eOp dIx (eVar 0) (eC (.int 0))) (eOp dIx (eVar 1) (eC (.int 1)))) (aVal (eOp dMul (eOp dIx (eVar 0) (eC (.int 1))) (eOp dIx (eVar 1) (eC (.int 0)))) aNil))))
abbrev f_by : FnD := callF 2 [] (b_by f_lowest)
theorem by_ev {x y : Int × Int} {j k : Nat} {Q : Wt → List (List Dt) → Prop} (hx : Bd j x) (hy : Bd k y) (px : 0 < x.2) (py : y.1 ≠ 0) (hjk : j + k ≤ 8900) (q : Q (.sh (amt (byP x y))) []) : EvF f_by [.sh (amt x), .sh (amt y)] Q := by
  obtain ⟨a1, a2⟩ := hx.sm (by omega)
  obtain ⟨b1, b2⟩ := hy.sm (by omega)
  have hd : Sm (x.2 * y.1) := sm_of (mul_bd hx.u hy.o) (by omega)
  have hn : x.2 * y.1 ≠ 0 := Int.mul_ne_zero (by omega) py
  refine ef_in rfl ?_
  unfold b_by
  walk_at "wm"
  refine lowest_ev hn hd ?_
  walk_at "wm"
  exact q
def b__law_share_of (g__law_low : FnD) : FS :=
  (sSeq (sIf (eOp dLt (eOp dIx (eVar 1) (eC (.int 0))) (eC (.int 0))) (sRet (wCall 2 g__law_low (aVal (eOp dSub (eC (.int 0)) (eOp dMul (eOp dIx (eVar 0) (eC (.int 0))) (eOp dIx (eVar 1) (eC (.int 1))))) (aVal (eOp dSub (eC (.int 0)) (eOp dMul (eOp dIx (eVar 0) (eC (.int 1))) (eOp dIx (eVar 1) (eC (.int 0))))) aNil)))) sNx)
    (sRet (wCall 2 g__law_low (aVal (eOp dMul (eOp dIx (eVar 0) (eC (.int 0))) (eOp dIx (eVar 1) (eC (.int 1)))) (aVal (eOp dMul (eOp dIx (eVar 0) (eC (.int 1))) (eOp dIx (eVar 1) (eC (.int 0)))) aNil)))))
abbrev f__law_share_of : FnD := callF 2 [] (b__law_share_of f__law_low)
theorem law_share_of_ev {x y : Int × Int} {j k : Nat} {Q : Wt → List (List Dt) → Prop} (hx : Bd j x) (hy : Bd k y) (px : 0 < x.2) (py : y.1 ≠ 0) (hjk : j + k ≤ 8900) (q : Q (.sh (amt (byP x y))) []) : EvF f__law_share_of [.sh (amt x), .sh (amt y)] Q := by
  obtain ⟨a1, a2⟩ := hx.sm (by omega)
  obtain ⟨b1, b2⟩ := hy.sm (by omega)
  have hd : Sm (x.2 * y.1) := sm_of (mul_bd hx.u hy.o) (by omega)
  have hn : x.2 * y.1 ≠ 0 := Int.mul_ne_zero (by omega) py
  refine ef_in rfl ?_
  unfold b__law_share_of
  walk_at "wm"
  refine wd (fun e => ?_) (fun e => ?_)
  · have hneg : x.2 * y.1 < 0 := Int.mul_neg_of_pos_of_neg px e
    have e1 : byP x y = lowL (0 - x.1 * y.2) (0 - x.2 * y.1) := by
      have z := lowI_neg (a := x.1 * y.2) (b := 0 - x.2 * y.1) (by omega)
      rw [show -(0 - x.2 * y.1) = x.2 * y.1 by omega, show -(x.1 * y.2) = 0 - x.1 * y.2 by omega] at z
      exact z
    rw [e1] at q
    walk_at "wm"
    refine low_ev (by omega) ?_ ?_
    · unfold Sm at hd ⊢
      rw [show 0 - x.2 * y.1 = -(x.2 * y.1) by omega, Int.natAbs_neg]
      exact hd
    · walk_at "wm"
      exact q
  · have hpos : 0 < x.2 * y.1 := Int.mul_pos px (by omega)
    have e1 : byP x y = lowL (x.1 * y.2) (x.2 * y.1) := lowI_pos hpos
    rw [e1] at q
    walk_at "wm"
    refine low_ev hn hd ?_
    walk_at "wm"
    exact q
end Lw
namespace Lw
open PySem PySem.Spec PyProof.Rows L2 RZ DL
local macro_rules | `(tactic| walk_at "sm") => `(tactic| first | assumption | exact sm_of (k := 200) (by omega) (by decide) | exact sm_of (k := 200) (by decide) (by decide))
local macro_rules | `(tactic| walk_at "ev3") => `(tactic| first
  | (with_reducible first
    | refine es_seq ?_ | refine es_asg ?_ | refine es_ret ?_ | refine es_if ?_ | refine es_par ?_ | refine es_put ?_ | refine es_nx ?_ | refine es_drop ?_ | refine es_asgT ?_
    | refine ew_sh ?_ | refine ev_frz ?_ | refine ew_lst ?_ | refine ew_call ?_ | refine ew_ite ?_ | refine ew_lc ?_ | refine ev_op ?_ | refine ev_un ?_ | refine ev_not ?_ | refine ev_and ?_ | refine ev_or ?_ | refine ev_ite ?_ | refine ev_chain ?_
    | refine ea_nil ?_ | refine ea_val ?_ | refine ea_tmp ?_ | refine ew_cat ?_ | refine ev_tup ?_ | refine ev_cb ?_ | refine ev_c ?_ | refine ev_sl00 ?_ | refine ev_sl01 ?_ | refine ev_sl10 ?_ | refine ev_sl11 ?_ | refine ei_args ?_ | refine ei_seq ?_ | refine es_for ?_ | refine es_while ?_ | refine ev_opR ?_
    | refine ex_add ?_ | refine ex_sub ?_ | refine ex_lt ?_ | refine ex_le ?_ | refine ex_gt ?_ | refine ex_ge ?_ | refine ex_eqI ?_ | refine ex_neI ?_ | refine ex_eqS ?_ | refine ex_neS ?_ | refine ex_eqB ?_ | refine ex_neB ?_ | refine ex_neg ?_)
  | ((with_reducible refine nrm_eq (ρ' := ?r) ?e ?_); (case e => (try dsimp only [List.set_cons_zero, List.set_cons_succ, putBack, slotsOf, wipeR, restR, keepSh, List.map_cons, List.map_nil, List.cons_append, List.nil_append, List.append_nil, List.length_cons, List.length_nil, Nat.reduceAdd, Nat.reduceSub, List.replicate, List.getElem?_cons_zero, List.getElem?_cons_succ, frz, startW]); exact rfl))
  | refine ev_var rfl ?_ | refine ev_varO rfl ?_ | refine ew_var rfl ?_ | refine ew_varO rfl ?_ | refine ea_slot rfl ?_ | refine ev_ixV rfl ?_ | refine es_app rfl ?_ | refine es_ext rfl ?_ | refine ev_opL rfl ?_ | refine ev_cbV rfl rfl rfl ?_
  | (with_reducible refine ex_mod ?_ ?_; first | decide | omega | assumption)
  | (with_reducible refine ex_fdiv ?_ ?_; refine Sm.div ?_ ?_; walk_at "sm"; first | decide | omega | assumption)
  | (with_reducible refine ex_mul ?_ ?_; refine Sm.mul ?_ ?_; walk_at "sm"; walk_at "sm")
  | ((with_reducible show Exists _); (fail_if_success (with_reducible show ∃ g, dMul _ _ = some g ∧ _)); (fail_if_success (with_reducible show ∃ g, dFdiv _ _ = some g ∧ _)); (fail_if_success (with_reducible show ∃ g, dMod _ _ = some g ∧ _)); (fail_if_success (with_reducible show ∃ g, dNe _ _ = some g ∧ _)); (fail_if_success (with_reducible show ∃ g, dEq _ _ = some g ∧ _));
     first | refine ⟨_, rfl, Nat.le_of_ble_eq_true rfl, ?_⟩ | refine ⟨_, rfl, rfl, List.nodup_nil, ?_⟩ | refine ⟨_, rfl, rfl, nodup1, ?_⟩ | refine ⟨_, rfl, rfl, nodup2 (by decide), ?_⟩ | refine ⟨_, rfl, ?_⟩ | refine ⟨_, _, rfl, rfl, ?_⟩ | refine ⟨_, _, rfl, ?_⟩ | refine ⟨_, _, _, rfl, rfl, rfl, ?_⟩))
/-! amounts as rational numbers -/
def ofR (r : Rat) : Int × Int := (r.num, (r.den : Int))
def val (p : Int × Int) : Rat := Rat.divInt p.1 p.2
abbrev amR (r : Rat) : Dt := amt (ofR r)
/-- a written amount -/
abbrev rat (n : Int) (d : Nat) (h1 : d ≠ 0 := by decide) (h2 : n.natAbs.Coprime d := by decide) : Rat := ⟨n, d, h1, h2⟩
theorem den_pos (r : Rat) : (0 : Int) < (r.den : Int) := by
  have := r.den_pos
  omega
theorem ofR_am (r : Rat) : Am (ofR r) := ⟨den_pos r, by
  have := r.reduced
  unfold Nat.Coprime at this
  exact this⟩
theorem val_ofR (r : Rat) : val (ofR r) = r := Rat.num_divInt_den r
theorem ofR_inj {a b : Rat} (h : ofR a = ofR b) : a = b := by rw [← val_ofR a, ← val_ofR b, h]
/-- amounts in lowest terms of one value are one -/
theorem dvd_cop {a b c : Int} (h : a ∣ b * c) (hg : Int.gcd b a = 1) : a ∣ c := by
  have h1 : a.natAbs ∣ b.natAbs * c.natAbs := by rw [← Int.natAbs_mul]; exact Int.natAbs_dvd_natAbs.mpr h
  have h2 : Nat.Coprime a.natAbs b.natAbs := by
    unfold Nat.Coprime
    rw [Nat.gcd_comm]
    exact hg
  exact Int.natAbs_dvd_natAbs.mp (h2.dvd_of_dvd_mul_left h1)
theorem am_uniq {p q : Int × Int} (hp : Am p) (hq : Am q) (h : p.1 * q.2 = q.1 * p.2) : p = q := by
  have h1 : p.2 ∣ q.2 := by
    have : p.2 ∣ p.1 * q.2 := ⟨q.1, by rw [h, Int.mul_comm]⟩
    exact dvd_cop this hp.low
  have h2 : q.2 ∣ p.2 := by
    have : q.2 ∣ q.1 * p.2 := ⟨p.1, by rw [← h, Int.mul_comm]⟩
    exact dvd_cop this hq.low
  have e : p.2 = q.2 := Int.dvd_antisymm (by have := hp.pos; omega) (by have := hq.pos; omega) h1 h2
  have e1 : p.1 = q.1 := by
    rw [e] at h
    exact Int.eq_of_mul_eq_mul_right (by have := hq.pos; omega) h
  exact Prod.ext e1 e
theorem am_val {p : Int × Int} (hp : Am p) : ofR (val p) = p := by
  refine am_uniq (ofR_am _) hp ?_
  have e := val_ofR (val p)
  have h : Rat.divInt (val p).num ((val p).den : Int) = Rat.divInt p.1 p.2 := e
  exact (Rat.divInt_eq_divInt_iff (Int.ne_of_gt (den_pos (val p))) (by have := hp.pos; omega)).mp h
theorem lowL_val {n d : Int} (h : 0 < d) : lowL n d = ofR (Rat.divInt n d) := by
  obtain ⟨a1, _, _, a4⟩ := lowL_ok (n := n) h
  rw [← am_val a1]
  congr 1
  unfold val
  exact (Rat.divInt_eq_divInt_iff (by have := a1.pos; omega) (by omega)).mpr a4.symm
theorem lowI_val {n d : Int} (h : d ≠ 0) : lowI n d = ofR (Rat.divInt n d) := by
  rcases Int.lt_or_lt_of_ne h with h1 | h1
  · have e := lowI_neg (a := n) (b := -d) (by omega)
    rw [Int.neg_neg] at e
    rw [e, lowL_val (by omega)]
    congr 1
    rw [Rat.divInt_eq_divInt_iff (by omega) h]
    rw [Int.neg_mul, Int.mul_neg]
  · rw [lowI_pos h1, lowL_val h1]
theorem plusP_val (a b : Rat) : plusP (ofR a) (ofR b) = ofR (a + b) := by
  unfold plusP
  rw [lowL_val (show 0 < (ofR a).2 * (ofR b).2 from Int.mul_pos (den_pos a) (den_pos b))]
  congr 1
  have := Rat.divInt_add_divInt a.num b.num (d₁ := a.den) (d₂ := b.den) (by have := den_pos a; omega) (by have := den_pos b; omega)
  rw [Rat.num_divInt_den, Rat.num_divInt_den] at this
  exact this.symm
theorem minusP_val (a b : Rat) : minusP (ofR a) (ofR b) = ofR (a - b) := by
  unfold minusP
  rw [lowL_val (show 0 < (ofR a).2 * (ofR b).2 from Int.mul_pos (den_pos a) (den_pos b))]
  congr 1
  have := Rat.divInt_sub_divInt a.num b.num (d₁ := a.den) (d₂ := b.den) (by have := den_pos a; omega) (by have := den_pos b; omega)
  rw [Rat.num_divInt_den, Rat.num_divInt_den] at this
  exact this.symm
theorem timesP_val (a b : Rat) : timesP (ofR a) (ofR b) = ofR (a * b) := by
  unfold timesP
  rw [lowL_val (show 0 < (ofR a).2 * (ofR b).2 from Int.mul_pos (den_pos a) (den_pos b))]
  congr 1
  have := Rat.divInt_mul_divInt a.num b.num (d₁ := a.den) (d₂ := b.den)
  rw [Rat.num_divInt_den, Rat.num_divInt_den] at this
  exact this.symm
theorem num_ne {b : Rat} (h : b ≠ 0) : b.num ≠ 0 := fun e => h (Rat.num_eq_zero.mp e)
theorem byP_val (a b : Rat) (h : b ≠ 0) : byP (ofR a) (ofR b) = ofR (a / b) := by
  unfold byP
  have hb := num_ne h
  have hn : (ofR a).2 * (ofR b).1 ≠ 0 := Int.mul_ne_zero (by have := den_pos a; exact Int.ne_of_gt this) hb
  rw [lowI_val hn]
  congr 1
  have e1 : Rat.divInt (a.num * b.den) (a.den * b.num) = a * Rat.divInt b.den b.num := by
    have := Rat.divInt_mul_divInt a.num b.den (d₁ := a.den) (d₂ := b.num)
    rw [Rat.num_divInt_den] at this
    exact this.symm
  have e2 : Rat.divInt (b.den : Int) b.num * b = 1 := by
    have := Rat.divInt_mul_divInt b.den b.num (d₁ := b.num) (d₂ := b.den)
    rw [Rat.num_divInt_den] at this
    rw [this, Int.mul_comm]
    exact Rat.divInt_self' (Int.mul_ne_zero hb (by have := den_pos b; omega))
  show Rat.divInt (a.num * b.den) (a.den * b.num) = a / b
  rw [e1]
  grind
theorem lessI_val (a b : Rat) : lessI (ofR a) (ofR b) = decide (a < b) := by
  unfold lessI
  rw [decide_eq_decide]
  exact (Rat.lt_iff a b).symm
theorem num_lt0 {q : Rat} : q.num < 0 ↔ q < 0 := by
  rw [← Int.not_le, Rat.num_nonneg, Rat.not_le]
theorem num_gt0 {q : Rat} : 0 < q.num ↔ 0 < q := by
  have h1 := Rat.num_nonneg (q := q)
  have h2 := Rat.num_eq_zero (q := q)
  have h3 : 0 < q ↔ 0 ≤ q ∧ q ≠ 0 := by grind
  rw [h3, ← h1, Ne, ← h2]
  omega
/-- both parts below 2 ^ k -/
abbrev RB (k : Nat) (r : Rat) : Prop := Bd k (ofR r)
section
variable {a b : Rat} {j k : Nat}
theorem RB.plus (ha : RB j a) (hb : RB k b) : RB (j + k + 1) (a + b) := by
  have := (plus_bd ha hb (den_pos a) (den_pos b)).2
  rw [plusP_val] at this
  exact this
theorem RB.minus (ha : RB j a) (hb : RB k b) : RB (j + k + 1) (a - b) := by
  have := (minus_bd ha hb (den_pos a) (den_pos b)).2
  rw [minusP_val] at this
  exact this
theorem RB.times (ha : RB j a) (hb : RB k b) : RB (j + k) (a * b) := by
  have := (times_bd ha hb (den_pos a) (den_pos b)).2
  rw [timesP_val] at this
  exact this
theorem RB.by (ha : RB j a) (hb : RB k b) (h : b ≠ 0) : RB (j + k) (a / b) := by
  have hn := num_ne h
  rw [RB, ← byP_val a b h]
  unfold byP
  have hx : ((ofR a).1 * (ofR b).2).natAbs < 2 ^ (j + k) := mul_bd ha.o hb.u
  have hy : ((ofR a).2 * (ofR b).1).natAbs < 2 ^ (j + k) := mul_bd ha.u hb.o
  have hne : (ofR a).2 * (ofR b).1 ≠ 0 := Int.mul_ne_zero (Int.ne_of_gt (den_pos a)) hn
  rcases Int.lt_or_lt_of_ne hne with h1 | h1
  · have e := lowI_neg (a := (ofR a).1 * (ofR b).2) (b := -((ofR a).2 * (ofR b).1)) (by omega)
    rw [Int.neg_neg] at e
    rw [e]
    exact lowL_bd (by omega) (by rw [Int.natAbs_neg]; exact hx) (by rw [Int.natAbs_neg]; exact hy)
  · rw [lowI_pos h1]
    exact lowL_bd h1 hx hy
end
theorem amR_eqv (a b : Rat) : PyData.eqv (toPy (amR a)) (toPy (amR b)) = decide (a = b) := by
  show (a.num == b.num && ((a.den : Int) == (b.den : Int) && true)) = decide (a = b)
  rw [Bool.and_true]
  rcases Decidable.em (a = b) with h | h
  · subst h
    simp
  · rw [decide_eq_false h]
    rcases Decidable.em (a.num = b.num) with h1 | h1
    · rcases Decidable.em ((a.den : Int) = (b.den : Int)) with h2 | h2
      · exact absurd (ofR_inj (Prod.ext h1 h2)) h
      · simp [h2]
    · simp [h1]
theorem eqB_amt (a b : Rat) : eqB (amR a) (amR b) = some (decide (a = b)) := by
  rw [← amR_eqv]
  show (if okPy (amR a) = true ∧ okPy (amR b) = true then some (PyData.eqv (toPy (amR a)) (toPy (amR b))) else none) = _
  exact if_pos ⟨rfl, rfl⟩
theorem ex_neA {a b : Rat} {Q : Dt → Prop} (q : Q (.bl (!decide (a = b)))) : ∃ g, dNe (amR a) (amR b) = some g ∧ Q g := ⟨_, by
  unfold dNe
  rw [eqB_amt]
  rfl, q⟩
theorem ex_eqA {a b : Rat} {Q : Dt → Prop} (q : Q (.bl (decide (a = b)))) : ∃ g, dEq (amR a) (amR b) = some g ∧ Q g := ⟨_, by
  unfold dEq
  rw [eqB_amt]
  rfl, q⟩
section
variable {a b : Rat} {j k : Nat} {Q : Wt → List (List Dt) → Prop}
theorem plus_r (ha : RB j a) (hb : RB k b) (hjk : j + k ≤ 8900) (q : Q (.sh (amR (a + b))) []) : EvF f_plus [.sh (amR a), .sh (amR b)] Q := plus_ev ha hb (den_pos a) (den_pos b) hjk (by rw [plusP_val]; exact q)
theorem minus_r (ha : RB j a) (hb : RB k b) (hjk : j + k ≤ 8900) (q : Q (.sh (amR (a - b))) []) : EvF f_minus [.sh (amR a), .sh (amR b)] Q := minus_ev ha hb (den_pos a) (den_pos b) hjk (by rw [minusP_val]; exact q)
theorem times_r (ha : RB j a) (hb : RB k b) (hjk : j + k ≤ 8900) (q : Q (.sh (amR (a * b))) []) : EvF f_times [.sh (amR a), .sh (amR b)] Q := times_ev ha hb (den_pos a) (den_pos b) hjk (by rw [timesP_val]; exact q)
theorem by_r (ha : RB j a) (hb : RB k b) (h : b ≠ 0) (hjk : j + k ≤ 8900) (q : Q (.sh (amR (a / b))) []) : EvF f_by [.sh (amR a), .sh (amR b)] Q := by_ev ha hb (den_pos a) (num_ne h) hjk (by rw [byP_val a b h]; exact q)
theorem law_sum_r (ha : RB j a) (hb : RB k b) (hjk : j + k ≤ 8900) (q : Q (.sh (amR (a + b))) []) : EvF f__law_sum [.sh (amR a), .sh (amR b)] Q := law_sum_ev ha hb (den_pos a) (den_pos b) hjk (by rw [plusP_val]; exact q)
theorem law_less_by_r (ha : RB j a) (hb : RB k b) (hjk : j + k ≤ 8900) (q : Q (.sh (amR (a - b))) []) : EvF f__law_less_by [.sh (amR a), .sh (amR b)] Q := law_less_by_ev ha hb (den_pos a) (den_pos b) hjk (by rw [minusP_val]; exact q)
theorem law_product_r (ha : RB j a) (hb : RB k b) (hjk : j + k ≤ 8900) (q : Q (.sh (amR (a * b))) []) : EvF f__law_product [.sh (amR a), .sh (amR b)] Q := law_product_ev ha hb (den_pos a) (den_pos b) hjk (by rw [timesP_val]; exact q)
theorem law_share_of_r (ha : RB j a) (hb : RB k b) (h : b ≠ 0) (hjk : j + k ≤ 8900) (q : Q (.sh (amR (a / b))) []) : EvF f__law_share_of [.sh (amR a), .sh (amR b)] Q := law_share_of_ev ha hb (den_pos a) (num_ne h) hjk (by rw [byP_val a b h]; exact q)
end
end Lw
namespace Lw
open PySem PySem.Spec PyProof.Rows L2 RZ DL
local macro_rules | `(tactic| walk_at "sm") => `(tactic| first | assumption | exact sm_of (k := 200) (by omega) (by decide) | exact sm_of (k := 200) (by decide) (by decide))
local macro_rules | `(tactic| walk_at "w1") => `(tactic| ((conv => whnf); (try refine At.mk ?_)))
local macro_rules | `(tactic| walk_at "wa") => `(tactic| first
  | refine wox (ex_mul (Sm.mul (by walk_at "sm") (by walk_at "sm")) ?_)
  | refine wox (ex_mod (by first | decide | omega | assumption) ?_)
  | refine wox (ex_fdiv (Sm.div (by walk_at "sm") (by first | decide | omega | assumption)) ?_))
local macro_rules | `(tactic| walk_at "w") => `(tactic| ((first | refine nrm_go ?_ | refine WpS.ok ?_ | refine WpE.ok ?_ | skip); walk_at "w1"))
local macro_rules | `(tactic| walk_at "wm") => `(tactic| (walk_at "w"; (repeat (walk_at "wa"; walk_at "w1"))))
def b__law_coin (g__law_low g__law_take g__law_near : FnD) : FS :=
  (sRet (wCall 2 g__law_low (aVal (eFrz (wCall 2 g__law_near (aSlot 0 (aVal (eVar 1) aNil)))) (aVal (eOp dIx (eFrz (wLst (aVal (eC (.int 1)) (aVal (eC (.int 1)) (aVal (eC (.int 1)) (aVal (eC (.int 2)) (aVal (eC (.int 3)) (aVal (eOp dAdd (eC (.int 1)) (eFrz (wCall 2 g__law_take (aSlot 0 (aVal (eC (.int 9)) aNil))))) aNil)))))))) (eFrz (wCall 2 g__law_take (aSlot 0 (aVal (eC (.int 6)) aNil))))) aNil))))
abbrev f__law_coin : FnD := callF 2 [0] (b__law_coin f__law_low f__law_take f__law_near)
theorem coin_ev {xs : List Dt} {m : Int} (hx : BoxOk xs) (h0 : 0 ≤ m) (hs : m.natAbs < 2 ^ 200) {Q : Wt → List (List Dt) → Prop} (q : ∀ p ys, Am p → p.1.natAbs ≤ m.natAbs → p.2 ≤ 9 → BoxOk ys → Q (.sh (amt p)) [ys]) : EvF f__law_coin [.own xs, .sh (.int m)] Q := by
  refine ef_in rfl ?_
  unfold b__law_coin
  walk_at "wm"
  refine near_ev hx h0 (nat3000 hs) fun n ys h1 h2 hy => ?_
  walk_at "wm"
  refine take_ev hy (by decide) (sm_nat (by decide)) fun r ys h3 h4 hy => ?_
  walk_at "wm"
  refine take_ev hy (by decide) (sm_nat (by decide)) fun i ys h5 h6 hy => ?_
  refine wox (ix_den h5 h6 h3 h4 fun d h7 h8 => ?_)
  walk_at "wm"
  refine low_ev (by omega) (sm_nat (by omega)) ?_
  walk_at "wm"
  obtain ⟨a1, a2, a3, _⟩ := lowL_ok (n := n) (d := d) (by omega)
  exact q _ _ a1 (by omega) (by omega) hy
theorem coin_r {xs : List Dt} {m : Int} (hx : BoxOk xs) (h0 : 0 ≤ m) (hs : m.natAbs < 2 ^ 200) {Q : Wt → List (List Dt) → Prop} (q : ∀ (r : Rat) ys, r.num.natAbs ≤ m.natAbs → r.den ≤ 9 → BoxOk ys → Q (.sh (amR r)) [ys]) : EvF f__law_coin [.own xs, .sh (.int m)] Q :=
  coin_ev hx h0 hs fun p ys hp h1 h2 hy => by
    have e := am_val hp
    rw [← e] at h1 h2 ⊢
    have h2' : ((val p).den : Int) ≤ 9 := h2
    exact q _ _ h1 (by omega) hy
def b__law_above (g__law_low g__law_take : FnD) : FS :=
  (sRet (wCall 2 g__law_low (aVal (eOp dAdd (eC (.int 1)) (eFrz (wCall 2 g__law_take (aSlot 0 (aVal (eVar 1) aNil))))) (aVal (eOp dIx (eFrz (wLst (aVal (eC (.int 1)) (aVal (eC (.int 1)) (aVal (eC (.int 1)) (aVal (eC (.int 2)) (aVal (eC (.int 3)) (aVal (eOp dAdd (eC (.int 1)) (eFrz (wCall 2 g__law_take (aSlot 0 (aVal (eC (.int 9)) aNil))))) aNil)))))))) (eFrz (wCall 2 g__law_take (aSlot 0 (aVal (eC (.int 6)) aNil))))) aNil))))
abbrev f__law_above : FnD := callF 2 [0] (b__law_above f__law_low f__law_take)
theorem above_ev {xs : List Dt} {m : Int} (hx : BoxOk xs) (h0 : 0 < m) (hs : m.natAbs < 2 ^ 190) {Q : Wt → List (List Dt) → Prop} (q : ∀ p ys, Am p → 0 < p.1 → p.1 ≤ m → p.2 ≤ 9 → BoxOk ys → Q (.sh (amt p)) [ys]) : EvF f__law_above [.own xs, .sh (.int m)] Q := by
  refine ef_in rfl ?_
  unfold b__law_above
  walk_at "wm"
  refine take_ev hx h0 (sm_of hs (by decide)) fun n ys h1 h2 hy => ?_
  walk_at "wm"
  refine take_ev hy (by decide) (sm_nat (by decide)) fun r ys h3 h4 hy => ?_
  walk_at "wm"
  refine take_ev hy (by decide) (sm_nat (by decide)) fun i ys h5 h6 hy => ?_
  refine wox (ix_den h5 h6 h3 h4 fun d h7 h8 => ?_)
  walk_at "wm"
  refine low_ev (by omega) (sm_nat (by omega)) ?_
  walk_at "wm"
  obtain ⟨a1, a2, a3, a4⟩ := lowL_ok (n := 1 + n) (d := d) (by omega)
  have hp := a1.pos
  have h9 : 0 < (lowL (1 + n) d).1 := by
    rcases Int.lt_or_le 0 (lowL (1 + n) d).1 with h | h
    · exact h
    · have e1 : (1 + n) * (lowL (1 + n) d).2 ≤ 0 := by
        rw [a4]
        exact Int.mul_nonpos_of_nonpos_of_nonneg h (by omega)
      have e2 : 0 < (1 + n) * (lowL (1 + n) d).2 := Int.mul_pos (by omega) hp
      omega
  exact q _ _ a1 h9 (by omega) (by omega) hy
theorem above_r {xs : List Dt} {m : Int} (hx : BoxOk xs) (h0 : 0 < m) (hs : m.natAbs < 2 ^ 190) {Q : Wt → List (List Dt) → Prop} (q : ∀ (r : Rat) ys, 0 < r → r.num ≤ m → r.den ≤ 9 → BoxOk ys → Q (.sh (amR r)) [ys]) : EvF f__law_above [.own xs, .sh (.int m)] Q :=
  above_ev hx h0 hs fun p ys hp h0 h1 h2 hy => by
    have e := am_val hp
    rw [← e] at h0 h1 h2 ⊢
    have h2' : ((val p).den : Int) ≤ 9 := h2
    exact q _ _ (num_gt0.mp h0) h1 (by omega) hy
end Lw
namespace Lw
open PySem PySem.Spec PyProof.Rows L2 RZ DL
local macro_rules | `(tactic| walk_at "sm") => `(tactic| first | assumption | exact sm_of (k := 200) (by omega) (by decide) | exact sm_of (k := 200) (by decide) (by decide))
local macro_rules | `(tactic| walk_at "w1") => `(tactic| ((conv => whnf); (try refine At.mk ?_)))
local macro_rules | `(tactic| walk_at "wa") => `(tactic| first
  | refine wox (ex_mul (Sm.mul (by walk_at "sm") (by walk_at "sm")) ?_)
  | refine wox (ex_mod (by first | decide | omega | assumption) ?_)
  | refine wox (ex_fdiv (Sm.div (by walk_at "sm") (by first | decide | omega | assumption)) ?_))
local macro_rules | `(tactic| walk_at "w") => `(tactic| ((first | refine nrm_go ?_ | refine WpS.ok ?_ | refine WpE.ok ?_ | skip); walk_at "w1"))
local macro_rules | `(tactic| walk_at "wm") => `(tactic| (walk_at "w"; (repeat (walk_at "wa"; walk_at "w1"))))
def bLess : FS :=
  (sRet (wSh (eOp dLt (eOp dMul (eOp dIx (eVar 0) (eC (.int 0))) (eOp dIx (eVar 1) (eC (.int 1)))) (eOp dMul (eOp dIx (eVar 1) (eC (.int 0))) (eOp dIx (eVar 0) (eC (.int 1)))))))
theorem les_ev {x y : Int × Int} (hx : SmA x) (hy : SmA y) {Q : Wt → List (List Dt) → Prop} (q : Q (.sh (.bl (lessI x y))) []) : EvF (callF 2 [] bLess) [.sh (amt x), .sh (amt y)] Q := by
  obtain ⟨a1, a2⟩ := hx
  obtain ⟨b1, b2⟩ := hy
  refine ef_in rfl ?_
  unfold bLess
  walk_at "wm"
  exact q
def b_less : FS :=
  (sRet (wSh (eOp dLt (eOp dMul (eOp dIx (eVar 0) (eC (.int 0))) (eOp dIx (eVar 1) (eC (.int 1)))) (eOp dMul (eOp dIx (eVar 1) (eC (.int 0))) (eOp dIx (eVar 0) (eC (.int 1)))))))
abbrev f_less : FnD := callF 2 [] b_less
theorem less_ev {x y : Int × Int} (hx : SmA x) (hy : SmA y) {Q : Wt → List (List Dt) → Prop} (q : Q (.sh (.bl (lessI x y))) []) : EvF f_less [.sh (amt x), .sh (amt y)] Q := les_ev hx hy q
def b__law_under : FS :=
  (sRet (wSh (eOp dLt (eOp dMul (eOp dIx (eVar 0) (eC (.int 0))) (eOp dIx (eVar 1) (eC (.int 1)))) (eOp dMul (eOp dIx (eVar 1) (eC (.int 0))) (eOp dIx (eVar 0) (eC (.int 1)))))))
abbrev f__law_under : FnD := callF 2 [] b__law_under
theorem under_ev {x y : Int × Int} (hx : SmA x) (hy : SmA y) {Q : Wt → List (List Dt) → Prop} (q : Q (.sh (.bl (lessI x y))) []) : EvF f__law_under [.sh (amt x), .sh (amt y)] Q := les_ev hx hy q
section
variable {a b : Rat} {j k : Nat} {Q : Wt → List (List Dt) → Prop}
theorem less_r (ha : RB j a) (hb : RB k b) (hj : j ≤ 8999) (hk : k ≤ 8999) (q : Q (.sh (.bl (decide (a < b)))) []) : EvF f_less [.sh (amR a), .sh (amR b)] Q := less_ev (ha.sm hj) (hb.sm hk) (by rw [lessI_val]; exact q)
theorem under_r (ha : RB j a) (hb : RB k b) (hj : j ≤ 8999) (hk : k ≤ 8999) (q : Q (.sh (.bl (decide (a < b)))) []) : EvF f__law_under [.sh (amR a), .sh (amR b)] Q := under_ev (ha.sm hj) (hb.sm hk) (by rw [lessI_val]; exact q)
end
end Lw
namespace Lw
open PySem PySem.Spec PyProof.Rows L2 RZ DL
local macro_rules | `(tactic| walk_at "sm") => `(tactic| first | assumption | exact sm_of (k := 200) (by omega) (by decide) | exact sm_of (k := 200) (by decide) (by decide))
local macro_rules | `(tactic| walk_at "w1") => `(tactic| ((conv => whnf); (try refine At.mk ?_)))
local macro_rules | `(tactic| walk_at "wa") => `(tactic| first
  | refine wox (ex_mul (Sm.mul (by walk_at "sm") (by walk_at "sm")) ?_)
  | refine wox (ex_mod (by first | decide | omega | assumption) ?_)
  | refine wox (ex_fdiv (Sm.div (by walk_at "sm") (by first | decide | omega | assumption)) ?_))
local macro_rules | `(tactic| walk_at "w") => `(tactic| ((first | refine nrm_go ?_ | refine WpS.ok ?_ | refine WpE.ok ?_ | skip); walk_at "w1"))
local macro_rules | `(tactic| walk_at "wm") => `(tactic| (walk_at "w"; (repeat (walk_at "wa"; walk_at "w1"))))
/-! values -/
inductive Pw where
  | plus | minus | best | least
inductive Val where
  | price | coin (r : Rat) | of (r : Rat) (v : Val) | pair (o : Pw) (v w : Val)
def Pw.str : Pw → Str
  | .plus => "plus"
  | .minus => "minus"
  | .best => "best"
  | .least => "least"
def Val.dt : Val → Dt
  | .price => .tup [.str "price"]
  | .coin r => .tup [.str "coin", amR r]
  | .of r v => .tup [.str "of", amR r, v.dt]
  | .pair o v w => .tup [.str o.str, v.dt, w.dt]
def Pw.at : Pw → Rat → Rat → Rat
  | .plus, a, b => a + b
  | .minus, a, b => a - b
  | .best, a, b => if a < b then b else a
  | .least, a, b => if a < b then a else b
def Val.at (p : Rat) : Val → Rat
  | .price => p
  | .coin r => r
  | .of r v => r * v.at p
  | .pair o v w => o.at (v.at p) (w.at p)
/-- of at most so many deep, amounts of a kind -/
inductive VIs (P : Rat → Prop) : Nat → Val → Prop
  | price (n : Nat) : VIs P (n + 1) .price
  | coin (n : Nat) {r : Rat} : P r → VIs P (n + 1) (.coin r)
  | of (n : Nat) {r : Rat} {v : Val} : P r → VIs P n v → VIs P (n + 1) (.of r v)
  | pair (n : Nat) (o : Pw) {v w : Val} : VIs P n v → VIs P n w → VIs P (n + 1) (.pair o v w)
abbrev VOk (k : Nat) := VIs (RB k)
theorem VIs.imp {P Q : Rat → Prop} (pq : ∀ r, P r → Q r) : ∀ {n : Nat} {v : Val}, VIs P n v → VIs Q n v
  | _, _, .price n => .price n
  | _, _, .coin n h => .coin n (pq _ h)
  | _, _, .of n h hv => .of n (pq _ h) (hv.imp pq)
  | _, _, .pair n o hv hw => .pair n o (hv.imp pq) (hw.imp pq)
theorem VIs.mono {P : Rat → Prop} {m n : Nat} : ∀ {v : Val}, VIs P m v → m ≤ n → VIs P n v := by
  intro v h
  induction h generalizing n with
  | price m => intro hn; obtain ⟨n, rfl⟩ : ∃ j, n = j + 1 := ⟨n - 1, by omega⟩; exact .price n
  | coin m h => intro hn; obtain ⟨n, rfl⟩ : ∃ j, n = j + 1 := ⟨n - 1, by omega⟩; exact .coin n h
  | of m h _ ih => intro hn; obtain ⟨n, rfl⟩ : ∃ j, n = j + 1 := ⟨n - 1, by omega⟩; exact .of n h (ih (by omega))
  | pair m o _ _ i1 i2 => intro hn; obtain ⟨n, rfl⟩ : ∃ j, n = j + 1 := ⟨n - 1, by omega⟩; exact .pair n o (i1 (by omega)) (i2 (by omega))
def VB (k n : Nat) : Nat := (k + 1) * 2 ^ n
theorem VB_succ (k n : Nat) : VB k (n + 1) = VB k n + VB k n := by
  unfold VB
  rw [Nat.pow_succ, ← Nat.mul_assoc]
  omega
theorem VB_ge (k n : Nat) : k + 1 ≤ VB k n := by
  unfold VB
  exact Nat.le_mul_of_pos_right _ (Nat.two_pow_pos n)
theorem RB.mono {j k : Nat} {r : Rat} (h : RB j r) (hk : j ≤ k) : RB k r := by
  obtain ⟨a, b⟩ := h
  have := Nat.pow_le_pow_right (n := 2) (by decide) hk
  exact ⟨by omega, by omega⟩
theorem VIs.bd {k : Nat} {p : Rat} (hp : RB k p) : ∀ {n : Nat} {v : Val}, VOk k n v → RB (VB k n - 1) (v.at p)
  | _, _, .price n => hp.mono (by have := VB_ge k (n + 1); omega)
  | _, _, .coin n h => h.mono (by have := VB_ge k (n + 1); omega)
  | _, _, .of n h hv => (h.times (hv.bd hp)).mono (by have := VB_succ k n; have := VB_ge k n; omega)
  | _, _, .pair n o hv hw => by
    have h1 := hv.bd hp
    have h2 := hw.bd hp
    have h3 := VB_succ k n
    have h4 := VB_ge k n
    cases o with
    | plus => exact (h1.plus h2).mono (by omega)
    | minus => exact (h1.minus h2).mono (by omega)
    | best =>
      show RB _ (if _ then _ else _)
      split
      · exact h2.mono (by omega)
      · exact h1.mono (by omega)
    | least =>
      show RB _ (if _ then _ else _)
      split
      · exact h1.mono (by omega)
      · exact h2.mono (by omega)
def b_better (g_less : FnD) : FS :=
  (sRet (wIte (eFrz (wCall 2 g_less (aVal (eVar 0) (aVal (eVar 1) aNil)))) (wVar 1) (wVar 0)))
abbrev f_better : FnD := callF 2 [] (b_better f_less)
def b_worse (g_less : FnD) : FS :=
  (sRet (wIte (eFrz (wCall 2 g_less (aVal (eVar 0) (aVal (eVar 1) aNil)))) (wVar 0) (wVar 1)))
abbrev f_worse : FnD := callF 2 [] (b_worse f_less)
section
variable {a b : Rat} {j k : Nat} {Q : Wt → List (List Dt) → Prop}
theorem better_r (ha : RB j a) (hb : RB k b) (hj : j ≤ 8999) (hk : k ≤ 8999) (q : Q (.sh (amR (if a < b then b else a))) []) : EvF f_better [.sh (amR a), .sh (amR b)] Q := by
  refine ef_in rfl ?_
  unfold b_better
  walk_at "w"
  refine less_r ha hb hj hk ?_
  walk_at "w"
  refine wd (fun e => ?_) (fun e => ?_)
  · walk_at "w"
    rw [if_pos e] at q
    exact q
  · walk_at "w"
    rw [if_neg e] at q
    exact q
theorem worse_r (ha : RB j a) (hb : RB k b) (hj : j ≤ 8999) (hk : k ≤ 8999) (q : Q (.sh (amR (if a < b then a else b))) []) : EvF f_worse [.sh (amR a), .sh (amR b)] Q := by
  refine ef_in rfl ?_
  unfold b_worse
  walk_at "w"
  refine less_r ha hb hj hk ?_
  walk_at "w"
  refine wd (fun e => ?_) (fun e => ?_)
  · walk_at "w"
    rw [if_pos e] at q
    exact q
  · walk_at "w"
    rw [if_neg e] at q
    exact q
end
def tb_PAIRS : List (Str × Dt) := [("plus", .fn "plus"), ("minus", .fn "minus"), ("best", .fn "better"), ("least", .fn "worse")]
abbrev dt_PAIRS : List (Str × FnD) := [("plus", f_plus), ("minus", f_minus), ("better", f_better), ("worse", f_worse)]
def b_value_at (g_times g_value_at : FnD) (h_PAIRS : List (Str × FnD)) : FS :=
  (sSeq (sIf (eOp dEq (eOp dIx (eVar 0) (eC (.int 0))) (eC (.str "price"))) (sRet (wVar 1)) sNx)
    (sSeq (sIf (eOp dEq (eOp dIx (eVar 0) (eC (.int 0))) (eC (.str "coin"))) (sRet (wSh (eOp dIx (eVar 0) (eC (.int 1))))) sNx)
    (sSeq (sIf (eOp dEq (eOp dIx (eVar 0) (eC (.int 0))) (eC (.str "of"))) (sRet (wCall 2 g_times (aVal (eOp dIx (eVar 0) (eC (.int 1))) (aVal (eFrz (wCall 2 g_value_at (aVal (eOp dIx (eVar 0) (eC (.int 2))) (aVal (eVar 1) aNil)))) aNil)))) sNx)
    (sSeq (sAsg 2 (wSh (eUn (tabD tb_PAIRS) (eOp dIx (eVar 0) (eC (.int 0))))))
    (sRet (wCallL 2 2 h_PAIRS (aVal (eFrz (wCall 2 g_value_at (aVal (eOp dIx (eVar 0) (eC (.int 1))) (aVal (eVar 1) aNil)))) (aVal (eFrz (wCall 2 g_value_at (aVal (eOp dIx (eVar 0) (eC (.int 2))) (aVal (eVar 1) aNil)))) aNil))))))))
def fr_value_at : Nat → FnD
  | 0 => fun _ => none
  | n + 1 => callF 3 [] (b_value_at f_times (fr_value_at n) dt_PAIRS)
abbrev f_value_at : FnD := fr_value_at 6
/-- what value_at comes to -/
theorem value_at_eq {k : Nat} {p : Rat} (hp : RB k p) : ∀ {n : Nat} {v : Val}, VOk k n v → VB k n ≤ 4400 → fr_value_at n [.sh v.dt, .sh (amR p)] = some (.ok (.sh (amR (v.at p))), [])
  | _, _, .price n, hb => by
    refine fn_eq (ef_in rfl ?_)
    unfold b_value_at
    unfold Val.dt
    walk_at "w"
    exact ⟨rfl, rfl⟩
  | _, _, .coin n h, hb => by
    refine fn_eq (ef_in rfl ?_)
    unfold b_value_at
    unfold Val.dt
    walk_at "w"
    exact ⟨rfl, rfl⟩
  | _, _, .of n h hv, hb => by
    have h3 := VB_succ k n
    have h4 := VB_ge k n
    refine fn_eq (ef_in rfl ?_)
    unfold b_value_at
    unfold Val.dt
    walk_at "w"
    refine ef_eq (value_at_eq hp hv (by omega)) ?_
    walk_at "w"
    refine times_r h (hv.bd hp) (by omega) ?_
    walk_at "w"
    exact ⟨rfl, rfl⟩
  | _, _, .pair n o hv hw, hb => by
    have h3 := VB_succ k n
    have h4 := VB_ge k n
    have h1 := hv.bd hp
    have h2 := hw.bd hp
    refine fn_eq (ef_in rfl ?_)
    unfold b_value_at
    unfold Val.dt
    cases o with
    | plus =>
      walk_at "w"
      refine ef_eq (value_at_eq hp hv (by omega)) ?_
      walk_at "w"
      refine ef_eq (value_at_eq hp hw (by omega)) ?_
      walk_at "w"
      refine plus_r h1 h2 (by omega) ?_
      walk_at "w"
      exact ⟨rfl, rfl⟩
    | minus =>
      walk_at "w"
      refine ef_eq (value_at_eq hp hv (by omega)) ?_
      walk_at "w"
      refine ef_eq (value_at_eq hp hw (by omega)) ?_
      walk_at "w"
      refine minus_r h1 h2 (by omega) ?_
      walk_at "w"
      exact ⟨rfl, rfl⟩
    | best =>
      walk_at "w"
      refine ef_eq (value_at_eq hp hv (by omega)) ?_
      walk_at "w"
      refine ef_eq (value_at_eq hp hw (by omega)) ?_
      walk_at "w"
      refine better_r h1 h2 (by omega) (by omega) ?_
      walk_at "w"
      exact ⟨rfl, rfl⟩
    | least =>
      walk_at "w"
      refine ef_eq (value_at_eq hp hv (by omega)) ?_
      walk_at "w"
      refine ef_eq (value_at_eq hp hw (by omega)) ?_
      walk_at "w"
      refine worse_r h1 h2 (by omega) (by omega) ?_
      walk_at "w"
      exact ⟨rfl, rfl⟩
def b__law_at (g__law_product g__law_at g__law_sum g__law_less_by g__law_under : FnD) : FS :=
  (sSeq (sAsg 2 (wSh (eOp dIx (eVar 0) (eC (.int 0)))))
    (sSeq (sIf (eOp dEq (eVar 2) (eC (.str "price"))) (sRet (wVar 1)) sNx)
    (sSeq (sIf (eOp dEq (eVar 2) (eC (.str "coin"))) (sRet (wSh (eOp dIx (eVar 0) (eC (.int 1))))) sNx)
    (sSeq (sIf (eOp dEq (eVar 2) (eC (.str "of"))) (sRet (wCall 2 g__law_product (aVal (eOp dIx (eVar 0) (eC (.int 1))) (aVal (eFrz (wCall 2 g__law_at (aVal (eOp dIx (eVar 0) (eC (.int 2))) (aVal (eVar 1) aNil)))) aNil)))) sNx)
    (sSeq (sPar 3 4 (aVal (eFrz (wCall 2 g__law_at (aVal (eOp dIx (eVar 0) (eC (.int 1))) (aVal (eVar 1) aNil)))) (aVal (eFrz (wCall 2 g__law_at (aVal (eOp dIx (eVar 0) (eC (.int 2))) (aVal (eVar 1) aNil)))) aNil)))
    (sSeq (sIf (eOp dEq (eVar 2) (eC (.str "plus"))) (sRet (wCall 2 g__law_sum (aVal (eVar 3) (aVal (eVar 4) aNil)))) sNx)
    (sSeq (sIf (eOp dEq (eVar 2) (eC (.str "minus"))) (sRet (wCall 2 g__law_less_by (aVal (eVar 3) (aVal (eVar 4) aNil)))) sNx)
    (sRet (wIte (eOp dEq (eFrz (wCall 2 g__law_under (aVal (eVar 4) (aVal (eVar 3) aNil)))) (eOp dEq (eVar 2) (eC (.str "best")))) (wVar 3) (wVar 4))))))))))
def fr__law_at : Nat → FnD
  | 0 => fun _ => none
  | n + 1 => callF 5 [] (b__law_at f__law_product (fr__law_at n) f__law_sum f__law_less_by f__law_under)
abbrev f__law_at : FnD := fr__law_at 6
theorem law_at_eq {k : Nat} {p : Rat} (hp : RB k p) : ∀ {n : Nat} {v : Val}, VOk k n v → VB k n ≤ 4400 → fr__law_at n [.sh v.dt, .sh (amR p)] = some (.ok (.sh (amR (v.at p))), [])
  | _, _, .price n, hb => by
    refine fn_eq (ef_in rfl ?_)
    unfold b__law_at
    unfold Val.dt
    walk_at "w"
    exact ⟨rfl, rfl⟩
  | _, _, .coin n h, hb => by
    refine fn_eq (ef_in rfl ?_)
    unfold b__law_at
    unfold Val.dt
    walk_at "w"
    exact ⟨rfl, rfl⟩
  | _, _, .of n h hv, hb => by
    have h3 := VB_succ k n
    have h4 := VB_ge k n
    refine fn_eq (ef_in rfl ?_)
    unfold b__law_at
    unfold Val.dt
    walk_at "w"
    refine ef_eq (law_at_eq hp hv (by omega)) ?_
    walk_at "w"
    refine law_product_r h (hv.bd hp) (by omega) ?_
    walk_at "w"
    exact ⟨rfl, rfl⟩
  | _, _, .pair n o hv hw, hb => by
    have h3 := VB_succ k n
    have h4 := VB_ge k n
    have h1 := hv.bd hp
    have h2 := hw.bd hp
    refine fn_eq (ef_in rfl ?_)
    unfold b__law_at
    unfold Val.dt
    cases o with
    | plus =>
      walk_at "w"
      refine ef_eq (law_at_eq hp hv (by omega)) ?_
      walk_at "w"
      refine ef_eq (law_at_eq hp hw (by omega)) ?_
      walk_at "w"
      refine law_sum_r h1 h2 (by omega) ?_
      walk_at "w"
      exact ⟨rfl, rfl⟩
    | minus =>
      walk_at "w"
      refine ef_eq (law_at_eq hp hv (by omega)) ?_
      walk_at "w"
      refine ef_eq (law_at_eq hp hw (by omega)) ?_
      walk_at "w"
      refine law_less_by_r h1 h2 (by omega) ?_
      walk_at "w"
      exact ⟨rfl, rfl⟩
    | best =>
      walk_at "w"
      refine ef_eq (law_at_eq hp hv (by omega)) ?_
      walk_at "w"
      refine ef_eq (law_at_eq hp hw (by omega)) ?_
      walk_at "w"
      refine under_r h2 h1 (by omega) (by omega) ?_
      walk_at "w"
      refine wd (fun e => ?_) (fun e => ?_)
      · have e1 := of_decide_eq_true (e.trans (by rfl))
        walk_at "w"
        refine ⟨?_, rfl⟩
        show Wt.sh (amR _) = Wt.sh (amR (if _ then _ else _))
        rw [if_neg (by grind)]
      · have e1 : ¬ _ < _ := fun z => e ((decide_eq_true z).trans (by rfl))
        walk_at "w"
        refine ⟨?_, rfl⟩
        show Wt.sh (amR _) = Wt.sh (amR (if _ then _ else _))
        split
        · rfl
        · congr 1
          grind
    | least =>
      walk_at "w"
      refine ef_eq (law_at_eq hp hv (by omega)) ?_
      walk_at "w"
      refine ef_eq (law_at_eq hp hw (by omega)) ?_
      walk_at "w"
      refine under_r h2 h1 (by omega) (by omega) ?_
      walk_at "w"
      refine wd (fun e => ?_) (fun e => ?_)
      · have e1 := of_decide_eq_false (e.trans (by rfl))
        walk_at "w"
        refine ⟨?_, rfl⟩
        show Wt.sh (amR _) = Wt.sh (amR (if _ then _ else _))
        split
        · rfl
        · congr 2
          grind
      · have e1 := of_decide_eq_true (eq_true_of_ne_false fun z => e (z.trans (by rfl)))
        walk_at "w"
        refine ⟨?_, rfl⟩
        show Wt.sh (amR _) = Wt.sh (amR (if _ then _ else _))
        rw [if_neg (by grind)]
end Lw
namespace Lw
open PySem PySem.Spec PyProof.Rows L2 RZ DL
local macro_rules | `(tactic| walk_at "sm") => `(tactic| first | assumption | exact sm_of (k := 200) (by omega) (by decide) | exact sm_of (k := 200) (by decide) (by decide))
local macro_rules | `(tactic| walk_at "w1") => `(tactic| ((conv => whnf); (try refine At.mk ?_)))
local macro_rules | `(tactic| walk_at "wa") => `(tactic| first
  | refine wox (ex_mul (Sm.mul (by walk_at "sm") (by walk_at "sm")) ?_)
  | refine wox (ex_mod (by first | decide | omega | assumption) ?_)
  | refine wox (ex_fdiv (Sm.div (by walk_at "sm") (by first | decide | omega | assumption)) ?_))
local macro_rules | `(tactic| walk_at "w") => `(tactic| ((first | refine nrm_go ?_ | refine WpS.ok ?_ | refine WpE.ok ?_ | skip); walk_at "w1"))
local macro_rules | `(tactic| walk_at "wm") => `(tactic| (walk_at "w"; (repeat (walk_at "wa"; walk_at "w1"))))
def b__law_same (g__law_same : FnD) : FS :=
  (sSeq (sIf (eOp dIs (eVar 1) (eC .non)) (sRet (wSh (eOp dIs (eVar 0) (eC .non)))) sNx)
    (sSeq (sIf (eOr (eCB dIsi (aVal (eVar 1) (aVal (eC (.ty "list")) aNil))) (eCB dIsi (aVal (eVar 1) (aVal (eC (.ty "tuple")) aNil)))) (sSeq (sIf (eOr (eOp dNe (eCB dIsi (aVal (eVar 0) (aVal (eC (.ty "list")) aNil))) (eCB dIsi (aVal (eVar 1) (aVal (eC (.ty "list")) aNil)))) (eOp dNe (eCB dIsi (aVal (eVar 0) (aVal (eC (.ty "tuple")) aNil))) (eCB dIsi (aVal (eVar 1) (aVal (eC (.ty "tuple")) aNil))))) (sRet (wSh (eC (.bl false)))) sNx)
    (sRet (wSh (eAnd (eOp dEq (eCB dLen (aVal (eVar 0) aNil)) (eCB dLen (aVal (eVar 1) aNil))) (eCB dAll (aVal (eFrz (wLc [2, 3] (iArgs zipO (aVal (eVar 0) (aVal (eVar 1) aNil))) (gT 2 (gsCons (gN 2) (gsCons (gN 3) gsNil))) (eC (.bl true)) (eFrz (wCall 2 g__law_same (aVal (eVar 2) (aVal (eVar 3) aNil)))))) aNil)))))) sNx)
    (sSeq (sIf (eOr (eOp dNe (eCB dIsi (aVal (eVar 1) (aVal (eC (.ty "bool")) aNil))) (eCB dIsi (aVal (eVar 0) (aVal (eC (.ty "bool")) aNil)))) (eOp dNe (eCB dIsi (aVal (eVar 1) (aVal (eC (.ty "int")) aNil))) (eCB dIsi (aVal (eVar 0) (aVal (eC (.ty "int")) aNil))))) (sRet (wSh (eC (.bl false)))) sNx)
    (sRet (wSh (eAnd (eOp dEq (eCB dIsi (aVal (eVar 0) (aVal (eC (.ty "str")) aNil))) (eCB dIsi (aVal (eVar 1) (aVal (eC (.ty "str")) aNil)))) (eOp dEq (eVar 0) (eVar 1))))))))
def fr__law_same : Nat → FnD
  | 0 => fun _ => none
  | n + 1 => callF 4 [] (b__law_same (fr__law_same n))
abbrev f__law_same : FnD := fr__law_same 20
/-! the data that `same` takes -/
mutual
inductive Same1 : Nat → Dt → Prop
  | non (n : Nat) : Same1 n .non
  | bl (n : Nat) (b : Bool) : Same1 n (.bl b)
  | int (n : Nat) (i : Int) : Same1 n (.int i)
  | str (n : Nat) (x : Str) : Same1 n (.str x)
  | tup (n : Nat) {xs : List Dt} : Same2 n xs → xs.length ≤ 1000 → Same1 (n + 1) (.tup xs)
  | lst (n : Nat) {xs : List Dt} : Same2 n xs → xs.length ≤ 1000 → Same1 (n + 1) (.lst xs)
inductive Same2 : Nat → List Dt → Prop
  | nil (n : Nat) : Same2 n []
  | cons {n : Nat} {d : Dt} {ds : List Dt} : Same1 n d → Same2 n ds → Same2 n (d :: ds)
end
theorem bools_rep (n : Nat) : bools (List.replicate n (.bl true)) = some (List.replicate n true) := by
  induction n with
  | zero => rfl
  | succ n ih => rw [List.replicate_succ, List.replicate_succ]; unfold bools; rw [ih]; rfl
theorem same_comp {n : Nat} (ih : ∀ d, Same1 n d → fr__law_same (n + 1) [.sh d, .sh d] = some (.ok (.sh (.bl true)), [])) (d1 d2 : Dt) (xs : List Dt) (hs : Same2 n xs) (hl : xs.length ≤ 1000) :
    EvL [2, 3] (gT 2 (gsCons (gN 2) (gsCons (gN 3) gsNil))) (eC (.bl true)) (eFrz (wCall 2 (fr__law_same (n + 1)) (aVal (eVar 2) (aVal (eVar 3) aNil)))) (zipD xs xs) [some (.sh d1), some (.sh d2), none, none] [] fun ys ρ' => ys = List.replicate xs.length (.bl true) ∧ ρ' = [some (.sh d1), some (.sh d2), none, none] := by
  refine lc_inv (fun ds ρ acc => ∃ (zs : List Dt) (k : Nat), ds = zipD zs zs ∧ Same2 n zs ∧ ρ = [some (.sh d1), some (.sh d2), none, none] ∧ acc = List.replicate k (.bl true) ∧ k + zs.length = xs.length) ?_ ?_ _ _ _ ⟨xs, 0, rfl, hs, rfl, rfl, by omega⟩
  · rintro d ds ρ acc ⟨zs, k, e, hz, rfl, rfl, hk⟩
    cases hz with
    | nil => cases e
    | cons h hs =>
      rename_i z zs
      have e' : d = .tup [z, z] ∧ ds = zipD zs zs := by
        injection e with e1 e2
        exact ⟨e1, e2⟩
      obtain ⟨rfl, rfl⟩ := e'
      rw [List.length_cons] at hk
      walk_at "w"
      refine ef_eq (ih z h) ?_
      refine ⟨by rw [List.length_replicate]; omega, zs, k + 1, rfl, hs, rfl, ?_, by omega⟩
      exact (List.replicate_succ' (n := k) (a := Dt.bl true)).symm
  · rintro ρ acc ⟨zs, k, e, hz, rfl, rfl, hk⟩
    cases hz with
    | nil => simp at hk; rw [hk]; exact ⟨rfl, rfl⟩
    | cons h hs => cases e
theorem same_eq : ∀ (n : Nat) (d : Dt), Same1 n d → fr__law_same (n + 1) [.sh d, .sh d] = some (.ok (.sh (.bl true)), [])
  | _, _, .non n => rfl
  | _, _, .bl n b => by
    refine fn_eq (ef_in rfl ?_)
    unfold b__law_same
    walk_at "w"
    exact ⟨by simp, rfl⟩
  | _, _, .int n i => by
    refine fn_eq (ef_in rfl ?_)
    unfold b__law_same
    walk_at "w"
    exact ⟨by simp, rfl⟩
  | _, _, .str n x => by
    refine fn_eq (ef_in rfl ?_)
    unfold b__law_same
    walk_at "w"
    exact ⟨by simp, rfl⟩
  | _, _, .tup n hs hl => by
    refine fn_eq (ef_in rfl ?_)
    unfold b__law_same
    walk_at "w"
    refine wtt (by simp) ?_
    walk_at "w"
    refine (same_comp (same_eq n) (.tup _) (.tup _) _ hs hl).imp ?_
    rintro _ _ ⟨rfl, rfl⟩
    walk_at "w"
    refine wo (by unfold dAll; dsimp only; rw [bools_rep]; rfl) ?_
    walk_at "w"
    exact ⟨by simp, rfl⟩
  | _, _, .lst n hs hl => by
    refine fn_eq (ef_in rfl ?_)
    unfold b__law_same
    walk_at "w"
    refine wtt (by simp) ?_
    walk_at "w"
    refine (same_comp (same_eq n) (.lst _) (.lst _) _ hs hl).imp ?_
    rintro _ _ ⟨rfl, rfl⟩
    walk_at "w"
    refine wo (by unfold dAll; dsimp only; rw [bools_rep]; rfl) ?_
    walk_at "w"
    exact ⟨by simp, rfl⟩
theorem same_amt (n : Nat) (p : Int × Int) : Same1 (n + 1) (amt p) := .tup n (.cons (.int n _) (.cons (.int n _) (.nil n))) (Nat.le_of_ble_eq_true rfl)
end Lw
namespace Lw
open PySem PySem.Spec PyProof.Rows L2 RZ DL
local macro_rules | `(tactic| walk_at "sm") => `(tactic| first | assumption | exact sm_of (k := 200) (by omega) (by decide) | exact sm_of (k := 200) (by decide) (by decide))
local macro_rules | `(tactic| walk_at "w1") => `(tactic| ((conv => whnf); (try refine At.mk ?_)))
local macro_rules | `(tactic| walk_at "wa") => `(tactic| first
  | refine wox (ex_mul (Sm.mul (by walk_at "sm") (by walk_at "sm")) ?_)
  | refine wox (ex_mod (by first | decide | omega | assumption) ?_)
  | refine wox (ex_fdiv (Sm.div (by walk_at "sm") (by first | decide | omega | assumption)) ?_))
local macro_rules | `(tactic| walk_at "w") => `(tactic| ((first | refine nrm_go ?_ | refine WpS.ok ?_ | refine WpE.ok ?_ | skip); walk_at "w1"))
local macro_rules | `(tactic| walk_at "wm") => `(tactic| (walk_at "w"; (repeat (walk_at "wa"; walk_at "w1"))))
/-- an amount that coin draws -/
def CoinOk (m : Nat) (r : Rat) : Prop := r.num.natAbs ≤ m ∧ r.den ≤ 9
theorem CoinOk.rb {m : Nat} {r : Rat} (h : CoinOk m r) (hm : m < 2 ^ 10) : RB 10 r := by
  obtain ⟨h1, h2⟩ := h
  exact ⟨by show r.num.natAbs < 2 ^ 10; omega, by show (r.den : Int).natAbs < 2 ^ 10; omega⟩
theorem CoinOk.mono {m n : Nat} {r : Rat} (h : CoinOk m r) (hm : m ≤ n) : CoinOk n r := ⟨Nat.le_trans h.1 hm, h.2⟩
theorem ix_two {i : Int} {a b : Dt} {Q : Dt → Prop} (hi : 0 ≤ i) (h2 : i < 2) (qa : Q a) (qb : Q b) : ∃ g, dIx (.lst [a, b]) (.int i) = some g ∧ Q g := by
  have : i = 0 ∨ i = 1 := by omega
  rcases this with rfl | rfl
  · exact ⟨_, rfl, qa⟩
  · exact ⟨_, rfl, qb⟩
theorem ix_word {i : Int} {Q : Dt → Prop} (hi : 0 ≤ i) (h2 : i < 4) (q : ∀ o : Pw, Q (.str o.str)) : ∃ g, dIx (.lst [.str "plus", .str "minus", .str "best", .str "least"]) (.int i) = some g ∧ Q g := by
  have : i = 0 ∨ i = 1 ∨ i = 2 ∨ i = 3 := by omega
  rcases this with rfl | rfl | rfl | rfl
  · exact ⟨_, rfl, q .plus⟩
  · exact ⟨_, rfl, q .minus⟩
  · exact ⟨_, rfl, q .best⟩
  · exact ⟨_, rfl, q .least⟩
def b__law_value (g__law_take g__law_coin g__law_value : FnD) : FS :=
  (sSeq (sAsg 2 (wCall 2 g__law_take (aSlot 0 (aVal (eC (.int 8)) aNil))))
    (sSeq (sIf (eOr (eOp dLt (eVar 1) (eC (.int 2))) (eOp dLt (eVar 2) (eC (.int 4)))) (sRet (wSh (eOp dIx (eFrz (wLst (aVal (eTup (aVal (eC (.str "price")) aNil)) (aVal (eTup (aVal (eC (.str "coin")) (aVal (eFrz (wCall 2 g__law_coin (aSlot 0 (aVal (eC (.int 40)) aNil)))) aNil))) aNil)))) (eOp dMod (eVar 2) (eC (.int 2)))))) sNx)
    (sSeq (sIf (eOp dEq (eVar 2) (eC (.int 4))) (sRet (wSh (eTup (aVal (eC (.str "of")) (aVal (eFrz (wCall 2 g__law_coin (aSlot 0 (aVal (eC (.int 5)) aNil)))) (aVal (eFrz (wCall 2 g__law_value (aSlot 0 (aVal (eOp dSub (eVar 1) (eC (.int 1))) aNil)))) aNil)))))) sNx)
    (sSeq (sAsg 3 (wSh (eOp dIx (eFrz (wLst (aVal (eC (.str "plus")) (aVal (eC (.str "minus")) (aVal (eC (.str "best")) (aVal (eC (.str "least")) aNil)))))) (eFrz (wCall 2 g__law_take (aSlot 0 (aVal (eC (.int 4)) aNil)))))))
    (sRet (wSh (eTup (aVal (eVar 3) (aVal (eFrz (wCall 2 g__law_value (aSlot 0 (aVal (eOp dSub (eVar 1) (eC (.int 1))) aNil)))) (aVal (eFrz (wCall 2 g__law_value (aSlot 0 (aVal (eOp dSub (eVar 1) (eC (.int 1))) aNil)))) aNil))))))))))
def fr__law_value : Nat → FnD
  | 0 => fun _ => none
  | n + 1 => callF 4 [0] (b__law_value f__law_take f__law_coin (fr__law_value n))
abbrev f__law_value : FnD := fr__law_value 5
theorem value_ev : ∀ (n d : Nat) {xs : List Dt} {m : Int} {Q : Wt → List (List Dt) → Prop}, d ≤ n → BoxOk xs → m = d + 1 → (∀ v ys, VIs (CoinOk 40) (d + 1) v → BoxOk ys → Q (.sh v.dt) [ys]) → EvF (fr__law_value (n + 1)) [.own xs, .sh (.int m)] Q := by
  intro n
  induction n with
  | zero =>
    intro d xs m Q hd hx hm VQ
    refine ef_in rfl ?_
    unfold b__law_value
    walk_at "w"
    refine take_ev hx (by decide) (sm_nat (by decide)) fun kd ys h1 h2 hy => ?_
    walk_at "w"
    refine wtt (decide_eq_true (by omega)) ?_
    walk_at "w"
    refine coin_r (by assumption) (by decide) (by decide) fun r ys h3 h4 hy2 => ?_
    walk_at "w"
    refine wox (ix_two (mod_bd (by decide)).1 (mod_bd (by decide)).2 ?_ ?_)
    · walk_at "w"
      exact VQ .price _ (.price _) hy2
    · walk_at "w"
      exact VQ (.coin r) _ (.coin _ ⟨h3, h4⟩) hy2
  | succ n ih =>
    intro d xs m Q hd hx hm VQ
    refine ef_in rfl ?_
    unfold b__law_value
    walk_at "w"
    refine take_ev hx (by decide) (sm_nat (by decide)) fun kd ys h1 h2 hy => ?_
    walk_at "w"
    refine wd (fun e => ?_) (fun e => ?_)
    · walk_at "w"
      refine coin_r (by assumption) (by decide) (by decide) fun r ys h3 h4 hy2 => ?_
      walk_at "w"
      refine wox (ix_two (mod_bd (by decide)).1 (mod_bd (by decide)).2 ?_ ?_)
      · walk_at "w"
        exact VQ .price _ (.price _) hy2
      · walk_at "w"
        exact VQ (.coin r) _ (.coin _ ⟨h3, h4⟩) hy2
    · walk_at "w"
      refine wd (fun e2 => ?_) (fun e2 => ?_)
      · walk_at "w"
        refine coin_r (by assumption) (by decide) (by decide) fun r ys h3 h4 hy2 => ?_
        walk_at "w"
        refine wox (ix_two (mod_bd (by decide)).1 (mod_bd (by decide)).2 ?_ ?_)
        · walk_at "w"
          exact VQ .price _ (.price _) hy2
        · walk_at "w"
          exact VQ (.coin r) _ (.coin _ ⟨h3, h4⟩) hy2
      · obtain ⟨d, rfl⟩ : ∃ j, d = j + 1 := ⟨d - 1, by omega⟩
        walk_at "w"
        refine wd (fun e3 => ?_) (fun e3 => ?_)
        · walk_at "w"
          refine coin_r hy (by decide) (by decide) fun r ys h3 h4 hy => ?_
          walk_at "w"
          refine ih d (by omega) hy (by omega) fun v ys hv hy => ?_
          walk_at "w"
          exact VQ (.of r v) _ (.of _ ⟨by omega, h4⟩ hv) hy
        · walk_at "w"
          refine take_ev hy (by decide) (sm_nat (by decide)) fun w ys h3 h4 hy => ?_
          walk_at "w"
          refine wox (ix_word h3 h4 fun o => ?_)
          walk_at "w"
          refine ih d (by omega) hy (by omega) fun v ys hv hy => ?_
          walk_at "w"
          refine ih d (by omega) hy (by omega) fun v2 ys hv2 hy => ?_
          walk_at "w"
          exact VQ (.pair o v v2) _ (.pair _ o hv hv2) hy
/-! what `same` says of a value -/
theorem same_val {P : Rat → Prop} : ∀ {n : Nat} {v : Val}, VIs P n v → Same1 (n + 1) v.dt
  | _, _, .price n => .tup _ (.cons (.str _ _) (.nil _)) (Nat.le_of_ble_eq_true rfl)
  | _, _, .coin n h => .tup _ (.cons (.str _ _) (.cons (same_amt n _) (.nil _))) (Nat.le_of_ble_eq_true rfl)
  | _, _, .of n h hv => .tup _ (.cons (.str _ _) (.cons (same_amt n _) (.cons (same_val hv) (.nil _)))) (Nat.le_of_ble_eq_true rfl)
  | _, _, .pair n o hv hw => .tup _ (.cons (.str _ _) (.cons (same_val hv) (.cons (same_val hw) (.nil _)))) (Nat.le_of_ble_eq_true rfl)
end Lw
namespace Lw
open PySem PySem.Spec PyProof.Rows L2 RZ DL
local macro_rules | `(tactic| walk_at "sm") => `(tactic| first | assumption | exact sm_of (k := 200) (by omega) (by decide) | exact sm_of (k := 200) (by decide) (by decide))
local macro_rules | `(tactic| walk_at "ev3") => `(tactic| first
  | (with_reducible first
    | refine es_seq ?_ | refine es_asg ?_ | refine es_ret ?_ | refine es_if ?_ | refine es_par ?_ | refine es_put ?_ | refine es_nx ?_ | refine es_drop ?_ | refine es_asgT ?_
    | refine ew_sh ?_ | refine ev_frz ?_ | refine ew_lst ?_ | refine ew_call ?_ | refine ew_ite ?_ | refine ew_lc ?_ | refine ev_op ?_ | refine ev_un ?_ | refine ev_not ?_ | refine ev_and ?_ | refine ev_or ?_ | refine ev_ite ?_ | refine ev_chain ?_
    | refine ea_nil ?_ | refine ea_val ?_ | refine ea_tmp ?_ | refine ew_cat ?_ | refine ev_tup ?_ | refine ev_cb ?_ | refine ev_c ?_ | refine ev_sl00 ?_ | refine ev_sl01 ?_ | refine ev_sl10 ?_ | refine ev_sl11 ?_ | refine ei_args ?_ | refine ei_seq ?_ | refine es_for ?_ | refine es_while ?_ | refine ev_opR ?_
    | refine ex_add ?_ | refine ex_sub ?_ | refine ex_lt ?_ | refine ex_le ?_ | refine ex_gt ?_ | refine ex_ge ?_ | refine ex_eqI ?_ | refine ex_neI ?_ | refine ex_eqS ?_ | refine ex_neS ?_ | refine ex_eqB ?_ | refine ex_neB ?_ | refine ex_neg ?_)
  | ((with_reducible refine nrm_eq (ρ' := ?r) ?e ?_); (case e => (try dsimp only [List.set_cons_zero, List.set_cons_succ, putBack, slotsOf, wipeR, restR, keepSh, List.map_cons, List.map_nil, List.cons_append, List.nil_append, List.append_nil, List.length_cons, List.length_nil, Nat.reduceAdd, Nat.reduceSub, List.replicate, List.getElem?_cons_zero, List.getElem?_cons_succ, frz, startW]); exact rfl))
  | refine ev_var rfl ?_ | refine ev_varO rfl ?_ | refine ew_var rfl ?_ | refine ew_varO rfl ?_ | refine ea_slot rfl ?_ | refine ev_ixV rfl ?_ | refine es_app rfl ?_ | refine es_ext rfl ?_ | refine ev_opL rfl ?_ | refine ev_cbV rfl rfl rfl ?_
  | (with_reducible refine ex_mod ?_ ?_; first | decide | omega | assumption)
  | (with_reducible refine ex_fdiv ?_ ?_; refine Sm.div ?_ ?_; walk_at "sm"; first | decide | omega | assumption)
  | (with_reducible refine ex_mul ?_ ?_; refine Sm.mul ?_ ?_; walk_at "sm"; walk_at "sm")
  | ((with_reducible show Exists _); (fail_if_success (with_reducible show ∃ g, dMul _ _ = some g ∧ _)); (fail_if_success (with_reducible show ∃ g, dFdiv _ _ = some g ∧ _)); (fail_if_success (with_reducible show ∃ g, dMod _ _ = some g ∧ _)); (fail_if_success (with_reducible show ∃ g, dNe _ _ = some g ∧ _)); (fail_if_success (with_reducible show ∃ g, dEq _ _ = some g ∧ _));
     first | refine ⟨_, rfl, Nat.le_of_ble_eq_true rfl, ?_⟩ | refine ⟨_, rfl, rfl, List.nodup_nil, ?_⟩ | refine ⟨_, rfl, rfl, nodup1, ?_⟩ | refine ⟨_, rfl, rfl, nodup2 (by decide), ?_⟩ | refine ⟨_, rfl, ?_⟩ | refine ⟨_, _, rfl, rfl, ?_⟩ | refine ⟨_, _, rfl, ?_⟩ | refine ⟨_, _, _, rfl, rfl, rfl, ?_⟩))
/-! notes -/
inductive Note where
  | none | pay (d : Int) (v : Val) | now (v : Val) | both (a b : Note) | times (r : Rat) (a : Note) | turn (a : Note)
  | till (up : Bool) (l : Rat) (a b : Note) | may (x : Str) (h : Bool) (b e : Int) (s l : Note) | seen (pk : Bool) (d : Int) (k : Rat) (p : Option Rat) | use (x : Str)
def sideS : Bool → Str
  | true => "up"
  | false => "down"
def ownS : Bool → Str
  | true => "holder"
  | false => "writer"
def wordS : Bool → Str
  | true => "peak"
  | false => "total"
def optD : Option Rat → Dt
  | .none => .non
  | .some r => amR r
def Note.dt : Note → Dt
  | .none => .tup [.str "none"]
  | .pay d v => .tup [.str "pay", .int d, v.dt]
  | .now v => .tup [.str "now", v.dt]
  | .both a b => .tup [.str "both", a.dt, b.dt]
  | .times r a => .tup [.str "times", amR r, a.dt]
  | .turn a => .tup [.str "turn", a.dt]
  | .till u l a b => .tup [.str "till", .str (sideS u), amR l, a.dt, b.dt]
  | .may x h b e s l => .tup [.str "may", .str x, .str (ownS h), .int b, .int e, s.dt, l.dt]
  | .seen k d s p => .tup [.str "seen", .str (wordS k), .int d, amR s, optD p]
  | .use x => .tup [.str "use", .str x]
def Note.deep : Note → Nat
  | .both a b => max a.deep b.deep + 1
  | .times _ a => a.deep + 1
  | .turn a => a.deep + 1
  | .till _ _ a b => max a.deep b.deep + 1
  | .may _ _ _ _ s l => max s.deep l.deep + 1
  | _ => 1
def Note.parts : Note → Nat
  | .both a b => a.parts + b.parts + 1
  | .times _ a => a.parts + 1
  | .turn a => a.parts + 1
  | .till _ _ a b => a.parts + b.parts + 1
  | .may _ _ _ _ s l => s.parts + l.parts + 1
  | _ => 1
def Note.isNone : Note → Bool
  | .none => true
  | _ => false
/-! what happens to a note -/
inductive Res where
  | ask (h : Bool) (x : Str) | fin (q : Rat) (r : Note) (as : List Bool)
def blT (as : List Bool) : Dt := .tup (as.map .bl)
def Res.dt : Res → Dt
  | .ask h x => .tup [.str "ask", .str (ownS h), .str x]
  | .fin q r as => .tup [.str "end", amR q, r.dt, blT as]
def bothOf : Note → Note → Note
  | .none, b => b
  | a, .none => a
  | a, b => .both a b
def Note.timesOf (r : Rat) : Note → Note
  | .none => .none
  | a => .times r a
def Note.turnOf : Note → Note
  | .none => .none
  | a => .turn a
def touched (u : Bool) (l p : Rat) : Bool := if u then !decide (p < l) else !decide (l < p)
def seenNow (k : Bool) (p : Rat) : Option Rat → Rat
  | .none => p
  | .some b => if k then (if b < p then p else b) else b + p
def Note.live (t : Int) (p : Rat) : Note → List Bool → Res
  | .none, as => .fin 0 .none as
  | .pay d v, as => if t < d then .fin 0 (.pay d v) as else .fin (if t = d then v.at p else 0) .none as
  | .now v, as => .fin (v.at p) .none as
  | .both a b, as => match a.live t p as with
    | .ask h x => .ask h x
    | .fin q r as1 => match b.live t p as1 with
      | .ask h x => .ask h x
      | .fin q2 r2 as2 => .fin (q + q2) (bothOf r r2) as2
  | .times m a, as => match a.live t p as with
    | .ask h x => .ask h x
    | .fin q r as1 => .fin (m * q) (r.timesOf m) as1
  | .turn a, as => match a.live t p as with
    | .ask h x => .ask (!h) x
    | .fin q r as1 => .fin (0 - q) r.turnOf as1
  | .till u l a b, as => if touched u l p = true then b.live t p as else match a.live t p as with
    | .ask h x => .ask h x
    | .fin q r as1 => .fin q (.till u l r b) as1
  | .may x h b e s l, as => if b ≤ t ∧ t ≤ e then (match as with
      | [] => .ask h x
      | true :: as1 => l.live t p as1
      | false :: as1 => match s.live t p as1 with
        | .ask h x => .ask h x
        | .fin q r as2 => if e ≤ t then .fin q r as2 else .fin q (.may x h b e r l) as2)
    else match s.live t p as with
      | .ask h x => .ask h x
      | .fin q r as2 => if e ≤ t then .fin q r as2 else .fin q (.may x h b e r l) as2
  | .seen k d s b, as => if d < t then .fin 0 .none as else if t < d then .fin 0 (.seen k d s (some (seenNow k p b))) as else .fin (if 0 < seenNow k p b - s then seenNow k p b - s else 0) .none as
  | .use x, as => .fin 0 (.use x) as
/-! sizes -/
def PastOk (s : Nat) : Option Rat → Prop
  | .none => True
  | .some q => RB s q
/-- one to six small letters -/
def NameOk (x : Str) : Prop := 1 ≤ x.length ∧ x.length ≤ 6 ∧ ∀ c ∈ x.cps.toList, 97 ≤ c ∧ c ≤ 122
def Note.Ok (s : Nat) : Note → Prop
  | .none => True
  | .pay _ v => VIs (RB 10) 4 v
  | .now v => VIs (RB 10) 4 v
  | .both a b => a.Ok s ∧ b.Ok s
  | .times r a => RB 10 r ∧ a.Ok s
  | .turn a => a.Ok s
  | .till _ l a b => RB 10 l ∧ a.Ok s ∧ b.Ok s
  | .may x _ _ _ a b => NameOk x ∧ a.Ok s ∧ b.Ok s
  | .seen _ _ k p => RB 10 k ∧ PastOk s p
  | .use _ => False
def Note.nb : Note → Nat
  | .none => 1
  | .pay _ _ => 200
  | .now _ => 200
  | .both a b => a.nb + b.nb + 1
  | .times _ a => a.nb + 10
  | .turn a => a.nb + 2
  | .till _ _ a b => a.nb + b.nb
  | .may _ _ _ _ a b => a.nb + b.nb
  | .seen _ _ _ _ => 200
  | .use _ => 1
theorem Note.nb_pos : ∀ n : Note, 1 ≤ n.nb := by
  intro n
  induction n <;> simp only [Note.nb] <;> omega
theorem Note.nb_parts : ∀ n : Note, n.nb ≤ 213 * n.parts := by
  intro n
  induction n <;> simp only [Note.nb, Note.parts] <;> omega
theorem Note.Ok.mono {s s' : Nat} (h : s ≤ s') : ∀ {n : Note}, n.Ok s → n.Ok s' := by
  intro n
  induction n with
  | none => exact id
  | pay d v => exact id
  | now v => exact id
  | both a b ia ib => exact fun ⟨x, y⟩ => ⟨ia x, ib y⟩
  | times r a ia => exact fun ⟨x, y⟩ => ⟨x, ia y⟩
  | turn a ia => exact fun x => ia x
  | till u l a b ia ib => exact fun ⟨x, y, z⟩ => ⟨x, ia y, ib z⟩
  | may x o b e a l ia ib => exact fun ⟨z, x, y⟩ => ⟨z, ia x, ib y⟩
  | seen k d s p =>
    rintro ⟨x, y⟩
    refine ⟨x, ?_⟩
    cases p with
    | none => trivial
    | some q => exact RB.mono y h
  | use x => exact id
theorem bothOf_ok {s : Nat} {a b : Note} (ha : a.Ok s) (hb : b.Ok s) : (bothOf a b).Ok s ∧ (bothOf a b).nb ≤ a.nb + b.nb + 1 ∧ (bothOf a b).deep ≤ max a.deep b.deep + 1 := by
  unfold bothOf
  split
  · exact ⟨hb, by omega, by omega⟩
  · exact ⟨ha, by omega, by omega⟩
  · exact ⟨⟨ha, hb⟩, by simp only [Note.nb]; omega, by simp only [Note.deep]; omega⟩
theorem timesOf_ok {s : Nat} {m : Rat} {a : Note} (hm : RB 10 m) (ha : a.Ok s) : (a.timesOf m).Ok s ∧ (a.timesOf m).nb ≤ a.nb + 10 ∧ (a.timesOf m).deep ≤ a.deep + 1 := by
  unfold Note.timesOf
  split
  · exact ⟨trivial, by simp only [Note.nb]; omega, by simp only [Note.deep]; omega⟩
  · exact ⟨⟨hm, ha⟩, by simp only [Note.nb]; omega, by simp only [Note.deep]; omega⟩
theorem turnOf_ok {s : Nat} {a : Note} (ha : a.Ok s) : a.turnOf.Ok s ∧ a.turnOf.nb ≤ a.nb + 2 ∧ a.turnOf.deep ≤ a.deep + 1 := by
  unfold Note.turnOf
  split
  · exact ⟨trivial, by simp only [Note.nb]; omega, by simp only [Note.deep]; omega⟩
  · exact ⟨ha, by simp only [Note.nb]; omega, by simp only [Note.deep]; omega⟩
theorem rb0 {k : Nat} : RB (k + 1) (0 : Rat) := ⟨by show (0 : Int).natAbs < _; exact Nat.two_pow_pos _, by show ((1 : Nat) : Int).natAbs < _; have := Nat.one_lt_two_pow (n := k + 1) (by omega); omega⟩
theorem rb0' {k : Nat} (h : 1 ≤ k) : RB k (0 : Rat) := by obtain ⟨j, rfl⟩ : ∃ j, k = j + 1 := ⟨k - 1, by omega⟩; exact rb0
theorem seenNow_rb {s : Nat} {k : Bool} {p : Rat} {b : Option Rat} (hp : RB 10 p) (hb : PastOk s b) : RB (s + 11) (seenNow k p b) := by
  cases b with
  | none => exact hp.mono (by omega)
  | some q =>
    have hq : RB s q := hb
    unfold seenNow
    cases k with
    | true =>
      simp only [if_true]
      split
      · exact hp.mono (by omega)
      · exact hq.mono (by omega)
    | false => exact (hq.plus hp).mono (by omega)
/-- what is paid has a bound, the rest has one, too -/
theorem live_ok {s : Nat} {t : Int} {p : Rat} (hp : RB 10 p) (hs : s ≤ 170) : ∀ {n : Note} {as : List Bool} {q : Rat} {r : Note} {as' : List Bool}, n.Ok s → n.live t p as = .fin q r as' → RB n.nb q ∧ r.Ok (s + 11) ∧ r.nb ≤ n.nb ∧ r.deep ≤ n.deep := by
  intro n
  induction n with
  | none => intro as q r as' h e; cases e; exact ⟨rb0, trivial, Nat.le_refl _, Nat.le_refl _⟩
  | pay d v =>
    intro as q r as' h e
    have hv := (VIs.bd hp h).mono (k := 200) (by decide)
    unfold Note.live at e
    split at e
    · cases e; exact ⟨rb0, h, Nat.le_refl _, Nat.le_refl _⟩
    · cases e
      refine ⟨?_, trivial, by simp only [Note.nb]; omega, Nat.le_refl _⟩
      split
      · exact hv
      · exact rb0
  | now v =>
    intro as q r as' h e
    cases e
    exact ⟨(VIs.bd hp h).mono (k := 200) (by decide), trivial, by simp only [Note.nb]; omega, Nat.le_refl _⟩
  | both a b ia ib =>
    intro as q r as' h e
    obtain ⟨ha, hb⟩ := h
    unfold Note.live at e
    cases e1 : a.live t p as with
    | ask h x => rw [e1] at e; cases e
    | fin q1 r1 as1 =>
      rw [e1] at e
      cases e2 : b.live t p as1 with
      | ask h x => simp only [e2] at e; cases e
      | fin q2 r2 as2 =>
        simp only [e2] at e
        cases e
        obtain ⟨a1, a2, a3, a4⟩ := ia ha e1
        obtain ⟨b1, b2, b3, b4⟩ := ib hb e2
        obtain ⟨c1, c2, c3⟩ := bothOf_ok a2 b2
        exact ⟨a1.plus b1, c1, by simp only [Note.nb]; omega, by simp only [Note.deep]; omega⟩
  | times m a ia =>
    intro as q r as' h e
    obtain ⟨hm, ha⟩ := h
    unfold Note.live at e
    cases e1 : a.live t p as with
    | ask h x => rw [e1] at e; cases e
    | fin q1 r1 as1 =>
      rw [e1] at e
      cases e
      obtain ⟨a1, a2, a3, a4⟩ := ia ha e1
      obtain ⟨c1, c2, c3⟩ := timesOf_ok hm a2
      exact ⟨(hm.times a1).mono (by simp only [Note.nb]; omega), c1, by simp only [Note.nb]; omega, by simp only [Note.deep]; omega⟩
  | turn a ia =>
    intro as q r as' h e
    unfold Note.live at e
    cases e1 : a.live t p as with
    | ask h x => rw [e1] at e; cases e
    | fin q1 r1 as1 =>
      rw [e1] at e
      cases e
      obtain ⟨a1, a2, a3, a4⟩ := ia h e1
      obtain ⟨c1, c2, c3⟩ := turnOf_ok a2
      exact ⟨((rb0 (k := 0)).minus a1).mono (by simp only [Note.nb]; omega), c1, by simp only [Note.nb]; omega, by simp only [Note.deep]; omega⟩
  | till u l a b ia ib =>
    intro as q r as' h e
    obtain ⟨hl, ha, hb⟩ := h
    unfold Note.live at e
    split at e
    · obtain ⟨b1, b2, b3, b4⟩ := ib hb e
      exact ⟨b1.mono (by simp only [Note.nb]; omega), b2, by simp only [Note.nb]; omega, by simp only [Note.deep]; omega⟩
    · cases e1 : a.live t p as with
      | ask h x => rw [e1] at e; cases e
      | fin q1 r1 as1 =>
        rw [e1] at e
        cases e
        obtain ⟨a1, a2, a3, a4⟩ := ia ha e1
        exact ⟨a1.mono (by simp only [Note.nb]; omega), ⟨hl, a2, hb.mono (by omega)⟩, by simp only [Note.nb]; omega, by simp only [Note.deep]; omega⟩
  | may x o b0 e0 a l ia il =>
    intro as q r as' h e
    obtain ⟨hx, ha, hl⟩ := h
    have stay : ∀ {as : List Bool}, (match a.live t p as with | .ask h x => Res.ask h x | .fin q r as2 => if e0 ≤ t then .fin q r as2 else .fin q (.may x o b0 e0 r l) as2) = .fin q r as' → RB (Note.nb (.may x o b0 e0 a l)) q ∧ r.Ok (s + 11) ∧ r.nb ≤ Note.nb (.may x o b0 e0 a l) ∧ r.deep ≤ Note.deep (.may x o b0 e0 a l) := by
      intro as e
      cases e1 : a.live t p as with
      | ask h x => rw [e1] at e; cases e
      | fin q1 r1 as1 =>
        obtain ⟨a1, a2, a3, a4⟩ := ia ha e1
        rw [e1] at e
        simp only [] at e
        split at e
        · cases e
          exact ⟨a1.mono (by simp only [Note.nb]; omega), a2, by simp only [Note.nb]; omega, by simp only [Note.deep]; omega⟩
        · cases e
          exact ⟨a1.mono (by simp only [Note.nb]; omega), ⟨hx, a2, hl.mono (by omega)⟩, by simp only [Note.nb]; omega, by simp only [Note.deep]; omega⟩
    unfold Note.live at e
    split at e
    · split at e
      · cases e
      · obtain ⟨b1, b2, b3, b4⟩ := il hl e
        exact ⟨b1.mono (by simp only [Note.nb]; omega), b2, by simp only [Note.nb]; omega, by simp only [Note.deep]; omega⟩
      · exact stay e
    · exact stay e
  | seen k d s0 b =>
    intro as q r as' h e
    obtain ⟨hk, hb⟩ := h
    have hn := seenNow_rb (k := k) hp hb
    unfold Note.live at e
    split at e
    · cases e; exact ⟨rb0, trivial, by simp only [Note.nb]; omega, Nat.le_refl _⟩
    · split at e
      · cases e; exact ⟨rb0, ⟨hk, hn⟩, Nat.le_refl _, Nat.le_refl _⟩
      · cases e
        refine ⟨?_, trivial, by simp only [Note.nb]; omega, Nat.le_refl _⟩
        split
        · exact (hn.minus hk).mono (by simp only [Note.nb]; omega)
        · exact rb0
  | use x => intro as q r as' h e; exact h.elim
/-! comparing -/
theorem name_str {x : Str} (h : NameOk x) : PyData.strOk x = true := by
  unfold PyData.strOk
  rw [← Array.all_toList, List.all_eq_true]
  intro c hc
  have := h.2.2 c hc
  exact decide_eq_true (by omega)
theorem amR_sh (r : Rat) : (toPy (amR r)).canLay0 = true ∧ (toPy (amR r)).depth = 1 := ⟨rfl, rfl⟩
theorem val_sh {P : Rat → Prop} : ∀ {n : Nat} {v : Val}, VIs P n v → (toPy v.dt).canLay0 = true ∧ (toPy v.dt).depth ≤ n + 1
  | _, _, .price n => ⟨by decide +kernel, by show 1 ≤ n + 1 + 1; omega⟩
  | _, _, .coin n h => ⟨by show (PyData.strOk "coin" && (true && true)) = true; decide +kernel, by show 2 ≤ n + 1 + 1; omega⟩
  | _, _, .of n h hv => by
    obtain ⟨a, b⟩ := val_sh hv
    refine ⟨?_, ?_⟩
    · show (PyData.strOk "of" && (true && ((toPy _).canLay0 && true))) = true
      rw [a]; decide +kernel
    · show max 0 (max 1 (max (toPy _).depth 0)) + 1 ≤ n + 1 + 1
      omega
  | _, _, .pair n o hv hw => by
    obtain ⟨a, b⟩ := val_sh hv
    obtain ⟨c, d⟩ := val_sh hw
    refine ⟨?_, ?_⟩
    · show (PyData.strOk o.str && ((toPy _).canLay0 && ((toPy _).canLay0 && true))) = true
      rw [a, c]
      cases o <;> decide +kernel
    · show max 0 (max (toPy _).depth (max (toPy _).depth 0)) + 1 ≤ n + 1 + 1
      omega
theorem note_sh {s : Nat} : ∀ {n : Note}, n.Ok s → (toPy n.dt).canLay0 = true ∧ (toPy n.dt).depth ≤ n.deep + 6 := by
  intro n
  induction n with
  | none => exact fun _ => ⟨by decide +kernel, by show 1 ≤ 1 + 6; omega⟩
  | pay d v =>
    intro h
    obtain ⟨a, b⟩ := val_sh h
    refine ⟨?_, ?_⟩
    · show (PyData.strOk "pay" && (true && ((toPy _).canLay0 && true))) = true
      rw [a]; decide +kernel
    · show max 0 (max 0 (max (toPy _).depth 0)) + 1 ≤ 1 + 6
      omega
  | now v =>
    intro h
    obtain ⟨a, b⟩ := val_sh h
    refine ⟨?_, ?_⟩
    · show (PyData.strOk "now" && ((toPy _).canLay0 && true)) = true
      rw [a]; decide +kernel
    · show max 0 (max (toPy _).depth 0) + 1 ≤ 1 + 6
      omega
  | both x y ia ib =>
    rintro ⟨h1, h2⟩
    obtain ⟨a, b⟩ := ia h1
    obtain ⟨c, d⟩ := ib h2
    refine ⟨?_, ?_⟩
    · show (PyData.strOk "both" && ((toPy _).canLay0 && ((toPy _).canLay0 && true))) = true
      rw [a, c]; decide +kernel
    · show max 0 (max (toPy _).depth (max (toPy _).depth 0)) + 1 ≤ max _ _ + 1 + 6
      omega
  | times r x ia =>
    rintro ⟨_, h1⟩
    obtain ⟨a, b⟩ := ia h1
    refine ⟨?_, ?_⟩
    · show (PyData.strOk "times" && (true && ((toPy _).canLay0 && true))) = true
      rw [a]; decide +kernel
    · show max 0 (max 1 (max (toPy _).depth 0)) + 1 ≤ _ + 1 + 6
      omega
  | turn x ia =>
    intro h1
    obtain ⟨a, b⟩ := ia h1
    refine ⟨?_, ?_⟩
    · show (PyData.strOk "turn" && ((toPy _).canLay0 && true)) = true
      rw [a]; decide +kernel
    · show max 0 (max (toPy _).depth 0) + 1 ≤ _ + 1 + 6
      omega
  | till u l x y ia ib =>
    rintro ⟨_, h1, h2⟩
    obtain ⟨a, b⟩ := ia h1
    obtain ⟨c, d⟩ := ib h2
    refine ⟨?_, ?_⟩
    · show (PyData.strOk "till" && (PyData.strOk (sideS u) && (true && ((toPy _).canLay0 && ((toPy _).canLay0 && true))))) = true
      rw [a, c]
      cases u <;> decide +kernel
    · show max 0 (max 0 (max 1 (max (toPy _).depth (max (toPy _).depth 0)))) + 1 ≤ max _ _ + 1 + 6
      omega
  | may nm o b0 e0 x y ia ib =>
    rintro ⟨hn, h1, h2⟩
    obtain ⟨a, b⟩ := ia h1
    obtain ⟨c, d⟩ := ib h2
    refine ⟨?_, ?_⟩
    · show (PyData.strOk "may" && (PyData.strOk nm && (PyData.strOk (ownS o) && (true && (true && ((toPy _).canLay0 && ((toPy _).canLay0 && true))))))) = true
      rw [a, c, name_str hn]
      cases o <;> decide +kernel
    · show max 0 (max 0 (max 0 (max 0 (max 0 (max (toPy _).depth (max (toPy _).depth 0)))))) + 1 ≤ max _ _ + 1 + 6
      omega
  | seen k d s0 b =>
    intro _
    cases b with
    | none => cases k <;> exact ⟨by show (PyData.strOk "seen" && (PyData.strOk _ && (true && (true && (true && true))))) = true; decide +kernel, by show 2 ≤ 1 + 6; omega⟩
    | some q => cases k <;> exact ⟨by show (PyData.strOk "seen" && (PyData.strOk _ && (true && (true && (true && true))))) = true; decide +kernel, by show 2 ≤ 1 + 6; omega⟩
  | use x => exact fun h => h.elim
theorem note_okPy {s : Nat} {n : Note} (h : n.Ok s) (hd : n.deep ≤ 50) : okPy n.dt = true := by
  obtain ⟨a, b⟩ := note_sh h
  unfold okPy SeqAt.shaped
  rw [a, decide_eq_true (by omega)]
  rfl
theorem eqB_none {s : Nat} {n : Note} (h : n.Ok s) (hd : n.deep ≤ 50) : eqB n.dt (.tup [.str "none"]) = some n.isNone := by
  have h1 := note_okPy h hd
  have h2 : okPy (.tup [.str "none"]) = true := by decide +kernel
  have e : eqB n.dt (.tup [.str "none"]) = if okPy n.dt = true ∧ okPy (.tup [.str "none"]) = true then some (PyData.eqv (toPy n.dt) (toPy (.tup [.str "none"]))) else none := by
    cases n <;> exact rfl
  rw [e, if_pos ⟨h1, h2⟩]
  congr 1
  cases n <;> exact rfl
theorem ex_eqNone {s : Nat} {n : Note} {Q : Dt → Prop} (h : n.Ok s) (hd : n.deep ≤ 50) (q : Q (.bl n.isNone)) : ∃ g, dEq n.dt (.tup [.str "none"]) = some g ∧ Q g := ⟨_, by unfold dEq; rw [eqB_none h hd]; rfl, q⟩
theorem ex_neNone {s : Nat} {n : Note} {Q : Dt → Prop} (h : n.Ok s) (hd : n.deep ≤ 50) (q : Q (.bl (!n.isNone))) : ∃ g, dNe n.dt (.tup [.str "none"]) = some g ∧ Q g := ⟨_, by unfold dNe; rw [eqB_none h hd]; rfl, q⟩
end Lw
namespace Lw
open PySem PySem.Spec PyProof.Rows L2 RZ DL
local macro_rules | `(tactic| walk_at "sm") => `(tactic| first | assumption | exact sm_of (k := 200) (by omega) (by decide) | exact sm_of (k := 200) (by decide) (by decide))
local macro_rules | `(tactic| walk_at "w1") => `(tactic| ((conv => whnf); (try refine At.mk ?_)))
local macro_rules | `(tactic| walk_at "wa") => `(tactic| first
  | refine wox (ex_mul (Sm.mul (by walk_at "sm") (by walk_at "sm")) ?_)
  | refine wox (ex_mod (by first | decide | omega | assumption) ?_)
  | refine wox (ex_fdiv (Sm.div (by walk_at "sm") (by first | decide | omega | assumption)) ?_))
local macro_rules | `(tactic| walk_at "w") => `(tactic| ((first | refine nrm_go ?_ | refine WpS.ok ?_ | refine WpE.ok ?_ | skip); walk_at "w1"))
local macro_rules | `(tactic| walk_at "wm") => `(tactic| (walk_at "w"; (repeat (walk_at "wa"; walk_at "w1"))))
def b__law_name (g__law_take : FnD) : FS :=
  (sSeq (sAsg 1 (wSh (eOp dIx (eC (.str "abcdefghijklmnopqrstuvwxyz")) (eFrz (wCall 2 g__law_take (aSlot 0 (aVal (eC (.int 26)) aNil)))))))
    (sSeq (sFor (iArgs rangeD (aVal (eFrz (wCall 2 g__law_take (aSlot 0 (aVal (eC (.int 6)) aNil)))) aNil)) (gN 2) (sAsg 1 (wSh (eOp dAdd (eVar 1) (eOp dIx (eC (.str "aabz")) (eFrz (wCall 2 g__law_take (aSlot 0 (aVal (eC (.int 4)) aNil)))))))))
    (sRet (wVar 1))))
abbrev f__law_name : FnD := callF 3 [0] (b__law_name f__law_take)
def b__law_days (g__law_take : FnD) : FS :=
  (sSeq (sAsg 1 (wCall 2 g__law_take (aSlot 0 (aVal (eC (.int 6)) aNil))))
    (sRet (wSh (eTup (aVal (eVar 1) (aVal (eCB dMin2 (aVal (eC (.int 6)) (aVal (eOp dAdd (eVar 1) (eFrz (wCall 2 g__law_take (aSlot 0 (aVal (eC (.int 4)) aNil))))) aNil))) aNil))))))
abbrev f__law_days : FnD := callF 2 [0] (b__law_days f__law_take)
def b__law_leaf (g__law_take g__law_value g__law_coin : FnD) : FS :=
  (sSeq (sAsg 2 (wCall 2 g__law_take (aSlot 0 (aVal (eC (.int 6)) aNil))))
    (sSeq (sIf (eOp dEq (eVar 2) (eC (.int 0))) (sRet (wSh (eTup (aVal (eC (.str "none")) aNil)))) sNx)
    (sSeq (sIf (eOp dEq (eVar 2) (eC (.int 1))) (sRet (wSh (eTup (aVal (eC (.str "now")) (aVal (eFrz (wCall 2 g__law_value (aSlot 0 (aVal (eC (.int 3)) aNil)))) aNil))))) sNx)
    (sSeq (sIf (eAnd (eOp dEq (eVar 2) (eC (.int 2))) (eOp dGt (eIxV 1 (eC (.int 2))) (eC (.int 0)))) (sSeq (sPut 1 (eC (.int 2)) (eOp dSub (eIxV 1 (eC (.int 2))) (eC (.int 1))))
    (sSeq (sAsg 3 (wIte (eOp dEq (eFrz (wCall 2 g__law_take (aSlot 0 (aVal (eC (.int 5)) aNil)))) (eC (.int 0))) (wCall 2 g__law_coin (aSlot 0 (aVal (eC (.int 60)) aNil))) (wSh (eC .non))))
    (sRet (wSh (eTup (aVal (eC (.str "seen")) (aVal (eOp dIx (eFrz (wLst (aVal (eC (.str "peak")) (aVal (eC (.str "total")) aNil)))) (eFrz (wCall 2 g__law_take (aSlot 0 (aVal (eC (.int 2)) aNil))))) (aVal (eFrz (wCall 2 g__law_take (aSlot 0 (aVal (eC (.int 7)) aNil)))) (aVal (eFrz (wCall 2 g__law_coin (aSlot 0 (aVal (eC (.int 30)) aNil)))) (aVal (eVar 3) aNil)))))))))) sNx)
    (sRet (wSh (eTup (aVal (eC (.str "pay")) (aVal (eFrz (wCall 2 g__law_take (aSlot 0 (aVal (eC (.int 7)) aNil)))) (aVal (eFrz (wCall 2 g__law_value (aSlot 0 (aVal (eC (.int 3)) aNil)))) aNil))))))))))
abbrev f__law_leaf : FnD := callF 4 [0, 1] (b__law_leaf f__law_take f__law_value f__law_coin)
def b__law_note (g__law_take g__law_leaf g__law_note g__law_above g__law_days g__law_name : FnD) : FS :=
  (sSeq (sPut 2 (eC (.int 0)) (eOp dSub (eIxV 2 (eC (.int 0))) (eC (.int 1))))
    (sSeq (sAsg 3 (wCall 2 g__law_take (aSlot 0 (aVal (eC (.int 10)) aNil))))
    (sSeq (sIf (eOr (eOp dLt (eVar 1) (eC (.int 2))) (eOr (eOp dLt (eIxV 2 (eC (.int 0))) (eC (.int 4))) (eOp dLt (eVar 3) (eC (.int 2))))) (sRet (wCall 2 g__law_leaf (aSlot 0 (aSlot 2 aNil)))) sNx)
    (sSeq (sIf (eOp dLt (eVar 3) (eC (.int 4))) (sSeq (sAsg 4 (wCall 3 g__law_note (aSlot 0 (aVal (eOp dSub (eVar 1) (eC (.int 1))) (aSlot 2 aNil)))))
    (sRet (wSh (eTup (aVal (eC (.str "both")) (aVal (eVar 4) (aVal (eFrz (wCall 3 g__law_note (aSlot 0 (aVal (eOp dSub (eVar 1) (eC (.int 1))) (aSlot 2 aNil))))) aNil))))))) sNx)
    (sSeq (sIf (eOp dEq (eVar 3) (eC (.int 4))) (sRet (wSh (eTup (aVal (eC (.str "times")) (aVal (eFrz (wCall 2 g__law_above (aSlot 0 (aVal (eC (.int 4)) aNil)))) (aVal (eFrz (wCall 3 g__law_note (aSlot 0 (aVal (eOp dSub (eVar 1) (eC (.int 1))) (aSlot 2 aNil))))) aNil)))))) sNx)
    (sSeq (sIf (eOp dEq (eVar 3) (eC (.int 5))) (sRet (wSh (eTup (aVal (eC (.str "turn")) (aVal (eFrz (wCall 3 g__law_note (aSlot 0 (aVal (eOp dSub (eVar 1) (eC (.int 1))) (aSlot 2 aNil))))) aNil))))) sNx)
    (sSeq (sIf (eOr (eOp dEq (eVar 3) (eC (.int 6))) (eOp dLt (eIxV 2 (eC (.int 1))) (eC (.int 1)))) (sSeq (sAsg 4 (wCall 3 g__law_note (aSlot 0 (aVal (eOp dSub (eVar 1) (eC (.int 1))) (aSlot 2 aNil)))))
    (sSeq (sAsg 5 (wSh (eOp dIx (eFrz (wLst (aVal (eC (.str "up")) (aVal (eC (.str "down")) aNil)))) (eFrz (wCall 2 g__law_take (aSlot 0 (aVal (eC (.int 2)) aNil)))))))
    (sRet (wSh (eTup (aVal (eC (.str "till")) (aVal (eVar 5) (aVal (eFrz (wCall 2 g__law_above (aSlot 0 (aVal (eC (.int 30)) aNil)))) (aVal (eVar 4) (aVal (eFrz (wCall 3 g__law_note (aSlot 0 (aVal (eOp dSub (eVar 1) (eC (.int 1))) (aSlot 2 aNil))))) aNil)))))))))) sNx)
    (sSeq (sPut 2 (eC (.int 1)) (eOp dSub (eIxV 2 (eC (.int 1))) (eC (.int 1))))
    (sSeq (sAsgT (gT 2 (gsCons (gN 6) (gsCons (gN 7) gsNil))) (eFrz (wCall 1 g__law_days (aSlot 0 aNil))))
    (sSeq (sPar 8 9 (aVal (eFrz (wCall 1 g__law_name (aSlot 0 aNil))) (aVal (eOp dIx (eFrz (wLst (aVal (eC (.str "holder")) (aVal (eC (.str "writer")) aNil)))) (eFrz (wCall 2 g__law_take (aSlot 0 (aVal (eC (.int 2)) aNil))))) aNil)))
    (sSeq (sAsg 4 (wCall 3 g__law_note (aSlot 0 (aVal (eOp dSub (eVar 1) (eC (.int 1))) (aSlot 2 aNil)))))
    (sRet (wSh (eTup (aVal (eC (.str "may")) (aVal (eVar 8) (aVal (eVar 9) (aVal (eVar 6) (aVal (eVar 7) (aVal (eVar 4) (aVal (eFrz (wCall 3 g__law_note (aSlot 0 (aVal (eOp dSub (eVar 1) (eC (.int 1))) (aSlot 2 aNil))))) aNil)))))))))))))))))))))
def fr__law_note : Nat → FnD
  | 0 => fun _ => none
  | n + 1 => callF 10 [0, 2] (b__law_note f__law_take f__law_leaf (fr__law_note n) f__law_above f__law_days f__law_name)
abbrev f__law_note : FnD := fr__law_note 9
/-! names -/
theorem ex_ixS {z : Str} {i : Int} {Q : Dt → Prop} (hz : z.length ≤ 100000) (h0 : 0 ≤ i) (h1 : i < (z.cps.toList.length : Int)) (q : ∀ c ∈ z.cps.toList, Q (.str ⟨#[c]⟩)) : ∃ g, dIx (.str z) (.int i) = some g ∧ Q g := by
  obtain ⟨h, e⟩ := atI_lt (xs := z.cps.toList) h0 h1
  refine ⟨_, ?_, q _ (List.getElem_mem h)⟩
  show (if z.length ≤ 100000 then _ else _) = _
  rw [if_pos hz, e]
  rfl
def LetOk (x : Str) : Prop := ∀ c ∈ x.cps.toList, 97 ≤ c ∧ c ≤ 122
theorem str_app (x : Str) (c : Nat) : (x ++ (⟨#[c]⟩ : Str)).cps.toList = x.cps.toList ++ [c] := by
  show (x.cps ++ #[c]).toList = _
  rw [Array.toList_append]
theorem str_len (x : Str) : x.length = x.cps.toList.length := (Array.length_toList).symm
theorem name_ev {xs : List Dt} (hx : BoxOk xs) {Q : Wt → List (List Dt) → Prop} (q : ∀ x ys, NameOk x → BoxOk ys → Q (.sh (.str x)) [ys]) : EvF f__law_name [.own xs] Q := by
  refine ef_in rfl ?_
  unfold b__law_name
  walk_at "w"
  refine take_ev hx (by decide) (sm_nat (by decide)) fun i ys h1 h2 hy => ?_
  walk_at "w"
  refine wox (ex_ixS (by decide) h1 (Int.lt_of_lt_of_le h2 (by decide +kernel)) fun c hc => ?_)
  have hc2 : 97 ≤ c ∧ c ≤ 122 := by
    have : ∀ c ∈ (Str.ofString "abcdefghijklmnopqrstuvwxyz").cps.toList, 97 ≤ c ∧ c ≤ 122 := by decide +kernel
    exact this c hc
  walk_at "w"
  refine take_ev hy (by decide) (sm_nat (by decide)) fun k ys h3 h4 hy => ?_
  walk_at "w"
  refine wo (if_pos ⟨by omega, by omega⟩) ?_
  walk_at "w"
  refine EvS.cut (fun ρ => ∃ (x : Str) (ys : List Dt) (c2 : Option Wt), ρ = [some (.own ys), some (.sh (.str x)), c2] ∧ BoxOk ys ∧ NameOk x) ?_ ?_
  · refine forD_ev (fun ds ρ => ∃ (x : Str) (ys : List Dt) (c2 : Option Wt), ρ = [some (.own ys), some (.sh (.str x)), c2] ∧ BoxOk ys ∧ LetOk x ∧ 1 ≤ x.length ∧ x.length + ds.length ≤ 6) ?_ ?_ _ _ ⟨_, _, _, rfl, hy, ?_, ?_, ?_⟩
    · rintro d ds ρ ⟨x, ys, c2, rfl, hy, hl, hn, hm⟩
      rw [List.length_cons] at hm
      refine ⟨_, rfl, ?_⟩
      walk_at "w"
      refine take_ev hy (by decide) (sm_nat (by decide)) fun j ys h5 h6 hy => ?_
      walk_at "w"
      refine wox (ex_ixS (by decide) h5 (Int.lt_of_lt_of_le h6 (by decide +kernel)) fun c hc => ?_)
      have hc2 : 97 ≤ c ∧ c ≤ 122 := by
        have : ∀ c ∈ (Str.ofString "aabz").cps.toList, 97 ≤ c ∧ c ≤ 122 := by decide +kernel
        exact this c hc
      have hl2 : (x ++ (⟨#[c]⟩ : Str)).length = x.length + 1 := by
        rw [str_len, str_app, str_len, List.length_append]
        rfl
      refine wox (ex_addS (by show x.length + 1 ≤ _; omega) ?_)
      walk_at "w"
      refine ⟨_, _, _, rfl, hy, ?_, by omega, by omega⟩
      intro c' hc'
      rw [str_app, List.mem_append] at hc'
      rcases hc' with hc' | hc'
      · exact hl c' hc'
      · rw [List.mem_singleton] at hc'
        subst hc'
        exact hc2
    · rintro ρ ⟨x, ys, c2, rfl, hy, hl, hn, hm⟩
      exact ⟨x, ys, c2, rfl, hy, hn, by simpa using hm, hl⟩
    · intro c' hc'
      have : c' = c := by simpa using hc'
      subst this
      exact hc2
    · exact Nat.le_refl 1
    · rw [List.length_map, List.length_range]
      show 1 + _ ≤ 6
      omega
  · rintro _ ⟨x, ys, c2, rfl, hy, hx⟩
    walk_at "w"
    exact q x ys hx hy
theorem days_ev {xs : List Dt} (hx : BoxOk xs) {Q : Wt → List (List Dt) → Prop} (q : ∀ b e ys, 0 ≤ b → b ≤ e → e ≤ 6 → BoxOk ys → Q (.sh (.tup [.int b, .int e])) [ys]) : EvF f__law_days [.own xs] Q := by
  refine ef_in rfl ?_
  unfold b__law_days
  walk_at "w"
  refine take_ev hx (by decide) (sm_nat (by decide)) fun i ys h1 h2 hy => ?_
  walk_at "w"
  refine take_ev hy (by decide) (sm_nat (by decide)) fun k ys h3 h4 hy => ?_
  walk_at "w"
  refine q _ _ _ h1 ?_ ?_ hy
  · split <;> omega
  · split <;> omega
/-! notes that are drawn -/
def PastIs (s : Rat → Prop) : Option Rat → Prop
  | .none => True
  | .some q => s q
def Note.Good : Note → Prop
  | .none => True
  | .pay d v => 0 ≤ d ∧ d ≤ 6 ∧ VIs (CoinOk 40) 3 v
  | .now v => VIs (CoinOk 40) 3 v
  | .both a b => a.Good ∧ b.Good
  | .times r a => 0 < r ∧ CoinOk 4 r ∧ a.Good
  | .turn a => a.Good
  | .till _ l a b => 0 < l ∧ CoinOk 30 l ∧ a.Good ∧ b.Good
  | .may x _ b e s l => NameOk x ∧ 0 ≤ b ∧ b ≤ e ∧ e ≤ 6 ∧ s.Good ∧ l.Good
  | .seen _ d k p => 0 ≤ d ∧ d ≤ 6 ∧ CoinOk 30 k ∧ PastIs (CoinOk 60) p
  | .use _ => False
def Note.rights : Note → Nat
  | .both a b => a.rights + b.rights
  | .times _ a => a.rights
  | .turn a => a.rights
  | .till _ _ a b => a.rights + b.rights
  | .may _ _ _ _ s l => s.rights + l.rights + 1
  | _ => 0
def Note.seens : Note → Nat
  | .both a b => a.seens + b.seens
  | .times _ a => a.seens
  | .turn a => a.seens
  | .till _ _ a b => a.seens + b.seens
  | .may _ _ _ _ s l => s.seens + l.seens
  | .seen _ _ _ _ => 1
  | _ => 0
theorem Note.Good.ok {s : Nat} (hs : 10 ≤ s) : ∀ {n : Note}, n.Good → n.Ok s := by
  intro n
  induction n with
  | none => exact id
  | pay d v => exact fun ⟨_, _, h⟩ => (h.imp fun r h => h.rb (by decide)).mono (by omega)
  | now v => exact fun h => (VIs.imp (fun r h => CoinOk.rb h (by decide)) h).mono (by omega)
  | both a b ia ib => exact fun ⟨x, y⟩ => ⟨ia x, ib y⟩
  | times r a ia => exact fun ⟨_, x, y⟩ => ⟨x.rb (by decide), ia y⟩
  | turn a ia => exact fun x => ia x
  | till u l a b ia ib => exact fun ⟨_, x, y, z⟩ => ⟨x.rb (by decide), ia y, ib z⟩
  | may x o b e a l ia ib => exact fun ⟨z, _, _, _, x, y⟩ => ⟨z, ia x, ib y⟩
  | seen k d s p =>
    rintro ⟨_, _, x, y⟩
    refine ⟨x.rb (by decide), ?_⟩
    cases p with
    | none => trivial
    | some q => exact (CoinOk.rb y (by decide)).mono hs
  | use x => exact id
/-- the room that is left -/
abbrev roomD (a b c : Int) : List Dt := [.int a, .int b, .int c]
theorem ix_str2 {i : Int} {f : Bool → Str} {Q : Dt → Prop} (hi : 0 ≤ i) (h2 : i < 2) (q : ∀ o : Bool, Q (.str (f o))) : ∃ g, dIx (.lst [.str (f true), .str (f false)]) (.int i) = some g ∧ Q g := ix_two hi h2 (q true) (q false)
theorem leaf_ev {xs : List Dt} {a b c : Int} (hx : BoxOk xs) {Q : Wt → List (List Dt) → Prop} (q : ∀ (nt : Note) (ys : List Dt), nt.Good → nt.deep = 1 → nt.parts = 1 → nt.rights = 0 → (0 ≤ c → (nt.seens : Int) ≤ c) → BoxOk ys → Q (.sh nt.dt) [ys, roomD a b (c - nt.seens)]) : EvF f__law_leaf [.own xs, .own (roomD a b c)] Q := by
  refine ef_in rfl ?_
  unfold b__law_leaf
  walk_at "w"
  refine take_ev hx (by decide) (sm_nat (by decide)) fun i ys h1 h2 hy => ?_
  walk_at "w"
  refine wd (fun e1 => ?_) (fun e1 => ?_)
  · walk_at "w"
    have := q .none ys trivial rfl rfl rfl (fun h => h) hy
    rw [show c - ((Note.none.seens : Nat) : Int) = c from Int.sub_zero c] at this
    exact this
  · walk_at "w"
    refine wd (fun e2 => ?_) (fun e2 => ?_)
    · walk_at "w"
      refine value_ev 4 2 (by omega) hy rfl fun v ys hv hy => ?_
      walk_at "w"
      have := q (.now v) ys hv rfl rfl rfl (fun h => h) hy
      rw [show c - (((Note.now v).seens : Nat) : Int) = c from Int.sub_zero c] at this
      exact this
    · walk_at "w"
      refine wd (fun e3 => ?_) (fun e3 => ?_)
      · walk_at "w"
        refine wd (fun e4 => ?_) (fun e4 => ?_)
        · walk_at "w"
          refine take_ev hy (by decide) (sm_nat (by decide)) fun j ys h3 h4 hy => ?_
          walk_at "w"
          refine wd (fun e5 => ?_) (fun e5 => ?_)
          · walk_at "w"
            refine coin_r hy (by decide) (by decide) fun r ys r1 r2 hy => ?_
            walk_at "w"
            refine take_ev hy (by decide) (sm_nat (by decide)) fun w ys h5 h6 hy => ?_
            refine wox (ix_str2 (f := wordS) h5 h6 fun o => ?_)
            walk_at "w"
            refine take_ev hy (by decide) (sm_nat (by decide)) fun d ys h7 h8 hy => ?_
            walk_at "w"
            refine coin_r hy (by decide) (by decide) fun k ys k1 k2 hy => ?_
            walk_at "w"
            exact q (.seen o d k (some r)) _ ⟨h7, by omega, ⟨k1, k2⟩, ⟨r1, r2⟩⟩ rfl rfl rfl (fun _ => by show (1 : Int) ≤ c; omega) hy
          · walk_at "w"
            refine take_ev hy (by decide) (sm_nat (by decide)) fun w ys h5 h6 hy => ?_
            refine wox (ix_str2 (f := wordS) h5 h6 fun o => ?_)
            walk_at "w"
            refine take_ev hy (by decide) (sm_nat (by decide)) fun d ys h7 h8 hy => ?_
            walk_at "w"
            refine coin_r hy (by decide) (by decide) fun k ys k1 k2 hy => ?_
            walk_at "w"
            exact q (.seen o d k .none) _ ⟨h7, by omega, ⟨k1, k2⟩, trivial⟩ rfl rfl rfl (fun _ => by show (1 : Int) ≤ c; omega) hy
        · walk_at "w"
          refine take_ev hy (by decide) (sm_nat (by decide)) fun d ys h7 h8 hy => ?_
          walk_at "w"
          refine value_ev 4 2 (by omega) hy rfl fun v ys hv hy => ?_
          walk_at "w"
          have := q (.pay d v) ys ⟨h7, by omega, hv⟩ rfl rfl rfl (fun h => h) hy
          rw [show c - (((Note.pay d v).seens : Nat) : Int) = c from Int.sub_zero c] at this
          exact this
      · walk_at "w"
        refine take_ev hy (by decide) (sm_nat (by decide)) fun d ys h7 h8 hy => ?_
        walk_at "w"
        refine value_ev 4 2 (by omega) hy rfl fun v ys hv hy => ?_
        walk_at "w"
        have := q (.pay d v) ys ⟨h7, by omega, hv⟩ rfl rfl rfl (fun h => h) hy
        rw [show c - (((Note.pay d v).seens : Nat) : Int) = c from Int.sub_zero c] at this
        exact this
end Lw
namespace Lw
open PySem PySem.Spec PyProof.Rows L2 RZ DL
local macro_rules | `(tactic| walk_at "sm") => `(tactic| first | assumption | exact sm_of (k := 200) (by omega) (by decide) | exact sm_of (k := 200) (by decide) (by decide))
local macro_rules | `(tactic| walk_at "w1") => `(tactic| ((conv => whnf); (try refine At.mk ?_)))
local macro_rules | `(tactic| walk_at "wa") => `(tactic| first
  | refine wox (ex_mul (Sm.mul (by walk_at "sm") (by walk_at "sm")) ?_)
  | refine wox (ex_mod (by first | decide | omega | assumption) ?_)
  | refine wox (ex_fdiv (Sm.div (by walk_at "sm") (by first | decide | omega | assumption)) ?_))
local macro_rules | `(tactic| walk_at "w") => `(tactic| ((first | refine nrm_go ?_ | refine WpS.ok ?_ | refine WpE.ok ?_ | skip); walk_at "w1"))
local macro_rules | `(tactic| walk_at "wm") => `(tactic| (walk_at "w"; (repeat (walk_at "wa"; walk_at "w1"))))
structure Drawn (d : Nat) (a b c a' b' c' : Int) (nt : Note) : Prop where
  good : nt.Good
  deep : nt.deep ≤ d + 1
  ha : a' = a - nt.parts
  hb : b' = b - nt.rights
  hc : c' = c - nt.seens
  b0 : 0 ≤ b → (nt.rights : Int) ≤ b
  c0 : 0 ≤ c → (nt.seens : Int) ≤ c
  parts : (nt.parts : Int) ≤ max 1 (a + d - 3)
def NoteSpec (g : FnD) (e : Nat) : Prop := ∀ (xs : List Dt) (m a b c : Int) (Q : Wt → List (List Dt) → Prop), BoxOk xs → m = e + 1 → (∀ nt ys a' b' c', Drawn e a b c a' b' c' nt → BoxOk ys → Q (.sh nt.dt) [ys, roomD a' b' c']) → EvF g [.own xs, .sh (.int m), .own (roomD a b c)] Q
def NoteEnd (d : Nat) (a b c : Int) (w : Wt) (ρ : Rho) : Prop := ∃ nt ys a' b' c', w = .sh nt.dt ∧ ρ[0]? = some (some (.own ys)) ∧ ρ[2]? = some (some (.own (roomD a' b' c'))) ∧ BoxOk ys ∧ Drawn d a b c a' b' c' nt
theorem note_body {g : FnD} {d : Nat} (hg : ∀ e, d = e + 1 → NoteSpec g e) {xs : List Dt} {m a b c : Int} {N : Rho → Prop} (hx : BoxOk xs) (hm : m = d + 1) :
    EvS (b__law_note f__law_take f__law_leaf g f__law_above f__law_days f__law_name) [some (.own xs), some (.sh (.int m)), some (.own (roomD a b c)), none, none, none, none, none, none, none] N (NoteEnd d a b c) := by
  unfold b__law_note
  walk_at "w"
  refine take_ev hx (by decide) (sm_nat (by decide)) fun kd ys h1 h2 hy => ?_
  have leafP : ∀ nt : Note, nt.Good → nt.deep = 1 → nt.parts = 1 → nt.rights = 0 → (0 ≤ c → (nt.seens : Int) ≤ c) → Drawn d a b c (a - 1) b (c - nt.seens) nt := fun nt g1 g2 g3 g4 g5 =>
    ⟨g1, by omega, by rw [g3]; rfl, by rw [g4]; omega, rfl, fun h => by rw [g4]; exact h, g5, by rw [g3]; omega⟩
  walk_at "w"
  refine wd (fun e1 => ?_) (fun e1 => ?_)
  · walk_at "w"
    refine leaf_ev hy fun nt ys g1 g2 g3 g4 g5 hy => ?_
    walk_at "w"
    exact ⟨nt, _, _, _, _, rfl, rfl, rfl, hy, leafP nt g1 g2 g3 g4 g5⟩
  · walk_at "w"
    refine wd (fun e2 => ?_) (fun e2 => ?_)
    · walk_at "w"
      refine leaf_ev hy fun nt ys g1 g2 g3 g4 g5 hy => ?_
      walk_at "w"
      exact ⟨nt, _, _, _, _, rfl, rfl, rfl, hy, leafP nt g1 g2 g3 g4 g5⟩
    · walk_at "w"
      refine wd (fun e3 => ?_) (fun e3 => ?_)
      · walk_at "w"
        refine leaf_ev hy fun nt ys g1 g2 g3 g4 g5 hy => ?_
        walk_at "w"
        exact ⟨nt, _, _, _, _, rfl, rfl, rfl, hy, leafP nt g1 g2 g3 g4 g5⟩
      · obtain ⟨d, rfl⟩ : ∃ e, d = e + 1 := ⟨d - 1, by omega⟩
        have G := hg d rfl
        walk_at "w"
        refine wd (fun e4 => ?_) (fun e4 => ?_)
        · walk_at "w"
          refine G _ _ _ _ _ _ hy (by omega) fun n1 ys a1 b1 c1 D1 hy => ?_
          walk_at "w"
          refine G _ _ _ _ _ _ hy (by omega) fun n2 ys a2 b2 c2 D2 hy => ?_
          walk_at "w"
          refine ⟨.both n1 n2, _, _, _, _, rfl, rfl, rfl, hy, ?_⟩
          obtain ⟨p1, p2, p3, p4, p5, p6, p7, p8⟩ := D1
          obtain ⟨q1, q2, q3, q4, q5, q6, q7, q8⟩ := D2
          exact ⟨⟨p1, q1⟩, by simp only [Note.deep]; omega, by simp only [Note.parts]; omega, by simp only [Note.rights]; omega, by simp only [Note.seens]; omega, by simp only [Note.rights]; omega, by simp only [Note.seens]; omega, by simp only [Note.parts]; omega⟩
        · walk_at "w"
          refine wd (fun e5 => ?_) (fun e5 => ?_)
          · walk_at "w"
            refine above_r hy (by decide) (by decide) fun r ys r0 r1 r2 hy => ?_
            walk_at "w"
            refine G _ _ _ _ _ _ hy (by omega) fun n1 ys a1 b1 c1 D1 hy => ?_
            walk_at "w"
            refine ⟨.times r n1, _, _, _, _, rfl, rfl, rfl, hy, ?_⟩
            obtain ⟨p1, p2, p3, p4, p5, p6, p7, p8⟩ := D1
            have r0' := num_gt0.mpr r0
            exact ⟨⟨r0, ⟨by omega, r2⟩, p1⟩, by simp only [Note.deep]; omega, by simp only [Note.parts]; omega, by simp only [Note.rights]; omega, by simp only [Note.seens]; omega, by simp only [Note.rights]; omega, by simp only [Note.seens]; omega, by simp only [Note.parts]; omega⟩
          · walk_at "w"
            refine wd (fun e6 => ?_) (fun e6 => ?_)
            · walk_at "w"
              refine G _ _ _ _ _ _ hy (by omega) fun n1 ys a1 b1 c1 D1 hy => ?_
              walk_at "w"
              refine ⟨.turn n1, _, _, _, _, rfl, rfl, rfl, hy, ?_⟩
              obtain ⟨p1, p2, p3, p4, p5, p6, p7, p8⟩ := D1
              exact ⟨p1, by simp only [Note.deep]; omega, by simp only [Note.parts]; omega, by simp only [Note.rights]; omega, by simp only [Note.seens]; omega, by simp only [Note.rights]; omega, by simp only [Note.seens]; omega, by simp only [Note.parts]; omega⟩
            · walk_at "w"
              refine wd (fun e7 => ?_) (fun e7 => ?_)
              · walk_at "w"
                refine G _ _ _ _ _ _ hy (by omega) fun n1 ys a1 b1 c1 D1 hy => ?_
                walk_at "w"
                refine take_ev hy (by decide) (sm_nat (by decide)) fun w ys h5 h6 hy => ?_
                refine wox (ix_str2 (f := sideS) h5 h6 fun o => ?_)
                walk_at "w"
                refine above_r hy (by decide) (by decide) fun r ys r0 r1 r2 hy => ?_
                walk_at "w"
                refine G _ _ _ _ _ _ hy (by omega) fun n2 ys a2 b2 c2 D2 hy => ?_
                walk_at "w"
                refine ⟨.till o r n1 n2, _, _, _, _, rfl, rfl, rfl, hy, ?_⟩
                obtain ⟨p1, p2, p3, p4, p5, p6, p7, p8⟩ := D1
                obtain ⟨q1, q2, q3, q4, q5, q6, q7, q8⟩ := D2
                have r0' := num_gt0.mpr r0
                exact ⟨⟨r0, ⟨by omega, r2⟩, p1, q1⟩, by simp only [Note.deep]; omega, by simp only [Note.parts]; omega, by simp only [Note.rights]; omega, by simp only [Note.seens]; omega, by simp only [Note.rights]; omega, by simp only [Note.seens]; omega, by simp only [Note.parts]; omega⟩
              · walk_at "w"
                refine wd (fun e8 => ?_) (fun e8 => ?_)
                · walk_at "w"
                  refine G _ _ _ _ _ _ hy (by omega) fun n1 ys a1 b1 c1 D1 hy => ?_
                  walk_at "w"
                  refine take_ev hy (by decide) (sm_nat (by decide)) fun w ys h5 h6 hy => ?_
                  refine wox (ix_str2 (f := sideS) h5 h6 fun o => ?_)
                  walk_at "w"
                  refine above_r hy (by decide) (by decide) fun r ys r0 r1 r2 hy => ?_
                  walk_at "w"
                  refine G _ _ _ _ _ _ hy (by omega) fun n2 ys a2 b2 c2 D2 hy => ?_
                  walk_at "w"
                  refine ⟨.till o r n1 n2, _, _, _, _, rfl, rfl, rfl, hy, ?_⟩
                  obtain ⟨p1, p2, p3, p4, p5, p6, p7, p8⟩ := D1
                  obtain ⟨q1, q2, q3, q4, q5, q6, q7, q8⟩ := D2
                  have r0' := num_gt0.mpr r0
                  exact ⟨⟨r0, ⟨by omega, r2⟩, p1, q1⟩, by simp only [Note.deep]; omega, by simp only [Note.parts]; omega, by simp only [Note.rights]; omega, by simp only [Note.seens]; omega, by simp only [Note.rights]; omega, by simp only [Note.seens]; omega, by simp only [Note.parts]; omega⟩
                · walk_at "w"
                  refine days_ev hy fun b0 e0 ys d0 d1 d2 hy => ?_
                  walk_at "w"
                  refine name_ev hy fun x ys nx hy => ?_
                  walk_at "w"
                  refine take_ev hy (by decide) (sm_nat (by decide)) fun w ys h5 h6 hy => ?_
                  refine wox (ix_str2 (f := ownS) h5 h6 fun o => ?_)
                  walk_at "w"
                  refine G _ _ _ _ _ _ hy (by omega) fun n1 ys a1 b1 c1 D1 hy => ?_
                  walk_at "w"
                  refine G _ _ _ _ _ _ hy (by omega) fun n2 ys a2 b2 c2 D2 hy => ?_
                  walk_at "w"
                  refine ⟨.may x o b0 e0 n1 n2, _, _, _, _, rfl, rfl, rfl, hy, ?_⟩
                  obtain ⟨p1, p2, p3, p4, p5, p6, p7, p8⟩ := D1
                  obtain ⟨q1, q2, q3, q4, q5, q6, q7, q8⟩ := D2
                  exact ⟨⟨nx, d0, d1, d2, p1, q1⟩, by simp only [Note.deep]; omega, by simp only [Note.parts]; omega, by simp only [Note.rights]; omega, by simp only [Note.seens]; omega, by simp only [Note.rights]; omega, by simp only [Note.seens]; omega, by simp only [Note.parts]; omega⟩
theorem evs_imp {f : FS} {ρ : Rho} {N N' : Rho → Prop} {R R' : Wt → Rho → Prop} (h : EvS f ρ N R) (hn : ∀ ρ', N ρ' → N' ρ') (hr : ∀ w ρ', R w ρ' → R' w ρ') : EvS f ρ N' R' := by
  rcases h with ⟨ρ1, e, q⟩ | ⟨w, ρ1, e, q⟩
  · exact .inl ⟨ρ1, e, hn _ q⟩
  · exact .inr ⟨w, ρ1, e, hr _ _ q⟩
theorem note_spec : ∀ (n d : Nat), d ≤ n → NoteSpec (fr__law_note (n + 1)) d := by
  intro n
  induction n with
  | zero =>
    intro d hd xs m a b c Q hx hm q
    obtain rfl : d = 0 := by omega
    refine ef_in rfl (nrm_eq rfl ?_)
    refine evs_imp (note_body (g := fr__law_note 0) (d := 0) (fun e he => by omega) hx hm) (fun _ h => h) ?_
    rintro w ρ ⟨nt, ys, a', b', c', rfl, e1, e2, hy, D⟩
    exact wo (by unfold getOwns; simp only [e1]; unfold getOwns; simp only [e2]; rfl) (q nt ys a' b' c' D hy)
  | succ n ih =>
    intro d hd xs m a b c Q hx hm q
    refine ef_in rfl (nrm_eq rfl ?_)
    refine evs_imp (note_body (g := fr__law_note (n + 1)) (d := d) (fun e he => ih e (by omega)) hx hm) (fun _ h => h) ?_
    rintro w ρ ⟨nt, ys, a', b', c', rfl, e1, e2, hy, D⟩
    exact wo (by unfold getOwns; simp only [e1]; unfold getOwns; simp only [e2]; rfl) (q nt ys a' b' c' D hy)
/-- a note drawn with a room of its own -/
theorem note_mv {d : Nat} (hd : d ≤ 8) {xs : List Dt} {m a b c : Int} {Q : Wt → List (List Dt) → Prop} (hx : BoxOk xs) (hm : m = d + 1) (q : ∀ nt ys a' b' c', Drawn d a b c a' b' c' nt → BoxOk ys → Q (.sh nt.dt) [ys]) : EvF f__law_note [.own xs, .sh (.int m), .mv (roomD a b c)] Q := by
  refine ef_callM [0] rfl rfl (nrm_eq rfl ?_)
  refine evs_imp (note_body (g := fr__law_note 8) (d := d) (fun e he => note_spec 7 e (by omega)) hx hm) (fun _ h => h) ?_
  rintro w ρ ⟨nt, ys, a', b', c', rfl, e1, e2, hy, D⟩
  exact ⟨[ys], by unfold getOwns; simp only [e1]; rfl, q nt ys a' b' c' D hy⟩
end Lw
namespace DL
open PySem PySem.Spec PyProof.Rows L2 RZ
/-! ### dicts that stay, keys ints and texts -/
def keyD : Dt → Option Key
  | .int i => some (.inl i)
  | .str x => some (.inr x)
  | _ => none
def valD (kvs : List (Key × Dt)) (k : Key) : Option Dt := (kvs.find? fun kv => decide (kv.1 = k)).map (·.2)
def putD (kvs : List (Key × Dt)) (k : Key) (v : Dt) : List (Key × Dt) :=
  if (kvs.any fun kv => decide (kv.1 = k)) = true then kvs.map (fun kv => if kv.1 = k then (kv.1, v) else kv) else kvs ++ [(k, v)]
def mergeD (kvs more : List (Key × Dt)) : List (Key × Dt) := more.foldl (fun acc kv => putD acc kv.1 kv.2) kvs
/-- the pairs, one by one -/
def KVs (K : PySem.W.Frag) (F : Hp) (kvs : List (Key × Dt)) (gs : List (Key × V)) : Prop := Paired (fun (p : Key × Dt) (q : Key × V) => p.1 = q.1 ∧ Rp K F p.2 q.2) kvs gs
section
variable {K : PySem.W.Frag} {F F' : Hp}
theorem KVs.of : ∀ {kvs : List (Key × Dt)} {gs : List (Key × V)}, gs.map (·.1) = kvs.map (·.1) → Rps K F (kvs.map (·.2)) (gs.map (·.2)) → KVs K F kvs gs
  | [], [], _, _ => .nil
  | [], _ :: _, e, _ => by simp at e
  | _ :: _, [], e, _ => by simp at e
  | p :: kvs, q :: gs, e, r => by
    simp only [List.map_cons, List.cons.injEq] at e
    rw [List.map_cons, List.map_cons] at r
    cases r with
    | cons h r => exact .cons ⟨e.1.symm, h⟩ (KVs.of e.2 r)
theorem KVs.keys {kvs : List (Key × Dt)} {gs : List (Key × V)} (h : KVs K F kvs gs) : gs.map (·.1) = kvs.map (·.1) := by
  unfold KVs at h
  induction h with
  | nil => rfl
  | cons h _ ih => rw [List.map_cons, List.map_cons, ih, h.1]
theorem KVs.vals {kvs : List (Key × Dt)} {gs : List (Key × V)} (h : KVs K F kvs gs) : Rps K F (kvs.map (·.2)) (gs.map (·.2)) := by
  unfold KVs at h
  induction h with
  | nil => exact .nil
  | cons h _ ih => exact .cons h.2 ih
theorem KVs.mono {kvs : List (Key × Dt)} {gs : List (Key × V)} (s : Same F F') (h : KVs K F kvs gs) : KVs K F' kvs gs := Paired.mapP h fun _ _ z => ⟨z.1, z.2.mono s⟩
theorem KVs.len {kvs : List (Key × Dt)} {gs : List (Key × V)} (h : KVs K F kvs gs) : kvs.length = gs.length := Paired.length h
theorem KVs.rp {a : Addr} {kvs : List (Key × Dt)} {gs : List (Key × V)} (h : KVs K F kvs gs) (e : F a = some (.dK gs)) : Rp K F (.dK kvs) (.ref a) := .dK e h.keys h.vals
theorem KVs.get {kvs : List (Key × Dt)} {gs : List (Key × V)} (h : KVs K F kvs gs) (k : Key) : match valD kvs k with
    | some d => ∃ v, valV gs k = some v ∧ Rp K F d v
    | none => valV gs k = none := by
  unfold KVs at h
  induction h with
  | nil => rfl
  | @cons p q ps qs h _ ih =>
    by_cases e : p.1 = k
    · have e1 : valD (p :: ps) k = some p.2 := by simp [valD, List.find?_cons, e]
      rw [e1]
      exact ⟨q.2, valV_pos (h.1 ▸ e), h.2⟩
    · have e1 : valD (p :: ps) k = valD ps k := by simp [valD, List.find?_cons, e]
      rw [e1, valV_neg (by rw [← h.1]; exact e)]
      exact ih
theorem KVs.any {kvs : List (Key × Dt)} {gs : List (Key × V)} (h : KVs K F kvs gs) (k : Key) : (gs.any fun kv => decide (kv.1 = k)) = kvs.any fun kv => decide (kv.1 = k) := by
  unfold KVs at h
  induction h with
  | nil => rfl
  | cons h _ ih => rw [List.any_cons, List.any_cons, ih, h.1]
theorem KVs.app : ∀ {kvs ks : List (Key × Dt)} {gs hs : List (Key × V)}, KVs K F kvs gs → KVs K F ks hs → KVs K F (kvs ++ ks) (gs ++ hs)
  | _, _, _, _, .nil, s => s
  | _, _, _, _, .cons h r, s => .cons h (KVs.app r s)
theorem KVs.sub {kvs : List (Key × Dt)} {gs : List (Key × V)} (h : KVs K F kvs gs) (k : Key) {d : Dt} {v : V} (hv : Rp K F d v) : KVs K F (kvs.map fun kv => if kv.1 = k then (kv.1, d) else kv) (gs.map fun kv => if kv.1 = k then (kv.1, v) else kv) := by
  unfold KVs at h ⊢
  induction h with
  | nil => exact .nil
  | @cons p q ps qs h _ ih =>
    refine .cons ?_ ih
    by_cases e : p.1 = k
    · simp only [if_pos e, if_pos (h.1 ▸ e : q.1 = k)]
      exact ⟨h.1, hv⟩
    · simp only [if_neg e, if_neg (by rw [← h.1]; exact e : ¬ q.1 = k)]
      exact h
theorem KVs.put {kvs : List (Key × Dt)} {gs : List (Key × V)} (h : KVs K F kvs gs) (k : Key) {d : Dt} {v : V} (hv : Rp K F d v) : KVs K F (putD kvs k d) (putK gs k v) := by
  unfold putD putK
  rw [h.any k]
  split
  · exact h.sub k hv
  · exact h.app (.cons ⟨rfl, hv⟩ .nil)
theorem KVs.merge : ∀ {ks kvs : List (Key × Dt)} {hs gs : List (Key × V)}, KVs K F ks hs → KVs K F kvs gs → KVs K F (mergeD kvs ks) (mergeK gs hs)
  | [], _, _, _, .nil, s => s
  | p :: ks, kvs, q :: hs, gs, .cons h r, s => by
    have e : KVs K F (putD kvs p.1 p.2) (putK gs q.1 q.2) := by rw [← h.1]; exact s.put p.1 h.2
    exact KVs.merge (ks := ks) (hs := hs) r e
end
theorem keyD_ok {K : PySem.W.Frag} {F : Hp} {d : Dt} {v : V} {k : Key} (h : Rp K F d v) (e : keyD d = some k) : v = kV k := by
  cases h <;> first | (cases e; rfl) | cases e
/-! d[k] -/
def dGetD : Dt → Dt → Option Dt
  | .dK kvs, e => (match keyD e with
    | some k => valD kvs k
    | none => none)
  | _, _ => none
def dInD (e : Dt) : Dt → Option Dt
  | .dK kvs => (match keyD e with
    | some k => some (.bl (valD kvs k).isSome)
    | none => none)
  | _ => none
def dNotInD (e : Dt) : Dt → Option Dt
  | .dK kvs => (match keyD e with
    | some k => some (.bl (!(valD kvs k).isSome))
    | none => none)
  | _ => none
section
variable {X : Cx} {P : Pt} {Wx : WX} {pos : Pos} {o i : Expr} {fa fb : FE}
theorem dget_ok {K : PySem.W.Frag} {F H : Hp} {d e g : Dt} {x y : V} (s : Same F H) (hd : Rp K F d x) (he : Rp K F e y) (h : dGetD d e = some g) : ∃ a v, x = .ref a ∧ DGet H a y (some v) ∧ Rp K F g v := by
  cases hd with
  | dK hq hk hr =>
    unfold dGetD at h
    simp only [] at h
    split at h
    · rename_i k hk2
      have e2 := keyD_ok he hk2
      have g1 := (KVs.of hk hr).get k
      rw [h] at g1
      obtain ⟨v, g2, g3⟩ := g1
      exact ⟨_, v, rfl, .inl ⟨_, k, .inl (s _ _ hq), e2, g2.symm⟩, g3⟩
    · cases h
  | _ => cases h
theorem d_dget (hu : X.A.units + 1 < cLine) (ha : PE X o (LE X.K P Wx fa)) (hb : PE X i (LE X.K P Wx fb)) (hs : NoSl i := by exact fun _ _ => rfl) : PE X (.Subscript o i pos) (LE X.K P Wx (eOp dGetD fa fb)) := PEm (pe_dget hu ha hb hs) fun σ H Q h => by
  obtain ⟨F, ρ, rr, q⟩ := h
  refine LE.bind rr q fun d ρ1 F1 H1 x s1 r1 p1 q1 => ?_
  refine LE.bind r1 q1 fun e ρ2 F2 H2 y s2 r2 p2 q2 => ?_
  cases eo : dGetD d e with
  | none => rw [eo] at q2; exact q2.elim
  | some g =>
    rw [eo] at q2
    obtain ⟨a, v, ex, dg, pv⟩ := dget_ok r2.fh (p1.mono s2) p2 eo
    exact ⟨a, v, ex, dg, q2 F2 H2 v (.refl _) r2 pv⟩
end
/-! dict(..): of a list of pairs, of a dict -/
def pairsD : List Dt → Option (List (Key × Dt))
  | [] => some []
  | .tup [k, d] :: ds => (match keyD k, pairsD ds with
    | some k, some r => some ((k, d) :: r)
    | _, _ => none)
  | _ => none
def dDict : List Dt → Option Dt
  | [.lst ds] => (match pairsD ds with
    | some kvs => some (.dK (mergeD [] kvs))
    | none => none)
  | [.dK kvs] => some (.dK kvs)
  | _ => none
section
variable {X : Cx}
theorem pairs_ok {K : PySem.W.Frag} {F H : Hp} (s : Same F H) : ∀ {ds : List Dt} {vs : List V} {kvs : List (Key × Dt)}, Rps K F ds vs → pairsD ds = some kvs → ∃ (ps : List Addr) (gs : List (Key × V)), vs = ps.map V.ref ∧ Paired (fun p kv => SqT K H p [kV kv.1, kv.2]) ps gs ∧ KVs K F kvs gs
  | _, _, _, .nil, e => by cases e; exact ⟨[], [], rfl, .nil, .nil⟩
  | _, _, kvs, .cons h r, e => by
    unfold pairsD at e
    split at e
    · rename_i e0; cases e0
    · rename_i k d ds e1
      cases e1
      cases h with
      | tup hq hr =>
        cases hr with
        | cons h1 hr =>
          cases hr with
          | cons h2 hr =>
            cases hr
            split at e
            · rename_i k' r' e2 e3
              cases e
              obtain ⟨ps, gs, a, b, c⟩ := pairs_ok s r e3
              have := keyD_ok h1 e2
              subst this
              exact ⟨_ :: ps, (k', _) :: gs, by rw [List.map_cons, a], .cons (same_sqT s hq) b, .cons ⟨rfl, h2⟩ c⟩
            · cases e
    · cases e
theorem call_dictA (hc : X.calm = true) : CallR X (.type "dict") (fun xs H Q => (∃ (a : Addr) (ps : List Addr) (kvs : List (Key × V)), xs = [.ref a] ∧ SqL X.K H a (ps.map V.ref) ∧ Paired (fun p kv => SqT X.K H p [kV kv.1, kv.2]) ps kvs ∧
    ∀ p, H p = none → Q (.ref p) (upd H p (.dK (mergeK [] kvs)))) ∨ ∃ (a : Addr) (kvs : List (Key × V)), xs = [.ref a] ∧ Rd H a (.dK kvs) ∧ ∀ p, H p = none → Q (.ref p) (upd H p (.dK kvs))) := CallR.or (call_dictP hc) call_dictD
theorem cd_dict : CallD X.K (fun xs H Q => (∃ (a : Addr) (ps : List Addr) (kvs : List (Key × V)), xs = [.ref a] ∧ SqL X.K H a (ps.map V.ref) ∧ Paired (fun p kv => SqT X.K H p [kV kv.1, kv.2]) ps kvs ∧
    ∀ p, H p = none → Q (.ref p) (upd H p (.dK (mergeK [] kvs)))) ∨ ∃ (a : Addr) (kvs : List (Key × V)), xs = [.ref a] ∧ Rd H a (.dK kvs) ∧ ∀ p, H p = none → Q (.ref p) (upd H p (.dK kvs))) dDict := by
  intro ds g h F H vs Q s hr q
  unfold dDict at h
  split at h
  · split at h
    · rename_i kvs hk
      cases h
      match vs, hr with
      | _, .cons (.lst hq hr) .nil =>
        obtain ⟨ps, gs, rfl, b, c⟩ := pairs_ok s hr hk
        refine .inl ⟨_, ps, gs, rfl, .inl (.inl (s _ _ hq)), b, fun p np => ?_⟩
        have gg := Grow.lay (o := .dK (mergeK [] gs)) s np
        exact q _ _ _ gg (KVs.rp ((c.mono gg.f).merge .nil) upd_same)
    · cases h
  · cases h
    match vs, hr with
    | _, .cons (.dK (gs := gs) hq hk hr) .nil =>
      refine .inr ⟨_, _, rfl, .inl (s _ _ hq), fun p np => ?_⟩
      have gg := Grow.lay (o := .dK gs) s np
      exact q _ _ _ gg (KVs.rp ((KVs.of hk hr).mono gg.f) upd_same)
  · cases h
end
/-! dicts compared -/
def eqAll (ls : List (Key × Dt)) : List (Key × Dt) → Bool
  | [] => true
  | (k, d) :: r => (match valD ls k with
    | some e => decide (eqB d e = some true)
    | none => false) && eqAll ls r
/-- both told alike: what is not so is not told -/
def dEqD : Dt → Dt → Option Dt
  | .dK ks, .dK ls => if ks.length = ls.length ∧ eqAll ls ks = true then some (.bl true) else none
  | _, _ => none
def dNeD : Dt → Dt → Option Dt
  | .dK ks, .dK ls => if ks.length = ls.length ∧ eqAll ls ks = true then some (.bl false) else none
  | _, _ => none
section
variable {X : Cx} {pins : List (Addr × Obj)} {σ : L2.St} {F H : Hp} {s : Shared}
theorem eq_at {A : Around} (hu : A.units + 64 < cLine) (I : Inv X pins σ H s) (sf : Same F H) {d e : Dt} {x y : V} {v u : Value} (hd : Rp X.K F d x) (he : Rp X.K F e y) (rx : RelV x v) (ry : RelV y u) (h : eqB d e = some true) : SeqAt.EqAt A s v u true := by
  rcases eqB_rule h sf hd he with ⟨a1, a2⟩ | ⟨d', e', a1, a2, a3, a4, a5⟩
  · have e1 : x = y := of_decide_eq_true a2
    subst e1
    cases x with
    | int i =>
      obtain ⟨t, rfl⟩ := (show ∃ t, v = Value.int i t from rx)
      obtain ⟨t', rfl⟩ := (show ∃ t, u = Value.int i t from ry)
      have := SeqAt.EqAt.int_int (A := A) (s := s) i t i t'
      rwa [beq_self_eq_true] at this
    | str i =>
      obtain ⟨t, rfl⟩ := (show ∃ t, v = Value.str i t from rx)
      obtain ⟨t', rfl⟩ := (show ∃ t, u = Value.str i t from ry)
      have := SeqAt.EqAt.str_str (A := A) (s := s) i t i t'
      rwa [beq_self_eq_true] at this
    | bl b =>
      obtain rfl := (show v = Value.bool b from rx)
      obtain rfl := (show u = Value.bool b from ry)
      exact SeqAt.EqAt.same _
    | non =>
      obtain rfl := (show v = Value.none from rx)
      obtain rfl := (show u = Value.none from ry)
      exact SeqAt.EqAt.same _
    | ref a =>
      obtain rfl := (show v = Value.ref a from rx)
      obtain rfl := (show u = Value.ref a from ry)
      exact SeqAt.EqAt.same _
    | ty n =>
      obtain rfl := (show v = Value.type n from rx)
      obtain rfl := (show u = Value.type n from ry)
      exact SeqAt.EqAt.same _
    | byt _ => cases hd
    | flt _ => cases hd
  · obtain ⟨as, r1⟩ := Dp.reads I d' x v a1 rx
    obtain ⟨bs, r2⟩ := Dp.reads I e' y u a2 ry
    rw [← a5]
    exact SeqAt.eqAt_reads d' e' A s v u as bs r1 r2 (SeqAt.canLay_of_shaped a3) (SeqAt.canLay_of_shaped a4) (SeqAt.room_of_shaped a3 hu)
theorem hitsD {A : Around} (hu : A.units + 64 < cLine) (I : Inv X pins σ H s) (sf : Same F H) {ls : List (Key × Dt)} {hs : List (Key × V)} {vb : List (Key × Value)} (hl : KVs X.K F ls hs) (rb : KV hs vb) : ∀ {ks : List (Key × Dt)} {gs : List (Key × V)} {va : List (Key × Value)}, KVs X.K F ks gs → KV gs va → eqAll ls ks = true → PySem.W.KeqHits A s vb va true
  | _, _, _, .nil, .nil, _ => .nil
  | (k, d) :: ks, q :: gs, (k2, v) :: va, .cons h r, .cons h2 r2, e => by
    unfold eqAll at e
    rw [Bool.and_eq_true] at e
    obtain ⟨e1, e2⟩ := e
    have g1 := hl.get k
    cases hk : valD ls k with
    | none => rw [hk] at e1; cases e1
    | some d2 =>
      rw [hk] at e1 g1
      obtain ⟨x2, g2, g3⟩ := g1
      have rr : RelO (some x2) (valueAt vb k) := by rw [← g2]; exact rb.val k
      obtain ⟨y, hy, ry⟩ := rr.some_of
      have h1 : k = q.1 := h.1
      have h3 : q.1 = k2 := h2.1
      subst h1
      rw [h3] at hy
      show PySem.W.KeqHits A s vb ((k2, v) :: va) (true && true)
      exact .hit hy (eq_at hu I sf h.2 g3 h2.2 ry (of_decide_eq_true e1)) (hitsD hu I sf hl rb r r2 e2)
end
section
variable {X : Cx}
def rNeDD (K : PySem.W.Frag) (b : Bool) : R2 := fun x y H Q => ∃ (F : Hp) (a c : Addr) (ks ls : List (Key × Dt)) (gs hs : List (Key × V)), Same F H ∧ x = .ref a ∧ y = .ref c ∧ F a = some (.dK gs) ∧ F c = some (.dK hs) ∧ KVs K F ks gs ∧ KVs K F ls hs ∧ ks.length = ls.length ∧ eqAll ls ks = true ∧ Q (.bl b) H
theorem op_neDD (hu : X.A.units + 65 < cLine) : OpR X (compareOp .NotEq) (rNeDD X.K false) := by
  intro pins s σ H x y v u Q I rx ry h
  obtain ⟨F, a, b, ks, ls, gs, hs, sf, rfl, rfl, ea, eb, ka, kb, hlen, hp, q⟩ := h
  obtain rfl : v = Value.ref a := rx
  obtain rfl : u = Value.ref b := ry
  obtain ⟨_, ya, va, ra, da⟩ := (show ObjOk X.prog X.w H s.heap a (.dK gs) from I.hok a _ (sf _ _ ea))
  obtain ⟨_, yb, vb, rb, db⟩ := (show ObjOk X.prog X.w H s.heap b (.dK hs) from I.hok b _ (sf _ _ eb))
  have hl : va.length = vb.length := by rw [← ra.length, ← rb.length, ← ka.len, ← kb.len]; exact hlen
  exact PySem.W.keq_ne (knd := mixKind X.prog X.w) (r := true) ya yb da db (by omega) (fun _ => hitsD (by show X.A.units + 1 + 64 < _; omega) I sf kb rb ka ra hp) (fin_bl I q (by simp [hl]))
theorem op_eqDD (hu : X.A.units + 65 < cLine) : OpR X (compareOp .Eq) (rNeDD X.K true) := by
  intro pins s σ H x y v u Q I rx ry h
  obtain ⟨F, a, b, ks, ls, gs, hs, sf, rfl, rfl, ea, eb, ka, kb, hlen, hp, q⟩ := h
  obtain rfl : v = Value.ref a := rx
  obtain rfl : u = Value.ref b := ry
  obtain ⟨_, ya, va, ra, da⟩ := (show ObjOk X.prog X.w H s.heap a (.dK gs) from I.hok a _ (sf _ _ ea))
  obtain ⟨_, yb, vb, rb, db⟩ := (show ObjOk X.prog X.w H s.heap b (.dK hs) from I.hok b _ (sf _ _ eb))
  have hl : va.length = vb.length := by rw [← ra.length, ← rb.length, ← ka.len, ← kb.len]; exact hlen
  exact PySem.W.keq_eq (knd := mixKind X.prog X.w) (r := true) ya yb da db (by omega) (fun _ => hitsD (by show X.A.units + 1 + 64 < _; omega) I sf kb rb ka ra hp) (fin_bl I q (by simp [hl]))
theorem od_neD : OpD X.K (rNeDD X.K false) dNeD := by
  intro d e g h F H x y Q s hd he q
  cases hd with
  | dK hq hk hr =>
    cases he with
    | dK hq2 hk2 hr2 =>
      unfold dNeD at h
      simp only [] at h
      split at h
      · rename_i hl
        cases h
        exact ⟨F, _, _, _, _, _, _, s, rfl, rfl, hq, hq2, KVs.of hk hr, KVs.of hk2 hr2, hl.1, hl.2, q F H _ (Grow.refl s) (.bl _)⟩
      · cases h
    | _ => cases h
  | _ => cases h
theorem od_eqD : OpD X.K (rNeDD X.K true) dEqD := by
  intro d e g h F H x y Q s hd he q
  cases hd with
  | dK hq hk hr =>
    cases he with
    | dK hq2 hk2 hr2 =>
      unfold dEqD at h
      simp only [] at h
      split at h
      · rename_i hl
        cases h
        exact ⟨F, _, _, _, _, _, _, s, rfl, rfl, hq, hq2, KVs.of hk hr, KVs.of hk2 hr2, hl.1, hl.2, q F H _ (Grow.refl s) (.bl _)⟩
      · cases h
    | _ => cases h
  | _ => cases h
end
/-! a display of constants -/
def eNewD (kvs : List (Key × Dt)) : FE := fun ρ => some (.ok (.dK kvs), ρ)
section
variable {X : Cx} {P : Pt} {Wx : WX} {pos : Pos}
theorem d_newD {keys : List (Option Expr)} {values : List Expr} {trs : List (TE × TE)} {gs : List (Key × V)} {kvs : List (Key × Dt)} (h : PPs X pos keys values trs) (ht : ∀ σ H Q, Q (gs.map (fun kv => (kV kv.1, kv.2))) H → tPairs trs σ H Q) (hk : ∀ F, KVs X.K F kvs gs) (hg : gs.length ≤ 15 := by decide) (h15 : keys.length ≤ 15 := by decide) (hm : mergeK [] gs = gs := by rfl)
    (hall : keys.all (·.isSome) = true := by rfl) (hl : keys.length = values.length := by rfl) (h0 : keys ≠ [] := by exact fun e => nomatch e) : PE X (.Dict keys values pos) (LE X.K P Wx (eNewD kvs)) := PEm (pe_disp h hall hl h0 h15) fun σ H Q q => by
  obtain ⟨F, ρ, r, q⟩ := q
  intro p np
  refine ht _ _ _ ⟨upd_same, gs, rfl, ?_, ?_⟩
  · exact hg
  · rw [hm, upd_upd]
    have gg := Grow.lay (o := .dK gs) r.fh np
    exact q _ _ _ gg.f (r.grow gg) (KVs.rp (hk _) upd_same)
end
instance p_newD {kvs : List (Key × Dt)} : WpE (eNewD kvs) := ⟨fun ρ Q => Q (.dK kvs) ρ, fun h => ⟨_, _, rfl, h⟩, fun h k => k _ _ h⟩
/-! text * int -/
def dMulS : Dt → Dt → Option Dt
  | .str x, .int i => if x.length ≤ 16 ∧ -(2 ^ 63 : Int) ≤ i ∧ i ≤ 1048576 then some (.str (Txt.mul x i)) else none
  | _, _ => none
def rMulS : R2 := fun x y H Q => ∃ a i, x = .str a ∧ y = .int i ∧ a.length ≤ 16 ∧ -(2 ^ 63 : Int) ≤ i ∧ i ≤ 1048576 ∧ Q (.str (Txt.mul a i)) H
section
variable {X : Cx}
theorem op_mulS : OpR X (binaryOp .Mult) rMulS := by
  intro pins s σ H x y v u Q I rx ry h
  obtain ⟨a, i, rfl, rfl, h1, h2, h3, q⟩ := h
  obtain ⟨t, rfl⟩ := rx
  obtain ⟨t', rfl⟩ := ry
  exact PySem.W.KXi.mul rfl h1 h2 h3 fun t'' k _ _ => ⟨.str _, H, I.tok k, ⟨t'', rfl⟩, q⟩
theorem od_mulS : OpD X.K rMulS dMulS := by
  intro d e g h F H x y Q s hd he q
  cases hd with
  | str a =>
    cases he with
    | int i =>
      unfold dMulS at h
      simp only [] at h
      split at h
      · rename_i hl
        cases h
        exact ⟨a, i, rfl, rfl, hl.1, hl.2.1, hl.2.2, q F H _ (Grow.refl s) (.str _)⟩
      · cases h
    | _ => cases h
  | _ => cases h
end
/-! room for what is compared -/
theorem u1 {k : Nat} {A : Around} (r : Room k A) : A.units + 1 < cLine := by have := r.un; omega
theorem u65 {k : Nat} {A : Around} (r : Room k A) : A.units + 65 < cLine := by have := r.un; omega
/-! xs.extend(ys) -/
section
variable {X : Cx} {P : Pt} {Wx : WX} {pos pos' apos cpos : Pos} {e : Expr} {fe : FE}
theorem s_ext (j : Nat) {x : Str} (he : PE X e (LE X.K P Wx fe)) (hN : X.N[j]? = some x := by rfl) (hv : Vis X.env.scope x := by first | exact Or.inl rfl | exact Or.inr (Or.inl rfl) | exact Or.inr (Or.inr rfl)) (hd : (x == ("__debug__" : Str)) = false := by decide)
    (hcd : (x == ("__classdict__" : Str)) = false := by decide)
    (hbase : attributeBase (.Name x pos') "extend" X.env (eval (.Name x pos') X.env) = eval (.Name x pos') X.env := by rfl)
    (hfew : ((backTo cpos (starEach (e :: []) X.env)).all (fun x => !x.1) && (backToKw cpos (keywordEach [] X.env)).all (fun x => x.1.isSome)
      && decide ((e :: []).length + ([] : List Keyword).length + (if ([] : List Keyword).isEmpty then 0 else 1) < 30)) = true := by rfl)
    (hline : (apos.endLine == cpos.line) = true := by rfl) (hs : starEach (e :: []) X.env = (false, eval e X.env) :: starEach [] X.env := by rfl) (hplain : (backTo cpos (starEach [] X.env)).any (·.1) = false := by rfl)
    (hsw : swapsWith (.Call (.Attribute (.Name x pos') "extend" apos) [e] [] cpos) none pos.line X.env = pure false := by rfl) :
    PS X (.Expr (.Call (.Attribute (.Name x pos') "extend" apos) [e] [] cpos) pos) (LS X.K P Wx (sExt j fe)) :=
  PSm (ps_expr (pe_bm PySem.F.plainAttrs_list PySem.F.slot_list_extend PySem.F.type_list_extend mt_extend (pe_var hN hv hd hcd) (pa_cons he pa_nil hs) hbase hfew hline hs hplain) hsw) fun D σ H h => by
  obtain ⟨F, ρ, r, q⟩ := h
  obtain ⟨xs0, e0, q⟩ := ifOwn_some (p := postS X.K P Wx F D) q (fun z => z)
  obtain ⟨p, vs0, ev, _, e2, _⟩ := r.own e0
  refine ⟨.ref p, ev, .inl ⟨rfl, _, .inl (.inl e2)⟩, ?_⟩
  refine LE.bindS r q fun d ρ1 F1 H1 v s1 r1 p1 q1 => ?_
  obtain ⟨xs, ys, k1, k2, q1⟩ := sMut_some q1
  obtain ⟨p', vs, ev', e3, e4, e5⟩ := r1.own k1
  rw [ev] at ev'
  cases ev'
  cases p1 with
  | lst hq hr =>
    unfold extX at k2
    simp only [] at k2
    split at k2
    · rename_i hl
      cases k2
      refine ⟨p, _, vs, _, rfl, rfl, e4, r1.fh _ _ hq, by rw [← e5.length, ← hr.length]; exact sz1000 hl, ?_⟩
      exact q1 F1 _ σ (.refl _) (r1.write k1 ev (e5.append hr))
    · cases k2
  | _ => cases k2
end
end DL
namespace DL
open PySem PySem.Spec PyProof.Rows L2 RZ
/-! ### quiet expressions: they change no slot; own lists are looked at as they stand -/
abbrev FQ := Rho → Option RD
structure View (K : PySem.W.Frag) (P : Pt) (F H : Hp) (σ : L2.St) (ρ : Rho) (Fp : Hp) : Prop where
  r : Rel K P F H σ ρ
  s : Same F Fp
  sh : Same Fp H
  v : ∀ (j : Nat) (d : Dt), slotD ρ[j]? = some d → ∃ v, σ[j]? = some (some v) ∧ Rp K Fp d v
section
variable {K : PySem.W.Frag} {P : Pt} {F H F' H' Fp : Hp} {σ : L2.St} {ρ : Rho}
theorem View.grow (w : View K P F H σ ρ Fp) (g : Grow Fp H F' H') : View K P F H' σ ρ F' := ⟨w.r.grow (growH w.r.fh g), w.s.trans g.f, g.fh, fun j d e => by
  obtain ⟨v, a, b⟩ := w.v j d e
  exact ⟨v, a, b.mono g.f⟩⟩
open Classical in
theorem Rel.view (r : Rel K P F H σ ρ) : ∃ Fp, View K P F H σ ρ Fp := by
  refine ⟨fun p => if (∃ (i : Nat) (xs : List Dt), ρ[i]? = some (some (.own xs)) ∧ σ[i]? = some (some (.ref p))) then H p else F p, r, fun a o e => ?_, fun a o e => ?_, fun j d e => ?_⟩
  · show (if _ then _ else _) = _
    split
    · exact r.fh a o e
    · exact e
  · have e' : (if _ then _ else _) = some o := e
    split at e'
    · exact e'
    · exact r.fh a o e'
  · have sm : Same F (fun p => if (∃ (i : Nat) (xs : List Dt), ρ[i]? = some (some (.own xs)) ∧ σ[i]? = some (some (.ref p))) then H p else F p) := fun a o e => by
      show (if _ then _ else _) = _
      split
      · exact r.fh a o e
      · exact e
    match e1 : ρ[j]? with
    | none => rw [e1] at e; cases e
    | some none => rw [e1] at e; cases e
    | some (some (.sh d')) =>
      rw [e1] at e
      cases e
      obtain ⟨v, ev, q⟩ := r.slot j _ e1
      exact ⟨v, ev, Rp.mono sm q⟩
    | some (some (.own xs)) =>
      rw [e1] at e
      cases e
      obtain ⟨p, vs, ev, q1, q2, q3⟩ := r.own e1
      refine ⟨_, ev, .lst ?_ (q3.mono sm)⟩
      show (if _ then _ else _) = _
      rw [if_pos ⟨j, xs, e1, ev⟩]
      exact q2
end
section
variable (K : PySem.W.Frag) (P : Pt) (Wx : WX)
def postQ (Fp H : Hp) (σ : L2.St) (Q : VK) : Option RD → Prop
  | none => False
  | some (.ok d) => ∀ F' H' v, Grow Fp H F' H' → Rp K F' d v → Q v H'
  | some (.ex C fs) => ∀ F' H' cls dd, Grow Fp H F' H' → Xp K F' cls dd C fs → Wx cls dd σ H'
def LQ (f : FQ) : TE := fun σ H Q => ∃ F ρ Fp, View K P F H σ ρ Fp ∧ postQ K Wx Fp H σ Q (f ρ)
end
def bindQ (f : FQ) (k : Dt → FQ) : FQ := fun ρ => match f ρ with
  | none => none
  | some (.ok d) => k d ρ
  | some (.ex C fs) => some (.ex C fs)
theorem postQ.mono {K : PySem.W.Frag} {Wx : WX} {Fp H F1 H1 : Hp} {σ : L2.St} {Q : VK} (g : Grow Fp H F1 H1) {r : Option RD} (h : postQ K Wx Fp H σ Q r) : postQ K Wx F1 H1 σ Q r := by
  match r, h with
  | some (.ok d), h => exact fun F' H' v a => h F' H' v (g.trans a)
  | some (.ex C fs), h => exact fun F' H' cls dd a => h F' H' cls dd (g.trans a)
section
variable {K : PySem.W.Frag} {P : Pt} {Wx : WX} {F H Fp : Hp} {σ : L2.St} {ρ : Rho}
theorem LQ.bind {f : FQ} {k : Dt → FQ} {Q R : VK} (w : View K P F H σ ρ Fp) (h : postQ K Wx Fp H σ Q (bindQ f k ρ))
    (hk : ∀ d F1 H1 v, Grow Fp H F1 H1 → View K P F H1 σ ρ F1 → Rp K F1 d v → postQ K Wx F1 H1 σ Q (k d ρ) → R v H1) : LQ K P Wx f σ H R := by
  refine ⟨F, ρ, Fp, w, ?_⟩
  unfold bindQ at h
  match e : f ρ with
  | none => rw [e] at h; exact h.elim
  | some (.ok d) => rw [e] at h; exact fun F' H' v a b => hk d F' H' v a (w.grow a) b (postQ.mono a h)
  | some (.ex C fs) => rw [e] at h; exact h
end
def qC (d : Dt) : FQ := fun _ => some (.ok d)
def qV (o : Option Dt) : FQ := fun _ => match o with | some d => some (.ok d) | none => none
def qVar (j : Nat) : FQ := fun ρ => match slotD ρ[j]? with | some d => some (.ok d) | none => none
def qOp (o : Dt → Dt → Option Dt) (fa fb : FQ) : FQ := bindQ fa fun d => bindQ fb fun e => qV (o d e)
def qUn (o : Dt → Option Dt) (fa : FQ) : FQ := bindQ fa fun d => qV (o d)
/-- several, from the left -/
inductive RQs where
  | ok (ds : List Dt) | ex (C : Str) (fs : List (Str × Dt))
def qAll : List FQ → Rho → Option RQs
  | [], _ => some (.ok [])
  | f :: fs, ρ => match f ρ with
    | none => none
    | some (.ex C gs) => some (.ex C gs)
    | some (.ok d) => match qAll fs ρ with
      | none => none
      | some (.ex C gs) => some (.ex C gs)
      | some (.ok ds) => some (.ok (d :: ds))
def bindQs (fs : List FQ) (k : List Dt → FQ) : FQ := fun ρ => match qAll fs ρ with
  | none => none
  | some (.ok ds) => k ds ρ
  | some (.ex C gs) => some (.ex C gs)
section
variable {X : Cx} {P : Pt} {Wx : WX} {pos : Pos} {a b e : Expr} {es : List Expr} {fa fb : FQ}
theorem q_c {d : Dt} {v : V} (h : ∀ t : TE, PE X e t → PE X e t) (he : PE X e (tC v)) (hv : ∀ F : Hp, Rp X.K F d v) : PE X e (LQ X.K P Wx (qC d)) := PEm he fun σ H Q h => by
  obtain ⟨F, ρ, Fp, w, q⟩ := h
  exact q Fp H v (Grow.refl w.sh) (hv Fp)
theorem q_int {i : Int} {j : Nat} : PE X (.Constant (.int i) j pos) (LQ X.K P Wx (qC (.int i))) := PEm pe_int fun σ H Q h => by
  obtain ⟨F, ρ, Fp, w, q⟩ := h
  exact q Fp H _ (Grow.refl w.sh) (.int i)
theorem q_bl {i : Bool} {j : Nat} : PE X (.Constant (.bool i) j pos) (LQ X.K P Wx (qC (.bl i))) := PEm pe_bl fun σ H Q h => by
  obtain ⟨F, ρ, Fp, w, q⟩ := h
  exact q Fp H _ (Grow.refl w.sh) (.bl i)
theorem q_str {i : Str} {j : Nat} : PE X (.Constant (.str i) j pos) (LQ X.K P Wx (qC (.str i))) := PEm pe_str fun σ H Q h => by
  obtain ⟨F, ρ, Fp, w, q⟩ := h
  exact q Fp H _ (Grow.refl w.sh) (.str i)
theorem q_non {j : Nat} : PE X (.Constant .none j pos) (LQ X.K P Wx (qC .non)) := PEm pe_non fun σ H Q h => by
  obtain ⟨F, ρ, Fp, w, q⟩ := h
  exact q Fp H _ (Grow.refl w.sh) .non
theorem q_var (j : Nat) {x : Str} (hN : X.N[j]? = some x := by rfl) (hv : Vis X.env.scope x := by first | exact Or.inl rfl | exact Or.inr (Or.inl rfl) | exact Or.inr (Or.inr rfl)) (hd : (x == ("__debug__" : Str)) = false := by decide)
    (hcd : (x == ("__classdict__" : Str)) = false := by decide) : PE X (.Name x pos) (LQ X.K P Wx (qVar j)) := PEm (pe_var hN hv hd hcd) fun σ H Q h => by
  obtain ⟨F, ρ, Fp, w, q⟩ := h
  unfold qVar at q
  cases e : slotD ρ[j]? with
  | none => simp only [e] at q; exact q.elim
  | some d =>
    simp only [e] at q
    obtain ⟨v, ev, pv⟩ := w.v j d e
    exact ⟨v, ev, q Fp H v (Grow.refl w.sh) pv⟩
theorem LQ_op {r : R2} {o : Dt → Dt → Option Dt} (hr : OpD X.K r o) {σ : L2.St} {H : Hp} {Q : VK} (h : LQ X.K P Wx (qOp o fa fb) σ H Q) : tOp r (LQ X.K P Wx fa) (LQ X.K P Wx fb) σ H Q := by
  obtain ⟨F, ρ, Fp, w, q⟩ := h
  refine LQ.bind w q fun d F1 H1 x g1 w1 p1 q1 => ?_
  refine LQ.bind w1 q1 fun e F2 H2 y g2 w2 p2 q2 => ?_
  cases eo : o d e with
  | none => rw [eo] at q2; exact q2.elim
  | some g =>
    rw [eo] at q2
    exact hr d e g eo F2 H2 x y Q w2.sh (p1.mono g2.f) p2 fun F' H' z g' pz => q2 F' H' z g' pz
theorem q_op {op : Operator} {r : R2} {o : Dt → Dt → Option Dt} (ho : OpR X (binaryOp op) r) (hr : OpD X.K r o) (ha : PE X a (LQ X.K P Wx fa)) (hb : PE X b (LQ X.K P Wx fb)) : PE X (.BinOp a op b pos) (LQ X.K P Wx (qOp o fa fb)) :=
  PEm (pe_op ho ha hb) fun _ _ _ h => LQ_op hr h
theorem q_sub (ha : PE X a (LQ X.K P Wx fa)) (hb : PE X b (LQ X.K P Wx fb)) (hs : PlainIx b := by exact fun _ _ => rfl) : PE X (.Subscript a b pos) (LQ X.K P Wx (qOp dIx fa fb)) :=
  PEm (pe_ix ix_seq ha hb hs) fun _ _ _ h => LQ_op od_ix h
theorem q_cmp {op : CmpOp} {r : R2} {o : Dt → Dt → Option Dt} (ho : OpR X (compareOp op) r) (hr : OpD X.K r o) (ha : PE X a (LQ X.K P Wx fa)) (hb : PE X b (LQ X.K P Wx fb)) (hm : behindInMarks op b = false) : PE X (.Compare a [op] [b] pos) (LQ X.K P Wx (qOp o fa fb)) :=
  PEm (pe_cmpR ho ha hb hm) fun _ _ _ h => LQ_op hr h
theorem q_un {op : UnaryOp} {r : V → Hp → VK → Prop} {o : Dt → Option Dt} (ho : UnR X (unaryOp op) r) (hr : UnD X.K r o) (ha : PE X a (LQ X.K P Wx fa)) : PE X (.UnaryOp op a pos) (LQ X.K P Wx (qUn o fa)) :=
  PEm (pe_un ho ha) fun σ H Q h => by
    obtain ⟨F, ρ, Fp, w, q⟩ := h
    refine LQ.bind w q fun d F1 H1 x g1 w1 p1 q1 => ?_
    cases eo : o d with
    | none => rw [eo] at q1; exact q1.elim
    | some g =>
      rw [eo] at q1
      exact hr d g eo F1 H1 x Q w1.sh p1 fun F' H' z g' pz => q1 F' H' z g' pz
theorem q_not (ha : PE X a (LQ X.K P Wx fa)) : PE X (.UnaryOp .Not a pos) (LQ X.K P Wx (qUn dNot fa)) :=
  PEm (pe_not ha) fun σ H Q h => by
    obtain ⟨F, ρ, Fp, w, q⟩ := h
    refine LQ.bind w q fun d F1 H1 x g1 w1 p1 q1 => ?_
    cases p1 with
    | bl c => exact ⟨c, rfl, q1 F1 H1 _ (Grow.refl w1.sh) (.bl _)⟩
    | _ => exact q1.elim
end
/-! arguments -/
section
variable (K : PySem.W.Frag) (P : Pt) (Wx : WX)
def postQs (Fp H : Hp) (σ : L2.St) (Q : List V → Hp → Prop) : Option RQs → Prop
  | none => False
  | some (.ok ds) => ∀ F' H' vs, Grow Fp H F' H' → Rps K F' ds vs → Q vs H'
  | some (.ex C fs) => ∀ F' H' cls dd, Grow Fp H F' H' → Xp K F' cls dd C fs → Wx cls dd σ H'
def LQA (fs : List FQ) : TA := fun σ H Q => ∃ F ρ Fp, View K P F H σ ρ Fp ∧ postQs K Wx Fp H σ Q (qAll fs ρ)
end
section
variable {X : Cx} {P : Pt} {Wx : WX} {pos p : Pos} {a b e : Expr} {es : List Expr} {f : FQ} {fs : List FQ}
theorem qa_nil : PA X [] (LQA X.K P Wx []) := PAm pa_nil fun σ H Q h => by
  obtain ⟨F, ρ, Fp, w, q⟩ := h
  exact q Fp H [] (Grow.refl w.sh) .nil
theorem qa_cons (he : PE X e (LQ X.K P Wx f)) (hr : PA X es (LQA X.K P Wx fs)) (hs : starEach (e :: es) X.env = (false, eval e X.env) :: starEach es X.env := by rfl) : PA X (e :: es) (LQA X.K P Wx (f :: fs)) :=
  PAm (pa_cons he hr hs) fun σ H Q h => by
    obtain ⟨F, ρ, Fp, w, q⟩ := h
    refine ⟨F, ρ, Fp, w, ?_⟩
    unfold qAll at q
    match e1 : f ρ with
    | none => simp only [e1] at q; exact q.elim
    | some (.ex C gs) => simp only [e1] at q; exact q
    | some (.ok d) =>
      simp only [e1] at q
      intro F1 H1 v g1 p1
      refine ⟨F, ρ, F1, w.grow g1, ?_⟩
      match e2 : qAll fs ρ with
      | none => simp only [e2] at q; exact q.elim
      | some (.ex C gs) => simp only [e2] at q; exact fun F' H' cls dd a => q F' H' cls dd (g1.trans a)
      | some (.ok ds) => simp only [e2] at q; exact fun F' H' vs a ps => q F' H' (v :: vs) (g1.trans a) (.cons (p1.mono a.f) ps)
theorem LQA.bind {K : PySem.W.Frag} {F H Fp : Hp} {σ : L2.St} {ρ : Rho} {k : List Dt → FQ} {Q : VK} {R : List V → Hp → Prop} (w : View K P F H σ ρ Fp) (h : postQ K Wx Fp H σ Q (bindQs fs k ρ))
    (hk : ∀ ds F1 H1 vs, Grow Fp H F1 H1 → View K P F H1 σ ρ F1 → Rps K F1 ds vs → postQ K Wx F1 H1 σ Q (k ds ρ) → R vs H1) : LQA K P Wx fs σ H R := by
  refine ⟨F, ρ, Fp, w, ?_⟩
  unfold bindQs at h
  match e : qAll fs ρ with
  | none => rw [e] at h; exact h.elim
  | some (.ok d) => rw [e] at h; exact fun F' H' v a b => hk d F' H' v a (w.grow a) b (postQ.mono a h)
  | some (.ex C fs) => rw [e] at h; exact h
end
def qTup (fs : List FQ) : FQ := bindQs fs fun ds => if ds.length ≤ 100000 then qC (.tup ds) else fun _ => none
def qLst (fs : List FQ) : FQ := bindQs fs fun ds => if ds.length ≤ 100000 then qC (.lst ds) else fun _ => none
def qCB (o : List Dt → Option Dt) (fs : List FQ) : FQ := bindQs fs fun ds => qV (o ds)
def resQ : RW → RD
  | .ok (.sh d) => .ok d
  | .ok (.own xs) => .ok (.lst xs)
  | .ex C fs => .ex C fs
def qCall (n : Nat) (g : FnD) (fs : List FQ) : FQ := bindQs fs fun ds _ => if ds.length = n then (match g (ds.map Aw.sh) with
  | some (r, _) => some (resQ r)
  | none => none) else none
theorem argW_sh {K : PySem.W.Frag} {F G H : Hp} : ∀ {ds : List Dt} {vs : List V}, Rps K F ds vs → ArgW K F G H vs (ds.map Aw.sh)
  | _, _, .nil => .nil
  | _, _, .cons h r => .sh h (argW_sh r)
theorem own_sh : ∀ {ds : List Dt} {vs : List V}, ownAddrs vs (ds.map Aw.sh) = []
  | [], [] => rfl
  | [], v :: vs => by cases v <;> rfl
  | d :: ds, [] => rfl
  | d :: ds, v :: vs => by rw [List.map_cons, ownAddrs_sh]; exact own_sh
theorem all_sh : ∀ {ds : List Dt} {vs : List V}, allAddrs vs (ds.map Aw.sh) = []
  | [], [] => rfl
  | [], v :: vs => by cases v <;> rfl
  | d :: ds, [] => rfl
  | d :: ds, v :: vs => by rw [List.map_cons, allAddrs_sh]; exact all_sh
theorem GrowB.grow {K : PySem.W.Frag} {F H F' H' : Hp} {cs : List (List Dt)} (g : GrowB K F H F' H' [] cs) : Grow F H F' H' := ⟨g.f, fun p o e => g.h p o e (by simp), g.fh, g.new⟩
section
variable {X : Cx} {P : Pt} {Wx : WX} {pos p : Pos} {e : Expr} {es : List Expr} {f : FQ} {fs : List FQ} {x1 k n : Nat} {g : FnD} {x : Str}
theorem q_tup (h : PA X es (LQA X.K P Wx fs)) : PE X (.Tuple es x1 pos) (LQ X.K P Wx (qTup fs)) := PEm (pe_tup h) fun σ H Q h => by
  obtain ⟨F, ρ, Fp, w, q⟩ := h
  refine LQA.bind w q fun ds F1 H1 vs g1 w1 hr q1 => ?_
  split at q1
  · rename_i hl
    refine ⟨by rw [← hr.length]; exact sz1000 hl, fun p np => ?_⟩
    have gg := Grow.lay (o := .tup vs) w1.sh np
    exact q1 _ _ (.ref p) gg (.tup (.inl (.inl upd_same)) (hr.mono gg.f))
  · exact q1.elim
theorem q_lst (h : PA X es (LQA X.K P Wx fs)) : PE X (.List es pos) (LQ X.K P Wx (qLst fs)) := PEm (pe_lst h) fun σ H Q h => by
  obtain ⟨F, ρ, Fp, w, q⟩ := h
  refine LQA.bind w q fun ds F1 H1 vs g1 w1 hr q1 => ?_
  split at q1
  · rename_i hl
    refine ⟨by rw [← hr.length]; exact sz1000 hl, fun p np => ?_⟩
    have gg := Grow.lay (o := .lst vs) w1.sh np
    exact q1 _ _ (.ref p) gg (.lst upd_same (hr.mono gg.f))
  · exact q1.elim
theorem LQ_cb {r : List V → Hp → VK → Prop} {o : List Dt → Option Dt} (hr : CallD X.K r o) {σ : L2.St} {H : Hp} {Q : VK} (h : LQ X.K P Wx (qCB o fs) σ H Q) : tCB r (LQA X.K P Wx fs) σ H Q := by
  obtain ⟨F, ρ, Fp, w, q⟩ := h
  refine LQA.bind w q fun ds F1 H1 vs g1 w1 rp q1 => ?_
  cases eo : o ds with
  | none => rw [eo] at q1; exact q1.elim
  | some g =>
    rw [eo] at q1
    exact hr ds g eo F1 H1 vs Q w1.sh rp fun F' H' z g' pz => q1 F' H' z g' pz
theorem q_cb {id : String} {r : List V → Hp → VK → Prop} {o : List Dt → Option Dt} (hr : CallD X.K r o) (hc : CallR X (.builtin id) r) (hg : Gl X x) (hm : X.mg x = none) (hv : bootBuiltins x = some (.builtin id)) (ha : PA X (e :: es) (LQA X.K P Wx fs))
    (hn : x ≠ "__name__" := by decide) (hdb : (x == ("__debug__" : Str)) = false := by decide) (he : starEach (e :: es) X.env = (false, eval e X.env) :: starEach es X.env := by rfl) (hpl : (backTo pos (starEach es X.env)).any (·.1) = false := by rfl) :
    PE X (.Call (.Name x p) (e :: es) [] pos) (LQ X.K P Wx (qCB o fs)) := PEm (pe_callB hc hg hm hv ha hn hdb he hpl) fun _ _ _ h => LQ_cb hr h
theorem q_cty {T : String} {r : List V → Hp → VK → Prop} {o : List Dt → Option Dt} (hr : CallD X.K r o) (hc : CallR X (.type T) r) (hg : Gl X x) (hm : X.mg x = none) (hv : bootBuiltins x = some (.type T)) (ha : PA X (e :: es) (LQA X.K P Wx fs))
    (hn : x ≠ "__name__" := by decide) (hdb : (x == ("__debug__" : Str)) = false := by decide) (he : starEach (e :: es) X.env = (false, eval e X.env) :: starEach es X.env := by rfl) (hpl : (backTo pos (starEach es X.env)).any (·.1) = false := by rfl) :
    PE X (.Call (.Name x p) (e :: es) [] pos) (LQ X.K P Wx (qCB o fs)) := PEm (pe_callTy hc hg hm hv ha hn hdb he hpl) fun _ _ _ h => LQ_cb hr h
/-- what a def's call gives, its arguments handed by value -/
theorem LQ_call {σ : L2.St} {H : Hp} {Q : VK} (h : LQ X.K P Wx (qCall n g fs) σ H Q) : tCallS (spF X.K n g) (WE Wx) (LQA X.K P Wx fs) σ H Q := by
  obtain ⟨F, ρ, Fp, w, q⟩ := h
  refine LQA.bind w q fun ds F1 H1 vs g1 w1 rp q1 => ?_
  split at q1
  · rename_i hl
    refine ⟨by rw [← rp.length]; exact hl, F1, H1, ds.map Aw.sh, w1.sh, .refl _, argW_sh rp, by rw [all_sh]; exact List.nodup_nil, ?_⟩
    rw [own_sh]
    match e2 : g (ds.map Aw.sh) with
    | none => simp only [e2] at q1; exact q1.elim
    | some (.ok (.sh d), cs) =>
      simp only [e2, resQ] at q1
      exact fun F2 H2 v gb fw => q1 F2 H2 v gb.grow fw
    | some (.ok (.own xs), cs) =>
      simp only [e2, resQ] at q1
      intro F2 H2 v gb fw
      obtain ⟨a, us, rfl, k1, k2, k3, k4⟩ := fw
      have g2 := gb.grow
      have sF : Same F2 (upd F2 a (.lst us)) := same_new k2
      refine q1 (upd F2 a (.lst us)) H2 (.ref a) ⟨g2.f.trans sF, g2.h, fun b o e => ?_, fun b o e => ?_⟩ (.lst upd_same (k4.mono sF))
      · by_cases hb : b = a
        · subst hb; rw [upd_same] at e; rw [k3]; exact e
        · rw [upd_ne hb] at e; exact g2.fh b o e
      · by_cases hb : b = a
        · subst hb; exact .inr k1
        · rw [upd_ne hb] at e; exact g2.new b o e
    | some (.ex C fs, cs) =>
      simp only [e2, resQ] at q1
      exact fun F2 H2 cls dd gb xp => q1 F2 H2 cls dd gb.grow xp
  · exact q1.elim
theorem q_fn (h : FnAt X.prog X.w X.K X.mg X.base k x n g) (hr : Room k X.A) (tk : Takes X Wx) (hg : Gl X x) (ha : PA X (e :: es) (LQA X.K P Wx fs)) (hdb : (x == ("__debug__" : Str)) = false := by decide) (he : starEach (e :: es) X.env = (false, eval e X.env) :: starEach es X.env := by rfl) (hpl : (backTo pos (starEach es X.env)).any (·.1) = false := by rfl) :
    PE X (.Call (.Name x p) (e :: es) [] pos) (LQ X.K P Wx (qCall n g fs)) := by
  obtain ⟨f, fd, ps, a, b, c, d⟩ := h.ex
  exact PEm (pe_callS a hr hg b c d.1 (fun σ => passAt tk σ) ha hdb he hpl) fun _ _ _ h => LQ_call h
end
/-! a quiet expression that gives a flat thing, among the others -/
def eQ (f : FQ) : FE := fun ρ => match f ρ with
  | none => none
  | some (.ok d) => if flatD d = true then some (.ok d, ρ) else none
  | some (.ex _ _) => none
theorem LE_q {K : PySem.W.Frag} {P : Pt} {Wx : WX} {f : FQ} {σ : L2.St} {H : Hp} {Q : VK} (h : LE K P Wx (eQ f) σ H Q) : LQ K P Wx f σ H Q := by
  obtain ⟨F, ρ, r, q⟩ := h
  obtain ⟨Fp, w⟩ := r.view
  refine ⟨F, ρ, Fp, w, ?_⟩
  unfold eQ at q
  match e : f ρ with
  | none => simp only [e] at q; exact q.elim
  | some (.ex C fs) => simp only [e] at q; exact q.elim
  | some (.ok d) =>
    simp only [e] at q
    split at q
    · rename_i fl
      exact fun F' H' v g pv => q F H' v (.refl _) (r.grow (growH r.fh g)) (flat_any pv fl)
    · exact q.elim
theorem d_q {X : Cx} {P : Pt} {Wx : WX} {e : Expr} {f : FQ} (h : PE X e (LQ X.K P Wx f)) : PE X e (LE X.K P Wx (eQ f)) := PEm h fun _ _ _ h => LE_q h
/-! wp -/
class WpQ (f : FQ) where
  wp : Rho → (Dt → Prop) → Prop
  ok : ∀ {ρ : Rho} {Q : Dt → Prop}, wp ρ Q → ∃ d, f ρ = some (.ok d) ∧ Q d
  mono : ∀ {ρ : Rho} {Q Q' : Dt → Prop}, wp ρ Q → (∀ d, Q d → Q' d) → wp ρ Q'
class WpQs (fs : List FQ) where
  wp : Rho → (List Dt → Prop) → Prop
  ok : ∀ {ρ : Rho} {Q : List Dt → Prop}, wp ρ Q → ∃ ds, qAll fs ρ = some (.ok ds) ∧ Q ds
  mono : ∀ {ρ : Rho} {Q Q' : List Dt → Prop}, wp ρ Q → (∀ d, Q d → Q' d) → wp ρ Q'
theorem bindQ_ok {f : FQ} {k : Dt → FQ} {ρ : Rho} {d : Dt} (e : f ρ = some (.ok d)) : bindQ f k ρ = k d ρ := by unfold bindQ; simp only [e]
theorem bindQs_ok {fs : List FQ} {k : List Dt → FQ} {ρ : Rho} {ds : List Dt} (e : qAll fs ρ = some (.ok ds)) : bindQs fs k ρ = k ds ρ := by unfold bindQs; simp only [e]
section
variable {f fa fb : FQ} {fs : List FQ}
instance pq_c {d : Dt} : WpQ (qC d) := ⟨fun _ Q => Q d, fun h => ⟨_, rfl, h⟩, fun h k => k _ h⟩
instance pq_var {j : Nat} : WpQ (qVar j) := ⟨fun ρ Q => wO (slotD ρ[j]?) Q, fun h => by
  obtain ⟨d, e, h⟩ := h.ex
  exact ⟨d, by unfold qVar; rw [e], h⟩, fun h k => h.mono k⟩
instance pq_op {o : Dt → Dt → Option Dt} [WpQ fa] [WpQ fb] : WpQ (qOp o fa fb) := ⟨fun ρ Q => WpQ.wp fa ρ fun d => WpQ.wp fb ρ fun e => wO (o d e) Q, fun h => by
  obtain ⟨d, e1, h⟩ := WpQ.ok h
  obtain ⟨e, e2, h⟩ := WpQ.ok h
  obtain ⟨g, e3, h⟩ := h.ex
  exact ⟨g, by unfold qOp; rw [bindQ_ok e1, bindQ_ok e2, e3]; rfl, h⟩, fun h k => WpQ.mono h fun _ h => WpQ.mono h fun _ h => h.mono k⟩
instance pq_un {o : Dt → Option Dt} [WpQ fa] : WpQ (qUn o fa) := ⟨fun ρ Q => WpQ.wp fa ρ fun d => wO (o d) Q, fun h => by
  obtain ⟨d, e1, h⟩ := WpQ.ok h
  obtain ⟨g, e3, h⟩ := h.ex
  exact ⟨g, by unfold qUn; rw [bindQ_ok e1, e3]; rfl, h⟩, fun h k => WpQ.mono h fun _ h => h.mono k⟩
instance pqs_nil : WpQs [] := ⟨fun _ Q => Q [], fun h => ⟨_, rfl, h⟩, fun h k => k _ h⟩
instance pqs_cons [WpQ f] [WpQs fs] : WpQs (f :: fs) := ⟨fun ρ Q => WpQ.wp f ρ fun d => WpQs.wp fs ρ fun ds => Q (d :: ds), fun h => by
  obtain ⟨d, e1, h⟩ := WpQ.ok h
  obtain ⟨ds, e2, h⟩ := WpQs.ok h
  exact ⟨_, by unfold qAll; simp only [e1, e2], h⟩, fun h k => WpQ.mono h fun _ h => WpQs.mono h fun _ h => k _ h⟩
instance pq_tup [WpQs fs] : WpQ (qTup fs) := ⟨fun ρ Q => WpQs.wp fs ρ fun ds => wC (Nat.ble ds.length 100000) (Q (.tup ds)), fun h => by
  obtain ⟨ds, e, h⟩ := WpQs.ok h
  obtain ⟨l, h⟩ := h.ex
  exact ⟨_, by unfold qTup; rw [bindQs_ok e, if_pos (Nat.le_of_ble_eq_true l)]; rfl, h⟩, fun h k => WpQs.mono h fun _ h => h.mono (k _)⟩
instance pq_lst [WpQs fs] : WpQ (qLst fs) := ⟨fun ρ Q => WpQs.wp fs ρ fun ds => wC (Nat.ble ds.length 100000) (Q (.lst ds)), fun h => by
  obtain ⟨ds, e, h⟩ := WpQs.ok h
  obtain ⟨l, h⟩ := h.ex
  exact ⟨_, by unfold qLst; rw [bindQs_ok e, if_pos (Nat.le_of_ble_eq_true l)]; rfl, h⟩, fun h k => WpQs.mono h fun _ h => h.mono (k _)⟩
instance pq_cb {o : List Dt → Option Dt} [WpQs fs] : WpQ (qCB o fs) := ⟨fun ρ Q => WpQs.wp fs ρ fun ds => wO (o ds) Q, fun h => by
  obtain ⟨ds, e, h⟩ := WpQs.ok h
  obtain ⟨g, e3, h⟩ := h.ex
  exact ⟨g, by unfold qCB; rw [bindQs_ok e, e3]; rfl, h⟩, fun h k => WpQs.mono h fun _ h => h.mono k⟩
def wtD : Wt → Dt
  | .sh d => d
  | .own xs => .lst xs
instance pq_call {n : Nat} {g : FnD} [WpQs fs] : WpQ (qCall n g fs) := ⟨fun ρ Q => WpQs.wp fs ρ fun ds => wC (Nat.beq ds.length n) (fL (ds.map Aw.sh) fun ws => At (EvF g ws fun w _ => Q (wtD w))), fun h => by
  obtain ⟨ds, e, h⟩ := WpQs.ok h
  obtain ⟨l, h⟩ := h.ex
  obtain ⟨w, cs, e2, h⟩ := (fL_ok _ _ h).h
  refine ⟨wtD w, ?_, h⟩
  unfold qCall
  rw [bindQs_ok e, if_pos (Nat.eq_of_beq_eq_true l), e2]
  cases w <;> rfl, fun h k => WpQs.mono h fun _ h => h.mono fun h => h.mono fun _ h => h.mono fun h => h.imp fun _ _ h => k _ h⟩
instance p_q [WpQ f] : WpE (eQ f) := ⟨fun ρ Q => WpQ.wp f ρ fun d => wC (flatD d) (Q d ρ), fun {ρ Q} h => by
  obtain ⟨d, e, h⟩ := WpQ.ok h
  obtain ⟨l, h⟩ := h.ex
  exact ⟨d, ρ, by unfold eQ; simp only [e]; rw [if_pos l], h⟩, fun h k => WpQ.mono h fun _ h => h.mono (k _ _)⟩
end
end DL
namespace Lw
open PySem PySem.Spec PyProof.Rows L2 RZ DL
local macro_rules | `(tactic| walk_at "sm") => `(tactic| first | assumption | exact sm_of (k := 200) (by omega) (by decide) | exact sm_of (k := 200) (by decide) (by decide))
local macro_rules | `(tactic| walk_at "w1") => `(tactic| ((conv => whnf); (try refine At.mk ?_)))
local macro_rules | `(tactic| walk_at "wa") => `(tactic| first
  | refine wox (ex_mul (Sm.mul (by walk_at "sm") (by walk_at "sm")) ?_)
  | refine wox (ex_mod (by first | decide | omega | assumption) ?_)
  | refine wox (ex_fdiv (Sm.div (by walk_at "sm") (by first | decide | omega | assumption)) ?_))
local macro_rules | `(tactic| walk_at "w") => `(tactic| ((first | refine nrm_go ?_ | refine WpS.ok ?_ | refine WpE.ok ?_ | skip); walk_at "w1"))
local macro_rules | `(tactic| walk_at "wm") => `(tactic| (walk_at "w"; (repeat (walk_at "wa"; walk_at "w1"))))
def b__law_within : FS :=
  (sSeq (sAsg 1 (wSh (eOp dIx (eVar 0) (eC (.int 0)))))
    (sSeq (sIf (eOp dIn (eVar 1) (eTup (aVal (eC (.str "both")) (aVal (eC (.str "till")) (aVal (eC (.str "may")) aNil))))) (sRet (wLst (aVal (eOp dIx (eVar 0) (eUn dNeg (eC (.int 2)))) (aVal (eOp dIx (eVar 0) (eUn dNeg (eC (.int 1)))) aNil)))) sNx)
    (sRet (wIte (eOp dIn (eVar 1) (eTup (aVal (eC (.str "times")) (aVal (eC (.str "turn")) aNil)))) (wLst (aVal (eOp dIx (eVar 0) (eUn dNeg (eC (.int 1)))) aNil)) (wLst aNil)))))
abbrev f__law_within : FnD := callF 2 [] b__law_within
/-! what lies within -/
def Note.inn : Note → List Note
  | .both a b => [a, b]
  | .times _ a => [a]
  | .turn a => [a]
  | .till _ _ a b => [a, b]
  | .may _ _ _ _ a b => [a, b]
  | _ => []
theorem within_eq (t : Note) : f__law_within [.sh t.dt] = some (.ok (.own (t.inn.map Note.dt)), []) := by
  refine fn_eq (ef_in rfl ?_)
  unfold b__law_within
  cases t <;>
  · unfold Note.dt
    walk_at "w"
    exact ⟨rfl, rfl⟩
end Lw
namespace Lw
open PySem PySem.Spec PyProof.Rows L2 RZ DL
local macro_rules | `(tactic| walk_at "sm") => `(tactic| first | assumption | exact sm_of (k := 200) (by omega) (by decide) | exact sm_of (k := 200) (by decide) (by decide))
local macro_rules | `(tactic| walk_at "w1") => `(tactic| ((conv => whnf); (try refine At.mk ?_)))
local macro_rules | `(tactic| walk_at "wa") => `(tactic| first
  | refine wox (ex_mul (Sm.mul (by walk_at "sm") (by walk_at "sm")) ?_)
  | refine wox (ex_mod (by first | decide | omega | assumption) ?_)
  | refine wox (ex_fdiv (Sm.div (by walk_at "sm") (by first | decide | omega | assumption)) ?_))
local macro_rules | `(tactic| walk_at "w") => `(tactic| ((first | refine nrm_go ?_ | refine WpS.ok ?_ | refine WpE.ok ?_ | skip); walk_at "w1"))
local macro_rules | `(tactic| walk_at "wm") => `(tactic| (walk_at "w"; (repeat (walk_at "wa"; walk_at "w1"))))
def b_amount_text : FS :=
  (sSeq (sAsgT (gT 2 (gsCons (gN 1) (gsCons (gN 2) gsNil))) (eVar 0))
    (sRet (wIte (eOp dEq (eVar 2) (eC (.int 1))) (wSh (eCB dStrA (aVal (eVar 1) aNil))) (wSh (eJs [(eUn dFmt (eVar 1)), (eC (.str "/")), (eUn dFmt (eVar 2))] Str.empty)))))
abbrev f_amount_text : FnD := callF 3 [] b_amount_text
def b_value_text (g_amount_text g_things_text : FnD) : FS :=
  (sSeq (sIf (eOp dEq (eOp dIx (eVar 0) (eC (.int 0))) (eC (.str "coin"))) (sRet (wCall 1 g_amount_text (aVal (eOp dIx (eVar 0) (eC (.int 1))) aNil))) sNx)
    (sSeq (sAsgT (gTs 1 0 (gsCons (gN 1) (gsCons (gN 2) gsNil))) (eVar 0))
    (sRet (wCall 3 g_things_text (aVal (eVar 1) (aVal (eUn (tabD tb_VALUES) (eVar 1)) (aVal (eVar 2) aNil)))))))
def b_note_text (g_things_text : FnD) : FS :=
  (sSeq (sAsgT (gTs 1 0 (gsCons (gN 1) (gsCons (gN 2) gsNil))) (eVar 0))
    (sSeq (sIf (eOp dEq (eVar 1) (eC (.str "seen"))) (sSeq (sAsgT (gTs 1 0 (gsCons (gN 3) (gsCons (gN 4) gsNil))) (eVar 2))
    (sRet (wCall 3 g_things_text (aVal (eVar 3) (aVal (eIte (eOp dIs (eOp dIx (eVar 4) (eC (.int 2))) (eC .non)) (eC (.str "da")) (eC (.str "daq"))) (aVal (eIte (eOp dIs (eOp dIx (eVar 4) (eC (.int 2))) (eC .non)) (eSl (eVar 4) none (some (eC (.int 2)))) (eVar 4)) aNil)))))) sNx)
    (sRet (wCall 3 g_things_text (aVal (eVar 1) (aVal (eUn (tabD tb_NOTES) (eVar 1)) (aVal (eVar 2) aNil)))))))
def b_thing_text (g_value_text g_note_text g_amount_text : FnD) : FS :=
  (sSeq (sIf (eOp dEq (eVar 0) (eC (.str "v"))) (sRet (wCall 1 g_value_text (aVal (eVar 1) aNil))) sNx)
    (sSeq (sIf (eOp dEq (eVar 0) (eC (.str "n"))) (sRet (wCall 1 g_note_text (aVal (eVar 1) aNil))) sNx)
    (sRet (wIte (eOp dIn (eVar 0) (eTup (aVal (eC (.str "a")) (aVal (eC (.str "q")) aNil)))) (wCall 1 g_amount_text (aVal (eVar 1) aNil)) (wSh (eCB dStrA (aVal (eVar 1) aNil)))))))
def b_things_text (g_thing_text : FnD) : FS :=
  (sSeq (sIf (eOp dEq (eVar 1) (eC (.str ""))) (sRet (wVar 0)) sNx)
    (sRet (wSh (eOp dAdd (eOp dAdd (eOp dAdd (eVar 0) (eC (.str "("))) (eMS mJoin (eC (.str ", ")) (eFrz (wLc [3, 4] (iArgs zsO (aVal (eVar 1) (aVal (eVar 2) aNil))) (gT 2 (gsCons (gN 3) (gsCons (gN 4) gsNil))) (eC (.bl true)) (eFrz (wCall 2 g_thing_text (aVal (eVar 3) (aVal (eVar 4) aNil)))))))) (eC (.str ")"))))))
abbrev mf_value_text (g : FnD) : FnD := callF 3 [] (b_value_text f_amount_text g)
abbrev mf_note_text (g : FnD) : FnD := callF 5 [] (b_note_text g)
abbrev mf_thing_text (g : FnD) : FnD := callF 2 [] (b_thing_text (mf_value_text g) (mf_note_text g) f_amount_text)
def fr_things_text : Nat → FnD
  | 0 => fun _ => none
  | n + 1 => callF 5 [] (b_things_text (mf_thing_text (fr_things_text n)))
abbrev f_things_text : FnD := fr_things_text 14
abbrev f_value_text : FnD := mf_value_text (fr_things_text 14)
abbrev f_note_text : FnD := mf_note_text (fr_things_text 14)
abbrev f_thing_text : FnD := mf_thing_text (fr_things_text 14)
def b__law_figures : FS :=
  (sRet (wIte (eOp dEq (eOp dIx (eVar 0) (eC (.int 1))) (eC (.int 1))) (wSh (eCB dStrA (aVal (eOp dIx (eVar 0) (eC (.int 0))) aNil))) (wSh (eOp dAdd (eOp dAdd (eCB dStrA (aVal (eOp dIx (eVar 0) (eC (.int 0))) aNil)) (eC (.str "/"))) (eCB dStrA (aVal (eOp dIx (eVar 0) (eC (.int 1))) aNil))))))
abbrev f__law_figures : FnD := callF 1 [] b__law_figures
def b__law_value_text (g__law_figures g__law_value_text : FnD) : FS :=
  (sSeq (sIf (eOp dEq (eOp dIx (eVar 0) (eC (.int 0))) (eC (.str "price"))) (sRet (wSh (eC (.str "price")))) sNx)
    (sSeq (sIf (eOp dEq (eOp dIx (eVar 0) (eC (.int 0))) (eC (.str "coin"))) (sRet (wCall 1 g__law_figures (aVal (eOp dIx (eVar 0) (eC (.int 1))) aNil))) sNx)
    (sSeq (sAsg 1 (wIte (eOp dEq (eOp dIx (eVar 0) (eC (.int 0))) (eC (.str "of"))) (wCall 1 g__law_figures (aVal (eOp dIx (eVar 0) (eC (.int 1))) aNil)) (wCall 1 g__law_value_text (aVal (eOp dIx (eVar 0) (eC (.int 1))) aNil))))
    (sRet (wSh (eOp dAdd (eOp dAdd (eOp dAdd (eOp dAdd (eOp dAdd (eOp dIx (eVar 0) (eC (.int 0))) (eC (.str "("))) (eVar 1)) (eC (.str ", "))) (eFrz (wCall 1 g__law_value_text (aVal (eOp dIx (eVar 0) (eC (.int 2))) aNil)))) (eC (.str ")"))))))))
def fr__law_value_text : Nat → FnD
  | 0 => fun _ => none
  | n + 1 => callF 2 [] (b__law_value_text f__law_figures (fr__law_value_text n))
abbrev f__law_value_text : FnD := fr__law_value_text 8
def b__law_text (g__law_value_text g__law_figures g__law_within g__law_text : FnD) : FS :=
  (sSeq (sAsg 1 (wSh (eOp dIx (eVar 0) (eC (.int 0)))))
    (sSeq (sIf (eOp dEq (eVar 1) (eC (.str "none"))) (sRet (wVar 1)) sNx)
    (sSeq (sIf (eOp dEq (eVar 1) (eC (.str "pay"))) (sRet (wSh (eOp dAdd (eOp dAdd (eOp dAdd (eOp dAdd (eC (.str "pay(")) (eCB dStrA (aVal (eOp dIx (eVar 0) (eC (.int 1))) aNil))) (eC (.str ", "))) (eFrz (wCall 1 g__law_value_text (aVal (eOp dIx (eVar 0) (eC (.int 2))) aNil)))) (eC (.str ")"))))) sNx)
    (sSeq (sIf (eOp dEq (eVar 1) (eC (.str "now"))) (sRet (wSh (eOp dAdd (eOp dAdd (eC (.str "now(")) (eFrz (wCall 1 g__law_value_text (aVal (eOp dIx (eVar 0) (eC (.int 1))) aNil)))) (eC (.str ")"))))) sNx)
    (sSeq (sIf (eOp dEq (eVar 1) (eC (.str "use"))) (sRet (wSh (eOp dAdd (eOp dAdd (eC (.str "use(")) (eOp dIx (eVar 0) (eC (.int 1)))) (eC (.str ")"))))) sNx)
    (sSeq (sIf (eOp dEq (eVar 1) (eC (.str "seen"))) (sSeq (sAsg 2 (wLst (aVal (eCB dStrA (aVal (eOp dIx (eVar 0) (eC (.int 2))) aNil)) (aVal (eFrz (wCall 1 g__law_figures (aVal (eOp dIx (eVar 0) (eC (.int 3))) aNil))) aNil))))
    (sSeq (sIf (eOp dIsNot (eOp dIx (eVar 0) (eC (.int 4))) (eC .non)) (sApp 2 (eFrz (wCall 1 g__law_figures (aVal (eOp dIx (eVar 0) (eC (.int 4))) aNil)))) sNx)
    (sRet (wSh (eOp dAdd (eOp dAdd (eOp dAdd (eOp dIx (eVar 0) (eC (.int 1))) (eC (.str "("))) (eMS mJoin (eC (.str ", ")) (eVar 2))) (eC (.str ")"))))))) sNx)
    (sSeq (sAsg 2 (wLst aNil))
    (sSeq (sIf (eOp dEq (eVar 1) (eC (.str "times"))) (sAsg 2 (wLst (aVal (eFrz (wCall 1 g__law_figures (aVal (eOp dIx (eVar 0) (eC (.int 1))) aNil))) aNil))) sNx)
    (sSeq (sIf (eOp dEq (eVar 1) (eC (.str "till"))) (sAsg 2 (wLst (aVal (eOp dIx (eVar 0) (eC (.int 1))) (aVal (eFrz (wCall 1 g__law_figures (aVal (eOp dIx (eVar 0) (eC (.int 2))) aNil))) aNil)))) sNx)
    (sSeq (sIf (eOp dEq (eVar 1) (eC (.str "may"))) (sAsg 2 (wLst (aVal (eOp dIx (eVar 0) (eC (.int 1))) (aVal (eOp dIx (eVar 0) (eC (.int 2))) (aVal (eCB dStrA (aVal (eOp dIx (eVar 0) (eC (.int 3))) aNil)) (aVal (eCB dStrA (aVal (eOp dIx (eVar 0) (eC (.int 4))) aNil)) aNil)))))) sNx)
    (sRet (wSh (eOp dAdd (eOp dAdd (eOp dAdd (eVar 1) (eC (.str "("))) (eMS mJoin (eC (.str ", ")) (eOp dAdd (eVar 2) (eFrz (wLc [3] (iSeq (eFrz (wCall 1 g__law_within (aVal (eVar 0) aNil)))) (gN 3) (eC (.bl true)) (eFrz (wCall 1 g__law_text (aVal (eVar 3) aNil)))))))) (eC (.str ")")))))))))))))))
def fr__law_text : Nat → FnD
  | 0 => fun _ => none
  | n + 1 => callF 4 [] (b__law_text f__law_value_text f__law_figures f__law_within (fr__law_text n))
abbrev f__law_text : FnD := fr__law_text 10
/-! texts -/
abbrev iT (i : Int) : Str := Str.ofString (toString i)
def TxI (i : Int) : Prop := i.natAbs.log2 < 1920
def TxR (q : Rat) : Prop := TxI q.num ∧ TxI (q.den : Int)
def amT (q : Rat) : Str := if (q.den : Int) = 1 then iT q.num else iT q.num ++ "/" ++ iT (q.den : Int)
theorem s_len (a b : Str) : (a ++ b).length = a.length + b.length := by
  show (a.cps ++ b.cps).size = _
  rw [Array.size_append]
  rfl
theorem iT_len {i : Int} (h : TxI i) : (iT i).length ≤ 1921 := PyProof.Rows.int_text_len_1921 h
theorem em_app (a : Str) : Str.empty ++ a = a := by
  show (⟨#[] ++ a.cps⟩ : Str) = a
  rw [Array.empty_append]
theorem amT_len {q : Rat} (h : TxR q) : (amT q).length ≤ 4000 := by
  have h1 := iT_len h.1
  have h2 := iT_len h.2
  unfold amT
  split
  · omega
  · rw [s_len, s_len]
    have : (Str.ofString "/").length = 1 := by decide +kernel
    omega
section
variable {Q : Wt → List (List Dt) → Prop}
theorem amount_text_ev {q : Rat} (h : TxR q) (k : Q (.sh (.str (amT q))) []) : EvF f_amount_text [.sh (amR q)] Q := by
  refine ef_in rfl ?_
  unfold b_amount_text
  walk_at "w"
  refine wd (fun e => ?_) (fun e => ?_)
  · walk_at "w"
    refine wo (if_pos h.1) ?_
    walk_at "w"
    rw [show amT q = iT q.num from if_pos e] at k
    exact k
  · have h1 := iT_len h.1
    have h2 := iT_len h.2
    have h3 : (Str.ofString "/").length = 1 := by decide +kernel
    rw [show amT q = iT q.num ++ "/" ++ iT (q.den : Int) from if_neg e] at k
    walk_at "w"
    refine wo (if_pos h.1) ?_
    walk_at "w"
    refine wc (Nat.ble_eq_true_of_le (by rw [em_app]; exact Nat.le_trans h1 (by decide))) ?_
    rw [em_app]
    walk_at "w"
    refine wc (Nat.ble_eq_true_of_le (by rw [s_len, h3]; exact Nat.le_trans (Nat.add_le_add_right h1 1) (by decide))) ?_
    walk_at "w"
    refine wo (if_pos h.2) ?_
    walk_at "w"
    refine wc (Nat.ble_eq_true_of_le (by rw [s_len, s_len, h3]; exact Nat.le_trans (Nat.add_le_add (Nat.add_le_add_right h1 1) h2) (by decide))) ?_
    walk_at "w"
    exact k
theorem figures_ev {q : Rat} (h : TxR q) (k : Q (.sh (.str (amT q))) []) : EvF f__law_figures [.sh (amR q)] Q := by
  refine ef_in rfl ?_
  unfold b__law_figures
  walk_at "w"
  refine wd (fun e => ?_) (fun e => ?_)
  · walk_at "w"
    refine wo (if_pos h.1) ?_
    walk_at "w"
    rw [show amT q = iT q.num from if_pos e] at k
    exact k
  · have h1 := iT_len h.1
    have h2 := iT_len h.2
    have h3 : (Str.ofString "/").length = 1 := by decide +kernel
    rw [show amT q = iT q.num ++ "/" ++ iT (q.den : Int) from if_neg e] at k
    walk_at "w"
    refine wo (if_pos h.1) ?_
    walk_at "w"
    refine wox (ex_addS (by rw [h3]; exact Nat.le_trans (Nat.add_le_add_right h1 1) (by decide)) ?_)
    walk_at "w"
    refine wo (if_pos h.2) ?_
    walk_at "w"
    refine wox (ex_addS (by rw [s_len, h3]; exact Nat.le_trans (Nat.add_le_add (Nat.add_le_add_right h1 1) h2) (by decide)) ?_)
    walk_at "w"
    exact k
end
/-! a head and its things -/
def ap (h : Str) (ts : List Str) : Str := h ++ "(" ++ Txt.join ", " ts ++ ")"
theorem l_par : (Str.ofString "(").length = 1 := by decide +kernel
theorem l_par2 : (Str.ofString ")").length = 1 := by decide +kernel
theorem l_sep : (Str.ofString ", ").length = 2 := by decide +kernel
theorem join_cons2 (s x y : Str) (r : List Str) : Txt.join s (x :: y :: r) = x ++ s ++ Txt.join s (y :: r) := by
  rw [TL.join_eq, TL.join_eq]
  rfl
theorem join_one (s x : Str) : Txt.join s [x] = x := by
  rw [TL.join_eq]
  rfl
theorem join_sum (s : Str) : ∀ ts : List Str, (ts.map (·.length)).sum ≤ (Txt.join s ts).length
  | [] => Nat.zero_le _
  | [x] => by rw [join_one]; simp
  | x :: y :: r => by
    have := join_sum s (y :: r)
    rw [join_cons2, s_len, s_len]
    simp only [List.map_cons, List.sum_cons] at this ⊢
    omega
theorem ap_len (h : Str) (ts : List Str) : (ap h ts).length = h.length + (Txt.join ", " ts).length + 2 := by
  unfold ap
  rw [s_len, s_len, s_len, l_par, l_par2]
  omega
theorem ap_mem {h t : Str} {ts : List Str} (m : t ∈ ts) : t.length ≤ (ap h ts).length := by
  have h1 := join_sum ", " ts
  have h2 : ∀ {us : List Str}, t ∈ us → t.length ≤ (us.map (·.length)).sum := by
    intro us
    induction us with
    | nil => intro m; cases m
    | cons u us ih =>
      intro m
      simp only [List.map_cons, List.sum_cons]
      rcases List.mem_cons.mp m with e | e
      · subst e; omega
      · have := ih e; omega
  have := h2 m
  rw [ap_len]
  omega
/-- what the things at a level come to -/
inductive Thgs (n : Nat) : List Dt → List Str → Prop
  | nil : Thgs n [] []
  | cons {s : Str} {d : Dt} {t : Str} {zs : List Dt} {ts : List Str} : mf_thing_text (fr_things_text n) [.sh (.str s), .sh d] = some (.ok (.sh (.str t)), []) → Thgs n zs ts → Thgs n (.tup [.str s, d] :: zs) (t :: ts)
theorem Thgs.len {n : Nat} : ∀ {zs : List Dt} {ts : List Str}, Thgs n zs ts → zs.length = ts.length
  | _, _, .nil => rfl
  | _, _, .cons _ r => by simp [Thgs.len r]
theorem things_ev {n : Nat} {h form : Str} {ds zs : List Dt} {ts : List Str} (hf : form ≠ "") (hz : zsO [.str form, .lst ds] = some zs) (T : Thgs n zs ts) (hl : ts.length ≤ 100) (hs : (ap h ts).length ≤ 1000000) :
    fr_things_text (n + 1) [.sh (.str h), .sh (.str form), .sh (.lst ds)] = some (.ok (.sh (.str (ap h ts))), []) := by
  refine fn_eq (ef_in rfl ?_)
  unfold b_things_text
  have hj := join_sum ", " ts
  have ha := ap_len h ts
  walk_at "w"
  refine wtf (decide_eq_false hf) ?_
  walk_at "w"
  refine wox (ex_addS (by rw [l_par]; omega) ?_)
  walk_at "w"
  refine wo hz ?_
  walk_at "w"
  refine (lc_inv (fun es ρ acc => ∃ us vs, Thgs n es us ∧ acc = vs.map Dt.str ∧ vs ++ us = ts ∧ ρ = [some (.sh (.str h)), some (.sh (.str form)), some (.sh (.lst ds)), none, none]) ?_ (Q := fun acc ρ => acc = ts.map Dt.str ∧ ρ = [some (.sh (.str h)), some (.sh (.str form)), some (.sh (.lst ds)), none, none]) ?_ _ _ _ ⟨ts, [], T, rfl, rfl, rfl⟩).imp ?_
  · rintro d es ρ acc ⟨us, vs, T, rfl, e, rfl⟩
    cases T with
    | cons ht T =>
      rename_i s d t us
      walk_at "w"
      refine (ef_at ht ?_).h
      walk_at "w"
      refine ⟨?_, ?_⟩
      · rw [List.length_map]
        have := congrArg List.length e
        rw [List.length_append] at this
        omega
      · walk_at "w"
        exact ⟨us, vs ++ [t], T, by simp, by simpa using e, rfl⟩
  · rintro ρ acc ⟨us, vs, T, rfl, e, rfl⟩
    cases T
    rw [List.append_nil] at e
    subst e
    exact ⟨rfl, rfl⟩
  · rintro _ _ ⟨rfl, rfl⟩
    walk_at "w"
    refine wo (show mJoin _ (.lst (ts.map Dt.str)) = some (.str (Txt.join ", " ts)) from ?_) ?_
    · unfold mJoin
      simp only [strsOf_map]
      rw [if_pos (by rw [l_sep]; omega)]
    · walk_at "w"
      refine wox (ex_addS (by rw [s_len, l_par]; omega) ?_)
      walk_at "w"
      refine wox (ex_addS (by rw [s_len, s_len, l_par, l_par2]; omega) ?_)
      walk_at "w"
      exact ⟨rfl, rfl⟩
/-! a thing by its sign -/
section
variable {n : Nat} {d : Dt} {t : Str}
theorem th_v (h : mf_value_text (fr_things_text n) [.sh d] = some (.ok (.sh (.str t)), [])) : mf_thing_text (fr_things_text n) [.sh (.str "v"), .sh d] = some (.ok (.sh (.str t)), []) := by
  refine fn_eq (ef_in rfl ?_)
  unfold b_thing_text
  walk_at "w"
  refine (ef_at h ?_).h
  walk_at "w"
  exact ⟨rfl, rfl⟩
theorem th_n (h : mf_note_text (fr_things_text n) [.sh d] = some (.ok (.sh (.str t)), [])) : mf_thing_text (fr_things_text n) [.sh (.str "n"), .sh d] = some (.ok (.sh (.str t)), []) := by
  refine fn_eq (ef_in rfl ?_)
  unfold b_thing_text
  walk_at "w"
  refine (ef_at h ?_).h
  walk_at "w"
  exact ⟨rfl, rfl⟩
theorem th_a {q : Rat} (h : TxR q) : mf_thing_text (fr_things_text n) [.sh (.str "a"), .sh (amR q)] = some (.ok (.sh (.str (amT q))), []) := by
  refine fn_eq (ef_in rfl ?_)
  unfold b_thing_text
  walk_at "w"
  refine amount_text_ev h ?_
  walk_at "w"
  exact ⟨rfl, rfl⟩
theorem th_q {q : Rat} (h : TxR q) : mf_thing_text (fr_things_text n) [.sh (.str "q"), .sh (amR q)] = some (.ok (.sh (.str (amT q))), []) := by
  refine fn_eq (ef_in rfl ?_)
  unfold b_thing_text
  walk_at "w"
  refine amount_text_ev h ?_
  walk_at "w"
  exact ⟨rfl, rfl⟩
theorem th_d {i : Int} (h : TxI i) : mf_thing_text (fr_things_text n) [.sh (.str "d"), .sh (.int i)] = some (.ok (.sh (.str (iT i))), []) := by
  refine fn_eq (ef_in rfl ?_)
  unfold b_thing_text
  walk_at "w"
  refine wo (if_pos h) ?_
  walk_at "w"
  exact ⟨rfl, rfl⟩
theorem th_s {s : Str} (h : s = "m" ∨ s = "o" ∨ s = "s") {x : Str} : mf_thing_text (fr_things_text n) [.sh (.str s), .sh (.str x)] = some (.ok (.sh (.str x)), []) := by
  rcases h with rfl | rfl | rfl <;>
  · refine fn_eq (ef_in rfl ?_)
    unfold b_thing_text
    walk_at "w"
    exact ⟨rfl, rfl⟩
end
/-! values -/
def Val.txt : Val → Str
  | .price => "price"
  | .coin r => amT r
  | .of r v => ap "of" [amT r, v.txt]
  | .pair o v w => ap o.str [v.txt, w.txt]
theorem things_nil {n : Nat} {h : Str} : fr_things_text (n + 1) [.sh (.str h), .sh (.str ""), .sh (.lst [])] = some (.ok (.sh (.str h)), []) := by
  refine fn_eq (ef_in rfl ?_)
  unfold b_things_text
  walk_at "w"
  exact ⟨rfl, rfl⟩
theorem value_text_eq : ∀ {n : Nat} {v : Val}, VIs TxR n v → v.txt.length ≤ 1000000 → mf_value_text (fr_things_text n) [.sh v.dt] = some (.ok (.sh (.str v.txt)), [])
  | _, _, .price n, _ => by
    refine fn_eq (ef_in rfl ?_)
    unfold b_value_text Val.dt
    walk_at "w"
    refine (ef_at things_nil ?_).h
    walk_at "w"
    exact ⟨rfl, rfl⟩
  | _, _, .coin n h, _ => by
    refine fn_eq (ef_in rfl ?_)
    unfold b_value_text Val.dt
    walk_at "w"
    refine amount_text_ev h ?_
    walk_at "w"
    exact ⟨rfl, rfl⟩
  | _, _, .of n (r := r) (v := v) h hv, hl => by
    have ih := value_text_eq hv (Nat.le_trans (ap_mem (h := "of") (ts := [amT r, v.txt]) (by simp)) hl)
    refine fn_eq (ef_in rfl ?_)
    unfold b_value_text Val.dt
    walk_at "w"
    refine (ef_at (things_ev (by decide) rfl (.cons (th_a h) (.cons (th_v ih) .nil)) (Nat.le_of_ble_eq_true rfl) hl) ?_).h
    walk_at "w"
    exact ⟨rfl, rfl⟩
  | _, _, .pair n o (v := v) (w := w) hv hw, hl => by
    have ih1 := value_text_eq hv (Nat.le_trans (ap_mem (h := o.str) (ts := [v.txt, w.txt]) (by simp)) hl)
    have ih2 := value_text_eq hw (Nat.le_trans (ap_mem (h := o.str) (ts := [v.txt, w.txt]) (by simp)) hl)
    refine fn_eq (ef_in rfl ?_)
    unfold b_value_text Val.dt
    cases o <;>
    · unfold Pw.str
      walk_at "w"
      refine (ef_at (things_ev (by decide) rfl (.cons (th_v ih1) (.cons (th_v ih2) .nil)) (Nat.le_of_ble_eq_true rfl) hl) ?_).h
      walk_at "w"
      exact ⟨rfl, rfl⟩
/-! notes -/
def Note.txt : Note → Str
  | .none => "none"
  | .pay d v => ap "pay" [iT d, v.txt]
  | .now v => ap "now" [v.txt]
  | .both a b => ap "both" [a.txt, b.txt]
  | .times r a => ap "times" [amT r, a.txt]
  | .turn a => ap "turn" [a.txt]
  | .till u l a b => ap "till" [sideS u, amT l, a.txt, b.txt]
  | .may x h b e s l => ap "may" [x, ownS h, iT b, iT e, s.txt, l.txt]
  | .seen k d s .none => ap (wordS k) [iT d, amT s]
  | .seen k d s (.some p) => ap (wordS k) [iT d, amT s, amT p]
  | .use x => ap "use" [x]
inductive NT : Nat → Note → Prop
  | none (n : Nat) : NT (n + 1) .none
  | pay (n : Nat) {d : Int} {v : Val} : TxI d → VIs TxR n v → NT (n + 1) (.pay d v)
  | now (n : Nat) {v : Val} : VIs TxR n v → NT (n + 1) (.now v)
  | both (n : Nat) {a b : Note} : NT n a → NT n b → NT (n + 1) (.both a b)
  | times (n : Nat) {r : Rat} {a : Note} : TxR r → NT n a → NT (n + 1) (.times r a)
  | turn (n : Nat) {a : Note} : NT n a → NT (n + 1) (.turn a)
  | till (n : Nat) {u : Bool} {l : Rat} {a b : Note} : TxR l → NT n a → NT n b → NT (n + 1) (.till u l a b)
  | may (n : Nat) {x : Str} {h : Bool} {b e : Int} {s l : Note} : TxI b → TxI e → NT n s → NT n l → NT (n + 1) (.may x h b e s l)
  | seen0 (n : Nat) {k : Bool} {d : Int} {s : Rat} : TxI d → TxR s → NT (n + 1) (.seen k d s .none)
  | seen1 (n : Nat) {k : Bool} {d : Int} {s p : Rat} : TxI d → TxR s → TxR p → NT (n + 1) (.seen k d s (.some p))
  | use (n : Nat) {x : Str} : NT (n + 1) (.use x)
theorem note_text_eq : ∀ {n : Nat} {t : Note}, NT n t → t.txt.length ≤ 1000000 → mf_note_text (fr_things_text n) [.sh t.dt] = some (.ok (.sh (.str t.txt)), [])
  | _, _, .none n, _ => by
    refine fn_eq (ef_in rfl ?_)
    unfold b_note_text Note.dt
    walk_at "w"
    refine (ef_at things_nil ?_).h
    walk_at "w"
    exact ⟨rfl, rfl⟩
  | _, _, .pay n (d := d) (v := v) h hv, hl => by
    have ih := value_text_eq hv (Nat.le_trans (ap_mem (h := "pay") (ts := [iT d, v.txt]) (by simp)) hl)
    refine fn_eq (ef_in rfl ?_)
    unfold b_note_text Note.dt
    walk_at "w"
    refine (ef_at (things_ev (by decide) rfl (.cons (th_d h) (.cons (th_v ih) .nil)) (Nat.le_of_ble_eq_true rfl) hl) ?_).h
    walk_at "w"
    exact ⟨rfl, rfl⟩
  | _, _, .now n (v := v) hv, hl => by
    have ih := value_text_eq hv (Nat.le_trans (ap_mem (h := "now") (ts := [v.txt]) (by simp)) hl)
    refine fn_eq (ef_in rfl ?_)
    unfold b_note_text Note.dt
    walk_at "w"
    refine (ef_at (things_ev (by decide) rfl (.cons (th_v ih) .nil) (Nat.le_of_ble_eq_true rfl) hl) ?_).h
    walk_at "w"
    exact ⟨rfl, rfl⟩
  | _, _, .both n (a := a) (b := b) ha hb, hl => by
    have i1 := note_text_eq ha (Nat.le_trans (ap_mem (h := "both") (ts := [a.txt, b.txt]) (by simp)) hl)
    have i2 := note_text_eq hb (Nat.le_trans (ap_mem (h := "both") (ts := [a.txt, b.txt]) (by simp)) hl)
    refine fn_eq (ef_in rfl ?_)
    unfold b_note_text Note.dt
    walk_at "w"
    refine (ef_at (things_ev (by decide) rfl (.cons (th_n i1) (.cons (th_n i2) .nil)) (Nat.le_of_ble_eq_true rfl) hl) ?_).h
    walk_at "w"
    exact ⟨rfl, rfl⟩
  | _, _, .times n (r := r) (a := a) h ha, hl => by
    have i1 := note_text_eq ha (Nat.le_trans (ap_mem (h := "times") (ts := [amT r, a.txt]) (by simp)) hl)
    refine fn_eq (ef_in rfl ?_)
    unfold b_note_text Note.dt
    walk_at "w"
    refine (ef_at (things_ev (by decide) rfl (.cons (th_a h) (.cons (th_n i1) .nil)) (Nat.le_of_ble_eq_true rfl) hl) ?_).h
    walk_at "w"
    exact ⟨rfl, rfl⟩
  | _, _, .turn n (a := a) ha, hl => by
    have i1 := note_text_eq ha (Nat.le_trans (ap_mem (h := "turn") (ts := [a.txt]) (by simp)) hl)
    refine fn_eq (ef_in rfl ?_)
    unfold b_note_text Note.dt
    walk_at "w"
    refine (ef_at (things_ev (by decide) rfl (.cons (th_n i1) .nil) (Nat.le_of_ble_eq_true rfl) hl) ?_).h
    walk_at "w"
    exact ⟨rfl, rfl⟩
  | _, _, .till n (u := u) (l := l) (a := a) (b := b) h ha hb, hl => by
    have i1 := note_text_eq ha (Nat.le_trans (ap_mem (h := "till") (ts := [sideS u, amT l, a.txt, b.txt]) (by simp)) hl)
    have i2 := note_text_eq hb (Nat.le_trans (ap_mem (h := "till") (ts := [sideS u, amT l, a.txt, b.txt]) (by simp)) hl)
    refine fn_eq (ef_in rfl ?_)
    unfold b_note_text Note.dt
    walk_at "w"
    refine (ef_at (things_ev (by decide) rfl (.cons (th_s (.inr (.inr rfl))) (.cons (th_a h) (.cons (th_n i1) (.cons (th_n i2) .nil)))) (Nat.le_of_ble_eq_true rfl) hl) ?_).h
    walk_at "w"
    exact ⟨rfl, rfl⟩
  | _, _, .may n (x := x) (h := h) (b := b) (e := e) (s := s) (l := l) hb he hs hl1, hl => by
    have i1 := note_text_eq hs (Nat.le_trans (ap_mem (h := "may") (ts := [x, ownS h, iT b, iT e, s.txt, l.txt]) (by simp)) hl)
    have i2 := note_text_eq hl1 (Nat.le_trans (ap_mem (h := "may") (ts := [x, ownS h, iT b, iT e, s.txt, l.txt]) (by simp)) hl)
    refine fn_eq (ef_in rfl ?_)
    unfold b_note_text Note.dt
    walk_at "w"
    refine (ef_at (things_ev (by decide) rfl (.cons (th_s (.inl rfl)) (.cons (th_s (.inr (.inl rfl))) (.cons (th_d hb) (.cons (th_d he) (.cons (th_n i1) (.cons (th_n i2) .nil)))))) (Nat.le_of_ble_eq_true rfl) hl) ?_).h
    walk_at "w"
    exact ⟨rfl, rfl⟩
  | _, _, .seen0 n (k := k) (d := d) (s := s) h1 h2, hl => by
    refine fn_eq (ef_in rfl ?_)
    unfold b_note_text Note.dt
    walk_at "w"
    refine (ef_at (things_ev (by decide) rfl (.cons (th_d h1) (.cons (th_a h2) .nil)) (Nat.le_of_ble_eq_true rfl) hl) ?_).h
    walk_at "w"
    exact ⟨rfl, rfl⟩
  | _, _, .seen1 n (k := k) (d := d) (s := s) (p := p) h1 h2 h3, hl => by
    refine fn_eq (ef_in rfl ?_)
    unfold b_note_text Note.dt
    walk_at "w"
    refine (ef_at (things_ev (by decide) rfl (.cons (th_d h1) (.cons (th_a h2) (.cons (th_q h3) .nil))) (Nat.le_of_ble_eq_true rfl) hl) ?_).h
    walk_at "w"
    exact ⟨rfl, rfl⟩
  | _, _, .use n (x := x), hl => by
    refine fn_eq (ef_in rfl ?_)
    unfold b_note_text Note.dt
    walk_at "w"
    refine (ef_at (things_ev (by decide) rfl (.cons (th_s (.inl rfl)) .nil) (Nat.le_of_ble_eq_true rfl) hl) ?_).h
    walk_at "w"
    exact ⟨rfl, rfl⟩
end Lw
namespace Lw
open PySem PySem.Spec PyProof.Rows L2 RZ DL
local macro_rules | `(tactic| walk_at "sm") => `(tactic| first | assumption | exact sm_of (k := 200) (by omega) (by decide) | exact sm_of (k := 200) (by decide) (by decide))
local macro_rules | `(tactic| walk_at "w1") => `(tactic| ((conv => whnf); (try refine At.mk ?_)))
local macro_rules | `(tactic| walk_at "wa") => `(tactic| first
  | refine wox (ex_mul (Sm.mul (by walk_at "sm") (by walk_at "sm")) ?_)
  | refine wox (ex_mod (by first | decide | omega | assumption) ?_)
  | refine wox (ex_fdiv (Sm.div (by walk_at "sm") (by first | decide | omega | assumption)) ?_))
local macro_rules | `(tactic| walk_at "w") => `(tactic| ((first | refine nrm_go ?_ | refine WpS.ok ?_ | refine WpE.ok ?_ | skip); walk_at "w1"))
local macro_rules | `(tactic| walk_at "wm") => `(tactic| (walk_at "w"; (repeat (walk_at "wa"; walk_at "w1"))))
local macro_rules | `(tactic| walk_at "len") => `(tactic| (simp only [s_len, l_par, l_par2, l_sep]; omega))
/-! the law's own writing -/
/-- what a note's text asks -/
def Note.TG (k : Nat) : Note → Prop
  | .none => True
  | .pay d v => TxI d ∧ VIs TxR k v
  | .now v => VIs TxR k v
  | .both a b => a.TG k ∧ b.TG k
  | .times r a => TxR r ∧ a.TG k
  | .turn a => a.TG k
  | .till _ l a b => TxR l ∧ a.TG k ∧ b.TG k
  | .may x _ b e s l => x.length ≤ 6 ∧ TxI b ∧ TxI e ∧ s.TG k ∧ l.TG k
  | .seen _ d s p => TxI d ∧ TxR s ∧ PastIs TxR p
  | .use x => x.length ≤ 6
theorem ap2 (h f s : Str) : h ++ "(" ++ f ++ ", " ++ s ++ ")" = ap h [f, s] := by
  unfold ap
  rw [join_cons2, join_one]
  simp only [Str.append_assoc]
theorem ap1 (h f : Str) : h ++ "(" ++ f ++ ")" = ap h [f] := by
  unfold ap
  rw [join_one]
theorem of_ap2 {h f s : Str} : (h ++ "(" ++ f ++ ", " ++ s ++ ")").length = h.length + f.length + s.length + 4 := by
  rw [s_len, s_len, s_len, s_len, s_len, l_par, l_par2, l_sep]
  omega
theorem lvalue_text_eq : ∀ {n : Nat} {v : Val}, VIs TxR n v → v.txt.length ≤ 1000000 → fr__law_value_text n [.sh v.dt] = some (.ok (.sh (.str v.txt)), [])
  | _, _, .price n, _ => by
    refine fn_eq (ef_in rfl ?_)
    unfold b__law_value_text Val.dt
    walk_at "w"
    exact ⟨rfl, rfl⟩
  | _, _, .coin n h, _ => by
    refine fn_eq (ef_in rfl ?_)
    unfold b__law_value_text Val.dt
    walk_at "w"
    refine figures_ev h ?_
    walk_at "w"
    exact ⟨rfl, rfl⟩
  | _, _, .of n (r := r) (v := v) h hv, hl => by
    have ih := lvalue_text_eq hv (Nat.le_trans (ap_mem (h := "of") (ts := [amT r, v.txt]) (by simp)) hl)
    have e := ap2 "of" (amT r) v.txt
    have hl' : (ap "of" [amT r, v.txt]).length ≤ 1000000 := hl
    rw [← e, of_ap2] at hl'
    refine fn_eq (ef_in rfl ?_)
    unfold b__law_value_text Val.dt
    walk_at "w"
    refine figures_ev h ?_
    walk_at "w"
    refine wox (ex_addS (by walk_at "len") ?_)
    walk_at "w"
    refine wox (ex_addS (by walk_at "len") ?_)
    walk_at "w"
    refine (ef_at ih ?_).h
    walk_at "w"
    refine wox (ex_addS (by walk_at "len") ?_)
    walk_at "w"
    refine wox (ex_addS (by walk_at "len") ?_)
    walk_at "w"
    exact ⟨by rw [e]; rfl, rfl⟩
  | _, _, .pair n o (v := v) (w := w) hv hw, hl => by
    have i1 := lvalue_text_eq hv (Nat.le_trans (ap_mem (h := o.str) (ts := [v.txt, w.txt]) (by simp)) hl)
    have i2 := lvalue_text_eq hw (Nat.le_trans (ap_mem (h := o.str) (ts := [v.txt, w.txt]) (by simp)) hl)
    have e := ap2 o.str v.txt w.txt
    have hl' : (ap o.str [v.txt, w.txt]).length ≤ 1000000 := hl
    rw [← e, of_ap2] at hl'
    refine fn_eq (ef_in rfl ?_)
    unfold b__law_value_text Val.dt
    have key : ∀ o : Pw, decide (o.str = Str.ofString "price") = false ∧ decide (o.str = Str.ofString "coin") = false ∧ decide (o.str = Str.ofString "of") = false := by
      intro o
      cases o <;> exact ⟨by decide, by decide, by decide⟩
    obtain ⟨k1, k2, k3⟩ := key o
    walk_at "w"
    refine wtf k1 ?_
    walk_at "w"
    refine wtf k2 ?_
    walk_at "w"
    refine wtf k3 ?_
    walk_at "w"
    refine (ef_at i1 ?_).h
    walk_at "w"
    refine wox (ex_addS (by walk_at "len") ?_)
    walk_at "w"
    refine wox (ex_addS (by walk_at "len") ?_)
    walk_at "w"
    refine wox (ex_addS (by walk_at "len") ?_)
    walk_at "w"
    refine (ef_at i2 ?_).h
    walk_at "w"
    refine wox (ex_addS (by walk_at "len") ?_)
    walk_at "w"
    refine wox (ex_addS (by walk_at "len") ?_)
    walk_at "w"
    exact ⟨by rw [e]; rfl, rfl⟩
theorem ltext_lc {g : FnD} {A B C : Option Wt} {l : List Note} (hl : l.length ≤ 100) (h : ∀ a ∈ l, g [.sh a.dt] = some (.ok (.sh (.str a.txt)), [])) :
    EvL [3] (gN 3) (eC (.bl true)) (eFrz (wCall 1 g (aVal (eVar 3) aNil))) (l.map Note.dt) [A, B, C, none] [] fun acc ρ => acc = (l.map Note.txt).map Dt.str ∧ ρ = [A, B, C, none] := by
  refine lc_inv (fun es ρ acc => ∃ us vs, es = us.map Note.dt ∧ acc = (vs.map Note.txt).map Dt.str ∧ vs ++ us = l ∧ ρ = [A, B, C, none]) ?_ ?_ _ _ _ ⟨l, [], rfl, rfl, rfl, rfl⟩
  · rintro d es ρ acc ⟨us, vs, e1, rfl, e, rfl⟩
    cases us with
    | nil => cases e1
    | cons u us =>
      cases e1
      walk_at "w"
      refine (ef_at (h u (by rw [← e]; simp)) ?_).h
      walk_at "w"
      refine ⟨?_, ?_⟩
      · rw [List.length_map, List.length_map]
        have := congrArg List.length e
        rw [List.length_append] at this
        omega
      · walk_at "w"
        exact ⟨us, vs ++ [u], rfl, by simp, by simpa using e, rfl⟩
  · rintro ρ acc ⟨us, vs, e1, rfl, e, rfl⟩
    cases us with
    | cons u us => cases e1
    | nil =>
      rw [List.append_nil] at e
      subst e
      exact ⟨rfl, rfl⟩
theorem mjoin_ok {ts : List Str} (h : (ap "" ts).length ≤ 2000000) (hl : ts.length ≤ 100) : mJoin ", " (.lst (ts.map Dt.str)) = some (.str (Txt.join ", " ts)) := by
  have hj := join_sum ", " ts
  rw [ap_len] at h
  unfold mJoin
  simp only [strsOf_map]
  rw [if_pos (by rw [l_sep]; omega)]
theorem inn_txt {t a : Note} (m : a ∈ t.inn) : a.txt.length ≤ t.txt.length := by
  cases t <;> simp only [Note.inn, List.mem_cons, List.not_mem_nil, or_false] at m <;> first
    | (exact m.elim; done)
    | (rcases m with rfl | rfl <;> exact ap_mem (by simp))
    | (subst m; exact ap_mem (by simp))
theorem NT.inn {n : Nat} {t : Note} (h : NT (n + 1) t) : ∀ a ∈ t.inn, NT n a := by
  intro a m
  cases h <;> simp only [Note.inn, List.mem_cons, List.not_mem_nil, or_false] at m <;> first
    | (exact m.elim; done)
    | (rcases m with rfl | rfl <;> assumption)
    | (subst m; assumption)
theorem pay_ap (f s : Str) : (Str.ofString "pay(") ++ f ++ ", " ++ s ++ ")" = ap "pay" [f, s] := by
  rw [← ap2, show Str.ofString "pay(" = Str.ofString "pay" ++ Str.ofString "(" from by decide +kernel]
theorem now_ap (f : Str) : (Str.ofString "now(") ++ f ++ ")" = ap "now" [f] := by
  rw [← ap1, show Str.ofString "now(" = Str.ofString "now" ++ Str.ofString "(" from by decide +kernel]
theorem use_ap (f : Str) : (Str.ofString "use(") ++ f ++ ")" = ap "use" [f] := by
  rw [← ap1, show Str.ofString "use(" = Str.ofString "use" ++ Str.ofString "(" from by decide +kernel]
theorem l_em : (Str.ofString "").length = 0 := by decide +kernel
theorem l_pay : (Str.ofString "pay(").length = 4 ∧ (Str.ofString "now(").length = 4 ∧ (Str.ofString "use(").length = 4 := by decide +kernel
theorem Note.TG.inn {k : Nat} {t : Note} (h : t.TG k) : ∀ a ∈ t.inn, a.TG k := by
  intro a m
  cases t <;> simp only [Note.inn, List.mem_cons, List.not_mem_nil, or_false] at m <;> first
    | (exact m.elim; done)
    | (rcases m with rfl | rfl <;> first | exact h.1 | exact h.2 | exact h.2.1 | exact h.2.2 | exact h.2.2.2.1 | exact h.2.2.2.2)
    | (subst m; first | exact h | exact h.2)
theorem ltext_eq : ∀ (n : Nat) {t : Note}, NT n t → t.TG 8 → t.txt.length ≤ 1000000 → fr__law_text n [.sh t.dt] = some (.ok (.sh (.str t.txt)), [])
  | 0, _, h, _, _ => by cases h
  | n + 1, t, hT, hG, hl => by
    have hi : ∀ a ∈ t.inn, fr__law_text n [.sh a.dt] = some (.ok (.sh (.str a.txt)), []) := fun a m => ltext_eq n (hT.inn a m) (hG.inn a m) (Nat.le_trans (inn_txt m) hl)
    refine fn_eq (ef_in rfl ?_)
    unfold b__law_text
    cases hT with
    | none =>
      unfold Note.dt
      walk_at "w"
      exact ⟨rfl, rfl⟩
    | pay _ h hv =>
      rename_i d v
      have e := pay_ap (Str.ofString (toString d)) v.txt
      have hl' : (ap "pay" [iT d, v.txt]).length ≤ 1000000 := hl
      have hvl : v.txt.length ≤ 1000000 := Nat.le_trans (ap_mem (by simp)) hl'
      rw [← e] at hl'
      simp only [s_len, l_pay.1, l_sep, l_par2] at hl'
      unfold Note.dt
      walk_at "w"
      refine wo (if_pos h) ?_
      walk_at "w"
      refine wox (ex_addS (by rw [l_pay.1]; omega) ?_)
      walk_at "w"
      refine wox (ex_addS (by rw [s_len, l_pay.1, l_sep]; omega) ?_)
      walk_at "w"
      refine (ef_at (lvalue_text_eq (show VIs TxR 8 v from hG.2) hvl) ?_).h
      walk_at "w"
      refine wox (ex_addS (by rw [s_len, s_len, l_pay.1, l_sep]; omega) ?_)
      walk_at "w"
      refine wox (ex_addS (by rw [s_len, s_len, s_len, l_pay.1, l_sep, l_par2]; omega) ?_)
      walk_at "w"
      exact ⟨by rw [e]; rfl, rfl⟩
    | now _ hv =>
      rename_i v
      have e := now_ap v.txt
      have hl' : (ap "now" [v.txt]).length ≤ 1000000 := hl
      have hvl : v.txt.length ≤ 1000000 := Nat.le_trans (ap_mem (by simp)) hl'
      rw [← e] at hl'
      simp only [s_len, l_pay.2.1, l_sep, l_par2] at hl'
      unfold Note.dt
      walk_at "w"
      refine (ef_at (lvalue_text_eq (show VIs TxR 8 v from hG) hvl) ?_).h
      walk_at "w"
      refine wox (ex_addS (by rw [l_pay.2.1]; omega) ?_)
      walk_at "w"
      refine wox (ex_addS (by rw [s_len, l_pay.2.1, l_par2]; omega) ?_)
      walk_at "w"
      exact ⟨by rw [e]; rfl, rfl⟩
    | use =>
      rename_i x
      have e := use_ap x
      have hl' : (ap "use" [x]).length ≤ 1000000 := hl
      rw [← e] at hl'
      simp only [s_len, l_pay.2.2, l_sep, l_par2] at hl'
      unfold Note.dt
      walk_at "w"
      refine wox (ex_addS (by rw [l_pay.2.2]; omega) ?_)
      walk_at "w"
      refine wox (ex_addS (by rw [s_len, l_pay.2.2, l_par2]; omega) ?_)
      walk_at "w"
      exact ⟨by rw [e]; rfl, rfl⟩
    | seen0 _ h1 h2 =>
      rename_i k d s
      have hl' : (ap (wordS k) [iT d, amT s]).length ≤ 1000000 := hl
      have ha := ap_len (wordS k) [iT d, amT s]
      unfold Note.dt
      walk_at "w"
      refine wo (if_pos h1) ?_
      walk_at "w"
      refine figures_ev h2 ?_
      walk_at "w"
      refine wox (ex_addS (by rw [l_par]; omega) ?_)
      walk_at "w"
      refine wo (mjoin_ok (ts := [iT d, amT s]) (by rw [ap_len, l_em]; omega) (Nat.le_of_ble_eq_true rfl)) ?_
      walk_at "w"
      refine wox (ex_addS (by rw [s_len, l_par]; omega) ?_)
      walk_at "w"
      refine wox (ex_addS (by rw [s_len, s_len, l_par, l_par2]; omega) ?_)
      walk_at "w"
      exact ⟨rfl, rfl⟩
    | seen1 _ h1 h2 h3 =>
      rename_i k d s p
      have hl' : (ap (wordS k) [iT d, amT s, amT p]).length ≤ 1000000 := hl
      have ha := ap_len (wordS k) [iT d, amT s, amT p]
      unfold Note.dt
      walk_at "w"
      refine wo (if_pos h1) ?_
      walk_at "w"
      refine figures_ev h2 ?_
      walk_at "w"
      refine figures_ev h3 ?_
      walk_at "w"
      refine ⟨Nat.lt_of_lt_of_le (show 2 < 3 by decide) (by decide), ?_⟩
      walk_at "w"
      refine wox (ex_addS (by rw [l_par]; omega) ?_)
      walk_at "w"
      refine wo (mjoin_ok (ts := [iT d, amT s, amT p]) (by rw [ap_len, l_em]; omega) (Nat.le_of_ble_eq_true rfl)) ?_
      walk_at "w"
      refine wox (ex_addS (by rw [s_len, l_par]; omega) ?_)
      walk_at "w"
      refine wox (ex_addS (by rw [s_len, s_len, l_par, l_par2]; omega) ?_)
      walk_at "w"
      exact ⟨rfl, rfl⟩
    | both _ ha hb =>
      rename_i a b
      have hl' : (ap "both" [a.txt, b.txt]).length ≤ 1000000 := hl
      have ha := ap_len "both" [a.txt, b.txt]
      have hh : (Str.ofString "both").length = 4 := by decide +kernel
      unfold Note.dt
      walk_at "w"
      refine (ef_at (within_eq (.both a b)) ?_).h
      walk_at "w"
      refine (ltext_lc (l := [a, b]) (Nat.le_of_ble_eq_true rfl) hi).imp ?_
      rintro _ _ ⟨rfl, rfl⟩
      walk_at "w"
      refine wo (mjoin_ok (ts := [a.txt, b.txt]) (by rw [ap_len, l_em]; omega) (Nat.le_of_ble_eq_true rfl)) ?_
      walk_at "w"
      refine wox (ex_addS (by rw [s_len, l_par]; omega) ?_)
      walk_at "w"
      refine wox (ex_addS (by rw [s_len, s_len, l_par, l_par2]; omega) ?_)
      walk_at "w"
      exact ⟨rfl, rfl⟩
    | times _ h ha =>
      rename_i r a
      have hl' : (ap "times" [amT r, a.txt]).length ≤ 1000000 := hl
      have ha := ap_len "times" [amT r, a.txt]
      have hh : (Str.ofString "times").length = 5 := by decide +kernel
      unfold Note.dt
      walk_at "w"
      refine figures_ev h ?_
      walk_at "w"
      refine (ef_at (within_eq (.times r a)) ?_).h
      walk_at "w"
      refine (ltext_lc (l := [a]) (Nat.le_of_ble_eq_true rfl) hi).imp ?_
      rintro _ _ ⟨rfl, rfl⟩
      walk_at "w"
      refine wo (mjoin_ok (ts := [amT r, a.txt]) (by rw [ap_len, l_em]; omega) (Nat.le_of_ble_eq_true rfl)) ?_
      walk_at "w"
      refine wox (ex_addS (by rw [s_len, l_par]; omega) ?_)
      walk_at "w"
      refine wox (ex_addS (by rw [s_len, s_len, l_par, l_par2]; omega) ?_)
      walk_at "w"
      exact ⟨rfl, rfl⟩
    | turn _ ha =>
      rename_i a
      have hl' : (ap "turn" [a.txt]).length ≤ 1000000 := hl
      have ha := ap_len "turn" [a.txt]
      have hh : (Str.ofString "turn").length = 4 := by decide +kernel
      unfold Note.dt
      walk_at "w"
      refine (ef_at (within_eq (.turn a)) ?_).h
      walk_at "w"
      refine (ltext_lc (l := [a]) (Nat.le_of_ble_eq_true rfl) hi).imp ?_
      rintro _ _ ⟨rfl, rfl⟩
      walk_at "w"
      refine wo (mjoin_ok (ts := [a.txt]) (by rw [ap_len, l_em]; omega) (Nat.le_of_ble_eq_true rfl)) ?_
      walk_at "w"
      refine wox (ex_addS (by rw [s_len, l_par]; omega) ?_)
      walk_at "w"
      refine wox (ex_addS (by rw [s_len, s_len, l_par, l_par2]; omega) ?_)
      walk_at "w"
      exact ⟨rfl, rfl⟩
    | till _ h ha hb =>
      rename_i u l a b
      have hl' : (ap "till" [sideS u, amT l, a.txt, b.txt]).length ≤ 1000000 := hl
      have ha := ap_len "till" [sideS u, amT l, a.txt, b.txt]
      have hh : (Str.ofString "till").length = 4 := by decide +kernel
      unfold Note.dt
      walk_at "w"
      refine figures_ev h ?_
      walk_at "w"
      refine (ef_at (within_eq (.till u l a b)) ?_).h
      walk_at "w"
      refine (ltext_lc (l := [a, b]) (Nat.le_of_ble_eq_true rfl) hi).imp ?_
      rintro _ _ ⟨rfl, rfl⟩
      walk_at "w"
      refine wo (mjoin_ok (ts := [sideS u, amT l, a.txt, b.txt]) (by rw [ap_len, l_em]; omega) (Nat.le_of_ble_eq_true rfl)) ?_
      walk_at "w"
      refine wox (ex_addS (by rw [s_len, l_par]; omega) ?_)
      walk_at "w"
      refine wox (ex_addS (by rw [s_len, s_len, l_par, l_par2]; omega) ?_)
      walk_at "w"
      exact ⟨rfl, rfl⟩
    | may _ h1 h2 ha hb =>
      rename_i x o b e a c
      have hl' : (ap "may" [x, ownS o, iT b, iT e, a.txt, c.txt]).length ≤ 1000000 := hl
      have ha := ap_len "may" [x, ownS o, iT b, iT e, a.txt, c.txt]
      have hh : (Str.ofString "may").length = 3 := by decide +kernel
      unfold Note.dt
      walk_at "w"
      refine wo (if_pos h1) ?_
      walk_at "w"
      refine wo (if_pos h2) ?_
      walk_at "w"
      refine (ef_at (within_eq (.may x o b e a c)) ?_).h
      walk_at "w"
      refine (ltext_lc (l := [a, c]) (Nat.le_of_ble_eq_true rfl) hi).imp ?_
      rintro _ _ ⟨rfl, rfl⟩
      walk_at "w"
      refine wo (mjoin_ok (ts := [x, ownS o, iT b, iT e, a.txt, c.txt]) (by rw [ap_len, l_em]; omega) (Nat.le_of_ble_eq_true rfl)) ?_
      walk_at "w"
      refine wox (ex_addS (by rw [s_len, l_par]; omega) ?_)
      walk_at "w"
      refine wox (ex_addS (by rw [s_len, s_len, l_par, l_par2]; omega) ?_)
      walk_at "w"
      exact ⟨rfl, rfl⟩
end Lw
namespace Lw
open PySem PySem.Spec PyProof.Rows L2 RZ DL
/-! how long texts are -/
theorem log2_lt {n k : Nat} (hk : 0 < k) (h : n < 2 ^ k) : n.log2 < k := by
  by_cases h0 : n = 0
  · subst h0
    rw [Nat.log2_zero]
    exact hk
  · exact (Nat.log2_lt h0).mpr h
theorem RB.txr {k : Nat} {q : Rat} (hk : k ≤ 1900) (h : RB k q) : TxR q := by
  have h1 : q.num.natAbs < 2 ^ k := h.1
  have h2 : ((q.den : Int)).natAbs < 2 ^ k := h.2
  have hp : (2 : Nat) ^ k ≤ 2 ^ 1920 := Nat.pow_le_pow_right (by decide) (by omega)
  exact ⟨log2_lt (by decide) (Nat.lt_of_lt_of_le h1 hp), log2_lt (by decide) (Nat.lt_of_lt_of_le h2 hp)⟩
theorem day_txi {d : Int} (h0 : 0 ≤ d) (h1 : d ≤ 100) : TxI d := log2_lt (by decide) (Nat.lt_of_lt_of_le (show d.natAbs < 2 ^ 7 by omega) (Nat.pow_le_pow_right (by decide) (by decide)))
theorem join2_len (x y : Str) : (Txt.join ", " [x, y]).length = x.length + y.length + 2 := by
  rw [join_cons2, join_one, s_len, s_len, l_sep]
  omega
theorem join3_len (x y z : Str) : (Txt.join ", " [x, y, z]).length = x.length + y.length + z.length + 4 := by
  rw [join_cons2, s_len, s_len, l_sep, join2_len]
  omega
theorem join4_len (x y z u : Str) : (Txt.join ", " [x, y, z, u]).length = x.length + y.length + z.length + u.length + 6 := by
  rw [join_cons2, s_len, s_len, l_sep, join3_len]
  omega
theorem join6_len (x y z u v w : Str) : (Txt.join ", " [x, y, z, u, v, w]).length = x.length + y.length + z.length + u.length + v.length + w.length + 10 := by
  rw [join_cons2, s_len, s_len, l_sep, join_cons2, s_len, s_len, l_sep, join4_len]
  omega
theorem val_len : ∀ {n : Nat} {v : Val}, VIs TxR n v → v.txt.length + 20 ≤ 4020 * 2 ^ n
  | _, _, .price n => by
    have : (Str.ofString "price").length = 5 := by decide +kernel
    have h2 : 1 ≤ 2 ^ n := Nat.one_le_two_pow
    show (Str.ofString "price").length + 20 ≤ 4020 * 2 ^ (n + 1)
    rw [Nat.pow_succ]
    omega
  | _, _, .coin n (r := r) h => by
    have := amT_len h
    have h2 : 1 ≤ 2 ^ n := Nat.one_le_two_pow
    show (amT r).length + 20 ≤ 4020 * 2 ^ (n + 1)
    rw [Nat.pow_succ]
    omega
  | _, _, .of n (r := r) (v := v) h hv => by
    have h1 := amT_len h
    have ih := val_len hv
    have h2 : 1 ≤ 2 ^ n := Nat.one_le_two_pow
    have h3 : (Str.ofString "of").length = 2 := by decide +kernel
    show (ap "of" [amT r, v.txt]).length + 20 ≤ 4020 * 2 ^ (n + 1)
    rw [ap_len, join2_len, Nat.pow_succ, h3]
    omega
  | _, _, .pair n o (v := v) (w := w) hv hw => by
    have i1 := val_len hv
    have i2 := val_len hw
    have h3 : o.str.length ≤ 5 := by cases o <;> decide +kernel
    show (ap o.str [v.txt, w.txt]).length + 20 ≤ 4020 * 2 ^ (n + 1)
    rw [ap_len, join2_len, Nat.pow_succ]
    omega
theorem Note.TG.nt {k : Nat} : ∀ {t : Note} {n : Nat}, t.TG k → t.deep + k ≤ n → NT n t := by
  intro t
  induction t with
  | none => intro n _ hn; obtain ⟨m, rfl⟩ : ∃ m, n = m + 1 := ⟨n - 1, by simp only [Note.deep] at hn; omega⟩; exact .none m
  | pay d v => intro n h hn; obtain ⟨m, rfl⟩ : ∃ m, n = m + 1 := ⟨n - 1, by simp only [Note.deep] at hn; omega⟩; exact .pay m h.1 (h.2.mono (by simp only [Note.deep] at hn; omega))
  | now v => intro n h hn; obtain ⟨m, rfl⟩ : ∃ m, n = m + 1 := ⟨n - 1, by simp only [Note.deep] at hn; omega⟩; exact .now m (VIs.mono h (by simp only [Note.deep] at hn; omega))
  | both a b ia ib => intro n h hn; obtain ⟨m, rfl⟩ : ∃ m, n = m + 1 := ⟨n - 1, by simp only [Note.deep] at hn; omega⟩; exact .both m (ia h.1 (by simp only [Note.deep] at hn; omega)) (ib h.2 (by simp only [Note.deep] at hn; omega))
  | times r a ia => intro n h hn; obtain ⟨m, rfl⟩ : ∃ m, n = m + 1 := ⟨n - 1, by simp only [Note.deep] at hn; omega⟩; exact .times m h.1 (ia h.2 (by simp only [Note.deep] at hn; omega))
  | turn a ia => intro n h hn; obtain ⟨m, rfl⟩ : ∃ m, n = m + 1 := ⟨n - 1, by simp only [Note.deep] at hn; omega⟩; exact .turn m (ia h (by simp only [Note.deep] at hn; omega))
  | till u l a b ia ib => intro n h hn; obtain ⟨m, rfl⟩ : ∃ m, n = m + 1 := ⟨n - 1, by simp only [Note.deep] at hn; omega⟩; exact .till m h.1 (ia h.2.1 (by simp only [Note.deep] at hn; omega)) (ib h.2.2 (by simp only [Note.deep] at hn; omega))
  | may x o b e a c ia ib => intro n h hn; obtain ⟨m, rfl⟩ : ∃ m, n = m + 1 := ⟨n - 1, by simp only [Note.deep] at hn; omega⟩; exact .may m h.2.1 h.2.2.1 (ia h.2.2.2.1 (by simp only [Note.deep] at hn; omega)) (ib h.2.2.2.2 (by simp only [Note.deep] at hn; omega))
  | seen w d s p =>
    intro n h hn; obtain ⟨m, rfl⟩ : ∃ m, n = m + 1 := ⟨n - 1, by simp only [Note.deep] at hn; omega⟩
    cases p with
    | none => exact .seen0 m h.1 h.2.1
    | some q => exact .seen1 m h.1 h.2.1 h.2.2
  | use x => intro n h hn; obtain ⟨m, rfl⟩ : ∃ m, n = m + 1 := ⟨n - 1, by simp only [Note.deep] at hn; omega⟩; exact .use m
theorem Note.TG.mono {k m : Nat} (hk : k ≤ m) : ∀ {t : Note}, t.TG k → t.TG m := by
  intro t
  induction t with
  | none => exact id
  | pay d v => exact fun h => ⟨h.1, h.2.mono hk⟩
  | now v => exact fun h => VIs.mono h hk
  | both a b ia ib => exact fun h => ⟨ia h.1, ib h.2⟩
  | times r a ia => exact fun h => ⟨h.1, ia h.2⟩
  | turn a ia => exact fun h => ia h
  | till u l a b ia ib => exact fun h => ⟨h.1, ia h.2.1, ib h.2.2⟩
  | may x o b e a c ia ib => exact fun h => ⟨h.1, h.2.1, h.2.2.1, ia h.2.2.2.1, ib h.2.2.2.2⟩
  | seen w d s p => exact id
  | use x => exact id
theorem Note.TG.len {k : Nat} : ∀ {t : Note}, t.TG k → t.txt.length + 100 ≤ (4020 * 2 ^ k + 16000) * t.parts := by
  intro t
  have h2 : 1 ≤ 2 ^ k := Nat.one_le_two_pow
  generalize hB : 4020 * 2 ^ k + 16000 = B
  have hd : (Str.ofString "none").length = 4 ∧ (Str.ofString "pay").length = 3 ∧ (Str.ofString "now").length = 3 ∧ (Str.ofString "both").length = 4 ∧ (Str.ofString "times").length = 5 ∧ (Str.ofString "turn").length = 4 ∧ (Str.ofString "till").length = 4 ∧ (Str.ofString "may").length = 3 ∧ (Str.ofString "use").length = 3 := by decide +kernel
  obtain ⟨d1, d2, d3, d4, d5, d6, d7, d8, d9⟩ := hd
  induction t with
  | none =>
    intro _
    show (Str.ofString "none").length + 100 ≤ B * 1
    omega
  | pay d v =>
    rintro ⟨h, hv⟩
    have e1 := val_len hv
    have e2 := iT_len h
    show (ap "pay" [iT d, v.txt]).length + 100 ≤ B * 1
    rw [ap_len, join2_len]
    omega
  | now v =>
    intro hv
    have e1 := val_len hv
    show (ap "now" [v.txt]).length + 100 ≤ B * 1
    rw [ap_len, join_one]
    omega
  | both a b ia ib =>
    rintro ⟨ha, hb⟩
    have i1 := ia ha
    have i2 := ib hb
    show (ap "both" [a.txt, b.txt]).length + 100 ≤ B * (a.parts + b.parts + 1)
    rw [ap_len, join2_len, Nat.mul_add, Nat.mul_add]
    omega
  | times r a ia =>
    rintro ⟨h, ha⟩
    have i1 := ia ha
    have e1 := amT_len h
    show (ap "times" [amT r, a.txt]).length + 100 ≤ B * (a.parts + 1)
    rw [ap_len, join2_len, Nat.mul_add]
    omega
  | turn a ia =>
    intro ha
    have i1 := ia ha
    show (ap "turn" [a.txt]).length + 100 ≤ B * (a.parts + 1)
    rw [ap_len, join_one, Nat.mul_add]
    omega
  | till u l a b ia ib =>
    rintro ⟨h, ha, hb⟩
    have i1 := ia ha
    have i2 := ib hb
    have e1 := amT_len h
    have e2 : (sideS u).length ≤ 4 := by cases u <;> decide +kernel
    show (ap "till" [sideS u, amT l, a.txt, b.txt]).length + 100 ≤ B * (a.parts + b.parts + 1)
    rw [ap_len, join4_len, Nat.mul_add, Nat.mul_add]
    omega
  | may x o b e a c ia ib =>
    rintro ⟨hx, hb, he, ha, hc⟩
    have i1 := ia ha
    have i2 := ib hc
    have e1 := iT_len hb
    have e3 := iT_len he
    have e2 : (ownS o).length ≤ 6 := by cases o <;> decide +kernel
    show (ap "may" [x, ownS o, iT b, iT e, a.txt, c.txt]).length + 100 ≤ B * (a.parts + c.parts + 1)
    rw [ap_len, join6_len, Nat.mul_add, Nat.mul_add]
    omega
  | seen w d s p =>
    rintro ⟨h, hs, hp⟩
    have e1 := iT_len h
    have e2 := amT_len hs
    have e3 : (wordS w).length ≤ 5 := by cases w <;> decide +kernel
    cases p with
    | none =>
      show (ap (wordS w) [iT d, amT s]).length + 100 ≤ B * 1
      rw [ap_len, join2_len]
      omega
    | some q =>
      have e4 := amT_len (show TxR q from hp)
      show (ap (wordS w) [iT d, amT s, amT q]).length + 100 ≤ B * 1
      rw [ap_len, join3_len]
      omega
  | use x =>
    intro h
    have h' : x.length ≤ 6 := h
    show (ap "use" [x]).length + 100 ≤ B * 1
    rw [ap_len, join_one]
    omega
theorem CoinOk.txr {m : Nat} {q : Rat} (hm : m < 2 ^ 10) (h : CoinOk m q) : TxR q := RB.txr (k := 10) (by decide) (h.rb hm)
theorem Note.Good.tg : ∀ {t : Note}, t.Good → t.TG 3 := by
  intro t
  induction t with
  | none => exact id
  | pay d v => exact fun ⟨h0, h1, h⟩ => ⟨day_txi h0 (by omega), h.imp fun r h => h.txr (by decide)⟩
  | now v => exact fun h => VIs.imp (fun r h => CoinOk.txr (by decide) h) h
  | both a b ia ib => exact fun ⟨x, y⟩ => ⟨ia x, ib y⟩
  | times r a ia => exact fun ⟨_, x, y⟩ => ⟨x.txr (by decide), ia y⟩
  | turn a ia => exact fun x => ia x
  | till u l a b ia ib => exact fun ⟨_, x, y, z⟩ => ⟨x.txr (by decide), ia y, ib z⟩
  | may x o b e a l ia ib => exact fun ⟨z, h0, h1, h2, x, y⟩ => ⟨z.2.1, day_txi h0 (by omega), day_txi (by omega) (by omega), ia x, ib y⟩
  | seen k d s p =>
    rintro ⟨h0, h1, x, y⟩
    refine ⟨day_txi h0 (by omega), x.txr (by decide), ?_⟩
    cases p with
    | none => trivial
    | some q => exact CoinOk.txr (by decide) y
  | use x => exact fun h => h.elim
end Lw
namespace DL
open PySem PySem.Spec PyProof.Rows L2 RZ
/-! ### x, y, z = [], [], i -/
def sNew3 (i j l : Nat) (c : Int) : FS := fun ρ => some (.nx, ((ρ.set i (some (.own []))).set j (some (.own []))).set l (some (.sh (.int c))))
section
variable {X : Cx} {P : Pt} {Wx : WX} {pos : Pos}
theorem Rel.own_new {K : PySem.W.Frag} {F H : Hp} {σ : L2.St} {ρ : Rho} (r : Rel K P F H σ ρ) {p : Addr} (np : H p = none) {i : Nat} (hi : i ∉ P.bs) : Rel K P F (upd H p (.lst [])) (σ.set i (some (.ref p))) (ρ.set i (some (.own []))) := by
  have g := Grow.laid (o := .lst []) r.fh np
  refine (r.grow g).asg (w := .own []) hi ⟨p, [], rfl, free_of r.fh np, upd_same, .nil, r.fresh np, fun k ys hk hs => ?_⟩
  obtain ⟨v, ev, sw⟩ := r.slot k _ hk
  rw [hs] at ev
  cases ev
  obtain ⟨p', vs', e0, _, e2, _⟩ := sw
  cases e0
  rw [np] at e2
  cases e2
theorem s_new3 (i j l : Nat) {x y z : Str} {c : Int} {k0 : Nat} {px py pz pt p1 p2 p3 : Pos} {kt k2 pt2} (hbi : i ∉ P.bs) (hbj : j ∉ P.bs) (hbl : l ∉ P.bs) (hc : X.calm = true) (hN : X.N.Nodup) (hi : X.N[i]? = some x := by rfl) (hj : X.N[j]? = some y := by rfl) (hl : X.N[l]? = some z := by rfl)
    (hij : i ≠ j := by decide) (hil : i ≠ l := by decide) (hjl : j ≠ l := by decide)
    (hx : X.env.scope.names.lookup x = some .local := by rfl) (hy : X.env.scope.names.lookup y = some .local := by rfl) (hz : X.env.scope.names.lookup z = some .local := by rfl)
    (hw : swappedStores [.Tuple [.Name x px, .Name y py, .Name z pz] kt pt] (.Tuple [.List [] p1, .List [] p2, .Constant (.int c) k0 p3] k2 pt2) X.env = pure (some [x, y, z]) := by rfl)
    (hs : swapsWithSole [.Tuple [.Name x px, .Name y py, .Name z pz] kt pt] (.Tuple [.List [] p1, .List [] p2, .Constant (.int c) k0 p3] k2 pt2) pos.line X.env = pure false := by rfl) :
    PS X (.Assign [.Tuple [.Name x px, .Name y py, .Name z pz] kt pt] (.Tuple [.List [] p1, .List [] p2, .Constant (.int c) k0 p3] k2 pt2) pos) (LS X.K P Wx (sNew3 i j l c)) :=
  PSm (ps_par3 hc hN hi hj hl hij hil hjl hx hy hz (pa_cons (pe_lst pa_nil) (pa_cons (pe_lst pa_nil) (pa_cons pe_int pa_nil rfl) rfl) rfl) hw hs) fun D σ H h => by
  obtain ⟨F, ρ, r, q⟩ := h
  refine ⟨Nat.zero_le _, fun p np => ⟨Nat.zero_le _, fun q1 nq => ⟨.ref p, .ref q1, .int c, rfl, ?_⟩⟩⟩
  have r1 := (r.own_new np hbi).own_new nq hbj
  exact q F _ _ (.refl _) (r1.asg (w := .sh (.int c)) hbl (.int c))
end
instance p_new3 {i j l : Nat} {c : Int} : WpS (sNew3 i j l c) :=
  ⟨fun ρ N _ => fL (((ρ.set i (some (.own []))).set j (some (.own []))).set l (some (.sh (.int c)))) N, fun h => .inl ⟨_, rfl, fL_ok _ _ h⟩, fun h k _ => h.mono k⟩
end DL
namespace DL
open PySem PySem.Spec PyProof.Rows L2 RZ
/-! ### an own exception is made without arguments -/
section
variable {X : Cx} {x : Str} {C fI : Addr} {k : Nat} {fd : FuncData} {ps : List Str} {sp : Sp} {p pos : Pos}
theorem pmk_oex0 (T : OexC X.K C) (iC : PySem.W.findIn X.K (.ref C) "__init__" = some (some (.ref fI))) (tI : PySem.W.typeIn X.K (.ref fI) = some (.type "function")) (F1 : FnOk X.prog X.w X.K X.mg X.base (L2.CX X.prog X.w) k fI fd ps sp) (hr : Room (k + 1) X.A) (hb : Binds X.K fd ps [])
    (hx : Passes (L2.CX X.prog X.w) X (fun _ _ _ => False)) (hg : Gl X x) (hm : X.mg x = some (.ref C)) (hdb : (x == ("__debug__" : Str)) = false := by decide) : PMk X (.Call (.Name x p) [] [] pos) (tMkO C sp [] tNil) := fun pins s0 σ H Q I h => by
  obtain ⟨nm, q, N, bs, bm, sn, sub, ab, col, dd, k0, k1, k2, k3, k5, hC, hbm⟩ := T.cls
  refine wpAny_Call_Name_kw (ld_glob I hg hm (PySem.W.callWith_K0 I.kIn T.kC ?_) hdb)
  obtain ⟨h0, g0, d0, t0, os0⟩ := s0
  have le : h0.objs.size ≤ h0.objs.size + 1 := Nat.le_succ _
  have hn : H (h0.objs.size + 1) = none := I.hok.fresh le
  have hq := h.2 (h0.objs.size + 1) hn
  generalize hA : (h0.push (PySem.W.kdv_tup [])).push (PySem.HandSPX.excO C h0.objs.size) = hN
  have kk : ∀ b o, h0.get? b = some o → hN.get? b = some o := fun b o e => by rw [← hA]; exact Heap.get?_push_of_some _ (Heap.get?_push_of_some _ e)
  have hget : hN.get? (h0.objs.size + 1) = some (PySem.HandSPX.excO C h0.objs.size) := by rw [← hA]; heap_get
  have I2 : Inv X pins σ (upd H (h0.objs.size + 1) (exo (h0.objs.size + 1) C none)) ⟨hN, g0, d0, t0, os0⟩ := I.laid (t' := t0) kk le (exo_ok hget)
  have r2 : Vals [V.ref (h0.objs.size + 1)] [Value.ref (h0.objs.size + 1)] := .cons rfl .nil
  have hl : [Value.ref (h0.objs.size + 1)].length = ps.length := F1.len _ _ _ _ hq
  subst hA
  refine wpAny_call (PySem.HandSPX.call_own F.excBase_ValueError (fun Y => PySem.HandSPX.refsVE_contains Y bm hbm) (I.kIn _ _ hC) (PySem.W.looks_findIn I.kIn iC) (fun self => PySem.W.bind_fn I.kIn self tI) (Nat.zero_le _) (codeAny_mono (F1.run _ X.stack _ _ ⟨[Value.ref (h0.objs.size + 1)], []⟩ [Value.ref (h0.objs.size + 1)] _ _ (fun _ _ _ => False) (hr.make C [] []) (I2.env0.make C [] []) (hb _ [Value.ref (h0.objs.size + 1)] I2.kIn hl) r2 hq) fun r s' hq' => ?_))
  cases r with
  | error er => exact hx pins σ _ _ er s' I2 hq'
  | ok fl =>
    cases fl with
    | ret u =>
      obtain ⟨v, H2, os2, bare2, un2, hok2, rv, ev, d, fs, ea, ed, hd1, q2⟩ := hq'
      cases ev
      exact ⟨rv, mk_end (raises_own T.exC T.tyC) I le kk un2 hok2 os2 bare2 ea ed hd1 q2⟩
    | _ => exact hq'.elim
end
/-! ### what an __init__ lays: self.f = text | parameter, row by row -/
def valI (ws : List V) : V ⊕ Nat → V
  | .inl v => v
  | .inr i => ws.getD i .non
def fldI (ws : List V) : List (Str × (V ⊕ Nat)) → List (Str × V) → List (Str × V)
  | [], acc => acc
  | (f, u) :: r, acc => fldI ws r ((f, valI ws u) :: acc)
def srcI : V ⊕ Nat → TE
  | .inl v => tC v
  | .inr i => tVar i
def tInit (K : PySem.W.Frag) : List (Str × (V ⊕ Nat)) → TS
  | [] => tNext
  | (f, u) :: r => tSeq (tOst K f (tVar 0) (srcI u)) (tInit K r)
def okI (n : Nat) : V ⊕ Nat → Prop
  | .inl _ => True
  | .inr i => i < n
def spI (C : Addr) (n : Nat) (l : List (Str × (V ⊕ Nat))) : Sp := fun vs H Q _ => ∃ a ws, vs = .ref a :: ws ∧ ws.length = n ∧ H a = some (exo a C none) ∧
  ∀ dx H', H dx = none → dx ≠ a → H' a = some (exo a C (some dx)) → H' dx = some (exd dx (fldI vs l [])) → (∀ b, b ≠ a → b ≠ dx → H' b = H b) → Q .non H'
section
variable {K : PySem.W.Frag} {C a : Addr} {vs : List V} {σ : L2.St} {D : Ends}
theorem src_run {n : Nat} {u : V ⊕ Nat} {H : Hp} {Q : VK} (hs : ∀ i, i < n → σ[i]? = some (some (vs.getD i .non))) (hu : okI n u) (q : Q (valI vs u) H) : srcI u σ H Q := by
  cases u with
  | inl v => exact q
  | inr i => exact ⟨_, hs i hu, q⟩
theorem init_more (T : OexC K C) {n : Nat} (hs : ∀ i, i < n → σ[i]? = some (some (vs.getD i .non))) (h0 : σ[0]? = some (some (.ref a))) {dx : Addr} (ne : dx ≠ a) : ∀ (l : List (Str × (V ⊕ Nat))) (acc : List (Str × V)) (H : Hp), (∀ e ∈ l, PySem.W.findIn K (.ref C) e.1 = some none ∧ okI n e.2) → acc.length + l.length ≤ 900 →
    H a = some (exo a C (some dx)) → H dx = some (exd dx acc) → (∀ H', H' a = some (exo a C (some dx)) → H' dx = some (exd dx (fldI vs l acc)) → (∀ b, b ≠ a → b ≠ dx → H' b = H b) → D.nx σ H') → tInit K l D σ H
  | [], acc, H, _, _, ha, hd, q => q H ha hd fun _ _ _ => rfl
  | (f, u) :: r, acc, H, hl, hn, ha, hd, q => by
    have h1 := hl (f, u) (by simp)
    rw [List.length_cons] at hn
    refine src_run hs h1.2 ⟨_, h0, a, C, rfl, T, h1.1, .inr ⟨dx, acc, ha, hd, by omega, ?_⟩⟩
    refine init_more T hs h0 ne r _ _ (fun e he => hl e (by simp [he])) (by rw [List.length_cons]; omega) ?_ upd_same fun H' e1 e2 e3 => q H' e1 e2 fun b b1 b2 => ?_
    · rw [upd_ne (Ne.symm ne)]; exact ha
    · rw [e3 b b1 b2, upd_ne b2]
theorem init_run (T : OexC K C) {n : Nat} (hs : ∀ i, i < n → σ[i]? = some (some (vs.getD i .non))) (h0 : σ[0]? = some (some (.ref a))) {f : Str} {u : V ⊕ Nat} {r : List (Str × (V ⊕ Nat))} {H : Hp} (hl : ∀ e ∈ (f, u) :: r, PySem.W.findIn K (.ref C) e.1 = some none ∧ okI n e.2) (hn : r.length ≤ 800)
    (ha : H a = some (exo a C none)) (q : ∀ dx H', H dx = none → dx ≠ a → H' a = some (exo a C (some dx)) → H' dx = some (exd dx (fldI vs ((f, u) :: r) [])) → (∀ b, b ≠ a → b ≠ dx → H' b = H b) → D.nx σ H') : tInit K ((f, u) :: r) D σ H := by
  have h1 := hl (f, u) (by simp)
  refine src_run hs h1.2 ⟨_, h0, a, C, rfl, T, h1.1, .inl ⟨ha, fun dx nd ne => ?_⟩⟩
  refine init_more T hs h0 ne r _ _ (fun e he => hl e (by simp [he])) (by show 1 + _ ≤ _; omega) upd_same (by rw [upd_ne ne, upd_same]) fun H' e1 e2 e3 => q dx H' nd ne e1 e2 fun b b1 b2 => ?_
  rw [e3 b b1 b2, upd_ne b1, upd_ne b2]
end
/-- an own exception class by its name: how many things it takes, its fields -/
structure ExAt (P : Program) (w : World) (K : PySem.W.Frag) (mg : Str → Option Value) (base : Heap) (k : Nat) (x : Str) (n : Nat) (l : List (Str × (V ⊕ Nat))) : Prop where
  ex : ∃ (C fI : Addr) (fd : FuncData) (ps : List Str), OexC K C ∧ PySem.W.findIn K (.ref C) "__init__" = some (some (.ref fI)) ∧ PySem.W.typeIn K (.ref fI) = some (.type "function") ∧ FnOk P w K mg base (L2.CX P w) k fI fd ps (spI C n l) ∧ L2.Binds K fd ps [] ∧ mg x = some (.ref C) ∧ PySem.W.nsIn K mainGlobals x = some (some (.ref C))
section
variable {P : Program} {w : World} {K : PySem.W.Frag} {mg : Str → Option Value} {base : Heap}
theorem init_ok {qual : Str} {st : Stmt} {fI C : Addr} {fd : FuncData} {ps : List Str} {k : Nat} {f : Str} {u : V ⊕ Nat} {r : List (Str × (V ⊕ Nat))} {n : Nat} (F : Fun K "__init__" qual st fI fd) (S : FnScope ps ps (defScope st)) (T : OexC K C) (hp : ps.length = n + 1)
    (hl : ∀ e ∈ (f, u) :: r, PySem.W.findIn K (.ref C) e.1 = some none ∧ okI (n + 1) e.2) (hn : r.length ≤ 800)
    (hb : ∀ (cdv : Value) (A : Around) (outer : List Env) (s : Shared) (H : Hp) (E : XK), PSs (cxOf (L2.CX P w) P w K mg base ps qual (defScope st) fI cdv A outer s H E) (defBody st) (tInit K ((f, u) :: r))) :
    FnOk P w K mg base (L2.CX P w) (k + 1) fI fd ps (spI C n ((f, u) :: r)) := by
  refine F.okX S (fun vs H Q E h => ?_) fun cdv A outer s H vs Q E hr h => ⟨_, hb cdv A outer s H E, ?_⟩
  · obtain ⟨a, ws, rfl, hw, _⟩ := h
    rw [List.length_cons, hw, hp]
  · obtain ⟨a, ws, rfl, hw, ha, q⟩ := h
    refine init_run (n := n + 1) (vs := .ref a :: ws) (a := a) T (fun i hi => ?_) (by unfold L2.start; rfl) hl hn ha fun dx H' nd ne e1 e2 e3 => q dx H' nd ne e1 e2 e3
    have hi2 : i < (V.ref a :: ws).length := by rw [List.length_cons, hw]; exact hi
    unfold L2.start
    rw [List.getElem?_append_left (by rw [List.length_map]; exact hi2), List.getElem?_map, List.getElem?_eq_getElem hi2, List.getD_eq_getElem?_getD, List.getElem?_eq_getElem hi2]
    rfl
end
/-! ### raise C() -/
def sRaise0 (x : Str) (fs : List (Str × Dt)) : FS := fun ρ => some (.ex x fs, ρ)
section
variable {X : Cx} {P : Pt} {Wx : WX} {x : Str} {p pos pos' : Pos} {k : Nat}
theorem s_raise0 {l : List (Str × (V ⊕ Nat))} {fs : List (Str × Dt)} (E : ExAt X.prog X.w X.K X.mg X.base k x 0 l) (hf : ∀ (F : Hp) (a : Addr), (fldI [.ref a] l []).map (·.1) = fs.map (·.1) ∧ Rps X.K F (fs.map (·.2)) ((fldI [.ref a] l []).map (·.2))) (hr : Room (k + 1) X.A) (hc : X.calm = true) (tk : Takes X Wx) (hg : Gl X x)
    (hdb : (x == ("__debug__" : Str)) = false := by decide) : PS X (.Raise (some (.Call (.Name x p) [] [] pos)) none pos') (LS X.K P Wx (sRaise0 x fs)) := by
  obtain ⟨C, fI, fd, ps, T, iC, tI, F1, hb, hm, hn⟩ := E.ex
  refine PSm (ps_raise hc tk (pmk_oex0 T iC tI F1 hr hb (passes_call tk fun _ _ _ _ h => h.elim) hg hm hdb)) fun D σ H h => ?_
  obtain ⟨F, ρ, r, q⟩ := h
  refine ⟨Nat.zero_le _, fun a na => ⟨a, [], rfl, rfl, upd_same, fun dx H' nd ne e1 e2 e3 => ⟨rfl, dx, _, e1, e2, ?_, ?_⟩⟩⟩
  · rw [upd_ne ne] at nd; exact nd
  · rw [upd_ne ne] at nd
    have eH : upd (del H' a) dx (.xd (fldI [.ref a] l [])) = upd H dx (.xd (fldI [.ref a] l [])) := by
      funext b
      by_cases h1 : b = dx
      · subst h1; rw [upd_same, upd_same]
      · rw [upd_ne h1, upd_ne h1]
        by_cases h2 : b = a
        · subst h2; rw [del_same, na]
        · rw [del_ne h2, e3 b h2 h1, upd_ne h2]
    show Wx (.ref C) (some dx) σ (upd (del H' a) dx (.xd (fldI [.ref a] l [])))
    rw [eH]
    have g := Grow.lay (o := .xd (fldI [.ref a] l [])) r.fh nd
    obtain ⟨f1, f2⟩ := hf (upd F dx (.xd (fldI [.ref a] l []))) a
    exact q _ _ σ _ _ g.f (r.grow g) ⟨⟨C, rfl, hn⟩, dx, _, rfl, upd_same, f1, f2⟩
end
/-! ### raise C(e, ..) -/
def sRaise (x : Str) (n : Nat) (g : List Dt → List (Str × Dt)) (fa : FA) : FS := fun ρ => match fa ρ with
  | none => none
  | some (.ok as, ρ1) => (match vals as with
    | some ds => if ds.length = n then some (.ex x (g ds), ρ1) else none
    | none => none)
  | some (.ex C fs, ρ1) => some (.ex C fs, ρ1)
section
variable {X : Cx} {P : Pt} {Wx : WX} {x : Str} {p pos pos' : Pos} {k n : Nat} {e : Expr} {es : List Expr} {fa : FA}
theorem s_raise {l : List (Str × (V ⊕ Nat))} {g : List Dt → List (Str × Dt)} (E : ExAt X.prog X.w X.K X.mg X.base k x n l) (hf : ∀ (F : Hp) (a : Addr) (ds : List Dt) (vs : List V), ds.length = n → Rps X.K F ds vs → (fldI (.ref a :: vs) l []).map (·.1) = (g ds).map (·.1) ∧ Rps X.K F ((g ds).map (·.2)) ((fldI (.ref a :: vs) l []).map (·.2))) (hn1 : n ≤ 1000)
    (hr : Room (k + 1) X.A) (hc : X.calm = true) (tk : Takes X Wx) (hg : Gl X x) (ha : PA X (e :: es) (LA X.K P Wx fa)) (hdb : (x == ("__debug__" : Str)) = false := by decide) (he : starEach (e :: es) X.env = (false, eval e X.env) :: starEach es X.env := by rfl) (hpl : (backTo pos (starEach es X.env)).any (·.1) = false := by rfl) :
    PS X (.Raise (some (.Call (.Name x p) (e :: es) [] pos)) none pos') (LS X.K P Wx (sRaise x n g fa)) := by
  obtain ⟨C, fI, fd, ps, T, iC, tI, F1, hb, hm, hn⟩ := E.ex
  refine PSm (ps_raise hc tk (pmk_oex (dvs := []) T iC tI F1 hr hb .nil (passes_call tk fun _ _ _ _ h => h.elim) hg hm ha hdb he hpl)) fun D σ H h => ?_
  obtain ⟨F, ρ, r, q⟩ := h
  refine ⟨F, ρ, r, ?_⟩
  unfold sRaise at q
  match ef : fa ρ with
  | none => rw [ef] at q; exact q.elim
  | some (.ex C' fs, ρ1) => rw [ef] at q; exact fun F' H' cls dd a b c => q F' H' σ cls dd a b c
  | some (.ok as, ρ1) =>
    rw [ef] at q
    dsimp only at q
    cases ev : vals as with
    | none => rw [ev] at q; exact q.elim
    | some ds =>
      rw [ev] at q
      dsimp only at q
      split at q
      rotate_left
      · exact q.elim
      rename_i hl
      intro F1' H1 vs s1 r1 p1
      have rp := vals_ok p1 ev
      have hvl : vs.length = n := by rw [← rp.length]; exact hl
      refine ⟨by rw [hvl]; exact hn1, fun a na => ⟨a, vs, by rw [List.append_nil], hvl, upd_same, fun dx H' nd ne e1 e2 e3 => ⟨rfl, dx, _, e1, e2, ?_, ?_⟩⟩⟩
      · rw [upd_ne ne] at nd; exact nd
      · rw [upd_ne ne] at nd
        rw [List.append_nil]
        have eH : upd (del H' a) dx (.xd (fldI (.ref a :: vs) l [])) = upd H1 dx (.xd (fldI (.ref a :: vs) l [])) := by
          funext b
          by_cases h1 : b = dx
          · subst h1; rw [upd_same, upd_same]
          · rw [upd_ne h1, upd_ne h1]
            by_cases h2 : b = a
            · subst h2; rw [del_same, na]
            · rw [del_ne h2, e3 b h2 h1, upd_ne h2]
        show Wx (.ref C) (some dx) σ (upd (del H' a) dx (.xd (fldI (.ref a :: vs) l [])))
        rw [eH]
        have gr := Grow.lay (o := .xd (fldI (.ref a :: vs) l [])) r1.fh nd
        obtain ⟨f1, f2⟩ := hf (upd F1' dx (.xd (fldI (.ref a :: vs) l []))) a ds vs hl (rp.mono gr.f)
        exact q _ _ σ _ _ (s1.trans gr.f) (r1.grow gr) ⟨⟨C, rfl, hn⟩, dx, _, rfl, upd_same, f1, f2⟩
end
end DL
namespace DL
open PySem PySem.Spec PySem.Calls PyProof.Rows L2 RZ PySem.W
section
variable {M : Model} {K : Frag}
section
variable {A : Around} {E : Value → Shared → Prop} {s : Shared}
theorem loop_yield {f : Value → PUnit → Sem (ForInStep PUnit)} {Q : PUnit → Shared → Prop} (q : Q PUnit.unit s) : ∀ (l : List Value), (∀ c ∈ l, ∀ Q' : ForInStep PUnit → Shared → Prop, Q' (.yield PUnit.unit) s → wpAny M A (f c PUnit.unit) Q' E s) → wpAny M A (forIn l PUnit.unit f) Q E s
  | [], _ => by
    simp only [List.forIn_nil]
    exact wpAny_pure q
  | c :: l, hf => by
    simp only [List.forIn_cons]
    refine wpAny_bind (hf c (by simp) _ ?_)
    exact loop_yield q l fun d hd => hf d (by simp [hd])
theorem loop_find {f : Value → Option Bool × Unit → Sem (ForInStep (Option Bool × Unit))} {Q : Option Bool × Unit → Shared → Prop} {v : Value → Bool} : ∀ (l : List Value), (∀ c ∈ l, ∀ Q' : ForInStep (Option Bool × Unit) → Shared → Prop, Q' (if v c = true then .done (some true, ()) else .yield (none, ())) s → wpAny M A (f c (none, ())) Q' E s) →
    Q (if l.any v = true then (some true, ()) else (none, ())) s → wpAny M A (forIn l (none, ()) f) Q E s
  | [], _, q => by
    simp only [List.forIn_nil]
    exact wpAny_pure q
  | c :: l, hf, q => by
    simp only [List.forIn_cons]
    refine wpAny_bind (hf c (by simp) _ ?_)
    rw [List.any_cons] at q
    cases hv : v c with
    | true =>
      rw [hv] at q
      exact wpAny_pure q
    | false =>
      rw [hv] at q
      exact loop_find l (fun d hd => hf d (by simp [hd])) q
end
theorem exmAny_all {cls : Value} : ∀ {cs : List Value} {b : Bool}, exmAny K cls cs = some b → (∀ c ∈ cs, exmOne K cls c = some ((exmOne K cls c).getD false)) ∧ b = cs.any fun c => (exmOne K cls c).getD false
  | [], b, h => by cases h; exact ⟨fun c hc => (by cases hc), rfl⟩
  | c :: cs, b, h => by
    obtain ⟨b1, d1, h1, h2, h3⟩ := exmAny_cons h
    obtain ⟨i1, i2⟩ := exmAny_all h2
    refine ⟨fun x hx => ?_, ?_⟩
    · rcases List.mem_cons.mp hx with rfl | hx
      · rw [h1]; rfl
      · exact i1 x hx
    · rw [List.any_cons, ← i2, h1]; exact h3
theorem exm_tupL {cs : List Value} {cls : Value} {tp e : Addr} {b : Bool} {h : Heap} (X : K.In h) (LT : Looks M h (typeOf (.ref e)) cls) (hp : h.get? tp = some { cls := .type "tuple", data := .seq cs.toArray }) (hx : exmAny K cls cs = some b) :
    Looks M h (excMatches (.ref e) (.ref tp)) b := by
  intro A Q E s k₀ q
  obtain ⟨hh, g, d, tk, os⟩ := s
  have k : ∀ b o, h.get? b = some o → hh.get? b = some o := k₀
  have LT0 : Looks M h (isInstance (.ref tp) (.type "tuple")) true := ((Looks.ld hp).andThen .now).andThen (Looks.of_pure isSubtype_tuple_tuple)
  have LT := LT.keeps k
  have LT0 := LT0.keeps k
  have hp' := k _ _ hp
  unfold excMatches
  refine wpAny_bind (LT0.at ?_)
  dsimp only
  rw [if_pos rfl]
  first
    | refine wpAny_bind (wpAny_seqItems hp' rfl ?_)
    | refine wpAny_bind (wpAny_bind (wpAny_seqItems hp' rfl (wpAny_pure ?_)))
  dsimp only [Option.getD_some, Option.getD]
  obtain ⟨ha, hb⟩ := exmAny_all hx
  refine wpAny_bind (wpAny_pure (wpAny_bind (loop_yield ?_ cs fun c hc Q' q' => ?_)))
  · refine wpAny_bind (LT.here ?_)
    refine wpAny_bind (loop_find (v := fun c => (exmOne K cls c).getD false) cs (fun c hc Q' q' => ?_) ?_)
    · refine wpAny_bind (((exm_cls (M := M) X (ha c hc)).2.keeps k).here ?_)
      cases hv : (exmOne K cls c).getD false with
      | true => rw [hv] at q'; exact wpAny_pure q'
      | false => rw [hv] at q'; exact wpAny_pure q'
    · rw [← hb]
      cases b with
      | true => exact wpAny_pure q
      | false => exact wpAny_pure q
  · refine wpAny_bind (((exm_cls (M := M) X (ha c hc)).1.keeps k).here ?_)
    exact wpAny_pure q'
end
/-! ### several except clauses, each with a class or a tuple of classes, all `as n` -/
theorem flying_ext {B h h' : Heap} {l : List Env} {a : Addr} {Z : Obj → Prop} (k : ∀ b o, h.get? b = some o → h'.get? b = some o) (f : HandSPX.FlyingZ B l a Z h) : HandSPX.FlyingZ B l a Z h' := by
  obtain ⟨f1, f2, f3, oe, vs, T, oT, ts, t1, t2, t3, t4, t5, t6, t7, t8⟩ := f
  exact ⟨fun b o e => k b o (f1 b o e), f2, Heap.FunFrames.of_keeps (fun b o e _ => ⟨o, k b o e, rfl⟩) f3, oe, vs, T, oT, ts, k _ _ t1, t2, t3, t4, t5, t6, k _ _ t7, t8⟩
abbrev Cl := List Value × (Addr → Value → Option Addr → TS)
def wManyT (K : Frag) (Wout : WX) (D : Ends) (i : Nat) : List Cl → WX
  | [] => Wout
  | (cs, ts) :: r => fun cls d σ H => ∃ b, exmAny K cls cs = some b ∧
    (b = true → ∀ a, H a = none → ts a cls d { nx := fun σ' H' => D.nx (σ'.set i none) H', rt := D.rt, bk := fun σ' H' => D.bk (σ'.set i none) H', ct := fun σ' H' => D.ct (σ'.set i none) H' } (σ.set i (some (.ref a))) H) ∧ (b = false → wManyT K Wout D i r cls d σ H)
/-- the classes that a clause names -/
inductive TestOk (X : Cx) : Expr → List Value → Prop
  | one {x : Str} {c : Value} {np : Pos} : Gl X x → X.mg x = some c → (x == ("__debug__" : Str)) = false → TestOk X (.Name x np) [c]
  | tup {l : List (Str × Pos × Value)} {j : Nat} {np : Pos} : l.length ≤ 1000 → (∀ e ∈ l, Gl X e.1 ∧ X.mg e.1 = some e.2.2 ∧ (e.1 == ("__debug__" : Str)) = false) → TestOk X (.Tuple (l.map fun e => .Name e.1 e.2.1) j np) (l.map (·.2.2))
inductive HdsT (X : Cx) (n : Str) : List ExceptHandler → List Cl → Prop
  | nil : HdsT X n [] []
  | cons {t : Expr} {cs : List Value} {ts : Addr → Value → Option Addr → TS} {b₀ : Stmt} {suite : List Stmt} {pos' : Pos} {hds : List ExceptHandler} {l : List Cl} (hc : TestOk X t cs)
      (hsu : ∀ (a : Addr) (oe : Obj) (cls : Value) (d : Option Addr) (pn : List (Addr × Obj)), Zc cls d oe → (∃ vs, oe.data = .fields vs) → PSs (X.suite a ((a, oe) :: pn)) (b₀ :: suite) (ts a cls d)) (r : HdsT X n hds l) :
      HdsT X n (.ExceptHandler (some t) (some n) (b₀ :: suite) pos' :: hds) ((cs, ts) :: l)
section
variable {X : Cx} {pins : List (Addr × Obj)} {σ : L2.St} {H : Hp} {s : Shared}
theorem names_run {Y : Cx} {E : Value → Shared → Prop} {pos : Pos} (I : L2.Inv Y pins σ H s) : ∀ (l : List (Str × Pos × Value)) {Q : List Value → Shared → Prop}, (∀ e ∈ l, Gl Y e.1 ∧ Y.mg e.1 = some e.2.2 ∧ (e.1 == ("__debug__" : Str)) = false) → Q (l.map (·.2.2)) s →
    wpAny (model Y.prog Y.w) Y.A (spliced (backTo pos (starEach (l.map fun e => .Name e.1 e.2.1) Y.env))) Q E s
  | [], Q, _, q => Calls.spliced_nil q
  | e :: l, Q, h, q => by
    obtain ⟨h1, h2, h3⟩ := h e (by simp)
    exact Calls.spliced_cons (ld_glob I h1 h2 (names_run I l (fun d hd => h d (by simp [hd])) q) h3)
/-- the test of a clause -/
theorem test_run {Y : Cx} {t : Expr} {cs : List Value} {a : Addr} {cls : Value} {b : Bool} {Q : Bool → Shared → Prop} {E E2 : Value → Shared → Prop} (T : TestOk Y t cs) (I : L2.Inv Y pins σ H s) (LT : Looks (model Y.prog Y.w) s.heap (typeOf (.ref a)) cls) (hx : exmAny Y.K cls cs = some b)
    (q : ∀ h', (∀ b o, s.heap.get? b = some o → h'.get? b = some o) → Q b { s with heap := h' }) : wpAny (model Y.prog Y.w) Y.A (eval t Y.env) (fun c s1 => wpAny (model Y.prog Y.w) Y.A (excMatches (.ref a) c) Q E s1) E2 s := by
  cases T with
  | one h1 h2 h3 =>
    rename_i c np
    obtain ⟨b1, d1, e1, e2, rfl⟩ := exmAny_cons hx
    cases e2
    refine ld_glob I h1 h2 ((exm_one I.kIn LT e1).here ?_) h3
    have := q s.heap fun _ _ e => e
    rw [Bool.or_false] at this
    exact this
  | tup hl h =>
    rename_i l j np
    refine wpAny_Tuple_spliced (names_run I l h ⟨Nat.le_trans (by rw [List.length_map]; exact hl) (by rw [sizeLine_eq]; decide), ?_⟩)
    have k : ∀ b o, s.heap.get? b = some o → (s.heap.push { cls := .type "tuple", data := .seq (l.map (·.2.2)).toArray }).get? b = some o := fun b o e => Heap.get?_push_of_some _ e
    exact (exm_tupL (fun b o e => k b o (I.kIn b o e)) (LT.keeps k) (Heap.get?_push_size _ rfl) hx).here (q _ k)
end
section
variable {X : Cx} {n : Str} {i : Nat} {body : List Stmt} {h0 : ExceptHandler} {hds : List ExceptHandler} {l : List Cl} {pos : Pos} {tb : WX → TS} {Wo : WX}
theorem ps_try_tup (hs : X.stack = X.env :: X.outer) (hf : X.env.frame = some X.env.locals) (hN : X.N.Nodup) (hi : X.N[i]? = some n) (hln : X.env.kindOf n = some .local) (tk : Takes X Wo)
    (hb : ∀ (W : WX) (pn : List (Addr × Obj)) (xe : Value → Shared → Prop), Takes (X.tr pn xe) W → PassesOwn (model X.prog X.w) X.A X.env xe → PSs (X.tr pn xe) body (tb W)) (hh : HdsT X n (h0 :: hds) l) :
    PS X (.Try body (h0 :: hds) [] [] pos) (fun D σ H => tb (wManyT X.K Wo D i l) D σ H) := ⟨fun pins s σ H D I h => by
  have ok := I.ok
  have hfr : X.A.frames = some (X.env :: X.outer) := ok.frames.trans (by rw [hs])
  refine wpAny_Try_except (wpAny_mono ((hb (wManyT X.K Wo D i l) (X.pn ++ pins) (fun e s₁ => wpAny (model X.prog X.w) X.A (noteFrame e X.env) (fun _ s₂ => wpAny (model X.prog X.w) X.A (setFlight e none) (fun _ s₃ => wpAny (model X.prog X.w) X.A (handleBy e X.env (h0 :: hds)) (SP X pins D) X.xe s₃) X.xe s₂) X.xe s₁) (fun u s' xx => ?_) PassesOwn.looking).run [] s σ H D (I.toTry _) h) (fun f s1 hsp => ?_) (fun e s1 he => he))
  · obtain ⟨a, B, sI, pins', σ', H', cls, d, rfl, J', nb, up, sky, na, os, ag, w⟩ := xx
    have J : L2.Inv X pins σ' H' sI := J'.ofTry ok
    have go : ∀ {hd2 : List ExceptHandler} {l2 : List Cl}, HdsT X n hd2 l2 → wManyT X.K Wo D i l2 cls d σ' H' → ∀ h3, HandSPX.FlyingZ B (X.env :: X.outer) a (Zc cls d) h3 → sI.heap.UpToSlots h3 →
        wpAny (model X.prog X.w) X.A (handleBy (.ref a) X.env hd2) (SP X pins D) X.xe { s' with heap := h3 } := by
      intro hd2 l2 hk
      induction hk with
      | nil =>
        intro w h3 fl up3
        obtain ⟨k1, k2, k3, oe, vs, T, oT, ts', he, hz, hd, h1, hr⟩ := id fl
        refine wpAny_handleBy_nil (by
          unfold PySem.passOn
          refine wpAny_bind (wpAny_field he hd h1 ?_)
          rw [if_neg (show ¬ ((Value.ref T == Value.none) = true) by simp)]
          have fin : wpAny (model X.prog X.w) X.A (setFlight (.ref a) X.env.frame) (fun _ s4 => wpAny (model X.prog X.w) X.A (throw (.ref a) : Sem Flow) (SP X pins D) X.xe s4) X.xe { s' with heap := h3 } := by
            rw [hf]; exact HandSPX.setFlight_upZ fl fun h4 hh4 up4 => wpAny_throw (tk _ _ ⟨a, B, sI, pins, σ', H', cls, d, rfl, J, nb, up3.trans up4, .inr (.inr (by rw [hs]; exact hh4)), na, os, ag, w⟩)
          first | exact wpAny_bind (wpAny_pure (wpAny_bind fin)) | exact wpAny_bind fin)
      | @cons t cs ts b₀ suite pos' hd3 l3 hc hsu r ih =>
        intro w h3 fl up3
        obtain ⟨b, hb1, hyes, hno⟩ := w
        obtain ⟨oe3, vs3, he3, hz3, hd3'⟩ := fl.there
        have nfr : a ∉ frs (X.env :: X.outer) := fun hm => by obtain ⟨_, o', e', hnf⟩ := fl.2.2.1.mem hm; rw [he3] at e'; cases e'; exact hnf _ hd3'
        have nL : a ≠ X.env.locals := fun z => nfr (List.mem_filterMap.mpr ⟨X.env, List.mem_cons_self, hf.trans (by rw [z])⟩)
        have nF : a ∉ X.fs := fun hm => by obtain ⟨e, he, q⟩ := List.mem_filterMap.mp hm; exact nfr (List.mem_filterMap.mpr ⟨e, List.mem_cons_of_mem _ he, q⟩)
        have S3 := (show L2.Inv X pins σ' H' { s' with heap := h3 } from J.landed nb fl.1 up3 os ag).suite he3 hd3' na nL nF
        have LT : Looks (model X.prog X.w) h3 (typeOf (.ref a)) cls := fun A Q E s k q => wpAny_typeOf_ref (k _ _ he3) (by rw [hz3.1]; exact q)
        refine wpAny_handleBy_cons (codeAny_handlers_test (test_run (Y := X.suite a ((a, oe3) :: (X.pn ++ pins))) (show TestOk _ t cs from by
          cases hc with
          | one x1 x2 x3 => exact .one x1 x2 x3
          | tup x1 x2 => exact .tup x1 x2) S3 LT hb1 fun h' kx => ?_)) (by intro q; cases q)
        have fl2 := flying_ext kx fl
        have up2 : sI.heap.UpToSlots h' := up3.trans (Heap.UpToSlots.of_keeps kx)
        cases b with
        | true =>
          refine codeAny_handlers_suite_as (HandSPX.lands_againZ fl2 fun h4 fl4 up4 => ?_)
          obtain ⟨oe4, vs4, he4, hz4, hd4⟩ := fl4.there
          have S4 := (show L2.Inv X pins σ' H' { s' with heap := h4 } from J.landed nb fl4.1 (up2.trans up4) os ag).suite he4 hd4 na nL nF
          refine store_ok (X := X.suite a ((a, oe4) :: (X.pn ++ pins))) (v := .ref a) S4 hN hi (.inl hln) rfl (fun s5 S5 => wpAny_mono ((hsu a oe4 cls d (X.pn ++ pins) hz4 ⟨_, hd4⟩).run [] s5 _ H' _ S5 (hyes rfl a na)) (fun f s6 hsp => ?_) (fun _ _ z => False.elim z)) (.inr hln)
          have fin6 : ∀ {σ6 : L2.St} {H6 : Hp} {Q : Shared → Prop}, L2.Inv (X.suite a ((a, oe4) :: (X.pn ++ pins))) [] σ6 H6 s6 → (∀ s7, L2.Inv X pins (σ6.set i none) H6 s7 → Q s7) → wpAny (model X.prog X.w) X.A (do bindName X.env n .none; unbindBehindTheSuite X.env n pos') (fun _ s7 => Q s7) X.xe s6 := fun {σ6 H6 Q} S6 hq => gone_ok (S6.unsuite ok) hN hi hln hq
          cases f with
          | next => obtain ⟨σ6, H6, S6, q6⟩ := hsp; exact fin6 S6 fun s7 J7 => ⟨_, _, J7, q6⟩
          | brk => obtain ⟨σ6, H6, S6, q6⟩ := hsp; exact fin6 S6 fun s7 J7 => ⟨_, _, J7, q6⟩
          | cont => obtain ⟨σ6, H6, S6, q6⟩ := hsp; exact fin6 S6 fun s7 J7 => ⟨_, _, J7, q6⟩
          | ret u => obtain ⟨v6, σ6, H6, S6, r6, q6⟩ := hsp; exact fin6 S6 fun s7 J7 => ⟨_, _, _, J7, r6, q6⟩
        | false => exact ih (hno rfl) h' fl2 up2
    show wpAny (model X.prog X.w) X.A (noteFrame (.ref a) X.env) _ _ _
    exact Sky.land Zc.steady hfr hf (show Sky B (X.env :: X.outer) a (Zc cls d) X.env.locals s'.heap by rw [← hs]; exact sky) fun h3 fl3 up3 => go hh w h3 fl3 (up.trans up3)
  · cases f with
    | next => obtain ⟨σ', H', J', q⟩ := hsp; exact wpAny_execs_nil ⟨σ', H', J'.ofTry ok, q⟩
    | brk => obtain ⟨σ', H', J', q⟩ := hsp; exact ⟨σ', H', J'.ofTry ok, q⟩
    | cont => obtain ⟨σ', H', J', q⟩ := hsp; exact ⟨σ', H', J'.ofTry ok, q⟩
    | ret u => obtain ⟨v, σ', H', J', r, q⟩ := hsp; exact ⟨v, σ', H', J'.ofTry ok, r, q⟩⟩
end
end DL
namespace DL
open PySem PySem.Spec PyProof.Rows L2 RZ
/-! ### except .. as n: return (n.f, ..) -/
abbrev Fd := Str × Pos × Pos
def tFl (K : PySem.W.Frag) (a : Addr) (cls : Value) (d : Option Addr) (i : Nat) (fl : List Fd) : TA := fun σ H Q => σ[i]? = some (some (.ref a)) ∧ ∃ (C dd : Addr) (fs : List (Str × V)) (vs : List V), cls = .ref C ∧ XfC K C ∧ (∀ f ∈ fl, PySem.W.findIn K (.ref C) f.1 = some none) ∧ d = some dd ∧ H dd = some (.xd fs) ∧ fl.map (fun f => fs.lookup f.1) = vs.map some ∧ Q vs H
section
variable {X : Cx} {n : Str} {i : Nat} {a : Addr} {oe : Obj} {cls : Value} {d : Option Addr} {pn : List (Addr × Obj)}
theorem pa_flds (hN : X.N[i]? = some n) (hv : Vis X.env.scope n) (hd : (n == ("__debug__" : Str)) = false) (hcd : (n == ("__classdict__" : Str)) = false) (hz : Zc cls d oe) (hf : ∃ vs, oe.data = .fields vs) : ∀ fl : List Fd, PA (X.suite a ((a, oe) :: pn)) (fl.map fun f => .Attribute (.Name n f.2.1) f.1 f.2.2) (tFl X.K a cls d i fl)
  | [] => ⟨fun pos pins s σ H Q I h => by
    obtain ⟨h0, C, dd, fs, vs, e1, T, hno, e2, e3, e4, q⟩ := h
    cases vs with
    | nil => exact pa_nil.run pos pins s σ H Q I q
    | cons v vs => cases e4⟩
  | f :: fl => ⟨fun pos pins s σ H Q I h => by
    obtain ⟨h0, C, dd, fs, vs, e1, T, hno, e2, e3, e4, q⟩ := h
    cases vs with
    | nil => cases e4
    | cons v vs =>
      rw [List.map_cons, List.map_cons] at e4
      obtain ⟨e5, e6⟩ := List.cons.inj e4
      refine (pa_cons (pe_xf T (hno f (by simp)) hz hf (pe_var (X := X.suite a ((a, oe) :: pn)) hN hv hd hcd)) (pa_flds hN hv hd hcd hz hf fl)).run pos pins s σ H Q I ?_
      exact ⟨_, h0, rfl, e1, dd, fs, v, e2, e3, e5, h0, C, dd, fs, vs, e1, T, fun g hg => hno g (by simp [hg]), e2, e3, e6, q⟩⟩
end
/-! ### the statement as data -/
structure Cs where
  t : Expr
  ns : List Str
  fl : List Fd
  j : Nat
  p1 : Pos
  p2 : Pos
  p3 : Pos
def Cs.hd (n : Str) (c : Cs) : ExceptHandler := .ExceptHandler (some c.t) (some n) [.Return (some (.Tuple (c.fl.map fun f => .Attribute (.Name n f.2.1) f.1 f.2.2) c.j c.p1)) c.p2] c.p3
def lookAll (fs : List (Str × Dt)) : List Str → Option (List Dt)
  | [] => some []
  | f :: r => match fs.lookup f, lookAll fs r with
    | some d, some ds => some (d :: ds)
    | _, _ => none
def tryGo (anc : List Str) (c : Str) (fs : List (Str × Dt)) : List (List Str × List Str) → FS
  | [] => fun ρ => some (.ex c fs, ρ)
  | (ns, fl) :: r => if ns.any anc.contains = true then (fun ρ => match lookAll fs fl with
      | some ds => if ds.length ≤ 1000 then some (.rt (.sh (.tup ds)), ρ) else none
      | none => none) else tryGo anc c fs r
theorem tryGo_cons (anc : List Str) (c : Str) (fs : List (Str × Dt)) (ns fl : List Str) (r : List (List Str × List Str)) : tryGo anc c fs ((ns, fl) :: r) = if ns.any anc.contains = true then (fun ρ => match lookAll fs fl with
      | some ds => if ds.length ≤ 1000 then some (.rt (.sh (.tup ds)), ρ) else none
      | none => none) else tryGo anc c fs r := rfl
def sTryF (i : Nat) (tab : List (Str × List Str)) (cl : List (List Str × List Str)) (fb : FS) : FS := fun ρ => match fb ρ with
  | some (.ex c fs, ρ1) => (match tab.lookup c with
    | some anc => if i < ρ1.length then tryGo anc c fs cl ρ1 else none
    | none => none)
  | r => r
inductive All2 (mg : Str → Option Value) : List Str → List Value → Prop
  | nil : All2 mg [] []
  | cons {x : Str} {c : Value} {xs : List Str} {cs : List Value} : mg x = some c → All2 mg xs cs → All2 mg (x :: xs) (c :: cs)
/-- what the written part says of the classes of a try -/
structure TryAt (K : PySem.W.Frag) (mg : Str → Option Value) (tab : List (Str × List Str)) (cl : List (List Str × List Str)) : Prop where
  mgc : ∀ e ∈ cl, ∀ x ∈ e.1, ∃ c, mg x = some c
  sub : ∀ c anc, tab.lookup c = some anc → ∀ C, PySem.W.nsIn K mainGlobals c = some (some (.ref C)) → XfC K C ∧ ∀ e ∈ cl, (e.1.any anc.contains = true → ∀ f ∈ e.2, PySem.W.findIn K (.ref C) f = some none) ∧ ∀ cs, All2 mg e.1 cs → PySem.W.exmAny K (.ref C) cs = some (e.1.any anc.contains)
inductive TestN (X : Cx) : Expr → List Str → Prop
  | one {x : Str} {np : Pos} : Gl X x → (x == ("__debug__" : Str)) = false → TestN X (.Name x np) [x]
  | tup {l : List (Str × Pos)} {j : Nat} {np : Pos} : l.length ≤ 1000 → (∀ e ∈ l, Gl X e.1 ∧ (e.1 == ("__debug__" : Str)) = false) → TestN X (.Tuple (l.map fun e => .Name e.1 e.2) j np) (l.map (·.1))
theorem pick_l {X : Cx} : ∀ (l : List (Str × Pos)), (∀ e ∈ l, Gl X e.1 ∧ (e.1 == ("__debug__" : Str)) = false) → (∀ x ∈ l.map (·.1), ∃ c, X.mg x = some c) → ∃ m : List (Str × Pos × Value), m.length = l.length ∧ (m.map fun e => Expr.Name e.1 e.2.1) = (l.map fun e => Expr.Name e.1 e.2) ∧ (∀ e ∈ m, Gl X e.1 ∧ X.mg e.1 = some e.2.2 ∧ (e.1 == ("__debug__" : Str)) = false) ∧ All2 X.mg (l.map (·.1)) (m.map (·.2.2))
  | [], _, _ => ⟨[], rfl, rfl, fun e he => (by cases he), .nil⟩
  | e :: l, h1, h2 => by
    obtain ⟨m, a1, a2, a3, a4⟩ := pick_l l (fun d hd => h1 d (by simp [hd])) fun x hx => h2 x (by simp only [List.map_cons, List.mem_cons]; exact .inr hx)
    obtain ⟨c, hc⟩ := h2 e.1 (by simp)
    refine ⟨(e.1, e.2, c) :: m, by simp [a1], by rw [List.map_cons, List.map_cons, a2], fun d hd => ?_, .cons hc a4⟩
    rcases List.mem_cons.mp hd with rfl | hd
    · exact ⟨(h1 e (by simp)).1, hc, (h1 e (by simp)).2⟩
    · exact a3 d hd
theorem TestN.ok {X : Cx} {t : Expr} {ns : List Str} (T : TestN X t ns) (h : ∀ x ∈ ns, ∃ c, X.mg x = some c) : ∃ cs, TestOk X t cs ∧ All2 X.mg ns cs := by
  cases T with
  | one h1 h2 =>
    obtain ⟨c, hc⟩ := h _ List.mem_cons_self
    exact ⟨[c], .one h1 hc h2, .cons hc .nil⟩
  | tup hl h1 =>
    obtain ⟨m, a1, a2, a3, a4⟩ := pick_l _ h1 h
    refine ⟨m.map (·.2.2), ?_, a4⟩
    rw [← a2]
    exact .tup (by rw [a1]; exact hl) a3
theorem look_all {K : PySem.W.Frag} {F : Hp} {fs : List (Str × Dt)} {gs : List (Str × V)} (h1 : gs.map (·.1) = fs.map (·.1)) (h2 : Rps K F (fs.map (·.2)) (gs.map (·.2))) {f : Str} {d : Dt} (e : fs.lookup f = some d) : ∃ v, gs.lookup f = some v ∧ Rp K F d v := by
  induction fs generalizing gs with
  | nil => cases e
  | cons x fs ih =>
    cases gs with
    | nil => cases h1
    | cons y gs =>
      rw [List.map_cons, List.map_cons] at h1 h2
      obtain ⟨k1, k2⟩ := List.cons.inj h1
      obtain ⟨x1, x2⟩ := x
      obtain ⟨y1, y2⟩ := y
      cases h2 with
      | cons r1 r2 =>
        dsimp only at k1 r1
        subst k1
        unfold List.lookup at e ⊢
        cases hb : f == y1 with
        | true => rw [hb] at e; cases e; exact ⟨y2, rfl, r1⟩
        | false => rw [hb] at e; exact ih k2 r2 e
theorem looks_all {K : PySem.W.Frag} {F : Hp} {fs : List (Str × Dt)} {gs : List (Str × V)} (h1 : gs.map (·.1) = fs.map (·.1)) (h2 : Rps K F (fs.map (·.2)) (gs.map (·.2))) : ∀ {fl : List Str} {ds : List Dt}, lookAll fs fl = some ds → ∃ vs, fl.map (gs.lookup ·) = vs.map some ∧ Rps K F ds vs
  | [], ds, e => by cases e; exact ⟨[], rfl, .nil⟩
  | f :: fl, ds, e => by
    unfold lookAll at e
    split at e
    · rename_i d ds e1 e2
      cases e
      obtain ⟨v, a1, a2⟩ := look_all h1 h2 e1
      obtain ⟨vs, b1, b2⟩ := looks_all h1 h2 e2
      exact ⟨v :: vs, by rw [List.map_cons, List.map_cons, a1, b1], .cons a2 b2⟩
    · cases e
section
variable {X : Cx} {P : Pt} {Wx : WX} {n : Str} {i : Nat} {body : List Stmt} {pos : Pos} {fb : FS}
/-- what a clause's suite asks -/
def tsOf (K : PySem.W.Frag) (i : Nat) (c : Cs) : Addr → Value → Option Addr → TS := fun a cls d D σ H => tTup (tFl K a cls d i c.fl) σ H D.rt
theorem hds_of (hN : X.N[i]? = some n) (hv : Vis X.env.scope n) (hd : (n == ("__debug__" : Str)) = false) (hcd : (n == ("__classdict__" : Str)) = false) : ∀ (cl : List Cs), (∀ c ∈ cl, TestN X c.t c.ns ∧ ∀ x ∈ c.ns, ∃ v, X.mg x = some v) →
    ∃ l : List Cl, HdsT X n (cl.map (Cs.hd n)) l ∧ l.length = cl.length ∧ ∀ e ∈ cl.zip l, All2 X.mg e.1.ns e.2.1 ∧ e.2.2 = tsOf X.K i e.1
  | [], _ => ⟨[], .nil, rfl, fun e he => (by cases he)⟩
  | c :: cl, h => by
    obtain ⟨l, h1, h2, h3⟩ := hds_of hN hv hd hcd cl fun d hd => h d (by simp [hd])
    obtain ⟨t1, t2⟩ := h c (by simp)
    obtain ⟨cs, k1, k2⟩ := t1.ok t2
    refine ⟨(cs, tsOf X.K i c) :: l, .cons k1 (fun a oe cls d pn hz hf => ?_) h1, by simp [h2], fun e he => ?_⟩
    · refine ⟨fun pins s σ H D I q => ?_⟩
      exact (pss_cons (ps_ret (pe_tup (pa_flds hN hv hd hcd hz hf c.fl))) pss_nil).run pins s σ H D I q
    · rw [List.zip_cons_cons] at he
      rcases List.mem_cons.mp he with rfl | he
      · exact ⟨k2, rfl⟩
      · exact h3 e he
theorem many_of {K : PySem.W.Frag} {mg : Str → Option Value} {D : Ends} {F F' : Hp} {H' : Hp} {σ : L2.St} {ρ1 : Rho} {cls : Value} {dd : Option Addr} {c : Str} {fs : List (Str × Dt)} {anc : List Str} {C : Addr} (hF : Same F F') (r : Rel K P F' H' σ ρ1) (hi : i ∉ P.bs) (hl : i < σ.length)
    (eC : cls = .ref C) (hC : PySem.W.nsIn K mainGlobals c = some (some (.ref C))) {a : Addr} {gs : List (Str × V)} (ed : dd = some a) (ea : F' a = some (.xd gs)) (g1 : gs.map (·.1) = fs.map (·.1)) (g2 : Rps K F' (fs.map (·.2)) (gs.map (·.2))) (T : XfC K C) :
    ∀ (cl : List Cs) (l : List Cl), l.length = cl.length → (∀ e ∈ cl.zip l, All2 mg e.1.ns e.2.1 ∧ e.2.2 = tsOf K i e.1) →
      (∀ e ∈ cl, (e.ns.any anc.contains = true → ∀ f ∈ e.fl.map (·.1), PySem.W.findIn K (.ref C) f = some none) ∧ ∀ cs, All2 mg e.ns cs → PySem.W.exmAny K (.ref C) cs = some (e.ns.any anc.contains)) →
      postS K P Wx F D (tryGo anc c fs (cl.map fun c => (c.ns, c.fl.map (·.1))) ρ1) → wManyT K Wx D i l cls dd σ H'
  | [], [], _, _, _, q => q F' H' σ cls dd hF r ⟨⟨C, eC, hC⟩, a, gs, ed, ea, g1, g2⟩
  | [], _ :: _, e, _, _, _ => by cases e
  | _ :: _, [], e, _, _, _ => by cases e
  | e :: cl, (cs, ts) :: l, hln, hz, hs, q => by
    obtain ⟨z1, z2⟩ := hz (e, (cs, ts)) (by simp)
    obtain ⟨s1, s2⟩ := hs e (by simp)
    dsimp only at z1 z2
    subst z2 eC
    refine ⟨_, s2 cs z1, fun hb x nx => ?_, fun hb => ?_⟩
    · rw [List.map_cons, tryGo_cons, if_pos hb] at q
      split at q
      · rename_i ds e1
        split at q
        · rename_i hle
          obtain ⟨vs, b1, b2⟩ := looks_all g1 g2 e1
          refine ⟨?_, C, a, gs, vs, rfl, T, fun f hf => s1 hb f.1 (List.mem_map_of_mem hf), ed, r.fh _ _ ea, ?_, by rw [← b2.length]; exact sz1000 (Nat.le_trans hle (by decide)), fun p np => ?_⟩
          · rw [List.getElem?_set_self hl]
          · rw [← b1, List.map_map]; rfl
          · have g := Grow.lay (o := .tup vs) r.fh np
            exact q _ _ σ (.ref p) (hF.trans g.f) (r.grow g) (.tup (.inl (.inl upd_same)) (b2.mono g.f))
        · exact q.elim
      · exact q.elim
    · rw [List.map_cons, tryGo_cons, if_neg (by rw [hb]; decide)] at q
      exact many_of hF r hi hl rfl hC ed ea g1 g2 T cl l (by simpa using hln) (fun x hx => hz x (by rw [List.zip_cons_cons]; exact List.mem_cons_of_mem _ hx)) (fun x hx => hs x (by simp [hx])) q
theorem s_tryF {tab : List (Str × List Str)} {cl : List Cs} {h0 : ExceptHandler} {hds : List ExceptHandler} (A : TryAt X.K X.mg tab (cl.map fun c => (c.ns, c.fl.map (·.1)))) (hT : ∀ c ∈ cl, TestN X c.t c.ns) (he : h0 :: hds = cl.map (Cs.hd n)) (hs : X.stack = X.env :: X.outer) (hf : X.env.frame = some X.env.locals) (hN : X.N.Nodup) (hi : X.N[i]? = some n) (hib : i ∉ P.bs)
    (hln : X.env.kindOf n = some .local) (hv : Vis X.env.scope n) (tk : Takes X Wx) (hb : ∀ (W : WX) (pn : List (Addr × Obj)) (xe : Value → Shared → Prop), Takes (X.tr pn xe) W → PassesOwn (model X.prog X.w) X.A X.env xe → PSs (X.tr pn xe) body (LS X.K P W fb))
    (hd : (n == ("__debug__" : Str)) = false := by decide) (hcd : (n == ("__classdict__" : Str)) = false := by decide) : PS X (.Try body (h0 :: hds) [] [] pos) (LS X.K P Wx (sTryF i tab (cl.map fun c => (c.ns, c.fl.map (·.1))) fb)) := by
  obtain ⟨l, h1, h2, h3⟩ := hds_of (X := X) hi hv hd hcd cl fun c hc => ⟨hT c hc, fun x hx => A.mgc (c.ns, c.fl.map (·.1)) (List.mem_map.mpr ⟨c, hc, rfl⟩) x hx⟩
  rw [← he] at h1
  refine PSm (ps_try_tup hs hf hN hi hln tk hb h1) fun D σ H h => ?_
  obtain ⟨F, ρ, r, q⟩ := h
  refine ⟨F, ρ, r, ?_⟩
  unfold sTryF at q
  match e : fb ρ with
  | none => rw [e] at q; exact q.elim
  | some (.nx, ρ1) => rw [e] at q; exact q
  | some (.bk, ρ1) => rw [e] at q; exact q
  | some (.ct, ρ1) => rw [e] at q; exact q
  | some (.rt w, ρ1) => rw [e] at q; exact q
  | some (.ex c fs, ρ1) =>
    rw [e] at q
    dsimp only at q
    cases et : tab.lookup c with
    | none => rw [et] at q; exact q.elim
    | some anc =>
      rw [et] at q
      dsimp only at q
      split at q
      rotate_left
      · exact q.elim
      rename_i hil
      intro F' H' σ' cls dd s1 r1 xp
      obtain ⟨⟨C, eC, hC⟩, a, gs, ed, ea, g1, g2⟩ := xp
      obtain ⟨T, hsub⟩ := A.sub c anc et C hC
      refine many_of s1 r1 hib (by rw [← r1.len]; exact hil) eC hC ed ea g1 g2 T cl l h2 h3 (fun x hx => ?_) q
      exact hsub (x.ns, x.fl.map (·.1)) (List.mem_map.mpr ⟨x, hx, rfl⟩)
end
end DL
namespace DL
open PySem PySem.Spec PyProof.Rows L2 RZ
/-! ### a def called without arguments -/
section
variable {X : Cx} {P : Pt} {Wx : WX} {pos p : Pos} {k : Nat} {g : FnD} {x : Str}
theorem w_fn0 (h : FnAt X.prog X.w X.K X.mg X.base k x 0 g) (hr : Room k X.A) (tk : Takes X Wx) (hg : Gl X x) (hdb : (x == ("__debug__" : Str)) = false := by decide) : PE X (.Call (.Name x p) [] [] pos) (LW X.K P Wx (wCall 0 g aNil)) := by
  obtain ⟨f, fd, ps, a, b, c, d, _⟩ := h.ex
  refine ⟨fun pins s σ H Q I q => wpAny_Call_Name_kw (ld_glob I hg b (PySem.W.callWith_K0 I.kIn c ?_) hdb)⟩
  obtain ⟨F, ρ, r, q2⟩ := LA_call q
  exact run_fnS (us := []) a hr d (passAt tk σ) I .nil (q2 F H [] (.refl _) r .nil)
end
end DL
namespace DL
open PySem PySem.Spec PyProof.Rows L2 RZ
/-! ### a lambda is made: all but the one table stays -/
def ButT (P : Addr) (H H' : Hp) : Prop := ∀ b o, b ≠ P → H b = some o → H' b = some o
def nmL (X : Cx) : Str := X.env.qual ++ "<lambda>"
section
variable {X : Cx} {pins : List (Addr × Obj)} {σ : L2.St} {H : Hp} {s : Shared}
theorem tab_snoc {P c : Addr} {q : Str} {ps : Array Value} {pos : Pos} (hP : H P = some (.tbl ps)) (tr : TriplesOk ps.toList) (al : ∀ (p : Pos) (cv : Value), codeAmong p ps.toList = some cv → ∃ c, cv = .ref c ∧ H c = some (LamX.CodeO c q)) (nC : H c = none) :
    LamX.TabS (upd (upd H P (.tbl (ps ++ #[rawInt pos.line, rawInt pos.col, .ref c]))) c (LamX.CodeO c q)) P q := by
  have eq : (ps ++ #[rawInt pos.line, rawInt pos.col, .ref c]).toList = ps.toList ++ [rawInt pos.line, rawInt pos.col, .ref c] := by simp
  refine ⟨ps ++ #[rawInt pos.line, rawInt pos.col, .ref c], (upd_ne (ne_of_none hP nC)).trans upd_same, eq ▸ PySem.TriplesOk_snoc _ _ _ _ tr, fun p cv h => ?_⟩
  rcases LamX.among_app _ tr (eq ▸ h) with z | z
  · obtain ⟨d, e1, e2⟩ := al p cv z
    have nd : d ≠ P := fun z => by rw [z, hP] at e2; exact LamX.codeO_ne ps (Option.some.inj e2).symm
    exact ⟨d, e1, (upd_ne (ne_of_none e2 nC)).trans ((upd_ne nd).trans e2)⟩
  · exact ⟨c, z, upd_same⟩
theorem tab_far {P R c : Addr} {q q' : Str} {u : HO} {v : HO} (t : LamX.TabS H R q) (ne : R ≠ P) (hP : ∃ ps, H P = some (.tbl ps)) (nC : H c = none) : LamX.TabS (upd (upd H P u) c v) R q := by
  obtain ⟨ps, a1, a2, a3⟩ := t
  obtain ⟨qs, hP⟩ := hP
  refine ⟨ps, (upd_ne (ne_of_none a1 nC)).trans ((upd_ne ne).trans a1), a2, fun p cv h => ?_⟩
  obtain ⟨d, e1, e2⟩ := a3 p cv h
  have nd : d ≠ P := fun z => by rw [z, hP] at e2; exact LamX.codeO_ne qs (Option.some.inj e2).symm
  exact ⟨d, e1, (upd_ne (ne_of_none e2 nC)).trans ((upd_ne nd).trans e2)⟩
theorem lam3 {T : List (Addr × Str)} {c P : Addr} {args : Arguments} {bd : Expr} {sc : Scope} {pos : Pos} {E Q : Value → Shared → Prop} (I : Inv X pins σ H s) (TB : LamX.TabB X.base X.mg c P) (cd : X.env.code = .ref c) (mem : (P, nmL X) ∈ T) (one : ∀ p ∈ T, p.1 = P → p.2 = nmL X) (tb : LamX.Tabs T H)
    (df : defaultsOf args X.env = ([], [])) (fr : ∀ y ∈ sc.names, y.2 = .free → ∃ c, X.env.cells.lookup y.1 = some c)
    (q : ∀ (f d : Addr) (pm ct : Value) (H1 : Hp) (s1 : Shared), Inv X pins σ H1 s1 → ButT P H H1 → LamX.Tabs T H1 → s1.heap.get? f = some (PySem.W.kla_obj "<lambda>" (nmL X) args bd sc (cloFrom X.env.cells sc.names []) pm d ct) → H1 f = none → f ∉ frs X.stack → H1 d = some (LamX.CodeO d (nmL X)) → Q (.ref f) s1) :
    wpAny (model X.prog X.w) X.A (eval (.Lambda args bd sc pos) X.env) Q E s := by
  obtain ⟨ps, hP, tr, al⟩ := tb _ mem
  have oP : s.heap.get? P = some { cls := .none, data := .fields ps } := I.hok P _ hP
  have far : ∀ f, s.heap.objs.size ≤ f → f ∉ frs X.stack := fun f hf z => (List.mem_cons.mp (I.stkSub _ z)).elim (fun e => Nat.lt_irrefl f (Nat.lt_of_lt_of_le (e ▸ I.lt) hf)) (I.nofs hf)
  refine PySem.W.kla_eval df ?_
  match hc : codeAmong pos ps.toList with
  | none =>
    refine PySem.W.kla_makeFunction (mg := X.mg) (c := c) (P := P) (ps := ps) (closure_ok fr) I.ok.glob (I.mod.glob.keeps I.bk) cd (TB.code.keeps I.bk) oP tr hc TB.gP (TB.bm.keeps I.bk) ?_
    intro d ct h' tk kp ge lt rc ht
    obtain ⟨_, oc, vs, t, ed, o1, o2, o3⟩ := rc
    cases ed
    have sz := Nat.le_trans ge (Nat.le_of_lt lt)
    have nC : H d = none := I.hok.fresh ge
    refine q h'.objs.size d ((X.mg "__name__").getD .none) ct _ _ (LamX.inv_table (t' := tk) (more := #[rawInt pos.line, rawInt pos.col, .ref d]) (h' := h'.push (PySem.W.kla_obj "<lambda>" (nmL X) args bd sc (cloFrom X.env.cells sc.names []) ((X.mg "__name__").getD .none) d ct)) I hP (fun b o hb e => Heap.get?_push_of_some _ (kp b o hb e)) (Heap.get?_push_of_some _ ht) ge ⟨oc, vs, t, Heap.get?_push_of_some _ o1, o2, o3⟩)
      (fun b o ne e => (upd_ne (ne_of_none e nC)).trans ((upd_ne ne).trans e)) (fun p hp => ?_) (Heap.get?_push_size _ rfl) ?_ (far _ sz) upd_same
    · by_cases ep : p.1 = P
      · rw [one p hp ep, ep]; exact tab_snoc hP tr al nC
      · exact tab_far (q' := nmL X) (tb p hp) ep ⟨ps, hP⟩ nC
    · exact (upd_ne (Nat.ne_of_gt lt)).trans ((upd_ne (Nat.ne_of_gt (Nat.lt_of_lt_of_le (Heap.lt_size oP) sz))).trans (I.hok.fresh sz))
  | some cv =>
    obtain ⟨d, rfl, co⟩ := al pos cv hc
    refine PySem.W.kla_makeFunctionHit (mg := X.mg) (c := c) (P := P) (ps := ps) (closure_ok fr) I.ok.glob (I.mod.glob.keeps I.bk) cd (TB.code.keeps I.bk) oP tr hc (TB.bm.keeps I.bk) ?_
    intro ct h' tk kp sz
    exact q h'.objs.size d ((X.mg "__name__").getD .none) ct H _ (I.kept (t' := tk) (h' := h'.push (PySem.W.kla_obj "<lambda>" (nmL X) args bd sc (cloFrom X.env.cells sc.names []) ((X.mg "__name__").getD .none) d ct)) fun b o e => Heap.get?_push_of_some _ (kp b o e)) (fun _ _ _ e => e) tb (Heap.get?_push_size _ rfl) (I.hok.fresh sz) (far _ sz) co
end
/-! ### x(lambda: body) -/
def tLam3 (P : Addr) (T : List (Addr × Str)) (TT : (XK → Hp → VK → Prop) → Hp → VK → Prop) (t : XK → TE) : TE := fun σ H Q => LamX.Tabs T H ∧ ∀ H1, ButT P H H1 → LamX.Tabs T H1 → TT (fun E H' Q' => t E σ H' Q') H1 Q
section
variable {X : Cx}
theorem pe_lam3 {T : List (Addr × Str)} {TT : (XK → Hp → VK → Prop) → Hp → VK → Prop} {x a : Str} {g c P : Addr} {k : Nat} {pg : Arguments} {bg : List Stmt} {sg : Scope} {dV kV doc pm cdv ct oc : Value} {an od : Option Addr} {osl : Array (Option Value)} {Ng : List Str} {args : Arguments} {bd : Expr} {sc : Scope} {t : XK → TE} {p lp pos : Pos}
    (gl : Gl X x) (gm : X.mg x = some (.ref g)) (gk : PySem.W.keepIn X.K (.ref g) = true) (lk : X.K.lookup g = some ⟨oc, od, .func (PySem.W.fnOf x x pg bg sg dV kV doc pm an cdv ct), osl⟩) (ci : PySem.W.codeIn X.K cdv x = true) (gb : L2.Binds X.K (PySem.W.fnOf x x pg bg sg dV kV doc pm an cdv ct) [a] []) (Sg : FnScope Ng [a] sg) (h0 : Ng[0]? = some a) (va : Vis sg a)
    (GT : LamX.GivesTo X Ng x sg g cdv bg a (nmL X) TT) (TB : LamX.TabB X.base X.mg c P) (cd : X.env.code = .ref c) (mem : (P, nmL X) ∈ T) (one : ∀ p ∈ T, p.1 = P → p.2 = nmL X) (rm : Room (k + 2) X.A) (L : LamX.LamS X.env.scope sc) (df : defaultsOf args X.env = ([], []))
    (bi : ∀ (q : Str) (cl : List (Str × Addr)) (pm cv ctv : Value), bindArgs (PySem.W.kla_fn "<lambda>" q args bd sc cl pm cv ctv) ⟨[], []⟩ = pure [])
    (hb : ∀ (A : Around) (outer : List Env) (s : Shared) (H : Hp) (E : XK) (f d : Addr), Room k (A.deeper (LamX.lamEnv X sc s.heap.objs.size f d)) → PE (LamX.lamCx X A outer s H E sc f d) bd (t E))
    (dx : (x == ("__debug__" : Str)) = false := by decide) (da : (a == ("__debug__" : Str)) = false := by decide) (dc : (a == ("__classdict__" : Str)) = false := by decide) : PE X (.Call (.Name x p) [.Lambda args bd sc lp] [] pos) (tLam3 P T TT t) := by
  refine ⟨fun pins s σ H Q I h => wpAny_Call_Name_kw (ld_glob I gl gm (PySem.W.callWith_K (h₀ := X.base) I.ok.mod.kin gk ?_ (by rfl) (by rfl)) dx)⟩
  show wpAny _ _ (spliced ((false, eval (.Lambda args bd sc lp) X.env) :: backTo pos (starEach [] X.env))) _ _ s
  refine Calls.spliced_cons (lam3 I TB cd mem one h.1 df (L.has I.ok) fun f d pm' ct' H1 s1 I1 bt T1 of nf ns hd => Calls.spliced_nil ⟨I1.kIn, ?_⟩)
  have run : codeAny (model X.prog X.w) X.A (.call (.ref g) ⟨[.ref f], []⟩) (CR C8.CX0 X.stack X.prog X.w H1 s1 Q C8.E0) s1 := LamX.run_ofS (N := Ng) (ps := [a]) (us := [.ref f]) (vs := [.ref f]) lk ci Sg rm I1.env0 (gb s1 [.ref f] I1.kIn rfl) (.cons rfl .nil) rfl fun rm' => by
    obtain ⟨t', k1, k2⟩ := GT f d s1 H1 Q (fun E H' Q' => t E σ H' Q') (fun W pn xe E p1 p2 tk hW => LamX.pe_act (i := 0) I1 L of nf ns (bi _ _ _ _ _) tk hW rm' (fun A outer s H r2 => hb A outer s H E f d r2) h0 va da dc) hd (h.2 H1 bt T1)
    exact ⟨t', k1.nox, k2⟩
  refine wpAny_call (codeAny_mono run fun r s2 z => ?_)
  match r, z with
  | .error e, z => exact (show False from z).elim
  | .ok (.ret u), z => exact I1.after z
  | .ok .next, z => exact False.elim z
  | .ok .brk, z => exact False.elim z
  | .ok .cont, z => exact False.elim z
end
/-! ### the def that asks: try: return ("told", ask()) / except .. as e: return (e.f, ..) -/
def tsO (K : PySem.W.Frag) (i n : Nat) (c : Cs) : Addr → Value → Option Addr → TS := fun a cls d D σ H => σ.length = n → tsOf K i c a cls d D σ H
def lOf (mg : Str → Option Value) (K : PySem.W.Frag) (i n : Nat) (cl : List Cs) : List Cl := cl.map fun c => (c.ns.map fun x => (mg x).getD .none, tsO K i n c)
theorem all2_eq {mg : Str → Option Value} : ∀ {xs : List Str} {cs : List Value}, All2 mg xs cs → cs = xs.map fun x => (mg x).getD .none
  | _, _, .nil => rfl
  | _, _, .cons h r => by rw [List.map_cons, ← all2_eq r, h]; rfl
theorem all2_mk {mg : Str → Option Value} : ∀ {xs : List Str}, (∀ x ∈ xs, ∃ v, mg x = some v) → All2 mg xs (xs.map fun x => (mg x).getD .none)
  | [], _ => .nil
  | x :: xs, h => by
    obtain ⟨v, e⟩ := h x (by simp)
    exact .cons (by dsimp only; rw [e]; rfl) (all2_mk fun y hy => h y (by simp [hy]))
section
variable {X : Cx} {n : Str} {i : Nat}
theorem hds_of2 (hN : X.N[i]? = some n) (hv : Vis X.env.scope n) (hd : (n == ("__debug__" : Str)) = false) (hcd : (n == ("__classdict__" : Str)) = false) : ∀ (cl : List Cs), (∀ c ∈ cl, TestN X c.t c.ns ∧ ∀ x ∈ c.ns, ∃ v, X.mg x = some v) →
    HdsT X n (cl.map (Cs.hd n)) (lOf X.mg X.K i X.N.length cl)
  | [], _ => .nil
  | c :: cl, h => by
    have h1 := hds_of2 hN hv hd hcd cl fun d hd => h d (by simp [hd])
    obtain ⟨t1, t2⟩ := h c (by simp)
    obtain ⟨cs, k1, k2⟩ := t1.ok t2
    rw [all2_eq k2] at k1
    refine .cons k1 (fun a oe cls d pn hz hf => ⟨fun pins s σ H D I q => ?_⟩) h1
    exact (pss_cons (ps_ret (pe_tup (pa_flds hN hv hd hcd hz hf c.fl))) pss_nil).run pins s σ H D I (q I.len)
end
theorem lOf_ok {mg : Str → Option Value} {K : PySem.W.Frag} {i n : Nat} : ∀ {cl : List Cs}, (∀ c ∈ cl, ∀ x ∈ c.ns, ∃ v, mg x = some v) → ∀ e ∈ cl.zip (lOf mg K i n cl), All2 mg e.1.ns e.2.1 ∧ e.2.2 = tsO K i n e.1
  | [], _ => fun e he => by cases he
  | c :: cl, h => fun e he => by
    unfold lOf at he
    rw [List.map_cons, List.zip_cons_cons] at he
    rcases List.mem_cons.mp he with rfl | he
    · exact ⟨all2_mk (h c (by simp)), rfl⟩
    · exact lOf_ok (fun d hd => h d (by simp [hd])) e he
def eGo (anc : List Str) (c : Str) (fs : List (Str × Dt)) (cl : List (List Str × List Str)) : FE := fun ρ => match tryGo anc c fs cl ρ with
  | some (.rt (.sh d), ρ1) => some (.ok d, ρ1)
  | _ => none
def eWhy (tab : List (Str × List Str)) (cl : List (List Str × List Str)) (fe : FE) : FE := fun ρ => match fe ρ with
  | none => none
  | some (.ok d, ρ1) => some (.ok (.tup [.str "told", d]), ρ1)
  | some (.ex c fs, ρ1) => (match tab.lookup c with
    | some anc => eGo anc c fs cl ρ1
    | none => none)
def TWhy (K : PySem.W.Frag) (i : Nat) (l : List Cl) : (XK → Hp → VK → Prop) → Hp → VK → Prop := fun tl H Q =>
  tl (fun cls d H' => ∀ σ' : L2.St, wManyT K (fun _ _ _ _ => False) { nx := fun _ H' => Q .non H', rt := Q } i l cls d σ' H') H (fun v H' => 2 ≤ sizeLine ∧ ∀ p, H' p = none → Q (.ref p) (upd H' p (.tup [.str "told", v])))
section
variable {X : Cx}
theorem why_gives {Ng : List Str} {x a n q : Str} {sg : Scope} {g : Addr} {cdg : Value} {i : Nat} {l : List Cl} {h0 : ExceptHandler} {hds : List ExceptHandler} {j j2 : Nat} {p0 p1 p2 p3 p4 p8 : Pos} (hf0 : ∀ f : Addr, (L2.start Ng [V.ref f])[0]? = some (some (V.ref f))) (nd : Ng.Nodup) (hi : Ng[i]? = some n)
    (kl : ∀ (s : Shared) (H : Hp), (cxOf C8.CX0 X.prog X.w X.K X.mg X.base Ng x sg g cdg X.A X.stack s H C8.E0).env.kindOf n = some .local) (hh : ∀ (s : Shared) (H : Hp), HdsT (cxOf C8.CX0 X.prog X.w X.K X.mg X.base Ng x sg g cdg X.A X.stack s H C8.E0).nox n (h0 :: hds) l) :
    LamX.GivesTo X Ng x sg g cdg [.Try [.Return (some (.Tuple [.Constant (.str "told") j p0, .Call (.Name a p1) [] [] p2] j2 p3)) p4] (h0 :: hds) [] [] p8] a q (TWhy X.K i l) := by
  intro f d s H Q tl act hc h
  refine ⟨_, pss_one (ps_try_tup (X := (cxOf C8.CX0 X.prog X.w X.K X.mg X.base Ng x sg g cdg X.A X.stack s H C8.E0).nox) (i := i) (n := n) (l := l)
      (tb := fun W D σ H => ∃ Ech : XK, (∀ cls d σ' H', Ech cls d H' → W cls d σ' H') ∧ σ[0]? = some (some (.ref f)) ∧ H d = some (LamX.CodeO d q) ∧ tl Ech H (fun v H' => 2 ≤ sizeLine ∧ ∀ p, H' p = none → D.rt (.ref p) (upd H' p (.tup [.str "told", v]))))
      rfl rfl nd hi (kl s H) LamX.takes0 (fun W pn xe tk _ => ?_) (hh s H)), ?_⟩
  · refine ⟨fun pins s' σ H' D I h' => ?_⟩
    obtain ⟨Ech, hW, h1, h2, h3⟩ := h'
    exact (pss_one (ps_ret (pos := p4) (pe_tup (pa_cons pe_str (pa_cons (act W pn xe Ech p1 p2 tk hW) pa_nil))))).run pins s' σ H' D I ⟨h1, h2, h3⟩
  · exact ⟨_, fun cls d σ' H' z => z σ', hf0 f, hc, h⟩
end
/-! ### the rule -/
theorem Rel.tabs {K : PySem.W.Frag} {P : Pt} {F H H1 : Hp} {σ : L2.St} {ρ : Rho} {Pa : Addr} {q : Str} (R : Rel K P F H σ ρ) (hT : P.T = [(Pa, q)]) (h0 : P.H0 Pa = none) (bt : ButT Pa H H1) (t1 : LamX.Tabs P.T H1) : Rel K P F H1 σ ρ := by
  have mem : (Pa, q) ∈ P.T := by rw [hT]; exact List.mem_cons_self
  have fP := (R.tb _ mem).1
  obtain ⟨ps, hP, _⟩ := (R.tb _ mem).2
  refine ⟨fun b o e => bt b o (fun z => by subst z; rw [fP] at e; cases e) (R.fh b o e), R.f0, fun b o e nb => bt b o (fun z => by subst z; rw [h0] at e; cases e) (R.keep b o e nb), R.new, R.len, fun i w h => ?_, R.sep, R.bor, fun t ht => ⟨(R.tb t ht).1, t1 t ht⟩⟩
  obtain ⟨v, ev, sw⟩ := R.slot i w h
  refine ⟨v, ev, ?_⟩
  cases w with
  | sh d => exact sw
  | own xs =>
    obtain ⟨p, vs, a1, a2, a3, a4, a5⟩ := sw
    exact ⟨p, vs, a1, a2, bt p _ (fun z => by subst z; rw [hP] at a3; cases a3) a3, a4, a5⟩
theorem eGo_cons (anc : List Str) (c : Str) (fs : List (Str × Dt)) (ns fl : List Str) (r : List (List Str × List Str)) (ρ : Rho) : eGo anc c fs ((ns, fl) :: r) ρ = if ns.any anc.contains = true then (match lookAll fs fl with
      | some ds => if ds.length ≤ 1000 then some (.ok (.tup ds), ρ) else none
      | none => none) else eGo anc c fs r ρ := by
  unfold eGo
  rw [tryGo_cons]
  by_cases h : ns.any anc.contains = true
  · rw [if_pos h, if_pos h]
    cases lookAll fs fl with
    | none => rfl
    | some ds => by_cases hl : ds.length ≤ 1000 <;> simp only [hl, if_true, if_false]
  · rw [if_neg h, if_neg h]
theorem many_why {K : PySem.W.Frag} {P : Pt} {Wx : WX} {mg : Str → Option Value} {Q : VK} {F F' : Hp} {H' : Hp} {σ : L2.St} {ρ1 : Rho} {cls : Value} {dd : Option Addr} {c : Str} {fs : List (Str × Dt)} {anc : List Str} {C : Addr} {i n : Nat} (hF : Same F F') (r : Rel K P F' H' σ ρ1) (hl : i < n)
    (eC : cls = .ref C) (hC : PySem.W.nsIn K mainGlobals c = some (some (.ref C))) {a : Addr} {gs : List (Str × V)} (ed : dd = some a) (ea : F' a = some (.xd gs)) (g1 : gs.map (·.1) = fs.map (·.1)) (g2 : Rps K F' (fs.map (·.2)) (gs.map (·.2))) (T : XfC K C) (σ' : L2.St) :
    ∀ (cl : List Cs) (l : List Cl), l.length = cl.length → (∀ e ∈ cl.zip l, All2 mg e.1.ns e.2.1 ∧ e.2.2 = tsO K i n e.1) →
      (∀ e ∈ cl, (e.ns.any anc.contains = true → ∀ f ∈ e.fl.map (·.1), PySem.W.findIn K (.ref C) f = some none) ∧ ∀ cs, All2 mg e.ns cs → PySem.W.exmAny K (.ref C) cs = some (e.ns.any anc.contains)) →
      postE K P Wx σ F Q (eGo anc c fs (cl.map fun c => (c.ns, c.fl.map (·.1))) ρ1) → wManyT K (fun _ _ _ _ => False) { nx := fun _ H' => Q .non H', rt := Q } i l cls dd σ' H'
  | [], [], _, _, _, q => q.elim
  | [], _ :: _, e, _, _, _ => by cases e
  | _ :: _, [], e, _, _, _ => by cases e
  | e :: cl, (cs, ts) :: l, hln, hz, hs, q => by
    obtain ⟨z1, z2⟩ := hz (e, (cs, ts)) (by simp)
    obtain ⟨s1, s2⟩ := hs e (by simp)
    dsimp only at z1 z2
    subst z2 eC
    rw [List.map_cons, eGo_cons] at q
    refine ⟨_, s2 cs z1, fun hb x nx hlen => ?_, fun hb => ?_⟩
    · rw [if_pos hb] at q
      split at q
      · rename_i ds e1
        split at q
        · rename_i hle
          obtain ⟨vs, b1, b2⟩ := looks_all g1 g2 e1
          refine ⟨?_, C, a, gs, vs, rfl, T, fun f hf => s1 hb f.1 (List.mem_map_of_mem hf), ed, r.fh _ _ ea, ?_, by rw [← b2.length]; exact sz1000 (Nat.le_trans hle (by decide)), fun p np => ?_⟩
          · rw [List.length_set] at hlen
            rw [List.getElem?_set_self (by rw [hlen]; exact hl)]
          · rw [← b1, List.map_map]; rfl
          · have g := Grow.lay (o := .tup vs) r.fh np
            exact q _ _ (.ref p) (hF.trans g.f) (r.grow g) (.tup (.inl (.inl upd_same)) (b2.mono g.f))
        · exact q.elim
      · exact q.elim
    · rw [if_neg (by rw [hb]; decide)] at q
      exact many_why hF r hl rfl hC ed ea g1 g2 T σ' cl l (by simpa using hln) (fun x hx => hz x (by rw [List.zip_cons_cons]; exact List.mem_cons_of_mem _ hx)) (fun x hx => hs x (by simp [hx])) q
/-- the classes that a clause names, by the scope alone -/
inductive TestS (sg : Scope) : Expr → List Str → Prop
  | one {x : Str} {np : Pos} : sg.names.lookup x = some .globalImplicit → (x == ("__debug__" : Str)) = false → TestS sg (.Name x np) [x]
  | tup {l : List (Str × Pos)} {j : Nat} {np : Pos} : l.length ≤ 1000 → (∀ e ∈ l, sg.names.lookup e.1 = some .globalImplicit ∧ (e.1 == ("__debug__" : Str)) = false) → TestS sg (.Tuple (l.map fun e => .Name e.1 e.2) j np) (l.map (·.1))
theorem TestS.to {X : Cx} {sg : Scope} {Ng : List Str} {x : Str} {g : Addr} {cdv : Value} {s : Shared} {H : Hp} {t : Expr} {ns : List Str} (h : TestS sg t ns) : TestN (cxOf C8.CX0 X.prog X.w X.K X.mg X.base Ng x sg g cdv X.A X.stack s H C8.E0).nox t ns := by
  cases h with
  | one h1 h2 => exact .one h1 h2
  | tup h1 h2 => exact .tup h1 h2
structure WhyS (st : Stmt) (a n : Str) (Ng : List Str) (i : Nat) (cl : List Cs) : Prop where
  bd : ∃ (j j2 : Nat) (p0 p1 p2 p3 p4 p8 : Pos) (h0 : ExceptHandler) (hds : List ExceptHandler), h0 :: hds = cl.map (Cs.hd n) ∧ defBody st = [.Try [.Return (some (.Tuple [.Constant (.str "told") j p0, .Call (.Name a p1) [] [] p2] j2 p3)) p4] (h0 :: hds) [] [] p8]
  sc : FnScope Ng [a] (defScope st)
  nd : Ng.Nodup
  na : Ng[0]? = some a
  nn : Ng[i]? = some n
  va : Vis (defScope st) a
  vn : Vis (defScope st) n
  ln : (defScope st).names.lookup n = some .local
  ts : ∀ c ∈ cl, TestS (defScope st) c.t c.ns
  d1 : (n == ("__debug__" : Str)) = false
  d2 : (n == ("__classdict__" : Str)) = false
/-- the law's own code table -/
structure TabX (X : Cx) (P : Pt) : Prop where
  ex : ∃ c Pa, LamX.TabB X.base X.mg c Pa ∧ X.env.code = .ref c ∧ P.T = [(Pa, nmL X)] ∧ P.H0 Pa = none
theorem start_len {N : List Str} {vs : List V} (h : vs.length ≤ N.length) : (L2.start N vs).length = N.length := by
  unfold L2.start
  rw [List.length_append, List.length_map, List.length_replicate]
  omega
section
variable {X : Cx} {P : Pt} {Wx : WX} {k : Nat} {fe : FE} {x a n : Str} {st : Stmt} {Ng : List Str} {i : Nat} {cl : List Cs} {tab : List (Str × List Str)} {args : Arguments} {bd : Expr} {sc : Scope} {p lp pos : Pos}
theorem d_why (D : DefAt X.K X.mg x st [a]) (A : TryAt X.K X.mg tab (cl.map fun c => (c.ns, c.fl.map (·.1)))) (S : WhyS st a n Ng i cl) (TX : TabX X P) (gl : Gl X x) (rm : Room (k + 2) X.A) (L : LamX.LamS X.env.scope sc) (df : defaultsOf args X.env = ([], []))
    (bi : ∀ (q : Str) (cl : List (Str × Addr)) (pm cv ctv : Value), bindArgs (PySem.W.kla_fn "<lambda>" q args bd sc cl pm cv ctv) ⟨[], []⟩ = pure [])
    (hb : ∀ (A : Around) (outer : List Env) (s : Shared) (H : Hp) (E : XK) (f d : Addr), Room k (A.deeper (LamX.lamEnv X sc s.heap.objs.size f d)) → PE (LamX.lamCx X A outer s H E sc f d) bd (LE X.K P (fun cls d _ H => E cls d H) fe))
    (dx : (x == ("__debug__" : Str)) = false := by decide) (da : (a == ("__debug__" : Str)) = false := by decide) (dc : (a == ("__classdict__" : Str)) = false := by decide) :
    PE X (.Call (.Name x p) [.Lambda args bd sc lp] [] pos) (LE X.K P Wx (eWhy tab (cl.map fun c => (c.ns, c.fl.map (·.1))) fe)) := by
  obtain ⟨g, fd, Fg, gm, gb, gn⟩ := D.ex
  obtain ⟨oc, od, kV, doc, pm, an, cdv, ct, osl, rfl, lk, ci⟩ := Fg.ex
  obtain ⟨c, Pa, TB, cd, hT, h0P⟩ := TX.ex
  obtain ⟨j, j2, p0, p1, p2, p3, p4, p8, hd0, hds, he, hbd⟩ := S.bd
  rw [hbd] at lk gb
  have hin : i < Ng.length := (List.getElem?_eq_some_iff.mp S.nn).1
  have hts : ∀ (s : Shared) (H : Hp) (c : Cs), c ∈ cl → TestN (cxOf C8.CX0 X.prog X.w X.K X.mg X.base Ng x (defScope st) g cdv X.A X.stack s H C8.E0).nox c.t c.ns := fun s H c hc => by
    exact TestS.to (S.ts c hc)
  have hmg : ∀ c ∈ cl, ∀ x ∈ c.ns, ∃ v, X.mg x = some v := fun c hc x hx => A.mgc (c.ns, c.fl.map (·.1)) (List.mem_map.mpr ⟨c, hc, rfl⟩) x hx
  refine PEm (pe_lam3 (T := P.T) (TT := TWhy X.K i (lOf X.mg X.K i Ng.length cl)) (k := k) (t := fun E => LE X.K P (fun cls d _ H => E cls d H) fe) gl gm Fg.kp lk ci gb S.sc S.na S.va (why_gives (fun f => ?_) S.nd S.nn (fun s H => S.ln) fun s H => ?_) TB cd (by rw [hT]; exact List.mem_cons_self) (fun p hp _ => by rw [hT] at hp; rw [List.mem_singleton.mp hp]) rm L df bi (fun A outer s H E f d r => hb A outer s H E f d r) dx da dc) fun σ H Q h => ?_
  · obtain ⟨v, e⟩ : ∃ v, Ng = v :: Ng.tail := by
      cases Ng with
      | nil => cases S.na
      | cons v r => exact ⟨v, rfl⟩
    rw [e]; rfl
  · rw [he]
    exact hds_of2 (X := (cxOf C8.CX0 X.prog X.w X.K X.mg X.base Ng x (defScope st) g cdv X.A X.stack s H C8.E0).nox) S.nn S.vn S.d1 S.d2 cl fun c hc => ⟨hts s H c hc, hmg c hc⟩
  · obtain ⟨F, ρ, r, q⟩ := h
    refine ⟨fun t ht => (r.tb t ht).2, fun H1 bt t1 => ⟨F, ρ, r.tabs hT h0P bt t1, ?_⟩⟩
    unfold eWhy at q
    match e : fe ρ with
    | none => rw [e] at q; exact q.elim
    | some (.ok d, ρ1) =>
      rw [e] at q
      intro F' H' v s1 r1 pv
      refine ⟨sz1000 (by decide), fun p np => ?_⟩
      have g := Grow.lay (o := .tup [.str "told", v]) r1.fh np
      exact q _ _ (.ref p) (s1.trans g.f) (r1.grow g) (.tup (.inl (.inl upd_same)) (.cons (.str _) (.cons (pv.mono g.f) .nil)))
    | some (.ex c fs, ρ1) =>
      rw [e] at q
      dsimp only at q
      cases et : tab.lookup c with
      | none => rw [et] at q; exact q.elim
      | some anc =>
        rw [et] at q
        dsimp only at q
        intro F' H' cls dd s1 r1 xp σ'
        obtain ⟨⟨C, eC, hC⟩, a, gs, ed, ea, g1, g2⟩ := xp
        obtain ⟨T, hsub⟩ := A.sub c anc et C hC
        exact many_why s1 r1 hin eC hC ed ea g1 g2 T σ' cl _ (by unfold lOf; rw [List.length_map]) (lOf_ok hmg) (fun x hx => hsub (x.ns, x.fl.map (·.1)) (List.mem_map.mpr ⟨x, hx, rfl⟩)) q
end
end DL
namespace DL
open PySem PySem.Spec PyProof.Rows L2 RZ
/-! ### the asking def out of its text -/
def nmE : Expr → Str × Pos
  | .Name x p => (x, p)
  | _ => ("", ⟨0, 0, 0, 0⟩)
def nsE : Expr → List Str
  | .Name x _ => [x]
  | .Tuple es _ _ => (es.map nmE).map (·.1)
  | _ => []
def fdE : Expr → Fd
  | .Attribute (.Name _ p) f p2 => (f, p, p2)
  | _ => ("", ⟨0, 0, 0, 0⟩, ⟨0, 0, 0, 0⟩)
def csE : ExceptHandler → Cs
  | .ExceptHandler (some t) _ [.Return (some (.Tuple es j p1)) p2] p3 => ⟨t, nsE t, es.map fdE, j, p1, p2, p3⟩
  | _ => ⟨.Constant .none 0 ⟨0, 0, 0, 0⟩, [], [], 0, ⟨0, 0, 0, 0⟩, ⟨0, 0, 0, 0⟩, ⟨0, 0, 0, 0⟩⟩
def hdsE : List Stmt → List ExceptHandler
  | [.Try _ hs _ _ _] => hs
  | _ => []
def csAll (st : Stmt) : List Cs := (hdsE (defBody st)).map csE
def glB (sg : Scope) (x : Str) : Bool := decide (sg.names.lookup x = some .globalImplicit) && !(x == ("__debug__" : Str))
def isNm : Expr → Bool
  | .Name _ _ => true
  | _ => false
def testB (sg : Scope) : Expr → Bool
  | .Name x _ => glB sg x
  | .Tuple es _ _ => decide (es.length ≤ 1000) && es.all isNm && (es.map nmE).all fun e => glB sg e.1
  | _ => false
theorem glB_ok {sg : Scope} {x : Str} (h : glB sg x = true) : sg.names.lookup x = some .globalImplicit ∧ (x == ("__debug__" : Str)) = false := by
  unfold glB at h
  simp only [Bool.and_eq_true, decide_eq_true_eq, Bool.not_eq_true'] at h
  exact h
theorem nm_back : ∀ {es : List Expr}, es.all isNm = true → (es.map nmE).map (fun e => Expr.Name e.1 e.2) = es
  | [], _ => rfl
  | e :: es, h => by
    rw [List.all_cons, Bool.and_eq_true] at h
    obtain ⟨h1, h2⟩ := h
    cases e with
    | Name x p => rw [List.map_cons, List.map_cons, nm_back h2]; rfl
    | _ => cases h1
theorem testB_ok {sg : Scope} {t : Expr} (h : testB sg t = true) : TestS sg t (nsE t) := by
  cases t with
  | Name x p => exact .one (glB_ok h).1 (glB_ok h).2
  | Tuple es j p =>
    unfold testB at h
    simp only [Bool.and_eq_true, decide_eq_true_eq] at h
    obtain ⟨⟨h1, h2⟩, h3⟩ := h
    have e := nm_back h2
    have k : TestS sg (.Tuple ((es.map nmE).map fun e => .Name e.1 e.2) j p) ((es.map nmE).map (·.1)) := .tup (by rw [List.length_map]; exact h1) fun e he => glB_ok (List.all_eq_true.mp h3 e he)
    rw [e] at k
    exact k
  | _ => cases h
theorem ts_all {st : Stmt} (h : ((csAll st).all fun c => decide (c.ns = nsE c.t) && testB (defScope st) c.t) = true) : ∀ c ∈ csAll st, TestS (defScope st) c.t c.ns := fun c hc => by
  have k := List.all_eq_true.mp h c hc
  simp only [Bool.and_eq_true, decide_eq_true_eq] at k
  rw [k.1]
  exact testB_ok k.2
/-- the asking def, as the laws lean on it -/
structure WhyAt (K : PySem.W.Frag) (mg : Str → Option Value) (x : Str) (tab : List (Str × List Str)) (cn : List (List Str × List Str)) : Prop where
  ex : ∃ (st : Stmt) (a n : Str) (Ng : List Str) (i : Nat) (cl : List Cs), DefAt K mg x st [a] ∧ TryAt K mg tab cn ∧ WhyS st a n Ng i cl ∧ (cl.map fun c => (c.ns, c.fl.map (·.1))) = cn ∧ (x == ("__debug__" : Str)) = false ∧ (a == ("__debug__" : Str)) = false ∧ (a == ("__classdict__" : Str)) = false
section
variable {X : Cx} {P : Pt} {Wx : WX} {k : Nat} {fe : FE} {x : Str} {tab : List (Str × List Str)} {cn : List (List Str × List Str)} {args : Arguments} {bd : Expr} {sc : Scope} {p lp pos : Pos}
theorem d_whyA (W : WhyAt X.K X.mg x tab cn) (TX : TabX X P) (rm : Room (k + 2) X.A) (gl : Gl X x) (L : LamX.LamS X.env.scope sc)
    (hb : ∀ (A : Around) (outer : List Env) (s : Shared) (H : Hp) (E : XK) (f d : Addr), Room k (A.deeper (LamX.lamEnv X sc s.heap.objs.size f d)) → PE (LamX.lamCx X A outer s H E sc f d) bd (LE X.K P (fun cls d _ H => E cls d H) fe))
    (df : defaultsOf args X.env = ([], []) := by rfl) (bi : ∀ (q : Str) (cl : List (Str × Addr)) (pm cv ctv : Value), bindArgs (PySem.W.kla_fn "<lambda>" q args bd sc cl pm cv ctv) ⟨[], []⟩ = pure [] := by intros; rfl) :
    PE X (.Call (.Name x p) [.Lambda args bd sc lp] [] pos) (LE X.K P Wx (eWhy tab cn fe)) := by
  obtain ⟨st, a, n, Ng, i, cl, D, A, S, rfl, dx, da, dc⟩ := W.ex
  exact d_why D A S TX gl rm L df bi hb dx da dc
end
/-! ### the classes of the clauses, out of the written part -/
open PySem.W in
def valK (K : PySem.W.Frag) (x : Str) : Option Value := match nsIn K mainGlobals x with
  | some (some v) => some v
  | _ => none
open PySem.W in
def tryB (K : PySem.W.Frag) (tab : List (Str × List Str)) (cn : List (List Str × List Str)) : Bool :=
  (cn.all fun e => e.1.all fun x => (valK K x).isSome) && tab.all fun t => match valK K t.1 with
    | some (.ref C) => xfB K C && cn.all fun e => (!(e.1.any t.2.contains) || e.2.all fun f => decide (findIn K (.ref C) f = some none)) && decide (exmAny K (.ref C) (e.1.map fun x => (valK K x).getD .none) = some (e.1.any t.2.contains))
    | _ => false
open PySem.W in
theorem valK_mg {K : PySem.W.Frag} {h : Heap} {mg : Str → Option Value} {x : Str} {v : Value} (X : K.In h) (G : h.Ns mainGlobals mg) (e : valK K x = some v) : mg x = some v := by
  unfold valK at e
  split at e
  · rename_i u q; cases e; exact mg_of X G q
  · cases e
theorem lookup_memK {α β : Type} [BEq α] [LawfulBEq α] : ∀ {l : List (α × β)} {a : α} {b : β}, l.lookup a = some b → (a, b) ∈ l
  | [], _, _, h => by cases h
  | (c, d) :: l, a, b, h => by
    unfold List.lookup at h
    cases e : a == c with
    | true => rw [e] at h; cases h; rw [eq_of_beq e]; exact List.mem_cons_self
    | false => rw [e] at h; exact List.mem_cons_of_mem _ (lookup_memK h)
open PySem.W in
theorem tryB_ok {K : PySem.W.Frag} {h : Heap} {mg : Str → Option Value} {tab : List (Str × List Str)} {cn : List (List Str × List Str)} (X : K.In h) (G : h.Ns mainGlobals mg) (hb : tryB K tab cn = true) : TryAt K mg tab cn := by
  unfold tryB at hb
  rw [Bool.and_eq_true] at hb
  obtain ⟨h1, h2⟩ := hb
  have mgc : ∀ e ∈ cn, ∀ x ∈ e.1, ∃ c, valK K x = some c := fun e he x hx => by
    have k := List.all_eq_true.mp (List.all_eq_true.mp h1 e he) x hx
    exact Option.isSome_iff_exists.mp k
  refine ⟨fun e he x hx => (mgc e he x hx).elim fun c hc => ⟨c, valK_mg X G hc⟩, fun c anc hl C hC => ?_⟩
  have k := List.all_eq_true.mp h2 (c, anc) (lookup_memK hl)
  have eC : valK K c = some (.ref C) := by unfold valK; rw [hC]
  dsimp only at k
  rw [eC] at k
  dsimp only at k
  rw [Bool.and_eq_true] at k
  refine ⟨xfB_ok k.1, fun e he => ?_⟩
  have k2 := List.all_eq_true.mp k.2 e he
  simp only [Bool.and_eq_true, Bool.or_eq_true, Bool.not_eq_true', decide_eq_true_eq, List.all_eq_true] at k2
  refine ⟨fun ha f hf => ?_, fun cs hcs => ?_⟩
  · rcases k2.1 with z | z
    · rw [ha] at z; cases z
    · exact z f hf
  · have ec : cs = e.1.map fun x => (valK K x).getD .none := by
      rw [all2_eq hcs]
      refine List.map_congr_left fun x hx => ?_
      obtain ⟨v, hv⟩ := mgc e he x hx
      rw [hv, valK_mg X G hv]
    rw [ec]
    exact k2.2
/-! ### an own exception class out of the written part -/
theorem ex_mk {P : Program} {w : World} {K : PySem.W.Frag} {h base : Heap} {mg : Str → Option Value} {x qual : Str} {st : Stmt} {ps : List Str} {C fI : Addr} {k n : Nat} {f : Str} {u : V ⊕ Nat} {r : List (Str × (V ⊕ Nat))} {oc : Value} {od an : Option Addr} {osl : Array (Option Value)} {kV doc pm cdv ct : Value} (X : K.In h) (G : h.Ns mainGlobals mg)
    (T : OexC K C) (a : PySem.W.nsIn K mainGlobals x = some (some (.ref C))) (i : PySem.W.findIn K (.ref C) "__init__" = some (some (.ref fI))) (t : PySem.W.typeIn K (.ref fI) = some (.type "function"))
    (l : K.lookup fI = some ⟨oc, od, .func (PySem.W.fnOf "__init__" qual (defArgs st) (defBody st) (defScope st) .none kV doc pm an cdv ct), osl⟩) (c : PySem.W.codeIn K cdv qual = true) (kp : PySem.W.keepIn K (.ref fI) = true)
    (hb : ∀ (kV doc pm : Value) (an : Option Addr) (cdv ct : Value) (us : List Value), us.length = ps.length → bindArgs (PySem.W.fnOf "__init__" qual (defArgs st) (defBody st) (defScope st) .none kV doc pm an cdv ct) ⟨us, []⟩ = pure (ps.zip us))
    (hl : ∀ e ∈ (f, u) :: r, PySem.W.findIn K (.ref C) e.1 = some none ∧ okI (n + 1) e.2)
    (S : FnScope ps ps (defScope st)) (hp : ps.length = n + 1) (hn : r.length ≤ 800) (bd : ∀ (cdv : Value) (A : Around) (outer : List Env) (s : Shared) (H : Hp) (E : XK), PSs (cxOf (L2.CX P w) P w K mg base ps qual (defScope st) fI cdv A outer s H E) (defBody st) (tInit K ((f, u) :: r))) :
    ExAt P w K mg base (k + 1) x n ((f, u) :: r) :=
  have F := fun_mk (st := st) l c kp
  ⟨C, fI, _, ps, T, i, t, init_ok F S T hp hl hn bd, F.binds hb, PySem.W.mg_of X G a, a⟩
instance p_raise0 {x : Str} {fs : List (Str × Dt)} : WpS (sRaise0 x fs) := ⟨fun _ _ _ => False, fun h => h.elim, fun h _ _ => h.elim⟩
/-! ### the law's own def, with its code table -/
def spT (K : PySem.W.Frag) (Pa : Addr) (q : Str) (g : FnD) : Sp := fun vs H Q _ => ∃ a ns, vs = [.ref a] ∧ SqL K H a (ns.map V.int) ∧ LamX.TabS H Pa q ∧ g [.sh (.scr ns)] = some (.ok (.sh (.bl true)), []) ∧ ∀ H', Q (.bl true) H'
def lessT (H : Hp) (Pa : Addr) : Hp := fun p => if p = Pa then none else H p
theorem lessT_same {H : Hp} {Pa : Addr} : Same (lessT H Pa) H := fun b o e => by
  unfold lessT at e
  split at e
  · cases e
  · exact e
theorem Rel.withT {K : PySem.W.Frag} {F0 H0 F H : Hp} {bs : List Nat} {ba : Nat → Addr} {σ : L2.St} {ρ : Rho} {T : List (Addr × Str)} (R : Rel K ⟨F0, H0, bs, ba, []⟩ F H σ ρ) (h : ∀ q ∈ T, F q.1 = none ∧ LamX.TabS H q.1 q.2) : Rel K ⟨F0, H0, bs, ba, T⟩ F H σ ρ where
  fh := R.fh
  f0 := R.f0
  keep := R.keep
  new := R.new
  len := R.len
  slot := fun i w e => by
    obtain ⟨v, ev, sw⟩ := R.slot i w e
    refine ⟨v, ev, ?_⟩
    cases w with
    | sh d => exact sw
    | own xs => exact sw
  sep := R.sep
  bor := R.bor
  tb := h
section
variable {P : Program} {w : World} {K : PySem.W.Frag} {mg : Str → Option Value} {base : Heap}
theorem fn_okT {x qual : Str} {st : Stmt} {f c Pa : Addr} {N ps : List Str} {k : Nat} {fb : FS} {oc : Value} {od an : Option Addr} {osl : Array (Option Value)} {dV kV doc pm ct : Value} {q : Str} (lk : K.lookup f = some ⟨oc, od, .func (PySem.W.fnOf x qual (defArgs st) (defBody st) (defScope st) dV kV doc pm an (.ref c) ct), osl⟩) (hcd : PySem.W.codeIn K (.ref c) qual = true) (S : FnScope N ps (defScope st)) (hp : ps.length = 1)
    (hb : ∀ (A : Around) (outer : List Env) (s : Shared) (H : Hp) (E : XK) (Z : Pt), (∀ j, j ∈ Z.bs → j ∈ ([] : List Nat)) → Z.T = [(Pa, q)] → Z.H0 Pa = none → Room k (A.deeper (envOfC qual (defScope st) s.heap.objs.size f (.ref c))) →
      PSs (cxOf (L2.CX P w) P w K mg base N qual (defScope st) f (.ref c) A outer s H E) (defBody st) (LS K Z (fun cls d _ H => E cls d H) fb)) :
    FnOk P w K mg base (L2.CX P w) (k + 1) f (PySem.W.fnOf x qual (defArgs st) (defBody st) (defScope st) dV kV doc pm an (.ref c) ct) ps (spT K Pa q (callF N.length [] fb)) := by
  refine fn_of lk hcd S (fun vs H Q E h => ?_) fun A outer s H vs Q E hr h => ?_
  · obtain ⟨a, ns, rfl, _⟩ := h
    rw [hp]; rfl
  · obtain ⟨a, ns, rfl, hS, hT, hg, hQ⟩ := h
    have hT0 := hT
    obtain ⟨ps', hP, _⟩ := hT0
    have ane : a ≠ Pa ∨ ∀ H' : Hp, SqL K H' a (ns.map V.int) := by
      rcases hS with (e | ⟨o, e⟩) | e
      · exact .inl fun z => by rw [z, hP] at e; cases e
      · exact .inl fun z => by rw [z, hP] at e; cases e
      · exact .inr fun _ => .inr e
    have hS' : SqL K (lessT H Pa) a (ns.map V.int) := by
      rcases ane with ne | h
      · have e0 : lessT H Pa a = H a := by unfold lessT; rw [if_neg ne]
        rcases hS with (e | ⟨o, e⟩) | e
        · exact .inl (.inl (e0.trans e))
        · exact .inl (.inr ⟨o, e0.trans e⟩)
        · exact .inr e
      · exact h _
    refine ⟨_, hb A outer s H E ⟨lessT H Pa, lessT H Pa, [], addrAt [.ref a], [(Pa, q)]⟩ (fun j hj => hj) rfl (if_pos rfl) hr, lessT H Pa, _, (rel_start (ws := [.sh (.scr ns)]) (.refl _) lessT_same (.sh (.scr hS') .nil) List.nodup_nil).withT (fun t ht => ?_), ?_⟩
    · rw [List.mem_singleton.mp ht]
      exact ⟨if_pos rfl, hT⟩
    · unfold callF at hg
      rw [if_pos (show ((ownPos 0 [Aw.sh (.scr ns)]).all fun j => ([] : List Nat).contains j) = true from rfl)] at hg
      match e : fb ([Aw.sh (.scr ns)].map (fun w => some w.wt) ++ List.replicate (N.length - [Aw.sh (.scr ns)].length) none) with
      | none => rw [e] at hg; cases hg
      | some (.nx, ρ) => rw [e] at hg; cases hg
      | some (.bk, ρ) => rw [e] at hg; cases hg
      | some (.ct, ρ) => rw [e] at hg; cases hg
      | some (.ex C fs, ρ) => rw [e] at hg; cases hg
      | some (.rt w, ρ) =>
        rw [e] at hg
        cases hg
        intro F' H' σ v s1 R rw'
        cases rw'
        exact hQ _
end
end DL
namespace Lw
open PySem PySem.Spec PyProof.Rows L2 RZ DL
/-! plain data of some depth: what it is to be compared -/
mutual
inductive Pl : Nat → Dt → Prop
  | non (n : Nat) : Pl n .non
  | bl (n : Nat) (b : Bool) : Pl n (.bl b)
  | int (n : Nat) (i : Int) : Pl n (.int i)
  | str (n : Nat) {x : Str} : PyData.strOk x = true → Pl n (.str x)
  | tup (n : Nat) {ds : List Dt} : Pls n ds → ds.length ≤ 1000 → Pl (n + 1) (.tup ds)
  | lst (n : Nat) {ds : List Dt} : Pls n ds → ds.length ≤ 1000 → Pl (n + 1) (.lst ds)
inductive Pls : Nat → List Dt → Prop
  | nil (n : Nat) : Pls n []
  | cons {n : Nat} {d : Dt} {ds : List Dt} : Pl n d → Pls n ds → Pls n (d :: ds)
end
mutual
theorem Pl.mono {n m : Nat} (h : n ≤ m) : ∀ {d : Dt}, Pl n d → Pl m d
  | _, .non _ => .non _
  | _, .bl _ b => .bl _ b
  | _, .int _ i => .int _ i
  | _, .str _ h => .str _ h
  | _, .tup k hs hl => by
    obtain ⟨j, rfl⟩ : ∃ j, m = j + 1 := ⟨m - 1, by omega⟩
    exact .tup j (Pls.mono (by omega) hs) hl
  | _, .lst k hs hl => by
    obtain ⟨j, rfl⟩ : ∃ j, m = j + 1 := ⟨m - 1, by omega⟩
    exact .lst j (Pls.mono (by omega) hs) hl
theorem Pls.mono {n m : Nat} (h : n ≤ m) : ∀ {ds : List Dt}, Pls n ds → Pls m ds
  | _, .nil _ => .nil _
  | _, .cons a r => .cons (Pl.mono h a) (Pls.mono h r)
end
mutual
theorem Pl.same : ∀ {n : Nat} {d : Dt}, Pl n d → Same1 n d
  | _, _, .non _ => .non _
  | _, _, .bl _ b => .bl _ b
  | _, _, .int _ i => .int _ i
  | _, _, .str _ h => .str _ _
  | _, _, .tup k hs hl => .tup k (Pls.same hs) hl
  | _, _, .lst k hs hl => .lst k (Pls.same hs) hl
theorem Pls.same : ∀ {n : Nat} {ds : List Dt}, Pls n ds → Same2 n ds
  | _, _, .nil _ => .nil _
  | _, _, .cons a r => .cons (Pl.same a) (Pls.same r)
end
mutual
theorem Pl.lay : ∀ {n : Nat} {d : Dt}, Pl n d → (toPy d).canLay0 = true ∧ (toPy d).depth ≤ n ∧ PyData.eqv (toPy d) (toPy d) = true
  | _, _, .non _ => ⟨rfl, Nat.zero_le _, rfl⟩
  | _, _, .bl _ b => ⟨rfl, Nat.zero_le _, by cases b <;> rfl⟩
  | _, _, .int _ i => ⟨rfl, Nat.zero_le _, by simp [toPy, PyData.eqv]⟩
  | _, _, .str _ h => ⟨by simpa [toPy, PyData.canLay0] using h, Nat.zero_le _, by simp [toPy, PyData.eqv]⟩
  | _, _, .tup k hs hl => by
    obtain ⟨a, b, c⟩ := Pls.lay hs
    exact ⟨by simpa [toPy, PyData.canLay0] using a, by simp only [toPy, PyData.depth]; omega, by simpa [toPy, PyData.eqv] using c⟩
  | _, _, .lst k hs hl => by
    obtain ⟨a, b, c⟩ := Pls.lay hs
    exact ⟨by simpa [toPy, PyData.canLay0] using a, by simp only [toPy, PyData.depth]; omega, by simpa [toPy, PyData.eqv] using c⟩
theorem Pls.lay : ∀ {n : Nat} {ds : List Dt}, Pls n ds → PyData.canLayAll0 (toPys ds) = true ∧ PyData.depthAll (toPys ds) ≤ n ∧ PyData.eqvAll (toPys ds) (toPys ds) = true
  | _, _, .nil _ => ⟨rfl, Nat.zero_le _, rfl⟩
  | _, _, .cons h r => by
    obtain ⟨a, b, c⟩ := Pl.lay h
    obtain ⟨a2, b2, c2⟩ := Pls.lay r
    refine ⟨?_, ?_, ?_⟩
    · simp only [toPys, PyData.canLayAll0, a, a2, Bool.and_self]
    · simp only [toPys, PyData.depthAll]; omega
    · simp only [toPys, PyData.eqvAll, c, c2, Bool.and_self]
end
theorem Pl.ok {n : Nat} {d : Dt} (h : Pl n d) (hn : n ≤ 60) : okPy d = true := by
  obtain ⟨a, b, _⟩ := h.lay
  unfold okPy SeqAt.shaped
  rw [a, decide_eq_true (by omega)]
  rfl
theorem Pl.eqB {n : Nat} {d : Dt} (h : Pl n d) (hn : n ≤ 60) : DL.eqB d d = some true := by
  have ho := h.ok hn
  have hr := h.lay.2.2
  cases h with
  | non => exact rfl
  | bl b => exact congrArg some (decide_eq_true rfl)
  | int i => exact congrArg some (decide_eq_true rfl)
  | str _ => exact congrArg some (decide_eq_true rfl)
  | tup hs hl =>
    rename_i ds _
    have e : DL.eqB (.tup ds) (.tup ds) = if okPy (.tup ds) = true ∧ okPy (.tup ds) = true then some (PyData.eqv (toPy (.tup ds)) (toPy (.tup ds))) else none := rfl
    rw [e, if_pos ⟨ho, ho⟩, hr]
  | lst hs hl =>
    rename_i ds _
    have e : DL.eqB (.lst ds) (.lst ds) = if okPy (.lst ds) = true ∧ okPy (.lst ds) = true then some (PyData.eqv (toPy (.lst ds)) (toPy (.lst ds))) else none := rfl
    rw [e, if_pos ⟨ho, ho⟩, hr]
/-! values and notes -/
theorem val_pl : ∀ {P : Rat → Prop} {n : Nat} {v : Val}, VIs P n v → Pl (n + 1) v.dt
  | _, _, _, .price n => .tup _ (.cons (.str _ (by decide +kernel)) (.nil _)) (by decide)
  | _, _, _, .coin n h => .tup _ (.cons (.str _ (by decide +kernel)) (.cons (.tup n (.cons (.int _ _) (.cons (.int _ _) (.nil _))) (Nat.le_of_ble_eq_true rfl)) (.nil _))) (Nat.le_of_ble_eq_true rfl)
  | _, _, _, .of n h hv => .tup _ (.cons (.str _ (by decide +kernel)) (.cons (.tup n (.cons (.int _ _) (.cons (.int _ _) (.nil _))) (Nat.le_of_ble_eq_true rfl)) (.cons (val_pl hv) (.nil _)))) (Nat.le_of_ble_eq_true rfl)
  | _, _, _, .pair n o hv hw => .tup _ (.cons (.str _ (by cases o <;> decide +kernel)) (.cons (val_pl hv) (.cons (val_pl hw) (.nil _)))) (Nat.le_of_ble_eq_true rfl)
theorem amt_pl (n : Nat) (q : Rat) : Pl (n + 1) (amR q) := .tup n (.cons (.int _ _) (.cons (.int _ _) (.nil _))) (Nat.le_of_ble_eq_true rfl)
/-- names that can be told, values of some depth -/
def Note.PN (k : Nat) : Note → Prop
  | .none => True
  | .pay _ v => VIs (fun _ => True) k v
  | .now v => VIs (fun _ => True) k v
  | .both a b => a.PN k ∧ b.PN k
  | .times _ a => a.PN k
  | .turn a => a.PN k
  | .till _ _ a b => a.PN k ∧ b.PN k
  | .may x _ _ _ s l => PyData.strOk x = true ∧ s.PN k ∧ l.PN k
  | .seen _ _ _ _ => True
  | .use x => PyData.strOk x = true
theorem note_pl {k : Nat} : ∀ {t : Note}, t.PN k → Pl (t.deep + k + 1) t.dt := by
  intro t
  induction t with
  | none => exact fun _ => .tup _ (.cons (.str _ (by decide +kernel)) (.nil _)) (by decide)
  | pay d v => exact fun h => (Pl.tup (k + 1) (.cons (.str _ (by decide +kernel)) (.cons (.int _ _) (.cons (val_pl h) (.nil _)))) (Nat.le_of_ble_eq_true rfl)).mono (by simp only [Note.deep]; omega)
  | now v => exact fun h => (Pl.tup (k + 1) (.cons (.str _ (by decide +kernel)) (.cons (val_pl h) (.nil _))) (Nat.le_of_ble_eq_true rfl)).mono (by simp only [Note.deep]; omega)
  | both a b ia ib => exact fun h => (Pl.tup (max a.deep b.deep + k + 1) (.cons (.str _ (by decide +kernel)) (.cons ((ia h.1).mono (by omega)) (.cons ((ib h.2).mono (by omega)) (.nil _)))) (Nat.le_of_ble_eq_true rfl)).mono (by simp only [Note.deep]; omega)
  | times r a ia => exact fun h => (Pl.tup (a.deep + k + 1) (.cons (.str _ (by decide +kernel)) (.cons (amt_pl _ _) (.cons (ia h) (.nil _)))) (Nat.le_of_ble_eq_true rfl)).mono (by simp only [Note.deep]; omega)
  | turn a ia => exact fun h => (Pl.tup (a.deep + k + 1) (.cons (.str _ (by decide +kernel)) (.cons (ia h) (.nil _))) (Nat.le_of_ble_eq_true rfl)).mono (by simp only [Note.deep]; omega)
  | till u l a b ia ib => exact fun h => (Pl.tup (max a.deep b.deep + k + 1) (.cons (.str _ (by decide +kernel)) (.cons (.str _ (by cases u <;> decide +kernel)) (.cons (amt_pl _ _) (.cons ((ia h.1).mono (by omega)) (.cons ((ib h.2).mono (by omega)) (.nil _)))))) (Nat.le_of_ble_eq_true rfl)).mono (by simp only [Note.deep]; omega)
  | may x o b e a c ia ib => exact fun h => (Pl.tup (max a.deep c.deep + k + 1) (.cons (.str _ (by decide +kernel)) (.cons (.str _ h.1) (.cons (.str _ (by cases o <;> decide +kernel)) (.cons (.int _ _) (.cons (.int _ _) (.cons ((ia h.2.1).mono (by omega)) (.cons ((ib h.2.2).mono (by omega)) (.nil _)))))))) (Nat.le_of_ble_eq_true rfl)).mono (by simp only [Note.deep]; omega)
  | seen w d s p =>
    intro _
    refine (Pl.tup (k + 1) (.cons (.str _ (by decide +kernel)) (.cons (.str _ (by cases w <;> decide +kernel)) (.cons (.int _ _) (.cons (amt_pl _ _) (.cons ?_ (.nil _)))))) (Nat.le_of_ble_eq_true rfl)).mono (by simp only [Note.deep]; omega)
    cases p with
    | none => exact .non _
    | some q => exact amt_pl _ _
  | use x => exact fun h => (Pl.tup (k + 1) (.cons (.str _ (by decide +kernel)) (.cons (.str _ h) (.nil _))) (Nat.le_of_ble_eq_true rfl)).mono (by simp only [Note.deep]; omega)
theorem Note.Good.pn : ∀ {t : Note}, t.Good → t.PN 3 := by
  intro t
  induction t with
  | none => exact id
  | pay d v => exact fun ⟨_, _, h⟩ => h.imp fun _ _ => trivial
  | now v => exact fun h => VIs.imp (fun _ _ => trivial) h
  | both a b ia ib => exact fun ⟨x, y⟩ => ⟨ia x, ib y⟩
  | times r a ia => exact fun ⟨_, _, y⟩ => ia y
  | turn a ia => exact fun x => ia x
  | till u l a b ia ib => exact fun ⟨_, _, y, z⟩ => ⟨ia y, ib z⟩
  | may x o b e a l ia ib => exact fun ⟨z, _, _, _, x, y⟩ => ⟨name_str z, ia x, ib y⟩
  | seen k d s p => exact fun _ => trivial
  | use x => exact fun h => h.elim
end Lw
namespace Lw
open PySem PySem.Spec PyProof.Rows L2 RZ DL
local macro_rules | `(tactic| walk_at "sm") => `(tactic| first | assumption | exact sm_of (k := 200) (by omega) (by decide) | exact sm_of (k := 200) (by decide) (by decide))
local macro_rules | `(tactic| walk_at "w1") => `(tactic| ((conv => whnf); (try refine At.mk ?_)))
local macro_rules | `(tactic| walk_at "wa") => `(tactic| first
  | refine wox (ex_mul (Sm.mul (by walk_at "sm") (by walk_at "sm")) ?_)
  | refine wox (ex_mod (by first | decide | omega | assumption) ?_)
  | refine wox (ex_fdiv (Sm.div (by walk_at "sm") (by first | decide | omega | assumption)) ?_))
local macro_rules | `(tactic| walk_at "w") => `(tactic| ((first | refine nrm_go ?_ | refine WpS.ok ?_ | refine WpE.ok ?_ | skip); walk_at "w1"))
local macro_rules | `(tactic| walk_at "wm") => `(tactic| (walk_at "w"; (repeat (walk_at "wa"; walk_at "w1"))))
def b_inner : FS :=
  (sRet (wLc [1, 2] (iArgs zsO (aVal (eUn (tabD tb_NOTES) (eOp dIx (eVar 0) (eC (.int 0)))) (aVal (eSl (eVar 0) (some (eC (.int 1))) none) aNil))) (gT 2 (gsCons (gN 1) (gsCons (gN 2) gsNil))) (eOp dEq (eVar 1) (eC (.str "n"))) (eVar 2)))
abbrev f_inner : FnD := callF 3 [] b_inner
def b_uses (g_inner g_uses : FnD) : FS :=
  (sSeq (sIf (eOp dEq (eOp dIx (eVar 0) (eC (.int 0))) (eC (.str "use"))) (sRet (wLst (aVal (eOp dIx (eVar 0) (eC (.int 1))) aNil))) sNx)
    (sSeq (sAsg 1 (wLst aNil))
    (sSeq (sFor (iSeq (eFrz (wCall 1 g_inner (aVal (eVar 0) aNil)))) (gN 2) (sExt 1 (eFrz (wLc [3] (iSeq (eFrz (wCall 1 g_uses (aVal (eVar 2) aNil)))) (gN 3) (eOpR dNotIn (eVar 3) 1) (eVar 3)))))
    (sRet (wVar 1)))))
def fr_uses : Nat → FnD
  | 0 => fun _ => none
  | n + 1 => callF 4 [] (b_uses f_inner (fr_uses n))
abbrev f_uses : FnD := fr_uses 10
def b_is_whole (g_uses : FnD) : FS :=
  (sRet (wSh (eOp dEq (eFrz (wCall 1 g_uses (aVal (eVar 0) aNil))) (eFrz (wLst aNil)))))
abbrev f_is_whole : FnD := callF 1 [] (b_is_whole f_uses)
def b_parts (g_inner g_parts : FnD) : FS :=
  (sRet (wSh (eOp dAdd (eC (.int 1)) (eCB dSum (aVal (eFrz (wLc [1] (iSeq (eFrz (wCall 1 g_inner (aVal (eVar 0) aNil)))) (gN 1) (eC (.bl true)) (eFrz (wCall 1 g_parts (aVal (eVar 1) aNil))))) aNil)))))
def fr_parts : Nat → FnD
  | 0 => fun _ => none
  | n + 1 => callF 2 [] (b_parts f_inner (fr_parts n))
abbrev f_parts : FnD := fr_parts 10
def b_replaced (g_replaced : FnD) : FS :=
  (sSeq (sIf (eOp dEq (eOp dIx (eVar 0) (eC (.int 0))) (eC (.str "use"))) (sRet (wSh (eOp dGetD (eVar 1) (eOp dIx (eVar 0) (eC (.int 1)))))) sNx)
    (sSeq (sAsg 2 (wLst (aVal (eOp dIx (eVar 0) (eC (.int 0))) aNil)))
    (sSeq (sFor (iArgs zsO (aVal (eUn (tabD tb_NOTES) (eOp dIx (eVar 0) (eC (.int 0)))) (aVal (eSl (eVar 0) (some (eC (.int 1))) none) aNil))) (gT 2 (gsCons (gN 3) (gsCons (gN 4) gsNil))) (sApp 2 (eIte (eOp dEq (eVar 3) (eC (.str "n"))) (eFrz (wCall 2 g_replaced (aVal (eVar 4) (aVal (eVar 1) aNil)))) (eVar 4))))
    (sRet (wSh (eCB dTupOf (aVal (eVar 2) aNil)))))))
def fr_replaced : Nat → FnD
  | 0 => fun _ => none
  | n + 1 => callF 5 [] (b_replaced (fr_replaced n))
abbrev f_replaced : FnD := fr_replaced 10
def b__law_count (g__law_within g__law_count : FnD) : FS :=
  (sRet (wSh (eOp dAdd (eC (.int 1)) (eCB dSum (aVal (eFrz (wLc [1] (iSeq (eFrz (wCall 1 g__law_within (aVal (eVar 0) aNil)))) (gN 1) (eC (.bl true)) (eFrz (wCall 1 g__law_count (aVal (eVar 1) aNil))))) aNil)))))
def fr__law_count : Nat → FnD
  | 0 => fun _ => none
  | n + 1 => callF 2 [] (b__law_count f__law_within (fr__law_count n))
abbrev f__law_count : FnD := fr__law_count 10
def b__law_uses (g__law_within g__law_uses : FnD) : FS :=
  (sSeq (sIf (eOp dEq (eOp dIx (eVar 0) (eC (.int 0))) (eC (.str "use"))) (sRet (wLst (aVal (eOp dIx (eVar 0) (eC (.int 1))) aNil))) sNx)
    (sSeq (sAsg 1 (wLst aNil))
    (sSeq (sFor (iSeq (eFrz (wCall 1 g__law_within (aVal (eVar 0) aNil)))) (gN 2) (sAsg 1 (wSh (eOp dAdd (eVar 1) (eFrz (wLc [3] (iSeq (eFrz (wCall 1 g__law_uses (aVal (eVar 2) aNil)))) (gN 3) (eOpR dNotIn (eVar 3) 1) (eVar 3)))))))
    (sRet (wVar 1)))))
def fr__law_uses : Nat → FnD
  | 0 => fun _ => none
  | n + 1 => callF 4 [] (b__law_uses f__law_within (fr__law_uses n))
abbrev f__law_uses : FnD := fr__law_uses 10
def b__law_put_in (g__law_within g__law_put_in : FnD) : FS :=
  (sSeq (sIf (eOp dEq (eOp dIx (eVar 0) (eC (.int 0))) (eC (.str "use"))) (sRet (wSh (eOp dGetD (eVar 1) (eOp dIx (eVar 0) (eC (.int 1)))))) sNx)
    (sSeq (sAsg 2 (wCall 1 g__law_within (aVal (eVar 0) aNil)))
    (sRet (wSh (eOp dAdd (eSl (eVar 0) none (some (eOp dSub (eCB dLen (aVal (eVar 0) aNil)) (eCBV dLen 2)))) (eCB dTupOf (aVal (eFrz (wLc [3] (iSeq (eVar 2)) (gN 3) (eC (.bl true)) (eFrz (wCall 2 g__law_put_in (aVal (eVar 3) (aVal (eVar 1) aNil)))))) aNil)))))))
def fr__law_put_in : Nat → FnD
  | 0 => fun _ => none
  | n + 1 => callF 4 [] (b__law_put_in f__law_within (fr__law_put_in n))
abbrev f__law_put_in : FnD := fr__law_put_in 10
theorem inner_eq (t : Note) : f_inner [.sh t.dt] = some (.ok (.own (t.inn.map Note.dt)), []) := by
  refine fn_eq (ef_in rfl ?_)
  unfold b_inner
  cases t <;>
  · unfold Note.dt
    walk_at "w"
    repeat (refine lc_go ?_; walk_at "w"; try (refine ⟨Nat.le_of_ble_eq_true rfl, ?_⟩; walk_at "w"))
    exact lc_nil (by walk_at "w"; exact ⟨rfl, rfl⟩)
/-! the names that a note uses -/
def addU (acc l : List Str) : List Str := acc ++ l.filter fun x => !(acc.any fun y => y == x)
def Note.us : Note → List Str
  | .use x => [x]
  | .both a b => addU (addU [] a.us) b.us
  | .times _ a => addU [] a.us
  | .turn a => addU [] a.us
  | .till _ _ a b => addU (addU [] a.us) b.us
  | .may _ _ _ _ a b => addU (addU [] a.us) b.us
  | _ => []
def Note.isUse : Note → Bool
  | .use _ => true
  | _ => false
theorem us_fold (t : Note) (h : t.isUse = false) : t.us = t.inn.foldl (fun acc a => addU acc a.us) [] := by
  cases t <;> first | rfl | cases h
theorem inn_deep {t a : Note} (m : a ∈ t.inn) : a.deep < t.deep := by
  cases t <;> simp only [Note.inn, List.mem_cons, List.not_mem_nil, or_false] at m <;> simp only [Note.deep] <;> first
    | (exact m.elim; done)
    | (rcases m with rfl | rfl <;> omega)
    | (subst m; omega)
theorem flat_strs : ∀ l : List Str, (l.map Dt.str).all flatD = true
  | [] => rfl
  | x :: l => by rw [List.map_cons, List.all_cons, flat_strs l]; rfl
theorem any_strs (x : Str) : ∀ l : List Str, ((l.map Dt.str).any fun y => eqF y (.str x)) = l.any fun y => y == x
  | [] => rfl
  | y :: l => by rw [List.map_cons, List.any_cons, List.any_cons, any_strs x l]; rfl
theorem notIn_strs (x : Str) (l : List Str) : dNotIn (.str x) (.lst (l.map Dt.str)) = some (.bl (!(l.any fun y => y == x))) := by
  show (inB (.str x) (.lst (l.map Dt.str))).map _ = _
  have : inB (.str x) (.lst (l.map Dt.str)) = some (l.any fun y => y == x) := by
    show (if flatD (.str x) = true ∧ (l.map Dt.str).all flatD = true then some _ else none) = _
    rw [if_pos ⟨rfl, flat_strs l⟩, any_strs]
  rw [this]
  rfl
/-- the names that are not there yet -/
theorem new_lc {acc : List Str} {A B : Option Wt} {C : Wt} (hC : slotD (some (some C)) = some (.lst (acc.map Dt.str))) (l : List Str) (hl : l.length ≤ 1000) :
    EvL [3] (gN 3) (eOpR dNotIn (eVar 3) 1) (eVar 3) (l.map Dt.str) [A, some C, B, none] [] fun xs ρ => xs = (l.filter fun x => !(acc.any fun y => y == x)).map Dt.str ∧ ρ = [A, some C, B, none] := by
  refine lc_inv (fun es ρ xs => ∃ us vs, es = us.map Dt.str ∧ xs = (vs.filter fun x => !(acc.any fun y => y == x)).map Dt.str ∧ vs ++ us = l ∧ ρ = [A, some C, B, none]) ?_ ?_ _ _ _ ⟨l, [], rfl, rfl, rfl, rfl⟩
  · rintro d es ρ xs ⟨us, vs, e1, rfl, e, rfl⟩
    cases us with
    | nil => cases e1
    | cons u us =>
      cases e1
      walk_at "w"
      refine wo hC ?_
      walk_at "w"
      refine wo (notIn_strs u acc) ?_
      walk_at "w"
      refine wt (fun h => ?_) (fun h => ?_)
      · walk_at "w"
        refine ⟨?_, ?_⟩
        · rw [List.length_map]
          have h1 := congrArg List.length e
          have h2 := List.length_filter_le (fun x => !(acc.any fun y => y == x)) vs
          rw [List.length_append] at h1
          omega
        · walk_at "w"
          exact ⟨us, vs ++ [u], rfl, by rw [List.filter_append, List.filter_cons, if_pos h]; simp, by simpa using e, rfl⟩
      · walk_at "w"
        exact ⟨us, vs ++ [u], rfl, by rw [List.filter_append, List.filter_cons, if_neg (by rw [h]; decide)]; simp, by simpa using e, rfl⟩
  · rintro ρ xs ⟨us, vs, e1, rfl, e, rfl⟩
    cases us with
    | cons u us => cases e1
    | nil =>
      rw [List.append_nil] at e
      subst e
      exact ⟨rfl, rfl⟩
theorem addU_len (acc l : List Str) : (addU acc l).length ≤ acc.length + l.length := by
  unfold addU
  rw [List.length_append]
  have := List.length_filter_le (fun x => !(acc.any fun y => y == x)) l
  omega
theorem us_len : ∀ t : Note, t.us.length ≤ t.parts := by
  intro t
  induction t with
  | both a b ia ib => have h1 := addU_len (addU [] a.us) b.us; have h2 := addU_len [] a.us; simp only [Note.us, Note.parts, List.length_nil] at *; omega
  | till u l a b ia ib => have h1 := addU_len (addU [] a.us) b.us; have h2 := addU_len [] a.us; simp only [Note.us, Note.parts, List.length_nil] at *; omega
  | may x o b e a c ia ib => have h1 := addU_len (addU [] a.us) c.us; have h2 := addU_len [] a.us; simp only [Note.us, Note.parts, List.length_nil] at *; omega
  | times r a ia => have h2 := addU_len [] a.us; simp only [Note.us, Note.parts, List.length_nil] at *; omega
  | turn a ia => have h2 := addU_len [] a.us; simp only [Note.us, Note.parts, List.length_nil] at *; omega
  | use x => exact Nat.le_refl _
  | _ => exact Nat.zero_le _
theorem inn_parts {t a : Note} (m : a ∈ t.inn) : a.parts < t.parts := by
  cases t <;> simp only [Note.inn, List.mem_cons, List.not_mem_nil, or_false] at m <;> simp only [Note.parts] <;> first
    | (exact m.elim; done)
    | (rcases m with rfl | rfl <;> omega)
    | (subst m; omega)
def innSum : List Note → Nat
  | [] => 0
  | a :: l => a.parts + innSum l
theorem innSum_app : ∀ l m : List Note, innSum (l ++ m) = innSum l + innSum m
  | [], m => by simp [innSum]
  | a :: l, m => by simp only [List.cons_append, innSum, innSum_app l m]; omega
theorem inn_sum (t : Note) : t.parts = innSum t.inn + 1 := by
  cases t <;> simp only [Note.parts, Note.inn, innSum] <;> omega
theorem foldU_len : ∀ (l : List Note) (acc : List Str), (l.foldl (fun acc a => addU acc a.us) acc).length ≤ acc.length + innSum l
  | [], acc => by simp [innSum]
  | a :: l, acc => by
    have h1 := foldU_len l (addU acc a.us)
    have h2 := addU_len acc a.us
    have h3 := us_len a
    simp only [List.foldl_cons, innSum]
    omega
def Note.head : Note → Str
  | .none => "none"
  | .pay _ _ => "pay"
  | .now _ => "now"
  | .both _ _ => "both"
  | .times _ _ => "times"
  | .turn _ => "turn"
  | .till _ _ _ _ => "till"
  | .may _ _ _ _ _ _ => "may"
  | .seen _ _ _ _ => "seen"
  | .use _ => "use"
theorem head_ix (t : Note) : dIx t.dt (.int 0) = some (.str t.head) := by cases t <;> rfl
theorem head_use {t : Note} (h : t.head = Str.ofString "use") : ∃ x, t = .use x := by
  cases t <;> first | exact ⟨_, rfl⟩ | (simp only [Note.head] at h; exact absurd h (by decide))
theorem head_not {t : Note} (h : ¬ t.head = Str.ofString "use") : t.isUse = false := by
  cases t <;> first | rfl | exact absurd rfl h
theorem uses_eq : ∀ (n : Nat) {t : Note}, t.deep ≤ n → t.parts ≤ 500 → fr_uses n [.sh t.dt] = some (.ok (.own (t.us.map Dt.str)), [])
  | 0, t, h, _ => by cases t <;> simp only [Note.deep] at h <;> omega
  | n + 1, t, h, hp => by
    refine fn_eq (ef_in rfl ?_)
    unfold b_uses
    have key : ∀ a ∈ t.inn, fr_uses n [.sh a.dt] = some (.ok (.own (a.us.map Dt.str)), []) := fun a m => uses_eq n (by have := inn_deep m; omega) (by have := inn_parts m; omega)
    walk_at "w"
    refine wo (head_ix t) ?_
    walk_at "w"
    refine wd (fun hu => ?_) (fun hu => ?_)
    · obtain ⟨x, rfl⟩ := head_use hu
      unfold Note.dt
      walk_at "w"
      exact ⟨rfl, rfl⟩
    · have hu := head_not hu
      walk_at "w"
      refine (ef_at (inner_eq t) ?_).h
      walk_at "w"
      have hs := inn_sum t
      refine for_inv (fun es ρ => ∃ us vs x2, es = us.map Note.dt ∧ vs ++ us = t.inn ∧ ρ = [some (.sh t.dt), some (.own ((vs.foldl (fun acc a => addU acc a.us) []).map Dt.str)), x2, none]) ?_ ?_ _ _ ⟨t.inn, [], none, rfl, rfl, rfl⟩
      · rintro d es ρ ⟨us, vs, x2, e1, e, rfl⟩
        cases us with
        | nil => cases e1
        | cons u us =>
          cases e1
          walk_at "w"
          refine (ef_at (key u (by rw [← e]; simp)) ?_).h
          walk_at "w"
          have hul := us_len u
          have hup := inn_parts (show u ∈ t.inn by rw [← e]; simp)
          refine (new_lc (acc := vs.foldl (fun acc a => addU acc a.us) []) rfl u.us (by omega)).imp ?_
          rintro _ _ ⟨rfl, rfl⟩
          walk_at "w"
          refine ⟨?_, ?_⟩
          · rw [List.length_map, List.length_map]
            have h1 := foldU_len vs []
            have h2 := List.length_filter_le (fun x => !((vs.foldl (fun acc a => addU acc a.us) []).any fun y => y == x)) u.us
            have h3 : innSum t.inn = innSum vs + innSum (u :: us) := by rw [← e, innSum_app]
            simp only [List.length_nil, innSum] at h1 h3
            omega
          · walk_at "w"
            refine ⟨us, vs ++ [u], some (.sh u.dt), rfl, by simpa using e, ?_⟩
            rw [List.foldl_append, ← List.map_append]
            rfl
      · rintro ρ ⟨us, vs, x2, e1, e, rfl⟩
        cases us with
        | cons u us => cases e1
        | nil =>
          rw [List.append_nil] at e
          subst e
          walk_at "w"
          exact ⟨by rw [us_fold t hu], rfl⟩
theorem strs_pl : ∀ {l : List Str}, (∀ x ∈ l, PyData.strOk x = true) → Pls 0 (l.map Dt.str)
  | [], _ => .nil _
  | x :: l, h => .cons (.str _ (h x (by simp))) (strs_pl fun y hy => h y (by simp [hy]))
theorem eq_nil {l : List Str} (hs : ∀ x ∈ l, PyData.strOk x = true) (hl : l.length ≤ 1000) : dEq (.lst (l.map Dt.str)) (.lst []) = some (.bl l.isEmpty) := by
  have h1 : okPy (.lst (l.map Dt.str)) = true := (Pl.lst 0 (strs_pl hs) (by simpa using hl)).ok (by decide)
  have h2 : okPy (.lst []) = true := by decide +kernel
  have e : DL.eqB (.lst (l.map Dt.str)) (.lst []) = if okPy (.lst (l.map Dt.str)) = true ∧ okPy (.lst []) = true then some (PyData.eqv (toPy (.lst (l.map Dt.str))) (toPy (.lst []))) else none := rfl
  show (DL.eqB _ _).map Dt.bl = _
  rw [e, if_pos ⟨h1, h2⟩]
  cases l <;> rfl
theorem is_whole_eq {t : Note} (h : t.deep ≤ 10) (hp : t.parts ≤ 500) (hs : ∀ x ∈ t.us, PyData.strOk x = true) : f_is_whole [.sh t.dt] = some (.ok (.sh (.bl t.us.isEmpty)), []) := by
  refine fn_eq (ef_in rfl ?_)
  unfold b_is_whole
  walk_at "w"
  refine (ef_at (uses_eq 10 h hp) ?_).h
  walk_at "w"
  refine wo (eq_nil hs (by have := us_len t; omega)) ?_
  walk_at "w"
  exact ⟨rfl, rfl⟩
/-! how many -/
theorem sum_ints : ∀ (l : List Note) (c : Int), True := fun _ _ => trivial
theorem parts_lc {g : FnD} {A : Option Wt} {l : List Note} (hl : l.length ≤ 100) (h : ∀ a ∈ l, g [.sh a.dt] = some (.ok (.sh (.int a.parts)), [])) :
    EvL [1] (gN 1) (eC (.bl true)) (eFrz (wCall 1 g (aVal (eVar 1) aNil))) (l.map Note.dt) [A, none] [] fun acc ρ => acc = l.map (fun a => Dt.int a.parts) ∧ ρ = [A, none] := by
  refine lc_inv (fun es ρ acc => ∃ us vs, es = us.map Note.dt ∧ acc = vs.map (fun a => Dt.int a.parts) ∧ vs ++ us = l ∧ ρ = [A, none]) ?_ ?_ _ _ _ ⟨l, [], rfl, rfl, rfl, rfl⟩
  · rintro d es ρ acc ⟨us, vs, e1, rfl, e, rfl⟩
    cases us with
    | nil => cases e1
    | cons u us =>
      cases e1
      walk_at "w"
      refine (ef_at (h u (by rw [← e]; simp)) ?_).h
      walk_at "w"
      refine ⟨?_, ?_⟩
      · rw [List.length_map]
        have := congrArg List.length e
        rw [List.length_append] at this
        omega
      · walk_at "w"
        exact ⟨us, vs ++ [u], rfl, by simp, by simpa using e, rfl⟩
  · rintro ρ acc ⟨us, vs, e1, rfl, e, rfl⟩
    cases us with
    | cons u us => cases e1
    | nil =>
      rw [List.append_nil] at e
      subst e
      exact ⟨rfl, rfl⟩
theorem inn_len (t : Note) : t.inn.length ≤ 2 := by cases t <;> exact Nat.le_of_ble_eq_true rfl
theorem inn_dsum (t : Note) : dSum [.lst (t.inn.map fun a => Dt.int a.parts)] = some (.int (innSum t.inn : Nat)) := by
  cases t <;> simp only [Note.inn, List.map_cons, List.map_nil, innSum] <;> first
    | rfl
    | (show some (Dt.int _) = _; congr 2; push_cast; omega)
theorem parts_eq : ∀ (n : Nat) {t : Note}, t.deep ≤ n → fr_parts n [.sh t.dt] = some (.ok (.sh (.int t.parts)), [])
  | 0, t, h => by cases t <;> simp only [Note.deep] at h <;> omega
  | n + 1, t, h => by
    refine fn_eq (ef_in rfl ?_)
    unfold b_parts
    walk_at "w"
    refine (ef_at (inner_eq t) ?_).h
    walk_at "w"
    refine (parts_lc (by have := inn_len t; omega) fun a m => parts_eq n (by have := inn_deep m; omega)).imp ?_
    rintro _ _ ⟨rfl, rfl⟩
    walk_at "w"
    refine wo (inn_dsum t) ?_
    walk_at "w"
    exact ⟨by rw [inn_sum t]; congr 2; push_cast; omega, rfl⟩
theorem lcount_eq : ∀ (n : Nat) {t : Note}, t.deep ≤ n → fr__law_count n [.sh t.dt] = some (.ok (.sh (.int t.parts)), [])
  | 0, t, h => by cases t <;> simp only [Note.deep] at h <;> omega
  | n + 1, t, h => by
    refine fn_eq (ef_in rfl ?_)
    unfold b__law_count
    walk_at "w"
    refine (ef_at (within_eq t) ?_).h
    walk_at "w"
    refine (parts_lc (by have := inn_len t; omega) fun a m => lcount_eq n (by have := inn_deep m; omega)).imp ?_
    rintro _ _ ⟨rfl, rfl⟩
    walk_at "w"
    refine wo (inn_dsum t) ?_
    walk_at "w"
    exact ⟨by rw [inn_sum t]; congr 2; push_cast; omega, rfl⟩
/-! the law's own names -/
theorem luses_eq : ∀ (n : Nat) {t : Note}, t.deep ≤ n → t.parts ≤ 500 → ∃ w, fr__law_uses n [.sh t.dt] = some (.ok w, []) ∧ wtD w = .lst (t.us.map Dt.str)
  | 0, t, h, _ => by cases t <;> simp only [Note.deep] at h <;> omega
  | n + 1, t, h, hp => by
    suffices hh : EvF (fr__law_uses (n + 1)) [.sh t.dt] (fun w cs => wtD w = .lst (t.us.map Dt.str) ∧ cs = []) by
      obtain ⟨w, cs, e, hw, rfl⟩ := hh
      exact ⟨w, e, hw⟩
    refine ef_in rfl ?_
    unfold b__law_uses
    have key : ∀ a ∈ t.inn, ∃ w, fr__law_uses n [.sh a.dt] = some (.ok w, []) ∧ wtD w = .lst (a.us.map Dt.str) := fun a m => luses_eq n (by have := inn_deep m; omega) (by have := inn_parts m; omega)
    walk_at "w"
    refine wo (head_ix t) ?_
    walk_at "w"
    refine wd (fun hu => ?_) (fun hu => ?_)
    · obtain ⟨x, rfl⟩ := head_use hu
      unfold Note.dt
      walk_at "w"
      exact ⟨rfl, rfl⟩
    · have hu := head_not hu
      walk_at "w"
      refine (ef_at (within_eq t) ?_).h
      walk_at "w"
      have hs := inn_sum t
      refine for_inv (fun es ρ => ∃ us vs C x2, es = us.map Note.dt ∧ vs ++ us = t.inn ∧ slotD (some (some C)) = some (.lst ((vs.foldl (fun acc a => addU acc a.us) []).map Dt.str)) ∧ ρ = [some (.sh t.dt), some C, x2, none]) ?_ ?_ _ _ ⟨t.inn, [], .own [], none, rfl, rfl, rfl, rfl⟩
      · rintro d es ρ ⟨us, vs, C, x2, e1, e, hC, rfl⟩
        cases us with
        | nil => cases e1
        | cons u us =>
          cases e1
          obtain ⟨w, ew, hw⟩ := key u (by rw [← e]; simp)
          have hul := us_len u
          have hup := inn_parts (show u ∈ t.inn by rw [← e]; simp)
          have h1 := foldU_len vs []
          have h2 := List.length_filter_le (fun x => !((vs.foldl (fun acc a => addU acc a.us) []).any fun y => y == x)) u.us
          have h3 : innSum t.inn = innSum vs + innSum (u :: us) := by rw [← e, innSum_app]
          simp only [List.length_nil, innSum] at h1 h3
          have fin : ∃ us_1 vs_1 C x2, us.map Note.dt = us_1.map Note.dt ∧ vs_1 ++ us_1 = t.inn ∧ slotD (some (some C)) = some (.lst ((vs_1.foldl (fun acc a => addU acc a.us) []).map Dt.str)) ∧
              ([some (.sh t.dt), some (.sh (.lst ((addU (vs.foldl (fun acc a => addU acc a.us) []) u.us).map Dt.str))), some (.sh u.dt), none] : Rho) = [some (.sh t.dt), some C, x2, none] :=
            ⟨us, vs ++ [u], _, _, rfl, by simpa using e, by rw [List.foldl_append]; rfl, rfl⟩
          have hadd : dAdd (.lst ((vs.foldl (fun acc a => addU acc a.us) []).map Dt.str)) (.lst ((u.us.filter fun x => !((vs.foldl (fun acc a => addU acc a.us) []).any fun y => y == x)).map Dt.str)) = some (.lst ((addU (vs.foldl (fun acc a => addU acc a.us) []) u.us).map Dt.str)) := by
            show (if _ then _ else _) = _
            rw [if_pos (by simp only [List.length_map]; omega), ← List.map_append]
            rfl
          cases C with
          | sh d =>
            cases hC
            walk_at "w"
            refine (ef_at ew ?_).h
            cases w with
            | sh d =>
              cases hw
              walk_at "w"
              refine (new_lc (acc := vs.foldl (fun acc a => addU acc a.us) []) rfl u.us (by omega)).imp ?_
              rintro _ _ ⟨rfl, rfl⟩
              walk_at "w"
              refine wo hadd ?_
              walk_at "w"
              exact fin
            | own xs =>
              cases hw
              walk_at "w"
              refine (new_lc (acc := vs.foldl (fun acc a => addU acc a.us) []) rfl u.us (by omega)).imp ?_
              rintro _ _ ⟨rfl, rfl⟩
              walk_at "w"
              refine wo hadd ?_
              walk_at "w"
              exact fin
          | own xs =>
            cases hC
            walk_at "w"
            refine (ef_at ew ?_).h
            cases w with
            | sh d =>
              cases hw
              walk_at "w"
              refine (new_lc (acc := vs.foldl (fun acc a => addU acc a.us) []) rfl u.us (by omega)).imp ?_
              rintro _ _ ⟨rfl, rfl⟩
              walk_at "w"
              refine wo hadd ?_
              walk_at "w"
              exact fin
            | own xs =>
              cases hw
              walk_at "w"
              refine (new_lc (acc := vs.foldl (fun acc a => addU acc a.us) []) rfl u.us (by omega)).imp ?_
              rintro _ _ ⟨rfl, rfl⟩
              walk_at "w"
              refine wo hadd ?_
              walk_at "w"
              exact fin
      · rintro ρ ⟨us, vs, C, x2, e1, e, hC, rfl⟩
        cases us with
        | cons u us => cases e1
        | nil =>
          rw [List.append_nil] at e
          subst e
          rw [← us_fold t hu] at hC
          cases C with
          | sh d => cases hC; walk_at "w"; exact ⟨rfl, rfl⟩
          | own xs => cases hC; walk_at "w"; exact ⟨rfl, rfl⟩
/-! uses replaced -/
def Note.put (f : Str → Note) : Note → Note
  | .use x => f x
  | .both a b => .both (a.put f) (b.put f)
  | .times r a => .times r (a.put f)
  | .turn a => .turn (a.put f)
  | .till u l a b => .till u l (a.put f) (b.put f)
  | .may x h b e s l => .may x h b e (s.put f) (l.put f)
  | t => t
/-- the dict has what the note uses -/
def Note.UIn (kvs : List (Key × Dt)) (f : Str → Note) : Note → Prop
  | .use x => valD kvs (.inr x) = some (f x).dt
  | .both a b => a.UIn kvs f ∧ b.UIn kvs f
  | .times _ a => a.UIn kvs f
  | .turn a => a.UIn kvs f
  | .till _ _ a b => a.UIn kvs f ∧ b.UIn kvs f
  | .may _ _ _ _ a b => a.UIn kvs f ∧ b.UIn kvs f
  | _ => True
theorem UIn.inn {kvs : List (Key × Dt)} {f : Str → Note} {t : Note} (h : t.UIn kvs f) : ∀ a ∈ t.inn, a.UIn kvs f := by
  intro a m
  cases t <;> simp only [Note.inn, List.mem_cons, List.not_mem_nil, or_false] at m <;> first
    | (exact m.elim; done)
    | (rcases m with rfl | rfl <;> first | exact h.1 | exact h.2)
    | (subst m; exact h)
theorem replaced_eq {kvs : List (Key × Dt)} {f : Str → Note} : ∀ (n : Nat) {t : Note}, t.deep ≤ n → t.UIn kvs f → fr_replaced n [.sh t.dt, .sh (.dK kvs)] = some (.ok (.sh (t.put f).dt), [])
  | 0, t, h, _ => by cases t <;> simp only [Note.deep] at h <;> omega
  | n + 1, t, h, hi => by
    refine fn_eq (ef_in rfl ?_)
    unfold b_replaced
    have key : ∀ a ∈ t.inn, fr_replaced n [.sh a.dt, .sh (.dK kvs)] = some (.ok (.sh (a.put f).dt), []) := fun a m => replaced_eq n (by have := inn_deep m; omega) (UIn.inn hi a m)
    cases t with
    | use x =>
      unfold Note.dt
      walk_at "w"
      refine wo hi ?_
      walk_at "w"
      refine ⟨?_, rfl⟩
      rw [show Note.put f (.use x) = f x from rfl]
      cases f x <;> rfl
    | _ =>
      unfold Note.dt
      walk_at "w"
      repeat (first
        | (refine for_go ?_; walk_at "w")
        | (refine (ef_at (key _ (by simp [Note.inn])) ?_).h; walk_at "w")
        | (refine ⟨Nat.le_of_ble_eq_true rfl, ?_⟩; walk_at "w"))
      refine es_forNil ?_
      walk_at "w"
      exact ⟨rfl, rfl⟩
theorem put_lc {g : FnD} {f : Str → Note} {kvs : List (Key × Dt)} {A C : Option Wt} {l : List Note} (hl : l.length ≤ 100) (h : ∀ a ∈ l, g [.sh a.dt, .sh (.dK kvs)] = some (.ok (.sh (a.put f).dt), [])) :
    EvL [3] (gN 3) (eC (.bl true)) (eFrz (wCall 2 g (aVal (eVar 3) (aVal (eVar 1) aNil)))) (l.map Note.dt) [A, some (.sh (.dK kvs)), C, none] [] fun acc ρ => acc = (l.map (Note.put f)).map Note.dt ∧ ρ = [A, some (.sh (.dK kvs)), C, none] := by
  refine lc_inv (fun es ρ acc => ∃ us vs, es = us.map Note.dt ∧ acc = (vs.map (Note.put f)).map Note.dt ∧ vs ++ us = l ∧ ρ = [A, some (.sh (.dK kvs)), C, none]) ?_ ?_ _ _ _ ⟨l, [], rfl, rfl, rfl, rfl⟩
  · rintro d es ρ acc ⟨us, vs, e1, rfl, e, rfl⟩
    cases us with
    | nil => cases e1
    | cons u us =>
      cases e1
      walk_at "w"
      refine (ef_at (h u (by rw [← e]; simp)) ?_).h
      walk_at "w"
      refine ⟨?_, ?_⟩
      · rw [List.length_map, List.length_map]
        have := congrArg List.length e
        rw [List.length_append] at this
        omega
      · walk_at "w"
        exact ⟨us, vs ++ [u], rfl, by simp, by simpa using e, rfl⟩
  · rintro ρ acc ⟨us, vs, e1, rfl, e, rfl⟩
    cases us with
    | cons u us => cases e1
    | nil =>
      rw [List.append_nil] at e
      subst e
      exact ⟨rfl, rfl⟩
theorem put_in_eq {kvs : List (Key × Dt)} {f : Str → Note} : ∀ (n : Nat) {t : Note}, t.deep ≤ n → t.UIn kvs f → fr__law_put_in n [.sh t.dt, .sh (.dK kvs)] = some (.ok (.sh (t.put f).dt), [])
  | 0, t, h, _ => by cases t <;> simp only [Note.deep] at h <;> omega
  | n + 1, t, h, hi => by
    refine fn_eq (ef_in rfl ?_)
    unfold b__law_put_in
    have key : ∀ a ∈ t.inn, fr__law_put_in n [.sh a.dt, .sh (.dK kvs)] = some (.ok (.sh (a.put f).dt), []) := fun a m => put_in_eq n (by have := inn_deep m; omega) (UIn.inn hi a m)
    walk_at "w"
    refine wo (head_ix t) ?_
    walk_at "w"
    refine wd (fun hu => ?_) (fun hu => ?_)
    · obtain ⟨x, rfl⟩ := head_use hu
      unfold Note.dt
      walk_at "w"
      refine wo hi ?_
      walk_at "w"
      refine ⟨?_, rfl⟩
      rw [show Note.put f (.use x) = f x from rfl]
      cases f x <;> rfl
    · have hu := head_not hu
      walk_at "w"
      refine (ef_at (within_eq t) ?_).h
      have lc := fun A C => put_lc (A := A) (C := C) (l := t.inn) (by have := inn_len t; omega) key
      cases t with
      | use x => cases hu
      | _ =>
        unfold Note.dt
        walk_at "w"
        refine (lc _ _).imp ?_
        rintro _ _ ⟨rfl, rfl⟩
        walk_at "w"
        exact ⟨rfl, rfl⟩
/-! notes with uses put in -/
end Lw
namespace Lw
open PySem PySem.Spec PyProof.Rows L2 RZ DL
local macro_rules | `(tactic| walk_at "sm") => `(tactic| first | assumption | exact sm_of (k := 200) (by omega) (by decide) | exact sm_of (k := 200) (by decide) (by decide))
local macro_rules | `(tactic| walk_at "w1") => `(tactic| ((conv => whnf); (try refine At.mk ?_)))
local macro_rules | `(tactic| walk_at "wa") => `(tactic| first
  | refine wox (ex_mul (Sm.mul (by walk_at "sm") (by walk_at "sm")) ?_)
  | refine wox (ex_mod (by first | decide | omega | assumption) ?_)
  | refine wox (ex_fdiv (Sm.div (by walk_at "sm") (by first | decide | omega | assumption)) ?_))
local macro_rules | `(tactic| walk_at "w") => `(tactic| ((first | refine nrm_go ?_ | refine WpS.ok ?_ | refine WpE.ok ?_ | skip); walk_at "w1"))
local macro_rules | `(tactic| walk_at "wm") => `(tactic| (walk_at "w"; (repeat (walk_at "wa"; walk_at "w1"))))
def b_whole_in : FS :=
  (sSeq (sIf (eOr (eNot (eChain dLe dLe (eC (.int 1)) (eCB dLen (aVal (eVar 0) aNil)) (eVar 1))) (eNot (eCB dAll (aVal (eFrz (wLc [2] (iSeq (eVar 0)) (gN 2) (eC (.bl true)) (eOp dIn (eVar 2) (eC (.str "0123456789"))))) aNil)))) (sRet (wSh (eC .non))) sNx)
    (sRet (wIte (eAnd (eOp dEq (eOp dIx (eVar 0) (eC (.int 0))) (eC (.str "0"))) (eOp dNe (eVar 0) (eC (.str "0")))) (wSh (eC .non)) (wSh (eCB dInt (aVal (eVar 0) aNil))))))
abbrev f_whole_in : FnD := callF 3 [] b_whole_in
def b_read_amount (g_whole_in g_lowest g_amount_text : FnD) : FS :=
  (sSeq (sAsgT (gT 3 (gsCons (gN 2) (gsCons (gN 3) (gsCons (gN 4) gsNil)))) (eMS mPart (eVar 0) (eC (.str "/"))))
    (sSeq (sAsg 5 (wCall 2 g_whole_in (aArr 1 1 [] [.inl 0, .inl 1] (aVal (eIte (eMS mStarts (eVar 2) (eC (.str "-"))) (eSl (eVar 2) (some (eC (.int 1))) none) (eVar 2)) aNil) (aVal (eVar 1) aNil))))
    (sSeq (sAsg 6 (wIte (eOp dNe (eVar 3) (eC (.str ""))) (wCall 2 g_whole_in (aArr 1 1 [] [.inl 0, .inl 1] (aVal (eVar 4) aNil) (aVal (eVar 1) aNil))) (wSh (eC (.int 1)))))
    (sSeq (sIf (eOr (eOp dIs (eVar 5) (eC .non)) (eOr (eOp dIs (eVar 6) (eC .non)) (eOp dEq (eVar 6) (eC (.int 0))))) (sRaise0 "BadText" [("called", .str "BadText")]) sNx)
    (sSeq (sAsg 7 (wCall 2 g_lowest (aVal (eIte (eMS mStarts (eVar 2) (eC (.str "-"))) (eUn dNeg (eVar 5)) (eVar 5)) (aVal (eVar 6) aNil))))
    (sSeq (sIf (eOp dNe (eFrz (wCall 1 g_amount_text (aVal (eVar 7) aNil))) (eVar 0)) (sRaise0 "BadText" [("called", .str "BadText")]) sNx)
    (sRet (wVar 7))))))))
abbrev f_read_amount : FnD := callF 8 [] (b_read_amount f_whole_in f_lowest f_amount_text)
def b_word_end : FS :=
  (sSeq (sWhile (fun _ => 1000) (eAnd (eOp dLt (eVar 1) (eCB dLen (aVal (eVar 0) aNil))) (eOp dIn (eOp dIx (eVar 0) (eVar 1)) (eVar 2))) (sAugI 1 (eC (.int 1))))
    (sRet (wVar 1)))
abbrev f_word_end : FnD := callF 3 [] b_word_end
def b_past : FS :=
  (sSeq (sIf (eOp dNe (eSl (eVar 0) (some (eVar 1)) (some (eOp dAdd (eVar 1) (eCB dLen (aVal (eVar 2) aNil))))) (eVar 2)) (sRaise0 "BadText" [("called", .str "BadText")]) sNx)
    (sRet (wSh (eOp dAdd (eVar 1) (eCB dLen (aVal (eVar 2) aNil))))))
abbrev f_past : FnD := callF 3 [] b_past
def b_plain_in (g_read_amount g_whole_in : FnD) : FS :=
  (sSeq (sAsg 3 (wVar 1))
    (sSeq (sWhile (fun _ => 1000) (eAnd (eOp dLt (eVar 3) (eCB dLen (aVal (eVar 0) aNil))) (eOp dNotIn (eOp dIx (eVar 0) (eVar 3)) (eC (.str ",)")))) (sAugI 3 (eC (.int 1))))
    (sSeq (sIf (eOp dIn (eVar 2) (eTup (aVal (eC (.str "a")) (aVal (eC (.str "q")) aNil)))) (sRet (wSh (eTup (aVal (eFrz (wCall 2 g_read_amount (aArr 1 1 [] [.inl 0, .inl 1] (aVal (eSl (eVar 0) (some (eVar 1)) (some (eVar 3))) aNil) (aVal (eC (.int 200)) aNil)))) (aVal (eVar 3) aNil))))) sNx)
    (sSeq (sIf (eOp dEq (eVar 2) (eC (.str "d"))) (sSeq (sAsg 4 (wCall 2 g_whole_in (aArr 1 1 [] [.inl 0, .inl 1] (aVal (eSl (eVar 0) (some (eVar 1)) (some (eVar 3))) aNil) (aVal (eC (.int 1)) aNil))))
    (sSeq (sIf (eOp dIs (eVar 4) (eC .non)) (sRaise0 "BadText" [("called", .str "BadText")]) sNx)
    (sRet (wSh (eTup (aVal (eVar 4) (aVal (eVar 3) aNil))))))) sNx)
    (sRet (wSh (eTup (aVal (eSl (eVar 0) (some (eVar 1)) (some (eVar 3))) (aVal (eVar 3) aNil)))))))))
abbrev f_plain_in : FnD := callF 5 [] (b_plain_in f_read_amount f_whole_in)
/-! places in a text -/
abbrev cl (z : Str) : List Nat := z.cps.toList
structure Nx (z : Str) (i : Nat) (r : List Nat) : Prop where
  le : i ≤ z.length
  eq : (cl z).drop i = r
theorem cl_len (z : Str) : (cl z).length = z.length := Array.length_toList
theorem cl_app (a b : Str) : cl (a ++ b) = cl a ++ cl b := by
  show (a.cps ++ b.cps).toList = _
  rw [Array.toList_append]
theorem cl_inj {a b : Str} (h : cl a = cl b) : a = b := by
  cases a; cases b
  exact congrArg Str.mk (Array.toList_inj.mp h)
theorem Nx.len {z : Str} {i : Nat} {r : List Nat} (h : Nx z i r) : i + r.length = z.length := by
  have := congrArg List.length h.eq
  rw [List.length_drop, cl_len] at this
  have := h.le
  omega
theorem Nx.adv {z : Str} {i : Nat} {w r : List Nat} (h : Nx z i (w ++ r)) : Nx z (i + w.length) r := by
  refine ⟨?_, ?_⟩
  · have := h.len
    rw [List.length_append] at this
    omega
  · rw [← List.drop_drop, h.eq, List.drop_left]
theorem Nx.all (z : Str) : Nx z 0 (cl z) := ⟨Nat.zero_le _, rfl⟩
theorem Nx.cut {z : Str} {i : Nat} {w r : List Nat} (h : Nx z i (w ++ r)) : L2.cutS z (some (i : Int)) (some ((i + w.length : Nat) : Int)) = ⟨w.toArray⟩ := by
  have hl := h.len
  rw [List.length_append] at hl
  unfold L2.cutS
  rw [HT.sIx_nat, HT.sIx_nat, Nat.min_eq_left h.le, Nat.min_eq_left (by omega), show i + w.length - i = w.length by omega, h.eq, List.take_left]
theorem Nx.sl {z : Str} {i : Nat} {w r : List Nat} (hz : z.length ≤ 1000000) (h : Nx z i (w ++ r)) : dSl (.str z) (some (i : Int)) (some ((i : Int) + (w.length : Int))) = some (.str ⟨w.toArray⟩) := by
  have := h.cut
  rw [Int.natCast_add] at this
  show (if _ then _ else _) = _
  rw [if_pos hz, this]
theorem Nx.ix {z : Str} {i c : Nat} {r : List Nat} (hz : z.length ≤ 100000) (h : Nx z i (c :: r)) : dIx (.str z) (.int i) = some (.str ⟨#[c]⟩) := by
  show (if _ then _ else _) = _
  have : (cl z)[i]? = some c := by
    have := congrArg (·[0]?) h.eq
    simpa using this
  rw [if_pos hz, atI_nat this]
  rfl
theorem Nx.cons {z : Str} {i c : Nat} {r : List Nat} (h : Nx z i (c :: r)) : Nx z (i + 1) r := Nx.adv (w := [c]) h
section
variable {Q : Wt → List (List Dt) → Prop} {z : Str} {i : Nat} {w r : List Nat}
theorem word_end_ev {s : Str} (hz : z.length ≤ 100000) (h : Nx z i (w ++ r)) (hw : ∀ c ∈ w, c ∈ cl s) (hr : ∀ c, r.head? = some c → c ∉ cl s) (hl : w.length < 1000) (k : Q (.sh (.int ((i + w.length : Nat) : Int))) []) : EvF f_word_end [.sh (.str z), .sh (.int i), .sh (.str s)] Q := by
  refine ef_in rfl ?_
  unfold b_word_end
  walk_at "w"
  refine EvS.cut (fun ρ => ρ = [some (.sh (.str z)), some (.sh (.int ((i + w.length : Nat) : Int))), some (.sh (.str s))]) ?_ ?_
  · refine while_inv (fun ρ => ∃ u v, u ++ v = w ∧ ρ = [some (.sh (.str z)), some (.sh (.int ((i + u.length : Nat) : Int))), some (.sh (.str s))]) (fun ρ => i + w.length - slotN ρ 1) ?_ _ _ ⟨[], w, rfl, rfl⟩ ?_
    · rintro ρ ⟨u, v, rfl, rfl⟩
      have h2 : Nx z (i + u.length) (v ++ r) := Nx.adv (by rw [← List.append_assoc]; exact h)
      have hle := h2.len
      walk_at "w"
      refine wo (if_pos (by omega)) ?_
      walk_at "w"
      refine wd (fun e => ?_) (fun e => ?_)
      · walk_at "w"
        cases v with
        | cons c v =>
          refine wo (h2.ix hz) ?_
          walk_at "w"
          refine wd (fun e => ?_) (fun e => absurd (hw c (by simp)) e)
          walk_at "w"
          refine ⟨⟨u ++ [c], v, by simp, ?_⟩, ?_⟩
          · rw [List.length_append]; rfl
          · show i + (u ++ c :: v).length - (((i + u.length : Nat) : Int) + 1).natAbs < i + (u ++ c :: v).length - (((i + u.length : Nat) : Int)).natAbs
            simp only [List.length_append, List.length_cons]
            omega
        | nil =>
          cases r with
          | nil => simp at hle; omega
          | cons c r =>
            refine wo (h2.ix hz) ?_
            walk_at "w"
            refine wd (fun e => absurd e (hr c rfl)) (fun e => ?_)
            walk_at "w"
            rw [List.append_nil]
      · walk_at "w"
        cases v with
        | cons c v => rw [List.length_append, List.length_cons] at hle; omega
        | nil => rw [List.append_nil]
    · show i + w.length - (i : Int).natAbs < 1000
      omega
  · rintro _ rfl
    walk_at "w"
    exact k
theorem past_ev {s : Str} (hz : z.length ≤ 100000) (h : Nx z i (cl s ++ r)) (k : Q (.sh (.int ((i + s.length : Nat) : Int))) []) : EvF f_past [.sh (.str z), .sh (.int i), .sh (.str s)] Q := by
  have hl := h.len
  rw [List.length_append, cl_len] at hl
  refine ef_in rfl ?_
  unfold b_past
  walk_at "w"
  refine wo (if_pos (by omega)) ?_
  walk_at "w"
  refine wo (show _ = some (Dt.str s) from ?_) ?_
  · rw [← cl_len]
    exact (h.sl (by omega)).trans (by rw [show (⟨(cl s).toArray⟩ : Str) = s from rfl])
  walk_at "w"
  refine wtf (by simp) ?_
  walk_at "w"
  refine wo (if_pos (by omega)) ?_
  walk_at "w"
  exact k
end
/-! numbers -/
theorem cl_nat (n : Nat) : cl (iT (n : Int)) = TL.numL n := TL.tl_num n
theorem cl_neg (n : Nat) : cl (iT (-((n + 1 : Nat) : Int))) = 45 :: TL.numL (n + 1) := by
  show (PySem.Str.ofString (toString (Int.negSucc n))).cps.toList = _
  rw [PyProof.Rows.signs_ofString]
  show ("-" ++ Nat.repr (n + 1)).toList.map Char.toNat = _
  rw [String.toList_append, List.map_append, Nat.toList_repr]
  rfl
theorem numL_zero {n : Nat} : (TL.numL n).head? = some 48 → n = 0 := by
  induction n using Nat.strongRecOn with
  | _ n ih =>
    intro h
    by_cases hn : n < 10
    · rw [TL.numL_lt hn] at h
      simp at h
      exact h
    · rw [TL.numL_step (by omega)] at h
      cases e : TL.numL (n / 10) with
      | nil => exact absurd e (TL.numL_ne _)
      | cons c l =>
        rw [e] at h
        have := ih (n / 10) (by omega) (by rw [e]; simpa using h)
        omega
theorem fig_mem {c : Nat} (h : 48 ≤ c ∧ c ≤ 57) : c ∈ cl "0123456789" := by
  have : ∀ c : Nat, c < 58 → 48 ≤ c → c ∈ cl "0123456789" := by decide +kernel
  exact this c (by omega) h.1
theorem whole_in_eq {z : Str} {n : Nat} {f : Int} (hz : cl z = TL.numL n) (h1 : (z.length : Int) ≤ f) (h2 : f ≤ 600) : f_whole_in [.sh (.str z), .sh (.int f)] = some (.ok (.sh (.int n)), []) := by
  have hne : cl z ≠ [] := by rw [hz]; exact TL.numL_ne n
  have hpos : 0 < z.length := by rw [← cl_len]; exact List.length_pos_iff.mpr hne
  have hdig : NumText.AllDigits (cl z) := by rw [hz]; exact TL.numL_digits n
  refine fn_eq (ef_in rfl ?_)
  unfold b_whole_in
  walk_at "w"
  refine wo (if_pos (by omega)) ?_
  walk_at "w"
  refine wtt (decide_eq_true (by omega)) ?_
  walk_at "w"
  refine wtf (by rw [decide_eq_true h1]; rfl) ?_
  walk_at "w"
  refine (lc_inv (fun es ρ acc => ∃ (us : List Nat) (k : Nat), es = us.map (fun c => Dt.str ⟨#[c]⟩) ∧ acc = List.replicate k (.bl true) ∧ k + us.length = z.length ∧ (∀ c ∈ us, 48 ≤ c ∧ c ≤ 57) ∧ ρ = [some (.sh (.str z)), some (.sh (.int f)), none]) ?_ (Q := fun acc ρ => acc = List.replicate z.length (.bl true) ∧ ρ = [some (.sh (.str z)), some (.sh (.int f)), none]) ?_ _ _ _ ⟨cl z, 0, rfl, rfl, by rw [cl_len]; omega, hdig, rfl⟩).imp ?_
  · rintro d es ρ acc ⟨us, k, e1, rfl, hk, hu, rfl⟩
    cases us with
    | nil => cases e1
    | cons c us =>
      cases e1
      walk_at "w"
      rw [List.length_cons] at hk
      refine ⟨by rw [List.length_replicate]; omega, ?_⟩
      walk_at "w"
      exact ⟨us, k + 1, rfl, by rw [List.replicate_succ', decide_eq_true (fig_mem (hu c (by simp)))], by omega, fun c hc => hu c (by simp [hc]), rfl⟩
  · rintro ρ acc ⟨us, k, e1, rfl, hk, hu, rfl⟩
    cases us with
    | cons c us => cases e1
    | nil => exact ⟨by rw [← hk]; rfl, rfl⟩
  · rintro _ _ ⟨rfl, rfl⟩
    walk_at "w"
    refine wo (show dAll _ = some (.bl true) by unfold dAll; dsimp only; rw [bools_rep]; simp) ?_
    walk_at "w"
    cases e : cl z with
    | nil => exact absurd e hne
    | cons c l =>
      have hx : dIx (.str z) (.int 0) = some (.str ⟨#[c]⟩) := by
        exact Nx.ix (i := 0) (by omega) (by rw [← e]; exact Nx.all z)
      refine wo hx ?_
      walk_at "w"
      have hi : intText? z = some (n : Int) := by
        have := intText_digits (x := z) hdig hne (by omega)
        rw [show z.cps.toList = TL.numL n from hz, TL.numL_val] at this
        exact this
      have hint : dInt [.str z] = some (.int n) := by
        unfold dInt
        dsimp only
        rw [hi]
        exact if_pos (by omega)
      refine wd (fun e0 => ?_) (fun e0 => ?_)
      · have e48 : c = 48 := by
          have := congrArg cl e0
          have e2 : cl (Str.ofString "0") = [48] := by decide +kernel
          rw [e2, show cl (⟨#[c]⟩ : Str) = [c] from rfl] at this
          simpa using this
        subst e48
        have hn0 := numL_zero (n := n) (by rw [← hz, e]; rfl)
        subst hn0
        have hz0 : z = Str.ofString "0" := cl_inj (by rw [hz, TL.numL_lt (by decide)]; decide +kernel)
        walk_at "w"
        refine wtf (by rw [decide_eq_true hz0]; rfl) ?_
        walk_at "w"
        refine wo hint ?_
        walk_at "w"
        exact ⟨rfl, rfl⟩
      · walk_at "w"
        refine wo hint ?_
        walk_at "w"
        exact ⟨rfl, rfl⟩
/-! amounts read -/
def FR (k : Nat) (q : Rat) : Prop := q.num.natAbs < 10 ^ k ∧ q.den < 10 ^ k
theorem FR.mono {j k : Nat} {q : Rat} (h : FR j q) (hk : j ≤ k) : FR k q := ⟨Nat.lt_of_lt_of_le h.1 (Nat.pow_le_pow_right (by decide) hk), Nat.lt_of_lt_of_le h.2 (Nat.pow_le_pow_right (by decide) hk)⟩
theorem FR.txr {q : Rat} (h : FR 200 q) : TxR q := by
  have e : 10 ^ 200 ≤ 2 ^ 1900 := by decide +kernel
  refine ⟨log2_lt (k := 1920) (by decide) (Nat.lt_of_lt_of_le (Nat.lt_of_lt_of_le h.1 e) (Nat.pow_le_pow_right (by decide) (by decide))), log2_lt (k := 1920) (by decide) ?_⟩
  rw [Int.natAbs_natCast]
  exact Nat.lt_of_lt_of_le (Nat.lt_of_lt_of_le h.2 e) (Nat.pow_le_pow_right (by decide) (by decide))
theorem starts_no {z : Str} (h : (cl z).head? ≠ some 45) : Txt.startswith z "-" = false := by
  unfold Txt.startswith
  rw [PySem.StrLaws.subAt_eq]
  have e : (Str.ofString "-").cps.toList = [45] := by decide +kernel
  have e2 : (Str.ofString "-").length = 1 := by decide +kernel
  rw [e, e2]
  cases e3 : z.cps.toList with
  | nil => rw [List.drop_zero, List.take_nil]; exact Bool.and_false _
  | cons c l =>
    have : c ≠ 45 := by
      intro h2
      subst h2
      apply h
      rw [show cl z = 45 :: l from e3]
      rfl
    rw [List.drop_zero, show List.take 1 (c :: l) = [c] from rfl, show ([c] == [45]) = false by simp [this]]
    exact Bool.and_false _
theorem starts_yes {z : Str} {l : List Nat} (h : cl z = 45 :: l) : Txt.startswith z "-" = true := by
  unfold Txt.startswith
  rw [PySem.StrLaws.subAt_eq]
  have e : (Str.ofString "-").cps.toList = [45] := by decide +kernel
  have e2 : (Str.ofString "-").length = 1 := by decide +kernel
  have hl := cl_len z
  rw [h] at hl
  rw [e, e2, show z.cps.toList = 45 :: l from h, decide_eq_true (by rw [List.length_cons] at hl; omega)]
  rfl
theorem slash_cl : cl (Str.ofString "/") = [47] := by decide +kernel
theorem part_one {z : Str} (h : 47 ∉ cl z) (hl : z.length ≤ 100000) : mPart z (.str "/") = some (.tup [.str z, .str Str.empty, .str Str.empty]) := by
  unfold mPart
  dsimp only
  rw [if_pos ⟨by decide +kernel, hl⟩, TL.partition_none (s := 47) (S := []) slash_cl h]
theorem part_two {a b : Str} (h : 47 ∉ cl a) (hl : (a ++ "/" ++ b).length ≤ 100000) : mPart (a ++ "/" ++ b) (.str "/") = some (.tup [.str a, .str "/", .str b]) := by
  unfold mPart
  dsimp only
  rw [if_pos ⟨by decide +kernel, hl⟩, TL.partition_app (s := 47) (S := []) slash_cl h]
theorem slD1 {z : Str} {l : List Nat} {c : Nat} (h : cl z = c :: l) (hl : z.length ≤ 1000000) : dSl (.str z) (some 1) none = some (.str ⟨l.toArray⟩) := by
  have h2 := cl_len z
  rw [h, List.length_cons] at h2
  show (if _ then _ else _) = _
  rw [if_pos hl]
  unfold L2.cutS
  rw [show ((1 : Int)) = ((1 : Nat) : Int) from rfl, HT.sIx_nat, HT.sIx_none, Nat.min_eq_left (by omega), show z.cps.toList = c :: l from h]
  simp only [List.drop_succ_cons, List.drop_zero]
  rw [List.take_of_length_le (by omega)]
theorem low_self (q : Rat) : lowI q.num (q.den : Int) = ofR q := by
  rw [lowI_val (by have := q.den_nz; omega), Rat.num_divInt_den]
theorem sm_den {q : Rat} (h : FR 200 q) : Sm (q.den : Int) := by
  refine sm_of (k := 1900) ?_ (by decide)
  rw [Int.natAbs_natCast]
  exact Nat.lt_of_lt_of_le h.2 (by decide +kernel)
/-- the sign and the figures ahead of the line -/
theorem num_cases (q : Rat) : (∃ n : Nat, q.num = n ∧ q.num.natAbs = n ∧ cl (iT q.num) = TL.numL n) ∨ ∃ n : Nat, q.num = -((n + 1 : Nat) : Int) ∧ q.num.natAbs = n + 1 ∧ cl (iT q.num) = 45 :: TL.numL (n + 1) := by
  cases e : q.num with
  | ofNat n => exact .inl ⟨n, rfl, rfl, cl_nat n⟩
  | negSucc n => exact .inr ⟨n, rfl, rfl, cl_neg n⟩
theorem read_amount_eq {q : Rat} (h : FR 200 q) : f_read_amount [.sh (.str (amT q)), .sh (.int 200)] = some (.ok (.sh (amR q)), []) := by
  have hx := h.txr
  have hal := amT_len hx
  have hden : cl (iT (q.den : Int)) = TL.numL q.den := cl_nat q.den
  have hdl := TL.numL_len (k := 200) (by decide) h.2
  have hnl := TL.numL_len (k := 200) (by decide) h.1
  have hd0 := q.den_nz
  have l1 := cl_len (iT q.num)
  have l2 := cl_len (iT (q.den : Int))
  have em : ¬ (Str.empty = Str.ofString "") → False := by decide +kernel
  refine fn_eq (ef_in rfl ?_)
  unfold b_read_amount
  by_cases hd : (q.den : Int) = 1
  · have eT : amT q = iT q.num := if_pos hd
    rw [eT] at hal ⊢
    rcases num_cases q with ⟨n, e1, e2, e3⟩ | ⟨n, e1, e2, e3⟩
    · have hs : 47 ∉ cl (iT q.num) := by rw [e3]; exact TL.numL_free (by decide)
      have hst : Txt.startswith (iT q.num) "-" = false := starts_no (by rw [e3]; intro hh; have := TL.numL_digits n 45 (List.mem_of_mem_head? hh); omega)
      rw [e3] at l1
      rw [e2] at hnl
      have hl := low_self q
      rw [e1, hd] at hl
      walk_at "w"
      refine wo (part_one hs (by omega)) ?_
      walk_at "w"
      refine wtf hst ?_
      walk_at "w"
      refine (ef_at (whole_in_eq e3 (by omega) (by decide)) ?_).h
      walk_at "w"
      refine wtf hst ?_
      walk_at "w"
      refine lowest_ev (by decide) (sm_nat (by decide)) ?_
      rw [hl]
      walk_at "w"
      refine amount_text_ev hx ?_
      walk_at "w"
      refine wtf (by rw [decide_eq_true eT]; rfl) ?_
      walk_at "w"
      exact ⟨rfl, rfl⟩
    · have hs : 47 ∉ cl (iT q.num) := by rw [e3]; exact fun hh => (List.mem_cons.mp hh).elim (by decide) (TL.numL_free (by decide))
      have hst : Txt.startswith (iT q.num) "-" = true := starts_yes e3
      rw [e3] at l1
      rw [e2] at hnl
      rw [List.length_cons] at l1
      have hl := low_self q
      rw [e1, hd] at hl
      walk_at "w"
      refine wo (part_one hs (by omega)) ?_
      walk_at "w"
      refine wtt hst ?_
      walk_at "w"
      refine wo (slD1 e3 (by omega)) ?_
      walk_at "w"
      refine (ef_at (whole_in_eq (n := n + 1) (by rfl) (by show ((TL.numL (n + 1)).toArray.size : Int) ≤ 200; rw [List.size_toArray]; omega) (by decide)) ?_).h
      walk_at "w"
      refine wtt hst ?_
      walk_at "w"
      refine lowest_ev (by decide) (sm_nat (by decide)) ?_
      rw [hl]
      walk_at "w"
      refine amount_text_ev hx ?_
      walk_at "w"
      refine wtf (by rw [decide_eq_true eT]; rfl) ?_
      walk_at "w"
      exact ⟨rfl, rfl⟩
  · have eT : amT q = iT q.num ++ "/" ++ iT (q.den : Int) := if_neg hd
    rw [hden] at l2
    rw [eT] at hal ⊢
    rcases num_cases q with ⟨n, e1, e2, e3⟩ | ⟨n, e1, e2, e3⟩
    · have hs : 47 ∉ cl (iT q.num) := by rw [e3]; exact TL.numL_free (by decide)
      have hst : Txt.startswith (iT q.num) "-" = false := starts_no (by rw [e3]; intro hh; have := TL.numL_digits n 45 (List.mem_of_mem_head? hh); omega)
      rw [e3] at l1
      rw [e2] at hnl
      have hl := low_self q
      rw [e1] at hl
      walk_at "w"
      refine wo (part_two hs (by omega)) ?_
      walk_at "w"
      refine wtf hst ?_
      walk_at "w"
      refine (ef_at (whole_in_eq e3 (by omega) (by decide)) ?_).h
      walk_at "w"
      refine (ef_at (whole_in_eq hden (by omega) (by decide)) ?_).h
      walk_at "w"
      refine wtf (decide_eq_false (by omega)) ?_
      walk_at "w"
      refine wtf hst ?_
      walk_at "w"
      refine lowest_ev (by omega) (sm_den h) ?_
      rw [hl]
      walk_at "w"
      refine amount_text_ev hx ?_
      walk_at "w"
      refine wtf (by rw [decide_eq_true eT]; rfl) ?_
      walk_at "w"
      exact ⟨rfl, rfl⟩
    · have hs : 47 ∉ cl (iT q.num) := by rw [e3]; exact fun hh => (List.mem_cons.mp hh).elim (by decide) (TL.numL_free (by decide))
      have hst : Txt.startswith (iT q.num) "-" = true := starts_yes e3
      rw [e3] at l1
      rw [e2] at hnl
      rw [List.length_cons] at l1
      have hl := low_self q
      rw [e1] at hl
      walk_at "w"
      refine wo (part_two hs (by omega)) ?_
      walk_at "w"
      refine wtt hst ?_
      walk_at "w"
      refine wo (slD1 e3 (by omega)) ?_
      walk_at "w"
      refine (ef_at (whole_in_eq (n := n + 1) (by rfl) (by show ((TL.numL (n + 1)).toArray.size : Int) ≤ 200; rw [List.size_toArray]; omega) (by decide)) ?_).h
      walk_at "w"
      refine (ef_at (whole_in_eq hden (by omega) (by decide)) ?_).h
      walk_at "w"
      refine wtf (decide_eq_false (by omega)) ?_
      walk_at "w"
      refine wtt hst ?_
      walk_at "w"
      refine lowest_ev (by omega) (sm_den h) ?_
      rw [hl]
      walk_at "w"
      refine amount_text_ev hx ?_
      walk_at "w"
      refine wtf (by rw [decide_eq_true eT]; rfl) ?_
      walk_at "w"
      exact ⟨rfl, rfl⟩
/-! things that are no notes and no values -/
def Stop (r : List Nat) : Prop := ∀ c, r.head? = some c → c = 44 ∨ c = 41
theorem com_cl : cl (Str.ofString ",)") = [44, 41] := by decide +kernel
theorem plain_loop {z sgn : Str} {i : Nat} {w r : List Nat} {N : Rho → Prop} {R : Wt → Rho → Prop} (hz : z.length ≤ 100000) (h : Nx z i (w ++ r)) (hw : ∀ c ∈ w, c ≠ 44 ∧ c ≠ 41) (hr : Stop r) (hl : w.length < 1000)
    (k : N [some (.sh (.str z)), some (.sh (.int i)), some (.sh (.str sgn)), some (.sh (.int ((i + w.length : Nat) : Int))), none]) :
    EvS (whileD (eAnd (eOp dLt (eVar 3) (eCB dLen (aVal (eVar 0) aNil))) (eOp dNotIn (eOp dIx (eVar 0) (eVar 3)) (eC (.str ",)")))) (sAugI 3 (eC (.int 1))) 1000)
      [some (.sh (.str z)), some (.sh (.int i)), some (.sh (.str sgn)), some (.sh (.int i)), none] N R := by
  refine while_inv (fun ρ => ∃ u v, u ++ v = w ∧ ρ = [some (.sh (.str z)), some (.sh (.int i)), some (.sh (.str sgn)), some (.sh (.int ((i + u.length : Nat) : Int))), none]) (fun ρ => i + w.length - slotN ρ 3) ?_ _ _ ⟨[], w, rfl, rfl⟩ ?_
  · rintro ρ ⟨u, v, rfl, rfl⟩
    have h2 : Nx z (i + u.length) (v ++ r) := Nx.adv (by rw [← List.append_assoc]; exact h)
    have hle := h2.len
    walk_at "w"
    refine wo (if_pos (by omega)) ?_
    walk_at "w"
    refine wd (fun e => ?_) (fun e => ?_)
    · walk_at "w"
      cases v with
      | cons c v =>
        refine wo (h2.ix hz) ?_
        walk_at "w"
        refine wtt ?_ ?_
        · have := hw c (by simp)
          rw [show (Str.ofString ",)").cps.toList = [44, 41] from com_cl, decide_eq_false (by simp; exact this)]
          rfl
        walk_at "w"
        refine ⟨⟨u ++ [c], v, by simp, ?_⟩, ?_⟩
        · rw [List.length_append]; rfl
        · show i + (u ++ c :: v).length - (((i + u.length : Nat) : Int) + 1).natAbs < i + (u ++ c :: v).length - (((i + u.length : Nat) : Int)).natAbs
          simp only [List.length_append, List.length_cons]
          omega
      | nil =>
        cases r with
        | nil => simp at hle; omega
        | cons c r =>
          refine wo (h2.ix hz) ?_
          walk_at "w"
          refine wtf ?_ ?_
          · have := hr c rfl
            rw [show (Str.ofString ",)").cps.toList = [44, 41] from com_cl, decide_eq_true (by simp; exact this)]
            rfl
          walk_at "w"
          rw [List.append_nil] at k
          exact k
    · walk_at "w"
      cases v with
      | cons c v => rw [List.length_append, List.length_cons] at hle; omega
      | nil => rw [List.append_nil] at k; exact k
  · show i + w.length - (i : Int).natAbs < 1000
    omega
theorem amT_cl {q : Rat} : ∀ c ∈ cl (amT q), 45 ≤ c ∧ c ≤ 57 := by
  have hn : ∀ c ∈ cl (iT q.num), 45 ≤ c ∧ c ≤ 57 := by
    intro c hc
    rcases num_cases q with ⟨n, _, _, e3⟩ | ⟨n, _, _, e3⟩
    · rw [e3] at hc
      have := TL.numL_digits n c hc
      omega
    · rw [e3] at hc
      rcases List.mem_cons.mp hc with rfl | hc
      · decide
      · have := TL.numL_digits _ c hc
        omega
  unfold amT
  split
  · exact hn
  · intro c hc
    rw [cl_app, cl_app, List.mem_append, List.mem_append] at hc
    rcases hc with (hc | hc) | hc
    · exact hn c hc
    · rw [slash_cl] at hc
      rw [List.mem_singleton.mp hc]
      decide
    · rw [cl_nat] at hc
      have := TL.numL_digits _ c hc
      omega
theorem amT_len2 {q : Rat} (h : FR 200 q) : (amT q).length ≤ 402 := by
  have hdl := TL.numL_len (k := 200) (by decide) h.2
  have hnl := TL.numL_len (k := 200) (by decide) h.1
  have l1 := cl_len (iT q.num)
  have l2 := cl_len (iT (q.den : Int))
  rw [cl_nat] at l2
  have hn : (iT q.num).length ≤ 201 := by
    rcases num_cases q with ⟨n, _, e2, e3⟩ | ⟨n, _, e2, e3⟩
    · rw [e3] at l1; rw [e2] at hnl; omega
    · rw [e3, List.length_cons] at l1; rw [e2] at hnl; omega
  have l3 : (Str.ofString "/").length = 1 := by decide +kernel
  unfold amT
  split
  · omega
  · rw [s_len, s_len, l3]
    omega
section
variable {z : Str} {i : Nat} {r : List Nat}
theorem plain_am {s : Str} (hs : s = "a" ∨ s = "q") {q : Rat} (hq : FR 200 q) (hz : z.length ≤ 100000) (h : Nx z i (cl (amT q) ++ r)) (hr : Stop r) :
    f_plain_in [.sh (.str z), .sh (.int i), .sh (.str s)] = some (.ok (.sh (.tup [amR q, .int ((i + (amT q).length : Nat) : Int)])), []) := by
  have hl := amT_len2 hq
  have e := h.sl (by omega)
  rw [cl_len, ← Int.natCast_add, show (⟨(cl (amT q)).toArray⟩ : Str) = amT q from rfl] at e
  refine fn_eq (ef_in rfl ?_)
  unfold b_plain_in
  rcases hs with rfl | rfl <;>
  · walk_at "w"
    refine plain_loop hz h (fun c hc => by have := amT_cl c hc; omega) hr (by rw [cl_len]; omega) ?_
    rw [cl_len]
    walk_at "w"
    refine wo e ?_
    walk_at "w"
    refine (ef_at (read_amount_eq hq) ?_).h
    walk_at "w"
    exact ⟨rfl, rfl⟩
theorem plain_d {d : Int} (h0 : 0 ≤ d) (h6 : d ≤ 6) (hz : z.length ≤ 100000) (h : Nx z i (cl (iT d) ++ r)) (hr : Stop r) :
    f_plain_in [.sh (.str z), .sh (.int i), .sh (.str "d")] = some (.ok (.sh (.tup [.int d, .int ((i + (iT d).length : Nat) : Int)])), []) := by
  obtain ⟨n, rfl⟩ := Int.eq_ofNat_of_zero_le h0
  have e1 : cl (iT (n : Int)) = [48 + n] := by rw [cl_nat, TL.numL_lt (by omega)]
  have hl : (iT (n : Int)).length = 1 := by rw [← cl_len, e1]; rfl
  have e := h.sl (by omega)
  rw [cl_len, ← Int.natCast_add, show (⟨(cl (iT (n : Int))).toArray⟩ : Str) = iT (n : Int) from rfl] at e
  refine fn_eq (ef_in rfl ?_)
  unfold b_plain_in
  walk_at "w"
  refine plain_loop hz h (fun c hc => by rw [e1] at hc; have := List.mem_singleton.mp hc; omega) hr (by rw [cl_len]; omega) ?_
  rw [cl_len]
  walk_at "w"
  refine wo e ?_
  walk_at "w"
  refine (ef_at (whole_in_eq (n := n) (cl_nat n) (by omega) (by decide)) ?_).h
  walk_at "w"
  exact ⟨rfl, rfl⟩
theorem plain_s {s x : Str} (hs : s = "m" ∨ s = "o" ∨ s = "s") (hx : ∀ c ∈ cl x, 97 ≤ c) (hl : x.length ≤ 500) (hz : z.length ≤ 100000) (h : Nx z i (cl x ++ r)) (hr : Stop r) :
    f_plain_in [.sh (.str z), .sh (.int i), .sh (.str s)] = some (.ok (.sh (.tup [.str x, .int ((i + x.length : Nat) : Int)])), []) := by
  have e := h.sl (by omega)
  rw [cl_len, ← Int.natCast_add, show (⟨(cl x).toArray⟩ : Str) = x from rfl] at e
  refine fn_eq (ef_in rfl ?_)
  unfold b_plain_in
  rcases hs with rfl | rfl | rfl <;>
  · walk_at "w"
    refine plain_loop hz h (fun c hc => by have := hx c hc; omega) hr (by rw [cl_len]; omega) ?_
    rw [cl_len]
    walk_at "w"
    refine wo e ?_
    walk_at "w"
    exact ⟨rfl, rfl⟩
end
end Lw
namespace DL
open PySem PySem.Spec PyProof.Rows L2 RZ
/-! ### runs that may end by an exception: X says which -/
abbrev XP := Str → List (Str × Dt) → Prop
def EvE2 (f : FE) (ρ : Rho) (Q : Dt → Rho → Prop) (X : XP) : Prop := EvE f ρ Q ∨ ∃ c fs ρ', f ρ = some (.ex c fs, ρ') ∧ X c fs
def EvW2 (f : FW) (ρ : Rho) (Q : Wt → Rho → Prop) (X : XP) : Prop := EvW f ρ Q ∨ ∃ c fs ρ', f ρ = some (.ex c fs, ρ') ∧ X c fs
def EvA2 (f : FA) (ρ : Rho) (Q : List Av → Rho → Prop) (X : XP) : Prop := EvA f ρ Q ∨ ∃ c fs ρ', f ρ = some (.ex c fs, ρ') ∧ X c fs
def EvS2 (f : FS) (ρ : Rho) (N : Rho → Prop) (R : Wt → Rho → Prop) (X : XP) : Prop := EvS f ρ N R ∨ ∃ c fs ρ', f ρ = some (.ex c fs, ρ') ∧ X c fs
def EvF2 (g : FnD) (ws : List Aw) (Q : Wt → List (List Dt) → Prop) (X : XP) : Prop := EvF g ws Q ∨ ∃ c fs cs, g ws = some (.ex c fs, cs) ∧ X c fs
class WqE (f : FE) where
  wq : Rho → (Dt → Rho → Prop) → XP → Prop
  ok : ∀ {ρ : Rho} {Q : Dt → Rho → Prop} {X : XP}, wq ρ Q X → EvE2 f ρ Q X
class WqW (f : FW) where
  wq : Rho → (Wt → Rho → Prop) → XP → Prop
  ok : ∀ {ρ : Rho} {Q : Wt → Rho → Prop} {X : XP}, wq ρ Q X → EvW2 f ρ Q X
class WqA (f : FA) where
  wq : Rho → (List Av → Rho → Prop) → XP → Prop
  ok : ∀ {ρ : Rho} {Q : List Av → Rho → Prop} {X : XP}, wq ρ Q X → EvA2 f ρ Q X
class WqS (f : FS) where
  wq : Rho → (Rho → Prop) → (Wt → Rho → Prop) → XP → Prop
  ok : ∀ {ρ : Rho} {N : Rho → Prop} {R : Wt → Rho → Prop} {X : XP}, wq ρ N R X → EvS2 f ρ N R X
section
variable {f fa fb fc : FE} {r k : FA} {w wa wb : FW} {fi : FI} {a b : FS} {X : XP}
instance (priority := low) y_E [WpE f] : WqE f := ⟨fun ρ Q _ => WpE.wp f ρ Q, fun h => .inl (WpE.ok h)⟩
instance (priority := low) y_W [WpW w] : WqW w := ⟨fun ρ Q _ => WpW.wp w ρ Q, fun h => .inl (WpW.ok h)⟩
instance (priority := low) y_A [WpA r] : WqA r := ⟨fun ρ Q _ => WpA.wp r ρ Q, fun h => .inl (WpA.ok h)⟩
instance (priority := low) y_S [WpS a] : WqS a := ⟨fun ρ N R _ => WpS.wp a ρ N R, fun h => .inl (WpS.ok h)⟩
theorem ev2_bind {g : Dt → FE} {ρ : Rho} {Q : Dt → Rho → Prop} (h : EvE2 fa ρ (fun d ρ1 => EvE2 (g d) ρ1 Q X) X) : EvE2 (bindE fa g) ρ Q X := by
  rcases h with ⟨d, ρ1, e, ⟨d2, ρ2, e2, q⟩ | ⟨c, fs, ρ2, e2, q⟩⟩ | ⟨c, fs, ρ1, e, q⟩
  · exact .inl ⟨d2, ρ2, by unfold bindE; simp only [e, e2], q⟩
  · exact .inr ⟨c, fs, ρ2, by unfold bindE; simp only [e, e2], q⟩
  · exact .inr ⟨c, fs, ρ1, by unfold bindE; simp only [e], q⟩
theorem EvE2.imp {ρ : Rho} {Q Q' : Dt → Rho → Prop} (h : EvE2 f ρ Q X) (k : ∀ d ρ1, Q d ρ1 → Q' d ρ1) : EvE2 f ρ Q' X := h.elim (fun h => .inl (h.imp k)) .inr
theorem EvW2.imp {ρ : Rho} {Q Q' : Wt → Rho → Prop} (h : EvW2 w ρ Q X) (k : ∀ d ρ1, Q d ρ1 → Q' d ρ1) : EvW2 w ρ Q' X := h.elim (fun h => .inl (h.imp k)) .inr
theorem EvA2.imp {ρ : Rho} {Q Q' : List Av → Rho → Prop} (h : EvA2 r ρ Q X) (k : ∀ d ρ1, Q d ρ1 → Q' d ρ1) : EvA2 r ρ Q' X := h.elim (fun h => .inl (h.imp k)) .inr
theorem EvS2.imp {ρ : Rho} {N N' : Rho → Prop} {R R' : Wt → Rho → Prop} (h : EvS2 a ρ N R X) (k : ∀ ρ1, N ρ1 → N' ρ1) (k2 : ∀ w ρ1, R w ρ1 → R' w ρ1) : EvS2 a ρ N' R' X := h.elim (fun h => .inl (h.imp k k2)) .inr
theorem EvF2.imp {g : FnD} {ws : List Aw} {Q Q' : Wt → List (List Dt) → Prop} {X' : XP} (h : EvF2 g ws Q X) (k : ∀ d cs, Q d cs → Q' d cs) (k2 : ∀ c fs, X c fs → X' c fs) : EvF2 g ws Q' X' := h.elim (fun h => .inl (h.imp k)) fun ⟨c, fs, cs, e, q⟩ => .inr ⟨c, fs, cs, e, k2 c fs q⟩
instance y_op {o : Dt → Dt → Option Dt} [WqE fa] [WqE fb] : WqE (eOp o fa fb) :=
  ⟨fun ρ Q X => WqE.wq fa ρ (fun d ρ1 => WqE.wq fb ρ1 (fun e ρ2 => wO (o d e) fun g => Q g ρ2) X) X, fun h => ev2_bind ((WqE.ok h).imp fun _ _ h => ev2_bind ((WqE.ok h).imp fun _ _ h => by
    obtain ⟨g, e, h⟩ := h.ex
    exact .inl (ev_V e h)))⟩
instance y_un {o : Dt → Option Dt} [WqE fa] : WqE (eUn o fa) :=
  ⟨fun ρ Q X => WqE.wq fa ρ (fun d ρ1 => wO (o d) fun g => Q g ρ1) X, fun h => ev2_bind ((WqE.ok h).imp fun _ _ h => by
    obtain ⟨g, e, h⟩ := h.ex
    exact .inl (ev_V e h))⟩
theorem ev2_ite {ρ : Rho} {Q : Dt → Rho → Prop} (h : EvE2 fc ρ (fun d ρ1 => EvB d (EvE2 fa ρ1 Q X) (EvE2 fb ρ1 Q X)) X) : EvE2 (eIte fc fa fb) ρ Q X := by
  refine ev2_bind (h.imp fun d ρ1 h => ?_)
  obtain ⟨b, rfl, h1, h2⟩ := h.ex
  cases b with
  | true => exact h1 rfl
  | false => exact h2 rfl
instance y_ite [WqE fa] [WqE fb] [WqE fc] : WqE (eIte fc fa fb) :=
  ⟨fun ρ Q X => WqE.wq fc ρ (fun d ρ1 => wB d (WqE.wq fa ρ1 Q X) (WqE.wq fb ρ1 Q X)) X, fun h => ev2_ite ((WqE.ok h).imp fun _ _ h => h.evb.imp (fun h => WqE.ok h) fun h => WqE.ok h)⟩
instance y_and [WqE fa] [WqE fb] : WqE (eAnd fa fb) :=
  ⟨fun ρ Q X => WqE.wq fa ρ (fun d ρ1 => wB d (WqE.wq fb ρ1 Q X) (Q (.bl false) ρ1)) X, fun h => ev2_ite ((WqE.ok h).imp fun _ _ h => h.evb.imp (fun h => WqE.ok h) fun h => .inl (ev_c h))⟩
instance y_or [WqE fa] [WqE fb] : WqE (eOr fa fb) :=
  ⟨fun ρ Q X => WqE.wq fa ρ (fun d ρ1 => wB d (Q (.bl true) ρ1) (WqE.wq fb ρ1 Q X)) X, fun h => ev2_ite ((WqE.ok h).imp fun _ _ h => h.evb.imp (fun h => .inl (ev_c h)) fun h => WqE.ok h)⟩
instance y_not [WqE fa] : WqE (eNot fa) := ⟨fun ρ Q X => WqE.wq fa ρ (fun d ρ1 => wO (dNot d) fun g => Q g ρ1) X, fun h => (y_un (o := dNot)).ok h⟩
instance y_frz [WqW w] : WqE (eFrz w) := ⟨fun ρ Q X => WqW.wq w ρ (fun x ρ1 => frzQ x fun d => Q d ρ1) X, fun {ρ Q X} h => by
  rcases WqW.ok h with h | ⟨c, fs, ρ1, e, q⟩
  · exact .inl (ev_frz (h.imp fun x _ h => by cases x <;> exact h))
  · exact .inr ⟨c, fs, ρ1, by unfold eFrz; simp only [e], q⟩⟩
instance y_val [WqE f] [WqA r] : WqA (aVal f r) :=
  ⟨fun ρ Q X => WqE.wq f ρ (fun d ρ1 => WqA.wq r ρ1 (fun as ρ2 => Q (.val d :: as) ρ2) X) X, fun {ρ Q X} h => by
    rcases WqE.ok h with ⟨d, ρ1, e, h⟩ | ⟨c, fs, ρ1, e, q⟩
    · rcases WqA.ok h with ⟨as, ρ2, e2, q⟩ | ⟨c, fs, ρ2, e2, q⟩
      · exact .inl ⟨_, ρ2, by unfold aVal bindEA; simp only [e, e2], q⟩
      · exact .inr ⟨c, fs, ρ2, by unfold aVal bindEA; simp only [e, e2], q⟩
    · exact .inr ⟨c, fs, ρ1, by unfold aVal bindEA; simp only [e], q⟩⟩
instance y_tmp [WqW w] : WqA (aTmp w) :=
  ⟨fun ρ Q X => WqW.wq w ρ (fun x ρ1 => tmpA x fun as => Q as ρ1) X, fun {ρ Q X} h => by
    rcases WqW.ok h with h | ⟨c, fs, ρ1, e, q⟩
    · exact .inl (ea_tmp (h.imp fun x _ h => by cases x <;> exact h))
    · exact .inr ⟨c, fs, ρ1, by unfold aTmp; simp only [e], q⟩⟩
instance y_tup [WqA r] : WqE (eTup r) :=
  ⟨fun ρ Q X => WqA.wq r ρ (fun as ρ1 => wO (vals as) fun ds => wC (Nat.ble ds.length 100000) (fL ds fun es => Q (.tup es) ρ1)) X, fun {ρ Q X} h => by
    rcases WqA.ok h with h | ⟨c, fs, ρ1, e, q⟩
    · exact .inl (ev_tup (h.imp fun _ _ h => by
        obtain ⟨ds, e, h⟩ := h.ex
        obtain ⟨l, h⟩ := h.ex
        exact ⟨ds, e, Nat.le_of_ble_eq_true l, by have q := fL_ok ds _ h; exact q⟩))
    · exact .inr ⟨c, fs, ρ1, by unfold eTup bindAE; simp only [e], q⟩⟩
instance y_lst [WqA r] : WqW (wLst r) :=
  ⟨fun ρ Q X => WqA.wq r ρ (fun as ρ1 => wO (vals as) fun ds => wC (Nat.ble ds.length 100000) (fL ds fun es => Q (.own es) ρ1)) X, fun {ρ Q X} h => by
    rcases WqA.ok h with h | ⟨c, fs, ρ1, e, q⟩
    · exact .inl (ew_lst (h.imp fun _ _ h => by
        obtain ⟨ds, e, h⟩ := h.ex
        obtain ⟨l, h⟩ := h.ex
        exact ⟨ds, e, Nat.le_of_ble_eq_true l, by have q := fL_ok ds _ h; exact q⟩))
    · exact .inr ⟨c, fs, ρ1, by unfold wLst bindAW; simp only [e], q⟩⟩
instance y_sh [WqE f] : WqW (wSh f) := ⟨fun ρ Q X => WqE.wq f ρ (fun d ρ1 => Q (.sh d) ρ1) X, fun {ρ Q X} h => by
  rcases WqE.ok h with h | ⟨c, fs, ρ1, e, q⟩
  · exact .inl (ew_sh h)
  · exact .inr ⟨c, fs, ρ1, by unfold wSh bindEW; simp only [e], q⟩⟩
instance y_iteW [WqE fc] [WqW wa] [WqW wb] : WqW (wIte fc wa wb) :=
  ⟨fun ρ Q X => WqE.wq fc ρ (fun d ρ1 => wB d (WqW.wq wa ρ1 Q X) (WqW.wq wb ρ1 Q X)) X, fun {ρ Q X} h => by
    rcases WqE.ok h with ⟨d, ρ1, e, h⟩ | ⟨c, fs, ρ1, e, q⟩
    · obtain ⟨x, rfl, h1, h2⟩ := h.evb.ex
      cases x with
      | true =>
        rcases WqW.ok (h1 rfl) with ⟨y, ρ2, e2, q⟩ | ⟨c, fs, ρ2, e2, q⟩
        · exact .inl ⟨y, ρ2, by unfold wIte bindEW; simp only [e, e2], q⟩
        · exact .inr ⟨c, fs, ρ2, by unfold wIte bindEW; simp only [e, e2], q⟩
      | false =>
        rcases WqW.ok (h2 rfl) with ⟨y, ρ2, e2, q⟩ | ⟨c, fs, ρ2, e2, q⟩
        · exact .inl ⟨y, ρ2, by unfold wIte bindEW; simp only [e, e2], q⟩
        · exact .inr ⟨c, fs, ρ2, by unfold wIte bindEW; simp only [e, e2], q⟩
    · exact .inr ⟨c, fs, ρ1, by unfold wIte bindEW; simp only [e], q⟩⟩
def callW2 (n : Nat) (g : FnD) (as : List Av) (ρ1 : Rho) (Q : Wt → Rho → Prop) (X : XP) : Prop :=
  wO (toWs ρ1 as) fun ws => wC (Nat.beq ws.length n) (wC (nodB (slotsOf as)) (fL ws fun ws => At (EvF2 g ws (fun w cs => fL (putBack (slotsOf as) cs ρ1) fun ρ2 => Q w ρ2) X)))
instance y_call {n : Nat} {g : FnD} [WqA r] : WqW (wCall n g r) :=
  ⟨fun ρ Q X => WqA.wq r ρ (fun as ρ1 => callW2 n g as ρ1 Q X) X, fun {ρ Q X} h => by
    rcases WqA.ok h with ⟨as, ρ1, e, h⟩ | ⟨c, fs, ρ1, e, q⟩
    · obtain ⟨ws, e2, h⟩ := wO.ex h
      obtain ⟨l, h⟩ := h.ex
      obtain ⟨m, h⟩ := h.ex
      have h := fL_ok ws _ h
      have hc := And.intro (Nat.eq_of_beq_eq_true l) (nodB_ok m)
      rcases h.h with ⟨x, cs, e3, q⟩ | ⟨c, fs, cs, e3, q⟩
      · exact .inl ⟨x, _, by unfold wCall bindAW; simp only [e, e2, if_pos hc, e3], fL_ok _ _ q⟩
      · exact .inr ⟨c, fs, putBack (slotsOf as) cs ρ1, by unfold wCall bindAW; simp only [e, e2, if_pos hc, e3], q⟩
    · exact .inr ⟨c, fs, ρ1, by unfold wCall bindAW; simp only [e], q⟩⟩
instance y_seq [WqS a] [WqS b] : WqS (sSeq a b) := ⟨fun ρ N R X => WqS.wq a ρ (fun ρ1 => WqS.wq b ρ1 N R X) R X, fun {ρ N R X} h => by
  rcases WqS.ok h with (⟨ρ1, e, h⟩ | ⟨w, ρ1, e, h⟩) | ⟨c, fs, ρ1, e, q⟩
  · rcases WqS.ok h with (⟨ρ2, e2, h⟩ | ⟨w, ρ2, e2, h⟩) | ⟨c, fs, ρ2, e2, q⟩
    · exact .inl (.inl ⟨ρ2, by unfold sSeq; simp only [e, e2], h⟩)
    · exact .inl (.inr ⟨w, ρ2, by unfold sSeq; simp only [e, e2], h⟩)
    · exact .inr ⟨c, fs, ρ2, by unfold sSeq; simp only [e, e2], q⟩
  · exact .inl (.inr ⟨w, ρ1, by unfold sSeq; simp only [e], h⟩)
  · exact .inr ⟨c, fs, ρ1, by unfold sSeq; simp only [e], q⟩⟩
theorem sif_t {ρ ρ1 : Rho} (e : fc ρ = some (.ok (.bl true), ρ1)) : sIf fc a b ρ = a ρ1 := by unfold sIf bindES; simp only [e]
theorem sif_f {ρ ρ1 : Rho} (e : fc ρ = some (.ok (.bl false), ρ1)) : sIf fc a b ρ = b ρ1 := by unfold sIf bindES; simp only [e]
theorem EvS2.eq {ρ ρ' : Rho} {N : Rho → Prop} {R : Wt → Rho → Prop} {a b : FS} (e : a ρ = b ρ') (h : EvS2 b ρ' N R X) : EvS2 a ρ N R X := by
  unfold EvS2 EvS
  rw [e]
  exact h
instance y_if [WqE fc] [WqS a] [WqS b] : WqS (sIf fc a b) :=
  ⟨fun ρ N R X => WqE.wq fc ρ (fun d ρ1 => wB d (WqS.wq a ρ1 N R X) (WqS.wq b ρ1 N R X)) X, fun {ρ N R X} h => by
    rcases WqE.ok h with ⟨d, ρ1, e, h⟩ | ⟨c, fs, ρ1, e, q⟩
    · obtain ⟨x, rfl, h1, h2⟩ := h.evb.ex
      cases x with
      | true => exact (WqS.ok (h1 rfl)).eq (sif_t e)
      | false => exact (WqS.ok (h2 rfl)).eq (sif_f e)
    · exact .inr ⟨c, fs, ρ1, by unfold sIf bindES; simp only [e], q⟩⟩
instance y_asg {i : Nat} [WqW w] : WqS (sAsg i w) := ⟨fun ρ N _ X => WqW.wq w ρ (fun x ρ1 => fL (ρ1.set i (some x)) N) X, fun {ρ N R X} h => by
  rcases WqW.ok h with h | ⟨c, fs, ρ1, e, q⟩
  · exact .inl (es_asg (h.imp fun _ _ h => fL_ok _ _ h))
  · exact .inr ⟨c, fs, ρ1, by unfold sAsg bindWS; simp only [e], q⟩⟩
instance y_ret [WqW w] : WqS (sRet w) := ⟨fun ρ _ R X => WqW.wq w ρ R X, fun {ρ N R X} h => by
  rcases WqW.ok h with h | ⟨c, fs, ρ1, e, q⟩
  · exact .inl (es_ret h)
  · exact .inr ⟨c, fs, ρ1, by unfold sRet bindWS; simp only [e], q⟩⟩
instance y_asgT {g : GD} [WqE f] : WqS (sAsgT g f) := ⟨fun ρ N _ X => WqE.wq f ρ (fun d ρ1 => wO (g d ρ1) fun ρ2 => fL ρ2 N) X, fun {ρ N R X} h => by
  rcases WqE.ok h with h | ⟨c, fs, ρ1, e, q⟩
  · exact .inl (es_asgT (h.imp fun _ _ h => by
      obtain ⟨ρ2, e, h⟩ := h.ex
      exact ⟨ρ2, e, fL_ok _ _ h⟩))
  · exact .inr ⟨c, fs, ρ1, by unfold sAsgT bindES; simp only [e], q⟩⟩
instance y_raise0 {x : Str} {fs : List (Str × Dt)} : WqS (sRaise0 x fs) := ⟨fun _ _ _ X => X x fs, fun h => .inr ⟨x, fs, _, rfl, h⟩⟩
end
/-- a def without own lists, run from its arguments -/
theorem ef2_in {n : Nat} {fb : FS} {ws : List Aw} {Q : Wt → List (List Dt) → Prop} {X : XP} (hp : ownPos 0 ws = []) (h : Nrm (startW ws ++ List.replicate (n - ws.length) none) fun ρ0 => EvS2 fb ρ0 (fun _ => Q (.sh .non) []) (fun w _ => Q w []) X) : EvF2 (callF n [] fb) ws Q X := by
  rcases h with h | ⟨c, fs, ρ1, e, q⟩
  · exact .inl (ef_call hp (EvS.imp h (fun ρ h => ⟨[], rfl, h⟩) fun w ρ h => ⟨[], rfl, h⟩))
  · rw [← startW_eq] at e
    refine .inr ⟨c, fs, [], ?_, q⟩
    unfold callF
    rw [if_pos (by rw [hp]; rfl)]
    simp only [e, hp]
    rfl
theorem nrm_go2 {ρ : Rho} {f : FS} [WqS f] {N : Rho → Prop} {R : Wt → Rho → Prop} {X : XP} (h : fL ρ fun ρ0 => WqS.wq f ρ0 N R X) : Nrm ρ fun ρ0 => EvS2 f ρ0 N R X := WqS.ok (fL_ok _ _ h)
theorem ef2_ok {g : FnD} {ws : List Aw} {w : Wt} {cs : List (List Dt)} {Q : Wt → List (List Dt) → Prop} {X : XP} (e : g ws = some (.ok w, cs)) (h : Q w cs) : EvF2 g ws Q X := .inl ⟨w, cs, e, h⟩
theorem ef2_ex {g : FnD} {ws : List Aw} {c : Str} {fs : List (Str × Dt)} {cs : List (List Dt)} {Q : Wt → List (List Dt) → Prop} {X : XP} (e : g ws = some (.ex c fs, cs)) (h : X c fs) : EvF2 g ws Q X := .inr ⟨c, fs, cs, e, h⟩
theorem fn_ex {g : FnD} {ws : List Aw} {c : Str} {fs : List (Str × Dt)} (h : EvF2 g ws (fun _ _ => False) fun c' fs' => c' = c ∧ fs' = fs) : ∃ cs, g ws = some (.ex c fs, cs) := by
  rcases h with ⟨_, _, _, z⟩ | ⟨_, _, cs, e, rfl, rfl⟩
  · exact z.elim
  · exact ⟨cs, e⟩
/-! ### the asking def, run -/
instance p_why {tab : List (Str × List Str)} {cl : List (List Str × List Str)} {fe : FE} : WpE (eWhy tab cl fe) := ⟨fun ρ Q => At (EvE (eWhy tab cl fe) ρ Q), fun h => h.h, fun h k => h.mono fun h => h.imp k⟩
theorem why_run {tab : List (Str × List Str)} {cl : List (List Str × List Str)} {n : Nat} {g : FnD} {r : FA} {ρ : Rho} {Q : Dt → Rho → Prop}
    (h : EvA r ρ fun as ρ1 => ∃ ws, toWs ρ1 as = some ws ∧ ws.length = n ∧ slotsOf as = [] ∧ EvF2 g ws (fun w _ => ∃ d, w = .sh d ∧ Q (.tup [.str "told", d]) ρ1) (fun c fs => ∃ anc d, tab.lookup c = some anc ∧ (∀ ρ, eGo anc c fs cl ρ = some (.ok d, ρ)) ∧ Q d ρ1)) : EvE (eWhy tab cl (eFrz (wCall n g r))) ρ Q := by
  obtain ⟨as, ρ1, e, ws, e1, e2, e3, h⟩ := h
  have nd : (slotsOf as).Nodup := by rw [e3]; exact List.nodup_nil
  have pb : ∀ cs, putBack (slotsOf as) cs ρ1 = ρ1 := fun cs => by rw [e3]; rfl
  rcases h with ⟨w, cs, e4, d, rfl, q⟩ | ⟨c, fs, cs, e4, anc, d, ht, hg, q⟩
  · have k : eFrz (wCall n g r) ρ = some (.ok d, ρ1) := by
      unfold eFrz wCall bindAW
      simp only [e, e1, if_pos (And.intro e2 nd), e4, pb]
    exact ⟨_, ρ1, by unfold eWhy; rw [k], q⟩
  · have k : eFrz (wCall n g r) ρ = some (.ex c fs, ρ1) := by
      unfold eFrz wCall bindAW
      simp only [e, e1, if_pos (And.intro e2 nd), e4, pb]
    exact ⟨d, ρ1, by unfold eWhy; rw [k]; simp only [ht, hg], q⟩
end DL
namespace Lw
open PySem PySem.Spec PyProof.Rows L2 RZ DL
local macro_rules | `(tactic| walk_at "sm") => `(tactic| first | assumption | exact sm_of (k := 200) (by omega) (by decide) | exact sm_of (k := 200) (by decide) (by decide))
local macro_rules | `(tactic| walk_at "w1") => `(tactic| ((conv => whnf); (try refine At.mk ?_)))
local macro_rules | `(tactic| walk_at "wa") => `(tactic| first
  | refine wox (ex_mul (Sm.mul (by walk_at "sm") (by walk_at "sm")) ?_)
  | refine wox (ex_mod (by first | decide | omega | assumption) ?_)
  | refine wox (ex_fdiv (Sm.div (by walk_at "sm") (by first | decide | omega | assumption)) ?_))
local macro_rules | `(tactic| walk_at "w") => `(tactic| ((first | refine nrm_go ?_ | refine WpS.ok ?_ | refine WpE.ok ?_ | skip); walk_at "w1"))
local macro_rules | `(tactic| walk_at "wm") => `(tactic| (walk_at "w"; (repeat (walk_at "wa"; walk_at "w1"))))
local macro_rules | `(tactic| walk_at "v") => `(tactic| ((first | refine nrm_go2 ?_ | refine WqS.ok ?_ | skip); walk_at "w1"))
def b__law_amount_in (g__law_low : FnD) : FS :=
  (sSeq (sAsgT (gT 3 (gsCons (gN 2) (gsCons (gN 3) (gsCons (gN 4) gsNil)))) (eMS mPart (eVar 0) (eC (.str "/"))))
    (sSeq (sAsg 5 (wIte (eOp dEq (eSl (eVar 2) none (some (eC (.int 1)))) (eC (.str "-"))) (wSh (eSl (eVar 2) (some (eC (.int 1))) none)) (wVar 2)))
    (sSeq (sFor (iSeq (eFrz (wLst (aVal (eVar 5) (aVal (eIte (eOp dNe (eVar 3) (eC (.str ""))) (eVar 4) (eC (.str "2"))) aNil))))) (gN 6) (sSeq (sIf (eOr (eNot (eChain dLe dLe (eC (.int 1)) (eCB dLen (aVal (eVar 6) aNil)) (eVar 1))) (eNot (eCB dAll (aVal (eFrz (wLc [8] (iSeq (eVar 6)) (gN 8) (eC (.bl true)) (eOp dIn (eVar 8) (eC (.str "0123456789"))))) aNil)))) (sRet (wSh (eC .non))) sNx)
    (sIf (eAnd (eOp dEq (eOp dIx (eVar 6) (eC (.int 0))) (eC (.str "0"))) (eOp dNe (eVar 6) (eC (.str "0")))) (sRet (wSh (eC .non))) sNx)))
    (sSeq (sIf (eOr (eOp dEq (eVar 2) (eC (.str "-0"))) (eAnd (eOp dNe (eVar 3) (eC (.str ""))) (eOp dLt (eCB dInt (aVal (eVar 4) aNil)) (eC (.int 2))))) (sRet (wSh (eC .non))) sNx)
    (sSeq (sAsg 7 (wCall 2 g__law_low (aVal (eCB dInt (aVal (eVar 2) aNil)) (aVal (eIte (eOp dNe (eVar 3) (eC (.str ""))) (eCB dInt (aVal (eVar 4) aNil)) (eC (.int 1))) aNil))))
    (sRet (wIte (eOr (eOp dEq (eVar 3) (eC (.str ""))) (eOp dEq (eVar 7) (eTup (aVal (eCB dInt (aVal (eVar 2) aNil)) (aVal (eCB dInt (aVal (eVar 4) aNil)) aNil))))) (wVar 7) (wSh (eC .non)))))))))
abbrev f__law_amount_in : FnD := callF 9 [] (b__law_amount_in f__law_low)
/-! figures -/
theorem numL_of : ∀ (k : Nat) {l : List Nat}, l.length = k → l ≠ [] → NumText.AllDigits l → (l.head? = some 48 → l = [48]) → ∃ n, l = TL.numL n
  | 0, l, hk, h1, _, _ => (h1 (List.length_eq_zero_iff.mp hk)).elim
  | k + 1, l, hk, h1, hd, hz => by
    rcases List.eq_nil_or_concat l with h | ⟨m, c, e⟩
    · exact (h1 h).elim
    · rw [List.concat_eq_append] at e
      subst e
      have hc : 48 ≤ c ∧ c ≤ 57 := hd c (by simp)
      cases m with
      | nil => exact ⟨c - 48, by rw [TL.numL_lt (by omega)]; show [c] = [48 + (c - 48)]; rw [Nat.add_sub_cancel' hc.1]⟩
      | cons x m =>
        have hx : x ≠ 48 := fun e => by
          subst e
          have := hz rfl
          simp at this
        obtain ⟨n, hn⟩ := numL_of k (l := x :: m) (by simpa using hk) (by simp) (fun d hd' => hd d (List.mem_append_left _ hd')) (fun e => (hx (by simpa using e)).elim)
        have hn0 : n ≠ 0 := fun e => by
          subst e
          rw [TL.numL_lt (by decide)] at hn
          cases hn
          exact hx rfl
        refine ⟨10 * n + (c - 48), ?_⟩
        rw [TL.numL_step (by omega), show (10 * n + (c - 48)) / 10 = n by omega, show (10 * n + (c - 48)) % 10 = c - 48 by omega, ← hn, Nat.add_sub_cancel' hc.1]
theorem numL_pow : ∀ (k n : Nat), (TL.numL n).length ≤ k → n < 10 ^ k
  | 0, n, h => by
    have := TL.numL_ne n
    exact (this (List.length_eq_zero_iff.mp (by omega))).elim
  | k + 1, n, h => by
    by_cases hn : n < 10
    · exact Nat.lt_of_lt_of_le hn (by rw [Nat.pow_succ]; have := Nat.one_le_two_pow (n := 0); have := Nat.pow_pos (n := k) (show 0 < 10 by decide); omega)
    · rw [TL.numL_step (by omega), List.length_append, List.length_singleton] at h
      have := numL_pow k (n / 10) (by omega)
      rw [Nat.pow_succ]
      omega
/-- a word of figures -/
def Wd (w : Str) (f : Nat) (n : Nat) : Prop := cl w = TL.numL n ∧ w.length ≤ f
abbrev fgS : Str := "0123456789"
theorem fig_cl : cl fgS = [48, 49, 50, 51, 52, 53, 54, 55, 56, 57] := by decide +kernel
theorem fig_iff {c : Nat} : c ∈ cl fgS ↔ 48 ≤ c ∧ c ≤ 57 := by
  rw [fig_cl]
  simp only [List.mem_cons, List.not_mem_nil, or_false]
  omega
theorem zero_cl : cl (Str.ofString "0") = [48] := by decide +kernel
theorem bools_map (p : Nat → Bool) : ∀ l : List Nat, bools (l.map fun c => Dt.bl (p c)) = some (l.map p)
  | [] => rfl
  | c :: l => by
    rw [List.map_cons, List.map_cons]
    unfold bools
    rw [bools_map p l]
    rfl
theorem all_of {l : List Nat} {b : Bool} (h : (l.map fun c => decide (c ∈ cl fgS)).all id = b) : dAll [.lst (l.map fun c => Dt.bl (decide (c ∈ cl fgS)))] = some (.bl b) := by
  unfold dAll
  dsimp only
  rw [bools_map]
  simp only [Option.map, h]
theorem all_yes {l : List Nat} (h : NumText.AllDigits l) : dAll [.lst (l.map fun c => Dt.bl (decide (c ∈ cl fgS)))] = some (.bl true) := all_of (List.all_eq_true.mpr fun b hb => by
  obtain ⟨c, hc, rfl⟩ := List.mem_map.mp hb
  exact decide_eq_true (fig_iff.mpr (h c hc)))
theorem all_no {l : List Nat} (h : ¬ NumText.AllDigits l) : dAll [.lst (l.map fun c => Dt.bl (decide (c ∈ cl fgS)))] = some (.bl false) := all_of (by
  cases e : (l.map fun c => decide (c ∈ cl fgS)).all id with
  | false => rfl
  | true =>
    refine (h fun c hc => ?_).elim
    have := List.all_eq_true.mp e (decide (c ∈ cl fgS)) (List.mem_map.mpr ⟨c, hc, rfl⟩)
    exact fig_iff.mp (of_decide_eq_true this))
/-- the signs of a word looked at, one by one -/
theorem sign_lc {ρ : Rho} {v : Nat} (hv : v < ρ.length) {Q : List Dt → Rho → Prop} (z : List Nat) (hz : z.length ≤ 1000) (hn : ρ[v]? = some none) (q : Q (z.map fun c => Dt.bl (decide (c ∈ cl fgS))) ρ) :
    EvL [v] (gN v) (eC (.bl true)) (eOp dIn (eVar v) (eC (.str fgS))) (z.map fun c => Dt.str ⟨#[c]⟩) ρ [] Q := by
  refine lcD_ev (fun es ρ' acc => ∃ (us ds : List Nat), es = us.map (fun c => Dt.str ⟨#[c]⟩) ∧ acc = ds.map (fun c => Dt.bl (decide (c ∈ cl fgS))) ∧ ds ++ us = z ∧ ρ' = ρ) ?_ ?_ _ _ _ ⟨z, [], rfl, rfl, rfl, rfl⟩
  · rintro d es ρ' acc ⟨us, ds, e1, rfl, e3, rfl⟩
    cases us with
    | nil => cases e1
    | cons c us =>
      cases e1
      have back : wipeR (ρ'.set v (some (.sh (.str ⟨#[c]⟩)))) [v] = ρ' := by
        apply List.ext_getElem?
        intro k
        show ((ρ'.set v (some (.sh (.str ⟨#[c]⟩)))).set v none)[k]? = ρ'[k]?
        by_cases hk : v = k
        · subst hk
          rw [List.getElem?_set_self (by rw [List.length_set]; exact hv), hn]
        · rw [List.getElem?_set_ne hk, List.getElem?_set_ne hk]
      have hl : ds.length < 100000 := by
        have := congrArg List.length e3
        rw [List.length_append, List.length_cons] at this
        omega
      refine ⟨_, rfl, ev_c (evB_t (ev_op (ev_var (List.getElem?_set_self hv) (ev_c ⟨.bl (decide (c ∈ cl fgS)), rfl, by rw [List.length_map]; exact hl, ?_⟩))))⟩
      rw [back]
      exact ⟨us, ds ++ [c], rfl, by rw [List.map_append]; rfl, by rw [List.append_assoc]; exact e3, rfl⟩
  · rintro ρ' acc ⟨us, ds, e1, rfl, e3, rfl⟩
    cases us with
    | cons c us => cases e1
    | nil => rw [List.append_nil] at e3; subst e3; exact q
theorem wnt {p : Prop} [Decidable p] {T F : Prop} (h1 : ¬ p → T) (h2 : p → F) : wT (!decide p) T F := wt (fun e => h1 (by simpa using e)) fun e => h2 (by simpa using e)
theorem whole_no {z : Str} {f : Nat} (hz : z.length ≤ 1000) (h : ¬ ∃ n, Wd z f n) : f_whole_in [.sh (.str z), .sh (.int f)] = some (.ok (.sh .non), []) := by
  refine fn_eq (ef_in rfl ?_)
  unfold b_whole_in
  walk_at "w"
  refine wo (if_pos (by omega)) ?_
  walk_at "w"
  refine wd (fun h1 => ?_) (fun h1 => ?_)
  · walk_at "w"
    refine wnt (fun h2 => ?_) (fun h2 => ?_)
    · walk_at "w"
      exact ⟨rfl, rfl⟩
    · walk_at "w"
      refine sign_lc (z := cl z) (Nat.le_of_ble_eq_true rfl) (by rw [cl_len]; omega) rfl ?_
      walk_at "w"
      by_cases hd : NumText.AllDigits (cl z)
      · refine wo (all_yes hd) ?_
        walk_at "w"
        cases e : cl z with
        | nil => have := cl_len z; rw [e] at this; simp at this; omega
        | cons c l =>
          have hx : dIx (.str z) (.int 0) = some (.str ⟨#[c]⟩) := Nx.ix (i := 0) (by omega) (by rw [← e]; exact Nx.all z)
          refine wo hx ?_
          walk_at "w"
          refine wd (fun e0 => ?_) (fun e0 => ?_)
          · walk_at "w"
            refine wnt (fun e1 => ?_) (fun e1 => ?_)
            · walk_at "w"
              exact ⟨rfl, rfl⟩
            · exact (h ⟨0, by rw [e1, zero_cl, TL.numL_lt (by decide)], by omega⟩).elim
          · refine (h ?_).elim
            obtain ⟨n, hn⟩ := numL_of _ (l := cl z) rfl (by rw [e]; simp) hd (fun hh => (e0 (by rw [e] at hh; cases hh; exact cl_inj (by (rw [zero_cl]) <;> rfl))).elim)
            exact ⟨n, hn, by omega⟩
      · refine wo (all_no hd) ?_
        walk_at "w"
        exact ⟨rfl, rfl⟩
  · walk_at "w"
    exact ⟨rfl, rfl⟩
theorem Wd.eq {z : Str} {f n : Nat} (h : Wd z f n) (hf : f ≤ 600) : f_whole_in [.sh (.str z), .sh (.int f)] = some (.ok (.sh (.int n)), []) := whole_in_eq h.1 (by have := h.2; omega) (by omega)
theorem Wd.lt {z : Str} {f n : Nat} (h : Wd z f n) : n < 10 ^ f := numL_pow f n (by rw [← h.1, cl_len]; exact h.2)
theorem Wd.int {z : Str} {f n : Nat} (h : Wd z f n) (hf : f ≤ 600) : dInt [.str z] = some (.int n) := by
  have hl := h.2
  have hi : intText? z = some (n : Int) := by
    have := intText_digits (x := z) (by rw [show z.cps.toList = TL.numL n from h.1]; exact TL.numL_digits n) (by rw [show z.cps.toList = TL.numL n from h.1]; exact TL.numL_ne n) (by omega)
    rw [show z.cps.toList = TL.numL n from h.1, TL.numL_val] at this
    exact this
  unfold dInt
  dsimp only
  rw [hi]
  exact if_pos (by omega)
/-! a text's parts -/
structure Dec (z a b : Str) (sl : Bool) : Prop where
  na : 47 ∉ cl a
  eq : z = if sl = true then a ++ "/" ++ b else a
  em : sl = false → b = Str.empty
theorem dec_ex (z : Str) : ∃ a b sl, Dec z a b sl := by
  by_cases h : 47 ∈ cl z
  · obtain ⟨l, r, e, hn⟩ := List.eq_append_cons_of_mem h
    refine ⟨⟨l.toArray⟩, ⟨r.toArray⟩, true, hn, ?_, fun h => (by cases h)⟩
    rw [if_pos rfl]
    refine cl_inj ?_
    rw [cl_app, cl_app, e, slash_cl]
    show _ = l ++ [47] ++ r
    simp
  · exact ⟨z, Str.empty, false, h, rfl, fun _ => rfl⟩
theorem split_uniq {x : Nat} : ∀ {l1 l2 r1 r2 : List Nat}, x ∉ l1 → x ∉ l2 → l1 ++ x :: r1 = l2 ++ x :: r2 → l1 = l2 ∧ r1 = r2
  | [], [], _, _, _, _, e => ⟨rfl, by simpa using e⟩
  | [], b :: l2, _, _, _, h2, e => by cases e; exact (h2 List.mem_cons_self).elim
  | a :: l1, [], _, _, h1, _, e => by cases e; exact (h1 List.mem_cons_self).elim
  | a :: l1, b :: l2, r1, r2, h1, h2, e => by
    rw [List.cons_append, List.cons_append] at e
    obtain ⟨e1, e2⟩ := List.cons.inj e
    obtain ⟨k1, k2⟩ := split_uniq (fun h => h1 (List.mem_cons_of_mem _ h)) (fun h => h2 (List.mem_cons_of_mem _ h)) e2
    exact ⟨by rw [e1, k1], k2⟩
theorem num_free (q : Rat) : 47 ∉ cl (iT q.num) := by
  rcases num_cases q with ⟨n, _, _, e⟩ | ⟨n, _, _, e⟩
  · rw [e]; exact TL.numL_free (by decide)
  · rw [e]; exact fun hh => (List.mem_cons.mp hh).elim (by decide) (TL.numL_free (by decide))
theorem Dec.am {z a b : Str} {sl : Bool} {q : Rat} (D : Dec z a b sl) (h : z = amT q) : a = iT q.num ∧ (sl = false → q.den = 1) ∧ (sl = true → q.den ≠ 1 ∧ b = iT (q.den : Int)) := by
  obtain ⟨na, eq, em⟩ := D
  by_cases hd : (q.den : Int) = 1
  · have eT : amT q = iT q.num := if_pos hd
    cases sl with
    | false => exact ⟨(eq.symm.trans h).trans eT, fun _ => (by omega), fun h => (by cases h)⟩
    | true =>
      rw [if_pos rfl] at eq
      refine (num_free q ?_).elim
      rw [← eT, ← h, eq, cl_app, cl_app, slash_cl]
      simp
  · have eT : amT q = iT q.num ++ "/" ++ iT (q.den : Int) := if_neg hd
    have e2 : z = iT q.num ++ "/" ++ iT (q.den : Int) := h.trans eT
    cases sl with
    | false =>
      rw [if_neg (by decide)] at eq
      refine (na ?_).elim
      rw [← eq, e2, cl_app, cl_app, slash_cl]
      simp
    | true =>
      rw [if_pos rfl] at eq
      have e3 := congrArg cl (eq.symm.trans e2)
      rw [cl_app, cl_app, cl_app, cl_app, slash_cl] at e3
      obtain ⟨k1, k2⟩ := split_uniq (x := 47) (r1 := cl b) (r2 := cl (iT (q.den : Int))) na (num_free q) (by simpa using e3)
      exact ⟨cl_inj k1, fun h => (by cases h), fun _ => ⟨by omega, cl_inj k2⟩⟩
theorem Dec.part {z a b : Str} {sl : Bool} (D : Dec z a b sl) (hz : z.length ≤ 1000) : mPart z (.str "/") = some (.tup [.str a, .str (if sl = true then "/" else Str.empty), .str b]) := by
  obtain ⟨na, eq, em⟩ := D
  cases sl with
  | false =>
    rw [if_neg (by decide)] at eq
    subst eq
    rw [em rfl]
    exact part_one na (by omega)
  | true =>
    rw [if_pos rfl] at eq
    subst eq
    exact part_two na (by omega)
/-! a signed word -/
def Sg (a : Str) (s : Bool) (n : Nat) : Prop := cl a = if s = true then 45 :: TL.numL n else TL.numL n
def sv (s : Bool) (n : Nat) : Int := if s = true then -(n : Int) else n
theorem starts_dec (a : Str) : ∃ s : Bool, Txt.startswith a "-" = s ∧ (s = true → ∃ l, cl a = 45 :: l) ∧ (s = false → (cl a).head? ≠ some 45) := by
  by_cases h : (cl a).head? = some 45
  · cases e : cl a with
    | nil => rw [e] at h; cases h
    | cons c l =>
      rw [e] at h
      cases h
      exact ⟨true, starts_yes e, fun _ => ⟨l, rfl⟩, fun h => by cases h⟩
  · exact ⟨false, starts_no h, fun h => (by cases h), fun _ => h⟩
theorem num_sg (q : Rat) : ∃ s, Sg (iT q.num) s q.num.natAbs ∧ sv s q.num.natAbs = q.num ∧ (s = true → q.num.natAbs ≠ 0) := by
  rcases num_cases q with ⟨n, e1, e2, e3⟩ | ⟨n, e1, e2, e3⟩
  · exact ⟨false, by unfold Sg; rw [e3, e2]; rfl, by unfold sv; rw [e2, e1]; rfl, fun h => by cases h⟩
  · exact ⟨true, by unfold Sg; rw [e3, e2]; rfl, by unfold sv; rw [e2, e1]; rfl, fun _ => by omega⟩
theorem Sg.head {a : Str} {n : Nat} (h : Sg a false n) : (cl a).head? ≠ some 45 := fun hh => by
  unfold Sg at h
  rw [if_neg (by decide)] at h
  rw [h] at hh
  have := TL.numL_digits n 45 (List.mem_of_mem_head? hh)
  omega
theorem Sg.uniq {a : Str} {s t : Bool} {m n : Nat} (h : Sg a s m) (k : Sg a t n) : s = t ∧ m = n := by
  have st : s = t := by
    cases s <;> cases t
    · rfl
    · exact (h.head (by unfold Sg at k; rw [k]; rfl)).elim
    · exact (k.head (by unfold Sg at h; rw [h]; rfl)).elim
    · rfl
  subst st
  refine ⟨rfl, ?_⟩
  unfold Sg at h k
  rw [h] at k
  cases s with
  | false => exact TL.numL_inj k
  | true => exact TL.numL_inj (by simpa using k)
theorem Sg.int {a : Str} {s : Bool} {n : Nat} (h : Sg a s n) (ha : a.length ≤ 600) : dInt [.str a] = some (.int (sv s n)) := by
  have hi : intText? a = some (sv s n) := by
    unfold Sg at h
    cases s with
    | false =>
      have := intText_digits (x := a) (by rw [show a.cps.toList = TL.numL n from h]; exact TL.numL_digits n) (by rw [show a.cps.toList = TL.numL n from h]; exact TL.numL_ne n) (by omega)
      rw [show a.cps.toList = TL.numL n from h, TL.numL_val] at this
      exact this
    | true =>
      have := intText_neg (x := a) (cs := TL.numL n) h (TL.numL_digits n) (TL.numL_ne n) (by omega)
      rw [TL.numL_val] at this
      exact this
  unfold dInt
  dsimp only
  rw [hi]
  exact if_pos (by omega)
theorem Sg.iT {a : Str} {s : Bool} {n : Nat} (h : Sg a s n) (h0 : s = true → n ≠ 0) : a = iT (sv s n) := by
  refine cl_inj ?_
  unfold Sg at h
  rw [h]
  cases s with
  | false => exact (cl_nat n).symm
  | true =>
    obtain ⟨m, rfl⟩ : ∃ m, n = m + 1 := ⟨n - 1, by have := h0 rfl; omega⟩
    exact (cl_neg m).symm
def IsA (z : Str) (f : Nat) (q : Rat) : Prop := FR f q ∧ z = amT q
theorem IsA.uniq {z : Str} {f : Nat} {q r : Rat} (h : IsA z f q) (k : IsA z f r) : q = r := by
  obtain ⟨a, b, sl, D⟩ := dec_ex z
  obtain ⟨a1, a2, a3⟩ := D.am h.2
  obtain ⟨b1, b2, b3⟩ := D.am k.2
  have en : q.num = r.num := by
    obtain ⟨s, s1, s2, _⟩ := num_sg q
    obtain ⟨t, t1, t2, _⟩ := num_sg r
    rw [← a1] at s1
    rw [← b1] at t1
    obtain ⟨u1, u2⟩ := s1.uniq t1
    rw [← s2, ← t2, u1, u2]
  have ed : q.den = r.den := by
    cases sl with
    | false => rw [a2 rfl, b2 rfl]
    | true =>
      have e := (a3 rfl).2.symm.trans (b3 rfl).2
      have := congrArg cl e
      rw [cl_nat, cl_nat] at this
      exact TL.numL_inj this
  exact Rat.ext en ed
theorem es2_seq {a b : FS} {ρ : Rho} {N : Rho → Prop} {R : Wt → Rho → Prop} {X : XP} (N' : Rho → Prop) (h : EvS2 a ρ N' R X) (k : ∀ ρ1, N' ρ1 → EvS2 b ρ1 N R X) : EvS2 (sSeq a b) ρ N R X := by
  rcases h with (⟨ρ1, e, h⟩ | ⟨w, ρ1, e, h⟩) | ⟨c, fs, ρ1, e, q⟩
  · refine (k ρ1 h).eq ?_
    unfold sSeq
    simp only [e]
  · exact .inl (.inr ⟨w, ρ1, by unfold sSeq; simp only [e], h⟩)
  · exact .inr ⟨c, fs, ρ1, by unfold sSeq; simp only [e], q⟩
theorem Dec.len {z a b : Str} {sl : Bool} (D : Dec z a b sl) : a.length ≤ z.length ∧ b.length ≤ z.length := by
  obtain ⟨na, eq, em⟩ := D
  cases sl with
  | false => rw [if_neg (by decide)] at eq; rw [eq, em rfl]; exact ⟨Nat.le_refl _, Nat.zero_le _⟩
  | true => rw [if_pos rfl] at eq; rw [eq, s_len, s_len]; omega
def optN : Option Nat → Dt
  | none => .non
  | some n => .int n
abbrev badF : List (Str × Dt) := [("called", .str "BadText")]
def badX : XP := fun c fs => c = "BadText" ∧ fs = badF
abbrev lnS (sl : Bool) : Str := if sl = true then "/" else Str.empty
theorem ln_dec : ∀ sl : Bool, decide (lnS sl = Str.ofString "") = !sl := by decide +kernel
theorem IsA.parts {z a b : Str} {sl : Bool} {f : Nat} {q : Rat} (D : Dec z a b sl) (hf : 1 ≤ f) (h : IsA z f q) : (∃ s, Sg a s q.num.natAbs ∧ sv s q.num.natAbs = q.num ∧ (s = true → q.num.natAbs ≠ 0)) ∧ (TL.numL q.num.natAbs).length ≤ f ∧ (sl = false → q.den = 1) ∧ (sl = true → q.den ≠ 1 ∧ Wd b f q.den) := by
  obtain ⟨a1, a2, a3⟩ := D.am h.2
  refine ⟨by rw [a1]; exact num_sg q, TL.numL_len hf h.1.1, a2, fun e => ⟨(a3 e).1, ?_⟩⟩
  have hc := cl_nat q.den
  rw [← (a3 e).2] at hc
  exact ⟨hc, by rw [← cl_len, hc]; exact TL.numL_len hf h.1.2⟩
theorem Sg.sign {a : Str} {s : Bool} {n : Nat} (h : Sg a s n) : Txt.startswith a "-" = s := by
  cases s with
  | false => exact starts_no h.head
  | true => exact starts_yes h
theorem divInt_fr {u v : Int} {F : Nat} (h0 : 0 < v) (h1 : u.natAbs ≤ F) (h2 : v.natAbs ≤ F) : (Rat.divInt u v).num.natAbs ≤ F ∧ (Rat.divInt u v).den ≤ F := by
  have e := lowL_val (n := u) h0
  obtain ⟨a1, a2, a3, _⟩ := lowL_ok (n := u) (d := v) (by omega)
  rw [e] at a1 a2 a3
  simp only [ofR] at a1 a2 a3
  omega
theorem sv_abs (s : Bool) (n : Nat) : (sv s n).natAbs = n := by
  unfold sv
  split <;> omega
theorem sv_fr {s : Bool} {n m f : Nat} (h1 : n < 10 ^ f) (h2 : m < 10 ^ f) (h0 : m ≠ 0) : FR f (Rat.divInt (sv s n) m) := by
  have h := divInt_fr (u := sv s n) (v := (m : Int)) (F := 10 ^ f - 1) (by omega) (by rw [sv_abs]; omega) (by omega)
  exact ⟨by omega, by omega⟩
/-- what is read where the parts are good -/
theorem IsA.is {z a b : Str} {sl : Bool} {f : Nat} {q : Rat} {s : Bool} {n m : Nat} (D : Dec z a b sl) (hf : 1 ≤ f) (h : IsA z f q) (hs : Sg a s n) (hm : (sl = false → m = 1) ∧ (sl = true → Wd b f m)) : q.num = sv s n ∧ q.den = m := by
  obtain ⟨⟨t, t1, t2, _⟩, _, p3, p4⟩ := h.parts D hf
  obtain ⟨u1, u2⟩ := t1.uniq hs
  subst u1
  refine ⟨by rw [← t2, u2], ?_⟩
  cases sl with
  | false => rw [p3 rfl, hm.1 rfl]
  | true =>
    have := (p4 rfl).2.1
    rw [(hm.2 rfl).1] at this
    exact (TL.numL_inj this).symm
theorem read_amount_tot {z : Str} {f : Nat} (hz : z.length ≤ 500) (hf : 1 ≤ f) (hf2 : f ≤ 200) : EvF2 f_read_amount [.sh (.str z), .sh (.int f)] (fun w cs => cs = [] ∧ ∃ q, w = .sh (amR q) ∧ IsA z f q) (fun c fs => badX c fs ∧ ¬ ∃ q, IsA z f q) := by
  obtain ⟨a, b, sl, D⟩ := dec_ex z
  obtain ⟨s, hs, st, sf⟩ := starts_dec a
  have hl := D.len
  refine ef2_in rfl (nrm_eq (ρ' := [some (.sh (.str z)), some (.sh (.int f)), none, none, none, none, none, none]) rfl ?_)
  unfold b_read_amount
  refine es2_seq (fun ρ => ρ = [some (.sh (.str z)), some (.sh (.int f)), some (.sh (.str a)), some (.sh (.str (lnS sl))), some (.sh (.str b)), none, none, none]) ?_ ?_
  · walk_at "v"
    refine wo (D.part (by omega)) ?_
    (walk_at "v") <;> rfl
  rintro ρ rfl
  refine es2_seq (fun ρ => ∃ o : Option Nat, ρ = [some (.sh (.str z)), some (.sh (.int f)), some (.sh (.str a)), some (.sh (.str (lnS sl))), some (.sh (.str b)), some (.sh (optN o)), none, none] ∧ (∀ n, o = some n → Sg a s n ∧ n < 10 ^ f) ∧ (o = none → ¬ ∃ n, Sg a s n ∧ (TL.numL n).length ≤ f)) ?_ ?_
  · walk_at "v"
    cases s with
    | true =>
      obtain ⟨l, e⟩ := st rfl
      refine wtt hs ?_
      walk_at "v"
      refine wo (slD1 e (by omega)) ?_
      walk_at "v"
      by_cases hw : ∃ n, Wd ⟨l.toArray⟩ f n
      · obtain ⟨n, hn⟩ := hw
        refine ef2_ok (hn.eq (by omega)) ?_
        walk_at "v"
        exact ⟨some n, rfl, fun m hm => by cases hm; exact ⟨by unfold Sg; rw [e, if_pos rfl, ← hn.1], hn.lt⟩, fun h => by cases h⟩
      · refine ef2_ok (whole_no (by show l.toArray.size ≤ _; have := cl_len a; rw [e, List.length_cons] at this; rw [List.size_toArray]; omega) hw) ?_
        walk_at "v"
        refine ⟨none, rfl, fun m hm => (by cases hm), fun _ ⟨n, h1, h2⟩ => hw ⟨n, ?_⟩⟩
        unfold Sg at h1
        rw [e, if_pos rfl] at h1
        have h3 : l = TL.numL n := (List.cons.inj h1).2
        exact ⟨h3, by show l.toArray.size ≤ f; rw [List.size_toArray, h3]; exact h2⟩
    | false =>
      refine wtf hs ?_
      walk_at "v"
      by_cases hw : ∃ n, Wd a f n
      · obtain ⟨n, hn⟩ := hw
        refine ef2_ok (hn.eq (by omega)) ?_
        walk_at "v"
        exact ⟨some n, rfl, fun m hm => by cases hm; exact ⟨by unfold Sg; rw [if_neg (by decide)]; exact hn.1, hn.lt⟩, fun h => by cases h⟩
      · refine ef2_ok (whole_no (by omega) hw) ?_
        walk_at "v"
        refine ⟨none, rfl, fun m hm => (by cases hm), fun _ ⟨n, h1, h2⟩ => hw ⟨n, ?_⟩⟩
        unfold Sg at h1
        rw [if_neg (by decide)] at h1
        exact ⟨h1, by rw [← cl_len, h1]; exact h2⟩
  rintro ρ ⟨o, rfl, ho1, ho2⟩
  refine es2_seq (fun ρ => ∃ u : Option Nat, ρ = [some (.sh (.str z)), some (.sh (.int f)), some (.sh (.str a)), some (.sh (.str (lnS sl))), some (.sh (.str b)), some (.sh (optN o)), some (.sh (optN u)), none] ∧ (∀ n, u = some n → n < 10 ^ f ∧ (sl = false → n = 1) ∧ (sl = true → Wd b f n)) ∧ (u = none → sl = true ∧ ¬ ∃ n, Wd b f n)) ?_ ?_
  · cases sl with
    | true =>
      walk_at "v"
      by_cases hw : ∃ n, Wd b f n
      · obtain ⟨n, hn⟩ := hw
        refine ef2_ok (hn.eq (by omega)) ?_
        walk_at "v"
        exact ⟨some n, rfl, fun m hm => by cases hm; exact ⟨hn.lt, fun h => (by cases h), fun _ => hn⟩, fun h => by cases h⟩
      · refine ef2_ok (whole_no (by omega) hw) ?_
        walk_at "v"
        exact ⟨none, rfl, fun m hm => (by cases hm), fun _ => ⟨rfl, hw⟩⟩
    | false =>
      walk_at "v"
      exact ⟨some 1, rfl, fun m hm => by cases hm; exact ⟨Nat.one_lt_pow (by omega) (by decide), fun _ => rfl, fun h => (by cases h)⟩, fun h => by cases h⟩
  rintro ρ ⟨u, rfl, hu1, hu2⟩
  have noq : ∀ {q : Rat}, IsA z f q → (∃ n, o = some n ∧ Sg a s n) ∧ ∃ m, u = some m ∧ m ≠ 0 := fun {q} hq => by
    obtain ⟨⟨t, t1, _, _⟩, p2, p3, p4⟩ := hq.parts D hf
    have ts : t = s := t1.sign.symm.trans hs
    subst ts
    refine ⟨?_, ?_⟩
    · cases o with
      | none => exact (ho2 rfl ⟨_, t1, p2⟩).elim
      | some n => exact ⟨n, rfl, (ho1 n rfl).1⟩
    · cases u with
      | none => exact ((hu2 rfl).2 ⟨_, (p4 (hu2 rfl).1).2⟩).elim
      | some m =>
        refine ⟨m, rfl, fun e => ?_⟩
        subst e
        have h1 := hu1 0 rfl
        cases sl with
        | false => have := h1.2.1 rfl; omega
        | true =>
          have := (p4 rfl).2.1
          rw [(h1.2.2 rfl).1] at this
          have := TL.numL_inj this
          have := q.den_nz
          omega
  cases o with
  | none =>
    walk_at "v"
    exact ⟨⟨rfl, rfl⟩, fun ⟨q, hq⟩ => by obtain ⟨⟨n, e, _⟩, _⟩ := noq hq; cases e⟩
  | some n =>
    cases u with
    | none =>
      walk_at "v"
      exact ⟨⟨rfl, rfl⟩, fun ⟨q, hq⟩ => by obtain ⟨_, m, e, _⟩ := noq hq; cases e⟩
    | some m =>
      obtain ⟨g1, g2⟩ := ho1 n rfl
      obtain ⟨k1, k2⟩ := hu1 m rfl
      refine es2_seq (fun ρ => m ≠ 0 ∧ ρ = [some (.sh (.str z)), some (.sh (.int f)), some (.sh (.str a)), some (.sh (.str (lnS sl))), some (.sh (.str b)), some (.sh (.int n)), some (.sh (.int m)), none]) ?_ ?_
      · walk_at "v"
        refine wd (fun e0 => ?_) (fun e0 => ?_)
        · walk_at "v"
          exact ⟨⟨rfl, rfl⟩, fun ⟨q, hq⟩ => by obtain ⟨_, m', e, h0⟩ := noq hq; cases e; omega⟩
        · walk_at "v"
          exact ⟨fun e => e0 (by omega), rfl⟩
      rintro ρ ⟨h0, rfl⟩
      have hfr := sv_fr (s := s) g2 k1 h0
      have hsm : Sm (m : Int) := sm_of (k := 700) (by
        have h1 : (10 : Nat) ^ f ≤ 10 ^ 200 := Nat.pow_le_pow_right (by decide) hf2
        have h2 : (10 : Nat) ^ 200 < 2 ^ 700 := by decide +kernel
        omega) (by decide)
      refine es2_seq (fun ρ => ρ = [some (.sh (.str z)), some (.sh (.int f)), some (.sh (.str a)), some (.sh (.str (lnS sl))), some (.sh (.str b)), some (.sh (.int n)), some (.sh (.int m)), some (.sh (amR (Rat.divInt (sv s n) m)))]) ?_ ?_
      · walk_at "v"
        cases s with
        | true =>
          refine wtt hs ?_
          walk_at "v"
          refine .inl (lowest_ev (by omega) hsm ?_)
          rw [lowI_val (by omega)]
          (walk_at "v") <;> rfl
        | false =>
          refine wtf hs ?_
          walk_at "v"
          refine .inl (lowest_ev (by omega) hsm ?_)
          rw [lowI_val (by omega)]
          (walk_at "v") <;> rfl
      rintro ρ rfl
      walk_at "v"
      refine .inl (amount_text_ev (hfr.mono hf2).txr ?_)
      walk_at "v"
      refine wnt (fun e1 => ?_) (fun e1 => ?_)
      · walk_at "v"
        refine ⟨⟨rfl, rfl⟩, fun ⟨q, hq⟩ => e1 ?_⟩
        obtain ⟨j1, j2⟩ := hq.is D hf g1 k2
        rw [← j1, ← j2, Rat.num_divInt_den]
        exact hq.2.symm
      · walk_at "v"
        exact ⟨rfl, _, rfl, hfr, e1.symm⟩
/-! the law's own look -/
theorem es_cut {a b : FS} {ρ : Rho} {N : Rho → Prop} {R : Wt → Rho → Prop} (N' : Rho → Prop) (h : EvS a ρ N' R) (k : ∀ ρ1, N' ρ1 → EvS b ρ1 N R) : EvS (sSeq a b) ρ N R := es_seq (h.imp k fun _ _ h => h)
theorem first_sl {z : Str} (hz : z.length ≤ 1000) : dSl (.str z) none (some 1) = some (.str ⟨((cl z).take 1).toArray⟩) := by
  have h2 := cl_len z
  show (if _ then _ else _) = _
  rw [if_pos (by omega)]
  unfold L2.cutS
  rw [show ((1 : Int)) = ((1 : Nat) : Int) from rfl, HT.sIx_nat, HT.sIx_none, Nat.sub_zero, List.drop_zero]
  congr 4
  show List.take (min 1 z.length) (cl z) = _
  by_cases h : z.length = 0
  · rw [List.eq_nil_of_length_eq_zero (h2.trans h)]; simp
  · rw [Nat.min_eq_left (by omega)]
theorem dash_cl : cl (Str.ofString "-") = [45] := by decide +kernel
theorem wd_body {z a ln b c w : Str} {f : Nat} (hf2 : f ≤ 200) (hw : w.length ≤ 1000) :
    EvS (sSeq (sIf (eOr (eNot (eChain dLe dLe (eC (.int 1)) (eCB dLen (aVal (eVar 6) aNil)) (eVar 1))) (eNot (eCB dAll (aVal (eFrz (wLc [8] (iSeq (eVar 6)) (gN 8) (eC (.bl true)) (eOp dIn (eVar 8) (eC (.str "0123456789"))))) aNil)))) (sRet (wSh (eC .non))) sNx)
    (sIf (eAnd (eOp dEq (eOp dIx (eVar 6) (eC (.int 0))) (eC (.str "0"))) (eOp dNe (eVar 6) (eC (.str "0")))) (sRet (wSh (eC .non))) sNx)) [some (.sh (.str z)), some (.sh (.int f)), some (.sh (.str a)), some (.sh (.str ln)), some (.sh (.str b)), some (.sh (.str c)), some (.sh (.str w)), none, none]
      (fun ρ => ρ = [some (.sh (.str z)), some (.sh (.int f)), some (.sh (.str a)), some (.sh (.str ln)), some (.sh (.str b)), some (.sh (.str c)), some (.sh (.str w)), none, none] ∧ ∃ n, Wd w f n) (fun r _ => r = .sh .non ∧ ¬ ∃ n, Wd w f n) := by
  have lenof : ∀ {n : Nat}, Wd w f n → 1 ≤ w.length ∧ w.length ≤ f := fun {n} h => by
    have h1 := TL.numL_ne n
    rw [← h.1] at h1
    have := cl_len w
    have := List.length_pos_iff.mpr h1
    exact ⟨by omega, h.2⟩
  walk_at "w"
  refine wo (if_pos (by omega)) ?_
  walk_at "w"
  refine wd (fun h1 => ?_) (fun h1 => ?_)
  · walk_at "w"
    refine wnt (fun h2 => ?_) (fun h2 => ?_)
    · walk_at "w"
      exact ⟨rfl, fun ⟨n, hn⟩ => by have := lenof hn; omega⟩
    · walk_at "w"
      refine sign_lc (z := cl w) (Nat.le_of_ble_eq_true rfl) (by rw [cl_len]; omega) rfl ?_
      walk_at "w"
      by_cases hd : NumText.AllDigits (cl w)
      · refine wo (all_yes hd) ?_
        walk_at "w"
        cases e : cl w with
        | nil => have := cl_len w; rw [e] at this; simp at this; omega
        | cons x l =>
          have hx : dIx (.str w) (.int 0) = some (.str ⟨#[x]⟩) := Nx.ix (i := 0) (by omega) (by rw [← e]; exact Nx.all w)
          refine wo hx ?_
          walk_at "w"
          refine wd (fun e0 => ?_) (fun e0 => ?_)
          · walk_at "w"
            refine wnt (fun e1 => ?_) (fun e1 => ?_)
            · walk_at "w"
              refine ⟨rfl, fun ⟨n, hn⟩ => e1 ?_⟩
              have ex : x = 48 := by
                have := congrArg cl e0
                rw [zero_cl, show cl (⟨#[x]⟩ : Str) = [x] from rfl] at this
                simpa using this
              have hn0 := numL_zero (n := n) (by rw [← hn.1, e, ex]; rfl)
              exact cl_inj (by rw [hn.1, hn0, zero_cl, TL.numL_lt (by decide)])
            · walk_at "w"
              exact ⟨rfl, 0, by rw [e1, zero_cl, TL.numL_lt (by decide)], by omega⟩
          · walk_at "w"
            obtain ⟨n, hn⟩ := numL_of _ (l := cl w) rfl (by rw [e]; simp) hd (fun hh => (e0 (by rw [e] at hh; cases hh; exact cl_inj (by (rw [zero_cl]) <;> rfl))).elim)
            exact ⟨rfl, n, hn, by omega⟩
      · refine wo (all_no hd) ?_
        walk_at "w"
        exact ⟨rfl, fun ⟨n, hn⟩ => hd (by rw [hn.1]; exact TL.numL_digits n)⟩
  · walk_at "w"
    exact ⟨rfl, fun ⟨n, hn⟩ => by have := lenof hn; omega⟩
theorem i2_pl (i j : Int) : Pl 1 (.tup [.int i, .int j]) := .tup 0 (.cons (.int _ _) (.cons (.int _ _) (.nil _))) (Nat.le_of_ble_eq_true rfl)
theorem eq2 (i j k l : Int) : PyData.eqv (toPy (.tup [.int i, .int j])) (toPy (.tup [.int k, .int l])) = (decide (i = k) && decide (j = l)) := by
  rw [Bool.eq_iff_iff]
  simp [toPy, toPys, PyData.eqv, PyData.eqvAll]
theorem div_one (x : Int) : (Rat.divInt x ((1 : Nat) : Int)).num = x ∧ (Rat.divInt x ((1 : Nat) : Int)).den = 1 := by
  have h := lowL_val (n := x) (d := ((1 : Nat) : Int)) (by decide)
  have e : lowL x ((1 : Nat) : Int) = (x, 1) := by
    unfold lowL
    rw [show Int.gcd x ((1 : Nat) : Int) = 1 from Int.gcd_one]
    simp
  rw [e] at h
  have h1 := congrArg Prod.fst h
  have h2 := congrArg Prod.snd h
  exact ⟨h1.symm, by simp only [ofR] at h2; omega⟩
theorem m0_cl : cl (Str.ofString "-0") = [45, 48] := by decide +kernel
theorem two_wd {f : Nat} (hf : 1 ≤ f) : Wd (Str.ofString "2") f 2 := ⟨by rw [TL.numL_lt (by decide)]; decide +kernel, hf⟩
theorem law_in_tot {z : Str} {f : Nat} (hz : z.length ≤ 500) (hf : 1 ≤ f) (hf2 : f ≤ 200) : EvF f__law_amount_in [.sh (.str z), .sh (.int f)] (fun w cs => cs = [] ∧ ((∃ q, w = .sh (amR q) ∧ IsA z f q) ∨ (w = .sh .non ∧ ¬ ∃ q, IsA z f q))) := by
  obtain ⟨a, b, sl, D⟩ := dec_ex z
  obtain ⟨s, hs, st, sf⟩ := starts_dec a
  have hl := D.len
  refine ef_in rfl (nrm_eq (ρ' := [some (.sh (.str z)), some (.sh (.int f)), none, none, none, none, none, none, none]) rfl ?_)
  unfold b__law_amount_in
  refine es_cut (fun ρ => ρ = [some (.sh (.str z)), some (.sh (.int f)), some (.sh (.str a)), some (.sh (.str (lnS sl))), some (.sh (.str b)), none, none, none, none]) ?_ ?_
  · walk_at "w"
    refine wo (D.part (by omega)) ?_
    (walk_at "w") <;> rfl
  rintro ρ rfl
  refine es_cut (fun ρ => ∃ c : Str, ρ = [some (.sh (.str z)), some (.sh (.int f)), some (.sh (.str a)), some (.sh (.str (lnS sl))), some (.sh (.str b)), some (.sh (.str c)), none, none, none] ∧ c.length ≤ 500 ∧ ∀ n, cl c = TL.numL n ↔ Sg a s n) ?_ ?_
  · walk_at "w"
    refine wo (first_sl (by omega)) ?_
    walk_at "w"
    cases s with
    | true =>
      obtain ⟨l, e⟩ := st rfl
      refine wtt (decide_eq_true (cl_inj (by rw [dash_cl, e]; rfl))) ?_
      walk_at "w"
      refine wo (slD1 e (by omega)) ?_
      walk_at "w"
      refine ⟨⟨l.toArray⟩, rfl, ?_, fun n => ?_⟩
      · show l.toArray.size ≤ _
        have := cl_len a
        rw [e, List.length_cons] at this
        rw [List.size_toArray]
        omega
      · unfold Sg
        rw [e, if_pos rfl]
        exact ⟨fun h => by rw [show l = TL.numL n from h], fun h => (List.cons.inj h).2⟩
    | false =>
      refine wtf (decide_eq_false fun h => sf rfl ?_) ?_
      · have := congrArg cl h
        rw [dash_cl] at this
        have h2 : (cl a).take 1 = [45] := this
        cases e : cl a with
        | nil => rw [e] at h2; cases h2
        | cons x l => rw [e] at h2; cases h2; rfl
      · walk_at "w"
        refine ⟨a, rfl, by omega, fun n => ?_⟩
        unfold Sg
        rw [if_neg (by decide)]
  rintro ρ ⟨c, rfl, hcl, hc⟩
  have cw : (∃ n, Wd c f n) → ∃ n, Sg a s n ∧ Wd c f n := fun ⟨n, h⟩ => ⟨n, (hc n).mp h.1, h⟩
  have nocw : ∀ {q : Rat}, IsA z f q → ∃ n, Wd c f n := fun {q} hq => by
    obtain ⟨⟨t, t1, _, _⟩, p2, p3, p4⟩ := hq.parts D hf
    have ts : t = s := t1.sign.symm.trans hs
    subst ts
    have h1 := (hc _).mpr t1
    exact ⟨_, h1, by rw [← cl_len, h1]; exact p2⟩
  refine es_cut (fun ρ => ∃ w : Str, ρ = [some (.sh (.str z)), some (.sh (.int f)), some (.sh (.str a)), some (.sh (.str (lnS sl))), some (.sh (.str b)), some (.sh (.str c)), some (.sh (.str w)), none, none] ∧ (∃ n, Wd c f n) ∧ (sl = true → ∃ m, Wd b f m)) ?_ ?_
  · have one : ∀ (w2 : Str), w2.length ≤ 500 → ((∃ q, IsA z f q) → ∃ n, Wd w2 f n) → (∀ n, Wd w2 f n → sl = true → ∃ m, Wd b f m) →
        EvS (forD (gN 6) (sSeq (sIf (eOr (eNot (eChain dLe dLe (eC (.int 1)) (eCB dLen (aVal (eVar 6) aNil)) (eVar 1))) (eNot (eCB dAll (aVal (eFrz (wLc [8] (iSeq (eVar 6)) (gN 8) (eC (.bl true)) (eOp dIn (eVar 8) (eC (.str "0123456789"))))) aNil)))) (sRet (wSh (eC .non))) sNx)
          (sIf (eAnd (eOp dEq (eOp dIx (eVar 6) (eC (.int 0))) (eC (.str "0"))) (eOp dNe (eVar 6) (eC (.str "0")))) (sRet (wSh (eC .non))) sNx)) [.str c, .str w2]) [some (.sh (.str z)), some (.sh (.int f)), some (.sh (.str a)), some (.sh (.str (lnS sl))), some (.sh (.str b)), some (.sh (.str c)), none, none, none]
          (fun ρ => ∃ w : Str, ρ = [some (.sh (.str z)), some (.sh (.int f)), some (.sh (.str a)), some (.sh (.str (lnS sl))), some (.sh (.str b)), some (.sh (.str c)), some (.sh (.str w)), none, none] ∧ (∃ n, Wd c f n) ∧ (sl = true → ∃ m, Wd b f m))
          (fun w ρ => wO (getOwns ρ []) fun cs => cs = [] ∧ ((∃ q, w = .sh (amR q) ∧ IsA z f q) ∨ (w = .sh .non ∧ ¬ ∃ q, IsA z f q))) := fun w2 hw2 g1 g2 => by
      refine es_forCons rfl ((wd_body hf2 (by omega)).imp ?_ ?_)
      · rintro ρ ⟨rfl, hcw⟩
        refine es_forCons rfl ((wd_body hf2 (by omega)).imp ?_ ?_)
        · rintro ρ ⟨rfl, n, hn⟩
          exact es_forNil ⟨w2, rfl, hcw, g2 n hn⟩
        · rintro r ρ ⟨rfl, hno⟩
          exact wo rfl ⟨rfl, .inr ⟨rfl, fun hq => hno (g1 hq)⟩⟩
      · rintro r ρ ⟨rfl, hno⟩
        exact wo rfl ⟨rfl, .inr ⟨rfl, fun ⟨q, hq⟩ => hno (nocw hq)⟩⟩
    cases sl with
    | true =>
      walk_at "w"
      exact one b (by omega) (fun ⟨q, hq⟩ => ⟨_, ((hq.parts D hf).2.2.2 rfl).2⟩) fun n hn _ => ⟨n, hn⟩
    | false =>
      walk_at "w"
      exact one _ (by decide) (fun _ => ⟨2, two_wd hf⟩) fun n _ h => by cases h
  rintro ρ ⟨w, rfl, hcw, hbw⟩
  obtain ⟨n, hsg, hwn⟩ := cw hcw
  obtain ⟨m, hm, hmf⟩ : ∃ m, ((sl = false → m = 1) ∧ (sl = true → Wd b f m)) ∧ m < 10 ^ f := by
    cases sl with
    | false => exact ⟨1, ⟨fun _ => rfl, fun h => (by cases h)⟩, Nat.one_lt_pow (by omega) (by decide)⟩
    | true =>
      obtain ⟨m, h⟩ := hbw rfl
      exact ⟨m, ⟨fun h => (by cases h), fun _ => h⟩, h.lt⟩
  have hnf := hwn.lt
  refine es_cut (fun ρ => ρ = [some (.sh (.str z)), some (.sh (.int f)), some (.sh (.str a)), some (.sh (.str (lnS sl))), some (.sh (.str b)), some (.sh (.str c)), some (.sh (.str w)), none, none] ∧ (s = true → n ≠ 0) ∧ (sl = true → 2 ≤ m)) ?_ ?_
  · walk_at "w"
    refine wd (fun e0 => ?_) (fun e0 => ?_)
    · walk_at "w"
      refine wo rfl ⟨rfl, .inr ⟨rfl, fun ⟨q, hq⟩ => ?_⟩⟩
      obtain ⟨⟨t, t1, _, t3⟩, _⟩ := hq.parts D hf
      have h2 : Sg a true 0 := by unfold Sg; rw [e0, m0_cl, if_pos rfl, TL.numL_lt (by decide)]
      obtain ⟨u1, u2⟩ := t1.uniq h2
      exact t3 u1 u2
    · have hn0 : s = true → n ≠ 0 := fun e h => by
        subst e h
        exact e0 (cl_inj (by rw [m0_cl]; unfold Sg at hsg; rw [hsg, if_pos rfl, TL.numL_lt (by decide)]))
      cases sl with
      | false =>
        walk_at "w"
        exact ⟨rfl, hn0, fun h => by cases h⟩
      | true =>
        have hb := hm.2 rfl
        walk_at "w"
        refine wo (hb.int (by omega)) ?_
        walk_at "w"
        refine wd (fun e1 => ?_) (fun e1 => ?_)
        · walk_at "w"
          refine wo rfl ⟨rfl, .inr ⟨rfl, fun ⟨q, hq⟩ => ?_⟩⟩
          obtain ⟨j1, j2⟩ := hq.is D hf hsg hm
          have := ((hq.parts D hf).2.2.2 rfl).1
          have := q.den_nz
          omega
        · walk_at "w"
          exact ⟨rfl, hn0, fun _ => by omega⟩
  rintro ρ ⟨rfl, hn0, hm2⟩
  have hm0 : m ≠ 0 := by
    cases sl with
    | false => rw [hm.1 rfl]; decide
    | true => have := hm2 rfl; omega
  have hsm : Sm (m : Int) := sm_of (k := 700) (by
    have h1 : (10 : Nat) ^ f ≤ 10 ^ 200 := Nat.pow_le_pow_right (by decide) hf2
    have h2 : (10 : Nat) ^ 200 < 2 ^ 700 := by decide +kernel
    omega) (by decide)
  have hfr := sv_fr (s := s) hnf hmf hm0
  have eT := hsg.iT hn0
  refine es_cut (fun ρ => ρ = [some (.sh (.str z)), some (.sh (.int f)), some (.sh (.str a)), some (.sh (.str (lnS sl))), some (.sh (.str b)), some (.sh (.str c)), some (.sh (.str w)), some (.sh (amR (Rat.divInt (sv s n) m))), none]) ?_ ?_
  · walk_at "w"
    refine wo (hsg.int (by omega)) ?_
    cases sl with
    | false =>
      have h1 := hm.1 rfl
      subst h1
      walk_at "w"
      refine low_ev (by decide) hsm ?_
      rw [lowL_val (by decide)]
      (walk_at "w") <;> rfl
    | true =>
      walk_at "w"
      refine wo ((hm.2 rfl).int (by omega)) ?_
      walk_at "w"
      refine low_ev (by omega) hsm ?_
      rw [lowL_val (by omega)]
      (walk_at "w") <;> rfl
  rintro ρ rfl
  cases sl with
  | false =>
    have h1 := hm.1 rfl
    subst h1
    obtain ⟨d1, d2⟩ := div_one (sv s n)
    walk_at "w"
    refine wo rfl ⟨rfl, .inl ⟨_, rfl, hfr, ?_⟩⟩
    have e1 : z = a := D.eq
    unfold amT
    rw [if_pos (by rw [d2]; rfl), d1, ← eT]
    exact e1
  | true =>
    walk_at "w"
    refine wo (hsg.int (by omega)) ?_
    walk_at "w"
    refine wo ((hm.2 rfl).int (by omega)) ?_
    walk_at "w"
    refine wt (fun e => ?_) (fun e => ?_) <;> (have e := (eq2 _ _ _ _).symm.trans e)
    · rw [Bool.and_eq_true, decide_eq_true_iff, decide_eq_true_iff] at e
      obtain ⟨e1, e2⟩ := e
      walk_at "w"
      refine wo rfl ⟨rfl, .inl ⟨_, rfl, hfr, ?_⟩⟩
      have hd : ¬ ((Rat.divInt (sv s n) m).den : Int) = 1 := by
        have := hm2 rfl
        have e3 : ((Rat.divInt (sv s n) m).den : Int) = m := e2
        omega
      unfold amT
      rw [if_neg hd]
      have e3 : ((Rat.divInt (sv s n) m).den : Int) = m := e2
      have e4 : (Rat.divInt (sv s n) m).num = sv s n := e1
      have eb : b = iT (m : Int) := cl_inj (by rw [(hm.2 rfl).1, cl_nat])
      rw [e3, e4, ← eT, ← eb]
      exact D.eq
    · walk_at "w"
      refine wo rfl ⟨rfl, .inr ⟨rfl, fun ⟨q, hq⟩ => ?_⟩⟩
      obtain ⟨j1, j2⟩ := hq.is D hf hsg hm
      have hqq : Rat.divInt (sv s n) m = q := by rw [← j1, ← j2, Rat.num_divInt_den]
      rw [hqq] at e
      have : (decide (q.num = sv s n) && decide ((q.den : Int) = m)) = true := by rw [decide_eq_true j1, decide_eq_true (by omega)]; rfl
      exact Bool.noConfusion (this.symm.trans e)
end Lw
namespace Lw
open PySem PySem.Spec PyProof.Rows L2 RZ DL
local macro_rules | `(tactic| walk_at "sm") => `(tactic| first | assumption | exact sm_of (k := 200) (by omega) (by decide) | exact sm_of (k := 200) (by decide) (by decide))
local macro_rules | `(tactic| walk_at "w1") => `(tactic| ((conv => whnf); (try refine At.mk ?_)))
local macro_rules | `(tactic| walk_at "wa") => `(tactic| first
  | refine wox (ex_mul (Sm.mul (by walk_at "sm") (by walk_at "sm")) ?_)
  | refine wox (ex_mod (by first | decide | omega | assumption) ?_)
  | refine wox (ex_fdiv (Sm.div (by walk_at "sm") (by first | decide | omega | assumption)) ?_))
local macro_rules | `(tactic| walk_at "w") => `(tactic| ((first | refine nrm_go ?_ | refine WpS.ok ?_ | refine WpE.ok ?_ | skip); walk_at "w1"))
local macro_rules | `(tactic| walk_at "wm") => `(tactic| (walk_at "w"; (repeat (walk_at "wa"; walk_at "w1"))))
def b__law_one (g__law_take : FnD) : FS :=
  (sRet (wSh (eOp dIx (eVar 1) (eFrz (wCall 2 g__law_take (aSlot 0 (aVal (eCB dLen (aVal (eVar 1) aNil)) aNil)))))))
abbrev f__law_one : FnD := callF 2 [0] (b__law_one f__law_take)
def b__law_amount_spoilt (g__law_take g__law_one : FnD) : FS :=
  (sSeq (sAsg 2 (wCall 2 g__law_take (aSlot 0 (aVal (eOp dAdd (eCB dLen (aVal (eVar 1) aNil)) (eC (.int 1))) aNil))))
    (sSeq (sAsg 3 (wSh (eOp dIx (eC (.str "0123456789-/ +x")) (eFrz (wCall 2 g__law_take (aSlot 0 (aVal (eC (.int 15)) aNil)))))))
    (sSeq (sAsg 4 (wCall 2 g__law_take (aSlot 0 (aVal (eC (.int 4)) aNil))))
    (sSeq (sIf (eOp dEq (eVar 4) (eC (.int 3))) (sRet (wCall 2 g__law_one (aSlot 0 (aVal (eFrz (wLst (aVal (eC (.str "")) (aVal (eC (.str "-")) (aVal (eC (.str "/")) (aVal (eC (.str "4/2")) (aVal (eC (.str "0/3")) (aVal (eC (.str "-0")) (aVal (eC (.str "7/1")) (aVal (eC (.str "3/0")) (aVal (eC (.str "00")) (aVal (eC (.str "1/2/3")) (aVal (eC (.str "1234567890123")) aNil))))))))))))) aNil)))) sNx)
    (sRet (wSh (eOp dAdd (eOp dAdd (eSl (eVar 1) none (some (eVar 2))) (eOp dIx (eFrz (wLst (aVal (eVar 3) (aVal (eVar 3) (aVal (eC (.str "")) aNil))))) (eVar 4))) (eSl (eVar 1) (some (eOp dAdd (eVar 2) (eOp dIx (eFrz (wLst (aVal (eC (.int 0)) (aVal (eC (.int 1)) (aVal (eC (.int 1)) aNil))))) (eVar 4)))) none))))))))
abbrev f__law_amount_spoilt : FnD := callF 5 [0] (b__law_amount_spoilt f__law_take f__law_one)
abbrev why_tab : List (Str × List Str) := [("BadText", ["BadText", "LoomError"])]
abbrev why_cl : List (List Str × List Str) := [(["NoNode", "BadPrice", "BadRate", "BadStep", "Winning"], ["called", "date", "node"]), (["BadName", "Clash", "Ring", "TooGreat", "InUse", "StillAsked", "NoNote", "NoThing"], ["called", "name"]), (["BadPage"], ["called", "row"]), (["NoStand"], ["called", "number"]), (["LoomError", "Missing"], ["called"])]
def b_law (g__law_box g__law_low g__law_take g__law_near g__law_figures g__law_same g_read_amount g_amount_text g__law_amount_spoilt g__law_amount_in : FnD) : FS :=
  (sSeq (sAsg 1 (wCall 1 g__law_box (aVal (eVar 0) aNil)))
    (sSeq (sFor (iArgs rangeD (aVal (eC (.int 7)) aNil)) (gN 2) (sSeq (sAsg 3 (wCall 2 g__law_low (aVal (eFrz (wCall 2 g__law_near (aSlot 1 (aVal (eOp dIx (eFrz (wLst (aVal (eC (.int 9)) (aVal (eOp dSub (eOp dPow (eC (.int 10)) (eC (.int 12))) (eC (.int 1))) aNil)))) (eFrz (wCall 2 g__law_take (aSlot 1 (aVal (eC (.int 2)) aNil))))) aNil)))) (aVal (eOp dAdd (eC (.int 1)) (eFrz (wCall 2 g__law_take (aSlot 1 (aVal (eOp dIx (eFrz (wLst (aVal (eC (.int 3)) (aVal (eOp dSub (eOp dPow (eC (.int 10)) (eC (.int 12))) (eC (.int 1))) aNil)))) (eFrz (wCall 2 g__law_take (aSlot 1 (aVal (eC (.int 2)) aNil))))) aNil))))) aNil))))
    (sSeq (sAsg 4 (wCall 1 g__law_figures (aVal (eVar 3) aNil)))
    (sSeq (sIf (eNot (eFrz (wCall 2 g__law_same (aVal (eFrz (wLst (aVal (eFrz (wCall 1 g_amount_text (aVal (eVar 3) aNil))) (aVal (eFrz (wCall 2 g_read_amount (aArr 1 0 [(.int 12)] [.inl 0, .inr 0] (aVal (eVar 4) aNil) aNil))) aNil)))) (aVal (eFrz (wLst (aVal (eVar 4) (aVal (eVar 3) aNil)))) aNil))))) (sRet (wSh (eC (.bl false)))) sNx)
    (sSeq (sAsg 4 (wCall 2 g__law_amount_spoilt (aSlot 1 (aVal (eVar 4) aNil))))
    (sSeq (sAsg 5 (wSh (eOp dIx (eFrz (wLst (aVal (eC (.int 12)) (aVal (eC (.int 12)) (aVal (eC (.int 3)) (aVal (eC (.int 20)) aNil)))))) (eFrz (wCall 2 g__law_take (aSlot 1 (aVal (eC (.int 4)) aNil)))))))
    (sSeq (sAsg 6 (wCall 2 g__law_amount_in (aVal (eVar 4) (aVal (eVar 5) aNil))))
    (sSeq (sAsg 7 (wSh (eWhy why_tab why_cl (eFrz (wCall 2 g_read_amount (aArr 1 1 [] [.inl 0, .inl 1] (aVal (eVar 4) aNil) (aVal (eVar 5) aNil)))))))
    (sSeq (sIf (eNot (eFrz (wCall 2 g__law_same (aVal (eVar 7) (aVal (eIte (eOp dIs (eVar 6) (eC .non)) (eTup (aVal (eC (.str "BadText")) aNil)) (eTup (aVal (eC (.str "told")) (aVal (eVar 6) aNil)))) aNil))))) (sRet (wSh (eC (.bl false)))) sNx)
    (sIf (eAnd (eOp dEq (eVar 5) (eC (.int 12))) (eNot (eFrz (wCall 2 g__law_same (aVal (eWhy why_tab why_cl (eFrz (wCall 2 g_read_amount (aArr 1 0 [(.int 12)] [.inl 0, .inr 0] (aVal (eVar 4) aNil) aNil)))) (aVal (eVar 7) aNil)))))) (sRet (wSh (eC (.bl false)))) sNx))))))))))
    (sRet (wSh (eC (.bl true))))))
abbrev f_law : FnD := callF 8 [] (b_law f__law_box f__law_low f__law_take f__law_near f__law_figures f__law_same f_read_amount f_amount_text f__law_amount_spoilt f__law_amount_in)
theorem ix_pick {i x y : Int} {Q : Dt → Prop} (hi : 0 ≤ i) (h2 : i < 2) (q : ∀ m, m = x ∨ m = y → Q (.int m)) : ∃ g, dIx (.lst [.int x, .int y]) (.int i) = some g ∧ Q g := ix_two hi h2 (q x (.inl rfl)) (q y (.inr rfl))
theorem ix_lst {i : Int} {ds : List Dt} {Q : Dt → Prop} (hi : 0 ≤ i) (h2 : i < ds.length) (hl : ds.length ≤ 1000) (q : ∀ d ∈ ds, Q d) : ∃ g, dIx (.lst ds) (.int i) = some g ∧ Q g := by
  obtain ⟨n, rfl⟩ := Int.eq_ofNat_of_zero_le hi
  have hn : n < ds.length := by omega
  refine ⟨ds[n], ?_, q _ (List.getElem_mem hn)⟩
  show atI ds (n : Int) = some ds[n]
  unfold atI ixN
  rw [if_pos (by omega), if_pos (by omega)]
  exact List.getElem?_eq_getElem hn
theorem str_ix {z : Str} {i : Int} {Q : Dt → Prop} (hi : 0 ≤ i) (h2 : i < z.length) (hz : z.length ≤ 1000) (q : ∀ c : Nat, Q (.str ⟨#[c]⟩)) : ∃ g, dIx (.str z) (.int i) = some g ∧ Q g := by
  obtain ⟨n, rfl⟩ := Int.eq_ofNat_of_zero_le hi
  have hn : n < (cl z).length := by rw [cl_len]; omega
  exact ⟨_, Nx.ix (r := (cl z).drop (n + 1)) (c := (cl z)[n]) (by omega) ⟨by omega, by rw [List.getElem_cons_drop]⟩, q _⟩
theorem sl_any {z : Str} {lo hi : Option Int} {Q : Dt → Prop} (hz : z.length ≤ 1000) (q : ∀ y : Str, y.length ≤ z.length → Q (.str y)) : ∃ g, dSl (.str z) lo hi = some g ∧ Q g := by
  refine ⟨.str (L2.cutS z lo hi), if_pos (by omega), q _ ?_⟩
  unfold L2.cutS
  show (List.toArray _).size ≤ _
  rw [List.size_toArray, List.length_take, List.length_drop]
  have := cl_len z
  have e : z.cps.toList.length = z.length := this
  omega
theorem one_ev {xs ds : List Dt} (hx : BoxOk xs) (h0 : 0 < ds.length) (hl : ds.length ≤ 100) {Q : Wt → List (List Dt) → Prop} (q : ∀ d ∈ ds, ∀ ys, BoxOk ys → Q (.sh d) [ys]) : EvF f__law_one [.own xs, .sh (.lst ds)] Q := by
  refine ef_in rfl ?_
  unfold b__law_one
  walk_at "w"
  refine take_ev hx (by omega) (sm_nat (by omega)) fun i ys h1 h2 hy => ?_
  walk_at "w"
  refine wox (ix_lst h1 h2 (by omega) fun d hd => ?_)
  walk_at "w"
  exact q d hd ys hy
theorem spoilt_ev {xs : List Dt} {z : Str} (hx : BoxOk xs) (hz : z.length ≤ 100) {Q : Wt → List (List Dt) → Prop} (q : ∀ (y : Str) ys, y.length ≤ 2 * z.length + 20 → BoxOk ys → Q (.sh (.str y)) [ys]) : EvF f__law_amount_spoilt [.own xs, .sh (.str z)] Q := by
  refine ef_in rfl ?_
  unfold b__law_amount_spoilt
  walk_at "w"
  refine wo (if_pos (by omega)) ?_
  walk_at "w"
  refine take_ev hx (by omega) (sm_nat (by omega)) fun at_ ys a1 a2 hy => ?_
  walk_at "w"
  refine take_ev hy (by decide) (sm_nat (by decide)) fun i ys h1 h2 hy => ?_
  walk_at "w"
  refine wox (str_ix h1 h2 (by decide) fun c => ?_)
  walk_at "w"
  refine take_ev hy (by decide) (sm_nat (by decide)) fun k ys k1 k2 hy => ?_
  walk_at "w"
  refine wd (fun e => ?_) (fun e => ?_)
  · walk_at "w"
    refine one_ev hy (Nat.le_of_ble_eq_true rfl) (Nat.le_of_ble_eq_true rfl) fun d hd ys hy => ?_
    have hs : ∃ y : Str, d = .str y ∧ y.length ≤ 13 := by
      simp only [List.mem_cons, List.not_mem_nil, or_false] at hd
      rcases hd with rfl | rfl | rfl | rfl | rfl | rfl | rfl | rfl | rfl | rfl | rfl <;> exact ⟨_, rfl, by decide +kernel⟩
    obtain ⟨y, rfl, hy2⟩ := hs
    walk_at "w"
    exact q y ys (by omega) hy
  · walk_at "w"
    refine wox (sl_any (by omega) fun y1 l1 => ?_)
    walk_at "w"
    refine wox (ix_lst k1 (by show k < 3; omega) (Nat.le_of_ble_eq_true rfl) fun d hd => ?_)
    have hs : ∃ y : Str, d = .str y ∧ y.length ≤ 1 := by
      simp only [List.mem_cons, List.not_mem_nil, or_false] at hd
      rcases hd with rfl | rfl | rfl
      · exact ⟨_, rfl, Nat.le_refl 1⟩
      · exact ⟨_, rfl, Nat.le_refl 1⟩
      · exact ⟨_, rfl, by decide +kernel⟩
    obtain ⟨y2, rfl, l2⟩ := hs
    walk_at "w"
    refine wo (if_pos (by omega)) ?_
    walk_at "w"
    refine wox (ix_lst k1 (by show k < 3; omega) (Nat.le_of_ble_eq_true rfl) fun d hd => ?_)
    have hs : ∃ j : Int, d = .int j := by
      simp only [List.mem_cons, List.not_mem_nil, or_false] at hd
      rcases hd with rfl | rfl | rfl <;> exact ⟨_, rfl⟩
    obtain ⟨j, rfl⟩ := hs
    walk_at "w"
    refine wox (sl_any (by omega) fun y3 l3 => ?_)
    walk_at "w"
    refine wo (if_pos (by rw [s_len]; omega)) ?_
    walk_at "w"
    exact q _ ys (by rw [s_len, s_len]; omega) hy
theorem read_yes {z : Str} {f : Nat} {q : Rat} (hz : z.length ≤ 500) (hf : 1 ≤ f) (hf2 : f ≤ 200) (h : IsA z f q) : f_read_amount [.sh (.str z), .sh (.int f)] = some (.ok (.sh (amR q)), []) := by
  rcases read_amount_tot hz hf hf2 with ⟨w, cs, e, rfl, r, rfl, hr⟩ | ⟨c, fs, cs, e, _, hn⟩
  · rw [e, h.uniq hr]
  · exact (hn ⟨q, h⟩).elim
theorem fr12_len {q : Rat} (h : FR 12 q) : (amT q).length ≤ 26 := by
  have hdl := TL.numL_len (k := 12) (by decide) h.2
  have hnl := TL.numL_len (k := 12) (by decide) h.1
  have l1 := cl_len (iT q.num)
  have l2 := cl_len (iT (q.den : Int))
  rw [cl_nat] at l2
  have hn : (iT q.num).length ≤ 13 := by
    rcases num_cases q with ⟨n, _, e2, e3⟩ | ⟨n, _, e2, e3⟩
    · rw [e3] at l1; rw [e2] at hnl; omega
    · rw [e3, List.length_cons] at l1; rw [e2] at hnl; omega
  have l3 : (Str.ofString "/").length = 1 := by decide +kernel
  unfold amT
  split
  · omega
  · rw [s_len, s_len, l3]
    omega
theorem law_eq (ns : List Int) (hl : ns.length ≤ 63) : f_law [.sh (.scr ns)] = some (.ok (.sh (.bl true)), []) := by
  refine fn_eq (ef_in rfl ?_)
  unfold b_law
  walk_at "w"
  refine box_ev hl fun xs hx => ?_
  walk_at "w"
  refine EvS.cut (fun ρ => ∃ (ys : List Dt) (x2 x3 x4 x5 x6 x7 : Option Wt), ρ = [some (.sh (.scr ns)), some (.own ys), x2, x3, x4, x5, x6, x7]) ?_ ?_
  · refine for_inv (fun _ ρ => ∃ (ys : List Dt) (x2 x3 x4 x5 x6 x7 : Option Wt), ρ = [some (.sh (.scr ns)), some (.own ys), x2, x3, x4, x5, x6, x7] ∧ BoxOk ys) ?_ (fun ρ ⟨ys, x2, x3, x4, x5, x6, x7, e, _⟩ => ⟨ys, x2, x3, x4, x5, x6, x7, e⟩) _ _ ⟨xs, none, none, none, none, none, none, rfl, hx⟩
    rintro d ds ρ ⟨ys, x2, x3, x4, x5, x6, x7, rfl, hy⟩
    walk_at "w"
    refine take_ev hy (by decide) (sm_nat (by decide)) fun i ys i1 i2 hy => ?_
    refine wox (ix_pick i1 i2 fun m hm => ?_)
    have hm1 : 0 ≤ m ∧ m ≤ 999999999999 := by
      have e : (10 ^ Int.toNat 12 - 1 : Int) = 999999999999 := by decide
      rw [e] at hm
      omega
    walk_at "w"
    refine near_ev hy (by omega) (nat3000 (by omega)) fun u ys u1 u2 hy => ?_
    walk_at "w"
    refine take_ev hy (by decide) (sm_nat (by decide)) fun i ys i1 i2 hy => ?_
    walk_at "w"
    refine wox (ix_pick i1 i2 fun m2 hm2 => ?_)
    have hm3 : 0 < m2 ∧ m2 ≤ 999999999999 := by
      have e : (10 ^ Int.toNat 12 - 1 : Int) = 999999999999 := by decide
      rw [e] at hm2
      omega
    walk_at "w"
    refine take_ev hy (by omega) (sm_nat (by omega)) fun v ys v1 v2 hy => ?_
    walk_at "w"
    refine low_ev (by omega) (sm_nat (by omega)) ?_
    rw [lowL_val (by omega)]
    have hq : FR 12 (Rat.divInt u (1 + v)) := by
      have h := divInt_fr (u := u) (v := 1 + v) (F := 999999999999) (by omega) (by omega) (by omega)
      constructor <;> (show _ < 1000000000000) <;> omega
    generalize Rat.divInt u (1 + v) = q at hq
    have hlen := fr12_len hq
    have hx := (hq.mono (show 12 ≤ 200 by decide)).txr
    walk_at "w"
    refine figures_ev hx ?_
    walk_at "w"
    refine amount_text_ev hx ?_
    walk_at "w"
    refine (ef_at (read_yes (f := 12) (by omega) (by decide) (by decide) ⟨hq, rfl⟩) ?_).h
    walk_at "w"
    refine (ef_at (same_eq 19 _ (.lst 18 (.cons (.str _ _) (.cons (same_amt 17 _) (.nil _))) (Nat.le_of_ble_eq_true rfl))) ?_).h
    walk_at "w"
    refine spoilt_ev hy (by omega) fun z ys hz hy => ?_
    have hz2 : z.length ≤ 100 := by omega
    clear hz
    walk_at "w"
    refine take_ev hy (by decide) (sm_nat (by decide)) fun i ys i1 i2 hy => ?_
    walk_at "w"
    refine wox (ix_lst i1 (by show i < 4; omega) (Nat.le_of_ble_eq_true rfl) fun d hd => ?_)
    have hs : ∃ f : Nat, d = .int f ∧ 1 ≤ f ∧ f ≤ 200 := by
      simp only [List.mem_cons, List.not_mem_nil, or_false] at hd
      rcases hd with rfl | rfl | rfl | rfl
      · exact ⟨12, rfl, by decide, by decide⟩
      · exact ⟨12, rfl, by decide, by decide⟩
      · exact ⟨3, rfl, by decide, by decide⟩
      · exact ⟨20, rfl, by decide, by decide⟩
    obtain ⟨f, rfl, f1, f2⟩ := hs
    walk_at "w"
    refine (law_in_tot (by omega) f1 f2).imp fun w cs hw => ?_
    obtain ⟨rfl, hw⟩ := hw
    have hr := read_amount_tot (z := z) (f := f) (by omega) f1 f2
    rcases hw with ⟨r, rfl, hr1⟩ | ⟨rfl, hn⟩
    · have e := read_yes (by omega) f1 f2 hr1
      walk_at "w"
      refine why_run (WpA.ok ?_)
      walk_at "w"
      refine ⟨_, rfl, rfl, rfl, ef2_ok e ⟨_, rfl, ?_⟩⟩
      walk_at "w"
      refine (ef_at (same_eq 19 _ (.tup 18 (.cons (.str _ _) (.cons (same_amt 17 _) (.nil _))) (Nat.le_of_ble_eq_true rfl))) ?_).h
      walk_at "w"
      refine wd (fun e2 => ?_) (fun e2 => ?_)
      · obtain rfl : f = 12 := by omega
        walk_at "w"
        refine why_run (WpA.ok ?_)
        walk_at "w"
        refine ⟨_, rfl, rfl, rfl, ef2_ok e ⟨_, rfl, ?_⟩⟩
        walk_at "w"
        refine (ef_at (same_eq 19 _ (.tup 18 (.cons (.str _ _) (.cons (same_amt 17 _) (.nil _))) (Nat.le_of_ble_eq_true rfl))) ?_).h
        walk_at "w"
        exact ⟨_, _, _, _, _, _, _, rfl, hy⟩
      · walk_at "w"
        exact ⟨_, _, _, _, _, _, _, rfl, hy⟩
    · have e : ∃ cs, f_read_amount [.sh (.str z), .sh (.int f)] = some (.ex "BadText" badF, cs) := by
        rcases hr with ⟨w, cs, e, rfl, r, rfl, hr⟩ | ⟨c, fs, cs, e, ⟨rfl, rfl⟩, _⟩
        · exact (hn ⟨r, hr⟩).elim
        · exact ⟨cs, e⟩
      obtain ⟨cs, e⟩ := e
      walk_at "w"
      refine why_run (WpA.ok ?_)
      walk_at "w"
      refine ⟨_, rfl, rfl, rfl, ef2_ex e ⟨["BadText", "LoomError"], .tup [.str "BadText"], rfl, fun _ => rfl, ?_⟩⟩
      walk_at "w"
      refine (ef_at (same_eq 19 _ (.tup 18 (.cons (.str _ _) (.nil _)) (Nat.le_of_ble_eq_true rfl))) ?_).h
      walk_at "w"
      refine wd (fun e2 => ?_) (fun e2 => ?_)
      · obtain rfl : f = 12 := by omega
        walk_at "w"
        refine why_run (WpA.ok ?_)
        walk_at "w"
        refine ⟨_, rfl, rfl, rfl, ef2_ex e ⟨["BadText", "LoomError"], .tup [.str "BadText"], rfl, fun _ => rfl, ?_⟩⟩
        walk_at "w"
        refine (ef_at (same_eq 19 _ (.tup 18 (.cons (.str _ _) (.nil _)) (Nat.le_of_ble_eq_true rfl))) ?_).h
        walk_at "w"
        exact ⟨_, _, _, _, _, _, _, rfl, hy⟩
      · walk_at "w"
        exact ⟨_, _, _, _, _, _, _, rfl, hy⟩
  · rintro ρ ⟨ys, x2, x3, x4, x5, x6, x7, rfl⟩
    walk_at "w"
    exact ⟨rfl, rfl⟩
end Lw
namespace Lw
open PySem PySem.Spec PyProof.Rows L2 RZ DL
def topS (i : Nat) : Stmt := PySem.Challenge.pw_strikeloom_k03_amounts_written_and_read.main.body.getD i (.Pass ⟨0, 0, 0, 0⟩)
section
variable {P : Program} {w : World} {K : PySem.W.Frag} {mg : Str → Option Value} {base : Heap}
abbrev si_BadText : Stmt := inClass (topS 6) 0
theorem sci_BadText : FnScope ["self"] ["self"] (defScope si_BadText) := ⟨rfl, rfl, rfl, by decide +kernel, rfl, by decide +kernel, by decide +kernel⟩
theorem in_BadText {fI : Addr} (cdv : Value) (A : Around) (outer : List Env) (s : Shared) (H : Hp) (E : XK) : PSs (cxOf (L2.CX P w) P w K mg base ["self"] "BadText.__init__" (defScope si_BadText) fI cdv A outer s H E) (defBody si_BadText) (tInit K [("called", .inl (.str "BadText"))]) :=
  (pss_cons (ps_ost (pe_var (i := 0) rfl (by first | exact Or.inl rfl | exact Or.inr (Or.inl rfl) | exact Or.inr (Or.inr rfl))) pe_str) pss_nil)
abbrev s_common : Stmt := topS 22
theorem sc_common : FnScope ["one", "other"] ["one", "other"] (defScope s_common) := ⟨rfl, rfl, rfl, by decide +kernel, rfl, by decide +kernel, by decide +kernel⟩
theorem ok_common {k : Nat} (D : DefAt K mg "common" s_common ["one", "other"]) (m_abs : mg "abs" = none) :
    FnAt P w K mg base (k + 1) "common" 2 (callF 2 [] (b_common)) :=
  fn_at [] D sc_common fun f cdv A outer s H E Z hZ hr => by
    have tk : Takes (cxOf (L2.CX P w) P w K mg base ["one", "other"] "common" (defScope s_common) f cdv A outer s H E) (fun cls d _ H => E cls d H) := takes_of rfl rfl rfl rfl
    exact (s_cons (s_par 0 1 (nb hZ (by decide)) (nb hZ (by decide)) rfl sc_common.nd (a_val (d_cb cd_abs call_abs (by rfl) m_abs (by decide +kernel) (a_val (d_var 0 (nb hZ (by decide))) a_nil)) (a_val (d_cb cd_abs call_abs (by rfl) m_abs (by decide +kernel) (a_val (d_var 1 (nb hZ (by decide))) a_nil)) a_nil)))
      (s_cons (s_while (fun ρ => slotN ρ 1 + 1) (passes_of rfl) (t_cmp op_gt od_gt (d_var 1 (nb hZ (by decide))) d_int (nomark _)) (s_one (s_par 0 1 (nb hZ (by decide)) (nb hZ (by decide)) rfl sc_common.nd (a_val (d_var 1 (nb hZ (by decide))) (a_val (d_op op_modN od_mod (d_var 0 (nb hZ (by decide))) (d_var 1 (nb hZ (by decide)))) a_nil)))))
      (s_one (s_ret (w_var 0 (nb hZ (by decide)))))))
abbrev s_lowest : Stmt := topS 23
theorem sc_lowest : FnScope ["over", "under", "part"] ["over", "under"] (defScope s_lowest) := ⟨rfl, rfl, rfl, by decide +kernel, rfl, by decide +kernel, by decide +kernel⟩
theorem ok_lowest {k : Nat} {g_common : FnD} (D : DefAt K mg "lowest" s_lowest ["over", "under"]) (c_common : FnAt P w K mg base k "common" 2 g_common) :
    FnAt P w K mg base (k + 1) "lowest" 2 (callF 3 [] (b_lowest g_common)) :=
  fn_at [] D sc_lowest fun f cdv A outer s H E Z hZ hr => by
    have tk : Takes (cxOf (L2.CX P w) P w K mg base ["over", "under", "part"] "lowest" (defScope s_lowest) f cdv A outer s H E) (fun cls d _ H => E cls d H) := takes_of rfl rfl rfl rfl
    exact (s_cons (s_set 2 (nb hZ (by decide)) (w_fn c_common hr tk (by rfl) (a_val (d_var 0 (nb hZ (by decide))) (a_val (d_var 1 (nb hZ (by decide))) a_nil))) sc_lowest.nd (by first | exact Or.inl rfl | exact Or.inr rfl))
      (s_cons (s_if (t_cmp op_lt od_lt (d_var 1 (nb hZ (by decide))) d_int (nomark _)) (s_one (s_set 2 (nb hZ (by decide)) (w_sh (d_un un_neg ud_neg (d_var 2 (nb hZ (by decide))))) sc_lowest.nd (by first | exact Or.inl rfl | exact Or.inr rfl))) s_nil)
      (s_one (s_ret (w_sh (d_tup (a_val (d_op op_fdivZ od_fdiv (d_var 0 (nb hZ (by decide))) (d_var 2 (nb hZ (by decide)))) (a_val (d_op op_fdivZ od_fdiv (d_var 1 (nb hZ (by decide))) (d_var 2 (nb hZ (by decide)))) a_nil))))))))
abbrev s_whole_in : Stmt := topS 24
theorem sc_whole_in : FnScope ["text", "figures", "sign"] ["text", "figures"] (defScope s_whole_in) := ⟨rfl, rfl, rfl, by decide +kernel, rfl, by decide +kernel, by decide +kernel⟩
theorem ok_whole_in {k n : Nat} {ks : List Str} {ar : List (Nat ⊕ Nat)} {dd : List Dt} (D : KDefAt K mg "whole_in" s_whole_in ["text", "figures"] n ks ar dd) (m_len : mg "len" = none) (m_all : mg "all" = none) (m_int : mg "int" = none) (c_FIGURES : ConstAt K mg "FIGURES" (.str "0123456789")) :
    CallAt P w K mg base (k + 1) "whole_in" n ks ar dd 2 (callF 3 [] (b_whole_in)) :=
  fn_atK [] D sc_whole_in fun f cdv A outer s H E Z hZ hr => by
    have tk : Takes (cxOf (L2.CX P w) P w K mg base ["text", "figures", "sign"] "whole_in" (defScope s_whole_in) f cdv A outer s H E) (fun cls d _ H => E cls d H) := takes_of rfl rfl rfl rfl
    exact (s_cons (s_if (PW.pt (t_or (t_not (t_chain op_le od_le op_le od_le d_int (d_cb cd_len call_len (by rfl) m_len (by decide +kernel) (a_val (d_var 0 (nb hZ (by decide))) a_nil)) (d_var 1 (nb hZ (by decide))))) (t_or1 (t_not (t_val (d_cb cd_all (cr_all (by rfl)) (by rfl) m_all (by decide +kernel) (a_val (d_frz (w_lc rfl sc_whole_in.nd (i_seq (d_var 0 (nb hZ (by decide)))) (blkOk_by (own := [("sign", 2)]) (N := ["text", "figures", "sign"]) (sc := defScope s_whole_in) (by decide +kernel)) rfl (nbs hZ (by decide)) (by decide) (fun _ _ _ _ _ P2 hP2 => (g_name 2 (nb (nbt hP2 hZ) (by decide)) sc_whole_in.nd (by first | exact Or.inl rfl | exact Or.inr rfl))) (fun _ _ _ _ _ P2 hP2 => ts_nil) (fun _ _ _ _ _ P2 hP2 => (d_cmp op_inA od_in (d_var 2 (nb (nbt hP2 hZ) (by decide))) (c_FIGURES.pe (by rfl)) (by rfl))))) a_nil))))))) (s_one (s_ret (w_sh d_non))) s_nil)
      (s_one (s_ret (w_ite (PW.pt (t_and (t_cmp (op_eqA hr.units) od_eq (d_sub (d_var 0 (nb hZ (by decide))) d_int) d_str (nomark _)) (t_and1 (t_cmp (op_neA hr.units) od_ne (d_var 0 (nb hZ (by decide))) d_str (nomark _))))) (w_sh d_non) (w_sh (d_cty cd_int call_intA (by rfl) m_int (by decide +kernel) (a_val (d_var 0 (nb hZ (by decide))) a_nil)))))))
abbrev s_amount_text : Stmt := topS 25
theorem sc_amount_text : FnScope ["amount", "over", "under"] ["amount"] (defScope s_amount_text) := ⟨rfl, rfl, rfl, by decide +kernel, rfl, by decide +kernel, by decide +kernel⟩
theorem ok_amount_text {k : Nat} (D : DefAt K mg "amount_text" s_amount_text ["amount"]) (m_str : mg "str" = none) :
    FnAt P w K mg base (k + 1) "amount_text" 1 (callF 3 [] (b_amount_text)) :=
  fn_at [] D sc_amount_text fun f cdv A outer s H E Z hZ hr => by
    have tk : Takes (cxOf (L2.CX P w) P w K mg base ["amount", "over", "under"] "amount_text" (defScope s_amount_text) f cdv A outer s H E) (fun cls d _ H => E cls d H) := takes_of rfl rfl rfl rfl
    exact (s_cons (s_asgT (g_tup rfl (g_cons (g_name 1 (nb hZ (by decide)) sc_amount_text.nd (by first | exact Or.inl rfl | exact Or.inr rfl)) (g_cons (g_name 2 (nb hZ (by decide)) sc_amount_text.nd (by first | exact Or.inl rfl | exact Or.inr rfl)) g_nil))) (d_var 0 (nb hZ (by decide))))
      (s_one (s_ret (w_ite (t_cmp (op_eqA hr.units) od_eq (d_var 2 (nb hZ (by decide))) d_int (nomark _)) (w_sh (d_cty cd_strA call_strA (by rfl) m_str (by decide +kernel) (a_val (d_var 1 (nb hZ (by decide))) a_nil))) (w_sh (d_js (PJD.cons (d_fmt (d_var 1 (nb hZ (by decide)))) (PJD.cons d_str (PJD.cons (d_fmt (d_var 2 (nb hZ (by decide)))) PJD.nil)))))))))
abbrev s_read_amount : Stmt := topS 26
theorem sc_read_amount : FnScope ["text", "figures", "before", "line", "behind", "over", "under", "found"] ["text", "figures"] (defScope s_read_amount) := ⟨rfl, rfl, rfl, by decide +kernel, rfl, by decide +kernel, by decide +kernel⟩
theorem ok_read_amount {k n : Nat} {ks : List Str} {ar : List (Nat ⊕ Nat)} {dd : List Dt} {g_whole_in g_lowest g_amount_text : FnD} (D : KDefAt K mg "read_amount" s_read_amount ["text", "figures"] n ks ar dd) (hk : 2 ≤ k) (x_BadText : ExAt P w K mg base 1 "BadText" 0 [("called", .inl (.str "BadText"))]) (k_whole_in_1_figures : CallAt P w K mg base k "whole_in" 1 ["figures"] [.inl 0, .inl 1] [] 2 g_whole_in) (c_lowest : FnAt P w K mg base k "lowest" 2 g_lowest) (c_amount_text : FnAt P w K mg base k "amount_text" 1 g_amount_text) :
    CallAt P w K mg base (k + 1) "read_amount" n ks ar dd 2 (callF 8 [] (b_read_amount g_whole_in g_lowest g_amount_text)) :=
  fn_atK [] D sc_read_amount fun f cdv A outer s H E Z hZ hr => by
    have tk : Takes (cxOf (L2.CX P w) P w K mg base ["text", "figures", "before", "line", "behind", "over", "under", "found"] "read_amount" (defScope s_read_amount) f cdv A outer s H E) (fun cls d _ H => E cls d H) := takes_of rfl rfl rfl rfl
    exact (s_cons (s_asgT (g_tup rfl (g_cons (g_name 2 (nb hZ (by decide)) sc_read_amount.nd (by first | exact Or.inl rfl | exact Or.inr rfl)) (g_cons (g_name 3 (nb hZ (by decide)) sc_read_amount.nd (by first | exact Or.inl rfl | exact Or.inr rfl)) (g_cons (g_name 4 (nb hZ (by decide)) sc_read_amount.nd (by first | exact Or.inl rfl | exact Or.inr rfl)) g_nil)))) (d_ms PySem.F.slot_str_partition PySem.F.type_str_partition mt_partition ms_part (d_var 0 (nb hZ (by decide))) d_str))
      (s_cons (s_set 5 (nb hZ (by decide)) (w_kw k_whole_in_1_figures hr tk (by rfl) (a_val (d_ite (t_val (d_ms PySem.F.slot_str_startswith PySem.F.type_str_startswith mt_startswith ms_starts (d_var 2 (nb hZ (by decide))) d_str)) (d_sl10 (d_var 2 (nb hZ (by decide))) d_int) (d_var 2 (nb hZ (by decide)))) a_nil) (k_val (d_var 1 (nb hZ (by decide))) k_nil)) sc_read_amount.nd (by first | exact Or.inl rfl | exact Or.inr rfl))
      (s_cons (s_set 6 (nb hZ (by decide)) (w_ite (t_cmp (op_neA hr.units) od_ne (d_var 3 (nb hZ (by decide))) d_str (nomark _)) (w_kw k_whole_in_1_figures hr tk (by rfl) (a_val (d_var 4 (nb hZ (by decide))) a_nil) (k_val (d_var 1 (nb hZ (by decide))) k_nil)) (w_sh d_int)) sc_read_amount.nd (by first | exact Or.inl rfl | exact Or.inr rfl))
      (s_cons (s_if (PW.pt (t_or (t_cmp op_isN od_is (d_var 5 (nb hZ (by decide))) d_non (nomark _)) (t_or (t_cmp op_isN od_is (d_var 6 (nb hZ (by decide))) d_non (nomark _)) (t_or1 (t_cmp (op_eqA hr.units) od_eq (d_var 6 (nb hZ (by decide))) d_int (nomark _)))))) (s_one (s_raise0 x_BadText (fun F a => ⟨rfl, .cons (.str _) (.nil)⟩) (hr.mono hk) rfl tk (by rfl))) s_nil)
      (s_cons (s_set 7 (nb hZ (by decide)) (w_fn c_lowest hr tk (by rfl) (a_val (d_ite (t_val (d_ms PySem.F.slot_str_startswith PySem.F.type_str_startswith mt_startswith ms_starts (d_var 2 (nb hZ (by decide))) d_str)) (d_un un_neg ud_neg (d_var 5 (nb hZ (by decide)))) (d_var 5 (nb hZ (by decide)))) (a_val (d_var 6 (nb hZ (by decide))) a_nil))) sc_read_amount.nd (by first | exact Or.inl rfl | exact Or.inr rfl))
      (s_cons (s_if (t_cmp (op_neA hr.units) od_ne (d_frz (w_fn c_amount_text hr tk (by rfl) (a_val (d_var 7 (nb hZ (by decide))) a_nil))) (d_var 0 (nb hZ (by decide))) (nomark _)) (s_one (s_raise0 x_BadText (fun F a => ⟨rfl, .cons (.str _) (.nil)⟩) (hr.mono hk) rfl tk (by rfl))) s_nil)
      (s_one (s_ret (w_var 7 (nb hZ (by decide)))))))))))
abbrev s__law_box : Stmt := topS 28
theorem sc__law_box : FnScope ["_law_script"] ["_law_script"] (defScope s__law_box) := ⟨rfl, rfl, rfl, by decide +kernel, rfl, by decide +kernel, by decide +kernel⟩
theorem ok__law_box {k : Nat} (D : DefAt K mg "_law_box" s__law_box ["_law_script"]) (m_len : mg "len" = none) (m_list : mg "list" = none) :
    FnAt P w K mg base (k + 1) "_law_box" 1 (callF 1 [] (b__law_box)) :=
  fn_at [] D sc__law_box fun f cdv A outer s H E Z hZ hr => by
    have tk : Takes (cxOf (L2.CX P w) P w K mg base ["_law_script"] "_law_box" (defScope s__law_box) f cdv A outer s H E) (fun cls d _ H => E cls d H) := takes_of rfl rfl rfl rfl
    exact (s_one (s_ret (w_lst (a_val (d_cty cd_list call_list_of (by rfl) m_list (by decide +kernel) (a_val (d_sl01 (d_var 0 (nb hZ (by decide))) d_int) a_nil)) (a_val d_int (a_val d_int (a_val (d_op op_addA od_add d_int (d_op op_mulW od_mul d_int (d_cb cd_len call_len (by rfl) m_len (by decide +kernel) (a_val (d_sl01 (d_var 0 (nb hZ (by decide))) d_int) a_nil)))) a_nil)))))))
abbrev s__law_take : Stmt := topS 29
theorem sc__law_take : FnScope ["_law_box_here", "_law_many", "_law_cell", "_law_seed", "_law_got"] ["_law_box_here", "_law_many"] (defScope s__law_take) := ⟨rfl, rfl, rfl, by decide +kernel, rfl, by decide +kernel, by decide +kernel⟩
theorem ok__law_take {k : Nat} (D : DefAt K mg "_law_take" s__law_take ["_law_box_here", "_law_many"]) (m_len : mg "len" = none) :
    FnAt P w K mg base (k + 1) "_law_take" 2 (callF 5 [0] (b__law_take)) :=
  fn_at [0] D sc__law_take fun f cdv A outer s H E Z hZ hr => by
    have tk : Takes (cxOf (L2.CX P w) P w K mg base ["_law_box_here", "_law_many", "_law_cell", "_law_seed", "_law_got"] "_law_take" (defScope s__law_take) f cdv A outer s H E) (fun cls d _ H => E cls d H) := takes_of rfl rfl rfl rfl
    exact (s_cons (s_if (PW.pt (t_and (t_cmp (op_eqA hr.units) od_eq (d_ixV 0 d_int) d_int (nomark _)) (t_and1 (t_cmp op_lt od_lt (d_ixV 0 d_int) (d_cb cd_len call_len (by rfl) m_len (by decide +kernel) (a_val (d_ixV 0 d_int) a_nil)) (nomark _))))) (s_cons (s_set 2 (nb hZ (by decide)) (w_sh (d_sub (d_ixV 0 d_int) (d_ixV 0 d_int))) sc__law_take.nd (by first | exact Or.inl rfl | exact Or.inr rfl))
      (s_cons (s_put 0 d_int (d_op op_addA od_add (d_ixV 0 d_int) d_int))
      (s_one (s_if (t_cmp op_ge od_ge (d_var 2 (nb hZ (by decide))) (d_op op_pow od_pow d_int d_int) (nomark _)) (s_one (s_put 0 d_int (d_var 2 (nb hZ (by decide))))) (s_cons (s_set 3 (nb hZ (by decide)) (w_sh (d_op op_addA od_add (d_op op_mulW od_mul (d_ixV 0 d_int) d_int) (d_op op_mulW od_mul (d_ixV 0 d_int) d_int))) sc__law_take.nd (by first | exact Or.inl rfl | exact Or.inr rfl))
      (s_one (s_put 0 d_int (d_op op_modN od_mod (d_op op_addA od_add (d_var 3 (nb hZ (by decide))) (d_op op_mulW od_mul (d_op op_modN od_mod (d_var 2 (nb hZ (by decide))) d_int) d_int)) d_int)))))))) s_nil)
      (s_cons (s_if (t_cmp op_gt od_gt (d_ixV 0 d_int) d_int (nomark _)) (s_cons (s_set 4 (nb hZ (by decide)) (w_sh (d_op op_modN od_mod (d_ixV 0 d_int) (d_var 1 (nb hZ (by decide))))) sc__law_take.nd (by first | exact Or.inl rfl | exact Or.inr rfl))
      (s_cons (s_put 0 d_int (d_op op_fdivZ od_fdiv (d_ixV 0 d_int) (d_var 1 (nb hZ (by decide)))))
      (s_one (s_ret (w_var 4 (nb hZ (by decide))))))) s_nil)
      (s_cons (s_set 3 (nb hZ (by decide)) (w_sh (d_op op_addA od_add (d_op op_addA od_add (d_op op_mulW od_mul (d_ixV 0 d_int) (d_ixV 0 d_int)) (d_op op_mulW od_mul (d_ixV 0 d_int) d_int)) d_int)) sc__law_take.nd (by first | exact Or.inl rfl | exact Or.inr rfl))
      (s_cons (s_put 0 d_int (d_op op_modN od_mod (d_op op_addA od_add (d_var 3 (nb hZ (by decide))) (d_op op_mulW od_mul (d_ixV 0 d_int) d_int)) d_int))
      (s_one (s_ret (w_sh (d_op op_modN od_mod (d_op op_addA od_add (d_op op_fdivZ od_fdiv (d_ixV 0 d_int) d_int) (d_op op_mulW od_mul (d_op op_modN od_mod (d_ixV 0 d_int) d_int) d_int)) (d_var 1 (nb hZ (by decide)))))))))))
abbrev s__law_one : Stmt := topS 30
theorem sc__law_one : FnScope ["_law_box_here", "_law_some"] ["_law_box_here", "_law_some"] (defScope s__law_one) := ⟨rfl, rfl, rfl, by decide +kernel, rfl, by decide +kernel, by decide +kernel⟩
theorem ok__law_one {k : Nat} {g__law_take : FnD} (D : DefAt K mg "_law_one" s__law_one ["_law_box_here", "_law_some"]) (m_len : mg "len" = none) (c__law_take : FnAt P w K mg base k "_law_take" 2 g__law_take) :
    FnAt P w K mg base (k + 1) "_law_one" 2 (callF 2 [0] (b__law_one g__law_take)) :=
  fn_at [0] D sc__law_one fun f cdv A outer s H E Z hZ hr => by
    have tk : Takes (cxOf (L2.CX P w) P w K mg base ["_law_box_here", "_law_some"] "_law_one" (defScope s__law_one) f cdv A outer s H E) (fun cls d _ H => E cls d H) := takes_of rfl rfl rfl rfl
    exact (s_one (s_ret (w_sh (d_sub (d_var 1 (nb hZ (by decide))) (d_frz (w_fn c__law_take hr tk (by rfl) (a_slot 0 (a_val (d_cb cd_len call_len (by rfl) m_len (by decide +kernel) (a_val (d_var 1 (nb hZ (by decide))) a_nil)) a_nil))))))))
abbrev s__law_near : Stmt := topS 31
theorem sc__law_near : FnScope ["_law_box_here", "_law_far"] ["_law_box_here", "_law_far"] (defScope s__law_near) := ⟨rfl, rfl, rfl, by decide +kernel, rfl, by decide +kernel, by decide +kernel⟩
theorem ok__law_near {k : Nat} {g__law_take : FnD} (D : DefAt K mg "_law_near" s__law_near ["_law_box_here", "_law_far"]) (c__law_take : FnAt P w K mg base k "_law_take" 2 g__law_take) :
    FnAt P w K mg base (k + 1) "_law_near" 2 (callF 2 [0] (b__law_near g__law_take)) :=
  fn_at [0] D sc__law_near fun f cdv A outer s H E Z hZ hr => by
    have tk : Takes (cxOf (L2.CX P w) P w K mg base ["_law_box_here", "_law_far"] "_law_near" (defScope s__law_near) f cdv A outer s H E) (fun cls d _ H => E cls d H) := takes_of rfl rfl rfl rfl
    exact (s_one (s_ret (w_sh (d_op op_sub od_sub (d_frz (w_fn c__law_take hr tk (by rfl) (a_slot 0 (a_val (d_op op_addA od_add (d_op op_mulW od_mul d_int (d_var 1 (nb hZ (by decide)))) d_int) a_nil)))) (d_var 1 (nb hZ (by decide)))))))
abbrev s__law_same : Stmt := topS 32
theorem sc__law_same : FnScope ["_law_found", "_law_due", "_law_one_here", "_law_other"] ["_law_found", "_law_due"] (defScope s__law_same) := ⟨rfl, rfl, rfl, by decide +kernel, rfl, by decide +kernel, by decide +kernel⟩
theorem ok__law_same {k : Nat} {g__law_same : FnD} (D : DefAt K mg "_law_same" s__law_same ["_law_found", "_law_due"]) (m_list : mg "list" = none) (m_isinstance : mg "isinstance" = none) (m_tuple : mg "tuple" = none) (m_len : mg "len" = none) (m_zip : mg "zip" = none) (m_all : mg "all" = none) (m_bool : mg "bool" = none) (m_int : mg "int" = none) (m_str : mg "str" = none) (c__law_same : FnAt P w K mg base k "_law_same" 2 g__law_same) :
    FnAt P w K mg base (k + 1) "_law_same" 2 (callF 4 [] (b__law_same g__law_same)) :=
  fn_at [] D sc__law_same fun f cdv A outer s H E Z hZ hr => by
    have tk : Takes (cxOf (L2.CX P w) P w K mg base ["_law_found", "_law_due", "_law_one_here", "_law_other"] "_law_same" (defScope s__law_same) f cdv A outer s H E) (fun cls d _ H => E cls d H) := takes_of rfl rfl rfl rfl
    exact (s_cons (s_if (t_cmp op_isN od_is (d_var 1 (nb hZ (by decide))) d_non (nomark _)) (s_one (s_ret (w_sh (d_cmp op_isN od_is (d_var 0 (nb hZ (by decide))) d_non (nomark _))))) s_nil)
      (s_cons (s_if (PW.pt (t_or (t_val (d_cb cd_isi call_isi (by rfl) m_isinstance (by decide +kernel) (a_val (d_var 1 (nb hZ (by decide))) (a_val (d_bltn (by rfl) m_list (by decide +kernel)) a_nil)))) (t_or1 (t_val (d_cb cd_isi call_isi (by rfl) m_isinstance (by decide +kernel) (a_val (d_var 1 (nb hZ (by decide))) (a_val (d_bltn (by rfl) m_tuple (by decide +kernel)) a_nil))))))) (s_cons (s_if (PW.pt (t_or (t_cmp (op_neA hr.units) od_ne (d_cb cd_isi call_isi (by rfl) m_isinstance (by decide +kernel) (a_val (d_var 0 (nb hZ (by decide))) (a_val (d_bltn (by rfl) m_list (by decide +kernel)) a_nil))) (d_cb cd_isi call_isi (by rfl) m_isinstance (by decide +kernel) (a_val (d_var 1 (nb hZ (by decide))) (a_val (d_bltn (by rfl) m_list (by decide +kernel)) a_nil))) (nomark _)) (t_or1 (t_cmp (op_neA hr.units) od_ne (d_cb cd_isi call_isi (by rfl) m_isinstance (by decide +kernel) (a_val (d_var 0 (nb hZ (by decide))) (a_val (d_bltn (by rfl) m_tuple (by decide +kernel)) a_nil))) (d_cb cd_isi call_isi (by rfl) m_isinstance (by decide +kernel) (a_val (d_var 1 (nb hZ (by decide))) (a_val (d_bltn (by rfl) m_tuple (by decide +kernel)) a_nil))) (nomark _))))) (s_one (s_ret (w_sh d_bl))) s_nil)
      (s_one (s_ret (w_sh (d_and (d_cmp (op_eqA hr.units) od_eq (d_cb cd_len call_len (by rfl) m_len (by decide +kernel) (a_val (d_var 0 (nb hZ (by decide))) a_nil)) (d_cb cd_len call_len (by rfl) m_len (by decide +kernel) (a_val (d_var 1 (nb hZ (by decide))) a_nil)) (nomark _)) (d_one (d_cb cd_all (cr_all (by rfl)) (by rfl) m_all (by decide +kernel) (a_val (d_frz (w_lc rfl sc__law_same.nd (i_zip (by rfl) m_zip (a_val (d_var 0 (nb hZ (by decide))) (a_val (d_var 1 (nb hZ (by decide))) a_nil))) (blkOk_by (own := [("_law_one_here", 2), ("_law_other", 3)]) (N := ["_law_found", "_law_due", "_law_one_here", "_law_other"]) (sc := defScope s__law_same) (by decide +kernel)) rfl (nbs hZ (by decide)) (by decide) (fun _ _ _ _ _ P2 hP2 => (g_tup rfl (g_cons (g_name 2 (nb (nbt hP2 hZ) (by decide)) sc__law_same.nd (by first | exact Or.inl rfl | exact Or.inr rfl)) (g_cons (g_name 3 (nb (nbt hP2 hZ) (by decide)) sc__law_same.nd (by first | exact Or.inl rfl | exact Or.inr rfl)) g_nil)))) (fun _ _ _ _ _ P2 hP2 => ts_nil) (fun _ _ _ _ _ P2 hP2 => (d_frz (w_fn c__law_same hr takes0 (by rfl) (a_val (d_var 2 (nb (nbt hP2 hZ) (by decide))) (a_val (d_var 3 (nb (nbt hP2 hZ) (by decide))) a_nil))))))) a_nil)))))))) s_nil)
      (s_cons (s_if (PW.pt (t_or (t_cmp (op_neA hr.units) od_ne (d_cb cd_isi call_isi (by rfl) m_isinstance (by decide +kernel) (a_val (d_var 1 (nb hZ (by decide))) (a_val (d_bltn (by rfl) m_bool (by decide +kernel)) a_nil))) (d_cb cd_isi call_isi (by rfl) m_isinstance (by decide +kernel) (a_val (d_var 0 (nb hZ (by decide))) (a_val (d_bltn (by rfl) m_bool (by decide +kernel)) a_nil))) (nomark _)) (t_or1 (t_cmp (op_neA hr.units) od_ne (d_cb cd_isi call_isi (by rfl) m_isinstance (by decide +kernel) (a_val (d_var 1 (nb hZ (by decide))) (a_val (d_bltn (by rfl) m_int (by decide +kernel)) a_nil))) (d_cb cd_isi call_isi (by rfl) m_isinstance (by decide +kernel) (a_val (d_var 0 (nb hZ (by decide))) (a_val (d_bltn (by rfl) m_int (by decide +kernel)) a_nil))) (nomark _))))) (s_one (s_ret (w_sh d_bl))) s_nil)
      (s_one (s_ret (w_sh (d_and (d_cmp (op_eqA hr.units) od_eq (d_cb cd_isi call_isi (by rfl) m_isinstance (by decide +kernel) (a_val (d_var 0 (nb hZ (by decide))) (a_val (d_bltn (by rfl) m_str (by decide +kernel)) a_nil))) (d_cb cd_isi call_isi (by rfl) m_isinstance (by decide +kernel) (a_val (d_var 1 (nb hZ (by decide))) (a_val (d_bltn (by rfl) m_str (by decide +kernel)) a_nil))) (nomark _)) (d_one (d_cmp (op_eqA hr.units) od_eq (d_var 0 (nb hZ (by decide))) (d_var 1 (nb hZ (by decide))) (nomark _))))))))))
abbrev s__law_common : Stmt := topS 33
theorem sc__law_common : FnScope ["_law_one_here", "_law_other"] ["_law_one_here", "_law_other"] (defScope s__law_common) := ⟨rfl, rfl, rfl, by decide +kernel, rfl, by decide +kernel, by decide +kernel⟩
theorem ok__law_common {k : Nat} (D : DefAt K mg "_law_common" s__law_common ["_law_one_here", "_law_other"]) (m_abs : mg "abs" = none) :
    FnAt P w K mg base (k + 1) "_law_common" 2 (callF 2 [] (b__law_common)) :=
  fn_at [] D sc__law_common fun f cdv A outer s H E Z hZ hr => by
    have tk : Takes (cxOf (L2.CX P w) P w K mg base ["_law_one_here", "_law_other"] "_law_common" (defScope s__law_common) f cdv A outer s H E) (fun cls d _ H => E cls d H) := takes_of rfl rfl rfl rfl
    exact (s_cons (s_par 0 1 (nb hZ (by decide)) (nb hZ (by decide)) rfl sc__law_common.nd (a_val (d_cb cd_abs call_abs (by rfl) m_abs (by decide +kernel) (a_val (d_var 0 (nb hZ (by decide))) a_nil)) (a_val (d_cb cd_abs call_abs (by rfl) m_abs (by decide +kernel) (a_val (d_var 1 (nb hZ (by decide))) a_nil)) a_nil)))
      (s_cons (s_while (fun ρ => slotN ρ 1 + 1) (passes_of rfl) (t_cmp op_gt od_gt (d_var 1 (nb hZ (by decide))) d_int (nomark _)) (s_one (s_par 0 1 (nb hZ (by decide)) (nb hZ (by decide)) rfl sc__law_common.nd (a_val (d_var 1 (nb hZ (by decide))) (a_val (d_op op_modN od_mod (d_var 0 (nb hZ (by decide))) (d_var 1 (nb hZ (by decide)))) a_nil)))))
      (s_one (s_ret (w_var 0 (nb hZ (by decide)))))))
abbrev s__law_low : Stmt := topS 34
theorem sc__law_low : FnScope ["_law_num", "_law_den", "_law_part_of"] ["_law_num", "_law_den"] (defScope s__law_low) := ⟨rfl, rfl, rfl, by decide +kernel, rfl, by decide +kernel, by decide +kernel⟩
theorem ok__law_low {k : Nat} {g__law_common : FnD} (D : DefAt K mg "_law_low" s__law_low ["_law_num", "_law_den"]) (c__law_common : FnAt P w K mg base k "_law_common" 2 g__law_common) :
    FnAt P w K mg base (k + 1) "_law_low" 2 (callF 3 [] (b__law_low g__law_common)) :=
  fn_at [] D sc__law_low fun f cdv A outer s H E Z hZ hr => by
    have tk : Takes (cxOf (L2.CX P w) P w K mg base ["_law_num", "_law_den", "_law_part_of"] "_law_low" (defScope s__law_low) f cdv A outer s H E) (fun cls d _ H => E cls d H) := takes_of rfl rfl rfl rfl
    exact (s_cons (s_set 2 (nb hZ (by decide)) (w_fn c__law_common hr tk (by rfl) (a_val (d_var 0 (nb hZ (by decide))) (a_val (d_var 1 (nb hZ (by decide))) a_nil))) sc__law_low.nd (by first | exact Or.inl rfl | exact Or.inr rfl))
      (s_one (s_ret (w_sh (d_tup (a_val (d_op op_fdivZ od_fdiv (d_var 0 (nb hZ (by decide))) (d_var 2 (nb hZ (by decide)))) (a_val (d_op op_fdivZ od_fdiv (d_var 1 (nb hZ (by decide))) (d_var 2 (nb hZ (by decide)))) a_nil)))))))
abbrev s__law_figures : Stmt := topS 35
theorem sc__law_figures : FnScope ["_law_one_here"] ["_law_one_here"] (defScope s__law_figures) := ⟨rfl, rfl, rfl, by decide +kernel, rfl, by decide +kernel, by decide +kernel⟩
theorem ok__law_figures {k : Nat} (D : DefAt K mg "_law_figures" s__law_figures ["_law_one_here"]) (m_str : mg "str" = none) :
    FnAt P w K mg base (k + 1) "_law_figures" 1 (callF 1 [] (b__law_figures)) :=
  fn_at [] D sc__law_figures fun f cdv A outer s H E Z hZ hr => by
    have tk : Takes (cxOf (L2.CX P w) P w K mg base ["_law_one_here"] "_law_figures" (defScope s__law_figures) f cdv A outer s H E) (fun cls d _ H => E cls d H) := takes_of rfl rfl rfl rfl
    exact (s_one (s_ret (w_ite (t_cmp (op_eqA hr.units) od_eq (d_sub (d_var 0 (nb hZ (by decide))) d_int) d_int (nomark _)) (w_sh (d_cty cd_strA call_strA (by rfl) m_str (by decide +kernel) (a_val (d_sub (d_var 0 (nb hZ (by decide))) d_int) a_nil))) (w_sh (d_op op_addA od_add (d_op op_addA od_add (d_cty cd_strA call_strA (by rfl) m_str (by decide +kernel) (a_val (d_sub (d_var 0 (nb hZ (by decide))) d_int) a_nil)) d_str) (d_cty cd_strA call_strA (by rfl) m_str (by decide +kernel) (a_val (d_sub (d_var 0 (nb hZ (by decide))) d_int) a_nil)))))))
abbrev s__law_why : Stmt := topS 36
theorem sc__law_why : FnScope ["_law_ask", "e"] ["_law_ask"] (defScope s__law_why) := ⟨rfl, rfl, rfl, by decide +kernel, rfl, by decide +kernel, by decide +kernel⟩
theorem why_S : WhyS s__law_why "_law_ask" "e" ["_law_ask", "e"] 1 (csAll s__law_why) := ⟨⟨_, _, _, _, _, _, _, _, _, _, rfl, rfl⟩, sc__law_why, by decide +kernel, rfl, rfl, by first | exact Or.inl rfl | exact Or.inr (Or.inl rfl) | exact Or.inr (Or.inr rfl), by first | exact Or.inl rfl | exact Or.inr (Or.inl rfl) | exact Or.inr (Or.inr rfl), rfl, ts_all (by decide +kernel), by decide, by decide⟩
theorem why_cn : ((csAll s__law_why).map fun c => (c.ns, c.fl.map (·.1))) = why_cl := rfl
abbrev s__law_amount_in : Stmt := topS 37
theorem sc__law_amount_in : FnScope ["_law_text", "_law_most", "_law_before", "_law_line", "_law_behind", "_law_my_figures", "_law_word", "_law_found", "_law_sign"] ["_law_text", "_law_most"] (defScope s__law_amount_in) := ⟨rfl, rfl, rfl, by decide +kernel, rfl, by decide +kernel, by decide +kernel⟩
theorem ok__law_amount_in {k : Nat} {g__law_low : FnD} (D : DefAt K mg "_law_amount_in" s__law_amount_in ["_law_text", "_law_most"]) (m_len : mg "len" = none) (m_all : mg "all" = none) (m_int : mg "int" = none) (c__law_low : FnAt P w K mg base k "_law_low" 2 g__law_low) :
    FnAt P w K mg base (k + 1) "_law_amount_in" 2 (callF 9 [] (b__law_amount_in g__law_low)) :=
  fn_at [] D sc__law_amount_in fun f cdv A outer s H E Z hZ hr => by
    have tk : Takes (cxOf (L2.CX P w) P w K mg base ["_law_text", "_law_most", "_law_before", "_law_line", "_law_behind", "_law_my_figures", "_law_word", "_law_found", "_law_sign"] "_law_amount_in" (defScope s__law_amount_in) f cdv A outer s H E) (fun cls d _ H => E cls d H) := takes_of rfl rfl rfl rfl
    exact (s_cons (s_asgT (g_tup rfl (g_cons (g_name 2 (nb hZ (by decide)) sc__law_amount_in.nd (by first | exact Or.inl rfl | exact Or.inr rfl)) (g_cons (g_name 3 (nb hZ (by decide)) sc__law_amount_in.nd (by first | exact Or.inl rfl | exact Or.inr rfl)) (g_cons (g_name 4 (nb hZ (by decide)) sc__law_amount_in.nd (by first | exact Or.inl rfl | exact Or.inr rfl)) g_nil)))) (d_ms PySem.F.slot_str_partition PySem.F.type_str_partition mt_partition ms_part (d_var 0 (nb hZ (by decide))) d_str))
      (s_cons (s_set 5 (nb hZ (by decide)) (w_ite (t_cmp (op_eqA hr.units) od_eq (d_sl01 (d_var 2 (nb hZ (by decide))) d_int) d_str (nomark _)) (w_sh (d_sl10 (d_var 2 (nb hZ (by decide))) d_int)) (w_var 2 (nb hZ (by decide)))) sc__law_amount_in.nd (by first | exact Or.inl rfl | exact Or.inr rfl))
      (s_cons (s_for (passes_of rfl) rfl (i_seq (d_frz (w_lst (a_val (d_var 5 (nb hZ (by decide))) (a_val (d_ite (t_cmp (op_neA hr.units) od_ne (d_var 3 (nb hZ (by decide))) d_str (nomark _)) (d_var 4 (nb hZ (by decide))) d_str) a_nil))))) (g_name 6 (nb hZ (by decide)) sc__law_amount_in.nd (by first | exact Or.inl rfl | exact Or.inr rfl)) (s_cons (s_if (PW.pt (t_or (t_not (t_chain op_le od_le op_le od_le d_int (d_cb cd_len call_len (by rfl) m_len (by decide +kernel) (a_val (d_var 6 (nb hZ (by decide))) a_nil)) (d_var 1 (nb hZ (by decide))))) (t_or1 (t_not (t_val (d_cb cd_all (cr_all (by rfl)) (by rfl) m_all (by decide +kernel) (a_val (d_frz (w_lc rfl sc__law_amount_in.nd (i_seq (d_var 6 (nb hZ (by decide)))) (blkOk_by (own := [("_law_sign", 8)]) (N := ["_law_text", "_law_most", "_law_before", "_law_line", "_law_behind", "_law_my_figures", "_law_word", "_law_found", "_law_sign"]) (sc := defScope s__law_amount_in) (by decide +kernel)) rfl (nbs hZ (by decide)) (by decide) (fun _ _ _ _ _ P2 hP2 => (g_name 8 (nb (nbt hP2 hZ) (by decide)) sc__law_amount_in.nd (by first | exact Or.inl rfl | exact Or.inr rfl))) (fun _ _ _ _ _ P2 hP2 => ts_nil) (fun _ _ _ _ _ P2 hP2 => (d_cmp op_inA od_in (d_var 8 (nb (nbt hP2 hZ) (by decide))) d_str (by rfl))))) a_nil))))))) (s_one (s_ret (w_sh d_non))) s_nil)
      (s_one (s_if (PW.pt (t_and (t_cmp (op_eqA hr.units) od_eq (d_sub (d_var 6 (nb hZ (by decide))) d_int) d_str (nomark _)) (t_and1 (t_cmp (op_neA hr.units) od_ne (d_var 6 (nb hZ (by decide))) d_str (nomark _))))) (s_one (s_ret (w_sh d_non))) s_nil))))
      (s_cons (s_if (PW.pt (t_or (t_cmp (op_eqA hr.units) od_eq (d_var 2 (nb hZ (by decide))) d_str (nomark _)) (t_or1 (PW.pt (t_and (t_cmp (op_neA hr.units) od_ne (d_var 3 (nb hZ (by decide))) d_str (nomark _)) (t_and1 (t_cmp op_lt od_lt (d_cty cd_int call_intA (by rfl) m_int (by decide +kernel) (a_val (d_var 4 (nb hZ (by decide))) a_nil)) d_int (nomark _)))))))) (s_one (s_ret (w_sh d_non))) s_nil)
      (s_cons (s_set 7 (nb hZ (by decide)) (w_fn c__law_low hr tk (by rfl) (a_val (d_cty cd_int call_intA (by rfl) m_int (by decide +kernel) (a_val (d_var 2 (nb hZ (by decide))) a_nil)) (a_val (d_ite (t_cmp (op_neA hr.units) od_ne (d_var 3 (nb hZ (by decide))) d_str (nomark _)) (d_cty cd_int call_intA (by rfl) m_int (by decide +kernel) (a_val (d_var 4 (nb hZ (by decide))) a_nil)) d_int) a_nil))) sc__law_amount_in.nd (by first | exact Or.inl rfl | exact Or.inr rfl))
      (s_one (s_ret (w_ite (PW.pt (t_or (t_cmp (op_eqA hr.units) od_eq (d_var 3 (nb hZ (by decide))) d_str (nomark _)) (t_or1 (t_cmp (op_eqA hr.units) od_eq (d_var 7 (nb hZ (by decide))) (d_tup (a_val (d_cty cd_int call_intA (by rfl) m_int (by decide +kernel) (a_val (d_var 2 (nb hZ (by decide))) a_nil)) (a_val (d_cty cd_int call_intA (by rfl) m_int (by decide +kernel) (a_val (d_var 4 (nb hZ (by decide))) a_nil)) a_nil))) (nomark _))))) (w_var 7 (nb hZ (by decide))) (w_sh d_non)))))))))
abbrev s__law_amount_spoilt : Stmt := topS 38
theorem sc__law_amount_spoilt : FnScope ["_law_box_here", "_law_text", "_law_at", "_law_sign", "_law_kind"] ["_law_box_here", "_law_text"] (defScope s__law_amount_spoilt) := ⟨rfl, rfl, rfl, by decide +kernel, rfl, by decide +kernel, by decide +kernel⟩
theorem ok__law_amount_spoilt {k : Nat} {g__law_take g__law_one : FnD} (D : DefAt K mg "_law_amount_spoilt" s__law_amount_spoilt ["_law_box_here", "_law_text"]) (m_len : mg "len" = none) (c__law_take : FnAt P w K mg base k "_law_take" 2 g__law_take) (c__law_one : FnAt P w K mg base k "_law_one" 2 g__law_one) :
    FnAt P w K mg base (k + 1) "_law_amount_spoilt" 2 (callF 5 [0] (b__law_amount_spoilt g__law_take g__law_one)) :=
  fn_at [0] D sc__law_amount_spoilt fun f cdv A outer s H E Z hZ hr => by
    have tk : Takes (cxOf (L2.CX P w) P w K mg base ["_law_box_here", "_law_text", "_law_at", "_law_sign", "_law_kind"] "_law_amount_spoilt" (defScope s__law_amount_spoilt) f cdv A outer s H E) (fun cls d _ H => E cls d H) := takes_of rfl rfl rfl rfl
    exact (s_cons (s_set 2 (nb hZ (by decide)) (w_fn c__law_take hr tk (by rfl) (a_slot 0 (a_val (d_op op_addA od_add (d_cb cd_len call_len (by rfl) m_len (by decide +kernel) (a_val (d_var 1 (nb hZ (by decide))) a_nil)) d_int) a_nil))) sc__law_amount_spoilt.nd (by first | exact Or.inl rfl | exact Or.inr rfl))
      (s_cons (s_set 3 (nb hZ (by decide)) (w_sh (d_sub d_str (d_frz (w_fn c__law_take hr tk (by rfl) (a_slot 0 (a_val d_int a_nil)))))) sc__law_amount_spoilt.nd (by first | exact Or.inl rfl | exact Or.inr rfl))
      (s_cons (s_set 4 (nb hZ (by decide)) (w_fn c__law_take hr tk (by rfl) (a_slot 0 (a_val d_int a_nil))) sc__law_amount_spoilt.nd (by first | exact Or.inl rfl | exact Or.inr rfl))
      (s_cons (s_if (t_cmp (op_eqA hr.units) od_eq (d_var 4 (nb hZ (by decide))) d_int (nomark _)) (s_one (s_ret (w_fn c__law_one hr tk (by rfl) (a_slot 0 (a_val (d_frz (w_lst (a_val d_str (a_val d_str (a_val d_str (a_val d_str (a_val d_str (a_val d_str (a_val d_str (a_val d_str (a_val d_str (a_val d_str (a_val d_str a_nil))))))))))))) a_nil))))) s_nil)
      (s_one (s_ret (w_sh (d_op op_addA od_add (d_op op_addA od_add (d_sl01 (d_var 1 (nb hZ (by decide))) (d_var 2 (nb hZ (by decide)))) (d_sub (d_frz (w_lst (a_val (d_var 3 (nb hZ (by decide))) (a_val (d_var 3 (nb hZ (by decide))) (a_val d_str a_nil))))) (d_var 4 (nb hZ (by decide))))) (d_sl10 (d_var 1 (nb hZ (by decide))) (d_op op_addA od_add (d_var 2 (nb hZ (by decide))) (d_sub (d_frz (w_lst (a_val d_int (a_val d_int (a_val d_int a_nil))))) (d_var 4 (nb hZ (by decide))))))))))))))
abbrev s_law : Stmt := topS 39
theorem sc_law : FnScope ["_law_script", "_law_box_here", "_law_k", "_law_one_here", "_law_text", "_law_most", "_law_due", "_law_told"] ["_law_script"] (defScope s_law) := ⟨rfl, rfl, rfl, by decide +kernel, rfl, by decide +kernel, by decide +kernel⟩
theorem ok_law {k : Nat} {f c Pa : Addr} {oc : Value} {od an : Option Addr} {osl : Array (Option Value)} {dV kV doc pm ct : Value} {g__law_box g__law_low g__law_take g__law_near g__law_figures g__law_same g_read_amount g_amount_text g__law_amount_spoilt g__law_amount_in : FnD} (lk : K.lookup f = some ⟨oc, od, .func (PySem.W.fnOf "law" "law" (defArgs s_law) (defBody s_law) (defScope s_law) dV kV doc pm an (.ref c) ct), osl⟩) (hcd : PySem.W.codeIn K (.ref c) "law" = true) (TB : LamX.TabB base mg c Pa) (y_why : WhyAt K mg "_law_why" why_tab why_cl) (m_range : mg "range" = none) (c__law_box : FnAt P w K mg base k "_law_box" 1 g__law_box) (c__law_low : FnAt P w K mg base k "_law_low" 2 g__law_low) (c__law_take : FnAt P w K mg base k "_law_take" 2 g__law_take) (c__law_near : FnAt P w K mg base k "_law_near" 2 g__law_near) (c__law_figures : FnAt P w K mg base k "_law_figures" 1 g__law_figures) (c__law_same : FnAt P w K mg base k "_law_same" 2 g__law_same) (k_read_amount_1 : CallAt P w K mg base k "read_amount" 1 [] [.inl 0, .inr 0] [(.int 12)] 2 g_read_amount) (k_read_amount_1_figures : CallAt P w K mg base k "read_amount" 1 ["figures"] [.inl 0, .inl 1] [] 2 g_read_amount) (c_amount_text : FnAt P w K mg base k "amount_text" 1 g_amount_text) (c__law_amount_spoilt : FnAt P w K mg base k "_law_amount_spoilt" 2 g__law_amount_spoilt) (c__law_amount_in : FnAt P w K mg base k "_law_amount_in" 2 g__law_amount_in) :
    FnOk P w K mg base (L2.CX P w) (k + 3) f (PySem.W.fnOf "law" "law" (defArgs s_law) (defBody s_law) (defScope s_law) dV kV doc pm an (.ref c) ct) ["_law_script"] (spT K Pa "law.<locals>.<lambda>" (callF 8 [] (b_law g__law_box g__law_low g__law_take g__law_near g__law_figures g__law_same g_read_amount g_amount_text g__law_amount_spoilt g__law_amount_in))) :=
  fn_okT lk hcd sc_law rfl fun A outer s H E Z hZ hT h0 hr2 => by
    have hr := hr2.mono (show k ≤ k + 2 by omega)
    have tk : Takes (cxOf (L2.CX P w) P w K mg base ["_law_script", "_law_box_here", "_law_k", "_law_one_here", "_law_text", "_law_most", "_law_due", "_law_told"] "law" (defScope s_law) f (.ref c) A outer s H E) (fun cls d _ H => E cls d H) := takes_of rfl rfl rfl rfl
    have TX : TabX (cxOf (L2.CX P w) P w K mg base ["_law_script", "_law_box_here", "_law_k", "_law_one_here", "_law_text", "_law_most", "_law_due", "_law_told"] "law" (defScope s_law) f (.ref c) A outer s H E) Z := ⟨c, Pa, TB, rfl, hT, h0⟩
    exact (s_cons (s_set 1 (nb hZ (by decide)) (w_fn c__law_box hr tk (by rfl) (a_val (d_var 0 (nb hZ (by decide))) a_nil)) sc_law.nd (by first | exact Or.inl rfl | exact Or.inr rfl))
      (s_cons (s_for (passes_of rfl) rfl (i_range1 (by rfl) m_range (a_val d_int a_nil)) (g_name 2 (nb hZ (by decide)) sc_law.nd (by first | exact Or.inl rfl | exact Or.inr rfl)) (s_cons (s_set 3 (nb hZ (by decide)) (w_fn c__law_low hr tk (by rfl) (a_val (d_frz (w_fn c__law_near hr tk (by rfl) (a_slot 1 (a_val (d_sub (d_frz (w_lst (a_val d_int (a_val (d_op op_sub od_sub (d_op op_pow od_pow d_int d_int) d_int) a_nil)))) (d_frz (w_fn c__law_take hr tk (by rfl) (a_slot 1 (a_val d_int a_nil))))) a_nil)))) (a_val (d_op op_addA od_add d_int (d_frz (w_fn c__law_take hr tk (by rfl) (a_slot 1 (a_val (d_sub (d_frz (w_lst (a_val d_int (a_val (d_op op_sub od_sub (d_op op_pow od_pow d_int d_int) d_int) a_nil)))) (d_frz (w_fn c__law_take hr tk (by rfl) (a_slot 1 (a_val d_int a_nil))))) a_nil))))) a_nil))) sc_law.nd (by first | exact Or.inl rfl | exact Or.inr rfl))
      (s_cons (s_set 4 (nb hZ (by decide)) (w_fn c__law_figures hr tk (by rfl) (a_val (d_var 3 (nb hZ (by decide))) a_nil)) sc_law.nd (by first | exact Or.inl rfl | exact Or.inr rfl))
      (s_cons (s_if (t_not (t_val (d_frz (w_fn c__law_same hr tk (by rfl) (a_val (d_frz (w_lst (a_val (d_frz (w_fn c_amount_text hr tk (by rfl) (a_val (d_var 3 (nb hZ (by decide))) a_nil))) (a_val (d_frz (w_kw1 k_read_amount_1 hr tk (by rfl) (a_val (d_var 4 (nb hZ (by decide))) a_nil))) a_nil)))) (a_val (d_frz (w_lst (a_val (d_var 4 (nb hZ (by decide))) (a_val (d_var 3 (nb hZ (by decide))) a_nil)))) a_nil)))))) (s_one (s_ret (w_sh d_bl))) s_nil)
      (s_cons (s_set 4 (nb hZ (by decide)) (w_fn c__law_amount_spoilt hr tk (by rfl) (a_slot 1 (a_val (d_var 4 (nb hZ (by decide))) a_nil))) sc_law.nd (by first | exact Or.inl rfl | exact Or.inr rfl))
      (s_cons (s_set 5 (nb hZ (by decide)) (w_sh (d_sub (d_frz (w_lst (a_val d_int (a_val d_int (a_val d_int (a_val d_int a_nil)))))) (d_frz (w_fn c__law_take hr tk (by rfl) (a_slot 1 (a_val d_int a_nil)))))) sc_law.nd (by first | exact Or.inl rfl | exact Or.inr rfl))
      (s_cons (s_set 6 (nb hZ (by decide)) (w_fn c__law_amount_in hr tk (by rfl) (a_val (d_var 4 (nb hZ (by decide))) (a_val (d_var 5 (nb hZ (by decide))) a_nil))) sc_law.nd (by first | exact Or.inl rfl | exact Or.inr rfl))
      (s_cons (s_set 7 (nb hZ (by decide)) (w_sh (d_whyA y_why TX hr2 (by rfl) (LamX.lamS_by (sc := defScope s_law) (by decide +kernel)) fun A2 outer2 s2 H2 E2 f2 d2 hr => by
        have tk2 : ∀ sc, Takes (LamX.lamCx (cxOf (L2.CX P w) P w K mg base ["_law_script", "_law_box_here", "_law_k", "_law_one_here", "_law_text", "_law_most", "_law_due", "_law_told"] "law" (defScope s_law) f (.ref c) A outer s H E) A2 outer2 s2 H2 E2 sc f2 d2) (fun cls d _ H => E2 cls d H) := fun _ => takes_of rfl rfl rfl rfl
        exact (d_frz (w_kw k_read_amount_1_figures hr (tk2 _) (by rfl) (a_val (d_var 4 (nb hZ (by decide))) a_nil) (k_val (d_var 5 (nb hZ (by decide))) k_nil))))) sc_law.nd (by first | exact Or.inl rfl | exact Or.inr rfl))
      (s_cons (s_if (t_not (t_val (d_frz (w_fn c__law_same hr tk (by rfl) (a_val (d_var 7 (nb hZ (by decide))) (a_val (d_ite (t_cmp op_isN od_is (d_var 6 (nb hZ (by decide))) d_non (nomark _)) (d_tup (a_val d_str a_nil)) (d_tup (a_val d_str (a_val (d_var 6 (nb hZ (by decide))) a_nil)))) a_nil)))))) (s_one (s_ret (w_sh d_bl))) s_nil)
      (s_one (s_if (PW.pt (t_and (t_cmp (op_eqA hr.units) od_eq (d_var 5 (nb hZ (by decide))) d_int (nomark _)) (t_and1 (t_not (t_val (d_frz (w_fn c__law_same hr tk (by rfl) (a_val (d_whyA y_why TX hr2 (by rfl) (LamX.lamS_by (sc := defScope s_law) (by decide +kernel)) fun A2 outer2 s2 H2 E2 f2 d2 hr => by
        have tk2 : ∀ sc, Takes (LamX.lamCx (cxOf (L2.CX P w) P w K mg base ["_law_script", "_law_box_here", "_law_k", "_law_one_here", "_law_text", "_law_most", "_law_due", "_law_told"] "law" (defScope s_law) f (.ref c) A outer s H E) A2 outer2 s2 H2 E2 sc f2 d2) (fun cls d _ H => E2 cls d H) := fun _ => takes_of rfl rfl rfl rfl
        exact (d_frz (w_kw1 k_read_amount_1 hr (tk2 _) (by rfl) (a_val (d_var 4 (nb hZ (by decide))) a_nil)))) (a_val (d_var 7 (nb hZ (by decide))) a_nil))))))))) (s_one (s_ret (w_sh d_bl))) s_nil)))))))))))
      (s_one (s_ret (w_sh d_bl)))))
end
end Lw
namespace Lw
open PySem PySem.Spec PyProof.Rows L2 RZ DL
section
variable {P : Program} {w : World} {K : PySem.W.Frag} {mg : Str → Option Value} {base : Heap}
theorem at__law_same (D : DefAt K mg "_law_same" s__law_same ["_law_found", "_law_due"]) (m_list : mg "list" = none) (m_isinstance : mg "isinstance" = none) (m_tuple : mg "tuple" = none) (m_len : mg "len" = none) (m_zip : mg "zip" = none) (m_all : mg "all" = none) (m_bool : mg "bool" = none) (m_int : mg "int" = none) (m_str : mg "str" = none) : ∀ n, FnAt P w K mg base (n + 0) "_law_same" 2 (fr__law_same n)
  | 0 => (FnAt.none D).mono (by omega)
  | n + 1 => (ok__law_same D m_list m_isinstance m_tuple m_len m_zip m_all m_bool m_int m_str (at__law_same D m_list m_isinstance m_tuple m_len m_zip m_all m_bool m_int m_str n)).mono (by omega)
end
theorem all_mk {l : PySem.W.OpenLaw} {w : World} {K : PySem.W.Frag} {h : Heap} {mg : Str → Option Value} {fa : Addr} (X : K.In h) (G : h.Ns mainGlobals mg) (hfa : mg "law" = some (.ref fa)) (own : LamX.OwnTab K fa h)
    {f0 : Addr} {od0 an0 : Option Addr} {sl0 : Array (Option Value)} {oc0 kV0 dc0 pm0 cd0 ct0 : Value}
    (a0 : PySem.W.nsIn K mainGlobals "common" = some (some (.ref f0))) (l0 : K.lookup f0 = some ⟨oc0, od0, .func (PySem.W.fnOf "common" "common" (defArgs s_common) (defBody s_common) (defScope s_common) .none kV0 dc0 pm0 an0 cd0 ct0), sl0⟩) (c0 : PySem.W.codeIn K cd0 "common" = true) (k0 : PySem.W.keepIn K (.ref f0) = true)
    {f1 : Addr} {od1 an1 : Option Addr} {sl1 : Array (Option Value)} {oc1 kV1 dc1 pm1 cd1 ct1 : Value}
    (a1 : PySem.W.nsIn K mainGlobals "lowest" = some (some (.ref f1))) (l1 : K.lookup f1 = some ⟨oc1, od1, .func (PySem.W.fnOf "lowest" "lowest" (defArgs s_lowest) (defBody s_lowest) (defScope s_lowest) .none kV1 dc1 pm1 an1 cd1 ct1), sl1⟩) (c1 : PySem.W.codeIn K cd1 "lowest" = true) (k1 : PySem.W.keepIn K (.ref f1) = true)
    {f2 : Addr} {od2 an2 : Option Addr} {sl2 : Array (Option Value)} {oc2 kV2 dc2 pm2 cd2 ct2 : Value}
    (a2 : PySem.W.nsIn K mainGlobals "whole_in" = some (some (.ref f2))) (l2 : K.lookup f2 = some ⟨oc2, od2, .func (PySem.W.fnOf "whole_in" "whole_in" (defArgs s_whole_in) (defBody s_whole_in) (defScope s_whole_in) .none kV2 dc2 pm2 an2 cd2 ct2), sl2⟩) (c2 : PySem.W.codeIn K cd2 "whole_in" = true) (k2 : PySem.W.keepIn K (.ref f2) = true)
    {f3 : Addr} {od3 an3 : Option Addr} {sl3 : Array (Option Value)} {oc3 kV3 dc3 pm3 cd3 ct3 : Value}
    (a3 : PySem.W.nsIn K mainGlobals "amount_text" = some (some (.ref f3))) (l3 : K.lookup f3 = some ⟨oc3, od3, .func (PySem.W.fnOf "amount_text" "amount_text" (defArgs s_amount_text) (defBody s_amount_text) (defScope s_amount_text) .none kV3 dc3 pm3 an3 cd3 ct3), sl3⟩) (c3 : PySem.W.codeIn K cd3 "amount_text" = true) (k3 : PySem.W.keepIn K (.ref f3) = true)
    {kd4 : Addr}
    {f4 : Addr} {od4 an4 : Option Addr} {sl4 : Array (Option Value)} {oc4 dc4 pm4 cd4 ct4 : Value}
    (a4 : PySem.W.nsIn K mainGlobals "read_amount" = some (some (.ref f4))) (l4 : K.lookup f4 = some ⟨oc4, od4, .func (PySem.W.fnOf "read_amount" "read_amount" (defArgs s_read_amount) (defBody s_read_amount) (defScope s_read_amount) .none (.ref kd4) dc4 pm4 an4 cd4 ct4), sl4⟩) (c4 : PySem.W.codeIn K cd4 "read_amount" = true) (k4 : PySem.W.keepIn K (.ref f4) = true)
    {ku_4_figures : Value} (ka_4_figures : PySem.W.nsIn K kd4 "figures" = some (some ku_4_figures)) (ke_4_figures : scalD ku_4_figures = some (.int 12))
    {f5 : Addr} {od5 an5 : Option Addr} {sl5 : Array (Option Value)} {oc5 kV5 dc5 pm5 cd5 ct5 : Value}
    (a5 : PySem.W.nsIn K mainGlobals "_law_box" = some (some (.ref f5))) (l5 : K.lookup f5 = some ⟨oc5, od5, .func (PySem.W.fnOf "_law_box" "_law_box" (defArgs s__law_box) (defBody s__law_box) (defScope s__law_box) .none kV5 dc5 pm5 an5 cd5 ct5), sl5⟩) (c5 : PySem.W.codeIn K cd5 "_law_box" = true) (k5 : PySem.W.keepIn K (.ref f5) = true)
    {f6 : Addr} {od6 an6 : Option Addr} {sl6 : Array (Option Value)} {oc6 kV6 dc6 pm6 cd6 ct6 : Value}
    (a6 : PySem.W.nsIn K mainGlobals "_law_take" = some (some (.ref f6))) (l6 : K.lookup f6 = some ⟨oc6, od6, .func (PySem.W.fnOf "_law_take" "_law_take" (defArgs s__law_take) (defBody s__law_take) (defScope s__law_take) .none kV6 dc6 pm6 an6 cd6 ct6), sl6⟩) (c6 : PySem.W.codeIn K cd6 "_law_take" = true) (k6 : PySem.W.keepIn K (.ref f6) = true)
    {f7 : Addr} {od7 an7 : Option Addr} {sl7 : Array (Option Value)} {oc7 kV7 dc7 pm7 cd7 ct7 : Value}
    (a7 : PySem.W.nsIn K mainGlobals "_law_one" = some (some (.ref f7))) (l7 : K.lookup f7 = some ⟨oc7, od7, .func (PySem.W.fnOf "_law_one" "_law_one" (defArgs s__law_one) (defBody s__law_one) (defScope s__law_one) .none kV7 dc7 pm7 an7 cd7 ct7), sl7⟩) (c7 : PySem.W.codeIn K cd7 "_law_one" = true) (k7 : PySem.W.keepIn K (.ref f7) = true)
    {f8 : Addr} {od8 an8 : Option Addr} {sl8 : Array (Option Value)} {oc8 kV8 dc8 pm8 cd8 ct8 : Value}
    (a8 : PySem.W.nsIn K mainGlobals "_law_near" = some (some (.ref f8))) (l8 : K.lookup f8 = some ⟨oc8, od8, .func (PySem.W.fnOf "_law_near" "_law_near" (defArgs s__law_near) (defBody s__law_near) (defScope s__law_near) .none kV8 dc8 pm8 an8 cd8 ct8), sl8⟩) (c8 : PySem.W.codeIn K cd8 "_law_near" = true) (k8 : PySem.W.keepIn K (.ref f8) = true)
    {f9 : Addr} {od9 an9 : Option Addr} {sl9 : Array (Option Value)} {oc9 kV9 dc9 pm9 cd9 ct9 : Value}
    (a9 : PySem.W.nsIn K mainGlobals "_law_same" = some (some (.ref f9))) (l9 : K.lookup f9 = some ⟨oc9, od9, .func (PySem.W.fnOf "_law_same" "_law_same" (defArgs s__law_same) (defBody s__law_same) (defScope s__law_same) .none kV9 dc9 pm9 an9 cd9 ct9), sl9⟩) (c9 : PySem.W.codeIn K cd9 "_law_same" = true) (k9 : PySem.W.keepIn K (.ref f9) = true)
    {f10 : Addr} {od10 an10 : Option Addr} {sl10 : Array (Option Value)} {oc10 kV10 dc10 pm10 cd10 ct10 : Value}
    (a10 : PySem.W.nsIn K mainGlobals "_law_common" = some (some (.ref f10))) (l10 : K.lookup f10 = some ⟨oc10, od10, .func (PySem.W.fnOf "_law_common" "_law_common" (defArgs s__law_common) (defBody s__law_common) (defScope s__law_common) .none kV10 dc10 pm10 an10 cd10 ct10), sl10⟩) (c10 : PySem.W.codeIn K cd10 "_law_common" = true) (k10 : PySem.W.keepIn K (.ref f10) = true)
    {f11 : Addr} {od11 an11 : Option Addr} {sl11 : Array (Option Value)} {oc11 kV11 dc11 pm11 cd11 ct11 : Value}
    (a11 : PySem.W.nsIn K mainGlobals "_law_low" = some (some (.ref f11))) (l11 : K.lookup f11 = some ⟨oc11, od11, .func (PySem.W.fnOf "_law_low" "_law_low" (defArgs s__law_low) (defBody s__law_low) (defScope s__law_low) .none kV11 dc11 pm11 an11 cd11 ct11), sl11⟩) (c11 : PySem.W.codeIn K cd11 "_law_low" = true) (k11 : PySem.W.keepIn K (.ref f11) = true)
    {f12 : Addr} {od12 an12 : Option Addr} {sl12 : Array (Option Value)} {oc12 kV12 dc12 pm12 cd12 ct12 : Value}
    (a12 : PySem.W.nsIn K mainGlobals "_law_figures" = some (some (.ref f12))) (l12 : K.lookup f12 = some ⟨oc12, od12, .func (PySem.W.fnOf "_law_figures" "_law_figures" (defArgs s__law_figures) (defBody s__law_figures) (defScope s__law_figures) .none kV12 dc12 pm12 an12 cd12 ct12), sl12⟩) (c12 : PySem.W.codeIn K cd12 "_law_figures" = true) (k12 : PySem.W.keepIn K (.ref f12) = true)
    {f13 : Addr} {od13 an13 : Option Addr} {sl13 : Array (Option Value)} {oc13 kV13 dc13 pm13 cd13 ct13 : Value}
    (a13 : PySem.W.nsIn K mainGlobals "_law_why" = some (some (.ref f13))) (l13 : K.lookup f13 = some ⟨oc13, od13, .func (PySem.W.fnOf "_law_why" "_law_why" (defArgs s__law_why) (defBody s__law_why) (defScope s__law_why) .none kV13 dc13 pm13 an13 cd13 ct13), sl13⟩) (c13 : PySem.W.codeIn K cd13 "_law_why" = true) (k13 : PySem.W.keepIn K (.ref f13) = true)
    {f14 : Addr} {od14 an14 : Option Addr} {sl14 : Array (Option Value)} {oc14 kV14 dc14 pm14 cd14 ct14 : Value}
    (a14 : PySem.W.nsIn K mainGlobals "_law_amount_in" = some (some (.ref f14))) (l14 : K.lookup f14 = some ⟨oc14, od14, .func (PySem.W.fnOf "_law_amount_in" "_law_amount_in" (defArgs s__law_amount_in) (defBody s__law_amount_in) (defScope s__law_amount_in) .none kV14 dc14 pm14 an14 cd14 ct14), sl14⟩) (c14 : PySem.W.codeIn K cd14 "_law_amount_in" = true) (k14 : PySem.W.keepIn K (.ref f14) = true)
    {f15 : Addr} {od15 an15 : Option Addr} {sl15 : Array (Option Value)} {oc15 kV15 dc15 pm15 cd15 ct15 : Value}
    (a15 : PySem.W.nsIn K mainGlobals "_law_amount_spoilt" = some (some (.ref f15))) (l15 : K.lookup f15 = some ⟨oc15, od15, .func (PySem.W.fnOf "_law_amount_spoilt" "_law_amount_spoilt" (defArgs s__law_amount_spoilt) (defBody s__law_amount_spoilt) (defScope s__law_amount_spoilt) .none kV15 dc15 pm15 an15 cd15 ct15), sl15⟩) (c15 : PySem.W.codeIn K cd15 "_law_amount_spoilt" = true) (k15 : PySem.W.keepIn K (.ref f15) = true)
    {f16 : Addr} {od16 an16 : Option Addr} {sl16 : Array (Option Value)} {oc16 kV16 dc16 pm16 cd16 ct16 : Value}
    (a16 : PySem.W.nsIn K mainGlobals "law" = some (some (.ref f16))) (l16 : K.lookup f16 = some ⟨oc16, od16, .func (PySem.W.fnOf "law" "law" (defArgs s_law) (defBody s_law) (defScope s_law) .none kV16 dc16 pm16 an16 cd16 ct16), sl16⟩) (c16 : PySem.W.codeIn K cd16 "law" = true) (k16 : PySem.W.keepIn K (.ref f16) = true) (z_abs : PySem.W.nsIn K mainGlobals "abs" = some none) (z_len : PySem.W.nsIn K mainGlobals "len" = some none) (z_all : PySem.W.nsIn K mainGlobals "all" = some none) (z_int : PySem.W.nsIn K mainGlobals "int" = some none) (z_str : PySem.W.nsIn K mainGlobals "str" = some none) (z_list : PySem.W.nsIn K mainGlobals "list" = some none) (z_isinstance : PySem.W.nsIn K mainGlobals "isinstance" = some none) (z_tuple : PySem.W.nsIn K mainGlobals "tuple" = some none) (z_zip : PySem.W.nsIn K mainGlobals "zip" = some none) (z_bool : PySem.W.nsIn K mainGlobals "bool" = some none) (z_range : PySem.W.nsIn K mainGlobals "range" = some none)
    {qu_FIGURES : Value} (qa_FIGURES : PySem.W.nsIn K mainGlobals "FIGURES" = some (some qu_FIGURES)) (qe_FIGURES : scalD qu_FIGURES = some (.str "0123456789"))
    {xc_BadText xi_BadText : Addr} {xd_BadText xn_BadText : Option Addr} {xz_BadText : Array (Option Value)} {xo_BadText xv_BadText xq_BadText xp_BadText xy_BadText xt_BadText : Value} (xa_BadText : PySem.W.nsIn K mainGlobals "BadText" = some (some (.ref xc_BadText))) (xO_BadText : OexC K xc_BadText) (xI_BadText : PySem.W.findIn K (.ref xc_BadText) "__init__" = some (some (.ref xi_BadText))) (xT_BadText : PySem.W.typeIn K (.ref xi_BadText) = some (.type "function")) (xl_BadText : K.lookup xi_BadText = some ⟨xo_BadText, xd_BadText, .func (PySem.W.fnOf "__init__" "BadText.__init__" (defArgs si_BadText) (defBody si_BadText) (defScope si_BadText) .none xv_BadText xq_BadText xp_BadText xn_BadText xy_BadText xt_BadText), xz_BadText⟩) (xC_BadText : PySem.W.codeIn K xy_BadText "BadText.__init__" = true) (xk_BadText : PySem.W.keepIn K (.ref xi_BadText) = true) (xf_BadText_0 : PySem.W.findIn K (.ref xc_BadText) "called" = some none)
    {cL pL : Addr} {oL : Value} {dL : Option Addr} {vL : Array Value} {zL : Array (Option Value)} (eL : cd16 = .ref cL) (lL : K.lookup cL = some ⟨oL, dL, .fields vL, zL⟩) (e11 : vL[11]? = some (.ref pL)) (nL : K.lookup pL = none) (hL : PySem.W.codeHdIn K cL pL = true) (tL : tryB K why_tab why_cl = true) :
    LamX.LawAtS l w K (L2.CX l.prog w) 23 63 "_law_script" mg fa h := by
  have e := hfa.symm.trans (PySem.W.mg_of X G a16)
  cases e
  have m_abs : mg "abs" = none := PySem.W.mg_none_of X G z_abs
  have m_len : mg "len" = none := PySem.W.mg_none_of X G z_len
  have m_all : mg "all" = none := PySem.W.mg_none_of X G z_all
  have m_int : mg "int" = none := PySem.W.mg_none_of X G z_int
  have m_str : mg "str" = none := PySem.W.mg_none_of X G z_str
  have m_list : mg "list" = none := PySem.W.mg_none_of X G z_list
  have m_isinstance : mg "isinstance" = none := PySem.W.mg_none_of X G z_isinstance
  have m_tuple : mg "tuple" = none := PySem.W.mg_none_of X G z_tuple
  have m_zip : mg "zip" = none := PySem.W.mg_none_of X G z_zip
  have m_bool : mg "bool" = none := PySem.W.mg_none_of X G z_bool
  have m_range : mg "range" = none := PySem.W.mg_none_of X G z_range
  have c_FIGURES : ConstAt K mg "FIGURES" (.str "0123456789") := const_mk X G qa_FIGURES qe_FIGURES
  have D_common : DefAt K mg "common" s_common ["one", "other"] := def_mk X G a0 l0 c0 k0 fun _ _ _ _ _ _ us hl => match us, hl with | [_, _], _ => rfl
  have D_lowest : DefAt K mg "lowest" s_lowest ["over", "under"] := def_mk X G a1 l1 c1 k1 fun _ _ _ _ _ _ us hl => match us, hl with | [_, _], _ => rfl
  have D_k_whole_in_1_figures : KDefAt K mg "whole_in" s_whole_in ["text", "figures"] 1 ["figures"] [.inl 0, .inl 1] [] := kdef_mk0 X G a2 l2 c2 k2 fun _ _ _ _ _ _ us ws h1 h2 => match us, ws, h1, h2 with | [_], [_], _, _ => rfl
  have D_amount_text : DefAt K mg "amount_text" s_amount_text ["amount"] := def_mk X G a3 l3 c3 k3 fun _ _ _ _ _ _ us hl => match us, hl with | [_], _ => rfl
  have D_k_read_amount_1 : KDefAt K mg "read_amount" s_read_amount ["text", "figures"] 1 [] [.inl 0, .inr 0] [(.int 12)] := kdef_mk1 (kvs := [("figures", (.int 12))]) X G a4 l4 c4 k4 ⟨entry_scal ka_4_figures ke_4_figures, trivial⟩ fun _ _ _ _ _ _ us ws ms h1 h2 h3 => match us, ws, ms, h1, h2, h3 with | [_], [], [_], _, _, _ => ⟨_, _, _, _, _, _, rfl, rfl, rfl⟩
  have D_k_read_amount_1_figures : KDefAt K mg "read_amount" s_read_amount ["text", "figures"] 1 ["figures"] [.inl 0, .inl 1] [] := kdef_mk0 X G a4 l4 c4 k4 fun _ _ _ _ _ _ us ws h1 h2 => match us, ws, h1, h2 with | [_], [_], _, _ => rfl
  have D__law_box : DefAt K mg "_law_box" s__law_box ["_law_script"] := def_mk X G a5 l5 c5 k5 fun _ _ _ _ _ _ us hl => match us, hl with | [_], _ => rfl
  have D__law_take : DefAt K mg "_law_take" s__law_take ["_law_box_here", "_law_many"] := def_mk X G a6 l6 c6 k6 fun _ _ _ _ _ _ us hl => match us, hl with | [_, _], _ => rfl
  have D__law_one : DefAt K mg "_law_one" s__law_one ["_law_box_here", "_law_some"] := def_mk X G a7 l7 c7 k7 fun _ _ _ _ _ _ us hl => match us, hl with | [_, _], _ => rfl
  have D__law_near : DefAt K mg "_law_near" s__law_near ["_law_box_here", "_law_far"] := def_mk X G a8 l8 c8 k8 fun _ _ _ _ _ _ us hl => match us, hl with | [_, _], _ => rfl
  have D__law_same : DefAt K mg "_law_same" s__law_same ["_law_found", "_law_due"] := def_mk X G a9 l9 c9 k9 fun _ _ _ _ _ _ us hl => match us, hl with | [_, _], _ => rfl
  have D__law_common : DefAt K mg "_law_common" s__law_common ["_law_one_here", "_law_other"] := def_mk X G a10 l10 c10 k10 fun _ _ _ _ _ _ us hl => match us, hl with | [_, _], _ => rfl
  have D__law_low : DefAt K mg "_law_low" s__law_low ["_law_num", "_law_den"] := def_mk X G a11 l11 c11 k11 fun _ _ _ _ _ _ us hl => match us, hl with | [_, _], _ => rfl
  have D__law_figures : DefAt K mg "_law_figures" s__law_figures ["_law_one_here"] := def_mk X G a12 l12 c12 k12 fun _ _ _ _ _ _ us hl => match us, hl with | [_], _ => rfl
  have D__law_why : DefAt K mg "_law_why" s__law_why ["_law_ask"] := def_mk X G a13 l13 c13 k13 fun _ _ _ _ _ _ us hl => match us, hl with | [_], _ => rfl
  have D__law_amount_in : DefAt K mg "_law_amount_in" s__law_amount_in ["_law_text", "_law_most"] := def_mk X G a14 l14 c14 k14 fun _ _ _ _ _ _ us hl => match us, hl with | [_, _], _ => rfl
  have D__law_amount_spoilt : DefAt K mg "_law_amount_spoilt" s__law_amount_spoilt ["_law_box_here", "_law_text"] := def_mk X G a15 l15 c15 k15 fun _ _ _ _ _ _ us hl => match us, hl with | [_, _], _ => rfl
  subst eL
  have y_why : WhyAt K mg "_law_why" why_tab why_cl := ⟨s__law_why, _, _, _, _, _, D__law_why, tryB_ok X G tL, why_S, why_cn, by decide, by decide, by decide⟩
  refine ⟨PySem.W.fnOf "law" "law" (defArgs s_law) (defBody s_law) (defScope s_law) .none kV16 dc16 pm16 an16 (.ref cL) ct16, [(cL, pL)], spT K pL "law.<locals>.<lambda>" f_law, fun p hp => ?_, fun p hp => ?_, fun p hp => ?_, fun s v => .of_eq rfl, fun H a ns hl _ hH hS => ⟨a, ns, rfl, hS, LamX.TabS.nil (hH (cL, pL) List.mem_cons_self), law_eq ns hl, fun _ => rfl⟩, fun base _ _ hTB => ?_⟩
  · rw [List.mem_singleton.mp hp]; exact own cL pL _ _ _ _ _ _ l16 rfl rfl lL e11
  · rw [List.mem_singleton.mp hp]; exact nL
  · rw [List.mem_singleton.mp hp]; exact PySem.W.codeHd_of_K X hL
  have x_BadText : ExAt l.prog w K mg base 1 "BadText" 0 [("called", .inl (.str "BadText"))] := ex_mk (k := 0) (n := 0) (ps := ["self"]) X G xO_BadText xa_BadText xI_BadText xT_BadText xl_BadText xC_BadText xk_BadText (fun _ _ _ _ _ _ us hl => match us, hl with | [_], _ => rfl) (fun e he => by
    simp only [List.mem_cons, List.mem_nil_iff, or_false] at he
    rcases he with rfl
    · exact ⟨xf_BadText_0, trivial⟩
    ) sci_BadText rfl (by decide) in_BadText
  have c__law_box : FnAt l.prog w K mg base 1 "_law_box" 1 f__law_box := ok__law_box D__law_box m_len m_list 
  have c__law_common : FnAt l.prog w K mg base 1 "_law_common" 2 f__law_common := ok__law_common D__law_common m_abs 
  have c__law_low : FnAt l.prog w K mg base 2 "_law_low" 2 f__law_low := ok__law_low D__law_low  (c__law_common.mono (by decide))
  have c__law_take : FnAt l.prog w K mg base 1 "_law_take" 2 f__law_take := ok__law_take D__law_take m_len 
  have c__law_near : FnAt l.prog w K mg base 2 "_law_near" 2 f__law_near := ok__law_near D__law_near  (c__law_take.mono (by decide))
  have c__law_figures : FnAt l.prog w K mg base 1 "_law_figures" 1 f__law_figures := ok__law_figures D__law_figures m_str 
  have c__law_same : FnAt l.prog w K mg base 20 "_law_same" 2 (fr__law_same 20) := (at__law_same D__law_same m_list m_isinstance m_tuple m_len m_zip m_all m_bool m_int m_str  20).mono (by decide)
  have k_whole_in_1_figures : CallAt l.prog w K mg base 1 "whole_in" 1 ["figures"] [.inl 0, .inl 1] [] 2 f_whole_in := ok_whole_in D_k_whole_in_1_figures m_len m_all m_int c_FIGURES 
  have c_common : FnAt l.prog w K mg base 1 "common" 2 f_common := ok_common D_common m_abs 
  have c_lowest : FnAt l.prog w K mg base 2 "lowest" 2 f_lowest := ok_lowest D_lowest  (c_common.mono (by decide))
  have c_amount_text : FnAt l.prog w K mg base 1 "amount_text" 1 f_amount_text := ok_amount_text D_amount_text m_str 
  have k_read_amount_1 : CallAt l.prog w K mg base 3 "read_amount" 1 [] [.inl 0, .inr 0] [(.int 12)] 2 f_read_amount := ok_read_amount D_k_read_amount_1 (by omega) x_BadText  (k_whole_in_1_figures.mono (by decide)) (c_lowest.mono (by decide)) (c_amount_text.mono (by decide))
  have k_read_amount_1_figures : CallAt l.prog w K mg base 3 "read_amount" 1 ["figures"] [.inl 0, .inl 1] [] 2 f_read_amount := ok_read_amount D_k_read_amount_1_figures (by omega) x_BadText  (k_whole_in_1_figures.mono (by decide)) (c_lowest.mono (by decide)) (c_amount_text.mono (by decide))
  have c__law_one : FnAt l.prog w K mg base 2 "_law_one" 2 f__law_one := ok__law_one D__law_one m_len (c__law_take.mono (by decide))
  have c__law_amount_spoilt : FnAt l.prog w K mg base 3 "_law_amount_spoilt" 2 f__law_amount_spoilt := ok__law_amount_spoilt D__law_amount_spoilt m_len (c__law_take.mono (by decide)) (c__law_one.mono (by decide))
  have c__law_amount_in : FnAt l.prog w K mg base 3 "_law_amount_in" 2 f__law_amount_in := ok__law_amount_in D__law_amount_in m_len m_all m_int (c__law_low.mono (by decide))
  exact ok_law (k := 20) l16 c16 (hTB (cL, pL) List.mem_cons_self) y_why m_range (c__law_box.mono (by decide)) (c__law_low.mono (by decide)) (c__law_take.mono (by decide)) (c__law_near.mono (by decide)) (c__law_figures.mono (by decide)) (c__law_same.mono (by decide)) (k_read_amount_1.mono (by decide)) (k_read_amount_1_figures.mono (by decide)) (c_amount_text.mono (by decide)) (c__law_amount_spoilt.mono (by decide)) (c__law_amount_in.mono (by decide))
end Lw
open PySem PySem.W PyProof.Rows
set_option maxHeartbeats 0 in
theorem PySem.Challenge.cw_strikeloom_k03_amounts_written_and_read_holds : PySem.Challenge.rw_strikeloom_k03_amounts_written_and_read.Holds := by
  w_on; o_law; k_head; (case hw => w_witness2)
  k_fill
  refine LamX.walk_ofOwn (l := PySem.Challenge.rw_strikeloom_k03_amounts_written_and_read) (n := 63) (k := 23) (x := "_law_script") (CX := fun w => L2.CX PySem.Challenge.rw_strikeloom_k03_amounts_written_and_read.prog w) rfl (by decide) rfl ⟨rfl, by decide, by decide⟩ (by decide +kernel) (fun w h Y => PySem.W.km_in_of Y) ?F (fun _ _ _ _ _ h => DL.CX_no h)
  case F =>
    intro w mg fa h Y KX G hmg own
    refine' Lw.all_mk KX G hmg own ?a0 ?l0 ?c0 ?k0 ?a1 ?l1 ?c1 ?k1 ?a2 ?l2 ?c2 ?k2 ?a3 ?l3 ?c3 ?k3 ?a4 ?l4 ?c4 ?k4 ?ka_4_figures ?ke_4_figures ?a5 ?l5 ?c5 ?k5 ?a6 ?l6 ?c6 ?k6 ?a7 ?l7 ?c7 ?k7 ?a8 ?l8 ?c8 ?k8 ?a9 ?l9 ?c9 ?k9 ?a10 ?l10 ?c10 ?k10 ?a11 ?l11 ?c11 ?k11 ?a12 ?l12 ?c12 ?k12 ?a13 ?l13 ?c13 ?k13 ?a14 ?l14 ?c14 ?k14 ?a15 ?l15 ?c15 ?k15 ?a16 ?l16 ?c16 ?k16 ?z_abs ?z_len ?z_all ?z_int ?z_str ?z_list ?z_isinstance ?z_tuple ?z_zip ?z_bool ?z_range ?qa_FIGURES ?qe_FIGURES ?xa_BadText ?xO_BadText ?xI_BadText ?xT_BadText ?xl_BadText ?xC_BadText ?xk_BadText ?xf_BadText_0 ?eL ?lL ?e11 ?nL ?hL ?tL
    (case a0 => k_is); (case l0 => k_is); (case c0 => k_is); (case k0 => k_is); (case a1 => k_is); (case l1 => k_is); (case c1 => k_is); (case k1 => k_is); (case a2 => k_is); (case l2 => k_is); (case c2 => k_is); (case k2 => k_is); (case a3 => k_is); (case l3 => k_is); (case c3 => k_is); (case k3 => k_is); (case a4 => k_is); (case l4 => k_is); (case c4 => k_is); (case k4 => k_is); (case ka_4_figures => k_is); (case ke_4_figures => rfl); (case a5 => k_is); (case l5 => k_is); (case c5 => k_is); (case k5 => k_is); (case a6 => k_is); (case l6 => k_is); (case c6 => k_is); (case k6 => k_is); (case a7 => k_is); (case l7 => k_is); (case c7 => k_is); (case k7 => k_is); (case a8 => k_is); (case l8 => k_is); (case c8 => k_is); (case k8 => k_is); (case a9 => k_is); (case l9 => k_is); (case c9 => k_is); (case k9 => k_is); (case a10 => k_is); (case l10 => k_is); (case c10 => k_is); (case k10 => k_is); (case a11 => k_is); (case l11 => k_is); (case c11 => k_is); (case k11 => k_is); (case a12 => k_is); (case l12 => k_is); (case c12 => k_is); (case k12 => k_is); (case a13 => k_is); (case l13 => k_is); (case c13 => k_is); (case k13 => k_is); (case a14 => k_is); (case l14 => k_is); (case c14 => k_is); (case k14 => k_is); (case a15 => k_is); (case l15 => k_is); (case c15 => k_is); (case k15 => k_is); (case a16 => k_is); (case l16 => k_is); (case c16 => k_is); (case k16 => k_is); (case z_abs => k_is); (case z_len => k_is); (case z_all => k_is); (case z_int => k_is); (case z_str => k_is); (case z_list => k_is); (case z_isinstance => k_is); (case z_tuple => k_is); (case z_zip => k_is); (case z_bool => k_is); (case z_range => k_is); (case qa_FIGURES => k_is); (case qe_FIGURES => rfl); (case xa_BadText => k_is); (case xO_BadText => exact ⟨⟨_, _, _, _, _, _, _, _, _, _, _, _, _, _, _, by k_is, by rfl⟩, by k_is, by k_is, by k_is, by k_is⟩); (case xI_BadText => k_is); (case xT_BadText => k_is); (case xl_BadText => k_is); (case xC_BadText => k_is); (case xk_BadText => k_is); (case xf_BadText_0 => k_is); (case eL => rfl); (case lL => k_is); (case e11 => rfl); (case nL => kernel_rfl); (case hL => kernel_rfl); (case tL => kernel_rfl)
