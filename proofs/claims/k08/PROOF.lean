import PyProof.Rows.All
import Wide.All
import OpenK.AllK
import Wide.FinOn
import HandS.ForMost
import HandS.ForExc
import HandS.Wide
import HandS.IsInst
import HandS.Walk
import HandS.Zip
import HandS.CallSlots
import HandS.Lambda
import HandS.TupAny
import HandS.CallLocal
import HandS.More
import HandS.Defaults
import PyProof.CollectIter
import PyProof.WalksMore
import KE.KUnpack
import KE.GoesZip
import PyProof.EnumMake
import KE.GoesMore
import KE.GoesEnum
import PyProof.Rows.CallKw2
import HandS.FStr
import HandS.RaiseMore
import HandS.SetFor
import HandS.DictComp
import KE.KxIndex
import HandS.Style
import HandS.ExcInit
import HandS.ExcField
import HandS.TryMany
import KE.KTryMore
import HandS.EndOwn
import HandS.TupSets
import HandS.Deep
import PySem.Challenge.RW_strikeloom_k08_shares_and_wins
set_option Elab.async false
set_option linter.all false
set_option maxRecDepth 100000
set_option maxHeartbeats 4000000
set_option autoImplicit false
set_option synthInstance.maxHeartbeats 4000000
set_option synthInstance.maxSize 100000
namespace DL
open PySem PySem.Spec PyProof.Rows L2
/-! ### data, slots, flows -/
inductive Dt where
  | non | bl (b : Bool) | int (i : Int) | str (x : Str) | tup (xs : List Dt) | lst (xs : List Dt) | ref (a : Addr) | ty (n : String) | scr (ns : List Int) | fn (x : Str)
  | dK (kvs : List (Key × Dt)) | obj (C : Str) (fs : List (Str × Dt)) | dT (kvs : List (List Key × Dt))
/-- the kinds of a tree's nodes -/
inductive Nk where
  | lst | tup | dk (ks : List Key) | dt (ks : List (List Key)) | ob (C : Str) (fs : List Str)
/-- a tree of things that are changed in place -/
inductive Tr where
  | sh (d : Dt) | nd (k : Nk) (ts : List Tr)
inductive Wt where
  | sh (d : Dt) | own (xs : List Dt) | tr (t : Tr)
instance : Coe (List Dt) Wt := ⟨Wt.own⟩
def Wt.isOwn : Wt → Bool
  | .sh _ => false
  | _ => true
def Nk.dt_ : Nk → List Dt → Dt
  | .lst, xs => .lst xs
  | .tup, xs => .tup xs
  | .dk ks, xs => .dK (ks.zip xs)
  | .dt ks, xs => .dT (ks.zip xs)
  | .ob C fs, xs => .obj C (fs.zip xs)
mutual
def Tr.dt : Tr → Dt
  | .sh d => d
  | .nd k ts => k.dt_ (Tr.dts ts)
def Tr.dts : List Tr → List Dt
  | [] => []
  | t :: ts => t.dt :: Tr.dts ts
end
abbrev Rho := List (Option Wt)
inductive RD where
  | ok (d : Dt) | ex (C : Str) (fs : List (Str × Dt))
inductive RW where
  | ok (w : Wt) | ex (C : Str) (fs : List (Str × Dt))
inductive Fl where
  | nx | bk | ct | rt (w : Wt) | ex (C : Str) (fs : List (Str × Dt))
abbrev FE := Rho → Option (RD × Rho)
abbrev FW := Rho → Option (RW × Rho)
abbrev FS := Rho → Option (Fl × Rho)
/-! ### a value stands for data, over the frozen heap F -/
mutual
inductive Rp (K : PySem.W.Frag) (F : Hp) : Dt → V → Prop
  | non : Rp K F .non .non
  | bl (b : Bool) : Rp K F (.bl b) (.bl b)
  | int (i : Int) : Rp K F (.int i) (.int i)
  | str (x : Str) : Rp K F (.str x) (.str x)
  | tup {a : Addr} {vs : List V} {ds : List Dt} : SqT K F a vs → Rps K F ds vs → Rp K F (.tup ds) (.ref a)
  | lst {a : Addr} {vs : List V} {ds : List Dt} : F a = some (.lst vs) → Rps K F ds vs → Rp K F (.lst ds) (.ref a)
  | ref (a : Addr) : Rp K F (.ref a) (.ref a)
  | ty (n : String) : Rp K F (.ty n) (.ty n)
  | scr {a : Addr} {ns : List Int} : SqL K F a (ns.map V.int) → Rp K F (.scr ns) (.ref a)
  | fn {x : Str} {f : Addr} : PySem.W.nsIn K mainGlobals x = some (some (.ref f)) → Rp K F (.fn x) (.ref f)
  | dK {a : Addr} {gs : List (Key × V)} {kvs : List (Key × Dt)} : F a = some (.dK gs) → gs.map (·.1) = kvs.map (·.1) → Rps K F (kvs.map (·.2)) (gs.map (·.2)) → Rp K F (.dK kvs) (.ref a)
  | obj {a Ca dx : Addr} {gs : List (Str × V)} {C : Str} {fs : List (Str × Dt)} : PySem.W.nsIn K mainGlobals C = some (some (.ref Ca)) → F a = some (.ins Ca dx gs) → gs.map (·.1) = fs.map (·.1) → Rps K F (fs.map (·.2)) (gs.map (·.2)) → Rp K F (.obj C fs) (.ref a)
  | dT {a : Addr} {gs : List (List Key × V)} {kvs : List (List Key × Dt)} : F a = some (.dT gs) → gs.map (·.1) = kvs.map (·.1) → Rps K F (kvs.map (·.2)) (gs.map (·.2)) → Rp K F (.dT kvs) (.ref a)
inductive Rps (K : PySem.W.Frag) (F : Hp) : List Dt → List V → Prop
  | nil : Rps K F [] []
  | cons {d : Dt} {v : V} {ds : List Dt} {vs : List V} : Rp K F d v → Rps K F ds vs → Rps K F (d :: ds) (v :: vs)
end
section
variable {K : PySem.W.Frag} {F F' H H' : Hp}
theorem same_sqT {a : Addr} {xs : List V} (e : Same F F') (h : SqT K F a xs) : SqT K F' a xs := by
  rcases h with (h | ⟨o, h⟩) | h
  · exact .inl (.inl (e _ _ h))
  · exact .inl (.inr ⟨o, e _ _ h⟩)
  · exact .inr h
mutual
theorem Rp.mono (s : Same F F') : ∀ {d : Dt} {v : V}, Rp K F d v → Rp K F' d v
  | _, _, .non => .non
  | _, _, .bl b => .bl b
  | _, _, .int i => .int i
  | _, _, .str x => .str x
  | _, _, .tup h r => .tup (same_sqT s h) (Rps.mono s r)
  | _, _, .lst h r => .lst (s _ _ h) (Rps.mono s r)
  | _, _, .ref a => .ref a
  | _, _, .ty n => .ty n
  | _, _, .scr h => .scr (s.seq h)
  | _, _, .fn h => .fn h
  | _, _, .dK h e r => .dK (s _ _ h) e (Rps.mono s r)
  | _, _, .obj c h e r => .obj c (s _ _ h) e (Rps.mono s r)
  | _, _, .dT h e r => .dT (s _ _ h) e (Rps.mono s r)
theorem Rps.mono (s : Same F F') : ∀ {ds : List Dt} {vs : List V}, Rps K F ds vs → Rps K F' ds vs
  | _, _, .nil => .nil
  | _, _, .cons h r => .cons (Rp.mono s h) (Rps.mono s r)
end
theorem Rps.length : ∀ {ds : List Dt} {vs : List V}, Rps K F ds vs → ds.length = vs.length
  | _, _, .nil => rfl
  | _, _, .cons _ r => by simp [Rps.length r]
theorem Rps.get : ∀ {ds : List Dt} {vs : List V} {i : Nat} {d : Dt}, Rps K F ds vs → ds[i]? = some d → ∃ v, vs[i]? = some v ∧ Rp K F d v
  | _, _, _, _, .nil, e => by simp at e
  | _, _, 0, _, .cons h _, e => by simp at e; subst e; exact ⟨_, rfl, h⟩
  | _, _, i + 1, d, .cons _ r, e => by
    obtain ⟨v, h1, h2⟩ := Rps.get (i := i) (d := d) r (by simpa using e)
    exact ⟨v, by simpa using h1, h2⟩
theorem Rps.getV : ∀ {ds : List Dt} {vs : List V} {i : Nat} {v : V}, Rps K F ds vs → vs[i]? = some v → ∃ d, ds[i]? = some d ∧ Rp K F d v
  | _, _, _, _, .nil, e => by simp at e
  | _, _, 0, _, .cons h _, e => by simp at e; subst e; exact ⟨_, rfl, h⟩
  | _, _, i + 1, d, .cons _ r, e => by
    obtain ⟨v, h1, h2⟩ := Rps.getV (i := i) (v := d) r (by simpa using e)
    exact ⟨v, by simpa using h1, h2⟩
theorem Rps.append : ∀ {ds es : List Dt} {vs ws : List V}, Rps K F ds vs → Rps K F es ws → Rps K F (ds ++ es) (vs ++ ws)
  | _, _, _, _, .nil, s => s
  | _, _, _, _, .cons h r, s => .cons h (Rps.append r s)
theorem Rps.set {d : Dt} {v : V} (h : Rp K F d v) : ∀ {ds : List Dt} {vs : List V} (i : Nat), Rps K F ds vs → Rps K F (ds.set i d) (vs.set i v)
  | _, _, _, .nil => .nil
  | _, _, 0, .cons _ r => .cons h r
  | _, _, i + 1, .cons q r => .cons q (Rps.set h i r)
theorem Rps.take : ∀ {ds : List Dt} {vs : List V} (n : Nat), Rps K F ds vs → Rps K F (ds.take n) (vs.take n)
  | _, _, 0, _ => .nil
  | _, _, _ + 1, .nil => .nil
  | _, _, n + 1, .cons h r => .cons h (Rps.take n r)
theorem Rps.drop : ∀ {ds : List Dt} {vs : List V} (n : Nat), Rps K F ds vs → Rps K F (ds.drop n) (vs.drop n)
  | _, _, 0, h => h
  | _, _, _ + 1, .nil => .nil
  | _, _, n + 1, .cons _ r => Rps.drop n r
end
/-! ### growing heaps -/
structure Grow (F H F' H' : Hp) : Prop where
  f : Same F F'
  h : Same H H'
  fh : Same F' H'
  new : ∀ p o, F' p = some o → F p = some o ∨ H p = none
theorem Grow.refl {F H : Hp} (s : Same F H) : Grow F H F H := ⟨.refl _, .refl _, s, fun _ _ e => .inl e⟩
theorem Grow.trans {F H F1 H1 F2 H2 : Hp} (a : Grow F H F1 H1) (b : Grow F1 H1 F2 H2) : Grow F H F2 H2 :=
  ⟨a.f.trans b.f, a.h.trans b.h, b.fh, fun p o e => (b.new p o e).elim (fun q => a.new p o q) fun q => .inr (a.h.free q)⟩
theorem same_new {H : Hp} {p : Addr} {o : HO} (h : H p = none) : Same H (upd H p o) := fun b x e => by
  rw [upd_ne (ne_of_none e h)]
  exact e
theorem free_of {F H : Hp} (s : Same F H) {p : Addr} (h : H p = none) : F p = none := s.free h
/-- a new object, frozen at once -/
theorem Grow.lay {F H : Hp} {p : Addr} {o : HO} (s : Same F H) (h : H p = none) : Grow F H (upd F p o) (upd H p o) where
  f := same_new (free_of s h)
  h := same_new h
  fh := fun b x e => by
    by_cases hb : b = p
    · subst hb; rw [upd_same] at e ⊢; exact e
    · rw [upd_ne hb] at e ⊢; exact s b x e
  new := fun b x e => by
    by_cases hb : b = p
    · subst hb; exact .inr h
    · rw [upd_ne hb] at e; exact .inl e
/-- a new object, not frozen -/
theorem Grow.laid {F H : Hp} {p : Addr} {o : HO} (s : Same F H) (h : H p = none) : Grow F H F (upd H p o) where
  f := .refl _
  h := same_new h
  fh := s.trans (same_new h)
  new := fun _ _ e => .inl e
/-! ### trees over the heaps -/
/-- what a tree's node looks like -/
def PlO : HO → Prop
  | .lst _ => True
  | .tup _ => True
  | .dK _ => True
  | .dT _ => True
  | .ins _ _ _ => True
  | _ => False
def kids : HO → List V
  | .lst vs => vs
  | .tup vs => vs
  | .dK gs => gs.map (·.2)
  | .dT gs => gs.map (·.2)
  | .ins _ _ gs => gs.map (·.2)
  | _ => []
def NkOk (K : PySem.W.Frag) : Nk → HO → Prop
  | .lst, .lst _ => True
  | .tup, .tup _ => True
  | .dk ks, .dK gs => gs.map (·.1) = ks
  | .dt ks, .dT gs => gs.map (·.1) = ks
  | .ob C fs, .ins Ca _ gs => PySem.W.nsIn K mainGlobals C = some (some (.ref Ca)) ∧ gs.map (·.1) = fs
  | _, _ => False
def kidsAt (H : Hp) (p : Addr) : List V := match H p with
  | some o => kids o
  | none => []
mutual
def fpT (H : Hp) : Tr → V → List Addr
  | .sh _, _ => []
  | .nd _ ts, v => match v with
    | .ref p => p :: fpTs H ts (kidsAt H p)
    | _ => []
def fpTs (H : Hp) : List Tr → List V → List Addr
  | [], _ => []
  | t :: ts, vs => match vs with
    | v :: us => fpT H t v ++ fpTs H ts us
    | [] => []
end
mutual
inductive RT (K : PySem.W.Frag) (F H : Hp) : Tr → V → Prop
  | sh {d : Dt} {v : V} : Rp K F d v → RT K F H (.sh d) v
  | nd {k : Nk} {ts : List Tr} {p : Addr} {o : HO} : F p = none → H p = some o → NkOk K k o → RTs K F H ts (kids o) → RT K F H (.nd k ts) (.ref p)
inductive RTs (K : PySem.W.Frag) (F H : Hp) : List Tr → List V → Prop
  | nil : RTs K F H [] []
  | cons {t : Tr} {v : V} {ts : List Tr} {vs : List V} : RT K F H t v → RTs K F H ts vs → RTs K F H (t :: ts) (v :: vs)
end
theorem fpT_nd {H : Hp} {k : Nk} {ts : List Tr} {p : Addr} {o : HO} (h : H p = some o) : fpT H (.nd k ts) (.ref p) = p :: fpTs H ts (kids o) := by
  rw [fpT, kidsAt, h]
theorem NkOk.pl {K : PySem.W.Frag} {k : Nk} {o : HO} (h : NkOk K k o) : PlO o := by
  cases k <;> cases o <;> first | exact trivial | exact h.elim
section
variable {K : PySem.W.Frag} {F F' H H' : Hp}
mutual
theorem RT.at_ : ∀ {t : Tr} {v : V} {p : Addr}, RT K F H t v → p ∈ fpT H t v → F p = none ∧ ∃ o, H p = some o ∧ PlO o
  | _, _, _, .sh _, m => by rw [fpT] at m; cases m
  | _, _, p, .nd h1 h2 h3 r, m => by
    rw [fpT_nd h2] at m
    rcases List.mem_cons.mp m with m | m
    · subst m; exact ⟨h1, _, h2, h3.pl⟩
    · exact RTs.at_ r m
theorem RTs.at_ : ∀ {ts : List Tr} {vs : List V} {p : Addr}, RTs K F H ts vs → p ∈ fpTs H ts vs → F p = none ∧ ∃ o, H p = some o ∧ PlO o
  | _, _, _, .nil, m => by rw [fpTs] at m; cases m
  | _, _, p, .cons h r, m => by
    rw [fpTs] at m
    rcases List.mem_append.mp m with m | m
    · exact RT.at_ h m
    · exact RTs.at_ r m
end
mutual
theorem RT.map (s : Same F F') : ∀ {t : Tr} {v : V}, RT K F H t v → (∀ p ∈ fpT H t v, F' p = none) → (∀ p ∈ fpT H t v, H' p = H p) → RT K F' H' t v ∧ fpT H' t v = fpT H t v
  | _, _, .sh h, _, _ => ⟨.sh (h.mono s), by rw [fpT, fpT]⟩
  | _, _, .nd (p := p) h1 h2 h3 r, hf, hh => by
    rw [fpT_nd h2] at hf hh
    have h2' := hh p List.mem_cons_self
    rw [h2] at h2'
    obtain ⟨a, b⟩ := RTs.map s r (fun q m => hf q (List.mem_cons_of_mem _ m)) fun q m => hh q (List.mem_cons_of_mem _ m)
    exact ⟨.nd (hf p List.mem_cons_self) h2' h3 a, by rw [fpT_nd h2', fpT_nd h2, b]⟩
theorem RTs.map (s : Same F F') : ∀ {ts : List Tr} {vs : List V}, RTs K F H ts vs → (∀ p ∈ fpTs H ts vs, F' p = none) → (∀ p ∈ fpTs H ts vs, H' p = H p) → RTs K F' H' ts vs ∧ fpTs H' ts vs = fpTs H ts vs
  | _, _, .nil, _, _ => ⟨.nil, by rw [fpTs, fpTs]⟩
  | _, _, .cons h r, hf, hh => by
    rw [fpTs] at hf hh
    obtain ⟨a, b⟩ := RT.map s h (fun q m => hf q (List.mem_append_left _ m)) fun q m => hh q (List.mem_append_left _ m)
    obtain ⟨c, d⟩ := RTs.map s r (fun q m => hf q (List.mem_append_right _ m)) fun q m => hh q (List.mem_append_right _ m)
    exact ⟨.cons a c, by rw [fpTs, fpTs, b, d]⟩
end
theorem RTs.length : ∀ {ts : List Tr} {vs : List V}, RTs K F H ts vs → ts.length = vs.length
  | _, _, .nil => rfl
  | _, _, .cons _ r => by simp [RTs.length r]
theorem dts_len : ∀ ts : List Tr, (Tr.dts ts).length = ts.length
  | [] => by rw [Tr.dts]; rfl
  | t :: ts => by rw [Tr.dts]; simp [dts_len ts]
theorem zip1 {α β : Type} : ∀ {ks : List α} {xs : List β}, ks.length = xs.length → (ks.zip xs).map (·.1) = ks
  | [], [], _ => rfl
  | k :: ks, x :: xs, h => by simp [zip1 (ks := ks) (xs := xs) (by simpa using h)]
theorem zip2 {α β : Type} : ∀ {ks : List α} {xs : List β}, ks.length = xs.length → (ks.zip xs).map (·.2) = xs
  | [], [], _ => rfl
  | k :: ks, x :: xs, h => by simp [zip2 (ks := ks) (xs := xs) (by simpa using h)]
theorem nk_rp {k : Nk} {o : HO} {p : Addr} {ds : List Dt} (h : F p = some o) (n : NkOk K k o) (r : Rps K F ds (kids o)) : Rp K F (k.dt_ ds) (.ref p) := by
  have hl := r.length
  cases k with
  | lst =>
    cases o with
    | lst vs => exact .lst h r
    | _ => exact n.elim
  | tup =>
    cases o with
    | tup vs => exact .tup (.inl (.inl h)) r
    | _ => exact n.elim
  | dk ks =>
    cases o with
    | dK gs =>
      have n' : gs.map (·.1) = ks := n
      have hl' : ks.length = ds.length := by rw [← n', hl]; simp [kids]
      exact .dK h (by rw [zip1 hl']; exact n) (by rw [zip2 hl']; exact r)
    | _ => exact n.elim
  | dt ks =>
    cases o with
    | dT gs =>
      have n' : gs.map (·.1) = ks := n
      have hl' : ks.length = ds.length := by rw [← n', hl]; simp [kids]
      exact .dT h (by rw [zip1 hl']; exact n) (by rw [zip2 hl']; exact r)
    | _ => exact n.elim
  | ob C fs =>
    cases o with
    | ins Ca dx gs =>
      have n' : gs.map (·.1) = fs := n.2
      have hl' : fs.length = ds.length := by rw [← n', hl]; simp [kids]
      exact .obj n.1 h (by rw [zip1 hl']; exact n.2) (by rw [zip2 hl']; exact r)
    | _ => exact n.elim
mutual
theorem RT.frz (s : Same F F') : ∀ {t : Tr} {v : V}, RT K F H t v → (∀ p ∈ fpT H t v, F' p = H p) → Rp K F' t.dt v
  | _, _, .sh h, _ => by rw [Tr.dt]; exact h.mono s
  | _, _, .nd (p := p) h1 h2 h3 r, hh => by
    rw [fpT_nd h2] at hh
    have h2' := hh p List.mem_cons_self
    rw [h2] at h2'
    rw [Tr.dt]
    exact nk_rp h2' h3 (RTs.frz s r fun q m => hh q (List.mem_cons_of_mem _ m))
theorem RTs.frz (s : Same F F') : ∀ {ts : List Tr} {vs : List V}, RTs K F H ts vs → (∀ p ∈ fpTs H ts vs, F' p = H p) → Rps K F' (Tr.dts ts) vs
  | _, _, .nil, _ => by rw [Tr.dts]; exact .nil
  | _, _, .cons h r, hh => by
    rw [fpTs] at hh
    rw [Tr.dts]
    exact .cons (RT.frz s h fun q m => hh q (List.mem_append_left _ m)) (RTs.frz s r fun q m => hh q (List.mem_append_right _ m))
end
end
/-! what a slot may hold -/
@[reducible] def frz : Wt → Dt
  | .sh d => d
  | .own xs => .lst xs
  | .tr t => t.dt
def fpW (H : Hp) : Wt → V → List Addr
  | .sh _, _ => []
  | .own _, v => match v with
    | .ref p => [p]
    | _ => []
  | .tr t, v => fpT H t v
def OkW (K : PySem.W.Frag) (F H : Hp) (v : V) : Wt → Prop
  | .sh d => Rp K F d v
  | .own xs => ∃ p vs, v = .ref p ∧ F p = none ∧ H p = some (.lst vs) ∧ Rps K F xs vs
  | .tr t => RT K F H t v ∧ (fpT H t v).Nodup
section
variable {K : PySem.W.Frag} {F F' H H' : Hp} {v : V} {w : Wt}
theorem OkW.at_ {p : Addr} (h : OkW K F H v w) (m : p ∈ fpW H w v) : F p = none ∧ ∃ o, H p = some o ∧ PlO o := by
  cases w with
  | sh d => cases m
  | own xs =>
    obtain ⟨q, vs, rfl, h1, h2, h3⟩ := h
    rw [show fpW H (.own xs) (.ref q) = [q] from rfl, List.mem_singleton] at m
    subst m
    exact ⟨h1, _, h2, trivial⟩
  | tr t => exact h.1.at_ m
theorem OkW.map (s : Same F F') (h : OkW K F H v w) (hf : ∀ p ∈ fpW H w v, F' p = none) (hh : ∀ p ∈ fpW H w v, H' p = H p) : OkW K F' H' v w ∧ fpW H' w v = fpW H w v := by
  cases w with
  | sh d => exact ⟨Rp.mono s h, rfl⟩
  | own xs =>
    obtain ⟨q, vs, rfl, h1, h2, h3⟩ := h
    exact ⟨⟨q, vs, rfl, hf q (List.mem_singleton.mpr rfl), by rw [hh q (List.mem_singleton.mpr rfl)]; exact h2, h3.mono s⟩, rfl⟩
  | tr t =>
    obtain ⟨a, b⟩ := h.1.map s hf hh
    exact ⟨⟨a, by rw [b]; exact h.2⟩, b⟩
theorem OkW.frz (s : Same F F') (h : OkW K F H v w) (hh : ∀ p ∈ fpW H w v, F' p = H p) : Rp K F' (DL.frz w) v := by
  cases w with
  | sh d => exact Rp.mono s h
  | own xs =>
    obtain ⟨q, vs, rfl, h1, h2, h3⟩ := h
    exact .lst (by rw [hh q (List.mem_singleton.mpr rfl)]; exact h2) (h3.mono s)
  | tr t => exact h.1.frz s hh
end
/-! ### the relation of slots -/
structure Pt where
  F0 : Hp
  H0 : Hp
  bs : List Nat
  ba : Nat → V
  bf : Nat → List Addr
  T : List (Addr × Str)
def Pt.isB (P : Pt) (p : Addr) : Prop := ∃ j, j ∈ P.bs ∧ p ∈ P.bf j
def SlotW (K : PySem.W.Frag) (P : Pt) (F H : Hp) (i : Nat) (v : V) : Wt → Prop
  | .sh d => Rp K F d v
  | w => OkW K F H v w ∧ ∀ p ∈ fpW H w v, P.H0 p = none ∨ (i ∈ P.bs ∧ p ∈ P.bf i)
structure Rel (K : PySem.W.Frag) (P : Pt) (F H : Hp) (σ : L2.St) (ρ : Rho) : Prop where
  fh : Same F H
  f0 : Same P.F0 F
  th : ∀ p o, P.H0 p = some o → ∃ u, H p = some u
  keep : ∀ p o, P.H0 p = some o → ¬ P.isB p → H p = some o
  new : ∀ p o, F p = some o → P.F0 p = some o ∨ P.H0 p = none
  len : ρ.length = σ.length
  slot : ∀ (i : Nat) (w : Wt), ρ[i]? = some (some w) → ∃ v, σ[i]? = some (some v) ∧ SlotW K P F H i v w
  sep : ∀ (i j : Nat) (w u : Wt) (v x : V) (p : Addr), ρ[i]? = some (some w) → ρ[j]? = some (some u) → σ[i]? = some (some v) → σ[j]? = some (some x) → p ∈ fpW H w v → p ∈ fpW H u x → i = j
  bor : ∀ j : Nat, j ∈ P.bs → σ[j]? = some (some (P.ba j)) ∧ ∃ w, ρ[j]? = some (some w) ∧ w.isOwn = true
  tb : ∀ q ∈ P.T, F q.1 = none ∧ LamX.TabS H q.1 q.2
/-- what an expression has given -/
def ResW (K : PySem.W.Frag) (P : Pt) (F H : Hp) (σ : L2.St) (ρ : Rho) (v : V) : Wt → Prop
  | .sh d => Rp K F d v
  | w => OkW K F H v w ∧ (∀ p ∈ fpW H w v, P.H0 p = none) ∧ ∀ (i : Nat) (u : Wt) (x : V) (p : Addr), ρ[i]? = some (some u) → σ[i]? = some (some x) → p ∈ fpW H w v → p ∉ fpW H u x
section
variable {K : PySem.W.Frag} {P : Pt} {F H F' H' : Hp} {σ : L2.St} {ρ : Rho}
theorem SlotW.ok {i : Nat} {v : V} {w : Wt} (h : SlotW K P F H i v w) : OkW K F H v w := by
  cases w with
  | sh d => exact h
  | own xs => exact h.1
  | tr t => exact h.1
theorem SlotW.h0 {i : Nat} {v : V} {w : Wt} (h : SlotW K P F H i v w) : ∀ p ∈ fpW H w v, P.H0 p = none ∨ (i ∈ P.bs ∧ p ∈ P.bf i) := by
  cases w with
  | sh d => intro p m; cases m
  | own xs => exact h.2
  | tr t => exact h.2
theorem SlotW.mk {i : Nat} {v : V} {w : Wt} (a : OkW K F H v w) (b : ∀ p ∈ fpW H w v, P.H0 p = none ∨ (i ∈ P.bs ∧ p ∈ P.bf i)) : SlotW K P F H i v w := by
  cases w with
  | sh d => exact a
  | own xs => exact ⟨a, b⟩
  | tr t => exact ⟨a, b⟩
theorem ResW.ok {v : V} {w : Wt} (h : ResW K P F H σ ρ v w) : OkW K F H v w := by
  cases w with
  | sh d => exact h
  | own xs => exact h.1
  | tr t => exact h.1
theorem ResW.h0 {v : V} {w : Wt} (h : ResW K P F H σ ρ v w) : ∀ p ∈ fpW H w v, P.H0 p = none := by
  cases w with
  | sh d => intro p m; cases m
  | own xs => exact h.2.1
  | tr t => exact h.2.1
theorem ResW.off {v : V} {w : Wt} (h : ResW K P F H σ ρ v w) : ∀ (i : Nat) (u : Wt) (x : V) (p : Addr), ρ[i]? = some (some u) → σ[i]? = some (some x) → p ∈ fpW H w v → p ∉ fpW H u x := by
  cases w with
  | sh d => intro i u x p _ _ m; cases m
  | own xs => exact h.2.2
  | tr t => exact h.2.2
theorem ResW.mk {v : V} {w : Wt} (a : OkW K F H v w) (b : ∀ p ∈ fpW H w v, P.H0 p = none) (c : ∀ (i : Nat) (u : Wt) (x : V) (p : Addr), ρ[i]? = some (some u) → σ[i]? = some (some x) → p ∈ fpW H w v → p ∉ fpW H u x) : ResW K P F H σ ρ v w := by
  cases w with
  | sh d => exact a
  | own xs => exact ⟨a, b, c⟩
  | tr t => exact ⟨a, b, c⟩
theorem Rel.at_ (R : Rel K P F H σ ρ) {i : Nat} {w : Wt} {v : V} (h : ρ[i]? = some (some w)) (hs : σ[i]? = some (some v)) : SlotW K P F H i v w := by
  obtain ⟨x, e, q⟩ := R.slot i w h
  rw [hs] at e
  cases e
  exact q
theorem Rel.there (R : Rel K P F H σ ρ) {p : Addr} {o : HO} (h : P.H0 p = some o) : ∃ u, H p = some u := R.th p o h
theorem Rel.fresh (R : Rel K P F H σ ρ) {p : Addr} (h : H p = none) : P.H0 p = none := by
  cases e : P.H0 p with
  | none => rfl
  | some o =>
    obtain ⟨u, hu⟩ := R.there e
    rw [h] at hu
    cases hu
theorem Rel.offNew (R : Rel K P F H σ ρ) {p : Addr} (h : H p = none) {i : Nat} {u : Wt} {x : V} (hi : ρ[i]? = some (some u)) (hs : σ[i]? = some (some x)) : p ∉ fpW H u x := fun m => by
  obtain ⟨_, o, e, _⟩ := (R.at_ hi hs).ok.at_ m
  rw [h] at e
  cases e
theorem grow_free (g : Grow F H F' H') {p : Addr} {o : HO} (a : F p = none) (b : H p = some o) : F' p = none := by
  cases q : F' p with
  | none => rfl
  | some u =>
    rcases g.new p u q with h1 | h1
    · rw [a] at h1; cases h1
    · rw [b] at h1; cases h1
theorem OkW.grow {v : V} {w : Wt} (g : Grow F H F' H') (h : OkW K F H v w) : OkW K F' H' v w ∧ fpW H' w v = fpW H w v := h.map g.f (fun p m => by
    obtain ⟨a, o, b, _⟩ := h.at_ m
    exact grow_free g a b) fun p m => by
    obtain ⟨a, o, b, _⟩ := h.at_ m
    rw [b, g.h _ _ b]
theorem SlotW.grow {i : Nat} {v : V} {w : Wt} (g : Grow F H F' H') (h : SlotW K P F H i v w) : SlotW K P F' H' i v w := by
  obtain ⟨a, b⟩ := h.ok.grow g
  exact .mk a (by rw [b]; exact h.h0)
theorem tab_free {p : Addr} {q : Str} (a : F p = none) (t : LamX.TabS H p q) (n : ∀ o, F' p = some o → F p = some o ∨ H p = none) : F' p = none := by
  cases e : F' p with
  | none => rfl
  | some o =>
    obtain ⟨ps, hp, _⟩ := t
    rcases n o e with h | h
    · rw [a] at h; cases h
    · rw [hp] at h; cases h
theorem tab_ne {p : Addr} {r : Addr} {q : Str} {o : HO} (t : LamX.TabS H r q) (h : H p = some o) (ho : PlO o) : r ≠ p := fun e => by
  subst e
  obtain ⟨ps, hp, _⟩ := t
  rw [h] at hp
  cases hp
  exact ho
theorem tab_map {H2 : Hp} {r : Addr} {q : Str} (t : LamX.TabS H r q) (k : ∀ p o, H p = some o → ¬ PlO o → H2 p = some o) : LamX.TabS H2 r q := by
  obtain ⟨ps, hp, ht, hc⟩ := t
  refine ⟨ps, k _ _ hp fun z => z, ht, fun pos cv e => ?_⟩
  obtain ⟨c, e1, e2⟩ := hc pos cv e
  exact ⟨c, e1, k _ _ e2 fun z => by unfold LamX.CodeO at z; exact z⟩
theorem Rel.grow (R : Rel K P F H σ ρ) (g : Grow F H F' H') : Rel K P F' H' σ ρ where
  fh := g.fh
  f0 := R.f0.trans g.f
  th := fun p o h => by
    obtain ⟨u, e⟩ := R.th p o h
    exact ⟨u, g.h _ _ e⟩
  keep := fun p o h hb => g.h _ _ (R.keep p o h hb)
  new := fun p o h => (g.new p o h).elim (fun q => R.new p o q) fun q => .inr (R.fresh q)
  len := R.len
  slot := fun i w h => by
    obtain ⟨v, e, q⟩ := R.slot i w h
    exact ⟨v, e, q.grow g⟩
  sep := fun i j w u v x p h1 h2 h3 h4 h5 h6 => by
    rw [((R.at_ h1 h3).ok.grow g).2] at h5
    rw [((R.at_ h2 h4).ok.grow g).2] at h6
    exact R.sep i j w u v x p h1 h2 h3 h4 h5 h6
  bor := R.bor
  tb := fun q hq => ⟨tab_free (R.tb q hq).1 (R.tb q hq).2 fun o e => g.new q.1 o e, (R.tb q hq).2.ext g.h⟩
theorem ResW.grow {v : V} {w : Wt} (R : Rel K P F H σ ρ) (g : Grow F H F' H') (h : ResW K P F H σ ρ v w) : ResW K P F' H' σ ρ v w := by
  obtain ⟨a, b⟩ := h.ok.grow g
  refine .mk a (by rw [b]; exact h.h0) fun i u x p h1 h2 m => ?_
  rw [b] at m
  rw [((R.at_ h1 h2).ok.grow g).2]
  exact h.off i u x p h1 h2 m
open Classical in
/-- freezing what has been given -/
theorem ResW.freeze {v : V} {w : Wt} (R : Rel K P F H σ ρ) (h : ResW K P F H σ ρ v w) : ∃ F', Same F F' ∧ Rel K P F' H σ ρ ∧ Rp K F' (frz w) v := by
  let F' : Hp := fun p => if p ∈ fpW H w v then H p else F p
  have sF : Same F F' := fun p o e => by
    show (if _ then _ else _) = _
    rw [if_neg]
    · exact e
    · intro m
      rw [(h.ok.at_ m).1] at e
      cases e
  have off : ∀ {p : Addr}, p ∉ fpW H w v → F' p = F p := fun m => if_neg m
  refine ⟨F', sF, ?_, h.ok.frz sF fun p m => if_pos m⟩
  have key : ∀ {i : Nat} {u : Wt} {x : V}, ρ[i]? = some (some u) → σ[i]? = some (some x) → OkW K F' H x u ∧ fpW H u x = fpW H u x := fun hi hs => (R.at_ hi hs).ok.map sF (fun p m => by
    rw [off fun z => h.off _ _ _ p hi hs z m]
    exact ((R.at_ hi hs).ok.at_ m).1) fun p m => rfl
  refine ⟨fun b o e => ?_, R.f0.trans sF, R.th, R.keep, fun b o e => ?_, R.len, fun i u hi => ?_, R.sep, R.bor, fun t ht => ⟨?_, (R.tb t ht).2⟩⟩
  · by_cases hb : b ∈ fpW H w v
    · rw [show F' b = H b from if_pos hb] at e; exact e
    · rw [off hb] at e; exact R.fh b o e
  · by_cases hb : b ∈ fpW H w v
    · exact .inr (h.h0 b hb)
    · rw [off hb] at e; exact R.new b o e
  · obtain ⟨x, e, q⟩ := R.slot i u hi
    exact ⟨x, e, .mk (key hi e).1 q.h0⟩
  · rw [off]
    · exact (R.tb t ht).1
    · intro m
      obtain ⟨_, o, e, po⟩ := h.ok.at_ m
      exact tab_ne (R.tb t ht).2 e po rfl
/-- a slot is given a value -/
theorem Rel.asg {i : Nat} {v : V} {w : Wt} (R : Rel K P F H σ ρ) (hi : i ∉ P.bs) (h : ResW K P F H σ ρ v w) : Rel K P F H (σ.set i (some v)) (ρ.set i (some w)) := by
  have key : ∀ {j : Nat} {u : Wt} {x : V}, (ρ.set i (some w))[j]? = some (some u) → (σ.set i (some v))[j]? = some (some x) → (i = j ∧ u = w ∧ x = v) ∨ (i ≠ j ∧ ρ[j]? = some (some u) ∧ σ[j]? = some (some x)) := fun {j u x} h1 h2 => by
    by_cases e : i = j
    · subst e
      have hl : i < ρ.length := by
        cases Nat.lt_or_ge i ρ.length with
        | inl h => exact h
        | inr h =>
          rw [List.getElem?_eq_none (by simpa using h)] at h1
          cases h1
      rw [List.getElem?_set_self hl] at h1
      rw [List.getElem?_set_self (by rw [← R.len]; exact hl)] at h2
      cases h1
      cases h2
      exact .inl ⟨rfl, rfl, rfl⟩
    · rw [List.getElem?_set_ne e] at h1 h2
      exact .inr ⟨e, h1, h2⟩
  exact {
    fh := R.fh
    f0 := R.f0
    th := R.th
    keep := R.keep
    new := R.new
    len := by simp [R.len]
    slot := fun j u hj => by
      by_cases e : i = j
      · subst e
        have hl : i < ρ.length := by
          cases Nat.lt_or_ge i ρ.length with
          | inl h => exact h
          | inr h =>
            rw [List.getElem?_eq_none (by simpa using h)] at hj
            cases hj
        rw [List.getElem?_set_self hl] at hj
        cases hj
        exact ⟨v, by rw [List.getElem?_set_self (by rw [← R.len]; exact hl)], .mk h.ok fun p m => .inl (h.h0 p m)⟩
      · rw [List.getElem?_set_ne e] at hj
        rw [List.getElem?_set_ne e]
        exact R.slot j u hj
    sep := fun a b u1 u2 x1 x2 p h1 h2 h3 h4 h5 h6 => by
      rcases key h1 h3 with ⟨ea, eb, ec⟩ | ⟨ea, eb, ec⟩
      · subst eb; subst ec
        rcases key h2 h4 with ⟨fa, fb, fc⟩ | ⟨fa, fb, fc⟩
        · omega
        · exact absurd h6 (h.off b u2 x2 p fb fc h5)
      · rcases key h2 h4 with ⟨fa, fb, fc⟩ | ⟨fa, fb, fc⟩
        · subst fb; subst fc
          exact absurd h5 (h.off a u1 x1 p eb ec h6)
        · exact R.sep a b u1 u2 x1 x2 p eb fb ec fc h5 h6
    tb := R.tb
    bor := fun j hj => by
      have e : i ≠ j := fun z => by subst z; exact hi hj
      rw [List.getElem?_set_ne e, List.getElem?_set_ne e]
      exact R.bor j hj }
theorem set_none {i j : Nat} {w : Wt} (h : (ρ.set i none)[j]? = some (some w)) : i ≠ j ∧ ρ[j]? = some (some w) := by
  by_cases e : i = j
  · subst e
    by_cases hl : i < ρ.length
    · rw [List.getElem?_set_self hl] at h; cases h
    · rw [List.getElem?_eq_none (by simpa using hl)] at h; cases h
  · rw [List.getElem?_set_ne e] at h
    exact ⟨e, h⟩
/-- a slot is forgotten -/
theorem Rel.forget {i : Nat} (R : Rel K P F H σ ρ) (hi : i ∉ P.bs) : Rel K P F H σ (ρ.set i none) where
  fh := R.fh
  f0 := R.f0
  th := R.th
  keep := R.keep
  new := R.new
  len := by simp [R.len]
  slot := fun j u hj => R.slot j u (set_none hj).2
  sep := fun a b u1 u2 x1 x2 p h1 h2 h3 h4 h5 h6 => R.sep a b u1 u2 x1 x2 p (set_none h1).2 (set_none h2).2 h3 h4 h5 h6
  tb := R.tb
  bor := fun j hj => by
    have e : i ≠ j := fun z => by subst z; exact hi hj
    rw [List.getElem?_set_ne e]
    exact R.bor j hj
/-- an own slot's thing is changed in place -/
theorem Rel.chg {i : Nat} {w w' : Wt} {v : V} (R : Rel K P F H σ ρ) (h : ρ[i]? = some (some w)) (hs : σ[i]? = some (some v)) (hw' : w'.isOwn = true)
    (hk : ∀ p o, H p = some o → p ∉ fpW H w v → H' p = some o) (ht : ∀ p o, H p = some o → ∃ u, H' p = some u) (sF : Same F F') (fh : Same F' H') (new : ∀ p o, F' p = some o → F p = some o ∨ H p = none)
    (ok : OkW K F' H' v w') (hp : ∀ p ∈ fpW H' w' v, p ∈ fpW H w v ∨ (P.H0 p = none ∧ ∀ (j : Nat) (u : Wt) (x : V), ρ[j]? = some (some u) → σ[j]? = some (some x) → p ∉ fpW H u x)) : Rel K P F' H' σ (ρ.set i (some w')) := by
  have hl : i < ρ.length := (List.getElem?_eq_some_iff.mp h).1
  have q := R.at_ h hs
  have stay : ∀ {j : Nat} {u : Wt} {x : V}, i ≠ j → ρ[j]? = some (some u) → σ[j]? = some (some x) → OkW K F' H' x u ∧ fpW H' u x = fpW H u x := fun {j u x} e hj hx => (R.at_ hj hx).ok.map sF (fun p m => by
      obtain ⟨a, o, b, _⟩ := (R.at_ hj hx).ok.at_ m
      cases z : F' p with
      | none => rfl
      | some y =>
        rcases new p y z with h1 | h1
        · rw [a] at h1; cases h1
        · rw [b] at h1; cases h1) fun p m => by
      obtain ⟨a, o, b, _⟩ := (R.at_ hj hx).ok.at_ m
      rw [b]
      exact hk p o b fun m' => e (R.sep i j w u v x p h hj hs hx m' m)
  have offT : ∀ t ∈ P.T, ∀ p o, H p = some o → ¬ PlO o → H' p = some o := fun t ht p o e np => hk p o e fun m => by
    obtain ⟨_, o', e', po⟩ := q.ok.at_ m
    rw [e] at e'
    cases e'
    exact np po
  have key : ∀ {j : Nat} {u : Wt} {x : V}, (ρ.set i (some w'))[j]? = some (some u) → σ[j]? = some (some x) → (i = j ∧ u = w' ∧ x = v) ∨ (i ≠ j ∧ ρ[j]? = some (some u)) := fun {j u x} h1 h2 => by
    by_cases e : i = j
    · subst e
      rw [List.getElem?_set_self hl] at h1
      rw [hs] at h2
      cases h1
      cases h2
      exact .inl ⟨rfl, rfl, rfl⟩
    · rw [List.getElem?_set_ne e] at h1
      exact .inr ⟨e, h1⟩
  have cross : ∀ {j : Nat} {u : Wt} {x : V} {p : Addr}, i ≠ j → ρ[j]? = some (some u) → σ[j]? = some (some x) → p ∈ fpW H' w' v → p ∈ fpW H u x → False := fun {j u x p} e hj hx m1 m2 => by
    rcases hp p m1 with m | ⟨_, m⟩
    · exact e (R.sep i j w u v x p h hj hs hx m m2)
    · exact m j u x hj hx m2
  exact {
    fh := fh
    f0 := R.f0.trans sF
    th := fun p o e => by
      obtain ⟨u, e'⟩ := R.th p o e
      exact ht p u e'
    keep := fun p o e hb => hk p o (R.keep p o e hb) fun m => by
      rcases q.h0 p m with z | ⟨z1, z2⟩
      · rw [z] at e; cases e
      · exact hb ⟨i, z1, z2⟩
    new := fun p o e => (new p o e).elim (fun z => R.new p o z) fun z => .inr (R.fresh z)
    len := by simp [R.len]
    slot := fun j u hj => by
      by_cases e : i = j
      · subst e
        rw [List.getElem?_set_self hl] at hj
        cases hj
        refine ⟨v, hs, .mk ok fun p m => ?_⟩
        rcases hp p m with m | ⟨m, _⟩
        · exact q.h0 p m
        · exact .inl m
      · rw [List.getElem?_set_ne e] at hj
        obtain ⟨x, ex, qx⟩ := R.slot j u hj
        obtain ⟨a, b⟩ := stay e hj ex
        exact ⟨x, ex, .mk a (by rw [b]; exact qx.h0)⟩
    sep := fun a b u1 u2 x1 x2 p h1 h2 h3 h4 h5 h6 => by
      rcases key h1 h3 with ⟨ea, eb, ec⟩ | ⟨ea, eb⟩
      · subst eb; subst ec
        rcases key h2 h4 with ⟨fa, fb, fc⟩ | ⟨fa, fb⟩
        · omega
        · rw [(stay fa fb h4).2] at h6
          exact (cross fa fb h4 h5 h6).elim
      · rcases key h2 h4 with ⟨fa, fb, fc⟩ | ⟨fa, fb⟩
        · subst fb; subst fc
          rw [(stay ea eb h3).2] at h5
          exact (cross ea eb h3 h6 h5).elim
        · rw [(stay ea eb h3).2] at h5
          rw [(stay fa fb h4).2] at h6
          exact R.sep a b u1 u2 x1 x2 p eb fb h3 h4 h5 h6
    tb := fun t ht' => ⟨tab_free (R.tb t ht').1 (R.tb t ht').2 fun o e => new t.1 o e, tab_map (R.tb t ht').2 (offT t ht')⟩
    bor := fun j hj => by
      refine ⟨(R.bor j hj).1, ?_⟩
      by_cases e : i = j
      · subst e; exact ⟨w', by rw [List.getElem?_set_self hl], hw'⟩
      · rw [List.getElem?_set_ne e]; exact (R.bor j hj).2 }
/-- an own slot's list is written -/
theorem Rel.write {i : Nat} {p : Addr} {xs ys : List Dt} {us : List V} (R : Rel K P F H σ ρ) (h : ρ[i]? = some (some (.own xs))) (hs : σ[i]? = some (some (.ref p))) (hu : Rps K F ys us) :
    Rel K P F (upd H p (.lst us)) σ (ρ.set i (some (.own ys))) := by
  obtain ⟨p', vs, e0, e1, e2, r⟩ := (R.at_ h hs).ok
  cases e0
  refine R.chg h hs rfl (fun b o e m => ?_) (fun b o e => ?_) (.refl _) (fun b o e => ?_) (fun b o e => .inl e) ⟨p, us, rfl, e1, upd_same, hu⟩ fun b m => .inl m
  · rw [upd_ne]
    · exact e
    · intro z; subst z; exact m (List.mem_singleton.mpr rfl)
  · by_cases z : b = p
    · subst z; exact ⟨_, upd_same⟩
    · exact ⟨o, by rw [upd_ne z]; exact e⟩
  · have hb : b ≠ p := fun e' => by subst e'; rw [e1] at e; cases e
    rw [upd_ne hb]; exact R.fh b o e
/-- an own slot (not borrowed) is moved out -/
theorem Rel.out {i : Nat} {w : Wt} (R : Rel K P F H σ ρ) (hi : i ∉ P.bs) (h : ρ[i]? = some (some w)) : ∃ v, σ[i]? = some (some v) ∧ Rel K P F H σ (ρ.set i none) ∧ ResW K P F H σ (ρ.set i none) v w := by
  obtain ⟨v, e, q⟩ := R.slot i _ h
  refine ⟨v, e, R.forget hi, .mk q.ok (fun p m => ?_) fun j u x p hj hx m m' => ?_⟩
  · rcases q.h0 p m with z | ⟨z1, _⟩
    · exact z
    · exact absurd z1 hi
  · obtain ⟨ne, hj⟩ := set_none hj
    exact ne (R.sep i j w u v x p h hj e hx m m')
/-- a new list of one's own -/
theorem ResW.lay {p : Addr} {vs : List V} {ds : List Dt} (R : Rel K P F H σ ρ) (np : H p = none) (hr : Rps K F ds vs) : ResW K P F (upd H p (.lst vs)) σ ρ (.ref p) (.own ds) := by
  have g := Grow.laid (o := .lst vs) R.fh np
  refine ⟨⟨p, vs, rfl, free_of R.fh np, upd_same, hr⟩, fun b m => ?_, fun i u x b hi hs m m' => ?_⟩
  · rw [List.mem_singleton.mp m]; exact R.fresh np
  · rw [((R.at_ hi hs).ok.grow g).2] at m'
    rw [List.mem_singleton.mp m] at m'
    exact R.offNew np hi hs m'
end
end DL
namespace DL
open PySem PySem.Spec PyProof.Rows L2
/-! ### lifting -/
def Xp (K : PySem.W.Frag) (F : Hp) (cls : Value) (dd : Option Addr) (C : Str) (fs : List (Str × Dt)) : Prop :=
  (∃ c : Addr, cls = .ref c ∧ PySem.W.nsIn K mainGlobals C = some (some (.ref c))) ∧ ∃ (a : Addr) (gs : List (Str × V)), dd = some a ∧ F a = some (.xd gs) ∧ gs.map (·.1) = fs.map (·.1) ∧ Rps K F (fs.map (·.2)) (gs.map (·.2))
section
variable (K : PySem.W.Frag) (P : Pt) (Wx : WX)
def postE (σ : L2.St) (F : Hp) (Q : VK) : Option (RD × Rho) → Prop
  | none => False
  | some (.ok d, ρ) => ∀ F' H' v, Same F F' → Rel K P F' H' σ ρ → Rp K F' d v → Q v H'
  | some (.ex C fs, ρ) => ∀ F' H' cls dd, Same F F' → Rel K P F' H' σ ρ → Xp K F' cls dd C fs → Wx cls dd σ H'
def LE (f : FE) : TE := fun σ H Q => ∃ F ρ, Rel K P F H σ ρ ∧ postE K P Wx σ F Q (f ρ)
def postW (σ : L2.St) (F : Hp) (Q : VK) : Option (RW × Rho) → Prop
  | none => False
  | some (.ok w, ρ) => ∀ F' H' v, Same F F' → Rel K P F' H' σ ρ → ResW K P F' H' σ ρ v w → Q v H'
  | some (.ex C fs, ρ) => ∀ F' H' cls dd, Same F F' → Rel K P F' H' σ ρ → Xp K F' cls dd C fs → Wx cls dd σ H'
def LW (f : FW) : TE := fun σ H Q => ∃ F ρ, Rel K P F H σ ρ ∧ postW K P Wx σ F Q (f ρ)
def LT (f : FE) : TT := tB (LE K P Wx f)
end
inductive Av where
  | val (d : Dt) | slot (j : Nat) | tmp (w : Wt)
inductive RA where
  | ok (as : List Av) | ex (C : Str) (fs : List (Str × Dt))
abbrev FA := Rho → Option (RA × Rho)
/-- the arguments' values; a list of its own stands last -/
inductive Avs (K : PySem.W.Frag) (P : Pt) (F H : Hp) (σ : L2.St) (ρ : Rho) : List Av → List V → Prop
  | nil : Avs K P F H σ ρ [] []
  | val {d : Dt} {v : V} {as : List Av} {vs : List V} : Rp K F d v → Avs K P F H σ ρ as vs → Avs K P F H σ ρ (.val d :: as) (v :: vs)
  | slot {j : Nat} {v : V} {as : List Av} {vs : List V} : σ[j]? = some (some v) → Avs K P F H σ ρ as vs → Avs K P F H σ ρ (.slot j :: as) (v :: vs)
  | tmp {v : V} {w : Wt} : w.isOwn = true → ResW K P F H σ ρ v w → Avs K P F H σ ρ [.tmp w] [v]
section
variable (K : PySem.W.Frag) (P : Pt) (Wx : WX)
def postA (σ : L2.St) (F : Hp) (Q : List V → Hp → Prop) : Option (RA × Rho) → Prop
  | none => False
  | some (.ok as, ρ) => ∀ F' H' vs, Same F F' → Rel K P F' H' σ ρ → Avs K P F' H' σ ρ as vs → Q vs H'
  | some (.ex C fs, ρ) => ∀ F' H' cls dd, Same F F' → Rel K P F' H' σ ρ → Xp K F' cls dd C fs → Wx cls dd σ H'
def LA (f : FA) : TA := fun σ H Q => ∃ F ρ, Rel K P F H σ ρ ∧ postA K P Wx σ F Q (f ρ)
def postS (F : Hp) (D : Ends) : Option (Fl × Rho) → Prop
  | none => False
  | some (.nx, ρ) => ∀ F' H' σ, Same F F' → Rel K P F' H' σ ρ → D.nx σ H'
  | some (.bk, ρ) => ∀ F' H' σ, Same F F' → Rel K P F' H' σ ρ → D.bk σ H'
  | some (.ct, ρ) => ∀ F' H' σ, Same F F' → Rel K P F' H' σ ρ → D.ct σ H'
  | some (.rt w, ρ) => ∀ F' H' σ v, Same F F' → Rel K P F' H' σ ρ → ResW K P F' H' σ ρ v w → D.rt v H'
  | some (.ex C fs, ρ) => ∀ F' H' σ cls dd, Same F F' → Rel K P F' H' σ ρ → Xp K F' cls dd C fs → Wx cls dd σ H'
def LS (f : FS) : TS := fun D σ H => ∃ F ρ, Rel K P F H σ ρ ∧ postS K P Wx F D (f ρ)
end
section
variable {X : Cx} {e : Expr} {es : List Expr} {st : Stmt} {sts : List Stmt}
theorem PEm {t t' : TE} (h : PE X e t) (m : ∀ σ H Q, t' σ H Q → t σ H Q) : PE X e t' := ⟨fun pins s σ H Q I q => h.run pins s σ H Q I (m σ H Q q)⟩
theorem PTm {t t' : TT} (h : PT X e t) (m : ∀ σ H Q, t' σ H Q → t σ H Q) : PT X e t' := ⟨fun pins s σ H Q I q => h.run pins s σ H Q I (m σ H Q q)⟩
theorem PWm {t t' : TT} (h : PW X e t) (m : ∀ σ H Q, t' σ H Q → t σ H Q) : PW X e t' := ⟨fun whole pins s σ H Q I q => h.run whole pins s σ H Q I (m σ H Q q)⟩
theorem PAm {t t' : TA} (h : PA X es t) (m : ∀ σ H Q, t' σ H Q → t σ H Q) : PA X es t' := ⟨fun pos pins s σ H Q I q => h.run pos pins s σ H Q I (m σ H Q q)⟩
theorem PSm {t t' : TS} (h : PS X st t) (m : ∀ D σ H, t' D σ H → t D σ H) : PS X st t' := ⟨fun pins s σ H D I q => h.run pins s σ H D I (m D σ H q)⟩
theorem PSsm {t t' : TS} (h : PSs X sts t) (m : ∀ D σ H, t' D σ H → t D σ H) : PSs X sts t' := ⟨fun pins s σ H D I q => h.run pins s σ H D I (m D σ H q)⟩
end
section
variable {K : PySem.W.Frag} {P : Pt} {Wx : WX} {σ : L2.St} {F F1 H : Hp} {ρ : Rho}
theorem postE.mono {Q : VK} (s : Same F F1) {r : Option (RD × Rho)} (h : postE K P Wx σ F Q r) : postE K P Wx σ F1 Q r := by
  match r, h with
  | some (.ok d, ρ), h => exact fun F' H' v a => h F' H' v (s.trans a)
  | some (.ex C fs, ρ), h => exact fun F' H' cls dd a => h F' H' cls dd (s.trans a)
theorem postW.mono {Q : VK} (s : Same F F1) {r : Option (RW × Rho)} (h : postW K P Wx σ F Q r) : postW K P Wx σ F1 Q r := by
  match r, h with
  | some (.ok d, ρ), h => exact fun F' H' v a => h F' H' v (s.trans a)
  | some (.ex C fs, ρ), h => exact fun F' H' cls dd a => h F' H' cls dd (s.trans a)
theorem postA.mono {Q : List V → Hp → Prop} (s : Same F F1) {r : Option (RA × Rho)} (h : postA K P Wx σ F Q r) : postA K P Wx σ F1 Q r := by
  match r, h with
  | some (.ok d, ρ), h => exact fun F' H' v a => h F' H' v (s.trans a)
  | some (.ex C fs, ρ), h => exact fun F' H' cls dd a => h F' H' cls dd (s.trans a)
theorem postS.mono {D : Ends} (s : Same F F1) {r : Option (Fl × Rho)} (h : postS K P Wx F D r) : postS K P Wx F1 D r := by
  match r, h with
  | some (.nx, ρ), h => exact fun F' H' v a => h F' H' v (s.trans a)
  | some (.bk, ρ), h => exact fun F' H' v a => h F' H' v (s.trans a)
  | some (.ct, ρ), h => exact fun F' H' v a => h F' H' v (s.trans a)
  | some (.rt w, ρ), h => exact fun F' H' σ v a => h F' H' σ v (s.trans a)
  | some (.ex C fs, ρ), h => exact fun F' H' σ cls dd a => h F' H' σ cls dd (s.trans a)
/-! ### binding -/
def bindE (f : FE) (k : Dt → FE) : FE := fun ρ => match f ρ with
  | none => none
  | some (.ok d, ρ1) => k d ρ1
  | some (.ex C fs, ρ1) => some (.ex C fs, ρ1)
def bindEW (f : FE) (k : Dt → FW) : FW := fun ρ => match f ρ with
  | none => none
  | some (.ok d, ρ1) => k d ρ1
  | some (.ex C fs, ρ1) => some (.ex C fs, ρ1)
def bindAW (f : FA) (k : List Av → FW) : FW := fun ρ => match f ρ with
  | none => none
  | some (.ok d, ρ1) => k d ρ1
  | some (.ex C fs, ρ1) => some (.ex C fs, ρ1)
def bindAE (f : FA) (k : List Av → FE) : FE := fun ρ => match f ρ with
  | none => none
  | some (.ok d, ρ1) => k d ρ1
  | some (.ex C fs, ρ1) => some (.ex C fs, ρ1)
def bindEA (f : FE) (k : Dt → FA) : FA := fun ρ => match f ρ with
  | none => none
  | some (.ok d, ρ1) => k d ρ1
  | some (.ex C fs, ρ1) => some (.ex C fs, ρ1)
def bindES (f : FE) (k : Dt → FS) : FS := fun ρ => match f ρ with
  | none => none
  | some (.ok d, ρ1) => k d ρ1
  | some (.ex C fs, ρ1) => some (.ex C fs, ρ1)
def bindWS (f : FW) (k : Wt → FS) : FS := fun ρ => match f ρ with
  | none => none
  | some (.ok d, ρ1) => k d ρ1
  | some (.ex C fs, ρ1) => some (.ex C fs, ρ1)
theorem LE.bind {f : FE} {k : Dt → FE} {Q R : VK} (r : Rel K P F H σ ρ) (h : postE K P Wx σ F Q (bindE f k ρ))
    (hk : ∀ d ρ1 F1 H1 v, Same F F1 → Rel K P F1 H1 σ ρ1 → Rp K F1 d v → postE K P Wx σ F1 Q (k d ρ1) → R v H1) : LE K P Wx f σ H R := by
  refine ⟨F, ρ, r, ?_⟩
  unfold bindE at h
  match e : f ρ with
  | none => rw [e] at h; exact h.elim
  | some (.ok d, ρ1) => rw [e] at h; exact fun F' H' v a b c => hk d ρ1 F' H' v a b c (postE.mono a h)
  | some (.ex C fs, ρ1) => rw [e] at h; exact h
theorem LE.bindW {f : FE} {k : Dt → FW} {Q R : VK} (r : Rel K P F H σ ρ) (h : postW K P Wx σ F Q (bindEW f k ρ))
    (hk : ∀ d ρ1 F1 H1 v, Same F F1 → Rel K P F1 H1 σ ρ1 → Rp K F1 d v → postW K P Wx σ F1 Q (k d ρ1) → R v H1) : LE K P Wx f σ H R := by
  refine ⟨F, ρ, r, ?_⟩
  unfold bindEW at h
  match e : f ρ with
  | none => rw [e] at h; exact h.elim
  | some (.ok d, ρ1) => rw [e] at h; exact fun F' H' v a b c => hk d ρ1 F' H' v a b c (postW.mono a h)
  | some (.ex C fs, ρ1) => rw [e] at h; exact h
theorem LE.bindA {f : FE} {k : Dt → FA} {Q : List V → Hp → Prop} {R : VK} (r : Rel K P F H σ ρ) (h : postA K P Wx σ F Q (bindEA f k ρ))
    (hk : ∀ d ρ1 F1 H1 v, Same F F1 → Rel K P F1 H1 σ ρ1 → Rp K F1 d v → postA K P Wx σ F1 Q (k d ρ1) → R v H1) : LE K P Wx f σ H R := by
  refine ⟨F, ρ, r, ?_⟩
  unfold bindEA at h
  match e : f ρ with
  | none => rw [e] at h; exact h.elim
  | some (.ok d, ρ1) => rw [e] at h; exact fun F' H' v a b c => hk d ρ1 F' H' v a b c (postA.mono a h)
  | some (.ex C fs, ρ1) => rw [e] at h; exact h
theorem LE.bindS {f : FE} {k : Dt → FS} {D : Ends} {R : VK} (r : Rel K P F H σ ρ) (h : postS K P Wx F D (bindES f k ρ))
    (hk : ∀ d ρ1 F1 H1 v, Same F F1 → Rel K P F1 H1 σ ρ1 → Rp K F1 d v → postS K P Wx F1 D (k d ρ1) → R v H1) : LE K P Wx f σ H R := by
  refine ⟨F, ρ, r, ?_⟩
  unfold bindES at h
  match e : f ρ with
  | none => rw [e] at h; exact h.elim
  | some (.ok d, ρ1) => rw [e] at h; exact fun F' H' v a b c => hk d ρ1 F' H' v a b c (postS.mono a h)
  | some (.ex C fs, ρ1) => rw [e] at h; exact fun F' H' cls dd a b c => h F' H' σ cls dd a b c
theorem LW.bindS {f : FW} {k : Wt → FS} {D : Ends} {R : VK} (r : Rel K P F H σ ρ) (h : postS K P Wx F D (bindWS f k ρ))
    (hk : ∀ w ρ1 F1 H1 v, Same F F1 → Rel K P F1 H1 σ ρ1 → ResW K P F1 H1 σ ρ1 v w → postS K P Wx F1 D (k w ρ1) → R v H1) : LW K P Wx f σ H R := by
  refine ⟨F, ρ, r, ?_⟩
  unfold bindWS at h
  match e : f ρ with
  | none => rw [e] at h; exact h.elim
  | some (.ok d, ρ1) => rw [e] at h; exact fun F' H' v a b c => hk d ρ1 F' H' v a b c (postS.mono a h)
  | some (.ex C fs, ρ1) => rw [e] at h; exact fun F' H' cls dd a b c => h F' H' σ cls dd a b c
theorem LA.bindW {f : FA} {k : List Av → FW} {Q : VK} {R : List V → Hp → Prop} (r : Rel K P F H σ ρ) (h : postW K P Wx σ F Q (bindAW f k ρ))
    (hk : ∀ as ρ1 F1 H1 vs, Same F F1 → Rel K P F1 H1 σ ρ1 → Avs K P F1 H1 σ ρ1 as vs → postW K P Wx σ F1 Q (k as ρ1) → R vs H1) : LA K P Wx f σ H R := by
  refine ⟨F, ρ, r, ?_⟩
  unfold bindAW at h
  match e : f ρ with
  | none => rw [e] at h; exact h.elim
  | some (.ok d, ρ1) => rw [e] at h; exact fun F' H' v a b c => hk d ρ1 F' H' v a b c (postW.mono a h)
  | some (.ex C fs, ρ1) => rw [e] at h; exact h
theorem LA.bindE {f : FA} {k : List Av → FE} {Q : VK} {R : List V → Hp → Prop} (r : Rel K P F H σ ρ) (h : postE K P Wx σ F Q (bindAE f k ρ))
    (hk : ∀ as ρ1 F1 H1 vs, Same F F1 → Rel K P F1 H1 σ ρ1 → Avs K P F1 H1 σ ρ1 as vs → postE K P Wx σ F1 Q (k as ρ1) → R vs H1) : LA K P Wx f σ H R := by
  refine ⟨F, ρ, r, ?_⟩
  unfold bindAE at h
  match e : f ρ with
  | none => rw [e] at h; exact h.elim
  | some (.ok d, ρ1) => rw [e] at h; exact fun F' H' v a b c => hk d ρ1 F' H' v a b c (postE.mono a h)
  | some (.ex C fs, ρ1) => rw [e] at h; exact h
end
/-! ### expressions -/
def eC (d : Dt) : FE := fun ρ => some (.ok d, ρ)
/-- a value that an operation gives, or none -/
def eV (o : Option Dt) : FE := fun ρ => match o with | some d => some (.ok d, ρ) | none => none
def eVar (i : Nat) : FE := fun ρ => match ρ[i]? with
  | some (some (.sh d)) => some (.ok d, ρ)
  | some (some (.own xs)) => some (.ok (.lst xs), ρ.set i (some (.sh (.lst xs))))
  | some (some (.tr t)) => some (.ok t.dt, ρ.set i (some (.sh t.dt)))
  | _ => none
def wVar (i : Nat) : FW := fun ρ => match ρ[i]? with
  | some (some (.sh d)) => some (.ok (.sh d), ρ)
  | some (some (.own xs)) => some (.ok (.own xs), ρ.set i none)
  | some (some (.tr t)) => some (.ok (.tr t), ρ.set i none)
  | _ => none
def wSh (f : FE) : FW := bindEW f fun d ρ => some (.ok (.sh d), ρ)
def eFrz (f : FW) : FE := fun ρ => match f ρ with
  | none => none
  | some (.ok (.sh d), ρ1) => some (.ok d, ρ1)
  | some (.ok (.own xs), ρ1) => some (.ok (.lst xs), ρ1)
  | some (.ok (.tr t), ρ1) => some (.ok t.dt, ρ1)
  | some (.ex C fs, ρ1) => some (.ex C fs, ρ1)
def eOp (o : Dt → Dt → Option Dt) (fa fb : FE) : FE := bindE fa fun d => bindE fb fun e => eV (o d e)
def eUn (o : Dt → Option Dt) (fa : FE) : FE := bindE fa fun d => eV (o d)
def eIte (c a b : FE) : FE := bindE c fun d => match d with
  | .bl true => a
  | .bl false => b
  | _ => fun _ => none
def wIte (c : FE) (a b : FW) : FW := bindEW c fun d => match d with
  | .bl true => a
  | .bl false => b
  | _ => fun _ => none
def eAnd (a b : FE) : FE := eIte a b (eC (.bl false))
def eOr (a b : FE) : FE := eIte a (eC (.bl true)) b
def dNot : Dt → Option Dt
  | .bl b => some (.bl (!b))
  | _ => none
def eNot (a : FE) : FE := eUn dNot a
def OpD (K : PySem.W.Frag) (r : R2) (o : Dt → Dt → Option Dt) : Prop :=
  ∀ d e g, o d e = some g → ∀ (F H : Hp) (x y : V) (Q : VK), Same F H → Rp K F d x → Rp K F e y → (∀ F' H' z, Grow F H F' H' → Rp K F' g z → Q z H') → r x y H Q
def UnD (K : PySem.W.Frag) (r : V → Hp → VK → Prop) (o : Dt → Option Dt) : Prop :=
  ∀ d g, o d = some g → ∀ (F H : Hp) (x : V) (Q : VK), Same F H → Rp K F d x → (∀ F' H' z, Grow F H F' H' → Rp K F' g z → Q z H') → r x H Q
section
variable {X : Cx} {P : Pt} {Wx : WX} {pos : Pos} {a b c : Expr} {fa fb fc : FE}
theorem LE_c {d : Dt} {v : V} (hv : ∀ F : Hp, Rp X.K F d v) {σ : L2.St} {H : Hp} {Q : VK} (h : LE X.K P Wx (eC d) σ H Q) : Q v H := by
  obtain ⟨F, ρ, r, q⟩ := h
  exact q F H v (.refl _) r (hv F)
theorem d_int {i : Int} {j : Nat} : PE X (.Constant (.int i) j pos) (LE X.K P Wx (eC (.int i))) := PEm pe_int fun _ _ _ h => LE_c (fun _ => .int i) h
theorem d_bl {i : Bool} {j : Nat} : PE X (.Constant (.bool i) j pos) (LE X.K P Wx (eC (.bl i))) := PEm pe_bl fun _ _ _ h => LE_c (fun _ => .bl i) h
theorem d_str {i : Str} {j : Nat} : PE X (.Constant (.str i) j pos) (LE X.K P Wx (eC (.str i))) := PEm pe_str fun _ _ _ h => LE_c (fun _ => .str i) h
theorem d_non {j : Nat} : PE X (.Constant .none j pos) (LE X.K P Wx (eC .non)) := PEm pe_non fun _ _ _ h => LE_c (fun _ => .non) h
/-- a module's name -/
theorem d_glob {x : Str} {v : V} {u : Value} {d : Dt} (hg : Gl X x) (hm : X.mg x = some u) (r : RelV v u) (hv : ∀ F : Hp, Rp X.K F d v) (hd : (x == ("__debug__" : Str)) = false := by decide) : PE X (.Name x pos) (LE X.K P Wx (eC d)) := PEm (pe_glob hg hm r hd) fun _ _ _ h => LE_c hv h
theorem d_var (i : Nat) {x : Str} (hi : i ∉ P.bs) (hN : X.N[i]? = some x := by rfl) (hv : Vis X.env.scope x := by first | exact Or.inl rfl | exact Or.inr (Or.inl rfl) | exact Or.inr (Or.inr rfl)) (hd : (x == ("__debug__" : Str)) = false := by decide)
    (hcd : (x == ("__classdict__" : Str)) = false := by decide) : PE X (.Name x pos) (LE X.K P Wx (eVar i)) := PEm (pe_var hN hv hd hcd) fun σ H Q h => by
  obtain ⟨F, ρ, r, q⟩ := h
  have go : ∀ w : Wt, ρ[i]? = some (some w) → postE X.K P Wx σ F Q (some (.ok (frz w), ρ.set i (some (.sh (frz w))))) → ∃ v, σ[i]? = some (some v) ∧ Q v H := fun w e q => by
    obtain ⟨v, ev, r1, rw⟩ := r.out hi e
    obtain ⟨F1, s1, r2, rp⟩ := rw.freeze r1
    refine ⟨v, ev, q F1 H v s1 ?_ rp⟩
    have hl : i < ρ.length := (List.getElem?_eq_some_iff.mp e).1
    have r3 := Rel.asg (i := i) (v := v) (w := .sh (frz w)) r2 hi rp
    have e1 : σ.set i (some v) = σ := by
      apply List.ext_getElem?
      intro k
      by_cases hk : i = k
      · subst hk
        rw [List.getElem?_set_self (by rw [← r.len]; exact hl), ev]
      · rw [List.getElem?_set_ne hk]
    rw [e1, List.set_set] at r3
    exact r3
  unfold eVar at q
  match e : ρ[i]? with
  | none => rw [e] at q; exact q.elim
  | some none => rw [e] at q; exact q.elim
  | some (some (.sh d)) =>
    rw [e] at q
    obtain ⟨v, ev, hv⟩ := r.slot i _ e
    exact ⟨v, ev, q F H v (.refl _) r hv⟩
  | some (some (.own xs)) =>
    rw [e] at q
    exact go (.own xs) e q
  | some (some (.tr t)) =>
    rw [e] at q
    exact go (.tr t) e q
theorem w_var (i : Nat) {x : Str} (hi : i ∉ P.bs) (hN : X.N[i]? = some x := by rfl) (hv : Vis X.env.scope x := by first | exact Or.inl rfl | exact Or.inr (Or.inl rfl) | exact Or.inr (Or.inr rfl)) (hd : (x == ("__debug__" : Str)) = false := by decide)
    (hcd : (x == ("__classdict__" : Str)) = false := by decide) : PE X (.Name x pos) (LW X.K P Wx (wVar i)) := PEm (pe_var hN hv hd hcd) fun σ H Q h => by
  obtain ⟨F, ρ, r, q⟩ := h
  unfold wVar at q
  match e : ρ[i]? with
  | none => rw [e] at q; exact q.elim
  | some none => rw [e] at q; exact q.elim
  | some (some (.sh d)) =>
    rw [e] at q
    obtain ⟨v, ev, hv⟩ := r.slot i _ e
    exact ⟨v, ev, q F H v (.refl _) r hv⟩
  | some (some (.own xs)) =>
    rw [e] at q
    obtain ⟨v, ev, r1, rw⟩ := r.out hi e
    exact ⟨v, ev, q F H v (.refl _) r1 rw⟩
  | some (some (.tr t)) =>
    rw [e] at q
    obtain ⟨v, ev, r1, rw⟩ := r.out hi e
    exact ⟨v, ev, q F H v (.refl _) r1 rw⟩
theorem w_sh (ha : PE X a (LE X.K P Wx fa)) : PE X a (LW X.K P Wx (wSh fa)) := PEm ha fun σ H Q h => by
  obtain ⟨F, ρ, r, q⟩ := h
  exact LE.bindW r q fun d ρ1 F1 H1 v s1 r1 p1 q1 => q1 F1 H1 v (.refl _) r1 p1
theorem d_frz {f : FW} (ha : PE X a (LW X.K P Wx f)) : PE X a (LE X.K P Wx (eFrz f)) := PEm ha fun σ H Q h => by
  obtain ⟨F, ρ, r, q⟩ := h
  refine ⟨F, ρ, r, ?_⟩
  unfold eFrz at q
  match e : f ρ with
  | none => rw [e] at q; exact q.elim
  | some (.ok (.sh d), ρ1) => rw [e] at q; exact q
  | some (.ok (.own xs), ρ1) =>
    rw [e] at q
    intro F1 H1 v s1 r1 p1
    obtain ⟨F2, s2, r2, rp⟩ := p1.freeze r1
    exact q F2 H1 v (s1.trans s2) r2 rp
  | some (.ok (.tr t), ρ1) =>
    rw [e] at q
    intro F1 H1 v s1 r1 p1
    obtain ⟨F2, s2, r2, rp⟩ := p1.freeze r1
    exact q F2 H1 v (s1.trans s2) r2 rp
  | some (.ex C fs, ρ1) => rw [e] at q; exact q
theorem LE_op {r : R2} {o : Dt → Dt → Option Dt} (hr : OpD X.K r o) {σ : L2.St} {H : Hp} {Q : VK} (h : LE X.K P Wx (eOp o fa fb) σ H Q) : tOp r (LE X.K P Wx fa) (LE X.K P Wx fb) σ H Q := by
  obtain ⟨F, ρ, rr, q⟩ := h
  refine LE.bind rr q fun d ρ1 F1 H1 x s1 r1 p1 q1 => ?_
  refine LE.bind r1 q1 fun e ρ2 F2 H2 y s2 r2 p2 q2 => ?_
  cases eo : o d e with
  | none => rw [eo] at q2; exact q2.elim
  | some g =>
    rw [eo] at q2
    exact hr d e g eo F2 H2 x y Q r2.fh (p1.mono s2) p2 fun F' H' z g' pz => q2 F' H' z g'.f (r2.grow g') pz
theorem d_op {op : Operator} {r : R2} {o : Dt → Dt → Option Dt} (ho : OpR X (binaryOp op) r) (hr : OpD X.K r o) (ha : PE X a (LE X.K P Wx fa)) (hb : PE X b (LE X.K P Wx fb)) : PE X (.BinOp a op b pos) (LE X.K P Wx (eOp o fa fb)) :=
  PEm (pe_op ho ha hb) fun _ _ _ h => LE_op hr h
theorem d_ix {r : R2} {o : Dt → Dt → Option Dt} (ho : IxR X r) (hr : OpD X.K r o) (ha : PE X a (LE X.K P Wx fa)) (hb : PE X b (LE X.K P Wx fb)) (hs : PlainIx b) : PE X (.Subscript a b pos) (LE X.K P Wx (eOp o fa fb)) :=
  PEm (pe_ix ho ha hb hs) fun _ _ _ h => LE_op hr h
theorem d_cmp {op : CmpOp} {r : R2} {o : Dt → Dt → Option Dt} (ho : OpR X (compareOp op) r) (hr : OpD X.K r o) (ha : PE X a (LE X.K P Wx fa)) (hb : PE X b (LE X.K P Wx fb)) (hm : behindInMarks op b = false) : PE X (.Compare a [op] [b] pos) (LE X.K P Wx (eOp o fa fb)) :=
  PEm (pe_cmpR ho ha hb hm) fun _ _ _ h => LE_op hr h
theorem LE_un {r : V → Hp → VK → Prop} {o : Dt → Option Dt} (hr : UnD X.K r o) {σ : L2.St} {H : Hp} {Q : VK} (h : LE X.K P Wx (eUn o fa) σ H Q) : tUn r (LE X.K P Wx fa) σ H Q := by
  obtain ⟨F, ρ, rr, q⟩ := h
  refine LE.bind rr q fun d ρ1 F1 H1 x s1 r1 p1 q1 => ?_
  cases eo : o d with
  | none => rw [eo] at q1; exact q1.elim
  | some g =>
    rw [eo] at q1
    exact hr d g eo F1 H1 x Q r1.fh p1 fun F' H' z g' pz => q1 F' H' z g'.f (r1.grow g') pz
theorem d_un {op : UnaryOp} {r : V → Hp → VK → Prop} {o : Dt → Option Dt} (ho : UnR X (unaryOp op) r) (hr : UnD X.K r o) (ha : PE X a (LE X.K P Wx fa)) : PE X (.UnaryOp op a pos) (LE X.K P Wx (eUn o fa)) :=
  PEm (pe_un ho ha) fun _ _ _ h => LE_un hr h
/-! tests -/
theorem t_val (ha : PE X a (LE X.K P Wx fa)) (he : ∀ whole, isTrue a X.env whole = (do let v ← whole; standAt a.pos; holding [v] (truthy v)) := by intro _; rfl) : PT X a (LT X.K P Wx fa) := pt_val ha he
theorem t_cmp {op : CmpOp} {r : R2} {o : Dt → Dt → Option Dt} (ho : OpR X (compareOp op) r) (hr : OpD X.K r o) (ha : PE X a (LE X.K P Wx fa)) (hb : PE X b (LE X.K P Wx fb)) (hm : behindInMarks op b = false) : PT X (.Compare a [op] [b] pos) (LT X.K P Wx (eOp o fa fb)) :=
  PTm (pt_cmpR ho ha hb hm) fun _ _ _ h => LE_op hr h
/-- a test's two ways -/
theorem LT.ite {fd : FE} {k1 k2 : FE} {σ : L2.St} {H : Hp} {Q : VK} {R : Bool → Hp → Prop} {F : Hp} {ρ : Rho} (r : Rel X.K P F H σ ρ) (h : postE X.K P Wx σ F Q (eIte fd k1 k2 ρ))
    (hk : ∀ c ρ1 F1 H1, Same F F1 → Rel X.K P F1 H1 σ ρ1 → postE X.K P Wx σ F1 Q ((if c = true then k1 else k2) ρ1) → R c H1) : LT X.K P Wx fd σ H R := by
  refine LE.bind r h fun d ρ1 F1 H1 v s1 r1 p1 q1 => ?_
  cases p1 with
  | bl c =>
    refine ⟨c, rfl, hk c ρ1 F1 H1 s1 r1 ?_⟩
    cases c <;> exact q1
  | _ => exact q1.elim
theorem t_and (ha : PT X a (LT X.K P Wx fa)) {rest : List Expr} (hb : PW X (.BoolOp .And (b :: rest) pos) (LT X.K P Wx fb)) : PW X (.BoolOp .And (a :: b :: rest) pos) (LT X.K P Wx (eAnd fa fb)) :=
  PWm (pw_and ha hb) fun σ H Q h => by
    obtain ⟨F, ρ, r, q⟩ := h
    refine LT.ite r q fun c ρ1 F1 H1 s1 r1 q1 => ?_
    cases c with
    | true => exact ⟨F1, ρ1, r1, q1⟩
    | false =>
      obtain ⟨k, e1, e2⟩ := q1 F1 H1 (.bl false) (.refl _) r1 (.bl false)
      cases e1
      exact e2
theorem t_or (ha : PT X a (LT X.K P Wx fa)) {rest : List Expr} (hb : PW X (.BoolOp .Or (b :: rest) pos) (LT X.K P Wx fb)) : PW X (.BoolOp .Or (a :: b :: rest) pos) (LT X.K P Wx (eOr fa fb)) :=
  PWm (pw_or ha hb) fun σ H Q h => by
    obtain ⟨F, ρ, r, q⟩ := h
    refine LT.ite r q fun c ρ1 F1 H1 s1 r1 q1 => ?_
    cases c with
    | false => exact ⟨F1, ρ1, r1, q1⟩
    | true =>
      obtain ⟨k, e1, e2⟩ := q1 F1 H1 (.bl true) (.refl _) r1 (.bl true)
      cases e1
      exact e2
theorem t_not (ha : PT X a (LT X.K P Wx fa)) : PT X (.UnaryOp .Not a pos) (LT X.K P Wx (eNot fa)) :=
  PTm (pt_not ha) fun σ H Q h => by
    obtain ⟨F, ρ, r, q⟩ := h
    refine LE.bind r q fun d ρ1 F1 H1 v s1 r1 p1 q1 => ?_
    cases p1 with
    | bl c =>
      obtain ⟨k, e1, e2⟩ := q1 F1 H1 (.bl (!c)) (.refl _) r1 (.bl (!c))
      cases e1
      exact ⟨c, rfl, e2⟩
    | _ => exact q1.elim
theorem d_not (ha : PE X a (LE X.K P Wx fa)) : PE X (.UnaryOp .Not a pos) (LE X.K P Wx (eNot fa)) :=
  PEm (pe_not ha) fun σ H Q h => by
    obtain ⟨F, ρ, r, q⟩ := h
    refine LE.bind r q fun d ρ1 F1 H1 v s1 r1 p1 q1 => ?_
    cases p1 with
    | bl c => exact ⟨c, rfl, q1 F1 H1 (.bl (!c)) (.refl _) r1 (.bl (!c))⟩
    | _ => exact q1.elim
theorem d_and (ha : PE X a (LE X.K P Wx fa)) {rest : List Expr} (hb : PE X (.BoolOp .And (b :: rest) pos) (LE X.K P Wx fb)) : PE X (.BoolOp .And (a :: b :: rest) pos) (LE X.K P Wx (eAnd fa fb)) :=
  PEm (pe_and ha hb) fun σ H Q h => by
    obtain ⟨F, ρ, r, q⟩ := h
    refine LT.ite r q fun c ρ1 F1 H1 s1 r1 q1 => ?_
    cases c with
    | true => exact ⟨F1, ρ1, r1, q1⟩
    | false => exact q1 F1 H1 (.bl false) (.refl _) r1 (.bl false)
theorem d_or (ha : PE X a (LE X.K P Wx fa)) {rest : List Expr} (hb : PE X (.BoolOp .Or (b :: rest) pos) (LE X.K P Wx fb)) : PE X (.BoolOp .Or (a :: b :: rest) pos) (LE X.K P Wx (eOr fa fb)) :=
  PEm (pe_or ha hb) fun σ H Q h => by
    obtain ⟨F, ρ, r, q⟩ := h
    refine LT.ite r q fun c ρ1 F1 H1 s1 r1 q1 => ?_
    cases c with
    | false => exact ⟨F1, ρ1, r1, q1⟩
    | true => exact q1 F1 H1 (.bl true) (.refl _) r1 (.bl true)
theorem d_one {op : BoolOp} (ha : PE X a (LE X.K P Wx fa)) : PE X (.BoolOp op [a] pos) (LE X.K P Wx fa) := pe_one ha
theorem d_ite (hc : PT X c (LT X.K P Wx fc)) (ha : PE X a (LE X.K P Wx fa)) (hb : PE X b (LE X.K P Wx fb)) : PE X (.IfExp c a b pos) (LE X.K P Wx (eIte fc fa fb)) :=
  PEm (pe_ifExp hc ha hb) fun σ H Q h => by
    obtain ⟨F, ρ, r, q⟩ := h
    refine LT.ite r q fun c ρ1 F1 H1 s1 r1 q1 => ?_
    cases c with
    | false => exact ⟨F1, ρ1, r1, q1⟩
    | true => exact ⟨F1, ρ1, r1, q1⟩
theorem w_ite {wa wb : FW} (hc : PT X c (LT X.K P Wx fc)) (ha : PE X a (LW X.K P Wx wa)) (hb : PE X b (LW X.K P Wx wb)) : PE X (.IfExp c a b pos) (LW X.K P Wx (wIte fc wa wb)) :=
  PEm (pe_ifExp hc ha hb) fun σ H Q h => by
    obtain ⟨F, ρ, r, q⟩ := h
    refine LE.bindW r q fun d ρ1 F1 H1 v s1 r1 p1 q1 => ?_
    cases p1 with
    | bl c =>
      refine ⟨c, rfl, ?_⟩
      cases c with
      | false => exact ⟨F1, ρ1, r1, q1⟩
      | true => exact ⟨F1, ρ1, r1, q1⟩
    | _ => exact q1.elim
/-! chains -/
def eChain (o o' : Dt → Dt → Option Dt) (fa fb fc : FE) : FE := bindE fa fun d => bindE fb fun e => bindE (eV (o d e)) fun g => match g with
  | .bl true => bindE fc fun f => eV (o' e f)
  | .bl false => eC (.bl false)
  | _ => fun _ => none
end
end DL
namespace DL
open PySem PySem.Spec PyProof.Rows L2
section
variable {X : Cx} {P : Pt} {Wx : WX} {pos : Pos} {a b c : Expr} {fa fb fc : FE}
theorem LE_chain {r r' : R2} {o o' : Dt → Dt → Option Dt} (hr : OpD X.K r o) (hr' : OpD X.K r' o') {σ : L2.St} {H : Hp} {Q : VK} (h : LE X.K P Wx (eChain o o' fa fb fc) σ H Q) : tChain r r' (LE X.K P Wx fa) (LE X.K P Wx fb) (LE X.K P Wx fc) σ H Q := by
  obtain ⟨F, ρ, rr, q⟩ := h
  refine LE.bind rr q fun d ρ1 F1 H1 x s1 r1 p1 q1 => ?_
  refine LE.bind r1 q1 fun e ρ2 F2 H2 y s2 r2 p2 q2 => ?_
  cases eo : o d e with
  | none => rw [eo] at q2; exact q2.elim
  | some g =>
    rw [eo] at q2
    refine hr d e g eo F2 H2 x y _ r2.fh (p1.mono s2) p2 fun F3 H3 z g3 pz => ?_
    have r3 := r2.grow g3
    cases pz with
    | bl k =>
      refine ⟨k, rfl, ?_⟩
      cases k with
      | false => exact q2 F3 H3 (.bl false) g3.f r3 (.bl false)
      | true =>
        refine LE.bind r3 (postE.mono g3.f q2) fun f ρ4 F4 H4 w s4 r4 p4 q4 => ?_
        cases eo' : o' e f with
        | none => rw [eo'] at q4; exact q4.elim
        | some g' =>
          rw [eo'] at q4
          exact hr' e f g' eo' F4 H4 y w Q r4.fh (p2.mono (g3.f.trans s4)) p4 fun F' H' z g'' pz => q4 F' H' z g''.f (r4.grow g'') pz
    | _ => exact q2.elim
theorem d_chain {op op' : CmpOp} {r r' : R2} {o o' : Dt → Dt → Option Dt} (ho : OpR X (compareOp op) r) (hr : OpD X.K r o) (ho' : OpR X (compareOp op') r') (hr' : OpD X.K r' o') (ha : PE X a (LE X.K P Wx fa)) (hb : PE X b (LE X.K P Wx fb)) (hc : PE X c (LE X.K P Wx fc))
    (hm : lastMarks [op, op'] [b, c] = false := by with_unfolding_all rfl) : PE X (.Compare a [op, op'] [b, c] pos) (LE X.K P Wx (eChain o o' fa fb fc)) :=
  PEm (pe_chain ho ho' ha hb hc hm) fun _ _ _ h => LE_chain hr hr' h
theorem t_chain {op op' : CmpOp} {r r' : R2} {o o' : Dt → Dt → Option Dt} (ho : OpR X (compareOp op) r) (hr : OpD X.K r o) (ho' : OpR X (compareOp op') r') (hr' : OpD X.K r' o') (ha : PE X a (LE X.K P Wx fa)) (hb : PE X b (LE X.K P Wx fb)) (hc : PE X c (LE X.K P Wx fc))
    (hm : lastMarks [op, op'] [b, c] = false := by with_unfolding_all rfl) : PT X (.Compare a [op, op'] [b, c] pos) (LT X.K P Wx (eChain o o' fa fb fc)) :=
  PTm (pt_chain ho ho' ha hb hc hm) fun _ _ _ h => LE_chain hr hr' h
end
/-! ### arguments -/
def aNil : FA := fun ρ => some (.ok [], ρ)
def aVal (f : FE) (r : FA) : FA := bindEA f fun d ρ => match r ρ with
  | none => none
  | some (.ok as, ρ1) => some (.ok (.val d :: as), ρ1)
  | some (.ex C fs, ρ1) => some (.ex C fs, ρ1)
def aSlot (j : Nat) (r : FA) : FA := fun ρ => match ρ[j]? with
  | some (some (.own _)) => (match r ρ with
    | none => none
    | some (.ok as, ρ1) => some (.ok (.slot j :: as), ρ1)
    | some (.ex C fs, ρ1) => some (.ex C fs, ρ1))
  | some (some (.tr _)) => (match r ρ with
    | none => none
    | some (.ok as, ρ1) => some (.ok (.slot j :: as), ρ1)
    | some (.ex C fs, ρ1) => some (.ex C fs, ρ1))
  | _ => none
/-- a list of its own, the last argument -/
def aTmp (f : FW) : FA := fun ρ => match f ρ with
  | none => none
  | some (.ok (.own xs), ρ1) => some (.ok [.tmp (.own xs)], ρ1)
  | some (.ok (.tr t), ρ1) => some (.ok [.tmp (.tr t)], ρ1)
  | some (.ok (.sh d), ρ1) => some (.ok [.val d], ρ1)
  | some (.ex C fs, ρ1) => some (.ex C fs, ρ1)
def vals : List Av → Option (List Dt)
  | [] => some []
  | .val d :: as => match vals as with
    | some ds => some (d :: ds)
    | none => none
  | .slot _ :: _ => none
  | .tmp _ :: _ => none
theorem vals_ok {K : PySem.W.Frag} {P : Pt} {F H : Hp} {σ : L2.St} {ρ : Rho} : ∀ {as : List Av} {vs : List V} {ds : List Dt}, Avs K P F H σ ρ as vs → vals as = some ds → Rps K F ds vs
  | _, _, _, .nil, e => by cases e; exact .nil
  | _, _, ds, .val h r, e => by
    unfold vals at e
    cases q : vals _ with
    | none => rw [q] at e; cases e
    | some es => rw [q] at e; cases e; exact .cons h (vals_ok r q)
  | _, _, _, .slot _ _, e => by cases e
  | _, _, _, .tmp _ _, e => by cases e
section
variable {X : Cx} {P : Pt} {Wx : WX} {pos : Pos} {e : Expr} {es : List Expr} {f : FE} {r : FA}
theorem a_nil : PA X [] (LA X.K P Wx aNil) := PAm pa_nil fun σ H Q h => by
  obtain ⟨F, ρ, r, q⟩ := h
  exact q F H [] (.refl _) r .nil
theorem a_val (he : PE X e (LE X.K P Wx f)) (hr : PA X es (LA X.K P Wx r)) (hs : starEach (e :: es) X.env = (false, eval e X.env) :: starEach es X.env := by rfl) : PA X (e :: es) (LA X.K P Wx (aVal f r)) :=
  PAm (pa_cons he hr hs) fun σ H Q h => by
    obtain ⟨F, ρ, rr, q⟩ := h
    refine LE.bindA rr q fun d ρ1 F1 H1 v s1 r1 p1 q1 => ⟨F1, ρ1, r1, ?_⟩
    match e : r ρ1 with
    | none => simp only [e] at q1; exact q1.elim
    | some (.ok as, ρ2) =>
      simp only [e] at q1
      exact fun F2 H2 vs s2 r2 p2 => q1 F2 H2 (v :: vs) s2 r2 (.val (p1.mono s2) p2)
    | some (.ex C fs, ρ2) => simp only [e] at q1; exact q1
theorem a_slot (j : Nat) {x : Str} (hr : PA X es (LA X.K P Wx r)) (hN : X.N[j]? = some x := by rfl) (hv : Vis X.env.scope x := by first | exact Or.inl rfl | exact Or.inr (Or.inl rfl) | exact Or.inr (Or.inr rfl)) (hd : (x == ("__debug__" : Str)) = false := by decide)
    (hcd : (x == ("__classdict__" : Str)) = false := by decide) (hs : starEach (.Name x pos :: es) X.env = (false, eval (.Name x pos) X.env) :: starEach es X.env := by rfl) : PA X (.Name x pos :: es) (LA X.K P Wx (aSlot j r)) :=
  PAm (pa_cons (pe_var hN hv hd hcd) hr hs) fun σ H Q h => by
    obtain ⟨F, ρ, rr, q⟩ := h
    unfold aSlot at q
    match e : ρ[j]? with
    | none => simp only [e] at q; exact q.elim
    | some none => simp only [e] at q; exact q.elim
    | some (some (.sh d)) => simp only [e] at q; exact q.elim
    | some (some (.own xs)) =>
      simp only [e] at q
      obtain ⟨v, ev, _⟩ := rr.slot j _ e
      refine ⟨v, ev, F, ρ, rr, ?_⟩
      match e2 : r ρ with
      | none => simp only [e2] at q; exact q.elim
      | some (.ok as, ρ2) =>
        simp only [e2] at q
        exact fun F2 H2 vs s2 r2 p2 => q F2 H2 (v :: vs) s2 r2 (.slot ev p2)
      | some (.ex C fs, ρ2) => simp only [e2] at q; exact q
    | some (some (.tr xs)) =>
      simp only [e] at q
      obtain ⟨v, ev, _⟩ := rr.slot j _ e
      refine ⟨v, ev, F, ρ, rr, ?_⟩
      match e2 : r ρ with
      | none => simp only [e2] at q; exact q.elim
      | some (.ok as, ρ2) =>
        simp only [e2] at q
        exact fun F2 H2 vs s2 r2 p2 => q F2 H2 (v :: vs) s2 r2 (.slot ev p2)
      | some (.ex C fs, ρ2) => simp only [e2] at q; exact q
theorem a_tmp {f : FW} (he : PE X e (LW X.K P Wx f)) (hs : starEach [e] X.env = [(false, eval e X.env)] := by rfl) : PA X [e] (LA X.K P Wx (aTmp f)) :=
  PAm (pa_cons he pa_nil (by rw [hs]; rfl)) fun σ H Q h => by
    obtain ⟨F, ρ, rr, q⟩ := h
    refine ⟨F, ρ, rr, ?_⟩
    unfold aTmp at q
    match e : f ρ with
    | none => simp only [e] at q; exact q.elim
    | some (.ok (.own xs), ρ1) => simp only [e] at q; exact fun F1 H1 v s1 r1 p1 => q F1 H1 [v] s1 r1 (.tmp rfl p1)
    | some (.ok (.tr t), ρ1) => simp only [e] at q; exact fun F1 H1 v s1 r1 p1 => q F1 H1 [v] s1 r1 (.tmp rfl p1)
    | some (.ok (.sh d), ρ1) => simp only [e] at q; exact fun F1 H1 v s1 r1 p1 => q F1 H1 [v] s1 r1 (.val p1 .nil)
    | some (.ex C fs, ρ1) => simp only [e] at q; exact q
end
theorem sz1000 {n : Nat} (h : n ≤ 100000) : n ≤ sizeLine := Nat.le_trans h (by decide)
theorem sz1000' {n : Nat} (h : n < 100000) : n < sizeLine := Nat.lt_of_lt_of_le h (by decide)
def eTup (f : FA) : FE := bindAE f fun as => match vals as with
  | some ds => if ds.length ≤ 100000 then eC (.tup ds) else fun _ => none
  | none => fun _ => none
def wLst (f : FA) : FW := bindAW f fun as ρ => match vals as with
  | some ds => if ds.length ≤ 100000 then some (.ok (.own ds), ρ) else none
  | none => none
section
variable {X : Cx} {P : Pt} {Wx : WX} {pos : Pos} {es : List Expr} {f : FA}
theorem d_tup {x1 : Nat} (h : PA X es (LA X.K P Wx f)) : PE X (.Tuple es x1 pos) (LE X.K P Wx (eTup f)) := PEm (pe_tup h) fun σ H Q h => by
  obtain ⟨F, ρ, r, q⟩ := h
  refine LA.bindE r q fun as ρ1 F1 H1 vs s1 r1 p1 q1 => ?_
  cases e : vals as with
  | none => simp only [e] at q1; exact q1.elim
  | some ds =>
    simp only [e] at q1
    have hr := vals_ok p1 e
    by_cases hl : ds.length ≤ 100000
    · rw [if_pos hl] at q1
      refine ⟨by rw [← hr.length]; exact sz1000 hl, fun p np => ?_⟩
      have g := Grow.lay (o := .tup vs) r1.fh np
      exact q1 _ _ (.ref p) g.f (r1.grow g) (.tup (.inl (.inl upd_same)) (hr.mono g.f))
    · rw [if_neg hl] at q1; exact q1.elim
theorem w_lst (h : PA X es (LA X.K P Wx f)) : PE X (.List es pos) (LW X.K P Wx (wLst f)) := PEm (pe_lst h) fun σ H Q h => by
  obtain ⟨F, ρ, r, q⟩ := h
  refine LA.bindW r q fun as ρ1 F1 H1 vs s1 r1 p1 q1 => ?_
  cases e : vals as with
  | none => simp only [e] at q1; exact q1.elim
  | some ds =>
    simp only [e] at q1
    have hr := vals_ok p1 e
    by_cases hl : ds.length ≤ 100000
    · rw [if_pos hl] at q1
      refine ⟨by rw [← hr.length]; exact sz1000 hl, fun p np => ?_⟩
      have g := Grow.laid (o := .lst vs) r1.fh np
      refine q1 _ _ (.ref p) g.f (r1.grow g) ⟨⟨p, vs, rfl, free_of r1.fh np, upd_same, hr⟩, fun b m => ?_, fun i u x b hi hs m m' => ?_⟩
      · rw [List.mem_singleton.mp m]; exact r1.fresh np
      · rw [((r1.at_ hi hs).ok.grow g).2] at m'
        rw [List.mem_singleton.mp m] at m'
        exact r1.offNew np hi hs m'
    · rw [if_neg hl] at q1; exact q1.elim
end
/-! ### builtins and methods by values -/
def CallD (K : PySem.W.Frag) (r : List V → Hp → VK → Prop) (o : List Dt → Option Dt) : Prop :=
  ∀ ds g, o ds = some g → ∀ (F H : Hp) (vs : List V) (Q : VK), Same F H → Rps K F ds vs → (∀ F' H' z, Grow F H F' H' → Rp K F' g z → Q z H') → r vs H Q
def eCB (o : List Dt → Option Dt) (f : FA) : FE := bindAE f fun as => match vals as with
  | some ds => eV (o ds)
  | none => fun _ => none
def MtD (K : PySem.W.Frag) (T : String) (r : V → List V → Hp → VK → Prop) (o : Dt → List Dt → Option Dt) : Prop :=
  ∀ d ds g, o d ds = some g → ∀ (F H : Hp) (x : V) (vs : List V) (Q : VK), Same F H → Rp K F d x → Rps K F ds vs → (∀ F' H' z, Grow F H F' H' → Rp K F' g z → Q z H') → r x vs H Q
def TyD (K : PySem.W.Frag) (T : String) (t : Dt → Bool) : Prop := ∀ d, t d = true → ∀ (F H : Hp) (x : V), Same F H → Rp K F d x → tyV K T x H
def eBM (t : Dt → Bool) (o : Dt → List Dt → Option Dt) (fo : FE) (f : FA) : FE := bindE fo fun d => if t d = true then bindAE f fun as => (match vals as with
  | some ds => eV (o d ds)
  | none => fun _ => none) else fun _ => none
section
variable {X : Cx} {P : Pt} {Wx : WX} {pos : Pos} {es : List Expr} {e : Expr} {f : FA}
theorem LA_cb {r : List V → Hp → VK → Prop} {o : List Dt → Option Dt} (hr : CallD X.K r o) {σ : L2.St} {H : Hp} {Q : VK} (h : LE X.K P Wx (eCB o f) σ H Q) : tCB r (LA X.K P Wx f) σ H Q := by
  obtain ⟨F, ρ, rr, q⟩ := h
  refine LA.bindE rr q fun as ρ1 F1 H1 vs s1 r1 p1 q1 => ?_
  cases e : vals as with
  | none => simp only [e] at q1; exact q1.elim
  | some ds =>
    simp only [e] at q1
    cases eo : o ds with
    | none => rw [eo] at q1; exact q1.elim
    | some g =>
      rw [eo] at q1
      exact hr ds g eo F1 H1 vs Q r1.fh (vals_ok p1 e) fun F' H' z g' pz => q1 F' H' z g'.f (r1.grow g') pz
theorem d_cb {x : Str} {id : String} {p : Pos} {r : List V → Hp → VK → Prop} {o : List Dt → Option Dt} (hr : CallD X.K r o) (hc : CallR X (.builtin id) r) (hg : Gl X x) (hm : X.mg x = none) (hv : bootBuiltins x = some (.builtin id)) (ha : PA X (e :: es) (LA X.K P Wx f))
    (hn : x ≠ "__name__" := by decide) (hdb : (x == ("__debug__" : Str)) = false := by decide) (he : starEach (e :: es) X.env = (false, eval e X.env) :: starEach es X.env := by rfl) (hpl : (backTo pos (starEach es X.env)).any (·.1) = false := by rfl) :
    PE X (.Call (.Name x p) (e :: es) [] pos) (LE X.K P Wx (eCB o f)) := PEm (pe_callB hc hg hm hv ha hn hdb he hpl) fun _ _ _ h => LA_cb hr h
theorem d_cty {x : Str} {T : String} {p : Pos} {r : List V → Hp → VK → Prop} {o : List Dt → Option Dt} (hr : CallD X.K r o) (hc : CallR X (.type T) r) (hg : Gl X x) (hm : X.mg x = none) (hv : bootBuiltins x = some (.type T)) (ha : PA X (e :: es) (LA X.K P Wx f))
    (hn : x ≠ "__name__" := by decide) (hdb : (x == ("__debug__" : Str)) = false := by decide) (he : starEach (e :: es) X.env = (false, eval e X.env) :: starEach es X.env := by rfl) (hpl : (backTo pos (starEach es X.env)).any (·.1) = false := by rfl) :
    PE X (.Call (.Name x p) (e :: es) [] pos) (LE X.K P Wx (eCB o f)) := PEm (pe_callTy hc hg hm hv ha hn hdb he hpl) fun _ _ _ h => LA_cb hr h
end
/-! ### statements -/
def sNx : FS := fun ρ => some (.nx, ρ)
def sSeq (f g : FS) : FS := fun ρ => match f ρ with
  | none => none
  | some (.nx, ρ1) => g ρ1
  | some (.bk, ρ1) => some (.bk, ρ1)
  | some (.ct, ρ1) => some (.ct, ρ1)
  | some (.rt w, ρ1) => some (.rt w, ρ1)
  | some (.ex C fs, ρ1) => some (.ex C fs, ρ1)
def sIf (c : FE) (f g : FS) : FS := bindES c fun d => match d with
  | .bl true => f
  | .bl false => g
  | _ => fun _ => none
def sAsg (i : Nat) (f : FW) : FS := bindWS f fun w ρ => some (.nx, ρ.set i (some w))
def sRet (f : FW) : FS := bindWS f fun w ρ => some (.rt w, ρ)
def sRetN : FS := fun ρ => some (.rt (.sh .non), ρ)
def sDrop (f : FW) : FS := bindWS f fun _ ρ => some (.nx, ρ)
def sBk : FS := fun ρ => some (.bk, ρ)
def sCt : FS := fun ρ => some (.ct, ρ)
section
variable {X : Cx} {P : Pt} {Wx : WX} {pos : Pos} {e : Expr} {st : Stmt} {sts us : List Stmt} {f g : FS} {fe : FE} {fw : FW}
theorem s_nil : PSs X [] (LS X.K P Wx sNx) := PSsm pss_nil fun D σ H h => by
  obtain ⟨F, ρ, r, q⟩ := h
  exact q F H σ (.refl _) r
theorem s_pass : PS X (.Pass pos) (LS X.K P Wx sNx) := PSm ps_pass fun D σ H h => by
  obtain ⟨F, ρ, r, q⟩ := h
  exact q F H σ (.refl _) r
theorem s_bk : PS X (.Break pos) (LS X.K P Wx sBk) := PSm ps_break fun D σ H h => by
  obtain ⟨F, ρ, r, q⟩ := h
  exact q F H σ (.refl _) r
theorem s_ct : PS X (.Continue pos) (LS X.K P Wx sCt) := PSm ps_continue fun D σ H h => by
  obtain ⟨F, ρ, r, q⟩ := h
  exact q F H σ (.refl _) r
theorem s_cons (h1 : PS X st (LS X.K P Wx f)) (h2 : PSs X sts (LS X.K P Wx g)) : PSs X (st :: sts) (LS X.K P Wx (sSeq f g)) := PSsm (pss_cons h1 h2) fun D σ H h => by
  obtain ⟨F, ρ, r, q⟩ := h
  refine ⟨F, ρ, r, ?_⟩
  unfold sSeq at q
  match e : f ρ with
  | none => simp only [e] at q; exact q.elim
  | some (.nx, ρ1) => simp only [e] at q; exact fun F1 H1 σ1 s1 r1 => ⟨F1, ρ1, r1, postS.mono s1 q⟩
  | some (.bk, ρ1) => simp only [e] at q; exact q
  | some (.ct, ρ1) => simp only [e] at q; exact q
  | some (.rt w, ρ1) => simp only [e] at q; exact q
  | some (.ex C fs, ρ1) => simp only [e] at q; exact q
theorem s_one (h1 : PS X st (LS X.K P Wx f)) : PSs X [st] (LS X.K P Wx f) := pss_one h1
theorem s_if {c : Expr} {fc : FE} (hc : PT X c (LT X.K P Wx fc)) (h1 : PSs X sts (LS X.K P Wx f)) (h2 : PSs X us (LS X.K P Wx g)) : PS X (.If c sts us pos) (LS X.K P Wx (sIf fc f g)) := PSm (ps_if hc h1 h2) fun D σ H h => by
  obtain ⟨F, ρ, r, q⟩ := h
  refine LE.bindS r q fun d ρ1 F1 H1 v s1 r1 p1 q1 => ?_
  cases p1 with
  | bl k =>
    refine ⟨k, rfl, ?_⟩
    cases k with
    | false => exact ⟨F1, ρ1, r1, q1⟩
    | true => exact ⟨F1, ρ1, r1, q1⟩
  | _ => exact q1.elim
theorem s_set (i : Nat) {x : Str} {pos' : Pos} (hi' : i ∉ P.bs) (he : PE X e (LW X.K P Wx fw)) (hN : X.N.Nodup) (hx : Loc X.env.scope x) (hi : X.N[i]? = some x := by rfl)
    (hs : swapsWith e (some (.Name x pos')) pos.line X.env = pure false := by rfl) (hf : X.fn x = true ∨ X.env.scope.names.lookup x = some .local := by first | exact .inl rfl | exact .inr rfl | assumption) :
    PS X (.Assign [.Name x pos'] e pos) (LS X.K P Wx (sAsg i fw)) := PSm (ps_set hN hi hx he hs hf) fun D σ H h => by
  obtain ⟨F, ρ, r, q⟩ := h
  refine LW.bindS r q fun w ρ1 F1 H1 v s1 r1 p1 q1 => ?_
  exact q1 F1 H1 _ (.refl _) (r1.asg hi' p1)
theorem s_ret (he : PE X e (LW X.K P Wx fw)) : PS X (.Return (some e) pos) (LS X.K P Wx (sRet fw)) := PSm (ps_ret he) fun D σ H h => by
  obtain ⟨F, ρ, r, q⟩ := h
  exact LW.bindS r q fun w ρ1 F1 H1 v s1 r1 p1 q1 => q1 F1 H1 σ v (.refl _) r1 p1
theorem s_retN : PS X (.Return none pos) (LS X.K P Wx sRetN) := PSm ps_retN fun D σ H h => by
  obtain ⟨F, ρ, r, q⟩ := h
  exact q F H σ .non (.refl _) r .non
theorem s_expr (he : PE X e (LW X.K P Wx fw)) (hs : swapsWith e none pos.line X.env = pure false := by rfl) : PS X (.Expr e pos) (LS X.K P Wx (sDrop fw)) := PSm (ps_expr he hs) fun D σ H h => by
  obtain ⟨F, ρ, r, q⟩ := h
  exact LW.bindS r q fun w ρ1 F1 H1 v s1 r1 p1 q1 => q1 F1 H1 σ (.refl _) r1
end
/-! own lists by slots -/
theorem Rel.own {K : PySem.W.Frag} {P : Pt} {F H : Hp} {σ : L2.St} {ρ : Rho} (r : Rel K P F H σ ρ) {j : Nat} {xs : List Dt} (h : ρ[j]? = some (some (.own xs))) : ∃ p vs, σ[j]? = some (some (.ref p)) ∧ F p = none ∧ H p = some (.lst vs) ∧ Rps K F xs vs := by
  obtain ⟨v, ev, ⟨p, vs, e0, e1, e2, e3⟩, _⟩ := r.slot j _ h
  subst e0
  exact ⟨p, vs, ev, e1, e2, e3⟩
def ifOwn {α : Type} (j : Nat) (f : Rho → Option α) : Rho → Option α := fun ρ => match ρ[j]? with
  | some (some (.own _)) => f ρ
  | _ => none
theorem ifOwn_some {α : Type} {j : Nat} {f : Rho → Option α} {ρ : Rho} {p : Option α → Prop} (h : p (ifOwn j f ρ)) (hn : ¬ p none) : ∃ xs, ρ[j]? = some (some (.own xs)) ∧ p (f ρ) := by
  unfold ifOwn at h
  match e : ρ[j]? with
  | none => simp only [e] at h; exact (hn h).elim
  | some none => simp only [e] at h; exact (hn h).elim
  | some (some (.sh d)) => simp only [e] at h; exact (hn h).elim
  | some (some (.tr t)) => simp only [e] at h; exact (hn h).elim
  | some (some (.own xs)) => simp only [e] at h; exact ⟨xs, rfl, h⟩
/-- a change of an own list -/
def sMut (j : Nat) (g : List Dt → Option (List Dt)) : FS := fun ρ => match ρ[j]? with
  | some (some (.own xs)) => (match g xs with
    | some ys => some (.nx, ρ.set j (some (.own ys)))
    | none => none)
  | _ => none
theorem sMut_some {K : PySem.W.Frag} {P : Pt} {Wx : WX} {F : Hp} {D : Ends} {j : Nat} {g : List Dt → Option (List Dt)} {ρ : Rho} (h : postS K P Wx F D (sMut j g ρ)) : ∃ xs ys, ρ[j]? = some (some (.own xs)) ∧ g xs = some ys ∧ postS K P Wx F D (some (.nx, ρ.set j (some (.own ys)))) := by
  unfold sMut at h
  match e : ρ[j]? with
  | none => simp only [e] at h; exact h.elim
  | some none => simp only [e] at h; exact h.elim
  | some (some (.sh d)) => simp only [e] at h; exact h.elim
  | some (some (.tr t)) => simp only [e] at h; exact h.elim
  | some (some (.own xs)) =>
    simp only [e] at h
    match e2 : g xs with
    | none => simp only [e2] at h; exact h.elim
    | some ys => simp only [e2] at h; exact ⟨xs, ys, rfl, e2, h⟩
def appX (d : Dt) (xs : List Dt) : Option (List Dt) := if xs.length < 100000 then some (xs ++ [d]) else none
def putX (k d : Dt) (xs : List Dt) : Option (List Dt) := match k with
  | .int i => (match ixN xs.length i with
    | some n => some (xs.set n d)
    | none => none)
  | _ => none
def sApp (j : Nat) (f : FE) : FS := ifOwn j (bindES f fun d => sMut j (appX d))
def sPut (j : Nat) (fi fe : FE) : FS := bindES fe fun d => ifOwn j (bindES fi fun k => sMut j (putX k d))
section
variable {X : Cx} {P : Pt} {Wx : WX} {pos pos' apos cpos : Pos} {e i : Expr} {fe fi : FE}
theorem s_app (j : Nat) {x : Str} (he : PE X e (LE X.K P Wx fe)) (hN : X.N[j]? = some x := by rfl) (hv : Vis X.env.scope x := by first | exact Or.inl rfl | exact Or.inr (Or.inl rfl) | exact Or.inr (Or.inr rfl)) (hd : (x == ("__debug__" : Str)) = false := by decide)
    (hcd : (x == ("__classdict__" : Str)) = false := by decide)
    (hbase : attributeBase (.Name x pos') "append" X.env (eval (.Name x pos') X.env) = eval (.Name x pos') X.env := by rfl)
    (hfew : ((backTo cpos (starEach (e :: []) X.env)).all (fun x => !x.1) && (backToKw cpos (keywordEach [] X.env)).all (fun x => x.1.isSome)
      && decide ((e :: []).length + ([] : List Keyword).length + (if ([] : List Keyword).isEmpty then 0 else 1) < 30)) = true := by rfl)
    (hline : (apos.endLine == cpos.line) = true := by rfl) (hs : starEach (e :: []) X.env = (false, eval e X.env) :: starEach [] X.env := by rfl) (hplain : (backTo cpos (starEach [] X.env)).any (·.1) = false := by rfl)
    (hsw : swapsWith (.Call (.Attribute (.Name x pos') "append" apos) [e] [] cpos) none pos.line X.env = pure false := by rfl) :
    PS X (.Expr (.Call (.Attribute (.Name x pos') "append" apos) [e] [] cpos) pos) (LS X.K P Wx (sApp j fe)) :=
  PSm (ps_expr (pe_bm PySem.F.plainAttrs_list PySem.F.slot_list_append PySem.F.type_list_append mt_append (pe_var hN hv hd hcd) (pa_cons he pa_nil hs) hbase hfew hline hs hplain) hsw) fun D σ H h => by
  obtain ⟨F, ρ, r, q⟩ := h
  obtain ⟨xs0, e0, q⟩ := ifOwn_some (p := postS X.K P Wx F D) q (fun z => z)
  obtain ⟨p, vs0, ev, _, e2, _⟩ := r.own e0
  refine ⟨.ref p, ev, .inl ⟨rfl, _, .inl (.inl e2)⟩, ?_⟩
  refine LE.bindS r q fun d ρ1 F1 H1 v s1 r1 p1 q1 => ?_
  obtain ⟨xs, ys, k1, k2, q1⟩ := sMut_some q1
  obtain ⟨p', vs, ev', e3, e4, e5⟩ := r1.own k1
  rw [ev] at ev'
  cases ev'
  unfold appX at k2
  by_cases hl : xs.length < 100000
  · rw [if_pos hl] at k2
    cases k2
    refine ⟨p, vs, v, rfl, rfl, e4, by rw [← e5.length]; exact sz1000' hl, ?_⟩
    exact q1 F1 _ σ (.refl _) (r1.write k1 ev (e5.append (.cons p1 .nil)))
  · rw [if_neg hl] at k2; cases k2
theorem s_put (j : Nat) {x : Str} (hi : PE X i (LE X.K P Wx fi)) (he : PE X e (LE X.K P Wx fe)) (hN : X.N[j]? = some x := by rfl) (hv : Vis X.env.scope x := by first | exact Or.inl rfl | exact Or.inr (Or.inl rfl) | exact Or.inr (Or.inr rfl)) (hd : (x == ("__debug__" : Str)) = false := by decide)
    (hcd : (x == ("__classdict__" : Str)) = false := by decide)
    (ha : ∀ v, assign (.Subscript (.Name x pos') i apos) X.env v = (do
      let ov ← holding [v] (eval (.Name x pos') X.env)
      let iv ← holding [v, ov] (eval i X.env)
      standAt apos
      holding [v, ov, iv] (setItem ov iv v)
      release [v, ov, iv] []) := by intro _; rfl)
    (hs : swapsWithSole [.Subscript (.Name x pos') i apos] e pos.line X.env = pure false := by rfl) (hw : swappedStores [.Subscript (.Name x pos') i apos] e X.env = pure none := by rfl)
    (h1 : (assignEach [.Subscript (.Name x pos') i apos] X.env).map (·.2) = [assign (.Subscript (.Name x pos') i apos) X.env] := by rfl) :
    PS X (.Assign [.Subscript (.Name x pos') i apos] e pos) (LS X.K P Wx (sPut j fi fe)) :=
  PSm (ps_asg he (pg_sub (pe_var hN hv hd hcd) hi set_list ha) hs hw h1) fun D σ H h => by
  obtain ⟨F, ρ, r, q⟩ := h
  refine LE.bindS r q fun d ρ1 F1 H1 v s1 r1 p1 q1 => ?_
  obtain ⟨xs0, e0, q1⟩ := ifOwn_some (p := postS X.K P Wx F1 D) q1 (fun z => z)
  obtain ⟨p, vs0, ev, _, e2, _⟩ := r1.own e0
  refine ⟨.ref p, ev, ?_⟩
  refine LE.bindS r1 q1 fun k ρ2 F2 H2 y s2 r2 p2 q2 => ?_
  obtain ⟨xs, ys, k1, k2, q2⟩ := sMut_some q2
  obtain ⟨p', vs, ev', e3, e4, e5⟩ := r2.own k1
  rw [ev] at ev'
  cases ev'
  cases p2 with
  | int i =>
    unfold putX at k2
    simp only [] at k2
    cases hx : ixN xs.length i with
    | none => rw [hx] at k2; cases k2
    | some n =>
      rw [hx] at k2
      cases k2
      refine ⟨p, vs, i, n, rfl, rfl, e4, by rw [← e5.length]; exact hx, ?_⟩
      exact q2 F2 _ σ (.refl _) (r2.write k1 ev (e5.set (p1.mono s2) n))
  | _ => cases k2
end
/-! pop, extend -/
def ePop (j : Nat) : FE := fun ρ => match ρ[j]? with
  | some (some (.own xs)) => (match xs[xs.length - 1]? with
    | some d => some (.ok d, ρ.set j (some (.own xs.dropLast)))
    | none => none)
  | _ => none
theorem Rps.dropLast {K : PySem.W.Frag} {F : Hp} : ∀ {ds : List Dt} {vs : List V}, Rps K F ds vs → Rps K F ds.dropLast vs.dropLast
  | _, _, .nil => .nil
  | _, _, .cons _ .nil => .nil
  | _, _, .cons h (.cons h2 r) => by
    have := Rps.dropLast (.cons h2 r)
    simpa using Rps.cons h this
def extX (d : Dt) (xs : List Dt) : Option (List Dt) := match d with
  | .lst ys => if xs.length + ys.length ≤ 100000 then some (xs ++ ys) else none
  | _ => none
def sExt (j : Nat) (f : FE) : FS := ifOwn j (bindES f fun d => sMut j (extX d))
/-- x[i], x a name -/
def dIx : Dt → Dt → Option Dt
  | .lst xs, .int i => atI xs i
  | .tup xs, .int i => atI xs i
  | .str z, .int i => if z.length ≤ 100000 then (atI z.cps.toList i).map fun c => .str ⟨#[c]⟩ else none
  | _, _ => none
def slotD : Option (Option Wt) → Option Dt
  | some (some (.sh d)) => some d
  | some (some (.own xs)) => some (.lst xs)
  | _ => none
def eIxV (j : Nat) (fi : FE) : FE := fun ρ => match slotD ρ[j]? with
  | none => none
  | some _ => bindE fi (fun k ρ1 => match slotD ρ1[j]? with
    | some d => eV (dIx d k) ρ1
    | none => none) ρ
theorem Rps.atI {K : PySem.W.Frag} {F : Hp} {ds : List Dt} {vs : List V} {i : Int} {d : Dt} (h : Rps K F ds vs) (e : atI ds i = some d) : ∃ v, atI vs i = some v ∧ Rp K F d v := by
  unfold L2.atI at e ⊢
  rw [← h.length]
  cases hj : ixN ds.length i with
  | none => rw [hj] at e; cases e
  | some j =>
    rw [hj] at e
    exact h.get e
section
variable {X : Cx} {P : Pt} {Wx : WX} {pos pos' apos cpos : Pos} {e i : Expr} {fe fi fa fb : FE}
theorem od_ix : OpD X.K (rIx X.K) dIx := by
  intro d e g h F H x y Q s hd he q
  cases hd with
  | lst hq hr =>
    cases he with
    | int i =>
      obtain ⟨v, e1, e2⟩ := hr.atI h
      exact .inl ⟨_, _, i, v, rfl, rfl, .inl (.inl (s _ _ hq)), e1, q F H v (Grow.refl s) e2⟩
    | _ => cases h
  | tup hq hr =>
    cases he with
    | int i =>
      obtain ⟨v, e1, e2⟩ := hr.atI h
      exact .inr (.inl ⟨_, _, i, v, rfl, rfl, same_sqT s hq, e1, q F H v (Grow.refl s) e2⟩)
    | _ => cases h
  | str z =>
    cases he with
    | int i =>
      unfold dIx at h
      simp only [] at h
      by_cases hl : z.length ≤ 100000
      · rw [if_pos hl] at h
        cases ha : atI z.cps.toList i with
        | none => rw [ha] at h; cases h
        | some c =>
          rw [ha] at h
          cases h
          exact .inr (.inr ⟨z, i, c, rfl, rfl, sz1000 hl, ha, q F H _ (Grow.refl s) (.str _)⟩)
      · rw [if_neg hl] at h; cases h
    | _ => cases h
  | _ => cases h
theorem d_sub (ha : PE X e (LE X.K P Wx fa)) (hb : PE X i (LE X.K P Wx fb)) (hs : PlainIx i := by exact fun _ _ => rfl) : PE X (.Subscript e i pos) (LE X.K P Wx (eOp dIx fa fb)) := d_ix ix_seq od_ix ha hb hs
theorem d_ixV (j : Nat) {x : Str} (hi : PE X i (LE X.K P Wx fi)) (hs : PlainIx i := by exact fun _ _ => rfl) (hN : X.N[j]? = some x := by rfl) (hv : Vis X.env.scope x := by first | exact Or.inl rfl | exact Or.inr (Or.inl rfl) | exact Or.inr (Or.inr rfl)) (hd : (x == ("__debug__" : Str)) = false := by decide)
    (hcd : (x == ("__classdict__" : Str)) = false := by decide) : PE X (.Subscript (.Name x pos') i pos) (LE X.K P Wx (eIxV j fi)) :=
  PEm (pe_ix ix_seq (pe_var hN hv hd hcd) hi hs) fun σ H Q h => by
  obtain ⟨F, ρ, r, q⟩ := h
  unfold eIxV at q
  have hsl : ∃ u, σ[j]? = some (some u) := by
    match e : ρ[j]? with
    | none => simp only [e, slotD] at q; exact q.elim
    | some none => simp only [e, slotD] at q; exact q.elim
    | some (some w) => obtain ⟨v, ev, _⟩ := r.slot j w e; exact ⟨v, ev⟩
  obtain ⟨u, eu⟩ := hsl
  refine ⟨u, eu, ?_⟩
  cases e0 : slotD ρ[j]? with
  | none => simp only [e0] at q; exact q.elim
  | some d0 =>
    simp only [e0] at q
    refine LE.bind r q fun k ρ1 F1 H1 y s1 r1 p1 q1 => ?_
    match e : ρ1[j]? with
    | none => simp only [e, slotD] at q1; exact q1.elim
    | some none => simp only [e, slotD] at q1; exact q1.elim
    | some (some (.sh d)) =>
      simp only [e, slotD] at q1
      obtain ⟨v, ev, hv⟩ := r1.slot j _ e
      rw [eu] at ev
      cases ev
      cases eo : dIx d k with
      | none => rw [eo] at q1; exact q1.elim
      | some g =>
        rw [eo] at q1
        exact od_ix d k g eo F1 H1 u y Q r1.fh hv p1 fun F' H' z g' pz => q1 F' H' z g'.f (r1.grow g') pz
    | some (some (.tr t)) => simp only [e, slotD] at q1; exact q1.elim
    | some (some (.own xs)) =>
      simp only [e, slotD] at q1
      obtain ⟨p, vs, ev, e1, e2, e3⟩ := r1.own e
      rw [eu] at ev
      cases ev
      cases p1 with
      | int i =>
        cases eo : dIx (.lst xs) (.int i) with
        | none => rw [eo] at q1; exact q1.elim
        | some g =>
          rw [eo] at q1
          obtain ⟨v, k1, k2⟩ := e3.atI (show atI xs i = some g from eo)
          exact .inl ⟨p, vs, i, v, rfl, rfl, .inl (.inl e2), k1, q1 F1 H1 v (.refl _) r1 k2⟩
      | _ => exact q1.elim
theorem d_pop (j : Nat) {x : Str} (hN : X.N[j]? = some x := by rfl) (hv : Vis X.env.scope x := by first | exact Or.inl rfl | exact Or.inr (Or.inl rfl) | exact Or.inr (Or.inr rfl)) (hd : (x == ("__debug__" : Str)) = false := by decide)
    (hcd : (x == ("__classdict__" : Str)) = false := by decide)
    (hbase : attributeBase (.Name x pos') "pop" X.env (eval (.Name x pos') X.env) = eval (.Name x pos') X.env := by rfl) (hline : (apos.endLine == cpos.line) = true := by rfl) :
    PE X (.Call (.Attribute (.Name x pos') "pop" apos) [] [] cpos) (LE X.K P Wx (ePop j)) :=
  PEm (pe_bm0 PySem.F.plainAttrs_list PySem.F.slot_list_pop PySem.F.type_list_pop mt_pop (pe_var hN hv hd hcd) hbase hline) fun σ H Q h => by
  obtain ⟨F, ρ, r, q⟩ := h
  unfold ePop at q
  match e : ρ[j]? with
  | none => simp only [e] at q; exact q.elim
  | some none => simp only [e] at q; exact q.elim
  | some (some (.sh d)) => simp only [e] at q; exact q.elim
  | some (some (.tr t)) => simp only [e] at q; exact q.elim
  | some (some (.own xs)) =>
    simp only [e] at q
    obtain ⟨p, vs, ev, e1, e2, e3⟩ := r.own e
    cases el : xs[xs.length - 1]? with
    | none => simp only [el] at q; exact q.elim
    | some d =>
      simp only [el] at q
      obtain ⟨v, k1, k2⟩ := e3.get el
      refine ⟨.ref p, ev, .inl ⟨rfl, _, .inl (.inl e2)⟩, p, vs, v, rfl, rfl, e2, by rw [← e3.length]; exact k1, ?_⟩
      exact q F _ v (.refl _) (r.write e ev e3.dropLast) k2
end
end DL
namespace DL
open PySem PySem.Spec PyProof.Rows L2
/-! ### a def by a function of data -/
/-- what is handed: data, a list lent, a list given away, a tree lent, a tree given away -/
inductive Aw where
  | sh (d : Dt) | own (xs : List Dt) | mv (xs : List Dt) | tr (t : Tr) | mt (t : Tr)
def Aw.wt : Aw → Wt
  | .sh d => .sh d
  | .own xs => .own xs
  | .mv xs => .own xs
  | .tr t => .tr t
  | .mt t => .tr t
def Aw.lent : Aw → Bool
  | .own _ => true
  | .tr _ => true
  | _ => false
def Aw.given : Aw → Bool
  | .mv _ => true
  | .mt _ => true
  | _ => false
abbrev FnD := List Aw → Option (RW × List Wt)
inductive ArgW (K : PySem.W.Frag) (F G H : Hp) : List V → List Aw → Prop
  | nil : ArgW K F G H [] []
  | sh {d : Dt} {v : V} {vs : List V} {ws : List Aw} : Rp K F d v → ArgW K F G H vs ws → ArgW K F G H (v :: vs) (.sh d :: ws)
  | len {v : V} {w : Aw} {vs : List V} {ws : List Aw} : w.lent = true → OkW K F G v w.wt → ArgW K F G H vs ws → ArgW K F G H (v :: vs) (w :: ws)
  | giv {v : V} {w : Aw} {vs : List V} {ws : List Aw} : w.given = true → OkW K F H v w.wt → (∀ p ∈ fpW H w.wt v, G p = none) → ArgW K F G H vs ws → ArgW K F G H (v :: vs) (w :: ws)
/-- what is lent: the values, with what they own -/
def lents (H : Hp) : List V → List Aw → List (V × List Addr)
  | v :: vs, w :: ws => if w.lent = true then (v, fpW H w.wt v) :: lents H vs ws else lents H vs ws
  | _, _ => []
def fpsOf (H : Hp) : List V → List Aw → List Addr
  | v :: vs, w :: ws => fpW H w.wt v ++ fpsOf H vs ws
  | _, _ => []
structure GrowB (K : PySem.W.Frag) (F H F' H' : Hp) (ps : List (V × List Addr)) (cs : List Wt) : Prop where
  len : cs.length = ps.length
  f : Same F F'
  fh : Same F' H'
  th : ∀ p o, H p = some o → ∃ u, H' p = some u
  h : ∀ p o, H p = some o → (∀ q ∈ ps, p ∉ q.2) → H' p = some o
  new : ∀ p o, F' p = some o → F p = some o ∨ H p = none
  put : ∀ (k : Nat) (q : V × List Addr) (c : Wt), ps[k]? = some q → cs[k]? = some c → c.isOwn = true ∧ OkW K F' H' q.1 c ∧ ∀ p ∈ fpW H' c q.1, p ∈ q.2 ∨ H p = none
  sep : ∀ (k l : Nat) (q r : V × List Addr) (c d : Wt) (p : Addr), ps[k]? = some q → ps[l]? = some r → cs[k]? = some c → cs[l]? = some d → p ∈ fpW H' c q.1 → p ∈ fpW H' d r.1 → k = l
def FinW (K : PySem.W.Frag) (F' H H' : Hp) (ps : List (V × List Addr)) (cs : List Wt) (v : V) : Wt → Prop
  | .sh d => Rp K F' d v
  | w => OkW K F' H' v w ∧ ∀ p ∈ fpW H' w v, H p = none ∧ ∀ (k : Nat) (q : V × List Addr) (c : Wt), ps[k]? = some q → cs[k]? = some c → p ∉ fpW H' c q.1
theorem FinW.ok {K : PySem.W.Frag} {F' H H' : Hp} {ps : List (V × List Addr)} {cs : List Wt} {v : V} {w : Wt} (h : FinW K F' H H' ps cs v w) : OkW K F' H' v w ∧ ∀ p ∈ fpW H' w v, H p = none ∧ ∀ (k : Nat) (q : V × List Addr) (c : Wt), ps[k]? = some q → cs[k]? = some c → p ∉ fpW H' c q.1 := by
  cases w with
  | sh d => exact ⟨h, fun p m => by cases m⟩
  | own xs => exact h
  | tr t => exact h
theorem FinW.mk {K : PySem.W.Frag} {F' H H' : Hp} {ps : List (V × List Addr)} {cs : List Wt} {v : V} {w : Wt} (h : OkW K F' H' v w ∧ ∀ p ∈ fpW H' w v, H p = none ∧ ∀ (k : Nat) (q : V × List Addr) (c : Wt), ps[k]? = some q → cs[k]? = some c → p ∉ fpW H' c q.1) : FinW K F' H H' ps cs v w := by
  cases w with
  | sh d => exact h.1
  | own xs => exact h
  | tr t => exact h
def postF (K : PySem.W.Frag) (F H : Hp) (ps : List (V × List Addr)) (Q : VK) (E : XK) : Option (RW × List Wt) → Prop
  | none => False
  | some (.ok w, cs) => ∀ F' H' v, GrowB K F H F' H' ps cs → FinW K F' H H' ps cs v w → Q v H'
  | some (.ex C fs, cs) => ∀ F' H' cls dd, GrowB K F H F' H' ps cs → Xp K F' cls dd C fs → E cls dd H'
def spF (K : PySem.W.Frag) (n : Nat) (g : FnD) : Sp := fun vs H Q E => vs.length = n ∧ ∃ F G ws, Same F G ∧ Same G H ∧ ArgW K F G H vs ws ∧ (fpsOf H vs ws).Nodup ∧ postF K F G (lents G vs ws) Q E (g ws)
section
variable {K : PySem.W.Frag} {F G H : Hp}
theorem ArgW.length : ∀ {vs : List V} {ws : List Aw}, ArgW K F G H vs ws → vs.length = ws.length
  | _, _, .nil => rfl
  | _, _, .sh _ r => by simp [r.length]
  | _, _, .len _ _ r => by simp [r.length]
  | _, _, .giv _ _ _ r => by simp [r.length]
theorem OkW.up (gh : Same G H) {v : V} {w : Wt} (h : OkW K F G v w) : OkW K F H v w ∧ fpW H w v = fpW G w v := h.map (.refl _) (fun p m => (h.at_ m).1) fun p m => by
  obtain ⟨_, o, e, _⟩ := h.at_ m
  rw [e, gh _ _ e]
theorem OkW.nodup {v : V} {w : Wt} (h : OkW K F H v w) : (fpW H w v).Nodup := by
  cases w with
  | sh d => exact List.nodup_nil
  | own xs =>
    obtain ⟨p, vs, rfl, _⟩ := h
    exact List.nodup_cons.mpr ⟨by simp, List.nodup_nil⟩
  | tr t => exact h.2
theorem giv_len {w : Aw} (a : w.given = true) (b : w.lent = true) : False := by
  cases w <;> simp [Aw.given, Aw.lent] at a b
theorem ArgW.get (gh : Same G H) : ∀ {vs : List V} {ws : List Aw} {i : Nat} {w : Aw}, ArgW K F G H vs ws → ws[i]? = some w → ∃ v, vs[i]? = some v ∧ OkW K F H v w.wt ∧ (∀ p ∈ fpW H w.wt v, G p = none ∨ (w.lent = true ∧ p ∈ fpW G w.wt v)) ∧ (w.lent = true → OkW K F G v w.wt)
  | _, _, _, _, .nil, e => by simp at e
  | _, _, 0, _, .sh h _, e => by simp at e; subst e; exact ⟨_, rfl, h, fun p m => (by cases m), fun z => nomatch z⟩
  | _, _, 0, _, .len hl h _, e => by
    simp at e; subst e
    exact ⟨_, rfl, (h.up gh).1, fun p m => .inr ⟨hl, by rw [(h.up gh).2] at m; exact m⟩, fun _ => h⟩
  | _, _, 0, _, .giv hl h z _, e => by
    simp at e; subst e
    exact ⟨_, rfl, h, fun p m => .inl (z p m), fun y => (giv_len hl y).elim⟩
  | _, _, i + 1, d, .sh _ r, e => by
    obtain ⟨v, a, b⟩ := ArgW.get gh (i := i) (w := d) r (by simpa using e)
    exact ⟨v, by simpa using a, b⟩
  | _, _, i + 1, d, .len _ _ r, e => by
    obtain ⟨v, a, b⟩ := ArgW.get gh (i := i) (w := d) r (by simpa using e)
    exact ⟨v, by simpa using a, b⟩
  | _, _, i + 1, d, .giv _ _ _ r, e => by
    obtain ⟨v, a, b⟩ := ArgW.get gh (i := i) (w := d) r (by simpa using e)
    exact ⟨v, by simpa using a, b⟩
theorem fps_mem : ∀ {vs : List V} {ws : List Aw} {i : Nat} {v : V} {w : Aw} {p : Addr}, vs[i]? = some v → ws[i]? = some w → p ∈ fpW H w.wt v → p ∈ fpsOf H vs ws
  | [], _, _, _, _, _, e, _, _ => by simp at e
  | _ :: _, [], _, _, _, _, _, e, _ => by simp at e
  | v :: vs, w :: ws, 0, _, _, p, e1, e2, m => by
    simp at e1 e2; subst e1; subst e2
    rw [fpsOf]
    exact List.mem_append_left _ m
  | v :: vs, w :: ws, i + 1, v', w', p, e1, e2, m => by
    rw [fpsOf]
    exact List.mem_append_right _ (fps_mem (i := i) (v := v') (w := w') (by simpa using e1) (by simpa using e2) m)
theorem fps_sep : ∀ {vs : List V} {ws : List Aw} {i j : Nat} {v x : V} {w u : Aw} {p : Addr}, (fpsOf H vs ws).Nodup → vs[i]? = some v → ws[i]? = some w → vs[j]? = some x → ws[j]? = some u → p ∈ fpW H w.wt v → p ∈ fpW H u.wt x → i = j
  | [], _, _, _, _, _, _, _, _, _, e, _, _, _, _, _ => by simp at e
  | _ :: _, [], _, _, _, _, _, _, _, _, _, e, _, _, _, _ => by simp at e
  | _ :: _, _ :: _, 0, 0, _, _, _, _, _, _, _, _, _, _, _, _ => rfl
  | v :: vs, w :: ws, 0, j + 1, _, x, _, u, p, nd, e1, e2, e3, e4, m1, m2 => by
    simp at e1 e2; subst e1; subst e2
    rw [fpsOf] at nd
    exact absurd (fps_mem (i := j) (v := x) (w := u) (by simpa using e3) (by simpa using e4) m2) ((List.nodup_append.mp nd).2.2 p m1 p · rfl)
  | v :: vs, w :: ws, i + 1, 0, x, _, u, _, p, nd, e1, e2, e3, e4, m1, m2 => by
    simp at e3 e4; subst e3; subst e4
    rw [fpsOf] at nd
    exact absurd (fps_mem (i := i) (v := x) (w := u) (by simpa using e1) (by simpa using e2) m1) ((List.nodup_append.mp nd).2.2 p m2 p · rfl)
  | v :: vs, w :: ws, i + 1, j + 1, v', x', w', u', p, nd, e1, e2, e3, e4, m1, m2 => by
    rw [fpsOf] at nd
    rw [fps_sep (i := i) (j := j) (v := v') (x := x') (w := w') (u := u') (p := p) (List.nodup_append.mp nd).2.1 (by simpa using e1) (by simpa using e2) (by simpa using e3) (by simpa using e4) m1 m2]
end
/-! ### the caller -/
def toWs (ρ : Rho) : List Av → Option (List Aw)
  | [] => some []
  | .val d :: as => match toWs ρ as with
    | some ws => some (.sh d :: ws)
    | none => none
  | .slot j :: as => match ρ[j]? with
    | some (some (.own xs)) => (match toWs ρ as with
      | some ws => some (.own xs :: ws)
      | none => none)
    | some (some (.tr t)) => (match toWs ρ as with
      | some ws => some (.tr t :: ws)
      | none => none)
    | _ => none
  | .tmp w :: as => match toWs ρ as with
    | some ws => (match w with
      | .own xs => some (.mv xs :: ws)
      | .tr t => some (.mt t :: ws)
      | .sh _ => none)
    | none => none
def slotsOf : List Av → List Nat
  | [] => []
  | .val _ :: as => slotsOf as
  | .slot j :: as => j :: slotsOf as
  | .tmp _ :: as => slotsOf as
def putBack : List Nat → List Wt → Rho → Rho
  | j :: js, c :: cs, ρ => putBack js cs (ρ.set j (some c))
  | _, _, ρ => ρ
def wCall (n : Nat) (g : FnD) (fa : FA) : FW := bindAW fa fun as ρ => match toWs ρ as with
  | none => none
  | some ws => if ws.length = n ∧ (slotsOf as).Nodup then (match g ws with
    | none => none
    | some (r, cs) => some (r, putBack (slotsOf as) cs ρ)) else none
theorem putBack_len : ∀ (js : List Nat) (cs : List Wt) (ρ : Rho), (putBack js cs ρ).length = ρ.length
  | [], _, _ => by simp [putBack]
  | _ :: _, [], _ => by simp [putBack]
  | j :: js, c :: cs, ρ => by simp [putBack, putBack_len js cs]
theorem putBack_not : ∀ {js : List Nat} {cs : List Wt} {ρ : Rho} {i : Nat}, i ∉ js → (putBack js cs ρ)[i]? = ρ[i]?
  | [], _, _, _, _ => by simp [putBack]
  | _ :: _, [], _, _, _ => by simp [putBack]
  | j :: js, c :: cs, ρ, i, h => by
    simp only [List.mem_cons, not_or] at h
    rw [putBack, putBack_not h.2, List.getElem?_set_ne (fun e => h.1 e.symm)]
theorem putBack_in : ∀ {js : List Nat} {cs : List Wt} {ρ : Rho} {i k : Nat} {c : Wt}, js.Nodup → js[k]? = some i → cs[k]? = some c → i < ρ.length → (putBack js cs ρ)[i]? = some (some c)
  | [], _, _, _, _, _, _, e, _, _ => by simp at e
  | _ :: _, [], _, _, _, _, _, _, e, _ => by simp at e
  | j :: js, c :: cs, ρ, i, 0, c', nd, e1, e2, hl => by
    simp at e1 e2
    subst e1
    subst e2
    rw [putBack, putBack_not (List.nodup_cons.mp nd).1, List.getElem?_set_self hl]
  | j :: js, c :: cs, ρ, i, k + 1, c', nd, e1, e2, hl => by
    rw [putBack]
    exact putBack_in (k := k) (List.nodup_cons.mp nd).2 (by simpa using e1) (by simpa using e2) (by simpa using hl)
/-- slots and what is in them -/
inductive SlA (H : Hp) (σ : L2.St) (ρ : Rho) : List Nat → List (V × List Addr) → Prop
  | nil : SlA H σ ρ [] []
  | cons {j : Nat} {v : V} {js : List Nat} {ps : List (V × List Addr)} (w : Wt) : σ[j]? = some (some v) → ρ[j]? = some (some w) → SlA H σ ρ js ps → SlA H σ ρ (j :: js) ((v, fpW H w v) :: ps)
theorem SlA.get {H : Hp} {σ : L2.St} {ρ : Rho} : ∀ {js : List Nat} {ps : List (V × List Addr)} {k j : Nat}, SlA H σ ρ js ps → js[k]? = some j → ∃ v w, ps[k]? = some (v, fpW H w v) ∧ σ[j]? = some (some v) ∧ ρ[j]? = some (some w)
  | _, _, _, _, .nil, e => by simp at e
  | _, _, 0, _, .cons w h1 h2 _, e => by simp at e; subst e; exact ⟨_, w, rfl, h1, h2⟩
  | _, _, k + 1, j, .cons _ _ _ r, e => by
    obtain ⟨v, w, a, b⟩ := SlA.get (k := k) (j := j) r (by simpa using e)
    exact ⟨v, w, by simpa using a, b⟩
theorem SlA.mem {H : Hp} {σ : L2.St} {ρ : Rho} : ∀ {js : List Nat} {ps : List (V × List Addr)} {q : V × List Addr}, SlA H σ ρ js ps → q ∈ ps → ∃ j w, j ∈ js ∧ q.2 = fpW H w q.1 ∧ σ[j]? = some (some q.1) ∧ ρ[j]? = some (some w)
  | _, _, _, .nil, e => by simp at e
  | _, _, q, .cons w h1 h2 r, e => by
    rcases List.mem_cons.mp e with e | e
    · subst e; exact ⟨_, w, List.mem_cons_self, rfl, h1, h2⟩
    · obtain ⟨j, u, a, b⟩ := SlA.mem r e
      exact ⟨j, u, List.mem_cons_of_mem _ a, b⟩
section
variable {K : PySem.W.Frag} {P : Pt} {F H F' H' : Hp} {σ : L2.St} {ρ : Rho}
/-- the heap that stays with the caller -/
structure Sub (P : Pt) (σ : L2.St) (ρ : Rho) (F G H : Hp) : Prop where
  fg : Same F G
  gh : Same G H
  out : ∀ a o, H a = some o → G a = none → P.H0 a = none ∧ ∀ (i : Nat) (u : Wt) (x : V), ρ[i]? = some (some u) → σ[i]? = some (some x) → a ∉ fpW H u x
  tab : ∀ t ∈ P.T, LamX.TabS G t.1 t.2
theorem Sub.cell {G : Hp} (S : Sub P σ ρ F G H) {i : Nat} {u : Wt} {x : V} {a : Addr} {o : HO} (h : ρ[i]? = some (some u)) (hs : σ[i]? = some (some x)) (m : a ∈ fpW H u x) (e : H a = some o) : G a = some o := by
  cases q : G a with
  | none => exact absurd m ((S.out a o e q).2 i u x h hs)
  | some u => have := S.gh a u q; rw [e] at this; exact this.symm
theorem Sub.down {G : Hp} (S : Sub P σ ρ F G H) (R : Rel K P F H σ ρ) {i : Nat} {u : Wt} {x : V} (h : ρ[i]? = some (some u)) (hs : σ[i]? = some (some x)) : OkW K F G x u ∧ fpW G u x = fpW H u x :=
  (R.at_ h hs).ok.map (.refl _) (fun p m => ((R.at_ h hs).ok.at_ m).1) fun p m => by
    obtain ⟨_, o, e, _⟩ := (R.at_ h hs).ok.at_ m
    rw [e, S.cell h hs m e]
theorem Sub.h0 {G : Hp} (S : Sub P σ ρ F G H) (R : Rel K P F H σ ρ) {a : Addr} (h : G a = none) : P.H0 a = none := by
  cases q : H a with
  | none => exact R.fresh q
  | some o => exact (S.out a o q h).1
theorem Sub.off {G : Hp} (S : Sub P σ ρ F G H) (R : Rel K P F H σ ρ) {a : Addr} (h : G a = none) {i : Nat} {u : Wt} {x : V} (hi : ρ[i]? = some (some u)) (hs : σ[i]? = some (some x)) : a ∉ fpW H u x := fun m => by
  obtain ⟨_, o, e, _⟩ := (R.at_ hi hs).ok.at_ m
  rw [S.cell hi hs m e] at h
  cases h
theorem Sub.mem {G : Hp} (S : Sub P σ ρ F G H) {a : Addr} {o : HO} (h : H a = some o) {u : HO} (z : P.H0 a = some u) : G a = some o := by
  cases q : G a with
  | none => rw [(S.out a o h q).1] at z; cases z
  | some u => have := S.gh a u q; rw [h] at this; exact this.symm
open Classical in
theorem args_ok (R : Rel K P F H σ ρ) : ∀ {as : List Av} {vs : List V} {ws : List Aw}, Avs K P F H σ ρ as vs → toWs ρ as = some ws → (slotsOf as).Nodup →
    ∃ G, Sub P σ ρ F G H ∧ ArgW K F G H vs ws ∧ SlA G σ ρ (slotsOf as) (lents G vs ws) ∧ (fpsOf H vs ws).Nodup ∧
      ∀ a, a ∈ fpsOf H vs ws → (∃ j u x, j ∈ slotsOf as ∧ σ[j]? = some (some x) ∧ ρ[j]? = some (some u) ∧ a ∈ fpW H u x) ∨ ∀ (i : Nat) (u : Wt) (x : V), ρ[i]? = some (some u) → σ[i]? = some (some x) → a ∉ fpW H u x
  | _, _, _, .nil, e, _ => by
    cases e
    exact ⟨H, ⟨R.fh, .refl _, fun a o e q => (by rw [e] at q; cases q), fun t ht => (R.tb t ht).2⟩, .nil, .nil, List.nodup_nil, fun a m => by simp [fpsOf] at m⟩
  | _, _, _, .val (as := as) (v := v) (vs := vs) (d := d) h r, e, nd => by
    unfold toWs at e
    cases q : toWs ρ as with
    | none => rw [q] at e; cases e
    | some us =>
      rw [q] at e
      cases e
      obtain ⟨G, S, a, b, c, dd⟩ := args_ok R r q nd
      exact ⟨G, S, .sh h a, b, c, dd⟩
  | _, _, _, .slot (as := as) (j := j) (v := v) (vs := vs) h r, e, nd => by
    have go : ∀ (w : Aw) (us : List Aw), w.lent = true → ρ[j]? = some (some w.wt) → toWs ρ as = some us → ∃ G, Sub P σ ρ F G H ∧ ArgW K F G H (v :: vs) (w :: us) ∧ SlA G σ ρ (slotsOf (.slot j :: as)) (lents G (v :: vs) (w :: us)) ∧ (fpsOf H (v :: vs) (w :: us)).Nodup ∧
      ∀ a, a ∈ fpsOf H (v :: vs) (w :: us) → (∃ j' u x, j' ∈ slotsOf (.slot j :: as) ∧ σ[j']? = some (some x) ∧ ρ[j']? = some (some u) ∧ a ∈ fpW H u x) ∨ ∀ (i : Nat) (u : Wt) (x : V), ρ[i]? = some (some u) → σ[i]? = some (some x) → a ∉ fpW H u x := fun w us hl e1 q => by
      obtain ⟨n1, n2⟩ := List.nodup_cons.mp (show (j :: slotsOf as).Nodup from nd)
      obtain ⟨G, S, a, b, c, d⟩ := args_ok R r q n2
      obtain ⟨k1, k2⟩ := S.down R e1 h
      refine ⟨G, S, .len hl k1 a, ?_, ?_, fun x m => ?_⟩
      · rw [lents, if_pos hl]; exact .cons w.wt h e1 b
      · rw [fpsOf]
        refine List.nodup_append.mpr ⟨(R.at_ e1 h).ok.nodup, c, fun x m1 y m2 exy => ?_⟩
        subst exy
        rcases d x m2 with ⟨i, u, y, d1, d2, d3, d4⟩ | d
        · have := R.sep _ _ _ _ _ _ _ e1 d3 h d2 m1 d4
          subst this
          exact n1 d1
        · exact d j _ v e1 h m1
      · rw [fpsOf] at m
        rcases List.mem_append.mp m with m | m
        · exact .inl ⟨j, _, _, List.mem_cons_self, h, e1, m⟩
        · rcases d x m with ⟨i, u, y, d1, d2⟩ | d
          · exact .inl ⟨i, u, y, List.mem_cons_of_mem _ d1, d2⟩
          · exact .inr d
    unfold toWs at e
    match e1 : ρ[j]? with
    | none => simp only [e1] at e; cases e
    | some none => simp only [e1] at e; cases e
    | some (some (.sh d)) => simp only [e1] at e; cases e
    | some (some (.own xs)) =>
      simp only [e1] at e
      cases q : toWs ρ as with
      | none => rw [q] at e; cases e
      | some us => rw [q] at e; cases e; exact go (.own xs) us rfl e1 q
    | some (some (.tr t)) =>
      simp only [e1] at e
      cases q : toWs ρ as with
      | none => rw [q] at e; cases e
      | some us => rw [q] at e; cases e; exact go (.tr t) us rfl e1 q
  | _, _, _, .tmp (w := w) (v := v) ho h, e, nd => by
    have go : ∀ u : Aw, u.given = true → u.lent = false → u.wt = w → ∃ G, Sub P σ ρ F G H ∧ ArgW K F G H [v] [u] ∧ SlA G σ ρ [] (lents G [v] [u]) ∧ (fpsOf H [v] [u]).Nodup ∧
      ∀ a, a ∈ fpsOf H [v] [u] → (∃ j u x, j ∈ slotsOf [Av.tmp w] ∧ σ[j]? = some (some x) ∧ ρ[j]? = some (some u) ∧ a ∈ fpW H u x) ∨ ∀ (i : Nat) (u : Wt) (x : V), ρ[i]? = some (some u) → σ[i]? = some (some x) → a ∉ fpW H u x := fun u hg hl hw => by
      subst hw
      refine ⟨fun a => if a ∈ fpW H u.wt v then none else H a, ⟨fun a o e => ?_, fun a o e => ?_, fun a o e q => ?_, fun t ht => tab_map (R.tb t ht).2 fun x o e ne => (if_neg fun z => ?_).trans e⟩, .giv hg h.ok (fun p m => if_pos m) .nil, ?_, ?_, fun a m => .inr fun i y x hi hx m' => ?_⟩
      · show (if _ then _ else _) = _
        rw [if_neg]
        · exact R.fh _ _ e
        · intro m; rw [(h.ok.at_ m).1] at e; cases e
      · have e' : (if a ∈ fpW H u.wt v then none else H a) = some o := e
        split at e'
        · cases e'
        · exact e'
      · have q' : (if a ∈ fpW H u.wt v then none else H a) = none := q
        split at q'
        · rename_i m
          exact ⟨h.h0 a m, fun i y x hi hx m' => h.off i y x a hi hx m m'⟩
        · rw [q'] at e; cases e
      · obtain ⟨_, o', e', po⟩ := h.ok.at_ z
        rw [e] at e'
        cases e'
        exact ne po
      · rw [lents, if_neg (by rw [hl]; decide), lents]
        · exact .nil
        · intro _ _ _ _ z; cases z
      · rw [fpsOf, fpsOf]
        · rw [List.append_nil]; exact h.ok.nodup
        · intro _ _ _ _ z; cases z
      · rw [fpsOf, fpsOf] at m
        · rw [List.append_nil] at m
          exact h.off i y x a hi hx m m'
        · intro _ _ _ _ z; cases z
    unfold toWs at e
    rw [toWs] at e
    cases w with
    | sh d => cases ho
    | own xs => cases e; exact go (.mv xs) rfl rfl rfl
    | tr t => cases e; exact go (.mt t) rfl rfl rfl
theorem after_stay {js : List Nat} {ps : List (V × List Addr)} {cs : List Wt} {G : Hp} (R : Rel K P F H σ ρ) (S : Sub P σ ρ F G H) (g : GrowB K F G F' H' ps cs) (sl : SlA G σ ρ js ps) {i : Nat} (hi : i ∉ js) {u : Wt} {x : V} (hu : ρ[i]? = some (some u)) (hx : σ[i]? = some (some x)) : OkW K F' H' x u ∧ fpW H' u x = fpW H u x :=
  (R.at_ hu hx).ok.map g.f (fun p m => by
    obtain ⟨a, o, b, _⟩ := (R.at_ hu hx).ok.at_ m
    cases q : F' p with
    | none => rfl
    | some y =>
      rcases g.new p y q with h1 | h1
      · rw [a] at h1; cases h1
      · rw [S.cell hu hx m b] at h1; cases h1) fun p m => by
    obtain ⟨a, o, b, _⟩ := (R.at_ hu hx).ok.at_ m
    rw [b]
    refine g.h p o (S.cell hu hx m b) fun q hq m' => ?_
    obtain ⟨j, w, c1, c2, c3, c4⟩ := sl.mem hq
    rw [c2, (S.down R c4 c3).2] at m'
    have := R.sep i j u w x q.1 p hu c4 hx c3 m m'
    subst this
    exact hi c1
theorem Rel.after {js : List Nat} {ps : List (V × List Addr)} {cs : List Wt} {G : Hp} (R : Rel K P F H σ ρ) (S : Sub P σ ρ F G H) (g : GrowB K F G F' H' ps cs) (sl : SlA G σ ρ js ps) (nd : js.Nodup) : Rel K P F' H' σ (putBack js cs ρ) := by
  have lk : ∀ {k i : Nat}, js[k]? = some i → ∃ v w c, ps[k]? = some (v, fpW H w v) ∧ σ[i]? = some (some v) ∧ ρ[i]? = some (some w) ∧ cs[k]? = some c ∧ (putBack js cs ρ)[i]? = some (some c) := fun {k i} hk => by
    obtain ⟨v, w, a, b, c⟩ := sl.get hk
    have hkl : k < cs.length := by
      have := (List.getElem?_eq_some_iff.mp a).1
      have hc := g.len
      omega
    have hck : cs[k]? = some cs[k] := List.getElem?_eq_getElem hkl
    exact ⟨v, w, _, by rw [a, (S.down R c b).2], b, c, hck, putBack_in nd hk hck (List.getElem?_eq_some_iff.mp c).1⟩
  have sep1 : ∀ {i j : Nat} {w u : Wt} {v x : V} {p : Addr}, i ∈ js → j ∉ js → (putBack js cs ρ)[i]? = some (some w) → (putBack js cs ρ)[j]? = some (some u) → σ[i]? = some (some v) → σ[j]? = some (some x) → p ∈ fpW H' w v → p ∈ fpW H' u x → i = j := fun {i j w u v x p} hi hj h1 h2 h3 h4 m1 m2 => by
    obtain ⟨k, hk⟩ := List.getElem?_of_mem hi
    obtain ⟨v', w', c, a1, a2, a3, a4, a5⟩ := lk hk
    rw [a2] at h3
    cases h3
    rw [a5] at h1
    cases h1
    rw [putBack_not hj] at h2
    rw [(after_stay R S g sl hj h2 h4).2] at m2
    rcases (g.put k _ _ a1 a4).2.2 p m1 with z | z
    · exact R.sep i j w' u v x p a3 h2 a2 h4 z m2
    · exact absurd m2 (S.off R z h2 h4)
  exact {
    fh := g.fh
    f0 := R.f0.trans g.f
    th := fun p o h => by
      obtain ⟨u, e⟩ := R.th p o h
      exact g.th p u (S.mem e h)
    keep := fun p o h hb => by
      refine g.h p o (S.mem (R.keep p o h hb) h) fun q hq m => ?_
      obtain ⟨j, w, c1, c2, c3, c4⟩ := sl.mem hq
      rw [c2, (S.down R c4 c3).2] at m
      rcases (R.at_ c4 c3).h0 p m with z | ⟨z1, z2⟩
      · rw [z] at h; cases h
      · exact hb ⟨j, z1, z2⟩
    tb := fun t ht => ⟨tab_free (R.tb t ht).1 (S.tab t ht) fun o e => g.new t.1 o e, tab_map (S.tab t ht) fun p o e ne => g.h p o e fun q hq m => by
      obtain ⟨j, w, c1, c2, c3, c4⟩ := sl.mem hq
      rw [c2] at m
      obtain ⟨_, o', e', po⟩ := (S.down R c4 c3).1.at_ m
      rw [e] at e'
      cases e'
      exact ne po⟩
    new := fun p o h => (g.new p o h).elim (fun q => R.new p o q) fun q => .inr (S.h0 R q)
    len := by rw [putBack_len]; exact R.len
    slot := fun i w h => by
      by_cases hi : i ∈ js
      · obtain ⟨k, hk⟩ := List.getElem?_of_mem hi
        obtain ⟨v, w', c, a1, a2, a3, a4, a5⟩ := lk hk
        rw [a5] at h
        cases h
        obtain ⟨b1, b2, b3⟩ := g.put k _ _ a1 a4
        refine ⟨v, a2, .mk b2 fun p m => ?_⟩
        rcases b3 p m with z | z
        · exact (R.at_ a3 a2).h0 p z
        · exact .inl (S.h0 R z)
      · rw [putBack_not hi] at h
        obtain ⟨v, ev, q⟩ := R.slot i w h
        obtain ⟨a, b⟩ := after_stay R S g sl hi h ev
        exact ⟨v, ev, .mk a (by rw [b]; exact q.h0)⟩
    sep := fun i j w u v x p h1 h2 h3 h4 m1 m2 => by
      by_cases hi : i ∈ js
      · by_cases hj : j ∈ js
        · obtain ⟨k, hk⟩ := List.getElem?_of_mem hi
          obtain ⟨l, hl⟩ := List.getElem?_of_mem hj
          obtain ⟨v', w', c, a1, a2, a3, a4, a5⟩ := lk hk
          obtain ⟨x', u', d, b1, b2, b3, b4, b5⟩ := lk hl
          rw [a2] at h3; cases h3
          rw [b2] at h4; cases h4
          rw [a5] at h1; cases h1
          rw [b5] at h2; cases h2
          have := g.sep k l _ _ _ _ p a1 b1 a4 b4 m1 m2
          subst this
          rw [hk] at hl
          exact Option.some.inj hl
        · exact sep1 hi hj h1 h2 h3 h4 m1 m2
      · by_cases hj : j ∈ js
        · exact (sep1 hj hi h2 h1 h4 h3 m2 m1).symm
        · rw [putBack_not hi] at h1
          rw [putBack_not hj] at h2
          rw [(after_stay R S g sl hi h1 h3).2] at m1
          rw [(after_stay R S g sl hj h2 h4).2] at m2
          exact R.sep i j w u v x p h1 h2 h3 h4 m1 m2
    bor := fun j hj => by
      obtain ⟨b1, w, b2, b3⟩ := R.bor j hj
      refine ⟨b1, ?_⟩
      by_cases hi : j ∈ js
      · obtain ⟨k, hk⟩ := List.getElem?_of_mem hi
        obtain ⟨v, w', c, a1, a2, a3, a4, a5⟩ := lk hk
        exact ⟨c, a5, (g.put k _ _ a1 a4).1⟩
      · rw [putBack_not hi]; exact ⟨w, b2, b3⟩ }
theorem ResW.after {js : List Nat} {ps : List (V × List Addr)} {cs : List Wt} {G : Hp} {v : V} {w : Wt} (R : Rel K P F H σ ρ) (S : Sub P σ ρ F G H) (g : GrowB K F G F' H' ps cs) (sl : SlA G σ ρ js ps) (nd : js.Nodup) (fw : FinW K F' G H' ps cs v w) : ResW K P F' H' σ (putBack js cs ρ) v w := by
  obtain ⟨a, b⟩ := fw.ok
  refine .mk a (fun p m => S.h0 R (b p m).1) fun i u x p hi hx m m' => ?_
  by_cases hj : i ∈ js
  · obtain ⟨k, hk⟩ := List.getElem?_of_mem hj
    obtain ⟨v', w', a1, a2, a3⟩ := sl.get hk
    have hkl : k < cs.length := by
      have := (List.getElem?_eq_some_iff.mp a1).1
      have hc := g.len
      omega
    have hck : cs[k]? = some cs[k] := List.getElem?_eq_getElem hkl
    rw [putBack_in nd hk hck (List.getElem?_eq_some_iff.mp a3).1] at hi
    cases hi
    rw [a2] at hx
    cases hx
    exact (b p m).2 k _ _ a1 hck m'
  · rw [putBack_not hj] at hi
    rw [(after_stay R S g sl hj hi hx).2] at m'
    exact S.off R (b p m).1 hi hx m'
end
section
variable {X : Cx} {P : Pt} {Wx : WX} {pos p : Pos} {e : Expr} {es : List Expr} {fa : FA} {k n : Nat} {f : Addr} {fd : FuncData} {ps : List Str} {g : FnD} {x : Str}
theorem LA_call {σ : L2.St} {H : Hp} {Q : VK} (h : LW X.K P Wx (wCall n g fa) σ H Q) : tCallS (spF X.K n g) (WE Wx) (LA X.K P Wx fa) σ H Q := by
  obtain ⟨F, ρ, r, q⟩ := h
  refine LA.bindW r q fun as ρ1 F1 H1 vs s1 r1 p1 q => ?_
  cases e1 : toWs ρ1 as with
  | none => simp only [e1] at q; exact q.elim
  | some ws =>
    simp only [e1] at q
    by_cases nd : ws.length = n ∧ (slotsOf as).Nodup
    · rw [if_pos nd] at q
      obtain ⟨nl, nd⟩ := nd
      obtain ⟨G, S, aw, sl, an, _⟩ := args_ok r1 p1 e1 nd
      refine ⟨by rw [aw.length]; exact nl, F1, G, ws, S.fg, S.gh, aw, an, ?_⟩
      match e2 : g ws with
      | none => simp only [e2] at q; exact q.elim
      | some (.ok w, cs) =>
        simp only [e2] at q
        intro F2 H2 v gb fw
        exact q F2 H2 v gb.f (r1.after S gb sl nd) (.after r1 S gb sl nd fw)
      | some (.ex C fs, cs) =>
        simp only [e2] at q
        exact fun F2 H2 cls dd gb xp => q F2 H2 cls dd gb.f (r1.after S gb sl nd) xp
    · rw [if_neg nd] at q; exact q.elim
theorem w_call (G : FnOk X.prog X.w X.K X.mg X.base (L2.CX X.prog X.w) k f fd ps (spF X.K n g)) (hr : Room k X.A) (hg : Gl X x) (hm : X.mg x = some (.ref f)) (hk : PySem.W.keepIn X.K (.ref f) = true) (hb : Binds X.K fd ps []) (tk : Takes X Wx)
    (ha : PA X (e :: es) (LA X.K P Wx fa)) (hdb : (x == ("__debug__" : Str)) = false := by decide) (he : starEach (e :: es) X.env = (false, eval e X.env) :: starEach es X.env := by rfl) (hpl : (backTo pos (starEach es X.env)).any (·.1) = false := by rfl) :
    PE X (.Call (.Name x p) (e :: es) [] pos) (LW X.K P Wx (wCall n g fa)) :=
  PEm (pe_callS G hr hg hm hk hb (fun σ => passAt tk σ) ha hdb he hpl) fun _ _ _ h => LA_call h
end
/-! ### the def -/
def ownPos : Nat → List Aw → List Nat
  | _, [] => []
  | i, .sh _ :: ws => ownPos (i + 1) ws
  | i, .own _ :: ws => i :: ownPos (i + 1) ws
  | i, .mv _ :: ws => ownPos (i + 1) ws
  | i, .tr _ :: ws => i :: ownPos (i + 1) ws
  | i, .mt _ :: ws => ownPos (i + 1) ws
def getOwns (ρ : Rho) : List Nat → Option (List Wt)
  | [] => some []
  | j :: js => match ρ[j]? with
    | some (some (.own xs)) => (match getOwns ρ js with
      | some cs => some (.own xs :: cs)
      | none => none)
    | some (some (.tr t)) => (match getOwns ρ js with
      | some cs => some (.tr t :: cs)
      | none => none)
    | _ => none
def outs (bs : List Nat) (ρ : Rho) (r : RW) : Option (RW × List Wt) := match getOwns ρ bs with
  | some cs => some (r, cs)
  | none => none
def callF (n : Nat) (bs : List Nat) (fb : FS) : FnD := fun ws => if (ownPos 0 ws).all (fun j => bs.contains j) = true then (match fb (ws.map (fun w => some w.wt) ++ List.replicate (n - ws.length) none) with
  | some (.nx, ρ) => outs (ownPos 0 ws) ρ (.ok (.sh .non))
  | some (.rt w, ρ) => outs (ownPos 0 ws) ρ (.ok w)
  | some (.ex C fs, ρ) => outs (ownPos 0 ws) ρ (.ex C fs)
  | _ => none) else none
theorem getOwns_cons {ρ : Rho} {j : Nat} {js : List Nat} {cs : List Wt} (e : getOwns ρ (j :: js) = some cs) : ∃ w ds, w.isOwn = true ∧ ρ[j]? = some (some w) ∧ getOwns ρ js = some ds ∧ cs = w :: ds := by
  unfold getOwns at e
  match e1 : ρ[j]? with
  | none => simp only [e1] at e; cases e
  | some none => simp only [e1] at e; cases e
  | some (some (.sh d)) => simp only [e1] at e; cases e
  | some (some (.own xs)) =>
    simp only [e1] at e
    cases q : getOwns ρ js with
    | none => rw [q] at e; cases e
    | some ds => rw [q] at e; cases e; exact ⟨_, ds, rfl, rfl, rfl, rfl⟩
  | some (some (.tr t)) =>
    simp only [e1] at e
    cases q : getOwns ρ js with
    | none => rw [q] at e; cases e
    | some ds => rw [q] at e; cases e; exact ⟨_, ds, rfl, rfl, rfl, rfl⟩
theorem getOwns_len {ρ : Rho} : ∀ {bs : List Nat} {cs : List Wt}, getOwns ρ bs = some cs → cs.length = bs.length
  | [], _, e => by cases e; rfl
  | j :: js, cs, e => by
    obtain ⟨w, ds, _, _, q, rfl⟩ := getOwns_cons e
    simp [getOwns_len q]
theorem getOwns_get {ρ : Rho} : ∀ {bs : List Nat} {cs : List Wt} {k j : Nat} {c : Wt}, getOwns ρ bs = some cs → bs[k]? = some j → cs[k]? = some c → ρ[j]? = some (some c) ∧ c.isOwn = true
  | [], _, _, _, _, _, e, _ => by simp at e
  | j :: js, cs, k, i, c, e, h1, h2 => by
    obtain ⟨w, ds, z, e1, q, rfl⟩ := getOwns_cons e
    cases k with
    | zero => simp at h1 h2; subst h1; subst h2; exact ⟨e1, z⟩
    | succ k => exact getOwns_get (k := k) q (by simpa using h1) (by simpa using h2)
theorem ownPos_cons (n : Nat) (w : Aw) (ws : List Aw) : ownPos n (w :: ws) = if w.lent = true then n :: ownPos (n + 1) ws else ownPos (n + 1) ws := by
  cases w <;> rfl
theorem ownPos_get {G : Hp} : ∀ {vs : List V} {ws : List Aw} {n k j : Nat}, vs.length = ws.length → (ownPos n ws)[k]? = some j → ∃ v w, n ≤ j ∧ (lents G vs ws)[k]? = some (v, fpW G w.wt v) ∧ vs[j - n]? = some v ∧ ws[j - n]? = some w ∧ w.lent = true
  | _, [], _, _, _, _, e => by simp [ownPos] at e
  | [], _ :: _, _, _, _, hl, _ => by simp at hl
  | v :: vs, w :: ws, n, k, j, hl, e => by
    rw [ownPos_cons] at e
    rw [lents]
    by_cases h : w.lent = true
    · rw [if_pos h] at e ⊢
      cases k with
      | zero =>
        simp at e
        subst e
        exact ⟨v, w, Nat.le_refl _, by simp, by simp, by simp, h⟩
      | succ k =>
        obtain ⟨x, u, a, b, c, d, z⟩ := ownPos_get (G := G) (vs := vs) (ws := ws) (n := n + 1) (k := k) (j := j) (by simpa using hl) (by simpa using e)
        exact ⟨x, u, by omega, by simpa using b, by rw [show j - n = (j - (n + 1)) + 1 by omega]; exact c, by rw [show j - n = (j - (n + 1)) + 1 by omega]; exact d, z⟩
    · rw [if_neg h] at e ⊢
      obtain ⟨x, u, a, b, c, d, z⟩ := ownPos_get (G := G) (vs := vs) (ws := ws) (n := n + 1) (k := k) (j := j) (by simpa using hl) e
      exact ⟨x, u, by omega, b, by rw [show j - n = (j - (n + 1)) + 1 by omega]; exact c, by rw [show j - n = (j - (n + 1)) + 1 by omega]; exact d, z⟩
theorem ownPos_len {G : Hp} : ∀ {vs : List V} {ws : List Aw} {n : Nat}, vs.length = ws.length → (ownPos n ws).length = (lents G vs ws).length
  | [], [], _, _ => rfl
  | [], _ :: _, _, hl => by simp at hl
  | _ :: _, [], _, hl => by simp at hl
  | v :: vs, w :: ws, n, hl => by
    rw [ownPos_cons, lents]
    have := ownPos_len (G := G) (vs := vs) (ws := ws) (n := n + 1) (by simpa using hl)
    by_cases h : w.lent = true
    · rw [if_pos h, if_pos h]; simp [this]
    · rw [if_neg h, if_neg h]; exact this
theorem ownPos_mem : ∀ {ws : List Aw} {n i : Nat} {w : Aw}, ws[i]? = some w → w.lent = true → n + i ∈ ownPos n ws
  | [], _, _, _, e, _ => by simp at e
  | w :: ws, n, 0, _, e, h => by
    simp at e
    subst e
    rw [ownPos_cons, if_pos h]
    exact List.mem_cons_self
  | w :: ws, n, i + 1, u, e, h => by
    have := ownPos_mem (ws := ws) (n := n + 1) (i := i) (w := u) (by simpa using e) h
    rw [show n + (i + 1) = n + 1 + i by omega, ownPos_cons]
    split
    · exact List.mem_cons_of_mem _ this
    · exact this
theorem lents_pos {G : Hp} {vs : List V} {ws : List Aw} (hl : vs.length = ws.length) {q : V × List Addr} (h : q ∈ lents G vs ws) : ∃ (k j : Nat) (w : Aw), (ownPos 0 ws)[k]? = some j ∧ (lents G vs ws)[k]? = some q ∧ vs[j]? = some q.1 ∧ ws[j]? = some w ∧ q.2 = fpW G w.wt q.1 := by
  obtain ⟨k, hk⟩ := List.getElem?_of_mem h
  have h1 : k < (ownPos 0 ws).length := by rw [ownPos_len (G := G) hl]; exact (List.getElem?_eq_some_iff.mp hk).1
  have hj : (ownPos 0 ws)[k]? = some (ownPos 0 ws)[k] := List.getElem?_eq_getElem h1
  obtain ⟨v, w, _, b, c, d, _⟩ := ownPos_get (G := G) hl hj
  rw [hk] at b
  cases b
  exact ⟨k, _, w, hj, hk, c, d, rfl⟩
def rootAt (vs : List V) (j : Nat) : V := match vs[j]? with
  | some v => v
  | none => .non
def bfAt (G : Hp) (vs : List V) (ws : List Aw) (j : Nat) : List Addr := match vs[j]?, ws[j]? with
  | some v, some w => fpW G w.wt v
  | _, _ => []
abbrev Pst (F G : Hp) (vs : List V) (ws : List Aw) : Pt := ⟨F, G, ownPos 0 ws, rootAt vs, bfAt G vs ws, []⟩
section
variable {K : PySem.W.Frag}
theorem lent_own {w : Aw} (h : w.lent = true) : w.wt.isOwn = true := by cases w <;> first | rfl | cases h
theorem rel_start {N : List Str} {F G H : Hp} {vs : List V} {ws : List Aw} (fg : Same F G) (gh : Same G H) (aw : ArgW K F G H vs ws) (nd : (fpsOf H vs ws).Nodup) :
    Rel K (Pst F G vs ws) F H (L2.start N vs) (ws.map (fun w => some w.wt) ++ List.replicate (N.length - ws.length) none) := by
  have hl := aw.length
  have key : ∀ (i : Nat) (w : Wt), (ws.map (fun w => some w.wt) ++ List.replicate (N.length - ws.length) none)[i]? = some (some w) → ∃ u, ws[i]? = some u ∧ u.wt = w := fun i w h => by
    by_cases hi : i < ws.length
    · rw [List.getElem?_append_left (by simpa using hi), List.getElem?_map] at h
      cases q : ws[i]? with
      | none => rw [q] at h; cases h
      | some u => rw [q] at h; cases h; exact ⟨u, rfl, rfl⟩
    · rw [List.getElem?_append_right (by simpa using hi), List.getElem?_replicate] at h
      split at h <;> cases h
  have keyV : ∀ (i : Nat) (v : V), vs[i]? = some v → (L2.start N vs)[i]? = some (some v) := fun i v h => by
    unfold L2.start
    have hi : i < vs.length := (List.getElem?_eq_some_iff.mp h).1
    rw [List.getElem?_append_left (by simpa using hi), List.getElem?_map, h]
    rfl
  have keyB : ∀ (i : Nat) (v : V), i < vs.length → (L2.start N vs)[i]? = some (some v) → vs[i]? = some v := fun i v hi h => by
    unfold L2.start at h
    rw [List.getElem?_append_left (by simpa using hi), List.getElem?_map] at h
    cases q : vs[i]? with
    | none => rw [q] at h; cases h
    | some u => rw [q] at h; cases h; rfl
  refine ⟨fg.trans gh, .refl _, fun p o h => ⟨o, gh p o h⟩, fun p o h _ => gh p o h, fun p o h => .inl h, ?_, fun i w h => ?_, fun i j w u v x p h1 h2 h3 h4 m1 m2 => ?_, fun j hj => ?_, fun q hq => by cases hq⟩
  · simp [L2.start, hl]
  · obtain ⟨u, hu, rfl⟩ := key i w h
    obtain ⟨v, a, b, c, _⟩ := aw.get gh hu
    refine ⟨v, keyV i v a, .mk b fun p m => ?_⟩
    rcases c p m with z | ⟨z, y⟩
    · exact .inl z
    · refine .inr ⟨?_, ?_⟩
      · show i ∈ ownPos 0 ws
        have := ownPos_mem (n := 0) hu z
        simpa using this
      · show p ∈ bfAt G vs ws i
        unfold bfAt
        rw [a, hu]
        exact y
  · obtain ⟨w', e1, rfl⟩ := key i _ h1
    obtain ⟨u', e2, rfl⟩ := key j _ h2
    have l1 : i < vs.length := by rw [hl]; exact (List.getElem?_eq_some_iff.mp e1).1
    have l2 : j < vs.length := by rw [hl]; exact (List.getElem?_eq_some_iff.mp e2).1
    exact fps_sep nd (keyB i _ l1 h3) e1 (keyB j _ l2 h4) e2 m1 m2
  · obtain ⟨k, hk⟩ := List.getElem?_of_mem (show j ∈ ownPos 0 ws from hj)
    obtain ⟨v, w, _, _, c, d, z⟩ := ownPos_get (G := G) hl hk
    rw [Nat.sub_zero] at c d
    refine ⟨?_, w.wt, ?_, lent_own z⟩
    · have : rootAt vs j = v := by unfold rootAt; rw [c]
      show (L2.start N vs)[j]? = some (some (rootAt vs j))
      rw [this]
      exact keyV j _ c
    · have hi : j < ws.length := (List.getElem?_eq_some_iff.mp d).1
      rw [List.getElem?_append_left (by simpa using hi), List.getElem?_map, d]
      rfl
theorem growB_end {F G H F' H' : Hp} {vs : List V} {ws : List Aw} {σ : L2.St} {ρ : Rho} {cs : List Wt} (aw : ArgW K F G H vs ws) (R : Rel K (Pst F G vs ws) F' H' σ ρ) (hc : getOwns ρ (ownPos 0 ws) = some cs) : GrowB K F G F' H' (lents G vs ws) cs := by
  have hl := aw.length
  have at_ : ∀ {k : Nat} {q : V × List Addr} {c : Wt}, (lents G vs ws)[k]? = some q → cs[k]? = some c → ∃ j, (ownPos 0 ws)[k]? = some j ∧ σ[j]? = some (some q.1) ∧ ρ[j]? = some (some c) ∧ c.isOwn = true ∧ bfAt G vs ws j = q.2 := fun {k q c} hp hk => by
    have hk' : k < (ownPos 0 ws).length := by rw [← getOwns_len hc]; exact (List.getElem?_eq_some_iff.mp hk).1
    have hj : (ownPos 0 ws)[k]? = some (ownPos 0 ws)[k] := List.getElem?_eq_getElem hk'
    obtain ⟨v, w, _, b, c', d, z⟩ := ownPos_get (G := G) hl hj
    rw [Nat.sub_zero] at c' d
    rw [b] at hp
    cases hp
    obtain ⟨e1, e2⟩ := getOwns_get hc hj hk
    have e3 := (R.bor _ (List.mem_of_getElem? hj)).1
    have e4 : rootAt vs (ownPos 0 ws)[k] = v := by unfold rootAt; rw [c']
    refine ⟨_, hj, ?_, e1, e2, ?_⟩
    · have e5 : σ[(ownPos 0 ws)[k]]? = some (some (rootAt vs (ownPos 0 ws)[k])) := e3
      rw [e4] at e5
      exact e5
    · unfold bfAt; rw [c', d]
  exact {
    len := by rw [getOwns_len hc, ownPos_len (G := G) hl]
    f := R.f0
    fh := R.fh
    th := R.th
    h := fun p o h hp => R.keep p o h fun ⟨j, hj, e⟩ => by
      obtain ⟨k, hk⟩ := List.getElem?_of_mem (show j ∈ ownPos 0 ws from hj)
      obtain ⟨v, w, _, b, c, d, _⟩ := ownPos_get (G := G) hl hk
      rw [Nat.sub_zero] at c d
      have e' : p ∈ bfAt G vs ws j := e
      unfold bfAt at e'
      rw [c, d] at e'
      exact hp _ (List.mem_of_getElem? b) e'
    new := R.new
    put := fun k q c hp hk => by
      obtain ⟨j, a1, a2, a3, a4, a5⟩ := at_ hp hk
      refine ⟨a4, (R.at_ a3 a2).ok, fun p m => ?_⟩
      rcases (R.at_ a3 a2).h0 p m with z | ⟨_, z⟩
      · exact .inr z
      · have z' : p ∈ bfAt G vs ws j := z
        rw [a5] at z'
        exact .inl z'
    sep := fun k l q r c d p hp hq hk hl' m1 m2 => by
      obtain ⟨j, a1, a2, a3, a4, a5⟩ := at_ hp hk
      obtain ⟨i, b1, b2, b3, b4, b5⟩ := at_ hq hl'
      have := R.sep j i c d q.1 r.1 p a3 b3 a2 b2 m1 m2
      subst this
      have nd : ∀ (n : Nat) (ws : List Aw), (∀ i ∈ ownPos n ws, n ≤ i) ∧ (ownPos n ws).Nodup := by
        intro n ws
        induction ws generalizing n with
        | nil => exact ⟨fun i m => (by cases m), List.nodup_nil⟩
        | cons w ws ih =>
          rw [ownPos_cons]
          obtain ⟨z1, z2⟩ := ih (n + 1)
          split
          · refine ⟨fun i m => ?_, List.nodup_cons.mpr ⟨fun m => ?_, z2⟩⟩
            · rcases List.mem_cons.mp m with m | m
              · omega
              · have := z1 i m; omega
            · have := z1 n m; omega
          · exact ⟨fun i m => by have := z1 i m; omega, z2⟩
      have h1 := (List.getElem?_eq_some_iff.mp a1)
      have h2 := (List.getElem?_eq_some_iff.mp b1)
      obtain ⟨x1, y1⟩ := h1
      obtain ⟨x2, y2⟩ := h2
      exact (List.getElem_inj (nd 0 ws).2).mp (y1.trans y2.symm) }
theorem fin_end {F G H F' H' : Hp} {vs : List V} {ws : List Aw} {σ : L2.St} {ρ : Rho} {cs : List Wt} {v : V} {w : Wt} (aw : ArgW K F G H vs ws) (R : Rel K (Pst F G vs ws) F' H' σ ρ) (hc : getOwns ρ (ownPos 0 ws) = some cs) (rw_ : ResW K (Pst F G vs ws) F' H' σ ρ v w) : FinW K F' G H' (lents G vs ws) cs v w := by
  have hl := aw.length
  refine .mk ⟨rw_.ok, fun p m => ⟨rw_.h0 p m, fun k q c hp hk => ?_⟩⟩
  have hk' : k < (ownPos 0 ws).length := by rw [← getOwns_len hc]; exact (List.getElem?_eq_some_iff.mp hk).1
  have hj : (ownPos 0 ws)[k]? = some (ownPos 0 ws)[k] := List.getElem?_eq_getElem hk'
  obtain ⟨x, u, _, b, c', d, z⟩ := ownPos_get (G := G) hl hj
  rw [Nat.sub_zero] at c' d
  rw [b] at hp
  cases hp
  obtain ⟨e1, e2⟩ := getOwns_get hc hj hk
  have e3 : σ[(ownPos 0 ws)[k]]? = some (some (rootAt vs (ownPos 0 ws)[k])) := (R.bor _ (List.mem_of_getElem? hj)).1
  have e4 : rootAt vs (ownPos 0 ws)[k] = x := by unfold rootAt; rw [c']
  rw [e4] at e3
  exact rw_.off _ _ _ p e1 e3 m
end
section
variable {P : Program} {w : World} {K : PySem.W.Frag} {mg : Str → Option Value} {base : Heap}
theorem fn_okD {x qual : Str} {st : Stmt} {f : Addr} {fd : FuncData} {N ps : List Str} {k : Nat} (bs : List Nat) {fb : FS} (F : Fun K x qual st f fd) (S : FnScope N ps (defScope st))
    (hb : ∀ (cdv : Value) (A : Around) (outer : List Env) (s : Shared) (H : Hp) (E : XK) (Z : Pt), (∀ j, j ∈ Z.bs → j ∈ bs) → Room k (A.deeper (envOfC qual (defScope st) s.heap.objs.size f cdv)) →
      PSs (cxOf (L2.CX P w) P w K mg base N qual (defScope st) f cdv A outer s H E) (defBody st) (LS K Z (fun cls d _ H => E cls d H) fb)) :
    FnOk P w K mg base (L2.CX P w) (k + 1) f fd ps (spF K ps.length (callF N.length bs fb)) := by
  refine F.okX S (fun vs H Q E h => h.1) fun cdv A outer s H vs Q E hr h => ?_
  obtain ⟨hl, F0, G, ws, fg, gh, aw, nd, q⟩ := h
  unfold callF at q
  by_cases hbs : (ownPos 0 ws).all (fun j => bs.contains j) = true
  · rw [if_pos hbs] at q
    have hbs' : ∀ j, j ∈ ownPos 0 ws → j ∈ bs := fun j hj => by
      have := List.all_eq_true.mp hbs j hj
      simpa using this
    refine ⟨_, hb cdv A outer s H E (Pst F0 G vs ws) hbs' hr, F0, _, rel_start fg gh aw nd, ?_⟩
    have out : ∀ {ρ : Rho} {r : RW}, postF K F0 G (lents G vs ws) Q E (outs (ownPos 0 ws) ρ r) → ∃ cs, getOwns ρ (ownPos 0 ws) = some cs ∧ postF K F0 G (lents G vs ws) Q E (some (r, cs)) := fun {ρ r} h => by
      unfold outs at h
      cases e : getOwns ρ (ownPos 0 ws) with
      | none => rw [e] at h; exact h.elim
      | some cs => rw [e] at h; exact ⟨cs, rfl, h⟩
    match e : fb (ws.map (fun w => some w.wt) ++ List.replicate (N.length - ws.length) none) with
    | none => simp only [e] at q; exact q.elim
    | some (.nx, ρ) =>
      simp only [e] at q
      obtain ⟨cs, hc, q⟩ := out q
      intro F' H' σ s1 R
      exact q F' H' .non (growB_end aw R hc) .non
    | some (.bk, ρ) => simp only [e] at q; exact q.elim
    | some (.ct, ρ) => simp only [e] at q; exact q.elim
    | some (.rt w, ρ) =>
      simp only [e] at q
      obtain ⟨cs, hc, q⟩ := out q
      intro F' H' σ v s1 R rw_
      exact q F' H' v (growB_end aw R hc) (fin_end aw R hc rw_)
    | some (.ex C fs, ρ) =>
      simp only [e] at q
      obtain ⟨cs, hc, q⟩ := out q
      intro F' H' σ cls dd s1 R xp
      exact q F' H' cls dd (growB_end aw R hc) xp
  · rw [if_neg hbs] at q; exact q.elim
end
end DL
namespace DL
open PySem PySem.Spec PyProof.Rows L2
/-! ### targets -/
abbrev GD := Dt → Rho → Option Rho
/-- the slots but those of ts are as they were -/
structure But (ts : List Nat) (σ σ' : L2.St) : Prop where
  len : σ'.length = σ.length
  get : ∀ i : Nat, i ∉ ts → σ'[i]? = σ[i]?
theorem But.refl (ts : List Nat) (σ : L2.St) : But ts σ σ := ⟨rfl, fun _ _ => rfl⟩
theorem But.trans {ts us : List Nat} {σ σ1 σ2 : L2.St} (a : But ts σ σ1) (b : But us σ1 σ2) : But (ts ++ us) σ σ2 := ⟨b.len.trans a.len, fun i hi => by
  rw [List.mem_append, not_or] at hi
  rw [b.get i hi.2, a.get i hi.1]⟩
def LG (K : PySem.W.Frag) (P : Pt) (ts : List Nat) (g : GD) : TG := fun v σ H Q => ∃ F ρ d ρ', Rel K P F H σ ρ ∧ Rp K F d v ∧ g d ρ = some ρ' ∧ ∀ σ', Rel K P F H σ' ρ' → But ts σ σ' → Q σ' H
def LGs (K : PySem.W.Frag) (P : Pt) (ts : List Nat) (g : List Dt → Rho → Option Rho) : TGs := fun vs σ H Q => ∃ F ρ ds ρ', Rel K P F H σ ρ ∧ Rps K F ds vs ∧ g ds ρ = some ρ' ∧ ∀ σ', Rel K P F H σ' ρ' → But ts σ σ' → Q σ' H
def gN (i : Nat) : GD := fun d ρ => some (ρ.set i (some (.sh d)))
def gsNil : List Dt → Rho → Option Rho := fun ds ρ => match ds with | [] => some ρ | _ => none
def gsCons (g : GD) (gs : List Dt → Rho → Option Rho) : List Dt → Rho → Option Rho := fun ds ρ => match ds with
  | [] => none
  | d :: ds => match g d ρ with
    | none => none
    | some ρ1 => gs ds ρ1
def gT (n : Nat) (gs : List Dt → Rho → Option Rho) : GD := fun d ρ => match d with
  | .tup ds => if ds.length = n then gs ds ρ else none
  | .lst ds => if ds.length = n then gs ds ρ else none
  | _ => none
section
variable {X : Cx} {P : Pt} {pos : Pos}
theorem PGm {e : Expr} {t t' : TG} (h : PG X e t) (m : ∀ v σ H Q, t' v σ H Q → t v σ H Q) : PG X e t' := ⟨fun pins s σ H v u Q I r q => h.run pins s σ H v u Q I r (m v σ H Q q)⟩
theorem PG.or {e : Expr} {t t' : TG} (h : PG X e t) (h' : PG X e t') : PG X e (fun v σ H Q => t v σ H Q ∨ t' v σ H Q) := ⟨fun pins s σ H v u Q I r q => q.elim (fun q => h.run pins s σ H v u Q I r q) fun q => h'.run pins s σ H v u Q I r q⟩
theorem g_name (i : Nat) {x : Str} (hb : i ∉ P.bs) (hN : X.N.Nodup) (hx : Loc X.env.scope x) (hi : X.N[i]? = some x := by rfl) (hf : X.fn x = true ∨ X.env.scope.names.lookup x = some .local := by first | exact .inl rfl | exact .inr rfl | assumption) : PG X (.Name x pos) (LG X.K P [i] (gN i)) :=
  PGm (pg_name hN hi hx hf) fun v σ H Q h => by
    obtain ⟨F, ρ, d, ρ', r, p, e, q⟩ := h
    cases e
    exact q _ (r.asg (w := .sh d) hb p) ⟨List.length_set, fun j hj => List.getElem?_set_ne (fun e => hj (by simp [e]))⟩
end
section
variable {X : Cx} {P : Pt} {pos : Pos}
theorem PGsm {es : List Expr} {t t' : TGs} (h : PGs X es t) (m : ∀ v σ H Q, t' v σ H Q → t v σ H Q) : PGs X es t' := ⟨fun pins s σ H vs us Q I r q => h.run pins s σ H vs us Q I r (m vs σ H Q q)⟩
theorem g_nil : PGs X [] (LGs X.K P [] gsNil) := PGsm pgs_nil fun vs σ H Q h => by
  obtain ⟨F, ρ, ds, ρ', r, p, e, q⟩ := h
  cases p with
  | nil => cases e; exact ⟨rfl, q _ r (.refl _ _)⟩
  | cons _ _ => cases e
theorem g_cons {e : Expr} {es : List Expr} {ts us : List Nat} {g : GD} {gs : List Dt → Rho → Option Rho} (h1 : PG X e (LG X.K P ts g)) (h2 : PGs X es (LGs X.K P us gs))
    (hs : (assignEach (e :: es) X.env).map (·.2) = assign e X.env :: (assignEach es X.env).map (·.2) := by rfl) : PGs X (e :: es) (LGs X.K P (ts ++ us) (gsCons g gs)) := PGsm (pgs_cons h1 h2 hs) fun vs σ H Q h => by
  obtain ⟨F, ρ, ds, ρ', r, p, e, q⟩ := h
  cases p with
  | nil => cases e
  | cons p1 p2 =>
    rename_i d v ds vs
    unfold gsCons at e
    simp only [] at e
    cases e1 : g d ρ with
    | none => rw [e1] at e; cases e
    | some ρ1 =>
      rw [e1] at e
      exact ⟨v, vs, rfl, F, ρ, d, ρ1, r, p1, e1, fun σ' r' b1 => ⟨F, ρ1, ds, ρ', r', p2, e, fun σ2 r2 b2 => q σ2 r2 (b1.trans b2)⟩⟩
theorem g_tup {es : List Expr} {k : Nat} {ts : List Nat} {gs : List Dt → Rho → Option Rho} {n : Nat} (hc : X.calm = true) (h : PGs X es (LGs X.K P ts gs))
    (hn : (assignEach es X.env).length = n := by rfl) (hst : (assignEach es X.env).findIdx? (·.1) = none := by rfl) : PG X (.Tuple es k pos) (LG X.K P ts (gT n gs)) := PGm (PG.or (pg_tup hc h hn hst) (pg_lst hc h hn hst)) fun v σ H Q h => by
  obtain ⟨F, ρ, d, ρ', r, p, e, q⟩ := h
  cases p with
  | tup hq hr =>
    unfold gT at e
    simp only [] at e
    split at e
    · rename_i hl
      exact .inl ⟨_, _, rfl, same_sqT r.fh hq, by rw [← hr.length]; exact hl, F, ρ, _, ρ', r, hr, e, q⟩
    · cases e
  | lst hq hr =>
    unfold gT at e
    simp only [] at e
    split at e
    · rename_i hl
      exact .inr ⟨_, _, rfl, .inl (.inl (r.fh _ _ hq)), by rw [← hr.length]; exact hl, F, ρ, _, ρ', r, hr, e, q⟩
    · cases e
  | _ => cases e
end
def sAsgT (g : GD) (f : FE) : FS := bindES f fun d ρ => match g d ρ with
  | some ρ1 => some (.nx, ρ1)
  | none => none
def sPar (i j : Nat) (f : FA) : FS := fun ρ => match f ρ with
  | none => none
  | some (.ok [.val d, .val e], ρ1) => some (.nx, (ρ1.set i (some (.sh d))).set j (some (.sh e)))
  | some (.ok _, _) => none
  | some (.ex C fs, ρ1) => some (.ex C fs, ρ1)
section
variable {X : Cx} {P : Pt} {Wx : WX} {pos : Pos} {e tg : Expr} {fe : FE} {g : GD} {ts : List Nat}
theorem s_asgT (hg : PG X tg (LG X.K P ts g)) (he : PE X e (LE X.K P Wx fe)) (hs : swapsWithSole [tg] e pos.line X.env = pure false := by rfl) (hw : swappedStores [tg] e X.env = pure none := by rfl)
    (h1 : (assignEach [tg] X.env).map (·.2) = [assign tg X.env] := by rfl) : PS X (.Assign [tg] e pos) (LS X.K P Wx (sAsgT g fe)) := PSm (ps_asg he hg hs hw h1) fun D σ H h => by
  obtain ⟨F, ρ, r, q⟩ := h
  refine LE.bindS r q fun d ρ1 F1 H1 v s1 r1 p1 q1 => ?_
  cases e : g d ρ1 with
  | none => simp only [e] at q1; exact q1.elim
  | some ρ2 =>
    simp only [e] at q1
    exact ⟨F1, ρ1, d, ρ2, r1, p1, e, fun σ' r' _ => q1 F1 H1 σ' (.refl _) r'⟩
theorem s_par (i j : Nat) {x y : Str} {a b : Expr} {fa : FA} {px py pt : Pos} {kt k2 pt2} (hbi : i ∉ P.bs) (hbj : j ∉ P.bs) (hc : X.calm = true) (hN : X.N.Nodup) (ha : PA X [a, b] (LA X.K P Wx fa)) (hi : X.N[i]? = some x := by rfl) (hj : X.N[j]? = some y := by rfl) (hij : i ≠ j := by decide)
    (hx : X.env.scope.names.lookup x = some .local := by rfl) (hy : X.env.scope.names.lookup y = some .local := by rfl)
    (hw : swappedStores [.Tuple [.Name x px, .Name y py] kt pt] (.Tuple [a, b] k2 pt2) X.env = pure (some [x, y]) := by rfl)
    (hs : swapsWithSole [.Tuple [.Name x px, .Name y py] kt pt] (.Tuple [a, b] k2 pt2) pos.line X.env = pure false := by rfl) :
    PS X (.Assign [.Tuple [.Name x px, .Name y py] kt pt] (.Tuple [a, b] k2 pt2) pos) (LS X.K P Wx (sPar i j fa)) := PSm (ps_par hc hN hi hj hij hx hy ha hw hs) fun D σ H h => by
  obtain ⟨F, ρ, r, q⟩ := h
  refine ⟨F, ρ, r, ?_⟩
  unfold sPar at q
  match e : fa ρ with
  | none => simp only [e] at q; exact q.elim
  | some (.ex C fs, ρ1) => simp only [e] at q; exact fun F' H' cls dd a b c => q F' H' σ cls dd a b c
  | some (.ok [.val d, .val e'], ρ1) =>
    simp only [e] at q
    intro F1 H1 vs s1 r1 p1
    match vs, p1 with
    | _, .val (v := v) h1 (.val (v := w) h2 .nil) =>
      refine ⟨v, w, rfl, q F1 H1 _ s1 ?_⟩
      exact (r1.asg (w := .sh d) hbi h1).asg (w := .sh e') hbj h2
  | some (.ok [], ρ1) => simp only [e] at q; exact q.elim
  | some (.ok [_], ρ1) => simp only [e] at q; exact q.elim
  | some (.ok [.slot _, _], ρ1) => simp only [e] at q; exact q.elim
  | some (.ok [.tmp _, _], ρ1) => simp only [e] at q; exact q.elim
  | some (.ok [.val _, .slot _], ρ1) => simp only [e] at q; exact q.elim
  | some (.ok [.val _, .tmp _], ρ1) => simp only [e] at q; exact q.elim
  | some (.ok (_ :: _ :: _ :: _), ρ1) => simp only [e] at q; exact q.elim
end
/-! ### while -/
def whileD (c : FE) (b : FS) : Nat → FS
  | 0, _ => none
  | n + 1, ρ => match c ρ with
    | some (.ok (.bl true), ρ1) => (match b ρ1 with
      | some (.nx, ρ2) => whileD c b n ρ2
      | some (.ct, ρ2) => whileD c b n ρ2
      | some (.bk, ρ2) => some (.nx, ρ2)
      | some (.rt w, ρ2) => some (.rt w, ρ2)
      | some (.ex C fs, ρ2) => some (.ex C fs, ρ2)
      | none => none)
    | some (.ok (.bl false), ρ1) => some (.nx, ρ1)
    | some (.ex C fs, ρ1) => some (.ex C fs, ρ1)
    | _ => none
def sWhile (m : Rho → Nat) (c : FE) (b : FS) : FS := fun ρ => whileD c b (m ρ) ρ
section
variable {X : Cx} {P : Pt} {Wx : WX} {pos : Pos} {c : Expr} {body : List Stmt} {fc : FE} {fb : FS}
theorem s_while (m : Rho → Nat) (hp : PassesOwn (model X.prog X.w) X.A X.env X.xe) (hc : PT X c (LT X.K P Wx fc)) (hb : PSs X body (LS X.K P Wx fb)) : PS X (.While c body [] pos) (LS X.K P Wx (sWhile m fc fb)) :=
  PSm (ps_while hp hc hb) fun D σ H h => by
  obtain ⟨F, ρ, r, q⟩ := h
  refine ⟨fun n σ H => ∃ F' ρ', Same F F' ∧ Rel X.K P F' H σ ρ' ∧ postS X.K P Wx F' D (whileD fc fb n ρ'), ⟨m ρ, F, ρ, .refl _, r, q⟩, ?_⟩
  rintro n σ H ⟨F1, ρ1, s1, r1, q1⟩
  refine ⟨F1, ρ1, r1, ?_⟩
  cases n with
  | zero => exact q1.elim
  | succ n =>
    unfold whileD at q1
    match e : fc ρ1 with
    | none => simp only [e] at q1; exact q1.elim
    | some (.ex C fs, ρ2) => simp only [e] at q1; exact fun F' H' cls dd a b c => q1 F' H' σ cls dd a b c
    | some (.ok d, ρ2) =>
      simp only [e] at q1
      intro F2 H2 v s2 r2 p2
      cases p2 with
      | bl k =>
        refine ⟨k, rfl, ?_⟩
        cases k with
        | false => exact q1 F2 H2 σ s2 r2
        | true =>
          refine ⟨fun σ' H' => ∃ F' ρ', Same F F' ∧ Rel X.K P F' H' σ' ρ' ∧ postS X.K P Wx F' D (whileD fc fb n ρ'), fun σ' H' h => ⟨n, Nat.lt_succ_self n, h⟩, F2, ρ2, r2, ?_⟩
          match e2 : fb ρ2 with
          | none => simp only [e2] at q1; exact q1.elim
          | some (.nx, ρ3) => simp only [e2] at q1; exact fun F3 H3 σ3 s3 r3 => ⟨F3, ρ3, (s1.trans s2).trans s3, r3, postS.mono (s2.trans s3) q1⟩
          | some (.ct, ρ3) => simp only [e2] at q1; exact fun F3 H3 σ3 s3 r3 => ⟨F3, ρ3, (s1.trans s2).trans s3, r3, postS.mono (s2.trans s3) q1⟩
          | some (.bk, ρ3) => simp only [e2] at q1; exact fun F3 H3 σ3 s3 r3 => q1 F3 H3 σ3 (s2.trans s3) r3
          | some (.rt w, ρ3) => simp only [e2] at q1; exact fun F3 H3 σ3 v s3 r3 => q1 F3 H3 σ3 v (s2.trans s3) r3
          | some (.ex C fs, ρ3) => simp only [e2] at q1; exact fun F3 H3 σ3 cls dd s3 r3 => q1 F3 H3 σ3 cls dd (s2.trans s3) r3
      | _ => exact q1.elim
end
/-! ### what is walked -/
structure WalkD (K : PySem.W.Frag) (F : Hp) (J : It) (ds : List Dt) : Prop where
  goes : ∀ i H, i < ds.length → Same F H → J.go i H
  stops : ∀ H, Same F H → J.stop ds.length H
  yields : ∀ i H x H' (G : Hp), i < ds.length → Same F G → Same G H → J.yld i H x H' → ∃ G' d, ds[i]? = some d ∧ Grow G H G' H' ∧ Rp K G' d x
inductive RI where
  | ok (ds : List Dt) | ex (C : Str) (fs : List (Str × Dt))
abbrev FI := Rho → Option (RI × Rho)
section
variable (K : PySem.W.Frag) (P : Pt) (Wx : WX)
def postI (σ : L2.St) (F : Hp) (R : It → Hp → Prop) : Option (RI × Rho) → Prop
  | none => False
  | some (.ok ds, ρ) => ∀ F' H' J, Same F F' → Rel K P F' H' σ ρ → WalkD K F' J ds → R J H'
  | some (.ex C fs, ρ) => ∀ F' H' cls dd, Same F F' → Rel K P F' H' σ ρ → Xp K F' cls dd C fs → Wx cls dd σ H'
def LI (f : FI) : TI := fun σ H R => ∃ F ρ, Rel K P F H σ ρ ∧ postI K P Wx σ F R (f ρ)
end
def forD (g : GD) (b : FS) : List Dt → FS
  | [], ρ => some (.nx, ρ)
  | d :: ds, ρ => match g d ρ with
    | none => none
    | some ρ1 => match b ρ1 with
      | some (.nx, ρ2) => forD g b ds ρ2
      | some (.ct, ρ2) => forD g b ds ρ2
      | some (.bk, ρ2) => some (.nx, ρ2)
      | some (.rt w, ρ2) => some (.rt w, ρ2)
      | some (.ex C fs, ρ2) => some (.ex C fs, ρ2)
      | none => none
def sFor (fi : FI) (g : GD) (b : FS) : FS := fun ρ => match fi ρ with
  | none => none
  | some (.ok ds, ρ1) => forD g b ds ρ1
  | some (.ex C fs, ρ1) => some (.ex C fs, ρ1)
section
variable {X : Cx} {P : Pt} {Wx : WX} {pos : Pos} {tg iter : Expr} {body : List Stmt} {fi : FI} {g : GD} {ts : List Nat} {fb : FS}
theorem s_for (hp : PassesOwn (model X.prog X.w) X.A X.env X.xe) (hc : X.calm = true) (hi : PI X tg iter (LI X.K P Wx fi)) (hg : PG X tg (LG X.K P ts g)) (hb : PSs X body (LS X.K P Wx fb))
    (hs : ∀ x, foldedSetIterable iter X.env x = pure x := by intro _; rfl) : PS X (.For tg iter body [] pos) (LS X.K P Wx (sFor fi g fb)) :=
  PSm (ps_for hp hc hi hg hb hs) fun D σ H h => by
  obtain ⟨F, ρ, r, q⟩ := h
  refine ⟨F, ρ, r, ?_⟩
  unfold sFor at q
  match e : fi ρ with
  | none => simp only [e] at q; exact q.elim
  | some (.ex C fs, ρ1) => simp only [e] at q; exact fun F' H' cls dd a b c => q F' H' σ cls dd a b c
  | some (.ok ds, ρ1) =>
    simp only [e] at q
    intro F1 H1 J s1 r1 wk
    refine ⟨fun i m σ H => m = ds.length - i ∧ i ≤ ds.length ∧ ∃ F' ρ', Same F1 F' ∧ Rel X.K P F' H σ ρ' ∧ postS X.K P Wx F' D (forD g fb (ds.drop i) ρ'), ⟨ds.length, by simp, Nat.zero_le _, F1, ρ1, .refl _, r1, postS.mono s1 q⟩, ?_⟩
    rintro i m σ H ⟨rfl, hi, F2, ρ2, s2, r2, q2⟩
    by_cases hlt : i < ds.length
    · refine .inr ⟨wk.goes i H hlt (s2.trans r2.fh), fun σ' H' => ∃ F' ρ', Same F1 F' ∧ Rel X.K P F' H' σ' ρ' ∧ postS X.K P Wx F' D (forD g fb (ds.drop (i + 1)) ρ'), fun σ' H' h => ⟨ds.length - (i + 1), by omega, rfl, hlt, h⟩, fun x H' y => ?_⟩
      obtain ⟨G', d, k1, k2, k3⟩ := wk.yields i H x H' F2 hlt s2 r2.fh y
      have hd : ds.drop i = d :: ds.drop (i + 1) := by
        rw [List.drop_eq_getElem_cons hlt]
        congr 1
        rw [List.getElem?_eq_getElem hlt] at k1
        exact Option.some.inj k1
      rw [hd] at q2
      unfold forD at q2
      cases e2 : g d ρ2 with
      | none => simp only [e2] at q2; exact q2.elim
      | some ρ3 =>
        simp only [e2] at q2
        refine ⟨G', ρ2, d, ρ3, r2.grow k2, k3, e2, fun σ' r' _ => ⟨G', ρ3, r', ?_⟩⟩
        match e3 : fb ρ3 with
        | none => simp only [e3] at q2; exact q2.elim
        | some (.nx, ρ4) => simp only [e3] at q2; exact fun F3 H3 σ3 s3 r3 => ⟨F3, ρ4, (s2.trans k2.f).trans s3, r3, postS.mono (k2.f.trans s3) q2⟩
        | some (.ct, ρ4) => simp only [e3] at q2; exact fun F3 H3 σ3 s3 r3 => ⟨F3, ρ4, (s2.trans k2.f).trans s3, r3, postS.mono (k2.f.trans s3) q2⟩
        | some (.bk, ρ4) => simp only [e3] at q2; exact fun F3 H3 σ3 s3 r3 => q2 F3 H3 σ3 (k2.f.trans s3) r3
        | some (.rt w, ρ4) => simp only [e3] at q2; exact fun F3 H3 σ3 v s3 r3 => q2 F3 H3 σ3 v (k2.f.trans s3) r3
        | some (.ex C fs, ρ4) => simp only [e3] at q2; exact fun F3 H3 σ3 cls dd s3 r3 => q2 F3 H3 σ3 cls dd (k2.f.trans s3) r3
    · have e' : i = ds.length := by omega
      subst e'
      rw [List.drop_length] at q2
      exact .inl ⟨wk.stops H (s2.trans r2.fh), q2 F2 H σ (.refl _) r2⟩
end
/-! walks: lists, tuples, texts, ranges -/
def iterD : Dt → Option (List Dt)
  | .lst xs => some xs
  | .tup xs => some xs
  | .str z => some (z.cps.toList.map fun c => .str ⟨#[c]⟩)
  | _ => none
def iSeq (f : FE) : FI := fun ρ => match f ρ with
  | none => none
  | some (.ok d, ρ1) => (match iterD d with
    | some ds => some (.ok ds, ρ1)
    | none => none)
  | some (.ex C fs, ρ1) => some (.ex C fs, ρ1)
section
variable {K : PySem.W.Frag} {F : Hp} {a : Addr} {vs : List V} {ds : List Dt}
theorem walkD_list (h : SqL K F a vs) (r : Rps K F ds vs) : WalkD K F (Itl K a) ds where
  goes := fun i H hi s => walk_list.goes i H (by rw [← r.length]; exact hi) (s.seq h)
  stops := fun H s => by rw [r.length]; exact walk_list.stops H (s.seq h)
  yields := fun i H x H' G hi s1 s2 y => by
    obtain ⟨e, hx⟩ := walk_list.yields i H x H' (by rw [← r.length]; exact hi) ((s1.trans s2).seq h) y
    obtain ⟨d, k1, k2⟩ := r.getV hx
    subst e
    exact ⟨G, d, k1, Grow.refl s2, k2.mono s1⟩
theorem walkD_tup (h : SqT K F a vs) (r : Rps K F ds vs) : WalkD K F (Itt K a) ds where
  goes := fun i H hi s => walk_tup.goes i H (by rw [← r.length]; exact hi) (same_sqT s h)
  stops := fun H s => by rw [r.length]; exact walk_tup.stops H (same_sqT s h)
  yields := fun i H x H' G hi s1 s2 y => by
    obtain ⟨e, hx⟩ := walk_tup.yields i H x H' (by rw [← r.length]; exact hi) (same_sqT (s1.trans s2) h) y
    obtain ⟨d, k1, k2⟩ := r.getV hx
    subst e
    exact ⟨G, d, k1, Grow.refl s2, k2.mono s1⟩
theorem walkD_str {z : Str} : WalkD K F (Its z) (z.cps.toList.map fun c => .str ⟨#[c]⟩) where
  goes := fun i H hi s => walk_str.goes i H (by simpa using hi) trivial
  stops := fun H s => by simpa using walk_str.stops H trivial
  yields := fun i H x H' G hi s1 s2 y => by
    obtain ⟨e, c, hc, hx⟩ := walk_str.yields i H x H' (by simpa using hi) trivial y
    subst e
    subst hx
    refine ⟨G, .str ⟨#[c]⟩, ?_, Grow.refl s2, .str _⟩
    rw [List.getElem?_map, Array.getElem?_toList, hc]
    rfl
theorem walkD_range {lo : Int} {n : Nat} : WalkD K F (Itr lo n) ((List.range n).map fun i => .int (lo + (i : Nat))) where
  goes := fun i H hi s => walk_range.goes i H (by simpa using hi) trivial
  stops := fun H s => by simpa using (walk_range (lo := lo) (n := n)).stops H trivial
  yields := fun i H x H' G hi s1 s2 y => by
    have hi' : i < n := by simpa using hi
    obtain ⟨e, hx⟩ := walk_range.yields i H x H' hi' trivial y
    subst e
    subst hx
    refine ⟨G, .int (lo + (i : Nat)), ?_, Grow.refl s2, .int _⟩
    simp [List.getElem?_map, List.getElem?_range hi']
end
section
variable {X : Cx} {P : Pt} {Wx : WX} {pos p : Pos} {tg l : Expr} {f : FE}
theorem PI.or {wi wi' : TI} (h : PI X tg l wi) (h' : PI X tg l wi') : PI X tg l (fun σ H R => wi σ H R ∨ wi' σ H R) := ⟨fun pins s σ H R I q => q.elim (fun q => h.run pins s σ H R I q) fun q => h'.run pins s σ H R I q⟩
theorem PIm {wi wi' : TI} (h : PI X tg l wi) (m : ∀ σ H R, wi' σ H R → wi σ H R) : PI X tg l wi' := ⟨fun pins s σ H R I q => h.run pins s σ H R I (m σ H R q)⟩
theorem i_seq (hl : PE X l (LE X.K P Wx f)) : PI X tg l (LI X.K P Wx (iSeq f)) := PIm (PI.or (pi_list hl) (PI.or (pi_tup hl) (pi_str hl))) fun σ H R h => by
  obtain ⟨F, ρ, r, q⟩ := h
  unfold iSeq at q
  match e : f ρ with
  | none => simp only [e] at q; exact q.elim
  | some (.ex C fs, ρ1) => simp only [e] at q; exact .inl ⟨F, ρ, r, by rw [e]; exact q⟩
  | some (.ok d, ρ1) =>
    simp only [e] at q
    match d with
    | .lst xs =>
      refine .inl ⟨F, ρ, r, ?_⟩
      rw [e]
      intro F1 H1 v s1 r1 p1
      cases p1 with
      | lst hq hr => exact ⟨_, rfl, ⟨_, .inl (.inl (r1.fh _ _ hq))⟩, q F1 H1 _ s1 r1 (walkD_list (.inl (.inl hq)) hr)⟩
    | .tup xs =>
      refine .inr (.inl ⟨F, ρ, r, ?_⟩)
      rw [e]
      intro F1 H1 v s1 r1 p1
      cases p1 with
      | tup hq hr => exact ⟨_, rfl, ⟨_, same_sqT r1.fh hq⟩, q F1 H1 _ s1 r1 (walkD_tup hq hr)⟩
    | .str z =>
      refine .inr (.inr ⟨F, ρ, r, ?_⟩)
      rw [e]
      intro F1 H1 v s1 r1 p1
      cases p1 with
      | str z => exact ⟨_, rfl, q F1 H1 _ s1 r1 walkD_str⟩
    | .non => exact q.elim
    | .bl _ => exact q.elim
    | .int _ => exact q.elim
    | .ref _ => exact q.elim
    | .ty _ => exact q.elim
    | .scr _ => exact q.elim
    | .fn _ => exact q.elim
    | .dK _ => exact q.elim
    | .obj _ _ => exact q.elim
def rangeD : List Dt → Option (List Dt)
  | [.int j] => if -(2 ^ 62) ≤ j ∧ j < 2 ^ 62 then some ((List.range j.toNat).map fun i => .int (0 + (i : Nat))) else none
  | _ => none
def rangeD2 : List Dt → Option (List Dt)
  | [.int i, .int j] => if -(2 ^ 62) ≤ i ∧ i < 2 ^ 62 ∧ -(2 ^ 62) ≤ j ∧ j < 2 ^ 62 then some ((List.range (j - i).toNat).map fun k => .int (i + (k : Nat))) else none
  | _ => none
def iArgs (o : List Dt → Option (List Dt)) (f : FA) : FI := fun ρ => match f ρ with
  | none => none
  | some (.ok as, ρ1) => (match vals as with
    | some ds => (match o ds with
      | some es => some (.ok es, ρ1)
      | none => none)
    | none => none)
  | some (.ex C fs, ρ1) => some (.ex C fs, ρ1)
theorem LA.bindI {o : List Dt → Option (List Dt)} {f : FA} {R : It → Hp → Prop} {S : List V → Hp → Prop} {σ : L2.St} {H : Hp} (h : LI X.K P Wx (iArgs o f) σ H R)
    (hk : ∀ ds es F1 H1 vs, Rps X.K F1 ds vs → Same F1 H1 → o ds = some es → (∀ J, WalkD X.K F1 J es → R J H1) → S vs H1) : LA X.K P Wx f σ H S := by
  obtain ⟨F, ρ, r, q⟩ := h
  refine ⟨F, ρ, r, ?_⟩
  unfold iArgs at q
  match e : f ρ with
  | none => simp only [e] at q; exact q.elim
  | some (.ex C fs, ρ1) => simp only [e] at q; exact q
  | some (.ok as, ρ1) =>
    simp only [e] at q
    cases e1 : vals as with
    | none => simp only [e1] at q; exact q.elim
    | some ds =>
      simp only [e1] at q
      cases e2 : o ds with
      | none => simp only [e2] at q; exact q.elim
      | some es =>
        simp only [e2] at q
        exact fun F1 H1 vs s1 r1 p1 => hk ds es F1 H1 vs (vals_ok p1 e1) r1.fh e2 fun J w => q F1 H1 J s1 r1 w
theorem i_range1 {a : Expr} {fa : FA} (hg : Gl X "range") (hm : X.mg "range" = none) (ha : PA X [a] (LA X.K P Wx fa)) (hs : starEach [a] X.env = [(false, eval a X.env)] := by rfl) : PI X tg (.Call (.Name "range" p) [a] [] pos) (LI X.K P Wx (iArgs rangeD fa)) :=
  PIm (pi_range1 hg hm ha hs) fun σ H R h => LA.bindI h fun ds es F1 H1 vs rp sF e k => by
    match ds, rp, e with
    | [.int j], .cons (.int _) .nil, e =>
      unfold rangeD at e
      simp only [] at e
      split at e
      · rename_i hj
        cases e
        exact ⟨j, rfl, hj.1, hj.2, k _ walkD_range⟩
      · cases e
theorem i_range2 {a b : Expr} {fa : FA} (hg : Gl X "range") (hm : X.mg "range" = none) (ha : PA X [a, b] (LA X.K P Wx fa)) (hs : starEach [a, b] X.env = [(false, eval a X.env), (false, eval b X.env)] := by rfl) (hs2 : starEach [b] X.env = [(false, eval b X.env)] := by rfl) : PI X tg (.Call (.Name "range" p) [a, b] [] pos) (LI X.K P Wx (iArgs rangeD2 fa)) :=
  PIm (pi_range2 hg hm ha hs hs2) fun σ H R h => LA.bindI h fun ds es F1 H1 vs rp sF e k => by
    match ds, rp, e with
    | [.int i, .int j], .cons (.int _) (.cons (.int _) .nil), e =>
      unfold rangeD2 at e
      simp only [] at e
      split at e
      · rename_i hj
        cases e
        exact ⟨i, j, rfl, hj, k _ walkD_range⟩
      · cases e
end
end DL
namespace DL
open PySem PySem.Spec PyProof.Rows L2
/-! ### operators by data -/
def dAdd : Dt → Dt → Option Dt
  | .int i, .int j => some (.int (i + j))
  | .str x, .str y => if x.length + y.length ≤ 1000000 then some (.str (x ++ y)) else none
  | .tup xs, .tup ys => if xs.length + ys.length ≤ 100000 then some (.tup (xs ++ ys)) else none
  | .lst xs, .lst ys => if xs.length + ys.length ≤ 100000 then some (.lst (xs ++ ys)) else none
  | _, _ => none
def dSub : Dt → Dt → Option Dt
  | .int i, .int j => some (.int (i - j))
  | _, _ => none
def dMul : Dt → Dt → Option Dt
  | .int i, .int j => if i.natAbs.log2 + j.natAbs.log2 < 1000000 then some (.int (i * j)) else none
  | _, _ => none
def dFdiv : Dt → Dt → Option Dt
  | .int i, .int j => if j ≠ 0 ∧ j.natAbs.log2 < 9000 then some (.int (i.fdiv j)) else none
  | _, _ => none
def dMod : Dt → Dt → Option Dt
  | .int i, .int j => if j ≠ 0 then some (.int (i.fmod j)) else none
  | _, _ => none
def dPow : Dt → Dt → Option Dt
  | .int i, .int j => if 0 ≤ j ∧ j ≤ 1000000 ∧ i.natAbs < 2 ^ 64 then some (.int (i ^ j.toNat)) else none
  | _, _ => none
def dNeg : Dt → Option Dt
  | .int i => some (.int (-i))
  | _ => none
def dLt : Dt → Dt → Option Dt
  | .int i, .int j => some (.bl (decide (i < j)))
  | _, _ => none
def dLe : Dt → Dt → Option Dt
  | .int i, .int j => some (.bl (decide (i ≤ j)))
  | _, _ => none
def dGt : Dt → Dt → Option Dt
  | .int i, .int j => some (.bl (decide (j < i)))
  | _, _ => none
def dGe : Dt → Dt → Option Dt
  | .int i, .int j => some (.bl (decide (j ≤ i)))
  | _, _ => none
theorem sz1m {n : Nat} (h : n ≤ 1000000) : n ≤ sizeLine := Nat.le_trans h (by decide)
section
variable {X : Cx}
theorem op_fdivZ : OpR X (binaryOp .FloorDiv) (rI (fun _ j => j ≠ 0 ∧ j.natAbs.log2 < 9000) fun i j => .int (i.fdiv j)) := opI fun _ _ _ _ _ _ _ hc q => floordiv_int hc.1 q (.inl (PyProof.noPylong_of_log2 hc.2))
def rAddA (K : PySem.W.Frag) : R2 := fun x y H Q => rI0 (fun i j => .int (i + j)) x y H Q ∨ (∃ i j, x = .str i ∧ y = .str j ∧ i.length + j.length ≤ sizeLine ∧ Q (.str (i ++ j)) H) ∨ rCatA K x y H Q ∨ rCat x y H Q
theorem op_addA : OpR X (binaryOp .Add) (rAddA X.K) := op_add.or (op_add_str.or (op_catA.or op_cat))
theorem lay_lst {K : PySem.W.Frag} {F H : Hp} {ds : List Dt} {vs : List V} {p : Addr} {Q : VK} (s : Same F H) (np : H p = none) (hr : Rps K F ds vs) (q : ∀ F' H' z, Grow F H F' H' → Rp K F' (.lst ds) z → Q z H') : Q (.ref p) (upd H p (.lst vs)) :=
  have gg := Grow.lay (o := .lst vs) s np
  q _ _ _ gg (.lst upd_same (hr.mono gg.f))
theorem lay_tup {K : PySem.W.Frag} {F H : Hp} {ds : List Dt} {vs : List V} {p : Addr} {Q : VK} (s : Same F H) (np : H p = none) (hr : Rps K F ds vs) (q : ∀ F' H' z, Grow F H F' H' → Rp K F' (.tup ds) z → Q z H') : Q (.ref p) (upd H p (.tup vs)) :=
  have gg := Grow.lay (o := .tup vs) s np
  q _ _ _ gg (.tup (.inl (.inl upd_same)) (hr.mono gg.f))
theorem od_add : OpD X.K (rAddA X.K) dAdd := by
  intro d e g h F H x y Q s hd he q
  cases hd with
  | int i =>
    cases he with
    | int j => cases h; exact .inl ⟨i, j, rfl, rfl, q F H _ (Grow.refl s) (.int _)⟩
    | _ => cases h
  | str z =>
    cases he with
    | str z2 =>
      unfold dAdd at h
      simp only [] at h
      split at h
      · rename_i hl
        cases h
        exact .inr (.inl ⟨z, z2, rfl, rfl, sz1m hl, q F H _ (Grow.refl s) (.str _)⟩)
      · cases h
    | _ => cases h
  | tup hq hr =>
    cases he with
    | tup hq2 hr2 =>
      unfold dAdd at h
      simp only [] at h
      split at h
      · rename_i hl
        cases h
        refine .inr (.inr (.inl ⟨_, _, _, _, rfl, rfl, same_sqT s hq, same_sqT s hq2, by rw [← hr.length, ← hr2.length]; exact sz1000 hl, fun e => ?_, fun e1 e2 => ?_, fun e1 e2 p np => ?_⟩))
        · subst e
          cases hr
          exact q F H _ (Grow.refl s) (.tup hq2 hr2)
        · subst e2
          cases hr2
          rw [List.append_nil] at q
          exact q F H _ (Grow.refl s) (.tup hq hr)
        · exact lay_tup s np (hr.append hr2) q
      · cases h
    | _ => cases h
  | lst hq hr =>
    cases he with
    | lst hq2 hr2 =>
      unfold dAdd at h
      simp only [] at h
      split at h
      · rename_i hl
        cases h
        refine .inr (.inr (.inr ⟨_, _, _, _, rfl, rfl, s _ _ hq, s _ _ hq2, by rw [← hr.length, ← hr2.length]; exact sz1000 hl, fun p np => ?_⟩))
        exact lay_lst s np (hr.append hr2) q
      · cases h
    | _ => cases h
  | _ => cases h
theorem od_I0 {gi : Int → Int → Dt} {gv : Int → Int → V} (hg : ∀ F i j, Rp X.K F (gi i j) (gv i j)) {o : Dt → Dt → Option Dt} (ho : ∀ d e g, o d e = some g → ∃ i j, d = .int i ∧ e = .int j ∧ g = gi i j) : OpD X.K (rI0 gv) o := by
  intro d e g h F H x y Q s hd he q
  obtain ⟨i, j, rfl, rfl, rfl⟩ := ho d e g h
  cases hd
  cases he
  exact ⟨i, j, rfl, rfl, q F H _ (Grow.refl s) (hg F i j)⟩
theorem od_I {C : Int → Int → Prop} {gi : Int → Int → Dt} {gv : Int → Int → V} (hg : ∀ F i j, Rp X.K F (gi i j) (gv i j)) {o : Dt → Dt → Option Dt} (ho : ∀ d e g, o d e = some g → ∃ i j, d = .int i ∧ e = .int j ∧ C i j ∧ g = gi i j) : OpD X.K (rI C gv) o := by
  intro d e g h F H x y Q s hd he q
  obtain ⟨i, j, rfl, rfl, c, rfl⟩ := ho d e g h
  cases hd
  cases he
  exact ⟨i, j, rfl, rfl, c, q F H _ (Grow.refl s) (hg F i j)⟩
theorem od_sub : OpD X.K (rI0 fun i j => .int (i - j)) dSub := od_I0 (gi := fun i j => .int (i - j)) (fun _ _ _ => .int _) fun d e g h => by
  unfold dSub at h
  split at h
  · cases h; exact ⟨_, _, rfl, rfl, rfl⟩
  · cases h
theorem od_lt : OpD X.K (rI0 fun i j => .bl (decide (i < j))) dLt := od_I0 (gi := fun i j => .bl (decide (i < j))) (fun _ _ _ => .bl _) fun d e g h => by
  unfold dLt at h
  split at h
  · cases h; exact ⟨_, _, rfl, rfl, rfl⟩
  · cases h
theorem od_le : OpD X.K (rI0 fun i j => .bl (decide (i ≤ j))) dLe := od_I0 (gi := fun i j => .bl (decide (i ≤ j))) (fun _ _ _ => .bl _) fun d e g h => by
  unfold dLe at h
  split at h
  · cases h; exact ⟨_, _, rfl, rfl, rfl⟩
  · cases h
theorem od_gt : OpD X.K (rI0 fun i j => .bl (decide (j < i))) dGt := od_I0 (gi := fun i j => .bl (decide (j < i))) (fun _ _ _ => .bl _) fun d e g h => by
  unfold dGt at h
  split at h
  · cases h; exact ⟨_, _, rfl, rfl, rfl⟩
  · cases h
theorem od_ge : OpD X.K (rI0 fun i j => .bl (decide (j ≤ i))) dGe := od_I0 (gi := fun i j => .bl (decide (j ≤ i))) (fun _ _ _ => .bl _) fun d e g h => by
  unfold dGe at h
  split at h
  · cases h; exact ⟨_, _, rfl, rfl, rfl⟩
  · cases h
theorem od_mul : OpD X.K (rI CMulW fun i j => .int (i * j)) dMul := od_I (gi := fun i j => .int (i * j)) (fun _ _ _ => .int _) fun d e g h => by
  unfold dMul at h
  split at h
  · split at h
    · cases h; exact ⟨_, _, rfl, rfl, by assumption, rfl⟩
    · cases h
  · cases h
theorem od_fdiv : OpD X.K (rI (fun _ j => j ≠ 0 ∧ j.natAbs.log2 < 9000) fun i j => .int (i.fdiv j)) dFdiv := od_I (gi := fun i j => .int (i.fdiv j)) (fun _ _ _ => .int _) fun d e g h => by
  unfold dFdiv at h
  split at h
  · split at h
    · cases h; exact ⟨_, _, rfl, rfl, by assumption, rfl⟩
    · cases h
  · cases h
theorem od_mod : OpD X.K (rI (fun _ j => j ≠ 0) fun i j => .int (i.fmod j)) dMod := od_I (gi := fun i j => .int (i.fmod j)) (fun _ _ _ => .int _) fun d e g h => by
  unfold dMod at h
  split at h
  · split at h
    · cases h; exact ⟨_, _, rfl, rfl, by assumption, rfl⟩
    · cases h
  · cases h
theorem od_pow : OpD X.K (rI CPow fun i j => .int (i ^ j.toNat)) dPow := od_I (gi := fun i j => .int (i ^ j.toNat)) (fun _ _ _ => .int _) fun d e g h => by
  unfold dPow at h
  split at h
  · split at h
    · cases h; exact ⟨_, _, rfl, rfl, by assumption, rfl⟩
    · cases h
  · cases h
theorem ud_neg : UnD X.K (rU fun i => .int (-i)) dNeg := by
  intro d g h F H x Q s hd q
  cases hd with
  | int i => cases h; exact ⟨i, rfl, q F H _ (Grow.refl s) (.int _)⟩
  | _ => cases h
end
/-! equality -/
mutual
def toPy : Dt → PyData
  | .non => .none
  | .bl b => .bool b
  | .int i => .int i
  | .str x => .str x
  | .tup xs => .tuple (toPys xs)
  | .lst xs => .list (toPys xs)
  | .ref _ => .dict []
  | .ty _ => .dict []
  | .scr _ => .dict []
  | .fn _ => .dict []
  | .dK _ => .dict []
  | .obj _ _ => .dict []
  | .dT _ => .dict []
def toPys : List Dt → List PyData
  | [] => []
  | d :: ds => toPy d :: toPys ds
end
mutual
theorem Rp.dp {K : PySem.W.Frag} {F H : Hp} (s : Same F H) : ∀ {d : Dt} {v : V}, Rp K F d v → (toPy d).canLay0 = true → Dp K H v (toPy d)
  | _, _, .non, _ => by simp only [toPy]; exact .non
  | _, _, .bl b, _ => by simp only [toPy]; exact .bl b
  | _, _, .int i, _ => by simp only [toPy]; exact .int i
  | _, _, .str x, _ => by simp only [toPy]; exact .str x
  | _, _, .tup h r, c => by
    simp only [toPy] at c ⊢
    exact .tup (same_sqT s h) (Rps.dp s r (by simpa only [PyData.canLay0] using c))
  | _, _, .lst h r, c => by
    simp only [toPy] at c ⊢
    exact .lst (.inl (.inl (s _ _ h))) (Rps.dp s r (by simpa only [PyData.canLay0] using c))
  | _, _, .ref _, c => by simp [toPy, PyData.canLay0] at c
  | _, _, .ty _, c => by simp [toPy, PyData.canLay0] at c
  | _, _, .scr _, c => by simp [toPy, PyData.canLay0] at c
  | _, _, .fn _, c => by simp [toPy, PyData.canLay0] at c
  | _, _, .dK _ _ _, c => by simp [toPy, PyData.canLay0] at c
  | _, _, .obj _ _ _ _, c => by simp [toPy, PyData.canLay0] at c
  | _, _, .dT _ _ _, c => by simp [toPy, PyData.canLay0] at c
theorem Rps.dp {K : PySem.W.Frag} {F H : Hp} (s : Same F H) : ∀ {ds : List Dt} {vs : List V}, Rps K F ds vs → PyData.canLayAll0 (toPys ds) = true → DpAll K H vs (toPys ds)
  | _, _, .nil, _ => by simp only [toPys]; exact .nil
  | _, _, .cons h r, c => by
    simp only [toPys, PyData.canLayAll0, Bool.and_eq_true] at c ⊢
    exact .cons (Rp.dp s h c.1) (Rps.dp s r c.2)
end
def okPy (d : Dt) : Bool := SeqAt.shaped (toPy d)
def eqB : Dt → Dt → Option Bool
  | .int i, .int j => some (decide (i = j))
  | .str x, .str y => some (decide (x = y))
  | .bl x, .bl y => some (decide (x = y))
  | d, e => if okPy d = true ∧ okPy e = true then some (PyData.eqv (toPy d) (toPy e)) else none
def dEq (d e : Dt) : Option Dt := (eqB d e).map .bl
def dNe (d e : Dt) : Option Dt := (eqB d e).map fun b => .bl (!b)
def isNon : Dt → Bool
  | .non => true
  | _ => false
def dIs : Dt → Dt → Option Dt
  | d, .non => some (.bl (isNon d))
  | _, _ => none
def dIsNot : Dt → Dt → Option Dt
  | d, .non => some (.bl (!isNon d))
  | _, _ => none
section
variable {X : Cx}
theorem isNon_ok {K : PySem.W.Frag} {F : Hp} {d : Dt} {v : V} (h : Rp K F d v) : decide (v = .non) = isNon d := by
  cases h <;> rfl
theorem od_is : OpD X.K (fun x y H Q => y = .non ∧ Q (.bl (decide (x = .non))) H) dIs := by
  intro d e g h F H x y Q s hd he q
  cases he with
  | non =>
    cases h
    refine ⟨rfl, ?_⟩
    rw [isNon_ok hd]
    exact q F H _ (Grow.refl s) (.bl _)
  | _ => cases h
theorem od_isNot : OpD X.K (fun x y H Q => y = .non ∧ Q (.bl (!decide (x = .non))) H) dIsNot := by
  intro d e g h F H x y Q s hd he q
  cases he with
  | non =>
    cases h
    refine ⟨rfl, ?_⟩
    rw [isNon_ok hd]
    exact q F H _ (Grow.refl s) (.bl _)
  | _ => cases h
theorem eqB_rule {d e : Dt} {b : Bool} (h : eqB d e = some b) {F H : Hp} {x y : V} (s : Same F H) (hd : Rp X.K F d x) (he : Rp X.K F e y) :
    (scal x y = true ∧ decide (x = y) = b) ∨ (∃ d' e', Dp X.K H x d' ∧ Dp X.K H y e' ∧ SeqAt.shaped d' = true ∧ SeqAt.shaped e' = true ∧ PyData.eqv d' e' = b) := by
  unfold eqB at h
  split at h
  · cases hd; cases he; cases h
    refine .inl ⟨rfl, ?_⟩
    simp
  · cases hd; cases he; cases h
    refine .inl ⟨rfl, ?_⟩
    simp
  · cases hd; cases he; cases h
    refine .inl ⟨rfl, ?_⟩
    simp
  · split at h
    · rename_i c
      cases h
      exact .inr ⟨_, _, hd.dp s (SeqAt.canLay_of_shaped c.1), he.dp s (SeqAt.canLay_of_shaped c.2), c.1, c.2, rfl⟩
    · cases h
theorem od_eq : OpD X.K (fun x y H Q => rEq x y H Q ∨ rEqD X.K x y H Q) dEq := by
  intro d e g h F H x y Q s hd he q
  unfold dEq at h
  cases hb : eqB d e with
  | none => rw [hb] at h; cases h
  | some b =>
    rw [hb] at h
    cases h
    rcases eqB_rule hb s hd he with ⟨a1, a2⟩ | ⟨d', e', a1, a2, a3, a4, a5⟩
    · exact .inl ⟨a1, by rw [a2]; exact q F H _ (Grow.refl s) (.bl _)⟩
    · exact .inr ⟨d', e', a1, a2, a3, a4, by rw [a5]; exact q F H _ (Grow.refl s) (.bl _)⟩
theorem od_ne : OpD X.K (fun x y H Q => rNe x y H Q ∨ rNeD X.K x y H Q) dNe := by
  intro d e g h F H x y Q s hd he q
  unfold dNe at h
  cases hb : eqB d e with
  | none => rw [hb] at h; cases h
  | some b =>
    rw [hb] at h
    cases h
    rcases eqB_rule hb s hd he with ⟨a1, a2⟩ | ⟨d', e', a1, a2, a3, a4, a5⟩
    · exact .inl ⟨a1, by rw [a2]; exact q F H _ (Grow.refl s) (.bl _)⟩
    · exact .inr ⟨d', e', a1, a2, a3, a4, by rw [a5]; exact q F H _ (Grow.refl s) (.bl _)⟩
theorem op_eqA (hu : X.A.units + 64 < cLine) : OpR X (compareOp .Eq) (fun x y H Q => rEq x y H Q ∨ rEqD X.K x y H Q) := op_eq.or (op_eqD hu)
theorem op_neA (hu : X.A.units + 64 < cLine) : OpR X (compareOp .NotEq) (fun x y H Q => rNe x y H Q ∨ rNeD X.K x y H Q) := op_ne.or (op_neD hu)
end
/-! calls of built-ins -/
def dAbs : List Dt → Option Dt
  | [.int i] => some (.int (if i < 0 then -i else i))
  | _ => none
def dLen : List Dt → Option Dt
  | [.lst xs] => some (.int xs.length)
  | [.tup xs] => some (.int xs.length)
  | [.str z] => if z.length ≤ 1000000 then some (.int z.length) else none
  | [.scr ns] => some (.int ns.length)
  | _ => none
def bools : List Dt → Option (List Bool)
  | [] => some []
  | .bl b :: ds => (bools ds).map (b :: ·)
  | _ => none
def dAll : List Dt → Option Dt
  | [.lst xs] => (bools xs).map fun bs => .bl (bs.all id)
  | _ => none
def tyName : Dt → Option String
  | .non => some "NoneType"
  | .bl _ => some "bool"
  | .int _ => some "int"
  | .str _ => some "str"
  | .tup _ => some "tuple"
  | .lst _ => some "list"
  | _ => none
def dIsi : List Dt → Option Dt
  | [d, .ty T] => match tyName d with
    | some t => (kitB t T).map .bl
    | none => none
  | _ => none
/-- list(x): a list of its own -/
def dListOf : List Dt → Option Dt
  | [.lst xs] => some (.lst xs)
  | [.tup xs] => some (.lst xs)
  | _ => none
def dTupOf : List Dt → Option Dt
  | [.lst xs] => some (.tup xs)
  | [.tup xs] => some (.tup xs)
  | _ => none
theorem bools_ok {K : PySem.W.Frag} {F : Hp} : ∀ {ds : List Dt} {vs : List V} {bs : List Bool}, Rps K F ds vs → bools ds = some bs → vs = bs.map V.bl
  | _, _, _, .nil, e => by cases e; rfl
  | _, _, bs, .cons (ds := ds) h r, e => by
    cases h with
    | bl b =>
      unfold bools at e
      cases q : bools ds with
      | none => rw [q] at e; cases e
      | some cs => rw [q] at e; cases e; rw [bools_ok r q]; rfl
    | _ => cases e
section
variable {X : Cx}
theorem cd_abs : CallD X.K (fun xs H Q => ∃ i, xs = [.int i] ∧ Q (.int (if i < 0 then -i else i)) H) dAbs := by
  intro ds g h F H vs Q s hr q
  unfold dAbs at h
  split at h
  · cases h
    match vs, hr with
    | _, .cons (.int i) .nil => exact ⟨i, rfl, q F H _ (Grow.refl s) (.int _)⟩
  · cases h
theorem cd_len : CallD X.K (fun xs H Q => ∃ x n, xs = [x] ∧ LenV X.K x H n ∧ Q (.int n) H) dLen := by
  intro ds g h F H vs Q s hr q
  unfold dLen at h
  split at h
  · cases h
    match vs, hr with
    | _, .cons (.lst hq hr) .nil => exact ⟨_, _, rfl, .inl ⟨_, .inl (.inl (s _ _ hq)), hr.length⟩, q F H _ (Grow.refl s) (.int _)⟩
  · cases h
    match vs, hr with
    | _, .cons (.tup hq hr) .nil => exact ⟨_, _, rfl, .inr ⟨_, same_sqT s hq, hr.length⟩, q F H _ (Grow.refl s) (.int _)⟩
  · split at h
    · rename_i hl
      cases h
      match vs, hr with
      | _, .cons (.str z) .nil => exact ⟨_, _, rfl, ⟨sz1m hl, rfl⟩, q F H _ (Grow.refl s) (.int _)⟩
    · cases h
  · cases h
    match vs, hr with
    | _, .cons (.scr hq) .nil => exact ⟨_, _, rfl, .inl ⟨_, s.seq hq, by simp⟩, q F H _ (Grow.refl s) (.int _)⟩
  · cases h
theorem cd_all : CallD X.K (rAll X.K) dAll := by
  intro ds g h F H vs Q s hr q
  unfold dAll at h
  split at h
  · rename_i xs
    match vs, hr with
    | _, .cons (.lst hq hr) .nil =>
      cases hb : bools xs with
      | none => rw [hb] at h; cases h
      | some bs =>
        rw [hb] at h
        cases h
        have e := bools_ok hr hb
        subst e
        exact ⟨_, bs, rfl, .inl (.inl (s _ _ hq)), q F H _ (Grow.refl s) (.bl _)⟩
  · cases h
theorem tyName_ok {F H : Hp} (s : Same F H) {d : Dt} {v : V} (h : Rp X.K F d v) {t : String} (e : tyName d = some t) : TyX X.K H v (.type t) := by
  cases h with
  | non => cases e; exact .base .non
  | bl b => cases e; exact .base (.bl b)
  | int i => cases e; exact .base (.int i)
  | str z => cases e; exact .base (.str z)
  | lst hq hr => cases e; exact .base (.lst (s _ _ hq))
  | tup hq hr =>
    cases e
    rcases hq with (hq | ⟨o, hq⟩) | ⟨o, its, n, hk, hc, _⟩
    · exact .base (.tup (s _ _ hq))
    · exact .fTuple (s _ _ hq)
    · exact .kTuple hk hc
  | _ => cases e
theorem cd_isi : CallD X.K (rIsi X.K) dIsi := by
  intro ds g h F H vs Q s hr q
  unfold dIsi at h
  split at h
  · rename_i d T
    match vs, hr with
    | _, .cons hd (.cons (.ty _) .nil) =>
      cases ht : tyName d with
      | none => rw [ht] at h; cases h
      | some t =>
        simp only [ht] at h
        cases hk : kitB t T with
        | none => rw [hk] at h; cases h
        | some b =>
          rw [hk] at h
          cases h
          exact ⟨_, _, _, _, b, rfl, .ty T, tyName_ok s hd ht, kit_ty hk, q F H _ (Grow.refl s) (.bl _)⟩
  · cases h
theorem cd_list : CallD X.K (fun xs H Q => ∃ p ys, xs = [.ref p] ∧ (SqL X.K H p ys ∨ SqT X.K H p ys) ∧ ∀ l, H l = none → Q (.ref l) (upd H l (.lst ys))) dListOf := by
  intro ds g h F H vs Q s hr q
  unfold dListOf at h
  split at h
  · cases h
    match vs, hr with
    | _, .cons (.lst hq hr) .nil =>
      refine ⟨_, _, rfl, .inl (.inl (.inl (s _ _ hq))), fun l nl => ?_⟩
      exact lay_lst s nl hr q
  · cases h
    match vs, hr with
    | _, .cons (.tup hq hr) .nil =>
      refine ⟨_, _, rfl, .inr (same_sqT s hq), fun l nl => ?_⟩
      exact lay_lst s nl hr q
  · cases h
theorem cd_tuple : CallD X.K (fun xs H Q => ∃ p ys, xs = [.ref p] ∧ ((SqL X.K H p ys ∧ ∀ l, H l = none → Q (.ref l) (upd H l (.tup ys))) ∨ (SqT X.K H p ys ∧ Q (.ref p) H))) dTupOf := by
  intro ds g h F H vs Q s hr q
  unfold dTupOf at h
  split at h
  · cases h
    match vs, hr with
    | _, .cons (.lst hq hr) .nil =>
      refine ⟨_, _, rfl, .inl ⟨.inl (.inl (s _ _ hq)), fun l nl => ?_⟩⟩
      exact lay_tup s nl hr q
  · cases h
    match vs, hr with
    | _, .cons (.tup hq hr) .nil => exact ⟨_, _, rfl, .inr ⟨same_sqT s hq, q F H _ (Grow.refl s) (.tup hq hr)⟩⟩
  · cases h
variable {P : Pt} {Wx : WX} {pos : Pos}
theorem d_bltn {x : Str} {n : String} (hg : Gl X x) (hm : X.mg x = none) (hv : bootBuiltins x = some (.type n)) (hn : x ≠ "__name__" := by decide) (hd : (x == ("__debug__" : Str)) = false := by decide) : PE X (.Name x pos) (LE X.K P Wx (eC (.ty n))) :=
  PEm (pe_bltn (v := .ty n) hg hm hv rfl hn hd) fun _ _ _ h => LE_c (fun _ => .ty n) h
end
/-! slices -/
def cutD {α : Type} (xs : List α) (lo hi : Option Int) : List α := (xs.drop (HT.sIx xs.length 0 lo)).take (HT.sIx xs.length xs.length hi - HT.sIx xs.length 0 lo)
def partD : Option Dt → Option (Option Int)
  | none => some none
  | some (.int i) => some (some i)
  | _ => none
def dSl (d : Dt) (lo hi : Option Int) : Option Dt := match d with
  | .lst xs => some (.lst (cutD xs lo hi))
  | .tup xs => some (.tup (cutD xs lo hi))
  | .scr ns => some (.lst ((cutD ns lo hi).map .int))
  | .str z => if z.length ≤ 1000000 then some (.str (cutS z lo hi)) else none
  | _ => none
def eSl (f : FE) (lo hi : Option FE) : FE := bindE f fun d => match lo, hi with
  | none, none => eV (dSl d none none)
  | some l, none => bindE l fun a => (match a with | .int i => eV (dSl d (some i) none) | _ => fun _ => none)
  | none, some h => bindE h fun b => (match b with | .int j => eV (dSl d none (some j)) | _ => fun _ => none)
  | some l, some h => bindE l fun a => (match a with | .int i => bindE h (fun b => match b with | .int j => eV (dSl d (some i) (some j)) | _ => fun _ => none) | _ => fun _ => none)
theorem Rps.ints {K : PySem.W.Frag} {F : Hp} : ∀ (ns : List Int), Rps K F (ns.map .int) (ns.map V.int)
  | [] => .nil
  | n :: ns => .cons (.int n) (Rps.ints ns)
section
variable {X : Cx} {P : Pt} {Wx : WX} {pos p2 : Pos} {e l h : Expr} {f fl fh : FE}
theorem sl_all : SlR X (fun x lo hi H Q => rSlL X.K x lo hi H Q ∨ rSlA X.K x lo hi H Q ∨ rSlS x lo hi H Q) := sl_list.or (sl_tupA.or sl_str)
theorem sd_all {d g : Dt} {lo hi : Option Int} (e : dSl d lo hi = some g) {F H : Hp} {x : V} {Q : VK} (s : Same F H) (hd : Rp X.K F d x) (q : ∀ F' H' z, Grow F H F' H' → Rp X.K F' g z → Q z H') : rSlL X.K x lo hi H Q ∨ rSlA X.K x lo hi H Q ∨ rSlS x lo hi H Q := by
  have hcut : ∀ {ds : List Dt} {vs : List V}, Rps X.K F ds vs → Rps X.K F (cutD ds lo hi) (cutV vs lo hi) := fun {ds vs} r => by
    unfold cutD cutV
    rw [← r.length]
    exact (r.drop _).take _
  cases hd with
  | lst hq hr =>
    cases e
    refine .inl ⟨_, _, rfl, .inl (.inl (s _ _ hq)), fun p np => ?_⟩
    exact lay_lst s np (hcut hr) q
  | scr hq =>
    cases e
    refine .inl ⟨_, _, rfl, s.seq hq, fun p np => ?_⟩
    refine lay_lst s np ?_ q
    have : ∀ ns : List Int, cutV (List.map V.int ns) lo hi = (cutD ns lo hi).map V.int := fun ns => by
      unfold cutV cutD
      rw [List.length_map, ← List.map_drop, ← List.map_take]
    rw [this]
    exact Rps.ints _
  | tup hq hr =>
    cases e
    refine .inr (.inl ⟨_, _, rfl, same_sqT s hq, fun hw => ?_, fun hw p np => ?_⟩)
    · rename_i ds
      have e1 : cutD ds lo hi = ds := by
        unfold cutD
        rw [hr.length, hw.1, hw.2, List.drop_zero, Nat.sub_zero, ← hr.length]
        exact List.take_length
      rw [e1] at q
      exact q F H _ (Grow.refl s) (.tup hq hr)
    · exact lay_tup s np (hcut hr) q
  | str z =>
    unfold dSl at e
    simp only [] at e
    split at e
    · rename_i hl
      cases e
      exact .inr (.inr ⟨z, rfl, sz1m hl, q F H _ (Grow.refl s) (.str _)⟩)
    · cases e
  | _ => cases e
theorem d_sl00 (he : PE X e (LE X.K P Wx f)) : PE X (.Subscript e (.Slice none none none p2) pos) (LE X.K P Wx (eSl f none none)) := PEm (pe_slice sl_all he po_none po_none) fun σ H Q h => by
  obtain ⟨F, ρ, r, q⟩ := h
  refine LE.bind r q fun d ρ1 F1 H1 x s1 r1 p1 q1 => ?_
  cases eo : dSl d none none with
  | none => simp only [eo] at q1; exact q1.elim
  | some g => simp only [eo] at q1; exact sd_all eo r1.fh p1 fun F' H' z g' pz => q1 F' H' z g'.f (r1.grow g') pz
theorem d_sl10 (he : PE X e (LE X.K P Wx f)) (hl : PE X l (LE X.K P Wx fl)) : PE X (.Subscript e (.Slice (some l) none none p2) pos) (LE X.K P Wx (eSl f (some fl) none)) := PEm (pe_slice sl_all he (po_some hl) po_none) fun σ H Q h => by
  obtain ⟨F, ρ, r, q⟩ := h
  refine LE.bind r q fun d ρ1 F1 H1 x s1 r1 p1 q1 => ?_
  refine LE.bind r1 q1 fun a ρ2 F2 H2 y s2 r2 p2 q2 => ?_
  cases p2 with
  | int i =>
    refine ⟨i, rfl, ?_⟩
    cases eo : dSl d (some i) none with
    | none => simp only [eo] at q2; exact q2.elim
    | some g => simp only [eo] at q2; exact sd_all eo r2.fh (p1.mono s2) fun F' H' z g' pz => q2 F' H' z g'.f (r2.grow g') pz
  | _ => exact q2.elim
theorem d_sl01 (he : PE X e (LE X.K P Wx f)) (hh : PE X h (LE X.K P Wx fh)) : PE X (.Subscript e (.Slice none (some h) none p2) pos) (LE X.K P Wx (eSl f none (some fh))) := PEm (pe_slice sl_all he po_none (po_some hh)) fun σ H Q h => by
  obtain ⟨F, ρ, r, q⟩ := h
  refine LE.bind r q fun d ρ1 F1 H1 x s1 r1 p1 q1 => ?_
  refine LE.bind r1 q1 fun a ρ2 F2 H2 y s2 r2 p2 q2 => ?_
  cases p2 with
  | int i =>
    refine ⟨i, rfl, ?_⟩
    cases eo : dSl d none (some i) with
    | none => simp only [eo] at q2; exact q2.elim
    | some g => simp only [eo] at q2; exact sd_all eo r2.fh (p1.mono s2) fun F' H' z g' pz => q2 F' H' z g'.f (r2.grow g') pz
  | _ => exact q2.elim
theorem d_sl11 (he : PE X e (LE X.K P Wx f)) (hl : PE X l (LE X.K P Wx fl)) (hh : PE X h (LE X.K P Wx fh)) : PE X (.Subscript e (.Slice (some l) (some h) none p2) pos) (LE X.K P Wx (eSl f (some fl) (some fh))) := PEm (pe_slice sl_all he (po_some hl) (po_some hh)) fun σ H Q h => by
  obtain ⟨F, ρ, r, q⟩ := h
  refine LE.bind r q fun d ρ1 F1 H1 x s1 r1 p1 q1 => ?_
  refine LE.bind r1 q1 fun a ρ2 F2 H2 y s2 r2 p2 q2 => ?_
  cases p2 with
  | int i =>
    refine ⟨i, rfl, ?_⟩
    refine LE.bind r2 q2 fun b ρ3 F3 H3 y s3 r3 p3 q3 => ?_
    cases p3 with
    | int j =>
      refine ⟨j, rfl, ?_⟩
      cases eo : dSl d (some i) (some j) with
      | none => simp only [eo] at q3; exact q3.elim
      | some g => simp only [eo] at q3; exact sd_all eo r3.fh (p1.mono (s2.trans s3)) fun F' H' z g' pz => q3 F' H' z g'.f (r3.grow g') pz
    | _ => exact q3.elim
  | _ => exact q2.elim
end
end DL
namespace DL
open PySem PySem.Spec PyProof.Rows L2
open Classical in
/-- the point of a frame: what is no slot's own stays -/
noncomputable def Pfr (P : Pt) (F H : Hp) (σ : L2.St) (ρ : Rho) : Pt := ⟨F, fun p => if (∃ (i : Nat) (u : Wt) (x : V), ρ[i]? = some (some u) ∧ σ[i]? = some (some x) ∧ p ∈ fpW H u x) then P.H0 p else H p, P.bs, P.ba, fun j => match ρ[j]?, σ[j]? with
  | some (some u), some (some x) => fpW H u x
  | _, _ => [], P.T⟩
/-- what is no slot's own -/
def NoOwn (H : Hp) (σ : L2.St) (ρ : Rho) (p : Addr) : Prop := ∀ (i : Nat) (u : Wt) (x : V), ρ[i]? = some (some u) → σ[i]? = some (some x) → p ∉ fpW H u x
def Frm (F H F' H' : Hp) (σ : L2.St) (ρ : Rho) (σ' : L2.St) (ρ' : Rho) : Prop := ∀ p o, H p = some o → NoOwn H σ ρ p → H' p = some o ∧ (F p = none → F' p = none) ∧ NoOwn H' σ' ρ' p
section
variable {K : PySem.W.Frag} {P : Pt} {F H F' H' : Hp} {σ : L2.St} {ρ ρ' : Rho}
theorem pfr_no {p : Addr} (h : NoOwn H σ ρ p) : (Pfr P F H σ ρ).H0 p = H p := if_neg fun ⟨i, u, x, a, b, c⟩ => h i u x a b c
theorem pfr_own {p : Addr} {i : Nat} {u : Wt} {x : V} (a : ρ[i]? = some (some u)) (b : σ[i]? = some (some x)) (c : p ∈ fpW H u x) : (Pfr P F H σ ρ).H0 p = P.H0 p := if_pos ⟨i, u, x, a, b, c⟩
theorem no_or (H : Hp) (σ : L2.St) (ρ : Rho) (p : Addr) : NoOwn H σ ρ p ∨ ∃ (i : Nat) (u : Wt) (x : V), ρ[i]? = some (some u) ∧ σ[i]? = some (some x) ∧ p ∈ fpW H u x := by
  by_cases h : ∃ (i : Nat) (u : Wt) (x : V), ρ[i]? = some (some u) ∧ σ[i]? = some (some x) ∧ p ∈ fpW H u x
  · exact .inr h
  · exact .inl fun i u x a b c => h ⟨i, u, x, a, b, c⟩
theorem pfr_bf {p : Addr} {j : Nat} (h : p ∈ (Pfr P F H σ ρ).bf j) : ∃ u x, ρ[j]? = some (some u) ∧ σ[j]? = some (some x) ∧ p ∈ fpW H u x := by
  have h' : p ∈ (match ρ[j]?, σ[j]? with
    | some (some u), some (some x) => fpW H u x
    | _, _ => ([] : List Addr)) := h
  split at h'
  · rename_i u x e1 e2
    exact ⟨u, x, e1, e2, h'⟩
  · cases h'
theorem pfr_bf' {p : Addr} {j : Nat} {u : Wt} {x : V} (a : ρ[j]? = some (some u)) (b : σ[j]? = some (some x)) (c : p ∈ fpW H u x) : p ∈ (Pfr P F H σ ρ).bf j := by
  show p ∈ (match ρ[j]?, σ[j]? with
    | some (some u), some (some x) => fpW H u x
    | _, _ => ([] : List Addr))
  rw [a, b]
  exact c
theorem NoOwn.grow (R : Rel K P F H σ ρ) (g : Grow F H F' H') {p : Addr} (h : NoOwn H σ ρ p) : NoOwn H' σ ρ p := fun i u x a b c => by
  rw [((R.at_ a b).ok.grow g).2] at c
  exact h i u x a b c
/-- a thing that is no slot's is changed -/
theorem Rel.other {D : Addr} {o o' : HO} (R : Rel K P F H σ ρ) (n : NoOwn H σ ρ D) (f : F D = none) (z : P.H0 D = none) (h : H D = some o) (po : PlO o) : Rel K P F (upd H D o') σ ρ ∧ NoOwn (upd H D o') σ ρ D := by
  have key : ∀ {i : Nat} {u : Wt} {x : V}, ρ[i]? = some (some u) → σ[i]? = some (some x) → OkW K F (upd H D o') x u ∧ fpW (upd H D o') u x = fpW H u x := fun {i u x} a b => (R.at_ a b).ok.map (.refl _) (fun p m => ((R.at_ a b).ok.at_ m).1) fun p m => by
    rw [upd_ne]
    intro e
    subst e
    exact n i u x a b m
  refine ⟨⟨fun p o e => ?_, R.f0, fun p o e => ?_, fun p o e hb => ?_, R.new, R.len, fun i w hi => ?_, fun i j w u v x p h1 h2 h3 h4 m1 m2 => ?_, R.bor, fun t ht => ⟨(R.tb t ht).1, tab_map (R.tb t ht).2 fun p o e np => ?_⟩⟩, fun i u x a b c => ?_⟩
  · have hp : p ≠ D := fun y => by subst y; rw [f] at e; cases e
    rw [upd_ne hp]; exact R.fh p o e
  · obtain ⟨u, e'⟩ := R.th p o e
    have hp : p ≠ D := fun y => by subst y; rw [z] at e; cases e
    exact ⟨u, by rw [upd_ne hp]; exact e'⟩
  · have hp : p ≠ D := fun y => by subst y; rw [z] at e; cases e
    rw [upd_ne hp]; exact R.keep p o e hb
  · obtain ⟨v, ev, q⟩ := R.slot i w hi
    obtain ⟨a, b⟩ := key hi ev
    exact ⟨v, ev, .mk a (by rw [b]; exact q.h0)⟩
  · rw [(key h1 h3).2] at m1
    rw [(key h2 h4).2] at m2
    exact R.sep i j w u v x p h1 h2 h3 h4 m1 m2
  · have hp : p ≠ D := fun y => by
      subst y
      rw [h] at e
      cases e
      exact np po
    rw [upd_ne hp]; exact e
  · rw [(key a b).2] at c
    exact n i u x a b c
theorem Rel.fr (R : Rel K P F H σ ρ) : Rel K (Pfr P F H σ ρ) F H σ ρ where
  fh := R.fh
  f0 := .refl _
  th := fun p o h => by
    rcases no_or H σ ρ p with n | ⟨i, u, x, a, b, c⟩
    · rw [pfr_no n] at h; exact ⟨o, h⟩
    · rw [pfr_own a b c] at h
      exact R.th p o h
  keep := fun p o h hb => by
    rcases no_or H σ ρ p with n | ⟨i, u, x, a, b, c⟩
    · rw [pfr_no n] at h; exact h
    · rw [pfr_own a b c] at h
      rcases (R.at_ a b).h0 p c with z | ⟨z, _⟩
      · rw [z] at h; cases h
      · exact absurd ⟨i, z, pfr_bf' a b c⟩ hb
  new := fun p o h => .inl h
  len := R.len
  slot := fun i w h => by
    obtain ⟨v, ev, q⟩ := R.slot i w h
    refine ⟨v, ev, .mk q.ok fun p m => ?_⟩
    rcases q.h0 p m with z | ⟨z, _⟩
    · left; rw [pfr_own h ev m]; exact z
    · exact .inr ⟨z, pfr_bf' h ev m⟩
  sep := R.sep
  bor := R.bor
  tb := R.tb
theorem Rel.unfr {σ' : L2.St} (R : Rel K P F H σ ρ) (R' : Rel K (Pfr P F H σ ρ) F' H' σ' ρ') : Rel K P F' H' σ' ρ' ∧ Frm F H F' H' σ ρ σ' ρ' := by
  have key : ∀ p, (Pfr P F H σ ρ).H0 p = none → P.H0 p = none := fun p h => by
    rcases no_or H σ ρ p with n | ⟨i, u, x, a, b, c⟩
    · rw [pfr_no n] at h; exact R.fresh h
    · rw [pfr_own a b c] at h; exact h
  have nb : ∀ p, NoOwn H σ ρ p → ¬ (Pfr P F H σ ρ).isB p := fun p n ⟨j, _, e⟩ => by
    obtain ⟨u, x, a, b, c⟩ := pfr_bf e
    exact n j u x a b c
  refine ⟨⟨R'.fh, R.f0.trans R'.f0, fun p o h => ?_, fun p o h hb => ?_, fun p o h => ?_, R'.len, fun i w h => ?_, R'.sep, R'.bor, R'.tb⟩, fun p o h n => ⟨?_, fun hf => ?_, fun i u x hi hs m => ?_⟩⟩
  · rcases no_or H σ ρ p with n | ⟨i, u, x, a, b, c⟩
    · obtain ⟨u, e⟩ := R.th p o h
      exact R'.th p u (by rw [pfr_no n]; exact e)
    · exact R'.th p o (by rw [pfr_own a b c]; exact h)
  · have n : NoOwn H σ ρ p := fun i u x a b c => by
      rcases (R.at_ a b).h0 p c with z | ⟨z, y⟩
      · rw [z] at h; cases h
      · exact hb ⟨i, z, y⟩
    exact R'.keep p o (by rw [pfr_no n]; exact R.keep p o h hb) (nb p n)
  · rcases R'.new p o h with h1 | h1
    · exact R.new p o h1
    · exact .inr (key p h1)
  · obtain ⟨v, ev, q⟩ := R'.slot i w h
    refine ⟨v, ev, .mk q.ok fun p m => ?_⟩
    rcases q.h0 p m with z | ⟨z, y⟩
    · exact .inl (key p z)
    · obtain ⟨u, x, a, b, c⟩ := pfr_bf y
      exact (R.at_ a b).h0 p c
  · exact R'.keep p o (by rw [pfr_no n]; exact h) (nb p n)
  · cases q : F' p with
    | none => rfl
    | some u =>
      rcases R'.new p u q with h1 | h1
      · have h1' : F p = some u := h1
        rw [hf] at h1'; cases h1'
      · rw [pfr_no n, h] at h1; cases h1
  · rcases (R'.at_ hi hs).h0 p m with z | ⟨z1, z2⟩
    · rw [pfr_no n, h] at z; cases z
    · obtain ⟨u', x', a, b, c⟩ := pfr_bf z2
      exact n _ _ _ a b c
end
section
variable (K : PySem.W.Frag) (P : Pt) (Wx : WX)
def LEf (f : FE) : TE := fun σ H Q => ∃ F ρ, Rel K P F H σ ρ ∧ match f ρ with
  | none => False
  | some (.ok d, ρ') => ∀ F' H' v, Same F F' → Rel K P F' H' σ ρ' → Rp K F' d v → Frm F H F' H' σ ρ σ ρ' → Q v H'
  | some (.ex C fs, ρ') => ∀ F' H' cls dd, Same F F' → Rel K P F' H' σ ρ' → Xp K F' cls dd C fs → Wx cls dd σ H'
def LTf (f : FE) : TT := tB (LEf K P Wx f)
end
section
variable {X : Cx} {P : Pt} {Wx : WX} {e : Expr} {es : List Expr} {f : FE}
theorem LEf.to {σ : L2.St} {H : Hp} {Q : VK} (h : LEf X.K P Wx f σ H Q) : ∃ P', P'.bs = P.bs ∧ LE X.K P' Wx f σ H Q := by
  obtain ⟨F, ρ, R, q⟩ := h
  refine ⟨Pfr P F H σ ρ, rfl, F, ρ, R.fr, ?_⟩
  match e : f ρ with
  | none => simp only [e] at q
  | some (.ok d, ρ') =>
    simp only [e] at q
    intro F' H' v s1 r1 p1
    obtain ⟨a, b⟩ := R.unfr r1
    exact q F' H' v s1 a p1 b
  | some (.ex C fs, ρ') =>
    simp only [e] at q
    intro F' H' cls dd s1 r1 xp
    exact q F' H' cls dd s1 (R.unfr r1).1 xp
theorem d_fr (h : ∀ P', P'.bs = P.bs → PE X e (LE X.K P' Wx f)) : PE X e (LEf X.K P Wx f) := ⟨fun pins s σ H Q I q => by
  obtain ⟨P', e, q⟩ := LEf.to q
  exact (h P' e).run pins s σ H Q I q⟩
theorem t_fr (h : ∀ P', P'.bs = P.bs → PTs X es (LT X.K P' Wx f)) : PTs X es (LTf X.K P Wx f) := ⟨fun pins s σ H Q I q => by
  obtain ⟨P', e, q⟩ := LEf.to q
  exact (h P' e).run pins s σ H Q I q⟩
theorem ts_nil : PTs X [] (LT X.K P Wx (eC (.bl true))) := ⟨fun pins s σ H Q I q => pts_nil.run pins s σ H Q I (by
  obtain ⟨k, e1, e2⟩ := LE_c (v := .bl true) (fun _ => .bl true) q
  cases e1
  exact e2)⟩
theorem ts_one (h : PT X e (LT X.K P Wx f)) : PTs X [e] (LT X.K P Wx f) := pts_one h
end
def LGf (K : PySem.W.Frag) (P : Pt) (ts : List Nat) (g : GD) : TG := fun v σ H Q => ∃ F ρ d ρ', Rel K P F H σ ρ ∧ Rp K F d v ∧ g d ρ = some ρ' ∧ ∀ σ', Rel K P F H σ' ρ' → But ts σ σ' → (∀ p o, H p = some o → NoOwn H σ ρ p → NoOwn H σ' ρ' p) → Q σ' H
theorem g_fr {X : Cx} {P : Pt} {e : Expr} {ts : List Nat} {g : GD} (h : ∀ P', P'.bs = P.bs → PG X e (LG X.K P' ts g)) : PG X e (LGf X.K P ts g) := ⟨fun pins s σ H v u Q I r q => by
  obtain ⟨F, ρ, d, ρ', R, p, e, q⟩ := q
  refine (h (Pfr P F H σ ρ) rfl).run pins s σ H v u Q I r ⟨F, ρ, d, ρ', R.fr, p, e, fun σ' R' b => ?_⟩
  obtain ⟨a, f⟩ := R.unfr R'
  exact q σ' a b fun p o hp hn => (f p o hp hn).2.2⟩
/-! ### a comprehension -/
def wipeR (ρ : Rho) : List Nat → Rho
  | [] => ρ
  | v :: vs => (wipeR ρ vs).set v none
def keepSh : Option (Option Wt) → Option Wt
  | some (some (.sh d)) => some (.sh d)
  | _ => none
def restR (ρ1 ρ2 : Rho) : List Nat → Rho
  | [] => ρ2
  | v :: vs => (restR ρ1 ρ2 vs).set v (keepSh ρ1[v]?)
def lcD (vs : List Nat) (g : GD) (ft fe : FE) : List Dt → Rho → List Dt → Option (List Dt × Rho)
  | [], ρ, acc => some (acc, ρ)
  | d :: ds, ρ, acc => match g d ρ with
    | none => none
    | some ρ1 => match ft ρ1 with
      | some (.ok (.bl true), ρ2) => (match fe ρ2 with
        | some (.ok y, ρ3) => if acc.length < 100000 then lcD vs g ft fe ds (wipeR ρ3 vs) (acc ++ [y]) else none
        | _ => none)
      | some (.ok (.bl false), ρ2) => lcD vs g ft fe ds (wipeR ρ2 vs) acc
      | _ => none
def wLc (vs : List Nat) (fi : FI) (g : GD) (ft fe : FE) : FW := fun ρ => match fi ρ with
  | none => none
  | some (.ex C fs, ρ1) => some (.ex C fs, ρ1)
  | some (.ok ds, ρ1) => match lcD vs g ft fe ds (wipeR ρ1 vs) [] with
    | none => none
    | some (acc, ρ2) => some (.ok (.own acc), restR ρ1 ρ2 vs)
theorem wipeR_len (ρ : Rho) : ∀ vs : List Nat, (wipeR ρ vs).length = ρ.length
  | [] => rfl
  | v :: vs => by simp [wipeR, wipeR_len ρ vs]
theorem wipeR_some {ρ : Rho} {i : Nat} {w : Wt} : ∀ {vs : List Nat}, (wipeR ρ vs)[i]? = some (some w) → ρ[i]? = some (some w) ∧ i ∉ vs
  | [], h => ⟨h, by simp⟩
  | v :: vs, h => by
    unfold wipeR at h
    by_cases hi : v = i
    · subst hi
      by_cases hv : v < (wipeR ρ vs).length
      · rw [List.getElem?_set_self hv] at h; cases h
      · rw [List.getElem?_eq_none (by simpa using hv)] at h; cases h
    · rw [List.getElem?_set_ne hi] at h
      obtain ⟨h1, h2⟩ := wipeR_some h
      exact ⟨h1, by simp only [List.mem_cons, not_or]; exact ⟨fun e => hi e.symm, h2⟩⟩
theorem wipeR_out {ρ : Rho} {i : Nat} : ∀ {vs : List Nat}, i ∉ vs → (wipeR ρ vs)[i]? = ρ[i]?
  | [], _ => rfl
  | v :: vs, h => by
    simp only [List.mem_cons, not_or] at h
    unfold wipeR
    rw [List.getElem?_set_ne (fun e => h.1 e.symm)]
    exact wipeR_out h.2
theorem restR_len (ρ1 ρ2 : Rho) : ∀ vs : List Nat, (restR ρ1 ρ2 vs).length = ρ2.length
  | [] => rfl
  | v :: vs => by simp [restR, restR_len ρ1 ρ2 vs]
theorem restR_some {ρ1 ρ2 : Rho} {i : Nat} {w : Wt} : ∀ {vs : List Nat}, (restR ρ1 ρ2 vs)[i]? = some (some w) → (i ∉ vs ∧ ρ2[i]? = some (some w)) ∨ (∃ d, w = .sh d ∧ ρ1[i]? = some (some (.sh d)))
  | [], h => .inl ⟨by simp, h⟩
  | v :: vs, h => by
    unfold restR at h
    by_cases hi : v = i
    · subst hi
      by_cases hv : v < (restR ρ1 ρ2 vs).length
      · rw [List.getElem?_set_self hv] at h
        match e : ρ1[v]? with
        | none => simp only [e, keepSh] at h; cases h
        | some none => simp only [e, keepSh] at h; cases h
        | some (some (.own xs)) => simp only [e, keepSh] at h; cases h
        | some (some (.tr t)) => simp only [e, keepSh] at h; cases h
        | some (some (.sh d)) => simp only [e, keepSh] at h; cases h; exact .inr ⟨d, rfl, rfl⟩
      · rw [List.getElem?_eq_none (by simpa using hv)] at h; cases h
    · rw [List.getElem?_set_ne hi] at h
      rcases restR_some h with ⟨h1, h2⟩ | h
      · exact .inl ⟨by simp only [List.mem_cons, not_or]; exact ⟨fun e => hi e.symm, h1⟩, h2⟩
      · exact .inr h
theorem restR_out {ρ1 ρ2 : Rho} {i : Nat} : ∀ {vs : List Nat}, i ∉ vs → (restR ρ1 ρ2 vs)[i]? = ρ2[i]?
  | [], _ => rfl
  | v :: vs, h => by
    simp only [List.mem_cons, not_or] at h
    unfold restR
    rw [List.getElem?_set_ne (fun e => h.1 e.symm)]
    exact restR_out h.2
section
variable {K : PySem.W.Frag} {P : Pt} {F H F' H' : Hp} {σ σ' : L2.St} {ρ ρ' : Rho}
/-- other slots: what is known of them was known -/
theorem Rel.reslot (R : Rel K P F H σ ρ) (hl : ρ'.length = σ'.length) (h : ∀ (i : Nat) (w : Wt), ρ'[i]? = some (some w) → ρ[i]? = some (some w) ∧ σ'[i]? = σ[i]?) (hb : ∀ j, j ∈ P.bs → ρ'[j]? = ρ[j]? ∧ σ'[j]? = σ[j]?) : Rel K P F H σ' ρ' where
  fh := R.fh
  f0 := R.f0
  th := R.th
  keep := R.keep
  new := R.new
  len := hl
  slot := fun i w hi => by
    obtain ⟨a, b⟩ := h i w hi
    rw [b]
    exact R.slot i w a
  sep := fun i j w u v x p h1 h2 h3 h4 m1 m2 => by
    obtain ⟨a1, b1⟩ := h i _ h1
    obtain ⟨a2, b2⟩ := h j _ h2
    rw [b1] at h3
    rw [b2] at h4
    exact R.sep i j w u v x p a1 a2 h3 h4 m1 m2
  tb := R.tb
  bor := fun j hj => by
    obtain ⟨a, b⟩ := hb j hj
    rw [a, b]
    exact R.bor j hj
theorem Rel.wipe {vs : List Nat} (R : Rel K P F H σ ρ) (hv : ∀ v, v ∈ vs → v ∉ P.bs) : Rel K P F H (L2.wipe σ vs) (wipeR ρ vs) :=
  R.reslot (by rw [wipeR_len, wipe_length]; exact R.len) (fun i w h => by
    obtain ⟨a, b⟩ := wipeR_some h
    exact ⟨a, wipe_out b⟩) fun j hj => by
    have hn : j ∉ vs := fun e => hv j e hj
    exact ⟨wipeR_out hn, wipe_out hn⟩
theorem wipe_eq {ts vs : List Nat} (b : But ts σ σ') (h : ∀ t, t ∈ ts → t ∈ vs) : L2.wipe σ' vs = L2.wipe σ vs := by
  apply List.ext_getElem?
  intro i
  by_cases hi : i ∈ vs
  · have key : ∀ (τ : L2.St) (us : List Nat), i ∈ us → (L2.wipe τ us)[i]? = if i < τ.length then some none else none := by
      intro τ us
      induction us with
      | nil => intro h; simp at h
      | cons u us ih =>
        intro hu
        unfold L2.wipe
        by_cases e : u = i
        · subst e
          by_cases hl : u < (L2.wipe τ us).length
          · rw [List.getElem?_set_self hl, if_pos (by rw [wipe_length] at hl; exact hl)]
          · rw [List.getElem?_eq_none (by simpa using hl), if_neg (by rw [wipe_length] at hl; exact hl)]
        · rw [List.getElem?_set_ne e]
          rcases List.mem_cons.mp hu with hu | hu
          · exact absurd hu.symm e
          · exact ih hu
    rw [key σ' vs hi, key σ vs hi, b.len]
  · rw [wipe_out hi, wipe_out hi]
    exact b.get i fun e => hi (h i e)
theorem But.wipe (σ : L2.St) (vs : List Nat) : But vs σ (L2.wipe σ vs) := ⟨wipe_length σ vs, fun i hi => wipe_out hi⟩
end
abbrev W0 : WX := fun _ _ _ _ => False
section
variable {X : Cx} {P : Pt} {Wx : WX} {elt tg iter : Expr} {ifs : List Expr} {scope : Scope} {own : List (Str × Nat)} {pos : Pos} {fi : FI} {g : GD} {ts : List Nat} {ft fe : FE}
theorem LW_lc {vs : List Nat} (hv : ∀ v, v ∈ vs → v ∉ P.bs) (hts : ∀ t, t ∈ ts → t ∈ vs) {σ : L2.St} {H : Hp} {Q : VK} (h : LW X.K P Wx (wLc vs fi g ft fe) σ H Q) :
    tLc (LI X.K P Wx fi) (LGf X.K P ts g) (LTf X.K P W0 ft) (LEf X.K P W0 fe) vs σ H Q := by
  obtain ⟨F, ρ, r, q⟩ := h
  refine ⟨F, ρ, r, ?_⟩
  unfold wLc at q
  match e : fi ρ with
  | none => simp only [e] at q; exact q.elim
  | some (.ex C fs, ρ1) => simp only [e] at q; exact q
  | some (.ok ds, ρ1) =>
    simp only [e] at q
    intro F1 H1 J s1 r1 wk D nD
    match e2 : lcD vs g ft fe ds (wipeR ρ1 vs) [] with
    | none => simp only [e2] at q; exact q.elim
    | some (accF, ρF) =>
      simp only [e2] at q
      have gD := Grow.laid (o := .lst []) r1.fh nD
      have rD := (r1.grow gD).wipe hv
      refine ⟨fun i m H => m = ds.length - i ∧ i ≤ ds.length ∧ ∃ F' ρ' acc us, Same F1 F' ∧ Rel X.K P F' H (L2.wipe σ vs) ρ' ∧ H D = some (.lst us) ∧ F' D = none ∧ Rps X.K F' acc us ∧ NoOwn H (L2.wipe σ vs) ρ' D ∧ lcD vs g ft fe (ds.drop i) ρ' acc = some (accF, ρF),
        ⟨ds.length, by simp, Nat.zero_le _, F1, wipeR ρ1 vs, [], [], .refl _, rD, upd_same, free_of r1.fh nD, .nil, fun i u x hi hs m => ?_, e2⟩, ?_⟩
      · obtain ⟨a, b⟩ := wipeR_some hi
        rw [wipe_out b] at hs
        rw [((r1.at_ a hs).ok.grow gD).2] at m
        exact r1.offNew nD a hs m
      · rintro i m H ⟨rfl, hi, F2, ρ2, acc, us, s2, r2, hD, fD, ra, no, el⟩
        by_cases hlt : i < ds.length
        · refine .inr ⟨wk.goes i H hlt (s2.trans r2.fh), fun H => ∃ F' ρ' acc us, Same F1 F' ∧ Rel X.K P F' H (L2.wipe σ vs) ρ' ∧ H D = some (.lst us) ∧ F' D = none ∧ Rps X.K F' acc us ∧ NoOwn H (L2.wipe σ vs) ρ' D ∧ lcD vs g ft fe (ds.drop (i + 1)) ρ' acc = some (accF, ρF),
            fun H' h => ⟨ds.length - (i + 1), by omega, rfl, hlt, h⟩, fun x H' y => ?_⟩
          obtain ⟨G', d, k1, k2, k3⟩ := wk.yields i H x H' F2 hlt s2 r2.fh y
          have hd : ds.drop i = d :: ds.drop (i + 1) := by
            rw [List.drop_eq_getElem_cons hlt]
            congr 1
            rw [List.getElem?_eq_getElem hlt] at k1
            exact Option.some.inj k1
          rw [hd] at el
          unfold lcD at el
          cases e3 : g d ρ2 with
          | none => simp only [e3] at el; cases el
          | some ρ3 =>
            simp only [e3] at el
            have hD' : H' D = some (.lst us) := k2.h _ _ hD
            have fD' : G' D = none := by
              cases q : G' D with
              | none => rfl
              | some o =>
                rcases k2.new D o q with h1 | h1
                · rw [fD] at h1; cases h1
                · rw [hD] at h1; cases h1
            refine ⟨G', ρ2, d, ρ3, r2.grow k2, k3, e3, fun σ3 r3 b3 n3 => ⟨?_, G', ρ3, r3, ?_⟩⟩
            · rw [wipe_eq b3 hts]
              exact wipe_eq (.wipe σ vs) fun t h => h
            · have no3 := n3 D _ hD' (no.grow r2 k2)
              have wp : L2.wipe σ3 vs = L2.wipe σ vs := (wipe_eq b3 hts).trans (wipe_eq (.wipe σ vs) fun t h => h)
              have back : ∀ {F5 H5 : Hp} {ρ5 : Rho}, Rel X.K P F5 H5 σ3 ρ5 → Rel X.K P F5 H5 (L2.wipe σ vs) (wipeR ρ5 vs) := fun r5 => by
                rw [← wp]
                exact r5.wipe hv
              have noback : ∀ {H5 : Hp} {ρ5 : Rho}, NoOwn H5 σ3 ρ5 D → NoOwn H5 (L2.wipe σ vs) (wipeR ρ5 vs) D := fun {H5 ρ5} n5 j u x hj hs => by
                obtain ⟨a, b⟩ := wipeR_some hj
                rw [← wp, wipe_out b] at hs
                exact n5 j u x a hs
              match e4 : ft ρ3 with
              | none => simp only [e4] at el; cases el
              | some (.ex C fs, ρ4) => simp only [e4] at el; cases el
              | some (.ok b, ρ4) =>
                simp only [e4] at el ⊢
                intro F4 H4 v s4 r4 p4 f4
                obtain ⟨f41, f42, f43⟩ := f4 D _ hD' no3
                cases p4 with
                | bl k =>
                  refine ⟨k, rfl, ?_⟩
                  cases k with
                  | false =>
                    rw [if_neg Bool.false_ne_true]
                    exact ⟨F4, wipeR ρ4 vs, acc, us, (s2.trans k2.f).trans s4, back r4, f41, f42 fD', ra.mono (k2.f.trans s4), noback f43, el⟩
                  | true =>
                    rw [if_pos rfl]
                    match e5 : fe ρ4 with
                    | none => simp only [e5] at el; cases el
                    | some (.ex C fs, ρ5) => simp only [e5] at el; cases el
                    | some (.ok y, ρ5) =>
                      simp only [e5] at el
                      split at el
                      · rename_i hl
                        refine ⟨F4, ρ4, r4, ?_⟩
                        rw [e5]
                        intro F5 H5 v5 s5 r5 p5 f5
                        obtain ⟨f51, f52, f53⟩ := f5 D _ f41 f43
                        have ra5 := ra.mono ((k2.f.trans s4).trans s5)
                        obtain ⟨rq, nq⟩ := (back r5).other (o' := .lst (us ++ [v5])) (noback f53) (f52 (f42 fD')) (r1.fresh nD) f51 trivial
                        exact ⟨us, f51, by rw [← ra.length]; exact sz1000' hl, F5, wipeR ρ5 vs, acc ++ [y], us ++ [v5], ((s2.trans k2.f).trans s4).trans s5, rq, upd_same, f52 (f42 fD'), ra5.append (.cons p5 .nil), nq, el⟩
                      · cases el
                | _ => cases el
        · have e' : i = ds.length := by omega
          subst e'
          rw [List.drop_length] at el
          unfold lcD at el
          cases el
          refine .inl ⟨wk.stops H (s2.trans r2.fh), q F2 H (.ref D) (s1.trans s2) ?_ ⟨⟨D, us, rfl, fD, hD, ra⟩, fun p m => by rw [List.mem_singleton.mp m]; exact r1.fresh nD, fun j u x p hj hs m m' => ?_⟩⟩
          · refine ⟨r2.fh, r2.f0, r2.th, r2.keep, r2.new, ?_, fun j w hj => ?_, fun a b w u v x p h1 h2 h3 h4 m1 m2 => ?_, fun j hj => ?_, r2.tb⟩
            · rw [restR_len, r2.len, wipe_length]
            · rcases restR_some hj with ⟨a, b⟩ | ⟨d, e0, b⟩
              · obtain ⟨v, ev, q⟩ := r2.slot j w b
                rw [wipe_out a] at ev
                exact ⟨v, ev, q⟩
              · subst e0
                obtain ⟨v, ev, q⟩ := r1.slot j _ b
                exact ⟨v, ev, Rp.mono s2 q⟩
            · rcases restR_some h1 with ⟨a1, b1⟩ | ⟨d, e0, _⟩
              · rcases restR_some h2 with ⟨a2, b2⟩ | ⟨d, e0, _⟩
                · exact r2.sep a b w u v x p b1 b2 (by rw [wipe_out a1]; exact h3) (by rw [wipe_out a2]; exact h4) m1 m2
                · subst e0; cases m2
              · subst e0; cases m1
            · have hn : j ∉ vs := fun z => hv j z hj
              rw [restR_out hn, ← wipe_out (σ := σ) hn]
              exact r2.bor j hj
          · rw [List.mem_singleton.mp m] at m'
            rcases restR_some hj with ⟨a, b⟩ | ⟨d, e0, _⟩
            · exact no j u x b (by rw [wipe_out a]; exact hs) m'
            · subst e0; cases m'
theorem w_lc {vs : List Nat} (hc : X.calm = true) (hN : X.N.Nodup) (hi : PI X tg iter (LI X.K P Wx fi)) (ok : BlkOk X.N X.env.scope scope own) (hw : own.map (·.2) = vs) (hv : ∀ v, v ∈ vs → v ∉ P.bs) (hts : ∀ t, t ∈ ts → t ∈ vs)
    (hg : ∀ (s : Shared) (H : Hp) (C : Addr) (cl : List (Str × Addr)) (fp : List Addr) (P' : Pt), P'.bs = P.bs → PG (X.blk s H scope (compEnvC scope cl C X.env) fp) tg (LG X.K P' ts g))
    (ht : ∀ (s : Shared) (H : Hp) (C : Addr) (cl : List (Str × Addr)) (fp : List Addr) (P' : Pt), P'.bs = P.bs → PTs (X.blk s H scope (compEnvC scope cl C X.env) fp) ifs (LT X.K P' W0 ft))
    (he : ∀ (s : Shared) (H : Hp) (C : Addr) (cl : List (Str × Addr)) (fp : List Addr) (P' : Pt), P'.bs = P.bs → PE (X.blk s H scope (compEnvC scope cl C X.env) fp) elt (LE X.K P' W0 fe)) (hs : ∀ x, foldedSetIterable iter X.env x = pure x := by intro _; rfl) :
    PE X (.ListComp elt [⟨tg, iter, ifs, 0⟩] scope pos) (LW X.K P Wx (wLc vs fi g ft fe)) := by
  subst hw
  exact PEm (pe_lc hc hN hi ok (fun s H C cl fp => g_fr (X := X.blk s H scope (compEnvC scope cl C X.env) fp) (hg s H C cl fp)) (fun s H C cl fp => t_fr (X := X.blk s H scope (compEnvC scope cl C X.env) fp) (ht s H C cl fp)) (fun s H C cl fp => d_fr (X := X.blk s H scope (compEnvC scope cl C X.env) fp) (he s H C cl fp)) hs)
    fun σ H Q h => LW_lc hv hts h
end
end DL
namespace DL
open PySem PySem.Spec PyProof.Rows L2 RZ
/-! ### zip, enumerate -/
def zipD (xs ys : List Dt) : List Dt := List.zipWith (fun a b => .tup [a, b]) xs ys
def zipO : List Dt → Option (List Dt)
  | [.lst xs, .lst ys] => some (zipD xs ys)
  | [.tup xs, .tup ys] => some (zipD xs ys)
  | _ => none
def enumD (xs : List Dt) : List Dt := List.zipWith (fun (i : Nat) b => .tup [.int i, b]) (List.range xs.length) xs
def enumO : List Dt → Option (List Dt)
  | [.lst xs] => some (enumD xs)
  | _ => none
section
variable {K : PySem.W.Frag} {F : Hp} {a b : Addr} {vs us : List V} {ds es : List Dt}
theorem zipD_len : (zipD ds es).length = min ds.length es.length := by simp [zipD]
theorem pair_ok {G H : Hp} {d e : Dt} {x y : V} {T : Addr} (s : Same G H) (nT : H T = none) (hd : Rp K G d x) (he : Rp K G e y) : ∃ G', Grow G H G' (upd H T (.tup [x, y])) ∧ Rp K G' (.tup [d, e]) (.ref T) :=
  have gg := Grow.lay (o := .tup [x, y]) s nT
  ⟨_, gg, .tup (.inl (.inl upd_same)) (.cons (hd.mono gg.f) (.cons (he.mono gg.f) .nil))⟩
theorem walkD_zip (h : SqL K F a vs) (h2 : SqL K F b us) (r : Rps K F ds vs) (r2 : Rps K F es us) : WalkD K F (Itz K a b) (zipD ds es) where
  goes := fun i H hi s => (walk_zip (xs := vs) (ys := us) rfl).goes i H (by rw [zipD_len, r.length, r2.length] at hi; exact hi) ⟨s.seq h, s.seq h2⟩
  stops := fun H s => by
    rw [zipD_len, r.length, r2.length]
    exact (walk_zip (xs := vs) (ys := us) rfl).stops H ⟨s.seq h, s.seq h2⟩
  yields := fun i H x H' G hi s1 s2 y => by
    obtain ⟨T, x1, y1, rfl, nT, rfl, e1, e2⟩ := (walk_zip (xs := vs) (ys := us) rfl).yields i H x H' (by rw [zipD_len, r.length, r2.length] at hi; exact hi) ⟨(s1.trans s2).seq h, (s1.trans s2).seq h2⟩ y
    obtain ⟨d, k1, k2⟩ := r.getV e1
    obtain ⟨e, k3, k4⟩ := r2.getV e2
    obtain ⟨G', g1, g2⟩ := pair_ok s2 nT (k2.mono s1) (k4.mono s1)
    exact ⟨G', .tup [d, e], by simp [zipD, List.getElem?_zipWith, k1, k3], g1, g2⟩
theorem walkD_zipT (h : SqT K F a vs) (h2 : SqT K F b us) (r : Rps K F ds vs) (r2 : Rps K F es us) : WalkD K F (ItzT K a b) (zipD ds es) where
  goes := fun i H hi s => by
    rw [zipD_len, r.length, r2.length] at hi
    exact ⟨vs, us, vs[i], us[i], same_sqT s h, same_sqT s h2, by simp [show i < vs.length by omega], by simp [show i < us.length by omega]⟩
  stops := fun H s => by
    rw [zipD_len, r.length, r2.length]
    exact ⟨vs, us, same_sqT s h, same_sqT s h2, by omega⟩
  yields := fun i H x H' G hi s1 s2 y => by
    obtain ⟨T, x1, y1, rfl, nT, rfl, e1, e2⟩ := y
    obtain ⟨d, k1, k2⟩ := r.getV (e1 vs (same_sqT (s1.trans s2) h))
    obtain ⟨e, k3, k4⟩ := r2.getV (e2 us (same_sqT (s1.trans s2) h2))
    obtain ⟨G', g1, g2⟩ := pair_ok s2 nT (k2.mono s1) (k4.mono s1)
    exact ⟨G', .tup [d, e], by simp [zipD, List.getElem?_zipWith, k1, k3], g1, g2⟩
theorem walkD_enum (h : SqL K F a vs) (r : Rps K F ds vs) : WalkD K F (Ite K a) (enumD ds) where
  goes := fun i H hi s => walk_enum.goes i H (by simpa [enumD, r.length] using hi) (s.seq h)
  stops := fun H s => by simpa [enumD, r.length] using walk_enum.stops H (s.seq h)
  yields := fun i H x H' G hi s1 s2 y => by
    have hi' : i < vs.length := by simpa [enumD, r.length] using hi
    obtain ⟨T, x1, y1, rfl, nT, rfl, e1, e2⟩ := walk_enum.yields i H x H' hi' ((s1.trans s2).seq h) y
    cases e1
    obtain ⟨d, k1, k2⟩ := r.getV e2
    obtain ⟨G', g1, g2⟩ := pair_ok (d := .int (i : Nat)) s2 nT (.int _) (k2.mono s1)
    exact ⟨G', .tup [.int (i : Nat), d], by simp [enumD, List.getElem?_zipWith, k1, List.getElem?_range (show i < ds.length by rw [r.length]; exact hi')], g1, g2⟩
end
section
variable {X : Cx} {P : Pt} {Wx : WX} {pos p tpos : Pos} {elts : List Expr} {kk : Nat} {e e2 : Expr} {fa : FA}
theorem i_zip (hg : Gl X "zip") (hm : X.mg "zip" = none) (ha : PA X [e, e2] (LA X.K P Wx fa)) (hs : starEach [e, e2] X.env = (false, eval e X.env) :: starEach [e2] X.env := by rfl) (hpl : (backTo pos (starEach [e2] X.env)).any (·.1) = false := by rfl) :
    PI X (.Tuple elts kk tpos) (.Call (.Name "zip" p) [e, e2] [] pos) (LI X.K P Wx (iArgs zipO fa)) :=
  PIm (pi_zipA hg hm ha hs hpl) fun σ H R h => LA.bindI h fun ds es F1 H1 vs rp sF e k => by
    match ds, rp, e with
    | [.lst xs, .lst ys], .cons (.lst h1 r1) (.cons (.lst h2 r2) .nil), e =>
      cases e
      exact ⟨_, _, _, _, rfl, .inl ⟨.inl (.inl (sF _ _ h1)), .inl (.inl (sF _ _ h2)), k _ (walkD_zip (.inl (.inl h1)) (.inl (.inl h2)) r1 r2)⟩⟩
    | [.tup xs, .tup ys], .cons (.tup h1 r1) (.cons (.tup h2 r2) .nil), e =>
      cases e
      exact ⟨_, _, _, _, rfl, .inr ⟨same_sqT sF h1, same_sqT sF h2, k _ (walkD_zipT h1 h2 r1 r2)⟩⟩
theorem i_enum (hg : Gl X "enumerate") (hm : X.mg "enumerate" = none) (ha : PA X [e] (LA X.K P Wx fa)) (hs : starEach [e] X.env = [(false, eval e X.env)] := by rfl) :
    PI X (.Tuple elts kk tpos) (.Call (.Name "enumerate" p) [e] [] pos) (LI X.K P Wx (iArgs enumO fa)) :=
  PIm (pi_enum hg hm ha hs) fun σ H R h => LA.bindI h fun ds es F1 H1 vs rp sF e k => by
    match ds, rp, e with
    | [.lst xs], .cons (.lst h1 r1) .nil, e =>
      cases e
      exact ⟨_, _, rfl, .inl (.inl (sF _ _ h1)), k _ (walkD_enum (.inl (.inl h1)) r1)⟩
end
/-! ### in -/
def flatD : Dt → Bool
  | .non => true
  | .bl _ => true
  | .int _ => true
  | .str _ => true
  | _ => false
def eqF : Dt → Dt → Bool
  | .non, .non => true
  | .bl a, .bl b => a == b
  | .bl a, .int b => (if a then 1 else 0) == b
  | .int a, .bl b => a == (if b then 1 else 0)
  | .int a, .int b => a == b
  | .str a, .str b => a == b
  | _, _ => false
def signOf (x : Str) : Option Nat := match x.cps.toList with
  | [c] => some c
  | _ => none
theorem signOf_ok {x : Str} {c : Nat} (h : signOf x = some c) : x = ⟨#[c]⟩ := by
  unfold signOf at h
  split at h
  · rename_i e
    cases h
    cases x
    rename_i cps
    have : cps = #[c] := by rw [← Array.toList_inj]; exact e
    rw [this]
  · cases h
def inB : Dt → Dt → Option Bool
  | .str x, .str z => (match signOf x with
    | some c => some (decide (c ∈ z.cps.toList))
    | none => none)
  | d, .tup xs => if flatD d = true ∧ xs.all flatD = true then some (xs.any fun y => eqF y d) else none
  | d, .lst xs => if flatD d = true ∧ xs.all flatD = true then some (xs.any fun y => eqF y d) else none
  | _, _ => none
def dIn (d e : Dt) : Option Dt := (inB d e).map .bl
def dNotIn (d e : Dt) : Option Dt := (inB d e).map fun b => .bl (!b)
section
variable {K : PySem.W.Frag} {F : Hp}
theorem flat_ok {d : Dt} {v : V} (h : Rp K F d v) (e : flatD d = true) : flatV v = true := by cases h <;> first | rfl | cases e
theorem eqF_ok {d e : Dt} {v u : V} (h : Rp K F d v) (h2 : Rp K F e u) (e1 : flatD d = true) (e2 : flatD e = true) : eqV v u = eqF d e := by
  cases h <;> first | (cases h2 <;> first | rfl | cases e2) | cases e1
theorem flats_ok : ∀ {ds : List Dt} {vs : List V}, Rps K F ds vs → ds.all flatD = true → vs.all flatV = true
  | _, _, .nil, _ => rfl
  | _, _, .cons h r, e => by
    simp only [List.all_cons, Bool.and_eq_true] at e ⊢
    exact ⟨flat_ok h e.1, flats_ok r e.2⟩
theorem any_ok {d : Dt} {v : V} (h : Rp K F d v) (e : flatD d = true) : ∀ {ds : List Dt} {vs : List V}, Rps K F ds vs → ds.all flatD = true → inV v vs = ds.any fun y => eqF y d
  | _, _, .nil, _ => rfl
  | _, _, .cons h2 r, e2 => by
    simp only [List.all_cons, Bool.and_eq_true] at e2
    have := any_ok h e r e2.2
    unfold inV at this ⊢
    simp only [List.any_cons]
    rw [eqF_ok h2 h e2.1 e, this]
end
def rInA (K : PySem.W.Frag) (neg : Bool) : R2 := fun x y H Q => (∃ (c : Nat) (z : Str), x = .str ⟨#[c]⟩ ∧ y = .str z ∧ Q (.bl (if neg then !decide (c ∈ z.cps.toList) else decide (c ∈ z.cps.toList))) H) ∨ rIn K neg x y H Q
section
variable {X : Cx}
theorem op_inA : OpR X (compareOp .In) (rInA X.K false) := op_in_sign.or op_in_seq
theorem op_notInA : OpR X (compareOp .NotIn) (rInA X.K true) := op_notIn_sign.or op_notIn_seq
theorem in_rule {neg : Bool} {d e : Dt} {b : Bool} (h : inB d e = some b) {F H : Hp} {x y : V} {Q : VK} (s : Same F H) (hd : Rp X.K F d x) (he : Rp X.K F e y) (q : Q (.bl (if neg then !b else b)) H) : rInA X.K neg x y H Q := by
  unfold inB at h
  split at h
  · split at h
    · rename_i hs
      cases h
      have := signOf_ok hs
      subst this
      cases hd
      cases he
      exact .inl ⟨_, _, rfl, rfl, q⟩
    · cases h
  · split at h
    · rename_i c
      cases h
      cases he with
      | tup hq hr =>
        refine .inr ⟨_, _, rfl, .inr (same_sqT s hq), flat_ok hd c.1, flats_ok hr c.2, ?_⟩
        rw [any_ok hd c.1 hr c.2]
        exact q
    · cases h
  · split at h
    · rename_i c
      cases h
      cases he with
      | lst hq hr =>
        refine .inr ⟨_, _, rfl, .inl (.inl (.inl (s _ _ hq))), flat_ok hd c.1, flats_ok hr c.2, ?_⟩
        rw [any_ok hd c.1 hr c.2]
        exact q
    · cases h
  · cases h
theorem od_in : OpD X.K (rInA X.K false) dIn := by
  intro d e g h F H x y Q s hd he q
  unfold dIn at h
  cases hb : inB d e with
  | none => rw [hb] at h; cases h
  | some b => rw [hb] at h; cases h; exact in_rule (neg := false) hb s hd he (q F H _ (Grow.refl s) (.bl _))
theorem od_notIn : OpD X.K (rInA X.K true) dNotIn := by
  intro d e g h F H x y Q s hd he q
  unfold dNotIn at h
  cases hb : inB d e with
  | none => rw [hb] at h; cases h
  | some b => rw [hb] at h; cases h; exact in_rule (neg := true) hb s hd he (q F H _ (Grow.refl s) (.bl _))
end
/-! ### a look at a slot's own list -/
theorem Rel.peek {K : PySem.W.Frag} {P : Pt} {F H : Hp} {σ : L2.St} {ρ : Rho} (r : Rel K P F H σ ρ) {j : Nat} {d : Dt} (h : slotD ρ[j]? = some d) : ∃ v F1, σ[j]? = some (some v) ∧ Same F F1 ∧ Same F1 H ∧ Rp K F1 d v := by
  match e : ρ[j]? with
  | none => rw [e] at h; cases h
  | some none => rw [e] at h; cases h
  | some (some (.sh d')) =>
    rw [e] at h
    cases h
    obtain ⟨v, ev, q⟩ := r.slot j _ e
    exact ⟨v, F, ev, .refl _, r.fh, q⟩
  | some (some (.tr t)) => rw [e] at h; cases h
  | some (some (.own xs)) =>
    rw [e] at h
    cases h
    obtain ⟨p, vs, ev, e1, e2, e3⟩ := r.own e
    refine ⟨_, upd F p (.lst vs), ev, same_new e1, fun b o q => ?_, .lst upd_same (e3.mono (same_new e1))⟩
    by_cases hb : b = p
    · subst hb; rw [upd_same] at q; rw [e2]; exact q
    · rw [upd_ne hb] at q; exact r.fh b o q
theorem flat_any {K : PySem.W.Frag} {F F' : Hp} {d : Dt} {v : V} (h : Rp K F d v) (e : flatD d = true) : Rp K F' d v := by
  cases h with
  | non => exact .non
  | bl b => exact .bl b
  | int i => exact .int i
  | str x => exact .str x
  | _ => cases e
def eF (o : Option Dt) : FE := fun ρ => match o with
  | some d => if flatD d = true then some (.ok d, ρ) else none
  | none => none
def withV (j : Nat) (k : Dt → FE) : FE := fun ρ => match slotD ρ[j]? with
  | some d => k d ρ
  | none => none
def eOpL (o : Dt → Dt → Option Dt) (j : Nat) (fb : FE) : FE := withV j fun _ => bindE fb fun e => withV j fun d => eF (o d e)
def eOpR (o : Dt → Dt → Option Dt) (fa : FE) (j : Nat) : FE := bindE fa fun d => withV j fun e => eF (o d e)
def eCBV (o : List Dt → Option Dt) (j : Nat) : FE := withV j fun d => eF (o [d])
theorem withV_some {j : Nat} {k : Dt → FE} {ρ : Rho} {p : Option (RD × Rho) → Prop} (h : p (withV j k ρ)) (hn : ¬ p none) : ∃ d, slotD ρ[j]? = some d ∧ p (k d ρ) := by
  unfold withV at h
  cases e : slotD ρ[j]? with
  | none => simp only [e] at h; exact (hn h).elim
  | some d => simp only [e] at h; exact ⟨d, rfl, h⟩
theorem eF_some {K : PySem.W.Frag} {P : Pt} {Wx : WX} {σ : L2.St} {F : Hp} {Q : VK} {o : Option Dt} {ρ : Rho} (h : postE K P Wx σ F Q (eF o ρ)) : ∃ g, o = some g ∧ flatD g = true ∧ postE K P Wx σ F Q (some (.ok g, ρ)) := by
  unfold eF at h
  cases o with
  | none => exact h.elim
  | some g =>
    simp only [] at h
    split at h
    · rename_i c; exact ⟨g, rfl, c, h⟩
    · exact h.elim
theorem growH {F H H' F1 F' : Hp} (s : Same F H) (g : Grow F1 H F' H') : Grow F H F H' := ⟨.refl _, g.h, s.trans g.h, fun _ _ e => .inl e⟩
section
variable {X : Cx} {P : Pt} {Wx : WX} {pos pos' p : Pos} {a b : Expr} {fa fb : FE}
theorem LE_opL {r : R2} {o : Dt → Dt → Option Dt} (hr : OpD X.K r o) {j : Nat} {σ : L2.St} {H : Hp} {Q : VK} (h : LE X.K P Wx (eOpL o j fb) σ H Q) : tOp r (tVar j) (LE X.K P Wx fb) σ H Q := by
  obtain ⟨F, ρ, rr, q⟩ := h
  obtain ⟨d0, e0, q⟩ := withV_some (p := postE X.K P Wx σ F Q) q (fun z => z)
  obtain ⟨v, _, ev, _⟩ := rr.peek e0
  refine ⟨v, ev, ?_⟩
  refine LE.bind rr q fun e ρ1 F1 H1 y s1 r1 p1 q1 => ?_
  obtain ⟨d, e1, q1⟩ := withV_some (p := postE X.K P Wx σ F1 Q) q1 (fun z => z)
  obtain ⟨v', F2, ev', s2, s3, pd⟩ := r1.peek e1
  rw [ev] at ev'
  cases ev'
  obtain ⟨g, e2, fl, q1⟩ := eF_some q1
  exact hr d e g e2 F2 H1 v y Q s3 pd (p1.mono s2) fun F' H' z g' pz => q1 F1 H' z (.refl _) (r1.grow (growH r1.fh g')) (flat_any pz fl)
theorem LE_opR {r : R2} {o : Dt → Dt → Option Dt} (hr : OpD X.K r o) {j : Nat} {σ : L2.St} {H : Hp} {Q : VK} (h : LE X.K P Wx (eOpR o fa j) σ H Q) : tOp r (LE X.K P Wx fa) (tVar j) σ H Q := by
  obtain ⟨F, ρ, rr, q⟩ := h
  refine LE.bind rr q fun d ρ1 F1 H1 x s1 r1 p1 q1 => ?_
  obtain ⟨e, e1, q1⟩ := withV_some (p := postE X.K P Wx σ F1 Q) q1 (fun z => z)
  obtain ⟨v, F2, ev, s2, s3, pe⟩ := r1.peek e1
  obtain ⟨g, e2, fl, q1⟩ := eF_some q1
  exact ⟨v, ev, hr d e g e2 F2 H1 x v Q s3 (p1.mono s2) pe fun F' H' z g' pz => q1 F1 H' z (.refl _) (r1.grow (growH r1.fh g')) (flat_any pz fl)⟩
theorem d_cmpL {op : CmpOp} {r : R2} {o : Dt → Dt → Option Dt} (j : Nat) {x : Str} (ho : OpR X (compareOp op) r) (hr : OpD X.K r o) (hb : PE X b (LE X.K P Wx fb)) (hm : behindInMarks op b = false) (hN : X.N[j]? = some x := by rfl) (hv : Vis X.env.scope x := by first | exact Or.inl rfl | exact Or.inr (Or.inl rfl) | exact Or.inr (Or.inr rfl)) (hd : (x == ("__debug__" : Str)) = false := by decide)
    (hcd : (x == ("__classdict__" : Str)) = false := by decide) : PE X (.Compare (.Name x pos') [op] [b] pos) (LE X.K P Wx (eOpL o j fb)) := PEm (pe_cmpR ho (pe_var hN hv hd hcd) hb hm) fun _ _ _ h => LE_opL hr h
theorem t_cmpL {op : CmpOp} {r : R2} {o : Dt → Dt → Option Dt} (j : Nat) {x : Str} (ho : OpR X (compareOp op) r) (hr : OpD X.K r o) (hb : PE X b (LE X.K P Wx fb)) (hm : behindInMarks op b = false) (hN : X.N[j]? = some x := by rfl) (hv : Vis X.env.scope x := by first | exact Or.inl rfl | exact Or.inr (Or.inl rfl) | exact Or.inr (Or.inr rfl)) (hd : (x == ("__debug__" : Str)) = false := by decide)
    (hcd : (x == ("__classdict__" : Str)) = false := by decide) : PT X (.Compare (.Name x pos') [op] [b] pos) (LT X.K P Wx (eOpL o j fb)) := PTm (pt_cmpR ho (pe_var hN hv hd hcd) hb hm) fun _ _ _ h => LE_opL hr h
theorem d_cmpRt {op : CmpOp} {r : R2} {o : Dt → Dt → Option Dt} (j : Nat) {x : Str} (ho : OpR X (compareOp op) r) (hr : OpD X.K r o) (ha : PE X a (LE X.K P Wx fa)) (hm : behindInMarks op (.Name x pos') = false) (hN : X.N[j]? = some x := by rfl) (hv : Vis X.env.scope x := by first | exact Or.inl rfl | exact Or.inr (Or.inl rfl) | exact Or.inr (Or.inr rfl)) (hd : (x == ("__debug__" : Str)) = false := by decide)
    (hcd : (x == ("__classdict__" : Str)) = false := by decide) : PE X (.Compare a [op] [.Name x pos'] pos) (LE X.K P Wx (eOpR o fa j)) := PEm (pe_cmpR ho ha (pe_var hN hv hd hcd) hm) fun _ _ _ h => LE_opR hr h
theorem t_cmpRt {op : CmpOp} {r : R2} {o : Dt → Dt → Option Dt} (j : Nat) {x : Str} (ho : OpR X (compareOp op) r) (hr : OpD X.K r o) (ha : PE X a (LE X.K P Wx fa)) (hm : behindInMarks op (.Name x pos') = false) (hN : X.N[j]? = some x := by rfl) (hv : Vis X.env.scope x := by first | exact Or.inl rfl | exact Or.inr (Or.inl rfl) | exact Or.inr (Or.inr rfl)) (hd : (x == ("__debug__" : Str)) = false := by decide)
    (hcd : (x == ("__classdict__" : Str)) = false := by decide) : PT X (.Compare a [op] [.Name x pos'] pos) (LT X.K P Wx (eOpR o fa j)) := PTm (pt_cmpR ho ha (pe_var hN hv hd hcd) hm) fun _ _ _ h => LE_opR hr h
theorem LE_cbV {r : List V → Hp → VK → Prop} {o : List Dt → Option Dt} (hr : CallD X.K r o) {j : Nat} {σ : L2.St} {H : Hp} {Q : VK} (h : LE X.K P Wx (eCBV o j) σ H Q) : tCB r (tCons (tVar j) tNil) σ H Q := by
  obtain ⟨F, ρ, rr, q⟩ := h
  obtain ⟨d, e1, q⟩ := withV_some (p := postE X.K P Wx σ F Q) q (fun z => z)
  obtain ⟨v, F2, ev, s2, s3, pd⟩ := rr.peek e1
  obtain ⟨g, e2, fl, q⟩ := eF_some q
  exact ⟨v, ev, hr [d] g e2 F2 H [v] Q s3 (.cons pd .nil) fun F' H' z g' pz => q F H' z (.refl _) (rr.grow (growH rr.fh g')) (flat_any pz fl)⟩
theorem d_cbV {x y : Str} {id : String} (j : Nat) {r : List V → Hp → VK → Prop} {o : List Dt → Option Dt} (hr : CallD X.K r o) (hc : CallR X (.builtin id) r) (hg : Gl X y) (hm : X.mg y = none) (hv' : bootBuiltins y = some (.builtin id)) (hN : X.N[j]? = some x := by rfl) (hv : Vis X.env.scope x := by first | exact Or.inl rfl | exact Or.inr (Or.inl rfl) | exact Or.inr (Or.inr rfl)) (hd : (x == ("__debug__" : Str)) = false := by decide)
    (hcd : (x == ("__classdict__" : Str)) = false := by decide) (hn : y ≠ "__name__" := by decide) (hdb : (y == ("__debug__" : Str)) = false := by decide) (he : starEach (.Name x pos' :: []) X.env = (false, eval (.Name x pos') X.env) :: starEach [] X.env := by rfl) (hpl : (backTo pos (starEach [] X.env)).any (·.1) = false := by rfl) :
    PE X (.Call (.Name y p) [.Name x pos'] [] pos) (LE X.K P Wx (eCBV o j)) := PEm (pe_callB hc hg hm hv' (pa_cons (pe_var hN hv hd hcd) pa_nil he) hn hdb he hpl) fun _ _ _ h => LE_cbV hr h
end
end DL
namespace DL
open PySem PySem.Spec PyProof.Rows L2 RZ
/-! ### defs by name -/
structure FnAt (P : Program) (w : World) (K : PySem.W.Frag) (mg : Str → Option Value) (base : Heap) (k : Nat) (x : Str) (n : Nat) (g : FnD) : Prop where
  ex : ∃ f fd ps, FnOk P w K mg base (L2.CX P w) k f fd ps (spF K n g) ∧ mg x = some (.ref f) ∧ PySem.W.keepIn K (.ref f) = true ∧ Binds K fd ps [] ∧ PySem.W.nsIn K mainGlobals x = some (some (.ref f))
section
variable {P : Program} {w : World} {K : PySem.W.Frag} {mg : Str → Option Value} {base : Heap}
theorem FnAt.mono {j k : Nat} {x : Str} {n : Nat} {g : FnD} (h : FnAt P w K mg base j x n g) (hk : j ≤ k) : FnAt P w K mg base k x n g := by
  obtain ⟨f, fd, ps, a, b, c, d⟩ := h.ex
  exact ⟨f, fd, ps, a.mono hk, b, c, d⟩
/-- where a def stands -/
structure DefAt (K : PySem.W.Frag) (mg : Str → Option Value) (x : Str) (st : Stmt) (ps : List Str) : Prop where
  ex : ∃ f fd, Fun K x x st f fd ∧ mg x = some (.ref f) ∧ Binds K fd ps [] ∧ PySem.W.nsIn K mainGlobals x = some (some (.ref f))
theorem FnAt.none {x : Str} {st : Stmt} {ps : List Str} (D : DefAt K mg x st ps) : FnAt P w K mg base 0 x ps.length (fun _ => none) := by
  obtain ⟨f, fd, F, b, d⟩ := D.ex
  refine ⟨f, fd, ps, ⟨fun vs H Q E h => h.1, fun A outer s H args us vs Q E _ _ _ _ h => ?_⟩, b, F.kp, d⟩
  obtain ⟨_, _, _, _, _, _, _, _, z⟩ := h
  exact z.elim
theorem fn_at {x : Str} {st : Stmt} {N ps : List Str} {k : Nat} (bs : List Nat) {fb : FS} (D : DefAt K mg x st ps) (S : FnScope N ps (defScope st))
    (hb : ∀ (f : Addr) (cdv : Value) (A : Around) (outer : List Env) (s : Shared) (H : Hp) (E : XK) (Z : Pt), (∀ j, j ∈ Z.bs → j ∈ bs) → Room k (A.deeper (envOfC x (defScope st) s.heap.objs.size f cdv)) →
      PSs (cxOf (L2.CX P w) P w K mg base N x (defScope st) f cdv A outer s H E) (defBody st) (LS K Z (fun cls d _ H => E cls d H) fb)) :
    FnAt P w K mg base (k + 1) x ps.length (callF N.length bs fb) := by
  obtain ⟨f, fd, F, b, d⟩ := D.ex
  exact ⟨f, fd, ps, fn_okD bs F S (hb f), b, F.kp, d⟩
end
section
variable {X : Cx} {P : Pt} {Wx : WX} {pos p : Pos} {e : Expr} {es : List Expr} {fa : FA} {k n : Nat} {g : FnD} {x : Str}
theorem w_fn (h : FnAt X.prog X.w X.K X.mg X.base k x n g) (hr : Room k X.A) (tk : Takes X Wx) (hg : Gl X x) (ha : PA X (e :: es) (LA X.K P Wx fa)) (hdb : (x == ("__debug__" : Str)) = false := by decide) (he : starEach (e :: es) X.env = (false, eval e X.env) :: starEach es X.env := by rfl) (hpl : (backTo pos (starEach es X.env)).any (·.1) = false := by rfl) :
    PE X (.Call (.Name x p) (e :: es) [] pos) (LW X.K P Wx (wCall n g fa)) := by
  obtain ⟨f, fd, ps, a, b, c, d⟩ := h.ex
  exact w_call a hr hg b c d.1 tk ha hdb he hpl
theorem t_and1 {a : Expr} {f : FE} (ha : PT X a (LT X.K P Wx f)) : PW X (.BoolOp .And [a] pos) (LT X.K P Wx f) := pw_and1 ha
theorem t_or1 {a : Expr} {f : FE} (ha : PT X a (LT X.K P Wx f)) : PW X (.BoolOp .Or [a] pos) (LT X.K P Wx f) := pw_or1 ha
theorem nb {Z : Pt} {bs : List Nat} {i : Nat} (hZ : ∀ j, j ∈ Z.bs → j ∈ bs) (h : i ∉ bs) : i ∉ Z.bs := fun m => h (hZ i m)
theorem nbs {Z : Pt} {bs vs : List Nat} (hZ : ∀ j, j ∈ Z.bs → j ∈ bs) (h : ∀ v, v ∈ vs → v ∉ bs) : ∀ v, v ∈ vs → v ∉ Z.bs := fun v hv m => h v hv (hZ v m)
theorem nbt {Z Z' : Pt} {bs : List Nat} (e : Z'.bs = Z.bs) (hZ : ∀ j, j ∈ Z.bs → j ∈ bs) : ∀ j, j ∈ Z'.bs → j ∈ bs := by rw [e]; exact hZ
/-- name = [.. for ..] -/
theorem s_setLc {vs : List Nat} {i : Nat} {y : Str} {py : Pos} {elt tg iter : Expr} {ifs : List Expr} {scope : Scope} {own : List (Str × Nat)} {spos : Pos} {fi : FI} {gd : GD} {ts : List Nat} {ft fe : FE} (hib : i ∉ P.bs) (hc : X.calm = true) (hN : X.N.Nodup) (hy : X.N[i]? = some y) (hyl : X.env.scope.names.lookup y = some .local)
    (hsw : swapsWith (.ListComp elt [⟨tg, iter, ifs, 0⟩] scope pos) (some (.Name y py)) spos.line X.env = pure true) (hi : PI X tg iter (LI X.K P Wx fi)) (ok : BlkOk X.N X.env.scope scope own) (hw : own.map (·.2) = vs) (hv : ∀ v, v ∈ vs → v ∉ P.bs) (hts : ∀ t, t ∈ ts → t ∈ vs)
    (hg : ∀ (s : Shared) (H : Hp) (C : Addr) (cl : List (Str × Addr)) (fp : List Addr) (P' : Pt), P'.bs = P.bs → PG (X.blk s H scope (compEnvC scope cl C X.env) fp) tg (LG X.K P' ts gd))
    (ht : ∀ (s : Shared) (H : Hp) (C : Addr) (cl : List (Str × Addr)) (fp : List Addr) (P' : Pt), P'.bs = P.bs → PTs (X.blk s H scope (compEnvC scope cl C X.env) fp) ifs (LT X.K P' W0 ft))
    (he : ∀ (s : Shared) (H : Hp) (C : Addr) (cl : List (Str × Addr)) (fp : List Addr) (P' : Pt), P'.bs = P.bs → PE (X.blk s H scope (compEnvC scope cl C X.env) fp) elt (LE X.K P' W0 fe)) (hs : ∀ x, foldedSetIterable iter X.env x = pure x := by intro _; rfl) :
    PS X (.Assign [.Name y py] (.ListComp elt [⟨tg, iter, ifs, 0⟩] scope pos) spos) (LS X.K P Wx (sAsg i (wLc vs fi gd ft fe))) := by
  subst hw
  exact PSm (ps_setLc hc hN hy hyl hsw hi ok (fun s H C cl fp => g_fr (X := X.blk s H scope (compEnvC scope cl C X.env) fp) (hg s H C cl fp)) (fun s H C cl fp => t_fr (X := X.blk s H scope (compEnvC scope cl C X.env) fp) (ht s H C cl fp)) (fun s H C cl fp => d_fr (X := X.blk s H scope (compEnvC scope cl C X.env) fp) (he s H C cl fp)) hs)
    fun D σ H h => by
    refine LW_lc (P := P) (Wx := Wx) (g := gd) (ft := ft) (fe := fe) hv hts ?_
    obtain ⟨F, ρ, r, q⟩ := h
    exact LW.bindS r q fun w ρ1 F1 H1 v s1 r1 p1 q1 => q1 F1 H1 _ (.refl _) (r1.asg hib p1)
end
/-! ### the end of a law -/
theorem def_mk {K : PySem.W.Frag} {h : Heap} {mg : Str → Option Value} {x : Str} {st : Stmt} {ps : List Str} {f : Addr} {oc : Value} {od an : Option Addr} {osl : Array (Option Value)} {kV doc pm cdv ct : Value} (X : K.In h) (G : h.Ns mainGlobals mg)
    (a : PySem.W.nsIn K mainGlobals x = some (some (.ref f))) (l : K.lookup f = some ⟨oc, od, .func (PySem.W.fnOf x x (defArgs st) (defBody st) (defScope st) .none kV doc pm an cdv ct), osl⟩)
    (c : PySem.W.codeIn K cdv x = true) (k : PySem.W.keepIn K (.ref f) = true)
    (hb : ∀ (kV doc pm : Value) (an : Option Addr) (cdv ct : Value) (us : List Value), us.length = ps.length → bindArgs (PySem.W.fnOf x x (defArgs st) (defBody st) (defScope st) .none kV doc pm an cdv ct) ⟨us, []⟩ = pure (ps.zip us)) : DefAt K mg x st ps :=
  have F := fun_mk (st := st) l c k
  ⟨f, _, F, PySem.W.mg_of X G a, F.binds hb, a⟩
theorem CX_no {P : Program} {w : World} {H : Hp} {s : Shared} {e : Value} {s' : Shared} (h : L2.CX P w [] H s (fun _ _ _ => False) e s') : False := by
  obtain ⟨_, _, _, _, _, _, _, _, _, _, _, _, z⟩ := h
  exact z
/-- what a law's promise asks of its function -/
theorem law_sp {K : PySem.W.Frag} {g : FnD} {H : Hp} {a : Addr} {ns : List Int} (hS : SqL K H a (ns.map V.int)) (hg : g [.sh (.scr ns)] = some (.ok (.sh (.bl true)), [])) : spF K 1 g [.ref a] H (fun v _ => v = .bl true) (fun _ _ _ => False) := by
  refine ⟨rfl, H, H, [.sh (.scr ns)], .refl _, .refl _, .sh (.scr hS) .nil, List.nodup_nil, ?_⟩
  rw [hg]
  intro F' H' v _ fw
  cases fw
  rfl
end DL
namespace DL
open PySem PySem.Spec PyProof.Rows L2 RZ
/-! ### running functions of data -/
def EvE (f : FE) (ρ : Rho) (Q : Dt → Rho → Prop) : Prop := ∃ d ρ', f ρ = some (.ok d, ρ') ∧ Q d ρ'
def EvW (f : FW) (ρ : Rho) (Q : Wt → Rho → Prop) : Prop := ∃ w ρ', f ρ = some (.ok w, ρ') ∧ Q w ρ'
def EvA (f : FA) (ρ : Rho) (Q : List Av → Rho → Prop) : Prop := ∃ as ρ', f ρ = some (.ok as, ρ') ∧ Q as ρ'
def EvI (f : FI) (ρ : Rho) (Q : List Dt → Rho → Prop) : Prop := ∃ ds ρ', f ρ = some (.ok ds, ρ') ∧ Q ds ρ'
def EvF (g : FnD) (ws : List Aw) (Q : Wt → List Wt → Prop) : Prop := ∃ w cs, g ws = some (.ok w, cs) ∧ Q w cs
def EvS (f : FS) (ρ : Rho) (N : Rho → Prop) (R : Wt → Rho → Prop) : Prop := (∃ ρ', f ρ = some (.nx, ρ') ∧ N ρ') ∨ (∃ w ρ', f ρ = some (.rt w, ρ') ∧ R w ρ')
/-- a truth value's two ways -/
inductive EvB : Dt → Prop → Prop → Prop
  | mk (b : Bool) {T F : Prop} (h1 : b = true → T) (h2 : b = false → F) : EvB (.bl b) T F
theorem EvB.ex {d : Dt} {T F : Prop} (h : EvB d T F) : ∃ b, d = .bl b ∧ (b = true → T) ∧ (b = false → F) := by
  cases h with
  | mk b h1 h2 => exact ⟨b, rfl, h1, h2⟩
/-- slots that are to be written out -/
def Nrm (ρ : Rho) (P : Rho → Prop) : Prop := P ρ
theorem nrm_eq {ρ ρ' : Rho} {P : Rho → Prop} (e : ρ = ρ') (h : P ρ') : Nrm ρ P := by subst e; exact h
section
variable {ρ : Rho} {Q : Dt → Rho → Prop} {QW : Wt → Rho → Prop} {QA : List Av → Rho → Prop} {f fa fb fc : FE} {r : FA}
theorem evB {b : Bool} {T F : Prop} (h1 : b = true → T) (h2 : b = false → F) : EvB (.bl b) T F := .mk b h1 h2
theorem evB_t {T F : Prop} (h1 : T) : EvB (.bl true) T F := .mk true (fun _ => h1) (fun h => nomatch h)
theorem evB_f {T F : Prop} (h1 : F) : EvB (.bl false) T F := .mk false (fun h => nomatch h) fun _ => h1
theorem ev_c {d : Dt} (h : Q d ρ) : EvE (eC d) ρ Q := ⟨d, ρ, rfl, h⟩
theorem ev_var {i : Nat} {d : Dt} (e : ρ[i]? = some (some (.sh d))) (h : Q d ρ) : EvE (eVar i) ρ Q := ⟨d, ρ, by unfold eVar; rw [e], h⟩
theorem ev_varO {i : Nat} {xs : List Dt} (e : ρ[i]? = some (some (.own xs))) (h : Q (.lst xs) (ρ.set i (some (.sh (.lst xs))))) : EvE (eVar i) ρ Q := ⟨_, _, by unfold eVar; rw [e], h⟩
theorem ev_bind {k : Dt → FE} (h : EvE fa ρ fun d ρ1 => EvE (k d) ρ1 Q) : EvE (bindE fa k) ρ Q := by
  obtain ⟨d, ρ1, e, d2, ρ2, e2, q⟩ := h
  exact ⟨d2, ρ2, by unfold bindE; simp only [e, e2], q⟩
theorem ev_V {o : Option Dt} {d : Dt} (e : o = some d) (h : Q d ρ) : EvE (eV o) ρ Q := ⟨d, ρ, by subst e; rfl, h⟩
theorem ev_op {o : Dt → Dt → Option Dt} (h : EvE fa ρ fun d ρ1 => EvE fb ρ1 fun e ρ2 => ∃ g, o d e = some g ∧ Q g ρ2) : EvE (eOp o fa fb) ρ Q := by
  refine ev_bind ?_
  obtain ⟨d, ρ1, e, h⟩ := h
  refine ⟨d, ρ1, e, ev_bind ?_⟩
  obtain ⟨d, ρ1, e, g, eg, h⟩ := h
  exact ⟨d, ρ1, e, ev_V eg h⟩
theorem ev_un {o : Dt → Option Dt} (h : EvE fa ρ fun d ρ1 => ∃ g, o d = some g ∧ Q g ρ1) : EvE (eUn o fa) ρ Q := by
  refine ev_bind ?_
  obtain ⟨d, ρ1, e, g, eg, h⟩ := h
  exact ⟨d, ρ1, e, ev_V eg h⟩
theorem ev_ite (h : EvE fc ρ fun d ρ1 => EvB d (EvE fa ρ1 Q) (EvE fb ρ1 Q)) : EvE (eIte fc fa fb) ρ Q := by
  refine ev_bind ?_
  obtain ⟨d, ρ1, e, h⟩ := h
  obtain ⟨b, rfl, h1, h2⟩ := h.ex
  refine ⟨_, ρ1, e, ?_⟩
  cases b with
  | true => exact h1 rfl
  | false => exact h2 rfl
theorem ev_and (h : EvE fa ρ fun d ρ1 => EvB d (EvE fb ρ1 Q) (Q (.bl false) ρ1)) : EvE (eAnd fa fb) ρ Q := by
  refine ev_ite ?_
  obtain ⟨d, ρ1, e, h⟩ := h
  obtain ⟨b, rfl, h1, h2⟩ := h.ex
  exact ⟨_, ρ1, e, evB h1 fun z => ev_c (h2 z)⟩
theorem ev_or (h : EvE fa ρ fun d ρ1 => EvB d (Q (.bl true) ρ1) (EvE fb ρ1 Q)) : EvE (eOr fa fb) ρ Q := by
  refine ev_ite ?_
  obtain ⟨d, ρ1, e, h⟩ := h
  obtain ⟨b, rfl, h1, h2⟩ := h.ex
  exact ⟨_, ρ1, e, evB (fun z => ev_c (h1 z)) h2⟩
theorem ev_not (h : EvE fa ρ fun d ρ1 => ∃ b, d = .bl b ∧ Q (.bl (!b)) ρ1) : EvE (eNot fa) ρ Q := by
  refine ev_un ?_
  obtain ⟨d, ρ1, e, b, rfl, h⟩ := h
  exact ⟨_, ρ1, e, _, rfl, h⟩
theorem ev_chain {o o' : Dt → Dt → Option Dt} (h : EvE fa ρ fun d ρ1 => EvE fb ρ1 fun e ρ2 => ∃ b, o d e = some (.bl b) ∧ (b = true → EvE fc ρ2 fun f ρ3 => ∃ g, o' e f = some g ∧ Q g ρ3) ∧ (b = false → Q (.bl false) ρ2)) : EvE (eChain o o' fa fb fc) ρ Q := by
  refine ev_bind ?_
  obtain ⟨d, ρ1, e, h⟩ := h
  refine ⟨d, ρ1, e, ev_bind ?_⟩
  obtain ⟨d2, ρ2, e2, b, eb, h1, h2⟩ := h
  refine ⟨d2, ρ2, e2, ev_bind (ev_V eb ?_)⟩
  cases b with
  | true =>
    refine ev_bind ?_
    obtain ⟨d3, ρ3, e3, g, eg, q⟩ := h1 rfl
    exact ⟨d3, ρ3, e3, ev_V eg q⟩
  | false => exact ev_c (h2 rfl)
theorem ea_nil (h : QA [] ρ) : EvA aNil ρ QA := ⟨[], ρ, rfl, h⟩
theorem ea_val (h : EvE f ρ fun d ρ1 => EvA r ρ1 fun as ρ2 => QA (.val d :: as) ρ2) : EvA (aVal f r) ρ QA := by
  obtain ⟨d, ρ1, e, as, ρ2, e2, q⟩ := h
  exact ⟨_, ρ2, by unfold aVal bindEA; simp only [e, e2], q⟩
theorem ea_slot {j : Nat} {xs : List Dt} (e : ρ[j]? = some (some (.own xs))) (h : EvA r ρ fun as ρ2 => QA (.slot j :: as) ρ2) : EvA (aSlot j r) ρ QA := by
  obtain ⟨as, ρ2, e2, q⟩ := h
  exact ⟨_, ρ2, by unfold aSlot; simp only [e, e2], q⟩
theorem ea_slotT {j : Nat} {t : Tr} (e : ρ[j]? = some (some (.tr t))) (h : EvA r ρ fun as ρ2 => QA (.slot j :: as) ρ2) : EvA (aSlot j r) ρ QA := by
  obtain ⟨as, ρ2, e2, q⟩ := h
  exact ⟨_, ρ2, by unfold aSlot; simp only [e, e2], q⟩
theorem ea_tmp {w : FW} (h : EvW w ρ fun x ρ1 => match x with | .own xs => QA [.tmp (.own xs)] ρ1 | .tr t => QA [.tmp (.tr t)] ρ1 | .sh d => QA [.val d] ρ1) : EvA (aTmp w) ρ QA := by
  obtain ⟨x, ρ1, e, q⟩ := h
  cases x with
  | own xs => exact ⟨_, ρ1, by unfold aTmp; simp only [e], q⟩
  | tr t => exact ⟨_, ρ1, by unfold aTmp; simp only [e], q⟩
  | sh d => exact ⟨_, ρ1, by unfold aTmp; simp only [e], q⟩
theorem ev_tup (h : EvA r ρ fun as ρ1 => ∃ ds, vals as = some ds ∧ ds.length ≤ 100000 ∧ Q (.tup ds) ρ1) : EvE (eTup r) ρ Q := by
  obtain ⟨as, ρ1, e, ds, e2, hl, q⟩ := h
  exact ⟨_, ρ1, by unfold eTup bindAE; simp only [e, e2, if_pos hl]; rfl, q⟩
theorem ew_lst (h : EvA r ρ fun as ρ1 => ∃ ds, vals as = some ds ∧ ds.length ≤ 100000 ∧ QW (.own ds) ρ1) : EvW (wLst r) ρ QW := by
  obtain ⟨as, ρ1, e, ds, e2, hl, q⟩ := h
  exact ⟨_, ρ1, by unfold wLst bindAW; simp only [e, e2, if_pos hl], q⟩
theorem ew_sh (h : EvE f ρ fun d ρ1 => QW (.sh d) ρ1) : EvW (wSh f) ρ QW := by
  obtain ⟨d, ρ1, e, q⟩ := h
  exact ⟨_, ρ1, by unfold wSh bindEW; simp only [e], q⟩
theorem ew_var {i : Nat} {d : Dt} (e : ρ[i]? = some (some (.sh d))) (h : QW (.sh d) ρ) : EvW (wVar i) ρ QW := ⟨_, ρ, by unfold wVar; rw [e], h⟩
theorem ew_varO {i : Nat} {xs : List Dt} (e : ρ[i]? = some (some (.own xs))) (h : QW (.own xs) (ρ.set i none)) : EvW (wVar i) ρ QW := ⟨_, _, by unfold wVar; rw [e], h⟩
theorem ev_frz {w : FW} (h : EvW w ρ fun x ρ1 => Q (frz x) ρ1) : EvE (eFrz w) ρ Q := by
  obtain ⟨x, ρ1, e, q⟩ := h
  cases x with
  | sh d => exact ⟨d, ρ1, by unfold eFrz; simp only [e], q⟩
  | own xs => exact ⟨.lst xs, ρ1, by unfold eFrz; simp only [e], q⟩
  | tr t => exact ⟨t.dt, ρ1, by unfold eFrz; simp only [e], q⟩
theorem ew_ite {wa wb : FW} (h : EvE fc ρ fun d ρ1 => EvB d (EvW wa ρ1 QW) (EvW wb ρ1 QW)) : EvW (wIte fc wa wb) ρ QW := by
  obtain ⟨d, ρ1, e, h⟩ := h
  obtain ⟨b, rfl, h1, h2⟩ := h.ex
  cases b with
  | true =>
    obtain ⟨x, ρ2, e2, q⟩ := h1 rfl
    exact ⟨x, ρ2, by unfold wIte bindEW; simp only [e, e2], q⟩
  | false =>
    obtain ⟨x, ρ2, e2, q⟩ := h2 rfl
    exact ⟨x, ρ2, by unfold wIte bindEW; simp only [e, e2], q⟩
theorem ew_call {n : Nat} {g : FnD} (h : EvA r ρ fun as ρ1 => ∃ ws, toWs ρ1 as = some ws ∧ ws.length = n ∧ (slotsOf as).Nodup ∧ EvF g ws fun w cs => Nrm (putBack (slotsOf as) cs ρ1) fun ρ2 => QW w ρ2) : EvW (wCall n g r) ρ QW := by
  obtain ⟨as, ρ1, e, ws, e2, hl, nd, w, cs, e3, q⟩ := h
  exact ⟨w, _, by unfold wCall bindAW; simp only [e, e2, if_pos (And.intro hl nd), e3], q⟩
theorem ev_cb {o : List Dt → Option Dt} (h : EvA r ρ fun as ρ1 => ∃ ds g, vals as = some ds ∧ o ds = some g ∧ Q g ρ1) : EvE (eCB o r) ρ Q := by
  obtain ⟨as, ρ1, e, ds, g, e2, e3, q⟩ := h
  exact ⟨g, ρ1, by unfold eCB bindAE; simp only [e, e2, e3]; rfl, q⟩
theorem ev_ixV {j : Nat} {d0 : Dt} (e0 : slotD ρ[j]? = some d0) (h : EvE f ρ fun k ρ1 => ∃ d g, slotD ρ1[j]? = some d ∧ dIx d k = some g ∧ Q g ρ1) : EvE (eIxV j f) ρ Q := by
  obtain ⟨k, ρ1, e, d, g, e1, e2, q⟩ := h
  exact ⟨g, ρ1, by unfold eIxV bindE; simp only [e0, e, e1, e2]; rfl, q⟩
theorem ev_pop {j : Nat} {xs : List Dt} {d : Dt} (e : ρ[j]? = some (some (.own xs))) (e2 : xs[xs.length - 1]? = some d) (h : Q d (ρ.set j (some (.own xs.dropLast)))) : EvE (ePop j) ρ Q := ⟨_, _, by unfold ePop; simp only [e, e2], h⟩
theorem ev_sl00 (h : EvE f ρ fun d ρ1 => ∃ g, dSl d none none = some g ∧ Q g ρ1) : EvE (eSl f none none) ρ Q := by
  refine ev_bind ?_
  obtain ⟨d, ρ1, e, g, eg, q⟩ := h
  exact ⟨d, ρ1, e, ev_V eg q⟩
theorem ev_sl10 (h : EvE f ρ fun d ρ1 => EvE fa ρ1 fun a ρ2 => ∃ i g, a = .int i ∧ dSl d (some i) none = some g ∧ Q g ρ2) : EvE (eSl f (some fa) none) ρ Q := by
  refine ev_bind ?_
  obtain ⟨d, ρ1, e, a, ρ2, e2, i, g, rfl, eg, q⟩ := h
  exact ⟨d, ρ1, e, ev_bind ⟨_, ρ2, e2, ev_V eg q⟩⟩
theorem ev_sl01 (h : EvE f ρ fun d ρ1 => EvE fa ρ1 fun a ρ2 => ∃ i g, a = .int i ∧ dSl d none (some i) = some g ∧ Q g ρ2) : EvE (eSl f none (some fa)) ρ Q := by
  refine ev_bind ?_
  obtain ⟨d, ρ1, e, a, ρ2, e2, i, g, rfl, eg, q⟩ := h
  exact ⟨d, ρ1, e, ev_bind ⟨_, ρ2, e2, ev_V eg q⟩⟩
theorem ev_sl11 (h : EvE f ρ fun d ρ1 => EvE fa ρ1 fun a ρ2 => ∃ i, a = .int i ∧ EvE fb ρ2 fun b ρ3 => ∃ j g, b = .int j ∧ dSl d (some i) (some j) = some g ∧ Q g ρ3) : EvE (eSl f (some fa) (some fb)) ρ Q := by
  refine ev_bind ?_
  obtain ⟨d, ρ1, e, a, ρ2, e2, i, rfl, b, ρ3, e3, j, g, rfl, eg, q⟩ := h
  exact ⟨d, ρ1, e, ev_bind ⟨_, ρ2, e2, ev_bind ⟨_, ρ3, e3, ev_V eg q⟩⟩⟩
theorem ev_F {o : Option Dt} {d : Dt} (e : o = some d) (hf : flatD d = true) (h : Q d ρ) : EvE (eF o) ρ Q := ⟨d, ρ, by subst e; unfold eF; simp only [if_pos hf], h⟩
theorem ev_withV {j : Nat} {k : Dt → FE} {d : Dt} (e : slotD ρ[j]? = some d) (h : EvE (k d) ρ Q) : EvE (withV j k) ρ Q := by
  obtain ⟨x, ρ1, e1, q⟩ := h
  exact ⟨x, ρ1, by unfold withV; simp only [e, e1], q⟩
theorem ev_opL {o : Dt → Dt → Option Dt} {j : Nat} {d0 : Dt} (e0 : slotD ρ[j]? = some d0) (h : EvE fb ρ fun e ρ1 => ∃ d g, slotD ρ1[j]? = some d ∧ o d e = some g ∧ flatD g = true ∧ Q g ρ1) : EvE (eOpL o j fb) ρ Q := by
  refine ev_withV e0 (ev_bind ?_)
  obtain ⟨x, ρ1, e1, d, g, a, b, c, q⟩ := h
  exact ⟨x, ρ1, e1, ev_withV a (ev_F b c q)⟩
theorem ev_opR {o : Dt → Dt → Option Dt} {j : Nat} (h : EvE fa ρ fun d ρ1 => ∃ e g, slotD ρ1[j]? = some e ∧ o d e = some g ∧ flatD g = true ∧ Q g ρ1) : EvE (eOpR o fa j) ρ Q := by
  refine ev_bind ?_
  obtain ⟨x, ρ1, e1, d, g, a, b, c, q⟩ := h
  exact ⟨x, ρ1, e1, ev_withV a (ev_F b c q)⟩
theorem ev_cbV {o : List Dt → Option Dt} {j : Nat} {d g : Dt} (e : slotD ρ[j]? = some d) (e2 : o [d] = some g) (hf : flatD g = true) (h : Q g ρ) : EvE (eCBV o j) ρ Q := ev_withV e (ev_F e2 hf h)
end
section
variable {ρ : Rho} {N : Rho → Prop} {R : Wt → Rho → Prop} {a b : FS} {f fc : FE} {w : FW}
theorem es_nx (h : N ρ) : EvS sNx ρ N R := .inl ⟨ρ, rfl, h⟩
theorem es_seq (h : EvS a ρ (fun ρ1 => Nrm ρ1 fun ρ2 => EvS b ρ2 N R) R) : EvS (sSeq a b) ρ N R := by
  rcases h with ⟨ρ1, e, h⟩ | ⟨w, ρ1, e, h⟩
  · rcases h with ⟨ρ2, e2, h⟩ | ⟨w, ρ2, e2, h⟩
    · exact .inl ⟨ρ2, by unfold sSeq; simp only [e, e2], h⟩
    · exact .inr ⟨w, ρ2, by unfold sSeq; simp only [e, e2], h⟩
  · exact .inr ⟨w, ρ1, by unfold sSeq; simp only [e], h⟩
theorem es_if (h : EvE fc ρ fun d ρ1 => EvB d (EvS a ρ1 N R) (EvS b ρ1 N R)) : EvS (sIf fc a b) ρ N R := by
  obtain ⟨d, ρ1, e, h⟩ := h
  obtain ⟨x, rfl, h1, h2⟩ := h.ex
  cases x with
  | true =>
    rcases h1 rfl with ⟨ρ2, e2, h⟩ | ⟨w, ρ2, e2, h⟩
    · exact .inl ⟨ρ2, by unfold sIf bindES; simp only [e, e2], h⟩
    · exact .inr ⟨w, ρ2, by unfold sIf bindES; simp only [e, e2], h⟩
  | false =>
    rcases h2 rfl with ⟨ρ2, e2, h⟩ | ⟨w, ρ2, e2, h⟩
    · exact .inl ⟨ρ2, by unfold sIf bindES; simp only [e, e2], h⟩
    · exact .inr ⟨w, ρ2, by unfold sIf bindES; simp only [e, e2], h⟩
theorem es_asg {i : Nat} (h : EvW w ρ fun x ρ1 => N (ρ1.set i (some x))) : EvS (sAsg i w) ρ N R := by
  obtain ⟨x, ρ1, e, q⟩ := h
  exact .inl ⟨_, by unfold sAsg bindWS; simp only [e], q⟩
theorem es_ret (h : EvW w ρ fun x ρ1 => R x ρ1) : EvS (sRet w) ρ N R := by
  obtain ⟨x, ρ1, e, q⟩ := h
  exact .inr ⟨x, ρ1, by unfold sRet bindWS; simp only [e], q⟩
theorem es_retN (h : R (.sh .non) ρ) : EvS sRetN ρ N R := .inr ⟨_, _, rfl, h⟩
theorem es_drop (h : EvW w ρ fun _ ρ1 => N ρ1) : EvS (sDrop w) ρ N R := by
  obtain ⟨x, ρ1, e, q⟩ := h
  exact .inl ⟨_, by unfold sDrop bindWS; simp only [e], q⟩
theorem es_app {j : Nat} {xs : List Dt} (e0 : ρ[j]? = some (some (.own xs))) (h : EvE f ρ fun d ρ1 => ∃ ys, ρ1[j]? = some (some (.own ys)) ∧ ys.length < 100000 ∧ N (ρ1.set j (some (.own (ys ++ [d]))))) : EvS (sApp j f) ρ N R := by
  obtain ⟨d, ρ1, e, ys, e1, hl, q⟩ := h
  exact .inl ⟨_, by unfold sApp ifOwn bindES; simp only [e0, e]; unfold sMut appX; simp only [e1, if_pos hl], q⟩
theorem es_ext {j : Nat} {xs : List Dt} (e0 : ρ[j]? = some (some (.own xs))) (h : EvE f ρ fun d ρ1 => ∃ ys zs, d = .lst zs ∧ ρ1[j]? = some (some (.own ys)) ∧ ys.length + zs.length ≤ 100000 ∧ N (ρ1.set j (some (.own (ys ++ zs))))) : EvS (sExt j f) ρ N R := by
  obtain ⟨d, ρ1, e, ys, zs, rfl, e1, hl, q⟩ := h
  exact .inl ⟨_, by unfold sExt ifOwn bindES; simp only [e0, e]; unfold sMut extX; simp only [e1, if_pos hl], q⟩
theorem es_put {j : Nat} {fi : FE} (h : EvE f ρ fun d ρ1 => ∃ xs, ρ1[j]? = some (some (.own xs)) ∧ EvE fi ρ1 fun k ρ2 => ∃ i ys n, k = .int i ∧ ρ2[j]? = some (some (.own ys)) ∧ ixN ys.length i = some n ∧ N (ρ2.set j (some (.own (ys.set n d))))) : EvS (sPut j fi f) ρ N R := by
  obtain ⟨d, ρ1, e, xs, e0, k, ρ2, e2, i, ys, n, rfl, e3, e4, q⟩ := h
  exact .inl ⟨_, by unfold sPut bindES; simp only [e]; unfold ifOwn; simp only [e0, e2]; unfold sMut putX; simp only [e3, e4], q⟩
theorem es_par {i j : Nat} {fa : FA} (h : EvA fa ρ fun as ρ1 => ∃ d e, as = [.val d, .val e] ∧ N ((ρ1.set i (some (.sh d))).set j (some (.sh e)))) : EvS (sPar i j fa) ρ N R := by
  obtain ⟨as, ρ1, e, d, e2, rfl, q⟩ := h
  exact .inl ⟨_, by unfold sPar; simp only [e], q⟩
theorem es_asgT {g : GD} (h : EvE f ρ fun d ρ1 => ∃ ρ2, g d ρ1 = some ρ2 ∧ N ρ2) : EvS (sAsgT g f) ρ N R := by
  obtain ⟨d, ρ1, e, ρ2, e2, q⟩ := h
  exact .inl ⟨_, by unfold sAsgT bindES; simp only [e, e2], q⟩
/-- a for by an invariant over the rest of the items -/
theorem forD_ev {g : GD} {b : FS} (I : List Dt → Rho → Prop) (hs : ∀ d ds ρ, I (d :: ds) ρ → ∃ ρ1, g d ρ = some ρ1 ∧ EvS b ρ1 (fun ρ2 => I ds ρ2) R) (hd : ∀ ρ, I [] ρ → N ρ) : ∀ (ds : List Dt) (ρ : Rho), I ds ρ → EvS (forD g b ds) ρ N R
  | [], ρ, h => .inl ⟨ρ, rfl, hd ρ h⟩
  | d :: ds, ρ, h => by
    obtain ⟨ρ1, e, h⟩ := hs d ds ρ h
    rcases h with ⟨ρ2, e2, h⟩ | ⟨w, ρ2, e2, h⟩
    · rcases forD_ev I hs hd ds ρ2 h with ⟨ρ3, e3, h⟩ | ⟨w, ρ3, e3, h⟩
      · exact .inl ⟨ρ3, by unfold forD; simp only [e, e2, e3], h⟩
      · exact .inr ⟨w, ρ3, by unfold forD; simp only [e, e2, e3], h⟩
    · exact .inr ⟨w, ρ2, by unfold forD; simp only [e, e2], h⟩
theorem es_for {fi : FI} {g : GD} {b : FS} (h : EvI fi ρ fun ds ρ1 => EvS (forD g b ds) ρ1 N R) : EvS (sFor fi g b) ρ N R := by
  obtain ⟨ds, ρ1, e, h⟩ := h
  rcases h with ⟨ρ2, e2, h⟩ | ⟨w, ρ2, e2, h⟩
  · exact .inl ⟨ρ2, by unfold sFor; simp only [e, e2], h⟩
  · exact .inr ⟨w, ρ2, by unfold sFor; simp only [e, e2], h⟩
theorem es_forNil {g : GD} {b : FS} (h : N ρ) : EvS (forD g b []) ρ N R := .inl ⟨ρ, rfl, h⟩
theorem es_forCons {g : GD} {b : FS} {d : Dt} {ds : List Dt} {ρ1 : Rho} (e : g d ρ = some ρ1) (h : EvS b ρ1 (fun ρ2 => EvS (forD g b ds) ρ2 N R) R) : EvS (forD g b (d :: ds)) ρ N R := by
  rcases h with ⟨ρ2, e2, h⟩ | ⟨w, ρ2, e2, h⟩
  · rcases h with ⟨ρ3, e3, h⟩ | ⟨w, ρ3, e3, h⟩
    · exact .inl ⟨ρ3, by unfold forD; simp only [e, e2, e3], h⟩
    · exact .inr ⟨w, ρ3, by unfold forD; simp only [e, e2, e3], h⟩
  · exact .inr ⟨w, ρ2, by unfold forD; simp only [e, e2], h⟩
theorem ei_seq {Q : List Dt → Rho → Prop} (h : EvE f ρ fun d ρ1 => ∃ ds, iterD d = some ds ∧ Q ds ρ1) : EvI (iSeq f) ρ Q := by
  obtain ⟨d, ρ1, e, ds, e2, q⟩ := h
  exact ⟨ds, ρ1, by unfold iSeq; simp only [e, e2], q⟩
theorem ei_args {o : List Dt → Option (List Dt)} {fa : FA} {Q : List Dt → Rho → Prop} (h : EvA fa ρ fun as ρ1 => ∃ ds es, vals as = some ds ∧ o ds = some es ∧ Q es ρ1) : EvI (iArgs o fa) ρ Q := by
  obtain ⟨as, ρ1, e, ds, es, e2, e3, q⟩ := h
  exact ⟨es, ρ1, by unfold iArgs; simp only [e, e2, e3], q⟩
/-- a while by an invariant and a measure -/
theorem whileD_ev {c : FE} {b : FS} (I : Rho → Prop) (m : Rho → Nat) (hs : ∀ ρ, I ρ → EvE c ρ fun d ρ1 => EvB d (EvS b ρ1 (fun ρ2 => I ρ2 ∧ m ρ2 < m ρ) R) (N ρ1)) : ∀ (n : Nat) (ρ : Rho), I ρ → m ρ < n → EvS (whileD c b n) ρ N R
  | 0, ρ, h, hn => absurd hn (Nat.not_lt_zero _)
  | n + 1, ρ, h, hn => by
    obtain ⟨d, ρ1, e, h⟩ := hs ρ h
    obtain ⟨x, rfl, h1, h2⟩ := h.ex
    cases x with
    | true =>
      rcases h1 rfl with ⟨ρ2, e2, h⟩ | ⟨w, ρ2, e2, h⟩
      · rcases whileD_ev I m hs n ρ2 h.1 (by omega) with ⟨ρ3, e3, h⟩ | ⟨w, ρ3, e3, h⟩
        · exact .inl ⟨ρ3, by unfold whileD; simp only [e, e2, e3], h⟩
        · exact .inr ⟨w, ρ3, by unfold whileD; simp only [e, e2, e3], h⟩
      · exact .inr ⟨w, ρ2, by unfold whileD; simp only [e, e2], h⟩
    | false => exact .inl ⟨ρ1, by unfold whileD; simp only [e], h2 rfl⟩
theorem es_while {m : Rho → Nat} {c : FE} {b : FS} (h : EvS (whileD c b (m ρ)) ρ N R) : EvS (sWhile m c b) ρ N R := h
def startW : List Aw → Rho
  | [] => []
  | .sh d :: ws => some (.sh d) :: startW ws
  | .own xs :: ws => some (.own xs) :: startW ws
  | .mv xs :: ws => some (.own xs) :: startW ws
  | .tr t :: ws => some (.tr t) :: startW ws
  | .mt t :: ws => some (.tr t) :: startW ws
theorem startW_eq : ∀ ws : List Aw, ws.map (fun w => some w.wt) = startW ws
  | [] => rfl
  | .sh d :: ws => by rw [List.map_cons, startW_eq ws]; rfl
  | .own d :: ws => by rw [List.map_cons, startW_eq ws]; rfl
  | .mv d :: ws => by rw [List.map_cons, startW_eq ws]; rfl
  | .tr d :: ws => by rw [List.map_cons, startW_eq ws]; rfl
  | .mt d :: ws => by rw [List.map_cons, startW_eq ws]; rfl
theorem ef_callM {n : Nat} {bs : List Nat} (os : List Nat) {fb : FS} {ws : List Aw} {Q : Wt → List Wt → Prop} (hp : ownPos 0 ws = os) (hb : os.all (fun j => bs.contains j) = true) (h : Nrm (startW ws ++ List.replicate (n - ws.length) none) fun ρ0 => EvS fb ρ0 (fun ρ => ∃ cs, getOwns ρ os = some cs ∧ Q (.sh .non) cs) (fun w ρ => ∃ cs, getOwns ρ os = some cs ∧ Q w cs)) : EvF (callF n bs fb) ws Q := by
  subst hp
  rw [← startW_eq] at h
  rcases h with ⟨ρ1, e, cs, e2, q⟩ | ⟨w, ρ1, e, cs, e2, q⟩
  · exact ⟨_, cs, by unfold callF; rw [if_pos hb]; simp only [e]; unfold outs; rw [e2], q⟩
  · exact ⟨w, cs, by unfold callF; rw [if_pos hb]; simp only [e]; unfold outs; rw [e2], q⟩
theorem all_self (bs : List Nat) : bs.all (fun j => bs.contains j) = true := List.all_eq_true.mpr fun j hj => by simpa using hj
theorem ef_call {n : Nat} {bs : List Nat} {fb : FS} {ws : List Aw} {Q : Wt → List Wt → Prop} (hp : ownPos 0 ws = bs) (h : Nrm (startW ws ++ List.replicate (n - ws.length) none) fun ρ0 => EvS fb ρ0 (fun ρ => ∃ cs, getOwns ρ bs = some cs ∧ Q (.sh .non) cs) (fun w ρ => ∃ cs, getOwns ρ bs = some cs ∧ Q w cs)) : EvF (callF n bs fb) ws Q :=
  ef_callM bs hp (all_self bs) h
theorem ef_eq {g : FnD} {ws : List Aw} {w : Wt} {cs : List Wt} {Q : Wt → List Wt → Prop} (e : g ws = some (.ok w, cs)) (h : Q w cs) : EvF g ws Q := ⟨w, cs, e, h⟩
/-- the comprehension's loop -/
def EvL (vs : List Nat) (g : GD) (ft fe : FE) (ds : List Dt) (ρ : Rho) (acc : List Dt) (Q : List Dt → Rho → Prop) : Prop := ∃ xs ρ', lcD vs g ft fe ds ρ acc = some (xs, ρ') ∧ Q xs ρ'
theorem lcD_ev {vs : List Nat} {g : GD} {ft fe : FE} (I : List Dt → Rho → List Dt → Prop) (hs : ∀ d ds ρ acc, I (d :: ds) ρ acc → ∃ ρ1, g d ρ = some ρ1 ∧ EvE ft ρ1 fun x ρ2 => EvB x (EvE fe ρ2 fun y ρ3 => acc.length < 100000 ∧ I ds (wipeR ρ3 vs) (acc ++ [y])) (I ds (wipeR ρ2 vs) acc)) {Q : List Dt → Rho → Prop} (hd : ∀ ρ acc, I [] ρ acc → Q acc ρ) :
    ∀ (ds : List Dt) (ρ : Rho) (acc : List Dt), I ds ρ acc → EvL vs g ft fe ds ρ acc Q
  | [], ρ, acc, h => ⟨acc, ρ, rfl, hd ρ acc h⟩
  | d :: ds, ρ, acc, h => by
    obtain ⟨ρ1, e, x, ρ2, e2, h⟩ := hs d ds ρ acc h
    obtain ⟨b, rfl, h1, h2⟩ := h.ex
    cases b with
    | true =>
      obtain ⟨y, ρ3, e3, hl, h3⟩ := h1 rfl
      obtain ⟨xs, ρ', e4, q⟩ := lcD_ev I hs hd ds _ _ h3
      exact ⟨xs, ρ', by unfold lcD; simp only [e, e2, e3, if_pos hl, e4], q⟩
    | false =>
      obtain ⟨xs, ρ', e4, q⟩ := lcD_ev I hs hd ds _ _ (h2 rfl)
      exact ⟨xs, ρ', by unfold lcD; simp only [e, e2, e4], q⟩
theorem lc_nil {vs : List Nat} {g : GD} {ft fe : FE} {acc : List Dt} {Q : List Dt → Rho → Prop} (h : Q acc ρ) : EvL vs g ft fe [] ρ acc Q := ⟨acc, ρ, rfl, h⟩
theorem lc_cons {vs : List Nat} {g : GD} {ft fe : FE} {d : Dt} {ds acc : List Dt} {ρ1 : Rho} {Q : List Dt → Rho → Prop} (e : g d ρ = some ρ1) (h : EvE ft ρ1 fun x ρ2 => EvB x (EvE fe ρ2 fun y ρ3 => acc.length < 100000 ∧ Nrm (wipeR ρ3 vs) fun ρ4 => EvL vs g ft fe ds ρ4 (acc ++ [y]) Q) (Nrm (wipeR ρ2 vs) fun ρ4 => EvL vs g ft fe ds ρ4 acc Q)) :
    EvL vs g ft fe (d :: ds) ρ acc Q := by
  obtain ⟨x, ρ2, e2, h⟩ := h
  obtain ⟨b, rfl, h1, h2⟩ := h.ex
  cases b with
  | true =>
    obtain ⟨y, ρ3, e3, hl, xs, ρ', e4, q⟩ := h1 rfl
    exact ⟨xs, ρ', by unfold lcD; simp only [e, e2, e3, if_pos hl, e4], q⟩
  | false =>
    obtain ⟨xs, ρ', e4, q⟩ := h2 rfl
    exact ⟨xs, ρ', by unfold lcD; simp only [e, e2, e4], q⟩
theorem EvL.imp {vs : List Nat} {g : GD} {ft fe : FE} {ds acc : List Dt} {Q R : List Dt → Rho → Prop} (h : EvL vs g ft fe ds ρ acc Q) (k : ∀ xs ρ', Q xs ρ' → R xs ρ') : EvL vs g ft fe ds ρ acc R := by
  obtain ⟨xs, ρ', e, q⟩ := h
  exact ⟨xs, ρ', e, k xs ρ' q⟩
theorem ew_lc {vs : List Nat} {fi : FI} {g : GD} {ft fe : FE} {Q : Wt → Rho → Prop} (h : EvI fi ρ fun ds ρ1 => Nrm (wipeR ρ1 vs) fun ρ0 => EvL vs g ft fe ds ρ0 [] fun xs ρ2 => Nrm (restR ρ1 ρ2 vs) fun ρ3 => Q (.own xs) ρ3) : EvW (wLc vs fi g ft fe) ρ Q := by
  obtain ⟨ds, ρ1, e, xs, ρ2, e2, q⟩ := h
  exact ⟨_, _, by unfold wLc; simp only [e, e2], q⟩
end
/-- a def's value, told by running it -/
theorem fn_eq {g : FnD} {ws : List Aw} {w : Wt} {cs : List Wt} (h : EvF g ws fun x ys => x = w ∧ ys = cs) : g ws = some (.ok w, cs) := by
  obtain ⟨x, ys, e, rfl, rfl⟩ := h
  exact e
end DL
namespace DL
open PySem PySem.Spec PyProof.Rows L2 RZ
/-! ### sizes, and the values of operations -/
theorem log2_small {n k : Nat} (h : n < 2 ^ k) (hk : 0 < k) : n.log2 < k := PySem.Flt.log2_lt_of hk h
theorem mul_sz {a b : Int} (h1 : a.natAbs < 2 ^ 100000) (h2 : b.natAbs < 2 ^ 100000) : a.natAbs.log2 + b.natAbs.log2 < 1000000 := by
  have := log2_small h1 (by decide)
  have := log2_small h2 (by decide)
  omega
theorem div_sz {b : Int} (h0 : b ≠ 0) (h2 : b.natAbs < 2 ^ 9000) : b ≠ 0 ∧ b.natAbs.log2 < 9000 := ⟨h0, log2_small h2 (by decide)⟩
/-- small numbers -/
def Sm (a : Int) : Prop := a.natAbs < 2 ^ 8999
theorem sm_of {a : Int} {k : Nat} (h : a.natAbs < 2 ^ k) (hk : k ≤ 8999) : Sm a := Nat.lt_of_lt_of_le h (Nat.pow_le_pow_right (by decide) hk)
theorem Sm.div {b : Int} (h : Sm b) (h0 : b ≠ 0) : b ≠ 0 ∧ b.natAbs.log2 < 9000 := ⟨h0, Nat.lt_of_lt_of_le (log2_small h (by decide)) (by decide)⟩
theorem Sm.mul {a b : Int} (h1 : Sm a) (h2 : Sm b) : a.natAbs.log2 + b.natAbs.log2 < 1000000 := by
  have := log2_small h1 (by decide)
  have := log2_small h2 (by decide)
  omega
section
variable {Q : Dt → Prop}
theorem ex_mul {a b : Int} (h : a.natAbs.log2 + b.natAbs.log2 < 1000000) (q : Q (.int (a * b))) : ∃ g, dMul (.int a) (.int b) = some g ∧ Q g := ⟨_, if_pos h, q⟩
theorem ex_fdiv {a b : Int} (h : b ≠ 0 ∧ b.natAbs.log2 < 9000) (q : Q (.int (a.fdiv b))) : ∃ g, dFdiv (.int a) (.int b) = some g ∧ Q g := ⟨_, if_pos h, q⟩
theorem ex_mod {a b : Int} (h : b ≠ 0) (q : Q (.int (a.fmod b))) : ∃ g, dMod (.int a) (.int b) = some g ∧ Q g := ⟨_, if_pos h, q⟩
theorem ex_addS {x y : Str} (h : x.length + y.length ≤ 1000000) (q : Q (.str (x ++ y))) : ∃ g, dAdd (.str x) (.str y) = some g ∧ Q g := ⟨_, if_pos h, q⟩
theorem ex_addT {x y : List Dt} (h : x.length + y.length ≤ 100000) (q : Q (.tup (x ++ y))) : ∃ g, dAdd (.tup x) (.tup y) = some g ∧ Q g := ⟨_, if_pos h, q⟩
theorem ex_addL {x y : List Dt} (h : x.length + y.length ≤ 100000) (q : Q (.lst (x ++ y))) : ∃ g, dAdd (.lst x) (.lst y) = some g ∧ Q g := ⟨_, if_pos h, q⟩
theorem ex_eqI {a b : Int} (q : Q (.bl (decide (a = b)))) : ∃ g, dEq (.int a) (.int b) = some g ∧ Q g := ⟨_, rfl, q⟩
theorem ex_neI {a b : Int} (q : Q (.bl (!decide (a = b)))) : ∃ g, dNe (.int a) (.int b) = some g ∧ Q g := ⟨_, rfl, q⟩
theorem ex_eqS {a b : Str} (q : Q (.bl (decide (a = b)))) : ∃ g, dEq (.str a) (.str b) = some g ∧ Q g := ⟨_, rfl, q⟩
theorem ex_neS {a b : Str} (q : Q (.bl (!decide (a = b)))) : ∃ g, dNe (.str a) (.str b) = some g ∧ Q g := ⟨_, rfl, q⟩
theorem ex_lt {a b : Int} (q : Q (.bl (decide (a < b)))) : ∃ g, dLt (.int a) (.int b) = some g ∧ Q g := ⟨_, rfl, q⟩
theorem ex_le {a b : Int} (q : Q (.bl (decide (a ≤ b)))) : ∃ g, dLe (.int a) (.int b) = some g ∧ Q g := ⟨_, rfl, q⟩
theorem ex_gt {a b : Int} (q : Q (.bl (decide (b < a)))) : ∃ g, dGt (.int a) (.int b) = some g ∧ Q g := ⟨_, rfl, q⟩
theorem ex_ge {a b : Int} (q : Q (.bl (decide (b ≤ a)))) : ∃ g, dGe (.int a) (.int b) = some g ∧ Q g := ⟨_, rfl, q⟩
theorem ex_add {a b : Int} (q : Q (.int (a + b))) : ∃ g, dAdd (.int a) (.int b) = some g ∧ Q g := ⟨_, rfl, q⟩
theorem ex_sub {a b : Int} (q : Q (.int (a - b))) : ∃ g, dSub (.int a) (.int b) = some g ∧ Q g := ⟨_, rfl, q⟩
theorem ex_neg {a : Int} (q : Q (.int (-a))) : ∃ g, dNeg (.int a) = some g ∧ Q g := ⟨_, rfl, q⟩
/-- an item of a list at a place that is known to lie in it -/
theorem atI_lt {α : Type} {xs : List α} {i : Int} (h0 : 0 ≤ i) (h1 : i < xs.length) : ∃ (h : i.toNat < xs.length), atI xs i = some xs[i.toNat] := by
  have hl : i.toNat < xs.length := by omega
  refine ⟨hl, ?_⟩
  have e : ((i.toNat : Nat) : Int) = i := by omega
  have := atI_nat (xs := xs) (j := i.toNat) (v := xs[i.toNat]) (List.getElem?_eq_getElem hl)
  rw [e] at this
  exact this
theorem ex_ixL {xs : List Dt} {i : Int} (h0 : 0 ≤ i) (h1 : i < xs.length) (q : ∀ h : i.toNat < xs.length, Q xs[i.toNat]) : ∃ g, dIx (.lst xs) (.int i) = some g ∧ Q g := by
  obtain ⟨h, e⟩ := atI_lt h0 h1
  exact ⟨_, e, q h⟩
theorem ex_ixT {xs : List Dt} {i : Int} (h0 : 0 ≤ i) (h1 : i < xs.length) (q : ∀ h : i.toNat < xs.length, Q xs[i.toNat]) : ∃ g, dIx (.tup xs) (.int i) = some g ∧ Q g := by
  obtain ⟨h, e⟩ := atI_lt h0 h1
  exact ⟨_, e, q h⟩
end
theorem nodup1 {i : Nat} : [i].Nodup := List.nodup_cons.mpr ⟨List.not_mem_nil, List.nodup_nil⟩
theorem nodup2 {i j : Nat} (h : i ≠ j) : [i, j].Nodup := List.nodup_cons.mpr ⟨by simpa using h, nodup1⟩
theorem mod_pos {a b : Int} (h : 0 < b) : a.fmod b = a % b := Int.fmod_eq_emod_of_nonneg a (by omega)
theorem div_pos {a b : Int} (h : 0 < b) : a.fdiv b = a / b := Int.fdiv_eq_ediv_of_nonneg a (by omega)
theorem EvS.cut {a : FS} {ρ : Rho} {N : Rho → Prop} {R : Wt → Rho → Prop} (N' : Rho → Prop) (h : EvS a ρ N' R) (k : ∀ ρ1, N' ρ1 → N ρ1) : EvS a ρ N R := by
  rcases h with ⟨ρ1, e, h⟩ | h
  · exact .inl ⟨ρ1, e, k ρ1 h⟩
  · exact .inr h
/-- b is true: the first way -/
theorem evBt {b : Bool} {T F : Prop} (e : b = true) (h : T) : EvB (.bl b) T F := by subst e; exact evB_t h
theorem evBf {b : Bool} {T F : Prop} (e : b = false) (h : F) : EvB (.bl b) T F := by subst e; exact evB_f h
theorem evD {p : Prop} [Decidable p] {T F : Prop} (h1 : p → T) (h2 : ¬ p → F) : EvB (.bl (decide p)) T F := evB (fun h => h1 (of_decide_eq_true h)) fun h => h2 (of_decide_eq_false h)
theorem evDn {p : Prop} [Decidable p] {T F : Prop} (h1 : ¬ p → T) (h2 : p → F) : EvB (.bl (!decide p)) T F := evB (fun h => h1 (by simpa using h)) fun h => h2 (by simpa using h)
theorem ex_eqB {a b : Bool} {Q : Dt → Prop} (q : Q (.bl (decide (a = b)))) : ∃ g, dEq (.bl a) (.bl b) = some g ∧ Q g := ⟨_, rfl, q⟩
theorem ex_neB {a b : Bool} {Q : Dt → Prop} (q : Q (.bl (!decide (a = b)))) : ∃ g, dNe (.bl a) (.bl b) = some g ∧ Q g := ⟨_, rfl, q⟩
end DL
namespace DL
open PySem PySem.Spec PyProof.Rows L2 RZ
/-! ### constants of the module -/
structure ConstAt (K : PySem.W.Frag) (mg : Str → Option Value) (x : Str) (d : Dt) : Prop where
  ex : ∃ u v, mg x = some u ∧ RelV v u ∧ ∀ F : Hp, Rp K F d v
section
variable {X : Cx} {P : Pt} {Wx : WX} {pos p : Pos} {x : Str} {d : Dt}
theorem ConstAt.pe (h : ConstAt X.K X.mg x d) (hg : Gl X x) (hd : (x == ("__debug__" : Str)) = false := by decide) : PE X (.Name x pos) (LE X.K P Wx (eC d)) := by
  obtain ⟨u, v, a, b, c⟩ := h.ex
  exact d_glob hg a b c hd
end
/-- a plain value as data -/
def scalD : Value → Option Dt
  | .none => some .non
  | .bool b => some (.bl b)
  | .int i _ => some (.int i)
  | .str x _ => some (.str x)
  | _ => none
theorem scal_ok {K : PySem.W.Frag} {u : Value} {d : Dt} (h : scalD u = some d) : ∃ v, RelV v u ∧ ∀ F : Hp, Rp K F d v := by
  cases u <;> first | cases h | skip
  · exact ⟨.non, rfl, fun _ => .non⟩
  · exact ⟨.bl _, rfl, fun _ => .bl _⟩
  · exact ⟨.int _, ⟨_, rfl⟩, fun _ => .int _⟩
  · exact ⟨.str _, ⟨_, rfl⟩, fun _ => .str _⟩
theorem scals_ok {K : PySem.W.Frag} : ∀ {us : List Value} {ds : List Dt}, us.map scalD = ds.map some → ∃ vs, Vals vs us ∧ ∀ F : Hp, Rps K F ds vs
  | [], [], _ => ⟨[], .nil, fun _ => .nil⟩
  | [], _ :: _, h => by simp at h
  | _ :: _, [], h => by simp at h
  | u :: us, d :: ds, h => by
    simp only [List.map_cons, List.cons.injEq] at h
    obtain ⟨v, a, b⟩ := scal_ok (K := K) h.1
    obtain ⟨vs, c, e⟩ := scals_ok (K := K) h.2
    exact ⟨v :: vs, .cons a c, fun F => .cons (b F) (e F)⟩
section
variable {K : PySem.W.Frag} {h : Heap} {mg : Str → Option Value} {x : Str}
theorem const_mk {u : Value} {d : Dt} (X : K.In h) (G : h.Ns mainGlobals mg) (a : PySem.W.nsIn K mainGlobals x = some (some u)) (e : scalD u = some d) : ConstAt K mg x d := by
  obtain ⟨v, b, c⟩ := scal_ok (K := K) e
  exact ⟨u, v, PySem.W.mg_of X G a, b, c⟩
theorem tup_mk {q : Addr} {od : Option Addr} {its : Array Value} {n : Nat} {sl : Array (Option Value)} {ds : List Dt} (l : K.lookup q = some ⟨.type "tuple", od, .seq its n, sl⟩) (e : its.toList.map scalD = ds.map some) (hz : its.size ≤ sizeLine) : ∀ F : Hp, Rp K F (.tup ds) (.ref q) := by
  obtain ⟨vs, b, c⟩ := scals_ok (K := K) e
  exact fun F => .tup (.inr ⟨_, its, n, l, rfl, rfl, hz, b⟩) (c F)
theorem const_tup {q : Addr} {od : Option Addr} {its : Array Value} {n : Nat} {sl : Array (Option Value)} {ds : List Dt} (X : K.In h) (G : h.Ns mainGlobals mg) (a : PySem.W.nsIn K mainGlobals x = some (some (.ref q))) (l : K.lookup q = some ⟨.type "tuple", od, .seq its n, sl⟩)
    (e : its.toList.map scalD = ds.map some) (hz : its.size ≤ sizeLine) : ConstAt K mg x (.tup ds) :=
  ⟨.ref q, .ref q, PySem.W.mg_of X G a, rfl, tup_mk l e hz⟩
end
/-! ### tables of the module -/
def tabD (kvs : List (Str × Dt)) : Dt → Option Dt
  | .str z => kvs.lookup z
  | _ => none
structure TabAt (K : PySem.W.Frag) (w : World) (mg : Str → Option Value) (t : Str) (kvs : List (Str × Dt)) : Prop where
  ex : ∃ q, mg t = some (.ref q) ∧ ∀ z e, (z, e) ∈ kvs → ∃ v, KDct K w q z v ∧ ∀ F : Hp, Rp K F e v
theorem lookup_mem {z : Str} {e : Dt} : ∀ {kvs : List (Str × Dt)}, kvs.lookup z = some e → (z, e) ∈ kvs
  | [], h => by cases h
  | (k, d) :: r, h => by
    unfold List.lookup at h
    split at h
    · rename_i q
      cases h
      have := eq_of_beq q
      subst this
      exact List.mem_cons_self
    · exact List.mem_cons_of_mem _ (lookup_mem h)
section
variable {X : Cx} {P : Pt} {Wx : WX} {pos p : Pos} {t : Str} {kvs : List (Str × Dt)} {b : Expr} {fb : FE}
theorem TabAt.get (T : TabAt X.K X.w X.mg t kvs) (hg : Gl X t) (hb : PE X b (LE X.K P Wx fb)) (hs : PlainIx b := by exact fun _ _ => rfl) (hd : (t == ("__debug__" : Str)) = false := by decide) : PE X (.Subscript (.Name t p) b pos) (LE X.K P Wx (eUn (tabD kvs) fb)) := by
  obtain ⟨q, m, hk⟩ := T.ex
  refine PEm (pe_ix ix_kdict (pe_glob (v := .ref q) hg m rfl hd) hb hs) fun σ H Q h => ?_
  obtain ⟨F, ρ, rr, h⟩ := h
  show LE X.K P Wx fb σ H _
  refine LE.bind rr h fun d ρ1 F1 H1 x s1 r1 p1 q1 => ?_
  cases eo : tabD kvs d with
  | none => rw [eo] at q1; exact q1.elim
  | some e =>
    rw [eo] at q1
    cases p1 with
    | str z =>
      obtain ⟨v, kd, rv⟩ := hk z e (lookup_mem eo)
      exact ⟨q, z, v, rfl, rfl, kd, q1 F1 H1 v (.refl _) r1 (rv F1)⟩
    | _ => cases eo
end
section
variable {K : PySem.W.Frag} {w : World} {h : Heap} {mg : Str → Option Value} {t : Str}
/-- what a table's entry says -/
def EntryOk (K : PySem.W.Frag) (q : Addr) (kv : Str × Dt) : Prop := ∃ u v, PySem.W.nsIn K q kv.1 = some (some u) ∧ RelV v u ∧ ∀ F : Hp, Rp K F kv.2 v
def EntriesOk (K : PySem.W.Frag) (q : Addr) : List (Str × Dt) → Prop
  | [] => True
  | kv :: r => EntryOk K q kv ∧ EntriesOk K q r
theorem EntriesOk.mem {q : Addr} : ∀ {kvs : List (Str × Dt)} {kv : Str × Dt}, EntriesOk K q kvs → kv ∈ kvs → EntryOk K q kv
  | _ :: _, _, ⟨a, _⟩, .head _ => a
  | _ :: _, _, ⟨_, r⟩, .tail _ m => r.mem m
theorem entry_fn {q f : Addr} {k x : Str} (a : PySem.W.nsIn K mainGlobals x = some (some (.ref f))) (e : PySem.W.nsIn K q k = some (some (.ref f))) : EntryOk K q (k, .fn x) := ⟨.ref f, .ref f, e, rfl, fun _ => .fn a⟩
theorem entry_scal {q : Addr} {k : Str} {u : Value} {d : Dt} (e : PySem.W.nsIn K q k = some (some u)) (hs : scalD u = some d) : EntryOk K q (k, d) := by
  obtain ⟨v, b, c⟩ := scal_ok (K := K) hs
  exact ⟨u, v, e, b, c⟩
theorem tab_mk {q : Addr} {es : Array DictEntry} {n : Nat} {kvs : List (Str × Dt)} (X : K.In h) (G : h.Ns mainGlobals mg) (a : PySem.W.nsIn K mainGlobals t = some (some (.ref q))) (l : K.lookup q = some ⟨.type "dict", none, .dict es n, #[]⟩)
    (hk : PySem.W.KeysLit w.params es.toList) (he : EntriesOk K q kvs) : TabAt K w mg t kvs :=
  ⟨q, PySem.W.mg_of X G a, fun z e m => by
    obtain ⟨u, v, b, c, d⟩ := he.mem m
    exact ⟨v, ⟨es, n, u, l, hk, b, c⟩, d⟩⟩
end
theorem ev_tab {kvs : List (Str × Dt)} {fb : FE} {ρ : Rho} {Q : Dt → Rho → Prop} (h : EvE fb ρ fun d ρ1 => ∃ g, tabD kvs d = some g ∧ Q g ρ1) : EvE (eUn (tabD kvs) fb) ρ Q := ev_un h
/-! ### a call of a name that holds a def -/
structure DispAt (P : Program) (w : World) (K : PySem.W.Frag) (mg : Str → Option Value) (base : Heap) (k n : Nat) (D : List (Str × FnD)) : Prop where
  ex : ∀ x g, (x, g) ∈ D → FnAt P w K mg base k x n g
theorem DispAt.nil {P : Program} {w : World} {K : PySem.W.Frag} {mg : Str → Option Value} {base : Heap} {k n : Nat} : DispAt P w K mg base k n [] := ⟨fun _ _ m => by cases m⟩
theorem DispAt.cons {P : Program} {w : World} {K : PySem.W.Frag} {mg : Str → Option Value} {base : Heap} {k n : Nat} {x : Str} {g : FnD} {D : List (Str × FnD)} (h : FnAt P w K mg base k x n g) (r : DispAt P w K mg base k n D) : DispAt P w K mg base k n ((x, g) :: D) := ⟨fun y e m => by
  rcases List.mem_cons.mp m with m | m
  · cases m; exact h
  · exact r.ex y e m⟩
def wCallL (i n : Nat) (D : List (Str × FnD)) (fa : FA) : FW := fun ρ => match ρ[i]? with
  | some (some (.sh (.fn x))) => (match D.lookup x with
    | some g => wCall n g fa ρ
    | none => none)
  | _ => none
theorem lookup_memF {z : Str} {e : FnD} : ∀ {kvs : List (Str × FnD)}, kvs.lookup z = some e → (z, e) ∈ kvs
  | [], h => by cases h
  | (k, d) :: r, h => by
    unfold List.lookup at h
    split at h
    · rename_i q
      cases h
      have := eq_of_beq q
      subst this
      exact List.mem_cons_self
    · exact List.mem_cons_of_mem _ (lookup_memF h)
section
variable {X : Cx} {P : Pt} {Wx : WX} {pos p : Pos} {x : Str} {e : Expr} {es : List Expr} {fa : FA} {k n i : Nat} {D : List (Str × FnD)}
theorem DispAt.mono {P : Program} {w : World} {K : PySem.W.Frag} {mg : Str → Option Value} {base : Heap} {j k n : Nat} {D : List (Str × FnD)} (h : DispAt P w K mg base j n D) (hk : j ≤ k) : DispAt P w K mg base k n D := ⟨fun x g m => (h.ex x g m).mono hk⟩
theorem w_callL (i : Nat) (T : DispAt X.prog X.w X.K X.mg X.base k n D) (hr : Room k X.A) (tk : Takes X Wx) (ha : PA X (e :: es) (LA X.K P Wx fa)) (hN : X.N[i]? = some x := by rfl)
    (hv : Vis X.env.scope x := by first | exact Or.inl rfl | exact Or.inr (Or.inl rfl) | exact Or.inr (Or.inr rfl)) (hdb : (x == ("__debug__" : Str)) = false := by decide) (hcd : (x == ("__classdict__" : Str)) = false := by decide)
    (he : starEach (e :: es) X.env = (false, eval e X.env) :: starEach es X.env := by rfl) (hpl : (backTo pos (starEach es X.env)).any (·.1) = false := by rfl) : PE X (.Call (.Name x p) (e :: es) [] pos) (LW X.K P Wx (wCallL i n D fa)) := by
  refine ⟨fun pins s σ H Q I h => ?_⟩
  obtain ⟨F, ρ, r, q⟩ := h
  unfold wCallL at q
  match e1 : ρ[i]? with
  | none => simp only [e1] at q; exact q.elim
  | some none => simp only [e1] at q; exact q.elim
  | some (some (.own _)) => simp only [e1] at q; exact q.elim
  | some (some (.tr _)) => simp only [e1] at q; exact q.elim
  | some (some (.sh d)) =>
    obtain ⟨v, ev, sv⟩ := r.slot i _ e1
    cases (show Rp X.K F d v from sv) with
    | fn hx =>
      rename_i y f
      simp only [e1] at q
      cases e2 : D.lookup y with
      | none => rw [e2] at q; exact q.elim
      | some g =>
        rw [e2] at q
        obtain ⟨f', fd, ps, G, _, hk, hb, hn⟩ := (T.ex y g (lookup_memF e2)).ex
        rw [hx] at hn
        cases hn
        have ht : tCallS (spF X.K n g) (WE Wx) (LA X.K P Wx fa) σ H Q := LA_call ⟨F, ρ, r, q⟩
        refine wpAny_Call_Name_kw (thn ((pe_var (pos := p) hN hv hdb hcd).run pins s σ H (fun v H1 => v = .ref f ∧ H1 = H) I ⟨.ref f, ev, rfl, rfl⟩) fun u s1 ⟨v, H1, I1, r1, q1⟩ => ?_)
        obtain ⟨rfl, rfl⟩ := q1
        cases r1
        refine PySem.W.callWith_K (h₀ := X.base) I.ok.mod.kin hk (thn (ha.run pos pins s1 σ _ _ I1 ht) fun us s2 ⟨vs, H2, I2, r, q⟩ => ⟨I2.kIn, ?_⟩) he hpl
        refine run_fnSD (dvs := []) (ds := []) (E := fun σ => WE Wx σ) G hr hb .nil (passAt tk σ) I2 r ?_
        rw [List.append_nil]
        exact q
    | _ => simp only [e1] at q; exact q.elim
end
theorem ew_callL {i n : Nat} {D : List (Str × FnD)} {fa : FA} {ρ : Rho} {x : Str} {g : FnD} {Q : Wt → Rho → Prop} (e : ρ[i]? = some (some (.sh (.fn x)))) (eg : D.lookup x = some g) (h : EvW (wCall n g fa) ρ Q) : EvW (wCallL i n D fa) ρ Q := by
  obtain ⟨w, ρ1, e1, q⟩ := h
  exact ⟨w, ρ1, by unfold wCallL; simp only [e, eg, e1], q⟩
/-! ### xs + ys, a list of its own -/
def wCat (fa fb : FE) : FW := bindEW fa fun d => bindEW fb fun e ρ => match d, e with
  | .lst xs, .lst ys => if xs.length + ys.length ≤ 100000 then some (.ok (.own (xs ++ ys)), ρ) else none
  | _, _ => none
section
variable {X : Cx} {P : Pt} {Wx : WX} {pos : Pos} {a b : Expr} {fa fb : FE}
theorem w_cat (ha : PE X a (LE X.K P Wx fa)) (hb : PE X b (LE X.K P Wx fb)) : PE X (.BinOp a .Add b pos) (LW X.K P Wx (wCat fa fb)) :=
  PEm (pe_op op_cat ha hb) fun σ H Q h => by
    obtain ⟨F, ρ, rr, q⟩ := h
    refine LE.bindW rr q fun d ρ1 F1 H1 x s1 r1 p1 q1 => ?_
    refine LE.bindW r1 q1 fun e ρ2 F2 H2 y s2 r2 p2 q2 => ?_
    cases p1 with
    | lst hq hr =>
      rename_i a1 vs1 ds1
      cases p2 with
      | lst hq2 hr2 =>
        rename_i a2 vs2 ds2
        simp only [] at q2
        split at q2
        · rename_i hl
          refine ⟨_, _, _, _, rfl, rfl, r2.fh _ _ (s2 _ _ hq), r2.fh _ _ hq2, by rw [← hr.length, ← hr2.length]; exact sz1000 hl, fun p np => ?_⟩
          have g := Grow.laid (o := .lst (vs1 ++ vs2)) r2.fh np
          exact q2 _ _ (.ref p) g.f (r2.grow g) (ResW.lay r2 np ((hr.mono s2).append hr2))
        · exact q2.elim
      | _ => exact q2.elim
    | _ => exact q2.elim
end
theorem ew_cat {fa fb : FE} {ρ : Rho} {Q : Wt → Rho → Prop} (h : EvE fa ρ fun d ρ1 => EvE fb ρ1 fun e ρ2 => ∃ xs ys, d = .lst xs ∧ e = .lst ys ∧ xs.length + ys.length ≤ 100000 ∧ Q (.own (xs ++ ys)) ρ2) : EvW (wCat fa fb) ρ Q := by
  obtain ⟨d, ρ1, e1, e, ρ2, e2, xs, ys, rfl, rfl, hl, q⟩ := h
  exact ⟨_, ρ2, by unfold wCat bindEW; simp only [e1, e2, if_pos hl], q⟩
end DL
namespace DL
open PySem PySem.Spec PyProof.Rows L2 RZ
/-! ### calls by keywords, with defaults -/
def arr1 {α : Type} (ds vs : List α) : Nat ⊕ Nat → Option α
  | .inl i => vs[i]?
  | .inr j => ds[j]?
def arrL {α : Type} (ds : List α) : List (Nat ⊕ Nat) → List α → List α
  | [], _ => []
  | x :: ar, vs => match arr1 ds vs x with
    | some v => v :: arrL ds ar vs
    | none => arrL ds ar vs
theorem arrL_none {α : Type} {ds vs : List α} {x : Nat ⊕ Nat} {ar : List (Nat ⊕ Nat)} (h : arr1 ds vs x = none) : arrL ds (x :: ar) vs = arrL ds ar vs := by
  rw [arrL, h]
theorem arrL_some {α : Type} {ds vs : List α} {x : Nat ⊕ Nat} {ar : List (Nat ⊕ Nat)} {v : α} (h : arr1 ds vs x = some v) : arrL ds (x :: ar) vs = v :: arrL ds ar vs := by
  rw [arrL, h]
theorem vals_arr {vs dvs : List V} {us ds : List Value} (r : Vals vs us) (rd : Vals dvs ds) : ∀ ar : List (Nat ⊕ Nat), Vals (arrL dvs ar vs) (arrL ds ar us)
  | [] => .nil
  | x :: ar => by
    have ih := vals_arr r rd ar
    have key : ∀ {as : List V} {bs : List Value} (i : Nat), Vals as bs → (as[i]? = none ∧ bs[i]? = none) ∨ ∃ a b, as[i]? = some a ∧ bs[i]? = some b ∧ RelV a b := fun {as bs} i h => by
      cases e : as[i]? with
      | none => exact .inl ⟨rfl, h.none_of e⟩
      | some a =>
        obtain ⟨b, e1, e2⟩ := h.get e
        exact .inr ⟨a, b, rfl, e1, e2⟩
    cases x with
    | inl i =>
      rcases key i r with ⟨a, b⟩ | ⟨a, b, e1, e2, h⟩
      · rw [arrL_none (x := .inl i) a, arrL_none (x := .inl i) b]; exact ih
      · rw [arrL_some (x := .inl i) e1, arrL_some (x := .inl i) e2]; exact .cons h ih
    | inr i =>
      rcases key i rd with ⟨a, b⟩ | ⟨a, b, e1, e2, h⟩
      · rw [arrL_none (x := .inr i) a, arrL_none (x := .inr i) b]; exact ih
      · rw [arrL_some (x := .inr i) e1, arrL_some (x := .inr i) e2]; exact .cons h ih
def noTmp : List Av → Bool
  | [] => true
  | .tmp _ :: _ => false
  | _ :: as => noTmp as
def Av1 (K : PySem.W.Frag) (F : Hp) (σ : L2.St) (v : V) : Av → Prop
  | .val d => Rp K F d v
  | .slot j => σ[j]? = some (some v)
  | .tmp _ => False
section
variable {K : PySem.W.Frag} {P : Pt} {F H : Hp} {σ : L2.St} {ρ : Rho}
theorem avs_at : ∀ {as : List Av} {vs : List V} (i : Nat), Avs K P F H σ ρ as vs → noTmp as = true → (as[i]? = none ∧ vs[i]? = none) ∨ ∃ a v, as[i]? = some a ∧ vs[i]? = some v ∧ Av1 K F σ v a
  | _, _, _, .nil, _ => .inl ⟨rfl, rfl⟩
  | _, _, 0, .val (d := d) h _, _ => .inr ⟨.val d, _, rfl, rfl, h⟩
  | _, _, 0, .slot (j := j) h _, _ => .inr ⟨.slot j, _, rfl, rfl, h⟩
  | _, _, i + 1, .val h r, e => by simpa using avs_at i r e
  | _, _, i + 1, .slot h r, e => by simpa using avs_at i r e
  | _, _, _, .tmp _ _, e => by cases e
theorem avs_arr {as : List Av} {vs : List V} {dd : List Dt} {dvs : List V} (h : Avs K P F H σ ρ as vs) (hn : noTmp as = true) (hd : Rps K F dd dvs) : ∀ ar : List (Nat ⊕ Nat), Avs K P F H σ ρ (arrL (dd.map Av.val) ar as) (arrL dvs ar vs)
  | [] => .nil
  | x :: ar => by
    have ih := avs_arr h hn hd ar
    cases x with
    | inl i =>
      rcases avs_at i h hn with ⟨a, b⟩ | ⟨a, v, e1, e2, q⟩
      · rw [arrL_none (x := .inl i) a, arrL_none (x := .inl i) b]; exact ih
      · rw [arrL_some (x := .inl i) e1, arrL_some (x := .inl i) e2]
        cases a with
        | val d => exact .val q ih
        | slot j => exact .slot q ih
        | tmp xs => exact q.elim
    | inr j =>
      cases e : dd[j]? with
      | none =>
        have e2 : dvs[j]? = none := by
          rw [List.getElem?_eq_none_iff] at e ⊢
          rw [← hd.length]; exact e
        rw [arrL_none (by show (dd.map Av.val)[j]? = none; simp only [List.getElem?_map, e]; rfl), arrL_none (x := .inr j) e2]; exact ih
      | some d =>
        obtain ⟨v, e2, q⟩ := hd.get e
        rw [arrL_some (v := Av.val d) (by show (dd.map Av.val)[j]? = _; simp only [List.getElem?_map, e]; rfl), arrL_some (x := .inr j) e2]
        exact .val q ih
theorem avs_app : ∀ {as bs : List Av} {vs us : List V}, Avs K P F H σ ρ as vs → noTmp as = true → Avs K P F H σ ρ bs us → Avs K P F H σ ρ (as ++ bs) (vs ++ us)
  | _, _, _, _, .nil, _, r => r
  | _, _, _, _, .val h q, e, r => .val h (avs_app q e r)
  | _, _, _, _, .slot h q, e, r => .slot h (avs_app q e r)
  | _, _, _, _, .tmp _ _, e, _ => by cases e
theorem avs_len : ∀ {as : List Av} {vs : List V}, Avs K P F H σ ρ as vs → as.length = vs.length
  | _, _, .nil => rfl
  | _, _, .val _ q => by simp [avs_len q]
  | _, _, .slot _ q => by simp [avs_len q]
  | _, _, .tmp _ _ => rfl
/-- arguments without lists of their own stay, whatever slots are read -/
theorem avs_move {F' H' : Hp} {ρ' : Rho} (s : Same F F') : ∀ {as : List Av} {vs : List V}, Avs K P F H σ ρ as vs → noTmp as = true → Avs K P F' H' σ ρ' as vs
  | _, _, .nil, _ => .nil
  | _, _, .val h q, e => .val (h.mono s) (avs_move s q e)
  | _, _, .slot h q, e => .slot h (avs_move s q e)
  | _, _, .tmp _ _, e => by cases e
end
def aApp (fa fk : FA) : FA := fun ρ => match fa ρ with
  | none => none
  | some (.ex C fs, ρ1) => some (.ex C fs, ρ1)
  | some (.ok as, ρ1) => if noTmp as = true then (match fk ρ1 with
    | none => none
    | some (.ex C fs, ρ2) => some (.ex C fs, ρ2)
    | some (.ok bs, ρ2) => some (.ok (as ++ bs), ρ2)) else none
def aArr (n m : Nat) (dd : List Dt) (ar : List (Nat ⊕ Nat)) (fa fk : FA) : FA := fun ρ => match fa ρ with
  | none => none
  | some (.ex C fs, ρ1) => some (.ex C fs, ρ1)
  | some (.ok as, ρ1) => if noTmp as = true ∧ as.length = n then (match fk ρ1 with
    | none => none
    | some (.ex C fs, ρ2) => some (.ex C fs, ρ2)
    | some (.ok bs, ρ2) => if noTmp (as ++ bs) = true ∧ bs.length = m then some (.ok (arrL (dd.map Av.val) ar (as ++ bs)), ρ2) else none) else none
structure KB (K : PySem.W.Frag) (fd : FuncData) (ps : List Str) (n : Nat) (ks : List Str) (ar : List (Nat ⊕ Nat)) (ds : List Value) : Prop where
  to : ∀ (s : Shared) (us ws : List Value), K.In s.heap → us.length = n → ws.length = ks.length → BindsTo s fd ⟨us, ks.zip ws⟩ (ps.zip (arrL ds ar (us ++ ws)))
section
variable {X : Cx} {P : Pt} {Wx : WX} {pos p : Pos} {e : Expr} {es : List Expr} {kws : List Keyword} {fa fk : FA} {k n np : Nat} {f : Addr} {fd : FuncData} {ps ks : List Str} {g : FnD} {x : Str} {ar : List (Nat ⊕ Nat)} {ds : List Value} {dd : List Dt} {dvs : List V}
/-- the call itself, the arguments being there -/
theorem call_sp {σ : L2.St} {H F : Hp} {ρ : Rho} {as : List Av} {vs : List V} {Q : VK} (r1 : Rel X.K P F H σ ρ) (p1 : Avs X.K P F H σ ρ as vs)
    (q : postW X.K P Wx σ F Q (match toWs ρ as with | none => none | some ws => if ws.length = n ∧ (slotsOf as).Nodup then (match g ws with | none => none | some (r, cs) => some (r, putBack (slotsOf as) cs ρ)) else none)) : spF X.K n g vs H Q (WE Wx σ) := by
  have h : LW X.K P Wx (wCall n g (fun _ => some (.ok as, ρ))) σ H Q := ⟨F, ρ, r1, q⟩
  cases e1 : toWs ρ as with
  | none => simp only [e1] at q; exact q.elim
  | some ws =>
    simp only [e1] at q
    by_cases nd : ws.length = n ∧ (slotsOf as).Nodup
    · rw [if_pos nd] at q
      obtain ⟨nl, nd⟩ := nd
      obtain ⟨G, S, aw, sl, an, _⟩ := args_ok r1 p1 e1 nd
      refine ⟨by rw [aw.length]; exact nl, F, G, ws, S.fg, S.gh, aw, an, ?_⟩
      match e2 : g ws with
      | none => simp only [e2] at q; exact q.elim
      | some (.ok w, cs) =>
        simp only [e2] at q
        intro F2 H2 v gb fw
        exact q F2 H2 v gb.f (r1.after S gb sl nd) (.after r1 S gb sl nd fw)
      | some (.ex C fs, cs) =>
        simp only [e2] at q
        exact fun F2 H2 cls dd gb xp => q F2 H2 cls dd gb.f (r1.after S gb sl nd) xp
    · rw [if_neg nd] at q; exact q.elim
theorem run_kb {pins : List (Addr × Obj)} {σ : L2.St} {H : Hp} {s : Shared} {Q : VK} {us ws : List Value} {vs zs : List V} (G : FnOk X.prog X.w X.K X.mg X.base (L2.CX X.prog X.w) k f fd ps (spF X.K np g)) (hr : Room k X.A) (hb : KB X.K fd ps n ks ar ds) (hd : Vals dvs ds) (tk : Takes X Wx)
    (I : Inv X pins σ H s) (r : Vals vs us) (rz : Vals zs ws) (l1 : vs.length = n) (l2 : zs.length = ks.length) (h : spF X.K np g (arrL dvs ar (vs ++ zs)) H Q (WE Wx σ)) :
    wpAny (model X.prog X.w) X.A (call (.ref f) us (ks.zip ws)) (EP X pins σ Q) X.xe s := by
  have r2 := vals_arr (r.append rz) hd ar
  have bt := hb.to s us ws I.kIn (by rw [← r.length]; exact l1) (by rw [← rz.length]; exact l2)
  refine wpAny_call (codeAny_mono (G.run X.A X.stack s H ⟨us, ks.zip ws⟩ _ _ Q (WE Wx σ) hr I.env0 bt r2 h) fun y s' hq => ?_)
  match y, hq with
  | .error e, hq => exact passAt tk σ pins H s e s' I hq
  | .ok (.ret u), hq => exact I.after hq
  | .ok .next, hq => exact hq.elim
  | .ok .brk, hq => exact hq.elim
  | .ok .cont, hq => exact hq.elim
/-- positional arguments, then keywords -/
theorem LA_kw {σ : L2.St} {H : Hp} {Q : VK} (hd : ∀ F : Hp, Rps X.K F dd dvs) (h : LW X.K P Wx (wCall np g (aArr n ks.length dd ar fa fk)) σ H Q) :
    LA X.K P Wx fa σ H fun vs H1 => LA X.K P Wx fk σ H1 fun zs H2 => vs.length = n ∧ zs.length = ks.length ∧ spF X.K np g (arrL dvs ar (vs ++ zs)) H2 Q (WE Wx σ) := by
  obtain ⟨F, ρ, r, q⟩ := h
  refine ⟨F, ρ, r, ?_⟩
  unfold wCall bindAW aArr at q
  match e1 : fa ρ with
  | none => simp only [e1] at q; exact q.elim
  | some (.ex C fs, ρ1) => simp only [e1] at q; exact q
  | some (.ok as, ρ1) =>
    simp only [e1] at q
    intro F1 H1 vs s1 r1 p1
    by_cases hn : noTmp as = true ∧ as.length = n
    · simp only [if_pos hn] at q
      refine ⟨F1, ρ1, r1, ?_⟩
      match e2 : fk ρ1 with
      | none => simp only [e2] at q; exact q.elim
      | some (.ex C fs, ρ2) => simp only [e2] at q; exact fun F' H' cls dd a => q F' H' cls dd (s1.trans a)
      | some (.ok bs, ρ2) =>
        simp only [e2] at q
        intro F2 H2 zs s2 r2 p2
        by_cases hm : noTmp (as ++ bs) = true ∧ bs.length = ks.length
        · simp only [if_pos hm] at q
          refine ⟨by rw [← avs_len p1]; exact hn.2, by rw [← avs_len p2]; exact hm.2, ?_⟩
          have pa := avs_app (avs_move (F' := F2) (H' := H2) (ρ' := ρ2) s2 p1 hn.1) hn.1 p2
          exact call_sp r2 (avs_arr pa hm.1 (hd F2) ar) (postW.mono (s1.trans s2) q)
        · simp only [if_neg hm] at q; exact q.elim
    · simp only [if_neg hn] at q; exact q.elim
end
/-- a def by the form of a call: n positional values, keywords ks -/
structure CallAt (P : Program) (w : World) (K : PySem.W.Frag) (mg : Str → Option Value) (base : Heap) (k : Nat) (x : Str) (n : Nat) (ks : List Str) (ar : List (Nat ⊕ Nat)) (dd : List Dt) (np : Nat) (g : FnD) : Prop where
  ex : ∃ f fd ps ds dvs, FnOk P w K mg base (L2.CX P w) k f fd ps (spF K np g) ∧ mg x = some (.ref f) ∧ PySem.W.keepIn K (.ref f) = true ∧ KB K fd ps n ks ar ds ∧ Vals dvs ds ∧ ∀ F : Hp, Rps K F dd dvs
theorem CallAt.mono {P : Program} {w : World} {K : PySem.W.Frag} {mg : Str → Option Value} {base : Heap} {j k : Nat} {x : Str} {n : Nat} {ks : List Str} {ar : List (Nat ⊕ Nat)} {dd : List Dt} {np : Nat} {g : FnD} (h : CallAt P w K mg base j x n ks ar dd np g) (hk : j ≤ k) : CallAt P w K mg base k x n ks ar dd np g := by
  obtain ⟨f, fd, ps, ds, dvs, a, b⟩ := h.ex
  exact ⟨f, fd, ps, ds, dvs, a.mono hk, b⟩
section
variable {X : Cx} {P : Pt} {Wx : WX} {pos p : Pos} {e : Expr} {es : List Expr} {kws : List Keyword} {fa fk : FA} {k n np : Nat} {ks : List Str} {g : FnD} {x : Str} {ar : List (Nat ⊕ Nat)} {dd : List Dt}
theorem w_kw (h : CallAt X.prog X.w X.K X.mg X.base k x n ks ar dd np g) (hr : Room k X.A) (tk : Takes X Wx) (hg : Gl X x) (ha : PA X (e :: es) (LA X.K P Wx fa)) (hk : PK X kws (LA X.K P Wx fk))
    (hall : (backToKw pos (keywordEach kws X.env)).all (·.1.isSome) = true := by rfl) (hks : (backToKw pos (keywordEach kws X.env)).filterMap (·.1) = ks := by rfl) (hdb : (x == ("__debug__" : Str)) = false := by decide) (he : starEach (e :: es) X.env = (false, eval e X.env) :: starEach es X.env := by rfl)
    (hpl : ((backTo pos (starEach (e :: es) X.env)).any (·.1) || (backToKw pos (keywordEach kws X.env)).any (·.1.isNone)) = false := by rfl) :
    PE X (.Call (.Name x p) (e :: es) kws pos) (LW X.K P Wx (wCall np g (aArr n ks.length dd ar fa fk))) := by
  obtain ⟨f, fd, ps, ds, dvs, G, hm, hkp, hb, hv, hd⟩ := h.ex
  refine ⟨fun pins s σ H Q I q => wpAny_Call_Name_kw (ld_glob I hg hm ?_ hdb)⟩
  refine PySem.W.callWith_KW (h₀ := X.base) I.ok.mod.kin hkp hall ?_ hpl he
  refine thn (ha.run pos pins s σ H _ I (LA_kw hd q)) fun us s1 ⟨vs, H1, I1, r, q1⟩ => ?_
  refine thn (hk.run pos pins s1 σ H1 _ I1 q1) fun ws s2 ⟨zs, H2, I2, rz, l1, l2, q2⟩ => ⟨I2.kIn, ?_⟩
  rw [hks]
  exact run_kb G hr hb hv tk I2 r rz l1 l2 q2
theorem w_kw1 (h : CallAt X.prog X.w X.K X.mg X.base k x n [] ar dd np g) (hr : Room k X.A) (tk : Takes X Wx) (hg : Gl X x) (ha : PA X (e :: es) (LA X.K P Wx fa)) (hdb : (x == ("__debug__" : Str)) = false := by decide) (he : starEach (e :: es) X.env = (false, eval e X.env) :: starEach es X.env := by rfl)
    (hpl : (backTo pos (starEach es X.env)).any (·.1) = false := by rfl) : PE X (.Call (.Name x p) (e :: es) [] pos) (LW X.K P Wx (wCall np g (aArr n 0 dd ar fa aNil))) := by
  obtain ⟨f, fd, ps, ds, dvs, G, hm, hkp, hb, hv, hd⟩ := h.ex
  refine ⟨fun pins s σ H Q I q => wpAny_Call_Name_kw (ld_glob I hg hm ?_ hdb)⟩
  refine PySem.W.callWith_K (h₀ := X.base) I.ok.mod.kin hkp (thn (ha.run pos pins s σ H _ I (LA_kw (ks := []) hd q)) fun us s1 ⟨vs, H1, I1, r, q1⟩ => ⟨I1.kIn, ?_⟩) he hpl
  obtain ⟨F, ρ, r2, q2⟩ := q1
  obtain ⟨l1, l2, q3⟩ := q2 F H1 [] (.refl _) r2 .nil
  exact run_kb (ws := []) G hr hb hv tk I1 r .nil l1 l2 q3
theorem w_kw0 (h : CallAt X.prog X.w X.K X.mg X.base k x 0 [] ar dd np g) (hr : Room k X.A) (tk : Takes X Wx) (hg : Gl X x) (hdb : (x == ("__debug__" : Str)) = false := by decide) : PE X (.Call (.Name x p) [] [] pos) (LW X.K P Wx (wCall np g (aArr 0 0 dd ar aNil aNil))) := by
  obtain ⟨f, fd, ps, ds, dvs, G, hm, hkp, hb, hv, hd⟩ := h.ex
  refine ⟨fun pins s σ H Q I q => wpAny_Call_Name_kw (ld_glob I hg hm ?_ hdb)⟩
  obtain ⟨F, ρ, r1, q1⟩ := LA_kw (ks := []) hd q
  obtain ⟨F2, ρ2, r2, q2⟩ := q1 F H [] (.refl _) r1 .nil
  obtain ⟨l1, l2, q3⟩ := q2 F2 H [] (.refl _) r2 .nil
  exact PySem.W.callWith_K0 I.kIn hkp (run_kb (us := []) (ws := []) G hr hb hv tk I .nil .nil l1 l2 q3)
theorem k_nil : PK X [] (LA X.K P Wx aNil) := ⟨fun pos pins s σ H Q I h => by
  obtain ⟨F, ρ, r, q⟩ := h
  exact pk_nil.run pos pins s σ H Q I (q F H [] (.refl _) r .nil)⟩
theorem k_val {nm : Option Str} {kp : Pos} {f : FE} {r : FA} (he : PE X e (LE X.K P Wx f)) (hr : PK X kws (LA X.K P Wx r)) : PK X (⟨nm, e, kp⟩ :: kws) (LA X.K P Wx (aVal f r)) := ⟨fun pos pins s σ H Q I h => by
  refine (pk_cons he hr).run pos pins s σ H Q I ?_
  obtain ⟨F, ρ, rr, q⟩ := h
  refine LE.bindA rr q fun d ρ1 F1 H1 v s1 r1 p1 q1 => ⟨F1, ρ1, r1, ?_⟩
  match e : r ρ1 with
  | none => simp only [e] at q1; exact q1.elim
  | some (.ok as, ρ2) =>
    simp only [e] at q1
    exact fun F2 H2 vs s2 r2 p2 => q1 F2 H2 (v :: vs) s2 r2 (.val (p1.mono s2) p2)
  | some (.ex C fs, ρ2) => simp only [e] at q1; exact q1⟩
end
/-! what is run -/
theorem ea_arr {n m : Nat} {dd : List Dt} {ar : List (Nat ⊕ Nat)} {fa fk : FA} {ρ : Rho} {Q : List Av → Rho → Prop} (h : EvA fa ρ fun as ρ1 => noTmp as = true ∧ as.length = n ∧ EvA fk ρ1 fun bs ρ2 => noTmp (as ++ bs) = true ∧ bs.length = m ∧ ∃ cs, arrL (dd.map Av.val) ar (as ++ bs) = cs ∧ Q cs ρ2) : EvA (aArr n m dd ar fa fk) ρ Q := by
  obtain ⟨as, ρ1, e1, h1, h2, bs, ρ2, e2, h3, h4, _, rfl, q⟩ := h
  exact ⟨_, ρ2, by unfold aArr; simp only [e1, if_pos (And.intro h1 h2), e2, if_pos (And.intro h3 h4)], q⟩
/-! ### where such a def stands -/
structure KDefAt (K : PySem.W.Frag) (mg : Str → Option Value) (x : Str) (st : Stmt) (ps : List Str) (n : Nat) (ks : List Str) (ar : List (Nat ⊕ Nat)) (dd : List Dt) : Prop where
  ex : ∃ f fd ds dvs, Fun K x x st f fd ∧ mg x = some (.ref f) ∧ KB K fd ps n ks ar ds ∧ Vals dvs ds ∧ ∀ F : Hp, Rps K F dd dvs
section
variable {P : Program} {w : World} {K : PySem.W.Frag} {mg : Str → Option Value} {base : Heap}
theorem fn_atK {x : Str} {st : Stmt} {N ps : List Str} {k n : Nat} {ks : List Str} {ar : List (Nat ⊕ Nat)} {dd : List Dt} (bs : List Nat) {fb : FS} (D : KDefAt K mg x st ps n ks ar dd) (S : FnScope N ps (defScope st))
    (hb : ∀ (f : Addr) (cdv : Value) (A : Around) (outer : List Env) (s : Shared) (H : Hp) (E : XK) (Z : Pt), (∀ j, j ∈ Z.bs → j ∈ bs) → Room k (A.deeper (envOfC x (defScope st) s.heap.objs.size f cdv)) →
      PSs (cxOf (L2.CX P w) P w K mg base N x (defScope st) f cdv A outer s H E) (defBody st) (LS K Z (fun cls d _ H => E cls d H) fb)) :
    CallAt P w K mg base (k + 1) x n ks ar dd ps.length (callF N.length bs fb) := by
  obtain ⟨f, fd, ds, dvs, F, b, d⟩ := D.ex
  exact ⟨f, fd, ps, ds, dvs, fn_okD bs F S (hb f), b, F.kp, d⟩
theorem CallAt.none {x : Str} {st : Stmt} {ps : List Str} {n : Nat} {ks : List Str} {ar : List (Nat ⊕ Nat)} {dd : List Dt} (D : KDefAt K mg x st ps n ks ar dd) : CallAt P w K mg base 0 x n ks ar dd ps.length (fun _ => none) := by
  obtain ⟨f, fd, ds, dvs, F, b, d⟩ := D.ex
  refine ⟨f, fd, ps, ds, dvs, ⟨fun vs H Q E h => h.1, fun A outer s H args us vs Q E _ _ _ _ h => ?_⟩, b, F.kp, d⟩
  obtain ⟨_, _, _, _, _, _, _, _, z⟩ := h
  exact z.elim
/-- the defaults that are lacking -/
theorem entries_vals {D : Addr} : ∀ {kvs : List (Str × Dt)}, EntriesOk K D kvs → ∃ (us : List Value) (vs : List V), us.length = kvs.length ∧ Vals vs us ∧ (∀ F : Hp, Rps K F (kvs.map (·.2)) vs) ∧ ∀ q ∈ (kvs.map (·.1)).zip us, PySem.W.nsIn K D q.1 = some (some q.2)
  | [], _ => ⟨[], [], rfl, .nil, fun _ => .nil, fun q hq => by cases hq⟩
  | (k, d) :: r, ⟨⟨u, v, a, b, c⟩, h⟩ => by
    obtain ⟨us, vs, e1, e2, e3, e4⟩ := entries_vals h
    refine ⟨u :: us, v :: vs, by simp [e1], .cons b e2, fun F => .cons (c F) (e3 F), fun q hq => ?_⟩
    rcases List.mem_cons.mp (show q ∈ (k, u) :: (r.map (·.1)).zip us from hq) with e | hq
    · rw [e]; exact a
    · exact e4 q hq
theorem kdef_mk0 {h : Heap} {x : Str} {st : Stmt} {ps : List Str} {n : Nat} {ks : List Str} {ar : List (Nat ⊕ Nat)} {f : Addr} {oc : Value} {od an : Option Addr} {osl : Array (Option Value)} {kV doc pm cdv ct : Value} (X : K.In h) (G : h.Ns mainGlobals mg)
    (a : PySem.W.nsIn K mainGlobals x = some (some (.ref f))) (l : K.lookup f = some ⟨oc, od, .func (PySem.W.fnOf x x (defArgs st) (defBody st) (defScope st) .none kV doc pm an cdv ct), osl⟩)
    (c : PySem.W.codeIn K cdv x = true) (k : PySem.W.keepIn K (.ref f) = true)
    (hb : ∀ (kV doc pm : Value) (an : Option Addr) (cdv ct : Value) (us ws : List Value), us.length = n → ws.length = ks.length → bindArgs (PySem.W.fnOf x x (defArgs st) (defBody st) (defScope st) .none kV doc pm an cdv ct) ⟨us, ks.zip ws⟩ = pure (ps.zip (arrL [] ar (us ++ ws)))) : KDefAt K mg x st ps n ks ar [] :=
  have F := fun_mk (st := st) l c k
  ⟨f, _, [], [], F, PySem.W.mg_of X G a, ⟨fun s us ws _ h1 h2 => .of_eq (hb kV doc pm an cdv ct us ws h1 h2)⟩, .nil, fun _ => .nil⟩
theorem kdef_mk1 {h : Heap} {x : Str} {st : Stmt} {ps : List Str} {n : Nat} {ks : List Str} {ar : List (Nat ⊕ Nat)} {kvs : List (Str × Dt)} {f D : Addr} {oc : Value} {od an : Option Addr} {osl : Array (Option Value)} {doc pm cdv ct : Value} (X : K.In h) (G : h.Ns mainGlobals mg)
    (a : PySem.W.nsIn K mainGlobals x = some (some (.ref f))) (l : K.lookup f = some ⟨oc, od, .func (PySem.W.fnOf x x (defArgs st) (defBody st) (defScope st) .none (.ref D) doc pm an cdv ct), osl⟩)
    (c : PySem.W.codeIn K cdv x = true) (k : PySem.W.keepIn K (.ref f) = true) (he : EntriesOk K D kvs)
    (hb : ∀ (D : Addr) (doc pm : Value) (an : Option Addr) (cdv ct : Value) (us ws ms : List Value), us.length = n → ws.length = ks.length → ms.length = kvs.length → KwChain D ((kvs.map (·.1)).zip ms) (bindArgs (PySem.W.fnOf x x (defArgs st) (defBody st) (defScope st) .none (.ref D) doc pm an cdv ct) ⟨us, ks.zip ws⟩) (ps.zip (arrL ms ar (us ++ ws)))) : KDefAt K mg x st ps n ks ar (kvs.map (·.2)) :=
  have F := fun_mk (st := st) l c k
  have ⟨ms, vs, e1, e2, e3, e4⟩ := entries_vals he
  ⟨f, _, ms, vs, F, PySem.W.mg_of X G a, ⟨fun s us ws KI h1 h2 => BindsTo.of_looks fun M => KwChain.looks KI e4 (hb D doc pm an cdv ct us ws ms h1 h2 e1)⟩, e2, e3⟩
theorem entry_tup {q T : Addr} {k : Str} {od : Option Addr} {its : Array Value} {n : Nat} {sl : Array (Option Value)} {ds : List Dt} (e : PySem.W.nsIn K q k = some (some (.ref T))) (l : K.lookup T = some ⟨.type "tuple", od, .seq its n, sl⟩) (hs : its.toList.map scalD = ds.map some) (hz : its.size ≤ sizeLine) : EntryOk K q (k, .tup ds) := ⟨.ref T, .ref T, e, rfl, tup_mk l hs hz⟩
end
end DL
namespace DL
open PySem PySem.Spec PyProof.Rows L2 RZ
/-! ### int(..), str(..) -/
theorem CallR.or {X : Cx} {f : Value} {r r' : List V → Hp → VK → Prop} (h : CallR X f r) (h' : CallR X f r') : CallR X f (fun xs H Q => r xs H Q ∨ r' xs H Q) :=
  fun pins s σ H xs us Q I v q => q.elim (fun q => h pins s σ H xs us Q I v q) fun q => h' pins s σ H xs us Q I v q
def dInt : List Dt → Option Dt
  | [.int i] => some (.int i)
  | [.bl k] => some (.int (if k then 1 else 0))
  | [.str a] => match PySem.intText? a with
    | some n => if a.length ≤ 640 then some (.int n) else none
    | none => none
  | _ => none
def dStr : List Dt → Option Dt
  | [.int i] => if i.natAbs.log2 < 1920 then some (.str (toString i)) else none
  | _ => none
section
variable {X : Cx}
theorem call_intA : CallR X (.type "int") (fun xs H Q => ((∃ i, xs = [.int i] ∧ Q (.int i) H) ∨ ∃ k, xs = [.bl k] ∧ Q (.int (if k then 1 else 0)) H) ∨ ∃ a n, xs = [.str a] ∧ PySem.intText? a = some n ∧ a.length ≤ 640 ∧ Q (.int n) H) := CallR.or call_int1 call_int_str
theorem cd_int : CallD X.K (fun xs H Q => ((∃ i, xs = [.int i] ∧ Q (.int i) H) ∨ ∃ k, xs = [.bl k] ∧ Q (.int (if k then 1 else 0)) H) ∨ ∃ a n, xs = [.str a] ∧ PySem.intText? a = some n ∧ a.length ≤ 640 ∧ Q (.int n) H) dInt := by
  intro ds g h F H vs Q s hr q
  unfold dInt at h
  split at h
  · cases h
    match vs, hr with
    | _, .cons (.int i) .nil => exact .inl (.inl ⟨i, rfl, q F H _ (Grow.refl s) (.int _)⟩)
  · cases h
    match vs, hr with
    | _, .cons (.bl k) .nil => exact .inl (.inr ⟨k, rfl, q F H _ (Grow.refl s) (.int _)⟩)
  · rename_i a
    split at h
    · rename_i n hn
      split at h
      · rename_i hl
        cases h
        match vs, hr with
        | _, .cons (.str _) .nil => exact .inr ⟨_, n, rfl, hn, hl, q F H _ (Grow.refl s) (.int _)⟩
      · cases h
    · cases h
  · cases h
theorem cd_str : CallD X.K (fun xs H Q => ∃ i, xs = [.int i] ∧ i.natAbs.log2 < 1920 ∧ Q (.str (toString i)) H) dStr := by
  intro ds g h F H vs Q s hr q
  unfold dStr at h
  split at h
  · split at h
    · rename_i hl
      cases h
      match vs, hr with
      | _, .cons (.int i) .nil => exact ⟨i, rfl, hl, q F H _ (Grow.refl s) (.str _)⟩
    · cases h
  · cases h
end
end DL
namespace Lw
open PySem PySem.Spec PyProof.Rows L2 RZ DL
local macro_rules | `(tactic| walk_at "sm") => `(tactic| first | assumption | exact sm_of (k := 200) (by omega) (by decide) | exact sm_of (k := 200) (by decide) (by decide))
local macro_rules | `(tactic| walk_at "ev3") => `(tactic| first
  | (with_reducible first
    | refine es_seq ?_ | refine es_asg ?_ | refine es_ret ?_ | refine es_if ?_ | refine es_par ?_ | refine es_put ?_ | refine es_nx ?_ | refine es_drop ?_ | refine es_asgT ?_
    | refine ew_sh ?_ | refine ev_frz ?_ | refine ew_lst ?_ | refine ew_call ?_ | refine ew_ite ?_ | refine ew_lc ?_ | refine ev_op ?_ | refine ev_un ?_ | refine ev_not ?_ | refine ev_and ?_ | refine ev_or ?_ | refine ev_ite ?_ | refine ev_chain ?_
    | refine ea_nil ?_ | refine ea_val ?_ | refine ea_tmp ?_ | refine ew_cat ?_ | refine ev_tup ?_ | refine ev_cb ?_ | refine ev_c ?_ | refine ev_sl00 ?_ | refine ev_sl01 ?_ | refine ev_sl10 ?_ | refine ev_sl11 ?_ | refine ei_args ?_ | refine ei_seq ?_ | refine es_for ?_ | refine es_while ?_ | refine ev_opR ?_
    | refine ex_add ?_ | refine ex_sub ?_ | refine ex_lt ?_ | refine ex_le ?_ | refine ex_gt ?_ | refine ex_ge ?_ | refine ex_eqI ?_ | refine ex_neI ?_ | refine ex_eqS ?_ | refine ex_neS ?_ | refine ex_eqB ?_ | refine ex_neB ?_ | refine ex_neg ?_)
  | ((with_reducible refine nrm_eq (ρ' := ?r) ?e ?_); (case e => (try dsimp only [List.set_cons_zero, List.set_cons_succ, putBack, slotsOf, wipeR, restR, keepSh, List.map_cons, List.map_nil, List.cons_append, List.nil_append, List.append_nil, List.length_cons, List.length_nil, Nat.reduceAdd, Nat.reduceSub, List.replicate, List.getElem?_cons_zero, List.getElem?_cons_succ, frz, startW]); exact rfl))
  | refine ev_var rfl ?_ | refine ev_varO rfl ?_ | refine ew_var rfl ?_ | refine ew_varO rfl ?_ | refine ea_slot rfl ?_ | refine ev_ixV rfl ?_ | refine es_app rfl ?_ | refine es_ext rfl ?_ | refine ev_opL rfl ?_ | refine ev_cbV rfl rfl rfl ?_
  | (with_reducible refine ex_mod ?_ ?_; first | decide | omega | assumption)
  | (with_reducible refine ex_fdiv ?_ ?_; refine Sm.div ?_ ?_; walk_at "sm"; first | decide | omega | assumption)
  | (with_reducible refine ex_mul ?_ ?_; refine Sm.mul ?_ ?_; walk_at "sm"; walk_at "sm")
  | ((with_reducible show Exists _); (fail_if_success (with_reducible show ∃ g, dMul _ _ = some g ∧ _)); (fail_if_success (with_reducible show ∃ g, dFdiv _ _ = some g ∧ _)); (fail_if_success (with_reducible show ∃ g, dMod _ _ = some g ∧ _)); (fail_if_success (with_reducible show ∃ g, dNe _ _ = some g ∧ _)); (fail_if_success (with_reducible show ∃ g, dEq _ _ = some g ∧ _));
     first | refine ⟨_, rfl, Nat.le_of_ble_eq_true rfl, ?_⟩ | refine ⟨_, rfl, rfl, List.nodup_nil, ?_⟩ | refine ⟨_, rfl, rfl, nodup1, ?_⟩ | refine ⟨_, rfl, rfl, nodup2 (by decide), ?_⟩ | refine ⟨_, rfl, ?_⟩ | refine ⟨_, _, rfl, rfl, ?_⟩ | refine ⟨_, _, rfl, ?_⟩ | refine ⟨_, _, _, rfl, rfl, rfl, ?_⟩))
def slotN (ρ : Rho) (i : Nat) : Nat := match ρ[i]? with
  | some (some (.sh (.int n))) => n.natAbs
  | _ => 0
theorem mod_bd {a b : Int} (h : 0 < b) : 0 ≤ a.fmod b ∧ a.fmod b < b := by
  rw [mod_pos h]
  exact ⟨Int.emod_nonneg _ (by omega), Int.emod_lt_of_pos _ h⟩
/-- the box of draws -/
def BoxOk (xs : List Dt) : Prop := ∃ (ns : List Int) (i b s : Int), xs = [.lst (ns.map .int), .int i, .int b, .int s] ∧ ns.length ≤ 63 ∧ 0 ≤ i ∧ i ≤ ns.length ∧ 0 ≤ b ∧ 0 ≤ s ∧ s < 2147482951
theorem abs_eq (i : Int) : (if i < 0 then -i else i) = (i.natAbs : Int) := by
  split <;> omega
abbrev amt (p : Int × Int) : Dt := .tup [.int p.1, .int p.2]
def lowL (n d : Int) : Int × Int := (n.fdiv (Int.gcd n d), d.fdiv (Int.gcd n d))
def lowI (a b : Int) : Int × Int := if b < 0 then (a.fdiv (-(Int.gcd a b : Int)), b.fdiv (-(Int.gcd a b : Int))) else lowL a b
theorem gcd_pos {a b : Int} (h : b ≠ 0) : 0 < (Int.gcd a b : Int) := by
  have := Int.gcd_pos_of_ne_zero_right a h
  omega
theorem gcd_le {a b : Int} (h : b ≠ 0) : Int.gcd a b ≤ b.natAbs := Nat.le_of_dvd (by omega) (Int.gcd_dvd_natAbs_right a b)
theorem sm_gcd {a b : Int} (h : b ≠ 0) (hs : Sm b) : Sm (Int.gcd a b : Int) := by
  unfold Sm
  exact Nat.lt_of_le_of_lt (by have := gcd_le (a := a) h; omega) hs
theorem sm_neg {a : Int} (h : Sm a) : Sm (-a) := by unfold Sm; rw [Int.natAbs_neg]; exact h
def lessI (p q : Int × Int) : Bool := decide (p.1 * q.2 < q.1 * p.2)
structure SmA (p : Int × Int) : Prop where
  o : Sm p.1
  u : Sm p.2
/-- an amount in lowest terms -/
structure Am (p : Int × Int) : Prop where
  pos : 0 < p.2
  low : Int.gcd p.1 p.2 = 1
theorem fdiv_exact {a b g : Int} (hg : 0 < g) (h : a = g * b) : a.fdiv g = b := by
  rw [div_pos hg, h]
  exact Int.mul_ediv_cancel_left b (by omega)
theorem lowL_ex {n d : Int} (h : d ≠ 0) : ∃ (g : Nat) (a b : Int), 0 < g ∧ n = g * a ∧ d = g * b ∧ Int.gcd a b = 1 ∧ lowL n d = (a, b) := by
  have hg := gcd_pos (a := n) h
  have hg0 : 0 < Int.gcd n d := by omega
  obtain ⟨a, ha⟩ := Int.gcd_dvd_left n d
  obtain ⟨b, hb⟩ := Int.gcd_dvd_right n d
  refine ⟨Int.gcd n d, a, b, hg0, ha, hb, ?_, ?_⟩
  · have e : Int.gcd n d = Int.gcd ((Int.gcd n d : Int) * a) ((Int.gcd n d : Int) * b) := by rw [← ha, ← hb]
    rw [Int.gcd_mul_left, Int.natAbs_natCast] at e
    have : Int.gcd n d * 1 = Int.gcd n d * Int.gcd a b := by omega
    exact (Nat.eq_of_mul_eq_mul_left hg0 this).symm
  · unfold lowL
    rw [fdiv_exact hg ha, fdiv_exact hg hb]
theorem lowL_ok {n d : Int} (h : 0 < d) : Am (lowL n d) ∧ (lowL n d).2 ≤ d ∧ (lowL n d).1.natAbs ≤ n.natAbs ∧ n * (lowL n d).2 = (lowL n d).1 * d := by
  obtain ⟨g, a, b, hg, ha, hb, hc, e⟩ := lowL_ex (n := n) (d := d) (by omega)
  rw [e]
  have hb0 : 0 < b := by
    rcases Int.lt_or_le 0 b with h1 | h1
    · exact h1
    · have : (g : Int) * b ≤ 0 := Int.mul_nonpos_of_nonneg_of_nonpos (by omega) h1
      omega
  refine ⟨⟨hb0, hc⟩, ?_, ?_, ?_⟩
  · show b ≤ d
    rw [hb]
    have := Int.mul_le_mul_of_nonneg_right (show (1 : Int) ≤ g by omega) (show 0 ≤ b by omega)
    omega
  · show a.natAbs ≤ n.natAbs
    rw [ha, Int.natAbs_mul, Int.natAbs_natCast]
    exact Nat.le_mul_of_pos_left _ hg
  · show n * b = a * d
    rw [ha, hb]
    ac_rfl
theorem gcd_neg_l (a b : Int) : Int.gcd (-a) b = Int.gcd a b := by rw [Int.neg_gcd]
theorem lowI_neg {a b : Int} (h : 0 < b) : lowI a (-b) = lowL (-a) b := by
  unfold lowI lowL
  rw [if_pos (by omega), Int.gcd_neg, Int.neg_gcd]
  have hg := gcd_pos (a := a) (b := b) (by omega)
  congr 1
  · rw [← Int.neg_fdiv_neg, Int.neg_neg]
  · rw [Int.neg_fdiv_neg]
theorem lowI_pos {a b : Int} (h : 0 < b) : lowI a b = lowL a b := by
  unfold lowI
  rw [if_neg (by omega)]
theorem ix_den {i r : Int} {Q : Dt → Prop} (hi : 0 ≤ i) (h6 : i < 6) (hr : 0 ≤ r) (hr9 : r < 9) (q : ∀ d, 1 ≤ d → d ≤ 9 → Q (.int d)) : ∃ g, dIx (.lst [.int 1, .int 1, .int 1, .int 2, .int 3, .int (1 + r)]) (.int i) = some g ∧ Q g := by
  have : i = 0 ∨ i = 1 ∨ i = 2 ∨ i = 3 ∨ i = 4 ∨ i = 5 := by omega
  rcases this with rfl | rfl | rfl | rfl | rfl | rfl
  · exact ⟨_, rfl, q 1 (by omega) (by omega)⟩
  · exact ⟨_, rfl, q 1 (by omega) (by omega)⟩
  · exact ⟨_, rfl, q 1 (by omega) (by omega)⟩
  · exact ⟨_, rfl, q 2 (by omega) (by omega)⟩
  · exact ⟨_, rfl, q 3 (by omega) (by omega)⟩
  · exact ⟨_, rfl, q (1 + r) (by omega) (by omega)⟩
theorem sm_nat {a : Int} (h : a.natAbs < 2 ^ 200) : Sm a := sm_of h (by decide)
theorem nat3000 {a : Nat} (h : a < 2 ^ 200) : a < 2 ^ 3000 := Nat.lt_of_lt_of_le h (Nat.pow_le_pow_right (by decide) (by decide))
theorem am_sm {p : Int × Int} (h : p.1.natAbs < 2 ^ 200) (h2 : p.2.natAbs < 2 ^ 200) : SmA p := ⟨sm_nat h, sm_nat h2⟩
end Lw
namespace DL
open PySem PySem.Spec PyProof.Rows L2 RZ
/-! ### min, max, sum, any -/
def dMin2 : List Dt → Option Dt
  | [.int i, .int j] => some (.int (if j < i then j else i))
  | _ => none
def dMax2 : List Dt → Option Dt
  | [.int i, .int j] => some (.int (if j > i then j else i))
  | _ => none
def intsD : List Dt → Option (List Int)
  | [] => some []
  | .int i :: ds => (intsD ds).map (i :: ·)
  | _ => none
def dSum : List Dt → Option Dt
  | [.lst xs] => (intsD xs).map fun ns => .int ns.sum
  | _ => none
def dAny : List Dt → Option Dt
  | [.lst xs] => (bools xs).map fun bs => .bl (bs.any id)
  | _ => none
theorem intsD_ok {K : PySem.W.Frag} {F : Hp} : ∀ {ds : List Dt} {vs : List V} {ns : List Int}, Rps K F ds vs → intsD ds = some ns → vs = ns.map V.int
  | _, _, _, .nil, e => by cases e; rfl
  | _, _, ns, .cons (ds := ds) h r, e => by
    cases h with
    | int b =>
      unfold intsD at e
      cases q : intsD ds with
      | none => rw [q] at e; cases e
      | some cs => rw [q] at e; cases e; rw [intsD_ok r q]; rfl
    | _ => cases e
section
variable {X : Cx}
theorem cd_min2 : CallD X.K (fun xs H Q => ∃ i j, xs = [.int i, .int j] ∧ Q (.int (if j < i then j else i)) H) dMin2 := by
  intro ds g h F H vs Q s hr q
  unfold dMin2 at h
  split at h
  · cases h
    match vs, hr with
    | _, .cons (.int i) (.cons (.int j) .nil) => exact ⟨i, j, rfl, q F H _ (Grow.refl s) (.int _)⟩
  · cases h
theorem cd_max2 : CallD X.K (fun xs H Q => ∃ i j, xs = [.int i, .int j] ∧ Q (.int (if j > i then j else i)) H) dMax2 := by
  intro ds g h F H vs Q s hr q
  unfold dMax2 at h
  split at h
  · cases h
    match vs, hr with
    | _, .cons (.int i) (.cons (.int j) .nil) => exact ⟨i, j, rfl, q F H _ (Grow.refl s) (.int _)⟩
  · cases h
theorem cd_sum : CallD X.K (rSum X.K) dSum := by
  intro ds g h F H vs Q s hr q
  unfold dSum at h
  split at h
  · rename_i xs
    match vs, hr with
    | _, .cons (.lst hq hr) .nil =>
      cases hb : intsD xs with
      | none => rw [hb] at h; cases h
      | some bs =>
        rw [hb] at h
        cases h
        have e := intsD_ok hr hb
        subst e
        exact ⟨_, bs, rfl, .inl (.inl (s _ _ hq)), q F H _ (Grow.refl s) (.int _)⟩
  · cases h
theorem cd_any : CallD X.K (rAny X.K) dAny := by
  intro ds g h F H vs Q s hr q
  unfold dAny at h
  split at h
  · rename_i xs
    match vs, hr with
    | _, .cons (.lst hq hr) .nil =>
      cases hb : bools xs with
      | none => rw [hb] at h; cases h
      | some bs =>
        rw [hb] at h
        cases h
        have e := bools_ok hr hb
        subst e
        exact ⟨_, bs, rfl, .inl (.inl (s _ _ hq)), q F H _ (Grow.refl s) (.bl _)⟩
  · cases h
end
end DL
namespace DL
open PySem PySem.Spec PyProof.Rows L2 RZ
/-! ### what a run asks, told so that it unfolds by itself -/
/-- here the unfolding halts -/
structure At (P : Prop) : Prop where
  h : P
def fL {α : Type} : List α → (List α → Prop) → Prop
  | [], k => k []
  | x :: xs, k => fL xs fun ys => k (x :: ys)
theorem fL_ok {α : Type} : ∀ (xs : List α) (k : List α → Prop), fL xs k → k xs
  | [], _, h => h
  | x :: xs, k, h => fL_ok xs (fun ys => k (x :: ys)) h
theorem fL_of {α : Type} : ∀ (xs : List α) (k : List α → Prop), k xs → fL xs k
  | [], _, h => h
  | x :: xs, k, h => fL_of xs (fun ys => k (x :: ys)) h
def wO {α : Type} (o : Option α) (Q : α → Prop) : Prop := match o with
  | some g => Q g
  | none => False
theorem wO.ex {α : Type} {o : Option α} {Q : α → Prop} (h : wO o Q) : ∃ g, o = some g ∧ Q g := by
  cases o with
  | none => exact h.elim
  | some g => exact ⟨g, rfl, h⟩
theorem wo {α : Type} {o : Option α} {Q : α → Prop} {g : α} (e : o = some g) (h : Q g) : wO o Q := by subst e; exact h
def wT (b : Bool) (T F : Prop) : Prop := match b with
  | true => T
  | false => F
theorem wt {b : Bool} {T F : Prop} (h1 : b = true → T) (h2 : b = false → F) : wT b T F := by
  cases b with
  | true => exact h1 rfl
  | false => exact h2 rfl
theorem wT.h1 {b : Bool} {T F : Prop} (h : wT b T F) (e : b = true) : T := by subst e; exact h
theorem wT.h2 {b : Bool} {T F : Prop} (h : wT b T F) (e : b = false) : F := by subst e; exact h
def wB (d : Dt) (T F : Prop) : Prop := match d with
  | .bl b => wT b T F
  | _ => False
theorem wB.evb {d : Dt} {T F : Prop} (h : wB d T F) : EvB d T F := by
  cases d with
  | bl b => exact evB (fun e => wT.h1 h e) fun e => wT.h2 h e
  | _ => exact h.elim
def wI (d : Dt) (Q : Int → Prop) : Prop := match d with
  | .int i => Q i
  | _ => False
theorem wI.ex {d : Dt} {Q : Int → Prop} (h : wI d Q) : ∃ i, d = .int i ∧ Q i := by
  cases d with
  | int i => exact ⟨i, rfl, h⟩
  | _ => exact h.elim
def wC (p : Bool) (Q : Prop) : Prop := match p with
  | true => Q
  | false => False
theorem wC.ex {p : Bool} {Q : Prop} (h : wC p Q) : p = true ∧ Q := by
  cases p with
  | true => exact ⟨rfl, h⟩
  | false => exact h.elim
theorem wc {p : Bool} {Q : Prop} (e : p = true) (h : Q) : wC p Q := by subst e; exact h
def wOwn (o : Option (Option Wt)) (Q : List Dt → Prop) : Prop := match o with
  | some (some (.own xs)) => Q xs
  | _ => False
theorem wOwn.ex {o : Option (Option Wt)} {Q : List Dt → Prop} (h : wOwn o Q) : ∃ xs, o = some (some (.own xs)) ∧ Q xs := by
  match o, h with
  | some (some (.own xs)), h => exact ⟨xs, rfl, h⟩
theorem At.mono {P P' : Prop} (h : At P) (k : P → P') : At P' := ⟨k h.h⟩
theorem fL.mono {α : Type} : ∀ {xs : List α} {Q Q' : List α → Prop}, fL xs Q → (∀ g, Q g → Q' g) → fL xs Q'
  | [], _, _, h, k => k _ h
  | x :: xs, Q, Q', h, k => fL.mono (xs := xs) h fun g h => k (x :: g) h
theorem wO.mono {α : Type} {o : Option α} {Q Q' : α → Prop} (h : wO o Q) (k : ∀ g, Q g → Q' g) : wO o Q' := by
  cases o with
  | none => exact h
  | some g => exact k g h
theorem wT.mono {b : Bool} {T F T' F' : Prop} (h : wT b T F) (k1 : T → T') (k2 : F → F') : wT b T' F' := by
  cases b with
  | true => exact k1 h
  | false => exact k2 h
theorem wB.mono {d : Dt} {T F T' F' : Prop} (h : wB d T F) (k1 : T → T') (k2 : F → F') : wB d T' F' := by
  cases d with
  | bl b => exact wT.mono (b := b) h k1 k2
  | _ => exact h
theorem wI.mono {d : Dt} {Q Q' : Int → Prop} (h : wI d Q) (k : ∀ g, Q g → Q' g) : wI d Q' := by
  cases d with
  | int i => exact k i h
  | _ => exact h
theorem wC.mono {p : Bool} {Q Q' : Prop} (h : wC p Q) (k : Q → Q') : wC p Q' := by
  cases p with
  | true => exact k h
  | false => exact h
theorem wOwn.mono {o : Option (Option Wt)} {Q Q' : List Dt → Prop} (h : wOwn o Q) (k : ∀ g, Q g → Q' g) : wOwn o Q' := by
  obtain ⟨xs, rfl, h⟩ := h.ex
  exact k xs h
theorem EvE.imp {f : FE} {ρ : Rho} {Q Q' : Dt → Rho → Prop} (h : EvE f ρ Q) (k : ∀ d ρ1, Q d ρ1 → Q' d ρ1) : EvE f ρ Q' := by
  obtain ⟨d, ρ1, e, q⟩ := h
  exact ⟨d, ρ1, e, k d ρ1 q⟩
theorem EvW.imp {f : FW} {ρ : Rho} {Q Q' : Wt → Rho → Prop} (h : EvW f ρ Q) (k : ∀ d ρ1, Q d ρ1 → Q' d ρ1) : EvW f ρ Q' := by
  obtain ⟨d, ρ1, e, q⟩ := h
  exact ⟨d, ρ1, e, k d ρ1 q⟩
theorem EvA.imp {f : FA} {ρ : Rho} {Q Q' : List Av → Rho → Prop} (h : EvA f ρ Q) (k : ∀ d ρ1, Q d ρ1 → Q' d ρ1) : EvA f ρ Q' := by
  obtain ⟨d, ρ1, e, q⟩ := h
  exact ⟨d, ρ1, e, k d ρ1 q⟩
theorem EvI.imp {f : FI} {ρ : Rho} {Q Q' : List Dt → Rho → Prop} (h : EvI f ρ Q) (k : ∀ d ρ1, Q d ρ1 → Q' d ρ1) : EvI f ρ Q' := by
  obtain ⟨d, ρ1, e, q⟩ := h
  exact ⟨d, ρ1, e, k d ρ1 q⟩
theorem EvF.imp {f : FnD} {ws : List Aw} {Q Q' : Wt → List Wt → Prop} (h : EvF f ws Q) (k : ∀ d cs, Q d cs → Q' d cs) : EvF f ws Q' := by
  obtain ⟨d, ρ1, e, q⟩ := h
  exact ⟨d, ρ1, e, k d ρ1 q⟩
theorem EvS.imp {f : FS} {ρ : Rho} {N N' : Rho → Prop} {R R' : Wt → Rho → Prop} (h : EvS f ρ N R) (k : ∀ ρ1, N ρ1 → N' ρ1) (k2 : ∀ w ρ1, R w ρ1 → R' w ρ1) : EvS f ρ N' R' := by
  rcases h with ⟨ρ1, e, q⟩ | ⟨w, ρ1, e, q⟩
  · exact .inl ⟨ρ1, e, k ρ1 q⟩
  · exact .inr ⟨w, ρ1, e, k2 w ρ1 q⟩
theorem EvB.imp {d : Dt} {T F T' F' : Prop} (h : EvB d T F) (k : T → T') (k2 : F → F') : EvB d T' F' := by
  obtain ⟨b, rfl, h1, h2⟩ := h.ex
  exact evB (fun e => k (h1 e)) fun e => k2 (h2 e)
class WpE (f : FE) where
  wp : Rho → (Dt → Rho → Prop) → Prop
  ok : ∀ {ρ : Rho} {Q : Dt → Rho → Prop}, wp ρ Q → EvE f ρ Q
  mono : ∀ {ρ : Rho} {Q Q' : Dt → Rho → Prop}, wp ρ Q → (∀ d ρ1, Q d ρ1 → Q' d ρ1) → wp ρ Q'
class WpW (f : FW) where
  wp : Rho → (Wt → Rho → Prop) → Prop
  ok : ∀ {ρ : Rho} {Q : Wt → Rho → Prop}, wp ρ Q → EvW f ρ Q
  mono : ∀ {ρ : Rho} {Q Q' : Wt → Rho → Prop}, wp ρ Q → (∀ d ρ1, Q d ρ1 → Q' d ρ1) → wp ρ Q'
class WpA (f : FA) where
  wp : Rho → (List Av → Rho → Prop) → Prop
  ok : ∀ {ρ : Rho} {Q : List Av → Rho → Prop}, wp ρ Q → EvA f ρ Q
  mono : ∀ {ρ : Rho} {Q Q' : List Av → Rho → Prop}, wp ρ Q → (∀ d ρ1, Q d ρ1 → Q' d ρ1) → wp ρ Q'
class WpI (f : FI) where
  wp : Rho → (List Dt → Rho → Prop) → Prop
  ok : ∀ {ρ : Rho} {Q : List Dt → Rho → Prop}, wp ρ Q → EvI f ρ Q
  mono : ∀ {ρ : Rho} {Q Q' : List Dt → Rho → Prop}, wp ρ Q → (∀ d ρ1, Q d ρ1 → Q' d ρ1) → wp ρ Q'
class WpS (f : FS) where
  wp : Rho → (Rho → Prop) → (Wt → Rho → Prop) → Prop
  ok : ∀ {ρ : Rho} {N : Rho → Prop} {R : Wt → Rho → Prop}, wp ρ N R → EvS f ρ N R
  mono : ∀ {ρ : Rho} {N N' : Rho → Prop} {R R' : Wt → Rho → Prop}, wp ρ N R → (∀ ρ1, N ρ1 → N' ρ1) → (∀ w ρ1, R w ρ1 → R' w ρ1) → wp ρ N' R'
section
variable {f fa fb fc : FE} {r : FA} {w wa wb : FW} {fi : FI} {a b : FS}
instance p_c {d : Dt} : WpE (eC d) := ⟨fun ρ Q => Q d ρ, ev_c, fun h k => k _ _ h⟩
def varE (i : Nat) (ρ : Rho) (Q : Dt → Rho → Prop) : Prop := match ρ[i]? with
  | some (some (.sh d)) => Q d ρ
  | some (some (.own xs)) => fL (ρ.set i (some (.sh (.lst xs)))) fun ρ1 => Q (.lst xs) ρ1
  | some (some (.tr t)) => fL (ρ.set i (some (.sh t.dt))) fun ρ1 => Q t.dt ρ1
  | _ => False
theorem varE_mono {i : Nat} {ρ : Rho} {Q Q' : Dt → Rho → Prop} (h : varE i ρ Q) (k : ∀ d ρ1, Q d ρ1 → Q' d ρ1) : varE i ρ Q' := by
  unfold varE at h ⊢
  split at h
  · exact k _ _ h
  · exact h.mono fun _ h => k _ _ h
  · exact h.mono fun _ h => k _ _ h
  · exact h.elim
instance p_var {i : Nat} : WpE (eVar i) := ⟨varE i, fun {ρ Q} h => by
  unfold varE at h
  split at h
  · rename_i d e; exact ev_var e h
  · rename_i xs e; exact ev_varO e (fL_ok _ _ h)
  · rename_i xs e; exact ⟨_, _, by unfold eVar; rw [e], fL_ok _ _ h⟩
  · exact h.elim, fun h k => varE_mono h k⟩
def varW (i : Nat) (ρ : Rho) (Q : Wt → Rho → Prop) : Prop := match ρ[i]? with
  | some (some (.sh d)) => Q (.sh d) ρ
  | some (some (.own xs)) => fL (ρ.set i none) fun ρ1 => Q (.own xs) ρ1
  | some (some (.tr t)) => fL (ρ.set i none) fun ρ1 => Q (.tr t) ρ1
  | _ => False
theorem varW_mono {i : Nat} {ρ : Rho} {Q Q' : Wt → Rho → Prop} (h : varW i ρ Q) (k : ∀ d ρ1, Q d ρ1 → Q' d ρ1) : varW i ρ Q' := by
  unfold varW at h ⊢
  split at h
  · exact k _ _ h
  · exact h.mono fun _ h => k _ _ h
  · exact h.mono fun _ h => k _ _ h
  · exact h.elim
instance p_varW {i : Nat} : WpW (wVar i) := ⟨varW i, fun {ρ Q} h => by
  unfold varW at h
  split at h
  · rename_i d e; exact ew_var e h
  · rename_i xs e; exact ew_varO e (fL_ok _ _ h)
  · rename_i xs e; exact ⟨_, _, by unfold wVar; rw [e], fL_ok _ _ h⟩
  · exact h.elim, fun h k => varW_mono h k⟩
instance p_op {o : Dt → Dt → Option Dt} [WpE fa] [WpE fb] : WpE (eOp o fa fb) :=
  ⟨fun ρ Q => WpE.wp fa ρ fun d ρ1 => WpE.wp fb ρ1 fun e ρ2 => wO (o d e) fun g => Q g ρ2, fun h => ev_op ((WpE.ok h).imp fun _ _ h => (WpE.ok h).imp fun _ _ h => h.ex), fun h k => WpE.mono h fun _ _ h => WpE.mono h fun _ _ h => h.mono fun _ h => k _ _ h⟩
instance p_un {o : Dt → Option Dt} [WpE fa] : WpE (eUn o fa) :=
  ⟨fun ρ Q => WpE.wp fa ρ fun d ρ1 => wO (o d) fun g => Q g ρ1, fun h => ev_un ((WpE.ok h).imp fun _ _ h => h.ex), fun h k => WpE.mono h fun _ _ h => h.mono fun _ h => k _ _ h⟩
instance p_not [WpE fa] : WpE (eNot fa) :=
  ⟨fun ρ Q => WpE.wp fa ρ fun d ρ1 => wO (dNot d) fun g => Q g ρ1, fun h => ev_un ((WpE.ok h).imp fun _ _ h => h.ex), fun h k => WpE.mono h fun _ _ h => h.mono fun _ h => k _ _ h⟩
instance p_and [WpE fa] [WpE fb] : WpE (eAnd fa fb) :=
  ⟨fun ρ Q => WpE.wp fa ρ fun d ρ1 => wB d (WpE.wp fb ρ1 Q) (Q (.bl false) ρ1), fun h => ev_and ((WpE.ok h).imp fun _ _ h => h.evb.imp (fun h => WpE.ok h) id), fun h k => WpE.mono h fun _ _ h => h.mono (fun h => WpE.mono h k) (k _ _)⟩
instance p_or [WpE fa] [WpE fb] : WpE (eOr fa fb) :=
  ⟨fun ρ Q => WpE.wp fa ρ fun d ρ1 => wB d (Q (.bl true) ρ1) (WpE.wp fb ρ1 Q), fun h => ev_or ((WpE.ok h).imp fun _ _ h => h.evb.imp id fun h => WpE.ok h), fun h k => WpE.mono h fun _ _ h => h.mono (k _ _) fun h => WpE.mono h k⟩
instance p_ite [WpE fa] [WpE fb] [WpE fc] : WpE (eIte fc fa fb) :=
  ⟨fun ρ Q => WpE.wp fc ρ fun d ρ1 => wB d (WpE.wp fa ρ1 Q) (WpE.wp fb ρ1 Q), fun h => ev_ite ((WpE.ok h).imp fun _ _ h => h.evb.imp (fun h => WpE.ok h) fun h => WpE.ok h), fun h k => WpE.mono h fun _ _ h => h.mono (fun h => WpE.mono h k) fun h => WpE.mono h k⟩
instance p_chain {o o' : Dt → Dt → Option Dt} [WpE fa] [WpE fb] [WpE fc] : WpE (eChain o o' fa fb fc) :=
  ⟨fun ρ Q => WpE.wp fa ρ fun d ρ1 => WpE.wp fb ρ1 fun e ρ2 => wO (o d e) fun g => wB g (WpE.wp fc ρ2 fun f ρ3 => wO (o' e f) fun g => Q g ρ3) (Q (.bl false) ρ2),
    fun h => ev_chain ((WpE.ok h).imp fun _ _ h => (WpE.ok h).imp fun _ _ h => by
      obtain ⟨g, e, h⟩ := h.ex
      obtain ⟨b, rfl, h1, h2⟩ := h.evb.ex
      exact ⟨b, e, fun z => (WpE.ok (h1 z)).imp fun _ _ h => h.ex, h2⟩), fun h k => WpE.mono h fun _ _ h => WpE.mono h fun _ _ h => h.mono fun _ h => h.mono (fun h => WpE.mono h fun _ _ h => h.mono fun _ h => k _ _ h) (k _ _)⟩
def frzQ (x : Wt) (Q : Dt → Prop) : Prop := match x with
  | .own xs => Q (.lst xs)
  | .tr t => Q t.dt
  | .sh d => Q d
instance p_frz [WpW w] : WpE (eFrz w) := ⟨fun ρ Q => WpW.wp w ρ fun x ρ1 => frzQ x fun d => Q d ρ1, fun h => ev_frz ((WpW.ok h).imp fun x _ h => by cases x <;> exact h), fun h k => WpW.mono h fun x _ h => by cases x <;> exact k _ _ h⟩
instance p_nil : WpA aNil := ⟨fun ρ Q => Q [] ρ, ea_nil, fun h k => k _ _ h⟩
instance p_val [WpE f] [WpA r] : WpA (aVal f r) :=
  ⟨fun ρ Q => WpE.wp f ρ fun d ρ1 => WpA.wp r ρ1 fun as ρ2 => Q (.val d :: as) ρ2, fun h => ea_val ((WpE.ok h).imp fun _ _ h => WpA.ok h), fun h k => WpE.mono h fun _ _ h => WpA.mono h fun _ _ h => k _ _ h⟩
def wSl (o : Option (Option Wt)) (Q : Prop) : Prop := match o with
  | some (some (.own _)) => Q
  | some (some (.tr _)) => Q
  | _ => False
theorem wSl.ex {o : Option (Option Wt)} {Q : Prop} (h : wSl o Q) : ((∃ xs, o = some (some (.own xs))) ∨ ∃ t, o = some (some (.tr t))) ∧ Q := by
  match o, h with
  | some (some (.own xs)), h => exact ⟨.inl ⟨xs, rfl⟩, h⟩
  | some (some (.tr xs)), h => exact ⟨.inr ⟨xs, rfl⟩, h⟩
theorem wSl.mono {o : Option (Option Wt)} {Q Q' : Prop} (h : wSl o Q) (k : Q → Q') : wSl o Q' := by
  match o, h with
  | some (some (.own xs)), h => exact k h
  | some (some (.tr xs)), h => exact k h
instance p_slot {j : Nat} [WpA r] : WpA (aSlot j r) :=
  ⟨fun ρ Q => wSl ρ[j]? (WpA.wp r ρ fun as ρ2 => Q (.slot j :: as) ρ2), fun h => by
    obtain ⟨e, h⟩ := h.ex
    rcases e with ⟨xs, e⟩ | ⟨t, e⟩
    · exact ea_slot e (WpA.ok h)
    · exact ea_slotT e (WpA.ok h), fun h k => h.mono fun h => WpA.mono h fun _ _ h => k _ _ h⟩
def tmpA (x : Wt) (Q : List Av → Prop) : Prop := match x with
  | .own xs => Q [.tmp (.own xs)]
  | .tr t => Q [.tmp (.tr t)]
  | .sh d => Q [.val d]
instance p_tmp [WpW w] : WpA (aTmp w) :=
  ⟨fun ρ Q => WpW.wp w ρ fun x ρ1 => tmpA x fun as => Q as ρ1, fun h => ea_tmp ((WpW.ok h).imp fun x _ h => by cases x <;> exact h), fun h k => WpW.mono h fun x _ h => by cases x <;> exact k _ _ h⟩
instance p_tup [WpA r] : WpE (eTup r) :=
  ⟨fun ρ Q => WpA.wp r ρ fun as ρ1 => wO (vals as) fun ds => wC (Nat.ble ds.length 100000) (fL ds fun es => Q (.tup es) ρ1), fun h => ev_tup ((WpA.ok h).imp fun _ _ h => by
    obtain ⟨ds, e, h⟩ := h.ex
    obtain ⟨l, h⟩ := h.ex
    exact ⟨ds, e, Nat.le_of_ble_eq_true l, by have q := fL_ok ds _ h; exact q⟩), fun h k => WpA.mono h fun _ _ h => h.mono fun _ h => h.mono fun h => h.mono fun _ h => k _ _ h⟩
instance p_lst [WpA r] : WpW (wLst r) :=
  ⟨fun ρ Q => WpA.wp r ρ fun as ρ1 => wO (vals as) fun ds => wC (Nat.ble ds.length 100000) (fL ds fun es => Q (.own es) ρ1), fun h => ew_lst ((WpA.ok h).imp fun _ _ h => by
    obtain ⟨ds, e, h⟩ := h.ex
    obtain ⟨l, h⟩ := h.ex
    exact ⟨ds, e, Nat.le_of_ble_eq_true l, by have q := fL_ok ds _ h; exact q⟩), fun h k => WpA.mono h fun _ _ h => h.mono fun _ h => h.mono fun h => h.mono fun _ h => k _ _ h⟩
instance p_sh [WpE f] : WpW (wSh f) := ⟨fun ρ Q => WpE.wp f ρ fun d ρ1 => Q (.sh d) ρ1, fun h => ew_sh (WpE.ok h), fun h k => WpE.mono h fun _ _ h => k _ _ h⟩
instance p_iteW [WpE fc] [WpW wa] [WpW wb] : WpW (wIte fc wa wb) :=
  ⟨fun ρ Q => WpE.wp fc ρ fun d ρ1 => wB d (WpW.wp wa ρ1 Q) (WpW.wp wb ρ1 Q), fun h => ew_ite ((WpE.ok h).imp fun _ _ h => h.evb.imp (fun h => WpW.ok h) fun h => WpW.ok h), fun h k => WpE.mono h fun _ _ h => h.mono (fun h => WpW.mono h k) fun h => WpW.mono h k⟩
def nodB (xs : List Nat) : Bool := match xs with
  | [] => true
  | [_] => true
  | xs => decide xs.Nodup
theorem nodB_ok : ∀ {xs : List Nat}, nodB xs = true → xs.Nodup
  | [], _ => List.nodup_nil
  | [_], _ => nodup1
  | _ :: _ :: _, h => of_decide_eq_true h
/-- a call: here the walk halts -/
def callW (n : Nat) (g : FnD) (as : List Av) (ρ1 : Rho) (Q : Wt → Rho → Prop) : Prop :=
  wO (toWs ρ1 as) fun ws => wC (Nat.beq ws.length n) (wC (nodB (slotsOf as)) (fL ws fun ws => At (EvF g ws fun w cs => fL (putBack (slotsOf as) cs ρ1) fun ρ2 => Q w ρ2)))
theorem callW_ok {n : Nat} {g : FnD} {as : List Av} {ρ1 : Rho} {Q : Wt → Rho → Prop} (h : callW n g as ρ1 Q) : ∃ ws, toWs ρ1 as = some ws ∧ ws.length = n ∧ (slotsOf as).Nodup ∧ EvF g ws fun w cs => Nrm (putBack (slotsOf as) cs ρ1) fun ρ2 => Q w ρ2 := by
  obtain ⟨ws, e, h⟩ := wO.ex h
  obtain ⟨l, h⟩ := h.ex
  obtain ⟨m, h⟩ := h.ex
  have h := fL_ok ws _ h
  exact ⟨ws, e, Nat.eq_of_beq_eq_true l, nodB_ok m, h.h.imp fun _ _ h => fL_ok _ _ h⟩
theorem callW_mono {n : Nat} {g : FnD} {as : List Av} {ρ1 : Rho} {Q Q' : Wt → Rho → Prop} (h : callW n g as ρ1 Q) (k : ∀ d ρ1, Q d ρ1 → Q' d ρ1) : callW n g as ρ1 Q' :=
  wO.mono h fun _ h => h.mono fun h => h.mono fun h => h.mono fun _ h => h.mono fun h => h.imp fun _ _ h => h.mono fun _ h => k _ _ h
instance p_call {n : Nat} {g : FnD} [WpA r] : WpW (wCall n g r) :=
  ⟨fun ρ Q => WpA.wp r ρ fun as ρ1 => callW n g as ρ1 Q, fun h => ew_call ((WpA.ok h).imp fun _ _ h => callW_ok h), fun h k => WpA.mono h fun _ _ h => callW_mono h k⟩
def fnOf (o : Option (Option Wt)) (Q : Str → Prop) : Prop := match o with
  | some (some (.sh (.fn x))) => Q x
  | _ => False
theorem fnOf.ex {o : Option (Option Wt)} {Q : Str → Prop} (h : fnOf o Q) : ∃ x, o = some (some (.sh (.fn x))) ∧ Q x := by
  match o, h with
  | some (some (.sh (.fn x))), h => exact ⟨x, rfl, h⟩
theorem fnOf_mono {o : Option (Option Wt)} {Q Q' : Str → Prop} (h : fnOf o Q) (k : ∀ x, Q x → Q' x) : fnOf o Q' := by
  obtain ⟨x, rfl, h⟩ := h.ex
  exact k x h
instance p_callL {i n : Nat} {D : List (Str × FnD)} [WpA r] : WpW (wCallL i n D r) :=
  ⟨fun ρ Q => fnOf ρ[i]? fun x => wO (D.lookup x) fun g => WpA.wp r ρ fun as ρ1 => callW n g as ρ1 Q, fun h => by
    obtain ⟨x, e, h⟩ := h.ex
    obtain ⟨g, eg, h⟩ := h.ex
    exact ew_callL e eg (ew_call ((WpA.ok h).imp fun _ _ h => callW_ok h)), fun h k => fnOf_mono h fun _ h => h.mono fun _ h => WpA.mono h fun _ _ h => callW_mono h k⟩
instance p_cb {o : List Dt → Option Dt} [WpA r] : WpE (eCB o r) :=
  ⟨fun ρ Q => WpA.wp r ρ fun as ρ1 => wO (vals as) fun ds => fL ds fun ds => wO (o ds) fun g => Q g ρ1, fun h => ev_cb ((WpA.ok h).imp fun _ _ h => by
    obtain ⟨ds, e, h⟩ := h.ex
    obtain ⟨g, e2, h⟩ := wO.ex (fL_ok ds (fun ds => wO (o ds) _) h)
    exact ⟨ds, g, e, e2, h⟩), fun h k => WpA.mono h fun _ _ h => h.mono fun _ h => h.mono fun _ h => h.mono fun _ h => k _ _ h⟩
instance p_ixV {j : Nat} [WpE f] : WpE (eIxV j f) :=
  ⟨fun ρ Q => wO (slotD ρ[j]?) fun _ => WpE.wp f ρ fun k ρ1 => wO (slotD ρ1[j]?) fun d => wO (dIx d k) fun g => Q g ρ1, fun h => by
    obtain ⟨d0, e0, h⟩ := h.ex
    exact ev_ixV e0 ((WpE.ok h).imp fun _ _ h => by
      obtain ⟨d, e, h⟩ := h.ex
      obtain ⟨g, e2, h⟩ := h.ex
      exact ⟨d, g, e, e2, h⟩), fun h k => h.mono fun _ h => WpE.mono h fun _ _ h => h.mono fun _ h => h.mono fun _ h => k _ _ h⟩
instance p_pop {j : Nat} : WpE (ePop j) :=
  ⟨fun ρ Q => wOwn ρ[j]? fun xs => wO xs[xs.length - 1]? fun d => fL (ρ.set j (some (.own xs.dropLast))) fun ρ1 => Q d ρ1, fun h => by
    obtain ⟨xs, e, h⟩ := h.ex
    obtain ⟨d, e2, h⟩ := h.ex
    exact ev_pop e e2 (fL_ok _ _ h), fun h k => h.mono fun _ h => h.mono fun _ h => h.mono fun _ h => k _ _ h⟩
instance p_sl00 [WpE f] : WpE (eSl f none none) :=
  ⟨fun ρ Q => WpE.wp f ρ fun d ρ1 => wO (dSl d none none) fun g => Q g ρ1, fun h => ev_sl00 ((WpE.ok h).imp fun _ _ h => h.ex), fun h k => WpE.mono h fun _ _ h => h.mono fun _ h => k _ _ h⟩
instance p_sl10 [WpE f] [WpE fa] : WpE (eSl f (some fa) none) :=
  ⟨fun ρ Q => WpE.wp f ρ fun d ρ1 => WpE.wp fa ρ1 fun a ρ2 => wI a fun i => wO (dSl d (some i) none) fun g => Q g ρ2, fun h => ev_sl10 ((WpE.ok h).imp fun _ _ h => (WpE.ok h).imp fun _ _ h => by
    obtain ⟨i, ei, k⟩ := h.ex
    obtain ⟨g, e, h⟩ := k.ex
    exact ⟨i, g, ei, e, h⟩), fun h k => WpE.mono h fun _ _ h => WpE.mono h fun _ _ h => h.mono fun _ h => h.mono fun _ h => k _ _ h⟩
instance p_sl01 [WpE f] [WpE fa] : WpE (eSl f none (some fa)) :=
  ⟨fun ρ Q => WpE.wp f ρ fun d ρ1 => WpE.wp fa ρ1 fun a ρ2 => wI a fun i => wO (dSl d none (some i)) fun g => Q g ρ2, fun h => ev_sl01 ((WpE.ok h).imp fun _ _ h => (WpE.ok h).imp fun _ _ h => by
    obtain ⟨i, ei, k⟩ := h.ex
    obtain ⟨g, e, h⟩ := k.ex
    exact ⟨i, g, ei, e, h⟩), fun h k => WpE.mono h fun _ _ h => WpE.mono h fun _ _ h => h.mono fun _ h => h.mono fun _ h => k _ _ h⟩
instance p_sl11 [WpE f] [WpE fa] [WpE fb] : WpE (eSl f (some fa) (some fb)) :=
  ⟨fun ρ Q => WpE.wp f ρ fun d ρ1 => WpE.wp fa ρ1 fun a ρ2 => wI a fun i => WpE.wp fb ρ2 fun b ρ3 => wI b fun j => wO (dSl d (some i) (some j)) fun g => Q g ρ3,
    fun h => ev_sl11 ((WpE.ok h).imp fun _ _ h => (WpE.ok h).imp fun _ _ h => by
    obtain ⟨i, ei, k⟩ := h.ex
    exact ⟨i, ei, (WpE.ok k).imp fun _ _ h => by
      obtain ⟨j, ej, k⟩ := h.ex
      obtain ⟨g, e, h⟩ := k.ex
      exact ⟨j, g, ej, e, h⟩⟩), fun h k => WpE.mono h fun _ _ h => WpE.mono h fun _ _ h => h.mono fun _ h => WpE.mono h fun _ _ h => h.mono fun _ h => h.mono fun _ h => k _ _ h⟩
instance p_opL {o : Dt → Dt → Option Dt} {j : Nat} [WpE fb] : WpE (eOpL o j fb) :=
  ⟨fun ρ Q => wO (slotD ρ[j]?) fun _ => WpE.wp fb ρ fun e ρ1 => wO (slotD ρ1[j]?) fun d => wO (o d e) fun g => wC (flatD g) (Q g ρ1), fun h => by
    obtain ⟨d0, e0, h⟩ := h.ex
    exact ev_opL e0 ((WpE.ok h).imp fun _ _ h => by
      obtain ⟨d, e, h⟩ := h.ex
      obtain ⟨g, e2, h⟩ := h.ex
      exact ⟨d, g, e, e2, h.ex⟩), fun h k => h.mono fun _ h => WpE.mono h fun _ _ h => h.mono fun _ h => h.mono fun _ h => h.mono fun h => k _ _ h⟩
instance p_opR {o : Dt → Dt → Option Dt} {j : Nat} [WpE fa] : WpE (eOpR o fa j) :=
  ⟨fun ρ Q => WpE.wp fa ρ fun d ρ1 => wO (slotD ρ1[j]?) fun e => wO (o d e) fun g => wC (flatD g) (Q g ρ1), fun h => ev_opR ((WpE.ok h).imp fun _ _ h => by
      obtain ⟨d, e, h⟩ := h.ex
      obtain ⟨g, e2, h⟩ := h.ex
      exact ⟨d, g, e, e2, h.ex⟩), fun h k => WpE.mono h fun _ _ h => h.mono fun _ h => h.mono fun _ h => h.mono fun h => k _ _ h⟩
instance p_cbV {o : List Dt → Option Dt} {j : Nat} : WpE (eCBV o j) :=
  ⟨fun ρ Q => wO (slotD ρ[j]?) fun d => wO (o [d]) fun g => wC (flatD g) (Q g ρ), fun h => by
      obtain ⟨d, e, h⟩ := h.ex
      obtain ⟨g, e2, h⟩ := h.ex
      obtain ⟨e3, h⟩ := h.ex
      exact ev_cbV e e2 e3 h, fun h k => h.mono fun _ h => h.mono fun _ h => h.mono fun h => k _ _ h⟩
def twoL (d e : Dt) (Q : List Dt → List Dt → Prop) : Prop := match d, e with
  | .lst xs, .lst ys => Q xs ys
  | _, _ => False
theorem twoL.ex {d e : Dt} {Q : List Dt → List Dt → Prop} (h : twoL d e Q) : ∃ xs ys, d = .lst xs ∧ e = .lst ys ∧ Q xs ys := by
  unfold twoL at h
  split at h
  · exact ⟨_, _, rfl, rfl, h⟩
  · exact h.elim
theorem twoL_mono {d e : Dt} {Q Q' : List Dt → List Dt → Prop} (h : twoL d e Q) (k : ∀ x y, Q x y → Q' x y) : twoL d e Q' := by
  obtain ⟨x, y, rfl, rfl, h⟩ := h.ex
  exact k x y h
instance p_cat [WpE fa] [WpE fb] : WpW (wCat fa fb) :=
  ⟨fun ρ Q => WpE.wp fa ρ fun d ρ1 => WpE.wp fb ρ1 fun e ρ2 => twoL d e fun xs ys => xs.length + ys.length ≤ 100000 ∧ Q (.own (xs ++ ys)) ρ2, fun h => ew_cat ((WpE.ok h).imp fun _ _ h => (WpE.ok h).imp fun _ _ h => h.ex), fun h k => WpE.mono h fun _ _ h => WpE.mono h fun _ _ h => twoL_mono h fun _ _ h => ⟨h.1, k _ _ h.2⟩⟩
instance p_arr {n m : Nat} {dd : List Dt} {ar : List (Nat ⊕ Nat)} {r k : FA} [WpA r] [WpA k] : WpA (aArr n m dd ar r k) :=
  ⟨fun ρ Q => WpA.wp r ρ fun as ρ1 => wC (noTmp as && Nat.beq as.length n) (WpA.wp k ρ1 fun bs ρ2 => wC (noTmp (as ++ bs) && Nat.beq bs.length m) (fL (arrL (dd.map Av.val) ar (as ++ bs)) fun cs => Q cs ρ2)), fun h => ea_arr ((WpA.ok h).imp fun _ _ h => by
    obtain ⟨p, h⟩ := h.ex
    obtain ⟨p1, p2⟩ := Bool.and_eq_true_iff.mp p
    exact ⟨p1, Nat.eq_of_beq_eq_true p2, (WpA.ok h).imp fun _ _ h => by
      obtain ⟨p, h⟩ := h.ex
      obtain ⟨p1, p2⟩ := Bool.and_eq_true_iff.mp p
      exact ⟨p1, Nat.eq_of_beq_eq_true p2, _, rfl, by have q := fL_ok _ _ h; exact q⟩⟩), fun h k => WpA.mono h fun _ _ h => h.mono fun h => WpA.mono h fun _ _ h => h.mono fun h => h.mono fun _ h => k _ _ h⟩
instance p_lc {vs : List Nat} {g : GD} {ft fe : FE} [WpI fi] : WpW (wLc vs fi g ft fe) :=
  ⟨fun ρ Q => WpI.wp fi ρ fun ds ρ1 => fL (wipeR ρ1 vs) fun ρ0 => At (EvL vs g ft fe ds ρ0 [] fun xs ρ2 => fL (restR ρ1 ρ2 vs) fun ρ3 => Q (.own xs) ρ3), fun h => ew_lc ((WpI.ok h).imp fun _ ρ1 h => (fL_ok _ _ h).h.imp fun _ _ h => fL_ok _ _ h), fun h k => WpI.mono h fun _ _ h => h.mono fun _ h => h.mono fun h => h.imp fun _ _ h => h.mono fun _ h => k _ _ h⟩
instance p_seqI [WpE f] : WpI (iSeq f) := ⟨fun ρ Q => WpE.wp f ρ fun d ρ1 => wO (iterD d) fun ds => Q ds ρ1, fun h => ei_seq ((WpE.ok h).imp fun _ _ h => h.ex), fun h k => WpE.mono h fun _ _ h => h.mono fun _ h => k _ _ h⟩
instance p_argsI {o : List Dt → Option (List Dt)} [WpA r] : WpI (iArgs o r) :=
  ⟨fun ρ Q => WpA.wp r ρ fun as ρ1 => wO (vals as) fun ds => fL ds fun ds => wO (o ds) fun es => Q es ρ1, fun h => ei_args ((WpA.ok h).imp fun _ _ h => by
    obtain ⟨ds, e, h⟩ := h.ex
    obtain ⟨g, e2, h⟩ := wO.ex (fL_ok ds (fun ds => wO (o ds) _) h)
    exact ⟨ds, g, e, e2, h⟩), fun h k => WpA.mono h fun _ _ h => h.mono fun _ h => h.mono fun _ h => h.mono fun _ h => k _ _ h⟩
instance p_nx : WpS sNx := ⟨fun ρ N _ => N ρ, es_nx, fun h k k2 => k _ h⟩
instance p_seq [WpS a] [WpS b] : WpS (sSeq a b) := ⟨fun ρ N R => WpS.wp a ρ (fun ρ1 => WpS.wp b ρ1 N R) R, fun h => es_seq ((WpS.ok h).imp (fun _ h => WpS.ok h) fun _ _ h => h), fun h k k2 => WpS.mono h (fun _ h => WpS.mono h k k2) k2⟩
instance p_if [WpE fc] [WpS a] [WpS b] : WpS (sIf fc a b) :=
  ⟨fun ρ N R => WpE.wp fc ρ fun d ρ1 => wB d (WpS.wp a ρ1 N R) (WpS.wp b ρ1 N R), fun h => es_if ((WpE.ok h).imp fun _ _ h => h.evb.imp (fun h => WpS.ok h) fun h => WpS.ok h), fun h k k2 => WpE.mono h fun _ _ h => h.mono (fun h => WpS.mono h k k2) fun h => WpS.mono h k k2⟩
instance p_asg {i : Nat} [WpW w] : WpS (sAsg i w) := ⟨fun ρ N _ => WpW.wp w ρ fun x ρ1 => fL (ρ1.set i (some x)) N, fun h => es_asg ((WpW.ok h).imp fun _ _ h => fL_ok _ _ h), fun h k k2 => WpW.mono h fun _ _ h => h.mono k⟩
instance p_ret [WpW w] : WpS (sRet w) := ⟨fun ρ _ R => WpW.wp w ρ R, fun h => es_ret (WpW.ok h), fun h k k2 => WpW.mono h k2⟩
instance p_retN : WpS sRetN := ⟨fun ρ _ R => R (.sh .non) ρ, es_retN, fun h k k2 => k2 _ _ h⟩
instance p_drop [WpW w] : WpS (sDrop w) := ⟨fun ρ N _ => WpW.wp w ρ fun _ ρ1 => N ρ1, fun h => es_drop (WpW.ok h), fun h k k2 => WpW.mono h fun _ _ h => k _ h⟩
instance p_app {j : Nat} [WpE f] : WpS (sApp j f) :=
  ⟨fun ρ N _ => wOwn ρ[j]? fun _ => WpE.wp f ρ fun d ρ1 => wOwn ρ1[j]? fun ys => ys.length < 100000 ∧ fL (ρ1.set j (some (.own (ys ++ [d])))) N, fun h => by
    obtain ⟨xs, e, h⟩ := h.ex
    exact es_app e ((WpE.ok h).imp fun _ _ h => by
      obtain ⟨ys, e, l, h⟩ := h.ex
      exact ⟨ys, e, l, fL_ok _ _ h⟩), fun h k k2 => h.mono fun _ h => WpE.mono h fun _ _ h => h.mono fun _ h => ⟨h.1, h.2.mono k⟩⟩
def lstOf (d : Dt) (Q : List Dt → Prop) : Prop := match d with
  | .lst xs => Q xs
  | _ => False
theorem lstOf.ex {d : Dt} {Q : List Dt → Prop} (h : lstOf d Q) : ∃ xs, d = .lst xs ∧ Q xs := by
  cases d with
  | lst xs => exact ⟨xs, rfl, h⟩
  | _ => exact h.elim
theorem lstOf_mono {d : Dt} {Q Q' : List Dt → Prop} (h : lstOf d Q) (k : ∀ x, Q x → Q' x) : lstOf d Q' := by
  obtain ⟨x, rfl, h⟩ := h.ex
  exact k x h
instance p_ext {j : Nat} [WpE f] : WpS (sExt j f) :=
  ⟨fun ρ N _ => wOwn ρ[j]? fun _ => WpE.wp f ρ fun d ρ1 => lstOf d fun zs => wOwn ρ1[j]? fun ys => ys.length + zs.length ≤ 100000 ∧ fL (ρ1.set j (some (.own (ys ++ zs)))) N, fun h => by
    obtain ⟨xs, e, h⟩ := h.ex
    exact es_ext e ((WpE.ok h).imp fun _ _ h => by
      obtain ⟨zs, ez, k⟩ := h.ex
      obtain ⟨ys, e, l, h⟩ := k.ex
      exact ⟨ys, zs, ez, e, l, fL_ok _ _ h⟩), fun h k k2 => h.mono fun _ h => WpE.mono h fun _ _ h => lstOf_mono h fun _ h => h.mono fun _ h => ⟨h.1, h.2.mono k⟩⟩
instance p_put {j : Nat} {fk : FE} [WpE f] [WpE fk] : WpS (sPut j fk f) :=
  ⟨fun ρ N _ => WpE.wp f ρ fun d ρ1 => wOwn ρ1[j]? fun _ => WpE.wp fk ρ1 fun k ρ2 => wI k fun i => wOwn ρ2[j]? fun ys => wO (ixN ys.length i) fun n => fL (ρ2.set j (some (.own (ys.set n d)))) N, fun h => es_put ((WpE.ok h).imp fun _ _ h => by
    obtain ⟨xs, e, h⟩ := h.ex
    exact ⟨xs, e, (WpE.ok h).imp fun _ _ h => by
      obtain ⟨i, ei, k⟩ := h.ex
      obtain ⟨ys, e, h⟩ := k.ex
      obtain ⟨n, e2, h⟩ := h.ex
      exact ⟨i, ys, n, ei, e, e2, fL_ok _ _ h⟩⟩), fun h k k2 => WpE.mono h fun _ _ h => h.mono fun _ h => WpE.mono h fun _ _ h => h.mono fun _ h => h.mono fun _ h => h.mono fun _ h => h.mono k⟩
def twoA (as : List Av) (Q : Dt → Dt → Prop) : Prop := match as with
  | [.val d, .val e] => Q d e
  | _ => False
theorem twoA.ex {as : List Av} {Q : Dt → Dt → Prop} (h : twoA as Q) : ∃ d e, as = [.val d, .val e] ∧ Q d e := by
  unfold twoA at h
  split at h
  · exact ⟨_, _, rfl, h⟩
  · exact h.elim
theorem twoA_mono {as : List Av} {Q Q' : Dt → Dt → Prop} (h : twoA as Q) (k : ∀ x y, Q x y → Q' x y) : twoA as Q' := by
  obtain ⟨x, y, rfl, h⟩ := h.ex
  exact k x y h
instance p_par {i j : Nat} [WpA r] : WpS (sPar i j r) :=
  ⟨fun ρ N _ => WpA.wp r ρ fun as ρ1 => twoA as fun d e => fL ((ρ1.set i (some (.sh d))).set j (some (.sh e))) N, fun h => es_par ((WpA.ok h).imp fun _ _ h => by
    obtain ⟨d, e, rfl, h⟩ := h.ex
    exact ⟨d, e, rfl, fL_ok _ _ h⟩), fun h k k2 => WpA.mono h fun _ _ h => twoA_mono h fun _ _ h => h.mono k⟩
instance p_asgT {g : GD} [WpE f] : WpS (sAsgT g f) :=
  ⟨fun ρ N _ => WpE.wp f ρ fun d ρ1 => wO (g d ρ1) fun ρ2 => fL ρ2 N, fun h => es_asgT ((WpE.ok h).imp fun _ _ h => by
    obtain ⟨ρ2, e, h⟩ := h.ex
    exact ⟨ρ2, e, fL_ok _ _ h⟩), fun h k k2 => WpE.mono h fun _ _ h => h.mono fun _ h => h.mono k⟩
instance p_for {g : GD} [WpI fi] : WpS (sFor fi g b) :=
  ⟨fun ρ N R => WpI.wp fi ρ fun ds ρ1 => At (EvS (forD g b ds) ρ1 N R), fun h => es_for ((WpI.ok h).imp fun _ _ h => h.h), fun h k k2 => WpI.mono h fun _ _ h => h.mono fun h => EvS.imp h k k2⟩
instance p_while {m : Rho → Nat} {c : FE} : WpS (sWhile m c b) := ⟨fun ρ N R => At (EvS (whileD c b (m ρ)) ρ N R), fun h => es_while h.h, fun h k k2 => At.mono h fun h => EvS.imp h k k2⟩
end
/-- a def's body, run from its arguments -/
theorem ef_go {n : Nat} {bs : List Nat} {fb : FS} [WpS fb] {ws : List Aw} {Q : Wt → List Wt → Prop} (hp : ownPos 0 ws = bs) (h : fL (startW ws ++ List.replicate (n - ws.length) none) fun ρ0 => WpS.wp fb ρ0 (fun ρ => wO (getOwns ρ bs) fun cs => Q (.sh .non) cs) (fun w ρ => wO (getOwns ρ bs) fun cs => Q w cs)) : EvF (callF n bs fb) ws Q :=
  ef_call hp ((WpS.ok (fL_ok _ _ h)).imp (fun _ h => h.ex) fun _ _ h => h.ex)
/-- the same in two steps, for a body that is to be written out between -/
theorem ef_in {n : Nat} {bs : List Nat} {fb : FS} {ws : List Aw} {Q : Wt → List Wt → Prop} (hp : ownPos 0 ws = bs) (h : Nrm (startW ws ++ List.replicate (n - ws.length) none) fun ρ0 => EvS fb ρ0 (fun ρ => wO (getOwns ρ bs) fun cs => Q (.sh .non) cs) (fun w ρ => wO (getOwns ρ bs) fun cs => Q w cs)) : EvF (callF n bs fb) ws Q :=
  ef_call hp (EvS.imp h (fun _ h => h.ex) fun _ _ h => h.ex)
theorem nrm_go {ρ : Rho} {f : FS} [WpS f] {N : Rho → Prop} {R : Wt → Rho → Prop} (h : fL ρ fun ρ0 => WpS.wp f ρ0 N R) : Nrm ρ fun ρ0 => EvS f ρ0 N R := WpS.ok (fL_ok _ _ h)
theorem wd {p : Prop} [Decidable p] {T F : Prop} (h1 : p → T) (h2 : ¬ p → F) : wT (decide p) T F := wt (fun e => h1 (of_decide_eq_true e)) fun e => h2 (of_decide_eq_false e)
theorem wtt {b : Bool} {T F : Prop} (e : b = true) (h : T) : wT b T F := by subst e; exact h
theorem wtf {b : Bool} {T F : Prop} (e : b = false) (h : F) : wT b T F := by subst e; exact h
theorem wox {α : Type} {o : Option α} {Q : α → Prop} (h : ∃ g, o = some g ∧ Q g) : wO o Q := by
  obtain ⟨g, e, h⟩ := h
  exact wo e h
theorem lc_go {vs : List Nat} {g : GD} {ft fe : FE} [WpE ft] [WpE fe] {d : Dt} {ds acc : List Dt} {ρ : Rho} {Q : List Dt → Rho → Prop} (h : wO (g d ρ) fun ρ1 => fL ρ1 fun ρ1 => WpE.wp ft ρ1 fun x ρ2 => wB x (WpE.wp fe ρ2 fun y ρ3 => acc.length < 100000 ∧ fL (wipeR ρ3 vs) fun ρ4 => At (EvL vs g ft fe ds ρ4 (acc ++ [y]) Q)) (fL (wipeR ρ2 vs) fun ρ4 => At (EvL vs g ft fe ds ρ4 acc Q))) :
    EvL vs g ft fe (d :: ds) ρ acc Q := by
  obtain ⟨ρ1, e, h⟩ := wO.ex h
  refine lc_cons e ((WpE.ok (fL_ok _ _ h)).imp fun x ρ2 h => h.evb.imp (fun h => (WpE.ok h).imp fun y ρ3 h => ⟨h.1, ?_⟩) fun h => ?_)
  · exact (fL_ok _ _ h.2).h
  · exact (fL_ok _ _ h).h
theorem for_go {g : GD} {b : FS} [WpS b] {d : Dt} {ds : List Dt} {ρ : Rho} {N : Rho → Prop} {R : Wt → Rho → Prop} (h : wO (g d ρ) fun ρ1 => fL ρ1 fun ρ1 => WpS.wp b ρ1 (fun ρ2 => At (EvS (forD g b ds) ρ2 N R)) R) : EvS (forD g b (d :: ds)) ρ N R := by
  obtain ⟨ρ1, e, h⟩ := wO.ex h
  exact es_forCons e ((WpS.ok (fL_ok _ _ h)).imp (fun _ h => h.h) fun _ _ h => h)
/-- one claim for both ways of an if -/
theorem cutS {b : Bool} {f g : FS} [WpS f] [WpS g] {ρ ρ' : Rho} {N : Rho → Prop} {R : Wt → Rho → Prop} (N' : Rho → Prop) (h : wT b (WpS.wp f ρ N' R) (WpS.wp g ρ' N' R)) (k : ∀ ρ1, N' ρ1 → N ρ1) : wT b (WpS.wp f ρ N R) (WpS.wp g ρ' N R) :=
  h.mono (fun h => WpS.mono h k fun _ _ h => h) fun h => WpS.mono h k fun _ _ h => h
theorem cutW {b : Bool} {f g : FW} [WpW f] [WpW g] {ρ ρ' : Rho} {Q : Wt → Rho → Prop} (Q' : Wt → Rho → Prop) (h : wT b (WpW.wp f ρ Q') (WpW.wp g ρ' Q')) (k : ∀ w ρ1, Q' w ρ1 → Q w ρ1) : wT b (WpW.wp f ρ Q) (WpW.wp g ρ' Q) :=
  h.mono (fun h => WpW.mono h k) fun h => WpW.mono h k
theorem cutE {b : Bool} {f g : FE} [WpE f] [WpE g] {ρ ρ' : Rho} {Q : Dt → Rho → Prop} (Q' : Dt → Rho → Prop) (h : wT b (WpE.wp f ρ Q') (WpE.wp g ρ' Q')) (k : ∀ w ρ1, Q' w ρ1 → Q w ρ1) : wT b (WpE.wp f ρ Q) (WpE.wp g ρ' Q) :=
  h.mono (fun h => WpE.mono h k) fun h => WpE.mono h k
/-- loops by an invariant, each round told by its wp -/
theorem for_inv {g : GD} {b : FS} [WpS b] {N : Rho → Prop} {R : Wt → Rho → Prop} (I : List Dt → Rho → Prop) (hs : ∀ d ds ρ, I (d :: ds) ρ → wO (g d ρ) fun ρ1 => fL ρ1 fun ρ1 => WpS.wp b ρ1 (fun ρ2 => I ds ρ2) R) (hd : ∀ ρ, I [] ρ → N ρ) (ds : List Dt) (ρ : Rho) (h : I ds ρ) : EvS (forD g b ds) ρ N R :=
  forD_ev I (fun d ds ρ h => by
    obtain ⟨ρ1, e, h⟩ := (hs d ds ρ h).ex
    exact ⟨ρ1, e, WpS.ok (fL_ok _ _ h)⟩) hd ds ρ h
theorem while_inv {c : FE} {b : FS} [WpE c] [WpS b] {N : Rho → Prop} {R : Wt → Rho → Prop} (I : Rho → Prop) (m : Rho → Nat) (hs : ∀ ρ, I ρ → WpE.wp c ρ fun d ρ1 => wB d (WpS.wp b ρ1 (fun ρ2 => I ρ2 ∧ m ρ2 < m ρ) R) (N ρ1)) (n : Nat) (ρ : Rho) (h : I ρ) (hn : m ρ < n) : EvS (whileD c b n) ρ N R :=
  whileD_ev I m (fun ρ h => (WpE.ok (hs ρ h)).imp fun _ _ h => h.evb.imp (fun h => WpS.ok h) id) n ρ h hn
theorem lc_inv {vs : List Nat} {g : GD} {ft fe : FE} [WpE ft] [WpE fe] (I : List Dt → Rho → List Dt → Prop) (hs : ∀ d ds ρ acc, I (d :: ds) ρ acc → wO (g d ρ) fun ρ1 => fL ρ1 fun ρ1 => WpE.wp ft ρ1 fun x ρ2 => wB x (WpE.wp fe ρ2 fun y ρ3 => acc.length < 100000 ∧ fL (wipeR ρ3 vs) fun ρ4 => I ds ρ4 (acc ++ [y])) (fL (wipeR ρ2 vs) fun ρ4 => I ds ρ4 acc)) {Q : List Dt → Rho → Prop} (hd : ∀ ρ acc, I [] ρ acc → Q acc ρ)
    (ds : List Dt) (ρ : Rho) (acc : List Dt) (h : I ds ρ acc) : EvL vs g ft fe ds ρ acc Q :=
  lcD_ev I (fun d ds ρ acc h => by
    obtain ⟨ρ1, e, h⟩ := (hs d ds ρ acc h).ex
    exact ⟨ρ1, e, (WpE.ok (fL_ok _ _ h)).imp fun x ρ2 h => h.evb.imp (fun h => (WpE.ok h).imp fun y ρ3 h => ⟨h.1, by have q := fL_ok _ _ h.2; exact q⟩) fun h => by have q := fL_ok _ _ h; exact q⟩) hd ds ρ acc h
theorem ef_at {g : FnD} {ws : List Aw} {w : Wt} {cs : List Wt} {Q : Wt → List Wt → Prop} (e : g ws = some (.ok w, cs)) (h : Q w cs) : At (EvF g ws Q) := ⟨w, cs, e, h⟩
theorem ef_run {g : FnD} {ws : List Aw} {Q' Q : Wt → List Wt → Prop} (e : EvF g ws Q') (h : ∀ w cs, Q' w cs → Q w cs) : At (EvF g ws Q) := ⟨e.imp h⟩
end DL
namespace Lw
open PySem PySem.Spec PyProof.Rows L2 RZ DL
local macro_rules | `(tactic| walk_at "sm") => `(tactic| first | assumption | exact sm_of (k := 200) (by omega) (by decide) | exact sm_of (k := 200) (by decide) (by decide))
local macro_rules | `(tactic| walk_at "w1") => `(tactic| ((conv => whnf); (try refine At.mk ?_)))
local macro_rules | `(tactic| walk_at "wa") => `(tactic| first
  | refine wox (ex_mul (Sm.mul (by walk_at "sm") (by walk_at "sm")) ?_)
  | refine wox (ex_mod (by first | decide | omega | assumption) ?_)
  | refine wox (ex_fdiv (Sm.div (by walk_at "sm") (by first | decide | omega | assumption)) ?_))
local macro_rules | `(tactic| walk_at "w") => `(tactic| ((first | refine nrm_go ?_ | refine WpS.ok ?_ | refine WpE.ok ?_ | skip); walk_at "w1"))
local macro_rules | `(tactic| walk_at "wm") => `(tactic| (walk_at "w"; (repeat (walk_at "wa"; walk_at "w1"))))
def b__law_box : FS :=
  (sRet (wLst (aVal (eCB dListOf (aVal (eSl (eVar 0) none (some (eC (.int 63)))) aNil)) (aVal (eC (.int 0)) (aVal (eC (.int 0)) (aVal (eOp dAdd (eC (.int 4019)) (eOp dMul (eC (.int 57)) (eCB dLen (aVal (eSl (eVar 0) none (some (eC (.int 63)))) aNil)))) aNil))))))
abbrev f__law_box : FnD := callF 1 [] b__law_box
def b__law_take : FS :=
  (sSeq (sIf (eAnd (eOp dEq (eIxV 0 (eC (.int 2))) (eC (.int 0))) (eOp dLt (eIxV 0 (eC (.int 1))) (eCB dLen (aVal (eIxV 0 (eC (.int 0))) aNil)))) (sSeq (sAsg 2 (wSh (eOp dIx (eIxV 0 (eC (.int 0))) (eIxV 0 (eC (.int 1))))))
    (sSeq (sPut 0 (eC (.int 1)) (eOp dAdd (eIxV 0 (eC (.int 1))) (eC (.int 1))))
    (sIf (eOp dGe (eVar 2) (eOp dPow (eC (.int 10)) (eC (.int 18)))) (sPut 0 (eC (.int 2)) (eVar 2)) (sSeq (sAsg 3 (wSh (eOp dAdd (eOp dMul (eIxV 0 (eC (.int 3))) (eC (.int 69069))) (eOp dMul (eIxV 0 (eC (.int 1))) (eC (.int 1299721))))))
    (sPut 0 (eC (.int 3)) (eOp dMod (eOp dAdd (eVar 3) (eOp dMul (eOp dMod (eVar 2) (eC (.int 2147483587))) (eC (.int 7)))) (eC (.int 2147482951)))))))) sNx)
    (sSeq (sIf (eOp dGt (eIxV 0 (eC (.int 2))) (eC (.int 0))) (sSeq (sAsg 4 (wSh (eOp dMod (eIxV 0 (eC (.int 2))) (eVar 1))))
    (sSeq (sPut 0 (eC (.int 2)) (eOp dFdiv (eIxV 0 (eC (.int 2))) (eVar 1)))
    (sRet (wVar 4)))) sNx)
    (sSeq (sAsg 3 (wSh (eOp dAdd (eOp dAdd (eOp dMul (eIxV 0 (eC (.int 3))) (eIxV 0 (eC (.int 3)))) (eOp dMul (eIxV 0 (eC (.int 3))) (eC (.int 30269)))) (eC (.int 7919)))))
    (sSeq (sPut 0 (eC (.int 3)) (eOp dMod (eOp dAdd (eVar 3) (eOp dMul (eIxV 0 (eC (.int 1))) (eC (.int 101)))) (eC (.int 2147482951))))
    (sRet (wSh (eOp dMod (eOp dAdd (eOp dFdiv (eIxV 0 (eC (.int 3))) (eC (.int 11))) (eOp dMul (eOp dMod (eIxV 0 (eC (.int 3))) (eC (.int 9973))) (eC (.int 53)))) (eVar 1))))))))
abbrev f__law_take : FnD := callF 5 [0] b__law_take
theorem take_ev {xs : List Dt} {m : Int} (hx : BoxOk xs) (h0 : 0 < m) (hs : Sm m) {Q : Wt → List Wt → Prop} (q : ∀ r ys, 0 ≤ r → r < m → BoxOk ys → Q (.sh (.int r)) [ys]) : EvF f__law_take [.own xs, .sh (.int m)] Q := by
  obtain ⟨ns, i, b, s, rfl, hl, hi, hi', hb, hs0, hs1⟩ := hx
  have hm : m ≠ 0 := by omega
  refine ef_in rfl ?_
  unfold b__law_take
  refine es_seq (EvS.cut (fun ρ1 => ∃ (i b s : Int) (c d e : Option Wt), ρ1 = [some (.own [.lst (ns.map .int), .int i, .int b, .int s]), some (.sh (.int m)), c, d, e] ∧ 0 ≤ i ∧ i ≤ ns.length ∧ 0 ≤ b ∧ 0 ≤ s ∧ s < 2147482951) ?_ ?_)
  · walk_at "wm"
    refine wd (fun e => ?_) (fun e => ?_)
    · walk_at "wm"
      refine wd (fun e2 => ?_) (fun e2 => ?_)
      · rw [List.length_map] at e2
        walk_at "wm"
        refine wox (ex_ixL hi (by rw [List.length_map]; exact e2) fun hh => ?_)
        rw [List.getElem_map]
        generalize ns[i.toNat]'(by simpa using hh) = c
        walk_at "wm"
        refine wd (fun e3 => ?_) (fun e3 => ?_)
        · have : (0 : Int) < c := Int.lt_of_lt_of_le (by decide) e3
          walk_at "wm"
          exact ⟨_, _, _, _, _, _, rfl, by omega, by omega, by omega, hs0, hs1⟩
        · have hc : 0 ≤ c.fmod 2147483587 ∧ c.fmod 2147483587 < 2147483587 := by
            rw [mod_pos (by decide)]
            exact ⟨Int.emod_nonneg _ (by decide), Int.emod_lt_of_pos _ (by decide)⟩
          walk_at "wm"
          refine ⟨_, _, _, _, _, _, rfl, by omega, by omega, hb, ?_, ?_⟩
          · rw [mod_pos (by decide)]; exact Int.emod_nonneg _ (by decide)
          · rw [mod_pos (by decide)]; exact Int.emod_lt_of_pos _ (by decide)
      · walk_at "wm"
        exact ⟨_, _, _, _, _, _, rfl, hi, hi', hb, hs0, hs1⟩
    · walk_at "wm"
      exact ⟨_, _, _, _, _, _, rfl, hi, hi', hb, hs0, hs1⟩
  · rintro ρ1 ⟨i, b, s, c, d, e, rfl, hi, hi', hb, hs0, hs1⟩
    walk_at "wm"
    refine wd (fun e => ?_) (fun e => ?_)
    · walk_at "wm"
      walk_at "wm"
      refine q _ _ ?_ ?_ ⟨ns, _, _, _, rfl, hl, hi, hi', ?_, hs0, hs1⟩
      · rw [mod_pos h0]; exact Int.emod_nonneg _ hm
      · rw [mod_pos h0]; exact Int.emod_lt_of_pos _ h0
      · rw [div_pos h0]; exact Int.ediv_nonneg hb (by omega)
    · walk_at "wm"
      refine wox (ex_mul (Sm.mul (sm_of (k := 40) ?_ (by decide)) (sm_of (k := 40) (by decide) (by decide))) ?_)
      · have := mod_bd (a := (s * s + s * 30269 + 7919 + i * 101).fmod 2147482951) (b := 9973) (by decide)
        omega
      · walk_at "wm"
        refine q _ _ (mod_bd h0).1 (mod_bd h0).2 ⟨ns, _, _, _, rfl, hl, hi, hi', hb, (mod_bd (by decide)).1, (mod_bd (by decide)).2⟩
theorem box_ev {ns : List Int} (hl : ns.length ≤ 63) {Q : Wt → List Wt → Prop} (q : ∀ ys, BoxOk ys → Q (.own ys) []) : EvF f__law_box [.sh (.scr ns)] Q := by
  refine ef_in rfl ?_
  unfold b__law_box
  have e : DL.cutD ns none (some 63) = ns := by
    unfold DL.cutD
    rw [show HT.sIx ns.length 0 none = 0 from rfl, show HT.sIx ns.length ns.length (some 63) = min 63 ns.length from HT.sIx_nat _ _ 63, List.drop_zero, Nat.sub_zero]
    exact List.take_of_length_le (by omega)
  walk_at "wm"
  rw [e]
  walk_at "wm"
  refine wox (ex_mul (Sm.mul (sm_of (k := 40) (by decide) (by decide)) (sm_of (k := 40) ?_ (by decide))) ?_)
  · rw [List.length_map]
    omega
  · walk_at "wm"
    refine q _ ⟨ns, 0, 0, _, rfl, hl, by omega, by omega, by omega, ?_, ?_⟩
    · rw [List.length_map]; omega
    · rw [List.length_map]; omega
def b__law_near (g__law_take : FnD) : FS :=
  (sRet (wSh (eOp dSub (eFrz (wCall 2 g__law_take (aSlot 0 (aVal (eOp dAdd (eOp dMul (eC (.int 2)) (eVar 1)) (eC (.int 1))) aNil)))) (eVar 1))))
abbrev f__law_near : FnD := callF 2 [0] (b__law_near f__law_take)
theorem near_ev {xs : List Dt} {m : Int} (hx : BoxOk xs) (h0 : 0 ≤ m) (hs : m.natAbs < 2 ^ 3000) {Q : Wt → List Wt → Prop} (q : ∀ r ys, -m ≤ r → r ≤ m → BoxOk ys → Q (.sh (.int r)) [ys]) : EvF f__law_near [.own xs, .sh (.int m)] Q := by
  refine ef_in rfl ?_
  unfold b__law_near
  have hs2 : Sm m := sm_of hs (by decide)
  have hs3 : Sm (2 * m + 1) := sm_of (k := 3002) (by
    have : (2 : Nat) ^ 3002 = 4 * 2 ^ 3000 := by rw [show 3002 = 3000 + 2 from rfl, Nat.pow_add, Nat.mul_comm]
    omega) (by decide)
  walk_at "wm"
  refine take_ev hx (by omega) hs3 fun r ys h1 h2 hy => ?_
  walk_at "wm"
  exact q _ _ (by omega) (by omega) hy
end Lw
namespace Lw
open PySem PySem.Spec PyProof.Rows L2 RZ DL
local macro_rules | `(tactic| walk_at "sm") => `(tactic| first | assumption | exact sm_of (k := 200) (by omega) (by decide) | exact sm_of (k := 200) (by decide) (by decide))
local macro_rules | `(tactic| walk_at "w1") => `(tactic| ((conv => whnf); (try refine At.mk ?_)))
local macro_rules | `(tactic| walk_at "wa") => `(tactic| first
  | refine wox (ex_mul (Sm.mul (by walk_at "sm") (by walk_at "sm")) ?_)
  | refine wox (ex_mod (by first | decide | omega | assumption) ?_)
  | refine wox (ex_fdiv (Sm.div (by walk_at "sm") (by first | decide | omega | assumption)) ?_))
local macro_rules | `(tactic| walk_at "w") => `(tactic| ((first | refine nrm_go ?_ | refine WpS.ok ?_ | refine WpE.ok ?_ | skip); walk_at "w1"))
local macro_rules | `(tactic| walk_at "wm") => `(tactic| (walk_at "w"; (repeat (walk_at "wa"; walk_at "w1"))))
/-- the body of both greatest common parts -/
def bCom : FS :=
  (sSeq (sPar 0 1 (aVal (eCB dAbs (aVal (eVar 0) aNil)) (aVal (eCB dAbs (aVal (eVar 1) aNil)) aNil)))
    (sSeq (sWhile (fun ρ => slotN ρ 1 + 1) (eOp dGt (eVar 1) (eC (.int 0))) (sPar 0 1 (aVal (eVar 1) (aVal (eOp dMod (eVar 0) (eVar 1)) aNil))))
    (sRet (wVar 0))))
theorem com_ev {a b : Int} {Q : Wt → List Wt → Prop} (q : Q (.sh (.int (Int.gcd a b))) []) : EvF (callF 2 [] bCom) [.sh (.int a), .sh (.int b)] Q := by
  refine ef_in rfl ?_
  unfold bCom
  walk_at "wm"
  rw [abs_eq, abs_eq]
  refine EvS.cut (fun ρ1 => ∃ z : Option Wt, ρ1 = [some (.sh (.int (Int.gcd a b))), z]) ?_ ?_
  · refine while_inv (fun ρ => ∃ x y : Nat, ρ = [some (.sh (.int (x : Int))), some (.sh (.int (y : Int)))] ∧ Nat.gcd x y = Nat.gcd a.natAbs b.natAbs) (fun ρ => slotN ρ 1) ?_ _ _ ⟨a.natAbs, b.natAbs, rfl, rfl⟩ ?_
    · rintro ρ ⟨x, y, rfl, hg⟩
      walk_at "wm"
      refine wd (fun e => ?_) (fun e => ?_)
      · walk_at "wm"
        have hy : 0 < y := by omega
        refine ⟨⟨y, x % y, ?_, ?_⟩, ?_⟩
        · rw [mod_pos e]; rfl
        · rw [← hg, Nat.gcd_comm x y, Nat.gcd_rec y x, Nat.gcd_comm]
        · show ((x : Int).fmod y).natAbs < (y : Int).natAbs
          rw [mod_pos e]
          have := Nat.mod_lt x hy
          omega
      · have hy : y = 0 := by omega
        subst hy
        rw [Nat.gcd_zero_right] at hg
        exact ⟨_, by rw [hg]; rfl⟩
    · show ((b.natAbs : Nat) : Int).natAbs < _
      exact Nat.lt_succ_self _
  · rintro ρ1 ⟨z, rfl⟩
    walk_at "wm"
    exact q
def b_common : FS :=
  (sSeq (sPar 0 1 (aVal (eCB dAbs (aVal (eVar 0) aNil)) (aVal (eCB dAbs (aVal (eVar 1) aNil)) aNil)))
    (sSeq (sWhile (fun ρ => slotN ρ 1 + 1) (eOp dGt (eVar 1) (eC (.int 0))) (sPar 0 1 (aVal (eVar 1) (aVal (eOp dMod (eVar 0) (eVar 1)) aNil))))
    (sRet (wVar 0))))
abbrev f_common : FnD := callF 2 [] b_common
theorem common_ev {a b : Int} {Q : Wt → List Wt → Prop} (q : Q (.sh (.int (Int.gcd a b))) []) : EvF f_common [.sh (.int a), .sh (.int b)] Q := com_ev q
def b__law_common : FS :=
  (sSeq (sPar 0 1 (aVal (eCB dAbs (aVal (eVar 0) aNil)) (aVal (eCB dAbs (aVal (eVar 1) aNil)) aNil)))
    (sSeq (sWhile (fun ρ => slotN ρ 1 + 1) (eOp dGt (eVar 1) (eC (.int 0))) (sPar 0 1 (aVal (eVar 1) (aVal (eOp dMod (eVar 0) (eVar 1)) aNil))))
    (sRet (wVar 0))))
abbrev f__law_common : FnD := callF 2 [] b__law_common
theorem law_common_ev {a b : Int} {Q : Wt → List Wt → Prop} (q : Q (.sh (.int (Int.gcd a b))) []) : EvF f__law_common [.sh (.int a), .sh (.int b)] Q := com_ev q
def b__law_low (g__law_common : FnD) : FS :=
  (sSeq (sAsg 2 (wCall 2 g__law_common (aVal (eVar 0) (aVal (eVar 1) aNil))))
    (sRet (wSh (eTup (aVal (eOp dFdiv (eVar 0) (eVar 2)) (aVal (eOp dFdiv (eVar 1) (eVar 2)) aNil))))))
abbrev f__law_low : FnD := callF 3 [] (b__law_low f__law_common)
theorem low_ev {a b : Int} (h : b ≠ 0) (hs : Sm b) {Q : Wt → List Wt → Prop} (q : Q (.sh (amt (lowL a b))) []) : EvF f__law_low [.sh (.int a), .sh (.int b)] Q := by
  refine ef_in rfl ?_
  unfold b__law_low
  have h1 := gcd_pos (a := a) h
  have h2 := sm_gcd (a := a) h hs
  have h3 : (Int.gcd a b : Int) ≠ 0 := by omega
  walk_at "wm"
  refine law_common_ev ?_
  walk_at "wm"
  exact q
def b_lowest (g_common : FnD) : FS :=
  (sSeq (sAsg 2 (wCall 2 g_common (aVal (eVar 0) (aVal (eVar 1) aNil))))
    (sSeq (sIf (eOp dLt (eVar 1) (eC (.int 0))) (sAsg 2 (wSh (eUn dNeg (eVar 2)))) sNx)
    (sRet (wSh (eTup (aVal (eOp dFdiv (eVar 0) (eVar 2)) (aVal (eOp dFdiv (eVar 1) (eVar 2)) aNil)))))))
abbrev f_lowest : FnD := callF 3 [] (b_lowest f_common)
theorem lowest_ev {a b : Int} (h : b ≠ 0) (hs : Sm b) {Q : Wt → List Wt → Prop} (q : Q (.sh (amt (lowI a b))) []) : EvF f_lowest [.sh (.int a), .sh (.int b)] Q := by
  refine ef_in rfl ?_
  unfold b_lowest
  have h1 := gcd_pos (a := a) h
  have h2 := sm_gcd (a := a) h hs
  have h3 : (Int.gcd a b : Int) ≠ 0 := by omega
  have h4 : -(Int.gcd a b : Int) ≠ 0 := by omega
  have h5 := sm_neg h2
  unfold lowI at q
  walk_at "wm"
  refine common_ev ?_
  walk_at "wm"
  refine wd (fun e => ?_) (fun e => ?_)
  · rw [if_pos e] at q
    walk_at "wm"
    exact q
  · rw [if_neg e] at q
    walk_at "wm"
    exact q
end Lw
namespace Lw
open PySem PySem.Spec PyProof.Rows L2 RZ DL
local macro_rules | `(tactic| walk_at "sm") => `(tactic| first | assumption | exact sm_of (k := 200) (by omega) (by decide) | exact sm_of (k := 200) (by decide) (by decide))
local macro_rules | `(tactic| walk_at "w1") => `(tactic| ((conv => whnf); (try refine At.mk ?_)))
local macro_rules | `(tactic| walk_at "wa") => `(tactic| first
  | refine wox (ex_mul (Sm.mul (by walk_at "sm") (by walk_at "sm")) ?_)
  | refine wox (ex_mod (by first | decide | omega | assumption) ?_)
  | refine wox (ex_fdiv (Sm.div (by walk_at "sm") (by first | decide | omega | assumption)) ?_))
local macro_rules | `(tactic| walk_at "w") => `(tactic| ((first | refine nrm_go ?_ | refine WpS.ok ?_ | refine WpE.ok ?_ | skip); walk_at "w1"))
local macro_rules | `(tactic| walk_at "wm") => `(tactic| (walk_at "w"; (repeat (walk_at "wa"; walk_at "w1"))))
/-- both parts below 2 ^ k -/
structure Bd (k : Nat) (p : Int × Int) : Prop where
  o : p.1.natAbs < 2 ^ k
  u : p.2.natAbs < 2 ^ k
theorem Bd.mono {j k : Nat} {p : Int × Int} (h : Bd j p) (hk : j ≤ k) : Bd k p := ⟨Nat.lt_of_lt_of_le h.o (Nat.pow_le_pow_right (by decide) hk), Nat.lt_of_lt_of_le h.u (Nat.pow_le_pow_right (by decide) hk)⟩
theorem Bd.sm {k : Nat} {p : Int × Int} (h : Bd k p) (hk : k ≤ 8999) : SmA p := ⟨sm_of h.o hk, sm_of h.u hk⟩
theorem mul_bd {a b : Int} {j k : Nat} (h1 : a.natAbs < 2 ^ j) (h2 : b.natAbs < 2 ^ k) : (a * b).natAbs < 2 ^ (j + k) := wide_lt h1 h2
theorem add_bd {a b : Int} {k : Nat} (h1 : a.natAbs < 2 ^ k) (h2 : b.natAbs < 2 ^ k) : (a + b).natAbs < 2 ^ (k + 1) := by
  rw [Nat.pow_succ]
  omega
theorem sub_bd {a b : Int} {k : Nat} (h1 : a.natAbs < 2 ^ k) (h2 : b.natAbs < 2 ^ k) : (a - b).natAbs < 2 ^ (k + 1) := by
  rw [Nat.pow_succ]
  omega
theorem lowL_bd {n d : Int} {k : Nat} (hd : 0 < d) (h1 : n.natAbs < 2 ^ k) (h2 : d.natAbs < 2 ^ k) : Bd k (lowL n d) := by
  obtain ⟨a1, a2, a3, _⟩ := lowL_ok (n := n) hd
  have := a1.pos
  exact ⟨by omega, by omega⟩
def plusP (x y : Int × Int) : Int × Int := lowL (x.1 * y.2 + y.1 * x.2) (x.2 * y.2)
def minusP (x y : Int × Int) : Int × Int := lowL (x.1 * y.2 - y.1 * x.2) (x.2 * y.2)
def timesP (x y : Int × Int) : Int × Int := lowL (x.1 * y.1) (x.2 * y.2)
def byP (x y : Int × Int) : Int × Int := lowI (x.1 * y.2) (x.2 * y.1)
/-- what lowest, and the law's own one, do where the under is above nought -/
def LowSpec (g : FnD) : Prop := ∀ a b : Int, 0 < b → Sm b → g [.sh (.int a), .sh (.int b)] = some (.ok (.sh (amt (lowL a b))), [])
def bSum (g : FnD) : FS := (sRet (wCall 2 g (aVal (eOp dAdd (eOp dMul (eOp dIx (eVar 0) (eC (.int 0))) (eOp dIx (eVar 1) (eC (.int 1)))) (eOp dMul (eOp dIx (eVar 1) (eC (.int 0))) (eOp dIx (eVar 0) (eC (.int 1))))) (aVal (eOp dMul (eOp dIx (eVar 0) (eC (.int 1))) (eOp dIx (eVar 1) (eC (.int 1)))) aNil))))
def bSubt (g : FnD) : FS := (sRet (wCall 2 g (aVal (eOp dSub (eOp dMul (eOp dIx (eVar 0) (eC (.int 0))) (eOp dIx (eVar 1) (eC (.int 1)))) (eOp dMul (eOp dIx (eVar 1) (eC (.int 0))) (eOp dIx (eVar 0) (eC (.int 1))))) (aVal (eOp dMul (eOp dIx (eVar 0) (eC (.int 1))) (eOp dIx (eVar 1) (eC (.int 1)))) aNil))))
def bProd (g : FnD) : FS := (sRet (wCall 2 g (aVal (eOp dMul (eOp dIx (eVar 0) (eC (.int 0))) (eOp dIx (eVar 1) (eC (.int 0)))) (aVal (eOp dMul (eOp dIx (eVar 0) (eC (.int 1))) (eOp dIx (eVar 1) (eC (.int 1)))) aNil))))
section
variable {x y : Int × Int} {j k : Nat} {g : FnD} {Q : Wt → List Wt → Prop}
theorem sum_ev (hg : LowSpec g) (hx : Bd j x) (hy : Bd k y) (px : 0 < x.2) (py : 0 < y.2) (hjk : j + k ≤ 8900) (q : Q (.sh (amt (plusP x y))) []) : EvF (callF 2 [] (bSum g)) [.sh (amt x), .sh (amt y)] Q := by
  obtain ⟨a1, a2⟩ := hx.sm (by omega)
  obtain ⟨b1, b2⟩ := hy.sm (by omega)
  have hd : Sm (x.2 * y.2) := sm_of (mul_bd hx.u hy.u) (by omega)
  refine ef_in rfl ?_
  unfold bSum
  walk_at "wm"
  refine ef_eq (hg _ _ (Int.mul_pos px py) hd) ?_
  walk_at "wm"
  exact q
theorem subt_ev (hg : LowSpec g) (hx : Bd j x) (hy : Bd k y) (px : 0 < x.2) (py : 0 < y.2) (hjk : j + k ≤ 8900) (q : Q (.sh (amt (minusP x y))) []) : EvF (callF 2 [] (bSubt g)) [.sh (amt x), .sh (amt y)] Q := by
  obtain ⟨a1, a2⟩ := hx.sm (by omega)
  obtain ⟨b1, b2⟩ := hy.sm (by omega)
  have hd : Sm (x.2 * y.2) := sm_of (mul_bd hx.u hy.u) (by omega)
  refine ef_in rfl ?_
  unfold bSubt
  walk_at "wm"
  refine ef_eq (hg _ _ (Int.mul_pos px py) hd) ?_
  walk_at "wm"
  exact q
theorem prod_ev (hg : LowSpec g) (hx : Bd j x) (hy : Bd k y) (px : 0 < x.2) (py : 0 < y.2) (hjk : j + k ≤ 8900) (q : Q (.sh (amt (timesP x y))) []) : EvF (callF 2 [] (bProd g)) [.sh (amt x), .sh (amt y)] Q := by
  obtain ⟨a1, a2⟩ := hx.sm (by omega)
  obtain ⟨b1, b2⟩ := hy.sm (by omega)
  have hd : Sm (x.2 * y.2) := sm_of (mul_bd hx.u hy.u) (by omega)
  refine ef_in rfl ?_
  unfold bProd
  walk_at "wm"
  refine ef_eq (hg _ _ (Int.mul_pos px py) hd) ?_
  walk_at "wm"
  exact q
theorem plus_bd (hx : Bd j x) (hy : Bd k y) (px : 0 < x.2) (py : 0 < y.2) : Am (plusP x y) ∧ Bd (j + k + 1) (plusP x y) := by
  have hd := Int.mul_pos px py
  refine ⟨(lowL_ok hd).1, lowL_bd hd (add_bd (mul_bd hx.o hy.u) ?_) ?_⟩
  · rw [Nat.add_comm]; exact mul_bd hy.o hx.u
  · exact Nat.lt_of_lt_of_le (mul_bd hx.u hy.u) (Nat.pow_le_pow_right (by decide) (by omega))
theorem minus_bd (hx : Bd j x) (hy : Bd k y) (px : 0 < x.2) (py : 0 < y.2) : Am (minusP x y) ∧ Bd (j + k + 1) (minusP x y) := by
  have hd := Int.mul_pos px py
  refine ⟨(lowL_ok hd).1, lowL_bd hd (sub_bd (mul_bd hx.o hy.u) ?_) ?_⟩
  · rw [Nat.add_comm]; exact mul_bd hy.o hx.u
  · exact Nat.lt_of_lt_of_le (mul_bd hx.u hy.u) (Nat.pow_le_pow_right (by decide) (by omega))
theorem times_bd (hx : Bd j x) (hy : Bd k y) (px : 0 < x.2) (py : 0 < y.2) : Am (timesP x y) ∧ Bd (j + k) (timesP x y) := by
  have hd := Int.mul_pos px py
  exact ⟨(lowL_ok hd).1, lowL_bd hd (mul_bd hx.o hy.o) (mul_bd hx.u hy.u)⟩
end
theorem lowSpec_law : LowSpec f__law_low := fun a b h hs => fn_eq (low_ev (by omega) hs ⟨rfl, rfl⟩)
theorem lowSpec_prog : LowSpec f_lowest := fun a b h hs => fn_eq (lowest_ev (by omega) hs ⟨by rw [lowI_pos h], rfl⟩)
def b_plus (g_lowest : FnD) : FS :=
  (sRet (wCall 2 g_lowest (aVal (eOp dAdd (eOp dMul (eOp dIx (eVar 0) (eC (.int 0))) (eOp dIx (eVar 1) (eC (.int 1)))) (eOp dMul (eOp dIx (eVar 1) (eC (.int 0))) (eOp dIx (eVar 0) (eC (.int 1))))) (aVal (eOp dMul (eOp dIx (eVar 0) (eC (.int 1))) (eOp dIx (eVar 1) (eC (.int 1)))) aNil))))
abbrev f_plus : FnD := callF 2 [] (b_plus f_lowest)
theorem plus_ev {x y : Int × Int} {j k : Nat} {Q : Wt → List Wt → Prop} (hx : Bd j x) (hy : Bd k y) (px : 0 < x.2) (py : 0 < y.2) (hjk : j + k ≤ 8900) (q : Q (.sh (amt (plusP x y))) []) : EvF f_plus [.sh (amt x), .sh (amt y)] Q := sum_ev lowSpec_prog hx hy px py hjk q
def b_minus (g_lowest : FnD) : FS :=
  (sRet (wCall 2 g_lowest (aVal (eOp dSub (eOp dMul (eOp dIx (eVar 0) (eC (.int 0))) (eOp dIx (eVar 1) (eC (.int 1)))) (eOp dMul (eOp dIx (eVar 1) (eC (.int 0))) (eOp dIx (eVar 0) (eC (.int 1))))) (aVal (eOp dMul (eOp dIx (eVar 0) (eC (.int 1))) (eOp dIx (eVar 1) (eC (.int 1)))) aNil))))
abbrev f_minus : FnD := callF 2 [] (b_minus f_lowest)
theorem minus_ev {x y : Int × Int} {j k : Nat} {Q : Wt → List Wt → Prop} (hx : Bd j x) (hy : Bd k y) (px : 0 < x.2) (py : 0 < y.2) (hjk : j + k ≤ 8900) (q : Q (.sh (amt (minusP x y))) []) : EvF f_minus [.sh (amt x), .sh (amt y)] Q := subt_ev lowSpec_prog hx hy px py hjk q
def b_times (g_lowest : FnD) : FS :=
  (sRet (wCall 2 g_lowest (aVal (eOp dMul (eOp dIx (eVar 0) (eC (.int 0))) (eOp dIx (eVar 1) (eC (.int 0)))) (aVal (eOp dMul (eOp dIx (eVar 0) (eC (.int 1))) (eOp dIx (eVar 1) (eC (.int 1)))) aNil))))
abbrev f_times : FnD := callF 2 [] (b_times f_lowest)
theorem times_ev {x y : Int × Int} {j k : Nat} {Q : Wt → List Wt → Prop} (hx : Bd j x) (hy : Bd k y) (px : 0 < x.2) (py : 0 < y.2) (hjk : j + k ≤ 8900) (q : Q (.sh (amt (timesP x y))) []) : EvF f_times [.sh (amt x), .sh (amt y)] Q := prod_ev lowSpec_prog hx hy px py hjk q
def b__law_sum (g__law_low : FnD) : FS :=
  (sRet (wCall 2 g__law_low (aVal (eOp dAdd (eOp dMul (eOp dIx (eVar 0) (eC (.int 0))) (eOp dIx (eVar 1) (eC (.int 1)))) (eOp dMul (eOp dIx (eVar 1) (eC (.int 0))) (eOp dIx (eVar 0) (eC (.int 1))))) (aVal (eOp dMul (eOp dIx (eVar 0) (eC (.int 1))) (eOp dIx (eVar 1) (eC (.int 1)))) aNil))))
abbrev f__law_sum : FnD := callF 2 [] (b__law_sum f__law_low)
theorem law_sum_ev {x y : Int × Int} {j k : Nat} {Q : Wt → List Wt → Prop} (hx : Bd j x) (hy : Bd k y) (px : 0 < x.2) (py : 0 < y.2) (hjk : j + k ≤ 8900) (q : Q (.sh (amt (plusP x y))) []) : EvF f__law_sum [.sh (amt x), .sh (amt y)] Q := sum_ev lowSpec_law hx hy px py hjk q
def b__law_less_by (g__law_low : FnD) : FS :=
  (sRet (wCall 2 g__law_low (aVal (eOp dSub (eOp dMul (eOp dIx (eVar 0) (eC (.int 0))) (eOp dIx (eVar 1) (eC (.int 1)))) (eOp dMul (eOp dIx (eVar 1) (eC (.int 0))) (eOp dIx (eVar 0) (eC (.int 1))))) (aVal (eOp dMul (eOp dIx (eVar 0) (eC (.int 1))) (eOp dIx (eVar 1) (eC (.int 1)))) aNil))))
abbrev f__law_less_by : FnD := callF 2 [] (b__law_less_by f__law_low)
theorem law_less_by_ev {x y : Int × Int} {j k : Nat} {Q : Wt → List Wt → Prop} (hx : Bd j x) (hy : Bd k y) (px : 0 < x.2) (py : 0 < y.2) (hjk : j + k ≤ 8900) (q : Q (.sh (amt (minusP x y))) []) : EvF f__law_less_by [.sh (amt x), .sh (amt y)] Q := subt_ev lowSpec_law hx hy px py hjk q
def b__law_product (g__law_low : FnD) : FS :=
  (sRet (wCall 2 g__law_low (aVal (eOp dMul (eOp dIx (eVar 0) (eC (.int 0))) (eOp dIx (eVar 1) (eC (.int 0)))) (aVal (eOp dMul (eOp dIx (eVar 0) (eC (.int 1))) (eOp dIx (eVar 1) (eC (.int 1)))) aNil))))
abbrev f__law_product : FnD := callF 2 [] (b__law_product f__law_low)
theorem law_product_ev {x y : Int × Int} {j k : Nat} {Q : Wt → List Wt → Prop} (hx : Bd j x) (hy : Bd k y) (px : 0 < x.2) (py : 0 < y.2) (hjk : j + k ≤ 8900) (q : Q (.sh (amt (timesP x y))) []) : EvF f__law_product [.sh (amt x), .sh (amt y)] Q := prod_ev lowSpec_law hx hy px py hjk q
def b_by (g_lowest : FnD) : FS :=
  (sRet (wCall 2 g_lowest (aVal (eOp dMul (eOp dIx (eVar 0) (eC (.int 0))) (eOp dIx (eVar 1) (eC (.int 1)))) (aVal (eOp dMul (eOp dIx (eVar 0) (eC (.int 1))) (eOp dIx (eVar 1) (eC (.int 0)))) aNil))))
abbrev f_by : FnD := callF 2 [] (b_by f_lowest)
theorem by_ev {x y : Int × Int} {j k : Nat} {Q : Wt → List Wt → Prop} (hx : Bd j x) (hy : Bd k y) (px : 0 < x.2) (py : y.1 ≠ 0) (hjk : j + k ≤ 8900) (q : Q (.sh (amt (byP x y))) []) : EvF f_by [.sh (amt x), .sh (amt y)] Q := by
  obtain ⟨a1, a2⟩ := hx.sm (by omega)
  obtain ⟨b1, b2⟩ := hy.sm (by omega)
  have hd : Sm (x.2 * y.1) := sm_of (mul_bd hx.u hy.o) (by omega)
  have hn : x.2 * y.1 ≠ 0 := Int.mul_ne_zero (by omega) py
  refine ef_in rfl ?_
  unfold b_by
  walk_at "wm"
  refine lowest_ev hn hd ?_
  walk_at "wm"
  exact q
def b__law_share_of (g__law_low : FnD) : FS :=
  (sSeq (sIf (eOp dLt (eOp dIx (eVar 1) (eC (.int 0))) (eC (.int 0))) (sRet (wCall 2 g__law_low (aVal (eOp dSub (eC (.int 0)) (eOp dMul (eOp dIx (eVar 0) (eC (.int 0))) (eOp dIx (eVar 1) (eC (.int 1))))) (aVal (eOp dSub (eC (.int 0)) (eOp dMul (eOp dIx (eVar 0) (eC (.int 1))) (eOp dIx (eVar 1) (eC (.int 0))))) aNil)))) sNx)
    (sRet (wCall 2 g__law_low (aVal (eOp dMul (eOp dIx (eVar 0) (eC (.int 0))) (eOp dIx (eVar 1) (eC (.int 1)))) (aVal (eOp dMul (eOp dIx (eVar 0) (eC (.int 1))) (eOp dIx (eVar 1) (eC (.int 0)))) aNil)))))
abbrev f__law_share_of : FnD := callF 2 [] (b__law_share_of f__law_low)
theorem law_share_of_ev {x y : Int × Int} {j k : Nat} {Q : Wt → List Wt → Prop} (hx : Bd j x) (hy : Bd k y) (px : 0 < x.2) (py : y.1 ≠ 0) (hjk : j + k ≤ 8900) (q : Q (.sh (amt (byP x y))) []) : EvF f__law_share_of [.sh (amt x), .sh (amt y)] Q := by
  obtain ⟨a1, a2⟩ := hx.sm (by omega)
  obtain ⟨b1, b2⟩ := hy.sm (by omega)
  have hd : Sm (x.2 * y.1) := sm_of (mul_bd hx.u hy.o) (by omega)
  have hn : x.2 * y.1 ≠ 0 := Int.mul_ne_zero (by omega) py
  refine ef_in rfl ?_
  unfold b__law_share_of
  walk_at "wm"
  refine wd (fun e => ?_) (fun e => ?_)
  · have hneg : x.2 * y.1 < 0 := Int.mul_neg_of_pos_of_neg px e
    have e1 : byP x y = lowL (0 - x.1 * y.2) (0 - x.2 * y.1) := by
      have z := lowI_neg (a := x.1 * y.2) (b := 0 - x.2 * y.1) (by omega)
      rw [show -(0 - x.2 * y.1) = x.2 * y.1 by omega, show -(x.1 * y.2) = 0 - x.1 * y.2 by omega] at z
      exact z
    rw [e1] at q
    walk_at "wm"
    refine low_ev (by omega) ?_ ?_
    · unfold Sm at hd ⊢
      rw [show 0 - x.2 * y.1 = -(x.2 * y.1) by omega, Int.natAbs_neg]
      exact hd
    · walk_at "wm"
      exact q
  · have hpos : 0 < x.2 * y.1 := Int.mul_pos px (by omega)
    have e1 : byP x y = lowL (x.1 * y.2) (x.2 * y.1) := lowI_pos hpos
    rw [e1] at q
    walk_at "wm"
    refine low_ev hn hd ?_
    walk_at "wm"
    exact q
end Lw
namespace Lw
open PySem PySem.Spec PyProof.Rows L2 RZ DL
local macro_rules | `(tactic| walk_at "sm") => `(tactic| first | assumption | exact sm_of (k := 200) (by omega) (by decide) | exact sm_of (k := 200) (by decide) (by decide))
local macro_rules | `(tactic| walk_at "ev3") => `(tactic| first
  | (with_reducible first
    | refine es_seq ?_ | refine es_asg ?_ | refine es_ret ?_ | refine es_if ?_ | refine es_par ?_ | refine es_put ?_ | refine es_nx ?_ | refine es_drop ?_ | refine es_asgT ?_
    | refine ew_sh ?_ | refine ev_frz ?_ | refine ew_lst ?_ | refine ew_call ?_ | refine ew_ite ?_ | refine ew_lc ?_ | refine ev_op ?_ | refine ev_un ?_ | refine ev_not ?_ | refine ev_and ?_ | refine ev_or ?_ | refine ev_ite ?_ | refine ev_chain ?_
    | refine ea_nil ?_ | refine ea_val ?_ | refine ea_tmp ?_ | refine ew_cat ?_ | refine ev_tup ?_ | refine ev_cb ?_ | refine ev_c ?_ | refine ev_sl00 ?_ | refine ev_sl01 ?_ | refine ev_sl10 ?_ | refine ev_sl11 ?_ | refine ei_args ?_ | refine ei_seq ?_ | refine es_for ?_ | refine es_while ?_ | refine ev_opR ?_
    | refine ex_add ?_ | refine ex_sub ?_ | refine ex_lt ?_ | refine ex_le ?_ | refine ex_gt ?_ | refine ex_ge ?_ | refine ex_eqI ?_ | refine ex_neI ?_ | refine ex_eqS ?_ | refine ex_neS ?_ | refine ex_eqB ?_ | refine ex_neB ?_ | refine ex_neg ?_)
  | ((with_reducible refine nrm_eq (ρ' := ?r) ?e ?_); (case e => (try dsimp only [List.set_cons_zero, List.set_cons_succ, putBack, slotsOf, wipeR, restR, keepSh, List.map_cons, List.map_nil, List.cons_append, List.nil_append, List.append_nil, List.length_cons, List.length_nil, Nat.reduceAdd, Nat.reduceSub, List.replicate, List.getElem?_cons_zero, List.getElem?_cons_succ, frz, startW]); exact rfl))
  | refine ev_var rfl ?_ | refine ev_varO rfl ?_ | refine ew_var rfl ?_ | refine ew_varO rfl ?_ | refine ea_slot rfl ?_ | refine ev_ixV rfl ?_ | refine es_app rfl ?_ | refine es_ext rfl ?_ | refine ev_opL rfl ?_ | refine ev_cbV rfl rfl rfl ?_
  | (with_reducible refine ex_mod ?_ ?_; first | decide | omega | assumption)
  | (with_reducible refine ex_fdiv ?_ ?_; refine Sm.div ?_ ?_; walk_at "sm"; first | decide | omega | assumption)
  | (with_reducible refine ex_mul ?_ ?_; refine Sm.mul ?_ ?_; walk_at "sm"; walk_at "sm")
  | ((with_reducible show Exists _); (fail_if_success (with_reducible show ∃ g, dMul _ _ = some g ∧ _)); (fail_if_success (with_reducible show ∃ g, dFdiv _ _ = some g ∧ _)); (fail_if_success (with_reducible show ∃ g, dMod _ _ = some g ∧ _)); (fail_if_success (with_reducible show ∃ g, dNe _ _ = some g ∧ _)); (fail_if_success (with_reducible show ∃ g, dEq _ _ = some g ∧ _));
     first | refine ⟨_, rfl, Nat.le_of_ble_eq_true rfl, ?_⟩ | refine ⟨_, rfl, rfl, List.nodup_nil, ?_⟩ | refine ⟨_, rfl, rfl, nodup1, ?_⟩ | refine ⟨_, rfl, rfl, nodup2 (by decide), ?_⟩ | refine ⟨_, rfl, ?_⟩ | refine ⟨_, _, rfl, rfl, ?_⟩ | refine ⟨_, _, rfl, ?_⟩ | refine ⟨_, _, _, rfl, rfl, rfl, ?_⟩))
/-! amounts as rational numbers -/
def ofR (r : Rat) : Int × Int := (r.num, (r.den : Int))
def val (p : Int × Int) : Rat := Rat.divInt p.1 p.2
abbrev amR (r : Rat) : Dt := amt (ofR r)
/-- a written amount -/
abbrev rat (n : Int) (d : Nat) (h1 : d ≠ 0 := by decide) (h2 : n.natAbs.Coprime d := by decide) : Rat := ⟨n, d, h1, h2⟩
theorem den_pos (r : Rat) : (0 : Int) < (r.den : Int) := by
  have := r.den_pos
  omega
theorem ofR_am (r : Rat) : Am (ofR r) := ⟨den_pos r, by
  have := r.reduced
  unfold Nat.Coprime at this
  exact this⟩
theorem val_ofR (r : Rat) : val (ofR r) = r := Rat.num_divInt_den r
theorem ofR_inj {a b : Rat} (h : ofR a = ofR b) : a = b := by rw [← val_ofR a, ← val_ofR b, h]
/-- amounts in lowest terms of one value are one -/
theorem dvd_cop {a b c : Int} (h : a ∣ b * c) (hg : Int.gcd b a = 1) : a ∣ c := by
  have h1 : a.natAbs ∣ b.natAbs * c.natAbs := by rw [← Int.natAbs_mul]; exact Int.natAbs_dvd_natAbs.mpr h
  have h2 : Nat.Coprime a.natAbs b.natAbs := by
    unfold Nat.Coprime
    rw [Nat.gcd_comm]
    exact hg
  exact Int.natAbs_dvd_natAbs.mp (h2.dvd_of_dvd_mul_left h1)
theorem am_uniq {p q : Int × Int} (hp : Am p) (hq : Am q) (h : p.1 * q.2 = q.1 * p.2) : p = q := by
  have h1 : p.2 ∣ q.2 := by
    have : p.2 ∣ p.1 * q.2 := ⟨q.1, by rw [h, Int.mul_comm]⟩
    exact dvd_cop this hp.low
  have h2 : q.2 ∣ p.2 := by
    have : q.2 ∣ q.1 * p.2 := ⟨p.1, by rw [← h, Int.mul_comm]⟩
    exact dvd_cop this hq.low
  have e : p.2 = q.2 := Int.dvd_antisymm (by have := hp.pos; omega) (by have := hq.pos; omega) h1 h2
  have e1 : p.1 = q.1 := by
    rw [e] at h
    exact Int.eq_of_mul_eq_mul_right (by have := hq.pos; omega) h
  exact Prod.ext e1 e
theorem am_val {p : Int × Int} (hp : Am p) : ofR (val p) = p := by
  refine am_uniq (ofR_am _) hp ?_
  have e := val_ofR (val p)
  have h : Rat.divInt (val p).num ((val p).den : Int) = Rat.divInt p.1 p.2 := e
  exact (Rat.divInt_eq_divInt_iff (Int.ne_of_gt (den_pos (val p))) (by have := hp.pos; omega)).mp h
theorem lowL_val {n d : Int} (h : 0 < d) : lowL n d = ofR (Rat.divInt n d) := by
  obtain ⟨a1, _, _, a4⟩ := lowL_ok (n := n) h
  rw [← am_val a1]
  congr 1
  unfold val
  exact (Rat.divInt_eq_divInt_iff (by have := a1.pos; omega) (by omega)).mpr a4.symm
theorem lowI_val {n d : Int} (h : d ≠ 0) : lowI n d = ofR (Rat.divInt n d) := by
  rcases Int.lt_or_lt_of_ne h with h1 | h1
  · have e := lowI_neg (a := n) (b := -d) (by omega)
    rw [Int.neg_neg] at e
    rw [e, lowL_val (by omega)]
    congr 1
    rw [Rat.divInt_eq_divInt_iff (by omega) h]
    rw [Int.neg_mul, Int.mul_neg]
  · rw [lowI_pos h1, lowL_val h1]
theorem plusP_val (a b : Rat) : plusP (ofR a) (ofR b) = ofR (a + b) := by
  unfold plusP
  rw [lowL_val (show 0 < (ofR a).2 * (ofR b).2 from Int.mul_pos (den_pos a) (den_pos b))]
  congr 1
  have := Rat.divInt_add_divInt a.num b.num (d₁ := a.den) (d₂ := b.den) (by have := den_pos a; omega) (by have := den_pos b; omega)
  rw [Rat.num_divInt_den, Rat.num_divInt_den] at this
  exact this.symm
theorem minusP_val (a b : Rat) : minusP (ofR a) (ofR b) = ofR (a - b) := by
  unfold minusP
  rw [lowL_val (show 0 < (ofR a).2 * (ofR b).2 from Int.mul_pos (den_pos a) (den_pos b))]
  congr 1
  have := Rat.divInt_sub_divInt a.num b.num (d₁ := a.den) (d₂ := b.den) (by have := den_pos a; omega) (by have := den_pos b; omega)
  rw [Rat.num_divInt_den, Rat.num_divInt_den] at this
  exact this.symm
theorem timesP_val (a b : Rat) : timesP (ofR a) (ofR b) = ofR (a * b) := by
  unfold timesP
  rw [lowL_val (show 0 < (ofR a).2 * (ofR b).2 from Int.mul_pos (den_pos a) (den_pos b))]
  congr 1
  have := Rat.divInt_mul_divInt a.num b.num (d₁ := a.den) (d₂ := b.den)
  rw [Rat.num_divInt_den, Rat.num_divInt_den] at this
  exact this.symm
theorem num_ne {b : Rat} (h : b ≠ 0) : b.num ≠ 0 := fun e => h (Rat.num_eq_zero.mp e)
theorem byP_val (a b : Rat) (h : b ≠ 0) : byP (ofR a) (ofR b) = ofR (a / b) := by
  unfold byP
  have hb := num_ne h
  have hn : (ofR a).2 * (ofR b).1 ≠ 0 := Int.mul_ne_zero (by have := den_pos a; exact Int.ne_of_gt this) hb
  rw [lowI_val hn]
  congr 1
  have e1 : Rat.divInt (a.num * b.den) (a.den * b.num) = a * Rat.divInt b.den b.num := by
    have := Rat.divInt_mul_divInt a.num b.den (d₁ := a.den) (d₂ := b.num)
    rw [Rat.num_divInt_den] at this
    exact this.symm
  have e2 : Rat.divInt (b.den : Int) b.num * b = 1 := by
    have := Rat.divInt_mul_divInt b.den b.num (d₁ := b.num) (d₂ := b.den)
    rw [Rat.num_divInt_den] at this
    rw [this, Int.mul_comm]
    exact Rat.divInt_self' (Int.mul_ne_zero hb (by have := den_pos b; omega))
  show Rat.divInt (a.num * b.den) (a.den * b.num) = a / b
  rw [e1]
  grind
theorem lessI_val (a b : Rat) : lessI (ofR a) (ofR b) = decide (a < b) := by
  unfold lessI
  rw [decide_eq_decide]
  exact (Rat.lt_iff a b).symm
theorem num_lt0 {q : Rat} : q.num < 0 ↔ q < 0 := by
  rw [← Int.not_le, Rat.num_nonneg, Rat.not_le]
theorem num_gt0 {q : Rat} : 0 < q.num ↔ 0 < q := by
  have h1 := Rat.num_nonneg (q := q)
  have h2 := Rat.num_eq_zero (q := q)
  have h3 : 0 < q ↔ 0 ≤ q ∧ q ≠ 0 := by grind
  rw [h3, ← h1, Ne, ← h2]
  omega
/-- both parts below 2 ^ k -/
abbrev RB (k : Nat) (r : Rat) : Prop := Bd k (ofR r)
section
variable {a b : Rat} {j k : Nat}
theorem RB.plus (ha : RB j a) (hb : RB k b) : RB (j + k + 1) (a + b) := by
  have := (plus_bd ha hb (den_pos a) (den_pos b)).2
  rw [plusP_val] at this
  exact this
theorem RB.minus (ha : RB j a) (hb : RB k b) : RB (j + k + 1) (a - b) := by
  have := (minus_bd ha hb (den_pos a) (den_pos b)).2
  rw [minusP_val] at this
  exact this
theorem RB.times (ha : RB j a) (hb : RB k b) : RB (j + k) (a * b) := by
  have := (times_bd ha hb (den_pos a) (den_pos b)).2
  rw [timesP_val] at this
  exact this
theorem RB.by (ha : RB j a) (hb : RB k b) (h : b ≠ 0) : RB (j + k) (a / b) := by
  have hn := num_ne h
  rw [RB, ← byP_val a b h]
  unfold byP
  have hx : ((ofR a).1 * (ofR b).2).natAbs < 2 ^ (j + k) := mul_bd ha.o hb.u
  have hy : ((ofR a).2 * (ofR b).1).natAbs < 2 ^ (j + k) := mul_bd ha.u hb.o
  have hne : (ofR a).2 * (ofR b).1 ≠ 0 := Int.mul_ne_zero (Int.ne_of_gt (den_pos a)) hn
  rcases Int.lt_or_lt_of_ne hne with h1 | h1
  · have e := lowI_neg (a := (ofR a).1 * (ofR b).2) (b := -((ofR a).2 * (ofR b).1)) (by omega)
    rw [Int.neg_neg] at e
    rw [e]
    exact lowL_bd (by omega) (by rw [Int.natAbs_neg]; exact hx) (by rw [Int.natAbs_neg]; exact hy)
  · rw [lowI_pos h1]
    exact lowL_bd h1 hx hy
end
theorem amR_eqv (a b : Rat) : PyData.eqv (toPy (amR a)) (toPy (amR b)) = decide (a = b) := by
  show (a.num == b.num && ((a.den : Int) == (b.den : Int) && true)) = decide (a = b)
  rw [Bool.and_true]
  rcases Decidable.em (a = b) with h | h
  · subst h
    simp
  · rw [decide_eq_false h]
    rcases Decidable.em (a.num = b.num) with h1 | h1
    · rcases Decidable.em ((a.den : Int) = (b.den : Int)) with h2 | h2
      · exact absurd (ofR_inj (Prod.ext h1 h2)) h
      · simp [h2]
    · simp [h1]
theorem eqB_amt (a b : Rat) : eqB (amR a) (amR b) = some (decide (a = b)) := by
  rw [← amR_eqv]
  show (if okPy (amR a) = true ∧ okPy (amR b) = true then some (PyData.eqv (toPy (amR a)) (toPy (amR b))) else none) = _
  exact if_pos ⟨rfl, rfl⟩
theorem ex_neA {a b : Rat} {Q : Dt → Prop} (q : Q (.bl (!decide (a = b)))) : ∃ g, dNe (amR a) (amR b) = some g ∧ Q g := ⟨_, by
  unfold dNe
  rw [eqB_amt]
  rfl, q⟩
theorem ex_eqA {a b : Rat} {Q : Dt → Prop} (q : Q (.bl (decide (a = b)))) : ∃ g, dEq (amR a) (amR b) = some g ∧ Q g := ⟨_, by
  unfold dEq
  rw [eqB_amt]
  rfl, q⟩
section
variable {a b : Rat} {j k : Nat} {Q : Wt → List Wt → Prop}
theorem plus_r (ha : RB j a) (hb : RB k b) (hjk : j + k ≤ 8900) (q : Q (.sh (amR (a + b))) []) : EvF f_plus [.sh (amR a), .sh (amR b)] Q := plus_ev ha hb (den_pos a) (den_pos b) hjk (by rw [plusP_val]; exact q)
theorem minus_r (ha : RB j a) (hb : RB k b) (hjk : j + k ≤ 8900) (q : Q (.sh (amR (a - b))) []) : EvF f_minus [.sh (amR a), .sh (amR b)] Q := minus_ev ha hb (den_pos a) (den_pos b) hjk (by rw [minusP_val]; exact q)
theorem times_r (ha : RB j a) (hb : RB k b) (hjk : j + k ≤ 8900) (q : Q (.sh (amR (a * b))) []) : EvF f_times [.sh (amR a), .sh (amR b)] Q := times_ev ha hb (den_pos a) (den_pos b) hjk (by rw [timesP_val]; exact q)
theorem by_r (ha : RB j a) (hb : RB k b) (h : b ≠ 0) (hjk : j + k ≤ 8900) (q : Q (.sh (amR (a / b))) []) : EvF f_by [.sh (amR a), .sh (amR b)] Q := by_ev ha hb (den_pos a) (num_ne h) hjk (by rw [byP_val a b h]; exact q)
theorem law_sum_r (ha : RB j a) (hb : RB k b) (hjk : j + k ≤ 8900) (q : Q (.sh (amR (a + b))) []) : EvF f__law_sum [.sh (amR a), .sh (amR b)] Q := law_sum_ev ha hb (den_pos a) (den_pos b) hjk (by rw [plusP_val]; exact q)
theorem law_less_by_r (ha : RB j a) (hb : RB k b) (hjk : j + k ≤ 8900) (q : Q (.sh (amR (a - b))) []) : EvF f__law_less_by [.sh (amR a), .sh (amR b)] Q := law_less_by_ev ha hb (den_pos a) (den_pos b) hjk (by rw [minusP_val]; exact q)
theorem law_product_r (ha : RB j a) (hb : RB k b) (hjk : j + k ≤ 8900) (q : Q (.sh (amR (a * b))) []) : EvF f__law_product [.sh (amR a), .sh (amR b)] Q := law_product_ev ha hb (den_pos a) (den_pos b) hjk (by rw [timesP_val]; exact q)
theorem law_share_of_r (ha : RB j a) (hb : RB k b) (h : b ≠ 0) (hjk : j + k ≤ 8900) (q : Q (.sh (amR (a / b))) []) : EvF f__law_share_of [.sh (amR a), .sh (amR b)] Q := law_share_of_ev ha hb (den_pos a) (num_ne h) hjk (by rw [byP_val a b h]; exact q)
end
end Lw
namespace Lw
open PySem PySem.Spec PyProof.Rows L2 RZ DL
local macro_rules | `(tactic| walk_at "sm") => `(tactic| first | assumption | exact sm_of (k := 200) (by omega) (by decide) | exact sm_of (k := 200) (by decide) (by decide))
local macro_rules | `(tactic| walk_at "w1") => `(tactic| ((conv => whnf); (try refine At.mk ?_)))
local macro_rules | `(tactic| walk_at "wa") => `(tactic| first
  | refine wox (ex_mul (Sm.mul (by walk_at "sm") (by walk_at "sm")) ?_)
  | refine wox (ex_mod (by first | decide | omega | assumption) ?_)
  | refine wox (ex_fdiv (Sm.div (by walk_at "sm") (by first | decide | omega | assumption)) ?_))
local macro_rules | `(tactic| walk_at "w") => `(tactic| ((first | refine nrm_go ?_ | refine WpS.ok ?_ | refine WpE.ok ?_ | skip); walk_at "w1"))
local macro_rules | `(tactic| walk_at "wm") => `(tactic| (walk_at "w"; (repeat (walk_at "wa"; walk_at "w1"))))
def b__law_coin (g__law_low g__law_take g__law_near : FnD) : FS :=
  (sRet (wCall 2 g__law_low (aVal (eFrz (wCall 2 g__law_near (aSlot 0 (aVal (eVar 1) aNil)))) (aVal (eOp dIx (eFrz (wLst (aVal (eC (.int 1)) (aVal (eC (.int 1)) (aVal (eC (.int 1)) (aVal (eC (.int 2)) (aVal (eC (.int 3)) (aVal (eOp dAdd (eC (.int 1)) (eFrz (wCall 2 g__law_take (aSlot 0 (aVal (eC (.int 9)) aNil))))) aNil)))))))) (eFrz (wCall 2 g__law_take (aSlot 0 (aVal (eC (.int 6)) aNil))))) aNil))))
abbrev f__law_coin : FnD := callF 2 [0] (b__law_coin f__law_low f__law_take f__law_near)
theorem coin_ev {xs : List Dt} {m : Int} (hx : BoxOk xs) (h0 : 0 ≤ m) (hs : m.natAbs < 2 ^ 200) {Q : Wt → List Wt → Prop} (q : ∀ p ys, Am p → p.1.natAbs ≤ m.natAbs → p.2 ≤ 9 → BoxOk ys → Q (.sh (amt p)) [ys]) : EvF f__law_coin [.own xs, .sh (.int m)] Q := by
  refine ef_in rfl ?_
  unfold b__law_coin
  walk_at "wm"
  refine near_ev hx h0 (nat3000 hs) fun n ys h1 h2 hy => ?_
  walk_at "wm"
  refine take_ev hy (by decide) (sm_nat (by decide)) fun r ys h3 h4 hy => ?_
  walk_at "wm"
  refine take_ev hy (by decide) (sm_nat (by decide)) fun i ys h5 h6 hy => ?_
  refine wox (ix_den h5 h6 h3 h4 fun d h7 h8 => ?_)
  walk_at "wm"
  refine low_ev (by omega) (sm_nat (by omega)) ?_
  walk_at "wm"
  obtain ⟨a1, a2, a3, _⟩ := lowL_ok (n := n) (d := d) (by omega)
  exact q _ _ a1 (by omega) (by omega) hy
theorem coin_r {xs : List Dt} {m : Int} (hx : BoxOk xs) (h0 : 0 ≤ m) (hs : m.natAbs < 2 ^ 200) {Q : Wt → List Wt → Prop} (q : ∀ (r : Rat) ys, r.num.natAbs ≤ m.natAbs → r.den ≤ 9 → BoxOk ys → Q (.sh (amR r)) [ys]) : EvF f__law_coin [.own xs, .sh (.int m)] Q :=
  coin_ev hx h0 hs fun p ys hp h1 h2 hy => by
    have e := am_val hp
    rw [← e] at h1 h2 ⊢
    have h2' : ((val p).den : Int) ≤ 9 := h2
    exact q _ _ h1 (by omega) hy
def b__law_above (g__law_low g__law_take : FnD) : FS :=
  (sRet (wCall 2 g__law_low (aVal (eOp dAdd (eC (.int 1)) (eFrz (wCall 2 g__law_take (aSlot 0 (aVal (eVar 1) aNil))))) (aVal (eOp dIx (eFrz (wLst (aVal (eC (.int 1)) (aVal (eC (.int 1)) (aVal (eC (.int 1)) (aVal (eC (.int 2)) (aVal (eC (.int 3)) (aVal (eOp dAdd (eC (.int 1)) (eFrz (wCall 2 g__law_take (aSlot 0 (aVal (eC (.int 9)) aNil))))) aNil)))))))) (eFrz (wCall 2 g__law_take (aSlot 0 (aVal (eC (.int 6)) aNil))))) aNil))))
abbrev f__law_above : FnD := callF 2 [0] (b__law_above f__law_low f__law_take)
theorem above_ev {xs : List Dt} {m : Int} (hx : BoxOk xs) (h0 : 0 < m) (hs : m.natAbs < 2 ^ 190) {Q : Wt → List Wt → Prop} (q : ∀ p ys, Am p → 0 < p.1 → p.1 ≤ m → p.2 ≤ 9 → BoxOk ys → Q (.sh (amt p)) [ys]) : EvF f__law_above [.own xs, .sh (.int m)] Q := by
  refine ef_in rfl ?_
  unfold b__law_above
  walk_at "wm"
  refine take_ev hx h0 (sm_of hs (by decide)) fun n ys h1 h2 hy => ?_
  walk_at "wm"
  refine take_ev hy (by decide) (sm_nat (by decide)) fun r ys h3 h4 hy => ?_
  walk_at "wm"
  refine take_ev hy (by decide) (sm_nat (by decide)) fun i ys h5 h6 hy => ?_
  refine wox (ix_den h5 h6 h3 h4 fun d h7 h8 => ?_)
  walk_at "wm"
  refine low_ev (by omega) (sm_nat (by omega)) ?_
  walk_at "wm"
  obtain ⟨a1, a2, a3, a4⟩ := lowL_ok (n := 1 + n) (d := d) (by omega)
  have hp := a1.pos
  have h9 : 0 < (lowL (1 + n) d).1 := by
    rcases Int.lt_or_le 0 (lowL (1 + n) d).1 with h | h
    · exact h
    · have e1 : (1 + n) * (lowL (1 + n) d).2 ≤ 0 := by
        rw [a4]
        exact Int.mul_nonpos_of_nonpos_of_nonneg h (by omega)
      have e2 : 0 < (1 + n) * (lowL (1 + n) d).2 := Int.mul_pos (by omega) hp
      omega
  exact q _ _ a1 h9 (by omega) (by omega) hy
theorem above_r {xs : List Dt} {m : Int} (hx : BoxOk xs) (h0 : 0 < m) (hs : m.natAbs < 2 ^ 190) {Q : Wt → List Wt → Prop} (q : ∀ (r : Rat) ys, 0 < r → r.num ≤ m → r.den ≤ 9 → BoxOk ys → Q (.sh (amR r)) [ys]) : EvF f__law_above [.own xs, .sh (.int m)] Q :=
  above_ev hx h0 hs fun p ys hp h0 h1 h2 hy => by
    have e := am_val hp
    rw [← e] at h0 h1 h2 ⊢
    have h2' : ((val p).den : Int) ≤ 9 := h2
    exact q _ _ (num_gt0.mp h0) h1 (by omega) hy
end Lw
namespace Lw
open PySem PySem.Spec PyProof.Rows L2 RZ DL
local macro_rules | `(tactic| walk_at "sm") => `(tactic| first | assumption | exact sm_of (k := 200) (by omega) (by decide) | exact sm_of (k := 200) (by decide) (by decide))
local macro_rules | `(tactic| walk_at "w1") => `(tactic| ((conv => whnf); (try refine At.mk ?_)))
local macro_rules | `(tactic| walk_at "wa") => `(tactic| first
  | refine wox (ex_mul (Sm.mul (by walk_at "sm") (by walk_at "sm")) ?_)
  | refine wox (ex_mod (by first | decide | omega | assumption) ?_)
  | refine wox (ex_fdiv (Sm.div (by walk_at "sm") (by first | decide | omega | assumption)) ?_))
local macro_rules | `(tactic| walk_at "w") => `(tactic| ((first | refine nrm_go ?_ | refine WpS.ok ?_ | refine WpE.ok ?_ | skip); walk_at "w1"))
local macro_rules | `(tactic| walk_at "wm") => `(tactic| (walk_at "w"; (repeat (walk_at "wa"; walk_at "w1"))))
def bLess : FS :=
  (sRet (wSh (eOp dLt (eOp dMul (eOp dIx (eVar 0) (eC (.int 0))) (eOp dIx (eVar 1) (eC (.int 1)))) (eOp dMul (eOp dIx (eVar 1) (eC (.int 0))) (eOp dIx (eVar 0) (eC (.int 1)))))))
theorem les_ev {x y : Int × Int} (hx : SmA x) (hy : SmA y) {Q : Wt → List Wt → Prop} (q : Q (.sh (.bl (lessI x y))) []) : EvF (callF 2 [] bLess) [.sh (amt x), .sh (amt y)] Q := by
  obtain ⟨a1, a2⟩ := hx
  obtain ⟨b1, b2⟩ := hy
  refine ef_in rfl ?_
  unfold bLess
  walk_at "wm"
  exact q
def b_less : FS :=
  (sRet (wSh (eOp dLt (eOp dMul (eOp dIx (eVar 0) (eC (.int 0))) (eOp dIx (eVar 1) (eC (.int 1)))) (eOp dMul (eOp dIx (eVar 1) (eC (.int 0))) (eOp dIx (eVar 0) (eC (.int 1)))))))
abbrev f_less : FnD := callF 2 [] b_less
theorem less_ev {x y : Int × Int} (hx : SmA x) (hy : SmA y) {Q : Wt → List Wt → Prop} (q : Q (.sh (.bl (lessI x y))) []) : EvF f_less [.sh (amt x), .sh (amt y)] Q := les_ev hx hy q
def b__law_under : FS :=
  (sRet (wSh (eOp dLt (eOp dMul (eOp dIx (eVar 0) (eC (.int 0))) (eOp dIx (eVar 1) (eC (.int 1)))) (eOp dMul (eOp dIx (eVar 1) (eC (.int 0))) (eOp dIx (eVar 0) (eC (.int 1)))))))
abbrev f__law_under : FnD := callF 2 [] b__law_under
theorem under_ev {x y : Int × Int} (hx : SmA x) (hy : SmA y) {Q : Wt → List Wt → Prop} (q : Q (.sh (.bl (lessI x y))) []) : EvF f__law_under [.sh (amt x), .sh (amt y)] Q := les_ev hx hy q
section
variable {a b : Rat} {j k : Nat} {Q : Wt → List Wt → Prop}
theorem less_r (ha : RB j a) (hb : RB k b) (hj : j ≤ 8999) (hk : k ≤ 8999) (q : Q (.sh (.bl (decide (a < b)))) []) : EvF f_less [.sh (amR a), .sh (amR b)] Q := less_ev (ha.sm hj) (hb.sm hk) (by rw [lessI_val]; exact q)
theorem under_r (ha : RB j a) (hb : RB k b) (hj : j ≤ 8999) (hk : k ≤ 8999) (q : Q (.sh (.bl (decide (a < b)))) []) : EvF f__law_under [.sh (amR a), .sh (amR b)] Q := under_ev (ha.sm hj) (hb.sm hk) (by rw [lessI_val]; exact q)
end
end Lw
namespace Lw
open PySem PySem.Spec PyProof.Rows L2 RZ DL
local macro_rules | `(tactic| walk_at "sm") => `(tactic| first | assumption | exact sm_of (k := 200) (by omega) (by decide) | exact sm_of (k := 200) (by decide) (by decide))
local macro_rules | `(tactic| walk_at "w1") => `(tactic| ((conv => whnf); (try refine At.mk ?_)))
local macro_rules | `(tactic| walk_at "wa") => `(tactic| first
  | refine wox (ex_mul (Sm.mul (by walk_at "sm") (by walk_at "sm")) ?_)
  | refine wox (ex_mod (by first | decide | omega | assumption) ?_)
  | refine wox (ex_fdiv (Sm.div (by walk_at "sm") (by first | decide | omega | assumption)) ?_))
local macro_rules | `(tactic| walk_at "w") => `(tactic| ((first | refine nrm_go ?_ | refine WpS.ok ?_ | refine WpE.ok ?_ | skip); walk_at "w1"))
local macro_rules | `(tactic| walk_at "wm") => `(tactic| (walk_at "w"; (repeat (walk_at "wa"; walk_at "w1"))))
def b__law_same (g__law_same : FnD) : FS :=
  (sSeq (sIf (eOp dIs (eVar 1) (eC .non)) (sRet (wSh (eOp dIs (eVar 0) (eC .non)))) sNx)
    (sSeq (sIf (eOr (eCB dIsi (aVal (eVar 1) (aVal (eC (.ty "list")) aNil))) (eCB dIsi (aVal (eVar 1) (aVal (eC (.ty "tuple")) aNil)))) (sSeq (sIf (eOr (eOp dNe (eCB dIsi (aVal (eVar 0) (aVal (eC (.ty "list")) aNil))) (eCB dIsi (aVal (eVar 1) (aVal (eC (.ty "list")) aNil)))) (eOp dNe (eCB dIsi (aVal (eVar 0) (aVal (eC (.ty "tuple")) aNil))) (eCB dIsi (aVal (eVar 1) (aVal (eC (.ty "tuple")) aNil))))) (sRet (wSh (eC (.bl false)))) sNx)
    (sRet (wSh (eAnd (eOp dEq (eCB dLen (aVal (eVar 0) aNil)) (eCB dLen (aVal (eVar 1) aNil))) (eCB dAll (aVal (eFrz (wLc [2, 3] (iArgs zipO (aVal (eVar 0) (aVal (eVar 1) aNil))) (gT 2 (gsCons (gN 2) (gsCons (gN 3) gsNil))) (eC (.bl true)) (eFrz (wCall 2 g__law_same (aVal (eVar 2) (aVal (eVar 3) aNil)))))) aNil)))))) sNx)
    (sSeq (sIf (eOr (eOp dNe (eCB dIsi (aVal (eVar 1) (aVal (eC (.ty "bool")) aNil))) (eCB dIsi (aVal (eVar 0) (aVal (eC (.ty "bool")) aNil)))) (eOp dNe (eCB dIsi (aVal (eVar 1) (aVal (eC (.ty "int")) aNil))) (eCB dIsi (aVal (eVar 0) (aVal (eC (.ty "int")) aNil))))) (sRet (wSh (eC (.bl false)))) sNx)
    (sRet (wSh (eAnd (eOp dEq (eCB dIsi (aVal (eVar 0) (aVal (eC (.ty "str")) aNil))) (eCB dIsi (aVal (eVar 1) (aVal (eC (.ty "str")) aNil)))) (eOp dEq (eVar 0) (eVar 1))))))))
def fr__law_same : Nat → FnD
  | 0 => fun _ => none
  | n + 1 => callF 4 [] (b__law_same (fr__law_same n))
abbrev f__law_same : FnD := fr__law_same 20
/-! the data that `same` takes -/
mutual
inductive Same1 : Nat → Dt → Prop
  | non (n : Nat) : Same1 n .non
  | bl (n : Nat) (b : Bool) : Same1 n (.bl b)
  | int (n : Nat) (i : Int) : Same1 n (.int i)
  | str (n : Nat) (x : Str) : Same1 n (.str x)
  | tup (n : Nat) {xs : List Dt} : Same2 n xs → xs.length ≤ 1000 → Same1 (n + 1) (.tup xs)
  | lst (n : Nat) {xs : List Dt} : Same2 n xs → xs.length ≤ 1000 → Same1 (n + 1) (.lst xs)
inductive Same2 : Nat → List Dt → Prop
  | nil (n : Nat) : Same2 n []
  | cons {n : Nat} {d : Dt} {ds : List Dt} : Same1 n d → Same2 n ds → Same2 n (d :: ds)
end
theorem bools_rep (n : Nat) : bools (List.replicate n (.bl true)) = some (List.replicate n true) := by
  induction n with
  | zero => rfl
  | succ n ih => rw [List.replicate_succ, List.replicate_succ]; unfold bools; rw [ih]; rfl
theorem same_comp {n : Nat} (ih : ∀ d, Same1 n d → fr__law_same (n + 1) [.sh d, .sh d] = some (.ok (.sh (.bl true)), [])) (d1 d2 : Dt) (xs : List Dt) (hs : Same2 n xs) (hl : xs.length ≤ 1000) :
    EvL [2, 3] (gT 2 (gsCons (gN 2) (gsCons (gN 3) gsNil))) (eC (.bl true)) (eFrz (wCall 2 (fr__law_same (n + 1)) (aVal (eVar 2) (aVal (eVar 3) aNil)))) (zipD xs xs) [some (.sh d1), some (.sh d2), none, none] [] fun ys ρ' => ys = List.replicate xs.length (.bl true) ∧ ρ' = [some (.sh d1), some (.sh d2), none, none] := by
  refine lc_inv (fun ds ρ acc => ∃ (zs : List Dt) (k : Nat), ds = zipD zs zs ∧ Same2 n zs ∧ ρ = [some (.sh d1), some (.sh d2), none, none] ∧ acc = List.replicate k (.bl true) ∧ k + zs.length = xs.length) ?_ ?_ _ _ _ ⟨xs, 0, rfl, hs, rfl, rfl, by omega⟩
  · rintro d ds ρ acc ⟨zs, k, e, hz, rfl, rfl, hk⟩
    cases hz with
    | nil => cases e
    | cons h hs =>
      rename_i z zs
      have e' : d = .tup [z, z] ∧ ds = zipD zs zs := by
        injection e with e1 e2
        exact ⟨e1, e2⟩
      obtain ⟨rfl, rfl⟩ := e'
      rw [List.length_cons] at hk
      walk_at "w"
      refine ef_eq (ih z h) ?_
      refine ⟨by rw [List.length_replicate]; omega, zs, k + 1, rfl, hs, rfl, ?_, by omega⟩
      exact (List.replicate_succ' (n := k) (a := Dt.bl true)).symm
  · rintro ρ acc ⟨zs, k, e, hz, rfl, rfl, hk⟩
    cases hz with
    | nil => simp at hk; rw [hk]; exact ⟨rfl, rfl⟩
    | cons h hs => cases e
theorem same_eq : ∀ (n : Nat) (d : Dt), Same1 n d → fr__law_same (n + 1) [.sh d, .sh d] = some (.ok (.sh (.bl true)), [])
  | _, _, .non n => rfl
  | _, _, .bl n b => by
    refine fn_eq (ef_in rfl ?_)
    unfold b__law_same
    walk_at "w"
    exact ⟨by simp, rfl⟩
  | _, _, .int n i => by
    refine fn_eq (ef_in rfl ?_)
    unfold b__law_same
    walk_at "w"
    exact ⟨by simp, rfl⟩
  | _, _, .str n x => by
    refine fn_eq (ef_in rfl ?_)
    unfold b__law_same
    walk_at "w"
    exact ⟨by simp, rfl⟩
  | _, _, .tup n hs hl => by
    refine fn_eq (ef_in rfl ?_)
    unfold b__law_same
    walk_at "w"
    refine wtt (by simp) ?_
    walk_at "w"
    refine (same_comp (same_eq n) (.tup _) (.tup _) _ hs hl).imp ?_
    rintro _ _ ⟨rfl, rfl⟩
    walk_at "w"
    refine wo (by unfold dAll; dsimp only; rw [bools_rep]; rfl) ?_
    walk_at "w"
    exact ⟨by simp, rfl⟩
  | _, _, .lst n hs hl => by
    refine fn_eq (ef_in rfl ?_)
    unfold b__law_same
    walk_at "w"
    refine wtt (by simp) ?_
    walk_at "w"
    refine (same_comp (same_eq n) (.lst _) (.lst _) _ hs hl).imp ?_
    rintro _ _ ⟨rfl, rfl⟩
    walk_at "w"
    refine wo (by unfold dAll; dsimp only; rw [bools_rep]; rfl) ?_
    walk_at "w"
    exact ⟨by simp, rfl⟩
theorem same_amt (n : Nat) (p : Int × Int) : Same1 (n + 1) (amt p) := .tup n (.cons (.int n _) (.cons (.int n _) (.nil n))) (Nat.le_of_ble_eq_true rfl)
end Lw
namespace DL
open PySem PySem.Spec PyProof.Rows L2 RZ
/-! ### a, *b, c = seq -/
theorem walksTail {prog : Program} {w : World} {A : Around} {I : Addr} {fp wr : List Addr} {G : Array GenState → Array GenState → Prop} {n : Nat} {P : Nat → Value → Prop} {St : Nat → Shared → Prop}
    (W : WalksS prog w A I fp wr G n P St) (i : Nat) (hi : i ≤ n) : WalksS prog w A I fp wr G (n - i) (fun j => P (i + j)) (fun j => St (i + j)) where
  sub := W.sub
  grefl := W.grefl
  gtrans := W.gtrans
  frame := fun j => W.frame (i + j)
  item := fun j s Q E hj st hQ => W.item (i + j) s Q E (by omega) st hQ
  done := fun s Q E st hQ => W.done s Q E (by rw [show i + (n - i) = n by omega] at st; exact st) hQ
  self := fun j => W.self (i + j)
theorem items_drop {items acc : Array Value} {i : Nat} (hi : i ≤ items.size) (h : ItemsOf (fun j v => items[i + j]? = some v) acc (items.size - i)) : acc.toList = items.toList.drop i := by
  obtain ⟨h1, h2⟩ := h
  apply List.ext_getElem?
  intro j
  rw [List.getElem?_drop]
  by_cases hj : j < acc.size
  · have e : acc[j]? = some acc[j] := Array.getElem?_eq_getElem hj
    have := h2 j _ e
    rw [Array.getElem?_toList, Array.getElem?_toList, e, this]
  · rw [List.getElem?_eq_none (by simpa using hj), List.getElem?_eq_none (by simp; omega)]
section
variable {prog : Program} {w : World} {A : Around} {E : Value → Shared → Prop} {s : Shared}
theorem unpackStar_tuple {t : Addr} {items : Array Value} {n i after : Nat} {Q : List Value → Shared → Prop} (hh : A.handled = none) (ht : s.heap.IsTuple t items) (hn : n = i + 1 + after) (hl : i + after ≤ items.size) (hz : items.size ≤ sizeLine)
    (hQ : ∀ (h' : Heap) (tk : Nat), (∀ b o, s.heap.get? b = some o → h'.get? b = some o) →
      Q (items.toList.take i ++ [.ref h'.objs.size] ++ (items.toList.drop i).drop (items.size - i - after)) { s with heap := h'.push { cls := .type "list", data := .seq (((items.toList.drop i).take (items.size - i - after)).toArray) }, toks := tk }) : wpAny (model prog w) A (unpackItems (.ref t) n (some i)) Q E s := by
  have hlt : t ≠ s.heap.objs.size := by obtain ⟨o, ho, _⟩ := ht; exact Nat.ne_of_lt (Heap.lt_size ho)
  obtain ⟨hp, g, d, tk0, os⟩ := s
  unfold unpackItems
  refine wpAny_bind ?_
  unfold notIterableAtAll
  refine wpAny_bind (wpAny_specialOf ht.typeIs slot_tuple_iter.lookup ?_)
  refine wpAny_pure ?_
  simp only [Bool.false_eq_true, if_false]
  refine wpAny_bind (wpAny_holding (iter_tuple ht ?_))
  refine wpAny_bind (wpAny_holding (draw_tuple hlt i 0 _ _ ⟨_, Heap.get?_push_size _ rfl, rfl, rfl⟩ (IsTup.push ht _) (by omega) fun h₁ hit₁ hs₁ => ?_))
  rw [List.drop_zero, if_neg (by simp; omega)]
  rw [Nat.zero_add] at hit₁
  have ht₁ : h₁.IsTuple t items := (IsTup.push ht _).extBut hs₁.extBut hlt
  have hW := walksTail (Walks.tuple (prog := prog) (w := w) (A := A.in1) hh hp.objs.size t hlt items).toS i (by omega)
  have hl1 : ∀ b ∈ [hp.objs.size, t], b < h₁.objs.size := fun b hb => by
    have e' : b = hp.objs.size ∨ b = t := by simpa using hb
    rcases e' with q | q
    · rw [q]; obtain ⟨o, ho, _⟩ := hit₁; exact Heap.lt_size ho
    · rw [q]; obtain ⟨o, ho, _⟩ := ht₁; exact Heap.lt_size ho
  refine wpAny_bind (wpAny_holding (wpAny_collect_iter (s := ⟨h₁, g, d, tk0, os⟩) (T := "tuple_iterator") (by simp) hW (fun j s st => by obtain ⟨o, ho, hc, _⟩ := st.1; exact ⟨o, ho, hc⟩) ⟨hit₁, ht₁⟩ hl1 (by simp) ?_ (by omega)))
  intro s' acc hm hacc
  obtain ⟨hp', g', d', tk', os'⟩ := s'
  have e1 : g' = g := hm.gens
  have e2 : d' = d := hm.drawn
  have e3 : os' = os := hm.os
  subst e1 e2 e3
  have ea := items_drop (by omega) hacc
  simp only [ea]
  have el : (items.toList.drop i).length = items.size - i := by simp
  have keep : ∀ b o, hp.get? b = some o → hp'.get? b = some o := fun b o e => hm.heap b o (by simp; exact Nat.ne_of_lt (Heap.lt_size e)) (hs₁.extBut b o (Nat.ne_of_lt (Heap.lt_size e)) (Heap.get?_push_of_some _ e))
  rw [if_neg (by rw [el]; omega)]
  refine wpAny_bind (wpAny_newList ?_ (by simp; omega))
  refine wpAny_pure ?_
  rw [el, show items.size - i - (n - 1 - i) = items.size - i - after by omega]
  exact hQ hp' tk' keep
theorem unpackStar_list {t : Addr} {items : Array Value} {n i after : Nat} {Q : List Value → Shared → Prop} (hh : A.handled = none) (ht : s.heap.IsList t items) (hn : n = i + 1 + after) (hl : i + after ≤ items.size) (hz : items.size ≤ sizeLine)
    (hQ : ∀ (h' : Heap) (tk : Nat), (∀ b o, s.heap.get? b = some o → h'.get? b = some o) →
      Q (items.toList.take i ++ [.ref h'.objs.size] ++ (items.toList.drop i).drop (items.size - i - after)) { s with heap := h'.push { cls := .type "list", data := .seq (((items.toList.drop i).take (items.size - i - after)).toArray) }, toks := tk }) : wpAny (model prog w) A (unpackItems (.ref t) n (some i)) Q E s := by
  have hlt : t ≠ s.heap.objs.size := by obtain ⟨o, ho, _⟩ := ht; exact Nat.ne_of_lt (Heap.lt_size ho)
  obtain ⟨hp, g, d, tk0, os⟩ := s
  unfold unpackItems
  refine wpAny_bind ?_
  unfold notIterableAtAll
  refine wpAny_bind (wpAny_specialOf ht.typeIs slot_list_iter.lookup ?_)
  refine wpAny_pure ?_
  simp only [Bool.false_eq_true, if_false]
  refine wpAny_bind (wpAny_holding (wpAny_pyIter_list ht ?_))
  refine wpAny_bind (wpAny_holding (PySem.W.kun_draw hlt i 0 _ _ ⟨_, Heap.get?_push_size _ rfl, rfl, rfl⟩ (Heap.IsList.push ht _) (by omega) fun h₁ hit₁ hs₁ => ?_))
  rw [List.drop_zero, if_neg (by simp; omega)]
  rw [Nat.zero_add] at hit₁
  have ht₁ : h₁.IsList t items := (Heap.IsList.push ht _).extBut hs₁.extBut hlt
  have hW := walksTail (Walks.list (prog := prog) (w := w) (A := A.in1) hh hp.objs.size t hlt items).toS i (by omega)
  have hl1 : ∀ b ∈ [hp.objs.size, t], b < h₁.objs.size := fun b hb => by
    have e' : b = hp.objs.size ∨ b = t := by simpa using hb
    rcases e' with q | q
    · rw [q]; obtain ⟨o, ho, _⟩ := hit₁; exact Heap.lt_size ho
    · rw [q]; obtain ⟨o, ho, _⟩ := ht₁; exact Heap.lt_size ho
  refine wpAny_bind (wpAny_holding (wpAny_collect_iter (s := ⟨h₁, g, d, tk0, os⟩) (T := "list_iterator") (by simp) hW (fun j s st => by obtain ⟨o, ho, hc, _⟩ := st.1; exact ⟨o, ho, hc⟩) ⟨hit₁, ht₁⟩ hl1 (by simp) ?_ (by omega)))
  intro s' acc hm hacc
  obtain ⟨hp', g', d', tk', os'⟩ := s'
  have e1 : g' = g := hm.gens
  have e2 : d' = d := hm.drawn
  have e3 : os' = os := hm.os
  subst e1 e2 e3
  have ea := items_drop (by omega) hacc
  simp only [ea]
  have el : (items.toList.drop i).length = items.size - i := by simp
  have keep : ∀ b o, hp.get? b = some o → hp'.get? b = some o := fun b o e => hm.heap b o (by simp; exact Nat.ne_of_lt (Heap.lt_size e)) (hs₁.extBut b o (Nat.ne_of_lt (Heap.lt_size e)) (Heap.get?_push_of_some _ e))
  rw [if_neg (by rw [el]; omega)]
  refine wpAny_bind (wpAny_newList ?_ (by simp; omega))
  refine wpAny_pure ?_
  rw [el, show items.size - i - (n - 1 - i) = items.size - i - after by omega]
  exact hQ hp' tk' keep
end
/-! over the layer -/
def gStar (K : PySem.W.Frag) (i after : Nat) (t : TGs) : TG := fun v σ H Q => ∃ a xs, v = .ref a ∧ (SqT K H a xs ∨ SqL K H a xs) ∧ i + after ≤ xs.length ∧
  ∀ p, H p = none → t (xs.take i ++ [.ref p] ++ (xs.drop i).drop (xs.length - i - after)) σ (upd H p (.lst ((xs.drop i).take (xs.length - i - after)))) Q
section
variable {X : Cx} {pos p : Pos}
theorem pgs_star {e : Expr} {es : List Expr} {t : TG} {u : TGs} (h1 : PG X e t) (h2 : PGs X es u)
    (hs : (assignEach (.Starred e p :: es) X.env).map (·.2) = assign e X.env :: (assignEach es X.env).map (·.2) := by rfl) : PGs X (.Starred e p :: es) (gCons t u) := by
  refine ⟨fun pins s σ H vs us Q I r h => ?_⟩
  obtain ⟨v, vr, e1, h⟩ := h
  subst e1
  cases r with
  | cons r rr =>
    rw [hs]
    refine assignInOrder_cons (thn (h1.run pins s σ H _ _ _ I r h) fun _ s1 ⟨σ1, H1, I1, q1⟩ => ?_)
    exact h2.run pins s1 σ1 H1 _ _ _ I1 rr q1
theorem pg_star {es : List Expr} {k : Nat} {t : TGs} {n i after : Nat} (hc : X.calm = true) (h : PGs X es t) (hn : (assignEach es X.env).length = n) (hst : (assignEach es X.env).findIdx? (·.1) = some i) (hni : n = i + 1 + after) : PG X (.Tuple es k pos) (gStar X.K i after t) := by
  refine ⟨fun pins s σ H v u Q I r hw => ?_⟩
  obtain ⟨a, xs, e1, hq, hl, hw⟩ := hw
  subst e1
  cases r
  rw [PyProof.Rows.assign_Tuple]
  refine wpAny_bind (wpAny_standAt ?_)
  unfold unpack
  rw [hn, hst]
  have fin : ∀ (its : List Value), Vals xs its → xs.length ≤ sizeLine → ∀ (h' : Heap) (tk : Nat), (∀ b o, s.heap.get? b = some o → h'.get? b = some o) →
      wpAny (model X.prog X.w) X.A (assignInOrder ((assignEach es X.env).map (·.2)) (its.toArray.toList.take i ++ [.ref h'.objs.size] ++ (its.toArray.toList.drop i).drop (its.toArray.size - i - after))) (fun _ s' => ∃ σ' H', Inv X pins σ' H' s' ∧ Q σ' H') X.xe
        { s with heap := h'.push { cls := .type "list", data := .seq (((its.toArray.toList.drop i).take (its.toArray.size - i - after)).toArray) }, toks := tk } := fun its rv hz h' tk hk => by
    have I1 : Inv X pins σ H { s with heap := h' } := I.kept (t' := s.toks) hk
    have hlen : its.toArray.size = xs.length := by rw [List.size_toArray]; exact rv.length.symm
    have I2 : Inv X pins σ (upd H h'.objs.size (.lst ((xs.drop i).take (xs.length - i - after)))) { s with heap := h'.push { cls := .type "list", data := .seq (((its.toArray.toList.drop i).take (its.toArray.size - i - after)).toArray) }, toks := tk } :=
      I1.laid (t' := tk) (fun b o e => Heap.get?_push_of_some _ e) (Nat.le_refl _) ⟨by simp; omega, (its.drop i).take (its.toArray.size - i - after), 0, by rw [hlen]; exact (rv.drop i).take _, Heap.get?_push_size _ rfl⟩
    refine h.run pins _ σ _ _ _ Q I2 ?_ (hw h'.objs.size (I1.hok.fresh (Nat.le_refl _)))
    rw [hlen]
    exact ((rv.take i).append (.cons (show RelV (.ref h'.objs.size) (.ref h'.objs.size) from rfl) .nil)).append ((rv.drop i).drop _)
  rcases hq with hq | hq
  · obtain ⟨its, rv, ht, hz⟩ := I.tuple hq
    refine wpAny_bind (wpAny_holding (unpackStar_tuple (after := after) (I.ok.hd hc) ht hni (by rw [List.size_toArray, ← rv.length]; exact hl) (by rw [List.size_toArray, ← rv.length]; exact hz) (fin its rv hz)))
  · obtain ⟨its, rv, ht, hz⟩ := I.list hq
    refine wpAny_bind (wpAny_holding (unpackStar_list (after := after) (I.ok.hd hc) ht.isList hni (by rw [List.size_toArray, ← rv.length]; exact hl) (by rw [List.size_toArray, ← rv.length]; exact hz) (fin its rv hz)))
end
/-! as data; the middle is a list that stays -/
def LGn (K : PySem.W.Frag) (P : Pt) (g : GD) : TG := fun v σ H Q => ∃ F ρ d ρ', Rel K P F H σ ρ ∧ Rp K F d v ∧ g d ρ = some ρ' ∧ ∀ F' H' σ', Same F F' → Rel K P F' H' σ' ρ' → Q σ' H'
def starX (i after : Nat) (ds : List Dt) : List Dt := ds.take i ++ [.lst ((ds.drop i).take (ds.length - i - after))] ++ (ds.drop i).drop (ds.length - i - after)
def gTs (i after : Nat) (gs : List Dt → Rho → Option Rho) : GD := fun d ρ => match d with
  | .tup ds => if i + after ≤ ds.length then gs (starX i after ds) ρ else none
  | .lst ds => if i + after ≤ ds.length then gs (starX i after ds) ρ else none
  | _ => none
section
variable {X : Cx} {P : Pt} {Wx : WX} {pos p : Pos} {e tg : Expr} {fe : FE}
theorem g_star {es : List Expr} {ts us : List Nat} {g : GD} {gs : List Dt → Rho → Option Rho} (h1 : PG X e (LG X.K P ts g)) (h2 : PGs X es (LGs X.K P us gs))
    (hs : (assignEach (.Starred e p :: es) X.env).map (·.2) = assign e X.env :: (assignEach es X.env).map (·.2) := by rfl) : PGs X (.Starred e p :: es) (LGs X.K P (ts ++ us) (gsCons g gs)) := PGsm (pgs_star h1 h2 hs) fun vs σ H Q h => by
  obtain ⟨F, ρ, ds, ρ', r, p, e, q⟩ := h
  cases p with
  | nil => cases e
  | cons p1 p2 =>
    rename_i d v ds vs
    unfold gsCons at e
    simp only [] at e
    cases e1 : g d ρ with
    | none => rw [e1] at e; cases e
    | some ρ1 =>
      rw [e1] at e
      exact ⟨v, vs, rfl, F, ρ, d, ρ1, r, p1, e1, fun σ' r' b1 => ⟨F, ρ1, ds, ρ', r', p2, e, fun σ2 r2 b2 => q σ2 r2 (b1.trans b2)⟩⟩
theorem g_tupS (i after : Nat) {es : List Expr} {k : Nat} {ts : List Nat} {gs : List Dt → Rho → Option Rho} {n : Nat} (hc : X.calm = true) (h : PGs X es (LGs X.K P ts gs))
    (hn : (assignEach es X.env).length = n := by rfl) (hst : (assignEach es X.env).findIdx? (·.1) = some i := by rfl) (hni : n = i + 1 + after := by rfl) : PG X (.Tuple es k pos) (LGn X.K P (gTs i after gs)) := PGm (pg_star hc h hn hst hni) fun v σ H Q h => by
  obtain ⟨F, ρ, d, ρ', r, p, e, q⟩ := h
  have fin : ∀ (ds : List Dt) (vs : List V), Rps X.K F ds vs → gs (starX i after ds) ρ = some ρ' → ∀ a, H a = none → LGs X.K P ts gs (vs.take i ++ [.ref a] ++ (vs.drop i).drop (vs.length - i - after)) σ (upd H a (.lst ((vs.drop i).take (vs.length - i - after)))) Q := fun ds vs hr e a na => by
    have gg := Grow.lay (o := .lst ((vs.drop i).take (vs.length - i - after))) r.fh na
    refine ⟨_, ρ, starX i after ds, ρ', r.grow gg, ?_, e, fun σ' r' _ => q _ _ σ' gg.f r'⟩
    have hr' := hr.mono gg.f
    unfold starX
    rw [hr.length]
    exact ((hr'.take i).append (.cons (.lst upd_same ((hr'.drop i).take _)) .nil)).append ((hr'.drop i).drop _)
  cases p with
  | tup hq hr =>
    unfold gTs at e
    simp only [] at e
    split at e
    · rename_i hl
      exact ⟨_, _, rfl, .inl (same_sqT r.fh hq), by rw [← hr.length]; exact hl, fin _ _ hr e⟩
    · cases e
  | lst hq hr =>
    unfold gTs at e
    simp only [] at e
    split at e
    · rename_i hl
      exact ⟨_, _, rfl, .inr (.inl (.inl (r.fh _ _ hq))), by rw [← hr.length]; exact hl, fin _ _ hr e⟩
    · cases e
  | _ => cases e
theorem s_asgS {g : GD} (hg : PG X tg (LGn X.K P g)) (he : PE X e (LE X.K P Wx fe)) (hs : swapsWithSole [tg] e pos.line X.env = pure false := by rfl) (hw : swappedStores [tg] e X.env = pure none := by rfl)
    (h1 : (assignEach [tg] X.env).map (·.2) = [assign tg X.env] := by rfl) : PS X (.Assign [tg] e pos) (LS X.K P Wx (sAsgT g fe)) := PSm (ps_asg he hg hs hw h1) fun D σ H h => by
  obtain ⟨F, ρ, r, q⟩ := h
  refine LE.bindS r q fun d ρ1 F1 H1 v s1 r1 p1 q1 => ?_
  cases e : g d ρ1 with
  | none => simp only [e] at q1; exact q1.elim
  | some ρ2 =>
    simp only [e] at q1
    exact ⟨F1, ρ1, d, ρ2, r1, p1, e, fun F' H' σ' s' r' => q1 F' H' σ' s' r'⟩
end
end DL
namespace DLZ
open PySem PySem.Spec PyProof.Rows
/-! ### zip(.., strict=True) over two iterators -/
abbrev IsZs (h : Heap) (z TI TO : Addr) (f0 : Value) : Prop := h.get? z = some { cls := .type "zip", dict := none, data := .fields #[f0, .bool false, .bool true, .ref TI, .ref TO], slots := #[] }
section
variable {prog : Program} {w : World} {A : Around} {E : Value → Shared → Prop} {s : Shared} {it : Addr} {fp : List Addr} {n i : Nat} {P : Nat → Value → Prop} {St : Nat → Heap → Prop} {Q : Option Value → Shared → Prop}
theorem draw_item (D : Draws prog w A it fp n P St) (hlt : i < n) (st : St i s.heap) (hQ : ∀ x h' tk, P i x → St (i + 1) h' → Heap.SameBut it s.heap h' → Q (some x) { s with heap := h', toks := tk }) : wpAny (model prog w) A (Builtin.SmallTypes.nextOrEnd (.ref it)) Q E s := by
  unfold Builtin.SmallTypes.nextOrEnd
  exact wpAny_bind (wpAny_attempt (D.item i s _ _ hlt st fun x h' tk a b c => wpAny_pure (hQ x h' tk a b c)))
theorem draw_end (D : Draws prog w A it fp n P St) (st : St n s.heap) (hQ : ∀ h', Heap.ExtBut it s.heap h' → Q none { s with heap := h' }) : wpAny (model prog w) A (Builtin.SmallTypes.nextOrEnd (.ref it)) Q E s := by
  unfold Builtin.SmallTypes.nextOrEnd
  refine wpAny_bind (wpAny_attempt (D.done s _ _ st fun h' e hx he => ?_))
  obtain ⟨o, ho, hc⟩ := he
  exact wpAny_bind (wpAny_isInstance (T := "StopIteration") (b := true) ⟨o, ho, hc⟩ isSubtype_stop (wpAny_pure (hQ h' hx)))
end
section
variable {prog : Program} {w : World} {A : Around} {E : Value → Shared → Prop} {s : Shared} {z TI TO i1 i2 : Addr} {fp1 fp2 : List Addr} {n1 n2 i : Nat} {P1 P2 : Nat → Value → Prop} {St1 St2 : Nat → Heap → Prop} {a1 a2 : Value}
theorem next_item {Q : Value → Shared → Prop} (S : ZipSep2 z TI TO i1 i2 fp1 fp2) (D1 : Draws prog w A i1 fp1 n1 P1 St1) (D2 : Draws prog w A i2 fp2 n2 P2 St2)
    (hz : IsZs s.heap z TI TO .none) (hTI : IsTupOf2 s.heap TI (.ref i1) (.ref i2)) (hTO : IsTupOf2 s.heap TO a1 a2) (st1 : St1 i s.heap) (st2 : St2 i s.heap) (hlt1 : i < n1) (hlt2 : i < n2)
    (hQ : ∀ x1 x2 h' tk, P1 i x1 → P2 i x2 → IsZs h' z TI TO (rawInt s.heap.objs.size) → IsTupOf2 h' TO x1 x2 → St1 (i + 1) h' → St2 (i + 1) h' → IsTupOf2 h' s.heap.objs.size x1 x2 → h'.objs.size = s.heap.objs.size + 1 →
      (∀ c o, c ≠ z → c ≠ TO → c ≠ i1 → c ≠ i2 → s.heap.get? c = some o → h'.get? c = some o) → Q (.ref s.heap.objs.size) { s with heap := h', toks := tk }) :
    wpAny (model prog w) A (Builtin.«zip.__next__» ⟨[.ref z], []⟩) (fun fin s' => ∃ v, fin = .done (.ret v) ∧ Q v s') E s := by
  obtain ⟨hp, g, d, tk0, os⟩ := s
  show wpAny _ _ (field (.ref z) 2 >>= _) _ _ _; refine wpAny_bind (wpAny_field hz rfl (x := .bool true) rfl ?_)
  show wpAny _ _ (field (.ref z) 3 >>= _) _ _ _; refine wpAny_bind (wpAny_field hz rfl (x := .ref TI) rfl (wpAny_bind (wpAny_seqItems hTI rfl ?_)))
  show wpAny _ _ (Builtin.SmallTypes.ownedTupleIsFree (.ref z) >>= _) _ _ _; refine wpAny_bind ?_; unfold Builtin.SmallTypes.ownedTupleIsFree
  refine wpAny_bind (wpAny_field hz rfl (x := .none) rfl (wpAny_pure ?_)); simp only [if_true]
  refine wpAny_bind (wpAny_rule (wpAny_bind (wpAny_field hz rfl (x := .ref TO) rfl (wpAny_bind (wpAny_setField_rec hz (by simp) fun g0 hz0 hs0 => wpAny_bind ?_)))))
  replace hz0 : IsZs g0 z TI TO .ellipsis := hz0; replace hs0 : Heap.SameBut z hp g0 := hs0
  simp only [List.zipIdx_cons, List.zipIdx_nil, List.forIn_cons, List.forIn_nil]; refine wpAny_bind (wpAny_bind (wpAny_onRaise ?_))
  show wpAny _ _ (Builtin.SmallTypes.nextOrEnd (.ref i1)) _ _ ⟨g0, g, d, tk0, os⟩
  refine draw_item D1 hlt1 (D1.over st1 hs0 S.zf1) fun x1 p1 tk1 hx1 sn1 hp1 => ?_
  replace hp1 : Heap.SameBut i1 g0 p1 := hp1; have hU1 : IsTupOf2 p1 TO a1 a2 := hp1.extBut _ _ S.Ti1 (hs0.extBut _ _ S.TOz hTO)
  refine wpAny_bind (wpAny_seqItems (s := ⟨p1, g, d, tk1, os⟩) hU1 rfl (wpAny_bind (updateSeq_IsTupOf2 (s := ⟨p1, g, d, tk1, os⟩) hU1 fun g1 hT1 hs1 => wpAny_bind (wpAny_letGo (wpAny_pure ?_)))))
  replace hT1 : IsTupOf2 g1 TO x1 a2 := hT1; replace hs1 : Heap.SameBut TO p1 g1 := hs1
  refine wpAny_bind (wpAny_bind (wpAny_onRaise ?_)); show wpAny _ _ (Builtin.SmallTypes.nextOrEnd (.ref i2)) _ _ ⟨g1, g, d, tk1, os⟩
  refine draw_item D2 hlt2 (D2.over (D2.over (D2.over st2 hs0 S.zf2) hp1 S.sep1_2) hs1 S.Tf2) fun x2 p2 tk2 hx2 sn2 hp2 => ?_
  replace hp2 : Heap.SameBut i2 g1 p2 := hp2; have hU2 : IsTupOf2 p2 TO x1 a2 := hp2.extBut _ _ S.Ti2 hT1
  refine wpAny_bind (wpAny_seqItems (s := ⟨p2, g, d, tk2, os⟩) hU2 rfl (wpAny_bind (updateSeq_IsTupOf2 (s := ⟨p2, g, d, tk2, os⟩) hU2 fun g2 hT2 hs2 => wpAny_bind (wpAny_letGo (wpAny_pure (wpAny_pure ?_))))))
  replace hT2 : IsTupOf2 g2 TO x1 x2 := hT2; replace hs2 : Heap.SameBut TO p2 g2 := hs2
  refine wpAny_bind (wpAny_seqItems (s := ⟨g2, g, d, tk2, os⟩) hT2 rfl (wpAny_bind (wpAny_newTuple ?_)))
  have hsz : g2.objs.size = hp.objs.size := hs2.1.trans (hp2.1.trans (hs1.1.trans (hp1.1.trans hs0.1)))
  have hzz : IsZs g2 z TI TO .ellipsis := hs2.extBut _ _ S.TOz.symm (hp2.extBut _ _ S.zi2 (hs1.extBut _ _ S.TOz.symm (hp1.extBut _ _ S.zi1 hz0)))
  have hkk : ∀ c o, c ≠ z → c ≠ TO → c ≠ i1 → c ≠ i2 → hp.get? c = some o → g2.get? c = some o := fun c o cz cT c1 c2 e => hs2.extBut _ _ cT (hp2.extBut _ _ c2 (hs1.extBut _ _ cT (hp1.extBut _ _ c1 (hs0.extBut _ _ cz e))))
  have hj1 : St1 (i + 1) g2 := D1.over (D1.over (D1.over sn1 hs1 S.Tf1) hp2 S.sep2_1) hs2 S.Tf1; have hj2 : St2 (i + 1) g2 := D2.over sn2 hs2 S.Tf2
  have hzlt : z < g2.objs.size := Heap.lt_size hzz
  show wpAny _ _ (Builtin.SmallTypes.ownedTupleHandOut (.ref z) (.ref g2.objs.size) >>= _) _ _ ⟨g2.push { cls := .type "tuple", data := .seq #[x1, x2] }, g, d, tk2, os⟩; refine wpAny_bind ?_; unfold Builtin.SmallTypes.ownedTupleHandOut
  have hz6 : IsZs (g2.push { cls := .type "tuple", data := .seq #[x1, x2] }) z TI TO .ellipsis := Heap.get?_push_of_some _ hzz
  refine wpAny_bind (wpAny_setField_rec hz6 (by simp) fun h7 hz7 hs7 => ?_); replace hz7 : IsZs h7 z TI TO (rawInt g2.objs.size) := hz7
  refine wpAny_setField_rec hz7 (by simp) fun h8 hz8 hs8 => ?_; replace hz8 : IsZs h8 z TI TO (rawInt g2.objs.size) := hz8
  replace hs7 : Heap.SameBut z (g2.push { cls := .type "tuple", data := .seq #[x1, x2] }) h7 := hs7; replace hs8 : Heap.SameBut z h7 h8 := hs8
  have up : ∀ c o, c ≠ z → g2.get? c = some o → h8.get? c = some o := fun c o c1 e => hs8.extBut _ _ c1 (hs7.extBut _ _ c1 (Heap.get?_push_of_some _ e))
  have hT8 : IsTupOf2 h8 g2.objs.size x1 x2 := hs8.extBut _ _ (Nat.ne_of_gt hzlt) (hs7.extBut _ _ (Nat.ne_of_gt hzlt) (Heap.get?_push_size _ rfl))
  have hz9 : h8.objs.size = g2.objs.size + 1 := by rw [hs8.1, hs7.1, Heap.size_push]
  rw [hsz] at hz8 hT8 hz9
  refine wpAny_pure ⟨_, rfl, ?_⟩; show Q (.ref g2.objs.size) ⟨h8, g, d, tk2, os⟩; rw [hsz]
  exact hQ x1 x2 h8 tk2 hx1 hx2 hz8 (up _ _ S.TOz hT2) (D1.frame _ _ _ hj1 fun b hb o e => up b o (fun q => S.zf1 (q ▸ hb)) e) (D2.frame _ _ _ hj2 fun b hb o e => up b o (fun q => S.zf2 (q ▸ hb)) e) hT8 hz9 fun c o cz cT c1 c2 e => up c o cz (hkk c o cz cT c1 c2 e)
/-- both have come to their end -/
theorem next_end {Q : Fin → Shared → Prop} (hh : A.handled = none) (S : ZipSep2 z TI TO i1 i2 fp1 fp2) (D1 : Draws prog w A i1 fp1 i P1 St1) (D2 : Draws prog w A i2 fp2 i P2 St2)
    (hz : IsZs s.heap z TI TO .none) (hTI : IsTupOf2 s.heap TI (.ref i1) (.ref i2)) (hTO : IsTupOf2 s.heap TO a1 a2) (st1 : St1 i s.heap) (st2 : St2 i s.heap)
    (hE : ∀ h' tk e, (∀ c o, c ≠ z → c ≠ TO → c ≠ i1 → c ≠ i2 → s.heap.get? c = some o → h'.get? c = some o) → (∃ o, h'.get? e = some o ∧ o.cls = .type "StopIteration") → E (.ref e) { s with heap := h', toks := tk }) :
    wpAny (model prog w) A (Builtin.«zip.__next__» ⟨[.ref z], []⟩) Q E s := by
  obtain ⟨hp, g, d, tk0, os⟩ := s
  show wpAny _ _ (field (.ref z) 2 >>= _) _ _ _; refine wpAny_bind (wpAny_field hz rfl (x := .bool true) rfl ?_)
  show wpAny _ _ (field (.ref z) 3 >>= _) _ _ _; refine wpAny_bind (wpAny_field hz rfl (x := .ref TI) rfl (wpAny_bind (wpAny_seqItems hTI rfl ?_)))
  show wpAny _ _ (Builtin.SmallTypes.ownedTupleIsFree (.ref z) >>= _) _ _ _; refine wpAny_bind ?_; unfold Builtin.SmallTypes.ownedTupleIsFree
  refine wpAny_bind (wpAny_field hz rfl (x := .none) rfl (wpAny_pure ?_)); simp only [if_true]
  refine wpAny_bind (wpAny_rule (wpAny_bind (wpAny_field hz rfl (x := .ref TO) rfl (wpAny_bind (wpAny_setField_rec hz (by simp) fun g0 hz0 hs0 => wpAny_bind ?_)))))
  replace hz0 : IsZs g0 z TI TO .ellipsis := hz0; replace hs0 : Heap.SameBut z hp g0 := hs0
  simp only [List.zipIdx_cons, List.zipIdx_nil, List.forIn_cons, List.forIn_nil]; refine wpAny_bind (wpAny_bind (wpAny_onRaise ?_))
  show wpAny _ _ (Builtin.SmallTypes.nextOrEnd (.ref i1)) _ _ ⟨g0, g, d, tk0, os⟩
  refine draw_end D1 (D1.over st1 hs0 S.zf1) fun q1 hq1 => ?_
  replace hq1 : Heap.ExtBut i1 g0 q1 := hq1
  have hzq : IsZs q1 z TI TO .ellipsis := hq1 _ _ S.zi1 hz0
  refine wpAny_bind (wpAny_setField_rec (s := ⟨q1, g, d, tk0, os⟩) hzq (by simp) fun q2 hz2 hs2 => ?_)
  replace hs2 : Heap.SameBut z q1 q2 := hs2
  refine wpAny_bind ?_
  show wpAny _ _ (Bind.bind (forIn [(Value.ref i2, 1)] PUnit.unit _) _) _ _ _
  simp only [List.forIn_cons, List.forIn_nil]
  refine wpAny_bind (wpAny_bind (wpAny_bind (draw_end D2 (D2.over (D2.frame _ _ _ (D2.over st2 hs0 S.zf2) fun b hb o e => hq1 b o (fun q => S.sep1_2 (q ▸ hb)) e) hs2 S.zf2) fun q3 hq3 => ?_)))
  replace hq3 : Heap.ExtBut i2 q2 q3 := hq3
  have hkeep : ∀ c o, c ≠ z → c ≠ TO → c ≠ i1 → c ≠ i2 → hp.get? c = some o → q3.get? c = some o := fun c o cz _ c1 c2 x => hq3 _ _ c2 (hs2.extBut _ _ cz (hq1 _ _ c1 (hs0.extBut _ _ cz x)))
  refine wpAny_pure (wpAny_pure (wpAny_bind (wpAny_rule ?_)))
  show wpAny _ _ (newExc (.type "StopIteration") [] >>= _) _ _ ⟨q3, g, d, tk0, os⟩; refine wpAny_bind ?_; simp only [newExc, newTuple]
  refine wpAny_bind (wpAny_newObj_type ?_ (by size_fits)); refine wpAny_bind (m := firstArgMember _ _) (wpAny_of_eq (a := Value.none) (by first | rfl | (simp only [firstArgMember]; rfl)) (wpAny_newObj_type ?_ (by size_fits)))
  simp only [raiseNew]; refine wpAny_bind (wpAny_handled ?_); first | rw [show A.in1.handled = none from hh] | rw [hh]
  refine wpAny_bind (wpAny_pure (wpAny_throw (hE _ _ _ (fun c o cz cT c1 c2 x => Heap.get?_push_of_some _ (Heap.get?_push_of_some _ (hkeep c o cz cT c1 c2 x))) ⟨_, Heap.get?_push_size _ rfl, rfl⟩)))
theorem pyNext_item {Q : Option Value → Shared → Prop} (S : ZipSep2 z TI TO i1 i2 fp1 fp2) (D1 : Draws prog w A.in1 i1 fp1 n1 P1 St1) (D2 : Draws prog w A.in1 i2 fp2 n2 P2 St2)
    (hz : IsZs s.heap z TI TO .none) (hTI : IsTupOf2 s.heap TI (.ref i1) (.ref i2)) (hTO : IsTupOf2 s.heap TO a1 a2) (st1 : St1 i s.heap) (st2 : St2 i s.heap) (hlt1 : i < n1) (hlt2 : i < n2)
    (hQ : ∀ x1 x2 h' tk, P1 i x1 → P2 i x2 → IsZs h' z TI TO (rawInt s.heap.objs.size) → IsTupOf2 h' TO x1 x2 → St1 (i + 1) h' → St2 (i + 1) h' → IsTupOf2 h' s.heap.objs.size x1 x2 → h'.objs.size = s.heap.objs.size + 1 →
      (∀ c o, c ≠ z → c ≠ TO → c ≠ i1 → c ≠ i2 → s.heap.get? c = some o → h'.get? c = some o) → Q (some (.ref s.heap.objs.size)) { s with heap := h', toks := tk }) :
    wpAny (model prog w) A (pyNext (.ref z)) Q E s := by
  have hT : s.TypeIs (.ref z) "zip" := ⟨_, hz, rfl⟩; unfold pyNext
  exact wpAny_bind (wpAny_attempt (wpAny_callSpecial?_slot (name := Str.ofString "__next__") hT F.slot_zip_next (wpAny_call_entry F.slot_zip_next hT F.entry_zip_next (next_item S D1 D2 hz hTI hTO st1 st2 hlt1 hlt2 fun x1 x2 h' tk y1 y2 b1 b2 d1 d2 b5 b6 b7 => wpAny_pure (hQ x1 x2 h' tk y1 y2 b1 b2 d1 d2 b5 b6 b7)) (F.args_zip_next_1 _))))
theorem pyNext_end {Q : Option Value → Shared → Prop} (hh : A.handled = none) (S : ZipSep2 z TI TO i1 i2 fp1 fp2) (D1 : Draws prog w A.in1 i1 fp1 i P1 St1) (D2 : Draws prog w A.in1 i2 fp2 i P2 St2)
    (hz : IsZs s.heap z TI TO .none) (hTI : IsTupOf2 s.heap TI (.ref i1) (.ref i2)) (hTO : IsTupOf2 s.heap TO a1 a2) (st1 : St1 i s.heap) (st2 : St2 i s.heap)
    (hQ : ∀ h' tk, (∀ c o, c ≠ z → c ≠ TO → c ≠ i1 → c ≠ i2 → s.heap.get? c = some o → h'.get? c = some o) → Q none { s with heap := h', toks := tk }) : wpAny (model prog w) A (pyNext (.ref z)) Q E s := by
  have hT : s.TypeIs (.ref z) "zip" := ⟨_, hz, rfl⟩; unfold pyNext
  refine wpAny_bind (wpAny_attempt (wpAny_callSpecial?_slot (name := Str.ofString "__next__") hT F.slot_zip_next (wpAny_call_entry F.slot_zip_next hT F.entry_zip_next (next_end (A := A.in1) hh S D1 D2 hz hTI hTO st1 st2 fun h' tk e hk he => ?_) (F.args_zip_next_1 _))))
  obtain ⟨o, ho, hc⟩ := he
  exact wpAny_bind (wpAny_isInstance (T := "StopIteration") (b := true) ⟨o, ho, hc⟩ isSubtype_stop (wpAny_pure (hQ _ _ hk)))
theorem go_zs {elts : List Expr} {x1 : Nat} {pos : Pos} {T : Addr} {Q : Unit → Shared → Prop} (hz : IsZs s.heap z TI TO (rawInt T)) (hQ : ∀ h', IsZs h' z TI TO .none → Heap.SameBut z s.heap h' → Q () { s with heap := h' }) : wpAny (model prog w) A (letOwnedTupleGo (.Tuple elts x1 pos) (.ref z) (.ref T)) Q E s := by
  unfold letOwnedTupleGo
  refine wpAny_bind (wpAny_load hz ?_); show wpAny _ _ (if (["enumerate", "zip", "dict_itemiterator", "dict_reverseitemiterator", "odict_iterator", "itertools.zip_longest", "itertools.pairwise"].contains "zip" && (#[rawInt T, .bool false, .bool true, .ref TI, .ref TO] : Array Value)[0]? == some (rawInt T)) = true then _ else _) Q E s
  rw [if_pos (by simp)]; refine wpAny_bind (wpAny_rule ?_); show wpAny _ _ (setField (.ref z) 0 .none) Q E s
  exact wpAny_setField_rec hz (by simp) fun h' hz' hs' => hQ h' hz' hs'
theorem pyIter_zs {f0 : Value} {Q : Value → Shared → Prop} (hz : IsZs s.heap z TI TO f0) (h : Q (.ref z) s) : wpAny (model prog w) A (pyIter (.ref z)) Q E s := by
  have hT : s.TypeIs (.ref z) "zip" := ⟨_, hz, rfl⟩
  refine wpAny_pyIter_slot hT F.slot_zip_iter (wpAny_call_entry F.slot_zip_iter hT F.entry_zip_iter ?_ (F.args_zip_iter_1 _)); show wpAny _ _ (ret (.ref z)) _ _ s
  exact wpAny_pure ⟨_, rfl, "zip", _, hT, F.slot_zip_next.lookup, h⟩
end
/-! ### the call -/
section
variable {prog : Program} {w : World} {A : Around} {E : Value → Shared → Prop} {s : Shared}
theorem init_meets {T newId : String} {self : Value} {a : Value} {rest : List Value} {kw : List (Str × Value)} (hl : typeLookup (.type T) "__init__" = pure (some (.builtin "object.__init__")))
    (hm : Bind.madeBy (.type T) = pure (some newId)) (hne : (some newId != some "object.__new__") = true) :
    Meets (Builtin.«object.__init__» ⟨self :: a :: rest, kw⟩) (fun _ R s => s.TypeIs self T ∧ R (.ok (.ret .none)) s) := by
  refine Meets.of_wp fun prog w A R s hs => ?_
  obtain ⟨hT, hq⟩ := hs
  repeat (any_goals (first | assumption | wp_step))
  exact ⟨_, rfl, hq⟩
theorem callType_kw {T newId : String} {Bn : Builtin} {a : Value} {args : List Value} {kw : List (Str × Value)} {S : PySem.Spec} {Q : Value → Shared → Prop} (ft : TypeCalled T newId "object.__init__")
    (hne : (some newId != some "object.__new__") = true) (hct : checkTypeCall T ⟨a :: args, kw⟩ = pure ()) (hcn : checkBuiltinCall newId ⟨.type T :: a :: args, kw⟩ = pure ())
    (hok : ∀ obj, argsOk "object.__init__" ⟨obj :: a :: args, kw⟩) (entryN : entryFor table newId = some Bn) (g : Meets (Bn ⟨.type T :: a :: args, kw⟩) S)
    (h : S A.in1 (wants (fun obj s1 => s1.TypeIs obj T ∧ Q obj s1) E) s) : wpAny (model prog w) A (call (.type T) (a :: args) kw) Q E s := by
  obtain ⟨c, tl, hmro⟩ := ft.mro
  have hmade := ft.made; have hsub := ft.sub
  refine wpAny_call (codeAny_of_tree ?_); show wpAny _ _ (callAny (.type T) _) _ _ _
  refine wpAny_pure ⟨Code.quiet_builtin _ (by decide +kernel), codeAny_builtin F.entry_type_call ?_⟩
  rw [Around.under_plain (weight_type_call_type T (a :: args) kw) (units_type_call_type T (a :: args) kw)]
  have h1 := ft.notType; have h2 := ft.canCreate
  repeat (any_goals (first | assumption | wp_step))
  refine codeAny_mono (codeAny_call_builtin ft.plain entryN (wpAny_of_eq hcn (g prog w A.in1 _ s h))) fun r s1 hr => ?_
  match r, hr with
  | .error e, hr => exact hr
  | .ok (.ret obj), hr =>
    obtain ⟨hT, hq⟩ := hr
    have hli := ft.init.lookup; have hbi := ft.init.bind obj
    repeat (any_goals (first | assumption | wp_step))
    refine codeAny_mono (codeAny_call_builtin ft.init.plain F.entry_object_init (ft.init.check _ _ _ _ _ _ _ _ hT (hok obj) (init_meets ft.init.lookup ft.made hne prog w A.in1 _ s1 ⟨hT, show wants (fun r s2 => r = .none ∧ Q obj s2) E _ s1 from ⟨rfl, hq⟩⟩))) fun r2 s2 hr2 => ?_
    match r2, hr2 with
    | .error e, hr2 => exact hr2
    | .ok (.ret r), hr2 =>
      obtain ⟨rfl, hq⟩ := hr2
      repeat (any_goals (first | assumption | wp_step))
    | .ok .next, hr2 => exact hr2.elim
    | .ok .brk, hr2 => exact hr2.elim
    | .ok .cont, hr2 => exact hr2.elim
  | .ok .next, hr => exact hr.elim
  | .ok .brk, hr => exact hr.elim
  | .ok .cont, hr => exact hr.elim
end
theorem tcheck {a b c : Value} : checkTypeCall "zip" ⟨[a, b], [("strict", c)]⟩ = pure () := by kernel_rfl
theorem ncheck {a b c : Value} : checkBuiltinCall "zip.__new__" ⟨[.type "zip", a, b], [("strict", c)]⟩ = pure () := by kernel_rfl
theorem icheck (a : Value) {b c d : Value} : argsOk "object.__init__" ⟨[a, b, c], [("strict", d)]⟩ := by
  unfold argsOk; rw [signature?_of (id := "object.__init__") (n := ['_', '_', 't', 'i', 'n', 'i', '_', '_']) (o := ['t', 'c', 'e', 'j', 'b', 'o']) (by kernel_rfl) F.owner_object]; kernel_rfl
abbrev zAL (h : Heap) (x : Str) (t : Tok) : Heap := h.push { cls := .type (strIterType x), data := .fields #[.str x t, .int 0 0] }
abbrev zBL (h : Heap) (x : Str) (t : Tok) (l : Addr) : Heap := (zAL h x t).push { cls := .type "list_iterator", data := .fields #[.ref l, .int 0 0] }
abbrev zCL (h : Heap) (x : Str) (t : Tok) (l : Addr) : Heap := (zBL h x t l).push { cls := .type "tuple", data := .seq #[.ref h.objs.size, .ref (zAL h x t).objs.size] }
abbrev zDL (h : Heap) (x : Str) (t : Tok) (l : Addr) : Heap := (zCL h x t l).push { cls := .type "tuple", data := .seq #[.none, .none] }
abbrev zEL (h : Heap) (x : Str) (t : Tok) (l : Addr) : Heap := (zDL h x t l).push { cls := .type "zip", data := .fields #[.none, .bool false, .bool true, .ref (zBL h x t l).objs.size, .ref (zCL h x t l).objs.size] }
theorem new_L (x : Str) (t : Tok) (l : Addr) (ys : Array Value) : Meets (Builtin.«zip.__new__» ⟨[.type "zip", .str x t, .ref l], [("strict", .bool true)]⟩) (fun _ R s => s.heap.IsList l ys ∧ R (.ok (.ret (.ref (zDL s.heap x t l).objs.size))) { s with heap := zEL s.heap x t l }) :=
  .of_wp fun prog w A R s h => by
    obtain ⟨hp, g, d, tk, os⟩ := s; obtain ⟨hl2, h⟩ := h; have hsub := sub_zip
    have hL2 : Heap.IsList (Shared.heap ⟨hp.push { cls := .type (strIterType x), data := .fields #[.str x t, .int 0 0] }, g, d, tk, os⟩) l ys := Heap.IsList.push hl2 _
    wp_walk using wpAny_pyIter_strU, wpAny_pyIter_list hL2
    exact ⟨_, rfl, h⟩
theorem call_L {prog : Program} {w : World} {A : Around} {E : Value → Shared → Prop} {s : Shared} {x : Str} {t : Tok} {l : Addr} {ys : Array Value} {Q : Value → Shared → Prop} (hl : s.heap.IsList l ys)
    (h : ∀ h', IsZs h' (s.heap.objs.size + 4) (s.heap.objs.size + 2) (s.heap.objs.size + 3) .none → IsTupOf2 h' (s.heap.objs.size + 2) (.ref s.heap.objs.size) (.ref (s.heap.objs.size + 1)) → IsTupOf2 h' (s.heap.objs.size + 3) .none .none →
      h'.IsStrIter s.heap.objs.size (strIterType x) x t 0 → h'.IsListIter (s.heap.objs.size + 1) l 0 → h'.objs.size = s.heap.objs.size + 5 → (∀ c o, s.heap.get? c = some o → h'.get? c = some o) → Q (.ref (s.heap.objs.size + 4)) { s with heap := h' }) :
    wpAny (model prog w) A (call (.type "zip") [.str x t, .ref l] [("strict", .bool true)]) Q E s := by
  refine callType_kw F.called_zip (by decide) tcheck ncheck (fun obj => icheck obj) F.entry_zip_new (new_L x t l ys) ⟨hl, ?_⟩
  have z1 : (zAL s.heap x t).objs.size = s.heap.objs.size + 1 := Heap.size_push ..
  have z2 : (zBL s.heap x t l).objs.size = s.heap.objs.size + 2 := by rw [Heap.size_push, z1]
  have z3 : (zCL s.heap x t l).objs.size = s.heap.objs.size + 3 := by rw [Heap.size_push, z2]
  have z4 : (zDL s.heap x t l).objs.size = s.heap.objs.size + 4 := by rw [Heap.size_push, z3]
  have z5 : (zEL s.heap x t l).objs.size = s.heap.objs.size + 5 := by rw [Heap.size_push, z4]
  have p5 : ∀ c o, s.heap.get? c = some o → (zEL s.heap x t l).get? c = some o := fun c o q => Heap.get?_push_of_some _ (Heap.get?_push_of_some _ (Heap.get?_push_of_some _ (Heap.get?_push_of_some _ (Heap.get?_push_of_some _ q))))
  have g5 : (zEL s.heap x t l).get? (zDL s.heap x t l).objs.size = some _ := Heap.get?_push_size _ rfl
  have g4 : (zEL s.heap x t l).get? (zCL s.heap x t l).objs.size = some _ := Heap.get?_push_of_some _ (Heap.get?_push_size _ rfl)
  have g3 : (zEL s.heap x t l).get? (zBL s.heap x t l).objs.size = some _ := Heap.get?_push_of_some _ (Heap.get?_push_of_some _ (Heap.get?_push_size _ rfl))
  have g2 : (zEL s.heap x t l).get? (zAL s.heap x t).objs.size = some _ := Heap.get?_push_of_some _ (Heap.get?_push_of_some _ (Heap.get?_push_of_some _ (Heap.get?_push_size _ rfl)))
  have g1 : (zEL s.heap x t l).get? s.heap.objs.size = some _ := Heap.get?_push_of_some _ (Heap.get?_push_of_some _ (Heap.get?_push_of_some _ (Heap.get?_push_of_some _ (Heap.get?_push_size _ rfl))))
  show _ ∧ _; rw [z2, z3, z4] at g5; rw [z1, z2] at g3; rw [z3] at g4; rw [z1] at g2; rw [z4]
  exact ⟨⟨_, g5, rfl⟩, h _ g5 g3 g4 ⟨_, g1, rfl, rfl⟩ ⟨_, g2, rfl, rfl⟩ z5 p5⟩
abbrev zAT (h : Heap) (x : Str) (t : Tok) : Heap := h.push { cls := .type (strIterType x), data := .fields #[.str x t, .int 0 0] }
abbrev zBT (h : Heap) (x : Str) (t : Tok) (l : Addr) : Heap := (zAT h x t).push { cls := .type "tuple_iterator", data := .fields #[.ref l, .int 0 0] }
abbrev zCT (h : Heap) (x : Str) (t : Tok) (l : Addr) : Heap := (zBT h x t l).push { cls := .type "tuple", data := .seq #[.ref h.objs.size, .ref (zAT h x t).objs.size] }
abbrev zDT (h : Heap) (x : Str) (t : Tok) (l : Addr) : Heap := (zCT h x t l).push { cls := .type "tuple", data := .seq #[.none, .none] }
abbrev zET (h : Heap) (x : Str) (t : Tok) (l : Addr) : Heap := (zDT h x t l).push { cls := .type "zip", data := .fields #[.none, .bool false, .bool true, .ref (zBT h x t l).objs.size, .ref (zCT h x t l).objs.size] }
theorem new_T (x : Str) (t : Tok) (l : Addr) (ys : Array Value) : Meets (Builtin.«zip.__new__» ⟨[.type "zip", .str x t, .ref l], [("strict", .bool true)]⟩) (fun _ R s => s.heap.IsTuple l ys ∧ R (.ok (.ret (.ref (zDT s.heap x t l).objs.size))) { s with heap := zET s.heap x t l }) :=
  .of_wp fun prog w A R s h => by
    obtain ⟨hp, g, d, tk, os⟩ := s; obtain ⟨hl2, h⟩ := h; have hsub := sub_zip
    have hL2 : Heap.IsTuple (Shared.heap ⟨hp.push { cls := .type (strIterType x), data := .fields #[.str x t, .int 0 0] }, g, d, tk, os⟩) l ys := Heap.IsTuple.push hl2 _
    wp_walk using wpAny_pyIter_strU, wpAny_pyIter_tuple hL2
    exact ⟨_, rfl, h⟩
theorem call_T {prog : Program} {w : World} {A : Around} {E : Value → Shared → Prop} {s : Shared} {x : Str} {t : Tok} {l : Addr} {ys : Array Value} {Q : Value → Shared → Prop} (hl : s.heap.IsTuple l ys)
    (h : ∀ h', IsZs h' (s.heap.objs.size + 4) (s.heap.objs.size + 2) (s.heap.objs.size + 3) .none → IsTupOf2 h' (s.heap.objs.size + 2) (.ref s.heap.objs.size) (.ref (s.heap.objs.size + 1)) → IsTupOf2 h' (s.heap.objs.size + 3) .none .none →
      h'.IsStrIter s.heap.objs.size (strIterType x) x t 0 → h'.IsTupleIter (s.heap.objs.size + 1) l 0 → h'.objs.size = s.heap.objs.size + 5 → (∀ c o, s.heap.get? c = some o → h'.get? c = some o) → Q (.ref (s.heap.objs.size + 4)) { s with heap := h' }) :
    wpAny (model prog w) A (call (.type "zip") [.str x t, .ref l] [("strict", .bool true)]) Q E s := by
  refine callType_kw F.called_zip (by decide) tcheck ncheck (fun obj => icheck obj) F.entry_zip_new (new_T x t l ys) ⟨hl, ?_⟩
  have z1 : (zAT s.heap x t).objs.size = s.heap.objs.size + 1 := Heap.size_push ..
  have z2 : (zBT s.heap x t l).objs.size = s.heap.objs.size + 2 := by rw [Heap.size_push, z1]
  have z3 : (zCT s.heap x t l).objs.size = s.heap.objs.size + 3 := by rw [Heap.size_push, z2]
  have z4 : (zDT s.heap x t l).objs.size = s.heap.objs.size + 4 := by rw [Heap.size_push, z3]
  have z5 : (zET s.heap x t l).objs.size = s.heap.objs.size + 5 := by rw [Heap.size_push, z4]
  have p5 : ∀ c o, s.heap.get? c = some o → (zET s.heap x t l).get? c = some o := fun c o q => Heap.get?_push_of_some _ (Heap.get?_push_of_some _ (Heap.get?_push_of_some _ (Heap.get?_push_of_some _ (Heap.get?_push_of_some _ q))))
  have g5 : (zET s.heap x t l).get? (zDT s.heap x t l).objs.size = some _ := Heap.get?_push_size _ rfl
  have g4 : (zET s.heap x t l).get? (zCT s.heap x t l).objs.size = some _ := Heap.get?_push_of_some _ (Heap.get?_push_size _ rfl)
  have g3 : (zET s.heap x t l).get? (zBT s.heap x t l).objs.size = some _ := Heap.get?_push_of_some _ (Heap.get?_push_of_some _ (Heap.get?_push_size _ rfl))
  have g2 : (zET s.heap x t l).get? (zAT s.heap x t).objs.size = some _ := Heap.get?_push_of_some _ (Heap.get?_push_of_some _ (Heap.get?_push_of_some _ (Heap.get?_push_size _ rfl)))
  have g1 : (zET s.heap x t l).get? s.heap.objs.size = some _ := Heap.get?_push_of_some _ (Heap.get?_push_of_some _ (Heap.get?_push_of_some _ (Heap.get?_push_of_some _ (Heap.get?_push_size _ rfl))))
  show _ ∧ _; rw [z2, z3, z4] at g5; rw [z1, z2] at g3; rw [z3] at g4; rw [z1] at g2; rw [z4]
  exact ⟨⟨_, g5, rfl⟩, h _ g5 g3 g4 ⟨_, g1, rfl, rfl⟩ ⟨_, g2, rfl, rfl⟩ z5 p5⟩
end DLZ
namespace DL
open PySem PySem.Spec PyProof.Rows L2 RZ DLZ
/-! ### zip(text, seq, strict=True), walked -/
theorem cw_typeK {M : Model} {A : Around} {E : Value → Shared → Prop} {s : Shared} {env : Env} {pos : Pos} {T : String} {e : Expr} {rest : List Expr} {kws : List Keyword} {Q : Value → Shared → Prop}
    (hall : (backToKw pos (keywordEach kws env)).all (·.1.isSome) = true) (hkw : (backToKw pos (keywordEach kws env)).any (·.1.isNone) = false) (hpl : (backTo pos (starEach (e :: rest) env)).any (·.1) = false) (he : starEach (e :: rest) env = (false, eval e env) :: starEach rest env)
    (h : wpAny M A (spliced (backTo pos (starEach (e :: rest) env))) (fun vs s₁ => wpAny M A (evalAll ((backToKw pos (keywordEach kws env)).map (·.2))) (fun ks s₂ => wpAny M A (call (.type T) vs (((backToKw pos (keywordEach kws env)).filterMap (·.1)).zip ks)) Q E s₂) E s₁) E s) :
    wpAny M A (callWith pos (.type T) [] (backTo pos (starEach (e :: rest) env)) (backToKw pos (keywordEach kws env))) Q E s := by
  unfold callWith
  refine wpAny_bind (wpAny_holding (wpAny_mono (evalArgs_kw2 (Q := fun a s₁ => wpAny M A (call (.type T) ([] ++ a.pos) a.kw) Q E s₁) hall h he) (fun a s₁ h₁ => wpAny_bind (wpAny_standAt ?_)) fun _ _ x => x))
  simp only [hpl, hkw, Bool.or_false]
  refine wpAny_bind (wpAny_pure ?_)
  exact wpAny_bind (wpAny_mono h₁ (fun r s₂ hr => wpAny_bind (wpAny_holding (wpAny_point (wpAny_pure hr)))) fun _ _ x => x)
def ItzsL (K : PySem.W.Frag) (x : Str) (b : Addr) : It :=
  ⟨fun i H => ∃ (ys : List V) (y : V), i < x.cps.size ∧ SqL K H b ys ∧ ys[i]? = some y,
    fun i H v H' => ∃ T c y, v = .ref T ∧ H T = none ∧ H' = upd H T (.tup [.str ⟨#[c]⟩, y]) ∧ x.cps[i]? = some c ∧ ∀ ys, SqL K H b ys → ys[i]? = some y,
    fun i H => ∃ ys : List V, SqL K H b ys ∧ ys.length = i ∧ x.cps.size = i⟩
theorem turn_zsL {P : Program} {w : World} {K : PySem.W.Frag} {elts : List Expr} {kk : Nat} {tpos : Pos} {x : Str} {t : Tok} {b z TI TO i1 i2 : Addr} (D : ZipSep2 z TI TO i1 i2 [i1] [i2, b]) (hb2 : b ≠ i2) :
    Turn P w K (.Tuple elts kk tpos) (ItzsL K x b) [z, TI, TO, i1, i2] z (fun i h => IsZs h z TI TO .none ∧ IsTupOf2 h TI (.ref i1) (.ref i2) ∧ (∃ x y, IsTupOf2 h TO x y) ∧ h.IsStrIter i1 (strIterType x) x t i ∧ h.IsListIter i2 b i) where
  mem := by simp
  obj := fun i h st c hc => by
    obtain ⟨hz, hTI, ⟨x, y, hTO⟩, ⟨o1, e1, _, d1⟩, ⟨o2, e2, _, d2⟩⟩ := st
    have e' : c = z ∨ c = TI ∨ c = TO ∨ c = i1 ∨ c = i2 := by simpa using hc
    rcases e' with q | q | q | q | q
    · rw [q]; exact ⟨_, hz, fun v q => nomatch q⟩
    · rw [q]; exact ⟨_, hTI, fun v q => nomatch q⟩
    · rw [q]; exact ⟨_, hTO, fun v q => nomatch q⟩
    · rw [q]; exact ⟨o1, e1, fun v q => by rw [d1] at q; cases q⟩
    · rw [q]; exact ⟨o2, e2, fun v q => by rw [d2] at q; cases q⟩
  keep := fun i h h' st k => by
    obtain ⟨hz, hTI, ⟨x, y, hTO⟩, ⟨o1, h1, r1⟩, h2⟩ := st
    exact ⟨k z (by simp) _ hz, k TI (by simp) _ hTI, ⟨x, y, k TO (by simp) _ hTO⟩, ⟨o1, k i1 (by simp) o1 h1, r1⟩, h2.at fun o q => k i2 (by simp) o q⟩
  item := by
    intro X hP hw hK hc i pins s σ H E I hf st hg
    subst hP hw hK
    obtain ⟨hz, hTI, ⟨x0, y0, hTO⟩, h1, h2⟩ := st
    obtain ⟨ys, y, hix, hqy, hy⟩ := hg
    obtain ⟨its2, rv2, p2, _⟩ := I.list  hqy
    obtain ⟨u2, hu2, ru2⟩ := rv2.get hy
    have hh : X.A.in1.handled = none := I.ok.hd hc
    have hzl : z < s.heap.objs.size := Heap.lt_size hz
    have D1 := Draws.text (prog := X.prog) (w := X.w) hh i1 x t
    have D2 := Draws.list (prog := X.prog) (w := X.w) hh i2 b hb2 its2.toArray
    refine pyNext_item D D1 D2 hz hTI hTO h1 ⟨h2, p2.isList⟩ hix (by have := (List.getElem?_eq_some_iff.mp hu2).1; simpa using this) fun x1 x2 h' tk P1 P2 z' TO' st1 st2 hT hsz hk => ?_
    obtain ⟨c, tu, hc1, rfl⟩ := P1
    have e2 : x2 = u2 := by
      have : its2[i]? = some x2 := by simpa using P2
      rw [hu2] at this
      exact (Option.some.inj this).symm
    subst e2
    refine ⟨_, rfl, go_zs (s := { s with heap := h', toks := tk }) z' fun h'' z'' sb => ?_⟩
    have hT2 : h''.get? s.heap.objs.size = some { cls := .type "tuple", data := .seq #[.str ⟨#[c]⟩ tu, x2] } := (sb.2 _ (Nat.ne_of_gt hzl)).trans hT
    have new : ObjOk X.prog X.w (upd H s.heap.objs.size (.tup [.str ⟨#[c]⟩, y])) h'' s.heap.objs.size (.tup [.str ⟨#[c]⟩, y]) :=
      ⟨by show 2 ≤ sizeLine; decide, [.str ⟨#[c]⟩ tu, x2], .cons ⟨_, rfl⟩ (.cons ru2 .nil), ⟨_, hT2, rfl, _, rfl⟩⟩
    have I1 : Inv X pins σ (upd H s.heap.objs.size (.tup [.str ⟨#[c]⟩, y])) { s with heap := h'', toks := tk } :=
      I.turnedNew (t' := tk) (ch := [z, TI, TO, i1, i2]) (fun c o hb q => (sb.2 c (fun q' => hb (by simp [q']))).trans (hk c o (fun q' => hb (by simp [q'])) (fun q' => hb (by simp [q'])) (fun q' => hb (by simp [q'])) (fun q' => hb (by simp [q'])) q)) hf (Nat.le_refl _) new
    have ziT : TI ≠ z := D.TIz
    refine ⟨.ref s.heap.objs.size, _, I1, rfl, ⟨_, c, y, rfl, I.hok.fresh (Nat.le_refl _), rfl, hc1, fun l hl => by rw [I.list_inj hl hqy]; exact hy⟩, ⟨z'', ?_, ⟨.str ⟨#[c]⟩ tu, x2, ?_⟩, ?_, ?_⟩, fun c hcm => ?_⟩
    · exact (sb.2 _ D.TIz).trans (hk _ _ D.TIz D.TITO D.TIi1 D.TIi2 hTI)
    · exact (sb.2 _ D.TOz).trans TO'
    · obtain ⟨o1, q1, r1⟩ := st1
      exact ⟨o1, (sb.2 _ (Ne.symm D.zi1)).trans q1, r1⟩
    · exact st2.1.at fun o q => (sb.2 _ (Ne.symm D.zi2)).trans q
    · have hlt : c < s.heap.objs.size := by
        have e' : c = z ∨ c = TI ∨ c = TO ∨ c = i1 ∨ c = i2 := by simpa using hcm
        rcases e' with q | q | q | q | q
        · rw [q]; exact hzl
        · rw [q]; exact Heap.lt_size hTI
        · rw [q]; exact Heap.lt_size hTO
        · rw [q]; obtain ⟨_, e1, _⟩ := h1; exact Heap.lt_size e1
        · rw [q]; obtain ⟨_, e2, _⟩ := h2; exact Heap.lt_size e2
      rw [upd_ne (Nat.ne_of_lt hlt)]
      exact (hf c hcm).1
  done := by
    intro X hP hw hK hc i pins s σ H E I hf st hg
    subst hP hw hK
    obtain ⟨hz, hTI, ⟨x0, y0, hTO⟩, h1, h2⟩ := st
    obtain ⟨ys, hqy, hl1, hl2⟩ := hg
    obtain ⟨its2, rv2, p2, _⟩ := I.list hqy
    have l2 := rv2.length
    have hh : X.A.handled = none := I.ok.hd hc
    have D1 := Draws.text (prog := X.prog) (w := X.w) (A := X.A.in1) hh i1 x t
    have D2 := Draws.list (prog := X.prog) (w := X.w) (A := X.A.in1) hh i2 b hb2 its2.toArray
    rw [hl2] at D1
    rw [show its2.toArray.size = i by simp; omega] at D2
    exact pyNext_end hh D D1 D2 hz hTI hTO h1 ⟨h2, p2.isList⟩ fun h' tk hk => ⟨rfl, I.turnedL (t' := tk) (ch := [z, TI, TO, i1, i2]) (fun c o hb q =>
      hk c o (fun q' => hb (by simp [q'])) (fun q' => hb (by simp [q'])) (fun q' => hb (by simp [q'])) (fun q' => hb (by simp [q'])) q) hf⟩
  self := fun A i s Q E st h => pyIter_zs st.1 h
def ItzsT (K : PySem.W.Frag) (x : Str) (b : Addr) : It :=
  ⟨fun i H => ∃ (ys : List V) (y : V), i < x.cps.size ∧ SqT K H b ys ∧ ys[i]? = some y,
    fun i H v H' => ∃ T c y, v = .ref T ∧ H T = none ∧ H' = upd H T (.tup [.str ⟨#[c]⟩, y]) ∧ x.cps[i]? = some c ∧ ∀ ys, SqT K H b ys → ys[i]? = some y,
    fun i H => ∃ ys : List V, SqT K H b ys ∧ ys.length = i ∧ x.cps.size = i⟩
theorem turn_zsT {P : Program} {w : World} {K : PySem.W.Frag} {elts : List Expr} {kk : Nat} {tpos : Pos} {x : Str} {t : Tok} {b z TI TO i1 i2 : Addr} (D : ZipSep2 z TI TO i1 i2 [i1] [i2, b]) (hb2 : b ≠ i2) :
    Turn P w K (.Tuple elts kk tpos) (ItzsT K x b) [z, TI, TO, i1, i2] z (fun i h => IsZs h z TI TO .none ∧ IsTupOf2 h TI (.ref i1) (.ref i2) ∧ (∃ x y, IsTupOf2 h TO x y) ∧ h.IsStrIter i1 (strIterType x) x t i ∧ h.IsTupleIter i2 b i) where
  mem := by simp
  obj := fun i h st c hc => by
    obtain ⟨hz, hTI, ⟨x, y, hTO⟩, ⟨o1, e1, _, d1⟩, ⟨o2, e2, _, d2⟩⟩ := st
    have e' : c = z ∨ c = TI ∨ c = TO ∨ c = i1 ∨ c = i2 := by simpa using hc
    rcases e' with q | q | q | q | q
    · rw [q]; exact ⟨_, hz, fun v q => nomatch q⟩
    · rw [q]; exact ⟨_, hTI, fun v q => nomatch q⟩
    · rw [q]; exact ⟨_, hTO, fun v q => nomatch q⟩
    · rw [q]; exact ⟨o1, e1, fun v q => by rw [d1] at q; cases q⟩
    · rw [q]; exact ⟨o2, e2, fun v q => by rw [d2] at q; cases q⟩
  keep := fun i h h' st k => by
    obtain ⟨hz, hTI, ⟨x, y, hTO⟩, ⟨o1, h1, r1⟩, h2⟩ := st
    exact ⟨k z (by simp) _ hz, k TI (by simp) _ hTI, ⟨x, y, k TO (by simp) _ hTO⟩, ⟨o1, k i1 (by simp) o1 h1, r1⟩, h2.at fun o q => k i2 (by simp) o q⟩
  item := by
    intro X hP hw hK hc i pins s σ H E I hf st hg
    subst hP hw hK
    obtain ⟨hz, hTI, ⟨x0, y0, hTO⟩, h1, h2⟩ := st
    obtain ⟨ys, y, hix, hqy, hy⟩ := hg
    obtain ⟨its2, rv2, p2, _⟩ := I.tuple  hqy
    obtain ⟨u2, hu2, ru2⟩ := rv2.get hy
    have hh : X.A.in1.handled = none := I.ok.hd hc
    have hzl : z < s.heap.objs.size := Heap.lt_size hz
    have D1 := Draws.text (prog := X.prog) (w := X.w) hh i1 x t
    have D2 := Draws.tuple (prog := X.prog) (w := X.w) hh i2 b hb2 its2.toArray
    refine pyNext_item D D1 D2 hz hTI hTO h1 ⟨h2, p2⟩ hix (by have := (List.getElem?_eq_some_iff.mp hu2).1; simpa using this) fun x1 x2 h' tk P1 P2 z' TO' st1 st2 hT hsz hk => ?_
    obtain ⟨c, tu, hc1, rfl⟩ := P1
    have e2 : x2 = u2 := by
      have : its2[i]? = some x2 := by simpa using P2
      rw [hu2] at this
      exact (Option.some.inj this).symm
    subst e2
    refine ⟨_, rfl, go_zs (s := { s with heap := h', toks := tk }) z' fun h'' z'' sb => ?_⟩
    have hT2 : h''.get? s.heap.objs.size = some { cls := .type "tuple", data := .seq #[.str ⟨#[c]⟩ tu, x2] } := (sb.2 _ (Nat.ne_of_gt hzl)).trans hT
    have new : ObjOk X.prog X.w (upd H s.heap.objs.size (.tup [.str ⟨#[c]⟩, y])) h'' s.heap.objs.size (.tup [.str ⟨#[c]⟩, y]) :=
      ⟨by show 2 ≤ sizeLine; decide, [.str ⟨#[c]⟩ tu, x2], .cons ⟨_, rfl⟩ (.cons ru2 .nil), ⟨_, hT2, rfl, _, rfl⟩⟩
    have I1 : Inv X pins σ (upd H s.heap.objs.size (.tup [.str ⟨#[c]⟩, y])) { s with heap := h'', toks := tk } :=
      I.turnedNew (t' := tk) (ch := [z, TI, TO, i1, i2]) (fun c o hb q => (sb.2 c (fun q' => hb (by simp [q']))).trans (hk c o (fun q' => hb (by simp [q'])) (fun q' => hb (by simp [q'])) (fun q' => hb (by simp [q'])) (fun q' => hb (by simp [q'])) q)) hf (Nat.le_refl _) new
    have ziT : TI ≠ z := D.TIz
    refine ⟨.ref s.heap.objs.size, _, I1, rfl, ⟨_, c, y, rfl, I.hok.fresh (Nat.le_refl _), rfl, hc1, fun l hl => by rw [I.tuple_inj hl hqy]; exact hy⟩, ⟨z'', ?_, ⟨.str ⟨#[c]⟩ tu, x2, ?_⟩, ?_, ?_⟩, fun c hcm => ?_⟩
    · exact (sb.2 _ D.TIz).trans (hk _ _ D.TIz D.TITO D.TIi1 D.TIi2 hTI)
    · exact (sb.2 _ D.TOz).trans TO'
    · obtain ⟨o1, q1, r1⟩ := st1
      exact ⟨o1, (sb.2 _ (Ne.symm D.zi1)).trans q1, r1⟩
    · exact st2.1.at fun o q => (sb.2 _ (Ne.symm D.zi2)).trans q
    · have hlt : c < s.heap.objs.size := by
        have e' : c = z ∨ c = TI ∨ c = TO ∨ c = i1 ∨ c = i2 := by simpa using hcm
        rcases e' with q | q | q | q | q
        · rw [q]; exact hzl
        · rw [q]; exact Heap.lt_size hTI
        · rw [q]; exact Heap.lt_size hTO
        · rw [q]; obtain ⟨_, e1, _⟩ := h1; exact Heap.lt_size e1
        · rw [q]; obtain ⟨_, e2, _⟩ := h2; exact Heap.lt_size e2
      rw [upd_ne (Nat.ne_of_lt hlt)]
      exact (hf c hcm).1
  done := by
    intro X hP hw hK hc i pins s σ H E I hf st hg
    subst hP hw hK
    obtain ⟨hz, hTI, ⟨x0, y0, hTO⟩, h1, h2⟩ := st
    obtain ⟨ys, hqy, hl1, hl2⟩ := hg
    obtain ⟨its2, rv2, p2, _⟩ := I.tuple hqy
    have l2 := rv2.length
    have hh : X.A.handled = none := I.ok.hd hc
    have D1 := Draws.text (prog := X.prog) (w := X.w) (A := X.A.in1) hh i1 x t
    have D2 := Draws.tuple (prog := X.prog) (w := X.w) (A := X.A.in1) hh i2 b hb2 its2.toArray
    rw [hl2] at D1
    rw [show its2.toArray.size = i by simp; omega] at D2
    exact pyNext_end hh D D1 D2 hz hTI hTO h1 ⟨h2, p2⟩ fun h' tk hk => ⟨rfl, I.turnedL (t' := tk) (ch := [z, TI, TO, i1, i2]) (fun c o hb q =>
      hk c o (fun q' => hb (by simp [q'])) (fun q' => hb (by simp [q'])) (fun q' => hb (by simp [q'])) (fun q' => hb (by simp [q'])) q) hf⟩
  self := fun A i s Q E st h => pyIter_zs st.1 h
theorem zs_sep (I b : Nat) (h2 : b < I) : ZipSep2 (I + 4) (I + 2) (I + 3) I (I + 1) [I] [I + 1, b] := zip_sep2 (fun _ m => by cases m) (fun c m => by rw [List.mem_singleton] at m; subst m; exact h2)
def iZs (K : PySem.W.Frag) (ta : TA) : TI := fun σ H R => ta σ H fun vs H1 => ∃ x b ys, vs = [.str x, .ref b] ∧ ((SqL K H1 b ys ∧ R (ItzsL K x b) H1) ∨ (SqT K H1 b ys ∧ R (ItzsT K x b) H1))
theorem pi_zs {X : Cx} {e e2 : Expr} {ta : TA} {p pos tpos kpos kp : Pos} {j : Nat} {elts : List Expr} {kk : Nat} (hg : Gl X "zip") (hm : X.mg "zip" = none) (ha : PA X [e, e2] ta)
    (hs : starEach [e, e2] X.env = (false, eval e X.env) :: starEach [e2] X.env := by rfl) (hpl : (backTo pos (starEach [e, e2] X.env)).any (·.1) = false := by rfl)
    (hall : (backToKw pos (keywordEach [⟨some "strict", .Constant (.bool true) j kp, kpos⟩] X.env)).all (·.1.isSome) = true := by rfl) (hnone : (backToKw pos (keywordEach [⟨some "strict", .Constant (.bool true) j kp, kpos⟩] X.env)).any (·.1.isNone) = false := by rfl)
    (hks : (backToKw pos (keywordEach [⟨some "strict", .Constant (.bool true) j kp, kpos⟩] X.env)).filterMap (·.1) = [Str.ofString "strict"] := by rfl) :
    PI X (.Tuple elts kk tpos) (.Call (.Name "zip" p) [e, e2] [⟨some "strict", .Constant (.bool true) j kp, kpos⟩] pos) (iZs X.K ta) := by
  refine ⟨fun pins s σ H R I h => ?_⟩
  refine wpAny_Call_Name_kw (ld_blt I hg hm PyProof.Rows.boot_zip ?_)
  refine cw_typeK hall hnone hpl hs (thn (ha.run pos pins s σ H _ I h) fun us s0 ⟨vs, H1, I0, r1, q1⟩ => thn ((pk_cons (nm := some "strict") (kpos := kpos) (pe_bl (b := true) (pos := kp) (j := j)) pk_nil).run pos pins s0 σ H1 (fun zs H' => zs = [.bl true] ∧ H' = H1) I0 ⟨rfl, rfl⟩) fun ws s1 ⟨zs, H2, I1, r2, q2⟩ => ?_)
  obtain ⟨rfl, rfl⟩ := q2
  rw [hks]
  obtain ⟨w1, rfl, e1⟩ := vals1 r2
  obtain rfl : w1 = Value.bool true := e1
  obtain ⟨x, b, ys, ex, q1⟩ := q1
  subst ex
  cases r1 with
  | cons r rr =>
    cases rr with
    | cons r' rr =>
      cases rr
      obtain ⟨t, rfl⟩ := r
      cases r'
      have fresh5 : ∀ c, c ∈ [s1.heap.objs.size + 4, s1.heap.objs.size + 2, s1.heap.objs.size + 3, s1.heap.objs.size, s1.heap.objs.size + 1] → FpOk X pins H2 c := fun c hcm => by
        have e' : c = s1.heap.objs.size + 4 ∨ c = s1.heap.objs.size + 2 ∨ c = s1.heap.objs.size + 3 ∨ c = s1.heap.objs.size ∨ c = s1.heap.objs.size + 1 := by simpa using hcm
        have hle : s1.heap.objs.size ≤ c := by omega
        exact I1.fpOk hle (I1.hok.fresh hle)
      rcases q1 with ⟨hqy, q⟩ | ⟨hqy, q⟩
      · obtain ⟨its2, rv2, p2, _⟩ := I1.list hqy
        refine call_L p2.isList fun h' hz hTI hTO h1 h2 hsz hk => pyIter_zs hz ?_
        have I2 : Inv X pins σ H2 { s1 with heap := h' } := I1.kept (t' := s1.toks) hk
        have hlt := p2.lt
        exact ⟨s1.heap.objs.size + 4, [s1.heap.objs.size + 4, s1.heap.objs.size + 2, s1.heap.objs.size + 3, s1.heap.objs.size, s1.heap.objs.size + 1], _, _, H2, rfl, I2, turn_zsL (x := x) (t := t) (zs_sep s1.heap.objs.size b hlt) (Nat.ne_of_lt (Nat.lt_succ_of_lt hlt)), ⟨hz, hTI, ⟨_, _, hTO⟩, h1, h2⟩, fresh5, q⟩
      · obtain ⟨its2, rv2, p2, _⟩ := I1.tuple hqy
        obtain ⟨o2, ho2, _⟩ := id p2
        refine call_T (show s1.heap.IsTuple b its2.toArray from p2) fun h' hz hTI hTO h1 h2 hsz hk => pyIter_zs hz ?_
        have I2 : Inv X pins σ H2 { s1 with heap := h' } := I1.kept (t' := s1.toks) hk
        have hlt := Heap.lt_size ho2
        exact ⟨s1.heap.objs.size + 4, [s1.heap.objs.size + 4, s1.heap.objs.size + 2, s1.heap.objs.size + 3, s1.heap.objs.size, s1.heap.objs.size + 1], _, _, H2, rfl, I2, turn_zsT (x := x) (t := t) (zs_sep s1.heap.objs.size b hlt) (Nat.ne_of_lt (Nat.lt_succ_of_lt hlt)), ⟨hz, hTI, ⟨_, _, hTO⟩, h1, h2⟩, fresh5, q⟩
/-! as data -/
def zsD (z : Str) (ys : List Dt) : List Dt := List.zipWith (fun c b => .tup [.str ⟨#[c]⟩, b]) z.cps.toList ys
def zsO : List Dt → Option (List Dt)
  | [.str z, .lst ys] => if z.cps.toList.length = ys.length then some (zsD z ys) else none
  | [.str z, .tup ys] => if z.cps.toList.length = ys.length then some (zsD z ys) else none
  | _ => none
section
variable {K : PySem.W.Frag} {F : Hp} {b : Addr} {us : List V} {es : List Dt} {z : Str}
theorem zsD_len (hl : z.cps.toList.length = es.length) : (zsD z es).length = es.length := by simp [zsD] at hl ⊢; omega
theorem walkD_zsL (h2 : SqL K F b us) (r2 : Rps K F es us) (hl : z.cps.toList.length = es.length) : WalkD K F (ItzsL K z b) (zsD z es) where
  goes := fun i H hi s => by
    rw [zsD_len hl, r2.length] at hi
    exact ⟨us, us[i], by simp at hl; rw [hl, r2.length]; exact hi, s.seq h2, by simp [hi]⟩
  stops := fun H s => ⟨us, s.seq h2, by rw [zsD_len hl, r2.length], by rw [zsD_len hl]; simpa using hl⟩
  yields := fun i H x H' G hi s1 s2 y => by
    obtain ⟨T, c, y1, rfl, nT, rfl, e1, e2⟩ := y
    obtain ⟨e, k3, k4⟩ := r2.getV (e2 us ((s1.trans s2).seq h2))
    obtain ⟨G', g1, g2⟩ := pair_ok (d := .str ⟨#[c]⟩) s2 nT (.str _) (k4.mono s1)
    exact ⟨G', .tup [.str ⟨#[c]⟩, e], by simp [zsD, List.getElem?_zipWith, k3, e1], g1, g2⟩
theorem walkD_zsT (h2 : SqT K F b us) (r2 : Rps K F es us) (hl : z.cps.toList.length = es.length) : WalkD K F (ItzsT K z b) (zsD z es) where
  goes := fun i H hi s => by
    rw [zsD_len hl, r2.length] at hi
    exact ⟨us, us[i], by simp at hl; rw [hl, r2.length]; exact hi, same_sqT s h2, by simp [hi]⟩
  stops := fun H s => ⟨us, same_sqT s h2, by rw [zsD_len hl, r2.length], by rw [zsD_len hl]; simpa using hl⟩
  yields := fun i H x H' G hi s1 s2 y => by
    obtain ⟨T, c, y1, rfl, nT, rfl, e1, e2⟩ := y
    obtain ⟨e, k3, k4⟩ := r2.getV (e2 us (same_sqT (s1.trans s2) h2))
    obtain ⟨G', g1, g2⟩ := pair_ok (d := .str ⟨#[c]⟩) s2 nT (.str _) (k4.mono s1)
    exact ⟨G', .tup [.str ⟨#[c]⟩, e], by simp [zsD, List.getElem?_zipWith, k3, e1], g1, g2⟩
end
section
variable {X : Cx} {P : Pt} {Wx : WX} {pos p tpos kpos kp : Pos} {j : Nat} {elts : List Expr} {kk : Nat} {e e2 : Expr} {fa : FA}
theorem i_zs (hg : Gl X "zip") (hm : X.mg "zip" = none) (ha : PA X [e, e2] (LA X.K P Wx fa)) (hs : starEach [e, e2] X.env = (false, eval e X.env) :: starEach [e2] X.env := by rfl) (hpl : (backTo pos (starEach [e, e2] X.env)).any (·.1) = false := by rfl)
    (hall : (backToKw pos (keywordEach [⟨some "strict", .Constant (.bool true) j kp, kpos⟩] X.env)).all (·.1.isSome) = true := by rfl) (hnone : (backToKw pos (keywordEach [⟨some "strict", .Constant (.bool true) j kp, kpos⟩] X.env)).any (·.1.isNone) = false := by rfl)
    (hks : (backToKw pos (keywordEach [⟨some "strict", .Constant (.bool true) j kp, kpos⟩] X.env)).filterMap (·.1) = [Str.ofString "strict"] := by rfl) :
    PI X (.Tuple elts kk tpos) (.Call (.Name "zip" p) [e, e2] [⟨some "strict", .Constant (.bool true) j kp, kpos⟩] pos) (LI X.K P Wx (iArgs zsO fa)) :=
  PIm (pi_zs hg hm ha hs hpl hall hnone hks) fun σ H R h => LA.bindI h fun ds es F1 H1 vs rp sF e k => by
    match ds, rp, e with
    | [.str z, .lst ys], .cons (.str _) (.cons (.lst h2 r2) .nil), e =>
      unfold zsO at e
      simp only [] at e
      split at e
      · rename_i hl
        cases e
        exact ⟨_, _, _, rfl, .inl ⟨.inl (.inl (sF _ _ h2)), k _ (walkD_zsL (.inl (.inl h2)) r2 hl)⟩⟩
      · cases e
    | [.str z, .tup ys], .cons (.str _) (.cons (.tup h2 r2) .nil), e =>
      unfold zsO at e
      simp only [] at e
      split at e
      · rename_i hl
        cases e
        exact ⟨_, _, _, rfl, .inr ⟨same_sqT sF h2, k _ (walkD_zsT h2 r2 hl)⟩⟩
      · cases e
end
end DL
namespace DL
open PySem PySem.Spec PyProof.Rows L2 RZ
/-! ### methods of texts with one argument -/
def eMS (o : Str → Dt → Option Dt) (fa fb : FE) : FE := bindE fa fun d => match d with
  | .str a => bindE fb fun e => eV (o a e)
  | _ => fun _ => none
def MsD (K : PySem.W.Frag) (r : V → List V → Hp → VK → Prop) (o : Str → Dt → Option Dt) : Prop :=
  ∀ a e g, o a e = some g → ∀ (F H : Hp) (y : V) (Q : VK), Same F H → Rp K F e y → (∀ F' H' z, Grow F H F' H' → Rp K F' g z → Q z H') → r (.str a) [y] H Q
section
variable {X : Cx} {P : Pt} {Wx : WX} {pos apos : Pos} {o e : Expr} {fa fb : FE}
theorem LE_ms {r : V → List V → Hp → VK → Prop} {m : Str → Dt → Option Dt} (hr : MsD X.K r m) {σ : L2.St} {H : Hp} {Q : VK} (h : LE X.K P Wx (eMS m fa fb) σ H Q) : tM1 r (LE X.K P Wx fa) (LE X.K P Wx fb) σ H Q := by
  obtain ⟨F, ρ, rr, q⟩ := h
  refine LE.bind rr q fun d ρ1 F1 H1 x s1 r1 p1 q1 => ?_
  cases p1 with
  | str a =>
    refine ⟨⟨a, rfl⟩, LE.bind r1 q1 fun e ρ2 F2 H2 y s2 r2 p2 q2 => ?_⟩
    cases eo : m a e with
    | none => rw [eo] at q2; exact q2.elim
    | some g =>
      rw [eo] at q2
      exact hr a e g eo F2 H2 y Q r2.fh p2 fun F' H' z g' pz => q2 F' H' z g'.f (r2.grow g') pz
  | _ => exact q1.elim
theorem d_ms {id : String} {name : Str} {r : V → List V → Hp → VK → Prop} {m : Str → Dt → Option Dt} (slot : Slot "str" name id) (ty : typeOf (.builtin id) = pure (.type "method_descriptor")) (rule : MtR X id r) (hr : MsD X.K r m) (ha : PE X o (LE X.K P Wx fa)) (hb : PE X e (LE X.K P Wx fb))
    (hs : starEach [e] X.env = [(false, eval e X.env)] := by rfl) (hbase : attributeBase o name X.env (eval o X.env) = eval o X.env := by rfl) (hline : (apos.endLine == pos.line) = true := by rfl) :
    PE X (.Call (.Attribute o name apos) [e] [] pos) (LE X.K P Wx (eMS m fa fb)) := PEm (pe_m1 slot ty rule ha hb hs hbase hline) fun _ _ _ h => LE_ms hr h
end
def strsOf : List Dt → Option (List Str)
  | [] => some []
  | .str x :: ds => (match strsOf ds with
    | some ys => some (x :: ys)
    | none => none)
  | _ => none
theorem strsOf_ok {K : PySem.W.Frag} {F : Hp} : ∀ {ds : List Dt} {vs : List V} {ys : List Str}, Rps K F ds vs → strsOf ds = some ys → vs = ys.map V.str
  | _, _, _, .nil, e => by cases e; rfl
  | _, _, ys, .cons (.str x) r, e => by
    unfold strsOf at e
    split at e
    · rename_i zs hz
      cases e
      rw [strsOf_ok r hz]
      rfl
    · cases e
theorem strsOf_map (ys : List Str) : strsOf (ys.map Dt.str) = some ys := by
  induction ys with
  | nil => rfl
  | cons y ys ih => simp only [List.map_cons, strsOf, ih]
def mJoin (a : Str) (e : Dt) : Option Dt := match (match e with
  | .lst ds => strsOf ds
  | .tup ds => strsOf ds
  | _ => none) with
  | some ys => if (ys.map (·.length)).sum + ys.length * a.length ≤ 16777216 then some (.str (Txt.join a ys)) else none
  | none => none
def mPart (a : Str) : Dt → Option Dt
  | .str b => if (b.length == 0) = false ∧ a.length ≤ 100000 then some (.tup [.str (Txt.partition a b).1, .str (Txt.partition a b).2.1, .str (Txt.partition a b).2.2]) else none
  | _ => none
def mStarts (a : Str) : Dt → Option Dt
  | .str b => some (.bl (Txt.startswith a b))
  | _ => none
def mFind (a : Str) : Dt → Option Dt
  | .str b => some (.int (Txt.find a b))
  | _ => none
def mSplit (a : Str) : Dt → Option Dt
  | .str b => if (b.length == 0) = false ∧ a.length ≤ 100000 then some (.lst ((Txt.split a b).map .str)) else none
  | _ => none
section
variable {X : Cx}
theorem ms_join : MsD X.K (fun x xs H Q => ∃ a p, ∃ ys : List Str, x = .str a ∧ xs = [.ref p] ∧ (SqL X.K H p (ys.map V.str) ∨ SqT X.K H p (ys.map V.str)) ∧
    (ys.map (·.length)).sum + ys.length * a.length ≤ 16777216 ∧ Q (.str (Txt.join a ys)) H) mJoin := by
  intro a e g h F H y Q s he q
  unfold mJoin at h
  split at h
  · rename_i ys hy
    split at h
    · rename_i hz
      cases h
      cases he with
      | lst hq hr =>
        have := strsOf_ok hr hy
        subst this
        exact ⟨a, _, ys, rfl, rfl, .inl (.inl (.inl (s _ _ hq))), hz, q F H _ (Grow.refl s) (.str _)⟩
      | tup hq hr =>
        have := strsOf_ok hr hy
        subst this
        exact ⟨a, _, ys, rfl, rfl, .inr (same_sqT s hq), hz, q F H _ (Grow.refl s) (.str _)⟩
      | _ => cases hy
    · cases h
  · cases h
theorem ms_part : MsD X.K (fun x xs H Q => ∃ a b, x = .str a ∧ xs = [.str b] ∧ (b.length == 0) = false ∧ a.length ≤ sizeLine ∧
    ∀ p, H p = none → Q (.ref p) (upd H p (.tup [.str (Txt.partition a b).1, .str (Txt.partition a b).2.1, .str (Txt.partition a b).2.2]))) mPart := by
  intro a e g h F H y Q s he q
  cases he with
  | str b =>
    unfold mPart at h
    simp only [] at h
    split at h
    · rename_i hz
      cases h
      refine ⟨a, b, rfl, rfl, hz.1, sz1000 hz.2, fun p np => ?_⟩
      have gg := Grow.lay (o := .tup [.str (Txt.partition a b).1, .str (Txt.partition a b).2.1, .str (Txt.partition a b).2.2]) s np
      exact q _ _ _ gg (.tup (.inl (.inl upd_same)) (.cons (.str _) (.cons (.str _) (.cons (.str _) .nil))))
    · cases h
  | _ => cases h
theorem ms_starts : MsD X.K (fun x xs H Q => ∃ a b, x = .str a ∧ xs = [.str b] ∧ Q (.bl (Txt.startswith a b)) H) mStarts := by
  intro a e g h F H y Q s he q
  cases he with
  | str b => cases h; exact ⟨a, b, rfl, rfl, q F H _ (Grow.refl s) (.bl _)⟩
  | _ => cases h
theorem ms_find : MsD X.K (fun x xs H Q => ∃ a b, x = .str a ∧ xs = [.str b] ∧ Q (.int (Txt.find a b)) H) mFind := by
  intro a e g h F H y Q s he q
  cases he with
  | str b => cases h; exact ⟨a, b, rfl, rfl, q F H _ (Grow.refl s) (.int _)⟩
  | _ => cases h
theorem Rps.strs {K : PySem.W.Frag} {F : Hp} : ∀ ys : List Str, Rps K F (ys.map Dt.str) (ys.map V.str)
  | [] => .nil
  | y :: ys => .cons (.str y) (Rps.strs ys)
theorem ms_split : MsD X.K (fun x xs H Q => ∃ a b, x = .str a ∧ xs = [.str b] ∧ (b.length == 0) = false ∧ a.length + 2 ≤ sizeLine ∧ rNewStrs (Txt.split a b) H Q) mSplit := by
  intro a e g h F H y Q s he q
  cases he with
  | str b =>
    unfold mSplit at h
    simp only [] at h
    split at h
    · rename_i hz
      cases h
      refine ⟨a, b, rfl, rfl, hz.1, Nat.le_trans (Nat.add_le_add_right hz.2 2) (by decide), fun p np => ?_⟩
      have gg := Grow.lay (o := .lst ((Txt.split a b).map V.str)) s np
      exact q _ _ _ gg (.lst upd_same (Rps.strs _))
    · cases h
  | _ => cases h
end
/-! ### texts with parts put in -/
def dFmt : Dt → Option Dt
  | .str y => if y.length ≤ 100000 then some (.str y) else none
  | .int i => if i.natAbs.log2 < 1920 then some (.str (toString i)) else none
  | _ => none
def eJs : List FE → Str → FE
  | [], acc => eC (.str acc)
  | f :: fs, acc => bindE f fun d => match d with
    | .str y => if (acc ++ y).length ≤ 100000 then eJs fs (acc ++ y) else fun _ => none
    | _ => fun _ => none
inductive PJD (X : Cx) (P : Pt) (Wx : WX) : List Expr → List FE → Prop where
  | nil : PJD X P Wx [] []
  | cons {e : Expr} {f : FE} {es : List Expr} {fs : List FE} (h : PE X e (LE X.K P Wx f)) (r : PJD X P Wx es fs) : PJD X P Wx (e :: es) (f :: fs)
section
variable {X : Cx} {P : Pt} {Wx : WX} {pos : Pos} {e v1 v2 : Expr} {rest : List Expr} {fa : FE} {fs : List FE}
theorem d_fmt (he : PE X e (LE X.K P Wx fa)) : PE X (.FormattedValue e (-1) none pos) (LE X.K P Wx (eUn dFmt fa)) := PEm (pe_fmt he) fun σ H Q h => by
  obtain ⟨F, ρ, rr, q⟩ := h
  refine LE.bind rr q fun d ρ1 F1 H1 x s1 r1 p1 q1 => ?_
  cases p1 with
  | str y =>
    by_cases hl : y.length ≤ 100000
    · rw [show dFmt (.str y) = some (.str y) from if_pos hl] at q1
      exact .inl ⟨y, rfl, sz1000 hl, q1 F1 H1 _ (.refl _) r1 (.str _)⟩
    · rw [show dFmt (.str y) = none from if_neg hl] at q1
      exact q1.elim
  | int i =>
    by_cases hl : i.natAbs.log2 < 1920
    · rw [show dFmt (.int i) = some (.str (toString i)) from if_pos hl] at q1
      exact .inr ⟨i, rfl, hl, q1 F1 H1 _ (.refl _) r1 (.str _)⟩
    · rw [show dFmt (.int i) = none from if_neg hl] at q1
      exact q1.elim
  | _ => exact q1.elim
theorem PJD.pj {es : List Expr} (h : PJD X P Wx es fs) : PJ X es (fs.map fun f => LE X.K P Wx f) := by
  induction h with
  | nil => exact .nil
  | cons h _ ih => exact .cons h ih
theorem LE_js {σ : L2.St} {Q : VK} : ∀ (fs : List FE) (acc : Str) (F H : Hp) (ρ : Rho), Rel X.K P F H σ ρ → postE X.K P Wx σ F Q (eJs fs acc ρ) → tJs (fs.map fun f => LE X.K P Wx f) acc σ H fun out H1 => Q (.str out) H1
  | [], acc, F, H, ρ, r, q => q F H _ (.refl _) r (.str acc)
  | f :: fs, acc, F, H, ρ, r, q => by
    refine LE.bind r q fun d ρ1 F1 H1 x s1 r1 p1 q1 => ?_
    cases p1 with
    | str y =>
      simp only [] at q1
      split at q1
      · rename_i hl
        exact ⟨y, rfl, sz1000 hl, LE_js fs (acc ++ y) F1 H1 ρ1 r1 q1⟩
      · exact q1.elim
    | _ => exact q1.elim
theorem d_js (h : PJD X P Wx (v1 :: v2 :: rest) fs) : PE X (.JoinedStr (v1 :: v2 :: rest) pos) (LE X.K P Wx (eJs fs Str.empty)) := PEm (pe_joined h.pj) fun σ H Q q => by
  obtain ⟨F, ρ, r, q⟩ := q
  exact LE_js fs Str.empty F H ρ r q
theorem d_js1 (h : PE X e (LE X.K P Wx fa)) : PE X (.JoinedStr [e] pos) (LE X.K P Wx fa) := pe_joined1 h
end
/-! ### str(..) of texts too -/
def dStrA : List Dt → Option Dt
  | [.int i] => if i.natAbs.log2 < 1920 then some (.str (toString i)) else none
  | [.str a] => some (.str a)
  | _ => none
section
variable {X : Cx}
theorem call_strA : CallR X (.type "str") (fun xs H Q => (∃ i, xs = [.int i] ∧ i.natAbs.log2 < 1920 ∧ Q (.str (toString i)) H) ∨ ∃ a, xs = [.str a] ∧ Q (.str a) H) := CallR.or call_str_int SkE.call_str_str
theorem cd_strA : CallD X.K (fun xs H Q => (∃ i, xs = [.int i] ∧ i.natAbs.log2 < 1920 ∧ Q (.str (toString i)) H) ∨ ∃ a, xs = [.str a] ∧ Q (.str a) H) dStrA := by
  intro ds g h F H vs Q s hr q
  unfold dStrA at h
  split at h
  · split at h
    · rename_i hl
      cases h
      match vs, hr with
      | _, .cons (.int i) .nil => exact .inl ⟨i, rfl, hl, q F H _ (Grow.refl s) (.str _)⟩
    · cases h
  · cases h
    match vs, hr with
    | _, .cons (.str a) .nil => exact .inr ⟨a, rfl, q F H _ (Grow.refl s) (.str _)⟩
  · cases h
end
/-! ### wp -/
def wS (d : Dt) (Q : Str → Prop) : Prop := match d with
  | .str a => Q a
  | _ => False
theorem wS.mono {d : Dt} {Q Q' : Str → Prop} (h : wS d Q) (k : ∀ g, Q g → Q' g) : wS d Q' := by
  cases d with
  | str a => exact k a h
  | _ => exact h
theorem wS.ex {d : Dt} {Q : Str → Prop} (h : wS d Q) : ∃ a, d = .str a ∧ Q a := by
  cases d with
  | str a => exact ⟨a, rfl, h⟩
  | _ => exact h.elim
theorem ev_ms {m : Str → Dt → Option Dt} {fa fb : FE} {ρ : Rho} {Q : Dt → Rho → Prop} (h : EvE fa ρ fun d ρ1 => ∃ a, d = .str a ∧ EvE fb ρ1 fun e ρ2 => ∃ g, m a e = some g ∧ Q g ρ2) : EvE (eMS m fa fb) ρ Q := by
  obtain ⟨d, ρ1, e1, a, rfl, e, ρ2, e2, g, eg, q⟩ := h
  exact ⟨g, ρ2, by unfold eMS bindE; simp only [e1, e2, eg]; rfl, q⟩
instance p_ms {m : Str → Dt → Option Dt} {fa fb : FE} [WpE fa] [WpE fb] : WpE (eMS m fa fb) :=
  ⟨fun ρ Q => WpE.wp fa ρ fun d ρ1 => wS d fun a => WpE.wp fb ρ1 fun e ρ2 => wO (m a e) fun g => Q g ρ2,
    fun h => ev_ms ((WpE.ok h).imp fun _ _ h => by
      obtain ⟨a, rfl, h⟩ := h.ex
      exact ⟨a, rfl, (WpE.ok h).imp fun _ _ h => h.ex⟩), fun h k => WpE.mono h fun _ _ h => h.mono fun _ h => WpE.mono h fun _ _ h => h.mono fun _ h => k _ _ h⟩
instance p_js0 {acc : Str} : WpE (eJs [] acc) := ⟨fun ρ Q => Q (.str acc) ρ, ev_c, fun h k => k _ _ h⟩
def wL (acc : Str) (Q : Prop) : Prop := wC (Nat.ble acc.length 100000) Q
instance p_js1 {f : FE} {fs : List FE} {acc : Str} [WpE f] [∀ a, WpE (eJs fs a)] : WpE (eJs (f :: fs) acc) :=
  ⟨fun ρ Q => WpE.wp f ρ fun d ρ1 => wS d fun y => wC (Nat.ble (acc ++ y).length 100000) (WpE.wp (eJs fs (acc ++ y)) ρ1 Q),
    fun {ρ Q} h => by
      obtain ⟨d, ρ1, e1, h⟩ := WpE.ok h
      obtain ⟨y, hy, h⟩ := wS.ex h
      subst hy
      obtain ⟨hl, h⟩ := wC.ex h
      obtain ⟨g, ρ2, e2, q⟩ := WpE.ok h
      refine ⟨g, ρ2, ?_, q⟩
      show bindE f _ ρ = _
      unfold bindE
      simp only [e1]
      rw [if_pos (Nat.le_of_ble_eq_true hl)]
      exact e2, fun h k => WpE.mono h fun _ _ h => h.mono fun _ h => h.mono fun h => WpE.mono h k⟩
/-! ### tables of the module: looked into -/
def keyText : Value → Option Str
  | .str x _ => some x
  | _ => none
structure TabsAt (K : PySem.W.Frag) (w : World) (mg : Str → Option Value) (t : Str) (kvs : List (Str × Dt)) : Prop where
  ex : ∃ q es n, mg t = some (.ref q) ∧ K.lookup q = some ⟨.type "dict", none, .dict es n, #[]⟩ ∧ PySem.W.KeysLit w.params es.toList ∧ (q == sysModules) = false ∧ es.toList.map (fun e => keyText e.key) = kvs.map (fun kv => some kv.1) ∧ ∀ z e, (z, e) ∈ kvs → ∃ u v, PySem.W.nsIn K q z = some (some u) ∧ RelV v u ∧ ∀ F : Hp, Rp K F e v
def tabG (kvs : List (Str × Dt)) : Dt → Option Dt
  | .str z => some (match kvs.lookup z with
    | some e => e
    | none => .non)
  | _ => none
def tabI (kvs : List (Str × Dt)) : Dt → Option Dt
  | .str z => some (.bl (kvs.lookup z).isSome)
  | _ => none
def tabN (kvs : List (Str × Dt)) : Dt → Option Dt
  | .str z => some (.bl (!(kvs.lookup z).isSome))
  | _ => none
theorem find_none {es : List DictEntry} {z : Str} : ∀ {kvs : List (Str × Dt)}, es.map (fun e => keyText e.key) = kvs.map (fun kv => some kv.1) → kvs.lookup z = none → es.find? (fun d => Value.isStrOf z d.key) = none := by
  induction es with
  | nil => intro kvs _ _; rfl
  | cons e es ih =>
    intro kvs h hl
    cases kvs with
    | nil => simp at h
    | cons kv kvs =>
      simp only [List.map_cons, List.cons.injEq] at h
      obtain ⟨k, d⟩ := kv
      unfold List.lookup at hl
      split at hl
      · cases hl
      · rename_i hne
        rw [List.find?_cons]
        have : Value.isStrOf z e.key = false := by
          have hk := h.1
          cases hh : e.key with
          | str x t =>
            rw [hh] at hk
            have e1 : x = k := Option.some.inj hk
            subst e1
            show (x == z) = false
            have : (z == x) = false := hne
            rw [Bool.eq_false_iff] at this ⊢
            exact fun q => this (by rw [eq_of_beq q]; exact beq_self_eq_true _)
          | _ => rw [hh] at hk; cases hk
        rw [this]
        exact ih h.2 hl
section
variable {X : Cx} {P : Pt} {Wx : WX} {pos p apos : Pos} {t : Str} {kvs : List (Str × Dt)} {b : Expr} {fb : FE}
theorem TabsAt.find (T : TabsAt X.K X.w X.mg t kvs) : ∃ q, ∃ f : Str → Option Value, X.mg t = some (.ref q) ∧ (q == sysModules) = false ∧ (∀ {pins : List (Addr × Obj)} {σ : L2.St} {H : Hp} {s : Shared}, Inv X pins σ H s → s.heap.MapOf (strKind X.prog X.w) q f) ∧ ∀ z, (kvs.lookup z = none → f z = none) ∧ ∀ e, kvs.lookup z = some e → ∃ u v, f z = some u ∧ RelV v u ∧ ∀ F : Hp, Rp X.K F e v := by
  obtain ⟨q, es, n, m, hl, hk, hs, hm, he⟩ := T.ex
  refine ⟨q, _, m, hs, fun I => PySem.W.mapOf_K (prog := X.prog) (w := X.w) I.kIn hl hk, fun z => ⟨fun hz => ?_, fun e hz => ?_⟩⟩
  · unfold findBy
    obtain ⟨l⟩ := es
    rw [List.find?_toArray]
    rw [find_none hm hz]
    rfl
  · obtain ⟨u, v, e1, e2, e3⟩ := he z e (lookup_mem hz)
    exact ⟨u, v, PySem.W.find_K hl e1, e2, e3⟩
theorem TabsAt.get (T : TabsAt X.K X.w X.mg t kvs) (hg : Gl X t) (hb : PE X b (LE X.K P Wx fb)) (m : M1 X (.Name t p) "get" apos b pos) (hd : (t == ("__debug__" : Str)) = false := by decide) : PE X (.Call (.Attribute (.Name t p) "get" apos) [b] [] pos) (LE X.K P Wx (eUn (tabG kvs) fb)) := by
  obtain ⟨q, f, mq, hs, hf, hz⟩ := T.find
  refine ⟨fun pins s σ H Q I h => ?_⟩
  refine wpAny_Call_method m.base m.few m.line PySem.F.plainAttrs_dict PySem.F.slot_dict_get PySem.F.type_dict_get (thn ((pe_glob (v := .ref q) hg mq rfl hd (pos := p)).run pins s σ H (fun v H1 => v = .ref q ∧ H1 = H) I ⟨rfl, rfl⟩) fun u s1 ⟨x, H1, I1, rx, q1⟩ => ?_)
  obtain ⟨rfl, rfl⟩ := q1
  obtain rfl : u = Value.ref q := rx
  have hm1 := hf I1
  refine ⟨hm1.typeIs, fun b e => ?_, ?_⟩
  · cases e
    obtain ⟨ob, _, _, h1, h2, _⟩ := hm1
    exact ⟨ob, h1, h2.2.1⟩
  rw [m.trees]
  obtain ⟨F, ρ, rr, h⟩ := h
  refine Calls.callWith_builtin rfl (Calls.evalArgs_plain (Calls.spliced_cons (thn (hb.run pins s1 σ H1 (fun y H2 => ∃ z, y = .str z ∧ ∃ v, RelV v ((f z).getD .none) ∧ Q v H2) I1 ?_) fun iv s2 ⟨y, H2, I2, ry, z, ey, v, ev, q2⟩ => Calls.spliced_nil ?_)))
  · refine LE.bind rr h fun d ρ1 F1 H1 x s1 r1 p1 q1 => ?_
    cases p1 with
    | str z =>
      refine ⟨z, rfl, ?_⟩
      cases hk : kvs.lookup z with
      | none =>
        have e0 : tabG kvs (.str z) = some .non := by show some _ = _; rw [hk]
        rw [e0] at q1
        refine ⟨.non, ?_, q1 F1 H1 _ (.refl _) r1 .non⟩
        rw [(hz z).1 hk]
        rfl
      | some e =>
        have e0 : tabG kvs (.str z) = some e := by show some _ = _; rw [hk]
        rw [e0] at q1
        obtain ⟨u, v, e1, e2, e3⟩ := (hz z).2 e hk
        refine ⟨v, ?_, q1 F1 H1 v (.refl _) r1 (e3 F1)⟩
        rw [e1]
        exact e2
    | _ => exact q1.elim
  · subst ey
    obtain ⟨tk, rfl⟩ := ry
    exact call_meetsIn PySem.F.slot_dict_get (hf I2).typeIs PySem.F.entry_dict_get (PySem.F.args_dict_get_2 _ _) (meets_dict_get (strKind X.prog X.w) q (strKind_is X.prog X.w z tk) hs) ⟨f, hf I2, v, H2, I2.tok _, ev, q2⟩
theorem LE_tabB {f : Str → Option Value} {g : Bool → Bool} {o : Dt → Option Dt} (ho : ∀ z, o (.str z) = some (.bl (g (kvs.lookup z).isSome))) (ho2 : ∀ d, (∀ z, d ≠ .str z) → o d = none) (hz : ∀ z, (kvs.lookup z = none → f z = none) ∧ ∀ e, kvs.lookup z = some e → ∃ u v, f z = some u ∧ RelV v u ∧ ∀ F : Hp, Rp X.K F e v)
    {σ : L2.St} {H : Hp} {Q : VK} (h : LE X.K P Wx (eUn o fb) σ H Q) : LE X.K P Wx fb σ H fun y H2 => ∃ z, y = .str z ∧ Q (.bl (g (f z).isSome)) H2 := by
  obtain ⟨F, ρ, rr, h⟩ := h
  refine LE.bind rr h fun d ρ1 F1 H1 x s1 r1 p1 q1 => ?_
  cases p1 with
  | str z =>
    rw [ho] at q1
    refine ⟨z, rfl, ?_⟩
    have e : (f z).isSome = (kvs.lookup z).isSome := by
      cases hk : kvs.lookup z with
      | none => rw [(hz z).1 hk]; rfl
      | some e =>
        obtain ⟨u, v, e1, _⟩ := (hz z).2 e hk
        rw [e1]; rfl
    rw [e]
    exact q1 F1 H1 _ (.refl _) r1 (.bl _)
  | _ => rw [ho2 _ (by intro z e; cases e)] at q1; exact q1.elim
theorem TabsAt.pc (T : TabsAt X.K X.w X.mg t kvs) (hg : Gl X t) (hb : PE X b (LE X.K P Wx fb)) (hd : (t == ("__debug__" : Str)) = false := by decide) : PC X .In b (.Name t p) (LE X.K P Wx (eUn (tabI kvs) fb)) := by
  obtain ⟨q, f, mq, hs, hf, hz⟩ := T.find
  refine ⟨fun pins s σ H Q I h => ?_⟩
  refine thn (hb.run pins s σ H _ I (LE_tabB (g := fun b => b) (fun _ => rfl) (fun d hd => by cases d <;> first | rfl | exact absurd rfl (hd _)) hz h)) fun iv s1 ⟨y, H1, I1, ry, z, ey, q1⟩ => thn ((pe_glob (v := .ref q) hg mq rfl hd (pos := p)).run pins s1 σ H1 (fun v H2 => v = .ref q ∧ H2 = H1) I1 ⟨rfl, rfl⟩) fun u s2 ⟨x, H2, I2, rx, q2⟩ => ?_
  obtain ⟨rfl, rfl⟩ := q2
  obtain rfl : u = Value.ref q := rx
  subst ey
  obtain ⟨tk, rfl⟩ := ry
  exact wpAny_in_of (strKind_is X.prog X.w z tk) hs (hf I2) ⟨.bl _, H2, I2.tok _, rfl, q1⟩
theorem TabsAt.pcN (T : TabsAt X.K X.w X.mg t kvs) (hg : Gl X t) (hb : PE X b (LE X.K P Wx fb)) (hd : (t == ("__debug__" : Str)) = false := by decide) : PC X .NotIn b (.Name t p) (LE X.K P Wx (eUn (tabN kvs) fb)) := by
  obtain ⟨q, f, mq, hs, hf, hz⟩ := T.find
  refine ⟨fun pins s σ H Q I h => ?_⟩
  refine thn (hb.run pins s σ H _ I (LE_tabB (g := fun b => !b) (fun _ => rfl) (fun d hd => by cases d <;> first | rfl | exact absurd rfl (hd _)) hz h)) fun iv s1 ⟨y, H1, I1, ry, z, ey, q1⟩ => thn ((pe_glob (v := .ref q) hg mq rfl hd (pos := p)).run pins s1 σ H1 (fun v H2 => v = .ref q ∧ H2 = H1) I1 ⟨rfl, rfl⟩) fun u s2 ⟨x, H2, I2, rx, q2⟩ => ?_
  obtain ⟨rfl, rfl⟩ := q2
  obtain rfl : u = Value.ref q := rx
  subst ey
  obtain ⟨tk, rfl⟩ := ry
  exact wpAny_notIn_of (strKind_is X.prog X.w z tk) hs (hf I2) ⟨.bl _, H2, I2.tok _, rfl, q1⟩
theorem TabsAt.tab (T : TabsAt X.K X.w X.mg t kvs) : TabAt X.K X.w X.mg t kvs := by
  obtain ⟨q, es, n, m, hl, hk, hs, hm, he⟩ := T.ex
  refine ⟨q, m, fun z e me => ?_⟩
  obtain ⟨u, v, e1, e2, e3⟩ := he z e me
  exact ⟨v, ⟨es, n, u, hl, hk, e1, e2⟩, e3⟩
end
section
variable {K : PySem.W.Frag} {w : World} {h : Heap} {mg : Str → Option Value} {t : Str}
theorem tabs_mk {q : Addr} {es : Array DictEntry} {n : Nat} {kvs : List (Str × Dt)} (X : K.In h) (G : h.Ns mainGlobals mg) (a : PySem.W.nsIn K mainGlobals t = some (some (.ref q))) (l : K.lookup q = some ⟨.type "dict", none, .dict es n, #[]⟩)
    (hk : PySem.W.KeysLit w.params es.toList) (hs : (q == sysModules) = false) (hm : es.toList.map (fun e => keyText e.key) = kvs.map (fun kv => some kv.1)) (he : EntriesOk K q kvs) : TabsAt K w mg t kvs :=
  ⟨q, es, n, PySem.W.mg_of X G a, l, hk, hs, hm, fun z e m => he.mem m⟩
end
/-! ### own lists of texts: count -/
def eqs (k : Str) (v : Value) : Bool := match v with
  | .str n _ => n == k
  | _ => false
theorem eqs_at {A : Around} {s : Shared} {k : Str} {t : Tok} : ∀ {us : List Value} {ys : List Str}, Vals (ys.map V.str) us → ∀ y ∈ us, SeqAt.EqAt A s y (.str k t) (eqs k y)
  | _, [], .nil => fun y hy => by cases hy
  | _, n :: ys, .cons r h => fun y hy => by
    rcases List.mem_cons.mp hy with e | e
    · obtain ⟨t', rfl⟩ := r
      rw [e]
      exact SeqAt.EqAt.str_str n t' k t
    · exact eqs_at h y e
theorem eqs_count {k : Str} : ∀ {us : List Value} {ys : List Str}, Vals (ys.map V.str) us → us.countP (eqs k) = ys.count k
  | _, [], .nil => rfl
  | _, n :: ys, .cons r h => by
    obtain ⟨t, rfl⟩ := r
    have ih := eqs_count (k := k) h
    rw [List.countP_cons, List.count_cons, ih] <;> rfl
def rCnt (K : PySem.W.Frag) : V → List V → Hp → VK → Prop := fun x xs H Q => ∃ (p : Addr) (ys : List Str) (k : Str), x = .ref p ∧ xs = [.str k] ∧ SqL K H p (ys.map V.str) ∧ Q (.int (ys.count k : Nat)) H
section
variable {X : Cx} {P : Pt} {Wx : WX} {pos' apos cpos : Pos} {e : Expr} {fb : FE}
theorem mt_cntS : MtR X "list.count" (rCnt X.K) := by
  intro pins s σ H x xs v us Q I rx rxs h
  obtain ⟨p, ys, k, rfl, rfl, hs, q⟩ := h
  cases rx
  obtain ⟨u, rfl, t, rfl⟩ := vals1 rxs
  obtain ⟨its, rv, ⟨⟨cls, dd, data, sl⟩, n, ho, hc, hdn, hd⟩, hlen⟩ := I.list hs
  simp only at hc hd
  subst hc hd
  refine call_meets PySem.F.slot_list_count ⟨_, ho, rfl⟩ PySem.F.entry_list_count (PySem.F.args_list_count_2 _ _)
    (SeqAt.list_countAt p its.toArray n dd sl (.str k t) (eqs k)) ⟨ho, fun y hy => eqs_at rv y (by simpa using hy), ?_⟩
  have ec : its.toArray.toList.countP (eqs k) = ys.count k := eqs_count rv
  refine ⟨.int (ys.count k : Nat), H, I.tok _, ⟨s.toks, ?_⟩, q⟩
  show Value.int ((its.toArray.toList.countP (eqs k) : Nat) : Int) s.toks = Value.int ((ys.count k : Nat) : Int) s.toks
  rw [ec]
def cntD : Dt → Dt → Option Dt
  | .lst ds, .str k => (match strsOf ds with
    | some ys => some (.int (ys.count k : Nat))
    | none => none)
  | _, _ => none
def isLst : Dt → Bool
  | .lst _ => true
  | _ => false
def eCnt (j : Nat) (fb : FE) : FE := withV j fun d0 => if isLst d0 = true then bindE fb fun e => withV j fun d => eF (cntD d e) else fun _ => none
theorem d_cnt (j : Nat) {x : Str} (hb : PE X e (LE X.K P Wx fb)) (hN : X.N[j]? = some x := by rfl) (hv : Vis X.env.scope x := by first | exact Or.inl rfl | exact Or.inr (Or.inl rfl) | exact Or.inr (Or.inr rfl)) (hd : (x == ("__debug__" : Str)) = false := by decide)
    (hcd : (x == ("__classdict__" : Str)) = false := by decide)
    (hbase : attributeBase (.Name x pos') "count" X.env (eval (.Name x pos') X.env) = eval (.Name x pos') X.env := by rfl)
    (hfew : ((backTo cpos (starEach (e :: []) X.env)).all (fun x => !x.1) && (backToKw cpos (keywordEach [] X.env)).all (fun x => x.1.isSome)
      && decide ((e :: []).length + ([] : List Keyword).length + (if ([] : List Keyword).isEmpty then 0 else 1) < 30)) = true := by rfl)
    (hline : (apos.endLine == cpos.line) = true := by rfl) (hs : starEach (e :: []) X.env = (false, eval e X.env) :: starEach [] X.env := by rfl) (hplain : (backTo cpos (starEach [] X.env)).any (·.1) = false := by rfl) :
    PE X (.Call (.Attribute (.Name x pos') "count" apos) [e] [] cpos) (LE X.K P Wx (eCnt j fb)) :=
  PEm (pe_bm PySem.F.plainAttrs_list PySem.F.slot_list_count PySem.F.type_list_count mt_cntS (pe_var hN hv hd hcd) (pa_cons hb pa_nil hs) hbase hfew hline hs hplain) fun σ H Q h => by
  obtain ⟨F, ρ, rr, q⟩ := h
  obtain ⟨d0, e0, q⟩ := withV_some (p := postE X.K P Wx σ F Q) q (fun z => z)
  obtain ⟨v, F0, ev, _, sf, p0⟩ := rr.peek e0
  split at q
  · rename_i hl
    refine ⟨v, ev, ?_, ?_⟩
    · cases p0 with
      | lst hq hr => exact .inl ⟨rfl, _, .inl (.inl (sf _ _ hq))⟩
      | _ => cases hl
    · refine LE.bind rr q fun e ρ1 F1 H1 y s1 r1 p1 q1 => ?_
      obtain ⟨d, e1, q1⟩ := withV_some (p := postE X.K P Wx σ F1 Q) q1 (fun z => z)
      obtain ⟨v', F2, ev', s2, s3, pd⟩ := r1.peek e1
      rw [ev] at ev'
      cases ev'
      obtain ⟨g, e2, fl, q1⟩ := eF_some q1
      cases pd with
      | lst hq hr =>
        cases p1 with
        | str k =>
          unfold cntD at e2
          simp only [] at e2
          split at e2
          · rename_i ys hy
            cases e2
            have := strsOf_ok hr hy
            subst this
            exact ⟨_, ys, k, rfl, rfl, .inl (.inl (s3 _ _ hq)), q1 F1 H1 _ (.refl _) r1 (.int _)⟩
          · cases e2
        | _ => cases e2
      | _ => cases e2
  · exact q.elim
end
theorem ev_cnt {j : Nat} {fb : FE} {ρ : Rho} {Q : Dt → Rho → Prop} {d0 : Dt} (e0 : slotD ρ[j]? = some d0) (hl : isLst d0 = true) (h : EvE fb ρ fun e ρ1 => ∃ d g, slotD ρ1[j]? = some d ∧ cntD d e = some g ∧ flatD g = true ∧ Q g ρ1) : EvE (eCnt j fb) ρ Q := by
  refine ev_withV e0 ?_
  rw [if_pos hl]
  refine ev_bind ?_
  obtain ⟨x, ρ1, e1, d, g, a, b, c, q⟩ := h
  exact ⟨x, ρ1, e1, ev_withV a (ev_F b c q)⟩
instance p_cnt {j : Nat} {fb : FE} [WpE fb] : WpE (eCnt j fb) :=
  ⟨fun ρ Q => wO (slotD ρ[j]?) fun d0 => wC (isLst d0) (WpE.wp fb ρ fun e ρ1 => wO (slotD ρ1[j]?) fun d => wO (cntD d e) fun g => wC (flatD g) (Q g ρ1)), fun h => by
    obtain ⟨d0, e0, h⟩ := h.ex
    obtain ⟨hl, h⟩ := h.ex
    exact ev_cnt e0 hl ((WpE.ok h).imp fun _ _ h => by
      obtain ⟨d, e1, h⟩ := h.ex
      obtain ⟨g, e2, h⟩ := h.ex
      obtain ⟨fl, h⟩ := h.ex
      exact ⟨d, g, e1, e2, fl, h⟩), fun h k => h.mono fun _ h => h.mono fun h => WpE.mono h fun _ _ h => h.mono fun _ h => h.mono fun _ h => h.mono fun h => k _ _ h⟩
end DL
namespace DL
open PySem PySem.Spec PyProof.Rows L2 RZ
/-! ### what is never come to -/
def sNone : FS := fun _ => none
theorem s_none {X : Cx} {P : Pt} {Wx : WX} {st : Stmt} : PS X st (LS X.K P Wx sNone) := ⟨fun pins s σ H D I h => by
  obtain ⟨F, ρ, r, q⟩ := h
  exact q.elim⟩
instance p_none : WpS sNone := ⟨fun _ _ _ => False, fun h => h.elim, fun h _ _ => h⟩
/-! ### x += e, ints -/
def sAugI (i : Nat) (f : FE) : FS := fun ρ => match ρ[i]? with
  | some (some (.sh (.int a))) => bindES f (fun d ρ1 => match d with
    | .int b => some (.nx, ρ1.set i (some (.sh (.int (a + b)))))
    | _ => none) ρ
  | _ => none
section
variable {X : Cx} {P : Pt} {Wx : WX} {pos pos' : Pos} {e : Expr} {fe : FE}
theorem s_augI (i : Nat) {x : Str} (hi' : i ∉ P.bs) (he : PE X e (LE X.K P Wx fe)) (hN : X.N.Nodup) (hx : Loc X.env.scope x) (hi : X.N[i]? = some x := by rfl)
    (hf : X.fn x = true ∨ X.env.scope.names.lookup x = some .local := by first | exact .inl rfl | exact .inr rfl | assumption) : PS X (.AugAssign (.Name x pos') .Add e pos) (LS X.K P Wx (sAugI i fe)) :=
  PSm (ps_aug hN hi hx he ip_add hf) fun D σ H h => by
  obtain ⟨F, ρ, r, q⟩ := h
  unfold sAugI at q
  split at q
  · rename_i a e0
    obtain ⟨v, ev, hv⟩ := r.slot i _ e0
    cases (show Rp X.K F (.int a) v from hv)
    refine ⟨_, ev, ?_⟩
    refine LE.bindS r q fun d ρ1 F1 H1 y s1 r1 p1 q1 => ?_
    cases p1 with
    | int b => exact ⟨a, b, rfl, rfl, q1 F1 H1 _ (.refl _) (r1.asg (w := .sh (.int (a + b))) hi' (.int _))⟩
    | _ => exact q1.elim
  · exact q.elim
end
def wSI (o : Option (Option Wt)) (Q : Int → Prop) : Prop := match o with
  | some (some (.sh (.int a))) => Q a
  | _ => False
theorem wSI.ex {o : Option (Option Wt)} {Q : Int → Prop} (h : wSI o Q) : ∃ a, o = some (some (.sh (.int a))) ∧ Q a := by
  unfold wSI at h
  split at h
  · rename_i a; exact ⟨a, rfl, h⟩
  · exact h.elim
instance p_augI {i : Nat} {f : FE} [WpE f] : WpS (sAugI i f) :=
  ⟨fun ρ N _ => wSI ρ[i]? fun a => WpE.wp f ρ fun d ρ1 => wI d fun b => fL (ρ1.set i (some (.sh (.int (a + b))))) N, fun {ρ N R} h => by
    obtain ⟨a, e0, h⟩ := wSI.ex h
    obtain ⟨d, ρ1, e1, h⟩ := WpE.ok h
    obtain ⟨b, hb, h⟩ := wI.ex h
    subst hb
    exact .inl ⟨_, by unfold sAugI bindES; simp only [e0, e1], fL_ok _ _ h⟩, fun {ρ N N' R R'} h k k2 => by
    obtain ⟨a, e0, h⟩ := wSI.ex h
    show wSI ρ[i]? _
    rw [e0]
    exact WpE.mono h fun _ _ h => h.mono fun _ h => h.mono fun _ h => k _ h⟩
end DL
namespace DL
open PySem PySem.Spec PyProof.Rows L2 RZ
/-! ### dicts that stay, keys ints and texts -/
def keyD : Dt → Option Key
  | .int i => some (.inl i)
  | .str x => some (.inr x)
  | _ => none
def valD (kvs : List (Key × Dt)) (k : Key) : Option Dt := (kvs.find? fun kv => decide (kv.1 = k)).map (·.2)
def putD (kvs : List (Key × Dt)) (k : Key) (v : Dt) : List (Key × Dt) :=
  if (kvs.any fun kv => decide (kv.1 = k)) = true then kvs.map (fun kv => if kv.1 = k then (kv.1, v) else kv) else kvs ++ [(k, v)]
def mergeD (kvs more : List (Key × Dt)) : List (Key × Dt) := more.foldl (fun acc kv => putD acc kv.1 kv.2) kvs
/-- the pairs, one by one -/
def KVs (K : PySem.W.Frag) (F : Hp) (kvs : List (Key × Dt)) (gs : List (Key × V)) : Prop := Paired (fun (p : Key × Dt) (q : Key × V) => p.1 = q.1 ∧ Rp K F p.2 q.2) kvs gs
section
variable {K : PySem.W.Frag} {F F' : Hp}
theorem KVs.of : ∀ {kvs : List (Key × Dt)} {gs : List (Key × V)}, gs.map (·.1) = kvs.map (·.1) → Rps K F (kvs.map (·.2)) (gs.map (·.2)) → KVs K F kvs gs
  | [], [], _, _ => .nil
  | [], _ :: _, e, _ => by simp at e
  | _ :: _, [], e, _ => by simp at e
  | p :: kvs, q :: gs, e, r => by
    simp only [List.map_cons, List.cons.injEq] at e
    rw [List.map_cons, List.map_cons] at r
    cases r with
    | cons h r => exact .cons ⟨e.1.symm, h⟩ (KVs.of e.2 r)
theorem KVs.keys {kvs : List (Key × Dt)} {gs : List (Key × V)} (h : KVs K F kvs gs) : gs.map (·.1) = kvs.map (·.1) := by
  unfold KVs at h
  induction h with
  | nil => rfl
  | cons h _ ih => rw [List.map_cons, List.map_cons, ih, h.1]
theorem KVs.vals {kvs : List (Key × Dt)} {gs : List (Key × V)} (h : KVs K F kvs gs) : Rps K F (kvs.map (·.2)) (gs.map (·.2)) := by
  unfold KVs at h
  induction h with
  | nil => exact .nil
  | cons h _ ih => exact .cons h.2 ih
theorem KVs.mono {kvs : List (Key × Dt)} {gs : List (Key × V)} (s : Same F F') (h : KVs K F kvs gs) : KVs K F' kvs gs := Paired.mapP h fun _ _ z => ⟨z.1, z.2.mono s⟩
theorem KVs.len {kvs : List (Key × Dt)} {gs : List (Key × V)} (h : KVs K F kvs gs) : kvs.length = gs.length := Paired.length h
theorem KVs.rp {a : Addr} {kvs : List (Key × Dt)} {gs : List (Key × V)} (h : KVs K F kvs gs) (e : F a = some (.dK gs)) : Rp K F (.dK kvs) (.ref a) := .dK e h.keys h.vals
theorem KVs.get {kvs : List (Key × Dt)} {gs : List (Key × V)} (h : KVs K F kvs gs) (k : Key) : match valD kvs k with
    | some d => ∃ v, valV gs k = some v ∧ Rp K F d v
    | none => valV gs k = none := by
  unfold KVs at h
  induction h with
  | nil => rfl
  | @cons p q ps qs h _ ih =>
    by_cases e : p.1 = k
    · have e1 : valD (p :: ps) k = some p.2 := by simp [valD, List.find?_cons, e]
      rw [e1]
      exact ⟨q.2, valV_pos (h.1 ▸ e), h.2⟩
    · have e1 : valD (p :: ps) k = valD ps k := by simp [valD, List.find?_cons, e]
      rw [e1, valV_neg (by rw [← h.1]; exact e)]
      exact ih
theorem KVs.any {kvs : List (Key × Dt)} {gs : List (Key × V)} (h : KVs K F kvs gs) (k : Key) : (gs.any fun kv => decide (kv.1 = k)) = kvs.any fun kv => decide (kv.1 = k) := by
  unfold KVs at h
  induction h with
  | nil => rfl
  | cons h _ ih => rw [List.any_cons, List.any_cons, ih, h.1]
theorem KVs.app : ∀ {kvs ks : List (Key × Dt)} {gs hs : List (Key × V)}, KVs K F kvs gs → KVs K F ks hs → KVs K F (kvs ++ ks) (gs ++ hs)
  | _, _, _, _, .nil, s => s
  | _, _, _, _, .cons h r, s => .cons h (KVs.app r s)
theorem KVs.sub {kvs : List (Key × Dt)} {gs : List (Key × V)} (h : KVs K F kvs gs) (k : Key) {d : Dt} {v : V} (hv : Rp K F d v) : KVs K F (kvs.map fun kv => if kv.1 = k then (kv.1, d) else kv) (gs.map fun kv => if kv.1 = k then (kv.1, v) else kv) := by
  unfold KVs at h ⊢
  induction h with
  | nil => exact .nil
  | @cons p q ps qs h _ ih =>
    refine .cons ?_ ih
    by_cases e : p.1 = k
    · simp only [if_pos e, if_pos (h.1 ▸ e : q.1 = k)]
      exact ⟨h.1, hv⟩
    · simp only [if_neg e, if_neg (by rw [← h.1]; exact e : ¬ q.1 = k)]
      exact h
theorem KVs.put {kvs : List (Key × Dt)} {gs : List (Key × V)} (h : KVs K F kvs gs) (k : Key) {d : Dt} {v : V} (hv : Rp K F d v) : KVs K F (putD kvs k d) (putK gs k v) := by
  unfold putD putK
  rw [h.any k]
  split
  · exact h.sub k hv
  · exact h.app (.cons ⟨rfl, hv⟩ .nil)
theorem KVs.merge : ∀ {ks kvs : List (Key × Dt)} {hs gs : List (Key × V)}, KVs K F ks hs → KVs K F kvs gs → KVs K F (mergeD kvs ks) (mergeK gs hs)
  | [], _, _, _, .nil, s => s
  | p :: ks, kvs, q :: hs, gs, .cons h r, s => by
    have e : KVs K F (putD kvs p.1 p.2) (putK gs q.1 q.2) := by rw [← h.1]; exact s.put p.1 h.2
    exact KVs.merge (ks := ks) (hs := hs) r e
end
theorem keyD_ok {K : PySem.W.Frag} {F : Hp} {d : Dt} {v : V} {k : Key} (h : Rp K F d v) (e : keyD d = some k) : v = kV k := by
  cases h <;> first | (cases e; rfl) | cases e
/-! d[k] -/
def dGetD : Dt → Dt → Option Dt
  | .dK kvs, e => (match keyD e with
    | some k => valD kvs k
    | none => none)
  | _, _ => none
def dInD (e : Dt) : Dt → Option Dt
  | .dK kvs => (match keyD e with
    | some k => some (.bl (valD kvs k).isSome)
    | none => none)
  | _ => none
def dNotInD (e : Dt) : Dt → Option Dt
  | .dK kvs => (match keyD e with
    | some k => some (.bl (!(valD kvs k).isSome))
    | none => none)
  | _ => none
section
variable {X : Cx} {P : Pt} {Wx : WX} {pos : Pos} {o i : Expr} {fa fb : FE}
theorem dget_ok {K : PySem.W.Frag} {F H : Hp} {d e g : Dt} {x y : V} (s : Same F H) (hd : Rp K F d x) (he : Rp K F e y) (h : dGetD d e = some g) : ∃ a v, x = .ref a ∧ DGet H a y (some v) ∧ Rp K F g v := by
  cases hd with
  | dK hq hk hr =>
    unfold dGetD at h
    simp only [] at h
    split at h
    · rename_i k hk2
      have e2 := keyD_ok he hk2
      have g1 := (KVs.of hk hr).get k
      rw [h] at g1
      obtain ⟨v, g2, g3⟩ := g1
      exact ⟨_, v, rfl, .inl ⟨_, k, .inl (s _ _ hq), e2, g2.symm⟩, g3⟩
    · cases h
  | _ => cases h
theorem d_dget (hu : X.A.units + 1 < cLine) (ha : PE X o (LE X.K P Wx fa)) (hb : PE X i (LE X.K P Wx fb)) (hs : NoSl i := by exact fun _ _ => rfl) : PE X (.Subscript o i pos) (LE X.K P Wx (eOp dGetD fa fb)) := PEm (pe_dget hu ha hb hs) fun σ H Q h => by
  obtain ⟨F, ρ, rr, q⟩ := h
  refine LE.bind rr q fun d ρ1 F1 H1 x s1 r1 p1 q1 => ?_
  refine LE.bind r1 q1 fun e ρ2 F2 H2 y s2 r2 p2 q2 => ?_
  cases eo : dGetD d e with
  | none => rw [eo] at q2; exact q2.elim
  | some g =>
    rw [eo] at q2
    obtain ⟨a, v, ex, dg, pv⟩ := dget_ok r2.fh (p1.mono s2) p2 eo
    exact ⟨a, v, ex, dg, q2 F2 H2 v (.refl _) r2 pv⟩
end
/-! dict(..): of a list of pairs, of a dict -/
def pairsD : List Dt → Option (List (Key × Dt))
  | [] => some []
  | .tup [k, d] :: ds => (match keyD k, pairsD ds with
    | some k, some r => some ((k, d) :: r)
    | _, _ => none)
  | _ => none
def dDict : List Dt → Option Dt
  | [.lst ds] => (match pairsD ds with
    | some kvs => some (.dK (mergeD [] kvs))
    | none => none)
  | [.dK kvs] => some (.dK kvs)
  | _ => none
section
variable {X : Cx}
theorem pairs_ok {K : PySem.W.Frag} {F H : Hp} (s : Same F H) : ∀ {ds : List Dt} {vs : List V} {kvs : List (Key × Dt)}, Rps K F ds vs → pairsD ds = some kvs → ∃ (ps : List Addr) (gs : List (Key × V)), vs = ps.map V.ref ∧ Paired (fun p kv => SqT K H p [kV kv.1, kv.2]) ps gs ∧ KVs K F kvs gs
  | _, _, _, .nil, e => by cases e; exact ⟨[], [], rfl, .nil, .nil⟩
  | _, _, kvs, .cons h r, e => by
    unfold pairsD at e
    split at e
    · rename_i e0; cases e0
    · rename_i k d ds e1
      cases e1
      cases h with
      | tup hq hr =>
        cases hr with
        | cons h1 hr =>
          cases hr with
          | cons h2 hr =>
            cases hr
            split at e
            · rename_i k' r' e2 e3
              cases e
              obtain ⟨ps, gs, a, b, c⟩ := pairs_ok s r e3
              have := keyD_ok h1 e2
              subst this
              exact ⟨_ :: ps, (k', _) :: gs, by rw [List.map_cons, a], .cons (same_sqT s hq) b, .cons ⟨rfl, h2⟩ c⟩
            · cases e
    · cases e
theorem call_dictA (hc : X.calm = true) : CallR X (.type "dict") (fun xs H Q => (∃ (a : Addr) (ps : List Addr) (kvs : List (Key × V)), xs = [.ref a] ∧ SqL X.K H a (ps.map V.ref) ∧ Paired (fun p kv => SqT X.K H p [kV kv.1, kv.2]) ps kvs ∧
    ∀ p, H p = none → Q (.ref p) (upd H p (.dK (mergeK [] kvs)))) ∨ ∃ (a : Addr) (kvs : List (Key × V)), xs = [.ref a] ∧ Rd H a (.dK kvs) ∧ ∀ p, H p = none → Q (.ref p) (upd H p (.dK kvs))) := CallR.or (call_dictP hc) call_dictD
theorem cd_dict : CallD X.K (fun xs H Q => (∃ (a : Addr) (ps : List Addr) (kvs : List (Key × V)), xs = [.ref a] ∧ SqL X.K H a (ps.map V.ref) ∧ Paired (fun p kv => SqT X.K H p [kV kv.1, kv.2]) ps kvs ∧
    ∀ p, H p = none → Q (.ref p) (upd H p (.dK (mergeK [] kvs)))) ∨ ∃ (a : Addr) (kvs : List (Key × V)), xs = [.ref a] ∧ Rd H a (.dK kvs) ∧ ∀ p, H p = none → Q (.ref p) (upd H p (.dK kvs))) dDict := by
  intro ds g h F H vs Q s hr q
  unfold dDict at h
  split at h
  · split at h
    · rename_i kvs hk
      cases h
      match vs, hr with
      | _, .cons (.lst hq hr) .nil =>
        obtain ⟨ps, gs, rfl, b, c⟩ := pairs_ok s hr hk
        refine .inl ⟨_, ps, gs, rfl, .inl (.inl (s _ _ hq)), b, fun p np => ?_⟩
        have gg := Grow.lay (o := .dK (mergeK [] gs)) s np
        exact q _ _ _ gg (KVs.rp ((c.mono gg.f).merge .nil) upd_same)
    · cases h
  · cases h
    match vs, hr with
    | _, .cons (.dK (gs := gs) hq hk hr) .nil =>
      refine .inr ⟨_, _, rfl, .inl (s _ _ hq), fun p np => ?_⟩
      have gg := Grow.lay (o := .dK gs) s np
      exact q _ _ _ gg (KVs.rp ((KVs.of hk hr).mono gg.f) upd_same)
  · cases h
end
/-! dicts compared -/
def eqAll (ls : List (Key × Dt)) : List (Key × Dt) → Bool
  | [] => true
  | (k, d) :: r => (match valD ls k with
    | some e => decide (eqB d e = some true)
    | none => false) && eqAll ls r
/-- both told alike: what is not so is not told -/
def dEqD : Dt → Dt → Option Dt
  | .dK ks, .dK ls => if ks.length = ls.length ∧ eqAll ls ks = true then some (.bl true) else none
  | _, _ => none
def dNeD : Dt → Dt → Option Dt
  | .dK ks, .dK ls => if ks.length = ls.length ∧ eqAll ls ks = true then some (.bl false) else none
  | _, _ => none
section
variable {X : Cx} {pins : List (Addr × Obj)} {σ : L2.St} {F H : Hp} {s : Shared}
theorem eq_at {A : Around} (hu : A.units + 64 < cLine) (I : Inv X pins σ H s) (sf : Same F H) {d e : Dt} {x y : V} {v u : Value} (hd : Rp X.K F d x) (he : Rp X.K F e y) (rx : RelV x v) (ry : RelV y u) (h : eqB d e = some true) : SeqAt.EqAt A s v u true := by
  rcases eqB_rule h sf hd he with ⟨a1, a2⟩ | ⟨d', e', a1, a2, a3, a4, a5⟩
  · have e1 : x = y := of_decide_eq_true a2
    subst e1
    cases x with
    | int i =>
      obtain ⟨t, rfl⟩ := (show ∃ t, v = Value.int i t from rx)
      obtain ⟨t', rfl⟩ := (show ∃ t, u = Value.int i t from ry)
      have := SeqAt.EqAt.int_int (A := A) (s := s) i t i t'
      rwa [beq_self_eq_true] at this
    | str i =>
      obtain ⟨t, rfl⟩ := (show ∃ t, v = Value.str i t from rx)
      obtain ⟨t', rfl⟩ := (show ∃ t, u = Value.str i t from ry)
      have := SeqAt.EqAt.str_str (A := A) (s := s) i t i t'
      rwa [beq_self_eq_true] at this
    | bl b =>
      obtain rfl := (show v = Value.bool b from rx)
      obtain rfl := (show u = Value.bool b from ry)
      exact SeqAt.EqAt.same _
    | non =>
      obtain rfl := (show v = Value.none from rx)
      obtain rfl := (show u = Value.none from ry)
      exact SeqAt.EqAt.same _
    | ref a =>
      obtain rfl := (show v = Value.ref a from rx)
      obtain rfl := (show u = Value.ref a from ry)
      exact SeqAt.EqAt.same _
    | ty n =>
      obtain rfl := (show v = Value.type n from rx)
      obtain rfl := (show u = Value.type n from ry)
      exact SeqAt.EqAt.same _
    | byt _ => cases hd
    | flt _ => cases hd
  · obtain ⟨as, r1⟩ := Dp.reads I d' x v a1 rx
    obtain ⟨bs, r2⟩ := Dp.reads I e' y u a2 ry
    rw [← a5]
    exact SeqAt.eqAt_reads d' e' A s v u as bs r1 r2 (SeqAt.canLay_of_shaped a3) (SeqAt.canLay_of_shaped a4) (SeqAt.room_of_shaped a3 hu)
theorem hitsD {A : Around} (hu : A.units + 64 < cLine) (I : Inv X pins σ H s) (sf : Same F H) {ls : List (Key × Dt)} {hs : List (Key × V)} {vb : List (Key × Value)} (hl : KVs X.K F ls hs) (rb : KV hs vb) : ∀ {ks : List (Key × Dt)} {gs : List (Key × V)} {va : List (Key × Value)}, KVs X.K F ks gs → KV gs va → eqAll ls ks = true → PySem.W.KeqHits A s vb va true
  | _, _, _, .nil, .nil, _ => .nil
  | (k, d) :: ks, q :: gs, (k2, v) :: va, .cons h r, .cons h2 r2, e => by
    unfold eqAll at e
    rw [Bool.and_eq_true] at e
    obtain ⟨e1, e2⟩ := e
    have g1 := hl.get k
    cases hk : valD ls k with
    | none => rw [hk] at e1; cases e1
    | some d2 =>
      rw [hk] at e1 g1
      obtain ⟨x2, g2, g3⟩ := g1
      have rr : RelO (some x2) (valueAt vb k) := by rw [← g2]; exact rb.val k
      obtain ⟨y, hy, ry⟩ := rr.some_of
      have h1 : k = q.1 := h.1
      have h3 : q.1 = k2 := h2.1
      subst h1
      rw [h3] at hy
      show PySem.W.KeqHits A s vb ((k2, v) :: va) (true && true)
      exact .hit hy (eq_at hu I sf h.2 g3 h2.2 ry (of_decide_eq_true e1)) (hitsD hu I sf hl rb r r2 e2)
end
section
variable {X : Cx}
def rNeDD (K : PySem.W.Frag) (b : Bool) : R2 := fun x y H Q => ∃ (F : Hp) (a c : Addr) (ks ls : List (Key × Dt)) (gs hs : List (Key × V)), Same F H ∧ x = .ref a ∧ y = .ref c ∧ F a = some (.dK gs) ∧ F c = some (.dK hs) ∧ KVs K F ks gs ∧ KVs K F ls hs ∧ ks.length = ls.length ∧ eqAll ls ks = true ∧ Q (.bl b) H
theorem op_neDD (hu : X.A.units + 65 < cLine) : OpR X (compareOp .NotEq) (rNeDD X.K false) := by
  intro pins s σ H x y v u Q I rx ry h
  obtain ⟨F, a, b, ks, ls, gs, hs, sf, rfl, rfl, ea, eb, ka, kb, hlen, hp, q⟩ := h
  obtain rfl : v = Value.ref a := rx
  obtain rfl : u = Value.ref b := ry
  obtain ⟨_, ya, va, ra, da⟩ := (show ObjOk X.prog X.w H s.heap a (.dK gs) from I.hok a _ (sf _ _ ea))
  obtain ⟨_, yb, vb, rb, db⟩ := (show ObjOk X.prog X.w H s.heap b (.dK hs) from I.hok b _ (sf _ _ eb))
  have hl : va.length = vb.length := by rw [← ra.length, ← rb.length, ← ka.len, ← kb.len]; exact hlen
  exact PySem.W.keq_ne (knd := mixKind X.prog X.w) (r := true) ya yb da db (by omega) (fun _ => hitsD (by show X.A.units + 1 + 64 < _; omega) I sf kb rb ka ra hp) (fin_bl I q (by simp [hl]))
theorem op_eqDD (hu : X.A.units + 65 < cLine) : OpR X (compareOp .Eq) (rNeDD X.K true) := by
  intro pins s σ H x y v u Q I rx ry h
  obtain ⟨F, a, b, ks, ls, gs, hs, sf, rfl, rfl, ea, eb, ka, kb, hlen, hp, q⟩ := h
  obtain rfl : v = Value.ref a := rx
  obtain rfl : u = Value.ref b := ry
  obtain ⟨_, ya, va, ra, da⟩ := (show ObjOk X.prog X.w H s.heap a (.dK gs) from I.hok a _ (sf _ _ ea))
  obtain ⟨_, yb, vb, rb, db⟩ := (show ObjOk X.prog X.w H s.heap b (.dK hs) from I.hok b _ (sf _ _ eb))
  have hl : va.length = vb.length := by rw [← ra.length, ← rb.length, ← ka.len, ← kb.len]; exact hlen
  exact PySem.W.keq_eq (knd := mixKind X.prog X.w) (r := true) ya yb da db (by omega) (fun _ => hitsD (by show X.A.units + 1 + 64 < _; omega) I sf kb rb ka ra hp) (fin_bl I q (by simp [hl]))
theorem od_neD : OpD X.K (rNeDD X.K false) dNeD := by
  intro d e g h F H x y Q s hd he q
  cases hd with
  | dK hq hk hr =>
    cases he with
    | dK hq2 hk2 hr2 =>
      unfold dNeD at h
      simp only [] at h
      split at h
      · rename_i hl
        cases h
        exact ⟨F, _, _, _, _, _, _, s, rfl, rfl, hq, hq2, KVs.of hk hr, KVs.of hk2 hr2, hl.1, hl.2, q F H _ (Grow.refl s) (.bl _)⟩
      · cases h
    | _ => cases h
  | _ => cases h
theorem od_eqD : OpD X.K (rNeDD X.K true) dEqD := by
  intro d e g h F H x y Q s hd he q
  cases hd with
  | dK hq hk hr =>
    cases he with
    | dK hq2 hk2 hr2 =>
      unfold dEqD at h
      simp only [] at h
      split at h
      · rename_i hl
        cases h
        exact ⟨F, _, _, _, _, _, _, s, rfl, rfl, hq, hq2, KVs.of hk hr, KVs.of hk2 hr2, hl.1, hl.2, q F H _ (Grow.refl s) (.bl _)⟩
      · cases h
    | _ => cases h
  | _ => cases h
end
/-! a display of constants -/
def eNewD (kvs : List (Key × Dt)) : FE := fun ρ => some (.ok (.dK kvs), ρ)
section
variable {X : Cx} {P : Pt} {Wx : WX} {pos : Pos}
theorem d_newD {keys : List (Option Expr)} {values : List Expr} {trs : List (TE × TE)} {gs : List (Key × V)} {kvs : List (Key × Dt)} (h : PPs X pos keys values trs) (ht : ∀ σ H Q, Q (gs.map (fun kv => (kV kv.1, kv.2))) H → tPairs trs σ H Q) (hk : ∀ F, KVs X.K F kvs gs) (hg : gs.length ≤ 15 := by decide) (h15 : keys.length ≤ 15 := by decide) (hm : mergeK [] gs = gs := by rfl)
    (hall : keys.all (·.isSome) = true := by rfl) (hl : keys.length = values.length := by rfl) (h0 : keys ≠ [] := by exact fun e => nomatch e) : PE X (.Dict keys values pos) (LE X.K P Wx (eNewD kvs)) := PEm (pe_disp h hall hl h0 h15) fun σ H Q q => by
  obtain ⟨F, ρ, r, q⟩ := q
  intro p np
  refine ht _ _ _ ⟨upd_same, gs, rfl, ?_, ?_⟩
  · exact hg
  · rw [hm, upd_upd]
    have gg := Grow.lay (o := .dK gs) r.fh np
    exact q _ _ _ gg.f (r.grow gg) (KVs.rp (hk _) upd_same)
end
instance p_newD {kvs : List (Key × Dt)} : WpE (eNewD kvs) := ⟨fun ρ Q => Q (.dK kvs) ρ, fun h => ⟨_, _, rfl, h⟩, fun h k => k _ _ h⟩
/-! text * int -/
def dMulS : Dt → Dt → Option Dt
  | .str x, .int i => if x.length ≤ 16 ∧ -(2 ^ 63 : Int) ≤ i ∧ i ≤ 1048576 then some (.str (Txt.mul x i)) else none
  | _, _ => none
def rMulS : R2 := fun x y H Q => ∃ a i, x = .str a ∧ y = .int i ∧ a.length ≤ 16 ∧ -(2 ^ 63 : Int) ≤ i ∧ i ≤ 1048576 ∧ Q (.str (Txt.mul a i)) H
section
variable {X : Cx}
theorem op_mulS : OpR X (binaryOp .Mult) rMulS := by
  intro pins s σ H x y v u Q I rx ry h
  obtain ⟨a, i, rfl, rfl, h1, h2, h3, q⟩ := h
  obtain ⟨t, rfl⟩ := rx
  obtain ⟨t', rfl⟩ := ry
  exact PySem.W.KXi.mul rfl h1 h2 h3 fun t'' k _ _ => ⟨.str _, H, I.tok k, ⟨t'', rfl⟩, q⟩
theorem od_mulS : OpD X.K rMulS dMulS := by
  intro d e g h F H x y Q s hd he q
  cases hd with
  | str a =>
    cases he with
    | int i =>
      unfold dMulS at h
      simp only [] at h
      split at h
      · rename_i hl
        cases h
        exact ⟨a, i, rfl, rfl, hl.1, hl.2.1, hl.2.2, q F H _ (Grow.refl s) (.str _)⟩
      · cases h
    | _ => cases h
  | _ => cases h
end
/-! room for what is compared -/
theorem u1 {k : Nat} {A : Around} (r : Room k A) : A.units + 1 < cLine := by have := r.un; omega
theorem u65 {k : Nat} {A : Around} (r : Room k A) : A.units + 65 < cLine := by have := r.un; omega
/-! xs.extend(ys) -/
section
variable {X : Cx} {P : Pt} {Wx : WX} {pos pos' apos cpos : Pos} {e : Expr} {fe : FE}
theorem s_ext (j : Nat) {x : Str} (he : PE X e (LE X.K P Wx fe)) (hN : X.N[j]? = some x := by rfl) (hv : Vis X.env.scope x := by first | exact Or.inl rfl | exact Or.inr (Or.inl rfl) | exact Or.inr (Or.inr rfl)) (hd : (x == ("__debug__" : Str)) = false := by decide)
    (hcd : (x == ("__classdict__" : Str)) = false := by decide)
    (hbase : attributeBase (.Name x pos') "extend" X.env (eval (.Name x pos') X.env) = eval (.Name x pos') X.env := by rfl)
    (hfew : ((backTo cpos (starEach (e :: []) X.env)).all (fun x => !x.1) && (backToKw cpos (keywordEach [] X.env)).all (fun x => x.1.isSome)
      && decide ((e :: []).length + ([] : List Keyword).length + (if ([] : List Keyword).isEmpty then 0 else 1) < 30)) = true := by rfl)
    (hline : (apos.endLine == cpos.line) = true := by rfl) (hs : starEach (e :: []) X.env = (false, eval e X.env) :: starEach [] X.env := by rfl) (hplain : (backTo cpos (starEach [] X.env)).any (·.1) = false := by rfl)
    (hsw : swapsWith (.Call (.Attribute (.Name x pos') "extend" apos) [e] [] cpos) none pos.line X.env = pure false := by rfl) :
    PS X (.Expr (.Call (.Attribute (.Name x pos') "extend" apos) [e] [] cpos) pos) (LS X.K P Wx (sExt j fe)) :=
  PSm (ps_expr (pe_bm PySem.F.plainAttrs_list PySem.F.slot_list_extend PySem.F.type_list_extend mt_extend (pe_var hN hv hd hcd) (pa_cons he pa_nil hs) hbase hfew hline hs hplain) hsw) fun D σ H h => by
  obtain ⟨F, ρ, r, q⟩ := h
  obtain ⟨xs0, e0, q⟩ := ifOwn_some (p := postS X.K P Wx F D) q (fun z => z)
  obtain ⟨p, vs0, ev, _, e2, _⟩ := r.own e0
  refine ⟨.ref p, ev, .inl ⟨rfl, _, .inl (.inl e2)⟩, ?_⟩
  refine LE.bindS r q fun d ρ1 F1 H1 v s1 r1 p1 q1 => ?_
  obtain ⟨xs, ys, k1, k2, q1⟩ := sMut_some q1
  obtain ⟨p', vs, ev', e3, e4, e5⟩ := r1.own k1
  rw [ev] at ev'
  cases ev'
  cases p1 with
  | lst hq hr =>
    unfold extX at k2
    simp only [] at k2
    split at k2
    · rename_i hl
      cases k2
      refine ⟨p, _, vs, _, rfl, rfl, e4, r1.fh _ _ hq, by rw [← e5.length, ← hr.length]; exact sz1000 hl, ?_⟩
      exact q1 F1 _ σ (.refl _) (r1.write k1 ev (e5.append hr))
    · cases k2
  | _ => cases k2
end
end DL
namespace DL
open PySem PySem.Spec PyProof.Rows L2 RZ
/-! ### quiet expressions: they change no slot; own lists are looked at as they stand -/
abbrev FQ := Rho → Option RD
def Nk.noT : Nk → Bool
  | .tup => false
  | _ => true
mutual
def Tr.noT : Tr → Bool
  | .sh _ => true
  | .nd k ts => k.noT && Tr.noTs ts
def Tr.noTs : List Tr → Bool
  | [] => true
  | t :: ts => t.noT && Tr.noTs ts
end
/-- what may be looked at -/
def Wt.vis : Wt → Bool
  | .tr t => t.noT
  | _ => true
def slotQ : Option (Option Wt) → Option Dt
  | some (some (.sh d)) => some d
  | some (some (.own xs)) => some (.lst xs)
  | some (some (.tr t)) => if t.noT = true then some t.dt else none
  | _ => none
def NoT : HO → Prop
  | .lst _ => True
  | .dK _ => True
  | .dT _ => True
  | .ins _ _ _ => True
  | _ => False
mutual
theorem RT.noT {K : PySem.W.Frag} {F H : Hp} : ∀ {t : Tr} {v : V} {p : Addr}, RT K F H t v → t.noT = true → p ∈ fpT H t v → ∃ o, H p = some o ∧ NoT o
  | _, _, _, .sh _, _, m => by rw [fpT] at m; cases m
  | .nd k ts, _, p, .nd (o := o) h1 h2 h3 r, e, m => by
    rw [fpT_nd h2] at m
    rw [Tr.noT, Bool.and_eq_true] at e
    rcases List.mem_cons.mp m with m | m
    · subst m
      refine ⟨_, h2, ?_⟩
      cases k <;> cases o <;> first | exact trivial | exact h3.elim | cases e.1
    · exact RTs.noT r e.2 m
theorem RTs.noT {K : PySem.W.Frag} {F H : Hp} : ∀ {ts : List Tr} {vs : List V} {p : Addr}, RTs K F H ts vs → Tr.noTs ts = true → p ∈ fpTs H ts vs → ∃ o, H p = some o ∧ NoT o
  | _, _, _, .nil, _, m => by rw [fpTs] at m; cases m
  | _, _, p, .cons h r, e, m => by
    rw [fpTs] at m
    rw [Tr.noTs, Bool.and_eq_true] at e
    rcases List.mem_append.mp m with m | m
    · exact RT.noT h e.1 m
    · exact RTs.noT r e.2 m
end
theorem OkW.noT {K : PySem.W.Frag} {F H : Hp} {v : V} {w : Wt} {p : Addr} (h : OkW K F H v w) (e : w.vis = true) (m : p ∈ fpW H w v) : ∃ o, H p = some o ∧ NoT o := by
  cases w with
  | sh d => cases m
  | own xs =>
    obtain ⟨q, vs, rfl, h1, h2, h3⟩ := h
    rw [List.mem_singleton.mp m]
    exact ⟨_, h2, trivial⟩
  | tr t => exact h.1.noT e m
mutual
def flatT : Dt → Bool
  | .non => true
  | .bl _ => true
  | .int _ => true
  | .str _ => true
  | .tup xs => flatTs xs
  | _ => false
def flatTs : List Dt → Bool
  | [] => true
  | d :: ds => flatT d && flatTs ds
end
mutual
def flatR : Tr → Bool
  | .sh d => flatT d
  | .nd _ ts => flatRs ts
def flatRs : List Tr → Bool
  | [] => true
  | t :: ts => flatR t && flatRs ts
end
def flatW : Wt → Bool
  | .sh d => flatT d
  | .own xs => flatTs xs
  | .tr t => flatR t
open Classical in
noncomputable def thaw (F H F' : Hp) : Hp := fun p => if F p = none ∧ H p ≠ none then none else F' p
section
variable {K : PySem.W.Frag} {F H Fp F' H' : Hp}
theorem thaw_grow (s : Same F H) (sp : Same F Fp) (g : Grow Fp H F' H') : Grow F H (thaw F H F') H' where
  f := fun p o e => by
    unfold thaw
    rw [if_neg (fun z => by rw [z.1] at e; cases e)]
    exact g.f _ _ (sp _ _ e)
  h := g.h
  fh := fun p o e => by
    unfold thaw at e
    split at e
    · cases e
    · exact g.fh _ _ e
  new := fun p o e => by
    unfold thaw at e
    split at e
    · cases e
    · rename_i z
      cases hF : F p with
      | some u =>
        have := g.f _ _ (sp _ _ hF)
        rw [e] at this
        exact .inl this.symm
      | none =>
        right
        cases hH : H p with
        | none => rfl
        | some u => exact absurd ⟨hF, by rw [hH]; exact fun z => nomatch z⟩ z
theorem thaw_tup (nt : ∀ p o, Fp p = some o → F p = none → NoT o) (g : Grow Fp H F' H') {p : Addr} {o : HO} (e : F' p = some o) (no : ¬ NoT o) : thaw F H F' p = some o := by
  unfold thaw
  rw [if_neg]
  · exact e
  · intro ⟨z1, z2⟩
    rcases g.new p o e with q | q
    · exact no (nt p o q z1)
    · exact z2 q
mutual
theorem flat_down (nt : ∀ p o, Fp p = some o → F p = none → NoT o) (g : Grow Fp H F' H') : ∀ {d : Dt} {v : V}, Rp K F' d v → flatT d = true → Rp K (thaw F H F') d v
  | _, _, .non, _ => .non
  | _, _, .bl b, _ => .bl b
  | _, _, .int i, _ => .int i
  | _, _, .str x, _ => .str x
  | _, _, .tup h r, e => by
    rw [flatT] at e
    refine .tup ?_ (flat_downs nt g r e)
    rcases h with (h | ⟨o, h⟩) | h
    · exact .inl (.inl (thaw_tup nt g h fun z => z))
    · exact .inl (.inr ⟨o, thaw_tup nt g h fun z => z⟩)
    · exact .inr h
  | _, _, .lst _ _, e => by rw [flatT] at e <;> first | cases e | (intros; contradiction)
  | _, _, .ref _, e => by rw [flatT] at e <;> first | cases e | (intros; contradiction)
  | _, _, .ty _, e => by rw [flatT] at e <;> first | cases e | (intros; contradiction)
  | _, _, .scr _, e => by rw [flatT] at e <;> first | cases e | (intros; contradiction)
  | _, _, .fn _, e => by rw [flatT] at e <;> first | cases e | (intros; contradiction)
  | _, _, .dK _ _ _, e => by rw [flatT] at e <;> first | cases e | (intros; contradiction)
  | _, _, .obj _ _ _ _, e => by rw [flatT] at e <;> first | cases e | (intros; contradiction)
  | _, _, .dT _ _ _, e => by rw [flatT] at e <;> first | cases e | (intros; contradiction)
theorem flat_downs (nt : ∀ p o, Fp p = some o → F p = none → NoT o) (g : Grow Fp H F' H') : ∀ {ds : List Dt} {vs : List V}, Rps K F' ds vs → flatTs ds = true → Rps K (thaw F H F') ds vs
  | _, _, .nil, _ => .nil
  | _, _, .cons h r, e => by
    rw [flatTs, Bool.and_eq_true] at e
    exact .cons (flat_down nt g h e.1) (flat_downs nt g r e.2)
end
theorem thaw_none {p : Addr} (h : F' p = none) : thaw F H F' p = none := by
  unfold thaw
  split
  · rfl
  · exact h
mutual
theorem RT.down (nt : ∀ p o, Fp p = some o → F p = none → NoT o) (g : Grow Fp H F' H') : ∀ {t : Tr} {v : V}, RT K F' H' t v → flatR t = true → RT K (thaw F H F') H' t v
  | _, _, .sh h, e => .sh (flat_down nt g h (by rw [flatR] at e; exact e))
  | _, _, .nd h1 h2 h3 r, e => .nd (thaw_none h1) h2 h3 (RTs.down nt g r (by rw [flatR] at e; exact e))
theorem RTs.down (nt : ∀ p o, Fp p = some o → F p = none → NoT o) (g : Grow Fp H F' H') : ∀ {ts : List Tr} {vs : List V}, RTs K F' H' ts vs → flatRs ts = true → RTs K (thaw F H F') H' ts vs
  | _, _, .nil, _ => .nil
  | _, _, .cons h r, e => by
    rw [flatRs, Bool.and_eq_true] at e
    exact .cons (RT.down nt g h e.1) (RTs.down nt g r e.2)
end
theorem OkW.down (nt : ∀ p o, Fp p = some o → F p = none → NoT o) (g : Grow Fp H F' H') {v : V} {w : Wt} (h : OkW K F' H' v w) (e : flatW w = true) : OkW K (thaw F H F') H' v w := by
  cases w with
  | sh d => exact flat_down nt g h e
  | own xs =>
    obtain ⟨p, vs, a, b, c, d⟩ := h
    exact ⟨p, vs, a, thaw_none b, c, flat_downs nt g d e⟩
  | tr t => exact ⟨h.1.down nt g e, h.2⟩
end
structure View (K : PySem.W.Frag) (P : Pt) (F H : Hp) (σ : L2.St) (ρ : Rho) (Fp : Hp) : Prop where
  r : Rel K P F H σ ρ
  s : Same F Fp
  sh : Same Fp H
  v : ∀ (j : Nat) (d : Dt), slotQ ρ[j]? = some d → ∃ v, σ[j]? = some (some v) ∧ Rp K Fp d v
section
variable {K : PySem.W.Frag} {P : Pt} {F H F' H' Fp : Hp} {σ : L2.St} {ρ : Rho}
theorem View.grow (w : View K P F H σ ρ Fp) (g : Grow Fp H F' H') : View K P F H' σ ρ F' := ⟨w.r.grow (growH w.r.fh g), w.s.trans g.f, g.fh, fun j d e => by
  obtain ⟨v, a, b⟩ := w.v j d e
  exact ⟨v, a, b.mono g.f⟩⟩
open Classical in
theorem Rel.view (r : Rel K P F H σ ρ) : ∃ Fp, View K P F H σ ρ Fp ∧ ∀ p o, Fp p = some o → F p = none → NoT o := by
  let Fp : Hp := fun p => if (∃ (i : Nat) (u : Wt) (x : V), ρ[i]? = some (some u) ∧ σ[i]? = some (some x) ∧ u.vis = true ∧ p ∈ fpW H u x) then H p else F p
  have sm : Same F Fp := fun a o e => by
    show (if _ then _ else _) = _
    split
    · exact r.fh a o e
    · exact e
  have get : ∀ (j : Nat) (u : Wt), ρ[j]? = some (some u) → u.vis = true → ∃ v, σ[j]? = some (some v) ∧ Rp K Fp (frz u) v := fun j u e vi => by
    obtain ⟨v, ev, q⟩ := r.slot j u e
    exact ⟨v, ev, q.ok.frz sm fun p m => if_pos ⟨j, u, v, e, ev, vi, m⟩⟩
  refine ⟨Fp, ⟨r, sm, fun a o e => ?_, fun j d e => ?_⟩, fun p o e f => ?_⟩
  · have e' : (if _ then _ else _) = some o := e
    split at e'
    · exact e'
    · exact r.fh a o e'
  · match e1 : ρ[j]? with
    | none => rw [e1] at e; cases e
    | some none => rw [e1] at e; cases e
    | some (some (.sh d')) => rw [e1] at e; cases e; exact get j _ e1 rfl
    | some (some (.own xs)) => rw [e1] at e; cases e; exact get j _ e1 rfl
    | some (some (.tr t)) =>
      rw [e1] at e
      unfold slotQ at e
      simp only [] at e
      split at e
      · rename_i vi
        cases e
        exact get j (.tr t) e1 vi
      · cases e
  · have e' : (if _ then _ else _) = some o := e
    split at e'
    · rename_i z
      obtain ⟨i, u, x, h1, h2, h3, h4⟩ := z
      obtain ⟨o', e2, no⟩ := (r.at_ h1 h2).ok.noT h3 h4
      rw [e'] at e2
      cases e2
      exact no
    · rw [f] at e'; cases e'
end
section
variable (K : PySem.W.Frag) (P : Pt) (Wx : WX)
def postQ (Fp H : Hp) (σ : L2.St) (Q : VK) : Option RD → Prop
  | none => False
  | some (.ok d) => ∀ F' H' v, Grow Fp H F' H' → Rp K F' d v → Q v H'
  | some (.ex C fs) => ∀ F' H' cls dd, Grow Fp H F' H' → Xp K F' cls dd C fs → Wx cls dd σ H'
def LQ (f : FQ) : TE := fun σ H Q => ∃ F ρ Fp, View K P F H σ ρ Fp ∧ postQ K Wx Fp H σ Q (f ρ)
end
def bindQ (f : FQ) (k : Dt → FQ) : FQ := fun ρ => match f ρ with
  | none => none
  | some (.ok d) => k d ρ
  | some (.ex C fs) => some (.ex C fs)
theorem postQ.mono {K : PySem.W.Frag} {Wx : WX} {Fp H F1 H1 : Hp} {σ : L2.St} {Q : VK} (g : Grow Fp H F1 H1) {r : Option RD} (h : postQ K Wx Fp H σ Q r) : postQ K Wx F1 H1 σ Q r := by
  match r, h with
  | some (.ok d), h => exact fun F' H' v a => h F' H' v (g.trans a)
  | some (.ex C fs), h => exact fun F' H' cls dd a => h F' H' cls dd (g.trans a)
section
variable {K : PySem.W.Frag} {P : Pt} {Wx : WX} {F H Fp : Hp} {σ : L2.St} {ρ : Rho}
theorem LQ.bind {f : FQ} {k : Dt → FQ} {Q R : VK} (w : View K P F H σ ρ Fp) (h : postQ K Wx Fp H σ Q (bindQ f k ρ))
    (hk : ∀ d F1 H1 v, Grow Fp H F1 H1 → View K P F H1 σ ρ F1 → Rp K F1 d v → postQ K Wx F1 H1 σ Q (k d ρ) → R v H1) : LQ K P Wx f σ H R := by
  refine ⟨F, ρ, Fp, w, ?_⟩
  unfold bindQ at h
  match e : f ρ with
  | none => rw [e] at h; exact h.elim
  | some (.ok d) => rw [e] at h; exact fun F' H' v a b => hk d F' H' v a (w.grow a) b (postQ.mono a h)
  | some (.ex C fs) => rw [e] at h; exact h
end
def qC (d : Dt) : FQ := fun _ => some (.ok d)
def qV (o : Option Dt) : FQ := fun _ => match o with | some d => some (.ok d) | none => none
def qVar (j : Nat) : FQ := fun ρ => match slotQ ρ[j]? with | some d => some (.ok d) | none => none
def qOp (o : Dt → Dt → Option Dt) (fa fb : FQ) : FQ := bindQ fa fun d => bindQ fb fun e => qV (o d e)
def qUn (o : Dt → Option Dt) (fa : FQ) : FQ := bindQ fa fun d => qV (o d)
/-- several, from the left -/
inductive RQs where
  | ok (ds : List Dt) | ex (C : Str) (fs : List (Str × Dt))
def qAll : List FQ → Rho → Option RQs
  | [], _ => some (.ok [])
  | f :: fs, ρ => match f ρ with
    | none => none
    | some (.ex C gs) => some (.ex C gs)
    | some (.ok d) => match qAll fs ρ with
      | none => none
      | some (.ex C gs) => some (.ex C gs)
      | some (.ok ds) => some (.ok (d :: ds))
def bindQs (fs : List FQ) (k : List Dt → FQ) : FQ := fun ρ => match qAll fs ρ with
  | none => none
  | some (.ok ds) => k ds ρ
  | some (.ex C gs) => some (.ex C gs)
section
variable {X : Cx} {P : Pt} {Wx : WX} {pos : Pos} {a b e : Expr} {es : List Expr} {fa fb : FQ}
theorem q_c {d : Dt} {v : V} (h : ∀ t : TE, PE X e t → PE X e t) (he : PE X e (tC v)) (hv : ∀ F : Hp, Rp X.K F d v) : PE X e (LQ X.K P Wx (qC d)) := PEm he fun σ H Q h => by
  obtain ⟨F, ρ, Fp, w, q⟩ := h
  exact q Fp H v (Grow.refl w.sh) (hv Fp)
theorem q_int {i : Int} {j : Nat} : PE X (.Constant (.int i) j pos) (LQ X.K P Wx (qC (.int i))) := PEm pe_int fun σ H Q h => by
  obtain ⟨F, ρ, Fp, w, q⟩ := h
  exact q Fp H _ (Grow.refl w.sh) (.int i)
theorem q_bl {i : Bool} {j : Nat} : PE X (.Constant (.bool i) j pos) (LQ X.K P Wx (qC (.bl i))) := PEm pe_bl fun σ H Q h => by
  obtain ⟨F, ρ, Fp, w, q⟩ := h
  exact q Fp H _ (Grow.refl w.sh) (.bl i)
theorem q_str {i : Str} {j : Nat} : PE X (.Constant (.str i) j pos) (LQ X.K P Wx (qC (.str i))) := PEm pe_str fun σ H Q h => by
  obtain ⟨F, ρ, Fp, w, q⟩ := h
  exact q Fp H _ (Grow.refl w.sh) (.str i)
theorem q_non {j : Nat} : PE X (.Constant .none j pos) (LQ X.K P Wx (qC .non)) := PEm pe_non fun σ H Q h => by
  obtain ⟨F, ρ, Fp, w, q⟩ := h
  exact q Fp H _ (Grow.refl w.sh) .non
theorem q_var (j : Nat) {x : Str} (hN : X.N[j]? = some x := by rfl) (hv : Vis X.env.scope x := by first | exact Or.inl rfl | exact Or.inr (Or.inl rfl) | exact Or.inr (Or.inr rfl)) (hd : (x == ("__debug__" : Str)) = false := by decide)
    (hcd : (x == ("__classdict__" : Str)) = false := by decide) : PE X (.Name x pos) (LQ X.K P Wx (qVar j)) := PEm (pe_var hN hv hd hcd) fun σ H Q h => by
  obtain ⟨F, ρ, Fp, w, q⟩ := h
  unfold qVar at q
  cases e : slotQ ρ[j]? with
  | none => simp only [e] at q; exact q.elim
  | some d =>
    simp only [e] at q
    obtain ⟨v, ev, pv⟩ := w.v j d e
    exact ⟨v, ev, q Fp H v (Grow.refl w.sh) pv⟩
theorem LQ_op {r : R2} {o : Dt → Dt → Option Dt} (hr : OpD X.K r o) {σ : L2.St} {H : Hp} {Q : VK} (h : LQ X.K P Wx (qOp o fa fb) σ H Q) : tOp r (LQ X.K P Wx fa) (LQ X.K P Wx fb) σ H Q := by
  obtain ⟨F, ρ, Fp, w, q⟩ := h
  refine LQ.bind w q fun d F1 H1 x g1 w1 p1 q1 => ?_
  refine LQ.bind w1 q1 fun e F2 H2 y g2 w2 p2 q2 => ?_
  cases eo : o d e with
  | none => rw [eo] at q2; exact q2.elim
  | some g =>
    rw [eo] at q2
    exact hr d e g eo F2 H2 x y Q w2.sh (p1.mono g2.f) p2 fun F' H' z g' pz => q2 F' H' z g' pz
theorem q_op {op : Operator} {r : R2} {o : Dt → Dt → Option Dt} (ho : OpR X (binaryOp op) r) (hr : OpD X.K r o) (ha : PE X a (LQ X.K P Wx fa)) (hb : PE X b (LQ X.K P Wx fb)) : PE X (.BinOp a op b pos) (LQ X.K P Wx (qOp o fa fb)) :=
  PEm (pe_op ho ha hb) fun _ _ _ h => LQ_op hr h
theorem q_sub (ha : PE X a (LQ X.K P Wx fa)) (hb : PE X b (LQ X.K P Wx fb)) (hs : PlainIx b := by exact fun _ _ => rfl) : PE X (.Subscript a b pos) (LQ X.K P Wx (qOp dIx fa fb)) :=
  PEm (pe_ix ix_seq ha hb hs) fun _ _ _ h => LQ_op od_ix h
theorem q_cmp {op : CmpOp} {r : R2} {o : Dt → Dt → Option Dt} (ho : OpR X (compareOp op) r) (hr : OpD X.K r o) (ha : PE X a (LQ X.K P Wx fa)) (hb : PE X b (LQ X.K P Wx fb)) (hm : behindInMarks op b = false) : PE X (.Compare a [op] [b] pos) (LQ X.K P Wx (qOp o fa fb)) :=
  PEm (pe_cmpR ho ha hb hm) fun _ _ _ h => LQ_op hr h
theorem q_un {op : UnaryOp} {r : V → Hp → VK → Prop} {o : Dt → Option Dt} (ho : UnR X (unaryOp op) r) (hr : UnD X.K r o) (ha : PE X a (LQ X.K P Wx fa)) : PE X (.UnaryOp op a pos) (LQ X.K P Wx (qUn o fa)) :=
  PEm (pe_un ho ha) fun σ H Q h => by
    obtain ⟨F, ρ, Fp, w, q⟩ := h
    refine LQ.bind w q fun d F1 H1 x g1 w1 p1 q1 => ?_
    cases eo : o d with
    | none => rw [eo] at q1; exact q1.elim
    | some g =>
      rw [eo] at q1
      exact hr d g eo F1 H1 x Q w1.sh p1 fun F' H' z g' pz => q1 F' H' z g' pz
theorem q_not (ha : PE X a (LQ X.K P Wx fa)) : PE X (.UnaryOp .Not a pos) (LQ X.K P Wx (qUn dNot fa)) :=
  PEm (pe_not ha) fun σ H Q h => by
    obtain ⟨F, ρ, Fp, w, q⟩ := h
    refine LQ.bind w q fun d F1 H1 x g1 w1 p1 q1 => ?_
    cases p1 with
    | bl c => exact ⟨c, rfl, q1 F1 H1 _ (Grow.refl w1.sh) (.bl _)⟩
    | _ => exact q1.elim
end
/-! arguments -/
section
variable (K : PySem.W.Frag) (P : Pt) (Wx : WX)
def postQs (Fp H : Hp) (σ : L2.St) (Q : List V → Hp → Prop) : Option RQs → Prop
  | none => False
  | some (.ok ds) => ∀ F' H' vs, Grow Fp H F' H' → Rps K F' ds vs → Q vs H'
  | some (.ex C fs) => ∀ F' H' cls dd, Grow Fp H F' H' → Xp K F' cls dd C fs → Wx cls dd σ H'
def LQA (fs : List FQ) : TA := fun σ H Q => ∃ F ρ Fp, View K P F H σ ρ Fp ∧ postQs K Wx Fp H σ Q (qAll fs ρ)
end
section
variable {X : Cx} {P : Pt} {Wx : WX} {pos p : Pos} {a b e : Expr} {es : List Expr} {f : FQ} {fs : List FQ}
theorem qa_nil : PA X [] (LQA X.K P Wx []) := PAm pa_nil fun σ H Q h => by
  obtain ⟨F, ρ, Fp, w, q⟩ := h
  exact q Fp H [] (Grow.refl w.sh) .nil
theorem qa_cons (he : PE X e (LQ X.K P Wx f)) (hr : PA X es (LQA X.K P Wx fs)) (hs : starEach (e :: es) X.env = (false, eval e X.env) :: starEach es X.env := by rfl) : PA X (e :: es) (LQA X.K P Wx (f :: fs)) :=
  PAm (pa_cons he hr hs) fun σ H Q h => by
    obtain ⟨F, ρ, Fp, w, q⟩ := h
    refine ⟨F, ρ, Fp, w, ?_⟩
    unfold qAll at q
    match e1 : f ρ with
    | none => simp only [e1] at q; exact q.elim
    | some (.ex C gs) => simp only [e1] at q; exact q
    | some (.ok d) =>
      simp only [e1] at q
      intro F1 H1 v g1 p1
      refine ⟨F, ρ, F1, w.grow g1, ?_⟩
      match e2 : qAll fs ρ with
      | none => simp only [e2] at q; exact q.elim
      | some (.ex C gs) => simp only [e2] at q; exact fun F' H' cls dd a => q F' H' cls dd (g1.trans a)
      | some (.ok ds) => simp only [e2] at q; exact fun F' H' vs a ps => q F' H' (v :: vs) (g1.trans a) (.cons (p1.mono a.f) ps)
theorem LQA.bind {K : PySem.W.Frag} {F H Fp : Hp} {σ : L2.St} {ρ : Rho} {k : List Dt → FQ} {Q : VK} {R : List V → Hp → Prop} (w : View K P F H σ ρ Fp) (h : postQ K Wx Fp H σ Q (bindQs fs k ρ))
    (hk : ∀ ds F1 H1 vs, Grow Fp H F1 H1 → View K P F H1 σ ρ F1 → Rps K F1 ds vs → postQ K Wx F1 H1 σ Q (k ds ρ) → R vs H1) : LQA K P Wx fs σ H R := by
  refine ⟨F, ρ, Fp, w, ?_⟩
  unfold bindQs at h
  match e : qAll fs ρ with
  | none => rw [e] at h; exact h.elim
  | some (.ok d) => rw [e] at h; exact fun F' H' v a b => hk d F' H' v a (w.grow a) b (postQ.mono a h)
  | some (.ex C fs) => rw [e] at h; exact h
end
def qTup (fs : List FQ) : FQ := bindQs fs fun ds => if ds.length ≤ 100000 then qC (.tup ds) else fun _ => none
def qLst (fs : List FQ) : FQ := bindQs fs fun ds => if ds.length ≤ 100000 then qC (.lst ds) else fun _ => none
def qCB (o : List Dt → Option Dt) (fs : List FQ) : FQ := bindQs fs fun ds => qV (o ds)
def resQ : RW → RD
  | .ok (.sh d) => .ok d
  | .ok (.own xs) => .ok (.lst xs)
  | .ok (.tr t) => .ok t.dt
  | .ex C fs => .ex C fs
def qCall (n : Nat) (g : FnD) (fs : List FQ) : FQ := bindQs fs fun ds _ => if ds.length = n then (match g (ds.map Aw.sh) with
  | some (r, _) => some (resQ r)
  | none => none) else none
theorem argW_sh {K : PySem.W.Frag} {F G H : Hp} : ∀ {ds : List Dt} {vs : List V}, Rps K F ds vs → ArgW K F G H vs (ds.map Aw.sh)
  | _, _, .nil => .nil
  | _, _, .cons h r => .sh h (argW_sh r)
theorem len_sh {H : Hp} : ∀ {ds : List Dt} {vs : List V}, lents H vs (ds.map Aw.sh) = []
  | [], [] => rfl
  | [], v :: vs => rfl
  | d :: ds, [] => rfl
  | d :: ds, v :: vs => by rw [List.map_cons, lents, if_neg (fun z => nomatch z)]; exact len_sh
theorem fps_sh {H : Hp} : ∀ {ds : List Dt} {vs : List V}, fpsOf H vs (ds.map Aw.sh) = []
  | [], [] => rfl
  | [], v :: vs => rfl
  | d :: ds, [] => rfl
  | d :: ds, v :: vs => by rw [List.map_cons, fpsOf, fps_sh]; rfl
theorem GrowB.grow {K : PySem.W.Frag} {F H F' H' : Hp} {cs : List Wt} (g : GrowB K F H F' H' [] cs) : Grow F H F' H' := ⟨g.f, fun p o e => g.h p o e (by simp), g.fh, g.new⟩
open Classical in
theorem OkW.lay {K : PySem.W.Frag} {F H F' H' : Hp} {v : V} {w : Wt} (g : Grow F H F' H') (h : OkW K F' H' v w) (n : ∀ p ∈ fpW H' w v, H p = none) : ∃ F2, Grow F H F2 H' ∧ Rp K F2 (DL.frz w) v := by
  let F2 : Hp := fun p => if p ∈ fpW H' w v then H' p else F' p
  have sF : Same F' F2 := fun p o e => by
    show (if _ then _ else _) = _
    rw [if_neg]
    · exact e
    · intro m
      rw [(h.at_ m).1] at e
      cases e
  refine ⟨F2, ⟨g.f.trans sF, g.h, fun p o e => ?_, fun p o e => ?_⟩, h.frz sF fun p m => if_pos m⟩
  · have e' : (if _ then _ else _) = some o := e
    split at e'
    · exact e'
    · exact g.fh _ _ e'
  · have e' : (if _ then _ else _) = some o := e
    split at e'
    · rename_i m; exact .inr (n p m)
    · exact g.new _ _ e'
section
variable {X : Cx} {P : Pt} {Wx : WX} {pos p : Pos} {e : Expr} {es : List Expr} {f : FQ} {fs : List FQ} {x1 k n : Nat} {g : FnD} {x : Str}
theorem q_tup (h : PA X es (LQA X.K P Wx fs)) : PE X (.Tuple es x1 pos) (LQ X.K P Wx (qTup fs)) := PEm (pe_tup h) fun σ H Q h => by
  obtain ⟨F, ρ, Fp, w, q⟩ := h
  refine LQA.bind w q fun ds F1 H1 vs g1 w1 hr q1 => ?_
  split at q1
  · rename_i hl
    refine ⟨by rw [← hr.length]; exact sz1000 hl, fun p np => ?_⟩
    have gg := Grow.lay (o := .tup vs) w1.sh np
    exact q1 _ _ (.ref p) gg (.tup (.inl (.inl upd_same)) (hr.mono gg.f))
  · exact q1.elim
theorem q_lst (h : PA X es (LQA X.K P Wx fs)) : PE X (.List es pos) (LQ X.K P Wx (qLst fs)) := PEm (pe_lst h) fun σ H Q h => by
  obtain ⟨F, ρ, Fp, w, q⟩ := h
  refine LQA.bind w q fun ds F1 H1 vs g1 w1 hr q1 => ?_
  split at q1
  · rename_i hl
    refine ⟨by rw [← hr.length]; exact sz1000 hl, fun p np => ?_⟩
    have gg := Grow.lay (o := .lst vs) w1.sh np
    exact q1 _ _ (.ref p) gg (.lst upd_same (hr.mono gg.f))
  · exact q1.elim
theorem LQ_cb {r : List V → Hp → VK → Prop} {o : List Dt → Option Dt} (hr : CallD X.K r o) {σ : L2.St} {H : Hp} {Q : VK} (h : LQ X.K P Wx (qCB o fs) σ H Q) : tCB r (LQA X.K P Wx fs) σ H Q := by
  obtain ⟨F, ρ, Fp, w, q⟩ := h
  refine LQA.bind w q fun ds F1 H1 vs g1 w1 rp q1 => ?_
  cases eo : o ds with
  | none => rw [eo] at q1; exact q1.elim
  | some g =>
    rw [eo] at q1
    exact hr ds g eo F1 H1 vs Q w1.sh rp fun F' H' z g' pz => q1 F' H' z g' pz
theorem q_cb {id : String} {r : List V → Hp → VK → Prop} {o : List Dt → Option Dt} (hr : CallD X.K r o) (hc : CallR X (.builtin id) r) (hg : Gl X x) (hm : X.mg x = none) (hv : bootBuiltins x = some (.builtin id)) (ha : PA X (e :: es) (LQA X.K P Wx fs))
    (hn : x ≠ "__name__" := by decide) (hdb : (x == ("__debug__" : Str)) = false := by decide) (he : starEach (e :: es) X.env = (false, eval e X.env) :: starEach es X.env := by rfl) (hpl : (backTo pos (starEach es X.env)).any (·.1) = false := by rfl) :
    PE X (.Call (.Name x p) (e :: es) [] pos) (LQ X.K P Wx (qCB o fs)) := PEm (pe_callB hc hg hm hv ha hn hdb he hpl) fun _ _ _ h => LQ_cb hr h
theorem q_cty {T : String} {r : List V → Hp → VK → Prop} {o : List Dt → Option Dt} (hr : CallD X.K r o) (hc : CallR X (.type T) r) (hg : Gl X x) (hm : X.mg x = none) (hv : bootBuiltins x = some (.type T)) (ha : PA X (e :: es) (LQA X.K P Wx fs))
    (hn : x ≠ "__name__" := by decide) (hdb : (x == ("__debug__" : Str)) = false := by decide) (he : starEach (e :: es) X.env = (false, eval e X.env) :: starEach es X.env := by rfl) (hpl : (backTo pos (starEach es X.env)).any (·.1) = false := by rfl) :
    PE X (.Call (.Name x p) (e :: es) [] pos) (LQ X.K P Wx (qCB o fs)) := PEm (pe_callTy hc hg hm hv ha hn hdb he hpl) fun _ _ _ h => LQ_cb hr h
/-- what a def's call gives, its arguments handed by value -/
theorem LQ_call {σ : L2.St} {H : Hp} {Q : VK} (h : LQ X.K P Wx (qCall n g fs) σ H Q) : tCallS (spF X.K n g) (WE Wx) (LQA X.K P Wx fs) σ H Q := by
  obtain ⟨F, ρ, Fp, w, q⟩ := h
  refine LQA.bind w q fun ds F1 H1 vs g1 w1 rp q1 => ?_
  split at q1
  · rename_i hl
    refine ⟨by rw [← rp.length]; exact hl, F1, H1, ds.map Aw.sh, w1.sh, .refl _, argW_sh rp, by rw [fps_sh]; exact List.nodup_nil, ?_⟩
    rw [len_sh]
    match e2 : g (ds.map Aw.sh) with
    | none => simp only [e2] at q1; exact q1.elim
    | some (.ok w, cs) =>
      simp only [e2] at q1
      intro F2 H2 v gb fw
      obtain ⟨a, b⟩ := fw.ok
      obtain ⟨F3, g3, rp3⟩ := a.lay gb.grow fun p m => (b p m).1
      cases w with
      | sh d => exact q1 F3 H2 v g3 rp3
      | own xs => exact q1 F3 H2 v g3 rp3
      | tr t => exact q1 F3 H2 v g3 rp3
    | some (.ex C fs, cs) =>
      simp only [e2, resQ] at q1
      exact fun F2 H2 cls dd gb xp => q1 F2 H2 cls dd gb.grow xp
  · exact q1.elim
theorem q_fn (h : FnAt X.prog X.w X.K X.mg X.base k x n g) (hr : Room k X.A) (tk : Takes X Wx) (hg : Gl X x) (ha : PA X (e :: es) (LQA X.K P Wx fs)) (hdb : (x == ("__debug__" : Str)) = false := by decide) (he : starEach (e :: es) X.env = (false, eval e X.env) :: starEach es X.env := by rfl) (hpl : (backTo pos (starEach es X.env)).any (·.1) = false := by rfl) :
    PE X (.Call (.Name x p) (e :: es) [] pos) (LQ X.K P Wx (qCall n g fs)) := by
  obtain ⟨f, fd, ps, a, b, c, d⟩ := h.ex
  exact PEm (pe_callS a hr hg b c d.1 (fun σ => passAt tk σ) ha hdb he hpl) fun _ _ _ h => LQ_call h
end
/-! a quiet expression that gives a flat thing, among the others -/
def eQ (f : FQ) : FE := fun ρ => match f ρ with
  | none => none
  | some (.ok d) => if flatT d = true then some (.ok d, ρ) else none
  | some (.ex _ _) => none
theorem LE_q {K : PySem.W.Frag} {P : Pt} {Wx : WX} {f : FQ} {σ : L2.St} {H : Hp} {Q : VK} (h : LE K P Wx (eQ f) σ H Q) : LQ K P Wx f σ H Q := by
  obtain ⟨F, ρ, r, q⟩ := h
  obtain ⟨Fp, w, nt⟩ := r.view
  refine ⟨F, ρ, Fp, w, ?_⟩
  unfold eQ at q
  match e : f ρ with
  | none => simp only [e] at q; exact q.elim
  | some (.ex C fs) => simp only [e] at q; exact q.elim
  | some (.ok d) =>
    simp only [e] at q
    split at q
    · rename_i fl
      intro F' H' v g pv
      have g' := thaw_grow r.fh w.s g
      exact q _ H' v g'.f (r.grow g') (flat_down nt g pv fl)
    · exact q.elim
/-! a def's call that looks at own things, and gives a thing of its own -/
def wQC (n : Nat) (g : FnD) (fs : List FQ) : FW := fun ρ => match qAll fs ρ with
  | some (.ok ds) => if ds.length = n then (match g (ds.map Aw.sh) with
    | some (.ok w, _) => if flatW w = true then some (.ok w, ρ) else none
    | _ => none) else none
  | _ => none
theorem d_q {X : Cx} {P : Pt} {Wx : WX} {e : Expr} {f : FQ} (h : PE X e (LQ X.K P Wx f)) : PE X e (LE X.K P Wx (eQ f)) := PEm h fun _ _ _ h => LE_q h
section
variable {X : Cx} {P : Pt} {Wx : WX} {pos p : Pos} {e : Expr} {es : List Expr} {fs : List FQ} {k n : Nat} {g : FnD} {x : Str}
theorem LW_qcall {σ : L2.St} {H : Hp} {Q : VK} (h : LW X.K P Wx (wQC n g fs) σ H Q) : tCallS (spF X.K n g) (WE Wx) (LQA X.K P Wx fs) σ H Q := by
  obtain ⟨F, ρ, r, q⟩ := h
  obtain ⟨Fp, w, nt⟩ := r.view
  refine ⟨F, ρ, Fp, w, ?_⟩
  unfold wQC at q
  match e : qAll fs ρ with
  | none => simp only [e] at q; exact q.elim
  | some (.ex C gs) => simp only [e] at q; exact q.elim
  | some (.ok ds) =>
    simp only [e] at q
    split at q
    · rename_i hl
      intro F1 H1 vs g1 rp
      refine ⟨by rw [← rp.length]; exact hl, F1, H1, ds.map Aw.sh, g1.fh, .refl _, argW_sh rp, by rw [fps_sh]; exact List.nodup_nil, ?_⟩
      rw [len_sh]
      match e2 : g (ds.map Aw.sh) with
      | none => simp only [e2] at q; exact q.elim
      | some (.ex C gs, cs) => simp only [e2] at q; exact q.elim
      | some (.ok w', cs) =>
        simp only [e2] at q
        split at q
        · rename_i fl
          intro F2 H2 v gb fw
          obtain ⟨a, b⟩ := fw.ok
          have gg := g1.trans gb.grow
          have g' := thaw_grow r.fh w.s gg
          have n0 : ∀ p ∈ fpW H2 w' v, H p = none := fun p m => by
            cases z : H p with
            | none => rfl
            | some o => have := g1.h _ _ z; rw [(b p m).1] at this; cases this
          refine q _ H2 v g'.f (r.grow g') (.mk (a.down nt gg fl) (fun p m => r.fresh (n0 p m)) fun i u y p hi hx m m' => ?_)
          rw [((r.at_ hi hx).ok.grow g').2] at m'
          exact r.offNew (n0 p m) hi hx m'
        · exact q.elim
    · exact q.elim
theorem w_qfn (h : FnAt X.prog X.w X.K X.mg X.base k x n g) (hr : Room k X.A) (tk : Takes X Wx) (hg : Gl X x) (ha : PA X (e :: es) (LQA X.K P Wx fs)) (hdb : (x == ("__debug__" : Str)) = false := by decide) (he : starEach (e :: es) X.env = (false, eval e X.env) :: starEach es X.env := by rfl) (hpl : (backTo pos (starEach es X.env)).any (·.1) = false := by rfl) :
    PE X (.Call (.Name x p) (e :: es) [] pos) (LW X.K P Wx (wQC n g fs)) := by
  obtain ⟨f, fd, ps, a, b, c, d⟩ := h.ex
  exact PEm (pe_callS a hr hg b c d.1 (fun σ => passAt tk σ) ha hdb he hpl) fun _ _ _ h => LW_qcall h
end
/-! wp -/
class WpQ (f : FQ) where
  wp : Rho → (Dt → Prop) → Prop
  ok : ∀ {ρ : Rho} {Q : Dt → Prop}, wp ρ Q → ∃ d, f ρ = some (.ok d) ∧ Q d
  mono : ∀ {ρ : Rho} {Q Q' : Dt → Prop}, wp ρ Q → (∀ d, Q d → Q' d) → wp ρ Q'
class WpQs (fs : List FQ) where
  wp : Rho → (List Dt → Prop) → Prop
  ok : ∀ {ρ : Rho} {Q : List Dt → Prop}, wp ρ Q → ∃ ds, qAll fs ρ = some (.ok ds) ∧ Q ds
  mono : ∀ {ρ : Rho} {Q Q' : List Dt → Prop}, wp ρ Q → (∀ d, Q d → Q' d) → wp ρ Q'
theorem bindQ_ok {f : FQ} {k : Dt → FQ} {ρ : Rho} {d : Dt} (e : f ρ = some (.ok d)) : bindQ f k ρ = k d ρ := by unfold bindQ; simp only [e]
theorem bindQs_ok {fs : List FQ} {k : List Dt → FQ} {ρ : Rho} {ds : List Dt} (e : qAll fs ρ = some (.ok ds)) : bindQs fs k ρ = k ds ρ := by unfold bindQs; simp only [e]
section
variable {f fa fb : FQ} {fs : List FQ}
instance pq_c {d : Dt} : WpQ (qC d) := ⟨fun _ Q => Q d, fun h => ⟨_, rfl, h⟩, fun h k => k _ h⟩
instance pq_var {j : Nat} : WpQ (qVar j) := ⟨fun ρ Q => wO (slotQ ρ[j]?) Q, fun h => by
  obtain ⟨d, e, h⟩ := h.ex
  exact ⟨d, by unfold qVar; rw [e], h⟩, fun h k => h.mono k⟩
instance pq_op {o : Dt → Dt → Option Dt} [WpQ fa] [WpQ fb] : WpQ (qOp o fa fb) := ⟨fun ρ Q => WpQ.wp fa ρ fun d => WpQ.wp fb ρ fun e => wO (o d e) Q, fun h => by
  obtain ⟨d, e1, h⟩ := WpQ.ok h
  obtain ⟨e, e2, h⟩ := WpQ.ok h
  obtain ⟨g, e3, h⟩ := h.ex
  exact ⟨g, by unfold qOp; rw [bindQ_ok e1, bindQ_ok e2, e3]; rfl, h⟩, fun h k => WpQ.mono h fun _ h => WpQ.mono h fun _ h => h.mono k⟩
instance pq_un {o : Dt → Option Dt} [WpQ fa] : WpQ (qUn o fa) := ⟨fun ρ Q => WpQ.wp fa ρ fun d => wO (o d) Q, fun h => by
  obtain ⟨d, e1, h⟩ := WpQ.ok h
  obtain ⟨g, e3, h⟩ := h.ex
  exact ⟨g, by unfold qUn; rw [bindQ_ok e1, e3]; rfl, h⟩, fun h k => WpQ.mono h fun _ h => h.mono k⟩
instance pqs_nil : WpQs [] := ⟨fun _ Q => Q [], fun h => ⟨_, rfl, h⟩, fun h k => k _ h⟩
instance pqs_cons [WpQ f] [WpQs fs] : WpQs (f :: fs) := ⟨fun ρ Q => WpQ.wp f ρ fun d => WpQs.wp fs ρ fun ds => Q (d :: ds), fun h => by
  obtain ⟨d, e1, h⟩ := WpQ.ok h
  obtain ⟨ds, e2, h⟩ := WpQs.ok h
  exact ⟨_, by unfold qAll; simp only [e1, e2], h⟩, fun h k => WpQ.mono h fun _ h => WpQs.mono h fun _ h => k _ h⟩
instance pq_tup [WpQs fs] : WpQ (qTup fs) := ⟨fun ρ Q => WpQs.wp fs ρ fun ds => wC (Nat.ble ds.length 100000) (Q (.tup ds)), fun h => by
  obtain ⟨ds, e, h⟩ := WpQs.ok h
  obtain ⟨l, h⟩ := h.ex
  exact ⟨_, by unfold qTup; rw [bindQs_ok e, if_pos (Nat.le_of_ble_eq_true l)]; rfl, h⟩, fun h k => WpQs.mono h fun _ h => h.mono (k _)⟩
instance pq_lst [WpQs fs] : WpQ (qLst fs) := ⟨fun ρ Q => WpQs.wp fs ρ fun ds => wC (Nat.ble ds.length 100000) (Q (.lst ds)), fun h => by
  obtain ⟨ds, e, h⟩ := WpQs.ok h
  obtain ⟨l, h⟩ := h.ex
  exact ⟨_, by unfold qLst; rw [bindQs_ok e, if_pos (Nat.le_of_ble_eq_true l)]; rfl, h⟩, fun h k => WpQs.mono h fun _ h => h.mono (k _)⟩
instance pq_cb {o : List Dt → Option Dt} [WpQs fs] : WpQ (qCB o fs) := ⟨fun ρ Q => WpQs.wp fs ρ fun ds => wO (o ds) Q, fun h => by
  obtain ⟨ds, e, h⟩ := WpQs.ok h
  obtain ⟨g, e3, h⟩ := h.ex
  exact ⟨g, by unfold qCB; rw [bindQs_ok e, e3]; rfl, h⟩, fun h k => WpQs.mono h fun _ h => h.mono k⟩
def wtD : Wt → Dt
  | .sh d => d
  | .own xs => .lst xs
  | .tr t => t.dt
instance pq_call {n : Nat} {g : FnD} [WpQs fs] : WpQ (qCall n g fs) := ⟨fun ρ Q => WpQs.wp fs ρ fun ds => wC (Nat.beq ds.length n) (fL (ds.map Aw.sh) fun ws => At (EvF g ws fun w _ => Q (wtD w))), fun h => by
  obtain ⟨ds, e, h⟩ := WpQs.ok h
  obtain ⟨l, h⟩ := h.ex
  obtain ⟨w, cs, e2, h⟩ := (fL_ok _ _ h).h
  refine ⟨wtD w, ?_, h⟩
  unfold qCall
  rw [bindQs_ok e, if_pos (Nat.eq_of_beq_eq_true l), e2]
  cases w <;> rfl, fun h k => WpQs.mono h fun _ h => h.mono fun h => h.mono fun _ h => h.mono fun h => h.imp fun _ _ h => k _ h⟩
instance p_q [WpQ f] : WpE (eQ f) := ⟨fun ρ Q => WpQ.wp f ρ fun d => wC (flatT d) (Q d ρ), fun {ρ Q} h => by
  obtain ⟨d, e, h⟩ := WpQ.ok h
  obtain ⟨l, h⟩ := h.ex
  exact ⟨d, ρ, by unfold eQ; simp only [e]; rw [if_pos l], h⟩, fun h k => WpQ.mono h fun _ h => h.mono (k _ _)⟩
instance p_qc {n : Nat} {g : FnD} [WpQs fs] : WpW (wQC n g fs) := ⟨fun ρ Q => WpQs.wp fs ρ fun ds => wC (Nat.beq ds.length n) (fL (ds.map Aw.sh) fun ws => At (EvF g ws fun w _ => wC (flatW w) (Q w ρ))), fun {ρ Q} h => by
  obtain ⟨ds, e, h⟩ := WpQs.ok h
  obtain ⟨l, h⟩ := h.ex
  obtain ⟨w, cs, e2, h⟩ := (fL_ok _ _ h).h
  obtain ⟨l2, h⟩ := h.ex
  refine ⟨w, ρ, ?_, h⟩
  unfold wQC
  simp only [e]
  rw [if_pos (Nat.eq_of_beq_eq_true l)]
  simp only [e2]
  rw [if_pos l2], fun h k => WpQs.mono h fun _ h => h.mono fun h => h.mono fun _ h => h.mono fun h => h.imp fun _ _ h => h.mono (k _ _)⟩
end
end DL
namespace DL
open PySem PySem.Spec PyProof.Rows L2 RZ
/-! ### x, y, z = [], [], i -/
def sNew3 (i j l : Nat) (c : Int) : FS := fun ρ => some (.nx, ((ρ.set i (some (.own []))).set j (some (.own []))).set l (some (.sh (.int c))))
section
variable {X : Cx} {P : Pt} {Wx : WX} {pos : Pos}
theorem Rel.own_new {K : PySem.W.Frag} {F H : Hp} {σ : L2.St} {ρ : Rho} (r : Rel K P F H σ ρ) {p : Addr} (np : H p = none) {i : Nat} (hi : i ∉ P.bs) : Rel K P F (upd H p (.lst [])) (σ.set i (some (.ref p))) (ρ.set i (some (.own []))) := by
  have g := Grow.laid (o := .lst []) r.fh np
  exact (r.grow g).asg (w := .own []) hi (ResW.lay r np .nil)
theorem s_new3 (i j l : Nat) {x y z : Str} {c : Int} {k0 : Nat} {px py pz pt p1 p2 p3 : Pos} {kt k2 pt2} (hbi : i ∉ P.bs) (hbj : j ∉ P.bs) (hbl : l ∉ P.bs) (hc : X.calm = true) (hN : X.N.Nodup) (hi : X.N[i]? = some x := by rfl) (hj : X.N[j]? = some y := by rfl) (hl : X.N[l]? = some z := by rfl)
    (hij : i ≠ j := by decide) (hil : i ≠ l := by decide) (hjl : j ≠ l := by decide)
    (hx : X.env.scope.names.lookup x = some .local := by rfl) (hy : X.env.scope.names.lookup y = some .local := by rfl) (hz : X.env.scope.names.lookup z = some .local := by rfl)
    (hw : swappedStores [.Tuple [.Name x px, .Name y py, .Name z pz] kt pt] (.Tuple [.List [] p1, .List [] p2, .Constant (.int c) k0 p3] k2 pt2) X.env = pure (some [x, y, z]) := by rfl)
    (hs : swapsWithSole [.Tuple [.Name x px, .Name y py, .Name z pz] kt pt] (.Tuple [.List [] p1, .List [] p2, .Constant (.int c) k0 p3] k2 pt2) pos.line X.env = pure false := by rfl) :
    PS X (.Assign [.Tuple [.Name x px, .Name y py, .Name z pz] kt pt] (.Tuple [.List [] p1, .List [] p2, .Constant (.int c) k0 p3] k2 pt2) pos) (LS X.K P Wx (sNew3 i j l c)) :=
  PSm (ps_par3 hc hN hi hj hl hij hil hjl hx hy hz (pa_cons (pe_lst pa_nil) (pa_cons (pe_lst pa_nil) (pa_cons pe_int pa_nil rfl) rfl) rfl) hw hs) fun D σ H h => by
  obtain ⟨F, ρ, r, q⟩ := h
  refine ⟨Nat.zero_le _, fun p np => ⟨Nat.zero_le _, fun q1 nq => ⟨.ref p, .ref q1, .int c, rfl, ?_⟩⟩⟩
  have r1 := (r.own_new np hbi).own_new nq hbj
  exact q F _ _ (.refl _) (r1.asg (w := .sh (.int c)) hbl (.int c))
end
instance p_new3 {i j l : Nat} {c : Int} : WpS (sNew3 i j l c) :=
  ⟨fun ρ N _ => fL (((ρ.set i (some (.own []))).set j (some (.own []))).set l (some (.sh (.int c)))) N, fun h => .inl ⟨_, rfl, fL_ok _ _ h⟩, fun h k _ => h.mono k⟩
end DL
namespace DL
open PySem PySem.Spec PyProof.Rows L2 RZ
/-! ### an own exception is made without arguments -/
section
variable {X : Cx} {x : Str} {C fI : Addr} {k : Nat} {fd : FuncData} {ps : List Str} {sp : Sp} {p pos : Pos}
theorem pmk_oex0 (T : OexC X.K C) (iC : PySem.W.findIn X.K (.ref C) "__init__" = some (some (.ref fI))) (tI : PySem.W.typeIn X.K (.ref fI) = some (.type "function")) (F1 : FnOk X.prog X.w X.K X.mg X.base (L2.CX X.prog X.w) k fI fd ps sp) (hr : Room (k + 1) X.A) (hb : Binds X.K fd ps [])
    (hx : Passes (L2.CX X.prog X.w) X (fun _ _ _ => False)) (hg : Gl X x) (hm : X.mg x = some (.ref C)) (hdb : (x == ("__debug__" : Str)) = false := by decide) : PMk X (.Call (.Name x p) [] [] pos) (tMkO C sp [] tNil) := fun pins s0 σ H Q I h => by
  obtain ⟨nm, q, N, bs, bm, sn, sub, ab, col, dd, k0, k1, k2, k3, k5, hC, hbm⟩ := T.cls
  refine wpAny_Call_Name_kw (ld_glob I hg hm (PySem.W.callWith_K0 I.kIn T.kC ?_) hdb)
  obtain ⟨h0, g0, d0, t0, os0⟩ := s0
  have le : h0.objs.size ≤ h0.objs.size + 1 := Nat.le_succ _
  have hn : H (h0.objs.size + 1) = none := I.hok.fresh le
  have hq := h.2 (h0.objs.size + 1) hn
  generalize hA : (h0.push (PySem.W.kdv_tup [])).push (PySem.HandSPX.excO C h0.objs.size) = hN
  have kk : ∀ b o, h0.get? b = some o → hN.get? b = some o := fun b o e => by rw [← hA]; exact Heap.get?_push_of_some _ (Heap.get?_push_of_some _ e)
  have hget : hN.get? (h0.objs.size + 1) = some (PySem.HandSPX.excO C h0.objs.size) := by rw [← hA]; heap_get
  have I2 : Inv X pins σ (upd H (h0.objs.size + 1) (exo (h0.objs.size + 1) C none)) ⟨hN, g0, d0, t0, os0⟩ := I.laid (t' := t0) kk le (exo_ok hget)
  have r2 : Vals [V.ref (h0.objs.size + 1)] [Value.ref (h0.objs.size + 1)] := .cons rfl .nil
  have hl : [Value.ref (h0.objs.size + 1)].length = ps.length := F1.len _ _ _ _ hq
  subst hA
  refine wpAny_call (PySem.HandSPX.call_own F.excBase_ValueError (fun Y => PySem.HandSPX.refsVE_contains Y bm hbm) (I.kIn _ _ hC) (PySem.W.looks_findIn I.kIn iC) (fun self => PySem.W.bind_fn I.kIn self tI) (Nat.zero_le _) (codeAny_mono (F1.run _ X.stack _ _ ⟨[Value.ref (h0.objs.size + 1)], []⟩ [Value.ref (h0.objs.size + 1)] _ _ (fun _ _ _ => False) (hr.make C [] []) (I2.env0.make C [] []) (hb _ [Value.ref (h0.objs.size + 1)] I2.kIn hl) r2 hq) fun r s' hq' => ?_))
  cases r with
  | error er => exact hx pins σ _ _ er s' I2 hq'
  | ok fl =>
    cases fl with
    | ret u =>
      obtain ⟨v, H2, os2, bare2, un2, hok2, rv, ev, d, fs, ea, ed, hd1, q2⟩ := hq'
      cases ev
      exact ⟨rv, mk_end (raises_own T.exC T.tyC) I le kk un2 hok2 os2 bare2 ea ed hd1 q2⟩
    | _ => exact hq'.elim
end
/-! ### what an __init__ lays: self.f = text | parameter, row by row -/
def valI (ws : List V) : V ⊕ Nat → V
  | .inl v => v
  | .inr i => ws.getD i .non
def fldI (ws : List V) : List (Str × (V ⊕ Nat)) → List (Str × V) → List (Str × V)
  | [], acc => acc
  | (f, u) :: r, acc => fldI ws r ((f, valI ws u) :: acc)
def srcI : V ⊕ Nat → TE
  | .inl v => tC v
  | .inr i => tVar i
def tInit (K : PySem.W.Frag) : List (Str × (V ⊕ Nat)) → TS
  | [] => tNext
  | (f, u) :: r => tSeq (tOst K f (tVar 0) (srcI u)) (tInit K r)
def okI (n : Nat) : V ⊕ Nat → Prop
  | .inl _ => True
  | .inr i => i < n
def spI (C : Addr) (n : Nat) (l : List (Str × (V ⊕ Nat))) : Sp := fun vs H Q _ => ∃ a ws, vs = .ref a :: ws ∧ ws.length = n ∧ H a = some (exo a C none) ∧
  ∀ dx H', H dx = none → dx ≠ a → H' a = some (exo a C (some dx)) → H' dx = some (exd dx (fldI vs l [])) → (∀ b, b ≠ a → b ≠ dx → H' b = H b) → Q .non H'
section
variable {K : PySem.W.Frag} {C a : Addr} {vs : List V} {σ : L2.St} {D : Ends}
theorem src_run {n : Nat} {u : V ⊕ Nat} {H : Hp} {Q : VK} (hs : ∀ i, i < n → σ[i]? = some (some (vs.getD i .non))) (hu : okI n u) (q : Q (valI vs u) H) : srcI u σ H Q := by
  cases u with
  | inl v => exact q
  | inr i => exact ⟨_, hs i hu, q⟩
theorem init_more (T : OexC K C) {n : Nat} (hs : ∀ i, i < n → σ[i]? = some (some (vs.getD i .non))) (h0 : σ[0]? = some (some (.ref a))) {dx : Addr} (ne : dx ≠ a) : ∀ (l : List (Str × (V ⊕ Nat))) (acc : List (Str × V)) (H : Hp), (∀ e ∈ l, PySem.W.findIn K (.ref C) e.1 = some none ∧ okI n e.2) → acc.length + l.length ≤ 900 →
    H a = some (exo a C (some dx)) → H dx = some (exd dx acc) → (∀ H', H' a = some (exo a C (some dx)) → H' dx = some (exd dx (fldI vs l acc)) → (∀ b, b ≠ a → b ≠ dx → H' b = H b) → D.nx σ H') → tInit K l D σ H
  | [], acc, H, _, _, ha, hd, q => q H ha hd fun _ _ _ => rfl
  | (f, u) :: r, acc, H, hl, hn, ha, hd, q => by
    have h1 := hl (f, u) (by simp)
    rw [List.length_cons] at hn
    refine src_run hs h1.2 ⟨_, h0, a, C, rfl, T, h1.1, .inr ⟨dx, acc, ha, hd, by omega, ?_⟩⟩
    refine init_more T hs h0 ne r _ _ (fun e he => hl e (by simp [he])) (by rw [List.length_cons]; omega) ?_ upd_same fun H' e1 e2 e3 => q H' e1 e2 fun b b1 b2 => ?_
    · rw [upd_ne (Ne.symm ne)]; exact ha
    · rw [e3 b b1 b2, upd_ne b2]
theorem init_run (T : OexC K C) {n : Nat} (hs : ∀ i, i < n → σ[i]? = some (some (vs.getD i .non))) (h0 : σ[0]? = some (some (.ref a))) {f : Str} {u : V ⊕ Nat} {r : List (Str × (V ⊕ Nat))} {H : Hp} (hl : ∀ e ∈ (f, u) :: r, PySem.W.findIn K (.ref C) e.1 = some none ∧ okI n e.2) (hn : r.length ≤ 800)
    (ha : H a = some (exo a C none)) (q : ∀ dx H', H dx = none → dx ≠ a → H' a = some (exo a C (some dx)) → H' dx = some (exd dx (fldI vs ((f, u) :: r) [])) → (∀ b, b ≠ a → b ≠ dx → H' b = H b) → D.nx σ H') : tInit K ((f, u) :: r) D σ H := by
  have h1 := hl (f, u) (by simp)
  refine src_run hs h1.2 ⟨_, h0, a, C, rfl, T, h1.1, .inl ⟨ha, fun dx nd ne => ?_⟩⟩
  refine init_more T hs h0 ne r _ _ (fun e he => hl e (by simp [he])) (by show 1 + _ ≤ _; omega) upd_same (by rw [upd_ne ne, upd_same]) fun H' e1 e2 e3 => q dx H' nd ne e1 e2 fun b b1 b2 => ?_
  rw [e3 b b1 b2, upd_ne b1, upd_ne b2]
end
/-- an own exception class by its name: how many things it takes, its fields -/
structure ExAt (P : Program) (w : World) (K : PySem.W.Frag) (mg : Str → Option Value) (base : Heap) (k : Nat) (x : Str) (n : Nat) (l : List (Str × (V ⊕ Nat))) : Prop where
  ex : ∃ (C fI : Addr) (fd : FuncData) (ps : List Str), OexC K C ∧ PySem.W.findIn K (.ref C) "__init__" = some (some (.ref fI)) ∧ PySem.W.typeIn K (.ref fI) = some (.type "function") ∧ FnOk P w K mg base (L2.CX P w) k fI fd ps (spI C n l) ∧ L2.Binds K fd ps [] ∧ mg x = some (.ref C) ∧ PySem.W.nsIn K mainGlobals x = some (some (.ref C))
section
variable {P : Program} {w : World} {K : PySem.W.Frag} {mg : Str → Option Value} {base : Heap}
theorem init_ok {qual : Str} {st : Stmt} {fI C : Addr} {fd : FuncData} {ps : List Str} {k : Nat} {f : Str} {u : V ⊕ Nat} {r : List (Str × (V ⊕ Nat))} {n : Nat} (F : Fun K "__init__" qual st fI fd) (S : FnScope ps ps (defScope st)) (T : OexC K C) (hp : ps.length = n + 1)
    (hl : ∀ e ∈ (f, u) :: r, PySem.W.findIn K (.ref C) e.1 = some none ∧ okI (n + 1) e.2) (hn : r.length ≤ 800)
    (hb : ∀ (cdv : Value) (A : Around) (outer : List Env) (s : Shared) (H : Hp) (E : XK), PSs (cxOf (L2.CX P w) P w K mg base ps qual (defScope st) fI cdv A outer s H E) (defBody st) (tInit K ((f, u) :: r))) :
    FnOk P w K mg base (L2.CX P w) (k + 1) fI fd ps (spI C n ((f, u) :: r)) := by
  refine F.okX S (fun vs H Q E h => ?_) fun cdv A outer s H vs Q E hr h => ⟨_, hb cdv A outer s H E, ?_⟩
  · obtain ⟨a, ws, rfl, hw, _⟩ := h
    rw [List.length_cons, hw, hp]
  · obtain ⟨a, ws, rfl, hw, ha, q⟩ := h
    refine init_run (n := n + 1) (vs := .ref a :: ws) (a := a) T (fun i hi => ?_) (by unfold L2.start; rfl) hl hn ha fun dx H' nd ne e1 e2 e3 => q dx H' nd ne e1 e2 e3
    have hi2 : i < (V.ref a :: ws).length := by rw [List.length_cons, hw]; exact hi
    unfold L2.start
    rw [List.getElem?_append_left (by rw [List.length_map]; exact hi2), List.getElem?_map, List.getElem?_eq_getElem hi2, List.getD_eq_getElem?_getD, List.getElem?_eq_getElem hi2]
    rfl
end
/-! ### raise C() -/
def sRaise0 (x : Str) (fs : List (Str × Dt)) : FS := fun ρ => some (.ex x fs, ρ)
section
variable {X : Cx} {P : Pt} {Wx : WX} {x : Str} {p pos pos' : Pos} {k : Nat}
theorem s_raise0 {l : List (Str × (V ⊕ Nat))} {fs : List (Str × Dt)} (E : ExAt X.prog X.w X.K X.mg X.base k x 0 l) (hf : ∀ (F : Hp) (a : Addr), (fldI [.ref a] l []).map (·.1) = fs.map (·.1) ∧ Rps X.K F (fs.map (·.2)) ((fldI [.ref a] l []).map (·.2))) (hr : Room (k + 1) X.A) (hc : X.calm = true) (tk : Takes X Wx) (hg : Gl X x)
    (hdb : (x == ("__debug__" : Str)) = false := by decide) : PS X (.Raise (some (.Call (.Name x p) [] [] pos)) none pos') (LS X.K P Wx (sRaise0 x fs)) := by
  obtain ⟨C, fI, fd, ps, T, iC, tI, F1, hb, hm, hn⟩ := E.ex
  refine PSm (ps_raise hc tk (pmk_oex0 T iC tI F1 hr hb (passes_call tk fun _ _ _ _ h => h.elim) hg hm hdb)) fun D σ H h => ?_
  obtain ⟨F, ρ, r, q⟩ := h
  refine ⟨Nat.zero_le _, fun a na => ⟨a, [], rfl, rfl, upd_same, fun dx H' nd ne e1 e2 e3 => ⟨rfl, dx, _, e1, e2, ?_, ?_⟩⟩⟩
  · rw [upd_ne ne] at nd; exact nd
  · rw [upd_ne ne] at nd
    have eH : upd (del H' a) dx (.xd (fldI [.ref a] l [])) = upd H dx (.xd (fldI [.ref a] l [])) := by
      funext b
      by_cases h1 : b = dx
      · subst h1; rw [upd_same, upd_same]
      · rw [upd_ne h1, upd_ne h1]
        by_cases h2 : b = a
        · subst h2; rw [del_same, na]
        · rw [del_ne h2, e3 b h2 h1, upd_ne h2]
    show Wx (.ref C) (some dx) σ (upd (del H' a) dx (.xd (fldI [.ref a] l [])))
    rw [eH]
    have g := Grow.lay (o := .xd (fldI [.ref a] l [])) r.fh nd
    obtain ⟨f1, f2⟩ := hf (upd F dx (.xd (fldI [.ref a] l []))) a
    exact q _ _ σ _ _ g.f (r.grow g) ⟨⟨C, rfl, hn⟩, dx, _, rfl, upd_same, f1, f2⟩
end
/-! ### raise C(e, ..) -/
def sRaise (x : Str) (n : Nat) (g : List Dt → List (Str × Dt)) (fa : FA) : FS := fun ρ => match fa ρ with
  | none => none
  | some (.ok as, ρ1) => (match vals as with
    | some ds => if ds.length = n then some (.ex x (g ds), ρ1) else none
    | none => none)
  | some (.ex C fs, ρ1) => some (.ex C fs, ρ1)
section
variable {X : Cx} {P : Pt} {Wx : WX} {x : Str} {p pos pos' : Pos} {k n : Nat} {e : Expr} {es : List Expr} {fa : FA}
theorem s_raise {l : List (Str × (V ⊕ Nat))} {g : List Dt → List (Str × Dt)} (E : ExAt X.prog X.w X.K X.mg X.base k x n l) (hf : ∀ (F : Hp) (a : Addr) (ds : List Dt) (vs : List V), ds.length = n → Rps X.K F ds vs → (fldI (.ref a :: vs) l []).map (·.1) = (g ds).map (·.1) ∧ Rps X.K F ((g ds).map (·.2)) ((fldI (.ref a :: vs) l []).map (·.2))) (hn1 : n ≤ 1000)
    (hr : Room (k + 1) X.A) (hc : X.calm = true) (tk : Takes X Wx) (hg : Gl X x) (ha : PA X (e :: es) (LA X.K P Wx fa)) (hdb : (x == ("__debug__" : Str)) = false := by decide) (he : starEach (e :: es) X.env = (false, eval e X.env) :: starEach es X.env := by rfl) (hpl : (backTo pos (starEach es X.env)).any (·.1) = false := by rfl) :
    PS X (.Raise (some (.Call (.Name x p) (e :: es) [] pos)) none pos') (LS X.K P Wx (sRaise x n g fa)) := by
  obtain ⟨C, fI, fd, ps, T, iC, tI, F1, hb, hm, hn⟩ := E.ex
  refine PSm (ps_raise hc tk (pmk_oex (dvs := []) T iC tI F1 hr hb .nil (passes_call tk fun _ _ _ _ h => h.elim) hg hm ha hdb he hpl)) fun D σ H h => ?_
  obtain ⟨F, ρ, r, q⟩ := h
  refine ⟨F, ρ, r, ?_⟩
  unfold sRaise at q
  match ef : fa ρ with
  | none => rw [ef] at q; exact q.elim
  | some (.ex C' fs, ρ1) => rw [ef] at q; exact fun F' H' cls dd a b c => q F' H' σ cls dd a b c
  | some (.ok as, ρ1) =>
    rw [ef] at q
    dsimp only at q
    cases ev : vals as with
    | none => rw [ev] at q; exact q.elim
    | some ds =>
      rw [ev] at q
      dsimp only at q
      split at q
      rotate_left
      · exact q.elim
      rename_i hl
      intro F1' H1 vs s1 r1 p1
      have rp := vals_ok p1 ev
      have hvl : vs.length = n := by rw [← rp.length]; exact hl
      refine ⟨by rw [hvl]; exact hn1, fun a na => ⟨a, vs, by rw [List.append_nil], hvl, upd_same, fun dx H' nd ne e1 e2 e3 => ⟨rfl, dx, _, e1, e2, ?_, ?_⟩⟩⟩
      · rw [upd_ne ne] at nd; exact nd
      · rw [upd_ne ne] at nd
        rw [List.append_nil]
        have eH : upd (del H' a) dx (.xd (fldI (.ref a :: vs) l [])) = upd H1 dx (.xd (fldI (.ref a :: vs) l [])) := by
          funext b
          by_cases h1 : b = dx
          · subst h1; rw [upd_same, upd_same]
          · rw [upd_ne h1, upd_ne h1]
            by_cases h2 : b = a
            · subst h2; rw [del_same, na]
            · rw [del_ne h2, e3 b h2 h1, upd_ne h2]
        show Wx (.ref C) (some dx) σ (upd (del H' a) dx (.xd (fldI (.ref a :: vs) l [])))
        rw [eH]
        have gr := Grow.lay (o := .xd (fldI (.ref a :: vs) l [])) r1.fh nd
        obtain ⟨f1, f2⟩ := hf (upd F1' dx (.xd (fldI (.ref a :: vs) l []))) a ds vs hl (rp.mono gr.f)
        exact q _ _ σ _ _ (s1.trans gr.f) (r1.grow gr) ⟨⟨C, rfl, hn⟩, dx, _, rfl, upd_same, f1, f2⟩
end
end DL
namespace DL
open PySem PySem.Spec PyProof.Rows L2 RZ
/-! ### a def called without arguments -/
section
variable {X : Cx} {P : Pt} {Wx : WX} {pos p : Pos} {k : Nat} {g : FnD} {x : Str}
theorem w_fn0 (h : FnAt X.prog X.w X.K X.mg X.base k x 0 g) (hr : Room k X.A) (tk : Takes X Wx) (hg : Gl X x) (hdb : (x == ("__debug__" : Str)) = false := by decide) : PE X (.Call (.Name x p) [] [] pos) (LW X.K P Wx (wCall 0 g aNil)) := by
  obtain ⟨f, fd, ps, a, b, c, d, _⟩ := h.ex
  refine ⟨fun pins s σ H Q I q => wpAny_Call_Name_kw (ld_glob I hg b (PySem.W.callWith_K0 I.kIn c ?_) hdb)⟩
  obtain ⟨F, ρ, r, q2⟩ := LA_call q
  exact run_fnS (us := []) a hr d (passAt tk σ) I .nil (q2 F H [] (.refl _) r .nil)
end
end DL
namespace DL
open PySem PySem.Spec PySem.Calls PyProof.Rows L2 RZ PySem.W
section
variable {M : Model} {K : Frag}
section
variable {A : Around} {E : Value → Shared → Prop} {s : Shared}
theorem loop_yield {f : Value → PUnit → Sem (ForInStep PUnit)} {Q : PUnit → Shared → Prop} (q : Q PUnit.unit s) : ∀ (l : List Value), (∀ c ∈ l, ∀ Q' : ForInStep PUnit → Shared → Prop, Q' (.yield PUnit.unit) s → wpAny M A (f c PUnit.unit) Q' E s) → wpAny M A (forIn l PUnit.unit f) Q E s
  | [], _ => by
    simp only [List.forIn_nil]
    exact wpAny_pure q
  | c :: l, hf => by
    simp only [List.forIn_cons]
    refine wpAny_bind (hf c (by simp) _ ?_)
    exact loop_yield q l fun d hd => hf d (by simp [hd])
theorem loop_find {f : Value → Option Bool × Unit → Sem (ForInStep (Option Bool × Unit))} {Q : Option Bool × Unit → Shared → Prop} {v : Value → Bool} : ∀ (l : List Value), (∀ c ∈ l, ∀ Q' : ForInStep (Option Bool × Unit) → Shared → Prop, Q' (if v c = true then .done (some true, ()) else .yield (none, ())) s → wpAny M A (f c (none, ())) Q' E s) →
    Q (if l.any v = true then (some true, ()) else (none, ())) s → wpAny M A (forIn l (none, ()) f) Q E s
  | [], _, q => by
    simp only [List.forIn_nil]
    exact wpAny_pure q
  | c :: l, hf, q => by
    simp only [List.forIn_cons]
    refine wpAny_bind (hf c (by simp) _ ?_)
    rw [List.any_cons] at q
    cases hv : v c with
    | true =>
      rw [hv] at q
      exact wpAny_pure q
    | false =>
      rw [hv] at q
      exact loop_find l (fun d hd => hf d (by simp [hd])) q
end
theorem exmAny_all {cls : Value} : ∀ {cs : List Value} {b : Bool}, exmAny K cls cs = some b → (∀ c ∈ cs, exmOne K cls c = some ((exmOne K cls c).getD false)) ∧ b = cs.any fun c => (exmOne K cls c).getD false
  | [], b, h => by cases h; exact ⟨fun c hc => (by cases hc), rfl⟩
  | c :: cs, b, h => by
    obtain ⟨b1, d1, h1, h2, h3⟩ := exmAny_cons h
    obtain ⟨i1, i2⟩ := exmAny_all h2
    refine ⟨fun x hx => ?_, ?_⟩
    · rcases List.mem_cons.mp hx with rfl | hx
      · rw [h1]; rfl
      · exact i1 x hx
    · rw [List.any_cons, ← i2, h1]; exact h3
theorem exm_tupL {cs : List Value} {cls : Value} {tp e : Addr} {b : Bool} {h : Heap} (X : K.In h) (LT : Looks M h (typeOf (.ref e)) cls) (hp : h.get? tp = some { cls := .type "tuple", data := .seq cs.toArray }) (hx : exmAny K cls cs = some b) :
    Looks M h (excMatches (.ref e) (.ref tp)) b := by
  intro A Q E s k₀ q
  obtain ⟨hh, g, d, tk, os⟩ := s
  have k : ∀ b o, h.get? b = some o → hh.get? b = some o := k₀
  have LT0 : Looks M h (isInstance (.ref tp) (.type "tuple")) true := ((Looks.ld hp).andThen .now).andThen (Looks.of_pure isSubtype_tuple_tuple)
  have LT := LT.keeps k
  have LT0 := LT0.keeps k
  have hp' := k _ _ hp
  unfold excMatches
  refine wpAny_bind (LT0.at ?_)
  dsimp only
  rw [if_pos rfl]
  first
    | refine wpAny_bind (wpAny_seqItems hp' rfl ?_)
    | refine wpAny_bind (wpAny_bind (wpAny_seqItems hp' rfl (wpAny_pure ?_)))
  dsimp only [Option.getD_some, Option.getD]
  obtain ⟨ha, hb⟩ := exmAny_all hx
  refine wpAny_bind (wpAny_pure (wpAny_bind (loop_yield ?_ cs fun c hc Q' q' => ?_)))
  · refine wpAny_bind (LT.here ?_)
    refine wpAny_bind (loop_find (v := fun c => (exmOne K cls c).getD false) cs (fun c hc Q' q' => ?_) ?_)
    · refine wpAny_bind (((exm_cls (M := M) X (ha c hc)).2.keeps k).here ?_)
      cases hv : (exmOne K cls c).getD false with
      | true => rw [hv] at q'; exact wpAny_pure q'
      | false => rw [hv] at q'; exact wpAny_pure q'
    · rw [← hb]
      cases b with
      | true => exact wpAny_pure q
      | false => exact wpAny_pure q
  · refine wpAny_bind (((exm_cls (M := M) X (ha c hc)).1.keeps k).here ?_)
    exact wpAny_pure q'
end
/-! ### several except clauses, each with a class or a tuple of classes, all `as n` -/
theorem flying_ext {B h h' : Heap} {l : List Env} {a : Addr} {Z : Obj → Prop} (k : ∀ b o, h.get? b = some o → h'.get? b = some o) (f : HandSPX.FlyingZ B l a Z h) : HandSPX.FlyingZ B l a Z h' := by
  obtain ⟨f1, f2, f3, oe, vs, T, oT, ts, t1, t2, t3, t4, t5, t6, t7, t8⟩ := f
  exact ⟨fun b o e => k b o (f1 b o e), f2, Heap.FunFrames.of_keeps (fun b o e _ => ⟨o, k b o e, rfl⟩) f3, oe, vs, T, oT, ts, k _ _ t1, t2, t3, t4, t5, t6, k _ _ t7, t8⟩
abbrev Cl := List Value × (Addr → Value → Option Addr → TS)
def wManyT (K : Frag) (Wout : WX) (D : Ends) (i : Nat) : List Cl → WX
  | [] => Wout
  | (cs, ts) :: r => fun cls d σ H => ∃ b, exmAny K cls cs = some b ∧
    (b = true → ∀ a, H a = none → ts a cls d { nx := fun σ' H' => D.nx (σ'.set i none) H', rt := D.rt, bk := fun σ' H' => D.bk (σ'.set i none) H', ct := fun σ' H' => D.ct (σ'.set i none) H' } (σ.set i (some (.ref a))) H) ∧ (b = false → wManyT K Wout D i r cls d σ H)
/-- the classes that a clause names -/
inductive TestOk (X : Cx) : Expr → List Value → Prop
  | one {x : Str} {c : Value} {np : Pos} : Gl X x → X.mg x = some c → (x == ("__debug__" : Str)) = false → TestOk X (.Name x np) [c]
  | tup {l : List (Str × Pos × Value)} {j : Nat} {np : Pos} : l.length ≤ 1000 → (∀ e ∈ l, Gl X e.1 ∧ X.mg e.1 = some e.2.2 ∧ (e.1 == ("__debug__" : Str)) = false) → TestOk X (.Tuple (l.map fun e => .Name e.1 e.2.1) j np) (l.map (·.2.2))
inductive HdsT (X : Cx) (n : Str) : List ExceptHandler → List Cl → Prop
  | nil : HdsT X n [] []
  | cons {t : Expr} {cs : List Value} {ts : Addr → Value → Option Addr → TS} {b₀ : Stmt} {suite : List Stmt} {pos' : Pos} {hds : List ExceptHandler} {l : List Cl} (hc : TestOk X t cs)
      (hsu : ∀ (a : Addr) (oe : Obj) (cls : Value) (d : Option Addr) (pn : List (Addr × Obj)), Zc cls d oe → (∃ vs, oe.data = .fields vs) → PSs (X.suite a ((a, oe) :: pn)) (b₀ :: suite) (ts a cls d)) (r : HdsT X n hds l) :
      HdsT X n (.ExceptHandler (some t) (some n) (b₀ :: suite) pos' :: hds) ((cs, ts) :: l)
section
variable {X : Cx} {pins : List (Addr × Obj)} {σ : L2.St} {H : Hp} {s : Shared}
theorem names_run {Y : Cx} {E : Value → Shared → Prop} {pos : Pos} (I : L2.Inv Y pins σ H s) : ∀ (l : List (Str × Pos × Value)) {Q : List Value → Shared → Prop}, (∀ e ∈ l, Gl Y e.1 ∧ Y.mg e.1 = some e.2.2 ∧ (e.1 == ("__debug__" : Str)) = false) → Q (l.map (·.2.2)) s →
    wpAny (model Y.prog Y.w) Y.A (spliced (backTo pos (starEach (l.map fun e => .Name e.1 e.2.1) Y.env))) Q E s
  | [], Q, _, q => Calls.spliced_nil q
  | e :: l, Q, h, q => by
    obtain ⟨h1, h2, h3⟩ := h e (by simp)
    exact Calls.spliced_cons (ld_glob I h1 h2 (names_run I l (fun d hd => h d (by simp [hd])) q) h3)
/-- the test of a clause -/
theorem test_run {Y : Cx} {t : Expr} {cs : List Value} {a : Addr} {cls : Value} {b : Bool} {Q : Bool → Shared → Prop} {E E2 : Value → Shared → Prop} (T : TestOk Y t cs) (I : L2.Inv Y pins σ H s) (LT : Looks (model Y.prog Y.w) s.heap (typeOf (.ref a)) cls) (hx : exmAny Y.K cls cs = some b)
    (q : ∀ h', (∀ b o, s.heap.get? b = some o → h'.get? b = some o) → Q b { s with heap := h' }) : wpAny (model Y.prog Y.w) Y.A (eval t Y.env) (fun c s1 => wpAny (model Y.prog Y.w) Y.A (excMatches (.ref a) c) Q E s1) E2 s := by
  cases T with
  | one h1 h2 h3 =>
    rename_i c np
    obtain ⟨b1, d1, e1, e2, rfl⟩ := exmAny_cons hx
    cases e2
    refine ld_glob I h1 h2 ((exm_one I.kIn LT e1).here ?_) h3
    have := q s.heap fun _ _ e => e
    rw [Bool.or_false] at this
    exact this
  | tup hl h =>
    rename_i l j np
    refine wpAny_Tuple_spliced (names_run I l h ⟨Nat.le_trans (by rw [List.length_map]; exact hl) (by rw [sizeLine_eq]; decide), ?_⟩)
    have k : ∀ b o, s.heap.get? b = some o → (s.heap.push { cls := .type "tuple", data := .seq (l.map (·.2.2)).toArray }).get? b = some o := fun b o e => Heap.get?_push_of_some _ e
    exact (exm_tupL (fun b o e => k b o (I.kIn b o e)) (LT.keeps k) (Heap.get?_push_size _ rfl) hx).here (q _ k)
end
section
variable {X : Cx} {n : Str} {i : Nat} {body : List Stmt} {h0 : ExceptHandler} {hds : List ExceptHandler} {l : List Cl} {pos : Pos} {tb : WX → TS} {Wo : WX}
theorem ps_try_tup (hs : X.stack = X.env :: X.outer) (hf : X.env.frame = some X.env.locals) (hN : X.N.Nodup) (hi : X.N[i]? = some n) (hln : X.env.kindOf n = some .local) (tk : Takes X Wo)
    (hb : ∀ (W : WX) (pn : List (Addr × Obj)) (xe : Value → Shared → Prop), Takes (X.tr pn xe) W → PassesOwn (model X.prog X.w) X.A X.env xe → PSs (X.tr pn xe) body (tb W)) (hh : HdsT X n (h0 :: hds) l) :
    PS X (.Try body (h0 :: hds) [] [] pos) (fun D σ H => tb (wManyT X.K Wo D i l) D σ H) := ⟨fun pins s σ H D I h => by
  have ok := I.ok
  have hfr : X.A.frames = some (X.env :: X.outer) := ok.frames.trans (by rw [hs])
  refine wpAny_Try_except (wpAny_mono ((hb (wManyT X.K Wo D i l) (X.pn ++ pins) (fun e s₁ => wpAny (model X.prog X.w) X.A (noteFrame e X.env) (fun _ s₂ => wpAny (model X.prog X.w) X.A (setFlight e none) (fun _ s₃ => wpAny (model X.prog X.w) X.A (handleBy e X.env (h0 :: hds)) (SP X pins D) X.xe s₃) X.xe s₂) X.xe s₁) (fun u s' xx => ?_) PassesOwn.looking).run [] s σ H D (I.toTry _) h) (fun f s1 hsp => ?_) (fun e s1 he => he))
  · obtain ⟨a, B, sI, pins', σ', H', cls, d, rfl, J', nb, up, sky, na, os, ag, w⟩ := xx
    have J : L2.Inv X pins σ' H' sI := J'.ofTry ok
    have go : ∀ {hd2 : List ExceptHandler} {l2 : List Cl}, HdsT X n hd2 l2 → wManyT X.K Wo D i l2 cls d σ' H' → ∀ h3, HandSPX.FlyingZ B (X.env :: X.outer) a (Zc cls d) h3 → sI.heap.UpToSlots h3 →
        wpAny (model X.prog X.w) X.A (handleBy (.ref a) X.env hd2) (SP X pins D) X.xe { s' with heap := h3 } := by
      intro hd2 l2 hk
      induction hk with
      | nil =>
        intro w h3 fl up3
        obtain ⟨k1, k2, k3, oe, vs, T, oT, ts', he, hz, hd, h1, hr⟩ := id fl
        refine wpAny_handleBy_nil (by
          unfold PySem.passOn
          refine wpAny_bind (wpAny_field he hd h1 ?_)
          rw [if_neg (show ¬ ((Value.ref T == Value.none) = true) by simp)]
          have fin : wpAny (model X.prog X.w) X.A (setFlight (.ref a) X.env.frame) (fun _ s4 => wpAny (model X.prog X.w) X.A (throw (.ref a) : Sem Flow) (SP X pins D) X.xe s4) X.xe { s' with heap := h3 } := by
            rw [hf]; exact HandSPX.setFlight_upZ fl fun h4 hh4 up4 => wpAny_throw (tk _ _ ⟨a, B, sI, pins, σ', H', cls, d, rfl, J, nb, up3.trans up4, .inr (.inr (by rw [hs]; exact hh4)), na, os, ag, w⟩)
          first | exact wpAny_bind (wpAny_pure (wpAny_bind fin)) | exact wpAny_bind fin)
      | @cons t cs ts b₀ suite pos' hd3 l3 hc hsu r ih =>
        intro w h3 fl up3
        obtain ⟨b, hb1, hyes, hno⟩ := w
        obtain ⟨oe3, vs3, he3, hz3, hd3'⟩ := fl.there
        have nfr : a ∉ frs (X.env :: X.outer) := fun hm => by obtain ⟨_, o', e', hnf⟩ := fl.2.2.1.mem hm; rw [he3] at e'; cases e'; exact hnf _ hd3'
        have nL : a ≠ X.env.locals := fun z => nfr (List.mem_filterMap.mpr ⟨X.env, List.mem_cons_self, hf.trans (by rw [z])⟩)
        have nF : a ∉ X.fs := fun hm => by obtain ⟨e, he, q⟩ := List.mem_filterMap.mp hm; exact nfr (List.mem_filterMap.mpr ⟨e, List.mem_cons_of_mem _ he, q⟩)
        have S3 := (show L2.Inv X pins σ' H' { s' with heap := h3 } from J.landed nb fl.1 up3 os ag).suite he3 hd3' na nL nF
        have LT : Looks (model X.prog X.w) h3 (typeOf (.ref a)) cls := fun A Q E s k q => wpAny_typeOf_ref (k _ _ he3) (by rw [hz3.1]; exact q)
        refine wpAny_handleBy_cons (codeAny_handlers_test (test_run (Y := X.suite a ((a, oe3) :: (X.pn ++ pins))) (show TestOk _ t cs from by
          cases hc with
          | one x1 x2 x3 => exact .one x1 x2 x3
          | tup x1 x2 => exact .tup x1 x2) S3 LT hb1 fun h' kx => ?_)) (by intro q; cases q)
        have fl2 := flying_ext kx fl
        have up2 : sI.heap.UpToSlots h' := up3.trans (Heap.UpToSlots.of_keeps kx)
        cases b with
        | true =>
          refine codeAny_handlers_suite_as (HandSPX.lands_againZ fl2 fun h4 fl4 up4 => ?_)
          obtain ⟨oe4, vs4, he4, hz4, hd4⟩ := fl4.there
          have S4 := (show L2.Inv X pins σ' H' { s' with heap := h4 } from J.landed nb fl4.1 (up2.trans up4) os ag).suite he4 hd4 na nL nF
          refine store_ok (X := X.suite a ((a, oe4) :: (X.pn ++ pins))) (v := .ref a) S4 hN hi (.inl hln) rfl (fun s5 S5 => wpAny_mono ((hsu a oe4 cls d (X.pn ++ pins) hz4 ⟨_, hd4⟩).run [] s5 _ H' _ S5 (hyes rfl a na)) (fun f s6 hsp => ?_) (fun _ _ z => False.elim z)) (.inr hln)
          have fin6 : ∀ {σ6 : L2.St} {H6 : Hp} {Q : Shared → Prop}, L2.Inv (X.suite a ((a, oe4) :: (X.pn ++ pins))) [] σ6 H6 s6 → (∀ s7, L2.Inv X pins (σ6.set i none) H6 s7 → Q s7) → wpAny (model X.prog X.w) X.A (do bindName X.env n .none; unbindBehindTheSuite X.env n pos') (fun _ s7 => Q s7) X.xe s6 := fun {σ6 H6 Q} S6 hq => gone_ok (S6.unsuite ok) hN hi hln hq
          cases f with
          | next => obtain ⟨σ6, H6, S6, q6⟩ := hsp; exact fin6 S6 fun s7 J7 => ⟨_, _, J7, q6⟩
          | brk => obtain ⟨σ6, H6, S6, q6⟩ := hsp; exact fin6 S6 fun s7 J7 => ⟨_, _, J7, q6⟩
          | cont => obtain ⟨σ6, H6, S6, q6⟩ := hsp; exact fin6 S6 fun s7 J7 => ⟨_, _, J7, q6⟩
          | ret u => obtain ⟨v6, σ6, H6, S6, r6, q6⟩ := hsp; exact fin6 S6 fun s7 J7 => ⟨_, _, _, J7, r6, q6⟩
        | false => exact ih (hno rfl) h' fl2 up2
    show wpAny (model X.prog X.w) X.A (noteFrame (.ref a) X.env) _ _ _
    exact Sky.land Zc.steady hfr hf (show Sky B (X.env :: X.outer) a (Zc cls d) X.env.locals s'.heap by rw [← hs]; exact sky) fun h3 fl3 up3 => go hh w h3 fl3 (up.trans up3)
  · cases f with
    | next => obtain ⟨σ', H', J', q⟩ := hsp; exact wpAny_execs_nil ⟨σ', H', J'.ofTry ok, q⟩
    | brk => obtain ⟨σ', H', J', q⟩ := hsp; exact ⟨σ', H', J'.ofTry ok, q⟩
    | cont => obtain ⟨σ', H', J', q⟩ := hsp; exact ⟨σ', H', J'.ofTry ok, q⟩
    | ret u => obtain ⟨v, σ', H', J', r, q⟩ := hsp; exact ⟨v, σ', H', J'.ofTry ok, r, q⟩⟩
end
end DL
namespace DL
open PySem PySem.Spec PyProof.Rows L2 RZ
/-! ### except .. as n: return (n.f, ..) -/
abbrev Fd := Str × Pos × Pos
def tFl (K : PySem.W.Frag) (a : Addr) (cls : Value) (d : Option Addr) (i : Nat) (fl : List Fd) : TA := fun σ H Q => σ[i]? = some (some (.ref a)) ∧ ∃ (C dd : Addr) (fs : List (Str × V)) (vs : List V), cls = .ref C ∧ XfC K C ∧ (∀ f ∈ fl, PySem.W.findIn K (.ref C) f.1 = some none) ∧ d = some dd ∧ H dd = some (.xd fs) ∧ fl.map (fun f => fs.lookup f.1) = vs.map some ∧ Q vs H
section
variable {X : Cx} {n : Str} {i : Nat} {a : Addr} {oe : Obj} {cls : Value} {d : Option Addr} {pn : List (Addr × Obj)}
theorem pa_flds (hN : X.N[i]? = some n) (hv : Vis X.env.scope n) (hd : (n == ("__debug__" : Str)) = false) (hcd : (n == ("__classdict__" : Str)) = false) (hz : Zc cls d oe) (hf : ∃ vs, oe.data = .fields vs) : ∀ fl : List Fd, PA (X.suite a ((a, oe) :: pn)) (fl.map fun f => .Attribute (.Name n f.2.1) f.1 f.2.2) (tFl X.K a cls d i fl)
  | [] => ⟨fun pos pins s σ H Q I h => by
    obtain ⟨h0, C, dd, fs, vs, e1, T, hno, e2, e3, e4, q⟩ := h
    cases vs with
    | nil => exact pa_nil.run pos pins s σ H Q I q
    | cons v vs => cases e4⟩
  | f :: fl => ⟨fun pos pins s σ H Q I h => by
    obtain ⟨h0, C, dd, fs, vs, e1, T, hno, e2, e3, e4, q⟩ := h
    cases vs with
    | nil => cases e4
    | cons v vs =>
      rw [List.map_cons, List.map_cons] at e4
      obtain ⟨e5, e6⟩ := List.cons.inj e4
      refine (pa_cons (pe_xf T (hno f (by simp)) hz hf (pe_var (X := X.suite a ((a, oe) :: pn)) hN hv hd hcd)) (pa_flds hN hv hd hcd hz hf fl)).run pos pins s σ H Q I ?_
      exact ⟨_, h0, rfl, e1, dd, fs, v, e2, e3, e5, h0, C, dd, fs, vs, e1, T, fun g hg => hno g (by simp [hg]), e2, e3, e6, q⟩⟩
end
/-! ### the statement as data -/
structure Cs where
  t : Expr
  ns : List Str
  fl : List Fd
  j : Nat
  p1 : Pos
  p2 : Pos
  p3 : Pos
def Cs.hd (n : Str) (c : Cs) : ExceptHandler := .ExceptHandler (some c.t) (some n) [.Return (some (.Tuple (c.fl.map fun f => .Attribute (.Name n f.2.1) f.1 f.2.2) c.j c.p1)) c.p2] c.p3
def lookAll (fs : List (Str × Dt)) : List Str → Option (List Dt)
  | [] => some []
  | f :: r => match fs.lookup f, lookAll fs r with
    | some d, some ds => some (d :: ds)
    | _, _ => none
def tryGo (anc : List Str) (c : Str) (fs : List (Str × Dt)) : List (List Str × List Str) → FS
  | [] => fun ρ => some (.ex c fs, ρ)
  | (ns, fl) :: r => if ns.any anc.contains = true then (fun ρ => match lookAll fs fl with
      | some ds => if ds.length ≤ 1000 then some (.rt (.sh (.tup ds)), ρ) else none
      | none => none) else tryGo anc c fs r
theorem tryGo_cons (anc : List Str) (c : Str) (fs : List (Str × Dt)) (ns fl : List Str) (r : List (List Str × List Str)) : tryGo anc c fs ((ns, fl) :: r) = if ns.any anc.contains = true then (fun ρ => match lookAll fs fl with
      | some ds => if ds.length ≤ 1000 then some (.rt (.sh (.tup ds)), ρ) else none
      | none => none) else tryGo anc c fs r := rfl
def sTryF (i : Nat) (tab : List (Str × List Str)) (cl : List (List Str × List Str)) (fb : FS) : FS := fun ρ => match fb ρ with
  | some (.ex c fs, ρ1) => (match tab.lookup c with
    | some anc => if i < ρ1.length then tryGo anc c fs cl ρ1 else none
    | none => none)
  | r => r
inductive All2 (mg : Str → Option Value) : List Str → List Value → Prop
  | nil : All2 mg [] []
  | cons {x : Str} {c : Value} {xs : List Str} {cs : List Value} : mg x = some c → All2 mg xs cs → All2 mg (x :: xs) (c :: cs)
/-- what the written part says of the classes of a try -/
structure TryAt (K : PySem.W.Frag) (mg : Str → Option Value) (tab : List (Str × List Str)) (cl : List (List Str × List Str)) : Prop where
  mgc : ∀ e ∈ cl, ∀ x ∈ e.1, ∃ c, mg x = some c
  sub : ∀ c anc, tab.lookup c = some anc → ∀ C, PySem.W.nsIn K mainGlobals c = some (some (.ref C)) → XfC K C ∧ ∀ e ∈ cl, (e.1.any anc.contains = true → ∀ f ∈ e.2, PySem.W.findIn K (.ref C) f = some none) ∧ ∀ cs, All2 mg e.1 cs → PySem.W.exmAny K (.ref C) cs = some (e.1.any anc.contains)
inductive TestN (X : Cx) : Expr → List Str → Prop
  | one {x : Str} {np : Pos} : Gl X x → (x == ("__debug__" : Str)) = false → TestN X (.Name x np) [x]
  | tup {l : List (Str × Pos)} {j : Nat} {np : Pos} : l.length ≤ 1000 → (∀ e ∈ l, Gl X e.1 ∧ (e.1 == ("__debug__" : Str)) = false) → TestN X (.Tuple (l.map fun e => .Name e.1 e.2) j np) (l.map (·.1))
theorem pick_l {X : Cx} : ∀ (l : List (Str × Pos)), (∀ e ∈ l, Gl X e.1 ∧ (e.1 == ("__debug__" : Str)) = false) → (∀ x ∈ l.map (·.1), ∃ c, X.mg x = some c) → ∃ m : List (Str × Pos × Value), m.length = l.length ∧ (m.map fun e => Expr.Name e.1 e.2.1) = (l.map fun e => Expr.Name e.1 e.2) ∧ (∀ e ∈ m, Gl X e.1 ∧ X.mg e.1 = some e.2.2 ∧ (e.1 == ("__debug__" : Str)) = false) ∧ All2 X.mg (l.map (·.1)) (m.map (·.2.2))
  | [], _, _ => ⟨[], rfl, rfl, fun e he => (by cases he), .nil⟩
  | e :: l, h1, h2 => by
    obtain ⟨m, a1, a2, a3, a4⟩ := pick_l l (fun d hd => h1 d (by simp [hd])) fun x hx => h2 x (by simp only [List.map_cons, List.mem_cons]; exact .inr hx)
    obtain ⟨c, hc⟩ := h2 e.1 (by simp)
    refine ⟨(e.1, e.2, c) :: m, by simp [a1], by rw [List.map_cons, List.map_cons, a2], fun d hd => ?_, .cons hc a4⟩
    rcases List.mem_cons.mp hd with rfl | hd
    · exact ⟨(h1 e (by simp)).1, hc, (h1 e (by simp)).2⟩
    · exact a3 d hd
theorem TestN.ok {X : Cx} {t : Expr} {ns : List Str} (T : TestN X t ns) (h : ∀ x ∈ ns, ∃ c, X.mg x = some c) : ∃ cs, TestOk X t cs ∧ All2 X.mg ns cs := by
  cases T with
  | one h1 h2 =>
    obtain ⟨c, hc⟩ := h _ List.mem_cons_self
    exact ⟨[c], .one h1 hc h2, .cons hc .nil⟩
  | tup hl h1 =>
    obtain ⟨m, a1, a2, a3, a4⟩ := pick_l _ h1 h
    refine ⟨m.map (·.2.2), ?_, a4⟩
    rw [← a2]
    exact .tup (by rw [a1]; exact hl) a3
theorem look_all {K : PySem.W.Frag} {F : Hp} {fs : List (Str × Dt)} {gs : List (Str × V)} (h1 : gs.map (·.1) = fs.map (·.1)) (h2 : Rps K F (fs.map (·.2)) (gs.map (·.2))) {f : Str} {d : Dt} (e : fs.lookup f = some d) : ∃ v, gs.lookup f = some v ∧ Rp K F d v := by
  induction fs generalizing gs with
  | nil => cases e
  | cons x fs ih =>
    cases gs with
    | nil => cases h1
    | cons y gs =>
      rw [List.map_cons, List.map_cons] at h1 h2
      obtain ⟨k1, k2⟩ := List.cons.inj h1
      obtain ⟨x1, x2⟩ := x
      obtain ⟨y1, y2⟩ := y
      cases h2 with
      | cons r1 r2 =>
        dsimp only at k1 r1
        subst k1
        unfold List.lookup at e ⊢
        cases hb : f == y1 with
        | true => rw [hb] at e; cases e; exact ⟨y2, rfl, r1⟩
        | false => rw [hb] at e; exact ih k2 r2 e
theorem looks_all {K : PySem.W.Frag} {F : Hp} {fs : List (Str × Dt)} {gs : List (Str × V)} (h1 : gs.map (·.1) = fs.map (·.1)) (h2 : Rps K F (fs.map (·.2)) (gs.map (·.2))) : ∀ {fl : List Str} {ds : List Dt}, lookAll fs fl = some ds → ∃ vs, fl.map (gs.lookup ·) = vs.map some ∧ Rps K F ds vs
  | [], ds, e => by cases e; exact ⟨[], rfl, .nil⟩
  | f :: fl, ds, e => by
    unfold lookAll at e
    split at e
    · rename_i d ds e1 e2
      cases e
      obtain ⟨v, a1, a2⟩ := look_all h1 h2 e1
      obtain ⟨vs, b1, b2⟩ := looks_all h1 h2 e2
      exact ⟨v :: vs, by rw [List.map_cons, List.map_cons, a1, b1], .cons a2 b2⟩
    · cases e
section
variable {X : Cx} {P : Pt} {Wx : WX} {n : Str} {i : Nat} {body : List Stmt} {pos : Pos} {fb : FS}
/-- what a clause's suite asks -/
def tsOf (K : PySem.W.Frag) (i : Nat) (c : Cs) : Addr → Value → Option Addr → TS := fun a cls d D σ H => tTup (tFl K a cls d i c.fl) σ H D.rt
theorem hds_of (hN : X.N[i]? = some n) (hv : Vis X.env.scope n) (hd : (n == ("__debug__" : Str)) = false) (hcd : (n == ("__classdict__" : Str)) = false) : ∀ (cl : List Cs), (∀ c ∈ cl, TestN X c.t c.ns ∧ ∀ x ∈ c.ns, ∃ v, X.mg x = some v) →
    ∃ l : List Cl, HdsT X n (cl.map (Cs.hd n)) l ∧ l.length = cl.length ∧ ∀ e ∈ cl.zip l, All2 X.mg e.1.ns e.2.1 ∧ e.2.2 = tsOf X.K i e.1
  | [], _ => ⟨[], .nil, rfl, fun e he => (by cases he)⟩
  | c :: cl, h => by
    obtain ⟨l, h1, h2, h3⟩ := hds_of hN hv hd hcd cl fun d hd => h d (by simp [hd])
    obtain ⟨t1, t2⟩ := h c (by simp)
    obtain ⟨cs, k1, k2⟩ := t1.ok t2
    refine ⟨(cs, tsOf X.K i c) :: l, .cons k1 (fun a oe cls d pn hz hf => ?_) h1, by simp [h2], fun e he => ?_⟩
    · refine ⟨fun pins s σ H D I q => ?_⟩
      exact (pss_cons (ps_ret (pe_tup (pa_flds hN hv hd hcd hz hf c.fl))) pss_nil).run pins s σ H D I q
    · rw [List.zip_cons_cons] at he
      rcases List.mem_cons.mp he with rfl | he
      · exact ⟨k2, rfl⟩
      · exact h3 e he
theorem many_of {K : PySem.W.Frag} {mg : Str → Option Value} {D : Ends} {F F' : Hp} {H' : Hp} {σ : L2.St} {ρ1 : Rho} {cls : Value} {dd : Option Addr} {c : Str} {fs : List (Str × Dt)} {anc : List Str} {C : Addr} (hF : Same F F') (r : Rel K P F' H' σ ρ1) (hi : i ∉ P.bs) (hl : i < σ.length)
    (eC : cls = .ref C) (hC : PySem.W.nsIn K mainGlobals c = some (some (.ref C))) {a : Addr} {gs : List (Str × V)} (ed : dd = some a) (ea : F' a = some (.xd gs)) (g1 : gs.map (·.1) = fs.map (·.1)) (g2 : Rps K F' (fs.map (·.2)) (gs.map (·.2))) (T : XfC K C) :
    ∀ (cl : List Cs) (l : List Cl), l.length = cl.length → (∀ e ∈ cl.zip l, All2 mg e.1.ns e.2.1 ∧ e.2.2 = tsOf K i e.1) →
      (∀ e ∈ cl, (e.ns.any anc.contains = true → ∀ f ∈ e.fl.map (·.1), PySem.W.findIn K (.ref C) f = some none) ∧ ∀ cs, All2 mg e.ns cs → PySem.W.exmAny K (.ref C) cs = some (e.ns.any anc.contains)) →
      postS K P Wx F D (tryGo anc c fs (cl.map fun c => (c.ns, c.fl.map (·.1))) ρ1) → wManyT K Wx D i l cls dd σ H'
  | [], [], _, _, _, q => q F' H' σ cls dd hF r ⟨⟨C, eC, hC⟩, a, gs, ed, ea, g1, g2⟩
  | [], _ :: _, e, _, _, _ => by cases e
  | _ :: _, [], e, _, _, _ => by cases e
  | e :: cl, (cs, ts) :: l, hln, hz, hs, q => by
    obtain ⟨z1, z2⟩ := hz (e, (cs, ts)) (by simp)
    obtain ⟨s1, s2⟩ := hs e (by simp)
    dsimp only at z1 z2
    subst z2 eC
    refine ⟨_, s2 cs z1, fun hb x nx => ?_, fun hb => ?_⟩
    · rw [List.map_cons, tryGo_cons, if_pos hb] at q
      split at q
      · rename_i ds e1
        split at q
        · rename_i hle
          obtain ⟨vs, b1, b2⟩ := looks_all g1 g2 e1
          refine ⟨?_, C, a, gs, vs, rfl, T, fun f hf => s1 hb f.1 (List.mem_map_of_mem hf), ed, r.fh _ _ ea, ?_, by rw [← b2.length]; exact sz1000 (Nat.le_trans hle (by decide)), fun p np => ?_⟩
          · rw [List.getElem?_set_self hl]
          · rw [← b1, List.map_map]; rfl
          · have g := Grow.lay (o := .tup vs) r.fh np
            exact q _ _ σ (.ref p) (hF.trans g.f) (r.grow g) (.tup (.inl (.inl upd_same)) (b2.mono g.f))
        · exact q.elim
      · exact q.elim
    · rw [List.map_cons, tryGo_cons, if_neg (by rw [hb]; decide)] at q
      exact many_of hF r hi hl rfl hC ed ea g1 g2 T cl l (by simpa using hln) (fun x hx => hz x (by rw [List.zip_cons_cons]; exact List.mem_cons_of_mem _ hx)) (fun x hx => hs x (by simp [hx])) q
theorem s_tryF {tab : List (Str × List Str)} {cl : List Cs} {h0 : ExceptHandler} {hds : List ExceptHandler} (A : TryAt X.K X.mg tab (cl.map fun c => (c.ns, c.fl.map (·.1)))) (hT : ∀ c ∈ cl, TestN X c.t c.ns) (he : h0 :: hds = cl.map (Cs.hd n)) (hs : X.stack = X.env :: X.outer) (hf : X.env.frame = some X.env.locals) (hN : X.N.Nodup) (hi : X.N[i]? = some n) (hib : i ∉ P.bs)
    (hln : X.env.kindOf n = some .local) (hv : Vis X.env.scope n) (tk : Takes X Wx) (hb : ∀ (W : WX) (pn : List (Addr × Obj)) (xe : Value → Shared → Prop), Takes (X.tr pn xe) W → PassesOwn (model X.prog X.w) X.A X.env xe → PSs (X.tr pn xe) body (LS X.K P W fb))
    (hd : (n == ("__debug__" : Str)) = false := by decide) (hcd : (n == ("__classdict__" : Str)) = false := by decide) : PS X (.Try body (h0 :: hds) [] [] pos) (LS X.K P Wx (sTryF i tab (cl.map fun c => (c.ns, c.fl.map (·.1))) fb)) := by
  obtain ⟨l, h1, h2, h3⟩ := hds_of (X := X) hi hv hd hcd cl fun c hc => ⟨hT c hc, fun x hx => A.mgc (c.ns, c.fl.map (·.1)) (List.mem_map.mpr ⟨c, hc, rfl⟩) x hx⟩
  rw [← he] at h1
  refine PSm (ps_try_tup hs hf hN hi hln tk hb h1) fun D σ H h => ?_
  obtain ⟨F, ρ, r, q⟩ := h
  refine ⟨F, ρ, r, ?_⟩
  unfold sTryF at q
  match e : fb ρ with
  | none => rw [e] at q; exact q.elim
  | some (.nx, ρ1) => rw [e] at q; exact q
  | some (.bk, ρ1) => rw [e] at q; exact q
  | some (.ct, ρ1) => rw [e] at q; exact q
  | some (.rt w, ρ1) => rw [e] at q; exact q
  | some (.ex c fs, ρ1) =>
    rw [e] at q
    dsimp only at q
    cases et : tab.lookup c with
    | none => rw [et] at q; exact q.elim
    | some anc =>
      rw [et] at q
      dsimp only at q
      split at q
      rotate_left
      · exact q.elim
      rename_i hil
      intro F' H' σ' cls dd s1 r1 xp
      obtain ⟨⟨C, eC, hC⟩, a, gs, ed, ea, g1, g2⟩ := xp
      obtain ⟨T, hsub⟩ := A.sub c anc et C hC
      refine many_of s1 r1 hib (by rw [← r1.len]; exact hil) eC hC ed ea g1 g2 T cl l h2 h3 (fun x hx => ?_) q
      exact hsub (x.ns, x.fl.map (·.1)) (List.mem_map.mpr ⟨x, hx, rfl⟩)
end
end DL
namespace DL
open PySem PySem.Spec PyProof.Rows L2 RZ
/-! ### a lambda is made: all but the one table stays -/
def ButT (P : Addr) (H H' : Hp) : Prop := ∀ b o, b ≠ P → H b = some o → H' b = some o
def nmL (X : Cx) : Str := X.env.qual ++ "<lambda>"
section
variable {X : Cx} {pins : List (Addr × Obj)} {σ : L2.St} {H : Hp} {s : Shared}
theorem tab_snoc {P c : Addr} {q : Str} {ps : Array Value} {pos : Pos} (hP : H P = some (.tbl ps)) (tr : TriplesOk ps.toList) (al : ∀ (p : Pos) (cv : Value), codeAmong p ps.toList = some cv → ∃ c, cv = .ref c ∧ H c = some (LamX.CodeO c q)) (nC : H c = none) :
    LamX.TabS (upd (upd H P (.tbl (ps ++ #[rawInt pos.line, rawInt pos.col, .ref c]))) c (LamX.CodeO c q)) P q := by
  have eq : (ps ++ #[rawInt pos.line, rawInt pos.col, .ref c]).toList = ps.toList ++ [rawInt pos.line, rawInt pos.col, .ref c] := by simp
  refine ⟨ps ++ #[rawInt pos.line, rawInt pos.col, .ref c], (upd_ne (ne_of_none hP nC)).trans upd_same, eq ▸ PySem.TriplesOk_snoc _ _ _ _ tr, fun p cv h => ?_⟩
  rcases LamX.among_app _ tr (eq ▸ h) with z | z
  · obtain ⟨d, e1, e2⟩ := al p cv z
    have nd : d ≠ P := fun z => by rw [z, hP] at e2; exact LamX.codeO_ne ps (Option.some.inj e2).symm
    exact ⟨d, e1, (upd_ne (ne_of_none e2 nC)).trans ((upd_ne nd).trans e2)⟩
  · exact ⟨c, z, upd_same⟩
theorem tab_far {P R c : Addr} {q q' : Str} {u : HO} {v : HO} (t : LamX.TabS H R q) (ne : R ≠ P) (hP : ∃ ps, H P = some (.tbl ps)) (nC : H c = none) : LamX.TabS (upd (upd H P u) c v) R q := by
  obtain ⟨ps, a1, a2, a3⟩ := t
  obtain ⟨qs, hP⟩ := hP
  refine ⟨ps, (upd_ne (ne_of_none a1 nC)).trans ((upd_ne ne).trans a1), a2, fun p cv h => ?_⟩
  obtain ⟨d, e1, e2⟩ := a3 p cv h
  have nd : d ≠ P := fun z => by rw [z, hP] at e2; exact LamX.codeO_ne qs (Option.some.inj e2).symm
  exact ⟨d, e1, (upd_ne (ne_of_none e2 nC)).trans ((upd_ne nd).trans e2)⟩
theorem lam3 {T : List (Addr × Str)} {c P : Addr} {args : Arguments} {bd : Expr} {sc : Scope} {pos : Pos} {E Q : Value → Shared → Prop} (I : Inv X pins σ H s) (TB : LamX.TabB X.base X.mg c P) (cd : X.env.code = .ref c) (mem : (P, nmL X) ∈ T) (one : ∀ p ∈ T, p.1 = P → p.2 = nmL X) (tb : LamX.Tabs T H)
    (df : defaultsOf args X.env = ([], [])) (fr : ∀ y ∈ sc.names, y.2 = .free → ∃ c, X.env.cells.lookup y.1 = some c)
    (q : ∀ (f d : Addr) (pm ct : Value) (H1 : Hp) (s1 : Shared), Inv X pins σ H1 s1 → ButT P H H1 → LamX.Tabs T H1 → s1.heap.get? f = some (PySem.W.kla_obj "<lambda>" (nmL X) args bd sc (cloFrom X.env.cells sc.names []) pm d ct) → H1 f = none → f ∉ frs X.stack → H1 d = some (LamX.CodeO d (nmL X)) → Q (.ref f) s1) :
    wpAny (model X.prog X.w) X.A (eval (.Lambda args bd sc pos) X.env) Q E s := by
  obtain ⟨ps, hP, tr, al⟩ := tb _ mem
  have oP : s.heap.get? P = some { cls := .none, data := .fields ps } := I.hok P _ hP
  have far : ∀ f, s.heap.objs.size ≤ f → f ∉ frs X.stack := fun f hf z => (List.mem_cons.mp (I.stkSub _ z)).elim (fun e => Nat.lt_irrefl f (Nat.lt_of_lt_of_le (e ▸ I.lt) hf)) (I.nofs hf)
  refine PySem.W.kla_eval df ?_
  match hc : codeAmong pos ps.toList with
  | none =>
    refine PySem.W.kla_makeFunction (mg := X.mg) (c := c) (P := P) (ps := ps) (closure_ok fr) I.ok.glob (I.mod.glob.keeps I.bk) cd (TB.code.keeps I.bk) oP tr hc TB.gP (TB.bm.keeps I.bk) ?_
    intro d ct h' tk kp ge lt rc ht
    obtain ⟨_, oc, vs, t, ed, o1, o2, o3⟩ := rc
    cases ed
    have sz := Nat.le_trans ge (Nat.le_of_lt lt)
    have nC : H d = none := I.hok.fresh ge
    refine q h'.objs.size d ((X.mg "__name__").getD .none) ct _ _ (LamX.inv_table (t' := tk) (more := #[rawInt pos.line, rawInt pos.col, .ref d]) (h' := h'.push (PySem.W.kla_obj "<lambda>" (nmL X) args bd sc (cloFrom X.env.cells sc.names []) ((X.mg "__name__").getD .none) d ct)) I hP (fun b o hb e => Heap.get?_push_of_some _ (kp b o hb e)) (Heap.get?_push_of_some _ ht) ge ⟨oc, vs, t, Heap.get?_push_of_some _ o1, o2, o3⟩)
      (fun b o ne e => (upd_ne (ne_of_none e nC)).trans ((upd_ne ne).trans e)) (fun p hp => ?_) (Heap.get?_push_size _ rfl) ?_ (far _ sz) upd_same
    · by_cases ep : p.1 = P
      · rw [one p hp ep, ep]; exact tab_snoc hP tr al nC
      · exact tab_far (q' := nmL X) (tb p hp) ep ⟨ps, hP⟩ nC
    · exact (upd_ne (Nat.ne_of_gt lt)).trans ((upd_ne (Nat.ne_of_gt (Nat.lt_of_lt_of_le (Heap.lt_size oP) sz))).trans (I.hok.fresh sz))
  | some cv =>
    obtain ⟨d, rfl, co⟩ := al pos cv hc
    refine PySem.W.kla_makeFunctionHit (mg := X.mg) (c := c) (P := P) (ps := ps) (closure_ok fr) I.ok.glob (I.mod.glob.keeps I.bk) cd (TB.code.keeps I.bk) oP tr hc (TB.bm.keeps I.bk) ?_
    intro ct h' tk kp sz
    exact q h'.objs.size d ((X.mg "__name__").getD .none) ct H _ (I.kept (t' := tk) (h' := h'.push (PySem.W.kla_obj "<lambda>" (nmL X) args bd sc (cloFrom X.env.cells sc.names []) ((X.mg "__name__").getD .none) d ct)) fun b o e => Heap.get?_push_of_some _ (kp b o e)) (fun _ _ _ e => e) tb (Heap.get?_push_size _ rfl) (I.hok.fresh sz) (far _ sz) co
end
/-! ### x(lambda: body) -/
def tLam3 (P : Addr) (T : List (Addr × Str)) (TT : (XK → Hp → VK → Prop) → Hp → VK → Prop) (t : XK → TE) : TE := fun σ H Q => LamX.Tabs T H ∧ ∀ H1, ButT P H H1 → LamX.Tabs T H1 → TT (fun E H' Q' => t E σ H' Q') H1 Q
section
variable {X : Cx}
theorem pe_lam3 {T : List (Addr × Str)} {TT : (XK → Hp → VK → Prop) → Hp → VK → Prop} {x a : Str} {g c P : Addr} {k : Nat} {pg : Arguments} {bg : List Stmt} {sg : Scope} {dV kV doc pm cdv ct oc : Value} {an od : Option Addr} {osl : Array (Option Value)} {Ng : List Str} {args : Arguments} {bd : Expr} {sc : Scope} {t : XK → TE} {p lp pos : Pos}
    (gl : Gl X x) (gm : X.mg x = some (.ref g)) (gk : PySem.W.keepIn X.K (.ref g) = true) (lk : X.K.lookup g = some ⟨oc, od, .func (PySem.W.fnOf x x pg bg sg dV kV doc pm an cdv ct), osl⟩) (ci : PySem.W.codeIn X.K cdv x = true) (gb : L2.Binds X.K (PySem.W.fnOf x x pg bg sg dV kV doc pm an cdv ct) [a] []) (Sg : FnScope Ng [a] sg) (h0 : Ng[0]? = some a) (va : Vis sg a)
    (GT : LamX.GivesTo X Ng x sg g cdv bg a (nmL X) TT) (TB : LamX.TabB X.base X.mg c P) (cd : X.env.code = .ref c) (mem : (P, nmL X) ∈ T) (one : ∀ p ∈ T, p.1 = P → p.2 = nmL X) (rm : Room (k + 2) X.A) (L : LamX.LamS X.env.scope sc) (df : defaultsOf args X.env = ([], []))
    (bi : ∀ (q : Str) (cl : List (Str × Addr)) (pm cv ctv : Value), bindArgs (PySem.W.kla_fn "<lambda>" q args bd sc cl pm cv ctv) ⟨[], []⟩ = pure [])
    (hb : ∀ (A : Around) (outer : List Env) (s : Shared) (H : Hp) (E : XK) (f d : Addr), Room k (A.deeper (LamX.lamEnv X sc s.heap.objs.size f d)) → PE (LamX.lamCx X A outer s H E sc f d) bd (t E))
    (dx : (x == ("__debug__" : Str)) = false := by decide) (da : (a == ("__debug__" : Str)) = false := by decide) (dc : (a == ("__classdict__" : Str)) = false := by decide) : PE X (.Call (.Name x p) [.Lambda args bd sc lp] [] pos) (tLam3 P T TT t) := by
  refine ⟨fun pins s σ H Q I h => wpAny_Call_Name_kw (ld_glob I gl gm (PySem.W.callWith_K (h₀ := X.base) I.ok.mod.kin gk ?_ (by rfl) (by rfl)) dx)⟩
  show wpAny _ _ (spliced ((false, eval (.Lambda args bd sc lp) X.env) :: backTo pos (starEach [] X.env))) _ _ s
  refine Calls.spliced_cons (lam3 I TB cd mem one h.1 df (L.has I.ok) fun f d pm' ct' H1 s1 I1 bt T1 of nf ns hd => Calls.spliced_nil ⟨I1.kIn, ?_⟩)
  have run : codeAny (model X.prog X.w) X.A (.call (.ref g) ⟨[.ref f], []⟩) (CR C8.CX0 X.stack X.prog X.w H1 s1 Q C8.E0) s1 := LamX.run_ofS (N := Ng) (ps := [a]) (us := [.ref f]) (vs := [.ref f]) lk ci Sg rm I1.env0 (gb s1 [.ref f] I1.kIn rfl) (.cons rfl .nil) rfl fun rm' => by
    obtain ⟨t', k1, k2⟩ := GT f d s1 H1 Q (fun E H' Q' => t E σ H' Q') (fun W pn xe E p1 p2 tk hW => LamX.pe_act (i := 0) I1 L of nf ns (bi _ _ _ _ _) tk hW rm' (fun A outer s H r2 => hb A outer s H E f d r2) h0 va da dc) hd (h.2 H1 bt T1)
    exact ⟨t', k1.nox, k2⟩
  refine wpAny_call (codeAny_mono run fun r s2 z => ?_)
  match r, z with
  | .error e, z => exact (show False from z).elim
  | .ok (.ret u), z => exact I1.after z
  | .ok .next, z => exact False.elim z
  | .ok .brk, z => exact False.elim z
  | .ok .cont, z => exact False.elim z
end
/-! ### the def that asks: try: return ("told", ask()) / except .. as e: return (e.f, ..) -/
def tsO (K : PySem.W.Frag) (i n : Nat) (c : Cs) : Addr → Value → Option Addr → TS := fun a cls d D σ H => σ.length = n → tsOf K i c a cls d D σ H
def lOf (mg : Str → Option Value) (K : PySem.W.Frag) (i n : Nat) (cl : List Cs) : List Cl := cl.map fun c => (c.ns.map fun x => (mg x).getD .none, tsO K i n c)
theorem all2_eq {mg : Str → Option Value} : ∀ {xs : List Str} {cs : List Value}, All2 mg xs cs → cs = xs.map fun x => (mg x).getD .none
  | _, _, .nil => rfl
  | _, _, .cons h r => by rw [List.map_cons, ← all2_eq r, h]; rfl
theorem all2_mk {mg : Str → Option Value} : ∀ {xs : List Str}, (∀ x ∈ xs, ∃ v, mg x = some v) → All2 mg xs (xs.map fun x => (mg x).getD .none)
  | [], _ => .nil
  | x :: xs, h => by
    obtain ⟨v, e⟩ := h x (by simp)
    exact .cons (by dsimp only; rw [e]; rfl) (all2_mk fun y hy => h y (by simp [hy]))
section
variable {X : Cx} {n : Str} {i : Nat}
theorem hds_of2 (hN : X.N[i]? = some n) (hv : Vis X.env.scope n) (hd : (n == ("__debug__" : Str)) = false) (hcd : (n == ("__classdict__" : Str)) = false) : ∀ (cl : List Cs), (∀ c ∈ cl, TestN X c.t c.ns ∧ ∀ x ∈ c.ns, ∃ v, X.mg x = some v) →
    HdsT X n (cl.map (Cs.hd n)) (lOf X.mg X.K i X.N.length cl)
  | [], _ => .nil
  | c :: cl, h => by
    have h1 := hds_of2 hN hv hd hcd cl fun d hd => h d (by simp [hd])
    obtain ⟨t1, t2⟩ := h c (by simp)
    obtain ⟨cs, k1, k2⟩ := t1.ok t2
    rw [all2_eq k2] at k1
    refine .cons k1 (fun a oe cls d pn hz hf => ⟨fun pins s σ H D I q => ?_⟩) h1
    exact (pss_cons (ps_ret (pe_tup (pa_flds hN hv hd hcd hz hf c.fl))) pss_nil).run pins s σ H D I (q I.len)
end
theorem lOf_ok {mg : Str → Option Value} {K : PySem.W.Frag} {i n : Nat} : ∀ {cl : List Cs}, (∀ c ∈ cl, ∀ x ∈ c.ns, ∃ v, mg x = some v) → ∀ e ∈ cl.zip (lOf mg K i n cl), All2 mg e.1.ns e.2.1 ∧ e.2.2 = tsO K i n e.1
  | [], _ => fun e he => by cases he
  | c :: cl, h => fun e he => by
    unfold lOf at he
    rw [List.map_cons, List.zip_cons_cons] at he
    rcases List.mem_cons.mp he with rfl | he
    · exact ⟨all2_mk (h c (by simp)), rfl⟩
    · exact lOf_ok (fun d hd => h d (by simp [hd])) e he
def eGo (anc : List Str) (c : Str) (fs : List (Str × Dt)) (cl : List (List Str × List Str)) : FE := fun ρ => match tryGo anc c fs cl ρ with
  | some (.rt (.sh d), ρ1) => some (.ok d, ρ1)
  | _ => none
def eWhy (tab : List (Str × List Str)) (cl : List (List Str × List Str)) (fe : FE) : FE := fun ρ => match fe ρ with
  | none => none
  | some (.ok d, ρ1) => some (.ok (.tup [.str "told", d]), ρ1)
  | some (.ex c fs, ρ1) => (match tab.lookup c with
    | some anc => eGo anc c fs cl ρ1
    | none => none)
def TWhy (K : PySem.W.Frag) (i : Nat) (l : List Cl) : (XK → Hp → VK → Prop) → Hp → VK → Prop := fun tl H Q =>
  tl (fun cls d H' => ∀ σ' : L2.St, wManyT K (fun _ _ _ _ => False) { nx := fun _ H' => Q .non H', rt := Q } i l cls d σ' H') H (fun v H' => 2 ≤ sizeLine ∧ ∀ p, H' p = none → Q (.ref p) (upd H' p (.tup [.str "told", v])))
section
variable {X : Cx}
theorem why_gives {Ng : List Str} {x a n q : Str} {sg : Scope} {g : Addr} {cdg : Value} {i : Nat} {l : List Cl} {h0 : ExceptHandler} {hds : List ExceptHandler} {j j2 : Nat} {p0 p1 p2 p3 p4 p8 : Pos} (hf0 : ∀ f : Addr, (L2.start Ng [V.ref f])[0]? = some (some (V.ref f))) (nd : Ng.Nodup) (hi : Ng[i]? = some n)
    (kl : ∀ (s : Shared) (H : Hp), (cxOf C8.CX0 X.prog X.w X.K X.mg X.base Ng x sg g cdg X.A X.stack s H C8.E0).env.kindOf n = some .local) (hh : ∀ (s : Shared) (H : Hp), HdsT (cxOf C8.CX0 X.prog X.w X.K X.mg X.base Ng x sg g cdg X.A X.stack s H C8.E0).nox n (h0 :: hds) l) :
    LamX.GivesTo X Ng x sg g cdg [.Try [.Return (some (.Tuple [.Constant (.str "told") j p0, .Call (.Name a p1) [] [] p2] j2 p3)) p4] (h0 :: hds) [] [] p8] a q (TWhy X.K i l) := by
  intro f d s H Q tl act hc h
  refine ⟨_, pss_one (ps_try_tup (X := (cxOf C8.CX0 X.prog X.w X.K X.mg X.base Ng x sg g cdg X.A X.stack s H C8.E0).nox) (i := i) (n := n) (l := l)
      (tb := fun W D σ H => ∃ Ech : XK, (∀ cls d σ' H', Ech cls d H' → W cls d σ' H') ∧ σ[0]? = some (some (.ref f)) ∧ H d = some (LamX.CodeO d q) ∧ tl Ech H (fun v H' => 2 ≤ sizeLine ∧ ∀ p, H' p = none → D.rt (.ref p) (upd H' p (.tup [.str "told", v]))))
      rfl rfl nd hi (kl s H) LamX.takes0 (fun W pn xe tk _ => ?_) (hh s H)), ?_⟩
  · refine ⟨fun pins s' σ H' D I h' => ?_⟩
    obtain ⟨Ech, hW, h1, h2, h3⟩ := h'
    exact (pss_one (ps_ret (pos := p4) (pe_tup (pa_cons pe_str (pa_cons (act W pn xe Ech p1 p2 tk hW) pa_nil))))).run pins s' σ H' D I ⟨h1, h2, h3⟩
  · exact ⟨_, fun cls d σ' H' z => z σ', hf0 f, hc, h⟩
end
/-! ### the rule -/
theorem Rel.tabs {K : PySem.W.Frag} {P : Pt} {F H H1 : Hp} {σ : L2.St} {ρ : Rho} {Pa : Addr} {q : Str} (R : Rel K P F H σ ρ) (hT : P.T = [(Pa, q)]) (h0 : P.H0 Pa = none) (bt : ButT Pa H H1) (t1 : LamX.Tabs P.T H1) : Rel K P F H1 σ ρ := by
  have mem : (Pa, q) ∈ P.T := by rw [hT]; exact List.mem_cons_self
  have fP := (R.tb _ mem).1
  obtain ⟨ps, hP, _⟩ := (R.tb _ mem).2
  have key : ∀ {i : Nat} {u : Wt} {x : V}, ρ[i]? = some (some u) → σ[i]? = some (some x) → OkW K F H1 x u ∧ fpW H1 u x = fpW H u x := fun {i u x} a b => (R.at_ a b).ok.map (.refl _) (fun p m => ((R.at_ a b).ok.at_ m).1) fun p m => by
    obtain ⟨_, o, e, po⟩ := (R.at_ a b).ok.at_ m
    rw [e]
    exact bt p o (fun z => by subst z; rw [hP] at e; cases e; exact po) e
  refine ⟨fun b o e => bt b o (fun z => by subst z; rw [fP] at e; cases e) (R.fh b o e), R.f0, fun b o e => ?_, fun b o e nb => bt b o (fun z => by subst z; rw [h0] at e; cases e) (R.keep b o e nb), R.new, R.len, fun i w h => ?_, fun i j w u v x p h1 h2 h3 h4 m1 m2 => ?_, R.bor, fun t ht => ⟨(R.tb t ht).1, t1 t ht⟩⟩
  · obtain ⟨u, e'⟩ := R.th b o e
    exact ⟨u, bt b u (fun z => by subst z; rw [h0] at e; cases e) e'⟩
  · obtain ⟨v, ev, q⟩ := R.slot i w h
    obtain ⟨a, b⟩ := key h ev
    exact ⟨v, ev, .mk a (by rw [b]; exact q.h0)⟩
  · rw [(key h1 h3).2] at m1
    rw [(key h2 h4).2] at m2
    exact R.sep i j w u v x p h1 h2 h3 h4 m1 m2
theorem eGo_cons (anc : List Str) (c : Str) (fs : List (Str × Dt)) (ns fl : List Str) (r : List (List Str × List Str)) (ρ : Rho) : eGo anc c fs ((ns, fl) :: r) ρ = if ns.any anc.contains = true then (match lookAll fs fl with
      | some ds => if ds.length ≤ 1000 then some (.ok (.tup ds), ρ) else none
      | none => none) else eGo anc c fs r ρ := by
  unfold eGo
  rw [tryGo_cons]
  by_cases h : ns.any anc.contains = true
  · rw [if_pos h, if_pos h]
    cases lookAll fs fl with
    | none => rfl
    | some ds => by_cases hl : ds.length ≤ 1000 <;> simp only [hl, if_true, if_false]
  · rw [if_neg h, if_neg h]
theorem many_why {K : PySem.W.Frag} {P : Pt} {Wx : WX} {mg : Str → Option Value} {Q : VK} {F F' : Hp} {H' : Hp} {σ : L2.St} {ρ1 : Rho} {cls : Value} {dd : Option Addr} {c : Str} {fs : List (Str × Dt)} {anc : List Str} {C : Addr} {i n : Nat} (hF : Same F F') (r : Rel K P F' H' σ ρ1) (hl : i < n)
    (eC : cls = .ref C) (hC : PySem.W.nsIn K mainGlobals c = some (some (.ref C))) {a : Addr} {gs : List (Str × V)} (ed : dd = some a) (ea : F' a = some (.xd gs)) (g1 : gs.map (·.1) = fs.map (·.1)) (g2 : Rps K F' (fs.map (·.2)) (gs.map (·.2))) (T : XfC K C) (σ' : L2.St) :
    ∀ (cl : List Cs) (l : List Cl), l.length = cl.length → (∀ e ∈ cl.zip l, All2 mg e.1.ns e.2.1 ∧ e.2.2 = tsO K i n e.1) →
      (∀ e ∈ cl, (e.ns.any anc.contains = true → ∀ f ∈ e.fl.map (·.1), PySem.W.findIn K (.ref C) f = some none) ∧ ∀ cs, All2 mg e.ns cs → PySem.W.exmAny K (.ref C) cs = some (e.ns.any anc.contains)) →
      postE K P Wx σ F Q (eGo anc c fs (cl.map fun c => (c.ns, c.fl.map (·.1))) ρ1) → wManyT K (fun _ _ _ _ => False) { nx := fun _ H' => Q .non H', rt := Q } i l cls dd σ' H'
  | [], [], _, _, _, q => q.elim
  | [], _ :: _, e, _, _, _ => by cases e
  | _ :: _, [], e, _, _, _ => by cases e
  | e :: cl, (cs, ts) :: l, hln, hz, hs, q => by
    obtain ⟨z1, z2⟩ := hz (e, (cs, ts)) (by simp)
    obtain ⟨s1, s2⟩ := hs e (by simp)
    dsimp only at z1 z2
    subst z2 eC
    rw [List.map_cons, eGo_cons] at q
    refine ⟨_, s2 cs z1, fun hb x nx hlen => ?_, fun hb => ?_⟩
    · rw [if_pos hb] at q
      split at q
      · rename_i ds e1
        split at q
        · rename_i hle
          obtain ⟨vs, b1, b2⟩ := looks_all g1 g2 e1
          refine ⟨?_, C, a, gs, vs, rfl, T, fun f hf => s1 hb f.1 (List.mem_map_of_mem hf), ed, r.fh _ _ ea, ?_, by rw [← b2.length]; exact sz1000 (Nat.le_trans hle (by decide)), fun p np => ?_⟩
          · rw [List.length_set] at hlen
            rw [List.getElem?_set_self (by rw [hlen]; exact hl)]
          · rw [← b1, List.map_map]; rfl
          · have g := Grow.lay (o := .tup vs) r.fh np
            exact q _ _ (.ref p) (hF.trans g.f) (r.grow g) (.tup (.inl (.inl upd_same)) (b2.mono g.f))
        · exact q.elim
      · exact q.elim
    · rw [if_neg (by rw [hb]; decide)] at q
      exact many_why hF r hl rfl hC ed ea g1 g2 T σ' cl l (by simpa using hln) (fun x hx => hz x (by rw [List.zip_cons_cons]; exact List.mem_cons_of_mem _ hx)) (fun x hx => hs x (by simp [hx])) q
/-- the classes that a clause names, by the scope alone -/
inductive TestS (sg : Scope) : Expr → List Str → Prop
  | one {x : Str} {np : Pos} : sg.names.lookup x = some .globalImplicit → (x == ("__debug__" : Str)) = false → TestS sg (.Name x np) [x]
  | tup {l : List (Str × Pos)} {j : Nat} {np : Pos} : l.length ≤ 1000 → (∀ e ∈ l, sg.names.lookup e.1 = some .globalImplicit ∧ (e.1 == ("__debug__" : Str)) = false) → TestS sg (.Tuple (l.map fun e => .Name e.1 e.2) j np) (l.map (·.1))
theorem TestS.to {X : Cx} {sg : Scope} {Ng : List Str} {x : Str} {g : Addr} {cdv : Value} {s : Shared} {H : Hp} {t : Expr} {ns : List Str} (h : TestS sg t ns) : TestN (cxOf C8.CX0 X.prog X.w X.K X.mg X.base Ng x sg g cdv X.A X.stack s H C8.E0).nox t ns := by
  cases h with
  | one h1 h2 => exact .one h1 h2
  | tup h1 h2 => exact .tup h1 h2
structure WhyS (st : Stmt) (a n : Str) (Ng : List Str) (i : Nat) (cl : List Cs) : Prop where
  bd : ∃ (j j2 : Nat) (p0 p1 p2 p3 p4 p8 : Pos) (h0 : ExceptHandler) (hds : List ExceptHandler), h0 :: hds = cl.map (Cs.hd n) ∧ defBody st = [.Try [.Return (some (.Tuple [.Constant (.str "told") j p0, .Call (.Name a p1) [] [] p2] j2 p3)) p4] (h0 :: hds) [] [] p8]
  sc : FnScope Ng [a] (defScope st)
  nd : Ng.Nodup
  na : Ng[0]? = some a
  nn : Ng[i]? = some n
  va : Vis (defScope st) a
  vn : Vis (defScope st) n
  ln : (defScope st).names.lookup n = some .local
  ts : ∀ c ∈ cl, TestS (defScope st) c.t c.ns
  d1 : (n == ("__debug__" : Str)) = false
  d2 : (n == ("__classdict__" : Str)) = false
/-- the law's own code table -/
structure TabX (X : Cx) (P : Pt) : Prop where
  ex : ∃ c Pa, LamX.TabB X.base X.mg c Pa ∧ X.env.code = .ref c ∧ P.T = [(Pa, nmL X)] ∧ P.H0 Pa = none
theorem start_len {N : List Str} {vs : List V} (h : vs.length ≤ N.length) : (L2.start N vs).length = N.length := by
  unfold L2.start
  rw [List.length_append, List.length_map, List.length_replicate]
  omega
section
variable {X : Cx} {P : Pt} {Wx : WX} {k : Nat} {fe : FE} {x a n : Str} {st : Stmt} {Ng : List Str} {i : Nat} {cl : List Cs} {tab : List (Str × List Str)} {args : Arguments} {bd : Expr} {sc : Scope} {p lp pos : Pos}
theorem d_why (D : DefAt X.K X.mg x st [a]) (A : TryAt X.K X.mg tab (cl.map fun c => (c.ns, c.fl.map (·.1)))) (S : WhyS st a n Ng i cl) (TX : TabX X P) (gl : Gl X x) (rm : Room (k + 2) X.A) (L : LamX.LamS X.env.scope sc) (df : defaultsOf args X.env = ([], []))
    (bi : ∀ (q : Str) (cl : List (Str × Addr)) (pm cv ctv : Value), bindArgs (PySem.W.kla_fn "<lambda>" q args bd sc cl pm cv ctv) ⟨[], []⟩ = pure [])
    (hb : ∀ (A : Around) (outer : List Env) (s : Shared) (H : Hp) (E : XK) (f d : Addr), Room k (A.deeper (LamX.lamEnv X sc s.heap.objs.size f d)) → PE (LamX.lamCx X A outer s H E sc f d) bd (LE X.K P (fun cls d _ H => E cls d H) fe))
    (dx : (x == ("__debug__" : Str)) = false := by decide) (da : (a == ("__debug__" : Str)) = false := by decide) (dc : (a == ("__classdict__" : Str)) = false := by decide) :
    PE X (.Call (.Name x p) [.Lambda args bd sc lp] [] pos) (LE X.K P Wx (eWhy tab (cl.map fun c => (c.ns, c.fl.map (·.1))) fe)) := by
  obtain ⟨g, fd, Fg, gm, gb, gn⟩ := D.ex
  obtain ⟨oc, od, kV, doc, pm, an, cdv, ct, osl, rfl, lk, ci⟩ := Fg.ex
  obtain ⟨c, Pa, TB, cd, hT, h0P⟩ := TX.ex
  obtain ⟨j, j2, p0, p1, p2, p3, p4, p8, hd0, hds, he, hbd⟩ := S.bd
  rw [hbd] at lk gb
  have hin : i < Ng.length := (List.getElem?_eq_some_iff.mp S.nn).1
  have hts : ∀ (s : Shared) (H : Hp) (c : Cs), c ∈ cl → TestN (cxOf C8.CX0 X.prog X.w X.K X.mg X.base Ng x (defScope st) g cdv X.A X.stack s H C8.E0).nox c.t c.ns := fun s H c hc => by
    exact TestS.to (S.ts c hc)
  have hmg : ∀ c ∈ cl, ∀ x ∈ c.ns, ∃ v, X.mg x = some v := fun c hc x hx => A.mgc (c.ns, c.fl.map (·.1)) (List.mem_map.mpr ⟨c, hc, rfl⟩) x hx
  refine PEm (pe_lam3 (T := P.T) (TT := TWhy X.K i (lOf X.mg X.K i Ng.length cl)) (k := k) (t := fun E => LE X.K P (fun cls d _ H => E cls d H) fe) gl gm Fg.kp lk ci gb S.sc S.na S.va (why_gives (fun f => ?_) S.nd S.nn (fun s H => S.ln) fun s H => ?_) TB cd (by rw [hT]; exact List.mem_cons_self) (fun p hp _ => by rw [hT] at hp; rw [List.mem_singleton.mp hp]) rm L df bi (fun A outer s H E f d r => hb A outer s H E f d r) dx da dc) fun σ H Q h => ?_
  · obtain ⟨v, e⟩ : ∃ v, Ng = v :: Ng.tail := by
      cases Ng with
      | nil => cases S.na
      | cons v r => exact ⟨v, rfl⟩
    rw [e]; rfl
  · rw [he]
    exact hds_of2 (X := (cxOf C8.CX0 X.prog X.w X.K X.mg X.base Ng x (defScope st) g cdv X.A X.stack s H C8.E0).nox) S.nn S.vn S.d1 S.d2 cl fun c hc => ⟨hts s H c hc, hmg c hc⟩
  · obtain ⟨F, ρ, r, q⟩ := h
    refine ⟨fun t ht => (r.tb t ht).2, fun H1 bt t1 => ⟨F, ρ, r.tabs hT h0P bt t1, ?_⟩⟩
    unfold eWhy at q
    match e : fe ρ with
    | none => rw [e] at q; exact q.elim
    | some (.ok d, ρ1) =>
      rw [e] at q
      intro F' H' v s1 r1 pv
      refine ⟨sz1000 (by decide), fun p np => ?_⟩
      have g := Grow.lay (o := .tup [.str "told", v]) r1.fh np
      exact q _ _ (.ref p) (s1.trans g.f) (r1.grow g) (.tup (.inl (.inl upd_same)) (.cons (.str _) (.cons (pv.mono g.f) .nil)))
    | some (.ex c fs, ρ1) =>
      rw [e] at q
      dsimp only at q
      cases et : tab.lookup c with
      | none => rw [et] at q; exact q.elim
      | some anc =>
        rw [et] at q
        dsimp only at q
        intro F' H' cls dd s1 r1 xp σ'
        obtain ⟨⟨C, eC, hC⟩, a, gs, ed, ea, g1, g2⟩ := xp
        obtain ⟨T, hsub⟩ := A.sub c anc et C hC
        exact many_why s1 r1 hin eC hC ed ea g1 g2 T σ' cl _ (by unfold lOf; rw [List.length_map]) (lOf_ok hmg) (fun x hx => hsub (x.ns, x.fl.map (·.1)) (List.mem_map.mpr ⟨x, hx, rfl⟩)) q
end
end DL
namespace DL
open PySem PySem.Spec PyProof.Rows L2 RZ
/-! ### the asking def out of its text -/
def nmE : Expr → Str × Pos
  | .Name x p => (x, p)
  | _ => ("", ⟨0, 0, 0, 0⟩)
def nsE : Expr → List Str
  | .Name x _ => [x]
  | .Tuple es _ _ => (es.map nmE).map (·.1)
  | _ => []
def fdE : Expr → Fd
  | .Attribute (.Name _ p) f p2 => (f, p, p2)
  | _ => ("", ⟨0, 0, 0, 0⟩, ⟨0, 0, 0, 0⟩)
def csE : ExceptHandler → Cs
  | .ExceptHandler (some t) _ [.Return (some (.Tuple es j p1)) p2] p3 => ⟨t, nsE t, es.map fdE, j, p1, p2, p3⟩
  | _ => ⟨.Constant .none 0 ⟨0, 0, 0, 0⟩, [], [], 0, ⟨0, 0, 0, 0⟩, ⟨0, 0, 0, 0⟩, ⟨0, 0, 0, 0⟩⟩
def hdsE : List Stmt → List ExceptHandler
  | [.Try _ hs _ _ _] => hs
  | _ => []
def csAll (st : Stmt) : List Cs := (hdsE (defBody st)).map csE
def glB (sg : Scope) (x : Str) : Bool := decide (sg.names.lookup x = some .globalImplicit) && !(x == ("__debug__" : Str))
def isNm : Expr → Bool
  | .Name _ _ => true
  | _ => false
def testB (sg : Scope) : Expr → Bool
  | .Name x _ => glB sg x
  | .Tuple es _ _ => decide (es.length ≤ 1000) && es.all isNm && (es.map nmE).all fun e => glB sg e.1
  | _ => false
theorem glB_ok {sg : Scope} {x : Str} (h : glB sg x = true) : sg.names.lookup x = some .globalImplicit ∧ (x == ("__debug__" : Str)) = false := by
  unfold glB at h
  simp only [Bool.and_eq_true, decide_eq_true_eq, Bool.not_eq_true'] at h
  exact h
theorem nm_back : ∀ {es : List Expr}, es.all isNm = true → (es.map nmE).map (fun e => Expr.Name e.1 e.2) = es
  | [], _ => rfl
  | e :: es, h => by
    rw [List.all_cons, Bool.and_eq_true] at h
    obtain ⟨h1, h2⟩ := h
    cases e with
    | Name x p => rw [List.map_cons, List.map_cons, nm_back h2]; rfl
    | _ => cases h1
theorem testB_ok {sg : Scope} {t : Expr} (h : testB sg t = true) : TestS sg t (nsE t) := by
  cases t with
  | Name x p => exact .one (glB_ok h).1 (glB_ok h).2
  | Tuple es j p =>
    unfold testB at h
    simp only [Bool.and_eq_true, decide_eq_true_eq] at h
    obtain ⟨⟨h1, h2⟩, h3⟩ := h
    have e := nm_back h2
    have k : TestS sg (.Tuple ((es.map nmE).map fun e => .Name e.1 e.2) j p) ((es.map nmE).map (·.1)) := .tup (by rw [List.length_map]; exact h1) fun e he => glB_ok (List.all_eq_true.mp h3 e he)
    rw [e] at k
    exact k
  | _ => cases h
theorem ts_all {st : Stmt} (h : ((csAll st).all fun c => decide (c.ns = nsE c.t) && testB (defScope st) c.t) = true) : ∀ c ∈ csAll st, TestS (defScope st) c.t c.ns := fun c hc => by
  have k := List.all_eq_true.mp h c hc
  simp only [Bool.and_eq_true, decide_eq_true_eq] at k
  rw [k.1]
  exact testB_ok k.2
/-- the asking def, as the laws lean on it -/
structure WhyAt (K : PySem.W.Frag) (mg : Str → Option Value) (x : Str) (tab : List (Str × List Str)) (cn : List (List Str × List Str)) : Prop where
  ex : ∃ (st : Stmt) (a n : Str) (Ng : List Str) (i : Nat) (cl : List Cs), DefAt K mg x st [a] ∧ TryAt K mg tab cn ∧ WhyS st a n Ng i cl ∧ (cl.map fun c => (c.ns, c.fl.map (·.1))) = cn ∧ (x == ("__debug__" : Str)) = false ∧ (a == ("__debug__" : Str)) = false ∧ (a == ("__classdict__" : Str)) = false
section
variable {X : Cx} {P : Pt} {Wx : WX} {k : Nat} {fe : FE} {x : Str} {tab : List (Str × List Str)} {cn : List (List Str × List Str)} {args : Arguments} {bd : Expr} {sc : Scope} {p lp pos : Pos}
theorem d_whyA (W : WhyAt X.K X.mg x tab cn) (TX : TabX X P) (rm : Room (k + 2) X.A) (gl : Gl X x) (L : LamX.LamS X.env.scope sc)
    (hb : ∀ (A : Around) (outer : List Env) (s : Shared) (H : Hp) (E : XK) (f d : Addr), Room k (A.deeper (LamX.lamEnv X sc s.heap.objs.size f d)) → PE (LamX.lamCx X A outer s H E sc f d) bd (LE X.K P (fun cls d _ H => E cls d H) fe))
    (df : defaultsOf args X.env = ([], []) := by rfl) (bi : ∀ (q : Str) (cl : List (Str × Addr)) (pm cv ctv : Value), bindArgs (PySem.W.kla_fn "<lambda>" q args bd sc cl pm cv ctv) ⟨[], []⟩ = pure [] := by intros; rfl) :
    PE X (.Call (.Name x p) [.Lambda args bd sc lp] [] pos) (LE X.K P Wx (eWhy tab cn fe)) := by
  obtain ⟨st, a, n, Ng, i, cl, D, A, S, rfl, dx, da, dc⟩ := W.ex
  exact d_why D A S TX gl rm L df bi hb dx da dc
end
/-! ### the classes of the clauses, out of the written part -/
open PySem.W in
def valK (K : PySem.W.Frag) (x : Str) : Option Value := match nsIn K mainGlobals x with
  | some (some v) => some v
  | _ => none
open PySem.W in
def tryB (K : PySem.W.Frag) (tab : List (Str × List Str)) (cn : List (List Str × List Str)) : Bool :=
  (cn.all fun e => e.1.all fun x => (valK K x).isSome) && tab.all fun t => match valK K t.1 with
    | some (.ref C) => xfB K C && cn.all fun e => (!(e.1.any t.2.contains) || e.2.all fun f => decide (findIn K (.ref C) f = some none)) && decide (exmAny K (.ref C) (e.1.map fun x => (valK K x).getD .none) = some (e.1.any t.2.contains))
    | _ => false
open PySem.W in
theorem valK_mg {K : PySem.W.Frag} {h : Heap} {mg : Str → Option Value} {x : Str} {v : Value} (X : K.In h) (G : h.Ns mainGlobals mg) (e : valK K x = some v) : mg x = some v := by
  unfold valK at e
  split at e
  · rename_i u q; cases e; exact mg_of X G q
  · cases e
theorem lookup_memK {α β : Type} [BEq α] [LawfulBEq α] : ∀ {l : List (α × β)} {a : α} {b : β}, l.lookup a = some b → (a, b) ∈ l
  | [], _, _, h => by cases h
  | (c, d) :: l, a, b, h => by
    unfold List.lookup at h
    cases e : a == c with
    | true => rw [e] at h; cases h; rw [eq_of_beq e]; exact List.mem_cons_self
    | false => rw [e] at h; exact List.mem_cons_of_mem _ (lookup_memK h)
open PySem.W in
theorem tryB_ok {K : PySem.W.Frag} {h : Heap} {mg : Str → Option Value} {tab : List (Str × List Str)} {cn : List (List Str × List Str)} (X : K.In h) (G : h.Ns mainGlobals mg) (hb : tryB K tab cn = true) : TryAt K mg tab cn := by
  unfold tryB at hb
  rw [Bool.and_eq_true] at hb
  obtain ⟨h1, h2⟩ := hb
  have mgc : ∀ e ∈ cn, ∀ x ∈ e.1, ∃ c, valK K x = some c := fun e he x hx => by
    have k := List.all_eq_true.mp (List.all_eq_true.mp h1 e he) x hx
    exact Option.isSome_iff_exists.mp k
  refine ⟨fun e he x hx => (mgc e he x hx).elim fun c hc => ⟨c, valK_mg X G hc⟩, fun c anc hl C hC => ?_⟩
  have k := List.all_eq_true.mp h2 (c, anc) (lookup_memK hl)
  have eC : valK K c = some (.ref C) := by unfold valK; rw [hC]
  dsimp only at k
  rw [eC] at k
  dsimp only at k
  rw [Bool.and_eq_true] at k
  refine ⟨xfB_ok k.1, fun e he => ?_⟩
  have k2 := List.all_eq_true.mp k.2 e he
  simp only [Bool.and_eq_true, Bool.or_eq_true, Bool.not_eq_true', decide_eq_true_eq, List.all_eq_true] at k2
  refine ⟨fun ha f hf => ?_, fun cs hcs => ?_⟩
  · rcases k2.1 with z | z
    · rw [ha] at z; cases z
    · exact z f hf
  · have ec : cs = e.1.map fun x => (valK K x).getD .none := by
      rw [all2_eq hcs]
      refine List.map_congr_left fun x hx => ?_
      obtain ⟨v, hv⟩ := mgc e he x hx
      rw [hv, valK_mg X G hv]
    rw [ec]
    exact k2.2
/-! ### an own exception class out of the written part -/
theorem ex_mk {P : Program} {w : World} {K : PySem.W.Frag} {h base : Heap} {mg : Str → Option Value} {x qual : Str} {st : Stmt} {ps : List Str} {C fI : Addr} {k n : Nat} {f : Str} {u : V ⊕ Nat} {r : List (Str × (V ⊕ Nat))} {oc : Value} {od an : Option Addr} {osl : Array (Option Value)} {kV doc pm cdv ct : Value} (X : K.In h) (G : h.Ns mainGlobals mg)
    (T : OexC K C) (a : PySem.W.nsIn K mainGlobals x = some (some (.ref C))) (i : PySem.W.findIn K (.ref C) "__init__" = some (some (.ref fI))) (t : PySem.W.typeIn K (.ref fI) = some (.type "function"))
    (l : K.lookup fI = some ⟨oc, od, .func (PySem.W.fnOf "__init__" qual (defArgs st) (defBody st) (defScope st) .none kV doc pm an cdv ct), osl⟩) (c : PySem.W.codeIn K cdv qual = true) (kp : PySem.W.keepIn K (.ref fI) = true)
    (hb : ∀ (kV doc pm : Value) (an : Option Addr) (cdv ct : Value) (us : List Value), us.length = ps.length → bindArgs (PySem.W.fnOf "__init__" qual (defArgs st) (defBody st) (defScope st) .none kV doc pm an cdv ct) ⟨us, []⟩ = pure (ps.zip us))
    (hl : ∀ e ∈ (f, u) :: r, PySem.W.findIn K (.ref C) e.1 = some none ∧ okI (n + 1) e.2)
    (S : FnScope ps ps (defScope st)) (hp : ps.length = n + 1) (hn : r.length ≤ 800) (bd : ∀ (cdv : Value) (A : Around) (outer : List Env) (s : Shared) (H : Hp) (E : XK), PSs (cxOf (L2.CX P w) P w K mg base ps qual (defScope st) fI cdv A outer s H E) (defBody st) (tInit K ((f, u) :: r))) :
    ExAt P w K mg base (k + 1) x n ((f, u) :: r) :=
  have F := fun_mk (st := st) l c kp
  ⟨C, fI, _, ps, T, i, t, init_ok F S T hp hl hn bd, F.binds hb, PySem.W.mg_of X G a, a⟩
instance p_raise0 {x : Str} {fs : List (Str × Dt)} : WpS (sRaise0 x fs) := ⟨fun _ _ _ => False, fun h => h.elim, fun h _ _ => h.elim⟩
/-! ### the law's own def, with its code table -/
def spT (K : PySem.W.Frag) (Pa : Addr) (q : Str) (g : FnD) : Sp := fun vs H Q _ => ∃ a ns, vs = [.ref a] ∧ SqL K H a (ns.map V.int) ∧ LamX.TabS H Pa q ∧ g [.sh (.scr ns)] = some (.ok (.sh (.bl true)), []) ∧ ∀ H', Q (.bl true) H'
def lessT (H : Hp) (Pa : Addr) : Hp := fun p => if p = Pa then none else H p
theorem lessT_same {H : Hp} {Pa : Addr} : Same (lessT H Pa) H := fun b o e => by
  unfold lessT at e
  split at e
  · cases e
  · exact e
theorem Rel.withT {K : PySem.W.Frag} {F0 H0 F H : Hp} {bs : List Nat} {ba : Nat → V} {bf : Nat → List Addr} {σ : L2.St} {ρ : Rho} {T : List (Addr × Str)} (R : Rel K ⟨F0, H0, bs, ba, bf, []⟩ F H σ ρ) (h : ∀ q ∈ T, F q.1 = none ∧ LamX.TabS H q.1 q.2) : Rel K ⟨F0, H0, bs, ba, bf, T⟩ F H σ ρ where
  fh := R.fh
  f0 := R.f0
  th := R.th
  keep := R.keep
  new := R.new
  len := R.len
  slot := fun i w e => by
    obtain ⟨v, ev, sw⟩ := R.slot i w e
    exact ⟨v, ev, .mk sw.ok sw.h0⟩
  sep := R.sep
  bor := R.bor
  tb := h
section
variable {P : Program} {w : World} {K : PySem.W.Frag} {mg : Str → Option Value} {base : Heap}
theorem fn_okT {x qual : Str} {st : Stmt} {f c Pa : Addr} {N ps : List Str} {k : Nat} {fb : FS} {oc : Value} {od an : Option Addr} {osl : Array (Option Value)} {dV kV doc pm ct : Value} {q : Str} (lk : K.lookup f = some ⟨oc, od, .func (PySem.W.fnOf x qual (defArgs st) (defBody st) (defScope st) dV kV doc pm an (.ref c) ct), osl⟩) (hcd : PySem.W.codeIn K (.ref c) qual = true) (S : FnScope N ps (defScope st)) (hp : ps.length = 1)
    (hb : ∀ (A : Around) (outer : List Env) (s : Shared) (H : Hp) (E : XK) (Z : Pt), (∀ j, j ∈ Z.bs → j ∈ ([] : List Nat)) → Z.T = [(Pa, q)] → Z.H0 Pa = none → Room k (A.deeper (envOfC qual (defScope st) s.heap.objs.size f (.ref c))) →
      PSs (cxOf (L2.CX P w) P w K mg base N qual (defScope st) f (.ref c) A outer s H E) (defBody st) (LS K Z (fun cls d _ H => E cls d H) fb)) :
    FnOk P w K mg base (L2.CX P w) (k + 1) f (PySem.W.fnOf x qual (defArgs st) (defBody st) (defScope st) dV kV doc pm an (.ref c) ct) ps (spT K Pa q (callF N.length [] fb)) := by
  refine fn_of lk hcd S (fun vs H Q E h => ?_) fun A outer s H vs Q E hr h => ?_
  · obtain ⟨a, ns, rfl, _⟩ := h
    rw [hp]; rfl
  · obtain ⟨a, ns, rfl, hS, hT, hg, hQ⟩ := h
    have hT0 := hT
    obtain ⟨ps', hP, _⟩ := hT0
    have ane : a ≠ Pa ∨ ∀ H' : Hp, SqL K H' a (ns.map V.int) := by
      rcases hS with (e | ⟨o, e⟩) | e
      · exact .inl fun z => by rw [z, hP] at e; cases e
      · exact .inl fun z => by rw [z, hP] at e; cases e
      · exact .inr fun _ => .inr e
    have hS' : SqL K (lessT H Pa) a (ns.map V.int) := by
      rcases ane with ne | h
      · have e0 : lessT H Pa a = H a := by unfold lessT; rw [if_neg ne]
        rcases hS with (e | ⟨o, e⟩) | e
        · exact .inl (.inl (e0.trans e))
        · exact .inl (.inr ⟨o, e0.trans e⟩)
        · exact .inr e
      · exact h _
    refine ⟨_, hb A outer s H E ⟨lessT H Pa, lessT H Pa, [], rootAt [.ref a], bfAt (lessT H Pa) [.ref a] [.sh (.scr ns)], [(Pa, q)]⟩ (fun j hj => hj) rfl (if_pos rfl) hr, lessT H Pa, _, (rel_start (ws := [.sh (.scr ns)]) (.refl _) lessT_same (.sh (.scr hS') .nil) List.nodup_nil).withT (fun t ht => ?_), ?_⟩
    · rw [List.mem_singleton.mp ht]
      exact ⟨if_pos rfl, hT⟩
    · unfold callF at hg
      rw [if_pos (show ((ownPos 0 [Aw.sh (.scr ns)]).all fun j => ([] : List Nat).contains j) = true from rfl)] at hg
      match e : fb ([Aw.sh (.scr ns)].map (fun w => some w.wt) ++ List.replicate (N.length - [Aw.sh (.scr ns)].length) none) with
      | none => rw [e] at hg; cases hg
      | some (.nx, ρ) => rw [e] at hg; cases hg
      | some (.bk, ρ) => rw [e] at hg; cases hg
      | some (.ct, ρ) => rw [e] at hg; cases hg
      | some (.ex C fs, ρ) => rw [e] at hg; cases hg
      | some (.rt w, ρ) =>
        rw [e] at hg
        cases hg
        intro F' H' σ v s1 R rw'
        cases rw'
        exact hQ _
end
end DL
namespace DL
open PySem PySem.Spec PyProof.Rows L2 RZ
/-! ### runs that may end by an exception: X says which -/
abbrev XP := Str → List (Str × Dt) → Prop
def EvE2 (f : FE) (ρ : Rho) (Q : Dt → Rho → Prop) (X : XP) : Prop := EvE f ρ Q ∨ ∃ c fs ρ', f ρ = some (.ex c fs, ρ') ∧ X c fs
def EvW2 (f : FW) (ρ : Rho) (Q : Wt → Rho → Prop) (X : XP) : Prop := EvW f ρ Q ∨ ∃ c fs ρ', f ρ = some (.ex c fs, ρ') ∧ X c fs
def EvA2 (f : FA) (ρ : Rho) (Q : List Av → Rho → Prop) (X : XP) : Prop := EvA f ρ Q ∨ ∃ c fs ρ', f ρ = some (.ex c fs, ρ') ∧ X c fs
def EvS2 (f : FS) (ρ : Rho) (N : Rho → Prop) (R : Wt → Rho → Prop) (X : XP) : Prop := EvS f ρ N R ∨ ∃ c fs ρ', f ρ = some (.ex c fs, ρ') ∧ X c fs
def EvF2 (g : FnD) (ws : List Aw) (Q : Wt → List Wt → Prop) (X : XP) : Prop := EvF g ws Q ∨ ∃ c fs cs, g ws = some (.ex c fs, cs) ∧ X c fs
class WqE (f : FE) where
  wq : Rho → (Dt → Rho → Prop) → XP → Prop
  ok : ∀ {ρ : Rho} {Q : Dt → Rho → Prop} {X : XP}, wq ρ Q X → EvE2 f ρ Q X
class WqW (f : FW) where
  wq : Rho → (Wt → Rho → Prop) → XP → Prop
  ok : ∀ {ρ : Rho} {Q : Wt → Rho → Prop} {X : XP}, wq ρ Q X → EvW2 f ρ Q X
class WqA (f : FA) where
  wq : Rho → (List Av → Rho → Prop) → XP → Prop
  ok : ∀ {ρ : Rho} {Q : List Av → Rho → Prop} {X : XP}, wq ρ Q X → EvA2 f ρ Q X
class WqS (f : FS) where
  wq : Rho → (Rho → Prop) → (Wt → Rho → Prop) → XP → Prop
  ok : ∀ {ρ : Rho} {N : Rho → Prop} {R : Wt → Rho → Prop} {X : XP}, wq ρ N R X → EvS2 f ρ N R X
section
variable {f fa fb fc : FE} {r k : FA} {w wa wb : FW} {fi : FI} {a b : FS} {X : XP}
instance (priority := low) y_E [WpE f] : WqE f := ⟨fun ρ Q _ => WpE.wp f ρ Q, fun h => .inl (WpE.ok h)⟩
instance (priority := low) y_W [WpW w] : WqW w := ⟨fun ρ Q _ => WpW.wp w ρ Q, fun h => .inl (WpW.ok h)⟩
instance (priority := low) y_A [WpA r] : WqA r := ⟨fun ρ Q _ => WpA.wp r ρ Q, fun h => .inl (WpA.ok h)⟩
instance (priority := low) y_S [WpS a] : WqS a := ⟨fun ρ N R _ => WpS.wp a ρ N R, fun h => .inl (WpS.ok h)⟩
theorem ev2_bind {g : Dt → FE} {ρ : Rho} {Q : Dt → Rho → Prop} (h : EvE2 fa ρ (fun d ρ1 => EvE2 (g d) ρ1 Q X) X) : EvE2 (bindE fa g) ρ Q X := by
  rcases h with ⟨d, ρ1, e, ⟨d2, ρ2, e2, q⟩ | ⟨c, fs, ρ2, e2, q⟩⟩ | ⟨c, fs, ρ1, e, q⟩
  · exact .inl ⟨d2, ρ2, by unfold bindE; simp only [e, e2], q⟩
  · exact .inr ⟨c, fs, ρ2, by unfold bindE; simp only [e, e2], q⟩
  · exact .inr ⟨c, fs, ρ1, by unfold bindE; simp only [e], q⟩
theorem EvE2.imp {ρ : Rho} {Q Q' : Dt → Rho → Prop} (h : EvE2 f ρ Q X) (k : ∀ d ρ1, Q d ρ1 → Q' d ρ1) : EvE2 f ρ Q' X := h.elim (fun h => .inl (h.imp k)) .inr
theorem EvW2.imp {ρ : Rho} {Q Q' : Wt → Rho → Prop} (h : EvW2 w ρ Q X) (k : ∀ d ρ1, Q d ρ1 → Q' d ρ1) : EvW2 w ρ Q' X := h.elim (fun h => .inl (h.imp k)) .inr
theorem EvA2.imp {ρ : Rho} {Q Q' : List Av → Rho → Prop} (h : EvA2 r ρ Q X) (k : ∀ d ρ1, Q d ρ1 → Q' d ρ1) : EvA2 r ρ Q' X := h.elim (fun h => .inl (h.imp k)) .inr
theorem EvS2.imp {ρ : Rho} {N N' : Rho → Prop} {R R' : Wt → Rho → Prop} (h : EvS2 a ρ N R X) (k : ∀ ρ1, N ρ1 → N' ρ1) (k2 : ∀ w ρ1, R w ρ1 → R' w ρ1) : EvS2 a ρ N' R' X := h.elim (fun h => .inl (h.imp k k2)) .inr
theorem EvF2.imp {g : FnD} {ws : List Aw} {Q Q' : Wt → List Wt → Prop} {X' : XP} (h : EvF2 g ws Q X) (k : ∀ d cs, Q d cs → Q' d cs) (k2 : ∀ c fs, X c fs → X' c fs) : EvF2 g ws Q' X' := h.elim (fun h => .inl (h.imp k)) fun ⟨c, fs, cs, e, q⟩ => .inr ⟨c, fs, cs, e, k2 c fs q⟩
instance y_op {o : Dt → Dt → Option Dt} [WqE fa] [WqE fb] : WqE (eOp o fa fb) :=
  ⟨fun ρ Q X => WqE.wq fa ρ (fun d ρ1 => WqE.wq fb ρ1 (fun e ρ2 => wO (o d e) fun g => Q g ρ2) X) X, fun h => ev2_bind ((WqE.ok h).imp fun _ _ h => ev2_bind ((WqE.ok h).imp fun _ _ h => by
    obtain ⟨g, e, h⟩ := h.ex
    exact .inl (ev_V e h)))⟩
instance y_un {o : Dt → Option Dt} [WqE fa] : WqE (eUn o fa) :=
  ⟨fun ρ Q X => WqE.wq fa ρ (fun d ρ1 => wO (o d) fun g => Q g ρ1) X, fun h => ev2_bind ((WqE.ok h).imp fun _ _ h => by
    obtain ⟨g, e, h⟩ := h.ex
    exact .inl (ev_V e h))⟩
theorem ev2_ite {ρ : Rho} {Q : Dt → Rho → Prop} (h : EvE2 fc ρ (fun d ρ1 => EvB d (EvE2 fa ρ1 Q X) (EvE2 fb ρ1 Q X)) X) : EvE2 (eIte fc fa fb) ρ Q X := by
  refine ev2_bind (h.imp fun d ρ1 h => ?_)
  obtain ⟨b, rfl, h1, h2⟩ := h.ex
  cases b with
  | true => exact h1 rfl
  | false => exact h2 rfl
instance y_ite [WqE fa] [WqE fb] [WqE fc] : WqE (eIte fc fa fb) :=
  ⟨fun ρ Q X => WqE.wq fc ρ (fun d ρ1 => wB d (WqE.wq fa ρ1 Q X) (WqE.wq fb ρ1 Q X)) X, fun h => ev2_ite ((WqE.ok h).imp fun _ _ h => h.evb.imp (fun h => WqE.ok h) fun h => WqE.ok h)⟩
instance y_and [WqE fa] [WqE fb] : WqE (eAnd fa fb) :=
  ⟨fun ρ Q X => WqE.wq fa ρ (fun d ρ1 => wB d (WqE.wq fb ρ1 Q X) (Q (.bl false) ρ1)) X, fun h => ev2_ite ((WqE.ok h).imp fun _ _ h => h.evb.imp (fun h => WqE.ok h) fun h => .inl (ev_c h))⟩
instance y_or [WqE fa] [WqE fb] : WqE (eOr fa fb) :=
  ⟨fun ρ Q X => WqE.wq fa ρ (fun d ρ1 => wB d (Q (.bl true) ρ1) (WqE.wq fb ρ1 Q X)) X, fun h => ev2_ite ((WqE.ok h).imp fun _ _ h => h.evb.imp (fun h => .inl (ev_c h)) fun h => WqE.ok h)⟩
instance y_not [WqE fa] : WqE (eNot fa) := ⟨fun ρ Q X => WqE.wq fa ρ (fun d ρ1 => wO (dNot d) fun g => Q g ρ1) X, fun h => (y_un (o := dNot)).ok h⟩
instance y_frz [WqW w] : WqE (eFrz w) := ⟨fun ρ Q X => WqW.wq w ρ (fun x ρ1 => frzQ x fun d => Q d ρ1) X, fun {ρ Q X} h => by
  rcases WqW.ok h with h | ⟨c, fs, ρ1, e, q⟩
  · exact .inl (ev_frz (h.imp fun x _ h => by cases x <;> exact h))
  · exact .inr ⟨c, fs, ρ1, by unfold eFrz; simp only [e], q⟩⟩
instance y_val [WqE f] [WqA r] : WqA (aVal f r) :=
  ⟨fun ρ Q X => WqE.wq f ρ (fun d ρ1 => WqA.wq r ρ1 (fun as ρ2 => Q (.val d :: as) ρ2) X) X, fun {ρ Q X} h => by
    rcases WqE.ok h with ⟨d, ρ1, e, h⟩ | ⟨c, fs, ρ1, e, q⟩
    · rcases WqA.ok h with ⟨as, ρ2, e2, q⟩ | ⟨c, fs, ρ2, e2, q⟩
      · exact .inl ⟨_, ρ2, by unfold aVal bindEA; simp only [e, e2], q⟩
      · exact .inr ⟨c, fs, ρ2, by unfold aVal bindEA; simp only [e, e2], q⟩
    · exact .inr ⟨c, fs, ρ1, by unfold aVal bindEA; simp only [e], q⟩⟩
instance y_tmp [WqW w] : WqA (aTmp w) :=
  ⟨fun ρ Q X => WqW.wq w ρ (fun x ρ1 => tmpA x fun as => Q as ρ1) X, fun {ρ Q X} h => by
    rcases WqW.ok h with h | ⟨c, fs, ρ1, e, q⟩
    · exact .inl (ea_tmp (h.imp fun x _ h => by cases x <;> exact h))
    · exact .inr ⟨c, fs, ρ1, by unfold aTmp; simp only [e], q⟩⟩
instance y_tup [WqA r] : WqE (eTup r) :=
  ⟨fun ρ Q X => WqA.wq r ρ (fun as ρ1 => wO (vals as) fun ds => wC (Nat.ble ds.length 100000) (fL ds fun es => Q (.tup es) ρ1)) X, fun {ρ Q X} h => by
    rcases WqA.ok h with h | ⟨c, fs, ρ1, e, q⟩
    · exact .inl (ev_tup (h.imp fun _ _ h => by
        obtain ⟨ds, e, h⟩ := h.ex
        obtain ⟨l, h⟩ := h.ex
        exact ⟨ds, e, Nat.le_of_ble_eq_true l, by have q := fL_ok ds _ h; exact q⟩))
    · exact .inr ⟨c, fs, ρ1, by unfold eTup bindAE; simp only [e], q⟩⟩
instance y_lst [WqA r] : WqW (wLst r) :=
  ⟨fun ρ Q X => WqA.wq r ρ (fun as ρ1 => wO (vals as) fun ds => wC (Nat.ble ds.length 100000) (fL ds fun es => Q (.own es) ρ1)) X, fun {ρ Q X} h => by
    rcases WqA.ok h with h | ⟨c, fs, ρ1, e, q⟩
    · exact .inl (ew_lst (h.imp fun _ _ h => by
        obtain ⟨ds, e, h⟩ := h.ex
        obtain ⟨l, h⟩ := h.ex
        exact ⟨ds, e, Nat.le_of_ble_eq_true l, by have q := fL_ok ds _ h; exact q⟩))
    · exact .inr ⟨c, fs, ρ1, by unfold wLst bindAW; simp only [e], q⟩⟩
instance y_sh [WqE f] : WqW (wSh f) := ⟨fun ρ Q X => WqE.wq f ρ (fun d ρ1 => Q (.sh d) ρ1) X, fun {ρ Q X} h => by
  rcases WqE.ok h with h | ⟨c, fs, ρ1, e, q⟩
  · exact .inl (ew_sh h)
  · exact .inr ⟨c, fs, ρ1, by unfold wSh bindEW; simp only [e], q⟩⟩
instance y_iteW [WqE fc] [WqW wa] [WqW wb] : WqW (wIte fc wa wb) :=
  ⟨fun ρ Q X => WqE.wq fc ρ (fun d ρ1 => wB d (WqW.wq wa ρ1 Q X) (WqW.wq wb ρ1 Q X)) X, fun {ρ Q X} h => by
    rcases WqE.ok h with ⟨d, ρ1, e, h⟩ | ⟨c, fs, ρ1, e, q⟩
    · obtain ⟨x, rfl, h1, h2⟩ := h.evb.ex
      cases x with
      | true =>
        rcases WqW.ok (h1 rfl) with ⟨y, ρ2, e2, q⟩ | ⟨c, fs, ρ2, e2, q⟩
        · exact .inl ⟨y, ρ2, by unfold wIte bindEW; simp only [e, e2], q⟩
        · exact .inr ⟨c, fs, ρ2, by unfold wIte bindEW; simp only [e, e2], q⟩
      | false =>
        rcases WqW.ok (h2 rfl) with ⟨y, ρ2, e2, q⟩ | ⟨c, fs, ρ2, e2, q⟩
        · exact .inl ⟨y, ρ2, by unfold wIte bindEW; simp only [e, e2], q⟩
        · exact .inr ⟨c, fs, ρ2, by unfold wIte bindEW; simp only [e, e2], q⟩
    · exact .inr ⟨c, fs, ρ1, by unfold wIte bindEW; simp only [e], q⟩⟩
def callW2 (n : Nat) (g : FnD) (as : List Av) (ρ1 : Rho) (Q : Wt → Rho → Prop) (X : XP) : Prop :=
  wO (toWs ρ1 as) fun ws => wC (Nat.beq ws.length n) (wC (nodB (slotsOf as)) (fL ws fun ws => At (EvF2 g ws (fun w cs => fL (putBack (slotsOf as) cs ρ1) fun ρ2 => Q w ρ2) X)))
instance y_call {n : Nat} {g : FnD} [WqA r] : WqW (wCall n g r) :=
  ⟨fun ρ Q X => WqA.wq r ρ (fun as ρ1 => callW2 n g as ρ1 Q X) X, fun {ρ Q X} h => by
    rcases WqA.ok h with ⟨as, ρ1, e, h⟩ | ⟨c, fs, ρ1, e, q⟩
    · obtain ⟨ws, e2, h⟩ := wO.ex h
      obtain ⟨l, h⟩ := h.ex
      obtain ⟨m, h⟩ := h.ex
      have h := fL_ok ws _ h
      have hc := And.intro (Nat.eq_of_beq_eq_true l) (nodB_ok m)
      rcases h.h with ⟨x, cs, e3, q⟩ | ⟨c, fs, cs, e3, q⟩
      · exact .inl ⟨x, _, by unfold wCall bindAW; simp only [e, e2, if_pos hc, e3], fL_ok _ _ q⟩
      · exact .inr ⟨c, fs, putBack (slotsOf as) cs ρ1, by unfold wCall bindAW; simp only [e, e2, if_pos hc, e3], q⟩
    · exact .inr ⟨c, fs, ρ1, by unfold wCall bindAW; simp only [e], q⟩⟩
instance y_seq [WqS a] [WqS b] : WqS (sSeq a b) := ⟨fun ρ N R X => WqS.wq a ρ (fun ρ1 => WqS.wq b ρ1 N R X) R X, fun {ρ N R X} h => by
  rcases WqS.ok h with (⟨ρ1, e, h⟩ | ⟨w, ρ1, e, h⟩) | ⟨c, fs, ρ1, e, q⟩
  · rcases WqS.ok h with (⟨ρ2, e2, h⟩ | ⟨w, ρ2, e2, h⟩) | ⟨c, fs, ρ2, e2, q⟩
    · exact .inl (.inl ⟨ρ2, by unfold sSeq; simp only [e, e2], h⟩)
    · exact .inl (.inr ⟨w, ρ2, by unfold sSeq; simp only [e, e2], h⟩)
    · exact .inr ⟨c, fs, ρ2, by unfold sSeq; simp only [e, e2], q⟩
  · exact .inl (.inr ⟨w, ρ1, by unfold sSeq; simp only [e], h⟩)
  · exact .inr ⟨c, fs, ρ1, by unfold sSeq; simp only [e], q⟩⟩
theorem sif_t {ρ ρ1 : Rho} (e : fc ρ = some (.ok (.bl true), ρ1)) : sIf fc a b ρ = a ρ1 := by unfold sIf bindES; simp only [e]
theorem sif_f {ρ ρ1 : Rho} (e : fc ρ = some (.ok (.bl false), ρ1)) : sIf fc a b ρ = b ρ1 := by unfold sIf bindES; simp only [e]
theorem EvS2.eq {ρ ρ' : Rho} {N : Rho → Prop} {R : Wt → Rho → Prop} {a b : FS} (e : a ρ = b ρ') (h : EvS2 b ρ' N R X) : EvS2 a ρ N R X := by
  unfold EvS2 EvS
  rw [e]
  exact h
instance y_if [WqE fc] [WqS a] [WqS b] : WqS (sIf fc a b) :=
  ⟨fun ρ N R X => WqE.wq fc ρ (fun d ρ1 => wB d (WqS.wq a ρ1 N R X) (WqS.wq b ρ1 N R X)) X, fun {ρ N R X} h => by
    rcases WqE.ok h with ⟨d, ρ1, e, h⟩ | ⟨c, fs, ρ1, e, q⟩
    · obtain ⟨x, rfl, h1, h2⟩ := h.evb.ex
      cases x with
      | true => exact (WqS.ok (h1 rfl)).eq (sif_t e)
      | false => exact (WqS.ok (h2 rfl)).eq (sif_f e)
    · exact .inr ⟨c, fs, ρ1, by unfold sIf bindES; simp only [e], q⟩⟩
instance y_asg {i : Nat} [WqW w] : WqS (sAsg i w) := ⟨fun ρ N _ X => WqW.wq w ρ (fun x ρ1 => fL (ρ1.set i (some x)) N) X, fun {ρ N R X} h => by
  rcases WqW.ok h with h | ⟨c, fs, ρ1, e, q⟩
  · exact .inl (es_asg (h.imp fun _ _ h => fL_ok _ _ h))
  · exact .inr ⟨c, fs, ρ1, by unfold sAsg bindWS; simp only [e], q⟩⟩
instance y_ret [WqW w] : WqS (sRet w) := ⟨fun ρ _ R X => WqW.wq w ρ R X, fun {ρ N R X} h => by
  rcases WqW.ok h with h | ⟨c, fs, ρ1, e, q⟩
  · exact .inl (es_ret h)
  · exact .inr ⟨c, fs, ρ1, by unfold sRet bindWS; simp only [e], q⟩⟩
instance y_asgT {g : GD} [WqE f] : WqS (sAsgT g f) := ⟨fun ρ N _ X => WqE.wq f ρ (fun d ρ1 => wO (g d ρ1) fun ρ2 => fL ρ2 N) X, fun {ρ N R X} h => by
  rcases WqE.ok h with h | ⟨c, fs, ρ1, e, q⟩
  · exact .inl (es_asgT (h.imp fun _ _ h => by
      obtain ⟨ρ2, e, h⟩ := h.ex
      exact ⟨ρ2, e, fL_ok _ _ h⟩))
  · exact .inr ⟨c, fs, ρ1, by unfold sAsgT bindES; simp only [e], q⟩⟩
instance y_raise0 {x : Str} {fs : List (Str × Dt)} : WqS (sRaise0 x fs) := ⟨fun _ _ _ X => X x fs, fun h => .inr ⟨x, fs, _, rfl, h⟩⟩
end
/-- a def without own lists, run from its arguments -/
theorem ef2_in {n : Nat} {fb : FS} {ws : List Aw} {Q : Wt → List Wt → Prop} {X : XP} (hp : ownPos 0 ws = []) (h : Nrm (startW ws ++ List.replicate (n - ws.length) none) fun ρ0 => EvS2 fb ρ0 (fun _ => Q (.sh .non) []) (fun w _ => Q w []) X) : EvF2 (callF n [] fb) ws Q X := by
  rcases h with h | ⟨c, fs, ρ1, e, q⟩
  · exact .inl (ef_call hp (EvS.imp h (fun ρ h => ⟨[], rfl, h⟩) fun w ρ h => ⟨[], rfl, h⟩))
  · rw [← startW_eq] at e
    refine .inr ⟨c, fs, [], ?_, q⟩
    unfold callF
    rw [if_pos (by rw [hp]; rfl)]
    simp only [e, hp]
    rfl
theorem nrm_go2 {ρ : Rho} {f : FS} [WqS f] {N : Rho → Prop} {R : Wt → Rho → Prop} {X : XP} (h : fL ρ fun ρ0 => WqS.wq f ρ0 N R X) : Nrm ρ fun ρ0 => EvS2 f ρ0 N R X := WqS.ok (fL_ok _ _ h)
theorem ef2_ok {g : FnD} {ws : List Aw} {w : Wt} {cs : List Wt} {Q : Wt → List Wt → Prop} {X : XP} (e : g ws = some (.ok w, cs)) (h : Q w cs) : EvF2 g ws Q X := .inl ⟨w, cs, e, h⟩
theorem ef2_ex {g : FnD} {ws : List Aw} {c : Str} {fs : List (Str × Dt)} {cs : List Wt} {Q : Wt → List Wt → Prop} {X : XP} (e : g ws = some (.ex c fs, cs)) (h : X c fs) : EvF2 g ws Q X := .inr ⟨c, fs, cs, e, h⟩
theorem fn_ex {g : FnD} {ws : List Aw} {c : Str} {fs : List (Str × Dt)} (h : EvF2 g ws (fun _ _ => False) fun c' fs' => c' = c ∧ fs' = fs) : ∃ cs, g ws = some (.ex c fs, cs) := by
  rcases h with ⟨_, _, _, z⟩ | ⟨_, _, cs, e, rfl, rfl⟩
  · exact z.elim
  · exact ⟨cs, e⟩
/-! ### loops -/
section
variable {g : GD} {b : FS} {N : Rho → Prop} {R : Wt → Rho → Prop} {X : XP} {fi : FI}
theorem es2_forNil {ρ : Rho} (h : N ρ) : EvS2 (forD g b []) ρ N R X := .inl (es_forNil h)
theorem es2_forCons {d : Dt} {ds : List Dt} {ρ ρ1 : Rho} (e : g d ρ = some ρ1) (h : EvS2 b ρ1 (fun ρ2 => EvS2 (forD g b ds) ρ2 N R X) R X) : EvS2 (forD g b (d :: ds)) ρ N R X := by
  rcases h with (⟨ρ2, e2, h⟩ | ⟨w, ρ2, e2, h⟩) | ⟨c, fs, ρ2, e2, q⟩
  · refine h.eq ?_
    show forD g b (d :: ds) ρ = forD g b ds ρ2
    rw [forD]
    simp only [e, e2]
  · exact .inl (.inr ⟨w, ρ2, by unfold forD; simp only [e, e2], h⟩)
  · exact .inr ⟨c, fs, ρ2, by unfold forD; simp only [e, e2], q⟩
theorem for2_inv [WqS b] (I : List Dt → Rho → Prop) (hs : ∀ d ds ρ, I (d :: ds) ρ → wO (g d ρ) fun ρ1 => fL ρ1 fun ρ1 => WqS.wq b ρ1 (fun ρ2 => I ds ρ2) R X) (hd : ∀ ρ, I [] ρ → N ρ) : ∀ (ds : List Dt) (ρ : Rho), I ds ρ → EvS2 (forD g b ds) ρ N R X
  | [], ρ, h => es2_forNil (hd ρ h)
  | d :: ds, ρ, h => by
    obtain ⟨ρ1, e, h⟩ := (hs d ds ρ h).ex
    exact es2_forCons e ((WqS.ok (fL_ok _ _ h)).imp (fun ρ2 h => for2_inv I hs hd ds ρ2 h) fun _ _ h => h)
theorem for2_go [WqS b] {d : Dt} {ds : List Dt} {ρ : Rho} (h : wO (g d ρ) fun ρ1 => fL ρ1 fun ρ1 => WqS.wq b ρ1 (fun ρ2 => At (EvS2 (forD g b ds) ρ2 N R X)) R X) : EvS2 (forD g b (d :: ds)) ρ N R X := by
  obtain ⟨ρ1, e, h⟩ := wO.ex h
  exact es2_forCons e ((WqS.ok (fL_ok _ _ h)).imp (fun _ h => h.h) fun _ _ h => h)
instance y_for [WpI fi] : WqS (sFor fi g b) := ⟨fun ρ N R X => WpI.wp fi ρ fun ds ρ1 => At (EvS2 (forD g b ds) ρ1 N R X), fun {ρ N R X} h => by
  obtain ⟨ds, ρ1, e, h⟩ := WpI.ok h
  refine h.h.eq ?_
  unfold sFor
  simp only [e]⟩
end
instance y_app {j : Nat} {f : FE} [WqE f] : WqS (sApp j f) :=
  ⟨fun ρ N _ X => wOwn ρ[j]? fun _ => WqE.wq f ρ (fun d ρ1 => wOwn ρ1[j]? fun ys => ys.length < 100000 ∧ fL (ρ1.set j (some (.own (ys ++ [d])))) N) X, fun {ρ N R X} h => by
    obtain ⟨xs, e, h⟩ := h.ex
    rcases WqE.ok h with h | ⟨c, fs, ρ1, e1, q⟩
    · exact .inl (es_app e (h.imp fun _ _ h => by
        obtain ⟨ys, e, l, h⟩ := h.ex
        exact ⟨ys, e, l, fL_ok _ _ h⟩))
    · exact .inr ⟨c, fs, ρ1, by unfold sApp ifOwn bindES; simp only [e, e1], q⟩⟩
instance y_arr {n m : Nat} {dd : List Dt} {ar : List (Nat ⊕ Nat)} {r k : FA} [WpA r] [WpA k] : WqA (aArr n m dd ar r k) := y_A
/-! ### the asking def, run -/
instance p_why {tab : List (Str × List Str)} {cl : List (List Str × List Str)} {fe : FE} : WpE (eWhy tab cl fe) := ⟨fun ρ Q => At (EvE (eWhy tab cl fe) ρ Q), fun h => h.h, fun h k => h.mono fun h => h.imp k⟩
theorem why_run {tab : List (Str × List Str)} {cl : List (List Str × List Str)} {n : Nat} {g : FnD} {r : FA} {ρ : Rho} {Q : Dt → Rho → Prop}
    (h : EvA r ρ fun as ρ1 => ∃ ws, toWs ρ1 as = some ws ∧ ws.length = n ∧ slotsOf as = [] ∧ EvF2 g ws (fun w _ => ∃ d, w = .sh d ∧ Q (.tup [.str "told", d]) ρ1) (fun c fs => ∃ anc d, tab.lookup c = some anc ∧ (∀ ρ, eGo anc c fs cl ρ = some (.ok d, ρ)) ∧ Q d ρ1)) : EvE (eWhy tab cl (eFrz (wCall n g r))) ρ Q := by
  obtain ⟨as, ρ1, e, ws, e1, e2, e3, h⟩ := h
  have nd : (slotsOf as).Nodup := by rw [e3]; exact List.nodup_nil
  have pb : ∀ cs, putBack (slotsOf as) cs ρ1 = ρ1 := fun cs => by rw [e3]; rfl
  rcases h with ⟨w, cs, e4, d, rfl, q⟩ | ⟨c, fs, cs, e4, anc, d, ht, hg, q⟩
  · have k : eFrz (wCall n g r) ρ = some (.ok d, ρ1) := by
      unfold eFrz wCall bindAW
      simp only [e, e1, if_pos (And.intro e2 nd), e4, pb]
    exact ⟨_, ρ1, by unfold eWhy; rw [k], q⟩
  · have k : eFrz (wCall n g r) ρ = some (.ex c fs, ρ1) := by
      unfold eFrz wCall bindAW
      simp only [e, e1, if_pos (And.intro e2 nd), e4, pb]
    exact ⟨d, ρ1, by unfold eWhy; rw [k]; simp only [ht, hg], q⟩
end DL
namespace DL
open PySem PySem.Spec PyProof.Rows L2 RZ
/-! ### instances: methods, fields, making -/
structure MtAt (P : Program) (w : World) (K : PySem.W.Frag) (mg : Str → Option Value) (base : Heap) (k : Nat) (C m : Str) (n : Nat) (g : FnD) : Prop where
  ex : ∃ Ca f fd ps, PySem.W.nsIn K mainGlobals C = some (some (.ref Ca)) ∧ Cls K Ca ∧ Meth K Ca m f ∧ FnOk P w K mg base (L2.CX P w) k f fd ps (spF K n g) ∧ Binds K fd ps []
theorem MtAt.mono {P : Program} {w : World} {K : PySem.W.Frag} {mg : Str → Option Value} {base : Heap} {j k : Nat} {C m : Str} {n : Nat} {g : FnD} (h : MtAt P w K mg base j C m n g) (hk : j ≤ k) : MtAt P w K mg base k C m n g := by
  obtain ⟨Ca, f, fd, ps, a, b, c, d, e⟩ := h.ex
  exact ⟨Ca, f, fd, ps, a, b, c, d.mono hk, e⟩
structure MDefAt (K : PySem.W.Frag) (mg : Str → Option Value) (C m : Str) (st : Stmt) (ps : List Str) : Prop where
  ex : ∃ Ca f fd, PySem.W.nsIn K mainGlobals C = some (some (.ref Ca)) ∧ Cls K Ca ∧ Meth K Ca m f ∧ Fun K m (C ++ ("." : Str) ++ m) st f fd ∧ Binds K fd ps []
/-- by the form of a call: n positional values with the instance, keywords ks -/
structure MCallAt (P : Program) (w : World) (K : PySem.W.Frag) (mg : Str → Option Value) (base : Heap) (k : Nat) (C m : Str) (n : Nat) (ks : List Str) (ar : List (Nat ⊕ Nat)) (dd : List Dt) (np : Nat) (g : FnD) : Prop where
  ex : ∃ Ca f fd ps ds dvs, PySem.W.nsIn K mainGlobals C = some (some (.ref Ca)) ∧ Cls K Ca ∧ Meth K Ca m f ∧ FnOk P w K mg base (L2.CX P w) k f fd ps (spF K np g) ∧ KB K fd ps n ks ar ds ∧ Vals dvs ds ∧ ∀ F : Hp, Rps K F dd dvs
theorem MCallAt.mono {P : Program} {w : World} {K : PySem.W.Frag} {mg : Str → Option Value} {base : Heap} {j k : Nat} {C m : Str} {n : Nat} {ks : List Str} {ar : List (Nat ⊕ Nat)} {dd : List Dt} {np : Nat} {g : FnD} (h : MCallAt P w K mg base j C m n ks ar dd np g) (hk : j ≤ k) : MCallAt P w K mg base k C m n ks ar dd np g := by
  obtain ⟨Ca, f, fd, ps, ds, dvs, a, b, c, d, e⟩ := h.ex
  exact ⟨Ca, f, fd, ps, ds, dvs, a, b, c, d.mono hk, e⟩
structure MKDefAt (K : PySem.W.Frag) (mg : Str → Option Value) (C m : Str) (st : Stmt) (ps : List Str) (n : Nat) (ks : List Str) (ar : List (Nat ⊕ Nat)) (dd : List Dt) : Prop where
  ex : ∃ Ca f fd ds dvs, PySem.W.nsIn K mainGlobals C = some (some (.ref Ca)) ∧ Cls K Ca ∧ Meth K Ca m f ∧ Fun K m (C ++ ("." : Str) ++ m) st f fd ∧ KB K fd ps n ks ar ds ∧ Vals dvs ds ∧ ∀ F : Hp, Rps K F dd dvs
/-- a class that is made by its __init__ -/
structure MkAt (P : Program) (w : World) (K : PySem.W.Frag) (mg : Str → Option Value) (base : Heap) (k : Nat) (C : Str) (n : Nat) (g : FnD) : Prop where
  ex : ∃ Ca f fd ps, PySem.W.nsIn K mainGlobals C = some (some (.ref Ca)) ∧ mg C = some (.ref Ca) ∧ Mk K Ca f ∧ FnOk P w K mg base (L2.CX P w) k f fd ps (spF K n g) ∧ Binds K fd ps []
theorem MkAt.mono {P : Program} {w : World} {K : PySem.W.Frag} {mg : Str → Option Value} {base : Heap} {j k : Nat} {C : Str} {n : Nat} {g : FnD} (h : MkAt P w K mg base j C n g) (hk : j ≤ k) : MkAt P w K mg base k C n g := by
  obtain ⟨Ca, f, fd, ps, a, b, c, d, e⟩ := h.ex
  exact ⟨Ca, f, fd, ps, a, b, c, d.mono hk, e⟩
structure MkDefAt (K : PySem.W.Frag) (mg : Str → Option Value) (C : Str) (st : Stmt) (ps : List Str) : Prop where
  ex : ∃ Ca f fd, PySem.W.nsIn K mainGlobals C = some (some (.ref Ca)) ∧ mg C = some (.ref Ca) ∧ Mk K Ca f ∧ Fun K "__init__" (C ++ ("." : Str) ++ "__init__") st f fd ∧ Binds K fd ps []
/-- a field of a class's instances -/
structure FdAt (K : PySem.W.Frag) (C f : Str) : Prop where
  ex : ∃ Ca, PySem.W.nsIn K mainGlobals C = some (some (.ref Ca)) ∧ Cls K Ca ∧ NoAttr K Ca f
section
variable {P : Program} {w : World} {K : PySem.W.Frag} {mg : Str → Option Value} {base : Heap}
theorem mt_at {C m : Str} {st : Stmt} {N ps : List Str} {k : Nat} (bs : List Nat) {fb : FS} {qual : Str} (D : MDefAt K mg C m st ps) (hq : C ++ ("." : Str) ++ m = qual) (S : FnScope N ps (defScope st))
    (hb : ∀ (f : Addr) (cdv : Value) (A : Around) (outer : List Env) (s : Shared) (H : Hp) (E : XK) (Z : Pt), (∀ j, j ∈ Z.bs → j ∈ bs) → Room k (A.deeper (envOfC qual (defScope st) s.heap.objs.size f cdv)) →
      PSs (cxOf (L2.CX P w) P w K mg base N qual (defScope st) f cdv A outer s H E) (defBody st) (LS K Z (fun cls d _ H => E cls d H) fb)) :
    MtAt P w K mg base (k + 1) C m ps.length (callF N.length bs fb) := by
  subst hq
  obtain ⟨Ca, f, fd, a, b, c, F, d⟩ := D.ex
  exact ⟨Ca, f, fd, ps, a, b, c, fn_okD bs F S (hb f), d⟩
theorem mt_atK {C m : Str} {st : Stmt} {N ps : List Str} {k n : Nat} {ks : List Str} {ar : List (Nat ⊕ Nat)} {dd : List Dt} (bs : List Nat) {fb : FS} {qual : Str} (D : MKDefAt K mg C m st ps n ks ar dd) (hq : C ++ ("." : Str) ++ m = qual) (S : FnScope N ps (defScope st))
    (hb : ∀ (f : Addr) (cdv : Value) (A : Around) (outer : List Env) (s : Shared) (H : Hp) (E : XK) (Z : Pt), (∀ j, j ∈ Z.bs → j ∈ bs) → Room k (A.deeper (envOfC qual (defScope st) s.heap.objs.size f cdv)) →
      PSs (cxOf (L2.CX P w) P w K mg base N qual (defScope st) f cdv A outer s H E) (defBody st) (LS K Z (fun cls d _ H => E cls d H) fb)) :
    MCallAt P w K mg base (k + 1) C m n ks ar dd ps.length (callF N.length bs fb) := by
  subst hq
  obtain ⟨Ca, f, fd, ds, dvs, a, b, c, F, d⟩ := D.ex
  exact ⟨Ca, f, fd, ps, ds, dvs, a, b, c, fn_okD bs F S (hb f), d⟩
theorem mk_at {C : Str} {st : Stmt} {N ps : List Str} {k : Nat} (bs : List Nat) {fb : FS} {qual : Str} (D : MkDefAt K mg C st ps) (hq : C ++ ("." : Str) ++ "__init__" = qual) (S : FnScope N ps (defScope st))
    (hb : ∀ (f : Addr) (cdv : Value) (A : Around) (outer : List Env) (s : Shared) (H : Hp) (E : XK) (Z : Pt), (∀ j, j ∈ Z.bs → j ∈ bs) → Room k (A.deeper (envOfC qual (defScope st) s.heap.objs.size f cdv)) →
      PSs (cxOf (L2.CX P w) P w K mg base N qual (defScope st) f cdv A outer s H E) (defBody st) (LS K Z (fun cls d _ H => E cls d H) fb)) :
    MkAt P w K mg base (k + 1) C ps.length (callF N.length bs fb) := by
  subst hq
  obtain ⟨Ca, f, fd, a, b, c, F, d⟩ := D.ex
  exact ⟨Ca, f, fd, ps, a, b, c, fn_okD bs F S (hb f), d⟩
end
/-! what is said of the instance -/
def lookS {α : Type} (f : Str) : List (Str × α) → Option α
  | [] => none
  | (g, x) :: r => if g = f then some x else lookS f r
theorem lookS_eq {α : Type} (f : Str) : ∀ fs : List (Str × α), fs.lookup f = lookS f fs
  | [] => rfl
  | (g, x) :: r => by
    unfold lookS
    by_cases h : g = f
    · subst h; simp [List.lookup]
    · rw [if_neg h, List.lookup_cons, show (f == g) = false from beq_eq_false_iff_ne.mpr fun e => h e.symm]
      exact lookS_eq f r
def clsOk (C m : Str) : Dt → Bool
  | .obj D fs => decide (D = C) && (lookS m fs).isNone
  | _ => false
def clsT (C m : Str) : Tr → Bool
  | .nd (.ob D fs) _ => decide (D = C) && !(fs.contains m)
  | _ => false
theorem lookS_keys {α β : Type} {f : Str} : ∀ {fs : List (Str × α)} {gs : List (Str × β)}, gs.map (·.1) = fs.map (·.1) → lookS f fs = none → lookS f gs = none
  | [], [], _, _ => rfl
  | [], _ :: _, e, _ => by simp at e
  | _ :: _, [], e, _ => by simp at e
  | (a, x) :: fs, (b, y) :: gs, e, h => by
    simp only [List.map_cons, List.cons.injEq] at e
    obtain ⟨e1, e2⟩ := e
    subst e1
    unfold lookS at h ⊢
    split at h
    · cases h
    · rename_i z; rw [if_neg z]; exact lookS_keys e2 h
theorem lookS_get {K : PySem.W.Frag} {F : Hp} {f : Str} : ∀ {fs : List (Str × Dt)} {gs : List (Str × V)} {d : Dt}, gs.map (·.1) = fs.map (·.1) → Rps K F (fs.map (·.2)) (gs.map (·.2)) → lookS f fs = some d → ∃ v, lookS f gs = some v ∧ Rp K F d v
  | [], [], _, _, _, h => by cases h
  | [], _ :: _, _, e, _, _ => by simp at e
  | _ :: _, [], _, e, _, _ => by simp at e
  | (a, x) :: fs, (b, y) :: gs, d, e, r, h => by
    simp only [List.map_cons, List.cons.injEq] at e
    obtain ⟨e1, e2⟩ := e
    subst e1
    simp only [List.map_cons] at r
    cases r with
    | cons r1 r2 =>
      unfold lookS at h ⊢
      split at h
      · rename_i z; cases h; rw [if_pos z]; exact ⟨y, rfl, r1⟩
      · rename_i z; rw [if_neg z]; exact lookS_get e2 r2 h
theorem clsOk_ok {K : PySem.W.Frag} {F H : Hp} (s : Same F H) {C m : Str} {d : Dt} {x : V} {Ca : Addr} (hC : PySem.W.nsIn K mainGlobals C = some (some (.ref Ca))) (h : Rp K F d x) (e : clsOk C m d = true) : ∃ a dx gs, x = .ref a ∧ H a = some (.ins Ca dx gs) ∧ gs.lookup m = none := by
  cases h with
  | obj c hq hk hr =>
    unfold clsOk at e
    rw [Bool.and_eq_true] at e
    obtain ⟨e1, e2⟩ := e
    have e1 := of_decide_eq_true e1
    subst e1
    rw [hC] at c
    cases c
    refine ⟨_, _, _, rfl, s _ _ hq, ?_⟩
    rw [lookS_eq]
    exact lookS_keys hk (by simpa using e2)
  | _ => cases e
theorem look_none {f : Str} : ∀ {gs : List (Str × V)} {fs : List Str}, gs.map (·.1) = fs → fs.contains f = false → gs.lookup f = none
  | [], _, _, _ => rfl
  | (g, x) :: gs, fs, e, h => by
    subst e
    rw [List.map_cons, List.contains_cons, Bool.or_eq_false_iff] at h
    rw [List.lookup_cons, h.1]
    exact look_none rfl h.2
theorem clsT_ok {K : PySem.W.Frag} {F H : Hp} {C m : Str} {t : Tr} {x : V} {Ca : Addr} (hC : PySem.W.nsIn K mainGlobals C = some (some (.ref Ca))) (h : RT K F H t x) (e : clsT C m t = true) : ∃ a dx gs, x = .ref a ∧ H a = some (.ins Ca dx gs) ∧ gs.lookup m = none := by
  cases h with
  | sh h => cases e
  | nd h1 h2 h3 r =>
    rename_i k ts p o
    cases k with
    | ob D fs =>
      unfold clsT at e
      rw [Bool.and_eq_true] at e
      have e1 := of_decide_eq_true e.1
      subst e1
      cases o with
      | ins Cb dx gs =>
        obtain ⟨n1, n2⟩ := h3
        rw [hC] at n1
        cases n1
        exact ⟨_, _, _, rfl, h2, look_none n2 (by simpa using e.2)⟩
      | _ => exact h3.elim
    | _ => cases e
/-! ### methods -/
def aCons (a : Av) (fa : FA) : FA := fun ρ => match fa ρ with
  | none => none
  | some (.ok as, ρ1) => some (.ok (a :: as), ρ1)
  | some (.ex C fs, ρ1) => some (.ex C fs, ρ1)
def wMeth (C m : Str) (n : Nat) (g : FnD) (fo : FE) (fa : FA) : FW := bindEW fo fun d => if clsOk C m d = true then wCall n g (aCons (.val d) fa) else fun _ => none
def wMethK (C m : Str) (n nk : Nat) (dd : List Dt) (ar : List (Nat ⊕ Nat)) (np : Nat) (g : FnD) (fo : FE) (fa fk : FA) : FW := bindEW fo fun d => if clsOk C m d = true then wCall np g (aArr n nk dd ar (aCons (.val d) fa) fk) else fun _ => none
def wMethS (C m : Str) (n : Nat) (g : FnD) (j : Nat) (fa : FA) : FW := fun ρ => match ρ[j]? with
  | some (some (.tr t)) => if clsT C m t = true then wCall n g (aCons (.slot j) fa) ρ else none
  | _ => none
theorem tCallS_cons {X : Cx} {P : Pt} {Wx : WX} {n : Nat} {g : FnD} {a : Av} {fa : FA} {σ : L2.St} {F H : Hp} {ρ : Rho} {Q : VK} {x : V} (r : Rel X.K P F H σ ρ) (ha : ∀ (F' H' : Hp) (ρ' : Rho) (as : List Av) (vs : List V), Same F F' → Rel X.K P F' H' σ ρ' → Avs X.K P F' H' σ ρ' as vs → Avs X.K P F' H' σ ρ' (a :: as) (x :: vs))
    (q : postW X.K P Wx σ F Q (wCall n g (aCons a fa) ρ)) : LA X.K P Wx fa σ H fun vs H1 => spF X.K n g (x :: vs) H1 Q (WE Wx σ) := by
  refine ⟨F, ρ, r, ?_⟩
  unfold wCall bindAW aCons at q
  match e : fa ρ with
  | none => simp only [e] at q; exact q.elim
  | some (.ex C fs, ρ1) => simp only [e] at q; exact q
  | some (.ok as, ρ1) =>
    simp only [e] at q
    intro F1 H1 vs s1 r1 p1
    exact call_sp r1 (ha F1 H1 ρ1 as vs s1 r1 p1) (postW.mono s1 q)
section
variable {X : Cx} {P : Pt} {Wx : WX} {pos p apos : Pos} {e o : Expr} {es : List Expr} {kws : List Keyword} {fo : FE} {fa fk : FA} {k n np : Nat} {ks : List Str} {g : FnD} {C m x : Str} {ar : List (Nat ⊕ Nat)} {dd : List Dt}
theorem val_cons {P : Pt} {F : Hp} {σ : L2.St} {d : Dt} {x : V} (h : Rp X.K F d x) (F' H' : Hp) (ρ' : Rho) (as : List Av) (vs : List V) (s : Same F F') (_ : Rel X.K P F' H' σ ρ') (a : Avs X.K P F' H' σ ρ' as vs) : Avs X.K P F' H' σ ρ' (.val d :: as) (x :: vs) := .val (h.mono s) a
theorem w_meth {pl : Sem Bool} (h : MtAt X.prog X.w X.K X.mg X.base k C m n g) (hr : Room k X.A) (tk : Takes X Wx) (ho : PE X o (LE X.K P Wx fo)) (ha : PA X (e :: es) (LA X.K P Wx fa))
    (hst : starEach (e :: es) X.env = (false, eval e X.env) :: starEach es X.env := by rfl) (hpl : (backTo pos (starEach es X.env)).any (·.1) = false := by rfl)
    (ht : eval (.Call (.Attribute o m apos) (e :: es) [] pos) X.env = (do let ov ← eval o X.env; standAt apos.atName; let (f, first) ← holding [ov] (getMethod ov m pl); callWith pos f first (backTo pos (starEach (e :: es) X.env)) (backToKw pos (keywordEach [] X.env))) := by rfl) :
    PE X (.Call (.Attribute o m apos) (e :: es) [] pos) (LW X.K P Wx (wMeth C m n g fo fa)) := by
  obtain ⟨Ca, f, fd, ps, hC, hc, hm, G, hb⟩ := h.ex
  refine ⟨fun pins s σ H Q I q => PySem.W.methodCall_KW (pl := pl) ?_ ht⟩
  obtain ⟨F, ρ, r, q⟩ := q
  refine thn (ho.run pins s σ H (fun x H1 => (∃ a dx gs, x = .ref a ∧ H1 a = some (.ins Ca dx gs) ∧ gs.lookup m = none) ∧ LA X.K P Wx fa σ H1 fun vs H2 => spF X.K n g (x :: vs) H2 Q (WE Wx σ)) I (LE.bindW r q fun d ρ1 F1 H1 v s1 r1 p1 q1 => ?_)) fun u s1 ⟨x, H1, I1, rx, ⟨a, dx, gs, ex, ea, l⟩, qa⟩ => ?_
  · split at q1
    · rename_i ok
      exact ⟨clsOk_ok r1.fh hC p1 ok, tCallS_cons r1 (val_cons p1) q1⟩
    · exact q1.elim
  · subst ex
    obtain rfl : u = Value.ref a := rx
    refine getmeth_ok I1 ea hc hm l (PySem.W.callWith_K (first := [.ref a]) (h₀ := X.base) I.ok.mod.kin hm.kp (thn (ha.run pos pins s1 σ H1 _ I1 qa) fun us s2 ⟨vs, H2, I2, rv, q2⟩ => ⟨I2.kIn, ?_⟩) hst hpl)
    exact run_fnS (us := .ref a :: us) (vs := .ref a :: vs) G hr hb (passAt tk σ) I2 (.cons rfl rv) q2
theorem w_meth0 {pl : Sem Bool} (h : MtAt X.prog X.w X.K X.mg X.base k C m n g) (hr : Room k X.A) (tk : Takes X Wx) (ho : PE X o (LE X.K P Wx fo))
    (ht : eval (.Call (.Attribute o m apos) [] [] pos) X.env = (do let ov ← eval o X.env; standAt apos.atName; let (f, first) ← holding [ov] (getMethod ov m pl); callWith pos f first (backTo pos (starEach [] X.env)) (backToKw pos (keywordEach [] X.env))) := by rfl) :
    PE X (.Call (.Attribute o m apos) [] [] pos) (LW X.K P Wx (wMeth C m n g fo aNil)) := by
  obtain ⟨Ca, f, fd, ps, hC, hc, hm, G, hb⟩ := h.ex
  refine ⟨fun pins s σ H Q I q => PySem.W.methodCall_KW (pl := pl) ?_ ht⟩
  obtain ⟨F, ρ, r, q⟩ := q
  refine thn (ho.run pins s σ H (fun x H1 => (∃ a dx gs, x = .ref a ∧ H1 a = some (.ins Ca dx gs) ∧ gs.lookup m = none) ∧ spF X.K n g [x] H1 Q (WE Wx σ)) I (LE.bindW r q fun d ρ1 F1 H1 v s1 r1 p1 q1 => ?_)) fun u s1 ⟨x, H1, I1, rx, ⟨a, dx, gs, ex, ea, l⟩, qa⟩ => ?_
  · split at q1
    · rename_i ok
      refine ⟨clsOk_ok r1.fh hC p1 ok, ?_⟩
      obtain ⟨F2, ρ2, r2, q2⟩ := tCallS_cons (fa := aNil) r1 (val_cons p1) q1
      exact q2 F2 H1 [] (.refl _) r2 .nil
    · exact q1.elim
  · subst ex
    obtain rfl : u = Value.ref a := rx
    exact getmeth_ok I1 ea hc hm l (PySem.W.callWith_K0 (first := [.ref a]) I1.kIn hm.kp (run_fnS (us := [.ref a]) (vs := [.ref a]) G hr hb (passAt tk σ) I1 (.cons rfl .nil) qa))
/-! with keywords -/
theorem LA_kwC {σ : L2.St} {F H : Hp} {ρ : Rho} {Q : VK} {a : Av} {x : V} {dvs : List V} (hd : ∀ F : Hp, Rps X.K F dd dvs) (r : Rel X.K P F H σ ρ) (ha : ∀ (F' H' : Hp) (ρ' : Rho) (as : List Av) (vs : List V), Same F F' → Rel X.K P F' H' σ ρ' → Avs X.K P F' H' σ ρ' as vs → Avs X.K P F' H' σ ρ' (a :: as) (x :: vs))
    (q : postW X.K P Wx σ F Q (wCall np g (aArr n ks.length dd ar (aCons a fa) fk) ρ)) :
    LA X.K P Wx fa σ H fun vs H1 => LA X.K P Wx fk σ H1 fun zs H2 => (x :: vs).length = n ∧ zs.length = ks.length ∧ spF X.K np g (arrL dvs ar ((x :: vs) ++ zs)) H2 Q (WE Wx σ) := by
  refine ⟨F, ρ, r, ?_⟩
  unfold wCall bindAW aArr aCons at q
  match e1 : fa ρ with
  | none => simp only [e1] at q; exact q.elim
  | some (.ex C fs, ρ1) => simp only [e1] at q; exact q
  | some (.ok as, ρ1) =>
    simp only [e1] at q
    intro F1 H1 vs s1 r1 p0
    have p1 := ha F1 H1 ρ1 as vs s1 r1 p0
    by_cases hn : noTmp (a :: as) = true ∧ (a :: as).length = n
    · simp only [if_pos hn] at q
      refine ⟨F1, ρ1, r1, ?_⟩
      match e2 : fk ρ1 with
      | none => simp only [e2] at q; exact q.elim
      | some (.ex C fs, ρ2) => simp only [e2] at q; exact fun F' H' cls dd a => q F' H' cls dd (s1.trans a)
      | some (.ok bs, ρ2) =>
        simp only [e2] at q
        intro F2 H2 zs s2 r2 p2
        by_cases hm : noTmp ((a :: as) ++ bs) = true ∧ bs.length = ks.length
        · simp only [if_pos hm] at q
          refine ⟨by rw [← avs_len p1]; exact hn.2, by rw [← avs_len p2]; exact hm.2, ?_⟩
          have pa := avs_app (avs_move (F' := F2) (H' := H2) (ρ' := ρ2) s2 p1 hn.1) hn.1 p2
          exact call_sp r2 (avs_arr pa hm.1 (hd F2) ar) (postW.mono (s1.trans s2) q)
        · simp only [if_neg hm] at q; exact q.elim
    · simp only [if_neg hn] at q; exact q.elim
theorem w_methK {pl : Sem Bool} (h : MCallAt X.prog X.w X.K X.mg X.base k C m n ks ar dd np g) (hr : Room k X.A) (tk : Takes X Wx) (ho : PE X o (LE X.K P Wx fo)) (ha : PA X (e :: es) (LA X.K P Wx fa)) (hk : PK X kws (LA X.K P Wx fk))
    (hall : (backToKw pos (keywordEach kws X.env)).all (·.1.isSome) = true := by rfl) (hks : (backToKw pos (keywordEach kws X.env)).filterMap (·.1) = ks := by rfl) (he : starEach (e :: es) X.env = (false, eval e X.env) :: starEach es X.env := by rfl)
    (hpl : ((backTo pos (starEach (e :: es) X.env)).any (·.1) || (backToKw pos (keywordEach kws X.env)).any (·.1.isNone)) = false := by rfl)
    (ht : eval (.Call (.Attribute o m apos) (e :: es) kws pos) X.env = (do let ov ← eval o X.env; standAt apos.atName; let (f, first) ← holding [ov] (getMethod ov m pl); callWith pos f first (backTo pos (starEach (e :: es) X.env)) (backToKw pos (keywordEach kws X.env))) := by rfl) :
    PE X (.Call (.Attribute o m apos) (e :: es) kws pos) (LW X.K P Wx (wMethK C m n ks.length dd ar np g fo fa fk)) := by
  obtain ⟨Ca, f, fd, ps, ds, dvs, hC, hc, hm, G, hb, hv, hd⟩ := h.ex
  refine ⟨fun pins s σ H Q I q => PySem.W.methodCall_KW (pl := pl) ?_ ht⟩
  obtain ⟨F, ρ, r, q⟩ := q
  refine thn (ho.run pins s σ H (fun x H1 => (∃ a dx gs, x = .ref a ∧ H1 a = some (.ins Ca dx gs) ∧ gs.lookup m = none) ∧ LA X.K P Wx fa σ H1 fun vs H2 => LA X.K P Wx fk σ H2 fun zs H3 => (x :: vs).length = n ∧ zs.length = ks.length ∧ spF X.K np g (arrL dvs ar ((x :: vs) ++ zs)) H3 Q (WE Wx σ)) I (LE.bindW r q fun d ρ1 F1 H1 v s1 r1 p1 q1 => ?_)) fun u s1 ⟨x, H1, I1, rx, ⟨a, dx, gs, ex, ea, l⟩, qa⟩ => ?_
  · split at q1
    · rename_i ok
      exact ⟨clsOk_ok r1.fh hC p1 ok, LA_kwC hd r1 (val_cons p1) q1⟩
    · exact q1.elim
  · subst ex
    obtain rfl : u = Value.ref a := rx
    refine getmeth_ok I1 ea hc hm l (PySem.W.callWith_KW (first := [.ref a]) (h₀ := X.base) I.ok.mod.kin hm.kp hall ?_ hpl he)
    refine thn (ha.run pos pins s1 σ H1 _ I1 qa) fun us s2 ⟨vs, H2, I2, rv, q1⟩ => ?_
    refine thn (hk.run pos pins s2 σ H2 _ I2 q1) fun ws s3 ⟨zs, H3, I3, rz, l1, l2, q2⟩ => ⟨I3.kIn, ?_⟩
    rw [hks]
    exact run_kb (us := .ref a :: us) (vs := .ref a :: vs) G hr hb hv tk I3 (.cons rfl rv) rz l1 l2 q2
theorem w_methK1 {pl : Sem Bool} (h : MCallAt X.prog X.w X.K X.mg X.base k C m n [] ar dd np g) (hr : Room k X.A) (tk : Takes X Wx) (ho : PE X o (LE X.K P Wx fo)) (ha : PA X (e :: es) (LA X.K P Wx fa))
    (he : starEach (e :: es) X.env = (false, eval e X.env) :: starEach es X.env := by rfl) (hpl : (backTo pos (starEach es X.env)).any (·.1) = false := by rfl)
    (ht : eval (.Call (.Attribute o m apos) (e :: es) [] pos) X.env = (do let ov ← eval o X.env; standAt apos.atName; let (f, first) ← holding [ov] (getMethod ov m pl); callWith pos f first (backTo pos (starEach (e :: es) X.env)) (backToKw pos (keywordEach [] X.env))) := by rfl) :
    PE X (.Call (.Attribute o m apos) (e :: es) [] pos) (LW X.K P Wx (wMethK C m n 0 dd ar np g fo fa aNil)) := by
  obtain ⟨Ca, f, fd, ps, ds, dvs, hC, hc, hm, G, hb, hv, hd⟩ := h.ex
  refine ⟨fun pins s σ H Q I q => PySem.W.methodCall_KW (pl := pl) ?_ ht⟩
  obtain ⟨F, ρ, r, q⟩ := q
  refine thn (ho.run pins s σ H (fun x H1 => (∃ a dx gs, x = .ref a ∧ H1 a = some (.ins Ca dx gs) ∧ gs.lookup m = none) ∧ LA X.K P Wx fa σ H1 fun vs H2 => (x :: vs).length = n ∧ spF X.K np g (arrL dvs ar ((x :: vs) ++ [])) H2 Q (WE Wx σ)) I (LE.bindW r q fun d ρ1 F1 H1 v s1 r1 p1 q1 => ?_)) fun u s1 ⟨x, H1, I1, rx, ⟨a, dx, gs, ex, ea, l⟩, qa⟩ => ?_
  · split at q1
    · rename_i ok
      refine ⟨clsOk_ok r1.fh hC p1 ok, ?_⟩
      obtain ⟨F2, ρ2, r2, q2⟩ := LA_kwC (ks := []) (fk := aNil) hd r1 (val_cons p1) q1
      refine ⟨F2, ρ2, r2, ?_⟩
      match z : fa ρ2 with
      | none => rw [z] at q2; exact q2.elim
      | some (.ex C fs, ρ3) => rw [z] at q2; exact q2
      | some (.ok as, ρ3) =>
        rw [z] at q2
        intro F3 H3 vs s3 r3 p3
        obtain ⟨F4, ρ4, r4, q4⟩ := q2 F3 H3 vs s3 r3 p3
        obtain ⟨z1, _, z3⟩ := q4 F4 H3 [] (.refl _) r4 .nil
        exact ⟨z1, z3⟩
    · exact q1.elim
  · subst ex
    obtain rfl : u = Value.ref a := rx
    refine getmeth_ok I1 ea hc hm l (PySem.W.callWith_K (first := [.ref a]) (h₀ := X.base) I.ok.mod.kin hm.kp (thn (ha.run pos pins s1 σ H1 _ I1 qa) fun us s2 ⟨vs, H2, I2, rv, l1, q2⟩ => ⟨I2.kIn, ?_⟩) he hpl)
    exact run_kb (us := .ref a :: us) (vs := .ref a :: vs) (ws := []) (ks := []) G hr hb hv tk I2 (.cons rfl rv) .nil l1 rfl q2
end
/-! ### fields -/
def dFld (C f : Str) : Dt → Option Dt
  | .obj D fs => if D = C then lookS f fs else none
  | _ => none
def eFld (C f : Str) (fo : FE) : FE := eUn (dFld C f) fo
/-- a field of an own instance, itself not own -/
def fldT (C f : Str) : Tr → Option Dt
  | .nd (.ob D fs) ts => if D = C then (match lookS f (fs.zip ts) with
    | some (.sh d) => some d
    | _ => none) else none
  | _ => none
def eFldS (C f : Str) (j : Nat) : FE := fun ρ => match ρ[j]? with
  | some (some (.tr t)) => (match fldT C f t with
    | some d => some (.ok d, ρ)
    | none => none)
  | _ => none
theorem lookS_tree {K : PySem.W.Frag} {F H : Hp} {f : Str} : ∀ {fs : List Str} {ts : List Tr} {gs : List (Str × V)} {t : Tr}, gs.map (·.1) = fs → RTs K F H ts (gs.map (·.2)) → lookS f (fs.zip ts) = some t → ∃ v, lookS f gs = some v ∧ RT K F H t v
  | [], _, [], _, _, _, h => by cases h
  | [], _, _ :: _, _, e, _, _ => by simp at e
  | _ :: _, _, [], _, e, _, _ => by simp at e
  | a :: fs, ts, (b, y) :: gs, t, e, r, h => by
    simp only [List.map_cons, List.cons.injEq] at e
    obtain ⟨e1, e2⟩ := e
    subst e1
    simp only [List.map_cons] at r
    cases r with
    | cons r1 r2 =>
      simp only [List.zip_cons_cons] at h
      unfold lookS at h ⊢
      split at h
      · rename_i z; cases h; rw [if_pos z]; exact ⟨y, rfl, r1⟩
      · rename_i z; rw [if_neg z]; exact lookS_tree e2 r2 h
section
variable {X : Cx} {P : Pt} {Wx : WX} {pos pos' : Pos} {o e : Expr} {fo : FE} {C f : Str}
theorem d_fld (h : FdAt X.K C f) (ho : PE X o (LE X.K P Wx fo)) (hb : attributeBase o f X.env (eval o X.env) = eval o X.env := by rfl) : PE X (.Attribute o f pos) (LE X.K P Wx (eFld C f fo)) := PEm (pe_fld ho hb) fun σ H Q q => by
  obtain ⟨Ca, hC, hc, hn⟩ := h.ex
  obtain ⟨F, ρ, r, q⟩ := q
  refine LE.bind r q fun d ρ1 F1 H1 x s1 r1 p1 q1 => ?_
  cases eo : dFld C f d with
  | none => rw [eo] at q1; exact q1.elim
  | some g =>
    rw [eo] at q1
    cases p1 with
    | obj c hq hk hr =>
      unfold dFld at eo
      simp only [] at eo
      split at eo
      · rename_i z
        subst z
        rw [hC] at c
        cases c
        obtain ⟨v, e1, e2⟩ := lookS_get hk hr eo
        exact ⟨_, _, _, _, v, rfl, r1.fh _ _ hq, hc, hn, by rw [lookS_eq]; exact e1, q1 F1 H1 v (.refl _) r1 e2⟩
      · cases eo
    | _ => cases eo
theorem d_fldS (j : Nat) {x : Str} (h : FdAt X.K C f) (hb : attributeBase (.Name x pos') f X.env (eval (.Name x pos') X.env) = eval (.Name x pos') X.env := by rfl) (hN : X.N[j]? = some x := by rfl) (hv : Vis X.env.scope x := by first | exact Or.inl rfl | exact Or.inr (Or.inl rfl) | exact Or.inr (Or.inr rfl)) (hd : (x == ("__debug__" : Str)) = false := by decide)
    (hcd : (x == ("__classdict__" : Str)) = false := by decide) : PE X (.Attribute (.Name x pos') f pos) (LE X.K P Wx (eFldS C f j)) := PEm (pe_fld (pe_var hN hv hd hcd) hb) fun σ H Q q => by
  obtain ⟨Ca, hC, hc, hn⟩ := h.ex
  obtain ⟨F, ρ, r, q⟩ := q
  unfold eFldS at q
  match e : ρ[j]? with
  | none => simp only [e] at q; exact q.elim
  | some none => simp only [e] at q; exact q.elim
  | some (some (.sh d)) => simp only [e] at q; exact q.elim
  | some (some (.own d)) => simp only [e] at q; exact q.elim
  | some (some (.tr t)) =>
    simp only [e] at q
    cases ef : fldT C f t with
    | none => simp only [ef] at q; exact q.elim
    | some d =>
      simp only [ef] at q
      obtain ⟨v, ev, sw⟩ := r.slot j _ e
      refine ⟨v, ev, ?_⟩
      obtain ⟨rt, _⟩ := sw.ok
      cases rt with
      | sh _ => cases ef
      | @nd k ts p ob h1 h2 h3 rr =>
        cases k with
        | ob D fs =>
          unfold fldT at ef
          simp only [] at ef
          split at ef
          · rename_i z
            subst z
            split at ef
            · rename_i d' el
              cases ef
              cases ob with
              | ins Cb dx gs =>
                obtain ⟨n1, n2⟩ := h3
                rw [hC] at n1
                cases n1
                obtain ⟨w, w1, w2⟩ := lookS_tree n2 rr el
                cases w2 with
                | sh w2 => exact ⟨_, _, _, _, w, rfl, h2, hc, hn, by rw [lookS_eq]; exact w1, q F H w (.refl _) r w2⟩
              | _ => exact h3.elim
            · cases ef
          · cases ef
        | _ => cases ef
end
end DL
namespace DL
open PySem PySem.Spec PyProof.Rows L2 RZ
/-! ### places within a tree -/
def subT : Tr → List Nat → Option Tr
  | t, [] => some t
  | .nd _ ts, i :: π => (match ts[i]? with
    | some t => subT t π
    | none => none)
  | .sh _, _ :: _ => none
def subV (H : Hp) : V → List Nat → Option V
  | v, [] => some v
  | .ref p, i :: π => (match (kidsAt H p)[i]? with
    | some v => subV H v π
    | none => none)
  | _, _ :: _ => none
def setAt : Tr → List Nat → Tr → Tr
  | _, [], n => n
  | .nd k ts, i :: π, n => (match ts[i]? with
    | some t => .nd k (ts.set i (setAt t π n))
    | none => .nd k ts)
  | .sh d, _ :: _, _ => .sh d
section
variable {K : PySem.W.Frag} {F H H' : Hp}
theorem RTs.get : ∀ {ts : List Tr} {vs : List V} {i : Nat} {t : Tr}, RTs K F H ts vs → ts[i]? = some t → ∃ v, vs[i]? = some v ∧ RT K F H t v
  | _, _, _, _, .nil, e => by simp at e
  | _, _, 0, _, .cons h _, e => by simp at e; subst e; exact ⟨_, rfl, h⟩
  | _, _, i + 1, t, .cons _ r, e => by
    obtain ⟨v, a, b⟩ := RTs.get (i := i) (t := t) r (by simpa using e)
    exact ⟨v, by simpa using a, b⟩
theorem fpTs_mem : ∀ {ts : List Tr} {vs : List V} {i : Nat} {t : Tr} {v : V} {p : Addr}, ts[i]? = some t → vs[i]? = some v → p ∈ fpT H t v → p ∈ fpTs H ts vs
  | [], _, _, _, _, _, e, _, _ => by simp at e
  | _ :: _, [], _, _, _, _, _, e, _ => by simp at e
  | t :: ts, v :: vs, 0, _, _, p, e1, e2, m => by
    simp at e1 e2; subst e1; subst e2
    rw [fpTs]
    exact List.mem_append_left _ m
  | t :: ts, v :: vs, i + 1, t', v', p, e1, e2, m => by
    rw [fpTs]
    exact List.mem_append_right _ (fpTs_mem (i := i) (t := t') (v := v') (by simpa using e1) (by simpa using e2) m)
/-- a place's value is there -/
theorem RT.sub : ∀ {π : List Nat} {t t0 : Tr} {x : V}, RT K F H t x → subT t π = some t0 → ∃ v, subV H x π = some v ∧ RT K F H t0 v ∧ ∀ p ∈ fpT H t0 v, p ∈ fpT H t x
  | [], t, t0, x, h, e => by
    rw [subT] at e
    cases e
    exact ⟨x, by rw [subV], h, fun p m => m⟩
  | i :: π, t, t0, x, h, e => by
    cases h with
    | sh h => rw [subT] at e; cases e
    | @nd k ts p o h1 h2 h3 r =>
      rw [subT] at e
      cases q : ts[i]? with
      | none => rw [q] at e; cases e
      | some u =>
        rw [q] at e
        obtain ⟨y, e1, e2⟩ := r.get q
        obtain ⟨v, f1, f2, f3⟩ := RT.sub (π := π) e2 e
        refine ⟨v, ?_, f2, fun p' m => ?_⟩
        · rw [subV]
          unfold kidsAt
          rw [h2]
          simp only []
          rw [e1]
          exact f1
        · rw [fpT_nd h2]
          exact List.mem_cons_of_mem _ (fpTs_mem q e1 (f3 p' m))
/-- a child is changed -/
theorem RTs.chg {E : List Addr} {p : Addr} {t' : Tr} {y : V} (hH : ∀ q, q ≠ p → H' q = H q) : ∀ {ts : List Tr} {vs : List V} {i : Nat} {t0 : Tr}, RTs K F H ts vs → (fpTs H ts vs).Nodup → (∀ q ∈ E, q ∉ fpTs H ts vs) → ts[i]? = some t0 → vs[i]? = some y → p ∈ fpT H t0 y → RT K F H' t' y → (fpT H' t' y).Nodup → (∀ q ∈ fpT H' t' y, q ∈ fpT H t0 y ∨ q ∈ E) →
    RTs K F H' (ts.set i t') vs ∧ (fpTs H' (ts.set i t') vs).Nodup ∧ ∀ q ∈ fpTs H' (ts.set i t') vs, q ∈ fpTs H ts vs ∨ q ∈ E
  | _, _, _, _, .nil, _, _, e, _, _, _, _, _ => by simp at e
  | _, _, 0, t0, .cons (t := t) (v := v) (ts := ts) (vs := vs) h r, nd, hE, e1, e2, m, h', nd', s' => by
    simp at e1 e2; subst e1; subst e2
    rw [fpTs] at nd hE
    obtain ⟨n1, n2, n3⟩ := List.nodup_append.mp nd
    have off : ∀ q ∈ fpTs H ts vs, q ≠ p := fun q mq z => n3 p m q mq z.symm
    obtain ⟨a, b⟩ := r.map (H' := H') (.refl F) (fun q mq => (r.at_ mq).1) fun q mq => hH q (off q mq)
    show RTs K F H' (t' :: ts) (v :: vs) ∧ (fpTs H' (t' :: ts) (v :: vs)).Nodup ∧ ∀ q ∈ fpTs H' (t' :: ts) (v :: vs), q ∈ fpTs H (t :: ts) (v :: vs) ∨ q ∈ E
    rw [fpTs, fpTs, b]
    refine ⟨.cons h' a, List.nodup_append.mpr ⟨nd', n2, fun q mq q' mq' z => ?_⟩, fun q mq => ?_⟩
    · subst z
      rcases s' q mq with z | z
      · exact n3 q z q mq' rfl
      · exact hE q z (List.mem_append_right _ mq')
    · rcases List.mem_append.mp mq with z | z
      · rcases s' q z with z | z
        · exact .inl (List.mem_append_left _ z)
        · exact .inr z
      · exact .inl (List.mem_append_right _ z)
  | _, _, i + 1, t0, .cons (t := t) (v := v) (ts := ts) (vs := vs) h r, nd, hE, e1, e2, m, h', nd', s' => by
    rw [fpTs] at nd hE
    obtain ⟨n1, n2, n3⟩ := List.nodup_append.mp nd
    have e1' : ts[i]? = some t0 := by simpa using e1
    have e2' : vs[i]? = some y := by simpa using e2
    obtain ⟨a, b, c⟩ := RTs.chg (i := i) (t' := t') (y := y) (p := p) (E := E) hH r n2 (fun q z z' => hE q z (List.mem_append_right _ z')) e1' e2' m h' nd' s'
    have pin := fpTs_mem e1' e2' m
    obtain ⟨a1, b1⟩ := h.map (H' := H') (.refl F) (fun q mq => (h.at_ mq).1) fun q mq => hH q fun z => by subst z; exact n3 q mq q pin rfl
    show RTs K F H' (t :: ts.set i t') (v :: vs) ∧ (fpTs H' (t :: ts.set i t') (v :: vs)).Nodup ∧ ∀ q ∈ fpTs H' (t :: ts.set i t') (v :: vs), q ∈ fpTs H (t :: ts) (v :: vs) ∨ q ∈ E
    rw [fpTs, fpTs, b1]
    refine ⟨.cons a1 a, List.nodup_append.mpr ⟨n1, b, fun q mq q' mq' z => ?_⟩, fun q mq => ?_⟩
    · subst z
      rcases c q mq' with z | z
      · exact n3 q mq q z rfl
      · exact hE q z (List.mem_append_left _ mq)
    · rcases List.mem_append.mp mq with z | z
      · exact .inl (List.mem_append_left _ z)
      · rcases c q z with z | z
        · exact .inl (List.mem_append_right _ z)
        · exact .inr z
/-- the thing at a place is changed -/
theorem RT.chg {E : List Addr} {p : Addr} {n : Tr} (hH : ∀ q, q ≠ p → H' q = H q) : ∀ {π : List Nat} {t t0 : Tr} {x : V}, RT K F H t x → (fpT H t x).Nodup → (∀ q ∈ E, q ∉ fpT H t x) → subT t π = some t0 → subV H x π = some (.ref p) → p ∈ fpT H t0 (.ref p) →
    RT K F H' n (.ref p) → (fpT H' n (.ref p)).Nodup → (∀ q ∈ fpT H' n (.ref p), q ∈ fpT H t0 (.ref p) ∨ q ∈ E) →
    RT K F H' (setAt t π n) x ∧ (fpT H' (setAt t π n) x).Nodup ∧ ∀ q ∈ fpT H' (setAt t π n) x, q ∈ fpT H t x ∨ q ∈ E
  | [], t, t0, x, h, nn, hE, e1, e2, m, h', nn', s' => by
    rw [subT] at e1
    rw [subV] at e2
    cases e1
    cases e2
    rw [setAt]
    exact ⟨h', nn', s'⟩
  | i :: π, t, t0, x, h, nn, hE, e1, e2, m, h', nn', s' => by
    cases h with
    | sh h => rw [subT] at e1; cases e1
    | @nd k ts a o h1 h2 h3 r =>
      rw [subT] at e1
      cases q : ts[i]? with
      | none => rw [q] at e1; cases e1
      | some u =>
        rw [q] at e1
        obtain ⟨y, f1, f2⟩ := r.get q
        have e2' : subV H y π = some (.ref p) := by
          rw [subV] at e2
          unfold kidsAt at e2
          rw [h2] at e2
          simp only [] at e2
          rw [f1] at e2
          exact e2
        rw [fpT_nd h2] at nn hE
        obtain ⟨n1, n2⟩ := List.nodup_cons.mp nn
        obtain ⟨v, g1, g2, g3⟩ := f2.sub e1
        rw [e2'] at g1
        cases g1
        have pu := g3 p m
        have pin := fpTs_mem q f1 pu
        have ap : a ≠ p := fun z => by subst z; exact n1 pin
        have ndu : (fpT H u y).Nodup := by
          have : ∀ {ts : List Tr} {vs : List V} {i : Nat}, (fpTs H ts vs).Nodup → ts[i]? = some u → vs[i]? = some y → (fpT H u y).Nodup := by
            intro ts
            induction ts with
            | nil => intro vs i _ e; simp at e
            | cons t ts ih =>
              intro vs i nn e e'
              cases vs with
              | nil => simp at e'
              | cons v vs =>
                rw [fpTs] at nn
                obtain ⟨z1, z2, _⟩ := List.nodup_append.mp nn
                cases i with
                | zero => simp at e e'; subst e; subst e'; exact z1
                | succ i => exact ih z2 (by simpa using e) (by simpa using e')
          exact this n2 q f1
        obtain ⟨c1, c2, c3⟩ := RT.chg (π := π) hH f2 ndu (fun w z z' => hE w z (List.mem_cons_of_mem _ (fpTs_mem q f1 z'))) e1 e2' m h' nn' s'
        obtain ⟨d1, d2, d3⟩ := RTs.chg hH r n2 (fun w z z' => hE w z (List.mem_cons_of_mem _ z')) q f1 pu c1 c2 c3
        have h2' : H' a = some o := by rw [hH a ap]; exact h2
        rw [setAt, q]
        simp only []
        rw [fpT_nd h2', fpT_nd h2]
        refine ⟨.nd h1 h2' h3 d1, List.nodup_cons.mpr ⟨fun z => ?_, d2⟩, fun w mw => ?_⟩
        · rcases d3 a z with z | z
          · exact n1 z
          · exact hE a z List.mem_cons_self
        · rcases List.mem_cons.mp mw with z | z
          · exact .inl (by rw [z]; exact List.mem_cons_self)
          · rcases d3 w z with z | z
            · exact .inl (List.mem_cons_of_mem _ z)
            · exact .inr z
theorem subV_same : ∀ {π : List Nat} {t t0 : Tr} {x : V}, RT K F H t x → subT t π = some t0 → (∀ p ∈ fpT H t x, H' p = H p) → subV H' x π = subV H x π
  | [], _, _, _, _, _, _ => by rw [subV, subV]
  | i :: π, t, t0, x, h, e, hh => by
    cases h with
    | sh h => rw [subT] at e; cases e
    | @nd k ts p o h1 h2 h3 r =>
      rw [subT] at e
      rw [fpT_nd h2] at hh
      cases q : ts[i]? with
      | none => rw [q] at e; cases e
      | some u =>
        rw [q] at e
        obtain ⟨y, e1, e2⟩ := r.get q
        have h2' : H' p = some o := by rw [hh p List.mem_cons_self]; exact h2
        rw [subV, subV]
        unfold kidsAt
        rw [h2', h2]
        simp only []
        rw [e1]
        exact subV_same e2 e fun p' m => hh p' (List.mem_cons_of_mem _ (fpTs_mem q e1 m))
theorem subT_app : ∀ {π : List Nat} {t : Tr} {k : Nk} {ts : List Tr} {u : Tr} {n : Nat}, subT t π = some (.nd k ts) → ts[n]? = some u → subT t (π ++ [n]) = some u
  | [], t, k, ts, u, n, e, q => by
    rw [subT] at e
    cases e
    show subT (.nd k ts) [n] = some u
    rw [subT, q]
    simp only []
    rw [subT]
  | i :: π, t, k, ts, u, n, e, q => by
    cases t with
    | sh d => rw [subT] at e; cases e
    | nd k1 ts1 =>
      rw [subT] at e
      show subT (.nd k1 ts1) (i :: (π ++ [n])) = some u
      rw [subT]
      cases z : ts1[i]? with
      | none => rw [z] at e; cases e
      | some y => rw [z] at e; exact subT_app e q
theorem subV_app : ∀ {π : List Nat} {x : V} {p : Addr} {v : V} {n : Nat}, subV H x π = some (.ref p) → (kidsAt H p)[n]? = some v → subV H x (π ++ [n]) = some v
  | [], x, p, v, n, e, q => by
    rw [subV] at e
    cases e
    show subV H (.ref p) [n] = some v
    rw [subV, q]
    simp only []
    rw [subV]
  | i :: π, x, p, v, n, e, q => by
    cases x with
    | ref a =>
      rw [subV] at e
      show subV H (.ref a) (i :: (π ++ [n])) = some v
      rw [subV]
      cases z : (kidsAt H a)[i]? with
      | none => rw [z] at e; cases e
      | some y => rw [z] at e; exact subV_app e q
    | _ => rw [subV] at e <;> first | cases e | (intros; contradiction)
theorem RTs.append : ∀ {ts us : List Tr} {vs ws : List V}, RTs K F H ts vs → RTs K F H us ws → RTs K F H (ts ++ us) (vs ++ ws) ∧ fpTs H (ts ++ us) (vs ++ ws) = fpTs H ts vs ++ fpTs H us ws
  | _, us, _, ws, .nil, s => ⟨s, by rw [show fpTs H [] [] = [] from by rw [fpTs]]; rfl⟩
  | _, us, _, ws, .cons (t := t) (ts := ts) (v := v) (vs := vs) h r, s => by
    obtain ⟨a, b⟩ := RTs.append r s
    refine ⟨.cons h a, ?_⟩
    show fpTs H (t :: (ts ++ us)) (v :: (vs ++ ws)) = fpTs H (t :: ts) (v :: vs) ++ fpTs H us ws
    rw [fpTs, fpTs, b, List.append_assoc]
theorem RTs.put {t : Tr} {v : V} (h : RT K F H t v) (nn : (fpT H t v).Nodup) : ∀ {ts : List Tr} {vs : List V} (n : Nat), RTs K F H ts vs → (fpTs H ts vs).Nodup → (∀ q ∈ fpT H t v, q ∉ fpTs H ts vs) → RTs K F H (ts.set n t) (vs.set n v) ∧ (fpTs H (ts.set n t) (vs.set n v)).Nodup ∧ ∀ q ∈ fpTs H (ts.set n t) (vs.set n v), q ∈ fpTs H ts vs ∨ q ∈ fpT H t v
  | _, _, _, .nil, n1, _ => ⟨.nil, n1, fun q m => .inl m⟩
  | _, _, 0, .cons (t := t1) (ts := ts) (v := v1) (vs := vs) h1 r, n1, d => by
    rw [fpTs] at n1 d
    obtain ⟨z1, z2, z3⟩ := List.nodup_append.mp n1
    show RTs K F H (t :: ts) (v :: vs) ∧ (fpTs H (t :: ts) (v :: vs)).Nodup ∧ ∀ q ∈ fpTs H (t :: ts) (v :: vs), q ∈ fpTs H (t1 :: ts) (v1 :: vs) ∨ q ∈ fpT H t v
    rw [fpTs, fpTs]
    refine ⟨.cons h r, List.nodup_append.mpr ⟨nn, z2, fun q mq q' mq' z => ?_⟩, fun q mq => ?_⟩
    · subst z; exact d q mq (List.mem_append_right _ mq')
    · rcases List.mem_append.mp mq with z | z
      · exact .inr z
      · exact .inl (List.mem_append_right _ z)
  | _, _, n + 1, .cons (t := t1) (ts := ts) (v := v1) (vs := vs) h1 r, n1, d => by
    rw [fpTs] at n1 d
    obtain ⟨z1, z2, z3⟩ := List.nodup_append.mp n1
    obtain ⟨a, b, c⟩ := RTs.put h nn n r z2 fun q m m' => d q m (List.mem_append_right _ m')
    show RTs K F H (t1 :: ts.set n t) (v1 :: vs.set n v) ∧ (fpTs H (t1 :: ts.set n t) (v1 :: vs.set n v)).Nodup ∧ ∀ q ∈ fpTs H (t1 :: ts.set n t) (v1 :: vs.set n v), q ∈ fpTs H (t1 :: ts) (v1 :: vs) ∨ q ∈ fpT H t v
    rw [fpTs, fpTs]
    refine ⟨.cons h1 a, List.nodup_append.mpr ⟨z1, b, fun q mq q' mq' z => ?_⟩, fun q mq => ?_⟩
    · subst z
      rcases c q mq' with z | z
      · exact z3 q mq q z rfl
      · exact d q z (List.mem_append_left _ mq)
    · rcases List.mem_append.mp mq with z | z
      · exact .inl (List.mem_append_left _ z)
      · rcases c q z with z | z
        · exact .inl (List.mem_append_right _ z)
        · exact .inr z
end
/-- a thing as a tree -/
def asT : Wt → Tr
  | .sh d => .sh d
  | .own xs => .nd .lst (xs.map Tr.sh)
  | .tr t => t
section
variable {K : PySem.W.Frag} {P : Pt} {F H : Hp} {σ : L2.St} {ρ : Rho}
theorem rts_sh : ∀ {xs : List Dt} {vs : List V}, Rps K F xs vs → RTs K F H (xs.map Tr.sh) vs ∧ fpTs H (xs.map Tr.sh) vs = []
  | _, _, .nil => ⟨.nil, by rw [List.map_nil, fpTs]⟩
  | _, _, .cons h r => by
    obtain ⟨a, b⟩ := rts_sh r
    rw [List.map_cons, fpTs, b, fpT]
    exact ⟨.cons (.sh h) a, rfl⟩
theorem OkW.tree {v : V} {w : Wt} (h : OkW K F H v w) : RT K F H (asT w) v ∧ fpT H (asT w) v = fpW H w v := by
  cases w with
  | sh d => exact ⟨.sh h, by rw [asT, fpT]; rfl⟩
  | own xs =>
    obtain ⟨p, vs, rfl, h1, h2, h3⟩ := h
    obtain ⟨a, b⟩ := rts_sh (H := H) h3
    exact ⟨.nd h1 h2 trivial a, by rw [asT, fpT_nd h2]; simp only [kids]; rw [b]; rfl⟩
  | tr t => exact ⟨h.1, rfl⟩
/-- a node of a slot's tree is changed -/
theorem Rel.node {E : List Addr} {j : Nat} {t : Tr} {x : V} {π : List Nat} {p : Addr} {k k' : Nk} {ts ts' : List Tr} {o o' : HO} (R : Rel K P F H σ ρ) (hj : ρ[j]? = some (some (.tr t))) (hx : σ[j]? = some (some x)) (h1 : subT t π = some (.nd k ts)) (h2 : subV H x π = some (.ref p)) (ho : H p = some o)
    (hk : NkOk K k' o') (hr : RTs K F H ts' (kids o')) (hn : (fpTs H ts' (kids o')).Nodup) (hs : ∀ q ∈ fpTs H ts' (kids o'), q ∈ fpTs H ts (kids o) ∨ q ∈ E)
    (hE : ∀ q ∈ E, P.H0 q = none ∧ ∀ (i : Nat) (u : Wt) (y : V), ρ[i]? = some (some u) → σ[i]? = some (some y) → q ∉ fpW H u y) : Rel K P F (upd H p o') σ (ρ.set j (some (.tr (setAt t π (.nd k' ts'))))) := by
  obtain ⟨rt, nn⟩ := (R.at_ hj hx).ok
  obtain ⟨v, e1, e2, e3⟩ := rt.sub h1
  rw [h2] at e1
  cases e1
  have pin : p ∈ fpT H (.nd k ts) (.ref p) := by rw [fpT_nd ho]; exact List.mem_cons_self
  have px : p ∈ fpT H t x := e3 p pin
  obtain ⟨fp0, _⟩ := rt.at_ px
  have nnode : ¬ p ∈ fpTs H ts (kids o) := by
    have : ∀ {π : List Nat} {t : Tr} {x : V}, RT K F H t x → (fpT H t x).Nodup → subT t π = some (.nd k ts) → subV H x π = some (.ref p) → (fpT H (.nd k ts) (.ref p)).Nodup := by
      intro π
      induction π with
      | nil => intro t x _ n a b; rw [subT] at a; rw [subV] at b; cases a; cases b; exact n
      | cons i π ih =>
        intro t x r n a b
        cases r with
        | sh h => rw [subT] at a; cases a
        | @nd k1 ts1 a1 o1 z1 z2 z3 r1 =>
          rw [subT] at a
          cases q : ts1[i]? with
          | none => rw [q] at a; cases a
          | some u =>
            rw [q] at a
            obtain ⟨y, f1, f2⟩ := r1.get q
            rw [subV] at b
            unfold kidsAt at b
            rw [z2] at b
            simp only [] at b
            rw [f1] at b
            rw [fpT_nd z2] at n
            have n2 := (List.nodup_cons.mp n).2
            have nu : ∀ {ts : List Tr} {vs : List V} {i : Nat}, (fpTs H ts vs).Nodup → ts[i]? = some u → vs[i]? = some y → (fpT H u y).Nodup := by
              intro ts
              induction ts with
              | nil => intro vs i _ e; simp at e
              | cons t ts ih =>
                intro vs i nn e e'
                cases vs with
                | nil => simp at e'
                | cons v vs =>
                  rw [fpTs] at nn
                  obtain ⟨z1, z2, _⟩ := List.nodup_append.mp nn
                  cases i with
                  | zero => simp at e e'; subst e; subst e'; exact z1
                  | succ i => exact ih z2 (by simpa using e) (by simpa using e')
            exact ih f2 (nu n2 q f1) a b
    have := this rt nn h1 h2
    rw [fpT_nd ho] at this
    exact (List.nodup_cons.mp this).1
  have pE : p ∉ E := fun m => (hE p m).2 j _ x hj hx px
  have pk : p ∉ fpTs H ts' (kids o') := fun m => by
    rcases hs p m with z | z
    · exact nnode z
    · exact pE z
  obtain ⟨a1, a2⟩ := hr.map (H' := upd H p o') (.refl F) (fun q m => (hr.at_ m).1) fun q m => upd_ne fun z => by subst z; exact pk m
  have hn' : RT K F (upd H p o') (.nd k' ts') (.ref p) := .nd fp0 upd_same hk a1
  have fe : fpT (upd H p o') (.nd k' ts') (.ref p) = p :: fpTs H ts' (kids o') := by rw [fpT_nd upd_same, a2]
  obtain ⟨b1, b2, b3⟩ := RT.chg (H' := upd H p o') (E := E) (n := .nd k' ts') (fun q z => upd_ne z) rt nn (fun q m => (hE q m).2 j _ x hj hx) h1 h2 pin hn' (by rw [fe]; exact List.nodup_cons.mpr ⟨pk, hn⟩) (fun q m => by
    rw [fe] at m
    rcases List.mem_cons.mp m with z | z
    · subst z; exact .inl pin
    · rcases hs q z with z | z
      · exact .inl (by rw [fpT_nd ho]; exact List.mem_cons_of_mem _ z)
      · exact .inr z)
  refine R.chg hj hx rfl (fun q u e m => ?_) (fun q u e => ?_) (.refl _) (fun q u e => ?_) (fun q u e => .inl e) ⟨b1, b2⟩ fun q m => ?_
  · rw [upd_ne]
    · exact e
    · intro z; subst z; exact m px
  · by_cases z : q = p
    · subst z; exact ⟨_, upd_same⟩
    · exact ⟨u, by rw [upd_ne z]; exact e⟩
  · rw [upd_ne]
    · exact R.fh q u e
    · intro z; subst z; rw [fp0] at e; cases e
  · rcases b3 q m with z | z
    · exact .inl z
    · exact .inr (hE q z)
end
end DL
namespace DL
open PySem PySem.Spec PyProof.Rows L2 RZ
/-! ### an expression that leads to a place of a slot's tree -/
abbrev FF := Rho → Option (Nat × List Nat)
def Here (ρ : Rho) (σ : L2.St) (H : Hp) (j : Nat) (π : List Nat) (v : V) : Prop := ∃ t x, ρ[j]? = some (some (.tr t)) ∧ σ[j]? = some (some x) ∧ (∃ t0, subT t π = some t0) ∧ subV H x π = some v
section
variable (K : PySem.W.Frag) (P : Pt)
def postFc (Fp H : Hp) (σ : L2.St) (ρ : Rho) (Q : VK) : Option (Nat × List Nat) → Prop
  | none => False
  | some (j, π) => ∀ F' H' v, Grow Fp H F' H' → Here ρ σ H' j π v → Q v H'
def LF (f : FF) : TE := fun σ H Q => ∃ F ρ Fp, View K P F H σ ρ Fp ∧ postFc Fp H σ ρ Q (f ρ)
end
theorem Here.grow {K : PySem.W.Frag} {P : Pt} {F H Fp F' H' : Hp} {σ : L2.St} {ρ : Rho} {j : Nat} {π : List Nat} {v : V} (w : View K P F H σ ρ Fp) (g : Grow Fp H F' H') (h : Here ρ σ H j π v) : Here ρ σ H' j π v := by
  obtain ⟨t, x, a, b, ⟨t0, c⟩, d⟩ := h
  refine ⟨t, x, a, b, ⟨t0, c⟩, ?_⟩
  obtain ⟨rt, _⟩ := (w.r.at_ a b).ok
  rw [subV_same rt c fun p m => ?_]
  · exact d
  · obtain ⟨_, o, e, _⟩ := rt.at_ m
    rw [e, g.h _ _ e]
def fVar (j : Nat) : FF := fun ρ => match ρ[j]? with
  | some (some (.tr _)) => some (j, [])
  | _ => none
def kidIx (ρ : Rho) (j : Nat) (π : List Nat) (z : Int) : Option Nat := match ρ[j]? with
  | some (some (.tr t)) => (match subT t π with
    | some (.nd .lst ts) => ixN ts.length z
    | _ => none)
  | _ => none
def keyIx (k : Key) : List Key → Option Nat
  | [] => none
  | q :: ks => if q = k then some 0 else (keyIx k ks).map (· + 1)
def kidKey (ρ : Rho) (j : Nat) (π : List Nat) (k : Key) : Option Nat := match ρ[j]? with
  | some (some (.tr t)) => (match subT t π with
    | some (.nd (.dk ks) ts) => if ks.length = ts.length then keyIx k ks else none
    | _ => none)
  | _ => none
def fIx (f : FF) (i : FQ) : FF := fun ρ => match f ρ with
  | some (j, π) => (match i ρ with
    | some (.ok (.int z)) => (match kidIx ρ j π z with
      | some n => some (j, π ++ [n])
      | none => none)
    | _ => none)
  | none => none
def fKey (f : FF) (k : Str) : FF := fun ρ => match f ρ with
  | some (j, π) => (match kidKey ρ j π (.inr k) with
    | some n => some (j, π ++ [n])
    | none => none)
  | none => none
theorem ixN_lt {l : Nat} {z : Int} {n : Nat} (h : ixN l z = some n) : n < l := (ixN_seq h).2.1
theorem keyIx_get {ks : List Key} : ∀ {k : Key} {n : Nat} {gs : List (Key × V)}, gs.map (·.1) = ks → keyIx k ks = some n → ∃ v, gs[n]? = some (k, v) ∧ valV gs k = some v := by
  induction ks with
  | nil => intro k n gs _ h; cases h
  | cons q ks ih =>
    intro k n gs e h
    cases gs with
    | nil => simp at e
    | cons g gs =>
      simp only [List.map_cons, List.cons.injEq] at e
      obtain ⟨e1, e2⟩ := e
      unfold keyIx at h
      split at h
      · rename_i z
        cases h
        refine ⟨g.2, ?_, ?_⟩
        · simp only [List.getElem?_cons_zero]
          rw [← z, ← e1]
        · exact valV_pos (e1.trans z)
      · rename_i z
        cases hk : keyIx k ks with
        | none => rw [hk] at h; cases h
        | some m =>
          rw [hk] at h
          cases h
          obtain ⟨v, a, b⟩ := ih e2 hk
          refine ⟨v, by simpa using a, ?_⟩
          rw [show valV (g :: gs) k = valV gs k from ?_]
          · exact b
          · unfold valV
            rw [List.find?_cons, show decide (g.1 = k) = false from decide_eq_false fun y => z (e1.symm.trans y)]
section
variable {X : Cx} {P : Pt} {Wx : WX} {pos : Pos} {a b : Expr} {f : FF} {fi : FQ}
theorem f_var (j : Nat) {x : Str} (hN : X.N[j]? = some x := by rfl) (hv : Vis X.env.scope x := by first | exact Or.inl rfl | exact Or.inr (Or.inl rfl) | exact Or.inr (Or.inr rfl)) (hd : (x == ("__debug__" : Str)) = false := by decide)
    (hcd : (x == ("__classdict__" : Str)) = false := by decide) : PE X (.Name x pos) (LF X.K P (fVar j)) := PEm (pe_var hN hv hd hcd) fun σ H Q h => by
  obtain ⟨F, ρ, Fp, w, q⟩ := h
  unfold fVar at q
  match e : ρ[j]? with
  | none => simp only [e] at q; exact q.elim
  | some none => simp only [e] at q; exact q.elim
  | some (some (.sh d)) => simp only [e] at q; exact q.elim
  | some (some (.own d)) => simp only [e] at q; exact q.elim
  | some (some (.tr t)) =>
    simp only [e] at q
    obtain ⟨v, ev, _⟩ := w.r.slot j _ e
    exact ⟨v, ev, q Fp H v (Grow.refl w.sh) ⟨t, v, e, ev, ⟨t, by rw [subT]⟩, by rw [subV]⟩⟩
theorem LF.bind {f : FF} {σ : L2.St} {F H Fp : Hp} {ρ : Rho} {R : VK} (w : View X.K P F H σ ρ Fp) (h : match f ρ with | none => False | some (j, π) => ∀ F' H' v, Grow Fp H F' H' → View X.K P F H' σ ρ F' → Here ρ σ H' j π v → R v H') : LF X.K P f σ H R := by
  refine ⟨F, ρ, Fp, w, ?_⟩
  match e : f ρ with
  | none => rw [e] at h; exact h
  | some (j, π) => rw [e] at h; exact fun F' H' v g hh => h F' H' v g (w.grow g) hh
theorem f_ix (ha : PE X a (LF X.K P f)) (hb : PE X b (LQ X.K P Wx fi)) (hs : PlainIx b := by exact fun _ _ => rfl) : PE X (.Subscript a b pos) (LF X.K P (fIx f fi)) := PEm (pe_ix ix_seq ha hb hs) fun σ H Q h => by
  obtain ⟨F, ρ, Fp, w, q⟩ := h
  unfold fIx at q
  refine LF.bind w ?_
  match e : f ρ with
  | none => simp only [e] at q; exact q.elim
  | some (j, π) =>
    simp only [e] at q
    intro F1 H1 v g1 w1 h1
    refine ⟨F, ρ, F1, w1, ?_⟩
    match e2 : fi ρ with
    | none => simp only [e2] at q; exact q.elim
    | some (.ex _ _) => simp only [e2] at q; exact q.elim
    | some (.ok d) =>
      intro F2 H2 y g2 p2
      have w2 := w1.grow g2
      have h2 := h1.grow w1 g2
      cases p2 with
      | int z =>
        simp only [e2] at q
        cases hk : kidIx ρ j π z with
        | none => simp only [hk] at q; exact q.elim
        | some n =>
          simp only [hk] at q
          obtain ⟨t, x, a1, a2, ⟨t0, a3⟩, a4⟩ := h2
          unfold kidIx at hk
          rw [a1] at hk
          simp only [] at hk
          obtain ⟨rt, _⟩ := (w2.r.at_ a1 a2).ok
          obtain ⟨v', b1, b2, _⟩ := rt.sub a3
          rw [a4] at b1
          cases b1
          rw [a3] at hk
          cases b2 with
          | sh _ => cases hk
          | @nd k ts p o c1 c2 c3 r =>
            cases k with
            | lst =>
              cases o with
              | lst vs =>
                simp only [] at hk
                have hl := r.length
                have hn := ixN_lt hk
                have q1 : ts[n]? = some ts[n] := List.getElem?_eq_getElem hn
                obtain ⟨u, d1, d2⟩ := r.get q1
                refine .inl ⟨p, vs, z, u, rfl, rfl, .inl (.inl c2), ?_, q F2 H2 u (g1.trans g2) ⟨t, x, a1, a2, ⟨_, subT_app a3 q1⟩, subV_app a4 ?_⟩⟩
                · unfold L2.atI
                  rw [show vs.length = ts.length from hl.symm, hk]
                  exact d1
                · unfold kidsAt
                  rw [c2]
                  exact d1
              | _ => exact c3.elim
            | _ => cases hk
      | _ => simp only [e2] at q; exact q.elim
theorem f_key {k : Str} {c : Nat} {p2 : Pos} (hu : X.A.units + 1 < cLine) (ha : PE X a (LF X.K P f)) (hs : NoSl (.Constant (.str k) c p2) := by exact fun _ _ => rfl) : PE X (.Subscript a (.Constant (.str k) c p2) pos) (LF X.K P (fKey f k)) := PEm (pe_dget hu ha pe_str hs) fun σ H Q h => by
  obtain ⟨F, ρ, Fp, w, q⟩ := h
  unfold fKey at q
  refine LF.bind w ?_
  match e : f ρ with
  | none => simp only [e] at q; exact q.elim
  | some (j, π) =>
    simp only [e] at q
    intro F1 H1 v g1 w1 h1
    cases hk : kidKey ρ j π (.inr k) with
    | none => simp only [hk] at q; exact q.elim
    | some n =>
      simp only [hk] at q
      obtain ⟨t, x, a1, a2, ⟨t0, a3⟩, a4⟩ := h1
      unfold kidKey at hk
      rw [a1] at hk
      simp only [] at hk
      obtain ⟨rt, _⟩ := (w1.r.at_ a1 a2).ok
      obtain ⟨v', b1, b2, _⟩ := rt.sub a3
      rw [a4] at b1
      cases b1
      rw [a3] at hk
      cases b2 with
      | sh _ => cases hk
      | @nd kk ts p o c1 c2 c3 r =>
        cases kk with
        | dk ks =>
          cases o with
          | dK gs =>
            simp only [] at hk
            split at hk
            · rename_i hlen
              obtain ⟨u, d1, d2⟩ := keyIx_get (gs := gs) c3 hk
              have d3 : (gs.map (·.2))[n]? = some u := by rw [List.getElem?_map, d1]; rfl
              have hn : n < ts.length := by
                have := (List.getElem?_eq_some_iff.mp d3).1
                have hl := r.length
                simp only [kids] at hl
                omega
              refine ⟨p, u, rfl, .inl ⟨gs, .inr k, .inl c2, rfl, d2.symm⟩, q F1 H1 u g1 ⟨t, x, a1, a2, ⟨_, subT_app a3 (List.getElem?_eq_getElem hn)⟩, subV_app a4 ?_⟩⟩
              unfold kidsAt
              rw [c2]
              exact d3
            · cases hk
          | _ => exact c3.elim
        | _ => cases hk
end
/-! ### changes at a place -/
def nodeAct (j : Nat) (π : List Nat) (act : Nk → List Tr → Option (Nk × List Tr)) (ρ : Rho) : Option Rho := match ρ[j]? with
  | some (some (.tr t)) => (match subT t π with
    | some (.nd k ts) => (match act k ts with
      | some (k', ts') => some (ρ.set j (some (.tr (setAt t π (.nd k' ts')))))
      | none => none)
    | _ => none)
  | _ => none
theorem nodeAct_ex {j : Nat} {π : List Nat} {act : Nk → List Tr → Option (Nk × List Tr)} {ρ ρ' : Rho} (h : nodeAct j π act ρ = some ρ') : ∃ t k ts k' ts', ρ[j]? = some (some (.tr t)) ∧ subT t π = some (.nd k ts) ∧ act k ts = some (k', ts') ∧ ρ' = ρ.set j (some (.tr (setAt t π (.nd k' ts')))) := by
  unfold nodeAct at h
  split at h
  · rename_i t e
    split at h
    · rename_i k ts e2
      split at h
      · rename_i k' ts' e3
        cases h
        exact ⟨t, k, ts, k', ts', e, e2, e3, rfl⟩
      · cases h
    · cases h
  · cases h
def actApp (t : Tr) : Nk → List Tr → Option (Nk × List Tr)
  | .lst, ts => if ts.length < 100000 then some (.lst, ts ++ [t]) else none
  | _, _ => none
def actPut (z : Int) (t : Tr) : Nk → List Tr → Option (Nk × List Tr)
  | .lst, ts => (match ixN ts.length z with
    | some n => some (.lst, ts.set n t)
    | none => none)
  | _, _ => none
/-- F.append(e), e looked at quietly -/
def sAppQ (f : FF) (fq : FQ) : FS := fun ρ => match f ρ with
  | some (j, π) => (match fq ρ with
    | some (.ok d) => if flatT d = true then (match nodeAct j π (actApp (.sh d)) ρ with
      | some ρ' => some (.nx, ρ')
      | none => none) else none
    | _ => none)
  | none => none
/-- F.append([]) -/
def sAppN (f : FF) : FS := fun ρ => match f ρ with
  | some (j, π) => (match nodeAct j π (actApp (.nd .lst [])) ρ with
    | some ρ' => some (.nx, ρ')
    | none => none)
  | none => none
/-- F[i] = e -/
def sPutF (f : FF) (fi : FQ) (fe : FE) : FS := bindES fe fun d ρ => match f ρ with
  | some (j, π) => (match fi ρ with
    | some (.ok (.int z)) => (match nodeAct j π (actPut z (.sh d)) ρ with
      | some ρ' => some (.nx, ρ')
      | none => none)
    | _ => none)
  | none => none
section
variable {X : Cx} {P : Pt} {Wx : WX} {pos pos' apos cpos : Pos} {o e i : Expr} {f : FF} {fq fi : FQ} {fe : FE}
theorem lst_node {K : PySem.W.Frag} {F H : Hp} {σ : L2.St} {ρ : Rho} {j : Nat} {π : List Nat} {v : V} {t : Tr} {ts : List Tr} (r : Rel K P F H σ ρ) (h : Here ρ σ H j π v) (e : ρ[j]? = some (some (.tr t))) (e2 : subT t π = some (.nd .lst ts)) : ∃ x p vs, σ[j]? = some (some x) ∧ v = .ref p ∧ subV H x π = some (.ref p) ∧ H p = some (.lst vs) ∧ RTs K F H ts vs ∧ (fpTs H ts vs).Nodup := by
  obtain ⟨t', x, a1, a2, ⟨t0, a3⟩, a4⟩ := h
  rw [e] at a1
  cases a1
  rw [e2] at a3
  cases a3
  obtain ⟨rt, nn⟩ := (r.at_ e a2).ok
  obtain ⟨v', b1, b2, b3⟩ := rt.sub e2
  rw [a4] at b1
  cases b1
  have key : ∀ {π : List Nat} {t : Tr} {x v : V}, RT K F H t x → (fpT H t x).Nodup → subT t π = some (.nd .lst ts) → subV H x π = some v → (fpT H (.nd .lst ts) v).Nodup := by
    intro π
    induction π with
    | nil => intro t x v _ n a b; rw [subT] at a; rw [subV] at b; cases a; cases b; exact n
    | cons i π ih =>
      intro t x v r n a b
      cases r with
      | sh h => rw [subT] at a; cases a
      | @nd k1 ts1 a1 o1 z1 z2 z3 r1 =>
        rw [subT] at a
        cases q : ts1[i]? with
        | none => rw [q] at a; cases a
        | some u =>
          rw [q] at a
          obtain ⟨y, f1, f2⟩ := r1.get q
          rw [subV] at b
          unfold kidsAt at b
          rw [z2] at b
          simp only [] at b
          rw [f1] at b
          rw [fpT_nd z2] at n
          have n2 := (List.nodup_cons.mp n).2
          have nu : ∀ {ts : List Tr} {vs : List V} {i : Nat}, (fpTs H ts vs).Nodup → ts[i]? = some u → vs[i]? = some y → (fpT H u y).Nodup := by
            intro ts
            induction ts with
            | nil => intro vs i _ e; simp at e
            | cons t ts ih =>
              intro vs i nn e e'
              cases vs with
              | nil => simp at e'
              | cons v vs =>
                rw [fpTs] at nn
                obtain ⟨z1, z2, _⟩ := List.nodup_append.mp nn
                cases i with
                | zero => simp at e e'; subst e; subst e'; exact z1
                | succ i => exact ih z2 (by simpa using e) (by simpa using e')
          exact ih f2 (nu n2 q f1) a b
  have nd := key rt nn e2 a4
  cases b2 with
  | @nd k ts p o c1 c2 c3 rr =>
    cases o with
    | lst vs =>
      rw [fpT_nd c2] at nd
      exact ⟨x, p, vs, a2, rfl, a4, c2, rr, (List.nodup_cons.mp nd).2⟩
    | _ => exact c3.elim
theorem app_node {K : PySem.W.Frag} {F H : Hp} {σ : L2.St} {ρ ρ' : Rho} {j : Nat} {π : List Nat} {v y : V} {w : Wt} (r : Rel K P F H σ ρ) (h : Here ρ σ H j π v) (hw : ResW K P F H σ ρ y w) (ha : nodeAct j π (actApp (asT w)) ρ = some ρ') : ∃ p vs, v = .ref p ∧ H p = some (.lst vs) ∧ vs.length < 100000 ∧ Rel K P F (upd H p (.lst (vs ++ [y]))) σ ρ' := by
  obtain ⟨t, k, ts, k', ts', e1, e2, e3, rfl⟩ := nodeAct_ex ha
  cases k with
  | lst =>
    unfold actApp at e3
    simp only [] at e3
    split at e3
    · rename_i hl
      cases e3
      obtain ⟨x, p, vs, a1, a2, a3, a4, a5, a6⟩ := lst_node r h e1 e2
      obtain ⟨b1, b2⟩ := hw.ok.tree
      have hf : fpTs H [asT w] [y] = fpW H w y := by rw [fpTs, fpTs, List.append_nil, b2]
      obtain ⟨c1, c2⟩ := a5.append (RTs.cons b1 .nil)
      rw [hf] at c2
      refine ⟨p, vs, a2, a4, by rw [← a5.length]; exact hl, r.node (E := fpW H w y) (o' := .lst (vs ++ [y])) e1 a1 e2 a3 a4 trivial c1 ?_ (fun q m => ?_) fun q m => ⟨hw.h0 q m, fun i u z hi hz m' => hw.off i u z q hi hz m m'⟩⟩
      · show (fpTs H (ts ++ [asT w]) (vs ++ [y])).Nodup
        rw [c2]
        refine List.nodup_append.mpr ⟨a6, hw.ok.nodup, fun q m q' m' z => ?_⟩
        subst z
        refine hw.off j _ x q e1 a1 m' ?_
        obtain ⟨rt, _⟩ := (r.at_ e1 a1).ok
        obtain ⟨v', d1, d2, d3⟩ := rt.sub e2
        rw [a3] at d1
        cases d1
        exact d3 q (by rw [fpT_nd a4]; exact List.mem_cons_of_mem _ m)
      · have m' : q ∈ fpTs H (ts ++ [asT w]) (vs ++ [y]) := m
        rw [c2] at m'
        exact List.mem_append.mp m'
    · cases e3
  | _ => cases e3
theorem put_node {K : PySem.W.Frag} {F H : Hp} {σ : L2.St} {ρ ρ' : Rho} {j : Nat} {π : List Nat} {v y : V} {w : Wt} {z : Int} (r : Rel K P F H σ ρ) (h : Here ρ σ H j π v) (hw : ResW K P F H σ ρ y w) (ha : nodeAct j π (actPut z (asT w)) ρ = some ρ') : ∃ p vs n, v = .ref p ∧ H p = some (.lst vs) ∧ ixN vs.length z = some n ∧ Rel K P F (upd H p (.lst (vs.set n y))) σ ρ' := by
  obtain ⟨t, k, ts, k', ts', e1, e2, e3, rfl⟩ := nodeAct_ex ha
  cases k with
  | lst =>
    unfold actPut at e3
    simp only [] at e3
    split at e3
    · rename_i n hl
      cases e3
      obtain ⟨x, p, vs, a1, a2, a3, a4, a5, a6⟩ := lst_node r h e1 e2
      obtain ⟨b1, b2⟩ := hw.ok.tree
      have inn : ∀ q ∈ fpTs H ts vs, q ∈ fpW H (.tr t) x := fun q m => by
        obtain ⟨rt, _⟩ := (r.at_ e1 a1).ok
        obtain ⟨v', d1, d2, d3⟩ := rt.sub e2
        rw [a3] at d1
        cases d1
        exact d3 q (by rw [fpT_nd a4]; exact List.mem_cons_of_mem _ m)
      obtain ⟨c1, c2, c3⟩ := RTs.put b1 (by rw [b2]; exact hw.ok.nodup) n a5 a6 fun q m m' => by
        rw [b2] at m
        exact hw.off j _ x q e1 a1 m (inn q m')
      refine ⟨p, vs, n, a2, a4, by rw [← a5.length]; exact hl, r.node (E := fpW H w y) (o' := .lst (vs.set n y)) e1 a1 e2 a3 a4 trivial c1 c2 (fun q m => ?_) fun q m => ⟨hw.h0 q m, fun i u z hi hz m' => hw.off i u z q hi hz m m'⟩⟩
      rw [← b2]
      exact c3 q m
    · cases e3
  | _ => cases e3
theorem s_appQ (ho : PE X o (LF X.K P f)) (he : PE X e (LQ X.K P Wx fq))
    (hbase : attributeBase o "append" X.env (eval o X.env) = eval o X.env := by rfl)
    (hfew : ((backTo cpos (starEach (e :: []) X.env)).all (fun x => !x.1) && (backToKw cpos (keywordEach [] X.env)).all (fun x => x.1.isSome)
      && decide ((e :: []).length + ([] : List Keyword).length + (if ([] : List Keyword).isEmpty then 0 else 1) < 30)) = true := by rfl)
    (hline : (apos.endLine == cpos.line) = true := by rfl) (hs : starEach (e :: []) X.env = (false, eval e X.env) :: starEach [] X.env := by rfl) (hplain : (backTo cpos (starEach [] X.env)).any (·.1) = false := by rfl)
    (hsw : swapsWith (.Call (.Attribute o "append" apos) [e] [] cpos) none pos.line X.env = pure false := by rfl) :
    PS X (.Expr (.Call (.Attribute o "append" apos) [e] [] cpos) pos) (LS X.K P Wx (sAppQ f fq)) :=
  PSm (ps_expr (pe_bm PySem.F.plainAttrs_list PySem.F.slot_list_append PySem.F.type_list_append mt_append ho (pa_cons he pa_nil hs) hbase hfew hline hs hplain) hsw) fun D σ H h => by
  obtain ⟨F, ρ, r, q⟩ := h
  obtain ⟨Fp, w, nt⟩ := r.view
  unfold sAppQ at q
  refine LF.bind w ?_
  match e1 : f ρ with
  | none => simp only [e1] at q; exact q.elim
  | some (j, π) =>
    simp only [e1] at q
    intro F1 H1 v g1 w1 h1
    match e2 : fq ρ with
    | none => simp only [e2] at q; exact q.elim
    | some (.ex _ _) => simp only [e2] at q; exact q.elim
    | some (.ok d) =>
      simp only [e2] at q
      split at q
      · rename_i fl
        cases e3 : nodeAct j π (actApp (.sh d)) ρ with
        | none => simp only [e3] at q; exact q.elim
        | some ρ' =>
          simp only [e3] at q
          obtain ⟨t, k, ts, k', ts', n1, n2, n3, _⟩ := nodeAct_ex e3
          have hty : tyV X.K "list" v H1 := by
            cases k with
            | lst =>
              obtain ⟨x, p, vs, _, a2, _, a4, _⟩ := lst_node w1.r h1 n1 n2
              subst a2
              exact .inl ⟨rfl, _, .inl (.inl a4)⟩
            | _ => cases n3
          refine ⟨hty, F, ρ, F1, w1, ?_⟩
          rw [e2]
          intro F2 H2 y g2 p2
          have gg := g1.trans g2
          have g' := thaw_grow r.fh w.s gg
          have r2 := r.grow g'
          have h2 := h1.grow w1 g2
          obtain ⟨p, vs, b1, b2, b3, b4⟩ := app_node (w := .sh d) r2 h2 (flat_down nt gg p2 fl) e3
          exact ⟨p, vs, y, b1, rfl, b2, sz1000' b3, q _ _ σ g'.f b4⟩
      · exact q.elim
theorem s_appN {lp : Pos} (ho : PE X o (LF X.K P f))
    (hbase : attributeBase o "append" X.env (eval o X.env) = eval o X.env := by rfl)
    (hfew : ((backTo cpos (starEach [.List [] lp] X.env)).all (fun x => !x.1) && (backToKw cpos (keywordEach [] X.env)).all (fun x => x.1.isSome)
      && decide ([Expr.List [] lp].length + ([] : List Keyword).length + (if ([] : List Keyword).isEmpty then 0 else 1) < 30)) = true := by rfl)
    (hline : (apos.endLine == cpos.line) = true := by rfl) (hs : starEach [.List [] lp] X.env = (false, eval (.List [] lp) X.env) :: starEach [] X.env := by rfl) (hplain : (backTo cpos (starEach [] X.env)).any (·.1) = false := by rfl)
    (hsw : swapsWith (.Call (.Attribute o "append" apos) [.List [] lp] [] cpos) none pos.line X.env = pure false := by rfl) :
    PS X (.Expr (.Call (.Attribute o "append" apos) [.List [] lp] [] cpos) pos) (LS X.K P Wx (sAppN f)) :=
  PSm (ps_expr (pe_bm PySem.F.plainAttrs_list PySem.F.slot_list_append PySem.F.type_list_append mt_append ho (pa_cons (pe_lst pa_nil) pa_nil hs) hbase hfew hline hs hplain) hsw) fun D σ H h => by
  obtain ⟨F, ρ, r, q⟩ := h
  obtain ⟨Fp, w, nt⟩ := r.view
  unfold sAppN at q
  refine LF.bind w ?_
  match e1 : f ρ with
  | none => simp only [e1] at q; exact q.elim
  | some (j, π) =>
    simp only [e1] at q
    intro F1 H1 v g1 w1 h1
    cases e3 : nodeAct j π (actApp (.nd .lst [])) ρ with
    | none => simp only [e3] at q; exact q.elim
    | some ρ' =>
      simp only [e3] at q
      obtain ⟨t, k, ts, k', ts', n1, n2, n3, _⟩ := nodeAct_ex e3
      have hty : tyV X.K "list" v H1 := by
        cases k with
        | lst =>
          obtain ⟨x, p, vs, _, a2, _, a4, _⟩ := lst_node w1.r h1 n1 n2
          subst a2
          exact .inl ⟨rfl, _, .inl (.inl a4)⟩
        | _ => cases n3
      refine ⟨hty, Nat.zero_le _, fun l nl => ?_⟩
      have g' := thaw_grow r.fh w.s g1
      have r1 := r.grow g'
      have gl := Grow.laid (o := .lst []) r1.fh nl
      have r2 := r1.grow gl
      have hr : Here ρ σ (upd H1 l (.lst [])) j π v := h1.grow w1 (Grow.laid (o := .lst []) w1.sh nl)
      obtain ⟨p, vs, b1, b2, b3, b4⟩ := app_node (w := .own []) r2 hr (ResW.lay r1 nl .nil) e3
      exact ⟨p, vs, .ref l, b1, rfl, b2, sz1000' b3, q _ _ σ (g'.f.trans gl.f) b4⟩
theorem s_putF (ho : PE X o (LF X.K P f)) (hi : PE X i (LQ X.K P Wx fi)) (he : PE X e (LE X.K P Wx fe))
    (ha : ∀ v, assign (.Subscript o i apos) X.env v = (do let ov ← holding [v] (eval o X.env); let iv ← holding [v, ov] (eval i X.env); standAt apos; holding [v, ov, iv] (setItem ov iv v); release [v, ov, iv] []) := by intro _; rfl)
    (hs : swapsWithSole [.Subscript o i apos] e pos.line X.env = pure false := by rfl) (hw : swappedStores [.Subscript o i apos] e X.env = pure none := by rfl)
    (h1 : (assignEach [.Subscript o i apos] X.env).map (·.2) = [assign (.Subscript o i apos) X.env] := by rfl) :
    PS X (.Assign [.Subscript o i apos] e pos) (LS X.K P Wx (sPutF f fi fe)) :=
  PSm (ps_asg he (pg_sub ho hi set_list ha) hs hw h1) fun D σ H h => by
  obtain ⟨F0, ρ0, r0, q⟩ := h
  refine LE.bindS r0 q fun d ρ F H1 v0 s1 r p1 q => ?_
  obtain ⟨Fp, w, nt⟩ := r.view
  refine LF.bind w ?_
  match e1 : f ρ with
  | none => simp only [e1] at q; exact q.elim
  | some (j, π) =>
    simp only [e1] at q
    intro F1 H2 v g1 w1 h1
    refine ⟨F, ρ, F1, w1, ?_⟩
    match e2 : fi ρ with
    | none => simp only [e2] at q; exact q.elim
    | some (.ex _ _) => simp only [e2] at q; exact q.elim
    | some (.ok k) =>
      intro F2 H3 y g2 p2
      cases p2 with
      | int z =>
        simp only [e2] at q
        cases e3 : nodeAct j π (actPut z (.sh d)) ρ with
        | none => simp only [e3] at q; exact q.elim
        | some ρ' =>
          simp only [e3] at q
          have gg := g1.trans g2
          have g' := thaw_grow r.fh w.s gg
          have r2 := r.grow g'
          have h2 := h1.grow w1 g2
          obtain ⟨p, vs, n, b1, b2, b3, b4⟩ := put_node (w := .sh d) r2 h2 (p1.mono g'.f) e3
          exact ⟨p, vs, z, n, b1, rfl, b2, b3, q _ _ σ g'.f b4⟩
      | _ => simp only [e2] at q; exact q.elim
end
end DL
namespace DL
open PySem PySem.Spec PyProof.Rows L2 RZ
section
variable {K : PySem.W.Frag} {P : Pt} {F H : Hp} {σ : L2.St} {ρ : Rho}
theorem ResW.asTr {v : V} {w : Wt} (h : ResW K P F H σ ρ v w) : ResW K P F H σ ρ v (.tr (asT w)) := by
  obtain ⟨a, b⟩ := h.ok.tree
  refine .mk ⟨a, by rw [b]; exact h.ok.nodup⟩ (fun p m => h.h0 p ?_) fun i u x p hi hx m => h.off i u x p hi hx ?_
  · rw [← b]; exact m
  · rw [← b]; exact m
theorem Rel.tree_new (r : Rel K P F H σ ρ) {p : Addr} (np : H p = none) {i : Nat} (hi : i ∉ P.bs) : Rel K P F (upd H p (.lst [])) (σ.set i (some (.ref p))) (ρ.set i (some (.tr (.nd .lst [])))) :=
  (r.grow (Grow.laid (o := .lst []) r.fh np)).asg (w := .tr (.nd .lst [])) hi (ResW.lay r np .nil).asTr
end
/-! x, y = [], [] : trees -/
def sNewT2 (i j : Nat) : FS := fun ρ => some (.nx, (ρ.set i (some (.tr (.nd .lst [])))).set j (some (.tr (.nd .lst []))))
section
variable {X : Cx} {P : Pt} {Wx : WX} {pos : Pos} {a b o i : Expr} {fa fb : FQ}
theorem s_newT2 (i j : Nat) {x y : Str} {px py pt p1 p2 : Pos} {kt k2 pt2} (hbi : i ∉ P.bs) (hbj : j ∉ P.bs) (hc : X.calm = true) (hN : X.N.Nodup) (hi : X.N[i]? = some x := by rfl) (hj : X.N[j]? = some y := by rfl) (hij : i ≠ j := by decide)
    (hx : X.env.scope.names.lookup x = some .local := by rfl) (hy : X.env.scope.names.lookup y = some .local := by rfl)
    (hw : swappedStores [.Tuple [.Name x px, .Name y py] kt pt] (.Tuple [.List [] p1, .List [] p2] k2 pt2) X.env = pure (some [x, y]) := by rfl)
    (hs : swapsWithSole [.Tuple [.Name x px, .Name y py] kt pt] (.Tuple [.List [] p1, .List [] p2] k2 pt2) pos.line X.env = pure false := by rfl) :
    PS X (.Assign [.Tuple [.Name x px, .Name y py] kt pt] (.Tuple [.List [] p1, .List [] p2] k2 pt2) pos) (LS X.K P Wx (sNewT2 i j)) :=
  PSm (ps_par hc hN hi hj hij hx hy (pa_cons (pe_lst pa_nil) (pa_cons (pe_lst pa_nil) pa_nil rfl) rfl) hw hs) fun D σ H h => by
  obtain ⟨F, ρ, r, q⟩ := h
  refine ⟨Nat.zero_le _, fun p np => ⟨Nat.zero_le _, fun q1 nq => ⟨.ref p, .ref q1, rfl, ?_⟩⟩⟩
  exact q F _ _ (.refl _) ((r.tree_new np hbi).tree_new nq hbj)
theorem q_dget (hu : X.A.units + 1 < cLine) (ha : PE X o (LQ X.K P Wx fa)) (hb : PE X i (LQ X.K P Wx fb)) (hs : NoSl i := by exact fun _ _ => rfl) : PE X (.Subscript o i pos) (LQ X.K P Wx (qOp dGetD fa fb)) := PEm (pe_dget hu ha hb hs) fun σ H Q h => by
  obtain ⟨F, ρ, Fp, w, q⟩ := h
  refine LQ.bind w q fun d F1 H1 x g1 w1 p1 q1 => ?_
  refine LQ.bind w1 q1 fun e F2 H2 y g2 w2 p2 q2 => ?_
  cases eo : dGetD d e with
  | none => rw [eo] at q2; exact q2.elim
  | some g =>
    rw [eo] at q2
    obtain ⟨a, v, ex, dg, pv⟩ := dget_ok w2.sh (p1.mono g2.f) p2 eo
    exact ⟨a, v, ex, dg, q2 F2 H2 v (Grow.refl w2.sh) pv⟩
end
/-! ### x.f = e, x an own instance -/
def fldIx (f : Str) : List Str → Option Nat
  | [] => none
  | q :: ks => if q = f then some 0 else (fldIx f ks).map (· + 1)
def actFld (C f : Str) (t : Tr) : Nk → List Tr → Option (Nk × List Tr)
  | .ob D fs, ts => if D = C ∧ fs.length < 1000 then (match fldIx f fs with
    | some n => some (.ob D fs, ts.set n t)
    | none => some (.ob D (fs ++ [f]), ts ++ [t])) else none
  | _, _ => none
def sFldS (C f : Str) (j : Nat) (fw : FW) : FS := bindWS fw fun w ρ => match nodeAct j [] (actFld C f (asT w)) ρ with
  | some ρ' => some (.nx, ρ')
  | none => none
theorem putF_none {f : Str} {v : V} : ∀ {gs : List (Str × V)}, fldIx f (gs.map (·.1)) = none → putF f v gs = gs ++ [(f, v)]
  | [], _ => rfl
  | (g, x) :: gs, h => by
    rw [List.map_cons] at h
    unfold fldIx at h
    split at h
    · cases h
    · rename_i z
      unfold putF
      rw [if_neg z]
      rw [putF_none (by cases q : fldIx f (gs.map (·.1)) with | none => rfl | some n => rw [q] at h; cases h)]
      rfl
theorem putF_some {f : Str} {v : V} : ∀ {gs : List (Str × V)} {n : Nat}, fldIx f (gs.map (·.1)) = some n → (putF f v gs).map (·.1) = gs.map (·.1) ∧ (putF f v gs).map (·.2) = (gs.map (·.2)).set n v
  | [], _, h => by cases h
  | (g, x) :: gs, n, h => by
    rw [List.map_cons] at h
    unfold fldIx at h
    split at h
    · rename_i z
      cases h
      unfold putF
      rw [if_pos z]
      exact ⟨rfl, rfl⟩
    · rename_i z
      cases q : fldIx f (gs.map (·.1)) with
      | none => rw [q] at h; cases h
      | some m =>
        rw [q] at h
        cases h
        obtain ⟨a, b⟩ := putF_some (v := v) q
        unfold putF
        rw [if_neg z]
        exact ⟨by rw [List.map_cons, List.map_cons, a], by rw [List.map_cons, List.map_cons, b]; rfl⟩
section
variable {X : Cx} {P : Pt} {Wx : WX} {pos pos' : Pos} {e : Expr} {fw : FW} {C f : Str}
theorem s_fldS (j : Nat) {x : Str} {np : Pos} (h : FdAt X.K C f) (hv : PE X e (LW X.K P Wx fw)) (hs : swapsWith e (some (.Attribute (.Name x np) f pos')) pos.line X.env = pure false := by rfl) (hN : X.N[j]? = some x := by rfl) (hvi : Vis X.env.scope x := by first | exact Or.inl rfl | exact Or.inr (Or.inl rfl) | exact Or.inr (Or.inr rfl)) (hd : (x == ("__debug__" : Str)) = false := by decide)
    (hcd : (x == ("__classdict__" : Str)) = false := by decide) : PS X (.Assign [.Attribute (.Name x np) f pos'] e pos) (LS X.K P Wx (sFldS C f j fw)) := PSm (ps_fld (pe_var hN hvi hd hcd) hv hs) fun D σ H q => by
  obtain ⟨Ca, hC, hc, hn⟩ := h.ex
  obtain ⟨F, ρ, r, q⟩ := q
  refine LW.bindS r q fun w ρ1 F1 H1 v s1 r1 p1 q1 => ?_
  cases e3 : nodeAct j [] (actFld C f (asT w)) ρ1 with
  | none => simp only [e3] at q1; exact q1.elim
  | some ρ' =>
    simp only [e3] at q1
    obtain ⟨t, k, ts, k', ts', n1, n2, n3, rfl⟩ := nodeAct_ex e3
    rw [subT] at n2
    cases n2
    obtain ⟨x0, ex, sw⟩ := r1.slot j _ n1
    refine ⟨x0, ex, ?_⟩
    obtain ⟨rt, nn⟩ := sw.ok
    cases k with
    | ob D' fs =>
      unfold actFld at n3
      simp only [] at n3
      split at n3
      · rename_i z
        obtain ⟨z, z2⟩ := z
        subst z
        cases rt with
        | @nd k ts p o c1 c2 c3 rr =>
          cases o with
          | ins Cb dx gs =>
            obtain ⟨m1, m2⟩ := c3
            rw [hC] at m1
            cases m1
            obtain ⟨b1, b2⟩ := p1.ok.tree
            rw [fpT_nd c2] at nn
            have nk := (List.nodup_cons.mp nn).2
            have inn : ∀ q ∈ fpTs H1 ts (gs.map (·.2)), q ∈ fpW H1 (.tr (.nd (.ob D' fs) ts)) (.ref p) := fun q m => by
              show q ∈ fpT H1 _ _
              rw [fpT_nd c2]
              exact List.mem_cons_of_mem _ m
            have offE : ∀ q ∈ fpW H1 w v, P.H0 q = none ∧ ∀ (i : Nat) (u : Wt) (y : V), ρ1[i]? = some (some u) → σ[i]? = some (some y) → q ∉ fpW H1 u y := fun q m => ⟨p1.h0 q m, fun i u y hi hy m' => p1.off i u y q hi hy m m'⟩
            refine ⟨p, _, dx, gs, rfl, c2, hc, hn, by rw [show gs.length = fs.length by rw [← m2]; simp]; exact z2, q1 F1 _ σ (.refl _) ?_⟩
            split at n3
            · rename_i n hf
              cases n3
              rw [← m2] at hf
              obtain ⟨g1, g2⟩ := putF_some (v := v) hf
              obtain ⟨d1, d2, d3⟩ := RTs.put b1 (by rw [b2]; exact p1.ok.nodup) n rr nk fun q m m' => by
                rw [b2] at m
                exact p1.off j _ _ q n1 ex m (inn q m')
              refine r1.node (E := fpW H1 w v) (π := []) (o := .ins _ dx gs) (o' := .ins _ dx (putF f v gs)) n1 ex (by rw [subT]) (by rw [subV]) c2 ⟨hC, by rw [g1]; exact m2⟩ ?_ ?_ (fun q m => ?_) offE
              · simp only [kids]; rw [g2]; exact d1
              · simp only [kids]; rw [g2]; exact d2
              · simp only [kids] at m; rw [g2] at m
                rw [← b2]
                exact d3 q m
            · rename_i hf
              cases n3
              rw [← m2] at hf
              have g1 := putF_none (v := v) hf
              obtain ⟨d1, d2⟩ := rr.append (RTs.cons b1 .nil)
              have d3 : fpTs H1 [asT w] [v] = fpW H1 w v := by rw [fpTs, fpTs, List.append_nil, b2]
              rw [d3] at d2
              have kk : kids (.ins Ca dx (putF f v gs)) = gs.map (·.2) ++ [v] := by simp only [kids]; rw [g1]; simp
              refine r1.node (E := fpW H1 w v) (π := []) (o := .ins _ dx gs) (o' := .ins _ dx (putF f v gs)) n1 ex (by rw [subT]) (by rw [subV]) c2 ⟨hC, by rw [g1, ← m2]; simp⟩ ?_ ?_ (fun q m => ?_) offE
              · rw [kk]; exact d1
              · rw [kk]
                show (fpTs H1 (ts ++ [asT w]) (gs.map (·.2) ++ [v])).Nodup
                have d2' : fpTs H1 (ts ++ [asT w]) (gs.map (·.2) ++ [v]) = fpTs H1 ts (gs.map (·.2)) ++ fpW H1 w v := d2
                rw [d2']
                refine List.nodup_append.mpr ⟨nk, p1.ok.nodup, fun q m q' m' z => ?_⟩
                subst z
                exact p1.off j _ _ q n1 ex m' (inn q m)
              · rw [kk] at m
                have d2' : fpTs H1 (ts ++ [asT w]) (gs.map (·.2) ++ [v]) = fpTs H1 ts (gs.map (·.2)) ++ fpW H1 w v := d2
                rw [d2'] at m
                exact List.mem_append.mp m
          | _ => exact c3.elim
      · cases n3
    | _ => cases n3
end
/-! ### a display of names -/
def moveAll : List Nat → Rho → Option (List Wt × Rho)
  | [], ρ => some ([], ρ)
  | j :: js, ρ => match ρ[j]? with
    | some (some w) => (match moveAll js (ρ.set j none) with
      | some (ws, ρ') => some (w :: ws, ρ')
      | none => none)
    | _ => none
inductive SlV (σ : L2.St) : List Nat → List V → Prop
  | nil : SlV σ [] []
  | cons {j : Nat} {v : V} {js : List Nat} {vs : List V} : σ[j]? = some (some v) → SlV σ js vs → SlV σ (j :: js) (v :: vs)
theorem SlV.len {σ : L2.St} : ∀ {js : List Nat} {vs : List V}, SlV σ js vs → js.length = vs.length
  | _, _, .nil => rfl
  | _, _, .cons _ r => by simp [r.len]
theorem moveAll_ok {K : PySem.W.Frag} {P : Pt} {F H : Hp} {σ : L2.St} : ∀ {js : List Nat} {ρ ρ' : Rho} {ws : List Wt}, Rel K P F H σ ρ → (∀ j ∈ js, j ∉ P.bs) → moveAll js ρ = some (ws, ρ') →
    ∃ vs, SlV σ js vs ∧ Rel K P F H σ ρ' ∧ RTs K F H (ws.map asT) vs ∧ (fpTs H (ws.map asT) vs).Nodup ∧ (∀ (i : Nat) (u : Wt), ρ'[i]? = some (some u) → ρ[i]? = some (some u)) ∧
      ∀ q ∈ fpTs H (ws.map asT) vs, P.H0 q = none ∧ (∃ (i : Nat) (u : Wt) (x : V), ρ[i]? = some (some u) ∧ σ[i]? = some (some x) ∧ q ∈ fpW H u x) ∧ ∀ (i : Nat) (u : Wt) (x : V), ρ'[i]? = some (some u) → σ[i]? = some (some x) → q ∉ fpW H u x
  | [], ρ, ρ', ws, r, _, e => by
    rw [moveAll] at e
    cases e
    exact ⟨[], .nil, r, .nil, by rw [List.map_nil, fpTs]; exact List.nodup_nil, fun i u h => h, fun q m => by rw [List.map_nil, fpTs] at m; cases m⟩
  | j :: js, ρ, ρ', ws, r, hb, e => by
    rw [moveAll] at e
    match e1 : ρ[j]? with
    | none => simp only [e1] at e; cases e
    | some none => simp only [e1] at e; cases e
    | some (some w) =>
      simp only [e1] at e
      match e2 : moveAll js (ρ.set j none) with
      | none => simp only [e2] at e; cases e
      | some (ws', ρ2) =>
        simp only [e2] at e
        cases e
        obtain ⟨v, ev, r1, rw1⟩ := r.out (hb j List.mem_cons_self) e1
        obtain ⟨vs, s1, r2, t1, n1, m1, o1⟩ := moveAll_ok r1 (fun i hi => hb i (List.mem_cons_of_mem _ hi)) e2
        obtain ⟨a, b⟩ := rw1.ok.tree
        refine ⟨v :: vs, .cons ev s1, r2, .cons a t1, ?_, fun i u h => (set_none (m1 i u h)).2, fun q m => ?_⟩
        · rw [List.map_cons, fpTs, b]
          refine List.nodup_append.mpr ⟨rw1.ok.nodup, n1, fun q m q' m' z => ?_⟩
          subst z
          obtain ⟨_, ⟨i, u, x, c1, c2, c3⟩, _⟩ := o1 q m'
          exact rw1.off i u x q c1 c2 m c3
        · rw [List.map_cons, fpTs, b] at m
          rcases List.mem_append.mp m with m | m
          · exact ⟨rw1.h0 q m, ⟨j, w, v, e1, ev, m⟩, fun i u x hi hx m' => rw1.off i u x q (m1 i u hi) hx m m'⟩
          · obtain ⟨c1, ⟨i, u, x, c2, c3, c4⟩, c5⟩ := o1 q m
            exact ⟨c1, ⟨i, u, x, (set_none c2).2, c3, c4⟩, c5⟩
def wDisp (ks : List Str) (js : List Nat) : FW := fun ρ => match moveAll js ρ with
  | some (ws, ρ') => some (.ok (.tr (.nd (.dk (ks.map .inr)) (ws.map asT))), ρ')
  | none => none
def trsN : List Str → List Nat → List (TE × TE)
  | k :: ks, j :: js => (tC (.str k), fun σ H Q => ∃ v, σ[j]? = some (some v) ∧ Q v H) :: trsN ks js
  | _, _ => []
theorem trsN_ok {σ : L2.St} : ∀ {ks : List Str} {js : List Nat} {vs : List V} {H : Hp} {Q : List (V × V) → Hp → Prop}, SlV σ js vs → ks.length = js.length → Q (ks.zip vs |>.map fun kv => (V.str kv.1, kv.2)) H → tPairs (trsN ks js) σ H Q
  | [], _, _, H, Q, .nil, _, q => q
  | k :: ks, _, _, H, Q, .cons (v := v) h r, hl, q => ⟨v, h, trsN_ok (Q := fun ps H3 => Q ((V.str k, v) :: ps) H3) r (by simpa using hl) q⟩
section
variable {X : Cx} {P : Pt} {Wx : WX} {pos : Pos}
theorem w_disp {keys : List (Option Expr)} {values : List Expr} {ks : List Str} {js : List Nat} (hb : ∀ j ∈ js, j ∉ P.bs) (h : PPs X pos keys values (trsN ks js)) (hl : ks.length = js.length := by rfl) (h15 : keys.length ≤ 15 := by decide) (hk15 : ks.length ≤ 15 := by decide)
    (hm : ∀ vs : List V, vs.length = ks.length → mergeK [] ((ks.zip vs).map fun kv => ((Sum.inr kv.1 : Key), kv.2)) = (ks.zip vs).map fun kv => ((Sum.inr kv.1 : Key), kv.2))
    (hall : keys.all (·.isSome) = true := by rfl) (hle : keys.length = values.length := by rfl) (h0 : keys ≠ [] := by exact fun e => nomatch e) : PE X (.Dict keys values pos) (LW X.K P Wx (wDisp ks js)) := PEm (pe_disp h hall hle h0 h15) fun σ H Q q => by
  obtain ⟨F, ρ, r, q⟩ := q
  unfold wDisp at q
  match e : moveAll js ρ with
  | none => simp only [e] at q; exact q.elim
  | some (ws, ρ') =>
    simp only [e] at q
    intro p np
    obtain ⟨vs, s1, r2, t1, n1, m1, o1⟩ := moveAll_ok r hb e
    have hv : vs.length = ks.length := by rw [← s1.len, hl]
    refine trsN_ok s1 hl ⟨upd_same, (ks.zip vs).map fun kv => ((Sum.inr kv.1 : Key), kv.2), by rw [List.map_map]; rfl, by rw [List.length_map, List.length_zip]; omega, ?_⟩
    rw [hm vs hv, upd_upd]
    have kk : kids (.dK ((ks.zip vs).map fun kv => ((Sum.inr kv.1 : Key), kv.2))) = vs := by
      simp only [kids, List.map_map]
      exact zip2 hv.symm
    have g := Grow.laid (o := .dK ((ks.zip vs).map fun kv => ((Sum.inr kv.1 : Key), kv.2))) r2.fh np
    have np' : ∀ q ∈ fpTs H (ws.map asT) vs, q ≠ p := fun q m z => by
      subst z
      obtain ⟨_, o, eo, _⟩ := t1.at_ m
      rw [np] at eo
      cases eo
    obtain ⟨a1, a2⟩ := t1.map (H' := upd H p (.dK ((ks.zip vs).map fun kv => ((Sum.inr kv.1 : Key), kv.2)))) (.refl F) (fun q m => (t1.at_ m).1) fun q m => upd_ne (np' q m)
    have fe : fpT (upd H p (.dK ((ks.zip vs).map fun kv => ((Sum.inr kv.1 : Key), kv.2)))) (.nd (.dk (ks.map .inr)) (ws.map asT)) (.ref p) = p :: fpTs H (ws.map asT) vs := by rw [fpT_nd upd_same, kk, a2]
    refine q F _ (.ref p) (.refl _) (r2.grow g) (ResW.mk ⟨.nd (free_of r2.fh np) upd_same ?_ (by rw [kk]; exact a1), by rw [fe]; exact List.nodup_cons.mpr ⟨fun m => np' p m rfl, n1⟩⟩ (fun b m => ?_) fun i u x b hi hx m m' => ?_)
    · show ((ks.zip vs).map fun kv => ((Sum.inr kv.1 : Key), kv.2)).map (·.1) = ks.map .inr
      rw [List.map_map]
      have : ((fun kv : Key × V => kv.1) ∘ fun kv : Str × V => ((Sum.inr kv.1 : Key), kv.2)) = (Sum.inr : Str → Key) ∘ (fun kv : Str × V => kv.1) := rfl
      rw [this, ← List.map_map, zip1 hv.symm]
    · have m2 : b ∈ fpT (upd H p (.dK ((ks.zip vs).map fun kv => ((Sum.inr kv.1 : Key), kv.2)))) (.nd (.dk (ks.map .inr)) (ws.map asT)) (.ref p) := m
      rw [fe] at m2
      rcases List.mem_cons.mp m2 with z | z
      · rw [z]; exact r2.fresh np
      · exact (o1 b z).1
    · have m2 : b ∈ fpT (upd H p (.dK ((ks.zip vs).map fun kv => ((Sum.inr kv.1 : Key), kv.2)))) (.nd (.dk (ks.map .inr)) (ws.map asT)) (.ref p) := m
      rw [fe] at m2
      rw [((r2.at_ hi hx).ok.grow g).2] at m'
      rcases List.mem_cons.mp m2 with z | z
      · rw [z] at m'; exact r2.offNew np hi hx m'
      · exact (o1 b z).2.2 i u x hi hx m'
end
end DL
namespace DL
open PySem PySem.Spec PyProof.Rows L2 RZ
/-! ### C(..): a new instance -/
def makeR (js : List Nat) (ρ : Rho) : Option (RW × List Wt) → Option (RW × Rho)
  | some (.ok (.sh .non), c :: cs) => some (.ok c, putBack js cs ρ)
  | some (.ex D fs, _ :: cs) => some (.ex D fs, putBack js cs ρ)
  | _ => none
def wMake (C : Str) (n : Nat) (g : FnD) (fa : FA) : FW := bindAW fa fun as ρ => match toWs ρ as with
  | none => none
  | some ws => if ws.length + 1 = n ∧ (slotsOf as).Nodup then makeR (slotsOf as) ρ (g (.tr (.nd (.ob C []) []) :: ws)) else none
section
variable {K : PySem.W.Frag} {F G G' H H' : Hp}
theorem ArgW.up (gh : Same G H) (hG : Same G G') (hH : Same H H') (nw : ∀ p, G p = none → H p ≠ none → G' p = none) : ∀ {vs : List V} {ws : List Aw}, ArgW K F G H vs ws → ArgW K F G' H' vs ws ∧ lents G' vs ws = lents G vs ws ∧ fpsOf H' vs ws = fpsOf H vs ws
  | _, _, .nil => ⟨.nil, rfl, rfl⟩
  | _, _, .sh h r => by
    obtain ⟨a, b, c⟩ := ArgW.up gh hG hH nw r
    refine ⟨.sh h a, ?_, ?_⟩
    · rw [lents, lents, b]; rfl
    · rw [fpsOf, fpsOf, c]; rfl
  | _, _, .len (w := w) (v := v) hl h r => by
    obtain ⟨a, b, c⟩ := ArgW.up gh hG hH nw r
    obtain ⟨d, e⟩ := h.up hG
    refine ⟨.len hl d a, ?_, ?_⟩
    · rw [lents, lents, b, e]
    · rw [fpsOf, fpsOf, c, (h.up gh).2, (h.up (gh.trans hH)).2]
  | _, _, .giv (w := w) (v := v) hl h z r => by
    obtain ⟨a, b, c⟩ := ArgW.up gh hG hH nw r
    obtain ⟨d, e⟩ := h.up hH
    have nl : ¬ w.lent = true := fun y => giv_len hl y
    refine ⟨.giv hl d (fun p m => ?_) a, ?_, ?_⟩
    · rw [e] at m
      obtain ⟨_, o, eo, _⟩ := h.at_ m
      exact nw p (z p m) (by rw [eo]; exact fun y => nomatch y)
    · rw [lents, lents, b, if_neg nl, if_neg nl]
    · rw [fpsOf, fpsOf, c, e]
end
section
variable {X : Cx} {CX : CXT} {k : Nat} {f C : Addr} {fd : FuncData} {ps : List Str} {sp : Sp} {E : L2.St → XK}
/-- a class is called: its new instance, its __init__ -/
theorem run_makeS {pins : List (Addr × Obj)} {σ : L2.St} {H : Hp} {s : Shared} {Q : VK} {us : List Value} {vs : List V} (M : Mk X.K C f) (G : FnOk X.prog X.w X.K X.mg X.base CX k f fd ps sp) (hr : Room (k + 1) X.A) (hb : Binds X.K fd ps []) (hx : ∀ (H : Hp) (s : Shared) (e : Value) (s' : Shared), Inv X pins σ H s → CX X.stack H s (E σ) e s' → X.xe e s')
    (I : Inv X pins σ H s) (r : Vals vs us) (h : ∀ x dx, H x = none → H dx = none → dx ≠ x → sp (.ref x :: vs) (upd (upd H dx (.own x)) x (.ins C dx [])) (fun v H2 => v = .non ∧ Q (.ref x) H2) (E σ)) : wpAny (model X.prog X.w) X.A (call (.ref C) us) (EP X pins σ Q) X.xe s := by
  have I2 := Inv.made (C := C) I
  have q0 := h (s.heap.objs.size + 1) s.heap.objs.size (I.hok.fresh (Nat.le_succ _)) (I.hok.fresh (Nat.le_refl _)) (Nat.ne_of_lt (Nat.lt_succ_self _))
  have r2 : Vals (V.ref (s.heap.objs.size + 1) :: vs) (Value.ref (s.heap.objs.size + 1) :: us) := .cons rfl r
  have hl : (Value.ref (s.heap.objs.size + 1) :: us).length = ps.length := r2.length.symm.trans (G.len _ _ _ _ q0)
  have bt := hb _ (Value.ref (s.heap.objs.size + 1) :: us) I2.kIn (by rw [List.append_nil]; exact hl)
  rw [List.append_nil] at bt
  refine wpAny_call (make_map (f := f) I.kIn M.makes M.init (beq_iff_eq.mp M.fn) (codeAny_mono (G.run _ X.stack _ _ ⟨Value.ref (s.heap.objs.size + 1) :: us, []⟩ _ _ _ (E σ) (hr.make C us []) (I2.env0.make C us []) bt r2 q0) fun y s' hq => ?_))
  match y, hq with
  | .error e, hq => exact hx _ _ e s' I2 hq
  | .ok (.ret u), hq =>
    obtain ⟨v, H', I3, rv, ev, q3⟩ := I2.after hq
    subst ev
    exact ⟨rv, ⟨V.ref (s.heap.objs.size + 1), H', I3, rfl, q3⟩⟩
  | .ok .next, hq => exact hq.elim
  | .ok .brk, hq => exact hq.elim
  | .ok .cont, hq => exact hq.elim
end
section
variable {X : Cx} {P : Pt} {Wx : WX} {pos p : Pos} {e : Expr} {es : List Expr} {fa : FA} {k n : Nat} {g : FnD} {C : Str}
theorem LA_make {Ca : Addr} {σ : L2.St} {H : Hp} {Q : VK} (hC : PySem.W.nsIn X.K mainGlobals C = some (some (.ref Ca))) (h : LW X.K P Wx (wMake C n g fa) σ H Q) :
    LA X.K P Wx fa σ H fun vs H1 => ∀ x dx, H1 x = none → H1 dx = none → dx ≠ x → spF X.K n g (.ref x :: vs) (upd (upd H1 dx (.own x)) x (.ins Ca dx [])) (fun v H2 => v = .non ∧ Q (.ref x) H2) (WE Wx σ) := by
  obtain ⟨F, ρ, r, q⟩ := h
  refine LA.bindW r q fun as ρ1 F1 H1 vs s1 r1 p1 q => ?_
  intro x dx nx nd ne
  cases e1 : toWs ρ1 as with
  | none => simp only [e1] at q; exact q.elim
  | some ws =>
    simp only [e1] at q
    by_cases nn : ws.length + 1 = n ∧ (slotsOf as).Nodup
    · rw [if_pos nn] at q
      obtain ⟨nl, nn⟩ := nn
      obtain ⟨G, S, aw, sl, an, am⟩ := args_ok r1 p1 e1 nn
      have gx : G x = none := S.gh.free nx
      have gd : G dx = none := S.gh.free nd
      have ndx : (upd H1 dx (.own x)) x = none := by rw [upd_ne ne.symm]; exact nx
      have gdx : (upd G dx (.own x)) x = none := by rw [upd_ne ne.symm]; exact gx
      have sG : Same G (upd (upd G dx (.own x)) x (.ins Ca dx [])) := (same_new gd).trans (same_new gdx)
      have sH : Same H1 (upd (upd H1 dx (.own x)) x (.ins Ca dx [])) := (same_new nd).trans (same_new ndx)
      have sGH : Same (upd (upd G dx (.own x)) x (.ins Ca dx [])) (upd (upd H1 dx (.own x)) x (.ins Ca dx [])) := fun b o eb => by
        by_cases h1 : b = x
        · subst h1; rw [upd_same] at eb ⊢; exact eb
        · rw [upd_ne h1] at eb ⊢
          by_cases h2 : b = dx
          · subst h2; rw [upd_same] at eb ⊢; exact eb
          · rw [upd_ne h2] at eb ⊢; exact S.gh b o eb
      have back : ∀ {b : Addr}, (upd (upd G dx (.own x)) x (.ins Ca dx [])) b = none → G b = none := fun {b} z => by
        cases y : G b with
        | none => rfl
        | some o => rw [sG _ _ y] at z; cases z
      obtain ⟨a1, a2, a3⟩ := aw.up S.gh sG sH fun b z y => by
        have h1 : b ≠ x := fun w => by subst w; exact y nx
        have h2 : b ≠ dx := fun w => by subst w; exact y nd
        rw [upd_ne h1, upd_ne h2]
        exact z
      have fx : F1 x = none := S.fg.free gx
      have ok0 : OkW X.K F1 (upd (upd G dx (.own x)) x (.ins Ca dx [])) (.ref x) (.tr (.nd (.ob C []) [])) := by
        refine ⟨.nd fx upd_same ⟨hC, rfl⟩ .nil, ?_⟩
        rw [fpT_nd upd_same, fpTs]
        exact List.nodup_cons.mpr ⟨fun m => (by cases m), List.nodup_nil⟩
      have fp0 : ∀ {J : Hp}, J x = some (.ins Ca dx []) → fpW J (.tr (.nd (.ob C []) [])) (.ref x) = [x] := fun {J} ej => by
        show fpT J _ _ = _
        rw [fpT_nd ej, fpTs]
      refine ⟨by rw [List.length_cons, aw.length]; exact nl, F1, upd (upd G dx (.own x)) x (.ins Ca dx []), .tr (.nd (.ob C []) []) :: ws, S.fg.trans sG, sGH, .len rfl ok0 a1, ?_, ?_⟩
      · rw [fpsOf, a3]
        show (fpW _ (.tr (.nd (.ob C []) [])) (.ref x) ++ _).Nodup
        rw [fp0 upd_same]
        refine List.nodup_append.mpr ⟨List.nodup_cons.mpr ⟨fun m => (by cases m), List.nodup_nil⟩, an, fun b m b' m' z => ?_⟩
        rw [List.mem_singleton.mp m] at z
        subst z
        have hmem : ∀ {vs : List V} {ws : List Aw} {b : Addr}, ArgW X.K F1 G H1 vs ws → b ∈ fpsOf H1 vs ws → H1 b ≠ none := by
          intro vs ws b aw
          induction aw with
          | nil => intro m; cases m
          | sh h r ih => intro m; rw [fpsOf] at m; exact ih m
          | len hl h r ih =>
            intro m
            rw [fpsOf] at m
            rcases List.mem_append.mp m with m | m
            · obtain ⟨_, o, eo, _⟩ := (h.up S.gh).1.at_ m
              rw [eo]; exact fun z => nomatch z
            · exact ih m
          | giv hl h z r ih =>
            intro m
            rw [fpsOf] at m
            rcases List.mem_append.mp m with m | m
            · obtain ⟨_, o, eo, _⟩ := h.at_ m
              rw [eo]; exact fun z => nomatch z
            · exact ih m
        exact hmem aw m' nx
      · rw [lents, if_pos (show (Aw.tr (.nd (.ob C []) [])).lent = true from rfl), a2]
        show postF X.K F1 _ ((.ref x, fpW _ (.tr (.nd (.ob C []) [])) (.ref x)) :: lents G vs ws) _ _ _
        rw [fp0 upd_same]
        have low : ∀ {F2 H2 : Hp} {c : Wt} {cs : List Wt}, GrowB X.K F1 (upd (upd G dx (.own x)) x (.ins Ca dx [])) F2 H2 ((.ref x, [x]) :: lents G vs ws) (c :: cs) → GrowB X.K F1 G F2 H2 (lents G vs ws) cs := fun {F2 H2 c cs} gb => {
          len := by have := gb.len; simpa using this
          f := gb.f
          fh := gb.fh
          th := fun b o eb => gb.th b o (sG _ _ eb)
          h := fun b o eb hb => gb.h b o (sG _ _ eb) fun q hq => by
            rcases List.mem_cons.mp hq with z | z
            · subst z
              intro m
              rw [List.mem_singleton.mp m, gx] at eb
              cases eb
            · exact hb q z
          new := fun b o eb => (gb.new b o eb).elim .inl fun z => .inr (back z)
          put := fun i q c' hq hc => by
            obtain ⟨z1, z2, z3⟩ := gb.put (i + 1) q c' (by simpa using hq) (by simpa using hc)
            exact ⟨z1, z2, fun b m => (z3 b m).elim .inl fun z => .inr (back z)⟩
          sep := fun i l q r' c' d' b h1 h2 h3 h4 m1 m2 => by
            have := gb.sep (i + 1) (l + 1) q r' c' d' b (by simpa using h1) (by simpa using h2) (by simpa using h3) (by simpa using h4) m1 m2
            omega }
        match e2 : g (.tr (.nd (.ob C []) []) :: ws) with
        | none => rw [e2] at q; exact q.elim
        | some (.ok w, cs) =>
          rw [e2] at q
          intro F2 H2 v gb fw
          match w, cs, q, gb, fw with
          | .sh .non, c :: cs, q, gb, fw =>
            have gb' := low gb
            cases (show Rp X.K F2 .non v from fw)
            refine ⟨rfl, q F2 H2 (.ref x) gb'.f (r1.after S gb' sl nn) (.after r1 S gb' sl nn (.mk ?_))⟩
            obtain ⟨z1, z2, z3⟩ := gb.put 0 (.ref x, [x]) c rfl rfl
            refine ⟨z2, fun b m => ⟨?_, fun i q' c' hq hc m' => ?_⟩⟩
            · rcases z3 b m with z | z
              · rw [List.mem_singleton.mp z]; exact gx
              · exact back z
            · have := gb.sep 0 (i + 1) (.ref x, [x]) q' c c' b rfl (by simpa using hq) rfl (by simpa using hc) m m'
              omega
        | some (.ex D fs, cs) =>
          rw [e2] at q
          intro F2 H2 cls dd gb xp
          match cs, q, gb with
          | c :: cs, q, gb =>
            have gb' := low gb
            exact q F2 H2 cls dd gb'.f (r1.after S gb' sl nn) xp
          | [], q, gb => exact q.elim
    · rw [if_neg nn] at q; exact q.elim
theorem w_make (h : MkAt X.prog X.w X.K X.mg X.base k C n g) (hr : Room (k + 1) X.A) (tk : Takes X Wx) (hg : Gl X C) (ha : PA X (e :: es) (LA X.K P Wx fa)) (hdb : (C == ("__debug__" : Str)) = false := by decide) (he : starEach (e :: es) X.env = (false, eval e X.env) :: starEach es X.env := by rfl) (hpl : (backTo pos (starEach es X.env)).any (·.1) = false := by rfl) :
    PE X (.Call (.Name C p) (e :: es) [] pos) (LW X.K P Wx (wMake C n g fa)) := by
  obtain ⟨Ca, f, fd, ps, hC, hm, M, G, hb⟩ := h.ex
  refine ⟨fun pins s σ H Q I q => wpAny_Call_Name_kw (ld_glob I hg hm ?_ hdb)⟩
  refine PySem.W.callWith_K (h₀ := X.base) I.ok.mod.kin M.kp (thn (ha.run pos pins s σ H _ I (LA_make hC q)) fun us s1 ⟨vs, H1, I1, r, q1⟩ => ⟨I1.kIn, ?_⟩) he hpl
  exact run_makeS (E := fun σ => WE Wx σ) M G hr hb (fun H s e s' I c => passAt tk σ pins H s e s' I c) I1 r q1
end
end DL
namespace DL
open PySem PySem.Spec PyProof.Rows L2 RZ
/-! ### walking through instances and trees -/
section
variable {f fo fe : FE} {fa fk : FA} {fw : FW} {fq fi : FQ} {ff : FF}
theorem ea_cons {a : Av} {ρ : Rho} {QA : List Av → Rho → Prop} (h : EvA fa ρ fun as ρ1 => QA (a :: as) ρ1) : EvA (aCons a fa) ρ QA := by
  obtain ⟨as, ρ1, e, q⟩ := h
  exact ⟨_, ρ1, by unfold aCons; simp only [e], q⟩
instance p_cons {a : Av} [WpA fa] : WpA (aCons a fa) := ⟨fun ρ Q => WpA.wp fa ρ fun as ρ1 => Q (a :: as) ρ1, fun h => ea_cons (WpA.ok h), fun h k => WpA.mono h fun _ _ h => k _ _ h⟩
theorem ew_meth {C m : Str} {n : Nat} {g : FnD} {ρ : Rho} {Q : Wt → Rho → Prop} (h : EvE fo ρ fun d ρ1 => clsOk C m d = true ∧ EvW (wCall n g (aCons (.val d) fa)) ρ1 Q) : EvW (wMeth C m n g fo fa) ρ Q := by
  obtain ⟨d, ρ1, e, c, w, ρ2, e2, q⟩ := h
  exact ⟨w, ρ2, by unfold wMeth bindEW; simp only [e]; rw [if_pos c]; exact e2, q⟩
instance p_meth {C m : Str} {n : Nat} {g : FnD} [WpE fo] [WpA fa] : WpW (wMeth C m n g fo fa) :=
  ⟨fun ρ Q => WpE.wp fo ρ fun d ρ1 => wC (clsOk C m d) (WpA.wp fa ρ1 fun as ρ2 => callW n g (.val d :: as) ρ2 Q), fun h => ew_meth ((WpE.ok h).imp fun d ρ1 h => by
    obtain ⟨c, h⟩ := h.ex
    exact ⟨c, ew_call (ea_cons ((WpA.ok h).imp fun _ _ h => callW_ok h))⟩), fun h k => WpE.mono h fun _ _ h => h.mono fun h => WpA.mono h fun _ _ h => callW_mono h k⟩
theorem ew_methK {C m : Str} {n nk np : Nat} {dd : List Dt} {ar : List (Nat ⊕ Nat)} {g : FnD} {ρ : Rho} {Q : Wt → Rho → Prop} (h : EvE fo ρ fun d ρ1 => clsOk C m d = true ∧ EvW (wCall np g (aArr n nk dd ar (aCons (.val d) fa) fk)) ρ1 Q) : EvW (wMethK C m n nk dd ar np g fo fa fk) ρ Q := by
  obtain ⟨d, ρ1, e, c, w, ρ2, e2, q⟩ := h
  exact ⟨w, ρ2, by unfold wMethK bindEW; simp only [e]; rw [if_pos c]; exact e2, q⟩
instance p_methK {C m : Str} {n nk np : Nat} {dd : List Dt} {ar : List (Nat ⊕ Nat)} {g : FnD} [WpE fo] [WpA fa] [WpA fk] : WpW (wMethK C m n nk dd ar np g fo fa fk) :=
  ⟨fun ρ Q => WpE.wp fo ρ fun d ρ1 => wC (clsOk C m d) (WpA.wp (aArr n nk dd ar (aCons (.val d) fa) fk) ρ1 fun as ρ2 => callW np g as ρ2 Q), fun h => ew_methK ((WpE.ok h).imp fun d ρ1 h => by
    obtain ⟨c, h⟩ := h.ex
    exact ⟨c, ew_call ((WpA.ok h).imp fun _ _ h => callW_ok h)⟩), fun h k => WpE.mono h fun _ _ h => h.mono fun h => WpA.mono h fun _ _ h => callW_mono h k⟩
def fldQ (C f : Str) (o : Option (Option Wt)) (Q : Dt → Prop) : Prop := match o with
  | some (some (.tr t)) => wO (fldT C f t) Q
  | _ => False
instance p_fldS {C f : Str} {j : Nat} : WpE (eFldS C f j) := ⟨fun ρ Q => fldQ C f ρ[j]? fun d => Q d ρ, fun {ρ Q} h => by
  unfold fldQ at h
  split at h
  · rename_i t e
    obtain ⟨d, e2, h⟩ := h.ex
    exact ⟨d, ρ, by unfold eFldS; simp only [e, e2], h⟩
  · exact h.elim, fun {ρ Q Q'} h k => by
  unfold fldQ at h ⊢
  split at h
  · exact h.mono fun _ h => k _ _ h
  · exact h.elim⟩
def mkQ (w : Wt) (cs : List Wt) (Q : Wt → List Wt → Prop) : Prop := match w, cs with
  | .sh .non, c :: cs => Q c cs
  | _, _ => False
theorem mkQ.ex {w : Wt} {cs : List Wt} {Q : Wt → List Wt → Prop} (h : mkQ w cs Q) : ∃ c ds, w = .sh .non ∧ cs = c :: ds ∧ Q c ds := by
  unfold mkQ at h
  split at h
  · exact ⟨_, _, rfl, rfl, h⟩
  · exact h.elim
theorem mkQ.mono {w : Wt} {cs : List Wt} {Q Q' : Wt → List Wt → Prop} (h : mkQ w cs Q) (k : ∀ c cs, Q c cs → Q' c cs) : mkQ w cs Q' := by
  unfold mkQ at h ⊢
  split at h
  · exact k _ _ h
  · exact h.elim
instance p_make {C : Str} {n : Nat} {g : FnD} [WpA fa] : WpW (wMake C n g fa) :=
  ⟨fun ρ Q => WpA.wp fa ρ fun as ρ1 => wO (toWs ρ1 as) fun ws => wC (Nat.beq (ws.length + 1) n) (wC (nodB (slotsOf as)) (fL ws fun ws => At (EvF g (.tr (.nd (.ob C []) []) :: ws) fun w cs => mkQ w cs fun c ds => fL (putBack (slotsOf as) ds ρ1) fun ρ2 => Q c ρ2))), fun {ρ Q} h => by
    obtain ⟨as, ρ1, e, h⟩ := WpA.ok h
    obtain ⟨ws, e1, h⟩ := wO.ex h
    obtain ⟨l, h⟩ := h.ex
    obtain ⟨m, h⟩ := h.ex
    obtain ⟨w, cs, e2, h⟩ := (fL_ok ws _ h).h
    obtain ⟨c, ds, rfl, rfl, h⟩ := h.ex
    exact ⟨c, _, by unfold wMake bindAW; simp only [e, e1]; rw [if_pos ⟨Nat.eq_of_beq_eq_true l, nodB_ok m⟩, e2]; rfl, fL_ok _ _ h⟩,
    fun h k => WpA.mono h fun _ _ h => wO.mono h fun _ h => h.mono fun h => h.mono fun h => h.mono fun _ h => h.mono fun h => h.imp fun _ _ h => h.mono fun _ _ h => h.mono fun _ h => k _ _ h⟩
instance p_appQ [WpQ fq] : WpS (sAppQ ff fq) :=
  ⟨fun ρ N _ => wO (ff ρ) fun jp => WpQ.wp fq ρ fun d => wC (flatT d) (wO (nodeAct jp.1 jp.2 (actApp (.sh d)) ρ) fun ρ1 => fL ρ1 N), fun {ρ N R} h => by
    obtain ⟨⟨j, π⟩, e, h⟩ := wO.ex h
    obtain ⟨d, e2, h⟩ := WpQ.ok h
    obtain ⟨c, h⟩ := h.ex
    obtain ⟨ρ1, e3, h⟩ := h.ex
    exact .inl ⟨ρ1, by unfold sAppQ; simp only [e, e2]; rw [if_pos c]; simp only [] at e3; rw [e3], fL_ok _ _ h⟩, fun h k _ => wO.mono h fun _ h => WpQ.mono h fun _ h => h.mono fun h => h.mono fun _ h => h.mono k⟩
instance p_appN : WpS (sAppN ff) :=
  ⟨fun ρ N _ => wO (ff ρ) fun jp => wO (nodeAct jp.1 jp.2 (actApp (.nd .lst [])) ρ) fun ρ1 => fL ρ1 N, fun {ρ N R} h => by
    obtain ⟨⟨j, π⟩, e, h⟩ := wO.ex h
    obtain ⟨ρ1, e3, h⟩ := wO.ex h
    exact .inl ⟨ρ1, by unfold sAppN; simp only [e]; simp only [] at e3; rw [e3], fL_ok _ _ h⟩, fun h k _ => wO.mono h fun _ h => wO.mono h fun _ h => h.mono k⟩
def intQ (d : Dt) (Q : Int → Prop) : Prop := match d with
  | .int z => Q z
  | _ => False
theorem intQ.ex {d : Dt} {Q : Int → Prop} (h : intQ d Q) : ∃ z, d = .int z ∧ Q z := by
  unfold intQ at h
  split at h
  · exact ⟨_, rfl, h⟩
  · exact h.elim
theorem intQ.mono {d : Dt} {Q Q' : Int → Prop} (h : intQ d Q) (k : ∀ z, Q z → Q' z) : intQ d Q' := by
  unfold intQ at h ⊢
  split at h
  · exact k _ h
  · exact h.elim
instance p_putF [WpE fe] [WpQ fi] : WpS (sPutF ff fi fe) :=
  ⟨fun ρ N _ => WpE.wp fe ρ fun d ρ1 => wO (ff ρ1) fun jp => WpQ.wp fi ρ1 fun k => intQ k fun z => wO (nodeAct jp.1 jp.2 (actPut z (.sh d)) ρ1) fun ρ2 => fL ρ2 N, fun {ρ N R} h => by
    obtain ⟨d, ρ1, e0, h⟩ := WpE.ok h
    obtain ⟨⟨j, π⟩, e, h⟩ := wO.ex h
    obtain ⟨k, e2, h⟩ := WpQ.ok h
    obtain ⟨z, rfl, h⟩ := intQ.ex h
    obtain ⟨ρ2, e3, h⟩ := wO.ex h
    exact .inl ⟨ρ2, by unfold sPutF bindES; simp only [e0, e, e2]; simp only [] at e3; rw [e3], fL_ok _ _ h⟩, fun h k _ => WpE.mono h fun _ _ h => wO.mono h fun _ h => WpQ.mono h fun _ h => h.mono fun _ h => h.mono fun _ h => h.mono k⟩
instance p_newT2 {i j : Nat} : WpS (sNewT2 i j) :=
  ⟨fun ρ N _ => fL ((ρ.set i (some (.tr (.nd .lst [])))).set j (some (.tr (.nd .lst [])))) N, fun h => .inl ⟨_, rfl, fL_ok _ _ h⟩, fun h k _ => h.mono k⟩
instance p_fldW {C f : Str} {j : Nat} [WpW fw] : WpS (sFldS C f j fw) :=
  ⟨fun ρ N _ => WpW.wp fw ρ fun w ρ1 => wO (nodeAct j [] (actFld C f (asT w)) ρ1) fun ρ2 => fL ρ2 N, fun {ρ N R} h => by
    obtain ⟨w, ρ1, e, h⟩ := WpW.ok h
    obtain ⟨ρ2, e2, h⟩ := h.ex
    exact .inl ⟨ρ2, by unfold sFldS bindWS; simp only [e, e2], fL_ok _ _ h⟩, fun h k _ => WpW.mono h fun _ _ h => h.mono fun _ h => h.mono k⟩
instance p_disp {ks : List Str} {js : List Nat} : WpW (wDisp ks js) :=
  ⟨fun ρ Q => wO (moveAll js ρ) fun r => fL r.2 fun ρ1 => Q (.tr (.nd (.dk (ks.map .inr)) (r.1.map asT))) ρ1, fun {ρ Q} h => by
    obtain ⟨⟨ws, ρ1⟩, e, h⟩ := wO.ex h
    have h := fL_ok _ _ h
    exact ⟨_, ρ1, by unfold wDisp; simp only [e], h⟩, fun h k => wO.mono h fun _ h => h.mono fun _ h => k _ _ h⟩
end
end DL
namespace DL
open PySem PySem.Spec PyProof.Rows L2 RZ
/-! ### len(set(row)), row a list of tuples of ints -/
def intsE : List Dt → Option (List Int)
  | [] => some []
  | .int i :: ds => (match intsE ds with
    | some is => some (i :: is)
    | none => none)
  | _ => none
def rowsD : List Dt → Option (List (List Int))
  | [] => some []
  | .tup xs :: ds => (match intsE xs, rowsD ds with
    | some k, some r => some (k :: r)
    | _, _ => none)
  | _ => none
def distI : List (List Int) → List (List Int)
  | [] => []
  | k :: r => if k ∈ r then distI r else k :: distI r
def dLenSet : List Dt → Option Dt
  | [.lst ds] => (match rowsD ds with
    | some r => if r.length < 64 then some (.int (distI r).length) else none
    | none => none)
  | _ => none
theorem dist_mem {k : List Int} : ∀ {r : List (List Int)}, k ∈ distI r ↔ k ∈ r
  | [] => by simp [distI]
  | q :: r => by
    unfold distI
    split
    · rename_i h
      rw [dist_mem (r := r)]
      constructor
      · exact fun z => List.mem_cons_of_mem _ z
      · intro z
        rcases List.mem_cons.mp z with z | z
        · subst z; exact h
        · exact z
    · rw [List.mem_cons, List.mem_cons, dist_mem (r := r)]
theorem dist_nodup : ∀ (r : List (List Int)), (distI r).Nodup
  | [] => by simp [distI]
  | q :: r => by
    unfold distI
    split
    · exact dist_nodup r
    · rename_i h
      exact List.nodup_cons.mpr ⟨fun z => h (dist_mem.mp z), dist_nodup r⟩
theorem nodup_le {α : Type} [DecidableEq α] : ∀ {l m : List α}, l.Nodup → (∀ x ∈ l, x ∈ m) → l.length ≤ m.length
  | [], _, _, _ => Nat.zero_le _
  | x :: l, m, n, s => by
    obtain ⟨n1, n2⟩ := List.nodup_cons.mp n
    have hx := s x List.mem_cons_self
    have := nodup_le (l := l) (m := m.erase x) n2 fun y hy => (List.mem_erase_of_ne (fun e => by subst e; exact n1 hy)).mpr (s y (List.mem_cons_of_mem _ hy))
    rw [List.length_erase_of_mem hx] at this
    have h1 : 0 < m.length := List.length_pos_of_mem hx
    rw [List.length_cons]
    omega
section
variable {X : Cx}
def rLenT (X : Cx) : List V → Hp → VK → Prop := fun xs H Q => ∃ (a : Addr) (L : List (Addr × List Int)), xs = [V.ref a] ∧ H a = some (SetTO X.prog X.w a L) ∧ (∀ p ∈ L, SqT X.K H p.1 (p.2.map V.int)) ∧ ((L.map (·.2)).Nodup → Q (.int L.length) H)
theorem cr_lenT : CallR X (.builtin "len") (rLenT X) := by
  intro pins s σ H xs us Q I r h
  obtain ⟨a, L, rfl, ha, ht, q⟩ := h
  rw [Vals.ref1 r]
  obtain ⟨R, _⟩ := (show ObjOk X.prog X.w H s.heap a (SetTO X.prog X.w a L) from I.hok a _ ha)
  obtain ⟨es, ep, t, R2⟩ := (show SetT0 X.prog X.w s.heap a L from R).full fun p hp => I.isT (ht p hp)
  obtain ⟨o, ho, hex, hd⟩ := R2.ob
  have hz := R2.size
  have hf := R2.few
  refine call_len_set ho hex hd R2.fits (by omega) ⟨.int L.length, H, (I.tok _), ⟨_, by rw [hz]⟩, q R2.nd⟩
theorem intsE_ok {K : PySem.W.Frag} {F : Hp} : ∀ {ds : List Dt} {vs : List V} {is : List Int}, Rps K F ds vs → intsE ds = some is → vs = is.map V.int
  | _, _, _, .nil, e => by cases e; rfl
  | _, _, is, .cons h r, e => by
    unfold intsE at e
    split at e
    · rename_i e0; cases e0
    · rename_i i ds' e1
      cases e1
      cases h
      split at e
      · rename_i is' e2
        cases e
        rw [List.map_cons, intsE_ok r e2]
      · cases e
    · cases e
theorem rowsD_ok {K : PySem.W.Frag} {F : Hp} : ∀ {ds : List Dt} {vs : List V} {r : List (List Int)}, Rps K F ds vs → rowsD ds = some r → ∃ ks : List (Addr × List Int), vs = ks.map (fun p => V.ref p.1) ∧ ks.map (·.2) = r ∧ ∀ p ∈ ks, SqT K F p.1 (p.2.map V.int)
  | _, _, _, .nil, e => by cases e; exact ⟨[], rfl, rfl, fun p h => by cases h⟩
  | _, _, r, .cons h t, e => by
    unfold rowsD at e
    split at e
    · rename_i e0; cases e0
    · rename_i xs ds' e1
      cases e1
      cases h with
      | @tup a us _ hq hr =>
        split at e
        · rename_i k r' e2 e3
          cases e
          obtain ⟨ks, a1, a2, a3⟩ := rowsD_ok t e3
          have := intsE_ok hr e2
          subst this
          refine ⟨(a, k) :: ks, by rw [List.map_cons, a1], by rw [List.map_cons, a2], fun p hp => ?_⟩
          rcases List.mem_cons.mp hp with z | z
          · rw [z]; exact hq
          · exact a3 p z
        · cases e
    · cases e
variable {P : Pt} {Wx : WX} {a : Expr} {fa : FA} {p p2 q pos : Pos}
theorem d_lenSet (hc : X.calm = true) (hu : X.A.units + 64 < cLine) (hg : Gl X "len") (hm : X.mg "len" = none) (hg2 : Gl X "set") (hm2 : X.mg "set" = none) (ha : PA X [a] (LA X.K P Wx fa)) (na : starEach [a] X.env = (false, eval a X.env) :: starEach [] X.env := by rfl) (hpl : (backTo q (starEach [] X.env)).any (·.1) = false := by rfl)
    (nb : starEach [.Call (.Name "set" p2) [a] [] q] X.env = (false, eval (.Call (.Name "set" p2) [a] [] q) X.env) :: starEach [] X.env := by rfl) (hpl2 : (backTo pos (starEach [] X.env)).any (·.1) = false := by rfl) :
    PE X (.Call (.Name "len" p) [.Call (.Name "set" p2) [a] [] q] [] pos) (LE X.K P Wx (eCB dLenSet fa)) :=
  PEm (pe_callB cr_lenT hg hm PySem.boot_len (pa_cons (pe_callTy (cr_setOfT hc hu) hg2 hm2 PyProof.Rows.boot_set ha (by decide) (by decide) na hpl) pa_nil nb) (by decide) (by decide) nb hpl2) fun σ H Q h => by
  obtain ⟨F, ρ, rr, q⟩ := h
  refine LA.bindE rr q fun as ρ1 F1 H1 vs s1 r1 p1 q1 => ?_
  cases e : vals as with
  | none => simp only [e] at q1; exact q1.elim
  | some ds =>
    simp only [e] at q1
    have hr := vals_ok p1 e
    cases eo : dLenSet ds with
    | none => rw [eo] at q1; exact q1.elim
    | some g =>
      rw [eo] at q1
      unfold dLenSet at eo
      split at eo
      · rename_i es
        split at eo
        · rename_i r er
          split at eo
          · rename_i hl
            cases eo
            match vs, hr with
            | _, .cons (.lst hq hr) .nil =>
              obtain ⟨ks, k1, k2, k3⟩ := rowsD_ok hr er
              subst k1
              refine ⟨_, ks, rfl, .inl (.inl (r1.fh _ _ hq)), fun p hp => same_sqT r1.fh (k3 p hp), by rw [← k2, List.length_map] at hl; exact hl, fun l L nl s1 s2 => ?_⟩
              have g := Grow.laid (o := SetTO X.prog X.w l L) r1.fh nl
              refine ⟨l, L, rfl, upd_same, fun p hp => same_sqT (r1.fh.trans (same_new nl)) (k3 p (s1 p hp)), fun nd => ?_⟩
              have e1 : L.length = (distI r).length := by
                have h1 : (L.map (·.2)).length ≤ (distI r).length := nodup_le nd fun k hk => by
                  obtain ⟨p, hp, rfl⟩ := List.mem_map.mp hk
                  exact dist_mem.mpr (by rw [← k2]; exact List.mem_map.mpr ⟨p, s1 p hp, rfl⟩)
                have h2 : (distI r).length ≤ (L.map (·.2)).length := nodup_le (dist_nodup r) fun k hk => by
                  have := dist_mem.mp hk
                  rw [← k2] at this
                  obtain ⟨p, hp, rfl⟩ := List.mem_map.mp this
                  exact s2 p hp
                rw [List.length_map] at h1 h2
                omega
              rw [e1]
              exact q1 _ _ _ g.f (r1.grow g) (.int _)
          · cases eo
        · cases eo
      · cases eo
/-! a quiet comparison as a test -/
variable {b : Expr} {qa qb : FQ}
theorem tq_cmp {op : CmpOp} {r : R2} {o : Dt → Dt → Option Dt} (ho : OpR X (compareOp op) r) (hr : OpD X.K r o) (ha : PE X a (LQ X.K P Wx qa)) (hb : PE X b (LQ X.K P Wx qb)) (hm : behindInMarks op b = false) : PT X (.Compare a [op] [b] pos) (LT X.K P Wx (eQ (qOp o qa qb))) :=
  PTm (pt_cmpR ho ha hb hm) fun _ _ _ h => LQ_op hr (LE_q h)
end
end DL
namespace DL
open PySem PySem.Spec PyProof.Rows L2 RZ
theorem u64 {k : Nat} {A : Around} (r : Room k A) : A.units + 64 < cLine := by have := r.un; omega
/-! ### x in l, deep -/
def inT : Dt → Dt → Option Bool
  | d, .lst xs => if okPy d = true ∧ okPy (.lst xs) = true then some ((toPys xs).any fun z => PyData.eqv z (toPy d)) else none
  | _, _ => none
def dInT (d e : Dt) : Option Dt := (inT d e).map .bl
def dNotInT (d e : Dt) : Option Dt := (inT d e).map fun b => .bl (!b)
section
variable {X : Cx}
theorem inT_ok {d e : Dt} {b : Bool} (h : inT d e = some b) {F H : Hp} {x y : V} (s : Same F H) (hd : Rp X.K F d x) (he : Rp X.K F e y) : ∃ d' ds, Dp X.K H x d' ∧ Dp X.K H y (.list ds) ∧ SeqAt.shaped d' = true ∧ SeqAt.shaped (.list ds) = true ∧ (ds.any fun z => PyData.eqv z d') = b := by
  unfold inT at h
  split at h
  · rename_i xs
    split at h
    · rename_i c
      cases h
      have e1 : toPy (.lst xs) = .list (toPys xs) := by simp only [toPy]
      refine ⟨toPy d, toPys xs, hd.dp s (SeqAt.canLay_of_shaped c.1), ?_, c.1, by rw [← e1]; exact c.2, rfl⟩
      rw [← e1]
      exact he.dp s (SeqAt.canLay_of_shaped c.2)
    · cases h
  · cases h
theorem od_inT : OpD X.K (rInD X.K) dInT := by
  intro d e g h F H x y Q s hd he q
  unfold dInT at h
  cases hb : inT d e with
  | none => rw [hb] at h; cases h
  | some b =>
    rw [hb] at h
    cases h
    obtain ⟨d', ds, a1, a2, a3, a4, a5⟩ := inT_ok hb s hd he
    exact ⟨d', ds, a1, a2, a3, a4, by rw [a5]; exact q F H _ (Grow.refl s) (.bl _)⟩
theorem od_notInT : OpD X.K (rNotInD X.K) dNotInT := by
  intro d e g h F H x y Q s hd he q
  unfold dNotInT at h
  cases hb : inT d e with
  | none => rw [hb] at h; cases h
  | some b =>
    rw [hb] at h
    cases h
    obtain ⟨d', ds, a1, a2, a3, a4, a5⟩ := inT_ok hb s hd he
    exact ⟨d', ds, a1, a2, a3, a4, by rw [a5]; exact q F H _ (Grow.refl s) (.bl _)⟩
end
/-! ### where methods stand -/
section
variable {K : PySem.W.Frag} {h : Heap} {mg : Str → Option Value} {C m qual : Str} {st : Stmt} {ps : List Str} {Ca f : Addr} {oc : Value} {od an : Option Addr} {osl : Array (Option Value)} {kV doc pm cdv ct : Value}
theorem mdef_mk (aC : PySem.W.nsIn K mainGlobals C = some (some (.ref Ca))) (cl : Cls K Ca) (i : PySem.W.findIn K (.ref Ca) m = some (some (.ref f))) (fn : PySem.W.isFn K (.ref f) = true)
    (l : K.lookup f = some ⟨oc, od, .func (PySem.W.fnOf m qual (defArgs st) (defBody st) (defScope st) .none kV doc pm an cdv ct), osl⟩) (c : PySem.W.codeIn K cdv qual = true) (k : PySem.W.keepIn K (.ref f) = true) (hq : C ++ ("." : Str) ++ m = qual)
    (hb : ∀ (kV doc pm : Value) (an : Option Addr) (cdv ct : Value) (us : List Value), us.length = ps.length → bindArgs (PySem.W.fnOf m qual (defArgs st) (defBody st) (defScope st) .none kV doc pm an cdv ct) ⟨us, []⟩ = pure (ps.zip us)) : MDefAt K mg C m st ps := by
  subst hq
  have F := fun_mk (st := st) l c k
  exact ⟨Ca, f, _, aC, cl, ⟨i, fn, k⟩, F, F.binds hb⟩
theorem mkdef_mk (X : K.In h) (G : h.Ns mainGlobals mg) (aC : PySem.W.nsIn K mainGlobals C = some (some (.ref Ca))) (mk : PySem.W.makesIn K Ca = true) (kc : PySem.W.keepIn K (.ref Ca) = true) (i : PySem.W.findIn K (.ref Ca) "__init__" = some (some (.ref f))) (fn : PySem.W.isFn K (.ref f) = true)
    (l : K.lookup f = some ⟨oc, od, .func (PySem.W.fnOf "__init__" qual (defArgs st) (defBody st) (defScope st) .none kV doc pm an cdv ct), osl⟩) (c : PySem.W.codeIn K cdv qual = true) (k : PySem.W.keepIn K (.ref f) = true) (hq : C ++ ("." : Str) ++ "__init__" = qual)
    (hb : ∀ (kV doc pm : Value) (an : Option Addr) (cdv ct : Value) (us : List Value), us.length = ps.length → bindArgs (PySem.W.fnOf "__init__" qual (defArgs st) (defBody st) (defScope st) .none kV doc pm an cdv ct) ⟨us, []⟩ = pure (ps.zip us)) : MkDefAt K mg C st ps := by
  subst hq
  have F := fun_mk (st := st) l c k
  exact ⟨Ca, f, _, aC, PySem.W.mg_of X G aC, ⟨mk, i, fn, kc⟩, F, F.binds hb⟩
theorem mkdef_K0 {n : Nat} {ks : List Str} {ar : List (Nat ⊕ Nat)} (aC : PySem.W.nsIn K mainGlobals C = some (some (.ref Ca))) (cl : Cls K Ca) (i : PySem.W.findIn K (.ref Ca) m = some (some (.ref f))) (fn : PySem.W.isFn K (.ref f) = true)
    (l : K.lookup f = some ⟨oc, od, .func (PySem.W.fnOf m qual (defArgs st) (defBody st) (defScope st) .none kV doc pm an cdv ct), osl⟩) (c : PySem.W.codeIn K cdv qual = true) (k : PySem.W.keepIn K (.ref f) = true) (hq : C ++ ("." : Str) ++ m = qual)
    (hb : ∀ (kV doc pm : Value) (an : Option Addr) (cdv ct : Value) (us ws : List Value), us.length = n → ws.length = ks.length → bindArgs (PySem.W.fnOf m qual (defArgs st) (defBody st) (defScope st) .none kV doc pm an cdv ct) ⟨us, ks.zip ws⟩ = pure (ps.zip (arrL [] ar (us ++ ws)))) : MKDefAt K mg C m st ps n ks ar [] := by
  subst hq
  have F := fun_mk (st := st) l c k
  exact ⟨Ca, f, _, [], [], aC, cl, ⟨i, fn, k⟩, F, ⟨fun s us ws _ h1 h2 => .of_eq (hb kV doc pm an cdv ct us ws h1 h2)⟩, .nil, fun _ => .nil⟩
theorem mkdef_K1 {n : Nat} {ks : List Str} {ar : List (Nat ⊕ Nat)} {kvs : List (Str × Dt)} {D : Addr} (aC : PySem.W.nsIn K mainGlobals C = some (some (.ref Ca))) (cl : Cls K Ca) (i : PySem.W.findIn K (.ref Ca) m = some (some (.ref f))) (fn : PySem.W.isFn K (.ref f) = true)
    (l : K.lookup f = some ⟨oc, od, .func (PySem.W.fnOf m qual (defArgs st) (defBody st) (defScope st) .none (.ref D) doc pm an cdv ct), osl⟩) (c : PySem.W.codeIn K cdv qual = true) (k : PySem.W.keepIn K (.ref f) = true) (hq : C ++ ("." : Str) ++ m = qual) (he : EntriesOk K D kvs)
    (hb : ∀ (D : Addr) (doc pm : Value) (an : Option Addr) (cdv ct : Value) (us ws ms : List Value), us.length = n → ws.length = ks.length → ms.length = kvs.length → KwChain D ((kvs.map (·.1)).zip ms) (bindArgs (PySem.W.fnOf m qual (defArgs st) (defBody st) (defScope st) .none (.ref D) doc pm an cdv ct) ⟨us, ks.zip ws⟩) (ps.zip (arrL ms ar (us ++ ws)))) : MKDefAt K mg C m st ps n ks ar (kvs.map (·.2)) := by
  subst hq
  have F := fun_mk (st := st) l c k
  obtain ⟨ms, vs, e1, e2, e3, e4⟩ := entries_vals he
  exact ⟨Ca, f, _, ms, vs, aC, cl, ⟨i, fn, k⟩, F, ⟨fun s us ws KI h1 h2 => BindsTo.of_looks fun M => KwChain.looks KI e4 (hb D doc pm an cdv ct us ws ms h1 h2 e1)⟩, e2, e3⟩
end
end DL
namespace Lw
open PySem PySem.Spec PyProof.Rows L2 RZ DL
/-! ### webs: prices, rates, steps -/
structure Web where
  ps : List (List Rat)
  rs : List (List Rat)
  ss : List (List (Nat × Nat))
def stD (p : Nat × Nat) : Dt := .tup [.int p.1, .int p.2]
def amL (row : List Rat) : Dt := .lst (row.map amR)
def stL (row : List (Nat × Nat)) : Dt := .lst (row.map stD)
def Web.psD (w : Web) : Dt := .lst (w.ps.map amL)
def Web.rsD (w : Web) : Dt := .lst (w.rs.map amL)
def Web.ssD (w : Web) : Dt := .lst (w.ss.map stL)
def rowT (row : List Rat) : Tr := .nd .lst (row.map fun r => .sh (amR r))
def stT (row : List (Nat × Nat)) : Tr := .nd .lst (row.map fun p => .sh (stD p))
def Web.tr (w : Web) : Tr := .nd (.dk [.inr "prices", .inr "rates", .inr "steps"]) [.nd .lst (w.ps.map fun r => .sh (amL r)), .nd .lst (w.rs.map rowT), .nd .lst (w.ss.map stT)]
def Web.d (w : Web) : Dt := .dK [(.inr "prices", w.psD), (.inr "rates", w.rsD), (.inr "steps", w.ssD)]
def objD (PS RS SS : Dt) : Dt := .obj "Lattice" [("prices", PS), ("rates", RS), ("steps", SS)]
def webD (PS RS SS : Dt) : Dt := .dK [(.inr "prices", PS), (.inr "rates", RS), (.inr "steps", SS)]
theorem dts_map {α : Type} (f : α → Tr) : ∀ xs : List α, Tr.dts (xs.map f) = xs.map fun x => (f x).dt
  | [] => by rw [List.map_nil, Tr.dts]; rfl
  | x :: xs => by rw [List.map_cons, Tr.dts, dts_map f xs, List.map_cons]
theorem rowT_dt (row : List Rat) : (rowT row).dt = amL row := by
  unfold rowT amL
  (rw [Tr.dt, dts_map]) <;> (
  exact congrArg Dt.lst (List.map_congr_left fun r _ => by rw [Tr.dt]))
theorem stT_dt (row : List (Nat × Nat)) : (stT row).dt = stL row := by
  unfold stT stL
  (rw [Tr.dt, dts_map]) <;> (
  exact congrArg Dt.lst (List.map_congr_left fun r _ => by rw [Tr.dt]))
theorem Web.tr_dt (w : Web) : w.tr.dt = w.d := by
  unfold Web.tr Web.d
  rw [Tr.dt, Tr.dts, Tr.dts, Tr.dts, Tr.dts, Tr.dt, Tr.dt, Tr.dt, dts_map, dts_map, dts_map]
  show Dt.dK _ = _
  have h1 : (w.ps.map fun x => (Tr.sh (amL x)).dt) = w.ps.map amL := List.map_congr_left fun r _ => by rw [Tr.dt]
  have h2 : (w.rs.map fun x => (rowT x).dt) = w.rs.map amL := List.map_congr_left fun r _ => rowT_dt r
  have h3 : (w.ss.map fun x => (stT x).dt) = w.ss.map stL := List.map_congr_left fun r _ => stT_dt r
  rw [h1, h2, h3]
  rfl
theorem wnf {b : Bool} {T F : Prop} (e : b = true) (h : F) : wT (!b) T F := by subst e; exact h
theorem wnt {b : Bool} {T F : Prop} (e : b = false) (h : T) : wT (!b) T F := by subst e; exact h
theorem rb0 : RB 2 (0 : Rat) := ⟨by decide +kernel, by decide +kernel⟩
theorem rb1 : RB 2 (1 : Rat) := ⟨by decide +kernel, by decide +kernel⟩
/-! places -/
theorem atI_nat {α : Type} {xs : List α} {d : Int} {i : Nat} {x : α} (h : d = i) (e : xs[i]? = some x) : atI xs d = some x := by
  subst h
  have hi : i < xs.length := (List.getElem?_eq_some_iff.mp e).1
  unfold L2.atI L2.ixN
  rw [if_pos (by omega), if_pos (by omega)]
  exact e
structure RowI (l : Nat) (f : Nat → Option Dt) (R : Dt) (z : Int) : Prop where
  z_ : z = l
  len : dLen [R] = some (.int z)
  ix : ∀ (n : Int) (k : Nat) (d : Dt), n = k → f k = some d → dIx R (.int n) = some d
theorem rowI_mk {xs : List Dt} (h : xs.length ≤ 100000) : RowI xs.length (fun k => xs[k]?) (.lst xs) xs.length := ⟨rfl, rfl, fun n k d e q => atI_nat e q⟩
/-- data that stands for a web -/
structure WD (w : Web) (PS RS SS : Dt) (zp zs : Int) : Prop where
  zp_ : zp = w.ps.length
  zs_ : zs = w.ss.length
  lp : dLen [PS] = some (.int zp)
  ls : dLen [SS] = some (.int zs)
  ip : ∀ (d : Int) (i : Nat) (row : List Rat), d = i → w.ps[i]? = some row → ∃ R z, dIx PS (.int d) = some R ∧ RowI row.length (fun k => row[k]?.map amR) R z
  ir : ∀ (d : Int) (i : Nat) (row : List Rat), d = i → w.rs[i]? = some row → ∃ R z, dIx RS (.int d) = some R ∧ RowI row.length (fun k => row[k]?.map amR) R z
  is_ : ∀ (d : Int) (i : Nat) (row : List (Nat × Nat)), d = i → w.ss[i]? = some row → ∃ R z, dIx SS (.int d) = some R ∧ RowI row.length (fun k => row[k]?.map stD) R z
theorem WD.mk_ (w : Web) : WD w w.psD w.rsD w.ssD w.ps.length w.ss.length := by
  refine ⟨rfl, rfl, ?_, ?_, fun d i row h e => ⟨amL row, row.length, ?_, ?_⟩, fun d i row h e => ⟨amL row, row.length, ?_, ?_⟩, fun d i row h e => ⟨stL row, row.length, ?_, ?_⟩⟩
  · show some (Dt.int ((w.ps.map amL).length : Nat)) = _; rw [List.length_map]
  · show some (Dt.int ((w.ss.map stL).length : Nat)) = _; rw [List.length_map]
  · exact atI_nat h (by rw [List.getElem?_map, e]; rfl)
  · refine ⟨rfl, ?_, fun n k d e q => atI_nat e (by rw [List.getElem?_map]; exact q)⟩
    show some (Dt.int ((row.map amR).length : Nat)) = _; rw [List.length_map]
  · exact atI_nat h (by rw [List.getElem?_map, e]; rfl)
  · refine ⟨rfl, ?_, fun n k d e q => atI_nat e (by rw [List.getElem?_map]; exact q)⟩
    show some (Dt.int ((row.map amR).length : Nat)) = _; rw [List.length_map]
  · exact atI_nat h (by rw [List.getElem?_map, e]; rfl)
  · refine ⟨rfl, ?_, fun n k d e q => atI_nat e (by rw [List.getElem?_map]; exact q)⟩
    show some (Dt.int ((row.map stD).length : Nat)) = _; rw [List.length_map]
/-- a node with a step -/
structure Nd (w : Web) (i k : Nat) (p r u l : Rat) (a b : Nat) : Prop where
  hp : ∃ row, w.ps[i]? = some row ∧ row[k]? = some p
  hr : ∃ row, w.rs[i]? = some row ∧ row[k]? = some r
  hs : ∃ row, w.ss[i]? = some row ∧ row[k]? = some (a, b)
  hu : ∃ row, w.ps[i + 1]? = some row ∧ row[a]? = some u ∧ row[b]? = some l
structure NdOk (p r u l : Rat) : Prop where
  p0 : 0 < p
  r0 : 0 < r
  ul : l < u
  l0 : 0 < l
  pb : RB 8 p
  rb : RB 40 r
  ub : RB 8 u
  lb : RB 8 l
structure WebOk (w : Web) : Prop where
  n1 : 1 ≤ w.ps.length
  n7 : w.ps.length ≤ 7
  lr : w.rs.length + 1 = w.ps.length
  ls : w.ss.length + 1 = w.ps.length
  one : ∀ row, w.ps[0]? = some row → row.length = 1
  row : ∀ (i : Nat) (row : List Rat), w.ps[i]? = some row → 1 ≤ row.length ∧ row.length ≤ 8
  rows : ∀ (i : Nat) (row : List Rat) (rr : List Rat), w.ps[i]? = some row → w.rs[i]? = some rr → rr.length = row.length
  sows : ∀ (i : Nat) (row : List Rat) (sr : List (Nat × Nat)), w.ps[i]? = some row → w.ss[i]? = some sr → sr.length = row.length
  pos : ∀ (i : Nat) (row : List Rat), w.ps[i]? = some row → ∀ p ∈ row, 0 < p ∧ RB 8 p
  rpos : ∀ (i : Nat) (row : List Rat), w.rs[i]? = some row → ∀ p ∈ row, 0 < p ∧ RB 40 p
  nd : ∀ (i : Nat) (sr : List (Nat × Nat)), w.ss[i]? = some sr → ∀ s ∈ sr, ∃ row u l, w.ps[i + 1]? = some row ∧ row[s.1]? = some u ∧ row[s.2]? = some l ∧ l < u
theorem WebOk.node {w : Web} (h : WebOk w) {i k : Nat} {sr : List (Nat × Nat)} (hi : w.ss[i]? = some sr) (hk : k < sr.length) : ∃ p r u l a b, Nd w i k p r u l a b ∧ NdOk p r u l := by
  have h1 : i < w.ss.length := (List.getElem?_eq_some_iff.mp hi).1
  have h2 := h.ls
  have h3 := h.lr
  have ep : w.ps[i]? = some w.ps[i] := List.getElem?_eq_getElem (by omega)
  have er : w.rs[i]? = some w.rs[i] := List.getElem?_eq_getElem (by omega)
  have l1 := h.sows i _ _ ep hi
  have l2 := h.rows i _ _ ep er
  have ek : w.ps[i][k]? = some w.ps[i][k] := List.getElem?_eq_getElem (by omega)
  have ek2 : w.rs[i][k]? = some w.rs[i][k] := List.getElem?_eq_getElem (by omega)
  have es : sr[k]? = some sr[k] := List.getElem?_eq_getElem hk
  obtain ⟨row, u, l, e1, e2, e3, e4⟩ := h.nd i sr hi sr[k] (List.getElem_mem hk)
  have q1 := h.pos i _ ep _ (List.getElem_mem (h := by omega) : w.ps[i][k] ∈ w.ps[i])
  have q2 := h.rpos i _ er _ (List.getElem_mem (h := by omega) : w.rs[i][k] ∈ w.rs[i])
  have q3 := h.pos _ _ e1 u (List.mem_of_getElem? e2)
  have q4 := h.pos _ _ e1 l (List.mem_of_getElem? e3)
  exact ⟨_, _, u, l, sr[k].1, sr[k].2, ⟨⟨_, ep, ek⟩, ⟨_, er, ek2⟩, ⟨_, hi, es⟩, ⟨row, e1, e2, e3⟩⟩, ⟨q1.1, q2.1, e4, q4.1, q1.2, q2.2, q3.2, q4.2⟩⟩
theorem range_z {z : Int} {n : Nat} (h : z = n) (hn : n ≤ 100000) : rangeD [.int z] = some ((List.range n).map fun i => .int (i : Nat)) := by
  subst h
  unfold rangeD
  simp only []
  rw [if_pos (by constructor <;> omega)]
  congr 1
  rw [show ((n : Int)).toNat = n from rfl]
  exact List.map_congr_left fun i _ => by rw [Int.zero_add]
end Lw
namespace Lw
open PySem PySem.Spec PyProof.Rows L2 RZ DL
/-! plain data of some depth: what it is to be compared -/
mutual
inductive Pl : Nat → Dt → Prop
  | non (n : Nat) : Pl n .non
  | bl (n : Nat) (b : Bool) : Pl n (.bl b)
  | int (n : Nat) (i : Int) : Pl n (.int i)
  | str (n : Nat) {x : Str} : PyData.strOk x = true → Pl n (.str x)
  | tup (n : Nat) {ds : List Dt} : Pls n ds → ds.length ≤ 1000 → Pl (n + 1) (.tup ds)
  | lst (n : Nat) {ds : List Dt} : Pls n ds → ds.length ≤ 1000 → Pl (n + 1) (.lst ds)
inductive Pls : Nat → List Dt → Prop
  | nil (n : Nat) : Pls n []
  | cons {n : Nat} {d : Dt} {ds : List Dt} : Pl n d → Pls n ds → Pls n (d :: ds)
end
mutual
theorem Pl.mono {n m : Nat} (h : n ≤ m) : ∀ {d : Dt}, Pl n d → Pl m d
  | _, .non _ => .non _
  | _, .bl _ b => .bl _ b
  | _, .int _ i => .int _ i
  | _, .str _ h => .str _ h
  | _, .tup k hs hl => by
    obtain ⟨j, rfl⟩ : ∃ j, m = j + 1 := ⟨m - 1, by omega⟩
    exact .tup j (Pls.mono (by omega) hs) hl
  | _, .lst k hs hl => by
    obtain ⟨j, rfl⟩ : ∃ j, m = j + 1 := ⟨m - 1, by omega⟩
    exact .lst j (Pls.mono (by omega) hs) hl
theorem Pls.mono {n m : Nat} (h : n ≤ m) : ∀ {ds : List Dt}, Pls n ds → Pls m ds
  | _, .nil _ => .nil _
  | _, .cons a r => .cons (Pl.mono h a) (Pls.mono h r)
end
mutual
theorem Pl.same : ∀ {n : Nat} {d : Dt}, Pl n d → Same1 n d
  | _, _, .non _ => .non _
  | _, _, .bl _ b => .bl _ b
  | _, _, .int _ i => .int _ i
  | _, _, .str _ h => .str _ _
  | _, _, .tup k hs hl => .tup k (Pls.same hs) hl
  | _, _, .lst k hs hl => .lst k (Pls.same hs) hl
theorem Pls.same : ∀ {n : Nat} {ds : List Dt}, Pls n ds → Same2 n ds
  | _, _, .nil _ => .nil _
  | _, _, .cons a r => .cons (Pl.same a) (Pls.same r)
end
mutual
theorem Pl.lay : ∀ {n : Nat} {d : Dt}, Pl n d → (toPy d).canLay0 = true ∧ (toPy d).depth ≤ n ∧ PyData.eqv (toPy d) (toPy d) = true
  | _, _, .non _ => ⟨rfl, Nat.zero_le _, rfl⟩
  | _, _, .bl _ b => ⟨rfl, Nat.zero_le _, by cases b <;> rfl⟩
  | _, _, .int _ i => ⟨rfl, Nat.zero_le _, by simp [toPy, PyData.eqv]⟩
  | _, _, .str _ h => ⟨by simpa [toPy, PyData.canLay0] using h, Nat.zero_le _, by simp [toPy, PyData.eqv]⟩
  | _, _, .tup k hs hl => by
    obtain ⟨a, b, c⟩ := Pls.lay hs
    exact ⟨by simpa [toPy, PyData.canLay0] using a, by simp only [toPy, PyData.depth]; omega, by simpa [toPy, PyData.eqv] using c⟩
  | _, _, .lst k hs hl => by
    obtain ⟨a, b, c⟩ := Pls.lay hs
    exact ⟨by simpa [toPy, PyData.canLay0] using a, by simp only [toPy, PyData.depth]; omega, by simpa [toPy, PyData.eqv] using c⟩
theorem Pls.lay : ∀ {n : Nat} {ds : List Dt}, Pls n ds → PyData.canLayAll0 (toPys ds) = true ∧ PyData.depthAll (toPys ds) ≤ n ∧ PyData.eqvAll (toPys ds) (toPys ds) = true
  | _, _, .nil _ => ⟨rfl, Nat.zero_le _, rfl⟩
  | _, _, .cons h r => by
    obtain ⟨a, b, c⟩ := Pl.lay h
    obtain ⟨a2, b2, c2⟩ := Pls.lay r
    refine ⟨?_, ?_, ?_⟩
    · simp only [toPys, PyData.canLayAll0, a, a2, Bool.and_self]
    · simp only [toPys, PyData.depthAll]; omega
    · simp only [toPys, PyData.eqvAll, c, c2, Bool.and_self]
end
theorem Pl.ok {n : Nat} {d : Dt} (h : Pl n d) (hn : n ≤ 60) : okPy d = true := by
  obtain ⟨a, b, _⟩ := h.lay
  unfold okPy SeqAt.shaped
  rw [a, decide_eq_true (by omega)]
  rfl
theorem Pl.eqB {n : Nat} {d : Dt} (h : Pl n d) (hn : n ≤ 60) : DL.eqB d d = some true := by
  have ho := h.ok hn
  have hr := h.lay.2.2
  cases h with
  | non => exact rfl
  | bl b => exact congrArg some (decide_eq_true rfl)
  | int i => exact congrArg some (decide_eq_true rfl)
  | str _ => exact congrArg some (decide_eq_true rfl)
  | tup hs hl =>
    rename_i ds _
    have e : DL.eqB (.tup ds) (.tup ds) = if okPy (.tup ds) = true ∧ okPy (.tup ds) = true then some (PyData.eqv (toPy (.tup ds)) (toPy (.tup ds))) else none := rfl
    rw [e, if_pos ⟨ho, ho⟩, hr]
  | lst hs hl =>
    rename_i ds _
    have e : DL.eqB (.lst ds) (.lst ds) = if okPy (.lst ds) = true ∧ okPy (.lst ds) = true then some (PyData.eqv (toPy (.lst ds)) (toPy (.lst ds))) else none := rfl
    rw [e, if_pos ⟨ho, ho⟩, hr]
theorem amt_pl (n : Nat) (q : Rat) : Pl (n + 1) (amR q) := .tup n (.cons (.int _ _) (.cons (.int _ _) (.nil _))) (Nat.le_of_ble_eq_true rfl)
theorem eqL_nil {ds : List Dt} {k : Nat} (h : Pls k ds) (hk : k < 60) (hl : ds.length ≤ 1000) : dEq (.lst ds) (.lst []) = some (.bl ds.isEmpty) := by
  have h1 : okPy (.lst ds) = true := (Pl.lst k h hl).ok (by omega)
  have h2 : okPy (.lst []) = true := by decide +kernel
  have e : DL.eqB (.lst ds) (.lst []) = if okPy (.lst ds) = true ∧ okPy (.lst []) = true then some (PyData.eqv (toPy (.lst ds)) (toPy (.lst []))) else none := rfl
  show (DL.eqB _ _).map _ = _
  rw [e, if_pos ⟨h1, h2⟩]
  cases ds <;> rfl
theorem neL_nil {ds : List Dt} {k : Nat} (h : Pls k ds) (hk : k < 60) (hl : ds.length ≤ 1000) : dNe (.lst ds) (.lst []) = some (.bl (!ds.isEmpty)) := by
  have h1 : okPy (.lst ds) = true := (Pl.lst k h hl).ok (by omega)
  have h2 : okPy (.lst []) = true := by decide +kernel
  have e : DL.eqB (.lst ds) (.lst []) = if okPy (.lst ds) = true ∧ okPy (.lst []) = true then some (PyData.eqv (toPy (.lst ds)) (toPy (.lst []))) else none := rfl
  show (DL.eqB _ _).map _ = _
  rw [e, if_pos ⟨h1, h2⟩]
  cases ds <;> rfl
theorem Pls.map {α : Type} {f : α → Dt} {n : Nat} : ∀ {xs : List α}, (∀ x ∈ xs, Pl n (f x)) → Pls n (xs.map f)
  | [], _ => .nil _
  | x :: xs, h => .cons (h x (by simp)) (Pls.map fun y hy => h y (by simp [hy]))
end Lw
namespace Lw
open PySem PySem.Spec PyProof.Rows L2 RZ DL
local macro_rules | `(tactic| walk_at "sm") => `(tactic| first | assumption | exact sm_of (k := 200) (by omega) (by decide) | exact sm_of (k := 200) (by decide) (by decide))
local macro_rules | `(tactic| walk_at "w1") => `(tactic| ((conv => whnf); (try refine At.mk ?_)))
local macro_rules | `(tactic| walk_at "wa") => `(tactic| first
  | refine wox (ex_mul (Sm.mul (by walk_at "sm") (by walk_at "sm")) ?_)
  | refine wox (ex_mod (by first | decide | omega | assumption) ?_)
  | refine wox (ex_fdiv (Sm.div (by walk_at "sm") (by first | decide | omega | assumption)) ?_))
local macro_rules | `(tactic| walk_at "w") => `(tactic| ((first | refine nrm_go ?_ | refine WpS.ok ?_ | refine WpE.ok ?_ | skip); walk_at "w1"))
local macro_rules | `(tactic| walk_at "wm") => `(tactic| (walk_at "w"; (repeat (walk_at "wa"; walk_at "w1"))))
def b__law_one (g__law_take : FnD) : FS :=
  (sRet (wSh (eOp dIx (eVar 1) (eFrz (wCall 2 g__law_take (aSlot 0 (aVal (eCB dLen (aVal (eVar 1) aNil)) aNil)))))))
abbrev f__law_one : FnD := callF 2 [0] (b__law_one f__law_take)
def b__law_rows_between (g__law_above g__law_take g__law_sum : FnD) : FS :=
  (sSeq (sAsg 3 (wLst (aVal (eFrz (wLst (aVal (eFrz (wCall 2 g__law_above (aSlot 0 (aVal (eC (.int 30)) aNil)))) aNil))) aNil)))
    (sSeq (sFor (iArgs rangeD2 (aVal (eC (.int 1)) (aVal (eVar 1) aNil))) (gN 4) (sSeq (sAsg 5 (wLst aNil))
    (sSeq (sFor (iArgs rangeD (aVal (eOp dAdd (eC (.int 2)) (eFrz (wCall 2 g__law_take (aSlot 0 (aVal (eOp dSub (eVar 2) (eC (.int 1))) aNil))))) aNil)) (gN 6) (sSeq (sAsg 7 (wCall 2 g__law_above (aSlot 0 (aVal (eC (.int 40)) aNil))))
    (sIf (eOr (eOpL dEq 5 (eFrz (wLst aNil))) (eOr (eOpR dNotInT (eVar 7) 5) (eOp dEq (eFrz (wCall 2 g__law_take (aSlot 0 (aVal (eC (.int 3)) aNil)))) (eC (.int 0))))) (sApp 5 (eVar 7)) sNx)))
    (sSeq (sIf (eOp dLt (eCB dLenSet (aVal (eVar 5) aNil)) (eC (.int 2))) (sAsg 5 (wCat (eSl (eVar 5) none (some (eC (.int 1)))) (eFrz (wLst (aVal (eFrz (wCall 2 g__law_sum (aVal (eIxV 5 (eC (.int 0))) (aVal (eTup (aVal (eOp dAdd (eC (.int 1)) (eFrz (wCall 2 g__law_take (aSlot 0 (aVal (eC (.int 9)) aNil))))) (aVal (eC (.int 1)) aNil))) aNil)))) aNil))))) sNx)
    (sApp 3 (eVar 5))))))
    (sRet (wVar 3))))
abbrev f__law_rows_between : FnD := callF 8 [0] (b__law_rows_between f__law_above f__law_take f__law_sum)
def b__law_steps_between (g__law_take g__law_one g__law_under : FnD) : FS :=
  (sSeq (sAsg 2 (wCall 2 g__law_take (aSlot 0 (aVal (eCB dLen (aVal (eVar 1) aNil)) aNil))))
    (sSeq (sAsg 3 (wCall 2 g__law_one (aSlot 0 (aVal (eFrz (wLc [4] (iArgs rangeD (aVal (eCB dLen (aVal (eVar 1) aNil)) aNil)) (gN 4) (eOp dNe (eOp dIx (eVar 1) (eVar 4)) (eOp dIx (eVar 1) (eVar 2))) (eVar 4))) aNil))))
    (sRet (wIte (eFrz (wCall 2 g__law_under (aVal (eOp dIx (eVar 1) (eVar 3)) (aVal (eOp dIx (eVar 1) (eVar 2)) aNil)))) (wSh (eTup (aVal (eVar 2) (aVal (eVar 3) aNil)))) (wSh (eTup (aVal (eVar 3) (aVal (eVar 2) aNil))))))))
abbrev f__law_steps_between : FnD := callF 5 [0] (b__law_steps_between f__law_take f__law_one f__law_under)
theorem row_pls (n : Nat) (row : List Rat) : Pls (n + 1) (row.map amR) := Pls.map fun x _ => amt_pl n x
theorem notIn_row (p : Rat) {row : List Rat} (h : row.length ≤ 1000) : ∃ b, dNotInT (amR p) (.lst (row.map amR)) = some (.bl b) := by
  have h1 : okPy (amR p) = true := (amt_pl 0 p).ok (by decide)
  have h2 : okPy (.lst (row.map amR)) = true := (Pl.lst 1 (row_pls 0 row) (by simpa using h)).ok (by decide)
  have e : inT (amR p) (.lst (row.map amR)) = some ((toPys (row.map amR)).any fun z => PyData.eqv z (toPy (amR p))) := by
    unfold inT
    exact if_pos ⟨h1, h2⟩
  exact ⟨_, by unfold dNotInT; rw [e]; rfl⟩
def ratI (r : Rat) : List Int := [r.num, (r.den : Int)]
theorem ratI_inj {a b : Rat} (h : ratI a = ratI b) : a = b := by
  unfold ratI at h
  simp only [List.cons.injEq, and_true] at h
  exact ofR_inj (Prod.ext h.1 h.2)
theorem rowsD_row : ∀ row : List Rat, rowsD (row.map amR) = some (row.map ratI)
  | [] => rfl
  | r :: row => by
    rw [List.map_cons, List.map_cons]
    show (match intsE [.int r.num, .int (r.den : Int)], rowsD (row.map amR) with
      | some k, some r => some (k :: r)
      | _, _ => none) = _
    rw [rowsD_row row]
    rfl
theorem lenSet_row {row : List Rat} (h : row.length < 64) : dLenSet [.lst (row.map amR)] = some (.int (distI (row.map ratI)).length) := by
  unfold dLenSet
  simp only [rowsD_row]
  rw [if_pos (by rw [List.length_map]; exact h)]
theorem two_of {row : List Rat} (h : 2 ≤ (distI (row.map ratI)).length) : ∃ a ∈ row, ∃ b ∈ row, a ≠ b := by
  match e : distI (row.map ratI) with
  | [] => rw [e] at h; simp at h
  | [x] => rw [e] at h; simp at h
  | x :: y :: l =>
    have n := dist_nodup (row.map ratI)
    have hx : x ∈ row.map ratI := dist_mem.mp (by rw [e]; simp)
    have hy : y ∈ row.map ratI := dist_mem.mp (by rw [e]; simp)
    rw [e] at n
    obtain ⟨a, ha, rfl⟩ := List.mem_map.mp hx
    obtain ⟨b, hb, rfl⟩ := List.mem_map.mp hy
    refine ⟨a, ha, b, hb, fun z => ?_⟩
    subst z
    simp at n
/-- a row of prices -/
structure RowOk (row : List Rat) : Prop where
  n1 : 1 ≤ row.length
  n8 : row.length ≤ 8
  pos : ∀ p ∈ row, 0 < p ∧ RB 8 p
structure PsOk (pss : List (List Rat)) : Prop where
  row : ∀ (i : Nat) (row : List Rat), pss[i]? = some row → RowOk row
  one : ∀ row, pss[0]? = some row → row.length = 1
  two : ∀ (i : Nat) (row : List Rat), pss[i + 1]? = some row → ∃ a ∈ row, ∃ b ∈ row, a ≠ b
theorem rb8 {r : Rat} {m : Int} (h0 : 0 < r) (h1 : r.num ≤ m) (h2 : r.den ≤ 9) (hm : m ≤ 255) : RB 8 r := by
  have := num_gt0.mpr h0
  refine ⟨?_, ?_⟩
  · show r.num.natAbs < 2 ^ 8; omega
  · show ((r.den : Int)).natAbs < 2 ^ 8; omega
theorem add_small {r v : Rat} {a b : Nat} (h0 : 0 < r) (h1 : r.num ≤ a) (h2 : r.den ≤ 9) (k0 : 0 < v) (k1 : v.num ≤ b) (k2 : v.den = 1) : (r + v).num ≤ a + 9 * b ∧ (r + v).den ≤ 9 := by
  have e := plusP_val r v
  have hr := num_gt0.mpr h0
  have hv := num_gt0.mpr k0
  have hd := den_pos r
  have hp : 0 < (ofR r).2 * (ofR v).2 := Int.mul_pos (den_pos r) (den_pos v)
  obtain ⟨a1, a2, a3, _⟩ := lowL_ok (n := (ofR r).1 * (ofR v).2 + (ofR v).1 * (ofR r).2) hp
  have e' : lowL ((ofR r).1 * (ofR v).2 + (ofR v).1 * (ofR r).2) ((ofR r).2 * (ofR v).2) = ofR (r + v) := e
  rw [e'] at a2 a3
  have e2 : (ofR v).2 = 1 := by show (v.den : Int) = 1; rw [k2]; rfl
  rw [e2, Int.mul_one] at a2 a3
  have z1 : (ofR r).1 = r.num := rfl
  have z2 : (ofR r).2 = (r.den : Int) := rfl
  have z3 : (ofR v).1 = v.num := rfl
  have z4 : (ofR (r + v)).1 = (r + v).num := rfl
  have z5 : (ofR (r + v)).2 = ((r + v).den : Int) := rfl
  rw [z2, z5] at a2
  rw [z1, z2, z3, z4] at a3
  have h9 : v.num * (r.den : Int) ≤ b * 9 := Int.mul_le_mul k1 (by omega) (by omega) (by omega)
  have h10 : 0 < v.num * (r.den : Int) := Int.mul_pos hv hd
  constructor <;> omega
theorem range2_z {a z : Int} {m n : Nat} (h : z = n) (ha : a = m) (hn : n ≤ 100000) (hm : m ≤ 100000) : rangeD2 [.int a, .int z] = some ((List.range (n - m)).map fun i => .int (a + (i : Nat))) := by
  subst h
  subst ha
  unfold rangeD2
  simp only []
  rw [if_pos (by constructor <;> omega)]
  congr 1
  rw [show ((n : Int) - (m : Int)).toNat = n - m by omega]
theorem rows_ev {xs : List Dt} {d m : Int} (hx : BoxOk xs) (d1 : 1 ≤ d) (d7 : d ≤ 7) (m2 : 2 ≤ m) (m8 : m ≤ 8) {Q : Wt → List Wt → Prop} (q : ∀ pss ys, BoxOk ys → (pss.length : Int) = d → PsOk pss → Q (.own (pss.map amL)) [ys]) : EvF f__law_rows_between [.own xs, .sh (.int d), .sh (.int m)] Q := by
  refine ef_in rfl ?_
  unfold b__law_rows_between
  walk_at "w"
  refine above_r hx (by decide) (by decide) fun p0 ys p1 p2 p3 hy => ?_
  walk_at "w"
  refine wo (range2_z (m := 1) (n := d.toNat) (by omega) rfl (by omega) (by decide)) ?_
  walk_at "w"
  refine for_inv (fun ds ρ => ∃ (pss : List (List Rat)) (ys : List Dt) (x4 x5 x6 x7 : Option Wt), BoxOk ys ∧ 1 ≤ pss.length ∧ (pss.length : Int) + ds.length = d ∧ PsOk pss ∧ ρ = [some (.own ys), some (.sh (.int d)), some (.sh (.int m)), some (.own (pss.map amL)), x4, x5, x6, x7]) ?_ ?_ _ _ ⟨[[p0]], ys, none, none, none, none, hy, Nat.le_refl 1, by rw [List.length_map, List.length_range]; simp only [List.length_cons, List.length_nil]; omega, ?_, rfl⟩
  · rintro i ds ρ ⟨pss, ys, x4, x5, x6, x7, hy, hl1, hl, hp, rfl⟩
    rw [List.length_cons] at hl
    walk_at "w"
    refine take_ev hy (by omega) (sm_nat (by omega)) fun t ys t0 t1 hy => ?_
    walk_at "w"
    refine wo (range_z (n := (2 + t).toNat) (by omega) (by omega)) ?_
    walk_at "w"
    refine EvS.cut (fun ρ => ∃ (row : List Rat) (ys : List Dt) (x6 x7 : Option Wt), BoxOk ys ∧ RowOk row ∧ (∀ p ∈ row, p.num ≤ 40 ∧ p.den ≤ 9) ∧ ρ = [some (.own ys), some (.sh (.int d)), some (.sh (.int m)), some (.own (pss.map amL)), some (.sh i), some (.own (row.map amR)), x6, x7]) ?_ ?_
    · refine for_inv (fun ds ρ => ∃ (row : List Rat) (ys : List Dt) (x6 x7 : Option Wt), BoxOk ys ∧ row.length + ds.length ≤ 8 ∧ (row = [] → ds ≠ []) ∧ (∀ p ∈ row, 0 < p ∧ p.num ≤ 40 ∧ p.den ≤ 9) ∧ ρ = [some (.own ys), some (.sh (.int d)), some (.sh (.int m)), some (.own (pss.map amL)), some (.sh i), some (.own (row.map amR)), x6, x7]) ?_ ?_ _ _ ⟨[], ys, x6, x7, hy, ?_, ?_, fun p h => absurd h List.not_mem_nil, rfl⟩
      · rintro k ds' ρ ⟨row, ys, x6, x7, hy, h8, hne, hpos, rfl⟩
        rw [List.length_cons] at h8
        walk_at "w"
        refine above_r hy (by decide) (by decide) fun p ys p1 p2 p3 hy => ?_
        walk_at "w"
        refine wo (eqL_nil (row_pls 0 row) (by decide) (by rw [List.length_map]; omega)) ?_
        walk_at "w"
        obtain ⟨b, hb⟩ := notIn_row p (row := row) (by omega)
        have hlen : (row.map amR).length < 100000 := by rw [List.length_map]; omega
        have fin : ∀ (y6 y7 : Option Wt) (ys : List Dt), BoxOk ys → ∃ (row' : List Rat) (ys' : List Dt) (x6 x7 : Option Wt), BoxOk ys' ∧ row'.length + ds'.length ≤ 8 ∧ (row' = [] → ds' ≠ []) ∧ (∀ p ∈ row', 0 < p ∧ p.num ≤ 40 ∧ p.den ≤ 9) ∧ ([some (.own ys), some (.sh (.int d)), some (.sh (.int m)), some (.own (pss.map amL)), some (.sh i), some (.own (row.map amR ++ [amR p])), y6, y7] : Rho) = [some (.own ys'), some (.sh (.int d)), some (.sh (.int m)), some (.own (pss.map amL)), some (.sh i), some (.own (row'.map amR)), x6, x7] := fun y6 y7 ys hy =>
          ⟨row ++ [p], ys, y6, y7, hy, by rw [List.length_append, List.length_singleton]; omega, fun h => by simp at h, fun r hr => by
            rcases List.mem_append.mp hr with hr | hr
            · exact hpos r hr
            · rw [List.mem_singleton.mp hr]; exact ⟨p1, p2, by omega⟩, by rw [List.map_append]; rfl⟩
        refine wt (fun e => ?_) (fun e => ?_)
        · walk_at "w"
          exact ⟨hlen, fin _ _ _ hy⟩
        · walk_at "w"
          refine wo hb ?_
          walk_at "w"
          refine wt (fun e2 => ?_) (fun e2 => ?_)
          · walk_at "w"
            exact ⟨hlen, fin _ _ _ hy⟩
          · walk_at "w"
            refine take_ev hy (by decide) (sm_nat (by decide)) fun u ys u0 u1 hy => ?_
            walk_at "w"
            refine wd (fun e3 => ?_) (fun e3 => ?_)
            · walk_at "w"
              exact ⟨hlen, fin _ _ _ hy⟩
            · walk_at "w"
              refine ⟨row, ys, _, _, hy, by omega, fun h => ?_, hpos, rfl⟩
              subst h
              cases e
      · rintro ρ ⟨row, ys, x6, x7, hy, h8, hne, hpos, rfl⟩
        have hn : 1 ≤ row.length := by
          cases row with
          | nil => exact absurd rfl (hne rfl)
          | cons => rw [List.length_cons]; omega
        exact ⟨row, ys, x6, x7, hy, ⟨hn, by simpa using h8, fun p hp => ⟨(hpos p hp).1, rb8 (hpos p hp).1 (hpos p hp).2.1 (hpos p hp).2.2 (by decide)⟩⟩, fun p hp => (hpos p hp).2, rfl⟩
      · rw [List.length_map, List.length_range, List.length_nil]; omega
      · intro _ h
        have := congrArg List.length h
        rw [List.length_map, List.length_range, List.length_nil] at this
        omega
    · rintro ρ ⟨row, ys, x6, x7, hy, hr, h40, rfl⟩
      walk_at "w"
      have hlp : (pss.map amL).length < 100000 := by rw [List.length_map]; omega
      have put : ∀ (row : List Rat), RowOk row → (∃ a ∈ row, ∃ b ∈ row, a ≠ b) → PsOk (pss ++ [row]) := fun row h1 h2 => by
        refine ⟨fun j r e => ?_, fun r e => ?_, fun j r e => ?_⟩
        · rcases Nat.lt_or_ge j pss.length with h | h
          · rw [List.getElem?_append_left h] at e; exact hp.row j r e
          · rw [List.getElem?_append_right h] at e
            have := List.mem_of_getElem? e
            rw [List.mem_singleton.mp this]; exact h1
        · rw [List.getElem?_append_left (by omega)] at e; exact hp.one r e
        · rcases Nat.lt_or_ge (j + 1) pss.length with h | h
          · rw [List.getElem?_append_left h] at e; exact hp.two j r e
          · rw [List.getElem?_append_right h] at e
            have := List.mem_of_getElem? e
            rw [List.mem_singleton.mp this]; exact h2
      have fin : ∀ (row : List Rat) (ys : List Dt) (y6 y7 : Option Wt), BoxOk ys → RowOk row → (∃ a ∈ row, ∃ b ∈ row, a ≠ b) → ∃ (pss' : List (List Rat)) (ys' : List Dt) (x4 x5 x6 x7 : Option Wt), BoxOk ys' ∧ 1 ≤ pss'.length ∧ (pss'.length : Int) + ds.length = d ∧ PsOk pss' ∧ ([some (.own ys), some (.sh (.int d)), some (.sh (.int m)), some (.own (pss.map amL ++ [amL row])), some (.sh i), some (.sh (amL row)), y6, y7] : Rho) = [some (.own ys'), some (.sh (.int d)), some (.sh (.int m)), some (.own (pss'.map amL)), x4, x5, x6, x7] := fun row ys y6 y7 hy h1 h2 =>
        ⟨pss ++ [row], ys, _, _, _, _, hy, by rw [List.length_append]; omega, by rw [List.length_append, List.length_singleton]; omega, put row h1 h2, by rw [List.map_append]; rfl⟩
      refine wo (lenSet_row (by have := hr.n8; omega)) ?_
      walk_at "w"
      refine wd (fun e => ?_) (fun e => ?_)
      · cases row with
        | nil => exact absurd hr.n1 (by decide)
        | cons r row =>
          have hr0 := hr.pos r List.mem_cons_self
          have hr40 := h40 r List.mem_cons_self
          walk_at "w"
          refine wo (show _ = some (amR r) from atI_nat (i := 0) rfl rfl) ?_
          walk_at "w"
          refine take_ev hy (by decide) (sm_nat (by decide)) fun u ys u0 u1 hy => ?_
          walk_at "w"
          obtain ⟨v, hv⟩ : ∃ v : Rat, v = ((1 + u : Int) : Rat) := ⟨_, rfl⟩
          have hvn : v.num = 1 + u := by rw [hv]; exact Rat.num_intCast ..
          have hvd : v.den = 1 := by rw [hv]; exact Rat.den_intCast ..
          have ev : Dt.tup [.int (1 + u), .int 1] = amR v := by
            show _ = Dt.tup [.int v.num, .int (v.den : Int)]
            rw [hvn, hvd]; rfl
          have hvb : RB 8 v := ⟨by show v.num.natAbs < 2 ^ 8; rw [hvn]; omega, by show ((v.den : Int)).natAbs < 2 ^ 8; rw [hvd]; decide⟩
          have hv0 : 0 < v := num_gt0.mp (by omega)
          rw [ev]
          refine law_sum_r hr0.2 hvb (by decide) ?_
          walk_at "w"
          obtain ⟨s1, s2⟩ := add_small (r := r) (v := v) (a := 40) (b := 9) hr0.1 hr40.1 hr40.2 hv0 (by omega) hvd
          have s0 : 0 < r + v := by grind
          have ec : DL.cutD ((r :: row).map amR) none (some 1) = [amR r] := by
            unfold DL.cutD
            rw [show HT.sIx ((r :: row).map amR).length 0 none = 0 from rfl, show HT.sIx ((r :: row).map amR).length ((r :: row).map amR).length (some 1) = min 1 ((r :: row).map amR).length from HT.sIx_nat _ _ 1, List.drop_zero, Nat.sub_zero]
            rw [Nat.min_eq_left (by rw [List.length_map, List.length_cons]; omega)]
            rfl
          rw [ec]
          refine ⟨Nat.le_of_ble_eq_true rfl, ?_⟩
          walk_at "w"
          exact ⟨hlp, fin [r, r + v] ys _ _ hy ⟨Nat.le_of_ble_eq_true rfl, Nat.le_of_ble_eq_true rfl, fun p hp => by
            rcases List.mem_cons.mp hp with z | hp
            · subst z; exact hr0
            · rw [List.mem_singleton.mp hp]; exact ⟨s0, rb8 s0 s1 s2 (by decide)⟩⟩ ⟨r, by simp, r + v, by simp, by grind⟩⟩
      · walk_at "w"
        exact ⟨hlp, fin row ys _ _ hy hr (two_of (by omega))⟩
  · rintro ρ ⟨pss, ys, x4, x5, x6, x7, hy, hl1, hl, hp, rfl⟩
    walk_at "w"
    exact q _ _ hy (by simpa using hl) hp
  · refine ⟨fun j r e => ?_, fun r e => ?_, fun j r e => ?_⟩
    · have := List.mem_of_getElem? e
      rw [List.mem_singleton.mp this]
      exact ⟨Nat.le_of_ble_eq_true rfl, Nat.le_of_ble_eq_true rfl, fun p hp => by rw [List.mem_singleton.mp hp]; exact ⟨p1, rb8 p1 p2 (by omega) (by decide)⟩⟩
    · cases e; rfl
    · simp at e
end Lw
namespace Lw
open PySem PySem.Spec PyProof.Rows L2 RZ DL
local macro_rules | `(tactic| walk_at "sm") => `(tactic| first | assumption | exact sm_of (k := 200) (by omega) (by decide) | exact sm_of (k := 200) (by decide) (by decide))
local macro_rules | `(tactic| walk_at "w1") => `(tactic| ((conv => whnf); (try refine At.mk ?_)))
local macro_rules | `(tactic| walk_at "wa") => `(tactic| first
  | refine wox (ex_mul (Sm.mul (by walk_at "sm") (by walk_at "sm")) ?_)
  | refine wox (ex_mod (by first | decide | omega | assumption) ?_)
  | refine wox (ex_fdiv (Sm.div (by walk_at "sm") (by first | decide | omega | assumption)) ?_))
local macro_rules | `(tactic| walk_at "w") => `(tactic| ((first | refine nrm_go ?_ | refine WpS.ok ?_ | refine WpE.ok ?_ | skip); walk_at "w1"))
local macro_rules | `(tactic| walk_at "wm") => `(tactic| (walk_at "w"; (repeat (walk_at "wa"; walk_at "w1"))))
def b_Lattice_last : FS :=
  (sRet (wSh (eOp dSub (eCB dLen (aVal (eUn (dFld "Lattice" "prices") (eVar 0)) aNil)) (eC (.int 1)))))
abbrev f_Lattice_last : FnD := callF 1 [] b_Lattice_last
def b_Lattice_many : FS :=
  (sRet (wIte (eChain dLe dLt (eC (.int 0)) (eVar 1) (eCB dLen (aVal (eUn (dFld "Lattice" "prices") (eVar 0)) aNil))) (wSh (eCB dLen (aVal (eOp dIx (eUn (dFld "Lattice" "prices") (eVar 0)) (eVar 1)) aNil))) (wSh (eC (.int 0)))))
abbrev f_Lattice_many : FnD := callF 2 [] b_Lattice_many
def b_Lattice_look_node (g_Lattice_many g_Lattice_last : FnD) : FS :=
  (sIf (eOr (eNot (eChain dLe dLt (eC (.int 0)) (eVar 2) (eFrz (wMeth "Lattice" "many" 2 g_Lattice_many (eVar 0) (aVal (eVar 1) aNil))))) (eAnd (eVar 3) (eOp dEq (eVar 1) (eFrz (wMeth "Lattice" "last" 1 g_Lattice_last (eVar 0) aNil))))) sNone sNx)
abbrev f_Lattice_look_node : FnD := callF 4 [] (b_Lattice_look_node f_Lattice_many f_Lattice_last)
def b_Lattice_price (g_Lattice_look_node : FnD) : FS :=
  (sSeq (sDrop (wMethK "Lattice" "look_node" 3 1 [] [.inl 0, .inl 1, .inl 2, .inl 3] 4 g_Lattice_look_node (eVar 0) (aVal (eVar 1) (aVal (eVar 2) aNil)) (aVal (eC (.bl false)) aNil)))
    (sRet (wSh (eOp dIx (eOp dIx (eUn (dFld "Lattice" "prices") (eVar 0)) (eVar 1)) (eVar 2)))))
abbrev f_Lattice_price : FnD := callF 3 [] (b_Lattice_price f_Lattice_look_node)
def b_Lattice_rate (g_Lattice_look_node : FnD) : FS :=
  (sSeq (sDrop (wMethK "Lattice" "look_node" 3 0 [(.bl true)] [.inl 0, .inl 1, .inl 2, .inr 0] 4 g_Lattice_look_node (eVar 0) (aVal (eVar 1) (aVal (eVar 2) aNil)) aNil))
    (sRet (wSh (eOp dIx (eOp dIx (eUn (dFld "Lattice" "rates") (eVar 0)) (eVar 1)) (eVar 2)))))
abbrev f_Lattice_rate : FnD := callF 3 [] (b_Lattice_rate f_Lattice_look_node)
def b_Lattice_step (g_Lattice_look_node : FnD) : FS :=
  (sSeq (sDrop (wMethK "Lattice" "look_node" 3 0 [(.bl true)] [.inl 0, .inl 1, .inl 2, .inr 0] 4 g_Lattice_look_node (eVar 0) (aVal (eVar 1) (aVal (eVar 2) aNil)) aNil))
    (sRet (wSh (eOp dIx (eOp dIx (eUn (dFld "Lattice" "steps") (eVar 0)) (eVar 1)) (eVar 2)))))
abbrev f_Lattice_step : FnD := callF 3 [] (b_Lattice_step f_Lattice_look_node)
def b_Lattice_sides (g_Lattice_step g_times g_Lattice_price g_Lattice_rate : FnD) : FS :=
  (sSeq (sAsgT (gT 2 (gsCons (gN 3) (gsCons (gN 4) gsNil))) (eFrz (wMeth "Lattice" "step" 3 g_Lattice_step (eVar 0) (aVal (eVar 1) (aVal (eVar 2) aNil)))))
    (sSeq (sAsg 5 (wSh (eOp dIx (eUn (dFld "Lattice" "prices") (eVar 0)) (eOp dAdd (eVar 1) (eC (.int 1))))))
    (sRet (wSh (eTup (aVal (eFrz (wCall 2 g_times (aVal (eFrz (wMeth "Lattice" "rate" 3 g_Lattice_rate (eVar 0) (aVal (eVar 1) (aVal (eVar 2) aNil)))) (aVal (eFrz (wMeth "Lattice" "price" 3 g_Lattice_price (eVar 0) (aVal (eVar 1) (aVal (eVar 2) aNil)))) aNil)))) (aVal (eOp dIx (eVar 5) (eVar 3)) (aVal (eOp dIx (eVar 5) (eVar 4)) aNil))))))))
abbrev f_Lattice_sides : FnD := callF 6 [] (b_Lattice_sides f_Lattice_step f_times f_Lattice_price f_Lattice_rate)
def b_Lattice_share (g_Lattice_sides g_by g_minus : FnD) : FS :=
  (sSeq (sAsgT (gT 3 (gsCons (gN 3) (gsCons (gN 4) (gsCons (gN 5) gsNil)))) (eFrz (wMeth "Lattice" "sides" 3 g_Lattice_sides (eVar 0) (aVal (eVar 1) (aVal (eVar 2) aNil)))))
    (sRet (wCall 2 g_by (aVal (eFrz (wCall 2 g_minus (aVal (eVar 3) (aVal (eVar 5) aNil)))) (aVal (eFrz (wCall 2 g_minus (aVal (eVar 4) (aVal (eVar 5) aNil)))) aNil)))))
abbrev f_Lattice_share : FnD := callF 6 [] (b_Lattice_share f_Lattice_sides f_by f_minus)
def b_Lattice_win (g_Lattice_last g_Lattice_many g_Lattice_sides g_less g_minus : FnD) : FS :=
  (sSeq (sFor (iArgs rangeD (aVal (eFrz (wMeth "Lattice" "last" 1 g_Lattice_last (eVar 0) aNil)) aNil)) (gN 1) (sFor (iArgs rangeD (aVal (eFrz (wMeth "Lattice" "many" 2 g_Lattice_many (eVar 0) (aVal (eVar 1) aNil))) aNil)) (gN 2) (sSeq (sAsgT (gT 3 (gsCons (gN 3) (gsCons (gN 4) (gsCons (gN 5) gsNil)))) (eFrz (wMeth "Lattice" "sides" 3 g_Lattice_sides (eVar 0) (aVal (eVar 1) (aVal (eVar 2) aNil)))))
    (sSeq (sAsg 6 (wSh (eOp dIx (eOp dIx (eUn (dFld "Lattice" "prices") (eVar 0)) (eVar 1)) (eVar 2))))
    (sSeq (sIf (eNot (eFrz (wCall 2 g_less (aVal (eVar 5) (aVal (eVar 3) aNil))))) (sRet (wSh (eTup (aVal (eVar 1) (aVal (eVar 2) (aVal (eC (.tup [(.int 1), (.int 1)])) (aVal (eFrz (wCall 2 g_minus (aVal (eC (.tup [(.int 0), (.int 1)])) (aVal (eVar 6) aNil)))) aNil))))))) sNx)
    (sIf (eNot (eFrz (wCall 2 g_less (aVal (eVar 3) (aVal (eVar 4) aNil))))) (sRet (wSh (eTup (aVal (eVar 1) (aVal (eVar 2) (aVal (eFrz (wCall 2 g_minus (aVal (eC (.tup [(.int 0), (.int 1)])) (aVal (eC (.tup [(.int 1), (.int 1)])) aNil)))) (aVal (eVar 6) aNil))))))) sNx))))))
    (sRet (wSh (eC .non))))
abbrev f_Lattice_win : FnD := callF 7 [] (b_Lattice_win f_Lattice_last f_Lattice_many f_Lattice_sides f_less f_minus)
section
variable {w : Web} {PS RS SS : Dt} {zp zs : Int} {Q : Wt → List Wt → Prop}
theorem last_ev (W : WD w PS RS SS zp zs) (q : Q (.sh (.int (zp - 1))) []) : EvF f_Lattice_last [.sh (objD PS RS SS)] Q := by
  refine ef_in rfl ?_
  unfold b_Lattice_last
  walk_at "w"
  refine wo W.lp ?_
  walk_at "w"
  exact q
theorem many_ev (W : WD w PS RS SS zp zs) {d : Int} {i : Nat} {row : List Rat} (hd : d = i) (hi : w.ps[i]? = some row) {z : Int} (hz : z = row.length) (q : Q (.sh (.int z)) []) : EvF f_Lattice_many [.sh (objD PS RS SS), .sh (.int d)] Q := by
  have h1 : i < w.ps.length := (List.getElem?_eq_some_iff.mp hi).1
  have h2 := W.zp_
  obtain ⟨R, z', e1, e2⟩ := W.ip d i row hd hi
  have hz' : z' = z := by rw [e2.z_, hz]
  subst hz'
  refine ef_in rfl ?_
  unfold b_Lattice_many
  walk_at "w"
  refine wtt (decide_eq_true (by omega)) ?_
  walk_at "w"
  refine wo W.lp ?_
  walk_at "w"
  refine wtt (decide_eq_true (by omega)) ?_
  walk_at "w"
  refine wo e1 ?_
  walk_at "w"
  refine wo e2.len ?_
  walk_at "w"
  exact q
theorem look_ev (W : WD w PS RS SS zp zs) {d n : Int} {i k : Nat} {row : List Rat} (b : Bool) (hd : d = i) (hn : n = k) (hi : w.ps[i]? = some row) (hk : k < row.length) (hb : b = true → i + 1 < w.ps.length) (q : Q (.sh .non) []) : EvF f_Lattice_look_node [.sh (objD PS RS SS), .sh (.int d), .sh (.int n), .sh (.bl b)] Q := by
  have h2 := W.zp_
  refine ef_in rfl ?_
  unfold b_Lattice_look_node
  walk_at "w"
  refine wtt (decide_eq_true (by omega)) ?_
  walk_at "w"
  refine many_ev W hd hi rfl ?_
  walk_at "w"
  refine wnf (decide_eq_true (by omega)) ?_
  walk_at "w"
  cases b with
  | false => walk_at "w"; exact q
  | true =>
    have := hb rfl
    walk_at "w"
    refine last_ev W ?_
    walk_at "w"
    refine wtf (decide_eq_false (by omega)) ?_
    walk_at "w"
    exact q
theorem price_ev (W : WD w PS RS SS zp zs) {d n : Int} {i k : Nat} {row : List Rat} {p : Rat} (hd : d = i) (hn : n = k) (hi : w.ps[i]? = some row) (hk : row[k]? = some p) (q : Q (.sh (amR p)) []) : EvF f_Lattice_price [.sh (objD PS RS SS), .sh (.int d), .sh (.int n)] Q := by
  obtain ⟨R, z, e1, e2⟩ := W.ip d i row hd hi
  refine ef_in rfl ?_
  unfold b_Lattice_price
  walk_at "w"
  refine look_ev W false hd hn hi (List.getElem?_eq_some_iff.mp hk).1 (fun z => nomatch z) ?_
  walk_at "w"
  refine wo e1 ?_
  walk_at "w"
  refine wo (e2.ix n k _ hn (by rw [hk]; rfl)) ?_
  walk_at "w"
  exact q
theorem rate_ev (W : WD w PS RS SS zp zs) (O : WebOk w) {d n : Int} {i k : Nat} {row : List Rat} {p : Rat} (hd : d = i) (hn : n = k) (hi : w.rs[i]? = some row) (hk : row[k]? = some p) (q : Q (.sh (amR p)) []) : EvF f_Lattice_rate [.sh (objD PS RS SS), .sh (.int d), .sh (.int n)] Q := by
  obtain ⟨R, z, e1, e2⟩ := W.ir d i row hd hi
  have h1 : i < w.rs.length := (List.getElem?_eq_some_iff.mp hi).1
  have h2 := O.lr
  have ep : w.ps[i]? = some w.ps[i] := List.getElem?_eq_getElem (by omega)
  have h3 := O.rows i _ _ ep hi
  have h4 := (List.getElem?_eq_some_iff.mp hk).1
  refine ef_in rfl ?_
  unfold b_Lattice_rate
  walk_at "w"
  refine look_ev W true hd hn ep (by omega) (fun _ => by omega) ?_
  walk_at "w"
  refine wo e1 ?_
  walk_at "w"
  refine wo (e2.ix n k _ hn (by rw [hk]; rfl)) ?_
  walk_at "w"
  exact q
theorem step_ev (W : WD w PS RS SS zp zs) (O : WebOk w) {d n : Int} {i k : Nat} {row : List (Nat × Nat)} {s : Nat × Nat} (hd : d = i) (hn : n = k) (hi : w.ss[i]? = some row) (hk : row[k]? = some s) (q : Q (.sh (stD s)) []) : EvF f_Lattice_step [.sh (objD PS RS SS), .sh (.int d), .sh (.int n)] Q := by
  obtain ⟨R, z, e1, e2⟩ := W.is_ d i row hd hi
  have h1 : i < w.ss.length := (List.getElem?_eq_some_iff.mp hi).1
  have h2 := O.ls
  have ep : w.ps[i]? = some w.ps[i] := List.getElem?_eq_getElem (by omega)
  have h3 := O.sows i _ _ ep hi
  have h4 := (List.getElem?_eq_some_iff.mp hk).1
  refine ef_in rfl ?_
  unfold b_Lattice_step
  walk_at "w"
  refine look_ev W true hd hn ep (by omega) (fun _ => by omega) ?_
  walk_at "w"
  refine wo e1 ?_
  walk_at "w"
  refine wo (e2.ix n k _ hn (by rw [hk]; rfl)) ?_
  walk_at "w"
  exact q
theorem sides_ev (W : WD w PS RS SS zp zs) (O : WebOk w) {d n : Int} {i k a b : Nat} {p r u l : Rat} (hd : d = i) (hn : n = k) (N : Nd w i k p r u l a b) (M : NdOk p r u l) (q : Q (.sh (.tup [amR (r * p), amR u, amR l])) []) : EvF f_Lattice_sides [.sh (objD PS RS SS), .sh (.int d), .sh (.int n)] Q := by
  obtain ⟨row1, a1, a2⟩ := N.hp
  obtain ⟨row2, b1, b2⟩ := N.hr
  obtain ⟨row3, c1, c2⟩ := N.hs
  obtain ⟨row4, d1, d2, d3⟩ := N.hu
  obtain ⟨R, z, e1, e2⟩ := W.ip (d + 1) (i + 1) row4 (by omega) d1
  refine ef_in rfl ?_
  unfold b_Lattice_sides
  walk_at "w"
  refine step_ev W O hd hn c1 c2 ?_
  walk_at "w"
  refine wo e1 ?_
  walk_at "w"
  refine rate_ev W O hd hn b1 b2 ?_
  walk_at "w"
  refine price_ev W hd hn a1 a2 ?_
  walk_at "w"
  refine times_r M.rb M.pb (by decide) ?_
  walk_at "w"
  refine wo (e2.ix _ a _ rfl (by rw [d2]; rfl)) ?_
  walk_at "w"
  refine wo (e2.ix _ b _ rfl (by rw [d3]; rfl)) ?_
  walk_at "w"
  exact q
def shareR (p r u l : Rat) : Rat := (r * p - l) / (u - l)
theorem sub_ne {u l : Rat} (h : l < u) : u - l ≠ 0 := by grind
theorem share_ev (W : WD w PS RS SS zp zs) (O : WebOk w) {d n : Int} {i k a b : Nat} {p r u l : Rat} (hd : d = i) (hn : n = k) (N : Nd w i k p r u l a b) (M : NdOk p r u l) (q : Q (.sh (amR (shareR p r u l))) []) : EvF f_Lattice_share [.sh (objD PS RS SS), .sh (.int d), .sh (.int n)] Q := by
  refine ef_in rfl ?_
  unfold b_Lattice_share
  walk_at "w"
  refine sides_ev W O hd hn N M ?_
  walk_at "w"
  refine minus_r (M.rb.times M.pb) M.lb (by decide) ?_
  walk_at "w"
  refine minus_r M.ub M.lb (by decide) ?_
  walk_at "w"
  refine by_r ((M.rb.times M.pb).minus M.lb) (M.ub.minus M.lb) (sub_ne M.ul) (by decide) ?_
  walk_at "w"
  exact q
/-! the first win -/
def orO : Option Dt → Option Dt → Option Dt
  | some d, _ => some d
  | none, o => o
def firstO {α : Type} (f : α → Option Dt) : List α → Option Dt
  | [] => none
  | a :: as => orO (f a) (firstO f as)
def Web.p (w : Web) (i k : Nat) : Rat := (w.ps.getD i []).getD k 0
def Web.r (w : Web) (i k : Nat) : Rat := (w.rs.getD i []).getD k 0
def Web.s (w : Web) (i k : Nat) : Nat × Nat := (w.ss.getD i []).getD k (0, 0)
def wnO (i k : Nat) (p r u l : Rat) : Option Dt := if ¬ l < r * p then some (.tup [.int i, .int k, amR 1, amR (-p)]) else if ¬ r * p < u then some (.tup [.int i, .int k, amR (-1), amR p]) else none
def Web.wn (w : Web) (i k : Nat) : Option Dt := wnO i k (w.p i k) (w.r i k) (w.p (i + 1) (w.s i k).1) (w.p (i + 1) (w.s i k).2)
theorem Nd.wn {i k a b : Nat} {p r u l : Rat} (N : Nd w i k p r u l a b) : w.wn i k = wnO i k p r u l := by
  obtain ⟨row1, a1, a2⟩ := N.hp
  obtain ⟨row2, b1, b2⟩ := N.hr
  obtain ⟨row3, c1, c2⟩ := N.hs
  obtain ⟨row4, d1, d2, d3⟩ := N.hu
  have e1 : w.p i k = p := by simp [Web.p, List.getD, a1, a2]
  have e2 : w.r i k = r := by simp [Web.r, List.getD, b1, b2]
  have e3 : w.s i k = (a, b) := by simp [Web.s, List.getD, c1, c2]
  have e4 : w.p (i + 1) a = u := by simp [Web.p, List.getD, d1, d2]
  have e5 : w.p (i + 1) b = l := by simp [Web.p, List.getD, d1, d3]
  unfold Web.wn
  rw [e1, e2, e3]
  simp only []
  rw [e4, e5]
def Web.winO (w : Web) : Option Dt := firstO (fun i => firstO (w.wn i) (List.range (w.ss.getD i []).length)) (List.range w.ss.length)
def Web.winD (w : Web) : Dt := w.winO.getD .non
theorem win_ev (W : WD w PS RS SS zp zs) (O : WebOk w) (q : Q (.sh w.winD) []) : EvF f_Lattice_win [.sh (objD PS RS SS)] Q := by
  have h1 := W.zp_
  have h2 := O.ls
  have h3 := O.n7
  refine ef_in rfl ?_
  unfold b_Lattice_win
  walk_at "w"
  refine last_ev W ?_
  walk_at "w"
  refine wo (range_z (n := w.ss.length) (by omega) (by omega)) ?_
  walk_at "w"
  refine EvS.cut (fun ρ => w.winO = none) ?_ ?_
  · refine for_inv (fun ds ρ => ∃ (is : List Nat) (x1 x2 x3 x4 x5 x6 : Option Wt), ds = is.map (fun i => Dt.int (i : Nat)) ∧ (∀ i ∈ is, i < w.ss.length) ∧ w.winO = firstO (fun i => firstO (w.wn i) (List.range (w.ss.getD i []).length)) is ∧ ρ = [some (.sh (objD PS RS SS)), x1, x2, x3, x4, x5, x6]) ?_ ?_ _ _ ⟨List.range w.ss.length, none, none, none, none, none, none, rfl, fun i hi => List.mem_range.mp hi, rfl, rfl⟩
    · rintro d ds ρ ⟨is, x1, x2, x3, x4, x5, x6, e, hl, hw, rfl⟩
      cases is with
      | nil => cases e
      | cons i is =>
        cases e
        have hi := hl i List.mem_cons_self
        have es : w.ss[i]? = some w.ss[i] := List.getElem?_eq_getElem hi
        have ep : w.ps[i]? = some w.ps[i] := List.getElem?_eq_getElem (by omega)
        have hlen := O.sows i _ _ ep es
        have h8 := (O.row i _ ep).2
        walk_at "w"
        obtain ⟨zi, hzi⟩ : ∃ zi : Int, zi = w.ps[i].length := ⟨_, rfl⟩
        refine many_ev W rfl ep hzi ?_
        walk_at "w"
        refine wo (range_z (n := w.ss[i].length) (by omega) (by omega)) ?_
        walk_at "w"
        have eg : w.ss.getD i [] = w.ss[i] := by simp [List.getD, es]
        refine for_inv (fun ds' ρ => ∃ (ks : List Nat) (x2 x3 x4 x5 x6 : Option Wt), ds' = ks.map (fun i => Dt.int (i : Nat)) ∧ (∀ k ∈ ks, k < w.ss[i].length) ∧ w.winO = orO (firstO (w.wn i) ks) (firstO (fun i => firstO (w.wn i) (List.range (w.ss.getD i []).length)) is) ∧ ρ = [some (.sh (objD PS RS SS)), some (.sh (.int (i : Nat))), x2, x3, x4, x5, x6]) ?_ ?_ _ _ ⟨List.range w.ss[i].length, x2, x3, x4, x5, x6, rfl, fun k hk => List.mem_range.mp hk, by rw [hw, firstO, eg], rfl⟩
        · rintro d' ds' ρ ⟨ks, x2, x3, x4, x5, x6, e', hl', hw', rfl⟩
          cases ks with
          | nil => cases e'
          | cons k ks =>
            cases e'
            have hk := hl' k List.mem_cons_self
            obtain ⟨p, r, u, l, a, b, N, M⟩ := O.node es hk
            obtain ⟨row1, a1, a2⟩ := N.hp
            obtain ⟨R, z, e1, e2⟩ := W.ip (i : Nat) i row1 rfl a1
            rw [firstO, N.wn] at hw'
            unfold wnO at hw'
            walk_at "w"
            refine sides_ev W O rfl rfl N M ?_
            walk_at "w"
            refine wo e1 ?_
            walk_at "w"
            refine wo (e2.ix _ k _ rfl (by rw [a2]; rfl)) ?_
            walk_at "w"
            refine less_r M.lb (M.rb.times M.pb) (by decide) (by decide) ?_
            walk_at "w"
            by_cases c1 : l < r * p
            · rw [if_neg (fun z => z c1)] at hw'
              refine wnf (decide_eq_true c1) ?_
              walk_at "w"
              refine less_r (M.rb.times M.pb) M.ub (by decide) (by decide) ?_
              walk_at "w"
              by_cases c2 : r * p < u
              · rw [if_neg (fun z => z c2)] at hw'
                refine wnf (decide_eq_true c2) ?_
                walk_at "w"
                exact ⟨ks, _, _, _, _, _, rfl, fun k hk => hl' k (List.mem_cons_of_mem _ hk), hw', rfl⟩
              · rw [if_pos c2] at hw'
                refine wnt (decide_eq_false c2) ?_
                walk_at "w"
                refine minus_r (a := 0) (b := 1) rb0 rb1 (by decide) ?_
                walk_at "w"
                have : w.winD = .tup [.int (i : Nat), .int (k : Nat), amR (0 - 1), amR p] := by unfold Web.winD; rw [hw', show (0 - 1 : Rat) = -1 by decide +kernel]; rfl
                rw [this] at q
                exact q
            · rw [if_pos c1] at hw'
              refine wnt (decide_eq_false c1) ?_
              walk_at "w"
              refine minus_r (a := 0) rb0 M.pb (by decide) ?_
              walk_at "w"
              have : w.winD = .tup [.int (i : Nat), .int (k : Nat), amR 1, amR (0 - p)] := by unfold Web.winD; rw [hw', show 0 - p = -p by grind]; rfl
              rw [this] at q
              exact q
        · rintro ρ ⟨ks, x2, x3, x4, x5, x6, e', hl', hw', rfl⟩
          cases ks with
          | cons k ks => cases e'
          | nil => exact ⟨is, _, _, _, _, _, _, rfl, fun i hi => hl i (List.mem_cons_of_mem _ hi), hw', rfl⟩
    · rintro ρ ⟨is, x1, x2, x3, x4, x5, x6, e, hl, hw, rfl⟩
      cases is with
      | cons i is => cases e
      | nil => exact hw
  · intro ρ h
    walk_at "w"
    have : w.winD = .non := by unfold Web.winD; rw [h]; rfl
    rw [← this]
    exact q
end
end Lw
namespace Lw
open PySem PySem.Spec PyProof.Rows L2 RZ DL
local macro_rules | `(tactic| walk_at "sm") => `(tactic| first | assumption | exact sm_of (k := 200) (by omega) (by decide) | exact sm_of (k := 200) (by decide) (by decide))
local macro_rules | `(tactic| walk_at "w1") => `(tactic| ((conv => whnf); (try refine At.mk ?_)))
local macro_rules | `(tactic| walk_at "wa") => `(tactic| first
  | refine wox (ex_mul (Sm.mul (by walk_at "sm") (by walk_at "sm")) ?_)
  | refine wox (ex_mod (by first | decide | omega | assumption) ?_)
  | refine wox (ex_fdiv (Sm.div (by walk_at "sm") (by first | decide | omega | assumption)) ?_))
local macro_rules | `(tactic| walk_at "w") => `(tactic| ((first | refine nrm_go ?_ | refine WpS.ok ?_ | refine WpE.ok ?_ | skip); walk_at "w1"))
local macro_rules | `(tactic| walk_at "wm") => `(tactic| (walk_at "w"; (repeat (walk_at "wa"; walk_at "w1"))))
def b__law_ahead : FS :=
  (sSeq (sAsgT (gT 2 (gsCons (gN 3) (gsCons (gN 4) gsNil))) (eOp dIx (eOp dIx (eOp dGetD (eVar 0) (eC (.str "steps"))) (eVar 1)) (eVar 2)))
    (sRet (wSh (eTup (aVal (eOp dIx (eOp dIx (eOp dGetD (eVar 0) (eC (.str "prices"))) (eOp dAdd (eVar 1) (eC (.int 1)))) (eVar 3)) (aVal (eOp dIx (eOp dIx (eOp dGetD (eVar 0) (eC (.str "prices"))) (eOp dAdd (eVar 1) (eC (.int 1)))) (eVar 4)) aNil))))))
abbrev f__law_ahead : FnD := callF 5 [] b__law_ahead
def b__law_turned_sign : FS :=
  (sRet (wSh (eTup (aVal (eOp dSub (eC (.int 0)) (eOp dIx (eVar 0) (eC (.int 0)))) (aVal (eOp dIx (eVar 0) (eC (.int 1))) aNil)))))
abbrev f__law_turned_sign : FnD := callF 1 [] b__law_turned_sign
def b__law_weight (g__law_ahead g__law_product g__law_share_of g__law_less_by : FnD) : FS :=
  (sSeq (sAsgT (gT 2 (gsCons (gN 3) (gsCons (gN 4) gsNil))) (eFrz (wCall 3 g__law_ahead (aVal (eVar 0) (aVal (eVar 1) (aVal (eVar 2) aNil))))))
    (sSeq (sAsg 5 (wCall 2 g__law_product (aVal (eOp dIx (eOp dIx (eOp dGetD (eVar 0) (eC (.str "rates"))) (eVar 1)) (eVar 2)) (aVal (eOp dIx (eOp dIx (eOp dGetD (eVar 0) (eC (.str "prices"))) (eVar 1)) (eVar 2)) aNil))))
    (sRet (wCall 2 g__law_share_of (aVal (eFrz (wCall 2 g__law_less_by (aVal (eVar 5) (aVal (eVar 4) aNil)))) (aVal (eFrz (wCall 2 g__law_less_by (aVal (eVar 3) (aVal (eVar 4) aNil)))) aNil))))))
abbrev f__law_weight : FnD := callF 6 [] (b__law_weight f__law_ahead f__law_product f__law_share_of f__law_less_by)
def b__law_win (g__law_ahead g__law_product g__law_under g__law_turned_sign : FnD) : FS :=
  (sSeq (sFor (iArgs rangeD (aVal (eCB dLen (aVal (eOp dGetD (eVar 0) (eC (.str "steps"))) aNil)) aNil)) (gN 1) (sFor (iArgs rangeD (aVal (eCB dLen (aVal (eOp dIx (eOp dGetD (eVar 0) (eC (.str "steps"))) (eVar 1)) aNil)) aNil)) (gN 2) (sSeq (sAsgT (gT 2 (gsCons (gN 3) (gsCons (gN 4) gsNil))) (eFrz (wCall 3 g__law_ahead (aVal (eVar 0) (aVal (eVar 1) (aVal (eVar 2) aNil))))))
    (sSeq (sAsg 5 (wSh (eOp dIx (eOp dIx (eOp dGetD (eVar 0) (eC (.str "prices"))) (eVar 1)) (eVar 2))))
    (sSeq (sAsg 6 (wCall 2 g__law_product (aVal (eOp dIx (eOp dIx (eOp dGetD (eVar 0) (eC (.str "rates"))) (eVar 1)) (eVar 2)) (aVal (eVar 5) aNil))))
    (sSeq (sIf (eNot (eFrz (wCall 2 g__law_under (aVal (eVar 4) (aVal (eVar 6) aNil))))) (sRet (wSh (eTup (aVal (eVar 1) (aVal (eVar 2) (aVal (eTup (aVal (eC (.int 1)) (aVal (eC (.int 1)) aNil))) (aVal (eFrz (wCall 1 g__law_turned_sign (aVal (eVar 5) aNil))) aNil))))))) sNx)
    (sIf (eNot (eFrz (wCall 2 g__law_under (aVal (eVar 6) (aVal (eVar 3) aNil))))) (sRet (wSh (eTup (aVal (eVar 1) (aVal (eVar 2) (aVal (eTup (aVal (eUn dNeg (eC (.int 1))) (aVal (eC (.int 1)) aNil))) (aVal (eVar 5) aNil))))))) sNx)))))))
    (sRet (wSh (eC .non))))
abbrev f__law_win : FnD := callF 7 [] (b__law_win f__law_ahead f__law_product f__law_under f__law_turned_sign)
section
variable {w : Web} {PS RS SS : Dt} {zp zs : Int} {Q : Wt → List Wt → Prop}
theorem ahead_ev (W : WD w PS RS SS zp zs) {d n : Int} {i k a b : Nat} {p r u l : Rat} (hd : d = i) (hn : n = k) (N : Nd w i k p r u l a b) (q : Q (.sh (.tup [amR u, amR l])) []) : EvF f__law_ahead [.sh (webD PS RS SS), .sh (.int d), .sh (.int n)] Q := by
  obtain ⟨row3, c1, c2⟩ := N.hs
  obtain ⟨row4, d1, d2, d3⟩ := N.hu
  obtain ⟨R, z, e1, e2⟩ := W.is_ d i row3 hd c1
  obtain ⟨R4, z4, f1, f2⟩ := W.ip (d + 1) (i + 1) row4 (by omega) d1
  refine ef_in rfl ?_
  unfold b__law_ahead
  walk_at "w"
  refine wo e1 ?_
  walk_at "w"
  refine wo (e2.ix n k _ hn (by rw [c2]; rfl)) ?_
  walk_at "w"
  refine wo f1 ?_
  walk_at "w"
  refine wo (f2.ix _ a _ rfl (by rw [d2]; rfl)) ?_
  walk_at "w"
  refine wo f1 ?_
  walk_at "w"
  refine wo (f2.ix _ b _ rfl (by rw [d3]; rfl)) ?_
  walk_at "w"
  exact q
theorem tsign_ev {p : Rat} (q : Q (.sh (amR (-p))) []) : EvF f__law_turned_sign [.sh (amR p)] Q := by
  refine ef_in rfl ?_
  unfold b__law_turned_sign
  walk_at "w"
  have e : amR (-p) = .tup [.int (0 - p.num), .int (p.den : Nat)] := by
    rw [Int.zero_sub]
    rfl
  rw [e] at q
  exact q
theorem weight_ev (W : WD w PS RS SS zp zs) {d n : Int} {i k a b : Nat} {p r u l : Rat} (hd : d = i) (hn : n = k) (N : Nd w i k p r u l a b) (M : NdOk p r u l) (q : Q (.sh (amR (shareR p r u l))) []) : EvF f__law_weight [.sh (webD PS RS SS), .sh (.int d), .sh (.int n)] Q := by
  obtain ⟨row1, a1, a2⟩ := N.hp
  obtain ⟨row2, b1, b2⟩ := N.hr
  obtain ⟨R1, z1, e1, e2⟩ := W.ip d i row1 hd a1
  obtain ⟨R2, z2, f1, f2⟩ := W.ir d i row2 hd b1
  refine ef_in rfl ?_
  unfold b__law_weight
  walk_at "w"
  refine ahead_ev W hd hn N ?_
  walk_at "w"
  refine wo f1 ?_
  walk_at "w"
  refine wo (f2.ix n k _ hn (by rw [b2]; rfl)) ?_
  walk_at "w"
  refine wo e1 ?_
  walk_at "w"
  refine wo (e2.ix n k _ hn (by rw [a2]; rfl)) ?_
  walk_at "w"
  refine law_product_r M.rb M.pb (by decide) ?_
  walk_at "w"
  refine law_less_by_r (M.rb.times M.pb) M.lb (by decide) ?_
  walk_at "w"
  refine law_less_by_r M.ub M.lb (by decide) ?_
  walk_at "w"
  refine law_share_of_r ((M.rb.times M.pb).minus M.lb) (M.ub.minus M.lb) (sub_ne M.ul) (by decide) ?_
  walk_at "w"
  exact q
theorem law_win_ev (W : WD w PS RS SS zp zs) (O : WebOk w) (q : Q (.sh w.winD) []) : EvF f__law_win [.sh (webD PS RS SS)] Q := by
  have h1 := W.zs_
  have h2 := O.ls
  have h3 := O.n7
  refine ef_in rfl ?_
  unfold b__law_win
  walk_at "w"
  refine wo W.ls ?_
  walk_at "w"
  refine wo (range_z (n := w.ss.length) h1 (by omega)) ?_
  walk_at "w"
  refine EvS.cut (fun ρ => w.winO = none) ?_ ?_
  · refine for_inv (fun ds ρ => ∃ (is : List Nat) (x1 x2 x3 x4 x5 x6 : Option Wt), ds = is.map (fun i => Dt.int (i : Nat)) ∧ (∀ i ∈ is, i < w.ss.length) ∧ w.winO = firstO (fun i => firstO (w.wn i) (List.range (w.ss.getD i []).length)) is ∧ ρ = [some (.sh (webD PS RS SS)), x1, x2, x3, x4, x5, x6]) ?_ ?_ _ _ ⟨List.range w.ss.length, none, none, none, none, none, none, rfl, fun i hi => List.mem_range.mp hi, rfl, rfl⟩
    · rintro d ds ρ ⟨is, x1, x2, x3, x4, x5, x6, e, hl, hw, rfl⟩
      cases is with
      | nil => cases e
      | cons i is =>
        cases e
        have hi := hl i List.mem_cons_self
        have es : w.ss[i]? = some w.ss[i] := List.getElem?_eq_getElem hi
        have ep : w.ps[i]? = some w.ps[i] := List.getElem?_eq_getElem (by omega)
        have hlen := O.sows i _ _ ep es
        have h8 := (O.row i _ ep).2
        obtain ⟨RS', zi, g1, g2⟩ := W.is_ (i : Nat) i _ rfl es
        walk_at "w"
        refine wo g1 ?_
        walk_at "w"
        refine wo g2.len ?_
        walk_at "w"
        refine wo (range_z (n := w.ss[i].length) g2.z_ (by omega)) ?_
        walk_at "w"
        have eg : w.ss.getD i [] = w.ss[i] := by simp [List.getD, es]
        refine for_inv (fun ds' ρ => ∃ (ks : List Nat) (x2 x3 x4 x5 x6 : Option Wt), ds' = ks.map (fun i => Dt.int (i : Nat)) ∧ (∀ k ∈ ks, k < w.ss[i].length) ∧ w.winO = orO (firstO (w.wn i) ks) (firstO (fun i => firstO (w.wn i) (List.range (w.ss.getD i []).length)) is) ∧ ρ = [some (.sh (webD PS RS SS)), some (.sh (.int (i : Nat))), x2, x3, x4, x5, x6]) ?_ ?_ _ _ ⟨List.range w.ss[i].length, x2, x3, x4, x5, x6, rfl, fun k hk => List.mem_range.mp hk, by rw [hw, firstO, eg], rfl⟩
        · rintro d' ds' ρ ⟨ks, x2, x3, x4, x5, x6, e', hl', hw', rfl⟩
          cases ks with
          | nil => cases e'
          | cons k ks =>
            cases e'
            have hk := hl' k List.mem_cons_self
            obtain ⟨p, r, u, l, a, b, N, M⟩ := O.node es hk
            obtain ⟨row1, a1, a2⟩ := N.hp
            obtain ⟨row2, b1, b2⟩ := N.hr
            obtain ⟨R, z, e1, e2⟩ := W.ip (i : Nat) i row1 rfl a1
            obtain ⟨R2, z2, f1, f2⟩ := W.ir (i : Nat) i row2 rfl b1
            rw [firstO, N.wn] at hw'
            unfold wnO at hw'
            walk_at "w"
            refine ahead_ev W rfl rfl N ?_
            walk_at "w"
            refine wo e1 ?_
            walk_at "w"
            refine wo (e2.ix _ k _ rfl (by rw [a2]; rfl)) ?_
            walk_at "w"
            refine wo f1 ?_
            walk_at "w"
            refine wo (f2.ix _ k _ rfl (by rw [b2]; rfl)) ?_
            walk_at "w"
            refine law_product_r M.rb M.pb (by decide) ?_
            walk_at "w"
            refine under_r M.lb (M.rb.times M.pb) (by decide) (by decide) ?_
            walk_at "w"
            by_cases c1 : l < r * p
            · rw [if_neg (fun z => z c1)] at hw'
              refine wnf (decide_eq_true c1) ?_
              walk_at "w"
              refine under_r (M.rb.times M.pb) M.ub (by decide) (by decide) ?_
              walk_at "w"
              by_cases c2 : r * p < u
              · rw [if_neg (fun z => z c2)] at hw'
                refine wnf (decide_eq_true c2) ?_
                walk_at "w"
                exact ⟨ks, _, _, _, _, _, rfl, fun k hk => hl' k (List.mem_cons_of_mem _ hk), hw', rfl⟩
              · rw [if_pos c2] at hw'
                refine wnt (decide_eq_false c2) ?_
                walk_at "w"
                have : w.winD = .tup [.int (i : Nat), .int (k : Nat), amR (-1), amR p] := by unfold Web.winD; rw [hw']; rfl
                rw [this] at q
                exact q
            · rw [if_pos c1] at hw'
              refine wnt (decide_eq_false c1) ?_
              walk_at "w"
              refine tsign_ev ?_
              walk_at "w"
              have : w.winD = .tup [.int (i : Nat), .int (k : Nat), amR 1, amR (-p)] := by unfold Web.winD; rw [hw']; rfl
              rw [this] at q
              exact q
        · rintro ρ ⟨ks, x2, x3, x4, x5, x6, e', hl', hw', rfl⟩
          cases ks with
          | cons k ks => cases e'
          | nil => exact ⟨is, _, _, _, _, _, _, rfl, fun i hi => hl i (List.mem_cons_of_mem _ hi), hw', rfl⟩
    · rintro ρ ⟨is, x1, x2, x3, x4, x5, x6, e, hl, hw, rfl⟩
      cases is with
      | cons i is => cases e
      | nil => exact hw
  · intro ρ h
    walk_at "w"
    have : w.winD = .non := by unfold Web.winD; rw [h]; rfl
    rw [← this]
    exact q
end
end Lw
namespace Lw
open PySem PySem.Spec PyProof.Rows L2 RZ DL
local macro_rules | `(tactic| walk_at "sm") => `(tactic| first | assumption | exact sm_of (k := 200) (by omega) (by decide) | exact sm_of (k := 200) (by decide) (by decide))
local macro_rules | `(tactic| walk_at "w1") => `(tactic| ((conv => whnf); (try refine At.mk ?_)))
local macro_rules | `(tactic| walk_at "wa") => `(tactic| first
  | refine wox (ex_mul (Sm.mul (by walk_at "sm") (by walk_at "sm")) ?_)
  | refine wox (ex_mod (by first | decide | omega | assumption) ?_)
  | refine wox (ex_fdiv (Sm.div (by walk_at "sm") (by first | decide | omega | assumption)) ?_))
local macro_rules | `(tactic| walk_at "w") => `(tactic| ((first | refine nrm_go ?_ | refine WpS.ok ?_ | refine WpE.ok ?_ | skip); walk_at "w1"))
local macro_rules | `(tactic| walk_at "wm") => `(tactic| (walk_at "w"; (repeat (walk_at "wa"; walk_at "w1"))))
def b__law_fair (g__law_rows_between g__law_steps_between g__law_take g__law_sum g__law_product g__law_less_by g__law_share_of : FnD) : FS :=
  (sSeq (sAsg 3 (wCall 3 g__law_rows_between (aSlot 0 (aVal (eVar 1) (aVal (eVar 2) aNil)))))
    (sSeq (sNewT2 4 5)
    (sSeq (sFor (iArgs rangeD (aVal (eOp dSub (eVar 1) (eC (.int 1))) aNil)) (gN 6) (sSeq (sAppN (fVar 4))
    (sSeq (sAppN (fVar 5))
    (sFor (iSeq (eIxV 3 (eVar 6))) (gN 7) (sSeq (sAsgT (gT 2 (gsCons (gN 8) (gsCons (gN 9) gsNil))) (eFrz (wCall 2 g__law_steps_between (aSlot 0 (aVal (eIxV 3 (eOp dAdd (eVar 6) (eC (.int 1)))) aNil)))))
    (sSeq (sAsg 10 (wSh (eOp dAdd (eC (.int 2)) (eFrz (wCall 2 g__law_take (aSlot 0 (aVal (eC (.int 5)) aNil)))))))
    (sSeq (sAsg 11 (wSh (eTup (aVal (eOp dAdd (eC (.int 1)) (eFrz (wCall 2 g__law_take (aSlot 0 (aVal (eOp dSub (eVar 10) (eC (.int 1))) aNil))))) (aVal (eVar 10) aNil)))))
    (sSeq (sPar 12 13 (aVal (eOp dIx (eIxV 3 (eOp dAdd (eVar 6) (eC (.int 1)))) (eVar 8)) (aVal (eOp dIx (eIxV 3 (eOp dAdd (eVar 6) (eC (.int 1)))) (eVar 9)) aNil)))
    (sSeq (sAsg 14 (wCall 2 g__law_sum (aVal (eVar 13) (aVal (eFrz (wCall 2 g__law_product (aVal (eVar 11) (aVal (eFrz (wCall 2 g__law_less_by (aVal (eVar 12) (aVal (eVar 13) aNil)))) aNil)))) aNil))))
    (sSeq (sAppQ (fIx (fVar 4) (qVar 6)) (qCall 2 g__law_share_of [(qVar 14), (qVar 7)]))
    (sAppQ (fIx (fVar 5) (qVar 6)) (qTup [(qVar 8), (qVar 9)]))))))))))))
    (sRet (wDisp ["prices", "rates", "steps"] [3, 4, 5])))))
abbrev f__law_fair : FnD := callF 15 [0] (b__law_fair f__law_rows_between f__law_steps_between f__law_take f__law_sum f__law_product f__law_less_by f__law_share_of)
def b__law_loose (g__law_fair g__law_take g__law_above : FnD) : FS :=
  (sSeq (sAsg 3 (wCall 3 g__law_fair (aSlot 0 (aVal (eVar 1) (aVal (eVar 2) aNil)))))
    (sSeq (sFor (iArgs rangeD (aVal (eOp dSub (eVar 1) (eC (.int 1))) aNil)) (gN 4) (sFor (iArgs rangeD (aVal (eQ (qCB dLen [(qOp dIx (qOp dGetD (qVar 3) (qC (.str "rates"))) (qVar 4))])) aNil)) (gN 5) (sIf (eOp dGt (eFrz (wCall 2 g__law_take (aSlot 0 (aVal (eC (.int 3)) aNil)))) (eC (.int 0))) (sPutF (fIx (fKey (fVar 3) "rates") (qVar 4)) (qVar 5) (eFrz (wCall 2 g__law_above (aSlot 0 (aVal (eC (.int 3)) aNil))))) sNx)))
    (sRet (wVar 3))))
abbrev f__law_loose : FnD := callF 6 [0] (b__law_loose f__law_fair f__law_take f__law_above)
def b__law_rimmed (g__law_take g__law_ahead g__law_share_of : FnD) : FS :=
  (sSeq (sIf (eQ (qOp dNe (qOp dGetD (qVar 1) (qC (.str "steps"))) (qLst []))) (sSeq (sAsg 2 (wCall 2 g__law_take (aSlot 0 (aVal (eQ (qCB dLen [(qOp dGetD (qVar 1) (qC (.str "steps")))])) aNil))))
    (sSeq (sAsg 3 (wCall 2 g__law_take (aSlot 0 (aVal (eQ (qCB dLen [(qOp dIx (qOp dGetD (qVar 1) (qC (.str "steps"))) (qVar 2))])) aNil))))
    (sSeq (sAsg 4 (wSh (eOp dIx (eQ (qCall 3 g__law_ahead [(qVar 1), (qVar 2), (qVar 3)])) (eFrz (wCall 2 g__law_take (aSlot 0 (aVal (eC (.int 2)) aNil)))))))
    (sPutF (fIx (fKey (fVar 1) "rates") (qVar 2)) (qVar 3) (eQ (qCall 2 g__law_share_of [(qVar 4), (qOp dIx (qOp dIx (qOp dGetD (qVar 1) (qC (.str "prices"))) (qVar 2)) (qVar 3))])))))) sNx)
    (sRet (wVar 1)))
abbrev f__law_rimmed : FnD := callF 5 [0] (b__law_rimmed f__law_take f__law_ahead f__law_share_of)
theorem one_ev {xs ds : List Dt} {z : Int} (hx : BoxOk xs) (hl : dLen [.lst ds] = some (.int z)) (hz : z = ds.length) (h0 : 0 < ds.length) (h9 : ds.length ≤ 1000) {Q : Wt → List Wt → Prop} (q : ∀ d ys, d ∈ ds → BoxOk ys → Q (.sh d) [ys]) : EvF f__law_one [.own xs, .sh (.lst ds)] Q := by
  have key : ∀ (r : Int), 0 ≤ r → r < z → ∃ d, d ∈ ds ∧ dIx (.lst ds) (.int r) = some d := fun r h1 h2 => by
    have e : ds[r.toNat]? = some ds[r.toNat] := List.getElem?_eq_getElem (by omega)
    exact ⟨_, List.getElem_mem _, atI_nat (i := r.toNat) (by omega) e⟩
  obtain ⟨D, eD⟩ : ∃ D, D = Dt.lst ds := ⟨_, rfl⟩
  rw [← eD] at hl ⊢
  simp only [← eD] at key
  refine ef_in rfl ?_
  unfold b__law_one
  walk_at "w"
  refine wo hl ?_
  walk_at "w"
  refine take_ev hx (m := z) (by omega) (sm_nat (by omega)) fun r ys r0 r1 hy => ?_
  walk_at "w"
  obtain ⟨d, hd, e⟩ := key r r0 r1
  refine wo e ?_
  walk_at "w"
  exact q d ys hd hy
theorem steps_ev {xs : List Dt} {row : List Rat} (hx : BoxOk xs) (hr : RowOk row) (h2 : ∃ a ∈ row, ∃ b ∈ row, a ≠ b) {Q : Wt → List Wt → Prop} (q : ∀ (a b : Nat) (u l : Rat) (ys : List Dt), row[a]? = some u → row[b]? = some l → l < u → BoxOk ys → Q (.sh (stD (a, b))) [ys]) : EvF f__law_steps_between [.own xs, .sh (amL row)] Q := by
  have n1 := hr.n1
  have n8 := hr.n8
  obtain ⟨z, hz⟩ : ∃ z : Int, z = row.length := ⟨_, rfl⟩
  have hl : dLen [amL row] = some (.int z) := by rw [hz]; show some (Dt.int ((row.map amR).length : Nat)) = _; rw [List.length_map]
  have ix : ∀ (n : Int) (k : Nat) (p : Rat), n = k → row[k]? = some p → dIx (amL row) (.int n) = some (amR p) := fun n k p h e => atI_nat h (by rw [List.getElem?_map, e]; rfl)
  obtain ⟨R, eR⟩ : ∃ R, R = amL row := ⟨_, rfl⟩
  rw [← eR] at hl ix ⊢
  refine ef_in rfl ?_
  unfold b__law_steps_between
  walk_at "w"
  refine wo hl ?_
  walk_at "w"
  refine take_ev hx (m := z) (by omega) (sm_nat (by omega)) fun i ys i0 i1 hy => ?_
  have ei : row[i.toNat]? = some row[i.toNat] := List.getElem?_eq_getElem (by omega)
  have xi := ix i i.toNat _ (by omega) ei
  walk_at "w"
  refine wo hl ?_
  walk_at "w"
  refine wo (range_z (n := row.length) hz (by omega)) ?_
  walk_at "w"
  have hw : ∃ w, w < row.length ∧ ∀ p, row[w]? = some p → p ≠ row[i.toNat] := by
    obtain ⟨a, ha, b, hb, hab⟩ := h2
    obtain ⟨ia, la, ea⟩ := List.getElem_of_mem ha
    obtain ⟨ib, lb, eb⟩ := List.getElem_of_mem hb
    by_cases c : a = row[i.toNat]
    · refine ⟨ib, lb, fun p hp z => hab ?_⟩
      rw [List.getElem?_eq_getElem lb, eb] at hp
      cases hp
      rw [c, z]
    · refine ⟨ia, la, fun p hp z => c ?_⟩
      rw [List.getElem?_eq_getElem la, ea] at hp
      cases hp
      exact z
  obtain ⟨w, hw1, hw2⟩ := hw
  refine lc_inv (fun ds ρ acc => ∃ (ks js : List Nat), ds = ks.map (fun i => Dt.int (i : Nat)) ∧ acc = js.map (fun i => Dt.int (i : Nat)) ∧ (∀ k ∈ ks, k < row.length) ∧ (∀ j ∈ js, j < row.length ∧ ∀ p, row[j]? = some p → p ≠ row[i.toNat]) ∧ (w ∈ ks ∨ w ∈ js) ∧ js.length + ks.length ≤ 8 ∧ ρ = [some (.own ys), some (.sh R), some (.sh (.int i)), none, none]) ?_ ?_ _ _ _ ⟨List.range row.length, [], rfl, rfl, fun k hk => List.mem_range.mp hk, fun j hj => absurd hj List.not_mem_nil, .inl (List.mem_range.mpr hw1), by simp only [List.length_range, List.length_nil]; omega, rfl⟩
  · rintro d ds ρ acc ⟨ks, js, e1, rfl, k1, k2, k3, k4, rfl⟩
    cases ks with
    | nil => cases e1
    | cons k ks =>
      cases e1
      rw [List.length_cons] at k4
      have kl := k1 k List.mem_cons_self
      have ek : row[k]? = some row[k] := List.getElem?_eq_getElem kl
      walk_at "w"
      refine wo (ix k k _ rfl ek) ?_
      walk_at "w"
      refine wo xi ?_
      walk_at "w"
      have hacc : (js.map (fun i => Dt.int (i : Nat))).length < 100000 := by rw [List.length_map]; omega
      by_cases c : row[k] = row[i.toNat]
      · refine wtf (by rw [amR_eqv, decide_eq_true c]; rfl) ?_
        walk_at "w"
        refine ⟨ks, js, rfl, rfl, fun k hk => k1 k (List.mem_cons_of_mem _ hk), k2, ?_, by omega, rfl⟩
        rcases k3 with h | h
        · rcases List.mem_cons.mp h with h | h
          · subst h; exact absurd c (hw2 _ ek)
          · exact .inl h
        · exact .inr h
      · refine wtt (by rw [amR_eqv, decide_eq_false c]; rfl) ?_
        walk_at "w"
        refine ⟨hacc, ks, js ++ [k], rfl, by rw [List.map_append]; rfl, fun k hk => k1 k (List.mem_cons_of_mem _ hk), fun j hj => ?_, ?_, by rw [List.length_append, List.length_singleton]; omega, rfl⟩
        · rcases List.mem_append.mp hj with h | h
          · exact k2 j h
          · rw [List.mem_singleton.mp h]
            exact ⟨kl, fun p hp z => by rw [ek] at hp; cases hp; exact c z⟩
        · rcases k3 with h | h
          · rcases List.mem_cons.mp h with h | h
            · subst h; exact .inr (by simp)
            · exact .inl h
          · exact .inr (by simp [h])
  · rintro ρ acc ⟨ks, js, e1, rfl, k1, k2, k3, k4, rfl⟩
    cases ks with
    | cons k ks => cases e1
    | nil =>
      have hj : w ∈ js := by rcases k3 with h | h; exact absurd h List.not_mem_nil; exact h
      have hjl : 0 < js.length := List.length_pos_of_mem hj
      rw [List.length_nil] at k4
      walk_at "w"
      refine one_ev (z := js.length) hy (by show some (Dt.int ((js.map (fun i => Dt.int (i : Nat))).length : Nat)) = _; rw [List.length_map]) (by rw [List.length_map]) (by rw [List.length_map]; exact hjl) (by rw [List.length_map]; omega) fun d ys hd hy => ?_
      obtain ⟨j, hj, rfl⟩ := List.mem_map.mp hd
      obtain ⟨jl, jn⟩ := k2 j hj
      have ej : row[j]? = some row[j] := List.getElem?_eq_getElem jl
      have hne := jn _ ej
      have xj := ix (j : Nat) j _ rfl ej
      have b1 := (hr.pos _ (List.mem_of_getElem? ei)).2
      have b2 := (hr.pos _ (List.mem_of_getElem? ej)).2
      have ez : Dt.int i = .int (i.toNat : Nat) := by rw [Int.toNat_of_nonneg i0]
      walk_at "w"
      refine wo xj ?_
      walk_at "w"
      refine wo xi ?_
      walk_at "w"
      refine under_r b2 b1 (by decide) (by decide) ?_
      walk_at "w"
      refine wd (fun c => ?_) (fun c => ?_)
      · walk_at "w"
        have := q i.toNat j _ _ ys ei ej c hy
        unfold stD at this
        rw [← ez] at this
        exact this
      · walk_at "w"
        have := q j i.toNat _ _ ys ej ei (by grind) hy
        unfold stD at this
        rw [← ez] at this
        exact this
/-! trees of lists of lists -/
theorem fIx_at {ρ : Rho} {j k n : Nat} {ts : List Tr} {z : Int} (e1 : ρ[j]? = some (some (.tr (.nd .lst ts)))) (e2 : ρ[k]? = some (some (.sh (.int z)))) (hz : z = n) (hn : n < ts.length) : fIx (fVar j) (qVar k) ρ = some (j, [n]) := by
  unfold fIx fVar qVar kidIx
  rw [e1, e2]
  have : ixN ts.length z = some n := by subst hz; unfold ixN; rw [if_pos (by omega), if_pos (by omega)]; rfl
  simp only [slotQ, e1, subT, this]
  rfl
theorem act_app {ρ : Rho} {j n : Nat} {ts us : List Tr} {t : Tr} (e1 : ρ[j]? = some (some (.tr (.nd .lst ts)))) (e2 : ts[n]? = some (.nd .lst us)) (hl : us.length < 100000) : nodeAct j [n] (actApp t) ρ = some (ρ.set j (some (.tr (.nd .lst (ts.set n (.nd .lst (us ++ [t]))))))) := by
  unfold nodeAct
  rw [e1]
  simp only []
  rw [subT, e2]
  simp only []
  rw [subT]
  simp only [actApp]
  rw [if_pos hl]
  simp only []
  rw [setAt, e2]
  simp only []
  rw [setAt]
theorem act_app0 {ρ : Rho} {j : Nat} {ts : List Tr} {t : Tr} (e1 : ρ[j]? = some (some (.tr (.nd .lst ts)))) (hl : ts.length < 100000) : nodeAct j [] (actApp t) ρ = some (ρ.set j (some (.tr (.nd .lst (ts ++ [t]))))) := by
  unfold nodeAct
  rw [e1]
  simp only []
  rw [subT]
  simp only [actApp]
  rw [if_pos hl]
  simp only []
  rw [setAt]
theorem last_set {α : Type} (f : α → Tr) (xs : List α) (x y : α) : ((xs ++ [x]).map f).set xs.length (f y) = (xs ++ [y]).map f := by
  rw [List.map_append, List.set_append_right _ _ (by rw [List.length_map]; exact Nat.le_refl _), List.length_map, Nat.sub_self]
  simp
theorem last_at {α : Type} (f : α → Tr) (xs : List α) (x : α) : ((xs ++ [x]).map f)[xs.length]? = some (f x) := by
  rw [List.getElem?_map]
  simp
/-- a row of rates and steps over a row of prices and the next one -/
structure RowFine (p nx r : List Rat) (s : List (Nat × Nat)) : Prop where
  rl : r.length = p.length
  sl : s.length = p.length
  rpos : ∀ x ∈ r, 0 < x ∧ RB 40 x
  nd : ∀ t ∈ s, ∃ u l, nx[t.1]? = some u ∧ nx[t.2]? = some l ∧ l < u
/-- and nothing is won -/
def RowFair (p nx r : List Rat) (s : List (Nat × Nat)) : Prop := ∀ (k : Nat) (pr rt : Rat) (t : Nat × Nat) (u l : Rat), p[k]? = some pr → r[k]? = some rt → s[k]? = some t → nx[t.1]? = some u → nx[t.2]? = some l → l < rt * pr ∧ rt * pr < u
structure RowsOk (pss rs : List (List Rat)) (ss : List (List (Nat × Nat))) : Prop where
  lr : rs.length = ss.length
  le : rs.length < pss.length
  row : ∀ (i : Nat) (p nx r : List Rat) (s : List (Nat × Nat)), pss[i]? = some p → pss[i + 1]? = some nx → rs[i]? = some r → ss[i]? = some s → RowFine p nx r s
def RowsFair (pss rs : List (List Rat)) (ss : List (List (Nat × Nat))) : Prop := ∀ (i : Nat) (p nx r : List Rat) (s : List (Nat × Nat)), pss[i]? = some p → pss[i + 1]? = some nx → rs[i]? = some r → ss[i]? = some s → RowFair p nx r s
theorem web_mk {pss rs : List (List Rat)} {ss : List (List (Nat × Nat))} (hp : PsOk pss) (h7 : pss.length ≤ 7) (hr : RowsOk pss rs ss) (hl : rs.length + 1 = pss.length) : WebOk ⟨pss, rs, ss⟩ := by
  have hlr := hr.lr
  have nx : ∀ i, i < rs.length → ∃ p nx r s, pss[i]? = some p ∧ pss[i + 1]? = some nx ∧ rs[i]? = some r ∧ ss[i]? = some s := fun i hi =>
    ⟨_, _, _, _, List.getElem?_eq_getElem (by omega), List.getElem?_eq_getElem (by omega), List.getElem?_eq_getElem hi, List.getElem?_eq_getElem (by omega)⟩
  refine ⟨by show 1 ≤ pss.length; omega, h7, hl, by show ss.length + 1 = pss.length; omega, hp.one, fun i row e => ⟨(hp.row i row e).n1, (hp.row i row e).n8⟩, fun i row rr e e2 => ?_, fun i row rr e e2 => ?_, fun i row e => (hp.row i row e).pos, fun i row e => ?_, fun i sr e => ?_⟩
  · have hi : i < rs.length := (List.getElem?_eq_some_iff.mp e2).1
    obtain ⟨p, n, r, s, a, b, c, d⟩ := nx i hi
    have a' : some p = some row := a.symm.trans e
    have c' : some r = some rr := c.symm.trans e2
    cases a'; cases c'
    exact (hr.row i _ _ _ _ a b c d).rl
  · have hi : i < ss.length := (List.getElem?_eq_some_iff.mp e2).1
    obtain ⟨p, n, r, s, a, b, c, d⟩ := nx i (by omega)
    have a' : some p = some row := a.symm.trans e
    have c' : some s = some rr := d.symm.trans e2
    cases a'; cases c'
    exact (hr.row i _ _ _ _ a b c d).sl
  · have hi : i < rs.length := (List.getElem?_eq_some_iff.mp e).1
    obtain ⟨p, n, r, s, a, b, c, d⟩ := nx i hi
    have c' : some r = some row := c.symm.trans e
    cases c'
    exact (hr.row i _ _ _ _ a b c d).rpos
  · have hi : i < ss.length := (List.getElem?_eq_some_iff.mp e).1
    obtain ⟨p, n, r, s, a, b, c, d⟩ := nx i (by omega)
    have c' : some s = some sr := d.symm.trans e
    cases c'
    intro t ht
    obtain ⟨u, l, f1, f2, f3⟩ := (hr.row i _ _ _ _ a b c d).nd t ht
    exact ⟨n, u, l, b, f1, f2, f3⟩
/-- the node's rate in a fair lattice -/
theorem fair_node {p u l sh : Rat} (p0 : 0 < p) (h : l < u) (l0 : 0 < l) (s0 : 0 < sh) (s1 : sh < 1) : l < ((l + sh * (u - l)) / p) * p ∧ ((l + sh * (u - l)) / p) * p < u ∧ 0 < (l + sh * (u - l)) / p := by
  have e : ((l + sh * (u - l)) / p) * p = l + sh * (u - l) := by grind
  have h1 : 0 < u - l := by grind
  have h2 : 0 < sh * (u - l) := Rat.mul_pos s0 h1
  have h3 : 0 < (1 - sh) * (u - l) := Rat.mul_pos (by grind) h1
  rw [e]
  refine ⟨by grind, by grind, ?_⟩
  rw [Rat.div_def]
  exact Rat.mul_pos (by grind) (Rat.inv_pos.mpr p0)
theorem RowFine.snoc {p nx r : List Rat} {s : List (Nat × Nat)} (h : RowFine p nx r s) {x rt u l : Rat} {a b : Nat} (h1 : 0 < rt ∧ RB 40 rt) (ha : nx[a]? = some u) (hb : nx[b]? = some l) (hul : l < u) : RowFine (p ++ [x]) nx (r ++ [rt]) (s ++ [(a, b)]) := by
  refine ⟨by simp [h.rl], by simp [h.sl], fun y hy => ?_, fun t ht => ?_⟩
  · rcases List.mem_append.mp hy with z | z
    · exact h.rpos y z
    · rw [List.mem_singleton.mp z]; exact h1
  · rcases List.mem_append.mp ht with z | z
    · exact h.nd t z
    · rw [List.mem_singleton.mp z]; exact ⟨u, l, ha, hb, hul⟩
theorem snoc_at {α : Type} {xs : List α} {x y : α} {k : Nat} (h : (xs ++ [x])[k]? = some y) : xs[k]? = some y ∧ k < xs.length ∨ k = xs.length ∧ y = x := by
  rcases Nat.lt_or_ge k xs.length with z | z
  · rw [List.getElem?_append_left z] at h; exact .inl ⟨h, z⟩
  · rw [List.getElem?_append_right z] at h
    have h1 := (List.getElem?_eq_some_iff.mp h).1
    rw [List.length_singleton] at h1
    have := List.mem_of_getElem? h
    exact .inr ⟨by omega, List.mem_singleton.mp this⟩
theorem RowFair.snoc {p nx r : List Rat} {s : List (Nat × Nat)} (h : RowFair p nx r s) (e1 : r.length = p.length) (e2 : s.length = p.length) {x rt u l : Rat} {a b : Nat} (ha : nx[a]? = some u) (hb : nx[b]? = some l) (h1 : l < rt * x) (h2 : rt * x < u) : RowFair (p ++ [x]) nx (r ++ [rt]) (s ++ [(a, b)]) := by
  intro k pr q t u' l' k1 k2 k3 k4 k5
  rcases snoc_at k1 with ⟨k1, z1⟩ | ⟨z1, rfl⟩
  · rcases snoc_at k2 with ⟨k2, _⟩ | ⟨z2, _⟩
    · rcases snoc_at k3 with ⟨k3, _⟩ | ⟨z3, _⟩
      · exact h k pr q t u' l' k1 k2 k3 k4 k5
      · omega
    · omega
  · rcases snoc_at k2 with ⟨_, z2⟩ | ⟨_, rfl⟩
    · omega
    · rcases snoc_at k3 with ⟨_, z3⟩ | ⟨_, rfl⟩
      · omega
      · rw [ha] at k4
        rw [hb] at k5
        cases k4; cases k5
        exact ⟨h1, h2⟩
theorem RowsOk.snoc {pss rs : List (List Rat)} {ss : List (List (Nat × Nat))} (h : RowsOk pss rs ss) {p nx r : List Rat} {s : List (Nat × Nat)} (hp : pss[rs.length]? = some p) (hn : pss[rs.length + 1]? = some nx) (hf : RowFine p nx r s) : RowsOk pss (rs ++ [r]) (ss ++ [s]) := by
  have h0 := h.lr
  refine ⟨by simp [h.lr], ?_, fun i p' nx' r' s' k1 k2 k3 k4 => ?_⟩
  · have := (List.getElem?_eq_some_iff.mp hn).1
    rw [List.length_append, List.length_singleton]; omega
  · rcases snoc_at k3 with ⟨k3, z⟩ | ⟨z, rfl⟩
    · rcases snoc_at k4 with ⟨k4, _⟩ | ⟨z4, _⟩
      · exact h.row i p' nx' r' s' k1 k2 k3 k4
      · omega
    · rcases snoc_at k4 with ⟨_, z4⟩ | ⟨_, rfl⟩
      · omega
      · subst z
        rw [hp] at k1
        rw [hn] at k2
        cases k1; cases k2
        exact hf
theorem RowsFair.snoc {pss rs : List (List Rat)} {ss : List (List (Nat × Nat))} (h : RowsFair pss rs ss) (h0 : rs.length = ss.length) {p nx r : List Rat} {s : List (Nat × Nat)} (hp : pss[rs.length]? = some p) (hn : pss[rs.length + 1]? = some nx) (hf : RowFair p nx r s) : RowsFair pss (rs ++ [r]) (ss ++ [s]) := by
  intro i p' nx' r' s' k1 k2 k3 k4
  rcases snoc_at k3 with ⟨k3, z⟩ | ⟨z, rfl⟩
  · rcases snoc_at k4 with ⟨k4, _⟩ | ⟨z4, _⟩
    · exact h i p' nx' r' s' k1 k2 k3 k4
    · omega
  · rcases snoc_at k4 with ⟨_, z4⟩ | ⟨_, rfl⟩
    · omega
    · subst z
      rw [hp] at k1
      rw [hn] at k2
      cases k1; cases k2
      exact hf
structure WebGood (w : Web) : Prop where
  ps : PsOk w.ps
  rows : RowsOk w.ps w.rs w.ss
  ok : WebOk w
def WebFair (w : Web) : Prop := RowsFair w.ps w.rs w.ss
theorem shr {k n : Int} (h0 : 0 < k) (h1 : k < n) : 0 < Rat.divInt k n ∧ Rat.divInt k n < 1 := by
  have hn : (0 : Rat) < (n : Rat) := Rat.intCast_pos.mpr (by omega)
  rw [Rat.divInt_eq_div]
  refine ⟨?_, ?_⟩
  · rw [Rat.div_def]
    exact Rat.mul_pos (Rat.intCast_pos.mpr h0) (Rat.inv_pos.mpr hn)
  · rw [Rat.div_lt_iff hn, Rat.one_mul]
    exact Rat.intCast_lt_intCast.mpr h1
theorem times_sh {k n : Int} (hn : 0 < n) (v : Rat) : timesP (k, n) (ofR v) = ofR (Rat.divInt k n * v) := by
  unfold timesP
  rw [lowL_val (show 0 < (k, n).2 * (ofR v).2 from Int.mul_pos hn (den_pos v))]
  congr 1
  have := Rat.divInt_mul_divInt k v.num (d₁ := n) (d₂ := v.den)
  rw [Rat.num_divInt_den] at this
  exact this.symm
theorem rowL_ix {row : List Rat} {z : Int} {k : Nat} {p : Rat} (h : z = k) (e : row[k]? = some p) : dIx (amL row) (.int z) = some (amR p) := atI_nat h (by rw [List.getElem?_map, e]; rfl)
theorem fair_ev {xs : List Dt} {d m : Int} (hx : BoxOk xs) (d1 : 1 ≤ d) (d7 : d ≤ 7) (m2 : 2 ≤ m) (m8 : m ≤ 8) {Q : Wt → List Wt → Prop} (q : ∀ (w : Web) ys, BoxOk ys → (w.ps.length : Int) = d → WebGood w → WebFair w → Q (.tr w.tr) [ys]) : EvF f__law_fair [.own xs, .sh (.int d), .sh (.int m)] Q := by
  refine ef_in rfl ?_
  unfold b__law_fair
  walk_at "w"
  refine rows_ev hx d1 d7 m2 m8 fun pss ys hy hl hp => ?_
  walk_at "w"
  refine wo (range_z (n := pss.length - 1) (by omega) (by omega)) ?_
  walk_at "w"
  obtain ⟨L, eL⟩ : ∃ L, L = pss.map amL := ⟨_, rfl⟩
  have ix : ∀ (n : Int) (k : Nat) (p : List Rat), n = k → pss[k]? = some p → dIx (.lst L) (.int n) = some (amL p) := fun n k p h e => atI_nat h (by rw [eL, List.getElem?_map, e]; rfl)
  rw [← eL]
  refine for_inv (fun ds ρ => ∃ (ys : List Dt) (rs : List (List Rat)) (ss : List (List (Nat × Nat))) (n : Nat) (x6 x7 x8 x9 x10 x11 x12 x13 x14 : Option Wt), BoxOk ys ∧ RowsOk pss rs ss ∧ RowsFair pss rs ss ∧ ds = (List.range' rs.length n).map (fun i => Dt.int (i : Nat)) ∧ rs.length + n + 1 = pss.length ∧
    ρ = [some (.own ys), some (.sh (.int d)), some (.sh (.int m)), some (.own L), some (.tr (.nd .lst (rs.map rowT))), some (.tr (.nd .lst (ss.map stT))), x6, x7, x8, x9, x10, x11, x12, x13, x14]) ?_ ?_ _ _ ⟨ys, [], [], pss.length - 1, none, none, none, none, none, none, none, none, none, hy, ?_, ?_, ?_, ?_, rfl⟩
  · rintro d0 ds ρ ⟨ys, rs, ss, n, x6, x7, x8, x9, x10, x11, x12, x13, x14, hy, hr, hf, e, hn, rfl⟩
    cases n with
    | zero => cases e
    | succ n =>
      rw [List.range'_succ, List.map_cons] at e
      injection e with e1 e2
      subst e1
      have hlr := hr.lr
      have ep : pss[rs.length]? = some pss[rs.length] := List.getElem?_eq_getElem (by omega)
      have en : pss[rs.length + 1]? = some pss[rs.length + 1] := List.getElem?_eq_getElem (by omega)
      obtain ⟨p, hpe⟩ : ∃ p, p = pss[rs.length] := ⟨_, rfl⟩
      obtain ⟨nx, hne⟩ : ∃ p, p = pss[rs.length + 1] := ⟨_, rfl⟩
      rw [← hpe] at ep
      rw [← hne] at en
      have okp := hp.row _ _ ep
      have okn := hp.row _ _ en
      have two := hp.two _ _ en
      obtain ⟨zi, hzi⟩ : ∃ z : Int, z = rs.length := ⟨_, rfl⟩
      have ixp := ix zi _ _ hzi ep
      have ixn := ix (zi + 1) (rs.length + 1) _ (by omega) en
      rw [← hzi]
      walk_at "w"
      refine wo (act_app0 rfl (by rw [List.length_map]; omega)) ?_
      walk_at "w"
      refine wo (act_app0 rfl (by rw [List.length_map]; omega)) ?_
      walk_at "w"
      refine wo ixp ?_
      walk_at "w"
      refine for_inv (fun ds ρ => ∃ (ys : List Dt) (dn rest r : List Rat) (s : List (Nat × Nat)) (x7 x8 x9 x10 x11 x12 x13 x14 : Option Wt), BoxOk ys ∧ RowFine dn nx r s ∧ RowFair dn nx r s ∧ ds = rest.map amR ∧ dn ++ rest = p ∧
        ρ = [some (.own ys), some (.sh (.int d)), some (.sh (.int m)), some (.own L), some (.tr (.nd .lst ((rs ++ [r]).map rowT))), some (.tr (.nd .lst ((ss ++ [s]).map stT))), some (.sh (.int zi)), x7, x8, x9, x10, x11, x12, x13, x14]) ?_ ?_ _ _ ⟨ys, [], p, [], [], x7, x8, x9, x10, x11, x12, x13, x14, hy, ?_, ?_, rfl, rfl, ?_⟩
      · rintro d1 ds1 ρ ⟨ys, dn, rest, r, s, x7, x8, x9, x10, x11, x12, x13, x14, hy, hfi, hfa, e3, e4, rfl⟩
        cases rest with
        | nil => cases e3
        | cons x rest =>
          cases e3
          have hx0 := okp.pos x (by rw [← e4]; simp)
          have hl8 : dn.length < 8 := by
            have := okp.n8
            rw [← e4, List.length_append, List.length_cons] at this
            omega
          walk_at "w"
          refine wo ixn ?_
          walk_at "w"
          refine steps_ev hy okn two fun a b u l ys ha hb hul hy => ?_
          have hu0 := okn.pos u (List.mem_of_getElem? ha)
          have hl0 := okn.pos l (List.mem_of_getElem? hb)
          obtain ⟨za, hza⟩ : ∃ z : Int, z = a := ⟨_, rfl⟩
          obtain ⟨zb, hzb⟩ : ∃ z : Int, z = b := ⟨_, rfl⟩
          rw [show stD (a, b) = .tup [.int za, .int zb] by rw [hza, hzb]; rfl]
          walk_at "w"
          refine take_ev hy (by decide) (sm_nat (by decide)) fun t ys t0 t1 hy => ?_
          walk_at "w"
          refine take_ev hy (by omega) (sm_nat (by omega)) fun k ys k0 k1 hy => ?_
          walk_at "w"
          refine wo ixn ?_
          walk_at "w"
          refine wo (rowL_ix hza ha) ?_
          walk_at "w"
          refine wo ixn ?_
          walk_at "w"
          refine wo (rowL_ix hzb hb) ?_
          walk_at "w"
          refine law_less_by_r hu0.2 hl0.2 (by decide) ?_
          walk_at "w"
          have hd := hu0.2.minus hl0.2
          have hsb : Bd 4 (1 + k, 2 + t) := ⟨by show (1 + k).natAbs < 2 ^ 4; omega, by show (2 + t).natAbs < 2 ^ 4; omega⟩
          refine law_product_ev (x := (1 + k, 2 + t)) (y := ofR (u - l)) hsb hd (by show 0 < 2 + t; omega) (den_pos _) (by decide) ?_
          rw [times_sh (by omega)]
          obtain ⟨s0, s1⟩ := shr (k := 1 + k) (n := 2 + t) (by omega) (by omega)
          have hpb : RB (4 + (8 + 8 + 1)) (Rat.divInt (1 + k) (2 + t) * (u - l)) := by
            have := (times_bd hsb hd (by show 0 < 2 + t; omega) (den_pos _)).2
            rw [times_sh (by omega)] at this
            exact this
          obtain ⟨sh, hsh⟩ : ∃ sh, sh = Rat.divInt (1 + k) (2 + t) := ⟨_, rfl⟩
          rw [← hsh] at s0 s1 hpb ⊢
          walk_at "w"
          refine law_sum_r hl0.2 hpb (by decide) ?_
          walk_at "w"
          obtain ⟨g1, g2, g3⟩ := fair_node hx0.1 hul hl0.1 s0 s1
          have hgb := hl0.2.plus hpb
          refine wo (fIx_at (n := rs.length) rfl rfl hzi (by rw [List.length_map, List.length_append, List.length_singleton]; omega)) ?_
          walk_at "w"
          refine law_share_of_r hgb hx0.2 (by grind) (by decide) ?_
          walk_at "w"
          have hrb := hgb.by hx0.2 (show x ≠ 0 by grind)
          obtain ⟨rt, hrt⟩ : ∃ rt, rt = (l + sh * (u - l)) / x := ⟨_, rfl⟩
          rw [← hrt] at g1 g2 g3 hrb ⊢
          have hr0 : 0 < rt ∧ RB 40 rt := ⟨g3, hrb.mono (by decide)⟩
          refine wo (act_app rfl (last_at rowT rs r) (by rw [List.length_map, hfi.rl]; omega)) ?_
          walk_at "w"
          refine wo (fIx_at (n := rs.length) rfl rfl hzi (by rw [List.length_map, List.length_append, List.length_singleton]; omega)) ?_
          walk_at "w"
          refine wo (act_app rfl (by rw [hlr]; exact last_at stT ss s) (by rw [List.length_map, hfi.sl]; omega)) ?_
          walk_at "w"
          have E1 : ((rs ++ [r]).map rowT).set rs.length (.nd .lst ((r.map fun r => Tr.sh (amR r)) ++ [.sh (wtD (.sh (amR rt)))])) = (rs ++ [r ++ [rt]]).map rowT := by
            rw [← last_set rowT rs r (r ++ [rt])]
            congr 1
            unfold rowT; rw [List.map_append]; rfl
          have E2 : ((ss ++ [s]).map stT).set rs.length (.nd .lst ((s.map fun p => Tr.sh (stD p)) ++ [.sh (.tup [.int za, .int zb])])) = (ss ++ [s ++ [(a, b)]]).map stT := by
            rw [hlr, ← last_set stT ss s (s ++ [(a, b)])]
            congr 1
            unfold stT; rw [List.map_append, hza, hzb]; rfl
          rw [E1, E2]
          exact ⟨ys, dn ++ [x], rest, r ++ [rt], s ++ [(a, b)], _, _, _, _, _, _, _, _, hy, hfi.snoc hr0 ha hb hul, hfa.snoc hfi.rl hfi.sl ha hb g1 g2, rfl, by rw [List.append_assoc]; exact e4, rfl⟩
      · rintro ρ ⟨ys, dn, rest, r, s, x7, x8, x9, x10, x11, x12, x13, x14, hy, hfi, hfa, e3, e4, rfl⟩
        cases rest with
        | cons x rest => cases e3
        | nil =>
          rw [List.append_nil] at e4
          subst e4
          refine ⟨ys, rs ++ [r], ss ++ [s], n, _, _, _, _, _, _, _, _, _, hy, hr.snoc ep en hfi, hf.snoc hlr ep en hfa, ?_, by rw [List.length_append, List.length_singleton]; omega, rfl⟩
          rw [List.length_append, List.length_singleton]
          exact e2
      · exact ⟨rfl, rfl, fun x h => absurd h List.not_mem_nil, fun x h => absurd h List.not_mem_nil⟩
      · intro k pr rt t u l h
        cases h
      · rw [List.map_append, List.map_append]
        rfl
  · rintro ρ ⟨ys, rs, ss, n, x6, x7, x8, x9, x10, x11, x12, x13, x14, hy, hr, hf, e, hn, rfl⟩
    cases n with
    | succ n => rw [List.range'_succ] at e; cases e
    | zero =>
      walk_at "w"
      have := q ⟨pss, rs, ss⟩ ys hy hl ⟨hp, hr, web_mk hp (by omega) hr (by omega)⟩ hf
      have e9 : L.map Tr.sh = pss.map fun r => Tr.sh (amL r) := by rw [eL, List.map_map]; rfl
      have e8 : (Web.mk pss rs ss).tr = .nd (.dk [.inr "prices", .inr "rates", .inr "steps"]) [.nd .lst (L.map Tr.sh), .nd .lst (rs.map rowT), .nd .lst (ss.map stT)] := by rw [e9]; rfl
      rw [e8] at this
      exact this
  · exact ⟨rfl, by show 0 < pss.length; omega, fun i p nx r s _ _ h => by cases h⟩
  · intro i p nx r s _ _ h
    cases h
  · rw [List.range_eq_range']; rfl
  · show 0 + (pss.length - 1) + 1 = _; omega
/-! a rate is put -/
def Web.put (w : Web) (i k : Nat) (r : Rat) : Web := ⟨w.ps, w.rs.set i ((w.rs.getD i []).set k r), w.ss⟩
theorem fKey_rates {ρ : Rho} {j c : Nat} {w : Web} {T : Tr} {z : Int} {i : Nat} (e1 : ρ[j]? = some (some (.tr T))) (eT : T = w.tr) (e2 : ρ[c]? = some (some (.sh (.int z)))) (hz : z = i) (hi : i < w.rs.length) : fIx (fKey (fVar j) "rates") (qVar c) ρ = some (j, [1, i]) := by
  have h1 : fKey (fVar j) "rates" ρ = some (j, [1]) := by
    unfold fKey fVar kidKey
    simp only [e1, eT, subT]
    rfl
  have h2 : kidIx ρ j [1] z = some i := by
    unfold kidIx
    simp only [e1, eT]
    show (match (match w.tr with
      | .nd _ ts => (match ts[1]? with
        | some t => subT t []
        | none => none)
      | .sh _ => none) with
      | some (.nd .lst ts) => ixN ts.length z
      | _ => none) = _
    unfold Web.tr
    simp only [List.getElem?_cons_succ, List.getElem?_cons_zero, subT, List.length_map]
    subst hz
    unfold ixN; rw [if_pos (by omega), if_pos (by omega)]; rfl
  unfold fIx
  simp only [h1, qVar, slotQ, e2, h2]
  rfl
theorem put_act {ρ : Rho} {j : Nat} {w : Web} {T : Tr} {z : Int} {i k : Nat} {row : List Rat} {r : Rat} (e1 : ρ[j]? = some (some (.tr T))) (eT : T = w.tr) (hi : w.rs[i]? = some row) (hz : z = k) (hk : k < row.length) : nodeAct j [1, i] (actPut z (.sh (amR r))) ρ = some (ρ.set j (some (.tr (w.put i k r).tr))) := by
  have q1 : (w.rs.map rowT)[i]? = some (rowT row) := by rw [List.getElem?_map, hi]; rfl
  have h1 : subT w.tr [1, i] = some (rowT row) := by
    unfold Web.tr
    rw [subT]
    simp only [List.getElem?_cons_succ, List.getElem?_cons_zero]
    rw [subT, q1]
    simp only []
    rw [subT]
  have h2 : actPut z (.sh (amR r)) .lst (row.map fun r => Tr.sh (amR r)) = some (.lst, (row.set k r).map fun r => Tr.sh (amR r)) := by
    unfold actPut
    have : ixN (row.map fun r => Tr.sh (amR r)).length z = some k := by rw [List.length_map]; subst hz; unfold ixN; rw [if_pos (by omega), if_pos (by omega)]; rfl
    simp only [this]
    rw [List.map_set]
  have h3 : setAt w.tr [1, i] (rowT (row.set k r)) = (w.put i k r).tr := by
    unfold Web.tr Web.put
    rw [setAt]
    simp only [List.getElem?_cons_succ, List.getElem?_cons_zero]
    rw [setAt, q1]
    simp only []
    rw [setAt]
    simp only [List.set_cons_succ, List.set_cons_zero]
    have : w.rs.getD i [] = row := by simp [List.getD, hi]
    rw [this, List.map_set]
  unfold nodeAct
  simp only [e1, eT, h1]
  show (match actPut z (.sh (amR r)) .lst (row.map fun r => Tr.sh (amR r)) with
    | some (k', ts') => some (ρ.set j (some (.tr (setAt w.tr [1, i] (.nd k' ts')))))
    | none => none) = _
  rw [h2]
  simp only []
  rw [← h3]
  rfl
theorem WebGood.put {w : Web} (h : WebGood w) {i k : Nat} {row : List Rat} {r : Rat} (hi : w.rs[i]? = some row) (hr : 0 < r ∧ RB 40 r) : WebGood (w.put i k r) := by
  have e : w.rs.getD i [] = row := by simp [List.getD, hi]
  have h1 : RowsOk w.ps (w.rs.set i (row.set k r)) w.ss := by
    refine ⟨by rw [List.length_set]; exact h.rows.lr, by rw [List.length_set]; exact h.rows.le, fun a p nx r' s k1 k2 k3 k4 => ?_⟩
    rw [List.getElem?_set] at k3
    split at k3
    · rename_i z
      subst z
      split at k3
      · cases k3
        have f := h.rows.row i p nx row s k1 k2 hi k4
        refine ⟨by rw [List.length_set]; exact f.rl, f.sl, fun x hx => ?_, f.nd⟩
        rcases List.mem_or_eq_of_mem_set hx with z | z
        · exact f.rpos x z
        · rw [z]; exact hr
      · cases k3
    · exact h.rows.row a p nx r' s k1 k2 k3 k4
  have h2 : w.put i k r = ⟨w.ps, w.rs.set i (row.set k r), w.ss⟩ := by unfold Web.put; rw [e]
  rw [h2]
  exact ⟨h.ps, h1, web_mk h.ps h.ok.n7 h1 (by rw [List.length_set]; exact h.ok.lr)⟩
theorem noTs_map {α : Type} {f : α → Tr} (h : ∀ x, (f x).noT = true) : ∀ xs : List α, Tr.noTs (xs.map f) = true
  | [] => by rw [List.map_nil, Tr.noTs]
  | x :: xs => by rw [List.map_cons, Tr.noTs, h x, noTs_map h xs]; rfl
theorem Web.noT (w : Web) : w.tr.noT = true := by
  unfold Web.tr
  rw [Tr.noT, Tr.noTs, Tr.noTs, Tr.noTs, Tr.noTs, Tr.noT, Tr.noT, Tr.noT, noTs_map (fun x => by rw [Tr.noT]), noTs_map (fun x => by unfold rowT; rw [Tr.noT, noTs_map (fun x => by rw [Tr.noT])]; rfl), noTs_map (fun x => by unfold stT; rw [Tr.noT, noTs_map (fun x => by rw [Tr.noT])]; rfl)]
  rfl
theorem slotQ_web {w : Web} {T : Tr} {D : Dt} (eT : T = w.tr) (eD : T.dt = D) : slotQ (some (some (.tr T))) = some D := by
  unfold slotQ
  simp only []
  rw [if_pos (by rw [eT]; exact w.noT), eD]
theorem Web.dt_eq (w : Web) : w.tr.dt = webD w.psD w.rsD w.ssD := w.tr_dt
theorem loose_ev {xs : List Dt} {d m : Int} (hx : BoxOk xs) (d1 : 1 ≤ d) (d7 : d ≤ 7) (m2 : 2 ≤ m) (m8 : m ≤ 8) {Q : Wt → List Wt → Prop} (q : ∀ (w : Web) ys, BoxOk ys → (w.ps.length : Int) = d → WebGood w → Q (.tr w.tr) [ys]) : EvF f__law_loose [.own xs, .sh (.int d), .sh (.int m)] Q := by
  refine ef_in rfl ?_
  unfold b__law_loose
  walk_at "w"
  refine fair_ev hx d1 d7 m2 m8 fun w ys hy hl hg _ => ?_
  obtain ⟨T, eT⟩ : ∃ T, T = w.tr := ⟨_, rfl⟩
  rw [← eT]
  walk_at "w"
  refine wo (range_z (n := w.ps.length - 1) (by omega) (by omega)) ?_
  walk_at "w"
  refine for_inv (fun ds ρ => ∃ (ys : List Dt) (w : Web) (T : Tr) (js : List Nat) (x4 x5 : Option Wt), BoxOk ys ∧ (w.ps.length : Int) = d ∧ WebGood w ∧ T = w.tr ∧ ds = js.map (fun i => Dt.int (i : Nat)) ∧ (∀ i ∈ js, i < w.rs.length) ∧ ρ = [some (.own ys), some (.sh (.int d)), some (.sh (.int m)), some (.tr T), x4, x5]) ?_ ?_ _ _ ⟨ys, w, T, List.range (w.ps.length - 1), none, none, hy, hl, hg, eT, rfl, fun i hi => by have := List.mem_range.mp hi; have := hg.ok.lr; omega, rfl⟩
  · rintro d0 ds ρ ⟨ys, w, T, js, x4, x5, hy, hl, hg, eT, e, hj, rfl⟩
    cases js with
    | nil => cases e
    | cons i js =>
      cases e
      have hi := hj i List.mem_cons_self
      obtain ⟨row, hrow⟩ : ∃ row, row = w.rs[i] := ⟨_, rfl⟩
      have er : w.rs[i]? = some row := by rw [hrow]; exact List.getElem?_eq_getElem hi
      have W := WD.mk_ w
      obtain ⟨PS, ePS⟩ : ∃ x, x = w.psD := ⟨_, rfl⟩
      obtain ⟨RS, eRS⟩ : ∃ x, x = w.rsD := ⟨_, rfl⟩
      obtain ⟨SS, eSS⟩ : ∃ x, x = w.ssD := ⟨_, rfl⟩
      have eD : T.dt = webD PS RS SS := by rw [eT, w.dt_eq, ePS, eRS, eSS]
      rw [← ePS, ← eRS, ← eSS] at W
      obtain ⟨R, z, g1, g2⟩ := W.ir (i : Nat) i row rfl er
      have h8 : row.length ≤ 8 := by
        have h1 := hg.ok.lr
        have ep : w.ps[i]? = some w.ps[i] := List.getElem?_eq_getElem (by omega)
        have := (hg.ok.row i _ ep).2
        have := hg.ok.rows i _ _ ep er
        omega
      walk_at "w"
      refine wo (slotQ_web eT eD) ?_
      walk_at "w"
      refine wo g1 ?_
      walk_at "w"
      refine wo g2.len ?_
      walk_at "w"
      refine wo (range_z (n := row.length) g2.z_ (by omega)) ?_
      walk_at "w"
      refine for_inv (fun ds ρ => ∃ (ys : List Dt) (w' : Web) (T : Tr) (row' : List Rat) (ks : List Nat) (x5 : Option Wt), BoxOk ys ∧ (w'.ps.length : Int) = d ∧ WebGood w' ∧ T = w'.tr ∧ w'.rs.length = w.rs.length ∧ w'.rs[i]? = some row' ∧ ds = ks.map (fun i => Dt.int (i : Nat)) ∧ (∀ k ∈ ks, k < row'.length) ∧ ρ = [some (.own ys), some (.sh (.int d)), some (.sh (.int m)), some (.tr T), some (.sh (.int (i : Nat))), x5]) ?_ ?_ _ _ ⟨ys, w, T, row, List.range row.length, x5, hy, hl, hg, eT, rfl, er, rfl, fun k hk => List.mem_range.mp hk, rfl⟩
      · rintro d1 ds1 ρ ⟨ys, w', T, row', ks, x5, hy, hl', hg', eT', el, er', e', hk, rfl⟩
        cases ks with
        | nil => cases e'
        | cons k ks =>
          cases e'
          have hkl := hk k List.mem_cons_self
          walk_at "w"
          refine take_ev hy (by decide) (sm_nat (by decide)) fun t ys t0 t1 hy => ?_
          walk_at "w"
          refine wd (fun e1 => ?_) (fun e1 => ?_)
          · walk_at "w"
            refine above_r hy (by decide) (by decide) fun r ys r1 r2 r3 hy => ?_
            walk_at "w"
            refine wo (fKey_rates rfl eT' rfl rfl (by omega)) ?_
            walk_at "w"
            refine wo (put_act rfl eT' er' rfl hkl) ?_
            obtain ⟨T2, eT2⟩ : ∃ T2, T2 = (w'.put i k r).tr := ⟨_, rfl⟩
            rw [← eT2]
            walk_at "w"
            refine ⟨ys, w'.put i k r, T2, row'.set k r, ks, _, hy, hl', hg'.put er' ⟨r1, (rb8 r1 r2 r3 (by decide)).mono (by decide)⟩, eT2, ?_, ?_, rfl, fun k hk' => by rw [List.length_set]; exact hk k (List.mem_cons_of_mem _ hk'), rfl⟩
            · show (w'.rs.set _ _).length = _
              rw [List.length_set, el]
            · show (w'.rs.set i _)[i]? = _
              rw [List.getElem?_set_self (by omega), List.getD, er']
              rfl
          · walk_at "w"
            exact ⟨ys, w', T, row', ks, _, hy, hl', hg', eT', el, er', rfl, fun k hk' => hk k (List.mem_cons_of_mem _ hk'), rfl⟩
      · rintro ρ ⟨ys, w', T, row', ks, x5, hy, hl', hg', eT', el, er', e', hk, rfl⟩
        exact ⟨ys, w', T, js, _, _, hy, hl', hg', eT', rfl, fun j hj' => by rw [el]; exact hj j (List.mem_cons_of_mem _ hj'), rfl⟩
  · rintro ρ ⟨ys, w, T, js, x4, x5, hy, hl, hg, eT, e, hj, rfl⟩
    walk_at "w"
    rw [eT]
    exact q w ys hy hl hg
theorem st_pls (n : Nat) (ss : List (List (Nat × Nat))) (h : ∀ r ∈ ss, r.length ≤ 1000) : Pls (n + 2) (ss.map stL) := Pls.map fun r hr => .lst _ (Pls.map fun p _ => .tup n (.cons (.int _ _) (.cons (.int _ _) (.nil _))) (Nat.le_of_ble_eq_true rfl)) (by rw [List.length_map]; exact h r hr)
theorem rimmed_ev {xs : List Dt} {w : Web} (hx : BoxOk xs) (hg : WebGood w) {Q : Wt → List Wt → Prop} (q : ∀ (w' : Web) ys, BoxOk ys → w'.ps = w.ps → WebGood w' → Q (.tr w'.tr) [ys]) : EvF f__law_rimmed [.own xs, .mt w.tr] Q := by
  obtain ⟨T, eT⟩ : ∃ T, T = w.tr := ⟨_, rfl⟩
  rw [← eT]
  have W := WD.mk_ w
  obtain ⟨PS, ePS⟩ : ∃ x, x = w.psD := ⟨_, rfl⟩
  obtain ⟨RS, eRS⟩ : ∃ x, x = w.rsD := ⟨_, rfl⟩
  obtain ⟨SS, eSS⟩ : ∃ x, x = w.ssD := ⟨_, rfl⟩
  obtain ⟨zp, ezp⟩ : ∃ x : Int, x = w.ps.length := ⟨_, rfl⟩
  obtain ⟨zs, ezs⟩ : ∃ x : Int, x = w.ss.length := ⟨_, rfl⟩
  have eD : T.dt = webD PS RS SS := by rw [eT, w.dt_eq, ePS, eRS, eSS]
  rw [← ePS, ← eRS, ← eSS, ← ezp, ← ezs] at W
  have O := hg.ok
  have hls := O.ls
  have h7 := O.n7
  have hS : dNe SS (.lst []) = some (.bl (!(w.ss.isEmpty))) := by
    rw [eSS]
    have : ∀ r ∈ w.ss, r.length ≤ 1000 := fun r hr => by
      obtain ⟨i, hi, e⟩ := List.getElem_of_mem hr
      have ep : w.ps[i]? = some w.ps[i] := List.getElem?_eq_getElem (by omega)
      have := (O.row i _ ep).2
      have := O.sows i _ _ ep (List.getElem?_eq_getElem hi)
      rw [e] at this
      omega
    rw [show w.ssD = .lst (w.ss.map stL) from rfl, neL_nil (st_pls 0 w.ss this) (by decide) (by rw [List.length_map]; omega)]
    cases w.ss <;> rfl
  refine ef_in rfl ?_
  unfold b__law_rimmed
  walk_at "w"
  refine wo (slotQ_web eT eD) ?_
  walk_at "w"
  refine wo hS ?_
  walk_at "w"
  refine wt (fun e => ?_) (fun e => ?_)
  · have h0 : 0 < w.ss.length := by
      cases h : w.ss with
      | nil => rw [h] at e; cases e
      | cons => simp
    walk_at "w"
    refine wo (slotQ_web eT eD) ?_
    walk_at "w"
    refine wo W.ls ?_
    walk_at "w"
    refine take_ev hx (m := zs) (by omega) (sm_nat (by omega)) fun i ys i0 i1 hy => ?_
    have es : w.ss[i.toNat]? = some w.ss[i.toNat] := List.getElem?_eq_getElem (by omega)
    have hlr := O.lr
    have er : w.rs[i.toNat]? = some w.rs[i.toNat] := List.getElem?_eq_getElem (by omega)
    have ep : w.ps[i.toNat]? = some w.ps[i.toNat] := List.getElem?_eq_getElem (by omega)
    have l8 := O.row _ _ ep
    have lr := O.rows _ _ _ ep er
    have ls := O.sows _ _ _ ep es
    obtain ⟨R, z, g1, g2⟩ := W.is_ i i.toNat _ (by omega) es
    have gz := g2.z_
    walk_at "w"
    refine wo (slotQ_web eT eD) ?_
    walk_at "w"
    refine wo g1 ?_
    walk_at "w"
    refine wo g2.len ?_
    walk_at "w"
    refine take_ev hy (m := z) (by omega) (sm_nat (by omega)) fun k ys k0 k1 hy => ?_
    obtain ⟨p, r, u, l, a, b, N, M⟩ := O.node es (k := k.toNat) (by omega)
    walk_at "w"
    refine wo (slotQ_web eT eD) ?_
    walk_at "w"
    refine ahead_ev W (by omega) (by omega) N ?_
    walk_at "w"
    refine take_ev hy (by decide) (sm_nat (by decide)) fun t ys t0 t1 hy => ?_
    obtain ⟨v, v1, v2, v3⟩ : ∃ v : Rat, dIx (.tup [amR u, amR l]) (.int t) = some (amR v) ∧ 0 < v ∧ RB 8 v := by
      have : t = 0 ∨ t = 1 := by omega
      rcases this with rfl | rfl
      · exact ⟨u, rfl, by have := M.l0; have := M.ul; grind, M.ub⟩
      · exact ⟨l, rfl, M.l0, M.lb⟩
    walk_at "w"
    refine wo v1 ?_
    walk_at "w"
    obtain ⟨rowp, a1, a2⟩ := N.hp
    obtain ⟨R1, z1, c1, c2⟩ := W.ip i i.toNat rowp (by omega) a1
    refine wo (slotQ_web eT eD) ?_
    walk_at "w"
    refine wo c1 ?_
    walk_at "w"
    refine wo (c2.ix k k.toNat _ (by omega) (by rw [a2]; rfl)) ?_
    walk_at "w"
    have p0 := M.p0
    refine law_share_of_r v3 M.pb (by grind) (by decide) ?_
    walk_at "w"
    have hq := v3.by M.pb (show p ≠ 0 by grind)
    have hq0 : 0 < v / p := by rw [Rat.div_def]; exact Rat.mul_pos v2 (Rat.inv_pos.mpr p0)
    refine wo (fKey_rates rfl eT rfl (i := i.toNat) (by omega) (by omega)) ?_
    walk_at "w"
    refine wo (put_act (k := k.toNat) rfl eT er (by omega) (by omega)) ?_
    obtain ⟨T2, eT2⟩ : ∃ T2, T2 = (w.put i.toNat k.toNat (v / p)).tr := ⟨_, rfl⟩
    rw [← eT2]
    walk_at "w"
    rw [eT2]
    exact q _ ys hy rfl (hg.put er ⟨hq0, hq.mono (by decide)⟩)
  · walk_at "w"
    rw [eT]
    exact q w _ hx rfl hg
end Lw
namespace Lw
open PySem PySem.Spec PyProof.Rows L2 RZ DL
local macro_rules | `(tactic| walk_at "sm") => `(tactic| first | assumption | exact sm_of (k := 200) (by omega) (by decide) | exact sm_of (k := 200) (by decide) (by decide))
local macro_rules | `(tactic| walk_at "w1") => `(tactic| ((conv => whnf); (try refine At.mk ?_)))
local macro_rules | `(tactic| walk_at "wa") => `(tactic| first
  | refine wox (ex_mul (Sm.mul (by walk_at "sm") (by walk_at "sm")) ?_)
  | refine wox (ex_mod (by first | decide | omega | assumption) ?_)
  | refine wox (ex_fdiv (Sm.div (by walk_at "sm") (by first | decide | omega | assumption)) ?_))
local macro_rules | `(tactic| walk_at "w") => `(tactic| ((first | refine nrm_go ?_ | refine WpS.ok ?_ | refine WpE.ok ?_ | skip); walk_at "w1"))
local macro_rules | `(tactic| walk_at "wm") => `(tactic| (walk_at "w"; (repeat (walk_at "wa"; walk_at "w1"))))
def b_look_shape : FS :=
  (sSeq (sIf (eOr (eNot (eChain dLe dLe (eC (.int 1)) (eCB dLen (aVal (eVar 0) aNil)) (eC (.int 7)))) (eNot (eChain dEq dEq (eCB dLen (aVal (eVar 1) aNil)) (eCB dLen (aVal (eVar 2) aNil)) (eOp dSub (eCB dLen (aVal (eVar 0) aNil)) (eC (.int 1)))))) (sRaise0 "BadShape" [("called", .str "BadShape")]) sNx)
    (sFor (iArgs enumO (aVal (eVar 0) aNil)) (gT 2 (gsCons (gN 3) (gsCons (gN 4) gsNil))) (sSeq (sIf (eNot (eChain dLe dLe (eC (.int 1)) (eCB dLen (aVal (eVar 4) aNil)) (eIte (eOp dEq (eVar 3) (eC (.int 0))) (eC (.int 1)) (eC (.int 8))))) (sRaise0 "BadShape" [("called", .str "BadShape")]) sNx)
    (sIf (eAnd (eOp dLt (eVar 3) (eCB dLen (aVal (eVar 1) aNil))) (eNot (eChain dEq dEq (eCB dLen (aVal (eOp dIx (eVar 1) (eVar 3)) aNil)) (eCB dLen (aVal (eOp dIx (eVar 2) (eVar 3)) aNil)) (eCB dLen (aVal (eVar 4) aNil))))) (sRaise0 "BadShape" [("called", .str "BadShape")]) sNx))))
abbrev f_look_shape : FnD := callF 5 [] b_look_shape
def b_look_above : FS :=
  (sFor (iArgs enumO (aVal (eVar 0) aNil)) (gT 2 (gsCons (gN 2) (gsCons (gN 3) gsNil))) (sFor (iArgs enumO (aVal (eVar 3) aNil)) (gT 2 (gsCons (gN 4) (gsCons (gT 2 (gsCons (gN 5) (gsCons (gN 6) gsNil))) gsNil))) (sSeq (sIf (eAnd (eOp dLe (eVar 5) (eC (.int 0))) (eVar 1)) sNone sNx)
    (sIf (eOp dLe (eVar 5) (eC (.int 0))) sNone sNx))))
abbrev f_look_above : FnD := callF 7 [] b_look_above
def b_look_steps (g_less : FnD) : FS :=
  (sFor (iArgs enumO (aVal (eVar 1) aNil)) (gT 2 (gsCons (gN 2) (gsCons (gN 3) gsNil))) (sSeq (sAsg 4 (wSh (eOp dIx (eVar 0) (eOp dAdd (eVar 2) (eC (.int 1))))))
    (sFor (iArgs enumO (aVal (eVar 3) aNil)) (gT 2 (gsCons (gN 5) (gsCons (gT 2 (gsCons (gN 6) (gsCons (gN 7) gsNil))) gsNil))) (sIf (eOr (eNot (eChain dLe dLt (eC (.int 0)) (eVar 6) (eCB dLen (aVal (eVar 4) aNil)))) (eOr (eNot (eChain dLe dLt (eC (.int 0)) (eVar 7) (eCB dLen (aVal (eVar 4) aNil)))) (eNot (eFrz (wCall 2 g_less (aVal (eOp dIx (eVar 4) (eVar 7)) (aVal (eOp dIx (eVar 4) (eVar 6)) aNil))))))) sNone sNx))))
abbrev f_look_steps : FnD := callF 8 [] (b_look_steps f_less)
def b_Lattice___init__ (g_look_shape g_look_above g_look_steps : FnD) : FS :=
  (sSeq (sDrop (wCall 3 g_look_shape (aVal (eVar 1) (aVal (eVar 2) (aVal (eVar 3) aNil)))))
    (sSeq (sDrop (wCall 2 g_look_above (aArr 1 1 [] [.inl 0, .inl 1] (aVal (eVar 1) aNil) (aVal (eC (.bl false)) aNil))))
    (sSeq (sDrop (wCall 2 g_look_above (aArr 1 1 [] [.inl 0, .inl 1] (aVal (eVar 2) aNil) (aVal (eC (.bl true)) aNil))))
    (sSeq (sDrop (wCall 2 g_look_steps (aVal (eVar 1) (aVal (eVar 3) aNil))))
    (sSeq (sFldS "Lattice" "prices" 0 (wSh (eFrz (wLc [4] (iSeq (eVar 1)) (gN 4) (eC (.bl true)) (eCB dListOf (aVal (eVar 4) aNil))))))
    (sSeq (sFldS "Lattice" "rates" 0 (wSh (eFrz (wLc [4] (iSeq (eVar 2)) (gN 4) (eC (.bl true)) (eCB dListOf (aVal (eVar 4) aNil))))))
    (sFldS "Lattice" "steps" 0 (wSh (eFrz (wLc [4] (iSeq (eVar 3)) (gN 4) (eC (.bl true)) (eFrz (wLc [5, 6] (iSeq (eVar 4)) (gT 2 (gsCons (gN 5) (gsCons (gN 6) gsNil))) (eC (.bl true)) (eTup (aVal (eVar 5) (aVal (eVar 6) aNil)))))))))))))))
abbrev f_Lattice___init__ : FnD := callF 7 [0] (b_Lattice___init__ f_look_shape f_look_above f_look_steps)
def b__law_web (g_Lattice___init__ : FnD) : FS :=
  (sRet (wMake "Lattice" 4 g_Lattice___init__ (aVal (eOp dGetD (eVar 0) (eC (.str "prices"))) (aVal (eOp dGetD (eVar 0) (eC (.str "rates"))) (aVal (eOp dGetD (eVar 0) (eC (.str "steps"))) aNil)))))
abbrev f__law_web : FnD := callF 1 [] (b__law_web f_Lattice___init__)
def enumR {α : Type} (f : α → Dt) : Nat → List α → List Dt
  | _, [] => []
  | o, x :: xs => .tup [.int (o : Nat), f x] :: enumR f (o + 1) xs
theorem enum_zip {α : Type} (f : α → Dt) : ∀ (xs : List α) (o : Nat), List.zipWith (fun (i : Nat) b => Dt.tup [.int i, b]) (List.range' o xs.length) (xs.map f) = enumR f o xs
  | [], o => rfl
  | x :: xs, o => by
    rw [List.length_cons, List.range'_succ, List.map_cons, List.zipWith_cons_cons, enum_zip f xs (o + 1)]
    rfl
theorem enum_map {α : Type} (f : α → Dt) (xs : List α) : enumO [.lst (xs.map f)] = some (enumR f 0 xs) := by
  show some (enumD _) = _
  unfold enumD
  rw [List.length_map, List.range_eq_range', enum_zip]
theorem at_done {α : Type} {xs ds rs : List α} {x : α} (e : ds ++ x :: rs = xs) : xs[ds.length]? = some x := by
  subst e
  simp
section
variable {w : Web} {Q : Wt → List Wt → Prop}
theorem look_shape_ev (O : WebOk w) (q : Q (.sh .non) []) : EvF f_look_shape [.sh w.psD, .sh w.rsD, .sh w.ssD] Q := by
  have W := WD.mk_ w
  obtain ⟨zp, hzp⟩ : ∃ z : Int, z = w.ps.length := ⟨_, rfl⟩
  obtain ⟨zr, hzr⟩ : ∃ z : Int, z = w.rs.length := ⟨_, rfl⟩
  obtain ⟨zs, hzs⟩ : ∃ z : Int, z = w.ss.length := ⟨_, rfl⟩
  have lp : dLen [w.psD] = some (.int zp) := by rw [hzp]; exact W.lp
  have ls : dLen [w.ssD] = some (.int zs) := by rw [hzs]; exact W.ls
  have lr : dLen [w.rsD] = some (.int zr) := by rw [hzr]; show some (Dt.int ((w.rs.map amL).length : Nat)) = _; rw [List.length_map]
  have en : enumO [w.psD] = some (enumR amL 0 w.ps) := enum_map amL w.ps
  have ir := W.ir
  have is_ := W.is_
  have o1 := O.n1
  have o2 := O.n7
  have o3 := O.lr
  have o4 := O.ls
  generalize w.psD = PS at *
  generalize w.rsD = RS at *
  generalize w.ssD = SS at *
  refine ef_in rfl ?_
  unfold b_look_shape
  walk_at "w"
  refine wo lp ?_
  walk_at "w"
  refine wtt (decide_eq_true (by omega)) ?_
  walk_at "w"
  refine wnf (decide_eq_true (by omega)) ?_
  walk_at "w"
  refine wo lr ?_
  walk_at "w"
  refine wo ls ?_
  walk_at "w"
  refine wtt (decide_eq_true (by omega)) ?_
  walk_at "w"
  refine wo lp ?_
  walk_at "w"
  refine wnf (decide_eq_true (by omega)) ?_
  walk_at "w"
  refine wo en ?_
  walk_at "w"
  refine for_inv (fun ds ρ => ∃ (dn rs : List (List Rat)) (x3 x4 : Option Wt), ds = enumR amL dn.length rs ∧ dn ++ rs = w.ps ∧ ρ = [some (.sh PS), some (.sh RS), some (.sh SS), x3, x4]) ?_ ?_ _ _ ⟨[], w.ps, none, none, rfl, rfl, rfl⟩
  · rintro d ds ρ ⟨dn, rs, x3, x4, e, ea, rfl⟩
    cases rs with
    | nil => cases e
    | cons x rs =>
      cases e
      have hx := at_done ea
      have h8 := O.row _ _ hx
      have h0 := O.one
      obtain ⟨z, hz⟩ : ∃ z : Int, z = x.length := ⟨_, rfl⟩
      have hl : dLen [amL x] = some (.int z) := by rw [hz]; show some (Dt.int ((x.map amR).length : Nat)) = _; rw [List.length_map]
      have fin : ∀ (y3 y4 : Option Wt), ∃ (dn' rs' : List (List Rat)) (x3 x4 : Option Wt), enumR amL (dn.length + 1) rs = enumR amL dn'.length rs' ∧ dn' ++ rs' = w.ps ∧ ([some (.sh PS), some (.sh RS), some (.sh SS), y3, y4] : Rho) = [some (.sh PS), some (.sh RS), some (.sh SS), x3, x4] := fun y3 y4 => ⟨dn ++ [x], rs, y3, y4, by rw [List.length_append]; rfl, by simpa using ea, rfl⟩
      obtain ⟨zi, hzi⟩ : ∃ z : Int, z = dn.length := ⟨_, rfl⟩
      rw [← hzi]
      have hi2 : dn.length < w.ps.length := (List.getElem?_eq_some_iff.mp hx).1
      have h1 : zi = 0 → x.length = 1 := fun e => h0 x (by rw [show (0 : Nat) = dn.length by omega]; exact hx)
      have hr : zi < zr → ∃ Ra za Rb zb, dIx RS (.int zi) = some Ra ∧ dLen [Ra] = some (.int za) ∧ dIx SS (.int zi) = some Rb ∧ dLen [Rb] = some (.int zb) ∧ za = z ∧ zb = z := fun e => by
        have er : w.rs[dn.length]? = some w.rs[dn.length] := List.getElem?_eq_getElem (by omega)
        have es : w.ss[dn.length]? = some w.ss[dn.length] := List.getElem?_eq_getElem (by omega)
        have k1 := O.rows _ _ _ hx er
        have k2 := O.sows _ _ _ hx es
        obtain ⟨Ra, za, a1, a2⟩ := ir zi dn.length _ hzi er
        obtain ⟨Rb, zb, b1, b2⟩ := is_ zi dn.length _ hzi es
        have a3 := a2.z_
        have b3 := b2.z_
        exact ⟨Ra, za, Rb, zb, a1, a2.len, b1, b2.len, by omega, by omega⟩
      generalize amL x = R at *
      walk_at "w"
      refine wo hl ?_
      walk_at "w"
      refine wtt (decide_eq_true (by omega)) ?_
      walk_at "w"
      refine wd (fun e0 => ?_) (fun e0 => ?_)
      all_goals
        walk_at "w"
        refine wnf (decide_eq_true (by first | (have := h1 e0; omega) | omega)) ?_
        walk_at "w"
        refine wo lr ?_
        walk_at "w"
        refine wd (fun e1 => ?_) (fun e1 => ?_)
        · obtain ⟨Ra, za, Rb, zb, a1, a2, b1, b2, c1, c2⟩ := hr e1
          walk_at "w"
          refine wo a1 ?_
          walk_at "w"
          refine wo a2 ?_
          walk_at "w"
          refine wo b1 ?_
          walk_at "w"
          refine wo b2 ?_
          walk_at "w"
          refine wtt (decide_eq_true (by omega)) ?_
          walk_at "w"
          refine wo hl ?_
          walk_at "w"
          refine wnf (decide_eq_true (by omega)) ?_
          walk_at "w"
          exact fin _ _
        · walk_at "w"
          exact fin _ _
  · rintro ρ ⟨dn, rs, x3, x4, e, ea, rfl⟩
    walk_at "w"
    exact q
theorem look_above_ev {pss : List (List Rat)} (b : Bool) (h : ∀ row ∈ pss, ∀ p ∈ row, 0 < p) (q : Q (.sh .non) []) : EvF f_look_above [.sh (.lst (pss.map amL)), .sh (.bl b)] Q := by
  have en : enumO [.lst (pss.map amL)] = some (enumR amL 0 pss) := enum_map amL pss
  generalize Dt.lst (pss.map amL) = PS at *
  refine ef_in rfl ?_
  unfold b_look_above
  walk_at "w"
  refine wo en ?_
  walk_at "w"
  refine for_inv (fun ds ρ => ∃ (dn rs : List (List Rat)) (x2 x3 x4 x5 x6 : Option Wt), ds = enumR amL dn.length rs ∧ dn ++ rs = pss ∧ ρ = [some (.sh PS), some (.sh (.bl b)), x2, x3, x4, x5, x6]) ?_ ?_ _ _ ⟨[], pss, none, none, none, none, none, rfl, rfl, rfl⟩
  · rintro d ds ρ ⟨dn, rs, x2, x3, x4, x5, x6, e, ea, rfl⟩
    cases rs with
    | nil => cases e
    | cons x rs =>
      cases e
      have hx : x ∈ pss := by rw [← ea]; simp
      have en2 : enumO [amL x] = some (enumR amR 0 x) := enum_map amR x
      obtain ⟨zi, hzi⟩ : ∃ z : Int, z = dn.length := ⟨_, rfl⟩
      rw [← hzi]
      generalize amL x = R at *
      walk_at "w"
      refine wo en2 ?_
      walk_at "w"
      refine for_inv (fun ds' ρ => ∃ (dn' rs' : List Rat) (x4 x5 x6 : Option Wt), ds' = enumR amR dn'.length rs' ∧ dn' ++ rs' = x ∧ ρ = [some (.sh PS), some (.sh (.bl b)), some (.sh (.int zi)), some (.sh R), x4, x5, x6]) ?_ ?_ _ _ ⟨[], x, x4, x5, x6, rfl, rfl, rfl⟩
      · rintro d' ds' ρ ⟨dn', rs', x4, x5, x6, e', ea', rfl⟩
        cases rs' with
        | nil => cases e'
        | cons p rs' =>
          cases e'
          have hp : p ∈ x := by rw [← ea']; simp
          have hp0 := num_gt0.mpr (h x hx p hp)
          obtain ⟨zn, hzn⟩ : ∃ z : Int, z = p.num := ⟨_, rfl⟩
          obtain ⟨zd, hzd⟩ : ∃ z : Int, z = (p.den : Int) := ⟨_, rfl⟩
          rw [show amR p = .tup [.int zn, .int zd] by rw [hzn, hzd]; rfl]
          walk_at "w"
          refine wtf (decide_eq_false (by omega)) ?_
          walk_at "w"
          refine wtf (decide_eq_false (by omega)) ?_
          walk_at "w"
          exact ⟨dn' ++ [p], rs', _, _, _, by rw [List.length_append]; rfl, by simpa using ea', rfl⟩
      · rintro ρ ⟨dn', rs', x4, x5, x6, e', ea', rfl⟩
        exact ⟨dn ++ [x], rs, _, _, _, _, _, by rw [List.length_append]; rfl, by simpa using ea, rfl⟩
  · rintro ρ ⟨dn, rs, x2, x3, x4, x5, x6, e, ea, rfl⟩
    walk_at "w"
    exact q
theorem look_steps_ev (O : WebOk w) (q : Q (.sh .non) []) : EvF f_look_steps [.sh w.psD, .sh w.ssD] Q := by
  have W := WD.mk_ w
  have en : enumO [w.ssD] = some (enumR stL 0 w.ss) := enum_map stL w.ss
  have ip := W.ip
  generalize w.psD = PS at *
  generalize w.ssD = SS at *
  refine ef_in rfl ?_
  unfold b_look_steps
  walk_at "w"
  refine wo en ?_
  walk_at "w"
  refine for_inv (fun ds ρ => ∃ (dn rs : List (List (Nat × Nat))) (x2 x3 x4 x5 x6 x7 : Option Wt), ds = enumR stL dn.length rs ∧ dn ++ rs = w.ss ∧ ρ = [some (.sh PS), some (.sh SS), x2, x3, x4, x5, x6, x7]) ?_ ?_ _ _ ⟨[], w.ss, none, none, none, none, none, none, rfl, rfl, rfl⟩
  · rintro d ds ρ ⟨dn, rs, x2, x3, x4, x5, x6, x7, e, ea, rfl⟩
    cases rs with
    | nil => cases e
    | cons x rs =>
      cases e
      have hx := at_done ea
      have en2 : enumO [stL x] = some (enumR stD 0 x) := enum_map stD x
      have hil : dn.length < w.ss.length := (List.getElem?_eq_some_iff.mp hx).1
      have o4 := O.ls
      have ep : w.ps[dn.length + 1]? = some w.ps[dn.length + 1] := List.getElem?_eq_getElem (by omega)
      obtain ⟨zi, hzi⟩ : ∃ z : Int, z = dn.length := ⟨_, rfl⟩
      obtain ⟨R4, z4, f1, f2⟩ := ip (zi + 1) (dn.length + 1) _ (by omega) ep
      have f3 := f2.z_
      rw [← hzi]
      generalize stL x = R at *
      walk_at "w"
      refine wo f1 ?_
      walk_at "w"
      refine wo en2 ?_
      walk_at "w"
      refine for_inv (fun ds' ρ => ∃ (dn' rs' : List (Nat × Nat)) (x5 x6 x7 : Option Wt), ds' = enumR stD dn'.length rs' ∧ dn' ++ rs' = x ∧ ρ = [some (.sh PS), some (.sh SS), some (.sh (.int zi)), some (.sh R), some (.sh R4), x5, x6, x7]) ?_ ?_ _ _ ⟨[], x, x5, x6, x7, rfl, rfl, rfl⟩
      · rintro d' ds' ρ ⟨dn', rs', x5, x6, x7, e', ea', rfl⟩
        cases rs' with
        | nil => cases e'
        | cons s rs' =>
          cases e'
          have hs : s ∈ x := by rw [← ea']; simp
          obtain ⟨row, u, l, e1, e2, e3, e4⟩ := O.nd _ _ hx s hs
          rw [ep] at e1
          cases e1
          have q3 := O.pos _ _ ep u (List.mem_of_getElem? e2)
          have q4 := O.pos _ _ ep l (List.mem_of_getElem? e3)
          have l1 := (List.getElem?_eq_some_iff.mp e2).1
          have l2 := (List.getElem?_eq_some_iff.mp e3).1
          obtain ⟨za, hza⟩ : ∃ z : Int, z = s.1 := ⟨_, rfl⟩
          obtain ⟨zb, hzb⟩ : ∃ z : Int, z = s.2 := ⟨_, rfl⟩
          rw [show stD s = .tup [.int za, .int zb] by rw [hza, hzb]; rfl]
          walk_at "w"
          refine wtt (decide_eq_true (by omega)) ?_
          walk_at "w"
          refine wo f2.len ?_
          walk_at "w"
          refine wnf (decide_eq_true (by omega)) ?_
          walk_at "w"
          refine wtt (decide_eq_true (by omega)) ?_
          walk_at "w"
          refine wo f2.len ?_
          walk_at "w"
          refine wnf (decide_eq_true (by omega)) ?_
          walk_at "w"
          refine wo (f2.ix _ s.2 _ hzb (by rw [e3]; rfl)) ?_
          walk_at "w"
          refine wo (f2.ix _ s.1 _ hza (by rw [e2]; rfl)) ?_
          walk_at "w"
          refine less_r q4.2 q3.2 (by decide) (by decide) ?_
          walk_at "w"
          refine wnf (decide_eq_true e4) ?_
          walk_at "w"
          exact ⟨dn' ++ [s], rs', _, _, _, by rw [List.length_append]; rfl, by simpa using ea', rfl⟩
      · rintro ρ ⟨dn', rs', x5, x6, x7, e', ea', rfl⟩
        exact ⟨dn ++ [x], rs, _, _, _, _, _, _, by rw [List.length_append]; rfl, by simpa using ea, rfl⟩
  · rintro ρ ⟨dn, rs, x2, x3, x4, x5, x6, x7, e, ea, rfl⟩
    walk_at "w"
    exact q
def latT (PS RS SS : Dt) : Tr := .nd (.ob "Lattice" ["prices", "rates", "steps"]) [.sh PS, .sh RS, .sh SS]
theorem latT_dt (PS RS SS : Dt) : (latT PS RS SS).dt = objD PS RS SS := by
  unfold latT
  rw [Tr.dt, Tr.dts, Tr.dts, Tr.dts, Tr.dts, Tr.dt, Tr.dt, Tr.dt]
  rfl
/-- [list(row) for row in rows] -/
theorem copy_lc {rows : List (List Rat)} (hl : rows.length ≤ 1000) {c0 c1 c2 c3 c5 c6 : Option Wt} {QQ : List Dt → Rho → Prop} (q : QQ (rows.map amL) [c0, c1, c2, c3, none, c5, c6]) :
    EvL [4] (gN 4) (eC (.bl true)) (eCB dListOf (aVal (eVar 4) aNil)) (rows.map amL) [c0, c1, c2, c3, none, c5, c6] [] QQ := by
  refine lc_inv (fun ds ρ acc => ∃ (dn rs : List (List Rat)), ds = rs.map amL ∧ acc = dn.map amL ∧ dn ++ rs = rows ∧ ρ = [c0, c1, c2, c3, none, c5, c6]) ?_ ?_ _ _ _ ⟨[], rows, rfl, rfl, rfl, rfl⟩
  · rintro d ds ρ acc ⟨dn, rs, e1, rfl, e, rfl⟩
    cases rs with
    | nil => cases e1
    | cons x rs =>
      cases e1
      have hlen : (dn.map amL).length < 100000 := by
        rw [List.length_map]
        have := congrArg List.length e
        rw [List.length_append] at this
        omega
      have hd : dListOf [amL x] = some (amL x) := rfl
      obtain ⟨R, eR⟩ : ∃ R, R = amL x := ⟨_, rfl⟩
      rw [← eR] at hd ⊢
      walk_at "w"
      refine wo hd ?_
      walk_at "w"
      exact ⟨hlen, dn ++ [x], rs, rfl, by rw [List.map_append, eR]; rfl, by rw [List.append_assoc]; exact e, rfl⟩
  · rintro ρ acc ⟨dn, rs, e1, rfl, e, rfl⟩
    cases rs with
    | cons x rs => cases e1
    | nil => rw [List.append_nil] at e; subst e; exact q
/-- [(up, down) for up, down in row] -/
theorem pairs_lc {row : List (Nat × Nat)} (hl : row.length ≤ 1000) {c0 c1 c2 c3 c4 : Option Wt} {QQ : List Dt → Rho → Prop} (q : QQ (row.map stD) [c0, c1, c2, c3, c4, none, none]) :
    EvL [5, 6] (gT 2 (gsCons (gN 5) (gsCons (gN 6) gsNil))) (eC (.bl true)) (eTup (aVal (eVar 5) (aVal (eVar 6) aNil))) (row.map stD) [c0, c1, c2, c3, c4, none, none] [] QQ := by
  refine lc_inv (fun ds ρ acc => ∃ (dn rs : List (Nat × Nat)), ds = rs.map stD ∧ acc = dn.map stD ∧ dn ++ rs = row ∧ ρ = [c0, c1, c2, c3, c4, none, none]) ?_ ?_ _ _ _ ⟨[], row, rfl, rfl, rfl, rfl⟩
  · rintro d ds ρ acc ⟨dn, rs, e1, rfl, e, rfl⟩
    cases rs with
    | nil => cases e1
    | cons x rs =>
      cases e1
      have hlen : (dn.map stD).length < 100000 := by
        rw [List.length_map]
        have := congrArg List.length e
        rw [List.length_append] at this
        omega
      walk_at "w"
      exact ⟨hlen, dn ++ [x], rs, rfl, by rw [List.map_append]; rfl, by rw [List.append_assoc]; exact e, rfl⟩
  · rintro ρ acc ⟨dn, rs, e1, rfl, e, rfl⟩
    cases rs with
    | cons x rs => cases e1
    | nil => rw [List.append_nil] at e; subst e; exact q
theorem copy2_lc {rows : List (List (Nat × Nat))} (hl : rows.length ≤ 1000) (h : ∀ r ∈ rows, r.length ≤ 1000) {c0 c1 c2 c3 : Option Wt} {QQ : List Dt → Rho → Prop} (q : QQ (rows.map stL) [c0, c1, c2, c3, none, none, none]) :
    EvL [4] (gN 4) (eC (.bl true)) (eFrz (wLc [5, 6] (iSeq (eVar 4)) (gT 2 (gsCons (gN 5) (gsCons (gN 6) gsNil))) (eC (.bl true)) (eTup (aVal (eVar 5) (aVal (eVar 6) aNil))))) (rows.map stL) [c0, c1, c2, c3, none, none, none] [] QQ := by
  refine lc_inv (fun ds ρ acc => ∃ (dn rs : List (List (Nat × Nat))), ds = rs.map stL ∧ acc = dn.map stL ∧ dn ++ rs = rows ∧ ρ = [c0, c1, c2, c3, none, none, none]) ?_ ?_ _ _ _ ⟨[], rows, rfl, rfl, rfl, rfl⟩
  · rintro d ds ρ acc ⟨dn, rs, e1, rfl, e, rfl⟩
    cases rs with
    | nil => cases e1
    | cons x rs =>
      cases e1
      have hlen : (dn.map stL).length < 100000 := by
        rw [List.length_map]
        have := congrArg List.length e
        rw [List.length_append] at this
        omega
      have hd : iterD (stL x) = some (x.map stD) := rfl
      have hx : stL x = .lst (x.map stD) := rfl
      obtain ⟨R, eR⟩ : ∃ R, R = stL x := ⟨_, rfl⟩
      rw [← eR] at hd hx ⊢
      walk_at "w"
      refine wo hd ?_
      walk_at "w"
      refine pairs_lc (h x (by rw [← e]; simp)) ?_
      walk_at "w"
      rw [← hx]
      exact ⟨hlen, dn ++ [x], rs, rfl, by rw [List.map_append, eR]; rfl, by rw [List.append_assoc]; exact e, rfl⟩
  · rintro ρ acc ⟨dn, rs, e1, rfl, e, rfl⟩
    cases rs with
    | cons x rs => cases e1
    | nil => rw [List.append_nil] at e; subst e; exact q
theorem init_ev (O : WebOk w) (q : Q (.sh .non) [.tr (latT w.psD w.rsD w.ssD)]) : EvF f_Lattice___init__ [.tr (.nd (.ob "Lattice" []) []), .sh w.psD, .sh w.rsD, .sh w.ssD] Q := by
  have hl := O.n7
  have h1 := look_shape_ev O (Q := fun w cs => w = .sh .non ∧ cs = []) ⟨rfl, rfl⟩
  have h2 := look_above_ev (pss := w.ps) false (fun row hr p hp => by
    obtain ⟨i, hi, e⟩ := List.getElem_of_mem hr
    exact (O.pos i row (by rw [← e]; exact List.getElem?_eq_getElem hi) p hp).1) (Q := fun w cs => w = .sh .non ∧ cs = []) ⟨rfl, rfl⟩
  have h3 := look_above_ev (pss := w.rs) true (fun row hr p hp => by
    obtain ⟨i, hi, e⟩ := List.getElem_of_mem hr
    exact (O.rpos i row (by rw [← e]; exact List.getElem?_eq_getElem hi) p hp).1) (Q := fun w cs => w = .sh .non ∧ cs = []) ⟨rfl, rfl⟩
  have h4 := look_steps_ev O (Q := fun w cs => w = .sh .non ∧ cs = []) ⟨rfl, rfl⟩
  have i1 : iterD w.psD = some (w.ps.map amL) := rfl
  have i2 : iterD w.rsD = some (w.rs.map amL) := rfl
  have i3 : iterD w.ssD = some (w.ss.map stL) := rfl
  have e1 : w.psD = .lst (w.ps.map amL) := rfl
  have e2 : w.rsD = .lst (w.rs.map amL) := rfl
  have e3 : w.ssD = .lst (w.ss.map stL) := rfl
  have hlr := O.lr
  have hls := O.ls
  rw [← e1] at h2
  rw [← e2] at h3
  obtain ⟨PS, ePS⟩ : ∃ x, x = w.psD := ⟨_, rfl⟩
  obtain ⟨RS, eRS⟩ : ∃ x, x = w.rsD := ⟨_, rfl⟩
  obtain ⟨SS, eSS⟩ : ∃ x, x = w.ssD := ⟨_, rfl⟩
  rw [← ePS] at i1 e1
  rw [← eRS] at i2 e2
  rw [← eSS] at i3 e3
  rw [← ePS, ← eRS, ← eSS] at h1 q ⊢
  rw [← ePS] at h2
  rw [← eRS] at h3
  rw [← ePS, ← eSS] at h4
  refine ef_in rfl ?_
  unfold b_Lattice___init__
  walk_at "w"
  refine h1.imp ?_
  rintro _ _ ⟨rfl, rfl⟩
  walk_at "w"
  refine h2.imp ?_
  rintro _ _ ⟨rfl, rfl⟩
  walk_at "w"
  refine h3.imp ?_
  rintro _ _ ⟨rfl, rfl⟩
  walk_at "w"
  refine h4.imp ?_
  rintro _ _ ⟨rfl, rfl⟩
  walk_at "w"
  refine wo i1 ?_
  walk_at "w"
  refine copy_lc (by omega) ?_
  walk_at "w"
  rw [← e1]
  refine wo i2 ?_
  walk_at "w"
  refine copy_lc (by omega) ?_
  walk_at "w"
  rw [← e2]
  refine wo i3 ?_
  walk_at "w"
  refine copy2_lc (by omega) (fun r hr => by
    obtain ⟨i, hi, e⟩ := List.getElem_of_mem hr
    have ep : w.ps[i]? = some w.ps[i] := List.getElem?_eq_getElem (by omega)
    have := (O.row i _ ep).2
    have := O.sows i _ _ ep (List.getElem?_eq_getElem hi)
    rw [e] at this
    omega) ?_
  walk_at "w"
  rw [← e3]
  exact q
theorem web_ev (O : WebOk w) (q : Q (.tr (latT w.psD w.rsD w.ssD)) []) : EvF f__law_web [.sh (webD w.psD w.rsD w.ssD)] Q := by
  have h1 := init_ev O (Q := fun v cs => v = .sh .non ∧ cs = [.tr (latT w.psD w.rsD w.ssD)]) ⟨rfl, rfl⟩
  obtain ⟨PS, ePS⟩ : ∃ x, x = w.psD := ⟨_, rfl⟩
  obtain ⟨RS, eRS⟩ : ∃ x, x = w.rsD := ⟨_, rfl⟩
  obtain ⟨SS, eSS⟩ : ∃ x, x = w.ssD := ⟨_, rfl⟩
  rw [← ePS, ← eRS, ← eSS] at h1 q ⊢
  refine ef_in rfl ?_
  unfold b__law_web
  walk_at "w"
  refine h1.imp ?_
  rintro _ _ ⟨rfl, rfl⟩
  walk_at "w"
  exact q
end
end Lw
namespace Lw
open PySem PySem.Spec PyProof.Rows L2 RZ DL
local macro_rules | `(tactic| walk_at "sm") => `(tactic| first | assumption | exact sm_of (k := 200) (by omega) (by decide) | exact sm_of (k := 200) (by decide) (by decide))
local macro_rules | `(tactic| walk_at "w1") => `(tactic| ((conv => whnf); (try refine At.mk ?_)))
local macro_rules | `(tactic| walk_at "wa") => `(tactic| first
  | refine wox (ex_mul (Sm.mul (by walk_at "sm") (by walk_at "sm")) ?_)
  | refine wox (ex_mod (by first | decide | omega | assumption) ?_)
  | refine wox (ex_fdiv (Sm.div (by walk_at "sm") (by first | decide | omega | assumption)) ?_))
local macro_rules | `(tactic| walk_at "w") => `(tactic| ((first | refine nrm_go ?_ | refine WpS.ok ?_ | refine WpE.ok ?_ | skip); walk_at "w1"))
local macro_rules | `(tactic| walk_at "wm") => `(tactic| (walk_at "w"; (repeat (walk_at "wa"; walk_at "w1"))))
def b_law (g__law_box g__law_take g__law_fair g__law_loose g__law_rimmed g__law_web g__law_same g__law_win g_Lattice_win g__law_weight g_Lattice_share : FnD) : FS :=
  (sSeq (sAsg 1 (wCall 1 g__law_box (aVal (eVar 0) aNil)))
    (sSeq (sFor (iArgs rangeD (aVal (eC (.int 3)) aNil)) (gN 2) (sSeq (sPar 3 4 (aVal (eOp dAdd (eC (.int 1)) (eFrz (wCall 2 g__law_take (aSlot 1 (aVal (eC (.int 7)) aNil))))) (aVal (eOp dAdd (eC (.int 2)) (eFrz (wCall 2 g__law_take (aSlot 1 (aVal (eC (.int 7)) aNil))))) aNil)))
    (sSeq (sAsg 5 (wIte (eOp dEq (eFrz (wCall 2 g__law_take (aSlot 1 (aVal (eC (.int 2)) aNil)))) (eC (.int 0))) (wCall 3 g__law_fair (aSlot 1 (aVal (eVar 3) (aVal (eVar 4) aNil)))) (wCall 3 g__law_loose (aSlot 1 (aVal (eVar 3) (aVal (eVar 4) aNil))))))
    (sSeq (sIf (eOp dEq (eFrz (wCall 2 g__law_take (aSlot 1 (aVal (eC (.int 3)) aNil)))) (eC (.int 0))) (sAsg 5 (wCall 2 g__law_rimmed (aSlot 1 (aTmp (wCall 3 g__law_fair (aSlot 1 (aVal (eVar 3) (aVal (eVar 4) aNil)))))))) sNx)
    (sSeq (sAsg 6 (wCall 1 g__law_web (aVal (eVar 5) aNil)))
    (sSeq (sFor (iArgs rangeD (aVal (eC (.int 2)) aNil)) (gN 7) (sIf (eNot (eFrz (wCall 2 g__law_same (aVal (eFrz (wMeth "Lattice" "win" 1 g_Lattice_win (eVar 6) aNil)) (aVal (eFrz (wCall 1 g__law_win (aVal (eVar 5) aNil))) aNil))))) (sRet (wSh (eC (.bl false)))) sNx))
    (sFor (iArgs rangeD (aVal (eCB dLen (aVal (eOp dGetD (eVar 5) (eC (.str "steps"))) aNil)) aNil)) (gN 8) (sFor (iArgs rangeD (aVal (eCB dLen (aVal (eOp dIx (eOp dGetD (eVar 5) (eC (.str "steps"))) (eVar 8)) aNil)) aNil)) (gN 9) (sIf (eNot (eFrz (wCall 2 g__law_same (aVal (eFrz (wMeth "Lattice" "share" 3 g_Lattice_share (eVar 6) (aVal (eVar 8) (aVal (eVar 9) aNil)))) (aVal (eFrz (wCall 3 g__law_weight (aVal (eVar 5) (aVal (eVar 8) (aVal (eVar 9) aNil))))) aNil))))) (sRet (wSh (eC (.bl false)))) sNx)))))))))
    (sRet (wSh (eC (.bl true))))))
abbrev f_law : FnD := callF 10 [] (b_law f__law_box f__law_take f__law_fair f__law_loose f__law_rimmed f__law_web f__law_same f__law_win f_Lattice_win f__law_weight f_Lattice_share)
theorem firstO_some {α : Type} {f : α → Option Dt} {d : Dt} : ∀ {l : List α}, firstO f l = some d → ∃ a ∈ l, f a = some d
  | [], h => by cases h
  | a :: l, h => by
    unfold firstO at h
    cases e : f a with
    | some x =>
      rw [e] at h
      exact ⟨a, by simp, by rw [e]; exact h⟩
    | none =>
      rw [e] at h
      obtain ⟨b, hb, e⟩ := firstO_some h
      exact ⟨b, by simp [hb], e⟩
theorem winD_same (w : Web) (n : Nat) : Same1 (n + 2) w.winD := by
  unfold Web.winD
  cases e : w.winO with
  | none => exact .non _
  | some d =>
    obtain ⟨i, _, e⟩ := firstO_some e
    obtain ⟨k, _, e⟩ := firstO_some e
    unfold Web.wn wnO at e
    split at e
    · cases e
      exact .tup _ (.cons (.int _ _) (.cons (.int _ _) (.cons (same_amt n _) (.cons (same_amt n _) (.nil _))))) (Nat.le_of_ble_eq_true rfl)
    · split at e
      · cases e
        exact .tup _ (.cons (.int _ _) (.cons (.int _ _) (.cons (same_amt n _) (.cons (same_amt n _) (.nil _))))) (Nat.le_of_ble_eq_true rfl)
      · cases e
theorem law_eq (ns : List Int) (hl : ns.length ≤ 63) : f_law [.sh (.scr ns)] = some (.ok (.sh (.bl true)), []) := by
  refine fn_eq (ef_in rfl ?_)
  unfold b_law
  walk_at "w"
  refine box_ev hl fun xs hx => ?_
  walk_at "w"
  refine for_inv (fun _ ρ => ∃ (ys : List Dt) (x2 x3 x4 x5 x6 x7 x8 x9 : Option Wt), ρ = [some (.sh (.scr ns)), some (.own ys), x2, x3, x4, x5, x6, x7, x8, x9] ∧ BoxOk ys) ?_ ?_ _ _ ⟨xs, none, none, none, none, none, none, none, none, rfl, hx⟩
  · rintro d ds ρ ⟨ys, x2, x3, x4, x5, x6, x7, x8, x9, rfl, hy⟩
    walk_at "w"
    refine take_ev hy (by decide) (sm_nat (by decide)) fun a ys a0 a1 hy => ?_
    walk_at "w"
    refine take_ev hy (by decide) (sm_nat (by decide)) fun b ys b0 b1 hy => ?_
    walk_at "w"
    refine take_ev hy (by decide) (sm_nat (by decide)) fun c ys c0 c1 hy => ?_
    walk_at "w"
    refine cutW (fun v ρ => ∃ (ys : List Dt) (w : Web) (T : Tr), BoxOk ys ∧ WebGood w ∧ T = w.tr ∧ v = .tr T ∧ ρ = [some (.sh (.scr ns)), some (.own ys), some (.sh d), some (.sh (.int (1 + a))), some (.sh (.int (2 + b))), x5, x6, x7, x8, x9]) ?_ ?_
    · refine wd (fun e => ?_) (fun e => ?_)
      · walk_at "w"
        refine fair_ev hy (by omega) (by omega) (by omega) (by omega) fun w ys hy _ hg _ => ?_
        exact ⟨ys, w, _, hy, hg, rfl, rfl, rfl⟩
      · walk_at "w"
        refine loose_ev hy (by omega) (by omega) (by omega) (by omega) fun w ys hy _ hg => ?_
        exact ⟨ys, w, _, hy, hg, rfl, rfl, rfl⟩
    rintro _ _ ⟨ys, w, T, hy, hg, eT, rfl, rfl⟩
    walk_at "w"
    refine take_ev hy (by decide) (sm_nat (by decide)) fun t ys t0 t1 hy => ?_
    walk_at "w"
    refine cutS (fun ρ => ∃ (ys : List Dt) (w : Web) (T : Tr), BoxOk ys ∧ WebGood w ∧ T = w.tr ∧ ρ = [some (.sh (.scr ns)), some (.own ys), some (.sh d), some (.sh (.int (1 + a))), some (.sh (.int (2 + b))), some (.tr T), x6, x7, x8, x9]) ?_ ?_
    · refine wd (fun e => ?_) (fun e => ?_)
      · walk_at "w"
        refine fair_ev hy (by omega) (by omega) (by omega) (by omega) fun w ys hy _ hg _ => ?_
        obtain ⟨T2, eT2⟩ : ∃ T, T = w.tr := ⟨_, rfl⟩
        rw [← eT2]
        walk_at "w"
        rw [eT2]
        refine rimmed_ev hy hg fun w ys hy _ hg => ?_
        exact ⟨ys, w, _, hy, hg, rfl, rfl⟩
      · walk_at "w"
        exact ⟨ys, w, _, hy, hg, eT, rfl⟩
    rintro _ ⟨ys, w, T, hy, hg, eT, rfl⟩
    have O := hg.ok
    have W := WD.mk_ w
    have hw := web_ev O (Q := fun v cs => v = .tr (latT w.psD w.rsD w.ssD) ∧ cs = []) ⟨rfl, rfl⟩
    have eD := w.dt_eq
    rw [← eT] at eD
    obtain ⟨PS, ePS⟩ : ∃ x, x = w.psD := ⟨_, rfl⟩
    obtain ⟨RS, eRS⟩ : ∃ x, x = w.rsD := ⟨_, rfl⟩
    obtain ⟨SS, eSS⟩ : ∃ x, x = w.ssD := ⟨_, rfl⟩
    obtain ⟨zp, ezp⟩ : ∃ x : Int, x = w.ps.length := ⟨_, rfl⟩
    obtain ⟨zs, ezs⟩ : ∃ x : Int, x = w.ss.length := ⟨_, rfl⟩
    rw [← ePS, ← eRS, ← eSS] at hw eD
    rw [← ePS, ← eRS, ← eSS, ← ezp, ← ezs] at W
    obtain ⟨LT, eLT⟩ : ∃ x, x = latT PS RS SS := ⟨_, rfl⟩
    have eL : LT.dt = objD PS RS SS := by rw [eLT, latT_dt]
    rw [← eLT] at hw
    walk_at "w"
    rw [eD]
    refine hw.imp ?_
    rintro _ _ ⟨rfl, rfl⟩
    walk_at "w"
    refine EvS.cut (fun ρ => ∃ x7, ρ = [some (.sh (.scr ns)), some (.own ys), some (.sh d), some (.sh (.int (1 + a))), some (.sh (.int (2 + b))), some (.sh (webD PS RS SS)), some (.sh (objD PS RS SS)), x7, x8, x9]) ?_ ?_
    · refine for_inv (fun ds ρ => ∃ x6 x7, (x6 = .tr LT ∧ ds ≠ [] ∨ x6 = .sh (objD PS RS SS)) ∧ ρ = [some (.sh (.scr ns)), some (.own ys), some (.sh d), some (.sh (.int (1 + a))), some (.sh (.int (2 + b))), some (.sh (webD PS RS SS)), some x6, x7, x8, x9]) ?_ ?_ _ _ ⟨_, x7, .inl ⟨rfl, fun e => nomatch e⟩, rfl⟩
      · rintro d1 ds1 ρ ⟨x6, x7, h6, rfl⟩
        rcases h6 with ⟨rfl, _⟩ | rfl
        all_goals
          walk_at "w"
          try rw [eL]
          try walk_at "w"
          refine win_ev W O ?_
          walk_at "w"
          refine law_win_ev W O ?_
          walk_at "w"
          refine ef_eq (same_eq 19 _ (winD_same w 17)) ?_
          walk_at "w"
          exact ⟨_, _, .inr rfl, rfl⟩
      · rintro ρ ⟨x6, x7, h6, rfl⟩
        rcases h6 with ⟨_, h⟩ | rfl
        · exact absurd rfl h
        · exact ⟨_, rfl⟩
    rintro ρ ⟨x7, rfl⟩
    have hls := O.ls
    have h7 := O.n7
    walk_at "w"
    refine wo W.ls ?_
    walk_at "w"
    refine wo (range_z (n := w.ss.length) ezs (by omega)) ?_
    walk_at "w"
    refine for_inv (fun ds ρ => ∃ (is : List Nat) (x8 x9 : Option Wt), ds = is.map (fun i => Dt.int (i : Nat)) ∧ (∀ i ∈ is, i < w.ss.length) ∧ ρ = [some (.sh (.scr ns)), some (.own ys), some (.sh d), some (.sh (.int (1 + a))), some (.sh (.int (2 + b))), some (.sh (webD PS RS SS)), some (.sh (objD PS RS SS)), x7, x8, x9]) ?_ ?_ _ _ ⟨List.range w.ss.length, x8, x9, rfl, fun i hi => List.mem_range.mp hi, rfl⟩
    · rintro d1 ds1 ρ ⟨is, x8, x9, e, hi, rfl⟩
      cases is with
      | nil => cases e
      | cons i is =>
        cases e
        have hil := hi i List.mem_cons_self
        have es : w.ss[i]? = some w.ss[i] := List.getElem?_eq_getElem hil
        have ep : w.ps[i]? = some w.ps[i] := List.getElem?_eq_getElem (by omega)
        have h8 := (O.row i _ ep).2
        have hs := O.sows i _ _ ep es
        obtain ⟨R, z, g1, g2⟩ := W.is_ (i : Nat) i _ rfl es
        walk_at "w"
        refine wo g1 ?_
        walk_at "w"
        refine wo g2.len ?_
        walk_at "w"
        refine wo (range_z (n := w.ss[i].length) g2.z_ (by omega)) ?_
        walk_at "w"
        refine for_inv (fun ds ρ => ∃ (ks : List Nat) (x9 : Option Wt), ds = ks.map (fun i => Dt.int (i : Nat)) ∧ (∀ k ∈ ks, k < w.ss[i].length) ∧ ρ = [some (.sh (.scr ns)), some (.own ys), some (.sh d), some (.sh (.int (1 + a))), some (.sh (.int (2 + b))), some (.sh (webD PS RS SS)), some (.sh (objD PS RS SS)), x7, some (.sh (.int (i : Nat))), x9]) ?_ ?_ _ _ ⟨List.range w.ss[i].length, x9, rfl, fun i hi => List.mem_range.mp hi, rfl⟩
        · rintro d2 ds2 ρ ⟨ks, x9, e', hk, rfl⟩
          cases ks with
          | nil => cases e'
          | cons k ks =>
            cases e'
            obtain ⟨p, r, u, l, a, b, N, M⟩ := O.node es (hk k List.mem_cons_self)
            walk_at "w"
            refine share_ev W O rfl rfl N M ?_
            walk_at "w"
            refine weight_ev W rfl rfl N M ?_
            walk_at "w"
            refine ef_eq (same_eq 19 _ (same_amt 18 _)) ?_
            walk_at "w"
            exact ⟨ks, _, rfl, fun k hk' => hk k (List.mem_cons_of_mem _ hk'), rfl⟩
        · rintro ρ ⟨ks, x9, e', hk, rfl⟩
          exact ⟨is, _, _, rfl, fun i hi' => hi i (List.mem_cons_of_mem _ hi'), rfl⟩
    · rintro ρ ⟨is, x8, x9, e, hi, rfl⟩
      exact ⟨_, _, _, _, _, _, _, _, _, rfl, hy⟩
  · rintro ρ ⟨ys, x2, x3, x4, x5, x6, x7, x8, x9, rfl, hy⟩
    walk_at "w"
    exact ⟨rfl, rfl⟩
end Lw
namespace Lw
open PySem PySem.Spec PyProof.Rows L2 RZ DL
def topS (i : Nat) : Stmt := PySem.Challenge.pw_strikeloom_k08_shares_and_wins.main.body.getD i (.Pass ⟨0, 0, 0, 0⟩)
section
variable {P : Program} {w : World} {K : PySem.W.Frag} {mg : Str → Option Value} {base : Heap}
abbrev si_BadShape : Stmt := inClass (topS 3) 0
theorem sci_BadShape : FnScope ["self"] ["self"] (defScope si_BadShape) := ⟨rfl, rfl, rfl, by decide +kernel, rfl, by decide +kernel, by decide +kernel⟩
theorem in_BadShape {fI : Addr} (cdv : Value) (A : Around) (outer : List Env) (s : Shared) (H : Hp) (E : XK) : PSs (cxOf (L2.CX P w) P w K mg base ["self"] "BadShape.__init__" (defScope si_BadShape) fI cdv A outer s H E) (defBody si_BadShape) (tInit K [("called", .inl (.str "BadShape"))]) :=
  (pss_cons (ps_ost (pe_var (i := 0) rfl (by first | exact Or.inl rfl | exact Or.inr (Or.inl rfl) | exact Or.inr (Or.inr rfl))) pe_str) pss_nil)
abbrev s_common : Stmt := topS 11
theorem sc_common : FnScope ["one", "other"] ["one", "other"] (defScope s_common) := ⟨rfl, rfl, rfl, by decide +kernel, rfl, by decide +kernel, by decide +kernel⟩
theorem ok_common {k : Nat} (D : DefAt K mg "common" s_common ["one", "other"]) (m_abs : mg "abs" = none) :
    FnAt P w K mg base (k + 1) "common" 2 (callF 2 [] (b_common)) :=
  fn_at [] D sc_common fun f cdv A outer s H E Z hZ hr => by
    have tk : Takes (cxOf (L2.CX P w) P w K mg base ["one", "other"] "common" (defScope s_common) f cdv A outer s H E) (fun cls d _ H => E cls d H) := takes_of rfl rfl rfl rfl
    exact (s_cons (s_par 0 1 (nb hZ (by decide)) (nb hZ (by decide)) rfl sc_common.nd (a_val (d_cb cd_abs call_abs (by rfl) m_abs (by decide +kernel) (a_val (d_var 0 (nb hZ (by decide))) a_nil)) (a_val (d_cb cd_abs call_abs (by rfl) m_abs (by decide +kernel) (a_val (d_var 1 (nb hZ (by decide))) a_nil)) a_nil)))
      (s_cons (s_while (fun ρ => slotN ρ 1 + 1) (passes_of rfl) (t_cmp op_gt od_gt (d_var 1 (nb hZ (by decide))) d_int (nomark _)) (s_one (s_par 0 1 (nb hZ (by decide)) (nb hZ (by decide)) rfl sc_common.nd (a_val (d_var 1 (nb hZ (by decide))) (a_val (d_op op_modN od_mod (d_var 0 (nb hZ (by decide))) (d_var 1 (nb hZ (by decide)))) a_nil)))))
      (s_one (s_ret (w_var 0 (nb hZ (by decide)))))))
abbrev s_lowest : Stmt := topS 12
theorem sc_lowest : FnScope ["over", "under", "part"] ["over", "under"] (defScope s_lowest) := ⟨rfl, rfl, rfl, by decide +kernel, rfl, by decide +kernel, by decide +kernel⟩
theorem ok_lowest {k : Nat} {g_common : FnD} (D : DefAt K mg "lowest" s_lowest ["over", "under"]) (c_common : FnAt P w K mg base k "common" 2 g_common) :
    FnAt P w K mg base (k + 1) "lowest" 2 (callF 3 [] (b_lowest g_common)) :=
  fn_at [] D sc_lowest fun f cdv A outer s H E Z hZ hr => by
    have tk : Takes (cxOf (L2.CX P w) P w K mg base ["over", "under", "part"] "lowest" (defScope s_lowest) f cdv A outer s H E) (fun cls d _ H => E cls d H) := takes_of rfl rfl rfl rfl
    exact (s_cons (s_set 2 (nb hZ (by decide)) (w_fn c_common hr tk (by rfl) (a_val (d_var 0 (nb hZ (by decide))) (a_val (d_var 1 (nb hZ (by decide))) a_nil))) sc_lowest.nd (by first | exact Or.inl rfl | exact Or.inr rfl))
      (s_cons (s_if (t_cmp op_lt od_lt (d_var 1 (nb hZ (by decide))) d_int (nomark _)) (s_one (s_set 2 (nb hZ (by decide)) (w_sh (d_un un_neg ud_neg (d_var 2 (nb hZ (by decide))))) sc_lowest.nd (by first | exact Or.inl rfl | exact Or.inr rfl))) s_nil)
      (s_one (s_ret (w_sh (d_tup (a_val (d_op op_fdivZ od_fdiv (d_var 0 (nb hZ (by decide))) (d_var 2 (nb hZ (by decide)))) (a_val (d_op op_fdivZ od_fdiv (d_var 1 (nb hZ (by decide))) (d_var 2 (nb hZ (by decide)))) a_nil))))))))
abbrev s_minus : Stmt := topS 13
theorem sc_minus : FnScope ["one", "other"] ["one", "other"] (defScope s_minus) := ⟨rfl, rfl, rfl, by decide +kernel, rfl, by decide +kernel, by decide +kernel⟩
theorem ok_minus {k : Nat} {g_lowest : FnD} (D : DefAt K mg "minus" s_minus ["one", "other"]) (c_lowest : FnAt P w K mg base k "lowest" 2 g_lowest) :
    FnAt P w K mg base (k + 1) "minus" 2 (callF 2 [] (b_minus g_lowest)) :=
  fn_at [] D sc_minus fun f cdv A outer s H E Z hZ hr => by
    have tk : Takes (cxOf (L2.CX P w) P w K mg base ["one", "other"] "minus" (defScope s_minus) f cdv A outer s H E) (fun cls d _ H => E cls d H) := takes_of rfl rfl rfl rfl
    exact (s_one (s_ret (w_fn c_lowest hr tk (by rfl) (a_val (d_op op_sub od_sub (d_op op_mulW od_mul (d_sub (d_var 0 (nb hZ (by decide))) d_int) (d_sub (d_var 1 (nb hZ (by decide))) d_int)) (d_op op_mulW od_mul (d_sub (d_var 1 (nb hZ (by decide))) d_int) (d_sub (d_var 0 (nb hZ (by decide))) d_int))) (a_val (d_op op_mulW od_mul (d_sub (d_var 0 (nb hZ (by decide))) d_int) (d_sub (d_var 1 (nb hZ (by decide))) d_int)) a_nil)))))
abbrev s_times : Stmt := topS 14
theorem sc_times : FnScope ["one", "other"] ["one", "other"] (defScope s_times) := ⟨rfl, rfl, rfl, by decide +kernel, rfl, by decide +kernel, by decide +kernel⟩
theorem ok_times {k : Nat} {g_lowest : FnD} (D : DefAt K mg "times" s_times ["one", "other"]) (c_lowest : FnAt P w K mg base k "lowest" 2 g_lowest) :
    FnAt P w K mg base (k + 1) "times" 2 (callF 2 [] (b_times g_lowest)) :=
  fn_at [] D sc_times fun f cdv A outer s H E Z hZ hr => by
    have tk : Takes (cxOf (L2.CX P w) P w K mg base ["one", "other"] "times" (defScope s_times) f cdv A outer s H E) (fun cls d _ H => E cls d H) := takes_of rfl rfl rfl rfl
    exact (s_one (s_ret (w_fn c_lowest hr tk (by rfl) (a_val (d_op op_mulW od_mul (d_sub (d_var 0 (nb hZ (by decide))) d_int) (d_sub (d_var 1 (nb hZ (by decide))) d_int)) (a_val (d_op op_mulW od_mul (d_sub (d_var 0 (nb hZ (by decide))) d_int) (d_sub (d_var 1 (nb hZ (by decide))) d_int)) a_nil)))))
abbrev s_by : Stmt := topS 15
theorem sc_by : FnScope ["one", "other"] ["one", "other"] (defScope s_by) := ⟨rfl, rfl, rfl, by decide +kernel, rfl, by decide +kernel, by decide +kernel⟩
theorem ok_by {k : Nat} {g_lowest : FnD} (D : DefAt K mg "by" s_by ["one", "other"]) (c_lowest : FnAt P w K mg base k "lowest" 2 g_lowest) :
    FnAt P w K mg base (k + 1) "by" 2 (callF 2 [] (b_by g_lowest)) :=
  fn_at [] D sc_by fun f cdv A outer s H E Z hZ hr => by
    have tk : Takes (cxOf (L2.CX P w) P w K mg base ["one", "other"] "by" (defScope s_by) f cdv A outer s H E) (fun cls d _ H => E cls d H) := takes_of rfl rfl rfl rfl
    exact (s_one (s_ret (w_fn c_lowest hr tk (by rfl) (a_val (d_op op_mulW od_mul (d_sub (d_var 0 (nb hZ (by decide))) d_int) (d_sub (d_var 1 (nb hZ (by decide))) d_int)) (a_val (d_op op_mulW od_mul (d_sub (d_var 0 (nb hZ (by decide))) d_int) (d_sub (d_var 1 (nb hZ (by decide))) d_int)) a_nil)))))
abbrev s_less : Stmt := topS 16
theorem sc_less : FnScope ["one", "other"] ["one", "other"] (defScope s_less) := ⟨rfl, rfl, rfl, by decide +kernel, rfl, by decide +kernel, by decide +kernel⟩
theorem ok_less {k : Nat} (D : DefAt K mg "less" s_less ["one", "other"]) :
    FnAt P w K mg base (k + 1) "less" 2 (callF 2 [] (b_less)) :=
  fn_at [] D sc_less fun f cdv A outer s H E Z hZ hr => by
    have tk : Takes (cxOf (L2.CX P w) P w K mg base ["one", "other"] "less" (defScope s_less) f cdv A outer s H E) (fun cls d _ H => E cls d H) := takes_of rfl rfl rfl rfl
    exact (s_one (s_ret (w_sh (d_cmp op_lt od_lt (d_op op_mulW od_mul (d_sub (d_var 0 (nb hZ (by decide))) d_int) (d_sub (d_var 1 (nb hZ (by decide))) d_int)) (d_op op_mulW od_mul (d_sub (d_var 1 (nb hZ (by decide))) d_int) (d_sub (d_var 0 (nb hZ (by decide))) d_int)) (nomark _)))))
abbrev s_look_shape : Stmt := topS 20
theorem sc_look_shape : FnScope ["prices", "rates", "steps", "date", "row"] ["prices", "rates", "steps"] (defScope s_look_shape) := ⟨rfl, rfl, rfl, by decide +kernel, rfl, by decide +kernel, by decide +kernel⟩
theorem ok_look_shape {k : Nat} (D : DefAt K mg "look_shape" s_look_shape ["prices", "rates", "steps"]) (hk : 2 ≤ k) (x_BadShape : ExAt P w K mg base 1 "BadShape" 0 [("called", .inl (.str "BadShape"))]) (m_len : mg "len" = none) (m_enumerate : mg "enumerate" = none) (c_MOST_DATES : ConstAt K mg "MOST_DATES" (.int 7)) (c_MOST_NODES : ConstAt K mg "MOST_NODES" (.int 8)) :
    FnAt P w K mg base (k + 1) "look_shape" 3 (callF 5 [] (b_look_shape)) :=
  fn_at [] D sc_look_shape fun f cdv A outer s H E Z hZ hr => by
    have tk : Takes (cxOf (L2.CX P w) P w K mg base ["prices", "rates", "steps", "date", "row"] "look_shape" (defScope s_look_shape) f cdv A outer s H E) (fun cls d _ H => E cls d H) := takes_of rfl rfl rfl rfl
    exact (s_cons (s_if (PW.pt (t_or (t_not (t_chain op_le od_le op_le od_le d_int (d_cb cd_len call_len (by rfl) m_len (by decide +kernel) (a_val (d_var 0 (nb hZ (by decide))) a_nil)) (c_MOST_DATES.pe (by rfl)))) (t_or1 (t_not (t_chain (op_eqA hr.units) od_eq (op_eqA hr.units) od_eq (d_cb cd_len call_len (by rfl) m_len (by decide +kernel) (a_val (d_var 1 (nb hZ (by decide))) a_nil)) (d_cb cd_len call_len (by rfl) m_len (by decide +kernel) (a_val (d_var 2 (nb hZ (by decide))) a_nil)) (d_op op_sub od_sub (d_cb cd_len call_len (by rfl) m_len (by decide +kernel) (a_val (d_var 0 (nb hZ (by decide))) a_nil)) d_int)))))) (s_one (s_raise0 x_BadShape (fun F a => ⟨rfl, .cons (.str _) (.nil)⟩) (hr.mono hk) rfl tk (by rfl))) s_nil)
      (s_one (s_for (passes_of rfl) rfl (i_enum (by rfl) m_enumerate (a_val (d_var 0 (nb hZ (by decide))) a_nil)) (g_tup rfl (g_cons (g_name 3 (nb hZ (by decide)) sc_look_shape.nd (by first | exact Or.inl rfl | exact Or.inr rfl)) (g_cons (g_name 4 (nb hZ (by decide)) sc_look_shape.nd (by first | exact Or.inl rfl | exact Or.inr rfl)) g_nil))) (s_cons (s_if (t_not (t_chain op_le od_le op_le od_le d_int (d_cb cd_len call_len (by rfl) m_len (by decide +kernel) (a_val (d_var 4 (nb hZ (by decide))) a_nil)) (d_ite (t_cmp (op_eqA hr.units) od_eq (d_var 3 (nb hZ (by decide))) d_int (nomark _)) d_int (c_MOST_NODES.pe (by rfl))))) (s_one (s_raise0 x_BadShape (fun F a => ⟨rfl, .cons (.str _) (.nil)⟩) (hr.mono hk) rfl tk (by rfl))) s_nil)
      (s_one (s_if (PW.pt (t_and (t_cmp op_lt od_lt (d_var 3 (nb hZ (by decide))) (d_cb cd_len call_len (by rfl) m_len (by decide +kernel) (a_val (d_var 1 (nb hZ (by decide))) a_nil)) (nomark _)) (t_and1 (t_not (t_chain (op_eqA hr.units) od_eq (op_eqA hr.units) od_eq (d_cb cd_len call_len (by rfl) m_len (by decide +kernel) (a_val (d_sub (d_var 1 (nb hZ (by decide))) (d_var 3 (nb hZ (by decide)))) a_nil)) (d_cb cd_len call_len (by rfl) m_len (by decide +kernel) (a_val (d_sub (d_var 2 (nb hZ (by decide))) (d_var 3 (nb hZ (by decide)))) a_nil)) (d_cb cd_len call_len (by rfl) m_len (by decide +kernel) (a_val (d_var 4 (nb hZ (by decide))) a_nil))))))) (s_one (s_raise0 x_BadShape (fun F a => ⟨rfl, .cons (.str _) (.nil)⟩) (hr.mono hk) rfl tk (by rfl))) s_nil))))))
abbrev s_look_above : Stmt := topS 21
theorem sc_look_above : FnScope ["rows", "rated", "date", "row", "node", "over", "under"] ["rows", "rated"] (defScope s_look_above) := ⟨rfl, rfl, rfl, by decide +kernel, rfl, by decide +kernel, by decide +kernel⟩
theorem ok_look_above {k n : Nat} {ks : List Str} {ar : List (Nat ⊕ Nat)} {dd : List Dt} (D : KDefAt K mg "look_above" s_look_above ["rows", "rated"] n ks ar dd) (m_enumerate : mg "enumerate" = none) :
    CallAt P w K mg base (k + 1) "look_above" n ks ar dd 2 (callF 7 [] (b_look_above)) :=
  fn_atK [] D sc_look_above fun f cdv A outer s H E Z hZ hr => by
    have tk : Takes (cxOf (L2.CX P w) P w K mg base ["rows", "rated", "date", "row", "node", "over", "under"] "look_above" (defScope s_look_above) f cdv A outer s H E) (fun cls d _ H => E cls d H) := takes_of rfl rfl rfl rfl
    exact (s_one (s_for (passes_of rfl) rfl (i_enum (by rfl) m_enumerate (a_val (d_var 0 (nb hZ (by decide))) a_nil)) (g_tup rfl (g_cons (g_name 2 (nb hZ (by decide)) sc_look_above.nd (by first | exact Or.inl rfl | exact Or.inr rfl)) (g_cons (g_name 3 (nb hZ (by decide)) sc_look_above.nd (by first | exact Or.inl rfl | exact Or.inr rfl)) g_nil))) (s_one (s_for (passes_of rfl) rfl (i_enum (by rfl) m_enumerate (a_val (d_var 3 (nb hZ (by decide))) a_nil)) (g_tup rfl (g_cons (g_name 4 (nb hZ (by decide)) sc_look_above.nd (by first | exact Or.inl rfl | exact Or.inr rfl)) (g_cons (g_tup rfl (g_cons (g_name 5 (nb hZ (by decide)) sc_look_above.nd (by first | exact Or.inl rfl | exact Or.inr rfl)) (g_cons (g_name 6 (nb hZ (by decide)) sc_look_above.nd (by first | exact Or.inl rfl | exact Or.inr rfl)) g_nil))) g_nil))) (s_cons (s_if (PW.pt (t_and (t_cmp op_le od_le (d_var 5 (nb hZ (by decide))) d_int (nomark _)) (t_and1 (t_val (d_var 1 (nb hZ (by decide))))))) (s_one s_none) s_nil)
      (s_one (s_if (t_cmp op_le od_le (d_var 5 (nb hZ (by decide))) d_int (nomark _)) (s_one s_none) s_nil)))))))
abbrev s_look_steps : Stmt := topS 22
theorem sc_look_steps : FnScope ["prices", "steps", "date", "row", "later", "node", "up", "down"] ["prices", "steps"] (defScope s_look_steps) := ⟨rfl, rfl, rfl, by decide +kernel, rfl, by decide +kernel, by decide +kernel⟩
theorem ok_look_steps {k : Nat} {g_less : FnD} (D : DefAt K mg "look_steps" s_look_steps ["prices", "steps"]) (m_enumerate : mg "enumerate" = none) (m_len : mg "len" = none) (c_less : FnAt P w K mg base k "less" 2 g_less) :
    FnAt P w K mg base (k + 1) "look_steps" 2 (callF 8 [] (b_look_steps g_less)) :=
  fn_at [] D sc_look_steps fun f cdv A outer s H E Z hZ hr => by
    have tk : Takes (cxOf (L2.CX P w) P w K mg base ["prices", "steps", "date", "row", "later", "node", "up", "down"] "look_steps" (defScope s_look_steps) f cdv A outer s H E) (fun cls d _ H => E cls d H) := takes_of rfl rfl rfl rfl
    exact (s_one (s_for (passes_of rfl) rfl (i_enum (by rfl) m_enumerate (a_val (d_var 1 (nb hZ (by decide))) a_nil)) (g_tup rfl (g_cons (g_name 2 (nb hZ (by decide)) sc_look_steps.nd (by first | exact Or.inl rfl | exact Or.inr rfl)) (g_cons (g_name 3 (nb hZ (by decide)) sc_look_steps.nd (by first | exact Or.inl rfl | exact Or.inr rfl)) g_nil))) (s_cons (s_set 4 (nb hZ (by decide)) (w_sh (d_sub (d_var 0 (nb hZ (by decide))) (d_op op_addA od_add (d_var 2 (nb hZ (by decide))) d_int))) sc_look_steps.nd (by first | exact Or.inl rfl | exact Or.inr rfl))
      (s_one (s_for (passes_of rfl) rfl (i_enum (by rfl) m_enumerate (a_val (d_var 3 (nb hZ (by decide))) a_nil)) (g_tup rfl (g_cons (g_name 5 (nb hZ (by decide)) sc_look_steps.nd (by first | exact Or.inl rfl | exact Or.inr rfl)) (g_cons (g_tup rfl (g_cons (g_name 6 (nb hZ (by decide)) sc_look_steps.nd (by first | exact Or.inl rfl | exact Or.inr rfl)) (g_cons (g_name 7 (nb hZ (by decide)) sc_look_steps.nd (by first | exact Or.inl rfl | exact Or.inr rfl)) g_nil))) g_nil))) (s_one (s_if (PW.pt (t_or (t_not (t_chain op_le od_le op_lt od_lt d_int (d_var 6 (nb hZ (by decide))) (d_cb cd_len call_len (by rfl) m_len (by decide +kernel) (a_val (d_var 4 (nb hZ (by decide))) a_nil)))) (t_or (t_not (t_chain op_le od_le op_lt od_lt d_int (d_var 7 (nb hZ (by decide))) (d_cb cd_len call_len (by rfl) m_len (by decide +kernel) (a_val (d_var 4 (nb hZ (by decide))) a_nil)))) (t_or1 (t_not (t_val (d_frz (w_fn c_less hr tk (by rfl) (a_val (d_sub (d_var 4 (nb hZ (by decide))) (d_var 7 (nb hZ (by decide)))) (a_val (d_sub (d_var 4 (nb hZ (by decide))) (d_var 6 (nb hZ (by decide)))) a_nil)))))))))) (s_one s_none) s_nil)))))))
abbrev s__law_box : Stmt := topS 25
theorem sc__law_box : FnScope ["_law_script"] ["_law_script"] (defScope s__law_box) := ⟨rfl, rfl, rfl, by decide +kernel, rfl, by decide +kernel, by decide +kernel⟩
theorem ok__law_box {k : Nat} (D : DefAt K mg "_law_box" s__law_box ["_law_script"]) (m_len : mg "len" = none) (m_list : mg "list" = none) :
    FnAt P w K mg base (k + 1) "_law_box" 1 (callF 1 [] (b__law_box)) :=
  fn_at [] D sc__law_box fun f cdv A outer s H E Z hZ hr => by
    have tk : Takes (cxOf (L2.CX P w) P w K mg base ["_law_script"] "_law_box" (defScope s__law_box) f cdv A outer s H E) (fun cls d _ H => E cls d H) := takes_of rfl rfl rfl rfl
    exact (s_one (s_ret (w_lst (a_val (d_cty cd_list call_list_of (by rfl) m_list (by decide +kernel) (a_val (d_sl01 (d_var 0 (nb hZ (by decide))) d_int) a_nil)) (a_val d_int (a_val d_int (a_val (d_op op_addA od_add d_int (d_op op_mulW od_mul d_int (d_cb cd_len call_len (by rfl) m_len (by decide +kernel) (a_val (d_sl01 (d_var 0 (nb hZ (by decide))) d_int) a_nil)))) a_nil)))))))
abbrev s__law_take : Stmt := topS 26
theorem sc__law_take : FnScope ["_law_box_here", "_law_many", "_law_cell", "_law_seed", "_law_got"] ["_law_box_here", "_law_many"] (defScope s__law_take) := ⟨rfl, rfl, rfl, by decide +kernel, rfl, by decide +kernel, by decide +kernel⟩
theorem ok__law_take {k : Nat} (D : DefAt K mg "_law_take" s__law_take ["_law_box_here", "_law_many"]) (m_len : mg "len" = none) :
    FnAt P w K mg base (k + 1) "_law_take" 2 (callF 5 [0] (b__law_take)) :=
  fn_at [0] D sc__law_take fun f cdv A outer s H E Z hZ hr => by
    have tk : Takes (cxOf (L2.CX P w) P w K mg base ["_law_box_here", "_law_many", "_law_cell", "_law_seed", "_law_got"] "_law_take" (defScope s__law_take) f cdv A outer s H E) (fun cls d _ H => E cls d H) := takes_of rfl rfl rfl rfl
    exact (s_cons (s_if (PW.pt (t_and (t_cmp (op_eqA hr.units) od_eq (d_ixV 0 d_int) d_int (nomark _)) (t_and1 (t_cmp op_lt od_lt (d_ixV 0 d_int) (d_cb cd_len call_len (by rfl) m_len (by decide +kernel) (a_val (d_ixV 0 d_int) a_nil)) (nomark _))))) (s_cons (s_set 2 (nb hZ (by decide)) (w_sh (d_sub (d_ixV 0 d_int) (d_ixV 0 d_int))) sc__law_take.nd (by first | exact Or.inl rfl | exact Or.inr rfl))
      (s_cons (s_put 0 d_int (d_op op_addA od_add (d_ixV 0 d_int) d_int))
      (s_one (s_if (t_cmp op_ge od_ge (d_var 2 (nb hZ (by decide))) (d_op op_pow od_pow d_int d_int) (nomark _)) (s_one (s_put 0 d_int (d_var 2 (nb hZ (by decide))))) (s_cons (s_set 3 (nb hZ (by decide)) (w_sh (d_op op_addA od_add (d_op op_mulW od_mul (d_ixV 0 d_int) d_int) (d_op op_mulW od_mul (d_ixV 0 d_int) d_int))) sc__law_take.nd (by first | exact Or.inl rfl | exact Or.inr rfl))
      (s_one (s_put 0 d_int (d_op op_modN od_mod (d_op op_addA od_add (d_var 3 (nb hZ (by decide))) (d_op op_mulW od_mul (d_op op_modN od_mod (d_var 2 (nb hZ (by decide))) d_int) d_int)) d_int)))))))) s_nil)
      (s_cons (s_if (t_cmp op_gt od_gt (d_ixV 0 d_int) d_int (nomark _)) (s_cons (s_set 4 (nb hZ (by decide)) (w_sh (d_op op_modN od_mod (d_ixV 0 d_int) (d_var 1 (nb hZ (by decide))))) sc__law_take.nd (by first | exact Or.inl rfl | exact Or.inr rfl))
      (s_cons (s_put 0 d_int (d_op op_fdivZ od_fdiv (d_ixV 0 d_int) (d_var 1 (nb hZ (by decide)))))
      (s_one (s_ret (w_var 4 (nb hZ (by decide))))))) s_nil)
      (s_cons (s_set 3 (nb hZ (by decide)) (w_sh (d_op op_addA od_add (d_op op_addA od_add (d_op op_mulW od_mul (d_ixV 0 d_int) (d_ixV 0 d_int)) (d_op op_mulW od_mul (d_ixV 0 d_int) d_int)) d_int)) sc__law_take.nd (by first | exact Or.inl rfl | exact Or.inr rfl))
      (s_cons (s_put 0 d_int (d_op op_modN od_mod (d_op op_addA od_add (d_var 3 (nb hZ (by decide))) (d_op op_mulW od_mul (d_ixV 0 d_int) d_int)) d_int))
      (s_one (s_ret (w_sh (d_op op_modN od_mod (d_op op_addA od_add (d_op op_fdivZ od_fdiv (d_ixV 0 d_int) d_int) (d_op op_mulW od_mul (d_op op_modN od_mod (d_ixV 0 d_int) d_int) d_int)) (d_var 1 (nb hZ (by decide)))))))))))
abbrev s__law_one : Stmt := topS 27
theorem sc__law_one : FnScope ["_law_box_here", "_law_some"] ["_law_box_here", "_law_some"] (defScope s__law_one) := ⟨rfl, rfl, rfl, by decide +kernel, rfl, by decide +kernel, by decide +kernel⟩
theorem ok__law_one {k : Nat} {g__law_take : FnD} (D : DefAt K mg "_law_one" s__law_one ["_law_box_here", "_law_some"]) (m_len : mg "len" = none) (c__law_take : FnAt P w K mg base k "_law_take" 2 g__law_take) :
    FnAt P w K mg base (k + 1) "_law_one" 2 (callF 2 [0] (b__law_one g__law_take)) :=
  fn_at [0] D sc__law_one fun f cdv A outer s H E Z hZ hr => by
    have tk : Takes (cxOf (L2.CX P w) P w K mg base ["_law_box_here", "_law_some"] "_law_one" (defScope s__law_one) f cdv A outer s H E) (fun cls d _ H => E cls d H) := takes_of rfl rfl rfl rfl
    exact (s_one (s_ret (w_sh (d_sub (d_var 1 (nb hZ (by decide))) (d_frz (w_fn c__law_take hr tk (by rfl) (a_slot 0 (a_val (d_cb cd_len call_len (by rfl) m_len (by decide +kernel) (a_val (d_var 1 (nb hZ (by decide))) a_nil)) a_nil))))))))
abbrev s__law_same : Stmt := topS 28
theorem sc__law_same : FnScope ["_law_found", "_law_due", "_law_one_here", "_law_other"] ["_law_found", "_law_due"] (defScope s__law_same) := ⟨rfl, rfl, rfl, by decide +kernel, rfl, by decide +kernel, by decide +kernel⟩
theorem ok__law_same {k : Nat} {g__law_same : FnD} (D : DefAt K mg "_law_same" s__law_same ["_law_found", "_law_due"]) (m_list : mg "list" = none) (m_isinstance : mg "isinstance" = none) (m_tuple : mg "tuple" = none) (m_len : mg "len" = none) (m_zip : mg "zip" = none) (m_all : mg "all" = none) (m_bool : mg "bool" = none) (m_int : mg "int" = none) (m_str : mg "str" = none) (c__law_same : FnAt P w K mg base k "_law_same" 2 g__law_same) :
    FnAt P w K mg base (k + 1) "_law_same" 2 (callF 4 [] (b__law_same g__law_same)) :=
  fn_at [] D sc__law_same fun f cdv A outer s H E Z hZ hr => by
    have tk : Takes (cxOf (L2.CX P w) P w K mg base ["_law_found", "_law_due", "_law_one_here", "_law_other"] "_law_same" (defScope s__law_same) f cdv A outer s H E) (fun cls d _ H => E cls d H) := takes_of rfl rfl rfl rfl
    exact (s_cons (s_if (t_cmp op_isN od_is (d_var 1 (nb hZ (by decide))) d_non (nomark _)) (s_one (s_ret (w_sh (d_cmp op_isN od_is (d_var 0 (nb hZ (by decide))) d_non (nomark _))))) s_nil)
      (s_cons (s_if (PW.pt (t_or (t_val (d_cb cd_isi call_isi (by rfl) m_isinstance (by decide +kernel) (a_val (d_var 1 (nb hZ (by decide))) (a_val (d_bltn (by rfl) m_list (by decide +kernel)) a_nil)))) (t_or1 (t_val (d_cb cd_isi call_isi (by rfl) m_isinstance (by decide +kernel) (a_val (d_var 1 (nb hZ (by decide))) (a_val (d_bltn (by rfl) m_tuple (by decide +kernel)) a_nil))))))) (s_cons (s_if (PW.pt (t_or (t_cmp (op_neA hr.units) od_ne (d_cb cd_isi call_isi (by rfl) m_isinstance (by decide +kernel) (a_val (d_var 0 (nb hZ (by decide))) (a_val (d_bltn (by rfl) m_list (by decide +kernel)) a_nil))) (d_cb cd_isi call_isi (by rfl) m_isinstance (by decide +kernel) (a_val (d_var 1 (nb hZ (by decide))) (a_val (d_bltn (by rfl) m_list (by decide +kernel)) a_nil))) (nomark _)) (t_or1 (t_cmp (op_neA hr.units) od_ne (d_cb cd_isi call_isi (by rfl) m_isinstance (by decide +kernel) (a_val (d_var 0 (nb hZ (by decide))) (a_val (d_bltn (by rfl) m_tuple (by decide +kernel)) a_nil))) (d_cb cd_isi call_isi (by rfl) m_isinstance (by decide +kernel) (a_val (d_var 1 (nb hZ (by decide))) (a_val (d_bltn (by rfl) m_tuple (by decide +kernel)) a_nil))) (nomark _))))) (s_one (s_ret (w_sh d_bl))) s_nil)
      (s_one (s_ret (w_sh (d_and (d_cmp (op_eqA hr.units) od_eq (d_cb cd_len call_len (by rfl) m_len (by decide +kernel) (a_val (d_var 0 (nb hZ (by decide))) a_nil)) (d_cb cd_len call_len (by rfl) m_len (by decide +kernel) (a_val (d_var 1 (nb hZ (by decide))) a_nil)) (nomark _)) (d_one (d_cb cd_all (cr_all (by rfl)) (by rfl) m_all (by decide +kernel) (a_val (d_frz (w_lc rfl sc__law_same.nd (i_zip (by rfl) m_zip (a_val (d_var 0 (nb hZ (by decide))) (a_val (d_var 1 (nb hZ (by decide))) a_nil))) (blkOk_by (own := [("_law_one_here", 2), ("_law_other", 3)]) (N := ["_law_found", "_law_due", "_law_one_here", "_law_other"]) (sc := defScope s__law_same) (by decide +kernel)) rfl (nbs hZ (by decide)) (by decide) (fun _ _ _ _ _ P2 hP2 => (g_tup rfl (g_cons (g_name 2 (nb (nbt hP2 hZ) (by decide)) sc__law_same.nd (by first | exact Or.inl rfl | exact Or.inr rfl)) (g_cons (g_name 3 (nb (nbt hP2 hZ) (by decide)) sc__law_same.nd (by first | exact Or.inl rfl | exact Or.inr rfl)) g_nil)))) (fun _ _ _ _ _ P2 hP2 => ts_nil) (fun _ _ _ _ _ P2 hP2 => (d_frz (w_fn c__law_same hr takes0 (by rfl) (a_val (d_var 2 (nb (nbt hP2 hZ) (by decide))) (a_val (d_var 3 (nb (nbt hP2 hZ) (by decide))) a_nil))))))) a_nil)))))))) s_nil)
      (s_cons (s_if (PW.pt (t_or (t_cmp (op_neA hr.units) od_ne (d_cb cd_isi call_isi (by rfl) m_isinstance (by decide +kernel) (a_val (d_var 1 (nb hZ (by decide))) (a_val (d_bltn (by rfl) m_bool (by decide +kernel)) a_nil))) (d_cb cd_isi call_isi (by rfl) m_isinstance (by decide +kernel) (a_val (d_var 0 (nb hZ (by decide))) (a_val (d_bltn (by rfl) m_bool (by decide +kernel)) a_nil))) (nomark _)) (t_or1 (t_cmp (op_neA hr.units) od_ne (d_cb cd_isi call_isi (by rfl) m_isinstance (by decide +kernel) (a_val (d_var 1 (nb hZ (by decide))) (a_val (d_bltn (by rfl) m_int (by decide +kernel)) a_nil))) (d_cb cd_isi call_isi (by rfl) m_isinstance (by decide +kernel) (a_val (d_var 0 (nb hZ (by decide))) (a_val (d_bltn (by rfl) m_int (by decide +kernel)) a_nil))) (nomark _))))) (s_one (s_ret (w_sh d_bl))) s_nil)
      (s_one (s_ret (w_sh (d_and (d_cmp (op_eqA hr.units) od_eq (d_cb cd_isi call_isi (by rfl) m_isinstance (by decide +kernel) (a_val (d_var 0 (nb hZ (by decide))) (a_val (d_bltn (by rfl) m_str (by decide +kernel)) a_nil))) (d_cb cd_isi call_isi (by rfl) m_isinstance (by decide +kernel) (a_val (d_var 1 (nb hZ (by decide))) (a_val (d_bltn (by rfl) m_str (by decide +kernel)) a_nil))) (nomark _)) (d_one (d_cmp (op_eqA hr.units) od_eq (d_var 0 (nb hZ (by decide))) (d_var 1 (nb hZ (by decide))) (nomark _))))))))))
abbrev s__law_common : Stmt := topS 29
theorem sc__law_common : FnScope ["_law_one_here", "_law_other"] ["_law_one_here", "_law_other"] (defScope s__law_common) := ⟨rfl, rfl, rfl, by decide +kernel, rfl, by decide +kernel, by decide +kernel⟩
theorem ok__law_common {k : Nat} (D : DefAt K mg "_law_common" s__law_common ["_law_one_here", "_law_other"]) (m_abs : mg "abs" = none) :
    FnAt P w K mg base (k + 1) "_law_common" 2 (callF 2 [] (b__law_common)) :=
  fn_at [] D sc__law_common fun f cdv A outer s H E Z hZ hr => by
    have tk : Takes (cxOf (L2.CX P w) P w K mg base ["_law_one_here", "_law_other"] "_law_common" (defScope s__law_common) f cdv A outer s H E) (fun cls d _ H => E cls d H) := takes_of rfl rfl rfl rfl
    exact (s_cons (s_par 0 1 (nb hZ (by decide)) (nb hZ (by decide)) rfl sc__law_common.nd (a_val (d_cb cd_abs call_abs (by rfl) m_abs (by decide +kernel) (a_val (d_var 0 (nb hZ (by decide))) a_nil)) (a_val (d_cb cd_abs call_abs (by rfl) m_abs (by decide +kernel) (a_val (d_var 1 (nb hZ (by decide))) a_nil)) a_nil)))
      (s_cons (s_while (fun ρ => slotN ρ 1 + 1) (passes_of rfl) (t_cmp op_gt od_gt (d_var 1 (nb hZ (by decide))) d_int (nomark _)) (s_one (s_par 0 1 (nb hZ (by decide)) (nb hZ (by decide)) rfl sc__law_common.nd (a_val (d_var 1 (nb hZ (by decide))) (a_val (d_op op_modN od_mod (d_var 0 (nb hZ (by decide))) (d_var 1 (nb hZ (by decide)))) a_nil)))))
      (s_one (s_ret (w_var 0 (nb hZ (by decide)))))))
abbrev s__law_low : Stmt := topS 30
theorem sc__law_low : FnScope ["_law_num", "_law_den", "_law_part_of"] ["_law_num", "_law_den"] (defScope s__law_low) := ⟨rfl, rfl, rfl, by decide +kernel, rfl, by decide +kernel, by decide +kernel⟩
theorem ok__law_low {k : Nat} {g__law_common : FnD} (D : DefAt K mg "_law_low" s__law_low ["_law_num", "_law_den"]) (c__law_common : FnAt P w K mg base k "_law_common" 2 g__law_common) :
    FnAt P w K mg base (k + 1) "_law_low" 2 (callF 3 [] (b__law_low g__law_common)) :=
  fn_at [] D sc__law_low fun f cdv A outer s H E Z hZ hr => by
    have tk : Takes (cxOf (L2.CX P w) P w K mg base ["_law_num", "_law_den", "_law_part_of"] "_law_low" (defScope s__law_low) f cdv A outer s H E) (fun cls d _ H => E cls d H) := takes_of rfl rfl rfl rfl
    exact (s_cons (s_set 2 (nb hZ (by decide)) (w_fn c__law_common hr tk (by rfl) (a_val (d_var 0 (nb hZ (by decide))) (a_val (d_var 1 (nb hZ (by decide))) a_nil))) sc__law_low.nd (by first | exact Or.inl rfl | exact Or.inr rfl))
      (s_one (s_ret (w_sh (d_tup (a_val (d_op op_fdivZ od_fdiv (d_var 0 (nb hZ (by decide))) (d_var 2 (nb hZ (by decide)))) (a_val (d_op op_fdivZ od_fdiv (d_var 1 (nb hZ (by decide))) (d_var 2 (nb hZ (by decide)))) a_nil)))))))
abbrev s__law_sum : Stmt := topS 31
theorem sc__law_sum : FnScope ["_law_one_here", "_law_other"] ["_law_one_here", "_law_other"] (defScope s__law_sum) := ⟨rfl, rfl, rfl, by decide +kernel, rfl, by decide +kernel, by decide +kernel⟩
theorem ok__law_sum {k : Nat} {g__law_low : FnD} (D : DefAt K mg "_law_sum" s__law_sum ["_law_one_here", "_law_other"]) (c__law_low : FnAt P w K mg base k "_law_low" 2 g__law_low) :
    FnAt P w K mg base (k + 1) "_law_sum" 2 (callF 2 [] (b__law_sum g__law_low)) :=
  fn_at [] D sc__law_sum fun f cdv A outer s H E Z hZ hr => by
    have tk : Takes (cxOf (L2.CX P w) P w K mg base ["_law_one_here", "_law_other"] "_law_sum" (defScope s__law_sum) f cdv A outer s H E) (fun cls d _ H => E cls d H) := takes_of rfl rfl rfl rfl
    exact (s_one (s_ret (w_fn c__law_low hr tk (by rfl) (a_val (d_op op_addA od_add (d_op op_mulW od_mul (d_sub (d_var 0 (nb hZ (by decide))) d_int) (d_sub (d_var 1 (nb hZ (by decide))) d_int)) (d_op op_mulW od_mul (d_sub (d_var 1 (nb hZ (by decide))) d_int) (d_sub (d_var 0 (nb hZ (by decide))) d_int))) (a_val (d_op op_mulW od_mul (d_sub (d_var 0 (nb hZ (by decide))) d_int) (d_sub (d_var 1 (nb hZ (by decide))) d_int)) a_nil)))))
abbrev s__law_less_by : Stmt := topS 32
theorem sc__law_less_by : FnScope ["_law_one_here", "_law_other"] ["_law_one_here", "_law_other"] (defScope s__law_less_by) := ⟨rfl, rfl, rfl, by decide +kernel, rfl, by decide +kernel, by decide +kernel⟩
theorem ok__law_less_by {k : Nat} {g__law_low : FnD} (D : DefAt K mg "_law_less_by" s__law_less_by ["_law_one_here", "_law_other"]) (c__law_low : FnAt P w K mg base k "_law_low" 2 g__law_low) :
    FnAt P w K mg base (k + 1) "_law_less_by" 2 (callF 2 [] (b__law_less_by g__law_low)) :=
  fn_at [] D sc__law_less_by fun f cdv A outer s H E Z hZ hr => by
    have tk : Takes (cxOf (L2.CX P w) P w K mg base ["_law_one_here", "_law_other"] "_law_less_by" (defScope s__law_less_by) f cdv A outer s H E) (fun cls d _ H => E cls d H) := takes_of rfl rfl rfl rfl
    exact (s_one (s_ret (w_fn c__law_low hr tk (by rfl) (a_val (d_op op_sub od_sub (d_op op_mulW od_mul (d_sub (d_var 0 (nb hZ (by decide))) d_int) (d_sub (d_var 1 (nb hZ (by decide))) d_int)) (d_op op_mulW od_mul (d_sub (d_var 1 (nb hZ (by decide))) d_int) (d_sub (d_var 0 (nb hZ (by decide))) d_int))) (a_val (d_op op_mulW od_mul (d_sub (d_var 0 (nb hZ (by decide))) d_int) (d_sub (d_var 1 (nb hZ (by decide))) d_int)) a_nil)))))
abbrev s__law_product : Stmt := topS 33
theorem sc__law_product : FnScope ["_law_one_here", "_law_other"] ["_law_one_here", "_law_other"] (defScope s__law_product) := ⟨rfl, rfl, rfl, by decide +kernel, rfl, by decide +kernel, by decide +kernel⟩
theorem ok__law_product {k : Nat} {g__law_low : FnD} (D : DefAt K mg "_law_product" s__law_product ["_law_one_here", "_law_other"]) (c__law_low : FnAt P w K mg base k "_law_low" 2 g__law_low) :
    FnAt P w K mg base (k + 1) "_law_product" 2 (callF 2 [] (b__law_product g__law_low)) :=
  fn_at [] D sc__law_product fun f cdv A outer s H E Z hZ hr => by
    have tk : Takes (cxOf (L2.CX P w) P w K mg base ["_law_one_here", "_law_other"] "_law_product" (defScope s__law_product) f cdv A outer s H E) (fun cls d _ H => E cls d H) := takes_of rfl rfl rfl rfl
    exact (s_one (s_ret (w_fn c__law_low hr tk (by rfl) (a_val (d_op op_mulW od_mul (d_sub (d_var 0 (nb hZ (by decide))) d_int) (d_sub (d_var 1 (nb hZ (by decide))) d_int)) (a_val (d_op op_mulW od_mul (d_sub (d_var 0 (nb hZ (by decide))) d_int) (d_sub (d_var 1 (nb hZ (by decide))) d_int)) a_nil)))))
abbrev s__law_share_of : Stmt := topS 34
theorem sc__law_share_of : FnScope ["_law_one_here", "_law_other"] ["_law_one_here", "_law_other"] (defScope s__law_share_of) := ⟨rfl, rfl, rfl, by decide +kernel, rfl, by decide +kernel, by decide +kernel⟩
theorem ok__law_share_of {k : Nat} {g__law_low : FnD} (D : DefAt K mg "_law_share_of" s__law_share_of ["_law_one_here", "_law_other"]) (c__law_low : FnAt P w K mg base k "_law_low" 2 g__law_low) :
    FnAt P w K mg base (k + 1) "_law_share_of" 2 (callF 2 [] (b__law_share_of g__law_low)) :=
  fn_at [] D sc__law_share_of fun f cdv A outer s H E Z hZ hr => by
    have tk : Takes (cxOf (L2.CX P w) P w K mg base ["_law_one_here", "_law_other"] "_law_share_of" (defScope s__law_share_of) f cdv A outer s H E) (fun cls d _ H => E cls d H) := takes_of rfl rfl rfl rfl
    exact (s_cons (s_if (t_cmp op_lt od_lt (d_sub (d_var 1 (nb hZ (by decide))) d_int) d_int (nomark _)) (s_one (s_ret (w_fn c__law_low hr tk (by rfl) (a_val (d_op op_sub od_sub d_int (d_op op_mulW od_mul (d_sub (d_var 0 (nb hZ (by decide))) d_int) (d_sub (d_var 1 (nb hZ (by decide))) d_int))) (a_val (d_op op_sub od_sub d_int (d_op op_mulW od_mul (d_sub (d_var 0 (nb hZ (by decide))) d_int) (d_sub (d_var 1 (nb hZ (by decide))) d_int))) a_nil))))) s_nil)
      (s_one (s_ret (w_fn c__law_low hr tk (by rfl) (a_val (d_op op_mulW od_mul (d_sub (d_var 0 (nb hZ (by decide))) d_int) (d_sub (d_var 1 (nb hZ (by decide))) d_int)) (a_val (d_op op_mulW od_mul (d_sub (d_var 0 (nb hZ (by decide))) d_int) (d_sub (d_var 1 (nb hZ (by decide))) d_int)) a_nil))))))
abbrev s__law_under : Stmt := topS 35
theorem sc__law_under : FnScope ["_law_one_here", "_law_other"] ["_law_one_here", "_law_other"] (defScope s__law_under) := ⟨rfl, rfl, rfl, by decide +kernel, rfl, by decide +kernel, by decide +kernel⟩
theorem ok__law_under {k : Nat} (D : DefAt K mg "_law_under" s__law_under ["_law_one_here", "_law_other"]) :
    FnAt P w K mg base (k + 1) "_law_under" 2 (callF 2 [] (b__law_under)) :=
  fn_at [] D sc__law_under fun f cdv A outer s H E Z hZ hr => by
    have tk : Takes (cxOf (L2.CX P w) P w K mg base ["_law_one_here", "_law_other"] "_law_under" (defScope s__law_under) f cdv A outer s H E) (fun cls d _ H => E cls d H) := takes_of rfl rfl rfl rfl
    exact (s_one (s_ret (w_sh (d_cmp op_lt od_lt (d_op op_mulW od_mul (d_sub (d_var 0 (nb hZ (by decide))) d_int) (d_sub (d_var 1 (nb hZ (by decide))) d_int)) (d_op op_mulW od_mul (d_sub (d_var 1 (nb hZ (by decide))) d_int) (d_sub (d_var 0 (nb hZ (by decide))) d_int)) (nomark _)))))
abbrev s__law_turned_sign : Stmt := topS 36
theorem sc__law_turned_sign : FnScope ["_law_one_here"] ["_law_one_here"] (defScope s__law_turned_sign) := ⟨rfl, rfl, rfl, by decide +kernel, rfl, by decide +kernel, by decide +kernel⟩
theorem ok__law_turned_sign {k : Nat} (D : DefAt K mg "_law_turned_sign" s__law_turned_sign ["_law_one_here"]) :
    FnAt P w K mg base (k + 1) "_law_turned_sign" 1 (callF 1 [] (b__law_turned_sign)) :=
  fn_at [] D sc__law_turned_sign fun f cdv A outer s H E Z hZ hr => by
    have tk : Takes (cxOf (L2.CX P w) P w K mg base ["_law_one_here"] "_law_turned_sign" (defScope s__law_turned_sign) f cdv A outer s H E) (fun cls d _ H => E cls d H) := takes_of rfl rfl rfl rfl
    exact (s_one (s_ret (w_sh (d_tup (a_val (d_op op_sub od_sub d_int (d_sub (d_var 0 (nb hZ (by decide))) d_int)) (a_val (d_sub (d_var 0 (nb hZ (by decide))) d_int) a_nil))))))
abbrev s__law_above : Stmt := topS 37
theorem sc__law_above : FnScope ["_law_box_here", "_law_far"] ["_law_box_here", "_law_far"] (defScope s__law_above) := ⟨rfl, rfl, rfl, by decide +kernel, rfl, by decide +kernel, by decide +kernel⟩
theorem ok__law_above {k : Nat} {g__law_low g__law_take : FnD} (D : DefAt K mg "_law_above" s__law_above ["_law_box_here", "_law_far"]) (c__law_low : FnAt P w K mg base k "_law_low" 2 g__law_low) (c__law_take : FnAt P w K mg base k "_law_take" 2 g__law_take) :
    FnAt P w K mg base (k + 1) "_law_above" 2 (callF 2 [0] (b__law_above g__law_low g__law_take)) :=
  fn_at [0] D sc__law_above fun f cdv A outer s H E Z hZ hr => by
    have tk : Takes (cxOf (L2.CX P w) P w K mg base ["_law_box_here", "_law_far"] "_law_above" (defScope s__law_above) f cdv A outer s H E) (fun cls d _ H => E cls d H) := takes_of rfl rfl rfl rfl
    exact (s_one (s_ret (w_fn c__law_low hr tk (by rfl) (a_val (d_op op_addA od_add d_int (d_frz (w_fn c__law_take hr tk (by rfl) (a_slot 0 (a_val (d_var 1 (nb hZ (by decide))) a_nil))))) (a_val (d_sub (d_frz (w_lst (a_val d_int (a_val d_int (a_val d_int (a_val d_int (a_val d_int (a_val (d_op op_addA od_add d_int (d_frz (w_fn c__law_take hr tk (by rfl) (a_slot 0 (a_val d_int a_nil))))) a_nil)))))))) (d_frz (w_fn c__law_take hr tk (by rfl) (a_slot 0 (a_val d_int a_nil))))) a_nil)))))
abbrev s__law_rows_between : Stmt := topS 38
theorem sc__law_rows_between : FnScope ["_law_box_here", "_law_dates", "_law_most", "_law_prices", "_law_date", "_law_row", "_law_k", "_law_price"] ["_law_box_here", "_law_dates", "_law_most"] (defScope s__law_rows_between) := ⟨rfl, rfl, rfl, by decide +kernel, rfl, by decide +kernel, by decide +kernel⟩
theorem ok__law_rows_between {k : Nat} {g__law_above g__law_take g__law_sum : FnD} (D : DefAt K mg "_law_rows_between" s__law_rows_between ["_law_box_here", "_law_dates", "_law_most"]) (m_range : mg "range" = none) (m_len : mg "len" = none) (m_set : mg "set" = none) (c__law_above : FnAt P w K mg base k "_law_above" 2 g__law_above) (c__law_take : FnAt P w K mg base k "_law_take" 2 g__law_take) (c__law_sum : FnAt P w K mg base k "_law_sum" 2 g__law_sum) :
    FnAt P w K mg base (k + 1) "_law_rows_between" 3 (callF 8 [0] (b__law_rows_between g__law_above g__law_take g__law_sum)) :=
  fn_at [0] D sc__law_rows_between fun f cdv A outer s H E Z hZ hr => by
    have tk : Takes (cxOf (L2.CX P w) P w K mg base ["_law_box_here", "_law_dates", "_law_most", "_law_prices", "_law_date", "_law_row", "_law_k", "_law_price"] "_law_rows_between" (defScope s__law_rows_between) f cdv A outer s H E) (fun cls d _ H => E cls d H) := takes_of rfl rfl rfl rfl
    exact (s_cons (s_set 3 (nb hZ (by decide)) (w_lst (a_val (d_frz (w_lst (a_val (d_frz (w_fn c__law_above hr tk (by rfl) (a_slot 0 (a_val d_int a_nil)))) a_nil))) a_nil)) sc__law_rows_between.nd (by first | exact Or.inl rfl | exact Or.inr rfl))
      (s_cons (s_for (passes_of rfl) rfl (i_range2 (by rfl) m_range (a_val d_int (a_val (d_var 1 (nb hZ (by decide))) a_nil))) (g_name 4 (nb hZ (by decide)) sc__law_rows_between.nd (by first | exact Or.inl rfl | exact Or.inr rfl)) (s_cons (s_set 5 (nb hZ (by decide)) (w_lst a_nil) sc__law_rows_between.nd (by first | exact Or.inl rfl | exact Or.inr rfl))
      (s_cons (s_for (passes_of rfl) rfl (i_range1 (by rfl) m_range (a_val (d_op op_addA od_add d_int (d_frz (w_fn c__law_take hr tk (by rfl) (a_slot 0 (a_val (d_op op_sub od_sub (d_var 2 (nb hZ (by decide))) d_int) a_nil))))) a_nil)) (g_name 6 (nb hZ (by decide)) sc__law_rows_between.nd (by first | exact Or.inl rfl | exact Or.inr rfl)) (s_cons (s_set 7 (nb hZ (by decide)) (w_fn c__law_above hr tk (by rfl) (a_slot 0 (a_val d_int a_nil))) sc__law_rows_between.nd (by first | exact Or.inl rfl | exact Or.inr rfl))
      (s_one (s_if (PW.pt (t_or (t_cmpL 5 (op_eqA hr.units) od_eq (d_frz (w_lst a_nil)) (nomark _)) (t_or (t_cmpRt 5 (op_notInD (u65 hr)) od_notInT (d_var 7 (nb hZ (by decide))) (by rfl)) (t_or1 (t_cmp (op_eqA hr.units) od_eq (d_frz (w_fn c__law_take hr tk (by rfl) (a_slot 0 (a_val d_int a_nil)))) d_int (nomark _)))))) (s_one (s_app 5 (d_var 7 (nb hZ (by decide))))) s_nil))))
      (s_cons (s_if (t_cmp op_lt od_lt (d_lenSet rfl (u64 hr) (by rfl) m_len (by rfl) m_set (a_val (d_var 5 (nb hZ (by decide))) a_nil)) d_int (nomark _)) (s_one (s_set 5 (nb hZ (by decide)) (w_cat (d_sl01 (d_var 5 (nb hZ (by decide))) d_int) (d_frz (w_lst (a_val (d_frz (w_fn c__law_sum hr tk (by rfl) (a_val (d_ixV 5 d_int) (a_val (d_tup (a_val (d_op op_addA od_add d_int (d_frz (w_fn c__law_take hr tk (by rfl) (a_slot 0 (a_val d_int a_nil))))) (a_val d_int a_nil))) a_nil)))) a_nil)))) sc__law_rows_between.nd (by first | exact Or.inl rfl | exact Or.inr rfl))) s_nil)
      (s_one (s_app 3 (d_var 5 (nb hZ (by decide)))))))))
      (s_one (s_ret (w_var 3 (nb hZ (by decide)))))))
abbrev s__law_steps_between : Stmt := topS 39
theorem sc__law_steps_between : FnScope ["_law_box_here", "_law_row", "_law_one_here", "_law_other", "_law_k"] ["_law_box_here", "_law_row"] (defScope s__law_steps_between) := ⟨rfl, rfl, rfl, by decide +kernel, rfl, by decide +kernel, by decide +kernel⟩
theorem ok__law_steps_between {k : Nat} {g__law_take g__law_one g__law_under : FnD} (D : DefAt K mg "_law_steps_between" s__law_steps_between ["_law_box_here", "_law_row"]) (m_len : mg "len" = none) (m_range : mg "range" = none) (c__law_take : FnAt P w K mg base k "_law_take" 2 g__law_take) (c__law_one : FnAt P w K mg base k "_law_one" 2 g__law_one) (c__law_under : FnAt P w K mg base k "_law_under" 2 g__law_under) :
    FnAt P w K mg base (k + 1) "_law_steps_between" 2 (callF 5 [0] (b__law_steps_between g__law_take g__law_one g__law_under)) :=
  fn_at [0] D sc__law_steps_between fun f cdv A outer s H E Z hZ hr => by
    have tk : Takes (cxOf (L2.CX P w) P w K mg base ["_law_box_here", "_law_row", "_law_one_here", "_law_other", "_law_k"] "_law_steps_between" (defScope s__law_steps_between) f cdv A outer s H E) (fun cls d _ H => E cls d H) := takes_of rfl rfl rfl rfl
    exact (s_cons (s_set 2 (nb hZ (by decide)) (w_fn c__law_take hr tk (by rfl) (a_slot 0 (a_val (d_cb cd_len call_len (by rfl) m_len (by decide +kernel) (a_val (d_var 1 (nb hZ (by decide))) a_nil)) a_nil))) sc__law_steps_between.nd (by first | exact Or.inl rfl | exact Or.inr rfl))
      (s_cons (s_set 3 (nb hZ (by decide)) (w_fn c__law_one hr tk (by rfl) (a_slot 0 (a_val (d_frz (w_lc rfl sc__law_steps_between.nd (i_range1 (by rfl) m_range (a_val (d_cb cd_len call_len (by rfl) m_len (by decide +kernel) (a_val (d_var 1 (nb hZ (by decide))) a_nil)) a_nil)) (blkOk_by (own := [("_law_k", 4)]) (N := ["_law_box_here", "_law_row", "_law_one_here", "_law_other", "_law_k"]) (sc := defScope s__law_steps_between) (by decide +kernel)) rfl (nbs hZ (by decide)) (by decide) (fun _ _ _ _ _ P2 hP2 => (g_name 4 (nb (nbt hP2 hZ) (by decide)) sc__law_steps_between.nd (by first | exact Or.inl rfl | exact Or.inr rfl))) (fun _ _ _ _ _ P2 hP2 => (ts_one (t_cmp (op_neA hr.units) od_ne (d_sub (d_var 1 (nb (nbt hP2 hZ) (by decide))) (d_var 4 (nb (nbt hP2 hZ) (by decide)))) (d_sub (d_var 1 (nb (nbt hP2 hZ) (by decide))) (d_var 2 (nb (nbt hP2 hZ) (by decide)))) (nomark _)))) (fun _ _ _ _ _ P2 hP2 => (d_var 4 (nb (nbt hP2 hZ) (by decide)))))) a_nil))) sc__law_steps_between.nd (by first | exact Or.inl rfl | exact Or.inr rfl))
      (s_one (s_ret (w_ite (t_val (d_frz (w_fn c__law_under hr tk (by rfl) (a_val (d_sub (d_var 1 (nb hZ (by decide))) (d_var 3 (nb hZ (by decide)))) (a_val (d_sub (d_var 1 (nb hZ (by decide))) (d_var 2 (nb hZ (by decide)))) a_nil))))) (w_sh (d_tup (a_val (d_var 2 (nb hZ (by decide))) (a_val (d_var 3 (nb hZ (by decide))) a_nil)))) (w_sh (d_tup (a_val (d_var 3 (nb hZ (by decide))) (a_val (d_var 2 (nb hZ (by decide))) a_nil)))))))))
abbrev s__law_fair : Stmt := topS 40
theorem sc__law_fair : FnScope ["_law_box_here", "_law_dates", "_law_most", "_law_prices", "_law_rates", "_law_steps", "_law_date", "_law_price", "_law_up", "_law_down", "_law_whole", "_law_share", "_law_high", "_law_low_here", "_law_grown"] ["_law_box_here", "_law_dates", "_law_most"] (defScope s__law_fair) := ⟨rfl, rfl, rfl, by decide +kernel, rfl, by decide +kernel, by decide +kernel⟩
theorem ok__law_fair {k : Nat} {g__law_rows_between g__law_steps_between g__law_take g__law_sum g__law_product g__law_less_by g__law_share_of : FnD} (D : DefAt K mg "_law_fair" s__law_fair ["_law_box_here", "_law_dates", "_law_most"]) (m_range : mg "range" = none) (c__law_rows_between : FnAt P w K mg base k "_law_rows_between" 3 g__law_rows_between) (c__law_steps_between : FnAt P w K mg base k "_law_steps_between" 2 g__law_steps_between) (c__law_take : FnAt P w K mg base k "_law_take" 2 g__law_take) (c__law_sum : FnAt P w K mg base k "_law_sum" 2 g__law_sum) (c__law_product : FnAt P w K mg base k "_law_product" 2 g__law_product) (c__law_less_by : FnAt P w K mg base k "_law_less_by" 2 g__law_less_by) (c__law_share_of : FnAt P w K mg base k "_law_share_of" 2 g__law_share_of) :
    FnAt P w K mg base (k + 1) "_law_fair" 3 (callF 15 [0] (b__law_fair g__law_rows_between g__law_steps_between g__law_take g__law_sum g__law_product g__law_less_by g__law_share_of)) :=
  fn_at [0] D sc__law_fair fun f cdv A outer s H E Z hZ hr => by
    have tk : Takes (cxOf (L2.CX P w) P w K mg base ["_law_box_here", "_law_dates", "_law_most", "_law_prices", "_law_rates", "_law_steps", "_law_date", "_law_price", "_law_up", "_law_down", "_law_whole", "_law_share", "_law_high", "_law_low_here", "_law_grown"] "_law_fair" (defScope s__law_fair) f cdv A outer s H E) (fun cls d _ H => E cls d H) := takes_of rfl rfl rfl rfl
    exact (s_cons (s_set 3 (nb hZ (by decide)) (w_fn c__law_rows_between hr tk (by rfl) (a_slot 0 (a_val (d_var 1 (nb hZ (by decide))) (a_val (d_var 2 (nb hZ (by decide))) a_nil)))) sc__law_fair.nd (by first | exact Or.inl rfl | exact Or.inr rfl))
      (s_cons (s_newT2 4 5 (nb hZ (by decide)) (nb hZ (by decide)) rfl sc__law_fair.nd)
      (s_cons (s_for (passes_of rfl) rfl (i_range1 (by rfl) m_range (a_val (d_op op_sub od_sub (d_var 1 (nb hZ (by decide))) d_int) a_nil)) (g_name 6 (nb hZ (by decide)) sc__law_fair.nd (by first | exact Or.inl rfl | exact Or.inr rfl)) (s_cons (s_appN (f_var 4))
      (s_cons (s_appN (f_var 5))
      (s_one (s_for (passes_of rfl) rfl (i_seq (d_ixV 3 (d_var 6 (nb hZ (by decide))))) (g_name 7 (nb hZ (by decide)) sc__law_fair.nd (by first | exact Or.inl rfl | exact Or.inr rfl)) (s_cons (s_asgT (g_tup rfl (g_cons (g_name 8 (nb hZ (by decide)) sc__law_fair.nd (by first | exact Or.inl rfl | exact Or.inr rfl)) (g_cons (g_name 9 (nb hZ (by decide)) sc__law_fair.nd (by first | exact Or.inl rfl | exact Or.inr rfl)) g_nil))) (d_frz (w_fn c__law_steps_between hr tk (by rfl) (a_slot 0 (a_val (d_ixV 3 (d_op op_addA od_add (d_var 6 (nb hZ (by decide))) d_int)) a_nil)))))
      (s_cons (s_set 10 (nb hZ (by decide)) (w_sh (d_op op_addA od_add d_int (d_frz (w_fn c__law_take hr tk (by rfl) (a_slot 0 (a_val d_int a_nil)))))) sc__law_fair.nd (by first | exact Or.inl rfl | exact Or.inr rfl))
      (s_cons (s_set 11 (nb hZ (by decide)) (w_sh (d_tup (a_val (d_op op_addA od_add d_int (d_frz (w_fn c__law_take hr tk (by rfl) (a_slot 0 (a_val (d_op op_sub od_sub (d_var 10 (nb hZ (by decide))) d_int) a_nil))))) (a_val (d_var 10 (nb hZ (by decide))) a_nil)))) sc__law_fair.nd (by first | exact Or.inl rfl | exact Or.inr rfl))
      (s_cons (s_par 12 13 (nb hZ (by decide)) (nb hZ (by decide)) rfl sc__law_fair.nd (a_val (d_sub (d_ixV 3 (d_op op_addA od_add (d_var 6 (nb hZ (by decide))) d_int)) (d_var 8 (nb hZ (by decide)))) (a_val (d_sub (d_ixV 3 (d_op op_addA od_add (d_var 6 (nb hZ (by decide))) d_int)) (d_var 9 (nb hZ (by decide)))) a_nil)))
      (s_cons (s_set 14 (nb hZ (by decide)) (w_fn c__law_sum hr tk (by rfl) (a_val (d_var 13 (nb hZ (by decide))) (a_val (d_frz (w_fn c__law_product hr tk (by rfl) (a_val (d_var 11 (nb hZ (by decide))) (a_val (d_frz (w_fn c__law_less_by hr tk (by rfl) (a_val (d_var 12 (nb hZ (by decide))) (a_val (d_var 13 (nb hZ (by decide))) a_nil)))) a_nil)))) a_nil))) sc__law_fair.nd (by first | exact Or.inl rfl | exact Or.inr rfl))
      (s_cons (s_appQ (f_ix (Wx := W0) (f_var 4) (q_var 6)) (q_fn c__law_share_of hr tk (by rfl) (qa_cons (q_var 14) (qa_cons (q_var 7) qa_nil))))
      (s_one (s_appQ (f_ix (Wx := W0) (f_var 5) (q_var 6)) (q_tup (qa_cons (q_var 8) (qa_cons (q_var 9) qa_nil))))))))))))))))
      (s_one (s_ret (w_disp (ks := ["prices", "rates", "steps"]) (js := [3, 4, 5]) (nbs hZ (by decide)) (pps_cons pe_str (pe_var (i := 3) rfl (by first | exact Or.inl rfl | exact Or.inr (Or.inl rfl) | exact Or.inr (Or.inr rfl))) (pps_cons pe_str (pe_var (i := 4) rfl (by first | exact Or.inl rfl | exact Or.inr (Or.inl rfl) | exact Or.inr (Or.inr rfl))) (pps_cons pe_str (pe_var (i := 5) rfl (by first | exact Or.inl rfl | exact Or.inr (Or.inl rfl) | exact Or.inr (Or.inr rfl))) pps_nil))) (hm := fun vs h => match vs, h with | [_, _, _], _ => rfl)))))))
abbrev s__law_loose : Stmt := topS 41
theorem sc__law_loose : FnScope ["_law_box_here", "_law_dates", "_law_most", "_law_found", "_law_date", "_law_k"] ["_law_box_here", "_law_dates", "_law_most"] (defScope s__law_loose) := ⟨rfl, rfl, rfl, by decide +kernel, rfl, by decide +kernel, by decide +kernel⟩
theorem ok__law_loose {k : Nat} {g__law_fair g__law_take g__law_above : FnD} (D : DefAt K mg "_law_loose" s__law_loose ["_law_box_here", "_law_dates", "_law_most"]) (m_range : mg "range" = none) (m_len : mg "len" = none) (c__law_fair : FnAt P w K mg base k "_law_fair" 3 g__law_fair) (c__law_take : FnAt P w K mg base k "_law_take" 2 g__law_take) (c__law_above : FnAt P w K mg base k "_law_above" 2 g__law_above) :
    FnAt P w K mg base (k + 1) "_law_loose" 3 (callF 6 [0] (b__law_loose g__law_fair g__law_take g__law_above)) :=
  fn_at [0] D sc__law_loose fun f cdv A outer s H E Z hZ hr => by
    have tk : Takes (cxOf (L2.CX P w) P w K mg base ["_law_box_here", "_law_dates", "_law_most", "_law_found", "_law_date", "_law_k"] "_law_loose" (defScope s__law_loose) f cdv A outer s H E) (fun cls d _ H => E cls d H) := takes_of rfl rfl rfl rfl
    exact (s_cons (s_set 3 (nb hZ (by decide)) (w_fn c__law_fair hr tk (by rfl) (a_slot 0 (a_val (d_var 1 (nb hZ (by decide))) (a_val (d_var 2 (nb hZ (by decide))) a_nil)))) sc__law_loose.nd (by first | exact Or.inl rfl | exact Or.inr rfl))
      (s_cons (s_for (passes_of rfl) rfl (i_range1 (by rfl) m_range (a_val (d_op op_sub od_sub (d_var 1 (nb hZ (by decide))) d_int) a_nil)) (g_name 4 (nb hZ (by decide)) sc__law_loose.nd (by first | exact Or.inl rfl | exact Or.inr rfl)) (s_one (s_for (passes_of rfl) rfl (i_range1 (by rfl) m_range (a_val (d_q (q_cb cd_len call_len (by rfl) m_len (by decide +kernel) (qa_cons (q_sub (q_dget (u1 hr) (q_var 3) q_str) (q_var 4)) qa_nil))) a_nil)) (g_name 5 (nb hZ (by decide)) sc__law_loose.nd (by first | exact Or.inl rfl | exact Or.inr rfl)) (s_one (s_if (t_cmp op_gt od_gt (d_frz (w_fn c__law_take hr tk (by rfl) (a_slot 0 (a_val d_int a_nil)))) d_int (nomark _)) (s_one (s_putF (f_ix (Wx := W0) (f_key (u1 hr) (f_var 3)) (q_var 4)) (q_var 5) (d_frz (w_fn c__law_above hr tk (by rfl) (a_slot 0 (a_val d_int a_nil)))))) s_nil)))))
      (s_one (s_ret (w_var 3 (nb hZ (by decide)))))))
abbrev s__law_rimmed : Stmt := topS 42
theorem sc__law_rimmed : FnScope ["_law_box_here", "_law_web_here", "_law_date", "_law_node", "_law_rim"] ["_law_box_here", "_law_web_here"] (defScope s__law_rimmed) := ⟨rfl, rfl, rfl, by decide +kernel, rfl, by decide +kernel, by decide +kernel⟩
theorem ok__law_rimmed {k : Nat} {g__law_take g__law_ahead g__law_share_of : FnD} (D : DefAt K mg "_law_rimmed" s__law_rimmed ["_law_box_here", "_law_web_here"]) (m_len : mg "len" = none) (c__law_take : FnAt P w K mg base k "_law_take" 2 g__law_take) (c__law_ahead : FnAt P w K mg base k "_law_ahead" 3 g__law_ahead) (c__law_share_of : FnAt P w K mg base k "_law_share_of" 2 g__law_share_of) :
    FnAt P w K mg base (k + 1) "_law_rimmed" 2 (callF 5 [0] (b__law_rimmed g__law_take g__law_ahead g__law_share_of)) :=
  fn_at [0] D sc__law_rimmed fun f cdv A outer s H E Z hZ hr => by
    have tk : Takes (cxOf (L2.CX P w) P w K mg base ["_law_box_here", "_law_web_here", "_law_date", "_law_node", "_law_rim"] "_law_rimmed" (defScope s__law_rimmed) f cdv A outer s H E) (fun cls d _ H => E cls d H) := takes_of rfl rfl rfl rfl
    exact (s_cons (s_if (tq_cmp (op_neA hr.units) od_ne (q_dget (u1 hr) (q_var 1) q_str) (q_lst qa_nil) (nomark _)) (s_cons (s_set 2 (nb hZ (by decide)) (w_fn c__law_take hr tk (by rfl) (a_slot 0 (a_val (d_q (q_cb cd_len call_len (by rfl) m_len (by decide +kernel) (qa_cons (q_dget (u1 hr) (q_var 1) q_str) qa_nil))) a_nil))) sc__law_rimmed.nd (by first | exact Or.inl rfl | exact Or.inr rfl))
      (s_cons (s_set 3 (nb hZ (by decide)) (w_fn c__law_take hr tk (by rfl) (a_slot 0 (a_val (d_q (q_cb cd_len call_len (by rfl) m_len (by decide +kernel) (qa_cons (q_sub (q_dget (u1 hr) (q_var 1) q_str) (q_var 2)) qa_nil))) a_nil))) sc__law_rimmed.nd (by first | exact Or.inl rfl | exact Or.inr rfl))
      (s_cons (s_set 4 (nb hZ (by decide)) (w_sh (d_sub (d_q (q_fn c__law_ahead hr tk (by rfl) (qa_cons (q_var 1) (qa_cons (q_var 2) (qa_cons (q_var 3) qa_nil))))) (d_frz (w_fn c__law_take hr tk (by rfl) (a_slot 0 (a_val d_int a_nil)))))) sc__law_rimmed.nd (by first | exact Or.inl rfl | exact Or.inr rfl))
      (s_one (s_putF (f_ix (Wx := W0) (f_key (u1 hr) (f_var 1)) (q_var 2)) (q_var 3) (d_q (q_fn c__law_share_of hr tk (by rfl) (qa_cons (q_var 4) (qa_cons (q_sub (q_sub (q_dget (u1 hr) (q_var 1) q_str) (q_var 2)) (q_var 3)) qa_nil))))))))) s_nil)
      (s_one (s_ret (w_var 1 (nb hZ (by decide))))))
abbrev s__law_web : Stmt := topS 43
theorem sc__law_web : FnScope ["_law_web_here"] ["_law_web_here"] (defScope s__law_web) := ⟨rfl, rfl, rfl, by decide +kernel, rfl, by decide +kernel, by decide +kernel⟩
theorem ok__law_web {k : Nat} {g_Lattice___init__ : FnD} (D : DefAt K mg "_law_web" s__law_web ["_law_web_here"]) {j_Lattice___init__ : Nat} (hj_Lattice___init__ : j_Lattice___init__ + 1 ≤ k) (c_Lattice___init__ : MkAt P w K mg base j_Lattice___init__ "Lattice" 4 g_Lattice___init__) :
    FnAt P w K mg base (k + 1) "_law_web" 1 (callF 1 [] (b__law_web g_Lattice___init__)) :=
  fn_at [] D sc__law_web fun f cdv A outer s H E Z hZ hr => by
    have tk : Takes (cxOf (L2.CX P w) P w K mg base ["_law_web_here"] "_law_web" (defScope s__law_web) f cdv A outer s H E) (fun cls d _ H => E cls d H) := takes_of rfl rfl rfl rfl
    exact (s_one (s_ret (w_make c_Lattice___init__ (hr.mono hj_Lattice___init__) tk (by rfl) (a_val (d_dget (u1 hr) (d_var 0 (nb hZ (by decide))) d_str) (a_val (d_dget (u1 hr) (d_var 0 (nb hZ (by decide))) d_str) (a_val (d_dget (u1 hr) (d_var 0 (nb hZ (by decide))) d_str) a_nil))))))
abbrev s__law_ahead : Stmt := topS 44
theorem sc__law_ahead : FnScope ["_law_web_here", "_law_date", "_law_node", "_law_up", "_law_down"] ["_law_web_here", "_law_date", "_law_node"] (defScope s__law_ahead) := ⟨rfl, rfl, rfl, by decide +kernel, rfl, by decide +kernel, by decide +kernel⟩
theorem ok__law_ahead {k : Nat} (D : DefAt K mg "_law_ahead" s__law_ahead ["_law_web_here", "_law_date", "_law_node"]) :
    FnAt P w K mg base (k + 1) "_law_ahead" 3 (callF 5 [] (b__law_ahead)) :=
  fn_at [] D sc__law_ahead fun f cdv A outer s H E Z hZ hr => by
    have tk : Takes (cxOf (L2.CX P w) P w K mg base ["_law_web_here", "_law_date", "_law_node", "_law_up", "_law_down"] "_law_ahead" (defScope s__law_ahead) f cdv A outer s H E) (fun cls d _ H => E cls d H) := takes_of rfl rfl rfl rfl
    exact (s_cons (s_asgT (g_tup rfl (g_cons (g_name 3 (nb hZ (by decide)) sc__law_ahead.nd (by first | exact Or.inl rfl | exact Or.inr rfl)) (g_cons (g_name 4 (nb hZ (by decide)) sc__law_ahead.nd (by first | exact Or.inl rfl | exact Or.inr rfl)) g_nil))) (d_sub (d_sub (d_dget (u1 hr) (d_var 0 (nb hZ (by decide))) d_str) (d_var 1 (nb hZ (by decide)))) (d_var 2 (nb hZ (by decide)))))
      (s_one (s_ret (w_sh (d_tup (a_val (d_sub (d_sub (d_dget (u1 hr) (d_var 0 (nb hZ (by decide))) d_str) (d_op op_addA od_add (d_var 1 (nb hZ (by decide))) d_int)) (d_var 3 (nb hZ (by decide)))) (a_val (d_sub (d_sub (d_dget (u1 hr) (d_var 0 (nb hZ (by decide))) d_str) (d_op op_addA od_add (d_var 1 (nb hZ (by decide))) d_int)) (d_var 4 (nb hZ (by decide)))) a_nil)))))))
abbrev s__law_weight : Stmt := topS 45
theorem sc__law_weight : FnScope ["_law_web_here", "_law_date", "_law_node", "_law_high", "_law_low_here", "_law_grown"] ["_law_web_here", "_law_date", "_law_node"] (defScope s__law_weight) := ⟨rfl, rfl, rfl, by decide +kernel, rfl, by decide +kernel, by decide +kernel⟩
theorem ok__law_weight {k : Nat} {g__law_ahead g__law_product g__law_share_of g__law_less_by : FnD} (D : DefAt K mg "_law_weight" s__law_weight ["_law_web_here", "_law_date", "_law_node"]) (c__law_ahead : FnAt P w K mg base k "_law_ahead" 3 g__law_ahead) (c__law_product : FnAt P w K mg base k "_law_product" 2 g__law_product) (c__law_share_of : FnAt P w K mg base k "_law_share_of" 2 g__law_share_of) (c__law_less_by : FnAt P w K mg base k "_law_less_by" 2 g__law_less_by) :
    FnAt P w K mg base (k + 1) "_law_weight" 3 (callF 6 [] (b__law_weight g__law_ahead g__law_product g__law_share_of g__law_less_by)) :=
  fn_at [] D sc__law_weight fun f cdv A outer s H E Z hZ hr => by
    have tk : Takes (cxOf (L2.CX P w) P w K mg base ["_law_web_here", "_law_date", "_law_node", "_law_high", "_law_low_here", "_law_grown"] "_law_weight" (defScope s__law_weight) f cdv A outer s H E) (fun cls d _ H => E cls d H) := takes_of rfl rfl rfl rfl
    exact (s_cons (s_asgT (g_tup rfl (g_cons (g_name 3 (nb hZ (by decide)) sc__law_weight.nd (by first | exact Or.inl rfl | exact Or.inr rfl)) (g_cons (g_name 4 (nb hZ (by decide)) sc__law_weight.nd (by first | exact Or.inl rfl | exact Or.inr rfl)) g_nil))) (d_frz (w_fn c__law_ahead hr tk (by rfl) (a_val (d_var 0 (nb hZ (by decide))) (a_val (d_var 1 (nb hZ (by decide))) (a_val (d_var 2 (nb hZ (by decide))) a_nil))))))
      (s_cons (s_set 5 (nb hZ (by decide)) (w_fn c__law_product hr tk (by rfl) (a_val (d_sub (d_sub (d_dget (u1 hr) (d_var 0 (nb hZ (by decide))) d_str) (d_var 1 (nb hZ (by decide)))) (d_var 2 (nb hZ (by decide)))) (a_val (d_sub (d_sub (d_dget (u1 hr) (d_var 0 (nb hZ (by decide))) d_str) (d_var 1 (nb hZ (by decide)))) (d_var 2 (nb hZ (by decide)))) a_nil))) sc__law_weight.nd (by first | exact Or.inl rfl | exact Or.inr rfl))
      (s_one (s_ret (w_fn c__law_share_of hr tk (by rfl) (a_val (d_frz (w_fn c__law_less_by hr tk (by rfl) (a_val (d_var 5 (nb hZ (by decide))) (a_val (d_var 4 (nb hZ (by decide))) a_nil)))) (a_val (d_frz (w_fn c__law_less_by hr tk (by rfl) (a_val (d_var 3 (nb hZ (by decide))) (a_val (d_var 4 (nb hZ (by decide))) a_nil)))) a_nil)))))))
abbrev s__law_win : Stmt := topS 46
theorem sc__law_win : FnScope ["_law_web_here", "_law_date", "_law_node", "_law_high", "_law_low_here", "_law_price", "_law_grown"] ["_law_web_here"] (defScope s__law_win) := ⟨rfl, rfl, rfl, by decide +kernel, rfl, by decide +kernel, by decide +kernel⟩
theorem ok__law_win {k : Nat} {g__law_ahead g__law_product g__law_under g__law_turned_sign : FnD} (D : DefAt K mg "_law_win" s__law_win ["_law_web_here"]) (m_len : mg "len" = none) (m_range : mg "range" = none) (c__law_ahead : FnAt P w K mg base k "_law_ahead" 3 g__law_ahead) (c__law_product : FnAt P w K mg base k "_law_product" 2 g__law_product) (c__law_under : FnAt P w K mg base k "_law_under" 2 g__law_under) (c__law_turned_sign : FnAt P w K mg base k "_law_turned_sign" 1 g__law_turned_sign) :
    FnAt P w K mg base (k + 1) "_law_win" 1 (callF 7 [] (b__law_win g__law_ahead g__law_product g__law_under g__law_turned_sign)) :=
  fn_at [] D sc__law_win fun f cdv A outer s H E Z hZ hr => by
    have tk : Takes (cxOf (L2.CX P w) P w K mg base ["_law_web_here", "_law_date", "_law_node", "_law_high", "_law_low_here", "_law_price", "_law_grown"] "_law_win" (defScope s__law_win) f cdv A outer s H E) (fun cls d _ H => E cls d H) := takes_of rfl rfl rfl rfl
    exact (s_cons (s_for (passes_of rfl) rfl (i_range1 (by rfl) m_range (a_val (d_cb cd_len call_len (by rfl) m_len (by decide +kernel) (a_val (d_dget (u1 hr) (d_var 0 (nb hZ (by decide))) d_str) a_nil)) a_nil)) (g_name 1 (nb hZ (by decide)) sc__law_win.nd (by first | exact Or.inl rfl | exact Or.inr rfl)) (s_one (s_for (passes_of rfl) rfl (i_range1 (by rfl) m_range (a_val (d_cb cd_len call_len (by rfl) m_len (by decide +kernel) (a_val (d_sub (d_dget (u1 hr) (d_var 0 (nb hZ (by decide))) d_str) (d_var 1 (nb hZ (by decide)))) a_nil)) a_nil)) (g_name 2 (nb hZ (by decide)) sc__law_win.nd (by first | exact Or.inl rfl | exact Or.inr rfl)) (s_cons (s_asgT (g_tup rfl (g_cons (g_name 3 (nb hZ (by decide)) sc__law_win.nd (by first | exact Or.inl rfl | exact Or.inr rfl)) (g_cons (g_name 4 (nb hZ (by decide)) sc__law_win.nd (by first | exact Or.inl rfl | exact Or.inr rfl)) g_nil))) (d_frz (w_fn c__law_ahead hr tk (by rfl) (a_val (d_var 0 (nb hZ (by decide))) (a_val (d_var 1 (nb hZ (by decide))) (a_val (d_var 2 (nb hZ (by decide))) a_nil))))))
      (s_cons (s_set 5 (nb hZ (by decide)) (w_sh (d_sub (d_sub (d_dget (u1 hr) (d_var 0 (nb hZ (by decide))) d_str) (d_var 1 (nb hZ (by decide)))) (d_var 2 (nb hZ (by decide))))) sc__law_win.nd (by first | exact Or.inl rfl | exact Or.inr rfl))
      (s_cons (s_set 6 (nb hZ (by decide)) (w_fn c__law_product hr tk (by rfl) (a_val (d_sub (d_sub (d_dget (u1 hr) (d_var 0 (nb hZ (by decide))) d_str) (d_var 1 (nb hZ (by decide)))) (d_var 2 (nb hZ (by decide)))) (a_val (d_var 5 (nb hZ (by decide))) a_nil))) sc__law_win.nd (by first | exact Or.inl rfl | exact Or.inr rfl))
      (s_cons (s_if (t_not (t_val (d_frz (w_fn c__law_under hr tk (by rfl) (a_val (d_var 4 (nb hZ (by decide))) (a_val (d_var 6 (nb hZ (by decide))) a_nil)))))) (s_one (s_ret (w_sh (d_tup (a_val (d_var 1 (nb hZ (by decide))) (a_val (d_var 2 (nb hZ (by decide))) (a_val (d_tup (a_val d_int (a_val d_int a_nil))) (a_val (d_frz (w_fn c__law_turned_sign hr tk (by rfl) (a_val (d_var 5 (nb hZ (by decide))) a_nil))) a_nil)))))))) s_nil)
      (s_one (s_if (t_not (t_val (d_frz (w_fn c__law_under hr tk (by rfl) (a_val (d_var 6 (nb hZ (by decide))) (a_val (d_var 3 (nb hZ (by decide))) a_nil)))))) (s_one (s_ret (w_sh (d_tup (a_val (d_var 1 (nb hZ (by decide))) (a_val (d_var 2 (nb hZ (by decide))) (a_val (d_tup (a_val (d_un un_neg ud_neg d_int) (a_val d_int a_nil))) (a_val (d_var 5 (nb hZ (by decide))) a_nil)))))))) s_nil)))))))))
      (s_one (s_ret (w_sh d_non))))
abbrev s_law : Stmt := topS 47
theorem sc_law : FnScope ["_law_script", "_law_box_here", "_law_turn", "_law_dates", "_law_most", "_law_web_here", "_law_made", "_law_again", "_law_date", "_law_node"] ["_law_script"] (defScope s_law) := ⟨rfl, rfl, rfl, by decide +kernel, rfl, by decide +kernel, by decide +kernel⟩
theorem ok_law {k : Nat} {f : Addr} {fd : FuncData} {g__law_box g__law_take g__law_fair g__law_loose g__law_rimmed g__law_web g__law_same g__law_win g_Lattice_win g__law_weight g_Lattice_share : FnD} (D : Fun K "law" "law" s_law f fd) (m_range : mg "range" = none) (m_len : mg "len" = none) (c__law_box : FnAt P w K mg base k "_law_box" 1 g__law_box) (c__law_take : FnAt P w K mg base k "_law_take" 2 g__law_take) (c__law_fair : FnAt P w K mg base k "_law_fair" 3 g__law_fair) (c__law_loose : FnAt P w K mg base k "_law_loose" 3 g__law_loose) (c__law_rimmed : FnAt P w K mg base k "_law_rimmed" 2 g__law_rimmed) (c__law_web : FnAt P w K mg base k "_law_web" 1 g__law_web) (c__law_same : FnAt P w K mg base k "_law_same" 2 g__law_same) (c__law_win : FnAt P w K mg base k "_law_win" 1 g__law_win) (c_Lattice_win : MtAt P w K mg base k "Lattice" "win" 1 g_Lattice_win) (c__law_weight : FnAt P w K mg base k "_law_weight" 3 g__law_weight) (c_Lattice_share : MtAt P w K mg base k "Lattice" "share" 3 g_Lattice_share) :
    FnOk P w K mg base (L2.CX P w) (k + 1) f fd ["_law_script"] (spF K 1 (callF 10 [] (b_law g__law_box g__law_take g__law_fair g__law_loose g__law_rimmed g__law_web g__law_same g__law_win g_Lattice_win g__law_weight g_Lattice_share))) :=
  fn_okD [] D sc_law fun cdv A outer s H E Z hZ hr => by
    have tk : Takes (cxOf (L2.CX P w) P w K mg base ["_law_script", "_law_box_here", "_law_turn", "_law_dates", "_law_most", "_law_web_here", "_law_made", "_law_again", "_law_date", "_law_node"] "law" (defScope s_law) f cdv A outer s H E) (fun cls d _ H => E cls d H) := takes_of rfl rfl rfl rfl
    exact (s_cons (s_set 1 (nb hZ (by decide)) (w_fn c__law_box hr tk (by rfl) (a_val (d_var 0 (nb hZ (by decide))) a_nil)) sc_law.nd (by first | exact Or.inl rfl | exact Or.inr rfl))
      (s_cons (s_for (passes_of rfl) rfl (i_range1 (by rfl) m_range (a_val d_int a_nil)) (g_name 2 (nb hZ (by decide)) sc_law.nd (by first | exact Or.inl rfl | exact Or.inr rfl)) (s_cons (s_par 3 4 (nb hZ (by decide)) (nb hZ (by decide)) rfl sc_law.nd (a_val (d_op op_addA od_add d_int (d_frz (w_fn c__law_take hr tk (by rfl) (a_slot 1 (a_val d_int a_nil))))) (a_val (d_op op_addA od_add d_int (d_frz (w_fn c__law_take hr tk (by rfl) (a_slot 1 (a_val d_int a_nil))))) a_nil)))
      (s_cons (s_set 5 (nb hZ (by decide)) (w_ite (t_cmp (op_eqA hr.units) od_eq (d_frz (w_fn c__law_take hr tk (by rfl) (a_slot 1 (a_val d_int a_nil)))) d_int (nomark _)) (w_fn c__law_fair hr tk (by rfl) (a_slot 1 (a_val (d_var 3 (nb hZ (by decide))) (a_val (d_var 4 (nb hZ (by decide))) a_nil)))) (w_fn c__law_loose hr tk (by rfl) (a_slot 1 (a_val (d_var 3 (nb hZ (by decide))) (a_val (d_var 4 (nb hZ (by decide))) a_nil))))) sc_law.nd (by first | exact Or.inl rfl | exact Or.inr rfl))
      (s_cons (s_if (t_cmp (op_eqA hr.units) od_eq (d_frz (w_fn c__law_take hr tk (by rfl) (a_slot 1 (a_val d_int a_nil)))) d_int (nomark _)) (s_one (s_set 5 (nb hZ (by decide)) (w_fn c__law_rimmed hr tk (by rfl) (a_slot 1 (a_tmp (w_fn c__law_fair hr tk (by rfl) (a_slot 1 (a_val (d_var 3 (nb hZ (by decide))) (a_val (d_var 4 (nb hZ (by decide))) a_nil))))))) sc_law.nd (by first | exact Or.inl rfl | exact Or.inr rfl))) s_nil)
      (s_cons (s_set 6 (nb hZ (by decide)) (w_fn c__law_web hr tk (by rfl) (a_val (d_var 5 (nb hZ (by decide))) a_nil)) sc_law.nd (by first | exact Or.inl rfl | exact Or.inr rfl))
      (s_cons (s_for (passes_of rfl) rfl (i_range1 (by rfl) m_range (a_val d_int a_nil)) (g_name 7 (nb hZ (by decide)) sc_law.nd (by first | exact Or.inl rfl | exact Or.inr rfl)) (s_one (s_if (t_not (t_val (d_frz (w_fn c__law_same hr tk (by rfl) (a_val (d_frz (w_meth0 c_Lattice_win hr tk (d_var 6 (nb hZ (by decide))))) (a_val (d_frz (w_fn c__law_win hr tk (by rfl) (a_val (d_var 5 (nb hZ (by decide))) a_nil))) a_nil)))))) (s_one (s_ret (w_sh d_bl))) s_nil)))
      (s_one (s_for (passes_of rfl) rfl (i_range1 (by rfl) m_range (a_val (d_cb cd_len call_len (by rfl) m_len (by decide +kernel) (a_val (d_dget (u1 hr) (d_var 5 (nb hZ (by decide))) d_str) a_nil)) a_nil)) (g_name 8 (nb hZ (by decide)) sc_law.nd (by first | exact Or.inl rfl | exact Or.inr rfl)) (s_one (s_for (passes_of rfl) rfl (i_range1 (by rfl) m_range (a_val (d_cb cd_len call_len (by rfl) m_len (by decide +kernel) (a_val (d_sub (d_dget (u1 hr) (d_var 5 (nb hZ (by decide))) d_str) (d_var 8 (nb hZ (by decide)))) a_nil)) a_nil)) (g_name 9 (nb hZ (by decide)) sc_law.nd (by first | exact Or.inl rfl | exact Or.inr rfl)) (s_one (s_if (t_not (t_val (d_frz (w_fn c__law_same hr tk (by rfl) (a_val (d_frz (w_meth c_Lattice_share hr tk (d_var 6 (nb hZ (by decide))) (a_val (d_var 8 (nb hZ (by decide))) (a_val (d_var 9 (nb hZ (by decide))) a_nil)))) (a_val (d_frz (w_fn c__law_weight hr tk (by rfl) (a_val (d_var 5 (nb hZ (by decide))) (a_val (d_var 8 (nb hZ (by decide))) (a_val (d_var 9 (nb hZ (by decide))) a_nil))))) a_nil)))))) (s_one (s_ret (w_sh d_bl))) s_nil))))))))))))
      (s_one (s_ret (w_sh d_bl)))))
abbrev s_Lattice___init__ : Stmt := inClass (topS 23) 0
theorem sc_Lattice___init__ : FnScope ["self", "prices", "rates", "steps", "row", "up", "down"] ["self", "prices", "rates", "steps"] (defScope s_Lattice___init__) := ⟨rfl, rfl, rfl, by decide +kernel, rfl, by decide +kernel, by decide +kernel⟩
theorem ok_Lattice___init__ {k : Nat} {g_look_shape g_look_above g_look_steps : FnD} (D : MkDefAt K mg "Lattice" s_Lattice___init__ ["self", "prices", "rates", "steps"]) (m_list : mg "list" = none) (c_look_shape : FnAt P w K mg base k "look_shape" 3 g_look_shape) (k_look_above_1_rated : CallAt P w K mg base k "look_above" 1 ["rated"] [.inl 0, .inl 1] [] 2 g_look_above) (c_look_steps : FnAt P w K mg base k "look_steps" 2 g_look_steps) (fd_Lattice_prices : FdAt K "Lattice" "prices") (fd_Lattice_rates : FdAt K "Lattice" "rates") (fd_Lattice_steps : FdAt K "Lattice" "steps") :
    MkAt P w K mg base (k + 1) "Lattice" 4 (callF 7 [0] (b_Lattice___init__ g_look_shape g_look_above g_look_steps)) :=
  mk_at (qual := "Lattice.__init__") [0] D (by decide +kernel) sc_Lattice___init__ fun f cdv A outer s H E Z hZ hr => by
    have tk : Takes (cxOf (L2.CX P w) P w K mg base ["self", "prices", "rates", "steps", "row", "up", "down"] "Lattice.__init__" (defScope s_Lattice___init__) f cdv A outer s H E) (fun cls d _ H => E cls d H) := takes_of rfl rfl rfl rfl
    exact (s_cons (s_expr (w_fn c_look_shape hr tk (by rfl) (a_val (d_var 1 (nb hZ (by decide))) (a_val (d_var 2 (nb hZ (by decide))) (a_val (d_var 3 (nb hZ (by decide))) a_nil)))))
      (s_cons (s_expr (w_kw k_look_above_1_rated hr tk (by rfl) (a_val (d_var 1 (nb hZ (by decide))) a_nil) (k_val d_bl k_nil)))
      (s_cons (s_expr (w_kw k_look_above_1_rated hr tk (by rfl) (a_val (d_var 2 (nb hZ (by decide))) a_nil) (k_val d_bl k_nil)))
      (s_cons (s_expr (w_fn c_look_steps hr tk (by rfl) (a_val (d_var 1 (nb hZ (by decide))) (a_val (d_var 3 (nb hZ (by decide))) a_nil))))
      (s_cons (s_fldS 0 fd_Lattice_prices (w_sh (d_frz (w_lc rfl sc_Lattice___init__.nd (i_seq (d_var 1 (nb hZ (by decide)))) (blkOk_by (own := [("row", 4)]) (N := ["self", "prices", "rates", "steps", "row", "up", "down"]) (sc := defScope s_Lattice___init__) (by decide +kernel)) rfl (nbs hZ (by decide)) (by decide) (fun _ _ _ _ _ P2 hP2 => (g_name 4 (nb (nbt hP2 hZ) (by decide)) sc_Lattice___init__.nd (by first | exact Or.inl rfl | exact Or.inr rfl))) (fun _ _ _ _ _ P2 hP2 => ts_nil) (fun _ _ _ _ _ P2 hP2 => (d_cty cd_list call_list_of (by rfl) m_list (by decide +kernel) (a_val (d_var 4 (nb (nbt hP2 hZ) (by decide))) a_nil)))))))
      (s_cons (s_fldS 0 fd_Lattice_rates (w_sh (d_frz (w_lc rfl sc_Lattice___init__.nd (i_seq (d_var 2 (nb hZ (by decide)))) (blkOk_by (own := [("row", 4)]) (N := ["self", "prices", "rates", "steps", "row", "up", "down"]) (sc := defScope s_Lattice___init__) (by decide +kernel)) rfl (nbs hZ (by decide)) (by decide) (fun _ _ _ _ _ P2 hP2 => (g_name 4 (nb (nbt hP2 hZ) (by decide)) sc_Lattice___init__.nd (by first | exact Or.inl rfl | exact Or.inr rfl))) (fun _ _ _ _ _ P2 hP2 => ts_nil) (fun _ _ _ _ _ P2 hP2 => (d_cty cd_list call_list_of (by rfl) m_list (by decide +kernel) (a_val (d_var 4 (nb (nbt hP2 hZ) (by decide))) a_nil)))))))
      (s_one (s_fldS 0 fd_Lattice_steps (w_sh (d_frz (w_lc rfl sc_Lattice___init__.nd (i_seq (d_var 3 (nb hZ (by decide)))) (blkOk_by (own := [("row", 4)]) (N := ["self", "prices", "rates", "steps", "row", "up", "down"]) (sc := defScope s_Lattice___init__) (by decide +kernel)) rfl (nbs hZ (by decide)) (by decide) (fun _ _ _ _ _ P2 hP2 => (g_name 4 (nb (nbt hP2 hZ) (by decide)) sc_Lattice___init__.nd (by first | exact Or.inl rfl | exact Or.inr rfl))) (fun _ _ _ _ _ P2 hP2 => ts_nil) (fun _ _ _ _ _ P2 hP2 => (d_frz (w_lc rfl sc_Lattice___init__.nd (i_seq (d_var 4 (nb (nbt hP2 hZ) (by decide)))) (blkOk_by (own := [("up", 5), ("down", 6)]) (by rfl)) rfl (nbs (nbt hP2 hZ) (by decide)) (by decide) (fun _ _ _ _ _ P3 hP3 => (g_tup rfl (g_cons (g_name 5 (nb (nbt hP3 (nbt hP2 hZ)) (by decide)) sc_Lattice___init__.nd (by first | exact Or.inl rfl | exact Or.inr rfl)) (g_cons (g_name 6 (nb (nbt hP3 (nbt hP2 hZ)) (by decide)) sc_Lattice___init__.nd (by first | exact Or.inl rfl | exact Or.inr rfl)) g_nil)))) (fun _ _ _ _ _ P3 hP3 => ts_nil) (fun _ _ _ _ _ P3 hP3 => (d_tup (a_val (d_var 5 (nb (nbt hP3 (nbt hP2 hZ)) (by decide))) (a_val (d_var 6 (nb (nbt hP3 (nbt hP2 hZ)) (by decide))) a_nil))))))))))))))))))
abbrev s_Lattice_last : Stmt := inClass (topS 23) 4
theorem sc_Lattice_last : FnScope ["self"] ["self"] (defScope s_Lattice_last) := ⟨rfl, rfl, rfl, by decide +kernel, rfl, by decide +kernel, by decide +kernel⟩
theorem ok_Lattice_last {k : Nat} (D : MDefAt K mg "Lattice" "last" s_Lattice_last ["self"]) (m_len : mg "len" = none) (fd_Lattice_prices : FdAt K "Lattice" "prices") :
    MtAt P w K mg base (k + 1) "Lattice" "last" 1 (callF 1 [] (b_Lattice_last)) :=
  mt_at (qual := "Lattice.last") [] D (by decide +kernel) sc_Lattice_last fun f cdv A outer s H E Z hZ hr => by
    have tk : Takes (cxOf (L2.CX P w) P w K mg base ["self"] "Lattice.last" (defScope s_Lattice_last) f cdv A outer s H E) (fun cls d _ H => E cls d H) := takes_of rfl rfl rfl rfl
    exact (s_one (s_ret (w_sh (d_op op_sub od_sub (d_cb cd_len call_len (by rfl) m_len (by decide +kernel) (a_val (d_fld fd_Lattice_prices (d_var 0 (nb hZ (by decide)))) a_nil)) d_int))))
abbrev s_Lattice_many : Stmt := inClass (topS 23) 5
theorem sc_Lattice_many : FnScope ["self", "date"] ["self", "date"] (defScope s_Lattice_many) := ⟨rfl, rfl, rfl, by decide +kernel, rfl, by decide +kernel, by decide +kernel⟩
theorem ok_Lattice_many {k : Nat} (D : MDefAt K mg "Lattice" "many" s_Lattice_many ["self", "date"]) (m_len : mg "len" = none) (fd_Lattice_prices : FdAt K "Lattice" "prices") :
    MtAt P w K mg base (k + 1) "Lattice" "many" 2 (callF 2 [] (b_Lattice_many)) :=
  mt_at (qual := "Lattice.many") [] D (by decide +kernel) sc_Lattice_many fun f cdv A outer s H E Z hZ hr => by
    have tk : Takes (cxOf (L2.CX P w) P w K mg base ["self", "date"] "Lattice.many" (defScope s_Lattice_many) f cdv A outer s H E) (fun cls d _ H => E cls d H) := takes_of rfl rfl rfl rfl
    exact (s_one (s_ret (w_ite (t_chain op_le od_le op_lt od_lt d_int (d_var 1 (nb hZ (by decide))) (d_cb cd_len call_len (by rfl) m_len (by decide +kernel) (a_val (d_fld fd_Lattice_prices (d_var 0 (nb hZ (by decide)))) a_nil))) (w_sh (d_cb cd_len call_len (by rfl) m_len (by decide +kernel) (a_val (d_sub (d_fld fd_Lattice_prices (d_var 0 (nb hZ (by decide)))) (d_var 1 (nb hZ (by decide)))) a_nil))) (w_sh d_int))))
abbrev s_Lattice_look_node : Stmt := inClass (topS 23) 6
theorem sc_Lattice_look_node : FnScope ["self", "date", "node", "stepping"] ["self", "date", "node", "stepping"] (defScope s_Lattice_look_node) := ⟨rfl, rfl, rfl, by decide +kernel, rfl, by decide +kernel, by decide +kernel⟩
theorem ok_Lattice_look_node {k n : Nat} {ks : List Str} {ar : List (Nat ⊕ Nat)} {dd : List Dt} {g_Lattice_many g_Lattice_last : FnD} (D : MKDefAt K mg "Lattice" "look_node" s_Lattice_look_node ["self", "date", "node", "stepping"] n ks ar dd) (c_Lattice_many : MtAt P w K mg base k "Lattice" "many" 2 g_Lattice_many) (c_Lattice_last : MtAt P w K mg base k "Lattice" "last" 1 g_Lattice_last) :
    MCallAt P w K mg base (k + 1) "Lattice" "look_node" n ks ar dd 4 (callF 4 [] (b_Lattice_look_node g_Lattice_many g_Lattice_last)) :=
  mt_atK (qual := "Lattice.look_node") [] D (by decide +kernel) sc_Lattice_look_node fun f cdv A outer s H E Z hZ hr => by
    have tk : Takes (cxOf (L2.CX P w) P w K mg base ["self", "date", "node", "stepping"] "Lattice.look_node" (defScope s_Lattice_look_node) f cdv A outer s H E) (fun cls d _ H => E cls d H) := takes_of rfl rfl rfl rfl
    exact (s_one (s_if (PW.pt (t_or (t_not (t_chain op_le od_le op_lt od_lt d_int (d_var 2 (nb hZ (by decide))) (d_frz (w_meth c_Lattice_many hr tk (d_var 0 (nb hZ (by decide))) (a_val (d_var 1 (nb hZ (by decide))) a_nil))))) (t_or1 (PW.pt (t_and (t_val (d_var 3 (nb hZ (by decide)))) (t_and1 (t_cmp (op_eqA hr.units) od_eq (d_var 1 (nb hZ (by decide))) (d_frz (w_meth0 c_Lattice_last hr tk (d_var 0 (nb hZ (by decide))))) (nomark _)))))))) (s_one s_none) s_nil))
abbrev s_Lattice_price : Stmt := inClass (topS 23) 7
theorem sc_Lattice_price : FnScope ["self", "date", "node"] ["self", "date", "node"] (defScope s_Lattice_price) := ⟨rfl, rfl, rfl, by decide +kernel, rfl, by decide +kernel, by decide +kernel⟩
theorem ok_Lattice_price {k : Nat} {g_Lattice_look_node : FnD} (D : MDefAt K mg "Lattice" "price" s_Lattice_price ["self", "date", "node"]) (k_Lattice_look_node_3_stepping : MCallAt P w K mg base k "Lattice" "look_node" 3 ["stepping"] [.inl 0, .inl 1, .inl 2, .inl 3] [] 4 g_Lattice_look_node) (fd_Lattice_prices : FdAt K "Lattice" "prices") :
    MtAt P w K mg base (k + 1) "Lattice" "price" 3 (callF 3 [] (b_Lattice_price g_Lattice_look_node)) :=
  mt_at (qual := "Lattice.price") [] D (by decide +kernel) sc_Lattice_price fun f cdv A outer s H E Z hZ hr => by
    have tk : Takes (cxOf (L2.CX P w) P w K mg base ["self", "date", "node"] "Lattice.price" (defScope s_Lattice_price) f cdv A outer s H E) (fun cls d _ H => E cls d H) := takes_of rfl rfl rfl rfl
    exact (s_cons (s_expr (w_methK k_Lattice_look_node_3_stepping hr tk (d_var 0 (nb hZ (by decide))) (a_val (d_var 1 (nb hZ (by decide))) (a_val (d_var 2 (nb hZ (by decide))) a_nil)) (k_val d_bl k_nil)))
      (s_one (s_ret (w_sh (d_sub (d_sub (d_fld fd_Lattice_prices (d_var 0 (nb hZ (by decide)))) (d_var 1 (nb hZ (by decide)))) (d_var 2 (nb hZ (by decide))))))))
abbrev s_Lattice_rate : Stmt := inClass (topS 23) 8
theorem sc_Lattice_rate : FnScope ["self", "date", "node"] ["self", "date", "node"] (defScope s_Lattice_rate) := ⟨rfl, rfl, rfl, by decide +kernel, rfl, by decide +kernel, by decide +kernel⟩
theorem ok_Lattice_rate {k : Nat} {g_Lattice_look_node : FnD} (D : MDefAt K mg "Lattice" "rate" s_Lattice_rate ["self", "date", "node"]) (k_Lattice_look_node_3 : MCallAt P w K mg base k "Lattice" "look_node" 3 [] [.inl 0, .inl 1, .inl 2, .inr 0] [(.bl true)] 4 g_Lattice_look_node) (fd_Lattice_rates : FdAt K "Lattice" "rates") :
    MtAt P w K mg base (k + 1) "Lattice" "rate" 3 (callF 3 [] (b_Lattice_rate g_Lattice_look_node)) :=
  mt_at (qual := "Lattice.rate") [] D (by decide +kernel) sc_Lattice_rate fun f cdv A outer s H E Z hZ hr => by
    have tk : Takes (cxOf (L2.CX P w) P w K mg base ["self", "date", "node"] "Lattice.rate" (defScope s_Lattice_rate) f cdv A outer s H E) (fun cls d _ H => E cls d H) := takes_of rfl rfl rfl rfl
    exact (s_cons (s_expr (w_methK1 k_Lattice_look_node_3 hr tk (d_var 0 (nb hZ (by decide))) (a_val (d_var 1 (nb hZ (by decide))) (a_val (d_var 2 (nb hZ (by decide))) a_nil))))
      (s_one (s_ret (w_sh (d_sub (d_sub (d_fld fd_Lattice_rates (d_var 0 (nb hZ (by decide)))) (d_var 1 (nb hZ (by decide)))) (d_var 2 (nb hZ (by decide))))))))
abbrev s_Lattice_step : Stmt := inClass (topS 23) 9
theorem sc_Lattice_step : FnScope ["self", "date", "node"] ["self", "date", "node"] (defScope s_Lattice_step) := ⟨rfl, rfl, rfl, by decide +kernel, rfl, by decide +kernel, by decide +kernel⟩
theorem ok_Lattice_step {k : Nat} {g_Lattice_look_node : FnD} (D : MDefAt K mg "Lattice" "step" s_Lattice_step ["self", "date", "node"]) (k_Lattice_look_node_3 : MCallAt P w K mg base k "Lattice" "look_node" 3 [] [.inl 0, .inl 1, .inl 2, .inr 0] [(.bl true)] 4 g_Lattice_look_node) (fd_Lattice_steps : FdAt K "Lattice" "steps") :
    MtAt P w K mg base (k + 1) "Lattice" "step" 3 (callF 3 [] (b_Lattice_step g_Lattice_look_node)) :=
  mt_at (qual := "Lattice.step") [] D (by decide +kernel) sc_Lattice_step fun f cdv A outer s H E Z hZ hr => by
    have tk : Takes (cxOf (L2.CX P w) P w K mg base ["self", "date", "node"] "Lattice.step" (defScope s_Lattice_step) f cdv A outer s H E) (fun cls d _ H => E cls d H) := takes_of rfl rfl rfl rfl
    exact (s_cons (s_expr (w_methK1 k_Lattice_look_node_3 hr tk (d_var 0 (nb hZ (by decide))) (a_val (d_var 1 (nb hZ (by decide))) (a_val (d_var 2 (nb hZ (by decide))) a_nil))))
      (s_one (s_ret (w_sh (d_sub (d_sub (d_fld fd_Lattice_steps (d_var 0 (nb hZ (by decide)))) (d_var 1 (nb hZ (by decide)))) (d_var 2 (nb hZ (by decide))))))))
abbrev s_Lattice_sides : Stmt := inClass (topS 23) 10
theorem sc_Lattice_sides : FnScope ["self", "date", "node", "up", "down", "later"] ["self", "date", "node"] (defScope s_Lattice_sides) := ⟨rfl, rfl, rfl, by decide +kernel, rfl, by decide +kernel, by decide +kernel⟩
theorem ok_Lattice_sides {k : Nat} {g_Lattice_step g_times g_Lattice_price g_Lattice_rate : FnD} (D : MDefAt K mg "Lattice" "sides" s_Lattice_sides ["self", "date", "node"]) (c_Lattice_step : MtAt P w K mg base k "Lattice" "step" 3 g_Lattice_step) (c_times : FnAt P w K mg base k "times" 2 g_times) (c_Lattice_price : MtAt P w K mg base k "Lattice" "price" 3 g_Lattice_price) (c_Lattice_rate : MtAt P w K mg base k "Lattice" "rate" 3 g_Lattice_rate) (fd_Lattice_prices : FdAt K "Lattice" "prices") :
    MtAt P w K mg base (k + 1) "Lattice" "sides" 3 (callF 6 [] (b_Lattice_sides g_Lattice_step g_times g_Lattice_price g_Lattice_rate)) :=
  mt_at (qual := "Lattice.sides") [] D (by decide +kernel) sc_Lattice_sides fun f cdv A outer s H E Z hZ hr => by
    have tk : Takes (cxOf (L2.CX P w) P w K mg base ["self", "date", "node", "up", "down", "later"] "Lattice.sides" (defScope s_Lattice_sides) f cdv A outer s H E) (fun cls d _ H => E cls d H) := takes_of rfl rfl rfl rfl
    exact (s_cons (s_asgT (g_tup rfl (g_cons (g_name 3 (nb hZ (by decide)) sc_Lattice_sides.nd (by first | exact Or.inl rfl | exact Or.inr rfl)) (g_cons (g_name 4 (nb hZ (by decide)) sc_Lattice_sides.nd (by first | exact Or.inl rfl | exact Or.inr rfl)) g_nil))) (d_frz (w_meth c_Lattice_step hr tk (d_var 0 (nb hZ (by decide))) (a_val (d_var 1 (nb hZ (by decide))) (a_val (d_var 2 (nb hZ (by decide))) a_nil)))))
      (s_cons (s_set 5 (nb hZ (by decide)) (w_sh (d_sub (d_fld fd_Lattice_prices (d_var 0 (nb hZ (by decide)))) (d_op op_addA od_add (d_var 1 (nb hZ (by decide))) d_int))) sc_Lattice_sides.nd (by first | exact Or.inl rfl | exact Or.inr rfl))
      (s_one (s_ret (w_sh (d_tup (a_val (d_frz (w_fn c_times hr tk (by rfl) (a_val (d_frz (w_meth c_Lattice_rate hr tk (d_var 0 (nb hZ (by decide))) (a_val (d_var 1 (nb hZ (by decide))) (a_val (d_var 2 (nb hZ (by decide))) a_nil)))) (a_val (d_frz (w_meth c_Lattice_price hr tk (d_var 0 (nb hZ (by decide))) (a_val (d_var 1 (nb hZ (by decide))) (a_val (d_var 2 (nb hZ (by decide))) a_nil)))) a_nil)))) (a_val (d_sub (d_var 5 (nb hZ (by decide))) (d_var 3 (nb hZ (by decide)))) (a_val (d_sub (d_var 5 (nb hZ (by decide))) (d_var 4 (nb hZ (by decide)))) a_nil)))))))))
abbrev s_Lattice_share : Stmt := inClass (topS 23) 11
theorem sc_Lattice_share : FnScope ["self", "date", "node", "grown", "high", "low"] ["self", "date", "node"] (defScope s_Lattice_share) := ⟨rfl, rfl, rfl, by decide +kernel, rfl, by decide +kernel, by decide +kernel⟩
theorem ok_Lattice_share {k : Nat} {g_Lattice_sides g_by g_minus : FnD} (D : MDefAt K mg "Lattice" "share" s_Lattice_share ["self", "date", "node"]) (c_Lattice_sides : MtAt P w K mg base k "Lattice" "sides" 3 g_Lattice_sides) (c_by : FnAt P w K mg base k "by" 2 g_by) (c_minus : FnAt P w K mg base k "minus" 2 g_minus) :
    MtAt P w K mg base (k + 1) "Lattice" "share" 3 (callF 6 [] (b_Lattice_share g_Lattice_sides g_by g_minus)) :=
  mt_at (qual := "Lattice.share") [] D (by decide +kernel) sc_Lattice_share fun f cdv A outer s H E Z hZ hr => by
    have tk : Takes (cxOf (L2.CX P w) P w K mg base ["self", "date", "node", "grown", "high", "low"] "Lattice.share" (defScope s_Lattice_share) f cdv A outer s H E) (fun cls d _ H => E cls d H) := takes_of rfl rfl rfl rfl
    exact (s_cons (s_asgT (g_tup rfl (g_cons (g_name 3 (nb hZ (by decide)) sc_Lattice_share.nd (by first | exact Or.inl rfl | exact Or.inr rfl)) (g_cons (g_name 4 (nb hZ (by decide)) sc_Lattice_share.nd (by first | exact Or.inl rfl | exact Or.inr rfl)) (g_cons (g_name 5 (nb hZ (by decide)) sc_Lattice_share.nd (by first | exact Or.inl rfl | exact Or.inr rfl)) g_nil)))) (d_frz (w_meth c_Lattice_sides hr tk (d_var 0 (nb hZ (by decide))) (a_val (d_var 1 (nb hZ (by decide))) (a_val (d_var 2 (nb hZ (by decide))) a_nil)))))
      (s_one (s_ret (w_fn c_by hr tk (by rfl) (a_val (d_frz (w_fn c_minus hr tk (by rfl) (a_val (d_var 3 (nb hZ (by decide))) (a_val (d_var 5 (nb hZ (by decide))) a_nil)))) (a_val (d_frz (w_fn c_minus hr tk (by rfl) (a_val (d_var 4 (nb hZ (by decide))) (a_val (d_var 5 (nb hZ (by decide))) a_nil)))) a_nil))))))
abbrev s_Lattice_win : Stmt := inClass (topS 23) 12
theorem sc_Lattice_win : FnScope ["self", "date", "node", "grown", "high", "low", "price"] ["self"] (defScope s_Lattice_win) := ⟨rfl, rfl, rfl, by decide +kernel, rfl, by decide +kernel, by decide +kernel⟩
theorem ok_Lattice_win {k : Nat} {g_Lattice_last g_Lattice_many g_Lattice_sides g_less g_minus : FnD} (D : MDefAt K mg "Lattice" "win" s_Lattice_win ["self"]) (m_range : mg "range" = none) (c_NOUGHT : ConstAt K mg "NOUGHT" (.tup [(.int 0), (.int 1)])) (c_ONE : ConstAt K mg "ONE" (.tup [(.int 1), (.int 1)])) (c_Lattice_last : MtAt P w K mg base k "Lattice" "last" 1 g_Lattice_last) (c_Lattice_many : MtAt P w K mg base k "Lattice" "many" 2 g_Lattice_many) (c_Lattice_sides : MtAt P w K mg base k "Lattice" "sides" 3 g_Lattice_sides) (c_less : FnAt P w K mg base k "less" 2 g_less) (c_minus : FnAt P w K mg base k "minus" 2 g_minus) (fd_Lattice_prices : FdAt K "Lattice" "prices") :
    MtAt P w K mg base (k + 1) "Lattice" "win" 1 (callF 7 [] (b_Lattice_win g_Lattice_last g_Lattice_many g_Lattice_sides g_less g_minus)) :=
  mt_at (qual := "Lattice.win") [] D (by decide +kernel) sc_Lattice_win fun f cdv A outer s H E Z hZ hr => by
    have tk : Takes (cxOf (L2.CX P w) P w K mg base ["self", "date", "node", "grown", "high", "low", "price"] "Lattice.win" (defScope s_Lattice_win) f cdv A outer s H E) (fun cls d _ H => E cls d H) := takes_of rfl rfl rfl rfl
    exact (s_cons (s_for (passes_of rfl) rfl (i_range1 (by rfl) m_range (a_val (d_frz (w_meth0 c_Lattice_last hr tk (d_var 0 (nb hZ (by decide))))) a_nil)) (g_name 1 (nb hZ (by decide)) sc_Lattice_win.nd (by first | exact Or.inl rfl | exact Or.inr rfl)) (s_one (s_for (passes_of rfl) rfl (i_range1 (by rfl) m_range (a_val (d_frz (w_meth c_Lattice_many hr tk (d_var 0 (nb hZ (by decide))) (a_val (d_var 1 (nb hZ (by decide))) a_nil))) a_nil)) (g_name 2 (nb hZ (by decide)) sc_Lattice_win.nd (by first | exact Or.inl rfl | exact Or.inr rfl)) (s_cons (s_asgT (g_tup rfl (g_cons (g_name 3 (nb hZ (by decide)) sc_Lattice_win.nd (by first | exact Or.inl rfl | exact Or.inr rfl)) (g_cons (g_name 4 (nb hZ (by decide)) sc_Lattice_win.nd (by first | exact Or.inl rfl | exact Or.inr rfl)) (g_cons (g_name 5 (nb hZ (by decide)) sc_Lattice_win.nd (by first | exact Or.inl rfl | exact Or.inr rfl)) g_nil)))) (d_frz (w_meth c_Lattice_sides hr tk (d_var 0 (nb hZ (by decide))) (a_val (d_var 1 (nb hZ (by decide))) (a_val (d_var 2 (nb hZ (by decide))) a_nil)))))
      (s_cons (s_set 6 (nb hZ (by decide)) (w_sh (d_sub (d_sub (d_fld fd_Lattice_prices (d_var 0 (nb hZ (by decide)))) (d_var 1 (nb hZ (by decide)))) (d_var 2 (nb hZ (by decide))))) sc_Lattice_win.nd (by first | exact Or.inl rfl | exact Or.inr rfl))
      (s_cons (s_if (t_not (t_val (d_frz (w_fn c_less hr tk (by rfl) (a_val (d_var 5 (nb hZ (by decide))) (a_val (d_var 3 (nb hZ (by decide))) a_nil)))))) (s_one (s_ret (w_sh (d_tup (a_val (d_var 1 (nb hZ (by decide))) (a_val (d_var 2 (nb hZ (by decide))) (a_val (c_ONE.pe (by rfl)) (a_val (d_frz (w_fn c_minus hr tk (by rfl) (a_val (c_NOUGHT.pe (by rfl)) (a_val (d_var 6 (nb hZ (by decide))) a_nil)))) a_nil)))))))) s_nil)
      (s_one (s_if (t_not (t_val (d_frz (w_fn c_less hr tk (by rfl) (a_val (d_var 3 (nb hZ (by decide))) (a_val (d_var 4 (nb hZ (by decide))) a_nil)))))) (s_one (s_ret (w_sh (d_tup (a_val (d_var 1 (nb hZ (by decide))) (a_val (d_var 2 (nb hZ (by decide))) (a_val (d_frz (w_fn c_minus hr tk (by rfl) (a_val (c_NOUGHT.pe (by rfl)) (a_val (c_ONE.pe (by rfl)) a_nil)))) (a_val (d_var 6 (nb hZ (by decide))) a_nil)))))))) s_nil))))))))
      (s_one (s_ret (w_sh d_non))))
end
end Lw
namespace Lw
open PySem PySem.Spec PyProof.Rows L2 RZ DL
section
variable {P : Program} {w : World} {K : PySem.W.Frag} {mg : Str → Option Value} {base : Heap}
theorem at__law_same (D : DefAt K mg "_law_same" s__law_same ["_law_found", "_law_due"]) (m_list : mg "list" = none) (m_isinstance : mg "isinstance" = none) (m_tuple : mg "tuple" = none) (m_len : mg "len" = none) (m_zip : mg "zip" = none) (m_all : mg "all" = none) (m_bool : mg "bool" = none) (m_int : mg "int" = none) (m_str : mg "str" = none) : ∀ n, FnAt P w K mg base (n + 0) "_law_same" 2 (fr__law_same n)
  | 0 => (FnAt.none D).mono (by omega)
  | n + 1 => (ok__law_same D m_list m_isinstance m_tuple m_len m_zip m_all m_bool m_int m_str (at__law_same D m_list m_isinstance m_tuple m_len m_zip m_all m_bool m_int m_str n) ).mono (by omega)
end
theorem all_mk {P : Program} {w : World} {K : PySem.W.Frag} {h : Heap} {mg : Str → Option Value} {fa : Addr} (X : K.In h) (G : h.Ns mainGlobals mg) (hfa : mg "law" = some (.ref fa))
    {oc_Lattice : Addr} (oa_Lattice : PySem.W.nsIn K mainGlobals "Lattice" = some (some (.ref oc_Lattice))) (og_Lattice : PySem.W.plainGet K oc_Lattice Str.empty = true) (oh_Lattice : PySem.W.hasDictIn K oc_Lattice = true) (op_Lattice : PySem.W.plainOver K oc_Lattice = true) (os_Lattice : PySem.W.findIn K (.ref oc_Lattice) "__setattr__" = some (some (.builtin "object.__setattr__"))) (om_Lattice : PySem.W.makesIn K oc_Lattice = true) (ok_Lattice : PySem.W.keepIn K (.ref oc_Lattice) = true) (of_Lattice_prices : PySem.W.findIn K (.ref oc_Lattice) "prices" = some none) (of_Lattice_rates : PySem.W.findIn K (.ref oc_Lattice) "rates" = some none) (of_Lattice_steps : PySem.W.findIn K (.ref oc_Lattice) "steps" = some none)
    {f0 : Addr} {od0 an0 : Option Addr} {sl0 : Array (Option Value)} {oc0 kV0 dc0 pm0 cd0 ct0 : Value}
    (a0 : PySem.W.nsIn K mainGlobals "common" = some (some (.ref f0))) (l0 : K.lookup f0 = some ⟨oc0, od0, .func (PySem.W.fnOf "common" "common" (defArgs s_common) (defBody s_common) (defScope s_common) .none kV0 dc0 pm0 an0 cd0 ct0), sl0⟩) (c0 : PySem.W.codeIn K cd0 "common" = true) (k0 : PySem.W.keepIn K (.ref f0) = true)
    {f1 : Addr} {od1 an1 : Option Addr} {sl1 : Array (Option Value)} {oc1 kV1 dc1 pm1 cd1 ct1 : Value}
    (a1 : PySem.W.nsIn K mainGlobals "lowest" = some (some (.ref f1))) (l1 : K.lookup f1 = some ⟨oc1, od1, .func (PySem.W.fnOf "lowest" "lowest" (defArgs s_lowest) (defBody s_lowest) (defScope s_lowest) .none kV1 dc1 pm1 an1 cd1 ct1), sl1⟩) (c1 : PySem.W.codeIn K cd1 "lowest" = true) (k1 : PySem.W.keepIn K (.ref f1) = true)
    {f2 : Addr} {od2 an2 : Option Addr} {sl2 : Array (Option Value)} {oc2 kV2 dc2 pm2 cd2 ct2 : Value}
    (a2 : PySem.W.nsIn K mainGlobals "minus" = some (some (.ref f2))) (l2 : K.lookup f2 = some ⟨oc2, od2, .func (PySem.W.fnOf "minus" "minus" (defArgs s_minus) (defBody s_minus) (defScope s_minus) .none kV2 dc2 pm2 an2 cd2 ct2), sl2⟩) (c2 : PySem.W.codeIn K cd2 "minus" = true) (k2 : PySem.W.keepIn K (.ref f2) = true)
    {f3 : Addr} {od3 an3 : Option Addr} {sl3 : Array (Option Value)} {oc3 kV3 dc3 pm3 cd3 ct3 : Value}
    (a3 : PySem.W.nsIn K mainGlobals "times" = some (some (.ref f3))) (l3 : K.lookup f3 = some ⟨oc3, od3, .func (PySem.W.fnOf "times" "times" (defArgs s_times) (defBody s_times) (defScope s_times) .none kV3 dc3 pm3 an3 cd3 ct3), sl3⟩) (c3 : PySem.W.codeIn K cd3 "times" = true) (k3 : PySem.W.keepIn K (.ref f3) = true)
    {f4 : Addr} {od4 an4 : Option Addr} {sl4 : Array (Option Value)} {oc4 kV4 dc4 pm4 cd4 ct4 : Value}
    (a4 : PySem.W.nsIn K mainGlobals "by" = some (some (.ref f4))) (l4 : K.lookup f4 = some ⟨oc4, od4, .func (PySem.W.fnOf "by" "by" (defArgs s_by) (defBody s_by) (defScope s_by) .none kV4 dc4 pm4 an4 cd4 ct4), sl4⟩) (c4 : PySem.W.codeIn K cd4 "by" = true) (k4 : PySem.W.keepIn K (.ref f4) = true)
    {f5 : Addr} {od5 an5 : Option Addr} {sl5 : Array (Option Value)} {oc5 kV5 dc5 pm5 cd5 ct5 : Value}
    (a5 : PySem.W.nsIn K mainGlobals "less" = some (some (.ref f5))) (l5 : K.lookup f5 = some ⟨oc5, od5, .func (PySem.W.fnOf "less" "less" (defArgs s_less) (defBody s_less) (defScope s_less) .none kV5 dc5 pm5 an5 cd5 ct5), sl5⟩) (c5 : PySem.W.codeIn K cd5 "less" = true) (k5 : PySem.W.keepIn K (.ref f5) = true)
    {f6 : Addr} {od6 an6 : Option Addr} {sl6 : Array (Option Value)} {oc6 kV6 dc6 pm6 cd6 ct6 : Value}
    (a6 : PySem.W.nsIn K mainGlobals "look_shape" = some (some (.ref f6))) (l6 : K.lookup f6 = some ⟨oc6, od6, .func (PySem.W.fnOf "look_shape" "look_shape" (defArgs s_look_shape) (defBody s_look_shape) (defScope s_look_shape) .none kV6 dc6 pm6 an6 cd6 ct6), sl6⟩) (c6 : PySem.W.codeIn K cd6 "look_shape" = true) (k6 : PySem.W.keepIn K (.ref f6) = true)
    {f7 : Addr} {od7 an7 : Option Addr} {sl7 : Array (Option Value)} {oc7 kV7 dc7 pm7 cd7 ct7 : Value}
    (a7 : PySem.W.nsIn K mainGlobals "look_above" = some (some (.ref f7))) (l7 : K.lookup f7 = some ⟨oc7, od7, .func (PySem.W.fnOf "look_above" "look_above" (defArgs s_look_above) (defBody s_look_above) (defScope s_look_above) .none kV7 dc7 pm7 an7 cd7 ct7), sl7⟩) (c7 : PySem.W.codeIn K cd7 "look_above" = true) (k7 : PySem.W.keepIn K (.ref f7) = true)
    {f8 : Addr} {od8 an8 : Option Addr} {sl8 : Array (Option Value)} {oc8 kV8 dc8 pm8 cd8 ct8 : Value}
    (a8 : PySem.W.nsIn K mainGlobals "look_steps" = some (some (.ref f8))) (l8 : K.lookup f8 = some ⟨oc8, od8, .func (PySem.W.fnOf "look_steps" "look_steps" (defArgs s_look_steps) (defBody s_look_steps) (defScope s_look_steps) .none kV8 dc8 pm8 an8 cd8 ct8), sl8⟩) (c8 : PySem.W.codeIn K cd8 "look_steps" = true) (k8 : PySem.W.keepIn K (.ref f8) = true)
    {f9 : Addr} {od9 an9 : Option Addr} {sl9 : Array (Option Value)} {oc9 kV9 dc9 pm9 cd9 ct9 : Value}
    (a9 : PySem.W.nsIn K mainGlobals "_law_box" = some (some (.ref f9))) (l9 : K.lookup f9 = some ⟨oc9, od9, .func (PySem.W.fnOf "_law_box" "_law_box" (defArgs s__law_box) (defBody s__law_box) (defScope s__law_box) .none kV9 dc9 pm9 an9 cd9 ct9), sl9⟩) (c9 : PySem.W.codeIn K cd9 "_law_box" = true) (k9 : PySem.W.keepIn K (.ref f9) = true)
    {f10 : Addr} {od10 an10 : Option Addr} {sl10 : Array (Option Value)} {oc10 kV10 dc10 pm10 cd10 ct10 : Value}
    (a10 : PySem.W.nsIn K mainGlobals "_law_take" = some (some (.ref f10))) (l10 : K.lookup f10 = some ⟨oc10, od10, .func (PySem.W.fnOf "_law_take" "_law_take" (defArgs s__law_take) (defBody s__law_take) (defScope s__law_take) .none kV10 dc10 pm10 an10 cd10 ct10), sl10⟩) (c10 : PySem.W.codeIn K cd10 "_law_take" = true) (k10 : PySem.W.keepIn K (.ref f10) = true)
    {f11 : Addr} {od11 an11 : Option Addr} {sl11 : Array (Option Value)} {oc11 kV11 dc11 pm11 cd11 ct11 : Value}
    (a11 : PySem.W.nsIn K mainGlobals "_law_one" = some (some (.ref f11))) (l11 : K.lookup f11 = some ⟨oc11, od11, .func (PySem.W.fnOf "_law_one" "_law_one" (defArgs s__law_one) (defBody s__law_one) (defScope s__law_one) .none kV11 dc11 pm11 an11 cd11 ct11), sl11⟩) (c11 : PySem.W.codeIn K cd11 "_law_one" = true) (k11 : PySem.W.keepIn K (.ref f11) = true)
    {f12 : Addr} {od12 an12 : Option Addr} {sl12 : Array (Option Value)} {oc12 kV12 dc12 pm12 cd12 ct12 : Value}
    (a12 : PySem.W.nsIn K mainGlobals "_law_same" = some (some (.ref f12))) (l12 : K.lookup f12 = some ⟨oc12, od12, .func (PySem.W.fnOf "_law_same" "_law_same" (defArgs s__law_same) (defBody s__law_same) (defScope s__law_same) .none kV12 dc12 pm12 an12 cd12 ct12), sl12⟩) (c12 : PySem.W.codeIn K cd12 "_law_same" = true) (k12 : PySem.W.keepIn K (.ref f12) = true)
    {f13 : Addr} {od13 an13 : Option Addr} {sl13 : Array (Option Value)} {oc13 kV13 dc13 pm13 cd13 ct13 : Value}
    (a13 : PySem.W.nsIn K mainGlobals "_law_common" = some (some (.ref f13))) (l13 : K.lookup f13 = some ⟨oc13, od13, .func (PySem.W.fnOf "_law_common" "_law_common" (defArgs s__law_common) (defBody s__law_common) (defScope s__law_common) .none kV13 dc13 pm13 an13 cd13 ct13), sl13⟩) (c13 : PySem.W.codeIn K cd13 "_law_common" = true) (k13 : PySem.W.keepIn K (.ref f13) = true)
    {f14 : Addr} {od14 an14 : Option Addr} {sl14 : Array (Option Value)} {oc14 kV14 dc14 pm14 cd14 ct14 : Value}
    (a14 : PySem.W.nsIn K mainGlobals "_law_low" = some (some (.ref f14))) (l14 : K.lookup f14 = some ⟨oc14, od14, .func (PySem.W.fnOf "_law_low" "_law_low" (defArgs s__law_low) (defBody s__law_low) (defScope s__law_low) .none kV14 dc14 pm14 an14 cd14 ct14), sl14⟩) (c14 : PySem.W.codeIn K cd14 "_law_low" = true) (k14 : PySem.W.keepIn K (.ref f14) = true)
    {f15 : Addr} {od15 an15 : Option Addr} {sl15 : Array (Option Value)} {oc15 kV15 dc15 pm15 cd15 ct15 : Value}
    (a15 : PySem.W.nsIn K mainGlobals "_law_sum" = some (some (.ref f15))) (l15 : K.lookup f15 = some ⟨oc15, od15, .func (PySem.W.fnOf "_law_sum" "_law_sum" (defArgs s__law_sum) (defBody s__law_sum) (defScope s__law_sum) .none kV15 dc15 pm15 an15 cd15 ct15), sl15⟩) (c15 : PySem.W.codeIn K cd15 "_law_sum" = true) (k15 : PySem.W.keepIn K (.ref f15) = true)
    {f16 : Addr} {od16 an16 : Option Addr} {sl16 : Array (Option Value)} {oc16 kV16 dc16 pm16 cd16 ct16 : Value}
    (a16 : PySem.W.nsIn K mainGlobals "_law_less_by" = some (some (.ref f16))) (l16 : K.lookup f16 = some ⟨oc16, od16, .func (PySem.W.fnOf "_law_less_by" "_law_less_by" (defArgs s__law_less_by) (defBody s__law_less_by) (defScope s__law_less_by) .none kV16 dc16 pm16 an16 cd16 ct16), sl16⟩) (c16 : PySem.W.codeIn K cd16 "_law_less_by" = true) (k16 : PySem.W.keepIn K (.ref f16) = true)
    {f17 : Addr} {od17 an17 : Option Addr} {sl17 : Array (Option Value)} {oc17 kV17 dc17 pm17 cd17 ct17 : Value}
    (a17 : PySem.W.nsIn K mainGlobals "_law_product" = some (some (.ref f17))) (l17 : K.lookup f17 = some ⟨oc17, od17, .func (PySem.W.fnOf "_law_product" "_law_product" (defArgs s__law_product) (defBody s__law_product) (defScope s__law_product) .none kV17 dc17 pm17 an17 cd17 ct17), sl17⟩) (c17 : PySem.W.codeIn K cd17 "_law_product" = true) (k17 : PySem.W.keepIn K (.ref f17) = true)
    {f18 : Addr} {od18 an18 : Option Addr} {sl18 : Array (Option Value)} {oc18 kV18 dc18 pm18 cd18 ct18 : Value}
    (a18 : PySem.W.nsIn K mainGlobals "_law_share_of" = some (some (.ref f18))) (l18 : K.lookup f18 = some ⟨oc18, od18, .func (PySem.W.fnOf "_law_share_of" "_law_share_of" (defArgs s__law_share_of) (defBody s__law_share_of) (defScope s__law_share_of) .none kV18 dc18 pm18 an18 cd18 ct18), sl18⟩) (c18 : PySem.W.codeIn K cd18 "_law_share_of" = true) (k18 : PySem.W.keepIn K (.ref f18) = true)
    {f19 : Addr} {od19 an19 : Option Addr} {sl19 : Array (Option Value)} {oc19 kV19 dc19 pm19 cd19 ct19 : Value}
    (a19 : PySem.W.nsIn K mainGlobals "_law_under" = some (some (.ref f19))) (l19 : K.lookup f19 = some ⟨oc19, od19, .func (PySem.W.fnOf "_law_under" "_law_under" (defArgs s__law_under) (defBody s__law_under) (defScope s__law_under) .none kV19 dc19 pm19 an19 cd19 ct19), sl19⟩) (c19 : PySem.W.codeIn K cd19 "_law_under" = true) (k19 : PySem.W.keepIn K (.ref f19) = true)
    {f20 : Addr} {od20 an20 : Option Addr} {sl20 : Array (Option Value)} {oc20 kV20 dc20 pm20 cd20 ct20 : Value}
    (a20 : PySem.W.nsIn K mainGlobals "_law_turned_sign" = some (some (.ref f20))) (l20 : K.lookup f20 = some ⟨oc20, od20, .func (PySem.W.fnOf "_law_turned_sign" "_law_turned_sign" (defArgs s__law_turned_sign) (defBody s__law_turned_sign) (defScope s__law_turned_sign) .none kV20 dc20 pm20 an20 cd20 ct20), sl20⟩) (c20 : PySem.W.codeIn K cd20 "_law_turned_sign" = true) (k20 : PySem.W.keepIn K (.ref f20) = true)
    {f21 : Addr} {od21 an21 : Option Addr} {sl21 : Array (Option Value)} {oc21 kV21 dc21 pm21 cd21 ct21 : Value}
    (a21 : PySem.W.nsIn K mainGlobals "_law_above" = some (some (.ref f21))) (l21 : K.lookup f21 = some ⟨oc21, od21, .func (PySem.W.fnOf "_law_above" "_law_above" (defArgs s__law_above) (defBody s__law_above) (defScope s__law_above) .none kV21 dc21 pm21 an21 cd21 ct21), sl21⟩) (c21 : PySem.W.codeIn K cd21 "_law_above" = true) (k21 : PySem.W.keepIn K (.ref f21) = true)
    {f22 : Addr} {od22 an22 : Option Addr} {sl22 : Array (Option Value)} {oc22 kV22 dc22 pm22 cd22 ct22 : Value}
    (a22 : PySem.W.nsIn K mainGlobals "_law_rows_between" = some (some (.ref f22))) (l22 : K.lookup f22 = some ⟨oc22, od22, .func (PySem.W.fnOf "_law_rows_between" "_law_rows_between" (defArgs s__law_rows_between) (defBody s__law_rows_between) (defScope s__law_rows_between) .none kV22 dc22 pm22 an22 cd22 ct22), sl22⟩) (c22 : PySem.W.codeIn K cd22 "_law_rows_between" = true) (k22 : PySem.W.keepIn K (.ref f22) = true)
    {f23 : Addr} {od23 an23 : Option Addr} {sl23 : Array (Option Value)} {oc23 kV23 dc23 pm23 cd23 ct23 : Value}
    (a23 : PySem.W.nsIn K mainGlobals "_law_steps_between" = some (some (.ref f23))) (l23 : K.lookup f23 = some ⟨oc23, od23, .func (PySem.W.fnOf "_law_steps_between" "_law_steps_between" (defArgs s__law_steps_between) (defBody s__law_steps_between) (defScope s__law_steps_between) .none kV23 dc23 pm23 an23 cd23 ct23), sl23⟩) (c23 : PySem.W.codeIn K cd23 "_law_steps_between" = true) (k23 : PySem.W.keepIn K (.ref f23) = true)
    {f24 : Addr} {od24 an24 : Option Addr} {sl24 : Array (Option Value)} {oc24 kV24 dc24 pm24 cd24 ct24 : Value}
    (a24 : PySem.W.nsIn K mainGlobals "_law_fair" = some (some (.ref f24))) (l24 : K.lookup f24 = some ⟨oc24, od24, .func (PySem.W.fnOf "_law_fair" "_law_fair" (defArgs s__law_fair) (defBody s__law_fair) (defScope s__law_fair) .none kV24 dc24 pm24 an24 cd24 ct24), sl24⟩) (c24 : PySem.W.codeIn K cd24 "_law_fair" = true) (k24 : PySem.W.keepIn K (.ref f24) = true)
    {f25 : Addr} {od25 an25 : Option Addr} {sl25 : Array (Option Value)} {oc25 kV25 dc25 pm25 cd25 ct25 : Value}
    (a25 : PySem.W.nsIn K mainGlobals "_law_loose" = some (some (.ref f25))) (l25 : K.lookup f25 = some ⟨oc25, od25, .func (PySem.W.fnOf "_law_loose" "_law_loose" (defArgs s__law_loose) (defBody s__law_loose) (defScope s__law_loose) .none kV25 dc25 pm25 an25 cd25 ct25), sl25⟩) (c25 : PySem.W.codeIn K cd25 "_law_loose" = true) (k25 : PySem.W.keepIn K (.ref f25) = true)
    {f26 : Addr} {od26 an26 : Option Addr} {sl26 : Array (Option Value)} {oc26 kV26 dc26 pm26 cd26 ct26 : Value}
    (a26 : PySem.W.nsIn K mainGlobals "_law_rimmed" = some (some (.ref f26))) (l26 : K.lookup f26 = some ⟨oc26, od26, .func (PySem.W.fnOf "_law_rimmed" "_law_rimmed" (defArgs s__law_rimmed) (defBody s__law_rimmed) (defScope s__law_rimmed) .none kV26 dc26 pm26 an26 cd26 ct26), sl26⟩) (c26 : PySem.W.codeIn K cd26 "_law_rimmed" = true) (k26 : PySem.W.keepIn K (.ref f26) = true)
    {f27 : Addr} {od27 an27 : Option Addr} {sl27 : Array (Option Value)} {oc27 kV27 dc27 pm27 cd27 ct27 : Value}
    (a27 : PySem.W.nsIn K mainGlobals "_law_web" = some (some (.ref f27))) (l27 : K.lookup f27 = some ⟨oc27, od27, .func (PySem.W.fnOf "_law_web" "_law_web" (defArgs s__law_web) (defBody s__law_web) (defScope s__law_web) .none kV27 dc27 pm27 an27 cd27 ct27), sl27⟩) (c27 : PySem.W.codeIn K cd27 "_law_web" = true) (k27 : PySem.W.keepIn K (.ref f27) = true)
    {f28 : Addr} {od28 an28 : Option Addr} {sl28 : Array (Option Value)} {oc28 kV28 dc28 pm28 cd28 ct28 : Value}
    (a28 : PySem.W.nsIn K mainGlobals "_law_ahead" = some (some (.ref f28))) (l28 : K.lookup f28 = some ⟨oc28, od28, .func (PySem.W.fnOf "_law_ahead" "_law_ahead" (defArgs s__law_ahead) (defBody s__law_ahead) (defScope s__law_ahead) .none kV28 dc28 pm28 an28 cd28 ct28), sl28⟩) (c28 : PySem.W.codeIn K cd28 "_law_ahead" = true) (k28 : PySem.W.keepIn K (.ref f28) = true)
    {f29 : Addr} {od29 an29 : Option Addr} {sl29 : Array (Option Value)} {oc29 kV29 dc29 pm29 cd29 ct29 : Value}
    (a29 : PySem.W.nsIn K mainGlobals "_law_weight" = some (some (.ref f29))) (l29 : K.lookup f29 = some ⟨oc29, od29, .func (PySem.W.fnOf "_law_weight" "_law_weight" (defArgs s__law_weight) (defBody s__law_weight) (defScope s__law_weight) .none kV29 dc29 pm29 an29 cd29 ct29), sl29⟩) (c29 : PySem.W.codeIn K cd29 "_law_weight" = true) (k29 : PySem.W.keepIn K (.ref f29) = true)
    {f30 : Addr} {od30 an30 : Option Addr} {sl30 : Array (Option Value)} {oc30 kV30 dc30 pm30 cd30 ct30 : Value}
    (a30 : PySem.W.nsIn K mainGlobals "_law_win" = some (some (.ref f30))) (l30 : K.lookup f30 = some ⟨oc30, od30, .func (PySem.W.fnOf "_law_win" "_law_win" (defArgs s__law_win) (defBody s__law_win) (defScope s__law_win) .none kV30 dc30 pm30 an30 cd30 ct30), sl30⟩) (c30 : PySem.W.codeIn K cd30 "_law_win" = true) (k30 : PySem.W.keepIn K (.ref f30) = true)
    {f31 : Addr} {od31 an31 : Option Addr} {sl31 : Array (Option Value)} {oc31 kV31 dc31 pm31 cd31 ct31 : Value}
    (a31 : PySem.W.nsIn K mainGlobals "law" = some (some (.ref f31))) (l31 : K.lookup f31 = some ⟨oc31, od31, .func (PySem.W.fnOf "law" "law" (defArgs s_law) (defBody s_law) (defScope s_law) .none kV31 dc31 pm31 an31 cd31 ct31), sl31⟩) (c31 : PySem.W.codeIn K cd31 "law" = true) (k31 : PySem.W.keepIn K (.ref f31) = true)
    {f32 : Addr} {od32 an32 : Option Addr} {sl32 : Array (Option Value)} {oc32 kV32 dc32 pm32 cd32 ct32 : Value}
    (a32 : PySem.W.findIn K (.ref oc_Lattice) "__init__" = some (some (.ref f32))) (i32 : PySem.W.isFn K (.ref f32) = true) (l32 : K.lookup f32 = some ⟨oc32, od32, .func (PySem.W.fnOf "__init__" "Lattice.__init__" (defArgs s_Lattice___init__) (defBody s_Lattice___init__) (defScope s_Lattice___init__) .none kV32 dc32 pm32 an32 cd32 ct32), sl32⟩) (c32 : PySem.W.codeIn K cd32 "Lattice.__init__" = true) (k32 : PySem.W.keepIn K (.ref f32) = true)
    {f33 : Addr} {od33 an33 : Option Addr} {sl33 : Array (Option Value)} {oc33 kV33 dc33 pm33 cd33 ct33 : Value}
    (a33 : PySem.W.findIn K (.ref oc_Lattice) "last" = some (some (.ref f33))) (i33 : PySem.W.isFn K (.ref f33) = true) (l33 : K.lookup f33 = some ⟨oc33, od33, .func (PySem.W.fnOf "last" "Lattice.last" (defArgs s_Lattice_last) (defBody s_Lattice_last) (defScope s_Lattice_last) .none kV33 dc33 pm33 an33 cd33 ct33), sl33⟩) (c33 : PySem.W.codeIn K cd33 "Lattice.last" = true) (k33 : PySem.W.keepIn K (.ref f33) = true)
    {f34 : Addr} {od34 an34 : Option Addr} {sl34 : Array (Option Value)} {oc34 kV34 dc34 pm34 cd34 ct34 : Value}
    (a34 : PySem.W.findIn K (.ref oc_Lattice) "many" = some (some (.ref f34))) (i34 : PySem.W.isFn K (.ref f34) = true) (l34 : K.lookup f34 = some ⟨oc34, od34, .func (PySem.W.fnOf "many" "Lattice.many" (defArgs s_Lattice_many) (defBody s_Lattice_many) (defScope s_Lattice_many) .none kV34 dc34 pm34 an34 cd34 ct34), sl34⟩) (c34 : PySem.W.codeIn K cd34 "Lattice.many" = true) (k34 : PySem.W.keepIn K (.ref f34) = true)
    {kd35 : Addr}
    {f35 : Addr} {od35 an35 : Option Addr} {sl35 : Array (Option Value)} {oc35 dc35 pm35 cd35 ct35 : Value}
    (a35 : PySem.W.findIn K (.ref oc_Lattice) "look_node" = some (some (.ref f35))) (i35 : PySem.W.isFn K (.ref f35) = true) (l35 : K.lookup f35 = some ⟨oc35, od35, .func (PySem.W.fnOf "look_node" "Lattice.look_node" (defArgs s_Lattice_look_node) (defBody s_Lattice_look_node) (defScope s_Lattice_look_node) .none (.ref kd35) dc35 pm35 an35 cd35 ct35), sl35⟩) (c35 : PySem.W.codeIn K cd35 "Lattice.look_node" = true) (k35 : PySem.W.keepIn K (.ref f35) = true)
    {ku_35_stepping : Value} (ka_35_stepping : PySem.W.nsIn K kd35 "stepping" = some (some ku_35_stepping)) (ke_35_stepping : scalD ku_35_stepping = some (.bl true))
    {f36 : Addr} {od36 an36 : Option Addr} {sl36 : Array (Option Value)} {oc36 kV36 dc36 pm36 cd36 ct36 : Value}
    (a36 : PySem.W.findIn K (.ref oc_Lattice) "price" = some (some (.ref f36))) (i36 : PySem.W.isFn K (.ref f36) = true) (l36 : K.lookup f36 = some ⟨oc36, od36, .func (PySem.W.fnOf "price" "Lattice.price" (defArgs s_Lattice_price) (defBody s_Lattice_price) (defScope s_Lattice_price) .none kV36 dc36 pm36 an36 cd36 ct36), sl36⟩) (c36 : PySem.W.codeIn K cd36 "Lattice.price" = true) (k36 : PySem.W.keepIn K (.ref f36) = true)
    {f37 : Addr} {od37 an37 : Option Addr} {sl37 : Array (Option Value)} {oc37 kV37 dc37 pm37 cd37 ct37 : Value}
    (a37 : PySem.W.findIn K (.ref oc_Lattice) "rate" = some (some (.ref f37))) (i37 : PySem.W.isFn K (.ref f37) = true) (l37 : K.lookup f37 = some ⟨oc37, od37, .func (PySem.W.fnOf "rate" "Lattice.rate" (defArgs s_Lattice_rate) (defBody s_Lattice_rate) (defScope s_Lattice_rate) .none kV37 dc37 pm37 an37 cd37 ct37), sl37⟩) (c37 : PySem.W.codeIn K cd37 "Lattice.rate" = true) (k37 : PySem.W.keepIn K (.ref f37) = true)
    {f38 : Addr} {od38 an38 : Option Addr} {sl38 : Array (Option Value)} {oc38 kV38 dc38 pm38 cd38 ct38 : Value}
    (a38 : PySem.W.findIn K (.ref oc_Lattice) "step" = some (some (.ref f38))) (i38 : PySem.W.isFn K (.ref f38) = true) (l38 : K.lookup f38 = some ⟨oc38, od38, .func (PySem.W.fnOf "step" "Lattice.step" (defArgs s_Lattice_step) (defBody s_Lattice_step) (defScope s_Lattice_step) .none kV38 dc38 pm38 an38 cd38 ct38), sl38⟩) (c38 : PySem.W.codeIn K cd38 "Lattice.step" = true) (k38 : PySem.W.keepIn K (.ref f38) = true)
    {f39 : Addr} {od39 an39 : Option Addr} {sl39 : Array (Option Value)} {oc39 kV39 dc39 pm39 cd39 ct39 : Value}
    (a39 : PySem.W.findIn K (.ref oc_Lattice) "sides" = some (some (.ref f39))) (i39 : PySem.W.isFn K (.ref f39) = true) (l39 : K.lookup f39 = some ⟨oc39, od39, .func (PySem.W.fnOf "sides" "Lattice.sides" (defArgs s_Lattice_sides) (defBody s_Lattice_sides) (defScope s_Lattice_sides) .none kV39 dc39 pm39 an39 cd39 ct39), sl39⟩) (c39 : PySem.W.codeIn K cd39 "Lattice.sides" = true) (k39 : PySem.W.keepIn K (.ref f39) = true)
    {f40 : Addr} {od40 an40 : Option Addr} {sl40 : Array (Option Value)} {oc40 kV40 dc40 pm40 cd40 ct40 : Value}
    (a40 : PySem.W.findIn K (.ref oc_Lattice) "share" = some (some (.ref f40))) (i40 : PySem.W.isFn K (.ref f40) = true) (l40 : K.lookup f40 = some ⟨oc40, od40, .func (PySem.W.fnOf "share" "Lattice.share" (defArgs s_Lattice_share) (defBody s_Lattice_share) (defScope s_Lattice_share) .none kV40 dc40 pm40 an40 cd40 ct40), sl40⟩) (c40 : PySem.W.codeIn K cd40 "Lattice.share" = true) (k40 : PySem.W.keepIn K (.ref f40) = true)
    {f41 : Addr} {od41 an41 : Option Addr} {sl41 : Array (Option Value)} {oc41 kV41 dc41 pm41 cd41 ct41 : Value}
    (a41 : PySem.W.findIn K (.ref oc_Lattice) "win" = some (some (.ref f41))) (i41 : PySem.W.isFn K (.ref f41) = true) (l41 : K.lookup f41 = some ⟨oc41, od41, .func (PySem.W.fnOf "win" "Lattice.win" (defArgs s_Lattice_win) (defBody s_Lattice_win) (defScope s_Lattice_win) .none kV41 dc41 pm41 an41 cd41 ct41), sl41⟩) (c41 : PySem.W.codeIn K cd41 "Lattice.win" = true) (k41 : PySem.W.keepIn K (.ref f41) = true) (z_abs : PySem.W.nsIn K mainGlobals "abs" = some none) (z_len : PySem.W.nsIn K mainGlobals "len" = some none) (z_enumerate : PySem.W.nsIn K mainGlobals "enumerate" = some none) (z_list : PySem.W.nsIn K mainGlobals "list" = some none) (z_isinstance : PySem.W.nsIn K mainGlobals "isinstance" = some none) (z_tuple : PySem.W.nsIn K mainGlobals "tuple" = some none) (z_zip : PySem.W.nsIn K mainGlobals "zip" = some none) (z_all : PySem.W.nsIn K mainGlobals "all" = some none) (z_bool : PySem.W.nsIn K mainGlobals "bool" = some none) (z_int : PySem.W.nsIn K mainGlobals "int" = some none) (z_str : PySem.W.nsIn K mainGlobals "str" = some none) (z_range : PySem.W.nsIn K mainGlobals "range" = some none) (z_set : PySem.W.nsIn K mainGlobals "set" = some none)
    {qu_MOST_DATES : Value} (qa_MOST_DATES : PySem.W.nsIn K mainGlobals "MOST_DATES" = some (some qu_MOST_DATES)) (qe_MOST_DATES : scalD qu_MOST_DATES = some (.int 7))
    {qu_MOST_NODES : Value} (qa_MOST_NODES : PySem.W.nsIn K mainGlobals "MOST_NODES" = some (some qu_MOST_NODES)) (qe_MOST_NODES : scalD qu_MOST_NODES = some (.int 8))
    {qp_NOUGHT : Addr} {qd_NOUGHT : Option Addr} {qs_NOUGHT : Array Value} {qn_NOUGHT : Nat} {qo_NOUGHT : Array (Option Value)} (qa_NOUGHT : PySem.W.nsIn K mainGlobals "NOUGHT" = some (some (.ref qp_NOUGHT))) (ql_NOUGHT : K.lookup qp_NOUGHT = some ⟨.type "tuple", qd_NOUGHT, .seq qs_NOUGHT qn_NOUGHT, qo_NOUGHT⟩) (qe_NOUGHT : qs_NOUGHT.toList.map scalD = [(.int 0), (.int 1)].map some) (qz_NOUGHT : qs_NOUGHT.size ≤ sizeLine)
    {qp_ONE : Addr} {qd_ONE : Option Addr} {qs_ONE : Array Value} {qn_ONE : Nat} {qo_ONE : Array (Option Value)} (qa_ONE : PySem.W.nsIn K mainGlobals "ONE" = some (some (.ref qp_ONE))) (ql_ONE : K.lookup qp_ONE = some ⟨.type "tuple", qd_ONE, .seq qs_ONE qn_ONE, qo_ONE⟩) (qe_ONE : qs_ONE.toList.map scalD = [(.int 1), (.int 1)].map some) (qz_ONE : qs_ONE.size ≤ sizeLine)
    {xc_BadShape xi_BadShape : Addr} {xd_BadShape xn_BadShape : Option Addr} {xz_BadShape : Array (Option Value)} {xo_BadShape xv_BadShape xq_BadShape xp_BadShape xy_BadShape xt_BadShape : Value} (xa_BadShape : PySem.W.nsIn K mainGlobals "BadShape" = some (some (.ref xc_BadShape))) (xO_BadShape : OexC K xc_BadShape) (xI_BadShape : PySem.W.findIn K (.ref xc_BadShape) "__init__" = some (some (.ref xi_BadShape))) (xT_BadShape : PySem.W.typeIn K (.ref xi_BadShape) = some (.type "function")) (xl_BadShape : K.lookup xi_BadShape = some ⟨xo_BadShape, xd_BadShape, .func (PySem.W.fnOf "__init__" "BadShape.__init__" (defArgs si_BadShape) (defBody si_BadShape) (defScope si_BadShape) .none xv_BadShape xq_BadShape xp_BadShape xn_BadShape xy_BadShape xt_BadShape), xz_BadShape⟩) (xC_BadShape : PySem.W.codeIn K xy_BadShape "BadShape.__init__" = true) (xk_BadShape : PySem.W.keepIn K (.ref xi_BadShape) = true) (xf_BadShape_0 : PySem.W.findIn K (.ref xc_BadShape) "called" = some none) :
    ∃ fd : FuncData, (∀ (s : Shared) (v : Value), BindsTo s fd ⟨[v], []⟩ [("_law_script", v)]) ∧ ∀ base : Heap, K.In base → base.Ns mainGlobals mg → FnOk P w K mg base (L2.CX P w) 21 fa fd ["_law_script"] (spF K 1 f_law) := by
  have e := hfa.symm.trans (PySem.W.mg_of X G a31)
  cases e
  have m_abs : mg "abs" = none := PySem.W.mg_none_of X G z_abs
  have m_len : mg "len" = none := PySem.W.mg_none_of X G z_len
  have m_enumerate : mg "enumerate" = none := PySem.W.mg_none_of X G z_enumerate
  have m_list : mg "list" = none := PySem.W.mg_none_of X G z_list
  have m_isinstance : mg "isinstance" = none := PySem.W.mg_none_of X G z_isinstance
  have m_tuple : mg "tuple" = none := PySem.W.mg_none_of X G z_tuple
  have m_zip : mg "zip" = none := PySem.W.mg_none_of X G z_zip
  have m_all : mg "all" = none := PySem.W.mg_none_of X G z_all
  have m_bool : mg "bool" = none := PySem.W.mg_none_of X G z_bool
  have m_int : mg "int" = none := PySem.W.mg_none_of X G z_int
  have m_str : mg "str" = none := PySem.W.mg_none_of X G z_str
  have m_range : mg "range" = none := PySem.W.mg_none_of X G z_range
  have m_set : mg "set" = none := PySem.W.mg_none_of X G z_set
  have c_MOST_DATES : ConstAt K mg "MOST_DATES" (.int 7) := const_mk X G qa_MOST_DATES qe_MOST_DATES
  have c_MOST_NODES : ConstAt K mg "MOST_NODES" (.int 8) := const_mk X G qa_MOST_NODES qe_MOST_NODES
  have c_NOUGHT : ConstAt K mg "NOUGHT" (.tup [(.int 0), (.int 1)]) := const_tup X G qa_NOUGHT ql_NOUGHT qe_NOUGHT qz_NOUGHT
  have c_ONE : ConstAt K mg "ONE" (.tup [(.int 1), (.int 1)]) := const_tup X G qa_ONE ql_ONE qe_ONE qz_ONE
  have cl_Lattice : Cls K oc_Lattice := ⟨og_Lattice, oh_Lattice, op_Lattice, os_Lattice⟩
  have fd_Lattice_prices : FdAt K "Lattice" "prices" := ⟨⟨oc_Lattice, oa_Lattice, cl_Lattice, of_Lattice_prices⟩⟩
  have fd_Lattice_rates : FdAt K "Lattice" "rates" := ⟨⟨oc_Lattice, oa_Lattice, cl_Lattice, of_Lattice_rates⟩⟩
  have fd_Lattice_steps : FdAt K "Lattice" "steps" := ⟨⟨oc_Lattice, oa_Lattice, cl_Lattice, of_Lattice_steps⟩⟩
  have D_common : DefAt K mg "common" s_common ["one", "other"] := def_mk X G a0 l0 c0 k0 fun _ _ _ _ _ _ us hl => match us, hl with | [_, _], _ => rfl
  have D_lowest : DefAt K mg "lowest" s_lowest ["over", "under"] := def_mk X G a1 l1 c1 k1 fun _ _ _ _ _ _ us hl => match us, hl with | [_, _], _ => rfl
  have D_minus : DefAt K mg "minus" s_minus ["one", "other"] := def_mk X G a2 l2 c2 k2 fun _ _ _ _ _ _ us hl => match us, hl with | [_, _], _ => rfl
  have D_times : DefAt K mg "times" s_times ["one", "other"] := def_mk X G a3 l3 c3 k3 fun _ _ _ _ _ _ us hl => match us, hl with | [_, _], _ => rfl
  have D_by : DefAt K mg "by" s_by ["one", "other"] := def_mk X G a4 l4 c4 k4 fun _ _ _ _ _ _ us hl => match us, hl with | [_, _], _ => rfl
  have D_less : DefAt K mg "less" s_less ["one", "other"] := def_mk X G a5 l5 c5 k5 fun _ _ _ _ _ _ us hl => match us, hl with | [_, _], _ => rfl
  have D_look_shape : DefAt K mg "look_shape" s_look_shape ["prices", "rates", "steps"] := def_mk X G a6 l6 c6 k6 fun _ _ _ _ _ _ us hl => match us, hl with | [_, _, _], _ => rfl
  have D_k_look_above_1_rated : KDefAt K mg "look_above" s_look_above ["rows", "rated"] 1 ["rated"] [.inl 0, .inl 1] [] := kdef_mk0 X G a7 l7 c7 k7 fun _ _ _ _ _ _ us ws h1 h2 => match us, ws, h1, h2 with | [_], [_], _, _ => rfl
  have D_look_steps : DefAt K mg "look_steps" s_look_steps ["prices", "steps"] := def_mk X G a8 l8 c8 k8 fun _ _ _ _ _ _ us hl => match us, hl with | [_, _], _ => rfl
  have D__law_box : DefAt K mg "_law_box" s__law_box ["_law_script"] := def_mk X G a9 l9 c9 k9 fun _ _ _ _ _ _ us hl => match us, hl with | [_], _ => rfl
  have D__law_take : DefAt K mg "_law_take" s__law_take ["_law_box_here", "_law_many"] := def_mk X G a10 l10 c10 k10 fun _ _ _ _ _ _ us hl => match us, hl with | [_, _], _ => rfl
  have D__law_one : DefAt K mg "_law_one" s__law_one ["_law_box_here", "_law_some"] := def_mk X G a11 l11 c11 k11 fun _ _ _ _ _ _ us hl => match us, hl with | [_, _], _ => rfl
  have D__law_same : DefAt K mg "_law_same" s__law_same ["_law_found", "_law_due"] := def_mk X G a12 l12 c12 k12 fun _ _ _ _ _ _ us hl => match us, hl with | [_, _], _ => rfl
  have D__law_common : DefAt K mg "_law_common" s__law_common ["_law_one_here", "_law_other"] := def_mk X G a13 l13 c13 k13 fun _ _ _ _ _ _ us hl => match us, hl with | [_, _], _ => rfl
  have D__law_low : DefAt K mg "_law_low" s__law_low ["_law_num", "_law_den"] := def_mk X G a14 l14 c14 k14 fun _ _ _ _ _ _ us hl => match us, hl with | [_, _], _ => rfl
  have D__law_sum : DefAt K mg "_law_sum" s__law_sum ["_law_one_here", "_law_other"] := def_mk X G a15 l15 c15 k15 fun _ _ _ _ _ _ us hl => match us, hl with | [_, _], _ => rfl
  have D__law_less_by : DefAt K mg "_law_less_by" s__law_less_by ["_law_one_here", "_law_other"] := def_mk X G a16 l16 c16 k16 fun _ _ _ _ _ _ us hl => match us, hl with | [_, _], _ => rfl
  have D__law_product : DefAt K mg "_law_product" s__law_product ["_law_one_here", "_law_other"] := def_mk X G a17 l17 c17 k17 fun _ _ _ _ _ _ us hl => match us, hl with | [_, _], _ => rfl
  have D__law_share_of : DefAt K mg "_law_share_of" s__law_share_of ["_law_one_here", "_law_other"] := def_mk X G a18 l18 c18 k18 fun _ _ _ _ _ _ us hl => match us, hl with | [_, _], _ => rfl
  have D__law_under : DefAt K mg "_law_under" s__law_under ["_law_one_here", "_law_other"] := def_mk X G a19 l19 c19 k19 fun _ _ _ _ _ _ us hl => match us, hl with | [_, _], _ => rfl
  have D__law_turned_sign : DefAt K mg "_law_turned_sign" s__law_turned_sign ["_law_one_here"] := def_mk X G a20 l20 c20 k20 fun _ _ _ _ _ _ us hl => match us, hl with | [_], _ => rfl
  have D__law_above : DefAt K mg "_law_above" s__law_above ["_law_box_here", "_law_far"] := def_mk X G a21 l21 c21 k21 fun _ _ _ _ _ _ us hl => match us, hl with | [_, _], _ => rfl
  have D__law_rows_between : DefAt K mg "_law_rows_between" s__law_rows_between ["_law_box_here", "_law_dates", "_law_most"] := def_mk X G a22 l22 c22 k22 fun _ _ _ _ _ _ us hl => match us, hl with | [_, _, _], _ => rfl
  have D__law_steps_between : DefAt K mg "_law_steps_between" s__law_steps_between ["_law_box_here", "_law_row"] := def_mk X G a23 l23 c23 k23 fun _ _ _ _ _ _ us hl => match us, hl with | [_, _], _ => rfl
  have D__law_fair : DefAt K mg "_law_fair" s__law_fair ["_law_box_here", "_law_dates", "_law_most"] := def_mk X G a24 l24 c24 k24 fun _ _ _ _ _ _ us hl => match us, hl with | [_, _, _], _ => rfl
  have D__law_loose : DefAt K mg "_law_loose" s__law_loose ["_law_box_here", "_law_dates", "_law_most"] := def_mk X G a25 l25 c25 k25 fun _ _ _ _ _ _ us hl => match us, hl with | [_, _, _], _ => rfl
  have D__law_rimmed : DefAt K mg "_law_rimmed" s__law_rimmed ["_law_box_here", "_law_web_here"] := def_mk X G a26 l26 c26 k26 fun _ _ _ _ _ _ us hl => match us, hl with | [_, _], _ => rfl
  have D__law_web : DefAt K mg "_law_web" s__law_web ["_law_web_here"] := def_mk X G a27 l27 c27 k27 fun _ _ _ _ _ _ us hl => match us, hl with | [_], _ => rfl
  have D__law_ahead : DefAt K mg "_law_ahead" s__law_ahead ["_law_web_here", "_law_date", "_law_node"] := def_mk X G a28 l28 c28 k28 fun _ _ _ _ _ _ us hl => match us, hl with | [_, _, _], _ => rfl
  have D__law_weight : DefAt K mg "_law_weight" s__law_weight ["_law_web_here", "_law_date", "_law_node"] := def_mk X G a29 l29 c29 k29 fun _ _ _ _ _ _ us hl => match us, hl with | [_, _, _], _ => rfl
  have D__law_win : DefAt K mg "_law_win" s__law_win ["_law_web_here"] := def_mk X G a30 l30 c30 k30 fun _ _ _ _ _ _ us hl => match us, hl with | [_], _ => rfl
  have D_Lattice___init__ : MkDefAt K mg "Lattice" s_Lattice___init__ ["self", "prices", "rates", "steps"] := mkdef_mk X G oa_Lattice om_Lattice ok_Lattice a32 i32 l32 c32 k32 (by decide +kernel) fun _ _ _ _ _ _ us hl => match us, hl with | [_, _, _, _], _ => rfl
  have D_Lattice_last : MDefAt K mg "Lattice" "last" s_Lattice_last ["self"] := mdef_mk oa_Lattice cl_Lattice a33 i33 l33 c33 k33 (by decide +kernel) fun _ _ _ _ _ _ us hl => match us, hl with | [_], _ => rfl
  have D_Lattice_many : MDefAt K mg "Lattice" "many" s_Lattice_many ["self", "date"] := mdef_mk oa_Lattice cl_Lattice a34 i34 l34 c34 k34 (by decide +kernel) fun _ _ _ _ _ _ us hl => match us, hl with | [_, _], _ => rfl
  have D_k_Lattice_look_node_3_stepping : MKDefAt K mg "Lattice" "look_node" s_Lattice_look_node ["self", "date", "node", "stepping"] 3 ["stepping"] [.inl 0, .inl 1, .inl 2, .inl 3] [] := mkdef_K0 oa_Lattice cl_Lattice a35 i35 l35 c35 k35 (by decide +kernel) fun _ _ _ _ _ _ us ws h1 h2 => match us, ws, h1, h2 with | [_, _, _], [_], _, _ => rfl
  have D_k_Lattice_look_node_3 : MKDefAt K mg "Lattice" "look_node" s_Lattice_look_node ["self", "date", "node", "stepping"] 3 [] [.inl 0, .inl 1, .inl 2, .inr 0] [(.bl true)] := mkdef_K1 (kvs := [("stepping", (.bl true))]) oa_Lattice cl_Lattice a35 i35 l35 c35 k35 (by decide +kernel) ⟨entry_scal ka_35_stepping ke_35_stepping, trivial⟩ fun _ _ _ _ _ _ us ws ms h1 h2 h3 => match us, ws, ms, h1, h2, h3 with | [_, _, _], [], [_], _, _, _ => ⟨_, _, _, _, _, _, rfl, rfl, rfl⟩
  have D_Lattice_price : MDefAt K mg "Lattice" "price" s_Lattice_price ["self", "date", "node"] := mdef_mk oa_Lattice cl_Lattice a36 i36 l36 c36 k36 (by decide +kernel) fun _ _ _ _ _ _ us hl => match us, hl with | [_, _, _], _ => rfl
  have D_Lattice_rate : MDefAt K mg "Lattice" "rate" s_Lattice_rate ["self", "date", "node"] := mdef_mk oa_Lattice cl_Lattice a37 i37 l37 c37 k37 (by decide +kernel) fun _ _ _ _ _ _ us hl => match us, hl with | [_, _, _], _ => rfl
  have D_Lattice_step : MDefAt K mg "Lattice" "step" s_Lattice_step ["self", "date", "node"] := mdef_mk oa_Lattice cl_Lattice a38 i38 l38 c38 k38 (by decide +kernel) fun _ _ _ _ _ _ us hl => match us, hl with | [_, _, _], _ => rfl
  have D_Lattice_sides : MDefAt K mg "Lattice" "sides" s_Lattice_sides ["self", "date", "node"] := mdef_mk oa_Lattice cl_Lattice a39 i39 l39 c39 k39 (by decide +kernel) fun _ _ _ _ _ _ us hl => match us, hl with | [_, _, _], _ => rfl
  have D_Lattice_share : MDefAt K mg "Lattice" "share" s_Lattice_share ["self", "date", "node"] := mdef_mk oa_Lattice cl_Lattice a40 i40 l40 c40 k40 (by decide +kernel) fun _ _ _ _ _ _ us hl => match us, hl with | [_, _, _], _ => rfl
  have D_Lattice_win : MDefAt K mg "Lattice" "win" s_Lattice_win ["self"] := mdef_mk oa_Lattice cl_Lattice a41 i41 l41 c41 k41 (by decide +kernel) fun _ _ _ _ _ _ us hl => match us, hl with | [_], _ => rfl
  refine ⟨PySem.W.fnOf "law" "law" (defArgs s_law) (defBody s_law) (defScope s_law) .none kV31 dc31 pm31 an31 cd31 ct31, fun s v => .of_eq rfl, fun base _ _ => ?_⟩
  have x_BadShape : ExAt P w K mg base 1 "BadShape" 0 [("called", .inl (.str "BadShape"))] := ex_mk (k := 0) (n := 0) (ps := ["self"]) X G xO_BadShape xa_BadShape xI_BadShape xT_BadShape xl_BadShape xC_BadShape xk_BadShape (fun _ _ _ _ _ _ us hl => match us, hl with | [_], _ => rfl) (fun e he => by
    simp only [List.mem_cons, List.mem_nil_iff, or_false] at he
    rcases he with rfl
    · exact ⟨xf_BadShape_0, trivial⟩
    ) sci_BadShape rfl (by decide) in_BadShape
  have c__law_box : FnAt P w K mg base 1 "_law_box" 1 f__law_box := ok__law_box (k := 0) D__law_box m_len m_list 
  have c__law_take : FnAt P w K mg base 1 "_law_take" 2 f__law_take := ok__law_take (k := 0) D__law_take m_len 
  have c__law_common : FnAt P w K mg base 1 "_law_common" 2 f__law_common := ok__law_common (k := 0) D__law_common m_abs 
  have c__law_low : FnAt P w K mg base 2 "_law_low" 2 f__law_low := ok__law_low (k := 1) D__law_low  (c__law_common.mono (by decide)) 
  have c__law_above : FnAt P w K mg base 3 "_law_above" 2 f__law_above := ok__law_above (k := 2) D__law_above  (c__law_low.mono (by decide)) (c__law_take.mono (by decide)) 
  have c__law_sum : FnAt P w K mg base 3 "_law_sum" 2 f__law_sum := ok__law_sum (k := 2) D__law_sum  (c__law_low.mono (by decide)) 
  have c__law_rows_between : FnAt P w K mg base 4 "_law_rows_between" 3 f__law_rows_between := ok__law_rows_between (k := 3) D__law_rows_between m_range m_len m_set (c__law_above.mono (by decide)) (c__law_take.mono (by decide)) (c__law_sum.mono (by decide)) 
  have c__law_one : FnAt P w K mg base 2 "_law_one" 2 f__law_one := ok__law_one (k := 1) D__law_one m_len (c__law_take.mono (by decide)) 
  have c__law_under : FnAt P w K mg base 1 "_law_under" 2 f__law_under := ok__law_under (k := 0) D__law_under  
  have c__law_steps_between : FnAt P w K mg base 3 "_law_steps_between" 2 f__law_steps_between := ok__law_steps_between (k := 2) D__law_steps_between m_len m_range (c__law_take.mono (by decide)) (c__law_one.mono (by decide)) (c__law_under.mono (by decide)) 
  have c__law_product : FnAt P w K mg base 3 "_law_product" 2 f__law_product := ok__law_product (k := 2) D__law_product  (c__law_low.mono (by decide)) 
  have c__law_less_by : FnAt P w K mg base 3 "_law_less_by" 2 f__law_less_by := ok__law_less_by (k := 2) D__law_less_by  (c__law_low.mono (by decide)) 
  have c__law_share_of : FnAt P w K mg base 3 "_law_share_of" 2 f__law_share_of := ok__law_share_of (k := 2) D__law_share_of  (c__law_low.mono (by decide)) 
  have c__law_fair : FnAt P w K mg base 5 "_law_fair" 3 f__law_fair := ok__law_fair (k := 4) D__law_fair m_range (c__law_rows_between.mono (by decide)) (c__law_steps_between.mono (by decide)) (c__law_take.mono (by decide)) (c__law_sum.mono (by decide)) (c__law_product.mono (by decide)) (c__law_less_by.mono (by decide)) (c__law_share_of.mono (by decide)) 
  have c__law_loose : FnAt P w K mg base 6 "_law_loose" 3 f__law_loose := ok__law_loose (k := 5) D__law_loose m_range m_len (c__law_fair.mono (by decide)) (c__law_take.mono (by decide)) (c__law_above.mono (by decide)) 
  have c__law_ahead : FnAt P w K mg base 1 "_law_ahead" 3 f__law_ahead := ok__law_ahead (k := 0) D__law_ahead  
  have c__law_rimmed : FnAt P w K mg base 4 "_law_rimmed" 2 f__law_rimmed := ok__law_rimmed (k := 3) D__law_rimmed m_len (c__law_take.mono (by decide)) (c__law_ahead.mono (by decide)) (c__law_share_of.mono (by decide)) 
  have c_look_shape : FnAt P w K mg base 3 "look_shape" 3 f_look_shape := ok_look_shape (k := 2) D_look_shape (by omega) x_BadShape m_len m_enumerate c_MOST_DATES c_MOST_NODES 
  have k_look_above_1_rated : CallAt P w K mg base 1 "look_above" 1 ["rated"] [.inl 0, .inl 1] [] 2 f_look_above := ok_look_above D_k_look_above_1_rated m_enumerate 
  have c_less : FnAt P w K mg base 1 "less" 2 f_less := ok_less (k := 0) D_less  
  have c_look_steps : FnAt P w K mg base 2 "look_steps" 2 f_look_steps := ok_look_steps (k := 1) D_look_steps m_enumerate m_len (c_less.mono (by decide)) 
  have c_Lattice___init__ : MkAt P w K mg base 4 "Lattice" 4 f_Lattice___init__ := ok_Lattice___init__ (k := 3) D_Lattice___init__ m_list (c_look_shape.mono (by decide)) (k_look_above_1_rated.mono (by decide)) (c_look_steps.mono (by decide)) fd_Lattice_prices fd_Lattice_rates fd_Lattice_steps
  have c__law_web : FnAt P w K mg base 6 "_law_web" 1 f__law_web := ok__law_web (k := 5) D__law_web  (by decide) c_Lattice___init__ 
  have c__law_same : FnAt P w K mg base 20 "_law_same" 2 (fr__law_same 20) := (at__law_same D__law_same m_list m_isinstance m_tuple m_len m_zip m_all m_bool m_int m_str   20).mono (by decide)
  have c__law_turned_sign : FnAt P w K mg base 1 "_law_turned_sign" 1 f__law_turned_sign := ok__law_turned_sign (k := 0) D__law_turned_sign  
  have c__law_win : FnAt P w K mg base 4 "_law_win" 1 f__law_win := ok__law_win (k := 3) D__law_win m_len m_range (c__law_ahead.mono (by decide)) (c__law_product.mono (by decide)) (c__law_under.mono (by decide)) (c__law_turned_sign.mono (by decide)) 
  have c_Lattice_last : MtAt P w K mg base 1 "Lattice" "last" 1 f_Lattice_last := ok_Lattice_last (k := 0) D_Lattice_last m_len fd_Lattice_prices
  have c_Lattice_many : MtAt P w K mg base 1 "Lattice" "many" 2 f_Lattice_many := ok_Lattice_many (k := 0) D_Lattice_many m_len fd_Lattice_prices
  have k_Lattice_look_node_3_stepping : MCallAt P w K mg base 2 "Lattice" "look_node" 3 ["stepping"] [.inl 0, .inl 1, .inl 2, .inl 3] [] 4 f_Lattice_look_node := ok_Lattice_look_node D_k_Lattice_look_node_3_stepping  (c_Lattice_many.mono (by decide)) (c_Lattice_last.mono (by decide)) 
  have k_Lattice_look_node_3 : MCallAt P w K mg base 2 "Lattice" "look_node" 3 [] [.inl 0, .inl 1, .inl 2, .inr 0] [(.bl true)] 4 f_Lattice_look_node := ok_Lattice_look_node D_k_Lattice_look_node_3  (c_Lattice_many.mono (by decide)) (c_Lattice_last.mono (by decide)) 
  have c_Lattice_step : MtAt P w K mg base 3 "Lattice" "step" 3 f_Lattice_step := ok_Lattice_step (k := 2) D_Lattice_step  (k_Lattice_look_node_3.mono (by decide)) fd_Lattice_steps
  have c_common : FnAt P w K mg base 1 "common" 2 f_common := ok_common (k := 0) D_common m_abs 
  have c_lowest : FnAt P w K mg base 2 "lowest" 2 f_lowest := ok_lowest (k := 1) D_lowest  (c_common.mono (by decide)) 
  have c_times : FnAt P w K mg base 3 "times" 2 f_times := ok_times (k := 2) D_times  (c_lowest.mono (by decide)) 
  have c_Lattice_price : MtAt P w K mg base 3 "Lattice" "price" 3 f_Lattice_price := ok_Lattice_price (k := 2) D_Lattice_price  (k_Lattice_look_node_3_stepping.mono (by decide)) fd_Lattice_prices
  have c_Lattice_rate : MtAt P w K mg base 3 "Lattice" "rate" 3 f_Lattice_rate := ok_Lattice_rate (k := 2) D_Lattice_rate  (k_Lattice_look_node_3.mono (by decide)) fd_Lattice_rates
  have c_Lattice_sides : MtAt P w K mg base 4 "Lattice" "sides" 3 f_Lattice_sides := ok_Lattice_sides (k := 3) D_Lattice_sides  (c_Lattice_step.mono (by decide)) (c_times.mono (by decide)) (c_Lattice_price.mono (by decide)) (c_Lattice_rate.mono (by decide)) fd_Lattice_prices
  have c_minus : FnAt P w K mg base 3 "minus" 2 f_minus := ok_minus (k := 2) D_minus  (c_lowest.mono (by decide)) 
  have c_Lattice_win : MtAt P w K mg base 5 "Lattice" "win" 1 f_Lattice_win := ok_Lattice_win (k := 4) D_Lattice_win m_range c_NOUGHT c_ONE (c_Lattice_last.mono (by decide)) (c_Lattice_many.mono (by decide)) (c_Lattice_sides.mono (by decide)) (c_less.mono (by decide)) (c_minus.mono (by decide)) fd_Lattice_prices
  have c__law_weight : FnAt P w K mg base 4 "_law_weight" 3 f__law_weight := ok__law_weight (k := 3) D__law_weight  (c__law_ahead.mono (by decide)) (c__law_product.mono (by decide)) (c__law_share_of.mono (by decide)) (c__law_less_by.mono (by decide)) 
  have c_by : FnAt P w K mg base 3 "by" 2 f_by := ok_by (k := 2) D_by  (c_lowest.mono (by decide)) 
  have c_Lattice_share : MtAt P w K mg base 5 "Lattice" "share" 3 f_Lattice_share := ok_Lattice_share (k := 4) D_Lattice_share  (c_Lattice_sides.mono (by decide)) (c_by.mono (by decide)) (c_minus.mono (by decide)) 
  exact ok_law (fun_mk (st := s_law) l31 c31 k31) m_range m_len (c__law_box.mono (by decide)) (c__law_take.mono (by decide)) (c__law_fair.mono (by decide)) (c__law_loose.mono (by decide)) (c__law_rimmed.mono (by decide)) (c__law_web.mono (by decide)) (c__law_same.mono (by decide)) (c__law_win.mono (by decide)) (c_Lattice_win.mono (by decide)) (c__law_weight.mono (by decide)) (c_Lattice_share.mono (by decide)) 
end Lw
open PySem PySem.W PyProof.Rows
set_option maxHeartbeats 0 in
theorem PySem.Challenge.cw_strikeloom_k08_shares_and_wins_holds : PySem.Challenge.rw_strikeloom_k08_shares_and_wins.Holds := by
  w_on; o_law; k_head; (case hw => w_witness2)
  k_fill
  refine L2.walk_of (l := PySem.Challenge.rw_strikeloom_k08_shares_and_wins) (n := 63) (k := 21) (x := "_law_script") (CX := fun w => L2.CX PySem.Challenge.pw_strikeloom_k08_shares_and_wins w) (sp := fun w => DL.spF _ 1 Lw.f_law) rfl (by decide) rfl ⟨rfl, by decide, by decide⟩ (fun w h Y => PySem.W.kIn_of Y) ?F (fun _ _ a ns hl _ hS => DL.law_sp hS (Lw.law_eq ns hl)) (fun _ _ _ _ _ h => DL.CX_no h)
  case F =>
    intro w mg fa h KX G hmg
    refine' Lw.all_mk (P := PySem.Challenge.pw_strikeloom_k08_shares_and_wins) KX G hmg ?oa_Lattice ?og_Lattice ?oh_Lattice ?op_Lattice ?os_Lattice ?om_Lattice ?ok_Lattice ?of_Lattice_prices ?of_Lattice_rates ?of_Lattice_steps ?a0 ?l0 ?c0 ?k0 ?a1 ?l1 ?c1 ?k1 ?a2 ?l2 ?c2 ?k2 ?a3 ?l3 ?c3 ?k3 ?a4 ?l4 ?c4 ?k4 ?a5 ?l5 ?c5 ?k5 ?a6 ?l6 ?c6 ?k6 ?a7 ?l7 ?c7 ?k7 ?a8 ?l8 ?c8 ?k8 ?a9 ?l9 ?c9 ?k9 ?a10 ?l10 ?c10 ?k10 ?a11 ?l11 ?c11 ?k11 ?a12 ?l12 ?c12 ?k12 ?a13 ?l13 ?c13 ?k13 ?a14 ?l14 ?c14 ?k14 ?a15 ?l15 ?c15 ?k15 ?a16 ?l16 ?c16 ?k16 ?a17 ?l17 ?c17 ?k17 ?a18 ?l18 ?c18 ?k18 ?a19 ?l19 ?c19 ?k19 ?a20 ?l20 ?c20 ?k20 ?a21 ?l21 ?c21 ?k21 ?a22 ?l22 ?c22 ?k22 ?a23 ?l23 ?c23 ?k23 ?a24 ?l24 ?c24 ?k24 ?a25 ?l25 ?c25 ?k25 ?a26 ?l26 ?c26 ?k26 ?a27 ?l27 ?c27 ?k27 ?a28 ?l28 ?c28 ?k28 ?a29 ?l29 ?c29 ?k29 ?a30 ?l30 ?c30 ?k30 ?a31 ?l31 ?c31 ?k31 ?a32 ?i32 ?l32 ?c32 ?k32 ?a33 ?i33 ?l33 ?c33 ?k33 ?a34 ?i34 ?l34 ?c34 ?k34 ?a35 ?i35 ?l35 ?c35 ?k35 ?ka_35_stepping ?ke_35_stepping ?a36 ?i36 ?l36 ?c36 ?k36 ?a37 ?i37 ?l37 ?c37 ?k37 ?a38 ?i38 ?l38 ?c38 ?k38 ?a39 ?i39 ?l39 ?c39 ?k39 ?a40 ?i40 ?l40 ?c40 ?k40 ?a41 ?i41 ?l41 ?c41 ?k41 ?z_abs ?z_len ?z_enumerate ?z_list ?z_isinstance ?z_tuple ?z_zip ?z_all ?z_bool ?z_int ?z_str ?z_range ?z_set ?qa_MOST_DATES ?qe_MOST_DATES ?qa_MOST_NODES ?qe_MOST_NODES ?qa_NOUGHT ?ql_NOUGHT ?qe_NOUGHT ?qz_NOUGHT ?qa_ONE ?ql_ONE ?qe_ONE ?qz_ONE ?xa_BadShape ?xO_BadShape ?xI_BadShape ?xT_BadShape ?xl_BadShape ?xC_BadShape ?xk_BadShape ?xf_BadShape_0
    (case oa_Lattice => k_is); (case og_Lattice => k_is); (case oh_Lattice => k_is); (case op_Lattice => k_is); (case os_Lattice => k_is); (case om_Lattice => k_is); (case ok_Lattice => k_is); (case of_Lattice_prices => k_is); (case of_Lattice_rates => k_is); (case of_Lattice_steps => k_is); (case a0 => k_is); (case l0 => k_is); (case c0 => k_is); (case k0 => k_is); (case a1 => k_is); (case l1 => k_is); (case c1 => k_is); (case k1 => k_is); (case a2 => k_is); (case l2 => k_is); (case c2 => k_is); (case k2 => k_is); (case a3 => k_is); (case l3 => k_is); (case c3 => k_is); (case k3 => k_is); (case a4 => k_is); (case l4 => k_is); (case c4 => k_is); (case k4 => k_is); (case a5 => k_is); (case l5 => k_is); (case c5 => k_is); (case k5 => k_is); (case a6 => k_is); (case l6 => k_is); (case c6 => k_is); (case k6 => k_is); (case a7 => k_is); (case l7 => k_is); (case c7 => k_is); (case k7 => k_is); (case a8 => k_is); (case l8 => k_is); (case c8 => k_is); (case k8 => k_is); (case a9 => k_is); (case l9 => k_is); (case c9 => k_is); (case k9 => k_is); (case a10 => k_is); (case l10 => k_is); (case c10 => k_is); (case k10 => k_is); (case a11 => k_is); (case l11 => k_is); (case c11 => k_is); (case k11 => k_is); (case a12 => k_is); (case l12 => k_is); (case c12 => k_is); (case k12 => k_is); (case a13 => k_is); (case l13 => k_is); (case c13 => k_is); (case k13 => k_is); (case a14 => k_is); (case l14 => k_is); (case c14 => k_is); (case k14 => k_is); (case a15 => k_is); (case l15 => k_is); (case c15 => k_is); (case k15 => k_is); (case a16 => k_is); (case l16 => k_is); (case c16 => k_is); (case k16 => k_is); (case a17 => k_is); (case l17 => k_is); (case c17 => k_is); (case k17 => k_is); (case a18 => k_is); (case l18 => k_is); (case c18 => k_is); (case k18 => k_is); (case a19 => k_is); (case l19 => k_is); (case c19 => k_is); (case k19 => k_is); (case a20 => k_is); (case l20 => k_is); (case c20 => k_is); (case k20 => k_is); (case a21 => k_is); (case l21 => k_is); (case c21 => k_is); (case k21 => k_is); (case a22 => k_is); (case l22 => k_is); (case c22 => k_is); (case k22 => k_is); (case a23 => k_is); (case l23 => k_is); (case c23 => k_is); (case k23 => k_is); (case a24 => k_is); (case l24 => k_is); (case c24 => k_is); (case k24 => k_is); (case a25 => k_is); (case l25 => k_is); (case c25 => k_is); (case k25 => k_is); (case a26 => k_is); (case l26 => k_is); (case c26 => k_is); (case k26 => k_is); (case a27 => k_is); (case l27 => k_is); (case c27 => k_is); (case k27 => k_is); (case a28 => k_is); (case l28 => k_is); (case c28 => k_is); (case k28 => k_is); (case a29 => k_is); (case l29 => k_is); (case c29 => k_is); (case k29 => k_is); (case a30 => k_is); (case l30 => k_is); (case c30 => k_is); (case k30 => k_is); (case a31 => k_is); (case l31 => k_is); (case c31 => k_is); (case k31 => k_is); (case a32 => k_is); (case i32 => k_is); (case l32 => k_is); (case c32 => k_is); (case k32 => k_is); (case a33 => k_is); (case i33 => k_is); (case l33 => k_is); (case c33 => k_is); (case k33 => k_is); (case a34 => k_is); (case i34 => k_is); (case l34 => k_is); (case c34 => k_is); (case k34 => k_is); (case a35 => k_is); (case i35 => k_is); (case l35 => k_is); (case c35 => k_is); (case k35 => k_is); (case ka_35_stepping => k_is); (case ke_35_stepping => rfl); (case a36 => k_is); (case i36 => k_is); (case l36 => k_is); (case c36 => k_is); (case k36 => k_is); (case a37 => k_is); (case i37 => k_is); (case l37 => k_is); (case c37 => k_is); (case k37 => k_is); (case a38 => k_is); (case i38 => k_is); (case l38 => k_is); (case c38 => k_is); (case k38 => k_is); (case a39 => k_is); (case i39 => k_is); (case l39 => k_is); (case c39 => k_is); (case k39 => k_is); (case a40 => k_is); (case i40 => k_is); (case l40 => k_is); (case c40 => k_is); (case k40 => k_is); (case a41 => k_is); (case i41 => k_is); (case l41 => k_is); (case c41 => k_is); (case k41 => k_is); (case z_abs => k_is); (case z_len => k_is); (case z_enumerate => k_is); (case z_list => k_is); (case z_isinstance => k_is); (case z_tuple => k_is); (case z_zip => k_is); (case z_all => k_is); (case z_bool => k_is); (case z_int => k_is); (case z_str => k_is); (case z_range => k_is); (case z_set => k_is); (case qa_MOST_DATES => k_is); (case qe_MOST_DATES => rfl); (case qa_MOST_NODES => k_is); (case qe_MOST_NODES => rfl); (case qa_NOUGHT => k_is); (case ql_NOUGHT => k_is); (case qe_NOUGHT => rfl); (case qz_NOUGHT => decide); (case qa_ONE => k_is); (case ql_ONE => k_is); (case qe_ONE => rfl); (case qz_ONE => decide); (case xa_BadShape => k_is); (case xO_BadShape => exact ⟨⟨_, _, _, _, _, _, _, _, _, _, _, _, _, _, _, by k_is, by rfl⟩, by k_is, by k_is, by k_is, by k_is⟩); (case xI_BadShape => k_is); (case xT_BadShape => k_is); (case xl_BadShape => k_is); (case xC_BadShape => k_is); (case xk_BadShape => k_is); (case xf_BadShape_0 => k_is)
