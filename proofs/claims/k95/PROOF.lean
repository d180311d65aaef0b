import PyProof.Rows.All
import Wide.All
import OpenK.AllK
import Wide.FinOn
import HandS.ForMost
import HandS.Exc
import HandS.ExcOwn
import HandS.ExcInit
import HandS.ExcIs
import HandS.ExcField
import HandS.IsInst
import HandS.Deep
import HandS.Flow
import HandS.FStr
import HandS.DictComp
import HandS.Defaults
import HandS.Lambda
import HandS.TupAny
import HandS.Conv
import HandS.RaiseMore
import HandS.HeadHook1
import HandS.Style
import PyProof.ReprRoads
import PyProof.CallFns
import HandS.ExcSuper
import KE.KxField
import HandS.EndTab
import HandS.EndBits
import HandS.Head0
import HandS.Head1
import HandS.Head2
import HandS.HeadEnd
import HandS.HeadHook2
import KE.KNestM
import HandS.Iter
import PySem.Challenge.RW_samequick_k95_texts_as_words
set_option Elab.async false
set_option linter.all false
set_option maxRecDepth 100000
set_option maxHeartbeats 400000
/-! Part 1: plain values without addresses, how they stand in the abstract heap, and what it means that an expression reads as a plain one. -/
namespace RF
open PySem PySem.Spec L2

/-- plain values: tuples, locked lists and locked dicts by their content; a thing that changes by its number; ref: an object of which nothing is said -/
inductive PV where
  | non | bl (b : Bool) | int (i : Int) | str (s : Str)
  | tup (ps : List PV) | lst (ps : List PV) | dct (ks : List (Key × PV)) | loc (n : Nat) | ref (a : Addr)
inductive Cell where
  | lst (ps : List PV) | dct (ks : List (Key × PV))
abbrev PH := Nat → Option Cell
abbrev SI := List (Option PV)
def put (hp : PH) (n : Nat) (c : Cell) : PH := fun m => if m = n then some c else hp m
def drp (hp : PH) (n : Nat) : PH := fun m => if m = n then none else hp m
theorem put_same {hp : PH} {n : Nat} {c : Cell} : put hp n c n = some c := if_pos rfl
theorem put_ne {hp : PH} {n m : Nat} {c : Cell} (h : m ≠ n) : put hp n c m = hp m := if_neg h
theorem drp_put {hp : PH} {n : Nat} {c : Cell} (h : hp n = none) : drp (put hp n c) n = hp := by
  funext m
  by_cases e : m = n
  · subst e; simp [drp, h]
  · simp [drp, put, e]
theorem put_put {hp : PH} {n : Nat} {c d : Cell} : put (put hp n c) n d = put hp n d := by
  funext m
  by_cases e : m = n <;> simp [put, e]

/-- the written part, the tables of code objects -/
structure Cfg where
  K : PySem.W.Frag
  T : List (Addr × Str)
  xs : List (Addr × Str × PV) := []
  cs : List (Addr × Str) := []
  sl : List (List (Option PV) × St) := []
  scr : List (Addr × List Int) := []

def FzL (H : Hp) (a : Addr) (xs : List V) : Prop := ∃ o, H a = some (.frz o (.lst xs))
theorem FzL.sq {K : PySem.W.Frag} {H : Hp} {a : Addr} {xs : List V} (h : FzL H a xs) : SqL K H a xs := by
  obtain ⟨o, h⟩ := h
  exact .inl (.inr ⟨o, h⟩)
def FzD (H : Hp) (a : Addr) (ws : List (Key × V)) : Prop := ∃ o, H a = some (.frz o (.dK ws))

/-- a list that can't change: locked, or one of the written part -/
def StL (K : PySem.W.Frag) (H : Hp) (a : Addr) (xs : List V) : Prop := FzL H a xs ∨ ∀ H', SqL K H' a xs
theorem StL.sq {K : PySem.W.Frag} {H : Hp} {a : Addr} {xs : List V} (h : StL K H a xs) : SqL K H a xs := h.elim (·.sq) (· H)
mutual
def RV (K : PySem.W.Frag) (μ : List Addr) (H : Hp) : PV → V → Prop
  | .non, v => v = .non
  | .bl b, v => v = .bl b
  | .int i, v => v = .int i
  | .str s, v => v = .str s
  | .tup ps, v => ∃ a vs, v = .ref a ∧ SqT K H a vs ∧ RVs K μ H ps vs
  | .lst ps, v => ∃ a vs, v = .ref a ∧ FzL H a vs ∧ RVs K μ H ps vs
  | .dct ks, v => ∃ a ws, v = .ref a ∧ FzD H a ws ∧ RKs K μ H ks ws
  | .loc n, v => ∃ a, v = .ref a ∧ μ[n]? = some a
  | .ref a, v => v = .ref a
def RVs (K : PySem.W.Frag) (μ : List Addr) (H : Hp) : List PV → List V → Prop
  | [], vs => vs = []
  | p :: ps, vs => ∃ w ws, vs = w :: ws ∧ RV K μ H p w ∧ RVs K μ H ps ws
def RKs (K : PySem.W.Frag) (μ : List Addr) (H : Hp) : List (Key × PV) → List (Key × V) → Prop
  | [], vs => vs = []
  | (k, p) :: ps, vs => ∃ w ws, vs = (k, w) :: ws ∧ RV K μ H p w ∧ RKs K μ H ps ws
end

def stab : HO → Bool
  | .tup _ => true
  | .frz _ _ => true
  | .xd _ => true
  | .ext _ => true
  | _ => false
def lsd : HO → Bool
  | .lst _ => true
  | .dK _ => true
  | _ => false
/-- something stands there that is no table -/
def nt (H : Hp) (a : Addr) : Prop := ∃ o, H a = some o ∧ ∀ ps, o ≠ .tbl ps
theorem stab_nt {o : HO} (h : stab o = true) : ∀ ps, o ≠ .tbl ps := fun ps z => by rw [z] at h; cases h
theorem lsd_nt {o : HO} (h : lsd o = true) : ∀ ps, o ≠ .tbl ps := fun ps z => by rw [z] at h; cases h
/-- later: the numbers keep their addresses, what can't change stays, lists and dicts without a number stay -/
structure Up (μ : List Addr) (H : Hp) (μ' : List Addr) (H' : Hp) : Prop where
  ad : ∀ (n : Nat) (a : Addr), μ[n]? = some a → μ'[n]? = some a
  st : ∀ a o, stab o = true → H a = some o → H' a = some o
  dm : ∀ a, nt H a → nt H' a
  hid : ∀ a o, lsd o = true → H a = some o → a ∉ μ → H' a = some o ∧ a ∉ μ'
/-- the part that a value asks -/
structure Up0 (μ : List Addr) (H : Hp) (μ' : List Addr) (H' : Hp) : Prop where
  ad : ∀ (n : Nat) (a : Addr), μ[n]? = some a → μ'[n]? = some a
  st : ∀ a o, stab o = true → H a = some o → H' a = some o
theorem Up.weak {μ : List Addr} {H : Hp} {μ' : List Addr} {H' : Hp} (u : Up μ H μ' H') : Up0 μ H μ' H' := ⟨u.ad, u.st⟩
theorem Up.refl {μ : List Addr} {H : Hp} : Up μ H μ H := ⟨fun _ _ h => h, fun _ _ _ h => h, fun _ h => h, fun _ _ _ h n => ⟨h, n⟩⟩
theorem Up.trans {μ μ1 μ2 : List Addr} {H H1 H2 : Hp} (a : Up μ H μ1 H1) (b : Up μ1 H1 μ2 H2) : Up μ H μ2 H2 :=
  ⟨fun n x h => b.ad n x (a.ad n x h), fun x o s h => b.st x o s (a.st x o s h), fun x h => b.dm x (a.dm x h), fun x o l h n =>
    let z := a.hid x o l h n
    b.hid x o l z.1 z.2⟩
section
variable {K : PySem.W.Frag} {μ μ' : List Addr} {H H' : Hp}
theorem Up0.sqT (u : Up0 μ H μ' H') {a : Addr} {xs : List V} (h : SqT K H a xs) : SqT K H' a xs := by
  rcases h with (h | ⟨o, h⟩) | h
  · exact .inl (.inl (u.st _ _ rfl h))
  · exact .inl (.inr ⟨o, u.st _ _ rfl h⟩)
  · exact .inr h
theorem Up0.fzL (u : Up0 μ H μ' H') {a : Addr} {xs : List V} (h : FzL H a xs) : FzL H' a xs := by
  obtain ⟨o, h⟩ := h
  exact ⟨o, u.st _ _ rfl h⟩
theorem Up0.fzD (u : Up0 μ H μ' H') {a : Addr} {xs : List (Key × V)} (h : FzD H a xs) : FzD H' a xs := by
  obtain ⟨o, h⟩ := h
  exact ⟨o, u.st _ _ rfl h⟩
mutual
theorem RV.up0 (u : Up0 μ H μ' H') : ∀ (p : PV) (v : V), RV K μ H p v → RV K μ' H' p v
  | .non, _, h => by simpa only [RV] using h
  | .bl _, _, h => by simpa only [RV] using h
  | .int _, _, h => by simpa only [RV] using h
  | .str _, _, h => by simpa only [RV] using h
  | .ref _, _, h => by simpa only [RV] using h
  | .tup ps, _, h => by
    simp only [RV] at h ⊢
    obtain ⟨a, vs, e, s, r⟩ := h
    exact ⟨a, vs, e, u.sqT s, RVs.up0 u ps vs r⟩
  | .lst ps, _, h => by
    simp only [RV] at h ⊢
    obtain ⟨a, vs, e, s, r⟩ := h
    exact ⟨a, vs, e, u.fzL s, RVs.up0 u ps vs r⟩
  | .dct ks, _, h => by
    simp only [RV] at h ⊢
    obtain ⟨a, vs, e, s, r⟩ := h
    exact ⟨a, vs, e, u.fzD s, RKs.up0 u ks vs r⟩
  | .loc n, _, h => by
    simp only [RV] at h ⊢
    obtain ⟨a, e, s⟩ := h
    exact ⟨a, e, u.ad _ _ s⟩
theorem RVs.up0 (u : Up0 μ H μ' H') : ∀ (ps : List PV) (vs : List V), RVs K μ H ps vs → RVs K μ' H' ps vs
  | [], _, h => by simpa only [RVs] using h
  | p :: ps, _, h => by
    simp only [RVs] at h ⊢
    obtain ⟨w, ws, e, r, s⟩ := h
    exact ⟨w, ws, e, RV.up0 u p w r, RVs.up0 u ps ws s⟩
theorem RKs.up0 (u : Up0 μ H μ' H') : ∀ (ks : List (Key × PV)) (vs : List (Key × V)), RKs K μ H ks vs → RKs K μ' H' ks vs
  | [], _, h => by simpa only [RKs] using h
  | (k, p) :: ps, _, h => by
    simp only [RKs] at h ⊢
    obtain ⟨w, ws, e, r, s⟩ := h
    exact ⟨w, ws, e, RV.up0 u p w r, RKs.up0 u ps ws s⟩
end
theorem RV.up (u : Up μ H μ' H') (p : PV) (v : V) (h : RV K μ H p v) : RV K μ' H' p v := RV.up0 u.weak p v h
theorem RVs.up (u : Up μ H μ' H') (p : List PV) (v : List V) (h : RVs K μ H p v) : RVs K μ' H' p v := RVs.up0 u.weak p v h
theorem RKs.up (u : Up μ H μ' H') (p : List (Key × PV)) (v : List (Key × V)) (h : RKs K μ H p v) : RKs K μ' H' p v := RKs.up0 u.weak p v h
theorem Up.sqT (u : Up μ H μ' H') {a : Addr} {xs : List V} (h : SqT K H a xs) : SqT K H' a xs := u.weak.sqT h
theorem Up.fzL (u : Up μ H μ' H') {a : Addr} {xs : List V} (h : FzL H a xs) : FzL H' a xs := u.weak.fzL h
theorem Up.fzD (u : Up μ H μ' H') {a : Addr} {xs : List (Key × V)} (h : FzD H a xs) : FzD H' a xs := u.weak.fzD h
theorem RVs.length : ∀ {ps : List PV} {vs : List V}, RVs K μ H ps vs → vs.length = ps.length
  | [], _, h => by
    simp only [RVs] at h
    subst h; rfl
  | p :: ps, _, h => by
    simp only [RVs] at h
    obtain ⟨w, ws, e, r, s⟩ := h
    subst e
    simp [RVs.length s]
theorem RVs.get : ∀ {ps : List PV} {vs : List V} {i : Nat} {p : PV}, RVs K μ H ps vs → ps[i]? = some p → ∃ v, vs[i]? = some v ∧ RV K μ H p v
  | [], _, _, _, _, e => by simp at e
  | p :: ps, _, 0, _, h, e => by
    simp only [RVs] at h
    obtain ⟨w, ws, rfl, r, s⟩ := h
    simp at e
    subst e
    exact ⟨w, rfl, r⟩
  | p :: ps, _, i + 1, _, h, e => by
    simp only [RVs] at h
    obtain ⟨w, ws, rfl, r, s⟩ := h
    simpa using RVs.get (i := i) s (by simpa using e)
theorem RVs.nil : RVs K μ H [] [] := by simp only [RVs]
theorem RVs.cons {p : PV} {v : V} {ps : List PV} {vs : List V} (r : RV K μ H p v) (s : RVs K μ H ps vs) : RVs K μ H (p :: ps) (v :: vs) := by
  simp only [RVs]
  exact ⟨v, vs, rfl, r, s⟩
theorem RVs.append : ∀ {ps qs : List PV} {vs ws : List V}, RVs K μ H ps vs → RVs K μ H qs ws → RVs K μ H (ps ++ qs) (vs ++ ws)
  | [], _, _, _, h, s => by
    simp only [RVs] at h
    subst h; exact s
  | p :: ps, _, _, _, h, s => by
    simp only [RVs] at h
    obtain ⟨w, ws, rfl, r, t⟩ := h
    exact .cons r (RVs.append t s)
theorem RVs.take : ∀ {ps : List PV} {vs : List V} (n : Nat), RVs K μ H ps vs → RVs K μ H (ps.take n) (vs.take n)
  | _, _, 0, _ => by simpa using RVs.nil
  | [], _, n + 1, h => by
    simp only [RVs] at h
    subst h; simpa using RVs.nil
  | p :: ps, _, n + 1, h => by
    simp only [RVs] at h
    obtain ⟨w, ws, rfl, r, t⟩ := h
    exact .cons r (RVs.take n t)
theorem RVs.drop : ∀ {ps : List PV} {vs : List V} (n : Nat), RVs K μ H ps vs → RVs K μ H (ps.drop n) (vs.drop n)
  | _, _, 0, h => h
  | [], _, n + 1, h => by
    simp only [RVs] at h
    subst h; simpa using RVs.nil
  | p :: ps, _, n + 1, h => by
    simp only [RVs] at h
    obtain ⟨w, ws, rfl, r, t⟩ := h
    exact RVs.drop n t
theorem RVs.set {p : PV} {v : V} (r : RV K μ H p v) : ∀ {ps : List PV} {vs : List V} (n : Nat), RVs K μ H ps vs → RVs K μ H (ps.set n p) (vs.set n v)
  | [], _, _, h => by
    simp only [RVs] at h
    subst h; simpa using RVs.nil
  | q :: ps, _, 0, h => by
    simp only [RVs] at h
    obtain ⟨w, ws, rfl, _, t⟩ := h
    exact .cons r t
  | q :: ps, _, n + 1, h => by
    simp only [RVs] at h
    obtain ⟨w, ws, rfl, r1, t⟩ := h
    exact .cons r1 (RVs.set r n t)
theorem RVs.reverse : ∀ {ps : List PV} {vs : List V}, RVs K μ H ps vs → RVs K μ H ps.reverse vs.reverse
  | [], _, h => by
    simp only [RVs] at h
    subst h; exact .nil
  | p :: ps, _, h => by
    simp only [RVs] at h
    obtain ⟨w, ws, rfl, r, t⟩ := h
    rw [List.reverse_cons, List.reverse_cons]
    exact (RVs.reverse t).append (.cons r .nil)
theorem RVs.map {α : Type} {f : α → PV} {g : α → V} (h : ∀ x, RV K μ H (f x) (g x)) : ∀ l : List α, RVs K μ H (l.map f) (l.map g)
  | [] => .nil
  | x :: l => .cons (h x) (RVs.map h l)
theorem RVs.map_eq {α : Type} {f : α → PV} {g : α → V} (h : ∀ x v, RV K μ H (f x) v → v = g x) : ∀ (l : List α) {vs : List V}, RVs K μ H (l.map f) vs → vs = l.map g
  | [], _, r => by
    simp only [List.map_nil, RVs] at r
    exact r
  | x :: l, _, r => by
    simp only [List.map_cons, RVs] at r
    obtain ⟨w, ws, rfl, r1, t⟩ := r
    rw [h x w r1, RVs.map_eq h l t]
    rfl
end

section
variable (C : Cfg)
def CellR (μ : List Addr) (H : Hp) (a : Addr) : Cell → Prop
  | .lst ps => ∃ vs, H a = some (.lst vs) ∧ RVs C.K μ H ps vs
  | .dct ks => ∃ ws, H a = some (.dK ws) ∧ RKs C.K μ H ks ws
/-- the caught errors' dicts, code objects, slots of frames that wait, the script -/
structure XD (μ : List Addr) (H : Hp) : Prop where
  xs : ∀ q ∈ C.xs, ∃ v, H q.1 = some (.xd [(q.2.1, v)]) ∧ RV C.K μ H q.2.2 v
  cs : ∀ q ∈ C.cs, H q.1 = some (LamX.CodeO q.1 q.2)
  sl : ∀ q ∈ C.sl, q.1.length = q.2.length ∧ ∀ (i : Nat) (p : PV), q.1[i]? = some (some p) → ∃ v, q.2[i]? = some (some v) ∧ RV C.K μ H p v
  scr : ∀ q ∈ C.scr, StL C.K H q.1 (q.2.map V.int)
structure HR (μ : List Addr) (H : Hp) (hp : PH) : Prop where
  nd : μ.Nodup
  lv : ∀ a ∈ μ, nt H a
  cell : ∀ n c, hp n = some c → ∃ a, μ[n]? = some a ∧ CellR C μ H a c
  tabs : LamX.Tabs C.T H
  xd : XD C μ H
structure SR (μ : List Addr) (H : Hp) (σI : SI) (σ : St) : Prop where
  len : σI.length = σ.length
  get : ∀ (i : Nat) (p : PV), σI[i]? = some (some p) → ∃ v, σ[i]? = some (some v) ∧ RV C.K μ H p v
/-- what is wanted of an own error: its class's name, what it bears -/
abbrev EI := Str → PV → PH → Prop
/-- the field that an own error bears -/
def fldOf (c : Str) : Str := if c = ("BadText" : Str) then "at" else if c = ("BadBytes" : Str) then "at" else "thing"
def EOK (E : XK) (e : EI) (μ : List Addr) (H : Hp) : Prop :=
  ∀ (c : Str) (p : PV) (hp : PH) (μ' : List Addr) (H' : Hp) (d : Addr) (v : V), Up μ H μ' H' → HR C μ' H' hp → H' d = some (.xd [(fldOf c, v)]) → RV C.K μ' H' p v → e c p hp → E (.ref (He.ga C.K c)) (some d) H'
end
section
variable {C : Cfg} {μ μ' : List Addr} {H H' : Hp} {σI : SI} {σ : St} {hp : PH}
theorem XD.up0 (x : XD C μ H) (u : Up0 μ H μ' H') : XD C μ' H' := ⟨fun q hq => by
  obtain ⟨v, e, r⟩ := x.xs q hq
  exact ⟨v, u.st _ _ rfl e, RV.up0 u _ _ r⟩, fun q hq => u.st _ _ rfl (x.cs q hq), fun q hq => ⟨(x.sl q hq).1, fun i p e => by
  obtain ⟨v, e1, r⟩ := (x.sl q hq).2 i p e
  exact ⟨v, e1, RV.up0 u _ _ r⟩⟩, fun q hq => (x.scr q hq).imp u.fzL id⟩
theorem SR.up (s : SR C μ H σI σ) (u : Up μ H μ' H') : SR C μ' H' σI σ := ⟨s.len, fun i p e => by
  obtain ⟨v, e1, r⟩ := s.get i p e
  exact ⟨v, e1, RV.up u _ _ r⟩⟩
theorem EOK.up {E : XK} {e : EI} (s : EOK C E e μ H) (u : Up μ H μ' H') : EOK C E e μ' H' := fun c p hp μ2 H2 d v u2 => s c p hp μ2 H2 d v (u.trans u2)
theorem SR.set {i : Nat} {p : PV} {v : V} (s : SR C μ H σI σ) (r : RV C.K μ H p v) : SR C μ H (σI.set i (some p)) (σ.set i (some v)) := by
  refine ⟨by simpa using s.len, fun j q e => ?_⟩
  by_cases h : i = j
  · subst h
    by_cases hl : i < σI.length
    · rw [List.getElem?_set_self hl] at e
      cases e
      exact ⟨v, List.getElem?_set_self (by rw [← s.len]; exact hl), r⟩
    · rw [List.getElem?_eq_none (by simpa using hl)] at e
      cases e
  · rw [List.getElem?_set_ne h] at e ⊢
    exact s.get j q e
end

/-- what an expression means -/
abbrev KI := PV → PH → Prop
abbrev WE := SI → PH → EI → KI → Prop
abbrev WT := SI → PH → EI → (Bool → PH → Prop) → Prop
abbrev WA := SI → PH → EI → (List PV → PH → Prop) → Prop
structure DI where
  nx : SI → PH → Prop
  rt : KI
  bk : SI → PH → Prop := fun _ _ => False
  ct : SI → PH → Prop := fun _ _ => False
abbrev WS := SI → PH → EI → DI → Prop
def MoE (w : WE) : Prop := ∀ σ hp e Q Q', (∀ p h, Q p h → Q' p h) → w σ hp e Q → w σ hp e Q'
def MoT (w : WT) : Prop := ∀ σ hp e Q Q', (∀ p h, Q p h → Q' p h) → w σ hp e Q → w σ hp e Q'
def MoA (w : WA) : Prop := ∀ σ hp e Q Q', (∀ p h, Q p h → Q' p h) → w σ hp e Q → w σ hp e Q'
structure DI.le (D D' : DI) : Prop where
  nx : ∀ σ h, D.nx σ h → D'.nx σ h
  rt : ∀ p h, D.rt p h → D'.rt p h
  bk : ∀ σ h, D.bk σ h → D'.bk σ h
  ct : ∀ σ h, D.ct σ h → D'.ct σ h
def MoS (w : WS) : Prop := ∀ σ hp e D D', D.le D' → w σ hp e D → w σ hp e D'

section
variable (C : Cfg)
/-- the end of an expression, seen from (μ, H) -/
def fE (μ : List Addr) (H : Hp) (Q : VK) : KI := fun p hp => ∀ μ' H' v, Up μ H μ' H' → HR C μ' H' hp → RV C.K μ' H' p v → Q v H'
def fT (μ : List Addr) (H : Hp) (Q : Bool → Hp → Prop) : Bool → PH → Prop := fun b hp => ∀ μ' H', Up μ H μ' H' → HR C μ' H' hp → Q b H'
def fA (μ : List Addr) (H : Hp) (Q : List V → Hp → Prop) : List PV → PH → Prop := fun ps hp => ∀ μ' H' vs, Up μ H μ' H' → HR C μ' H' hp → RVs C.K μ' H' ps vs → Q vs H'
def fN (μ : List Addr) (H : Hp) (Q : St → Hp → Prop) : SI → PH → Prop := fun σI hp => ∀ μ' H' σ, Up μ H μ' H' → HR C μ' H' hp → SR C μ' H' σI σ → Q σ H'
def fD (μ : List Addr) (H : Hp) (D : Ends) : DI := ⟨fN C μ H D.nx, fE C μ H D.rt, fN C μ H D.bk, fN C μ H D.ct⟩
structure At (E : XK) (μ : List Addr) (H : Hp) (hp : PH) (e : EI) : Prop where
  hr : HR C μ H hp
  eok : EOK C E e μ H
def tE (E : XK) (w : WE) : TE := fun σ H Q => ∃ μ hp σI e, At C E μ H hp e ∧ SR C μ H σI σ ∧ w σI hp e (fE C μ H Q)
def tT (E : XK) (w : WT) : TT := fun σ H Q => ∃ μ hp σI e, At C E μ H hp e ∧ SR C μ H σI σ ∧ w σI hp e (fT C μ H Q)
def tA (E : XK) (w : WA) : TA := fun σ H Q => ∃ μ hp σI e, At C E μ H hp e ∧ SR C μ H σI σ ∧ w σI hp e (fA C μ H Q)
def tS (E : XK) (w : WS) : TS := fun D σ H => ∃ μ hp σI e, At C E μ H hp e ∧ SR C μ H σI σ ∧ w σI hp e (fD C μ H D)
end
/-- an expression reads as w -/
structure RE (X : Cx) (C : Cfg) (E : XK) (x : Expr) (w : WE) : Prop where
  mo : MoE w
  pe : PE X x (tE C E w)
structure RT (X : Cx) (C : Cfg) (E : XK) (x : Expr) (w : WT) : Prop where
  mo : MoT w
  pt : PT X x (tT C E w)
structure RA (X : Cx) (C : Cfg) (E : XK) (x : List Expr) (w : WA) : Prop where
  mo : MoA w
  pa : PA X x (tA C E w)
structure RS (X : Cx) (C : Cfg) (E : XK) (x : Stmt) (w : WS) : Prop where
  mo : MoS w
  ps : PS X x (tS C E w)
structure RSs (X : Cx) (C : Cfg) (E : XK) (x : List Stmt) (w : WS) : Prop where
  mo : MoS w
  ps : PSs X x (tS C E w)
theorem PE.imp {X : Cx} {x : Expr} {t t' : TE} (h : PE X x t) (i : ∀ σ H Q, t' σ H Q → t σ H Q) : PE X x t' := ⟨fun pins s σ H Q I q => h.run pins s σ H Q I (i σ H Q q)⟩
theorem PT.imp {X : Cx} {x : Expr} {t t' : TT} (h : PT X x t) (i : ∀ σ H Q, t' σ H Q → t σ H Q) : PT X x t' := ⟨fun pins s σ H Q I q => h.run pins s σ H Q I (i σ H Q q)⟩
theorem PW.imp {X : Cx} {x : Expr} {t t' : TT} (h : PW X x t) (i : ∀ σ H Q, t' σ H Q → t σ H Q) : PW X x t' := ⟨fun wh pins s σ H Q I q => h.run wh pins s σ H Q I (i σ H Q q)⟩
theorem PA.imp {X : Cx} {x : List Expr} {t t' : TA} (h : PA X x t) (i : ∀ σ H Q, t' σ H Q → t σ H Q) : PA X x t' := ⟨fun pos pins s σ H Q I q => h.run pos pins s σ H Q I (i σ H Q q)⟩
theorem PS.imp {X : Cx} {x : Stmt} {t t' : TS} (h : PS X x t) (i : ∀ D σ H, t' D σ H → t D σ H) : PS X x t' := ⟨fun pins s σ H D I q => h.run pins s σ H D I (i D σ H q)⟩
theorem PSs.imp {X : Cx} {x : List Stmt} {t t' : TS} (h : PSs X x t) (i : ∀ D σ H, t' D σ H → t D σ H) : PSs X x t' := ⟨fun pins s σ H D I q => h.run pins s σ H D I (i D σ H q)⟩

section
variable {C : Cfg} {E : XK} {μ μ' : List Addr} {H H' : Hp} {hp hp' : PH} {e : EI}
theorem At.next (a : At C E μ H hp e) (u : Up μ H μ' H') (h : HR C μ' H' hp') : At C E μ' H' hp' e := ⟨h, a.eok.up u⟩
/-- one part behind another: from the end of the first, the reading of what follows -/
theorem tE.go {w : WE} (mo : MoE w) {σ : St} {σI : SI} {Q : KI} {R : VK} (a : At C E μ H hp e) (s : SR C μ H σI σ) (q : w σI hp e Q)
    (h : ∀ p hp' μ' H' v, Q p hp' → Up μ H μ' H' → At C E μ' H' hp' e → SR C μ' H' σI σ → RV C.K μ' H' p v → R v H') : tE C E w σ H R :=
  ⟨μ, hp, σI, e, a, s, mo _ _ _ _ _ (fun p hp' q' μ' H' v u hr rv => h p hp' μ' H' v q' u (a.next u hr) (s.up u) rv) q⟩
theorem tT.go {w : WT} (mo : MoT w) {σ : St} {σI : SI} {Q : Bool → PH → Prop} {R : Bool → Hp → Prop} (a : At C E μ H hp e) (s : SR C μ H σI σ) (q : w σI hp e Q)
    (h : ∀ p hp' μ' H', Q p hp' → Up μ H μ' H' → At C E μ' H' hp' e → SR C μ' H' σI σ → R p H') : tT C E w σ H R :=
  ⟨μ, hp, σI, e, a, s, mo _ _ _ _ _ (fun p hp' q' μ' H' u hr => h p hp' μ' H' q' u (a.next u hr) (s.up u)) q⟩
theorem tA.go {w : WA} (mo : MoA w) {σ : St} {σI : SI} {Q : List PV → PH → Prop} {R : List V → Hp → Prop} (a : At C E μ H hp e) (s : SR C μ H σI σ) (q : w σI hp e Q)
    (h : ∀ p hp' μ' H' v, Q p hp' → Up μ H μ' H' → At C E μ' H' hp' e → SR C μ' H' σI σ → RVs C.K μ' H' p v → R v H') : tA C E w σ H R :=
  ⟨μ, hp, σI, e, a, s, mo _ _ _ _ _ (fun p hp' q' μ' H' v u hr rv => h p hp' μ' H' v q' u (a.next u hr) (s.up u) rv) q⟩
theorem fE.here {Q : VK} {p : PV} {v : V} (q : fE C μ H Q p hp) (a : At C E μ H hp e) (r : RV C.K μ H p v) : Q v H := q μ H v .refl a.hr r
theorem fE.at {Q : VK} {p : PV} {v : V} (q : fE C μ H Q p hp) (u : Up μ H μ' H') (a : At C E μ' H' hp e) (r : RV C.K μ' H' p v) : Q v H' := q μ' H' v u a.hr r
end
end RF

set_option Elab.async false
set_option linter.all false
set_option maxRecDepth 100000
set_option maxHeartbeats 400000
/-! Part 2: new things, things that change, locking; names, constants, operators. -/
namespace RF
open PySem PySem.Spec L2
section
variable {C : Cfg} {μ : List Addr} {H : Hp} {hp : PH} {p : Addr} {o : HO}
theorem nt_ne {a : Addr} (n : nt H a) (h : H p = none) : a ≠ p := by
  obtain ⟨u, e, _⟩ := n
  exact ne_of_none e h
theorem nt_keep {a : Addr} (n : nt H a) (d : a ≠ p) : nt (upd H p o) a := by
  obtain ⟨u, e, f⟩ := n
  exact ⟨u, by rw [upd_ne d]; exact e, f⟩
theorem nt_upd {a : Addr} (ho : ∀ ps, o ≠ .tbl ps) (n : nt H a) : nt (upd H p o) a := by
  by_cases z : a = p
  · subst z; exact ⟨o, upd_same, ho⟩
  · exact nt_keep n z
theorem Up.fresh (h : H p = none) : Up μ H μ (upd H p o) := ⟨fun _ _ h => h, fun a o s e => by rw [upd_ne (ne_of_none e h)]; exact e, fun a e => nt_keep e (nt_ne e h), fun a o _ e n => ⟨by rw [upd_ne (ne_of_none e h)]; exact e, n⟩⟩
theorem CellR.up0 {μ' : List Addr} {H' : Hp} (u : Up0 μ H μ' H') {a : Addr} {c : Cell} (e : H' a = H a) (h : CellR C μ H a c) : CellR C μ' H' a c := by
  cases c with
  | lst ps =>
    obtain ⟨vs, h1, h2⟩ := h
    exact ⟨vs, e.trans h1, RVs.up0 u _ _ h2⟩
  | dct ks =>
    obtain ⟨vs, h1, h2⟩ := h
    exact ⟨vs, e.trans h1, RKs.up0 u _ _ h2⟩
theorem CellR.up {μ' : List Addr} {H' : Hp} (u : Up μ H μ' H') {a : Addr} {c : Cell} (e : H' a = H a) (h : CellR C μ H a c) : CellR C μ' H' a c := h.up0 u.weak e
theorem CellR.some {a : Addr} {c : Cell} (h : CellR C μ H a c) : ∃ o, H a = Option.some o := by
  cases c with
  | lst ps => obtain ⟨vs, h1, _⟩ := h; exact ⟨_, h1⟩
  | dct ks => obtain ⟨vs, h1, _⟩ := h; exact ⟨_, h1⟩
theorem CellR.nt {a : Addr} {c : Cell} (h : CellR C μ H a c) : RF.nt H a := by
  cases c with
  | lst ps =>
    obtain ⟨vs, h1, _⟩ := h
    exact ⟨_, h1, fun _ z => HO.noConfusion z⟩
  | dct ks =>
    obtain ⟨vs, h1, _⟩ := h
    exact ⟨_, h1, fun _ z => HO.noConfusion z⟩
theorem HR.fresh (r : HR C μ H hp) (h : H p = none) : HR C μ (upd H p o) hp := by
  refine ⟨r.nd, fun a m => nt_keep (r.lv a m) (nt_ne (r.lv a m) h), fun n c e => ?_, r.tabs.ext fun b q e => by rw [upd_ne (ne_of_none e h)]; exact e, r.xd.up0 (Up.fresh h).weak⟩
  obtain ⟨a, e1, e2⟩ := r.cell n c e
  obtain ⟨q, e3⟩ := e2.some
  exact ⟨a, e1, e2.up (Up.fresh h) (upd_ne (ne_of_none e3 h))⟩
theorem HR.notin (r : HR C μ H hp) (h : H p = none) : p ∉ μ := fun m => nt_ne (r.lv p m) h rfl
theorem HR.nomore (r : HR C μ H hp) {n : Nat} (h : μ.length ≤ n) : hp n = none := by
  cases e : hp n with
  | none => rfl
  | some c =>
    obtain ⟨a, e1, _⟩ := r.cell n c e
    obtain ⟨l, _⟩ := List.getElem?_eq_some_iff.mp e1
    omega
theorem Up.growF (h : H p = none) : Up μ H (μ ++ [p]) (upd H p o) := ⟨fun n x e => by
  rw [List.getElem?_append_left (List.getElem?_eq_some_iff.mp e).1]; exact e, (Up.fresh (μ := μ) h).st, (Up.fresh (μ := μ) h).dm, fun a o l e n => ⟨((Up.fresh (μ := μ) h).hid a o l e n).1, by
    rw [List.mem_append, List.mem_singleton]
    rintro (z | z)
    · exact n z
    · rw [z, h] at e; cases e⟩⟩
/-- a new changing thing: its number is the next one -/
theorem HR.newC (r : HR C μ H hp) (h : H p = none) {c : Cell} (hc : CellR C (μ ++ [p]) (upd H p o) p c) : HR C (μ ++ [p]) (upd H p o) (put hp μ.length c) := by
  have r1 := r.fresh (o := o) h
  refine ⟨?_, fun a m => ?_, fun n d e => ?_, r1.tabs, r.xd.up0 (Up.growF h).weak⟩
  · rw [List.nodup_append]
    refine ⟨r.nd, by simp, fun a ha b hb => ?_⟩
    rw [List.mem_singleton.mp hb]
    exact fun z => r.notin h (z ▸ ha)
  · rcases List.mem_append.mp m with m | m
    · exact r1.lv a m
    · rw [List.mem_singleton.mp m]
      exact hc.nt
  · by_cases z : n = μ.length
    · subst z
      rw [put_same] at e
      cases e
      exact ⟨p, by simp, hc⟩
    · rw [put_ne z] at e
      obtain ⟨a, e1, e2⟩ := r.cell n d e
      obtain ⟨q, e3⟩ := e2.some
      have u : Up μ H (μ ++ [p]) (upd H p o) := Up.growF h
      exact ⟨a, u.ad _ _ e1, e2.up u (upd_ne (ne_of_none e3 h))⟩
theorem tabs_wr {T : List (Addr × Str)} {H : Hp} {a : Addr} {o u : HO} (h : H a = some u) (hu : (∀ ps, u ≠ .tbl ps) ∧ ∀ φ, u ≠ .ext φ) (t : LamX.Tabs T H) : LamX.Tabs T (upd H a o) := fun q hq => by
  obtain ⟨ps, h1, h2, h3⟩ := t q hq
  refine ⟨ps, ?_, h2, fun pos cv hc => ?_⟩
  · rw [upd_ne fun z => hu.1 ps (Option.some.inj (h.symm.trans (by rw [← z]; exact h1)))]
    exact h1
  · obtain ⟨c, e1, e2⟩ := h3 pos cv hc
    refine ⟨c, e1, ?_⟩
    rw [upd_ne fun z => hu.2 _ (Option.some.inj (h.symm.trans (by rw [← z]; exact e2)))]
    exact e2
theorem Up.write {a : Addr} {u : HO} {n : Nat} (hn : μ[n]? = some a) (h : H a = some u) (hu : stab u = false) (ho : ∀ ps, o ≠ .tbl ps := by intro _ z; exact HO.noConfusion z) : Up μ H μ (upd H a o) := ⟨fun _ _ h => h, fun b q s e => by
  rw [upd_ne fun z => by subst z; rw [h] at e; cases e; rw [hu] at s; cases s]; exact e, fun b n => nt_upd ho n, fun b q _ e m => ⟨by
    exact (upd_ne (fun z => m (by rw [z]; exact List.mem_of_getElem? hn))).trans e, m⟩⟩
theorem ad_inj (nd : μ.Nodup) {n m : Nat} {a : Addr} (h : μ[n]? = some a) (h' : μ[m]? = some a) : n = m := by
  obtain ⟨l1, e1⟩ := List.getElem?_eq_some_iff.mp h
  obtain ⟨l2, e2⟩ := List.getElem?_eq_some_iff.mp h'
  exact (List.getElem_inj nd).mp (e1.trans e2.symm)
/-- the changing thing n is written -/
theorem HR.write (r : HR C μ H hp) {n : Nat} {a : Addr} {u : HO} {c : Cell} (hn : μ[n]? = some a) (h : H a = some u) (hu : stab u = false ∧ (∀ ps, u ≠ .tbl ps) ∧ ∀ φ, u ≠ .ext φ) (hc : CellR C μ (upd H a o) a c) : HR C μ (upd H a o) (put hp n c) := by
  have ho : ∀ ps, o ≠ .tbl ps := by
    obtain ⟨q, e, f⟩ := hc.nt
    rw [upd_same] at e
    cases e
    exact f
  refine ⟨r.nd, fun a m => nt_upd ho (r.lv a m), fun m d e => ?_, tabs_wr h hu.2 r.tabs, r.xd.up0 (Up.write hn h hu.1 ho).weak⟩
  by_cases z : m = n
  · subst z
    rw [put_same] at e
    cases e
    exact ⟨a, hn, hc⟩
  · rw [put_ne z] at e
    obtain ⟨b, e1, e2⟩ := r.cell m d e
    exact ⟨b, e1, e2.up (Up.write hn h hu.1 ho) (upd_ne fun q => z (ad_inj r.nd (q ▸ e1) hn))⟩
/-- some things are forgotten -/
theorem HR.less {hq : PH} (r : HR C μ H hp) (h : ∀ n c, hq n = some c → hp n = some c) : HR C μ H hq := ⟨r.nd, r.lv, fun n c e => r.cell n c (h n c e), r.tabs, r.xd⟩
theorem HR.drp (r : HR C μ H hp) {n : Nat} : HR C μ H (drp hp n) := r.less fun m c e => by
  by_cases z : m = n
  · subst z; simp [RF.drp] at e
  · simpa [RF.drp, z] using e
/-- the thing n is forgotten, and its address written at will -/
theorem HR.drpW (r : HR C μ H hp) {n : Nat} {a : Addr} {u : HO} (hn : μ[n]? = some a) (h : H a = some u) (hu : stab u = false ∧ (∀ ps, u ≠ .tbl ps) ∧ ∀ φ, u ≠ .ext φ) (ho : ∀ ps, o ≠ .tbl ps := by intro _ z; exact HO.noConfusion z) : HR C μ (upd H a o) (RF.drp hp n) := by
  refine ⟨r.nd, fun a m => nt_upd ho (r.lv a m), fun m d e => ?_, tabs_wr h hu.2 r.tabs, r.xd.up0 (Up.write hn h hu.1 ho).weak⟩
  by_cases z : m = n
  · subst z; simp [RF.drp] at e
  · have e : hp m = some d := by simpa [RF.drp, z] using e
    obtain ⟨b, e1, e2⟩ := r.cell m d e
    exact ⟨b, e1, e2.up (Up.write hn h hu.1 ho) (upd_ne fun q => z (ad_inj r.nd (q ▸ e1) hn))⟩
end
theorem lstU {xs : List V} : stab (.lst xs) = false ∧ (∀ ps, HO.lst xs ≠ .tbl ps) ∧ ∀ φ, HO.lst xs ≠ .ext φ := ⟨rfl, fun _ z => HO.noConfusion z, fun _ z => HO.noConfusion z⟩
theorem dKU {xs : List (Key × V)} : stab (.dK xs) = false ∧ (∀ ps, HO.dK xs ≠ .tbl ps) ∧ ∀ φ, HO.dK xs ≠ .ext φ := ⟨rfl, fun _ z => HO.noConfusion z, fun _ z => HO.noConfusion z⟩

/-! ### locking -/
theorem ntL {xs : List V} : (∀ ys, HO.lst xs ≠ .tup ys) ∧ (∀ o v, HO.lst xs ≠ .frz o v) ∧ (∀ ps, HO.lst xs ≠ .tbl ps) ∧ ∀ x, HO.lst xs ≠ .own x :=
  ⟨fun _ z => HO.noConfusion z, fun _ _ z => HO.noConfusion z, fun _ z => HO.noConfusion z, fun _ z => HO.noConfusion z⟩
theorem ntD {xs : List (Key × V)} : (∀ ys, HO.dK xs ≠ .tup ys) ∧ (∀ o v, HO.dK xs ≠ .frz o v) ∧ (∀ ps, HO.dK xs ≠ .tbl ps) ∧ ∀ x, HO.dK xs ≠ .own x :=
  ⟨fun _ z => HO.noConfusion z, fun _ _ z => HO.noConfusion z, fun _ z => HO.noConfusion z, fun _ z => HO.noConfusion z⟩
theorem inv_frz {X : Cx} {pins : List (Addr × Obj)} {σ : St} {H : Hp} {s : Shared} {a : Addr} {u : HO} (I : Inv X pins σ H s) (h : H a = some u) (hu : (∃ xs, u = .lst xs) ∨ ∃ ks, u = .dK ks) : ∃ o, Inv X pins σ (upd H a (.frz o u)) s := by
  have nt : (∀ xs, u ≠ .tup xs) ∧ (∀ o v, u ≠ .frz o v) ∧ (∀ ps, u ≠ .tbl ps) ∧ ∀ x, u ≠ .own x := by
    rcases hu with ⟨xs, rfl⟩ | ⟨ks, rfl⟩
    · exact ntL
    · exact ntD
  obtain ⟨o, ho⟩ : ∃ o, s.heap.get? a = some o := by
    have x := I.hok a u h
    rcases hu with ⟨xs, rfl⟩ | ⟨ks, rfl⟩
    · obtain ⟨_, _, _, _, e⟩ := x; exact ⟨_, e⟩
    · obtain ⟨_, _, _, _, o, _, _, e, _⟩ := x; exact ⟨_, e⟩
  have ne : ∀ b w, H b = some w → (u ≠ w) → b ≠ a := fun b w e d z => by
    subst z; rw [h] at e; exact d (Option.some.inj e)
  have nn : ∀ b, H b = none → b ≠ a := fun b e z => by subst z; rw [h] at e; cases e
  refine ⟨o, ?_⟩
  have U : Un X.fs [] H (upd H a (.frz o u)) s.heap s.heap :=
    ⟨fun b q e _ _ _ => e, fun b q e _ _ _ => ⟨q.slots, e⟩, fun b q e n _ => by rw [upd_ne (nn b n)]; exact n, fun b q e _ => ⟨q, e⟩,
     fun b xs e => by rw [upd_ne (ne b _ e (nt.1 xs))]; exact e, fun b q v e => by rw [upd_ne (ne b _ e (nt.2.1 q v))]; exact e, fun b ps e => ⟨#[], by rw [upd_ne (ne b _ e (nt.2.2.1 ps)), e]; simp⟩⟩
  have K : HOk X.prog X.w (upd H a (.frz o u)) s.heap := fun b w e => by
    by_cases z : b = a
    · subst z
      rw [upd_same] at e
      cases e
      refine ⟨ho, ?_⟩
      have x := I.hok b u h
      rcases hu with ⟨xs, rfl⟩ | ⟨ks, rfl⟩
      · exact x
      · exact x
    · rw [upd_ne z] at e
      refine (I.hok b w e).stay (fun _ _ _ q => q) (fun c q => ?_) fun c xs q => ?_
      · rw [upd_ne (ne c _ q (nt.2.2.2 b))]; exact q
      · rw [upd_ne (ne c _ q (nt.1 xs))]; exact q
  have J := I.un (t' := s.toks) U K
  exact J
/-- the end may lock the new list or dict -/
def FzK (Q : VK) : VK := fun v H => Q v H ∨ ∃ a u, v = .ref a ∧ H a = some u ∧ ((∃ xs, u = .lst xs) ∨ ∃ ks, u = .dK ks) ∧ ∀ o, Q v (upd H a (.frz o u))
theorem PE.fz {X : Cx} {x : Expr} {t : TE} (h : PE X x t) : PE X x (fun σ H Q => t σ H (FzK Q)) := ⟨fun pins s σ H Q I q => by
  refine thn (h.run pins s σ H (FzK Q) I q) fun u s1 ⟨v, H1, I1, r1, q1⟩ => ?_
  rcases q1 with q1 | ⟨a, w, e, ha, hw, q1⟩
  · exact ⟨v, H1, I1, r1, q1⟩
  · obtain ⟨o, I2⟩ := inv_frz I1 ha hw
    exact ⟨v, _, I2, r1, q1 o⟩⟩
section
variable {C : Cfg} {μ μ' : List Addr} {H H' : Hp} {hp : PH} {Q : VK} {p : Addr} {e : EI} {E : XK}
theorem fE.up {q : PV} (h : fE C μ H Q q hp) (u : Up μ H μ' H') : fE C μ' H' Q q hp := fun μ2 H2 v u2 => h μ2 H2 v (u.trans u2)
/-- a new tuple -/
theorem fE.newT {ps : List PV} {vs : List V} (q : fE C μ H Q (.tup ps) hp) (r : HR C μ H hp) (rv : RVs C.K μ H ps vs) (h : H p = none) : Q (.ref p) (upd H p (.tup vs)) := by
  have u : Up μ H μ (upd H p (.tup vs)) := Up.fresh h
  refine q μ _ (.ref p) u (r.fresh h) ?_
  simp only [RV]
  exact ⟨p, vs, rfl, SqT.of upd_same, RVs.up u _ _ rv⟩
/-- a new list, locked -/
theorem fE.newL {ps : List PV} {vs : List V} (q : fE C μ H Q (.lst ps) hp) (r : HR C μ H hp) (rv : RVs C.K μ H ps vs) (h : H p = none) : FzK Q (.ref p) (upd H p (.lst vs)) := by
  refine .inr ⟨p, .lst vs, rfl, upd_same, .inl ⟨_, rfl⟩, fun o => ?_⟩
  rw [upd_upd]
  have u : Up μ H μ (upd H p (.frz o (.lst vs))) := Up.fresh h
  refine q μ _ (.ref p) u (r.fresh h) ?_
  simp only [RV]
  exact ⟨p, vs, rfl, ⟨o, upd_same⟩, RVs.up u _ _ rv⟩
theorem fE.newD {ps : List (Key × PV)} {vs : List (Key × V)} (q : fE C μ H Q (.dct ps) hp) (r : HR C μ H hp) (rv : RKs C.K μ H ps vs) (h : H p = none) : FzK Q (.ref p) (upd H p (.dK vs)) := by
  refine .inr ⟨p, .dK vs, rfl, upd_same, .inr ⟨_, rfl⟩, fun o => ?_⟩
  rw [upd_upd]
  have u : Up μ H μ (upd H p (.frz o (.dK vs))) := Up.fresh h
  refine q μ _ (.ref p) u (r.fresh h) ?_
  simp only [RV]
  exact ⟨p, vs, rfl, ⟨o, upd_same⟩, RKs.up u _ _ rv⟩
/-- a new list that is to change -/
theorem fE.newM {ps : List PV} {vs : List V} (q : ∀ n, hp n = none → fE C μ H Q (.loc n) (put hp n (.lst ps))) (r : HR C μ H hp) (rv : RVs C.K μ H ps vs) (h : H p = none) : FzK Q (.ref p) (upd H p (.lst vs)) := by
  have u : Up μ H (μ ++ [p]) (upd H p (.lst vs)) := Up.growF h
  refine .inl (q μ.length (r.nomore (Nat.le_refl _)) _ _ (.ref p) u (r.newC h ⟨vs, upd_same, RVs.up u _ _ rv⟩) ?_)
  simp only [RV]
  exact ⟨p, rfl, by simp⟩
theorem fE.newMD {ps : List (Key × PV)} {vs : List (Key × V)} (q : ∀ n, hp n = none → fE C μ H Q (.loc n) (put hp n (.dct ps))) (r : HR C μ H hp) (rv : RKs C.K μ H ps vs) (h : H p = none) : FzK Q (.ref p) (upd H p (.dK vs)) := by
  have u : Up μ H (μ ++ [p]) (upd H p (.dK vs)) := Up.growF h
  refine .inl (q μ.length (r.nomore (Nat.le_refl _)) _ _ (.ref p) u (r.newC h ⟨vs, upd_same, RKs.up u _ _ rv⟩) ?_)
  simp only [RV]
  exact ⟨p, rfl, by simp⟩
end

/-! ### a thing's list -/
def asL (hp : PH) : PV → Option (List PV)
  | .lst ps => some ps
  | .loc n => match hp n with
    | some (.lst ps) => some ps
    | _ => none
  | _ => none
def asD (hp : PH) : PV → Option (List (Key × PV))
  | .dct ks => some ks
  | .loc n => match hp n with
    | some (.dct ks) => some ks
    | _ => none
  | _ => none
section
variable {C : Cfg} {μ : List Addr} {H : Hp} {hp : PH}
theorem asL_loc {n : Nat} {ps : List PV} (h : asL hp (.loc n) = some ps) : hp n = some (.lst ps) := by
  simp only [asL] at h
  split at h
  · rename_i e
    rw [e]; cases h; rfl
  · cases h
theorem asD_loc {n : Nat} {ps : List (Key × PV)} (h : asD hp (.loc n) = some ps) : hp n = some (.dct ps) := by
  simp only [asD] at h
  split at h
  · rename_i e
    rw [e]; cases h; rfl
  · cases h
theorem asL_rd (r : HR C μ H hp) : ∀ {p : PV} {v : V} {ps : List PV}, RV C.K μ H p v → asL hp p = some ps → ∃ a vs, v = .ref a ∧ Rd H a (.lst vs) ∧ RVs C.K μ H ps vs
  | .lst qs, v, ps, rv, h => by
    simp only [asL, Option.some.injEq] at h
    subst h
    simp only [RV] at rv
    obtain ⟨a, vs, e, f, r⟩ := rv
    exact ⟨a, vs, e, .inr f, r⟩
  | .loc n, v, ps, rv, h => by
    have e := asL_loc h
    obtain ⟨a, e1, vs, e2, e3⟩ := r.cell n _ e
    simp only [RV] at rv
    obtain ⟨b, e4, e5⟩ := rv
    rw [e1] at e5
    cases e5
    exact ⟨a, vs, e4, .inl e2, e3⟩
  | .non, _, _, _, h => by simp [asL] at h
  | .bl _, _, _, _, h => by simp [asL] at h
  | .int _, _, _, _, h => by simp [asL] at h
  | .str _, _, _, _, h => by simp [asL] at h
  | .tup _, _, _, _, h => by simp [asL] at h
  | .dct _, _, _, _, h => by simp [asL] at h
  | .ref _, _, _, _, h => by simp [asL] at h
theorem asL_sq (r : HR C μ H hp) {p : PV} {v : V} {ps : List PV} (h : RV C.K μ H p v) (e : asL hp p = some ps) : ∃ a vs, v = .ref a ∧ SqL C.K H a vs ∧ RVs C.K μ H ps vs := by
  obtain ⟨a, vs, e1, e2, e3⟩ := asL_rd r h e
  exact ⟨a, vs, e1, .inl e2, e3⟩
theorem asD_rd (r : HR C μ H hp) : ∀ {p : PV} {v : V} {ps : List (Key × PV)}, RV C.K μ H p v → asD hp p = some ps → ∃ a vs, v = .ref a ∧ Rd H a (.dK vs) ∧ RKs C.K μ H ps vs
  | .dct qs, v, ps, rv, h => by
    simp only [asD, Option.some.injEq] at h
    subst h
    simp only [RV] at rv
    obtain ⟨a, vs, e, f, r⟩ := rv
    exact ⟨a, vs, e, .inr f, r⟩
  | .loc n, v, ps, rv, h => by
    have e := asD_loc h
    obtain ⟨a, e1, vs, e2, e3⟩ := r.cell n _ e
    simp only [RV] at rv
    obtain ⟨b, e4, e5⟩ := rv
    rw [e1] at e5
    cases e5
    exact ⟨a, vs, e4, .inl e2, e3⟩
  | .non, _, _, _, h => by simp [asD] at h
  | .bl _, _, _, _, h => by simp [asD] at h
  | .int _, _, _, _, h => by simp [asD] at h
  | .str _, _, _, _, h => by simp [asD] at h
  | .tup _, _, _, _, h => by simp [asD] at h
  | .lst _, _, _, _, h => by simp [asD] at h
  | .ref _, _, _, _, h => by simp [asD] at h
/-- inversions -/
theorem RV.intI {K : PySem.W.Frag} {i : Int} {v : V} (h : RV K μ H (.int i) v) : v = .int i := by simpa only [RV] using h
theorem RV.strI {K : PySem.W.Frag} {i : Str} {v : V} (h : RV K μ H (.str i) v) : v = .str i := by simpa only [RV] using h
theorem RV.blI {K : PySem.W.Frag} {i : Bool} {v : V} (h : RV K μ H (.bl i) v) : v = .bl i := by simpa only [RV] using h
theorem RV.nonI {K : PySem.W.Frag} {v : V} (h : RV K μ H .non v) : v = .non := by simpa only [RV] using h
theorem RV.refI {K : PySem.W.Frag} {v : V} {a : Addr} (h : RV K μ H (.ref a) v) : v = .ref a := by simpa only [RV] using h
theorem RV.tupI {K : PySem.W.Frag} {v : V} {ps : List PV} (h : RV K μ H (.tup ps) v) : ∃ a vs, v = .ref a ∧ SqT K H a vs ∧ RVs K μ H ps vs := by simpa only [RV] using h
theorem RV.locI {K : PySem.W.Frag} {v : V} {n : Nat} (h : RV K μ H (.loc n) v) : ∃ a, v = .ref a ∧ μ[n]? = some a := by simpa only [RV] using h
theorem RV.dctI {K : PySem.W.Frag} {v : V} {ps : List (Key × PV)} (h : RV K μ H (.dct ps) v) : ∃ a vs, v = .ref a ∧ FzD H a vs ∧ RKs K μ H ps vs := by simpa only [RV] using h
theorem RV.lstI {K : PySem.W.Frag} {v : V} {ps : List PV} (h : RV K μ H (.lst ps) v) : ∃ a vs, v = .ref a ∧ FzL H a vs ∧ RVs K μ H ps vs := by simpa only [RV] using h
theorem RV.int' {K : PySem.W.Frag} {i : Int} : RV K μ H (.int i) (.int i) := by simp only [RV]
theorem RV.str' {K : PySem.W.Frag} {i : Str} : RV K μ H (.str i) (.str i) := by simp only [RV]
theorem RV.bl' {K : PySem.W.Frag} {i : Bool} : RV K μ H (.bl i) (.bl i) := by simp only [RV]
theorem RV.non' {K : PySem.W.Frag} : RV K μ H .non .non := by simp only [RV]
end

/-! ### names and constants -/
def wVar (i : Nat) : WE := fun σ hp _ Q => ∃ p, σ[i]? = some (some p) ∧ Q p hp
def wC (p : PV) : WE := fun _ hp _ Q => Q p hp
section
variable {X : Cx} {C : Cfg} {E : XK}
theorem re_var {i : Nat} {x : Str} {pos : Pos} (hN : X.N[i]? = some x) (hv : Vis X.env.scope x) (hd : (x == ("__debug__" : Str)) = false) (hcd : (x == ("__classdict__" : Str)) = false) : RE X C E (.Name x pos) (wVar i) := by
  refine ⟨fun σ hp e Q Q' h ⟨p, e1, q⟩ => ⟨p, e1, h _ _ q⟩, PE.imp (pe_var hN hv hd hcd) fun σ H Q ⟨μ, hp, σI, e, a, s, p, e1, q⟩ => ?_⟩
  obtain ⟨v, e2, r⟩ := s.get i p e1
  exact ⟨v, e2, q.here a r⟩
theorem re_c {x : Expr} {v : V} {p : PV} (h : PE X x (tC v)) (r : ∀ μ H, RV C.K μ H p v) : RE X C E x (wC p) := by
  refine ⟨fun σ hp e Q Q' h q => h _ _ q, PE.imp h fun σ H Q ⟨μ, hp, σI, e, a, s, q⟩ => ?_⟩
  exact q.here a (r _ _)
end

/-! ### operators by values -/
abbrev G2 := PV → PV → PH → KI → Prop
structure LOp (C : Cfg) (r : R2) (g : G2) : Prop where
  mo : ∀ p q hp Q Q', (∀ z h, Q z h → Q' z h) → g p q hp Q → g p q hp Q'
  ok : ∀ μ H hp p q v u Q, HR C μ H hp → RV C.K μ H p v → RV C.K μ H q u → g p q hp (fE C μ H Q) → r v u H (FzK Q)
def wOp (g : G2) (a b : WE) : WE := fun σ hp e Q => a σ hp e fun x h1 => b σ h1 e fun y h2 => g x y h2 Q
abbrev G1 := PV → PH → KI → Prop
structure LUn (C : Cfg) (r : V → Hp → VK → Prop) (g : G1) : Prop where
  mo : ∀ p hp Q Q', (∀ z h, Q z h → Q' z h) → g p hp Q → g p hp Q'
  ok : ∀ μ H hp p v Q, HR C μ H hp → RV C.K μ H p v → g p hp (fE C μ H Q) → r v H (FzK Q)
def wUn (g : G1) (a : WE) : WE := fun σ hp e Q => a σ hp e fun x h1 => g x h1 Q
section
variable {X : Cx} {C : Cfg} {E : XK} {a b : Expr} {wa wb : WE} {pos : Pos}
theorem op_mo {r : R2} {g : G2} (L : LOp C r g) (ha : MoE wa) (hb : MoE wb) : MoE (wOp g wa wb) := fun σ hp e Q Q' h q =>
  ha _ _ _ _ _ (fun x h1 q1 => hb _ _ _ _ _ (fun y h2 q2 => L.mo _ _ _ _ _ h q2) q1) q
theorem op_go {r : R2} {g : G2} (L : LOp C r g) (ha : MoE wa) (hb : MoE wb) {σ : St} {H : Hp} {Q : VK} (h : tE C E (wOp g wa wb) σ H Q) : tOp r (tE C E wa) (tE C E wb) σ H (FzK Q) := by
  obtain ⟨μ, hp, σI, e, A, s, q⟩ := h
  refine tE.go ha A s q fun x h1 μ1 H1 v q1 u1 A1 s1 r1 => ?_
  refine tE.go hb A1 s1 q1 fun y h2 μ2 H2 w q2 u2 A2 s2 r2 => ?_
  exact L.ok μ2 H2 h2 x y v w Q A2.hr (RV.up u2 _ _ r1) r2 (L.mo _ _ _ _ _ (fun z h q => q.up (u1.trans u2)) q2)
theorem re_op {op : Operator} {r : R2} {g : G2} (L : LOp C r g) (ho : OpR X (binaryOp op) r) (ha : RE X C E a wa) (hb : RE X C E b wb) : RE X C E (.BinOp a op b pos) (wOp g wa wb) :=
  ⟨op_mo L ha.mo hb.mo, PE.imp (PE.fz (pe_op ho ha.pe hb.pe)) fun σ H Q h => op_go L ha.mo hb.mo h⟩
theorem re_ix {r : R2} {g : G2} (L : LOp C r g) (ho : IxR X r) (ha : RE X C E a wa) (hb : RE X C E b wb) (hs : PlainIx b) : RE X C E (.Subscript a b pos) (wOp g wa wb) :=
  ⟨op_mo L ha.mo hb.mo, PE.imp (PE.fz (pe_ix ho ha.pe hb.pe hs)) fun σ H Q h => op_go L ha.mo hb.mo h⟩
theorem re_un {op : UnaryOp} {r : V → Hp → VK → Prop} {g : G1} (L : LUn C r g) (ho : UnR X (unaryOp op) r) (ha : RE X C E a wa) : RE X C E (.UnaryOp op a pos) (wUn g wa) := by
  refine ⟨fun σ hp e Q Q' h q => ha.mo _ _ _ _ _ (fun x h1 q1 => L.mo _ _ _ _ h q1) q, PE.imp (PE.fz (pe_un ho ha.pe)) fun σ H Q h => ?_⟩
  obtain ⟨μ, hp, σI, e, A, s, q⟩ := h
  refine tE.go ha.mo A s q fun x h1 μ1 H1 v q1 u1 A1 s1 r1 => ?_
  exact L.ok μ1 H1 h1 x v Q A1.hr r1 (L.mo _ _ _ _ (fun z h q => q.up u1) q1)
end
end RF

set_option Elab.async false
set_option linter.all false
set_option maxRecDepth 100000
set_option maxHeartbeats 400000
/-! Part 3: tests, arguments, displays, calls of defs, statements. -/
namespace RF
open PySem PySem.Spec L2

/-! ### truth and tests -/
def truP (p : PV) (hp : PH) (k : Bool) : Prop :=
  match p with
  | .non => k = false
  | .bl b => k = b
  | .int i => k = (i != 0)
  | .str y => y.length ≤ sizeLine ∧ k = ((y.length : Int) != 0)
  | .tup ps => k = !ps.isEmpty
  | p => ∃ ps, asL hp p = some ps ∧ k = !ps.isEmpty
theorem RVs.isEmpty {K : PySem.W.Frag} {μ : List Addr} {H : Hp} {ps : List PV} {vs : List V} (r : RVs K μ H ps vs) : vs.isEmpty = ps.isEmpty := by
  have h := r.length
  cases ps <;> cases vs <;> simp_all
theorem truP.v {C : Cfg} {μ : List Addr} {H : Hp} {hp : PH} (r : HR C μ H hp) : ∀ {p : PV} {v : V} {k : Bool}, RV C.K μ H p v → truP p hp k → TruV C.K v H k := by
  intro p v k rv h
  have seq : ∀ {p : PV}, RV C.K μ H p v → (∃ ps, asL hp p = some ps ∧ k = !ps.isEmpty) → TruV C.K v H k := by
    intro p rv ⟨ps, e, ek⟩
    obtain ⟨a, vs, e1, e2, e3⟩ := asL_sq r rv e
    subst e1
    exact .inl ⟨vs, e2, by rw [ek, e3.isEmpty]⟩
  cases p with
  | non => rw [rv.nonI]; exact h
  | bl b => rw [rv.blI]; exact h
  | int i => rw [rv.intI]; exact h
  | str y => rw [rv.strI]; exact h
  | tup ps =>
    obtain ⟨a, vs, e1, e2, e3⟩ := rv.tupI
    subst e1
    have h : k = !ps.isEmpty := h
    exact .inr (.inl ⟨vs, e2, by rw [h, e3.isEmpty]⟩)
  | lst ps => exact seq rv h
  | dct ks => exact seq rv h
  | loc n => exact seq rv h
  | ref a => exact seq rv h
def wTru (w : WE) : WT := fun σ hp e Q => w σ hp e fun p h => ∃ k, truP p h k ∧ Q k h
def wTB (w : WE) : WT := fun σ hp e Q => w σ hp e fun p h => ∃ k, p = .bl k ∧ Q k h
def wAndT (a b : WT) : WT := fun σ hp e Q => a σ hp e fun c h => if c = true then b σ h e Q else Q false h
def wOrT (a b : WT) : WT := fun σ hp e Q => a σ hp e fun c h => if c = true then Q true h else b σ h e Q
def wNotT (a : WT) : WT := fun σ hp e Q => a σ hp e fun c h => Q (!c) h
structure RW (X : Cx) (C : Cfg) (E : XK) (x : Expr) (w : WT) : Prop where
  mo : MoT w
  pw : PW X x (tT C E w)
theorem ite_mono {c : Prop} [Decidable c] {A B A' B' : Prop} (h1 : A → A') (h2 : B → B') (h : if c then A else B) : if c then A' else B' := by
  by_cases z : c
  · rw [if_pos z] at h ⊢; exact h1 h
  · rw [if_neg z] at h ⊢; exact h2 h
section
variable {C : Cfg} {μ μ' : List Addr} {H H' : Hp} {hp : PH}
theorem fT.up {Q : Bool → Hp → Prop} {b : Bool} (h : fT C μ H Q b hp) (u : Up μ H μ' H') : fT C μ' H' Q b hp := fun μ2 H2 u2 => h μ2 H2 (u.trans u2)
theorem fT.here {Q : Bool → Hp → Prop} {b : Bool} (h : fT C μ H Q b hp) (r : HR C μ H hp) : Q b H := h μ H .refl r
theorem fA.up {Q : List V → Hp → Prop} {b : List PV} (h : fA C μ H Q b hp) (u : Up μ H μ' H') : fA C μ' H' Q b hp := fun μ2 H2 v u2 => h μ2 H2 v (u.trans u2)
theorem fA.here {Q : List V → Hp → Prop} {b : List PV} {vs : List V} (h : fA C μ H Q b hp) (r : HR C μ H hp) (rv : RVs C.K μ H b vs) : Q vs H := h μ H vs .refl r rv
theorem fN.up {Q : St → Hp → Prop} {b : SI} (h : fN C μ H Q b hp) (u : Up μ H μ' H') : fN C μ' H' Q b hp := fun μ2 H2 v u2 => h μ2 H2 v (u.trans u2)
theorem fN.here {Q : St → Hp → Prop} {b : SI} {σ : St} (h : fN C μ H Q b hp) (r : HR C μ H hp) (rv : SR C μ H b σ) : Q σ H := h μ H σ .refl r rv
theorem fD.up {D : Ends} (u : Up μ H μ' H') : (fD C μ H D).le (fD C μ' H' D) := ⟨fun _ _ h => fN.up h u, fun _ _ h => fE.up h u, fun _ _ h => fN.up h u, fun _ _ h => fN.up h u⟩
theorem DI.le.refl {D : DI} : D.le D := ⟨fun _ _ h => h, fun _ _ h => h, fun _ _ h => h, fun _ _ h => h⟩
theorem DI.le.trans {D D1 D2 : DI} (a : D.le D1) (b : D1.le D2) : D.le D2 := ⟨fun _ _ h => b.nx _ _ (a.nx _ _ h), fun _ _ h => b.rt _ _ (a.rt _ _ h), fun _ _ h => b.bk _ _ (a.bk _ _ h), fun _ _ h => b.ct _ _ (a.ct _ _ h)⟩
end
section
variable {X : Cx} {C : Cfg} {E : XK} {a b : Expr} {wa wb : WE} {ta tb : WT} {rest : List Expr} {pos : Pos}
theorem truMo (h : MoE wa) : MoT (wTru wa) := fun σ hp e Q Q' i q => h _ _ _ _ _ (fun p h' ⟨k, e1, q1⟩ => ⟨k, e1, i _ _ q1⟩) q
theorem tbMo (h : MoE wa) : MoT (wTB wa) := fun σ hp e Q Q' i q => h _ _ _ _ _ (fun p h' ⟨k, e1, q1⟩ => ⟨k, e1, i _ _ q1⟩) q
/-- any expression of whose value the truth is asked -/
theorem rt_tru (hK : X.K = C.K) (ha : RE X C E a wa) (he : ∀ whole, isTrue a X.env whole = (do let v ← whole; standAt a.pos; holding [v] (truthy v))) : RT X C E a (wTru wa) := by
  refine ⟨truMo ha.mo, PT.imp (pt_truth ha.pe he) fun σ H Q ⟨μ, hp, σI, e, A, s, q⟩ => ?_⟩
  refine tE.go ha.mo A s q fun p h μ1 H1 v ⟨k, e1, q1⟩ u1 A1 s1 r1 => ⟨k, ?_, (q1.up u1).here A1.hr⟩
  rw [hK]
  exact truP.v A1.hr r1 e1
end

/-! ### comparisons -/
abbrev G3 := PV → PV → PH → Bool → Prop
structure LCp (C : Cfg) (r : R2) (c : G3) : Prop where
  ok : ∀ μ H hp p q v u b, HR C μ H hp → RV C.K μ H p v → RV C.K μ H q u → c p q hp b → ∀ Q : VK, Q (.bl b) H → r v u H Q
def wCmp (c : G3) (a b : WE) : WE := fun σ hp e Q => a σ hp e fun x h1 => b σ h1 e fun y h2 => ∃ k, c x y h2 k ∧ Q (.bl k) h2
def wCmpT (c : G3) (a b : WE) : WT := fun σ hp e Q => a σ hp e fun x h1 => b σ h1 e fun y h2 => ∃ k, c x y h2 k ∧ Q k h2
def wCh (c c' : G3) (a b d : WE) : WE := fun σ hp e Q => a σ hp e fun x h1 => b σ h1 e fun y h2 => ∃ k, c x y h2 k ∧ if k = true then d σ h2 e fun z h3 => ∃ k', c' y z h3 k' ∧ Q (.bl k') h3 else Q (.bl false) h2
def wChT (c c' : G3) (a b d : WE) : WT := fun σ hp e Q => a σ hp e fun x h1 => b σ h1 e fun y h2 => ∃ k, c x y h2 k ∧ if k = true then d σ h2 e fun z h3 => ∃ k', c' y z h3 k' ∧ Q k' h3 else Q false h2
section
variable {X : Cx} {C : Cfg} {E : XK} {a b d : Expr} {wa wb wd : WE} {ta tb : WT} {rest : List Expr} {pos : Pos}
theorem re_cmp {op : CmpOp} {r : R2} {c : G3} (L : LCp C r c) (ho : OpR X (compareOp op) r) (ha : RE X C E a wa) (hb : RE X C E b wb) (hm : behindInMarks op b = false) : RE X C E (.Compare a [op] [b] pos) (wCmp c wa wb) := by
  refine ⟨fun σ hp e Q Q' h q => ha.mo _ _ _ _ _ (fun x h1 q1 => hb.mo _ _ _ _ _ (fun y h2 ⟨k, k1, q2⟩ => ⟨k, k1, h _ _ q2⟩) q1) q, PE.imp (pe_cmpR ho ha.pe hb.pe hm) fun σ H Q ⟨μ, hp, σI, e, A, s, q⟩ => ?_⟩
  refine tE.go ha.mo A s q fun x h1 μ1 H1 v q1 u1 A1 s1 r1 => ?_
  refine tE.go hb.mo A1 s1 q1 fun y h2 μ2 H2 w ⟨k, k1, q2⟩ u2 A2 s2 r2 => ?_
  exact L.ok μ2 H2 h2 x y v w k A2.hr (RV.up u2 _ _ r1) r2 k1 Q ((q2.up (u1.trans u2)).here A2 .bl')
theorem rt_cmp {op : CmpOp} {r : R2} {c : G3} (L : LCp C r c) (ho : OpR X (compareOp op) r) (ha : RE X C E a wa) (hb : RE X C E b wb) (hm : behindInMarks op b = false) : RT X C E (.Compare a [op] [b] pos) (wCmpT c wa wb) := by
  refine ⟨fun σ hp e Q Q' h q => ha.mo _ _ _ _ _ (fun x h1 q1 => hb.mo _ _ _ _ _ (fun y h2 ⟨k, k1, q2⟩ => ⟨k, k1, h _ _ q2⟩) q1) q, PT.imp (pt_cmpR ho ha.pe hb.pe hm) fun σ H Q ⟨μ, hp, σI, e, A, s, q⟩ => ?_⟩
  refine tE.go ha.mo A s q fun x h1 μ1 H1 v q1 u1 A1 s1 r1 => ?_
  refine tE.go hb.mo A1 s1 q1 fun y h2 μ2 H2 w ⟨k, k1, q2⟩ u2 A2 s2 r2 => ?_
  exact L.ok μ2 H2 h2 x y v w k A2.hr (RV.up u2 _ _ r1) r2 k1 _ ⟨k, rfl, (q2.up (u1.trans u2)).here A2.hr⟩
theorem re_chain {op op' : CmpOp} {r r' : R2} {c c' : G3} (L : LCp C r c) (L' : LCp C r' c') (ho : OpR X (compareOp op) r) (ho' : OpR X (compareOp op') r') (ha : RE X C E a wa) (hb : RE X C E b wb) (hd : RE X C E d wd) (hm : lastMarks [op, op'] [b, d] = false) :
    RE X C E (.Compare a [op, op'] [b, d] pos) (wCh c c' wa wb wd) := by
  refine ⟨fun σ hp e Q Q' h q => ha.mo _ _ _ _ _ (fun x h1 q1 => hb.mo _ _ _ _ _ (fun y h2 ⟨k, k1, q2⟩ => ⟨k, k1, ite_mono (hd.mo _ _ _ _ _ fun z h3 ⟨k', k2, q3⟩ => ⟨k', k2, h _ _ q3⟩) (h _ _) q2⟩) q1) q,
    PE.imp (pe_chain ho ho' ha.pe hb.pe hd.pe hm) fun σ H Q ⟨μ, hp, σI, e, A, s, q⟩ => ?_⟩
  refine tE.go ha.mo A s q fun x h1 μ1 H1 v q1 u1 A1 s1 r1 => ?_
  refine tE.go hb.mo A1 s1 q1 fun y h2 μ2 H2 w ⟨k, k1, q2⟩ u2 A2 s2 r2 => ?_
  refine L.ok μ2 H2 h2 x y v w k A2.hr (RV.up u2 _ _ r1) r2 k1 _ ⟨k, rfl, ite_mono (fun q2 => ?_) (fun q2 => (q2.up (u1.trans u2)).here A2 .bl') q2⟩
  refine tE.go hd.mo A2 s2 q2 fun z h3 μ3 H3 w3 ⟨k', k2, q3⟩ u3 A3 s3 r3 => ?_
  exact L'.ok μ3 H3 h3 y z w w3 k' A3.hr (RV.up u3 _ _ r2) r3 k2 _ ((q3.up ((u1.trans u2).trans u3)).here A3 .bl')
theorem rt_chain {op op' : CmpOp} {r r' : R2} {c c' : G3} (L : LCp C r c) (L' : LCp C r' c') (ho : OpR X (compareOp op) r) (ho' : OpR X (compareOp op') r') (ha : RE X C E a wa) (hb : RE X C E b wb) (hd : RE X C E d wd) (hm : lastMarks [op, op'] [b, d] = false) :
    RT X C E (.Compare a [op, op'] [b, d] pos) (wChT c c' wa wb wd) := by
  refine ⟨fun σ hp e Q Q' h q => ha.mo _ _ _ _ _ (fun x h1 q1 => hb.mo _ _ _ _ _ (fun y h2 ⟨k, k1, q2⟩ => ⟨k, k1, ite_mono (hd.mo _ _ _ _ _ fun z h3 ⟨k', k2, q3⟩ => ⟨k', k2, h _ _ q3⟩) (h _ _) q2⟩) q1) q,
    PT.imp (pt_chain ho ho' ha.pe hb.pe hd.pe hm) fun σ H Q ⟨μ, hp, σI, e, A, s, q⟩ => ?_⟩
  refine tE.go ha.mo A s q fun x h1 μ1 H1 v q1 u1 A1 s1 r1 => ?_
  refine tE.go hb.mo A1 s1 q1 fun y h2 μ2 H2 w ⟨k, k1, q2⟩ u2 A2 s2 r2 => ?_
  refine L.ok μ2 H2 h2 x y v w k A2.hr (RV.up u2 _ _ r1) r2 k1 _ ⟨k, rfl, ite_mono (fun q2 => ?_) (fun q2 => ⟨false, rfl, (q2.up (u1.trans u2)).here A2.hr⟩) q2⟩
  refine tE.go hd.mo A2 s2 q2 fun z h3 μ3 H3 w3 ⟨k', k2, q3⟩ u3 A3 s3 r3 => ?_
  exact L'.ok μ3 H3 h3 y z w w3 k' A3.hr (RV.up u3 _ _ r2) r3 k2 _ ⟨k', rfl, (q3.up ((u1.trans u2).trans u3)).here A3.hr⟩
/-! ### and, or, not as tests -/
theorem rt_not (ha : RT X C E a ta) : RT X C E (.UnaryOp .Not a pos) (wNotT ta) :=
  ⟨fun σ hp e Q Q' h q => ha.mo _ _ _ _ _ (fun c h' q' => h _ _ q') q, PT.imp (pt_not ha.pt) fun σ H Q ⟨μ, hp, σI, e, A, s, q⟩ => tT.go ha.mo A s q fun b h μ1 H1 q1 u1 A1 s1 => (q1.up u1).here A1.hr⟩
theorem RW.rt (h : RW X C E a ta) : RT X C E a ta := ⟨h.mo, h.pw.pt⟩
theorem rw_and1 (ha : RT X C E a ta) : RW X C E (.BoolOp .And [a] pos) ta := ⟨ha.mo, pw_and1 ha.pt⟩
theorem rw_or1 (ha : RT X C E a ta) : RW X C E (.BoolOp .Or [a] pos) ta := ⟨ha.mo, pw_or1 ha.pt⟩
theorem rw_and (ha : RT X C E a ta) (hb : RW X C E (.BoolOp .And (b :: rest) pos) tb) : RW X C E (.BoolOp .And (a :: b :: rest) pos) (wAndT ta tb) :=
  ⟨fun σ hp e Q Q' h q => ha.mo _ _ _ _ _ (fun c h' q' => ite_mono (hb.mo _ _ _ _ _ h) (h _ _) q') q, PW.imp (pw_and ha.pt hb.pw) fun σ H Q ⟨μ, hp, σI, e, A, s, q⟩ => tT.go ha.mo A s q fun b h μ1 H1 q1 u1 A1 s1 =>
    ite_mono (fun q2 => tT.go hb.mo A1 s1 q2 fun b h μ2 H2 q3 u2 A2 s2 => (q3.up (u1.trans u2)).here A2.hr) (fun q2 => (fT.up q2 u1).here A1.hr) q1⟩
theorem rw_or (ha : RT X C E a ta) (hb : RW X C E (.BoolOp .Or (b :: rest) pos) tb) : RW X C E (.BoolOp .Or (a :: b :: rest) pos) (wOrT ta tb) :=
  ⟨fun σ hp e Q Q' h q => ha.mo _ _ _ _ _ (fun c h' q' => ite_mono (h _ _) (hb.mo _ _ _ _ _ h) q') q, PW.imp (pw_or ha.pt hb.pw) fun σ H Q ⟨μ, hp, σI, e, A, s, q⟩ => tT.go ha.mo A s q fun b h μ1 H1 q1 u1 A1 s1 =>
    ite_mono (fun q2 => (fT.up q2 u1).here A1.hr) (fun q2 => tT.go hb.mo A1 s1 q2 fun b h μ2 H2 q3 u2 A2 s2 => (q3.up (u1.trans u2)).here A2.hr) q1⟩
end

/-! ### and, or, not, a if t else b as values -/
def wNotV (a : WE) : WE := fun σ hp e Q => a σ hp e fun p h => ∃ k, truP p h k ∧ Q (.bl !k) h
def wAndV (a b : WE) : WE := fun σ hp e Q => a σ hp e fun p h => ∃ k, truP p h k ∧ if k = true then b σ h e Q else Q p h
def wOrV (a b : WE) : WE := fun σ hp e Q => a σ hp e fun p h => ∃ k, truP p h k ∧ if k = true then Q p h else b σ h e Q
def wIfE (t : WT) (a b : WE) : WE := fun σ hp e Q => t σ hp e fun c h => if c = true then a σ h e Q else b σ h e Q
section
variable {X : Cx} {C : Cfg} {E : XK} {a b t : Expr} {wa wb : WE} {wt : WT} {rest : List Expr} {pos : Pos}
theorem re_not (hK : X.K = C.K) (ha : RE X C E a wa) : RE X C E (.UnaryOp .Not a pos) (wNotV wa) :=
  ⟨fun σ hp e Q Q' h q => ha.mo _ _ _ _ _ (fun p h' ⟨k, k1, q'⟩ => ⟨k, k1, h _ _ q'⟩) q, PE.imp (pe_notT ha.pe) fun σ H Q ⟨μ, hp, σI, e, A, s, q⟩ => tE.go ha.mo A s q fun p h μ1 H1 v ⟨k, k1, q1⟩ u1 A1 s1 r1 =>
    ⟨k, by rw [hK]; exact truP.v A1.hr r1 k1, (q1.up u1).here A1 .bl'⟩⟩
theorem re_one {op : BoolOp} (ha : RE X C E a wa) : RE X C E (.BoolOp op [a] pos) wa := ⟨ha.mo, pe_one ha.pe⟩
theorem re_and (hK : X.K = C.K) (ha : RE X C E a wa) (hb : RE X C E (.BoolOp .And (b :: rest) pos) wb) : RE X C E (.BoolOp .And (a :: b :: rest) pos) (wAndV wa wb) :=
  ⟨fun σ hp e Q Q' h q => ha.mo _ _ _ _ _ (fun p h' ⟨k, k1, q'⟩ => ⟨k, k1, ite_mono (hb.mo _ _ _ _ _ h) (h _ _) q'⟩) q, PE.imp (pe_andT ha.pe hb.pe) fun σ H Q ⟨μ, hp, σI, e, A, s, q⟩ => tE.go ha.mo A s q fun p h μ1 H1 v ⟨k, k1, q1⟩ u1 A1 s1 r1 =>
    ⟨k, by rw [hK]; exact truP.v A1.hr r1 k1, ite_mono (fun q2 => tE.go hb.mo A1 s1 q2 fun p h μ2 H2 v q3 u2 A2 s2 r2 => (q3.up (u1.trans u2)).here A2 r2) (fun q2 => (fE.up q2 u1).here A1 r1) q1⟩⟩
theorem re_or (hK : X.K = C.K) (ha : RE X C E a wa) (hb : RE X C E (.BoolOp .Or (b :: rest) pos) wb) : RE X C E (.BoolOp .Or (a :: b :: rest) pos) (wOrV wa wb) :=
  ⟨fun σ hp e Q Q' h q => ha.mo _ _ _ _ _ (fun p h' ⟨k, k1, q'⟩ => ⟨k, k1, ite_mono (h _ _) (hb.mo _ _ _ _ _ h) q'⟩) q, PE.imp (pe_orT ha.pe hb.pe) fun σ H Q ⟨μ, hp, σI, e, A, s, q⟩ => tE.go ha.mo A s q fun p h μ1 H1 v ⟨k, k1, q1⟩ u1 A1 s1 r1 =>
    ⟨k, by rw [hK]; exact truP.v A1.hr r1 k1, ite_mono (fun q2 => (fE.up q2 u1).here A1 r1) (fun q2 => tE.go hb.mo A1 s1 q2 fun p h μ2 H2 v q3 u2 A2 s2 r2 => (q3.up (u1.trans u2)).here A2 r2) q1⟩⟩
theorem re_ifE (ht : RT X C E t wt) (ha : RE X C E a wa) (hb : RE X C E b wb) : RE X C E (.IfExp t a b pos) (wIfE wt wa wb) :=
  ⟨fun σ hp e Q Q' h q => ht.mo _ _ _ _ _ (fun c h' q' => ite_mono (ha.mo _ _ _ _ _ h) (hb.mo _ _ _ _ _ h) q') q, PE.imp (pe_ifExp ht.pt ha.pe hb.pe) fun σ H Q ⟨μ, hp, σI, e, A, s, q⟩ => tT.go ht.mo A s q fun c h μ1 H1 q1 u1 A1 s1 =>
    ite_mono (fun q2 => tE.go ha.mo A1 s1 q2 fun p h μ2 H2 v q3 u2 A2 s2 r2 => (q3.up (u1.trans u2)).here A2 r2) (fun q2 => tE.go hb.mo A1 s1 q2 fun p h μ2 H2 v q3 u2 A2 s2 r2 => (q3.up (u1.trans u2)).here A2 r2) q1⟩
end

/-! ### arguments, displays -/
def wNil : WA := fun _ hp _ Q => Q [] hp
def wCons (a : WE) (r : WA) : WA := fun σ hp e Q => a σ hp e fun p h => r σ h e fun ps h2 => Q (p :: ps) h2
def wTup (a : WA) : WE := fun σ hp e Q => a σ hp e fun ps h => ps.length ≤ sizeLine ∧ Q (.tup ps) h
def wLst (a : WA) : WE := fun σ hp e Q => a σ hp e fun ps h => ps.length ≤ sizeLine ∧ Q (.lst ps) h
def wLstM (a : WA) : WE := fun σ hp e Q => a σ hp e fun ps h => ps.length ≤ sizeLine ∧ ∀ n, h n = none → Q (.loc n) (put h n (.lst ps))
section
variable {X : Cx} {C : Cfg} {E : XK} {x : Expr} {es : List Expr} {wa : WE} {w : WA} {pos : Pos}
theorem ra_nil : RA X C E [] wNil := ⟨fun σ hp e Q Q' h q => h _ _ q, PA.imp pa_nil fun σ H Q ⟨μ, hp, σI, e, A, s, q⟩ => fA.here q A.hr .nil⟩
theorem ra_cons (hx : RE X C E x wa) (hr : RA X C E es w) (hs : starEach (x :: es) X.env = (false, eval x X.env) :: starEach es X.env) : RA X C E (x :: es) (wCons wa w) := by
  refine ⟨fun σ hp e Q Q' h q => hx.mo _ _ _ _ _ (fun p h1 q1 => hr.mo _ _ _ _ _ (fun ps h2 q2 => h _ _ q2) q1) q, PA.imp (pa_cons hx.pe hr.pa hs) fun σ H Q ⟨μ, hp, σI, e, A, s, q⟩ => ?_⟩
  refine tE.go hx.mo A s q fun p h1 μ1 H1 v q1 u1 A1 s1 r1 => ?_
  refine tA.go hr.mo A1 s1 q1 fun ps h2 μ2 H2 vs q2 u2 A2 s2 r2 => ?_
  exact (fA.up q2 (u1.trans u2)).here A2.hr (.cons (RV.up u2 _ _ r1) r2)
theorem re_tup {k : Nat} (ha : RA X C E es w) : RE X C E (.Tuple es k pos) (wTup w) := by
  refine ⟨fun σ hp e Q Q' h q => ha.mo _ _ _ _ _ (fun ps h1 ⟨l, q1⟩ => ⟨l, h _ _ q1⟩) q, PE.imp (pe_tup ha.pa) fun σ H Q ⟨μ, hp, σI, e, A, s, q⟩ => ?_⟩
  refine tA.go ha.mo A s q fun ps h1 μ1 H1 vs ⟨l, q1⟩ u1 A1 s1 r1 => ⟨by rw [r1.length]; exact l, fun p np => ?_⟩
  exact (q1.up u1).newT A1.hr r1 np
theorem re_lst (ha : RA X C E es w) : RE X C E (.List es pos) (wLst w) := by
  refine ⟨fun σ hp e Q Q' h q => ha.mo _ _ _ _ _ (fun ps h1 ⟨l, q1⟩ => ⟨l, h _ _ q1⟩) q, PE.imp (PE.fz (pe_lst ha.pa)) fun σ H Q ⟨μ, hp, σI, e, A, s, q⟩ => ?_⟩
  refine tA.go ha.mo A s q fun ps h1 μ1 H1 vs ⟨l, q1⟩ u1 A1 s1 r1 => ⟨by rw [r1.length]; exact l, fun p np => ?_⟩
  exact (q1.up u1).newL A1.hr r1 np
theorem re_lstM (ha : RA X C E es w) : RE X C E (.List es pos) (wLstM w) := by
  refine ⟨fun σ hp e Q Q' h q => ha.mo _ _ _ _ _ (fun ps h1 ⟨l, q1⟩ => ⟨l, fun n hn => h _ _ (q1 n hn)⟩) q, PE.imp (PE.fz (pe_lst ha.pa)) fun σ H Q ⟨μ, hp, σI, e, A, s, q⟩ => ?_⟩
  refine tA.go ha.mo A s q fun ps h1 μ1 H1 vs ⟨l, q1⟩ u1 A1 s1 r1 => ⟨by rw [r1.length]; exact l, fun p np => ?_⟩
  exact fE.newM (fun n hn => fE.up (q1 n hn) u1) A1.hr r1 np
end

/-! ### a thing is locked where it is named: from here on it is its content -/
def wFrz (a : WE) : WE := fun σ hp e Q => a σ hp e fun p h => ∃ n ps, p = .loc n ∧ h n = some (.lst ps) ∧ Q (.lst ps) (drp h n)
section
variable {X : Cx} {C : Cfg} {E : XK} {x : Expr} {wa : WE}
theorem re_frz (ha : RE X C E x wa) : RE X C E x (wFrz wa) := by
  refine ⟨fun σ hp e Q Q' h q => ha.mo _ _ _ _ _ (fun p h1 ⟨n, ps, e1, e2, q1⟩ => ⟨n, ps, e1, e2, h _ _ q1⟩) q, PE.imp (PE.fz ha.pe) fun σ H Q ⟨μ, hp, σI, e, A, s, q⟩ => ?_⟩
  refine tE.go ha.mo A s q fun p h1 μ1 H1 v ⟨n, ps, e1, e2, q1⟩ u1 A1 s1 r1 => ?_
  subst e1
  obtain ⟨a, ev, ea⟩ := r1.locI
  obtain ⟨a', ea', vs, hv, rv⟩ := A1.hr.cell n _ e2
  rw [ea] at ea'
  cases ea'
  subst ev
  refine .inr ⟨a, .lst vs, rfl, hv, .inl ⟨_, rfl⟩, fun o => ?_⟩
  have u2 : Up μ1 H1 μ1 (upd H1 a (.frz o (.lst vs))) := Up.write ea hv rfl
  refine q1 μ1 _ (.ref a) (u1.trans u2) (A1.hr.drpW ea hv lstU) ?_
  simp only [RV]
  exact ⟨a, vs, rfl, ⟨o, upd_same⟩, RVs.up u2 _ _ rv⟩
end

/-! ### what a def means, its call -/
abbrev WF := List PV → PH → EI → KI → Prop
def MoF (w : WF) : Prop := ∀ ps hp e Q Q', (∀ p h, Q p h → Q' p h) → w ps hp e Q → w ps hp e Q'
def spI (C : Cfg) (n : Nat) (w : WF) : Sp := fun vs H Q E => vs.length = n ∧ ∃ μ hp ps e, At C E μ H hp e ∧ RVs C.K μ H ps vs ∧ w ps hp e (fE C μ H Q)
def wCall (f : WF) (a : WA) : WE := fun σ hp e Q => a σ hp e fun ps h => f ps h e Q
section
variable {X : Cx} {C : Cfg} {E : XK} {es : List Expr} {x : Expr} {w : WA} {f : WF} {pos p : Pos} {n k : Nat} {fa : Addr} {fd : FuncData} {ps : List Str} {nm : Str}
theorem re_call (F : FnOk X.prog X.w X.K X.mg X.base (L2.CX X.prog X.w) k fa fd ps (spI C n f)) (mf : MoF f) (tk : Takes X (fun cls d _ H => E cls d H)) (hr : Room k X.A) (hg : Gl X nm) (hm : X.mg nm = some (.ref fa)) (hk : PySem.W.keepIn X.K (.ref fa) = true) (hb : Binds X.K fd ps [])
    (ha : RA X C E (x :: es) w) (hn : ∀ σ hp e Q, w σ hp e Q → w σ hp e fun ps h => ps.length = n ∧ Q ps h) (hdb : (nm == ("__debug__" : Str)) = false) (he : starEach (x :: es) X.env = (false, eval x X.env) :: starEach es X.env) (hpl : (backTo pos (starEach es X.env)).any (·.1) = false) :
    RE X C E (.Call (.Name nm p) (x :: es) [] pos) (wCall f w) := by
  refine ⟨fun σ hp e Q Q' h q => ha.mo _ _ _ _ _ (fun ps h1 q1 => mf _ _ _ _ _ h q1) q, PE.imp (pe_call (E := E) F hr hg hm hk hb .nil (passes_call tk fun _ _ _ _ z => z) ha.pa hdb he hpl) fun σ H Q ⟨μ, hp, σI, e, A, s, q⟩ => ?_⟩
  refine tA.go ha.mo A s (hn _ _ _ _ q) fun ps h1 μ1 H1 vs ⟨l, q1⟩ u1 A1 s1 r1 => ?_
  show spI C n f (vs ++ []) H1 Q E
  rw [List.append_nil]
  exact ⟨by rw [r1.length, l], μ1, h1, ps, e, A1, r1, mf _ _ _ _ _ (fun p h q => fE.up q u1) q1⟩
theorem re_call0 (F : FnOk X.prog X.w X.K X.mg X.base (L2.CX X.prog X.w) k fa fd ps (spI C 0 f)) (mf : MoF f) (tk : Takes X (fun cls d _ H => E cls d H)) (hr : Room k X.A) (hg : Gl X nm) (hm : X.mg nm = some (.ref fa)) (hk : PySem.W.keepIn X.K (.ref fa) = true) (hb : Binds X.K fd ps [])
    (hdb : (nm == ("__debug__" : Str)) = false) :
    RE X C E (.Call (.Name nm p) [] [] pos) (wCall f wNil) := by
  refine ⟨fun σ hp e Q Q' h q => mf _ _ _ _ _ h q, PE.imp (pe_call0 (E := E) F hr hg hm hk hb .nil (passes_call tk fun _ _ _ _ z => z) hdb) fun σ H Q ⟨μ, hp, σI, e, A, s, q⟩ => ?_⟩
  show spI C 0 f ([] ++ []) H Q E
  exact ⟨rfl, μ, hp, [], e, A, .nil, q⟩
end
end RF

set_option Elab.async false
set_option linter.all false
set_option maxRecDepth 100000
set_option maxHeartbeats 400000
/-! Part 4: what is walked, targets, statements, loops. -/
namespace RF
open PySem PySem.Spec L2

/-! ### targets: a name, names in a bracket -/
inductive Tg where
  | nm (i : Nat)
  | tp (is : List Nat)
def setAll {α : Type} (σ : List (Option α)) : List Nat → List α → List (Option α)
  | i :: is, p :: ps => setAll (σ.set i (some p)) is ps
  | _, _ => σ
def gNames : List Nat → TGs
  | [] => gNil
  | i :: is => gCons (gName i) (gNames is)
def Tg.g (K : PySem.W.Frag) : Tg → TG
  | .nm i => gName i
  | .tp is => gTup K is.length (gNames is)
def Tg.go (t : Tg) (p : PV) (σ : SI) : Option SI :=
  match t with
  | .nm i => some (σ.set i (some p))
  | .tp is => match p with
    | .tup ps => if ps.length = is.length then some (setAll σ is ps) else none
    | _ => none
theorem gNames_ok : ∀ (is : List Nat) (vs : List V) (σ : St) (H : Hp) (Q : St → Hp → Prop), vs.length = is.length → Q (setAll σ is vs) H → gNames is vs σ H Q
  | [], [], σ, H, Q, _, q => ⟨rfl, q⟩
  | [], _ :: _, _, _, _, h, _ => by cases h
  | _ :: _, [], _, _, _, h, _ => by cases h
  | i :: is, v :: vs, σ, H, Q, h, q => ⟨v, vs, rfl, gNames_ok is vs _ H Q (Nat.succ.inj h) q⟩
theorem SR.setAll {C : Cfg} {μ : List Addr} {H : Hp} : ∀ (is : List Nat) (ps : List PV) (vs : List V) (σI : SI) (σ : St), SR C μ H σI σ → RVs C.K μ H ps vs → SR C μ H (RF.setAll σI is ps) (RF.setAll σ is vs)
  | [], ps, vs, σI, σ, s, r => by
    cases ps <;> cases vs <;> exact s
  | i :: is, [], vs, σI, σ, s, r => by
    simp only [RVs] at r
    subst r; exact s
  | i :: is, p :: ps, vs, σI, σ, s, r => by
    simp only [RVs] at r
    obtain ⟨w, ws, rfl, r1, r2⟩ := r
    exact SR.setAll is ps ws _ _ (s.set r1) r2
theorem Tg.ok {C : Cfg} {μ : List Addr} {H : Hp} {t : Tg} {p : PV} {v : V} {σI σI' : SI} {σ : St} {Q : St → Hp → Prop} (r : RV C.K μ H p v) (s : SR C μ H σI σ) (h : t.go p σI = some σI') (q : ∀ σ', SR C μ H σI' σ' → Q σ' H) : t.g C.K v σ H Q := by
  cases t with
  | nm i =>
    simp only [Tg.go, Option.some.injEq] at h
    subst h
    exact q _ (s.set r)
  | tp is =>
    cases p with
    | tup ps =>
      simp only [Tg.go] at h
      split at h
      · rename_i hl
        cases h
        obtain ⟨a, vs, rfl, hs, rv⟩ := r.tupI
        exact ⟨a, vs, rfl, hs, by rw [rv.length, hl], gNames_ok is vs σ H Q (by rw [rv.length, hl]) (q _ (SR.setAll is ps vs _ _ s rv))⟩
      · cases h
    | _ => simp [Tg.go] at h
/-- which names -/
inductive NmIx (X : Cx) : List Expr → List Nat → Prop where
  | nil : NmIx X [] []
  | cons {x : Str} {i : Nat} {pos : Pos} {es : List Expr} {is : List Nat} (hi : X.N[i]? = some x) (hx : Loc X.env.scope x) (hf : X.fn x = true ∨ X.env.scope.names.lookup x = some .local) (r : NmIx X es is) : NmIx X (.Name x pos :: es) (i :: is)
theorem NmIx.pgs {X : Cx} (hN : X.N.Nodup) {es : List Expr} {is : List Nat} (h : NmIx X es is) : PGs X es (gNames is) ∧ (assignEach es X.env).length = is.length ∧ (assignEach es X.env).findIdx? (·.1) = none := by
  induction h with
  | nil => exact ⟨pgs_nil, rfl, rfl⟩
  | @cons x i pos es is hi hx hf r ih =>
    obtain ⟨h1, h2, h3⟩ := ih
    refine ⟨pgs_cons (pg_name hN hi hx hf) h1 (by simp only [assignEach, List.map_cons]), ?_, ?_⟩
    · simp only [assignEach, List.length_cons, h2]
    · simp only [assignEach, List.findIdx?_cons, h3]; rfl
inductive TgIs (X : Cx) : Expr → Tg → Prop where
  | nm {x : Str} {i : Nat} {pos : Pos} (hi : X.N[i]? = some x) (hx : Loc X.env.scope x) (hf : X.fn x = true ∨ X.env.scope.names.lookup x = some .local) : TgIs X (.Name x pos) (.nm i)
  | tp {es : List Expr} {is : List Nat} {k : Nat} {pos : Pos} (h : NmIx X es is) : TgIs X (.Tuple es k pos) (.tp is)
theorem TgIs.pg {X : Cx} {e : Expr} {t : Tg} (hc : X.calm = true) (hN : X.N.Nodup) (h : TgIs X e t) : PG X e (t.g X.K) := by
  cases h with
  | nm hi hx hf => exact pg_name hN hi hx hf
  | tp h =>
    obtain ⟨h1, h2, h3⟩ := h.pgs hN
    exact pg_tup hc h1 h2 h3

/-! ### what is walked -/
structure Wk (C : Cfg) (J : It) (μ : List Addr) (H : Hp) (ps : List PV) : Prop where
  go : ∀ μ' H' i, Up μ H μ' H' → i < ps.length → J.go i H'
  yl : ∀ μ' H' i x H'' p, Up μ H μ' H' → ps[i]? = some p → J.yld i H' x H'' → RV C.K μ' H'' p x ∧ Up μ' H' μ' H'' ∧ ∀ hp, HR C μ' H' hp → HR C μ' H'' hp
  st : ∀ μ' H' i, Up μ H μ' H' → ps.length ≤ i → J.stop i H'
def tI (C : Cfg) (E : XK) (w : WA) : TI := fun σ H R => ∃ μ hp σI e, At C E μ H hp e ∧ SR C μ H σI σ ∧ w σI hp e (fun ps hp' => ∀ μ' H', Up μ H μ' H' → HR C μ' H' hp' → ∀ J, Wk C J μ' H' ps → R J H')
structure RI (X : Cx) (C : Cfg) (E : XK) (tg iter : Expr) (w : WA) : Prop where
  mo : MoA w
  pi : PI X tg iter (tI C E w)
theorem PI.imp {X : Cx} {tg x : Expr} {t t' : TI} (h : PI X tg x t) (i : ∀ σ H Q, t' σ H Q → t σ H Q) : PI X tg x t' := ⟨fun pins s σ H Q I q => h.run pins s σ H Q I (i σ H Q q)⟩
def signs (s : Str) : List PV := s.cps.toList.map fun c => .str ⟨#[c]⟩
def iterV : PV → Option (List PV)
  | .tup ps => some ps
  | .lst ps => some ps
  | .str s => some (signs s)
  | _ => none
def wIt (a : WE) : WA := fun σ hp e Q => a σ hp e fun p h => ∃ ps, iterV p = some ps ∧ Q ps h
def intsL (lo : Int) (n : Nat) : List PV := (List.range n).map fun (i : Nat) => .int (lo + i)
def wRg1 (a : WE) : WA := fun σ hp e Q => a σ hp e fun p h => ∃ j : Int, p = .int j ∧ -(2 ^ 62) ≤ j ∧ j < 2 ^ 62 ∧ Q (intsL 0 j.toNat) h
def wRg2 (a b : WE) : WA := fun σ hp e Q => a σ hp e fun p h1 => b σ h1 e fun q h => ∃ i j : Int, p = .int i ∧ q = .int j ∧ (-(2 ^ 62) ≤ i ∧ i < 2 ^ 62 ∧ -(2 ^ 62) ≤ j ∧ j < 2 ^ 62) ∧ Q (intsL i (j - i).toNat) h
section
variable {C : Cfg} {μ : List Addr} {H : Hp}
theorem wk_list {a : Addr} {vs : List V} {ps : List PV} (h : FzL H a vs) (r : RVs C.K μ H ps vs) : Wk C (Itl C.K a) μ H ps where
  go := fun μ' H' i u hi => by
    obtain ⟨v, hv, _⟩ := r.get (List.getElem?_eq_getElem hi)
    exact ⟨vs, v, (u.fzL h).sq, hv⟩
  yl := fun μ' H' i x H'' p u hp ⟨e, y⟩ => by
    subst e
    obtain ⟨v, hv, rv⟩ := r.get hp
    have e2 := y vs (u.fzL h).sq
    rw [hv] at e2
    cases e2
    exact ⟨RV.up u _ _ rv, .refl, fun _ z => z⟩
  st := fun μ' H' i u hi => ⟨vs, (u.fzL h).sq, by rw [r.length]; exact hi⟩
theorem wk_tup {a : Addr} {vs : List V} {ps : List PV} (h : SqT C.K H a vs) (r : RVs C.K μ H ps vs) : Wk C (Itt C.K a) μ H ps where
  go := fun μ' H' i u hi => by
    obtain ⟨v, hv, _⟩ := r.get (List.getElem?_eq_getElem hi)
    exact ⟨vs, v, u.sqT h, hv⟩
  yl := fun μ' H' i x H'' p u hp ⟨e, y⟩ => by
    subst e
    obtain ⟨v, hv, rv⟩ := r.get hp
    have e2 := y vs (u.sqT h)
    rw [hv] at e2
    cases e2
    exact ⟨RV.up u _ _ rv, .refl, fun _ z => z⟩
  st := fun μ' H' i u hi => ⟨vs, u.sqT h, by rw [r.length]; exact hi⟩
theorem wk_str {s : Str} : Wk C (Its s) μ H (signs s) where
  go := fun μ' H' i u hi => by
    simp only [signs, List.length_map, Array.length_toList] at hi
    exact hi
  yl := fun μ' H' i x H'' p u hp ⟨e, c, hc, hx⟩ => by
    subst e hx
    simp only [signs, List.getElem?_map, Array.getElem?_toList, hc, Option.map_some, Option.some.injEq] at hp
    subst hp
    exact ⟨.str', .refl, fun _ z => z⟩
  st := fun μ' H' i u hi => by
    simp only [signs, List.length_map, Array.length_toList] at hi
    exact hi
theorem wk_rng {lo : Int} {n : Nat} : Wk C (Itr lo n) μ H (intsL lo n) where
  go := fun μ' H' i u hi => by
    simp only [intsL, List.length_map, List.length_range] at hi
    exact hi
  yl := fun μ' H' i x H'' p u hp ⟨e, hx⟩ => by
    subst e hx
    simp only [intsL, List.getElem?_map] at hp
    cases hr : (List.range n)[i]? with
    | none => rw [hr] at hp; cases hp
    | some k =>
      rw [hr] at hp
      have hk : k = i := by
        have := List.getElem?_eq_some_iff.mp hr
        obtain ⟨_, e⟩ := this
        simpa using e.symm
      subst hk
      simp only [Option.map_some, Option.some.injEq] at hp
      subst hp
      exact ⟨.int', .refl, fun _ z => z⟩
  st := fun μ' H' i u hi => by
    simp only [intsL, List.length_map, List.length_range] at hi
    exact hi
end
section
variable {X : Cx} {C : Cfg} {E : XK} {tg x a b : Expr} {wa wb : WE} {pos p : Pos}
def iAny (K : PySem.W.Frag) (te : TE) : TI := fun σ H R => te σ H fun x H1 => (∃ a, x = .ref a ∧ (∃ xs, SqL K H1 a xs) ∧ R (Itl K a) H1) ∨ (∃ a, x = .ref a ∧ (∃ xs, SqT K H1 a xs) ∧ R (Itt K a) H1) ∨ ∃ s, x = .str s ∧ R (Its s) H1
theorem pi_any {te : TE} (hx : PE X x te) : PI X tg x (iAny X.K te) := by
  refine ⟨fun pins s σ H R I h => thn (hx.run pins s σ H _ I h) fun v s1 ⟨y, H1, I1, r1, q1⟩ => ?_⟩
  have new : ∀ {b : Addr}, b ∈ [s1.heap.objs.size] → b = s1.heap.objs.size := fun hb => by simpa using hb
  rcases q1 with ⟨a, ey, ⟨xs, hq⟩, q⟩ | ⟨a, ey, ⟨xs, hq⟩, q⟩ | ⟨z, ey, q⟩
  · subst ey
    cases r1
    obtain ⟨its, rv, pl, hz⟩ := I1.list hq
    refine wpAny_pyIter_list pl.isList ⟨s1.heap.objs.size, [s1.heap.objs.size], _, _, H1, rfl, I1.kept (t' := s1.toks) fun b o e => Heap.get?_push_of_some _ e, turn_list a _, ⟨_, Heap.get?_push_size _ rfl, rfl, rfl⟩, fun b hb => ?_, q⟩
    rw [new hb]
    exact I1.fpOk (Nat.le_refl _) (I1.hok.fresh (Nat.le_refl _))
  · subst ey
    cases r1
    obtain ⟨its, rv, pl, hz⟩ := I1.tuple hq
    refine PySem.wpAny_pyIter_tuple (show s1.heap.IsTuple a its.toArray from pl) ⟨s1.heap.objs.size, [s1.heap.objs.size], _, _, H1, rfl, I1.kept (t' := s1.toks) fun b o e => Heap.get?_push_of_some _ e, turn_tuple a _, ⟨_, Heap.get?_push_size _ rfl, rfl, rfl⟩, fun b hb => ?_, q⟩
    rw [new hb]
    exact I1.fpOk (Nat.le_refl _) (I1.hok.fresh (Nat.le_refl _))
  · subst ey
    obtain ⟨t, rfl⟩ := r1
    cases ha : z.cps.all (· < 128)
    · exact wpAny_pyIter_wide ha (pi_one (tk := s1.toks) I1 _ (turn_str _ z t "str_iterator" (.inr rfl)) ⟨_, Heap.get?_push_size _ rfl, rfl, rfl⟩ q)
    · exact wpAny_pyIter_ascii ha (pi_one (tk := s1.toks) I1 _ (turn_str _ z t "str_ascii_iterator" (.inl rfl)) ⟨_, Heap.get?_push_size _ rfl, rfl, rfl⟩ q)
theorem ri_val (hK : X.K = C.K) (hx : RE X C E x wa) : RI X C E tg x (wIt wa) := by
  refine ⟨fun σ hp e Q Q' h q => hx.mo _ _ _ _ _ (fun p h1 ⟨ps, e1, q1⟩ => ⟨ps, e1, h _ _ q1⟩) q, PI.imp (pi_any hx.pe) fun σ H R ⟨μ, hp, σI, e, A, s, q⟩ => ?_⟩
  refine tE.go hx.mo A s q fun p h1 μ1 H1 v ⟨ps, e1, q1⟩ u1 A1 s1 r1 => ?_
  rw [hK]
  cases p with
  | tup qs =>
    cases e1
    obtain ⟨a, vs, rfl, h2, h3⟩ := r1.tupI
    exact .inr (.inl ⟨a, rfl, ⟨vs, h2⟩, q1 μ1 H1 u1 A1.hr _ (wk_tup h2 h3)⟩)
  | lst qs =>
    cases e1
    obtain ⟨a, vs, rfl, h2, h3⟩ := r1.lstI
    exact .inl ⟨a, rfl, ⟨vs, h2.sq⟩, q1 μ1 H1 u1 A1.hr _ (wk_list h2 h3)⟩
  | str z =>
    cases e1
    exact .inr (.inr ⟨z, r1.strI, q1 μ1 H1 u1 A1.hr _ wk_str⟩)
  | _ => simp [iterV] at e1
theorem ri_rg1 (hg : Gl X "range") (hm : X.mg "range" = none) (ha : RE X C E a wa) (hs : starEach [a] X.env = [(false, eval a X.env)]) : RI X C E tg (.Call (.Name "range" p) [a] [] pos) (wRg1 wa) := by
  refine ⟨fun σ hp e Q Q' h q => ha.mo _ _ _ _ _ (fun p h1 ⟨j, e1, l1, l2, q1⟩ => ⟨j, e1, l1, l2, h _ _ q1⟩) q, PI.imp (pi_range1 hg hm (pa_cons ha.pe pa_nil (by rw [hs]; rfl)) hs) fun σ H R ⟨μ, hp, σI, e, A, s, q⟩ => ?_⟩
  refine tE.go ha.mo A s q fun p h1 μ1 H1 v ⟨j, e1, l1, l2, q1⟩ u1 A1 s1 r1 => ?_
  subst e1
  exact ⟨j, by rw [r1.intI], l1, l2, q1 μ1 H1 u1 A1.hr _ wk_rng⟩
theorem ri_rg2 (hg : Gl X "range") (hm : X.mg "range" = none) (ha : RE X C E a wa) (hb : RE X C E b wb) (hs : starEach [a, b] X.env = [(false, eval a X.env), (false, eval b X.env)]) (hs2 : starEach [b] X.env = [(false, eval b X.env)]) :
    RI X C E tg (.Call (.Name "range" p) [a, b] [] pos) (wRg2 wa wb) := by
  refine ⟨fun σ hp e Q Q' h q => ha.mo _ _ _ _ _ (fun p h1 q1 => hb.mo _ _ _ _ _ (fun p h2 ⟨i, j, e1, e2, l1, q1⟩ => ⟨i, j, e1, e2, l1, h _ _ q1⟩) q1) q,
    PI.imp (pi_range2 hg hm (pa_cons ha.pe (pa_cons hb.pe pa_nil (by rw [hs2]; rfl)) (by rw [hs, hs2])) hs hs2) fun σ H R ⟨μ, hp, σI, e, A, s, q⟩ => ?_⟩
  refine tE.go ha.mo A s q fun p h1 μ1 H1 v q1 u1 A1 s1 r1 => ?_
  refine tE.go hb.mo A1 s1 q1 fun p2 h2 μ2 H2 v2 ⟨i, j, e1, e2, l1, q2⟩ u2 A2 s2 r2 => ?_
  subst e1 e2
  exact ⟨i, j, by rw [r1.intI, r2.intI], l1, q2 μ2 H2 (u1.trans u2) A2.hr _ wk_rng⟩
end

/-! ### statements -/
theorem MoS.at {w : WS} (h : MoS w) {σ : SI} {hp : PH} {e : EI} {D D' : DI} (q : w σ hp e D) (l : D.le D') : w σ hp e D' := h _ _ _ _ _ l q
def wPass : WS := fun σ hp _ D => D.nx σ hp
def wBrk : WS := fun σ hp _ D => D.bk σ hp
def wCnt : WS := fun σ hp _ D => D.ct σ hp
def wSeq (a b : WS) : WS := fun σ hp e D => a σ hp e { D with nx := fun σ h => b σ h e D }
def wDo (a : WE) : WS := fun σ hp e D => a σ hp e fun _ h => D.nx σ h
def wRet (a : WE) : WS := fun σ hp e D => a σ hp e D.rt
def wRetN : WS := fun _ hp _ D => D.rt .non hp
def wIf (t : WT) (a b : WS) : WS := fun σ hp e D => t σ hp e fun c h => if c = true then a σ h e D else b σ h e D
def wAsg (t : Tg) (a : WE) : WS := fun σ hp e D => a σ hp e fun p h => ∃ σ', t.go p σ = some σ' ∧ D.nx σ' h
section
variable {C : Cfg} {E : XK} {μ : List Addr} {H : Hp} {hp : PH} {e : EI}
theorem tS.go {w : WS} (mo : MoS w) {σ : St} {σI : SI} {D : DI} {D' : Ends} (a : At C E μ H hp e) (s : SR C μ H σI σ) (q : w σI hp e D) (h : D.le (fD C μ H D')) : tS C E w D' σ H := ⟨μ, hp, σI, e, a, s, mo _ _ _ _ _ h q⟩
end
section
variable {X : Cx} {C : Cfg} {E : XK} {st : Stmt} {sts s2 : List Stmt} {t x : Expr} {wa : WE} {wt : WT} {w w2 : WS} {pos : Pos}
theorem rss_nil : RSs X C E [] wPass := ⟨fun σ hp e D D' h q => h.nx _ _ q, PSs.imp pss_nil fun D σ H ⟨μ, hp, σI, e, A, s, q⟩ => fN.here q A.hr s⟩
theorem rs_pass : RS X C E (.Pass pos) wPass := ⟨fun σ hp e D D' h q => h.nx _ _ q, PS.imp ps_pass fun D σ H ⟨μ, hp, σI, e, A, s, q⟩ => fN.here q A.hr s⟩
theorem rs_brk : RS X C E (.Break pos) wBrk := ⟨fun σ hp e D D' h q => h.bk _ _ q, PS.imp ps_break fun D σ H ⟨μ, hp, σI, e, A, s, q⟩ => fN.here q A.hr s⟩
theorem rs_cnt : RS X C E (.Continue pos) wCnt := ⟨fun σ hp e D D' h q => h.ct _ _ q, PS.imp ps_continue fun D σ H ⟨μ, hp, σI, e, A, s, q⟩ => fN.here q A.hr s⟩
theorem rss_one (h : RS X C E st w) : RSs X C E [st] w := ⟨h.mo, pss_one h.ps⟩
theorem rss_cons (h : RS X C E st w) (h2 : RSs X C E sts w2) : RSs X C E (st :: sts) (wSeq w w2) := by
  refine ⟨fun σ hp e D D' l q => h.mo.at q ⟨fun σ h q => h2.mo _ _ _ _ _ l q, l.rt, l.bk, l.ct⟩, PSs.imp (pss_cons h.ps h2.ps) fun D σ H ⟨μ, hp, σI, e, A, s, q⟩ => ?_⟩
  refine tS.go h.mo A s q ⟨fun σ1 h1 q1 μ1 H1 σ2 u1 r1 s1 => ?_, fun _ _ q => q, fun _ _ q => q, fun _ _ q => q⟩
  exact tS.go h2.mo (A.next u1 r1) s1 q1 (fD.up u1)
theorem rs_do (h : RE X C E x wa) (hs : swapsWith x none pos.line X.env = pure false) : RS X C E (.Expr x pos) (wDo wa) :=
  ⟨fun σ hp e D D' l q => h.mo _ _ _ _ _ (fun _ h q => l.nx _ _ q) q, PS.imp (ps_expr h.pe hs) fun D σ H ⟨μ, hp, σI, e, A, s, q⟩ => tE.go h.mo A s q fun p h1 μ1 H1 v q1 u1 A1 s1 r1 => (fN.up q1 u1).here A1.hr s1⟩
theorem rs_doc {z : Str} {j : Nat} {pos' : Pos} : RS X C E (.Expr (.Constant (.str z) j pos) pos') wPass := ⟨fun σ hp e D D' h q => h.nx _ _ q, PS.imp ps_doc fun D σ H ⟨μ, hp, σI, e, A, s, q⟩ => fN.here q A.hr s⟩
theorem rs_ret (h : RE X C E x wa) : RS X C E (.Return (some x) pos) (wRet wa) :=
  ⟨fun σ hp e D D' l q => h.mo _ _ _ _ _ (fun _ h q => l.rt _ _ q) q, PS.imp (ps_ret h.pe) fun D σ H ⟨μ, hp, σI, e, A, s, q⟩ => tE.go h.mo A s q fun p h1 μ1 H1 v q1 u1 A1 s1 r1 => (fE.up q1 u1).here A1 r1⟩
theorem rs_retN : RS X C E (.Return none pos) wRetN :=
  ⟨fun σ hp e D D' l q => l.rt _ _ q, PS.imp ps_retN fun D σ H ⟨μ, hp, σI, e, A, s, q⟩ => fE.here q A .non'⟩
theorem rs_if (ht : RT X C E t wt) (ha : RSs X C E sts w) (hb : RSs X C E s2 w2) : RS X C E (.If t sts s2 pos) (wIf wt w w2) :=
  ⟨fun σ hp e D D' l q => ht.mo _ _ _ _ _ (fun c h q => ite_mono (ha.mo _ _ _ _ _ l) (hb.mo _ _ _ _ _ l) q) q, PS.imp (ps_if ht.pt ha.ps hb.ps) fun D σ H ⟨μ, hp, σI, e, A, s, q⟩ => tT.go ht.mo A s q fun c h1 μ1 H1 q1 u1 A1 s1 =>
    ite_mono (fun q2 => tS.go ha.mo A1 s1 q2 (fD.up u1)) (fun q2 => tS.go hb.mo A1 s1 q2 (fD.up u1)) q1⟩
theorem asg_mo {tg : Tg} (h : MoE wa) : MoS (wAsg tg wa) := fun σ hp e D D' l q => h _ _ _ _ _ (fun p h ⟨σ', e1, q⟩ => ⟨σ', e1, l.nx _ _ q⟩) q
theorem asg_go {tg : Tg} (h : MoE wa) {D : Ends} {σ : St} {H : Hp} : tS C E (wAsg tg wa) D σ H → tAsg (tE C E wa) (tg.g C.K) D σ H := fun ⟨μ, hp, σI, e, A, s, q⟩ =>
  tE.go h A s q fun p h1 μ1 H1 v ⟨σ', e1, q1⟩ u1 A1 s1 r1 => Tg.ok r1 s1 e1 fun σ2 s2 => (fN.up q1 u1).here A1.hr s2
/-- name = e -/
theorem rs_set {i : Nat} {y : Str} {pos' : Pos} (hN : X.N.Nodup) (hi : X.N[i]? = some y) (hx : Loc X.env.scope y) (hf : X.fn y = true ∨ X.env.scope.names.lookup y = some .local) (h : RE X C E x wa) (hs : swapsWith x (some (.Name y pos')) pos.line X.env = pure false) : RS X C E (.Assign [.Name y pos'] x pos) (wAsg (.nm i) wa) :=
  ⟨asg_mo h.mo, PS.imp (ps_set hN hi hx h.pe hs hf) fun D σ H q => asg_go h.mo q⟩
/-- (names) = e, e no display -/
theorem rs_unp {tg : Expr} {g : Tg} (hK : X.K = C.K) (hc : X.calm = true) (hN : X.N.Nodup) (hg : TgIs X tg g) (h : RE X C E x wa) (hs : swapsWithSole [tg] x pos.line X.env = pure false) (hw : swappedStores [tg] x X.env = pure none) (h1 : (assignEach [tg] X.env).map (·.2) = [assign tg X.env]) : RS X C E (.Assign [tg] x pos) (wAsg g wa) :=
  ⟨asg_mo h.mo, PS.imp (ps_asg h.pe (hg.pg hc hN) hs hw h1) fun D σ H q => by rw [hK]; exact asg_go h.mo q⟩
end

/-! ### loops -/
def forW (t : Tg) (b : WS) (e : EI) (D : DI) : List PV → SI → PH → Prop
  | [], σ, hp => D.nx σ hp
  | p :: ps, σ, hp => ∃ σ', t.go p σ = some σ' ∧ b σ' hp e ⟨fun σ h => forW t b e D ps σ h, D.rt, D.nx, fun σ h => forW t b e D ps σ h⟩
def wFor (t : Tg) (w : WA) (b : WS) : WS := fun σ hp e D => w σ hp e fun ps h => forW t b e D ps σ h
theorem forW.mono {t : Tg} {b : WS} (mo : MoS b) {e : EI} {D D' : DI} (l : D.le D') : ∀ (ps : List PV) (σ : SI) (hp : PH), forW t b e D ps σ hp → forW t b e D' ps σ hp
  | [], σ, hp, q => l.nx _ _ q
  | p :: ps, σ, hp, ⟨σ', e1, q⟩ => ⟨σ', e1, mo.at q ⟨fun σ h => forW.mono mo l ps σ h, l.rt, l.nx, fun σ h => forW.mono mo l ps σ h⟩⟩
def whlW (t : WT) (b : WS) (e : EI) (D : DI) : Nat → SI → PH → Prop
  | 0, _, _ => False
  | n + 1, σ, hp => t σ hp e fun c h => if c = true then b σ h e ⟨fun σ h => whlW t b e D n σ h, D.rt, D.nx, fun σ h => whlW t b e D n σ h⟩ else D.nx σ h
def wWhl (t : WT) (b : WS) : WS := fun σ hp e D => ∃ n, whlW t b e D n σ hp
theorem whlW.mono {t : WT} {b : WS} (mt : MoT t) (mo : MoS b) {e : EI} {D D' : DI} (l : D.le D') : ∀ (n : Nat) (σ : SI) (hp : PH), whlW t b e D n σ hp → whlW t b e D' n σ hp
  | 0, _, _, q => q
  | n + 1, σ, hp, q => by
    refine mt _ _ _ _ _ (fun c h q => ?_) q
    refine ite_mono (fun q => ?_) (l.nx _ _) q
    exact mo.at q ⟨fun σ h => whlW.mono mt mo l n σ h, l.rt, l.nx, fun σ h => whlW.mono mt mo l n σ h⟩
section
variable {X : Cx} {C : Cfg} {E : XK} {tg iter t : Expr} {sts : List Stmt} {g : Tg} {wi : WA} {wt : WT} {w : WS} {pos : Pos}
theorem rs_for (hK : X.K = C.K) (hp0 : PassesOwn (model X.prog X.w) X.A X.env X.xe) (hc : X.calm = true) (hN : X.N.Nodup) (hi : RI X C E tg iter wi) (hg : TgIs X tg g) (hb : RSs X C E sts w) (hs : ∀ x, foldedSetIterable iter X.env x = pure x) : RS X C E (.For tg iter sts [] pos) (wFor g wi w) := by
  refine ⟨fun σ hp e D D' l q => hi.mo _ _ _ _ _ (fun ps h q => forW.mono hb.mo l ps σ h q) q, PS.imp (ps_for hp0 hc hi.pi (hg.pg hc hN) hb.ps hs) fun D σ H ⟨μ, hp, σI, e, A, s, q⟩ => ?_⟩
  refine ⟨μ, hp, σI, e, A, s, hi.mo _ _ _ _ _ (fun ps h1 q1 μ1 H1 u1 r1 J W => ?_) q⟩
  refine ⟨fun i m σ2 H2 => i ≤ ps.length ∧ m = ps.length - i ∧ ∃ μ2 hp2 σI2, Up μ1 H1 μ2 H2 ∧ At C E μ2 H2 hp2 e ∧ SR C μ2 H2 σI2 σ2 ∧ forW g w e (fD C μ H D) (ps.drop i) σI2 hp2, ⟨_, Nat.zero_le _, rfl, μ1, h1, σI, .refl, A.next u1 r1, s.up u1, q1⟩, ?_⟩
  rintro i m σ2 H2 ⟨hi2, em, μ2, hp2, σI2, u2, A2, s2, q2⟩
  by_cases hl : i < ps.length
  · refine .inr ⟨W.go μ2 H2 i u2 hl, fun σ' H' => ∃ μ3 hp3 σI3, Up μ1 H1 μ3 H' ∧ At C E μ3 H' hp3 e ∧ SR C μ3 H' σI3 σ' ∧ forW g w e (fD C μ H D) (ps.drop (i + 1)) σI3 hp3, fun σ' H' hN' => ⟨ps.length - (i + 1), by omega, hl, rfl, hN'⟩, fun x H' y => ?_⟩
    rw [List.drop_eq_getElem_cons hl] at q2
    obtain ⟨σ', e3, q3⟩ := q2
    obtain ⟨rv, u3, keep⟩ := W.yl μ2 H2 i x H' _ u2 (List.getElem?_eq_getElem hl) y
    rw [hK]
    refine Tg.ok rv (s2.up u3) e3 fun σ4 s4 => ?_
    refine tS.go hb.mo (A2.next u3 (keep _ A2.hr)) s4 q3 ⟨fun σ5 h5 q5 μ5 H5 σ6 u5 r5 s5 => ?_, fun _ _ q => fE.up q ((u1.trans u2).trans u3), fun _ _ q => fN.up q ((u1.trans u2).trans u3), fun σ5 h5 q5 μ5 H5 σ6 u5 r5 s5 => ?_⟩
    · exact ⟨μ5, h5, σ5, (u2.trans u3).trans u5, (A2.next u3 (keep _ A2.hr)).next u5 r5, s5, q5⟩
    · exact ⟨μ5, h5, σ5, (u2.trans u3).trans u5, (A2.next u3 (keep _ A2.hr)).next u5 r5, s5, q5⟩
  · have e1 : ps.drop i = [] := List.drop_of_length_le (by omega)
    rw [e1] at q2
    exact .inl ⟨W.st μ2 H2 i u2 (by omega), (fN.up q2 (u1.trans u2)).here A2.hr s2⟩
theorem rs_whl (hp0 : PassesOwn (model X.prog X.w) X.A X.env X.xe) (ht : RT X C E t wt) (hb : RSs X C E sts w) : RS X C E (.While t sts [] pos) (wWhl wt w) := by
  refine ⟨fun σ hp e D D' l ⟨n, q⟩ => ⟨n, whlW.mono ht.mo hb.mo l n σ hp q⟩, PS.imp (ps_while hp0 ht.pt hb.ps) fun D σ H ⟨μ, hp, σI, e, A, s, n, q⟩ => ?_⟩
  refine ⟨fun m σ2 H2 => ∃ μ2 hp2 σI2, Up μ H μ2 H2 ∧ At C E μ2 H2 hp2 e ∧ SR C μ2 H2 σI2 σ2 ∧ whlW wt w e (fD C μ H D) m σI2 hp2, ⟨n, μ, hp, σI, .refl, A, s, q⟩, ?_⟩
  rintro m σ2 H2 ⟨μ2, hp2, σI2, u2, A2, s2, q2⟩
  cases m with
  | zero => exact False.elim q2
  | succ m =>
    refine tT.go ht.mo A2 s2 q2 fun c h3 μ3 H3 q3 u3 A3 s3 => ite_mono (fun q4 => ?_) (fun q4 => (fN.up q4 (u2.trans u3)).here A3.hr s3) q3
    refine ⟨fun σ' H' => ∃ μ4 hp4 σI4, Up μ H μ4 H' ∧ At C E μ4 H' hp4 e ∧ SR C μ4 H' σI4 σ' ∧ whlW wt w e (fD C μ H D) m σI4 hp4, fun σ' H' hN' => ⟨m, Nat.lt_succ_self m, hN'⟩, ?_⟩
    refine tS.go hb.mo A3 s3 q4 ⟨fun σ5 h5 q5 μ5 H5 σ6 u5 r5 s5 => ?_, fun _ _ q => fE.up q (u2.trans u3), fun _ _ q => fN.up q (u2.trans u3), fun σ5 h5 q5 μ5 H5 σ6 u5 r5 s5 => ?_⟩
    · exact ⟨μ5, h5, σ5, (u2.trans u3).trans u5, A3.next u5 r5, s5, q5⟩
    · exact ⟨μ5, h5, σ5, (u2.trans u3).trans u5, A3.next u5 r5, s5, q5⟩
end
end RF

set_option Elab.async false
set_option linter.all false
set_option maxRecDepth 100000
set_option maxHeartbeats 400000
/-! Part 5: operators, comparisons, subscripts by values. -/
namespace RF
open PySem PySem.Spec L2

/-! ### arithmetic, texts, tuples, lists put together -/
def rdLst (X : Cx) : Prop := True
section
variable {X : Cx} {pins : List (Addr × Obj)} {σ : St} {H : Hp} {s : Shared}
theorem rd_exact {a : Addr} {xs : List V} (I : Inv X pins σ H s) (h : Rd H a (.lst xs)) : xs.length ≤ sizeLine ∧ ∃ (its : List Value) (n : Nat), Vals xs its ∧ xs.length = its.length ∧ s.heap.get? a = some { cls := .type "list", data := .seq its.toArray n } := by
  obtain ⟨z, its, n, r, e⟩ := h.ok I.hok
  exact ⟨z, its, n, r, r.length, e⟩
/-- two lists put together: a new one -/
def rCatF : R2 := fun x y H Q => ∃ l b xs zs, x = .ref l ∧ y = .ref b ∧ Rd H l (.lst xs) ∧ Rd H b (.lst zs) ∧ xs.length + zs.length ≤ sizeLine ∧ ∀ p, H p = none → Q (.ref p) (upd H p (.lst (xs ++ zs)))
theorem op_catF : OpR X (binaryOp .Add) rCatF := by
  intro pins s σ H x y v u Q I rx ry ⟨l, b, xs, zs, ex, ey, hH, hB, hz, q⟩
  subst ex ey
  cases rx
  cases ry
  obtain ⟨z, its, n, r, hl, e⟩ := rd_exact I hH
  obtain ⟨z2, its2, n2, r2, hl2, e2⟩ := rd_exact I hB
  have ea : its.toArray ++ its2.toArray = (its ++ its2).toArray := by simp
  refine PySem.P.add_list e e2 ?_ (by rw [List.size_toArray, List.size_toArray]; omega)
  rw [ea]
  exact ⟨.ref _, _, I.lnew (t' := s.toks) (r.append r2) (by rw [List.length_append]; omega), rfl, q _ I.fresh⟩
end
def rAddP (K : PySem.W.Frag) : R2 := fun x y H Q => (∃ i j, x = .int i ∧ y = .int j ∧ Q (.int (i + j)) H) ∨ (∃ i j, x = .str i ∧ y = .str j ∧ i.length + j.length ≤ sizeLine ∧ Q (.str (i ++ j)) H) ∨ rCatA K x y H Q ∨ rCatF x y H Q
theorem op_addP {X : Cx} : OpR X (binaryOp .Add) (rAddP X.K) := op_add.or (op_add_str.or (op_catA.or op_catF))
def gAdd : G2 := fun p q hp Q => match p, q with
  | .int i, .int j => Q (.int (i + j)) hp
  | .str a, .str b => a.length + b.length ≤ sizeLine ∧ Q (.str (a ++ b)) hp
  | .tup a, .tup b => a.length + b.length ≤ sizeLine ∧ Q (.tup (a ++ b)) hp
  | p, q => ∃ a b, asL hp p = some a ∧ asL hp q = some b ∧ a.length + b.length ≤ sizeLine ∧ Q (.lst (a ++ b)) hp
theorem fzk {Q : VK} {v : V} {H : Hp} (h : Q v H) : FzK Q v H := .inl h
section
variable {C : Cfg}
theorem gAdd_lst {p q : PV} {hp : PH} {Q : KI} (h : gAdd p q hp Q) : (∃ i j, p = .int i ∧ q = .int j ∧ Q (.int (i + j)) hp) ∨ (∃ a b, p = .str a ∧ q = .str b ∧ a.length + b.length ≤ sizeLine ∧ Q (.str (a ++ b)) hp) ∨
    (∃ a b, p = .tup a ∧ q = .tup b ∧ a.length + b.length ≤ sizeLine ∧ Q (.tup (a ++ b)) hp) ∨ ∃ a b, asL hp p = some a ∧ asL hp q = some b ∧ a.length + b.length ≤ sizeLine ∧ Q (.lst (a ++ b)) hp := by
  unfold gAdd at h
  split at h
  · exact .inl ⟨_, _, rfl, rfl, h⟩
  · exact .inr (.inl ⟨_, _, rfl, rfl, h⟩)
  · exact .inr (.inr (.inl ⟨_, _, rfl, rfl, h⟩))
  · exact .inr (.inr (.inr h))
theorem l_add : LOp C (rAddP C.K) gAdd where
  mo := fun p q hp Q Q' i h => by
    unfold gAdd at h ⊢
    split at h
    · exact i _ _ h
    · exact ⟨h.1, i _ _ h.2⟩
    · exact ⟨h.1, i _ _ h.2⟩
    · obtain ⟨a, b, e1, e2, l, q⟩ := h
      exact ⟨a, b, e1, e2, l, i _ _ q⟩
  ok := fun μ H hp p q v u Q r rp rq h => by
    rcases gAdd_lst h with ⟨i, j, rfl, rfl, h⟩ | ⟨i, j, rfl, rfl, l, h⟩ | ⟨a, b, rfl, rfl, l, h⟩ | ⟨a, b, e1, e2, l, h⟩
    · exact .inl ⟨i, j, rp.intI, rq.intI, fzk (h μ H _ .refl r .int')⟩
    · exact .inr (.inl ⟨i, j, rp.strI, rq.strI, l, fzk (h μ H _ .refl r .str')⟩)
    · obtain ⟨x, xs, rfl, hx, rx⟩ := rp.tupI
      obtain ⟨y, ys, rfl, hy, ry⟩ := rq.tupI
      refine .inr (.inr (.inl ⟨x, y, xs, ys, rfl, rfl, hx, hy, by rw [rx.length, ry.length]; exact l, fun e => ?_, fun _ e => ?_, fun _ _ p np => fzk (h.newT r (rx.append ry) np)⟩))
      · subst e
        have e0 : a = [] := by cases a with | nil => rfl | cons _ _ => have := rx.length; simp at this
        subst e0
        refine fzk (h μ H _ .refl r ?_)
        rw [List.nil_append]
        exact rq
      · subst e
        have e0 : b = [] := by cases b with | nil => rfl | cons _ _ => have := ry.length; simp at this
        subst e0
        refine fzk (h μ H _ .refl r ?_)
        rw [List.append_nil]
        exact rp
    · obtain ⟨x, xs, rfl, hx, rx⟩ := asL_rd r rp e1
      obtain ⟨y, ys, rfl, hy, ry⟩ := asL_rd r rq e2
      exact .inr (.inr (.inr ⟨x, y, xs, ys, rfl, rfl, hx, hy, by rw [rx.length, ry.length]; exact l, fun p np => h.newL r (rx.append ry) np⟩))
/-- a rule of two ints -/
def gII (c : Int → Int → Prop) (g : Int → Int → Int) : G2 := fun p q hp Q => ∃ i j, p = .int i ∧ q = .int j ∧ c i j ∧ Q (.int (g i j)) hp
theorem l_ii {c : Int → Int → Prop} {g : Int → Int → Int} : LOp C (rI c fun i j => .int (g i j)) (gII c g) where
  mo := fun p q hp Q Q' i ⟨a, b, e1, e2, l, q⟩ => ⟨a, b, e1, e2, l, i _ _ q⟩
  ok := fun μ H hp p q v u Q r rp rq ⟨a, b, e1, e2, l, h⟩ => by
    subst e1 e2
    exact ⟨a, b, rp.intI, rq.intI, l, fzk (h μ H _ .refl r .int')⟩
def gI0 (g : Int → Int → Int) : G2 := fun p q hp Q => ∃ i j, p = .int i ∧ q = .int j ∧ Q (.int (g i j)) hp
theorem l_i0 {g : Int → Int → Int} : LOp C (rI0 fun i j => .int (g i j)) (gI0 g) where
  mo := fun p q hp Q Q' i ⟨a, b, e1, e2, q⟩ => ⟨a, b, e1, e2, i _ _ q⟩
  ok := fun μ H hp p q v u Q r rp rq ⟨a, b, e1, e2, h⟩ => by
    subst e1 e2
    exact ⟨a, b, rp.intI, rq.intI, fzk (h μ H _ .refl r .int')⟩
abbrev gSub : G2 := gI0 fun i j => i - j
abbrev gMul : G2 := gII CMul fun i j => i * j
abbrev gDiv : G2 := gII CDivN fun i j => i.fdiv j
abbrev gMod : G2 := gII (fun _ j => j ≠ 0) fun i j => i.fmod j
abbrev gPow : G2 := gII CPow fun i j => i ^ j.toNat
abbrev gAnd : G2 := gI0 fun i j => Builtin.bitAnd i j
def gNeg : G1 := fun p hp Q => ∃ i, p = .int i ∧ Q (.int (-i)) hp
theorem l_neg : LUn C (rU fun i => .int (-i)) gNeg where
  mo := fun p hp Q Q' i ⟨a, e1, q⟩ => ⟨a, e1, i _ _ q⟩
  ok := fun μ H hp p v Q r rp ⟨a, e1, h⟩ => by
    subst e1
    exact ⟨a, rp.intI, fzk (h μ H _ .refl r .int')⟩
end

/-! ### plain data -/
mutual
def toD : PV → Option PyData
  | .non => some .none
  | .bl b => some (.bool b)
  | .int i => some (.int i)
  | .str s => some (.str s)
  | .tup ps => (toDs ps).map .tuple
  | .lst ps => (toDs ps).map .list
  | .dct _ => none
  | .loc _ => none
  | .ref _ => none
def toDs : List PV → Option (List PyData)
  | [] => some []
  | p :: ps => (toD p).bind fun d => (toDs ps).map fun ds => d :: ds
end
def toDh (hp : PH) (p : PV) : Option PyData := match p with
  | .loc n => (asL hp (.loc n)).bind fun ps => (toDs ps).map .list
  | p => toD p
section
variable {K : PySem.W.Frag} {μ : List Addr} {H : Hp}
mutual
theorem toD_dp : ∀ (p : PV) (v : V) (d : PyData), RV K μ H p v → toD p = some d → Dp K H v d
  | .non, v, d, r, h => by
    simp only [toD, Option.some.injEq] at h
    rw [r.nonI, ← h]; exact .non
  | .bl b, v, d, r, h => by
    simp only [toD, Option.some.injEq] at h
    rw [r.blI, ← h]; exact .bl b
  | .int i, v, d, r, h => by
    simp only [toD, Option.some.injEq] at h
    rw [r.intI, ← h]; exact .int i
  | .str s, v, d, r, h => by
    simp only [toD, Option.some.injEq] at h
    rw [r.strI, ← h]; exact .str s
  | .tup ps, v, d, r, h => by
    simp only [toD, Option.map_eq_some_iff] at h
    obtain ⟨ds, e1, e2⟩ := h
    obtain ⟨a, vs, rfl, hs, rs⟩ := r.tupI
    rw [← e2]
    exact .tup hs (toDs_dp ps vs ds rs e1)
  | .lst ps, v, d, r, h => by
    simp only [toD, Option.map_eq_some_iff] at h
    obtain ⟨ds, e1, e2⟩ := h
    obtain ⟨a, vs, rfl, hs, rs⟩ := r.lstI
    rw [← e2]
    exact .lst hs.sq (toDs_dp ps vs ds rs e1)
  | .dct _, _, _, _, h => by simp [toD] at h
  | .loc _, _, _, _, h => by simp [toD] at h
  | .ref _, _, _, _, h => by simp [toD] at h
theorem toDs_dp : ∀ (ps : List PV) (vs : List V) (ds : List PyData), RVs K μ H ps vs → toDs ps = some ds → DpAll K H vs ds
  | [], _, _, r, h => by
    simp only [RVs] at r
    simp only [toDs, Option.some.injEq] at h
    rw [r, ← h]; exact .nil
  | p :: ps, _, _, r, h => by
    simp only [RVs] at r
    obtain ⟨w, ws, rfl, r1, r2⟩ := r
    simp only [toDs, Option.bind_eq_some_iff, Option.map_eq_some_iff] at h
    obtain ⟨d, e1, ds, e2, e3⟩ := h
    rw [← e3]
    exact .cons (toD_dp p w d r1 e1) (toDs_dp ps ws ds r2 e2)
end
theorem toDh_dp {C : Cfg} {hp : PH} {p : PV} {v : V} {d : PyData} (r : HR C μ H hp) (rv : RV C.K μ H p v) (h : toDh hp p = some d) : Dp C.K H v d := by
  cases p with
  | loc n =>
    simp only [toDh, Option.bind_eq_some_iff, Option.map_eq_some_iff] at h
    obtain ⟨ps, e1, ds, e2, e3⟩ := h
    obtain ⟨a, vs, rfl, hs, rs⟩ := asL_sq r rv e1
    rw [← e3]
    exact .lst hs (toDs_dp ps vs ds rs e2)
  | _ => exact toD_dp _ _ _ rv h
end
/-- == of plain data -/
def cEq : G3 := fun p q hp b => ∃ d e, toDh hp p = some d ∧ toDh hp q = some e ∧ SeqAt.shaped d = true ∧ SeqAt.shaped e = true ∧ b = PyData.eqv d e
def cNe : G3 := fun p q hp b => ∃ d e, toDh hp p = some d ∧ toDh hp q = some e ∧ SeqAt.shaped d = true ∧ SeqAt.shaped e = true ∧ b = !PyData.eqv d e
section
variable {C : Cfg}
theorem l_eq : LCp C (rEqD C.K) cEq := ⟨fun μ H hp p q v u b r rp rq ⟨d, e, h1, h2, h3, h4, h5⟩ Q hq => ⟨d, e, toDh_dp r rp h1, toDh_dp r rq h2, h3, h4, by rw [← h5]; exact hq⟩⟩
theorem l_ne : LCp C (rNeD C.K) cNe := ⟨fun μ H hp p q v u b r rp rq ⟨d, e, h1, h2, h3, h4, h5⟩ Q hq => ⟨d, e, toDh_dp r rp h1, toDh_dp r rq h2, h3, h4, by rw [← h5]; exact hq⟩⟩
def cII (g : Int → Int → Bool) : G3 := fun p q _ b => ∃ i j, p = .int i ∧ q = .int j ∧ b = g i j
theorem l_cii {g : Int → Int → Bool} : LCp C (rI0 fun i j => .bl (g i j)) (cII g) := ⟨fun μ H hp p q v u b r rp rq ⟨i, j, e1, e2, e3⟩ Q hq => by
  subst e1 e2 e3
  exact ⟨i, j, rp.intI, rq.intI, hq⟩⟩
abbrev cLt : G3 := cII fun i j => decide (i < j)
abbrev cLe : G3 := cII fun i j => decide (i ≤ j)
abbrev cGt : G3 := cII fun i j => decide (j < i)
abbrev cGe : G3 := cII fun i j => decide (j ≤ i)
/-- is None -/
def isNon : PV → Bool
  | .non => true
  | _ => false
def cIsN : G3 := fun p q _ b => q = .non ∧ b = isNon p
def cNotN : G3 := fun p q _ b => q = .non ∧ b = !isNon p
theorem non_iff {μ : List Addr} {H : Hp} {p : PV} {v : V} (r : RV C.K μ H p v) : decide (v = .non) = isNon p := by
  cases p with
  | non => rw [r.nonI]; rfl
  | bl b => rw [r.blI]; rfl
  | int b => rw [r.intI]; rfl
  | str b => rw [r.strI]; rfl
  | tup b => obtain ⟨a, vs, rfl, _⟩ := r.tupI; rfl
  | lst b => obtain ⟨a, vs, rfl, _⟩ := r.lstI; rfl
  | dct b => obtain ⟨a, vs, rfl, _⟩ := r.dctI; rfl
  | loc b => obtain ⟨a, rfl, _⟩ := r.locI; rfl
  | ref b => rw [r.refI]; rfl
theorem l_isN : LCp C (fun x y H Q => y = .non ∧ Q (.bl (decide (x = .non))) H) cIsN := ⟨fun μ H hp p q v u b r rp rq ⟨e1, e2⟩ Q hq => by
  subst e1 e2
  exact ⟨rq.nonI, by rw [non_iff rp]; exact hq⟩⟩
theorem l_notN : LCp C (fun x y H Q => y = .non ∧ Q (.bl (!decide (x = .non))) H) cNotN := ⟨fun μ H hp p q v u b r rp rq ⟨e1, e2⟩ Q hq => by
  subst e1 e2
  refine ⟨rq.nonI, ?_⟩
  rw [non_iff rp]
  exact hq⟩
end

/-! ### subscripts -/
def gIx : G2 := fun p q hp Q => ∃ i, q = .int i ∧ match p with
  | .tup ps => ∃ z, atI ps i = some z ∧ Q z hp
  | .str s => s.length ≤ sizeLine ∧ ∃ c, atI s.cps.toList i = some c ∧ Q (.str ⟨#[c]⟩) hp
  | p => ∃ ps z, asL hp p = some ps ∧ atI ps i = some z ∧ Q z hp
section
variable {C : Cfg} {μ : List Addr} {H : Hp}
theorem RVs.atI {ps : List PV} {vs : List V} {i : Int} {z : PV} (r : RVs C.K μ H ps vs) (h : L2.atI ps i = some z) : ∃ w, L2.atI vs i = some w ∧ RV C.K μ H z w := by
  unfold L2.atI at h ⊢
  rw [r.length]
  cases e : ixN ps.length i with
  | none => rw [e] at h; cases h
  | some j =>
    rw [e] at h
    obtain ⟨w, h1, h2⟩ := r.get (show ps[j]? = some z from h)
    exact ⟨w, h1, h2⟩
theorem l_ix : LOp C (rIx C.K) gIx where
  mo := fun p q hp Q Q' i ⟨k, e1, h⟩ => ⟨k, e1, by
    split at h
    · obtain ⟨z, e, q⟩ := h
      exact ⟨z, e, i _ _ q⟩
    · obtain ⟨l, z, e, q⟩ := h
      exact ⟨l, z, e, i _ _ q⟩
    · obtain ⟨ps, z, e, e', q⟩ := h
      exact ⟨ps, z, e, e', i _ _ q⟩⟩
  ok := fun μ H hp p q v u Q r rp rq ⟨i, e1, h⟩ => by
    subst e1
    split at h
    · obtain ⟨z, e, q⟩ := h
      obtain ⟨a, vs, rfl, hs, rs⟩ := rp.tupI
      obtain ⟨w, e2, rw'⟩ := rs.atI e
      exact .inr (.inl ⟨a, vs, i, w, rfl, rq.intI, hs, e2, fzk (q μ H _ .refl r rw')⟩)
    · obtain ⟨l, c, e, q⟩ := h
      exact .inr (.inr ⟨_, i, c, rp.strI, rq.intI, l, e, fzk (q μ H _ .refl r .str')⟩)
    · obtain ⟨ps, z, e, e', q⟩ := h
      obtain ⟨a, vs, rfl, hs, rs⟩ := asL_sq r rp e
      obtain ⟨w, e2, rw'⟩ := rs.atI e'
      exact .inl ⟨a, vs, i, w, rfl, rq.intI, hs, e2, fzk (q μ H _ .refl r rw')⟩
end
/-! ### slices -/
def cutP {α : Type} (xs : List α) (lo hi : Option Int) : List α := (xs.drop (HT.sIx xs.length 0 lo)).take (HT.sIx xs.length xs.length hi - HT.sIx xs.length 0 lo)
abbrev WO := SI → PH → EI → (Option Int → PH → Prop) → Prop
def MoO (w : WO) : Prop := ∀ σ hp e Q Q', (∀ p h, Q p h → Q' p h) → w σ hp e Q → w σ hp e Q'
def fO (C : Cfg) (μ : List Addr) (H : Hp) (Q : Option Int → Hp → Prop) : Option Int → PH → Prop := fun b hp => ∀ μ' H', Up μ H μ' H' → HR C μ' H' hp → Q b H'
def tO (C : Cfg) (E : XK) (w : WO) : TO := fun σ H Q => ∃ μ hp σI e, At C E μ H hp e ∧ SR C μ H σI σ ∧ w σI hp e (fO C μ H Q)
structure RO (X : Cx) (C : Cfg) (E : XK) (x : Option Expr) (w : WO) : Prop where
  mo : MoO w
  po : PO X x (tO C E w)
def wNoO : WO := fun _ hp _ Q => Q none hp
def wSmO (a : WE) : WO := fun σ hp e Q => a σ hp e fun p h => ∃ i, p = .int i ∧ Q (some i) h
theorem PO.imp {X : Cx} {x : Option Expr} {t t' : TO} (h : PO X x t) (i : ∀ σ H Q, t' σ H Q → t σ H Q) : PO X x t' := ⟨fun pins s σ H Q I q => h.run pins s σ H Q I (i σ H Q q)⟩
def gSl : PV → Option Int → Option Int → PH → KI → Prop := fun p lo hi hp Q => match p with
  | .tup ps => Q (.tup (cutP ps lo hi)) hp
  | .str s => s.length ≤ sizeLine ∧ Q (.str (cutS s lo hi)) hp
  | p => ∃ ps, asL hp p = some ps ∧ Q (.lst (cutP ps lo hi)) hp
def rSl (K : PySem.W.Frag) : V → Option Int → Option Int → Hp → VK → Prop := fun x lo hi H Q => rSlL K x lo hi H Q ∨ rSlA K x lo hi H Q ∨ rSlS x lo hi H Q
def wSl (a : WE) (lo hi : WO) : WE := fun σ hp e Q => a σ hp e fun p h => lo σ h e fun l h2 => hi σ h2 e fun u h3 => gSl p l u h3 Q
section
variable {X : Cx} {C : Cfg} {E : XK} {x : Expr} {wa : WE} {lo hi : Option Expr} {wl wh : WO} {p2 pos : Pos}
theorem ro_no : RO X C E none wNoO := ⟨fun σ hp e Q Q' h q => h _ _ q, PO.imp po_none fun σ H Q ⟨μ, hp, σI, e, A, s, q⟩ => q μ H .refl A.hr⟩
theorem ro_sm (h : RE X C E x wa) : RO X C E (some x) (wSmO wa) := ⟨fun σ hp e Q Q' i q => h.mo _ _ _ _ _ (fun p h ⟨k, e1, q⟩ => ⟨k, e1, i _ _ q⟩) q, PO.imp (po_some h.pe) fun σ H Q ⟨μ, hp, σI, e, A, s, q⟩ =>
  tE.go h.mo A s q fun p h1 μ1 H1 v ⟨k, e1, q1⟩ u1 A1 s1 r1 => by
    subst e1
    exact ⟨k, r1.intI, q1 μ1 H1 u1 A1.hr⟩⟩
theorem gSl_mo : ∀ p lo hi hp (Q Q' : KI), (∀ z h, Q z h → Q' z h) → gSl p lo hi hp Q → gSl p lo hi hp Q' := fun p lo hi hp Q Q' i h => by
  unfold gSl at h ⊢
  split at h
  · exact i _ _ h
  · exact ⟨h.1, i _ _ h.2⟩
  · obtain ⟨ps, e, q⟩ := h
    exact ⟨ps, e, i _ _ q⟩
theorem cut_rvs {K : PySem.W.Frag} {μ : List Addr} {H : Hp} {ps : List PV} {vs : List V} (r : RVs K μ H ps vs) (lo hi : Option Int) : RVs K μ H (cutP ps lo hi) (cutV vs lo hi) := by
  unfold cutP cutV
  rw [r.length]
  exact (r.drop _).take _
theorem re_sl (hK : X.K = C.K) (ha : RE X C E x wa) (hl : RO X C E lo wl) (hh : RO X C E hi wh) : RE X C E (.Subscript x (.Slice lo hi none p2) pos) (wSl wa wl wh) := by
  refine ⟨fun σ hp e Q Q' i q => ha.mo _ _ _ _ _ (fun p h q => hl.mo _ _ _ _ _ (fun l h q => hh.mo _ _ _ _ _ (fun u h q => gSl_mo _ _ _ _ _ _ i q) q) q) q,
    PE.imp (PE.fz (pe_slice (sl_list.or (sl_tupA.or sl_str)) ha.pe hl.po hh.po)) fun σ H Q ⟨μ, hp, σI, e, A, s, q⟩ => ?_⟩
  refine tE.go ha.mo A s q fun p h1 μ1 H1 v q1 u1 A1 s1 r1 => ?_
  refine ⟨μ1, h1, σI, e, A1, s1, hl.mo _ _ _ _ _ (fun l h2 q2 μ2 H2 u2 r2 => ?_) q1⟩
  have A2 := A1.next u2 r2
  refine ⟨μ2, h2, σI, e, A2, s1.up u2, hh.mo _ _ _ _ _ (fun k h3 q3 μ3 H3 u3 r3 => ?_) q2⟩
  have A3 := A2.next u3 r3
  have rv := RV.up (u2.trans u3) _ _ r1
  have q4 : gSl p l k h3 (fE C μ3 H3 Q) := gSl_mo _ _ _ _ _ _ (fun z h q => fE.up q ((u1.trans u2).trans u3)) q3
  clear q3 r1
  rw [hK]
  unfold gSl at q4
  split at q4
  · obtain ⟨a, vs, rfl, hs, rs⟩ := rv.tupI
    refine .inr (.inl ⟨a, vs, rfl, hs, fun hw => fzk (q4 μ3 H3 _ .refl r3 ?_), fun hw p np => fzk (q4.newT r3 (cut_rvs rs l k) np)⟩)
    rename_i ps
    have e1 : cutP ps l k = ps := by
      unfold cutP
      rw [rs.length] at hw
      rw [hw.1, hw.2]
      simp
    rw [e1]
    exact rv
  · exact .inr (.inr ⟨_, rv.strI, q4.1, fzk (q4.2 μ3 H3 _ .refl r3 .str')⟩)
  · obtain ⟨ps, e, q5⟩ := q4
    obtain ⟨a, vs, rfl, hs, rs⟩ := asL_sq r3 rv e
    exact .inl ⟨a, vs, rfl, hs, fun p np => q5.newL r3 (cut_rvs rs l k) np⟩
/-- x[::-1] of a list -/
def wRevL (a : WE) : WE := fun σ hp e Q => a σ hp e fun p h => ∃ ps, asL h p = some ps ∧ Q (.lst ps.reverse) h
theorem re_revL {k : Nat} {p1 p3 p4 : Pos} (hK : X.K = C.K) (ha : RE X C E x wa) : RE X C E (.Subscript x (.Slice none none (some (.UnaryOp .USub (.Constant (.int 1) k p1) p3)) p4) pos) (wRevL wa) := by
  refine ⟨fun σ hp e Q Q' i q => ha.mo _ _ _ _ _ (fun p h ⟨ps, e1, q⟩ => ⟨ps, e1, i _ _ q⟩) q, PE.imp (PE.fz (pe_revL ha.pe)) fun σ H Q ⟨μ, hp, σI, e, A, s, q⟩ => ?_⟩
  refine tE.go ha.mo A s q fun p h1 μ1 H1 v ⟨ps, e1, q1⟩ u1 A1 s1 r1 => ?_
  obtain ⟨a, vs, rfl, hs, rs⟩ := asL_sq A1.hr r1 e1
  exact ⟨a, vs, rfl, by rw [hK]; exact hs, fun p np => (fE.up q1 u1).newL A1.hr rs.reverse np⟩
end
end RF

set_option Elab.async false
set_option linter.all false
set_option maxRecDepth 100000
set_option maxHeartbeats 400000
/-! Part 6: comprehensions. -/
namespace RF
open PySem PySem.Spec L2

/-! ### the slots of a block -/
def wpI (σ : SI) : List Nat → SI
  | [] => σ
  | v :: vs => (wpI σ vs).set v none
theorem wipe_at {σ : St} {j : Nat} : ∀ vs : List Nat, (wipe σ vs)[j]? = if j ∈ vs then (if j < σ.length then some none else none) else σ[j]?
  | [] => by simp [wipe]
  | v :: vs => by
    unfold wipe
    by_cases h : v = j
    · subst h
      rw [if_pos (List.mem_cons_self ..)]
      by_cases l : v < σ.length
      · rw [if_pos l, List.getElem?_set_self (by rw [wipe_length]; exact l)]
      · rw [if_neg l, List.getElem?_eq_none (by rw [List.length_set, wipe_length]; omega)]
    · rw [List.getElem?_set_ne h, wipe_at vs]
      by_cases m : j ∈ vs
      · rw [if_pos m, if_pos (List.mem_cons_of_mem _ m)]
      · rw [if_neg m, if_neg (by simp only [List.mem_cons, not_or]; exact ⟨fun z => h z.symm, m⟩)]
theorem wipe_eq {σ σ' : St} {vs : List Nat} (l : σ'.length = σ.length) (h : ∀ j, j ∉ vs → σ'[j]? = σ[j]?) : wipe σ' vs = wipe σ vs := by
  apply List.ext_getElem?
  intro j
  rw [wipe_at, wipe_at, l]
  by_cases m : j ∈ vs
  · rw [if_pos m, if_pos m]
  · rw [if_neg m, if_neg m, h j m]
theorem wipe2 {σ : St} {vs : List Nat} : wipe (wipe σ vs) vs = wipe σ vs := wipe_eq (wipe_length _ _) fun j m => by rw [wipe_at, if_neg m]
theorem wpI_at {σ : SI} {j : Nat} {p : PV} : ∀ {vs : List Nat}, (wpI σ vs)[j]? = some (some p) → σ[j]? = some (some p) ∧ j ∉ vs
  | [], h => ⟨h, by simp⟩
  | v :: vs, h => by
    unfold wpI at h
    by_cases hi : v = j
    · subst hi
      by_cases hv : v < (wpI σ vs).length
      · rw [List.getElem?_set_self hv] at h; cases h
      · rw [List.getElem?_eq_none (by simpa using hv)] at h; cases h
    · rw [List.getElem?_set_ne hi] at h
      obtain ⟨h1, h2⟩ := wpI_at h
      exact ⟨h1, by simp only [List.mem_cons, not_or]; exact ⟨fun e => hi e.symm, h2⟩⟩
theorem wpI_len {σ : SI} : ∀ vs : List Nat, (wpI σ vs).length = σ.length
  | [] => rfl
  | v :: vs => by unfold wpI; rw [List.length_set, wpI_len vs]
theorem SR.wipe {C : Cfg} {μ : List Addr} {H : Hp} {σI : SI} {σ : St} (s : SR C μ H σI σ) (vs : List Nat) : SR C μ H (wpI σI vs) (L2.wipe σ vs) := ⟨by rw [wpI_len, wipe_length]; exact s.len, fun i p e => by
  obtain ⟨h1, h2⟩ := wpI_at e
  obtain ⟨v, h3, h4⟩ := s.get i p h1
  exact ⟨v, by rw [wipe_at, if_neg h2]; exact h3, h4⟩⟩
def Tg.ix : Tg → List Nat
  | .nm i => [i]
  | .tp is => is
theorem setAll_at {α : Type} : ∀ (is : List Nat) (vs : List α) (σ : List (Option α)), (RF.setAll σ is vs).length = σ.length ∧ ∀ j, j ∉ is → (RF.setAll σ is vs)[j]? = σ[j]?
  | [], vs, σ => by cases vs <;> exact ⟨rfl, fun _ _ => rfl⟩
  | i :: is, [], σ => ⟨rfl, fun _ _ => rfl⟩
  | i :: is, v :: vs, σ => by
    obtain ⟨h1, h2⟩ := setAll_at is vs (σ.set i (some v))
    refine ⟨h1.trans (List.length_set ..), fun j m => ?_⟩
    simp only [List.mem_cons, not_or] at m
    show (RF.setAll (σ.set i (some v)) is vs)[j]? = _
    rw [h2 j m.2, List.getElem?_set_ne fun z => m.1 z.symm]
theorem Tg.okB {C : Cfg} {μ : List Addr} {H : Hp} {t : Tg} {p : PV} {v : V} {σI σI' : SI} {σ : St} {Q : St → Hp → Prop} (r : RV C.K μ H p v) (s : SR C μ H σI σ) (h : t.go p σI = some σI')
    (q : ∀ σ', SR C μ H σI' σ' → σ'.length = σ.length → (∀ j, j ∉ t.ix → σ'[j]? = σ[j]?) → Q σ' H) : t.g C.K v σ H Q := by
  cases t with
  | nm i =>
    simp only [Tg.go, Option.some.injEq] at h
    subst h
    exact q _ (s.set r) (List.length_set ..) fun j m => List.getElem?_set_ne fun z => m (by rw [← z]; exact List.mem_singleton.mpr rfl)
  | tp is =>
    cases p with
    | tup ps =>
      simp only [Tg.go] at h
      split at h
      · rename_i hl
        cases h
        obtain ⟨a, vs, rfl, hs, rv⟩ := r.tupI
        obtain ⟨l1, l2⟩ := setAll_at is vs σ
        exact ⟨a, vs, rfl, hs, by rw [rv.length, hl], gNames_ok is vs σ H Q (by rw [rv.length, hl]) (q _ (SR.setAll is ps vs _ _ s rv) l1 l2)⟩
      · cases h
    | _ => simp [Tg.go] at h

/-! ### the new thing of a block -/
section
variable {C : Cfg} {μ μ' : List Addr} {H H' : Hp} {hp : PH} {D : Addr} {o u : HO}
theorem Up.notin (x : Up μ H μ' H') (h : H D = some o) (l : lsd o = true) (m : D ∉ μ) : H' D = some o ∧ D ∉ μ' := x.hid D o l h m
theorem stab_lsd (h : lsd o = true) : stab o = false := by
  cases o <;> first | rfl | cases h
/-- nothing stands there (a table at most) -/
def Fr (H : Hp) (D : Addr) : Prop := ¬ nt H D
theorem fr_none (h : H D = none) : Fr H D := fun n => nt_ne n h rfl
theorem Up.fr (x : Up μ H μ' H') (h : Fr H' D) : Fr H D := fun n => h (x.dm D n)
theorem fr_ne {a : Addr} (f : Fr H D) (e : H a = some o) (ho : ∀ ps, o ≠ .tbl ps) : a ≠ D := fun z => f (z ▸ ⟨o, e, ho⟩)
/-- a thing without a number is written: nobody sees it -/
theorem Up.wrN (x : Up μ H μ' H') (h0 : Fr H D) (h : H' D = some u) (l : lsd u = true) (m : D ∉ μ') : Up μ H μ' (upd H' D o) := ⟨x.ad, fun a q s e => by
  rw [upd_ne (fr_ne h0 e (stab_nt s))]; exact x.st a q s e, fun a e => nt_keep (x.dm a e) (fun z => h0 (z ▸ e)), fun a q l e n => ⟨by rw [upd_ne (fr_ne h0 e (lsd_nt l))]; exact (x.hid a q l e n).1, (x.hid a q l e n).2⟩⟩
theorem Up0.wrN (h : H D = some u) (l : lsd u = true) : Up0 μ H μ (upd H D o) := ⟨fun _ _ h => h, fun b q s e => by
  rw [upd_ne fun z => by subst z; rw [h] at e; cases e; rw [stab_lsd l] at s; cases s]; exact e⟩
theorem HR.wrN (r : HR C μ H hp) (h : H D = some u) (l : lsd u = true) (m : D ∉ μ) : HR C μ (upd H D o) hp := by
  have hu : (∀ ps, u ≠ .tbl ps) ∧ ∀ φ, u ≠ .ext φ := by
    cases u with
    | lst xs => exact lstU.2
    | dK xs => exact dKU.2
    | _ => cases l
  refine ⟨r.nd, fun a ma => nt_keep (r.lv a ma) (fun z => m (z ▸ ma)), fun n c e => ?_, tabs_wr h hu r.tabs, r.xd.up0 (Up0.wrN h l)⟩
  obtain ⟨a, e1, e2⟩ := r.cell n c e
  have na : a ≠ D := fun z => m (by rw [← z]; exact List.mem_of_getElem? e1)
  exact ⟨a, e1, e2.up0 (Up0.wrN h l) (upd_ne na)⟩
/-- it is locked at last -/
theorem fE.lockL {Q : VK} {ps : List PV} {vs : List V} (q : fE C μ H Q (.lst ps) hp) (x : Up μ H μ' H') (h0 : Fr H D) (r : HR C μ' H' hp) (h : H' D = some (.lst vs)) (m : D ∉ μ') (rv : RVs C.K μ' H' ps vs) : FzK Q (.ref D) H' := by
  refine .inr ⟨D, .lst vs, rfl, h, .inl ⟨_, rfl⟩, fun o => ?_⟩
  refine q μ' _ (.ref D) (x.wrN h0 h rfl m) (r.wrN h rfl m) ?_
  simp only [RV]
  exact ⟨D, vs, rfl, ⟨o, upd_same⟩, RVs.up0 (Up0.wrN h rfl) _ _ rv⟩
theorem fE.lockD {Q : VK} {ps : List (Key × PV)} {vs : List (Key × V)} (q : fE C μ H Q (.dct ps) hp) (x : Up μ H μ' H') (h0 : Fr H D) (r : HR C μ' H' hp) (h : H' D = some (.dK vs)) (m : D ∉ μ') (rv : RKs C.K μ' H' ps vs) : FzK Q (.ref D) H' := by
  refine .inr ⟨D, .dK vs, rfl, h, .inr ⟨_, rfl⟩, fun o => ?_⟩
  refine q μ' _ (.ref D) (x.wrN h0 h rfl m) (r.wrN h rfl m) ?_
  simp only [RV]
  exact ⟨D, vs, rfl, ⟨o, upd_same⟩, RKs.up0 (Up0.wrN h rfl) _ _ rv⟩
/-- or gets its number -/
theorem Up.addN (x : Up μ H μ' H') (h0 : Fr H D) : Up μ H (μ' ++ [D]) H' := ⟨fun n a e => by
  rw [List.getElem?_append_left (List.getElem?_eq_some_iff.mp (x.ad n a e)).1]; exact x.ad n a e, x.st, x.dm, fun a o l e n => ⟨(x.hid a o l e n).1, by
    rw [List.mem_append, List.mem_singleton]
    rintro (z | z)
    · exact (x.hid a o l e n).2 z
    · exact fr_ne h0 e (lsd_nt l) z⟩⟩
theorem HR.addN (r : HR C μ H hp) (m : D ∉ μ) (h : H D = some o) {c : Cell} (hc : CellR C (μ ++ [D]) H D c) : HR C (μ ++ [D]) H (put hp μ.length c) := by
  refine ⟨?_, fun a m => ?_, fun n d e => ?_, r.tabs, r.xd.up0 ⟨fun n x e => by rw [List.getElem?_append_left (List.getElem?_eq_some_iff.mp e).1]; exact e, fun _ _ _ h => h⟩⟩
  · rw [List.nodup_append]
    refine ⟨r.nd, by simp, fun a ha b hb => ?_⟩
    rw [List.mem_singleton.mp hb]
    exact fun z => m (z ▸ ha)
  · rcases List.mem_append.mp m with m | m
    · exact r.lv a m
    · rw [List.mem_singleton.mp m]
      exact hc.nt
  · by_cases z : n = μ.length
    · subst z
      rw [put_same] at e
      cases e
      exact ⟨D, by simp, hc⟩
    · rw [put_ne z] at e
      obtain ⟨a, e1, e2⟩ := r.cell n d e
      have u : Up0 μ H (μ ++ [D]) H := ⟨fun n x e => by rw [List.getElem?_append_left (List.getElem?_eq_some_iff.mp e).1]; exact e, fun _ _ _ h => h⟩
      exact ⟨a, u.ad _ _ e1, e2.up0 u rfl⟩
theorem fE.numL {Q : VK} {ps : List PV} {vs : List V} (q : ∀ n, hp n = none → fE C μ H Q (.loc n) (put hp n (.lst ps))) (x : Up μ H μ' H') (h0 : Fr H D) (r : HR C μ' H' hp) (h : H' D = some (.lst vs)) (m : D ∉ μ') (rv : RVs C.K μ' H' ps vs) : Q (.ref D) H' := by
  have u : Up0 μ' H' (μ' ++ [D]) H' := ⟨fun n x e => by rw [List.getElem?_append_left (List.getElem?_eq_some_iff.mp e).1]; exact e, fun _ _ _ h => h⟩
  refine q μ'.length (r.nomore (Nat.le_refl _)) (μ' ++ [D]) H' (.ref D) (x.addN h0) (r.addN m h ⟨vs, h, RVs.up0 u _ _ rv⟩) ?_
  simp only [RV]
  exact ⟨D, rfl, by simp⟩
end
end RF

set_option Elab.async false
set_option linter.all false
set_option maxRecDepth 100000
set_option maxHeartbeats 400000
/-! Part 7: comprehensions, their judgements. -/
namespace RF
open PySem PySem.Spec L2

abbrev eNo : EI := fun _ _ _ => False
abbrev E0 : XK := fun _ _ _ => False
theorem eok0 {C : Cfg} {μ : List Addr} {H : Hp} : EOK C E0 eNo μ H := fun _ _ _ _ _ _ _ _ _ _ _ h => h
structure RTs (X : Cx) (C : Cfg) (E : XK) (x : List Expr) (w : WT) : Prop where
  mo : MoT w
  pts : PTs X x (tT C E w)
theorem PTs.imp {X : Cx} {x : List Expr} {t t' : TT} (h : PTs X x t) (i : ∀ σ H Q, t' σ H Q → t σ H Q) : PTs X x t' := ⟨fun pins s σ H Q I q => h.run pins s σ H Q I (i σ H Q q)⟩
def wYes : WT := fun _ hp _ Q => Q true hp
section
variable {X : Cx} {C : Cfg} {E : XK}
theorem rts_nil : RTs X C E [] wYes := ⟨fun _ _ _ _ _ i q => i _ _ q, PTs.imp pts_nil fun σ H Q ⟨μ, hp, σI, e, A, s, q⟩ => fT.here q A.hr⟩
theorem rts_one {c : Expr} {w : WT} (h : RT X C E c w) : RTs X C E [c] w := ⟨h.mo, pts_one h.pt⟩
end
def compW (tg : Tg) (tt : WT) (el : WE) (σ : SI) : List PV → List PV → PH → (List PV → PH → Prop) → Prop
  | [], acc, hp, Q => Q acc hp
  | p :: ps, acc, hp, Q => ∃ σ', tg.go p σ = some σ' ∧ tt σ' hp eNo fun b h => if b = true then el σ' h eNo fun y h2 => acc.length < sizeLine ∧ compW tg tt el σ ps (acc ++ [y]) h2 Q else compW tg tt el σ ps acc h Q
theorem compW.mo {tg : Tg} {tt : WT} {el : WE} {σ : SI} (mt : MoT tt) (me : MoE el) {Q Q' : List PV → PH → Prop} (i : ∀ p h, Q p h → Q' p h) : ∀ (ps acc : List PV) (hp : PH), compW tg tt el σ ps acc hp Q → compW tg tt el σ ps acc hp Q'
  | [], acc, hp, q => i _ _ q
  | p :: ps, acc, hp, ⟨σ', e, q⟩ => ⟨σ', e, mt _ _ _ _ _ (fun b h q => ite_mono (me _ _ _ _ _ fun y h2 ⟨l, q⟩ => ⟨l, compW.mo mt me i ps _ h2 q⟩) (compW.mo mt me i ps acc h) q) q⟩
def wLc (tg : Tg) (vs : List Nat) (it : WA) (tt : WT) (el : WE) : WE := fun σ hp e Q => it σ hp e fun ps h => compW tg tt el (wpI σ vs) ps [] h fun qs h2 => Q (.lst qs) h2
def wLcM (tg : Tg) (vs : List Nat) (it : WA) (tt : WT) (el : WE) : WE := fun σ hp e Q => it σ hp e fun ps h => compW tg tt el (wpI σ vs) ps [] h fun qs h2 => ∀ n, h2 n = none → Q (.loc n) (put h2 n (.lst qs))

section
variable {X : Cx} {C : Cfg} {E : XK} {tg : Tg} {vs : List Nat} {it : WA} {tt : WT} {el : WE} {σ : St} {H : Hp} {Q : VK}
/-- the walk of a list block: what is wanted of the new list at D -/
theorem lc_go (mi : MoA it) (mt : MoT tt) (me : MoE el) (hv : ∀ i ∈ tg.ix, i ∈ vs) {R : List PV → PH → Prop} {μ : List Addr} {hp : PH} {σI : SI} {e : EI} (A : At C E μ H hp e) (s : SR C μ H σI σ) (q : it σI hp e fun ps h => compW tg tt el (wpI σI vs) ps [] h R)
    (fin : ∀ qs h2 μ2 H2 D ys, R qs h2 → Up μ H μ2 H2 → HR C μ2 H2 h2 → Fr H D → H2 D = some (.lst ys) → D ∉ μ2 → RVs C.K μ2 H2 qs ys → Q (.ref D) H2) :
    tLc (tI C E it) (tg.g C.K) (tT C E0 tt) (tE C E0 el) vs σ H Q := by
  refine ⟨μ, hp, σI, e, A, s, mi _ _ _ _ _ (fun ps h1 q1 μ1 H1 u1 r1 J W => ?_) q⟩
  intro D hD
  have hD0 : Fr H D := u1.fr (fr_none hD)
  have uD : Up μ1 H1 μ1 (upd H1 D (.lst [])) := Up.fresh hD
  refine ⟨fun i m H2 => m = ps.length - i ∧ i ≤ ps.length ∧ ∃ μ2 hp2 acc ys, Up μ1 H1 μ2 H2 ∧ HR C μ2 H2 hp2 ∧ D ∉ μ2 ∧ H2 D = some (.lst ys) ∧ RVs C.K μ2 H2 acc ys ∧ compW tg tt el (wpI σI vs) (ps.drop i) acc hp2 R,
    ⟨_, rfl, Nat.zero_le _, μ1, h1, [], [], uD, r1.fresh hD, r1.notin hD, upd_same, .nil, q1⟩, ?_⟩
  rintro i m H2 ⟨em, hi, μ2, hp2, acc, ys, u2, r2, nD, eD, rv, q2⟩
  by_cases hl : i < ps.length
  · rw [List.drop_eq_getElem_cons hl] at q2
    obtain ⟨σ', e3, q3⟩ := q2
    refine .inr ⟨W.go μ2 H2 i u2 hl, fun H' => ∃ m', m' < m ∧ m' = ps.length - (i + 1) ∧ i + 1 ≤ ps.length ∧ ∃ μ2 hp2 acc ys, Up μ1 H1 μ2 H' ∧ HR C μ2 H' hp2 ∧ D ∉ μ2 ∧ H' D = some (.lst ys) ∧ RVs C.K μ2 H' acc ys ∧ compW tg tt el (wpI σI vs) (ps.drop (i + 1)) acc hp2 R,
      fun H' z => z, fun x H' y => ?_⟩
    obtain ⟨rx, u3, keep⟩ := W.yl μ2 H2 i x H' _ u2 (List.getElem?_eq_getElem hl) y
    have sI := (((s.up u1).up u2).up u3).wipe vs
    refine Tg.okB rx sI e3 fun σ4 s4 l4 n4 => ⟨?_, ?_⟩
    · rw [← wipe2 (σ := σ) (vs := vs)]
      exact wipe_eq l4 fun j m => n4 j fun z => m (hv j z)
    · refine tT.go mt ⟨keep _ r2, eok0⟩ s4 q3 fun b h5 μ5 H5 q5 u5 A5 s5 => ?_
      have u25 := u3.trans u5
      obtain ⟨eD5, nD5⟩ := u25.notin eD rfl nD
      refine ite_mono (fun q5 => ?_) (fun q5 => ?_) q5
      · refine tE.go me A5 s5 q5 fun y h6 μ6 H6 v ⟨l6, q6⟩ u6 A6 s6 r6 => ?_
        obtain ⟨eD6, nD6⟩ := u6.notin eD5 rfl nD5
        have rv6 := RVs.up (u25.trans u6) _ _ rv
        refine ⟨ys, eD6, by rw [rv6.length]; exact l6, ?_⟩
        refine ⟨_, (by omega : ps.length - (i + 1) < m), rfl, hl, μ6, h6, acc ++ [y], ys ++ [v], ((u2.trans u25).trans u6).wrN (fr_none hD) eD6 rfl nD6, A6.hr.wrN eD6 rfl nD6, nD6, upd_same, RVs.up0 (Up0.wrN eD6 rfl) _ _ (rv6.append (.cons r6 .nil)), q6⟩
      · exact ⟨_, (by omega : ps.length - (i + 1) < m), rfl, hl, μ5, h5, acc, ys, u2.trans u25, A5.hr, nD5, eD5, RVs.up u25 _ _ rv, q5⟩
  · have e1 : ps.drop i = [] := List.drop_of_length_le (by omega)
    rw [e1] at q2
    exact .inl ⟨W.st μ2 H2 i u2 (by omega), fin acc hp2 μ2 H2 D ys q2 (u1.trans u2) r2 hD0 eD nD rv⟩
end
section
variable {X : Cx} {C : Cfg} {E : XK} {tge iter elt : Expr} {ifs : List Expr} {scope : Scope} {own : List (Str × Nat)} {tg : Tg} {it : WA} {tt : WT} {el : WE} {pos : Pos}
theorem re_lc (hK : X.K = C.K) (hc : X.calm = true) (hN : X.N.Nodup) (hi : RI X C E tge iter it) (ok : blkC X.N X.env.scope scope own = true) (hv : ∀ i ∈ tg.ix, i ∈ own.map (·.2))
    (hg : ∀ s H Ca cl fp, TgIs (X.blk s H scope (compEnvC scope cl Ca X.env) fp) tge tg) (ht : ∀ s H Ca cl fp, RTs (X.blk s H scope (compEnvC scope cl Ca X.env) fp) C E0 ifs tt)
    (he : ∀ s H Ca cl fp, RE (X.blk s H scope (compEnvC scope cl Ca X.env) fp) C E0 elt el) (hs : ∀ x, foldedSetIterable iter X.env x = pure x) : RE X C E (.ListComp elt [⟨tge, iter, ifs, 0⟩] scope pos) (wLc tg (own.map (·.2)) it tt el) := by
  have mt : MoT tt := (ht X.s_0 X.H_0 0 [] []).mo
  have me : MoE el := (he X.s_0 X.H_0 0 [] []).mo
  refine ⟨fun σ hp e Q Q' i q => hi.mo _ _ _ _ _ (fun ps h q => compW.mo mt me (fun _ _ q => i _ _ q) _ _ _ q) q,
    PE.imp (PE.fz (pe_lc (g := tg.g X.K) hc hN hi.pi (blkOk_by ok) (fun s H Ca cl fp => TgIs.pg (X := X.blk s H scope (compEnvC scope cl Ca X.env) fp) hc hN (hg s H Ca cl fp)) (fun s H Ca cl fp => (ht s H Ca cl fp).pts) (fun s H Ca cl fp => (he s H Ca cl fp).pe) hs)) fun σ H Q ⟨μ, hp, σI, e, A, s, q⟩ => ?_⟩
  show tLc _ (tg.g X.K) _ _ _ _ _ _
  rw [hK]
  exact lc_go hi.mo mt me hv A s q fun qs h2 μ2 H2 D ys q2 u2 r2 h0 eD nD rv => q2.lockL u2 h0 r2 eD nD rv
theorem re_lcM (hK : X.K = C.K) (hc : X.calm = true) (hN : X.N.Nodup) (hi : RI X C E tge iter it) (ok : blkC X.N X.env.scope scope own = true) (hv : ∀ i ∈ tg.ix, i ∈ own.map (·.2))
    (hg : ∀ s H Ca cl fp, TgIs (X.blk s H scope (compEnvC scope cl Ca X.env) fp) tge tg) (ht : ∀ s H Ca cl fp, RTs (X.blk s H scope (compEnvC scope cl Ca X.env) fp) C E0 ifs tt)
    (he : ∀ s H Ca cl fp, RE (X.blk s H scope (compEnvC scope cl Ca X.env) fp) C E0 elt el) (hs : ∀ x, foldedSetIterable iter X.env x = pure x) : RE X C E (.ListComp elt [⟨tge, iter, ifs, 0⟩] scope pos) (wLcM tg (own.map (·.2)) it tt el) := by
  have mt : MoT tt := (ht X.s_0 X.H_0 0 [] []).mo
  have me : MoE el := (he X.s_0 X.H_0 0 [] []).mo
  refine ⟨fun σ hp e Q Q' i q => hi.mo _ _ _ _ _ (fun ps h q => compW.mo mt me (fun _ _ q n hn => i _ _ (q n hn)) _ _ _ q) q,
    PE.imp (pe_lc (g := tg.g X.K) hc hN hi.pi (blkOk_by ok) (fun s H Ca cl fp => TgIs.pg (X := X.blk s H scope (compEnvC scope cl Ca X.env) fp) hc hN (hg s H Ca cl fp)) (fun s H Ca cl fp => (ht s H Ca cl fp).pts) (fun s H Ca cl fp => (he s H Ca cl fp).pe) hs) fun σ H Q ⟨μ, hp, σI, e, A, s, q⟩ => ?_⟩
  show tLc _ (tg.g X.K) _ _ _ _ _ _
  rw [hK]
  exact lc_go hi.mo mt me hv A s q fun qs h2 μ2 H2 D ys q2 u2 r2 h0 eD nD rv => fE.numL q2 u2 h0 r2 eD nD rv
end
end RF

set_option Elab.async false
set_option linter.all false
set_option maxRecDepth 100000
set_option maxHeartbeats 400000
/-! Part G1: promises of defs that are called with no repr under way, so that a repr in them is exact. -/
namespace RF
open PySem PySem.Spec L2
open PyProof.Rows (envOfC)

/-- nothing is being shown -/
abbrev Calm (A : Around) : Prop := A.guards = some []
structure FnG (P : Program) (w : World) (K : PySem.W.Frag) (mg : Str → Option Value) (base : Heap) (k : Nat) (f : Addr) (fd : FuncData) (ps : List Str) (sp : Sp) : Prop where
  few : ∀ vs H Q E, sp vs H Q E → vs.length = ps.length
  go : ∀ (A : Around) (out : List Env) (s : Shared) (H : Hp) (args : Args) (us : List Value) (vs : List V) (Q : VK) (E : XK), Calm A → Room k A → Env0 P w K mg base A out s H →
    BindsTo s fd args (ps.zip us) → Vals vs us → sp vs H Q E →
    codeAny (model P w) A (.call (.ref f) args) (CR (L2.CX P w) out P w H s Q E) s
section
variable {P : Program} {w : World} {K : PySem.W.Frag} {mg : Str → Option Value} {base : Heap} {k : Nat} {f : Addr} {fd : FuncData} {ps : List Str} {sp : Sp}
theorem FnG.more {j : Nat} (F : FnG P w K mg base j f fd ps sp) (h : j ≤ k) : FnG P w K mg base k f fd ps sp :=
  ⟨F.few, fun A out s H args us vs Q E g room => F.go A out s H args us vs Q E g (room.mono h)⟩
/-- the rule for a def's body -/
theorem fnG {x qual : Str} {params : Arguments} {body : List Stmt} {scope : Scope} {dvs : List V} {kws : List (Str × V)} {N : List Str} (F : FunD K x qual params body scope dvs kws f fd) (S : FnScope N ps scope)
    (few : ∀ vs H Q E, sp vs H Q E → vs.length = ps.length)
    (hb : ∀ (cdv : Value) (A : Around) (out : List Env) (s : Shared) (H : Hp) (vs : List V) (Q : VK) (E : XK), Calm A → Room k (A.deeper (envOfC qual scope s.heap.objs.size f cdv)) → sp vs H Q E →
      ∃ t, PSs (cxOf (L2.CX P w) P w K mg base N qual scope f cdv A out s H E) body t ∧
        t { nx := fun _ H' => Q .non H', rt := Q } (start N vs) H) :
    FnG P w K mg base (k + 1) f fd ps sp := by
  obtain ⟨oc, od, dV, kV, doc, pm, an, cdv, ct, osl, rfl, look, code, _, _⟩ := F.ex
  refine ⟨few, fun A out s H args us vs Q E g room e0 bind rel h => ?_⟩
  exact LamX.run_ofS look code S room e0 bind rel (few _ _ _ _ h) fun room' => hb cdv A out s H vs Q E g room' h
end
section
variable {X : Cx} {k : Nat} {f : Addr} {fd : FuncData} {ps : List Str} {sp : Sp} {E : XK}
theorem FnG.call {pins : List (Addr × Obj)} {σ : St} {H : Hp} {s : Shared} {Q : VK} {args : Args} {us : List Value} {vs : List V} (F : FnG X.prog X.w X.K X.mg X.base k f fd ps sp) (hg : Calm X.A) (room : Room k X.A) (tk : Takes X (fun cls d _ H => E cls d H))
    (I : Inv X pins σ H s) (bind : BindsTo s fd args (ps.zip us)) (rel : Vals vs us) (h : sp vs H Q E) :
    codeAny (model X.prog X.w) X.A (.call (.ref f) args) (fun r s' => match r with | .ok (.ret u) => EP X pins σ Q u s' | .ok _ => False | .error e => X.xe e s') s := by
  refine codeAny_mono (F.go X.A X.stack s H args us vs Q E hg room I.env0 bind rel h) ?_
  intro r s' z
  match r, z with
  | .error e, z => exact passes_call tk (fun _ _ _ _ q => q) pins σ H s e s' I z
  | .ok (.ret u), z => exact I.after z
theorem FnG.pe (F : FnG X.prog X.w X.K X.mg X.base k f fd ps sp) (hg : Calm X.A) (room : Room k X.A) (tk : Takes X (fun cls d _ H => E cls d H)) {nm : Str} {p pos : Pos} {x : Expr} {es : List Expr} {t : TA} (gl : Gl X nm) (hm : X.mg nm = some (.ref f))
    (hk : PySem.W.keepIn X.K (.ref f) = true) (hb : Binds X.K fd ps []) (ha : PA X (x :: es) t) (hdb : (nm == ("__debug__" : Str)) = false) (he : starEach (x :: es) X.env = (false, eval x X.env) :: starEach es X.env) (hpl : (backTo pos (starEach es X.env)).any (·.1) = false) :
    PE X (.Call (.Name nm p) (x :: es) [] pos) (fun σ H Q => t σ H fun vs H1 => sp vs H1 Q E) := by
  constructor
  intro pins s σ H Q I h
  apply wpAny_Call_Name_kw
  refine ld_glob I gl hm ?_ hdb
  refine PySem.W.callWith_K (h₀ := X.base) I.ok.mod.kin hk ?_ he hpl
  refine thn (ha.run pos pins s σ H _ I h) fun us s1 ⟨vs, H1, I1, rel, q⟩ => ⟨I1.kIn, ?_⟩
  have l : us.length = ps.length := by rw [← rel.length]; exact F.few _ _ _ _ q
  have b := hb s1 us I1.kIn (by rw [List.append_nil]; exact l)
  rw [List.append_nil] at b
  exact wpAny_call (F.call hg room tk I1 b rel q)
theorem FnG.pe0 (F : FnG X.prog X.w X.K X.mg X.base k f fd ps sp) (hg : Calm X.A) (room : Room k X.A) (tk : Takes X (fun cls d _ H => E cls d H)) {nm : Str} {p pos : Pos} (gl : Gl X nm) (hm : X.mg nm = some (.ref f))
    (hk : PySem.W.keepIn X.K (.ref f) = true) (hb : Binds X.K fd ps []) (hdb : (nm == ("__debug__" : Str)) = false) :
    PE X (.Call (.Name nm p) [] [] pos) (fun σ H Q => sp [] H Q E) := by
  constructor
  intro pins s σ H Q I h
  apply wpAny_Call_Name_kw
  refine ld_glob I gl hm ?_ hdb
  have b := hb s [] I.kIn (by rw [List.append_nil, ← F.few _ _ _ _ h]; rfl)
  exact PySem.W.callWith_K0 I.kIn hk (wpAny_call (F.call hg room tk I b .nil h))
end

/-! ### a def by its meaning -/
section
variable {X : Cx} {C : Cfg} {E : XK} {es : List Expr} {x : Expr} {w : WA} {f : WF} {pos p : Pos} {n k : Nat} {fa : Addr} {fd : FuncData} {ps : List Str} {nm : Str}
/-- arguments, their number counted -/
def wArgs (n : Nat) (w : WA) : WA := fun σ hp e Q => w σ hp e fun ps h => ps.length = n ∧ Q ps h
theorem re_callG (F : FnG X.prog X.w X.K X.mg X.base k fa fd ps (spI C n f)) (mf : MoF f) (hG : Calm X.A) (room : Room k X.A) (tk : Takes X (fun cls d _ H => E cls d H)) (gl : Gl X nm) (hm : X.mg nm = some (.ref fa)) (hk : PySem.W.keepIn X.K (.ref fa) = true) (hb : Binds X.K fd ps [])
    (ha : RA X C E (x :: es) w) (hdb : (nm == ("__debug__" : Str)) = false) (he : starEach (x :: es) X.env = (false, eval x X.env) :: starEach es X.env) (hpl : (backTo pos (starEach es X.env)).any (·.1) = false) :
    RE X C E (.Call (.Name nm p) (x :: es) [] pos) (wCall f (wArgs n w)) := by
  refine ⟨fun σ hp e Q Q' h q => ha.mo _ _ _ _ _ (fun ps h1 ⟨l, q1⟩ => ⟨l, mf _ _ _ _ _ h q1⟩) q, PE.imp (F.pe hG room tk gl hm hk hb ha.pa hdb he hpl) fun σ H Q ⟨μ, hp, σI, e, A, s, q⟩ => ?_⟩
  refine tA.go ha.mo A s q fun ps h1 μ1 H1 vs ⟨l, q1⟩ u1 A1 s1 r1 => ?_
  exact ⟨by rw [r1.length, l], μ1, h1, ps, e, A1, r1, mf _ _ _ _ _ (fun p h q => fE.up q u1) q1⟩
theorem re_callG0 (F : FnG X.prog X.w X.K X.mg X.base k fa fd ps (spI C 0 f)) (mf : MoF f) (hG : Calm X.A) (room : Room k X.A) (tk : Takes X (fun cls d _ H => E cls d H)) (gl : Gl X nm) (hm : X.mg nm = some (.ref fa)) (hk : PySem.W.keepIn X.K (.ref fa) = true) (hb : Binds X.K fd ps [])
    (hdb : (nm == ("__debug__" : Str)) = false) : RE X C E (.Call (.Name nm p) [] [] pos) (wCall f wNil) :=
  ⟨fun σ hp e Q Q' h q => mf _ _ _ _ _ h q, PE.imp (F.pe0 hG room tk gl hm hk hb hdb) fun σ H Q ⟨μ, hp, σI, e, A, s, q⟩ => ⟨rfl, μ, hp, [], e, A, .nil, q⟩⟩
/-- a def's meaning from its body's: at the end things may be forgotten -/
def leP (h h' : PH) : Prop := ∀ n c, h n = some c → h' n = some c
def wFun (N : Nat) (w : WS) : WF := fun ps hp e Q => w (ps.map some ++ List.replicate (N - ps.length) none) hp e { nx := fun _ h => ∃ h', leP h' h ∧ Q .non h', rt := fun p h => ∃ h', leP h' h ∧ Q p h' }
theorem MoS.fn {N : Nat} {w : WS} (h : MoS w) : MoF (wFun N w) := fun ps hp e Q Q' i q => h.at q ⟨fun _ h ⟨h', l, q⟩ => ⟨h', l, i _ _ q⟩, fun _ h ⟨h', l, q⟩ => ⟨h', l, i _ _ q⟩, fun _ _ q => q, fun _ _ q => q⟩
end
theorem sr_start {C : Cfg} {μ : List Addr} {H : Hp} {N : Nat} {qs : List PV} {vs : List V} (r : RVs C.K μ H qs vs) : SR C μ H (qs.map some ++ List.replicate (N - qs.length) none) (vs.map some ++ List.replicate (N - vs.length) none) := by
  refine ⟨by simp [r.length], fun i p e => ?_⟩
  by_cases hi : i < qs.length
  · rw [List.getElem?_append_left (by simpa using hi), List.getElem?_map] at e
    obtain ⟨z, e1, e2⟩ := Option.map_eq_some_iff.mp e
    cases e2
    obtain ⟨v, e3, e4⟩ := r.get e1
    exact ⟨v, by rw [List.getElem?_append_left (by rw [List.length_map, r.length]; exact hi), List.getElem?_map, e3]; rfl, e4⟩
  · rw [List.getElem?_append_right (by simpa using hi), List.getElem?_replicate] at e
    split at e <;> cases e
theorem fE.less {C : Cfg} {μ : List Addr} {H : Hp} {Q : VK} {p : PV} {h : PH} (q : ∃ h', leP h' h ∧ fE C μ H Q p h') : fE C μ H Q p h := fun μ' H' v u r rv => by
  obtain ⟨h', l, q⟩ := q
  exact q μ' H' v u (r.less l) rv
section
variable {P : Program} {w : World} {C : Cfg} {mg : Str → Option Value} {base : Heap} {k n : Nat} {f : Addr} {fd : FuncData} {ps : List Str}
theorem fnR {x qual : Str} {params : Arguments} {body : List Stmt} {scope : Scope} {dvs : List V} {kws : List (Str × V)} {N : List Str} {ws : WS} (F : FunD C.K x qual params body scope dvs kws f fd) (S : FnScope N ps scope) (hn : ps.length = n)
    (hb : ∀ (cdv : Value) (A : Around) (out : List Env) (s : Shared) (H : Hp) (E : XK), Calm (A.deeper (envOfC qual scope s.heap.objs.size f cdv)) → Room k (A.deeper (envOfC qual scope s.heap.objs.size f cdv)) →
      RSs (cxOf (L2.CX P w) P w C.K mg base N qual scope f cdv A out s H E) C E body ws) :
    FnG P w C.K mg base (k + 1) f fd ps (spI C n (wFun N.length ws)) := by
  refine fnG F S (fun vs H Q E h => by rw [h.1, hn]) fun cdv A out s H vs Q E g room ⟨hl, μ, hp, qs, e, a, rv, q⟩ => ?_
  have R := hb cdv A out s H E g room
  refine ⟨_, R.ps, ?_⟩
  refine tS.go R.mo a (sr_start rv) q ⟨fun _ h q => ?_, fun _ h q => fE.less q, fun _ _ q => q.elim, fun _ _ q => q.elim⟩
  exact fun μ' H' σ u r s => fE.less q μ' H' .non u r .non'
theorem FnG.weak {f1 f2 : WF} (F : FnG P w C.K mg base k f fd ps (spI C n f1)) (h : ∀ qs hp e Q, f2 qs hp e Q → f1 qs hp e Q) : FnG P w C.K mg base k f fd ps (spI C n f2) :=
  have i : ∀ vs H Q E, spI C n f2 vs H Q E → spI C n f1 vs H Q E := fun _ _ _ _ ⟨l, μ, hp, qs, e, a, r, q⟩ => ⟨l, μ, hp, qs, e, a, r, h _ _ _ _ q⟩
  ⟨fun vs H Q E q => F.few vs H Q E (i _ _ _ _ q), fun A out s H args us vs Q E g room e0 b r q => F.go A out s H args us vs Q E g room e0 b r (i _ _ _ _ q)⟩
end
end RF

set_option Elab.async false
set_option linter.all false
set_option maxRecDepth 100000
set_option maxHeartbeats 400000
/-! Part 8: built-in functions and methods by values. -/
namespace RF
open PySem PySem.Spec L2

abbrev GA := List PV → PH → KI → Prop
structure LFn (C : Cfg) (r : List V → Hp → VK → Prop) (g : GA) : Prop where
  mo : ∀ ps hp Q Q', (∀ z h, Q z h → Q' z h) → g ps hp Q → g ps hp Q'
  ok : ∀ μ H hp ps vs Q, HR C μ H hp → RVs C.K μ H ps vs → g ps hp (fE C μ H Q) → r vs H (FzK Q)
def wFn (g : GA) (a : WA) : WE := fun σ hp e Q => a σ hp e fun ps h => g ps h Q
section
variable {X : Cx} {C : Cfg} {E : XK} {x : Expr} {es : List Expr} {w : WA} {g : GA} {r : List V → Hp → VK → Prop} {nm : Str} {p pos : Pos} {id : String}
theorem fn_mo (L : LFn C r g) (h : MoA w) : MoE (wFn g w) := fun σ hp e Q Q' i q => h _ _ _ _ _ (fun ps h q => L.mo _ _ _ _ i q) q
theorem fn_go (L : LFn C r g) (h : MoA w) {σ : St} {H : Hp} {Q : VK} : tE C E (wFn g w) σ H Q → tA C E w σ H fun vs H1 => r vs H1 (FzK Q) := fun ⟨μ, hp, σI, e, A, s, q⟩ =>
  tA.go h A s q fun ps h1 μ1 H1 vs q1 u1 A1 s1 r1 => L.ok μ1 H1 h1 ps vs Q A1.hr r1 (L.mo _ _ _ _ (fun z h q => q.up u1) q1)
theorem re_fn (L : LFn C r g) (hc : CallR X (.builtin id) r) (gl : Gl X nm) (hm : X.mg nm = none) (hv : bootBuiltins nm = some (.builtin id)) (ha : RA X C E (x :: es) w) (hn : nm ≠ "__name__") (hdb : (nm == ("__debug__" : Str)) = false)
    (he : starEach (x :: es) X.env = (false, eval x X.env) :: starEach es X.env) (hpl : (backTo pos (starEach es X.env)).any (·.1) = false) : RE X C E (.Call (.Name nm p) (x :: es) [] pos) (wFn g w) :=
  ⟨fn_mo L ha.mo, PE.imp (PE.fz (pe_callB hc gl hm hv ha.pa hn hdb he hpl)) fun σ H Q h => fn_go L ha.mo h⟩
theorem re_ty (L : LFn C r g) (hc : CallR X (.type id) r) (gl : Gl X nm) (hm : X.mg nm = none) (hv : bootBuiltins nm = some (.type id)) (ha : RA X C E (x :: es) w) (hn : nm ≠ "__name__") (hdb : (nm == ("__debug__" : Str)) = false)
    (he : starEach (x :: es) X.env = (false, eval x X.env) :: starEach es X.env) (hpl : (backTo pos (starEach es X.env)).any (·.1) = false) : RE X C E (.Call (.Name nm p) (x :: es) [] pos) (wFn g w) :=
  ⟨fn_mo L ha.mo, PE.imp (PE.fz (pe_callTy hc gl hm hv ha.pa hn hdb he hpl)) fun σ H Q h => fn_go L ha.mo h⟩
end
theorem RVs.one {K : PySem.W.Frag} {μ : List Addr} {H : Hp} {p : PV} {vs : List V} (r : RVs K μ H [p] vs) : ∃ v, vs = [v] ∧ RV K μ H p v := by
  simp only [RVs] at r
  obtain ⟨v, ws, rfl, r1, rfl⟩ := r
  exact ⟨v, rfl, r1⟩
theorem RVs.two {K : PySem.W.Frag} {μ : List Addr} {H : Hp} {p q : PV} {vs : List V} (r : RVs K μ H [p, q] vs) : ∃ v u, vs = [v, u] ∧ RV K μ H p v ∧ RV K μ H q u := by
  simp only [RVs] at r
  obtain ⟨v, ws, rfl, r1, u, zs, rfl, r2, rfl⟩ := r
  exact ⟨v, u, rfl, r1, r2⟩
/-- a rule of one value -/
def gF1 (f : PV → PH → PV → Prop) : GA := fun ps hp Q => ∃ p q, ps = [p] ∧ f p hp q ∧ Q q hp
theorem gF1.mo {f : PV → PH → PV → Prop} : ∀ ps hp (Q Q' : KI), (∀ z h, Q z h → Q' z h) → gF1 f ps hp Q → gF1 f ps hp Q' := fun _ _ _ _ i ⟨p, q, e, h, z⟩ => ⟨p, q, e, h, i _ _ z⟩
def gF2 (f : PV → PV → PH → PV → Prop) : GA := fun ps hp Q => ∃ p1 p2 q, ps = [p1, p2] ∧ f p1 p2 hp q ∧ Q q hp
theorem gF2.mo {f : PV → PV → PH → PV → Prop} : ∀ ps hp (Q Q' : KI), (∀ z h, Q z h → Q' z h) → gF2 f ps hp Q → gF2 f ps hp Q' := fun _ _ _ _ i ⟨p, p2, q, e, h, z⟩ => ⟨p, p2, q, e, h, i _ _ z⟩

/-! ### len, int, str, ord, chr, abs, max, min -/
def lenP (hp : PH) : PV → Option Nat
  | .str s => if s.length ≤ sizeLine then some s.length else none
  | .tup ps => some ps.length
  | p => (asL hp p).map (·.length)
def gLen : GA := gF1 fun p hp q => ∃ n : Nat, lenP hp p = some n ∧ q = .int n
def gInt : GA := gF1 fun p _ q => match p with
  | .int i => q = .int i
  | .bl k => q = .int (if k then 1 else 0)
  | .str a => ∃ n, PySem.intText? a = some n ∧ a.length ≤ 640 ∧ q = .int n
  | _ => False
def gStr : GA := gF1 fun p _ q => match p with
  | .int i => i.natAbs.log2 < 1920 ∧ q = .str (toString i)
  | .str a => q = .str a
  | _ => False
def gOrd : GA := gF1 fun p _ q => ∃ x : Str, p = .str x ∧ x.length = 1 ∧ q = .int (x.cps.getD 0 0 : Nat)
def gChr : GA := gF1 fun p _ q => ∃ i : Int, p = .int i ∧ 0 ≤ i ∧ i ≤ 1114111 ∧ q = .str ⟨#[i.toNat]⟩
def gAbs : GA := gF1 fun p _ q => ∃ i : Int, p = .int i ∧ q = .int (if i < 0 then -i else i)
def gMax : GA := gF2 fun a b _ q => ∃ i j, a = .int i ∧ b = .int j ∧ q = .int (if j > i then j else i)
def gMin : GA := gF2 fun a b _ q => ∃ i j, a = .int i ∧ b = .int j ∧ q = .int (if j < i then j else i)
def gAll : GA := gF1 fun p hp q => ∃ bs : List Bool, asL hp p = some (bs.map .bl) ∧ q = .bl (bs.all id)
def gAny : GA := gF1 fun p hp q => ∃ bs : List Bool, asL hp p = some (bs.map .bl) ∧ q = .bl (bs.any id)
/-- what a list or a tuple holds -/
def seqP (hp : PH) : PV → Option (List PV)
  | .tup ps => some ps
  | p => asL hp p
def gList : GA := gF1 fun p hp q => ∃ ps, seqP hp p = some ps ∧ q = .lst ps
def gListM : GA := fun ps hp Q => ∃ p qs, ps = [p] ∧ seqP hp p = some qs ∧ ∀ n, hp n = none → Q (.loc n) (put hp n (.lst qs))
def gTuple : GA := gF1 fun p hp q => ∃ ps, seqP hp p = some ps ∧ q = .tup ps
theorem CallR.or {X : Cx} {f : Value} {r r' : List V → Hp → VK → Prop} (h : CallR X f r) (h' : CallR X f r') : CallR X f (fun xs H Q => r xs H Q ∨ r' xs H Q) := by
  intro pins s σ H xs us Q I rx q
  rcases q with q | q
  · exact h pins s σ H xs us Q I rx q
  · exact h' pins s σ H xs us Q I rx q
section
variable {C : Cfg}
theorem lf_len : LFn C (fun xs H Q => ∃ x n, xs = [x] ∧ LenV C.K x H n ∧ Q (.int n) H) gLen := ⟨gF1.mo, fun μ H hp ps vs Q r rv ⟨p, q, e, ⟨n, hn, eq⟩, h⟩ => by
  subst e eq
  obtain ⟨v, rfl, r1⟩ := rv.one
  refine ⟨v, n, rfl, ?_, fzk (h μ H _ .refl r .int')⟩
  have seq : ∀ {p : PV}, RV C.K μ H p v → (asL hp p).map (·.length) = some n → LenV C.K v H n := by
    intro p rp e
    obtain ⟨ps, e1, e2⟩ := Option.map_eq_some_iff.mp e
    obtain ⟨a, ws, rfl, h2, h3⟩ := asL_sq r rp e1
    exact .inl ⟨ws, h2, by rw [h3.length]; exact_mod_cast e2.symm⟩
  cases p with
  | str s =>
    simp only [lenP] at hn
    split at hn
    · cases hn
      rw [r1.strI]
      exact ⟨by assumption, rfl⟩
    · cases hn
  | tup qs =>
    simp only [lenP, Option.some.injEq] at hn
    obtain ⟨a, ws, rfl, h2, h3⟩ := r1.tupI
    exact .inr ⟨ws, h2, by rw [h3.length]; exact_mod_cast hn.symm⟩
  | lst qs => exact seq r1 hn
  | loc m => exact seq r1 hn
  | _ => simp [lenP, asL] at hn⟩
theorem lf_int : LFn C (fun xs H Q => ((∃ i, xs = [.int i] ∧ Q (.int i) H) ∨ ∃ k, xs = [.bl k] ∧ Q (.int (if k then 1 else 0)) H) ∨ ∃ a n, xs = [.str a] ∧ PySem.intText? a = some n ∧ a.length ≤ 640 ∧ Q (.int n) H) gInt := ⟨gF1.mo, fun μ H hp ps vs Q r rv ⟨p, q, e, hq, h⟩ => by
  subst e
  obtain ⟨v, rfl, r1⟩ := rv.one
  cases p with
  | int i =>
    cases (show q = .int i from hq)
    exact .inl (.inl ⟨i, by rw [r1.intI], fzk (h μ H _ .refl r .int')⟩)
  | bl k =>
    cases (show q = .int (if k then 1 else 0) from hq)
    exact .inl (.inr ⟨k, by rw [r1.blI], fzk (h μ H _ .refl r .int')⟩)
  | str a =>
    obtain ⟨n, h1, h2, rfl⟩ := (show ∃ n, PySem.intText? a = some n ∧ a.length ≤ 640 ∧ q = .int n from hq)
    exact .inr ⟨a, n, by rw [r1.strI], h1, h2, fzk (h μ H _ .refl r .int')⟩
  | _ => exact False.elim hq⟩
theorem cr_int {X : Cx} : CallR X (.type "int") (fun xs H Q => ((∃ i, xs = [.int i] ∧ Q (.int i) H) ∨ ∃ k, xs = [.bl k] ∧ Q (.int (if k then 1 else 0)) H) ∨ ∃ a n, xs = [.str a] ∧ PySem.intText? a = some n ∧ a.length ≤ 640 ∧ Q (.int n) H) := call_int1.or call_int_str
theorem lf_str : LFn C (fun xs H Q => (∃ i : Int, xs = [.int i] ∧ i.natAbs.log2 < 1920 ∧ Q (.str (toString i)) H) ∨ ∃ a, xs = [.str a] ∧ Q (.str a) H) gStr := ⟨gF1.mo, fun μ H hp ps vs Q r rv ⟨p, q, e, hq, h⟩ => by
  subst e
  obtain ⟨v, rfl, r1⟩ := rv.one
  cases p with
  | int i =>
    obtain ⟨h1, rfl⟩ := (show i.natAbs.log2 < 1920 ∧ q = .str (toString i) from hq)
    exact .inl ⟨i, by rw [r1.intI], h1, fzk (h μ H _ .refl r .str')⟩
  | str a =>
    cases (show q = .str a from hq)
    exact .inr ⟨a, by rw [r1.strI], fzk (h μ H _ .refl r .str')⟩
  | _ => exact False.elim hq⟩
theorem cr_str {X : Cx} : CallR X (.type "str") (fun xs H Q => (∃ i : Int, xs = [.int i] ∧ i.natAbs.log2 < 1920 ∧ Q (.str (toString i)) H) ∨ ∃ a, xs = [.str a] ∧ Q (.str a) H) := call_str_int.or SkE.call_str_str
theorem lf_ord : LFn C (fun xs H Q => ∃ x, xs = [.str x] ∧ x.length = 1 ∧ Q (.int (x.cps.getD 0 0 : Nat)) H) gOrd := ⟨gF1.mo, fun μ H hp ps vs Q r rv ⟨p, q, e, ⟨x, e1, l, e2⟩, h⟩ => by
  subst e e1 e2
  obtain ⟨v, rfl, r1⟩ := rv.one
  exact ⟨x, by rw [r1.strI], l, fzk (h μ H _ .refl r .int')⟩⟩
theorem lf_chr : LFn C (fun xs H Q => ∃ i, xs = [.int i] ∧ 0 ≤ i ∧ i ≤ 1114111 ∧ Q (.str ⟨#[i.toNat]⟩) H) gChr := ⟨gF1.mo, fun μ H hp ps vs Q r rv ⟨p, q, e, ⟨x, e1, l, l2, e2⟩, h⟩ => by
  subst e e1 e2
  obtain ⟨v, rfl, r1⟩ := rv.one
  exact ⟨x, by rw [r1.intI], l, l2, fzk (h μ H _ .refl r .str')⟩⟩
theorem lf_abs : LFn C (fun xs H Q => ∃ i, xs = [.int i] ∧ Q (.int (if i < 0 then -i else i)) H) gAbs := ⟨gF1.mo, fun μ H hp ps vs Q r rv ⟨p, q, e, ⟨x, e1, e2⟩, h⟩ => by
  subst e e1 e2
  obtain ⟨v, rfl, r1⟩ := rv.one
  exact ⟨x, by rw [r1.intI], fzk (h μ H _ .refl r .int')⟩⟩
theorem lf_max : LFn C (fun xs H Q => ∃ i j, xs = [.int i, .int j] ∧ Q (.int (if j > i then j else i)) H) gMax := ⟨gF2.mo, fun μ H hp ps vs Q r rv ⟨p, p2, q, e, ⟨i, j, e1, e2, e3⟩, h⟩ => by
  subst e e1 e2 e3
  obtain ⟨v, u, rfl, r1, r2⟩ := rv.two
  exact ⟨i, j, by rw [r1.intI, r2.intI], fzk (h μ H _ .refl r .int')⟩⟩
theorem lf_min : LFn C (fun xs H Q => ∃ i j, xs = [.int i, .int j] ∧ Q (.int (if j < i then j else i)) H) gMin := ⟨gF2.mo, fun μ H hp ps vs Q r rv ⟨p, p2, q, e, ⟨i, j, e1, e2, e3⟩, h⟩ => by
  subst e e1 e2 e3
  obtain ⟨v, u, rfl, r1, r2⟩ := rv.two
  exact ⟨i, j, by rw [r1.intI, r2.intI], fzk (h μ H _ .refl r .int')⟩⟩
theorem lf_all : LFn C (rAll C.K) gAll := ⟨gF1.mo, fun μ H hp ps vs Q r rv ⟨p, q, e, ⟨bs, e1, e2⟩, h⟩ => by
  subst e e2
  obtain ⟨v, rfl, r1⟩ := rv.one
  obtain ⟨a, ws, rfl, h2, h3⟩ := asL_sq r r1 e1
  have z := RVs.map_eq (f := PV.bl) (g := V.bl) (fun x v r => r.blI) bs h3
  subst z
  exact ⟨a, bs, rfl, h2, fzk (h μ H _ .refl r .bl')⟩⟩
theorem lf_any : LFn C (rAny C.K) gAny := ⟨gF1.mo, fun μ H hp ps vs Q r rv ⟨p, q, e, ⟨bs, e1, e2⟩, h⟩ => by
  subst e e2
  obtain ⟨v, rfl, r1⟩ := rv.one
  obtain ⟨a, ws, rfl, h2, h3⟩ := asL_sq r r1 e1
  have z := RVs.map_eq (f := PV.bl) (g := V.bl) (fun x v r => r.blI) bs h3
  subst z
  exact ⟨a, bs, rfl, h2, fzk (h μ H _ .refl r .bl')⟩⟩
theorem seqP_at {μ : List Addr} {H : Hp} {hp : PH} (r : HR C μ H hp) {p : PV} {v : V} {ps : List PV} (rv : RV C.K μ H p v) (e : seqP hp p = some ps) : ∃ a vs, v = .ref a ∧ (SqL C.K H a vs ∨ SqT C.K H a vs) ∧ RVs C.K μ H ps vs := by
  have seq : ∀ {p : PV}, RV C.K μ H p v → asL hp p = some ps → ∃ a vs, v = .ref a ∧ (SqL C.K H a vs ∨ SqT C.K H a vs) ∧ RVs C.K μ H ps vs := by
    intro p rp e
    obtain ⟨a, vs, h1, h2, h3⟩ := asL_sq r rp e
    exact ⟨a, vs, h1, .inl h2, h3⟩
  cases p with
  | tup qs =>
    cases (show some qs = some ps from e)
    obtain ⟨a, vs, h1, h2, h3⟩ := rv.tupI
    exact ⟨a, vs, h1, .inr h2, h3⟩
  | _ => exact seq rv e
abbrev rLst (K : PySem.W.Frag) : List V → Hp → VK → Prop := fun xs H Q => ∃ p ys, xs = [.ref p] ∧ (SqL K H p ys ∨ SqT K H p ys) ∧ ∀ l, H l = none → Q (.ref l) (upd H l (.lst ys))
theorem lf_list : LFn C (rLst C.K) gList := ⟨gF1.mo, fun μ H hp ps vs Q r rv ⟨p, q, e, ⟨qs, e1, e2⟩, h⟩ => by
  subst e e2
  obtain ⟨v, rfl, r1⟩ := rv.one
  obtain ⟨a, ws, rfl, h2, h3⟩ := seqP_at r r1 e1
  exact ⟨a, ws, rfl, h2, fun l hl => h.newL r h3 hl⟩⟩
theorem lf_listM : LFn C (rLst C.K) gListM := ⟨fun ps hp Q Q' i ⟨p, qs, e1, e2, h⟩ => ⟨p, qs, e1, e2, fun n hn => i _ _ (h n hn)⟩, fun μ H hp ps vs Q r rv ⟨p, qs, e, e1, h⟩ => by
  subst e
  obtain ⟨v, rfl, r1⟩ := rv.one
  obtain ⟨a, ws, rfl, h2, h3⟩ := seqP_at r r1 e1
  exact ⟨a, ws, rfl, h2, fun l hl => fE.newM h r h3 hl⟩⟩
abbrev rTpl (K : PySem.W.Frag) : List V → Hp → VK → Prop := fun xs H Q => ∃ p ys, xs = [.ref p] ∧ ((SqL K H p ys ∧ ∀ l, H l = none → Q (.ref l) (upd H l (.tup ys))) ∨ (SqT K H p ys ∧ Q (.ref p) H))
theorem lf_tuple : LFn C (rTpl C.K) gTuple := ⟨gF1.mo, fun μ H hp ps vs Q r rv ⟨p, q, e, ⟨qs, e1, e2⟩, h⟩ => by
  subst e e2
  obtain ⟨v, rfl, r1⟩ := rv.one
  have h2 : ∀ {p : PV}, RV C.K μ H p v → asL hp p = some qs → rTpl C.K [v] H (FzK Q) := by
    intro p rp e
    obtain ⟨a, vs, rfl, h2, h3⟩ := asL_sq r rp e
    exact ⟨a, vs, rfl, .inl ⟨h2, fun l hl => fzk (h.newT r h3 hl)⟩⟩
  cases p with
  | tup zs =>
    cases (show some zs = some qs from e1)
    obtain ⟨a, vs, rfl, h2, h3⟩ := r1.tupI
    exact ⟨a, vs, rfl, .inr ⟨h2, fzk (h μ H _ .refl r r1)⟩⟩
  | _ => exact h2 r1 e1⟩
end

/-! ### methods -/
abbrev GM := PV → List PV → PH → KI → Prop
structure LMt (C : Cfg) (T : String) (r : V → List V → Hp → VK → Prop) (gt : PV → PH → Prop) (g : GM) : Prop where
  mo : ∀ p ps hp Q Q', (∀ z h, Q z h → Q' z h) → g p ps hp Q → g p ps hp Q'
  ty : ∀ μ H hp p v, HR C μ H hp → RV C.K μ H p v → gt p hp → tyV C.K T v H
  ok : ∀ μ H hp p v ps vs Q, HR C μ H hp → RV C.K μ H p v → RVs C.K μ H ps vs → g p ps hp (fE C μ H Q) → r v vs H (FzK Q)
def wMt (gt : PV → PH → Prop) (g : GM) (a : WE) (w : WA) : WE := fun σ hp e Q => a σ hp e fun p h => gt p h ∧ w σ h e fun ps h2 => g p ps h2 Q
section
variable {X : Cx} {C : Cfg} {E : XK} {o x : Expr} {es : List Expr} {wa : WE} {w : WA} {g : GM} {gt : PV → PH → Prop} {r : V → List V → Hp → VK → Prop} {name : Str} {apos cpos : Pos} {id T : String}
theorem re_mt (hK : X.K = C.K) (L : LMt C T r gt g) (pa : PlainAttrs T) (slot : Slot T name id) (hty : typeOf (.builtin id) = pure (.type "method_descriptor")) (hm : MtR X id r) (ho : RE X C E o wa) (ha : RA X C E (x :: es) w)
    (hbase : attributeBase o name X.env (eval o X.env) = eval o X.env)
    (hfew : ((backTo cpos (starEach (x :: es) X.env)).all (fun x => !x.1) && (backToKw cpos (keywordEach [] X.env)).all (fun x => x.1.isSome)
      && decide ((x :: es).length + ([] : List Keyword).length + (if ([] : List Keyword).isEmpty then 0 else 1) < 30)) = true)
    (hline : (apos.endLine == cpos.line) = true) (hs : starEach (x :: es) X.env = (false, eval x X.env) :: starEach es X.env) (hplain : (backTo cpos (starEach es X.env)).any (·.1) = false) :
    RE X C E (.Call (.Attribute o name apos) (x :: es) [] cpos) (wMt gt g wa w) := by
  refine ⟨fun σ hp e Q Q' i q => ho.mo _ _ _ _ _ (fun p h ⟨t, q⟩ => ⟨t, ha.mo _ _ _ _ _ (fun ps h q => L.mo _ _ _ _ _ i q) q⟩) q, PE.imp (PE.fz (pe_bm pa slot hty hm ho.pe ha.pa hbase hfew hline hs hplain)) fun σ H Q ⟨μ, hp, σI, e, A, s, q⟩ => ?_⟩
  refine tE.go ho.mo A s q fun p h1 μ1 H1 v ⟨t, q1⟩ u1 A1 s1 r1 => ⟨by rw [hK]; exact L.ty μ1 H1 h1 p v A1.hr r1 t, ?_⟩
  refine tA.go ha.mo A1 s1 q1 fun ps h2 μ2 H2 vs q2 u2 A2 s2 r2 => ?_
  exact L.ok μ2 H2 h2 p v ps vs Q A2.hr (RV.up u2 _ _ r1) r2 (L.mo _ _ _ _ _ (fun z h q => q.up (u1.trans u2)) q2)
theorem re_mt0 (hK : X.K = C.K) (L : LMt C T r gt g) (pa : PlainAttrs T) (slot : Slot T name id) (hty : typeOf (.builtin id) = pure (.type "method_descriptor")) (hm : MtR X id r) (ho : RE X C E o wa)
    (hbase : attributeBase o name X.env (eval o X.env) = eval o X.env) (hline : (apos.endLine == cpos.line) = true) :
    RE X C E (.Call (.Attribute o name apos) [] [] cpos) (wMt gt g wa wNil) := by
  refine ⟨fun σ hp e Q Q' i q => ho.mo _ _ _ _ _ (fun p h ⟨t, q⟩ => ⟨t, L.mo _ _ _ _ _ i q⟩) q, PE.imp (PE.fz (pe_bm0 pa slot hty hm ho.pe hbase hline)) fun σ H Q ⟨μ, hp, σI, e, A, s, q⟩ => ?_⟩
  exact tE.go ho.mo A s q fun p h1 μ1 H1 v ⟨t, q1⟩ u1 A1 s1 r1 => ⟨by rw [hK]; exact L.ty μ1 H1 h1 p v A1.hr r1 t, L.ok μ1 H1 h1 p v [] [] Q A1.hr r1 .nil (L.mo _ _ _ _ _ (fun z h q => q.up u1) q1)⟩
end
def isS (p : PV) (_ : PH) : Prop := ∃ s, p = .str s
def isLs (p : PV) (hp : PH) : Prop := ∃ ps, asL hp p = some ps
def gApp : GM := fun p ps hp Q => ∃ n xs y, p = .loc n ∧ ps = [y] ∧ hp n = some (.lst xs) ∧ xs.length < sizeLine ∧ Q .non (put hp n (.lst (xs ++ [y])))
def gPop : GM := fun p ps hp Q => ∃ n xs y, p = .loc n ∧ ps = [] ∧ hp n = some (.lst xs) ∧ xs[xs.length - 1]? = some y ∧ Q y (put hp n (.lst xs.dropLast))
def gExt : GM := fun p ps hp Q => ∃ n xs q ys, p = .loc n ∧ ps = [q] ∧ hp n = some (.lst xs) ∧ asL hp q = some ys ∧ xs.length + ys.length ≤ sizeLine ∧ Q .non (put hp n (.lst (xs ++ ys)))
def strsP (hp : PH) (p : PV) : Option (List Str) := (seqP hp p).bind fun ps => ps.mapM fun | .str s => some s | _ => none
def gJoin : GM := fun p ps hp Q => ∃ a q ys, p = .str a ∧ ps = [q] ∧ seqP hp q = some (ys.map PV.str) ∧ (ys.map (·.length)).sum + ys.length * a.length ≤ 16777216 ∧ Q (.str (Txt.join a ys)) hp
section
variable {C : Cfg}
theorem ty_ls : ∀ μ H hp p v, HR C μ H hp → RV C.K μ H p v → isLs p hp → tyV C.K "list" v H := fun μ H hp p v r rv ⟨ps, e⟩ => by
  obtain ⟨a, vs, rfl, h2, _⟩ := asL_sq r rv e
  exact .inl ⟨rfl, vs, h2⟩
theorem ty_s : ∀ μ H hp p v, HR C μ H hp → RV C.K μ H p v → isS p hp → tyV C.K "str" v H := fun μ H hp p v r rv ⟨s, e⟩ => by
  subst e
  rw [rv.strI]
  rfl
theorem loc_lst {μ : List Addr} {H : Hp} {hp : PH} {n : Nat} {v : V} {xs : List PV} (r : HR C μ H hp) (rv : RV C.K μ H (.loc n) v) (h : hp n = some (.lst xs)) : ∃ a vs, v = .ref a ∧ μ[n]? = some a ∧ H a = some (.lst vs) ∧ RVs C.K μ H xs vs := by
  obtain ⟨a, e1, e2⟩ := rv.locI
  obtain ⟨b, e3, vs, e4, e5⟩ := r.cell n _ h
  rw [e2] at e3
  cases e3
  exact ⟨a, vs, e1, e2, e4, e5⟩
theorem loc_dct {μ : List Addr} {H : Hp} {hp : PH} {n : Nat} {v : V} {xs : List (Key × PV)} (r : HR C μ H hp) (rv : RV C.K μ H (.loc n) v) (h : hp n = some (.dct xs)) : ∃ a vs, v = .ref a ∧ μ[n]? = some a ∧ H a = some (.dK vs) ∧ RKs C.K μ H xs vs := by
  obtain ⟨a, e1, e2⟩ := rv.locI
  obtain ⟨b, e3, vs, e4, e5⟩ := r.cell n _ h
  rw [e2] at e3
  cases e3
  exact ⟨a, vs, e1, e2, e4, e5⟩
/-- a list that changes is written -/
theorem fE.wrL {μ : List Addr} {H : Hp} {hp : PH} {Q : VK} {n : Nat} {a : Addr} {vs ws : List V} {ps : List PV} {p : PV} {v : V} (q : fE C μ H Q p (put hp n (.lst ps))) (r : HR C μ H hp) (hn : μ[n]? = some a) (h : H a = some (.lst vs)) (rw' : RVs C.K μ H ps ws) (rv : RV C.K μ H p v) : Q v (upd H a (.lst ws)) := by
  have u : Up μ H μ (upd H a (.lst ws)) := Up.write hn h rfl
  exact q μ _ v u (r.write hn h lstU ⟨ws, upd_same, RVs.up u _ _ rw'⟩) (RV.up u _ _ rv)
theorem fE.wrD {μ : List Addr} {H : Hp} {hp : PH} {Q : VK} {n : Nat} {a : Addr} {vs ws : List (Key × V)} {ps : List (Key × PV)} {p : PV} {v : V} (q : fE C μ H Q p (put hp n (.dct ps))) (r : HR C μ H hp) (hn : μ[n]? = some a) (h : H a = some (.dK vs)) (rw' : RKs C.K μ H ps ws) (rv : RV C.K μ H p v) : Q v (upd H a (.dK ws)) := by
  have u : Up μ H μ (upd H a (.dK ws)) := Up.write hn h rfl
  exact q μ _ v u (r.write hn h dKU ⟨ws, upd_same, RKs.up u _ _ rw'⟩) (RV.up u _ _ rv)
theorem lm_app : LMt C "list" rAppend isLs gApp := ⟨fun p ps hp Q Q' i ⟨n, xs, y, h1, h2, h3, h4, q⟩ => ⟨n, xs, y, h1, h2, h3, h4, i _ _ q⟩, ty_ls, fun μ H hp p v ps vs Q r rv rs ⟨n, xs, y, h1, h2, h3, h4, q⟩ => by
  subst h1 h2
  obtain ⟨u, rfl, ru⟩ := rs.one
  obtain ⟨a, ws, rfl, e2, e3, e4⟩ := loc_lst r rv h3
  exact ⟨a, ws, u, rfl, rfl, e3, by rw [e4.length]; exact h4, fzk (q.wrL r e2 e3 (e4.append (.cons ru .nil)) .non')⟩⟩
theorem RVs.dropLast {K : PySem.W.Frag} {μ : List Addr} {H : Hp} {ps : List PV} {vs : List V} (r : RVs K μ H ps vs) : RVs K μ H ps.dropLast vs.dropLast := by
  rw [List.dropLast_eq_take, List.dropLast_eq_take, r.length]
  exact r.take _
theorem lm_pop : LMt C "list" rPop isLs gPop := ⟨fun p ps hp Q Q' i ⟨n, xs, y, h1, h2, h3, h4, q⟩ => ⟨n, xs, y, h1, h2, h3, h4, i _ _ q⟩, ty_ls, fun μ H hp p v ps vs Q r rv rs ⟨n, xs, y, h1, h2, h3, h4, q⟩ => by
  subst h1 h2
  simp only [RVs] at rs
  subst rs
  obtain ⟨a, ws, rfl, e2, e3, e4⟩ := loc_lst r rv h3
  obtain ⟨u, hu, ru⟩ := e4.get h4
  exact ⟨a, ws, u, rfl, rfl, e3, by rw [e4.length]; exact hu, fzk (q.wrL r e2 e3 e4.dropLast ru)⟩⟩
theorem lm_join : LMt C "str" (fun x xs H Q => ∃ a p, ∃ ys : List Str, x = .str a ∧ xs = [.ref p] ∧ (SqL C.K H p (ys.map V.str) ∨ SqT C.K H p (ys.map V.str)) ∧ (ys.map (·.length)).sum + ys.length * a.length ≤ 16777216 ∧ Q (.str (Txt.join a ys)) H) isS gJoin :=
  ⟨fun p ps hp Q Q' i ⟨n, xs, y, h1, h2, h3, h4, q⟩ => ⟨n, xs, y, h1, h2, h3, h4, i _ _ q⟩, ty_s, fun μ H hp p v ps vs Q r rv rs ⟨a, z, ys, h1, h2, h3, h4, q⟩ => by
  subst h1 h2
  obtain ⟨u, rfl, ru⟩ := rs.one
  obtain ⟨b, ws, rfl, e2, e3⟩ := seqP_at r ru h3
  have z := RVs.map_eq (f := PV.str) (g := V.str) (fun x v r => r.strI) ys e3
  subst z
  exact ⟨a, b, ys, rv.strI, rfl, e2, h4, fzk (q μ H _ .refl r .str')⟩⟩
end
end RF

set_option Elab.async false
set_option linter.all false
set_option maxRecDepth 100000
set_option maxHeartbeats 400000
/-! Part 9: repr, isinstance, in, dicts. -/
namespace RF
open PySem PySem.Spec L2

/-! ### repr -/
def scalD : PV → Option PyData
  | .non => some .none
  | .bl b => some (.bool b)
  | .int i => some (.int i)
  | .str s => some (.str s)
  | _ => none
def keyD : Key → PyData
  | .inl i => .int i
  | .inr s => .str s
def scalKs : List (Key × PV) → Option (List (PyData × PyData))
  | [] => some []
  | (k, p) :: r => (scalD p).bind fun d => (scalKs r).map fun ds => (keyD k, d) :: ds
/-- the datum of a value: also a flat dict -/
def toDr (hp : PH) (p : PV) : Option PyData := match asD hp p with
  | some ks => (scalKs ks).map .dict
  | none => toDh hp p
def Showy (d : PyData) : Prop := d.showable = true ∧ d.depth ≤ 64 ∧ d.shown.length ≤ sizeLine
/-- the value reads as the datum -/
def ReadsV (X : Cx) (H : Hp) (v : V) (d : PyData) : Prop := ∀ (pins : List (Addr × Obj)) (σ : St) (s : Shared) (u : Value), Inv X pins σ H s → RelV v u → ∃ as, Reads s.heap u d as ∧ (d.hasDict = true → sysModules ∉ as)
theorem scal_reads {K : PySem.W.Frag} {μ : List Addr} {H : Hp} {p : PV} {v : V} {u : Value} {d : PyData} {h : Heap} (r : RV K μ H p v) (e : scalD p = some d) (ru : RelV v u) : Reads h u d [] := by
  cases p with
  | non => cases e; rw [r.nonI] at ru; cases (show u = Value.none from ru); exact .none
  | bl b => cases e; rw [r.blI] at ru; cases (show u = Value.bool b from ru); exact .bool b
  | int i => cases e; rw [r.intI] at ru; obtain ⟨t, rfl⟩ := (show ∃ t, u = Value.int i t from ru); exact .int i t
  | str x => cases e; rw [r.strI] at ru; obtain ⟨t, rfl⟩ := (show ∃ t, u = Value.str x t from ru); exact .str x t
  | _ => cases e
theorem key_reads {k : Key} {v : Value} {h : Heap} (e : keyIs k v = true) : Reads h v (keyD k) [] := by
  rcases keyIs_shape e with ⟨i, t, rfl, rfl⟩ | ⟨x, t, rfl, rfl⟩
  · exact .int i t
  · exact .str x t
theorem flat_reads {K : PySem.W.Frag} {μ : List Addr} {H : Hp} {P : Program} {w : World} {h : Heap} : ∀ {ks : List (Key × PV)} {ws : List (Key × V)} {us : List (Key × Value)} {es : List DictEntry} {ds : List (PyData × PyData)}, RKs K μ H ks ws → KV ws us → Pairs (mixKind P w) es us → scalKs ks = some ds →
    ReadsAll h (es.map (·.key)) (ds.map (·.1)) [] ∧ ReadsAll h (es.map (·.val)) (ds.map (·.2)) []
  | [], _, _, _, _, r, kv, pr, e => by
    simp only [RKs] at r
    subst r
    cases kv
    cases pr
    cases e
    exact ⟨.nil, .nil⟩
  | (k, p) :: ks, _, _, _, _, r, kv, pr, e => by
    simp only [RKs] at r
    obtain ⟨w1, ws, rfl, r1, r2⟩ := r
    cases kv with
    | cons a t =>
      cases pr with
      | cons h1 h2 h3 =>
        obtain ⟨d, e1, e2⟩ := Option.bind_eq_some_iff.mp e
        obtain ⟨ds, e3, e4⟩ := Option.map_eq_some_iff.mp e2
        subst e4
        obtain ⟨q1, q2⟩ := flat_reads (h := h) r2 t h3 e3
        obtain ⟨a1, a2⟩ := a
        refine ⟨ReadsAll.cons (as := []) (bs := []) (key_reads ?_) q1, ReadsAll.cons (as := []) (bs := []) ?_ q2⟩
        · have h1 : keyIs _ _ = true := h1
          rw [← a1] at h1
          exact h1
        · exact (congrArg (fun z => Reads h z d []) h2).mpr (scal_reads r1 e1 a2)
mutual
theorem toD_flat : ∀ (p : PV) (d : PyData), toD p = some d → d.hasDict = false
  | .non, _, h => by cases h; rfl
  | .bl _, _, h => by cases h; rfl
  | .int _, _, h => by cases h; rfl
  | .str _, _, h => by cases h; rfl
  | .tup ps, _, h => by
    simp only [toD, Option.map_eq_some_iff] at h
    obtain ⟨ds, e1, e2⟩ := h
    subst e2
    simpa only [PyData.hasDict] using toDs_flat ps ds e1
  | .lst ps, _, h => by
    simp only [toD, Option.map_eq_some_iff] at h
    obtain ⟨ds, e1, e2⟩ := h
    subst e2
    simpa only [PyData.hasDict] using toDs_flat ps ds e1
  | .dct _, _, h => by simp [toD] at h
  | .loc _, _, h => by simp [toD] at h
  | .ref _, _, h => by simp [toD] at h
theorem toDs_flat : ∀ (ps : List PV) (ds : List PyData), toDs ps = some ds → PyData.hasDictAll ds = false
  | [], _, h => by
    simp only [toDs, Option.some.injEq] at h
    subst h; rfl
  | p :: ps, _, h => by
    simp only [toDs, Option.bind_eq_some_iff, Option.map_eq_some_iff] at h
    obtain ⟨d, e1, ds, e2, e3⟩ := h
    subst e3
    simp only [PyData.hasDictAll, toD_flat p d e1, toDs_flat ps ds e2, Bool.or_self]
end
theorem toDh_flat {p : PV} {hp : PH} {d : PyData} (h : toDh hp p = some d) : d.hasDict = false := by
  cases p with
  | loc n =>
    simp only [toDh, Option.bind_eq_some_iff, Option.map_eq_some_iff] at h
    obtain ⟨ps, e1, ds, e2, e3⟩ := h
    subst e3
    simpa only [PyData.hasDict] using toDs_flat ps ds e2
  | _ => exact toD_flat _ _ h
theorem reads_of {X : Cx} {C : Cfg} (hK : X.K = C.K) {μ : List Addr} {H : Hp} {hp : PH} {p : PV} {v : V} {d : PyData} (r : HR C μ H hp) (rv : RV C.K μ H p v) (h : toDr hp p = some d) : ReadsV X H v d := by
  intro pins σ s u I ru
  unfold toDr at h
  cases e : asD hp p with
  | none =>
    rw [e] at h
    have h : toDh hp p = some d := h
    obtain ⟨as, q⟩ := Dp.reads I d v u (by rw [hK]; exact toDh_dp r rv h) ru
    refine ⟨as, q, fun z => ?_⟩
    rw [toDh_flat h] at z
    cases z
  | some ks =>
    rw [e] at h
    obtain ⟨ds, e1, e2⟩ := Option.map_eq_some_iff.mp h
    subst e2
    obtain ⟨a, ws, rfl, rd, rk⟩ := asD_rd r rv e
    cases ru
    obtain ⟨_, ns, us, kv, o, es, ep, ho, ex, hd, _, pr, _⟩ := dk_rd I.hok rd
    obtain ⟨q1, q2⟩ := flat_reads (h := s.heap) rk kv pr e1
    refine ⟨_, Reads.dict ho ex.1 hd q1 q2, fun _ => ?_⟩
    simp only [List.append_nil, List.mem_singleton]
    intro z
    rw [← z] at ns
    simp at ns
def rRepr (X : Cx) : List V → Hp → VK → Prop := fun xs H Q => ∃ x d, xs = [x] ∧ ReadsV X H x d ∧ Showy d ∧ Q (.str d.shown) H
theorem cr_repr {X : Cx} {k : Nat} (room : Room k X.A) (hG : Calm X.A) : CallR X (.builtin "repr") (rRepr X) := by
  intro pins s σ H xs us Q I r h
  obtain ⟨x, d, rfl, rd, ⟨h1, h2, h3⟩, q⟩ := h
  cases r with
  | cons r1 rs =>
    cases rs
    obtain ⟨as, rr, no⟩ := rd pins σ s _ I r1
    have fin : ∀ (h' : Heap) (u tk : Tok), (∀ b o, s.heap.get? b = some o → h'.get? b = some o) → EP X pins σ Q (.str d.shown u) { s with heap := h', toks := tk } := fun h' u tk hk => ⟨.str d.shown, H, I.kept hk, ⟨u, rfl⟩, q⟩
    have un := room.un
    have ref : ∀ {a : Addr}, Reads s.heap (.ref a) d as → wpAny (model X.prog X.w) X.A (call (.builtin "repr") [.ref a]) (EP X pins σ Q) X.xe s := fun rr =>
      PySem.repr_of_reads' rr h1 no hG (by omega) (fun _ _ e => e) fin h3
    cases rr with
    | none => exact PySem.P.repr_of_none (fin s.heap _ _ fun _ _ e => e)
    | bool b => exact PySem.P.repr_of_bool (fin s.heap _ _ fun _ _ e => e)
    | int i t => exact PySem.P.repr_of_int (by simpa [PyData.showable] using h1) (fin s.heap _ _ fun _ _ e => e)
    | str y t => exact PySem.P.repr_of_str (fin s.heap _ _ fun _ _ e => e) h3
    | list e1 e2 e3 e4 => exact ref (.list e1 e2 e3 e4)
    | tuple e1 e2 e3 e4 => exact ref (.tuple e1 e2 e3 e4)
    | dict e1 e2 e3 e4 e5 => exact ref (.dict e1 e2 e3 e4 e5)
def gRepr : GA := gF1 fun p hp q => ∃ d, toDr hp p = some d ∧ Showy d ∧ q = .str d.shown
theorem lf_repr {X : Cx} {C : Cfg} (hK : X.K = C.K) : LFn C (rRepr X) gRepr := ⟨gF1.mo, fun μ H hp ps vs Q r rv ⟨p, q, e, ⟨d, e1, e2, e3⟩, h⟩ => by
  subst e e3
  obtain ⟨v, rfl, r1⟩ := rv.one
  exact ⟨v, d, rfl, reads_of hK r r1 e1, e2, fzk (h μ H _ .refl r .str')⟩⟩
end RF

set_option Elab.async false
set_option linter.all false
set_option maxRecDepth 100000
set_option maxHeartbeats 400000
/-! Part 10: in, dicts, isinstance. -/
namespace RF
open PySem PySem.Spec L2

/-! ### in -/
def toV : PV → V
  | .non => .non
  | .bl b => .bl b
  | .int i => .int i
  | .str s => .str s
  | _ => .non
def flatP : PV → Bool
  | .non => true
  | .bl _ => true
  | .int _ => true
  | .str _ => true
  | _ => false
def eqP (p q : PV) : Bool := eqV (toV p) (toV q)
theorem flatP_V {K : PySem.W.Frag} {μ : List Addr} {H : Hp} {p : PV} {v : V} (r : RV K μ H p v) (f : flatP p = true) : v = toV p ∧ flatV v = true := by
  cases p with
  | non => rw [r.nonI]; exact ⟨rfl, rfl⟩
  | bl b => rw [r.blI]; exact ⟨rfl, rfl⟩
  | int b => rw [r.intI]; exact ⟨rfl, rfl⟩
  | str b => rw [r.strI]; exact ⟨rfl, rfl⟩
  | _ => cases f
theorem flatPs_V {K : PySem.W.Frag} {μ : List Addr} {H : Hp} : ∀ {ps : List PV} {vs : List V}, RVs K μ H ps vs → ps.all flatP = true → vs = ps.map toV ∧ vs.all flatV = true
  | [], _, r, _ => by
    simp only [RVs] at r
    subst r
    exact ⟨rfl, rfl⟩
  | p :: ps, _, r, f => by
    simp only [RVs] at r
    obtain ⟨v, ws, rfl, r1, r2⟩ := r
    rw [List.all_cons, Bool.and_eq_true] at f
    obtain ⟨a1, a2⟩ := flatP_V r1 f.1
    obtain ⟨b1, b2⟩ := flatPs_V r2 f.2
    subst a1 b1
    exact ⟨rfl, by rw [List.all_cons, a2, b2]; rfl⟩
def inP (p : PV) (ps : List PV) : Bool := ps.any fun z => eqP z p
/-- membership in a text (one sign), a list or a tuple of flat items, a list of data -/
def cInB (neg : Bool) : G3 := fun p q hp b =>
  (∃ c z, p = .str ⟨#[c]⟩ ∧ q = .str z ∧ b = (neg != decide (c ∈ z.cps.toList))) ∨
  (∃ ps, seqP hp q = some ps ∧ flatP p = true ∧ ps.all flatP = true ∧ b = (neg != inP p ps)) ∨
  ∃ d ds, toDh hp p = some d ∧ toDh hp q = some (.list ds) ∧ SeqAt.shaped d = true ∧ SeqAt.shaped (.list ds) = true ∧ b = (neg != ds.any fun z => PyData.eqv z d)
abbrev cIn : G3 := cInB false
abbrev cNotIn : G3 := cInB true
def rInAll (K : PySem.W.Frag) : R2 := fun x y H Q => (∃ (c : Nat) (z : Str), x = .str ⟨#[c]⟩ ∧ y = .str z ∧ Q (.bl (decide (c ∈ z.cps.toList))) H) ∨ rIn K false x y H Q ∨ rInD K x y H Q
def rNotInAll (K : PySem.W.Frag) : R2 := fun x y H Q => (∃ (c : Nat) (z : Str), x = .str ⟨#[c]⟩ ∧ y = .str z ∧ Q (.bl (!decide (c ∈ z.cps.toList))) H) ∨ rIn K true x y H Q ∨ rNotInD K x y H Q
theorem op_inAll {X : Cx} (hu : X.A.units + 65 < cLine) : OpR X (compareOp .In) (rInAll X.K) := op_in_sign.or (op_in_seq.or (op_inD hu))
theorem op_notInAll {X : Cx} (hu : X.A.units + 65 < cLine) : OpR X (compareOp .NotIn) (rNotInAll X.K) := op_notIn_sign.or (op_notIn_seq.or (op_notInD hu))
section
variable {C : Cfg}
theorem in_seq {μ : List Addr} {H : Hp} {hp : PH} {p q : PV} {v u : V} {ps : List PV} {Q : VK} (neg : Bool) (r : HR C μ H hp) (rp : RV C.K μ H p v) (rq : RV C.K μ H q u) (h1 : seqP hp q = some ps) (h2 : flatP p = true) (h3 : ps.all flatP = true)
    (hq : Q (.bl (neg != inP p ps)) H) : rIn C.K neg v u H Q := by
  obtain ⟨a, ws, rfl, e1, e2⟩ := seqP_at r rq h1
  obtain ⟨a1, a2⟩ := flatP_V rp h2
  obtain ⟨b1, b2⟩ := flatPs_V e2 h3
  subst a1 b1
  refine ⟨a, _, rfl, e1, a2, b2, ?_⟩
  have e : inV (toV p) (ps.map toV) = inP p ps := by
    unfold inV inP
    rw [List.any_map]
    rfl
  rw [e]
  cases neg <;> simpa using hq
theorem l_in : LCp C (rInAll C.K) cIn := ⟨fun μ H hp p q v u b r rp rq h Q hq => by
  rcases h with ⟨c, z, rfl, rfl, rfl⟩ | ⟨ps, h1, h2, h3, rfl⟩ | ⟨d, ds, h1, h2, h3, h4, rfl⟩
  · exact .inl ⟨c, z, rp.strI, rq.strI, by simpa using hq⟩
  · exact .inr (.inl (in_seq false r rp rq h1 h2 h3 hq))
  · exact .inr (.inr ⟨d, ds, toDh_dp r rp h1, toDh_dp r rq h2, h3, h4, by simpa using hq⟩)⟩
theorem l_notIn : LCp C (rNotInAll C.K) cNotIn := ⟨fun μ H hp p q v u b r rp rq h Q hq => by
  rcases h with ⟨c, z, rfl, rfl, rfl⟩ | ⟨ps, h1, h2, h3, rfl⟩ | ⟨d, ds, h1, h2, h3, h4, rfl⟩
  · exact .inl ⟨c, z, rp.strI, rq.strI, by simpa using hq⟩
  · exact .inr (.inl (in_seq true r rp rq h1 h2 h3 hq))
  · exact .inr (.inr ⟨d, ds, toDh_dp r rp h1, toDh_dp r rq h2, h3, h4, by simpa using hq⟩)⟩
end

/-! ### dicts -/
def keyP : PV → Option Key
  | .int i => some (.inl i)
  | .str s => some (.inr s)
  | _ => none
def getP (ks : List (Key × PV)) (k : Key) : Option PV := (ks.find? fun kv => decide (kv.1 = k)).map (·.2)
def putP (ks : List (Key × PV)) (k : Key) (p : PV) : List (Key × PV) :=
  if (ks.any fun kv => decide (kv.1 = k)) = true then ks.map (fun kv => if kv.1 = k then (kv.1, p) else kv) else ks ++ [(k, p)]
def mergeP (ks more : List (Key × PV)) : List (Key × PV) := more.foldl (fun acc kv => putP acc kv.1 kv.2) ks
section
variable {K : PySem.W.Frag} {μ : List Addr} {H : Hp}
theorem keyP_V {p : PV} {v : V} {k : Key} (r : RV K μ H p v) (h : keyP p = some k) : v = kV k := by
  cases p with
  | int i => cases h; exact r.intI
  | str s => cases h; exact r.strI
  | _ => cases h
theorem RKs.nil : RKs K μ H [] [] := by simp only [RKs]
theorem RKs.cons {k : Key} {p : PV} {v : V} {ps : List (Key × PV)} {vs : List (Key × V)} (r : RV K μ H p v) (s : RKs K μ H ps vs) : RKs K μ H ((k, p) :: ps) ((k, v) :: vs) := by
  simp only [RKs]
  exact ⟨v, vs, rfl, r, s⟩
theorem RKs.length : ∀ {ps : List (Key × PV)} {vs : List (Key × V)}, RKs K μ H ps vs → vs.length = ps.length
  | [], _, h => by simp only [RKs] at h; subst h; rfl
  | (k, p) :: ps, _, h => by
    simp only [RKs] at h
    obtain ⟨w, ws, rfl, r, s⟩ := h
    simp [RKs.length s]
theorem RKs.any (f : Key → Bool) : ∀ {ps : List (Key × PV)} {vs : List (Key × V)}, RKs K μ H ps vs → (vs.any fun kv => f kv.1) = ps.any fun kv => f kv.1
  | [], _, h => by simp only [RKs] at h; subst h; rfl
  | (k, p) :: ps, _, h => by
    simp only [RKs] at h
    obtain ⟨w, ws, rfl, r, s⟩ := h
    simp only [List.any_cons, RKs.any f s]
theorem RKs.append : ∀ {ps qs : List (Key × PV)} {vs ws : List (Key × V)}, RKs K μ H ps vs → RKs K μ H qs ws → RKs K μ H (ps ++ qs) (vs ++ ws)
  | [], _, _, _, h, s => by simp only [RKs] at h; subst h; exact s
  | (k, p) :: ps, _, _, _, h, s => by
    simp only [RKs] at h
    obtain ⟨w, ws, rfl, r, t⟩ := h
    exact .cons r (RKs.append t s)
theorem RKs.upd1 {k : Key} {p : PV} {v : V} (rp : RV K μ H p v) : ∀ {ps : List (Key × PV)} {vs : List (Key × V)}, RKs K μ H ps vs → RKs K μ H (ps.map fun kv => if kv.1 = k then (kv.1, p) else kv) (vs.map fun kv => if kv.1 = k then (kv.1, v) else kv)
  | [], _, h => by simp only [RKs] at h; subst h; exact .nil
  | (j, q) :: ps, _, h => by
    simp only [RKs] at h
    obtain ⟨w, ws, rfl, r, t⟩ := h
    simp only [List.map_cons]
    by_cases z : j = k
    · rw [if_pos z, if_pos z]
      exact .cons rp (RKs.upd1 rp t)
    · rw [if_neg z, if_neg z]
      exact .cons r (RKs.upd1 rp t)
theorem RKs.put {ks : List (Key × PV)} {ws : List (Key × V)} {k : Key} {p : PV} {v : V} (r : RKs K μ H ks ws) (rp : RV K μ H p v) : RKs K μ H (putP ks k p) (putK ws k v) := by
  unfold putP putK
  rw [r.any fun j => decide (j = k)]
  split
  · exact r.upd1 rp
  · exact r.append (.cons rp .nil)
theorem RKs.get : ∀ {ks : List (Key × PV)} {ws : List (Key × V)} {k : Key}, RKs K μ H ks ws → (∀ p, getP ks k = some p → ∃ v, valV ws k = some v ∧ RV K μ H p v) ∧ (getP ks k = none → valV ws k = none)
  | [], _, k, h => by
    simp only [RKs] at h
    subst h
    exact ⟨fun p e => by simp [getP] at e, fun _ => rfl⟩
  | (j, q) :: ks, _, k, h => by
    simp only [RKs] at h
    obtain ⟨w, ws, rfl, r, t⟩ := h
    obtain ⟨h1, h2⟩ := RKs.get (k := k) t
    by_cases z : j = k
    · have e1 : getP ((j, q) :: ks) k = some q := by simp [getP, z]
      have e2 : valV ((j, w) :: ws) k = some w := valV_pos z
      rw [e1, e2]
      exact ⟨fun p e => ⟨w, rfl, by cases e; exact r⟩, fun e => by cases e⟩
    · have e1 : getP ((j, q) :: ks) k = getP ks k := by simp [getP, z]
      have e2 : valV ((j, w) :: ws) k = valV ws k := valV_neg z
      rw [e1, e2]
      exact ⟨h1, h2⟩
theorem RKs.merge : ∀ {more ks : List (Key × PV)} {mws ws : List (Key × V)}, RKs K μ H more mws → RKs K μ H ks ws → RKs K μ H (mergeP ks more) (mergeK ws mws)
  | [], ks, _, _, h, r => by simp only [RKs] at h; subst h; exact r
  | (k, p) :: more, ks, _, _, h, r => by
    simp only [RKs] at h
    obtain ⟨w, ws, rfl, r1, t⟩ := h
    have z := RKs.merge (more := more) (ks := putP ks k p) t (r.put r1)
    exact z
end
section
variable {X : Cx} {C : Cfg} {E : XK} {o i d x : Expr} {wa wb wd : WE} {pos pos' apos : Pos}
/-- d[k] -/
def wDGet (a b : WE) : WE := fun σ hp e Q => a σ hp e fun p h1 => b σ h1 e fun q h2 => ∃ ks k z, asD h2 p = some ks ∧ keyP q = some k ∧ getP ks k = some z ∧ Q z h2
theorem dget_at {μ : List Addr} {H : Hp} {hp : PH} {p q : PV} {v u : V} {ks : List (Key × PV)} {k : Key} (r : HR C μ H hp) (rp : RV C.K μ H p v) (rq : RV C.K μ H q u) (h1 : asD hp p = some ks) (h2 : keyP q = some k) :
    ∃ a ws, v = .ref a ∧ RKs C.K μ H ks ws ∧ Rd H a (.dK ws) ∧ u = kV k ∧ DGet H a u (valV ws k) := by
  obtain ⟨a, ws, rfl, rd, rk⟩ := asD_rd r rp h1
  have e := keyP_V rq h2
  subst e
  exact ⟨a, ws, rfl, rk, rd, rfl, .inl ⟨ws, k, rd, rfl, rfl⟩⟩
theorem re_dget (hu : X.A.units + 1 < cLine) (ho : RE X C E o wa) (hi : RE X C E i wb) (hs : NoSl i) : RE X C E (.Subscript o i pos) (wDGet wa wb) := by
  refine ⟨fun σ hp e Q Q' i q => ho.mo _ _ _ _ _ (fun p h q => hi.mo _ _ _ _ _ (fun p h ⟨ks, k, z, h1, h2, h3, q⟩ => ⟨ks, k, z, h1, h2, h3, i _ _ q⟩) q) q, PE.imp (pe_dget hu ho.pe hi.pe hs) fun σ H Q ⟨μ, hp, σI, e, A, s, q⟩ => ?_⟩
  refine tE.go ho.mo A s q fun p h1 μ1 H1 v q1 u1 A1 s1 r1 => ?_
  refine tE.go hi.mo A1 s1 q1 fun p2 h2 μ2 H2 v2 ⟨ks, k, z, e1, e2, e3, q2⟩ u2 A2 s2 r2 => ?_
  obtain ⟨a, ws, rfl, rk, _, _, g⟩ := dget_at A2.hr (RV.up u2 _ _ r1) r2 e1 e2
  obtain ⟨w, hw, rw'⟩ := rk.get.1 z e3
  rw [hw] at g
  exact ⟨a, w, rfl, g, (q2.up (u1.trans u2)).here A2 rw'⟩
/-- d.get(k), d.get(k, x) -/
def wGet1 (a b : WE) : WE := fun σ hp e Q => a σ hp e fun p h1 => (∃ ks, asD h1 p = some ks) ∧ b σ h1 e fun q h2 => ∃ ks k, asD h2 p = some ks ∧ keyP q = some k ∧ Q ((getP ks k).getD .non) h2
def wGet2 (a b d : WE) : WE := fun σ hp e Q => a σ hp e fun p h1 => (∃ ks, asD h1 p = some ks) ∧ b σ h1 e fun q h2 => d σ h2 e fun z h3 => ∃ ks k, asD h3 p = some ks ∧ keyP q = some k ∧ Q ((getP ks k).getD z) h3
theorem getD_rv {K : PySem.W.Frag} {μ : List Addr} {H : Hp} {ks : List (Key × PV)} {ws : List (Key × V)} {k : Key} {z : PV} {w : V} (r : RKs K μ H ks ws) (rz : RV K μ H z w) : RV K μ H ((getP ks k).getD z) ((valV ws k).getD w) := by
  obtain ⟨h1, h2⟩ := r.get (k := k)
  cases e : getP ks k with
  | none => rw [h2 e]; exact rz
  | some p =>
    obtain ⟨v, hv, rv⟩ := h1 p e
    rw [hv]
    exact rv
theorem re_get1 (hu : X.A.units + 1 < cLine) (ho : RE X C E o wa) (hi : RE X C E i wb) (m : M1 X o "get" apos i pos) : RE X C E (.Call (.Attribute o "get" apos) [i] [] pos) (wGet1 wa wb) := by
  refine ⟨fun σ hp e Q Q' i q => ho.mo _ _ _ _ _ (fun p h ⟨t, q⟩ => ⟨t, hi.mo _ _ _ _ _ (fun p h ⟨ks, k, h1, h2, q⟩ => ⟨ks, k, h1, h2, i _ _ q⟩) q⟩) q, PE.imp (pe_dget1 hu ho.pe hi.pe m) fun σ H Q ⟨μ, hp, σI, e, A, s, q⟩ => ?_⟩
  refine tE.go ho.mo A s q fun p h1 μ1 H1 v ⟨⟨ks0, t⟩, q1⟩ u1 A1 s1 r1 => ?_
  obtain ⟨a, ws0, rfl, rd, _⟩ := asD_rd A1.hr r1 t
  refine ⟨a, rfl, .inl ⟨ws0, rd⟩, ?_⟩
  refine tE.go hi.mo A1 s1 q1 fun p2 h2 μ2 H2 v2 ⟨ks, k, e1, e2, q2⟩ u2 A2 s2 r2 => ?_
  obtain ⟨b, ws, eb, rk, _, _, g⟩ := dget_at A2.hr (RV.up u2 _ _ r1) r2 e1 e2
  cases eb
  exact ⟨_, g, (q2.up (u1.trans u2)).here A2 (getD_rv rk .non')⟩
theorem re_get2 (hu : X.A.units + 1 < cLine) (ho : RE X C E o wa) (hi : RE X C E i wb) (hd : RE X C E d wd) (m : M2 X o "get" apos i d pos) : RE X C E (.Call (.Attribute o "get" apos) [i, d] [] pos) (wGet2 wa wb wd) := by
  refine ⟨fun σ hp e Q Q' i q => ho.mo _ _ _ _ _ (fun p h ⟨t, q⟩ => ⟨t, hi.mo _ _ _ _ _ (fun p h q => hd.mo _ _ _ _ _ (fun p h ⟨ks, k, h1, h2, q⟩ => ⟨ks, k, h1, h2, i _ _ q⟩) q) q⟩) q, PE.imp (pe_dget2 hu ho.pe hi.pe hd.pe m) fun σ H Q ⟨μ, hp, σI, e, A, s, q⟩ => ?_⟩
  refine tE.go ho.mo A s q fun p h1 μ1 H1 v ⟨⟨ks0, t⟩, q1⟩ u1 A1 s1 r1 => ?_
  obtain ⟨a, ws0, rfl, rd, _⟩ := asD_rd A1.hr r1 t
  refine ⟨a, rfl, .inl ⟨ws0, rd⟩, ?_⟩
  refine tE.go hi.mo A1 s1 q1 fun p2 h2 μ2 H2 v2 q2 u2 A2 s2 r2 => ?_
  refine tE.go hd.mo A2 s2 q2 fun p3 h3 μ3 H3 v3 ⟨ks, k, e1, e2, q3⟩ u3 A3 s3 r3 => ?_
  obtain ⟨b, ws, eb, rk, _, _, g⟩ := dget_at A3.hr (RV.up (u2.trans u3) _ _ r1) (RV.up u3 _ _ r2) e1 e2
  cases eb
  exact ⟨_, g, (q3.up ((u1.trans u2).trans u3)).here A3 (getD_rv rk r3)⟩
/-- d[k] = x -/
def wDPut (a b d : WE) : WS := fun σ hp e D => d σ hp e fun z h1 => a σ h1 e fun p h2 => b σ h2 e fun q h3 => ∃ n ks k, p = .loc n ∧ h3 n = some (.dct ks) ∧ keyP q = some k ∧ ks.length < sizeLine ∧ D.nx σ (put h3 n (.dct (putP ks k z)))
theorem rs_dput (hu : X.A.units + 1 < cLine) (ho : RE X C E o wa) (hi : RE X C E i wb) (hd : RE X C E d wd) (hs : swapsWith d (some (.Subscript o i pos')) pos.line X.env = pure false) : RS X C E (.Assign [.Subscript o i pos'] d pos) (wDPut wa wb wd) := by
  refine ⟨fun σ hp e D D' l q => hd.mo _ _ _ _ _ (fun p h q => ho.mo _ _ _ _ _ (fun p h q => hi.mo _ _ _ _ _ (fun p h ⟨n, ks, k, h1, h2, h3, h4, q⟩ => ⟨n, ks, k, h1, h2, h3, h4, l.nx _ _ q⟩) q) q) q, PS.imp (ps_dput hu ho.pe hi.pe hd.pe hs) fun D σ H ⟨μ, hp, σI, e, A, s, q⟩ => ?_⟩
  refine tE.go hd.mo A s q fun z h1 μ1 H1 w q1 u1 A1 s1 r1 => ?_
  refine tE.go ho.mo A1 s1 q1 fun p h2 μ2 H2 v q2 u2 A2 s2 r2 => ?_
  refine tE.go hi.mo A2 s2 q2 fun p3 h3 μ3 H3 v3 ⟨n, ks, k, e1, e2, e3, e4, q3⟩ u3 A3 s3 r3 => ?_
  subst e1
  obtain ⟨a, ws, rfl, ea, eH, rk⟩ := loc_dct A3.hr (RV.up u3 _ _ r2) e2
  have ek := keyP_V r3 e3
  subst ek
  refine ⟨a, _, rfl, DPut.k eH (by rw [rk.length]; exact e4), ?_⟩
  have u : Up μ3 H3 μ3 (upd H3 a (.dK (putK ws k w))) := Up.write ea eH rfl
  exact q3 μ3 _ σ (((u1.trans u2).trans u3).trans u) (A3.hr.write ea eH dKU ⟨_, upd_same, RKs.up u _ _ (rk.put (RV.up (u2.trans u3) _ _ r1))⟩) (s3.up u)
end

/-! ### displays of dicts -/
def wPairs : List (WE × WE) → SI → PH → EI → (List (PV × PV) → PH → Prop) → Prop
  | [], _, hp, _, Q => Q [] hp
  | (a, b) :: r, σ, hp, e, Q => a σ hp e fun p h1 => b σ h1 e fun q h2 => wPairs r σ h2 e fun ps h3 => Q ((p, q) :: ps) h3
inductive RPs (X : Cx) (C : Cfg) (E : XK) : List (Option Expr) → List Expr → List (WE × WE) → Prop where
  | nil : RPs X C E [] [] []
  | cons {k v : Expr} {ks : List (Option Expr)} {vs : List Expr} {wk wv : WE} {ws : List (WE × WE)} (hk : RE X C E k wk) (hv : RE X C E v wv) (r : RPs X C E ks vs ws) : RPs X C E (some k :: ks) (v :: vs) ((wk, wv) :: ws)
def keysP : List (PV × PV) → Option (List (Key × PV))
  | [] => some []
  | (p, q) :: r => (keyP p).bind fun k => (keysP r).map fun ks => (k, q) :: ks
def wDct (ws : List (WE × WE)) : WE := fun σ hp e Q => wPairs ws σ hp e fun ps h => ∃ ks, keysP ps = some ks ∧ Q (.dct (mergeP [] ks)) h
def wDctM (ws : List (WE × WE)) : WE := fun σ hp e Q => wPairs ws σ hp e fun ps h => ∃ ks, keysP ps = some ks ∧ ∀ n, h n = none → Q (.loc n) (put h n (.dct (mergeP [] ks)))
def RP2 (K : PySem.W.Frag) (μ : List Addr) (H : Hp) : List (PV × PV) → List (V × V) → Prop
  | [], vs => vs = []
  | (p, q) :: ps, vs => ∃ v u ws, vs = (v, u) :: ws ∧ RV K μ H p v ∧ RV K μ H q u ∧ RP2 K μ H ps ws
theorem RP2.keys {K : PySem.W.Frag} {μ : List Addr} {H : Hp} : ∀ {ps : List (PV × PV)} {vs : List (V × V)} {ks : List (Key × PV)}, RP2 K μ H ps vs → keysP ps = some ks → ∃ ws, vs = ws.map (fun kv => (kV kv.1, kv.2)) ∧ RKs K μ H ks ws ∧ ws.length = ps.length
  | [], _, _, r, e => by
    simp only [RP2] at r
    simp only [keysP, Option.some.injEq] at e
    subst r e
    exact ⟨[], rfl, .nil, rfl⟩
  | (p, q) :: ps, _, _, r, e => by
    simp only [RP2] at r
    obtain ⟨v, u, ws, rfl, r1, r2, r3⟩ := r
    simp only [keysP, Option.bind_eq_some_iff, Option.map_eq_some_iff] at e
    obtain ⟨k, e1, ks, e2, e3⟩ := e
    subst e3
    obtain ⟨zs, h1, h2, h3⟩ := RP2.keys r3 e2
    have ek := keyP_V r1 e1
    subst ek h1
    exact ⟨(k, u) :: zs, rfl, .cons r2 h2, by simp [h3]⟩
section
variable {X : Cx} {C : Cfg} {E : XK} {pos : Pos} {keys : List (Option Expr)} {values : List Expr} {ws : List (WE × WE)}
theorem RPs.mo (h : RPs X C E keys values ws) : ∀ σ hp e Q Q', (∀ p h, Q p h → Q' p h) → wPairs ws σ hp e Q → wPairs ws σ hp e Q' := by
  induction h with
  | nil => exact fun σ hp e Q Q' i q => i _ _ q
  | cons hk hv r ih => exact fun σ hp e Q Q' i q => hk.mo _ _ _ _ _ (fun p h1 q => hv.mo _ _ _ _ _ (fun p2 h2 q => ih _ _ _ _ _ (fun ps h3 q => i _ _ q) q) q) q
theorem RPs.pps (h : RPs X C E keys values ws) : PPs X pos keys values (ws.map fun w => (tE C E w.1, tE C E w.2)) := by
  induction h with
  | nil => exact pps_nil
  | cons hk hv r ih => exact pps_cons hk.pe hv.pe ih
theorem RPs.len (h : RPs X C E keys values ws) : ws.length = keys.length ∧ keys.length = values.length := by
  induction h with
  | nil => exact ⟨rfl, rfl⟩
  | cons hk hv r ih => exact ⟨by simp [ih.1], by simp [ih.2]⟩
theorem RPs.go (h : RPs X C E keys values ws) : ∀ {μ : List Addr} {H : Hp} {hp : PH} {e : EI} {σI : SI} {σ : St} {Q : List (PV × PV) → PH → Prop} {R : List (V × V) → Hp → Prop}, At C E μ H hp e → SR C μ H σI σ → wPairs ws σI hp e Q →
    (∀ ps hp' μ' H' vs, Q ps hp' → ps.length = ws.length → Up μ H μ' H' → At C E μ' H' hp' e → RP2 C.K μ' H' ps vs → R vs H') → tPairs (ws.map fun w => (tE C E w.1, tE C E w.2)) σ H R := by
  have up2 : ∀ {μ μ' : List Addr} {H H' : Hp} (u : Up μ H μ' H') (ps : List (PV × PV)) (vs : List (V × V)), RP2 C.K μ H ps vs → RP2 C.K μ' H' ps vs := by
    intro μ μ' H H' u ps
    induction ps with
    | nil => exact fun vs h => h
    | cons p ps ih =>
      intro vs ⟨v, w, ws, e, r1, r2, r3⟩
      exact ⟨v, w, ws, e, RV.up u _ _ r1, RV.up u _ _ r2, ih _ r3⟩
  induction h with
  | nil =>
    intro μ H hp e σI σ Q R A s q k
    exact k [] hp μ H [] q rfl .refl A rfl
  | cons hk hv r ih =>
    intro μ H hp e σI σ Q R A s q k
    refine tE.go hk.mo A s q fun p h1 μ1 H1 v q1 u1 A1 s1 r1 => ?_
    refine tE.go hv.mo A1 s1 q1 fun p2 h2 μ2 H2 v2 q2 u2 A2 s2 r2 => ?_
    refine ih A2 s2 q2 fun ps h3 μ3 H3 vs q3 l3 u3 A3 r3 => ?_
    exact k _ h3 μ3 H3 _ q3 (by simp [l3]) ((u1.trans u2).trans u3) A3 ⟨v, v2, vs, rfl, RV.up (u2.trans u3) _ _ r1, RV.up u3 _ _ r2, r3⟩
theorem re_dct (h : RPs X C E keys values ws) (hall : keys.all (·.isSome) = true) (h0 : keys ≠ []) (h15 : keys.length ≤ 15) : RE X C E (.Dict keys values pos) (wDct ws) := by
  refine ⟨fun σ hp e Q Q' i q => h.mo _ _ _ _ _ (fun ps h ⟨ks, e, q⟩ => ⟨ks, e, i _ _ q⟩) q, PE.imp (PE.fz (pe_disp h.pps hall h.len.2 h0 h15)) fun σ H Q ⟨μ, hp, σI, e, A, s, q⟩ => ?_⟩
  intro D hD
  have uD : Up μ H μ (upd H D (.dK [])) := Up.fresh hD
  refine h.go (A.next uD (A.hr.fresh hD)) (s.up uD) q fun ps h1 μ1 H1 vs ⟨ks, e1, q1⟩ l1 u1 A1 r1 => ?_
  obtain ⟨ws', rfl, rk, lw⟩ := r1.keys e1
  obtain ⟨eD, nD⟩ := u1.notin upd_same rfl (A.hr.notin hD)
  refine ⟨eD, ws', rfl, by rw [lw, l1, h.len.1]; exact h15, ?_⟩
  exact q1.lockD ((uD.trans u1).wrN (fr_none hD) eD rfl nD) (fr_none hD) (A1.hr.wrN eD rfl nD) upd_same nD (RKs.up0 (Up0.wrN eD rfl) _ _ (rk.merge .nil))
theorem re_dctM (h : RPs X C E keys values ws) (hall : keys.all (·.isSome) = true) (h0 : keys ≠ []) (h15 : keys.length ≤ 15) : RE X C E (.Dict keys values pos) (wDctM ws) := by
  refine ⟨fun σ hp e Q Q' i q => h.mo _ _ _ _ _ (fun ps h ⟨ks, e, q⟩ => ⟨ks, e, fun n hn => i _ _ (q n hn)⟩) q, PE.imp (pe_disp h.pps hall h.len.2 h0 h15) fun σ H Q ⟨μ, hp, σI, e, A, s, q⟩ => ?_⟩
  intro D hD
  have uD : Up μ H μ (upd H D (.dK [])) := Up.fresh hD
  refine h.go (A.next uD (A.hr.fresh hD)) (s.up uD) q fun ps h1 μ1 H1 vs ⟨ks, e1, q1⟩ l1 u1 A1 r1 => ?_
  obtain ⟨ws', rfl, rk, lw⟩ := r1.keys e1
  obtain ⟨eD, nD⟩ := u1.notin upd_same rfl (A.hr.notin hD)
  refine ⟨eD, ws', rfl, by rw [lw, l1, h.len.1]; exact h15, ?_⟩
  have u2 := (uD.trans u1).wrN (o := .dK (mergeK [] ws')) (fr_none hD) eD rfl nD
  have r2 := A1.hr.wrN (o := .dK (mergeK [] ws')) eD rfl nD
  have u3 : Up0 μ1 (upd H1 D (.dK (mergeK [] ws'))) (μ1 ++ [D]) (upd H1 D (.dK (mergeK [] ws'))) := ⟨fun n x e => by rw [List.getElem?_append_left (List.getElem?_eq_some_iff.mp e).1]; exact e, fun _ _ _ h => h⟩
  refine q1 μ1.length (A1.hr.nomore (Nat.le_refl _)) (μ1 ++ [D]) _ (.ref D) (u2.addN (fr_none hD)) (r2.addN nD upd_same ⟨_, upd_same, RKs.up0 u3 _ _ (RKs.up0 (Up0.wrN eD rfl) _ _ (rk.merge .nil))⟩) ?_
  simp only [RV]
  exact ⟨D, rfl, by simp⟩
def wDct0 : WE := fun _ hp _ Q => Q (.dct []) hp
theorem re_dct0 : RE X C E (.Dict [] [] pos) wDct0 := ⟨fun _ _ _ _ _ i q => i _ _ q, PE.imp (PE.fz pe_dnewK) fun σ H Q ⟨μ, hp, σI, e, A, s, q⟩ p np => q.newD A.hr .nil np⟩
def wDct0M : WE := fun _ hp _ Q => ∀ n, hp n = none → Q (.loc n) (put hp n (.dct []))
theorem re_dct0M : RE X C E (.Dict [] [] pos) wDct0M := ⟨fun _ _ _ _ _ i q n hn => i _ _ (q n hn), PE.imp (PE.fz pe_dnewK) fun σ H Q ⟨μ, hp, σI, e, A, s, q⟩ p np => fE.newMD q A.hr .nil np⟩
end

/-! ### isinstance -/
def tyCell : Option Cell → Option String
  | some (.lst _) => some "list"
  | some (.dct _) => some "dict"
  | none => none
def tyP (hp : PH) : PV → Option String
  | .non => some "NoneType"
  | .bl _ => some "bool"
  | .int _ => some "int"
  | .str _ => some "str"
  | .tup _ => some "tuple"
  | .lst _ => some "list"
  | .dct _ => some "dict"
  | .loc n => tyCell (hp n)
  | .ref _ => none
theorem tyP_V {C : Cfg} {μ : List Addr} {H : Hp} {hp : PH} {p : PV} {v : V} {T : String} (r : HR C μ H hp) (rv : RV C.K μ H p v) (h : tyP hp p = some T) : TyX C.K H v (.type T) := by
  cases p with
  | non => cases h; rw [rv.nonI]; exact .base .non
  | bl b => cases h; rw [rv.blI]; exact .base (.bl b)
  | int b => cases h; rw [rv.intI]; exact .base (.int b)
  | str b => cases h; rw [rv.strI]; exact .base (.str b)
  | tup ps =>
    cases h
    obtain ⟨a, vs, rfl, hs, _⟩ := rv.tupI
    rcases hs with (hs | ⟨o, hs⟩) | ⟨o, its, n, hk, hc, _⟩
    · exact .base (.tup hs)
    · exact .fTuple hs
    · exact .kTuple hk hc
  | lst ps =>
    cases h
    obtain ⟨a, vs, rfl, ⟨o, hs⟩, _⟩ := rv.lstI
    exact .base (.frz hs)
  | dct ps =>
    cases h
    obtain ⟨a, vs, rfl, ⟨o, hs⟩, _⟩ := rv.dctI
    exact .fDict hs
  | loc n =>
    obtain ⟨a, rfl, ha⟩ := rv.locI
    have h : tyCell (hp n) = some T := h
    cases e : hp n with
    | none => rw [e] at h; cases h
    | some c =>
      obtain ⟨b, hb, hc⟩ := r.cell n _ e
      rw [ha] at hb
      cases hb
      rw [e] at h
      cases c with
      | lst ps =>
        cases h
        obtain ⟨vs, hv, _⟩ := hc
        exact .base (.lst hv)
      | dct ks =>
        cases h
        obtain ⟨vs, hv, _⟩ := hc
        exact .base (.dK hv)
  | ref b => cases h
def wIsi (T : String) (a : WE) : WE := fun σ hp e Q => a σ hp e fun p h => ∃ S b, tyP h p = some S ∧ kitB S T = some b ∧ Q (.bl b) h
section
variable {X : Cx} {C : Cfg} {E : XK} {x : Expr} {wa : WE} {p p2 pos : Pos} {nT : Str} {T : String}
theorem re_isi (hK : X.K = C.K) (gl : Gl X "isinstance") (hm : X.mg "isinstance" = none) (glT : Gl X nT) (hmT : X.mg nT = none) (hv : bootBuiltins nT = some (.type T)) (ha : RE X C E x wa) (hn : nT ≠ "__name__") (hdb : (nT == ("__debug__" : Str)) = false)
    (he : starEach [x, .Name nT p2] X.env = (false, eval x X.env) :: starEach [.Name nT p2] X.env) (hs : starEach [Expr.Name nT p2] X.env = (false, eval (.Name nT p2) X.env) :: starEach [] X.env) (hpl : (backTo pos (starEach [Expr.Name nT p2] X.env)).any (·.1) = false) :
    RE X C E (.Call (.Name "isinstance" p) [x, .Name nT p2] [] pos) (wIsi T wa) := by
  refine ⟨fun σ hp e Q Q' i q => ha.mo _ _ _ _ _ (fun p h ⟨S, b, e1, e2, q⟩ => ⟨S, b, e1, e2, i _ _ q⟩) q, PE.imp (pe_callB call_isi gl hm (by rfl) (pa_cons ha.pe (pa_cons (pe_bltn (v := .ty T) glT hmT hv rfl hn hdb) pa_nil hs) he) (by decide) (by decide) he hpl) fun σ H Q ⟨μ, hp, σI, e, A, s, q⟩ => ?_⟩
  refine tE.go ha.mo A s q fun q h1 μ1 H1 v ⟨S, b, e1, e2, q1⟩ u1 A1 s1 r1 => ?_
  refine ⟨v, .ty T, .type S, .type T, b, rfl, .ty T, ?_, kit_ty e2, (q1.up u1).here A1 .bl'⟩
  rw [hK]
  exact tyP_V A1.hr r1 e1
end
end RF

set_option Elab.async false
set_option linter.all false
set_option maxRecDepth 100000
set_option maxHeartbeats 1000000
/-! Part X1: the program's own errors: a class over QuickError(Exception) whose __init__ stores one field. The chain follows skel/42, for a class two steps under Exception. -/
namespace RX
open PySem PySem.Spec PySem.W PySem.Calls PyProof.Rows PySem.HandSPX L2
open Builtin Builtin.ObjectAttr
abbrev tailE (B : Addr) : List Value := .ref B :: PySem.ESX.exTail
section
variable {prog : Program} {w : World} {A : Around} {E : Value → Shared → Prop} {R : Result → Shared → Prop} {hp : Heap} {g : Array GenState} {d : Drawn} {t : Nat} {os : OsState}
theorem tailE_has (B : Addr) (X : String) : (tailE B).contains (.type X) = ([.type "Exception", .type "BaseException", .type "object"] : List Value).contains (.type X) := by
  unfold tailE
  rw [List.contains_cons]
  rfl
/-- self.name = v where the error has no dict yet -/
theorem set_first {K : Frag} {name : Str} {tk : Tok} {v : Value} {x C B : Addr} {fv : Array Value} {cd : ClassData}
    (X : K.In hp) (hx : hp.get? x = some { cls := .ref C, data := .fields fv }) (hcd : clsIn K C = some cd) (hm : cd.mro = .ref C :: tailE B) (hh : cd.hasDict = true) (ha : findIn K (.ref C) name = some none)
    (hq : ∀ h' tk' dx, (∀ b o, b ≠ x → hp.get? b = some o → h'.get? b = some o) → hp.objs.size ≤ dx → dx ≠ x →
      h'.get? x = some { cls := .ref C, dict := some dx, data := .fields fv } →
      h'.Ns1 dx (fun y => if y = name then some v else none) → R (.ok (.ret .none)) ⟨h', g, d, tk', os⟩) :
    codeAny (model prog w) A (.call (.builtin "object.__setattr__") ⟨[.ref x, .str name tk, v], []⟩) R ⟨hp, g, d, t, os⟩ := by
  have inst : InstAt hp x { cls := .ref C, data := .fields fv } C none := ⟨hx, rfl, rfl, trivial⟩
  have apart : x ≠ hp.objs.size := Nat.ne_of_lt (Heap.lt_size hx)
  have has : cd.mro.contains (.type "object") = true := by
    rw [hm, List.contains_cons, tailE_has]
    rfl
  have isO : Looks (model prog w) hp (isInstance (.ref x) (.type "object")) true := by
    refine inst.type.andThen (looks_mroIn X ?_)
    unfold mroIn
    rw [hcd, Option.bind_some, has, hm]
    rfl
  have st := PySem.F.store_object
  refine codeAny_call_builtin st.slot.plain st.entry (@W.check_slot (model prog w) _ _ ⟨hp, g, d, t, os⟩ "object.__setattr__" "object" "__setattr__" (.ref x)
    [.str name tk, v] [] _ st.kind st.split isO (st.args (.ref x) (.str name tk) v) ?_)
  have hMro : Looks (model prog w) hp (mroOf (.ref C)) cd.mro := (looks_clsIn X hcd).andThen .now
  have hTake : Looks (model prog w) hp (storeTaker? none) none := .now
  have hCls : Looks (model prog w) hp (classData C) cd := looks_clsIn X hcd
  have pass : refuseLoop (.ref x) "__setattr__" cd.mro = pure () := by
    rw [hm]
    unfold tailE
    rw [refuseLoop_ref, refuseLoop_ref]
    exact PySem.F.store_Exception.passes _
  rw [W.osa_eq, refuse_eq]
  refine wpAny_bind (wpAny_bind (inst.type.at (wpAny_bind (hMro.at ?_))))
  rw [pass]
  refine wpAny_pure (wpAny_bind (inst.type.at (wpAny_bind ((looks_findIn X ha).at (wpAny_bind (hTake.at ?_))))))
  show wpAny _ _ (storeInOwnDict (.ref x) (.ref C) (.str name tk) name v false) _ _ _
  obtain ⟨c1, c2, c3, c4, c5, c6, c7, c8, c9, c10, c11⟩ := cd
  dsimp only at hh
  subst hh
  unfold storeInOwnDict ownDictForStores
  repeat (first | with_reducible refine store_in_new ?_ ?_ | with_reducible refine wpAny_loadPart_at hx ?_ | with_reducible refine hCls.at ?_ | wp_step)
  · refine ⟨_, #[], _, (Heap.get?_update_ne _ _ _ _ apart.symm).trans (Heap.get?_push_at rfl rfl), rfl, ?_, fun _ => rfl⟩
    exact fun e he => absurd he (by simp)
  · intro h' tk' hn' same
    have pushed := Heap.get?_push_of_some ({ cls := .type "dict", data := .dict #[] } : Obj) hx
    refine hq h' tk' hp.objs.size ?_ (Nat.le_refl _) apart.symm ?_ hn'
    · intro b o hb ho
      have z := same.2 b (Nat.ne_of_lt (Heap.lt_size ho))
      exact z.trans ((Heap.get?_update_ne _ _ _ _ hb).trans (Heap.get?_push_of_some _ ho))
    · exact (same.2 x apart).trans (Heap.get?_update_self _ pushed rfl)
end

/-! ### the text of __init__ -/
def iA (f : Str) (p1 p2 : Pos) : Arguments := { posonlyargs := [], args := [{ arg := "self", annotation := none, pos := p1 }, { arg := f, annotation := none, pos := p2 }], vararg := none, kwonlyargs := [], kw_defaults := [], kwarg := none, defaults := [] }
def iB (f : Str) (q1 q2 q3 q4 : Pos) : List Stmt := [.Assign [.Attribute (.Name "self" q1) f q2] (.Name f q3) q4]
def iS (f : Str) : Scope := { kind := .function, names := [(PySem.Str.ofString "self", .local), (f, .local)], isGenerator := false, isCoroutine := false, more := [] }
/-- what the written part says of the class at C (over the one at B), whose __init__ at fI stores the field f -/
structure ErrTxt (K : Frag) (cn f : Str) (C B fI : Addr) : Prop where
  fld : f = ("thing" : Str) ∨ f = ("at" : Str)
  cls : ∃ nm q N bs sn sub ab col dd k0 k1 k2 k3 k5, K.lookup C = some (excClassObj nm q C N bs (tailE B) true sn sub ab col dd k0 k1 k2 k3 k5 "Exception.__new__")
  sa : findIn K (.ref C) "__setattr__" = some (some (.builtin "object.__setattr__"))
  ga : findIn K (.ref C) "__getattribute__" = some (some (.builtin "BaseException.__getattribute__"))
  gg : findIn K (.ref C) "__getattr__" = some none
  noN : findIn K (.ref C) f = some none
  iC : findIn K (.ref C) "__init__" = some (some (.ref fI))
  tC : typeIn K (.ref fI) = some (.type "function")
  kC : keepIn K (.ref C) = true
  exC : subIn K (.ref C) (.type "BaseException") = some true
  tyC : typeIn K (.ref C) = some (.type "type")
  hdC : hasDictIn K C = true
  fn : ∃ (oc : Value) (od : Option Addr) (kV doc pm : Value) (an : Option Addr) (cdv ct : Value) (osl : Array (Option Value)) (p1 p2 q1 q2 q3 q4 : Pos),
    K.lookup fI = some ⟨oc, od, .func (fnOf "__init__" (cn ++ ".__init__") (iA f p1 p2) (iB f q1 q2 q3 q4) (iS f) .none kV doc pm an cdv ct), osl⟩ ∧ codeIn K cdv (cn ++ ".__init__") = true
theorem one_size (v : Value) : [v].length ≤ sizeLine := by
  rw [sizeLine_eq]
  exact (by decide : 1 ≤ 16777216)
theorem ldC {M : Model} {s : Shared} {name : Str} {scope : Scope} {L a : Addr} {cd : Value} {m : Str → Option Value} {x : Str} {pos : Pos} {v : Value} {Q : Value → Shared → Prop} {A : Around} {E : Value → Shared → Prop} (hn : s.heap.Ns L m) (hv : m x = some v) (h : Q v s)
    (hk : scope.kind = .function := by rfl) (hl : (envOfC name scope L a cd).kindOf x = some .local := by rfl) (hd : (x == ("__debug__" : Str)) = false := by decide) :
    wpAny M A (eval (.Name x pos) (envOfC name scope L a cd)) Q E s := wpAny_Name (wpAny_loadName_local hk hl hn hv h) hd
/-- what __init__ leaves of a fresh exception at x -/
structure InitEnd (h h' : Heap) (x C dx t1 : Addr) (f : Str) (v : Value) : Prop where
  keep : ∀ b o, b ≠ x → h.get? b = some o → h'.get? b = some o
  obj : h'.get? x = some { cls := .ref C, dict := some dx, data := .fields #[.ref t1, .none, .none, .none, .bool false, .none] }
  dbig : h.objs.size ≤ dx
  dne : dx ≠ x
  ns : h'.Ns1 dx (fun y => if y = f then some v else none)
/-- a made one -/
structure OwnMade (h h' : Heap) (e C d : Addr) (f : Str) (v : Value) : Prop where
  keep : ∀ b o, h.get? b = some o → h'.get? b = some o
  new : h.objs.size ≤ e
  obj : ∃ oe vs, h'.get? e = some oe ∧ oe.cls = .ref C ∧ oe.dict = some d ∧ oe.data = .fields vs ∧ vs[1]? = some .none
  dbig : h.objs.size ≤ d
  dne : d ≠ e
  ns : h'.Ns1 d (fun y => if y = f then some v else none)
section
variable {prog : Program} {w : World} {A : Around} {E : Value → Shared → Prop} {R : Result → Shared → Prop} {s : Shared} {K : Frag} {cn f : Str} {C B fI : Addr}
theorem err_init (T : ErrTxt K cn f C B fI) {x t0 : Addr} {v : Value} (X : K.In s.heap) (hlim : s.heap.NoLimit) (hx : s.heap.get? x = some (excO C t0)) (hroom : A.depth < recursionLimit)
    (hq : ∀ h' tk dx, InitEnd s.heap h' x C dx t0 f v → R (.ok (.ret .none)) { s with heap := h', toks := tk }) :
    codeAny (model prog w) A (.call (.ref fI) ⟨[.ref x, v], []⟩) R s := by
  obtain ⟨oc, od, kV, doc, pm, an, cdv, ct, osl, p1, p2, q1, q2, q3, q4, ho, hcd⟩ := T.fn
  obtain ⟨nm, q, N, bs, sn, sub, ab, col, dd, k0, k1, k2, k3, k5, hC⟩ := T.cls
  have hcl : clsIn K C = some { name := nm, bases := bs, mro := .ref C :: tailE B, ns := N, qualname := q, hasDict := true, slotNames := sn, subclasses := sub, abstract := ab, collection := col, hasDel := false } := by unfold clsIn; rw [hC] <;> rfl
  have hno := T.noN
  have hsa := T.sa
  have hfl := T.fld
  clear T
  rcases hfl with rfl | rfl
  all_goals
    refine Att.call_fn (binds := [("self", .ref x), (_, v)]) X hlim ho hcd hroom (BindsTo.of_eq (by first | rfl | with_unfolding_all rfl)) (by first | rfl | decide | with_unfolding_all rfl) (fun s₁ IC => ?_) rfl rfl rfl
    obtain ⟨h₁, tk₁, rfl⟩ := IC.toInCall.same
    have k : ∀ b o, s.heap.get? b = some o → h₁.get? b = some o := IC.toInCall.keep
    have hn := IC.toInCall.ns
    have hxL : s.heap.objs.size ≠ x := Nat.ne_of_gt (Heap.lt_size hx)
    have X₁ : K.In h₁ := X.keeps k
    have hx₁ := k _ _ hx
    show wpAny _ _ (execs _ _) _ _ _
    refine wpAny_execs_cons (plainObj_wpAny_Assign_Attribute ?_)
    refine ldC (v := v) hn (by first | rfl | with_unfolding_all rfl | kernel_rfl) (ldC (v := .ref x) hn (by first | rfl | with_unfolding_all rfl | kernel_rfl) ?_)
    refine set_plain X₁ (ox := excO C t0) (od := none) ⟨hx₁, rfl, rfl, trivial⟩ hsa ?_
    refine set_first X₁ hx₁ hcl rfl rfl hno (fun h₃ tk₃ dx k₃ dn dne hx₃ hn₃ => ?_)
    show wpAny _ _ (execs _ _) _ _ _
    have z : s.heap.objs.size < h₁.objs.size := hn.lt
    exact wpAny_execs_nil (hq h₃ tk₃ dx ⟨fun b o hb e => k₃ b o hb (k b o e), hx₃, Nat.le_of_lt (Nat.lt_of_lt_of_le z dn), dne, hn₃⟩)
theorem err_made (T : ErrTxt K cn f C B fI) {v : Value} (X : K.In s.heap) (hlim : s.heap.NoLimit) (hroom : A.depth + 1 < recursionLimit)
    (hq : ∀ h' tk e d, OwnMade s.heap h' e C d f v → R (.ok (.ret (.ref e))) { s with heap := h', toks := tk }) :
    codeAny (model prog w) A (.call (.ref C) ⟨[v], []⟩) R s := by
  obtain ⟨nm, q, N, bs, sn, sub, ab, col, dd, k0, k1, k2, k3, k5, hC⟩ := T.cls
  obtain ⟨hp, g, dr, tk, os⟩ := s
  have k : ∀ b o, hp.get? b = some o → ((hp.push (kdv_tup [v])).push (excO C hp.objs.size)).get? b = some o := fun b o e => Heap.get?_push_of_some _ (Heap.get?_push_of_some _ e)
  have hget : ((hp.push (kdv_tup [v])).push (excO C hp.objs.size)).get? (hp.objs.size + 1) = some (excO C hp.objs.size) := by heap_get
  refine call_own PySem.F.excBase_Exception (fun X => tailE_has B X) (X _ _ hC) (looks_findIn X T.iC) (fun self => bind_fn X self T.tC) (one_size v) ?_
  refine err_init (s := ⟨(hp.push (kdv_tup [v])).push (excO C hp.objs.size), g, dr, tk, os⟩) T (X.keeps k) (hlim.keeps k) hget ?_ fun h' tk' dx ⟨k', hx, dn, dne, hns⟩ => ?_
  · show A.depth + 1 < recursionLimit
    exact hroom
  · have old : ∀ b o, hp.get? b = some o → h'.get? b = some o := fun b o e => k' b o (Nat.ne_of_lt (Nat.lt_succ_of_lt (Heap.lt_size e))) (k b o e)
    have z : hp.objs.size + 1 + 1 ≤ dx := by
      first
        | (simpa only [Heap.size_push] using dn)
        | exact dn
        | (have q := dn; rw [Heap.size_push, Heap.size_push] at q; exact q)
    exact ⟨rfl, hq h' tk' (hp.objs.size + 1) dx ⟨old, Nat.le_succ _, ⟨_, _, hx, rfl, rfl, rfl, rfl⟩, Nat.le_trans (Nat.le_trans (Nat.le_succ _) (Nat.le_succ _)) z, dne, hns⟩⟩
end
theorem relO_one {f : Str} {v : V} {v' : Value} (r : RelV v v') (g : Str) : RelO (List.lookup g [(f, v)]) (if g = f then some v' else none) := by
  by_cases hw : g = f
  · subst hw
    rw [if_pos rfl]
    have q : List.lookup g [(g, v)] = some v := by simp [List.lookup]
    rw [q]
    exact r
  · rw [if_neg hw]
    have qw : (g == f) = false := by simpa using hw
    have q2 : List.lookup g [(f, v)] = none := by simp [List.lookup, qw]
    rw [q2]
    trivial
section
variable {X : Cx} {cn f : Str} {C B fI : Addr}
/-- C(e) -/
def tMkErr (C : Addr) (f : Str) (ta : TA) : L2.St → Hp → XK → Prop := fun σ H Q => ta σ H fun vs H1 => ∃ v, vs = [v] ∧ ∀ d, H1 d = none → Q (.ref C) (some d) (upd H1 d (.xd [(f, v)]))
theorem pmk_err {a : Expr} {ta : TA} {p pos : Pos} {k : Nat} (T : ErrTxt X.K cn f C B fI) (hr : Room k X.A) (ha : PA X [a] ta) (hg : Gl X cn) (gC : X.mg cn = some (.ref C)) (hdb : (cn == ("__debug__" : Str)) = false)
    (he : starEach (a :: []) X.env = (false, eval a X.env) :: starEach [] X.env) (hpl : (backTo pos (starEach [] X.env)).any (·.1) = false) :
    PMk X (.Call (.Name cn p) [a] [] pos) (tMkErr C f ta) := by
  intro pins s σ H Q I h
  refine wpAny_Call_Name_kw (ld_glob I hg gC ?_ hdb)
  refine PySem.W.callWith_K (h₀ := X.base) I.ok.mod.kin T.kC (thn (ha.run pos pins s σ H _ I h) fun us s1 hh => ?_) he hpl
  obtain ⟨vs, H1, I1, r1, v, ev, q1⟩ := hh
  subst ev
  refine ⟨I1.kIn, ?_⟩
  cases r1 with
  | cons rv rn =>
    rename_i v' us'
    cases rn
    show wpAny _ _ (call (.ref C) [v']) _ _ _
    have hlim := I1.nolimit
    obtain ⟨hp, g, dr, tk, os⟩ := s1
    refine wpAny_call (err_made T I1.kIn hlim (by have := hr.dp; omega) fun h' tk' e d M => ?_)
    show MkP X pins σ Q (.ref e) ⟨h', g, dr, tk', os⟩
    obtain ⟨oe, fv, hoe, hc, hd, hdat, h1⟩ := M.obj
    have hns := M.ns
    obtain ⟨G', g1, g2⟩ := restrict h' fun b => decide (b ≠ e)
    have gk : ∀ b, b ≠ e → G'.get? b = h'.get? b := fun b hb => g1 b (decide_eq_true hb)
    have ge : G'.get? e = none := g2 e (by simp)
    have old : ∀ b o, hp.get? b = some o → G'.get? b = some o := fun b o q => (gk b (Nat.ne_of_lt (Nat.lt_of_lt_of_le (Heap.lt_size q) M.new))).trans (M.keep b o q)
    have ob : ObjOk X.prog X.w (upd H1 d (.xd [(f, v)])) G' d (.xd [(f, v)]) :=
      ⟨_, hns.at (fun o q => (gk d M.dne).trans q), fun f => relO_one rv f⟩
    have J : Inv X pins σ (upd H1 d (.xd [(f, v)])) ⟨G', g, dr, tk', os⟩ := I1.laid (t' := tk') old M.dbig ob
    refine ⟨e, oe, fv, ⟨G', g, dr, tk', os⟩, _, .ref C, some d, rfl, J, fun b o q => ?_, ge, hoe, ⟨hc, hd⟩, hdat, h1, ?_, rfl, I1.bare, raises_own T.exC T.tyC, q1 d (I1.hok.fresh M.dbig)⟩
    · by_cases hb : b = e
      · have q' : G'.get? b = some o := q
        rw [hb, ge] at q'; cases q'
      · exact (gk b hb).symm.trans q
    · rw [upd_ne (Ne.symm M.dne)]
      exact I1.hok.fresh M.new
/-- e.f, e the exception that the suite holds (at a; its class cls, its dict d) -/
def tByErr (C : Addr) (f : Str) (a : Addr) (cls : Value) (d : Option Addr) (te : TE) : TE := fun σ H Q => te σ H fun x H1 => x = .ref a ∧ cls = .ref C ∧ ∃ (dd : Addr) (v : V), d = some dd ∧ H1 dd = some (.xd [(f, v)]) ∧ Q v H1
theorem pe_byErr {a : Addr} {oe : Obj} {cls : Value} {d : Option Addr} {pn : List (Addr × Obj)} {e : Expr} {te : TE} {pos : Pos} (T : ErrTxt X.K cn f C B fI) (hz : Zc cls d oe) (hf : ∃ vs, oe.data = .fields vs) (he : PE (X.suite a ((a, oe) :: pn)) e te)
    (hb : attributeBase e f X.env (eval e X.env) = eval e X.env) :
    PE (X.suite a ((a, oe) :: pn)) (.Attribute e f pos) (tByErr C f a cls d te) := by
  refine ⟨fun pins s σ H Q I h => ?_⟩
  refine attr_of hb (thn (he.run pins s σ H _ I h) fun u s1 hh => ?_)
  obtain ⟨x, H1, I1, rx, ex, ec, dd, v, ed, ea, q⟩ := hh
  subst ex
  obtain rfl : u = Value.ref a := rx
  subst ec
  subst ed
  obtain ⟨ha, _⟩ := I1.pin (a, oe) (List.mem_append_left _ List.mem_cons_self)
  obtain ⟨vs, hd⟩ := hf
  have hx : ObjOk X.prog X.w H1 s1.heap dd (.xd [(f, v)]) := I1.hok dd _ ea
  obtain ⟨mA, hns, hr⟩ := hx
  obtain ⟨od, ho, hl⟩ := lookIn_ns hns
  have l : List.lookup f [(f, v)] = some v := by simp [List.lookup]
  obtain ⟨u, hu, ru⟩ := RelO.some_of (v := v) (o := mA f) (by rw [← l]; exact hr f)
  have J : PySem.W.InstAt s1.heap a oe C (some od) := ⟨ha, hz.1, by unfold PySem.W.notCls; rw [hd] <;> rfl, by rw [hz.2]; exact ho⟩
  exact HandSPX.exc_get I1.kIn J T.ga T.gg T.exC (PySem.W.findObj_own T.hdC T.noN rfl (by rw [hl, hu])) (handed_of ru) ⟨v, H1, I1.tok _, ru, q⟩
end
end RX

set_option Elab.async false
set_option linter.all false
set_option maxRecDepth 100000
set_option maxHeartbeats 400000
/-! Part 11: an int below 128 in seven binary figures: the sign codes one by one. -/
namespace RF
open PySem PySem.Spec L2 PySem.W PyProof.Rows
/-- the seven figures of a number -/
def bits7 (n : Nat) : Str := ⟨((List.range 7).map fun i => if (n / 2 ^ (6 - i)) % 2 = 1 then 49 else 48).toArray⟩
def B7 (n : Nat) : Prop := ∀ (t u : Tok), Meets (Builtin.«int.__format__» ⟨[.int (n : Nat) t, .str ⟨#[48, 55, 98]⟩ u], []⟩) (fun _ R s => ∀ t' k, R (.ok (.ret (.str (bits7 n) t'))) { s with toks := k })
theorem b7_10 : B7 10 := by intro t; kxf_run_i
theorem b7_32 : B7 32 := by intro t; kxf_run_i
theorem b7_33 : B7 33 := by intro t; kxf_run_i
theorem b7_34 : B7 34 := by intro t; kxf_run_i
theorem b7_35 : B7 35 := by intro t; kxf_run_i
theorem b7_36 : B7 36 := by intro t; kxf_run_i
theorem b7_38 : B7 38 := by intro t; kxf_run_i
theorem b7_39 : B7 39 := by intro t; kxf_run_i
theorem b7_40 : B7 40 := by intro t; kxf_run_i
theorem b7_41 : B7 41 := by intro t; kxf_run_i
theorem b7_42 : B7 42 := by intro t; kxf_run_i
theorem b7_43 : B7 43 := by intro t; kxf_run_i
theorem b7_44 : B7 44 := by intro t; kxf_run_i
theorem b7_45 : B7 45 := by intro t; kxf_run_i
theorem b7_46 : B7 46 := by intro t; kxf_run_i
theorem b7_47 : B7 47 := by intro t; kxf_run_i
theorem b7_48 : B7 48 := by intro t; kxf_run_i
theorem b7_49 : B7 49 := by intro t; kxf_run_i
theorem b7_50 : B7 50 := by intro t; kxf_run_i
theorem b7_51 : B7 51 := by intro t; kxf_run_i
theorem b7_52 : B7 52 := by intro t; kxf_run_i
theorem b7_53 : B7 53 := by intro t; kxf_run_i
theorem b7_54 : B7 54 := by intro t; kxf_run_i
theorem b7_55 : B7 55 := by intro t; kxf_run_i
theorem b7_56 : B7 56 := by intro t; kxf_run_i
theorem b7_57 : B7 57 := by intro t; kxf_run_i
theorem b7_58 : B7 58 := by intro t; kxf_run_i
theorem b7_59 : B7 59 := by intro t; kxf_run_i
theorem b7_60 : B7 60 := by intro t; kxf_run_i
theorem b7_61 : B7 61 := by intro t; kxf_run_i
theorem b7_62 : B7 62 := by intro t; kxf_run_i
theorem b7_63 : B7 63 := by intro t; kxf_run_i
theorem b7_64 : B7 64 := by intro t; kxf_run_i
theorem b7_65 : B7 65 := by intro t; kxf_run_i
theorem b7_66 : B7 66 := by intro t; kxf_run_i
theorem b7_67 : B7 67 := by intro t; kxf_run_i
theorem b7_68 : B7 68 := by intro t; kxf_run_i
theorem b7_69 : B7 69 := by intro t; kxf_run_i
theorem b7_70 : B7 70 := by intro t; kxf_run_i
theorem b7_71 : B7 71 := by intro t; kxf_run_i
theorem b7_72 : B7 72 := by intro t; kxf_run_i
theorem b7_73 : B7 73 := by intro t; kxf_run_i
theorem b7_74 : B7 74 := by intro t; kxf_run_i
theorem b7_75 : B7 75 := by intro t; kxf_run_i
theorem b7_76 : B7 76 := by intro t; kxf_run_i
theorem b7_77 : B7 77 := by intro t; kxf_run_i
theorem b7_78 : B7 78 := by intro t; kxf_run_i
theorem b7_79 : B7 79 := by intro t; kxf_run_i
theorem b7_80 : B7 80 := by intro t; kxf_run_i
theorem b7_81 : B7 81 := by intro t; kxf_run_i
theorem b7_82 : B7 82 := by intro t; kxf_run_i
theorem b7_83 : B7 83 := by intro t; kxf_run_i
theorem b7_84 : B7 84 := by intro t; kxf_run_i
theorem b7_85 : B7 85 := by intro t; kxf_run_i
theorem b7_86 : B7 86 := by intro t; kxf_run_i
theorem b7_87 : B7 87 := by intro t; kxf_run_i
theorem b7_88 : B7 88 := by intro t; kxf_run_i
theorem b7_89 : B7 89 := by intro t; kxf_run_i
theorem b7_90 : B7 90 := by intro t; kxf_run_i
theorem b7_91 : B7 91 := by intro t; kxf_run_i
theorem b7_92 : B7 92 := by intro t; kxf_run_i
theorem b7_93 : B7 93 := by intro t; kxf_run_i
theorem b7_94 : B7 94 := by intro t; kxf_run_i
theorem b7_95 : B7 95 := by intro t; kxf_run_i
theorem b7_96 : B7 96 := by intro t; kxf_run_i
theorem b7_97 : B7 97 := by intro t; kxf_run_i
theorem b7_98 : B7 98 := by intro t; kxf_run_i
theorem b7_99 : B7 99 := by intro t; kxf_run_i
theorem b7_100 : B7 100 := by intro t; kxf_run_i
theorem b7_101 : B7 101 := by intro t; kxf_run_i
theorem b7_102 : B7 102 := by intro t; kxf_run_i
theorem b7_103 : B7 103 := by intro t; kxf_run_i
theorem b7_104 : B7 104 := by intro t; kxf_run_i
theorem b7_105 : B7 105 := by intro t; kxf_run_i
theorem b7_106 : B7 106 := by intro t; kxf_run_i
theorem b7_107 : B7 107 := by intro t; kxf_run_i
theorem b7_108 : B7 108 := by intro t; kxf_run_i
theorem b7_109 : B7 109 := by intro t; kxf_run_i
theorem b7_110 : B7 110 := by intro t; kxf_run_i
theorem b7_111 : B7 111 := by intro t; kxf_run_i
theorem b7_112 : B7 112 := by intro t; kxf_run_i
theorem b7_113 : B7 113 := by intro t; kxf_run_i
theorem b7_114 : B7 114 := by intro t; kxf_run_i
theorem b7_115 : B7 115 := by intro t; kxf_run_i
theorem b7_116 : B7 116 := by intro t; kxf_run_i
theorem b7_117 : B7 117 := by intro t; kxf_run_i
theorem b7_118 : B7 118 := by intro t; kxf_run_i
theorem b7_119 : B7 119 := by intro t; kxf_run_i
theorem b7_120 : B7 120 := by intro t; kxf_run_i
theorem b7_121 : B7 121 := by intro t; kxf_run_i
theorem b7_122 : B7 122 := by intro t; kxf_run_i
theorem b7_123 : B7 123 := by intro t; kxf_run_i
theorem b7_124 : B7 124 := by intro t; kxf_run_i
theorem b7_125 : B7 125 := by intro t; kxf_run_i
theorem b7_126 : B7 126 := by intro t; kxf_run_i
end RF

set_option Elab.async false
set_option linter.all false
set_option maxRecDepth 100000
set_option maxHeartbeats 400000
/-! Part 12: the seven figures as a rule; dict comprehensions; a def called with keywords. -/
namespace RF
open PySem PySem.Spec L2
/-- one by one -/
inductive AllB : List Nat → Prop
  | nil : AllB []
  | cons {n : Nat} {l : List Nat} (h : B7 n) (r : AllB l) : AllB (n :: l)
theorem AllB.mem : ∀ {l : List Nat}, AllB l → ∀ n ∈ l, B7 n
  | _, .nil, n, h => by cases h
  | _, .cons h r, n, m => by
    rcases List.mem_cons.mp m with e | m
    · exact e ▸ h
    · exact r.mem n m
theorem b7c0 : AllB [10, 32, 33, 34, 35, 36, 38, 39, 40, 41, 42, 43] :=
  .cons b7_10 (
  .cons b7_32 (
  .cons b7_33 (
  .cons b7_34 (
  .cons b7_35 (
  .cons b7_36 (
  .cons b7_38 (
  .cons b7_39 (
  .cons b7_40 (
  .cons b7_41 (
  .cons b7_42 (
  .cons b7_43 (
  .nil))))))))))))
theorem b7c12 : AllB [44, 45, 46, 47, 48, 49, 50, 51, 52, 53, 54, 55] :=
  .cons b7_44 (
  .cons b7_45 (
  .cons b7_46 (
  .cons b7_47 (
  .cons b7_48 (
  .cons b7_49 (
  .cons b7_50 (
  .cons b7_51 (
  .cons b7_52 (
  .cons b7_53 (
  .cons b7_54 (
  .cons b7_55 (
  .nil))))))))))))
theorem b7c24 : AllB [56, 57, 58, 59, 60, 61, 62, 63, 64, 65, 66, 67] :=
  .cons b7_56 (
  .cons b7_57 (
  .cons b7_58 (
  .cons b7_59 (
  .cons b7_60 (
  .cons b7_61 (
  .cons b7_62 (
  .cons b7_63 (
  .cons b7_64 (
  .cons b7_65 (
  .cons b7_66 (
  .cons b7_67 (
  .nil))))))))))))
theorem b7c36 : AllB [68, 69, 70, 71, 72, 73, 74, 75, 76, 77, 78, 79] :=
  .cons b7_68 (
  .cons b7_69 (
  .cons b7_70 (
  .cons b7_71 (
  .cons b7_72 (
  .cons b7_73 (
  .cons b7_74 (
  .cons b7_75 (
  .cons b7_76 (
  .cons b7_77 (
  .cons b7_78 (
  .cons b7_79 (
  .nil))))))))))))
theorem b7c48 : AllB [80, 81, 82, 83, 84, 85, 86, 87, 88, 89, 90, 91] :=
  .cons b7_80 (
  .cons b7_81 (
  .cons b7_82 (
  .cons b7_83 (
  .cons b7_84 (
  .cons b7_85 (
  .cons b7_86 (
  .cons b7_87 (
  .cons b7_88 (
  .cons b7_89 (
  .cons b7_90 (
  .cons b7_91 (
  .nil))))))))))))
theorem b7c60 : AllB [92, 93, 94, 95, 96, 97, 98, 99, 100, 101, 102, 103] :=
  .cons b7_92 (
  .cons b7_93 (
  .cons b7_94 (
  .cons b7_95 (
  .cons b7_96 (
  .cons b7_97 (
  .cons b7_98 (
  .cons b7_99 (
  .cons b7_100 (
  .cons b7_101 (
  .cons b7_102 (
  .cons b7_103 (
  .nil))))))))))))
theorem b7c72 : AllB [104, 105, 106, 107, 108, 109, 110, 111, 112, 113, 114, 115] :=
  .cons b7_104 (
  .cons b7_105 (
  .cons b7_106 (
  .cons b7_107 (
  .cons b7_108 (
  .cons b7_109 (
  .cons b7_110 (
  .cons b7_111 (
  .cons b7_112 (
  .cons b7_113 (
  .cons b7_114 (
  .cons b7_115 (
  .nil))))))))))))
theorem b7c84 : AllB [116, 117, 118, 119, 120, 121, 122, 123, 124, 125, 126] :=
  .cons b7_116 (
  .cons b7_117 (
  .cons b7_118 (
  .cons b7_119 (
  .cons b7_120 (
  .cons b7_121 (
  .cons b7_122 (
  .cons b7_123 (
  .cons b7_124 (
  .cons b7_125 (
  .cons b7_126 (
  .nil)))))))))))
def b7codes : List Nat := [10, 32, 33, 34, 35, 36, 38, 39, 40, 41, 42, 43] ++ ([44, 45, 46, 47, 48, 49, 50, 51, 52, 53, 54, 55] ++ ([56, 57, 58, 59, 60, 61, 62, 63, 64, 65, 66, 67] ++ ([68, 69, 70, 71, 72, 73, 74, 75, 76, 77, 78, 79] ++ ([80, 81, 82, 83, 84, 85, 86, 87, 88, 89, 90, 91] ++ ([92, 93, 94, 95, 96, 97, 98, 99, 100, 101, 102, 103] ++ ([104, 105, 106, 107, 108, 109, 110, 111, 112, 113, 114, 115] ++ ([116, 117, 118, 119, 120, 121, 122, 123, 124, 125, 126])))))))
theorem AllB.app : ∀ {l m : List Nat}, AllB l → AllB m → AllB (l ++ m)
  | _, _, .nil, h => h
  | _, _, .cons h r, g => .cons h (r.app g)
theorem b7all : ∀ n ∈ b7codes, B7 n := AllB.mem (b7c0.app (b7c12.app (b7c24.app (b7c36.app (b7c48.app (b7c60.app (b7c72.app (b7c84))))))))
theorem b7_field {prog : Program} {w : World} {A : Around} {E : Value → Shared → Prop} {s : Shared} {n : Nat} {t : Tok} {sp : Str} {Q : Value → Shared → Prop} (hs : sp = ⟨#[48, 55, 98]⟩) (hn : n ∈ b7codes) (h : ∀ t' k, Q (.str (bits7 n) t') { s with toks := k }) :
    wpAny (model prog w) A (formatField (.int n t) sp) Q E s :=
  PySem.W.KXf.field_int hs (by decide +kernel) (by decide +kernel) (fun u => b7all n hn t u) h
def wB7 (a : WE) : WE := fun σ hp e Q => a σ hp e fun p h => ∃ n : Nat, p = .int n ∧ n ∈ b7codes ∧ Q (.str (bits7 n)) h
section
variable {X : Cx} {C : Cfg} {E : XK} {x : Expr} {wa : WE}
theorem re_b7 {sp : Str} {k : Nat} {p1 p2 p3 p4 : Pos} (hs : sp = ⟨#[48, 55, 98]⟩) (ha : RE X C E x wa) : RE X C E (.JoinedStr [.FormattedValue x (-1) (some (.JoinedStr [.Constant (.str sp) k p1] p2)) p3] p4) (wB7 wa) := by
  refine ⟨fun σ hp e Q Q' i q => ha.mo _ _ _ _ _ (fun p h ⟨n, e1, e2, q⟩ => ⟨n, e1, e2, i _ _ q⟩) q, ⟨fun pins s σ H Q I h => ?_⟩⟩
  refine wpAny_JoinedStr_one (wpAny_FormattedValue_spec ?_)
  have h2 : tE C E wa σ H (fun v H1 => ∃ n : Nat, v = .int n ∧ n ∈ b7codes ∧ Q (.str (bits7 n)) H1) := by
    obtain ⟨μ, hp, σI, e, A, s, q⟩ := h
    exact tE.go ha.mo A s q fun p h1 μ1 H1 v ⟨n, e1, e2, q1⟩ u1 A1 s1 r1 => by
      subst e1
      exact ⟨n, r1.intI, e2, (q1.up u1).here A1 .str'⟩
  refine thn (ha.pe.run pins s σ H _ I h2) fun u s1 ⟨v, H1, I1, r1, n, ev, hn, q1⟩ => ?_
  subst ev
  obtain ⟨t, rfl⟩ := r1
  refine wpAny_JoinedStr_one ?_
  refine thn (pe_str.run pins s1 σ H1 (fun v H2 => v = .str sp ∧ H2 = H1) I1 ⟨rfl, rfl⟩) fun u2 s2 ⟨v2, H2, I2, r2, ev, eH⟩ => ?_
  subst ev eH
  obtain ⟨t2, rfl⟩ := r2
  exact ⟨sp, t2, rfl, b7_field hs hn fun t' k => ⟨.str (bits7 n), _, I2.tok k, ⟨t', rfl⟩, q1⟩⟩
end

/-! ### {k: v for ..} -/
def compD (tg : Tg) (tt : WT) (ek ev : WE) (σ : SI) : List PV → List (Key × PV) → PH → (List (Key × PV) → PH → Prop) → Prop
  | [], acc, hp, Q => Q acc hp
  | p :: ps, acc, hp, Q => ∃ σ', tg.go p σ = some σ' ∧ tt σ' hp eNo fun b h => if b = true then ek σ' h eNo fun y h1 => ev σ' h1 eNo fun z h2 => ∃ k, keyP y = some k ∧ acc.length < sizeLine ∧ compD tg tt ek ev σ ps (putP acc k z) h2 Q
    else compD tg tt ek ev σ ps acc h Q
theorem compD.mo {tg : Tg} {tt : WT} {ek ev : WE} {σ : SI} (mt : MoT tt) (mk : MoE ek) (mv : MoE ev) {Q Q' : List (Key × PV) → PH → Prop} (i : ∀ p h, Q p h → Q' p h) : ∀ (ps : List PV) (acc : List (Key × PV)) (hp : PH), compD tg tt ek ev σ ps acc hp Q → compD tg tt ek ev σ ps acc hp Q'
  | [], acc, hp, q => i _ _ q
  | p :: ps, acc, hp, ⟨σ', e, q⟩ => ⟨σ', e, mt _ _ _ _ _ (fun b h q => ite_mono (mk _ _ _ _ _ fun y h1 q => mv _ _ _ _ _ (fun z h2 ⟨k, e, l, q⟩ => ⟨k, e, l, compD.mo mt mk mv i ps _ h2 q⟩) q) (compD.mo mt mk mv i ps acc h) q) q⟩
def wDc (tg : Tg) (vs : List Nat) (it : WA) (tt : WT) (ek ev : WE) : WE := fun σ hp e Q => it σ hp e fun ps h => compD tg tt ek ev (wpI σ vs) ps [] h fun qs h2 => Q (.dct qs) h2
section
variable {X : Cx} {C : Cfg} {E : XK} {tge iter ke ve : Expr} {ifs : List Expr} {scope : Scope} {own : List (Str × Nat)} {tg : Tg} {it : WA} {tt : WT} {ek ev : WE} {pos : Pos}
theorem re_dc (hK : X.K = C.K) (hc : X.calm = true) (hN : X.N.Nodup) (hi : RI X C E tge iter it) (ok : blkC X.N X.env.scope scope own = true) (hv : ∀ i ∈ tg.ix, i ∈ own.map (·.2))
    (hg : ∀ s H Ca cl fp, TgIs (X.blk s H scope (compEnvC scope cl Ca X.env) fp) tge tg) (ht : ∀ s H Ca cl fp, RTs (X.blk s H scope (compEnvC scope cl Ca X.env) fp) C E0 ifs tt)
    (hk : ∀ s H Ca cl fp, RE (X.blk s H scope (compEnvC scope cl Ca X.env) fp) C E0 ke ek) (he : ∀ s H Ca cl fp, RE (X.blk s H scope (compEnvC scope cl Ca X.env) fp) C E0 ve ev)
    (hs : ∀ x, foldedSetIterable iter X.env x = pure x) : RE X C E (.DictComp ke ve [⟨tge, iter, ifs, 0⟩] scope pos) (wDc tg (own.map (·.2)) it tt ek ev) := by
  have mt : MoT tt := (ht X.s_0 X.H_0 0 [] []).mo
  have mk : MoE ek := (hk X.s_0 X.H_0 0 [] []).mo
  have mv : MoE ev := (he X.s_0 X.H_0 0 [] []).mo
  refine ⟨fun σ hp e Q Q' i q => hi.mo _ _ _ _ _ (fun ps h q => compD.mo mt mk mv (fun _ _ q => i _ _ q) _ _ _ q) q,
    PE.imp (PE.fz (pe_dc (g := tg.g X.K) hc hN hi.pi (blkOk_by ok) (fun s H Ca cl fp => TgIs.pg (X := X.blk s H scope (compEnvC scope cl Ca X.env) fp) hc hN (hg s H Ca cl fp)) (fun s H Ca cl fp => (ht s H Ca cl fp).pts) (fun s H Ca cl fp => (hk s H Ca cl fp).pe) (fun s H Ca cl fp => (he s H Ca cl fp).pe) hs))
      fun σ H Q ⟨μ, hp, σI, e, A, s, q⟩ => ?_⟩
  show tDc _ (tg.g X.K) _ _ _ _ _ _ _
  rw [hK]
  refine ⟨μ, hp, σI, e, A, s, hi.mo _ _ _ _ _ (fun ps h1 q1 μ1 H1 u1 r1 J W => ?_) q⟩
  intro D hD
  have hD0 : Fr H D := u1.fr (fr_none hD)
  have uD : Up μ1 H1 μ1 (upd H1 D (.dK [])) := Up.fresh hD
  refine ⟨fun i m H2 => m = ps.length - i ∧ i ≤ ps.length ∧ ∃ μ2 hp2 acc ys, Up μ1 H1 μ2 H2 ∧ HR C μ2 H2 hp2 ∧ D ∉ μ2 ∧ H2 D = some (.dK ys) ∧ RKs C.K μ2 H2 acc ys ∧ compD tg tt ek ev (wpI σI (own.map (·.2))) (ps.drop i) acc hp2 fun qs h2 => fE C μ H Q (.dct qs) h2,
    ⟨_, rfl, Nat.zero_le _, μ1, h1, [], [], uD, r1.fresh hD, r1.notin hD, upd_same, .nil, q1⟩, ?_⟩
  rintro i m H2 ⟨em, hi, μ2, hp2, acc, ys, u2, r2, nD, eD, rv, q2⟩
  by_cases hl : i < ps.length
  · rw [List.drop_eq_getElem_cons hl] at q2
    obtain ⟨σ', e3, q3⟩ := q2
    refine .inr ⟨W.go μ2 H2 i u2 hl, fun H' => ∃ m', m' < m ∧ m' = ps.length - (i + 1) ∧ i + 1 ≤ ps.length ∧ ∃ μ2 hp2 acc ys, Up μ1 H1 μ2 H' ∧ HR C μ2 H' hp2 ∧ D ∉ μ2 ∧ H' D = some (.dK ys) ∧ RKs C.K μ2 H' acc ys ∧ compD tg tt ek ev (wpI σI (own.map (·.2))) (ps.drop (i + 1)) acc hp2 fun qs h2 => fE C μ H Q (.dct qs) h2,
      fun H' z => z, fun x H' y => ?_⟩
    obtain ⟨rx, u3, keep⟩ := W.yl μ2 H2 i x H' _ u2 (List.getElem?_eq_getElem hl) y
    have sI := (((s.up u1).up u2).up u3).wipe (own.map (·.2))
    refine Tg.okB rx sI e3 fun σ4 s4 l4 n4 => ⟨?_, ?_⟩
    · rw [← wipe2 (σ := σ) (vs := own.map (·.2))]
      exact wipe_eq l4 fun j m => n4 j fun z => m (hv j z)
    · refine tT.go mt ⟨keep _ r2, eok0⟩ s4 q3 fun b h5 μ5 H5 q5 u5 A5 s5 => ?_
      have u25 := u3.trans u5
      obtain ⟨eD5, nD5⟩ := u25.notin eD rfl nD
      refine ite_mono (fun q5 => ?_) (fun q5 => ?_) q5
      · refine tE.go mk A5 s5 q5 fun yk h6 μ6 H6 vk q6 u6 A6 s6 r6 => ?_
        obtain ⟨eD6, nD6⟩ := u6.notin eD5 rfl nD5
        refine tE.go mv A6 s6 q6 fun yv h7 μ7 H7 vv ⟨k, ek7, l7, q7⟩ u7 A7 s7 r7 => ?_
        obtain ⟨eD7, nD7⟩ := u7.notin eD6 rfl nD6
        have rv7 := RKs.up ((u25.trans u6).trans u7) _ _ rv
        have e7 := keyP_V r6 ek7
        subst e7
        refine ⟨ys, k, rfl, eD7, by rw [rv7.length]; exact l7, ?_⟩
        exact ⟨_, (by omega : ps.length - (i + 1) < m), rfl, hl, μ7, h7, putP acc k yv, putK ys k vv, (((u2.trans u25).trans u6).trans u7).wrN (fr_none hD) eD7 rfl nD7, A7.hr.wrN eD7 rfl nD7, nD7, upd_same, RKs.up0 (Up0.wrN eD7 rfl) _ _ (rv7.put r7), q7⟩
      · exact ⟨_, (by omega : ps.length - (i + 1) < m), rfl, hl, μ5, h5, acc, ys, u2.trans u25, A5.hr, nD5, eD5, RKs.up u25 _ _ rv, q5⟩
  · have e1 : ps.drop i = [] := List.drop_of_length_le (by omega)
    rw [e1] at q2
    exact .inl ⟨W.st μ2 H2 i u2 (by omega), q2.lockD (u1.trans u2) hD0 r2 eD nD rv⟩
end

/-! ### raise -/
def wRaise (c : Str) (a : WA) : WS := fun σ hp e D => a σ hp e fun ps h => ∃ p, ps = [p] ∧ e c p h
theorem rs_raise {X : Cx} {C : Cfg} {E : XK} {a : Expr} {w : WA} {p pos pos2 : Pos} {k : Nat} {cn : Str} {B fI : Addr} (hc : X.calm = true) (T : RX.ErrTxt X.K cn (fldOf cn) (He.ga C.K cn) B fI) (gC : X.mg cn = some (.ref (He.ga C.K cn))) (hr : Room k X.A) (tk : Takes X (fun cls d _ H => E cls d H))
    (hg : Gl X cn) (ha : RA X C E [a] w) (hdb : (cn == ("__debug__" : Str)) = false) (he : starEach [a] X.env = (false, eval a X.env) :: starEach [] X.env) (hpl : (backTo pos (starEach [] X.env)).any (·.1) = false) :
    RS X C E (.Raise (some (.Call (.Name cn p) [a] [] pos)) none pos2) (wRaise cn w) := by
  refine ⟨fun σ hp e D D' l q => q, PS.imp (ps_raise hc tk (RX.pmk_err T hr ha.pa hg gC hdb he hpl)) fun D σ H ⟨μ, hp, σI, e, A, s, q⟩ => ?_⟩
  refine tA.go ha.mo A s q fun ps h1 μ1 H1 vs ⟨p, e1, q1⟩ u1 A1 s1 r1 => ?_
  subst e1
  obtain ⟨v, rfl, rv⟩ := r1.one
  refine ⟨v, rfl, fun d hd => ?_⟩
  have u2 : Up μ1 H1 μ1 (upd H1 d (.xd [(fldOf cn, v)])) := Up.fresh hd
  exact A1.eok cn p h1 μ1 _ d v u2 (A1.hr.fresh hd) upd_same (RV.up u2 _ _ rv) q1
end RF

set_option Elab.async false
set_option linter.all false
set_option maxRecDepth 100000
set_option maxHeartbeats 1000000
/-! Part X2: isinstance of a caught error that has its own dict; the same chain as the library's for one without. -/
namespace RX
open PySem PySem.Spec PySem.W PySem.Calls PyProof.Rows PySem.HandSPX L2
section
variable {prog : Program} {w : World} {A : Around} {E : Value → Shared → Prop} {s : Shared} {K : Frag} {x D : Addr} {ox od : Obj}
theorem cls_of_err {Q : Option Value → Shared → Prop} (C : ExcC K D) (X : K.In s.heap) (inst : InstAt s.heap x ox D (some od)) (fin : Q (some (.ref D)) { s with toks := s.toks + 1 }) :
    wpAny (model prog w) A (getAttr? (.ref x) "__class__") Q E s := by
  have there : (clsIn K D).isSome = true := by
    obtain ⟨cd, hc, _⟩ := any_some C.hd
    rw [hc]
    rfl
  have found := findObj_data (od := od) there C.ha C.hn C.ht
  obtain ⟨hp, gn, dr, tk, os⟩ := s
  have ty := inst.type (M := model prog w)
  have lga := looks_findIn (M := model prog w) X C.hg
  have lgt := looks_findIn (M := model prog w) X C.hk
  have fnd := looks_find (M := model prog w) X inst found
  have isB : Looks (model prog w) hp (isInstance (.ref x) (.type "BaseException")) true :=
    ty.andThen (looks_subIn X C.hs)
  have no1 : (Value.builtin "BaseException.__getattribute__" ==
      Value.builtin "object.__getattribute__") = false := by decide +kernel
  have no2 : (onTheHeap (Value.ref D) && Value.builtin "BaseException.__getattribute__" ==
      Value.builtin "object.__getattribute__") = false := by rw [no1]; rfl
  have no3 : (false && onTheHeap (Value.builtin "BaseException.__getattribute__")) = false :=
    rfl
  unfold getAttr?
  unfold getAttrBy? getAttrBy
  refine wpAny_bind (wpAny_mkText (wpAny_bind (wpAny_attempt (wpAny_holding (wpAny_bind (ty.at (wpAny_bind (lga.at ?_))))))))
  show wpAny _ _ (if (onTheHeap (Value.ref D) && Value.builtin "BaseException.__getattribute__" ==
    Value.builtin "object.__getattribute__") = true then _ else _) _ _ _
  rw [no2, if_neg Bool.false_ne_true]
  unfold getAttrByItsOwn
  unfold hookBefore
  refine wpAny_bind ?_
  rw [if_pos (show onTheHeap (Value.ref D) = true by rfl)]
  refine lgt.at ?_
  refine wpAny_bind (wpAny_attempt (wpAny_holding ?_))
  unfold callGetattribute
  rw [no3, if_neg Bool.false_ne_true]
  unfold boundAndCalled
  rw [PySem.F.excAttr_ValueError.ga.bind (Value.ref x)]
  refine wpAny_bind (wpAny_pure ?_)
  show wpAny _ _ (call (Value.builtin "BaseException.__getattribute__") [Value.ref x, .str "__class__" tk]) _ _ _
  refine wpAny_call (codeAny_call_builtin (PySem.F.excAttr_ValueError.ga).plain PySem.F.entry_bexc_ga ?_)
  refine @check_slot (model prog w) _ _ ⟨hp, gn, dr, tk + 1, os⟩ "BaseException.__getattribute__" "BaseException" "__getattribute__" (.ref x)
    [.str "__class__" tk] [] _ (by decide +kernel) (by decide +kernel) isB (PySem.F.args_bexc_ga (.ref x) (.str "__class__" tk)) ?_
  unfold Builtin.«object.__getattribute__»
  refine wpAny_bind (wpAny_of_eq (a := ((Value.ref x : Value), [Value.str "__class__" tk])) (by first | rfl | (simp only [slotArgs]; rfl)) ?_)
  refine wpAny_bind (wpAny_pure (wpAny_bind (ty.at (wpAny_bind (fnd.at ?_)))))
  show wpAny _ _ (holding [Value.builtin "object.__class__"]
    (call (.builtin "getset_descriptor.__get__") [.builtin "object.__class__", .ref x, .ref D]) >>= ret) _ _ _
  refine wpAny_bind (wpAny_holding (wpAny_call (class_get (s := ⟨hp, gn, dr, tk + 1, os⟩) (ox := ox) (od := some od) X inst C.hm ?_)))
  refine wpAny_pure ?_
  show wpAny _ _ (handedOut (.ref D)) _ _ _
  rw [handedOut_of (v := Value.ref D) rfl]
  first
    | exact wpAny_pure (wpAny_pure fin)
    | exact wpAny_pure fin
    | exact wpAny_pure (wpAny_bind (wpAny_pure (wpAny_pure fin)))
theorem kitx_err (C : ExcC K D) : KitX K (.ref x) (.ref D) (fun h => InstAt h x ox D (some od)) where
  ty := fun _ _ _ inst => inst.type
  it := fun _ h X _ => by
    obtain ⟨cd, hc, _⟩ := any_some C.hd
    unfold clsIn at hc
    split at hc
    · rename_i c1 d1 cd1 sl1 look
      intro A1 Q1 E1 s1 keep q
      unfold isType
      unfold loadHead
      refine wpAny_bind (wpAny_loadPart (keep _ _ (X _ _ look)) ?_)
      exact wpAny_pure q
    · cases hc
  ne := fun h tp dd its n sl X here => by
    obtain ⟨cd, hc, _⟩ := any_some C.hd
    cases q : (Value.ref D == .ref tp) with
    | false => rfl
    | true =>
      have e : D = tp := Value.ref.inj (beq_iff_eq.mp q)
      subst e
      unfold clsIn at hc
      split at hc
      · rename_i c1 d1 cd1 sl1 look
        cases (X _ _ look).symm.trans here
      · cases hc
  ca := fun X inst fin => cls_of_err C X inst fin
end
/-- isinstance(e, c), e the error that the suite holds, with its own dict -/
theorem call_isD {X : Cx} {a D dd : Addr} {oe : Obj} {pn : List (Addr × Obj)} {fs : List (Str × V)} (C : ExcC X.K D) (hz : Zc (.ref D) (some dd) oe) (hf : ∃ vs, oe.data = .fields vs) :
    CallR (X.suite a ((a, oe) :: pn)) (.builtin "isinstance") (fun xs H Q => H dd = some (.xd fs) ∧ rIsE X.K D a xs H Q) := by
  intro pins s σ H xs us Q I r ⟨hx, c, cv, b, e0, hcv, e, q⟩
  subst e0
  cases r with
  | cons rx rr =>
    cases rr with
    | cons rt rr =>
      cases rr
      cases rx
      have ec := hcv _ rt
      subst ec
      obtain ⟨hget, _⟩ := I.pin (a, oe) (List.mem_append_left _ List.mem_cons_self)
      obtain ⟨vs, hv⟩ := hf
      obtain ⟨mA, hns, hr⟩ := (show ObjOk X.prog X.w H s.heap dd (.xd fs) from I.hok dd _ hx)
      obtain ⟨od, ho, _⟩ := lookIn_ns hns
      have inst : InstAt s.heap a oe D (some od) := ⟨hget, hz.1, by unfold notCls; rw [hv] <;> rfl, by rw [hz.2]; exact ho⟩
      exact kia_one (kitx_err C) I.kIn inst e (fun z => nomatch z) fun tk => ⟨.bl b, H, I.kept (t' := tk) fun _ _ z => z, rfl, q⟩
end RX

set_option Elab.async false
set_option linter.all false
set_option maxRecDepth 100000
set_option maxHeartbeats 1000000
/-! Part L1: a lambda handed to a def that calls it, while nothing is being shown. -/
namespace RF
open PySem PySem.Spec L2
open PyProof.Rows (envOfC)
open L2
section
variable {C : Cfg} {μ μ' : List Addr} {H H1 H' : Hp} {hp : PH}
theorem Up.extN (e : LamX.ExtN H H1) : Up μ H μ H1 := ⟨fun _ _ h => h, fun a o s h => e a o h (stab_nt s), fun a ⟨o, h, n⟩ => ⟨o, e a o h n, n⟩, fun a o l h n => ⟨e a o h (lsd_nt l), n⟩⟩
theorem HR.extN (r : HR C μ H hp) (e : LamX.ExtN H H1) (t : LamX.Tabs C.T H1) : HR C μ H1 hp := ⟨r.nd, fun a m => (Up.extN (μ := μ) e).dm a (r.lv a m), fun n c h => by
  obtain ⟨a, e1, e2⟩ := r.cell n c h
  refine ⟨a, e1, ?_⟩
  obtain ⟨o, h1, h2⟩ := e2.nt
  exact e2.up (Up.extN e) ((e a o h1 h2).trans h1.symm), t, r.xd.up0 (Up.extN e).weak⟩
/-- more is known of what stands by -/
def Cfg.more (C : Cfg) (xs : List (Addr × Str × PV)) (cs : List (Addr × Str)) (sl : List (List (Option PV) × St)) : Cfg := { C with xs := xs, cs := cs, sl := sl }
theorem CellR.cfg {C' : Cfg} (hK : C'.K = C.K) {a : Addr} {c : Cell} (h : CellR C μ H a c) : CellR C' μ H a c := by
  cases c with
  | lst ps =>
    obtain ⟨vs, h1, h2⟩ := h
    exact ⟨vs, h1, by rw [hK]; exact h2⟩
  | dct ps =>
    obtain ⟨vs, h1, h2⟩ := h
    exact ⟨vs, h1, by rw [hK]; exact h2⟩
theorem HR.cfg {C' : Cfg} (hK : C'.K = C.K) (hT : C'.T = C.T) (r : HR C μ H hp) (x : XD C' μ H) : HR C' μ H hp := ⟨r.nd, r.lv, fun n c h => by
  obtain ⟨a, e1, e2⟩ := r.cell n c h
  exact ⟨a, e1, e2.cfg hK⟩, by rw [hT]; exact r.tabs, x⟩
theorem SR.cfg {C' : Cfg} (hK : C'.K = C.K) {σI : SI} {σ : St} (s : SR C μ H σI σ) : SR C' μ H σI σ := ⟨s.len, fun i p e => by rw [hK]; exact s.get i p e⟩
/-- ends between two such -/
theorem fE.cfg {C' : Cfg} (hK : C'.K = C.K) (hT : C'.T = C.T) (x : XD C' μ H) {Q : VK} {p : PV} {h : PH} (q : fE C' μ H Q p h) : fE C μ H Q p h := fun μ' H' v u r rv => q μ' H' v u (r.cfg hK hT (x.up0 u.weak)) (by rw [hK]; exact rv)
theorem EOK.cfg {C' : Cfg} (hK : C'.K = C.K) (hT : C'.T = C.T) (x : XD C' μ H) {E : XK} {e : EI} (q : EOK C' E e μ H) : EOK C E e μ H := fun c p hp μ' H' d v u r xe rv ee => by
  have z := q c p hp μ' H' d v u (r.cfg hK hT (x.up0 u.weak)) xe (by rw [hK]; exact rv) ee
  rw [hK] at z
  exact z
end
/-- calling what stands in slot i -/
def wAct (f : Addr) (w : PH → EI → KI → Prop) : WE := fun σ hp e Q => σ[0]? = some (some (.ref f)) ∧ w hp e Q
section
variable {X : Cx} {pins : List (Addr × Obj)} {σ : L2.St} {H HZ : Hp} {s s1 : Shared}
open LamX in
theorem act_pe {CXg : CXT} {Eg : XK} {Ng : List Str} {qg : Str} {sg : Scope} {g f c' : Addr} {cdg pm ctv : Value} {params : Arguments} {body : Expr} {scope : Scope} {k : Nat} {a : Str} {pn : List (Addr × Obj)} {xe : Value → Shared → Prop} {Eb : XK} {tb : TE} {p1 p2 : Pos}
    (I : Inv X pins σ H s) (L : LamS X.env.scope scope) (hf : s.heap.get? f = some (PySem.W.kla_obj "<lambda>" (X.env.qual ++ "<lambda>") params body scope (cloFrom X.env.cells scope.names []) pm c' ctv)) (hfn : H f = none) (hfr : f ∉ frs X.stack)
    (hbind : bindArgs (PySem.W.kla_fn "<lambda>" (X.env.qual ++ "<lambda>") params body scope (cloFrom X.env.cells scope.names []) pm (.ref c') ctv) ⟨[], []⟩ = pure [])
    (tk : Takes ((cxOf CXg X.prog X.w X.K X.mg X.base Ng qg sg g cdg X.A X.stack s H Eg).tr pn xe) (fun cls d _ H => Eb cls d H)) (hG : Calm X.A) (room : Room (k + 1) (X.A.deeper (envOfC qg sg s.heap.objs.size g cdg)))
    (hb : ∀ (A : Around) (out : List Env) (s : Shared) (H : Hp), Calm A → Room k (A.deeper (lamEnv X scope s.heap.objs.size f c')) → PE (lamCx X A out s H Eb scope f c') body tb)
    (hN : Ng[0]? = some a) (hv : Vis sg a) (hd : (a == ("__debug__" : Str)) = false) (hcd : (a == ("__classdict__" : Str)) = false) :
    PE ((cxOf CXg X.prog X.w X.K X.mg X.base Ng qg sg g cdg X.A X.stack s H Eg).tr pn xe) (.Call (.Name a p1) [] [] p2)
      (fun σZ HZ Q => σZ[0]? = some (some (.ref f)) ∧ HZ c' = some (CodeO c' (X.env.qual ++ "<lambda>")) ∧ tb σ HZ Q) := by
  constructor
  rintro pz sZ σZ HZ Q IZ ⟨here, code, go⟩
  apply wpAny_Call_Name_kw
  refine thn ((pe_var (pos := p1) hN hv hd hcd).run pz sZ σZ HZ (fun v H2 => v = .ref f ∧ H2 = HZ) IZ ⟨.ref f, here, rfl, rfl⟩) ?_
  rintro u s1 ⟨v, H2, I1, r1, rfl, rfl⟩
  obtain rfl : u = Value.ref f := r1
  have obj := I1.base.keep f _ hf hfn hfr fun z => nomatch (show f ∈ ([] : List Addr) from z)
  refine PySem.W.callWith_F0 ⟨_, _, _, _, obj⟩ ?_
  have un : Un (frs X.stack) [] H H2 s.heap s1.heap := I1.base
  obtain ⟨⟨oc, vs, t, c1, c2, c3⟩, _, _⟩ := I1.hok c' _ code
  have run : codeAny (model X.prog X.w) (X.A.deeper (envOfC qg sg s.heap.objs.size g cdg)) (.call (.ref f) ⟨[], []⟩) (CR (L2.CX X.prog X.w) (envOfC qg sg s.heap.objs.size g cdg :: X.stack) X.prog X.w H2 s1 Q Eb) s1 := by
    refine PySem.W.kla_callFunE room.depth obj rfl L.co L.gen rfl ⟨c', oc, vs, t, rfl, c1, c2, c3⟩ ?_
    rw [hbind]
    refine wpAny_pure (wpAny_newFunctionEnv (fun y hy => (L.own y hy).2) (fun y hy => absurd hy (by simp)) (fun h2 hns same => ⟨I1.nolimit.fresh _ same, ?_⟩) L.kind)
    show codeAny _ _ (.expr body (lamEnv X scope s1.heap.objs.size f c')) _ _
    have keep : ∀ b o, s1.heap.get? b = some o → h2.get? b = some o :=
      fun b o e => same.extBut b o (Nat.ne_of_lt (Heap.lt_size e)) (Heap.get?_push_of_some _ e)
    have e0 : Env0 X.prog X.w X.K X.mg X.base (X.A.deeper (envOfC qg sg s.heap.objs.size g cdg)) (envOfC qg sg s.heap.objs.size g cdg :: X.stack) s1 H2 := I1.env0
    have J : Inv (lamCx X (X.A.deeper (envOfC qg sg s.heap.objs.size g cdg)) (envOfC qg sg s.heap.objs.size g cdg :: X.stack) s1 H2 Eb scope f c') [] σ H2
        { s1 with heap := h2, toks := s1.toks + ([] : List (Str × Value)).length } := lam_start2 I L e0 room.hd un hns keep
    refine PySem.W.kla_codeExpr (wpAny_mono ((hb (X.A.deeper (envOfC qg sg s.heap.objs.size g cdg)) (envOfC qg sg s.heap.objs.size g cdg :: X.stack) s1 H2 hG (room.deeper _)).run [] _ _ H2 Q J go) ?_ fun _ _ q => q)
    rintro v s' ⟨w', H', J', rv, q⟩
    exact ⟨w', H', J'.os, J'.bare, J'.base, J'.hok, rv, q⟩
  refine wpAny_call ?_
  refine codeAny_mono run ?_
  intro r s' z
  match r, z with
  | .error e, z => exact passes_call tk (fun _ _ _ _ q => q) pz σZ H2 s1 e s' I1 z
  | .ok (.ret u), z => exact I1.after z
end
end RF

set_option Elab.async false
set_option linter.all false
set_option maxRecDepth 100000
set_option maxHeartbeats 1000000
/-! Part L2: g(lambda: body); try .. except X as e; the caught error in the suite. -/
namespace RF
open PySem PySem.Spec L2
open PyProof.Rows (envOfC)
abbrev WL := PH → EI → KI → Prop
def MoL (w : WL) : Prop := ∀ hp e Q Q', (∀ p h, Q p h → Q' p h) → w hp e Q → w hp e Q'
/-- what the def makes of the lambda's meaning -/
abbrev BT := WL → PH → KI → Prop
def wLam (wl : WE) (bt : BT) : WE := fun σ hp e Q => bt (fun h e' Q' => wl σ h e' Q') hp Q
/-- the context of the def's body, entered from X -/
abbrev lamZ (X : Cx) (Ng : List Str) (x : Str) (sg : Scope) (g : Addr) (cdv : Value) (s : Shared) (H : Hp) : Cx := cxOf (L2.CX X.prog X.w) X.prog X.w X.K X.mg X.base Ng x sg g cdv X.A X.stack s H E0
section
variable {X : Cx} {C : Cfg} {E : XK}
open LamX in
theorem re_lam {x a : Str} {g c P : Addr} {k : Nat} {fd : FuncData} {pg : Arguments} {bg : List Stmt} {sg : Scope} {Ng : List Str} {params : Arguments} {body : Expr} {scope : Scope} {wl : WE} {bt : BT} {bw : Addr → WL → WS} {p lpos pos : Pos} {kws : List (Str × V)} {dvs : List V}
    (hK : X.K = C.K) (gl : Gl X x) (hm : X.mg x = some (.ref g)) (hk : PySem.W.keepIn X.K (.ref g) = true) (F : FunD X.K x x pg bg sg dvs kws g fd) (hb : Binds X.K fd [a] []) (Sg : FnScope Ng [a] sg) (hva : Vis sg a)
    (TB : TabB X.base X.mg c P) (hcode : X.env.code = .ref c) (hmT : (P, X.env.qual ++ "<lambda>") ∈ C.T) (hu : ∀ p ∈ C.T, p.1 = P → p.2 = X.env.qual ++ "<lambda>") (room : Room (k + 2) X.A) (hG : Calm X.A)
    (L : LamS X.env.scope scope) (hdef : defaultsOf params X.env = ([], []))
    (hbind : ∀ (q : Str) (cl : List (Str × Addr)) (pm cv ctv : Value), bindArgs (PySem.W.kla_fn "<lambda>" q params body scope cl pm cv ctv) ⟨[], []⟩ = pure [])
    (hbody : ∀ (A : Around) (out : List Env) (s : Shared) (H : Hp) (Eb : XK) (f c' : Addr), Calm A → Room k (A.deeper (lamEnv X scope s.heap.objs.size f c')) → RE (lamCx X A out s H Eb scope f c') C Eb body wl)
    (mbt : ∀ w hp Q Q', (∀ p h, Q p h → Q' p h) → bt w hp Q → bt w hp Q')
    (hbg : ∀ (cdv : Value) (s : Shared) (H : Hp) (f : Addr) (C' : Cfg) (w : WL), C'.K = C.K → MoL w →
      (∀ pn xe Eb p1 p2, Takes ((lamZ X Ng x sg g cdv s H).tr pn xe) (fun cls d _ H => Eb cls d H) → RE ((lamZ X Ng x sg g cdv s H).tr pn xe) C' Eb (.Call (.Name a p1) [] [] p2) (wAct f w)) →
      Calm (lamZ X Ng x sg g cdv s H).A → Room (k + 1) (lamZ X Ng x sg g cdv s H).A → RSs (lamZ X Ng x sg g cdv s H) C' E0 bg (bw f w))
    (hbt : ∀ f w hp Q, MoL w → bt w hp Q → bw f w (some (.ref f) :: List.replicate (Ng.length - 1) none) hp eNo { nx := fun _ h => ∃ h', leP h' h ∧ Q .non h', rt := fun p h => ∃ h', leP h' h ∧ Q p h' })
    (hdb : (x == ("__debug__" : Str)) = false) (hd : (a == ("__debug__" : Str)) = false) (hcd : (a == ("__classdict__" : Str)) = false) :
    RE X C E (.Call (.Name x p) [.Lambda params body scope lpos] [] pos) (wLam wl bt) := by
  obtain ⟨oc, od, dV, kV, doc, pm, an, cdv, ct, osl, rfl, look, code, _, _⟩ := F.ex
  have mwl : MoE wl := (hbody { X.A with guards := some [], handled := none, depth := 0, units := 0, frames := none } [] X.s_0 X.H_0 (fun _ _ _ => False) 0 0 rfl ⟨rfl, by
    have := room.dp
    show 0 + 1 + 3 * k + 5 < recursionLimit
    omega, by
    have := room.un
    show 0 + 3 + 16 * k + 200 < cLine
    omega⟩).mo
  refine ⟨fun σ hp e Q Q' i q => mbt _ _ _ _ i q, ⟨fun pins s σ H Q I h => ?_⟩⟩
  obtain ⟨μ, hp, σI, e, A, sr, q⟩ := h
  apply wpAny_Call_Name_kw
  refine ld_glob I gl hm ?_ hdb
  refine PySem.W.callWith_K (h₀ := X.base) I.ok.mod.kin hk ?_ (by rfl) (by rfl)
  show wpAny _ _ (spliced ((false, eval (.Lambda params body scope lpos) X.env) :: backTo pos (starEach [] X.env))) _ _ s
  refine Calls.spliced_cons (lam_make2 I TB hcode hmT hu A.hr.tabs hdef (L.has I.ok) ?_)
  intro f c' pm' ctv H1 s' I1 eN T1 hf hfn hfr hco
  refine Calls.spliced_nil ⟨I1.kIn, ?_⟩
  have u1 : Up μ H μ H1 := Up.extN eN
  have r1 := A.hr.extN eN T1
  let C' : Cfg := C.more C.xs ((c', X.env.qual ++ "<lambda>") :: C.cs) ((σI, σ) :: C.sl)
  have sr1 := sr.up u1
  have x0 : XD C μ H1 := r1.xd
  have x1 : XD C' μ H1 := ⟨x0.xs, fun z hz => by
    rcases List.mem_cons.mp hz with hz | hz
    · subst hz; exact hco
    · exact x0.cs z hz, fun z hz => by
    rcases List.mem_cons.mp hz with hz | hz
    · subst hz; exact ⟨sr1.len, sr1.get⟩
    · exact x0.sl z hz, x0.scr⟩
  have back : ∀ {μ2 : List Addr} {H2 : Hp}, XD C' μ2 H2 → XD C μ2 H2 := fun z => ⟨z.xs, fun q hq => z.cs q (List.mem_cons_of_mem _ hq), fun q hq => z.sl q (List.mem_cons_of_mem _ hq), z.scr⟩
  have r2 : HR C' μ H1 hp := HR.cfg (C := C) (C' := C') rfl rfl r1 x1
  have mw : MoL fun h e' Q' => wl σI h e' Q' := fun h e' Q1 Q2 i z => mwl _ _ _ _ _ i z
  have run : codeAny (model X.prog X.w) X.A (.call (.ref g) ⟨[.ref f], []⟩) (CR (L2.CX X.prog X.w) X.stack X.prog X.w H1 s' Q E0) s' := by
    refine run_ofS (N := Ng) (ps := [a]) (us := [.ref f]) (vs := [.ref f]) look code Sg room I1.env0 (hb s' [.ref f] I1.kIn rfl) (.cons rfl .nil) rfl fun room' => ?_
    have hNg : Ng[0]? = some a := by
      have z := Sg.pre
      cases Ng with
      | nil => cases z
      | cons n ns =>
        have z : n :: ([] : List Str) = [a] := z
        cases z
        rfl
    have R := hbg cdv s' H1 f C' (fun h e' Q' => wl σI h e' Q') rfl mw ?_ hG room'
    · refine ⟨_, R.ps, ?_⟩
      have ss : SR C' μ H1 (some (.ref f) :: List.replicate (Ng.length - 1) none) (L2.start Ng [.ref f]) := by
        have z := sr_start (C := C') (μ := μ) (H := H1) (N := Ng.length) (qs := [PV.ref f]) (vs := [V.ref f]) (.cons (by simp only [RV]) .nil)
        exact z
      refine tS.go R.mo ⟨r2, eok0⟩ ss (hbt f _ hp _ mw q) ⟨fun σ2 h2 q2 μ2 H2 σ3 u2 r3 s3 => ?_, fun p2 h2 q2 μ2 H2 v2 u2 r3 rv => ?_, fun _ _ z => z.elim, fun _ _ z => z.elim⟩
      · obtain ⟨h', l, q3⟩ := q2
        exact q3 μ2 H2 .non (u1.trans u2) ((HR.cfg (C := C') (C' := C) rfl rfl r3 (back r3.xd)).less l) .non'
      · obtain ⟨h', l, q3⟩ := q2
        exact q3 μ2 H2 v2 (u1.trans u2) ((HR.cfg (C := C') (C' := C) rfl rfl r3 (back r3.xd)).less l) rv
    · intro pn xe Eb p1 p2 tk
      have act := act_pe (p1 := p1) (p2 := p2) (tb := tE C Eb wl) I1 L hf hfn hfr (hbind _ _ _ _ _) tk hG room' (fun A out s H g rm => (hbody A out s H Eb f c' g rm).pe) hNg hva hd hcd
      refine ⟨fun σ hp e Q Q' i ⟨z1, z2⟩ => ⟨z1, mw _ _ _ _ i z2⟩, PE.imp act ?_⟩
      rintro σZ HZ QZ ⟨μZ, hZ, σZI, eZ, AZ, sZ, z1, z2⟩
      obtain ⟨v, z3, z4⟩ := sZ.get 0 _ z1
      rw [z4.refI] at z3
      have xs := AZ.hr.xd
      have hsl := xs.sl (σI, σ) (List.mem_cons_self ..)
      refine ⟨z3, xs.cs (c', _) (List.mem_cons_self ..), μZ, hZ, σI, eZ, ⟨?_, ?_⟩, ⟨hsl.1, hsl.2⟩, ?_⟩
      · exact HR.cfg (C := C') (C' := C) rfl rfl AZ.hr (back xs)
      · exact EOK.cfg (C := C) (C' := C') rfl rfl xs AZ.eok
      · exact mwl _ _ _ _ _ (fun p h q => fE.cfg (C := C) (C' := C') rfl rfl xs q) z2
  refine wpAny_call (codeAny_mono run ?_)
  intro r s2 z
  match r, z with
  | .error e, z => exact passes_call LamX.takes0 (fun _ _ _ _ q => q) pins σ H1 s' e s2 I1 z
  | .ok (.ret u), z => exact I1.after z
end
end RF

set_option Elab.async false
set_option linter.all false
set_option maxRecDepth 100000
set_option maxHeartbeats 1000000
/-! Part L3: try .. except X as e; the caught error in the suite. -/
namespace RF
open PySem PySem.Spec L2
def hEnd (i : Nat) (D : DI) : DI := { nx := fun σ h => D.nx (σ.set i none) h, rt := D.rt, bk := fun σ h => D.bk (σ.set i none) h, ct := fun σ h => D.ct (σ.set i none) h }
def wTry (errs : List Str) (n i : Nat) (wb : WS) (ws : Str → PV → Addr → WS) : WS := fun σ hp e D => ∃ (D0 : DI) (e0 : EI), D0.le D ∧ (∀ c p h, e0 c p h → c ∈ errs ∧ ∀ a, ws c p a ((List.replicate n none).set i (some (.ref a))) h eNo (hEnd i D0)) ∧ wb σ hp e0 D0
theorem SR.unset {C : Cfg} {μ : List Addr} {H : Hp} {σI : SI} {σ : St} (s : SR C μ H σI σ) (i : Nat) : SR C μ H (σI.set i none) (σ.set i none) := by
  refine ⟨by simpa using s.len, fun j p e => ?_⟩
  by_cases h : i = j
  · subst h
    by_cases hl : i < σI.length
    · rw [List.getElem?_set_self hl] at e
      cases e
    · rw [List.getElem?_eq_none (by simpa using hl)] at e
      cases e
  · rw [List.getElem?_set_ne h] at e ⊢
    exact s.get j p e
theorem sr_blank {C : Cfg} {μ : List Addr} {H : Hp} {n : Nat} {σ : St} (h : σ.length = n) : SR C μ H (List.replicate n none) σ := ⟨by simp [h], fun i p e => by
  rw [List.getElem?_replicate] at e
  split at e <;> cases e⟩
section
variable {X : Cx} {C : Cfg} {E : XK} {x n : Str} {c : Value} {i : Nat} {body suite : List Stmt} {b₀ : Stmt} {np pos pos' : Pos} {wb : WS} {ws : Str → PV → Addr → WS} {errs : List Str}
theorem rs_try (hK : X.K = C.K) (hs : X.stack = X.env :: X.outer) (hf : X.env.frame = some X.env.locals) (hN : X.N.Nodup) (hi : X.N[i]? = some n) (hln : X.env.kindOf n = some .local) (hc : Names X x c)
    (hte : ∀ cn ∈ errs, PySem.W.exmOne X.K (.ref (He.ga C.K cn)) c = some true)
    (hb : ∀ (pn : List (Addr × Obj)) (xe : Value → Shared → Prop) (Eb : XK), Takes (X.tr pn xe) (fun cls d _ H => Eb cls d H) → PassesOwn (model X.prog X.w) X.A X.env xe → RSs (X.tr pn xe) C Eb body wb)
    (hsu : ∀ cn ∈ errs, ∀ (p : PV) (a dd : Addr) (oe : Obj) (pn : List (Addr × Obj)), Zc (.ref (He.ga C.K cn)) (some dd) oe → (∃ vs, oe.data = .fields vs) → RSs (X.suite a ((a, oe) :: pn)) (C.more ((dd, fldOf cn, p) :: C.xs) C.cs C.sl) E0 (b₀ :: suite) (ws cn p a)) :
    RS X C E (.Try body [.ExceptHandler (some (.Name x np)) (some n) (b₀ :: suite) pos'] [] [] pos) (wTry errs X.N.length i wb ws) := by
  have mb : MoS wb := (hb [] (fun _ _ => False) E0 LamX.takes0 PassesOwn.never).mo
  refine ⟨fun σ hp e D D' l ⟨D0, e0, l0, he, q⟩ => ⟨D0, e0, l0.trans l, he, q⟩, PS.imp (ps_try_as (tb := fun W D σ H => ∃ Eb : XK, (∀ cls d σ' H', σ'.length = X.N.length → Eb cls d H' → W cls d σ' H') ∧ tS C Eb wb D σ H)
    (ts := fun a cls d D σ H => ∃ cn p dd, cn ∈ errs ∧ cls = .ref (He.ga C.K cn) ∧ d = some dd ∧ tS (C.more ((dd, fldOf cn, p) :: C.xs) C.cs C.sl) E0 (ws cn p a) D σ H) hs hf hN hi hln hc LamX.takes0 ?_ ?_) ?_⟩
  · intro W pn xe tk po
    refine ⟨fun pins s σ H D I ⟨Eb, hW, ht⟩ => (hb pn xe Eb ?_ po).ps.run pins s σ H D I ht⟩
    rintro u s' ⟨a, B, sI, pz, σ', H', cls, d, e1, I1, nb, up, sky, na, os, ag, w⟩
    exact tk u s' ⟨a, B, sI, pz, σ', H', cls, d, e1, I1, nb, up, sky, na, os, ag, hW _ _ _ _ I1.len w⟩
  · intro a oe cls d pn hz hd
    refine ⟨fun pins s σ H D I ⟨cn, p, dd, hm, e1, e2, ht⟩ => ?_⟩
    subst e1 e2
    exact (hsu cn hm p a dd oe pn hz hd).ps.run pins s σ H D I ht
  · rintro D σ H ⟨μ, hp, σI, e, A, s, D0, e0, l, he, q⟩
    refine ⟨fun cls d H' => ∀ σ' : St, σ'.length = X.N.length → wAs X.K c i (fun a cls d D σ H => ∃ cn p dd, cn ∈ errs ∧ cls = .ref (He.ga C.K cn) ∧ d = some dd ∧ tS (C.more ((dd, fldOf cn, p) :: C.xs) C.cs C.sl) E0 (ws cn p a) D σ H) (fun _ _ _ _ => False) D cls d σ' H',
      fun cls d σ' H' hl z => z σ' hl, μ, hp, σI, _, ⟨A.hr, ?_⟩, s, mb _ _ _ _ _ l q⟩
    rintro cn p hp' μ' H' d v u r xd rv z0 σ' hl
    obtain ⟨hm, hh⟩ := he _ _ _ z0
    refine ⟨true, hte cn hm, fun _ a na => ⟨cn, p, d, hm, rfl, rfl, μ', hp', (List.replicate X.N.length none).set i (some (.ref a)), eNo, ⟨?_, eok0⟩, ?_, ?_⟩, fun z => nomatch z⟩
    · refine HR.cfg (C := C) rfl rfl r ⟨fun z hz => ?_, r.xd.cs, r.xd.sl, r.xd.scr⟩
      rcases List.mem_cons.mp hz with hz | hz
      · subst hz
        exact ⟨v, xd, rv⟩
      · exact r.xd.xs z hz
    · exact (sr_blank hl).set (by simp only [RV])
    · have ms : MoS (ws cn p a) := (hsu cn hm p a d { cls := .ref (He.ga C.K cn), dict := some d, data := .fields #[] } [] ⟨rfl, rfl⟩ ⟨_, rfl⟩).mo
      have down : ∀ {μ2 : List Addr} {H2 : Hp} {h : PH}, HR (C.more ((d, fldOf cn, p) :: C.xs) C.cs C.sl) μ2 H2 h → HR C μ2 H2 h := fun z => HR.cfg (C := C.more ((d, fldOf cn, p) :: C.xs) C.cs C.sl) (C' := C) rfl rfl z ⟨fun q hq => z.xd.xs q (List.mem_cons_of_mem _ hq), z.xd.cs, z.xd.sl, z.xd.scr⟩
      have sdn : ∀ {μ2 : List Addr} {H2 : Hp} {σI : SI} {σ : St}, SR (C.more ((d, fldOf cn, p) :: C.xs) C.cs C.sl) μ2 H2 σI σ → SR C μ2 H2 σI σ := fun z => ⟨z.len, z.get⟩
      refine ms _ _ _ _ _ ⟨fun σ2 h2 q2 μ2 H2 σ3 u2 r3 s3 => ?_, fun p2 h2 q2 μ2 H2 v2 u2 r3 rv2 => ?_, fun σ2 h2 q2 μ2 H2 σ3 u2 r3 s3 => ?_, fun σ2 h2 q2 μ2 H2 σ3 u2 r3 s3 => ?_⟩ (hh a)
      · exact l.nx _ _ q2 μ2 H2 _ (u.trans u2) (down r3) ((sdn s3).unset i)
      · exact l.rt _ _ q2 μ2 H2 v2 (u.trans u2) (down r3) rv2
      · exact l.bk _ _ q2 μ2 H2 _ (u.trans u2) (down r3) ((sdn s3).unset i)
      · exact l.ct _ _ q2 μ2 H2 _ (u.trans u2) (down r3) ((sdn s3).unset i)
end
/-! ### e in the suite -/
def wEis (i : Nat) (a : Addr) (b : Bool) : WE := fun σ hp e Q => σ[i]? = some (some (.ref a)) ∧ Q (.bl b) hp
def wEth (i : Nat) (a : Addr) (f cn : Str) (p : PV) : WE := fun σ hp e Q => σ[i]? = some (some (.ref a)) ∧ f = fldOf cn ∧ Q p hp
section
variable {X : Cx} {C : Cfg} {E : XK} {n cn c2 : Str} {i : Nat} {a dd : Addr} {oe : Obj} {pn : List (Addr × Obj)} {p : PV} {p0 p1 p2 pos : Pos} {b : Bool} {f : Str}
theorem re_eis (hK : X.K = C.K) (hz : Zc (.ref (He.ga C.K cn)) (some dd) oe) (hd : ∃ vs, oe.data = .fields vs) (hx : (dd, fldOf cn, p) ∈ C.xs) (K1 : ExcC X.K (He.ga C.K cn)) (hk : PySem.W.kitOne X.K (.ref (He.ga C.K cn)) (.ref (He.ga C.K c2)) = some b)
    (gl : Gl (X.suite a ((a, oe) :: pn)) "isinstance") (hm : X.mg "isinstance" = none) (glc : Gl (X.suite a ((a, oe) :: pn)) c2) (hmc : X.mg c2 = some (.ref (He.ga C.K c2))) (hN : X.N[i]? = some n) (hv : Vis X.env.scope n)
    (d1 : (n == ("__debug__" : Str)) = false) (d2 : (n == ("__classdict__" : Str)) = false) (d3 : (c2 == ("__debug__" : Str)) = false)
    (he : starEach [Expr.Name n p1, .Name c2 p2] X.env = (false, eval (.Name n p1) X.env) :: starEach [.Name c2 p2] X.env) (he2 : starEach [Expr.Name c2 p2] X.env = (false, eval (.Name c2 p2) X.env) :: starEach [] X.env) (hpl : (backTo pos (starEach [Expr.Name c2 p2] X.env)).any (·.1) = false) :
    RE (X.suite a ((a, oe) :: pn)) C E (.Call (.Name "isinstance" p0) [.Name n p1, .Name c2 p2] [] pos) (wEis i a b) := by
  have hc : CallR (X.suite a ((a, oe) :: pn)) (.builtin "isinstance") (fun xs H Q => ∃ fs, H dd = some (.xd fs) ∧ rIsE X.K (He.ga C.K cn) a xs H Q) := by
    intro pins s σ H xs us Q I r ⟨fs, h⟩
    exact RX.call_isD (fs := fs) K1 hz hd pins s σ H xs us Q I r h
  refine ⟨fun σ hp e Q Q' j ⟨z, q⟩ => ⟨z, j _ _ q⟩, PE.imp (pe_callB (X := X.suite a ((a, oe) :: pn)) hc gl hm (by rfl) (pa_cons (pe_var (X := X.suite a ((a, oe) :: pn)) (i := i) hN hv d1 d2) (pa_cons (pe_glob (X := X.suite a ((a, oe) :: pn)) (v := .ref (He.ga C.K c2)) glc hmc rfl d3) pa_nil he2) he) (by decide) (by decide) he hpl) fun σ H Q ⟨μ, hp, σI, e, A, s, z, q⟩ => ?_⟩
  obtain ⟨v, h1, h2⟩ := s.get i _ z
  rw [h2.refI] at h1
  obtain ⟨w, hw, _⟩ := A.hr.xd.xs _ hx
  exact ⟨.ref a, h1, _, hw, .ref (He.ga C.K c2), .ref (He.ga C.K c2), b, rfl, fun u r => r, hk, q.here A .bl'⟩
theorem re_eth {B fI : Addr} (hK : X.K = C.K) (hz : Zc (.ref (He.ga C.K cn)) (some dd) oe) (hd : ∃ vs, oe.data = .fields vs) (hx : (dd, fldOf cn, p) ∈ C.xs) (T : RX.ErrTxt X.K cn (fldOf cn) (He.ga C.K cn) B fI)
    (hN : X.N[i]? = some n) (hv : Vis X.env.scope n) (d1 : (n == ("__debug__" : Str)) = false) (d2 : (n == ("__classdict__" : Str)) = false) (hb : attributeBase (.Name n p1) f X.env (eval (.Name n p1) X.env) = eval (.Name n p1) X.env) :
    RE (X.suite a ((a, oe) :: pn)) C E (.Attribute (.Name n p1) f pos) (wEth i a f cn p) := by
  refine ⟨fun σ hp e Q Q' j ⟨z, z2, q⟩ => ⟨z, z2, j _ _ q⟩, ⟨fun pins s σ H Q I ⟨μ, hp, σI, e, A, sr, z, ef, q⟩ => ?_⟩⟩
  subst ef
  obtain ⟨v, h1, h2⟩ := sr.get i _ z
  rw [h2.refI] at h1
  obtain ⟨w, hw, rw'⟩ := A.hr.xd.xs _ hx
  refine (RX.pe_byErr (pos := pos) T hz hd (pe_var (X := X.suite a ((a, oe) :: pn)) (pos := p1) (i := i) hN hv d1 d2) hb).run pins s σ H Q I ⟨.ref a, h1, rfl, rfl, dd, w, rfl, hw, q.here A rw'⟩
end
end RF

set_option Elab.async false
set_option linter.all false
set_option maxRecDepth 100000
set_option maxHeartbeats 1000000
/-! Part E1: the end of a law whose defs keep their promises while nothing is being shown; tables of code objects by the way. -/
namespace RF
open PySem PySem.Spec L2 PyProof.Rows LamX
/-- what is tracked at the law's call: the tables, the script (unless it is one of the module's own things) -/
def H0 (K : PySem.W.Frag) (cs : List (Addr × Addr)) (a : Addr) (vs : List Value) (ns : List Int) : Hp := fun b =>
  if b ∈ cs.map (·.2) then some (.tbl #[])
  else if b = a ∧ K.lookup a = none then some (.frz { cls := .type "list", data := .seq vs.toArray } (.lst (ns.map V.int))) else none
section
variable {P : Program} {w : World} {K : PySem.W.Frag} {mg mb : Str → Option Value} {k : Nat} {fa a : Addr} {cs : List (Addr × Addr)} {T : List (Addr × Str)} {fd : FuncData} {x : Str} {f : WF} {s1 : Shared} {vs : List Value} {ns : List Int}
theorem H0_tab {b : Addr} (h : b ∈ cs.map (·.2)) : H0 K cs a vs ns b = some (.tbl #[]) := if_pos h
theorem H0_cases (b : Addr) : (b ∈ cs.map (·.2) ∧ H0 K cs a vs ns b = some (.tbl #[])) ∨
    (b ∉ cs.map (·.2) ∧ b = a ∧ K.lookup a = none ∧ H0 K cs a vs ns b = some (.frz { cls := .type "list", data := .seq vs.toArray } (.lst (ns.map V.int)))) ∨
    (b ∉ cs.map (·.2) ∧ ¬ (b = a ∧ K.lookup a = none) ∧ H0 K cs a vs ns b = none) := by
  by_cases h : b ∈ cs.map (·.2)
  · exact .inl ⟨h, if_pos h⟩
  · by_cases h2 : b = a ∧ K.lookup a = none
    · exact .inr (.inl ⟨h, h2.1, h2.2, (if_neg h).trans (if_pos h2)⟩)
    · exact .inr (.inr ⟨h, h2, (if_neg h).trans (if_neg h2)⟩)
theorem law_goG (KX : K.In s1.heap) (hns : s1.heap.Ns mainGlobals mg) (hb : s1.heap.Ns builtinsNs mb) (hbb : ∀ x : Str, x ≠ "__name__" → mb x = bootBuiltins x) (hlim : s1.heap.NoLimit) (hg : s1.gens = #[])
    (hT : ∀ p ∈ cs, s1.heap.get? p.2 = some { cls := .none, data := .fields #[] }) (nT : ∀ p ∈ cs, K.lookup p.2 = none) (hC : ∀ p ∈ cs, PySem.W.CodeHd s1.heap p.1 p.2)
    (hbm : ∃ (bm : Addr) (ob : Obj), mg "__builtins__" = some (.ref bm) ∧ bm ≠ builtinsNs ∧ s1.heap.get? bm = some ob ∧ ob.cls = .type "module" ∧ ob.dict = some builtinsNs ∧ ob.data = .plain)
    (ha : s1.heap.get? a = some { cls := .type "list", data := .seq vs.toArray }) (hi : IntsAre vs ns) (hl : ns.length ≤ sizeLine) (room : Room k callerA) (hTq : ∀ p ∈ T, p.1 ∈ cs.map (·.2))
    (F : ∀ base : Heap, K.In base → base.Ns mainGlobals mg → (∀ p ∈ cs, TabB base mg p.1 p.2) → FnG P w K mg base k fa fd [x] (spI ⟨K, T, [], [], [], [(a, ns)]⟩ 1 f))
    (hbind : ∀ (s : Shared) (u : Value), BindsTo s fd ⟨[u], []⟩ [(x, u)])
    (hf : ∀ Q : KI, (∀ hp, Q (.bl true) hp) → f [.ref a] (fun _ => none) eNo Q) :
    codeAny (model P w) callerA (.call (.ref fa) ⟨[.ref a], []⟩) (fun r s' => r = .ok (.ret (.bool true)) ∧ OldK s1.heap s'.heap ∧ s'.os = s1.os ∧ AllBare s'.gens) s1 := by
  have rel := vals_ints hi
  have len := hi.length
  have tab : ∀ {b : Addr}, b ∈ cs.map (·.2) → ∃ p ∈ cs, p.2 = b ∧ s1.heap.get? b = some { cls := .none, data := .fields #[] } := fun {b} m => by
    obtain ⟨p, hp, rfl⟩ := List.mem_map.mp m
    exact ⟨p, hp, rfl, hT p hp⟩
  have notTab : a ∉ cs.map (·.2) := fun m => by
    obtain ⟨p, _, _, e⟩ := tab m
    have e := congrArg Obj.data (Option.some.inj (ha.symm.trans e))
    cases e
  generalize hH : H0 K cs a vs ns = H
  have cases3 := H0_cases (K := K) (cs := cs) (a := a) (vs := vs) (ns := ns)
  rw [hH] at cases3
  -- what has neither the data of a list nor those of an empty table is not tracked
  have plain : ∀ {b : Addr} {o : Obj}, s1.heap.get? b = some o → (∀ us n, o.data ≠ .seq us n) → o.data ≠ .fields #[] → H b = none := fun {b o} e d1 d2 => by
    rcases cases3 b with ⟨m, _⟩ | ⟨_, rfl, _, _⟩ | ⟨_, _, z⟩
    · obtain ⟨p, _, _, e'⟩ := tab m
      rw [e] at e'
      cases e'
      exact (d2 rfl).elim
    · rw [e] at ha
      cases ha
      exact (d1 _ _ rfl).elim
    · exact z
  have dicts : ∀ {b : Addr} {m : Str → Option Value}, s1.heap.Ns b m → (hidT s1.heap H).Ns b m := fun {b m} ⟨o, es, ep, e, d, r⟩ =>
    ⟨o, es, ep, hidT_get e (plain e (fun us n z => by rw [d] at z; cases z) fun z => by rw [d] at z; cases z), d, r⟩
  have inK : K.In (hidT s1.heap H) := fun b o look => hidT_get (KX b o look) (by
    rcases cases3 b with ⟨m, _⟩ | ⟨_, rfl, no, _⟩ | ⟨_, _, z⟩
    · obtain ⟨p, hp, rfl⟩ := List.mem_map.mp m
      rw [nT p hp] at look
      cases look
    · rw [no] at look
      cases look
    · exact z)
  have mod : L2.Mod K mg (hidT s1.heap H) := ⟨inK, dicts hns, ⟨mb, dicts hb, hbb⟩, by
    obtain ⟨mc, c1, c2⟩ := hlim
    exact ⟨mc, dicts c1, c2⟩⟩
  have tabs : ∀ p ∈ cs, TabB (hidT s1.heap H) mg p.1 p.2 := fun p hp => by
    have here := hT p hp
    refine ⟨?_, ?_, fun z => ?_⟩
    · obtain ⟨o, us, file, tf, flags, tg, inF, text, tt, e1, r1, r2, r3, rest⟩ := hC p hp
      refine ⟨o, us, file, tf, flags, tg, inF, text, tt, hidT_get e1 (plain e1 (fun us n z => ?_) fun z => ?_), r1, r2, r3, rest⟩
      · rw [r2] at z
        cases z
      · rw [r2] at z
        cases z
        simp at r3
    · obtain ⟨bm, ob, b1, b2, b3, b4, b5, b6⟩ := hbm
      refine ⟨bm, ob, b1, b2, fun q => ?_, fun q => ?_, hidT_get b3 (plain b3 (fun us n z => by rw [b6] at z; cases z) fun z => by rw [b6] at z; cases z), b4, b5, b6⟩
      · obtain ⟨o, es, ep, e, hd, _⟩ := hns
        rw [← q, b3] at e
        cases e
        rw [b6] at hd
        cases hd
      · rw [q, here] at b3
        cases b3
        cases b6
    · obtain ⟨o, es, ep, e, hd, _⟩ := hns
      rw [z, here] at e
      cases e
      cases hd
  have hok : HOk P w H s1.heap := fun b u e => by
    rcases cases3 b with ⟨m, z⟩ | ⟨_, rfl, _, z⟩ | ⟨_, _, z⟩
    · rw [e] at z
      cases z
      obtain ⟨_, _, _, e'⟩ := tab m
      exact e'
    · rw [e] at z
      cases z
      exact ⟨ha, by rw [List.length_map]; exact hl, vs, _, rel, ha⟩
    · rw [e] at z
      cases z
  have scr : StL K H a (ns.map V.int) := by
    cases look : K.lookup a with
    | none =>
      rcases cases3 a with ⟨m, _⟩ | ⟨_, _, _, z⟩ | ⟨_, no, _⟩
      · exact absurd m notTab
      · exact .inl ⟨_, z⟩
      · exact absurd ⟨rfl, look⟩ no
    | some o =>
      have e := KX a o look
      rw [ha] at e
      cases e
      exact .inr fun H' => .inr ⟨_, vs.toArray, _, look, rfl, rfl, rfl, by rw [List.size_toArray, len]; exact hl, by simpa using rel⟩
  have e0 : Env0 P w K mg (hidT s1.heap H) callerA [] s1 H := ⟨rfl, mod, fun b o e => of_hidT e, Nat.le_of_eq (hidT_size _ _), trivial, fun b hb => absurd hb List.not_mem_nil, hok, .of_eq hg⟩
  have hr : HR ⟨K, T, [], [], [], [(a, ns)]⟩ [] H (fun _ => none) := ⟨List.nodup_nil, fun _ m => absurd m List.not_mem_nil, fun n c e => (nomatch (show (none : Option Cell) = some c from e)),
    fun p hp => TabS.nil (by
      have m := hTq p hp
      rcases cases3 p.1 with ⟨_, z⟩ | ⟨no, _⟩ | ⟨no, _⟩
      · exact z
      · exact absurd m no
      · exact absurd m no),
    ⟨fun q hq => absurd hq List.not_mem_nil, fun q hq => absurd hq List.not_mem_nil, fun q hq => absurd hq List.not_mem_nil, fun q hq => by
      cases List.mem_singleton.mp hq
      exact scr⟩⟩
  have sp : spI ⟨K, T, [], [], [], [(a, ns)]⟩ 1 f [V.ref a] H (fun v _ => v = .bl true) E0 :=
    ⟨rfl, [], fun _ => none, [.ref a], eNo, ⟨hr, eok0⟩, .cons (by simp only [RV]) .nil, hf _ fun hp μ' H' v u r rv => rv.blI⟩
  refine codeAny_mono ((F _ inK (dicts hns) tabs).go callerA [] s1 H ⟨[.ref a], []⟩ [.ref a] [.ref a] _ _ rfl room e0 (hbind s1 (.ref a)) (.cons rfl .nil) sp) ?_
  intro r s' z
  match r, z with
  | .error e, z =>
    obtain ⟨_, _, _, _, _, _, _, _, _, _, _, _, no⟩ := (show L2.CX P w [] H s1 E0 e s' from z)
    exact no.elim
  | .ok (.ret u), ⟨v, H', os, bare, un, hok', rv, q⟩ =>
    have q : v = .bl true := q
    subst q
    obtain rfl : u = Value.bool true := rv
    have key : ∀ b o, b ∉ cs.map (·.2) → s1.heap.get? b = some o → s'.heap.get? b = some o := fun b o nb e => by
      rcases cases3 b with ⟨m, _⟩ | ⟨_, rfl, _, z⟩ | ⟨_, _, z⟩
      · exact absurd m nb
      · have z2 := un.frzs _ _ _ z
        obtain ⟨e1, _⟩ := hok _ _ z
        obtain ⟨e2, _⟩ := hok' _ _ z2
        rw [e] at e1
        cases e1
        exact e2
      · exact un.keep b o e z (fun m => absurd m List.not_mem_nil) List.not_mem_nil
    have more : ∀ b, b ∈ cs.map (·.2) → ∃ more : Array Value, s'.heap.get? b = some { cls := .none, data := .fields more } := fun b m => by
      obtain ⟨more, z⟩ := un.tbls b #[] (by
        rcases cases3 b with ⟨_, z⟩ | ⟨no, _⟩ | ⟨no, _⟩
        · exact z
        · exact absurd m no
        · exact absurd m no)
      exact ⟨_, hok' b _ z⟩
    refine ⟨rfl, ⟨fun b o e => ?_, fun b o e => ?_⟩, os, bare⟩
    · by_cases m : b ∈ cs.map (·.2)
      · obtain ⟨ps, hm⟩ := more b m
        obtain ⟨p, hp, rfl, e'⟩ := tab m
        rw [e'] at e
        cases e
        exact .inr (.inl ⟨((hC p hp).tab (hT p hp)).isCodeTable, rfl, #[], ps, rfl, by rw [Array.empty_append]; exact hm⟩)
      · exact .inl (key b o m e)
    · by_cases m : b ∈ cs.map (·.2)
      · obtain ⟨ps, hm⟩ := more b m
        exact ⟨_, hm⟩
      · exact ⟨o, key b o m e⟩
end
end RF

set_option Elab.async false
set_option linter.all false
set_option maxRecDepth 100000
set_option maxHeartbeats 1000000
/-! Part H1: what the head tells: facts of the module's objects, the tables of code objects, own errors. -/
namespace RH
open PySem PySem.Spec PySem.W PyProof.Rows L2
/-- an empty table -/
def isT : Option Obj → Bool
  | some ⟨.none, none, .fields us, sl⟩ => us.isEmpty && sl.isEmpty
  | _ => false
theorem isT_ok {o : Option Obj} (h : isT o = true) : o = some { cls := .none, data := .fields #[] } := by
  unfold isT at h
  split at h
  · rename_i us sl
    obtain ⟨h1, h2⟩ := Bool.and_eq_true_iff.mp h
    rw [Array.isEmpty_iff.mp h1, Array.isEmpty_iff.mp h2]
  · cases h
def codeAd (K : Frag) (x : Str) : Addr := match K.lookup (He.ga K x) with
  | some ⟨_, _, .func fd, _⟩ => (match fd.code with
    | .ref c => c
    | _ => 0)
  | _ => 0
def tabAd (K : Frag) (x : Str) : Addr := match K.lookup (codeAd K x) with
  | some ⟨_, _, .fields vs, _⟩ => (match (vs[11]? : Option Value) with
    | some (.ref P) => P
    | _ => 0)
  | _ => 0
def kR (n : Nat) (g : Addr → Option Obj) : Frag := He.frG g ((He.asD g n).filter fun a => !isT (g a))
def tabB (g : Addr → Option Obj) (K : Frag) (x : Str) : Bool := isT (g (tabAd K x)) && ((K.lookup (tabAd K x)).isNone && codeHdIn K (codeAd K x) (tabAd K x))
def obsR (n : Nat) (fs : List (Frag → Bool)) (fn : List He.DefD) (ls : List Str) (g : Addr → Option Obj) : He.AlD :=
  ((fs.all fun f => f (kR n g)) && ((fn.all fun d => d.ok (kR n g)) && ls.all fun x => tabB g (kR n g) x), fn.map fun d => He.fnW (kR n g) d.at_)
structure Says (fs : List (Frag → Bool)) (fn : List He.DefD) (ls : List Str) (K : Frag) (h : Heap) : Prop where
  kin : K.In h
  fac : ∀ f ∈ fs, f K = true
  def_ : ∀ d ∈ fn, ∃ fd, FunD K d.name d.qual d.params d.body d.scope (d.dvs K) (d.kws K) (He.fAd K d.at_) fd
  kp : ∀ d ∈ fn, PySem.W.keepIn K (.ref (He.fAd K d.at_)) = true
  tab : ∀ x ∈ ls, h.get? (tabAd K x) = some { cls := .none, data := .fields #[] } ∧ K.lookup (tabAd K x) = none ∧ CodeHd h (codeAd K x) (tabAd K x)
theorem says_of {n : Nat} {fs : List (Frag → Bool)} {fn : List He.DefD} {ls : List Str} {h : Heap} (e : obsR n fs fn ls h.get? = He.valD fn) : Says fs fn ls (kR n h.get?) h := by
  have e1 := congrArg (fun z : He.AlD => z.1) e
  have e2 : fn.map (fun d => He.fnW (kR n h.get?) d.at_) = fn.map He.DefD.val := congrArg (fun z : He.AlD => z.2) e
  have e1 : ((fs.all fun f => f (kR n h.get?)) && ((fn.all fun d => d.ok (kR n h.get?)) && ls.all fun x => tabB h.get? (kR n h.get?) x)) = true := e1
  obtain ⟨a1, a2⟩ := Bool.and_eq_true_iff.mp e1
  obtain ⟨a3, a4⟩ := Bool.and_eq_true_iff.mp a2
  have kin : (kR n h.get?).In h := He.frG_in
  have oks := List.all_eq_true.mp a3
  refine ⟨kin, List.all_eq_true.mp a1, fun d hd => ?_, fun d hd => ?_, fun x hx => ?_⟩
  · exact He.DefD.funD ((List.map_inj_left.mp e2) d hd) (oks d hd)
  · exact (Bool.and_eq_true_iff.mp (oks d hd)).1
  · obtain ⟨b1, b2⟩ := Bool.and_eq_true_iff.mp (List.all_eq_true.mp a4 x hx)
    obtain ⟨b3, b4⟩ := Bool.and_eq_true_iff.mp b2
    exact ⟨isT_ok b1, Option.isNone_iff_eq_none.mp b3, codeHd_of_K kin b4⟩
def hookR (n : Nat) (fs : List (Frag → Bool)) (fn : List He.DefD) (ls : List Str) : Hook where
  α := He.AlD
  obs := fun s => obsR n fs fn ls s.heap.get?
  val := fun _ => He.valD fn
  says := fun _ h => ∃ K : Frag, Says fs fn ls K h
  of := fun _ _ e => ⟨_, says_of e⟩
  keeps := fun _ _ _ ⟨K, S⟩ k => ⟨K, PySem.W.Frag.In.keeps S.kin k, S.fac, S.def_, S.kp, fun x hx => by
    obtain ⟨t1, t2, t3⟩ := S.tab x hx
    exact ⟨k _ _ t1, t2, t3.keeps k⟩⟩
theorem obsR_eq {n : Nat} {fs : List (Frag → Bool)} {fn : List He.DefD} {ls : List Str} {g : Addr → Option Obj} {s : Shared} (h : ∀ a, g a = s.heap.get? a) : obsR n fs fn ls g = (hookR n fs fn ls).obs s := by
  have e : g = s.heap.get? := funext h
  rw [e] <;> rfl
/-! ### facts -/
def fGlo (x : Str) (K : Frag) : Bool := (He.Fa.glo x).ok K
def fFree (x : Str) (K : Frag) : Bool := (He.Fa.free x).ok K
def fInt (x : Str) (i : Int) (K : Frag) : Bool := (He.Fa.int x i).ok K
def fStr (x z : Str) (K : Frag) : Bool := (He.Fa.str x z).ok K
def fTup (x : Str) (vs : List He.Dv) (K : Frag) : Bool := He.tupB K x vs
def errObj (K : Frag) (C B : Addr) : Bool := match K.lookup C with
  | some ⟨.type t, _, .cls cd, sl⟩ => t == "type" && (match cd.mro, sl.toList with
    | .ref C' :: .ref B' :: r, [_, _, _, _, some (.builtin n), _] => C' == C && (B' == B && (r == PySem.ESX.exTail && (n == "Exception.__new__" && (!cd.hasDel && cd.hasDict))))
    | _, _ => false)
  | _ => false
theorem errObj_ok {K : Frag} {C B : Addr} (h : errObj K C B = true) : ∃ nm q N bs sn sub ab col dd k0 k1 k2 k3 k5, K.lookup C = some (PySem.excClassObj nm q C N bs (RX.tailE B) true sn sub ab col dd k0 k1 k2 k3 k5 "Exception.__new__") := by
  unfold errObj at h
  split at h
  · rename_i t dd cd sl look
    obtain ⟨ht, h⟩ := Bool.and_eq_true_iff.mp h
    split at h
    · rename_i C' B' r k0 k1 k2 k3 n k5 hm hs
      simp only [Bool.and_eq_true, beq_iff_eq, Bool.not_eq_true'] at h ht
      obtain ⟨rfl, rfl, rfl, rfl, hdel, hdct⟩ := h
      subst ht
      obtain ⟨nm, bs, mro, ns, qn, hd, sn, sub, ab, col, del⟩ := cd
      dsimp only at hm hdel hdct
      subst hm hdel hdct
      have e : sl = #[k0, k1, k2, k3, some (.builtin "Exception.__new__"), k5] := by
        apply Array.toList_inj.mp
        rw [hs]
      subst e
      exact ⟨nm, qn, ns, bs, sn, sub, ab, col, dd, k0, k1, k2, k3, k5, look⟩
    · cases h
  · cases h
def initAd (K : Frag) (cn : Str) : Addr := He.ma K (He.ga K cn) "__init__"
def fErr (cn f base : Str) (K : Frag) : Bool :=
  let C := He.ga K cn
  He.eqO (nsIn K mainGlobals cn) (some (some (.ref C))) && (errObj K C (He.ga K base) && (He.eqO (findIn K (.ref C) "__setattr__") (some (some (.builtin "object.__setattr__"))) &&
    (He.eqO (findIn K (.ref C) "__getattribute__") (some (some (.builtin "BaseException.__getattribute__"))) && (He.eqO (findIn K (.ref C) "__getattr__") (some none) && (He.eqO (findIn K (.ref C) f) (some none) &&
    (He.eqO (findIn K (.ref C) "__init__") (some (some (.ref (initAd K cn)))) && (decide (typeIn K (.ref (initAd K cn)) = some (.type "function")) && (keepIn K (.ref C) && (decide (subIn K (.ref C) (.type "BaseException") = some true) &&
    (decide (typeIn K (.ref C) = some (.type "type")) && (hasDictIn K C && (He.eqO (findIn K (.ref C) "__class__") (some (some (.builtin "object.__class__"))) &&
    (He.eqO (specialIn K (.builtin "object.__class__") "__get__") (some (some (.builtin "getset_descriptor.__get__"))) && (decide (takesIn K (.builtin "object.__class__") = some true) &&
    (decide (mroIn K C (.type "object") = some true) && decide (exmOne K (.ref C) (.ref (He.ga K base)) = some true))))))))))))))))
def fKit (x y : Str) (b : Bool) (K : Frag) : Bool := decide (kitOne K (.ref (He.ga K x)) (.ref (He.ga K y)) = some b)
/-- what is known of an error's class -/
structure ErrAll (K : Frag) (cn f base : Str) : Prop where
  g : nsIn K mainGlobals cn = some (some (.ref (He.ga K cn)))
  txt : RX.ErrTxt K cn f (He.ga K cn) (He.ga K base) (initAd K cn)
  isC : ExcC K (He.ga K cn)
  exm : exmOne K (.ref (He.ga K cn)) (.ref (He.ga K base)) = some true
theorem err_ok {K : Frag} {cn f base : Str} (h : fErr cn f base K = true) (hf : f = ("thing" : Str) ∨ f = ("at" : Str)) {p1 p2 q1 q2 q3 q4 : Pos} {fd : FuncData} {dvs : List V} {kws : List (Str × V)} (hd : dvs = [])
    (F : FunD K "__init__" (cn ++ ".__init__") (RX.iA f p1 p2) (RX.iB f q1 q2 q3 q4) (RX.iS f) dvs kws (initAd K cn) fd) : ErrAll K cn f base := by
  unfold fErr at h
  simp only [Bool.and_eq_true, decide_eq_true_eq] at h
  obtain ⟨h1, h2, h3, h4, h5, h6, h7, h8, h9, h10, h11, h12, h13, h14, h15, h16, h17⟩ := h
  obtain ⟨oc, od, dV, kV, doc, pm, an, cdv, ct, osl, rfl, look, code, hD, hK⟩ := F.ex
  subst hd
  have eD : dV = .none := by
    rcases hD with ⟨_, e⟩ | ⟨e, _⟩
    · exact e
    · exact absurd rfl e
  subst eD
  exact ⟨He.eqO_ok h1, ⟨hf, errObj_ok h2, He.eqO_ok h3, He.eqO_ok h4, He.eqO_ok h5, He.eqO_ok h6, He.eqO_ok h7, h8, h9, h10, h11, h12, ⟨oc, od, kV, doc, pm, an, cdv, ct, osl, p1, p2, q1, q2, q3, q4, look, code⟩⟩,
    ⟨He.eqO_ok h4, He.eqO_ok h5, h10, h12, He.eqO_ok h13, He.eqO_ok h14, h15, h16⟩, h17⟩
end RH

set_option Elab.async false
set_option linter.all false
set_option maxRecDepth 100000
set_option maxHeartbeats 1000000
/-! Part D1: list * int, the script's slice, keyword calls, a def as a bundle. -/
namespace RF
open PySem PySem.Spec L2

/-! ### [..] * k, the list new -/
def gRep : G2 := fun p q hp Q => ∃ n xs k, p = .loc n ∧ q = .int k ∧ hp n = some (.lst xs) ∧ -(2 ^ 63) ≤ k ∧ k < 2 ^ 63 ∧ xs.length * k.toNat ≤ sizeLine ∧ Q (.lst (List.replicate k.toNat xs).flatten) (drp hp n)
theorem RVs.rep {K : PySem.W.Frag} {μ : List Addr} {H : Hp} {ps : List PV} {vs : List V} (r : RVs K μ H ps vs) : ∀ n : Nat, RVs K μ H (List.replicate n ps).flatten (List.replicate n vs).flatten
  | 0 => .nil
  | n + 1 => by
    rw [List.replicate_succ, List.replicate_succ, List.flatten_cons, List.flatten_cons]
    exact r.append (r.rep n)
theorem l_rep {C : Cfg} : LOp C rRep gRep where
  mo := fun p q hp Q Q' i ⟨n, xs, k, h1, h2, h3, h4, h5, h6, h⟩ => ⟨n, xs, k, h1, h2, h3, h4, h5, h6, i _ _ h⟩
  ok := fun μ H hp p q v u Q r rp rq ⟨n, xs, k, h1, h2, h3, h4, h5, h6, h⟩ => by
    subst h1 h2
    obtain ⟨a, vs, rfl, e2, e3, e4⟩ := loc_lst r rp h3
    exact ⟨a, k, vs, rfl, rq.intI, e3, h4, h5, by rw [e4.length]; exact h6, fun p np => fE.newL h r.drp (e4.rep _) np⟩

/-! ### script[:k] -/
def wScr (C : Cfg) (a : WE) (hi : WO) : WE := fun σ hp e Q => a σ hp e fun p h => hi σ h e fun u h2 => ∃ b ns, p = .ref b ∧ (b, ns) ∈ C.scr ∧ Q (.lst (cutP (ns.map PV.int) none u)) h2
theorem re_scr {X : Cx} {C : Cfg} {E : XK} {x : Expr} {wa : WE} {hi : Option Expr} {wh : WO} {p2 pos : Pos} (hK : X.K = C.K) (ha : RE X C E x wa) (hh : RO X C E hi wh) : RE X C E (.Subscript x (.Slice none hi none p2) pos) (wScr C wa wh) := by
  refine ⟨fun σ hp e Q Q' i q => ha.mo _ _ _ _ _ (fun p h q => hh.mo _ _ _ _ _ (fun u h ⟨b, ns, h1, h2, q⟩ => ⟨b, ns, h1, h2, i _ _ q⟩) q) q,
    PE.imp (PE.fz (pe_slice sl_list ha.pe (ro_no (C := C) (E := E)).po hh.po)) fun σ H Q ⟨μ, hp, σI, e, A, s, q⟩ => ?_⟩
  refine tE.go ha.mo A s q fun p h1 μ1 H1 v q1 u1 A1 s1 r1 => ?_
  refine ⟨μ1, h1, σI, e, A1, s1, fun μ2 H2 u2 r2 => ?_⟩
  have A2 := A1.next u2 r2
  refine ⟨μ2, h1, σI, e, A2, s1.up u2, hh.mo _ _ _ _ _ (fun k h3 ⟨b, ns, e1, e2, q3⟩ μ3 H3 u3 r3 => ?_) q1⟩
  subst e1
  have sq := (r3.xd.scr _ e2).sq
  rw [r1.refI, hK]
  refine ⟨b, ns.map V.int, rfl, sq, fun p np => ?_⟩
  exact (fE.up q3 ((u1.trans u2).trans u3)).newL r3 (cut_rvs (RVs.map (fun i => .int') ns) none k) np

/-! ### f(k = v, ..) -/
def pick {α : Type} (perm : List Nat) (xs : List α) : List α := perm.filterMap fun i => xs[i]?
theorem RVs.pick {K : PySem.W.Frag} {μ : List Addr} {H : Hp} {ps : List PV} {vs : List V} (r : RVs K μ H ps vs) : ∀ perm : List Nat, RVs K μ H (RF.pick perm ps) (RF.pick perm vs)
  | [] => .nil
  | i :: perm => by
    unfold RF.pick
    have ih := r.pick perm
    cases e : ps[i]? with
    | none =>
      have e2 : vs[i]? = none := by
        rw [List.getElem?_eq_none_iff] at e ⊢
        rw [r.length]; exact e
      rw [List.filterMap_cons_none e, List.filterMap_cons_none e2]
      exact ih
    | some p =>
      obtain ⟨v, e2, r2⟩ := r.get e
      rw [List.filterMap_cons_some e, List.filterMap_cons_some e2]
      exact .cons r2 ih
theorem vals_at : ∀ {vs : List V} {us : List Value} (i : Nat), Vals vs us → (∃ v u, vs[i]? = some v ∧ us[i]? = some u ∧ RelV v u) ∨ (vs[i]? = none ∧ us[i]? = none)
  | _, _, i, .nil => .inr ⟨by simp, by simp⟩
  | _, _, 0, .cons r _ => .inl ⟨_, _, rfl, rfl, r⟩
  | _, _, i + 1, .cons _ t => by simpa using vals_at i t
theorem vals_pick {vs : List V} {us : List Value} (r : Vals vs us) : ∀ perm : List Nat, Vals (pick perm vs) (pick perm us)
  | [] => .nil
  | i :: perm => by
    unfold pick
    have ih := vals_pick r perm
    rcases vals_at i r with ⟨v, u, e1, e2, r1⟩ | ⟨e1, e2⟩
    · rw [List.filterMap_cons_some e1, List.filterMap_cons_some e2]
      exact .cons r1 ih
    · rw [List.filterMap_cons_none e1, List.filterMap_cons_none e2]
      exact ih
/-- keywords, as arguments -/
structure RK (X : Cx) (C : Cfg) (E : XK) (kws : List Keyword) (w : WA) : Prop where
  mo : MoA w
  pk : PK X kws (tA C E w)
theorem PK.imp {X : Cx} {x : List Keyword} {t t' : TA} (h : PK X x t) (i : ∀ σ H Q, t' σ H Q → t σ H Q) : PK X x t' := ⟨fun pos pins s σ H Q I q => h.run pos pins s σ H Q I (i σ H Q q)⟩
section
variable {X : Cx} {C : Cfg} {E : XK} {x : Expr} {wa : WE} {w : WA} {kws : List Keyword} {nm : Option Str} {kpos : Pos}
theorem rk_nil : RK X C E [] wNil := ⟨fun σ hp e Q Q' h q => h _ _ q, PK.imp pk_nil fun σ H Q ⟨μ, hp, σI, e, A, s, q⟩ => fA.here q A.hr .nil⟩
theorem rk_cons (hx : RE X C E x wa) (hr : RK X C E kws w) : RK X C E (⟨nm, x, kpos⟩ :: kws) (wCons wa w) := by
  refine ⟨fun σ hp e Q Q' h q => hx.mo _ _ _ _ _ (fun p h1 q1 => hr.mo _ _ _ _ _ (fun ps h2 q2 => h _ _ q2) q1) q, PK.imp (pk_cons hx.pe hr.pk) fun σ H Q ⟨μ, hp, σI, e, A, s, q⟩ => ?_⟩
  refine tE.go hx.mo A s q fun p h1 μ1 H1 v q1 u1 A1 s1 r1 => ?_
  refine tA.go hr.mo A1 s1 q1 fun ps h2 μ2 H2 vs q2 u2 A2 s2 r2 => ?_
  exact (fA.up q2 (u1.trans u2)).here A2.hr (.cons (RV.up u2 _ _ r1) r2)
end
/-- a def known by its name -/
structure Fun (P : Program) (w : World) (C : Cfg) (mg : Str → Option Value) (base : Heap) (k : Nat) (x : Str) (n : Nat) (wf : WF) : Prop where
  ex : ∃ (fd : FuncData) (ps : List Str), FnG P w C.K mg base k (He.ga C.K x) fd ps (spI C n wf) ∧ Binds C.K fd ps []
  g : mg x = some (.ref (He.ga C.K x))
  kp : PySem.W.keepIn C.K (.ref (He.ga C.K x)) = true
  mf : MoF wf
/-- .. and how keywords bind -/
structure FunK (P : Program) (w : World) (C : Cfg) (mg : Str → Option Value) (base : Heap) (k : Nat) (x : Str) (n : Nat) (wf : WF) (ks : List Str) (perm : List Nat) : Prop where
  ex : ∃ (fd : FuncData) (ps : List Str), FnG P w C.K mg base k (He.ga C.K x) fd ps (spI C n wf) ∧ ∀ (s : Shared) (ws : List Value), ws.length = ks.length → BindsTo s fd ⟨[], ks.zip ws⟩ (ps.zip (pick perm ws))
  g : mg x = some (.ref (He.ga C.K x))
  kp : PySem.W.keepIn C.K (.ref (He.ga C.K x)) = true
  mf : MoF wf
theorem Fun.weak {P : Program} {w : World} {C : Cfg} {mg : Str → Option Value} {base : Heap} {k n : Nat} {x : Str} {f1 f2 : WF} (F : Fun P w C mg base k x n f1) (m : MoF f2) (h : ∀ qs hp e Q, f2 qs hp e Q → f1 qs hp e Q) : Fun P w C mg base k x n f2 := by
  obtain ⟨fd, ps, G, b⟩ := F.ex
  exact ⟨⟨fd, ps, G.weak h, b⟩, F.g, F.kp, m⟩
theorem FunK.weak {P : Program} {w : World} {C : Cfg} {mg : Str → Option Value} {base : Heap} {k n : Nat} {x : Str} {f1 f2 : WF} {ks : List Str} {perm : List Nat} (F : FunK P w C mg base k x n f1 ks perm) (m : MoF f2) (h : ∀ qs hp e Q, f2 qs hp e Q → f1 qs hp e Q) : FunK P w C mg base k x n f2 ks perm := by
  obtain ⟨fd, ps, G, b⟩ := F.ex
  exact ⟨⟨fd, ps, G.weak h, b⟩, F.g, F.kp, m⟩
theorem Fun.more {P : Program} {w : World} {C : Cfg} {mg : Str → Option Value} {base : Heap} {j k n : Nat} {x : Str} {f : WF} (F : Fun P w C mg base j x n f) (h : j ≤ k) : Fun P w C mg base k x n f := by
  obtain ⟨fd, ps, G, b⟩ := F.ex
  exact ⟨⟨fd, ps, G.more h, b⟩, F.g, F.kp, F.mf⟩
theorem FunK.more {P : Program} {w : World} {C : Cfg} {mg : Str → Option Value} {base : Heap} {j k n : Nat} {x : Str} {f : WF} {ks : List Str} {perm : List Nat} (F : FunK P w C mg base j x n f ks perm) (h : j ≤ k) : FunK P w C mg base k x n f ks perm := by
  obtain ⟨fd, ps, G, b⟩ := F.ex
  exact ⟨⟨fd, ps, G.more h, b⟩, F.g, F.kp, F.mf⟩
def wCallK (f : WF) (n : Nat) (perm : List Nat) (a : WA) : WE := fun σ hp e Q => a σ hp e fun ps h => (ps.length = n ∧ (pick perm ps).length = n) ∧ f (pick perm ps) h e Q
section
variable {X : Cx} {C : Cfg} {E : XK} {x : Expr} {es : List Expr} {w : WA} {f : WF} {kws : List Keyword} {nm : Str} {p pos : Pos} {n k : Nat} {ks : List Str} {perm : List Nat}
theorem re_fun (hK : X.K = C.K) (F : Fun X.prog X.w C X.mg X.base k nm n f) (hG : Calm X.A) (room : Room k X.A) (tk : Takes X (fun cls d _ H => E cls d H)) (gl : Gl X nm) (ha : RA X C E (x :: es) w) (hdb : (nm == ("__debug__" : Str)) = false)
    (he : starEach (x :: es) X.env = (false, eval x X.env) :: starEach es X.env) (hpl : (backTo pos (starEach es X.env)).any (·.1) = false) : RE X C E (.Call (.Name nm p) (x :: es) [] pos) (wCall f (wArgs n w)) := by
  obtain ⟨fd, ps, G, b⟩ := F.ex
  rw [← hK] at G b
  exact re_callG G F.mf hG room tk gl (by rw [hK]; exact F.g) (by rw [hK]; exact F.kp) b ha hdb he hpl
theorem re_fun0 (hK : X.K = C.K) (F : Fun X.prog X.w C X.mg X.base k nm 0 f) (hG : Calm X.A) (room : Room k X.A) (tk : Takes X (fun cls d _ H => E cls d H)) (gl : Gl X nm) (hdb : (nm == ("__debug__" : Str)) = false) : RE X C E (.Call (.Name nm p) [] [] pos) (wCall f wNil) := by
  obtain ⟨fd, ps, G, b⟩ := F.ex
  rw [← hK] at G b
  exact re_callG0 G F.mf hG room tk gl (by rw [hK]; exact F.g) (by rw [hK]; exact F.kp) b hdb
theorem re_funK (hK : X.K = C.K) (F : FunK X.prog X.w C X.mg X.base k nm n f ks perm) (hn : ks.length = n) (hG : Calm X.A) (room : Room k X.A) (tk : Takes X (fun cls d _ H => E cls d H)) (gl : Gl X nm) (hkw : RK X C E kws w) (hdb : (nm == ("__debug__" : Str)) = false)
    (hall : (backToKw pos (keywordEach kws X.env)).all (·.1.isSome) = true) (hks : (backToKw pos (keywordEach kws X.env)).filterMap (·.1) = ks) (hpl : ((backTo pos (starEach [] X.env)).any (·.1) || (backToKw pos (keywordEach kws X.env)).any (·.1.isNone)) = false) :
    RE X C E (.Call (.Name nm p) [] kws pos) (wCallK f n perm w) := by
  obtain ⟨fd, ps, G, b⟩ := F.ex
  refine ⟨fun σ hp e Q Q' h q => hkw.mo _ _ _ _ _ (fun ps h1 ⟨l, q1⟩ => ⟨l, F.mf _ _ _ _ _ h q1⟩) q, ⟨fun pins s σ H Q I h => ?_⟩⟩
  have h2 : tA C E w σ H fun vs H1 => vs.length = n ∧ spI C n f (pick perm vs) H1 Q E := by
    obtain ⟨μ, hp, σI, e, A, s, q⟩ := h
    refine tA.go hkw.mo A s q fun ps h1 μ1 H1 vs ⟨⟨l, l2⟩, q1⟩ u1 A1 s1 r1 => ?_
    exact ⟨by rw [r1.length]; exact l, by rw [(r1.pick perm).length, l2], μ1, h1, _, e, A1, r1.pick perm, F.mf _ _ _ _ _ (fun p h q => fE.up q u1) q1⟩
  apply wpAny_Call_Name_kw
  refine ld_glob I gl F.g ?_ hdb
  refine PySem.W.callWith_KW0 (h₀ := X.base) I.ok.mod.kin (by rw [hK]; exact F.kp) hall ?_ hpl
  refine thn (hkw.pk.run pos pins s σ H _ I h2) fun us s1 ⟨vs, H1, I1, rel, l, q⟩ => ⟨I1.kIn, ?_⟩
  rw [hks]
  rw [← hK] at G
  have z := G.call hG room tk I1 (b s1 us (by rw [← rel.length, l, hn])) (vals_pick rel perm) q
  rw [hK] at z
  exact wpAny_call z
end
end RF

set_option Elab.async false
set_option linter.all false
set_option maxRecDepth 100000
set_option maxHeartbeats 1000000
/-! Part D2: parallel stores, name = [..], and the rules in short words for printed derivations. -/
namespace RF
open PySem PySem.Spec L2

/-! ### x, y = a, b -/
def wPar (is : List Nat) (a : WA) : WS := fun σ hp e D => a σ hp e fun ps h => ps.length = is.length ∧ D.nx (setAll σ is ps) h
section
variable {X : Cx} {C : Cfg} {E : XK} {w : WA}
theorem par_mo {is : List Nat} (h : MoA w) : MoS (wPar is w) := fun σ hp e D D' l q => h _ _ _ _ _ (fun ps h ⟨z, q⟩ => ⟨z, l.nx _ _ q⟩) q
theorem rs_par {i j : Nat} {x y : Str} {a b : Expr} {px py pt pos : Pos} {kt k2 pt2} (hc : X.calm = true) (hN : X.N.Nodup) (hi : X.N[i]? = some x) (hj : X.N[j]? = some y) (hij : i ≠ j) (hx : X.env.scope.names.lookup x = some .local) (hy : X.env.scope.names.lookup y = some .local)
    (ha : RA X C E [a, b] w) (hw : swappedStores [.Tuple [.Name x px, .Name y py] kt pt] (.Tuple [a, b] k2 pt2) X.env = pure (some [x, y]))
    (hs : swapsWithSole [.Tuple [.Name x px, .Name y py] kt pt] (.Tuple [a, b] k2 pt2) pos.line X.env = pure false) : RS X C E (.Assign [.Tuple [.Name x px, .Name y py] kt pt] (.Tuple [a, b] k2 pt2) pos) (wPar [i, j] w) := by
  refine ⟨par_mo ha.mo, PS.imp (ps_par hc hN hi hj hij hx hy ha.pa hw hs) fun D σ H ⟨μ, hp, σI, e, A, s, q⟩ => ?_⟩
  refine tA.go ha.mo A s q fun ps h1 μ1 H1 vs ⟨l, q1⟩ u1 A1 s1 r1 => ?_
  have lv := r1.length
  rw [l] at lv
  match vs, lv, r1 with
  | [v, u], _, r1 => exact ⟨v, u, rfl, (fN.up q1 u1).here A1.hr (SR.setAll [i, j] ps [v, u] _ _ s1 r1)⟩
theorem rs_par3 {i j l : Nat} {x y z : Str} {a b c : Expr} {px py pz pt pos : Pos} {kt k2 pt2} (hc : X.calm = true) (hN : X.N.Nodup) (hi : X.N[i]? = some x) (hj : X.N[j]? = some y) (hl : X.N[l]? = some z) (hij : i ≠ j) (hil : i ≠ l) (hjl : j ≠ l)
    (hx : X.env.scope.names.lookup x = some .local) (hy : X.env.scope.names.lookup y = some .local) (hz : X.env.scope.names.lookup z = some .local) (ha : RA X C E [a, b, c] w)
    (hw : swappedStores [.Tuple [.Name x px, .Name y py, .Name z pz] kt pt] (.Tuple [a, b, c] k2 pt2) X.env = pure (some [x, y, z]))
    (hs : swapsWithSole [.Tuple [.Name x px, .Name y py, .Name z pz] kt pt] (.Tuple [a, b, c] k2 pt2) pos.line X.env = pure false) : RS X C E (.Assign [.Tuple [.Name x px, .Name y py, .Name z pz] kt pt] (.Tuple [a, b, c] k2 pt2) pos) (wPar [i, j, l] w) := by
  refine ⟨par_mo ha.mo, PS.imp (ps_par3 hc hN hi hj hl hij hil hjl hx hy hz ha.pa hw hs) fun D σ H ⟨μ, hp, σI, e, A, s, q⟩ => ?_⟩
  refine tA.go ha.mo A s q fun ps h1 μ1 H1 vs ⟨l', q1⟩ u1 A1 s1 r1 => ?_
  have lv := r1.length
  rw [l'] at lv
  match vs, lv, r1 with
  | [v, u, t], _, r1 => exact ⟨v, u, t, rfl, (fN.up q1 u1).here A1.hr (SR.setAll [i, j, l] ps [v, u, t] _ _ s1 r1)⟩
end

/-! ### name = [.. for ..] -/
def FzN (Q : St → Hp → Prop) : St → Hp → Prop := fun σ H => Q σ H ∨ ∃ a u, H a = some u ∧ ((∃ xs, u = .lst xs) ∨ ∃ ks, u = .dK ks) ∧ ∀ o, Q σ (upd H a (.frz o u))
theorem PS.fz {X : Cx} {st : Stmt} {t : TS} (h : PS X st t) : PS X st (fun D σ H => t { nx := FzN D.nx, rt := D.rt, bk := D.bk, ct := D.ct } σ H) := ⟨fun pins s σ H D I q => by
  refine thn (h.run pins s σ H _ I q) fun fl s1 z => ?_
  cases fl with
  | next =>
    obtain ⟨σ1, H1, I1, q1⟩ := z
    rcases q1 with q1 | ⟨a, u, ha, hu, q1⟩
    · exact ⟨σ1, H1, I1, q1⟩
    · obtain ⟨o, I2⟩ := inv_frz I1 ha hu
      exact ⟨σ1, _, I2, q1 o⟩
  | brk => exact z
  | cont => exact z
  | ret u => exact z⟩
section
variable {X : Cx} {C : Cfg} {E : XK} {tge iter elt : Expr} {ifs : List Expr} {scope : Scope} {own : List (Str × Nat)} {tg : Tg} {it : WA} {tt : WT} {el : WE} {pos py spos : Pos} {i : Nat} {y : Str}
theorem rs_setLc (hK : X.K = C.K) (hc : X.calm = true) (hN : X.N.Nodup) (hy : X.N[i]? = some y) (hyl : X.env.scope.names.lookup y = some .local) (hsw : swapsWith (.ListComp elt [⟨tge, iter, ifs, 0⟩] scope pos) (some (.Name y py)) spos.line X.env = pure true)
    (hi : RI X C E tge iter it) (ok : blkC X.N X.env.scope scope own = true) (hv : ∀ i ∈ tg.ix, i ∈ own.map (·.2))
    (hg : ∀ s H Ca cl fp, TgIs (X.blk s H scope (compEnvC scope cl Ca X.env) fp) tge tg) (ht : ∀ s H Ca cl fp, RTs (X.blk s H scope (compEnvC scope cl Ca X.env) fp) C E0 ifs tt)
    (he : ∀ s H Ca cl fp, RE (X.blk s H scope (compEnvC scope cl Ca X.env) fp) C E0 elt el) (hs : ∀ x, foldedSetIterable iter X.env x = pure x) : RS X C E (.Assign [.Name y py] (.ListComp elt [⟨tge, iter, ifs, 0⟩] scope pos) spos) (wAsg (.nm i) (wLc tg (own.map (·.2)) it tt el)) := by
  have mt : MoT tt := (ht X.s_0 X.H_0 0 [] []).mo
  have me : MoE el := (he X.s_0 X.H_0 0 [] []).mo
  have ml : MoE (wLc tg (own.map (·.2)) it tt el) := fun σ hp e Q Q' i q => hi.mo _ _ _ _ _ (fun ps h q => compW.mo mt me (fun _ _ q => i _ _ q) _ _ _ q) q
  refine ⟨asg_mo ml, PS.imp (PS.fz (ps_setLc (g := tg.g X.K) hc hN hy hyl hsw hi.pi (blkOk_by ok) (fun s H Ca cl fp => TgIs.pg (X := X.blk s H scope (compEnvC scope cl Ca X.env) fp) hc hN (hg s H Ca cl fp)) (fun s H Ca cl fp => (ht s H Ca cl fp).pts) (fun s H Ca cl fp => (he s H Ca cl fp).pe) hs)) fun D σ H ⟨μ, hp, σI, e, A, s, q⟩ => ?_⟩
  show tLc _ (tg.g X.K) _ _ _ _ _ _
  rw [hK]
  refine lc_go (R := fun qs h2 => ∃ σ', (Tg.nm i).go (.lst qs) σI = some σ' ∧ fN C μ H D.nx σ' h2) hi.mo mt me hv A s q fun qs h2 μ2 H2 Dn ys ⟨σ', e1, q2⟩ u2 r2 h0 eD nD rv => ?_
  simp only [Tg.go, Option.some.injEq] at e1
  subst e1
  refine .inr ⟨Dn, .lst ys, eD, .inl ⟨_, rfl⟩, fun o => ?_⟩
  have u3 := u2.wrN (o := .frz o (.lst ys)) h0 eD rfl nD
  refine q2 μ2 _ _ u3 (r2.wrN eD rfl nD) ((s.up u3).set ?_)
  simp only [RV]
  exact ⟨Dn, ys, rfl, ⟨o, upd_same⟩, RVs.up0 (Up0.wrN eD rfl) _ _ rv⟩
end

/-! ### what a context offers -/
structure Ok (X : Cx) (C : Cfg) (E : XK) (k : Nat) : Prop where
  hK : X.K = C.K
  hc : X.calm = true
  hN : X.N.Nodup
  tk : Takes X (fun cls d _ H => E cls d H)
  po : PassesOwn (model X.prog X.w) X.A X.env X.xe
  rm : Room k X.A
  cm : Calm X.A
theorem Ok.u1 {X : Cx} {C : Cfg} {E : XK} {k : Nat} (c : Ok X C E k) : X.A.units + 1 < cLine := by have := c.rm.un; omega
theorem Ok.u64 {X : Cx} {C : Cfg} {E : XK} {k : Nat} (c : Ok X C E k) : X.A.units + 64 < cLine := by have := c.rm.un; omega
theorem Ok.u65 {X : Cx} {C : Cfg} {E : XK} {k : Nat} (c : Ok X C E k) : X.A.units + 65 < cLine := by have := c.rm.un; omega
theorem Ok.blk {X : Cx} {C : Cfg} {E : XK} {k : Nat} (c : Ok X C E k) {s : Shared} {H : Hp} {scope : Scope} {env : Env} {fp : List Addr} : Ok (X.blk s H scope env fp) C E0 k := ⟨c.hK, c.hc, c.hN, LamX.takes0, PassesOwn.never, c.rm, c.cm⟩
theorem ok_body {P : Program} {w : World} {C : Cfg} {mg : Str → Option Value} {base : Heap} {N : List Str} {qual : Str} {scope : Scope} {f : Addr} {cd : Value} {A : Around} {out : List Env} {s : Shared} {H : Hp} {E : XK} {k : Nat} (hN : N.Nodup)
    (g : Calm (A.deeper (PyProof.Rows.envOfC qual scope s.heap.objs.size f cd))) (r : Room k (A.deeper (PyProof.Rows.envOfC qual scope s.heap.objs.size f cd))) : Ok (cxOf (L2.CX P w) P w C.K mg base N qual scope f cd A out s H E) C E k :=
  ⟨rfl, rfl, hN, takes_of rfl rfl rfl rfl, passes_of (E₁ := fun e' s'' => L2.CX P w out H s E e' s'') rfl, r, g⟩
end RF

set_option Elab.async false
set_option linter.all false
set_option maxRecDepth 100000
set_option maxHeartbeats 1000000
/-! Part D3: the rules in short words, for printed derivations: c is what the context offers. -/
namespace RF
open PySem PySem.Spec L2
section
variable {X : Cx} {C : Cfg} {E : XK} {k : Nat}
theorem d_var (c : Ok X C E k) (i : Nat) {x : Str} {pos : Pos} (hN : X.N[i]? = some x := by rfl) (hv : Vis X.env.scope x := by first | exact .inl rfl | exact .inr (.inl rfl) | exact .inr (.inr rfl))
    (hd : (x == ("__debug__" : Str)) = false := by decide) (hcd : (x == ("__classdict__" : Str)) = false := by decide) : RE X C E (.Name x pos) (wVar i) := re_var hN hv hd hcd
theorem d_int (c : Ok X C E k) (i : Int) {j : Nat} {pos : Pos} : RE X C E (.Constant (.int i) j pos) (wC (.int i)) := re_c pe_int fun _ _ => .int'
theorem d_str (c : Ok X C E k) (i : Str) {j : Nat} {pos : Pos} : RE X C E (.Constant (.str i) j pos) (wC (.str i)) := re_c pe_str fun _ _ => .str'
theorem d_bl (c : Ok X C E k) (i : Bool) {j : Nat} {pos : Pos} : RE X C E (.Constant (.bool i) j pos) (wC (.bl i)) := re_c pe_bl fun _ _ => .bl'
theorem d_non (c : Ok X C E k) {j : Nat} {pos : Pos} : RE X C E (.Constant .none j pos) (wC .non) := re_c pe_non fun _ _ => .non'
theorem d_gint (c : Ok X C E k) {x : Str} {i : Int} {pos : Pos} (hm : ∃ t, X.mg x = some (.int i t)) (gl : Gl X x := by rfl) (hd : (x == ("__debug__" : Str)) = false := by decide) : RE X C E (.Name x pos) (wC (.int i)) := by
  obtain ⟨t, h⟩ := hm
  exact re_c (pe_glob (v := .int i) gl h ⟨t, rfl⟩ hd) fun _ _ => .int'
theorem d_gstr (c : Ok X C E k) {x : Str} {i : Str} {pos : Pos} (hm : ∃ t, X.mg x = some (.str i t)) (gl : Gl X x := by rfl) (hd : (x == ("__debug__" : Str)) = false := by decide) : RE X C E (.Name x pos) (wC (.str i)) := by
  obtain ⟨t, h⟩ := hm
  exact re_c (pe_glob (v := .str i) gl h ⟨t, rfl⟩ hd) fun _ _ => .str'
theorem d_gtup (c : Ok X C E k) {x : Str} {vs : List V} {ps : List PV} {pos : Pos} (hm : X.mg x = some (.ref (He.ga C.K x))) (hs : ∀ H, SqT C.K H (He.ga C.K x) vs) (hr : ∀ μ H, RVs C.K μ H ps vs) (gl : Gl X x := by rfl) (hd : (x == ("__debug__" : Str)) = false := by decide) : RE X C E (.Name x pos) (wC (.tup ps)) :=
  re_c (pe_glob (v := .ref (He.ga C.K x)) gl hm rfl hd) fun μ H => by
    simp only [RV]
    exact ⟨_, vs, rfl, hs H, hr μ H⟩
/-! operators -/
variable {a b d x o : Expr} {wa wb wd : WE} {pos pos' p apos : Pos}
theorem d_add (c : Ok X C E k) (ha : RE X C E a wa) (hb : RE X C E b wb) : RE X C E (.BinOp a .Add b pos) (wOp gAdd wa wb) := re_op (r := rAddP C.K) l_add (by rw [← c.hK]; exact op_addP) ha hb
theorem d_sub (c : Ok X C E k) (ha : RE X C E a wa) (hb : RE X C E b wb) : RE X C E (.BinOp a .Sub b pos) (wOp gSub wa wb) := re_op l_i0 op_sub ha hb
theorem d_mul (c : Ok X C E k) (ha : RE X C E a wa) (hb : RE X C E b wb) : RE X C E (.BinOp a .Mult b pos) (wOp gMul wa wb) := re_op l_ii op_mul ha hb
theorem d_rep (c : Ok X C E k) (ha : RE X C E a wa) (hb : RE X C E b wb) : RE X C E (.BinOp a .Mult b pos) (wOp gRep wa wb) := re_op l_rep op_rep ha hb
theorem d_div (c : Ok X C E k) (ha : RE X C E a wa) (hb : RE X C E b wb) : RE X C E (.BinOp a .FloorDiv b pos) (wOp gDiv wa wb) := re_op l_ii op_fdivN ha hb
theorem d_mod (c : Ok X C E k) (ha : RE X C E a wa) (hb : RE X C E b wb) : RE X C E (.BinOp a .Mod b pos) (wOp gMod wa wb) := re_op l_ii op_modN ha hb
theorem d_pow (c : Ok X C E k) (ha : RE X C E a wa) (hb : RE X C E b wb) : RE X C E (.BinOp a .Pow b pos) (wOp gPow wa wb) := re_op l_ii op_pow ha hb
theorem d_and2 (c : Ok X C E k) (ha : RE X C E a wa) (hb : RE X C E b wb) : RE X C E (.BinOp a .BitAnd b pos) (wOp gAnd wa wb) := re_op l_i0 op_and ha hb
theorem d_neg (c : Ok X C E k) (ha : RE X C E a wa) : RE X C E (.UnaryOp .USub a pos) (wUn gNeg wa) := re_un l_neg un_neg ha
theorem d_ix (c : Ok X C E k) (ha : RE X C E a wa) (hb : RE X C E b wb) (hs : PlainIx b := by intro _ _; rfl) : RE X C E (.Subscript a b pos) (wOp gIx wa wb) := re_ix (r := rIx C.K) l_ix (by rw [← c.hK]; exact (ix_list.or (ix_tup.or ix_str))) ha hb hs
theorem d_sl (c : Ok X C E k) {lo hi : Option Expr} {wl wh : WO} {p2 : Pos} (ha : RE X C E a wa) (hl : RO X C E lo wl) (hh : RO X C E hi wh) : RE X C E (.Subscript a (.Slice lo hi none p2) pos) (wSl wa wl wh) := re_sl c.hK ha hl hh
theorem d_scr (c : Ok X C E k) {hi : Option Expr} {wh : WO} {p2 : Pos} (ha : RE X C E a wa) (hh : RO X C E hi wh) : RE X C E (.Subscript a (.Slice none hi none p2) pos) (wScr C wa wh) := re_scr c.hK ha hh
theorem d_rev (c : Ok X C E k) {j : Nat} {p1 p3 p4 : Pos} (ha : RE X C E a wa) : RE X C E (.Subscript a (.Slice none none (some (.UnaryOp .USub (.Constant (.int 1) j p1) p3)) p4) pos) (wRevL wa) := re_revL c.hK ha
theorem d_dget (c : Ok X C E k) (ha : RE X C E a wa) (hb : RE X C E b wb) (hs : NoSl b := by intro _ _; rfl) : RE X C E (.Subscript a b pos) (wDGet wa wb) := re_dget c.u1 ha hb hs
theorem d_get1 (c : Ok X C E k) (ha : RE X C E a wa) (hb : RE X C E b wb) (m : M1 X a "get" apos b pos := by exact ⟨rfl, rfl, rfl, rfl⟩) : RE X C E (.Call (.Attribute a "get" apos) [b] [] pos) (wGet1 wa wb) := re_get1 c.u1 ha hb m
theorem d_get2 (c : Ok X C E k) (ha : RE X C E a wa) (hb : RE X C E b wb) (hd : RE X C E d wd) (m : M2 X a "get" apos b d pos := by exact ⟨rfl, rfl, rfl, rfl⟩) : RE X C E (.Call (.Attribute a "get" apos) [b, d] [] pos) (wGet2 wa wb wd) := re_get2 c.u1 ha hb hd m
/-! comparisons: as a value, as a test -/
theorem d_eq (c : Ok X C E k) (ha : RE X C E a wa) (hb : RE X C E b wb) (hm : behindInMarks .Eq b = false := by rfl) : RE X C E (.Compare a [.Eq] [b] pos) (wCmp cEq wa wb) := re_cmp l_eq (by rw [← c.hK]; exact op_eqD c.u64) ha hb hm
theorem t_eq (c : Ok X C E k) (ha : RE X C E a wa) (hb : RE X C E b wb) (hm : behindInMarks .Eq b = false := by rfl) : RT X C E (.Compare a [.Eq] [b] pos) (wCmpT cEq wa wb) := rt_cmp l_eq (by rw [← c.hK]; exact op_eqD c.u64) ha hb hm
theorem d_ne (c : Ok X C E k) (ha : RE X C E a wa) (hb : RE X C E b wb) (hm : behindInMarks .NotEq b = false := by rfl) : RE X C E (.Compare a [.NotEq] [b] pos) (wCmp cNe wa wb) := re_cmp l_ne (by rw [← c.hK]; exact op_neD c.u64) ha hb hm
theorem t_ne (c : Ok X C E k) (ha : RE X C E a wa) (hb : RE X C E b wb) (hm : behindInMarks .NotEq b = false := by rfl) : RT X C E (.Compare a [.NotEq] [b] pos) (wCmpT cNe wa wb) := rt_cmp l_ne (by rw [← c.hK]; exact op_neD c.u64) ha hb hm
theorem d_lt (c : Ok X C E k) (ha : RE X C E a wa) (hb : RE X C E b wb) (hm : behindInMarks .Lt b = false := by rfl) : RE X C E (.Compare a [.Lt] [b] pos) (wCmp cLt wa wb) := re_cmp l_cii op_lt ha hb hm
theorem t_lt (c : Ok X C E k) (ha : RE X C E a wa) (hb : RE X C E b wb) (hm : behindInMarks .Lt b = false := by rfl) : RT X C E (.Compare a [.Lt] [b] pos) (wCmpT cLt wa wb) := rt_cmp l_cii op_lt ha hb hm
theorem d_le (c : Ok X C E k) (ha : RE X C E a wa) (hb : RE X C E b wb) (hm : behindInMarks .LtE b = false := by rfl) : RE X C E (.Compare a [.LtE] [b] pos) (wCmp cLe wa wb) := re_cmp l_cii op_le ha hb hm
theorem t_le (c : Ok X C E k) (ha : RE X C E a wa) (hb : RE X C E b wb) (hm : behindInMarks .LtE b = false := by rfl) : RT X C E (.Compare a [.LtE] [b] pos) (wCmpT cLe wa wb) := rt_cmp l_cii op_le ha hb hm
theorem d_gt (c : Ok X C E k) (ha : RE X C E a wa) (hb : RE X C E b wb) (hm : behindInMarks .Gt b = false := by rfl) : RE X C E (.Compare a [.Gt] [b] pos) (wCmp cGt wa wb) := re_cmp l_cii op_gt ha hb hm
theorem t_gt (c : Ok X C E k) (ha : RE X C E a wa) (hb : RE X C E b wb) (hm : behindInMarks .Gt b = false := by rfl) : RT X C E (.Compare a [.Gt] [b] pos) (wCmpT cGt wa wb) := rt_cmp l_cii op_gt ha hb hm
theorem d_ge (c : Ok X C E k) (ha : RE X C E a wa) (hb : RE X C E b wb) (hm : behindInMarks .GtE b = false := by rfl) : RE X C E (.Compare a [.GtE] [b] pos) (wCmp cGe wa wb) := re_cmp l_cii op_ge ha hb hm
theorem t_ge (c : Ok X C E k) (ha : RE X C E a wa) (hb : RE X C E b wb) (hm : behindInMarks .GtE b = false := by rfl) : RT X C E (.Compare a [.GtE] [b] pos) (wCmpT cGe wa wb) := rt_cmp l_cii op_ge ha hb hm
theorem d_is (c : Ok X C E k) (ha : RE X C E a wa) (hb : RE X C E b wb) (hm : behindInMarks .Is b = false := by rfl) : RE X C E (.Compare a [.Is] [b] pos) (wCmp cIsN wa wb) := re_cmp l_isN op_isN ha hb hm
theorem t_is (c : Ok X C E k) (ha : RE X C E a wa) (hb : RE X C E b wb) (hm : behindInMarks .Is b = false := by rfl) : RT X C E (.Compare a [.Is] [b] pos) (wCmpT cIsN wa wb) := rt_cmp l_isN op_isN ha hb hm
theorem d_isnot (c : Ok X C E k) (ha : RE X C E a wa) (hb : RE X C E b wb) (hm : behindInMarks .IsNot b = false := by rfl) : RE X C E (.Compare a [.IsNot] [b] pos) (wCmp cNotN wa wb) := re_cmp l_notN op_notN ha hb hm
theorem t_isnot (c : Ok X C E k) (ha : RE X C E a wa) (hb : RE X C E b wb) (hm : behindInMarks .IsNot b = false := by rfl) : RT X C E (.Compare a [.IsNot] [b] pos) (wCmpT cNotN wa wb) := rt_cmp l_notN op_notN ha hb hm
theorem d_in (c : Ok X C E k) (ha : RE X C E a wa) (hb : RE X C E b wb) (hm : behindInMarks .In b = false := by rfl) : RE X C E (.Compare a [.In] [b] pos) (wCmp cIn wa wb) := re_cmp l_in (by rw [← c.hK]; exact op_inAll c.u65) ha hb hm
theorem t_in (c : Ok X C E k) (ha : RE X C E a wa) (hb : RE X C E b wb) (hm : behindInMarks .In b = false := by rfl) : RT X C E (.Compare a [.In] [b] pos) (wCmpT cIn wa wb) := rt_cmp l_in (by rw [← c.hK]; exact op_inAll c.u65) ha hb hm
theorem d_notin (c : Ok X C E k) (ha : RE X C E a wa) (hb : RE X C E b wb) (hm : behindInMarks .NotIn b = false := by rfl) : RE X C E (.Compare a [.NotIn] [b] pos) (wCmp cNotIn wa wb) := re_cmp l_notIn (by rw [← c.hK]; exact op_notInAll c.u65) ha hb hm
theorem t_notin (c : Ok X C E k) (ha : RE X C E a wa) (hb : RE X C E b wb) (hm : behindInMarks .NotIn b = false := by rfl) : RT X C E (.Compare a [.NotIn] [b] pos) (wCmpT cNotIn wa wb) := rt_cmp l_notIn (by rw [← c.hK]; exact op_notInAll c.u65) ha hb hm
theorem t_lele (c : Ok X C E k) (ha : RE X C E a wa) (hb : RE X C E b wb) (hd : RE X C E d wd) (hm : lastMarks [.LtE, .LtE] [b, d] = false := by rfl) : RT X C E (.Compare a [.LtE, .LtE] [b, d] pos) (wChT cLe cLe wa wb wd) := rt_chain l_cii l_cii op_le op_le ha hb hd hm
theorem d_lele (c : Ok X C E k) (ha : RE X C E a wa) (hb : RE X C E b wb) (hd : RE X C E d wd) (hm : lastMarks [.LtE, .LtE] [b, d] = false := by rfl) : RE X C E (.Compare a [.LtE, .LtE] [b, d] pos) (wCh cLe cLe wa wb wd) := re_chain l_cii l_cii op_le op_le ha hb hd hm
theorem t_lelt (c : Ok X C E k) (ha : RE X C E a wa) (hb : RE X C E b wb) (hd : RE X C E d wd) (hm : lastMarks [.LtE, .Lt] [b, d] = false := by rfl) : RT X C E (.Compare a [.LtE, .Lt] [b, d] pos) (wChT cLe cLt wa wb wd) := rt_chain l_cii l_cii op_le op_lt ha hb hd hm
theorem d_lelt (c : Ok X C E k) (ha : RE X C E a wa) (hb : RE X C E b wb) (hd : RE X C E d wd) (hm : lastMarks [.LtE, .Lt] [b, d] = false := by rfl) : RE X C E (.Compare a [.LtE, .Lt] [b, d] pos) (wCh cLe cLt wa wb wd) := re_chain l_cii l_cii op_le op_lt ha hb hd hm
/-! truth -/
theorem t_tru (c : Ok X C E k) (ha : RE X C E a wa) (he : ∀ whole, isTrue a X.env whole = (do let v ← whole; standAt a.pos; holding [v] (truthy v)) := by intro _; rfl) : RT X C E a (wTru wa) := rt_tru c.hK ha he
theorem t_not (c : Ok X C E k) {t : WT} (ha : RT X C E a t) : RT X C E (.UnaryOp .Not a pos) (wNotT t) := rt_not ha
theorem d_not (c : Ok X C E k) (ha : RE X C E a wa) : RE X C E (.UnaryOp .Not a pos) (wNotV wa) := re_not c.hK ha
theorem d_and (c : Ok X C E k) {rest : List Expr} (ha : RE X C E a wa) (hb : RE X C E (.BoolOp .And (b :: rest) pos) wb) : RE X C E (.BoolOp .And (a :: b :: rest) pos) (wAndV wa wb) := re_and c.hK ha hb
theorem d_or (c : Ok X C E k) {rest : List Expr} (ha : RE X C E a wa) (hb : RE X C E (.BoolOp .Or (b :: rest) pos) wb) : RE X C E (.BoolOp .Or (a :: b :: rest) pos) (wOrV wa wb) := re_or c.hK ha hb
/-! calls -/
variable {es : List Expr} {w : WA} {nm : Str} {n : Nat} {f : WF}
theorem a_cons (c : Ok X C E k) (hx : RE X C E x wa) (hr : RA X C E es w) (hs : starEach (x :: es) X.env = (false, eval x X.env) :: starEach es X.env := by rfl) : RA X C E (x :: es) (wCons wa w) := ra_cons hx hr hs
theorem d_fun {j : Nat} (c : Ok X C E k) (F : Fun X.prog X.w C X.mg X.base j nm n f) (hj : j ≤ k) (ha : RA X C E (x :: es) w) (gl : Gl X nm := by rfl) (hdb : (nm == ("__debug__" : Str)) = false := by decide)
    (he : starEach (x :: es) X.env = (false, eval x X.env) :: starEach es X.env := by rfl) (hpl : (backTo pos (starEach es X.env)).any (·.1) = false := by rfl) : RE X C E (.Call (.Name nm p) (x :: es) [] pos) (wCall f (wArgs n w)) := re_fun c.hK F c.cm (c.rm.mono hj) c.tk gl ha hdb he hpl
theorem d_fun0 {j : Nat} (c : Ok X C E k) (F : Fun X.prog X.w C X.mg X.base j nm 0 f) (hj : j ≤ k) (gl : Gl X nm := by rfl) (hdb : (nm == ("__debug__" : Str)) = false := by decide) : RE X C E (.Call (.Name nm p) [] [] pos) (wCall f wNil) := re_fun0 c.hK F c.cm (c.rm.mono hj) c.tk gl hdb
theorem d_funK {j : Nat} {ks : List Str} {perm : List Nat} {kws : List Keyword} (c : Ok X C E k) (F : FunK X.prog X.w C X.mg X.base j nm n f ks perm) (hj : j ≤ k) (hkw : RK X C E kws w) (hn : ks.length = n := by rfl) (gl : Gl X nm := by rfl) (hdb : (nm == ("__debug__" : Str)) = false := by decide)
    (hall : (backToKw pos (keywordEach kws X.env)).all (·.1.isSome) = true := by rfl) (hks : (backToKw pos (keywordEach kws X.env)).filterMap (·.1) = ks := by rfl) (hpl : ((backTo pos (starEach [] X.env)).any (·.1) || (backToKw pos (keywordEach kws X.env)).any (·.1.isNone)) = false := by rfl) :
    RE X C E (.Call (.Name nm p) [] kws pos) (wCallK f n perm w) := re_funK c.hK F hn c.cm (c.rm.mono hj) c.tk gl hkw hdb hall hks hpl
theorem f_len (c : Ok X C E k) (hm : X.mg "len" = none) (ha : RA X C E (x :: es) w) (gl : Gl X "len" := by rfl) (he : starEach (x :: es) X.env = (false, eval x X.env) :: starEach es X.env := by rfl) (hpl : (backTo pos (starEach es X.env)).any (·.1) = false := by rfl) :
    RE X C E (.Call (.Name "len" p) (x :: es) [] pos) (wFn gLen w) := re_fn lf_len (by rw [← c.hK]; exact call_len) gl hm (by rfl) ha (by decide) (by decide) he hpl
theorem f_ord (c : Ok X C E k) (hm : X.mg "ord" = none) (ha : RA X C E (x :: es) w) (gl : Gl X "ord" := by rfl) (he : starEach (x :: es) X.env = (false, eval x X.env) :: starEach es X.env := by rfl) (hpl : (backTo pos (starEach es X.env)).any (·.1) = false := by rfl) :
    RE X C E (.Call (.Name "ord" p) (x :: es) [] pos) (wFn gOrd w) := re_fn lf_ord call_ord gl hm (by rfl) ha (by decide) (by decide) he hpl
theorem f_chr (c : Ok X C E k) (hm : X.mg "chr" = none) (ha : RA X C E (x :: es) w) (gl : Gl X "chr" := by rfl) (he : starEach (x :: es) X.env = (false, eval x X.env) :: starEach es X.env := by rfl) (hpl : (backTo pos (starEach es X.env)).any (·.1) = false := by rfl) :
    RE X C E (.Call (.Name "chr" p) (x :: es) [] pos) (wFn gChr w) := re_fn lf_chr call_chr gl hm (by rfl) ha (by decide) (by decide) he hpl
theorem f_abs (c : Ok X C E k) (hm : X.mg "abs" = none) (ha : RA X C E (x :: es) w) (gl : Gl X "abs" := by rfl) (he : starEach (x :: es) X.env = (false, eval x X.env) :: starEach es X.env := by rfl) (hpl : (backTo pos (starEach es X.env)).any (·.1) = false := by rfl) :
    RE X C E (.Call (.Name "abs" p) (x :: es) [] pos) (wFn gAbs w) := re_fn lf_abs call_abs gl hm (by rfl) ha (by decide) (by decide) he hpl
theorem f_max (c : Ok X C E k) (hm : X.mg "max" = none) (ha : RA X C E (x :: es) w) (gl : Gl X "max" := by rfl) (he : starEach (x :: es) X.env = (false, eval x X.env) :: starEach es X.env := by rfl) (hpl : (backTo pos (starEach es X.env)).any (·.1) = false := by rfl) :
    RE X C E (.Call (.Name "max" p) (x :: es) [] pos) (wFn gMax w) := re_fn lf_max (call_max2 c.hc) gl hm (by rfl) ha (by decide) (by decide) he hpl
theorem f_min (c : Ok X C E k) (hm : X.mg "min" = none) (ha : RA X C E (x :: es) w) (gl : Gl X "min" := by rfl) (he : starEach (x :: es) X.env = (false, eval x X.env) :: starEach es X.env := by rfl) (hpl : (backTo pos (starEach es X.env)).any (·.1) = false := by rfl) :
    RE X C E (.Call (.Name "min" p) (x :: es) [] pos) (wFn gMin w) := re_fn lf_min (call_min2 c.hc) gl hm (by rfl) ha (by decide) (by decide) he hpl
theorem f_all (c : Ok X C E k) (hm : X.mg "all" = none) (ha : RA X C E (x :: es) w) (gl : Gl X "all" := by rfl) (he : starEach (x :: es) X.env = (false, eval x X.env) :: starEach es X.env := by rfl) (hpl : (backTo pos (starEach es X.env)).any (·.1) = false := by rfl) :
    RE X C E (.Call (.Name "all" p) (x :: es) [] pos) (wFn gAll w) := re_fn lf_all (by rw [← c.hK]; exact cr_all c.hc) gl hm (by rfl) ha (by decide) (by decide) he hpl
theorem f_any (c : Ok X C E k) (hm : X.mg "any" = none) (ha : RA X C E (x :: es) w) (gl : Gl X "any" := by rfl) (he : starEach (x :: es) X.env = (false, eval x X.env) :: starEach es X.env := by rfl) (hpl : (backTo pos (starEach es X.env)).any (·.1) = false := by rfl) :
    RE X C E (.Call (.Name "any" p) (x :: es) [] pos) (wFn gAny w) := re_fn lf_any (by rw [← c.hK]; exact cr_any c.hc) gl hm (by rfl) ha (by decide) (by decide) he hpl
theorem f_repr (c : Ok X C E k) (hm : X.mg "repr" = none) (ha : RA X C E (x :: es) w) (gl : Gl X "repr" := by rfl) (he : starEach (x :: es) X.env = (false, eval x X.env) :: starEach es X.env := by rfl) (hpl : (backTo pos (starEach es X.env)).any (·.1) = false := by rfl) :
    RE X C E (.Call (.Name "repr" p) (x :: es) [] pos) (wFn gRepr w) := re_fn (lf_repr c.hK) (cr_repr c.rm c.cm) gl hm (by rfl) ha (by decide) (by decide) he hpl
theorem f_int (c : Ok X C E k) (hm : X.mg "int" = none) (ha : RA X C E (x :: es) w) (gl : Gl X "int" := by rfl) (he : starEach (x :: es) X.env = (false, eval x X.env) :: starEach es X.env := by rfl) (hpl : (backTo pos (starEach es X.env)).any (·.1) = false := by rfl) :
    RE X C E (.Call (.Name "int" p) (x :: es) [] pos) (wFn gInt w) := re_ty lf_int cr_int gl hm (by rfl) ha (by decide) (by decide) he hpl
theorem f_str (c : Ok X C E k) (hm : X.mg "str" = none) (ha : RA X C E (x :: es) w) (gl : Gl X "str" := by rfl) (he : starEach (x :: es) X.env = (false, eval x X.env) :: starEach es X.env := by rfl) (hpl : (backTo pos (starEach es X.env)).any (·.1) = false := by rfl) :
    RE X C E (.Call (.Name "str" p) (x :: es) [] pos) (wFn gStr w) := re_ty lf_str cr_str gl hm (by rfl) ha (by decide) (by decide) he hpl
theorem f_list (c : Ok X C E k) (hm : X.mg "list" = none) (ha : RA X C E (x :: es) w) (gl : Gl X "list" := by rfl) (he : starEach (x :: es) X.env = (false, eval x X.env) :: starEach es X.env := by rfl) (hpl : (backTo pos (starEach es X.env)).any (·.1) = false := by rfl) :
    RE X C E (.Call (.Name "list" p) (x :: es) [] pos) (wFn gList w) := re_ty lf_list (by rw [← c.hK]; exact call_list_of) gl hm (by rfl) ha (by decide) (by decide) he hpl
theorem f_listM (c : Ok X C E k) (hm : X.mg "list" = none) (ha : RA X C E (x :: es) w) (gl : Gl X "list" := by rfl) (he : starEach (x :: es) X.env = (false, eval x X.env) :: starEach es X.env := by rfl) (hpl : (backTo pos (starEach es X.env)).any (·.1) = false := by rfl) :
    RE X C E (.Call (.Name "list" p) (x :: es) [] pos) (wFn gListM w) := re_ty lf_listM (by rw [← c.hK]; exact call_list_of) gl hm (by rfl) ha (by decide) (by decide) he hpl
theorem f_tuple (c : Ok X C E k) (hm : X.mg "tuple" = none) (ha : RA X C E (x :: es) w) (gl : Gl X "tuple" := by rfl) (he : starEach (x :: es) X.env = (false, eval x X.env) :: starEach es X.env := by rfl) (hpl : (backTo pos (starEach es X.env)).any (·.1) = false := by rfl) :
    RE X C E (.Call (.Name "tuple" p) (x :: es) [] pos) (wFn gTuple w) := re_ty lf_tuple (by rw [← c.hK]; exact call_tuple_of) gl hm (by rfl) ha (by decide) (by decide) he hpl
theorem f_isi (c : Ok X C E k) {nT : Str} {p2 : Pos} (T : String) (hm : X.mg "isinstance" = none) (hmT : X.mg nT = none) (ha : RE X C E x wa) (hv : bootBuiltins nT = some (.type T) := by rfl) (gl : Gl X "isinstance" := by rfl) (glT : Gl X nT := by rfl) (hn : nT ≠ "__name__" := by decide) (hdb : (nT == ("__debug__" : Str)) = false := by decide)
    (he : starEach [x, .Name nT p2] X.env = (false, eval x X.env) :: starEach [.Name nT p2] X.env := by rfl) (hs : starEach [Expr.Name nT p2] X.env = (false, eval (.Name nT p2) X.env) :: starEach [] X.env := by rfl) (hpl : (backTo pos (starEach [Expr.Name nT p2] X.env)).any (·.1) = false := by rfl) :
    RE X C E (.Call (.Name "isinstance" p) [x, .Name nT p2] [] pos) (wIsi T wa) := re_isi c.hK gl hm glT hmT hv ha hn hdb he hs hpl
theorem m_append (c : Ok X C E k) (ho : RE X C E o wa) (ha : RA X C E (x :: es) w) (hbase : attributeBase o "append" X.env (eval o X.env) = eval o X.env := by rfl)
    (hfew : ((backTo pos (starEach (x :: es) X.env)).all (fun x => !x.1) && (backToKw pos (keywordEach [] X.env)).all (fun x => x.1.isSome)
      && decide ((x :: es).length + ([] : List Keyword).length + (if ([] : List Keyword).isEmpty then 0 else 1) < 30)) = true := by rfl)
    (hline : (apos.endLine == pos.line) = true := by rfl) (hs : starEach (x :: es) X.env = (false, eval x X.env) :: starEach es X.env := by rfl) (hpl : (backTo pos (starEach es X.env)).any (·.1) = false := by rfl) :
    RE X C E (.Call (.Attribute o "append" apos) (x :: es) [] pos) (wMt isLs gApp wa w) := re_mt c.hK lm_app PySem.F.plainAttrs_list PySem.F.slot_list_append PySem.F.type_list_append mt_append ho ha hbase hfew hline hs hpl
theorem m_join (c : Ok X C E k) (ho : RE X C E o wa) (ha : RA X C E (x :: es) w) (hbase : attributeBase o "join" X.env (eval o X.env) = eval o X.env := by rfl)
    (hfew : ((backTo pos (starEach (x :: es) X.env)).all (fun x => !x.1) && (backToKw pos (keywordEach [] X.env)).all (fun x => x.1.isSome)
      && decide ((x :: es).length + ([] : List Keyword).length + (if ([] : List Keyword).isEmpty then 0 else 1) < 30)) = true := by rfl)
    (hline : (apos.endLine == pos.line) = true := by rfl) (hs : starEach (x :: es) X.env = (false, eval x X.env) :: starEach es X.env := by rfl) (hpl : (backTo pos (starEach es X.env)).any (·.1) = false := by rfl) :
    RE X C E (.Call (.Attribute o "join" apos) (x :: es) [] pos) (wMt isS gJoin wa w) := re_mt c.hK lm_join PySem.F.plainAttrs_str PySem.F.slot_str_join PySem.F.type_str_join (by rw [← c.hK]; exact mt_join) ho ha hbase hfew hline hs hpl
theorem m_pop (c : Ok X C E k) (ho : RE X C E o wa) (hbase : attributeBase o "pop" X.env (eval o X.env) = eval o X.env := by rfl) (hline : (apos.endLine == pos.line) = true := by rfl) :
    RE X C E (.Call (.Attribute o "pop" apos) [] [] pos) (wMt isLs gPop wa wNil) := re_mt0 c.hK lm_pop PySem.F.plainAttrs_list PySem.F.slot_list_pop PySem.F.type_list_pop mt_pop ho hbase hline
theorem d_b7 (c : Ok X C E k) {j : Nat} {p1 p2 p3 p4 : Pos} (ha : RE X C E x wa) : RE X C E (.JoinedStr [.FormattedValue x (-1) (some (.JoinedStr [.Constant (.str "07b") j p1] p2)) p3] p4) (wB7 wa) := re_b7 (by decide) ha
/-! walks -/
theorem i_rg1 (c : Ok X C E k) {tg : Expr} (hm : X.mg "range" = none) (ha : RE X C E a wa) (hg : Gl X "range" := by rfl) (hs : starEach [a] X.env = [(false, eval a X.env)] := by rfl) : RI X C E tg (.Call (.Name "range" p) [a] [] pos) (wRg1 wa) := ri_rg1 hg hm ha hs
theorem i_rg2 (c : Ok X C E k) {tg : Expr} (hm : X.mg "range" = none) (ha : RE X C E a wa) (hb : RE X C E b wb) (hg : Gl X "range" := by rfl) (hs : starEach [a, b] X.env = [(false, eval a X.env), (false, eval b X.env)] := by rfl) (hs2 : starEach [b] X.env = [(false, eval b X.env)] := by rfl) :
    RI X C E tg (.Call (.Name "range" p) [a, b] [] pos) (wRg2 wa wb) := ri_rg2 hg hm ha hb hs hs2
theorem i_val (c : Ok X C E k) {tg : Expr} (ha : RE X C E a wa) : RI X C E tg a (wIt wa) := ri_val c.hK ha
section
variable {tge iter elt ke ve : Expr} {ifs : List Expr} {scope : Scope} {tg : Tg} {it : WA} {tt : WT} {el ek ev : WE}
theorem d_lc (c : Ok X C E k) (own : List (Str × Nat)) (tg : Tg) (hi : RI X C E tge iter it) (hg : ∀ s H Ca cl fp, TgIs (X.blk s H scope (compEnvC scope cl Ca X.env) fp) tge tg) (ht : ∀ s H Ca cl fp, RTs (X.blk s H scope (compEnvC scope cl Ca X.env) fp) C E0 ifs tt)
    (he : ∀ s H Ca cl fp, RE (X.blk s H scope (compEnvC scope cl Ca X.env) fp) C E0 elt el) (ok : blkC X.N X.env.scope scope own = true := by decide +kernel) (hv : ∀ i ∈ tg.ix, i ∈ own.map (·.2) := by decide) (hs : ∀ x, foldedSetIterable iter X.env x = pure x := by intro _; rfl) :
    RE X C E (.ListComp elt [⟨tge, iter, ifs, 0⟩] scope pos) (wLc tg (own.map (·.2)) it tt el) := re_lc c.hK c.hc c.hN hi ok hv hg ht he hs
theorem d_dc (c : Ok X C E k) (own : List (Str × Nat)) (tg : Tg) (hi : RI X C E tge iter it) (hg : ∀ s H Ca cl fp, TgIs (X.blk s H scope (compEnvC scope cl Ca X.env) fp) tge tg) (ht : ∀ s H Ca cl fp, RTs (X.blk s H scope (compEnvC scope cl Ca X.env) fp) C E0 ifs tt)
    (hk : ∀ s H Ca cl fp, RE (X.blk s H scope (compEnvC scope cl Ca X.env) fp) C E0 ke ek) (he : ∀ s H Ca cl fp, RE (X.blk s H scope (compEnvC scope cl Ca X.env) fp) C E0 ve ev) (ok : blkC X.N X.env.scope scope own = true := by decide +kernel) (hv : ∀ i ∈ tg.ix, i ∈ own.map (·.2) := by decide)
    (hs : ∀ x, foldedSetIterable iter X.env x = pure x := by intro _; rfl) : RE X C E (.DictComp ke ve [⟨tge, iter, ifs, 0⟩] scope pos) (wDc tg (own.map (·.2)) it tt ek ev) := re_dc c.hK c.hc c.hN hi ok hv hg ht hk he hs
theorem s_lc (c : Ok X C E k) (own : List (Str × Nat)) (tg : Tg) (i : Nat) {y : Str} {py spos : Pos} (hi : RI X C E tge iter it) (hg : ∀ s H Ca cl fp, TgIs (X.blk s H scope (compEnvC scope cl Ca X.env) fp) tge tg) (ht : ∀ s H Ca cl fp, RTs (X.blk s H scope (compEnvC scope cl Ca X.env) fp) C E0 ifs tt)
    (he : ∀ s H Ca cl fp, RE (X.blk s H scope (compEnvC scope cl Ca X.env) fp) C E0 elt el) (hy : X.N[i]? = some y := by rfl) (hyl : X.env.scope.names.lookup y = some .local := by rfl) (hsw : swapsWith (.ListComp elt [⟨tge, iter, ifs, 0⟩] scope pos) (some (.Name y py)) spos.line X.env = pure true := by exact sw_true rfl rfl rfl (by decide +kernel))
    (ok : blkC X.N X.env.scope scope own = true := by decide +kernel) (hv : ∀ i ∈ tg.ix, i ∈ own.map (·.2) := by decide) (hs : ∀ x, foldedSetIterable iter X.env x = pure x := by intro _; rfl) :
    RS X C E (.Assign [.Name y py] (.ListComp elt [⟨tge, iter, ifs, 0⟩] scope pos) spos) (wAsg (.nm i) (wLc tg (own.map (·.2)) it tt el)) := rs_setLc c.hK c.hc c.hN hy hyl hsw hi ok hv hg ht he hs
end
theorem g_nm {i : Nat} {x : Str} {pos : Pos} (hi : X.N[i]? = some x := by rfl) (hx : Loc X.env.scope x := by first | exact .inl rfl | exact .inr rfl) (hf : X.fn x = true ∨ X.env.scope.names.lookup x = some .local := by first | exact .inl rfl | exact .inr rfl) : TgIs X (.Name x pos) (.nm i) := .nm hi hx hf
theorem g_cons {x : Str} {i : Nat} {pos : Pos} {es : List Expr} {is : List Nat} (r : NmIx X es is) (hi : X.N[i]? = some x := by rfl) (hx : Loc X.env.scope x := by first | exact .inl rfl | exact .inr rfl) (hf : X.fn x = true ∨ X.env.scope.names.lookup x = some .local := by first | exact .inl rfl | exact .inr rfl) : NmIx X (.Name x pos :: es) (i :: is) := .cons hi hx hf r
/-! statements -/
variable {sts s2 : List Stmt} {ws w2 : WS} {wt : WT} {t : Expr}
theorem s_set (c : Ok X C E k) (i : Nat) {y : Str} (h : RE X C E x wa) (hi : X.N[i]? = some y := by rfl) (hx : Loc X.env.scope y := by first | exact .inl rfl | exact .inr rfl) (hf : X.fn y = true ∨ X.env.scope.names.lookup y = some .local := by first | exact .inl rfl | exact .inr rfl)
    (hs : swapsWith x (some (.Name y pos')) pos.line X.env = pure false := by rfl) : RS X C E (.Assign [.Name y pos'] x pos) (wAsg (.nm i) wa) := rs_set c.hN hi hx hf h hs
theorem s_unp (c : Ok X C E k) {tg : Expr} {g : Tg} (hg : TgIs X tg g) (h : RE X C E x wa) (hs : swapsWithSole [tg] x pos.line X.env = pure false := by rfl) (hw : swappedStores [tg] x X.env = pure none := by rfl) (h1 : (assignEach [tg] X.env).map (·.2) = [assign tg X.env] := by rfl) : RS X C E (.Assign [tg] x pos) (wAsg g wa) := rs_unp c.hK c.hc c.hN hg h hs hw h1
theorem s_par2 (c : Ok X C E k) (i j : Nat) {x y : Str} {px py pt : Pos} {kt k2 pt2} (ha : RA X C E [a, b] w) (hi : X.N[i]? = some x := by rfl) (hj : X.N[j]? = some y := by rfl) (hij : i ≠ j := by decide) (hx : X.env.scope.names.lookup x = some .local := by rfl) (hy : X.env.scope.names.lookup y = some .local := by rfl)
    (hw : swappedStores [.Tuple [.Name x px, .Name y py] kt pt] (.Tuple [a, b] k2 pt2) X.env = pure (some [x, y]) := by rfl) (hs : swapsWithSole [.Tuple [.Name x px, .Name y py] kt pt] (.Tuple [a, b] k2 pt2) pos.line X.env = pure false := by rfl) :
    RS X C E (.Assign [.Tuple [.Name x px, .Name y py] kt pt] (.Tuple [a, b] k2 pt2) pos) (wPar [i, j] w) := rs_par c.hc c.hN hi hj hij hx hy ha hw hs
theorem s_par3 (c : Ok X C E k) (i j l : Nat) {x y z : Str} {px py pz pt : Pos} {kt k2 pt2} (ha : RA X C E [a, b, d] w) (hi : X.N[i]? = some x := by rfl) (hj : X.N[j]? = some y := by rfl) (hl : X.N[l]? = some z := by rfl) (hij : i ≠ j := by decide) (hil : i ≠ l := by decide) (hjl : j ≠ l := by decide)
    (hx : X.env.scope.names.lookup x = some .local := by rfl) (hy : X.env.scope.names.lookup y = some .local := by rfl) (hz : X.env.scope.names.lookup z = some .local := by rfl)
    (hw : swappedStores [.Tuple [.Name x px, .Name y py, .Name z pz] kt pt] (.Tuple [a, b, d] k2 pt2) X.env = pure (some [x, y, z]) := by rfl) (hs : swapsWithSole [.Tuple [.Name x px, .Name y py, .Name z pz] kt pt] (.Tuple [a, b, d] k2 pt2) pos.line X.env = pure false := by rfl) :
    RS X C E (.Assign [.Tuple [.Name x px, .Name y py, .Name z pz] kt pt] (.Tuple [a, b, d] k2 pt2) pos) (wPar [i, j, l] w) := rs_par3 c.hc c.hN hi hj hl hij hil hjl hx hy hz ha hw hs
theorem s_do (c : Ok X C E k) (h : RE X C E x wa) (hs : swapsWith x none pos.line X.env = pure false := by rfl) : RS X C E (.Expr x pos) (wDo wa) := rs_do h hs
theorem s_dput (c : Ok X C E k) (ho : RE X C E o wa) (hi : RE X C E a wb) (hd : RE X C E d wd) (hs : swapsWith d (some (.Subscript o a pos')) pos.line X.env = pure false := by rfl) : RS X C E (.Assign [.Subscript o a pos'] d pos) (wDPut wa wb wd) := rs_dput c.u1 ho hi hd hs
theorem s_for (c : Ok X C E k) {tg iter : Expr} {g : Tg} {wi : WA} (hi : RI X C E tg iter wi) (hg : TgIs X tg g) (hb : RSs X C E sts ws) (hs : ∀ x, foldedSetIterable iter X.env x = pure x := by intro _; rfl) : RS X C E (.For tg iter sts [] pos) (wFor g wi ws) := rs_for c.hK c.po c.hc c.hN hi hg hb hs
theorem s_whl (c : Ok X C E k) (ht : RT X C E t wt) (hb : RSs X C E sts ws) : RS X C E (.While t sts [] pos) (wWhl wt ws) := rs_whl c.po ht hb
theorem s_raise (c : Ok X C E k) {cn : Str} {B fI : Addr} {pos2 : Pos} (T : RX.ErrTxt C.K cn (fldOf cn) (He.ga C.K cn) B fI) (gC : X.mg cn = some (.ref (He.ga C.K cn))) (ha : RA X C E [a] w) (hg : Gl X cn := by rfl) (hdb : (cn == ("__debug__" : Str)) = false := by decide)
    (he : starEach [a] X.env = (false, eval a X.env) :: starEach [] X.env := by rfl) (hpl : (backTo pos (starEach [] X.env)).any (·.1) = false := by rfl) : RS X C E (.Raise (some (.Call (.Name cn p) [a] [] pos)) none pos2) (wRaise cn w) := rs_raise c.hc (by rw [c.hK]; exact T) gC c.rm c.tk hg ha hdb he hpl
end
end RF

set_option Elab.async false
set_option linter.all false
set_option maxRecDepth 100000
set_option maxHeartbeats 1000000
/-! Part D4: range with a step, a turned list that is to change, the context of a lambda's body. -/
namespace RF
open PySem PySem.Spec L2
def intsC (lo c : Int) (n : Nat) : List PV := (List.range n).map fun (i : Nat) => .int (lo + i * c)
def wRg3 (a b d : WE) : WA := fun σ hp e Q => a σ hp e fun p h1 => b σ h1 e fun q h2 => d σ h2 e fun r h => ∃ (i j c : Int) (n : Nat), p = .int i ∧ q = .int j ∧ r = .int c ∧ RgC i j c n ∧ Q (intsC i c n) h
theorem wk_rngC {C : Cfg} {μ : List Addr} {H : Hp} {lo c : Int} {n : Nat} : Wk C (Itc lo c n) μ H (intsC lo c n) where
  go := fun μ' H' i u hi => by
    simp only [intsC, List.length_map, List.length_range] at hi
    exact hi
  yl := fun μ' H' i x H'' p u hp ⟨e, hx⟩ => by
    subst e hx
    simp only [intsC, List.getElem?_map] at hp
    obtain ⟨k, hr, hk⟩ := Option.map_eq_some_iff.mp hp
    obtain ⟨_, e⟩ := List.getElem?_eq_some_iff.mp hr
    have hk2 : k = i := by simpa using e.symm
    subst hk2
    subst hk
    exact ⟨.int', .refl, fun _ z => z⟩
  st := fun μ' H' i u hi => by
    simp only [intsC, List.length_map, List.length_range] at hi
    exact hi
section
variable {X : Cx} {C : Cfg} {E : XK} {k : Nat} {a b d : Expr} {wa wb wd : WE} {pos p : Pos}
theorem i_rg3 (c : Ok X C E k) {tg : Expr} (hm : X.mg "range" = none) (ha : RE X C E a wa) (hb : RE X C E b wb) (hd : RE X C E d wd) (hg : Gl X "range" := by rfl) (hs : starEach [a, b, d] X.env = (false, eval a X.env) :: starEach [b, d] X.env := by rfl)
    (hs2 : starEach [b, d] X.env = (false, eval b X.env) :: starEach [d] X.env := by rfl) (hs3 : starEach [d] X.env = (false, eval d X.env) :: starEach [] X.env := by rfl) (hpl : (backTo pos (starEach [b, d] X.env)).any (·.1) = false := by rfl) :
    RI X C E tg (.Call (.Name "range" p) [a, b, d] [] pos) (wRg3 wa wb wd) := by
  refine ⟨fun σ hp e Q Q' i q => ha.mo _ _ _ _ _ (fun p h1 q1 => hb.mo _ _ _ _ _ (fun p h2 q2 => hd.mo _ _ _ _ _ (fun p h ⟨i1, j, c1, n, e1, e2, e3, l1, q1⟩ => ⟨i1, j, c1, n, e1, e2, e3, l1, i _ _ q1⟩) q2) q1) q,
    PI.imp (pi_range3 hg hm (pa_cons ha.pe (pa_cons hb.pe (pa_cons hd.pe pa_nil hs3) hs2) hs) hs hpl) fun σ H R ⟨μ, hp, σI, e, A, s, q⟩ => ?_⟩
  refine tE.go ha.mo A s q fun p h1 μ1 H1 v q1 u1 A1 s1 r1 => ?_
  refine tE.go hb.mo A1 s1 q1 fun p2 h2 μ2 H2 v2 q2 u2 A2 s2 r2 => ?_
  refine tE.go hd.mo A2 s2 q2 fun p3 h3 μ3 H3 v3 ⟨i, j, c1, n, e1, e2, e3, l1, q3⟩ u3 A3 s3 r3 => ?_
  subst e1 e2 e3
  exact ⟨i, j, c1, n, by rw [r1.intI, r2.intI, r3.intI], l1, q3 μ3 H3 ((u1.trans u2).trans u3) A3.hr _ wk_rngC⟩
def wRevLM (a : WE) : WE := fun σ hp e Q => a σ hp e fun p h => ∃ ps, asL h p = some ps ∧ ∀ n, h n = none → Q (.loc n) (put h n (.lst ps.reverse))
theorem d_revM (c : Ok X C E k) {j : Nat} {p1 p3 p4 : Pos} (ha : RE X C E a wa) : RE X C E (.Subscript a (.Slice none none (some (.UnaryOp .USub (.Constant (.int 1) j p1) p3)) p4) pos) (wRevLM wa) := by
  refine ⟨fun σ hp e Q Q' i q => ha.mo _ _ _ _ _ (fun p h ⟨ps, e1, q⟩ => ⟨ps, e1, fun n hn => i _ _ (q n hn)⟩) q, PE.imp (PE.fz (pe_revL ha.pe)) fun σ H Q ⟨μ, hp, σI, e, A, s, q⟩ => ?_⟩
  refine tE.go ha.mo A s q fun p h1 μ1 H1 v ⟨ps, e1, q1⟩ u1 A1 s1 r1 => ?_
  obtain ⟨a, vs, rfl, hs, rs⟩ := asL_sq A1.hr r1 e1
  exact ⟨a, vs, rfl, by rw [c.hK]; exact hs, fun p np => fE.newM (fun n hn => fE.up (q1 n hn) u1) A1.hr rs.reverse np⟩
end
theorem ok_lam {X : Cx} {C : Cfg} {E : XK} {k j : Nat} (c : Ok X C E k) (A : Around) (out : List Env) (s : Shared) (H : Hp) (Eb : XK) {scope : Scope} (f c' : Addr) (g : Calm A) (r : Room j (A.deeper (LamX.lamEnv X scope s.heap.objs.size f c'))) : Ok (LamX.lamCx X A out s H Eb scope f c') C Eb j :=
  ⟨c.hK, rfl, c.hN, takes_of rfl rfl rfl rfl, passes_of (E₁ := fun e' s'' => L2.CX X.prog X.w out H s Eb e' s'') rfl, r, g⟩
end RF

set_option Elab.async false
set_option linter.all false
set_option maxRecDepth 100000
set_option maxHeartbeats 1000000
/-! Part D5: a def's code object known; the call of the trying def; short words for a suite. -/
namespace RF
open PySem PySem.Spec L2
open PyProof.Rows (envOfC)
section
variable {P : Program} {w : World} {C : Cfg} {mg : Str → Option Value} {base : Heap} {k n : Nat} {fd : FuncData} {ps : List Str}
/-- the rule for a def of the top, whose code object is known -/
theorem fnRc {x : Str} {params : Arguments} {body : List Stmt} {scope : Scope} {dvs : List V} {kws : List (Str × V)} {N : List Str} {ws : WS} (F : FunD C.K x x params body scope dvs kws (He.ga C.K x) fd) (S : FnScope N ps scope) (hn : ps.length = n)
    (hb : ∀ (A : Around) (out : List Env) (s : Shared) (H : Hp) (E : XK) (cdv : Value) (X : Cx), cdv = .ref (RH.codeAd C.K x) → X = cxOf (L2.CX P w) P w C.K mg base N x scope (He.ga C.K x) cdv A out s H E → Ok X C E k → RSs X C E body ws) :
    FnG P w C.K mg base (k + 1) (He.ga C.K x) fd ps (spI C n (wFun N.length ws)) := by
  obtain ⟨oc, od, dV, kV, doc, pm, an, cdv, ct, osl, rfl, look, code, h1, h2⟩ := F.ex
  have hc : cdv = .ref (RH.codeAd C.K x) := by
    unfold PySem.W.codeIn at code
    split at code
    · unfold RH.codeAd
      rw [look]
    · cases code
  refine ⟨fun vs H Q E h => by rw [h.1, hn], fun A out s H args us vs Q E g room e0 bind rel h => ?_⟩
  obtain ⟨hl, μ, hp, qs, e, a, rv, q⟩ := h
  refine LamX.run_ofS look code S room e0 bind rel (by rw [hl, hn]) fun room' => ?_
  have R := hb A out s H E cdv _ hc rfl (ok_body S.nd g room')
  refine ⟨_, R.ps, ?_⟩
  refine tS.go R.mo a (sr_start rv) q ⟨fun _ h q => ?_, fun _ h q => fE.less q, fun _ _ q => q.elim, fun _ _ q => q.elim⟩
  exact fun μ' H' σ u r s => fE.less q μ' H' .non u r .non'
end
/-- a def that calls what it gets and catches -/
structure Tried (P : Program) (w : World) (C : Cfg) (mg : Str → Option Value) (base : Heap) (x a : Str) (st : Stmt) (Ng : List Str) (j : Nat) (bt : BT) (bw : Addr → WL → WS) : Prop where
  g : mg x = some (.ref (He.ga C.K x))
  kp : PySem.W.keepIn C.K (.ref (He.ga C.K x)) = true
  ex : ∃ fd dvs kws, FunD C.K x x (defArgs st) (defBody st) (defScope st) dvs kws (He.ga C.K x) fd ∧ Binds C.K fd [a] []
  sc : FnScope Ng [a] (defScope st)
  va : Vis (defScope st) a
  mbt : ∀ w hp Q Q', (∀ p h, Q p h → Q' p h) → bt w hp Q → bt w hp Q'
  bg : ∀ (C' : Cfg) (Z : Cx) (cdv : Value) (A : Around) (out : List Env) (s : Shared) (H : Hp) (f : Addr) (wA : WL), Z = cxOf (L2.CX P w) P w C.K mg base Ng x (defScope st) (He.ga C.K x) cdv A out s H E0 → C'.K = C.K → MoL wA →
    (∀ pn xe Eb p1 p2, Takes (Z.tr pn xe) (fun cls d _ H => Eb cls d H) → RE (Z.tr pn xe) C' Eb (.Call (.Name a p1) [] [] p2) (wAct f wA)) → Calm Z.A → Room j Z.A → RSs Z C' E0 (defBody st) (bw f wA)
  bt : ∀ f w hp Q, MoL w → bt w hp Q → bw f w (some (.ref f) :: List.replicate (Ng.length - 1) none) hp eNo { nx := fun _ h => ∃ h', leP h' h ∧ Q .non h', rt := fun p h => ∃ h', leP h' h ∧ Q p h' }
section
variable {X : Cx} {C : Cfg} {E : XK} {k : Nat}
theorem d_lam {x a : Str} {st : Stmt} {Ng : List Str} {j : Nat} {bt : BT} {bw : Addr → WL → WS} {cc Pt : Addr} {q : Str} {params : Arguments} {body : Expr} {scope : Scope} {wl : WE} {p lpos pos : Pos} (c : Ok X C E k) (T : Tried X.prog X.w C X.mg X.base x a st Ng (j + 1) bt bw) (hj : j + 2 ≤ k)
    (TB : LamX.TabB X.base X.mg cc Pt) (hcode : X.env.code = .ref cc) (hT : C.T = [(Pt, q)]) (hbody : ∀ A out s H Eb f c', Ok (LamX.lamCx X A out s H Eb scope f c') C Eb j → RE (LamX.lamCx X A out s H Eb scope f c') C Eb body wl) (L : LamX.LamS X.env.scope scope)
    (hq : q = X.env.qual ++ "<lambda>" := by rfl) (gl : Gl X x := by rfl) (hdef : defaultsOf params X.env = ([], []) := by rfl) (hbind : ∀ (q : Str) (cl : List (Str × Addr)) (pm cv ctv : Value), bindArgs (PySem.W.kla_fn "<lambda>" q params body scope cl pm cv ctv) ⟨[], []⟩ = pure [] := by intros; rfl)
    (hdb : (x == ("__debug__" : Str)) = false := by decide) (hd : (a == ("__debug__" : Str)) = false := by decide) (hcd : (a == ("__classdict__" : Str)) = false := by decide) :
    RE X C E (.Call (.Name x p) [.Lambda params body scope lpos] [] pos) (wLam wl bt) := by
  obtain ⟨fd, dvs, kws, F, b⟩ := T.ex
  subst hq
  have hK := c.hK
  refine re_lam hK gl T.g (by rw [hK]; exact T.kp) (by rw [hK]; exact F) (by rw [hK]; exact b) T.sc T.va TB hcode (by rw [hT]; exact List.mem_singleton.mpr rfl) (fun z hz e => by
    rw [hT] at hz
    cases List.mem_singleton.mp hz
    rfl) (c.rm.mono hj) c.cm L hdef hbind (fun A out s H Eb f c' g r => hbody A out s H Eb f c' (ok_lam c A out s H Eb f c' g r)) T.mbt (fun cdv s H f C' w e m act g r => ?_) T.bt hdb hd hcd
  refine T.bg C' _ cdv X.A X.stack s H f w ?_ e m act g r
  show cxOf _ X.prog X.w X.K X.mg X.base Ng x (defScope st) (He.ga C.K x) cdv X.A X.stack s H E0 = _
  rw [hK]
end
/-! ### short words in a suite -/
theorem cr_reprU {X : Cx} (un : X.A.units + 200 < cLine) (hG : Calm X.A) : CallR X (.builtin "repr") (rRepr X) := by
  intro pins s σ H xs us Q I r h
  obtain ⟨x, d, rfl, rd, ⟨h1, h2, h3⟩, q⟩ := h
  cases r with
  | cons r1 rs =>
    cases rs
    obtain ⟨as, rr, no⟩ := rd pins σ s _ I r1
    have fin : ∀ (h' : Heap) (u tk : Tok), (∀ b o, s.heap.get? b = some o → h'.get? b = some o) → EP X pins σ Q (.str d.shown u) { s with heap := h', toks := tk } := fun h' u tk hk => ⟨.str d.shown, H, I.kept hk, ⟨u, rfl⟩, q⟩
    have ref : ∀ {a : Addr}, Reads s.heap (.ref a) d as → wpAny (model X.prog X.w) X.A (call (.builtin "repr") [.ref a]) (EP X pins σ Q) X.xe s := fun rr =>
      PySem.repr_of_reads' rr h1 no hG (by omega) (fun _ _ e => e) fin h3
    cases rr with
    | none => exact PySem.P.repr_of_none (fin s.heap _ _ fun _ _ e => e)
    | bool b => exact PySem.P.repr_of_bool (fin s.heap _ _ fun _ _ e => e)
    | int i t => exact PySem.P.repr_of_int (by simpa [PyData.showable] using h1) (fin s.heap _ _ fun _ _ e => e)
    | str y t => exact PySem.P.repr_of_str (fin s.heap _ _ fun _ _ e => e) h3
    | list e1 e2 e3 e4 => exact ref (.list e1 e2 e3 e4)
    | tuple e1 e2 e3 e4 => exact ref (.tuple e1 e2 e3 e4)
    | dict e1 e2 e3 e4 e5 => exact ref (.dict e1 e2 e3 e4 e5)
/-- what a suite's context offers -/
structure Su (X : Cx) (C : Cfg) : Prop where
  hK : X.K = C.K
  un : X.A.units + 200 < cLine
  cm : Calm X.A
section
variable {X : Cx} {C : Cfg} {E : XK} {a b x : Expr} {wa wb : WE} {pos p : Pos} {es : List Expr} {w : WA}
theorem xd_str (c : Su X C) (i : Str) {j : Nat} {pos : Pos} : RE X C E (.Constant (.str i) j pos) (wC (.str i)) := re_c pe_str fun _ _ => .str'
theorem xd_int (c : Su X C) (i : Int) {j : Nat} {pos : Pos} : RE X C E (.Constant (.int i) j pos) (wC (.int i)) := re_c pe_int fun _ _ => .int'
theorem xd_bl (c : Su X C) (i : Bool) {j : Nat} {pos : Pos} : RE X C E (.Constant (.bool i) j pos) (wC (.bl i)) := re_c pe_bl fun _ _ => .bl'
theorem xd_non (c : Su X C) {j : Nat} {pos : Pos} : RE X C E (.Constant .none j pos) (wC .non) := re_c pe_non fun _ _ => .non'
theorem xd_var (c : Su X C) (i : Nat) {x : Str} {pos : Pos} (hN : X.N[i]? = some x := by rfl) (hv : Vis X.env.scope x := by first | exact .inl rfl | exact .inr (.inl rfl) | exact .inr (.inr rfl))
    (hd : (x == ("__debug__" : Str)) = false := by decide) (hcd : (x == ("__classdict__" : Str)) = false := by decide) : RE X C E (.Name x pos) (wVar i) := re_var hN hv hd hcd
theorem xa_cons (c : Su X C) (hx : RE X C E x wa) (hr : RA X C E es w) (hs : starEach (x :: es) X.env = (false, eval x X.env) :: starEach es X.env := by rfl) : RA X C E (x :: es) (wCons wa w) := ra_cons hx hr hs
theorem xf_repr (c : Su X C) (hm : X.mg "repr" = none) (ha : RA X C E (x :: es) w) (gl : Gl X "repr" := by rfl) (he : starEach (x :: es) X.env = (false, eval x X.env) :: starEach es X.env := by rfl) (hpl : (backTo pos (starEach es X.env)).any (·.1) = false := by rfl) :
    RE X C E (.Call (.Name "repr" p) (x :: es) [] pos) (wFn gRepr w) := re_fn (lf_repr c.hK) (cr_reprU c.un c.cm) gl hm (by rfl) ha (by decide) (by decide) he hpl
theorem xt_tru (c : Su X C) (ha : RE X C E a wa) (he : ∀ whole, isTrue a X.env whole = (do let v ← whole; standAt a.pos; holding [v] (truthy v)) := by intro _; rfl) : RT X C E a (wTru wa) := rt_tru c.hK ha he
theorem xt_in (c : Su X C) (ha : RE X C E a wa) (hb : RE X C E b wb) (hm : behindInMarks .In b = false := by rfl) : RT X C E (.Compare a [.In] [b] pos) (wCmpT cIn wa wb) := rt_cmp l_in (by rw [← c.hK]; exact op_inAll (by have := c.un; omega)) ha hb hm
end
theorem su_of {Z : Cx} {C' : Cfg} {a : Addr} {pn : List (Addr × Obj)} {j : Nat} (hK : Z.K = C'.K) (g : Calm Z.A) (r : Room j Z.A) : Su (Z.suite a pn) C' := ⟨hK, by have := r.un; show Z.A.units + 200 < cLine; omega, g⟩
end RF

set_option Elab.async false
set_option linter.all false
set_option maxRecDepth 100000
set_option maxHeartbeats 1000000
/-! Part E2: from the head to the law's call. -/
namespace RF
open PySem PySem.Spec L2 PyProof.Rows LamX
/-- what the head must yield of a law -/
structure LawG (P : Program) (w : World) (K : PySem.W.Frag) (mg : Str → Option Value) (h : Heap) (fa : Addr) (k n : Nat) (x : Str) (cs : List (Addr × Addr)) (T : List (Addr × Str)) (f : Cfg → WF) : Prop where
  hT : ∀ p ∈ cs, h.get? p.2 = some { cls := .none, data := .fields #[] }
  nT : ∀ p ∈ cs, K.lookup p.2 = none
  hC : ∀ p ∈ cs, PySem.W.CodeHd h p.1 p.2
  hTq : ∀ p ∈ T, p.1 ∈ cs.map (·.2)
  ex : ∃ fd : FuncData, (∀ (s : Shared) (u : Value), BindsTo s fd ⟨[u], []⟩ [(x, u)]) ∧
    ∀ (base : Heap) (a : Addr) (ns : List Int), K.In base → base.Ns mainGlobals mg → (∀ p ∈ cs, TabB base mg p.1 p.2) → FnG P w K mg base k fa fd [x] (spI ⟨K, T, [], [], [], [(a, ns)]⟩ 1 (f ⟨K, T, [], [], [], [(a, ns)]⟩))
  hf : ∀ (a : Addr) (ns : List Int), ns.length ≤ n → ∀ Q : KI, (∀ hp, Q (.bl true) hp) → f ⟨K, T, [], [], [], [(a, ns)]⟩ [.ref a] (fun _ => none) eNo Q
theorem walk_ofG {l : PySem.W.OpenLaw} {n k : Nat} {q : Program} {loose : List Str} {XP : (Str → Option Value) → Heap → Prop} {YP : World → Heap → Prop} {d : DefRec} {x : Str} (hn : l.most = some n) (hn2 : n ≤ sizeLine) (hdf : d.params.defaults = []) (room : Room k callerA)
    (F : ∀ (w : World) (mg : Str → Option Value) (fa : Addr) (h : Heap), YP w h → h.Ns mainGlobals mg → mg d.name = some (.ref fa) →
      ∃ (K : PySem.W.Frag) (cs : List (Addr × Addr)) (T : List (Addr × Str)) (f : Cfg → WF), K.In h ∧ LawG l.prog w K mg h fa k n x cs T f) :
    PySem.W.WalkO q loose XP YP l.row.toRowW d [] (fun f vs => PySem.call f vs) := by
  refine Att.attach_callB hn hdf ?_
  intro w s0 s1 mg mb fa o pm cd doc a vs ns G Y _ _ _ hmg here hints hlen _ hg
  obtain ⟨K, cs, T, f, kin, L⟩ := F w mg fa _ Y G.T.g hmg
  obtain ⟨fd, hb, hF⟩ := L.ex
  exact law_goG kin G.T.g G.T.b G.T.builtins G.T.nolimit hg L.hT L.nT L.hC G.T.bmain here hints (Nat.le_trans hlen hn2) room L.hTq (fun base h1 h2 h3 => hF base a ns h1 h2 h3) hb (L.hf a ns hlen)
end RF

set_option Elab.async false
set_option linter.all false
set_option maxRecDepth 100000
set_option maxHeartbeats 1000000
/-! Part P1: the plain side: the deck. -/
namespace RF
open PySem PySem.Spec L2
def gDraw : WS := (wSeq (wDPut (wVar 0) (wC (.str "draws")) (wOp gAdd (wDGet (wVar 0) (wC (.str "draws"))) (wC (.int 1)))) (wSeq (wIf (wCmpT cNe (wDGet (wVar 0) (wC (.str "left"))) (wLst wNil)) (wSeq (wAsg (.nm 2) (wMt isLs gPop (wDGet (wVar 0) (wC (.str "left"))) wNil)) (wSeq (wIf (wCmpT cGe (wVar 2) (wOp gPow (wC (.int 10)) (wC (.int 18)))) (wSeq (wDo (wMt isLs gApp (wDGet (wVar 0) (wC (.str "left"))) (wCons (wOp gDiv (wVar 2) (wFn gMax (wCons (wC (.int 2)) (wCons (wVar 1) wNil)))) wNil))) (wRet (wOp gMod (wFn gInt (wCons (wVar 2) wNil)) (wVar 1)))) wPass) (wDPut (wVar 0) (wC (.str "mixed")) (wOp gMod (wFn gInt (wCons (wOp gAdd (wOp gAdd (wOp gMul (wDGet (wVar 0) (wC (.str "mixed"))) (wC (.int 48271))) (wOp gMod (wFn gInt (wCons (wVar 2) wNil)) (wC (.int 2147483587)))) (wC (.int 5))) wNil)) (wC (.int 2147483629)))))) wPass) (wSeq (wAsg (.nm 3) (wOp gMod (wFn gInt (wCons (wOp gAdd (wDGet (wVar 0) (wC (.str "mixed"))) (wOp gMul (wC (.int 69621)) (wDGet (wVar 0) (wC (.str "draws"))))) wNil)) (wC (.int 2147483647)))) (wSeq (wAsg (.nm 3) (wOp gMod (wFn gInt (wCons (wOp gAdd (wOp gAdd (wOp gMul (wVar 3) (wVar 3)) (wOp gMul (wC (.int 40014)) (wDGet (wVar 0) (wC (.str "draws"))))) (wC (.int 7))) wNil)) (wC (.int 2147483563)))) (wSeq (wAsg (.nm 3) (wOp gMod (wFn gInt (wCons (wOp gAdd (wOp gMul (wVar 3) (wC (.int 30269))) (wC (.int 101))) wNil)) (wC (.int 2147483587)))) (wRet (wOp gMod (wFn gInt (wCons (wOp gDiv (wVar 3) (wC (.int 64))) wNil)) (wVar 1))))))))
/-- the deck stands at d, what is left of the script at l -/
def Deck (d l : Nat) (hp : PH) : Prop := ∃ (xs : List Int) (m k : Int), hp d = some (.dct [(.inr "left", .loc l), (.inr "mixed", .int m), (.inr "draws", .int k)]) ∧ hp l = some (.lst (xs.map PV.int)) ∧ d ≠ l ∧ 0 ≤ m ∧ m < 2147483629 ∧ xs.length ≤ 63
/-- only the deck is another -/
def SameBut (d l : Nat) (h h' : PH) : Prop := ∀ n, n ≠ d → n ≠ l → h' n = h n
def sDraw : WF := fun ps hp e Q => ∃ d l many, ps = [.loc d, .int many] ∧ 0 < many ∧ many < 1000000000 ∧ Deck d l hp ∧ ∀ r hp', 0 ≤ r → r < many → Deck d l hp' → SameBut d l hp hp' → Q (.int r) hp'
theorem mo_sDraw : MoF sDraw := fun ps hp e Q Q' i ⟨d, l, many, h1, h2, h3, h4, h5⟩ => ⟨d, l, many, h1, h2, h3, h4, fun r hp' a b c s => i _ _ (h5 r hp' a b c s)⟩
theorem toDs_ints : ∀ xs : List Int, toDs (xs.map PV.int) = some (xs.map PyData.int)
  | [] => rfl
  | x :: xs => by
    simp only [List.map_cons, toDs, toD, toDs_ints xs, Option.bind_some, Option.map_some]
theorem put_get {hp : PH} {n m : Nat} {c : Cell} : put hp n c m = if m = n then some c else hp m := rfl
theorem shaped_ints (xs : List Int) : SeqAt.shaped (.list (xs.map PyData.int)) = true := by
  have a1 : ∀ xs : List Int, PyData.canLayAll0 (xs.map PyData.int) = true := by
    intro xs
    induction xs with
    | nil => rfl
    | cons x xs ih => simp [PyData.canLayAll0, PyData.canLay0, ih]
  have a2 : ∀ xs : List Int, PyData.depthAll (xs.map PyData.int) = 0 := by
    intro xs
    induction xs with
    | nil => rfl
    | cons x xs ih => simp [PyData.depthAll, PyData.depth, ih]
  simp [SeqAt.shaped, PyData.canLay0, PyData.depth, a1, a2]
theorem eqv_nil (ds : List PyData) : (PyData.list ds).eqv (.list []) = ds.isEmpty := by
  cases ds with
  | nil => rfl
  | cons a b => rfl
theorem figs {D : DI} {d l : Nat} {many m k : Int} {z : Option PV} {hp : PH} {e : EI} (hm : 0 < many) (hd : hp d = some (.dct [(.inr "left", .loc l), (.inr "mixed", .int m), (.inr "draws", .int k)]))
    (q : ∀ r, 0 ≤ r → r < many → D.rt (.int r) hp) : (wSeq (wAsg (.nm 3) (wOp gMod (wFn gInt (wCons (wOp gAdd (wDGet (wVar 0) (wC (.str "mixed"))) (wOp gMul (wC (.int 69621)) (wDGet (wVar 0) (wC (.str "draws"))))) wNil)) (wC (.int 2147483647)))) (wSeq (wAsg (.nm 3) (wOp gMod (wFn gInt (wCons (wOp gAdd (wOp gAdd (wOp gMul (wVar 3) (wVar 3)) (wOp gMul (wC (.int 40014)) (wDGet (wVar 0) (wC (.str "draws"))))) (wC (.int 7))) wNil)) (wC (.int 2147483563)))) (wSeq (wAsg (.nm 3) (wOp gMod (wFn gInt (wCons (wOp gAdd (wOp gMul (wVar 3) (wC (.int 30269))) (wC (.int 101))) wNil)) (wC (.int 2147483587)))) (wRet (wOp gMod (wFn gInt (wCons (wOp gDiv (wVar 3) (wC (.int 64))) wNil)) (wVar 1)))))) [some (.loc d), some (.int many), z, none] hp e D := by
  have b1 : ∀ x : Int, 0 ≤ x.fmod 2147483647 ∧ x.fmod 2147483647 < 2147483647 := fun x => ⟨Int.fmod_nonneg_of_pos x (by decide), Int.fmod_lt_of_pos x (by decide)⟩
  simp (config := { decide := true }) [wSeq, wAsg, Tg.go, wVar, wC, wOp, wDGet, asD, hd, keyP, getP, gAdd, gInt, gF1, wFn, wCons, wNil, wRet, gMul, gII, gMod, gDiv, CMul, CDivN]
  have b2 := b1 (m + 69621 * k)
  exact ⟨⟨by omega, by omega⟩, by omega, q _ (Int.fmod_nonneg_of_pos _ hm) (Int.fmod_lt_of_pos _ hm)⟩
theorem put_ne' {hp : PH} {n m : Nat} {c : Cell} (h : m ≠ n) : put hp n c m = hp m := if_neg h
abbrev dk (l : Nat) (m k : Int) : Cell := .dct [(.inr "left", .loc l), (.inr "mixed", .int m), (.inr "draws", .int k)]
section
variable {D : DI} {d l : Nat} {many m k : Int} {z z3 : Option PV} {hp : PH} {e : EI}
theorem dr1 (hd : hp d = some (dk l m k)) (q : D.nx [some (.loc d), some (.int many), z, z3] (put hp d (dk l m (k + 1)))) : wDPut (wVar 0) (wC (.str "draws")) (wOp gAdd (wDGet (wVar 0) (wC (.str "draws"))) (wC (.int 1))) [some (.loc d), some (.int many), z, z3] hp e D := by
  simpa (config := { decide := true }) [wDPut, wVar, wC, wOp, wDGet, asD, hd, keyP, getP, putP, gAdd] using q
theorem dr2 {a b : WS} {xs : List Int} (hd : hp d = some (dk l m k)) (hl : hp l = some (.lst (xs.map PV.int))) (len : xs.length ≤ 63) (q1 : xs ≠ [] → a [some (.loc d), some (.int many), z, z3] hp e D) (q2 : xs = [] → b [some (.loc d), some (.int many), z, z3] hp e D) :
    wIf (wCmpT cNe (wDGet (wVar 0) (wC (.str "left"))) (wLst wNil)) a b [some (.loc d), some (.int many), z, z3] hp e D := by
  have sh : SeqAt.shaped (.list []) = true := by decide +kernel
  have sx : SeqAt.shaped (.list (xs.map PyData.int)) = true := shaped_ints xs
  simp (config := { decide := true }) [wIf, wCmpT, wVar, wC, wDGet, asD, hd, keyP, getP, wLst, wNil, cNe, toDh, asL, hl, toDs_ints, toD, toDs, sh, sx, eqv_nil]
  cases xs with
  | nil => exact .inl ⟨rfl, q2 rfl⟩
  | cons x xs => exact .inr ⟨by simp, q1 (by simp)⟩
theorem dr3 {x : Int} {xs : List Int} (hd : hp d = some (dk l m k)) (hl : hp l = some (.lst ((xs ++ [x]).map PV.int))) (q : D.nx [some (.loc d), some (.int many), some (.int x), z3] (put hp l (.lst (xs.map PV.int)))) :
    wAsg (.nm 2) (wMt isLs gPop (wDGet (wVar 0) (wC (.str "left"))) wNil) [some (.loc d), some (.int many), z, z3] hp e D := by
  simp (config := { decide := true }) [wAsg, wMt, isLs, gPop, wVar, wC, wDGet, asD, hd, keyP, getP, wNil, asL, hl, Tg.go]
  simpa using q
theorem dr4 {a b : WS} {x : Int} (q1 : 10 ^ 18 ≤ x → a [some (.loc d), some (.int many), some (.int x), z3] hp e D) (q2 : x < 10 ^ 18 → b [some (.loc d), some (.int many), some (.int x), z3] hp e D) :
    wIf (wCmpT cGe (wVar 2) (wOp gPow (wC (.int 10)) (wC (.int 18)))) a b [some (.loc d), some (.int many), some (.int x), z3] hp e D := by
  simp (config := { decide := true }) [wIf, wCmpT, wVar, wC, cGe, cII, wOp, gPow, gII, CPow]
  by_cases h : 1000000000000000000 ≤ x
  · exact .inr ⟨h, q1 (by omega)⟩
  · exact .inl ⟨by omega, q2 (by omega)⟩
theorem dr5 {x : Int} {xs : List Int} (hm : 0 < many) (h9 : many < 1000000000) (hd : hp d = some (dk l m k)) (hl : hp l = some (.lst (xs.map PV.int))) (len : xs.length ≤ 62) (q : ∀ y : Int, D.nx [some (.loc d), some (.int many), some (.int x), z3] (put hp l (.lst ((xs ++ [y]).map PV.int)))) :
    wDo (wMt isLs gApp (wDGet (wVar 0) (wC (.str "left"))) (wCons (wOp gDiv (wVar 2) (wFn gMax (wCons (wC (.int 2)) (wCons (wVar 1) wNil)))) wNil)) [some (.loc d), some (.int many), some (.int x), z3] hp e D := by
  have sl : sizeLine = 16777216 := PySem.sizeLine_eq
  simp (config := { decide := true }) [wDo, wMt, isLs, gApp, wVar, wC, wDGet, asD, hd, keyP, getP, wNil, asL, hl, wCons, wOp, gDiv, gII, CDivN, wFn, gMax, gF2]
  refine ⟨_, _, ⟨rfl, rfl⟩, _, ⟨2, rfl, many, rfl, rfl⟩, _, rfl, ⟨?_, ?_⟩, by omega, ?_⟩
  · split <;> omega
  · split <;> omega
  · simpa using q _
theorem dr6 {x : Int} (hm : 0 < many) (q : ∀ r, 0 ≤ r → r < many → D.rt (.int r) hp) : wRet (wOp gMod (wFn gInt (wCons (wVar 2) wNil)) (wVar 1)) [some (.loc d), some (.int many), some (.int x), z3] hp e D := by
  simp (config := { decide := true }) [wRet, wVar, wOp, gMod, gII, wFn, gInt, gF1, wCons, wNil]
  exact ⟨by omega, q _ (Int.fmod_nonneg_of_pos _ hm) (Int.fmod_lt_of_pos _ hm)⟩
theorem dr7 {x : Int} (m0 : 0 ≤ m) (m1 : m < 2147483629) (hd : hp d = some (dk l m k)) (q : ∀ m', 0 ≤ m' → m' < 2147483629 → D.nx [some (.loc d), some (.int many), some (.int x), z3] (put hp d (dk l m' k))) :
    wDPut (wVar 0) (wC (.str "mixed")) (wOp gMod (wFn gInt (wCons (wOp gAdd (wOp gAdd (wOp gMul (wDGet (wVar 0) (wC (.str "mixed"))) (wC (.int 48271))) (wOp gMod (wFn gInt (wCons (wVar 2) wNil)) (wC (.int 2147483587)))) (wC (.int 5))) wNil)) (wC (.int 2147483629))) [some (.loc d), some (.int many), some (.int x), z3] hp e D := by
  simp (config := { decide := true }) [wDPut, wVar, wC, wOp, wDGet, asD, hd, keyP, getP, putP, gAdd, gMul, gII, CMul, gMod, wFn, gInt, gF1, wCons, wNil]
  exact q _ (Int.fmod_nonneg_of_pos _ (by decide)) (Int.fmod_lt_of_pos _ (by decide))
end
/-- drawing keeps the deck and gives a number below many -/
theorem draw_ok (ps : List PV) (hp : PH) (e : EI) (Q : KI) (h : sDraw ps hp e Q) : wFun 4 gDraw ps hp e Q := by
  obtain ⟨d, l, many, rfl, h0, h9, ⟨xs, m, k, hd, hl, dl, m0, m1, len⟩, q⟩ := h
  have ld : l ≠ d := fun z => dl z.symm
  show gDraw [some (.loc d), some (.int many), none, none] hp e _
  unfold gDraw
  refine dr1 hd ?_
  have hd1 : put hp d (dk l m (k + 1)) d = some (dk l m (k + 1)) := put_same
  have hl1 : put hp d (dk l m (k + 1)) l = some (.lst (xs.map PV.int)) := (put_ne' ld).trans hl
  refine dr2 hd1 hl1 len (fun hx => ?_) (fun hx => ?_)
  · obtain ⟨ys, y, rfl⟩ : ∃ ys y, xs = ys ++ [y] := ⟨xs.dropLast, xs.getLast hx, (List.dropLast_concat_getLast hx).symm⟩
    rw [List.length_append] at len
    refine dr3 hd1 hl1 ?_
    have hd2 : put (put hp d (dk l m (k + 1))) l (.lst (ys.map PV.int)) d = some (dk l m (k + 1)) := (put_ne' dl).trans hd1
    have hl2 : put (put hp d (dk l m (k + 1))) l (.lst (ys.map PV.int)) l = some (.lst (ys.map PV.int)) := put_same
    refine dr4 (fun _ => ?_) (fun _ => ?_)
    · refine dr5 h0 h9 hd2 hl2 (by simp at len; omega) fun z => ?_
      refine dr6 h0 fun r a b => ⟨_, fun _ _ z => z, q r _ a b ⟨ys ++ [z], m, k + 1, ?_, put_same, dl, m0, m1, by simp at len ⊢; omega⟩ ?_⟩
      · exact (put_ne' dl).trans hd2
      · intro n n1 n2
        rw [put_ne' n2, put_ne' n2, put_ne' n1]
    · refine dr7 m0 m1 hd2 fun m' a' b' => ?_
      refine figs h0 put_same fun r a b => ⟨_, fun _ _ z => z, q r _ a b ⟨ys, m', k + 1, put_same, ?_, dl, a', b', by omega⟩ ?_⟩
      · exact (put_ne' ld).trans hl2
      · intro n n1 n2
        rw [put_ne' n1, put_ne' n2, put_ne' n1]
  · subst hx
    refine figs h0 hd1 fun r a b => ⟨_, fun _ _ z => z, q r _ a b ⟨[], m, k + 1, hd1, hl1, dl, m0, m1, by simp⟩ ?_⟩
    intro n n1 n2
    exact put_ne' n1
end RF

set_option Elab.async false
set_option linter.all false
set_option maxRecDepth 100000
set_option maxHeartbeats 1000000
/-! Part P2: loops and comprehensions on the plain side; the deck made, a pick. -/
namespace RF
open PySem PySem.Spec L2
theorem forW_ind {t : Tg} {b : WS} {e : EI} {D : DI} (I : List PV → SI → PH → Prop) (h0 : ∀ σ h, I [] σ h → D.nx σ h)
    (hs : ∀ p ps σ h, I (p :: ps) σ h → ∃ σ', t.go p σ = some σ' ∧ ∀ K : SI → PH → Prop, (∀ σ h, I ps σ h → K σ h) → b σ' h e ⟨K, D.rt, D.nx, K⟩) : ∀ ps σ h, I ps σ h → forW t b e D ps σ h
  | [], σ, h, i => h0 σ h i
  | p :: ps, σ, h, i => by
    obtain ⟨σ', e1, z⟩ := hs p ps σ h i
    exact ⟨σ', e1, z _ fun σ h i => forW_ind I h0 hs ps σ h i⟩
theorem compW_ind {tg : Tg} {tt : WT} {el : WE} {σ : SI} {Q : List PV → PH → Prop} (I : List PV → List PV → PH → Prop) (h0 : ∀ acc h, I [] acc h → Q acc h)
    (hs : ∀ p ps acc h, I (p :: ps) acc h → ∃ σ', tg.go p σ = some σ' ∧ ∀ K : List PV → PH → Prop, (∀ acc h, I ps acc h → K acc h) → tt σ' h eNo fun b h => if b = true then el σ' h eNo fun y h2 => acc.length < sizeLine ∧ K (acc ++ [y]) h2 else K acc h) :
    ∀ ps acc h, I ps acc h → compW tg tt el σ ps acc h Q
  | [], acc, h, i => h0 acc h i
  | p :: ps, acc, h, i => by
    obtain ⟨σ', e1, z⟩ := hs p ps acc h i
    exact ⟨σ', e1, z _ fun acc h i => compW_ind I h0 hs ps acc h i⟩
/-- every item gives one, nothing is changed -/
theorem compW_map {tg : Tg} {el : WE} {σ : SI} {Q : List PV → PH → Prop} {hp : PH} (f : PV → PV) : ∀ (ps acc : List PV), (∀ p ∈ ps, ∃ σ', tg.go p σ = some σ' ∧ ∀ R : KI, R (f p) hp → el σ' hp eNo R) → acc.length + ps.length ≤ sizeLine → Q (acc ++ ps.map f) hp → compW tg wYes el σ ps acc hp Q
  | [], acc, _, _, q => by simpa [compW] using q
  | p :: ps, acc, h, l, q => by
    obtain ⟨σ', e1, z⟩ := h p (List.mem_cons_self ..)
    rw [List.length_cons] at l
    refine ⟨σ', e1, ?_⟩
    simp only [wYes, if_true]
    refine z _ ⟨by omega, compW_map f ps (acc ++ [f p]) (fun p m => h p (List.mem_cons_of_mem _ m)) (by rw [List.length_append]; simp; omega) ?_⟩
    simpa using q
/-- .. of those that are kept -/
theorem compW_filter {tg : Tg} {tt : WT} {el : WE} {σ : SI} {Q : List PV → PH → Prop} {hp : PH} (keep : PV → Bool) (f : PV → PV) : ∀ (ps acc : List PV), (∀ p ∈ ps, ∃ σ', tg.go p σ = some σ' ∧ (∀ R : Bool → PH → Prop, R (keep p) hp → tt σ' hp eNo R) ∧ ∀ R : KI, R (f p) hp → el σ' hp eNo R) →
    acc.length + ps.length ≤ sizeLine → Q (acc ++ (ps.filter keep).map f) hp → compW tg tt el σ ps acc hp Q
  | [], acc, _, _, q => by simpa [compW] using q
  | p :: ps, acc, h, l, q => by
    obtain ⟨σ', e1, z1, z2⟩ := h p (List.mem_cons_self ..)
    rw [List.length_cons] at l
    refine ⟨σ', e1, z1 _ ?_⟩
    have rest := fun acc => compW_filter (tg := tg) (tt := tt) (el := el) (σ := σ) (Q := Q) (hp := hp) keep f ps acc (fun p m => h p (List.mem_cons_of_mem _ m))
    cases e : keep p with
    | true =>
      rw [if_pos rfl]
      refine z2 _ ⟨by omega, rest (acc ++ [f p]) (by rw [List.length_append]; simp; omega) ?_⟩
      rw [List.filter_cons, e] at q
      simpa using q
    | false =>
      rw [if_neg (by simp)]
      refine rest acc (by omega) ?_
      rw [List.filter_cons, e] at q
      simpa using q

/-! ### the deck made -/
def gDeck (C : Cfg) (seed : Int) : WS := (wSeq (wAsg (.nm 1) (wC (.int seed))) (wSeq (wFor (.nm 2) (wIt (wScr C (wVar 0) (wSmO (wC (.int 63))))) (wAsg (.nm 1) (wOp gMod (wFn gInt (wCons (wOp gAdd (wOp gAdd (wOp gMul (wVar 1) (wC (.int 39373))) (wOp gMod (wFn gInt (wCons (wVar 2) wNil)) (wC (.int 2147483629)))) (wC (.int 11))) wNil)) (wC (.int 2147483563))))) (wRet (wDctM [((wC (.str "left")), (wRevLM (wFn gList (wCons (wScr C (wVar 0) (wSmO (wC (.int 63)))) wNil)))), ((wC (.str "mixed")), (wVar 1)), ((wC (.str "draws")), (wC (.int 0)))]))))
def sDeck (C : Cfg) : WF := fun ps hp e Q => ∃ a ns, ps = [.ref a] ∧ (a, ns) ∈ C.scr ∧ ∀ d l hp', hp d = none → hp l = none → leP hp hp' → Deck d l hp' → Q (.loc d) hp'
theorem mo_sDeck {C : Cfg} : MoF (sDeck C) := fun ps hp e Q Q' i ⟨a, ns, h1, h2, h3⟩ => ⟨a, ns, h1, h2, fun d l hp' x y z w => i _ _ (h3 d l hp' x y z w)⟩
theorem cut_ints (ns : List Int) : ∃ ms : List Int, cutP (ns.map PV.int) none (some 63) = ms.map PV.int ∧ ms.length ≤ 63 := by
  refine ⟨cutP ns none (some 63), ?_, ?_⟩
  · unfold cutP
    rw [List.length_map, List.map_take, List.map_drop]
  · unfold cutP
    rw [List.length_take]
    have h : HT.sIx ns.length ns.length (some 63) ≤ 63 := by
      show (if (63 : Int) < 0 then ((63 : Int) + (ns.length : Int)).toNat else min (63 : Int).toNat ns.length) ≤ 63
      rw [if_neg (by decide)]
      exact Nat.min_le_left _ _
    omega
theorem deck_ok {C : Cfg} {seed : Int} (s0 : 0 ≤ seed) (s1 : seed < 2147483563) (ps : List PV) (hp : PH) (e : EI) (Q : KI) (h : sDeck C ps hp e Q) : wFun 3 (gDeck C seed) ps hp e Q := by
  obtain ⟨a, ns, rfl, hm, q⟩ := h
  obtain ⟨ms, em, lm⟩ := cut_ints ns
  show gDeck C seed [some (.ref a), none, none] hp e _
  simp only [gDeck, wSeq, wAsg, wC, Tg.go, Option.some.injEq, exists_eq_left', List.set_cons_succ, List.set_cons_zero]
  refine ⟨_, rfl, 63, rfl, a, ns, rfl, hm, ms.map PV.int, by rw [em]; rfl, ?_⟩
  refine forW_ind (fun rest σ h => h = hp ∧ (∃ rs : List Int, rest = rs.map PV.int) ∧ ∃ (m : Int) (z : Option PV), 0 ≤ m ∧ m < 2147483563 ∧ σ = [some (.ref a), some (.int m), z]) (fun σ h i => ?_) (fun p ps σ h i => ?_) _ _ _ ⟨rfl, ⟨ms, rfl⟩, seed, none, s0, s1, rfl⟩
  · obtain ⟨rfl, _, m, z, m0, m1, rfl⟩ := i
    refine ⟨_, rfl, 63, rfl, a, ns, rfl, hm, _, _, rfl, ⟨_, rfl, rfl⟩, _, rfl, fun l hl => ?_⟩
    refine ⟨_, rfl, _, rfl, fun d hd => ?_⟩
    have dl : d ≠ l := fun z => by
      rw [z, put_same] at hd
      cases hd
    rw [put_ne' dl] at hd
    refine ⟨_, fun _ _ z => z, q d l _ hd hl (fun n c hc => ?_) ⟨ms.reverse, m, 0, put_same, ?_, dl, m0, by omega, by simpa using lm⟩⟩
    · have n1 : n ≠ d := fun z => by rw [z, hd] at hc; cases hc
      have n2 : n ≠ l := fun z => by rw [z, hl] at hc; cases hc
      rw [put_ne' n1, put_ne' n2]
      exact hc
    · rw [put_ne' dl.symm, put_same]
      have em' : cutP (ns.map PV.int) none (some 63) = ms.map PV.int := em
      simp [em']
  · obtain ⟨rfl, ⟨rs, er⟩, m, z, m0, m1, rfl⟩ := i
    cases rs with
    | nil => cases er
    | cons r rs =>
      cases er
      refine ⟨_, rfl, fun K hK => ?_⟩
      simp (config := { decide := true }) [wAsg, Tg.go, wVar, wC, wOp, gAdd, gMul, gII, CMul, gMod, wFn, gInt, gF1, wCons, wNil]
      refine hK _ _ ⟨rfl, ⟨rs, rfl⟩, _, _, Int.fmod_nonneg_of_pos _ (by decide), Int.fmod_lt_of_pos _ (by decide), rfl⟩
end RF

set_option Elab.async false
set_option linter.all false
set_option maxRecDepth 100000
set_option maxHeartbeats 1000000
/-! Part P3: a pick; the same. -/
namespace RF
open PySem PySem.Spec L2
theorem atI_ok {α : Type} {xs : List α} {r : Int} (h0 : 0 ≤ r) (h1 : r < xs.length) : ∃ z, atI xs r = some z ∧ z ∈ xs := by
  have e : ixN xs.length r = some r.toNat := by
    unfold ixN
    rw [if_pos h0, if_pos h1]
  refine ⟨xs[r.toNat]'(by omega), ?_, List.getElem_mem _⟩
  unfold atI
  rw [e]
  exact List.getElem?_eq_getElem _
def elP : PV → Option (List PV)
  | .lst ps => some ps
  | .tup ps => some ps
  | .str s => some (signs s)
  | _ => none
def gPick (s : WF) : WS := (wRet (wOp gIx (wVar 1) (wCall s (wArgs 2 (wCons (wVar 0) (wCons (wFn gLen (wCons (wVar 1) wNil)) wNil))))))
def sPick : WF := fun ps hp e Q => ∃ d l p zs, ps = [.loc d, p] ∧ elP p = some zs ∧ 0 < zs.length ∧ zs.length < 1000000 ∧ Deck d l hp ∧ ∀ z hp', z ∈ zs → Deck d l hp' → SameBut d l hp hp' → Q z hp'
theorem mo_sPick : MoF sPick := fun ps hp e Q Q' i ⟨d, l, p, zs, h1, h2, h3, h4, h5, h6⟩ => ⟨d, l, p, zs, h1, h2, h3, h4, h5, fun z hp' a b c => i _ _ (h6 z hp' a b c)⟩
theorem pick_ok (ps : List PV) (hp : PH) (e : EI) (Q : KI) (h : sPick ps hp e Q) : wFun 2 (gPick sDraw) ps hp e Q := by
  obtain ⟨d, l, p, zs, rfl, he, h0, h1, hd, q⟩ := h
  have sl : sizeLine = 16777216 := PySem.sizeLine_eq
  show gPick sDraw [some (.loc d), some p] hp e _
  have hl : lenP hp p = some zs.length := by
    cases p with
    | lst ps => cases he; rfl
    | tup ps => cases he; rfl
    | str s =>
      cases he
      have e1 : (signs s).length = s.length := by simp [signs, Str.length]
      rw [e1] at h1 ⊢
      simp only [lenP]
      rw [if_pos (by omega)]
    | _ => cases he
  refine ⟨p, rfl, _, rfl, _, rfl, _, _, rfl, ⟨_, hl, rfl⟩, rfl, d, l, zs.length, rfl, by omega, by omega, hd, fun r hp' r0 r1 hd' sb => ?_⟩
  obtain ⟨z, ez, mz⟩ := atI_ok (xs := zs) r0 r1
  refine ⟨r, rfl, ?_⟩
  cases p with
  | lst ps => cases he; exact ⟨_, z, rfl, ez, _, fun _ _ z => z, q z hp' mz hd' sb⟩
  | tup ps => cases he; exact ⟨z, ez, _, fun _ _ z => z, q z hp' mz hd' sb⟩
  | str s =>
    cases he
    have e1 : (signs s).length = s.length := by simp [signs, Str.length]
    obtain ⟨c, e2, e3⟩ : ∃ c, atI s.cps.toList r = some c ∧ z = .str ⟨#[c]⟩ := by
      unfold atI at ez ⊢
      have e4 : (signs s).length = s.cps.toList.length := by simp [signs]
      rw [e4] at ez
      cases h : ixN s.cps.toList.length r with
      | none => rw [h] at ez; cases ez
      | some j =>
        rw [h] at ez
        have ez : (signs s)[j]? = some z := ez
        simp only [signs, List.getElem?_map, Option.map_eq_some_iff] at ez
        obtain ⟨c, h1, h2⟩ := ez
        exact ⟨c, h1, h2.symm⟩
    subst e3
    exact ⟨by omega, c, e2, _, fun _ _ z => z, q _ hp' mz hd' sb⟩
  | _ => cases he
end RF

set_option Elab.async false
set_option linter.all false
set_option maxRecDepth 100000
set_option maxHeartbeats 1000000
/-! Part P4: texts, words of sevens, joins, what is shown. -/
namespace RF
open PySem PySem.Spec L2
abbrev S (l : List Nat) : Str := ⟨l.toArray⟩
theorem S_ex (s : Str) : ∃ l, s = S l := ⟨s.cps.toList, (SX.S_tl s).symm⟩
theorem S_inj {a b : List Nat} (h : S a = S b) : a = b := SX.S_inj h
theorem signs_S (l : List Nat) : signs (S l) = l.map fun c => .str (S [c]) := by simp [signs]
theorem slen (l : List Nat) : (S l).length = l.length := SX.S_len l
theorem iter_S (l : List Nat) : iterV (.str (S l)) = some (l.map fun c => .str (S [c])) := by rw [← signs_S]; rfl
theorem len_S {hp : PH} {l : List Nat} (h : l.length ≤ 16777216) : lenP hp (.str (S l)) = some l.length := by
  have sl : sizeLine = 16777216 := PySem.sizeLine_eq
  simp only [lenP, slen]
  rw [if_pos (by omega)]
theorem str_S (l : List Nat) : S (l) = (⟨l.toArray⟩ : Str) := rfl
/-- the bits of a number below 128 -/
def b7 (n : Nat) : List Nat := (List.range 7).map fun i => if (n / 2 ^ (6 - i)) % 2 = 1 then 49 else 48
theorem bits7_S (n : Nat) : bits7 n = S (b7 n) := rfl
theorem b7_len (n : Nat) : (b7 n).length = 7 := by simp [b7]
def v7 (l : List Nat) : Nat := l.foldl (fun a c => 2 * a + (c - 48)) 0
theorem v7_b7 : ∀ n, n < 128 → v7 (b7 n) = n := by decide +kernel
theorem b7_inj {a b : Nat} (ha : a < 128) (hb : b < 128) (h : b7 a = b7 b) : a = b := by rw [← v7_b7 a ha, ← v7_b7 b hb, h]
def isB (c : Nat) : Bool := c == 48 || c == 49
theorem isB_iff {c : Nat} : isB c = true ↔ c = 48 ∨ c = 49 := by simp [isB]
theorem b7_isB (n : Nat) : (b7 n).all isB = true := by
  rw [List.all_eq_true]
  intro c hc
  simp only [b7, List.mem_map] at hc
  obtain ⟨i, _, e⟩ := hc
  rw [← e]
  split <;> decide
theorem seven_bits : ∀ a b c d e f g : Nat, (a = 48 ∨ a = 49) → (b = 48 ∨ b = 49) → (c = 48 ∨ c = 49) → (d = 48 ∨ d = 49) → (e = 48 ∨ e = 49) → (f = 48 ∨ f = 49) → (g = 48 ∨ g = 49) → ∃ n, n < 128 ∧ [a, b, c, d, e, f, g] = b7 n := by
  intro a b c d e f g ha hb hc hd he hf hg
  refine ⟨v7 [a, b, c, d, e, f, g], ?_⟩
  rcases ha with rfl | rfl <;> rcases hb with rfl | rfl <;> rcases hc with rfl | rfl <;> rcases hd with rfl | rfl <;> rcases he with rfl | rfl <;> rcases hf with rfl | rfl <;> rcases hg with rfl | rfl <;> decide
def enc (cs : List Nat) : List Nat := cs.flatMap b7
theorem enc_len (cs : List Nat) : (enc cs).length = 7 * cs.length := by
  induction cs with
  | nil => rfl
  | cons c cs ih =>
    show (b7 c ++ enc cs).length = _
    rw [List.length_append, b7_len, ih, List.length_cons]
    omega
theorem enc_isB (cs : List Nat) : (enc cs).all isB = true := by
  induction cs with
  | nil => rfl
  | cons c cs ih =>
    show (b7 c ++ enc cs).all isB = true
    rw [List.all_append, b7_isB, ih]
    rfl
theorem enc_ex : ∀ (k : Nat) (l : List Nat), l.length = 7 * k → l.all isB = true → ∃ cs : List Nat, (∀ c ∈ cs, c < 128) ∧ cs.length = k ∧ l = enc cs
  | 0, l, h, _ => ⟨[], by simp, rfl, List.eq_nil_of_length_eq_zero (by omega)⟩
  | k + 1, l, h, hb => by
    match l, h, hb with
    | a :: b :: c :: d :: e :: f :: g :: r, h, hb =>
      simp only [List.all_cons, Bool.and_eq_true, isB_iff] at hb
      obtain ⟨ha, hb, hc, hd, he, hf, hg, hr⟩ := hb
      obtain ⟨n, hn, en⟩ := seven_bits a b c d e f g ha hb hc hd he hf hg
      obtain ⟨cs, h1, h2, h3⟩ := enc_ex k r (by simp at h; omega) hr
      refine ⟨n :: cs, ?_, by simp [h2], ?_⟩
      · intro x hx
        rcases List.mem_cons.mp hx with rfl | hx
        · exact hn
        · exact h1 x hx
      · show _ = b7 n ++ enc cs
        rw [← en, h3]
        rfl
    | [], h, _ => simp at h
    | [_], h, _ => simp at h; omega
    | [_, _], h, _ => simp at h; omega
    | [_, _, _], h, _ => simp at h; omega
    | [_, _, _, _], h, _ => simp at h; omega
    | [_, _, _, _, _], h, _ => simp at h; omega
    | [_, _, _, _, _, _], h, _ => simp at h; omega
theorem enc_cut : ∀ (cs : List Nat) (i : Nat) (c : Nat), cs[i]? = some c → ((enc cs).drop (7 * i)).take 7 = b7 c
  | [], i, c, h => by simp at h
  | a :: cs, 0, c, h => by
    simp at h
    subst h
    show ((b7 a ++ enc cs).drop 0).take 7 = _
    rw [List.drop_zero, List.take_append_of_le_length (by rw [b7_len]; omega), List.take_of_length_le (by rw [b7_len]; omega)]
  | a :: cs, i + 1, c, h => by
    show ((b7 a ++ enc cs).drop (7 * (i + 1))).take 7 = _
    rw [show 7 * (i + 1) = (b7 a).length + 7 * i by rw [b7_len]; omega, List.drop_append, ]
    rw [List.drop_of_length_le (by omega), List.nil_append, show (b7 a).length + 7 * i - (b7 a).length = 7 * i by omega]
    exact enc_cut cs i c (by simpa using h)
/-- slices by numbers that are no less than naught -/
theorem cutP_nn {α : Type} (xs : List α) (a b : Nat) : cutP xs (some a) (some b) = (xs.drop (min a xs.length)).take (min b xs.length - min a xs.length) := by
  unfold cutP
  rw [HT.sIx_nat, HT.sIx_nat]
theorem cutP_drop {α : Type} (xs : List α) (a : Nat) : cutP xs (some a) none = xs.drop a := by
  unfold cutP
  rw [HT.sIx_nat, HT.sIx_none, List.take_of_length_le (by rw [List.length_drop]; omega)]
  by_cases h : a ≤ xs.length
  · rw [Nat.min_eq_left h]
  · rw [Nat.min_eq_right (by omega), List.drop_length, List.drop_of_length_le (by omega)]
theorem cutP_take {α : Type} (xs : List α) (b : Nat) : cutP xs none (some b) = xs.take b := by
  unfold cutP
  rw [HT.sIx_nat, HT.sIx_none, List.drop_zero, Nat.sub_zero]
  by_cases h : b ≤ xs.length
  · rw [Nat.min_eq_left h]
  · rw [Nat.min_eq_right (by omega), List.take_length, List.take_of_length_le (by omega)]
theorem cutP_seg {α : Type} (xs : List α) (a k : Nat) (h : a + k ≤ xs.length) : cutP xs (some a) (some ((a : Int) + (k : Int))) = (xs.drop a).take k := by
  rw [show ((a : Int) + (k : Int)) = ((a + k : Nat) : Int) by omega, cutP_nn, Nat.min_eq_left (show a ≤ xs.length by omega), Nat.min_eq_left h]
  congr 1
  omega
theorem mem_cutP {α : Type} {xs : List α} {a b : Option Int} {x : α} (h : x ∈ cutP xs a b) : x ∈ xs := List.mem_of_mem_drop (List.mem_of_mem_take h)
theorem len_cutP {α : Type} (xs : List α) (a b : Option Int) : (cutP xs a b).length ≤ xs.length := by
  unfold cutP
  rw [List.length_take, List.length_drop]
  omega
theorem all_cutP {α : Type} {p : α → Bool} {xs : List α} (a b : Option Int) (h : xs.all p = true) : (cutP xs a b).all p = true := by
  rw [List.all_eq_true] at h ⊢
  exact fun x m => h x (mem_cutP m)
theorem cutS_S (l : List Nat) (a b : Option Int) : cutS (S l) a b = S (cutP l a b) := rfl
theorem joinL_nil : ∀ ys : List (List Nat), TL.joinL [] ys = ys.flatten
  | [] => rfl
  | [p] => by simp [TL.joinL]
  | p :: q :: r => by
    show p ++ ([] ++ TL.joinL [] (q :: r)) = _
    rw [joinL_nil (q :: r)]
    simp
theorem join0 (ys : List (List Nat)) : Txt.join "" (ys.map S) = S ys.flatten := by
  have h := SX.join_S [] ys
  rw [joinL_nil] at h
  exact h
/-- a join of texts, read -/
theorem gJoin0 {hp : PH} {Q : KI} {q : PV} {ys : List (List Nat)} (h : seqP hp q = some (ys.map fun y => .str (S y))) (l : ys.flatten.length ≤ 16777216) (k : Q (.str (S ys.flatten)) hp) : gJoin (.str "") [q] hp Q := by
  refine ⟨"", q, ys.map S, rfl, rfl, ?_, ?_, ?_⟩
  · rw [h, List.map_map]; rfl
  · have e : (ys.map S).map (·.length) = ys.map (·.length) := SX.lens ys
    rw [e, show (("" : Str).length) = 0 from rfl, Nat.mul_zero, Nat.add_zero]
    rw [List.length_flatten] at l
    exact l
  · rw [join0]
    exact k
theorem flat1 (l : List Nat) : (l.map fun c => [c]).flatten = l := by
  induction l with
  | nil => rfl
  | cons c l ih => simp [ih]
theorem shown_str (l : List Nat) (h : ∀ c ∈ l, c < 16 ^ 8) (n : l.length ≤ 1000000) : Showy (.str (S l)) := by
  have sl : sizeLine = 16777216 := PySem.sizeLine_eq
  refine ⟨rfl, by simp [PyData.depth], ?_⟩
  have e := StrLaws.reprText_len (S l) h
  have e2 : (S l).length = l.length := slen l
  have e3 : (PyData.str (S l)).shown = reprText (S l) := by simp only [PyData.shown]
  rw [e3]
  omega
theorem quote_q (x : Str) : reprQuote x = 34 ∨ reprQuote x = 39 := by
  unfold reprQuote
  split <;> simp
theorem rc_34 : ∀ c, c < 128 → (Builtin.Str.reprChar 34 c).all (· < 128) = true := by decide +kernel
theorem rc_39 : ∀ c, c < 128 → (Builtin.Str.reprChar 39 c).all (· < 128) = true := by decide +kernel
theorem repr_ok (l : List Nat) (h : ∀ c ∈ l, c < 128) : PyData.strOk (reprText (S l)) = true := by
  have hq := quote_q (S l)
  have hc : ∀ c ∈ l, (Builtin.Str.reprChar (reprQuote (S l)) c).all (· < 128) = true := fun c m => by
    rcases hq with q | q
    · rw [q]; exact rc_34 c (h c m)
    · rw [q]; exact rc_39 c (h c m)
  have h0 : reprQuote (S l) < 128 := by rcases hq with q | q <;> rw [q] <;> decide
  have go : ∀ (q : Nat) (r : List Nat) (acc : Array Nat), (∀ c ∈ r, (Builtin.Str.reprChar q c).all (· < 128) = true) → (acc.toList.all (· < 128)) = true → ((r.foldl (fun out c => out ++ (Builtin.Str.reprChar q c).toArray) acc).toList.all (· < 128)) = true := by
    intro q r
    induction r with
    | nil => exact fun acc _ a => a
    | cons c r ih =>
      intro acc hr a
      refine ih _ (fun d m => hr d (List.mem_cons_of_mem _ m)) ?_
      simp only [Array.toList_append, List.all_append, a, Bool.true_and]
      exact hr c (List.mem_cons_self ..)
  unfold reprText PyData.strOk
  show Array.all ((Array.foldl (fun out c => out ++ (Builtin.Str.reprChar (reprQuote (S l)) c).toArray) #[reprQuote (S l)] l.toArray).push (reprQuote (S l))) _ = true
  rw [← Array.all_toList, Array.toList_push, ← Array.foldl_toList]
  rw [List.all_append]
  have g := go (reprQuote (S l)) l #[reprQuote (S l)] hc (by simpa using h0)
  simp only [Bool.and_eq_true]
  refine ⟨?_, by simp; omega⟩
  rw [List.all_eq_true] at g ⊢
  intro x hx
  have := g x hx
  simp at this ⊢
  omega
/-- the same thing twice -/
def gSame : WS := (wRet (wCmp cEq (wFn gRepr (wCons (wVar 0) wNil)) (wFn gRepr (wCons (wVar 1) wNil))))
def sSame : WF := fun ps hp e Q => ∃ p d, ps = [p, p] ∧ toDr hp p = some d ∧ Showy d ∧ PyData.strOk d.shown = true ∧ Q (.bl true) hp
theorem mo_sSame : MoF sSame := fun ps hp e Q Q' i ⟨p, d, a, b, c, k, q⟩ => ⟨p, d, a, b, c, k, i _ _ q⟩
theorem shaped_str (s : Str) (h : PyData.strOk s = true) : SeqAt.shaped (.str s) = true := by simp [SeqAt.shaped, PyData.canLay0, PyData.depth, h]
theorem eqv_str (s : Str) : PyData.eqv (.str s) (.str s) = true := by simp [PyData.eqv]
theorem same_ok (ps : List PV) (hp : PH) (e : EI) (Q : KI) (h : sSame ps hp e Q) : wFun 2 gSame ps hp e Q := by
  obtain ⟨p, d, rfl, e1, e2, k, q⟩ := h
  show gSame [some p, some p] hp e _
  refine ⟨p, rfl, p, _, rfl, ⟨d, e1, e2, rfl⟩, p, rfl, p, _, rfl, ⟨d, e1, e2, rfl⟩, true, ⟨_, _, rfl, rfl, shaped_str _ k, shaped_str _ k, (eqv_str _).symm⟩, _, fun _ _ z => z, q⟩
theorem toDr_str {hp : PH} {s : Str} : toDr hp (.str s) = some (.str s) := rfl
theorem toDr_non {hp : PH} : toDr hp .non = some .none := rfl
theorem shown_non : Showy .none := by
  refine ⟨rfl, by decide, ?_⟩
  have sl : sizeLine = 16777216 := PySem.sizeLine_eq
  have : (PyData.shown .none).length ≤ 4 := by decide +kernel
  omega
theorem ints_flat (xs : List Int) : (xs.map PV.int).all flatP = true := by
  rw [List.all_map, List.all_eq_true]
  exact fun _ _ => rfl
theorem inP_int (c : Int) (xs : List Int) : inP (.int c) (xs.map PV.int) = decide (c ∈ xs) := by
  induction xs with
  | nil => rfl
  | cons x xs ih =>
    have e : inP (.int c) ((x :: xs).map PV.int) = (eqP (.int x) (.int c) || inP (.int c) (xs.map PV.int)) := rfl
    rw [e, ih]
    have e2 : eqP (.int x) (.int c) = (x == c) := rfl
    rw [e2]
    by_cases h : x = c
    · subst h; simp
    · have h2 : ¬ c = x := fun z => h z.symm
      simp [h, h2]
theorem eqvAll_self : ∀ xs : List Int, PyData.eqvAll (xs.map PyData.int) (xs.map PyData.int) = true
  | [] => rfl
  | x :: xs => by
    show (PyData.eqv (.int x) (.int x) && PyData.eqvAll _ _) = true
    rw [eqvAll_self xs]
    simp [PyData.eqv]
end RF

set_option Elab.async false
set_option linter.all false
set_option maxRecDepth 100000
set_option maxHeartbeats 2000000
namespace K95
open PySem PySem.Spec L2 RF
abbrev prg : Program := PySem.Challenge.pw_samequick_k95_texts_as_words
def top (i : Nat) : Stmt := prg.main.body.getD i (.Pass ⟨0, 0, 0, 0⟩)
abbrev st_is_word_value : Stmt := top 6
abbrev st_need_word : Stmt := top 7
abbrev st_word_of_sign : Stmt := top 11
abbrev st_word_of_text : Stmt := top 12
abbrev st_text_of_word : Stmt := top 13
abbrev st__law_deck : Stmt := top 15
abbrev st__law_draw : Stmt := top 16
abbrev st__law_pick : Stmt := top 17
abbrev st__law_same : Stmt := top 18
abbrev st__law_bits : Stmt := top 19
abbrev st__law_word_of : Stmt := top 20
abbrev st__law_signs : Stmt := top 21
abbrev st__law_codes : Stmt := top 22
abbrev st__law_tried : Stmt := top 23
abbrev st__law_is_told : Stmt := top 24
abbrev st_law : Stmt := top 25
/-! ### facts -/
structure Facts (C : Cfg) (mg : Str → Option Value) : Prop where
  b_all : mg "all" = none
  b_int : mg "int" = none
  b_isinstance : mg "isinstance" = none
  b_len : mg "len" = none
  b_list : mg "list" = none
  b_max : mg "max" = none
  b_ord : mg "ord" = none
  b_range : mg "range" = none
  b_repr : mg "repr" = none
  b_str : mg "str" = none
  g_LETTERS : mg "LETTERS" = some (.ref (He.ga C.K "LETTERS"))
  c_LETTERS : ∀ H, SqT C.K H (He.ga C.K "LETTERS") [V.str "0", V.str "1"]
  c_TEXT_SIGNS : ∃ t, mg "TEXT_SIGNS" = some (.str "\n !\"#$&'()*+,-./0123456789:;<=>?\x40ABCDEFGHIJKLMNOPQRSTUVWXYZ[\\]^_`abcdefghijklmnopqrstuvwxyz{|}~" t)
  c_SEVEN : ∃ t, mg "SEVEN" = some (.int 7 t)
  g_BadWord : mg "BadWord" = some (.ref (He.ga C.K "BadWord"))
  e_BadWord : RH.ErrAll C.K "BadWord" (fldOf "BadWord") "QuickError"
  g_BadText : mg "BadText" = some (.ref (He.ga C.K "BadText"))
  e_BadText : RH.ErrAll C.K "BadText" (fldOf "BadText") "QuickError"
  q : mg "QuickError" = some (.ref (He.ga C.K "QuickError"))
  k_BadWord_BadWord : PySem.W.kitOne C.K (.ref (He.ga C.K "BadWord")) (.ref (He.ga C.K "BadWord")) = some true
  k_BadWord_BadText : PySem.W.kitOne C.K (.ref (He.ga C.K "BadWord")) (.ref (He.ga C.K "BadText")) = some false
  k_BadText_BadWord : PySem.W.kitOne C.K (.ref (He.ga C.K "BadText")) (.ref (He.ga C.K "BadWord")) = some false
  k_BadText_BadText : PySem.W.kitOne C.K (.ref (He.ga C.K "BadText")) (.ref (He.ga C.K "BadText")) = some true
def errs : List Str := ["BadWord", "BadText"]
theorem Facts.err {C : Cfg} {mg : Str → Option Value} (FX : Facts C mg) : ∀ cn ∈ errs, RH.ErrAll C.K cn (fldOf cn) "QuickError" := by
  intro cn m
  simp only [errs, List.mem_cons, List.not_mem_nil, or_false] at m
  rcases m with rfl | rfl
  all_goals first | exact FX.e_BadWord | exact FX.e_BadText
theorem Facts.kit {C : Cfg} {mg : Str → Option Value} (FX : Facts C mg) : ∀ c1 ∈ errs, ∀ c2 ∈ errs, PySem.W.kitOne C.K (.ref (He.ga C.K c1)) (.ref (He.ga C.K c2)) = some (decide (c1 = c2)) := by
  intro c1 m1 c2 m2
  simp only [errs, List.mem_cons, List.not_mem_nil, or_false] at m1 m2
  rcases m1 with rfl | rfl <;> rcases m2 with rfl | rfl
  all_goals first | exact FX.k_BadWord_BadWord | exact FX.k_BadWord_BadText | exact FX.k_BadText_BadWord | exact FX.k_BadText_BadText
/-! ### meanings and derivations -/
abbrev N_is_word_value : List Str := ["thing", "letter"]
def w_is_word_value : WS := (wRet (wAndV (wIsi "str" (wVar 0)) (wFn gAll (wCons (wLc (.nm 1) [1] (wIt (wVar 0)) wYes (wCmp cIn (wVar 1) (wC (.tup [.str "0", .str "1"])))) wNil))))
theorem r_is_word_value {P : Program} {w : World} {C : Cfg} {mg : Str → Option Value} {base : Heap}  (FX : Facts C mg) {X : Cx} {E : XK} {cd : Value}  {A : Around} {out : List Env} {s : Shared} {H : Hp} {fa : Addr}
    (hX : X = cxOf (L2.CX P w) P w C.K mg base N_is_word_value "is_word_value" (defScope st_is_word_value) fa cd A out s H E) (c : Ok X C E 0) : RSs X C E (defBody st_is_word_value) (w_is_word_value) := by
  subst hX
  exact (rss_one (rs_ret (d_and c (f_isi c "str" FX.b_isinstance FX.b_str (d_var c 0)) (re_one (f_all c FX.b_all (a_cons c (d_lc c [("letter", 1)] (.nm 1) (i_val c (d_var c 0)) (fun _ _ _ _ _ => g_nm) (fun _ _ _ _ _ => rts_nil) (fun _ _ _ _ _ => (d_in c.blk (d_var c.blk 1) (d_gtup c.blk FX.g_LETTERS FX.c_LETTERS (by intro μ H; repeat (first | exact RVs.nil | refine RVs.cons (by simp only [RV]) ?_))))) (by show blkC N_is_word_value (defScope st_is_word_value) _ _ = true; decide +kernel)) ra_nil))))))
abbrev N_need_word : List Str := ["word"]
def w_need_word (s_is_word_value : WF) : WS := (wIf (wNotT (wTru (wCall s_is_word_value (wArgs 1 (wCons (wVar 0) wNil))))) (wRaise "BadWord" (wCons (wVar 0) wNil)) wPass)
theorem r_need_word {P : Program} {w : World} {C : Cfg} {mg : Str → Option Value} {base : Heap} (s_is_word_value : WF) (FX : Facts C mg) {X : Cx} {E : XK} {cd : Value} (F_is_word_value : Fun P w C mg base 1 "is_word_value" 1 s_is_word_value) {A : Around} {out : List Env} {s : Shared} {H : Hp} {fa : Addr}
    (hX : X = cxOf (L2.CX P w) P w C.K mg base N_need_word "need_word" (defScope st_need_word) fa cd A out s H E) (c : Ok X C E 1) : RSs X C E (defBody st_need_word) (w_need_word s_is_word_value) := by
  subst hX
  exact (rss_one (rs_if (t_not c (t_tru c (d_fun c F_is_word_value (by decide) (a_cons c (d_var c 0) ra_nil)))) (rss_one (s_raise c FX.e_BadWord.txt FX.g_BadWord (a_cons c (d_var c 0) ra_nil)))
  rss_nil))
abbrev N_word_of_sign : List Str := ["sign"]
def w_word_of_sign : WS := (wRet (wB7 (wFn gOrd (wCons (wVar 0) wNil))))
theorem r_word_of_sign {P : Program} {w : World} {C : Cfg} {mg : Str → Option Value} {base : Heap}  (FX : Facts C mg) {X : Cx} {E : XK} {cd : Value}  {A : Around} {out : List Env} {s : Shared} {H : Hp} {fa : Addr}
    (hX : X = cxOf (L2.CX P w) P w C.K mg base N_word_of_sign "word_of_sign" (defScope st_word_of_sign) fa cd A out s H E) (c : Ok X C E 0) : RSs X C E (defBody st_word_of_sign) (w_word_of_sign) := by
  subst hX
  exact (rss_one (rs_ret (d_b7 c (f_ord c FX.b_ord (a_cons c (d_var c 0) ra_nil)))))
abbrev N_word_of_text : List Str := ["text", "sign"]
def w_word_of_text (s_word_of_sign : WF) : WS := (wSeq (wIf (wOrT (wNotT (wTru (wIsi "str" (wVar 0)))) (wNotT (wTru (wFn gAll (wCons (wLc (.nm 1) [1] (wIt (wVar 0)) wYes (wCmp cIn (wVar 1) (wC (.str "\n !\"#$&'()*+,-./0123456789:;<=>?\x40ABCDEFGHIJKLMNOPQRSTUVWXYZ[\\]^_`abcdefghijklmnopqrstuvwxyz{|}~")))) wNil))))) (wRaise "BadText" (wCons (wC (.int 0)) wNil)) wPass) (wRet (wMt isS gJoin (wC (.str "")) (wCons (wLc (.nm 1) [1] (wIt (wVar 0)) wYes (wCall s_word_of_sign (wArgs 1 (wCons (wVar 1) wNil)))) wNil))))
theorem r_word_of_text {P : Program} {w : World} {C : Cfg} {mg : Str → Option Value} {base : Heap} (s_word_of_sign : WF) (FX : Facts C mg) {X : Cx} {E : XK} {cd : Value} (F_word_of_sign : Fun P w C mg base 1 "word_of_sign" 1 s_word_of_sign) {A : Around} {out : List Env} {s : Shared} {H : Hp} {fa : Addr}
    (hX : X = cxOf (L2.CX P w) P w C.K mg base N_word_of_text "word_of_text" (defScope st_word_of_text) fa cd A out s H E) (c : Ok X C E 1) : RSs X C E (defBody st_word_of_text) (w_word_of_text s_word_of_sign) := by
  subst hX
  exact (rss_cons (rs_if (RW.rt (rw_or (t_not c (t_tru c (f_isi c "str" FX.b_isinstance FX.b_str (d_var c 0)))) (rw_or1 (t_not c (t_tru c (f_all c FX.b_all (a_cons c (d_lc c [("sign", 1)] (.nm 1) (i_val c (d_var c 0)) (fun _ _ _ _ _ => g_nm) (fun _ _ _ _ _ => rts_nil) (fun _ _ _ _ _ => (d_in c.blk (d_var c.blk 1) (d_gstr c.blk FX.c_TEXT_SIGNS))) (by show blkC N_word_of_text (defScope st_word_of_text) _ _ = true; decide +kernel)) ra_nil))))))) (rss_one (s_raise c FX.e_BadText.txt FX.g_BadText (a_cons c (d_int c 0) ra_nil)))
  rss_nil)
  (rss_one (rs_ret (m_join c (d_str c "") (a_cons c (d_lc c [("sign", 1)] (.nm 1) (i_val c (d_var c 0)) (fun _ _ _ _ _ => g_nm) (fun _ _ _ _ _ => rts_nil) (fun _ _ _ _ _ => (d_fun c.blk F_word_of_sign (by decide) (a_cons c.blk (d_var c.blk 1) ra_nil))) (by show blkC N_word_of_text (defScope st_word_of_text) _ _ = true; decide +kernel)) ra_nil)))))
abbrev N_text_of_word : List Str := ["word", "signs", "found", "sign", "at"]
def w_text_of_word (s_need_word : WF) (s_word_of_sign : WF) : WS := (wSeq (wDo (wCall s_need_word (wArgs 1 (wCons (wVar 0) wNil)))) (wSeq (wIf (wCmpT cGt (wOp gMod (wFn gLen (wCons (wVar 0) wNil)) (wC (.int 7))) (wC (.int 0))) (wRet (wC .non)) wPass) (wSeq (wAsg (.nm 1) (wDc (.nm 3) [3] (wIt (wC (.str "\n !\"#$&'()*+,-./0123456789:;<=>?\x40ABCDEFGHIJKLMNOPQRSTUVWXYZ[\\]^_`abcdefghijklmnopqrstuvwxyz{|}~"))) wYes (wCall s_word_of_sign (wArgs 1 (wCons (wVar 3) wNil))) (wVar 3))) (wSeq (wAsg (.nm 2) (wLc (.nm 4) [4] (wRg3 (wC (.int 0)) (wFn gLen (wCons (wVar 0) wNil)) (wC (.int 7))) wYes (wGet1 (wVar 1) (wSl (wVar 0) (wSmO (wVar 4)) (wSmO (wOp gAdd (wVar 4) (wC (.int 7)))))))) (wRet (wIfE (wCmpT cIn (wC .non) (wVar 2)) (wC .non) (wMt isS gJoin (wC (.str "")) (wCons (wVar 2) wNil))))))))
theorem r_text_of_word {P : Program} {w : World} {C : Cfg} {mg : Str → Option Value} {base : Heap} (s_need_word : WF) (s_word_of_sign : WF) (FX : Facts C mg) {X : Cx} {E : XK} {cd : Value} (F_need_word : Fun P w C mg base 2 "need_word" 1 s_need_word) (F_word_of_sign : Fun P w C mg base 1 "word_of_sign" 1 s_word_of_sign) {A : Around} {out : List Env} {s : Shared} {H : Hp} {fa : Addr}
    (hX : X = cxOf (L2.CX P w) P w C.K mg base N_text_of_word "text_of_word" (defScope st_text_of_word) fa cd A out s H E) (c : Ok X C E 2) : RSs X C E (defBody st_text_of_word) (w_text_of_word s_need_word s_word_of_sign) := by
  subst hX
  exact (rss_cons (s_do c (d_fun c F_need_word (by decide) (a_cons c (d_var c 0) ra_nil)))
  (rss_cons (rs_if (t_gt c (d_mod c (f_len c FX.b_len (a_cons c (d_var c 0) ra_nil)) (d_gint c FX.c_SEVEN)) (d_int c 0)) (rss_one (rs_ret (d_non c)))
  rss_nil)
  (rss_cons (s_set c 1 (d_dc c [("sign", 3)] (.nm 3) (i_val c (d_gstr c FX.c_TEXT_SIGNS)) (fun _ _ _ _ _ => g_nm) (fun _ _ _ _ _ => rts_nil) (fun _ _ _ _ _ => (d_fun c.blk F_word_of_sign (by decide) (a_cons c.blk (d_var c.blk 3) ra_nil))) (fun _ _ _ _ _ => (d_var c.blk 3)) (by show blkC N_text_of_word (defScope st_text_of_word) _ _ = true; decide +kernel)))
  (rss_cons (s_lc c [("at", 4)] (.nm 4) 2 (i_rg3 c FX.b_range (d_int c 0) (f_len c FX.b_len (a_cons c (d_var c 0) ra_nil)) (d_gint c FX.c_SEVEN)) (fun _ _ _ _ _ => g_nm) (fun _ _ _ _ _ => rts_nil) (fun _ _ _ _ _ => (d_get1 c.blk (d_var c.blk 1) (d_sl c.blk (d_var c.blk 0) (ro_sm (d_var c.blk 4)) (ro_sm (d_add c.blk (d_var c.blk 4) (d_gint c.blk FX.c_SEVEN)))))) (ok := by show blkC N_text_of_word (defScope st_text_of_word) _ _ = true; decide +kernel))
  (rss_one (rs_ret (re_ifE (t_in c (d_non c) (d_var c 2)) (d_non c) (m_join c (d_str c "") (a_cons c (d_var c 2) ra_nil)))))))))
abbrev N__law_deck : List Str := ["script", "mixed", "cell"]
def w__law_deck (C : Cfg) : WS := (wSeq (wAsg (.nm 1) (wC (.int 13745095))) (wSeq (wFor (.nm 2) (wIt (wScr C (wVar 0) (wSmO (wC (.int 63))))) (wAsg (.nm 1) (wOp gMod (wFn gInt (wCons (wOp gAdd (wOp gAdd (wOp gMul (wVar 1) (wC (.int 39373))) (wOp gMod (wFn gInt (wCons (wVar 2) wNil)) (wC (.int 2147483629)))) (wC (.int 11))) wNil)) (wC (.int 2147483563))))) (wRet (wDctM [((wC (.str "left")), (wRevLM (wFn gList (wCons (wScr C (wVar 0) (wSmO (wC (.int 63)))) wNil)))), ((wC (.str "mixed")), (wVar 1)), ((wC (.str "draws")), (wC (.int 0)))]))))
theorem r__law_deck {P : Program} {w : World} {C : Cfg} {mg : Str → Option Value} {base : Heap}  (FX : Facts C mg) {X : Cx} {E : XK} {cd : Value}  {A : Around} {out : List Env} {s : Shared} {H : Hp} {fa : Addr}
    (hX : X = cxOf (L2.CX P w) P w C.K mg base N__law_deck "_law_deck" (defScope st__law_deck) fa cd A out s H E) (c : Ok X C E 0) : RSs X C E (defBody st__law_deck) (w__law_deck C) := by
  subst hX
  exact (rss_cons (s_set c 1 (d_int c 13745095))
  (rss_cons (s_for c (i_val c (d_scr c (d_var c 0) (ro_sm (d_int c 63)))) g_nm
  (rss_one (s_set c 1 (d_mod c (f_int c FX.b_int (a_cons c (d_add c (d_add c (d_mul c (d_var c 1) (d_int c 39373)) (d_mod c (f_int c FX.b_int (a_cons c (d_var c 2) ra_nil)) (d_int c 2147483629))) (d_int c 11)) ra_nil)) (d_int c 2147483563)))))
  (rss_one (rs_ret (re_dctM (.cons (d_str c "left") (d_revM c (f_list c FX.b_list (a_cons c (d_scr c (d_var c 0) (ro_sm (d_int c 63))) ra_nil))) (.cons (d_str c "mixed") (d_var c 1) (.cons (d_str c "draws") (d_int c 0) .nil))) (by rfl) (by simp) (by decide))))))
abbrev N__law_draw : List Str := ["deck", "many", "cell", "figure"]
def w__law_draw : WS := (wSeq (wDPut (wVar 0) (wC (.str "draws")) (wOp gAdd (wDGet (wVar 0) (wC (.str "draws"))) (wC (.int 1)))) (wSeq (wIf (wCmpT cNe (wDGet (wVar 0) (wC (.str "left"))) (wLst wNil)) (wSeq (wAsg (.nm 2) (wMt isLs gPop (wDGet (wVar 0) (wC (.str "left"))) wNil)) (wSeq (wIf (wCmpT cGe (wVar 2) (wOp gPow (wC (.int 10)) (wC (.int 18)))) (wSeq (wDo (wMt isLs gApp (wDGet (wVar 0) (wC (.str "left"))) (wCons (wOp gDiv (wVar 2) (wFn gMax (wCons (wC (.int 2)) (wCons (wVar 1) wNil)))) wNil))) (wRet (wOp gMod (wFn gInt (wCons (wVar 2) wNil)) (wVar 1)))) wPass) (wDPut (wVar 0) (wC (.str "mixed")) (wOp gMod (wFn gInt (wCons (wOp gAdd (wOp gAdd (wOp gMul (wDGet (wVar 0) (wC (.str "mixed"))) (wC (.int 48271))) (wOp gMod (wFn gInt (wCons (wVar 2) wNil)) (wC (.int 2147483587)))) (wC (.int 5))) wNil)) (wC (.int 2147483629)))))) wPass) (wSeq (wAsg (.nm 3) (wOp gMod (wFn gInt (wCons (wOp gAdd (wDGet (wVar 0) (wC (.str "mixed"))) (wOp gMul (wC (.int 69621)) (wDGet (wVar 0) (wC (.str "draws"))))) wNil)) (wC (.int 2147483647)))) (wSeq (wAsg (.nm 3) (wOp gMod (wFn gInt (wCons (wOp gAdd (wOp gAdd (wOp gMul (wVar 3) (wVar 3)) (wOp gMul (wC (.int 40014)) (wDGet (wVar 0) (wC (.str "draws"))))) (wC (.int 7))) wNil)) (wC (.int 2147483563)))) (wSeq (wAsg (.nm 3) (wOp gMod (wFn gInt (wCons (wOp gAdd (wOp gMul (wVar 3) (wC (.int 30269))) (wC (.int 101))) wNil)) (wC (.int 2147483587)))) (wRet (wOp gMod (wFn gInt (wCons (wOp gDiv (wVar 3) (wC (.int 64))) wNil)) (wVar 1))))))))
theorem r__law_draw {P : Program} {w : World} {C : Cfg} {mg : Str → Option Value} {base : Heap}  (FX : Facts C mg) {X : Cx} {E : XK} {cd : Value}  {A : Around} {out : List Env} {s : Shared} {H : Hp} {fa : Addr}
    (hX : X = cxOf (L2.CX P w) P w C.K mg base N__law_draw "_law_draw" (defScope st__law_draw) fa cd A out s H E) (c : Ok X C E 0) : RSs X C E (defBody st__law_draw) (w__law_draw) := by
  subst hX
  exact (rss_cons (s_dput c (d_var c 0) (d_str c "draws") (d_add c (d_dget c (d_var c 0) (d_str c "draws")) (d_int c 1)))
  (rss_cons (rs_if (t_ne c (d_dget c (d_var c 0) (d_str c "left")) (re_lst ra_nil)) (rss_cons (s_set c 2 (m_pop c (d_dget c (d_var c 0) (d_str c "left"))))
  (rss_cons (rs_if (t_ge c (d_var c 2) (d_pow c (d_int c 10) (d_int c 18))) (rss_cons (s_do c (m_append c (d_dget c (d_var c 0) (d_str c "left")) (a_cons c (d_div c (d_var c 2) (f_max c FX.b_max (a_cons c (d_int c 2) (a_cons c (d_var c 1) ra_nil)))) ra_nil)))
  (rss_one (rs_ret (d_mod c (f_int c FX.b_int (a_cons c (d_var c 2) ra_nil)) (d_var c 1)))))
  rss_nil)
  (rss_one (s_dput c (d_var c 0) (d_str c "mixed") (d_mod c (f_int c FX.b_int (a_cons c (d_add c (d_add c (d_mul c (d_dget c (d_var c 0) (d_str c "mixed")) (d_int c 48271)) (d_mod c (f_int c FX.b_int (a_cons c (d_var c 2) ra_nil)) (d_int c 2147483587))) (d_int c 5)) ra_nil)) (d_int c 2147483629))))))
  rss_nil)
  (rss_cons (s_set c 3 (d_mod c (f_int c FX.b_int (a_cons c (d_add c (d_dget c (d_var c 0) (d_str c "mixed")) (d_mul c (d_int c 69621) (d_dget c (d_var c 0) (d_str c "draws")))) ra_nil)) (d_int c 2147483647)))
  (rss_cons (s_set c 3 (d_mod c (f_int c FX.b_int (a_cons c (d_add c (d_add c (d_mul c (d_var c 3) (d_var c 3)) (d_mul c (d_int c 40014) (d_dget c (d_var c 0) (d_str c "draws")))) (d_int c 7)) ra_nil)) (d_int c 2147483563)))
  (rss_cons (s_set c 3 (d_mod c (f_int c FX.b_int (a_cons c (d_add c (d_mul c (d_var c 3) (d_int c 30269)) (d_int c 101)) ra_nil)) (d_int c 2147483587)))
  (rss_one (rs_ret (d_mod c (f_int c FX.b_int (a_cons c (d_div c (d_var c 3) (d_int c 64)) ra_nil)) (d_var c 1)))))))))
abbrev N__law_pick : List Str := ["deck", "some"]
def w__law_pick (s__law_draw : WF) : WS := (wRet (wOp gIx (wVar 1) (wCall s__law_draw (wArgs 2 (wCons (wVar 0) (wCons (wFn gLen (wCons (wVar 1) wNil)) wNil))))))
theorem r__law_pick {P : Program} {w : World} {C : Cfg} {mg : Str → Option Value} {base : Heap} (s__law_draw : WF) (FX : Facts C mg) {X : Cx} {E : XK} {cd : Value} (F__law_draw : Fun P w C mg base 1 "_law_draw" 2 s__law_draw) {A : Around} {out : List Env} {s : Shared} {H : Hp} {fa : Addr}
    (hX : X = cxOf (L2.CX P w) P w C.K mg base N__law_pick "_law_pick" (defScope st__law_pick) fa cd A out s H E) (c : Ok X C E 1) : RSs X C E (defBody st__law_pick) (w__law_pick s__law_draw) := by
  subst hX
  exact (rss_one (rs_ret (d_ix c (d_var c 1) (d_fun c F__law_draw (by decide) (a_cons c (d_var c 0) (a_cons c (f_len c FX.b_len (a_cons c (d_var c 1) ra_nil)) ra_nil))))))
abbrev N__law_same : List Str := ["told", "due"]
def w__law_same : WS := (wRet (wCmp cEq (wFn gRepr (wCons (wVar 0) wNil)) (wFn gRepr (wCons (wVar 1) wNil))))
theorem r__law_same {P : Program} {w : World} {C : Cfg} {mg : Str → Option Value} {base : Heap}  (FX : Facts C mg) {X : Cx} {E : XK} {cd : Value}  {A : Around} {out : List Env} {s : Shared} {H : Hp} {fa : Addr}
    (hX : X = cxOf (L2.CX P w) P w C.K mg base N__law_same "_law_same" (defScope st__law_same) fa cd A out s H E) (c : Ok X C E 0) : RSs X C E (defBody st__law_same) (w__law_same) := by
  subst hX
  exact (rss_one (rs_ret (d_eq c (f_repr c FX.b_repr (a_cons c (d_var c 0) ra_nil)) (f_repr c FX.b_repr (a_cons c (d_var c 1) ra_nil)))))
abbrev N__law_bits : List Str := ["number", "found", "turn"]
def w__law_bits : WS := (wSeq (wAsg (.nm 1) (wC (.str ""))) (wSeq (wFor (.nm 2) (wRg1 (wC (.int 7))) (wPar [1, 0] (wCons (wOp gAdd (wFn gStr (wCons (wOp gAnd (wVar 0) (wC (.int 1))) wNil)) (wVar 1)) (wCons (wOp gDiv (wVar 0) (wC (.int 2))) wNil)))) (wRet (wVar 1))))
theorem r__law_bits {P : Program} {w : World} {C : Cfg} {mg : Str → Option Value} {base : Heap}  (FX : Facts C mg) {X : Cx} {E : XK} {cd : Value}  {A : Around} {out : List Env} {s : Shared} {H : Hp} {fa : Addr}
    (hX : X = cxOf (L2.CX P w) P w C.K mg base N__law_bits "_law_bits" (defScope st__law_bits) fa cd A out s H E) (c : Ok X C E 0) : RSs X C E (defBody st__law_bits) (w__law_bits) := by
  subst hX
  exact (rss_cons (s_set c 1 (d_str c ""))
  (rss_cons (s_for c (i_rg1 c FX.b_range (d_int c 7)) g_nm
  (rss_one (s_par2 c 1 0 (a_cons c (d_add c (f_str c FX.b_str (a_cons c (d_and2 c (d_var c 0) (d_int c 1)) ra_nil)) (d_var c 1)) (a_cons c (d_div c (d_var c 0) (d_int c 2)) ra_nil)))))
  (rss_one (rs_ret (d_var c 1)))))
abbrev N__law_word_of : List Str := ["text", "sign"]
def w__law_word_of (s__law_bits : WF) : WS := (wRet (wMt isS gJoin (wC (.str "")) (wCons (wLc (.nm 1) [1] (wIt (wVar 0)) wYes (wCall s__law_bits (wArgs 1 (wCons (wFn gOrd (wCons (wVar 1) wNil)) wNil)))) wNil)))
theorem r__law_word_of {P : Program} {w : World} {C : Cfg} {mg : Str → Option Value} {base : Heap} (s__law_bits : WF) (FX : Facts C mg) {X : Cx} {E : XK} {cd : Value} (F__law_bits : Fun P w C mg base 1 "_law_bits" 1 s__law_bits) {A : Around} {out : List Env} {s : Shared} {H : Hp} {fa : Addr}
    (hX : X = cxOf (L2.CX P w) P w C.K mg base N__law_word_of "_law_word_of" (defScope st__law_word_of) fa cd A out s H E) (c : Ok X C E 1) : RSs X C E (defBody st__law_word_of) (w__law_word_of s__law_bits) := by
  subst hX
  exact (rss_one (rs_ret (m_join c (d_str c "") (a_cons c (d_lc c [("sign", 1)] (.nm 1) (i_val c (d_var c 0)) (fun _ _ _ _ _ => g_nm) (fun _ _ _ _ _ => rts_nil) (fun _ _ _ _ _ => (d_fun c.blk F__law_bits (by decide) (a_cons c.blk (f_ord c.blk FX.b_ord (a_cons c.blk (d_var c.blk 1) ra_nil)) ra_nil))) (by show blkC N__law_word_of (defScope st__law_word_of) _ _ = true; decide +kernel)) ra_nil))))
abbrev N__law_signs : List Str := []
def w__law_signs : WS := (wRet (wOp gAdd (wOp gAdd (wOp gAdd (wOp gAdd (wOp gAdd (wOp gAdd (wC (.str "abcdefghijklmnopqrstuvwxyz")) (wC (.str "ABCDEFGHIJKLMNOPQRSTUVWXYZ"))) (wC (.str "0123456789"))) (wC (.str "\n"))) (wC (.str " !\"#$&'()*+,-./:;<=>?\x40[\\]^_"))) (wC (.str "{|}~"))) (wC (.str "`"))))
theorem r__law_signs {P : Program} {w : World} {C : Cfg} {mg : Str → Option Value} {base : Heap}  (FX : Facts C mg) {X : Cx} {E : XK} {cd : Value}  {A : Around} {out : List Env} {s : Shared} {H : Hp} {fa : Addr}
    (hX : X = cxOf (L2.CX P w) P w C.K mg base N__law_signs "_law_signs" (defScope st__law_signs) fa cd A out s H E) (c : Ok X C E 0) : RSs X C E (defBody st__law_signs) (w__law_signs) := by
  subst hX
  exact (rss_one (rs_ret (d_add c (d_add c (d_add c (d_add c (d_add c (d_add c (d_str c "abcdefghijklmnopqrstuvwxyz") (d_str c "ABCDEFGHIJKLMNOPQRSTUVWXYZ")) (d_str c "0123456789")) (d_str c "\n")) (d_str c " !\"#$&'()*+,-./:;<=>?\x40[\\]^_")) (d_str c "{|}~")) (d_str c "`"))))
abbrev N__law_codes : List Str := ["word", "codes", "at", "code", "letter"]
def w__law_codes : WS := (wSeq (wIf (wCmpT cNe (wOp gMod (wFn gInt (wCons (wFn gLen (wCons (wVar 0) wNil)) wNil)) (wC (.int 7))) (wC (.int 0))) (wRet (wC .non)) wPass) (wSeq (wAsg (.nm 1) (wLstM wNil)) (wSeq (wFor (.nm 2) (wRg1 (wOp gDiv (wFn gLen (wCons (wVar 0) wNil)) (wC (.int 7)))) (wSeq (wAsg (.nm 3) (wC (.int 0))) (wSeq (wFor (.nm 4) (wIt (wSl (wVar 0) (wSmO (wOp gMul (wC (.int 7)) (wVar 2))) (wSmO (wOp gAdd (wOp gMul (wC (.int 7)) (wVar 2)) (wC (.int 7)))))) (wAsg (.nm 3) (wOp gAdd (wOp gMul (wC (.int 2)) (wVar 3)) (wFn gInt (wCons (wVar 4) wNil))))) (wDo (wMt isLs gApp (wVar 1) (wCons (wVar 3) wNil)))))) (wRet (wFrz (wVar 1))))))
theorem r__law_codes {P : Program} {w : World} {C : Cfg} {mg : Str → Option Value} {base : Heap}  (FX : Facts C mg) {X : Cx} {E : XK} {cd : Value}  {A : Around} {out : List Env} {s : Shared} {H : Hp} {fa : Addr}
    (hX : X = cxOf (L2.CX P w) P w C.K mg base N__law_codes "_law_codes" (defScope st__law_codes) fa cd A out s H E) (c : Ok X C E 0) : RSs X C E (defBody st__law_codes) (w__law_codes) := by
  subst hX
  exact (rss_cons (rs_if (t_ne c (d_mod c (f_int c FX.b_int (a_cons c (f_len c FX.b_len (a_cons c (d_var c 0) ra_nil)) ra_nil)) (d_int c 7)) (d_int c 0)) (rss_one (rs_ret (d_non c)))
  rss_nil)
  (rss_cons (s_set c 1 (re_lstM ra_nil))
  (rss_cons (s_for c (i_rg1 c FX.b_range (d_div c (f_len c FX.b_len (a_cons c (d_var c 0) ra_nil)) (d_int c 7))) g_nm
  (rss_cons (s_set c 3 (d_int c 0))
  (rss_cons (s_for c (i_val c (d_sl c (d_var c 0) (ro_sm (d_mul c (d_int c 7) (d_var c 2))) (ro_sm (d_add c (d_mul c (d_int c 7) (d_var c 2)) (d_int c 7))))) g_nm
  (rss_one (s_set c 3 (d_add c (d_mul c (d_int c 2) (d_var c 3)) (f_int c FX.b_int (a_cons c (d_var c 4) ra_nil))))))
  (rss_one (s_do c (m_append c (d_var c 1) (a_cons c (d_var c 3) ra_nil)))))))
  (rss_one (rs_ret (re_frz (d_var c 1)))))))
abbrev N__law_tried : List Str := ["call", "found", "e"]
def w__law_tried (fA : Addr) (wA : WL) : WS := (wSeq (wTry errs 3 2 (wAsg (.nm 1) (wAct fA wA)) (fun cE pE aE => (wSeq (wIf (wTru (wEis 2 aE (decide (cE = "BadText")))) (wRet (wTup (wCons (wC (.str "raised")) (wCons (wC (.str "text")) (wCons (wEis 2 aE (decide (cE = "BadWord"))) (wCons (wFn gRepr (wCons (wEth 2 aE "at" cE pE) wNil)) wNil)))))) wPass) (wRet (wIfE (wTru (wEis 2 aE (decide (cE = "BadWord")))) (wTup (wCons (wC (.str "raised")) (wCons (wC (.str "word")) (wCons (wFn gRepr (wCons (wEth 2 aE "thing" cE pE) wNil)) wNil)))) (wTup (wCons (wC (.str "raised")) wNil))))))) (wRet (wTup (wCons (wC (.str "returned")) (wCons (wVar 1) wNil)))))
theorem r__law_tried {P : Program} {w : World} {C : Cfg} {mg : Str → Option Value} {base : Heap} (FX : Facts C mg) {C1 : Cfg} {Z : Cx} {cd : Value} {A : Around} {out : List Env} {s : Shared} {H : Hp} {fa fA : Addr} {wA : WL} {j : Nat}
    (hZ : Z = cxOf (L2.CX P w) P w C.K mg base N__law_tried "_law_tried" (defScope st__law_tried) fa cd A out s H RF.E0) (hK : C1.K = C.K)
    (act : ∀ pn xe Eb p1 p2, Takes (Z.tr pn xe) (fun cls d _ H => Eb cls d H) → RE (Z.tr pn xe) C1 Eb (.Call (.Name "call" p1) [] [] p2) (wAct fA wA)) (hG : Calm Z.A) (rm : Room j Z.A) : RSs Z C1 RF.E0 (defBody st__law_tried) (w__law_tried fA wA) := by
  obtain ⟨K1, T1, xs1, cs1, sl1, scr1⟩ := C1
  have hK : K1 = C.K := hK
  subst hK hZ
  have c : Ok _ (Cfg.mk C.K T1 xs1 cs1 sl1 scr1) RF.E0 j := ⟨rfl, rfl, (by decide +kernel : N__law_tried.Nodup), takes_of rfl rfl rfl rfl, passes_of (E₁ := fun e1 s1 => L2.CX P w out H s RF.E0 e1 s1) rfl, rm, hG⟩
  exact (rss_cons (rs_try rfl rfl rfl c.hN rfl rfl ⟨rfl, by decide, .inl FX.q⟩ (fun cn m => (FX.err cn m).exm) (fun pn xe Eb tkB po => have cB : Ok (Cx.tr _ pn xe) _ Eb _ := ⟨rfl, rfl, c.hN, tkB, po, c.rm, c.cm⟩; (rss_one (s_set cB 1 (act _ _ _ _ _ tkB))))
  (fun cE hE pE aE dE oe pn hz hd => have cS := su_of (Z := _) (a := aE) (pn := (aE, oe) :: pn) rfl hG rm; (rss_cons (rs_if (xt_tru cS (re_eis (c2 := "BadText") rfl hz hd (List.mem_cons_self ..) (FX.err cE hE).isC (FX.kit cE hE "BadText" (by simp [errs])) rfl FX.b_isinstance rfl FX.g_BadText rfl (by first | exact .inl rfl | exact .inr (.inl rfl)) (by decide) (by decide) (by decide) rfl rfl rfl)) (rss_one (rs_ret (re_tup (xa_cons cS (xd_str cS "raised") (xa_cons cS (xd_str cS "text") (xa_cons cS (re_eis (c2 := "BadWord") rfl hz hd (List.mem_cons_self ..) (FX.err cE hE).isC (FX.kit cE hE "BadWord" (by simp [errs])) rfl FX.b_isinstance rfl FX.g_BadWord rfl (by first | exact .inl rfl | exact .inr (.inl rfl)) (by decide) (by decide) (by decide) rfl rfl rfl) (xa_cons cS (xf_repr cS FX.b_repr (xa_cons cS (re_eth rfl hz hd (List.mem_cons_self ..) (FX.err cE hE).txt rfl (by first | exact .inl rfl | exact .inr (.inl rfl)) (by decide) (by decide) rfl) ra_nil)) ra_nil)))))))
  rss_nil)
  (rss_one (rs_ret (re_ifE (xt_tru cS (re_eis (c2 := "BadWord") rfl hz hd (List.mem_cons_self ..) (FX.err cE hE).isC (FX.kit cE hE "BadWord" (by simp [errs])) rfl FX.b_isinstance rfl FX.g_BadWord rfl (by first | exact .inl rfl | exact .inr (.inl rfl)) (by decide) (by decide) (by decide) rfl rfl rfl)) (re_tup (xa_cons cS (xd_str cS "raised") (xa_cons cS (xd_str cS "word") (xa_cons cS (xf_repr cS FX.b_repr (xa_cons cS (re_eth rfl hz hd (List.mem_cons_self ..) (FX.err cE hE).txt rfl (by first | exact .inl rfl | exact .inr (.inl rfl)) (by decide) (by decide) rfl) ra_nil)) ra_nil)))) (re_tup (xa_cons cS (xd_str cS "raised") ra_nil))))))))
  (rss_one (rs_ret (re_tup (a_cons c (d_str c "returned") (a_cons c (d_var c 1) ra_nil))))))
/-- what the trying def tells -/
def bt__law_tried : BT := fun wA hp Q => ∃ Q0 : KI, (∀ p h, Q0 p h → Q p h) ∧ wA hp (fun c p h => c ∈ errs ∧ ∃ d, toDr h p = some d ∧ Showy d ∧ (c = "BadText" → Q0 (.tup [.str "raised", .str "text", .bl false, .str d.shown]) h) ∧ (c = "BadWord" → Q0 (.tup [.str "raised", .str "word", .str d.shown]) h))
  (fun p h => Q0 (.tup [.str "returned", p]) h)

abbrev N__law_is_told : List Str := ["word", "due", "known", "others", "told", "sign", "code"]
def w__law_is_told (s_word_of_text : WF) (s_text_of_word : WF) (s__law_same : WF) (s__law_signs : WF) (s__law_codes : WF) : WS := (wSeq (wAsg (.tp [1, 2]) (wTup (wCons (wCall s__law_codes (wArgs 1 (wCons (wVar 0) wNil))) (wCons (wLc (.nm 5) [5] (wIt (wCall s__law_signs wNil)) wYes (wFn gOrd (wCons (wVar 5) wNil))) wNil)))) (wSeq (wAsg (.nm 3) (wIfE (wCmpT cNotN (wVar 1) (wC .non)) (wLc (.nm 6) [6] (wIt (wVar 1)) (wCmpT cNotIn (wVar 6) (wVar 2)) (wVar 6)) (wLst wNil))) (wSeq (wAsg (.nm 4) (wCall s_text_of_word (wArgs 1 (wCons (wVar 0) wNil)))) (wSeq (wIf (wOrT (wCmpT cIsN (wVar 1) (wC .non)) (wCmpT cNe (wVar 3) (wLst wNil))) (wRet (wCmp cIsN (wVar 4) (wC .non))) wPass) (wSeq (wIf (wOrT (wNotT (wTru (wIsi "str" (wVar 4)))) (wCmpT cNe (wLc (.nm 5) [5] (wIt (wVar 4)) wYes (wFn gOrd (wCons (wVar 5) wNil))) (wVar 1))) (wRet (wC (.bl false))) wPass) (wRet (wCall s__law_same (wArgs 2 (wCons (wCall s_word_of_text (wArgs 1 (wCons (wVar 4) wNil))) (wCons (wVar 0) wNil))))))))))
theorem r__law_is_told {P : Program} {w : World} {C : Cfg} {mg : Str → Option Value} {base : Heap} (s_word_of_text : WF) (s_text_of_word : WF) (s__law_same : WF) (s__law_signs : WF) (s__law_codes : WF) (FX : Facts C mg) {X : Cx} {E : XK} {cd : Value} (F_word_of_text : Fun P w C mg base 2 "word_of_text" 1 s_word_of_text) (F_text_of_word : Fun P w C mg base 3 "text_of_word" 1 s_text_of_word) (F__law_same : Fun P w C mg base 1 "_law_same" 2 s__law_same) (F__law_signs : Fun P w C mg base 1 "_law_signs" 0 s__law_signs) (F__law_codes : Fun P w C mg base 1 "_law_codes" 1 s__law_codes) {A : Around} {out : List Env} {s : Shared} {H : Hp} {fa : Addr}
    (hX : X = cxOf (L2.CX P w) P w C.K mg base N__law_is_told "_law_is_told" (defScope st__law_is_told) fa cd A out s H E) (c : Ok X C E 3) : RSs X C E (defBody st__law_is_told) (w__law_is_told s_word_of_text s_text_of_word s__law_same s__law_signs s__law_codes) := by
  subst hX
  exact (rss_cons (s_unp c (.tp (g_cons (g_cons .nil))) (re_tup (a_cons c (d_fun c F__law_codes (by decide) (a_cons c (d_var c 0) ra_nil)) (a_cons c (d_lc c [("sign", 5)] (.nm 5) (i_val c (d_fun0 c F__law_signs (by decide))) (fun _ _ _ _ _ => g_nm) (fun _ _ _ _ _ => rts_nil) (fun _ _ _ _ _ => (f_ord c.blk FX.b_ord (a_cons c.blk (d_var c.blk 5) ra_nil))) (by show blkC N__law_is_told (defScope st__law_is_told) _ _ = true; decide +kernel)) ra_nil))))
  (rss_cons (s_set c 3 (re_ifE (t_isnot c (d_var c 1) (d_non c)) (d_lc c [("code", 6)] (.nm 6) (i_val c (d_var c 1)) (fun _ _ _ _ _ => g_nm) (fun _ _ _ _ _ => (rts_one (t_notin c.blk (d_var c.blk 6) (d_var c.blk 2)))) (fun _ _ _ _ _ => (d_var c.blk 6)) (by show blkC N__law_is_told (defScope st__law_is_told) _ _ = true; decide +kernel)) (re_lst ra_nil)))
  (rss_cons (s_set c 4 (d_fun c F_text_of_word (by decide) (a_cons c (d_var c 0) ra_nil)))
  (rss_cons (rs_if (RW.rt (rw_or (t_is c (d_var c 1) (d_non c)) (rw_or1 (t_ne c (d_var c 3) (re_lst ra_nil))))) (rss_one (rs_ret (d_is c (d_var c 4) (d_non c))))
  rss_nil)
  (rss_cons (rs_if (RW.rt (rw_or (t_not c (t_tru c (f_isi c "str" FX.b_isinstance FX.b_str (d_var c 4)))) (rw_or1 (t_ne c (d_lc c [("sign", 5)] (.nm 5) (i_val c (d_var c 4)) (fun _ _ _ _ _ => g_nm) (fun _ _ _ _ _ => rts_nil) (fun _ _ _ _ _ => (f_ord c.blk FX.b_ord (a_cons c.blk (d_var c.blk 5) ra_nil))) (by show blkC N__law_is_told (defScope st__law_is_told) _ _ = true; decide +kernel)) (d_var c 1))))) (rss_one (rs_ret (d_bl c false)))
  rss_nil)
  (rss_one (rs_ret (d_fun c F__law_same (by decide) (a_cons c (d_fun c F_word_of_text (by decide) (a_cons c (d_var c 4) ra_nil)) (a_cons c (d_var c 0) ra_nil))))))))))
abbrev N_law : List Str := ["script", "deck", "signs", "turn", "many", "text", "word", "told", "at", "code", "wrong", "near", "place", "more", "thing", "codes", "few", "sign"]
def w_law (s_word_of_text : WF) (s_text_of_word : WF) (s__law_deck : WF) (s__law_draw : WF) (s__law_pick : WF) (s__law_same : WF) (s__law_bits : WF) (s__law_word_of : WF) (s__law_signs : WF) (s__law_is_told : WF) : WS := (wSeq (wAsg (.tp [1, 2]) (wTup (wCons (wCall s__law_deck (wArgs 1 (wCons (wVar 0) wNil))) (wCons (wCall s__law_signs wNil) wNil)))) (wSeq (wFor (.nm 3) (wRg1 (wC (.int 3))) (wSeq (wAsg (.nm 4) (wOp gAdd (wCall s__law_pick (wArgs 2 (wCons (wVar 1) (wCons (wLst (wCons (wC (.int 7)) (wCons (wC (.int 1)) (wCons (wC (.int 20)) (wCons (wC (.int 0)) (wCons (wC (.int 3)) (wCons (wC (.int 60)) (wCons (wC (.int 199)) wNil)))))))) wNil)))) (wCall s__law_draw (wArgs 2 (wCons (wVar 1) (wCons (wC (.int 2)) wNil)))))) (wSeq (wAsg (.nm 5) (wMt isS gJoin (wC (.str "")) (wCons (wLc (.nm 12) [12] (wRg1 (wVar 4)) wYes (wCall s__law_pick (wArgs 2 (wCons (wVar 1) (wCons (wVar 2) wNil))))) wNil))) (wSeq (wAsg (.nm 6) (wCall s__law_word_of (wArgs 1 (wCons (wVar 5) wNil)))) (wSeq (wAsg (.nm 7) (wIfE (wCmpT cLt (wVar 3) (wC (.int 2))) (wCall s_word_of_text (wArgs 1 (wCons (wVar 5) wNil))) (wCallK s_word_of_text 1 [0] (wCons (wVar 5) wNil)))) (wSeq (wIf (wOrT (wNotT (wTru (wCall s__law_same (wArgs 2 (wCons (wVar 7) (wCons (wVar 6) wNil)))))) (wNotT (wTru (wCall s__law_same (wArgs 2 (wCons (wCall s_text_of_word (wArgs 1 (wCons (wVar 6) wNil))) (wCons (wVar 5) wNil))))))) (wRet (wC (.bl false))) wPass) (wSeq (wPar [8, 9] (wCons (wCall s__law_draw (wArgs 2 (wCons (wVar 1) (wCons (wOp gAdd (wFn gLen (wCons (wVar 5) wNil)) (wC (.int 1))) wNil)))) (wCons (wCall s__law_bits (wArgs 1 (wCons (wCall s__law_draw (wArgs 2 (wCons (wVar 1) (wCons (wC (.int 128)) wNil)))) wNil))) wNil))) (wSeq (wAsg (.nm 10) (wOp gAdd (wOp gAdd (wSl (wSl (wVar 5) wNoO (wSmO (wVar 8))) wNoO (wSmO (wC (.int 199)))) (wC (.str "\t"))) (wSl (wVar 5) (wSmO (wVar 8)) (wSmO (wC (.int 199)))))) (wSeq (wIf (wCmpT cNe (wLam (wCall s_word_of_text (wArgs 1 (wCons (wVar 10) wNil))) bt__law_tried) (wTup (wCons (wC (.str "raised")) (wCons (wC (.str "text")) (wCons (wC (.bl false)) (wCons (wC (.str "0")) wNil)))))) (wRet (wC (.bl false))) wPass) (wSeq (wAsg (.nm 11) (wOp gAdd (wOp gAdd (wSl (wVar 6) wNoO (wSmO (wOp gMul (wC (.int 7)) (wVar 8)))) (wVar 9)) (wSl (wVar 6) (wSmO (wOp gAdd (wOp gMul (wC (.int 7)) (wVar 8)) (wC (.int 7)))) wNoO))) (wSeq (wPar [12, 13] (wCons (wCall s__law_draw (wArgs 2 (wCons (wVar 1) (wCons (wOp gAdd (wFn gLen (wCons (wVar 6) wNil)) (wC (.int 1))) wNil)))) (wCons (wCall s__law_draw (wArgs 2 (wCons (wVar 1) (wCons (wC (.int 7)) wNil)))) wNil))) (wFor (.nm 14) (wIt (wTup (wCons (wVar 11) (wCons (wOp gAdd (wSl (wVar 6) wNoO (wSmO (wVar 12))) (wSl (wVar 6) (wSmO (wOp gAdd (wVar 12) (wVar 13))) wNoO)) (wCons (wOp gAdd (wOp gAdd (wSl (wVar 6) wNoO (wSmO (wVar 12))) (wSl (wC (.str "0101101")) wNoO (wSmO (wVar 13)))) (wSl (wVar 6) (wSmO (wVar 12)) (wSmO (wOp gAdd (wVar 12) (wC (.int 100)))))) wNil))))) (wIf (wAndT (wCmpT cLe (wFn gLen (wCons (wVar 14) wNil)) (wC (.int 1400))) (wNotT (wTru (wCall s__law_is_told (wArgs 1 (wCons (wVar 14) wNil)))))) (wRet (wC (.bl false))) wPass))))))))))))) (wSeq (wAsg (.nm 15) (wOp gAdd (wLc (.nm 17) [17] (wIt (wVar 2)) wYes (wFn gOrd (wCons (wVar 17) wNil))) (wOp gRep (wLstM (wCons (wC (.int 0)) (wCons (wC (.int 9)) (wCons (wC (.int 31)) (wCons (wC (.int 127)) (wCons (wC (.int 37)) (wCons (wC (.int 37)) wNil))))))) (wC (.int 6))))) (wSeq (wAsg (.nm 16) (wMt isS gJoin (wC (.str "")) (wCons (wLc (.nm 12) [12] (wRg1 (wCall s__law_pick (wArgs 2 (wCons (wVar 1) (wCons (wLst (wCons (wC (.int 2)) (wCons (wC (.int 1)) (wCons (wC (.int 4)) (wCons (wC (.int 9)) wNil))))) wNil))))) wYes (wCall s__law_bits (wArgs 1 (wCons (wCall s__law_pick (wArgs 2 (wCons (wVar 1) (wCons (wVar 15) wNil)))) wNil)))) wNil))) (wSeq (wIf (wOrT (wNotT (wTru (wCall s__law_is_told (wArgs 1 (wCons (wVar 16) wNil))))) (wNotT (wTru (wCall s__law_same (wArgs 2 (wCons (wCallK s_text_of_word 1 [0] (wCons (wVar 16) wNil)) (wCons (wCall s_text_of_word (wArgs 1 (wCons (wVar 16) wNil))) wNil))))))) (wRet (wC (.bl false))) wPass) (wSeq (wFor (.nm 3) (wRg1 (wC (.int 4))) (wSeq (wAsg (.nm 14) (wCall s__law_pick (wArgs 2 (wCons (wVar 1) (wCons (wLst (wCons (wC .non) (wCons (wC (.int 0)) (wCons (wUn gNeg (wC (.int 1))) (wCons (wC (.bl true)) (wCons (wC (.bl false)) (wCons (wTup wNil) (wCons (wTup (wCons (wC (.str "a")) wNil)) (wCons (wLst (wCons (wC (.str "a")) wNil)) (wCons wDct0 (wCons (wDct [((wC (.str "a")), (wC (.int 1)))]) (wCons (wOp gPow (wC (.int 10)) (wC (.int 39))) (wCons (wTup (wCons (wC (.str "0")) (wCons (wC (.str "1")) wNil))) (wCons (wLst wNil) (wCons (wC (.int 7)) wNil))))))))))))))) wNil))))) (wSeq (wIf (wCmpT cNe (wLam (wCall s_word_of_text (wArgs 1 (wCons (wVar 14) wNil))) bt__law_tried) (wTup (wCons (wC (.str "raised")) (wCons (wC (.str "text")) (wCons (wC (.bl false)) (wCons (wC (.str "0")) wNil)))))) (wRet (wC (.bl false))) wPass) (wSeq (wAsg (.nm 14) (wCall s__law_pick (wArgs 2 (wCons (wVar 1) (wCons (wLst (wCons (wVar 14) (wCons (wC (.str "2")) (wCons (wC (.str "01a0110")) (wCons (wC (.str "0 1")) (wCons (wC (.str "O")) (wCons (wC (.str "0\n")) (wCons (wC (.str " ")) (wCons (wC (.str "l")) (wCons (wC (.str "1000001 ")) (wCons (wC (.str "a0")) (wCons (wC (.str "-1")) wNil)))))))))))) wNil))))) (wIf (wCmpT cNe (wLam (wCall s_text_of_word (wArgs 1 (wCons (wVar 14) wNil))) bt__law_tried) (wTup (wCons (wC (.str "raised")) (wCons (wC (.str "word")) (wCons (wFn gRepr (wCons (wVar 14) wNil)) wNil))))) (wRet (wC (.bl false))) wPass))))) (wRet (wC (.bl true)))))))))
theorem r_law {P : Program} {w : World} {C : Cfg} {mg : Str → Option Value} {base : Heap} (s_word_of_text : WF) (s_text_of_word : WF) (s__law_deck : WF) (s__law_draw : WF) (s__law_pick : WF) (s__law_same : WF) (s__law_bits : WF) (s__law_word_of : WF) (s__law_signs : WF) (s__law_is_told : WF) (FX : Facts C mg) {X : Cx} {E : XK} {cd : Value} (F_word_of_text : Fun P w C mg base 2 "word_of_text" 1 s_word_of_text) (K_word_of_text : FunK P w C mg base 2 "word_of_text" 1 s_word_of_text ["text"] [0]) (F_text_of_word : Fun P w C mg base 3 "text_of_word" 1 s_text_of_word) (K_text_of_word : FunK P w C mg base 3 "text_of_word" 1 s_text_of_word ["word"] [0]) (F__law_deck : Fun P w C mg base 1 "_law_deck" 1 s__law_deck) (F__law_draw : Fun P w C mg base 1 "_law_draw" 2 s__law_draw) (F__law_pick : Fun P w C mg base 2 "_law_pick" 2 s__law_pick) (F__law_same : Fun P w C mg base 1 "_law_same" 2 s__law_same) (F__law_bits : Fun P w C mg base 1 "_law_bits" 1 s__law_bits) (F__law_word_of : Fun P w C mg base 2 "_law_word_of" 1 s__law_word_of) (F__law_signs : Fun P w C mg base 1 "_law_signs" 0 s__law_signs) (F__law_is_told : Fun P w C mg base 4 "_law_is_told" 1 s__law_is_told) (TR : Tried P w C mg base "_law_tried" "call" st__law_tried N__law_tried 5 bt__law_tried w__law_tried) {cc Pt : Addr} (TB : LamX.TabB base mg cc Pt) (hcd : cd = .ref cc) (hT : C.T = [(Pt, (("law" : Str) ++ ".<locals>.") ++ "<lambda>")]) {A : Around} {out : List Env} {s : Shared} {H : Hp} {fa : Addr}
    (hX : X = cxOf (L2.CX P w) P w C.K mg base N_law "law" (defScope st_law) fa cd A out s H E) (c : Ok X C E 6) : RSs X C E (defBody st_law) (w_law s_word_of_text s_text_of_word s__law_deck s__law_draw s__law_pick s__law_same s__law_bits s__law_word_of s__law_signs s__law_is_told) := by
  subst hX
  exact (rss_cons (s_unp c (.tp (g_cons (g_cons .nil))) (re_tup (a_cons c (d_fun c F__law_deck (by decide) (a_cons c (d_var c 0) ra_nil)) (a_cons c (d_fun0 c F__law_signs (by decide)) ra_nil))))
  (rss_cons (s_for c (i_rg1 c FX.b_range (d_int c 3)) g_nm
  (rss_cons (s_set c 4 (d_add c (d_fun c F__law_pick (by decide) (a_cons c (d_var c 1) (a_cons c (re_lst (a_cons c (d_int c 7) (a_cons c (d_int c 1) (a_cons c (d_int c 20) (a_cons c (d_int c 0) (a_cons c (d_int c 3) (a_cons c (d_int c 60) (a_cons c (d_int c 199) ra_nil)))))))) ra_nil))) (d_fun c F__law_draw (by decide) (a_cons c (d_var c 1) (a_cons c (d_int c 2) ra_nil)))))
  (rss_cons (s_set c 5 (m_join c (d_str c "") (a_cons c (d_lc c [("place", 12)] (.nm 12) (i_rg1 c FX.b_range (d_var c 4)) (fun _ _ _ _ _ => g_nm) (fun _ _ _ _ _ => rts_nil) (fun _ _ _ _ _ => (d_fun c.blk F__law_pick (by decide) (a_cons c.blk (d_var c.blk 1) (a_cons c.blk (d_var c.blk 2) ra_nil)))) (by show blkC N_law (defScope st_law) _ _ = true; decide +kernel)) ra_nil)))
  (rss_cons (s_set c 6 (d_fun c F__law_word_of (by decide) (a_cons c (d_var c 5) ra_nil)))
  (rss_cons (s_set c 7 (re_ifE (t_lt c (d_var c 3) (d_int c 2)) (d_fun c F_word_of_text (by decide) (a_cons c (d_var c 5) ra_nil)) (d_funK c K_word_of_text (by decide) (rk_cons (d_var c 5) rk_nil))))
  (rss_cons (rs_if (RW.rt (rw_or (t_not c (t_tru c (d_fun c F__law_same (by decide) (a_cons c (d_var c 7) (a_cons c (d_var c 6) ra_nil))))) (rw_or1 (t_not c (t_tru c (d_fun c F__law_same (by decide) (a_cons c (d_fun c F_text_of_word (by decide) (a_cons c (d_var c 6) ra_nil)) (a_cons c (d_var c 5) ra_nil)))))))) (rss_one (rs_ret (d_bl c false)))
  rss_nil)
  (rss_cons (s_par2 c 8 9 (a_cons c (d_fun c F__law_draw (by decide) (a_cons c (d_var c 1) (a_cons c (d_add c (f_len c FX.b_len (a_cons c (d_var c 5) ra_nil)) (d_int c 1)) ra_nil))) (a_cons c (d_fun c F__law_bits (by decide) (a_cons c (d_fun c F__law_draw (by decide) (a_cons c (d_var c 1) (a_cons c (d_int c 128) ra_nil))) ra_nil)) ra_nil)))
  (rss_cons (s_set c 10 (d_add c (d_add c (d_sl c (d_sl c (d_var c 5) ro_no (ro_sm (d_var c 8))) ro_no (ro_sm (d_int c 199))) (d_str c "\t")) (d_sl c (d_var c 5) (ro_sm (d_var c 8)) (ro_sm (d_int c 199)))))
  (rss_cons (rs_if (t_ne c (d_lam c TR (by decide) TB hcd hT (fun _ _ _ _ _ _ _ cL => (d_fun cL F_word_of_text (by decide) (a_cons cL (d_var cL 10) ra_nil))) (LamX.lamS_by (by show LamX.lamSB (defScope st_law) _ = true; decide +kernel))) (re_tup (a_cons c (d_str c "raised") (a_cons c (d_str c "text") (a_cons c (d_bl c false) (a_cons c (d_str c "0") ra_nil)))))) (rss_one (rs_ret (d_bl c false)))
  rss_nil)
  (rss_cons (s_set c 11 (d_add c (d_add c (d_sl c (d_var c 6) ro_no (ro_sm (d_mul c (d_int c 7) (d_var c 8)))) (d_var c 9)) (d_sl c (d_var c 6) (ro_sm (d_add c (d_mul c (d_int c 7) (d_var c 8)) (d_int c 7))) ro_no)))
  (rss_cons (s_par2 c 12 13 (a_cons c (d_fun c F__law_draw (by decide) (a_cons c (d_var c 1) (a_cons c (d_add c (f_len c FX.b_len (a_cons c (d_var c 6) ra_nil)) (d_int c 1)) ra_nil))) (a_cons c (d_fun c F__law_draw (by decide) (a_cons c (d_var c 1) (a_cons c (d_int c 7) ra_nil))) ra_nil)))
  (rss_one (s_for c (i_val c (re_tup (a_cons c (d_var c 11) (a_cons c (d_add c (d_sl c (d_var c 6) ro_no (ro_sm (d_var c 12))) (d_sl c (d_var c 6) (ro_sm (d_add c (d_var c 12) (d_var c 13))) ro_no)) (a_cons c (d_add c (d_add c (d_sl c (d_var c 6) ro_no (ro_sm (d_var c 12))) (d_sl c (d_str c "0101101") ro_no (ro_sm (d_var c 13)))) (d_sl c (d_var c 6) (ro_sm (d_var c 12)) (ro_sm (d_add c (d_var c 12) (d_int c 100))))) ra_nil))))) g_nm
  (rss_one (rs_if (RW.rt (rw_and (t_le c (f_len c FX.b_len (a_cons c (d_var c 14) ra_nil)) (d_int c 1400)) (rw_and1 (t_not c (t_tru c (d_fun c F__law_is_told (by decide) (a_cons c (d_var c 14) ra_nil))))))) (rss_one (rs_ret (d_bl c false)))
  rss_nil)))))))))))))))
  (rss_cons (s_set c 15 (d_add c (d_lc c [("sign", 17)] (.nm 17) (i_val c (d_var c 2)) (fun _ _ _ _ _ => g_nm) (fun _ _ _ _ _ => rts_nil) (fun _ _ _ _ _ => (f_ord c.blk FX.b_ord (a_cons c.blk (d_var c.blk 17) ra_nil))) (by show blkC N_law (defScope st_law) _ _ = true; decide +kernel)) (d_rep c (re_lstM (a_cons c (d_int c 0) (a_cons c (d_int c 9) (a_cons c (d_int c 31) (a_cons c (d_int c 127) (a_cons c (d_int c 37) (a_cons c (d_int c 37) ra_nil))))))) (d_int c 6))))
  (rss_cons (s_set c 16 (m_join c (d_str c "") (a_cons c (d_lc c [("place", 12)] (.nm 12) (i_rg1 c FX.b_range (d_fun c F__law_pick (by decide) (a_cons c (d_var c 1) (a_cons c (re_lst (a_cons c (d_int c 2) (a_cons c (d_int c 1) (a_cons c (d_int c 4) (a_cons c (d_int c 9) ra_nil))))) ra_nil)))) (fun _ _ _ _ _ => g_nm) (fun _ _ _ _ _ => rts_nil) (fun _ _ _ _ _ => (d_fun c.blk F__law_bits (by decide) (a_cons c.blk (d_fun c.blk F__law_pick (by decide) (a_cons c.blk (d_var c.blk 1) (a_cons c.blk (d_var c.blk 15) ra_nil))) ra_nil))) (by show blkC N_law (defScope st_law) _ _ = true; decide +kernel)) ra_nil)))
  (rss_cons (rs_if (RW.rt (rw_or (t_not c (t_tru c (d_fun c F__law_is_told (by decide) (a_cons c (d_var c 16) ra_nil)))) (rw_or1 (t_not c (t_tru c (d_fun c F__law_same (by decide) (a_cons c (d_funK c K_text_of_word (by decide) (rk_cons (d_var c 16) rk_nil)) (a_cons c (d_fun c F_text_of_word (by decide) (a_cons c (d_var c 16) ra_nil)) ra_nil)))))))) (rss_one (rs_ret (d_bl c false)))
  rss_nil)
  (rss_cons (s_for c (i_rg1 c FX.b_range (d_int c 4)) g_nm
  (rss_cons (s_set c 14 (d_fun c F__law_pick (by decide) (a_cons c (d_var c 1) (a_cons c (re_lst (a_cons c (d_non c) (a_cons c (d_int c 0) (a_cons c (d_neg c (d_int c 1)) (a_cons c (d_bl c true) (a_cons c (d_bl c false) (a_cons c (re_tup ra_nil) (a_cons c (re_tup (a_cons c (d_str c "a") ra_nil)) (a_cons c (re_lst (a_cons c (d_str c "a") ra_nil)) (a_cons c re_dct0 (a_cons c (re_dct (.cons (d_str c "a") (d_int c 1) .nil) (by rfl) (by simp) (by decide)) (a_cons c (d_pow c (d_int c 10) (d_int c 39)) (a_cons c (re_tup (a_cons c (d_str c "0") (a_cons c (d_str c "1") ra_nil))) (a_cons c (re_lst ra_nil) (a_cons c (d_int c 7) ra_nil))))))))))))))) ra_nil))))
  (rss_cons (rs_if (t_ne c (d_lam c TR (by decide) TB hcd hT (fun _ _ _ _ _ _ _ cL => (d_fun cL F_word_of_text (by decide) (a_cons cL (d_var cL 14) ra_nil))) (LamX.lamS_by (by show LamX.lamSB (defScope st_law) _ = true; decide +kernel))) (re_tup (a_cons c (d_str c "raised") (a_cons c (d_str c "text") (a_cons c (d_bl c false) (a_cons c (d_str c "0") ra_nil)))))) (rss_one (rs_ret (d_bl c false)))
  rss_nil)
  (rss_cons (s_set c 14 (d_fun c F__law_pick (by decide) (a_cons c (d_var c 1) (a_cons c (re_lst (a_cons c (d_var c 14) (a_cons c (d_str c "2") (a_cons c (d_str c "01a0110") (a_cons c (d_str c "0 1") (a_cons c (d_str c "O") (a_cons c (d_str c "0\n") (a_cons c (d_str c " ") (a_cons c (d_str c "l") (a_cons c (d_str c "1000001 ") (a_cons c (d_str c "a0") (a_cons c (d_str c "-1") ra_nil)))))))))))) ra_nil))))
  (rss_one (rs_if (t_ne c (d_lam c TR (by decide) TB hcd hT (fun _ _ _ _ _ _ _ cL => (d_fun cL F_text_of_word (by decide) (a_cons cL (d_var cL 14) ra_nil))) (LamX.lamS_by (by show LamX.lamSB (defScope st_law) _ = true; decide +kernel))) (re_tup (a_cons c (d_str c "raised") (a_cons c (d_str c "word") (a_cons c (f_repr c FX.b_repr (a_cons c (d_var c 14) ra_nil)) ra_nil))))) (rss_one (rs_ret (d_bl c false)))
  rss_nil))))))
  (rss_one (rs_ret (d_bl c true)))))))))
end K95

set_option Elab.async false
set_option linter.all false
set_option maxRecDepth 100000
set_option maxHeartbeats 1000000
/-! k95, the plain side: what the defs compute. -/
namespace RF
open PySem PySem.Spec L2
theorem compW_mapL {α : Type} {tg : Tg} {el : WE} {σ : SI} {Q : List PV → PH → Prop} {hp : PH} (g f : α → PV) : ∀ (xs : List α) (acc : List PV), (∀ x ∈ xs, ∃ σ', tg.go (g x) σ = some σ' ∧ ∀ R : KI, R (f x) hp → el σ' hp eNo R) → acc.length + xs.length ≤ 16777216 → Q (acc ++ xs.map f) hp → compW tg wYes el σ (xs.map g) acc hp Q
  | [], acc, _, _, q => by simpa [compW] using q
  | p :: ps, acc, h, l, q => by
    have sl : sizeLine = 16777216 := PySem.sizeLine_eq
    obtain ⟨σ', e1, z⟩ := h p (List.mem_cons_self ..)
    rw [List.length_cons] at l
    refine ⟨σ', e1, ?_⟩
    simp only [wYes, if_true]
    refine z _ ⟨by omega, compW_mapL g f ps (acc ++ [f p]) (fun p m => h p (List.mem_cons_of_mem _ m)) (by rw [List.length_append]; simp; omega) ?_⟩
    simpa using q
theorem compW_filterL {α : Type} {tg : Tg} {tt : WT} {el : WE} {σ : SI} {Q : List PV → PH → Prop} {hp : PH} (keep : α → Bool) (g f : α → PV) : ∀ (xs : List α) (acc : List PV), (∀ x ∈ xs, ∃ σ', tg.go (g x) σ = some σ' ∧ (∀ R : Bool → PH → Prop, R (keep x) hp → tt σ' hp eNo R) ∧ ∀ R : KI, R (f x) hp → el σ' hp eNo R) →
    acc.length + xs.length ≤ 16777216 → Q (acc ++ (xs.filter keep).map f) hp → compW tg tt el σ (xs.map g) acc hp Q
  | [], acc, _, _, q => by simpa [compW] using q
  | p :: ps, acc, h, l, q => by
    have sl : sizeLine = 16777216 := PySem.sizeLine_eq
    obtain ⟨σ', e1, z1, z2⟩ := h p (List.mem_cons_self ..)
    rw [List.length_cons] at l
    refine ⟨σ', e1, z1 _ ?_⟩
    have rest := fun acc => compW_filterL (tg := tg) (tt := tt) (el := el) (σ := σ) (Q := Q) (hp := hp) keep g f ps acc (fun p m => h p (List.mem_cons_of_mem _ m))
    cases e : keep p with
    | true =>
      rw [if_pos rfl]
      refine z2 _ ⟨by omega, rest (acc ++ [f p]) (by rw [List.length_append]; simp; omega) ?_⟩
      rw [List.filter_cons, e] at q
      simpa using q
    | false =>
      rw [if_neg (by simp)]
      refine rest acc (by omega) ?_
      rw [List.filter_cons, e] at q
      simpa using q
def isStr : PV → Bool
  | .str _ => true
  | _ => false
/-- a value with a known type, no list of the heap -/
def Typed (p : PV) : Prop := (∀ n, p ≠ .loc n) ∧ ∀ a, p ≠ .ref a
theorem Typed.ty {p : PV} (t : Typed p) (hp : PH) : ∃ S, tyP hp p = some S ∧ kitB S "str" = some (isStr p) := by
  cases p with
  | loc n => exact absurd rfl (t.1 n)
  | ref a => exact absurd rfl (t.2 a)
  | non => exact ⟨_, rfl, (by decide +kernel : kitB "NoneType" "str" = some false)⟩
  | bl b => exact ⟨_, rfl, (by decide +kernel : kitB "bool" "str" = some false)⟩
  | int i => exact ⟨_, rfl, (by decide +kernel : kitB "int" "str" = some false)⟩
  | str s => exact ⟨_, rfl, (by decide +kernel : kitB "str" "str" = some true)⟩
  | tup ps => exact ⟨_, rfl, (by decide +kernel : kitB "tuple" "str" = some false)⟩
  | lst ps => exact ⟨_, rfl, (by decide +kernel : kitB "list" "str" = some false)⟩
  | dct ks => exact ⟨_, rfl, (by decide +kernel : kitB "dict" "str" = some false)⟩
theorem typed_str (s : Str) : Typed (.str s) := ⟨fun _ z => (by cases z), fun _ z => (by cases z)⟩
def wv : PV → Bool
  | .str s => s.cps.toList.all isB
  | _ => false
def good : PV → Bool
  | .str s => s.cps.toList.all fun c => decide (c ∈ b7codes)
  | _ => false
def LenOk : PV → Prop
  | .str s => s.length ≤ 1000000
  | _ => True
theorem wv_ex {p : PV} (h : wv p = true) : ∃ l, p = .str (S l) ∧ l.all isB = true := by
  cases p with
  | str s => exact ⟨s.cps.toList, congrArg PV.str (SX.S_tl s).symm, h⟩
  | _ => cases h
theorem fm7 (n : Nat) : (n : Int).fmod 7 = ((n % 7 : Nat) : Int) := by
  rw [Int.fmod_eq_emod_of_nonneg _ (by decide)]
  omega
end RF
namespace K95
open PySem PySem.Spec L2 RF
theorem TS_eq : (("\n !\"#$&'()*+,-./0123456789:;<=>?\x40ABCDEFGHIJKLMNOPQRSTUVWXYZ[\\]^_`abcdefghijklmnopqrstuvwxyz{|}~" : Str)) = S b7codes := by decide +kernel
theorem codes_128 : ∀ c ∈ b7codes, c < 128 := by decide +kernel
theorem codes_nd : b7codes.Nodup := by decide +kernel

def s_iw : WF := fun ps hp e Q => ∃ p, ps = [p] ∧ Typed p ∧ LenOk p ∧ Q (.bl (wv p)) hp
theorem mo_iw : MoF s_iw := fun ps hp e Q Q' i ⟨p, a, b, c, q⟩ => ⟨p, a, b, c, i _ _ q⟩
theorem all_bools {l : List Nat} (f : Nat → Bool) : ∃ bs : List Bool, (l.map fun c => PV.bl (f c)) = bs.map PV.bl ∧ bs.all id = l.all f := ⟨l.map f, by rw [List.map_map]; rfl, by rw [List.all_map]; rfl⟩
theorem o_iw (ps : List PV) (hp : PH) (e : EI) (Q : KI) (h : s_iw ps hp e Q) : wFun 2 w_is_word_value ps hp e Q := by
  obtain ⟨p, rfl, t, lk, q⟩ := h
  obtain ⟨T, e1, e2⟩ := t.ty hp
  show w_is_word_value [some p, none] hp e _
  refine ⟨p, rfl, T, _, e1, e2, _, rfl, ?_⟩
  cases p with
  | str s =>
    obtain ⟨l, rfl⟩ := S_ex s
    have ll : l.length ≤ 1000000 := by rw [← slen l]; exact lk
    rw [show isStr (.str (S l)) = true from rfl, if_pos rfl]
    refine ⟨.str (S l), rfl, _, iter_S l, compW_mapL (fun c => .str (S [c])) (fun c => .bl (isB c)) l [] (fun c m => ⟨_, rfl, fun R r => ?_⟩) (by simp; omega) ?_⟩
    · refine ⟨_, rfl, isB c, .inr (.inl ⟨_, rfl, rfl, rfl, ?_⟩), r⟩
      by_cases h1 : c = 48
      · subst h1; decide +kernel
      · by_cases h2 : c = 49
        · subst h2; decide +kernel
        · have n1 : ((("0" : Str)) == S [c]) = false := by
            rw [show (("0" : Str)) = S [48] by decide +kernel, SX.S_beq_eq]
            simp; omega
          have n2 : ((("1" : Str)) == S [c]) = false := by
            rw [show (("1" : Str)) = S [49] by decide +kernel, SX.S_beq_eq]
            simp; omega
          have : inP (.str (S [c])) [.str "0", .str "1"] = ((("0" : Str) == S [c]) || ((("1" : Str) == S [c]) || false)) := rfl
          rw [this, n1, n2]
          simp [isB, h1, h2]
    · obtain ⟨bs, b1, b2⟩ := all_bools (l := l) isB
      refine ⟨_, _, rfl, ⟨bs, congrArg some b1, rfl⟩, _, fun _ _ z => z, ?_⟩
      rw [b2]
      exact q
  | _ => exact ⟨_, fun _ _ z => z, q⟩

def s_nw : WF := fun ps hp e Q => ∃ p, ps = [p] ∧ Typed p ∧ LenOk p ∧ (wv p = true → Q .non hp) ∧ (wv p = false → e "BadWord" p hp)
theorem mo_nw : MoF s_nw := fun ps hp e Q Q' i ⟨p, a, b, c, q, r⟩ => ⟨p, a, b, c, fun z => i _ _ (q z), r⟩
theorem o_nw (ps : List PV) (hp : PH) (e : EI) (Q : KI) (h : s_nw ps hp e Q) : wFun 1 (w_need_word s_iw) ps hp e Q := by
  obtain ⟨p, rfl, t, lk, q, r⟩ := h
  show w_need_word s_iw [some p] hp e _
  refine ⟨p, rfl, rfl, p, rfl, t, lk, _, rfl, ?_⟩
  cases z : wv p with
  | true => exact ⟨_, fun _ _ z => z, q z⟩
  | false => exact ⟨p, rfl, p, rfl, r z⟩

def s_ws : WF := fun ps hp e Q => ∃ c, ps = [.str (S [c])] ∧ c ∈ b7codes ∧ Q (.str (S (b7 c))) hp
theorem mo_ws : MoF s_ws := fun ps hp e Q Q' i ⟨p, a, b, q⟩ => ⟨p, a, b, i _ _ q⟩
theorem o_ws (ps : List PV) (hp : PH) (e : EI) (Q : KI) (h : s_ws ps hp e Q) : wFun 1 w_word_of_sign ps hp e Q := by
  obtain ⟨c, rfl, m, q⟩ := h
  show w_word_of_sign [some (.str (S [c]))] hp e _
  exact ⟨_, rfl, _, _, rfl, ⟨S [c], rfl, rfl, rfl⟩, c, rfl, m, _, fun _ _ z => z, q⟩

def s_wt : WF := fun ps hp e Q => ∃ p, ps = [p] ∧ Typed p ∧ LenOk p ∧ (∀ cs, p = .str (S cs) → (∀ c ∈ cs, c ∈ b7codes) → Q (.str (S (enc cs))) hp) ∧ (good p = false → e "BadText" (.int 0) hp)
theorem mo_wt : MoF s_wt := fun ps hp e Q Q' i ⟨p, a, b, c, q, r⟩ => ⟨p, a, b, c, fun cs z m => i _ _ (q cs z m), r⟩
theorem o_wt (ps : List PV) (hp : PH) (e : EI) (Q : KI) (h : s_wt ps hp e Q) : wFun 2 (w_word_of_text s_ws) ps hp e Q := by
  obtain ⟨p, rfl, t, lk, q, r⟩ := h
  obtain ⟨T, e1, e2⟩ := t.ty hp
  show w_word_of_text s_ws [some p, none] hp e _
  unfold w_word_of_text
  rw [TS_eq]
  refine ⟨p, rfl, T, _, e1, e2, _, rfl, ?_⟩
  cases p with
  | str s =>
    obtain ⟨l, rfl⟩ := S_ex s
    have ll : l.length ≤ 1000000 := by rw [← slen l]; exact lk
    rw [show (!isStr (.str (S l))) = false from rfl, if_neg (by simp)]
    refine ⟨.str (S l), rfl, _, iter_S l, compW_mapL (fun c => .str (S [c])) (fun c => .bl (decide (c ∈ b7codes))) l [] (fun c m => ⟨_, rfl, fun R r => ?_⟩) (by simp; omega) ?_⟩
    · refine ⟨_, rfl, decide (c ∈ b7codes), .inl ⟨c, S b7codes, rfl, rfl, by simp⟩, r⟩
    · obtain ⟨bs, b1, b2⟩ := all_bools (l := l) fun c => decide (c ∈ b7codes)
      refine ⟨_, _, rfl, ⟨bs, congrArg some b1, rfl⟩, _, rfl, ?_⟩
      rw [b2]
      cases z : l.all fun c => decide (c ∈ b7codes) with
      | false => exact ⟨_, rfl, r z⟩
      | true =>
        have hm : ∀ c ∈ l, c ∈ b7codes := by simpa using z
        refine ⟨⟨_, rfl⟩, .str (S l), rfl, _, iter_S l, compW_mapL (fun c => .str (S [c])) (fun c => .str (S (b7 c))) l [] (fun c m => ⟨_, rfl, fun R r => ?_⟩) (by simp; omega) ?_⟩
        · exact ⟨_, rfl, rfl, c, rfl, hm c m, r⟩
        · have fe : (l.map b7).flatten = enc l := (List.flatMap_def ..).symm
          refine gJoin0 (ys := l.map b7) (by rw [List.map_map]; rfl) ?_ ⟨_, fun _ _ z => z, ?_⟩
          · rw [fe, enc_len]; omega
          · rw [fe]
            exact q l rfl hm
  | _ => exact ⟨_, rfl, r rfl⟩
end K95

set_option Elab.async false
set_option linter.all false
set_option maxRecDepth 100000
set_option maxHeartbeats 1000000
namespace RF
open PySem PySem.Spec L2
theorem brE {A B : Prop} {c : Bool} (k : Bool) (e : c = k) (h1 : k = true → A) (h2 : k = false → B) : if c = true then A else B := by
  subst e
  cases c with
  | true => exact h1 rfl
  | false => exact h2 rfl
theorem gt7 (n : Nat) : decide ((0 : Int) < (n : Int).fmod 7) = decide (n % 7 ≠ 0) := by
  rw [fm7, decide_eq_decide]
  omega
theorem ne7 (n : Nat) : (!((n : Int).fmod 7 == 0)) = decide (n % 7 ≠ 0) := by
  rw [fm7]
  by_cases h : n % 7 = 0
  · rw [h]; rfl
  · rw [decide_eq_true h, Bool.not_eq_true', beq_eq_false_iff_ne]
    omega
abbrev sgn (c : Nat) : PV := .str (S [c])
abbrev ent (c : Nat) : Key × PV := (.inr (S (b7 c)), .str (S [c]))
theorem key_inj {a b : Nat} (ha : a < 128) (hb : b < 128) : ((Sum.inr (S (b7 a)) : Key) = .inr (S (b7 b))) ↔ a = b := by
  constructor
  · intro h
    exact b7_inj ha hb (S_inj (Sum.inr.inj h))
  · rintro rfl; rfl
theorem putP_new {acc : List (Key × PV)} {k : Key} {p : PV} (h : ∀ kv ∈ acc, kv.1 ≠ k) : putP acc k p = acc ++ [(k, p)] := by
  unfold putP
  rw [if_neg]
  intro z
  rw [List.any_eq_true] at z
  obtain ⟨kv, m, e⟩ := z
  exact h kv m (of_decide_eq_true e)
theorem compD_ents {ek : WE} {i : Nat} {σ : SI} {hp : PH} {Q : List (Key × PV) → PH → Prop} (hi : ∀ c ∈ b7codes, ∀ R : KI, R (.str (S (b7 c))) hp → ek (σ.set i (some (sgn c))) hp eNo R) (hl : i < σ.length) :
    ∀ (cs pre : List Nat), (∀ c ∈ pre ++ cs, c ∈ b7codes ∧ c < 128) → (pre ++ cs).Nodup → (pre ++ cs).length ≤ 1000 → Q ((pre ++ cs).map ent) hp → compD (.nm i) wYes ek (wVar i) σ (cs.map sgn) (pre.map ent) hp Q
  | [], pre, _, _, _, q => by simpa [compD] using q
  | c :: cs, pre, hc, nd, len, q => by
    have sl : sizeLine = 16777216 := PySem.sizeLine_eq
    refine ⟨_, rfl, ?_⟩
    simp only [wYes, if_true]
    refine hi c (hc c (by simp)).1 _ ⟨sgn c, List.getElem?_set_self hl, _, rfl, by rw [List.length_append] at len; simp at len ⊢; omega, ?_⟩
    rw [putP_new, show pre.map ent ++ [ent c] = (pre ++ [c]).map ent by simp]
    · refine compD_ents hi hl cs (pre ++ [c]) (by simpa using hc) (by simpa using nd) (by simpa using len) (by simpa using q)
    · intro kv m e
      obtain ⟨x, mx, rfl⟩ := List.mem_map.mp m
      have := (key_inj (hc x (by simp [mx])).2 (hc c (by simp)).2).mp e
      subst this
      rw [List.nodup_append] at nd
      exact nd.2.2 x mx x (by simp) rfl
theorem getP_ents {d : Nat} (hd : d < 128) : ∀ cs : List Nat, (∀ c ∈ cs, c < 128) → getP (cs.map ent) (.inr (S (b7 d))) = if d ∈ cs then some (sgn d) else none
  | [], _ => rfl
  | c :: cs, h => by
    have ih := getP_ents hd cs fun x m => h x (List.mem_cons_of_mem _ m)
    unfold getP at ih ⊢
    rw [List.map_cons, List.find?_cons]
    by_cases e : c = d
    · subst e
      simp
    · have ne : ¬ ((ent c).1 = (.inr (S (b7 d)) : Key)) := fun z => e ((key_inj (h c (by simp)) hd).mp z)
      rw [decide_eq_false ne]
      simp only []
      rw [ih]
      have : (d ∈ c :: cs) ↔ d ∈ cs := by
        simp only [List.mem_cons]
        exact ⟨fun z => z.elim (fun z => absurd z.symm e) id, .inr⟩
      simp [this]
theorem rgC7 (k : Nat) (h : k ≤ 1000000) : RgC 0 ((7 * k : Nat) : Int) 7 k := by
  refine ⟨by decide, by decide, ?_, ?_⟩
  · have fl : ∀ i : Int, 0 ≤ i → i ≤ 100000000 → Builtin.Range.rangeFitsLong i = true := fun i h1 h2 => by
      unfold Builtin.Range.rangeFitsLong
      rw [Bool.and_eq_true]
      exact ⟨decide_eq_true (by omega), decide_eq_true (by omega)⟩
    unfold Builtin.Range.small
    rw [PyProof.Rows.rangeSize_pos (by decide) (by omega), fl 0 (by decide) (by decide), fl _ (by omega) (by omega), fl 7 (by decide) (by decide), fl _ (by omega) (by omega), if_pos (by decide), fl _ (by omega) (by omega)]
    simp
  · rw [PyProof.Rows.rangeSize_pos (by decide) (by omega)]
    omega
/-- what a word of codes tells -/
def twP (cs : List Nat) : PV := if cs.all (fun c => decide (c ∈ b7codes)) = true then .str (S cs) else .non
def twF (c : Nat) : PV := if c ∈ b7codes then sgn c else .non
theorem inP_non : ∀ cs : List Nat, inP .non (cs.map twF) = !cs.all fun c => decide (c ∈ b7codes)
  | [] => rfl
  | c :: cs => by
    have e : inP .non ((c :: cs).map twF) = (eqP (twF c) .non || inP .non (cs.map twF)) := rfl
    rw [e, inP_non cs, List.all_cons]
    by_cases h : c ∈ b7codes
    · have : eqP (twF c) .non = false := by unfold twF; rw [if_pos h]; rfl
      rw [this, decide_eq_true h]; simp
    · have : eqP (twF c) .non = true := by unfold twF; rw [if_neg h]; rfl
      rw [this, decide_eq_false h]; simp
theorem flat_tw (cs : List Nat) : (cs.map twF).all flatP = true := by
  rw [List.all_map, List.all_eq_true]
  intro c _
  show flatP (twF c) = true
  unfold twF
  split <;> rfl
end RF
namespace K95
open PySem PySem.Spec L2 RF
def s_tw : WF := fun ps hp e Q => ∃ p, ps = [p] ∧ Typed p ∧ LenOk p ∧ (wv p = false → e "BadWord" p hp) ∧ (∀ l : List Nat, p = .str (S l) → l.all isB = true → l.length % 7 ≠ 0 → Q .non hp) ∧ (∀ cs, p = .str (S (enc cs)) → (∀ c ∈ cs, c < 128) → Q (twP cs) hp)
theorem mo_tw : MoF s_tw := fun ps hp e Q Q' i ⟨p, a, b, c, d, q, r⟩ => ⟨p, a, b, c, d, fun l x y z => i _ _ (q l x y z), fun l x y => i _ _ (r l x y)⟩
theorem o_tw (ps : List PV) (hp : PH) (e : EI) (Q : KI) (h : s_tw ps hp e Q) : wFun 5 (w_text_of_word s_nw s_ws) ps hp e Q := by
  obtain ⟨p, rfl, t, lk, q1, q2, q3⟩ := h
  show w_text_of_word s_nw s_ws [some p, none, none, none, none] hp e _
  unfold w_text_of_word
  rw [TS_eq]
  refine ⟨p, rfl, rfl, p, rfl, t, lk, fun hw => ?_, q1⟩
  obtain ⟨l, rfl, hb⟩ := wv_ex hw
  have ll : l.length ≤ 1000000 := by rw [← slen l]; exact lk
  refine ⟨.str (S l), rfl, .str (S l), .int l.length, rfl, ⟨l.length, len_S (by omega), rfl⟩, _, _, rfl, rfl, (by decide : (7 : Int) ≠ 0), _, ⟨_, _, rfl, rfl, rfl⟩, ?_⟩
  refine brE (decide (l.length % 7 ≠ 0)) (gt7 _) (fun h7 => ?_) (fun h7 => ?_)
  · exact ⟨_, fun _ _ z => z, q2 l rfl hb (by simpa using h7)⟩
  · have h7 : l.length % 7 = 0 := by simpa using h7
    obtain ⟨cs, hc, hk, rfl⟩ := enc_ex (l.length / 7) l (by omega) hb
    have hn : cs.length ≤ 1000000 := by rw [enc_len] at ll; omega
    refine ⟨_, iter_S b7codes, ?_⟩
    refine compD_ents (i := 3) (pre := []) (fun c m R r => ⟨_, rfl, rfl, c, rfl, m, r⟩) (by simp [wpI]) b7codes (fun c m => ⟨by simpa using m, codes_128 c (by simpa using m)⟩) (by simpa using codes_nd) (by decide) ?_
    refine ⟨_, rfl, ?_⟩
    refine ⟨.str (S (enc cs)), rfl, .str (S (enc cs)), .int (enc cs).length, rfl, ⟨_, len_S (by omega), rfl⟩, 0, _, 7, cs.length, rfl, rfl, rfl, by rw [enc_len]; exact rgC7 _ hn, ?_⟩
    have ei : intsC 0 7 cs.length = (List.range cs.length).map fun (i : Nat) => PV.int (0 + i * 7) := rfl
    rw [ei]
    refine compW_mapL (fun (i : Nat) => PV.int (0 + i * 7)) (fun i => twF (cs.getD i 0)) (List.range cs.length) [] (fun i m => ⟨_, rfl, fun R r => ?_⟩) (by simp; omega) ?_
    · have hi : i < cs.length := List.mem_range.mp m
      have gi : cs[i]? = some (cs.getD i 0) := by simp [List.getD, hi]
      have sl : sizeLine = 16777216 := PySem.sizeLine_eq
      refine ⟨.dct (b7codes.map ent), rfl, ⟨_, rfl⟩, .str (S (enc cs)), rfl, _, rfl, _, rfl, _, rfl, _, rfl, by rw [slen]; omega, b7codes.map ent, _, rfl, rfl, ?_⟩
      have cut : cutP (enc cs) (some (0 + (i : Int) * 7)) (some (0 + (i : Int) * 7 + 7)) = b7 (cs.getD i 0) := by
        rw [← enc_cut cs i _ gi, ← cutP_seg _ _ _ (by rw [enc_len]; omega)]
        congr 2 <;> omega
      rw [cutS_S, cut, getP_ents (hc _ (List.mem_of_getElem? gi)) _ codes_128]
      have : (if cs.getD i 0 ∈ b7codes then some (sgn (cs.getD i 0)) else none).getD .non = twF (cs.getD i 0) := by
        unfold twF
        split <;> rfl
      rw [this]
      exact r
    · have em : (List.range cs.length).map (fun i => twF (cs.getD i 0)) = cs.map twF := by
        apply List.ext_getElem
        · simp
        · intro i h1 h2
          simp at h1
          simp [h1]
      rw [em]
      refine ⟨_, rfl, .lst (cs.map twF), rfl, _, .inr (.inl ⟨cs.map twF, rfl, rfl, flat_tw cs, rfl⟩), ?_⟩
      rw [inP_non]
      have q := q3 cs rfl hc
      unfold twP at q
      cases z : cs.all fun c => decide (c ∈ b7codes) with
      | false =>
        rw [z] at q
        exact ⟨_, fun _ _ z => z, q⟩
      | true =>
        rw [z] at q
        have hm : ∀ c ∈ cs, c ∈ b7codes := by simpa using z
        have e1 : cs.map twF = cs.map fun c => .str (S [c]) := List.map_congr_left fun c m => by unfold twF; rw [if_pos (hm c m)]
        refine ⟨⟨_, rfl⟩, .lst (cs.map twF), rfl, ?_⟩
        refine gJoin0 (ys := cs.map fun c => [c]) (by rw [e1, List.map_map]; rfl) ?_ ⟨_, fun _ _ z => z, ?_⟩
        · rw [flat1]; omega
        · rw [flat1]; exact q
end K95

set_option Elab.async false
set_option linter.all false
set_option maxRecDepth 100000
set_option maxHeartbeats 1000000
namespace RF
open PySem PySem.Spec L2
theorem and1 : ∀ n, n < 128 → Builtin.bitAnd ((n : Nat) : Int) 1 = ((n % 2 : Nat) : Int) := by decide +kernel
theorem b7_drop (n r : Nat) (h : r < 7) : (b7 n).drop r = (if (n / 2 ^ (6 - r)) % 2 = 1 then 49 else 48) :: (b7 n).drop (r + 1) := by
  have hl : r < (b7 n).length := by rw [b7_len]; exact h
  rw [List.drop_eq_getElem_cons hl]
  congr 1
  simp [b7]
theorem str01 (k : Nat) : (Str.ofString (toString (((k % 2 : Nat) : Int)))) = S [if k % 2 = 1 then 49 else 48] := by
  have h : k % 2 = 0 ∨ k % 2 = 1 := by omega
  rcases h with h | h <;> rw [h] <;> decide +kernel
theorem toD_ints (xs : List Int) : toD (.tup (xs.map PV.int)) = some (.tuple (xs.map PyData.int)) := by
  simp [toD, toDs_ints]
end RF
namespace K95
open PySem PySem.Spec L2 RF
def s_bits : WF := fun ps hp e Q => ∃ n : Nat, ps = [.int n] ∧ n < 128 ∧ Q (.str (S (b7 n))) hp
theorem mo_bits : MoF s_bits := fun ps hp e Q Q' i ⟨p, a, b, q⟩ => ⟨p, a, b, i _ _ q⟩
theorem o_bits (ps : List PV) (hp : PH) (e : EI) (Q : KI) (h : s_bits ps hp e Q) : wFun 3 w__law_bits ps hp e Q := by
  obtain ⟨n, rfl, hn, q⟩ := h
  have sl : sizeLine = 16777216 := PySem.sizeLine_eq
  show w__law_bits [some (.int n), none, none] hp e _
  refine ⟨_, rfl, 7, rfl, by decide, by decide, ?_⟩
  refine forW_ind (fun rest σ h => h = hp ∧ rest.length ≤ 7 ∧ ∃ z, σ = [some (.int ((n / 2 ^ (7 - rest.length) : Nat) : Int)), some (.str (S ((b7 n).drop rest.length))), z]) (fun σ h i => ?_) (fun p ps σ h i => ?_) _ _ _ ⟨rfl, by decide, none, ?_⟩
  · obtain ⟨rfl, _, z, rfl⟩ := i
    exact ⟨_, rfl, _, fun _ _ z => z, q⟩
  · obtain ⟨rfl, hl, z, rfl⟩ := i
    rw [List.length_cons] at hl
    refine ⟨_, rfl, fun K hK => ?_⟩
    have lt : n / 2 ^ (7 - (ps.length + 1)) < 128 := Nat.lt_of_le_of_lt (Nat.div_le_self _ _) hn
    have ea : Builtin.bitAnd (((n / 2 ^ (7 - (ps.length + 1)) : Nat)) : Int) 1 = _ := and1 _ lt
    refine ⟨_, rfl, _, _, rfl, rfl, .int (Builtin.bitAnd ((n / 2 ^ (7 - (ps.length + 1)) : Nat) : Int) 1), .str (S [if (n / 2 ^ (7 - (ps.length + 1))) % 2 = 1 then 49 else 48]), rfl, ⟨?_, ?_⟩, .str (S ((b7 n).drop (ps.length + 1))), rfl, ?_, _, rfl, _, 2, rfl, rfl, ?_, rfl, ?_⟩
    · rw [ea, Int.natAbs_natCast]
      have : (n / 2 ^ (7 - (ps.length + 1)) % 2).log2 ≤ 1 := by
        have h : n / 2 ^ (7 - (ps.length + 1)) % 2 = 0 ∨ n / 2 ^ (7 - (ps.length + 1)) % 2 = 1 := by omega
        rcases h with h | h <;> rw [h] <;> decide
      omega
    · rw [ea]
      exact congrArg PV.str (str01 _).symm
    · rw [slen, slen, List.length_drop, b7_len]
      simp
      omega
    · simp (config := { decide := true }) [CDivN]
    · refine hK _ _ ⟨rfl, by omega, some p, ?_⟩
      have e1 : 7 - ps.length = (7 - (ps.length + 1)) + 1 := by omega
      have e2 : n / 2 ^ (7 - ps.length) = n / 2 ^ (7 - (ps.length + 1)) / 2 := by rw [e1, Nat.pow_succ, Nat.div_div_eq_div_mul]
      have e3 : ((n / 2 ^ (7 - (ps.length + 1)) : Nat) : Int).fdiv 2 = ((n / 2 ^ (7 - ps.length) : Nat) : Int) := by
        rw [e2, Int.fdiv_eq_ediv_of_nonneg _ (by decide)]
        omega
      have e4 : (b7 n).drop ps.length = (if (n / 2 ^ (7 - (ps.length + 1))) % 2 = 1 then 49 else 48) :: (b7 n).drop (ps.length + 1) := by
        rw [b7_drop n _ (by omega), show 6 - ps.length = 7 - (ps.length + 1) by omega]
      show [some (PV.int (Int.fdiv ((n / 2 ^ (7 - (ps.length + 1)) : Nat) : Int) 2)), some (PV.str (S [_] ++ S _)), some p] = _
      rw [e3, SX.S_cat, e4]
      rfl
  · show [some (PV.int n), some (PV.str (Str.ofString "")), none] = [some (PV.int ((n / 2 ^ 0 : Nat) : Int)), some (PV.str (S ((b7 n).drop 7))), none]
    rw [List.drop_of_length_le (by rw [b7_len]; omega), Nat.pow_zero, Nat.div_one]
    rfl
def s_wo : WF := fun ps hp e Q => ∃ cs : List Nat, ps = [.str (S cs)] ∧ (∀ c ∈ cs, c < 128) ∧ cs.length ≤ 1000000 ∧ Q (.str (S (enc cs))) hp
theorem mo_wo : MoF s_wo := fun ps hp e Q Q' i ⟨p, a, b, c, q⟩ => ⟨p, a, b, c, i _ _ q⟩
theorem fe (l : List Nat) : (l.map b7).flatten = enc l := (List.flatMap_def ..).symm
theorem o_wo (ps : List PV) (hp : PH) (e : EI) (Q : KI) (h : s_wo ps hp e Q) : wFun 2 (w__law_word_of s_bits) ps hp e Q := by
  obtain ⟨cs, rfl, hc, ln, q⟩ := h
  show w__law_word_of s_bits [some (.str (S cs)), none] hp e _
  refine ⟨⟨_, rfl⟩, .str (S cs), rfl, _, iter_S cs, compW_mapL (fun c => .str (S [c])) (fun c => .str (S (b7 c))) cs [] (fun c m => ⟨_, rfl, fun R r => ?_⟩) (by simp; omega) ?_⟩
  · exact ⟨_, rfl, _, _, rfl, ⟨S [c], rfl, rfl, rfl⟩, rfl, c, rfl, hc c m, r⟩
  · refine gJoin0 (ys := cs.map b7) (by rw [List.map_map]; rfl) ?_ ⟨_, fun _ _ z => z, ?_⟩
    · rw [fe, enc_len]; omega
    · rw [fe]
      exact q
/-- the signs in the order of the law -/
def sg : List Nat := (List.range 26).map (· + 97) ++ (List.range 26).map (· + 65) ++ (List.range 10).map (· + 48) ++ [10] ++ [32, 33, 34, 35, 36, 38, 39, 40, 41, 42, 43, 44, 45, 46, 47, 58, 59, 60, 61, 62, 63, 64, 91, 92, 93, 94, 95] ++ [123, 124, 125, 126] ++ [96]
theorem sg_mem (c : Nat) : c ∈ sg ↔ c ∈ b7codes := by
  have h1 : ∀ c ∈ sg, c ∈ b7codes := by decide +kernel
  have h2 : ∀ c ∈ b7codes, c ∈ sg := by decide +kernel
  exact ⟨h1 c, h2 c⟩
def s_sg : WF := fun ps hp e Q => ps = [] ∧ Q (.str (S sg)) hp
theorem mo_sg : MoF s_sg := fun ps hp e Q Q' i ⟨p, q⟩ => ⟨p, i _ _ q⟩
theorem o_sg (ps : List PV) (hp : PH) (e : EI) (Q : KI) (h : s_sg ps hp e Q) : wFun 0 w__law_signs ps hp e Q := by
  obtain ⟨rfl, q⟩ := h
  have sl : sizeLine = 16777216 := PySem.sizeLine_eq
  show w__law_signs [] hp e _
  unfold w__law_signs
  rw [show (("abcdefghijklmnopqrstuvwxyz" : Str)) = S ((List.range 26).map (· + 97)) by decide +kernel, show (("ABCDEFGHIJKLMNOPQRSTUVWXYZ" : Str)) = S ((List.range 26).map (· + 65)) by decide +kernel, show (("0123456789" : Str)) = S ((List.range 10).map (· + 48)) by decide +kernel,
    show (("\n" : Str)) = S [10] by decide +kernel, show ((" !\"#$&'()*+,-./:;<=>?\x40[\\]^_" : Str)) = S [32, 33, 34, 35, 36, 38, 39, 40, 41, 42, 43, 44, 45, 46, 47, 58, 59, 60, 61, 62, 63, 64, 91, 92, 93, 94, 95] by decide +kernel,
    show (("{|}~" : Str)) = S [123, 124, 125, 126] by decide +kernel, show (("`" : Str)) = S [96] by decide +kernel]
  have add : ∀ (a b : WE) (x y : List Nat) (σ : SI) (R : KI), (∀ R : KI, R (.str (S x)) hp → a σ hp e R) → (∀ R : KI, R (.str (S y)) hp → b σ hp e R) → x.length + y.length ≤ 1000 → R (.str (S (x ++ y))) hp → wOp gAdd a b σ hp e R := by
    intro a b x y σ R ha hb l r
    refine ha _ (hb _ ⟨by rw [slen, slen]; omega, ?_⟩)
    rw [SX.S_cat]
    exact r
  have cc : ∀ (x : List Nat) (σ : SI) (R : KI), R (.str (S x)) hp → wC (.str (S x)) σ hp e R := fun _ _ _ r => r
  refine add _ _ _ _ _ _ (fun R r => add _ _ _ _ _ _ (fun R r => add _ _ _ _ _ _ (fun R r => add _ _ _ _ _ _ (fun R r => add _ _ _ _ _ _ (fun R r => add _ _ _ _ _ _ (cc _ _) (cc _ _) (by decide) r) (cc _ _) (by decide) r) (cc _ _) (by decide) r) (cc _ _) (by decide) r) (cc _ _) (by decide) r) (cc _ _) (by decide) ⟨_, fun _ _ z => z, q⟩

def s_co : WF := fun ps hp e Q => ∃ l : List Nat, ps = [.str (S l)] ∧ l.all isB = true ∧ l.length ≤ 100000 ∧ (l.length % 7 ≠ 0 → Q .non hp) ∧ ∀ cs : List Nat, l = enc cs → (∀ c ∈ cs, c < 128) → Q (.lst (cs.map fun (c : Nat) => .int c)) hp
theorem mo_co : MoF s_co := fun ps hp e Q Q' i ⟨p, a, b, c, q, r⟩ => ⟨p, a, b, c, fun z => i _ _ (q z), fun cs x y => i _ _ (r cs x y)⟩
theorem int_of (c : Nat) (h : isB c = true) : PySem.intText? (S [c]) = some (((c - 48 : Nat)) : Int) := by
  rcases isB_iff.mp h with rfl | rfl <;> decide +kernel
theorem v7_snoc (a : List Nat) (c : Nat) : v7 (a ++ [c]) = 2 * v7 a + (c - 48) := by simp [v7]
theorem o_co (ps : List PV) (hp : PH) (e : EI) (Q : KI) (h : s_co ps hp e Q) : wFun 5 w__law_codes ps hp e Q := by
  obtain ⟨l, rfl, hb, ll, q1, q2⟩ := h
  have sl : sizeLine = 16777216 := PySem.sizeLine_eq
  show w__law_codes [some (.str (S l)), none, none, none, none] hp e _
  refine ⟨.str (S l), rfl, .str (S l), .int l.length, rfl, ⟨l.length, len_S (by omega), rfl⟩, .int l.length, .int l.length, rfl, rfl, _, _, rfl, rfl, (by decide : (7 : Int) ≠ 0), _, ⟨_, _, rfl, rfl, rfl, rfl, rfl⟩, ?_⟩
  refine brE (decide (l.length % 7 ≠ 0)) (ne7 _) (fun h7 => ?_) (fun h7 => ?_)
  · exact ⟨_, fun _ _ z => z, q1 (by simpa using h7)⟩
  · have h7 : l.length % 7 = 0 := by simpa using h7
    obtain ⟨cs, hc, hk, rfl⟩ := enc_ex (l.length / 7) l (by omega) hb
    have hn : cs.length ≤ 100000 := by rw [enc_len] at ll; omega
    have el : (enc cs).length = 7 * cs.length := enc_len cs
    refine ⟨by simp, fun m hm => ⟨_, rfl, ?_⟩⟩
    have en : (((enc cs).length : Nat) : Int).fdiv 7 = (cs.length : Int) := by
      rw [Int.fdiv_eq_ediv_of_nonneg _ (by decide), el]
      omega
    refine ⟨.str (S (enc cs)), rfl, .str (S (enc cs)), .int (enc cs).length, rfl, ⟨_, len_S (by omega), rfl⟩, _, _, rfl, rfl, by simp (config := { decide := true }) [CDivN], (cs.length : Int), congrArg PV.int en, by omega, by omega, ?_⟩
    rw [Int.toNat_natCast]
    refine forW_ind (fun rest σ h => ∃ (i : Nat) (z1 z2 z3 : Option PV), i ≤ cs.length ∧ rest = ((List.range cs.length).drop i).map (fun (i : Nat) => PV.int (0 + i)) ∧ h = put hp m (.lst ((cs.take i).map fun (c : Nat) => .int c)) ∧ σ = [some (.str (S (enc cs))), some (.loc m), z1, z2, z3]) (fun σ h i => ?_) (fun p ps σ h i => ?_) _ _ _ ⟨0, none, none, none, by omega, rfl, rfl, rfl⟩
    · obtain ⟨i, z1, z2, z3, hi, er, rfl, rfl⟩ := i
      have ei : i = cs.length := by
        have := congrArg List.length er
        simp at this
        omega
      refine ⟨_, rfl, m, _, rfl, put_same, _, fun _ _ z => z, ?_⟩
      rw [drp_put hm, ei, List.take_length]
      exact q2 cs rfl hc
    · obtain ⟨i, z1, z2, z3, hi, er, rfl, rfl⟩ := i
      have li : i < cs.length := by
        have := congrArg List.length er
        simp at this
        omega
      rw [List.drop_eq_getElem_cons (by simpa using li), List.map_cons, List.getElem_range] at er
      obtain ⟨e1, e2⟩ := List.cons.inj er
      subst e1
      have gi : cs[i]? = some cs[i] := List.getElem?_eq_getElem li
      have hlt : cs[i] < 128 := hc _ (List.getElem_mem li)
      refine ⟨_, rfl, fun K hK => ?_⟩
      refine ⟨_, rfl, .str (S (enc cs)), rfl, .int (0 + i), rfl, _, _, rfl, rfl, .inl (by decide), _, rfl, .int (0 + i), rfl, _, _, rfl, rfl, .inl (by decide), _, rfl, by rw [slen]; omega, ?_⟩
      have cut : cutP (enc cs) (some (7 * (0 + (i : Int)))) (some (7 * (0 + (i : Int)) + 7)) = b7 cs[i] := by
        rw [← enc_cut cs i _ gi, ← cutP_seg _ _ _ (by rw [enc_len]; omega)]
        congr 2 <;> omega
      rw [cutS_S, cut]
      refine ⟨_, iter_S _, ?_⟩
      refine forW_ind (fun rest σ h => ∃ (dn td : List Nat) (z : Option PV), dn ++ td = b7 cs[i] ∧ rest = td.map sgn ∧ h = put hp m (.lst ((cs.take i).map fun (c : Nat) => .int c)) ∧ σ = [some (.str (S (enc cs))), some (.loc m), some (.int (0 + i)), some (.int ((v7 dn : Nat) : Int)), z]) (fun σ h j => ?_) (fun p ps σ h j => ?_) _ _ _ ⟨[], b7 cs[i], z3, rfl, rfl, rfl, rfl⟩
      · obtain ⟨dn, td, z, e3, e4, rfl, rfl⟩ := j
        have : td = [] := by
          cases td with
          | nil => rfl
          | cons a b => cases e4
        subst this
        rw [List.append_nil] at e3
        subst e3
        refine ⟨.loc m, rfl, ⟨(cs.take i).map fun (c : Nat) => .int c, by simp [asL, put_same]⟩, _, rfl, m, _, _, rfl, rfl, put_same, by simp; omega, ?_⟩
        rw [put_put]
        refine hK _ _ ⟨i + 1, _, _, _, li, e2, ?_, rfl⟩
        have t : cs.take (i + 1) = cs.take i ++ [cs[i]] := by rw [List.take_succ, gi]; rfl
        rw [v7_b7 _ hlt, t, List.map_append]
        rfl
      · obtain ⟨dn, td, z, e3, e4, rfl, rfl⟩ := j
        cases td with
        | nil => cases e4
        | cons x td =>
          obtain ⟨e5, e6⟩ := List.cons.inj e4
          subst e5
          have hx : isB x = true := by
            have := b7_isB cs[i]
            rw [← e3, List.all_append, List.all_cons] at this
            simp only [Bool.and_eq_true] at this
            exact this.2.1
          refine ⟨_, rfl, fun K2 hK2 => ?_⟩
          refine ⟨_, rfl, _, _, rfl, rfl, .inl (by decide), sgn x, rfl, sgn x, .int ((x - 48 : Nat) : Int), rfl, ⟨_, int_of x hx, by rw [slen]; simp, rfl⟩, _, rfl, ?_⟩
          refine hK2 _ _ ⟨dn ++ [x], td, some (sgn x), by rw [← e3]; simp, e6, rfl, ?_⟩
          rw [v7_snoc]
          simp
end K95

set_option Elab.async false
set_option linter.all false
set_option maxRecDepth 100000
set_option maxHeartbeats 1000000
namespace RF
open PySem PySem.Spec L2
def nI (cs : List Nat) : List PV := cs.map fun (c : Nat) => .int c
theorem nI_eq (cs : List Nat) : nI cs = (cs.map fun (c : Nat) => (c : Int)).map PV.int := by rw [List.map_map]; rfl
theorem flat_nI (cs : List Nat) : (nI cs).all flatP = true := by rw [nI_eq]; exact ints_flat _
theorem inP_nI (c : Nat) (cs : List Nat) : inP (.int c) (nI cs) = decide (c ∈ cs) := by
  rw [nI_eq, inP_int, decide_eq_decide, List.mem_map]
  constructor
  · rintro ⟨a, m, e⟩
    have : a = c := by omega
    exact this ▸ m
  · exact fun m => ⟨c, m, rfl⟩
def nD (cs : List Nat) : PyData := .list ((cs.map fun (c : Nat) => (c : Int)).map PyData.int)
theorem toDh_nI {hp : PH} (cs : List Nat) : toDh hp (.lst (nI cs)) = some (nD cs) := by
  show (toDs (nI cs)).map PyData.list = _
  rw [nI_eq, toDs_ints]
  rfl
theorem shaped_nD (cs : List Nat) : SeqAt.shaped (nD cs) = true := shaped_ints _
theorem eqv_nD (cs : List Nat) : PyData.eqv (nD cs) (nD cs) = true := by
  show PyData.eqvAll _ _ = true
  exact eqvAll_self _
theorem enc_inj : ∀ {a b : List Nat}, (∀ c ∈ a, c < 128) → (∀ c ∈ b, c < 128) → enc a = enc b → a = b
  | [], [], _, _, _ => rfl
  | [], c :: b, _, _, e => by
    have := congrArg List.length e
    rw [enc_len, enc_len] at this
    simp at this
  | c :: a, [], _, _, e => by
    have := congrArg List.length e
    rw [enc_len, enc_len] at this
    simp at this
  | c :: a, d :: b, ha, hb, e => by
    have e : b7 c ++ enc a = b7 d ++ enc b := e
    obtain ⟨e1, e2⟩ := List.append_inj e (by rw [b7_len, b7_len])
    rw [b7_inj (ha c (by simp)) (hb d (by simp)) e1, enc_inj (fun x m => ha x (List.mem_cons_of_mem _ m)) (fun x m => hb x (List.mem_cons_of_mem _ m)) e2]
theorem isB_128 {l : List Nat} (h : l.all isB = true) : ∀ c ∈ l, c < 128 := fun c m => by
  rw [List.all_eq_true] at h
  rcases isB_iff.mp (h c m) with rfl | rfl <;> decide
theorem lenOk_S {l : List Nat} (h : l.length ≤ 1000000) : LenOk (.str (S l)) := by
  show (S l).length ≤ 1000000
  rw [slen]
  exact h
theorem same_at {l : List Nat} {hp : PH} {e : EI} {Q : KI} (h : ∀ c ∈ l, c < 128) (n : l.length ≤ 1000000) (q : Q (.bl true) hp) : sSame [.str (S l), .str (S l)] hp e Q :=
  ⟨_, _, rfl, toDr_str, shown_str l (fun c m => Nat.lt_trans (h c m) (by decide)) n, by simp only [PyData.shown]; exact repr_ok l h, q⟩
theorem twP_all {cs : List Nat} (h : ∀ c ∈ cs, c ∈ b7codes) : twP cs = .str (S cs) := by
  unfold twP
  rw [if_pos]
  simpa using h
end RF
namespace K95
open PySem PySem.Spec L2 RF
theorem tw_enc {cs : List Nat} {hp : PH} {e : EI} {Q : KI} (hc : ∀ c ∈ cs, c < 128) (n : cs.length ≤ 100000) (q : Q (twP cs) hp) : s_tw [.str (S (enc cs))] hp e Q := by
  refine ⟨_, rfl, typed_str _, lenOk_S (by rw [enc_len]; omega), fun z => ?_, fun l el _ h7 => ?_, fun ds ed hd => ?_⟩
  · rw [show wv (.str (S (enc cs))) = (enc cs).all isB from rfl, enc_isB] at z
    cases z
  · rw [← S_inj (PV.str.inj el), enc_len] at h7
    omega
  · rw [← enc_inj hc hd (S_inj (PV.str.inj ed))]
    exact q
theorem wt_ok {cs : List Nat} {hp : PH} {e : EI} {Q : KI} (hm : ∀ c ∈ cs, c ∈ b7codes) (n : cs.length ≤ 100000) (q : Q (.str (S (enc cs))) hp) : s_wt [.str (S cs)] hp e Q := by
  refine ⟨_, rfl, typed_str _, lenOk_S (by omega), fun ds ed _ => ?_, fun g => ?_⟩
  · rw [← S_inj (PV.str.inj ed)]
    exact q
  · have : good (.str (S cs)) = true := by
      show cs.all _ = true
      simpa using hm
    rw [this] at g
    cases g
def s_told : WF := fun ps hp e Q => ∃ l : List Nat, ps = [.str (S l)] ∧ l.all isB = true ∧ l.length ≤ 10000 ∧ Q (.bl true) hp
theorem mo_told : MoF s_told := fun ps hp e Q Q' i ⟨p, a, b, c, q⟩ => ⟨p, a, b, c, i _ _ q⟩
theorem o_told (ps : List PV) (hp : PH) (e : EI) (Q : KI) (h : s_told ps hp e Q) : wFun 7 (w__law_is_told s_wt s_tw sSame s_sg s_co) ps hp e Q := by
  obtain ⟨l, rfl, hb, ll, q⟩ := h
  have sl : sizeLine = 16777216 := PySem.sizeLine_eq
  show w__law_is_told s_wt s_tw sSame s_sg s_co [some (.str (S l)), none, none, none, none, none, none] hp e _
  have known : ∀ (σ : SI) (R : List PV → PH → Prop), σ.length = 7 → R (nI sg) hp → compW (.nm 5) wYes (wFn gOrd (wCons (wVar 5) wNil)) σ (sg.map sgn) [] hp R := fun σ R hl r =>
    compW_mapL sgn (fun (c : Nat) => .int c) sg [] (fun c m => ⟨_, rfl, fun R r => ⟨sgn c, List.getElem?_set_self (by omega), sgn c, _, rfl, ⟨S [c], rfl, rfl, rfl⟩, r⟩⟩) (by decide) r
  refine ⟨_, rfl, rfl, l, rfl, hb, by omega, fun h7 => ?_, fun cs el hc => ?_⟩
  · refine ⟨rfl, _, iter_S sg, known _ _ rfl ⟨(by rw [sl]; decide : 2 ≤ sizeLine), _, rfl, ?_⟩⟩
    refine ⟨.non, rfl, false, ⟨rfl, rfl⟩, by simp, _, rfl, ?_⟩
    refine ⟨_, rfl, rfl, .str (S l), rfl, typed_str _, lenOk_S (by omega), fun z => ?_, fun l2 e2 _ _ => ?_, fun ds ed _ => ?_⟩
    · rw [show wv (.str (S l)) = l.all isB from rfl, hb] at z
      cases z
    · refine ⟨_, rfl, .non, rfl, true, ⟨rfl, rfl⟩, ?_⟩
      exact ⟨.non, rfl, true, ⟨rfl, rfl⟩, _, fun _ _ z => z, q⟩
    · rw [S_inj (PV.str.inj ed), enc_len] at h7
      omega
  · subst el
    have hn : cs.length ≤ 10000 := by rw [enc_len] at ll; omega
    refine ⟨rfl, _, iter_S sg, known _ _ rfl ⟨(by rw [sl]; decide : 2 ≤ sizeLine), _, rfl, ?_⟩⟩
    refine ⟨.lst (nI cs), rfl, true, ⟨rfl, rfl⟩, ?_⟩
    refine ⟨.lst (nI cs), rfl, nI cs, rfl, ?_⟩
    refine compW_filterL (fun c => !decide (c ∈ b7codes)) (fun (c : Nat) => .int c) (fun (c : Nat) => .int c) cs [] (fun c m => ⟨_, rfl, fun R r => ?_, fun R r => ⟨_, rfl, r⟩⟩) (by simp; omega) ?_
    · refine ⟨_, rfl, .lst (nI sg), rfl, _, .inr (.inl ⟨nI sg, rfl, rfl, flat_nI sg, rfl⟩), ?_⟩
      rw [inP_nI, decide_eq_decide.mpr (sg_mem c), Bool.true_bne]
      exact r
    · refine ⟨_, rfl, _, rfl, rfl, tw_enc hc (by omega) ⟨_, rfl, ?_⟩⟩
      refine ⟨.lst (nI cs), rfl, false, ⟨rfl, rfl⟩, ?_⟩
      refine ⟨.lst (nI (cs.filter fun c => !decide (c ∈ b7codes))), rfl, by simp, !(cs.filter fun c => !decide (c ∈ b7codes)).isEmpty, ⟨nD _, .list [], toDh_nI _, rfl, shaped_nD _, by decide +kernel, by unfold nD; rw [eqv_nil]; simp⟩, ?_⟩
      cases z : cs.all fun c => decide (c ∈ b7codes) with
      | false =>
        have e1 : (cs.filter fun c => !decide (c ∈ b7codes)).isEmpty = false := by
          rw [List.all_eq_false] at z
          obtain ⟨x, m, h⟩ := z
          rw [List.isEmpty_eq_false_iff_exists_mem]
          exact ⟨x, List.mem_filter.mpr ⟨m, by simpa using h⟩⟩
        refine brE true (by rw [e1]; rfl) (fun _ => ?_) (fun z => by cases z)
        refine ⟨twP cs, rfl, true, ⟨rfl, ?_⟩, _, fun _ _ z => z, q⟩
        unfold twP
        rw [z]
        rfl
      | true =>
        have hm : ∀ c ∈ cs, c ∈ b7codes := by simpa using z
        have e1 : (cs.filter fun c => !decide (c ∈ b7codes)).isEmpty = true := by
          rw [List.isEmpty_iff, List.filter_eq_nil_iff]
          intro x m
          simp [hm x m]
        refine brE false (by rw [e1]; rfl) (fun z => by cases z) (fun _ => ?_)
        rw [twP_all hm]
        refine ⟨.str (S cs), rfl, "str", true, rfl, by decide +kernel, true, rfl, ?_⟩
        refine ⟨.str (S cs), rfl, _, iter_S cs, compW_mapL sgn (fun (c : Nat) => .int c) cs [] (fun c m => ⟨_, rfl, fun R r => ⟨sgn c, rfl, sgn c, _, rfl, ⟨S [c], rfl, rfl, rfl⟩, r⟩⟩) (by simp; omega) ?_⟩
        refine ⟨.lst (nI cs), rfl, false, ⟨nD cs, nD cs, toDh_nI cs, toDh_nI cs, shaped_nD cs, shaped_nD cs, by rw [eqv_nD]; rfl⟩, ?_⟩
        refine ⟨.str (S cs), rfl, rfl, wt_ok hm (by omega) ⟨_, rfl, rfl, same_at (isB_128 (enc_isB cs)) (by rw [enc_len]; omega) ⟨_, fun _ _ z => z, q⟩⟩⟩
end K95

set_option Elab.async false
set_option linter.all false
set_option maxRecDepth 100000
set_option maxHeartbeats 1000000
/-! k95: the law's body in parts. -/
namespace K95
open PySem PySem.Spec L2 RF
def a0 : WS := (wAsg (.nm 4) (wOp gAdd (wCall sPick (wArgs 2 (wCons (wVar 1) (wCons (wLst (wCons (wC (.int 7)) (wCons (wC (.int 1)) (wCons (wC (.int 20)) (wCons (wC (.int 0)) (wCons (wC (.int 3)) (wCons (wC (.int 60)) (wCons (wC (.int 199)) wNil)))))))) wNil)))) (wCall sDraw (wArgs 2 (wCons (wVar 1) (wCons (wC (.int 2)) wNil))))))
def a1 : WS := (wAsg (.nm 5) (wMt isS gJoin (wC (.str "")) (wCons (wLc (.nm 12) [12] (wRg1 (wVar 4)) wYes (wCall sPick (wArgs 2 (wCons (wVar 1) (wCons (wVar 2) wNil))))) wNil)))
def a2 : WS := (wAsg (.nm 6) (wCall s_wo (wArgs 1 (wCons (wVar 5) wNil))))
def a3 : WS := (wAsg (.nm 7) (wIfE (wCmpT cLt (wVar 3) (wC (.int 2))) (wCall s_wt (wArgs 1 (wCons (wVar 5) wNil))) (wCallK s_wt 1 [0] (wCons (wVar 5) wNil))))
def a4 : WS := (wIf (wOrT (wNotT (wTru (wCall sSame (wArgs 2 (wCons (wVar 7) (wCons (wVar 6) wNil)))))) (wNotT (wTru (wCall sSame (wArgs 2 (wCons (wCall s_tw (wArgs 1 (wCons (wVar 6) wNil))) (wCons (wVar 5) wNil))))))) (wRet (wC (.bl false))) wPass)
def a5 : WS := (wPar [8, 9] (wCons (wCall sDraw (wArgs 2 (wCons (wVar 1) (wCons (wOp gAdd (wFn gLen (wCons (wVar 5) wNil)) (wC (.int 1))) wNil)))) (wCons (wCall s_bits (wArgs 1 (wCons (wCall sDraw (wArgs 2 (wCons (wVar 1) (wCons (wC (.int 128)) wNil)))) wNil))) wNil)))
def a6 : WS := (wAsg (.nm 10) (wOp gAdd (wOp gAdd (wSl (wSl (wVar 5) wNoO (wSmO (wVar 8))) wNoO (wSmO (wC (.int 199)))) (wC (.str "\t"))) (wSl (wVar 5) (wSmO (wVar 8)) (wSmO (wC (.int 199))))))
def a7 : WS := (wIf (wCmpT cNe (wLam (wCall s_wt (wArgs 1 (wCons (wVar 10) wNil))) bt__law_tried) (wTup (wCons (wC (.str "raised")) (wCons (wC (.str "text")) (wCons (wC (.bl false)) (wCons (wC (.str "0")) wNil)))))) (wRet (wC (.bl false))) wPass)
def a8 : WS := (wAsg (.nm 11) (wOp gAdd (wOp gAdd (wSl (wVar 6) wNoO (wSmO (wOp gMul (wC (.int 7)) (wVar 8)))) (wVar 9)) (wSl (wVar 6) (wSmO (wOp gAdd (wOp gMul (wC (.int 7)) (wVar 8)) (wC (.int 7)))) wNoO)))
def a9 : WS := (wPar [12, 13] (wCons (wCall sDraw (wArgs 2 (wCons (wVar 1) (wCons (wOp gAdd (wFn gLen (wCons (wVar 6) wNil)) (wC (.int 1))) wNil)))) (wCons (wCall sDraw (wArgs 2 (wCons (wVar 1) (wCons (wC (.int 7)) wNil)))) wNil)))
def a10 : WS := (wFor (.nm 14) (wIt (wTup (wCons (wVar 11) (wCons (wOp gAdd (wSl (wVar 6) wNoO (wSmO (wVar 12))) (wSl (wVar 6) (wSmO (wOp gAdd (wVar 12) (wVar 13))) wNoO)) (wCons (wOp gAdd (wOp gAdd (wSl (wVar 6) wNoO (wSmO (wVar 12))) (wSl (wC (.str "0101101")) wNoO (wSmO (wVar 13)))) (wSl (wVar 6) (wSmO (wVar 12)) (wSmO (wOp gAdd (wVar 12) (wC (.int 100)))))) wNil))))) (wIf (wAndT (wCmpT cLe (wFn gLen (wCons (wVar 14) wNil)) (wC (.int 1400))) (wNotT (wTru (wCall s_told (wArgs 1 (wCons (wVar 14) wNil)))))) (wRet (wC (.bl false))) wPass))
def lb1 : WS := (wSeq a0 (wSeq a1 (wSeq a2 (wSeq a3 (wSeq a4 (wSeq a5 (wSeq a6 (wSeq a7 (wSeq a8 (wSeq a9 a10))))))))))
def d0 : WS := (wAsg (.nm 14) (wCall sPick (wArgs 2 (wCons (wVar 1) (wCons (wLst (wCons (wC .non) (wCons (wC (.int 0)) (wCons (wUn gNeg (wC (.int 1))) (wCons (wC (.bl true)) (wCons (wC (.bl false)) (wCons (wTup wNil) (wCons (wTup (wCons (wC (.str "a")) wNil)) (wCons (wLst (wCons (wC (.str "a")) wNil)) (wCons wDct0 (wCons (wDct [((wC (.str "a")), (wC (.int 1)))]) (wCons (wOp gPow (wC (.int 10)) (wC (.int 39))) (wCons (wTup (wCons (wC (.str "0")) (wCons (wC (.str "1")) wNil))) (wCons (wLst wNil) (wCons (wC (.int 7)) wNil))))))))))))))) wNil)))))
def d1 : WS := (wIf (wCmpT cNe (wLam (wCall s_wt (wArgs 1 (wCons (wVar 14) wNil))) bt__law_tried) (wTup (wCons (wC (.str "raised")) (wCons (wC (.str "text")) (wCons (wC (.bl false)) (wCons (wC (.str "0")) wNil)))))) (wRet (wC (.bl false))) wPass)
def d2 : WS := (wAsg (.nm 14) (wCall sPick (wArgs 2 (wCons (wVar 1) (wCons (wLst (wCons (wVar 14) (wCons (wC (.str "2")) (wCons (wC (.str "01a0110")) (wCons (wC (.str "0 1")) (wCons (wC (.str "O")) (wCons (wC (.str "0\n")) (wCons (wC (.str " ")) (wCons (wC (.str "l")) (wCons (wC (.str "1000001 ")) (wCons (wC (.str "a0")) (wCons (wC (.str "-1")) wNil)))))))))))) wNil)))))
def d3 : WS := (wIf (wCmpT cNe (wLam (wCall s_tw (wArgs 1 (wCons (wVar 14) wNil))) bt__law_tried) (wTup (wCons (wC (.str "raised")) (wCons (wC (.str "word")) (wCons (wFn gRepr (wCons (wVar 14) wNil)) wNil))))) (wRet (wC (.bl false))) wPass)
def lb2 : WS := (wSeq d0 (wSeq d1 (wSeq d2 d3)))
def t0 (C : Cfg) : WS := (wAsg (.tp [1, 2]) (wTup (wCons (wCall (sDeck C) (wArgs 1 (wCons (wVar 0) wNil))) (wCons (wCall s_sg wNil) wNil))))
def t1 : WS := (wFor (.nm 3) (wRg1 (wC (.int 3))) lb1)
def t2 : WS := (wAsg (.nm 15) (wOp gAdd (wLc (.nm 17) [17] (wIt (wVar 2)) wYes (wFn gOrd (wCons (wVar 17) wNil))) (wOp gRep (wLstM (wCons (wC (.int 0)) (wCons (wC (.int 9)) (wCons (wC (.int 31)) (wCons (wC (.int 127)) (wCons (wC (.int 37)) (wCons (wC (.int 37)) wNil))))))) (wC (.int 6)))))
def t3 : WS := (wAsg (.nm 16) (wMt isS gJoin (wC (.str "")) (wCons (wLc (.nm 12) [12] (wRg1 (wCall sPick (wArgs 2 (wCons (wVar 1) (wCons (wLst (wCons (wC (.int 2)) (wCons (wC (.int 1)) (wCons (wC (.int 4)) (wCons (wC (.int 9)) wNil))))) wNil))))) wYes (wCall s_bits (wArgs 1 (wCons (wCall sPick (wArgs 2 (wCons (wVar 1) (wCons (wVar 15) wNil)))) wNil)))) wNil)))
def t4 : WS := (wIf (wOrT (wNotT (wTru (wCall s_told (wArgs 1 (wCons (wVar 16) wNil))))) (wNotT (wTru (wCall sSame (wArgs 2 (wCons (wCallK s_tw 1 [0] (wCons (wVar 16) wNil)) (wCons (wCall s_tw (wArgs 1 (wCons (wVar 16) wNil))) wNil))))))) (wRet (wC (.bl false))) wPass)
def t5 : WS := (wFor (.nm 3) (wRg1 (wC (.int 4))) lb2)
def t6 : WS := (wRet (wC (.bl true)))
def lw (C : Cfg) : WS := (wSeq (t0 C) (wSeq t1 (wSeq t2 (wSeq t3 (wSeq t4 (wSeq t5 t6))))))
theorem lw_eq (C : Cfg) : w_law s_wt s_tw (sDeck C) sDraw sPick sSame s_bits s_wo s_sg s_told = lw C := rfl
end K95

set_option Elab.async false
set_option linter.all false
set_option maxRecDepth 100000
set_option maxHeartbeats 1000000
namespace K95
open PySem PySem.Spec L2 RF
abbrev st (a : Addr) (d : Nat) (z3 z4 z5 z6 z7 z8 z9 z10 z11 z12 z13 z14 z15 z16 z17 : Option PV) : SI := [some (.ref a), some (.loc d), some (.str (S sg)), z3, z4, z5, z6, z7, z8, z9, z10, z11, z12, z13, z14, z15, z16, z17]
theorem sg_len : (signs (S sg)).length = 95 := by decide +kernel
section
variable {D : DI} {a : Addr} {d l : Nat} {z3 z4 z5 z6 z7 z8 z9 z10 z11 z12 z13 z14 z15 z16 z17 : Option PV} {hp : PH} {e : EI}
theorem a0_ok (hd : Deck d l hp) (q : ∀ (m : Nat) hp', m ≤ 200 → Deck d l hp' → D.nx (st a d z3 (some (.int m)) z5 z6 z7 z8 z9 z10 z11 z12 z13 z14 z15 z16 z17) hp') : a0 (st a d z3 z4 z5 z6 z7 z8 z9 z10 z11 z12 z13 z14 z15 z16 z17) hp e D := by
  have sl : sizeLine = 16777216 := PySem.sizeLine_eq
  refine ⟨.loc d, rfl, (by rw [sl]; decide : 7 ≤ sizeLine), rfl, d, l, _, _, rfl, rfl, (by decide : 0 < 7), (by decide : 7 < 1000000), hd, fun z hp1 hz hd1 _ => ?_⟩
  obtain ⟨k, rfl, hk⟩ : ∃ k : Nat, z = .int k ∧ k ≤ 199 := by
    simp only [List.mem_cons, List.not_mem_nil, or_false] at hz
    rcases hz with rfl | rfl | rfl | rfl | rfl | rfl | rfl
    · exact ⟨7, rfl, by decide⟩
    · exact ⟨1, rfl, by decide⟩
    · exact ⟨20, rfl, by decide⟩
    · exact ⟨0, rfl, by decide⟩
    · exact ⟨3, rfl, by decide⟩
    · exact ⟨60, rfl, by decide⟩
    · exact ⟨199, rfl, by decide⟩
  refine ⟨.loc d, rfl, rfl, d, l, 2, rfl, by decide, by decide, hd1, fun r hp2 r0 r1 hd2 _ => ⟨_, rfl, ?_⟩⟩
  have e1 : ((k : Int) + r) = ((k + r.toNat : Nat) : Int) := by omega
  show D.nx (st a d z3 (some (.int ((k : Int) + r))) z5 z6 z7 z8 z9 z10 z11 z12 z13 z14 z15 z16 z17) hp2
  rw [e1]
  exact q _ _ (by omega) hd2
theorem a1_ok {m : Nat} (hm : m ≤ 200) (hd : Deck d l hp) (q : ∀ (cs : List Nat) hp', (∀ c ∈ cs, c ∈ b7codes) → cs.length = m → Deck d l hp' → D.nx (st a d z3 (some (.int m)) (some (.str (S cs))) z6 z7 z8 z9 z10 z11 z12 z13 z14 z15 z16 z17) hp') : a1 (st a d z3 (some (.int m)) z5 z6 z7 z8 z9 z10 z11 z12 z13 z14 z15 z16 z17) hp e D := by
  have sl : sizeLine = 16777216 := PySem.sizeLine_eq
  refine ⟨⟨_, rfl⟩, .int m, rfl, m, rfl, by omega, by omega, ?_⟩
  rw [Int.toNat_natCast]
  refine compW_ind (fun rest acc h => Deck d l h ∧ ∃ cs : List Nat, acc = cs.map sgn ∧ (∀ c ∈ cs, c ∈ b7codes) ∧ cs.length + rest.length = m) (fun acc h i => ?_) (fun p ps acc h i => ?_) _ _ _ ⟨hd, [], rfl, by simp, by simp [intsL]⟩
  · obtain ⟨hd', cs, rfl, hc, hl⟩ := i
    unfold wNil
    dsimp only
    refine gJoin0 (ys := cs.map fun c => [c]) (by rw [List.map_map]; rfl) ?_ ⟨_, rfl, ?_⟩
    · rw [flat1]; simp at hl; omega
    · rw [flat1]
      exact q cs h hc (by simpa using hl) hd'
  · obtain ⟨hd', cs, rfl, hc, hl⟩ := i
    rw [List.length_cons] at hl
    refine ⟨_, rfl, fun K hK => ?_⟩
    refine ⟨.loc d, rfl, .str (S sg), rfl, rfl, d, l, _, _, rfl, rfl, by rw [sg_len]; decide, by rw [sg_len]; decide, hd', fun z h' hz hd2 _ => ⟨by simp; omega, ?_⟩⟩
    rw [signs_S, List.mem_map] at hz
    obtain ⟨c, mc, rfl⟩ := hz
    refine hK _ _ ⟨hd2, cs ++ [c], by simp, ?_, by simp; omega⟩
    intro x hx
    rcases List.mem_append.mp hx with hx | hx
    · exact hc x hx
    · rw [List.mem_singleton.mp hx]
      exact (sg_mem c).mp mc
variable {cs : List Nat} (hc : ∀ c ∈ cs, c ∈ b7codes) (hl : cs.length ≤ 200)
include hc hl
theorem a2_ok (q : D.nx (st a d z3 z4 (some (.str (S cs))) (some (.str (S (enc cs)))) z7 z8 z9 z10 z11 z12 z13 z14 z15 z16 z17) hp) : a2 (st a d z3 z4 (some (.str (S cs))) z6 z7 z8 z9 z10 z11 z12 z13 z14 z15 z16 z17) hp e D :=
  ⟨.str (S cs), rfl, rfl, cs, rfl, fun c m => codes_128 c (hc c m), by omega, ⟨_, rfl, q⟩⟩
theorem a3_ok {i : Int} (q : D.nx (st a d (some (.int i)) z4 (some (.str (S cs))) (some (.str (S (enc cs)))) (some (.str (S (enc cs)))) z8 z9 z10 z11 z12 z13 z14 z15 z16 z17) hp) : a3 (st a d (some (.int i)) z4 (some (.str (S cs))) (some (.str (S (enc cs)))) z7 z8 z9 z10 z11 z12 z13 z14 z15 z16 z17) hp e D := by
  refine ⟨.int i, rfl, decide (i < 2), ⟨_, _, rfl, rfl, rfl⟩, brE _ rfl (fun _ => ⟨.str (S cs), rfl, rfl, wt_ok hc (by omega) ⟨_, rfl, q⟩⟩) (fun _ => ⟨.str (S cs), rfl, ⟨rfl, rfl⟩, wt_ok hc (by omega) ⟨_, rfl, q⟩⟩)⟩
theorem a4_ok (q : D.nx (st a d z3 z4 (some (.str (S cs))) (some (.str (S (enc cs)))) (some (.str (S (enc cs)))) z8 z9 z10 z11 z12 z13 z14 z15 z16 z17) hp) : a4 (st a d z3 z4 (some (.str (S cs))) (some (.str (S (enc cs)))) (some (.str (S (enc cs)))) z8 z9 z10 z11 z12 z13 z14 z15 z16 z17) hp e D := by
  have h128 : ∀ c ∈ cs, c < 128 := fun c m => codes_128 c (hc c m)
  refine ⟨.str (S (enc cs)), rfl, .str (S (enc cs)), rfl, rfl, same_at (isB_128 (enc_isB cs)) (by rw [enc_len]; omega) ⟨true, rfl, ?_⟩⟩
  refine ⟨.str (S (enc cs)), rfl, rfl, tw_enc h128 (by omega) ?_⟩
  rw [twP_all hc]
  exact ⟨.str (S cs), rfl, rfl, same_at h128 (by omega) ⟨true, rfl, q⟩⟩
theorem a5_ok (hd : Deck d l hp) (q : ∀ (near n : Nat) hp', near ≤ cs.length → n < 128 → Deck d l hp' → D.nx (st a d z3 z4 (some (.str (S cs))) z6 z7 (some (.int near)) (some (.str (S (b7 n)))) z10 z11 z12 z13 z14 z15 z16 z17) hp') : a5 (st a d z3 z4 (some (.str (S cs))) z6 z7 z8 z9 z10 z11 z12 z13 z14 z15 z16 z17) hp e D := by
  refine ⟨.loc d, rfl, .str (S cs), rfl, .str (S cs), .int cs.length, rfl, ⟨cs.length, len_S (by omega), rfl⟩, rfl, d, l, cs.length + 1, rfl, by omega, by omega, hd, fun r hp1 r0 r1 hd1 _ => ?_⟩
  obtain ⟨near, rfl⟩ : ∃ n : Nat, r = n := ⟨r.toNat, by omega⟩
  refine ⟨.loc d, rfl, rfl, d, l, 128, rfl, by decide, by decide, hd1, fun r2 hp2 r20 r21 hd2 _ => ?_⟩
  obtain ⟨n, rfl⟩ : ∃ n : Nat, r2 = n := ⟨r2.toNat, by omega⟩
  exact ⟨rfl, n, rfl, by omega, rfl, q near n hp2 (by omega) (by omega) hd2⟩
theorem a6_ok {near : Nat} (q : ∀ w : List Nat, 9 ∈ w → w.length ≤ 1000 → D.nx (st a d z3 z4 (some (.str (S cs))) z6 z7 (some (.int near)) z9 (some (.str (S w))) z11 z12 z13 z14 z15 z16 z17) hp) : a6 (st a d z3 z4 (some (.str (S cs))) z6 z7 (some (.int near)) z9 z10 z11 z12 z13 z14 z15 z16 z17) hp e D := by
  have sl : sizeLine = 16777216 := PySem.sizeLine_eq
  have l1 := len_cutP cs none (some (near : Int))
  have l2 := len_cutP (cutP cs none (some (near : Int))) none (some 199)
  have l3 := len_cutP cs (some (near : Int)) (some 199)
  have tb : (("\t" : Str)) = S [9] := by decide +kernel
  refine ⟨.str (S cs), rfl, .int near, rfl, near, rfl, by rw [slen]; omega, 199, rfl, by rw [cutS_S, slen]; omega, ?_⟩
  unfold wC
  rw [tb]
  refine ⟨by rw [cutS_S, cutS_S, slen, slen]; simp; omega, .str (S cs), rfl, .int near, rfl, near, rfl, 199, rfl, by rw [slen]; omega, by rw [cutS_S, cutS_S, cutS_S, SX.S_cat, slen, slen]; simp; omega, _, rfl, ?_⟩
  rw [cutS_S, cutS_S, cutS_S, SX.S_cat, SX.S_cat]
  exact q _ (by simp) (by simp; omega)
end
end K95

set_option Elab.async false
set_option linter.all false
set_option maxRecDepth 100000
set_option maxHeartbeats 1000000
namespace K95
open PySem PySem.Spec L2 RF
/-- two times the same -/
theorem ne_same {hp : PH} {p : PV} {x : PyData} (h : toDh hp p = some x) (s : SeqAt.shaped x = true) (q : PyData.eqv x x = true) : cNe p p hp false := ⟨x, x, h, h, s, s, by rw [q]; rfl⟩
def raisedT : PV := .tup [.str "raised", .str "text", .bl false, .str "0"]
theorem ne_raisedT {hp : PH} : cNe raisedT raisedT hp false := ne_same (x := .tuple [.str "raised", .str "text", .bool false, .str "0"]) rfl (by decide +kernel) (by decide +kernel)
theorem shown0 : Showy (.int 0) ∧ (PyData.int 0).shown = ("0" : Str) := by
  have e : (PyData.int 0).shown = ("0" : Str) := by decide +kernel
  have sl : sizeLine = 16777216 := PySem.sizeLine_eq
  refine ⟨⟨by decide +kernel, by decide +kernel, ?_⟩, e⟩
  rw [e, sl]
  decide +kernel
/-- word_of_text of something else -/
theorem tried_text {σ : SI} {i : Nat} {p : PV} {hp : PH} {e : EI} {R : KI} (hσ : σ[i]? = some (some p)) (t : Typed p) (lk : LenOk p) (g : good p = false) (r : R raisedT hp) : wLam (wCall s_wt (wArgs 1 (wCons (wVar i) wNil))) bt__law_tried σ hp e R := by
  refine ⟨R, fun _ _ z => z, p, hσ, rfl, p, rfl, t, lk, fun cs ec hm => ?_, fun _ => ⟨by simp [errs], .int 0, rfl, shown0.1, fun _ => ?_, fun z => absurd z (by decide)⟩⟩
  · subst ec
    have : good (.str (S cs)) = true := by
      show cs.all _ = true
      simpa using hm
    rw [this] at g
    cases g
  · rw [shown0.2]
    exact r
/-- text_of_word of something else -/
theorem tried_word {σ : SI} {i : Nat} {p : PV} {hp : PH} {e : EI} {R : KI} {x : PyData} (hσ : σ[i]? = some (some p)) (t : Typed p) (lk : LenOk p) (g : wv p = false) (hx : toDr hp p = some x) (sx : Showy x) (r : R (.tup [.str "raised", .str "word", .str x.shown]) hp) : wLam (wCall s_tw (wArgs 1 (wCons (wVar i) wNil))) bt__law_tried σ hp e R := by
  refine ⟨R, fun _ _ z => z, p, hσ, rfl, p, rfl, t, lk, fun _ => ⟨by simp [errs], x, hx, sx, fun z => absurd z (by decide), fun _ => r⟩, fun l el hb => ?_, fun cs ec _ => ?_⟩
  · subst el
    rw [show wv (.str (S l)) = l.all isB from rfl, hb] at g
    cases g
  · subst ec
    rw [show wv (.str (S (enc cs))) = (enc cs).all isB from rfl, enc_isB] at g
    cases g
section
variable {D : DI} {a : Addr} {d l : Nat} {z3 z4 z5 z6 z7 z8 z9 z10 z11 z12 z13 z14 z15 z16 z17 : Option PV} {hp : PH} {e : EI}
theorem a7_ok {w : List Nat} (h9 : 9 ∈ w) (hw : w.length ≤ 1000) (q : D.nx (st a d z3 z4 z5 z6 z7 z8 z9 (some (.str (S w))) z11 z12 z13 z14 z15 z16 z17) hp) : a7 (st a d z3 z4 z5 z6 z7 z8 z9 (some (.str (S w))) z11 z12 z13 z14 z15 z16 z17) hp e D := by
  have sl : sizeLine = 16777216 := PySem.sizeLine_eq
  unfold a7 wIf wCmpT
  refine tried_text (p := .str (S w)) rfl (typed_str _) (lenOk_S (by omega)) ?_ ⟨(by rw [sl]; decide : 4 ≤ sizeLine), false, ne_raisedT, q⟩
  show w.all _ = false
  rw [List.all_eq_false]
  exact ⟨9, h9, by decide +kernel⟩
variable {l6 : List Nat} (hb : l6.all isB = true) (hl : l6.length ≤ 1400)
include hb hl
theorem a8_ok {near n : Nat} (q : ∀ w : List Nat, w.all isB = true → w.length ≤ 10000 → D.nx (st a d z3 z4 z5 (some (.str (S l6))) z7 (some (.int near)) (some (.str (S (b7 n)))) z10 (some (.str (S w))) z12 z13 z14 z15 z16 z17) hp) (hn : near ≤ 200) :
    a8 (st a d z3 z4 z5 (some (.str (S l6))) z7 (some (.int near)) (some (.str (S (b7 n)))) z10 z11 z12 z13 z14 z15 z16 z17) hp e D := by
  have sl : sizeLine = 16777216 := PySem.sizeLine_eq
  have l1 := len_cutP l6 none (some (7 * (near : Int)))
  have l2 := len_cutP l6 (some (7 * (near : Int) + 7)) none
  have l3 := b7_len n
  refine ⟨.str (S l6), rfl, _, rfl, _, _, rfl, rfl, .inl (by decide), 7 * (near : Int), rfl, by rw [slen]; omega, _, rfl, by rw [cutS_S, slen, slen]; omega, .str (S l6), rfl, _, rfl, _, _, rfl, rfl, .inl (by decide), 7 * (near : Int) + 7, rfl, by rw [slen]; omega, by rw [cutS_S, cutS_S, SX.S_cat, slen, slen]; simp; omega, _, rfl, ?_⟩
  rw [cutS_S, cutS_S, SX.S_cat, SX.S_cat]
  refine q _ ?_ (by simp; omega)
  rw [List.all_append, List.all_append, all_cutP _ _ hb, all_cutP _ _ hb, b7_isB]
  rfl
theorem a9_ok (hd : Deck d l hp) (q : ∀ (at_ code : Nat) hp', Deck d l hp' → code < 7 → D.nx (st a d z3 z4 z5 (some (.str (S l6))) z7 z8 z9 z10 z11 (some (.int at_)) (some (.int code)) z14 z15 z16 z17) hp') :
    a9 (st a d z3 z4 z5 (some (.str (S l6))) z7 z8 z9 z10 z11 z12 z13 z14 z15 z16 z17) hp e D := by
  refine ⟨.loc d, rfl, .str (S l6), rfl, .str (S l6), .int l6.length, rfl, ⟨l6.length, len_S (by omega), rfl⟩, rfl, d, l, l6.length + 1, rfl, by omega, by omega, hd, fun r hp1 r0 r1 hd1 _ => ?_⟩
  obtain ⟨near, rfl⟩ : ∃ n : Nat, r = n := ⟨r.toNat, by omega⟩
  refine ⟨.loc d, rfl, rfl, d, l, 7, rfl, by decide, by decide, hd1, fun r2 hp2 r20 r21 hd2 _ => ?_⟩
  obtain ⟨n, rfl⟩ : ∃ n : Nat, r2 = n := ⟨r2.toNat, by omega⟩
  exact ⟨rfl, q near n hp2 hd2 (by omega)⟩
theorem a10_ok {at_ code : Nat} {w : List Nat} (hw : w.all isB = true) (lw : w.length ≤ 10000) (q : ∀ z, D.nx (st a d z3 z4 z5 (some (.str (S l6))) z7 z8 z9 z10 (some (.str (S w))) (some (.int at_)) (some (.int code)) z z15 z16 z17) hp) :
    a10 (st a d z3 z4 z5 (some (.str (S l6))) z7 z8 z9 z10 (some (.str (S w))) (some (.int at_)) (some (.int code)) z14 z15 z16 z17) hp e D := by
  have sl : sizeLine = 16777216 := PySem.sizeLine_eq
  have l1 := len_cutP l6 none (some (at_ : Int))
  have l2 := len_cutP l6 (some ((at_ : Int) + (code : Int))) none
  have l3 := len_cutP [48, 49, 48, 49, 49, 48, 49] none (some (code : Int))
  have l4 := len_cutP l6 (some (at_ : Int)) (some ((at_ : Int) + 100))
  have e0 : (("0101101" : Str)) = S [48, 49, 48, 49, 49, 48, 49] := by decide +kernel
  simp only [List.length_cons, List.length_nil] at l3
  refine ⟨.str (S w), rfl, .str (S l6), rfl, .int at_, rfl, at_, rfl, by rw [slen]; omega, .str (S l6), rfl, .int at_, rfl, .int code, rfl, (at_ : Int) + code, rfl, by rw [slen]; omega, by rw [cutS_S, cutS_S, slen, slen]; omega,
    .str (S l6), rfl, .int at_, rfl, at_, rfl, by rw [slen]; omega, ?_⟩
  unfold wSl wC
  rw [e0]
  refine ⟨.int code, rfl, code, rfl, by rw [slen]; simp; omega, by rw [cutS_S, cutS_S, slen, slen]; omega, .str (S l6), rfl, .int at_, rfl, at_, rfl, .int at_, rfl, (at_ : Int) + 100, rfl, by rw [slen]; omega, by rw [cutS_S, cutS_S, cutS_S, SX.S_cat, slen, slen]; simp; omega, (by rw [sl]; decide : 3 ≤ sizeLine), _, rfl, ?_⟩
  rw [cutS_S, cutS_S, cutS_S, cutS_S, SX.S_cat, SX.S_cat, SX.S_cat]
  refine forW_ind (fun rest σ h => h = hp ∧ (∀ p ∈ rest, ∃ x : List Nat, p = .str (S x) ∧ x.all isB = true ∧ x.length ≤ 10000) ∧ ∃ z, σ = st a d z3 z4 z5 (some (.str (S l6))) z7 z8 z9 z10 (some (.str (S w))) (some (.int at_)) (some (.int code)) z z15 z16 z17) (fun σ h i => ?_) (fun p ps σ h i => ?_) _ _ _ ⟨rfl, ?_, z14, rfl⟩
  · obtain ⟨rfl, _, z, rfl⟩ := i
    exact q z
  · obtain ⟨rfl, hi, z, rfl⟩ := i
    obtain ⟨x, rfl, hx, lx⟩ := hi p (List.mem_cons_self ..)
    refine ⟨_, rfl, fun K hK => ?_⟩
    have go := hK (st a d z3 z4 z5 (some (.str (S l6))) z7 z8 z9 z10 (some (.str (S w))) (some (.int at_)) (some (.int code)) (some (.str (S x))) z15 z16 z17) h ⟨rfl, fun p m => hi p (List.mem_cons_of_mem _ m), _, rfl⟩
    refine ⟨.str (S x), rfl, .str (S x), .int x.length, rfl, ⟨x.length, len_S (by omega), rfl⟩, decide ((x.length : Int) ≤ 1400), ⟨_, _, rfl, rfl, rfl⟩, brE _ rfl (fun _ => ?_) (fun _ => go)⟩
    exact ⟨.str (S x), rfl, rfl, x, rfl, hx, lx, true, rfl, go⟩
  · intro p hp2
    simp only [List.mem_cons, List.not_mem_nil, or_false] at hp2
    rcases hp2 with rfl | rfl | rfl
    · exact ⟨w, rfl, hw, lw⟩
    · refine ⟨_, rfl, ?_, by simp; omega⟩
      rw [List.all_append, all_cutP _ _ hb, all_cutP _ _ hb]
      rfl
    · refine ⟨_, rfl, ?_, by simp; omega⟩
      rw [List.all_append, List.all_append, all_cutP _ _ hb, all_cutP _ _ hb, all_cutP _ _ (by decide)]
      rfl
end
theorem lb1_ok {D : DI} {a : Addr} {d l : Nat} {i : Int} {z4 z5 z6 z7 z8 z9 z10 z11 z12 z13 z14 z15 z16 z17 : Option PV} {hp : PH} {e : EI} (hd : Deck d l hp) (q : ∀ z4 z5 z6 z7 z8 z9 z10 z11 z12 z13 z14 hp', Deck d l hp' → D.nx (st a d (some (.int i)) z4 z5 z6 z7 z8 z9 z10 z11 z12 z13 z14 z15 z16 z17) hp') :
    lb1 (st a d (some (.int i)) z4 z5 z6 z7 z8 z9 z10 z11 z12 z13 z14 z15 z16 z17) hp e D := by
  refine a0_ok hd fun m hp1 hm hd1 => ?_
  refine a1_ok hm hd1 fun cs hp2 hc hl hd2 => ?_
  have hl : cs.length ≤ 200 := by omega
  refine a2_ok hc hl ?_
  refine a3_ok hc hl ?_
  refine a4_ok hc hl ?_
  refine a5_ok hc hl hd2 fun near n hp3 hn hn2 hd3 => ?_
  refine a6_ok hc hl fun w h9 hw => ?_
  refine a7_ok h9 hw ?_
  have hb := enc_isB cs
  have hl6 : (enc cs).length ≤ 1400 := by rw [enc_len]; omega
  refine a8_ok hb hl6 (fun w2 hw2 lw2 => ?_) (by omega)
  refine a9_ok hb hl6 hd3 fun at_ code hp4 hd4 _ => ?_
  exact a10_ok hb hl6 hw2 lw2 fun z => q _ _ _ _ _ _ _ _ _ _ _ _ hd4
end K95

set_option Elab.async false
set_option linter.all false
set_option maxRecDepth 100000
set_option maxHeartbeats 1000000
namespace K95
open PySem PySem.Spec L2 RF
structure Thg (p : PV) (x : PyData) : Prop where
  t : Typed p
  lk : LenOk p
  w : wv p = false
  d : ∀ hp, toDr hp p = some x
  s : Showy x
  k : PyData.strOk x.shown = true
def chk (x : PyData) : Bool := x.showable && (decide (x.depth ≤ 64) && (decide (x.shown.length ≤ 100) && PyData.strOk x.shown))
theorem thg {p : PV} (x : PyData) (t : Typed p) (lk : LenOk p) (w : wv p = false) (d : ∀ hp, toDr hp p = some x) (c : chk x = true) : Thg p x := by
  have sl : sizeLine = 16777216 := PySem.sizeLine_eq
  simp only [chk, Bool.and_eq_true, decide_eq_true_eq] at c
  exact ⟨t, lk, w, d, ⟨c.1, c.2.1, by omega⟩, c.2.2.2⟩
theorem thg_str (s : Str) (h : decide (s.length ≤ 50) = true) (w : wv (.str s) = false) (c : chk (.str s) = true) : ∃ x, Thg (.str s) x :=
  ⟨_, thg (.str s) (typed_str s) (show s.length ≤ 1000000 by have := of_decide_eq_true h; omega) w (fun _ => rfl) c⟩
section
variable {D : DI} {a : Addr} {d l : Nat} {z3 z4 z5 z6 z7 z8 z9 z10 z11 z12 z13 z14 z15 z16 z17 : Option PV} {hp : PH} {e : EI}
theorem d0_ok (hd : Deck d l hp) (q : ∀ p x hp', Thg p x → good p = false → Deck d l hp' → D.nx (st a d z3 z4 z5 z6 z7 z8 z9 z10 z11 z12 z13 (some p) z15 z16 z17) hp') : d0 (st a d z3 z4 z5 z6 z7 z8 z9 z10 z11 z12 z13 z14 z15 z16 z17) hp e D := by
  have sl : sizeLine = 16777216 := PySem.sizeLine_eq
  refine ⟨.loc d, rfl, 1, rfl, (by rw [sl]; decide : 0 ≤ sizeLine), (by rw [sl]; decide : 1 ≤ sizeLine), (by rw [sl]; decide : 1 ≤ sizeLine), _, rfl, 10, 39, rfl, rfl, ⟨by decide, by decide, by decide⟩, (by rw [sl]; decide : 2 ≤ sizeLine), (by rw [sl]; decide : 0 ≤ sizeLine), (by rw [sl]; decide : 14 ≤ sizeLine), rfl, d, l, _, _, rfl, rfl, (by decide : 0 < 14), (by decide : 14 < 1000000), hd, fun z hp1 hz hd1 _ => ⟨_, rfl, ?_⟩⟩
  have h : ∃ x, Thg z x ∧ good z = false := by
    simp only [List.mem_cons, List.not_mem_nil, or_false] at hz
    rcases hz with rfl | rfl | rfl | rfl | rfl | rfl | rfl | rfl | rfl | rfl | rfl | rfl | rfl | rfl
    all_goals refine ⟨_, thg _ ⟨fun _ z => (by cases z), fun _ z => (by cases z)⟩ trivial rfl (fun _ => rfl) (by decide +kernel), rfl⟩
  obtain ⟨x, h1, h2⟩ := h
  exact q z x hp1 h1 h2 hd1
theorem d1_ok {p : PV} {x : PyData} (t : Thg p x) (g : good p = false) (q : D.nx (st a d z3 z4 z5 z6 z7 z8 z9 z10 z11 z12 z13 (some p) z15 z16 z17) hp) : d1 (st a d z3 z4 z5 z6 z7 z8 z9 z10 z11 z12 z13 (some p) z15 z16 z17) hp e D := by
  have sl : sizeLine = 16777216 := PySem.sizeLine_eq
  unfold d1 wIf wCmpT
  refine tried_text (p := p) rfl t.t t.lk g ⟨(by rw [sl]; decide : 4 ≤ sizeLine), false, ne_raisedT, q⟩
theorem d2_ok {p : PV} {x : PyData} (t : Thg p x) (hd : Deck d l hp) (q : ∀ p x hp', Thg p x → Deck d l hp' → D.nx (st a d z3 z4 z5 z6 z7 z8 z9 z10 z11 z12 z13 (some p) z15 z16 z17) hp') : d2 (st a d z3 z4 z5 z6 z7 z8 z9 z10 z11 z12 z13 (some p) z15 z16 z17) hp e D := by
  have sl : sizeLine = 16777216 := PySem.sizeLine_eq
  refine ⟨.loc d, rfl, p, rfl, (by rw [sl]; decide : 11 ≤ sizeLine), rfl, d, l, _, _, rfl, rfl, (by decide : 0 < 11), (by decide : 11 < 1000000), hd, fun z hp1 hz hd1 _ => ⟨_, rfl, ?_⟩⟩
  have h : ∃ x, Thg z x := by
    simp only [List.mem_cons, List.not_mem_nil, or_false] at hz
    rcases hz with rfl | rfl | rfl | rfl | rfl | rfl | rfl | rfl | rfl | rfl | rfl
    · exact ⟨x, t⟩
    all_goals exact thg_str _ (by decide +kernel) (by decide +kernel) (by decide +kernel)
  obtain ⟨x, h1⟩ := h
  exact q z x hp1 h1 hd1
theorem d3_ok {p : PV} {x : PyData} (t : Thg p x) (q : D.nx (st a d z3 z4 z5 z6 z7 z8 z9 z10 z11 z12 z13 (some p) z15 z16 z17) hp) : d3 (st a d z3 z4 z5 z6 z7 z8 z9 z10 z11 z12 z13 (some p) z15 z16 z17) hp e D := by
  have sl : sizeLine = 16777216 := PySem.sizeLine_eq
  unfold d3 wIf wCmpT
  refine tried_word (p := p) rfl t.t t.lk t.w (t.d _) t.s ⟨p, rfl, p, _, rfl, ⟨x, t.d _, t.s, rfl⟩, (by rw [sl]; decide : 3 ≤ sizeLine), false, ne_same (x := .tuple [.str "raised", .str "word", .str x.shown]) rfl ?_ ?_, q⟩
  · have h1 : PyData.strOk "raised" = true := by decide +kernel
    have h2 : PyData.strOk "word" = true := by decide +kernel
    simp [SeqAt.shaped, PyData.canLay0, PyData.canLayAll0, PyData.depth, PyData.depthAll, t.k, h1, h2]
  · simp [PyData.eqv, PyData.eqvAll]
theorem lb2_ok (hd : Deck d l hp) (q : ∀ z14 hp', Deck d l hp' → D.nx (st a d z3 z4 z5 z6 z7 z8 z9 z10 z11 z12 z13 z14 z15 z16 z17) hp') : lb2 (st a d z3 z4 z5 z6 z7 z8 z9 z10 z11 z12 z13 z14 z15 z16 z17) hp e D := by
  refine d0_ok hd fun p x hp1 t g hd1 => ?_
  refine d1_ok t g ?_
  refine d2_ok t hd1 fun p2 x2 hp2 t2 hd2 => ?_
  exact d3_ok t2 (q _ _ hd2)
theorem t2_ok (q : ∀ ps : List PV, (∀ p ∈ ps, ∃ n : Nat, p = .int n ∧ n < 128) → 0 < ps.length → ps.length < 1000 → D.nx (st a d z3 z4 z5 z6 z7 z8 z9 z10 z11 z12 z13 z14 (some (.lst ps)) z16 z17) hp) : t2 (st a d z3 z4 z5 z6 z7 z8 z9 z10 z11 z12 z13 z14 z15 z16 z17) hp e D := by
  have sl : sizeLine = 16777216 := PySem.sizeLine_eq
  have l95 : sg.length = 95 := by decide +kernel
  have s128 : ∀ c ∈ sg, c < 128 := by decide +kernel
  refine ⟨.str (S sg), rfl, _, iter_S sg, compW_mapL sgn (fun (c : Nat) => .int c) sg [] (fun c m => ⟨_, rfl, fun R r => ⟨sgn c, rfl, sgn c, _, rfl, ⟨S [c], rfl, rfl, rfl⟩, r⟩⟩) (by decide) ?_⟩
  refine ⟨(by rw [sl]; decide : 6 ≤ sizeLine), fun n hn => ⟨n, _, 6, rfl, rfl, put_same, by decide, by decide, (by rw [sl]; decide : 6 * 6 ≤ sizeLine), ?_⟩⟩
  rw [drp_put hn]
  refine ⟨nI sg, _, rfl, rfl, by rw [sl]; decide, _, rfl, ?_⟩
  refine q _ ?_ ?_ ?_
  · intro p m
    rcases List.mem_append.mp m with m | m
    · obtain ⟨c, mc, rfl⟩ := List.mem_map.mp m
      exact ⟨c, rfl, s128 c mc⟩
    · obtain ⟨xs, m1, m2⟩ := List.mem_flatten.mp m
      rw [List.eq_of_mem_replicate m1] at m2
      simp only [List.mem_cons, List.not_mem_nil, or_false] at m2
      rcases m2 with rfl | rfl | rfl | rfl | rfl | rfl
      · exact ⟨0, rfl, by decide⟩
      · exact ⟨9, rfl, by decide⟩
      · exact ⟨31, rfl, by decide⟩
      · exact ⟨127, rfl, by decide⟩
      · exact ⟨37, rfl, by decide⟩
      · exact ⟨37, rfl, by decide⟩
  · rw [List.length_append]
    simp [nI, l95]
  · rw [List.length_append]
    simp [nI, l95]
end
end K95

set_option Elab.async false
set_option linter.all false
set_option maxRecDepth 100000
set_option maxHeartbeats 1000000
namespace K95
open PySem PySem.Spec L2 RF
theorem same_tw {cs : List Nat} {hp : PH} {e : EI} {Q : KI} (hc : ∀ c ∈ cs, c < 128) (n : cs.length ≤ 100000) (q : Q (.bl true) hp) : sSame [twP cs, twP cs] hp e Q := by
  unfold twP
  split
  · exact same_at hc (by omega) q
  · exact ⟨.non, .none, rfl, rfl, shown_non, by decide +kernel, q⟩
section
variable {D : DI} {a : Addr} {d l : Nat} {z3 z4 z5 z6 z7 z8 z9 z10 z11 z12 z13 z14 z15 z16 z17 : Option PV} {hp : PH} {e : EI}
theorem t1_ok (hd : Deck d l hp) (q : ∀ z3 z4 z5 z6 z7 z8 z9 z10 z11 z12 z13 z14 hp', Deck d l hp' → D.nx (st a d z3 z4 z5 z6 z7 z8 z9 z10 z11 z12 z13 z14 z15 z16 z17) hp') : t1 (st a d z3 z4 z5 z6 z7 z8 z9 z10 z11 z12 z13 z14 z15 z16 z17) hp e D := by
  refine ⟨3, rfl, by decide, by decide, ?_⟩
  refine forW_ind (fun rest σ h => Deck d l h ∧ (∀ p ∈ rest, ∃ i : Int, p = .int i) ∧ ∃ z3 z4 z5 z6 z7 z8 z9 z10 z11 z12 z13 z14, σ = st a d z3 z4 z5 z6 z7 z8 z9 z10 z11 z12 z13 z14 z15 z16 z17) (fun σ h i => ?_) (fun p ps σ h i => ?_) _ _ _ ⟨hd, ?_, _, _, _, _, _, _, _, _, _, _, _, _, rfl⟩
  · obtain ⟨hd', _, z3, z4, z5, z6, z7, z8, z9, z10, z11, z12, z13, z14, rfl⟩ := i
    exact q _ _ _ _ _ _ _ _ _ _ _ _ _ hd'
  · obtain ⟨hd', hi, z3, z4, z5, z6, z7, z8, z9, z10, z11, z12, z13, z14, rfl⟩ := i
    obtain ⟨i, rfl⟩ := hi p (List.mem_cons_self ..)
    refine ⟨_, rfl, fun K hK => ?_⟩
    exact lb1_ok hd' fun _ _ _ _ _ _ _ _ _ _ _ hp' hd2 => hK _ _ ⟨hd2, fun p m => hi p (List.mem_cons_of_mem _ m), _, _, _, _, _, _, _, _, _, _, _, _, rfl⟩
  · intro p m
    obtain ⟨i, _, rfl⟩ := List.mem_map.mp m
    exact ⟨_, rfl⟩
theorem t5_ok (hd : Deck d l hp) (q : ∀ z3 z14 hp', Deck d l hp' → D.nx (st a d z3 z4 z5 z6 z7 z8 z9 z10 z11 z12 z13 z14 z15 z16 z17) hp') : t5 (st a d z3 z4 z5 z6 z7 z8 z9 z10 z11 z12 z13 z14 z15 z16 z17) hp e D := by
  refine ⟨4, rfl, by decide, by decide, ?_⟩
  refine forW_ind (fun rest σ h => Deck d l h ∧ ∃ z3 z14, σ = st a d z3 z4 z5 z6 z7 z8 z9 z10 z11 z12 z13 z14 z15 z16 z17) (fun σ h i => ?_) (fun p ps σ h i => ?_) _ _ _ ⟨hd, _, _, rfl⟩
  · obtain ⟨hd', z3, z14, rfl⟩ := i
    exact q _ _ _ hd'
  · obtain ⟨hd', z3, z14, rfl⟩ := i
    refine ⟨_, rfl, fun K hK => ?_⟩
    exact lb2_ok hd' fun _ hp' hd2 => hK _ _ ⟨hd2, _, _, rfl⟩
theorem t3_ok {ks : List PV} (hk : ∀ p ∈ ks, ∃ n : Nat, p = .int n ∧ n < 128) (k0 : 0 < ks.length) (k1 : ks.length < 1000) (hd : Deck d l hp) (q : ∀ (ns : List Nat) hp', (∀ n ∈ ns, n < 128) → ns.length ≤ 9 → Deck d l hp' → D.nx (st a d z3 z4 z5 z6 z7 z8 z9 z10 z11 z12 z13 z14 (some (.lst ks)) (some (.str (S (enc ns)))) z17) hp') :
    t3 (st a d z3 z4 z5 z6 z7 z8 z9 z10 z11 z12 z13 z14 (some (.lst ks)) z16 z17) hp e D := by
  have sl : sizeLine = 16777216 := PySem.sizeLine_eq
  refine ⟨⟨_, rfl⟩, .loc d, rfl, (by rw [sl]; decide : 4 ≤ sizeLine), rfl, d, l, _, _, rfl, rfl, (by decide : 0 < 4), (by decide : 4 < 1000000), hd, fun z hp1 hz hd1 _ => ?_⟩
  obtain ⟨m, rfl, hm⟩ : ∃ k : Nat, z = .int k ∧ k ≤ 9 := by
    simp only [List.mem_cons, List.not_mem_nil, or_false] at hz
    rcases hz with rfl | rfl | rfl | rfl
    · exact ⟨2, rfl, by decide⟩
    · exact ⟨1, rfl, by decide⟩
    · exact ⟨4, rfl, by decide⟩
    · exact ⟨9, rfl, by decide⟩
  refine ⟨m, rfl, by omega, by omega, ?_⟩
  rw [Int.toNat_natCast]
  refine compW_ind (fun rest acc h => Deck d l h ∧ ∃ ns : List Nat, acc = ns.map (fun n => PV.str (S (b7 n))) ∧ (∀ n ∈ ns, n < 128) ∧ ns.length + rest.length = m) (fun acc h i => ?_) (fun p ps acc h i => ?_) _ _ _ ⟨hd1, [], rfl, by simp, by simp [intsL]⟩
  · obtain ⟨hd', ns, rfl, hc, hl⟩ := i
    unfold wNil
    dsimp only
    refine gJoin0 (ys := ns.map b7) (by rw [List.map_map]; rfl) ?_ ⟨_, rfl, ?_⟩
    · rw [fe, enc_len]; simp at hl; omega
    · rw [fe]
      exact q ns h hc (by simp at hl; omega) hd'
  · obtain ⟨hd', ns, rfl, hc, hl⟩ := i
    rw [List.length_cons] at hl
    refine ⟨_, rfl, fun K hK => ?_⟩
    refine ⟨.loc d, rfl, .lst ks, rfl, rfl, d, l, _, ks, rfl, rfl, k0, by omega, hd', fun z h' hz hd2 _ => ?_⟩
    obtain ⟨n, rfl, hn⟩ := hk z hz
    refine ⟨rfl, n, rfl, hn, by simp; omega, ?_⟩
    refine hK _ _ ⟨hd2, ns ++ [n], by simp, ?_, by simp; omega⟩
    intro x hx
    rcases List.mem_append.mp hx with hx | hx
    · exact hc x hx
    · rw [List.mem_singleton.mp hx]
      exact hn
theorem t4_ok {ns : List Nat} (hn : ∀ n ∈ ns, n < 128) (ln : ns.length ≤ 9) (q : D.nx (st a d z3 z4 z5 z6 z7 z8 z9 z10 z11 z12 z13 z14 z15 (some (.str (S (enc ns)))) z17) hp) : t4 (st a d z3 z4 z5 z6 z7 z8 z9 z10 z11 z12 z13 z14 z15 (some (.str (S (enc ns)))) z17) hp e D :=
  ⟨.str (S (enc ns)), rfl, rfl, enc ns, rfl, enc_isB ns, by rw [enc_len]; omega, true, rfl, .str (S (enc ns)), rfl, ⟨rfl, rfl⟩, tw_enc hn (by omega) ⟨.str (S (enc ns)), rfl, rfl, tw_enc hn (by omega) ⟨rfl, same_tw hn (by omega) ⟨true, rfl, q⟩⟩⟩⟩
end
/-- the law's meaning -/
def s_law (C : Cfg) : WF := fun ps hp e Q => ∃ a ns, ps = [.ref a] ∧ (a, ns) ∈ C.scr ∧ ∀ hp', Q (.bl true) hp'
theorem mo_law {C : Cfg} : MoF (s_law C) := fun ps hp e Q Q' i ⟨a, ns, h1, h2, h3⟩ => ⟨a, ns, h1, h2, fun hp' => i _ _ (h3 hp')⟩
theorem o_law {C : Cfg} (ps : List PV) (hp : PH) (e : EI) (Q : KI) (h : s_law C ps hp e Q) : wFun 18 (w_law s_wt s_tw (sDeck C) sDraw sPick sSame s_bits s_wo s_sg s_told) ps hp e Q := by
  obtain ⟨a, ns, rfl, hm, q⟩ := h
  have sl : sizeLine = 16777216 := PySem.sizeLine_eq
  rw [lw_eq]
  show lw C [some (.ref a), none, none, none, none, none, none, none, none, none, none, none, none, none, none, none, none, none] hp e _
  refine ⟨.ref a, rfl, rfl, a, ns, rfl, hm, fun d l hp1 fd fl le hd => ?_⟩
  refine ⟨rfl, (by rw [sl]; decide : 2 ≤ sizeLine), _, rfl, ?_⟩
  refine t1_ok hd fun z3 z4 z5 z6 z7 z8 z9 z10 z11 z12 z13 z14 hp2 hd2 => ?_
  refine t2_ok fun ks hk k0 k1 => ?_
  refine t3_ok hk k0 k1 hd2 fun ms hp3 h3 l3 hd3 => ?_
  refine t4_ok h3 l3 ?_
  refine t5_ok hd3 fun _ _ hp4 hd4 => ?_
  exact ⟨hp4, fun _ _ z => z, q hp4⟩
end K95

set_option Elab.async false
set_option linter.all false
set_option maxRecDepth 100000
set_option maxHeartbeats 0
namespace K95
open PySem PySem.Spec PySem.W L2 RF
def fs : List (Frag → Bool) := [RH.fFree "all",
  RH.fFree "int",
  RH.fFree "isinstance",
  RH.fFree "len",
  RH.fFree "list",
  RH.fFree "max",
  RH.fFree "ord",
  RH.fFree "range",
  RH.fFree "repr",
  RH.fFree "str",
  RH.fGlo "LETTERS",
  RH.fTup "LETTERS" [.str "0", .str "1"],
  RH.fStr "TEXT_SIGNS" "\n !\"#$&'()*+,-./0123456789:;<=>?\x40ABCDEFGHIJKLMNOPQRSTUVWXYZ[\\]^_`abcdefghijklmnopqrstuvwxyz{|}~",
  RH.fInt "SEVEN" 7,
  RH.fErr "BadWord" "thing" "QuickError",
  RH.fErr "BadText" "at" "QuickError",
  RH.fKit "BadWord" "BadWord" true,
  RH.fKit "BadWord" "BadText" false,
  RH.fKit "BadText" "BadWord" false,
  RH.fKit "BadText" "BadText" true,
  RH.fGlo "QuickError",
  RH.fGlo "is_word_value",
  RH.fGlo "need_word",
  RH.fGlo "word_of_sign",
  RH.fGlo "word_of_text",
  RH.fGlo "text_of_word",
  RH.fGlo "_law_deck",
  RH.fGlo "_law_draw",
  RH.fGlo "_law_pick",
  RH.fGlo "_law_same",
  RH.fGlo "_law_bits",
  RH.fGlo "_law_word_of",
  RH.fGlo "_law_signs",
  RH.fGlo "_law_codes",
  RH.fGlo "_law_tried",
  RH.fGlo "_law_is_told",
  RH.fGlo "law"]
abbrev ini_BadWord : Stmt := (match top 2 with
  | .ClassDef _ _ _ b _ _ _ _ _ _ _ => b
  | _ => []).getD 0 (.Pass ⟨0, 0, 0, 0⟩)
abbrev ini_BadText : Stmt := (match top 3 with
  | .ClassDef _ _ _ b _ _ _ _ _ _ _ => b
  | _ => []).getD 0 (.Pass ⟨0, 0, 0, 0⟩)
def fn : List He.DefD := [⟨("is_word_value", none), "is_word_value", "is_word_value", defArgs st_is_word_value, defBody st_is_word_value, defScope st_is_word_value, [], []⟩,
  ⟨("need_word", none), "need_word", "need_word", defArgs st_need_word, defBody st_need_word, defScope st_need_word, [], []⟩,
  ⟨("word_of_sign", none), "word_of_sign", "word_of_sign", defArgs st_word_of_sign, defBody st_word_of_sign, defScope st_word_of_sign, [], []⟩,
  ⟨("word_of_text", none), "word_of_text", "word_of_text", defArgs st_word_of_text, defBody st_word_of_text, defScope st_word_of_text, [], []⟩,
  ⟨("text_of_word", none), "text_of_word", "text_of_word", defArgs st_text_of_word, defBody st_text_of_word, defScope st_text_of_word, [], []⟩,
  ⟨("_law_deck", none), "_law_deck", "_law_deck", defArgs st__law_deck, defBody st__law_deck, defScope st__law_deck, [], []⟩,
  ⟨("_law_draw", none), "_law_draw", "_law_draw", defArgs st__law_draw, defBody st__law_draw, defScope st__law_draw, [], []⟩,
  ⟨("_law_pick", none), "_law_pick", "_law_pick", defArgs st__law_pick, defBody st__law_pick, defScope st__law_pick, [], []⟩,
  ⟨("_law_same", none), "_law_same", "_law_same", defArgs st__law_same, defBody st__law_same, defScope st__law_same, [], []⟩,
  ⟨("_law_bits", none), "_law_bits", "_law_bits", defArgs st__law_bits, defBody st__law_bits, defScope st__law_bits, [], []⟩,
  ⟨("_law_word_of", none), "_law_word_of", "_law_word_of", defArgs st__law_word_of, defBody st__law_word_of, defScope st__law_word_of, [], []⟩,
  ⟨("_law_signs", none), "_law_signs", "_law_signs", defArgs st__law_signs, defBody st__law_signs, defScope st__law_signs, [], []⟩,
  ⟨("_law_codes", none), "_law_codes", "_law_codes", defArgs st__law_codes, defBody st__law_codes, defScope st__law_codes, [], []⟩,
  ⟨("_law_tried", none), "_law_tried", "_law_tried", defArgs st__law_tried, defBody st__law_tried, defScope st__law_tried, [], []⟩,
  ⟨("_law_is_told", none), "_law_is_told", "_law_is_told", defArgs st__law_is_told, defBody st__law_is_told, defScope st__law_is_told, [], []⟩,
  ⟨("law", none), "law", "law", defArgs st_law, defBody st_law, defScope st_law, [], []⟩,
  ⟨("BadWord", some "__init__"), "__init__", "BadWord.__init__", defArgs ini_BadWord, defBody ini_BadWord, defScope ini_BadWord, [], []⟩,
  ⟨("BadText", some "__init__"), "__init__", "BadText.__init__", defArgs ini_BadText, defBody ini_BadText, defScope ini_BadText, [], []⟩]
def ls : List Str := ["law"]
abbrev Rw : OpenRow := OpenLaw.row PySem.Challenge.rw_samequick_k95_texts_as_words
abbrev hk : Hook := RH.hookR 4 fs fn ls
def ob (s : SharedT) : He.AlD := RH.obsR 4 fs fn ls (HandSHeadRun.getT s)
theorem ob_eq (s : SharedT) : ob s = hk.obs s.abs := RH.obsR_eq (HandSHeadRun.getT_eq s)
def names : List Str := ["__name__", "QuickError", "BadWord", "BadText", "LETTERS", "is_word_value", "need_word", "TEXT_SIGNS", "SEVEN", "word_of_sign", "word_of_text", "text_of_word", "_law_deck", "_law_draw", "_law_pick", "_law_same", "_law_bits", "_law_word_of", "_law_signs", "_law_codes", "_law_tried", "_law_is_told"]
theorem run (w : World) : HandSHeadRun.RunEq Rw (view Rw.prog [25]) hk ob 4000 names w := by
  intro os
  kernel_rfl
end K95

set_option Elab.async false
set_option linter.all false
set_option maxRecDepth 100000
set_option maxHeartbeats 0
/-! k95, joined. -/
namespace RF
open PySem PySem.Spec L2
section
variable {P : Program} {w : World} {C : Cfg} {mg : Str → Option Value} {base : Heap} {k n : Nat} {fd : FuncData} {ps : List Str}
theorem mkFun {x : Str} {params : Arguments} {body : List Stmt} {scope : Scope} {kws : List (Str × V)} {N : List Str} {ws : WS} {wf : WF} (g : mg x = some (.ref (He.ga C.K x))) (kp : PySem.W.keepIn C.K (.ref (He.ga C.K x)) = true)
    (F : FunD C.K x x params body scope [] kws (He.ga C.K x) fd) (S : FnScope N ps scope) (hn : ps.length = n)
    (b : ∀ (kV doc pm : Value) (an : Option Addr) (cdv ct : Value) (us : List Value), us.length = ps.length → bindArgs (PySem.W.fnOf x x params body scope .none kV doc pm an cdv ct) ⟨us, []⟩ = pure (ps.zip us))
    (mo : MoF wf) (le : ∀ qs hp e Q, wf qs hp e Q → wFun N.length ws qs hp e Q)
    (hb : ∀ (A : Around) (out : List Env) (s : Shared) (H : Hp) (E : XK) (cdv : Value) (X : Cx), cdv = .ref (RH.codeAd C.K x) → X = cxOf (L2.CX P w) P w C.K mg base N x scope (He.ga C.K x) cdv A out s H E → Ok X C E k → RSs X C E body ws) :
    Fun P w C mg base (k + 1) x n wf := ⟨⟨fd, ps, (fnRc F S hn hb).weak le, FunD.bindsN F b⟩, g, kp, mo⟩
theorem mkFunK {x : Str} {params : Arguments} {body : List Stmt} {scope : Scope} {kws : List (Str × V)} {N : List Str} {ws : WS} {wf : WF} {ks : List Str} {perm : List Nat} (g : mg x = some (.ref (He.ga C.K x))) (kp : PySem.W.keepIn C.K (.ref (He.ga C.K x)) = true)
    (F : FunD C.K x x params body scope [] kws (He.ga C.K x) fd) (S : FnScope N ps scope) (hn : ps.length = n)
    (b : ∀ (kV doc pm : Value) (an : Option Addr) (cdv ct : Value) (us : List Value), us.length = ks.length → bindArgs (PySem.W.fnOf x x params body scope .none kV doc pm an cdv ct) ⟨[], ks.zip us⟩ = pure (ps.zip (pick perm us)))
    (mo : MoF wf) (le : ∀ qs hp e Q, wf qs hp e Q → wFun N.length ws qs hp e Q)
    (hb : ∀ (A : Around) (out : List Env) (s : Shared) (H : Hp) (E : XK) (cdv : Value) (X : Cx), cdv = .ref (RH.codeAd C.K x) → X = cxOf (L2.CX P w) P w C.K mg base N x scope (He.ga C.K x) cdv A out s H E → Ok X C E k → RSs X C E body ws) :
    FunK P w C mg base (k + 1) x n wf ks perm := ⟨⟨fd, ps, (fnRc F S hn hb).weak le, fun s us hl => by
      obtain ⟨oc, od, dV, kV, doc, pm, an, cdv, ct, osl, rfl, lk, hcd, hD, hK⟩ := F.ex
      rcases hD with ⟨_, rfl⟩ | ⟨e, _⟩
      · exact .of_eq (b kV doc pm an cdv ct us hl)
      · exact absurd rfl e⟩, g, kp, mo⟩
end
end RF
namespace RH
open PySem PySem.Spec PySem.W L2
theorem Says.at {fs : List (PySem.W.Frag → Bool)} {fn : List He.DefD} {ls : List PySem.Str} {K : PySem.W.Frag} {h : PySem.Heap} (S : Says fs fn ls K h) (i : Nat) {f : PySem.W.Frag → Bool} (e : fs[i]? = some f) : f K = true := S.fac f (List.mem_of_getElem? e)
theorem Says.fd {fs : List (PySem.W.Frag → Bool)} {fn : List He.DefD} {ls : List PySem.Str} {K : PySem.W.Frag} {h : PySem.Heap} (S : Says fs fn ls K h) (i : Nat) {d : He.DefD} (e : fn[i]? = some d) :
    (∃ fd, FunD K d.name d.qual d.params d.body d.scope (d.dvs K) (d.kws K) (He.fAd K d.at_) fd) ∧ PySem.W.keepIn K (.ref (He.fAd K d.at_)) = true := ⟨S.def_ d (List.mem_of_getElem? e), S.kp d (List.mem_of_getElem? e)⟩
end RH
namespace K95
open PySem PySem.Spec PySem.W L2 RF
theorem errs2 {c : Str} (h : c ∈ errs) : c = "BadWord" ∨ c = "BadText" := by simpa [errs] using h
theorem bt_ok (f : Addr) (w : WL) (hp : PH) (Q : KI) (m : MoL w) (h : bt__law_tried w hp Q) : w__law_tried f w (some (.ref f) :: List.replicate (N__law_tried.length - 1) none) hp eNo { nx := fun _ h => ∃ h', leP h' h ∧ Q .non h', rt := fun p h => ∃ h', leP h' h ∧ Q p h' } := by
  obtain ⟨Q0, hQ, h⟩ := h
  have sl : sizeLine = 16777216 := PySem.sizeLine_eq
  refine ⟨_, _, ⟨fun _ _ z => z, fun _ _ z => z, fun _ _ z => z, fun _ _ z => z⟩, fun c p h z => ⟨z.1, fun a => ?_⟩, rfl, m _ _ _ _ (fun p h q => ⟨_, rfl, p, rfl, (by rw [sl]; decide : 2 ≤ sizeLine), h, fun _ _ z => z, hQ _ _ q⟩) h⟩
  obtain ⟨hc, d, hd, sd, hT, hW⟩ := z
  rcases errs2 hc with rfl | rfl
  · refine ⟨rfl, _, rfl, brE false (by decide +kernel) (fun z => by cases z) (fun _ => ?_)⟩
    refine ⟨rfl, _, rfl, brE true (by decide +kernel) (fun _ => ?_) (fun z => by cases z)⟩
    exact ⟨rfl, by decide +kernel, p, _, rfl, ⟨d, hd, sd, rfl⟩, (by rw [sl]; decide : 3 ≤ sizeLine), h, fun _ _ z => z, hQ _ _ (hW rfl)⟩
  · refine ⟨rfl, _, rfl, brE true (by decide +kernel) (fun _ => ?_) (fun z => by cases z)⟩
    have e1 : decide (("BadText" : Str) = "BadWord") = false := by decide +kernel
    refine ⟨rfl, rfl, by decide +kernel, p, _, rfl, ⟨d, hd, sd, rfl⟩, (by rw [sl]; decide : 4 ≤ sizeLine), h, fun _ _ z => z, hQ _ _ ?_⟩
    rw [e1]
    exact hT rfl
theorem facts_of {K : Frag} {h : Heap} {mg : Str → Option Value} {C : Cfg} (hC : C.K = K) (S : RH.Says fs fn ls K h) (G : h.Ns mainGlobals mg) : Facts C mg := by
  subst hC
  have kw : fldOf "BadWord" = "thing" := by decide +kernel
  have kt : fldOf "BadText" = "at" := by decide +kernel
  obtain ⟨⟨fW, FW⟩, _⟩ := S.fd 16 rfl
  obtain ⟨⟨fT, FT⟩, _⟩ := S.fd 17 rfl
  exact {
    b_all := He.free_ok S.kin G (S.at 0 rfl)
    b_int := He.free_ok S.kin G (S.at 1 rfl)
    b_isinstance := He.free_ok S.kin G (S.at 2 rfl)
    b_len := He.free_ok S.kin G (S.at 3 rfl)
    b_list := He.free_ok S.kin G (S.at 4 rfl)
    b_max := He.free_ok S.kin G (S.at 5 rfl)
    b_ord := He.free_ok S.kin G (S.at 6 rfl)
    b_range := He.free_ok S.kin G (S.at 7 rfl)
    b_repr := He.free_ok S.kin G (S.at 8 rfl)
    b_str := He.free_ok S.kin G (S.at 9 rfl)
    g_LETTERS := He.glo_ok S.kin G (S.at 10 rfl)
    c_LETTERS := fun H => He.tupB_ok (S.at 11 rfl) H
    c_TEXT_SIGNS := He.str_ok S.kin G (S.at 12 rfl)
    c_SEVEN := He.int_ok S.kin G (S.at 13 rfl)
    e_BadWord := by
      rw [kw]
      exact RH.err_ok (S.at 14 rfl) (.inl rfl) rfl FW
    e_BadText := by
      rw [kt]
      exact RH.err_ok (S.at 15 rfl) (.inr rfl) rfl FT
    k_BadWord_BadWord := of_decide_eq_true (S.at 16 rfl)
    k_BadWord_BadText := of_decide_eq_true (S.at 17 rfl)
    k_BadText_BadWord := of_decide_eq_true (S.at 18 rfl)
    k_BadText_BadText := of_decide_eq_true (S.at 19 rfl)
    g_BadWord := PySem.W.mg_of S.kin G (RH.err_ok (S.at 14 rfl) (.inl rfl) rfl FW).g
    g_BadText := PySem.W.mg_of S.kin G (RH.err_ok (S.at 15 rfl) (.inr rfl) rfl FT).g
    q := He.glo_ok S.kin G (S.at 20 rfl) }
end K95

set_option Elab.async false
set_option linter.all false
set_option maxRecDepth 100000
set_option maxHeartbeats 0
/-! k95: each def keeps its promise. -/
namespace K95
open PySem PySem.Spec PySem.W L2 RF
theorem sc_is_word_value : FnScope N_is_word_value ["thing"] (defScope st_is_word_value) := ⟨rfl, rfl, rfl, by decide +kernel, rfl, by decide +kernel, by decide +kernel⟩
theorem sc_need_word : FnScope N_need_word ["word"] (defScope st_need_word) := ⟨rfl, rfl, rfl, by decide +kernel, rfl, by decide +kernel, by decide +kernel⟩
theorem sc_word_of_sign : FnScope N_word_of_sign ["sign"] (defScope st_word_of_sign) := ⟨rfl, rfl, rfl, by decide +kernel, rfl, by decide +kernel, by decide +kernel⟩
theorem sc_word_of_text : FnScope N_word_of_text ["text"] (defScope st_word_of_text) := ⟨rfl, rfl, rfl, by decide +kernel, rfl, by decide +kernel, by decide +kernel⟩
theorem sc_text_of_word : FnScope N_text_of_word ["word"] (defScope st_text_of_word) := ⟨rfl, rfl, rfl, by decide +kernel, rfl, by decide +kernel, by decide +kernel⟩
theorem sc__law_deck : FnScope N__law_deck ["script"] (defScope st__law_deck) := ⟨rfl, rfl, rfl, by decide +kernel, rfl, by decide +kernel, by decide +kernel⟩
theorem sc__law_draw : FnScope N__law_draw ["deck", "many"] (defScope st__law_draw) := ⟨rfl, rfl, rfl, by decide +kernel, rfl, by decide +kernel, by decide +kernel⟩
theorem sc__law_pick : FnScope N__law_pick ["deck", "some"] (defScope st__law_pick) := ⟨rfl, rfl, rfl, by decide +kernel, rfl, by decide +kernel, by decide +kernel⟩
theorem sc__law_same : FnScope N__law_same ["told", "due"] (defScope st__law_same) := ⟨rfl, rfl, rfl, by decide +kernel, rfl, by decide +kernel, by decide +kernel⟩
theorem sc__law_bits : FnScope N__law_bits ["number"] (defScope st__law_bits) := ⟨rfl, rfl, rfl, by decide +kernel, rfl, by decide +kernel, by decide +kernel⟩
theorem sc__law_word_of : FnScope N__law_word_of ["text"] (defScope st__law_word_of) := ⟨rfl, rfl, rfl, by decide +kernel, rfl, by decide +kernel, by decide +kernel⟩
theorem sc__law_signs : FnScope N__law_signs [] (defScope st__law_signs) := ⟨rfl, rfl, rfl, by decide +kernel, rfl, by decide +kernel, by decide +kernel⟩
theorem sc__law_codes : FnScope N__law_codes ["word"] (defScope st__law_codes) := ⟨rfl, rfl, rfl, by decide +kernel, rfl, by decide +kernel, by decide +kernel⟩
theorem sc__law_tried : FnScope N__law_tried ["call"] (defScope st__law_tried) := ⟨rfl, rfl, rfl, by decide +kernel, rfl, by decide +kernel, by decide +kernel⟩
theorem sc__law_is_told : FnScope N__law_is_told ["word"] (defScope st__law_is_told) := ⟨rfl, rfl, rfl, by decide +kernel, rfl, by decide +kernel, by decide +kernel⟩
theorem sc_law : FnScope N_law ["script"] (defScope st_law) := ⟨rfl, rfl, rfl, by decide +kernel, rfl, by decide +kernel, by decide +kernel⟩
section
variable {w : World} {C : Cfg} {mg : Str → Option Value} {base h : Heap}
theorem F_is_word_value (S : RH.Says fs fn ls C.K h) (G : h.Ns mainGlobals mg) : Fun prg w C mg base 1 "is_word_value" 1 s_iw := by
  obtain ⟨⟨fd, F⟩, kp⟩ := S.fd 0 rfl
  exact mkFun (N := N_is_word_value) (ps := ["thing"]) (He.glo_ok S.kin G (S.at 21 rfl)) kp F sc_is_word_value rfl (fun _ _ _ _ _ _ us hl => match us, hl with | [_], _ => rfl) mo_iw (fun qs hp e Q q => o_iw qs hp e Q q) (fun A out s H E cdv X hc hX c => r_is_word_value  (facts_of rfl S G) (cd := cdv) hX c)
theorem F_need_word (S : RH.Says fs fn ls C.K h) (G : h.Ns mainGlobals mg) : Fun prg w C mg base 2 "need_word" 1 s_nw := by
  obtain ⟨⟨fd, F⟩, kp⟩ := S.fd 1 rfl
  exact mkFun (N := N_need_word) (ps := ["word"]) (He.glo_ok S.kin G (S.at 22 rfl)) kp F sc_need_word rfl (fun _ _ _ _ _ _ us hl => match us, hl with | [_], _ => rfl) mo_nw (fun qs hp e Q q => o_nw qs hp e Q q) (fun A out s H E cdv X hc hX c => r_need_word s_iw (facts_of rfl S G) (cd := cdv) (F_is_word_value S G) hX c)
theorem F_word_of_sign (S : RH.Says fs fn ls C.K h) (G : h.Ns mainGlobals mg) : Fun prg w C mg base 1 "word_of_sign" 1 s_ws := by
  obtain ⟨⟨fd, F⟩, kp⟩ := S.fd 2 rfl
  exact mkFun (N := N_word_of_sign) (ps := ["sign"]) (He.glo_ok S.kin G (S.at 23 rfl)) kp F sc_word_of_sign rfl (fun _ _ _ _ _ _ us hl => match us, hl with | [_], _ => rfl) mo_ws (fun qs hp e Q q => o_ws qs hp e Q q) (fun A out s H E cdv X hc hX c => r_word_of_sign  (facts_of rfl S G) (cd := cdv) hX c)
theorem F_word_of_text (S : RH.Says fs fn ls C.K h) (G : h.Ns mainGlobals mg) : Fun prg w C mg base 2 "word_of_text" 1 s_wt := by
  obtain ⟨⟨fd, F⟩, kp⟩ := S.fd 3 rfl
  exact mkFun (N := N_word_of_text) (ps := ["text"]) (He.glo_ok S.kin G (S.at 24 rfl)) kp F sc_word_of_text rfl (fun _ _ _ _ _ _ us hl => match us, hl with | [_], _ => rfl) mo_wt (fun qs hp e Q q => o_wt qs hp e Q q) (fun A out s H E cdv X hc hX c => r_word_of_text s_ws (facts_of rfl S G) (cd := cdv) (F_word_of_sign S G) hX c)
theorem K_word_of_text (S : RH.Says fs fn ls C.K h) (G : h.Ns mainGlobals mg) : FunK prg w C mg base 2 "word_of_text" 1 s_wt ["text"] [0] := by
  obtain ⟨⟨fd, F⟩, kp⟩ := S.fd 3 rfl
  exact mkFunK (N := N_word_of_text) (ps := ["text"]) (He.glo_ok S.kin G (S.at 24 rfl)) kp F sc_word_of_text rfl (fun _ _ _ _ _ _ us hl => match us, hl with | [_], _ => rfl) mo_wt (fun qs hp e Q q => o_wt qs hp e Q q) (fun A out s H E cdv X hc hX c => r_word_of_text s_ws (facts_of rfl S G) (cd := cdv) (F_word_of_sign S G) hX c)
theorem F_text_of_word (S : RH.Says fs fn ls C.K h) (G : h.Ns mainGlobals mg) : Fun prg w C mg base 3 "text_of_word" 1 s_tw := by
  obtain ⟨⟨fd, F⟩, kp⟩ := S.fd 4 rfl
  exact mkFun (N := N_text_of_word) (ps := ["word"]) (He.glo_ok S.kin G (S.at 25 rfl)) kp F sc_text_of_word rfl (fun _ _ _ _ _ _ us hl => match us, hl with | [_], _ => rfl) mo_tw (fun qs hp e Q q => o_tw qs hp e Q q) (fun A out s H E cdv X hc hX c => r_text_of_word s_nw s_ws (facts_of rfl S G) (cd := cdv) (F_need_word S G) (F_word_of_sign S G) hX c)
theorem K_text_of_word (S : RH.Says fs fn ls C.K h) (G : h.Ns mainGlobals mg) : FunK prg w C mg base 3 "text_of_word" 1 s_tw ["word"] [0] := by
  obtain ⟨⟨fd, F⟩, kp⟩ := S.fd 4 rfl
  exact mkFunK (N := N_text_of_word) (ps := ["word"]) (He.glo_ok S.kin G (S.at 25 rfl)) kp F sc_text_of_word rfl (fun _ _ _ _ _ _ us hl => match us, hl with | [_], _ => rfl) mo_tw (fun qs hp e Q q => o_tw qs hp e Q q) (fun A out s H E cdv X hc hX c => r_text_of_word s_nw s_ws (facts_of rfl S G) (cd := cdv) (F_need_word S G) (F_word_of_sign S G) hX c)
theorem F__law_deck (S : RH.Says fs fn ls C.K h) (G : h.Ns mainGlobals mg) : Fun prg w C mg base 1 "_law_deck" 1 (sDeck C) := by
  obtain ⟨⟨fd, F⟩, kp⟩ := S.fd 5 rfl
  exact mkFun (N := N__law_deck) (ps := ["script"]) (He.glo_ok S.kin G (S.at 26 rfl)) kp F sc__law_deck rfl (fun _ _ _ _ _ _ us hl => match us, hl with | [_], _ => rfl) mo_sDeck (fun qs hp e Q q => (deck_ok (seed := 13745095) (by decide) (by decide)) qs hp e Q q) (fun A out s H E cdv X hc hX c => r__law_deck  (facts_of rfl S G) (cd := cdv) hX c)
theorem F__law_draw (S : RH.Says fs fn ls C.K h) (G : h.Ns mainGlobals mg) : Fun prg w C mg base 1 "_law_draw" 2 sDraw := by
  obtain ⟨⟨fd, F⟩, kp⟩ := S.fd 6 rfl
  exact mkFun (N := N__law_draw) (ps := ["deck", "many"]) (He.glo_ok S.kin G (S.at 27 rfl)) kp F sc__law_draw rfl (fun _ _ _ _ _ _ us hl => match us, hl with | [_, _], _ => rfl) mo_sDraw (fun qs hp e Q q => draw_ok qs hp e Q q) (fun A out s H E cdv X hc hX c => r__law_draw  (facts_of rfl S G) (cd := cdv) hX c)
theorem F__law_pick (S : RH.Says fs fn ls C.K h) (G : h.Ns mainGlobals mg) : Fun prg w C mg base 2 "_law_pick" 2 sPick := by
  obtain ⟨⟨fd, F⟩, kp⟩ := S.fd 7 rfl
  exact mkFun (N := N__law_pick) (ps := ["deck", "some"]) (He.glo_ok S.kin G (S.at 28 rfl)) kp F sc__law_pick rfl (fun _ _ _ _ _ _ us hl => match us, hl with | [_, _], _ => rfl) mo_sPick (fun qs hp e Q q => pick_ok qs hp e Q q) (fun A out s H E cdv X hc hX c => r__law_pick sDraw (facts_of rfl S G) (cd := cdv) (F__law_draw S G) hX c)
theorem F__law_same (S : RH.Says fs fn ls C.K h) (G : h.Ns mainGlobals mg) : Fun prg w C mg base 1 "_law_same" 2 sSame := by
  obtain ⟨⟨fd, F⟩, kp⟩ := S.fd 8 rfl
  exact mkFun (N := N__law_same) (ps := ["told", "due"]) (He.glo_ok S.kin G (S.at 29 rfl)) kp F sc__law_same rfl (fun _ _ _ _ _ _ us hl => match us, hl with | [_, _], _ => rfl) mo_sSame (fun qs hp e Q q => same_ok qs hp e Q q) (fun A out s H E cdv X hc hX c => r__law_same  (facts_of rfl S G) (cd := cdv) hX c)
theorem F__law_bits (S : RH.Says fs fn ls C.K h) (G : h.Ns mainGlobals mg) : Fun prg w C mg base 1 "_law_bits" 1 s_bits := by
  obtain ⟨⟨fd, F⟩, kp⟩ := S.fd 9 rfl
  exact mkFun (N := N__law_bits) (ps := ["number"]) (He.glo_ok S.kin G (S.at 30 rfl)) kp F sc__law_bits rfl (fun _ _ _ _ _ _ us hl => match us, hl with | [_], _ => rfl) mo_bits (fun qs hp e Q q => o_bits qs hp e Q q) (fun A out s H E cdv X hc hX c => r__law_bits  (facts_of rfl S G) (cd := cdv) hX c)
theorem F__law_word_of (S : RH.Says fs fn ls C.K h) (G : h.Ns mainGlobals mg) : Fun prg w C mg base 2 "_law_word_of" 1 s_wo := by
  obtain ⟨⟨fd, F⟩, kp⟩ := S.fd 10 rfl
  exact mkFun (N := N__law_word_of) (ps := ["text"]) (He.glo_ok S.kin G (S.at 31 rfl)) kp F sc__law_word_of rfl (fun _ _ _ _ _ _ us hl => match us, hl with | [_], _ => rfl) mo_wo (fun qs hp e Q q => o_wo qs hp e Q q) (fun A out s H E cdv X hc hX c => r__law_word_of s_bits (facts_of rfl S G) (cd := cdv) (F__law_bits S G) hX c)
theorem F__law_signs (S : RH.Says fs fn ls C.K h) (G : h.Ns mainGlobals mg) : Fun prg w C mg base 1 "_law_signs" 0 s_sg := by
  obtain ⟨⟨fd, F⟩, kp⟩ := S.fd 11 rfl
  exact mkFun (N := N__law_signs) (ps := []) (He.glo_ok S.kin G (S.at 32 rfl)) kp F sc__law_signs rfl (fun _ _ _ _ _ _ us hl => match us, hl with | [], _ => rfl) mo_sg (fun qs hp e Q q => o_sg qs hp e Q q) (fun A out s H E cdv X hc hX c => r__law_signs  (facts_of rfl S G) (cd := cdv) hX c)
theorem F__law_codes (S : RH.Says fs fn ls C.K h) (G : h.Ns mainGlobals mg) : Fun prg w C mg base 1 "_law_codes" 1 s_co := by
  obtain ⟨⟨fd, F⟩, kp⟩ := S.fd 12 rfl
  exact mkFun (N := N__law_codes) (ps := ["word"]) (He.glo_ok S.kin G (S.at 33 rfl)) kp F sc__law_codes rfl (fun _ _ _ _ _ _ us hl => match us, hl with | [_], _ => rfl) mo_co (fun qs hp e Q q => o_co qs hp e Q q) (fun A out s H E cdv X hc hX c => r__law_codes  (facts_of rfl S G) (cd := cdv) hX c)
theorem F__law_is_told (S : RH.Says fs fn ls C.K h) (G : h.Ns mainGlobals mg) : Fun prg w C mg base 4 "_law_is_told" 1 s_told := by
  obtain ⟨⟨fd, F⟩, kp⟩ := S.fd 14 rfl
  exact mkFun (N := N__law_is_told) (ps := ["word"]) (He.glo_ok S.kin G (S.at 35 rfl)) kp F sc__law_is_told rfl (fun _ _ _ _ _ _ us hl => match us, hl with | [_], _ => rfl) mo_told (fun qs hp e Q q => o_told qs hp e Q q) (fun A out s H E cdv X hc hX c => r__law_is_told s_wt s_tw sSame s_sg s_co (facts_of rfl S G) (cd := cdv) (F_word_of_text S G) (F_text_of_word S G) (F__law_same S G) (F__law_signs S G) (F__law_codes S G) hX c)
end
theorem tried_is {w : World} {C : Cfg} {mg : Str → Option Value} {base h : Heap} (S : RH.Says fs fn ls C.K h) (G : h.Ns mainGlobals mg) : Tried prg w C mg base "_law_tried" "call" st__law_tried N__law_tried 5 bt__law_tried w__law_tried := by
  obtain ⟨⟨fd, F⟩, kp⟩ := S.fd 13 rfl
  exact {
    g := He.glo_ok S.kin G (S.at 34 rfl)
    kp := kp
    ex := ⟨fd, _, _, F, FunD.bindsN F fun _ _ _ _ _ _ us hl => match us, hl with | [_], _ => rfl⟩
    sc := sc__law_tried
    va := by first | exact .inl rfl | exact .inr (.inl rfl) | exact .inr (.inr rfl)
    mbt := fun w hp Q Q' i ⟨Q0, hQ, q⟩ => ⟨Q0, fun p h z => i _ _ (hQ p h z), q⟩
    bg := fun C' Z cdv A out s H f wA hZ hK m act g r => r__law_tried (facts_of rfl S G) hZ hK act g r
    bt := bt_ok }
theorem law_is (w : World) (K : Frag) (h : Heap) (mg : Str → Option Value) (fa : Addr) (S : RH.Says fs fn ls K h) (G : h.Ns mainGlobals mg) (hmg : mg "law" = some (.ref fa)) :
    LawG prg w K mg h fa 7 63 "script" [(RH.codeAd K "law", RH.tabAd K "law")] [(RH.tabAd K "law", (("law" : Str) ++ ".<locals>.") ++ "<lambda>")] s_law := by
  obtain ⟨⟨fd, F⟩, kp⟩ := S.fd 15 rfl
  obtain ⟨t1, t2, t3⟩ := S.tab "law" (List.mem_singleton.mpr rfl)
  have e := hmg.symm.trans (He.glo_ok S.kin G (S.at 36 rfl))
  cases e
  refine ⟨fun p hp => ?_, fun p hp => ?_, fun p hp => ?_, fun p hp => ?_, ?_, fun a ns hl Q q => ⟨a, ns, rfl, List.mem_singleton.mpr rfl, q⟩⟩
  · cases List.mem_singleton.mp hp; exact t1
  · cases List.mem_singleton.mp hp; exact t2
  · cases List.mem_singleton.mp hp; exact t3
  · cases List.mem_singleton.mp hp; exact List.mem_singleton.mpr rfl
  · have b := FunD.bindsA (ps := ["script"]) F fun _ _ _ _ _ _ us hl => match us, hl with | [_], _ => rfl
    refine ⟨fd, fun s v => b s [v] rfl, fun base a ns hin hns tb => ?_⟩
    have TB := tb _ (List.mem_singleton.mpr rfl)
    have S1 : RH.Says fs fn ls (Cfg.mk K [(RH.tabAd K "law", (("law" : Str) ++ ".<locals>.") ++ "<lambda>")] [] [] [] [(a, ns)]).K h := S
    refine (fnRc (C := Cfg.mk K [(RH.tabAd K "law", (("law" : Str) ++ ".<locals>.") ++ "<lambda>")] [] [] [] [(a, ns)]) (N := N_law) (ps := ["script"]) (k := 6) (n := 1) F sc_law rfl fun A out s H E cdv X hc hX c => ?_).weak (fun qs hp e Q q => o_law qs hp e Q q)
    exact r_law s_wt s_tw (sDeck _) sDraw sPick sSame s_bits s_wo s_sg s_told (facts_of rfl S1 G) (F_word_of_text S1 G) (K_word_of_text S1 G) (F_text_of_word S1 G) (K_text_of_word S1 G) (F__law_deck S1 G) (F__law_draw S1 G) (F__law_pick S1 G) (F__law_same S1 G) (F__law_bits S1 G) (F__law_word_of S1 G) (F__law_signs S1 G) (F__law_is_told S1 G) (tried_is S1 G) TB hc rfl hX c
end K95

set_option Elab.async false
set_option linter.all false
set_option maxRecDepth 100000
set_option maxHeartbeats 0
open PySem PySem.W PySem.Calls PyProof.Rows
theorem PySem.Challenge.cw_samequick_k95_texts_as_words_holds : PySem.Challenge.rw_samequick_k95_texts_as_words.Holds := by
  w_on; o_law
  refine HandSHeadRun.head_any (r := OpenLaw.row PySem.Challenge.rw_samequick_k95_texts_as_words) (q := view (OpenLaw.row PySem.Challenge.rw_samequick_k95_texts_as_words).prog [25]) (H := K95.hk) (ob := K95.ob) (M := 4000) (loose := K95.names) (d := HandSHeadRun.topDef (OpenLaw.row PySem.Challenge.rw_samequick_k95_texts_as_words).prog 25) (kwd := []) K95.ob_eq
    (by kernel_rfl) (fun s => by kernel_rfl) K95.run (by kernel_rfl) (by kernel_rfl) (by kernel_rfl) (by rfl) (by first | assumption | decide +kernel) (by decide +kernel) ⟨rfl, rfl, rfl, rfl, rfl, by decide +kernel⟩ ?hw ?hc
  case hw => w_witness2
  case hc =>
    refine RF.walk_ofG (l := PySem.Challenge.rw_samequick_k95_texts_as_words) (n := 63) (k := 7) (x := "script") rfl (by decide) (by kernel_rfl) ⟨rfl, by decide, by decide⟩ ?F
    intro w mg fa h Y G hmg0
    obtain ⟨K, S⟩ := Y
    have hmg : mg ("law" : PySem.Str) = some (.ref fa) := by
      have e : (HandSHeadRun.topDef (OpenLaw.row PySem.Challenge.rw_samequick_k95_texts_as_words).prog 25).name = ("law" : PySem.Str) := by kernel_rfl
      rw [← e]
      exact hmg0
    exact ⟨K, _, _, _, S.kin, K95.law_is w K h mg fa S G hmg⟩

