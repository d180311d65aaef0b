import PyProof.Rows.All
import Wide.All
import OpenK.AllK
import Wide.FinOn
import HandS.ForMost
import HandS.Exc
import HandS.ExcOwn
import HandS.ExcInit
import HandS.ExcIs
import HandS.ExcField
import HandS.IsInst
import HandS.Deep
import HandS.Flow
import HandS.FStr
import HandS.DictComp
import HandS.Defaults
import HandS.Lambda
import HandS.TupAny
import HandS.Conv
import HandS.RaiseMore
import HandS.HeadHook1
import HandS.Style
import PyProof.ReprRoads
import PyProof.CallFns
import HandS.ExcSuper
import HandS.EndTab
import HandS.EndBits
import HandS.Head0
import HandS.Head1
import HandS.Head2
import HandS.HeadEnd
import HandS.HeadHook2
import KE.KNestM
import HandS.Iter
import PyProof.EqKinds
import PyProof.NeData
import HandS.Strs
import HandS.TupMul
import HandS.Small
import PyProof.ReprBulk
import PySem.Challenge.RW_samequick_k89_standings_after_many_steps
set_option Elab.async false
set_option linter.all false
set_option maxRecDepth 100000
set_option maxHeartbeats 400000
/-! Part 1: plain values without addresses, how they stand in the abstract heap, and what it means that an expression reads as a plain one. -/
namespace RF
open PySem PySem.Spec L2

/-- plain values: tuples, locked lists and locked dicts by their content; a thing that changes by its number; ref: an object of which nothing is said -/
inductive PV where
  | non | bl (b : Bool) | int (i : Int) | str (s : Str)
  | tup (ps : List PV) | lst (ps : List PV) | dct (ks : List (Key × PV)) | loc (n : Nat) | ref (a : Addr)
inductive Cell where
  | lst (ps : List PV) | dct (ks : List (Key × PV))
abbrev PH := Nat → Option Cell
/-- no list and no dict in it -/
def nl : PV → Bool
  | .lst _ => false
  | .dct _ => false
  | .tup ps => nls ps
  | _ => true
where nls : List PV → Bool
  | [] => true
  | p :: ps => nl p && nls ps
abbrev nls : List PV → Bool := nl.nls
def flC : Cell → Bool
  | .lst ps => nls ps
  | .dct ks => ks.all fun kv => nl kv.2
abbrev SI := List (Option PV)
def put (hp : PH) (n : Nat) (c : Cell) : PH := fun m => if m = n then some c else hp m
def drp (hp : PH) (n : Nat) : PH := fun m => if m = n then none else hp m
theorem put_same {hp : PH} {n : Nat} {c : Cell} : put hp n c n = some c := if_pos rfl
theorem put_ne {hp : PH} {n m : Nat} {c : Cell} (h : m ≠ n) : put hp n c m = hp m := if_neg h
theorem drp_put {hp : PH} {n : Nat} {c : Cell} (h : hp n = none) : drp (put hp n c) n = hp := by
  funext m
  by_cases e : m = n
  · subst e; simp [drp, h]
  · simp [drp, put, e]
theorem put_put {hp : PH} {n : Nat} {c d : Cell} : put (put hp n c) n d = put hp n d := by
  funext m
  by_cases e : m = n <;> simp [put, e]

/-- the written part, the tables of code objects -/
structure Cfg where
  K : PySem.W.Frag
  T : List (Addr × Str)
  xs : List (Addr × Str × PV) := []
  cs : List (Addr × Str) := []
  sl : List (List (Option PV) × St) := []
  scr : List (Addr × List Int) := []

def FzL (H : Hp) (a : Addr) (xs : List V) : Prop := ∃ o, H a = some (.frz o (.lst xs))
theorem FzL.sq {K : PySem.W.Frag} {H : Hp} {a : Addr} {xs : List V} (h : FzL H a xs) : SqL K H a xs := by
  obtain ⟨o, h⟩ := h
  exact .inl (.inr ⟨o, h⟩)
def FzD (H : Hp) (a : Addr) (ws : List (Key × V)) : Prop := ∃ o, H a = some (.frz o (.dK ws))

/-- a list that can't change: locked, or one of the written part -/
def StL (K : PySem.W.Frag) (H : Hp) (a : Addr) (xs : List V) : Prop := FzL H a xs ∨ ∀ H', SqL K H' a xs
theorem StL.sq {K : PySem.W.Frag} {H : Hp} {a : Addr} {xs : List V} (h : StL K H a xs) : SqL K H a xs := h.elim (·.sq) (· H)
mutual
def RV (K : PySem.W.Frag) (μ : List Addr) (H : Hp) : PV → V → Prop
  | .non, v => v = .non
  | .bl b, v => v = .bl b
  | .int i, v => v = .int i
  | .str s, v => v = .str s ∧ s.length ≤ sizeLine
  | .tup ps, v => ∃ a vs, v = .ref a ∧ SqT K H a vs ∧ RVs K μ H ps vs
  | .lst ps, v => ∃ a vs, v = .ref a ∧ FzL H a vs ∧ RVs K μ H ps vs
  | .dct ks, v => ∃ a ws, v = .ref a ∧ FzD H a ws ∧ RKs K μ H ks ws
  | .loc n, v => ∃ a, v = .ref a ∧ μ[n]? = some a
  | .ref a, v => v = .ref a
def RVs (K : PySem.W.Frag) (μ : List Addr) (H : Hp) : List PV → List V → Prop
  | [], vs => vs = []
  | p :: ps, vs => ∃ w ws, vs = w :: ws ∧ RV K μ H p w ∧ RVs K μ H ps ws
def RKs (K : PySem.W.Frag) (μ : List Addr) (H : Hp) : List (Key × PV) → List (Key × V) → Prop
  | [], vs => vs = []
  | (k, p) :: ps, vs => ∃ w ws, vs = (k, w) :: ws ∧ RV K μ H p w ∧ RKs K μ H ps ws
end

def stab : HO → Bool
  | .tup _ => true
  | .frz _ _ => true
  | .xd _ => true
  | .ext _ => true
  | _ => false
def lsd : HO → Bool
  | .lst _ => true
  | .dK _ => true
  | _ => false
/-- something stands there that is no table -/
def nt (H : Hp) (a : Addr) : Prop := ∃ o, H a = some o ∧ ∀ ps, o ≠ .tbl ps
theorem stab_nt {o : HO} (h : stab o = true) : ∀ ps, o ≠ .tbl ps := fun ps z => by rw [z] at h; cases h
theorem lsd_nt {o : HO} (h : lsd o = true) : ∀ ps, o ≠ .tbl ps := fun ps z => by rw [z] at h; cases h
/-- later: the numbers keep their addresses, what can't change stays, lists and dicts without a number stay -/
structure Up (μ : List Addr) (H : Hp) (μ' : List Addr) (H' : Hp) : Prop where
  ad : ∀ (n : Nat) (a : Addr), μ[n]? = some a → μ'[n]? = some a
  st : ∀ a o, stab o = true → H a = some o → H' a = some o
  dm : ∀ a, nt H a → nt H' a
  hid : ∀ a o, lsd o = true → H a = some o → a ∉ μ → H' a = some o ∧ a ∉ μ'
  nw : ∀ a ∈ μ', a ∈ μ ∨ ¬ nt H a
/-- the part that a value asks -/
structure Up0 (μ : List Addr) (H : Hp) (μ' : List Addr) (H' : Hp) : Prop where
  ad : ∀ (n : Nat) (a : Addr), μ[n]? = some a → μ'[n]? = some a
  st : ∀ a o, stab o = true → H a = some o → H' a = some o
theorem Up.weak {μ : List Addr} {H : Hp} {μ' : List Addr} {H' : Hp} (u : Up μ H μ' H') : Up0 μ H μ' H' := ⟨u.ad, u.st⟩
theorem Up.refl {μ : List Addr} {H : Hp} : Up μ H μ H := ⟨fun _ _ h => h, fun _ _ _ h => h, fun _ h => h, fun _ _ _ h n => ⟨h, n⟩, fun _ m => .inl m⟩
theorem Up.trans {μ μ1 μ2 : List Addr} {H H1 H2 : Hp} (a : Up μ H μ1 H1) (b : Up μ1 H1 μ2 H2) : Up μ H μ2 H2 :=
  ⟨fun n x h => b.ad n x (a.ad n x h), fun x o s h => b.st x o s (a.st x o s h), fun x h => b.dm x (a.dm x h), fun x o l h n =>
    let z := a.hid x o l h n
    b.hid x o l z.1 z.2, fun x m => (b.nw x m).elim (a.nw x) fun z => .inr fun t => z (a.dm x t)⟩
section
variable {K : PySem.W.Frag} {μ μ' : List Addr} {H H' : Hp}
theorem Up0.sqT (u : Up0 μ H μ' H') {a : Addr} {xs : List V} (h : SqT K H a xs) : SqT K H' a xs := by
  rcases h with (h | ⟨o, h⟩) | h
  · exact .inl (.inl (u.st _ _ rfl h))
  · exact .inl (.inr ⟨o, u.st _ _ rfl h⟩)
  · exact .inr h
theorem Up0.fzL (u : Up0 μ H μ' H') {a : Addr} {xs : List V} (h : FzL H a xs) : FzL H' a xs := by
  obtain ⟨o, h⟩ := h
  exact ⟨o, u.st _ _ rfl h⟩
theorem Up0.fzD (u : Up0 μ H μ' H') {a : Addr} {xs : List (Key × V)} (h : FzD H a xs) : FzD H' a xs := by
  obtain ⟨o, h⟩ := h
  exact ⟨o, u.st _ _ rfl h⟩
mutual
theorem RV.up0 (u : Up0 μ H μ' H') : ∀ (p : PV) (v : V), RV K μ H p v → RV K μ' H' p v
  | .non, _, h => by simpa only [RV] using h
  | .bl _, _, h => by simpa only [RV] using h
  | .int _, _, h => by simpa only [RV] using h
  | .str _, _, h => by simpa only [RV] using h
  | .ref _, _, h => by simpa only [RV] using h
  | .tup ps, _, h => by
    simp only [RV] at h ⊢
    obtain ⟨a, vs, e, s, r⟩ := h
    exact ⟨a, vs, e, u.sqT s, RVs.up0 u ps vs r⟩
  | .lst ps, _, h => by
    simp only [RV] at h ⊢
    obtain ⟨a, vs, e, s, r⟩ := h
    exact ⟨a, vs, e, u.fzL s, RVs.up0 u ps vs r⟩
  | .dct ks, _, h => by
    simp only [RV] at h ⊢
    obtain ⟨a, vs, e, s, r⟩ := h
    exact ⟨a, vs, e, u.fzD s, RKs.up0 u ks vs r⟩
  | .loc n, _, h => by
    simp only [RV] at h ⊢
    obtain ⟨a, e, s⟩ := h
    exact ⟨a, e, u.ad _ _ s⟩
theorem RVs.up0 (u : Up0 μ H μ' H') : ∀ (ps : List PV) (vs : List V), RVs K μ H ps vs → RVs K μ' H' ps vs
  | [], _, h => by simpa only [RVs] using h
  | p :: ps, _, h => by
    simp only [RVs] at h ⊢
    obtain ⟨w, ws, e, r, s⟩ := h
    exact ⟨w, ws, e, RV.up0 u p w r, RVs.up0 u ps ws s⟩
theorem RKs.up0 (u : Up0 μ H μ' H') : ∀ (ks : List (Key × PV)) (vs : List (Key × V)), RKs K μ H ks vs → RKs K μ' H' ks vs
  | [], _, h => by simpa only [RKs] using h
  | (k, p) :: ps, _, h => by
    simp only [RKs] at h ⊢
    obtain ⟨w, ws, e, r, s⟩ := h
    exact ⟨w, ws, e, RV.up0 u p w r, RKs.up0 u ps ws s⟩
end
theorem RV.up (u : Up μ H μ' H') (p : PV) (v : V) (h : RV K μ H p v) : RV K μ' H' p v := RV.up0 u.weak p v h
theorem RVs.up (u : Up μ H μ' H') (p : List PV) (v : List V) (h : RVs K μ H p v) : RVs K μ' H' p v := RVs.up0 u.weak p v h
theorem RKs.up (u : Up μ H μ' H') (p : List (Key × PV)) (v : List (Key × V)) (h : RKs K μ H p v) : RKs K μ' H' p v := RKs.up0 u.weak p v h
theorem Up.sqT (u : Up μ H μ' H') {a : Addr} {xs : List V} (h : SqT K H a xs) : SqT K H' a xs := u.weak.sqT h
theorem Up.fzL (u : Up μ H μ' H') {a : Addr} {xs : List V} (h : FzL H a xs) : FzL H' a xs := u.weak.fzL h
theorem Up.fzD (u : Up μ H μ' H') {a : Addr} {xs : List (Key × V)} (h : FzD H a xs) : FzD H' a xs := u.weak.fzD h
theorem RVs.length : ∀ {ps : List PV} {vs : List V}, RVs K μ H ps vs → vs.length = ps.length
  | [], _, h => by
    simp only [RVs] at h
    subst h; rfl
  | p :: ps, _, h => by
    simp only [RVs] at h
    obtain ⟨w, ws, e, r, s⟩ := h
    subst e
    simp [RVs.length s]
theorem RVs.get : ∀ {ps : List PV} {vs : List V} {i : Nat} {p : PV}, RVs K μ H ps vs → ps[i]? = some p → ∃ v, vs[i]? = some v ∧ RV K μ H p v
  | [], _, _, _, _, e => by simp at e
  | p :: ps, _, 0, _, h, e => by
    simp only [RVs] at h
    obtain ⟨w, ws, rfl, r, s⟩ := h
    simp at e
    subst e
    exact ⟨w, rfl, r⟩
  | p :: ps, _, i + 1, _, h, e => by
    simp only [RVs] at h
    obtain ⟨w, ws, rfl, r, s⟩ := h
    simpa using RVs.get (i := i) s (by simpa using e)
theorem RVs.nil : RVs K μ H [] [] := by simp only [RVs]
theorem RVs.cons {p : PV} {v : V} {ps : List PV} {vs : List V} (r : RV K μ H p v) (s : RVs K μ H ps vs) : RVs K μ H (p :: ps) (v :: vs) := by
  simp only [RVs]
  exact ⟨v, vs, rfl, r, s⟩
theorem RVs.append : ∀ {ps qs : List PV} {vs ws : List V}, RVs K μ H ps vs → RVs K μ H qs ws → RVs K μ H (ps ++ qs) (vs ++ ws)
  | [], _, _, _, h, s => by
    simp only [RVs] at h
    subst h; exact s
  | p :: ps, _, _, _, h, s => by
    simp only [RVs] at h
    obtain ⟨w, ws, rfl, r, t⟩ := h
    exact .cons r (RVs.append t s)
theorem RVs.take : ∀ {ps : List PV} {vs : List V} (n : Nat), RVs K μ H ps vs → RVs K μ H (ps.take n) (vs.take n)
  | _, _, 0, _ => by simpa using RVs.nil
  | [], _, n + 1, h => by
    simp only [RVs] at h
    subst h; simpa using RVs.nil
  | p :: ps, _, n + 1, h => by
    simp only [RVs] at h
    obtain ⟨w, ws, rfl, r, t⟩ := h
    exact .cons r (RVs.take n t)
theorem RVs.drop : ∀ {ps : List PV} {vs : List V} (n : Nat), RVs K μ H ps vs → RVs K μ H (ps.drop n) (vs.drop n)
  | _, _, 0, h => h
  | [], _, n + 1, h => by
    simp only [RVs] at h
    subst h; simpa using RVs.nil
  | p :: ps, _, n + 1, h => by
    simp only [RVs] at h
    obtain ⟨w, ws, rfl, r, t⟩ := h
    exact RVs.drop n t
theorem RVs.set {p : PV} {v : V} (r : RV K μ H p v) : ∀ {ps : List PV} {vs : List V} (n : Nat), RVs K μ H ps vs → RVs K μ H (ps.set n p) (vs.set n v)
  | [], _, _, h => by
    simp only [RVs] at h
    subst h; simpa using RVs.nil
  | q :: ps, _, 0, h => by
    simp only [RVs] at h
    obtain ⟨w, ws, rfl, _, t⟩ := h
    exact .cons r t
  | q :: ps, _, n + 1, h => by
    simp only [RVs] at h
    obtain ⟨w, ws, rfl, r1, t⟩ := h
    exact .cons r1 (RVs.set r n t)
theorem RVs.reverse : ∀ {ps : List PV} {vs : List V}, RVs K μ H ps vs → RVs K μ H ps.reverse vs.reverse
  | [], _, h => by
    simp only [RVs] at h
    subst h; exact .nil
  | p :: ps, _, h => by
    simp only [RVs] at h
    obtain ⟨w, ws, rfl, r, t⟩ := h
    rw [List.reverse_cons, List.reverse_cons]
    exact (RVs.reverse t).append (.cons r .nil)
theorem RVs.map {α : Type} {f : α → PV} {g : α → V} (h : ∀ x, RV K μ H (f x) (g x)) : ∀ l : List α, RVs K μ H (l.map f) (l.map g)
  | [] => .nil
  | x :: l => .cons (h x) (RVs.map h l)
theorem RVs.map_eq {α : Type} {f : α → PV} {g : α → V} (h : ∀ x v, RV K μ H (f x) v → v = g x) : ∀ (l : List α) {vs : List V}, RVs K μ H (l.map f) vs → vs = l.map g
  | [], _, r => by
    simp only [List.map_nil, RVs] at r
    exact r
  | x :: l, _, r => by
    simp only [List.map_cons, RVs] at r
    obtain ⟨w, ws, rfl, r1, t⟩ := r
    rw [h x w r1, RVs.map_eq h l t]
    rfl
end

section
variable (C : Cfg)
def CellR (μ : List Addr) (H : Hp) (a : Addr) : Cell → Prop
  | .lst ps => ∃ vs, H a = some (.lst vs) ∧ RVs C.K μ H ps vs
  | .dct ks => ∃ ws, H a = some (.dK ws) ∧ RKs C.K μ H ks ws
/-- the caught errors' dicts, code objects, slots of frames that wait, the script -/
structure XD (μ : List Addr) (H : Hp) : Prop where
  xs : ∀ q ∈ C.xs, ∃ v, H q.1 = some (.xd [(q.2.1, v)]) ∧ RV C.K μ H q.2.2 v
  cs : ∀ q ∈ C.cs, H q.1 = some (LamX.CodeO q.1 q.2)
  sl : ∀ q ∈ C.sl, q.1.length = q.2.length ∧ ∀ (i : Nat) (p : PV), q.1[i]? = some (some p) → ∃ v, q.2[i]? = some (some v) ∧ RV C.K μ H p v
  scr : ∀ q ∈ C.scr, StL C.K H q.1 (q.2.map V.int)
structure HR (μ : List Addr) (H : Hp) (hp : PH) : Prop where
  nd : μ.Nodup
  lv : ∀ a ∈ μ, nt H a
  cell : ∀ n c, hp n = some c → ∃ a, μ[n]? = some a ∧ CellR C μ H a c
  tabs : LamX.Tabs C.T H
  xd : XD C μ H
  fl : ∀ n c, hp n = some c → flC c = true
structure SR (μ : List Addr) (H : Hp) (σI : SI) (σ : St) : Prop where
  len : σI.length = σ.length
  get : ∀ (i : Nat) (p : PV), σI[i]? = some (some p) → ∃ v, σ[i]? = some (some v) ∧ RV C.K μ H p v
/-- what is wanted of an own error: its class's name, what it bears -/
abbrev EI := Str → PV → PH → Prop
/-- the field that an own error bears -/
def fldOf (c : Str) : Str := if c = ("BadText" : Str) then "at" else if c = ("BadBytes" : Str) then "at" else "thing"
def EOK (E : XK) (e : EI) (μ : List Addr) (H : Hp) : Prop :=
  ∀ (c : Str) (p : PV) (hp : PH) (μ' : List Addr) (H' : Hp) (d : Addr) (v : V), Up μ H μ' H' → HR C μ' H' hp → H' d = some (.xd [(fldOf c, v)]) → RV C.K μ' H' p v → e c p hp → E (.ref (He.ga C.K c)) (some d) H'
end
section
variable {C : Cfg} {μ μ' : List Addr} {H H' : Hp} {σI : SI} {σ : St} {hp : PH}
theorem XD.up0 (x : XD C μ H) (u : Up0 μ H μ' H') : XD C μ' H' := ⟨fun q hq => by
  obtain ⟨v, e, r⟩ := x.xs q hq
  exact ⟨v, u.st _ _ rfl e, RV.up0 u _ _ r⟩, fun q hq => u.st _ _ rfl (x.cs q hq), fun q hq => ⟨(x.sl q hq).1, fun i p e => by
  obtain ⟨v, e1, r⟩ := (x.sl q hq).2 i p e
  exact ⟨v, e1, RV.up0 u _ _ r⟩⟩, fun q hq => (x.scr q hq).imp u.fzL id⟩
theorem SR.up (s : SR C μ H σI σ) (u : Up μ H μ' H') : SR C μ' H' σI σ := ⟨s.len, fun i p e => by
  obtain ⟨v, e1, r⟩ := s.get i p e
  exact ⟨v, e1, RV.up u _ _ r⟩⟩
theorem EOK.up {E : XK} {e : EI} (s : EOK C E e μ H) (u : Up μ H μ' H') : EOK C E e μ' H' := fun c p hp μ2 H2 d v u2 => s c p hp μ2 H2 d v (u.trans u2)
theorem SR.set {i : Nat} {p : PV} {v : V} (s : SR C μ H σI σ) (r : RV C.K μ H p v) : SR C μ H (σI.set i (some p)) (σ.set i (some v)) := by
  refine ⟨by simpa using s.len, fun j q e => ?_⟩
  by_cases h : i = j
  · subst h
    by_cases hl : i < σI.length
    · rw [List.getElem?_set_self hl] at e
      cases e
      exact ⟨v, List.getElem?_set_self (by rw [← s.len]; exact hl), r⟩
    · rw [List.getElem?_eq_none (by simpa using hl)] at e
      cases e
  · rw [List.getElem?_set_ne h] at e ⊢
    exact s.get j q e
end

/-- what an expression means -/
abbrev KI := PV → PH → Prop
abbrev WE := SI → PH → EI → KI → Prop
abbrev WT := SI → PH → EI → (Bool → PH → Prop) → Prop
abbrev WA := SI → PH → EI → (List PV → PH → Prop) → Prop
structure DI where
  nx : SI → PH → Prop
  rt : KI
  bk : SI → PH → Prop := fun _ _ => False
  ct : SI → PH → Prop := fun _ _ => False
abbrev WS := SI → PH → EI → DI → Prop
def MoE (w : WE) : Prop := ∀ σ hp e Q Q', (∀ p h, Q p h → Q' p h) → w σ hp e Q → w σ hp e Q'
def MoT (w : WT) : Prop := ∀ σ hp e Q Q', (∀ p h, Q p h → Q' p h) → w σ hp e Q → w σ hp e Q'
def MoA (w : WA) : Prop := ∀ σ hp e Q Q', (∀ p h, Q p h → Q' p h) → w σ hp e Q → w σ hp e Q'
structure DI.le (D D' : DI) : Prop where
  nx : ∀ σ h, D.nx σ h → D'.nx σ h
  rt : ∀ p h, D.rt p h → D'.rt p h
  bk : ∀ σ h, D.bk σ h → D'.bk σ h
  ct : ∀ σ h, D.ct σ h → D'.ct σ h
def MoS (w : WS) : Prop := ∀ σ hp e D D', D.le D' → w σ hp e D → w σ hp e D'

section
variable (C : Cfg)
/-- the end of an expression, seen from (μ, H) -/
def fE (μ : List Addr) (H : Hp) (Q : VK) : KI := fun p hp => ∀ μ' H' v, Up μ H μ' H' → HR C μ' H' hp → RV C.K μ' H' p v → Q v H'
def fT (μ : List Addr) (H : Hp) (Q : Bool → Hp → Prop) : Bool → PH → Prop := fun b hp => ∀ μ' H', Up μ H μ' H' → HR C μ' H' hp → Q b H'
def fA (μ : List Addr) (H : Hp) (Q : List V → Hp → Prop) : List PV → PH → Prop := fun ps hp => ∀ μ' H' vs, Up μ H μ' H' → HR C μ' H' hp → RVs C.K μ' H' ps vs → Q vs H'
def fN (μ : List Addr) (H : Hp) (Q : St → Hp → Prop) : SI → PH → Prop := fun σI hp => ∀ μ' H' σ, Up μ H μ' H' → HR C μ' H' hp → SR C μ' H' σI σ → Q σ H'
def fD (μ : List Addr) (H : Hp) (D : Ends) : DI := ⟨fN C μ H D.nx, fE C μ H D.rt, fN C μ H D.bk, fN C μ H D.ct⟩
structure At (E : XK) (μ : List Addr) (H : Hp) (hp : PH) (e : EI) : Prop where
  hr : HR C μ H hp
  eok : EOK C E e μ H
def tE (E : XK) (w : WE) : TE := fun σ H Q => ∃ μ hp σI e, At C E μ H hp e ∧ SR C μ H σI σ ∧ w σI hp e (fE C μ H Q)
def tT (E : XK) (w : WT) : TT := fun σ H Q => ∃ μ hp σI e, At C E μ H hp e ∧ SR C μ H σI σ ∧ w σI hp e (fT C μ H Q)
def tA (E : XK) (w : WA) : TA := fun σ H Q => ∃ μ hp σI e, At C E μ H hp e ∧ SR C μ H σI σ ∧ w σI hp e (fA C μ H Q)
def tS (E : XK) (w : WS) : TS := fun D σ H => ∃ μ hp σI e, At C E μ H hp e ∧ SR C μ H σI σ ∧ w σI hp e (fD C μ H D)
end
/-- an expression reads as w -/
structure RE (X : Cx) (C : Cfg) (E : XK) (x : Expr) (w : WE) : Prop where
  mo : MoE w
  pe : PE X x (tE C E w)
structure RT (X : Cx) (C : Cfg) (E : XK) (x : Expr) (w : WT) : Prop where
  mo : MoT w
  pt : PT X x (tT C E w)
structure RA (X : Cx) (C : Cfg) (E : XK) (x : List Expr) (w : WA) : Prop where
  mo : MoA w
  pa : PA X x (tA C E w)
structure RS (X : Cx) (C : Cfg) (E : XK) (x : Stmt) (w : WS) : Prop where
  mo : MoS w
  ps : PS X x (tS C E w)
structure RSs (X : Cx) (C : Cfg) (E : XK) (x : List Stmt) (w : WS) : Prop where
  mo : MoS w
  ps : PSs X x (tS C E w)
theorem PE.imp {X : Cx} {x : Expr} {t t' : TE} (h : PE X x t) (i : ∀ σ H Q, t' σ H Q → t σ H Q) : PE X x t' := ⟨fun pins s σ H Q I q => h.run pins s σ H Q I (i σ H Q q)⟩
theorem PT.imp {X : Cx} {x : Expr} {t t' : TT} (h : PT X x t) (i : ∀ σ H Q, t' σ H Q → t σ H Q) : PT X x t' := ⟨fun pins s σ H Q I q => h.run pins s σ H Q I (i σ H Q q)⟩
theorem PW.imp {X : Cx} {x : Expr} {t t' : TT} (h : PW X x t) (i : ∀ σ H Q, t' σ H Q → t σ H Q) : PW X x t' := ⟨fun wh pins s σ H Q I q => h.run wh pins s σ H Q I (i σ H Q q)⟩
theorem PA.imp {X : Cx} {x : List Expr} {t t' : TA} (h : PA X x t) (i : ∀ σ H Q, t' σ H Q → t σ H Q) : PA X x t' := ⟨fun pos pins s σ H Q I q => h.run pos pins s σ H Q I (i σ H Q q)⟩
theorem PS.imp {X : Cx} {x : Stmt} {t t' : TS} (h : PS X x t) (i : ∀ D σ H, t' D σ H → t D σ H) : PS X x t' := ⟨fun pins s σ H D I q => h.run pins s σ H D I (i D σ H q)⟩
theorem PSs.imp {X : Cx} {x : List Stmt} {t t' : TS} (h : PSs X x t) (i : ∀ D σ H, t' D σ H → t D σ H) : PSs X x t' := ⟨fun pins s σ H D I q => h.run pins s σ H D I (i D σ H q)⟩

section
variable {C : Cfg} {E : XK} {μ μ' : List Addr} {H H' : Hp} {hp hp' : PH} {e : EI}
theorem At.next (a : At C E μ H hp e) (u : Up μ H μ' H') (h : HR C μ' H' hp') : At C E μ' H' hp' e := ⟨h, a.eok.up u⟩
/-- one part behind another: from the end of the first, the reading of what follows -/
theorem tE.go {w : WE} (mo : MoE w) {σ : St} {σI : SI} {Q : KI} {R : VK} (a : At C E μ H hp e) (s : SR C μ H σI σ) (q : w σI hp e Q)
    (h : ∀ p hp' μ' H' v, Q p hp' → Up μ H μ' H' → At C E μ' H' hp' e → SR C μ' H' σI σ → RV C.K μ' H' p v → R v H') : tE C E w σ H R :=
  ⟨μ, hp, σI, e, a, s, mo _ _ _ _ _ (fun p hp' q' μ' H' v u hr rv => h p hp' μ' H' v q' u (a.next u hr) (s.up u) rv) q⟩
theorem tT.go {w : WT} (mo : MoT w) {σ : St} {σI : SI} {Q : Bool → PH → Prop} {R : Bool → Hp → Prop} (a : At C E μ H hp e) (s : SR C μ H σI σ) (q : w σI hp e Q)
    (h : ∀ p hp' μ' H', Q p hp' → Up μ H μ' H' → At C E μ' H' hp' e → SR C μ' H' σI σ → R p H') : tT C E w σ H R :=
  ⟨μ, hp, σI, e, a, s, mo _ _ _ _ _ (fun p hp' q' μ' H' u hr => h p hp' μ' H' q' u (a.next u hr) (s.up u)) q⟩
theorem tA.go {w : WA} (mo : MoA w) {σ : St} {σI : SI} {Q : List PV → PH → Prop} {R : List V → Hp → Prop} (a : At C E μ H hp e) (s : SR C μ H σI σ) (q : w σI hp e Q)
    (h : ∀ p hp' μ' H' v, Q p hp' → Up μ H μ' H' → At C E μ' H' hp' e → SR C μ' H' σI σ → RVs C.K μ' H' p v → R v H') : tA C E w σ H R :=
  ⟨μ, hp, σI, e, a, s, mo _ _ _ _ _ (fun p hp' q' μ' H' v u hr rv => h p hp' μ' H' v q' u (a.next u hr) (s.up u) rv) q⟩
theorem fE.here {Q : VK} {p : PV} {v : V} (q : fE C μ H Q p hp) (a : At C E μ H hp e) (r : RV C.K μ H p v) : Q v H := q μ H v .refl a.hr r
theorem fE.at {Q : VK} {p : PV} {v : V} (q : fE C μ H Q p hp) (u : Up μ H μ' H') (a : At C E μ' H' hp e) (r : RV C.K μ' H' p v) : Q v H' := q μ' H' v u a.hr r
end
end RF

set_option Elab.async false
set_option linter.all false
set_option maxRecDepth 100000
set_option maxHeartbeats 400000
/-! Part 2: new things, things that change, locking; names, constants, operators. -/
namespace RF
open PySem PySem.Spec L2
section
variable {C : Cfg} {μ : List Addr} {H : Hp} {hp : PH} {p : Addr} {o : HO}
theorem nt_ne {a : Addr} (n : nt H a) (h : H p = none) : a ≠ p := by
  obtain ⟨u, e, _⟩ := n
  exact ne_of_none e h
theorem nt_keep {a : Addr} (n : nt H a) (d : a ≠ p) : nt (upd H p o) a := by
  obtain ⟨u, e, f⟩ := n
  exact ⟨u, by rw [upd_ne d]; exact e, f⟩
theorem nt_upd {a : Addr} (ho : ∀ ps, o ≠ .tbl ps) (n : nt H a) : nt (upd H p o) a := by
  by_cases z : a = p
  · subst z; exact ⟨o, upd_same, ho⟩
  · exact nt_keep n z
theorem Up.fresh (h : H p = none) : Up μ H μ (upd H p o) := ⟨fun _ _ h => h, fun a o s e => by rw [upd_ne (ne_of_none e h)]; exact e, fun a e => nt_keep e (nt_ne e h), fun a o _ e n => ⟨by rw [upd_ne (ne_of_none e h)]; exact e, n⟩, fun _ m => .inl m⟩
theorem CellR.up0 {μ' : List Addr} {H' : Hp} (u : Up0 μ H μ' H') {a : Addr} {c : Cell} (e : H' a = H a) (h : CellR C μ H a c) : CellR C μ' H' a c := by
  cases c with
  | lst ps =>
    obtain ⟨vs, h1, h2⟩ := h
    exact ⟨vs, e.trans h1, RVs.up0 u _ _ h2⟩
  | dct ks =>
    obtain ⟨vs, h1, h2⟩ := h
    exact ⟨vs, e.trans h1, RKs.up0 u _ _ h2⟩
theorem CellR.up {μ' : List Addr} {H' : Hp} (u : Up μ H μ' H') {a : Addr} {c : Cell} (e : H' a = H a) (h : CellR C μ H a c) : CellR C μ' H' a c := h.up0 u.weak e
theorem CellR.some {a : Addr} {c : Cell} (h : CellR C μ H a c) : ∃ o, H a = Option.some o := by
  cases c with
  | lst ps => obtain ⟨vs, h1, _⟩ := h; exact ⟨_, h1⟩
  | dct ks => obtain ⟨vs, h1, _⟩ := h; exact ⟨_, h1⟩
theorem CellR.nt {a : Addr} {c : Cell} (h : CellR C μ H a c) : RF.nt H a := by
  cases c with
  | lst ps =>
    obtain ⟨vs, h1, _⟩ := h
    exact ⟨_, h1, fun _ z => HO.noConfusion z⟩
  | dct ks =>
    obtain ⟨vs, h1, _⟩ := h
    exact ⟨_, h1, fun _ z => HO.noConfusion z⟩
theorem HR.fresh (r : HR C μ H hp) (h : H p = none) : HR C μ (upd H p o) hp := by
  refine ⟨r.nd, fun a m => nt_keep (r.lv a m) (nt_ne (r.lv a m) h), fun n c e => ?_, r.tabs.ext fun b q e => by rw [upd_ne (ne_of_none e h)]; exact e, r.xd.up0 (Up.fresh h).weak, r.fl⟩
  obtain ⟨a, e1, e2⟩ := r.cell n c e
  obtain ⟨q, e3⟩ := e2.some
  exact ⟨a, e1, e2.up (Up.fresh h) (upd_ne (ne_of_none e3 h))⟩
theorem HR.notin (r : HR C μ H hp) (h : H p = none) : p ∉ μ := fun m => nt_ne (r.lv p m) h rfl
theorem HR.nomore (r : HR C μ H hp) {n : Nat} (h : μ.length ≤ n) : hp n = none := by
  cases e : hp n with
  | none => rfl
  | some c =>
    obtain ⟨a, e1, _⟩ := r.cell n c e
    obtain ⟨l, _⟩ := List.getElem?_eq_some_iff.mp e1
    omega
theorem Up.growF (h : H p = none) : Up μ H (μ ++ [p]) (upd H p o) := ⟨fun n x e => by
  rw [List.getElem?_append_left (List.getElem?_eq_some_iff.mp e).1]; exact e, (Up.fresh (μ := μ) h).st, (Up.fresh (μ := μ) h).dm, fun a o l e n => ⟨((Up.fresh (μ := μ) h).hid a o l e n).1, by
    rw [List.mem_append, List.mem_singleton]
    rintro (z | z)
    · exact n z
    · rw [z, h] at e; cases e⟩, fun a m => (List.mem_append.mp m).imp id fun z t => nt_ne t (by rw [h]) (List.mem_singleton.mp z)⟩
theorem fl_put {n : Nat} {c : Cell} (r : ∀ n c, hp n = some c → flC c = true) (hf : flC c = true) : ∀ m d, put hp n c m = some d → flC d = true := fun m d e => by
  by_cases z : m = n
  · subst z
    rw [put_same] at e
    cases e; exact hf
  · rw [put_ne z] at e
    exact r m d e
/-- a new changing thing: its number is the next one -/
theorem HR.newC (r : HR C μ H hp) (h : H p = none) {c : Cell} (hc : CellR C (μ ++ [p]) (upd H p o) p c) (hf : flC c = true) : HR C (μ ++ [p]) (upd H p o) (put hp μ.length c) := by
  have r1 := r.fresh (o := o) h
  refine ⟨?_, fun a m => ?_, fun n d e => ?_, r1.tabs, r.xd.up0 (Up.growF h).weak, fl_put r.fl hf⟩
  · rw [List.nodup_append]
    refine ⟨r.nd, by simp, fun a ha b hb => ?_⟩
    rw [List.mem_singleton.mp hb]
    exact fun z => r.notin h (z ▸ ha)
  · rcases List.mem_append.mp m with m | m
    · exact r1.lv a m
    · rw [List.mem_singleton.mp m]
      exact hc.nt
  · by_cases z : n = μ.length
    · subst z
      rw [put_same] at e
      cases e
      exact ⟨p, by simp, hc⟩
    · rw [put_ne z] at e
      obtain ⟨a, e1, e2⟩ := r.cell n d e
      obtain ⟨q, e3⟩ := e2.some
      have u : Up μ H (μ ++ [p]) (upd H p o) := Up.growF h
      exact ⟨a, u.ad _ _ e1, e2.up u (upd_ne (ne_of_none e3 h))⟩
theorem tabs_wr {T : List (Addr × Str)} {H : Hp} {a : Addr} {o u : HO} (h : H a = some u) (hu : (∀ ps, u ≠ .tbl ps) ∧ ∀ φ, u ≠ .ext φ) (t : LamX.Tabs T H) : LamX.Tabs T (upd H a o) := fun q hq => by
  obtain ⟨ps, h1, h2, h3⟩ := t q hq
  refine ⟨ps, ?_, h2, fun pos cv hc => ?_⟩
  · rw [upd_ne fun z => hu.1 ps (Option.some.inj (h.symm.trans (by rw [← z]; exact h1)))]
    exact h1
  · obtain ⟨c, e1, e2⟩ := h3 pos cv hc
    refine ⟨c, e1, ?_⟩
    rw [upd_ne fun z => hu.2 _ (Option.some.inj (h.symm.trans (by rw [← z]; exact e2)))]
    exact e2
theorem Up.write {a : Addr} {u : HO} {n : Nat} (hn : μ[n]? = some a) (h : H a = some u) (hu : stab u = false) (ho : ∀ ps, o ≠ .tbl ps := by intro _ z; exact HO.noConfusion z) : Up μ H μ (upd H a o) := ⟨fun _ _ h => h, fun b q s e => by
  rw [upd_ne fun z => by subst z; rw [h] at e; cases e; rw [hu] at s; cases s]; exact e, fun b n => nt_upd ho n, fun b q _ e m => ⟨by
    exact (upd_ne (fun z => m (by rw [z]; exact List.mem_of_getElem? hn))).trans e, m⟩, fun _ m => .inl m⟩
theorem ad_inj (nd : μ.Nodup) {n m : Nat} {a : Addr} (h : μ[n]? = some a) (h' : μ[m]? = some a) : n = m := by
  obtain ⟨l1, e1⟩ := List.getElem?_eq_some_iff.mp h
  obtain ⟨l2, e2⟩ := List.getElem?_eq_some_iff.mp h'
  exact (List.getElem_inj nd).mp (e1.trans e2.symm)
/-- the changing thing n is written -/
theorem HR.write (r : HR C μ H hp) {n : Nat} {a : Addr} {u : HO} {c : Cell} (hn : μ[n]? = some a) (h : H a = some u) (hu : stab u = false ∧ (∀ ps, u ≠ .tbl ps) ∧ ∀ φ, u ≠ .ext φ) (hc : CellR C μ (upd H a o) a c) (hf : flC c = true) : HR C μ (upd H a o) (put hp n c) := by
  have ho : ∀ ps, o ≠ .tbl ps := by
    obtain ⟨q, e, f⟩ := hc.nt
    rw [upd_same] at e
    cases e
    exact f
  refine ⟨r.nd, fun a m => nt_upd ho (r.lv a m), fun m d e => ?_, tabs_wr h hu.2 r.tabs, r.xd.up0 (Up.write hn h hu.1 ho).weak, fl_put r.fl hf⟩
  by_cases z : m = n
  · subst z
    rw [put_same] at e
    cases e
    exact ⟨a, hn, hc⟩
  · rw [put_ne z] at e
    obtain ⟨b, e1, e2⟩ := r.cell m d e
    exact ⟨b, e1, e2.up (Up.write hn h hu.1 ho) (upd_ne fun q => z (ad_inj r.nd (q ▸ e1) hn))⟩
/-- some things are forgotten -/
theorem HR.less {hq : PH} (r : HR C μ H hp) (h : ∀ n c, hq n = some c → hp n = some c) : HR C μ H hq := ⟨r.nd, r.lv, fun n c e => r.cell n c (h n c e), r.tabs, r.xd, fun n c e => r.fl n c (h n c e)⟩
theorem HR.drp (r : HR C μ H hp) {n : Nat} : HR C μ H (drp hp n) := r.less fun m c e => by
  by_cases z : m = n
  · subst z; simp [RF.drp] at e
  · simpa [RF.drp, z] using e
/-- the thing n is forgotten, and its address written at will -/
theorem HR.drpW (r : HR C μ H hp) {n : Nat} {a : Addr} {u : HO} (hn : μ[n]? = some a) (h : H a = some u) (hu : stab u = false ∧ (∀ ps, u ≠ .tbl ps) ∧ ∀ φ, u ≠ .ext φ) (ho : ∀ ps, o ≠ .tbl ps := by intro _ z; exact HO.noConfusion z) : HR C μ (upd H a o) (RF.drp hp n) := by
  refine ⟨r.nd, fun a m => nt_upd ho (r.lv a m), fun m d e => ?_, tabs_wr h hu.2 r.tabs, r.xd.up0 (Up.write hn h hu.1 ho).weak, r.drp.fl⟩
  by_cases z : m = n
  · subst z; simp [RF.drp] at e
  · have e : hp m = some d := by simpa [RF.drp, z] using e
    obtain ⟨b, e1, e2⟩ := r.cell m d e
    exact ⟨b, e1, e2.up (Up.write hn h hu.1 ho) (upd_ne fun q => z (ad_inj r.nd (q ▸ e1) hn))⟩
end
theorem lstU {xs : List V} : stab (.lst xs) = false ∧ (∀ ps, HO.lst xs ≠ .tbl ps) ∧ ∀ φ, HO.lst xs ≠ .ext φ := ⟨rfl, fun _ z => HO.noConfusion z, fun _ z => HO.noConfusion z⟩
theorem dKU {xs : List (Key × V)} : stab (.dK xs) = false ∧ (∀ ps, HO.dK xs ≠ .tbl ps) ∧ ∀ φ, HO.dK xs ≠ .ext φ := ⟨rfl, fun _ z => HO.noConfusion z, fun _ z => HO.noConfusion z⟩

/-! ### locking -/
theorem ntL {xs : List V} : (∀ ys, HO.lst xs ≠ .tup ys) ∧ (∀ o v, HO.lst xs ≠ .frz o v) ∧ (∀ ps, HO.lst xs ≠ .tbl ps) ∧ ∀ x, HO.lst xs ≠ .own x :=
  ⟨fun _ z => HO.noConfusion z, fun _ _ z => HO.noConfusion z, fun _ z => HO.noConfusion z, fun _ z => HO.noConfusion z⟩
theorem ntD {xs : List (Key × V)} : (∀ ys, HO.dK xs ≠ .tup ys) ∧ (∀ o v, HO.dK xs ≠ .frz o v) ∧ (∀ ps, HO.dK xs ≠ .tbl ps) ∧ ∀ x, HO.dK xs ≠ .own x :=
  ⟨fun _ z => HO.noConfusion z, fun _ _ z => HO.noConfusion z, fun _ z => HO.noConfusion z, fun _ z => HO.noConfusion z⟩
theorem inv_frz {X : Cx} {pins : List (Addr × Obj)} {σ : St} {H : Hp} {s : Shared} {a : Addr} {u : HO} (I : Inv X pins σ H s) (h : H a = some u) (hu : (∃ xs, u = .lst xs) ∨ ∃ ks, u = .dK ks) : ∃ o, Inv X pins σ (upd H a (.frz o u)) s := by
  have nt : (∀ xs, u ≠ .tup xs) ∧ (∀ o v, u ≠ .frz o v) ∧ (∀ ps, u ≠ .tbl ps) ∧ ∀ x, u ≠ .own x := by
    rcases hu with ⟨xs, rfl⟩ | ⟨ks, rfl⟩
    · exact ntL
    · exact ntD
  obtain ⟨o, ho⟩ : ∃ o, s.heap.get? a = some o := by
    have x := I.hok a u h
    rcases hu with ⟨xs, rfl⟩ | ⟨ks, rfl⟩
    · obtain ⟨_, _, _, _, e⟩ := x; exact ⟨_, e⟩
    · obtain ⟨_, _, _, _, o, _, _, e, _⟩ := x; exact ⟨_, e⟩
  have ne : ∀ b w, H b = some w → (u ≠ w) → b ≠ a := fun b w e d z => by
    subst z; rw [h] at e; exact d (Option.some.inj e)
  have nn : ∀ b, H b = none → b ≠ a := fun b e z => by subst z; rw [h] at e; cases e
  refine ⟨o, ?_⟩
  have U : Un X.fs [] H (upd H a (.frz o u)) s.heap s.heap :=
    ⟨fun b q e _ _ _ => e, fun b q e _ _ _ => ⟨q.slots, e⟩, fun b q e n _ => by rw [upd_ne (nn b n)]; exact n, fun b q e _ => ⟨q, e⟩,
     fun b xs e => by rw [upd_ne (ne b _ e (nt.1 xs))]; exact e, fun b q v e => by rw [upd_ne (ne b _ e (nt.2.1 q v))]; exact e, fun b ps e => ⟨#[], by rw [upd_ne (ne b _ e (nt.2.2.1 ps)), e]; simp⟩⟩
  have K : HOk X.prog X.w (upd H a (.frz o u)) s.heap := fun b w e => by
    by_cases z : b = a
    · subst z
      rw [upd_same] at e
      cases e
      refine ⟨ho, ?_⟩
      have x := I.hok b u h
      rcases hu with ⟨xs, rfl⟩ | ⟨ks, rfl⟩
      · exact x
      · exact x
    · rw [upd_ne z] at e
      refine (I.hok b w e).stay (fun _ _ _ q => q) (fun c q => ?_) fun c xs q => ?_
      · rw [upd_ne (ne c _ q (nt.2.2.2 b))]; exact q
      · rw [upd_ne (ne c _ q (nt.1 xs))]; exact q
  have J := I.un (t' := s.toks) U K
  exact J
/-- the end may lock the new list or dict -/
def FzK (Q : VK) : VK := fun v H => Q v H ∨ ∃ a u, v = .ref a ∧ H a = some u ∧ ((∃ xs, u = .lst xs) ∨ ∃ ks, u = .dK ks) ∧ ∀ o, Q v (upd H a (.frz o u))
theorem PE.fz {X : Cx} {x : Expr} {t : TE} (h : PE X x t) : PE X x (fun σ H Q => t σ H (FzK Q)) := ⟨fun pins s σ H Q I q => by
  refine thn (h.run pins s σ H (FzK Q) I q) fun u s1 ⟨v, H1, I1, r1, q1⟩ => ?_
  rcases q1 with q1 | ⟨a, w, e, ha, hw, q1⟩
  · exact ⟨v, H1, I1, r1, q1⟩
  · obtain ⟨o, I2⟩ := inv_frz I1 ha hw
    exact ⟨v, _, I2, r1, q1 o⟩⟩
section
variable {C : Cfg} {μ μ' : List Addr} {H H' : Hp} {hp : PH} {Q : VK} {p : Addr} {e : EI} {E : XK}
theorem fE.up {q : PV} (h : fE C μ H Q q hp) (u : Up μ H μ' H') : fE C μ' H' Q q hp := fun μ2 H2 v u2 => h μ2 H2 v (u.trans u2)
/-- a new tuple -/
theorem fE.newT {ps : List PV} {vs : List V} (q : fE C μ H Q (.tup ps) hp) (r : HR C μ H hp) (rv : RVs C.K μ H ps vs) (h : H p = none) : Q (.ref p) (upd H p (.tup vs)) := by
  have u : Up μ H μ (upd H p (.tup vs)) := Up.fresh h
  refine q μ _ (.ref p) u (r.fresh h) ?_
  simp only [RV]
  exact ⟨p, vs, rfl, SqT.of upd_same, RVs.up u _ _ rv⟩
/-- a new list, locked -/
theorem fE.newL {ps : List PV} {vs : List V} (q : fE C μ H Q (.lst ps) hp) (r : HR C μ H hp) (rv : RVs C.K μ H ps vs) (h : H p = none) : FzK Q (.ref p) (upd H p (.lst vs)) := by
  refine .inr ⟨p, .lst vs, rfl, upd_same, .inl ⟨_, rfl⟩, fun o => ?_⟩
  rw [upd_upd]
  have u : Up μ H μ (upd H p (.frz o (.lst vs))) := Up.fresh h
  refine q μ _ (.ref p) u (r.fresh h) ?_
  simp only [RV]
  exact ⟨p, vs, rfl, ⟨o, upd_same⟩, RVs.up u _ _ rv⟩
theorem fE.newD {ps : List (Key × PV)} {vs : List (Key × V)} (q : fE C μ H Q (.dct ps) hp) (r : HR C μ H hp) (rv : RKs C.K μ H ps vs) (h : H p = none) : FzK Q (.ref p) (upd H p (.dK vs)) := by
  refine .inr ⟨p, .dK vs, rfl, upd_same, .inr ⟨_, rfl⟩, fun o => ?_⟩
  rw [upd_upd]
  have u : Up μ H μ (upd H p (.frz o (.dK vs))) := Up.fresh h
  refine q μ _ (.ref p) u (r.fresh h) ?_
  simp only [RV]
  exact ⟨p, vs, rfl, ⟨o, upd_same⟩, RKs.up u _ _ rv⟩
/-- a new list that is to change -/
theorem fE.newM {ps : List PV} {vs : List V} (q : ∀ n, hp n = none → fE C μ H Q (.loc n) (put hp n (.lst ps))) (r : HR C μ H hp) (rv : RVs C.K μ H ps vs) (h : H p = none) (hf : nls ps = true) : FzK Q (.ref p) (upd H p (.lst vs)) := by
  have u : Up μ H (μ ++ [p]) (upd H p (.lst vs)) := Up.growF h
  refine .inl (q μ.length (r.nomore (Nat.le_refl _)) _ _ (.ref p) u (r.newC h ⟨vs, upd_same, RVs.up u _ _ rv⟩ hf) ?_)
  simp only [RV]
  exact ⟨p, rfl, by simp⟩
theorem fE.newMD {ps : List (Key × PV)} {vs : List (Key × V)} (q : ∀ n, hp n = none → fE C μ H Q (.loc n) (put hp n (.dct ps))) (r : HR C μ H hp) (rv : RKs C.K μ H ps vs) (h : H p = none) (hf : flC (.dct ps) = true) : FzK Q (.ref p) (upd H p (.dK vs)) := by
  have u : Up μ H (μ ++ [p]) (upd H p (.dK vs)) := Up.growF h
  refine .inl (q μ.length (r.nomore (Nat.le_refl _)) _ _ (.ref p) u (r.newC h ⟨vs, upd_same, RKs.up u _ _ rv⟩ hf) ?_)
  simp only [RV]
  exact ⟨p, rfl, by simp⟩
end

/-! ### a thing's list -/
def asL (hp : PH) : PV → Option (List PV)
  | .lst ps => some ps
  | .loc n => match hp n with
    | some (.lst ps) => some ps
    | _ => none
  | _ => none
def asD (hp : PH) : PV → Option (List (Key × PV))
  | .dct ks => some ks
  | .loc n => match hp n with
    | some (.dct ks) => some ks
    | _ => none
  | _ => none
section
variable {C : Cfg} {μ : List Addr} {H : Hp} {hp : PH}
theorem asL_loc {n : Nat} {ps : List PV} (h : asL hp (.loc n) = some ps) : hp n = some (.lst ps) := by
  simp only [asL] at h
  split at h
  · rename_i e
    rw [e]; cases h; rfl
  · cases h
theorem asD_loc {n : Nat} {ps : List (Key × PV)} (h : asD hp (.loc n) = some ps) : hp n = some (.dct ps) := by
  simp only [asD] at h
  split at h
  · rename_i e
    rw [e]; cases h; rfl
  · cases h
theorem asL_rd (r : HR C μ H hp) : ∀ {p : PV} {v : V} {ps : List PV}, RV C.K μ H p v → asL hp p = some ps → ∃ a vs, v = .ref a ∧ Rd H a (.lst vs) ∧ RVs C.K μ H ps vs
  | .lst qs, v, ps, rv, h => by
    simp only [asL, Option.some.injEq] at h
    subst h
    simp only [RV] at rv
    obtain ⟨a, vs, e, f, r⟩ := rv
    exact ⟨a, vs, e, .inr f, r⟩
  | .loc n, v, ps, rv, h => by
    have e := asL_loc h
    obtain ⟨a, e1, vs, e2, e3⟩ := r.cell n _ e
    simp only [RV] at rv
    obtain ⟨b, e4, e5⟩ := rv
    rw [e1] at e5
    cases e5
    exact ⟨a, vs, e4, .inl e2, e3⟩
  | .non, _, _, _, h => by simp [asL] at h
  | .bl _, _, _, _, h => by simp [asL] at h
  | .int _, _, _, _, h => by simp [asL] at h
  | .str _, _, _, _, h => by simp [asL] at h
  | .tup _, _, _, _, h => by simp [asL] at h
  | .dct _, _, _, _, h => by simp [asL] at h
  | .ref _, _, _, _, h => by simp [asL] at h
theorem asL_sq (r : HR C μ H hp) {p : PV} {v : V} {ps : List PV} (h : RV C.K μ H p v) (e : asL hp p = some ps) : ∃ a vs, v = .ref a ∧ SqL C.K H a vs ∧ RVs C.K μ H ps vs := by
  obtain ⟨a, vs, e1, e2, e3⟩ := asL_rd r h e
  exact ⟨a, vs, e1, .inl e2, e3⟩
theorem asD_rd (r : HR C μ H hp) : ∀ {p : PV} {v : V} {ps : List (Key × PV)}, RV C.K μ H p v → asD hp p = some ps → ∃ a vs, v = .ref a ∧ Rd H a (.dK vs) ∧ RKs C.K μ H ps vs
  | .dct qs, v, ps, rv, h => by
    simp only [asD, Option.some.injEq] at h
    subst h
    simp only [RV] at rv
    obtain ⟨a, vs, e, f, r⟩ := rv
    exact ⟨a, vs, e, .inr f, r⟩
  | .loc n, v, ps, rv, h => by
    have e := asD_loc h
    obtain ⟨a, e1, vs, e2, e3⟩ := r.cell n _ e
    simp only [RV] at rv
    obtain ⟨b, e4, e5⟩ := rv
    rw [e1] at e5
    cases e5
    exact ⟨a, vs, e4, .inl e2, e3⟩
  | .non, _, _, _, h => by simp [asD] at h
  | .bl _, _, _, _, h => by simp [asD] at h
  | .int _, _, _, _, h => by simp [asD] at h
  | .str _, _, _, _, h => by simp [asD] at h
  | .tup _, _, _, _, h => by simp [asD] at h
  | .lst _, _, _, _, h => by simp [asD] at h
  | .ref _, _, _, _, h => by simp [asD] at h
/-- inversions -/
theorem RV.intI {K : PySem.W.Frag} {i : Int} {v : V} (h : RV K μ H (.int i) v) : v = .int i := by simpa only [RV] using h
theorem RV.strI {K : PySem.W.Frag} {i : Str} {v : V} (h : RV K μ H (.str i) v) : v = .str i := by simp only [RV] at h; exact h.1
theorem RV.strL {K : PySem.W.Frag} {i : Str} {v : V} (h : RV K μ H (.str i) v) : i.length ≤ sizeLine := by simp only [RV] at h; exact h.2
theorem RV.blI {K : PySem.W.Frag} {i : Bool} {v : V} (h : RV K μ H (.bl i) v) : v = .bl i := by simpa only [RV] using h
theorem RV.nonI {K : PySem.W.Frag} {v : V} (h : RV K μ H .non v) : v = .non := by simpa only [RV] using h
theorem RV.refI {K : PySem.W.Frag} {v : V} {a : Addr} (h : RV K μ H (.ref a) v) : v = .ref a := by simpa only [RV] using h
theorem RV.tupI {K : PySem.W.Frag} {v : V} {ps : List PV} (h : RV K μ H (.tup ps) v) : ∃ a vs, v = .ref a ∧ SqT K H a vs ∧ RVs K μ H ps vs := by simpa only [RV] using h
theorem RV.locI {K : PySem.W.Frag} {v : V} {n : Nat} (h : RV K μ H (.loc n) v) : ∃ a, v = .ref a ∧ μ[n]? = some a := by simpa only [RV] using h
theorem RV.dctI {K : PySem.W.Frag} {v : V} {ps : List (Key × PV)} (h : RV K μ H (.dct ps) v) : ∃ a vs, v = .ref a ∧ FzD H a vs ∧ RKs K μ H ps vs := by simpa only [RV] using h
theorem RV.lstI {K : PySem.W.Frag} {v : V} {ps : List PV} (h : RV K μ H (.lst ps) v) : ∃ a vs, v = .ref a ∧ FzL H a vs ∧ RVs K μ H ps vs := by simpa only [RV] using h
theorem RV.int' {K : PySem.W.Frag} {i : Int} : RV K μ H (.int i) (.int i) := by simp only [RV]
theorem RV.str' {K : PySem.W.Frag} {i : Str} (h : i.length ≤ sizeLine) : RV K μ H (.str i) (.str i) := by simp only [RV]; exact ⟨trivial, h⟩
theorem one_le : (1 : Nat) ≤ sizeLine := by rw [PySem.sizeLine_eq]; decide
/-- one sign -/
theorem RV.str1 {K : PySem.W.Frag} {c : Nat} : RV K μ H (.str ⟨#[c]⟩) (.str ⟨#[c]⟩) := RV.str' one_le
theorem RV.bl' {K : PySem.W.Frag} {i : Bool} : RV K μ H (.bl i) (.bl i) := by simp only [RV]
theorem RV.non' {K : PySem.W.Frag} : RV K μ H .non .non := by simp only [RV]
end

/-! ### names and constants -/
def wVar (i : Nat) : WE := fun σ hp _ Q => ∃ p, σ[i]? = some (some p) ∧ Q p hp
def wC (p : PV) : WE := fun _ hp _ Q => Q p hp
section
variable {X : Cx} {C : Cfg} {E : XK}
theorem re_var {i : Nat} {x : Str} {pos : Pos} (hN : X.N[i]? = some x) (hv : Vis X.env.scope x) (hd : (x == ("__debug__" : Str)) = false) (hcd : (x == ("__classdict__" : Str)) = false) : RE X C E (.Name x pos) (wVar i) := by
  refine ⟨fun σ hp e Q Q' h ⟨p, e1, q⟩ => ⟨p, e1, h _ _ q⟩, PE.imp (pe_var hN hv hd hcd) fun σ H Q ⟨μ, hp, σI, e, a, s, p, e1, q⟩ => ?_⟩
  obtain ⟨v, e2, r⟩ := s.get i p e1
  exact ⟨v, e2, q.here a r⟩
theorem re_c {x : Expr} {v : V} {p : PV} (h : PE X x (tC v)) (r : ∀ μ H, RV C.K μ H p v) : RE X C E x (wC p) := by
  refine ⟨fun σ hp e Q Q' h q => h _ _ q, PE.imp h fun σ H Q ⟨μ, hp, σI, e, a, s, q⟩ => ?_⟩
  exact q.here a (r _ _)
end

/-! ### operators by values -/
abbrev G2 := PV → PV → PH → KI → Prop
structure LOp (C : Cfg) (r : R2) (g : G2) : Prop where
  mo : ∀ p q hp Q Q', (∀ z h, Q z h → Q' z h) → g p q hp Q → g p q hp Q'
  ok : ∀ μ H hp p q v u Q, HR C μ H hp → RV C.K μ H p v → RV C.K μ H q u → g p q hp (fE C μ H Q) → r v u H (FzK Q)
def wOp (g : G2) (a b : WE) : WE := fun σ hp e Q => a σ hp e fun x h1 => b σ h1 e fun y h2 => g x y h2 Q
abbrev G1 := PV → PH → KI → Prop
structure LUn (C : Cfg) (r : V → Hp → VK → Prop) (g : G1) : Prop where
  mo : ∀ p hp Q Q', (∀ z h, Q z h → Q' z h) → g p hp Q → g p hp Q'
  ok : ∀ μ H hp p v Q, HR C μ H hp → RV C.K μ H p v → g p hp (fE C μ H Q) → r v H (FzK Q)
def wUn (g : G1) (a : WE) : WE := fun σ hp e Q => a σ hp e fun x h1 => g x h1 Q
section
variable {X : Cx} {C : Cfg} {E : XK} {a b : Expr} {wa wb : WE} {pos : Pos}
theorem op_mo {r : R2} {g : G2} (L : LOp C r g) (ha : MoE wa) (hb : MoE wb) : MoE (wOp g wa wb) := fun σ hp e Q Q' h q =>
  ha _ _ _ _ _ (fun x h1 q1 => hb _ _ _ _ _ (fun y h2 q2 => L.mo _ _ _ _ _ h q2) q1) q
theorem op_go {r : R2} {g : G2} (L : LOp C r g) (ha : MoE wa) (hb : MoE wb) {σ : St} {H : Hp} {Q : VK} (h : tE C E (wOp g wa wb) σ H Q) : tOp r (tE C E wa) (tE C E wb) σ H (FzK Q) := by
  obtain ⟨μ, hp, σI, e, A, s, q⟩ := h
  refine tE.go ha A s q fun x h1 μ1 H1 v q1 u1 A1 s1 r1 => ?_
  refine tE.go hb A1 s1 q1 fun y h2 μ2 H2 w q2 u2 A2 s2 r2 => ?_
  exact L.ok μ2 H2 h2 x y v w Q A2.hr (RV.up u2 _ _ r1) r2 (L.mo _ _ _ _ _ (fun z h q => q.up (u1.trans u2)) q2)
theorem re_op {op : Operator} {r : R2} {g : G2} (L : LOp C r g) (ho : OpR X (binaryOp op) r) (ha : RE X C E a wa) (hb : RE X C E b wb) : RE X C E (.BinOp a op b pos) (wOp g wa wb) :=
  ⟨op_mo L ha.mo hb.mo, PE.imp (PE.fz (pe_op ho ha.pe hb.pe)) fun σ H Q h => op_go L ha.mo hb.mo h⟩
theorem re_ix {r : R2} {g : G2} (L : LOp C r g) (ho : IxR X r) (ha : RE X C E a wa) (hb : RE X C E b wb) (hs : PlainIx b) : RE X C E (.Subscript a b pos) (wOp g wa wb) :=
  ⟨op_mo L ha.mo hb.mo, PE.imp (PE.fz (pe_ix ho ha.pe hb.pe hs)) fun σ H Q h => op_go L ha.mo hb.mo h⟩
theorem re_un {op : UnaryOp} {r : V → Hp → VK → Prop} {g : G1} (L : LUn C r g) (ho : UnR X (unaryOp op) r) (ha : RE X C E a wa) : RE X C E (.UnaryOp op a pos) (wUn g wa) := by
  refine ⟨fun σ hp e Q Q' h q => ha.mo _ _ _ _ _ (fun x h1 q1 => L.mo _ _ _ _ h q1) q, PE.imp (PE.fz (pe_un ho ha.pe)) fun σ H Q h => ?_⟩
  obtain ⟨μ, hp, σI, e, A, s, q⟩ := h
  refine tE.go ha.mo A s q fun x h1 μ1 H1 v q1 u1 A1 s1 r1 => ?_
  exact L.ok μ1 H1 h1 x v Q A1.hr r1 (L.mo _ _ _ _ (fun z h q => q.up u1) q1)
end
end RF

set_option Elab.async false
set_option linter.all false
set_option maxRecDepth 100000
set_option maxHeartbeats 400000
/-! Part 3: tests, arguments, displays, calls of defs, statements. -/
namespace RF
open PySem PySem.Spec L2

/-! ### truth and tests -/
def truP (p : PV) (hp : PH) (k : Bool) : Prop :=
  match p with
  | .non => k = false
  | .bl b => k = b
  | .int i => k = (i != 0)
  | .str y => k = ((y.length : Int) != 0)
  | .tup ps => k = !ps.isEmpty
  | p => ∃ ps, asL hp p = some ps ∧ k = !ps.isEmpty
theorem RVs.isEmpty {K : PySem.W.Frag} {μ : List Addr} {H : Hp} {ps : List PV} {vs : List V} (r : RVs K μ H ps vs) : vs.isEmpty = ps.isEmpty := by
  have h := r.length
  cases ps <;> cases vs <;> simp_all
theorem truP.v {C : Cfg} {μ : List Addr} {H : Hp} {hp : PH} (r : HR C μ H hp) : ∀ {p : PV} {v : V} {k : Bool}, RV C.K μ H p v → truP p hp k → TruV C.K v H k := by
  intro p v k rv h
  have seq : ∀ {p : PV}, RV C.K μ H p v → (∃ ps, asL hp p = some ps ∧ k = !ps.isEmpty) → TruV C.K v H k := by
    intro p rv ⟨ps, e, ek⟩
    obtain ⟨a, vs, e1, e2, e3⟩ := asL_sq r rv e
    subst e1
    exact .inl ⟨vs, e2, by rw [ek, e3.isEmpty]⟩
  cases p with
  | non => rw [rv.nonI]; exact h
  | bl b => rw [rv.blI]; exact h
  | int i => rw [rv.intI]; exact h
  | str y => rw [rv.strI]; exact ⟨rv.strL, h⟩
  | tup ps =>
    obtain ⟨a, vs, e1, e2, e3⟩ := rv.tupI
    subst e1
    have h : k = !ps.isEmpty := h
    exact .inr (.inl ⟨vs, e2, by rw [h, e3.isEmpty]⟩)
  | lst ps => exact seq rv h
  | dct ks => exact seq rv h
  | loc n => exact seq rv h
  | ref a => exact seq rv h
def wTru (w : WE) : WT := fun σ hp e Q => w σ hp e fun p h => ∃ k, truP p h k ∧ Q k h
def wTB (w : WE) : WT := fun σ hp e Q => w σ hp e fun p h => ∃ k, p = .bl k ∧ Q k h
def wAndT (a b : WT) : WT := fun σ hp e Q => a σ hp e fun c h => if c = true then b σ h e Q else Q false h
def wOrT (a b : WT) : WT := fun σ hp e Q => a σ hp e fun c h => if c = true then Q true h else b σ h e Q
def wNotT (a : WT) : WT := fun σ hp e Q => a σ hp e fun c h => Q (!c) h
structure RW (X : Cx) (C : Cfg) (E : XK) (x : Expr) (w : WT) : Prop where
  mo : MoT w
  pw : PW X x (tT C E w)
theorem ite_mono {c : Prop} [Decidable c] {A B A' B' : Prop} (h1 : A → A') (h2 : B → B') (h : if c then A else B) : if c then A' else B' := by
  by_cases z : c
  · rw [if_pos z] at h ⊢; exact h1 h
  · rw [if_neg z] at h ⊢; exact h2 h
section
variable {C : Cfg} {μ μ' : List Addr} {H H' : Hp} {hp : PH}
theorem fT.up {Q : Bool → Hp → Prop} {b : Bool} (h : fT C μ H Q b hp) (u : Up μ H μ' H') : fT C μ' H' Q b hp := fun μ2 H2 u2 => h μ2 H2 (u.trans u2)
theorem fT.here {Q : Bool → Hp → Prop} {b : Bool} (h : fT C μ H Q b hp) (r : HR C μ H hp) : Q b H := h μ H .refl r
theorem fA.up {Q : List V → Hp → Prop} {b : List PV} (h : fA C μ H Q b hp) (u : Up μ H μ' H') : fA C μ' H' Q b hp := fun μ2 H2 v u2 => h μ2 H2 v (u.trans u2)
theorem fA.here {Q : List V → Hp → Prop} {b : List PV} {vs : List V} (h : fA C μ H Q b hp) (r : HR C μ H hp) (rv : RVs C.K μ H b vs) : Q vs H := h μ H vs .refl r rv
theorem fN.up {Q : St → Hp → Prop} {b : SI} (h : fN C μ H Q b hp) (u : Up μ H μ' H') : fN C μ' H' Q b hp := fun μ2 H2 v u2 => h μ2 H2 v (u.trans u2)
theorem fN.here {Q : St → Hp → Prop} {b : SI} {σ : St} (h : fN C μ H Q b hp) (r : HR C μ H hp) (rv : SR C μ H b σ) : Q σ H := h μ H σ .refl r rv
theorem fD.up {D : Ends} (u : Up μ H μ' H') : (fD C μ H D).le (fD C μ' H' D) := ⟨fun _ _ h => fN.up h u, fun _ _ h => fE.up h u, fun _ _ h => fN.up h u, fun _ _ h => fN.up h u⟩
theorem DI.le.refl {D : DI} : D.le D := ⟨fun _ _ h => h, fun _ _ h => h, fun _ _ h => h, fun _ _ h => h⟩
theorem DI.le.trans {D D1 D2 : DI} (a : D.le D1) (b : D1.le D2) : D.le D2 := ⟨fun _ _ h => b.nx _ _ (a.nx _ _ h), fun _ _ h => b.rt _ _ (a.rt _ _ h), fun _ _ h => b.bk _ _ (a.bk _ _ h), fun _ _ h => b.ct _ _ (a.ct _ _ h)⟩
end
section
variable {X : Cx} {C : Cfg} {E : XK} {a b : Expr} {wa wb : WE} {ta tb : WT} {rest : List Expr} {pos : Pos}
theorem truMo (h : MoE wa) : MoT (wTru wa) := fun σ hp e Q Q' i q => h _ _ _ _ _ (fun p h' ⟨k, e1, q1⟩ => ⟨k, e1, i _ _ q1⟩) q
theorem tbMo (h : MoE wa) : MoT (wTB wa) := fun σ hp e Q Q' i q => h _ _ _ _ _ (fun p h' ⟨k, e1, q1⟩ => ⟨k, e1, i _ _ q1⟩) q
/-- any expression of whose value the truth is asked -/
theorem rt_tru (hK : X.K = C.K) (ha : RE X C E a wa) (he : ∀ whole, isTrue a X.env whole = (do let v ← whole; standAt a.pos; holding [v] (truthy v))) : RT X C E a (wTru wa) := by
  refine ⟨truMo ha.mo, PT.imp (pt_truth ha.pe he) fun σ H Q ⟨μ, hp, σI, e, A, s, q⟩ => ?_⟩
  refine tE.go ha.mo A s q fun p h μ1 H1 v ⟨k, e1, q1⟩ u1 A1 s1 r1 => ⟨k, ?_, (q1.up u1).here A1.hr⟩
  rw [hK]
  exact truP.v A1.hr r1 e1
end

/-! ### comparisons -/
abbrev G3 := PV → PV → PH → Bool → Prop
structure LCp (C : Cfg) (r : R2) (c : G3) : Prop where
  ok : ∀ μ H hp p q v u b, HR C μ H hp → RV C.K μ H p v → RV C.K μ H q u → c p q hp b → ∀ Q : VK, Q (.bl b) H → r v u H Q
def wCmp (c : G3) (a b : WE) : WE := fun σ hp e Q => a σ hp e fun x h1 => b σ h1 e fun y h2 => ∃ k, c x y h2 k ∧ Q (.bl k) h2
def wCmpT (c : G3) (a b : WE) : WT := fun σ hp e Q => a σ hp e fun x h1 => b σ h1 e fun y h2 => ∃ k, c x y h2 k ∧ Q k h2
def wCh (c c' : G3) (a b d : WE) : WE := fun σ hp e Q => a σ hp e fun x h1 => b σ h1 e fun y h2 => ∃ k, c x y h2 k ∧ if k = true then d σ h2 e fun z h3 => ∃ k', c' y z h3 k' ∧ Q (.bl k') h3 else Q (.bl false) h2
def wChT (c c' : G3) (a b d : WE) : WT := fun σ hp e Q => a σ hp e fun x h1 => b σ h1 e fun y h2 => ∃ k, c x y h2 k ∧ if k = true then d σ h2 e fun z h3 => ∃ k', c' y z h3 k' ∧ Q k' h3 else Q false h2
section
variable {X : Cx} {C : Cfg} {E : XK} {a b d : Expr} {wa wb wd : WE} {ta tb : WT} {rest : List Expr} {pos : Pos}
theorem re_cmp {op : CmpOp} {r : R2} {c : G3} (L : LCp C r c) (ho : OpR X (compareOp op) r) (ha : RE X C E a wa) (hb : RE X C E b wb) (hm : behindInMarks op b = false) : RE X C E (.Compare a [op] [b] pos) (wCmp c wa wb) := by
  refine ⟨fun σ hp e Q Q' h q => ha.mo _ _ _ _ _ (fun x h1 q1 => hb.mo _ _ _ _ _ (fun y h2 ⟨k, k1, q2⟩ => ⟨k, k1, h _ _ q2⟩) q1) q, PE.imp (pe_cmpR ho ha.pe hb.pe hm) fun σ H Q ⟨μ, hp, σI, e, A, s, q⟩ => ?_⟩
  refine tE.go ha.mo A s q fun x h1 μ1 H1 v q1 u1 A1 s1 r1 => ?_
  refine tE.go hb.mo A1 s1 q1 fun y h2 μ2 H2 w ⟨k, k1, q2⟩ u2 A2 s2 r2 => ?_
  exact L.ok μ2 H2 h2 x y v w k A2.hr (RV.up u2 _ _ r1) r2 k1 Q ((q2.up (u1.trans u2)).here A2 .bl')
theorem rt_cmp {op : CmpOp} {r : R2} {c : G3} (L : LCp C r c) (ho : OpR X (compareOp op) r) (ha : RE X C E a wa) (hb : RE X C E b wb) (hm : behindInMarks op b = false) : RT X C E (.Compare a [op] [b] pos) (wCmpT c wa wb) := by
  refine ⟨fun σ hp e Q Q' h q => ha.mo _ _ _ _ _ (fun x h1 q1 => hb.mo _ _ _ _ _ (fun y h2 ⟨k, k1, q2⟩ => ⟨k, k1, h _ _ q2⟩) q1) q, PT.imp (pt_cmpR ho ha.pe hb.pe hm) fun σ H Q ⟨μ, hp, σI, e, A, s, q⟩ => ?_⟩
  refine tE.go ha.mo A s q fun x h1 μ1 H1 v q1 u1 A1 s1 r1 => ?_
  refine tE.go hb.mo A1 s1 q1 fun y h2 μ2 H2 w ⟨k, k1, q2⟩ u2 A2 s2 r2 => ?_
  exact L.ok μ2 H2 h2 x y v w k A2.hr (RV.up u2 _ _ r1) r2 k1 _ ⟨k, rfl, (q2.up (u1.trans u2)).here A2.hr⟩
theorem re_chain {op op' : CmpOp} {r r' : R2} {c c' : G3} (L : LCp C r c) (L' : LCp C r' c') (ho : OpR X (compareOp op) r) (ho' : OpR X (compareOp op') r') (ha : RE X C E a wa) (hb : RE X C E b wb) (hd : RE X C E d wd) (hm : lastMarks [op, op'] [b, d] = false) :
    RE X C E (.Compare a [op, op'] [b, d] pos) (wCh c c' wa wb wd) := by
  refine ⟨fun σ hp e Q Q' h q => ha.mo _ _ _ _ _ (fun x h1 q1 => hb.mo _ _ _ _ _ (fun y h2 ⟨k, k1, q2⟩ => ⟨k, k1, ite_mono (hd.mo _ _ _ _ _ fun z h3 ⟨k', k2, q3⟩ => ⟨k', k2, h _ _ q3⟩) (h _ _) q2⟩) q1) q,
    PE.imp (pe_chain ho ho' ha.pe hb.pe hd.pe hm) fun σ H Q ⟨μ, hp, σI, e, A, s, q⟩ => ?_⟩
  refine tE.go ha.mo A s q fun x h1 μ1 H1 v q1 u1 A1 s1 r1 => ?_
  refine tE.go hb.mo A1 s1 q1 fun y h2 μ2 H2 w ⟨k, k1, q2⟩ u2 A2 s2 r2 => ?_
  refine L.ok μ2 H2 h2 x y v w k A2.hr (RV.up u2 _ _ r1) r2 k1 _ ⟨k, rfl, ite_mono (fun q2 => ?_) (fun q2 => (q2.up (u1.trans u2)).here A2 .bl') q2⟩
  refine tE.go hd.mo A2 s2 q2 fun z h3 μ3 H3 w3 ⟨k', k2, q3⟩ u3 A3 s3 r3 => ?_
  exact L'.ok μ3 H3 h3 y z w w3 k' A3.hr (RV.up u3 _ _ r2) r3 k2 _ ((q3.up ((u1.trans u2).trans u3)).here A3 .bl')
theorem rt_chain {op op' : CmpOp} {r r' : R2} {c c' : G3} (L : LCp C r c) (L' : LCp C r' c') (ho : OpR X (compareOp op) r) (ho' : OpR X (compareOp op') r') (ha : RE X C E a wa) (hb : RE X C E b wb) (hd : RE X C E d wd) (hm : lastMarks [op, op'] [b, d] = false) :
    RT X C E (.Compare a [op, op'] [b, d] pos) (wChT c c' wa wb wd) := by
  refine ⟨fun σ hp e Q Q' h q => ha.mo _ _ _ _ _ (fun x h1 q1 => hb.mo _ _ _ _ _ (fun y h2 ⟨k, k1, q2⟩ => ⟨k, k1, ite_mono (hd.mo _ _ _ _ _ fun z h3 ⟨k', k2, q3⟩ => ⟨k', k2, h _ _ q3⟩) (h _ _) q2⟩) q1) q,
    PT.imp (pt_chain ho ho' ha.pe hb.pe hd.pe hm) fun σ H Q ⟨μ, hp, σI, e, A, s, q⟩ => ?_⟩
  refine tE.go ha.mo A s q fun x h1 μ1 H1 v q1 u1 A1 s1 r1 => ?_
  refine tE.go hb.mo A1 s1 q1 fun y h2 μ2 H2 w ⟨k, k1, q2⟩ u2 A2 s2 r2 => ?_
  refine L.ok μ2 H2 h2 x y v w k A2.hr (RV.up u2 _ _ r1) r2 k1 _ ⟨k, rfl, ite_mono (fun q2 => ?_) (fun q2 => ⟨false, rfl, (q2.up (u1.trans u2)).here A2.hr⟩) q2⟩
  refine tE.go hd.mo A2 s2 q2 fun z h3 μ3 H3 w3 ⟨k', k2, q3⟩ u3 A3 s3 r3 => ?_
  exact L'.ok μ3 H3 h3 y z w w3 k' A3.hr (RV.up u3 _ _ r2) r3 k2 _ ⟨k', rfl, (q3.up ((u1.trans u2).trans u3)).here A3.hr⟩
/-! ### and, or, not as tests -/
theorem rt_not (ha : RT X C E a ta) : RT X C E (.UnaryOp .Not a pos) (wNotT ta) :=
  ⟨fun σ hp e Q Q' h q => ha.mo _ _ _ _ _ (fun c h' q' => h _ _ q') q, PT.imp (pt_not ha.pt) fun σ H Q ⟨μ, hp, σI, e, A, s, q⟩ => tT.go ha.mo A s q fun b h μ1 H1 q1 u1 A1 s1 => (q1.up u1).here A1.hr⟩
theorem RW.rt (h : RW X C E a ta) : RT X C E a ta := ⟨h.mo, h.pw.pt⟩
theorem rw_and1 (ha : RT X C E a ta) : RW X C E (.BoolOp .And [a] pos) ta := ⟨ha.mo, pw_and1 ha.pt⟩
theorem rw_or1 (ha : RT X C E a ta) : RW X C E (.BoolOp .Or [a] pos) ta := ⟨ha.mo, pw_or1 ha.pt⟩
theorem rw_and (ha : RT X C E a ta) (hb : RW X C E (.BoolOp .And (b :: rest) pos) tb) : RW X C E (.BoolOp .And (a :: b :: rest) pos) (wAndT ta tb) :=
  ⟨fun σ hp e Q Q' h q => ha.mo _ _ _ _ _ (fun c h' q' => ite_mono (hb.mo _ _ _ _ _ h) (h _ _) q') q, PW.imp (pw_and ha.pt hb.pw) fun σ H Q ⟨μ, hp, σI, e, A, s, q⟩ => tT.go ha.mo A s q fun b h μ1 H1 q1 u1 A1 s1 =>
    ite_mono (fun q2 => tT.go hb.mo A1 s1 q2 fun b h μ2 H2 q3 u2 A2 s2 => (q3.up (u1.trans u2)).here A2.hr) (fun q2 => (fT.up q2 u1).here A1.hr) q1⟩
theorem rw_or (ha : RT X C E a ta) (hb : RW X C E (.BoolOp .Or (b :: rest) pos) tb) : RW X C E (.BoolOp .Or (a :: b :: rest) pos) (wOrT ta tb) :=
  ⟨fun σ hp e Q Q' h q => ha.mo _ _ _ _ _ (fun c h' q' => ite_mono (h _ _) (hb.mo _ _ _ _ _ h) q') q, PW.imp (pw_or ha.pt hb.pw) fun σ H Q ⟨μ, hp, σI, e, A, s, q⟩ => tT.go ha.mo A s q fun b h μ1 H1 q1 u1 A1 s1 =>
    ite_mono (fun q2 => (fT.up q2 u1).here A1.hr) (fun q2 => tT.go hb.mo A1 s1 q2 fun b h μ2 H2 q3 u2 A2 s2 => (q3.up (u1.trans u2)).here A2.hr) q1⟩
end

/-! ### and, or, not, a if t else b as values -/
def wNotV (a : WE) : WE := fun σ hp e Q => a σ hp e fun p h => ∃ k, truP p h k ∧ Q (.bl !k) h
def wAndV (a b : WE) : WE := fun σ hp e Q => a σ hp e fun p h => ∃ k, truP p h k ∧ if k = true then b σ h e Q else Q p h
def wOrV (a b : WE) : WE := fun σ hp e Q => a σ hp e fun p h => ∃ k, truP p h k ∧ if k = true then Q p h else b σ h e Q
def wIfE (t : WT) (a b : WE) : WE := fun σ hp e Q => t σ hp e fun c h => if c = true then a σ h e Q else b σ h e Q
section
variable {X : Cx} {C : Cfg} {E : XK} {a b t : Expr} {wa wb : WE} {wt : WT} {rest : List Expr} {pos : Pos}
theorem re_not (hK : X.K = C.K) (ha : RE X C E a wa) : RE X C E (.UnaryOp .Not a pos) (wNotV wa) :=
  ⟨fun σ hp e Q Q' h q => ha.mo _ _ _ _ _ (fun p h' ⟨k, k1, q'⟩ => ⟨k, k1, h _ _ q'⟩) q, PE.imp (pe_notT ha.pe) fun σ H Q ⟨μ, hp, σI, e, A, s, q⟩ => tE.go ha.mo A s q fun p h μ1 H1 v ⟨k, k1, q1⟩ u1 A1 s1 r1 =>
    ⟨k, by rw [hK]; exact truP.v A1.hr r1 k1, (q1.up u1).here A1 .bl'⟩⟩
theorem re_one {op : BoolOp} (ha : RE X C E a wa) : RE X C E (.BoolOp op [a] pos) wa := ⟨ha.mo, pe_one ha.pe⟩
theorem re_and (hK : X.K = C.K) (ha : RE X C E a wa) (hb : RE X C E (.BoolOp .And (b :: rest) pos) wb) : RE X C E (.BoolOp .And (a :: b :: rest) pos) (wAndV wa wb) :=
  ⟨fun σ hp e Q Q' h q => ha.mo _ _ _ _ _ (fun p h' ⟨k, k1, q'⟩ => ⟨k, k1, ite_mono (hb.mo _ _ _ _ _ h) (h _ _) q'⟩) q, PE.imp (pe_andT ha.pe hb.pe) fun σ H Q ⟨μ, hp, σI, e, A, s, q⟩ => tE.go ha.mo A s q fun p h μ1 H1 v ⟨k, k1, q1⟩ u1 A1 s1 r1 =>
    ⟨k, by rw [hK]; exact truP.v A1.hr r1 k1, ite_mono (fun q2 => tE.go hb.mo A1 s1 q2 fun p h μ2 H2 v q3 u2 A2 s2 r2 => (q3.up (u1.trans u2)).here A2 r2) (fun q2 => (fE.up q2 u1).here A1 r1) q1⟩⟩
theorem re_or (hK : X.K = C.K) (ha : RE X C E a wa) (hb : RE X C E (.BoolOp .Or (b :: rest) pos) wb) : RE X C E (.BoolOp .Or (a :: b :: rest) pos) (wOrV wa wb) :=
  ⟨fun σ hp e Q Q' h q => ha.mo _ _ _ _ _ (fun p h' ⟨k, k1, q'⟩ => ⟨k, k1, ite_mono (h _ _) (hb.mo _ _ _ _ _ h) q'⟩) q, PE.imp (pe_orT ha.pe hb.pe) fun σ H Q ⟨μ, hp, σI, e, A, s, q⟩ => tE.go ha.mo A s q fun p h μ1 H1 v ⟨k, k1, q1⟩ u1 A1 s1 r1 =>
    ⟨k, by rw [hK]; exact truP.v A1.hr r1 k1, ite_mono (fun q2 => (fE.up q2 u1).here A1 r1) (fun q2 => tE.go hb.mo A1 s1 q2 fun p h μ2 H2 v q3 u2 A2 s2 r2 => (q3.up (u1.trans u2)).here A2 r2) q1⟩⟩
theorem re_ifE (ht : RT X C E t wt) (ha : RE X C E a wa) (hb : RE X C E b wb) : RE X C E (.IfExp t a b pos) (wIfE wt wa wb) :=
  ⟨fun σ hp e Q Q' h q => ht.mo _ _ _ _ _ (fun c h' q' => ite_mono (ha.mo _ _ _ _ _ h) (hb.mo _ _ _ _ _ h) q') q, PE.imp (pe_ifExp ht.pt ha.pe hb.pe) fun σ H Q ⟨μ, hp, σI, e, A, s, q⟩ => tT.go ht.mo A s q fun c h μ1 H1 q1 u1 A1 s1 =>
    ite_mono (fun q2 => tE.go ha.mo A1 s1 q2 fun p h μ2 H2 v q3 u2 A2 s2 r2 => (q3.up (u1.trans u2)).here A2 r2) (fun q2 => tE.go hb.mo A1 s1 q2 fun p h μ2 H2 v q3 u2 A2 s2 r2 => (q3.up (u1.trans u2)).here A2 r2) q1⟩
end

/-! ### arguments, displays -/
def wNil : WA := fun _ hp _ Q => Q [] hp
def wCons (a : WE) (r : WA) : WA := fun σ hp e Q => a σ hp e fun p h => r σ h e fun ps h2 => Q (p :: ps) h2
def wTup (a : WA) : WE := fun σ hp e Q => a σ hp e fun ps h => ps.length ≤ sizeLine ∧ Q (.tup ps) h
def wLst (a : WA) : WE := fun σ hp e Q => a σ hp e fun ps h => ps.length ≤ sizeLine ∧ Q (.lst ps) h
def wLstM (a : WA) : WE := fun σ hp e Q => a σ hp e fun ps h => ps.length ≤ sizeLine ∧ nls ps = true ∧ ∀ n, h n = none → Q (.loc n) (put h n (.lst ps))
section
variable {X : Cx} {C : Cfg} {E : XK} {x : Expr} {es : List Expr} {wa : WE} {w : WA} {pos : Pos}
theorem ra_nil : RA X C E [] wNil := ⟨fun σ hp e Q Q' h q => h _ _ q, PA.imp pa_nil fun σ H Q ⟨μ, hp, σI, e, A, s, q⟩ => fA.here q A.hr .nil⟩
theorem ra_cons (hx : RE X C E x wa) (hr : RA X C E es w) (hs : starEach (x :: es) X.env = (false, eval x X.env) :: starEach es X.env) : RA X C E (x :: es) (wCons wa w) := by
  refine ⟨fun σ hp e Q Q' h q => hx.mo _ _ _ _ _ (fun p h1 q1 => hr.mo _ _ _ _ _ (fun ps h2 q2 => h _ _ q2) q1) q, PA.imp (pa_cons hx.pe hr.pa hs) fun σ H Q ⟨μ, hp, σI, e, A, s, q⟩ => ?_⟩
  refine tE.go hx.mo A s q fun p h1 μ1 H1 v q1 u1 A1 s1 r1 => ?_
  refine tA.go hr.mo A1 s1 q1 fun ps h2 μ2 H2 vs q2 u2 A2 s2 r2 => ?_
  exact (fA.up q2 (u1.trans u2)).here A2.hr (.cons (RV.up u2 _ _ r1) r2)
theorem re_tup {k : Nat} (ha : RA X C E es w) : RE X C E (.Tuple es k pos) (wTup w) := by
  refine ⟨fun σ hp e Q Q' h q => ha.mo _ _ _ _ _ (fun ps h1 ⟨l, q1⟩ => ⟨l, h _ _ q1⟩) q, PE.imp (pe_tup ha.pa) fun σ H Q ⟨μ, hp, σI, e, A, s, q⟩ => ?_⟩
  refine tA.go ha.mo A s q fun ps h1 μ1 H1 vs ⟨l, q1⟩ u1 A1 s1 r1 => ⟨by rw [r1.length]; exact l, fun p np => ?_⟩
  exact (q1.up u1).newT A1.hr r1 np
theorem re_lst (ha : RA X C E es w) : RE X C E (.List es pos) (wLst w) := by
  refine ⟨fun σ hp e Q Q' h q => ha.mo _ _ _ _ _ (fun ps h1 ⟨l, q1⟩ => ⟨l, h _ _ q1⟩) q, PE.imp (PE.fz (pe_lst ha.pa)) fun σ H Q ⟨μ, hp, σI, e, A, s, q⟩ => ?_⟩
  refine tA.go ha.mo A s q fun ps h1 μ1 H1 vs ⟨l, q1⟩ u1 A1 s1 r1 => ⟨by rw [r1.length]; exact l, fun p np => ?_⟩
  exact (q1.up u1).newL A1.hr r1 np
theorem re_lstM (ha : RA X C E es w) : RE X C E (.List es pos) (wLstM w) := by
  refine ⟨fun σ hp e Q Q' h q => ha.mo _ _ _ _ _ (fun ps h1 ⟨l, f, q1⟩ => ⟨l, f, fun n hn => h _ _ (q1 n hn)⟩) q, PE.imp (PE.fz (pe_lst ha.pa)) fun σ H Q ⟨μ, hp, σI, e, A, s, q⟩ => ?_⟩
  refine tA.go ha.mo A s q fun ps h1 μ1 H1 vs ⟨l, f, q1⟩ u1 A1 s1 r1 => ⟨by rw [r1.length]; exact l, fun p np => ?_⟩
  exact fE.newM (fun n hn => fE.up (q1 n hn) u1) A1.hr r1 np f
end

/-! ### a thing is locked where it is named: from here on it is its content -/
def wFrz (a : WE) : WE := fun σ hp e Q => a σ hp e fun p h => ∃ n ps, p = .loc n ∧ h n = some (.lst ps) ∧ Q (.lst ps) (drp h n)
section
variable {X : Cx} {C : Cfg} {E : XK} {x : Expr} {wa : WE}
theorem re_frz (ha : RE X C E x wa) : RE X C E x (wFrz wa) := by
  refine ⟨fun σ hp e Q Q' h q => ha.mo _ _ _ _ _ (fun p h1 ⟨n, ps, e1, e2, q1⟩ => ⟨n, ps, e1, e2, h _ _ q1⟩) q, PE.imp (PE.fz ha.pe) fun σ H Q ⟨μ, hp, σI, e, A, s, q⟩ => ?_⟩
  refine tE.go ha.mo A s q fun p h1 μ1 H1 v ⟨n, ps, e1, e2, q1⟩ u1 A1 s1 r1 => ?_
  subst e1
  obtain ⟨a, ev, ea⟩ := r1.locI
  obtain ⟨a', ea', vs, hv, rv⟩ := A1.hr.cell n _ e2
  rw [ea] at ea'
  cases ea'
  subst ev
  refine .inr ⟨a, .lst vs, rfl, hv, .inl ⟨_, rfl⟩, fun o => ?_⟩
  have u2 : Up μ1 H1 μ1 (upd H1 a (.frz o (.lst vs))) := Up.write ea hv rfl
  refine q1 μ1 _ (.ref a) (u1.trans u2) (A1.hr.drpW ea hv lstU) ?_
  simp only [RV]
  exact ⟨a, vs, rfl, ⟨o, upd_same⟩, RVs.up u2 _ _ rv⟩
end

/-! ### what a def means, its call -/
abbrev WF := List PV → PH → EI → KI → Prop
def MoF (w : WF) : Prop := ∀ ps hp e Q Q', (∀ p h, Q p h → Q' p h) → w ps hp e Q → w ps hp e Q'
def spI (C : Cfg) (n : Nat) (w : WF) : Sp := fun vs H Q E => vs.length = n ∧ ∃ μ hp ps e, At C E μ H hp e ∧ RVs C.K μ H ps vs ∧ w ps hp e (fE C μ H Q)
def wCall (f : WF) (a : WA) : WE := fun σ hp e Q => a σ hp e fun ps h => f ps h e Q
section
variable {X : Cx} {C : Cfg} {E : XK} {es : List Expr} {x : Expr} {w : WA} {f : WF} {pos p : Pos} {n k : Nat} {fa : Addr} {fd : FuncData} {ps : List Str} {nm : Str}
theorem re_call (F : FnOk X.prog X.w X.K X.mg X.base (L2.CX X.prog X.w) k fa fd ps (spI C n f)) (mf : MoF f) (tk : Takes X (fun cls d _ H => E cls d H)) (hr : Room k X.A) (hg : Gl X nm) (hm : X.mg nm = some (.ref fa)) (hk : PySem.W.keepIn X.K (.ref fa) = true) (hb : Binds X.K fd ps [])
    (ha : RA X C E (x :: es) w) (hn : ∀ σ hp e Q, w σ hp e Q → w σ hp e fun ps h => ps.length = n ∧ Q ps h) (hdb : (nm == ("__debug__" : Str)) = false) (he : starEach (x :: es) X.env = (false, eval x X.env) :: starEach es X.env) (hpl : (backTo pos (starEach es X.env)).any (·.1) = false) :
    RE X C E (.Call (.Name nm p) (x :: es) [] pos) (wCall f w) := by
  refine ⟨fun σ hp e Q Q' h q => ha.mo _ _ _ _ _ (fun ps h1 q1 => mf _ _ _ _ _ h q1) q, PE.imp (pe_call (E := E) F hr hg hm hk hb .nil (passes_call tk fun _ _ _ _ z => z) ha.pa hdb he hpl) fun σ H Q ⟨μ, hp, σI, e, A, s, q⟩ => ?_⟩
  refine tA.go ha.mo A s (hn _ _ _ _ q) fun ps h1 μ1 H1 vs ⟨l, q1⟩ u1 A1 s1 r1 => ?_
  show spI C n f (vs ++ []) H1 Q E
  rw [List.append_nil]
  exact ⟨by rw [r1.length, l], μ1, h1, ps, e, A1, r1, mf _ _ _ _ _ (fun p h q => fE.up q u1) q1⟩
theorem re_call0 (F : FnOk X.prog X.w X.K X.mg X.base (L2.CX X.prog X.w) k fa fd ps (spI C 0 f)) (mf : MoF f) (tk : Takes X (fun cls d _ H => E cls d H)) (hr : Room k X.A) (hg : Gl X nm) (hm : X.mg nm = some (.ref fa)) (hk : PySem.W.keepIn X.K (.ref fa) = true) (hb : Binds X.K fd ps [])
    (hdb : (nm == ("__debug__" : Str)) = false) :
    RE X C E (.Call (.Name nm p) [] [] pos) (wCall f wNil) := by
  refine ⟨fun σ hp e Q Q' h q => mf _ _ _ _ _ h q, PE.imp (pe_call0 (E := E) F hr hg hm hk hb .nil (passes_call tk fun _ _ _ _ z => z) hdb) fun σ H Q ⟨μ, hp, σI, e, A, s, q⟩ => ?_⟩
  show spI C 0 f ([] ++ []) H Q E
  exact ⟨rfl, μ, hp, [], e, A, .nil, q⟩
end
end RF

set_option Elab.async false
set_option linter.all false
set_option maxRecDepth 100000
set_option maxHeartbeats 400000
/-! Part 4: what is walked, targets, statements, loops. -/
namespace RF
open PySem PySem.Spec L2

/-! ### targets: a name, names in a bracket -/
inductive Tg where
  | nm (i : Nat)
  | tp (is : List Nat)
def setAll {α : Type} (σ : List (Option α)) : List Nat → List α → List (Option α)
  | i :: is, p :: ps => setAll (σ.set i (some p)) is ps
  | _, _ => σ
def gNames : List Nat → TGs
  | [] => gNil
  | i :: is => gCons (gName i) (gNames is)
def Tg.g (K : PySem.W.Frag) : Tg → TG
  | .nm i => gName i
  | .tp is => gTup K is.length (gNames is)
def Tg.go (t : Tg) (p : PV) (σ : SI) : Option SI :=
  match t with
  | .nm i => some (σ.set i (some p))
  | .tp is => match p with
    | .tup ps => if ps.length = is.length then some (setAll σ is ps) else none
    | _ => none
theorem gNames_ok : ∀ (is : List Nat) (vs : List V) (σ : St) (H : Hp) (Q : St → Hp → Prop), vs.length = is.length → Q (setAll σ is vs) H → gNames is vs σ H Q
  | [], [], σ, H, Q, _, q => ⟨rfl, q⟩
  | [], _ :: _, _, _, _, h, _ => by cases h
  | _ :: _, [], _, _, _, h, _ => by cases h
  | i :: is, v :: vs, σ, H, Q, h, q => ⟨v, vs, rfl, gNames_ok is vs _ H Q (Nat.succ.inj h) q⟩
theorem SR.setAll {C : Cfg} {μ : List Addr} {H : Hp} : ∀ (is : List Nat) (ps : List PV) (vs : List V) (σI : SI) (σ : St), SR C μ H σI σ → RVs C.K μ H ps vs → SR C μ H (RF.setAll σI is ps) (RF.setAll σ is vs)
  | [], ps, vs, σI, σ, s, r => by
    cases ps <;> cases vs <;> exact s
  | i :: is, [], vs, σI, σ, s, r => by
    simp only [RVs] at r
    subst r; exact s
  | i :: is, p :: ps, vs, σI, σ, s, r => by
    simp only [RVs] at r
    obtain ⟨w, ws, rfl, r1, r2⟩ := r
    exact SR.setAll is ps ws _ _ (s.set r1) r2
theorem Tg.ok {C : Cfg} {μ : List Addr} {H : Hp} {t : Tg} {p : PV} {v : V} {σI σI' : SI} {σ : St} {Q : St → Hp → Prop} (r : RV C.K μ H p v) (s : SR C μ H σI σ) (h : t.go p σI = some σI') (q : ∀ σ', SR C μ H σI' σ' → Q σ' H) : t.g C.K v σ H Q := by
  cases t with
  | nm i =>
    simp only [Tg.go, Option.some.injEq] at h
    subst h
    exact q _ (s.set r)
  | tp is =>
    cases p with
    | tup ps =>
      simp only [Tg.go] at h
      split at h
      · rename_i hl
        cases h
        obtain ⟨a, vs, rfl, hs, rv⟩ := r.tupI
        exact ⟨a, vs, rfl, hs, by rw [rv.length, hl], gNames_ok is vs σ H Q (by rw [rv.length, hl]) (q _ (SR.setAll is ps vs _ _ s rv))⟩
      · cases h
    | _ => simp [Tg.go] at h
/-- which names -/
inductive NmIx (X : Cx) : List Expr → List Nat → Prop where
  | nil : NmIx X [] []
  | cons {x : Str} {i : Nat} {pos : Pos} {es : List Expr} {is : List Nat} (hi : X.N[i]? = some x) (hx : Loc X.env.scope x) (hf : X.fn x = true ∨ X.env.scope.names.lookup x = some .local) (r : NmIx X es is) : NmIx X (.Name x pos :: es) (i :: is)
theorem NmIx.pgs {X : Cx} (hN : X.N.Nodup) {es : List Expr} {is : List Nat} (h : NmIx X es is) : PGs X es (gNames is) ∧ (assignEach es X.env).length = is.length ∧ (assignEach es X.env).findIdx? (·.1) = none := by
  induction h with
  | nil => exact ⟨pgs_nil, rfl, rfl⟩
  | @cons x i pos es is hi hx hf r ih =>
    obtain ⟨h1, h2, h3⟩ := ih
    refine ⟨pgs_cons (pg_name hN hi hx hf) h1 (by simp only [assignEach, List.map_cons]), ?_, ?_⟩
    · simp only [assignEach, List.length_cons, h2]
    · simp only [assignEach, List.findIdx?_cons, h3]; rfl
inductive TgIs (X : Cx) : Expr → Tg → Prop where
  | nm {x : Str} {i : Nat} {pos : Pos} (hi : X.N[i]? = some x) (hx : Loc X.env.scope x) (hf : X.fn x = true ∨ X.env.scope.names.lookup x = some .local) : TgIs X (.Name x pos) (.nm i)
  | tp {es : List Expr} {is : List Nat} {k : Nat} {pos : Pos} (h : NmIx X es is) : TgIs X (.Tuple es k pos) (.tp is)
theorem TgIs.pg {X : Cx} {e : Expr} {t : Tg} (hc : X.calm = true) (hN : X.N.Nodup) (h : TgIs X e t) : PG X e (t.g X.K) := by
  cases h with
  | nm hi hx hf => exact pg_name hN hi hx hf
  | tp h =>
    obtain ⟨h1, h2, h3⟩ := h.pgs hN
    exact pg_tup hc h1 h2 h3

/-! ### what is walked -/
structure Wk (C : Cfg) (J : It) (μ : List Addr) (H : Hp) (ps : List PV) : Prop where
  go : ∀ μ' H' i, Up0 μ H μ' H' → i < ps.length → J.go i H'
  yl : ∀ μ' H' i x H'' p, Up0 μ H μ' H' → ps[i]? = some p → J.yld i H' x H'' → RV C.K μ' H'' p x ∧ Up μ' H' μ' H'' ∧ ∀ hp, HR C μ' H' hp → HR C μ' H'' hp
  st : ∀ μ' H' i, Up0 μ H μ' H' → ps.length ≤ i → J.stop i H'
def tI (C : Cfg) (E : XK) (w : WA) : TI := fun σ H R => ∃ μ hp σI e, At C E μ H hp e ∧ SR C μ H σI σ ∧ w σI hp e (fun ps hp' => ∀ μ' H', Up μ H μ' H' → HR C μ' H' hp' → ∀ J, Wk C J μ' H' ps → R J H')
structure RI (X : Cx) (C : Cfg) (E : XK) (tg iter : Expr) (w : WA) : Prop where
  mo : MoA w
  pi : PI X tg iter (tI C E w)
theorem PI.imp {X : Cx} {tg x : Expr} {t t' : TI} (h : PI X tg x t) (i : ∀ σ H Q, t' σ H Q → t σ H Q) : PI X tg x t' := ⟨fun pins s σ H Q I q => h.run pins s σ H Q I (i σ H Q q)⟩
def signs (s : Str) : List PV := s.cps.toList.map fun c => .str ⟨#[c]⟩
def iterV : PV → Option (List PV)
  | .tup ps => some ps
  | .lst ps => some ps
  | .str s => some (signs s)
  | _ => none
def wIt (a : WE) : WA := fun σ hp e Q => a σ hp e fun p h => ∃ ps, iterV p = some ps ∧ (ps.length ≤ sizeLine → Q ps h)
def intsL (lo : Int) (n : Nat) : List PV := (List.range n).map fun (i : Nat) => .int (lo + i)
def wRg1 (a : WE) : WA := fun σ hp e Q => a σ hp e fun p h => ∃ j : Int, p = .int j ∧ -(2 ^ 62) ≤ j ∧ j < 2 ^ 62 ∧ Q (intsL 0 j.toNat) h
def wRg2 (a b : WE) : WA := fun σ hp e Q => a σ hp e fun p h1 => b σ h1 e fun q h => ∃ i j : Int, p = .int i ∧ q = .int j ∧ (-(2 ^ 62) ≤ i ∧ i < 2 ^ 62 ∧ -(2 ^ 62) ≤ j ∧ j < 2 ^ 62) ∧ Q (intsL i (j - i).toNat) h
section
variable {C : Cfg} {μ : List Addr} {H : Hp}
theorem wk_list {a : Addr} {vs : List V} {ps : List PV} (h : FzL H a vs) (r : RVs C.K μ H ps vs) : Wk C (Itl C.K a) μ H ps where
  go := fun μ' H' i u hi => by
    obtain ⟨v, hv, _⟩ := r.get (List.getElem?_eq_getElem hi)
    exact ⟨vs, v, (u.fzL h).sq, hv⟩
  yl := fun μ' H' i x H'' p u hp ⟨e, y⟩ => by
    subst e
    obtain ⟨v, hv, rv⟩ := r.get hp
    have e2 := y vs (u.fzL h).sq
    rw [hv] at e2
    cases e2
    exact ⟨RV.up0 u _ _ rv, .refl, fun _ z => z⟩
  st := fun μ' H' i u hi => ⟨vs, (u.fzL h).sq, by rw [r.length]; exact hi⟩
theorem wk_tup {a : Addr} {vs : List V} {ps : List PV} (h : SqT C.K H a vs) (r : RVs C.K μ H ps vs) : Wk C (Itt C.K a) μ H ps where
  go := fun μ' H' i u hi => by
    obtain ⟨v, hv, _⟩ := r.get (List.getElem?_eq_getElem hi)
    exact ⟨vs, v, u.sqT h, hv⟩
  yl := fun μ' H' i x H'' p u hp ⟨e, y⟩ => by
    subst e
    obtain ⟨v, hv, rv⟩ := r.get hp
    have e2 := y vs (u.sqT h)
    rw [hv] at e2
    cases e2
    exact ⟨RV.up0 u _ _ rv, .refl, fun _ z => z⟩
  st := fun μ' H' i u hi => ⟨vs, u.sqT h, by rw [r.length]; exact hi⟩
theorem wk_str {s : Str} : Wk C (Its s) μ H (signs s) where
  go := fun μ' H' i u hi => by
    simp only [signs, List.length_map, Array.length_toList] at hi
    exact hi
  yl := fun μ' H' i x H'' p u hp ⟨e, c, hc, hx⟩ => by
    subst e hx
    simp only [signs, List.getElem?_map, Array.getElem?_toList, hc, Option.map_some, Option.some.injEq] at hp
    subst hp
    exact ⟨.str1, .refl, fun _ z => z⟩
  st := fun μ' H' i u hi => by
    simp only [signs, List.length_map, Array.length_toList] at hi
    exact hi
theorem wk_rng {lo : Int} {n : Nat} : Wk C (Itr lo n) μ H (intsL lo n) where
  go := fun μ' H' i u hi => by
    simp only [intsL, List.length_map, List.length_range] at hi
    exact hi
  yl := fun μ' H' i x H'' p u hp ⟨e, hx⟩ => by
    subst e hx
    simp only [intsL, List.getElem?_map] at hp
    cases hr : (List.range n)[i]? with
    | none => rw [hr] at hp; cases hp
    | some k =>
      rw [hr] at hp
      have hk : k = i := by
        have := List.getElem?_eq_some_iff.mp hr
        obtain ⟨_, e⟩ := this
        simpa using e.symm
      subst hk
      simp only [Option.map_some, Option.some.injEq] at hp
      subst hp
      exact ⟨.int', .refl, fun _ z => z⟩
  st := fun μ' H' i u hi => by
    simp only [intsL, List.length_map, List.length_range] at hi
    exact hi
end
section
variable {X : Cx} {C : Cfg} {E : XK} {tg x a b : Expr} {wa wb : WE} {pos p : Pos}
def iAny (K : PySem.W.Frag) (te : TE) : TI := fun σ H R => te σ H fun x H1 => (∃ a, x = .ref a ∧ (∃ xs, SqL K H1 a xs ∧ (xs.length ≤ sizeLine → R (Itl K a) H1))) ∨ (∃ a, x = .ref a ∧ (∃ xs, SqT K H1 a xs ∧ (xs.length ≤ sizeLine → R (Itt K a) H1))) ∨ ∃ s, x = .str s ∧ R (Its s) H1
theorem pi_any {te : TE} (hx : PE X x te) : PI X tg x (iAny X.K te) := by
  refine ⟨fun pins s σ H R I h => thn (hx.run pins s σ H _ I h) fun v s1 ⟨y, H1, I1, r1, q1⟩ => ?_⟩
  have new : ∀ {b : Addr}, b ∈ [s1.heap.objs.size] → b = s1.heap.objs.size := fun hb => by simpa using hb
  rcases q1 with ⟨a, ey, xs, hq, q⟩ | ⟨a, ey, xs, hq, q⟩ | ⟨z, ey, q⟩
  · subst ey
    cases r1
    obtain ⟨its, rv, pl, hz⟩ := I1.list hq
    refine wpAny_pyIter_list pl.isList ⟨s1.heap.objs.size, [s1.heap.objs.size], _, _, H1, rfl, I1.kept (t' := s1.toks) fun b o e => Heap.get?_push_of_some _ e, turn_list a _, ⟨_, Heap.get?_push_size _ rfl, rfl, rfl⟩, fun b hb => ?_, q hz⟩
    rw [new hb]
    exact I1.fpOk (Nat.le_refl _) (I1.hok.fresh (Nat.le_refl _))
  · subst ey
    cases r1
    obtain ⟨its, rv, pl, hz⟩ := I1.tuple hq
    refine PySem.wpAny_pyIter_tuple (show s1.heap.IsTuple a its.toArray from pl) ⟨s1.heap.objs.size, [s1.heap.objs.size], _, _, H1, rfl, I1.kept (t' := s1.toks) fun b o e => Heap.get?_push_of_some _ e, turn_tuple a _, ⟨_, Heap.get?_push_size _ rfl, rfl, rfl⟩, fun b hb => ?_, q hz⟩
    rw [new hb]
    exact I1.fpOk (Nat.le_refl _) (I1.hok.fresh (Nat.le_refl _))
  · subst ey
    obtain ⟨t, rfl⟩ := r1
    cases ha : z.cps.all (· < 128)
    · exact wpAny_pyIter_wide ha (pi_one (tk := s1.toks) I1 _ (turn_str _ z t "str_iterator" (.inr rfl)) ⟨_, Heap.get?_push_size _ rfl, rfl, rfl⟩ q)
    · exact wpAny_pyIter_ascii ha (pi_one (tk := s1.toks) I1 _ (turn_str _ z t "str_ascii_iterator" (.inl rfl)) ⟨_, Heap.get?_push_size _ rfl, rfl, rfl⟩ q)
theorem ri_val (hK : X.K = C.K) (hx : RE X C E x wa) : RI X C E tg x (wIt wa) := by
  refine ⟨fun σ hp e Q Q' h q => hx.mo _ _ _ _ _ (fun p h1 ⟨ps, e1, q1⟩ => ⟨ps, e1, fun l => h _ _ (q1 l)⟩) q, PI.imp (pi_any hx.pe) fun σ H R ⟨μ, hp, σI, e, A, s, q⟩ => ?_⟩
  refine tE.go hx.mo A s q fun p h1 μ1 H1 v ⟨ps, e1, q1⟩ u1 A1 s1 r1 => ?_
  rw [hK]
  cases p with
  | tup qs =>
    cases e1
    obtain ⟨a, vs, rfl, h2, h3⟩ := r1.tupI
    exact .inr (.inl ⟨a, rfl, vs, h2, fun l => q1 (by rw [← h3.length]; exact l) μ1 H1 u1 A1.hr _ (wk_tup h2 h3)⟩)
  | lst qs =>
    cases e1
    obtain ⟨a, vs, rfl, h2, h3⟩ := r1.lstI
    exact .inl ⟨a, rfl, vs, h2.sq, fun l => q1 (by rw [← h3.length]; exact l) μ1 H1 u1 A1.hr _ (wk_list h2 h3)⟩
  | str z =>
    cases e1
    exact .inr (.inr ⟨z, r1.strI, q1 (by simpa [signs, Str.length] using r1.strL) μ1 H1 u1 A1.hr _ wk_str⟩)
  | _ => simp [iterV] at e1
theorem ri_rg1 (hg : Gl X "range") (hm : X.mg "range" = none) (ha : RE X C E a wa) (hs : starEach [a] X.env = [(false, eval a X.env)]) : RI X C E tg (.Call (.Name "range" p) [a] [] pos) (wRg1 wa) := by
  refine ⟨fun σ hp e Q Q' h q => ha.mo _ _ _ _ _ (fun p h1 ⟨j, e1, l1, l2, q1⟩ => ⟨j, e1, l1, l2, h _ _ q1⟩) q, PI.imp (pi_range1 hg hm (pa_cons ha.pe pa_nil (by rw [hs]; rfl)) hs) fun σ H R ⟨μ, hp, σI, e, A, s, q⟩ => ?_⟩
  refine tE.go ha.mo A s q fun p h1 μ1 H1 v ⟨j, e1, l1, l2, q1⟩ u1 A1 s1 r1 => ?_
  subst e1
  exact ⟨j, by rw [r1.intI], l1, l2, q1 μ1 H1 u1 A1.hr _ wk_rng⟩
theorem ri_rg2 (hg : Gl X "range") (hm : X.mg "range" = none) (ha : RE X C E a wa) (hb : RE X C E b wb) (hs : starEach [a, b] X.env = [(false, eval a X.env), (false, eval b X.env)]) (hs2 : starEach [b] X.env = [(false, eval b X.env)]) :
    RI X C E tg (.Call (.Name "range" p) [a, b] [] pos) (wRg2 wa wb) := by
  refine ⟨fun σ hp e Q Q' h q => ha.mo _ _ _ _ _ (fun p h1 q1 => hb.mo _ _ _ _ _ (fun p h2 ⟨i, j, e1, e2, l1, q1⟩ => ⟨i, j, e1, e2, l1, h _ _ q1⟩) q1) q,
    PI.imp (pi_range2 hg hm (pa_cons ha.pe (pa_cons hb.pe pa_nil (by rw [hs2]; rfl)) (by rw [hs, hs2])) hs hs2) fun σ H R ⟨μ, hp, σI, e, A, s, q⟩ => ?_⟩
  refine tE.go ha.mo A s q fun p h1 μ1 H1 v q1 u1 A1 s1 r1 => ?_
  refine tE.go hb.mo A1 s1 q1 fun p2 h2 μ2 H2 v2 ⟨i, j, e1, e2, l1, q2⟩ u2 A2 s2 r2 => ?_
  subst e1 e2
  exact ⟨i, j, by rw [r1.intI, r2.intI], l1, q2 μ2 H2 (u1.trans u2) A2.hr _ wk_rng⟩
end

/-! ### statements -/
theorem MoS.at {w : WS} (h : MoS w) {σ : SI} {hp : PH} {e : EI} {D D' : DI} (q : w σ hp e D) (l : D.le D') : w σ hp e D' := h _ _ _ _ _ l q
def wPass : WS := fun σ hp _ D => D.nx σ hp
def wBrk : WS := fun σ hp _ D => D.bk σ hp
def wCnt : WS := fun σ hp _ D => D.ct σ hp
def wSeq (a b : WS) : WS := fun σ hp e D => a σ hp e { D with nx := fun σ h => b σ h e D }
def wDo (a : WE) : WS := fun σ hp e D => a σ hp e fun _ h => D.nx σ h
def wRet (a : WE) : WS := fun σ hp e D => a σ hp e D.rt
def wRetN : WS := fun _ hp _ D => D.rt .non hp
def wIf (t : WT) (a b : WS) : WS := fun σ hp e D => t σ hp e fun c h => if c = true then a σ h e D else b σ h e D
def wAsg (t : Tg) (a : WE) : WS := fun σ hp e D => a σ hp e fun p h => ∃ σ', t.go p σ = some σ' ∧ D.nx σ' h
section
variable {C : Cfg} {E : XK} {μ : List Addr} {H : Hp} {hp : PH} {e : EI}
theorem tS.go {w : WS} (mo : MoS w) {σ : St} {σI : SI} {D : DI} {D' : Ends} (a : At C E μ H hp e) (s : SR C μ H σI σ) (q : w σI hp e D) (h : D.le (fD C μ H D')) : tS C E w D' σ H := ⟨μ, hp, σI, e, a, s, mo _ _ _ _ _ h q⟩
end
section
variable {X : Cx} {C : Cfg} {E : XK} {st : Stmt} {sts s2 : List Stmt} {t x : Expr} {wa : WE} {wt : WT} {w w2 : WS} {pos : Pos}
theorem rss_nil : RSs X C E [] wPass := ⟨fun σ hp e D D' h q => h.nx _ _ q, PSs.imp pss_nil fun D σ H ⟨μ, hp, σI, e, A, s, q⟩ => fN.here q A.hr s⟩
theorem rs_pass : RS X C E (.Pass pos) wPass := ⟨fun σ hp e D D' h q => h.nx _ _ q, PS.imp ps_pass fun D σ H ⟨μ, hp, σI, e, A, s, q⟩ => fN.here q A.hr s⟩
theorem rs_brk : RS X C E (.Break pos) wBrk := ⟨fun σ hp e D D' h q => h.bk _ _ q, PS.imp ps_break fun D σ H ⟨μ, hp, σI, e, A, s, q⟩ => fN.here q A.hr s⟩
theorem rs_cnt : RS X C E (.Continue pos) wCnt := ⟨fun σ hp e D D' h q => h.ct _ _ q, PS.imp ps_continue fun D σ H ⟨μ, hp, σI, e, A, s, q⟩ => fN.here q A.hr s⟩
theorem rss_one (h : RS X C E st w) : RSs X C E [st] w := ⟨h.mo, pss_one h.ps⟩
theorem rss_cons (h : RS X C E st w) (h2 : RSs X C E sts w2) : RSs X C E (st :: sts) (wSeq w w2) := by
  refine ⟨fun σ hp e D D' l q => h.mo.at q ⟨fun σ h q => h2.mo _ _ _ _ _ l q, l.rt, l.bk, l.ct⟩, PSs.imp (pss_cons h.ps h2.ps) fun D σ H ⟨μ, hp, σI, e, A, s, q⟩ => ?_⟩
  refine tS.go h.mo A s q ⟨fun σ1 h1 q1 μ1 H1 σ2 u1 r1 s1 => ?_, fun _ _ q => q, fun _ _ q => q, fun _ _ q => q⟩
  exact tS.go h2.mo (A.next u1 r1) s1 q1 (fD.up u1)
theorem rs_do (h : RE X C E x wa) (hs : swapsWith x none pos.line X.env = pure false) : RS X C E (.Expr x pos) (wDo wa) :=
  ⟨fun σ hp e D D' l q => h.mo _ _ _ _ _ (fun _ h q => l.nx _ _ q) q, PS.imp (ps_expr h.pe hs) fun D σ H ⟨μ, hp, σI, e, A, s, q⟩ => tE.go h.mo A s q fun p h1 μ1 H1 v q1 u1 A1 s1 r1 => (fN.up q1 u1).here A1.hr s1⟩
theorem rs_doc {z : Str} {j : Nat} {pos' : Pos} : RS X C E (.Expr (.Constant (.str z) j pos) pos') wPass := ⟨fun σ hp e D D' h q => h.nx _ _ q, PS.imp ps_doc fun D σ H ⟨μ, hp, σI, e, A, s, q⟩ => fN.here q A.hr s⟩
theorem rs_ret (h : RE X C E x wa) : RS X C E (.Return (some x) pos) (wRet wa) :=
  ⟨fun σ hp e D D' l q => h.mo _ _ _ _ _ (fun _ h q => l.rt _ _ q) q, PS.imp (ps_ret h.pe) fun D σ H ⟨μ, hp, σI, e, A, s, q⟩ => tE.go h.mo A s q fun p h1 μ1 H1 v q1 u1 A1 s1 r1 => (fE.up q1 u1).here A1 r1⟩
theorem rs_retN : RS X C E (.Return none pos) wRetN :=
  ⟨fun σ hp e D D' l q => l.rt _ _ q, PS.imp ps_retN fun D σ H ⟨μ, hp, σI, e, A, s, q⟩ => fE.here q A .non'⟩
theorem rs_if (ht : RT X C E t wt) (ha : RSs X C E sts w) (hb : RSs X C E s2 w2) : RS X C E (.If t sts s2 pos) (wIf wt w w2) :=
  ⟨fun σ hp e D D' l q => ht.mo _ _ _ _ _ (fun c h q => ite_mono (ha.mo _ _ _ _ _ l) (hb.mo _ _ _ _ _ l) q) q, PS.imp (ps_if ht.pt ha.ps hb.ps) fun D σ H ⟨μ, hp, σI, e, A, s, q⟩ => tT.go ht.mo A s q fun c h1 μ1 H1 q1 u1 A1 s1 =>
    ite_mono (fun q2 => tS.go ha.mo A1 s1 q2 (fD.up u1)) (fun q2 => tS.go hb.mo A1 s1 q2 (fD.up u1)) q1⟩
theorem asg_mo {tg : Tg} (h : MoE wa) : MoS (wAsg tg wa) := fun σ hp e D D' l q => h _ _ _ _ _ (fun p h ⟨σ', e1, q⟩ => ⟨σ', e1, l.nx _ _ q⟩) q
theorem asg_go {tg : Tg} (h : MoE wa) {D : Ends} {σ : St} {H : Hp} : tS C E (wAsg tg wa) D σ H → tAsg (tE C E wa) (tg.g C.K) D σ H := fun ⟨μ, hp, σI, e, A, s, q⟩ =>
  tE.go h A s q fun p h1 μ1 H1 v ⟨σ', e1, q1⟩ u1 A1 s1 r1 => Tg.ok r1 s1 e1 fun σ2 s2 => (fN.up q1 u1).here A1.hr s2
/-- name = e -/
theorem rs_set {i : Nat} {y : Str} {pos' : Pos} (hN : X.N.Nodup) (hi : X.N[i]? = some y) (hx : Loc X.env.scope y) (hf : X.fn y = true ∨ X.env.scope.names.lookup y = some .local) (h : RE X C E x wa) (hs : swapsWith x (some (.Name y pos')) pos.line X.env = pure false) : RS X C E (.Assign [.Name y pos'] x pos) (wAsg (.nm i) wa) :=
  ⟨asg_mo h.mo, PS.imp (ps_set hN hi hx h.pe hs hf) fun D σ H q => asg_go h.mo q⟩
/-- (names) = e, e no display -/
theorem rs_unp {tg : Expr} {g : Tg} (hK : X.K = C.K) (hc : X.calm = true) (hN : X.N.Nodup) (hg : TgIs X tg g) (h : RE X C E x wa) (hs : swapsWithSole [tg] x pos.line X.env = pure false) (hw : swappedStores [tg] x X.env = pure none) (h1 : (assignEach [tg] X.env).map (·.2) = [assign tg X.env]) : RS X C E (.Assign [tg] x pos) (wAsg g wa) :=
  ⟨asg_mo h.mo, PS.imp (ps_asg h.pe (hg.pg hc hN) hs hw h1) fun D σ H q => by rw [hK]; exact asg_go h.mo q⟩
end

/-! ### loops -/
def forW (t : Tg) (b : WS) (e : EI) (D : DI) : List PV → SI → PH → Prop
  | [], σ, hp => D.nx σ hp
  | p :: ps, σ, hp => ∃ σ', t.go p σ = some σ' ∧ b σ' hp e ⟨fun σ h => forW t b e D ps σ h, D.rt, D.nx, fun σ h => forW t b e D ps σ h⟩
def wFor (t : Tg) (w : WA) (b : WS) : WS := fun σ hp e D => w σ hp e fun ps h => forW t b e D ps σ h
theorem forW.mono {t : Tg} {b : WS} (mo : MoS b) {e : EI} {D D' : DI} (l : D.le D') : ∀ (ps : List PV) (σ : SI) (hp : PH), forW t b e D ps σ hp → forW t b e D' ps σ hp
  | [], σ, hp, q => l.nx _ _ q
  | p :: ps, σ, hp, ⟨σ', e1, q⟩ => ⟨σ', e1, mo.at q ⟨fun σ h => forW.mono mo l ps σ h, l.rt, l.nx, fun σ h => forW.mono mo l ps σ h⟩⟩
def whlW (t : WT) (b : WS) (e : EI) (D : DI) : Nat → SI → PH → Prop
  | 0, _, _ => False
  | n + 1, σ, hp => t σ hp e fun c h => if c = true then b σ h e ⟨fun σ h => whlW t b e D n σ h, D.rt, D.nx, fun σ h => whlW t b e D n σ h⟩ else D.nx σ h
def wWhl (t : WT) (b : WS) : WS := fun σ hp e D => ∃ n, whlW t b e D n σ hp
theorem whlW.mono {t : WT} {b : WS} (mt : MoT t) (mo : MoS b) {e : EI} {D D' : DI} (l : D.le D') : ∀ (n : Nat) (σ : SI) (hp : PH), whlW t b e D n σ hp → whlW t b e D' n σ hp
  | 0, _, _, q => q
  | n + 1, σ, hp, q => by
    refine mt _ _ _ _ _ (fun c h q => ?_) q
    refine ite_mono (fun q => ?_) (l.nx _ _) q
    exact mo.at q ⟨fun σ h => whlW.mono mt mo l n σ h, l.rt, l.nx, fun σ h => whlW.mono mt mo l n σ h⟩
section
variable {X : Cx} {C : Cfg} {E : XK} {tg iter t : Expr} {sts : List Stmt} {g : Tg} {wi : WA} {wt : WT} {w : WS} {pos : Pos}
theorem rs_for (hK : X.K = C.K) (hp0 : PassesOwn (model X.prog X.w) X.A X.env X.xe) (hc : X.calm = true) (hN : X.N.Nodup) (hi : RI X C E tg iter wi) (hg : TgIs X tg g) (hb : RSs X C E sts w) (hs : ∀ x, foldedSetIterable iter X.env x = pure x) : RS X C E (.For tg iter sts [] pos) (wFor g wi w) := by
  refine ⟨fun σ hp e D D' l q => hi.mo _ _ _ _ _ (fun ps h q => forW.mono hb.mo l ps σ h q) q, PS.imp (ps_for hp0 hc hi.pi (hg.pg hc hN) hb.ps hs) fun D σ H ⟨μ, hp, σI, e, A, s, q⟩ => ?_⟩
  refine ⟨μ, hp, σI, e, A, s, hi.mo _ _ _ _ _ (fun ps h1 q1 μ1 H1 u1 r1 J W => ?_) q⟩
  refine ⟨fun i m σ2 H2 => i ≤ ps.length ∧ m = ps.length - i ∧ ∃ μ2 hp2 σI2, Up μ1 H1 μ2 H2 ∧ At C E μ2 H2 hp2 e ∧ SR C μ2 H2 σI2 σ2 ∧ forW g w e (fD C μ H D) (ps.drop i) σI2 hp2, ⟨_, Nat.zero_le _, rfl, μ1, h1, σI, .refl, A.next u1 r1, s.up u1, q1⟩, ?_⟩
  rintro i m σ2 H2 ⟨hi2, em, μ2, hp2, σI2, u2, A2, s2, q2⟩
  by_cases hl : i < ps.length
  · refine .inr ⟨W.go μ2 H2 i u2.weak hl, fun σ' H' => ∃ μ3 hp3 σI3, Up μ1 H1 μ3 H' ∧ At C E μ3 H' hp3 e ∧ SR C μ3 H' σI3 σ' ∧ forW g w e (fD C μ H D) (ps.drop (i + 1)) σI3 hp3, fun σ' H' hN' => ⟨ps.length - (i + 1), by omega, hl, rfl, hN'⟩, fun x H' y => ?_⟩
    rw [List.drop_eq_getElem_cons hl] at q2
    obtain ⟨σ', e3, q3⟩ := q2
    obtain ⟨rv, u3, keep⟩ := W.yl μ2 H2 i x H' _ u2.weak (List.getElem?_eq_getElem hl) y
    rw [hK]
    refine Tg.ok rv (s2.up u3) e3 fun σ4 s4 => ?_
    refine tS.go hb.mo (A2.next u3 (keep _ A2.hr)) s4 q3 ⟨fun σ5 h5 q5 μ5 H5 σ6 u5 r5 s5 => ?_, fun _ _ q => fE.up q ((u1.trans u2).trans u3), fun _ _ q => fN.up q ((u1.trans u2).trans u3), fun σ5 h5 q5 μ5 H5 σ6 u5 r5 s5 => ?_⟩
    · exact ⟨μ5, h5, σ5, (u2.trans u3).trans u5, (A2.next u3 (keep _ A2.hr)).next u5 r5, s5, q5⟩
    · exact ⟨μ5, h5, σ5, (u2.trans u3).trans u5, (A2.next u3 (keep _ A2.hr)).next u5 r5, s5, q5⟩
  · have e1 : ps.drop i = [] := List.drop_of_length_le (by omega)
    rw [e1] at q2
    exact .inl ⟨W.st μ2 H2 i u2.weak (by omega), (fN.up q2 (u1.trans u2)).here A2.hr s2⟩
theorem rs_whl (hp0 : PassesOwn (model X.prog X.w) X.A X.env X.xe) (ht : RT X C E t wt) (hb : RSs X C E sts w) : RS X C E (.While t sts [] pos) (wWhl wt w) := by
  refine ⟨fun σ hp e D D' l ⟨n, q⟩ => ⟨n, whlW.mono ht.mo hb.mo l n σ hp q⟩, PS.imp (ps_while hp0 ht.pt hb.ps) fun D σ H ⟨μ, hp, σI, e, A, s, n, q⟩ => ?_⟩
  refine ⟨fun m σ2 H2 => ∃ μ2 hp2 σI2, Up μ H μ2 H2 ∧ At C E μ2 H2 hp2 e ∧ SR C μ2 H2 σI2 σ2 ∧ whlW wt w e (fD C μ H D) m σI2 hp2, ⟨n, μ, hp, σI, .refl, A, s, q⟩, ?_⟩
  rintro m σ2 H2 ⟨μ2, hp2, σI2, u2, A2, s2, q2⟩
  cases m with
  | zero => exact False.elim q2
  | succ m =>
    refine tT.go ht.mo A2 s2 q2 fun c h3 μ3 H3 q3 u3 A3 s3 => ite_mono (fun q4 => ?_) (fun q4 => (fN.up q4 (u2.trans u3)).here A3.hr s3) q3
    refine ⟨fun σ' H' => ∃ μ4 hp4 σI4, Up μ H μ4 H' ∧ At C E μ4 H' hp4 e ∧ SR C μ4 H' σI4 σ' ∧ whlW wt w e (fD C μ H D) m σI4 hp4, fun σ' H' hN' => ⟨m, Nat.lt_succ_self m, hN'⟩, ?_⟩
    refine tS.go hb.mo A3 s3 q4 ⟨fun σ5 h5 q5 μ5 H5 σ6 u5 r5 s5 => ?_, fun _ _ q => fE.up q (u2.trans u3), fun _ _ q => fN.up q (u2.trans u3), fun σ5 h5 q5 μ5 H5 σ6 u5 r5 s5 => ?_⟩
    · exact ⟨μ5, h5, σ5, (u2.trans u3).trans u5, A3.next u5 r5, s5, q5⟩
    · exact ⟨μ5, h5, σ5, (u2.trans u3).trans u5, A3.next u5 r5, s5, q5⟩
end
end RF

set_option Elab.async false
set_option linter.all false
set_option maxRecDepth 100000
set_option maxHeartbeats 400000
/-! Part 5: operators, comparisons, subscripts by values. -/
namespace RF
open PySem PySem.Spec L2

/-! ### arithmetic, texts, tuples, lists put together -/
def rdLst (X : Cx) : Prop := True
section
variable {X : Cx} {pins : List (Addr × Obj)} {σ : St} {H : Hp} {s : Shared}
theorem rd_exact {a : Addr} {xs : List V} (I : Inv X pins σ H s) (h : Rd H a (.lst xs)) : xs.length ≤ sizeLine ∧ ∃ (its : List Value) (n : Nat), Vals xs its ∧ xs.length = its.length ∧ s.heap.get? a = some { cls := .type "list", data := .seq its.toArray n } := by
  obtain ⟨z, its, n, r, e⟩ := h.ok I.hok
  exact ⟨z, its, n, r, r.length, e⟩
/-- two lists put together: a new one -/
def rCatF : R2 := fun x y H Q => ∃ l b xs zs, x = .ref l ∧ y = .ref b ∧ Rd H l (.lst xs) ∧ Rd H b (.lst zs) ∧ xs.length + zs.length ≤ sizeLine ∧ ∀ p, H p = none → Q (.ref p) (upd H p (.lst (xs ++ zs)))
theorem op_catF : OpR X (binaryOp .Add) rCatF := by
  intro pins s σ H x y v u Q I rx ry ⟨l, b, xs, zs, ex, ey, hH, hB, hz, q⟩
  subst ex ey
  cases rx
  cases ry
  obtain ⟨z, its, n, r, hl, e⟩ := rd_exact I hH
  obtain ⟨z2, its2, n2, r2, hl2, e2⟩ := rd_exact I hB
  have ea : its.toArray ++ its2.toArray = (its ++ its2).toArray := by simp
  refine PySem.P.add_list e e2 ?_ (by rw [List.size_toArray, List.size_toArray]; omega)
  rw [ea]
  exact ⟨.ref _, _, I.lnew (t' := s.toks) (r.append r2) (by rw [List.length_append]; omega), rfl, q _ I.fresh⟩
end
def rAddP (K : PySem.W.Frag) : R2 := fun x y H Q => (∃ i j, x = .int i ∧ y = .int j ∧ Q (.int (i + j)) H) ∨ (∃ i j, x = .str i ∧ y = .str j ∧ i.length + j.length ≤ sizeLine ∧ Q (.str (i ++ j)) H) ∨ rCatA K x y H Q ∨ rCatF x y H Q
theorem op_addP {X : Cx} : OpR X (binaryOp .Add) (rAddP X.K) := op_add.or (op_add_str.or (op_catA.or op_catF))
theorem str_len_append (a b : Str) : (a ++ b).length = a.length + b.length := by
  show (a.cps ++ b.cps).size = a.cps.size + b.cps.size
  simp
def gAdd : G2 := fun p q hp Q => match p, q with
  | .int i, .int j => Q (.int (i + j)) hp
  | .str a, .str b => a.length + b.length ≤ sizeLine ∧ Q (.str (a ++ b)) hp
  | .tup a, .tup b => a.length + b.length ≤ sizeLine ∧ Q (.tup (a ++ b)) hp
  | p, q => ∃ a b, asL hp p = some a ∧ asL hp q = some b ∧ a.length + b.length ≤ sizeLine ∧ Q (.lst (a ++ b)) hp
theorem fzk {Q : VK} {v : V} {H : Hp} (h : Q v H) : FzK Q v H := .inl h
section
variable {C : Cfg}
theorem gAdd_lst {p q : PV} {hp : PH} {Q : KI} (h : gAdd p q hp Q) : (∃ i j, p = .int i ∧ q = .int j ∧ Q (.int (i + j)) hp) ∨ (∃ a b, p = .str a ∧ q = .str b ∧ a.length + b.length ≤ sizeLine ∧ Q (.str (a ++ b)) hp) ∨
    (∃ a b, p = .tup a ∧ q = .tup b ∧ a.length + b.length ≤ sizeLine ∧ Q (.tup (a ++ b)) hp) ∨ ∃ a b, asL hp p = some a ∧ asL hp q = some b ∧ a.length + b.length ≤ sizeLine ∧ Q (.lst (a ++ b)) hp := by
  unfold gAdd at h
  split at h
  · exact .inl ⟨_, _, rfl, rfl, h⟩
  · exact .inr (.inl ⟨_, _, rfl, rfl, h⟩)
  · exact .inr (.inr (.inl ⟨_, _, rfl, rfl, h⟩))
  · exact .inr (.inr (.inr h))
theorem l_add : LOp C (rAddP C.K) gAdd where
  mo := fun p q hp Q Q' i h => by
    unfold gAdd at h ⊢
    split at h
    · exact i _ _ h
    · exact ⟨h.1, i _ _ h.2⟩
    · exact ⟨h.1, i _ _ h.2⟩
    · obtain ⟨a, b, e1, e2, l, q⟩ := h
      exact ⟨a, b, e1, e2, l, i _ _ q⟩
  ok := fun μ H hp p q v u Q r rp rq h => by
    rcases gAdd_lst h with ⟨i, j, rfl, rfl, h⟩ | ⟨i, j, rfl, rfl, l, h⟩ | ⟨a, b, rfl, rfl, l, h⟩ | ⟨a, b, e1, e2, l, h⟩
    · exact .inl ⟨i, j, rp.intI, rq.intI, fzk (h μ H _ .refl r .int')⟩
    · exact .inr (.inl ⟨i, j, rp.strI, rq.strI, l, fzk (h μ H _ .refl r (.str' (by rw [str_len_append]; exact l)))⟩)
    · obtain ⟨x, xs, rfl, hx, rx⟩ := rp.tupI
      obtain ⟨y, ys, rfl, hy, ry⟩ := rq.tupI
      refine .inr (.inr (.inl ⟨x, y, xs, ys, rfl, rfl, hx, hy, by rw [rx.length, ry.length]; exact l, fun e => ?_, fun _ e => ?_, fun _ _ p np => fzk (h.newT r (rx.append ry) np)⟩))
      · subst e
        have e0 : a = [] := by cases a with | nil => rfl | cons _ _ => have := rx.length; simp at this
        subst e0
        refine fzk (h μ H _ .refl r ?_)
        rw [List.nil_append]
        exact rq
      · subst e
        have e0 : b = [] := by cases b with | nil => rfl | cons _ _ => have := ry.length; simp at this
        subst e0
        refine fzk (h μ H _ .refl r ?_)
        rw [List.append_nil]
        exact rp
    · obtain ⟨x, xs, rfl, hx, rx⟩ := asL_rd r rp e1
      obtain ⟨y, ys, rfl, hy, ry⟩ := asL_rd r rq e2
      exact .inr (.inr (.inr ⟨x, y, xs, ys, rfl, rfl, hx, hy, by rw [rx.length, ry.length]; exact l, fun p np => h.newL r (rx.append ry) np⟩))
/-- a rule of two ints -/
def gII (c : Int → Int → Prop) (g : Int → Int → Int) : G2 := fun p q hp Q => ∃ i j, p = .int i ∧ q = .int j ∧ c i j ∧ Q (.int (g i j)) hp
theorem l_ii {c : Int → Int → Prop} {g : Int → Int → Int} : LOp C (rI c fun i j => .int (g i j)) (gII c g) where
  mo := fun p q hp Q Q' i ⟨a, b, e1, e2, l, q⟩ => ⟨a, b, e1, e2, l, i _ _ q⟩
  ok := fun μ H hp p q v u Q r rp rq ⟨a, b, e1, e2, l, h⟩ => by
    subst e1 e2
    exact ⟨a, b, rp.intI, rq.intI, l, fzk (h μ H _ .refl r .int')⟩
def gI0 (g : Int → Int → Int) : G2 := fun p q hp Q => ∃ i j, p = .int i ∧ q = .int j ∧ Q (.int (g i j)) hp
theorem l_i0 {g : Int → Int → Int} : LOp C (rI0 fun i j => .int (g i j)) (gI0 g) where
  mo := fun p q hp Q Q' i ⟨a, b, e1, e2, q⟩ => ⟨a, b, e1, e2, i _ _ q⟩
  ok := fun μ H hp p q v u Q r rp rq ⟨a, b, e1, e2, h⟩ => by
    subst e1 e2
    exact ⟨a, b, rp.intI, rq.intI, fzk (h μ H _ .refl r .int')⟩
abbrev gSub : G2 := gI0 fun i j => i - j
abbrev gMul : G2 := gII CMul fun i j => i * j
abbrev gDiv : G2 := gII CDivN fun i j => i.fdiv j
abbrev gMod : G2 := gII (fun _ j => j ≠ 0) fun i j => i.fmod j
abbrev gPow : G2 := gII CPow fun i j => i ^ j.toNat
abbrev gAnd : G2 := gI0 fun i j => Builtin.bitAnd i j
def gNeg : G1 := fun p hp Q => ∃ i, p = .int i ∧ Q (.int (-i)) hp
theorem l_neg : LUn C (rU fun i => .int (-i)) gNeg where
  mo := fun p hp Q Q' i ⟨a, e1, q⟩ => ⟨a, e1, i _ _ q⟩
  ok := fun μ H hp p v Q r rp ⟨a, e1, h⟩ => by
    subst e1
    exact ⟨a, rp.intI, fzk (h μ H _ .refl r .int')⟩
end

/-! ### plain data -/
mutual
def toD : PV → Option PyData
  | .non => some .none
  | .bl b => some (.bool b)
  | .int i => some (.int i)
  | .str s => some (.str s)
  | .tup ps => (toDs ps).map .tuple
  | .lst ps => (toDs ps).map .list
  | .dct _ => none
  | .loc _ => none
  | .ref _ => none
def toDs : List PV → Option (List PyData)
  | [] => some []
  | p :: ps => (toD p).bind fun d => (toDs ps).map fun ds => d :: ds
end
def toDh (hp : PH) (p : PV) : Option PyData := match p with
  | .loc n => (asL hp (.loc n)).bind fun ps => (toDs ps).map .list
  | p => toD p
section
variable {K : PySem.W.Frag} {μ : List Addr} {H : Hp}
mutual
theorem toD_dp : ∀ (p : PV) (v : V) (d : PyData), RV K μ H p v → toD p = some d → Dp K H v d
  | .non, v, d, r, h => by
    simp only [toD, Option.some.injEq] at h
    rw [r.nonI, ← h]; exact .non
  | .bl b, v, d, r, h => by
    simp only [toD, Option.some.injEq] at h
    rw [r.blI, ← h]; exact .bl b
  | .int i, v, d, r, h => by
    simp only [toD, Option.some.injEq] at h
    rw [r.intI, ← h]; exact .int i
  | .str s, v, d, r, h => by
    simp only [toD, Option.some.injEq] at h
    rw [r.strI, ← h]; exact .str s
  | .tup ps, v, d, r, h => by
    simp only [toD, Option.map_eq_some_iff] at h
    obtain ⟨ds, e1, e2⟩ := h
    obtain ⟨a, vs, rfl, hs, rs⟩ := r.tupI
    rw [← e2]
    exact .tup hs (toDs_dp ps vs ds rs e1)
  | .lst ps, v, d, r, h => by
    simp only [toD, Option.map_eq_some_iff] at h
    obtain ⟨ds, e1, e2⟩ := h
    obtain ⟨a, vs, rfl, hs, rs⟩ := r.lstI
    rw [← e2]
    exact .lst hs.sq (toDs_dp ps vs ds rs e1)
  | .dct _, _, _, _, h => by simp [toD] at h
  | .loc _, _, _, _, h => by simp [toD] at h
  | .ref _, _, _, _, h => by simp [toD] at h
theorem toDs_dp : ∀ (ps : List PV) (vs : List V) (ds : List PyData), RVs K μ H ps vs → toDs ps = some ds → DpAll K H vs ds
  | [], _, _, r, h => by
    simp only [RVs] at r
    simp only [toDs, Option.some.injEq] at h
    rw [r, ← h]; exact .nil
  | p :: ps, _, _, r, h => by
    simp only [RVs] at r
    obtain ⟨w, ws, rfl, r1, r2⟩ := r
    simp only [toDs, Option.bind_eq_some_iff, Option.map_eq_some_iff] at h
    obtain ⟨d, e1, ds, e2, e3⟩ := h
    rw [← e3]
    exact .cons (toD_dp p w d r1 e1) (toDs_dp ps ws ds r2 e2)
end
theorem toDh_dp {C : Cfg} {hp : PH} {p : PV} {v : V} {d : PyData} (r : HR C μ H hp) (rv : RV C.K μ H p v) (h : toDh hp p = some d) : Dp C.K H v d := by
  cases p with
  | loc n =>
    simp only [toDh, Option.bind_eq_some_iff, Option.map_eq_some_iff] at h
    obtain ⟨ps, e1, ds, e2, e3⟩ := h
    obtain ⟨a, vs, rfl, hs, rs⟩ := asL_sq r rv e1
    rw [← e3]
    exact .lst hs (toDs_dp ps vs ds rs e2)
  | _ => exact toD_dp _ _ _ rv h
end
/-- == of plain data -/
def cEq : G3 := fun p q hp b => ∃ d e, toDh hp p = some d ∧ toDh hp q = some e ∧ SeqAt.shaped d = true ∧ SeqAt.shaped e = true ∧ b = PyData.eqv d e
def cNe : G3 := fun p q hp b => ∃ d e, toDh hp p = some d ∧ toDh hp q = some e ∧ SeqAt.shaped d = true ∧ SeqAt.shaped e = true ∧ b = !PyData.eqv d e
section
variable {C : Cfg}
theorem l_eq : LCp C (rEqD C.K) cEq := ⟨fun μ H hp p q v u b r rp rq ⟨d, e, h1, h2, h3, h4, h5⟩ Q hq => ⟨d, e, toDh_dp r rp h1, toDh_dp r rq h2, h3, h4, by rw [← h5]; exact hq⟩⟩
theorem l_ne : LCp C (rNeD C.K) cNe := ⟨fun μ H hp p q v u b r rp rq ⟨d, e, h1, h2, h3, h4, h5⟩ Q hq => ⟨d, e, toDh_dp r rp h1, toDh_dp r rq h2, h3, h4, by rw [← h5]; exact hq⟩⟩
def cII (g : Int → Int → Bool) : G3 := fun p q _ b => ∃ i j, p = .int i ∧ q = .int j ∧ b = g i j
theorem l_cii {g : Int → Int → Bool} : LCp C (rI0 fun i j => .bl (g i j)) (cII g) := ⟨fun μ H hp p q v u b r rp rq ⟨i, j, e1, e2, e3⟩ Q hq => by
  subst e1 e2 e3
  exact ⟨i, j, rp.intI, rq.intI, hq⟩⟩
abbrev cLt : G3 := cII fun i j => decide (i < j)
abbrev cLe : G3 := cII fun i j => decide (i ≤ j)
abbrev cGt : G3 := cII fun i j => decide (j < i)
abbrev cGe : G3 := cII fun i j => decide (j ≤ i)
/-- is None -/
def isNon : PV → Bool
  | .non => true
  | _ => false
def cIsN : G3 := fun p q _ b => q = .non ∧ b = isNon p
def cNotN : G3 := fun p q _ b => q = .non ∧ b = !isNon p
theorem non_iff {μ : List Addr} {H : Hp} {p : PV} {v : V} (r : RV C.K μ H p v) : decide (v = .non) = isNon p := by
  cases p with
  | non => rw [r.nonI]; rfl
  | bl b => rw [r.blI]; rfl
  | int b => rw [r.intI]; rfl
  | str b => rw [r.strI]; rfl
  | tup b => obtain ⟨a, vs, rfl, _⟩ := r.tupI; rfl
  | lst b => obtain ⟨a, vs, rfl, _⟩ := r.lstI; rfl
  | dct b => obtain ⟨a, vs, rfl, _⟩ := r.dctI; rfl
  | loc b => obtain ⟨a, rfl, _⟩ := r.locI; rfl
  | ref b => rw [r.refI]; rfl
theorem l_isN : LCp C (fun x y H Q => y = .non ∧ Q (.bl (decide (x = .non))) H) cIsN := ⟨fun μ H hp p q v u b r rp rq ⟨e1, e2⟩ Q hq => by
  subst e1 e2
  exact ⟨rq.nonI, by rw [non_iff rp]; exact hq⟩⟩
theorem l_notN : LCp C (fun x y H Q => y = .non ∧ Q (.bl (!decide (x = .non))) H) cNotN := ⟨fun μ H hp p q v u b r rp rq ⟨e1, e2⟩ Q hq => by
  subst e1 e2
  refine ⟨rq.nonI, ?_⟩
  rw [non_iff rp]
  exact hq⟩
end

/-! ### subscripts -/
def gIx : G2 := fun p q hp Q => ∃ i, q = .int i ∧ match p with
  | .tup ps => ∃ z, atI ps i = some z ∧ Q z hp
  | .str s => ∃ c, atI s.cps.toList i = some c ∧ Q (.str ⟨#[c]⟩) hp
  | p => ∃ ps z, asL hp p = some ps ∧ atI ps i = some z ∧ Q z hp
section
variable {C : Cfg} {μ : List Addr} {H : Hp}
theorem RVs.atI {ps : List PV} {vs : List V} {i : Int} {z : PV} (r : RVs C.K μ H ps vs) (h : L2.atI ps i = some z) : ∃ w, L2.atI vs i = some w ∧ RV C.K μ H z w := by
  unfold L2.atI at h ⊢
  rw [r.length]
  cases e : ixN ps.length i with
  | none => rw [e] at h; cases h
  | some j =>
    rw [e] at h
    obtain ⟨w, h1, h2⟩ := r.get (show ps[j]? = some z from h)
    exact ⟨w, h1, h2⟩
theorem l_ix : LOp C (rIx C.K) gIx where
  mo := fun p q hp Q Q' i ⟨k, e1, h⟩ => ⟨k, e1, by
    split at h
    · obtain ⟨z, e, q⟩ := h
      exact ⟨z, e, i _ _ q⟩
    · obtain ⟨z, e, q⟩ := h
      exact ⟨z, e, i _ _ q⟩
    · obtain ⟨ps, z, e, e', q⟩ := h
      exact ⟨ps, z, e, e', i _ _ q⟩⟩
  ok := fun μ H hp p q v u Q r rp rq ⟨i, e1, h⟩ => by
    subst e1
    split at h
    · obtain ⟨z, e, q⟩ := h
      obtain ⟨a, vs, rfl, hs, rs⟩ := rp.tupI
      obtain ⟨w, e2, rw'⟩ := rs.atI e
      exact .inr (.inl ⟨a, vs, i, w, rfl, rq.intI, hs, e2, fzk (q μ H _ .refl r rw')⟩)
    · obtain ⟨c, e, q⟩ := h
      exact .inr (.inr ⟨_, i, c, rp.strI, rq.intI, rp.strL, e, fzk (q μ H _ .refl r .str1)⟩)
    · obtain ⟨ps, z, e, e', q⟩ := h
      obtain ⟨a, vs, rfl, hs, rs⟩ := asL_sq r rp e
      obtain ⟨w, e2, rw'⟩ := rs.atI e'
      exact .inl ⟨a, vs, i, w, rfl, rq.intI, hs, e2, fzk (q μ H _ .refl r rw')⟩
end
/-! ### slices -/
def cutP {α : Type} (xs : List α) (lo hi : Option Int) : List α := (xs.drop (HT.sIx xs.length 0 lo)).take (HT.sIx xs.length xs.length hi - HT.sIx xs.length 0 lo)
abbrev WO := SI → PH → EI → (Option Int → PH → Prop) → Prop
def MoO (w : WO) : Prop := ∀ σ hp e Q Q', (∀ p h, Q p h → Q' p h) → w σ hp e Q → w σ hp e Q'
def fO (C : Cfg) (μ : List Addr) (H : Hp) (Q : Option Int → Hp → Prop) : Option Int → PH → Prop := fun b hp => ∀ μ' H', Up μ H μ' H' → HR C μ' H' hp → Q b H'
def tO (C : Cfg) (E : XK) (w : WO) : TO := fun σ H Q => ∃ μ hp σI e, At C E μ H hp e ∧ SR C μ H σI σ ∧ w σI hp e (fO C μ H Q)
structure RO (X : Cx) (C : Cfg) (E : XK) (x : Option Expr) (w : WO) : Prop where
  mo : MoO w
  po : PO X x (tO C E w)
def wNoO : WO := fun _ hp _ Q => Q none hp
def wSmO (a : WE) : WO := fun σ hp e Q => a σ hp e fun p h => ∃ i, p = .int i ∧ Q (some i) h
theorem PO.imp {X : Cx} {x : Option Expr} {t t' : TO} (h : PO X x t) (i : ∀ σ H Q, t' σ H Q → t σ H Q) : PO X x t' := ⟨fun pins s σ H Q I q => h.run pins s σ H Q I (i σ H Q q)⟩
def gSl : PV → Option Int → Option Int → PH → KI → Prop := fun p lo hi hp Q => match p with
  | .tup ps => Q (.tup (cutP ps lo hi)) hp
  | .str s => Q (.str (cutS s lo hi)) hp
  | p => ∃ ps, asL hp p = some ps ∧ Q (.lst (cutP ps lo hi)) hp
def rSl (K : PySem.W.Frag) : V → Option Int → Option Int → Hp → VK → Prop := fun x lo hi H Q => rSlL K x lo hi H Q ∨ rSlA K x lo hi H Q ∨ rSlS x lo hi H Q
def wSl (a : WE) (lo hi : WO) : WE := fun σ hp e Q => a σ hp e fun p h => lo σ h e fun l h2 => hi σ h2 e fun u h3 => gSl p l u h3 Q
section
variable {X : Cx} {C : Cfg} {E : XK} {x : Expr} {wa : WE} {lo hi : Option Expr} {wl wh : WO} {p2 pos : Pos}
theorem ro_no : RO X C E none wNoO := ⟨fun σ hp e Q Q' h q => h _ _ q, PO.imp po_none fun σ H Q ⟨μ, hp, σI, e, A, s, q⟩ => q μ H .refl A.hr⟩
theorem ro_sm (h : RE X C E x wa) : RO X C E (some x) (wSmO wa) := ⟨fun σ hp e Q Q' i q => h.mo _ _ _ _ _ (fun p h ⟨k, e1, q⟩ => ⟨k, e1, i _ _ q⟩) q, PO.imp (po_some h.pe) fun σ H Q ⟨μ, hp, σI, e, A, s, q⟩ =>
  tE.go h.mo A s q fun p h1 μ1 H1 v ⟨k, e1, q1⟩ u1 A1 s1 r1 => by
    subst e1
    exact ⟨k, r1.intI, q1 μ1 H1 u1 A1.hr⟩⟩
theorem gSl_mo : ∀ p lo hi hp (Q Q' : KI), (∀ z h, Q z h → Q' z h) → gSl p lo hi hp Q → gSl p lo hi hp Q' := fun p lo hi hp Q Q' i h => by
  unfold gSl at h ⊢
  split at h
  · exact i _ _ h
  · exact i _ _ h
  · obtain ⟨ps, e, q⟩ := h
    exact ⟨ps, e, i _ _ q⟩
theorem cutS_le (s : Str) (lo hi : Option Int) : (cutS s lo hi).length ≤ s.length := by
  unfold cutS
  simp [Str.length]
  omega
theorem cut_rvs {K : PySem.W.Frag} {μ : List Addr} {H : Hp} {ps : List PV} {vs : List V} (r : RVs K μ H ps vs) (lo hi : Option Int) : RVs K μ H (cutP ps lo hi) (cutV vs lo hi) := by
  unfold cutP cutV
  rw [r.length]
  exact (r.drop _).take _
theorem re_sl (hK : X.K = C.K) (ha : RE X C E x wa) (hl : RO X C E lo wl) (hh : RO X C E hi wh) : RE X C E (.Subscript x (.Slice lo hi none p2) pos) (wSl wa wl wh) := by
  refine ⟨fun σ hp e Q Q' i q => ha.mo _ _ _ _ _ (fun p h q => hl.mo _ _ _ _ _ (fun l h q => hh.mo _ _ _ _ _ (fun u h q => gSl_mo _ _ _ _ _ _ i q) q) q) q,
    PE.imp (PE.fz (pe_slice (sl_list.or (sl_tupA.or sl_str)) ha.pe hl.po hh.po)) fun σ H Q ⟨μ, hp, σI, e, A, s, q⟩ => ?_⟩
  refine tE.go ha.mo A s q fun p h1 μ1 H1 v q1 u1 A1 s1 r1 => ?_
  refine ⟨μ1, h1, σI, e, A1, s1, hl.mo _ _ _ _ _ (fun l h2 q2 μ2 H2 u2 r2 => ?_) q1⟩
  have A2 := A1.next u2 r2
  refine ⟨μ2, h2, σI, e, A2, s1.up u2, hh.mo _ _ _ _ _ (fun k h3 q3 μ3 H3 u3 r3 => ?_) q2⟩
  have A3 := A2.next u3 r3
  have rv := RV.up (u2.trans u3) _ _ r1
  have q4 : gSl p l k h3 (fE C μ3 H3 Q) := gSl_mo _ _ _ _ _ _ (fun z h q => fE.up q ((u1.trans u2).trans u3)) q3
  clear q3 r1
  rw [hK]
  unfold gSl at q4
  split at q4
  · obtain ⟨a, vs, rfl, hs, rs⟩ := rv.tupI
    refine .inr (.inl ⟨a, vs, rfl, hs, fun hw => fzk (q4 μ3 H3 _ .refl r3 ?_), fun hw p np => fzk (q4.newT r3 (cut_rvs rs l k) np)⟩)
    rename_i ps
    have e1 : cutP ps l k = ps := by
      unfold cutP
      rw [rs.length] at hw
      rw [hw.1, hw.2]
      simp
    rw [e1]
    exact rv
  · exact .inr (.inr ⟨_, rv.strI, rv.strL, fzk (q4 μ3 H3 _ .refl r3 (.str' (Nat.le_trans (cutS_le _ _ _) rv.strL)))⟩)
  · obtain ⟨ps, e, q5⟩ := q4
    obtain ⟨a, vs, rfl, hs, rs⟩ := asL_sq r3 rv e
    exact .inl ⟨a, vs, rfl, hs, fun p np => q5.newL r3 (cut_rvs rs l k) np⟩
/-- x[::-1] of a list -/
def wRevL (a : WE) : WE := fun σ hp e Q => a σ hp e fun p h => ∃ ps, asL h p = some ps ∧ Q (.lst ps.reverse) h
theorem re_revL {k : Nat} {p1 p3 p4 : Pos} (hK : X.K = C.K) (ha : RE X C E x wa) : RE X C E (.Subscript x (.Slice none none (some (.UnaryOp .USub (.Constant (.int 1) k p1) p3)) p4) pos) (wRevL wa) := by
  refine ⟨fun σ hp e Q Q' i q => ha.mo _ _ _ _ _ (fun p h ⟨ps, e1, q⟩ => ⟨ps, e1, i _ _ q⟩) q, PE.imp (PE.fz (pe_revL ha.pe)) fun σ H Q ⟨μ, hp, σI, e, A, s, q⟩ => ?_⟩
  refine tE.go ha.mo A s q fun p h1 μ1 H1 v ⟨ps, e1, q1⟩ u1 A1 s1 r1 => ?_
  obtain ⟨a, vs, rfl, hs, rs⟩ := asL_sq A1.hr r1 e1
  exact ⟨a, vs, rfl, by rw [hK]; exact hs, fun p np => (fE.up q1 u1).newL A1.hr rs.reverse np⟩
end
end RF

set_option Elab.async false
set_option linter.all false
set_option maxRecDepth 100000
set_option maxHeartbeats 400000
/-! Part 6: comprehensions. -/
namespace RF
open PySem PySem.Spec L2

/-! ### the slots of a block -/
def wpI (σ : SI) : List Nat → SI
  | [] => σ
  | v :: vs => (wpI σ vs).set v none
theorem wipe_at {σ : St} {j : Nat} : ∀ vs : List Nat, (wipe σ vs)[j]? = if j ∈ vs then (if j < σ.length then some none else none) else σ[j]?
  | [] => by simp [wipe]
  | v :: vs => by
    unfold wipe
    by_cases h : v = j
    · subst h
      rw [if_pos (List.mem_cons_self ..)]
      by_cases l : v < σ.length
      · rw [if_pos l, List.getElem?_set_self (by rw [wipe_length]; exact l)]
      · rw [if_neg l, List.getElem?_eq_none (by rw [List.length_set, wipe_length]; omega)]
    · rw [List.getElem?_set_ne h, wipe_at vs]
      by_cases m : j ∈ vs
      · rw [if_pos m, if_pos (List.mem_cons_of_mem _ m)]
      · rw [if_neg m, if_neg (by simp only [List.mem_cons, not_or]; exact ⟨fun z => h z.symm, m⟩)]
theorem wipe_eq {σ σ' : St} {vs : List Nat} (l : σ'.length = σ.length) (h : ∀ j, j ∉ vs → σ'[j]? = σ[j]?) : wipe σ' vs = wipe σ vs := by
  apply List.ext_getElem?
  intro j
  rw [wipe_at, wipe_at, l]
  by_cases m : j ∈ vs
  · rw [if_pos m, if_pos m]
  · rw [if_neg m, if_neg m, h j m]
theorem wipe2 {σ : St} {vs : List Nat} : wipe (wipe σ vs) vs = wipe σ vs := wipe_eq (wipe_length _ _) fun j m => by rw [wipe_at, if_neg m]
theorem wpI_at {σ : SI} {j : Nat} {p : PV} : ∀ {vs : List Nat}, (wpI σ vs)[j]? = some (some p) → σ[j]? = some (some p) ∧ j ∉ vs
  | [], h => ⟨h, by simp⟩
  | v :: vs, h => by
    unfold wpI at h
    by_cases hi : v = j
    · subst hi
      by_cases hv : v < (wpI σ vs).length
      · rw [List.getElem?_set_self hv] at h; cases h
      · rw [List.getElem?_eq_none (by simpa using hv)] at h; cases h
    · rw [List.getElem?_set_ne hi] at h
      obtain ⟨h1, h2⟩ := wpI_at h
      exact ⟨h1, by simp only [List.mem_cons, not_or]; exact ⟨fun e => hi e.symm, h2⟩⟩
theorem wpI_len {σ : SI} : ∀ vs : List Nat, (wpI σ vs).length = σ.length
  | [] => rfl
  | v :: vs => by unfold wpI; rw [List.length_set, wpI_len vs]
theorem SR.wipe {C : Cfg} {μ : List Addr} {H : Hp} {σI : SI} {σ : St} (s : SR C μ H σI σ) (vs : List Nat) : SR C μ H (wpI σI vs) (L2.wipe σ vs) := ⟨by rw [wpI_len, wipe_length]; exact s.len, fun i p e => by
  obtain ⟨h1, h2⟩ := wpI_at e
  obtain ⟨v, h3, h4⟩ := s.get i p h1
  exact ⟨v, by rw [wipe_at, if_neg h2]; exact h3, h4⟩⟩
def Tg.ix : Tg → List Nat
  | .nm i => [i]
  | .tp is => is
theorem setAll_at {α : Type} : ∀ (is : List Nat) (vs : List α) (σ : List (Option α)), (RF.setAll σ is vs).length = σ.length ∧ ∀ j, j ∉ is → (RF.setAll σ is vs)[j]? = σ[j]?
  | [], vs, σ => by cases vs <;> exact ⟨rfl, fun _ _ => rfl⟩
  | i :: is, [], σ => ⟨rfl, fun _ _ => rfl⟩
  | i :: is, v :: vs, σ => by
    obtain ⟨h1, h2⟩ := setAll_at is vs (σ.set i (some v))
    refine ⟨h1.trans (List.length_set ..), fun j m => ?_⟩
    simp only [List.mem_cons, not_or] at m
    show (RF.setAll (σ.set i (some v)) is vs)[j]? = _
    rw [h2 j m.2, List.getElem?_set_ne fun z => m.1 z.symm]
theorem Tg.okB {C : Cfg} {μ : List Addr} {H : Hp} {t : Tg} {p : PV} {v : V} {σI σI' : SI} {σ : St} {Q : St → Hp → Prop} (r : RV C.K μ H p v) (s : SR C μ H σI σ) (h : t.go p σI = some σI')
    (q : ∀ σ', SR C μ H σI' σ' → σ'.length = σ.length → (∀ j, j ∉ t.ix → σ'[j]? = σ[j]?) → Q σ' H) : t.g C.K v σ H Q := by
  cases t with
  | nm i =>
    simp only [Tg.go, Option.some.injEq] at h
    subst h
    exact q _ (s.set r) (List.length_set ..) fun j m => List.getElem?_set_ne fun z => m (by rw [← z]; exact List.mem_singleton.mpr rfl)
  | tp is =>
    cases p with
    | tup ps =>
      simp only [Tg.go] at h
      split at h
      · rename_i hl
        cases h
        obtain ⟨a, vs, rfl, hs, rv⟩ := r.tupI
        obtain ⟨l1, l2⟩ := setAll_at is vs σ
        exact ⟨a, vs, rfl, hs, by rw [rv.length, hl], gNames_ok is vs σ H Q (by rw [rv.length, hl]) (q _ (SR.setAll is ps vs _ _ s rv) l1 l2)⟩
      · cases h
    | _ => simp [Tg.go] at h

/-! ### the new thing of a block -/
section
variable {C : Cfg} {μ μ' : List Addr} {H H' : Hp} {hp : PH} {D : Addr} {o u : HO}
theorem Up.notin (x : Up μ H μ' H') (h : H D = some o) (l : lsd o = true) (m : D ∉ μ) : H' D = some o ∧ D ∉ μ' := x.hid D o l h m
theorem stab_lsd (h : lsd o = true) : stab o = false := by
  cases o <;> first | rfl | cases h
/-- nothing stands there (a table at most) -/
def Fr (H : Hp) (D : Addr) : Prop := ¬ nt H D
theorem fr_none (h : H D = none) : Fr H D := fun n => nt_ne n h rfl
theorem Up.fr (x : Up μ H μ' H') (h : Fr H' D) : Fr H D := fun n => h (x.dm D n)
theorem fr_ne {a : Addr} (f : Fr H D) (e : H a = some o) (ho : ∀ ps, o ≠ .tbl ps) : a ≠ D := fun z => f (z ▸ ⟨o, e, ho⟩)
/-- a thing without a number is written: nobody sees it -/
theorem Up.wrN (x : Up μ H μ' H') (h0 : Fr H D) (h : H' D = some u) (l : lsd u = true) (m : D ∉ μ') : Up μ H μ' (upd H' D o) := ⟨x.ad, fun a q s e => by
  rw [upd_ne (fr_ne h0 e (stab_nt s))]; exact x.st a q s e, fun a e => nt_keep (x.dm a e) (fun z => h0 (z ▸ e)), fun a q l e n => ⟨by rw [upd_ne (fr_ne h0 e (lsd_nt l))]; exact (x.hid a q l e n).1, (x.hid a q l e n).2⟩, x.nw⟩
theorem Up0.wrN (h : H D = some u) (l : lsd u = true) : Up0 μ H μ (upd H D o) := ⟨fun _ _ h => h, fun b q s e => by
  rw [upd_ne fun z => by subst z; rw [h] at e; cases e; rw [stab_lsd l] at s; cases s]; exact e⟩
theorem HR.wrN (r : HR C μ H hp) (h : H D = some u) (l : lsd u = true) (m : D ∉ μ) : HR C μ (upd H D o) hp := by
  have hu : (∀ ps, u ≠ .tbl ps) ∧ ∀ φ, u ≠ .ext φ := by
    cases u with
    | lst xs => exact lstU.2
    | dK xs => exact dKU.2
    | _ => cases l
  refine ⟨r.nd, fun a ma => nt_keep (r.lv a ma) (fun z => m (z ▸ ma)), fun n c e => ?_, tabs_wr h hu r.tabs, r.xd.up0 (Up0.wrN h l), r.fl⟩
  obtain ⟨a, e1, e2⟩ := r.cell n c e
  have na : a ≠ D := fun z => m (by rw [← z]; exact List.mem_of_getElem? e1)
  exact ⟨a, e1, e2.up0 (Up0.wrN h l) (upd_ne na)⟩
/-- it is locked at last -/
theorem fE.lockL {Q : VK} {ps : List PV} {vs : List V} (q : fE C μ H Q (.lst ps) hp) (x : Up μ H μ' H') (h0 : Fr H D) (r : HR C μ' H' hp) (h : H' D = some (.lst vs)) (m : D ∉ μ') (rv : RVs C.K μ' H' ps vs) : FzK Q (.ref D) H' := by
  refine .inr ⟨D, .lst vs, rfl, h, .inl ⟨_, rfl⟩, fun o => ?_⟩
  refine q μ' _ (.ref D) (x.wrN h0 h rfl m) (r.wrN h rfl m) ?_
  simp only [RV]
  exact ⟨D, vs, rfl, ⟨o, upd_same⟩, RVs.up0 (Up0.wrN h rfl) _ _ rv⟩
theorem fE.lockD {Q : VK} {ps : List (Key × PV)} {vs : List (Key × V)} (q : fE C μ H Q (.dct ps) hp) (x : Up μ H μ' H') (h0 : Fr H D) (r : HR C μ' H' hp) (h : H' D = some (.dK vs)) (m : D ∉ μ') (rv : RKs C.K μ' H' ps vs) : FzK Q (.ref D) H' := by
  refine .inr ⟨D, .dK vs, rfl, h, .inr ⟨_, rfl⟩, fun o => ?_⟩
  refine q μ' _ (.ref D) (x.wrN h0 h rfl m) (r.wrN h rfl m) ?_
  simp only [RV]
  exact ⟨D, vs, rfl, ⟨o, upd_same⟩, RKs.up0 (Up0.wrN h rfl) _ _ rv⟩
/-- or gets its number -/
theorem Up.addN (x : Up μ H μ' H') (h0 : Fr H D) : Up μ H (μ' ++ [D]) H' := ⟨fun n a e => by
  rw [List.getElem?_append_left (List.getElem?_eq_some_iff.mp (x.ad n a e)).1]; exact x.ad n a e, x.st, x.dm, fun a o l e n => ⟨(x.hid a o l e n).1, by
    rw [List.mem_append, List.mem_singleton]
    rintro (z | z)
    · exact (x.hid a o l e n).2 z
    · exact fr_ne h0 e (lsd_nt l) z⟩, fun a m => (List.mem_append.mp m).elim (x.nw a) fun z => .inr (by rw [List.mem_singleton.mp z]; exact h0)⟩
theorem HR.addN (r : HR C μ H hp) (m : D ∉ μ) (h : H D = some o) {c : Cell} (hc : CellR C (μ ++ [D]) H D c) (hf : flC c = true) : HR C (μ ++ [D]) H (put hp μ.length c) := by
  refine ⟨?_, fun a m => ?_, fun n d e => ?_, r.tabs, r.xd.up0 ⟨fun n x e => by rw [List.getElem?_append_left (List.getElem?_eq_some_iff.mp e).1]; exact e, fun _ _ _ h => h⟩, fl_put r.fl hf⟩
  · rw [List.nodup_append]
    refine ⟨r.nd, by simp, fun a ha b hb => ?_⟩
    rw [List.mem_singleton.mp hb]
    exact fun z => m (z ▸ ha)
  · rcases List.mem_append.mp m with m | m
    · exact r.lv a m
    · rw [List.mem_singleton.mp m]
      exact hc.nt
  · by_cases z : n = μ.length
    · subst z
      rw [put_same] at e
      cases e
      exact ⟨D, by simp, hc⟩
    · rw [put_ne z] at e
      obtain ⟨a, e1, e2⟩ := r.cell n d e
      have u : Up0 μ H (μ ++ [D]) H := ⟨fun n x e => by rw [List.getElem?_append_left (List.getElem?_eq_some_iff.mp e).1]; exact e, fun _ _ _ h => h⟩
      exact ⟨a, u.ad _ _ e1, e2.up0 u rfl⟩
theorem fE.numL {Q : VK} {ps : List PV} {vs : List V} (q : ∀ n, hp n = none → fE C μ H Q (.loc n) (put hp n (.lst ps))) (x : Up μ H μ' H') (h0 : Fr H D) (r : HR C μ' H' hp) (h : H' D = some (.lst vs)) (m : D ∉ μ') (rv : RVs C.K μ' H' ps vs) (hf : nls ps = true) : Q (.ref D) H' := by
  have u : Up0 μ' H' (μ' ++ [D]) H' := ⟨fun n x e => by rw [List.getElem?_append_left (List.getElem?_eq_some_iff.mp e).1]; exact e, fun _ _ _ h => h⟩
  refine q μ'.length (r.nomore (Nat.le_refl _)) (μ' ++ [D]) H' (.ref D) (x.addN h0) (r.addN m h ⟨vs, h, RVs.up0 u _ _ rv⟩ hf) ?_
  simp only [RV]
  exact ⟨D, rfl, by simp⟩
end
end RF

set_option Elab.async false
set_option linter.all false
set_option maxRecDepth 100000
set_option maxHeartbeats 400000
/-! Part 7: comprehensions, their judgements. -/
namespace RF
open PySem PySem.Spec L2

abbrev eNo : EI := fun _ _ _ => False
abbrev E0 : XK := fun _ _ _ => False
theorem eok0 {C : Cfg} {μ : List Addr} {H : Hp} : EOK C E0 eNo μ H := fun _ _ _ _ _ _ _ _ _ _ _ h => h
structure RTs (X : Cx) (C : Cfg) (E : XK) (x : List Expr) (w : WT) : Prop where
  mo : MoT w
  pts : PTs X x (tT C E w)
theorem PTs.imp {X : Cx} {x : List Expr} {t t' : TT} (h : PTs X x t) (i : ∀ σ H Q, t' σ H Q → t σ H Q) : PTs X x t' := ⟨fun pins s σ H Q I q => h.run pins s σ H Q I (i σ H Q q)⟩
def wYes : WT := fun _ hp _ Q => Q true hp
section
variable {X : Cx} {C : Cfg} {E : XK}
theorem rts_nil : RTs X C E [] wYes := ⟨fun _ _ _ _ _ i q => i _ _ q, PTs.imp pts_nil fun σ H Q ⟨μ, hp, σI, e, A, s, q⟩ => fT.here q A.hr⟩
theorem rts_one {c : Expr} {w : WT} (h : RT X C E c w) : RTs X C E [c] w := ⟨h.mo, pts_one h.pt⟩
end
def compW (tg : Tg) (tt : WT) (el : WE) (σ : SI) : List PV → List PV → PH → (List PV → PH → Prop) → Prop
  | [], acc, hp, Q => Q acc hp
  | p :: ps, acc, hp, Q => ∃ σ', tg.go p σ = some σ' ∧ tt σ' hp eNo fun b h => if b = true then el σ' h eNo fun y h2 => acc.length < sizeLine ∧ compW tg tt el σ ps (acc ++ [y]) h2 Q else compW tg tt el σ ps acc h Q
theorem compW.mo {tg : Tg} {tt : WT} {el : WE} {σ : SI} (mt : MoT tt) (me : MoE el) {Q Q' : List PV → PH → Prop} (i : ∀ p h, Q p h → Q' p h) : ∀ (ps acc : List PV) (hp : PH), compW tg tt el σ ps acc hp Q → compW tg tt el σ ps acc hp Q'
  | [], acc, hp, q => i _ _ q
  | p :: ps, acc, hp, ⟨σ', e, q⟩ => ⟨σ', e, mt _ _ _ _ _ (fun b h q => ite_mono (me _ _ _ _ _ fun y h2 ⟨l, q⟩ => ⟨l, compW.mo mt me i ps _ h2 q⟩) (compW.mo mt me i ps acc h) q) q⟩
def wLc (tg : Tg) (vs : List Nat) (it : WA) (tt : WT) (el : WE) : WE := fun σ hp e Q => it σ hp e fun ps h => compW tg tt el (wpI σ vs) ps [] h fun qs h2 => Q (.lst qs) h2

section
variable {X : Cx} {C : Cfg} {E : XK} {tg : Tg} {vs : List Nat} {it : WA} {tt : WT} {el : WE} {σ : St} {H : Hp} {Q : VK}
/-- the walk of a list block: what is wanted of the new list at D -/
theorem lc_go (mi : MoA it) (mt : MoT tt) (me : MoE el) (hv : ∀ i ∈ tg.ix, i ∈ vs) {R : List PV → PH → Prop} {μ : List Addr} {hp : PH} {σI : SI} {e : EI} (A : At C E μ H hp e) (s : SR C μ H σI σ) (q : it σI hp e fun ps h => compW tg tt el (wpI σI vs) ps [] h R)
    (fin : ∀ qs h2 μ2 H2 D ys, R qs h2 → Up μ H μ2 H2 → HR C μ2 H2 h2 → Fr H D → H2 D = some (.lst ys) → D ∉ μ2 → RVs C.K μ2 H2 qs ys → Q (.ref D) H2) :
    tLc (tI C E it) (tg.g C.K) (tT C E0 tt) (tE C E0 el) vs σ H Q := by
  refine ⟨μ, hp, σI, e, A, s, mi _ _ _ _ _ (fun ps h1 q1 μ1 H1 u1 r1 J W => ?_) q⟩
  intro D hD
  have hD0 : Fr H D := u1.fr (fr_none hD)
  have uD : Up μ1 H1 μ1 (upd H1 D (.lst [])) := Up.fresh hD
  refine ⟨fun i m H2 => m = ps.length - i ∧ i ≤ ps.length ∧ ∃ μ2 hp2 acc ys, Up μ1 H1 μ2 H2 ∧ HR C μ2 H2 hp2 ∧ D ∉ μ2 ∧ H2 D = some (.lst ys) ∧ RVs C.K μ2 H2 acc ys ∧ compW tg tt el (wpI σI vs) (ps.drop i) acc hp2 R,
    ⟨_, rfl, Nat.zero_le _, μ1, h1, [], [], uD, r1.fresh hD, r1.notin hD, upd_same, .nil, q1⟩, ?_⟩
  rintro i m H2 ⟨em, hi, μ2, hp2, acc, ys, u2, r2, nD, eD, rv, q2⟩
  by_cases hl : i < ps.length
  · rw [List.drop_eq_getElem_cons hl] at q2
    obtain ⟨σ', e3, q3⟩ := q2
    refine .inr ⟨W.go μ2 H2 i u2.weak hl, fun H' => ∃ m', m' < m ∧ m' = ps.length - (i + 1) ∧ i + 1 ≤ ps.length ∧ ∃ μ2 hp2 acc ys, Up μ1 H1 μ2 H' ∧ HR C μ2 H' hp2 ∧ D ∉ μ2 ∧ H' D = some (.lst ys) ∧ RVs C.K μ2 H' acc ys ∧ compW tg tt el (wpI σI vs) (ps.drop (i + 1)) acc hp2 R,
      fun H' z => z, fun x H' y => ?_⟩
    obtain ⟨rx, u3, keep⟩ := W.yl μ2 H2 i x H' _ u2.weak (List.getElem?_eq_getElem hl) y
    have sI := (((s.up u1).up u2).up u3).wipe vs
    refine Tg.okB rx sI e3 fun σ4 s4 l4 n4 => ⟨?_, ?_⟩
    · rw [← wipe2 (σ := σ) (vs := vs)]
      exact wipe_eq l4 fun j m => n4 j fun z => m (hv j z)
    · refine tT.go mt ⟨keep _ r2, eok0⟩ s4 q3 fun b h5 μ5 H5 q5 u5 A5 s5 => ?_
      have u25 := u3.trans u5
      obtain ⟨eD5, nD5⟩ := u25.notin eD rfl nD
      refine ite_mono (fun q5 => ?_) (fun q5 => ?_) q5
      · refine tE.go me A5 s5 q5 fun y h6 μ6 H6 v ⟨l6, q6⟩ u6 A6 s6 r6 => ?_
        obtain ⟨eD6, nD6⟩ := u6.notin eD5 rfl nD5
        have rv6 := RVs.up (u25.trans u6) _ _ rv
        refine ⟨ys, eD6, by rw [rv6.length]; exact l6, ?_⟩
        refine ⟨_, (by omega : ps.length - (i + 1) < m), rfl, hl, μ6, h6, acc ++ [y], ys ++ [v], ((u2.trans u25).trans u6).wrN (fr_none hD) eD6 rfl nD6, A6.hr.wrN eD6 rfl nD6, nD6, upd_same, RVs.up0 (Up0.wrN eD6 rfl) _ _ (rv6.append (.cons r6 .nil)), q6⟩
      · exact ⟨_, (by omega : ps.length - (i + 1) < m), rfl, hl, μ5, h5, acc, ys, u2.trans u25, A5.hr, nD5, eD5, RVs.up u25 _ _ rv, q5⟩
  · have e1 : ps.drop i = [] := List.drop_of_length_le (by omega)
    rw [e1] at q2
    exact .inl ⟨W.st μ2 H2 i u2.weak (by omega), fin acc hp2 μ2 H2 D ys q2 (u1.trans u2) r2 hD0 eD nD rv⟩
end
section
variable {X : Cx} {C : Cfg} {E : XK} {tge iter elt : Expr} {ifs : List Expr} {scope : Scope} {own : List (Str × Nat)} {tg : Tg} {it : WA} {tt : WT} {el : WE} {pos : Pos}
theorem re_lc (hK : X.K = C.K) (hc : X.calm = true) (hN : X.N.Nodup) (hi : RI X C E tge iter it) (ok : blkC X.N X.env.scope scope own = true) (hv : ∀ i ∈ tg.ix, i ∈ own.map (·.2))
    (hg : ∀ s H Ca cl fp, TgIs (X.blk s H scope (compEnvC scope cl Ca X.env) fp) tge tg) (ht : ∀ s H Ca cl fp, RTs (X.blk s H scope (compEnvC scope cl Ca X.env) fp) C E0 ifs tt)
    (he : ∀ s H Ca cl fp, RE (X.blk s H scope (compEnvC scope cl Ca X.env) fp) C E0 elt el) (hs : ∀ x, foldedSetIterable iter X.env x = pure x) : RE X C E (.ListComp elt [⟨tge, iter, ifs, 0⟩] scope pos) (wLc tg (own.map (·.2)) it tt el) := by
  have mt : MoT tt := (ht X.s_0 X.H_0 0 [] []).mo
  have me : MoE el := (he X.s_0 X.H_0 0 [] []).mo
  refine ⟨fun σ hp e Q Q' i q => hi.mo _ _ _ _ _ (fun ps h q => compW.mo mt me (fun _ _ q => i _ _ q) _ _ _ q) q,
    PE.imp (PE.fz (pe_lc (g := tg.g X.K) hc hN hi.pi (blkOk_by ok) (fun s H Ca cl fp => TgIs.pg (X := X.blk s H scope (compEnvC scope cl Ca X.env) fp) hc hN (hg s H Ca cl fp)) (fun s H Ca cl fp => (ht s H Ca cl fp).pts) (fun s H Ca cl fp => (he s H Ca cl fp).pe) hs)) fun σ H Q ⟨μ, hp, σI, e, A, s, q⟩ => ?_⟩
  show tLc _ (tg.g X.K) _ _ _ _ _ _
  rw [hK]
  exact lc_go hi.mo mt me hv A s q fun qs h2 μ2 H2 D ys q2 u2 r2 h0 eD nD rv => q2.lockL u2 h0 r2 eD nD rv
end
end RF

set_option Elab.async false
set_option linter.all false
set_option maxRecDepth 100000
set_option maxHeartbeats 400000
/-! Part G1: promises of defs that are called with no repr under way, so that a repr in them is exact. -/
namespace RF
open PySem PySem.Spec L2
open PyProof.Rows (envOfC)

/-- nothing is being shown -/
abbrev Calm (A : Around) : Prop := A.guards = some []
structure FnG (P : Program) (w : World) (K : PySem.W.Frag) (mg : Str → Option Value) (base : Heap) (k : Nat) (f : Addr) (fd : FuncData) (ps : List Str) (sp : Sp) : Prop where
  few : ∀ vs H Q E, sp vs H Q E → vs.length = ps.length
  go : ∀ (A : Around) (out : List Env) (s : Shared) (H : Hp) (args : Args) (us : List Value) (vs : List V) (Q : VK) (E : XK), Calm A → Room k A → Env0 P w K mg base A out s H →
    BindsTo s fd args (ps.zip us) → Vals vs us → sp vs H Q E →
    codeAny (model P w) A (.call (.ref f) args) (CR (L2.CX P w) out P w H s Q E) s
section
variable {P : Program} {w : World} {K : PySem.W.Frag} {mg : Str → Option Value} {base : Heap} {k : Nat} {f : Addr} {fd : FuncData} {ps : List Str} {sp : Sp}
theorem FnG.more {j : Nat} (F : FnG P w K mg base j f fd ps sp) (h : j ≤ k) : FnG P w K mg base k f fd ps sp :=
  ⟨F.few, fun A out s H args us vs Q E g room => F.go A out s H args us vs Q E g (room.mono h)⟩
/-- the rule for a def's body -/
theorem fnG {x qual : Str} {params : Arguments} {body : List Stmt} {scope : Scope} {dvs : List V} {kws : List (Str × V)} {N : List Str} (F : FunD K x qual params body scope dvs kws f fd) (S : FnScope N ps scope)
    (few : ∀ vs H Q E, sp vs H Q E → vs.length = ps.length)
    (hb : ∀ (cdv : Value) (A : Around) (out : List Env) (s : Shared) (H : Hp) (vs : List V) (Q : VK) (E : XK), Calm A → Room k (A.deeper (envOfC qual scope s.heap.objs.size f cdv)) → sp vs H Q E →
      ∃ t, PSs (cxOf (L2.CX P w) P w K mg base N qual scope f cdv A out s H E) body t ∧
        t { nx := fun _ H' => Q .non H', rt := Q } (start N vs) H) :
    FnG P w K mg base (k + 1) f fd ps sp := by
  obtain ⟨oc, od, dV, kV, doc, pm, an, cdv, ct, osl, rfl, look, code, _, _⟩ := F.ex
  refine ⟨few, fun A out s H args us vs Q E g room e0 bind rel h => ?_⟩
  exact LamX.run_ofS look code S room e0 bind rel (few _ _ _ _ h) fun room' => hb cdv A out s H vs Q E g room' h
end
section
variable {X : Cx} {k : Nat} {f : Addr} {fd : FuncData} {ps : List Str} {sp : Sp} {E : XK}
theorem FnG.call {pins : List (Addr × Obj)} {σ : St} {H : Hp} {s : Shared} {Q : VK} {args : Args} {us : List Value} {vs : List V} (F : FnG X.prog X.w X.K X.mg X.base k f fd ps sp) (hg : Calm X.A) (room : Room k X.A) (tk : Takes X (fun cls d _ H => E cls d H))
    (I : Inv X pins σ H s) (bind : BindsTo s fd args (ps.zip us)) (rel : Vals vs us) (h : sp vs H Q E) :
    codeAny (model X.prog X.w) X.A (.call (.ref f) args) (fun r s' => match r with | .ok (.ret u) => EP X pins σ Q u s' | .ok _ => False | .error e => X.xe e s') s := by
  refine codeAny_mono (F.go X.A X.stack s H args us vs Q E hg room I.env0 bind rel h) ?_
  intro r s' z
  match r, z with
  | .error e, z => exact passes_call tk (fun _ _ _ _ q => q) pins σ H s e s' I z
  | .ok (.ret u), z => exact I.after z
theorem FnG.pe (F : FnG X.prog X.w X.K X.mg X.base k f fd ps sp) (hg : Calm X.A) (room : Room k X.A) (tk : Takes X (fun cls d _ H => E cls d H)) {nm : Str} {p pos : Pos} {x : Expr} {es : List Expr} {t : TA} (gl : Gl X nm) (hm : X.mg nm = some (.ref f))
    (hk : PySem.W.keepIn X.K (.ref f) = true) (hb : Binds X.K fd ps []) (ha : PA X (x :: es) t) (hdb : (nm == ("__debug__" : Str)) = false) (he : starEach (x :: es) X.env = (false, eval x X.env) :: starEach es X.env) (hpl : (backTo pos (starEach es X.env)).any (·.1) = false) :
    PE X (.Call (.Name nm p) (x :: es) [] pos) (fun σ H Q => t σ H fun vs H1 => sp vs H1 Q E) := by
  constructor
  intro pins s σ H Q I h
  apply wpAny_Call_Name_kw
  refine ld_glob I gl hm ?_ hdb
  refine PySem.W.callWith_K (h₀ := X.base) I.ok.mod.kin hk ?_ he hpl
  refine thn (ha.run pos pins s σ H _ I h) fun us s1 ⟨vs, H1, I1, rel, q⟩ => ⟨I1.kIn, ?_⟩
  have l : us.length = ps.length := by rw [← rel.length]; exact F.few _ _ _ _ q
  have b := hb s1 us I1.kIn (by rw [List.append_nil]; exact l)
  rw [List.append_nil] at b
  exact wpAny_call (F.call hg room tk I1 b rel q)
theorem FnG.pe0 (F : FnG X.prog X.w X.K X.mg X.base k f fd ps sp) (hg : Calm X.A) (room : Room k X.A) (tk : Takes X (fun cls d _ H => E cls d H)) {nm : Str} {p pos : Pos} (gl : Gl X nm) (hm : X.mg nm = some (.ref f))
    (hk : PySem.W.keepIn X.K (.ref f) = true) (hb : Binds X.K fd ps []) (hdb : (nm == ("__debug__" : Str)) = false) :
    PE X (.Call (.Name nm p) [] [] pos) (fun σ H Q => sp [] H Q E) := by
  constructor
  intro pins s σ H Q I h
  apply wpAny_Call_Name_kw
  refine ld_glob I gl hm ?_ hdb
  have b := hb s [] I.kIn (by rw [List.append_nil, ← F.few _ _ _ _ h]; rfl)
  exact PySem.W.callWith_K0 I.kIn hk (wpAny_call (F.call hg room tk I b .nil h))
end

/-! ### a def by its meaning -/
section
variable {X : Cx} {C : Cfg} {E : XK} {es : List Expr} {x : Expr} {w : WA} {f : WF} {pos p : Pos} {n k : Nat} {fa : Addr} {fd : FuncData} {ps : List Str} {nm : Str}
/-- arguments, their number counted -/
def wArgs (n : Nat) (w : WA) : WA := fun σ hp e Q => w σ hp e fun ps h => ps.length = n ∧ Q ps h
theorem re_callG (F : FnG X.prog X.w X.K X.mg X.base k fa fd ps (spI C n f)) (mf : MoF f) (hG : Calm X.A) (room : Room k X.A) (tk : Takes X (fun cls d _ H => E cls d H)) (gl : Gl X nm) (hm : X.mg nm = some (.ref fa)) (hk : PySem.W.keepIn X.K (.ref fa) = true) (hb : Binds X.K fd ps [])
    (ha : RA X C E (x :: es) w) (hdb : (nm == ("__debug__" : Str)) = false) (he : starEach (x :: es) X.env = (false, eval x X.env) :: starEach es X.env) (hpl : (backTo pos (starEach es X.env)).any (·.1) = false) :
    RE X C E (.Call (.Name nm p) (x :: es) [] pos) (wCall f (wArgs n w)) := by
  refine ⟨fun σ hp e Q Q' h q => ha.mo _ _ _ _ _ (fun ps h1 ⟨l, q1⟩ => ⟨l, mf _ _ _ _ _ h q1⟩) q, PE.imp (F.pe hG room tk gl hm hk hb ha.pa hdb he hpl) fun σ H Q ⟨μ, hp, σI, e, A, s, q⟩ => ?_⟩
  refine tA.go ha.mo A s q fun ps h1 μ1 H1 vs ⟨l, q1⟩ u1 A1 s1 r1 => ?_
  exact ⟨by rw [r1.length, l], μ1, h1, ps, e, A1, r1, mf _ _ _ _ _ (fun p h q => fE.up q u1) q1⟩
theorem re_callG0 (F : FnG X.prog X.w X.K X.mg X.base k fa fd ps (spI C 0 f)) (mf : MoF f) (hG : Calm X.A) (room : Room k X.A) (tk : Takes X (fun cls d _ H => E cls d H)) (gl : Gl X nm) (hm : X.mg nm = some (.ref fa)) (hk : PySem.W.keepIn X.K (.ref fa) = true) (hb : Binds X.K fd ps [])
    (hdb : (nm == ("__debug__" : Str)) = false) : RE X C E (.Call (.Name nm p) [] [] pos) (wCall f wNil) :=
  ⟨fun σ hp e Q Q' h q => mf _ _ _ _ _ h q, PE.imp (F.pe0 hG room tk gl hm hk hb hdb) fun σ H Q ⟨μ, hp, σI, e, A, s, q⟩ => ⟨rfl, μ, hp, [], e, A, .nil, q⟩⟩
/-- a def's meaning from its body's: at the end things may be forgotten -/
def leP (h h' : PH) : Prop := ∀ n c, h n = some c → h' n = some c
def wFun (N : Nat) (w : WS) : WF := fun ps hp e Q => w (ps.map some ++ List.replicate (N - ps.length) none) hp e { nx := fun _ h => ∃ h', leP h' h ∧ Q .non h', rt := fun p h => ∃ h', leP h' h ∧ Q p h' }
theorem MoS.fn {N : Nat} {w : WS} (h : MoS w) : MoF (wFun N w) := fun ps hp e Q Q' i q => h.at q ⟨fun _ h ⟨h', l, q⟩ => ⟨h', l, i _ _ q⟩, fun _ h ⟨h', l, q⟩ => ⟨h', l, i _ _ q⟩, fun _ _ q => q, fun _ _ q => q⟩
end
theorem sr_start {C : Cfg} {μ : List Addr} {H : Hp} {N : Nat} {qs : List PV} {vs : List V} (r : RVs C.K μ H qs vs) : SR C μ H (qs.map some ++ List.replicate (N - qs.length) none) (vs.map some ++ List.replicate (N - vs.length) none) := by
  refine ⟨by simp [r.length], fun i p e => ?_⟩
  by_cases hi : i < qs.length
  · rw [List.getElem?_append_left (by simpa using hi), List.getElem?_map] at e
    obtain ⟨z, e1, e2⟩ := Option.map_eq_some_iff.mp e
    cases e2
    obtain ⟨v, e3, e4⟩ := r.get e1
    exact ⟨v, by rw [List.getElem?_append_left (by rw [List.length_map, r.length]; exact hi), List.getElem?_map, e3]; rfl, e4⟩
  · rw [List.getElem?_append_right (by simpa using hi), List.getElem?_replicate] at e
    split at e <;> cases e
theorem fE.less {C : Cfg} {μ : List Addr} {H : Hp} {Q : VK} {p : PV} {h : PH} (q : ∃ h', leP h' h ∧ fE C μ H Q p h') : fE C μ H Q p h := fun μ' H' v u r rv => by
  obtain ⟨h', l, q⟩ := q
  exact q μ' H' v u (r.less l) rv
section
variable {P : Program} {w : World} {C : Cfg} {mg : Str → Option Value} {base : Heap} {k n : Nat} {f : Addr} {fd : FuncData} {ps : List Str}
theorem fnR {x qual : Str} {params : Arguments} {body : List Stmt} {scope : Scope} {dvs : List V} {kws : List (Str × V)} {N : List Str} {ws : WS} (F : FunD C.K x qual params body scope dvs kws f fd) (S : FnScope N ps scope) (hn : ps.length = n)
    (hb : ∀ (cdv : Value) (A : Around) (out : List Env) (s : Shared) (H : Hp) (E : XK), Calm (A.deeper (envOfC qual scope s.heap.objs.size f cdv)) → Room k (A.deeper (envOfC qual scope s.heap.objs.size f cdv)) →
      RSs (cxOf (L2.CX P w) P w C.K mg base N qual scope f cdv A out s H E) C E body ws) :
    FnG P w C.K mg base (k + 1) f fd ps (spI C n (wFun N.length ws)) := by
  refine fnG F S (fun vs H Q E h => by rw [h.1, hn]) fun cdv A out s H vs Q E g room ⟨hl, μ, hp, qs, e, a, rv, q⟩ => ?_
  have R := hb cdv A out s H E g room
  refine ⟨_, R.ps, ?_⟩
  refine tS.go R.mo a (sr_start rv) q ⟨fun _ h q => ?_, fun _ h q => fE.less q, fun _ _ q => q.elim, fun _ _ q => q.elim⟩
  exact fun μ' H' σ u r s => fE.less q μ' H' .non u r .non'
theorem FnG.weak {f1 f2 : WF} (F : FnG P w C.K mg base k f fd ps (spI C n f1)) (h : ∀ qs hp e Q, f2 qs hp e Q → f1 qs hp e Q) : FnG P w C.K mg base k f fd ps (spI C n f2) :=
  have i : ∀ vs H Q E, spI C n f2 vs H Q E → spI C n f1 vs H Q E := fun _ _ _ _ ⟨l, μ, hp, qs, e, a, r, q⟩ => ⟨l, μ, hp, qs, e, a, r, h _ _ _ _ q⟩
  ⟨fun vs H Q E q => F.few vs H Q E (i _ _ _ _ q), fun A out s H args us vs Q E g room e0 b r q => F.go A out s H args us vs Q E g room e0 b r (i _ _ _ _ q)⟩
end
end RF

set_option Elab.async false
set_option linter.all false
set_option maxRecDepth 100000
set_option maxHeartbeats 400000
/-! Part 8: built-in functions and methods by values. -/
namespace RF
open PySem PySem.Spec L2

abbrev GA := List PV → PH → KI → Prop
structure LFn (C : Cfg) (r : List V → Hp → VK → Prop) (g : GA) : Prop where
  mo : ∀ ps hp Q Q', (∀ z h, Q z h → Q' z h) → g ps hp Q → g ps hp Q'
  ok : ∀ μ H hp ps vs Q, HR C μ H hp → RVs C.K μ H ps vs → g ps hp (fE C μ H Q) → r vs H (FzK Q)
def wFn (g : GA) (a : WA) : WE := fun σ hp e Q => a σ hp e fun ps h => g ps h Q
section
variable {X : Cx} {C : Cfg} {E : XK} {x : Expr} {es : List Expr} {w : WA} {g : GA} {r : List V → Hp → VK → Prop} {nm : Str} {p pos : Pos} {id : String}
theorem fn_mo (L : LFn C r g) (h : MoA w) : MoE (wFn g w) := fun σ hp e Q Q' i q => h _ _ _ _ _ (fun ps h q => L.mo _ _ _ _ i q) q
theorem fn_go (L : LFn C r g) (h : MoA w) {σ : St} {H : Hp} {Q : VK} : tE C E (wFn g w) σ H Q → tA C E w σ H fun vs H1 => r vs H1 (FzK Q) := fun ⟨μ, hp, σI, e, A, s, q⟩ =>
  tA.go h A s q fun ps h1 μ1 H1 vs q1 u1 A1 s1 r1 => L.ok μ1 H1 h1 ps vs Q A1.hr r1 (L.mo _ _ _ _ (fun z h q => q.up u1) q1)
theorem re_fn (L : LFn C r g) (hc : CallR X (.builtin id) r) (gl : Gl X nm) (hm : X.mg nm = none) (hv : bootBuiltins nm = some (.builtin id)) (ha : RA X C E (x :: es) w) (hn : nm ≠ "__name__") (hdb : (nm == ("__debug__" : Str)) = false)
    (he : starEach (x :: es) X.env = (false, eval x X.env) :: starEach es X.env) (hpl : (backTo pos (starEach es X.env)).any (·.1) = false) : RE X C E (.Call (.Name nm p) (x :: es) [] pos) (wFn g w) :=
  ⟨fn_mo L ha.mo, PE.imp (PE.fz (pe_callB hc gl hm hv ha.pa hn hdb he hpl)) fun σ H Q h => fn_go L ha.mo h⟩
theorem re_ty (L : LFn C r g) (hc : CallR X (.type id) r) (gl : Gl X nm) (hm : X.mg nm = none) (hv : bootBuiltins nm = some (.type id)) (ha : RA X C E (x :: es) w) (hn : nm ≠ "__name__") (hdb : (nm == ("__debug__" : Str)) = false)
    (he : starEach (x :: es) X.env = (false, eval x X.env) :: starEach es X.env) (hpl : (backTo pos (starEach es X.env)).any (·.1) = false) : RE X C E (.Call (.Name nm p) (x :: es) [] pos) (wFn g w) :=
  ⟨fn_mo L ha.mo, PE.imp (PE.fz (pe_callTy hc gl hm hv ha.pa hn hdb he hpl)) fun σ H Q h => fn_go L ha.mo h⟩
end
theorem RVs.one {K : PySem.W.Frag} {μ : List Addr} {H : Hp} {p : PV} {vs : List V} (r : RVs K μ H [p] vs) : ∃ v, vs = [v] ∧ RV K μ H p v := by
  simp only [RVs] at r
  obtain ⟨v, ws, rfl, r1, rfl⟩ := r
  exact ⟨v, rfl, r1⟩
theorem RVs.two {K : PySem.W.Frag} {μ : List Addr} {H : Hp} {p q : PV} {vs : List V} (r : RVs K μ H [p, q] vs) : ∃ v u, vs = [v, u] ∧ RV K μ H p v ∧ RV K μ H q u := by
  simp only [RVs] at r
  obtain ⟨v, ws, rfl, r1, u, zs, rfl, r2, rfl⟩ := r
  exact ⟨v, u, rfl, r1, r2⟩
/-- a rule of one value -/
def gF1 (f : PV → PH → PV → Prop) : GA := fun ps hp Q => ∃ p q, ps = [p] ∧ f p hp q ∧ Q q hp
theorem gF1.mo {f : PV → PH → PV → Prop} : ∀ ps hp (Q Q' : KI), (∀ z h, Q z h → Q' z h) → gF1 f ps hp Q → gF1 f ps hp Q' := fun _ _ _ _ i ⟨p, q, e, h, z⟩ => ⟨p, q, e, h, i _ _ z⟩
def gF2 (f : PV → PV → PH → PV → Prop) : GA := fun ps hp Q => ∃ p1 p2 q, ps = [p1, p2] ∧ f p1 p2 hp q ∧ Q q hp
theorem gF2.mo {f : PV → PV → PH → PV → Prop} : ∀ ps hp (Q Q' : KI), (∀ z h, Q z h → Q' z h) → gF2 f ps hp Q → gF2 f ps hp Q' := fun _ _ _ _ i ⟨p, p2, q, e, h, z⟩ => ⟨p, p2, q, e, h, i _ _ z⟩

/-! ### len, int, str, ord, chr, abs, max, min -/
def lenP (hp : PH) : PV → Option Nat
  | .str s => some s.length
  | .tup ps => some ps.length
  | p => (asL hp p).map (·.length)
def gLen : GA := gF1 fun p hp q => ∃ n : Nat, lenP hp p = some n ∧ q = .int n
def gInt : GA := gF1 fun p _ q => match p with
  | .int i => q = .int i
  | .bl k => q = .int (if k then 1 else 0)
  | .str a => ∃ n, PySem.intText? a = some n ∧ a.length ≤ 640 ∧ q = .int n
  | _ => False
def gStr : GA := gF1 fun p _ q => match p with
  | .int i => i.natAbs.log2 < 1920 ∧ (toString i : Str).length ≤ sizeLine ∧ q = .str (toString i)
  | .str a => q = .str a
  | _ => False
def gOrd : GA := gF1 fun p _ q => ∃ x : Str, p = .str x ∧ x.length = 1 ∧ q = .int (x.cps.getD 0 0 : Nat)
def gChr : GA := gF1 fun p _ q => ∃ i : Int, p = .int i ∧ 0 ≤ i ∧ i ≤ 1114111 ∧ q = .str ⟨#[i.toNat]⟩
def gAbs : GA := gF1 fun p _ q => ∃ i : Int, p = .int i ∧ q = .int (if i < 0 then -i else i)
def gMax : GA := gF2 fun a b _ q => ∃ i j, a = .int i ∧ b = .int j ∧ q = .int (if j > i then j else i)
def gMin : GA := gF2 fun a b _ q => ∃ i j, a = .int i ∧ b = .int j ∧ q = .int (if j < i then j else i)
def gAll : GA := gF1 fun p hp q => ∃ bs : List Bool, asL hp p = some (bs.map .bl) ∧ q = .bl (bs.all id)
def gAny : GA := gF1 fun p hp q => ∃ bs : List Bool, asL hp p = some (bs.map .bl) ∧ q = .bl (bs.any id)
/-- what a list or a tuple holds -/
def seqP (hp : PH) : PV → Option (List PV)
  | .tup ps => some ps
  | p => asL hp p
def gList : GA := gF1 fun p hp q => ∃ ps, seqP hp p = some ps ∧ q = .lst ps
def gListM : GA := fun ps hp Q => ∃ p qs, ps = [p] ∧ seqP hp p = some qs ∧ nls qs = true ∧ ∀ n, hp n = none → Q (.loc n) (put hp n (.lst qs))
def gTuple : GA := gF1 fun p hp q => ∃ ps, seqP hp p = some ps ∧ q = .tup ps
theorem CallR.or {X : Cx} {f : Value} {r r' : List V → Hp → VK → Prop} (h : CallR X f r) (h' : CallR X f r') : CallR X f (fun xs H Q => r xs H Q ∨ r' xs H Q) := by
  intro pins s σ H xs us Q I rx q
  rcases q with q | q
  · exact h pins s σ H xs us Q I rx q
  · exact h' pins s σ H xs us Q I rx q
section
variable {C : Cfg}
theorem lf_len : LFn C (fun xs H Q => ∃ x n, xs = [x] ∧ LenV C.K x H n ∧ Q (.int n) H) gLen := ⟨gF1.mo, fun μ H hp ps vs Q r rv ⟨p, q, e, ⟨n, hn, eq⟩, h⟩ => by
  subst e eq
  obtain ⟨v, rfl, r1⟩ := rv.one
  refine ⟨v, n, rfl, ?_, fzk (h μ H _ .refl r .int')⟩
  have seq : ∀ {p : PV}, RV C.K μ H p v → (asL hp p).map (·.length) = some n → LenV C.K v H n := by
    intro p rp e
    obtain ⟨ps, e1, e2⟩ := Option.map_eq_some_iff.mp e
    obtain ⟨a, ws, rfl, h2, h3⟩ := asL_sq r rp e1
    exact .inl ⟨ws, h2, by rw [h3.length]; exact_mod_cast e2.symm⟩
  cases p with
  | str s =>
    simp only [lenP, Option.some.injEq] at hn
    subst hn
    rw [r1.strI]
    exact ⟨r1.strL, rfl⟩
  | tup qs =>
    simp only [lenP, Option.some.injEq] at hn
    obtain ⟨a, ws, rfl, h2, h3⟩ := r1.tupI
    exact .inr ⟨ws, h2, by rw [h3.length]; exact_mod_cast hn.symm⟩
  | lst qs => exact seq r1 hn
  | loc m => exact seq r1 hn
  | _ => simp [lenP, asL] at hn⟩
theorem lf_int : LFn C (fun xs H Q => ((∃ i, xs = [.int i] ∧ Q (.int i) H) ∨ ∃ k, xs = [.bl k] ∧ Q (.int (if k then 1 else 0)) H) ∨ ∃ a n, xs = [.str a] ∧ PySem.intText? a = some n ∧ a.length ≤ 640 ∧ Q (.int n) H) gInt := ⟨gF1.mo, fun μ H hp ps vs Q r rv ⟨p, q, e, hq, h⟩ => by
  subst e
  obtain ⟨v, rfl, r1⟩ := rv.one
  cases p with
  | int i =>
    cases (show q = .int i from hq)
    exact .inl (.inl ⟨i, by rw [r1.intI], fzk (h μ H _ .refl r .int')⟩)
  | bl k =>
    cases (show q = .int (if k then 1 else 0) from hq)
    exact .inl (.inr ⟨k, by rw [r1.blI], fzk (h μ H _ .refl r .int')⟩)
  | str a =>
    obtain ⟨n, h1, h2, rfl⟩ := (show ∃ n, PySem.intText? a = some n ∧ a.length ≤ 640 ∧ q = .int n from hq)
    exact .inr ⟨a, n, by rw [r1.strI], h1, h2, fzk (h μ H _ .refl r .int')⟩
  | _ => exact False.elim hq⟩
theorem cr_int {X : Cx} : CallR X (.type "int") (fun xs H Q => ((∃ i, xs = [.int i] ∧ Q (.int i) H) ∨ ∃ k, xs = [.bl k] ∧ Q (.int (if k then 1 else 0)) H) ∨ ∃ a n, xs = [.str a] ∧ PySem.intText? a = some n ∧ a.length ≤ 640 ∧ Q (.int n) H) := call_int1.or call_int_str
theorem lf_str : LFn C (fun xs H Q => (∃ i : Int, xs = [.int i] ∧ i.natAbs.log2 < 1920 ∧ Q (.str (toString i)) H) ∨ ∃ a, xs = [.str a] ∧ Q (.str a) H) gStr := ⟨gF1.mo, fun μ H hp ps vs Q r rv ⟨p, q, e, hq, h⟩ => by
  subst e
  obtain ⟨v, rfl, r1⟩ := rv.one
  cases p with
  | int i =>
    obtain ⟨h1, h2, rfl⟩ := (show i.natAbs.log2 < 1920 ∧ (toString i : Str).length ≤ sizeLine ∧ q = .str (toString i) from hq)
    exact .inl ⟨i, by rw [r1.intI], h1, fzk (h μ H _ .refl r (.str' h2))⟩
  | str a =>
    cases (show q = .str a from hq)
    exact .inr ⟨a, by rw [r1.strI], fzk (h μ H _ .refl r (.str' r1.strL))⟩
  | _ => exact False.elim hq⟩
theorem cr_str {X : Cx} : CallR X (.type "str") (fun xs H Q => (∃ i : Int, xs = [.int i] ∧ i.natAbs.log2 < 1920 ∧ Q (.str (toString i)) H) ∨ ∃ a, xs = [.str a] ∧ Q (.str a) H) := call_str_int.or SkE.call_str_str
theorem lf_ord : LFn C (fun xs H Q => ∃ x, xs = [.str x] ∧ x.length = 1 ∧ Q (.int (x.cps.getD 0 0 : Nat)) H) gOrd := ⟨gF1.mo, fun μ H hp ps vs Q r rv ⟨p, q, e, ⟨x, e1, l, e2⟩, h⟩ => by
  subst e e1 e2
  obtain ⟨v, rfl, r1⟩ := rv.one
  exact ⟨x, by rw [r1.strI], l, fzk (h μ H _ .refl r .int')⟩⟩
theorem lf_chr : LFn C (fun xs H Q => ∃ i, xs = [.int i] ∧ 0 ≤ i ∧ i ≤ 1114111 ∧ Q (.str ⟨#[i.toNat]⟩) H) gChr := ⟨gF1.mo, fun μ H hp ps vs Q r rv ⟨p, q, e, ⟨x, e1, l, l2, e2⟩, h⟩ => by
  subst e e1 e2
  obtain ⟨v, rfl, r1⟩ := rv.one
  exact ⟨x, by rw [r1.intI], l, l2, fzk (h μ H _ .refl r .str1)⟩⟩
theorem lf_abs : LFn C (fun xs H Q => ∃ i, xs = [.int i] ∧ Q (.int (if i < 0 then -i else i)) H) gAbs := ⟨gF1.mo, fun μ H hp ps vs Q r rv ⟨p, q, e, ⟨x, e1, e2⟩, h⟩ => by
  subst e e1 e2
  obtain ⟨v, rfl, r1⟩ := rv.one
  exact ⟨x, by rw [r1.intI], fzk (h μ H _ .refl r .int')⟩⟩
theorem lf_max : LFn C (fun xs H Q => ∃ i j, xs = [.int i, .int j] ∧ Q (.int (if j > i then j else i)) H) gMax := ⟨gF2.mo, fun μ H hp ps vs Q r rv ⟨p, p2, q, e, ⟨i, j, e1, e2, e3⟩, h⟩ => by
  subst e e1 e2 e3
  obtain ⟨v, u, rfl, r1, r2⟩ := rv.two
  exact ⟨i, j, by rw [r1.intI, r2.intI], fzk (h μ H _ .refl r .int')⟩⟩
theorem lf_min : LFn C (fun xs H Q => ∃ i j, xs = [.int i, .int j] ∧ Q (.int (if j < i then j else i)) H) gMin := ⟨gF2.mo, fun μ H hp ps vs Q r rv ⟨p, p2, q, e, ⟨i, j, e1, e2, e3⟩, h⟩ => by
  subst e e1 e2 e3
  obtain ⟨v, u, rfl, r1, r2⟩ := rv.two
  exact ⟨i, j, by rw [r1.intI, r2.intI], fzk (h μ H _ .refl r .int')⟩⟩
theorem lf_all : LFn C (rAll C.K) gAll := ⟨gF1.mo, fun μ H hp ps vs Q r rv ⟨p, q, e, ⟨bs, e1, e2⟩, h⟩ => by
  subst e e2
  obtain ⟨v, rfl, r1⟩ := rv.one
  obtain ⟨a, ws, rfl, h2, h3⟩ := asL_sq r r1 e1
  have z := RVs.map_eq (f := PV.bl) (g := V.bl) (fun x v r => r.blI) bs h3
  subst z
  exact ⟨a, bs, rfl, h2, fzk (h μ H _ .refl r .bl')⟩⟩
theorem lf_any : LFn C (rAny C.K) gAny := ⟨gF1.mo, fun μ H hp ps vs Q r rv ⟨p, q, e, ⟨bs, e1, e2⟩, h⟩ => by
  subst e e2
  obtain ⟨v, rfl, r1⟩ := rv.one
  obtain ⟨a, ws, rfl, h2, h3⟩ := asL_sq r r1 e1
  have z := RVs.map_eq (f := PV.bl) (g := V.bl) (fun x v r => r.blI) bs h3
  subst z
  exact ⟨a, bs, rfl, h2, fzk (h μ H _ .refl r .bl')⟩⟩
theorem seqP_at {μ : List Addr} {H : Hp} {hp : PH} (r : HR C μ H hp) {p : PV} {v : V} {ps : List PV} (rv : RV C.K μ H p v) (e : seqP hp p = some ps) : ∃ a vs, v = .ref a ∧ (SqL C.K H a vs ∨ SqT C.K H a vs) ∧ RVs C.K μ H ps vs := by
  have seq : ∀ {p : PV}, RV C.K μ H p v → asL hp p = some ps → ∃ a vs, v = .ref a ∧ (SqL C.K H a vs ∨ SqT C.K H a vs) ∧ RVs C.K μ H ps vs := by
    intro p rp e
    obtain ⟨a, vs, h1, h2, h3⟩ := asL_sq r rp e
    exact ⟨a, vs, h1, .inl h2, h3⟩
  cases p with
  | tup qs =>
    cases (show some qs = some ps from e)
    obtain ⟨a, vs, h1, h2, h3⟩ := rv.tupI
    exact ⟨a, vs, h1, .inr h2, h3⟩
  | _ => exact seq rv e
abbrev rLst (K : PySem.W.Frag) : List V → Hp → VK → Prop := fun xs H Q => ∃ p ys, xs = [.ref p] ∧ (SqL K H p ys ∨ SqT K H p ys) ∧ ∀ l, H l = none → Q (.ref l) (upd H l (.lst ys))
theorem lf_list : LFn C (rLst C.K) gList := ⟨gF1.mo, fun μ H hp ps vs Q r rv ⟨p, q, e, ⟨qs, e1, e2⟩, h⟩ => by
  subst e e2
  obtain ⟨v, rfl, r1⟩ := rv.one
  obtain ⟨a, ws, rfl, h2, h3⟩ := seqP_at r r1 e1
  exact ⟨a, ws, rfl, h2, fun l hl => h.newL r h3 hl⟩⟩
theorem lf_listM : LFn C (rLst C.K) gListM := ⟨fun ps hp Q Q' i ⟨p, qs, e1, e2, f, h⟩ => ⟨p, qs, e1, e2, f, fun n hn => i _ _ (h n hn)⟩, fun μ H hp ps vs Q r rv ⟨p, qs, e, e1, f, h⟩ => by
  subst e
  obtain ⟨v, rfl, r1⟩ := rv.one
  obtain ⟨a, ws, rfl, h2, h3⟩ := seqP_at r r1 e1
  exact ⟨a, ws, rfl, h2, fun l hl => fE.newM h r h3 hl f⟩⟩
abbrev rTpl (K : PySem.W.Frag) : List V → Hp → VK → Prop := fun xs H Q => ∃ p ys, xs = [.ref p] ∧ ((SqL K H p ys ∧ ∀ l, H l = none → Q (.ref l) (upd H l (.tup ys))) ∨ (SqT K H p ys ∧ Q (.ref p) H))
theorem lf_tuple : LFn C (rTpl C.K) gTuple := ⟨gF1.mo, fun μ H hp ps vs Q r rv ⟨p, q, e, ⟨qs, e1, e2⟩, h⟩ => by
  subst e e2
  obtain ⟨v, rfl, r1⟩ := rv.one
  have h2 : ∀ {p : PV}, RV C.K μ H p v → asL hp p = some qs → rTpl C.K [v] H (FzK Q) := by
    intro p rp e
    obtain ⟨a, vs, rfl, h2, h3⟩ := asL_sq r rp e
    exact ⟨a, vs, rfl, .inl ⟨h2, fun l hl => fzk (h.newT r h3 hl)⟩⟩
  cases p with
  | tup zs =>
    cases (show some zs = some qs from e1)
    obtain ⟨a, vs, rfl, h2, h3⟩ := r1.tupI
    exact ⟨a, vs, rfl, .inr ⟨h2, fzk (h μ H _ .refl r r1)⟩⟩
  | _ => exact h2 r1 e1⟩
end

/-! ### methods -/
abbrev GM := PV → List PV → PH → KI → Prop
structure LMt (C : Cfg) (T : String) (r : V → List V → Hp → VK → Prop) (gt : PV → PH → Prop) (g : GM) : Prop where
  mo : ∀ p ps hp Q Q', (∀ z h, Q z h → Q' z h) → g p ps hp Q → g p ps hp Q'
  ty : ∀ μ H hp p v, HR C μ H hp → RV C.K μ H p v → gt p hp → tyV C.K T v H
  ok : ∀ μ H hp p v ps vs Q, HR C μ H hp → RV C.K μ H p v → RVs C.K μ H ps vs → g p ps hp (fE C μ H Q) → r v vs H (FzK Q)
def wMt (gt : PV → PH → Prop) (g : GM) (a : WE) (w : WA) : WE := fun σ hp e Q => a σ hp e fun p h => gt p h ∧ w σ h e fun ps h2 => g p ps h2 Q
section
variable {X : Cx} {C : Cfg} {E : XK} {o x : Expr} {es : List Expr} {wa : WE} {w : WA} {g : GM} {gt : PV → PH → Prop} {r : V → List V → Hp → VK → Prop} {name : Str} {apos cpos : Pos} {id T : String}
theorem re_mt (hK : X.K = C.K) (L : LMt C T r gt g) (pa : PlainAttrs T) (slot : Slot T name id) (hty : typeOf (.builtin id) = pure (.type "method_descriptor")) (hm : MtR X id r) (ho : RE X C E o wa) (ha : RA X C E (x :: es) w)
    (hbase : attributeBase o name X.env (eval o X.env) = eval o X.env)
    (hfew : ((backTo cpos (starEach (x :: es) X.env)).all (fun x => !x.1) && (backToKw cpos (keywordEach [] X.env)).all (fun x => x.1.isSome)
      && decide ((x :: es).length + ([] : List Keyword).length + (if ([] : List Keyword).isEmpty then 0 else 1) < 30)) = true)
    (hline : (apos.endLine == cpos.line) = true) (hs : starEach (x :: es) X.env = (false, eval x X.env) :: starEach es X.env) (hplain : (backTo cpos (starEach es X.env)).any (·.1) = false) :
    RE X C E (.Call (.Attribute o name apos) (x :: es) [] cpos) (wMt gt g wa w) := by
  refine ⟨fun σ hp e Q Q' i q => ho.mo _ _ _ _ _ (fun p h ⟨t, q⟩ => ⟨t, ha.mo _ _ _ _ _ (fun ps h q => L.mo _ _ _ _ _ i q) q⟩) q, PE.imp (PE.fz (pe_bm pa slot hty hm ho.pe ha.pa hbase hfew hline hs hplain)) fun σ H Q ⟨μ, hp, σI, e, A, s, q⟩ => ?_⟩
  refine tE.go ho.mo A s q fun p h1 μ1 H1 v ⟨t, q1⟩ u1 A1 s1 r1 => ⟨by rw [hK]; exact L.ty μ1 H1 h1 p v A1.hr r1 t, ?_⟩
  refine tA.go ha.mo A1 s1 q1 fun ps h2 μ2 H2 vs q2 u2 A2 s2 r2 => ?_
  exact L.ok μ2 H2 h2 p v ps vs Q A2.hr (RV.up u2 _ _ r1) r2 (L.mo _ _ _ _ _ (fun z h q => q.up (u1.trans u2)) q2)
theorem re_mt0 (hK : X.K = C.K) (L : LMt C T r gt g) (pa : PlainAttrs T) (slot : Slot T name id) (hty : typeOf (.builtin id) = pure (.type "method_descriptor")) (hm : MtR X id r) (ho : RE X C E o wa)
    (hbase : attributeBase o name X.env (eval o X.env) = eval o X.env) (hline : (apos.endLine == cpos.line) = true) :
    RE X C E (.Call (.Attribute o name apos) [] [] cpos) (wMt gt g wa wNil) := by
  refine ⟨fun σ hp e Q Q' i q => ho.mo _ _ _ _ _ (fun p h ⟨t, q⟩ => ⟨t, L.mo _ _ _ _ _ i q⟩) q, PE.imp (PE.fz (pe_bm0 pa slot hty hm ho.pe hbase hline)) fun σ H Q ⟨μ, hp, σI, e, A, s, q⟩ => ?_⟩
  exact tE.go ho.mo A s q fun p h1 μ1 H1 v ⟨t, q1⟩ u1 A1 s1 r1 => ⟨by rw [hK]; exact L.ty μ1 H1 h1 p v A1.hr r1 t, L.ok μ1 H1 h1 p v [] [] Q A1.hr r1 .nil (L.mo _ _ _ _ _ (fun z h q => q.up u1) q1)⟩
end
def isS (p : PV) (_ : PH) : Prop := ∃ s, p = .str s
def isLs (p : PV) (hp : PH) : Prop := ∃ ps, asL hp p = some ps
def gApp : GM := fun p ps hp Q => ∃ n xs y, p = .loc n ∧ ps = [y] ∧ hp n = some (.lst xs) ∧ xs.length < sizeLine ∧ nl y = true ∧ Q .non (put hp n (.lst (xs ++ [y])))
def gPop : GM := fun p ps hp Q => ∃ n xs y, p = .loc n ∧ ps = [] ∧ hp n = some (.lst xs) ∧ xs[xs.length - 1]? = some y ∧ Q y (put hp n (.lst xs.dropLast))
def gExt : GM := fun p ps hp Q => ∃ n xs q ys, p = .loc n ∧ ps = [q] ∧ hp n = some (.lst xs) ∧ asL hp q = some ys ∧ xs.length + ys.length ≤ sizeLine ∧ Q .non (put hp n (.lst (xs ++ ys)))
def strsP (hp : PH) (p : PV) : Option (List Str) := (seqP hp p).bind fun ps => ps.mapM fun | .str s => some s | _ => none
def gJoin : GM := fun p ps hp Q => ∃ a q ys, p = .str a ∧ ps = [q] ∧ seqP hp q = some (ys.map PV.str) ∧ (ys.map (·.length)).sum + ys.length * a.length ≤ 16777216 ∧ Q (.str (Txt.join a ys)) hp
section
variable {C : Cfg}
theorem ty_ls : ∀ μ H hp p v, HR C μ H hp → RV C.K μ H p v → isLs p hp → tyV C.K "list" v H := fun μ H hp p v r rv ⟨ps, e⟩ => by
  obtain ⟨a, vs, rfl, h2, _⟩ := asL_sq r rv e
  exact .inl ⟨rfl, vs, h2⟩
theorem ty_s : ∀ μ H hp p v, HR C μ H hp → RV C.K μ H p v → isS p hp → tyV C.K "str" v H := fun μ H hp p v r rv ⟨s, e⟩ => by
  subst e
  rw [rv.strI]
  rfl
theorem loc_lst {μ : List Addr} {H : Hp} {hp : PH} {n : Nat} {v : V} {xs : List PV} (r : HR C μ H hp) (rv : RV C.K μ H (.loc n) v) (h : hp n = some (.lst xs)) : ∃ a vs, v = .ref a ∧ μ[n]? = some a ∧ H a = some (.lst vs) ∧ RVs C.K μ H xs vs := by
  obtain ⟨a, e1, e2⟩ := rv.locI
  obtain ⟨b, e3, vs, e4, e5⟩ := r.cell n _ h
  rw [e2] at e3
  cases e3
  exact ⟨a, vs, e1, e2, e4, e5⟩
theorem loc_dct {μ : List Addr} {H : Hp} {hp : PH} {n : Nat} {v : V} {xs : List (Key × PV)} (r : HR C μ H hp) (rv : RV C.K μ H (.loc n) v) (h : hp n = some (.dct xs)) : ∃ a vs, v = .ref a ∧ μ[n]? = some a ∧ H a = some (.dK vs) ∧ RKs C.K μ H xs vs := by
  obtain ⟨a, e1, e2⟩ := rv.locI
  obtain ⟨b, e3, vs, e4, e5⟩ := r.cell n _ h
  rw [e2] at e3
  cases e3
  exact ⟨a, vs, e1, e2, e4, e5⟩
theorem nls_iff : ∀ {ps : List PV}, nls ps = true ↔ ∀ p ∈ ps, nl p = true
  | [] => by simp [nl.nls]
  | p :: ps => by
    have := nls_iff (ps := ps)
    simp only [nls] at this
    simp [nl.nls, this]
theorem nls_append {ps qs : List PV} (h : nls ps = true) (g : nls qs = true) : nls (ps ++ qs) = true := by
  rw [nls_iff] at *
  intro p m
  rcases List.mem_append.mp m with m | m
  · exact h p m
  · exact g p m
theorem nls_drop {ps : List PV} (h : nls ps = true) : nls ps.dropLast = true := by
  rw [nls_iff] at *
  exact fun p m => h p (List.dropLast_subset _ m)
/-- a list that changes is written -/
theorem fE.wrL {μ : List Addr} {H : Hp} {hp : PH} {Q : VK} {n : Nat} {a : Addr} {vs ws : List V} {ps : List PV} {p : PV} {v : V} (q : fE C μ H Q p (put hp n (.lst ps))) (r : HR C μ H hp) (hn : μ[n]? = some a) (h : H a = some (.lst vs)) (rw' : RVs C.K μ H ps ws) (rv : RV C.K μ H p v) (hf : nls ps = true) : Q v (upd H a (.lst ws)) := by
  have u : Up μ H μ (upd H a (.lst ws)) := Up.write hn h rfl
  exact q μ _ v u (r.write hn h lstU ⟨ws, upd_same, RVs.up u _ _ rw'⟩ hf) (RV.up u _ _ rv)
theorem fE.wrD {μ : List Addr} {H : Hp} {hp : PH} {Q : VK} {n : Nat} {a : Addr} {vs ws : List (Key × V)} {ps : List (Key × PV)} {p : PV} {v : V} (q : fE C μ H Q p (put hp n (.dct ps))) (r : HR C μ H hp) (hn : μ[n]? = some a) (h : H a = some (.dK vs)) (rw' : RKs C.K μ H ps ws) (rv : RV C.K μ H p v) (hf : flC (.dct ps) = true) : Q v (upd H a (.dK ws)) := by
  have u : Up μ H μ (upd H a (.dK ws)) := Up.write hn h rfl
  exact q μ _ v u (r.write hn h dKU ⟨ws, upd_same, RKs.up u _ _ rw'⟩ hf) (RV.up u _ _ rv)
theorem lm_app : LMt C "list" rAppend isLs gApp := ⟨fun p ps hp Q Q' i ⟨n, xs, y, h1, h2, h3, h4, f, q⟩ => ⟨n, xs, y, h1, h2, h3, h4, f, i _ _ q⟩, ty_ls, fun μ H hp p v ps vs Q r rv rs ⟨n, xs, y, h1, h2, h3, h4, f, q⟩ => by
  subst h1 h2
  obtain ⟨u, rfl, ru⟩ := rs.one
  obtain ⟨a, ws, rfl, e2, e3, e4⟩ := loc_lst r rv h3
  exact ⟨a, ws, u, rfl, rfl, e3, by rw [e4.length]; exact h4, fzk (q.wrL r e2 e3 (e4.append (.cons ru .nil)) .non' (nls_append (r.fl _ _ h3) (by simp [nl.nls, f])))⟩⟩
theorem RVs.dropLast {K : PySem.W.Frag} {μ : List Addr} {H : Hp} {ps : List PV} {vs : List V} (r : RVs K μ H ps vs) : RVs K μ H ps.dropLast vs.dropLast := by
  rw [List.dropLast_eq_take, List.dropLast_eq_take, r.length]
  exact r.take _
theorem lm_pop : LMt C "list" rPop isLs gPop := ⟨fun p ps hp Q Q' i ⟨n, xs, y, h1, h2, h3, h4, q⟩ => ⟨n, xs, y, h1, h2, h3, h4, i _ _ q⟩, ty_ls, fun μ H hp p v ps vs Q r rv rs ⟨n, xs, y, h1, h2, h3, h4, q⟩ => by
  subst h1 h2
  simp only [RVs] at rs
  subst rs
  obtain ⟨a, ws, rfl, e2, e3, e4⟩ := loc_lst r rv h3
  obtain ⟨u, hu, ru⟩ := e4.get h4
  exact ⟨a, ws, u, rfl, rfl, e3, by rw [e4.length]; exact hu, fzk (q.wrL r e2 e3 e4.dropLast ru (nls_drop (r.fl _ _ h3)))⟩⟩
theorem join_le {a : Str} {ys : List Str} (h : (ys.map (·.length)).sum + ys.length * a.length ≤ 16777216) : (Txt.join a ys).length ≤ sizeLine := by
  show (Builtin.Str.glued a ys).length ≤ sizeLine
  rw [StrLaws.glued_eq_join, PySem.sizeLine_eq]
  exact Nat.le_trans (StrLaws.join_length_le a ys) h
theorem lm_join : LMt C "str" (fun x xs H Q => ∃ a p, ∃ ys : List Str, x = .str a ∧ xs = [.ref p] ∧ (SqL C.K H p (ys.map V.str) ∨ SqT C.K H p (ys.map V.str)) ∧ (ys.map (·.length)).sum + ys.length * a.length ≤ 16777216 ∧ Q (.str (Txt.join a ys)) H) isS gJoin :=
  ⟨fun p ps hp Q Q' i ⟨n, xs, y, h1, h2, h3, h4, q⟩ => ⟨n, xs, y, h1, h2, h3, h4, i _ _ q⟩, ty_s, fun μ H hp p v ps vs Q r rv rs ⟨a, z, ys, h1, h2, h3, h4, q⟩ => by
  subst h1 h2
  obtain ⟨u, rfl, ru⟩ := rs.one
  obtain ⟨b, ws, rfl, e2, e3⟩ := seqP_at r ru h3
  have z := RVs.map_eq (f := PV.str) (g := V.str) (fun x v r => r.strI) ys e3
  subst z
  exact ⟨a, b, ys, rv.strI, rfl, e2, h4, fzk (q μ H _ .refl r (.str' (join_le h4)))⟩⟩
end
end RF

set_option Elab.async false
set_option linter.all false
set_option maxRecDepth 100000
set_option maxHeartbeats 400000
/-! Part 9: repr, isinstance, in, dicts. -/
namespace RF
open PySem PySem.Spec L2

/-! ### repr -/
def scalD : PV → Option PyData
  | .non => some .none
  | .bl b => some (.bool b)
  | .int i => some (.int i)
  | .str s => some (.str s)
  | _ => none
def keyD : Key → PyData
  | .inl i => .int i
  | .inr s => .str s
def scalKs : List (Key × PV) → Option (List (PyData × PyData))
  | [] => some []
  | (k, p) :: r => (scalD p).bind fun d => (scalKs r).map fun ds => (keyD k, d) :: ds
/-- the datum of a value: also a flat dict -/
def toDr (hp : PH) (p : PV) : Option PyData := match asD hp p with
  | some ks => (scalKs ks).map .dict
  | none => toDh hp p
def Showy (d : PyData) : Prop := d.showable = true ∧ d.depth ≤ 64 ∧ d.shown.length ≤ sizeLine
/-- the value reads as the datum -/
def ReadsV (X : Cx) (H : Hp) (v : V) (d : PyData) : Prop := ∀ (pins : List (Addr × Obj)) (σ : St) (s : Shared) (u : Value), Inv X pins σ H s → RelV v u → ∃ as, Reads s.heap u d as ∧ (d.hasDict = true → sysModules ∉ as)
theorem scal_reads {K : PySem.W.Frag} {μ : List Addr} {H : Hp} {p : PV} {v : V} {u : Value} {d : PyData} {h : Heap} (r : RV K μ H p v) (e : scalD p = some d) (ru : RelV v u) : Reads h u d [] := by
  cases p with
  | non => cases e; rw [r.nonI] at ru; cases (show u = Value.none from ru); exact .none
  | bl b => cases e; rw [r.blI] at ru; cases (show u = Value.bool b from ru); exact .bool b
  | int i => cases e; rw [r.intI] at ru; obtain ⟨t, rfl⟩ := (show ∃ t, u = Value.int i t from ru); exact .int i t
  | str x => cases e; rw [r.strI] at ru; obtain ⟨t, rfl⟩ := (show ∃ t, u = Value.str x t from ru); exact .str x t
  | _ => cases e
theorem key_reads {k : Key} {v : Value} {h : Heap} (e : keyIs k v = true) : Reads h v (keyD k) [] := by
  rcases keyIs_shape e with ⟨i, t, rfl, rfl⟩ | ⟨x, t, rfl, rfl⟩
  · exact .int i t
  · exact .str x t
theorem flat_reads {K : PySem.W.Frag} {μ : List Addr} {H : Hp} {P : Program} {w : World} {h : Heap} : ∀ {ks : List (Key × PV)} {ws : List (Key × V)} {us : List (Key × Value)} {es : List DictEntry} {ds : List (PyData × PyData)}, RKs K μ H ks ws → KV ws us → Pairs (mixKind P w) es us → scalKs ks = some ds →
    ReadsAll h (es.map (·.key)) (ds.map (·.1)) [] ∧ ReadsAll h (es.map (·.val)) (ds.map (·.2)) []
  | [], _, _, _, _, r, kv, pr, e => by
    simp only [RKs] at r
    subst r
    cases kv
    cases pr
    cases e
    exact ⟨.nil, .nil⟩
  | (k, p) :: ks, _, _, _, _, r, kv, pr, e => by
    simp only [RKs] at r
    obtain ⟨w1, ws, rfl, r1, r2⟩ := r
    cases kv with
    | cons a t =>
      cases pr with
      | cons h1 h2 h3 =>
        obtain ⟨d, e1, e2⟩ := Option.bind_eq_some_iff.mp e
        obtain ⟨ds, e3, e4⟩ := Option.map_eq_some_iff.mp e2
        subst e4
        obtain ⟨q1, q2⟩ := flat_reads (h := h) r2 t h3 e3
        obtain ⟨a1, a2⟩ := a
        refine ⟨ReadsAll.cons (as := []) (bs := []) (key_reads ?_) q1, ReadsAll.cons (as := []) (bs := []) ?_ q2⟩
        · have h1 : keyIs _ _ = true := h1
          rw [← a1] at h1
          exact h1
        · exact (congrArg (fun z => Reads h z d []) h2).mpr (scal_reads r1 e1 a2)
mutual
theorem toD_flat : ∀ (p : PV) (d : PyData), toD p = some d → d.hasDict = false
  | .non, _, h => by cases h; rfl
  | .bl _, _, h => by cases h; rfl
  | .int _, _, h => by cases h; rfl
  | .str _, _, h => by cases h; rfl
  | .tup ps, _, h => by
    simp only [toD, Option.map_eq_some_iff] at h
    obtain ⟨ds, e1, e2⟩ := h
    subst e2
    simpa only [PyData.hasDict] using toDs_flat ps ds e1
  | .lst ps, _, h => by
    simp only [toD, Option.map_eq_some_iff] at h
    obtain ⟨ds, e1, e2⟩ := h
    subst e2
    simpa only [PyData.hasDict] using toDs_flat ps ds e1
  | .dct _, _, h => by simp [toD] at h
  | .loc _, _, h => by simp [toD] at h
  | .ref _, _, h => by simp [toD] at h
theorem toDs_flat : ∀ (ps : List PV) (ds : List PyData), toDs ps = some ds → PyData.hasDictAll ds = false
  | [], _, h => by
    simp only [toDs, Option.some.injEq] at h
    subst h; rfl
  | p :: ps, _, h => by
    simp only [toDs, Option.bind_eq_some_iff, Option.map_eq_some_iff] at h
    obtain ⟨d, e1, ds, e2, e3⟩ := h
    subst e3
    simp only [PyData.hasDictAll, toD_flat p d e1, toDs_flat ps ds e2, Bool.or_self]
end
theorem toDh_flat {p : PV} {hp : PH} {d : PyData} (h : toDh hp p = some d) : d.hasDict = false := by
  cases p with
  | loc n =>
    simp only [toDh, Option.bind_eq_some_iff, Option.map_eq_some_iff] at h
    obtain ⟨ps, e1, ds, e2, e3⟩ := h
    subst e3
    simpa only [PyData.hasDict] using toDs_flat ps ds e2
  | _ => exact toD_flat _ _ h
theorem reads_of {X : Cx} {C : Cfg} (hK : X.K = C.K) {μ : List Addr} {H : Hp} {hp : PH} {p : PV} {v : V} {d : PyData} (r : HR C μ H hp) (rv : RV C.K μ H p v) (h : toDr hp p = some d) : ReadsV X H v d := by
  intro pins σ s u I ru
  unfold toDr at h
  cases e : asD hp p with
  | none =>
    rw [e] at h
    have h : toDh hp p = some d := h
    obtain ⟨as, q⟩ := Dp.reads I d v u (by rw [hK]; exact toDh_dp r rv h) ru
    refine ⟨as, q, fun z => ?_⟩
    rw [toDh_flat h] at z
    cases z
  | some ks =>
    rw [e] at h
    obtain ⟨ds, e1, e2⟩ := Option.map_eq_some_iff.mp h
    subst e2
    obtain ⟨a, ws, rfl, rd, rk⟩ := asD_rd r rv e
    cases ru
    obtain ⟨_, ns, us, kv, o, es, ep, ho, ex, hd, _, pr, _⟩ := dk_rd I.hok rd
    obtain ⟨q1, q2⟩ := flat_reads (h := s.heap) rk kv pr e1
    refine ⟨_, Reads.dict ho ex.1 hd q1 q2, fun _ => ?_⟩
    simp only [List.append_nil, List.mem_singleton]
    intro z
    rw [← z] at ns
    simp at ns
def rRepr (X : Cx) : List V → Hp → VK → Prop := fun xs H Q => ∃ x d, xs = [x] ∧ ReadsV X H x d ∧ Showy d ∧ Q (.str d.shown) H
theorem cr_repr {X : Cx} {k : Nat} (room : Room k X.A) (hG : Calm X.A) : CallR X (.builtin "repr") (rRepr X) := by
  intro pins s σ H xs us Q I r h
  obtain ⟨x, d, rfl, rd, ⟨h1, h2, h3⟩, q⟩ := h
  cases r with
  | cons r1 rs =>
    cases rs
    obtain ⟨as, rr, no⟩ := rd pins σ s _ I r1
    have fin : ∀ (h' : Heap) (u tk : Tok), (∀ b o, s.heap.get? b = some o → h'.get? b = some o) → EP X pins σ Q (.str d.shown u) { s with heap := h', toks := tk } := fun h' u tk hk => ⟨.str d.shown, H, I.kept hk, ⟨u, rfl⟩, q⟩
    have un := room.un
    have ref : ∀ {a : Addr}, Reads s.heap (.ref a) d as → wpAny (model X.prog X.w) X.A (call (.builtin "repr") [.ref a]) (EP X pins σ Q) X.xe s := fun rr =>
      PySem.repr_of_reads' rr h1 no hG (by omega) (fun _ _ e => e) fin h3
    cases rr with
    | none => exact PySem.P.repr_of_none (fin s.heap _ _ fun _ _ e => e)
    | bool b => exact PySem.P.repr_of_bool (fin s.heap _ _ fun _ _ e => e)
    | int i t => exact PySem.P.repr_of_int (by simpa [PyData.showable] using h1) (fin s.heap _ _ fun _ _ e => e)
    | str y t => exact PySem.P.repr_of_str (fin s.heap _ _ fun _ _ e => e) h3
    | list e1 e2 e3 e4 => exact ref (.list e1 e2 e3 e4)
    | tuple e1 e2 e3 e4 => exact ref (.tuple e1 e2 e3 e4)
    | dict e1 e2 e3 e4 e5 => exact ref (.dict e1 e2 e3 e4 e5)
def gRepr : GA := gF1 fun p hp q => ∃ d, toDr hp p = some d ∧ Showy d ∧ q = .str d.shown
theorem lf_repr {X : Cx} {C : Cfg} (hK : X.K = C.K) : LFn C (rRepr X) gRepr := ⟨gF1.mo, fun μ H hp ps vs Q r rv ⟨p, q, e, ⟨d, e1, e2, e3⟩, h⟩ => by
  subst e e3
  obtain ⟨v, rfl, r1⟩ := rv.one
  exact ⟨v, d, rfl, reads_of hK r r1 e1, e2, fzk (h μ H _ .refl r (.str' e2.2.2))⟩⟩
end RF

set_option Elab.async false
set_option linter.all false
set_option maxRecDepth 100000
set_option maxHeartbeats 400000
/-! Part 10: in, dicts, isinstance. -/
namespace RF
open PySem PySem.Spec L2

/-! ### in -/
def toV : PV → V
  | .non => .non
  | .bl b => .bl b
  | .int i => .int i
  | .str s => .str s
  | _ => .non
def flatP : PV → Bool
  | .non => true
  | .bl _ => true
  | .int _ => true
  | .str _ => true
  | _ => false
def eqP (p q : PV) : Bool := eqV (toV p) (toV q)
theorem flatP_V {K : PySem.W.Frag} {μ : List Addr} {H : Hp} {p : PV} {v : V} (r : RV K μ H p v) (f : flatP p = true) : v = toV p ∧ flatV v = true := by
  cases p with
  | non => rw [r.nonI]; exact ⟨rfl, rfl⟩
  | bl b => rw [r.blI]; exact ⟨rfl, rfl⟩
  | int b => rw [r.intI]; exact ⟨rfl, rfl⟩
  | str b => rw [r.strI]; exact ⟨rfl, rfl⟩
  | _ => cases f
theorem flatPs_V {K : PySem.W.Frag} {μ : List Addr} {H : Hp} : ∀ {ps : List PV} {vs : List V}, RVs K μ H ps vs → ps.all flatP = true → vs = ps.map toV ∧ vs.all flatV = true
  | [], _, r, _ => by
    simp only [RVs] at r
    subst r
    exact ⟨rfl, rfl⟩
  | p :: ps, _, r, f => by
    simp only [RVs] at r
    obtain ⟨v, ws, rfl, r1, r2⟩ := r
    rw [List.all_cons, Bool.and_eq_true] at f
    obtain ⟨a1, a2⟩ := flatP_V r1 f.1
    obtain ⟨b1, b2⟩ := flatPs_V r2 f.2
    subst a1 b1
    exact ⟨rfl, by rw [List.all_cons, a2, b2]; rfl⟩
def inP (p : PV) (ps : List PV) : Bool := ps.any fun z => eqP z p
/-- membership in a text (one sign), a list or a tuple of flat items, a list of data -/
def cInB (neg : Bool) : G3 := fun p q hp b =>
  (∃ c z, p = .str ⟨#[c]⟩ ∧ q = .str z ∧ b = (neg != decide (c ∈ z.cps.toList))) ∨
  (∃ ps, seqP hp q = some ps ∧ flatP p = true ∧ ps.all flatP = true ∧ b = (neg != inP p ps)) ∨
  ∃ d ds, toDh hp p = some d ∧ toDh hp q = some (.list ds) ∧ SeqAt.shaped d = true ∧ SeqAt.shaped (.list ds) = true ∧ b = (neg != ds.any fun z => PyData.eqv z d)
abbrev cIn : G3 := cInB false
abbrev cNotIn : G3 := cInB true
def rInAll (K : PySem.W.Frag) : R2 := fun x y H Q => (∃ (c : Nat) (z : Str), x = .str ⟨#[c]⟩ ∧ y = .str z ∧ Q (.bl (decide (c ∈ z.cps.toList))) H) ∨ rIn K false x y H Q ∨ rInD K x y H Q
def rNotInAll (K : PySem.W.Frag) : R2 := fun x y H Q => (∃ (c : Nat) (z : Str), x = .str ⟨#[c]⟩ ∧ y = .str z ∧ Q (.bl (!decide (c ∈ z.cps.toList))) H) ∨ rIn K true x y H Q ∨ rNotInD K x y H Q
theorem op_inAll {X : Cx} (hu : X.A.units + 65 < cLine) : OpR X (compareOp .In) (rInAll X.K) := op_in_sign.or (op_in_seq.or (op_inD hu))
theorem op_notInAll {X : Cx} (hu : X.A.units + 65 < cLine) : OpR X (compareOp .NotIn) (rNotInAll X.K) := op_notIn_sign.or (op_notIn_seq.or (op_notInD hu))
section
variable {C : Cfg}
theorem in_seq {μ : List Addr} {H : Hp} {hp : PH} {p q : PV} {v u : V} {ps : List PV} {Q : VK} (neg : Bool) (r : HR C μ H hp) (rp : RV C.K μ H p v) (rq : RV C.K μ H q u) (h1 : seqP hp q = some ps) (h2 : flatP p = true) (h3 : ps.all flatP = true)
    (hq : Q (.bl (neg != inP p ps)) H) : rIn C.K neg v u H Q := by
  obtain ⟨a, ws, rfl, e1, e2⟩ := seqP_at r rq h1
  obtain ⟨a1, a2⟩ := flatP_V rp h2
  obtain ⟨b1, b2⟩ := flatPs_V e2 h3
  subst a1 b1
  refine ⟨a, _, rfl, e1, a2, b2, ?_⟩
  have e : inV (toV p) (ps.map toV) = inP p ps := by
    unfold inV inP
    rw [List.any_map]
    rfl
  rw [e]
  cases neg <;> simpa using hq
theorem l_in : LCp C (rInAll C.K) cIn := ⟨fun μ H hp p q v u b r rp rq h Q hq => by
  rcases h with ⟨c, z, rfl, rfl, rfl⟩ | ⟨ps, h1, h2, h3, rfl⟩ | ⟨d, ds, h1, h2, h3, h4, rfl⟩
  · exact .inl ⟨c, z, rp.strI, rq.strI, by simpa using hq⟩
  · exact .inr (.inl (in_seq false r rp rq h1 h2 h3 hq))
  · exact .inr (.inr ⟨d, ds, toDh_dp r rp h1, toDh_dp r rq h2, h3, h4, by simpa using hq⟩)⟩
theorem l_notIn : LCp C (rNotInAll C.K) cNotIn := ⟨fun μ H hp p q v u b r rp rq h Q hq => by
  rcases h with ⟨c, z, rfl, rfl, rfl⟩ | ⟨ps, h1, h2, h3, rfl⟩ | ⟨d, ds, h1, h2, h3, h4, rfl⟩
  · exact .inl ⟨c, z, rp.strI, rq.strI, by simpa using hq⟩
  · exact .inr (.inl (in_seq true r rp rq h1 h2 h3 hq))
  · exact .inr (.inr ⟨d, ds, toDh_dp r rp h1, toDh_dp r rq h2, h3, h4, by simpa using hq⟩)⟩
end

/-! ### dicts -/
def keyP : PV → Option Key
  | .int i => some (.inl i)
  | .str s => some (.inr s)
  | _ => none
def getP (ks : List (Key × PV)) (k : Key) : Option PV := (ks.find? fun kv => decide (kv.1 = k)).map (·.2)
def putP (ks : List (Key × PV)) (k : Key) (p : PV) : List (Key × PV) :=
  if (ks.any fun kv => decide (kv.1 = k)) = true then ks.map (fun kv => if kv.1 = k then (kv.1, p) else kv) else ks ++ [(k, p)]
def mergeP (ks more : List (Key × PV)) : List (Key × PV) := more.foldl (fun acc kv => putP acc kv.1 kv.2) ks
section
variable {K : PySem.W.Frag} {μ : List Addr} {H : Hp}
theorem keyP_V {p : PV} {v : V} {k : Key} (r : RV K μ H p v) (h : keyP p = some k) : v = kV k := by
  cases p with
  | int i => cases h; exact r.intI
  | str s => cases h; exact r.strI
  | _ => cases h
theorem RKs.nil : RKs K μ H [] [] := by simp only [RKs]
theorem RKs.cons {k : Key} {p : PV} {v : V} {ps : List (Key × PV)} {vs : List (Key × V)} (r : RV K μ H p v) (s : RKs K μ H ps vs) : RKs K μ H ((k, p) :: ps) ((k, v) :: vs) := by
  simp only [RKs]
  exact ⟨v, vs, rfl, r, s⟩
theorem RKs.length : ∀ {ps : List (Key × PV)} {vs : List (Key × V)}, RKs K μ H ps vs → vs.length = ps.length
  | [], _, h => by simp only [RKs] at h; subst h; rfl
  | (k, p) :: ps, _, h => by
    simp only [RKs] at h
    obtain ⟨w, ws, rfl, r, s⟩ := h
    simp [RKs.length s]
theorem RKs.any (f : Key → Bool) : ∀ {ps : List (Key × PV)} {vs : List (Key × V)}, RKs K μ H ps vs → (vs.any fun kv => f kv.1) = ps.any fun kv => f kv.1
  | [], _, h => by simp only [RKs] at h; subst h; rfl
  | (k, p) :: ps, _, h => by
    simp only [RKs] at h
    obtain ⟨w, ws, rfl, r, s⟩ := h
    simp only [List.any_cons, RKs.any f s]
theorem RKs.append : ∀ {ps qs : List (Key × PV)} {vs ws : List (Key × V)}, RKs K μ H ps vs → RKs K μ H qs ws → RKs K μ H (ps ++ qs) (vs ++ ws)
  | [], _, _, _, h, s => by simp only [RKs] at h; subst h; exact s
  | (k, p) :: ps, _, _, _, h, s => by
    simp only [RKs] at h
    obtain ⟨w, ws, rfl, r, t⟩ := h
    exact .cons r (RKs.append t s)
theorem RKs.upd1 {k : Key} {p : PV} {v : V} (rp : RV K μ H p v) : ∀ {ps : List (Key × PV)} {vs : List (Key × V)}, RKs K μ H ps vs → RKs K μ H (ps.map fun kv => if kv.1 = k then (kv.1, p) else kv) (vs.map fun kv => if kv.1 = k then (kv.1, v) else kv)
  | [], _, h => by simp only [RKs] at h; subst h; exact .nil
  | (j, q) :: ps, _, h => by
    simp only [RKs] at h
    obtain ⟨w, ws, rfl, r, t⟩ := h
    simp only [List.map_cons]
    by_cases z : j = k
    · rw [if_pos z, if_pos z]
      exact .cons rp (RKs.upd1 rp t)
    · rw [if_neg z, if_neg z]
      exact .cons r (RKs.upd1 rp t)
theorem RKs.put {ks : List (Key × PV)} {ws : List (Key × V)} {k : Key} {p : PV} {v : V} (r : RKs K μ H ks ws) (rp : RV K μ H p v) : RKs K μ H (putP ks k p) (putK ws k v) := by
  unfold putP putK
  rw [r.any fun j => decide (j = k)]
  split
  · exact r.upd1 rp
  · exact r.append (.cons rp .nil)
theorem RKs.get : ∀ {ks : List (Key × PV)} {ws : List (Key × V)} {k : Key}, RKs K μ H ks ws → (∀ p, getP ks k = some p → ∃ v, valV ws k = some v ∧ RV K μ H p v) ∧ (getP ks k = none → valV ws k = none)
  | [], _, k, h => by
    simp only [RKs] at h
    subst h
    exact ⟨fun p e => by simp [getP] at e, fun _ => rfl⟩
  | (j, q) :: ks, _, k, h => by
    simp only [RKs] at h
    obtain ⟨w, ws, rfl, r, t⟩ := h
    obtain ⟨h1, h2⟩ := RKs.get (k := k) t
    by_cases z : j = k
    · have e1 : getP ((j, q) :: ks) k = some q := by simp [getP, z]
      have e2 : valV ((j, w) :: ws) k = some w := valV_pos z
      rw [e1, e2]
      exact ⟨fun p e => ⟨w, rfl, by cases e; exact r⟩, fun e => by cases e⟩
    · have e1 : getP ((j, q) :: ks) k = getP ks k := by simp [getP, z]
      have e2 : valV ((j, w) :: ws) k = valV ws k := valV_neg z
      rw [e1, e2]
      exact ⟨h1, h2⟩
theorem RKs.merge : ∀ {more ks : List (Key × PV)} {mws ws : List (Key × V)}, RKs K μ H more mws → RKs K μ H ks ws → RKs K μ H (mergeP ks more) (mergeK ws mws)
  | [], ks, _, _, h, r => by simp only [RKs] at h; subst h; exact r
  | (k, p) :: more, ks, _, _, h, r => by
    simp only [RKs] at h
    obtain ⟨w, ws, rfl, r1, t⟩ := h
    have z := RKs.merge (more := more) (ks := putP ks k p) t (r.put r1)
    exact z
end
section
variable {X : Cx} {C : Cfg} {E : XK} {o i d x : Expr} {wa wb wd : WE} {pos pos' apos : Pos}
/-- d[k] -/
def wDGet (a b : WE) : WE := fun σ hp e Q => a σ hp e fun p h1 => b σ h1 e fun q h2 => ∃ ks k z, asD h2 p = some ks ∧ keyP q = some k ∧ getP ks k = some z ∧ Q z h2
theorem dget_at {μ : List Addr} {H : Hp} {hp : PH} {p q : PV} {v u : V} {ks : List (Key × PV)} {k : Key} (r : HR C μ H hp) (rp : RV C.K μ H p v) (rq : RV C.K μ H q u) (h1 : asD hp p = some ks) (h2 : keyP q = some k) :
    ∃ a ws, v = .ref a ∧ RKs C.K μ H ks ws ∧ Rd H a (.dK ws) ∧ u = kV k ∧ DGet H a u (valV ws k) := by
  obtain ⟨a, ws, rfl, rd, rk⟩ := asD_rd r rp h1
  have e := keyP_V rq h2
  subst e
  exact ⟨a, ws, rfl, rk, rd, rfl, .inl ⟨ws, k, rd, rfl, rfl⟩⟩
theorem re_dget (hu : X.A.units + 1 < cLine) (ho : RE X C E o wa) (hi : RE X C E i wb) (hs : NoSl i) : RE X C E (.Subscript o i pos) (wDGet wa wb) := by
  refine ⟨fun σ hp e Q Q' i q => ho.mo _ _ _ _ _ (fun p h q => hi.mo _ _ _ _ _ (fun p h ⟨ks, k, z, h1, h2, h3, q⟩ => ⟨ks, k, z, h1, h2, h3, i _ _ q⟩) q) q, PE.imp (pe_dget hu ho.pe hi.pe hs) fun σ H Q ⟨μ, hp, σI, e, A, s, q⟩ => ?_⟩
  refine tE.go ho.mo A s q fun p h1 μ1 H1 v q1 u1 A1 s1 r1 => ?_
  refine tE.go hi.mo A1 s1 q1 fun p2 h2 μ2 H2 v2 ⟨ks, k, z, e1, e2, e3, q2⟩ u2 A2 s2 r2 => ?_
  obtain ⟨a, ws, rfl, rk, _, _, g⟩ := dget_at A2.hr (RV.up u2 _ _ r1) r2 e1 e2
  obtain ⟨w, hw, rw'⟩ := rk.get.1 z e3
  rw [hw] at g
  exact ⟨a, w, rfl, g, (q2.up (u1.trans u2)).here A2 rw'⟩
/-- d.get(k), d.get(k, x) -/
def wGet1 (a b : WE) : WE := fun σ hp e Q => a σ hp e fun p h1 => (∃ ks, asD h1 p = some ks) ∧ b σ h1 e fun q h2 => ∃ ks k, asD h2 p = some ks ∧ keyP q = some k ∧ Q ((getP ks k).getD .non) h2
def wGet2 (a b d : WE) : WE := fun σ hp e Q => a σ hp e fun p h1 => (∃ ks, asD h1 p = some ks) ∧ b σ h1 e fun q h2 => d σ h2 e fun z h3 => ∃ ks k, asD h3 p = some ks ∧ keyP q = some k ∧ Q ((getP ks k).getD z) h3
theorem getD_rv {K : PySem.W.Frag} {μ : List Addr} {H : Hp} {ks : List (Key × PV)} {ws : List (Key × V)} {k : Key} {z : PV} {w : V} (r : RKs K μ H ks ws) (rz : RV K μ H z w) : RV K μ H ((getP ks k).getD z) ((valV ws k).getD w) := by
  obtain ⟨h1, h2⟩ := r.get (k := k)
  cases e : getP ks k with
  | none => rw [h2 e]; exact rz
  | some p =>
    obtain ⟨v, hv, rv⟩ := h1 p e
    rw [hv]
    exact rv
theorem re_get1 (hu : X.A.units + 1 < cLine) (ho : RE X C E o wa) (hi : RE X C E i wb) (m : M1 X o "get" apos i pos) : RE X C E (.Call (.Attribute o "get" apos) [i] [] pos) (wGet1 wa wb) := by
  refine ⟨fun σ hp e Q Q' i q => ho.mo _ _ _ _ _ (fun p h ⟨t, q⟩ => ⟨t, hi.mo _ _ _ _ _ (fun p h ⟨ks, k, h1, h2, q⟩ => ⟨ks, k, h1, h2, i _ _ q⟩) q⟩) q, PE.imp (pe_dget1 hu ho.pe hi.pe m) fun σ H Q ⟨μ, hp, σI, e, A, s, q⟩ => ?_⟩
  refine tE.go ho.mo A s q fun p h1 μ1 H1 v ⟨⟨ks0, t⟩, q1⟩ u1 A1 s1 r1 => ?_
  obtain ⟨a, ws0, rfl, rd, _⟩ := asD_rd A1.hr r1 t
  refine ⟨a, rfl, .inl ⟨ws0, rd⟩, ?_⟩
  refine tE.go hi.mo A1 s1 q1 fun p2 h2 μ2 H2 v2 ⟨ks, k, e1, e2, q2⟩ u2 A2 s2 r2 => ?_
  obtain ⟨b, ws, eb, rk, _, _, g⟩ := dget_at A2.hr (RV.up u2 _ _ r1) r2 e1 e2
  cases eb
  exact ⟨_, g, (q2.up (u1.trans u2)).here A2 (getD_rv rk .non')⟩
theorem re_get2 (hu : X.A.units + 1 < cLine) (ho : RE X C E o wa) (hi : RE X C E i wb) (hd : RE X C E d wd) (m : M2 X o "get" apos i d pos) : RE X C E (.Call (.Attribute o "get" apos) [i, d] [] pos) (wGet2 wa wb wd) := by
  refine ⟨fun σ hp e Q Q' i q => ho.mo _ _ _ _ _ (fun p h ⟨t, q⟩ => ⟨t, hi.mo _ _ _ _ _ (fun p h q => hd.mo _ _ _ _ _ (fun p h ⟨ks, k, h1, h2, q⟩ => ⟨ks, k, h1, h2, i _ _ q⟩) q) q⟩) q, PE.imp (pe_dget2 hu ho.pe hi.pe hd.pe m) fun σ H Q ⟨μ, hp, σI, e, A, s, q⟩ => ?_⟩
  refine tE.go ho.mo A s q fun p h1 μ1 H1 v ⟨⟨ks0, t⟩, q1⟩ u1 A1 s1 r1 => ?_
  obtain ⟨a, ws0, rfl, rd, _⟩ := asD_rd A1.hr r1 t
  refine ⟨a, rfl, .inl ⟨ws0, rd⟩, ?_⟩
  refine tE.go hi.mo A1 s1 q1 fun p2 h2 μ2 H2 v2 q2 u2 A2 s2 r2 => ?_
  refine tE.go hd.mo A2 s2 q2 fun p3 h3 μ3 H3 v3 ⟨ks, k, e1, e2, q3⟩ u3 A3 s3 r3 => ?_
  obtain ⟨b, ws, eb, rk, _, _, g⟩ := dget_at A3.hr (RV.up (u2.trans u3) _ _ r1) (RV.up u3 _ _ r2) e1 e2
  cases eb
  exact ⟨_, g, (q3.up ((u1.trans u2).trans u3)).here A3 (getD_rv rk r3)⟩
/-- d[k] = x -/
def wDPut (a b d : WE) : WS := fun σ hp e D => d σ hp e fun z h1 => a σ h1 e fun p h2 => b σ h2 e fun q h3 => ∃ n ks k, p = .loc n ∧ h3 n = some (.dct ks) ∧ keyP q = some k ∧ ks.length < sizeLine ∧ flC (.dct (putP ks k z)) = true ∧ D.nx σ (put h3 n (.dct (putP ks k z)))
theorem rs_dput (hu : X.A.units + 1 < cLine) (ho : RE X C E o wa) (hi : RE X C E i wb) (hd : RE X C E d wd) (hs : swapsWith d (some (.Subscript o i pos')) pos.line X.env = pure false) : RS X C E (.Assign [.Subscript o i pos'] d pos) (wDPut wa wb wd) := by
  refine ⟨fun σ hp e D D' l q => hd.mo _ _ _ _ _ (fun p h q => ho.mo _ _ _ _ _ (fun p h q => hi.mo _ _ _ _ _ (fun p h ⟨n, ks, k, h1, h2, h3, h4, f, q⟩ => ⟨n, ks, k, h1, h2, h3, h4, f, l.nx _ _ q⟩) q) q) q, PS.imp (ps_dput hu ho.pe hi.pe hd.pe hs) fun D σ H ⟨μ, hp, σI, e, A, s, q⟩ => ?_⟩
  refine tE.go hd.mo A s q fun z h1 μ1 H1 w q1 u1 A1 s1 r1 => ?_
  refine tE.go ho.mo A1 s1 q1 fun p h2 μ2 H2 v q2 u2 A2 s2 r2 => ?_
  refine tE.go hi.mo A2 s2 q2 fun p3 h3 μ3 H3 v3 ⟨n, ks, k, e1, e2, e3, e4, fl, q3⟩ u3 A3 s3 r3 => ?_
  subst e1
  obtain ⟨a, ws, rfl, ea, eH, rk⟩ := loc_dct A3.hr (RV.up u3 _ _ r2) e2
  have ek := keyP_V r3 e3
  subst ek
  refine ⟨a, _, rfl, DPut.k eH (by rw [rk.length]; exact e4), ?_⟩
  have u : Up μ3 H3 μ3 (upd H3 a (.dK (putK ws k w))) := Up.write ea eH rfl
  exact q3 μ3 _ σ (((u1.trans u2).trans u3).trans u) (A3.hr.write ea eH dKU ⟨_, upd_same, RKs.up u _ _ (rk.put (RV.up (u2.trans u3) _ _ r1))⟩ fl) (s3.up u)
end

/-! ### displays of dicts -/
def wPairs : List (WE × WE) → SI → PH → EI → (List (PV × PV) → PH → Prop) → Prop
  | [], _, hp, _, Q => Q [] hp
  | (a, b) :: r, σ, hp, e, Q => a σ hp e fun p h1 => b σ h1 e fun q h2 => wPairs r σ h2 e fun ps h3 => Q ((p, q) :: ps) h3
inductive RPs (X : Cx) (C : Cfg) (E : XK) : List (Option Expr) → List Expr → List (WE × WE) → Prop where
  | nil : RPs X C E [] [] []
  | cons {k v : Expr} {ks : List (Option Expr)} {vs : List Expr} {wk wv : WE} {ws : List (WE × WE)} (hk : RE X C E k wk) (hv : RE X C E v wv) (r : RPs X C E ks vs ws) : RPs X C E (some k :: ks) (v :: vs) ((wk, wv) :: ws)
def keysP : List (PV × PV) → Option (List (Key × PV))
  | [] => some []
  | (p, q) :: r => (keyP p).bind fun k => (keysP r).map fun ks => (k, q) :: ks
def wDct (ws : List (WE × WE)) : WE := fun σ hp e Q => wPairs ws σ hp e fun ps h => ∃ ks, keysP ps = some ks ∧ Q (.dct (mergeP [] ks)) h
def wDctM (ws : List (WE × WE)) : WE := fun σ hp e Q => wPairs ws σ hp e fun ps h => ∃ ks, keysP ps = some ks ∧ flC (.dct (mergeP [] ks)) = true ∧ ∀ n, h n = none → Q (.loc n) (put h n (.dct (mergeP [] ks)))
def RP2 (K : PySem.W.Frag) (μ : List Addr) (H : Hp) : List (PV × PV) → List (V × V) → Prop
  | [], vs => vs = []
  | (p, q) :: ps, vs => ∃ v u ws, vs = (v, u) :: ws ∧ RV K μ H p v ∧ RV K μ H q u ∧ RP2 K μ H ps ws
theorem RP2.keys {K : PySem.W.Frag} {μ : List Addr} {H : Hp} : ∀ {ps : List (PV × PV)} {vs : List (V × V)} {ks : List (Key × PV)}, RP2 K μ H ps vs → keysP ps = some ks → ∃ ws, vs = ws.map (fun kv => (kV kv.1, kv.2)) ∧ RKs K μ H ks ws ∧ ws.length = ps.length
  | [], _, _, r, e => by
    simp only [RP2] at r
    simp only [keysP, Option.some.injEq] at e
    subst r e
    exact ⟨[], rfl, .nil, rfl⟩
  | (p, q) :: ps, _, _, r, e => by
    simp only [RP2] at r
    obtain ⟨v, u, ws, rfl, r1, r2, r3⟩ := r
    simp only [keysP, Option.bind_eq_some_iff, Option.map_eq_some_iff] at e
    obtain ⟨k, e1, ks, e2, e3⟩ := e
    subst e3
    obtain ⟨zs, h1, h2, h3⟩ := RP2.keys r3 e2
    have ek := keyP_V r1 e1
    subst ek h1
    exact ⟨(k, u) :: zs, rfl, .cons r2 h2, by simp [h3]⟩
section
variable {X : Cx} {C : Cfg} {E : XK} {pos : Pos} {keys : List (Option Expr)} {values : List Expr} {ws : List (WE × WE)}
theorem RPs.mo (h : RPs X C E keys values ws) : ∀ σ hp e Q Q', (∀ p h, Q p h → Q' p h) → wPairs ws σ hp e Q → wPairs ws σ hp e Q' := by
  induction h with
  | nil => exact fun σ hp e Q Q' i q => i _ _ q
  | cons hk hv r ih => exact fun σ hp e Q Q' i q => hk.mo _ _ _ _ _ (fun p h1 q => hv.mo _ _ _ _ _ (fun p2 h2 q => ih _ _ _ _ _ (fun ps h3 q => i _ _ q) q) q) q
theorem RPs.pps (h : RPs X C E keys values ws) : PPs X pos keys values (ws.map fun w => (tE C E w.1, tE C E w.2)) := by
  induction h with
  | nil => exact pps_nil
  | cons hk hv r ih => exact pps_cons hk.pe hv.pe ih
theorem RPs.len (h : RPs X C E keys values ws) : ws.length = keys.length ∧ keys.length = values.length := by
  induction h with
  | nil => exact ⟨rfl, rfl⟩
  | cons hk hv r ih => exact ⟨by simp [ih.1], by simp [ih.2]⟩
theorem RPs.go (h : RPs X C E keys values ws) : ∀ {μ : List Addr} {H : Hp} {hp : PH} {e : EI} {σI : SI} {σ : St} {Q : List (PV × PV) → PH → Prop} {R : List (V × V) → Hp → Prop}, At C E μ H hp e → SR C μ H σI σ → wPairs ws σI hp e Q →
    (∀ ps hp' μ' H' vs, Q ps hp' → ps.length = ws.length → Up μ H μ' H' → At C E μ' H' hp' e → RP2 C.K μ' H' ps vs → R vs H') → tPairs (ws.map fun w => (tE C E w.1, tE C E w.2)) σ H R := by
  have up2 : ∀ {μ μ' : List Addr} {H H' : Hp} (u : Up μ H μ' H') (ps : List (PV × PV)) (vs : List (V × V)), RP2 C.K μ H ps vs → RP2 C.K μ' H' ps vs := by
    intro μ μ' H H' u ps
    induction ps with
    | nil => exact fun vs h => h
    | cons p ps ih =>
      intro vs ⟨v, w, ws, e, r1, r2, r3⟩
      exact ⟨v, w, ws, e, RV.up u _ _ r1, RV.up u _ _ r2, ih _ r3⟩
  induction h with
  | nil =>
    intro μ H hp e σI σ Q R A s q k
    exact k [] hp μ H [] q rfl .refl A rfl
  | cons hk hv r ih =>
    intro μ H hp e σI σ Q R A s q k
    refine tE.go hk.mo A s q fun p h1 μ1 H1 v q1 u1 A1 s1 r1 => ?_
    refine tE.go hv.mo A1 s1 q1 fun p2 h2 μ2 H2 v2 q2 u2 A2 s2 r2 => ?_
    refine ih A2 s2 q2 fun ps h3 μ3 H3 vs q3 l3 u3 A3 r3 => ?_
    exact k _ h3 μ3 H3 _ q3 (by simp [l3]) ((u1.trans u2).trans u3) A3 ⟨v, v2, vs, rfl, RV.up (u2.trans u3) _ _ r1, RV.up u3 _ _ r2, r3⟩
theorem re_dct (h : RPs X C E keys values ws) (hall : keys.all (·.isSome) = true) (h0 : keys ≠ []) (h15 : keys.length ≤ 15) : RE X C E (.Dict keys values pos) (wDct ws) := by
  refine ⟨fun σ hp e Q Q' i q => h.mo _ _ _ _ _ (fun ps h ⟨ks, e, q⟩ => ⟨ks, e, i _ _ q⟩) q, PE.imp (PE.fz (pe_disp h.pps hall h.len.2 h0 h15)) fun σ H Q ⟨μ, hp, σI, e, A, s, q⟩ => ?_⟩
  intro D hD
  have uD : Up μ H μ (upd H D (.dK [])) := Up.fresh hD
  refine h.go (A.next uD (A.hr.fresh hD)) (s.up uD) q fun ps h1 μ1 H1 vs ⟨ks, e1, q1⟩ l1 u1 A1 r1 => ?_
  obtain ⟨ws', rfl, rk, lw⟩ := r1.keys e1
  obtain ⟨eD, nD⟩ := u1.notin upd_same rfl (A.hr.notin hD)
  refine ⟨eD, ws', rfl, by rw [lw, l1, h.len.1]; exact h15, ?_⟩
  exact q1.lockD ((uD.trans u1).wrN (fr_none hD) eD rfl nD) (fr_none hD) (A1.hr.wrN eD rfl nD) upd_same nD (RKs.up0 (Up0.wrN eD rfl) _ _ (rk.merge .nil))
theorem re_dctM (h : RPs X C E keys values ws) (hall : keys.all (·.isSome) = true) (h0 : keys ≠ []) (h15 : keys.length ≤ 15) : RE X C E (.Dict keys values pos) (wDctM ws) := by
  refine ⟨fun σ hp e Q Q' i q => h.mo _ _ _ _ _ (fun ps h ⟨ks, e, f, q⟩ => ⟨ks, e, f, fun n hn => i _ _ (q n hn)⟩) q, PE.imp (pe_disp h.pps hall h.len.2 h0 h15) fun σ H Q ⟨μ, hp, σI, e, A, s, q⟩ => ?_⟩
  intro D hD
  have uD : Up μ H μ (upd H D (.dK [])) := Up.fresh hD
  refine h.go (A.next uD (A.hr.fresh hD)) (s.up uD) q fun ps h1 μ1 H1 vs ⟨ks, e1, fl, q1⟩ l1 u1 A1 r1 => ?_
  obtain ⟨ws', rfl, rk, lw⟩ := r1.keys e1
  obtain ⟨eD, nD⟩ := u1.notin upd_same rfl (A.hr.notin hD)
  refine ⟨eD, ws', rfl, by rw [lw, l1, h.len.1]; exact h15, ?_⟩
  have u2 := (uD.trans u1).wrN (o := .dK (mergeK [] ws')) (fr_none hD) eD rfl nD
  have r2 := A1.hr.wrN (o := .dK (mergeK [] ws')) eD rfl nD
  have u3 : Up0 μ1 (upd H1 D (.dK (mergeK [] ws'))) (μ1 ++ [D]) (upd H1 D (.dK (mergeK [] ws'))) := ⟨fun n x e => by rw [List.getElem?_append_left (List.getElem?_eq_some_iff.mp e).1]; exact e, fun _ _ _ h => h⟩
  refine q1 μ1.length (A1.hr.nomore (Nat.le_refl _)) (μ1 ++ [D]) _ (.ref D) (u2.addN (fr_none hD)) (r2.addN nD upd_same ⟨_, upd_same, RKs.up0 u3 _ _ (RKs.up0 (Up0.wrN eD rfl) _ _ (rk.merge .nil))⟩ fl) ?_
  simp only [RV]
  exact ⟨D, rfl, by simp⟩
def wDct0 : WE := fun _ hp _ Q => Q (.dct []) hp
theorem re_dct0 : RE X C E (.Dict [] [] pos) wDct0 := ⟨fun _ _ _ _ _ i q => i _ _ q, PE.imp (PE.fz pe_dnewK) fun σ H Q ⟨μ, hp, σI, e, A, s, q⟩ p np => q.newD A.hr .nil np⟩
def wDct0M : WE := fun _ hp _ Q => ∀ n, hp n = none → Q (.loc n) (put hp n (.dct []))
theorem re_dct0M : RE X C E (.Dict [] [] pos) wDct0M := ⟨fun _ _ _ _ _ i q n hn => i _ _ (q n hn), PE.imp (PE.fz pe_dnewK) fun σ H Q ⟨μ, hp, σI, e, A, s, q⟩ p np => fE.newMD q A.hr .nil np rfl⟩
end

/-! ### isinstance -/
def tyCell : Option Cell → Option String
  | some (.lst _) => some "list"
  | some (.dct _) => some "dict"
  | none => none
def tyP (hp : PH) : PV → Option String
  | .non => some "NoneType"
  | .bl _ => some "bool"
  | .int _ => some "int"
  | .str _ => some "str"
  | .tup _ => some "tuple"
  | .lst _ => some "list"
  | .dct _ => some "dict"
  | .loc n => tyCell (hp n)
  | .ref _ => none
theorem tyP_V {C : Cfg} {μ : List Addr} {H : Hp} {hp : PH} {p : PV} {v : V} {T : String} (r : HR C μ H hp) (rv : RV C.K μ H p v) (h : tyP hp p = some T) : TyX C.K H v (.type T) := by
  cases p with
  | non => cases h; rw [rv.nonI]; exact .base .non
  | bl b => cases h; rw [rv.blI]; exact .base (.bl b)
  | int b => cases h; rw [rv.intI]; exact .base (.int b)
  | str b => cases h; rw [rv.strI]; exact .base (.str b)
  | tup ps =>
    cases h
    obtain ⟨a, vs, rfl, hs, _⟩ := rv.tupI
    rcases hs with (hs | ⟨o, hs⟩) | ⟨o, its, n, hk, hc, _⟩
    · exact .base (.tup hs)
    · exact .fTuple hs
    · exact .kTuple hk hc
  | lst ps =>
    cases h
    obtain ⟨a, vs, rfl, ⟨o, hs⟩, _⟩ := rv.lstI
    exact .base (.frz hs)
  | dct ps =>
    cases h
    obtain ⟨a, vs, rfl, ⟨o, hs⟩, _⟩ := rv.dctI
    exact .fDict hs
  | loc n =>
    obtain ⟨a, rfl, ha⟩ := rv.locI
    have h : tyCell (hp n) = some T := h
    cases e : hp n with
    | none => rw [e] at h; cases h
    | some c =>
      obtain ⟨b, hb, hc⟩ := r.cell n _ e
      rw [ha] at hb
      cases hb
      rw [e] at h
      cases c with
      | lst ps =>
        cases h
        obtain ⟨vs, hv, _⟩ := hc
        exact .base (.lst hv)
      | dct ks =>
        cases h
        obtain ⟨vs, hv, _⟩ := hc
        exact .base (.dK hv)
  | ref b => cases h
def wIsi (T : String) (a : WE) : WE := fun σ hp e Q => a σ hp e fun p h => ∃ S b, tyP h p = some S ∧ kitB S T = some b ∧ Q (.bl b) h
section
variable {X : Cx} {C : Cfg} {E : XK} {x : Expr} {wa : WE} {p p2 pos : Pos} {nT : Str} {T : String}
theorem re_isi (hK : X.K = C.K) (gl : Gl X "isinstance") (hm : X.mg "isinstance" = none) (glT : Gl X nT) (hmT : X.mg nT = none) (hv : bootBuiltins nT = some (.type T)) (ha : RE X C E x wa) (hn : nT ≠ "__name__") (hdb : (nT == ("__debug__" : Str)) = false)
    (he : starEach [x, .Name nT p2] X.env = (false, eval x X.env) :: starEach [.Name nT p2] X.env) (hs : starEach [Expr.Name nT p2] X.env = (false, eval (.Name nT p2) X.env) :: starEach [] X.env) (hpl : (backTo pos (starEach [Expr.Name nT p2] X.env)).any (·.1) = false) :
    RE X C E (.Call (.Name "isinstance" p) [x, .Name nT p2] [] pos) (wIsi T wa) := by
  refine ⟨fun σ hp e Q Q' i q => ha.mo _ _ _ _ _ (fun p h ⟨S, b, e1, e2, q⟩ => ⟨S, b, e1, e2, i _ _ q⟩) q, PE.imp (pe_callB call_isi gl hm (by rfl) (pa_cons ha.pe (pa_cons (pe_bltn (v := .ty T) glT hmT hv rfl hn hdb) pa_nil hs) he) (by decide) (by decide) he hpl) fun σ H Q ⟨μ, hp, σI, e, A, s, q⟩ => ?_⟩
  refine tE.go ha.mo A s q fun q h1 μ1 H1 v ⟨S, b, e1, e2, q1⟩ u1 A1 s1 r1 => ?_
  refine ⟨v, .ty T, .type S, .type T, b, rfl, .ty T, ?_, kit_ty e2, (q1.up u1).here A1 .bl'⟩
  rw [hK]
  exact tyP_V A1.hr r1 e1
end
end RF

set_option Elab.async false
set_option linter.all false
set_option maxRecDepth 100000
set_option maxHeartbeats 1000000
/-! Part X1: the program's own errors: a class over QuickError(Exception) whose __init__ stores one field. The chain follows skel/42, for a class two steps under Exception. -/
namespace RX
open PySem PySem.Spec PySem.W PySem.Calls PyProof.Rows PySem.HandSPX L2
open Builtin Builtin.ObjectAttr
abbrev tailE (B : Addr) : List Value := .ref B :: PySem.ESX.exTail
section
variable {prog : Program} {w : World} {A : Around} {E : Value → Shared → Prop} {R : Result → Shared → Prop} {hp : Heap} {g : Array GenState} {d : Drawn} {t : Nat} {os : OsState}
theorem tailE_has (B : Addr) (X : String) : (tailE B).contains (.type X) = ([.type "Exception", .type "BaseException", .type "object"] : List Value).contains (.type X) := by
  unfold tailE
  rw [List.contains_cons]
  rfl
/-- self.name = v where the error has no dict yet -/
theorem set_first {K : Frag} {name : Str} {tk : Tok} {v : Value} {x C B : Addr} {fv : Array Value} {cd : ClassData}
    (X : K.In hp) (hx : hp.get? x = some { cls := .ref C, data := .fields fv }) (hcd : clsIn K C = some cd) (hm : cd.mro = .ref C :: tailE B) (hh : cd.hasDict = true) (ha : findIn K (.ref C) name = some none)
    (hq : ∀ h' tk' dx, (∀ b o, b ≠ x → hp.get? b = some o → h'.get? b = some o) → hp.objs.size ≤ dx → dx ≠ x →
      h'.get? x = some { cls := .ref C, dict := some dx, data := .fields fv } →
      h'.Ns1 dx (fun y => if y = name then some v else none) → R (.ok (.ret .none)) ⟨h', g, d, tk', os⟩) :
    codeAny (model prog w) A (.call (.builtin "object.__setattr__") ⟨[.ref x, .str name tk, v], []⟩) R ⟨hp, g, d, t, os⟩ := by
  have inst : InstAt hp x { cls := .ref C, data := .fields fv } C none := ⟨hx, rfl, rfl, trivial⟩
  have apart : x ≠ hp.objs.size := Nat.ne_of_lt (Heap.lt_size hx)
  have has : cd.mro.contains (.type "object") = true := by
    rw [hm, List.contains_cons, tailE_has]
    rfl
  have isO : Looks (model prog w) hp (isInstance (.ref x) (.type "object")) true := by
    refine inst.type.andThen (looks_mroIn X ?_)
    unfold mroIn
    rw [hcd, Option.bind_some, has, hm]
    rfl
  have st := PySem.F.store_object
  refine codeAny_call_builtin st.slot.plain st.entry (@W.check_slot (model prog w) _ _ ⟨hp, g, d, t, os⟩ "object.__setattr__" "object" "__setattr__" (.ref x)
    [.str name tk, v] [] _ st.kind st.split isO (st.args (.ref x) (.str name tk) v) ?_)
  have hMro : Looks (model prog w) hp (mroOf (.ref C)) cd.mro := (looks_clsIn X hcd).andThen .now
  have hTake : Looks (model prog w) hp (storeTaker? none) none := .now
  have hCls : Looks (model prog w) hp (classData C) cd := looks_clsIn X hcd
  have pass : refuseLoop (.ref x) "__setattr__" cd.mro = pure () := by
    rw [hm]
    unfold tailE
    rw [refuseLoop_ref, refuseLoop_ref]
    exact PySem.F.store_Exception.passes _
  rw [W.osa_eq, refuse_eq]
  refine wpAny_bind (wpAny_bind (inst.type.at (wpAny_bind (hMro.at ?_))))
  rw [pass]
  refine wpAny_pure (wpAny_bind (inst.type.at (wpAny_bind ((looks_findIn X ha).at (wpAny_bind (hTake.at ?_))))))
  show wpAny _ _ (storeInOwnDict (.ref x) (.ref C) (.str name tk) name v false) _ _ _
  obtain ⟨c1, c2, c3, c4, c5, c6, c7, c8, c9, c10, c11⟩ := cd
  dsimp only at hh
  subst hh
  unfold storeInOwnDict ownDictForStores
  repeat (first | with_reducible refine store_in_new ?_ ?_ | with_reducible refine wpAny_loadPart_at hx ?_ | with_reducible refine hCls.at ?_ | wp_step)
  · refine ⟨_, #[], _, (Heap.get?_update_ne _ _ _ _ apart.symm).trans (Heap.get?_push_at rfl rfl), rfl, ?_, fun _ => rfl⟩
    exact fun e he => absurd he (by simp)
  · intro h' tk' hn' same
    have pushed := Heap.get?_push_of_some ({ cls := .type "dict", data := .dict #[] } : Obj) hx
    refine hq h' tk' hp.objs.size ?_ (Nat.le_refl _) apart.symm ?_ hn'
    · intro b o hb ho
      have z := same.2 b (Nat.ne_of_lt (Heap.lt_size ho))
      exact z.trans ((Heap.get?_update_ne _ _ _ _ hb).trans (Heap.get?_push_of_some _ ho))
    · exact (same.2 x apart).trans (Heap.get?_update_self _ pushed rfl)
end

/-! ### the text of __init__ -/
def iA (f : Str) (p1 p2 : Pos) : Arguments := { posonlyargs := [], args := [{ arg := "self", annotation := none, pos := p1 }, { arg := f, annotation := none, pos := p2 }], vararg := none, kwonlyargs := [], kw_defaults := [], kwarg := none, defaults := [] }
def iB (f : Str) (q1 q2 q3 q4 : Pos) : List Stmt := [.Assign [.Attribute (.Name "self" q1) f q2] (.Name f q3) q4]
def iS (f : Str) : Scope := { kind := .function, names := [(PySem.Str.ofString "self", .local), (f, .local)], isGenerator := false, isCoroutine := false, more := [] }
/-- what the written part says of the class at C (over the one at B), whose __init__ at fI stores the field f -/
structure ErrTxt (K : Frag) (cn f : Str) (C B fI : Addr) : Prop where
  fld : f = ("thing" : Str) ∨ f = ("at" : Str)
  cls : ∃ nm q N bs sn sub ab col dd k0 k1 k2 k3 k5, K.lookup C = some (excClassObj nm q C N bs (tailE B) true sn sub ab col dd k0 k1 k2 k3 k5 "Exception.__new__")
  sa : findIn K (.ref C) "__setattr__" = some (some (.builtin "object.__setattr__"))
  ga : findIn K (.ref C) "__getattribute__" = some (some (.builtin "BaseException.__getattribute__"))
  gg : findIn K (.ref C) "__getattr__" = some none
  noN : findIn K (.ref C) f = some none
  iC : findIn K (.ref C) "__init__" = some (some (.ref fI))
  tC : typeIn K (.ref fI) = some (.type "function")
  kC : keepIn K (.ref C) = true
  exC : subIn K (.ref C) (.type "BaseException") = some true
  tyC : typeIn K (.ref C) = some (.type "type")
  hdC : hasDictIn K C = true
  fn : ∃ (oc : Value) (od : Option Addr) (kV doc pm : Value) (an : Option Addr) (cdv ct : Value) (osl : Array (Option Value)) (p1 p2 q1 q2 q3 q4 : Pos),
    K.lookup fI = some ⟨oc, od, .func (fnOf "__init__" (cn ++ ".__init__") (iA f p1 p2) (iB f q1 q2 q3 q4) (iS f) .none kV doc pm an cdv ct), osl⟩ ∧ codeIn K cdv (cn ++ ".__init__") = true
theorem one_size (v : Value) : [v].length ≤ sizeLine := by
  rw [sizeLine_eq]
  exact (by decide : 1 ≤ 16777216)
theorem ldC {M : Model} {s : Shared} {name : Str} {scope : Scope} {L a : Addr} {cd : Value} {m : Str → Option Value} {x : Str} {pos : Pos} {v : Value} {Q : Value → Shared → Prop} {A : Around} {E : Value → Shared → Prop} (hn : s.heap.Ns L m) (hv : m x = some v) (h : Q v s)
    (hk : scope.kind = .function := by rfl) (hl : (envOfC name scope L a cd).kindOf x = some .local := by rfl) (hd : (x == ("__debug__" : Str)) = false := by decide) :
    wpAny M A (eval (.Name x pos) (envOfC name scope L a cd)) Q E s := wpAny_Name (wpAny_loadName_local hk hl hn hv h) hd
/-- what __init__ leaves of a fresh exception at x -/
structure InitEnd (h h' : Heap) (x C dx t1 : Addr) (f : Str) (v : Value) : Prop where
  keep : ∀ b o, b ≠ x → h.get? b = some o → h'.get? b = some o
  obj : h'.get? x = some { cls := .ref C, dict := some dx, data := .fields #[.ref t1, .none, .none, .none, .bool false, .none] }
  dbig : h.objs.size ≤ dx
  dne : dx ≠ x
  ns : h'.Ns1 dx (fun y => if y = f then some v else none)
/-- a made one -/
structure OwnMade (h h' : Heap) (e C d : Addr) (f : Str) (v : Value) : Prop where
  keep : ∀ b o, h.get? b = some o → h'.get? b = some o
  new : h.objs.size ≤ e
  obj : ∃ oe vs, h'.get? e = some oe ∧ oe.cls = .ref C ∧ oe.dict = some d ∧ oe.data = .fields vs ∧ vs[1]? = some .none
  dbig : h.objs.size ≤ d
  dne : d ≠ e
  ns : h'.Ns1 d (fun y => if y = f then some v else none)
section
variable {prog : Program} {w : World} {A : Around} {E : Value → Shared → Prop} {R : Result → Shared → Prop} {s : Shared} {K : Frag} {cn f : Str} {C B fI : Addr}
theorem err_init (T : ErrTxt K cn f C B fI) {x t0 : Addr} {v : Value} (X : K.In s.heap) (hlim : s.heap.NoLimit) (hx : s.heap.get? x = some (excO C t0)) (hroom : A.depth < recursionLimit)
    (hq : ∀ h' tk dx, InitEnd s.heap h' x C dx t0 f v → R (.ok (.ret .none)) { s with heap := h', toks := tk }) :
    codeAny (model prog w) A (.call (.ref fI) ⟨[.ref x, v], []⟩) R s := by
  obtain ⟨oc, od, kV, doc, pm, an, cdv, ct, osl, p1, p2, q1, q2, q3, q4, ho, hcd⟩ := T.fn
  obtain ⟨nm, q, N, bs, sn, sub, ab, col, dd, k0, k1, k2, k3, k5, hC⟩ := T.cls
  have hcl : clsIn K C = some { name := nm, bases := bs, mro := .ref C :: tailE B, ns := N, qualname := q, hasDict := true, slotNames := sn, subclasses := sub, abstract := ab, collection := col, hasDel := false } := by unfold clsIn; rw [hC] <;> rfl
  have hno := T.noN
  have hsa := T.sa
  have hfl := T.fld
  clear T
  rcases hfl with rfl | rfl
  all_goals
    refine Att.call_fn (binds := [("self", .ref x), (_, v)]) X hlim ho hcd hroom (BindsTo.of_eq (by first | rfl | with_unfolding_all rfl)) (by first | rfl | decide | with_unfolding_all rfl) (fun s₁ IC => ?_) rfl rfl rfl
    obtain ⟨h₁, tk₁, rfl⟩ := IC.toInCall.same
    have k : ∀ b o, s.heap.get? b = some o → h₁.get? b = some o := IC.toInCall.keep
    have hn := IC.toInCall.ns
    have hxL : s.heap.objs.size ≠ x := Nat.ne_of_gt (Heap.lt_size hx)
    have X₁ : K.In h₁ := X.keeps k
    have hx₁ := k _ _ hx
    show wpAny _ _ (execs _ _) _ _ _
    refine wpAny_execs_cons (plainObj_wpAny_Assign_Attribute ?_)
    refine ldC (v := v) hn (by first | rfl | with_unfolding_all rfl | kernel_rfl) (ldC (v := .ref x) hn (by first | rfl | with_unfolding_all rfl | kernel_rfl) ?_)
    refine set_plain X₁ (ox := excO C t0) (od := none) ⟨hx₁, rfl, rfl, trivial⟩ hsa ?_
    refine set_first X₁ hx₁ hcl rfl rfl hno (fun h₃ tk₃ dx k₃ dn dne hx₃ hn₃ => ?_)
    show wpAny _ _ (execs _ _) _ _ _
    have z : s.heap.objs.size < h₁.objs.size := hn.lt
    exact wpAny_execs_nil (hq h₃ tk₃ dx ⟨fun b o hb e => k₃ b o hb (k b o e), hx₃, Nat.le_of_lt (Nat.lt_of_lt_of_le z dn), dne, hn₃⟩)
theorem err_made (T : ErrTxt K cn f C B fI) {v : Value} (X : K.In s.heap) (hlim : s.heap.NoLimit) (hroom : A.depth + 1 < recursionLimit)
    (hq : ∀ h' tk e d, OwnMade s.heap h' e C d f v → R (.ok (.ret (.ref e))) { s with heap := h', toks := tk }) :
    codeAny (model prog w) A (.call (.ref C) ⟨[v], []⟩) R s := by
  obtain ⟨nm, q, N, bs, sn, sub, ab, col, dd, k0, k1, k2, k3, k5, hC⟩ := T.cls
  obtain ⟨hp, g, dr, tk, os⟩ := s
  have k : ∀ b o, hp.get? b = some o → ((hp.push (kdv_tup [v])).push (excO C hp.objs.size)).get? b = some o := fun b o e => Heap.get?_push_of_some _ (Heap.get?_push_of_some _ e)
  have hget : ((hp.push (kdv_tup [v])).push (excO C hp.objs.size)).get? (hp.objs.size + 1) = some (excO C hp.objs.size) := by heap_get
  refine call_own PySem.F.excBase_Exception (fun X => tailE_has B X) (X _ _ hC) (looks_findIn X T.iC) (fun self => bind_fn X self T.tC) (one_size v) ?_
  refine err_init (s := ⟨(hp.push (kdv_tup [v])).push (excO C hp.objs.size), g, dr, tk, os⟩) T (X.keeps k) (hlim.keeps k) hget ?_ fun h' tk' dx ⟨k', hx, dn, dne, hns⟩ => ?_
  · show A.depth + 1 < recursionLimit
    exact hroom
  · have old : ∀ b o, hp.get? b = some o → h'.get? b = some o := fun b o e => k' b o (Nat.ne_of_lt (Nat.lt_succ_of_lt (Heap.lt_size e))) (k b o e)
    have z : hp.objs.size + 1 + 1 ≤ dx := by
      first
        | (simpa only [Heap.size_push] using dn)
        | exact dn
        | (have q := dn; rw [Heap.size_push, Heap.size_push] at q; exact q)
    exact ⟨rfl, hq h' tk' (hp.objs.size + 1) dx ⟨old, Nat.le_succ _, ⟨_, _, hx, rfl, rfl, rfl, rfl⟩, Nat.le_trans (Nat.le_trans (Nat.le_succ _) (Nat.le_succ _)) z, dne, hns⟩⟩
end
theorem relO_one {f : Str} {v : V} {v' : Value} (r : RelV v v') (g : Str) : RelO (List.lookup g [(f, v)]) (if g = f then some v' else none) := by
  by_cases hw : g = f
  · subst hw
    rw [if_pos rfl]
    have q : List.lookup g [(g, v)] = some v := by simp [List.lookup]
    rw [q]
    exact r
  · rw [if_neg hw]
    have qw : (g == f) = false := by simpa using hw
    have q2 : List.lookup g [(f, v)] = none := by simp [List.lookup, qw]
    rw [q2]
    trivial
section
variable {X : Cx} {cn f : Str} {C B fI : Addr}
/-- C(e) -/
def tMkErr (C : Addr) (f : Str) (ta : TA) : L2.St → Hp → XK → Prop := fun σ H Q => ta σ H fun vs H1 => ∃ v, vs = [v] ∧ ∀ d, H1 d = none → Q (.ref C) (some d) (upd H1 d (.xd [(f, v)]))
theorem pmk_err {a : Expr} {ta : TA} {p pos : Pos} {k : Nat} (T : ErrTxt X.K cn f C B fI) (hr : Room k X.A) (ha : PA X [a] ta) (hg : Gl X cn) (gC : X.mg cn = some (.ref C)) (hdb : (cn == ("__debug__" : Str)) = false)
    (he : starEach (a :: []) X.env = (false, eval a X.env) :: starEach [] X.env) (hpl : (backTo pos (starEach [] X.env)).any (·.1) = false) :
    PMk X (.Call (.Name cn p) [a] [] pos) (tMkErr C f ta) := by
  intro pins s σ H Q I h
  refine wpAny_Call_Name_kw (ld_glob I hg gC ?_ hdb)
  refine PySem.W.callWith_K (h₀ := X.base) I.ok.mod.kin T.kC (thn (ha.run pos pins s σ H _ I h) fun us s1 hh => ?_) he hpl
  obtain ⟨vs, H1, I1, r1, v, ev, q1⟩ := hh
  subst ev
  refine ⟨I1.kIn, ?_⟩
  cases r1 with
  | cons rv rn =>
    rename_i v' us'
    cases rn
    show wpAny _ _ (call (.ref C) [v']) _ _ _
    have hlim := I1.nolimit
    obtain ⟨hp, g, dr, tk, os⟩ := s1
    refine wpAny_call (err_made T I1.kIn hlim (by have := hr.dp; omega) fun h' tk' e d M => ?_)
    show MkP X pins σ Q (.ref e) ⟨h', g, dr, tk', os⟩
    obtain ⟨oe, fv, hoe, hc, hd, hdat, h1⟩ := M.obj
    have hns := M.ns
    obtain ⟨G', g1, g2⟩ := restrict h' fun b => decide (b ≠ e)
    have gk : ∀ b, b ≠ e → G'.get? b = h'.get? b := fun b hb => g1 b (decide_eq_true hb)
    have ge : G'.get? e = none := g2 e (by simp)
    have old : ∀ b o, hp.get? b = some o → G'.get? b = some o := fun b o q => (gk b (Nat.ne_of_lt (Nat.lt_of_lt_of_le (Heap.lt_size q) M.new))).trans (M.keep b o q)
    have ob : ObjOk X.prog X.w (upd H1 d (.xd [(f, v)])) G' d (.xd [(f, v)]) :=
      ⟨_, hns.at (fun o q => (gk d M.dne).trans q), fun f => relO_one rv f⟩
    have J : Inv X pins σ (upd H1 d (.xd [(f, v)])) ⟨G', g, dr, tk', os⟩ := I1.laid (t' := tk') old M.dbig ob
    refine ⟨e, oe, fv, ⟨G', g, dr, tk', os⟩, _, .ref C, some d, rfl, J, fun b o q => ?_, ge, hoe, ⟨hc, hd⟩, hdat, h1, ?_, rfl, I1.bare, raises_own T.exC T.tyC, q1 d (I1.hok.fresh M.dbig)⟩
    · by_cases hb : b = e
      · have q' : G'.get? b = some o := q
        rw [hb, ge] at q'; cases q'
      · exact (gk b hb).symm.trans q
    · rw [upd_ne (Ne.symm M.dne)]
      exact I1.hok.fresh M.new
/-- e.f, e the exception that the suite holds (at a; its class cls, its dict d) -/
def tByErr (C : Addr) (f : Str) (a : Addr) (cls : Value) (d : Option Addr) (te : TE) : TE := fun σ H Q => te σ H fun x H1 => x = .ref a ∧ cls = .ref C ∧ ∃ (dd : Addr) (v : V), d = some dd ∧ H1 dd = some (.xd [(f, v)]) ∧ Q v H1
theorem pe_byErr {a : Addr} {oe : Obj} {cls : Value} {d : Option Addr} {pn : List (Addr × Obj)} {e : Expr} {te : TE} {pos : Pos} (T : ErrTxt X.K cn f C B fI) (hz : Zc cls d oe) (hf : ∃ vs, oe.data = .fields vs) (he : PE (X.suite a ((a, oe) :: pn)) e te)
    (hb : attributeBase e f X.env (eval e X.env) = eval e X.env) :
    PE (X.suite a ((a, oe) :: pn)) (.Attribute e f pos) (tByErr C f a cls d te) := by
  refine ⟨fun pins s σ H Q I h => ?_⟩
  refine attr_of hb (thn (he.run pins s σ H _ I h) fun u s1 hh => ?_)
  obtain ⟨x, H1, I1, rx, ex, ec, dd, v, ed, ea, q⟩ := hh
  subst ex
  obtain rfl : u = Value.ref a := rx
  subst ec
  subst ed
  obtain ⟨ha, _⟩ := I1.pin (a, oe) (List.mem_append_left _ List.mem_cons_self)
  obtain ⟨vs, hd⟩ := hf
  have hx : ObjOk X.prog X.w H1 s1.heap dd (.xd [(f, v)]) := I1.hok dd _ ea
  obtain ⟨mA, hns, hr⟩ := hx
  obtain ⟨od, ho, hl⟩ := lookIn_ns hns
  have l : List.lookup f [(f, v)] = some v := by simp [List.lookup]
  obtain ⟨u, hu, ru⟩ := RelO.some_of (v := v) (o := mA f) (by rw [← l]; exact hr f)
  have J : PySem.W.InstAt s1.heap a oe C (some od) := ⟨ha, hz.1, by unfold PySem.W.notCls; rw [hd] <;> rfl, by rw [hz.2]; exact ho⟩
  exact HandSPX.exc_get I1.kIn J T.ga T.gg T.exC (PySem.W.findObj_own T.hdC T.noN rfl (by rw [hl, hu])) (handed_of ru) ⟨v, H1, I1.tok _, ru, q⟩
end
end RX

set_option Elab.async false
set_option linter.all false
set_option maxRecDepth 100000
set_option maxHeartbeats 400000
/-! Part 13: dict comprehensions; raise. -/
namespace RF
open PySem PySem.Spec L2
/-! ### {k: v for ..} -/
def compD (tg : Tg) (tt : WT) (ek ev : WE) (σ : SI) : List PV → List (Key × PV) → PH → (List (Key × PV) → PH → Prop) → Prop
  | [], acc, hp, Q => Q acc hp
  | p :: ps, acc, hp, Q => ∃ σ', tg.go p σ = some σ' ∧ tt σ' hp eNo fun b h => if b = true then ek σ' h eNo fun y h1 => ev σ' h1 eNo fun z h2 => ∃ k, keyP y = some k ∧ acc.length < sizeLine ∧ compD tg tt ek ev σ ps (putP acc k z) h2 Q
    else compD tg tt ek ev σ ps acc h Q
theorem compD.mo {tg : Tg} {tt : WT} {ek ev : WE} {σ : SI} (mt : MoT tt) (mk : MoE ek) (mv : MoE ev) {Q Q' : List (Key × PV) → PH → Prop} (i : ∀ p h, Q p h → Q' p h) : ∀ (ps : List PV) (acc : List (Key × PV)) (hp : PH), compD tg tt ek ev σ ps acc hp Q → compD tg tt ek ev σ ps acc hp Q'
  | [], acc, hp, q => i _ _ q
  | p :: ps, acc, hp, ⟨σ', e, q⟩ => ⟨σ', e, mt _ _ _ _ _ (fun b h q => ite_mono (mk _ _ _ _ _ fun y h1 q => mv _ _ _ _ _ (fun z h2 ⟨k, e, l, q⟩ => ⟨k, e, l, compD.mo mt mk mv i ps _ h2 q⟩) q) (compD.mo mt mk mv i ps acc h) q) q⟩
def wDc (tg : Tg) (vs : List Nat) (it : WA) (tt : WT) (ek ev : WE) : WE := fun σ hp e Q => it σ hp e fun ps h => compD tg tt ek ev (wpI σ vs) ps [] h fun qs h2 => Q (.dct qs) h2
section
variable {X : Cx} {C : Cfg} {E : XK} {tge iter ke ve : Expr} {ifs : List Expr} {scope : Scope} {own : List (Str × Nat)} {tg : Tg} {it : WA} {tt : WT} {ek ev : WE} {pos : Pos}
theorem re_dc (hK : X.K = C.K) (hc : X.calm = true) (hN : X.N.Nodup) (hi : RI X C E tge iter it) (ok : blkC X.N X.env.scope scope own = true) (hv : ∀ i ∈ tg.ix, i ∈ own.map (·.2))
    (hg : ∀ s H Ca cl fp, TgIs (X.blk s H scope (compEnvC scope cl Ca X.env) fp) tge tg) (ht : ∀ s H Ca cl fp, RTs (X.blk s H scope (compEnvC scope cl Ca X.env) fp) C E0 ifs tt)
    (hk : ∀ s H Ca cl fp, RE (X.blk s H scope (compEnvC scope cl Ca X.env) fp) C E0 ke ek) (he : ∀ s H Ca cl fp, RE (X.blk s H scope (compEnvC scope cl Ca X.env) fp) C E0 ve ev)
    (hs : ∀ x, foldedSetIterable iter X.env x = pure x) : RE X C E (.DictComp ke ve [⟨tge, iter, ifs, 0⟩] scope pos) (wDc tg (own.map (·.2)) it tt ek ev) := by
  have mt : MoT tt := (ht X.s_0 X.H_0 0 [] []).mo
  have mk : MoE ek := (hk X.s_0 X.H_0 0 [] []).mo
  have mv : MoE ev := (he X.s_0 X.H_0 0 [] []).mo
  refine ⟨fun σ hp e Q Q' i q => hi.mo _ _ _ _ _ (fun ps h q => compD.mo mt mk mv (fun _ _ q => i _ _ q) _ _ _ q) q,
    PE.imp (PE.fz (pe_dc (g := tg.g X.K) hc hN hi.pi (blkOk_by ok) (fun s H Ca cl fp => TgIs.pg (X := X.blk s H scope (compEnvC scope cl Ca X.env) fp) hc hN (hg s H Ca cl fp)) (fun s H Ca cl fp => (ht s H Ca cl fp).pts) (fun s H Ca cl fp => (hk s H Ca cl fp).pe) (fun s H Ca cl fp => (he s H Ca cl fp).pe) hs))
      fun σ H Q ⟨μ, hp, σI, e, A, s, q⟩ => ?_⟩
  show tDc _ (tg.g X.K) _ _ _ _ _ _ _
  rw [hK]
  refine ⟨μ, hp, σI, e, A, s, hi.mo _ _ _ _ _ (fun ps h1 q1 μ1 H1 u1 r1 J W => ?_) q⟩
  intro D hD
  have hD0 : Fr H D := u1.fr (fr_none hD)
  have uD : Up μ1 H1 μ1 (upd H1 D (.dK [])) := Up.fresh hD
  refine ⟨fun i m H2 => m = ps.length - i ∧ i ≤ ps.length ∧ ∃ μ2 hp2 acc ys, Up μ1 H1 μ2 H2 ∧ HR C μ2 H2 hp2 ∧ D ∉ μ2 ∧ H2 D = some (.dK ys) ∧ RKs C.K μ2 H2 acc ys ∧ compD tg tt ek ev (wpI σI (own.map (·.2))) (ps.drop i) acc hp2 fun qs h2 => fE C μ H Q (.dct qs) h2,
    ⟨_, rfl, Nat.zero_le _, μ1, h1, [], [], uD, r1.fresh hD, r1.notin hD, upd_same, .nil, q1⟩, ?_⟩
  rintro i m H2 ⟨em, hi, μ2, hp2, acc, ys, u2, r2, nD, eD, rv, q2⟩
  by_cases hl : i < ps.length
  · rw [List.drop_eq_getElem_cons hl] at q2
    obtain ⟨σ', e3, q3⟩ := q2
    refine .inr ⟨W.go μ2 H2 i u2.weak hl, fun H' => ∃ m', m' < m ∧ m' = ps.length - (i + 1) ∧ i + 1 ≤ ps.length ∧ ∃ μ2 hp2 acc ys, Up μ1 H1 μ2 H' ∧ HR C μ2 H' hp2 ∧ D ∉ μ2 ∧ H' D = some (.dK ys) ∧ RKs C.K μ2 H' acc ys ∧ compD tg tt ek ev (wpI σI (own.map (·.2))) (ps.drop (i + 1)) acc hp2 fun qs h2 => fE C μ H Q (.dct qs) h2,
      fun H' z => z, fun x H' y => ?_⟩
    obtain ⟨rx, u3, keep⟩ := W.yl μ2 H2 i x H' _ u2.weak (List.getElem?_eq_getElem hl) y
    have sI := (((s.up u1).up u2).up u3).wipe (own.map (·.2))
    refine Tg.okB rx sI e3 fun σ4 s4 l4 n4 => ⟨?_, ?_⟩
    · rw [← wipe2 (σ := σ) (vs := own.map (·.2))]
      exact wipe_eq l4 fun j m => n4 j fun z => m (hv j z)
    · refine tT.go mt ⟨keep _ r2, eok0⟩ s4 q3 fun b h5 μ5 H5 q5 u5 A5 s5 => ?_
      have u25 := u3.trans u5
      obtain ⟨eD5, nD5⟩ := u25.notin eD rfl nD
      refine ite_mono (fun q5 => ?_) (fun q5 => ?_) q5
      · refine tE.go mk A5 s5 q5 fun yk h6 μ6 H6 vk q6 u6 A6 s6 r6 => ?_
        obtain ⟨eD6, nD6⟩ := u6.notin eD5 rfl nD5
        refine tE.go mv A6 s6 q6 fun yv h7 μ7 H7 vv ⟨k, ek7, l7, q7⟩ u7 A7 s7 r7 => ?_
        obtain ⟨eD7, nD7⟩ := u7.notin eD6 rfl nD6
        have rv7 := RKs.up ((u25.trans u6).trans u7) _ _ rv
        have e7 := keyP_V r6 ek7
        subst e7
        refine ⟨ys, k, rfl, eD7, by rw [rv7.length]; exact l7, ?_⟩
        exact ⟨_, (by omega : ps.length - (i + 1) < m), rfl, hl, μ7, h7, putP acc k yv, putK ys k vv, (((u2.trans u25).trans u6).trans u7).wrN (fr_none hD) eD7 rfl nD7, A7.hr.wrN eD7 rfl nD7, nD7, upd_same, RKs.up0 (Up0.wrN eD7 rfl) _ _ (rv7.put r7), q7⟩
      · exact ⟨_, (by omega : ps.length - (i + 1) < m), rfl, hl, μ5, h5, acc, ys, u2.trans u25, A5.hr, nD5, eD5, RKs.up u25 _ _ rv, q5⟩
  · have e1 : ps.drop i = [] := List.drop_of_length_le (by omega)
    rw [e1] at q2
    exact .inl ⟨W.st μ2 H2 i u2.weak (by omega), q2.lockD (u1.trans u2) hD0 r2 eD nD rv⟩
end

/-! ### raise -/
def wRaise (c : Str) (a : WA) : WS := fun σ hp e D => a σ hp e fun ps h => ∃ p, ps = [p] ∧ e c p h
theorem rs_raise {X : Cx} {C : Cfg} {E : XK} {a : Expr} {w : WA} {p pos pos2 : Pos} {k : Nat} {cn : Str} {B fI : Addr} (hc : X.calm = true) (T : RX.ErrTxt X.K cn (fldOf cn) (He.ga C.K cn) B fI) (gC : X.mg cn = some (.ref (He.ga C.K cn))) (hr : Room k X.A) (tk : Takes X (fun cls d _ H => E cls d H))
    (hg : Gl X cn) (ha : RA X C E [a] w) (hdb : (cn == ("__debug__" : Str)) = false) (he : starEach [a] X.env = (false, eval a X.env) :: starEach [] X.env) (hpl : (backTo pos (starEach [] X.env)).any (·.1) = false) :
    RS X C E (.Raise (some (.Call (.Name cn p) [a] [] pos)) none pos2) (wRaise cn w) := by
  refine ⟨fun σ hp e D D' l q => q, PS.imp (ps_raise hc tk (RX.pmk_err T hr ha.pa hg gC hdb he hpl)) fun D σ H ⟨μ, hp, σI, e, A, s, q⟩ => ?_⟩
  refine tA.go ha.mo A s q fun ps h1 μ1 H1 vs ⟨p, e1, q1⟩ u1 A1 s1 r1 => ?_
  subst e1
  obtain ⟨v, rfl, rv⟩ := r1.one
  refine ⟨v, rfl, fun d hd => ?_⟩
  have u2 : Up μ1 H1 μ1 (upd H1 d (.xd [(fldOf cn, v)])) := Up.fresh hd
  exact A1.eok cn p h1 μ1 _ d v u2 (A1.hr.fresh hd) upd_same (RV.up u2 _ _ rv) q1
end RF

set_option Elab.async false
set_option linter.all false
set_option maxRecDepth 100000
set_option maxHeartbeats 1000000
/-! Part X2: isinstance of a caught error that has its own dict; the same chain as the library's for one without. -/
namespace RX
open PySem PySem.Spec PySem.W PySem.Calls PyProof.Rows PySem.HandSPX L2
section
variable {prog : Program} {w : World} {A : Around} {E : Value → Shared → Prop} {s : Shared} {K : Frag} {x D : Addr} {ox od : Obj}
theorem cls_of_err {Q : Option Value → Shared → Prop} (C : ExcC K D) (X : K.In s.heap) (inst : InstAt s.heap x ox D (some od)) (fin : Q (some (.ref D)) { s with toks := s.toks + 1 }) :
    wpAny (model prog w) A (getAttr? (.ref x) "__class__") Q E s := by
  have there : (clsIn K D).isSome = true := by
    obtain ⟨cd, hc, _⟩ := any_some C.hd
    rw [hc]
    rfl
  have found := findObj_data (od := od) there C.ha C.hn C.ht
  obtain ⟨hp, gn, dr, tk, os⟩ := s
  have ty := inst.type (M := model prog w)
  have lga := looks_findIn (M := model prog w) X C.hg
  have lgt := looks_findIn (M := model prog w) X C.hk
  have fnd := looks_find (M := model prog w) X inst found
  have isB : Looks (model prog w) hp (isInstance (.ref x) (.type "BaseException")) true :=
    ty.andThen (looks_subIn X C.hs)
  have no1 : (Value.builtin "BaseException.__getattribute__" ==
      Value.builtin "object.__getattribute__") = false := by decide +kernel
  have no2 : (onTheHeap (Value.ref D) && Value.builtin "BaseException.__getattribute__" ==
      Value.builtin "object.__getattribute__") = false := by rw [no1]; rfl
  have no3 : (false && onTheHeap (Value.builtin "BaseException.__getattribute__")) = false :=
    rfl
  unfold getAttr?
  unfold getAttrBy? getAttrBy
  refine wpAny_bind (wpAny_mkText (wpAny_bind (wpAny_attempt (wpAny_holding (wpAny_bind (ty.at (wpAny_bind (lga.at ?_))))))))
  show wpAny _ _ (if (onTheHeap (Value.ref D) && Value.builtin "BaseException.__getattribute__" ==
    Value.builtin "object.__getattribute__") = true then _ else _) _ _ _
  rw [no2, if_neg Bool.false_ne_true]
  unfold getAttrByItsOwn
  unfold hookBefore
  refine wpAny_bind ?_
  rw [if_pos (show onTheHeap (Value.ref D) = true by rfl)]
  refine lgt.at ?_
  refine wpAny_bind (wpAny_attempt (wpAny_holding ?_))
  unfold callGetattribute
  rw [no3, if_neg Bool.false_ne_true]
  unfold boundAndCalled
  rw [PySem.F.excAttr_ValueError.ga.bind (Value.ref x)]
  refine wpAny_bind (wpAny_pure ?_)
  show wpAny _ _ (call (Value.builtin "BaseException.__getattribute__") [Value.ref x, .str "__class__" tk]) _ _ _
  refine wpAny_call (codeAny_call_builtin (PySem.F.excAttr_ValueError.ga).plain PySem.F.entry_bexc_ga ?_)
  refine @check_slot (model prog w) _ _ ⟨hp, gn, dr, tk + 1, os⟩ "BaseException.__getattribute__" "BaseException" "__getattribute__" (.ref x)
    [.str "__class__" tk] [] _ (by decide +kernel) (by decide +kernel) isB (PySem.F.args_bexc_ga (.ref x) (.str "__class__" tk)) ?_
  unfold Builtin.«object.__getattribute__»
  refine wpAny_bind (wpAny_of_eq (a := ((Value.ref x : Value), [Value.str "__class__" tk])) (by first | rfl | (simp only [slotArgs]; rfl)) ?_)
  refine wpAny_bind (wpAny_pure (wpAny_bind (ty.at (wpAny_bind (fnd.at ?_)))))
  show wpAny _ _ (holding [Value.builtin "object.__class__"]
    (call (.builtin "getset_descriptor.__get__") [.builtin "object.__class__", .ref x, .ref D]) >>= ret) _ _ _
  refine wpAny_bind (wpAny_holding (wpAny_call (class_get (s := ⟨hp, gn, dr, tk + 1, os⟩) (ox := ox) (od := some od) X inst C.hm ?_)))
  refine wpAny_pure ?_
  show wpAny _ _ (handedOut (.ref D)) _ _ _
  rw [handedOut_of (v := Value.ref D) rfl]
  first
    | exact wpAny_pure (wpAny_pure fin)
    | exact wpAny_pure fin
    | exact wpAny_pure (wpAny_bind (wpAny_pure (wpAny_pure fin)))
theorem kitx_err (C : ExcC K D) : KitX K (.ref x) (.ref D) (fun h => InstAt h x ox D (some od)) where
  ty := fun _ _ _ inst => inst.type
  it := fun _ h X _ => by
    obtain ⟨cd, hc, _⟩ := any_some C.hd
    unfold clsIn at hc
    split at hc
    · rename_i c1 d1 cd1 sl1 look
      intro A1 Q1 E1 s1 keep q
      unfold isType
      unfold loadHead
      refine wpAny_bind (wpAny_loadPart (keep _ _ (X _ _ look)) ?_)
      exact wpAny_pure q
    · cases hc
  ne := fun h tp dd its n sl X here => by
    obtain ⟨cd, hc, _⟩ := any_some C.hd
    cases q : (Value.ref D == .ref tp) with
    | false => rfl
    | true =>
      have e : D = tp := Value.ref.inj (beq_iff_eq.mp q)
      subst e
      unfold clsIn at hc
      split at hc
      · rename_i c1 d1 cd1 sl1 look
        cases (X _ _ look).symm.trans here
      · cases hc
  ca := fun X inst fin => cls_of_err C X inst fin
end
/-- isinstance(e, c), e the error that the suite holds, with its own dict -/
theorem call_isD {X : Cx} {a D dd : Addr} {oe : Obj} {pn : List (Addr × Obj)} {fs : List (Str × V)} (C : ExcC X.K D) (hz : Zc (.ref D) (some dd) oe) (hf : ∃ vs, oe.data = .fields vs) :
    CallR (X.suite a ((a, oe) :: pn)) (.builtin "isinstance") (fun xs H Q => H dd = some (.xd fs) ∧ rIsE X.K D a xs H Q) := by
  intro pins s σ H xs us Q I r ⟨hx, c, cv, b, e0, hcv, e, q⟩
  subst e0
  cases r with
  | cons rx rr =>
    cases rr with
    | cons rt rr =>
      cases rr
      cases rx
      have ec := hcv _ rt
      subst ec
      obtain ⟨hget, _⟩ := I.pin (a, oe) (List.mem_append_left _ List.mem_cons_self)
      obtain ⟨vs, hv⟩ := hf
      obtain ⟨mA, hns, hr⟩ := (show ObjOk X.prog X.w H s.heap dd (.xd fs) from I.hok dd _ hx)
      obtain ⟨od, ho, _⟩ := lookIn_ns hns
      have inst : InstAt s.heap a oe D (some od) := ⟨hget, hz.1, by unfold notCls; rw [hv] <;> rfl, by rw [hz.2]; exact ho⟩
      exact kia_one (kitx_err C) I.kIn inst e (fun z => nomatch z) fun tk => ⟨.bl b, H, I.kept (t' := tk) fun _ _ z => z, rfl, q⟩
end RX

set_option Elab.async false
set_option linter.all false
set_option maxRecDepth 100000
set_option maxHeartbeats 1000000
/-! Part L1: a lambda handed to a def that calls it, while nothing is being shown. -/
namespace RF
open PySem PySem.Spec L2
open PyProof.Rows (envOfC)
open L2
section
variable {C : Cfg} {μ μ' : List Addr} {H H1 H' : Hp} {hp : PH}
theorem Up.extN (e : LamX.ExtN H H1) : Up μ H μ H1 := ⟨fun _ _ h => h, fun a o s h => e a o h (stab_nt s), fun a ⟨o, h, n⟩ => ⟨o, e a o h n, n⟩, fun a o l h n => ⟨e a o h (lsd_nt l), n⟩, fun _ m => .inl m⟩
theorem HR.extN (r : HR C μ H hp) (e : LamX.ExtN H H1) (t : LamX.Tabs C.T H1) : HR C μ H1 hp := ⟨r.nd, fun a m => (Up.extN (μ := μ) e).dm a (r.lv a m), fun n c h => by
  obtain ⟨a, e1, e2⟩ := r.cell n c h
  refine ⟨a, e1, ?_⟩
  obtain ⟨o, h1, h2⟩ := e2.nt
  exact e2.up (Up.extN e) ((e a o h1 h2).trans h1.symm), t, r.xd.up0 (Up.extN e).weak, r.fl⟩
/-- more is known of what stands by -/
def Cfg.more (C : Cfg) (xs : List (Addr × Str × PV)) (cs : List (Addr × Str)) (sl : List (List (Option PV) × St)) : Cfg := { C with xs := xs, cs := cs, sl := sl }
theorem CellR.cfg {C' : Cfg} (hK : C'.K = C.K) {a : Addr} {c : Cell} (h : CellR C μ H a c) : CellR C' μ H a c := by
  cases c with
  | lst ps =>
    obtain ⟨vs, h1, h2⟩ := h
    exact ⟨vs, h1, by rw [hK]; exact h2⟩
  | dct ps =>
    obtain ⟨vs, h1, h2⟩ := h
    exact ⟨vs, h1, by rw [hK]; exact h2⟩
theorem HR.cfg {C' : Cfg} (hK : C'.K = C.K) (hT : C'.T = C.T) (r : HR C μ H hp) (x : XD C' μ H) : HR C' μ H hp := ⟨r.nd, r.lv, fun n c h => by
  obtain ⟨a, e1, e2⟩ := r.cell n c h
  exact ⟨a, e1, e2.cfg hK⟩, by rw [hT]; exact r.tabs, x, r.fl⟩
theorem SR.cfg {C' : Cfg} (hK : C'.K = C.K) {σI : SI} {σ : St} (s : SR C μ H σI σ) : SR C' μ H σI σ := ⟨s.len, fun i p e => by rw [hK]; exact s.get i p e⟩
/-- ends between two such -/
theorem fE.cfg {C' : Cfg} (hK : C'.K = C.K) (hT : C'.T = C.T) (x : XD C' μ H) {Q : VK} {p : PV} {h : PH} (q : fE C' μ H Q p h) : fE C μ H Q p h := fun μ' H' v u r rv => q μ' H' v u (r.cfg hK hT (x.up0 u.weak)) (by rw [hK]; exact rv)
theorem EOK.cfg {C' : Cfg} (hK : C'.K = C.K) (hT : C'.T = C.T) (x : XD C' μ H) {E : XK} {e : EI} (q : EOK C' E e μ H) : EOK C E e μ H := fun c p hp μ' H' d v u r xe rv ee => by
  have z := q c p hp μ' H' d v u (r.cfg hK hT (x.up0 u.weak)) xe (by rw [hK]; exact rv) ee
  rw [hK] at z
  exact z
end
/-- calling what stands in slot i -/
def wAct (f : Addr) (w : PH → EI → KI → Prop) : WE := fun σ hp e Q => σ[0]? = some (some (.ref f)) ∧ w hp e Q
section
variable {X : Cx} {pins : List (Addr × Obj)} {σ : L2.St} {H HZ : Hp} {s s1 : Shared}
open LamX in
theorem act_pe {CXg : CXT} {Eg : XK} {Ng : List Str} {qg : Str} {sg : Scope} {g f c' : Addr} {cdg pm ctv : Value} {params : Arguments} {body : Expr} {scope : Scope} {k : Nat} {a : Str} {pn : List (Addr × Obj)} {xe : Value → Shared → Prop} {Eb : XK} {tb : TE} {p1 p2 : Pos}
    (I : Inv X pins σ H s) (L : LamS X.env.scope scope) (hf : s.heap.get? f = some (PySem.W.kla_obj "<lambda>" (X.env.qual ++ "<lambda>") params body scope (cloFrom X.env.cells scope.names []) pm c' ctv)) (hfn : H f = none) (hfr : f ∉ frs X.stack)
    (hbind : bindArgs (PySem.W.kla_fn "<lambda>" (X.env.qual ++ "<lambda>") params body scope (cloFrom X.env.cells scope.names []) pm (.ref c') ctv) ⟨[], []⟩ = pure [])
    (tk : Takes ((cxOf CXg X.prog X.w X.K X.mg X.base Ng qg sg g cdg X.A X.stack s H Eg).tr pn xe) (fun cls d _ H => Eb cls d H)) (hG : Calm X.A) (room : Room (k + 1) (X.A.deeper (envOfC qg sg s.heap.objs.size g cdg)))
    (hb : ∀ (A : Around) (out : List Env) (s : Shared) (H : Hp), Calm A → Room k (A.deeper (lamEnv X scope s.heap.objs.size f c')) → PE (lamCx X A out s H Eb scope f c') body tb)
    (hN : Ng[0]? = some a) (hv : Vis sg a) (hd : (a == ("__debug__" : Str)) = false) (hcd : (a == ("__classdict__" : Str)) = false) :
    PE ((cxOf CXg X.prog X.w X.K X.mg X.base Ng qg sg g cdg X.A X.stack s H Eg).tr pn xe) (.Call (.Name a p1) [] [] p2)
      (fun σZ HZ Q => σZ[0]? = some (some (.ref f)) ∧ HZ c' = some (CodeO c' (X.env.qual ++ "<lambda>")) ∧ tb σ HZ Q) := by
  constructor
  rintro pz sZ σZ HZ Q IZ ⟨here, code, go⟩
  apply wpAny_Call_Name_kw
  refine thn ((pe_var (pos := p1) hN hv hd hcd).run pz sZ σZ HZ (fun v H2 => v = .ref f ∧ H2 = HZ) IZ ⟨.ref f, here, rfl, rfl⟩) ?_
  rintro u s1 ⟨v, H2, I1, r1, rfl, rfl⟩
  obtain rfl : u = Value.ref f := r1
  have obj := I1.base.keep f _ hf hfn hfr fun z => nomatch (show f ∈ ([] : List Addr) from z)
  refine PySem.W.callWith_F0 ⟨_, _, _, _, obj⟩ ?_
  have un : Un (frs X.stack) [] H H2 s.heap s1.heap := I1.base
  obtain ⟨⟨oc, vs, t, c1, c2, c3⟩, _, _⟩ := I1.hok c' _ code
  have run : codeAny (model X.prog X.w) (X.A.deeper (envOfC qg sg s.heap.objs.size g cdg)) (.call (.ref f) ⟨[], []⟩) (CR (L2.CX X.prog X.w) (envOfC qg sg s.heap.objs.size g cdg :: X.stack) X.prog X.w H2 s1 Q Eb) s1 := by
    refine PySem.W.kla_callFunE room.depth obj rfl L.co L.gen rfl ⟨c', oc, vs, t, rfl, c1, c2, c3⟩ ?_
    rw [hbind]
    refine wpAny_pure (wpAny_newFunctionEnv (fun y hy => (L.own y hy).2) (fun y hy => absurd hy (by simp)) (fun h2 hns same => ⟨I1.nolimit.fresh _ same, ?_⟩) L.kind)
    show codeAny _ _ (.expr body (lamEnv X scope s1.heap.objs.size f c')) _ _
    have keep : ∀ b o, s1.heap.get? b = some o → h2.get? b = some o :=
      fun b o e => same.extBut b o (Nat.ne_of_lt (Heap.lt_size e)) (Heap.get?_push_of_some _ e)
    have e0 : Env0 X.prog X.w X.K X.mg X.base (X.A.deeper (envOfC qg sg s.heap.objs.size g cdg)) (envOfC qg sg s.heap.objs.size g cdg :: X.stack) s1 H2 := I1.env0
    have J : Inv (lamCx X (X.A.deeper (envOfC qg sg s.heap.objs.size g cdg)) (envOfC qg sg s.heap.objs.size g cdg :: X.stack) s1 H2 Eb scope f c') [] σ H2
        { s1 with heap := h2, toks := s1.toks + ([] : List (Str × Value)).length } := lam_start2 I L e0 room.hd un hns keep
    refine PySem.W.kla_codeExpr (wpAny_mono ((hb (X.A.deeper (envOfC qg sg s.heap.objs.size g cdg)) (envOfC qg sg s.heap.objs.size g cdg :: X.stack) s1 H2 hG (room.deeper _)).run [] _ _ H2 Q J go) ?_ fun _ _ q => q)
    rintro v s' ⟨w', H', J', rv, q⟩
    exact ⟨w', H', J'.os, J'.bare, J'.base, J'.hok, rv, q⟩
  refine wpAny_call ?_
  refine codeAny_mono run ?_
  intro r s' z
  match r, z with
  | .error e, z => exact passes_call tk (fun _ _ _ _ q => q) pz σZ H2 s1 e s' I1 z
  | .ok (.ret u), z => exact I1.after z
end
end RF

set_option Elab.async false
set_option linter.all false
set_option maxRecDepth 100000
set_option maxHeartbeats 1000000
/-! Part L2: g(lambda: body); try .. except X as e; the caught error in the suite. -/
namespace RF
open PySem PySem.Spec L2
open PyProof.Rows (envOfC)
abbrev WL := PH → EI → KI → Prop
def MoL (w : WL) : Prop := ∀ hp e Q Q', (∀ p h, Q p h → Q' p h) → w hp e Q → w hp e Q'
/-- what the def makes of the lambda's meaning -/
abbrev BT := WL → PH → KI → Prop
def wLam (wl : WE) (bt : BT) : WE := fun σ hp e Q => bt (fun h e' Q' => wl σ h e' Q') hp Q
/-- the context of the def's body, entered from X -/
abbrev lamZ (X : Cx) (Ng : List Str) (x : Str) (sg : Scope) (g : Addr) (cdv : Value) (s : Shared) (H : Hp) : Cx := cxOf (L2.CX X.prog X.w) X.prog X.w X.K X.mg X.base Ng x sg g cdv X.A X.stack s H E0
section
variable {X : Cx} {C : Cfg} {E : XK}
open LamX in
theorem re_lam {x a : Str} {g c P : Addr} {k : Nat} {fd : FuncData} {pg : Arguments} {bg : List Stmt} {sg : Scope} {Ng : List Str} {params : Arguments} {body : Expr} {scope : Scope} {wl : WE} {bt : BT} {bw : Addr → WL → WS} {p lpos pos : Pos} {kws : List (Str × V)} {dvs : List V}
    (hK : X.K = C.K) (gl : Gl X x) (hm : X.mg x = some (.ref g)) (hk : PySem.W.keepIn X.K (.ref g) = true) (F : FunD X.K x x pg bg sg dvs kws g fd) (hb : Binds X.K fd [a] []) (Sg : FnScope Ng [a] sg) (hva : Vis sg a)
    (TB : TabB X.base X.mg c P) (hcode : X.env.code = .ref c) (hmT : (P, X.env.qual ++ "<lambda>") ∈ C.T) (hu : ∀ p ∈ C.T, p.1 = P → p.2 = X.env.qual ++ "<lambda>") (room : Room (k + 2) X.A) (hG : Calm X.A)
    (L : LamS X.env.scope scope) (hdef : defaultsOf params X.env = ([], []))
    (hbind : ∀ (q : Str) (cl : List (Str × Addr)) (pm cv ctv : Value), bindArgs (PySem.W.kla_fn "<lambda>" q params body scope cl pm cv ctv) ⟨[], []⟩ = pure [])
    (hbody : ∀ (A : Around) (out : List Env) (s : Shared) (H : Hp) (Eb : XK) (f c' : Addr), Calm A → Room k (A.deeper (lamEnv X scope s.heap.objs.size f c')) → RE (lamCx X A out s H Eb scope f c') C Eb body wl)
    (mbt : ∀ w hp Q Q', (∀ p h, Q p h → Q' p h) → bt w hp Q → bt w hp Q')
    (hbg : ∀ (cdv : Value) (s : Shared) (H : Hp) (f : Addr) (C' : Cfg) (w : WL), C'.K = C.K → MoL w →
      (∀ pn xe Eb p1 p2, Takes ((lamZ X Ng x sg g cdv s H).tr pn xe) (fun cls d _ H => Eb cls d H) → RE ((lamZ X Ng x sg g cdv s H).tr pn xe) C' Eb (.Call (.Name a p1) [] [] p2) (wAct f w)) →
      Calm (lamZ X Ng x sg g cdv s H).A → Room (k + 1) (lamZ X Ng x sg g cdv s H).A → RSs (lamZ X Ng x sg g cdv s H) C' E0 bg (bw f w))
    (hbt : ∀ f w hp Q, MoL w → bt w hp Q → bw f w (some (.ref f) :: List.replicate (Ng.length - 1) none) hp eNo { nx := fun _ h => ∃ h', leP h' h ∧ Q .non h', rt := fun p h => ∃ h', leP h' h ∧ Q p h' })
    (hdb : (x == ("__debug__" : Str)) = false) (hd : (a == ("__debug__" : Str)) = false) (hcd : (a == ("__classdict__" : Str)) = false) :
    RE X C E (.Call (.Name x p) [.Lambda params body scope lpos] [] pos) (wLam wl bt) := by
  obtain ⟨oc, od, dV, kV, doc, pm, an, cdv, ct, osl, rfl, look, code, _, _⟩ := F.ex
  have mwl : MoE wl := (hbody { X.A with guards := some [], handled := none, depth := 0, units := 0, frames := none } [] X.s_0 X.H_0 (fun _ _ _ => False) 0 0 rfl ⟨rfl, by
    have := room.dp
    show 0 + 1 + 3 * k + 5 < recursionLimit
    omega, by
    have := room.un
    show 0 + 3 + 16 * k + 200 < cLine
    omega⟩).mo
  refine ⟨fun σ hp e Q Q' i q => mbt _ _ _ _ i q, ⟨fun pins s σ H Q I h => ?_⟩⟩
  obtain ⟨μ, hp, σI, e, A, sr, q⟩ := h
  apply wpAny_Call_Name_kw
  refine ld_glob I gl hm ?_ hdb
  refine PySem.W.callWith_K (h₀ := X.base) I.ok.mod.kin hk ?_ (by rfl) (by rfl)
  show wpAny _ _ (spliced ((false, eval (.Lambda params body scope lpos) X.env) :: backTo pos (starEach [] X.env))) _ _ s
  refine Calls.spliced_cons (lam_make2 I TB hcode hmT hu A.hr.tabs hdef (L.has I.ok) ?_)
  intro f c' pm' ctv H1 s' I1 eN T1 hf hfn hfr hco
  refine Calls.spliced_nil ⟨I1.kIn, ?_⟩
  have u1 : Up μ H μ H1 := Up.extN eN
  have r1 := A.hr.extN eN T1
  let C' : Cfg := C.more C.xs ((c', X.env.qual ++ "<lambda>") :: C.cs) ((σI, σ) :: C.sl)
  have sr1 := sr.up u1
  have x0 : XD C μ H1 := r1.xd
  have x1 : XD C' μ H1 := ⟨x0.xs, fun z hz => by
    rcases List.mem_cons.mp hz with hz | hz
    · subst hz; exact hco
    · exact x0.cs z hz, fun z hz => by
    rcases List.mem_cons.mp hz with hz | hz
    · subst hz; exact ⟨sr1.len, sr1.get⟩
    · exact x0.sl z hz, x0.scr⟩
  have back : ∀ {μ2 : List Addr} {H2 : Hp}, XD C' μ2 H2 → XD C μ2 H2 := fun z => ⟨z.xs, fun q hq => z.cs q (List.mem_cons_of_mem _ hq), fun q hq => z.sl q (List.mem_cons_of_mem _ hq), z.scr⟩
  have r2 : HR C' μ H1 hp := HR.cfg (C := C) (C' := C') rfl rfl r1 x1
  have mw : MoL fun h e' Q' => wl σI h e' Q' := fun h e' Q1 Q2 i z => mwl _ _ _ _ _ i z
  have run : codeAny (model X.prog X.w) X.A (.call (.ref g) ⟨[.ref f], []⟩) (CR (L2.CX X.prog X.w) X.stack X.prog X.w H1 s' Q E0) s' := by
    refine run_ofS (N := Ng) (ps := [a]) (us := [.ref f]) (vs := [.ref f]) look code Sg room I1.env0 (hb s' [.ref f] I1.kIn rfl) (.cons rfl .nil) rfl fun room' => ?_
    have hNg : Ng[0]? = some a := by
      have z := Sg.pre
      cases Ng with
      | nil => cases z
      | cons n ns =>
        have z : n :: ([] : List Str) = [a] := z
        cases z
        rfl
    have R := hbg cdv s' H1 f C' (fun h e' Q' => wl σI h e' Q') rfl mw ?_ hG room'
    · refine ⟨_, R.ps, ?_⟩
      have ss : SR C' μ H1 (some (.ref f) :: List.replicate (Ng.length - 1) none) (L2.start Ng [.ref f]) := by
        have z := sr_start (C := C') (μ := μ) (H := H1) (N := Ng.length) (qs := [PV.ref f]) (vs := [V.ref f]) (.cons (by simp only [RV]) .nil)
        exact z
      refine tS.go R.mo ⟨r2, eok0⟩ ss (hbt f _ hp _ mw q) ⟨fun σ2 h2 q2 μ2 H2 σ3 u2 r3 s3 => ?_, fun p2 h2 q2 μ2 H2 v2 u2 r3 rv => ?_, fun _ _ z => z.elim, fun _ _ z => z.elim⟩
      · obtain ⟨h', l, q3⟩ := q2
        exact q3 μ2 H2 .non (u1.trans u2) ((HR.cfg (C := C') (C' := C) rfl rfl r3 (back r3.xd)).less l) .non'
      · obtain ⟨h', l, q3⟩ := q2
        exact q3 μ2 H2 v2 (u1.trans u2) ((HR.cfg (C := C') (C' := C) rfl rfl r3 (back r3.xd)).less l) rv
    · intro pn xe Eb p1 p2 tk
      have act := act_pe (p1 := p1) (p2 := p2) (tb := tE C Eb wl) I1 L hf hfn hfr (hbind _ _ _ _ _) tk hG room' (fun A out s H g rm => (hbody A out s H Eb f c' g rm).pe) hNg hva hd hcd
      refine ⟨fun σ hp e Q Q' i ⟨z1, z2⟩ => ⟨z1, mw _ _ _ _ i z2⟩, PE.imp act ?_⟩
      rintro σZ HZ QZ ⟨μZ, hZ, σZI, eZ, AZ, sZ, z1, z2⟩
      obtain ⟨v, z3, z4⟩ := sZ.get 0 _ z1
      rw [z4.refI] at z3
      have xs := AZ.hr.xd
      have hsl := xs.sl (σI, σ) (List.mem_cons_self ..)
      refine ⟨z3, xs.cs (c', _) (List.mem_cons_self ..), μZ, hZ, σI, eZ, ⟨?_, ?_⟩, ⟨hsl.1, hsl.2⟩, ?_⟩
      · exact HR.cfg (C := C') (C' := C) rfl rfl AZ.hr (back xs)
      · exact EOK.cfg (C := C) (C' := C') rfl rfl xs AZ.eok
      · exact mwl _ _ _ _ _ (fun p h q => fE.cfg (C := C) (C' := C') rfl rfl xs q) z2
  refine wpAny_call (codeAny_mono run ?_)
  intro r s2 z
  match r, z with
  | .error e, z => exact passes_call LamX.takes0 (fun _ _ _ _ q => q) pins σ H1 s' e s2 I1 z
  | .ok (.ret u), z => exact I1.after z
end
end RF

set_option Elab.async false
set_option linter.all false
set_option maxRecDepth 100000
set_option maxHeartbeats 1000000
/-! Part L3: try .. except X as e; the caught error in the suite. -/
namespace RF
open PySem PySem.Spec L2
def hEnd (i : Nat) (D : DI) : DI := { nx := fun σ h => D.nx (σ.set i none) h, rt := D.rt, bk := fun σ h => D.bk (σ.set i none) h, ct := fun σ h => D.ct (σ.set i none) h }
def wTry (errs : List Str) (n i : Nat) (wb : WS) (ws : Str → PV → Addr → WS) : WS := fun σ hp e D => ∃ (D0 : DI) (e0 : EI), D0.le D ∧ (∀ c p h, e0 c p h → c ∈ errs ∧ ∀ a, ws c p a ((List.replicate n none).set i (some (.ref a))) h eNo (hEnd i D0)) ∧ wb σ hp e0 D0
theorem SR.unset {C : Cfg} {μ : List Addr} {H : Hp} {σI : SI} {σ : St} (s : SR C μ H σI σ) (i : Nat) : SR C μ H (σI.set i none) (σ.set i none) := by
  refine ⟨by simpa using s.len, fun j p e => ?_⟩
  by_cases h : i = j
  · subst h
    by_cases hl : i < σI.length
    · rw [List.getElem?_set_self hl] at e
      cases e
    · rw [List.getElem?_eq_none (by simpa using hl)] at e
      cases e
  · rw [List.getElem?_set_ne h] at e ⊢
    exact s.get j p e
theorem sr_blank {C : Cfg} {μ : List Addr} {H : Hp} {n : Nat} {σ : St} (h : σ.length = n) : SR C μ H (List.replicate n none) σ := ⟨by simp [h], fun i p e => by
  rw [List.getElem?_replicate] at e
  split at e <;> cases e⟩
section
variable {X : Cx} {C : Cfg} {E : XK} {x n : Str} {c : Value} {i : Nat} {body suite : List Stmt} {b₀ : Stmt} {np pos pos' : Pos} {wb : WS} {ws : Str → PV → Addr → WS} {errs : List Str}
theorem rs_try (hK : X.K = C.K) (hs : X.stack = X.env :: X.outer) (hf : X.env.frame = some X.env.locals) (hN : X.N.Nodup) (hi : X.N[i]? = some n) (hln : X.env.kindOf n = some .local) (hc : Names X x c)
    (hte : ∀ cn ∈ errs, PySem.W.exmOne X.K (.ref (He.ga C.K cn)) c = some true)
    (hb : ∀ (pn : List (Addr × Obj)) (xe : Value → Shared → Prop) (Eb : XK), Takes (X.tr pn xe) (fun cls d _ H => Eb cls d H) → PassesOwn (model X.prog X.w) X.A X.env xe → RSs (X.tr pn xe) C Eb body wb)
    (hsu : ∀ cn ∈ errs, ∀ (p : PV) (a dd : Addr) (oe : Obj) (pn : List (Addr × Obj)), Zc (.ref (He.ga C.K cn)) (some dd) oe → (∃ vs, oe.data = .fields vs) → RSs (X.suite a ((a, oe) :: pn)) (C.more ((dd, fldOf cn, p) :: C.xs) C.cs C.sl) E0 (b₀ :: suite) (ws cn p a)) :
    RS X C E (.Try body [.ExceptHandler (some (.Name x np)) (some n) (b₀ :: suite) pos'] [] [] pos) (wTry errs X.N.length i wb ws) := by
  have mb : MoS wb := (hb [] (fun _ _ => False) E0 LamX.takes0 PassesOwn.never).mo
  refine ⟨fun σ hp e D D' l ⟨D0, e0, l0, he, q⟩ => ⟨D0, e0, l0.trans l, he, q⟩, PS.imp (ps_try_as (tb := fun W D σ H => ∃ Eb : XK, (∀ cls d σ' H', σ'.length = X.N.length → Eb cls d H' → W cls d σ' H') ∧ tS C Eb wb D σ H)
    (ts := fun a cls d D σ H => ∃ cn p dd, cn ∈ errs ∧ cls = .ref (He.ga C.K cn) ∧ d = some dd ∧ tS (C.more ((dd, fldOf cn, p) :: C.xs) C.cs C.sl) E0 (ws cn p a) D σ H) hs hf hN hi hln hc LamX.takes0 ?_ ?_) ?_⟩
  · intro W pn xe tk po
    refine ⟨fun pins s σ H D I ⟨Eb, hW, ht⟩ => (hb pn xe Eb ?_ po).ps.run pins s σ H D I ht⟩
    rintro u s' ⟨a, B, sI, pz, σ', H', cls, d, e1, I1, nb, up, sky, na, os, ag, w⟩
    exact tk u s' ⟨a, B, sI, pz, σ', H', cls, d, e1, I1, nb, up, sky, na, os, ag, hW _ _ _ _ I1.len w⟩
  · intro a oe cls d pn hz hd
    refine ⟨fun pins s σ H D I ⟨cn, p, dd, hm, e1, e2, ht⟩ => ?_⟩
    subst e1 e2
    exact (hsu cn hm p a dd oe pn hz hd).ps.run pins s σ H D I ht
  · rintro D σ H ⟨μ, hp, σI, e, A, s, D0, e0, l, he, q⟩
    refine ⟨fun cls d H' => ∀ σ' : St, σ'.length = X.N.length → wAs X.K c i (fun a cls d D σ H => ∃ cn p dd, cn ∈ errs ∧ cls = .ref (He.ga C.K cn) ∧ d = some dd ∧ tS (C.more ((dd, fldOf cn, p) :: C.xs) C.cs C.sl) E0 (ws cn p a) D σ H) (fun _ _ _ _ => False) D cls d σ' H',
      fun cls d σ' H' hl z => z σ' hl, μ, hp, σI, _, ⟨A.hr, ?_⟩, s, mb _ _ _ _ _ l q⟩
    rintro cn p hp' μ' H' d v u r xd rv z0 σ' hl
    obtain ⟨hm, hh⟩ := he _ _ _ z0
    refine ⟨true, hte cn hm, fun _ a na => ⟨cn, p, d, hm, rfl, rfl, μ', hp', (List.replicate X.N.length none).set i (some (.ref a)), eNo, ⟨?_, eok0⟩, ?_, ?_⟩, fun z => nomatch z⟩
    · refine HR.cfg (C := C) rfl rfl r ⟨fun z hz => ?_, r.xd.cs, r.xd.sl, r.xd.scr⟩
      rcases List.mem_cons.mp hz with hz | hz
      · subst hz
        exact ⟨v, xd, rv⟩
      · exact r.xd.xs z hz
    · exact (sr_blank hl).set (by simp only [RV])
    · have ms : MoS (ws cn p a) := (hsu cn hm p a d { cls := .ref (He.ga C.K cn), dict := some d, data := .fields #[] } [] ⟨rfl, rfl⟩ ⟨_, rfl⟩).mo
      have down : ∀ {μ2 : List Addr} {H2 : Hp} {h : PH}, HR (C.more ((d, fldOf cn, p) :: C.xs) C.cs C.sl) μ2 H2 h → HR C μ2 H2 h := fun z => HR.cfg (C := C.more ((d, fldOf cn, p) :: C.xs) C.cs C.sl) (C' := C) rfl rfl z ⟨fun q hq => z.xd.xs q (List.mem_cons_of_mem _ hq), z.xd.cs, z.xd.sl, z.xd.scr⟩
      have sdn : ∀ {μ2 : List Addr} {H2 : Hp} {σI : SI} {σ : St}, SR (C.more ((d, fldOf cn, p) :: C.xs) C.cs C.sl) μ2 H2 σI σ → SR C μ2 H2 σI σ := fun z => ⟨z.len, z.get⟩
      refine ms _ _ _ _ _ ⟨fun σ2 h2 q2 μ2 H2 σ3 u2 r3 s3 => ?_, fun p2 h2 q2 μ2 H2 v2 u2 r3 rv2 => ?_, fun σ2 h2 q2 μ2 H2 σ3 u2 r3 s3 => ?_, fun σ2 h2 q2 μ2 H2 σ3 u2 r3 s3 => ?_⟩ (hh a)
      · exact l.nx _ _ q2 μ2 H2 _ (u.trans u2) (down r3) ((sdn s3).unset i)
      · exact l.rt _ _ q2 μ2 H2 v2 (u.trans u2) (down r3) rv2
      · exact l.bk _ _ q2 μ2 H2 _ (u.trans u2) (down r3) ((sdn s3).unset i)
      · exact l.ct _ _ q2 μ2 H2 _ (u.trans u2) (down r3) ((sdn s3).unset i)
end
/-! ### e in the suite -/
def wEis (i : Nat) (a : Addr) (b : Bool) : WE := fun σ hp e Q => σ[i]? = some (some (.ref a)) ∧ Q (.bl b) hp
def wEth (i : Nat) (a : Addr) (f cn : Str) (p : PV) : WE := fun σ hp e Q => σ[i]? = some (some (.ref a)) ∧ f = fldOf cn ∧ Q p hp
section
variable {X : Cx} {C : Cfg} {E : XK} {n cn c2 : Str} {i : Nat} {a dd : Addr} {oe : Obj} {pn : List (Addr × Obj)} {p : PV} {p0 p1 p2 pos : Pos} {b : Bool} {f : Str}
theorem re_eis (hK : X.K = C.K) (hz : Zc (.ref (He.ga C.K cn)) (some dd) oe) (hd : ∃ vs, oe.data = .fields vs) (hx : (dd, fldOf cn, p) ∈ C.xs) (K1 : ExcC X.K (He.ga C.K cn)) (hk : PySem.W.kitOne X.K (.ref (He.ga C.K cn)) (.ref (He.ga C.K c2)) = some b)
    (gl : Gl (X.suite a ((a, oe) :: pn)) "isinstance") (hm : X.mg "isinstance" = none) (glc : Gl (X.suite a ((a, oe) :: pn)) c2) (hmc : X.mg c2 = some (.ref (He.ga C.K c2))) (hN : X.N[i]? = some n) (hv : Vis X.env.scope n)
    (d1 : (n == ("__debug__" : Str)) = false) (d2 : (n == ("__classdict__" : Str)) = false) (d3 : (c2 == ("__debug__" : Str)) = false)
    (he : starEach [Expr.Name n p1, .Name c2 p2] X.env = (false, eval (.Name n p1) X.env) :: starEach [.Name c2 p2] X.env) (he2 : starEach [Expr.Name c2 p2] X.env = (false, eval (.Name c2 p2) X.env) :: starEach [] X.env) (hpl : (backTo pos (starEach [Expr.Name c2 p2] X.env)).any (·.1) = false) :
    RE (X.suite a ((a, oe) :: pn)) C E (.Call (.Name "isinstance" p0) [.Name n p1, .Name c2 p2] [] pos) (wEis i a b) := by
  have hc : CallR (X.suite a ((a, oe) :: pn)) (.builtin "isinstance") (fun xs H Q => ∃ fs, H dd = some (.xd fs) ∧ rIsE X.K (He.ga C.K cn) a xs H Q) := by
    intro pins s σ H xs us Q I r ⟨fs, h⟩
    exact RX.call_isD (fs := fs) K1 hz hd pins s σ H xs us Q I r h
  refine ⟨fun σ hp e Q Q' j ⟨z, q⟩ => ⟨z, j _ _ q⟩, PE.imp (pe_callB (X := X.suite a ((a, oe) :: pn)) hc gl hm (by rfl) (pa_cons (pe_var (X := X.suite a ((a, oe) :: pn)) (i := i) hN hv d1 d2) (pa_cons (pe_glob (X := X.suite a ((a, oe) :: pn)) (v := .ref (He.ga C.K c2)) glc hmc rfl d3) pa_nil he2) he) (by decide) (by decide) he hpl) fun σ H Q ⟨μ, hp, σI, e, A, s, z, q⟩ => ?_⟩
  obtain ⟨v, h1, h2⟩ := s.get i _ z
  rw [h2.refI] at h1
  obtain ⟨w, hw, _⟩ := A.hr.xd.xs _ hx
  exact ⟨.ref a, h1, _, hw, .ref (He.ga C.K c2), .ref (He.ga C.K c2), b, rfl, fun u r => r, hk, q.here A .bl'⟩
theorem re_eth {B fI : Addr} (hK : X.K = C.K) (hz : Zc (.ref (He.ga C.K cn)) (some dd) oe) (hd : ∃ vs, oe.data = .fields vs) (hx : (dd, fldOf cn, p) ∈ C.xs) (T : RX.ErrTxt X.K cn (fldOf cn) (He.ga C.K cn) B fI)
    (hN : X.N[i]? = some n) (hv : Vis X.env.scope n) (d1 : (n == ("__debug__" : Str)) = false) (d2 : (n == ("__classdict__" : Str)) = false) (hb : attributeBase (.Name n p1) f X.env (eval (.Name n p1) X.env) = eval (.Name n p1) X.env) :
    RE (X.suite a ((a, oe) :: pn)) C E (.Attribute (.Name n p1) f pos) (wEth i a f cn p) := by
  refine ⟨fun σ hp e Q Q' j ⟨z, z2, q⟩ => ⟨z, z2, j _ _ q⟩, ⟨fun pins s σ H Q I ⟨μ, hp, σI, e, A, sr, z, ef, q⟩ => ?_⟩⟩
  subst ef
  obtain ⟨v, h1, h2⟩ := sr.get i _ z
  rw [h2.refI] at h1
  obtain ⟨w, hw, rw'⟩ := A.hr.xd.xs _ hx
  refine (RX.pe_byErr (pos := pos) T hz hd (pe_var (X := X.suite a ((a, oe) :: pn)) (pos := p1) (i := i) hN hv d1 d2) hb).run pins s σ H Q I ⟨.ref a, h1, rfl, rfl, dd, w, rfl, hw, q.here A rw'⟩
end
end RF

set_option Elab.async false
set_option linter.all false
set_option maxRecDepth 100000
set_option maxHeartbeats 1000000
/-! Part E1: the end of a law whose defs keep their promises while nothing is being shown; tables of code objects by the way. -/
namespace RF
open PySem PySem.Spec L2 PyProof.Rows LamX
/-- what is tracked at the law's call: the tables, the script (unless it is one of the module's own things) -/
def H0 (K : PySem.W.Frag) (cs : List (Addr × Addr)) (a : Addr) (vs : List Value) (ns : List Int) : Hp := fun b =>
  if b ∈ cs.map (·.2) then some (.tbl #[])
  else if b = a ∧ K.lookup a = none then some (.frz { cls := .type "list", data := .seq vs.toArray } (.lst (ns.map V.int))) else none
section
variable {P : Program} {w : World} {K : PySem.W.Frag} {mg mb : Str → Option Value} {k : Nat} {fa a : Addr} {cs : List (Addr × Addr)} {T : List (Addr × Str)} {fd : FuncData} {x : Str} {f : WF} {s1 : Shared} {vs : List Value} {ns : List Int}
theorem H0_tab {b : Addr} (h : b ∈ cs.map (·.2)) : H0 K cs a vs ns b = some (.tbl #[]) := if_pos h
theorem H0_cases (b : Addr) : (b ∈ cs.map (·.2) ∧ H0 K cs a vs ns b = some (.tbl #[])) ∨
    (b ∉ cs.map (·.2) ∧ b = a ∧ K.lookup a = none ∧ H0 K cs a vs ns b = some (.frz { cls := .type "list", data := .seq vs.toArray } (.lst (ns.map V.int)))) ∨
    (b ∉ cs.map (·.2) ∧ ¬ (b = a ∧ K.lookup a = none) ∧ H0 K cs a vs ns b = none) := by
  by_cases h : b ∈ cs.map (·.2)
  · exact .inl ⟨h, if_pos h⟩
  · by_cases h2 : b = a ∧ K.lookup a = none
    · exact .inr (.inl ⟨h, h2.1, h2.2, (if_neg h).trans (if_pos h2)⟩)
    · exact .inr (.inr ⟨h, h2, (if_neg h).trans (if_neg h2)⟩)
theorem law_goG (KX : K.In s1.heap) (hns : s1.heap.Ns mainGlobals mg) (hb : s1.heap.Ns builtinsNs mb) (hbb : ∀ x : Str, x ≠ "__name__" → mb x = bootBuiltins x) (hlim : s1.heap.NoLimit) (hg : s1.gens = #[])
    (hT : ∀ p ∈ cs, s1.heap.get? p.2 = some { cls := .none, data := .fields #[] }) (nT : ∀ p ∈ cs, K.lookup p.2 = none) (hC : ∀ p ∈ cs, PySem.W.CodeHd s1.heap p.1 p.2)
    (hbm : ∃ (bm : Addr) (ob : Obj), mg "__builtins__" = some (.ref bm) ∧ bm ≠ builtinsNs ∧ s1.heap.get? bm = some ob ∧ ob.cls = .type "module" ∧ ob.dict = some builtinsNs ∧ ob.data = .plain)
    (ha : s1.heap.get? a = some { cls := .type "list", data := .seq vs.toArray }) (hi : IntsAre vs ns) (hl : ns.length ≤ sizeLine) (room : Room k callerA) (hTq : ∀ p ∈ T, p.1 ∈ cs.map (·.2))
    (F : ∀ base : Heap, K.In base → base.Ns mainGlobals mg → (∀ p ∈ cs, TabB base mg p.1 p.2) → FnG P w K mg base k fa fd [x] (spI ⟨K, T, [], [], [], [(a, ns)]⟩ 1 f))
    (hbind : ∀ (s : Shared) (u : Value), BindsTo s fd ⟨[u], []⟩ [(x, u)])
    (hf : ∀ Q : KI, (∀ hp, Q (.bl true) hp) → f [.ref a] (fun _ => none) eNo Q) :
    codeAny (model P w) callerA (.call (.ref fa) ⟨[.ref a], []⟩) (fun r s' => r = .ok (.ret (.bool true)) ∧ OldK s1.heap s'.heap ∧ s'.os = s1.os ∧ AllBare s'.gens) s1 := by
  have rel := vals_ints hi
  have len := hi.length
  have tab : ∀ {b : Addr}, b ∈ cs.map (·.2) → ∃ p ∈ cs, p.2 = b ∧ s1.heap.get? b = some { cls := .none, data := .fields #[] } := fun {b} m => by
    obtain ⟨p, hp, rfl⟩ := List.mem_map.mp m
    exact ⟨p, hp, rfl, hT p hp⟩
  have notTab : a ∉ cs.map (·.2) := fun m => by
    obtain ⟨p, _, _, e⟩ := tab m
    have e := congrArg Obj.data (Option.some.inj (ha.symm.trans e))
    cases e
  generalize hH : H0 K cs a vs ns = H
  have cases3 := H0_cases (K := K) (cs := cs) (a := a) (vs := vs) (ns := ns)
  rw [hH] at cases3
  -- what has neither the data of a list nor those of an empty table is not tracked
  have plain : ∀ {b : Addr} {o : Obj}, s1.heap.get? b = some o → (∀ us n, o.data ≠ .seq us n) → o.data ≠ .fields #[] → H b = none := fun {b o} e d1 d2 => by
    rcases cases3 b with ⟨m, _⟩ | ⟨_, rfl, _, _⟩ | ⟨_, _, z⟩
    · obtain ⟨p, _, _, e'⟩ := tab m
      rw [e] at e'
      cases e'
      exact (d2 rfl).elim
    · rw [e] at ha
      cases ha
      exact (d1 _ _ rfl).elim
    · exact z
  have dicts : ∀ {b : Addr} {m : Str → Option Value}, s1.heap.Ns b m → (hidT s1.heap H).Ns b m := fun {b m} ⟨o, es, ep, e, d, r⟩ =>
    ⟨o, es, ep, hidT_get e (plain e (fun us n z => by rw [d] at z; cases z) fun z => by rw [d] at z; cases z), d, r⟩
  have inK : K.In (hidT s1.heap H) := fun b o look => hidT_get (KX b o look) (by
    rcases cases3 b with ⟨m, _⟩ | ⟨_, rfl, no, _⟩ | ⟨_, _, z⟩
    · obtain ⟨p, hp, rfl⟩ := List.mem_map.mp m
      rw [nT p hp] at look
      cases look
    · rw [no] at look
      cases look
    · exact z)
  have mod : L2.Mod K mg (hidT s1.heap H) := ⟨inK, dicts hns, ⟨mb, dicts hb, hbb⟩, by
    obtain ⟨mc, c1, c2⟩ := hlim
    exact ⟨mc, dicts c1, c2⟩⟩
  have tabs : ∀ p ∈ cs, TabB (hidT s1.heap H) mg p.1 p.2 := fun p hp => by
    have here := hT p hp
    refine ⟨?_, ?_, fun z => ?_⟩
    · obtain ⟨o, us, file, tf, flags, tg, inF, text, tt, e1, r1, r2, r3, rest⟩ := hC p hp
      refine ⟨o, us, file, tf, flags, tg, inF, text, tt, hidT_get e1 (plain e1 (fun us n z => ?_) fun z => ?_), r1, r2, r3, rest⟩
      · rw [r2] at z
        cases z
      · rw [r2] at z
        cases z
        simp at r3
    · obtain ⟨bm, ob, b1, b2, b3, b4, b5, b6⟩ := hbm
      refine ⟨bm, ob, b1, b2, fun q => ?_, fun q => ?_, hidT_get b3 (plain b3 (fun us n z => by rw [b6] at z; cases z) fun z => by rw [b6] at z; cases z), b4, b5, b6⟩
      · obtain ⟨o, es, ep, e, hd, _⟩ := hns
        rw [← q, b3] at e
        cases e
        rw [b6] at hd
        cases hd
      · rw [q, here] at b3
        cases b3
        cases b6
    · obtain ⟨o, es, ep, e, hd, _⟩ := hns
      rw [z, here] at e
      cases e
      cases hd
  have hok : HOk P w H s1.heap := fun b u e => by
    rcases cases3 b with ⟨m, z⟩ | ⟨_, rfl, _, z⟩ | ⟨_, _, z⟩
    · rw [e] at z
      cases z
      obtain ⟨_, _, _, e'⟩ := tab m
      exact e'
    · rw [e] at z
      cases z
      exact ⟨ha, by rw [List.length_map]; exact hl, vs, _, rel, ha⟩
    · rw [e] at z
      cases z
  have scr : StL K H a (ns.map V.int) := by
    cases look : K.lookup a with
    | none =>
      rcases cases3 a with ⟨m, _⟩ | ⟨_, _, _, z⟩ | ⟨_, no, _⟩
      · exact absurd m notTab
      · exact .inl ⟨_, z⟩
      · exact absurd ⟨rfl, look⟩ no
    | some o =>
      have e := KX a o look
      rw [ha] at e
      cases e
      exact .inr fun H' => .inr ⟨_, vs.toArray, _, look, rfl, rfl, rfl, by rw [List.size_toArray, len]; exact hl, by simpa using rel⟩
  have e0 : Env0 P w K mg (hidT s1.heap H) callerA [] s1 H := ⟨rfl, mod, fun b o e => of_hidT e, Nat.le_of_eq (hidT_size _ _), trivial, fun b hb => absurd hb List.not_mem_nil, hok, .of_eq hg⟩
  have hr : HR ⟨K, T, [], [], [], [(a, ns)]⟩ [] H (fun _ => none) := ⟨List.nodup_nil, fun _ m => absurd m List.not_mem_nil, fun n c e => (nomatch (show (none : Option Cell) = some c from e)),
    fun p hp => TabS.nil (by
      have m := hTq p hp
      rcases cases3 p.1 with ⟨_, z⟩ | ⟨no, _⟩ | ⟨no, _⟩
      · exact z
      · exact absurd m no
      · exact absurd m no),
    ⟨fun q hq => absurd hq List.not_mem_nil, fun q hq => absurd hq List.not_mem_nil, fun q hq => absurd hq List.not_mem_nil, fun q hq => by
      cases List.mem_singleton.mp hq
      exact scr⟩, fun n c e => (nomatch (show (none : Option Cell) = some c from e))⟩
  have sp : spI ⟨K, T, [], [], [], [(a, ns)]⟩ 1 f [V.ref a] H (fun v _ => v = .bl true) E0 :=
    ⟨rfl, [], fun _ => none, [.ref a], eNo, ⟨hr, eok0⟩, .cons (by simp only [RV]) .nil, hf _ fun hp μ' H' v u r rv => rv.blI⟩
  refine codeAny_mono ((F _ inK (dicts hns) tabs).go callerA [] s1 H ⟨[.ref a], []⟩ [.ref a] [.ref a] _ _ rfl room e0 (hbind s1 (.ref a)) (.cons rfl .nil) sp) ?_
  intro r s' z
  match r, z with
  | .error e, z =>
    obtain ⟨_, _, _, _, _, _, _, _, _, _, _, _, no⟩ := (show L2.CX P w [] H s1 E0 e s' from z)
    exact no.elim
  | .ok (.ret u), ⟨v, H', os, bare, un, hok', rv, q⟩ =>
    have q : v = .bl true := q
    subst q
    obtain rfl : u = Value.bool true := rv
    have key : ∀ b o, b ∉ cs.map (·.2) → s1.heap.get? b = some o → s'.heap.get? b = some o := fun b o nb e => by
      rcases cases3 b with ⟨m, _⟩ | ⟨_, rfl, _, z⟩ | ⟨_, _, z⟩
      · exact absurd m nb
      · have z2 := un.frzs _ _ _ z
        obtain ⟨e1, _⟩ := hok _ _ z
        obtain ⟨e2, _⟩ := hok' _ _ z2
        rw [e] at e1
        cases e1
        exact e2
      · exact un.keep b o e z (fun m => absurd m List.not_mem_nil) List.not_mem_nil
    have more : ∀ b, b ∈ cs.map (·.2) → ∃ more : Array Value, s'.heap.get? b = some { cls := .none, data := .fields more } := fun b m => by
      obtain ⟨more, z⟩ := un.tbls b #[] (by
        rcases cases3 b with ⟨_, z⟩ | ⟨no, _⟩ | ⟨no, _⟩
        · exact z
        · exact absurd m no
        · exact absurd m no)
      exact ⟨_, hok' b _ z⟩
    refine ⟨rfl, ⟨fun b o e => ?_, fun b o e => ?_⟩, os, bare⟩
    · by_cases m : b ∈ cs.map (·.2)
      · obtain ⟨ps, hm⟩ := more b m
        obtain ⟨p, hp, rfl, e'⟩ := tab m
        rw [e'] at e
        cases e
        exact .inr (.inl ⟨((hC p hp).tab (hT p hp)).isCodeTable, rfl, #[], ps, rfl, by rw [Array.empty_append]; exact hm⟩)
      · exact .inl (key b o m e)
    · by_cases m : b ∈ cs.map (·.2)
      · obtain ⟨ps, hm⟩ := more b m
        exact ⟨_, hm⟩
      · exact ⟨o, key b o m e⟩
end
end RF

set_option Elab.async false
set_option linter.all false
set_option maxRecDepth 100000
set_option maxHeartbeats 1000000
/-! Part H1: what the head tells: facts of the module's objects, the tables of code objects, own errors. -/
namespace RH
open PySem PySem.Spec PySem.W PyProof.Rows L2
/-- an empty table -/
def isT : Option Obj → Bool
  | some ⟨.none, none, .fields us, sl⟩ => us.isEmpty && sl.isEmpty
  | _ => false
theorem isT_ok {o : Option Obj} (h : isT o = true) : o = some { cls := .none, data := .fields #[] } := by
  unfold isT at h
  split at h
  · rename_i us sl
    obtain ⟨h1, h2⟩ := Bool.and_eq_true_iff.mp h
    rw [Array.isEmpty_iff.mp h1, Array.isEmpty_iff.mp h2]
  · cases h
def codeAd (K : Frag) (x : Str) : Addr := match K.lookup (He.ga K x) with
  | some ⟨_, _, .func fd, _⟩ => (match fd.code with
    | .ref c => c
    | _ => 0)
  | _ => 0
def tabAd (K : Frag) (x : Str) : Addr := match K.lookup (codeAd K x) with
  | some ⟨_, _, .fields vs, _⟩ => (match (vs[11]? : Option Value) with
    | some (.ref P) => P
    | _ => 0)
  | _ => 0
def kR (n : Nat) (g : Addr → Option Obj) : Frag := He.frG g (sysModules :: (He.asD g n).filter fun a => !isT (g a))
def tabB (g : Addr → Option Obj) (K : Frag) (x : Str) : Bool := isT (g (tabAd K x)) && ((K.lookup (tabAd K x)).isNone && codeHdIn K (codeAd K x) (tabAd K x))
def obsR (n : Nat) (fs : List (Frag → Bool)) (fn : List He.DefD) (ls : List Str) (g : Addr → Option Obj) : He.AlD :=
  ((fs.all fun f => f (kR n g)) && ((fn.all fun d => d.ok (kR n g)) && ls.all fun x => tabB g (kR n g) x), fn.map fun d => He.fnW (kR n g) d.at_)
structure Says (fs : List (Frag → Bool)) (fn : List He.DefD) (ls : List Str) (K : Frag) (h : Heap) : Prop where
  kin : K.In h
  fac : ∀ f ∈ fs, f K = true
  def_ : ∀ d ∈ fn, ∃ fd, FunD K d.name d.qual d.params d.body d.scope (d.dvs K) (d.kws K) (He.fAd K d.at_) fd
  kp : ∀ d ∈ fn, PySem.W.keepIn K (.ref (He.fAd K d.at_)) = true
  tab : ∀ x ∈ ls, h.get? (tabAd K x) = some { cls := .none, data := .fields #[] } ∧ K.lookup (tabAd K x) = none ∧ CodeHd h (codeAd K x) (tabAd K x)
theorem says_of {n : Nat} {fs : List (Frag → Bool)} {fn : List He.DefD} {ls : List Str} {h : Heap} (e : obsR n fs fn ls h.get? = He.valD fn) : Says fs fn ls (kR n h.get?) h := by
  have e1 := congrArg (fun z : He.AlD => z.1) e
  have e2 : fn.map (fun d => He.fnW (kR n h.get?) d.at_) = fn.map He.DefD.val := congrArg (fun z : He.AlD => z.2) e
  have e1 : ((fs.all fun f => f (kR n h.get?)) && ((fn.all fun d => d.ok (kR n h.get?)) && ls.all fun x => tabB h.get? (kR n h.get?) x)) = true := e1
  obtain ⟨a1, a2⟩ := Bool.and_eq_true_iff.mp e1
  obtain ⟨a3, a4⟩ := Bool.and_eq_true_iff.mp a2
  have kin : (kR n h.get?).In h := He.frG_in
  have oks := List.all_eq_true.mp a3
  refine ⟨kin, List.all_eq_true.mp a1, fun d hd => ?_, fun d hd => ?_, fun x hx => ?_⟩
  · exact He.DefD.funD ((List.map_inj_left.mp e2) d hd) (oks d hd)
  · exact (Bool.and_eq_true_iff.mp (oks d hd)).1
  · obtain ⟨b1, b2⟩ := Bool.and_eq_true_iff.mp (List.all_eq_true.mp a4 x hx)
    obtain ⟨b3, b4⟩ := Bool.and_eq_true_iff.mp b2
    exact ⟨isT_ok b1, Option.isNone_iff_eq_none.mp b3, codeHd_of_K kin b4⟩
def hookR (n : Nat) (fs : List (Frag → Bool)) (fn : List He.DefD) (ls : List Str) : Hook where
  α := He.AlD
  obs := fun s => obsR n fs fn ls s.heap.get?
  val := fun _ => He.valD fn
  says := fun _ h => ∃ K : Frag, Says fs fn ls K h
  of := fun _ _ e => ⟨_, says_of e⟩
  keeps := fun _ _ _ ⟨K, S⟩ k => ⟨K, PySem.W.Frag.In.keeps S.kin k, S.fac, S.def_, S.kp, fun x hx => by
    obtain ⟨t1, t2, t3⟩ := S.tab x hx
    exact ⟨k _ _ t1, t2, t3.keeps k⟩⟩
theorem obsR_eq {n : Nat} {fs : List (Frag → Bool)} {fn : List He.DefD} {ls : List Str} {g : Addr → Option Obj} {s : Shared} (h : ∀ a, g a = s.heap.get? a) : obsR n fs fn ls g = (hookR n fs fn ls).obs s := by
  have e : g = s.heap.get? := funext h
  rw [e] <;> rfl
/-! ### facts -/
def fGlo (x : Str) (K : Frag) : Bool := (He.Fa.glo x).ok K
def fFree (x : Str) (K : Frag) : Bool := (He.Fa.free x).ok K
def fInt (x : Str) (i : Int) (K : Frag) : Bool := (He.Fa.int x i).ok K
def fStr (x z : Str) (K : Frag) : Bool := (He.Fa.str x z).ok K
def fTup (x : Str) (vs : List He.Dv) (K : Frag) : Bool := He.tupB K x vs
def errObj (K : Frag) (C B : Addr) : Bool := match K.lookup C with
  | some ⟨.type t, _, .cls cd, sl⟩ => t == "type" && (match cd.mro, sl.toList with
    | .ref C' :: .ref B' :: r, [_, _, _, _, some (.builtin n), _] => C' == C && (B' == B && (r == PySem.ESX.exTail && (n == "Exception.__new__" && (!cd.hasDel && cd.hasDict))))
    | _, _ => false)
  | _ => false
theorem errObj_ok {K : Frag} {C B : Addr} (h : errObj K C B = true) : ∃ nm q N bs sn sub ab col dd k0 k1 k2 k3 k5, K.lookup C = some (PySem.excClassObj nm q C N bs (RX.tailE B) true sn sub ab col dd k0 k1 k2 k3 k5 "Exception.__new__") := by
  unfold errObj at h
  split at h
  · rename_i t dd cd sl look
    obtain ⟨ht, h⟩ := Bool.and_eq_true_iff.mp h
    split at h
    · rename_i C' B' r k0 k1 k2 k3 n k5 hm hs
      simp only [Bool.and_eq_true, beq_iff_eq, Bool.not_eq_true'] at h ht
      obtain ⟨rfl, rfl, rfl, rfl, hdel, hdct⟩ := h
      subst ht
      obtain ⟨nm, bs, mro, ns, qn, hd, sn, sub, ab, col, del⟩ := cd
      dsimp only at hm hdel hdct
      subst hm hdel hdct
      have e : sl = #[k0, k1, k2, k3, some (.builtin "Exception.__new__"), k5] := by
        apply Array.toList_inj.mp
        rw [hs]
      subst e
      exact ⟨nm, qn, ns, bs, sn, sub, ab, col, dd, k0, k1, k2, k3, k5, look⟩
    · cases h
  · cases h
def initAd (K : Frag) (cn : Str) : Addr := He.ma K (He.ga K cn) "__init__"
def fErr (cn f base : Str) (K : Frag) : Bool :=
  let C := He.ga K cn
  He.eqO (nsIn K mainGlobals cn) (some (some (.ref C))) && (errObj K C (He.ga K base) && (He.eqO (findIn K (.ref C) "__setattr__") (some (some (.builtin "object.__setattr__"))) &&
    (He.eqO (findIn K (.ref C) "__getattribute__") (some (some (.builtin "BaseException.__getattribute__"))) && (He.eqO (findIn K (.ref C) "__getattr__") (some none) && (He.eqO (findIn K (.ref C) f) (some none) &&
    (He.eqO (findIn K (.ref C) "__init__") (some (some (.ref (initAd K cn)))) && (decide (typeIn K (.ref (initAd K cn)) = some (.type "function")) && (keepIn K (.ref C) && (decide (subIn K (.ref C) (.type "BaseException") = some true) &&
    (decide (typeIn K (.ref C) = some (.type "type")) && (hasDictIn K C && (He.eqO (findIn K (.ref C) "__class__") (some (some (.builtin "object.__class__"))) &&
    (He.eqO (specialIn K (.builtin "object.__class__") "__get__") (some (some (.builtin "getset_descriptor.__get__"))) && (decide (takesIn K (.builtin "object.__class__") = some true) &&
    (decide (mroIn K C (.type "object") = some true) && decide (exmOne K (.ref C) (.ref (He.ga K base)) = some true))))))))))))))))
def fKit (x y : Str) (b : Bool) (K : Frag) : Bool := decide (kitOne K (.ref (He.ga K x)) (.ref (He.ga K y)) = some b)
/-- the table of modules is in the written part -/
def fSys (K : Frag) : Bool := (K.lookup sysModules).isSome
/-- what is known of an error's class -/
structure ErrAll (K : Frag) (cn f base : Str) : Prop where
  g : nsIn K mainGlobals cn = some (some (.ref (He.ga K cn)))
  txt : RX.ErrTxt K cn f (He.ga K cn) (He.ga K base) (initAd K cn)
  isC : ExcC K (He.ga K cn)
  exm : exmOne K (.ref (He.ga K cn)) (.ref (He.ga K base)) = some true
theorem err_ok {K : Frag} {cn f base : Str} (h : fErr cn f base K = true) (hf : f = ("thing" : Str) ∨ f = ("at" : Str)) {p1 p2 q1 q2 q3 q4 : Pos} {fd : FuncData} {dvs : List V} {kws : List (Str × V)} (hd : dvs = [])
    (F : FunD K "__init__" (cn ++ ".__init__") (RX.iA f p1 p2) (RX.iB f q1 q2 q3 q4) (RX.iS f) dvs kws (initAd K cn) fd) : ErrAll K cn f base := by
  unfold fErr at h
  simp only [Bool.and_eq_true, decide_eq_true_eq] at h
  obtain ⟨h1, h2, h3, h4, h5, h6, h7, h8, h9, h10, h11, h12, h13, h14, h15, h16, h17⟩ := h
  obtain ⟨oc, od, dV, kV, doc, pm, an, cdv, ct, osl, rfl, look, code, hD, hK⟩ := F.ex
  subst hd
  have eD : dV = .none := by
    rcases hD with ⟨_, e⟩ | ⟨e, _⟩
    · exact e
    · exact absurd rfl e
  subst eD
  exact ⟨He.eqO_ok h1, ⟨hf, errObj_ok h2, He.eqO_ok h3, He.eqO_ok h4, He.eqO_ok h5, He.eqO_ok h6, He.eqO_ok h7, h8, h9, h10, h11, h12, ⟨oc, od, kV, doc, pm, an, cdv, ct, osl, p1, p2, q1, q2, q3, q4, look, code⟩⟩,
    ⟨He.eqO_ok h4, He.eqO_ok h5, h10, h12, He.eqO_ok h13, He.eqO_ok h14, h15, h16⟩, h17⟩
end RH

set_option Elab.async false
set_option linter.all false
set_option maxRecDepth 100000
set_option maxHeartbeats 1000000
/-! Part D1: list * int, the script's slice, keyword calls, a def as a bundle. -/
namespace RF
open PySem PySem.Spec L2

/-! ### [..] * k, the list new -/
def gRep : G2 := fun p q hp Q => ∃ n xs k, p = .loc n ∧ q = .int k ∧ hp n = some (.lst xs) ∧ -(2 ^ 63) ≤ k ∧ k < 2 ^ 63 ∧ xs.length * k.toNat ≤ sizeLine ∧ Q (.lst (List.replicate k.toNat xs).flatten) (drp hp n)
theorem RVs.rep {K : PySem.W.Frag} {μ : List Addr} {H : Hp} {ps : List PV} {vs : List V} (r : RVs K μ H ps vs) : ∀ n : Nat, RVs K μ H (List.replicate n ps).flatten (List.replicate n vs).flatten
  | 0 => .nil
  | n + 1 => by
    rw [List.replicate_succ, List.replicate_succ, List.flatten_cons, List.flatten_cons]
    exact r.append (r.rep n)
theorem l_rep {C : Cfg} : LOp C rRep gRep where
  mo := fun p q hp Q Q' i ⟨n, xs, k, h1, h2, h3, h4, h5, h6, h⟩ => ⟨n, xs, k, h1, h2, h3, h4, h5, h6, i _ _ h⟩
  ok := fun μ H hp p q v u Q r rp rq ⟨n, xs, k, h1, h2, h3, h4, h5, h6, h⟩ => by
    subst h1 h2
    obtain ⟨a, vs, rfl, e2, e3, e4⟩ := loc_lst r rp h3
    exact ⟨a, k, vs, rfl, rq.intI, e3, h4, h5, by rw [e4.length]; exact h6, fun p np => fE.newL h r.drp (e4.rep _) np⟩

/-! ### script[:k] -/
def wScr (C : Cfg) (a : WE) (hi : WO) : WE := fun σ hp e Q => a σ hp e fun p h => hi σ h e fun u h2 => ∃ b ns, p = .ref b ∧ (b, ns) ∈ C.scr ∧ Q (.lst (cutP (ns.map PV.int) none u)) h2
theorem re_scr {X : Cx} {C : Cfg} {E : XK} {x : Expr} {wa : WE} {hi : Option Expr} {wh : WO} {p2 pos : Pos} (hK : X.K = C.K) (ha : RE X C E x wa) (hh : RO X C E hi wh) : RE X C E (.Subscript x (.Slice none hi none p2) pos) (wScr C wa wh) := by
  refine ⟨fun σ hp e Q Q' i q => ha.mo _ _ _ _ _ (fun p h q => hh.mo _ _ _ _ _ (fun u h ⟨b, ns, h1, h2, q⟩ => ⟨b, ns, h1, h2, i _ _ q⟩) q) q,
    PE.imp (PE.fz (pe_slice sl_list ha.pe (ro_no (C := C) (E := E)).po hh.po)) fun σ H Q ⟨μ, hp, σI, e, A, s, q⟩ => ?_⟩
  refine tE.go ha.mo A s q fun p h1 μ1 H1 v q1 u1 A1 s1 r1 => ?_
  refine ⟨μ1, h1, σI, e, A1, s1, fun μ2 H2 u2 r2 => ?_⟩
  have A2 := A1.next u2 r2
  refine ⟨μ2, h1, σI, e, A2, s1.up u2, hh.mo _ _ _ _ _ (fun k h3 ⟨b, ns, e1, e2, q3⟩ μ3 H3 u3 r3 => ?_) q1⟩
  subst e1
  have sq := (r3.xd.scr _ e2).sq
  rw [r1.refI, hK]
  refine ⟨b, ns.map V.int, rfl, sq, fun p np => ?_⟩
  exact (fE.up q3 ((u1.trans u2).trans u3)).newL r3 (cut_rvs (RVs.map (fun i => .int') ns) none k) np

/-! ### f(k = v, ..) -/
def pick {α : Type} (perm : List Nat) (xs : List α) : List α := perm.filterMap fun i => xs[i]?
theorem RVs.pick {K : PySem.W.Frag} {μ : List Addr} {H : Hp} {ps : List PV} {vs : List V} (r : RVs K μ H ps vs) : ∀ perm : List Nat, RVs K μ H (RF.pick perm ps) (RF.pick perm vs)
  | [] => .nil
  | i :: perm => by
    unfold RF.pick
    have ih := r.pick perm
    cases e : ps[i]? with
    | none =>
      have e2 : vs[i]? = none := by
        rw [List.getElem?_eq_none_iff] at e ⊢
        rw [r.length]; exact e
      rw [List.filterMap_cons_none e, List.filterMap_cons_none e2]
      exact ih
    | some p =>
      obtain ⟨v, e2, r2⟩ := r.get e
      rw [List.filterMap_cons_some e, List.filterMap_cons_some e2]
      exact .cons r2 ih
theorem vals_at : ∀ {vs : List V} {us : List Value} (i : Nat), Vals vs us → (∃ v u, vs[i]? = some v ∧ us[i]? = some u ∧ RelV v u) ∨ (vs[i]? = none ∧ us[i]? = none)
  | _, _, i, .nil => .inr ⟨by simp, by simp⟩
  | _, _, 0, .cons r _ => .inl ⟨_, _, rfl, rfl, r⟩
  | _, _, i + 1, .cons _ t => by simpa using vals_at i t
theorem vals_pick {vs : List V} {us : List Value} (r : Vals vs us) : ∀ perm : List Nat, Vals (pick perm vs) (pick perm us)
  | [] => .nil
  | i :: perm => by
    unfold pick
    have ih := vals_pick r perm
    rcases vals_at i r with ⟨v, u, e1, e2, r1⟩ | ⟨e1, e2⟩
    · rw [List.filterMap_cons_some e1, List.filterMap_cons_some e2]
      exact .cons r1 ih
    · rw [List.filterMap_cons_none e1, List.filterMap_cons_none e2]
      exact ih
/-- keywords, as arguments -/
structure RK (X : Cx) (C : Cfg) (E : XK) (kws : List Keyword) (w : WA) : Prop where
  mo : MoA w
  pk : PK X kws (tA C E w)
theorem PK.imp {X : Cx} {x : List Keyword} {t t' : TA} (h : PK X x t) (i : ∀ σ H Q, t' σ H Q → t σ H Q) : PK X x t' := ⟨fun pos pins s σ H Q I q => h.run pos pins s σ H Q I (i σ H Q q)⟩
section
variable {X : Cx} {C : Cfg} {E : XK} {x : Expr} {wa : WE} {w : WA} {kws : List Keyword} {nm : Option Str} {kpos : Pos}
theorem rk_nil : RK X C E [] wNil := ⟨fun σ hp e Q Q' h q => h _ _ q, PK.imp pk_nil fun σ H Q ⟨μ, hp, σI, e, A, s, q⟩ => fA.here q A.hr .nil⟩
theorem rk_cons (hx : RE X C E x wa) (hr : RK X C E kws w) : RK X C E (⟨nm, x, kpos⟩ :: kws) (wCons wa w) := by
  refine ⟨fun σ hp e Q Q' h q => hx.mo _ _ _ _ _ (fun p h1 q1 => hr.mo _ _ _ _ _ (fun ps h2 q2 => h _ _ q2) q1) q, PK.imp (pk_cons hx.pe hr.pk) fun σ H Q ⟨μ, hp, σI, e, A, s, q⟩ => ?_⟩
  refine tE.go hx.mo A s q fun p h1 μ1 H1 v q1 u1 A1 s1 r1 => ?_
  refine tA.go hr.mo A1 s1 q1 fun ps h2 μ2 H2 vs q2 u2 A2 s2 r2 => ?_
  exact (fA.up q2 (u1.trans u2)).here A2.hr (.cons (RV.up u2 _ _ r1) r2)
end
/-- a def known by its name -/
structure Fun (P : Program) (w : World) (C : Cfg) (mg : Str → Option Value) (base : Heap) (k : Nat) (x : Str) (n : Nat) (wf : WF) : Prop where
  ex : ∃ (fd : FuncData) (ps : List Str), FnG P w C.K mg base k (He.ga C.K x) fd ps (spI C n wf) ∧ Binds C.K fd ps []
  g : mg x = some (.ref (He.ga C.K x))
  kp : PySem.W.keepIn C.K (.ref (He.ga C.K x)) = true
  mf : MoF wf
/-- .. and how keywords bind -/
structure FunK (P : Program) (w : World) (C : Cfg) (mg : Str → Option Value) (base : Heap) (k : Nat) (x : Str) (n : Nat) (wf : WF) (ks : List Str) (perm : List Nat) : Prop where
  ex : ∃ (fd : FuncData) (ps : List Str), FnG P w C.K mg base k (He.ga C.K x) fd ps (spI C n wf) ∧ ∀ (s : Shared) (ws : List Value), ws.length = ks.length → BindsTo s fd ⟨[], ks.zip ws⟩ (ps.zip (pick perm ws))
  g : mg x = some (.ref (He.ga C.K x))
  kp : PySem.W.keepIn C.K (.ref (He.ga C.K x)) = true
  mf : MoF wf
theorem Fun.weak {P : Program} {w : World} {C : Cfg} {mg : Str → Option Value} {base : Heap} {k n : Nat} {x : Str} {f1 f2 : WF} (F : Fun P w C mg base k x n f1) (m : MoF f2) (h : ∀ qs hp e Q, f2 qs hp e Q → f1 qs hp e Q) : Fun P w C mg base k x n f2 := by
  obtain ⟨fd, ps, G, b⟩ := F.ex
  exact ⟨⟨fd, ps, G.weak h, b⟩, F.g, F.kp, m⟩
theorem FunK.weak {P : Program} {w : World} {C : Cfg} {mg : Str → Option Value} {base : Heap} {k n : Nat} {x : Str} {f1 f2 : WF} {ks : List Str} {perm : List Nat} (F : FunK P w C mg base k x n f1 ks perm) (m : MoF f2) (h : ∀ qs hp e Q, f2 qs hp e Q → f1 qs hp e Q) : FunK P w C mg base k x n f2 ks perm := by
  obtain ⟨fd, ps, G, b⟩ := F.ex
  exact ⟨⟨fd, ps, G.weak h, b⟩, F.g, F.kp, m⟩
theorem Fun.more {P : Program} {w : World} {C : Cfg} {mg : Str → Option Value} {base : Heap} {j k n : Nat} {x : Str} {f : WF} (F : Fun P w C mg base j x n f) (h : j ≤ k) : Fun P w C mg base k x n f := by
  obtain ⟨fd, ps, G, b⟩ := F.ex
  exact ⟨⟨fd, ps, G.more h, b⟩, F.g, F.kp, F.mf⟩
theorem FunK.more {P : Program} {w : World} {C : Cfg} {mg : Str → Option Value} {base : Heap} {j k n : Nat} {x : Str} {f : WF} {ks : List Str} {perm : List Nat} (F : FunK P w C mg base j x n f ks perm) (h : j ≤ k) : FunK P w C mg base k x n f ks perm := by
  obtain ⟨fd, ps, G, b⟩ := F.ex
  exact ⟨⟨fd, ps, G.more h, b⟩, F.g, F.kp, F.mf⟩
def wCallK (f : WF) (n : Nat) (perm : List Nat) (a : WA) : WE := fun σ hp e Q => a σ hp e fun ps h => (ps.length = n ∧ (pick perm ps).length = n) ∧ f (pick perm ps) h e Q
section
variable {X : Cx} {C : Cfg} {E : XK} {x : Expr} {es : List Expr} {w : WA} {f : WF} {kws : List Keyword} {nm : Str} {p pos : Pos} {n k : Nat} {ks : List Str} {perm : List Nat}
theorem re_fun (hK : X.K = C.K) (F : Fun X.prog X.w C X.mg X.base k nm n f) (hG : Calm X.A) (room : Room k X.A) (tk : Takes X (fun cls d _ H => E cls d H)) (gl : Gl X nm) (ha : RA X C E (x :: es) w) (hdb : (nm == ("__debug__" : Str)) = false)
    (he : starEach (x :: es) X.env = (false, eval x X.env) :: starEach es X.env) (hpl : (backTo pos (starEach es X.env)).any (·.1) = false) : RE X C E (.Call (.Name nm p) (x :: es) [] pos) (wCall f (wArgs n w)) := by
  obtain ⟨fd, ps, G, b⟩ := F.ex
  rw [← hK] at G b
  exact re_callG G F.mf hG room tk gl (by rw [hK]; exact F.g) (by rw [hK]; exact F.kp) b ha hdb he hpl
theorem re_fun0 (hK : X.K = C.K) (F : Fun X.prog X.w C X.mg X.base k nm 0 f) (hG : Calm X.A) (room : Room k X.A) (tk : Takes X (fun cls d _ H => E cls d H)) (gl : Gl X nm) (hdb : (nm == ("__debug__" : Str)) = false) : RE X C E (.Call (.Name nm p) [] [] pos) (wCall f wNil) := by
  obtain ⟨fd, ps, G, b⟩ := F.ex
  rw [← hK] at G b
  exact re_callG0 G F.mf hG room tk gl (by rw [hK]; exact F.g) (by rw [hK]; exact F.kp) b hdb
theorem re_funK (hK : X.K = C.K) (F : FunK X.prog X.w C X.mg X.base k nm n f ks perm) (hn : ks.length = n) (hG : Calm X.A) (room : Room k X.A) (tk : Takes X (fun cls d _ H => E cls d H)) (gl : Gl X nm) (hkw : RK X C E kws w) (hdb : (nm == ("__debug__" : Str)) = false)
    (hall : (backToKw pos (keywordEach kws X.env)).all (·.1.isSome) = true) (hks : (backToKw pos (keywordEach kws X.env)).filterMap (·.1) = ks) (hpl : ((backTo pos (starEach [] X.env)).any (·.1) || (backToKw pos (keywordEach kws X.env)).any (·.1.isNone)) = false) :
    RE X C E (.Call (.Name nm p) [] kws pos) (wCallK f n perm w) := by
  obtain ⟨fd, ps, G, b⟩ := F.ex
  refine ⟨fun σ hp e Q Q' h q => hkw.mo _ _ _ _ _ (fun ps h1 ⟨l, q1⟩ => ⟨l, F.mf _ _ _ _ _ h q1⟩) q, ⟨fun pins s σ H Q I h => ?_⟩⟩
  have h2 : tA C E w σ H fun vs H1 => vs.length = n ∧ spI C n f (pick perm vs) H1 Q E := by
    obtain ⟨μ, hp, σI, e, A, s, q⟩ := h
    refine tA.go hkw.mo A s q fun ps h1 μ1 H1 vs ⟨⟨l, l2⟩, q1⟩ u1 A1 s1 r1 => ?_
    exact ⟨by rw [r1.length]; exact l, by rw [(r1.pick perm).length, l2], μ1, h1, _, e, A1, r1.pick perm, F.mf _ _ _ _ _ (fun p h q => fE.up q u1) q1⟩
  apply wpAny_Call_Name_kw
  refine ld_glob I gl F.g ?_ hdb
  refine PySem.W.callWith_KW0 (h₀ := X.base) I.ok.mod.kin (by rw [hK]; exact F.kp) hall ?_ hpl
  refine thn (hkw.pk.run pos pins s σ H _ I h2) fun us s1 ⟨vs, H1, I1, rel, l, q⟩ => ⟨I1.kIn, ?_⟩
  rw [hks]
  rw [← hK] at G
  have z := G.call hG room tk I1 (b s1 us (by rw [← rel.length, l, hn])) (vals_pick rel perm) q
  rw [hK] at z
  exact wpAny_call z
end
end RF

set_option Elab.async false
set_option linter.all false
set_option maxRecDepth 100000
set_option maxHeartbeats 1000000
/-! Part D2: parallel stores, name = [..], and the rules in short words for printed derivations. -/
namespace RF
open PySem PySem.Spec L2

/-! ### x, y = a, b -/
def wPar (is : List Nat) (a : WA) : WS := fun σ hp e D => a σ hp e fun ps h => ps.length = is.length ∧ D.nx (setAll σ is ps) h
section
variable {X : Cx} {C : Cfg} {E : XK} {w : WA}
theorem par_mo {is : List Nat} (h : MoA w) : MoS (wPar is w) := fun σ hp e D D' l q => h _ _ _ _ _ (fun ps h ⟨z, q⟩ => ⟨z, l.nx _ _ q⟩) q
theorem rs_par {i j : Nat} {x y : Str} {a b : Expr} {px py pt pos : Pos} {kt k2 pt2} (hc : X.calm = true) (hN : X.N.Nodup) (hi : X.N[i]? = some x) (hj : X.N[j]? = some y) (hij : i ≠ j) (hx : X.env.scope.names.lookup x = some .local) (hy : X.env.scope.names.lookup y = some .local)
    (ha : RA X C E [a, b] w) (hw : swappedStores [.Tuple [.Name x px, .Name y py] kt pt] (.Tuple [a, b] k2 pt2) X.env = pure (some [x, y]))
    (hs : swapsWithSole [.Tuple [.Name x px, .Name y py] kt pt] (.Tuple [a, b] k2 pt2) pos.line X.env = pure false) : RS X C E (.Assign [.Tuple [.Name x px, .Name y py] kt pt] (.Tuple [a, b] k2 pt2) pos) (wPar [i, j] w) := by
  refine ⟨par_mo ha.mo, PS.imp (ps_par hc hN hi hj hij hx hy ha.pa hw hs) fun D σ H ⟨μ, hp, σI, e, A, s, q⟩ => ?_⟩
  refine tA.go ha.mo A s q fun ps h1 μ1 H1 vs ⟨l, q1⟩ u1 A1 s1 r1 => ?_
  have lv := r1.length
  rw [l] at lv
  match vs, lv, r1 with
  | [v, u], _, r1 => exact ⟨v, u, rfl, (fN.up q1 u1).here A1.hr (SR.setAll [i, j] ps [v, u] _ _ s1 r1)⟩
theorem rs_par3 {i j l : Nat} {x y z : Str} {a b c : Expr} {px py pz pt pos : Pos} {kt k2 pt2} (hc : X.calm = true) (hN : X.N.Nodup) (hi : X.N[i]? = some x) (hj : X.N[j]? = some y) (hl : X.N[l]? = some z) (hij : i ≠ j) (hil : i ≠ l) (hjl : j ≠ l)
    (hx : X.env.scope.names.lookup x = some .local) (hy : X.env.scope.names.lookup y = some .local) (hz : X.env.scope.names.lookup z = some .local) (ha : RA X C E [a, b, c] w)
    (hw : swappedStores [.Tuple [.Name x px, .Name y py, .Name z pz] kt pt] (.Tuple [a, b, c] k2 pt2) X.env = pure (some [x, y, z]))
    (hs : swapsWithSole [.Tuple [.Name x px, .Name y py, .Name z pz] kt pt] (.Tuple [a, b, c] k2 pt2) pos.line X.env = pure false) : RS X C E (.Assign [.Tuple [.Name x px, .Name y py, .Name z pz] kt pt] (.Tuple [a, b, c] k2 pt2) pos) (wPar [i, j, l] w) := by
  refine ⟨par_mo ha.mo, PS.imp (ps_par3 hc hN hi hj hl hij hil hjl hx hy hz ha.pa hw hs) fun D σ H ⟨μ, hp, σI, e, A, s, q⟩ => ?_⟩
  refine tA.go ha.mo A s q fun ps h1 μ1 H1 vs ⟨l', q1⟩ u1 A1 s1 r1 => ?_
  have lv := r1.length
  rw [l'] at lv
  match vs, lv, r1 with
  | [v, u, t], _, r1 => exact ⟨v, u, t, rfl, (fN.up q1 u1).here A1.hr (SR.setAll [i, j, l] ps [v, u, t] _ _ s1 r1)⟩
end

/-! ### name = [.. for ..] -/
def FzN (Q : St → Hp → Prop) : St → Hp → Prop := fun σ H => Q σ H ∨ ∃ a u, H a = some u ∧ ((∃ xs, u = .lst xs) ∨ ∃ ks, u = .dK ks) ∧ ∀ o, Q σ (upd H a (.frz o u))
theorem PS.fz {X : Cx} {st : Stmt} {t : TS} (h : PS X st t) : PS X st (fun D σ H => t { nx := FzN D.nx, rt := D.rt, bk := D.bk, ct := D.ct } σ H) := ⟨fun pins s σ H D I q => by
  refine thn (h.run pins s σ H _ I q) fun fl s1 z => ?_
  cases fl with
  | next =>
    obtain ⟨σ1, H1, I1, q1⟩ := z
    rcases q1 with q1 | ⟨a, u, ha, hu, q1⟩
    · exact ⟨σ1, H1, I1, q1⟩
    · obtain ⟨o, I2⟩ := inv_frz I1 ha hu
      exact ⟨σ1, _, I2, q1 o⟩
  | brk => exact z
  | cont => exact z
  | ret u => exact z⟩
section
variable {X : Cx} {C : Cfg} {E : XK} {tge iter elt : Expr} {ifs : List Expr} {scope : Scope} {own : List (Str × Nat)} {tg : Tg} {it : WA} {tt : WT} {el : WE} {pos py spos : Pos} {i : Nat} {y : Str}
theorem rs_setLc (hK : X.K = C.K) (hc : X.calm = true) (hN : X.N.Nodup) (hy : X.N[i]? = some y) (hyl : X.env.scope.names.lookup y = some .local) (hsw : swapsWith (.ListComp elt [⟨tge, iter, ifs, 0⟩] scope pos) (some (.Name y py)) spos.line X.env = pure true)
    (hi : RI X C E tge iter it) (ok : blkC X.N X.env.scope scope own = true) (hv : ∀ i ∈ tg.ix, i ∈ own.map (·.2))
    (hg : ∀ s H Ca cl fp, TgIs (X.blk s H scope (compEnvC scope cl Ca X.env) fp) tge tg) (ht : ∀ s H Ca cl fp, RTs (X.blk s H scope (compEnvC scope cl Ca X.env) fp) C E0 ifs tt)
    (he : ∀ s H Ca cl fp, RE (X.blk s H scope (compEnvC scope cl Ca X.env) fp) C E0 elt el) (hs : ∀ x, foldedSetIterable iter X.env x = pure x) : RS X C E (.Assign [.Name y py] (.ListComp elt [⟨tge, iter, ifs, 0⟩] scope pos) spos) (wAsg (.nm i) (wLc tg (own.map (·.2)) it tt el)) := by
  have mt : MoT tt := (ht X.s_0 X.H_0 0 [] []).mo
  have me : MoE el := (he X.s_0 X.H_0 0 [] []).mo
  have ml : MoE (wLc tg (own.map (·.2)) it tt el) := fun σ hp e Q Q' i q => hi.mo _ _ _ _ _ (fun ps h q => compW.mo mt me (fun _ _ q => i _ _ q) _ _ _ q) q
  refine ⟨asg_mo ml, PS.imp (PS.fz (ps_setLc (g := tg.g X.K) hc hN hy hyl hsw hi.pi (blkOk_by ok) (fun s H Ca cl fp => TgIs.pg (X := X.blk s H scope (compEnvC scope cl Ca X.env) fp) hc hN (hg s H Ca cl fp)) (fun s H Ca cl fp => (ht s H Ca cl fp).pts) (fun s H Ca cl fp => (he s H Ca cl fp).pe) hs)) fun D σ H ⟨μ, hp, σI, e, A, s, q⟩ => ?_⟩
  show tLc _ (tg.g X.K) _ _ _ _ _ _
  rw [hK]
  refine lc_go (R := fun qs h2 => ∃ σ', (Tg.nm i).go (.lst qs) σI = some σ' ∧ fN C μ H D.nx σ' h2) hi.mo mt me hv A s q fun qs h2 μ2 H2 Dn ys ⟨σ', e1, q2⟩ u2 r2 h0 eD nD rv => ?_
  simp only [Tg.go, Option.some.injEq] at e1
  subst e1
  refine .inr ⟨Dn, .lst ys, eD, .inl ⟨_, rfl⟩, fun o => ?_⟩
  have u3 := u2.wrN (o := .frz o (.lst ys)) h0 eD rfl nD
  refine q2 μ2 _ _ u3 (r2.wrN eD rfl nD) ((s.up u3).set ?_)
  simp only [RV]
  exact ⟨Dn, ys, rfl, ⟨o, upd_same⟩, RVs.up0 (Up0.wrN eD rfl) _ _ rv⟩
end

/-! ### what a context offers -/
structure Ok (X : Cx) (C : Cfg) (E : XK) (k : Nat) : Prop where
  hK : X.K = C.K
  hc : X.calm = true
  hN : X.N.Nodup
  tk : Takes X (fun cls d _ H => E cls d H)
  po : PassesOwn (model X.prog X.w) X.A X.env X.xe
  rm : Room k X.A
  cm : Calm X.A
theorem Ok.u1 {X : Cx} {C : Cfg} {E : XK} {k : Nat} (c : Ok X C E k) : X.A.units + 1 < cLine := by have := c.rm.un; omega
theorem Ok.u64 {X : Cx} {C : Cfg} {E : XK} {k : Nat} (c : Ok X C E k) : X.A.units + 64 < cLine := by have := c.rm.un; omega
theorem Ok.u65 {X : Cx} {C : Cfg} {E : XK} {k : Nat} (c : Ok X C E k) : X.A.units + 65 < cLine := by have := c.rm.un; omega
theorem Ok.blk {X : Cx} {C : Cfg} {E : XK} {k : Nat} (c : Ok X C E k) {s : Shared} {H : Hp} {scope : Scope} {env : Env} {fp : List Addr} : Ok (X.blk s H scope env fp) C E0 k := ⟨c.hK, c.hc, c.hN, LamX.takes0, PassesOwn.never, c.rm, c.cm⟩
theorem ok_body {P : Program} {w : World} {C : Cfg} {mg : Str → Option Value} {base : Heap} {N : List Str} {qual : Str} {scope : Scope} {f : Addr} {cd : Value} {A : Around} {out : List Env} {s : Shared} {H : Hp} {E : XK} {k : Nat} (hN : N.Nodup)
    (g : Calm (A.deeper (PyProof.Rows.envOfC qual scope s.heap.objs.size f cd))) (r : Room k (A.deeper (PyProof.Rows.envOfC qual scope s.heap.objs.size f cd))) : Ok (cxOf (L2.CX P w) P w C.K mg base N qual scope f cd A out s H E) C E k :=
  ⟨rfl, rfl, hN, takes_of rfl rfl rfl rfl, passes_of (E₁ := fun e' s'' => L2.CX P w out H s E e' s'') rfl, r, g⟩
end RF

set_option Elab.async false
set_option linter.all false
set_option maxRecDepth 100000
set_option maxHeartbeats 1000000
/-! Part D3: the rules in short words, for printed derivations: c is what the context offers. -/
namespace RF
open PySem PySem.Spec L2
section
variable {X : Cx} {C : Cfg} {E : XK} {k : Nat}
theorem d_var (c : Ok X C E k) (i : Nat) {x : Str} {pos : Pos} (hN : X.N[i]? = some x := by rfl) (hv : Vis X.env.scope x := by first | exact .inl rfl | exact .inr (.inl rfl) | exact .inr (.inr rfl))
    (hd : (x == ("__debug__" : Str)) = false := by decide) (hcd : (x == ("__classdict__" : Str)) = false := by decide) : RE X C E (.Name x pos) (wVar i) := re_var hN hv hd hcd
theorem d_int (c : Ok X C E k) (i : Int) {j : Nat} {pos : Pos} : RE X C E (.Constant (.int i) j pos) (wC (.int i)) := re_c pe_int fun _ _ => .int'
theorem d_str (c : Ok X C E k) (i : Str) {j : Nat} {pos : Pos} (hl : i.length ≤ sizeLine := by rw [PySem.sizeLine_eq]; decide) : RE X C E (.Constant (.str i) j pos) (wC (.str i)) := re_c pe_str fun _ _ => .str' hl
theorem d_bl (c : Ok X C E k) (i : Bool) {j : Nat} {pos : Pos} : RE X C E (.Constant (.bool i) j pos) (wC (.bl i)) := re_c pe_bl fun _ _ => .bl'
theorem d_non (c : Ok X C E k) {j : Nat} {pos : Pos} : RE X C E (.Constant .none j pos) (wC .non) := re_c pe_non fun _ _ => .non'
theorem d_gint (c : Ok X C E k) {x : Str} {i : Int} {pos : Pos} (hm : ∃ t, X.mg x = some (.int i t)) (gl : Gl X x := by rfl) (hd : (x == ("__debug__" : Str)) = false := by decide) : RE X C E (.Name x pos) (wC (.int i)) := by
  obtain ⟨t, h⟩ := hm
  exact re_c (pe_glob (v := .int i) gl h ⟨t, rfl⟩ hd) fun _ _ => .int'
theorem d_gstr (c : Ok X C E k) {x : Str} {i : Str} {pos : Pos} (hm : ∃ t, X.mg x = some (.str i t)) (hl : i.length ≤ sizeLine := by rw [PySem.sizeLine_eq]; decide) (gl : Gl X x := by rfl) (hd : (x == ("__debug__" : Str)) = false := by decide) : RE X C E (.Name x pos) (wC (.str i)) := by
  obtain ⟨t, h⟩ := hm
  exact re_c (pe_glob (v := .str i) gl h ⟨t, rfl⟩ hd) fun _ _ => .str' hl
theorem d_gtup (c : Ok X C E k) {x : Str} {vs : List V} {ps : List PV} {pos : Pos} (hm : X.mg x = some (.ref (He.ga C.K x))) (hs : ∀ H, SqT C.K H (He.ga C.K x) vs) (hr : ∀ μ H, RVs C.K μ H ps vs) (gl : Gl X x := by rfl) (hd : (x == ("__debug__" : Str)) = false := by decide) : RE X C E (.Name x pos) (wC (.tup ps)) :=
  re_c (pe_glob (v := .ref (He.ga C.K x)) gl hm rfl hd) fun μ H => by
    simp only [RV]
    exact ⟨_, vs, rfl, hs H, hr μ H⟩
/-! operators -/
variable {a b d x o : Expr} {wa wb wd : WE} {pos pos' p apos : Pos}
theorem d_add (c : Ok X C E k) (ha : RE X C E a wa) (hb : RE X C E b wb) : RE X C E (.BinOp a .Add b pos) (wOp gAdd wa wb) := re_op (r := rAddP C.K) l_add (by rw [← c.hK]; exact op_addP) ha hb
theorem d_sub (c : Ok X C E k) (ha : RE X C E a wa) (hb : RE X C E b wb) : RE X C E (.BinOp a .Sub b pos) (wOp gSub wa wb) := re_op l_i0 op_sub ha hb
theorem d_mul (c : Ok X C E k) (ha : RE X C E a wa) (hb : RE X C E b wb) : RE X C E (.BinOp a .Mult b pos) (wOp gMul wa wb) := re_op l_ii op_mul ha hb
theorem d_rep (c : Ok X C E k) (ha : RE X C E a wa) (hb : RE X C E b wb) : RE X C E (.BinOp a .Mult b pos) (wOp gRep wa wb) := re_op l_rep op_rep ha hb
theorem d_div (c : Ok X C E k) (ha : RE X C E a wa) (hb : RE X C E b wb) : RE X C E (.BinOp a .FloorDiv b pos) (wOp gDiv wa wb) := re_op l_ii op_fdivN ha hb
theorem d_mod (c : Ok X C E k) (ha : RE X C E a wa) (hb : RE X C E b wb) : RE X C E (.BinOp a .Mod b pos) (wOp gMod wa wb) := re_op l_ii op_modN ha hb
theorem d_pow (c : Ok X C E k) (ha : RE X C E a wa) (hb : RE X C E b wb) : RE X C E (.BinOp a .Pow b pos) (wOp gPow wa wb) := re_op l_ii op_pow ha hb
theorem d_and2 (c : Ok X C E k) (ha : RE X C E a wa) (hb : RE X C E b wb) : RE X C E (.BinOp a .BitAnd b pos) (wOp gAnd wa wb) := re_op l_i0 op_and ha hb
theorem d_neg (c : Ok X C E k) (ha : RE X C E a wa) : RE X C E (.UnaryOp .USub a pos) (wUn gNeg wa) := re_un l_neg un_neg ha
theorem d_ix (c : Ok X C E k) (ha : RE X C E a wa) (hb : RE X C E b wb) (hs : PlainIx b := by intro _ _; rfl) : RE X C E (.Subscript a b pos) (wOp gIx wa wb) := re_ix (r := rIx C.K) l_ix (by rw [← c.hK]; exact (ix_list.or (ix_tup.or ix_str))) ha hb hs
theorem d_sl (c : Ok X C E k) {lo hi : Option Expr} {wl wh : WO} {p2 : Pos} (ha : RE X C E a wa) (hl : RO X C E lo wl) (hh : RO X C E hi wh) : RE X C E (.Subscript a (.Slice lo hi none p2) pos) (wSl wa wl wh) := re_sl c.hK ha hl hh
theorem d_scr (c : Ok X C E k) {hi : Option Expr} {wh : WO} {p2 : Pos} (ha : RE X C E a wa) (hh : RO X C E hi wh) : RE X C E (.Subscript a (.Slice none hi none p2) pos) (wScr C wa wh) := re_scr c.hK ha hh
theorem d_rev (c : Ok X C E k) {j : Nat} {p1 p3 p4 : Pos} (ha : RE X C E a wa) : RE X C E (.Subscript a (.Slice none none (some (.UnaryOp .USub (.Constant (.int 1) j p1) p3)) p4) pos) (wRevL wa) := re_revL c.hK ha
theorem d_dget (c : Ok X C E k) (ha : RE X C E a wa) (hb : RE X C E b wb) (hs : NoSl b := by intro _ _; rfl) : RE X C E (.Subscript a b pos) (wDGet wa wb) := re_dget c.u1 ha hb hs
theorem d_get1 (c : Ok X C E k) (ha : RE X C E a wa) (hb : RE X C E b wb) (m : M1 X a "get" apos b pos := by exact ⟨rfl, rfl, rfl, rfl⟩) : RE X C E (.Call (.Attribute a "get" apos) [b] [] pos) (wGet1 wa wb) := re_get1 c.u1 ha hb m
theorem d_get2 (c : Ok X C E k) (ha : RE X C E a wa) (hb : RE X C E b wb) (hd : RE X C E d wd) (m : M2 X a "get" apos b d pos := by exact ⟨rfl, rfl, rfl, rfl⟩) : RE X C E (.Call (.Attribute a "get" apos) [b, d] [] pos) (wGet2 wa wb wd) := re_get2 c.u1 ha hb hd m
/-! comparisons: as a value, as a test -/
theorem d_eq (c : Ok X C E k) (ha : RE X C E a wa) (hb : RE X C E b wb) (hm : behindInMarks .Eq b = false := by rfl) : RE X C E (.Compare a [.Eq] [b] pos) (wCmp cEq wa wb) := re_cmp l_eq (by rw [← c.hK]; exact op_eqD c.u64) ha hb hm
theorem t_eq (c : Ok X C E k) (ha : RE X C E a wa) (hb : RE X C E b wb) (hm : behindInMarks .Eq b = false := by rfl) : RT X C E (.Compare a [.Eq] [b] pos) (wCmpT cEq wa wb) := rt_cmp l_eq (by rw [← c.hK]; exact op_eqD c.u64) ha hb hm
theorem d_ne (c : Ok X C E k) (ha : RE X C E a wa) (hb : RE X C E b wb) (hm : behindInMarks .NotEq b = false := by rfl) : RE X C E (.Compare a [.NotEq] [b] pos) (wCmp cNe wa wb) := re_cmp l_ne (by rw [← c.hK]; exact op_neD c.u64) ha hb hm
theorem t_ne (c : Ok X C E k) (ha : RE X C E a wa) (hb : RE X C E b wb) (hm : behindInMarks .NotEq b = false := by rfl) : RT X C E (.Compare a [.NotEq] [b] pos) (wCmpT cNe wa wb) := rt_cmp l_ne (by rw [← c.hK]; exact op_neD c.u64) ha hb hm
theorem d_lt (c : Ok X C E k) (ha : RE X C E a wa) (hb : RE X C E b wb) (hm : behindInMarks .Lt b = false := by rfl) : RE X C E (.Compare a [.Lt] [b] pos) (wCmp cLt wa wb) := re_cmp l_cii op_lt ha hb hm
theorem t_lt (c : Ok X C E k) (ha : RE X C E a wa) (hb : RE X C E b wb) (hm : behindInMarks .Lt b = false := by rfl) : RT X C E (.Compare a [.Lt] [b] pos) (wCmpT cLt wa wb) := rt_cmp l_cii op_lt ha hb hm
theorem d_le (c : Ok X C E k) (ha : RE X C E a wa) (hb : RE X C E b wb) (hm : behindInMarks .LtE b = false := by rfl) : RE X C E (.Compare a [.LtE] [b] pos) (wCmp cLe wa wb) := re_cmp l_cii op_le ha hb hm
theorem t_le (c : Ok X C E k) (ha : RE X C E a wa) (hb : RE X C E b wb) (hm : behindInMarks .LtE b = false := by rfl) : RT X C E (.Compare a [.LtE] [b] pos) (wCmpT cLe wa wb) := rt_cmp l_cii op_le ha hb hm
theorem d_gt (c : Ok X C E k) (ha : RE X C E a wa) (hb : RE X C E b wb) (hm : behindInMarks .Gt b = false := by rfl) : RE X C E (.Compare a [.Gt] [b] pos) (wCmp cGt wa wb) := re_cmp l_cii op_gt ha hb hm
theorem t_gt (c : Ok X C E k) (ha : RE X C E a wa) (hb : RE X C E b wb) (hm : behindInMarks .Gt b = false := by rfl) : RT X C E (.Compare a [.Gt] [b] pos) (wCmpT cGt wa wb) := rt_cmp l_cii op_gt ha hb hm
theorem d_ge (c : Ok X C E k) (ha : RE X C E a wa) (hb : RE X C E b wb) (hm : behindInMarks .GtE b = false := by rfl) : RE X C E (.Compare a [.GtE] [b] pos) (wCmp cGe wa wb) := re_cmp l_cii op_ge ha hb hm
theorem t_ge (c : Ok X C E k) (ha : RE X C E a wa) (hb : RE X C E b wb) (hm : behindInMarks .GtE b = false := by rfl) : RT X C E (.Compare a [.GtE] [b] pos) (wCmpT cGe wa wb) := rt_cmp l_cii op_ge ha hb hm
theorem d_is (c : Ok X C E k) (ha : RE X C E a wa) (hb : RE X C E b wb) (hm : behindInMarks .Is b = false := by rfl) : RE X C E (.Compare a [.Is] [b] pos) (wCmp cIsN wa wb) := re_cmp l_isN op_isN ha hb hm
theorem t_is (c : Ok X C E k) (ha : RE X C E a wa) (hb : RE X C E b wb) (hm : behindInMarks .Is b = false := by rfl) : RT X C E (.Compare a [.Is] [b] pos) (wCmpT cIsN wa wb) := rt_cmp l_isN op_isN ha hb hm
theorem d_isnot (c : Ok X C E k) (ha : RE X C E a wa) (hb : RE X C E b wb) (hm : behindInMarks .IsNot b = false := by rfl) : RE X C E (.Compare a [.IsNot] [b] pos) (wCmp cNotN wa wb) := re_cmp l_notN op_notN ha hb hm
theorem t_isnot (c : Ok X C E k) (ha : RE X C E a wa) (hb : RE X C E b wb) (hm : behindInMarks .IsNot b = false := by rfl) : RT X C E (.Compare a [.IsNot] [b] pos) (wCmpT cNotN wa wb) := rt_cmp l_notN op_notN ha hb hm
theorem d_in (c : Ok X C E k) (ha : RE X C E a wa) (hb : RE X C E b wb) (hm : behindInMarks .In b = false := by rfl) : RE X C E (.Compare a [.In] [b] pos) (wCmp cIn wa wb) := re_cmp l_in (by rw [← c.hK]; exact op_inAll c.u65) ha hb hm
theorem t_in (c : Ok X C E k) (ha : RE X C E a wa) (hb : RE X C E b wb) (hm : behindInMarks .In b = false := by rfl) : RT X C E (.Compare a [.In] [b] pos) (wCmpT cIn wa wb) := rt_cmp l_in (by rw [← c.hK]; exact op_inAll c.u65) ha hb hm
theorem d_notin (c : Ok X C E k) (ha : RE X C E a wa) (hb : RE X C E b wb) (hm : behindInMarks .NotIn b = false := by rfl) : RE X C E (.Compare a [.NotIn] [b] pos) (wCmp cNotIn wa wb) := re_cmp l_notIn (by rw [← c.hK]; exact op_notInAll c.u65) ha hb hm
theorem t_notin (c : Ok X C E k) (ha : RE X C E a wa) (hb : RE X C E b wb) (hm : behindInMarks .NotIn b = false := by rfl) : RT X C E (.Compare a [.NotIn] [b] pos) (wCmpT cNotIn wa wb) := rt_cmp l_notIn (by rw [← c.hK]; exact op_notInAll c.u65) ha hb hm
theorem t_lele (c : Ok X C E k) (ha : RE X C E a wa) (hb : RE X C E b wb) (hd : RE X C E d wd) (hm : lastMarks [.LtE, .LtE] [b, d] = false := by rfl) : RT X C E (.Compare a [.LtE, .LtE] [b, d] pos) (wChT cLe cLe wa wb wd) := rt_chain l_cii l_cii op_le op_le ha hb hd hm
theorem d_lele (c : Ok X C E k) (ha : RE X C E a wa) (hb : RE X C E b wb) (hd : RE X C E d wd) (hm : lastMarks [.LtE, .LtE] [b, d] = false := by rfl) : RE X C E (.Compare a [.LtE, .LtE] [b, d] pos) (wCh cLe cLe wa wb wd) := re_chain l_cii l_cii op_le op_le ha hb hd hm
theorem t_lelt (c : Ok X C E k) (ha : RE X C E a wa) (hb : RE X C E b wb) (hd : RE X C E d wd) (hm : lastMarks [.LtE, .Lt] [b, d] = false := by rfl) : RT X C E (.Compare a [.LtE, .Lt] [b, d] pos) (wChT cLe cLt wa wb wd) := rt_chain l_cii l_cii op_le op_lt ha hb hd hm
theorem d_lelt (c : Ok X C E k) (ha : RE X C E a wa) (hb : RE X C E b wb) (hd : RE X C E d wd) (hm : lastMarks [.LtE, .Lt] [b, d] = false := by rfl) : RE X C E (.Compare a [.LtE, .Lt] [b, d] pos) (wCh cLe cLt wa wb wd) := re_chain l_cii l_cii op_le op_lt ha hb hd hm
/-! truth -/
theorem t_tru (c : Ok X C E k) (ha : RE X C E a wa) (he : ∀ whole, isTrue a X.env whole = (do let v ← whole; standAt a.pos; holding [v] (truthy v)) := by intro _; rfl) : RT X C E a (wTru wa) := rt_tru c.hK ha he
theorem t_not (c : Ok X C E k) {t : WT} (ha : RT X C E a t) : RT X C E (.UnaryOp .Not a pos) (wNotT t) := rt_not ha
theorem d_not (c : Ok X C E k) (ha : RE X C E a wa) : RE X C E (.UnaryOp .Not a pos) (wNotV wa) := re_not c.hK ha
theorem d_and (c : Ok X C E k) {rest : List Expr} (ha : RE X C E a wa) (hb : RE X C E (.BoolOp .And (b :: rest) pos) wb) : RE X C E (.BoolOp .And (a :: b :: rest) pos) (wAndV wa wb) := re_and c.hK ha hb
theorem d_or (c : Ok X C E k) {rest : List Expr} (ha : RE X C E a wa) (hb : RE X C E (.BoolOp .Or (b :: rest) pos) wb) : RE X C E (.BoolOp .Or (a :: b :: rest) pos) (wOrV wa wb) := re_or c.hK ha hb
/-! calls -/
variable {es : List Expr} {w : WA} {nm : Str} {n : Nat} {f : WF}
theorem a_cons (c : Ok X C E k) (hx : RE X C E x wa) (hr : RA X C E es w) (hs : starEach (x :: es) X.env = (false, eval x X.env) :: starEach es X.env := by rfl) : RA X C E (x :: es) (wCons wa w) := ra_cons hx hr hs
theorem d_fun {j : Nat} (c : Ok X C E k) (F : Fun X.prog X.w C X.mg X.base j nm n f) (hj : j ≤ k) (ha : RA X C E (x :: es) w) (gl : Gl X nm := by rfl) (hdb : (nm == ("__debug__" : Str)) = false := by decide)
    (he : starEach (x :: es) X.env = (false, eval x X.env) :: starEach es X.env := by rfl) (hpl : (backTo pos (starEach es X.env)).any (·.1) = false := by rfl) : RE X C E (.Call (.Name nm p) (x :: es) [] pos) (wCall f (wArgs n w)) := re_fun c.hK F c.cm (c.rm.mono hj) c.tk gl ha hdb he hpl
theorem d_fun0 {j : Nat} (c : Ok X C E k) (F : Fun X.prog X.w C X.mg X.base j nm 0 f) (hj : j ≤ k) (gl : Gl X nm := by rfl) (hdb : (nm == ("__debug__" : Str)) = false := by decide) : RE X C E (.Call (.Name nm p) [] [] pos) (wCall f wNil) := re_fun0 c.hK F c.cm (c.rm.mono hj) c.tk gl hdb
theorem d_funK {j : Nat} {ks : List Str} {perm : List Nat} {kws : List Keyword} (c : Ok X C E k) (F : FunK X.prog X.w C X.mg X.base j nm n f ks perm) (hj : j ≤ k) (hkw : RK X C E kws w) (hn : ks.length = n := by rfl) (gl : Gl X nm := by rfl) (hdb : (nm == ("__debug__" : Str)) = false := by decide)
    (hall : (backToKw pos (keywordEach kws X.env)).all (·.1.isSome) = true := by rfl) (hks : (backToKw pos (keywordEach kws X.env)).filterMap (·.1) = ks := by rfl) (hpl : ((backTo pos (starEach [] X.env)).any (·.1) || (backToKw pos (keywordEach kws X.env)).any (·.1.isNone)) = false := by rfl) :
    RE X C E (.Call (.Name nm p) [] kws pos) (wCallK f n perm w) := re_funK c.hK F hn c.cm (c.rm.mono hj) c.tk gl hkw hdb hall hks hpl
theorem f_len (c : Ok X C E k) (hm : X.mg "len" = none) (ha : RA X C E (x :: es) w) (gl : Gl X "len" := by rfl) (he : starEach (x :: es) X.env = (false, eval x X.env) :: starEach es X.env := by rfl) (hpl : (backTo pos (starEach es X.env)).any (·.1) = false := by rfl) :
    RE X C E (.Call (.Name "len" p) (x :: es) [] pos) (wFn gLen w) := re_fn lf_len (by rw [← c.hK]; exact call_len) gl hm (by rfl) ha (by decide) (by decide) he hpl
theorem f_ord (c : Ok X C E k) (hm : X.mg "ord" = none) (ha : RA X C E (x :: es) w) (gl : Gl X "ord" := by rfl) (he : starEach (x :: es) X.env = (false, eval x X.env) :: starEach es X.env := by rfl) (hpl : (backTo pos (starEach es X.env)).any (·.1) = false := by rfl) :
    RE X C E (.Call (.Name "ord" p) (x :: es) [] pos) (wFn gOrd w) := re_fn lf_ord call_ord gl hm (by rfl) ha (by decide) (by decide) he hpl
theorem f_chr (c : Ok X C E k) (hm : X.mg "chr" = none) (ha : RA X C E (x :: es) w) (gl : Gl X "chr" := by rfl) (he : starEach (x :: es) X.env = (false, eval x X.env) :: starEach es X.env := by rfl) (hpl : (backTo pos (starEach es X.env)).any (·.1) = false := by rfl) :
    RE X C E (.Call (.Name "chr" p) (x :: es) [] pos) (wFn gChr w) := re_fn lf_chr call_chr gl hm (by rfl) ha (by decide) (by decide) he hpl
theorem f_abs (c : Ok X C E k) (hm : X.mg "abs" = none) (ha : RA X C E (x :: es) w) (gl : Gl X "abs" := by rfl) (he : starEach (x :: es) X.env = (false, eval x X.env) :: starEach es X.env := by rfl) (hpl : (backTo pos (starEach es X.env)).any (·.1) = false := by rfl) :
    RE X C E (.Call (.Name "abs" p) (x :: es) [] pos) (wFn gAbs w) := re_fn lf_abs call_abs gl hm (by rfl) ha (by decide) (by decide) he hpl
theorem f_max (c : Ok X C E k) (hm : X.mg "max" = none) (ha : RA X C E (x :: es) w) (gl : Gl X "max" := by rfl) (he : starEach (x :: es) X.env = (false, eval x X.env) :: starEach es X.env := by rfl) (hpl : (backTo pos (starEach es X.env)).any (·.1) = false := by rfl) :
    RE X C E (.Call (.Name "max" p) (x :: es) [] pos) (wFn gMax w) := re_fn lf_max (call_max2 c.hc) gl hm (by rfl) ha (by decide) (by decide) he hpl
theorem f_min (c : Ok X C E k) (hm : X.mg "min" = none) (ha : RA X C E (x :: es) w) (gl : Gl X "min" := by rfl) (he : starEach (x :: es) X.env = (false, eval x X.env) :: starEach es X.env := by rfl) (hpl : (backTo pos (starEach es X.env)).any (·.1) = false := by rfl) :
    RE X C E (.Call (.Name "min" p) (x :: es) [] pos) (wFn gMin w) := re_fn lf_min (call_min2 c.hc) gl hm (by rfl) ha (by decide) (by decide) he hpl
theorem f_all (c : Ok X C E k) (hm : X.mg "all" = none) (ha : RA X C E (x :: es) w) (gl : Gl X "all" := by rfl) (he : starEach (x :: es) X.env = (false, eval x X.env) :: starEach es X.env := by rfl) (hpl : (backTo pos (starEach es X.env)).any (·.1) = false := by rfl) :
    RE X C E (.Call (.Name "all" p) (x :: es) [] pos) (wFn gAll w) := re_fn lf_all (by rw [← c.hK]; exact cr_all c.hc) gl hm (by rfl) ha (by decide) (by decide) he hpl
theorem f_any (c : Ok X C E k) (hm : X.mg "any" = none) (ha : RA X C E (x :: es) w) (gl : Gl X "any" := by rfl) (he : starEach (x :: es) X.env = (false, eval x X.env) :: starEach es X.env := by rfl) (hpl : (backTo pos (starEach es X.env)).any (·.1) = false := by rfl) :
    RE X C E (.Call (.Name "any" p) (x :: es) [] pos) (wFn gAny w) := re_fn lf_any (by rw [← c.hK]; exact cr_any c.hc) gl hm (by rfl) ha (by decide) (by decide) he hpl
theorem f_repr (c : Ok X C E k) (hm : X.mg "repr" = none) (ha : RA X C E (x :: es) w) (gl : Gl X "repr" := by rfl) (he : starEach (x :: es) X.env = (false, eval x X.env) :: starEach es X.env := by rfl) (hpl : (backTo pos (starEach es X.env)).any (·.1) = false := by rfl) :
    RE X C E (.Call (.Name "repr" p) (x :: es) [] pos) (wFn gRepr w) := re_fn (lf_repr c.hK) (cr_repr c.rm c.cm) gl hm (by rfl) ha (by decide) (by decide) he hpl
theorem f_int (c : Ok X C E k) (hm : X.mg "int" = none) (ha : RA X C E (x :: es) w) (gl : Gl X "int" := by rfl) (he : starEach (x :: es) X.env = (false, eval x X.env) :: starEach es X.env := by rfl) (hpl : (backTo pos (starEach es X.env)).any (·.1) = false := by rfl) :
    RE X C E (.Call (.Name "int" p) (x :: es) [] pos) (wFn gInt w) := re_ty lf_int cr_int gl hm (by rfl) ha (by decide) (by decide) he hpl
theorem f_str (c : Ok X C E k) (hm : X.mg "str" = none) (ha : RA X C E (x :: es) w) (gl : Gl X "str" := by rfl) (he : starEach (x :: es) X.env = (false, eval x X.env) :: starEach es X.env := by rfl) (hpl : (backTo pos (starEach es X.env)).any (·.1) = false := by rfl) :
    RE X C E (.Call (.Name "str" p) (x :: es) [] pos) (wFn gStr w) := re_ty lf_str cr_str gl hm (by rfl) ha (by decide) (by decide) he hpl
theorem f_list (c : Ok X C E k) (hm : X.mg "list" = none) (ha : RA X C E (x :: es) w) (gl : Gl X "list" := by rfl) (he : starEach (x :: es) X.env = (false, eval x X.env) :: starEach es X.env := by rfl) (hpl : (backTo pos (starEach es X.env)).any (·.1) = false := by rfl) :
    RE X C E (.Call (.Name "list" p) (x :: es) [] pos) (wFn gList w) := re_ty lf_list (by rw [← c.hK]; exact call_list_of) gl hm (by rfl) ha (by decide) (by decide) he hpl
theorem f_listM (c : Ok X C E k) (hm : X.mg "list" = none) (ha : RA X C E (x :: es) w) (gl : Gl X "list" := by rfl) (he : starEach (x :: es) X.env = (false, eval x X.env) :: starEach es X.env := by rfl) (hpl : (backTo pos (starEach es X.env)).any (·.1) = false := by rfl) :
    RE X C E (.Call (.Name "list" p) (x :: es) [] pos) (wFn gListM w) := re_ty lf_listM (by rw [← c.hK]; exact call_list_of) gl hm (by rfl) ha (by decide) (by decide) he hpl
theorem f_tuple (c : Ok X C E k) (hm : X.mg "tuple" = none) (ha : RA X C E (x :: es) w) (gl : Gl X "tuple" := by rfl) (he : starEach (x :: es) X.env = (false, eval x X.env) :: starEach es X.env := by rfl) (hpl : (backTo pos (starEach es X.env)).any (·.1) = false := by rfl) :
    RE X C E (.Call (.Name "tuple" p) (x :: es) [] pos) (wFn gTuple w) := re_ty lf_tuple (by rw [← c.hK]; exact call_tuple_of) gl hm (by rfl) ha (by decide) (by decide) he hpl
theorem f_isi (c : Ok X C E k) {nT : Str} {p2 : Pos} (T : String) (hm : X.mg "isinstance" = none) (hmT : X.mg nT = none) (ha : RE X C E x wa) (hv : bootBuiltins nT = some (.type T) := by rfl) (gl : Gl X "isinstance" := by rfl) (glT : Gl X nT := by rfl) (hn : nT ≠ "__name__" := by decide) (hdb : (nT == ("__debug__" : Str)) = false := by decide)
    (he : starEach [x, .Name nT p2] X.env = (false, eval x X.env) :: starEach [.Name nT p2] X.env := by rfl) (hs : starEach [Expr.Name nT p2] X.env = (false, eval (.Name nT p2) X.env) :: starEach [] X.env := by rfl) (hpl : (backTo pos (starEach [Expr.Name nT p2] X.env)).any (·.1) = false := by rfl) :
    RE X C E (.Call (.Name "isinstance" p) [x, .Name nT p2] [] pos) (wIsi T wa) := re_isi c.hK gl hm glT hmT hv ha hn hdb he hs hpl
theorem m_append (c : Ok X C E k) (ho : RE X C E o wa) (ha : RA X C E (x :: es) w) (hbase : attributeBase o "append" X.env (eval o X.env) = eval o X.env := by rfl)
    (hfew : ((backTo pos (starEach (x :: es) X.env)).all (fun x => !x.1) && (backToKw pos (keywordEach [] X.env)).all (fun x => x.1.isSome)
      && decide ((x :: es).length + ([] : List Keyword).length + (if ([] : List Keyword).isEmpty then 0 else 1) < 30)) = true := by rfl)
    (hline : (apos.endLine == pos.line) = true := by rfl) (hs : starEach (x :: es) X.env = (false, eval x X.env) :: starEach es X.env := by rfl) (hpl : (backTo pos (starEach es X.env)).any (·.1) = false := by rfl) :
    RE X C E (.Call (.Attribute o "append" apos) (x :: es) [] pos) (wMt isLs gApp wa w) := re_mt c.hK lm_app PySem.F.plainAttrs_list PySem.F.slot_list_append PySem.F.type_list_append mt_append ho ha hbase hfew hline hs hpl
theorem m_join (c : Ok X C E k) (ho : RE X C E o wa) (ha : RA X C E (x :: es) w) (hbase : attributeBase o "join" X.env (eval o X.env) = eval o X.env := by rfl)
    (hfew : ((backTo pos (starEach (x :: es) X.env)).all (fun x => !x.1) && (backToKw pos (keywordEach [] X.env)).all (fun x => x.1.isSome)
      && decide ((x :: es).length + ([] : List Keyword).length + (if ([] : List Keyword).isEmpty then 0 else 1) < 30)) = true := by rfl)
    (hline : (apos.endLine == pos.line) = true := by rfl) (hs : starEach (x :: es) X.env = (false, eval x X.env) :: starEach es X.env := by rfl) (hpl : (backTo pos (starEach es X.env)).any (·.1) = false := by rfl) :
    RE X C E (.Call (.Attribute o "join" apos) (x :: es) [] pos) (wMt isS gJoin wa w) := re_mt c.hK lm_join PySem.F.plainAttrs_str PySem.F.slot_str_join PySem.F.type_str_join (by rw [← c.hK]; exact mt_join) ho ha hbase hfew hline hs hpl
theorem m_pop (c : Ok X C E k) (ho : RE X C E o wa) (hbase : attributeBase o "pop" X.env (eval o X.env) = eval o X.env := by rfl) (hline : (apos.endLine == pos.line) = true := by rfl) :
    RE X C E (.Call (.Attribute o "pop" apos) [] [] pos) (wMt isLs gPop wa wNil) := re_mt0 c.hK lm_pop PySem.F.plainAttrs_list PySem.F.slot_list_pop PySem.F.type_list_pop mt_pop ho hbase hline
/-! walks -/
theorem i_rg1 (c : Ok X C E k) {tg : Expr} (hm : X.mg "range" = none) (ha : RE X C E a wa) (hg : Gl X "range" := by rfl) (hs : starEach [a] X.env = [(false, eval a X.env)] := by rfl) : RI X C E tg (.Call (.Name "range" p) [a] [] pos) (wRg1 wa) := ri_rg1 hg hm ha hs
theorem i_rg2 (c : Ok X C E k) {tg : Expr} (hm : X.mg "range" = none) (ha : RE X C E a wa) (hb : RE X C E b wb) (hg : Gl X "range" := by rfl) (hs : starEach [a, b] X.env = [(false, eval a X.env), (false, eval b X.env)] := by rfl) (hs2 : starEach [b] X.env = [(false, eval b X.env)] := by rfl) :
    RI X C E tg (.Call (.Name "range" p) [a, b] [] pos) (wRg2 wa wb) := ri_rg2 hg hm ha hb hs hs2
theorem i_val (c : Ok X C E k) {tg : Expr} (ha : RE X C E a wa) : RI X C E tg a (wIt wa) := ri_val c.hK ha
section
variable {tge iter elt ke ve : Expr} {ifs : List Expr} {scope : Scope} {tg : Tg} {it : WA} {tt : WT} {el ek ev : WE}
theorem d_lc (c : Ok X C E k) (own : List (Str × Nat)) (tg : Tg) (hi : RI X C E tge iter it) (hg : ∀ s H Ca cl fp, TgIs (X.blk s H scope (compEnvC scope cl Ca X.env) fp) tge tg) (ht : ∀ s H Ca cl fp, RTs (X.blk s H scope (compEnvC scope cl Ca X.env) fp) C E0 ifs tt)
    (he : ∀ s H Ca cl fp, RE (X.blk s H scope (compEnvC scope cl Ca X.env) fp) C E0 elt el) (ok : blkC X.N X.env.scope scope own = true := by decide +kernel) (hv : ∀ i ∈ tg.ix, i ∈ own.map (·.2) := by decide) (hs : ∀ x, foldedSetIterable iter X.env x = pure x := by intro _; rfl) :
    RE X C E (.ListComp elt [⟨tge, iter, ifs, 0⟩] scope pos) (wLc tg (own.map (·.2)) it tt el) := re_lc c.hK c.hc c.hN hi ok hv hg ht he hs
theorem d_dc (c : Ok X C E k) (own : List (Str × Nat)) (tg : Tg) (hi : RI X C E tge iter it) (hg : ∀ s H Ca cl fp, TgIs (X.blk s H scope (compEnvC scope cl Ca X.env) fp) tge tg) (ht : ∀ s H Ca cl fp, RTs (X.blk s H scope (compEnvC scope cl Ca X.env) fp) C E0 ifs tt)
    (hk : ∀ s H Ca cl fp, RE (X.blk s H scope (compEnvC scope cl Ca X.env) fp) C E0 ke ek) (he : ∀ s H Ca cl fp, RE (X.blk s H scope (compEnvC scope cl Ca X.env) fp) C E0 ve ev) (ok : blkC X.N X.env.scope scope own = true := by decide +kernel) (hv : ∀ i ∈ tg.ix, i ∈ own.map (·.2) := by decide)
    (hs : ∀ x, foldedSetIterable iter X.env x = pure x := by intro _; rfl) : RE X C E (.DictComp ke ve [⟨tge, iter, ifs, 0⟩] scope pos) (wDc tg (own.map (·.2)) it tt ek ev) := re_dc c.hK c.hc c.hN hi ok hv hg ht hk he hs
theorem s_lc (c : Ok X C E k) (own : List (Str × Nat)) (tg : Tg) (i : Nat) {y : Str} {py spos : Pos} (hi : RI X C E tge iter it) (hg : ∀ s H Ca cl fp, TgIs (X.blk s H scope (compEnvC scope cl Ca X.env) fp) tge tg) (ht : ∀ s H Ca cl fp, RTs (X.blk s H scope (compEnvC scope cl Ca X.env) fp) C E0 ifs tt)
    (he : ∀ s H Ca cl fp, RE (X.blk s H scope (compEnvC scope cl Ca X.env) fp) C E0 elt el) (hy : X.N[i]? = some y := by rfl) (hyl : X.env.scope.names.lookup y = some .local := by rfl) (hsw : swapsWith (.ListComp elt [⟨tge, iter, ifs, 0⟩] scope pos) (some (.Name y py)) spos.line X.env = pure true := by exact sw_true rfl rfl rfl (by decide +kernel))
    (ok : blkC X.N X.env.scope scope own = true := by decide +kernel) (hv : ∀ i ∈ tg.ix, i ∈ own.map (·.2) := by decide) (hs : ∀ x, foldedSetIterable iter X.env x = pure x := by intro _; rfl) :
    RS X C E (.Assign [.Name y py] (.ListComp elt [⟨tge, iter, ifs, 0⟩] scope pos) spos) (wAsg (.nm i) (wLc tg (own.map (·.2)) it tt el)) := rs_setLc c.hK c.hc c.hN hy hyl hsw hi ok hv hg ht he hs
end
theorem g_nm {i : Nat} {x : Str} {pos : Pos} (hi : X.N[i]? = some x := by rfl) (hx : Loc X.env.scope x := by first | exact .inl rfl | exact .inr rfl) (hf : X.fn x = true ∨ X.env.scope.names.lookup x = some .local := by first | exact .inl rfl | exact .inr rfl) : TgIs X (.Name x pos) (.nm i) := .nm hi hx hf
theorem g_cons {x : Str} {i : Nat} {pos : Pos} {es : List Expr} {is : List Nat} (r : NmIx X es is) (hi : X.N[i]? = some x := by rfl) (hx : Loc X.env.scope x := by first | exact .inl rfl | exact .inr rfl) (hf : X.fn x = true ∨ X.env.scope.names.lookup x = some .local := by first | exact .inl rfl | exact .inr rfl) : NmIx X (.Name x pos :: es) (i :: is) := .cons hi hx hf r
/-! statements -/
variable {sts s2 : List Stmt} {ws w2 : WS} {wt : WT} {t : Expr}
theorem s_set (c : Ok X C E k) (i : Nat) {y : Str} (h : RE X C E x wa) (hi : X.N[i]? = some y := by rfl) (hx : Loc X.env.scope y := by first | exact .inl rfl | exact .inr rfl) (hf : X.fn y = true ∨ X.env.scope.names.lookup y = some .local := by first | exact .inl rfl | exact .inr rfl)
    (hs : swapsWith x (some (.Name y pos')) pos.line X.env = pure false := by rfl) : RS X C E (.Assign [.Name y pos'] x pos) (wAsg (.nm i) wa) := rs_set c.hN hi hx hf h hs
theorem s_unp (c : Ok X C E k) {tg : Expr} {g : Tg} (hg : TgIs X tg g) (h : RE X C E x wa) (hs : swapsWithSole [tg] x pos.line X.env = pure false := by rfl) (hw : swappedStores [tg] x X.env = pure none := by rfl) (h1 : (assignEach [tg] X.env).map (·.2) = [assign tg X.env] := by rfl) : RS X C E (.Assign [tg] x pos) (wAsg g wa) := rs_unp c.hK c.hc c.hN hg h hs hw h1
theorem s_par2 (c : Ok X C E k) (i j : Nat) {x y : Str} {px py pt : Pos} {kt k2 pt2} (ha : RA X C E [a, b] w) (hi : X.N[i]? = some x := by rfl) (hj : X.N[j]? = some y := by rfl) (hij : i ≠ j := by decide) (hx : X.env.scope.names.lookup x = some .local := by rfl) (hy : X.env.scope.names.lookup y = some .local := by rfl)
    (hw : swappedStores [.Tuple [.Name x px, .Name y py] kt pt] (.Tuple [a, b] k2 pt2) X.env = pure (some [x, y]) := by rfl) (hs : swapsWithSole [.Tuple [.Name x px, .Name y py] kt pt] (.Tuple [a, b] k2 pt2) pos.line X.env = pure false := by rfl) :
    RS X C E (.Assign [.Tuple [.Name x px, .Name y py] kt pt] (.Tuple [a, b] k2 pt2) pos) (wPar [i, j] w) := rs_par c.hc c.hN hi hj hij hx hy ha hw hs
theorem s_par3 (c : Ok X C E k) (i j l : Nat) {x y z : Str} {px py pz pt : Pos} {kt k2 pt2} (ha : RA X C E [a, b, d] w) (hi : X.N[i]? = some x := by rfl) (hj : X.N[j]? = some y := by rfl) (hl : X.N[l]? = some z := by rfl) (hij : i ≠ j := by decide) (hil : i ≠ l := by decide) (hjl : j ≠ l := by decide)
    (hx : X.env.scope.names.lookup x = some .local := by rfl) (hy : X.env.scope.names.lookup y = some .local := by rfl) (hz : X.env.scope.names.lookup z = some .local := by rfl)
    (hw : swappedStores [.Tuple [.Name x px, .Name y py, .Name z pz] kt pt] (.Tuple [a, b, d] k2 pt2) X.env = pure (some [x, y, z]) := by rfl) (hs : swapsWithSole [.Tuple [.Name x px, .Name y py, .Name z pz] kt pt] (.Tuple [a, b, d] k2 pt2) pos.line X.env = pure false := by rfl) :
    RS X C E (.Assign [.Tuple [.Name x px, .Name y py, .Name z pz] kt pt] (.Tuple [a, b, d] k2 pt2) pos) (wPar [i, j, l] w) := rs_par3 c.hc c.hN hi hj hl hij hil hjl hx hy hz ha hw hs
theorem s_do (c : Ok X C E k) (h : RE X C E x wa) (hs : swapsWith x none pos.line X.env = pure false := by rfl) : RS X C E (.Expr x pos) (wDo wa) := rs_do h hs
theorem s_dput (c : Ok X C E k) (ho : RE X C E o wa) (hi : RE X C E a wb) (hd : RE X C E d wd) (hs : swapsWith d (some (.Subscript o a pos')) pos.line X.env = pure false := by rfl) : RS X C E (.Assign [.Subscript o a pos'] d pos) (wDPut wa wb wd) := rs_dput c.u1 ho hi hd hs
theorem s_for (c : Ok X C E k) {tg iter : Expr} {g : Tg} {wi : WA} (hi : RI X C E tg iter wi) (hg : TgIs X tg g) (hb : RSs X C E sts ws) (hs : ∀ x, foldedSetIterable iter X.env x = pure x := by intro _; rfl) : RS X C E (.For tg iter sts [] pos) (wFor g wi ws) := rs_for c.hK c.po c.hc c.hN hi hg hb hs
theorem s_whl (c : Ok X C E k) (ht : RT X C E t wt) (hb : RSs X C E sts ws) : RS X C E (.While t sts [] pos) (wWhl wt ws) := rs_whl c.po ht hb
theorem s_raise (c : Ok X C E k) {cn : Str} {B fI : Addr} {pos2 : Pos} (T : RX.ErrTxt C.K cn (fldOf cn) (He.ga C.K cn) B fI) (gC : X.mg cn = some (.ref (He.ga C.K cn))) (ha : RA X C E [a] w) (hg : Gl X cn := by rfl) (hdb : (cn == ("__debug__" : Str)) = false := by decide)
    (he : starEach [a] X.env = (false, eval a X.env) :: starEach [] X.env := by rfl) (hpl : (backTo pos (starEach [] X.env)).any (·.1) = false := by rfl) : RS X C E (.Raise (some (.Call (.Name cn p) [a] [] pos)) none pos2) (wRaise cn w) := rs_raise c.hc (by rw [c.hK]; exact T) gC c.rm c.tk hg ha hdb he hpl
end
end RF

set_option Elab.async false
set_option linter.all false
set_option maxRecDepth 100000
set_option maxHeartbeats 1000000
/-! Part D4: range with a step, a turned list that is to change, the context of a lambda's body. -/
namespace RF
open PySem PySem.Spec L2
def intsC (lo c : Int) (n : Nat) : List PV := (List.range n).map fun (i : Nat) => .int (lo + i * c)
def wRg3 (a b d : WE) : WA := fun σ hp e Q => a σ hp e fun p h1 => b σ h1 e fun q h2 => d σ h2 e fun r h => ∃ (i j c : Int) (n : Nat), p = .int i ∧ q = .int j ∧ r = .int c ∧ RgC i j c n ∧ Q (intsC i c n) h
theorem wk_rngC {C : Cfg} {μ : List Addr} {H : Hp} {lo c : Int} {n : Nat} : Wk C (Itc lo c n) μ H (intsC lo c n) where
  go := fun μ' H' i u hi => by
    simp only [intsC, List.length_map, List.length_range] at hi
    exact hi
  yl := fun μ' H' i x H'' p u hp ⟨e, hx⟩ => by
    subst e hx
    simp only [intsC, List.getElem?_map] at hp
    obtain ⟨k, hr, hk⟩ := Option.map_eq_some_iff.mp hp
    obtain ⟨_, e⟩ := List.getElem?_eq_some_iff.mp hr
    have hk2 : k = i := by simpa using e.symm
    subst hk2
    subst hk
    exact ⟨.int', .refl, fun _ z => z⟩
  st := fun μ' H' i u hi => by
    simp only [intsC, List.length_map, List.length_range] at hi
    exact hi
section
variable {X : Cx} {C : Cfg} {E : XK} {k : Nat} {a b d : Expr} {wa wb wd : WE} {pos p : Pos}
theorem i_rg3 (c : Ok X C E k) {tg : Expr} (hm : X.mg "range" = none) (ha : RE X C E a wa) (hb : RE X C E b wb) (hd : RE X C E d wd) (hg : Gl X "range" := by rfl) (hs : starEach [a, b, d] X.env = (false, eval a X.env) :: starEach [b, d] X.env := by rfl)
    (hs2 : starEach [b, d] X.env = (false, eval b X.env) :: starEach [d] X.env := by rfl) (hs3 : starEach [d] X.env = (false, eval d X.env) :: starEach [] X.env := by rfl) (hpl : (backTo pos (starEach [b, d] X.env)).any (·.1) = false := by rfl) :
    RI X C E tg (.Call (.Name "range" p) [a, b, d] [] pos) (wRg3 wa wb wd) := by
  refine ⟨fun σ hp e Q Q' i q => ha.mo _ _ _ _ _ (fun p h1 q1 => hb.mo _ _ _ _ _ (fun p h2 q2 => hd.mo _ _ _ _ _ (fun p h ⟨i1, j, c1, n, e1, e2, e3, l1, q1⟩ => ⟨i1, j, c1, n, e1, e2, e3, l1, i _ _ q1⟩) q2) q1) q,
    PI.imp (pi_range3 hg hm (pa_cons ha.pe (pa_cons hb.pe (pa_cons hd.pe pa_nil hs3) hs2) hs) hs hpl) fun σ H R ⟨μ, hp, σI, e, A, s, q⟩ => ?_⟩
  refine tE.go ha.mo A s q fun p h1 μ1 H1 v q1 u1 A1 s1 r1 => ?_
  refine tE.go hb.mo A1 s1 q1 fun p2 h2 μ2 H2 v2 q2 u2 A2 s2 r2 => ?_
  refine tE.go hd.mo A2 s2 q2 fun p3 h3 μ3 H3 v3 ⟨i, j, c1, n, e1, e2, e3, l1, q3⟩ u3 A3 s3 r3 => ?_
  subst e1 e2 e3
  exact ⟨i, j, c1, n, by rw [r1.intI, r2.intI, r3.intI], l1, q3 μ3 H3 ((u1.trans u2).trans u3) A3.hr _ wk_rngC⟩
def wRevLM (a : WE) : WE := fun σ hp e Q => a σ hp e fun p h => ∃ ps, asL h p = some ps ∧ nls ps.reverse = true ∧ ∀ n, h n = none → Q (.loc n) (put h n (.lst ps.reverse))
theorem d_revM (c : Ok X C E k) {j : Nat} {p1 p3 p4 : Pos} (ha : RE X C E a wa) : RE X C E (.Subscript a (.Slice none none (some (.UnaryOp .USub (.Constant (.int 1) j p1) p3)) p4) pos) (wRevLM wa) := by
  refine ⟨fun σ hp e Q Q' i q => ha.mo _ _ _ _ _ (fun p h ⟨ps, e1, f, q⟩ => ⟨ps, e1, f, fun n hn => i _ _ (q n hn)⟩) q, PE.imp (PE.fz (pe_revL ha.pe)) fun σ H Q ⟨μ, hp, σI, e, A, s, q⟩ => ?_⟩
  refine tE.go ha.mo A s q fun p h1 μ1 H1 v ⟨ps, e1, f, q1⟩ u1 A1 s1 r1 => ?_
  obtain ⟨a, vs, rfl, hs, rs⟩ := asL_sq A1.hr r1 e1
  exact ⟨a, vs, rfl, by rw [c.hK]; exact hs, fun p np => fE.newM (fun n hn => fE.up (q1 n hn) u1) A1.hr rs.reverse np f⟩
end
theorem ok_lam {X : Cx} {C : Cfg} {E : XK} {k j : Nat} (c : Ok X C E k) (A : Around) (out : List Env) (s : Shared) (H : Hp) (Eb : XK) {scope : Scope} (f c' : Addr) (g : Calm A) (r : Room j (A.deeper (LamX.lamEnv X scope s.heap.objs.size f c'))) : Ok (LamX.lamCx X A out s H Eb scope f c') C Eb j :=
  ⟨c.hK, rfl, c.hN, takes_of rfl rfl rfl rfl, passes_of (E₁ := fun e' s'' => L2.CX X.prog X.w out H s Eb e' s'') rfl, r, g⟩
end RF

set_option Elab.async false
set_option linter.all false
set_option maxRecDepth 100000
set_option maxHeartbeats 1000000
/-! Part D5: a def's code object known; the call of the trying def; short words for a suite. -/
namespace RF
open PySem PySem.Spec L2
open PyProof.Rows (envOfC)
section
variable {P : Program} {w : World} {C : Cfg} {mg : Str → Option Value} {base : Heap} {k n : Nat} {fd : FuncData} {ps : List Str}
/-- the rule for a def of the top, whose code object is known -/
theorem fnRc {x : Str} {params : Arguments} {body : List Stmt} {scope : Scope} {dvs : List V} {kws : List (Str × V)} {N : List Str} {ws : WS} (F : FunD C.K x x params body scope dvs kws (He.ga C.K x) fd) (S : FnScope N ps scope) (hn : ps.length = n)
    (hb : ∀ (A : Around) (out : List Env) (s : Shared) (H : Hp) (E : XK) (cdv : Value) (X : Cx), cdv = .ref (RH.codeAd C.K x) → X = cxOf (L2.CX P w) P w C.K mg base N x scope (He.ga C.K x) cdv A out s H E → Ok X C E k → RSs X C E body ws) :
    FnG P w C.K mg base (k + 1) (He.ga C.K x) fd ps (spI C n (wFun N.length ws)) := by
  obtain ⟨oc, od, dV, kV, doc, pm, an, cdv, ct, osl, rfl, look, code, h1, h2⟩ := F.ex
  have hc : cdv = .ref (RH.codeAd C.K x) := by
    unfold PySem.W.codeIn at code
    split at code
    · unfold RH.codeAd
      rw [look]
    · cases code
  refine ⟨fun vs H Q E h => by rw [h.1, hn], fun A out s H args us vs Q E g room e0 bind rel h => ?_⟩
  obtain ⟨hl, μ, hp, qs, e, a, rv, q⟩ := h
  refine LamX.run_ofS look code S room e0 bind rel (by rw [hl, hn]) fun room' => ?_
  have R := hb A out s H E cdv _ hc rfl (ok_body S.nd g room')
  refine ⟨_, R.ps, ?_⟩
  refine tS.go R.mo a (sr_start rv) q ⟨fun _ h q => ?_, fun _ h q => fE.less q, fun _ _ q => q.elim, fun _ _ q => q.elim⟩
  exact fun μ' H' σ u r s => fE.less q μ' H' .non u r .non'
end
/-- a def that calls what it gets and catches -/
structure Tried (P : Program) (w : World) (C : Cfg) (mg : Str → Option Value) (base : Heap) (x a : Str) (st : Stmt) (Ng : List Str) (j : Nat) (bt : BT) (bw : Addr → WL → WS) : Prop where
  g : mg x = some (.ref (He.ga C.K x))
  kp : PySem.W.keepIn C.K (.ref (He.ga C.K x)) = true
  ex : ∃ fd dvs kws, FunD C.K x x (defArgs st) (defBody st) (defScope st) dvs kws (He.ga C.K x) fd ∧ Binds C.K fd [a] []
  sc : FnScope Ng [a] (defScope st)
  va : Vis (defScope st) a
  mbt : ∀ w hp Q Q', (∀ p h, Q p h → Q' p h) → bt w hp Q → bt w hp Q'
  bg : ∀ (C' : Cfg) (Z : Cx) (cdv : Value) (A : Around) (out : List Env) (s : Shared) (H : Hp) (f : Addr) (wA : WL), Z = cxOf (L2.CX P w) P w C.K mg base Ng x (defScope st) (He.ga C.K x) cdv A out s H E0 → C'.K = C.K → MoL wA →
    (∀ pn xe Eb p1 p2, Takes (Z.tr pn xe) (fun cls d _ H => Eb cls d H) → RE (Z.tr pn xe) C' Eb (.Call (.Name a p1) [] [] p2) (wAct f wA)) → Calm Z.A → Room j Z.A → RSs Z C' E0 (defBody st) (bw f wA)
  bt : ∀ f w hp Q, MoL w → bt w hp Q → bw f w (some (.ref f) :: List.replicate (Ng.length - 1) none) hp eNo { nx := fun _ h => ∃ h', leP h' h ∧ Q .non h', rt := fun p h => ∃ h', leP h' h ∧ Q p h' }
section
variable {X : Cx} {C : Cfg} {E : XK} {k : Nat}
theorem d_lam {x a : Str} {st : Stmt} {Ng : List Str} {j : Nat} {bt : BT} {bw : Addr → WL → WS} {cc Pt : Addr} {q : Str} {params : Arguments} {body : Expr} {scope : Scope} {wl : WE} {p lpos pos : Pos} (c : Ok X C E k) (T : Tried X.prog X.w C X.mg X.base x a st Ng (j + 1) bt bw) (hj : j + 2 ≤ k)
    (TB : LamX.TabB X.base X.mg cc Pt) (hcode : X.env.code = .ref cc) (hT : C.T = [(Pt, q)]) (hbody : ∀ A out s H Eb f c', Ok (LamX.lamCx X A out s H Eb scope f c') C Eb j → RE (LamX.lamCx X A out s H Eb scope f c') C Eb body wl) (L : LamX.LamS X.env.scope scope)
    (hq : q = X.env.qual ++ "<lambda>" := by rfl) (gl : Gl X x := by rfl) (hdef : defaultsOf params X.env = ([], []) := by rfl) (hbind : ∀ (q : Str) (cl : List (Str × Addr)) (pm cv ctv : Value), bindArgs (PySem.W.kla_fn "<lambda>" q params body scope cl pm cv ctv) ⟨[], []⟩ = pure [] := by intros; rfl)
    (hdb : (x == ("__debug__" : Str)) = false := by decide) (hd : (a == ("__debug__" : Str)) = false := by decide) (hcd : (a == ("__classdict__" : Str)) = false := by decide) :
    RE X C E (.Call (.Name x p) [.Lambda params body scope lpos] [] pos) (wLam wl bt) := by
  obtain ⟨fd, dvs, kws, F, b⟩ := T.ex
  subst hq
  have hK := c.hK
  refine re_lam hK gl T.g (by rw [hK]; exact T.kp) (by rw [hK]; exact F) (by rw [hK]; exact b) T.sc T.va TB hcode (by rw [hT]; exact List.mem_singleton.mpr rfl) (fun z hz e => by
    rw [hT] at hz
    cases List.mem_singleton.mp hz
    rfl) (c.rm.mono hj) c.cm L hdef hbind (fun A out s H Eb f c' g r => hbody A out s H Eb f c' (ok_lam c A out s H Eb f c' g r)) T.mbt (fun cdv s H f C' w e m act g r => ?_) T.bt hdb hd hcd
  refine T.bg C' _ cdv X.A X.stack s H f w ?_ e m act g r
  show cxOf _ X.prog X.w X.K X.mg X.base Ng x (defScope st) (He.ga C.K x) cdv X.A X.stack s H E0 = _
  rw [hK]
end
/-! ### short words in a suite -/
theorem cr_reprU {X : Cx} (un : X.A.units + 200 < cLine) (hG : Calm X.A) : CallR X (.builtin "repr") (rRepr X) := by
  intro pins s σ H xs us Q I r h
  obtain ⟨x, d, rfl, rd, ⟨h1, h2, h3⟩, q⟩ := h
  cases r with
  | cons r1 rs =>
    cases rs
    obtain ⟨as, rr, no⟩ := rd pins σ s _ I r1
    have fin : ∀ (h' : Heap) (u tk : Tok), (∀ b o, s.heap.get? b = some o → h'.get? b = some o) → EP X pins σ Q (.str d.shown u) { s with heap := h', toks := tk } := fun h' u tk hk => ⟨.str d.shown, H, I.kept hk, ⟨u, rfl⟩, q⟩
    have ref : ∀ {a : Addr}, Reads s.heap (.ref a) d as → wpAny (model X.prog X.w) X.A (call (.builtin "repr") [.ref a]) (EP X pins σ Q) X.xe s := fun rr =>
      PySem.repr_of_reads' rr h1 no hG (by omega) (fun _ _ e => e) fin h3
    cases rr with
    | none => exact PySem.P.repr_of_none (fin s.heap _ _ fun _ _ e => e)
    | bool b => exact PySem.P.repr_of_bool (fin s.heap _ _ fun _ _ e => e)
    | int i t => exact PySem.P.repr_of_int (by simpa [PyData.showable] using h1) (fin s.heap _ _ fun _ _ e => e)
    | str y t => exact PySem.P.repr_of_str (fin s.heap _ _ fun _ _ e => e) h3
    | list e1 e2 e3 e4 => exact ref (.list e1 e2 e3 e4)
    | tuple e1 e2 e3 e4 => exact ref (.tuple e1 e2 e3 e4)
    | dict e1 e2 e3 e4 e5 => exact ref (.dict e1 e2 e3 e4 e5)
/-- what a suite's context offers -/
structure Su (X : Cx) (C : Cfg) : Prop where
  hK : X.K = C.K
  un : X.A.units + 200 < cLine
  cm : Calm X.A
section
variable {X : Cx} {C : Cfg} {E : XK} {a b x : Expr} {wa wb : WE} {pos p : Pos} {es : List Expr} {w : WA}
theorem xd_str (c : Su X C) (i : Str) {j : Nat} {pos : Pos} (hl : i.length ≤ sizeLine := by rw [PySem.sizeLine_eq]; decide) : RE X C E (.Constant (.str i) j pos) (wC (.str i)) := re_c pe_str fun _ _ => .str' hl
theorem xd_int (c : Su X C) (i : Int) {j : Nat} {pos : Pos} : RE X C E (.Constant (.int i) j pos) (wC (.int i)) := re_c pe_int fun _ _ => .int'
theorem xd_bl (c : Su X C) (i : Bool) {j : Nat} {pos : Pos} : RE X C E (.Constant (.bool i) j pos) (wC (.bl i)) := re_c pe_bl fun _ _ => .bl'
theorem xd_non (c : Su X C) {j : Nat} {pos : Pos} : RE X C E (.Constant .none j pos) (wC .non) := re_c pe_non fun _ _ => .non'
theorem xd_var (c : Su X C) (i : Nat) {x : Str} {pos : Pos} (hN : X.N[i]? = some x := by rfl) (hv : Vis X.env.scope x := by first | exact .inl rfl | exact .inr (.inl rfl) | exact .inr (.inr rfl))
    (hd : (x == ("__debug__" : Str)) = false := by decide) (hcd : (x == ("__classdict__" : Str)) = false := by decide) : RE X C E (.Name x pos) (wVar i) := re_var hN hv hd hcd
theorem xa_cons (c : Su X C) (hx : RE X C E x wa) (hr : RA X C E es w) (hs : starEach (x :: es) X.env = (false, eval x X.env) :: starEach es X.env := by rfl) : RA X C E (x :: es) (wCons wa w) := ra_cons hx hr hs
theorem xf_repr (c : Su X C) (hm : X.mg "repr" = none) (ha : RA X C E (x :: es) w) (gl : Gl X "repr" := by rfl) (he : starEach (x :: es) X.env = (false, eval x X.env) :: starEach es X.env := by rfl) (hpl : (backTo pos (starEach es X.env)).any (·.1) = false := by rfl) :
    RE X C E (.Call (.Name "repr" p) (x :: es) [] pos) (wFn gRepr w) := re_fn (lf_repr c.hK) (cr_reprU c.un c.cm) gl hm (by rfl) ha (by decide) (by decide) he hpl
theorem xt_tru (c : Su X C) (ha : RE X C E a wa) (he : ∀ whole, isTrue a X.env whole = (do let v ← whole; standAt a.pos; holding [v] (truthy v)) := by intro _; rfl) : RT X C E a (wTru wa) := rt_tru c.hK ha he
theorem xt_in (c : Su X C) (ha : RE X C E a wa) (hb : RE X C E b wb) (hm : behindInMarks .In b = false := by rfl) : RT X C E (.Compare a [.In] [b] pos) (wCmpT cIn wa wb) := rt_cmp l_in (by rw [← c.hK]; exact op_inAll (by have := c.un; omega)) ha hb hm
end
theorem su_of {Z : Cx} {C' : Cfg} {a : Addr} {pn : List (Addr × Obj)} {j : Nat} (hK : Z.K = C'.K) (g : Calm Z.A) (r : Room j Z.A) : Su (Z.suite a pn) C' := ⟨hK, by have := r.un; show Z.A.units + 200 < cLine; omega, g⟩
end RF

set_option Elab.async false
set_option linter.all false
set_option maxRecDepth 100000
set_option maxHeartbeats 1000000
/-! Part E2: from the head to the law's call. -/
namespace RF
open PySem PySem.Spec L2 PyProof.Rows LamX
/-- what the head must yield of a law -/
structure LawG (P : Program) (w : World) (K : PySem.W.Frag) (mg : Str → Option Value) (h : Heap) (fa : Addr) (k n : Nat) (x : Str) (cs : List (Addr × Addr)) (T : List (Addr × Str)) (f : Cfg → WF) : Prop where
  hT : ∀ p ∈ cs, h.get? p.2 = some { cls := .none, data := .fields #[] }
  nT : ∀ p ∈ cs, K.lookup p.2 = none
  hC : ∀ p ∈ cs, PySem.W.CodeHd h p.1 p.2
  hTq : ∀ p ∈ T, p.1 ∈ cs.map (·.2)
  ex : ∃ fd : FuncData, (∀ (s : Shared) (u : Value), BindsTo s fd ⟨[u], []⟩ [(x, u)]) ∧
    ∀ (base : Heap) (a : Addr) (ns : List Int), K.In base → base.Ns mainGlobals mg → (∀ p ∈ cs, TabB base mg p.1 p.2) → FnG P w K mg base k fa fd [x] (spI ⟨K, T, [], [], [], [(a, ns)]⟩ 1 (f ⟨K, T, [], [], [], [(a, ns)]⟩))
  hf : ∀ (a : Addr) (ns : List Int), ns.length ≤ n → ∀ Q : KI, (∀ hp, Q (.bl true) hp) → f ⟨K, T, [], [], [], [(a, ns)]⟩ [.ref a] (fun _ => none) eNo Q
theorem walk_ofG {l : PySem.W.OpenLaw} {n k : Nat} {q : Program} {loose : List Str} {XP : (Str → Option Value) → Heap → Prop} {YP : World → Heap → Prop} {d : DefRec} {x : Str} (hn : l.most = some n) (hn2 : n ≤ sizeLine) (hdf : d.params.defaults = []) (room : Room k callerA)
    (F : ∀ (w : World) (mg : Str → Option Value) (fa : Addr) (h : Heap), YP w h → h.Ns mainGlobals mg → mg d.name = some (.ref fa) →
      ∃ (K : PySem.W.Frag) (cs : List (Addr × Addr)) (T : List (Addr × Str)) (f : Cfg → WF), K.In h ∧ LawG l.prog w K mg h fa k n x cs T f) :
    PySem.W.WalkO q loose XP YP l.row.toRowW d [] (fun f vs => PySem.call f vs) := by
  refine Att.attach_callB hn hdf ?_
  intro w s0 s1 mg mb fa o pm cd doc a vs ns G Y _ _ _ hmg here hints hlen _ hg
  obtain ⟨K, cs, T, f, kin, L⟩ := F w mg fa _ Y G.T.g hmg
  obtain ⟨fd, hb, hF⟩ := L.ex
  exact law_goG kin G.T.g G.T.b G.T.builtins G.T.nolimit hg L.hT L.nT L.hC G.T.bmain here hints (Nat.le_trans hlen hn2) room L.hTq (fun base h1 h2 h3 => hF base a ns h1 h2 h3) hb (L.hf a ns hlen)
end RF

set_option Elab.async false
set_option linter.all false
set_option maxRecDepth 100000
set_option maxHeartbeats 1000000
/-! Part Q1: repr of data with dicts at any depth. -/
namespace RF
open PySem PySem.Spec L2
mutual
def toR : PV → Option PyData
  | .non => some .none
  | .bl b => some (.bool b)
  | .int i => some (.int i)
  | .str s => some (.str s)
  | .tup ps => (toRs ps).map .tuple
  | .lst ps => (toRs ps).map .list
  | .dct ks => (toRks ks).map .dict
  | .loc _ => none
  | .ref _ => none
def toRs : List PV → Option (List PyData)
  | [] => some []
  | p :: ps => (toR p).bind fun d => (toRs ps).map fun ds => d :: ds
def toRks : List (Key × PV) → Option (List (PyData × PyData))
  | [] => some []
  | (k, p) :: r => (toR p).bind fun d => (toRks r).map fun ds => (keyD k, d) :: ds
end
section
variable {X : Cx} {pins : List (Addr × Obj)} {σ : St} {H : Hp} {s : Shared} {μ : List Addr}
mutual
theorem reads_rv (I : Inv X pins σ H s) (sm : H sysModules = none) : ∀ (p : PV) (v : V) (u : Value) (d : PyData), RV X.K μ H p v → RelV v u → toR p = some d → ∃ as, Reads s.heap u d as ∧ sysModules ∉ as
  | .non, v, u, d, r, ru, e => by
    cases e; rw [r.nonI] at ru; cases (show u = Value.none from ru); exact ⟨_, .none, by simp⟩
  | .bl b, v, u, d, r, ru, e => by
    cases e; rw [r.blI] at ru; cases (show u = Value.bool b from ru); exact ⟨_, .bool b, by simp⟩
  | .int i, v, u, d, r, ru, e => by
    cases e; rw [r.intI] at ru; obtain ⟨t, rfl⟩ := (show ∃ t, u = Value.int i t from ru); exact ⟨_, .int i t, by simp⟩
  | .str x, v, u, d, r, ru, e => by
    cases e; rw [r.strI] at ru; obtain ⟨t, rfl⟩ := (show ∃ t, u = Value.str x t from ru); exact ⟨_, .str x t, by simp⟩
  | .tup ps, v, u, d, r, ru, e => by
    simp only [toR, Option.map_eq_some_iff] at e
    obtain ⟨ds, e1, rfl⟩ := e
    simp only [RV] at r
    obtain ⟨a, vs, rfl, h1, h2⟩ := r
    cases ru
    obtain ⟨its, rv, ⟨o, ho, hc, n, hd⟩, _⟩ := I.tuple h1
    obtain ⟨as, q1, q2⟩ := reads_rvs I sm ps vs its ds h2 rv e1
    exact ⟨_, Reads.tuple ho hc hd q1, q2⟩
  | .lst ps, v, u, d, r, ru, e => by
    simp only [toR, Option.map_eq_some_iff] at e
    obtain ⟨ds, e1, rfl⟩ := e
    simp only [RV] at r
    obtain ⟨a, vs, rfl, h1, h2⟩ := r
    cases ru
    obtain ⟨its, rv, ⟨o, n, ho, hc, _, hd⟩, _⟩ := I.list (h1.sq (K := X.K))
    obtain ⟨as, q1, q2⟩ := reads_rvs I sm ps vs its ds h2 rv e1
    refine ⟨_, Reads.list ho hc hd q1, fun z => ?_⟩
    rcases List.mem_cons.mp z with z | z
    · obtain ⟨o2, h1⟩ := h1
      rw [← z, sm] at h1
      cases h1
    · exact q2 z
  | .dct ks, v, u, d, r, ru, e => by
    simp only [toR, Option.map_eq_some_iff] at e
    obtain ⟨ds, e1, rfl⟩ := e
    simp only [RV] at r
    obtain ⟨a, ws, rfl, h1, h2⟩ := r
    cases ru
    have rd : Rd H a (.dK ws) := .inr h1
    obtain ⟨_, ns, us, kv, o, es, ep, ho, ex, hd, _, pr, _⟩ := dk_rd I.hok rd
    obtain ⟨as, q1, q2, q3⟩ := reads_rks I sm ks ws us _ ds h2 kv pr e1
    refine ⟨_, Reads.dict ho ex.1 hd q1 q2, fun z => ?_⟩
    simp only [List.append_nil, List.mem_cons, List.cons_append, List.nil_append] at z
    rcases z with z | z
    · rw [← z] at ns
      simp at ns
    · exact q3 z
  | .loc _, _, _, _, _, _, e => by simp [toR] at e
  | .ref _, _, _, _, _, _, e => by simp [toR] at e
theorem reads_rvs (I : Inv X pins σ H s) (sm : H sysModules = none) : ∀ (ps : List PV) (vs : List V) (us : List Value) (ds : List PyData), RVs X.K μ H ps vs → Vals vs us → toRs ps = some ds → ∃ as, ReadsAll s.heap us ds as ∧ sysModules ∉ as
  | [], vs, us, ds, r, ru, e => by
    simp only [toRs, Option.some.injEq] at e
    subst e
    simp only [RVs] at r
    subst r
    cases ru
    exact ⟨_, .nil, by simp⟩
  | p :: ps, vs, us, ds, r, ru, e => by
    simp only [toRs, Option.bind_eq_some_iff, Option.map_eq_some_iff] at e
    obtain ⟨d, e1, ds', e2, rfl⟩ := e
    simp only [RVs] at r
    obtain ⟨w, ws, rfl, r1, r2⟩ := r
    cases ru with
    | cons a t =>
      obtain ⟨as, q1, q2⟩ := reads_rv I sm p w _ d r1 a e1
      obtain ⟨bs, q3, q4⟩ := reads_rvs I sm ps ws _ ds' r2 t e2
      exact ⟨_, .cons q1 q3, fun z => (List.mem_append.mp z).elim q2 q4⟩
theorem reads_rks (I : Inv X pins σ H s) (sm : H sysModules = none) : ∀ (ks : List (Key × PV)) (ws : List (Key × V)) (us : List (Key × Value)) (es : List DictEntry) (ds : List (PyData × PyData)), RKs X.K μ H ks ws → KV ws us → Pairs (mixKind X.prog X.w) es us → toRks ks = some ds →
    ∃ as, ReadsAll s.heap (es.map (·.key)) (ds.map (·.1)) [] ∧ ReadsAll s.heap (es.map (·.val)) (ds.map (·.2)) as ∧ sysModules ∉ as
  | [], ws, us, es, ds, r, kv, pr, e => by
    simp only [toRks, Option.some.injEq] at e
    subst e
    simp only [RKs] at r
    subst r
    cases kv
    cases pr
    exact ⟨[], .nil, .nil, by simp⟩
  | (k, p) :: ks, ws, us, es, ds, r, kv, pr, e => by
    simp only [toRks, Option.bind_eq_some_iff, Option.map_eq_some_iff] at e
    obtain ⟨d, e1, ds', e2, rfl⟩ := e
    simp only [RKs] at r
    obtain ⟨w1, ws, rfl, r1, r2⟩ := r
    cases kv with
    | cons a t =>
      cases pr with
      | cons h1 h2 h3 =>
        obtain ⟨a1, a2⟩ := a
        obtain ⟨as, q1, q2, q3⟩ := reads_rks I sm ks ws _ _ ds' r2 t h3 e2
        obtain ⟨bs, q4, q5⟩ := reads_rv I sm p w1 _ d r1 a2 e1
        refine ⟨bs ++ as, ReadsAll.cons (as := []) (bs := []) (key_reads ?_) q1, ReadsAll.cons ((congrArg (fun z => Reads s.heap z d bs) h2).mpr q4) q2, fun z => (List.mem_append.mp z).elim q5 q3⟩
        have h1 : keyIs _ _ = true := h1
        rw [← a1] at h1
        exact h1
end
end
end RF

set_option Elab.async false
set_option linter.all false
set_option maxRecDepth 100000
set_option maxHeartbeats 1000000
/-! Part Q2: repr of any datum. -/
namespace RF
open PySem PySem.Spec L2
/-- the written part holds the table of modules -/
def HasSys (K : PySem.W.Frag) : Prop := ∃ o, K.lookup sysModules = some o
theorem sys_free {X : Cx} {pins : List (Addr × Obj)} {σ : St} {H : Hp} {s : Shared} (I : Inv X pins σ H s) (h : HasSys X.K) : H sysModules = none := by
  obtain ⟨o, e⟩ := h
  exact (I.bs _ _ (I.mod.kin _ _ e)).2
/-- the datum of a value, a thing of the heap too -/
def toRh (hp : PH) (p : PV) : Option PyData := match p with
  | .loc n => (match hp n with
    | some (.lst ps) => (toRs ps).map .list
    | some (.dct ks) => (toRks ks).map .dict
    | none => none)
  | p => toR p
theorem reads_ofD {X : Cx} {C : Cfg} (hK : X.K = C.K) (sy : HasSys X.K) {μ : List Addr} {H : Hp} {hp : PH} {p : PV} {v : V} {d : PyData} (r : HR C μ H hp) (rv : RV C.K μ H p v) (h : toRh hp p = some d) : ReadsV X H v d := by
  intro pins σ s u I ru
  have sm := sys_free I sy
  have flat : ∀ p, RV C.K μ H p v → toR p = some d → ∃ as, Reads s.heap u d as ∧ (d.hasDict = true → sysModules ∉ as) := fun p rv e => by
    obtain ⟨as, q1, q2⟩ := reads_rv I sm p v u d (by rw [hK]; exact rv) ru e
    exact ⟨as, q1, fun _ => q2⟩
  cases p with
  | loc n =>
    simp only [toRh] at h
    cases e : hp n with
    | none => rw [e] at h; cases h
    | some c =>
      rw [e] at h
      obtain ⟨a, ev, ea⟩ := rv.locI
      obtain ⟨a', ea', cr⟩ := r.cell n c e
      rw [ea] at ea'
      cases ea'
      subst ev
      cases ru
      cases c with
      | lst ps =>
        obtain ⟨ds, e1, rfl⟩ := Option.map_eq_some_iff.mp h
        obtain ⟨vs, hv, rr⟩ := cr
        have sq : SqL X.K H a vs := .inl (.inl hv)
        obtain ⟨its, rv2, ⟨o, n, ho, hc, _, hd⟩, _⟩ := I.list sq
        obtain ⟨as, q1, q2⟩ := reads_rvs I sm ps vs its ds (by rw [hK]; exact rr) rv2 e1
        refine ⟨_, Reads.list ho hc hd q1, fun _ z => ?_⟩
        rcases List.mem_cons.mp z with z | z
        · rw [← z, sm] at hv
          cases hv
        · exact q2 z
      | dct ks =>
        obtain ⟨ds, e1, rfl⟩ := Option.map_eq_some_iff.mp h
        obtain ⟨ws, hv, rr⟩ := cr
        have rd : Rd H a (.dK ws) := .inl hv
        obtain ⟨_, ns, us, kv, o, es, ep, ho, ex, hd, _, pr, _⟩ := dk_rd I.hok rd
        obtain ⟨as, q1, q2, q3⟩ := reads_rks I sm ks ws us _ ds (by rw [hK]; exact rr) kv pr e1
        refine ⟨_, Reads.dict ho ex.1 hd q1 q2, fun _ z => ?_⟩
        simp only [List.append_nil, List.mem_cons, List.cons_append, List.nil_append] at z
        rcases z with z | z
        · rw [← z] at ns
          simp at ns
        · exact q3 z
  | _ => exact flat _ rv h
def gRepD : GA := gF1 fun p hp q => ∃ d, toRh hp p = some d ∧ Showy d ∧ q = .str d.shown
theorem lf_repD {X : Cx} {C : Cfg} (hK : X.K = C.K) (sy : HasSys X.K) : LFn C (rRepr X) gRepD := ⟨gF1.mo, fun μ H hp ps vs Q r rv ⟨p, q, e, ⟨d, e1, e2, e3⟩, h⟩ => by
  subst e e3
  obtain ⟨v, rfl, r1⟩ := rv.one
  exact ⟨v, d, rfl, reads_ofD hK sy r r1 e1, e2, fzk (h μ H _ .refl r (.str' e2.2.2))⟩⟩
end RF

set_option Elab.async false
set_option linter.all false
set_option maxRecDepth 100000
set_option maxHeartbeats 1000000
/-! Part Q3: a dict equals nothing of another kind. -/
namespace RF
open PySem PySem.Spec L2
section
variable {prog : Program} {w : World} {A : Around} {s : Shared} {l : Addr} {v : Value} {T : String} {E : Value → Shared → Prop} {Q : Value → Shared → Prop}
theorem dict_declines (hl : s.TypeIs (.ref l) "dict") (hv : s.TypeIs v T) (hs : isSubtype (.type T) (.type "dict") = pure false) (h : Q .notImplemented s) : wpAny (model prog w) A (call (.builtin "dict.__eq__") [.ref l, v]) Q E s := by
  refine wpAny_call_entry PySem.F.slot_dict_eq hl PySem.F.entry_dict_eq ?_ (PySem.F.args_dict_eq_2 _ _)
  show wpAny _ _ (Builtin.Dict.dictSlotArgs "__eq__" ⟨[.ref l, v], []⟩ >>= _) _ _ s
  refine wpAny_bind ?_
  unfold Builtin.Dict.dictSlotArgs
  refine wpAny_bind (wpAny_notOrdered_dict hl ?_)
  show wpAny _ _ (pure (Value.ref l, v)) _ _ s
  refine wpAny_pure ?_
  refine wpAny_bind (wpAny_isInstance (T := T) hv hs ?_)
  simp only [Bool.not_false, if_true]
  refine wpAny_bind (wpAny_rule ?_)
  exact wpAny_pure ⟨_, rfl, h⟩
end
end RF

set_option Elab.async false
set_option linter.all false
set_option maxRecDepth 100000
set_option maxHeartbeats 1000000
/-! Part Q4: numbers and texts decline a dict. -/
namespace RF
open PySem PySem.Spec L2
theorem int_declines_dict (b : Int) (u : Tok) (l : Addr) (es : Array DictEntry) (n : Nat) (dd : Option Addr) (sl : Array (Option Value)) :
    Meets (Builtin.«int.__eq__» ⟨[.int b u, .ref l], []⟩) (fun _ R s => s.heap.get? l = some { cls := .type "dict", dict := dd, data := .dict es n, slots := sl } ∧ R (.ok (.ret .notImplemented)) s) :=
  .of_wp fun prog w A R s h => by
    obtain ⟨hp, g, d, tk, os⟩ := s
    obtain ⟨hl, h⟩ := h
    wp_walk using wpAny_loadPart' hl, wpAny_load hl
    exact ⟨_, rfl, h⟩
theorem str_declines_dict (b : Str) (u : Tok) (l : Addr) (es : Array DictEntry) (n : Nat) (dd : Option Addr) (sl : Array (Option Value)) :
    Meets (Builtin.«str.__eq__» ⟨[.str b u, .ref l], []⟩) (fun _ R s => s.heap.get? l = some { cls := .type "dict", dict := dd, data := .dict es n, slots := sl } ∧ R (.ok (.ret .notImplemented)) s) :=
  .of_wp fun prog w A R s h => by
    obtain ⟨hp, g, d, tk, os⟩ := s
    obtain ⟨hl, h⟩ := h
    wp_walk using wpAny_loadPart' hl, wpAny_load hl
    exact ⟨_, rfl, h⟩
end RF

set_option Elab.async false
set_option linter.all false
set_option maxRecDepth 100000
set_option maxHeartbeats 1000000
/-! Part Q5: == of a text or a number with a dict. -/
namespace RF
open PySem PySem.Spec L2
section
variable {A : Around} {s : Shared} {l : Addr} {o : Obj} {es : Array DictEntry} {n : Nat}
theorem eqAt_int_dict (b : Int) (u : Tok) (ho : s.heap.get? l = some o) (hc : o.cls = .type "dict") (hd : o.data = .dict es n) (hu : A.units < cLine) : SeqAt.EqAt A s (.int b u) (.ref l) false := fun prog w E Q h => by
  obtain ⟨cls, dd, data, sl⟩ := o
  simp only at hc hd
  subst hc hd
  have ht : s.TypeIs (.ref l) "dict" := ⟨_, ho, rfl⟩
  unfold eqBool
  refine wpAny_holding ?_
  refine wpAny_ite_split (fun hab => absurd (eq_of_beq hab) nofun) (fun _ => ?_)
  refine wpAny_bind (SeqAt.rc_eq_decline_or (k := false) (typeIs_int s b u) ht (by decide) PySem.F.sub_dict_int PySem.F.slot_int_eq PySem.F.slot_dict_eq_refl
    (fun _ hq => call_meets PySem.F.slot_int_eq (typeIs_int s b u) PySem.F.entry_int_eq (PySem.F.args_int_eq_2 _ _) (int_declines_dict b u l es n dd sl) ⟨ho, hq⟩)
    (fun _ hq => dict_declines ht (typeIs_int s b u) PySem.F.sub_int_dict hq)
    (fun _ hq => wpAny_of_eq (rfl : isSame (.int b u) (.ref l) = pure false) hq) (.inr hu) (wpAny_truthy_bool h))
theorem eqAt_str_dict (b : Str) (u : Tok) (ho : s.heap.get? l = some o) (hc : o.cls = .type "dict") (hd : o.data = .dict es n) (hu : A.units < cLine) : SeqAt.EqAt A s (.str b u) (.ref l) false := fun prog w E Q h => by
  obtain ⟨cls, dd, data, sl⟩ := o
  simp only at hc hd
  subst hc hd
  have ht : s.TypeIs (.ref l) "dict" := ⟨_, ho, rfl⟩
  unfold eqBool
  refine wpAny_holding ?_
  refine wpAny_ite_split (fun hab => absurd (eq_of_beq hab) nofun) (fun _ => ?_)
  refine wpAny_bind (SeqAt.rc_eq_decline_or (k := false) (typeIs_str s b u) ht (by decide) PySem.F.sub_dict_str PySem.F.slot_str_eq PySem.F.slot_dict_eq_refl
    (fun _ hq => call_meets PySem.F.slot_str_eq (typeIs_str s b u) PySem.F.entry_str_eq (PySem.F.args_str_eq_2 _ _) (str_declines_dict b u l es n dd sl) ⟨ho, hq⟩)
    (fun _ hq => dict_declines ht (typeIs_str s b u) PySem.F.sub_str_dict hq)
    (fun _ hq => wpAny_of_eq (rfl : isSame (.str b u) (.ref l) = pure false) hq) (.inr hu) (wpAny_truthy_bool h))
end
end RF

set_option Elab.async false
set_option linter.all false
set_option maxRecDepth 100000
set_option maxHeartbeats 400000
/-! Part NA1: computations over the deck: what an expression gives, as a function; how they read. -/
namespace RF
open PySem PySem.Spec L2

/-- the deck's content -/
structure Dk where
  left : List Int
  mixed : Int
  draws : Int
  few : left.length ≤ 63
  lo : 0 ≤ mixed
  hi : mixed < 2147483629
inductive Res (α : Type) where
  | ok (a : α) (D : Dk)
  | err (c : Str) (p : PV) (D : Dk)
  | bad
/-- a computation; the pair: the numbers of the deck and of what is left of the script -/
abbrev M (α : Type) := Nat × Nat → Dk → Res α
namespace M
variable {α β γ : Type}
def ret (a : α) : M α := fun _ D => .ok a D
def raise (c : Str) (p : PV) : M α := fun _ D => .err c p D
def bad : M α := fun _ _ => .bad
def bind (m : M α) (k : α → M β) : M β := fun d D => match m d D with
  | .ok a D' => k a d D'
  | .err c p D' => .err c p D'
  | .bad => .bad
/-- no error leaves it -/
def ne (m : M α) : M α := fun d D => match m d D with
  | .err _ _ _ => .bad
  | r => r
def ofO : Option α → M α
  | some a => ret a
  | none => bad
theorem ret_bind (a : α) (k : α → M β) : (ret a).bind k = k a := rfl
theorem raise_bind (c : Str) (p : PV) (k : α → M β) : (raise c p).bind k = raise c p := rfl
theorem bad_bind (k : α → M β) : (bad : M α).bind k = bad := rfl
theorem bind_ret (m : M α) : m.bind ret = m := by
  funext d D
  unfold bind
  cases m d D <;> rfl
theorem bind_assoc (m : M α) (k : α → M β) (l : β → M γ) : (m.bind k).bind l = m.bind fun a => (k a).bind l := by
  funext d D
  unfold bind
  cases m d D <;> rfl
theorem ne_ret (a : α) : (ret a).ne = ret a := rfl
theorem ofO_some (a : α) : ofO (some a) = ret a := rfl
theorem ite_bind {c : Prop} [Decidable c] (a b : M α) (k : α → M β) : (if c then a else b).bind k = if c then a.bind k else b.bind k := by
  split <;> rfl
theorem ne_bind_ret (m : M α) (a : α) (h : m = ret a) : m.ne = ret a := by rw [h]; rfl
end M
def DeckAt (d : Nat × Nat) (D : Dk) (hp : PH) : Prop := hp d.1 = some (.dct [(.inr "left", .loc d.2), (.inr "mixed", .int D.mixed), (.inr "draws", .int D.draws)]) ∧ hp d.2 = some (.lst (D.left.map PV.int)) ∧ d.1 ≠ d.2
/-- only the deck is another -/
def SameBut (d l : Nat) (h h' : PH) : Prop := ∀ n, n ≠ d → n ≠ l → h' n = h n
theorem SameBut.refl {d : Nat × Nat} {h : PH} : SameBut d.1 d.2 h h := fun _ _ _ => rfl
theorem SameBut.trans {d : Nat × Nat} {h1 h2 h3 : PH} (a : SameBut d.1 d.2 h1 h2) (b : SameBut d.1 d.2 h2 h3) : SameBut d.1 d.2 h1 h3 := fun n x y => (b n x y).trans (a n x y)
/-- what a computation is good for -/
def toM {α : Type} (m : M α) (hp : PH) (e : EI) (Q : α → PH → Prop) : Prop := ∃ d D, DeckAt d D hp ∧ match m d D with
  | .ok a D' => ∀ hp', DeckAt d D' hp' → SameBut d.1 d.2 hp hp' → Q a hp'
  | .err c p D' => ∀ hp', DeckAt d D' hp' → SameBut d.1 d.2 hp hp' → e c p hp'
  | .bad => False
section
variable {α β : Type} {m : M α} {k : α → M β} {hp : PH} {e : EI}
theorem toM.mono {Q Q' : α → PH → Prop} (i : ∀ a h, Q a h → Q' a h) (q : toM m hp e Q) : toM m hp e Q' := by
  obtain ⟨d, D, h, q⟩ := q
  refine ⟨d, D, h, ?_⟩
  split at q
  · exact fun hp' h1 h2 => i _ _ (q hp' h1 h2)
  · exact q
  · exact q
theorem toM.ret {a : α} {Q : α → PH → Prop} (q : toM (M.ret a) hp e Q) : Q a hp := by
  obtain ⟨d, D, h, q⟩ := q
  exact q hp h .refl
theorem toM.raise {c : Str} {p : PV} {Q : α → PH → Prop} (q : toM (M.raise c p) hp e Q) : e c p hp := by
  obtain ⟨d, D, h, q⟩ := q
  exact q hp h .refl
theorem toM.nobad {Q : α → PH → Prop} (q : toM M.bad hp e Q) : False := by
  obtain ⟨d, D, h, q⟩ := q
  exact q
theorem toM.bind {Q : β → PH → Prop} (q : toM (m.bind k) hp e Q) : toM m hp e fun a h => toM (k a) h e Q := by
  obtain ⟨d, D, h, q⟩ := q
  refine ⟨d, D, h, ?_⟩
  unfold M.bind at q
  cases e1 : m d D with
  | ok a D1 =>
    rw [e1] at q
    simp only at q ⊢
    intro h1 d1 s1
    refine ⟨d, D1, d1, ?_⟩
    cases e2 : k a d D1 with
    | ok b D2 =>
      rw [e2] at q
      exact fun h2 d2 s2 => q h2 d2 (s1.trans s2)
    | err c p D2 =>
      rw [e2] at q
      exact fun h2 d2 s2 => q h2 d2 (s1.trans s2)
    | bad =>
      rw [e2] at q
      exact q.elim
  | err c p D1 =>
    rw [e1] at q
    exact q
  | bad =>
    rw [e1] at q
    exact q
theorem toM.ofO {o : Option α} {Q : α → PH → Prop} (q : toM (M.ofO o) hp e Q) : ∃ a, o = some a ∧ Q a hp := by
  cases o with
  | none => exact q.nobad.elim
  | some a => exact ⟨a, rfl, q.ret⟩
theorem toM.ne {Q : α → PH → Prop} (q : toM m.ne hp e Q) : toM m hp eNo Q := by
  obtain ⟨d, D, h, q⟩ := q
  refine ⟨d, D, h, ?_⟩
  unfold M.ne at q
  cases e1 : m d D with
  | ok a D1 => rw [e1] at q; exact q
  | err c p D1 => rw [e1] at q; exact q.elim
  | bad => rw [e1] at q; exact q
theorem toM.ite {c : Prop} [Decidable c] {a b : M α} {Q : α → PH → Prop} (q : toM (if c then a else b) hp e Q) : if c then toM a hp e Q else toM b hp e Q := by
  split
  · rename_i h; rwa [if_pos h] at q
  · rename_i h; rwa [if_neg h] at q
end

/-! ### expressions -/
abbrev FE := SI → M PV
abbrev FT := SI → M Bool
abbrev FA := SI → M (List PV)
abbrev FO := SI → M (Option Int)
def toE (f : FE) : WE := fun σ hp e Q => toM (f σ) hp e Q
def toT (f : FT) : WT := fun σ hp e Q => toM (f σ) hp e Q
def toA (f : FA) : WA := fun σ hp e Q => toM (f σ) hp e Q
def toO (f : FO) : WO := fun σ hp e Q => toM (f σ) hp e Q
/-- what is walked: short enough -/
def toI (f : FA) : WA := fun σ hp e Q => toM (f σ) hp e fun ps h => ps.length ≤ sizeLine → Q ps h
theorem toE.mo {f : FE} : MoE (toE f) := fun _ _ _ _ _ i q => toM.mono i q
theorem toT.mo {f : FT} : MoT (toT f) := fun _ _ _ _ _ i q => toM.mono i q
theorem toA.mo {f : FA} : MoA (toA f) := fun _ _ _ _ _ i q => toM.mono i q
theorem toO.mo {f : FO} : MoO (toO f) := fun _ _ _ _ _ i q => toM.mono i q
theorem toI.mo {f : FA} : MoA (toI f) := fun _ _ _ _ _ i q => toM.mono (fun _ _ q l => i _ _ (q l)) q
section
variable {X : Cx} {C : Cfg} {E : XK} {x : Expr}
theorem RE.imp {w w' : WE} (h : RE X C E x w) (m : MoE w') (i : ∀ σ hp e Q, w' σ hp e Q → w σ hp e Q) : RE X C E x w' := ⟨m, PE.imp h.pe fun σ H Q ⟨μ, hp, σI, e, A, s, q⟩ => ⟨μ, hp, σI, e, A, s, i _ _ _ _ q⟩⟩
theorem RT.imp {w w' : WT} (h : RT X C E x w) (m : MoT w') (i : ∀ σ hp e Q, w' σ hp e Q → w σ hp e Q) : RT X C E x w' := ⟨m, PT.imp h.pt fun σ H Q ⟨μ, hp, σI, e, A, s, q⟩ => ⟨μ, hp, σI, e, A, s, i _ _ _ _ q⟩⟩
theorem RW.imp {w w' : WT} (h : RW X C E x w) (m : MoT w') (i : ∀ σ hp e Q, w' σ hp e Q → w σ hp e Q) : RW X C E x w' := ⟨m, PW.imp h.pw fun σ H Q ⟨μ, hp, σI, e, A, s, q⟩ => ⟨μ, hp, σI, e, A, s, i _ _ _ _ q⟩⟩
theorem RA.imp {x : List Expr} {w w' : WA} (h : RA X C E x w) (m : MoA w') (i : ∀ σ hp e Q, w' σ hp e Q → w σ hp e Q) : RA X C E x w' := ⟨m, PA.imp h.pa fun σ H Q ⟨μ, hp, σI, e, A, s, q⟩ => ⟨μ, hp, σI, e, A, s, i _ _ _ _ q⟩⟩
theorem RO.imp {x : Option Expr} {w w' : WO} (h : RO X C E x w) (m : MoO w') (i : ∀ σ hp e Q, w' σ hp e Q → w σ hp e Q) : RO X C E x w' := ⟨m, PO.imp h.po fun σ H Q ⟨μ, hp, σI, e, A, s, q⟩ => ⟨μ, hp, σI, e, A, s, i _ _ _ _ q⟩⟩
theorem RI.imp {tg : Expr} {w w' : WA} (h : RI X C E tg x w) (m : MoA w') (i : ∀ σ hp e Q, w' σ hp e Q → w σ hp e Q) : RI X C E tg x w' := ⟨m, PI.imp h.pi fun σ H Q ⟨μ, hp, σI, e, A, s, q⟩ => ⟨μ, hp, σI, e, A, s, i _ _ _ _ q⟩⟩
theorem RTs.imp {x : List Expr} {w w' : WT} (h : RTs X C E x w) (m : MoT w') (i : ∀ σ hp e Q, w' σ hp e Q → w σ hp e Q) : RTs X C E x w' := ⟨m, PTs.imp h.pts fun σ H Q ⟨μ, hp, σI, e, A, s, q⟩ => ⟨μ, hp, σI, e, A, s, i _ _ _ _ q⟩⟩
end
/-! names, constants, operators -/
def fVar (i : Nat) : FE := fun σ => M.ofO (σ[i]?.join)
def fC (p : PV) : FE := fun _ => M.ret p
def fOp (g : PV → PV → Option PV) (a b : FE) : FE := fun σ => (a σ).bind fun x => (b σ).bind fun y => M.ofO (g x y)
def fUn (g : PV → Option PV) (a : FE) : FE := fun σ => (a σ).bind fun x => M.ofO (g x)
def fCmp (g : PV → PV → Option Bool) (a b : FE) : FE := fun σ => (a σ).bind fun x => (b σ).bind fun y => M.ofO ((g x y).map .bl)
def fCmpT (g : PV → PV → Option Bool) (a b : FE) : FT := fun σ => (a σ).bind fun x => (b σ).bind fun y => M.ofO (g x y)
def fCh (g g' : PV → PV → Option Bool) (a b d : FE) : FE := fun σ => (a σ).bind fun x => (b σ).bind fun y => (M.ofO (g x y)).bind fun k => if k = true then (d σ).bind fun z => M.ofO ((g' y z).map .bl) else M.ret (.bl false)
def fChT (g g' : PV → PV → Option Bool) (a b d : FE) : FT := fun σ => (a σ).bind fun x => (b σ).bind fun y => (M.ofO (g x y)).bind fun k => if k = true then (d σ).bind fun z => M.ofO (g' y z) else M.ret false
/-- truth -/
def truF : PV → Option Bool
  | .non => some false
  | .bl b => some b
  | .int i => some (i != 0)
  | .str y => some (y.length != 0)
  | .tup ps => some !ps.isEmpty
  | .lst ps => some !ps.isEmpty
  | _ => none
def fTru (a : FE) : FT := fun σ => (a σ).bind fun p => M.ofO (truF p)
def fNotT (a : FT) : FT := fun σ => (a σ).bind fun b => M.ret !b
def fAndT (a b : FT) : FT := fun σ => (a σ).bind fun k => if k = true then b σ else M.ret false
def fOrT (a b : FT) : FT := fun σ => (a σ).bind fun k => if k = true then M.ret true else b σ
def fNotV (a : FE) : FE := fun σ => (a σ).bind fun p => (M.ofO (truF p)).bind fun k => M.ret (.bl !k)
def fAndV (a b : FE) : FE := fun σ => (a σ).bind fun p => (M.ofO (truF p)).bind fun k => if k = true then b σ else M.ret p
def fOrV (a b : FE) : FE := fun σ => (a σ).bind fun p => (M.ofO (truF p)).bind fun k => if k = true then M.ret p else b σ
def fIfE (t : FT) (a b : FE) : FE := fun σ => (t σ).bind fun k => if k = true then a σ else b σ
def fNil : FA := fun _ => M.ret []
def fCons (a : FE) (r : FA) : FA := fun σ => (a σ).bind fun p => (r σ).bind fun ps => M.ret (p :: ps)
def fTup (a : FA) : FE := fun σ => (a σ).bind fun ps => if ps.length ≤ 16777216 then M.ret (.tup ps) else M.bad
def fLst (a : FA) : FE := fun σ => (a σ).bind fun ps => if ps.length ≤ 16777216 then M.ret (.lst ps) else M.bad
section
variable {σ : SI} {hp : PH} {e : EI} {Q : KI} {QT : Bool → PH → Prop} {QA : List PV → PH → Prop} {a b d : FE} {ta tb : FT} {fa : FA}
theorem im_var {i : Nat} (q : toE (fVar i) σ hp e Q) : wVar i σ hp e Q := by
  obtain ⟨p, e1, q⟩ := toM.ofO q
  refine ⟨p, ?_, q⟩
  cases h : σ[i]? with
  | none => rw [h] at e1; cases e1
  | some z => rw [h] at e1; simp only [Option.join_some] at e1; rw [e1]
theorem im_c {p : PV} (q : toE (fC p) σ hp e Q) : wC p σ hp e Q := toM.ret q
/-- a rule of two values, computed -/
def Impl2 (g : PV → PV → Option PV) (w : G2) : Prop := ∀ x y z h Q, g x y = some z → Q z h → w x y h Q
def Impl1 (g : PV → Option PV) (w : G1) : Prop := ∀ x z h Q, g x = some z → Q z h → w x h Q
def Impl3 (g : PV → PV → Option Bool) (w : G3) : Prop := ∀ x y k h, g x y = some k → w x y h k
theorem im_op {g : PV → PV → Option PV} {w : G2} (I : Impl2 g w) (q : toE (fOp g a b) σ hp e Q) : wOp w (toE a) (toE b) σ hp e Q :=
  (toM.bind q).mono fun x h1 q => (toM.bind q).mono fun y h2 q => let ⟨z, e1, q⟩ := toM.ofO q; I x y z h2 Q e1 q
theorem im_un {g : PV → Option PV} {w : G1} (I : Impl1 g w) (q : toE (fUn g a) σ hp e Q) : wUn w (toE a) σ hp e Q :=
  (toM.bind q).mono fun x h1 q => let ⟨z, e1, q⟩ := toM.ofO q; I x z h1 Q e1 q
theorem im_cmp {g : PV → PV → Option Bool} {w : G3} (I : Impl3 g w) (q : toE (fCmp g a b) σ hp e Q) : wCmp w (toE a) (toE b) σ hp e Q :=
  (toM.bind q).mono fun x h1 q => (toM.bind q).mono fun y h2 q => by
    obtain ⟨z, e1, q⟩ := toM.ofO q
    obtain ⟨k, e2, rfl⟩ := Option.map_eq_some_iff.mp e1
    exact ⟨k, I x y k h2 e2, q⟩
theorem im_cmpT {g : PV → PV → Option Bool} {w : G3} (I : Impl3 g w) (q : toT (fCmpT g a b) σ hp e QT) : wCmpT w (toE a) (toE b) σ hp e QT :=
  (toM.bind q).mono fun x h1 q => (toM.bind q).mono fun y h2 q => let ⟨k, e1, q⟩ := toM.ofO q; ⟨k, I x y k h2 e1, q⟩
theorem im_ch {g g' : PV → PV → Option Bool} {w w' : G3} (I : Impl3 g w) (I' : Impl3 g' w') (q : toE (fCh g g' a b d) σ hp e Q) : wCh w w' (toE a) (toE b) (toE d) σ hp e Q :=
  (toM.bind q).mono fun x h1 q => (toM.bind q).mono fun y h2 q => by
    obtain ⟨k, e1, q⟩ := toM.ofO (toM.bind q)
    refine ⟨k, I x y k h2 e1, ite_mono (fun q => ?_) (fun q => toM.ret q) (toM.ite q)⟩
    refine (toM.bind q).mono fun z h3 q => ?_
    obtain ⟨v, e2, q⟩ := toM.ofO q
    obtain ⟨k', e3, rfl⟩ := Option.map_eq_some_iff.mp e2
    exact ⟨k', I' y z k' h3 e3, q⟩
theorem im_chT {g g' : PV → PV → Option Bool} {w w' : G3} (I : Impl3 g w) (I' : Impl3 g' w') (q : toT (fChT g g' a b d) σ hp e QT) : wChT w w' (toE a) (toE b) (toE d) σ hp e QT :=
  (toM.bind q).mono fun x h1 q => (toM.bind q).mono fun y h2 q => by
    obtain ⟨k, e1, q⟩ := toM.ofO (toM.bind q)
    refine ⟨k, I x y k h2 e1, ite_mono (fun q => ?_) (fun q => toM.ret q) (toM.ite q)⟩
    refine (toM.bind q).mono fun z h3 q => ?_
    obtain ⟨k', e3, q⟩ := toM.ofO q
    exact ⟨k', I' y z k' h3 e3, q⟩
theorem truF_P {p : PV} {k : Bool} (h : truF p = some k) : truP p hp k := by
  cases p with
  | non => cases h; rfl
  | bl b => cases h; rfl
  | int i => cases h; rfl
  | str y =>
    cases h
    show (y.length != 0) = ((y.length : Int) != 0)
    cases y.length <;> rfl
  | tup ps => cases h; rfl
  | lst ps => cases h; exact ⟨ps, rfl, rfl⟩
  | _ => cases h
theorem im_tru (q : toT (fTru a) σ hp e QT) : wTru (toE a) σ hp e QT := (toM.bind q).mono fun p h q => let ⟨k, e1, q⟩ := toM.ofO q; ⟨k, truF_P e1, q⟩
theorem im_notT (q : toT (fNotT ta) σ hp e QT) : wNotT (toT ta) σ hp e QT := (toM.bind q).mono fun p h q => toM.ret q
theorem im_andT (q : toT (fAndT ta tb) σ hp e QT) : wAndT (toT ta) (toT tb) σ hp e QT := (toM.bind q).mono fun p h q => ite_mono (fun q => q) (fun q => toM.ret q) (toM.ite q)
theorem im_orT (q : toT (fOrT ta tb) σ hp e QT) : wOrT (toT ta) (toT tb) σ hp e QT := (toM.bind q).mono fun p h q => ite_mono (fun q => toM.ret q) (fun q => q) (toM.ite q)
theorem im_notV (q : toE (fNotV a) σ hp e Q) : wNotV (toE a) σ hp e Q := (toM.bind q).mono fun p h q => let ⟨k, e1, q⟩ := toM.ofO (toM.bind q); ⟨k, truF_P e1, toM.ret q⟩
theorem im_andV (q : toE (fAndV a b) σ hp e Q) : wAndV (toE a) (toE b) σ hp e Q := (toM.bind q).mono fun p h q => let ⟨k, e1, q⟩ := toM.ofO (toM.bind q); ⟨k, truF_P e1, ite_mono (fun q => q) (fun q => toM.ret q) (toM.ite q)⟩
theorem im_orV (q : toE (fOrV a b) σ hp e Q) : wOrV (toE a) (toE b) σ hp e Q := (toM.bind q).mono fun p h q => let ⟨k, e1, q⟩ := toM.ofO (toM.bind q); ⟨k, truF_P e1, ite_mono (fun q => toM.ret q) (fun q => q) (toM.ite q)⟩
theorem im_ifE (q : toE (fIfE ta a b) σ hp e Q) : wIfE (toT ta) (toE a) (toE b) σ hp e Q := (toM.bind q).mono fun p h q => toM.ite q
theorem im_nil (q : toA fNil σ hp e QA) : wNil σ hp e QA := toM.ret q
theorem im_cons (q : toA (fCons a fa) σ hp e QA) : wCons (toE a) (toA fa) σ hp e QA := (toM.bind q).mono fun p h q => (toM.bind q).mono fun ps h q => toM.ret q
theorem im_tup (q : toE (fTup fa) σ hp e Q) : wTup (toA fa) σ hp e Q := (toM.bind q).mono fun ps h q => by
  split at q
  · rename_i l
    exact ⟨by rw [PySem.sizeLine_eq]; exact l, toM.ret q⟩
  · exact (toM.nobad q).elim
theorem im_lst (q : toE (fLst fa) σ hp e Q) : wLst (toA fa) σ hp e Q := (toM.bind q).mono fun ps h q => by
  split at q
  · rename_i l
    exact ⟨by rw [PySem.sizeLine_eq]; exact l, toM.ret q⟩
  · exact (toM.nobad q).elim
end
end RF

set_option Elab.async false
set_option linter.all false
set_option maxRecDepth 100000
set_option maxHeartbeats 1000000
/-! Part NA2: == and in over any data; dicts equal nothing of another kind. -/
namespace RF
open PySem PySem.Spec L2 PySem.SeqAt
open AutoSeq1 (wpAny_loadPart')
theorem bool_declines_dict (b : Bool) (l : Addr) (es : Array DictEntry) (n : Nat) (dd : Option Addr) (sl : Array (Option Value)) :
    Meets (Builtin.«int.__eq__» ⟨[.bool b, .ref l], []⟩) (fun _ R s => s.heap.get? l = some { cls := .type "dict", dict := dd, data := .dict es n, slots := sl } ∧ R (.ok (.ret .notImplemented)) s) :=
  .of_wp fun prog w A R s h => by
    obtain ⟨hp, g, d, tk, os⟩ := s
    obtain ⟨hl, h⟩ := h
    wp_walk using wpAny_loadPart' hl, wpAny_load hl
    exact ⟨_, rfl, h⟩
theorem list_declines_dict (l b : Addr) (items : Array Value) (m : Nat) (dd2 : Option Addr) (sl2 : Array (Option Value)) (es : Array DictEntry) (n : Nat) (dd : Option Addr) (sl : Array (Option Value)) :
    Meets (Builtin.«list.__eq__» ⟨[.ref l, .ref b], []⟩) (fun _ R s => s.heap.get? l = some { cls := .type "list", dict := dd2, data := .seq items m, slots := sl2 } ∧ s.heap.get? b = some { cls := .type "dict", dict := dd, data := .dict es n, slots := sl } ∧ R (.ok (.ret .notImplemented)) s) :=
  .of_wp fun prog w A R s h => by
    obtain ⟨hp, g, d, tk, os⟩ := s
    obtain ⟨hl, hb, h⟩ := h
    have f1 := PySem.F.sub_dict_list
    wp_walk using wpAny_loadPart' hl, wpAny_loadPart' hb
    exact ⟨_, rfl, h⟩
theorem tuple_declines_dict (l b : Addr) (items : Array Value) (m : Nat) (dd2 : Option Addr) (sl2 : Array (Option Value)) (es : Array DictEntry) (n : Nat) (dd : Option Addr) (sl : Array (Option Value)) :
    Meets (Builtin.«tuple.__eq__» ⟨[.ref l, .ref b], []⟩) (fun _ R s => s.heap.get? l = some { cls := .type "tuple", dict := dd2, data := .seq items m, slots := sl2 } ∧ s.heap.get? b = some { cls := .type "dict", dict := dd, data := .dict es n, slots := sl } ∧ R (.ok (.ret .notImplemented)) s) :=
  .of_wp fun prog w A R s h => by
    obtain ⟨hp, g, d, tk, os⟩ := s
    obtain ⟨hl, hb, h⟩ := h
    have f1 := PySem.F.sub_dict_tuple
    wp_walk using wpAny_loadPart' hl, wpAny_loadPart' hb
    exact ⟨_, rfl, h⟩
section
variable {A : Around} {s : Shared} {l : Addr} {o : Obj} {es : Array DictEntry} {n : Nat}
theorem eq_of_rc {v : Value} {k : Bool} (hne : (v == .ref l) = false) (h : RcAt A s v (.ref l) k) (hf : ∀ b t, v ≠ .float b t := by intro _ _ z; cases z) : EqAt A s v (.ref l) k := fun prog w E Q hq => by
  unfold eqBool
  refine wpAny_holding ?_
  refine wpAny_ite_split (fun hab => absurd (hab.symm.trans hne) nofun) (fun _ => ?_)
  cases v <;> first | exact absurd rfl (hf _ _) | exact wpAny_bind (h prog w E _ (wpAny_truthy_bool hq))
theorem rc_dict {v : Value} {Ta ida : String} (ho : s.heap.get? l = some o) (hc : o.cls = .type "dict") (hd : o.data = .dict es n) (hu : A.units < cLine) (ht : s.TypeIs v Ta) (hne : (Value.type Ta != Value.type "dict") = true) (h1 : isSubtype (.type "dict") (.type Ta) = pure false)
    (h2 : isSubtype (.type Ta) (.type "dict") = pure false) (sl : Slot Ta (cmpInfo .Eq).2.1 ida)
    (dc : ∀ (prog : Program) (w : World) (E : Value → Shared → Prop) (Q' : Value → Shared → Prop), Q' .notImplemented s → wpAny (model prog w) A (call (.builtin ida) [v, .ref l]) Q' E s)
    (hk : ∀ (prog : Program) (w : World) (E : Value → Shared → Prop) (Q' : Bool → Shared → Prop), Q' false s → wpAny (model prog w) A (isSame v (.ref l)) Q' E s) : RcAt A s v (.ref l) false := fun prog w E Q h => by
  have hl : s.TypeIs (.ref l) "dict" := ⟨o, ho, hc⟩
  exact rc_eq_decline_or (k := false) ht hl hne h1 sl PySem.F.slot_dict_eq_refl (fun Q' hq => dc prog w E Q' hq) (fun _ hq => dict_declines hl ht h2 hq) (fun Q' hq => hk prog w E Q' hq) (.inr hu) h
theorem same_no {v : Value} (h : isSame v (.ref l) = pure false) : ∀ (prog : Program) (w : World) (E : Value → Shared → Prop) (Q' : Bool → Shared → Prop), Q' false s → wpAny (model prog w) A (isSame v (.ref l)) Q' E s := fun _ _ _ _ hq => wpAny_of_eq h hq
theorem rc_none_dict (ho : s.heap.get? l = some o) (hc : o.cls = .type "dict") (hd : o.data = .dict es n) (hu : A.units < cLine) : RcAt A s .none (.ref l) false :=
  rc_dict ho hc hd hu rfl (by decide) PySem.F.sub_dict_NoneType PySem.F.sub_NoneType_dict PySem.F.slot_NoneType_eq (fun _ _ _ _ hq => call_gives PySem.F.slot_NoneType_eq rfl PySem.F.entry_NoneType_eq (PySem.F.args_NoneType_eq_2 _ _) (NoneType___eq___none_ref_0 l) hq) (same_no rfl)
theorem rc_bool_dict (b : Bool) (ho : s.heap.get? l = some o) (hc : o.cls = .type "dict") (hd : o.data = .dict es n) (hu : A.units < cLine) : RcAt A s (.bool b) (.ref l) false := by
  obtain ⟨cls, dd, data, sl⟩ := o
  simp only at hc hd
  subst hc hd
  exact rc_dict ho rfl rfl hu rfl (by decide) PySem.F.sub_dict_bool PySem.F.sub_bool_dict PySem.F.slot_bool_eq (fun _ _ _ _ hq => call_meets PySem.F.slot_bool_eq rfl PySem.F.entry_int_eq (PySem.F.args_int_eq_2 _ _) (bool_declines_dict b l es n dd sl) ⟨ho, hq⟩) (same_no rfl)
theorem rc_int_dict (b : Int) (u : Tok) (ho : s.heap.get? l = some o) (hc : o.cls = .type "dict") (hd : o.data = .dict es n) (hu : A.units < cLine) : RcAt A s (.int b u) (.ref l) false := by
  obtain ⟨cls, dd, data, sl⟩ := o
  simp only at hc hd
  subst hc hd
  exact rc_dict ho rfl rfl hu (typeIs_int s b u) (by decide) PySem.F.sub_dict_int PySem.F.sub_int_dict PySem.F.slot_int_eq (fun _ _ _ _ hq => call_meets PySem.F.slot_int_eq (typeIs_int s b u) PySem.F.entry_int_eq (PySem.F.args_int_eq_2 _ _) (int_declines_dict b u l es n dd sl) ⟨ho, hq⟩) (same_no rfl)
theorem rc_str_dict (b : Str) (u : Tok) (ho : s.heap.get? l = some o) (hc : o.cls = .type "dict") (hd : o.data = .dict es n) (hu : A.units < cLine) : RcAt A s (.str b u) (.ref l) false := by
  obtain ⟨cls, dd, data, sl⟩ := o
  simp only at hc hd
  subst hc hd
  exact rc_dict ho rfl rfl hu (typeIs_str s b u) (by decide) PySem.F.sub_dict_str PySem.F.sub_str_dict PySem.F.slot_str_eq (fun _ _ _ _ hq => call_meets PySem.F.slot_str_eq (typeIs_str s b u) PySem.F.entry_str_eq (PySem.F.args_str_eq_2 _ _) (str_declines_dict b u l es n dd sl) ⟨ho, hq⟩) (same_no rfl)
theorem ne_of_list_dict {b : Addr} {items : Array Value} (hl : s.heap.IsList b items) (ho : s.heap.get? l = some o) (hc : o.cls = .type "dict") : b ≠ l := fun e => by
  subst e
  obtain ⟨o1, h1, h2, _⟩ := hl
  rw [ho] at h1
  cases h1
  rw [hc] at h2
  exact absurd h2 (by simp)
theorem ne_of_tuple_dict {b : Addr} {items : Array Value} (hl : s.heap.IsTuple b items) (ho : s.heap.get? l = some o) (hc : o.cls = .type "dict") : b ≠ l := fun e => by
  subst e
  obtain ⟨o1, h1, h2, _⟩ := hl
  rw [ho] at h1
  cases h1
  rw [hc] at h2
  exact absurd h2 (by simp)
theorem rc_list_dict {b : Addr} {items : Array Value} (hl : s.heap.IsList b items) (ho : s.heap.get? l = some o) (hc : o.cls = .type "dict") (hd : o.data = .dict es n) (hu : A.units < cLine) : RcAt A s (.ref b) (.ref l) false := by
  have hne := ne_of_list_dict hl ho hc
  obtain ⟨cls, dd, data, sl⟩ := o
  obtain ⟨⟨cls2, dd2, data2, sl2⟩, ho2, hc2, n2, hd2⟩ := hl
  simp only at hc hd hc2 hd2
  subst hc hd hc2 hd2
  exact rc_dict ho rfl rfl hu ⟨_, ho2, rfl⟩ (by decide) PySem.F.sub_dict_list PySem.F.sub_list_dict PySem.F.slot_list_eq (fun _ _ _ _ hq => call_meets PySem.F.slot_list_eq ⟨_, ho2, rfl⟩ PySem.F.entry_list_eq (PySem.F.args_list_eq_2 _ _) (list_declines_dict b l items n2 dd2 sl2 es n dd sl) ⟨ho2, ho, hq⟩) (fun _ _ _ _ hq => wpAny_isSame_ref_other' hne ho2 ho (by simp) hq)
theorem rc_tuple_dict {b : Addr} {items : Array Value} (hl : s.heap.IsTuple b items) (ho : s.heap.get? l = some o) (hc : o.cls = .type "dict") (hd : o.data = .dict es n) (hu : A.units < cLine) : RcAt A s (.ref b) (.ref l) false := by
  have hne := ne_of_tuple_dict hl ho hc
  obtain ⟨cls, dd, data, sl⟩ := o
  obtain ⟨⟨cls2, dd2, data2, sl2⟩, ho2, hc2, n2, hd2⟩ := hl
  simp only at hc hd hc2 hd2
  subst hc hd hc2 hd2
  exact rc_dict ho rfl rfl hu ⟨_, ho2, rfl⟩ (by decide) PySem.F.sub_dict_tuple PySem.F.sub_tuple_dict PySem.F.slot_tuple_eq (fun _ _ _ _ hq => call_meets PySem.F.slot_tuple_eq ⟨_, ho2, rfl⟩ PySem.F.entry_tuple_eq (PySem.F.args_tuple_eq_2 _ _) (tuple_declines_dict b l items n2 dd2 sl2 es n dd sl) ⟨ho2, ho, hq⟩) (fun _ _ _ _ hq => wpAny_isSame_ref_other' hne ho2 ho (by simp) hq)
end
/-! data without dicts -/
mutual
def nod : PyData → Bool
  | .list xs => nods xs
  | .tuple xs => nods xs
  | .dict _ => false
  | _ => true
def nods : List PyData → Bool
  | [] => true
  | x :: xs => nod x && nods xs
end
mutual
theorem reads_uniq {h : Heap} : ∀ (d d' : PyData) (v : Value) (as as' : List Addr), nod d = true → Reads h v d as → Reads h v d' as' → d = d'
  | .none, _, _, _, _, _, r, r' => by cases r; cases r'; rfl
  | .bool _, _, _, _, _, _, r, r' => by cases r; cases r'; rfl
  | .int _, _, _, _, _, _, r, r' => by cases r; cases r'; rfl
  | .str _, _, _, _, _, _, r, r' => by cases r; cases r'; rfl
  | .list xs, d', _, _, _, hl, r, r' => by
    cases r with
    | list h1 h2 h3 h4 =>
      cases r' with
      | list k1 k2 k3 k4 =>
        rw [h1] at k1; cases k1
        rw [h3] at k3; cases k3
        rw [reads_uniqs xs _ _ _ _ hl h4 k4]
      | tuple k1 k2 k3 k4 => rw [h1] at k1; cases k1; rw [h2] at k2; exact absurd k2 (by simp)
      | dict k1 k2 k3 k4 k5 => rw [h1] at k1; cases k1; rw [h2] at k2; exact absurd k2 (by simp)
  | .tuple xs, d', _, _, _, hl, r, r' => by
    cases r with
    | tuple h1 h2 h3 h4 =>
      cases r' with
      | tuple k1 k2 k3 k4 =>
        rw [h1] at k1; cases k1
        rw [h3] at k3; cases k3
        rw [reads_uniqs xs _ _ _ _ hl h4 k4]
      | list k1 k2 k3 k4 => rw [h1] at k1; cases k1; rw [h2] at k2; exact absurd k2 (by simp)
      | dict k1 k2 k3 k4 k5 => rw [h1] at k1; cases k1; rw [h2] at k2; exact absurd k2 (by simp)
  | .dict _, _, _, _, _, hl, _, _ => nomatch hl
theorem reads_uniqs {h : Heap} : ∀ (xs ys : List PyData) (vs : List Value) (as as' : List Addr), nods xs = true → ReadsAll h vs xs as → ReadsAll h vs ys as' → xs = ys
  | [], _, _, _, _, _, r, r' => by cases r; cases r'; rfl
  | x :: xs, _, _, _, _, hl, r, r' => by
    have hl' : nod x = true ∧ nods xs = true := by simpa [nods] using hl
    cases r with
    | cons h1 h2 =>
      cases r' with
      | cons k1 k2 => rw [reads_uniq x _ _ _ _ hl'.1 h1 k1, reads_uniqs xs _ _ _ _ hl'.2 h2 k2]
end
mutual
theorem eqv_self : ∀ d : PyData, nod d = true → PyData.eqv d d = true
  | .none, _ => rfl
  | .bool b, _ => by simp [PyData.eqv]
  | .int i, _ => by simp [PyData.eqv]
  | .str x, _ => by simp [PyData.eqv]
  | .list xs, h => eqvs_self xs h
  | .tuple xs, h => eqvs_self xs h
  | .dict _, h => nomatch h
theorem eqvs_self : ∀ xs : List PyData, nods xs = true → PyData.eqvAll xs xs = true
  | [], _ => rfl
  | x :: xs, h => by
    have h' : nod x = true ∧ nods xs = true := by simpa [nods] using h
    rw [PyData.eqvAll, eqv_self x h'.1, eqvs_self xs h'.2]; rfl
end
/-! the left one has no dict -/
mutual
theorem eqAt_any : ∀ (da db : PyData) (A : Around) (s : Shared) (a b : Value) (as bs : List Addr), Reads s.heap a da as → Reads s.heap b db bs → nod da = true → A.units + da.depth < cLine → EqAt A s a b (PyData.eqv da db)
  | .none, _, A, s, _, _, _, _, ra, rb, _, hu => by
    cases ra
    cases rb with
    | none => exact EqAt.same _
    | bool y => exact EqAt.none_bool y
    | int y u => exact EqAt.none_int y u
    | str y u => exact EqAt.none_str y u
    | list k1 k2 k3 k4 => exact EqAt.none_list ⟨_, k1, k2, _, k3⟩ (by omega)
    | tuple k1 k2 k3 k4 => exact EqAt.none_tuple ⟨_, k1, k2, _, k3⟩ (by omega)
    | dict k1 k2 k3 => exact eq_of_rc rfl (rc_none_dict k1 k2 k3 (by omega))
  | .bool x, _, A, s, _, _, _, _, ra, rb, _, hu => by
    cases ra
    cases rb with
    | none => exact EqAt.bool_none x
    | bool y => exact EqAt.bool_bool x y
    | int y u => exact EqAt.bool_int x y u
    | str y u => exact EqAt.bool_str x y u
    | list k1 k2 k3 k4 => exact EqAt.bool_list x ⟨_, k1, k2, _, k3⟩ (by omega)
    | tuple k1 k2 k3 k4 => exact EqAt.bool_tuple x ⟨_, k1, k2, _, k3⟩ (by omega)
    | dict k1 k2 k3 => exact eq_of_rc rfl (rc_bool_dict x k1 k2 k3 (by omega))
  | .int x, _, A, s, _, _, _, _, ra, rb, _, hu => by
    cases ra with
    | int _ t =>
      cases rb with
      | none => exact EqAt.int_none x t
      | bool y => exact EqAt.int_bool x t y
      | int y u => exact EqAt.int_int x t y u
      | str y u => exact EqAt.int_str x t y u
      | list k1 k2 k3 k4 => exact EqAt.int_list x t ⟨_, k1, k2, _, k3⟩ (by omega)
      | tuple k1 k2 k3 k4 => exact EqAt.int_tuple x t ⟨_, k1, k2, _, k3⟩ (by omega)
      | dict k1 k2 k3 => exact eq_of_rc rfl (rc_int_dict x t k1 k2 k3 (by omega))
  | .str x, _, A, s, _, _, _, _, ra, rb, _, hu => by
    cases ra with
    | str _ t =>
      cases rb with
      | none => exact EqAt.str_none x t
      | bool y => exact EqAt.str_bool x t y
      | int y u => exact EqAt.str_int x t y u
      | str y u => exact EqAt.str_str x t y u
      | list k1 k2 k3 k4 => exact EqAt.str_list x t ⟨_, k1, k2, _, k3⟩ (by omega)
      | tuple k1 k2 k3 k4 => exact EqAt.str_tuple x t ⟨_, k1, k2, _, k3⟩ (by omega)
      | dict k1 k2 k3 => exact eq_of_rc rfl (rc_str_dict x t k1 k2 k3 (by omega))
  | .list xs, db, A, s, _, _, _, _, ra, rb, ha, hu => by
    have hd : (PyData.list xs).depth = PyData.depthAll xs + 1 := rfl
    have hu0 : A.units < cLine := by omega
    cases ra with
    | @list l o vs n _ as₁ h1 h2 h3 h4 =>
      have hl : s.heap.IsList l vs := ⟨_, h1, h2, _, h3⟩
      cases rb with
      | none => exact EqAt.list_none hl hu0
      | bool y => exact EqAt.list_bool y hl hu0
      | int y u => exact EqAt.list_int y u hl hu0
      | str y u => exact EqAt.list_str y u hl hu0
      | tuple k1 k2 k3 k4 => exact EqAt.list_tuple hl ⟨_, k1, k2, _, k3⟩ hu0
      | dict k1 k2 k3 => exact EqAt.of_refs (ne_of_list_dict hl k1 k2) (rc_list_dict hl k1 k2 k3 hu0)
      | @list l' o' vs' n' ys bs₁ k1 k2 k3 k4 =>
        have hl' : s.heap.IsList l' vs' := ⟨_, k1, k2, _, k3⟩
        have n1 : vs.size = xs.length := by simpa using ReadsAll.length _ _ _ h4
        have n2 : vs'.size = ys.length := by simpa using ReadsAll.length _ _ _ k4
        show EqAt A s (.ref l) (.ref l') (PyData.eqvAll xs ys)
        by_cases hll : l = l'
        · subst hll
          have e : PyData.list xs = PyData.list ys := reads_uniq (.list xs) (.list ys) _ _ _ ha (.list h1 h2 h3 h4) (.list k1 k2 k3 k4)
          injection e with e
          subst e
          rw [eqvs_self xs ha]
          exact EqAt.same _
        · by_cases hsz : vs.size = vs'.size
          · rw [← eqvAll_same_length (by omega : xs.length = ys.length), ← n1]
            refine EqAt.of_refs hll (RcAt.lists hl hl' hsz hu0 fun j j1 j2 => ?_)
            have := eqAt_anyAll xs ys A.in1 s vs.toList vs'.toList _ _ h4 k4 ha (by show A.units + 1 + _ < _; omega) j (by simpa using j1) (by simpa using j2)
            simpa using this
          · rw [eqvAll_other_length (by omega : xs.length ≠ ys.length)]
            exact EqAt.of_refs hll (RcAt.lists_lengths hl hl' (by simpa using hsz) hu0)
  | .tuple xs, db, A, s, _, _, _, _, ra, rb, ha, hu => by
    have hd : (PyData.tuple xs).depth = PyData.depthAll xs + 1 := rfl
    have hu0 : A.units < cLine := by omega
    cases ra with
    | @tuple l o vs n _ as₁ h1 h2 h3 h4 =>
      have hl : s.heap.IsTuple l vs := ⟨_, h1, h2, _, h3⟩
      cases rb with
      | none => exact EqAt.tuple_none hl hu0
      | bool y => exact EqAt.tuple_bool y hl hu0
      | int y u => exact EqAt.tuple_int y u hl hu0
      | str y u => exact EqAt.tuple_str y u hl hu0
      | list k1 k2 k3 k4 => exact EqAt.tuple_list hl ⟨_, k1, k2, _, k3⟩ hu0
      | dict k1 k2 k3 => exact EqAt.of_refs (ne_of_tuple_dict hl k1 k2) (rc_tuple_dict hl k1 k2 k3 hu0)
      | @tuple l' o' vs' n' ys bs₁ k1 k2 k3 k4 =>
        have hl' : s.heap.IsTuple l' vs' := ⟨_, k1, k2, _, k3⟩
        have n1 : vs.size = xs.length := by simpa using ReadsAll.length _ _ _ h4
        have n2 : vs'.size = ys.length := by simpa using ReadsAll.length _ _ _ k4
        show EqAt A s (.ref l) (.ref l') (PyData.eqvAll xs ys)
        by_cases hll : l = l'
        · subst hll
          have e : PyData.tuple xs = PyData.tuple ys := reads_uniq (.tuple xs) (.tuple ys) _ _ _ ha (.tuple h1 h2 h3 h4) (.tuple k1 k2 k3 k4)
          injection e with e
          subst e
          rw [eqvs_self xs ha]
          exact EqAt.same _
        · rw [← eqvAll_eq xs ys, ← n1, ← n2]
          refine EqAt.of_refs hll (RcAt.tuples hl hl' hu0 fun j j1 j2 => ?_)
          have := eqAt_anyAll xs ys A.in1 s vs.toList vs'.toList _ _ h4 k4 ha (by show A.units + 1 + _ < _; omega) j (by simpa using j1) (by simpa using j2)
          simpa using this
  | .dict _, _, _, _, _, _, _, _, _, _, ha, _ => nomatch ha
theorem eqAt_anyAll : ∀ (xs ys : List PyData) (A : Around) (s : Shared) (vs ws : List Value) (as bs : List Addr), ReadsAll s.heap vs xs as → ReadsAll s.heap ws ys bs → nods xs = true →
    A.units + PyData.depthAll xs < cLine → ∀ j (h1 : j < vs.length) (h2 : j < ws.length), EqAt A s vs[j] ws[j] (pairEq xs ys j)
  | [], _, _, _, _, _, _, _, ra, _, _, _, j, h1, _ => by cases ra; exact absurd h1 (Nat.not_lt_zero _)
  | _ :: _, [], _, _, _, _, _, _, _, rb, _, _, j, _, h2 => by cases rb; exact absurd h2 (Nat.not_lt_zero _)
  | x :: xs, y :: ys, A, s, _, _, _, _, ra, rb, ha, hu, j, h1, h2 => by
    have ha' : nod x = true ∧ nods xs = true := by simpa [nods] using ha
    have hd : PyData.depthAll (x :: xs) = max x.depth (PyData.depthAll xs) := rfl
    cases ra with
    | cons r rs =>
      cases rb with
      | cons r' rs' =>
        cases j with
        | zero => exact eqAt_any x y A s _ _ _ _ r r' ha'.1 (by omega)
        | succ j => exact eqAt_anyAll xs ys A s _ _ _ _ rs rs' ha'.2 (by omega) j (Nat.lt_of_succ_lt_succ h1) (Nat.lt_of_succ_lt_succ h2)
end
theorem rcAt_any {da db : PyData} {A : Around} {s : Shared} {a b : Value} {as bs : List Addr} (ra : Reads s.heap a da as) (rb : Reads s.heap b db bs) (ha : nod da = true) (hu : A.units + da.depth < cLine) : RcAt A s a b (PyData.eqv da db) := by
  have hu0 : A.units < cLine := by omega
  cases rb with
    | none  =>
      cases ra with
      | none  => exact RcAt.none_none
      | bool x => exact RcAt.bool_none x 
      | int x t => exact RcAt.int_none x t 
      | str x t => exact RcAt.str_none x t 
      | list h1 h2 h3 h4 => exact RcAt.list_none  ⟨_, h1, h2, _, h3⟩ hu0
      | tuple h1 h2 h3 h4 => exact RcAt.tuple_none  ⟨_, h1, h2, _, h3⟩ hu0
      | dict => exact nomatch ha
    | bool y =>
      cases ra with
      | none  => exact RcAt.none_bool  y
      | bool x => exact RcAt.bool_bool x y
      | int x t => exact RcAt.int_bool x t y
      | str x t => exact RcAt.str_bool x t y
      | list h1 h2 h3 h4 => exact RcAt.list_bool y ⟨_, h1, h2, _, h3⟩ hu0
      | tuple h1 h2 h3 h4 => exact RcAt.tuple_bool y ⟨_, h1, h2, _, h3⟩ hu0
      | dict => exact nomatch ha
    | int y u =>
      cases ra with
      | none  => exact RcAt.none_int  y u
      | bool x => exact RcAt.bool_int x y u
      | int x t => exact RcAt.int_int x t y u
      | str x t => exact RcAt.str_int x t y u
      | list h1 h2 h3 h4 => exact RcAt.list_int y u ⟨_, h1, h2, _, h3⟩ hu0
      | tuple h1 h2 h3 h4 => exact RcAt.tuple_int y u ⟨_, h1, h2, _, h3⟩ hu0
      | dict => exact nomatch ha
    | str y u =>
      cases ra with
      | none  => exact RcAt.none_str  y u
      | bool x => exact RcAt.bool_str x y u
      | int x t => exact RcAt.int_str x t y u
      | str x t => exact RcAt.str_str x t y u
      | list h1 h2 h3 h4 => exact RcAt.list_str y u ⟨_, h1, h2, _, h3⟩ hu0
      | tuple h1 h2 h3 h4 => exact RcAt.tuple_str y u ⟨_, h1, h2, _, h3⟩ hu0
      | dict => exact nomatch ha
    | dict k1 k2 k3 =>
      cases ra with
      | none => exact rc_none_dict k1 k2 k3 hu0
      | bool x => exact rc_bool_dict x k1 k2 k3 hu0
      | int x t => exact rc_int_dict x t k1 k2 k3 hu0
      | str x t => exact rc_str_dict x t k1 k2 k3 hu0
      | list h1 h2 h3 h4 => exact rc_list_dict ⟨_, h1, h2, _, h3⟩ k1 k2 k3 hu0
      | tuple h1 h2 h3 h4 => exact rc_tuple_dict ⟨_, h1, h2, _, h3⟩ k1 k2 k3 hu0
      | dict => exact nomatch ha
    | @list l' o' vs' n' ys bs₁ k1 k2 k3 k4 =>
      have hl' : s.heap.IsList l' vs' := ⟨_, k1, k2, _, k3⟩
      cases ra with
      | none => exact RcAt.none_list hl' hu0
      | bool x => exact RcAt.bool_list x hl' hu0
      | int x t => exact RcAt.int_list x t hl' hu0
      | str x t => exact RcAt.str_list x t hl' hu0
      | tuple h1 h2 h3 h4 => exact RcAt.tuple_list ⟨_, h1, h2, _, h3⟩ hl' hu0
      | dict => exact nomatch ha
      | @list l o vs n xs as₁ h1 h2 h3 h4 =>
        have hl : s.heap.IsList l vs := ⟨_, h1, h2, _, h3⟩
        have n1 : vs.size = xs.length := by simpa using ReadsAll.length _ _ _ h4
        have n2 : vs'.size = ys.length := by simpa using ReadsAll.length _ _ _ k4
        have hd : (PyData.list xs).depth = PyData.depthAll xs + 1 := rfl
        show RcAt A s (.ref l) (.ref l') (PyData.eqvAll xs ys)
        by_cases hsz : vs.size = vs'.size
        · rw [← eqvAll_same_length (by omega : xs.length = ys.length), ← n1]
          refine RcAt.lists hl hl' hsz hu0 fun j j1 j2 => ?_
          have := eqAt_anyAll xs ys A.in1 s vs.toList vs'.toList _ _ h4 k4 ha (by show A.units + 1 + _ < _; omega) j (by simpa using j1) (by simpa using j2)
          simpa using this
        · rw [eqvAll_other_length (by omega : xs.length ≠ ys.length)]
          exact RcAt.lists_lengths hl hl' (by simpa using hsz) hu0
    | @tuple l' o' vs' n' ys bs₁ k1 k2 k3 k4 =>
      have hl' : s.heap.IsTuple l' vs' := ⟨_, k1, k2, _, k3⟩
      cases ra with
      | none => exact RcAt.none_tuple hl' hu0
      | bool x => exact RcAt.bool_tuple x hl' hu0
      | int x t => exact RcAt.int_tuple x t hl' hu0
      | str x t => exact RcAt.str_tuple x t hl' hu0
      | list h1 h2 h3 h4 => exact RcAt.list_tuple ⟨_, h1, h2, _, h3⟩ hl' hu0
      | dict => exact nomatch ha
      | @tuple l o vs n xs as₁ h1 h2 h3 h4 =>
        have hl : s.heap.IsTuple l vs := ⟨_, h1, h2, _, h3⟩
        have n1 : vs.size = xs.length := by simpa using ReadsAll.length _ _ _ h4
        have n2 : vs'.size = ys.length := by simpa using ReadsAll.length _ _ _ k4
        have hd : (PyData.tuple xs).depth = PyData.depthAll xs + 1 := rfl
        show RcAt A s (.ref l) (.ref l') (PyData.eqvAll xs ys)
        rw [← eqvAll_eq xs ys, ← n1, ← n2]
        refine RcAt.tuples hl hl' hu0 fun j j1 j2 => ?_
        have := eqAt_anyAll xs ys A.in1 s vs.toList vs'.toList _ _ h4 k4 ha (by show A.units + 1 + _ < _; omega) j (by simpa using j1) (by simpa using j2)
        simpa using this
/-- an empty tuple on the right -/
theorem rcAt_empty {A : Around} {s : Shared} {l b : Addr} {items : Array Value} (hl : s.heap.IsTuple l items) (hb : s.heap.IsTuple b #[]) (hu : A.units < cLine) : RcAt A s (.ref l) (.ref b) (items.size == 0) := by
  have := RcAt.tuples (e := fun _ => true) hl hb hu (fun j _ h2 => absurd h2 (Nat.not_lt_zero _))
  have e : ((List.range (min items.size (#[] : Array Value).size)).all (fun _ => true) && items.size == (#[] : Array Value).size) = (items.size == 0) := by
    simp
  rw [e] at this
  exact this
end RF

set_option Elab.async false
set_option linter.all false
set_option maxRecDepth 100000
set_option maxHeartbeats 1000000
/-! Part NA3: ==, !=, in, not in as functions. -/
namespace RF
open PySem PySem.Spec L2 PySem.SeqAt
theorem rcNe_any {da db : PyData} {A : Around} {s : Shared} {a b : Value} {as bs : List Addr} (ra : Reads s.heap a da as) (rb : Reads s.heap b db bs) (ha : nod da = true) (hb : nod db = true) (hu : A.units + da.depth < cLine) : RcNeAt A s a b (!PyData.eqv da db) := by
  have hu0 : A.units < cLine := by omega
  cases ra with
  | none  =>
    cases rb with
    | none  => exact RcNeAt.none_none  
    | bool y => exact RcNeAt.none_bool  y
    | int y u => exact RcNeAt.none_int  y u
    | str y u => exact RcNeAt.none_str  y u
    | list k1 k2 k3 k4 => exact RcNeAt.none_list  ⟨_, k1, k2, _, k3⟩ hu0
    | tuple k1 k2 k3 k4 => exact RcNeAt.none_tuple  ⟨_, k1, k2, _, k3⟩ hu0
    | dict => exact nomatch hb
  | bool x =>
    cases rb with
    | none  => exact RcNeAt.bool_none x 
    | bool y => exact RcNeAt.bool_bool x y
    | int y u => exact RcNeAt.bool_int x y u
    | str y u => exact RcNeAt.bool_str x y u
    | list k1 k2 k3 k4 => exact RcNeAt.bool_list x ⟨_, k1, k2, _, k3⟩ hu0
    | tuple k1 k2 k3 k4 => exact RcNeAt.bool_tuple x ⟨_, k1, k2, _, k3⟩ hu0
    | dict => exact nomatch hb
  | int x t =>
    cases rb with
    | none  => exact RcNeAt.int_none x t 
    | bool y => exact RcNeAt.int_bool x t y
    | int y u => exact RcNeAt.int_int x t y u
    | str y u => exact RcNeAt.int_str x t y u
    | list k1 k2 k3 k4 => exact RcNeAt.int_list x t ⟨_, k1, k2, _, k3⟩ hu0
    | tuple k1 k2 k3 k4 => exact RcNeAt.int_tuple x t ⟨_, k1, k2, _, k3⟩ hu0
    | dict => exact nomatch hb
  | str x t =>
    cases rb with
    | none  => exact RcNeAt.str_none x t 
    | bool y => exact RcNeAt.str_bool x t y
    | int y u => exact RcNeAt.str_int x t y u
    | str y u => exact RcNeAt.str_str x t y u
    | list k1 k2 k3 k4 => exact RcNeAt.str_list x t ⟨_, k1, k2, _, k3⟩ hu0
    | tuple k1 k2 k3 k4 => exact RcNeAt.str_tuple x t ⟨_, k1, k2, _, k3⟩ hu0
    | dict => exact nomatch hb
  | @list l o vs n xs as₁ h1 h2 h3 h4 =>
    have hl : s.heap.IsList l vs := ⟨_, h1, h2, _, h3⟩
    have hd : (PyData.list xs).depth = PyData.depthAll xs + 1 := rfl
    cases rb with
    | none  => exact RcNeAt.list_none  hl hu0
    | bool y => exact RcNeAt.list_bool y hl hu0
    | int y u => exact RcNeAt.list_int y u hl hu0
    | str y u => exact RcNeAt.list_str y u hl hu0
    | tuple k1 k2 k3 k4 => exact RcNeAt.list_tuple hl ⟨_, k1, k2, _, k3⟩ hu0
    | dict => exact nomatch hb
    | @list l' o' vs' n' ys bs₁ k1 k2 k3 k4 =>
      have hl' : s.heap.IsList l' vs' := ⟨_, k1, k2, _, k3⟩
      have n1 : vs.size = xs.length := by simpa using ReadsAll.length _ _ _ h4
      have n2 : vs'.size = ys.length := by simpa using ReadsAll.length _ _ _ k4
      have he : ∀ j (j1 : j < vs.size) (j2 : j < vs'.size), EqAt A.in1 s vs[j] vs'[j] (pairEq xs ys j) := fun j j1 j2 => by
        have := eqAt_anyAll xs ys A.in1 s vs.toList vs'.toList _ _ h4 k4 ha (by show A.units + 1 + _ < _; omega) j (by simpa using j1) (by simpa using j2)
        simpa using this
      show RcNeAt A s (.ref l) (.ref l') (!PyData.eqvAll xs ys)
      by_cases hsz : vs.size = vs'.size
      · rw [← eqvAll_same_length (by omega : xs.length = ys.length), ← n1]
        exact RcNeAt.lists hl hl' hsz hu0 he
      · rw [eqvAll_other_length (by omega : xs.length ≠ ys.length)]
        exact RcNeAt.lists_lengths hl hl' (by simpa using hsz) hu0
  | @tuple l o vs n xs as₁ h1 h2 h3 h4 =>
    have hl : s.heap.IsTuple l vs := ⟨_, h1, h2, _, h3⟩
    have hd : (PyData.tuple xs).depth = PyData.depthAll xs + 1 := rfl
    cases rb with
    | none  => exact RcNeAt.tuple_none  hl hu0
    | bool y => exact RcNeAt.tuple_bool y hl hu0
    | int y u => exact RcNeAt.tuple_int y u hl hu0
    | str y u => exact RcNeAt.tuple_str y u hl hu0
    | list k1 k2 k3 k4 => exact RcNeAt.tuple_list hl ⟨_, k1, k2, _, k3⟩ hu0
    | dict => exact nomatch hb
    | @tuple l' o' vs' n' ys bs₁ k1 k2 k3 k4 =>
      have hl' : s.heap.IsTuple l' vs' := ⟨_, k1, k2, _, k3⟩
      have n1 : vs.size = xs.length := by simpa using ReadsAll.length _ _ _ h4
      have n2 : vs'.size = ys.length := by simpa using ReadsAll.length _ _ _ k4
      have he : ∀ j (j1 : j < vs.size) (j2 : j < vs'.size), EqAt A.in1 s vs[j] vs'[j] (pairEq xs ys j) := fun j j1 j2 => by
        have := eqAt_anyAll xs ys A.in1 s vs.toList vs'.toList _ _ h4 k4 ha (by show A.units + 1 + _ < _; omega) j (by simpa using j1) (by simpa using j2)
        simpa using this
      show RcNeAt A s (.ref l) (.ref l') (!PyData.eqvAll xs ys)
      rw [← eqvAll_eq xs ys, ← n1, ← n2]
      exact RcNeAt.tuples hl hl' hu0 he
  | dict => exact nomatch ha
/-! the rules -/
def rEqG (X : Cx) : R2 := fun x y H Q => ∃ d e, ReadsV X H x d ∧ ReadsV X H y e ∧ nod d = true ∧ d.depth ≤ 64 ∧ Q (.bl (PyData.eqv d e)) H
def rNeG (X : Cx) : R2 := fun x y H Q => ∃ d e, ReadsV X H x d ∧ ReadsV X H y e ∧ nod d = true ∧ nod e = true ∧ d.depth ≤ 64 ∧ Q (.bl (!PyData.eqv d e)) H
def rEmp (K : PySem.W.Frag) : R2 := fun x y H Q => ∃ l b xs, x = .ref l ∧ y = .ref b ∧ SqT K H l xs ∧ SqT K H b [] ∧ Q (.bl xs.isEmpty) H
section
variable {X : Cx}
theorem op_eqG (hu : X.A.units + 64 < cLine) : OpR X (compareOp .Eq) (rEqG X) := by
  intro pins s σ H x y v u Q I rx ry ⟨d, e, h1, h2, h3, h4, q⟩
  obtain ⟨as, r1, _⟩ := h1 pins σ s v I rx
  obtain ⟨bs, r2, _⟩ := h2 pins σ s u I ry
  exact rcAt_any r1 r2 h3 (by omega) _ _ _ _ ⟨.bl _, H, I, rfl, q⟩
theorem op_neG (hu : X.A.units + 64 < cLine) : OpR X (compareOp .NotEq) (rNeG X) := by
  intro pins s σ H x y v u Q I rx ry ⟨d, e, h1, h2, h3, h4, h5, q⟩
  obtain ⟨as, r1, _⟩ := h1 pins σ s v I rx
  obtain ⟨bs, r2, _⟩ := h2 pins σ s u I ry
  exact rcNe_any r1 r2 h3 h4 (by omega) _ _ _ _ ⟨.bl _, H, I, rfl, q⟩
theorem op_emp (hu : X.A.units < cLine) : OpR X (compareOp .Eq) (rEmp X.K) := by
  intro pins s σ H x y v u Q I rx ry ⟨l, b, xs, e1, e2, h1, h2, q⟩
  subst e1 e2
  cases rx
  cases ry
  obtain ⟨its, r1, p1, _⟩ := I.tuple h1
  obtain ⟨its2, r2, p2, _⟩ := I.tuple h2
  cases r2
  refine rcAt_empty p1 p2 hu _ _ _ _ ⟨.bl _, H, I, ?_, q⟩
  have := r1.length
  show Value.bool _ = Value.bool _
  cases xs <;> cases its <;> simp_all
/-- is x equal to one of the list or the tuple at p -/
def rInG (X : Cx) (neg : Bool) : R2 := fun x y H Q => ∃ p xs ds e, y = .ref p ∧ (SqL X.K H p xs ∨ SqT X.K H p xs) ∧ ReadsV X H x e ∧ (∀ pins σ s us, Inv X pins σ H s → Vals xs us → ∃ as, ReadsAll s.heap us ds as) ∧ nods ds = true ∧ PyData.depthAll ds ≤ 63 ∧
  Q (.bl (if neg = true then !ds.any fun d => PyData.eqv d e else ds.any fun d => PyData.eqv d e)) H
theorem readsAll_any {A : Around} {s : Shared} {v : Value} {e : PyData} {es : List Addr} (re : Reads s.heap v e es) : ∀ {us : List Value} {ds : List PyData} {as : List Addr}, ReadsAll s.heap us ds as → nods ds = true → A.units + PyData.depthAll ds < cLine → ∃ f : Value → Bool, (∀ u ∈ us, EqAt A s u v (f u)) ∧ us.any f = ds.any fun d => PyData.eqv d e := by
  intro us ds as ra hn hu
  have key : ∀ {us : List Value} {ds : List PyData} {as : List Addr}, ReadsAll s.heap us ds as → nods ds = true → A.units + PyData.depthAll ds < cLine →
      (∀ u ∈ us, ∃ d bs, Reads s.heap u d bs ∧ nod d = true ∧ A.units + d.depth < cLine) ∧ ∀ f : Value → Bool, (∀ u d bs, Reads s.heap u d bs → nod d = true → f u = PyData.eqv d e) → us.any f = ds.any fun d => PyData.eqv d e := by
    intro us ds as ra
    induction ds generalizing us as with
    | nil =>
      intro _ _
      cases ra
      exact ⟨fun u m => absurd m List.not_mem_nil, fun _ _ => rfl⟩
    | cons d ds ih =>
      intro hn hu
      have h' : nod d = true ∧ nods ds = true := by simpa [nods] using hn
      have hd : PyData.depthAll (d :: ds) = max d.depth (PyData.depthAll ds) := rfl
      cases ra with
      | cons r rs =>
        obtain ⟨i1, i2⟩ := ih rs h'.2 (by omega)
        refine ⟨fun u m => ?_, fun f hf => ?_⟩
        · rcases List.mem_cons.mp m with rfl | m
          · exact ⟨d, _, r, h'.1, by omega⟩
          · exact i1 u m
        · rw [List.any_cons, List.any_cons, i2 f hf, hf _ d _ r h'.1]
  obtain ⟨k1, k2⟩ := key ra hn hu
  classical
  let f : Value → Bool := fun u => decide (∃ d bs, Reads s.heap u d bs ∧ nod d = true ∧ PyData.eqv d e = true)
  have hf : ∀ u d bs, Reads s.heap u d bs → nod d = true → f u = PyData.eqv d e := fun u d bs r hd => by
    cases h : PyData.eqv d e with
    | true => exact decide_eq_true ⟨d, bs, r, hd, h⟩
    | false =>
      refine decide_eq_false fun ⟨d', bs', r', hd', h'⟩ => ?_
      rw [reads_uniq d d' u _ _ hd r r', h'] at h
      cases h
  refine ⟨f, fun u m => ?_, k2 f hf⟩
  obtain ⟨d, bs, r, hd, hu'⟩ := k1 u m
  rw [hf u d bs r hd]
  exact eqAt_any d e A s u v _ _ r re hd hu'
theorem op_inG (hu : X.A.units + 65 < cLine) : OpR X (compareOp .In) (rInG X false) := by
  intro pins s σ H x y v u Q I rx ry ⟨p, xs, ds, e, e1, hq, h1, h2, h3, h4, q⟩
  subst e1
  cases ry
  obtain ⟨es, re, _⟩ := h1 pins σ s v I rx
  rcases hq with hq | hq
  · obtain ⟨its, r, pl, hz⟩ := I.list hq
    obtain ⟨as, ra⟩ := h2 pins σ s its I r
    obtain ⟨f, f1, f2⟩ := readsAll_any (A := X.A.in1) re ra h3 (by show X.A.units + 1 + _ < _; omega)
    refine in_listAt f pl.isList (fun w hw => f1 w (by simpa using hw)) ⟨.bl _, H, I, rfl, ?_⟩
    rw [show its.toArray.any f = its.any f by simp, f2]
    exact q
  · obtain ⟨its, r, pl, hz⟩ := I.tuple hq
    obtain ⟨as, ra⟩ := h2 pins σ s its I r
    obtain ⟨f, f1, f2⟩ := readsAll_any (A := X.A.in1) re ra h3 (by show X.A.units + 1 + _ < _; omega)
    refine in_tupleAt f pl (fun w hw => f1 w (by simpa using hw)) ⟨.bl _, H, I, rfl, ?_⟩
    rw [show its.toArray.any f = its.any f by simp, f2]
    exact q
theorem op_notInG (hu : X.A.units + 65 < cLine) : OpR X (compareOp .NotIn) (rInG X true) := by
  intro pins s σ H x y v u Q I rx ry ⟨p, xs, ds, e, e1, hq, h1, h2, h3, h4, q⟩
  subst e1
  cases ry
  obtain ⟨es, re, _⟩ := h1 pins σ s v I rx
  rcases hq with hq | hq
  · obtain ⟨its, r, pl, hz⟩ := I.list hq
    obtain ⟨as, ra⟩ := h2 pins σ s its I r
    obtain ⟨f, f1, f2⟩ := readsAll_any (A := X.A.in1) re ra h3 (by show X.A.units + 1 + _ < _; omega)
    refine notIn_listAt f pl.isList (fun w hw => f1 w (by simpa using hw)) ⟨.bl _, H, I, rfl, ?_⟩
    rw [show its.toArray.any f = its.any f by simp, f2]
    exact q
  · obtain ⟨its, r, pl, hz⟩ := I.tuple hq
    obtain ⟨as, ra⟩ := h2 pins σ s its I r
    obtain ⟨f, f1, f2⟩ := readsAll_any (A := X.A.in1) re ra h3 (by show X.A.units + 1 + _ < _; omega)
    refine notIn_tupleAt f pl (fun w hw => f1 w (by simpa using hw)) ⟨.bl _, H, I, rfl, ?_⟩
    rw [show its.toArray.any f = its.any f by simp, f2]
    exact q
end
/-! as functions -/
def eqF (p q : PV) : Option Bool := match toR p, toR q with
  | some d, some e => if (nod d && decide (d.depth ≤ 64)) = true then some (PyData.eqv d e) else match p, q with
    | .tup ps, .tup [] => some ps.isEmpty
    | _, _ => none
  | _, _ => none
def neF (p q : PV) : Option Bool := match toR p, toR q with
  | some d, some e => if (nod d && nod e && decide (d.depth ≤ 64)) = true then some (!PyData.eqv d e) else none
  | _, _ => none
def inSeq (p : PV) (ps : List PV) : Option Bool := match toR p, toRs ps with
  | some e, some ds => if (nods ds && decide (PyData.depthAll ds ≤ 63)) = true then some (ds.any fun d => PyData.eqv d e) else none
  | _, _ => none
def inF (p q : PV) : Option Bool := match q with
  | .str z => match p with
    | .str a => if a.length = 1 then some (decide (a.cps.getD 0 0 ∈ z.cps.toList)) else none
    | _ => none
  | .tup ps => inSeq p ps
  | .lst ps => inSeq p ps
  | .dct ks => (keyP p).map fun k => ks.any fun kv => decide (kv.1 = k)
  | _ => none
def notInF (p q : PV) : Option Bool := (inF p q).map (!·)
def cEqG (sy : Unit) : G3 := fun p q _ b => eqF p q = some b
def cNeG (sy : Unit) : G3 := fun p q _ b => neF p q = some b
section
variable {X : Cx} {C : Cfg}
theorem toRh_of {hp : PH} {p : PV} {d : PyData} (h : toR p = some d) : toRh hp p = some d := by
  cases p <;> first | exact h | cases h
theorem l_eqG (hK : X.K = C.K) (sy : HasSys X.K) : LCp C (fun x y H Q => rEqG X x y H Q ∨ rEmp X.K x y H Q) (cEqG ()) := ⟨fun μ H hp p q v u b r rp rq h Q hq => by
  have h : eqF p q = some b := h
  unfold eqF at h
  split at h
  · rename_i d e h1 h2
    split at h
    · rename_i h3
      cases h
      rw [Bool.and_eq_true, decide_eq_true_eq] at h3
      exact .inl ⟨d, e, reads_ofD hK sy r rp (toRh_of h1), reads_ofD hK sy r rq (toRh_of h2), h3.1, h3.2, hq⟩
    · split at h
      · rename_i ps
        cases h
        obtain ⟨l, xs, rfl, s1, r1⟩ := rp.tupI
        obtain ⟨l2, xs2, rfl, s2, r2⟩ := rq.tupI
        simp only [RVs] at r2
        subst r2
        exact .inr ⟨l, l2, xs, rfl, rfl, by rw [hK]; exact s1, by rw [hK]; exact s2, by rw [r1.isEmpty]; exact hq⟩
      · cases h
  · cases h⟩
theorem l_neG (hK : X.K = C.K) (sy : HasSys X.K) : LCp C (rNeG X) (cNeG ()) := ⟨fun μ H hp p q v u b r rp rq h Q hq => by
  have h : neF p q = some b := h
  unfold neF at h
  split at h
  · rename_i d e h1 h2
    split at h
    · rename_i h3
      cases h
      rw [Bool.and_eq_true, Bool.and_eq_true, decide_eq_true_eq] at h3
      exact ⟨d, e, reads_ofD hK sy r rp (toRh_of h1), reads_ofD hK sy r rq (toRh_of h2), h3.1.1, h3.1.2, h3.2, hq⟩
    · cases h
  · cases h⟩
def rDin (neg : Bool) : R2 := fun x y H Q => ∃ a o, y = .ref a ∧ DGet H a x o ∧ Q (.bl (if neg = true then !o.isSome else o.isSome)) H
theorem op_din (hu : X.A.units + 1 < cLine) : OpR X (compareOp .In) (rDin false) := by
  intro pins s σ H x y v u Q I rx ry ⟨a, o, e1, g, q⟩
  subst e1
  cases ry
  exact L2.d_in hu I g rx fun s3 I3 => ⟨.bl _, H, I3, rfl, q⟩
theorem op_dnotin (hu : X.A.units + 1 < cLine) : OpR X (compareOp .NotIn) (rDin true) := by
  intro pins s σ H x y v u Q I rx ry ⟨a, o, e1, g, q⟩
  subst e1
  cases ry
  exact L2.d_notIn hu I g rx fun s3 I3 => ⟨.bl _, H, I3, rfl, q⟩
theorem rk_some {K : PySem.W.Frag} {μ : List Addr} {H : Hp} {k : Key} : ∀ {ks : List (Key × PV)} {ws : List (Key × V)}, RKs K μ H ks ws → (valV ws k).isSome = ks.any fun kv => decide (kv.1 = k)
  | [], _, r => by simp only [RKs] at r; subst r; rfl
  | (j, p) :: ks, _, r => by
    simp only [RKs] at r
    obtain ⟨w, ws, rfl, r1, r2⟩ := r
    rw [List.any_cons, ← rk_some r2]
    by_cases z : j = k
    · rw [valV_pos z, decide_eq_true z]; rfl
    · rw [valV_neg z, decide_eq_false z]; rfl
def cInG (neg : Bool) : G3 := fun p q _ b => (if neg = true then notInF p q else inF p q) = some b
abbrev rInAllG (X : Cx) (neg : Bool) : R2 := fun x y H Q => (∃ (c : Nat) (z : Str), x = .str ⟨#[c]⟩ ∧ y = .str z ∧ Q (.bl (if neg = true then !decide (c ∈ z.cps.toList) else decide (c ∈ z.cps.toList))) H) ∨ rInG X neg x y H Q ∨ rDin neg x y H Q
theorem op_inAllG (hu : X.A.units + 65 < cLine) : OpR X (compareOp .In) (rInAllG X false) := op_in_sign.or ((op_inG hu).or (op_din (by omega)))
theorem op_notInAllG (hu : X.A.units + 65 < cLine) : OpR X (compareOp .NotIn) (rInAllG X true) := op_notIn_sign.or ((op_notInG hu).or (op_dnotin (by omega)))
theorem one_sign {a : Str} (h : a.length = 1) : a = ⟨#[a.cps.getD 0 0]⟩ := by
  obtain ⟨c⟩ := a
  have h : c.size = 1 := h
  congr 1
  apply Array.ext
  · simp [h]
  · intro i h1 h2
    have : i = 0 := by omega
    subst this
    simp [Array.getD, h]
theorem inSeq_go (hK : X.K = C.K) (sy : HasSys X.K) {μ : List Addr} {H : Hp} {hp : PH} {p : PV} {v : V} {ps : List PV} {xs : List V} {a : Addr} {k : Bool} {neg : Bool} {Q : VK} (r : HR C μ H hp) (rp : RV C.K μ H p v) (sq : SqL C.K H a xs ∨ SqT C.K H a xs) (rs : RVs C.K μ H ps xs) (h : inSeq p ps = some k)
    (q : Q (.bl (if neg = true then !k else k)) H) : rInG X neg v (.ref a) H Q := by
  unfold inSeq at h
  split at h
  · rename_i e ds h1 h2
    split at h
    · rename_i h3
      rw [Bool.and_eq_true, decide_eq_true_eq] at h3
      cases h
      refine ⟨a, xs, ds, e, rfl, by rw [hK]; exact sq, reads_ofD hK sy r rp (toRh_of h1), fun pins σ s us I ru => ?_, h3.1, h3.2, q⟩
      obtain ⟨as, ra, _⟩ := reads_rvs I (sys_free I sy) ps xs us ds (by rw [hK]; exact rs) ru h2
      exact ⟨as, ra⟩
    · cases h
  · cases h
theorem l_inG (hK : X.K = C.K) (sy : HasSys X.K) (neg : Bool) : LCp C (rInAllG X neg) (cInG neg) := ⟨fun μ H hp p q v u b r rp rq h Q hq => by
  have h2 : ∃ k, inF p q = some k ∧ b = if neg = true then !k else k := by
    cases neg with
    | true =>
      obtain ⟨k, h1, h2⟩ := Option.map_eq_some_iff.mp (show (inF p q).map (!·) = some b from h)
      exact ⟨k, h1, h2.symm⟩
    | false => exact ⟨b, h, rfl⟩
  clear h
  obtain ⟨k, h, rfl⟩ := h2
  unfold inF at h
  split at h
  · cases p with
    | str a =>
      simp only at h
      split at h
      · rename_i h1
        cases h
        refine .inl ⟨a.cps.getD 0 0, _, ?_, rq.strI, hq⟩
        rw [rp.strI, ← one_sign h1]
      · cases h
    | _ => cases h
  · obtain ⟨a, vs, rfl, hs, rs⟩ := rq.tupI
    exact .inr (.inl (inSeq_go hK sy r rp (.inr hs) rs h hq))
  · obtain ⟨a, vs, rfl, hs, rs⟩ := rq.lstI
    exact .inr (.inl (inSeq_go hK sy r rp (.inl hs.sq) rs h hq))
  · rename_i ks
    obtain ⟨key, h1, h2⟩ := Option.map_eq_some_iff.mp h
    subst h2
    refine .inr (.inr ?_)
    obtain ⟨a, ws, rfl, rk, rd, _, g⟩ := dget_at r rq rp rfl h1
    exact ⟨a, _, rfl, g, by rw [rk_some rk]; exact hq⟩
  · cases h⟩
end
end RF

set_option Elab.async false
set_option linter.all false
set_option maxRecDepth 100000
set_option maxHeartbeats 1000000
/-! Part NA4: operators, functions, methods, comprehensions as functions. -/
namespace RF
open PySem PySem.Spec L2

/-! ### arithmetic -/
def addF : PV → PV → Option PV
  | .int i, .int j => some (.int (i + j))
  | .str a, .str b => if a.length + b.length ≤ 16777216 then some (.str (a ++ b)) else none
  | .tup a, .tup b => if a.length + b.length ≤ 16777216 then some (.tup (a ++ b)) else none
  | .lst a, .lst b => if a.length + b.length ≤ 16777216 then some (.lst (a ++ b)) else none
  | _, _ => none
def iiF (c : Int → Int → Bool) (g : Int → Int → Int) : PV → PV → Option PV
  | .int i, .int j => if c i j = true then some (.int (g i j)) else none
  | _, _ => none
abbrev subF := iiF (fun _ _ => true) fun i j => i - j
abbrev mulF := iiF (fun i j => (decide (-18446744073709551616 < i) && decide (i < 18446744073709551616)) || (decide (-18446744073709551616 < j) && decide (j < 18446744073709551616))) fun i j => i * j
abbrev divF := iiF (fun _ j => !decide (j = 0) && decide (j.natAbs < 1073741824)) fun i j => i.fdiv j
abbrev modF := iiF (fun _ j => !decide (j = 0)) fun i j => i.fmod j
abbrev powF := iiF (fun i j => decide (0 ≤ j) && (decide (j ≤ 1000000) && decide (i.natAbs < 18446744073709551616))) fun i j => i ^ j.toNat
abbrev andF := iiF (fun _ _ => true) fun i j => Builtin.bitAnd i j
def negF : PV → Option PV
  | .int i => some (.int (-i))
  | _ => none
section
open PySem
theorem sl : sizeLine = 16777216 := PySem.sizeLine_eq
theorem ia_add : Impl2 addF gAdd := fun x y z h Q e q => by
  unfold addF at e
  split at e
  · cases e; exact q
  · split at e
    · rename_i l
      cases e; exact ⟨by rw [sl]; exact l, q⟩
    · cases e
  · split at e
    · rename_i l
      cases e; exact ⟨by rw [sl]; exact l, q⟩
    · cases e
  · split at e
    · rename_i l
      cases e; exact ⟨_, _, rfl, rfl, by rw [sl]; exact l, q⟩
    · cases e
  · cases e
theorem ia_ii {c : Int → Int → Bool} {g : Int → Int → Int} {P : Int → Int → Prop} (h : ∀ i j, c i j = true → P i j) : Impl2 (iiF c g) (gII P g) := fun x y z h2 Q e q => by
  unfold iiF at e
  split at e
  · split at e
    · rename_i l
      cases e; exact ⟨_, _, rfl, rfl, h _ _ l, q⟩
    · cases e
  · cases e
theorem ia_i0 {c : Int → Int → Bool} {g : Int → Int → Int} : Impl2 (iiF c g) (gI0 g) := fun x y z h2 Q e q => by
  unfold iiF at e
  split at e
  · split at e
    · cases e; exact ⟨_, _, rfl, rfl, q⟩
    · cases e
  · cases e
theorem ia_mul : Impl2 mulF gMul := ia_ii fun i j h => by
  rw [Bool.or_eq_true, Bool.and_eq_true, Bool.and_eq_true] at h
  simp only [decide_eq_true_eq] at h
  exact h
theorem ia_div : Impl2 divF gDiv := ia_ii fun i j h => by
  rw [Bool.and_eq_true] at h
  simpa [CDivN] using h
theorem ia_mod : Impl2 modF gMod := ia_ii fun i j h => by simpa using h
theorem ia_pow : Impl2 powF gPow := ia_ii fun i j h => by
  rw [Bool.and_eq_true, Bool.and_eq_true] at h
  simp only [decide_eq_true_eq] at h
  exact ⟨h.1, h.2.1, h.2.2⟩
theorem ia_neg : Impl1 negF gNeg := fun x z h Q e q => by
  unfold negF at e
  split at e
  · cases e; exact ⟨_, rfl, q⟩
  · cases e
end
/-! ### comparisons of numbers; is None -/
def ciF (g : Int → Int → Bool) : PV → PV → Option Bool
  | .int i, .int j => some (g i j)
  | _, _ => none
abbrev ltF := ciF fun i j => decide (i < j)
abbrev leF := ciF fun i j => decide (i ≤ j)
abbrev gtF := ciF fun i j => decide (j < i)
abbrev geF := ciF fun i j => decide (j ≤ i)
def isF (p q : PV) : Option Bool := match q with
  | .non => some (isNon p)
  | _ => none
def isnotF (p q : PV) : Option Bool := match q with
  | .non => some !isNon p
  | _ => none
theorem ic_ci {g : Int → Int → Bool} : Impl3 (ciF g) (cII g) := fun x y k h e => by
  unfold ciF at e
  split at e
  · cases e; exact ⟨_, _, rfl, rfl, rfl⟩
  · cases e
theorem ic_is : Impl3 isF cIsN := fun x y k h e => by
  unfold isF at e
  split at e
  · cases e; exact ⟨rfl, rfl⟩
  · cases e
theorem ic_isnot : Impl3 isnotF cNotN := fun x y k h e => by
  unfold isnotF at e
  split at e
  · cases e; exact ⟨rfl, rfl⟩
  · cases e
theorem ic_eq : Impl3 eqF (cEqG ()) := fun x y k h e => e
theorem ic_ne : Impl3 neF (cNeG ()) := fun x y k h e => e
theorem ic_in : Impl3 inF (cInG false) := fun x y k h e => e
theorem ic_notin : Impl3 notInF (cInG true) := fun x y k h e => e
/-! ### subscripts, slices -/
def ixS : PV → PV → Option PV
  | .tup ps, .int i => atI ps i
  | .lst ps, .int i => atI ps i
  | .str s, .int i => (atI s.cps.toList i).map fun c => .str ⟨#[c]⟩
  | _, _ => none
def ixF (p q : PV) : Option PV := match p with
  | .dct ks => (keyP q).bind fun k => getP ks k
  | p => ixS p q
theorem ia_ix : Impl2 ixS gIx := fun x y z h Q e q => by
  unfold ixS at e
  split at e
  · exact ⟨_, rfl, z, e, q⟩
  · exact ⟨_, rfl, _, z, rfl, e, q⟩
  · obtain ⟨c, e1, rfl⟩ := Option.map_eq_some_iff.mp e
    exact ⟨_, rfl, c, e1, q⟩
  · cases e
def rIxDct : R2 := fun x y H Q => ∃ a v, x = .ref a ∧ DGet H a y (some v) ∧ Q v H
theorem ix_dct {X : Cx} (hu : X.A.units + 1 < cLine) : IxR X rIxDct := by
  intro value slice pins s σ H x y v u Q I rx ry ⟨a, w, e1, g, q⟩ hs
  subst e1
  cases rx
  exact PyProof.Rows.tail_any (dict_typeIs I g) PySem.F.slot_dict_getitem.lookup (d_getItem hu I g ry fun w' s3 I3 rw' => ⟨w, H, I3, rw', q⟩) hs
def gIxF : G2 := fun p q h Q => ∃ z, ixF p q = some z ∧ Q z h
theorem l_ixF {C : Cfg} : LOp C (fun x y H Q => rIx C.K x y H Q ∨ rIxDct x y H Q) gIxF where
  mo := fun p q hp Q Q' i ⟨z, e, q'⟩ => ⟨z, e, i _ _ q'⟩
  ok := fun μ H hp p q v u Q r rp rq ⟨z, e, h⟩ => by
    unfold ixF at e
    split at e
    · rename_i ks
      obtain ⟨k, e1, e2⟩ := Option.bind_eq_some_iff.mp e
      obtain ⟨a, ws, rfl, rk, rd, _, g⟩ := dget_at r rp rq rfl e1
      obtain ⟨w, hw, rw'⟩ := rk.get.1 z e2
      rw [hw] at g
      exact .inr ⟨a, w, rfl, g, fzk (h μ H _ .refl r rw')⟩
    · exact .inl (l_ix.ok μ H hp _ q v u Q r rp rq (ia_ix _ _ z hp _ e h))
def slF (p : PV) (lo hi : Option Int) : Option PV := match p with
  | .tup ps => some (.tup (cutP ps lo hi))
  | .str s => some (.str (cutS s lo hi))
  | .lst ps => some (.lst (cutP ps lo hi))
  | _ => none
def fNoO : FO := fun _ => M.ret none
def fSmO (a : FE) : FO := fun σ => (a σ).bind fun p => match p with
  | .int i => M.ret (some i)
  | _ => M.bad
def fSl (a : FE) (lo hi : FO) : FE := fun σ => (a σ).bind fun p => (lo σ).bind fun l => (hi σ).bind fun u => M.ofO (slF p l u)
def revF : PV → Option PV
  | .lst ps => some (.lst ps.reverse)
  | _ => none
def fRev (a : FE) : FE := fun σ => (a σ).bind fun p => M.ofO (revF p)
section
variable {σ : SI} {hp : PH} {e : EI} {Q : KI} {QT : Bool → PH → Prop} {QA : List PV → PH → Prop} {QO : Option Int → PH → Prop} {a b d : FE} {ta tb : FT} {fa : FA} {lo hi : FO}
theorem im_noO (q : toO fNoO σ hp e QO) : wNoO σ hp e QO := toM.ret q
theorem im_smO (q : toO (fSmO a) σ hp e QO) : wSmO (toE a) σ hp e QO := (toM.bind q).mono fun p h q => by
  cases p with
  | int i => exact ⟨i, rfl, toM.ret q⟩
  | _ => exact (toM.nobad q).elim
theorem im_sl (q : toE (fSl a lo hi) σ hp e Q) : wSl (toE a) (toO lo) (toO hi) σ hp e Q := by
  refine (toM.bind q).mono fun p h q => ?_
  refine (toM.bind q).mono fun l h q => ?_
  refine (toM.bind q).mono fun u h q => ?_
  obtain ⟨z, e1, q⟩ := toM.ofO q
  cases p with
  | tup ps => cases e1; exact q
  | str s => cases e1; exact q
  | lst ps => cases e1; exact ⟨_, rfl, q⟩
  | _ => cases e1
theorem im_rev (q : toE (fRev a) σ hp e Q) : wRevL (toE a) σ hp e Q := (toM.bind q).mono fun p h q => by
  obtain ⟨z, e1, q⟩ := toM.ofO q
  unfold revF at e1
  split at e1
  · cases e1; exact ⟨_, rfl, q⟩
  · cases e1
end
/-! ### functions -/
def fFn (g : List PV → Option PV) (a : FA) : FE := fun σ => (a σ).bind fun ps => M.ofO (g ps)
def ImplA (g : List PV → Option PV) (w : GA) : Prop := ∀ ps z h Q, g ps = some z → Q z h → w ps h Q
def f1 (g : PV → Option PV) : List PV → Option PV
  | [p] => g p
  | _ => none
def f2 (g : PV → PV → Option PV) : List PV → Option PV
  | [p, q] => g p q
  | _ => none
theorem if_1 {g : PV → Option PV} {w : PV → PH → PV → Prop} (h : ∀ p z hp, g p = some z → w p hp z) : ImplA (f1 g) (gF1 w) := fun ps z hp Q e q => by
  unfold f1 at e
  split at e
  · exact ⟨_, z, rfl, h _ _ _ e, q⟩
  · cases e
theorem if_2 {g : PV → PV → Option PV} {w : PV → PV → PH → PV → Prop} (h : ∀ p p2 z hp, g p p2 = some z → w p p2 hp z) : ImplA (f2 g) (gF2 w) := fun ps z hp Q e q => by
  unfold f2 at e
  split at e
  · exact ⟨_, _, z, rfl, h _ _ _ _ e, q⟩
  · cases e
def lenF : PV → Option PV
  | .str s => some (.int s.length)
  | .tup ps => some (.int ps.length)
  | .lst ps => some (.int ps.length)
  | _ => none
def intF : PV → Option PV
  | .int i => some (.int i)
  | .bl k => some (.int (if k = true then 1 else 0))
  | .str a => if a.length ≤ 640 then (PySem.intText? a).map .int else none
  | _ => none
def strF : PV → Option PV
  | .int i => if i.natAbs.log2 < 1920 ∧ (toString i : Str).length ≤ 16777216 then some (.str (toString i)) else none
  | .str a => some (.str a)
  | _ => none
def ordF : PV → Option PV
  | .str x => if x.length = 1 then some (.int (x.cps.getD 0 0 : Nat)) else none
  | _ => none
def absF : PV → Option PV
  | .int i => some (.int (if i < 0 then -i else i))
  | _ => none
def maxF : PV → PV → Option PV
  | .int i, .int j => some (.int (if j > i then j else i))
  | _, _ => none
def minF : PV → PV → Option PV
  | .int i, .int j => some (.int (if j < i then j else i))
  | _, _ => none
def bools : List PV → Option (List Bool)
  | [] => some []
  | .bl b :: ps => (bools ps).map (b :: ·)
  | _ :: _ => none
def allF : PV → Option PV
  | .lst ps => (bools ps).map fun bs => .bl (bs.all id)
  | _ => none
def anyF : PV → Option PV
  | .lst ps => (bools ps).map fun bs => .bl (bs.any id)
  | _ => none
def seqF : PV → Option (List PV)
  | .tup ps => some ps
  | .lst ps => some ps
  | _ => none
def listF (p : PV) : Option PV := (seqF p).map .lst
def tupleF (p : PV) : Option PV := (seqF p).map .tup
/-- a datum can be shown -/
def showy (d : PyData) : Bool := d.showable && decide (d.depth ≤ 64) && decide (d.shown.length ≤ 16777216)
def reprF (p : PV) : Option PV := (toR p).bind fun d => if showy d = true then some (.str d.shown) else none
theorem bools_eq : ∀ {ps : List PV} {bs : List Bool}, bools ps = some bs → ps = bs.map .bl
  | [], bs, h => by cases h; rfl
  | p :: ps, bs, h => by
    cases p with
    | bl b =>
      obtain ⟨cs, h1, rfl⟩ := Option.map_eq_some_iff.mp (show (bools ps).map (b :: ·) = some bs from h)
      rw [bools_eq h1]; rfl
    | _ => cases h
theorem bools_map (bs : List Bool) : bools (bs.map .bl) = some bs := by
  induction bs with
  | nil => rfl
  | cons b bs ih => simp [bools, ih]
theorem seqF_P {p : PV} {ps : List PV} {hp : PH} (h : seqF p = some ps) : seqP hp p = some ps := by
  cases p with
  | tup qs => exact h
  | lst qs => exact h
  | _ => cases h
theorem if_len : ImplA (f1 lenF) gLen := if_1 fun p z hp e => by
  unfold lenF at e
  split at e
  · cases e; exact ⟨_, rfl, rfl⟩
  · cases e; exact ⟨_, rfl, rfl⟩
  · cases e; exact ⟨_, rfl, rfl⟩
  · cases e
theorem if_int : ImplA (f1 intF) gInt := if_1 fun p z hp e => by
  unfold intF at e
  split at e
  · cases e; rfl
  · rename_i k
    cases e; rfl
  · split at e
    · rename_i l
      obtain ⟨n, e1, rfl⟩ := Option.map_eq_some_iff.mp e
      exact ⟨n, e1, l, rfl⟩
    · cases e
  · cases e
theorem if_str : ImplA (f1 strF) gStr := if_1 fun p z hp e => by
  unfold strF at e
  split at e
  · split at e
    · rename_i l
      cases e; exact ⟨l.1, by rw [sl]; exact l.2, rfl⟩
    · cases e
  · cases e; rfl
  · cases e
theorem if_ord : ImplA (f1 ordF) gOrd := if_1 fun p z hp e => by
  unfold ordF at e
  split at e
  · split at e
    · rename_i l
      cases e; exact ⟨_, rfl, l, rfl⟩
    · cases e
  · cases e
theorem if_abs : ImplA (f1 absF) gAbs := if_1 fun p z hp e => by
  unfold absF at e
  split at e
  · cases e; exact ⟨_, rfl, rfl⟩
  · cases e
theorem if_max : ImplA (f2 maxF) gMax := if_2 fun p p2 z hp e => by
  unfold maxF at e
  split at e
  · cases e; exact ⟨_, _, rfl, rfl, rfl⟩
  · cases e
theorem if_min : ImplA (f2 minF) gMin := if_2 fun p p2 z hp e => by
  unfold minF at e
  split at e
  · cases e; exact ⟨_, _, rfl, rfl, rfl⟩
  · cases e
theorem if_all : ImplA (f1 allF) gAll := if_1 fun p z hp e => by
  unfold allF at e
  split at e
  · obtain ⟨bs, e1, rfl⟩ := Option.map_eq_some_iff.mp e
    rw [bools_eq e1]
    exact ⟨bs, rfl, rfl⟩
  · cases e
theorem if_any : ImplA (f1 anyF) gAny := if_1 fun p z hp e => by
  unfold anyF at e
  split at e
  · obtain ⟨bs, e1, rfl⟩ := Option.map_eq_some_iff.mp e
    rw [bools_eq e1]
    exact ⟨bs, rfl, rfl⟩
  · cases e
theorem if_list : ImplA (f1 listF) gList := if_1 fun p z hp e => by
  obtain ⟨ps, e1, rfl⟩ := Option.map_eq_some_iff.mp e
  exact ⟨ps, seqF_P e1, rfl⟩
theorem if_tuple : ImplA (f1 tupleF) gTuple := if_1 fun p z hp e => by
  obtain ⟨ps, e1, rfl⟩ := Option.map_eq_some_iff.mp e
  exact ⟨ps, seqF_P e1, rfl⟩
theorem if_repr : ImplA (f1 reprF) gRepD := if_1 fun p z hp e => by
  obtain ⟨d, e1, e2⟩ := Option.bind_eq_some_iff.mp e
  split at e2
  · rename_i l
    cases e2
    unfold showy at l
    rw [Bool.and_eq_true, Bool.and_eq_true, decide_eq_true_eq, decide_eq_true_eq] at l
    exact ⟨d, toRh_of e1, ⟨l.1.1, l.1.2, by rw [sl]; exact l.2⟩, rfl⟩
  · cases e2
theorem im_fn {g : List PV → Option PV} {w : GA} (I : ImplA g w) {fa : FA} {σ : SI} {hp : PH} {e : EI} {Q : KI} (q : toE (fFn g fa) σ hp e Q) : wFn w (toA fa) σ hp e Q := (toM.bind q).mono fun ps h q => let ⟨z, e1, q⟩ := toM.ofO q; I ps z h Q e1 q
/-! isinstance -/
inductive Ty where
  | int | bool | str | tuple | list | dict
def Ty.nm : Ty → String
  | .int => "int"
  | .bool => "bool"
  | .str => "str"
  | .tuple => "tuple"
  | .list => "list"
  | .dict => "dict"
def isiF : Ty → PV → Option Bool
  | _, .loc _ => none
  | _, .ref _ => none
  | .int, .int _ => some true
  | .int, .bl _ => some true
  | .bool, .bl _ => some true
  | .str, .str _ => some true
  | .tuple, .tup _ => some true
  | .list, .lst _ => some true
  | .dict, .dct _ => some true
  | _, _ => some false
def fIsi (T : Ty) (a : FE) : FE := fun σ => (a σ).bind fun p => M.ofO ((isiF T p).map .bl)
theorem isi_kit {T : Ty} {p : PV} {b : Bool} {hp : PH} (h : isiF T p = some b) : ∃ S, tyP hp p = some S ∧ kitB S T.nm = some b := by
  cases p <;> cases T <;> first | cases h; done | (cases h; exact ⟨_, rfl, by decide +kernel⟩)
theorem im_isi {T : Ty} {a : FE} {σ : SI} {hp : PH} {e : EI} {Q : KI} (q : toE (fIsi T a) σ hp e Q) : wIsi T.nm (toE a) σ hp e Q := (toM.bind q).mono fun p h q => by
  obtain ⟨z, e1, q⟩ := toM.ofO q
  obtain ⟨b, e2, rfl⟩ := Option.map_eq_some_iff.mp e1
  obtain ⟨S, h1, h2⟩ := isi_kit (hp := h) e2
  exact ⟨S, b, h1, h2, q⟩
/-! ### methods -/
def fMt (g : PV → List PV → Option PV) (ok : PV → Bool) (a : FE) (w : FA) : FE := fun σ => (a σ).bind fun p => if ok p = true then (w σ).bind fun ps => M.ofO (g p ps) else M.bad
def isStrB : PV → Bool
  | .str _ => true
  | _ => false
def isTupB : PV → Bool
  | .tup _ => true
  | _ => false
def texts : List PV → Option (List Str)
  | [] => some []
  | .str s :: ps => (texts ps).map (s :: ·)
  | _ :: _ => none
def joinF : PV → List PV → Option PV
  | .str a, [q] => ((seqF q).bind texts).bind fun ys => if (ys.map (·.length)).sum + ys.length * a.length ≤ 16777216 then some (.str (Txt.join a ys)) else none
  | _, _ => none
theorem texts_eq : ∀ {ps : List PV} {ys : List Str}, texts ps = some ys → ps = ys.map .str
  | [], ys, h => by cases h; rfl
  | p :: ps, ys, h => by
    cases p with
    | str s =>
      obtain ⟨cs, h1, rfl⟩ := Option.map_eq_some_iff.mp (show (texts ps).map (s :: ·) = some ys from h)
      rw [texts_eq h1]; rfl
    | _ => cases h
theorem texts_map (ys : List Str) : texts (ys.map .str) = some ys := by
  induction ys with
  | nil => rfl
  | cons b bs ih => simp [texts, ih]
theorem im_mt {g : PV → List PV → Option PV} {ok : PV → Bool} {gt : PV → PH → Prop} {w : GM} (h1 : ∀ p h, ok p = true → gt p h) (h2 : ∀ p ps z h Q, g p ps = some z → Q z h → w p ps h Q) {a : FE} {fa : FA} {σ : SI} {hp : PH} {e : EI} {Q : KI}
    (q : toE (fMt g ok a fa) σ hp e Q) : wMt gt w (toE a) (toA fa) σ hp e Q := (toM.bind q).mono fun p h q => by
  split at q
  · rename_i l
    exact ⟨h1 p h l, (toM.bind q).mono fun ps h q => let ⟨z, e1, q⟩ := toM.ofO q; h2 p ps z h Q e1 q⟩
  · exact (toM.nobad q).elim
theorem im_join {a : FE} {fa : FA} {σ : SI} {hp : PH} {e : EI} {Q : KI} (q : toE (fMt joinF isStrB a fa) σ hp e Q) : wMt isS gJoin (toE a) (toA fa) σ hp e Q :=
  im_mt (fun p h l => by cases p <;> first | exact ⟨_, rfl⟩ | cases l) (fun p ps z h Q e q => by
    unfold joinF at e
    split at e
    · obtain ⟨ys, e1, e2⟩ := Option.bind_eq_some_iff.mp e
      obtain ⟨qs, e3, e4⟩ := Option.bind_eq_some_iff.mp e1
      split at e2
      · rename_i l
        cases e2
        exact ⟨_, _, ys, rfl, rfl, by rw [seqF_P e3, texts_eq e4], l, q⟩
      · cases e2
    · cases e) q
/-- tuple.index of texts -/
def tindexF : PV → List PV → Option PV
  | .tup ps, [.str z] => (texts ps).bind fun ys => (ys.findIdx? (· == z)).map fun j => .int j
  | _, _ => none
def isTp (p : PV) (_ : PH) : Prop := ∃ ps, p = .tup ps
def gTIndex : GM := fun p ps hp Q => ∃ z, tindexF p ps = some z ∧ Q z hp
/-! ### comprehensions -/
def compF (tg : Tg) (tt : FT) (el : FE) (σ : SI) : List PV → List PV → M (List PV)
  | [], acc => M.ret acc
  | p :: ps, acc => (M.ofO (tg.go p σ)).bind fun σ' => (tt σ').ne.bind fun b => if b = true then (el σ').ne.bind fun y => compF tg tt el σ ps (acc ++ [y]) else compF tg tt el σ ps acc
def fLc (tg : Tg) (vs : List Nat) (it : FA) (tt : FT) (el : FE) : FE := fun σ => (it σ).bind fun ps => (compF tg tt el (wpI σ vs) ps []).bind fun qs => M.ret (.lst qs)
def fYes : FT := fun _ => M.ret true
theorem im_comp {tg : Tg} {tt : FT} {el : FE} {σ : SI} {e : EI} {Q : List PV → PH → Prop} : ∀ (ps acc : List PV) (hp : PH), acc.length + ps.length ≤ sizeLine → toM (compF tg tt el σ ps acc) hp e Q → compW tg (toT tt) (toE el) σ ps acc hp Q
  | [], acc, hp, l, q => toM.ret q
  | p :: ps, acc, hp, l, q => by
    rw [List.length_cons] at l
    obtain ⟨σ', e1, q⟩ := toM.ofO (toM.bind q)
    refine ⟨σ', e1, (toM.ne (toM.bind q)).mono fun b h q => ?_⟩
    refine ite_mono (fun q => ?_) (fun q => im_comp ps acc h (by omega) q) (toM.ite q)
    exact (toM.ne (toM.bind q)).mono fun y h2 q => ⟨by omega, im_comp ps _ h2 (by rw [List.length_append]; simp; omega) q⟩
theorem im_lc {tg : Tg} {vs : List Nat} {it : FA} {tt : FT} {el : FE} {σ : SI} {hp : PH} {e : EI} {Q : KI} (q : toE (fLc tg vs it tt el) σ hp e Q) : wLc tg vs (toI it) (toT tt) (toE el) σ hp e Q :=
  (toM.bind q).mono fun ps h q l => compW.mo (toT.mo) (toE.mo) (fun qs h2 q => toM.ret q) _ _ _ (im_comp ps [] h (by simpa using l) (toM.bind q))
def compDF (tg : Tg) (tt : FT) (ek ev : FE) (σ : SI) : List PV → List (Key × PV) → M (List (Key × PV))
  | [], acc => M.ret acc
  | p :: ps, acc => (M.ofO (tg.go p σ)).bind fun σ' => (tt σ').ne.bind fun b => if b = true then (ek σ').ne.bind fun y => (ev σ').ne.bind fun z => (M.ofO (keyP y)).bind fun k => compDF tg tt ek ev σ ps (putP acc k z) else compDF tg tt ek ev σ ps acc
def fDc (tg : Tg) (vs : List Nat) (it : FA) (tt : FT) (ek ev : FE) : FE := fun σ => (it σ).bind fun ps => (compDF tg tt ek ev (wpI σ vs) ps []).bind fun qs => M.ret (.dct qs)
theorem putP_len (ks : List (Key × PV)) (k : Key) (p : PV) : (putP ks k p).length ≤ ks.length + 1 := by
  unfold putP
  split
  · simp
  · simp
theorem im_compD {tg : Tg} {tt : FT} {ek ev : FE} {σ : SI} {e : EI} {Q : List (Key × PV) → PH → Prop} : ∀ (ps : List PV) (acc : List (Key × PV)) (hp : PH), acc.length + ps.length ≤ sizeLine → toM (compDF tg tt ek ev σ ps acc) hp e Q → compD tg (toT tt) (toE ek) (toE ev) σ ps acc hp Q
  | [], acc, hp, l, q => toM.ret q
  | p :: ps, acc, hp, l, q => by
    rw [List.length_cons] at l
    obtain ⟨σ', e1, q⟩ := toM.ofO (toM.bind q)
    refine ⟨σ', e1, (toM.ne (toM.bind q)).mono fun b h q => ?_⟩
    refine ite_mono (fun q => ?_) (fun q => im_compD ps acc h (by omega) q) (toM.ite q)
    refine (toM.ne (toM.bind q)).mono fun y h1 q => (toM.ne (toM.bind q)).mono fun z h2 q => ?_
    obtain ⟨k, e2, q⟩ := toM.ofO (toM.bind q)
    exact ⟨k, e2, by omega, im_compD ps _ h2 (by have := putP_len acc k z; omega) q⟩
theorem im_dc {tg : Tg} {vs : List Nat} {it : FA} {tt : FT} {ek ev : FE} {σ : SI} {hp : PH} {e : EI} {Q : KI} (q : toE (fDc tg vs it tt ek ev) σ hp e Q) : wDc tg vs (toI it) (toT tt) (toE ek) (toE ev) σ hp e Q :=
  (toM.bind q).mono fun ps h q l => compD.mo (toT.mo) (toE.mo) (toE.mo) (fun qs h2 q => toM.ret q) _ _ _ (im_compD ps [] h (by simpa using l) (toM.bind q))
/-! walks -/
def itF : PV → Option (List PV)
  | .tup ps => some ps
  | .lst ps => some ps
  | .str s => some (signs s)
  | _ => none
def fIt (a : FE) : FA := fun σ => (a σ).bind fun p => M.ofO (itF p)
def fRg1 (a : FE) : FA := fun σ => (a σ).bind fun p => match p with
  | .int j => if j ≤ 16777216 ∧ -1000000000 ≤ j then M.ret (intsL 0 j.toNat) else M.bad
  | _ => M.bad
def fRg2 (a b : FE) : FA := fun σ => (a σ).bind fun p => (b σ).bind fun q => match p, q with
  | .int i, .int j => if j - i ≤ 16777216 ∧ -1000000000 ≤ i ∧ i ≤ 1000000000 ∧ -1000000000 ≤ j ∧ j ≤ 1000000000 then M.ret (intsL i (j - i).toNat) else M.bad
  | _, _ => M.bad
section
variable {σ : SI} {hp : PH} {e : EI} {QA : List PV → PH → Prop} {a b : FE}
theorem im_it (q : toI (fIt a) σ hp e QA) : wIt (toE a) σ hp e QA := (toM.bind q).mono fun p h q => by
  obtain ⟨ps, e1, q⟩ := toM.ofO q
  refine ⟨ps, ?_, q⟩
  unfold itF at e1
  split at e1 <;> first | exact e1 | cases e1
theorem im_rg1 (q : toI (fRg1 a) σ hp e QA) : wRg1 (toE a) σ hp e QA := (toM.bind q).mono fun p h q => by
  cases p with
  | int j =>
    simp only at q
    split at q
    · rename_i l
      exact ⟨j, rfl, by omega, by omega, toM.ret q (by rw [sl]; simp [intsL]; omega)⟩
    · exact (toM.nobad q).elim
  | _ => exact (toM.nobad q).elim
theorem im_rg2 (q : toI (fRg2 a b) σ hp e QA) : wRg2 (toE a) (toE b) σ hp e QA := (toM.bind q).mono fun p h q => (toM.bind q).mono fun p2 h q => by
  cases p with
  | int i =>
    cases p2 with
    | int j =>
      simp only at q
      split at q
      · rename_i l
        exact ⟨i, j, rfl, rfl, by omega, toM.ret q (by rw [sl]; simp [intsL]; omega)⟩
      · exact (toM.nobad q).elim
    | _ => exact (toM.nobad q).elim
  | _ => exact (toM.nobad q).elim
end
end RF

set_option Elab.async false
set_option linter.all false
set_option maxRecDepth 100000
set_option maxHeartbeats 1000000
/-! Part NA5: short words for the functions, printed by a program from RD3. -/
namespace RF
open PySem PySem.Spec L2
theorem Ok.u0 {X : Cx} {C : Cfg} {E : XK} {k : Nat} (c : Ok X C E k) : X.A.units < cLine := by have := c.rm.un; omega
theorem IxR.or2 {X : Cx} {r r' : R2} (h : IxR X r) (h' : IxR X r') : IxR X (fun x y H Q => r x y H Q ∨ r' x y H Q) := fun value slice pins s σ H x y v u Q I rx ry q hs => q.elim (fun q => h value slice pins s σ H x y v u Q I rx ry q hs) fun q => h' value slice pins s σ H x y v u Q I rx ry q hs
section
variable {X : Cx} {C : Cfg} {E : XK} {k : Nat} {a b d x o t : Expr} {fa fb fd : FE} {ta tb : FT} {f : FA} {pos pos' p apos : Pos} {es : List Expr} {nm : Str} {n : Nat}
theorem ya_nil : RA X C E [] (toA fNil) := ra_nil.imp toA.mo fun _ _ _ _ q => im_nil q
theorem yd_tup {k : Nat} (ha : RA X C E es (toA f)) : RE X C E (.Tuple es k pos) (toE (fTup f)) := (re_tup ha).imp toE.mo fun _ _ _ _ q => im_tup q
theorem yd_lst (ha : RA X C E es (toA f)) : RE X C E (.List es pos) (toE (fLst f)) := (re_lst ha).imp toE.mo fun _ _ _ _ q => im_lst q
theorem yd_ifE (ht : RT X C E t (toT ta)) (ha : RE X C E a (toE fa)) (hb : RE X C E b (toE fb)) : RE X C E (.IfExp t a b pos) (toE (fIfE ta fa fb)) := (re_ifE ht ha hb).imp toE.mo fun _ _ _ _ q => im_ifE q
theorem yw_and1 (ha : RT X C E a (toT ta)) : RW X C E (.BoolOp .And [a] pos) (toT ta) := rw_and1 ha
theorem yw_or1 (ha : RT X C E a (toT ta)) : RW X C E (.BoolOp .Or [a] pos) (toT ta) := rw_or1 ha
theorem yw_and {rest : List Expr} (ha : RT X C E a (toT ta)) (hb : RW X C E (.BoolOp .And (b :: rest) pos) (toT tb)) : RW X C E (.BoolOp .And (a :: b :: rest) pos) (toT (fAndT ta tb)) := (rw_and ha hb).imp toT.mo fun _ _ _ _ q => im_andT q
theorem yw_or {rest : List Expr} (ha : RT X C E a (toT ta)) (hb : RW X C E (.BoolOp .Or (b :: rest) pos) (toT tb)) : RW X C E (.BoolOp .Or (a :: b :: rest) pos) (toT (fOrT ta tb)) := (rw_or ha hb).imp toT.mo fun _ _ _ _ q => im_orT q
theorem yts_nil : RTs X C E [] (toT fYes) := rts_nil.imp toT.mo fun _ _ _ _ q => toM.ret q
theorem yo_no : RO X C E none (toO fNoO) := ro_no.imp toO.mo fun _ _ _ _ q => im_noO q
theorem yo_sm (h : RE X C E x (toE fa)) : RO X C E (some x) (toO (fSmO fa)) := (ro_sm h).imp toO.mo fun _ _ _ _ q => im_smO q
theorem yd_var (c : Ok X C E k) (i : Nat) {x : Str} {pos : Pos} (hN : X.N[i]? = some x := by rfl) (hv : Vis X.env.scope x := by first | exact .inl rfl | exact .inr (.inl rfl) | exact .inr (.inr rfl)) (hd : (x == ("__debug__" : Str)) = false := by decide) (hcd : (x == ("__classdict__" : Str)) = false := by decide) :
    RE X C E (.Name x pos) (toE (fVar i)) :=
  (d_var c (i := i) (hN := hN) (hv := hv) (hd := hd) (hcd := hcd)).imp toE.mo fun _ _ _ _ q => im_var q
theorem yd_int (c : Ok X C E k) (i : Int) {j : Nat} {pos : Pos} :
    RE X C E (.Constant (.int i) j pos) (toE (fC (.int i))) :=
  (d_int c (i := i)).imp toE.mo fun _ _ _ _ q => im_c q
theorem yd_str (c : Ok X C E k) (i : Str) {j : Nat} {pos : Pos} (hl : i.length ≤ sizeLine := by rw [PySem.sizeLine_eq]; decide) :
    RE X C E (.Constant (.str i) j pos) (toE (fC (.str i))) :=
  (d_str c (i := i) (hl := hl)).imp toE.mo fun _ _ _ _ q => im_c q
theorem yd_bl (c : Ok X C E k) (i : Bool) {j : Nat} {pos : Pos} :
    RE X C E (.Constant (.bool i) j pos) (toE (fC (.bl i))) :=
  (d_bl c (i := i)).imp toE.mo fun _ _ _ _ q => im_c q
theorem yd_non (c : Ok X C E k) {j : Nat} {pos : Pos} :
    RE X C E (.Constant .none j pos) (toE (fC .non)) :=
  (d_non c).imp toE.mo fun _ _ _ _ q => im_c q
theorem yd_gint (c : Ok X C E k) {x : Str} {i : Int} {pos : Pos} (hm : ∃ t, X.mg x = some (.int i t)) (gl : Gl X x := by rfl) (hd : (x == ("__debug__" : Str)) = false := by decide) :
    RE X C E (.Name x pos) (toE (fC (.int i))) :=
  (d_gint c (hm := hm) (gl := gl) (hd := hd)).imp toE.mo fun _ _ _ _ q => im_c q
theorem yd_gstr (c : Ok X C E k) {x : Str} {i : Str} {pos : Pos} (hm : ∃ t, X.mg x = some (.str i t)) (hl : i.length ≤ sizeLine := by rw [PySem.sizeLine_eq]; decide) (gl : Gl X x := by rfl) (hd : (x == ("__debug__" : Str)) = false := by decide) :
    RE X C E (.Name x pos) (toE (fC (.str i))) :=
  (d_gstr c (hm := hm) (hl := hl) (gl := gl) (hd := hd)).imp toE.mo fun _ _ _ _ q => im_c q
theorem yd_gtup (c : Ok X C E k) {x : Str} {vs : List V} {ps : List PV} {pos : Pos} (hm : X.mg x = some (.ref (He.ga C.K x))) (hs : ∀ H, SqT C.K H (He.ga C.K x) vs) (hr : ∀ μ H, RVs C.K μ H ps vs) (gl : Gl X x := by rfl) (hd : (x == ("__debug__" : Str)) = false := by decide) :
    RE X C E (.Name x pos) (toE (fC (.tup ps))) :=
  (d_gtup c (hm := hm) (hs := hs) (hr := hr) (gl := gl) (hd := hd)).imp toE.mo fun _ _ _ _ q => im_c q
theorem yd_add (c : Ok X C E k) (ha : RE X C E a (toE fa)) (hb : RE X C E b (toE fb)) :
    RE X C E (.BinOp a .Add b pos) (toE (fOp addF fa fb)) :=
  (d_add c (ha := ha) (hb := hb)).imp toE.mo fun _ _ _ _ q => im_op ia_add q
theorem yd_sub (c : Ok X C E k) (ha : RE X C E a (toE fa)) (hb : RE X C E b (toE fb)) :
    RE X C E (.BinOp a .Sub b pos) (toE (fOp subF fa fb)) :=
  (d_sub c (ha := ha) (hb := hb)).imp toE.mo fun _ _ _ _ q => im_op ia_i0 q
theorem yd_mul (c : Ok X C E k) (ha : RE X C E a (toE fa)) (hb : RE X C E b (toE fb)) :
    RE X C E (.BinOp a .Mult b pos) (toE (fOp mulF fa fb)) :=
  (d_mul c (ha := ha) (hb := hb)).imp toE.mo fun _ _ _ _ q => im_op ia_mul q
theorem yd_div (c : Ok X C E k) (ha : RE X C E a (toE fa)) (hb : RE X C E b (toE fb)) :
    RE X C E (.BinOp a .FloorDiv b pos) (toE (fOp divF fa fb)) :=
  (d_div c (ha := ha) (hb := hb)).imp toE.mo fun _ _ _ _ q => im_op ia_div q
theorem yd_mod (c : Ok X C E k) (ha : RE X C E a (toE fa)) (hb : RE X C E b (toE fb)) :
    RE X C E (.BinOp a .Mod b pos) (toE (fOp modF fa fb)) :=
  (d_mod c (ha := ha) (hb := hb)).imp toE.mo fun _ _ _ _ q => im_op ia_mod q
theorem yd_pow (c : Ok X C E k) (ha : RE X C E a (toE fa)) (hb : RE X C E b (toE fb)) :
    RE X C E (.BinOp a .Pow b pos) (toE (fOp powF fa fb)) :=
  (d_pow c (ha := ha) (hb := hb)).imp toE.mo fun _ _ _ _ q => im_op ia_pow q
theorem yd_and2 (c : Ok X C E k) (ha : RE X C E a (toE fa)) (hb : RE X C E b (toE fb)) :
    RE X C E (.BinOp a .BitAnd b pos) (toE (fOp andF fa fb)) :=
  (d_and2 c (ha := ha) (hb := hb)).imp toE.mo fun _ _ _ _ q => im_op ia_i0 q
theorem yd_neg (c : Ok X C E k) (ha : RE X C E a (toE fa)) :
    RE X C E (.UnaryOp .USub a pos) (toE (fUn negF fa)) :=
  (d_neg c (ha := ha)).imp toE.mo fun _ _ _ _ q => im_un ia_neg q
theorem yd_ix (c : Ok X C E k) (ha : RE X C E a (toE fa)) (hb : RE X C E b (toE fb)) (hs : PlainIx b := by intro _ _; rfl) :
    RE X C E (.Subscript a b pos) (toE (fOp ixF fa fb)) :=
  (re_ix (r := fun x y H Q => rIx C.K x y H Q ∨ rIxDct x y H Q) l_ixF (IxR.or2 (by rw [← c.hK]; exact ix_seq) (ix_dct c.u1)) ha hb hs).imp toE.mo fun _ _ _ _ q => im_op (fun x y z h Q e q => ⟨z, e, q⟩) q
theorem yd_sl (c : Ok X C E k) {lo hi : Option Expr} {fl fh : FO} {p2 : Pos} (ha : RE X C E a (toE fa)) (hl : RO X C E lo (toO fl)) (hh : RO X C E hi (toO fh)) :
    RE X C E (.Subscript a (.Slice lo hi none p2) pos) (toE (fSl fa fl fh)) :=
  (d_sl c (ha := ha) (hl := hl) (hh := hh)).imp toE.mo fun _ _ _ _ q => im_sl q
theorem yd_rev (c : Ok X C E k) {j : Nat} {p1 p3 p4 : Pos} (ha : RE X C E a (toE fa)) :
    RE X C E (.Subscript a (.Slice none none (some (.UnaryOp .USub (.Constant (.int 1) j p1) p3)) p4) pos) (toE (fRev fa)) :=
  (d_rev c (ha := ha)).imp toE.mo fun _ _ _ _ q => im_rev q
theorem yd_eq (c : Ok X C E k) (sy : HasSys C.K) (ha : RE X C E a (toE fa)) (hb : RE X C E b (toE fb)) (hm : behindInMarks .Eq b = false := by rfl) :
    RE X C E (.Compare a [.Eq] [b] pos) (toE (fCmp eqF fa fb)) :=
  (re_cmp (l_eqG c.hK (by rw [c.hK]; exact sy)) ((op_eqG c.u64).or (op_emp c.u0)) ha hb hm).imp toE.mo fun _ _ _ _ q => im_cmp ic_eq q
theorem yt_eq (c : Ok X C E k) (sy : HasSys C.K) (ha : RE X C E a (toE fa)) (hb : RE X C E b (toE fb)) (hm : behindInMarks .Eq b = false := by rfl) :
    RT X C E (.Compare a [.Eq] [b] pos) (toT (fCmpT eqF fa fb)) :=
  (rt_cmp (l_eqG c.hK (by rw [c.hK]; exact sy)) ((op_eqG c.u64).or (op_emp c.u0)) ha hb hm).imp toT.mo fun _ _ _ _ q => im_cmpT ic_eq q
theorem yd_ne (c : Ok X C E k) (sy : HasSys C.K) (ha : RE X C E a (toE fa)) (hb : RE X C E b (toE fb)) (hm : behindInMarks .NotEq b = false := by rfl) :
    RE X C E (.Compare a [.NotEq] [b] pos) (toE (fCmp neF fa fb)) :=
  (re_cmp (l_neG c.hK (by rw [c.hK]; exact sy)) (op_neG c.u64) ha hb hm).imp toE.mo fun _ _ _ _ q => im_cmp ic_ne q
theorem yt_ne (c : Ok X C E k) (sy : HasSys C.K) (ha : RE X C E a (toE fa)) (hb : RE X C E b (toE fb)) (hm : behindInMarks .NotEq b = false := by rfl) :
    RT X C E (.Compare a [.NotEq] [b] pos) (toT (fCmpT neF fa fb)) :=
  (rt_cmp (l_neG c.hK (by rw [c.hK]; exact sy)) (op_neG c.u64) ha hb hm).imp toT.mo fun _ _ _ _ q => im_cmpT ic_ne q
theorem yd_in (c : Ok X C E k) (sy : HasSys C.K) (ha : RE X C E a (toE fa)) (hb : RE X C E b (toE fb)) (hm : behindInMarks .In b = false := by rfl) :
    RE X C E (.Compare a [.In] [b] pos) (toE (fCmp inF fa fb)) :=
  (re_cmp (l_inG c.hK (by rw [c.hK]; exact sy) false) (op_inAllG c.u65) ha hb hm).imp toE.mo fun _ _ _ _ q => im_cmp ic_in q
theorem yt_in (c : Ok X C E k) (sy : HasSys C.K) (ha : RE X C E a (toE fa)) (hb : RE X C E b (toE fb)) (hm : behindInMarks .In b = false := by rfl) :
    RT X C E (.Compare a [.In] [b] pos) (toT (fCmpT inF fa fb)) :=
  (rt_cmp (l_inG c.hK (by rw [c.hK]; exact sy) false) (op_inAllG c.u65) ha hb hm).imp toT.mo fun _ _ _ _ q => im_cmpT ic_in q
theorem yd_notin (c : Ok X C E k) (sy : HasSys C.K) (ha : RE X C E a (toE fa)) (hb : RE X C E b (toE fb)) (hm : behindInMarks .NotIn b = false := by rfl) :
    RE X C E (.Compare a [.NotIn] [b] pos) (toE (fCmp notInF fa fb)) :=
  (re_cmp (l_inG c.hK (by rw [c.hK]; exact sy) true) (op_notInAllG c.u65) ha hb hm).imp toE.mo fun _ _ _ _ q => im_cmp ic_notin q
theorem yt_notin (c : Ok X C E k) (sy : HasSys C.K) (ha : RE X C E a (toE fa)) (hb : RE X C E b (toE fb)) (hm : behindInMarks .NotIn b = false := by rfl) :
    RT X C E (.Compare a [.NotIn] [b] pos) (toT (fCmpT notInF fa fb)) :=
  (rt_cmp (l_inG c.hK (by rw [c.hK]; exact sy) true) (op_notInAllG c.u65) ha hb hm).imp toT.mo fun _ _ _ _ q => im_cmpT ic_notin q
theorem yd_lt (c : Ok X C E k) (ha : RE X C E a (toE fa)) (hb : RE X C E b (toE fb)) (hm : behindInMarks .Lt b = false := by rfl) :
    RE X C E (.Compare a [.Lt] [b] pos) (toE (fCmp ltF fa fb)) :=
  (d_lt c (ha := ha) (hb := hb) (hm := hm)).imp toE.mo fun _ _ _ _ q => im_cmp ic_ci q
theorem yt_lt (c : Ok X C E k) (ha : RE X C E a (toE fa)) (hb : RE X C E b (toE fb)) (hm : behindInMarks .Lt b = false := by rfl) :
    RT X C E (.Compare a [.Lt] [b] pos) (toT (fCmpT ltF fa fb)) :=
  (t_lt c (ha := ha) (hb := hb) (hm := hm)).imp toT.mo fun _ _ _ _ q => im_cmpT ic_ci q
theorem yd_le (c : Ok X C E k) (ha : RE X C E a (toE fa)) (hb : RE X C E b (toE fb)) (hm : behindInMarks .LtE b = false := by rfl) :
    RE X C E (.Compare a [.LtE] [b] pos) (toE (fCmp leF fa fb)) :=
  (d_le c (ha := ha) (hb := hb) (hm := hm)).imp toE.mo fun _ _ _ _ q => im_cmp ic_ci q
theorem yt_le (c : Ok X C E k) (ha : RE X C E a (toE fa)) (hb : RE X C E b (toE fb)) (hm : behindInMarks .LtE b = false := by rfl) :
    RT X C E (.Compare a [.LtE] [b] pos) (toT (fCmpT leF fa fb)) :=
  (t_le c (ha := ha) (hb := hb) (hm := hm)).imp toT.mo fun _ _ _ _ q => im_cmpT ic_ci q
theorem yd_gt (c : Ok X C E k) (ha : RE X C E a (toE fa)) (hb : RE X C E b (toE fb)) (hm : behindInMarks .Gt b = false := by rfl) :
    RE X C E (.Compare a [.Gt] [b] pos) (toE (fCmp gtF fa fb)) :=
  (d_gt c (ha := ha) (hb := hb) (hm := hm)).imp toE.mo fun _ _ _ _ q => im_cmp ic_ci q
theorem yt_gt (c : Ok X C E k) (ha : RE X C E a (toE fa)) (hb : RE X C E b (toE fb)) (hm : behindInMarks .Gt b = false := by rfl) :
    RT X C E (.Compare a [.Gt] [b] pos) (toT (fCmpT gtF fa fb)) :=
  (t_gt c (ha := ha) (hb := hb) (hm := hm)).imp toT.mo fun _ _ _ _ q => im_cmpT ic_ci q
theorem yd_ge (c : Ok X C E k) (ha : RE X C E a (toE fa)) (hb : RE X C E b (toE fb)) (hm : behindInMarks .GtE b = false := by rfl) :
    RE X C E (.Compare a [.GtE] [b] pos) (toE (fCmp geF fa fb)) :=
  (d_ge c (ha := ha) (hb := hb) (hm := hm)).imp toE.mo fun _ _ _ _ q => im_cmp ic_ci q
theorem yt_ge (c : Ok X C E k) (ha : RE X C E a (toE fa)) (hb : RE X C E b (toE fb)) (hm : behindInMarks .GtE b = false := by rfl) :
    RT X C E (.Compare a [.GtE] [b] pos) (toT (fCmpT geF fa fb)) :=
  (t_ge c (ha := ha) (hb := hb) (hm := hm)).imp toT.mo fun _ _ _ _ q => im_cmpT ic_ci q
theorem yd_is (c : Ok X C E k) (ha : RE X C E a (toE fa)) (hb : RE X C E b (toE fb)) (hm : behindInMarks .Is b = false := by rfl) :
    RE X C E (.Compare a [.Is] [b] pos) (toE (fCmp isF fa fb)) :=
  (d_is c (ha := ha) (hb := hb) (hm := hm)).imp toE.mo fun _ _ _ _ q => im_cmp ic_is q
theorem yt_is (c : Ok X C E k) (ha : RE X C E a (toE fa)) (hb : RE X C E b (toE fb)) (hm : behindInMarks .Is b = false := by rfl) :
    RT X C E (.Compare a [.Is] [b] pos) (toT (fCmpT isF fa fb)) :=
  (t_is c (ha := ha) (hb := hb) (hm := hm)).imp toT.mo fun _ _ _ _ q => im_cmpT ic_is q
theorem yd_isnot (c : Ok X C E k) (ha : RE X C E a (toE fa)) (hb : RE X C E b (toE fb)) (hm : behindInMarks .IsNot b = false := by rfl) :
    RE X C E (.Compare a [.IsNot] [b] pos) (toE (fCmp isnotF fa fb)) :=
  (d_isnot c (ha := ha) (hb := hb) (hm := hm)).imp toE.mo fun _ _ _ _ q => im_cmp ic_isnot q
theorem yt_isnot (c : Ok X C E k) (ha : RE X C E a (toE fa)) (hb : RE X C E b (toE fb)) (hm : behindInMarks .IsNot b = false := by rfl) :
    RT X C E (.Compare a [.IsNot] [b] pos) (toT (fCmpT isnotF fa fb)) :=
  (t_isnot c (ha := ha) (hb := hb) (hm := hm)).imp toT.mo fun _ _ _ _ q => im_cmpT ic_isnot q
theorem yd_lele (c : Ok X C E k) (ha : RE X C E a (toE fa)) (hb : RE X C E b (toE fb)) (hd : RE X C E d (toE fd)) (hm : lastMarks [.LtE, .LtE] [b, d] = false := by rfl) :
    RE X C E (.Compare a [.LtE, .LtE] [b, d] pos) (toE (fCh leF leF fa fb fd)) :=
  (d_lele c (ha := ha) (hb := hb) (hd := hd) (hm := hm)).imp toE.mo fun _ _ _ _ q => im_ch ic_ci ic_ci q
theorem yt_lele (c : Ok X C E k) (ha : RE X C E a (toE fa)) (hb : RE X C E b (toE fb)) (hd : RE X C E d (toE fd)) (hm : lastMarks [.LtE, .LtE] [b, d] = false := by rfl) :
    RT X C E (.Compare a [.LtE, .LtE] [b, d] pos) (toT (fChT leF leF fa fb fd)) :=
  (t_lele c (ha := ha) (hb := hb) (hd := hd) (hm := hm)).imp toT.mo fun _ _ _ _ q => im_chT ic_ci ic_ci q
theorem yd_lelt (c : Ok X C E k) (ha : RE X C E a (toE fa)) (hb : RE X C E b (toE fb)) (hd : RE X C E d (toE fd)) (hm : lastMarks [.LtE, .Lt] [b, d] = false := by rfl) :
    RE X C E (.Compare a [.LtE, .Lt] [b, d] pos) (toE (fCh leF ltF fa fb fd)) :=
  (d_lelt c (ha := ha) (hb := hb) (hd := hd) (hm := hm)).imp toE.mo fun _ _ _ _ q => im_ch ic_ci ic_ci q
theorem yt_lelt (c : Ok X C E k) (ha : RE X C E a (toE fa)) (hb : RE X C E b (toE fb)) (hd : RE X C E d (toE fd)) (hm : lastMarks [.LtE, .Lt] [b, d] = false := by rfl) :
    RT X C E (.Compare a [.LtE, .Lt] [b, d] pos) (toT (fChT leF ltF fa fb fd)) :=
  (t_lelt c (ha := ha) (hb := hb) (hd := hd) (hm := hm)).imp toT.mo fun _ _ _ _ q => im_chT ic_ci ic_ci q
theorem yt_tru (c : Ok X C E k) (ha : RE X C E a (toE fa)) (he : ∀ whole, isTrue a X.env whole = (do let v ← whole; standAt a.pos; holding [v] (truthy v)) := by intro _; rfl) :
    RT X C E a (toT (fTru fa)) :=
  (t_tru c (ha := ha) (he := he)).imp toT.mo fun _ _ _ _ q => im_tru q
theorem yt_not (c : Ok X C E k) {t : FT} (ha : RT X C E a (toT t)) :
    RT X C E (.UnaryOp .Not a pos) (toT (fNotT t)) :=
  (t_not c (ha := ha)).imp toT.mo fun _ _ _ _ q => im_notT q
theorem yd_not (c : Ok X C E k) (ha : RE X C E a (toE fa)) :
    RE X C E (.UnaryOp .Not a pos) (toE (fNotV fa)) :=
  (d_not c (ha := ha)).imp toE.mo fun _ _ _ _ q => im_notV q
theorem yd_and (c : Ok X C E k) {rest : List Expr} (ha : RE X C E a (toE fa)) (hb : RE X C E (.BoolOp .And (b :: rest) pos) (toE fb)) :
    RE X C E (.BoolOp .And (a :: b :: rest) pos) (toE (fAndV fa fb)) :=
  (d_and c (ha := ha) (hb := hb)).imp toE.mo fun _ _ _ _ q => im_andV q
theorem yd_or (c : Ok X C E k) {rest : List Expr} (ha : RE X C E a (toE fa)) (hb : RE X C E (.BoolOp .Or (b :: rest) pos) (toE fb)) :
    RE X C E (.BoolOp .Or (a :: b :: rest) pos) (toE (fOrV fa fb)) :=
  (d_or c (ha := ha) (hb := hb)).imp toE.mo fun _ _ _ _ q => im_orV q
theorem ya_cons (c : Ok X C E k) (hx : RE X C E x (toE fa)) (hr : RA X C E es (toA f)) (hs : starEach (x :: es) X.env = (false, eval x X.env) :: starEach es X.env := by rfl) :
    RA X C E (x :: es) (toA (fCons fa f)) :=
  (a_cons c (hx := hx) (hr := hr) (hs := hs)).imp toA.mo fun _ _ _ _ q => im_cons q
theorem yf_len (c : Ok X C E k) (hm : X.mg "len" = none) (ha : RA X C E (x :: es) (toA f)) (gl : Gl X "len" := by rfl) (he : starEach (x :: es) X.env = (false, eval x X.env) :: starEach es X.env := by rfl) (hpl : (backTo pos (starEach es X.env)).any (·.1) = false := by rfl) :
    RE X C E (.Call (.Name "len" p) (x :: es) [] pos) (toE (fFn (f1 lenF) f)) :=
  (f_len c (hm := hm) (ha := ha) (gl := gl) (he := he) (hpl := hpl)).imp toE.mo fun _ _ _ _ q => im_fn if_len q
theorem yf_ord (c : Ok X C E k) (hm : X.mg "ord" = none) (ha : RA X C E (x :: es) (toA f)) (gl : Gl X "ord" := by rfl) (he : starEach (x :: es) X.env = (false, eval x X.env) :: starEach es X.env := by rfl) (hpl : (backTo pos (starEach es X.env)).any (·.1) = false := by rfl) :
    RE X C E (.Call (.Name "ord" p) (x :: es) [] pos) (toE (fFn (f1 ordF) f)) :=
  (f_ord c (hm := hm) (ha := ha) (gl := gl) (he := he) (hpl := hpl)).imp toE.mo fun _ _ _ _ q => im_fn if_ord q
theorem yf_abs (c : Ok X C E k) (hm : X.mg "abs" = none) (ha : RA X C E (x :: es) (toA f)) (gl : Gl X "abs" := by rfl) (he : starEach (x :: es) X.env = (false, eval x X.env) :: starEach es X.env := by rfl) (hpl : (backTo pos (starEach es X.env)).any (·.1) = false := by rfl) :
    RE X C E (.Call (.Name "abs" p) (x :: es) [] pos) (toE (fFn (f1 absF) f)) :=
  (f_abs c (hm := hm) (ha := ha) (gl := gl) (he := he) (hpl := hpl)).imp toE.mo fun _ _ _ _ q => im_fn if_abs q
theorem yf_max (c : Ok X C E k) (hm : X.mg "max" = none) (ha : RA X C E (x :: es) (toA f)) (gl : Gl X "max" := by rfl) (he : starEach (x :: es) X.env = (false, eval x X.env) :: starEach es X.env := by rfl) (hpl : (backTo pos (starEach es X.env)).any (·.1) = false := by rfl) :
    RE X C E (.Call (.Name "max" p) (x :: es) [] pos) (toE (fFn (f2 maxF) f)) :=
  (f_max c (hm := hm) (ha := ha) (gl := gl) (he := he) (hpl := hpl)).imp toE.mo fun _ _ _ _ q => im_fn if_max q
theorem yf_min (c : Ok X C E k) (hm : X.mg "min" = none) (ha : RA X C E (x :: es) (toA f)) (gl : Gl X "min" := by rfl) (he : starEach (x :: es) X.env = (false, eval x X.env) :: starEach es X.env := by rfl) (hpl : (backTo pos (starEach es X.env)).any (·.1) = false := by rfl) :
    RE X C E (.Call (.Name "min" p) (x :: es) [] pos) (toE (fFn (f2 minF) f)) :=
  (f_min c (hm := hm) (ha := ha) (gl := gl) (he := he) (hpl := hpl)).imp toE.mo fun _ _ _ _ q => im_fn if_min q
theorem yf_all (c : Ok X C E k) (hm : X.mg "all" = none) (ha : RA X C E (x :: es) (toA f)) (gl : Gl X "all" := by rfl) (he : starEach (x :: es) X.env = (false, eval x X.env) :: starEach es X.env := by rfl) (hpl : (backTo pos (starEach es X.env)).any (·.1) = false := by rfl) :
    RE X C E (.Call (.Name "all" p) (x :: es) [] pos) (toE (fFn (f1 allF) f)) :=
  (f_all c (hm := hm) (ha := ha) (gl := gl) (he := he) (hpl := hpl)).imp toE.mo fun _ _ _ _ q => im_fn if_all q
theorem yf_any (c : Ok X C E k) (hm : X.mg "any" = none) (ha : RA X C E (x :: es) (toA f)) (gl : Gl X "any" := by rfl) (he : starEach (x :: es) X.env = (false, eval x X.env) :: starEach es X.env := by rfl) (hpl : (backTo pos (starEach es X.env)).any (·.1) = false := by rfl) :
    RE X C E (.Call (.Name "any" p) (x :: es) [] pos) (toE (fFn (f1 anyF) f)) :=
  (f_any c (hm := hm) (ha := ha) (gl := gl) (he := he) (hpl := hpl)).imp toE.mo fun _ _ _ _ q => im_fn if_any q
theorem yf_int (c : Ok X C E k) (hm : X.mg "int" = none) (ha : RA X C E (x :: es) (toA f)) (gl : Gl X "int" := by rfl) (he : starEach (x :: es) X.env = (false, eval x X.env) :: starEach es X.env := by rfl) (hpl : (backTo pos (starEach es X.env)).any (·.1) = false := by rfl) :
    RE X C E (.Call (.Name "int" p) (x :: es) [] pos) (toE (fFn (f1 intF) f)) :=
  (f_int c (hm := hm) (ha := ha) (gl := gl) (he := he) (hpl := hpl)).imp toE.mo fun _ _ _ _ q => im_fn if_int q
theorem yf_str (c : Ok X C E k) (hm : X.mg "str" = none) (ha : RA X C E (x :: es) (toA f)) (gl : Gl X "str" := by rfl) (he : starEach (x :: es) X.env = (false, eval x X.env) :: starEach es X.env := by rfl) (hpl : (backTo pos (starEach es X.env)).any (·.1) = false := by rfl) :
    RE X C E (.Call (.Name "str" p) (x :: es) [] pos) (toE (fFn (f1 strF) f)) :=
  (f_str c (hm := hm) (ha := ha) (gl := gl) (he := he) (hpl := hpl)).imp toE.mo fun _ _ _ _ q => im_fn if_str q
theorem yf_list (c : Ok X C E k) (hm : X.mg "list" = none) (ha : RA X C E (x :: es) (toA f)) (gl : Gl X "list" := by rfl) (he : starEach (x :: es) X.env = (false, eval x X.env) :: starEach es X.env := by rfl) (hpl : (backTo pos (starEach es X.env)).any (·.1) = false := by rfl) :
    RE X C E (.Call (.Name "list" p) (x :: es) [] pos) (toE (fFn (f1 listF) f)) :=
  (f_list c (hm := hm) (ha := ha) (gl := gl) (he := he) (hpl := hpl)).imp toE.mo fun _ _ _ _ q => im_fn if_list q
theorem yf_tuple (c : Ok X C E k) (hm : X.mg "tuple" = none) (ha : RA X C E (x :: es) (toA f)) (gl : Gl X "tuple" := by rfl) (he : starEach (x :: es) X.env = (false, eval x X.env) :: starEach es X.env := by rfl) (hpl : (backTo pos (starEach es X.env)).any (·.1) = false := by rfl) :
    RE X C E (.Call (.Name "tuple" p) (x :: es) [] pos) (toE (fFn (f1 tupleF) f)) :=
  (f_tuple c (hm := hm) (ha := ha) (gl := gl) (he := he) (hpl := hpl)).imp toE.mo fun _ _ _ _ q => im_fn if_tuple q
theorem yf_repr (c : Ok X C E k) (sy : HasSys C.K) (hm : X.mg "repr" = none) (ha : RA X C E (x :: es) (toA f)) (gl : Gl X "repr" := by rfl) (he : starEach (x :: es) X.env = (false, eval x X.env) :: starEach es X.env := by rfl) (hpl : (backTo pos (starEach es X.env)).any (·.1) = false := by rfl) :
    RE X C E (.Call (.Name "repr" p) (x :: es) [] pos) (toE (fFn (f1 reprF) f)) :=
  (re_fn (lf_repD c.hK (by rw [c.hK]; exact sy)) (cr_repr c.rm c.cm) gl hm (by rfl) ha (by decide) (by decide) he hpl).imp toE.mo fun _ _ _ _ q => im_fn if_repr q
theorem yf_isi2 (c : Ok X C E k) {nT : Str} {p2 : Pos} (T : Ty) (hm : X.mg "isinstance" = none) (hmT : X.mg nT = none) (ha : RE X C E x (toE fa)) (hv : bootBuiltins nT = some (.type T.nm) := by rfl) (gl : Gl X "isinstance" := by rfl) (glT : Gl X nT := by rfl) (hn : nT ≠ "__name__" := by decide) (hdb : (nT == ("__debug__" : Str)) = false := by decide) (he : starEach [x, .Name nT p2] X.env = (false, eval x X.env) :: starEach [.Name nT p2] X.env := by rfl) (hs : starEach [Expr.Name nT p2] X.env = (false, eval (.Name nT p2) X.env) :: starEach [] X.env := by rfl) (hpl : (backTo pos (starEach [Expr.Name nT p2] X.env)).any (·.1) = false := by rfl) :
    RE X C E (.Call (.Name "isinstance" p) [x, .Name nT p2] [] pos) (toE (fIsi T fa)) :=
  (f_isi c T.nm hm hmT ha hv gl glT hn hdb he hs hpl).imp toE.mo fun _ _ _ _ q => im_isi q
theorem ym_join (c : Ok X C E k) (ho : RE X C E o (toE fa)) (ha : RA X C E (x :: es) (toA f)) (hbase : attributeBase o "join" X.env (eval o X.env) = eval o X.env := by rfl) (hfew : ((backTo pos (starEach (x :: es) X.env)).all (fun x => !x.1) && (backToKw pos (keywordEach [] X.env)).all (fun x => x.1.isSome)
      && decide ((x :: es).length + ([] : List Keyword).length + (if ([] : List Keyword).isEmpty then 0 else 1) < 30)) = true := by rfl) (hline : (apos.endLine == pos.line) = true := by rfl) (hs : starEach (x :: es) X.env = (false, eval x X.env) :: starEach es X.env := by rfl) (hpl : (backTo pos (starEach es X.env)).any (·.1) = false := by rfl) :
    RE X C E (.Call (.Attribute o "join" apos) (x :: es) [] pos) (toE (fMt joinF isStrB fa f)) :=
  (m_join c (ho := ho) (ha := ha) (hbase := hbase) (hfew := hfew) (hline := hline) (hs := hs) (hpl := hpl)).imp toE.mo fun _ _ _ _ q => im_join q
theorem yi_rg1 (c : Ok X C E k) {tg : Expr} (hm : X.mg "range" = none) (ha : RE X C E a (toE fa)) (hg : Gl X "range" := by rfl) (hs : starEach [a] X.env = [(false, eval a X.env)] := by rfl) :
    RI X C E tg (.Call (.Name "range" p) [a] [] pos) (toI (fRg1 fa)) :=
  (i_rg1 c (hm := hm) (ha := ha) (hg := hg) (hs := hs)).imp toI.mo fun _ _ _ _ q => im_rg1 q
theorem yi_rg2 (c : Ok X C E k) {tg : Expr} (hm : X.mg "range" = none) (ha : RE X C E a (toE fa)) (hb : RE X C E b (toE fb)) (hg : Gl X "range" := by rfl) (hs : starEach [a, b] X.env = [(false, eval a X.env), (false, eval b X.env)] := by rfl) (hs2 : starEach [b] X.env = [(false, eval b X.env)] := by rfl) :
    RI X C E tg (.Call (.Name "range" p) [a, b] [] pos) (toI (fRg2 fa fb)) :=
  (i_rg2 c (hm := hm) (ha := ha) (hb := hb) (hg := hg) (hs := hs) (hs2 := hs2)).imp toI.mo fun _ _ _ _ q => im_rg2 q
theorem yi_val (c : Ok X C E k) {tg : Expr} (ha : RE X C E a (toE fa)) :
    RI X C E tg a (toI (fIt fa)) :=
  (i_val c (ha := ha)).imp toI.mo fun _ _ _ _ q => im_it q
end
section
variable {X : Cx} {C : Cfg} {E : XK} {k : Nat} {tge iter elt ke ve : Expr} {ifs : List Expr} {scope : Scope} {tg : Tg} {it : FA} {tt : FT} {el ek ev : FE} {pos : Pos}
theorem yd_lc (c : Ok X C E k) (own : List (Str × Nat)) (tg : Tg) (hi : RI X C E tge iter (toI it)) (hg : ∀ s H Ca cl fp, TgIs (X.blk s H scope (compEnvC scope cl Ca X.env) fp) tge tg) (ht : ∀ s H Ca cl fp, RTs (X.blk s H scope (compEnvC scope cl Ca X.env) fp) C E0 ifs (toT tt)) (he : ∀ s H Ca cl fp, RE (X.blk s H scope (compEnvC scope cl Ca X.env) fp) C E0 elt (toE el)) (ok : blkC X.N X.env.scope scope own = true := by decide +kernel) (hv : ∀ i ∈ tg.ix, i ∈ own.map (·.2) := by decide) (hs : ∀ x, foldedSetIterable iter X.env x = pure x := by intro _; rfl) :
    RE X C E (.ListComp elt [⟨tge, iter, ifs, 0⟩] scope pos) (toE (fLc tg (own.map (·.2)) it tt el)) :=
  (re_lc c.hK c.hc c.hN hi ok hv hg ht he hs).imp toE.mo fun _ _ _ _ q => im_lc q
theorem yd_dc (c : Ok X C E k) (own : List (Str × Nat)) (tg : Tg) (hi : RI X C E tge iter (toI it)) (hg : ∀ s H Ca cl fp, TgIs (X.blk s H scope (compEnvC scope cl Ca X.env) fp) tge tg) (ht : ∀ s H Ca cl fp, RTs (X.blk s H scope (compEnvC scope cl Ca X.env) fp) C E0 ifs (toT tt)) (hk : ∀ s H Ca cl fp, RE (X.blk s H scope (compEnvC scope cl Ca X.env) fp) C E0 ke (toE ek)) (he : ∀ s H Ca cl fp, RE (X.blk s H scope (compEnvC scope cl Ca X.env) fp) C E0 ve (toE ev)) (ok : blkC X.N X.env.scope scope own = true := by decide +kernel) (hv : ∀ i ∈ tg.ix, i ∈ own.map (·.2) := by decide) (hs : ∀ x, foldedSetIterable iter X.env x = pure x := by intro _; rfl) :
    RE X C E (.DictComp ke ve [⟨tge, iter, ifs, 0⟩] scope pos) (toE (fDc tg (own.map (·.2)) it tt ek ev)) :=
  (re_dc c.hK c.hc c.hN hi ok hv hg ht hk he hs).imp toE.mo fun _ _ _ _ q => im_dc q
end
end RF

set_option Elab.async false
set_option linter.all false
set_option maxRecDepth 100000
set_option maxHeartbeats 1000000
/-! Part NB1: slots that own their list or dict; such things are locked while an expression reads them. -/
namespace RF
open PySem PySem.Spec L2

inductive SV where
  | val (p : PV)
  | own (c : Cell)
abbrev SS := List (Option SV)
def cellV : Cell → PV
  | .lst ps => .lst ps
  | .dct ks => .dct ks
/-- the slots as an expression sees them: of the owned ones those in R -/
def bor (R : List Nat) : Nat → SS → SI
  | _, [] => []
  | i, s :: σ => (match s with
    | some (.val p) => some p
    | some (.own c) => if R.elem i = true then some (cellV c) else none
    | none => none) :: bor R (i + 1) σ
/-- the owned ones in R are owned no more -/
def lck (R : List Nat) : Nat → SS → SS
  | _, [] => []
  | i, s :: σ => (match s with
    | some (.own c) => if R.elem i = true then some (.val (cellV c)) else some (.own c)
    | s => s) :: lck R (i + 1) σ
theorem bor_len (R : List Nat) : ∀ (i : Nat) (σ : SS), (bor R i σ).length = σ.length
  | _, [] => rfl
  | i, s :: σ => by simp [bor, bor_len R (i + 1) σ]
theorem lck_len (R : List Nat) : ∀ (i : Nat) (σ : SS), (lck R i σ).length = σ.length
  | _, [] => rfl
  | i, s :: σ => by simp [lck, lck_len R (i + 1) σ]
theorem bor_at (R : List Nat) : ∀ (i j : Nat) (σ : SS) (p : PV), (bor R i σ)[j]? = some (some p) → σ[j]? = some (some (.val p)) ∨ ∃ c, σ[j]? = some (some (.own c)) ∧ R.elem (i + j) = true ∧ p = cellV c
  | i, j, [], p, h => by simp [bor] at h
  | i, 0, s :: σ, p, h => by
    simp only [bor, List.getElem?_cons_zero, Option.some.injEq] at h
    cases s with
    | none => cases h
    | some s =>
      cases s with
      | val q => cases h; exact .inl rfl
      | own c =>
        simp only at h
        split at h
        · rename_i l
          cases h
          exact .inr ⟨c, rfl, l, rfl⟩
        · cases h
  | i, j + 1, s :: σ, p, h => by
    simp only [bor, List.getElem?_cons_succ] at h ⊢
    rcases bor_at R (i + 1) j σ p h with h | ⟨c, h1, h2, h3⟩
    · exact .inl h
    · exact .inr ⟨c, h1, by rw [show i + (j + 1) = i + 1 + j by omega]; exact h2, h3⟩
theorem lck_at (R : List Nat) : ∀ (i j : Nat) (σ : SS) (v : SV), (lck R i σ)[j]? = some (some v) → (∃ c, σ[j]? = some (some (.own c)) ∧ R.elem (i + j) = true ∧ v = .val (cellV c)) ∨ (σ[j]? = some (some v) ∧ ((∃ p, v = .val p) ∨ R.elem (i + j) = false))
  | i, j, [], p, h => by simp [lck] at h
  | i, 0, s :: σ, p, h => by
    simp only [lck, List.getElem?_cons_zero, Option.some.injEq] at h
    cases s with
    | none => cases h
    | some s =>
      cases s with
      | val q => cases h; exact .inr ⟨rfl, .inl ⟨_, rfl⟩⟩
      | own c =>
        simp only at h
        split at h
        · rename_i l
          cases h
          exact .inl ⟨c, rfl, l, rfl⟩
        · rename_i l
          cases h
          exact .inr ⟨rfl, .inr (by simpa using l)⟩
  | i, j + 1, s :: σ, p, h => by
    simp only [lck, List.getElem?_cons_succ] at h ⊢
    rw [show i + (j + 1) = i + 1 + j by omega]
    exact lck_at R (i + 1) j σ p h

/-! ### the relation -/
section
variable (C : Cfg)
structure OR (H0 : Hp) (μ : List Addr) (H : Hp) (σS : SS) (σ : St) : Prop where
  len : σS.length = σ.length
  val : ∀ (i : Nat) (p : PV), σS[i]? = some (some (.val p)) → ∃ v, σ[i]? = some (some v) ∧ RV C.K μ H p v
  own : ∀ (i : Nat) (c : Cell), σS[i]? = some (some (.own c)) → ∃ a, σ[i]? = some (some (.ref a)) ∧ CellR C μ H a c ∧ a ∉ μ ∧ Fr H0 a
  inj : ∀ (i j : Nat) (c d : Cell), σS[i]? = some (some (.own c)) → σS[j]? = some (some (.own d)) → σ[i]? = σ[j]? → i = j
structure NAt (E : XK) (μ0 : List Addr) (H0 : Hp) (μs : List Addr) (Hs : Hp) (μ : List Addr) (H : Hp) (hp : PH) (e : EI) : Prop where
  up : Up μ0 H0 μ H
  us : Up0 μs Hs μ H
  hr : HR C μ H hp
  eok : EOK C E e μ0 H0
  xd : XD C μ0 H0
end
section
variable {C : Cfg} {E : XK} {μ0 μ μ' : List Addr} {H0 H H' : Hp} {σS : SS} {σ : St} {hp : PH} {e : EI}
theorem CellR.lsdU {a : Addr} {c : Cell} (h : CellR C μ H a c) : ∃ u, H a = Option.some u ∧ lsd u = true ∧ Mut (Option.some u) := by
  cases c with
  | lst ps => obtain ⟨vs, h1, _⟩ := h; exact ⟨_, h1, rfl, trivial⟩
  | dct ks => obtain ⟨vs, h1, _⟩ := h; exact ⟨_, h1, rfl, trivial⟩
theorem OR.up (o : OR C H0 μ H σS σ) (u : Up μ H μ' H') : OR C H0 μ' H' σS σ := ⟨o.len, fun i p h => by
  obtain ⟨v, h1, h2⟩ := o.val i p h
  exact ⟨v, h1, RV.up u _ _ h2⟩, fun i c h => by
  obtain ⟨a, h1, h2, h3, h4⟩ := o.own i c h
  obtain ⟨w, hw, lw, _⟩ := h2.lsdU
  obtain ⟨e1, e2⟩ := u.hid a w lw hw h3
  exact ⟨a, h1, h2.up u (e1.trans hw.symm), e2, h4⟩, o.inj⟩
theorem Up0.refl : Up0 μ H μ H := ⟨fun _ _ h => h, fun _ _ _ h => h⟩
theorem Up0.trans (a : Up0 μ0 H0 μ H) (b : Up0 μ H μ' H') : Up0 μ0 H0 μ' H' := ⟨fun n x e => b.ad n x (a.ad n x e), fun x o s e => b.st x o s (a.st x o s e)⟩
variable {μs : List Addr} {Hs : Hp}
theorem NAt.at (n : NAt C E μ0 H0 μs Hs μ H hp e) : At C E μ H hp e := ⟨n.hr, n.eok.up n.up⟩
theorem NAt.next {hp' : PH} (n : NAt C E μ0 H0 μs Hs μ H hp e) (u : Up μ0 H0 μ' H') (v : Up0 μ H μ' H') (r : HR C μ' H' hp') : NAt C E μ0 H0 μs Hs μ' H' hp' e := ⟨u, n.us.trans v, r, n.eok, n.xd⟩
theorem NAt.here (n : NAt C E μ0 H0 μs Hs μ H hp e) : NAt C E μ0 H0 μ H μ H hp e := ⟨n.up, .refl, n.hr, n.eok, n.xd⟩
theorem OR.vals (o : OR C H0 μ H σS σ) : SR C μ H (bor [] 0 σS) σ := ⟨by rw [bor_len]; exact o.len, fun i p h => by
  rcases bor_at _ _ _ _ _ h with h | ⟨c, _, h2, _⟩
  · exact o.val i p h
  · simp at h2⟩
end

/-! ### locking several things -/
def lockL : List (Addr × HO) → Hp → Hp → Prop
  | [], H, H' => H' = H
  | (a, u) :: l, H, H' => ∃ od, lockL l (upd H a (.frz od u)) H'
def unlL : List (Addr × HO) → Hp → Hp
  | [], H => H
  | (a, u) :: l, H => upd (unlL l H) a u
theorem lockL_out : ∀ {l : List (Addr × HO)} {H H' : Hp}, lockL l H H' → ∀ a, a ∉ l.map (·.1) → H' a = H a
  | [], H, H', h, a, _ => by rw [show H' = H from h]
  | (b, u) :: l, H, H', ⟨od, h⟩, a, m => by
    simp only [List.map_cons, List.mem_cons, not_or] at m
    rw [lockL_out h a m.2, upd_ne m.1]
theorem lockL_in : ∀ {l : List (Addr × HO)} {H H' : Hp}, (l.map (·.1)).Nodup → lockL l H H' → ∀ q ∈ l, ∃ od, H' q.1 = some (.frz od q.2)
  | [], _, _, _, _, q, m => absurd m List.not_mem_nil
  | (b, u) :: l, H, H', nd, ⟨od, h⟩, q, m => by
    simp only [List.map_cons, List.nodup_cons] at nd
    rcases List.mem_cons.mp m with rfl | m
    · exact ⟨od, by rw [lockL_out h _ nd.1, upd_same]⟩
    · exact lockL_in nd.2 h q m
theorem unlL_out : ∀ {l : List (Addr × HO)} {H : Hp} (a : Addr), a ∉ l.map (·.1) → unlL l H a = H a
  | [], _, _, _ => rfl
  | (b, u) :: l, H, a, m => by
    simp only [List.map_cons, List.mem_cons, not_or] at m
    show upd (unlL l H) b u a = _
    rw [upd_ne m.1, unlL_out a m.2]
theorem unlL_in : ∀ {l : List (Addr × HO)} {H : Hp}, (l.map (·.1)).Nodup → ∀ q ∈ l, unlL l H q.1 = some q.2
  | [], _, _, q, m => absurd m List.not_mem_nil
  | (b, u) :: l, H, nd, q, m => by
    simp only [List.map_cons, List.nodup_cons] at nd
    show upd (unlL l H) b u q.1 = _
    rcases List.mem_cons.mp m with rfl | m
    · exact upd_same
    · rw [upd_ne (fun z => nd.1 (List.mem_map.mpr ⟨q, m, z⟩))]
      exact unlL_in nd.2 q m
section
variable {X : Cx} {pins : List (Addr × Obj)} {σ : St} {s : Shared}
theorem inv_locks : ∀ {l : List (Addr × HO)} {H : Hp}, (l.map (·.1)).Nodup → (∀ q ∈ l, H q.1 = some q.2 ∧ Mut (some q.2)) → Inv X pins σ H s → ∃ H', lockL l H H' ∧ Inv X pins σ H' s ∧ ∀ q ∈ l, ∀ o' u', X.H_0 q.1 ≠ some (.frz o' u')
  | [], H, _, _, I => ⟨H, rfl, I, fun _ m => absurd m List.not_mem_nil⟩
  | (a, u) :: l, H, nd, hl, I => by
    simp only [List.map_cons, List.nodup_cons] at nd
    obtain ⟨h1, h2⟩ := hl (a, u) (List.mem_cons_self ..)
    obtain ⟨od, I1⟩ := I.lock h1 h2
    have nf := I.nofrz h1 h2
    obtain ⟨H', k1, k2, k3⟩ := inv_locks (l := l) nd.2 (fun q m => by
      obtain ⟨x, y⟩ := hl q (List.mem_cons_of_mem _ m)
      exact ⟨by rw [upd_ne fun z => nd.1 (List.mem_map.mpr ⟨q, m, z⟩)]; exact x, y⟩) I1
    refine ⟨H', ⟨od, k1⟩, k2, fun q m => ?_⟩
    rcases List.mem_cons.mp m with rfl | m
    · exact nf
    · exact k3 q m
theorem inv_unls : ∀ {l : List (Addr × HO)} {H : Hp}, (l.map (·.1)).Nodup → (∀ q ∈ l, ∃ od, H q.1 = some (.frz od q.2)) → (∀ q ∈ l, ∀ o' u', X.H_0 q.1 ≠ some (.frz o' u')) → Inv X pins σ H s → Inv X pins σ (unlL l H) s
  | [], _, _, _, _, I => I
  | (a, u) :: l, H, nd, hl, hn, I => by
    simp only [List.map_cons, List.nodup_cons] at nd
    have I1 := inv_unls (l := l) nd.2 (fun q m => hl q (List.mem_cons_of_mem _ m)) (fun q m => hn q (List.mem_cons_of_mem _ m)) I
    obtain ⟨od, h⟩ := hl (a, u) (List.mem_cons_self ..)
    exact I1.unlock (od := od) (by rw [unlL_out a nd.1]; exact h) (hn _ (List.mem_cons_self ..))
end
/-- the end may unlock them all -/
def UnK (l : List (Addr × HO)) {α : Type} (Q : α → Hp → Prop) : α → Hp → Prop := fun v H => Q v H ∨ ((∀ q ∈ l, ∃ od, H q.1 = some (.frz od q.2)) ∧ Q v (unlL l H))
def tLocks (t : TE) : TE := fun σ H Q => ∃ l : List (Addr × HO), (l.map (·.1)).Nodup ∧ (∀ q ∈ l, H q.1 = some q.2 ∧ Mut (some q.2)) ∧ ∀ H', lockL l H H' → t σ H' (UnK l Q)
def tLocksT (t : TT) : TT := fun σ H Q => ∃ l : List (Addr × HO), (l.map (·.1)).Nodup ∧ (∀ q ∈ l, H q.1 = some q.2 ∧ Mut (some q.2)) ∧ ∀ H', lockL l H H' → t σ H' (UnK l Q)
def tLocksA (t : TA) : TA := fun σ H Q => ∃ l : List (Addr × HO), (l.map (·.1)).Nodup ∧ (∀ q ∈ l, H q.1 = some q.2 ∧ Mut (some q.2)) ∧ ∀ H', lockL l H H' → t σ H' (UnK l Q)
/-- locked for good -/
def tLocksS (t : TS) : TS := fun D σ H => ∃ l : List (Addr × HO), (l.map (·.1)).Nodup ∧ (∀ q ∈ l, H q.1 = some q.2 ∧ Mut (some q.2)) ∧ ∀ H', lockL l H H' → t D σ H'
section
variable {X : Cx}
theorem pe_locks {e : Expr} {t : TE} (h : PE X e t) : PE X e (tLocks t) := ⟨fun pins s σ H Q I ⟨l, nd, hl, q⟩ => by
  obtain ⟨H', k1, I1, k3⟩ := inv_locks nd hl I
  refine thn (h.run pins s σ H' _ I1 (q H' k1)) fun v s1 ⟨x, H1, I2, r, q2⟩ => ?_
  rcases q2 with q2 | ⟨q2, q3⟩
  · exact ⟨x, H1, I2, r, q2⟩
  · exact ⟨x, _, inv_unls nd q2 k3 I2, r, q3⟩⟩
theorem pt_locks {e : Expr} {t : TT} (h : PT X e t) : PT X e (tLocksT t) := ⟨fun pins s σ H Q I ⟨l, nd, hl, q⟩ => by
  obtain ⟨H', k1, I1, k3⟩ := inv_locks nd hl I
  refine thn (h.run pins s σ H' _ I1 (q H' k1)) fun v s1 ⟨H1, I2, q2⟩ => ?_
  rcases q2 with q2 | ⟨q2, q3⟩
  · exact ⟨H1, I2, q2⟩
  · exact ⟨_, inv_unls nd q2 k3 I2, q3⟩⟩
theorem pa_locks {es : List Expr} {t : TA} (h : PA X es t) : PA X es (tLocksA t) := ⟨fun pos pins s σ H Q I ⟨l, nd, hl, q⟩ => by
  obtain ⟨H', k1, I1, k3⟩ := inv_locks nd hl I
  refine thn (h.run pos pins s σ H' _ I1 (q H' k1)) fun v s1 ⟨x, H1, I2, r, q2⟩ => ?_
  rcases q2 with q2 | ⟨q2, q3⟩
  · exact ⟨x, H1, I2, r, q2⟩
  · exact ⟨x, _, inv_unls nd q2 k3 I2, r, q3⟩⟩
theorem ps_locks {st : Stmt} {t : TS} (h : PS X st t) : PS X st (tLocksS t) := ⟨fun pins s σ H D I ⟨l, nd, hl, q⟩ => by
  obtain ⟨H', k1, I1, k3⟩ := inv_locks nd hl I
  exact h.run pins s σ H' D I1 (q H' k1)⟩
end

/-! ### the owned things in R, gathered -/
def cellO (C : Cfg) (μ : List Addr) (H : Hp) (c : Cell) (u : HO) : Prop := match c with
  | .lst ps => ∃ vs, u = .lst vs ∧ RVs C.K μ H ps vs
  | .dct ks => ∃ ws, u = .dK ws ∧ RKs C.K μ H ks ws
section
variable {C : Cfg} {E : XK} {μ0 μ μ' μ1 : List Addr} {H0 H H' H1 : Hp} {σS : SS} {σ : St} {hp hp1 : PH} {e : EI} {R : List Nat} {l : List (Addr × HO)}
theorem CellR.obj {a : Addr} {c : Cell} (h : CellR C μ H a c) : ∃ u, H a = Option.some u ∧ cellO C μ H c u ∧ lsd u = true := by
  cases c with
  | lst ps => obtain ⟨vs, h1, h2⟩ := h; exact ⟨_, h1, ⟨vs, rfl, h2⟩, rfl⟩
  | dct ks => obtain ⟨vs, h1, h2⟩ := h; exact ⟨_, h1, ⟨vs, rfl, h2⟩, rfl⟩
structure Gath (C : Cfg) (H0 : Hp) (μ : List Addr) (H : Hp) (σS : SS) (σ : St) (R : List Nat) (l : List (Addr × HO)) : Prop where
  nd : (l.map (·.1)).Nodup
  mem : ∀ q ∈ l, ∃ (i : Nat) (c : Cell), R.elem i = true ∧ σS[i]? = some (some (.own c)) ∧ σ[i]? = some (some (.ref q.1)) ∧ H q.1 = some q.2 ∧ cellO C μ H c q.2 ∧ lsd q.2 = true ∧ q.1 ∉ μ ∧ Fr H0 q.1
  all : ∀ (i : Nat) (c : Cell), R.elem i = true → σS[i]? = some (some (.own c)) → ∃ q ∈ l, σ[i]? = some (some (.ref q.1)) ∧ cellO C μ H c q.2
theorem gath (o : OR C H0 μ H σS σ) : ∀ R : List Nat, ∃ l, Gath C H0 μ H σS σ R l
  | [] => ⟨[], List.nodup_nil, fun _ m => absurd m List.not_mem_nil, fun _ _ h => by simp at h⟩
  | i :: R => by
    obtain ⟨l, g⟩ := gath o R
    have mem' : ∀ q ∈ l, ∃ (j : Nat) (c : Cell), (i :: R).elem j = true ∧ σS[j]? = some (some (.own c)) ∧ σ[j]? = some (some (.ref q.1)) ∧ H q.1 = some q.2 ∧ cellO C μ H c q.2 ∧ lsd q.2 = true ∧ q.1 ∉ μ ∧ Fr H0 q.1 := fun q m => by
      obtain ⟨j, c, h1, h2⟩ := g.mem q m
      exact ⟨j, c, by simp only [List.elem_eq_mem, decide_eq_true_eq, List.mem_cons] at h1 ⊢; exact .inr h1, h2⟩
    by_cases hR : R.elem i = true
    · refine ⟨l, g.nd, mem', fun j c h1 h2 => g.all j c ?_ h2⟩
      simp only [List.elem_eq_mem, decide_eq_true_eq, List.mem_cons] at h1 hR ⊢
      rcases h1 with rfl | h1
      · exact hR
      · exact h1
    · cases hi : σS[i]? with
      | none => exact ⟨l, g.nd, mem', fun j c h1 h2 => g.all j c (by
          simp only [List.elem_eq_mem, decide_eq_true_eq, List.mem_cons] at h1 ⊢
          rcases h1 with rfl | h1
          · rw [hi] at h2; cases h2
          · exact h1) h2⟩
      | some z =>
        have skip : (∀ c, z ≠ some (.own c)) → ∃ l, Gath C H0 μ H σS σ (i :: R) l := fun hz => ⟨l, g.nd, mem', fun j c h1 h2 => g.all j c (by
          simp only [List.elem_eq_mem, decide_eq_true_eq, List.mem_cons] at h1 ⊢
          rcases h1 with rfl | h1
          · rw [hi] at h2; cases h2; exact absurd rfl (hz c)
          · exact h1) h2⟩
        match z, hi, skip with
        | none, hi, skip => exact skip fun c h => nomatch h
        | some (.val p), hi, skip => exact skip fun c h => nomatch h
        | some (.own c), hi, _ =>
          obtain ⟨a, h1, h2, h3, h4⟩ := o.own i c hi
          obtain ⟨u, k1, k2, k3⟩ := h2.obj
          refine ⟨(a, u) :: l, ?_, fun q m => ?_, fun j d h5 h6 => ?_⟩
          · rw [List.map_cons, List.nodup_cons]
            refine ⟨fun m => ?_, g.nd⟩
            obtain ⟨q, mq, eq⟩ := List.mem_map.mp m
            obtain ⟨j, d, j1, j2, j3, _⟩ := g.mem q mq
            have := o.inj i j c d hi j2 (by rw [h1, j3, eq])
            subst this
            exact hR j1
          · rcases List.mem_cons.mp m with rfl | m
            · exact ⟨i, c, by simp, hi, h1, k1, k2, k3, h3, h4⟩
            · exact mem' q m
          · by_cases e : j = i
            · subst e
              rw [hi] at h6
              cases h6
              exact ⟨(a, u), List.mem_cons_self .., h1, k2⟩
            · simp only [List.elem_eq_mem, decide_eq_true_eq, List.mem_cons] at h5
              obtain ⟨q, mq, hq⟩ := g.all j d (by simp only [List.elem_eq_mem, decide_eq_true_eq]; exact h5.resolve_left e) h6
              exact ⟨q, List.mem_cons_of_mem _ mq, hq⟩
theorem lsd_Mut {u : HO} (h : lsd u = true) : Mut (some u) := by cases u <;> first | trivial | cases h
theorem cellO.up0 {c : Cell} {u : HO} (x : Up0 μ H μ' H') (h : cellO C μ H c u) : cellO C μ' H' c u := by
  cases c with
  | lst ps => obtain ⟨vs, h1, h2⟩ := h; exact ⟨vs, h1, RVs.up0 x _ _ h2⟩
  | dct ks => obtain ⟨vs, h1, h2⟩ := h; exact ⟨vs, h1, RKs.up0 x _ _ h2⟩
theorem cellO.rv {c : Cell} {u : HO} {a : Addr} {od : Obj} (h : cellO C μ H c u) (e : H a = some (.frz od u)) : RV C.K μ H (cellV c) (.ref a) := by
  cases c with
  | lst ps =>
    obtain ⟨vs, rfl, h2⟩ := h
    simp only [cellV, RV]
    exact ⟨a, vs, rfl, ⟨od, e⟩, h2⟩
  | dct ks =>
    obtain ⟨vs, rfl, h2⟩ := h
    simp only [cellV, RV]
    exact ⟨a, vs, rfl, ⟨od, e⟩, h2⟩
theorem cellO.cell {c : Cell} {u : HO} {a : Addr} (h : cellO C μ H c u) (e : H a = some u) : CellR C μ H a c := by
  cases c with
  | lst ps => obtain ⟨vs, rfl, h2⟩ := h; exact ⟨vs, e, h2⟩
  | dct ks => obtain ⟨vs, rfl, h2⟩ := h; exact ⟨vs, e, h2⟩
/-- the locked heap -/
structure Lkd (C : Cfg) (μ0 : List Addr) (H0 : Hp) (μ : List Addr) (H : Hp) (l : List (Addr × HO)) (H' : Hp) : Prop where
  out : ∀ a, a ∉ l.map (·.1) → H' a = H a
  inn : ∀ q ∈ l, ∃ od, H' q.1 = some (.frz od q.2)
  u0 : Up0 μ H μ H'
  hr : ∀ hp, HR C μ H hp → HR C μ H' hp
theorem frz_nt {H : Hp} {a : Addr} {od : Obj} {u : HO} (h : H a = some (.frz od u)) : nt H a := ⟨_, h, fun _ z => HO.noConfusion z⟩
theorem HR.locks : ∀ {l : List (Addr × HO)} {H H' : Hp}, HR C μ H hp → (l.map (·.1)).Nodup → (∀ q ∈ l, H q.1 = some q.2 ∧ lsd q.2 = true ∧ q.1 ∉ μ) → lockL l H H' → HR C μ H' hp
  | [], H, H', r, _, _, h => by rw [show H' = H from h]; exact r
  | (a, u) :: l, H, H', r, nd, hl, ⟨od, h⟩ => by
    simp only [List.map_cons, List.nodup_cons] at nd
    obtain ⟨h1, h2, h3⟩ := hl (a, u) (List.mem_cons_self ..)
    exact HR.locks (l := l) (r.wrN h1 h2 h3) nd.2 (fun q m => by
      obtain ⟨x, y⟩ := hl q (List.mem_cons_of_mem _ m)
      exact ⟨by rw [upd_ne fun z => nd.1 (List.mem_map.mpr ⟨q, m, z⟩)]; exact x, y⟩) h
theorem Gath.lk (g : Gath C H0 μ H σS σ R l) (h : lockL l H H') : Lkd C μ0 H0 μ H l H' where
  out := lockL_out h
  inn := lockL_in g.nd h
  u0 := ⟨fun _ _ z => z, fun a o s e => by
    rw [lockL_out h a]
    · exact e
    · intro m
      obtain ⟨q, mq, rfl⟩ := List.mem_map.mp m
      obtain ⟨i, c, _, _, _, h4, _, h6, _⟩ := g.mem q mq
      rw [h4] at e
      cases e
      rw [stab_lsd h6] at s
      cases s⟩
  hr := fun hp r => HR.locks r g.nd (fun q m => by
    obtain ⟨i, c, _, _, _, h4, _, h6, h7, _⟩ := g.mem q m
    exact ⟨h4, h6, h7⟩) h
theorem Gath.up (g : Gath C H0 μ H σS σ R l) (k : Lkd C μ0 H0 μ H l H') (u : Up μ0 H0 μ H) : Up μ0 H0 μ H' := by
  have out0 : ∀ a o, H0 a = some o → (∀ ps, o ≠ .tbl ps) → a ∉ l.map (·.1) := fun a o e ho m => by
    obtain ⟨q, mq, rfl⟩ := List.mem_map.mp m
    obtain ⟨i, c, _, _, _, _, _, _, _, h8⟩ := g.mem q mq
    exact h8 ⟨o, e, ho⟩
  refine ⟨u.ad, fun a o s e => by rw [k.out a (out0 a o e (stab_nt s))]; exact u.st a o s e, fun a ⟨o, e, ho⟩ => ?_, fun a o lo e m => ?_, u.nw⟩
  · obtain ⟨o', e', ho'⟩ := u.dm a ⟨o, e, ho⟩
    exact ⟨o', by rw [k.out a (out0 a o e ho)]; exact e', ho'⟩
  · obtain ⟨e1, m1⟩ := u.hid a o lo e m
    exact ⟨by rw [k.out a (out0 a o e (lsd_nt lo))]; exact e1, m1⟩
theorem Gath.sr (g : Gath C H0 μ H σS σ R l) (k : Lkd C μ0 H0 μ H l H') (o : OR C H0 μ H σS σ) : SR C μ H' (bor R 0 σS) σ := ⟨by rw [bor_len]; exact o.len, fun i p h => by
  rcases bor_at _ _ _ _ _ h with h | ⟨c, h1, h2, rfl⟩
  · obtain ⟨v, h1, h2⟩ := o.val i p h
    exact ⟨v, h1, RV.up0 k.u0 _ _ h2⟩
  · rw [Nat.zero_add] at h2
    obtain ⟨q, mq, h3, h4⟩ := g.all i c h2 h1
    obtain ⟨od, h5⟩ := k.inn q mq
    exact ⟨_, h3, (h4.up0 k.u0).rv h5⟩⟩
/-- behind the reading: locked for good -/
theorem Gath.locked (g : Gath C H0 μ H σS σ R l) (k : Lkd C μ0 H0 μ H l H') (o : OR C H0 μ H σS σ) (u1 : Up μ H' μ1 H1) : OR C H0 μ1 H1 (lck R 0 σS) σ := by
  have u0 : Up0 μ H μ1 H1 := ⟨fun n a e => u1.ad n a (k.u0.ad n a e), fun a w s e => u1.st a w s (k.u0.st a w s e)⟩
  refine ⟨by rw [lck_len]; exact o.len, fun i p h => ?_, fun i c h => ?_, fun i j c d h1 h2 => ?_⟩
  · rcases lck_at _ _ _ _ _ h with ⟨c, h1, h2, h3⟩ | ⟨h1, _⟩
    · cases h3
      rw [Nat.zero_add] at h2
      obtain ⟨q, mq, h3, h4⟩ := g.all i c h2 h1
      obtain ⟨od, h5⟩ := k.inn q mq
      exact ⟨_, h3, (h4.up0 u0).rv (u1.st _ _ rfl h5)⟩
    · obtain ⟨v, h2, h3⟩ := o.val i p h1
      exact ⟨v, h2, RV.up0 u0 _ _ h3⟩
  · rcases lck_at _ _ _ _ _ h with ⟨c', _, _, h3⟩ | ⟨h1, h2⟩
    · cases h3
    · obtain ⟨a, h3, h4, h5, h6⟩ := o.own i c h1
      obtain ⟨w, hw, lw, _⟩ := h4.lsdU
      have na : a ∉ l.map (·.1) := fun m => by
        obtain ⟨q, mq, rfl⟩ := List.mem_map.mp m
        obtain ⟨j, d, j1, j2, j3, _⟩ := g.mem q mq
        have := o.inj i j c d h1 j2 (by rw [h3, j3])
        subst this
        rw [Nat.zero_add] at h2
        rcases h2 with ⟨p, h2⟩ | h2
        · cases h2
        · rw [j1] at h2; cases h2
      obtain ⟨e1, e2⟩ := u1.hid a w lw (by rw [k.out a na]; exact hw) h5
      exact ⟨a, h3, h4.up0 u0 (e1.trans hw.symm), e2, h6⟩
  · rcases lck_at _ _ _ _ _ h1 with ⟨c', _, _, h3⟩ | ⟨h3, _⟩
    · cases h3
    · rcases lck_at _ _ _ _ _ h2 with ⟨c', _, _, h4⟩ | ⟨h4, _⟩
      · cases h4
      · exact o.inj i j c d h3 h4
/-! flat values ask no locked list -/
mutual
theorem RV.flat (hs : ∀ a xs, SqT C.K H a xs → SqT C.K H' a xs) : ∀ (p : PV) (v : V), nl p = true → RV C.K μ H p v → RV C.K μ H' p v
  | .non, _, _, h => by simpa only [RV] using h
  | .bl _, _, _, h => by simpa only [RV] using h
  | .int _, _, _, h => by simpa only [RV] using h
  | .str _, _, _, h => by simpa only [RV] using h
  | .ref _, _, _, h => by simpa only [RV] using h
  | .loc _, _, _, h => by simpa only [RV] using h
  | .lst _, _, z, _ => by simp [nl] at z
  | .dct _, _, z, _ => by simp [nl] at z
  | .tup ps, _, z, h => by
    simp only [RV] at h ⊢
    obtain ⟨a, vs, e, s, r⟩ := h
    exact ⟨a, vs, e, hs _ _ s, RVs.flat hs ps vs (by simpa only [nl] using z) r⟩
theorem RVs.flat (hs : ∀ a xs, SqT C.K H a xs → SqT C.K H' a xs) : ∀ (ps : List PV) (vs : List V), nls ps = true → RVs C.K μ H ps vs → RVs C.K μ H' ps vs
  | [], _, _, h => by simpa only [RVs] using h
  | p :: ps, _, z, h => by
    simp only [nls, nl.nls, Bool.and_eq_true] at z
    simp only [RVs] at h ⊢
    obtain ⟨w, ws, e, r, s⟩ := h
    exact ⟨w, ws, e, RV.flat hs p w z.1 r, RVs.flat hs ps ws z.2 s⟩
end
theorem RKs.flat (hs : ∀ a xs, SqT C.K H a xs → SqT C.K H' a xs) : ∀ (ks : List (Key × PV)) (ws : List (Key × V)), (ks.all fun kv => nl kv.2) = true → RKs C.K μ H ks ws → RKs C.K μ H' ks ws
  | [], _, _, h => by simpa only [RKs] using h
  | (k, p) :: ps, _, z, h => by
    simp only [List.all_cons, Bool.and_eq_true] at z
    simp only [RKs] at h ⊢
    obtain ⟨w, ws, e, r, s⟩ := h
    exact ⟨w, ws, e, RV.flat hs p w z.1 r, RKs.flat hs ps ws z.2 s⟩
theorem tabs_agree {T : List (Addr × Str)} {H H' : Hp} (h : ∀ a o, H a = some o → ((∃ ps, o = .tbl ps) ∨ ∃ φ, o = .ext φ) → H' a = some o) (t : LamX.Tabs T H) : LamX.Tabs T H' := fun q hq => by
  obtain ⟨ps, h1, h2, h3⟩ := t q hq
  refine ⟨ps, h _ _ h1 (.inl ⟨_, rfl⟩), h2, fun pos cv hc => ?_⟩
  obtain ⟨c, e1, e2⟩ := h3 pos cv hc
  exact ⟨c, e1, h _ _ e2 (.inr ⟨_, rfl⟩)⟩
/-- behind the reading: all unlocked -/
theorem Gath.free (g : Gath C H0 μ H σS σ R l) (k : Lkd C μ0 H0 μ H l H') (o : OR C H0 μ H σS σ) (u : Up μ0 H0 μ H) (x0 : XD C μ0 H0) (u1 : Up μ H' μ1 H1) (r1 : HR C μ1 H1 hp1) :
    (∀ q ∈ l, ∃ od, H1 q.1 = some (.frz od q.2)) ∧ Up μ0 H0 μ1 (unlL l H1) ∧ Up0 μ H μ1 (unlL l H1) ∧ HR C μ1 (unlL l H1) hp1 ∧ OR C H0 μ1 (unlL l H1) σS σ ∧ (∀ p v, nl p = true → RV C.K μ1 H1 p v → RV C.K μ1 (unlL l H1) p v) ∧ ∀ ps vs, nls ps = true → RVs C.K μ1 H1 ps vs → RVs C.K μ1 (unlL l H1) ps vs := by
  have out0 : ∀ a o, H0 a = some o → (∀ ps, o ≠ .tbl ps) → a ∉ l.map (·.1) := fun a o e ho m => by
    obtain ⟨q, mq, rfl⟩ := List.mem_map.mp m
    obtain ⟨i, c, _, _, _, _, _, _, _, h8⟩ := g.mem q mq
    exact h8 ⟨o, e, ho⟩
  have lk1 : ∀ q ∈ l, ∃ od, H1 q.1 = some (.frz od q.2) := fun q m => by
    obtain ⟨od, h⟩ := k.inn q m
    exact ⟨od, u1.st _ _ rfl h⟩
  have nm : ∀ q ∈ l, q.1 ∉ μ1 := fun q m z => by
    obtain ⟨i, c, _, _, _, _, _, _, h7, _⟩ := g.mem q m
    rcases u1.nw _ z with z | z
    · exact h7 z
    · obtain ⟨od, h⟩ := k.inn q m
      exact z (frz_nt h)
  have nmo : ∀ a ∈ μ1, a ∉ l.map (·.1) := fun a ma m => by
    obtain ⟨q, mq, rfl⟩ := List.mem_map.mp m
    exact nm q mq ma
  have ua := g.up k u
  have ub := ua.trans u1
  have keep : ∀ a o, H1 a = some o → (∀ od u, o ≠ .frz od u) → unlL l H1 a = some o := fun a o e ho => by
    rw [unlL_out a]
    · exact e
    · intro m
      obtain ⟨q, mq, rfl⟩ := List.mem_map.mp m
      obtain ⟨od, h⟩ := lk1 q mq
      rw [e] at h
      exact ho _ _ (Option.some.inj h)
  have sq : ∀ a xs, SqT C.K H1 a xs → SqT C.K (unlL l H1) a xs := fun a xs h => by
    rcases h with (h | ⟨od, h⟩) | h
    · exact .inl (.inl (keep a _ h fun _ _ z => HO.noConfusion z))
    · refine .inl (.inr ⟨od, ?_⟩)
      rw [unlL_out a]
      · exact h
      · intro m
        obtain ⟨q, mq, rfl⟩ := List.mem_map.mp m
        obtain ⟨od2, h2⟩ := lk1 q mq
        obtain ⟨i, c, _, _, _, _, _, h6, _⟩ := g.mem q mq
        rw [h] at h2
        injection h2 with h2
        injection h2 with _ h2
        rw [← h2] at h6
        cases h6
    · exact .inr h
  have u2 : Up μ0 H0 μ1 (unlL l H1) := by
    refine ⟨ub.ad, fun a o s e => by rw [unlL_out a (out0 a o e (stab_nt s))]; exact ub.st a o s e, fun a ⟨o, e, ho⟩ => ?_, fun a o lo e m => ?_, ub.nw⟩
    · obtain ⟨o', e', ho'⟩ := ub.dm a ⟨o, e, ho⟩
      exact ⟨o', by rw [unlL_out a (out0 a o e ho)]; exact e', ho'⟩
    · obtain ⟨e1, m1⟩ := ub.hid a o lo e m
      exact ⟨by rw [unlL_out a (out0 a o e (lsd_nt lo))]; exact e1, m1⟩
  have uH : Up0 μ H μ1 (unlL l H1) := ⟨fun n a e => u1.ad n a e, fun a o s e => by
    have na : a ∉ l.map (·.1) := fun m => by
      obtain ⟨q, mq, rfl⟩ := List.mem_map.mp m
      obtain ⟨i, c, _, _, _, h4, _, h6, _⟩ := g.mem q mq
      rw [h4] at e
      cases e
      rw [stab_lsd h6] at s
      cases s
    rw [unlL_out a na]
    exact u1.st a o s (by rw [k.out a na]; exact e)⟩
  refine ⟨lk1, u2, uH, ⟨r1.nd, fun a m => ?_, fun n c e => ?_, tabs_agree (fun a o e h => keep a o e (by rcases h with ⟨ps, rfl⟩ | ⟨φ, rfl⟩ <;> exact fun _ _ z => HO.noConfusion z)) r1.tabs, x0.up0 u2.weak, r1.fl⟩, ⟨o.len, fun i p h => ?_, fun i c h => ?_, o.inj⟩, fun p v => RV.flat sq p v, fun ps vs => RVs.flat sq ps vs⟩
  · obtain ⟨w, h1, h2⟩ := r1.lv a m
    exact ⟨w, by rw [unlL_out a (nmo a m)]; exact h1, h2⟩
  · obtain ⟨a, e1, e2⟩ := r1.cell n c e
    have ma := List.mem_of_getElem? e1
    have fl := r1.fl n c e
    refine ⟨a, e1, ?_⟩
    cases c with
    | lst ps =>
      obtain ⟨vs, h1, h2⟩ := e2
      exact ⟨vs, by rw [unlL_out a (nmo a ma)]; exact h1, RVs.flat sq _ _ fl h2⟩
    | dct ks =>
      obtain ⟨vs, h1, h2⟩ := e2
      exact ⟨vs, by rw [unlL_out a (nmo a ma)]; exact h1, RKs.flat sq _ _ fl h2⟩
  · obtain ⟨v, h1, h2⟩ := o.val i p h
    exact ⟨v, h1, RV.up0 uH _ _ h2⟩
  · obtain ⟨a, h3, h4, h5, h6⟩ := o.own i c h
    by_cases m : a ∈ l.map (·.1)
    · obtain ⟨q, mq, rfl⟩ := List.mem_map.mp m
      obtain ⟨j, d, j1, j2, j3, j4, j5, _⟩ := g.mem q mq
      have := o.inj i j c d h (by exact j2) (by rw [h3, j3])
      subst this
      rw [h] at j2
      cases j2
      exact ⟨q.1, h3, (j5.up0 uH).cell (unlL_in g.nd q mq), nm q mq, h6⟩
    · obtain ⟨w, hw, lw, _⟩ := h4.lsdU
      obtain ⟨e1, e2⟩ := u1.hid a w lw (by rw [k.out a m]; exact hw) h5
      exact ⟨a, h3, h4.up0 uH (by rw [unlL_out a m]; exact e1.trans hw.symm), e2, h6⟩
end
end RF

set_option Elab.async false
set_option linter.all false
set_option maxRecDepth 100000
set_option maxHeartbeats 1000000
/-! Part NB2: statements as functions. -/
namespace RF
open PySem PySem.Spec L2
structure DN where
  nx : SS → PH → Prop
  rt : KI
  bk : SS → PH → Prop := fun _ _ => False
  ct : SS → PH → Prop := fun _ _ => False
structure DN.le (D D' : DN) : Prop where
  nx : ∀ σ h, D.nx σ h → D'.nx σ h
  rt : ∀ p h, D.rt p h → D'.rt p h
  bk : ∀ σ h, D.bk σ h → D'.bk σ h
  ct : ∀ σ h, D.ct σ h → D'.ct σ h
abbrev WN := SS → PH → EI → DN → Prop
def MoN (w : WN) : Prop := ∀ σ hp e D D', D.le D' → w σ hp e D → w σ hp e D'
section
variable (C : Cfg)
def gN (μ0 : List Addr) (H0 : Hp) (μs : List Addr) (Hs : Hp) (Q : St → Hp → Prop) : SS → PH → Prop := fun σS hp => ∀ μ' H' σ, Up μ0 H0 μ' H' → Up0 μs Hs μ' H' → HR C μ' H' hp → OR C H0 μ' H' σS σ → Q σ H'
def gD (μ0 : List Addr) (H0 : Hp) (μs : List Addr) (Hs : Hp) (D : Ends) : DN := ⟨gN C μ0 H0 μs Hs D.nx, fE C μ0 H0 D.rt, gN C μ0 H0 μs Hs D.bk, gN C μ0 H0 μs Hs D.ct⟩
def tN (E : XK) (w : WN) : TS := fun D σ H => ∃ μ0 H0 μ hp σS e, NAt C E μ0 H0 μ H μ H hp e ∧ OR C H0 μ H σS σ ∧ w σS hp e (gD C μ0 H0 μ H D)
end
structure NS (X : Cx) (C : Cfg) (E : XK) (x : Stmt) (w : WN) : Prop where
  mo : MoN w
  ps : PS X x (tN C E w)
structure NSs (X : Cx) (C : Cfg) (E : XK) (x : List Stmt) (w : WN) : Prop where
  mo : MoN w
  ps : PSs X x (tN C E w)
inductive Out where
  | nx (σ : SS)
  | rt (p : PV)
  | bk (σ : SS)
  | ct (σ : SS)
def Out.to (D : DN) : Out → PH → Prop
  | .nx σ => D.nx σ
  | .rt p => D.rt p
  | .bk σ => D.bk σ
  | .ct σ => D.ct σ
abbrev FS := SS → M Out
def toN (f : FS) : WN := fun σ hp e D => toM (f σ) hp e (Out.to D)
theorem Out.le {D D' : DN} (l : D.le D') : ∀ (o : Out) (h : PH), o.to D h → o.to D' h
  | .nx σ, h, q => l.nx _ _ q
  | .rt σ, h, q => l.rt _ _ q
  | .bk σ, h, q => l.bk _ _ q
  | .ct σ, h, q => l.ct _ _ q
theorem toM.outr {o : Out} {hp : PH} {e : EI} {D : DN} (q : toM (M.ret o) hp e (Out.to D)) : o.to D hp := toM.ret (e := e) q
theorem toN.mo {f : FS} : MoN (toN f) := fun _ _ _ _ _ l q => toM.mono (Out.le l) q

/-! ### an expression in a statement -/
/-- what is left of the slots behind an expression that read the owned ones in R and gave p -/
def rel (R : List Nat) (b : Bool) (σS : SS) : SS := match R with
  | [] => σS
  | R => if b = true then σS else lck R 0 σS
section
variable {X : Cx} {C : Cfg} {E : XK} {μ0 μs μ : List Addr} {H0 Hs H : Hp} {σS : SS} {σ : St} {hp : PH} {e : EI} {R : List Nat} {x : Expr}
theorem lck_nil : ∀ (i : Nat) (σ : SS), lck [] i σ = σ
  | _, [] => rfl
  | i, s :: σ => by
    unfold lck
    rw [lck_nil (i + 1) σ]
    cases s with
    | none => rfl
    | some s => cases s <;> rfl
theorem rel_eq (R : List Nat) (b : Bool) (σS : SS) : rel R b σS = if b = true then σS else lck R 0 σS := by
  cases R with
  | nil => rw [lck_nil]; simp [rel]
  | cons a R => rfl
theorem Gath.start (g : ∃ l, Gath C H0 μ H σS σ R l) : ∃ l : List (Addr × HO), Gath C H0 μ H σS σ R l ∧ (l.map (·.1)).Nodup ∧ ∀ q ∈ l, H q.1 = some q.2 ∧ Mut (some q.2) := by
  obtain ⟨l, g⟩ := g
  refine ⟨l, g, g.nd, fun q m => ?_⟩
  obtain ⟨i, c, _, _, _, h4, _, h6, _⟩ := g.mem q m
  exact ⟨h4, lsd_Mut h6⟩
theorem n_expr {f : FE} {Q : PV → PH → Prop} {K : VK} (n : NAt C E μ0 H0 μs Hs μ H hp e) (o : OR C H0 μ H σS σ) (q : toM (f (bor R 0 σS)) hp e Q)
    (k : ∀ p h μ' H' v, Q p h → NAt C E μ0 H0 μs Hs μ' H' h e → OR C H0 μ' H' (rel R (nl p) σS) σ → RV C.K μ' H' p v → K v H') : tLocks (tE C E (toE f)) σ H K := by
  obtain ⟨l, g, nd, hl⟩ := Gath.start (gath o R)
  refine ⟨l, nd, hl, fun H' hk => ?_⟩
  have kk := g.lk (μ0 := μ0) hk
  have u0 := g.up kk n.up
  refine ⟨μ, hp, bor R 0 σS, e, ⟨kk.hr _ n.hr, n.eok.up u0⟩, g.sr kk o, toM.mono (fun p h q μ1 H1 v u1 r1 rv => ?_) q⟩
  have kq := k p h
  rw [rel_eq] at kq
  by_cases hp : nl p = true
  · obtain ⟨a1, a2, aU, a3, a4, a5, _⟩ := g.free kk o n.up n.xd u1 r1
    rw [if_pos hp] at kq
    exact .inr ⟨a1, kq _ _ _ q (n.next a2 aU a3) a4 (a5 p v hp rv)⟩
  · rw [if_neg hp] at kq
    exact .inl (kq _ _ _ q (n.next (u0.trans u1) (kk.u0.trans u1.weak) r1) (g.locked kk o u1) rv)
theorem n_test {f : FT} {Q : Bool → PH → Prop} {K : Bool → Hp → Prop} (n : NAt C E μ0 H0 μs Hs μ H hp e) (o : OR C H0 μ H σS σ) (q : toM (f (bor R 0 σS)) hp e Q)
    (k : ∀ b h μ' H', Q b h → NAt C E μ0 H0 μs Hs μ' H' h e → OR C H0 μ' H' σS σ → K b H') : tLocksT (tT C E (toT f)) σ H K := by
  obtain ⟨l, g, nd, hl⟩ := Gath.start (gath o R)
  refine ⟨l, nd, hl, fun H' hk => ?_⟩
  have kk := g.lk (μ0 := μ0) hk
  have u0 := g.up kk n.up
  refine ⟨μ, hp, bor R 0 σS, e, ⟨kk.hr _ n.hr, n.eok.up u0⟩, g.sr kk o, toM.mono (fun p h q μ1 H1 u1 r1 => ?_) q⟩
  obtain ⟨a1, a2, aU, a3, a4, _, _⟩ := g.free kk o n.up n.xd u1 r1
  exact .inr ⟨a1, k _ _ _ _ q (n.next a2 aU a3) a4⟩
theorem n_args {f : FA} {Q : List PV → PH → Prop} {K : List V → Hp → Prop} (n : NAt C E μ0 H0 μs Hs μ H hp e) (o : OR C H0 μ H σS σ) (q : toM (f (bor R 0 σS)) hp e Q)
    (k : ∀ p h μ' H' v, Q p h → NAt C E μ0 H0 μs Hs μ' H' h e → OR C H0 μ' H' (rel R (nls p) σS) σ → RVs C.K μ' H' p v → K v H') : tLocksA (tA C E (toA f)) σ H K := by
  obtain ⟨l, g, nd, hl⟩ := Gath.start (gath o R)
  refine ⟨l, nd, hl, fun H' hk => ?_⟩
  have kk := g.lk (μ0 := μ0) hk
  have u0 := g.up kk n.up
  refine ⟨μ, hp, bor R 0 σS, e, ⟨kk.hr _ n.hr, n.eok.up u0⟩, g.sr kk o, toM.mono (fun p h q μ1 H1 v u1 r1 rv => ?_) q⟩
  have kq := k p h
  rw [rel_eq] at kq
  by_cases hp : nls p = true
  · obtain ⟨a1, a2, aU, a3, a4, _, a5⟩ := g.free kk o n.up n.xd u1 r1
    rw [if_pos hp] at kq
    exact .inr ⟨a1, kq _ _ _ q (n.next a2 aU a3) a4 (a5 p v hp rv)⟩
  · rw [if_neg hp] at kq
    exact .inl (kq _ _ _ q (n.next (u0.trans u1) (kk.u0.trans u1.weak) r1) (g.locked kk o u1) rv)
end
/-! ### targets -/
def setAllS (σ : SS) : List Nat → List PV → SS
  | i :: is, p :: ps => setAllS (σ.set i (some (.val p))) is ps
  | _, _ => σ
def Tg.goS (t : Tg) (p : PV) (σ : SS) : Option SS :=
  match t with
  | .nm i => some (σ.set i (some (.val p)))
  | .tp is => match p with
    | .tup ps => if ps.length = is.length then some (setAllS σ is ps) else none
    | _ => none
section
variable {C : Cfg} {E : XK} {μ0 μs μ : List Addr} {H0 Hs H : Hp} {σS σS' : SS} {σ : St} {hp : PH} {e : EI}
theorem set_get {α : Type} {l : List α} {i j : Nat} {x y : α} (h : (l.set i x)[j]? = some y) : (i = j ∧ y = x) ∨ (i ≠ j ∧ l[j]? = some y) := by
  by_cases e : i = j
  · subst e
    by_cases hl : i < l.length
    · rw [List.getElem?_set_self hl] at h
      cases h; exact .inl ⟨rfl, rfl⟩
    · rw [List.getElem?_eq_none (by simpa using hl)] at h
      cases h
  · rw [List.getElem?_set_ne e] at h
    exact .inr ⟨e, h⟩
theorem set_hit {α : Type} {l : List α} {i : Nat} {x : α} {y : α} (h : (l.set i x)[i]? = some y) : i < l.length := by
  have := List.getElem?_eq_some_iff.mp h
  obtain ⟨a, _⟩ := this
  simpa using a
theorem OR.set (o : OR C H0 μ H σS σ) {i : Nat} {p : PV} {v : V} (r : RV C.K μ H p v) : OR C H0 μ H (σS.set i (some (.val p))) (σ.set i (some v)) := by
  refine ⟨by simpa using o.len, fun j q h => ?_, fun j c h => ?_, fun j k c d h1 h2 h3 => ?_⟩
  · rcases set_get h with ⟨rfl, h1⟩ | ⟨ne, h1⟩
    · cases h1
      have := set_hit h
      exact ⟨v, List.getElem?_set_self (by rw [← o.len]; exact this), r⟩
    · rw [List.getElem?_set_ne ne]
      exact o.val j q h1
  · rcases set_get h with ⟨rfl, h1⟩ | ⟨ne, h1⟩
    · cases h1
    · rw [List.getElem?_set_ne ne]
      exact o.own j c h1
  · rcases set_get h1 with ⟨rfl, h4⟩ | ⟨ne, h4⟩
    · cases h4
    · rcases set_get h2 with ⟨rfl, h5⟩ | ⟨ne2, h5⟩
      · cases h5
      · rw [List.getElem?_set_ne ne, List.getElem?_set_ne ne2] at h3
        exact o.inj j k c d h4 h5 h3
theorem OR.setAll : ∀ (is : List Nat) (ps : List PV) (vs : List V) (σS : SS) (σ : St), OR C H0 μ H σS σ → RVs C.K μ H ps vs → OR C H0 μ H (setAllS σS is ps) (RF.setAll σ is vs)
  | [], ps, vs, σS, σ, s, r => by
    cases ps <;> cases vs <;> exact s
  | i :: is, [], vs, σS, σ, s, r => by
    simp only [RVs] at r
    subst r; exact s
  | i :: is, p :: ps, vs, σS, σ, s, r => by
    simp only [RVs] at r
    obtain ⟨w, ws, rfl, r1, r2⟩ := r
    exact OR.setAll is ps ws _ _ (s.set r1) r2
theorem Tg.okS {t : Tg} {p : PV} {v : V} {Q : St → Hp → Prop} (r : RV C.K μ H p v) (s : OR C H0 μ H σS σ) (h : t.goS p σS = some σS') (q : ∀ σ', OR C H0 μ H σS' σ' → Q σ' H) : t.g C.K v σ H Q := by
  cases t with
  | nm i =>
    simp only [Tg.goS, Option.some.injEq] at h
    subst h
    exact q _ (s.set r)
  | tp is =>
    cases p with
    | tup ps =>
      simp only [Tg.goS] at h
      split at h
      · rename_i hl
        cases h
        obtain ⟨a, vs, rfl, hs, rv⟩ := r.tupI
        exact ⟨a, vs, rfl, hs, by rw [rv.length, hl], gNames_ok is vs σ H Q (by rw [rv.length, hl]) (q _ (OR.setAll is ps vs _ _ s rv))⟩
      · cases h
    | _ => simp [Tg.goS] at h
/-- a new thing is owned by slot i -/
theorem OR.setOwn (o : OR C H0 μ H σS σ) {i : Nat} {a : Addr} {c : Cell} (hc : CellR C μ H a c) (m : a ∉ μ) (f : Fr H0 a) (new : ∀ (j : Nat) (d : Cell), j ≠ i → σS[j]? = some (some (.own d)) → σ[j]? ≠ some (some (.ref a))) :
    OR C H0 μ H (σS.set i (some (.own c))) (σ.set i (some (.ref a))) := by
  refine ⟨by simpa using o.len, fun j q h => ?_, fun j d h => ?_, fun j k d d2 h1 h2 h3 => ?_⟩
  · rcases set_get h with ⟨rfl, h1⟩ | ⟨ne, h1⟩
    · cases h1
    · rw [List.getElem?_set_ne ne]
      exact o.val j q h1
  · rcases set_get h with ⟨rfl, h1⟩ | ⟨ne, h1⟩
    · cases h1
      have := set_hit h
      exact ⟨a, List.getElem?_set_self (by rw [← o.len]; exact this), hc, m, f⟩
    · rw [List.getElem?_set_ne ne]
      exact o.own j d h1
  · rcases set_get h1 with ⟨rfl, h4⟩ | ⟨ne, h4⟩
    · rcases set_get h2 with ⟨rfl, h5⟩ | ⟨ne2, h5⟩
      · rfl
      · have := set_hit h1
        rw [List.getElem?_set_self (by rw [← o.len]; exact this), List.getElem?_set_ne ne2] at h3
        exact absurd h3.symm (new k d2 (fun z => ne2 z.symm) h5)
    · rcases set_get h2 with ⟨rfl, h5⟩ | ⟨ne2, h5⟩
      · have := set_hit h2
        rw [List.getElem?_set_ne ne, List.getElem?_set_self (by rw [← o.len]; exact this)] at h3
        exact absurd h3 (new j d (fun z => ne z.symm) h4)
      · rw [List.getElem?_set_ne ne, List.getElem?_set_ne ne2] at h3
        exact o.inj j k d d2 h4 h5 h3
/-- the owned thing at slot i is written -/
theorem OR.write (o : OR C H0 μ H σS σ) (n : NAt C E μ0 H0 μs Hs μ H hp e) {i : Nat} {a : Addr} {c d : Cell} {u : HO} (hi : σS[i]? = some (some (.own c))) (ha : σ[i]? = some (some (.ref a))) (hu : ∀ μ' H', Up0 μ H μ' H' → cellO C μ' H' d u) (lu : lsd u = true) :
    Up μ0 H0 μ (upd H a u) ∧ Up0 μ H μ (upd H a u) ∧ HR C μ (upd H a u) hp ∧ OR C H0 μ (upd H a u) (σS.set i (some (.own d))) σ := by
  obtain ⟨a', h1, h2, h3, h4⟩ := o.own i c hi
  rw [ha] at h1
  cases h1
  obtain ⟨w, hw, lw, _⟩ := h2.lsdU
  have u0 : Up0 μ H μ (upd H a u) := Up0.wrN hw lw
  refine ⟨n.up.wrN h4 hw lw h3, u0, n.hr.wrN hw lw h3, by simpa using o.len, fun j q h => ?_, fun j d' h => ?_, fun j k d' d2 h5 h6 h7 => ?_⟩
  · rcases set_get h with ⟨rfl, h1⟩ | ⟨ne, h1⟩
    · cases h1
    · obtain ⟨v, e1, e2⟩ := o.val j q h1
      exact ⟨v, e1, RV.up0 u0 _ _ e2⟩
  · rcases set_get h with ⟨rfl, h1⟩ | ⟨ne, h1⟩
    · cases h1
      exact ⟨a, ha, (hu _ _ u0).cell upd_same, h3, h4⟩
    · obtain ⟨b, e1, e2, e3, e4⟩ := o.own j d' h1
      have nb : b ≠ a := fun z => ne (o.inj i j c d' hi h1 (by rw [ha, e1, z]))
      exact ⟨b, e1, e2.up0 u0 (upd_ne nb), e3, e4⟩
  · have back : ∀ (j : Nat) (d : Cell), (σS.set i (some (.own d)))[j]? = some (some (.own d)) → True := fun _ _ _ => trivial
    rcases set_get h5 with ⟨rfl, _⟩ | ⟨ne, h8⟩
    · rcases set_get h6 with ⟨rfl, _⟩ | ⟨ne2, h9⟩
      · rfl
      · exact o.inj i k c d2 hi h9 h7
    · rcases set_get h6 with ⟨rfl, _⟩ | ⟨ne2, h9⟩
      · exact o.inj j i d' c h8 hi h7
      · exact o.inj j k d' d2 h8 h9 h7
end
/-! ### statements -/
def fPass : FS := fun σ => M.ret (.nx σ)
def fBrk : FS := fun σ => M.ret (.bk σ)
def fCnt : FS := fun σ => M.ret (.ct σ)
def fSeq (a b : FS) : FS := fun σ => (a σ).bind fun o => match o with
  | .nx σ' => b σ'
  | o => M.ret o
def wnSeq (a b : WN) : WN := fun σ hp e D => a σ hp e { D with nx := fun σ h => b σ h e D }
def fIf (R : List Nat) (t : FT) (a b : FS) : FS := fun σ => (t (bor R 0 σ)).bind fun k => if k = true then a σ else b σ
def fDo (R : List Nat) (a : FE) : FS := fun σ => (a (bor R 0 σ)).bind fun p => M.ret (.nx (rel R (nl p) σ))
def fRet (R : List Nat) (a : FE) : FS := fun σ => (a (bor R 0 σ)).bind fun p => M.ret (.rt p)
def fRetN : FS := fun _ => M.ret (.rt .non)
def fAsg (R : List Nat) (t : Tg) (a : FE) : FS := fun σ => (a (bor R 0 σ)).bind fun p => (M.ofO (t.goS p (rel R (nl p) σ))).bind fun σ' => M.ret (.nx σ')
def fRaise (R : List Nat) (cn : Str) (a : FE) : FS := fun σ => (a (bor R 0 σ)).bind fun p => M.raise cn p
section
variable {X : Cx} {C : Cfg} {E : XK} {st : Stmt} {sts s2 : List Stmt} {t x : Expr} {fa fb : FS} {a : FE} {ta : FT} {pos : Pos} {R : List Nat}
theorem toM_one {a : FE} {σ : SI} {hp : PH} {e : EI} {cn : Str} {Q : Out → PH → Prop} (q : toM ((a σ).bind fun p => M.raise cn p) hp e Q) : toM (fCons a fNil σ) hp e fun ps h => ∃ p, ps = [p] ∧ e cn p h := by
  obtain ⟨d, D, h, q⟩ := q
  refine ⟨d, D, h, ?_⟩
  unfold M.bind at q
  unfold fCons M.bind
  cases e1 : a σ d D with
  | ok p D1 =>
    rw [e1] at q
    exact fun hp' h1 h2 => ⟨p, rfl, q hp' h1 h2⟩
  | err c p D1 =>
    rw [e1] at q
    exact q
  | bad =>
    rw [e1] at q
    exact q
theorem gD.here {D : Ends} {μ0 μs : List Addr} {H0 Hs : Hp} {μ : List Addr} {H : Hp} {hp : PH} {e : EI} {σS : SS} {σ : St} (q : (gD C μ0 H0 μs Hs D).nx σS hp) (n : NAt C E μ0 H0 μs Hs μ H hp e) (o : OR C H0 μ H σS σ) : D.nx σ H := q μ H σ n.up n.us n.hr o
/-- a later start -/
theorem gD.later {D : Ends} {μ0 μs μ1 : List Addr} {H0 Hs H1 : Hp} (u : Up0 μs Hs μ1 H1) : (gD C μ0 H0 μs Hs D).le (gD C μ0 H0 μ1 H1 D) := ⟨fun _ _ q μ' H' σ a b => q μ' H' σ a (u.trans b), fun _ _ q => q, fun _ _ q μ' H' σ a b => q μ' H' σ a (u.trans b), fun _ _ q μ' H' σ a b => q μ' H' σ a (u.trans b)⟩
theorem toN.later {f : FS} {D : Ends} {μ0 μs μ1 : List Addr} {H0 Hs H1 : Hp} {hp : PH} {e : EI} {σS : SS} (u : Up0 μs Hs μ1 H1) (q : toM (f σS) hp e (Out.to (gD C μ0 H0 μs Hs D))) : toM (f σS) hp e (Out.to (gD C μ0 H0 μ1 H1 D)) := toM.mono (Out.le (gD.later u)) q
theorem nss_nil : NSs X C E [] (toN fPass) := ⟨toN.mo, PSs.imp pss_nil fun D σ H ⟨μ0, H0, μ, hp, σS, e, n, o, q⟩ => gD.here (toM.outr q) n o⟩
theorem ns_pass : NS X C E (.Pass pos) (toN fPass) := ⟨toN.mo, PS.imp ps_pass fun D σ H ⟨μ0, H0, μ, hp, σS, e, n, o, q⟩ => gD.here (toM.outr q) n o⟩
theorem ns_brk : NS X C E (.Break pos) (toN fBrk) := ⟨toN.mo, PS.imp ps_break fun D σ H ⟨μ0, H0, μ, hp, σS, e, n, o, q⟩ => (show gN C μ0 H0 μ H D.bk σS hp from toM.outr q) μ H σ n.up n.us n.hr o⟩
theorem ns_cnt : NS X C E (.Continue pos) (toN fCnt) := ⟨toN.mo, PS.imp ps_continue fun D σ H ⟨μ0, H0, μ, hp, σS, e, n, o, q⟩ => (show gN C μ0 H0 μ H D.ct σS hp from toM.outr q) μ H σ n.up n.us n.hr o⟩
theorem ns_doc {z : Str} {j : Nat} {pos' : Pos} : NS X C E (.Expr (.Constant (.str z) j pos) pos') (toN fPass) := ⟨toN.mo, PS.imp ps_doc fun D σ H ⟨μ0, H0, μ, hp, σS, e, n, o, q⟩ => gD.here (toM.outr q) n o⟩
theorem nss_one (h : NS X C E st (toN fa)) : NSs X C E [st] (toN fa) := ⟨toN.mo, pss_one h.ps⟩
theorem nss_oneW {w : WN} (h : NS X C E st w) : NSs X C E [st] w := ⟨h.mo, pss_one h.ps⟩
theorem nss_consW {w w2 : WN} (h : NS X C E st w) (h2 : NSs X C E sts w2) : NSs X C E (st :: sts) (wnSeq w w2) := by
  refine ⟨fun σ hp e D D' l q => h.mo σ hp e { D with nx := fun σ h => w2 σ h e D } { D' with nx := fun σ h => w2 σ h e D' } ⟨fun σ h q => h2.mo _ _ _ _ _ l q, l.rt, l.bk, l.ct⟩ q, PSs.imp (pss_cons h.ps h2.ps) fun D σ H ⟨μ0, H0, μ, hp, σS, e, n, o, q⟩ => ?_⟩
  refine ⟨μ0, H0, μ, hp, σS, e, n, o, h.mo σS hp e { gD C μ0 H0 μ H D with nx := fun σ h => w2 σ h e (gD C μ0 H0 μ H D) } _ ⟨fun σ1 h1 q1 μ1 H1 σ2 u1 v1 r1 o1 => ?_, fun _ _ q => q, fun _ _ q => q, fun _ _ q => q⟩ q⟩
  exact ⟨μ0, H0, μ1, h1, σ1, e, (n.next u1 v1 r1).here, o1, h2.mo _ _ _ _ _ (gD.later v1) q1⟩
theorem NSs.imp {w w' : WN} {x : List Stmt} (h : NSs X C E x w) (m : MoN w') (i : ∀ σ hp e D, w' σ hp e D → w σ hp e D) : NSs X C E x w' := ⟨m, PSs.imp h.ps fun D σ H ⟨μ0, H0, μ, hp, σS, e, n, o, q⟩ => ⟨μ0, H0, μ, hp, σS, e, n, o, i _ _ _ _ q⟩⟩
theorem NS.imp {w w' : WN} {x : Stmt} (h : NS X C E x w) (m : MoN w') (i : ∀ σ hp e D, w' σ hp e D → w σ hp e D) : NS X C E x w' := ⟨m, PS.imp h.ps fun D σ H ⟨μ0, H0, μ, hp, σS, e, n, o, q⟩ => ⟨μ0, H0, μ, hp, σS, e, n, o, i _ _ _ _ q⟩⟩
theorem nss_cons (h : NS X C E st (toN fa)) (h2 : NSs X C E sts (toN fb)) : NSs X C E (st :: sts) (toN (fSeq fa fb)) :=
  (nss_consW h h2).imp toN.mo fun σ hp e D q => (toM.bind q).mono fun o h q => by
    cases o with
    | nx σ' => exact q
    | rt p => exact (toM.ret q : (Out.rt p).to D h)
    | bk σ' => exact (toM.ret q : (Out.bk σ').to D h)
    | ct σ' => exact (toM.ret q : (Out.ct σ').to D h)
theorem ns_if (ht : RT X C E t (toT ta)) (ha : NSs X C E sts (toN fa)) (hb : NSs X C E s2 (toN fb)) : NS X C E (.If t sts s2 pos) (toN (fIf R ta fa fb)) :=
  ⟨toN.mo, PS.imp (ps_if (pt_locks ht.pt) ha.ps hb.ps) fun D σ H ⟨μ0, H0, μ, hp, σS, e, n, o, q⟩ => n_test n o (toM.bind q) fun b h μ1 H1 q1 n1 o1 =>
    ite_mono (fun q => ⟨μ0, H0, μ1, h, σS, e, n1.here, o1, toN.later n1.us q⟩) (fun q => ⟨μ0, H0, μ1, h, σS, e, n1.here, o1, toN.later n1.us q⟩) (toM.ite q1)⟩
theorem ns_do (h : RE X C E x (toE a)) (hs : swapsWith x none pos.line X.env = pure false := by rfl) : NS X C E (.Expr x pos) (toN (fDo R a)) :=
  ⟨toN.mo, PS.imp (ps_expr (pe_locks h.pe) hs) fun D σ H ⟨μ0, H0, μ, hp, σS, e, n, o, q⟩ => n_expr n o (toM.bind q) fun p h μ1 H1 v q1 n1 o1 r1 => gD.here (toM.outr q1) n1 o1⟩
theorem ns_ret (h : RE X C E x (toE a)) : NS X C E (.Return (some x) pos) (toN (fRet R a)) :=
  ⟨toN.mo, PS.imp (ps_ret (pe_locks h.pe)) fun D σ H ⟨μ0, H0, μ, hp, σS, e, n, o, q⟩ => n_expr n o (toM.bind q) fun p h μ1 H1 v q1 n1 o1 r1 => (show fE C μ0 H0 D.rt p h from toM.outr q1) μ1 H1 v n1.up n1.hr r1⟩
theorem ns_retN : NS X C E (.Return none pos) (toN fRetN) :=
  ⟨toN.mo, PS.imp ps_retN fun D σ H ⟨μ0, H0, μ, hp, σS, e, n, o, q⟩ => (show fE C μ0 H0 D.rt .non hp from toM.outr q) μ H .non n.up n.hr .non'⟩
/-- name = e -/
theorem ns_set {i : Nat} {y : Str} {pos' : Pos} (hN : X.N.Nodup) (hi : X.N[i]? = some y) (hx : Loc X.env.scope y) (hf : X.fn y = true ∨ X.env.scope.names.lookup y = some .local) (h : RE X C E x (toE a)) (hs : swapsWith x (some (.Name y pos')) pos.line X.env = pure false) : NS X C E (.Assign [.Name y pos'] x pos) (toN (fAsg R (.nm i) a)) :=
  ⟨toN.mo, PS.imp (ps_set hN hi hx (pe_locks h.pe) hs hf) fun D σ H ⟨μ0, H0, μ, hp, σS, e, n, o, q⟩ => n_expr n o (toM.bind q) fun p h μ1 H1 v q1 n1 o1 r1 => by
    obtain ⟨σ', e1, q1⟩ := toM.ofO (toM.bind q1)
    cases e1
    exact gD.here (toM.outr q1) n1 (o1.set r1)⟩
/-- (names) = e, e no display -/
theorem ns_unp {tg : Expr} {g : Tg} (hK : X.K = C.K) (hc : X.calm = true) (hN : X.N.Nodup) (hg : TgIs X tg g) (h : RE X C E x (toE a)) (hs : swapsWithSole [tg] x pos.line X.env = pure false) (hw : swappedStores [tg] x X.env = pure none) (h1 : (assignEach [tg] X.env).map (·.2) = [assign tg X.env]) : NS X C E (.Assign [tg] x pos) (toN (fAsg R g a)) :=
  ⟨toN.mo, PS.imp (ps_asg (pe_locks h.pe) (hg.pg hc hN) hs hw h1) fun D σ H ⟨μ0, H0, μ, hp, σS, e, n, o, q⟩ => n_expr n o (toM.bind q) fun p h μ1 H1 v q1 n1 o1 r1 => by
    obtain ⟨σ', e1, q1⟩ := toM.ofO (toM.bind q1)
    rw [hK]
    exact Tg.okS r1 o1 e1 fun σ2 o2 => gD.here (toM.outr q1) n1 o2⟩
theorem ns_raise {y : Expr} {p pos2 : Pos} {k : Nat} {cn : Str} {B fI : Addr} (hK : X.K = C.K) (hc : X.calm = true) (T : RX.ErrTxt X.K cn (fldOf cn) (He.ga C.K cn) B fI) (gC : X.mg cn = some (.ref (He.ga C.K cn))) (hr : Room k X.A) (tk : Takes X (fun cls d _ H => E cls d H))
    (hg : Gl X cn) (ha : RE X C E y (toE a)) (hdb : (cn == ("__debug__" : Str)) = false) (he : starEach [y] X.env = (false, eval y X.env) :: starEach [] X.env) (hpl : (backTo pos (starEach [] X.env)).any (·.1) = false) :
    NS X C E (.Raise (some (.Call (.Name cn p) [y] [] pos)) none pos2) (toN (fRaise R cn a)) := by
  have hA : RA X C E [y] (toA (fCons a fNil)) := (ra_cons ha (ra_nil.imp toA.mo fun _ _ _ _ q => im_nil q) he).imp toA.mo fun _ _ _ _ q => im_cons q
  refine ⟨toN.mo, PS.imp (ps_raise hc tk (RX.pmk_err T hr (pa_locks hA.pa) hg gC hdb he hpl)) fun D σ H ⟨μ0, H0, μ, hp, σS, e, n, o, q⟩ => ?_⟩
  refine n_args (R := R) (Q := fun ps h => ∃ p, ps = [p] ∧ e cn p h) n o ?_ fun ps h1 μ1 H1 vs ⟨p, e1, q1⟩ n1 o1 r1 => ?_
  · exact toM_one q
  · subst e1
    obtain ⟨v, rfl, rv⟩ := r1.one
    refine ⟨v, rfl, fun d hd => ?_⟩
    have u2 : Up μ1 H1 μ1 (upd H1 d (.xd [(fldOf cn, v)])) := Up.fresh hd
    exact n1.eok cn p h1 μ1 _ d v (n1.up.trans u2) (n1.hr.fresh hd) upd_same (RV.up u2 _ _ rv) q1
end
end RF

set_option Elab.async false
set_option linter.all false
set_option maxRecDepth 100000
set_option maxHeartbeats 1000000
/-! Part NB3: loops; things made and changed. -/
namespace RF
open PySem PySem.Spec L2
def forF (t : Tg) (b : FS) : List PV → SS → M Out
  | [], σ => M.ret (.nx σ)
  | p :: ps, σ => (M.ofO (t.goS p σ)).bind fun σ' => (b σ').bind fun o => match o with
    | .nx σ2 => forF t b ps σ2
    | .ct σ2 => forF t b ps σ2
    | .bk σ2 => M.ret (.nx σ2)
    | .rt p => M.ret (.rt p)
def fFor (R : List Nat) (t : Tg) (it : FA) (b : FS) : FS := fun σ => (it (bor R 0 σ)).bind fun ps => forF t b ps (lck R 0 σ)
def whlF (R : List Nat) (t : FT) (b : FS) : Nat → SS → M Out
  | 0, _ => M.bad
  | n + 1, σ => (t (bor R 0 σ)).bind fun k => if k = true then (b σ).bind fun o => match o with
    | .nx σ2 => whlF R t b n σ2
    | .ct σ2 => whlF R t b n σ2
    | .bk σ2 => M.ret (.nx σ2)
    | .rt p => M.ret (.rt p)
    else M.ret (.nx σ)
def fWhl (n : Nat) (R : List Nat) (t : FT) (b : FS) : FS := whlF R t b n
section
variable {X : Cx} {C : Cfg} {E : XK} {tg iter t : Expr} {sts : List Stmt} {g : Tg} {it : FA} {ft : FT} {fb : FS} {pos : Pos} {R : List Nat}
theorem ns_for (hK : X.K = C.K) (hp0 : PassesOwn (model X.prog X.w) X.A X.env X.xe) (hc : X.calm = true) (hN : X.N.Nodup) (hi : RI X C E tg iter (toI it)) (hg : TgIs X tg g) (hb : NSs X C E sts (toN fb)) (hs : ∀ x, foldedSetIterable iter X.env x = pure x) : NS X C E (.For tg iter sts [] pos) (toN (fFor R g it fb)) := by
  refine ⟨toN.mo, PS.imp (ps_locks (ps_for hp0 hc hi.pi (hg.pg hc hN) hb.ps hs)) fun D σ H ⟨μ0, H0, μ, hp, σS, e, n, o, q⟩ => ?_⟩
  obtain ⟨l, gg, nd, hl⟩ := Gath.start (gath o R)
  refine ⟨l, nd, hl, fun H' hk => ?_⟩
  have kk := gg.lk (μ0 := μ0) hk
  have u0 := gg.up kk n.up
  refine ⟨μ, hp, bor R 0 σS, e, ⟨kk.hr _ n.hr, n.eok.up u0⟩, gg.sr kk o, toM.mono (fun ps h1 q1 hl1 μ1 H1 u1 r1 J W => ?_) (toM.bind q)⟩
  have o1 := gg.locked kk o u1
  have n1 : NAt C E μ0 H0 μ H μ1 H1 h1 e := n.next (u0.trans u1) (kk.u0.trans u1.weak) r1
  refine ⟨fun i m σ2 H2 => i ≤ ps.length ∧ m = ps.length - i ∧ ∃ μ2 hp2 σS2, Up0 μ1 H1 μ2 H2 ∧ NAt C E μ0 H0 μ H μ2 H2 hp2 e ∧ OR C H0 μ2 H2 σS2 σ2 ∧ toM (forF g fb (ps.drop i) σS2) hp2 e (Out.to (gD C μ0 H0 μ H D)), ⟨_, Nat.zero_le _, rfl, μ1, h1, _, Up0.refl, n1, o1, q1⟩, ?_⟩
  rintro i m σ2 H2 ⟨hi2, em, μ2, hp2, σS2, u2, n2, o2, q2⟩
  by_cases hl : i < ps.length
  · refine .inr ⟨W.go μ2 H2 i u2 hl, fun σ' H' => ∃ μ3 hp3 σS3, Up0 μ1 H1 μ3 H' ∧ NAt C E μ0 H0 μ H μ3 H' hp3 e ∧ OR C H0 μ3 H' σS3 σ' ∧ toM (forF g fb (ps.drop (i + 1)) σS3) hp3 e (Out.to (gD C μ0 H0 μ H D)), fun σ' H' hN' => ⟨ps.length - (i + 1), by omega, hl, rfl, hN'⟩, fun x H' y => ?_⟩
    rw [List.drop_eq_getElem_cons hl] at q2
    obtain ⟨σ', e3, q3⟩ := toM.ofO (toM.bind q2)
    obtain ⟨rv, u3, keep⟩ := W.yl μ2 H2 i x H' _ u2 (List.getElem?_eq_getElem hl) y
    rw [hK]
    have n3 : NAt C E μ0 H0 μ H μ2 H' hp2 e := n2.next (n2.up.trans u3) u3.weak (keep _ n2.hr)
    have u23 : Up0 μ1 H1 μ2 H' := ⟨fun n a e => u3.ad n a (u2.ad n a e), fun a w s e => u3.st a w s (u2.st a w s e)⟩
    refine Tg.okS rv (o2.up u3) e3 fun σ4 o4 => ?_
    refine ⟨μ0, H0, μ2, hp2, σ', e, n3.here, o4, toM.mono (fun out h5 q5 => ?_) (toM.bind q3)⟩
    have go : ∀ σ5, toM (forF g fb (ps.drop (i + 1)) σ5) h5 e (Out.to (gD C μ0 H0 μ H D)) → gN C μ0 H0 μ2 H' (fun σ' H' => ∃ μ3 hp3 σS3, Up0 μ1 H1 μ3 H' ∧ NAt C E μ0 H0 μ H μ3 H' hp3 e ∧ OR C H0 μ3 H' σS3 σ' ∧ toM (forF g fb (ps.drop (i + 1)) σS3) hp3 e (Out.to (gD C μ0 H0 μ H D))) σ5 h5 :=
      fun σ5 q5 μ5 H5 σ6 u5 v5 r5 o5 => ⟨μ5, h5, σ5, u23.trans v5, n3.next u5 v5 r5, o5, q5⟩
    cases out with
    | nx σ5 => exact go σ5 q5
    | ct σ5 => exact go σ5 q5
    | rt p => exact (toM.ret q5 : (Out.rt p).to _ h5)
    | bk σ5 => exact fun μ5 H5 σ6 u5 v5 r5 o5 => (toM.ret q5 : (Out.nx σ5).to (gD C μ0 H0 μ H D) h5) μ5 H5 σ6 u5 ((n3.us.trans v5)) r5 o5
  · have e1 : ps.drop i = [] := List.drop_of_length_le (by omega)
    rw [e1] at q2
    exact .inl ⟨W.st μ2 H2 i u2 (by omega), gD.here (toM.outr q2) n2 o2⟩
theorem ns_whl {N : Nat} (hp0 : PassesOwn (model X.prog X.w) X.A X.env X.xe) (ht : RT X C E t (toT ft)) (hb : NSs X C E sts (toN fb)) : NS X C E (.While t sts [] pos) (toN (fWhl N R ft fb)) := by
  refine ⟨toN.mo, PS.imp (ps_while hp0 (pt_locks ht.pt) hb.ps) fun D σ H ⟨μ0, H0, μ, hp, σS, e, n, o, q⟩ => ?_⟩
  refine ⟨fun m σ2 H2 => ∃ μ2 hp2 σS2, NAt C E μ0 H0 μ H μ2 H2 hp2 e ∧ OR C H0 μ2 H2 σS2 σ2 ∧ toM (whlF R ft fb m σS2) hp2 e (Out.to (gD C μ0 H0 μ H D)), ⟨N, μ, hp, σS, n, o, q⟩, ?_⟩
  rintro m σ2 H2 ⟨μ2, hp2, σS2, n2, o2, q2⟩
  cases m with
  | zero => exact (toM.nobad q2).elim
  | succ m =>
    refine n_test n2 o2 (toM.bind q2) fun c h3 μ3 H3 q3 n3 o3 => ite_mono (fun q4 => ?_) (fun q4 => gD.here (toM.outr q4 : (Out.nx σS2).to (gD C μ0 H0 μ H D) h3) n3 o3) (toM.ite q3)
    refine ⟨fun σ' H' => ∃ μ4 hp4 σS4, NAt C E μ0 H0 μ H μ4 H' hp4 e ∧ OR C H0 μ4 H' σS4 σ' ∧ toM (whlF R ft fb m σS4) hp4 e (Out.to (gD C μ0 H0 μ H D)), fun σ' H' hN' => ⟨m, Nat.lt_succ_self m, hN'⟩, ?_⟩
    refine ⟨μ0, H0, μ3, h3, σS2, e, n3.here, o3, toM.mono (fun out h5 q5 => ?_) (toM.bind q4)⟩
    have go : ∀ σ5, toM (whlF R ft fb m σ5) h5 e (Out.to (gD C μ0 H0 μ H D)) → gN C μ0 H0 μ3 H3 (fun σ' H' => ∃ μ4 hp4 σS4, NAt C E μ0 H0 μ H μ4 H' hp4 e ∧ OR C H0 μ4 H' σS4 σ' ∧ toM (whlF R ft fb m σS4) hp4 e (Out.to (gD C μ0 H0 μ H D))) σ5 h5 :=
      fun σ5 q5 μ5 H5 σ6 u5 v5 r5 o5 => ⟨μ5, h5, σ5, n3.next u5 v5 r5, o5, q5⟩
    cases out with
    | nx σ5 => exact go σ5 q5
    | ct σ5 => exact go σ5 q5
    | rt p => exact (toM.ret q5 : (Out.rt p).to _ h5)
    | bk σ5 => exact fun μ5 H5 σ6 u5 v5 r5 o5 => (toM.ret q5 : (Out.nx σ5).to (gD C μ0 H0 μ H D) h5) μ5 H5 σ6 u5 (n3.us.trans v5) r5 o5
end
end RF

set_option Elab.async false
set_option linter.all false
set_option maxRecDepth 100000
set_option maxHeartbeats 1000000
/-! Part NB4: new things, owned by a slot. -/
namespace RF
open PySem PySem.Spec L2
abbrev FM := SI → M Cell
/-- the end of what makes a new thing -/
def MkE (C : Cfg) (μ : List Addr) (H : Hp) (Q : VK) (c : Cell) (hp' : PH) : Prop := ∀ μ' H' a, Up μ H μ' H' → HR C μ' H' hp' → CellR C μ' H' a c → a ∉ μ' → Fr H a → Q (.ref a) H'
def tMk (C : Cfg) (E : XK) (m : FM) : TE := fun σ H Q => ∃ μ hp σI e, At C E μ H hp e ∧ SR C μ H σI σ ∧ toM (m σI) hp e (MkE C μ H Q)
structure RM (X : Cx) (C : Cfg) (E : XK) (x : Expr) (m : FM) : Prop where
  pe : PE X x (tMk C E m)
def fmL (f : FA) : FM := fun σ => (f σ).bind fun ps => if ps.length ≤ 16777216 then M.ret (.lst ps) else M.bad
def fmFn (g : PV → Option Cell) (f : FE) : FM := fun σ => (f σ).bind fun p => M.ofO (g p)
def fmLc (tg : Tg) (vs : List Nat) (it : FA) (tt : FT) (el : FE) : FM := fun σ => (it σ).bind fun ps => (compF tg tt el (wpI σ vs) ps []).bind fun qs => M.ret (.lst qs)
def fmDc (tg : Tg) (vs : List Nat) (it : FA) (tt : FT) (ek ev : FE) : FM := fun σ => (it σ).bind fun ps => (compDF tg tt ek ev (wpI σ vs) ps []).bind fun qs => M.ret (.dct qs)
def fmOp (g : PV → PV → Option Cell) (a b : FE) : FM := fun σ => (a σ).bind fun x => (b σ).bind fun y => M.ofO (g x y)
def fmRep (f : FA) (b : FE) : FM := fun σ => (f σ).bind fun ps => if ps.length ≤ 16777216 then (b σ).bind fun y => match y with
  | .int k => if -1000000000 ≤ k ∧ ps.length * k.toNat ≤ 16777216 ∧ k ≤ 1000000000 then M.ret (.lst (List.replicate k.toNat ps).flatten) else M.bad
  | _ => M.bad
  else M.bad
def fmD0 : FM := fun _ => M.ret (.dct [])
def listC (p : PV) : Option Cell := (seqF p).map .lst
def catC : PV → PV → Option Cell
  | .lst a, .lst b => if a.length + b.length ≤ 16777216 then some (.lst (a ++ b)) else none
  | _, _ => none
def cutC (p : PV) (lo hi : Option Int) : Option Cell := match p with
  | .lst ps => some (.lst (cutP ps lo hi))
  | _ => none
def fmSl (a : FE) (lo hi : FO) : FM := fun σ => (a σ).bind fun p => (lo σ).bind fun l => (hi σ).bind fun u => M.ofO (cutC p l u)
section
variable {C : Cfg} {E : XK} {μ μ' μ1 : List Addr} {H H' H1 : Hp} {hp h1 : PH} {e : EI} {Q : VK}
/-- a thing that just came to be -/
theorem MkE.new {c : Cell} {l : Addr} {o : HO} (q : MkE C μ H Q c h1) (u : Up μ H μ1 H1) (r : HR C μ1 H1 h1) (np : H1 l = none) (lo : lsd o = true) (hc : ∀ μ' H', Up0 μ1 H1 μ' H' → cellO C μ' H' c o) : Q (.ref l) (upd H1 l o) := by
  have u2 : Up μ1 H1 μ1 (upd H1 l o) := Up.fresh np
  exact q μ1 _ l (u.trans u2) (r.fresh np) ((hc _ _ u2.weak).cell upd_same) (r.notin np) (u.fr (fr_none np))
theorem cellO.ofL {ps : List PV} {vs : List V} (r : RVs C.K μ H ps vs) : ∀ μ' H', Up0 μ H μ' H' → cellO C μ' H' (.lst ps) (.lst vs) := fun _ _ u => ⟨vs, rfl, RVs.up0 u _ _ r⟩
end
section
variable {X : Cx} {C : Cfg} {E : XK} {x a b : Expr} {es : List Expr} {f : FA} {fa fb : FE} {pos p : Pos}
theorem rm_lst (ha : RA X C E es (toA f)) : RM X C E (.List es pos) (fmL f) := ⟨PE.imp (pe_lst ha.pa) fun σ H Q ⟨μ, hp, σI, e, A, s, q⟩ =>
  tA.go ha.mo A s (toM.bind q) fun ps h1 μ1 H1 vs q1 u1 A1 s1 r1 => by
    split at q1
    · rename_i l
      exact ⟨by rw [r1.length, sl]; exact l, fun p np => (toM.ret q1 : MkE C μ H Q (.lst ps) h1).new u1 A1.hr np rfl (cellO.ofL r1)⟩
    · exact (toM.nobad q1).elim⟩
theorem rm_d0 : RM X C E (.Dict [] [] pos) fmD0 := ⟨PE.imp pe_dnewK fun σ H Q ⟨μ, hp, σI, e, A, s, q⟩ p np => (toM.ret q : MkE C μ H Q (.dct []) hp).new .refl A.hr np rfl fun _ _ _ => ⟨[], rfl, .nil⟩⟩
theorem rm_list (hm : X.mg "list" = none) (ha : RE X C E a (toE fa)) (hK : X.K = C.K) (gl : Gl X "list") (he : starEach [a] X.env = (false, eval a X.env) :: starEach [] X.env) (hpl : (backTo pos (starEach [] X.env)).any (·.1) = false) : RM X C E (.Call (.Name "list" p) [a] [] pos) (fmFn listC fa) :=
  ⟨PE.imp (pe_callTy (r := rLst C.K) (by rw [← hK]; exact call_list_of) gl hm (by rfl) (pa_cons ha.pe pa_nil he) (by decide) (by decide) he hpl) fun σ H Q ⟨μ, hp, σI, e, A, s, q⟩ =>
    tE.go ha.mo A s (toM.bind q) fun p h1 μ1 H1 v q1 u1 A1 s1 r1 => by
      obtain ⟨c, e1, q1⟩ := toM.ofO q1
      obtain ⟨ps, e2, rfl⟩ := Option.map_eq_some_iff.mp e1
      obtain ⟨a, ws, rfl, h2, h3⟩ := seqP_at A1.hr r1 (seqF_P e2)
      exact ⟨a, ws, rfl, h2, fun l np => (q1 : MkE C μ H Q _ h1).new u1 A1.hr np rfl (cellO.ofL h3)⟩⟩
theorem rm_cat (ha : RE X C E a (toE fa)) (hb : RE X C E b (toE fb)) : RM X C E (.BinOp a .Add b pos) (fmOp catC fa fb) :=
  ⟨PE.imp (pe_op op_catF ha.pe hb.pe) fun σ H Q ⟨μ, hp, σI, e, A, s, q⟩ =>
    tE.go ha.mo A s (toM.bind q) fun p h1 μ1 H1 v q1 u1 A1 s1 r1 => tE.go hb.mo A1 s1 (toM.bind q1) fun p2 h2 μ2 H2 v2 q2 u2 A2 s2 r2 => by
      obtain ⟨c, e1, q2⟩ := toM.ofO q2
      unfold catC at e1
      split at e1
      · split at e1
        · rename_i xs ys l
          cases e1
          obtain ⟨x, vs, rfl, hx, rx⟩ := asL_rd A2.hr (RV.up u2 _ _ r1) rfl
          obtain ⟨y, ws, rfl, hy, ry⟩ := asL_rd A2.hr r2 rfl
          exact ⟨x, y, vs, ws, rfl, rfl, hx, hy, by rw [rx.length, ry.length, sl]; exact l, fun p np => (q2 : MkE C μ H Q _ h2).new (u1.trans u2) A2.hr np rfl (cellO.ofL (rx.append ry))⟩
        · cases e1
      · cases e1⟩
theorem rm_sl {lo hi : Option Expr} {fl fh : FO} {p2 : Pos} (hK : X.K = C.K) (ha : RE X C E x (toE fa)) (hl : RO X C E lo (toO fl)) (hh : RO X C E hi (toO fh)) : RM X C E (.Subscript x (.Slice lo hi none p2) pos) (fmSl fa fl fh) :=
  ⟨PE.imp (pe_slice sl_list ha.pe hl.po hh.po) fun σ H Q ⟨μ, hp, σI, e, A, s, q⟩ => by
    refine tE.go ha.mo A s (toM.bind q) fun p h1 μ1 H1 v q1 u1 A1 s1 r1 => ?_
    refine ⟨μ1, h1, σI, e, A1, s1, toM.mono (fun l h2 q2 μ2 H2 u2 r2 => ?_) (toM.bind q1)⟩
    have A2 := A1.next u2 r2
    refine ⟨μ2, h2, σI, e, A2, s1.up u2, toM.mono (fun k h3 q3 μ3 H3 u3 r3 => ?_) (toM.bind q2)⟩
    obtain ⟨c, e1, q3⟩ := toM.ofO q3
    have rv := RV.up (u2.trans u3) _ _ r1
    cases p with
    | lst ps =>
      cases e1
      obtain ⟨a, vs, rfl, hs, rs⟩ := rv.lstI
      refine ⟨a, vs, rfl, by rw [hK]; exact hs.sq, fun p np => (q3 : MkE C μ H Q _ h3).new ((u1.trans u2).trans u3) r3 np rfl (cellO.ofL (cut_rvs rs l k))⟩
    | _ => cases e1⟩
/-- [..] * k -/
theorem rm_rep {pos2 : Pos} (ha : RA X C E es (toA f)) (hb : RE X C E b (toE fb)) : RM X C E (.BinOp (.List es pos2) .Mult b pos) (fmRep f fb) :=
  ⟨PE.imp (pe_op op_rep (pe_lst ha.pa) hb.pe) fun σ H Q ⟨μ, hp, σI, e, A, s, q⟩ =>
    tA.go ha.mo A s (toM.bind q) fun ps h1 μ1 H1 vs q1 u1 A1 s1 r1 => by
      split at q1
      · rename_i l
        refine ⟨by rw [r1.length, sl]; exact l, fun p np => ?_⟩
        have u2 : Up μ1 H1 μ1 (upd H1 p (.lst vs)) := Up.fresh np
        have A2 := A1.next u2 (A1.hr.fresh np)
        refine tE.go hb.mo A2 (s1.up u2) (toM.bind q1) fun y h3 μ3 H3 w q3 u3 A3 s3 r3 => ?_
        cases y with
        | int k =>
          simp only at q3
          split at q3
          · rename_i l2
            obtain ⟨e3, n3⟩ := u3.hid p _ rfl upd_same (A1.hr.notin np)
            have rv := RVs.up (u2.trans u3) _ _ r1
            exact ⟨p, k, vs, rfl, r3.intI, e3, by omega, by omega, by rw [rv.length, sl]; exact l2.2.1, fun p np => (toM.ret q3 : MkE C μ H Q _ h3).new ((u1.trans u2).trans u3) A3.hr np rfl (cellO.ofL (rv.rep _))⟩
          · exact (toM.nobad q3).elim
        | _ => exact (toM.nobad q3).elim
      · exact (toM.nobad q1).elim⟩
end
section
variable {X : Cx} {C : Cfg} {E : XK} {tge iter elt ke ve : Expr} {ifs : List Expr} {scope : Scope} {own : List (Str × Nat)} {tg : Tg} {it : FA} {tt : FT} {el ek ev : FE} {pos : Pos}
theorem rm_lc (hK : X.K = C.K) (hc : X.calm = true) (hN : X.N.Nodup) (hi : RI X C E tge iter (toI it)) (ok : blkC X.N X.env.scope scope own = true) (hv : ∀ i ∈ tg.ix, i ∈ own.map (·.2))
    (hg : ∀ s H Ca cl fp, TgIs (X.blk s H scope (compEnvC scope cl Ca X.env) fp) tge tg) (ht : ∀ s H Ca cl fp, RTs (X.blk s H scope (compEnvC scope cl Ca X.env) fp) C E0 ifs (toT tt))
    (he : ∀ s H Ca cl fp, RE (X.blk s H scope (compEnvC scope cl Ca X.env) fp) C E0 elt (toE el)) (hs : ∀ x, foldedSetIterable iter X.env x = pure x) : RM X C E (.ListComp elt [⟨tge, iter, ifs, 0⟩] scope pos) (fmLc tg (own.map (·.2)) it tt el) := by
  refine ⟨PE.imp (pe_lc (g := tg.g X.K) hc hN hi.pi (blkOk_by ok) (fun s H Ca cl fp => TgIs.pg (X := X.blk s H scope (compEnvC scope cl Ca X.env) fp) hc hN (hg s H Ca cl fp)) (fun s H Ca cl fp => (ht s H Ca cl fp).pts) (fun s H Ca cl fp => (he s H Ca cl fp).pe) hs) fun σ H Q ⟨μ, hp, σI, e, A, s, q⟩ => ?_⟩
  show tLc _ (tg.g X.K) _ _ _ _ _ _
  rw [hK]
  refine lc_go (R := fun qs h2 => MkE C μ H Q (.lst qs) h2) hi.mo toT.mo toE.mo hv A s ?_ fun qs h2 μ2 H2 D ys q2 u2 r2 h0 eD nD rv => q2 μ2 H2 D u2 r2 ⟨ys, eD, rv⟩ nD h0
  exact (toM.bind q).mono fun ps h q l => compW.mo (toT.mo) (toE.mo) (fun qs h2 q => toM.ret q) _ _ _ (im_comp ps [] h (by simpa using l) (toM.bind q))
end
/-! ### a slot gets a new thing -/
def fOwn (R : List Nat) (i : Nat) (m : FM) : FS := fun σ => (m (bor R 0 σ)).bind fun c => M.ret (.nx ((rel R (flC c) σ).set i (some (.own c))))
section
variable {X : Cx} {C : Cfg} {E : XK} {μ0 μs μ : List Addr} {H0 Hs H : Hp} {σS : SS} {σ : St} {hp : PH} {e : EI} {R : List Nat} {x : Expr}
theorem CellR.flat {μ : List Addr} {H H' : Hp} {a : Addr} {c : Cell} (h1 : ∀ ps vs, nls ps = true → RVs C.K μ H ps vs → RVs C.K μ H' ps vs) (h2 : ∀ p v, nl p = true → RV C.K μ H p v → RV C.K μ H' p v) (f : flC c = true) (e : H' a = H a) (h : CellR C μ H a c) : CellR C μ H' a c := by
  cases c with
  | lst ps => obtain ⟨vs, k1, k2⟩ := h; exact ⟨vs, e.trans k1, h1 _ _ f k2⟩
  | dct ks =>
    obtain ⟨ws, k1, k2⟩ := h
    refine ⟨ws, e.trans k1, ?_⟩
    clear k1
    induction ks generalizing ws with
    | nil => simpa only [RKs] using k2
    | cons kv ks ih =>
      obtain ⟨k, p⟩ := kv
      simp only [flC, List.all_cons, Bool.and_eq_true] at f
      simp only [RKs] at k2 ⊢
      obtain ⟨w, ws', rfl, r1, r2⟩ := k2
      exact ⟨w, ws', rfl, h2 _ _ f.1 r1, ih f.2 ws' r2⟩
theorem n_fresh {m : FM} {Q : Cell → PH → Prop} {K : VK} (n : NAt C E μ0 H0 μs Hs μ H hp e) (o : OR C H0 μ H σS σ) (q : toM (m (bor R 0 σS)) hp e Q)
    (k : ∀ c h μ' H' a, Q c h → NAt C E μ0 H0 μs Hs μ' H' h e → OR C H0 μ' H' (rel R (flC c) σS) σ → CellR C μ' H' a c → a ∉ μ' → Fr H0 a → (∀ (j : Nat) (d : Cell), (rel R (flC c) σS)[j]? = some (some (.own d)) → σ[j]? ≠ some (some (.ref a))) → K (.ref a) H') : tLocks (tMk C E m) σ H K := by
  obtain ⟨l, g, nd, hl⟩ := Gath.start (gath o R)
  refine ⟨l, nd, hl, fun H' hk => ?_⟩
  have kk := g.lk (μ0 := μ0) hk
  have u0 := g.up kk n.up
  refine ⟨μ, hp, bor R 0 σS, e, ⟨kk.hr _ n.hr, n.eok.up u0⟩, g.sr kk o, toM.mono (fun c h q μ1 H1 a u1 r1 ca na fa => ?_) q⟩
  have kq := k c h
  rw [rel_eq] at kq
  have ao : ∀ (j : Nat) (d : Cell), σS[j]? = some (some (.own d)) → σ[j]? ≠ some (some (.ref a)) := fun j d hj hr => by
    obtain ⟨b, h1, h2, _⟩ := o.own j d hj
    rw [hr] at h1
    cases h1
    obtain ⟨w, hw, _, _⟩ := h2.lsdU
    by_cases m : a ∈ l.map (·.1)
    · obtain ⟨q, mq, rfl⟩ := List.mem_map.mp m
      obtain ⟨od, hq⟩ := kk.inn q mq
      exact fa (frz_nt hq)
    · refine fa ⟨w, by rw [kk.out a m]; exact hw, ?_⟩
      obtain ⟨w', hw', lw', _⟩ := h2.lsdU
      rw [hw] at hw'
      cases hw'
      exact lsd_nt lw'
  have al : a ∉ l.map (·.1) := fun m => by
    obtain ⟨q, mq, rfl⟩ := List.mem_map.mp m
    obtain ⟨od, hq⟩ := kk.inn q mq
    exact fa (frz_nt hq)
  have f0 : Fr H0 a := u0.fr fa
  by_cases hf : flC c = true
  · obtain ⟨a1, a2, aU, a3, a4, a5, a6⟩ := g.free kk o n.up n.xd u1 r1
    rw [if_pos hf] at kq
    exact .inr ⟨a1, kq _ _ _ q (n.next a2 aU a3) a4 (CellR.flat a6 a5 hf (unlL_out a al) ca) na f0 ao⟩
  · rw [if_neg hf] at kq
    refine .inl (kq _ _ _ q (n.next (u0.trans u1) (kk.u0.trans u1.weak) r1) (g.locked kk o u1) ca na f0 fun j d hj => ?_)
    rcases lck_at _ _ _ _ _ hj with ⟨c', _, _, h3⟩ | ⟨h3, _⟩
    · cases h3
    · exact ao j d h3
theorem ns_own {m : FM} {i : Nat} {y : Str} {pos pos' : Pos} (hN : X.N.Nodup) (hi : X.N[i]? = some y) (hx : Loc X.env.scope y) (hf : X.fn y = true ∨ X.env.scope.names.lookup y = some .local) (h : RM X C E x m) (hs : swapsWith x (some (.Name y pos')) pos.line X.env = pure false) : NS X C E (.Assign [.Name y pos'] x pos) (toN (fOwn R i m)) :=
  ⟨toN.mo, PS.imp (ps_set hN hi hx (pe_locks h.pe) hs hf) fun D σ H ⟨μ0, H0, μ, hp, σS, e, n, o, q⟩ => n_fresh n o (toM.bind q) fun c h μ1 H1 a q1 n1 o1 ca na fa ao =>
    gD.here (toM.outr q1) n1 (o1.setOwn ca na fa fun j d _ hj => ao j d hj)⟩
/-- name = [.. for ..] -/
theorem ns_ownLc {tge iter elt : Expr} {ifs : List Expr} {scope : Scope} {own : List (Str × Nat)} {tg : Tg} {it : FA} {tt : FT} {el : FE} {pos py spos : Pos} {i : Nat} {y : Str} (hK : X.K = C.K) (hc : X.calm = true) (hN : X.N.Nodup) (hy : X.N[i]? = some y) (hyl : X.env.scope.names.lookup y = some .local) (hsw : swapsWith (.ListComp elt [⟨tge, iter, ifs, 0⟩] scope pos) (some (.Name y py)) spos.line X.env = pure true)
    (hi : RI X C E tge iter (toI it)) (ok : blkC X.N X.env.scope scope own = true) (hv : ∀ i ∈ tg.ix, i ∈ own.map (·.2))
    (hg : ∀ s H Ca cl fp, TgIs (X.blk s H scope (compEnvC scope cl Ca X.env) fp) tge tg) (ht : ∀ s H Ca cl fp, RTs (X.blk s H scope (compEnvC scope cl Ca X.env) fp) C E0 ifs (toT tt))
    (he : ∀ s H Ca cl fp, RE (X.blk s H scope (compEnvC scope cl Ca X.env) fp) C E0 elt (toE el)) (hs : ∀ x, foldedSetIterable iter X.env x = pure x) : NS X C E (.Assign [.Name y py] (.ListComp elt [⟨tge, iter, ifs, 0⟩] scope pos) spos) (toN (fOwn [] i (fmLc tg (own.map (·.2)) it tt el))) := by
  refine ⟨toN.mo, PS.imp (ps_setLc (g := tg.g X.K) hc hN hy hyl hsw hi.pi (blkOk_by ok) (fun s H Ca cl fp => TgIs.pg (X := X.blk s H scope (compEnvC scope cl Ca X.env) fp) hc hN (hg s H Ca cl fp)) (fun s H Ca cl fp => (ht s H Ca cl fp).pts) (fun s H Ca cl fp => (he s H Ca cl fp).pe) hs) fun D σ H ⟨μ0, H0, μ, hp, σS, e, n, o, q⟩ => ?_⟩
  show tLc _ (tg.g X.K) _ _ _ _ _ _
  rw [hK]
  refine lc_go (R := fun qs h2 => (Out.nx (σS.set i (some (.own (.lst qs))))).to (gD C μ0 H0 μ H D) h2) hi.mo toT.mo toE.mo hv n.at o.vals ?_ fun qs h2 μ2 H2 Dd ys q2 u2 r2 h0 eD nD rv => ?_
  · unfold toN fOwn fmLc at q
    simp only [M.bind_assoc, M.ret_bind] at q
    exact (toM.bind q).mono fun ps h q l => compW.mo (toT.mo) (toE.mo) (fun qs h2 q => toM.outr q) _ _ _ (im_comp ps [] h (by simpa using l) (toM.bind q))
  · have n2 : NAt C E μ0 H0 μ H μ2 H2 h2 e := n.next (n.up.trans u2) u2.weak r2
    refine gD.here (hp := h2) q2 n2 ((o.up u2).setOwn ⟨ys, eD, rv⟩ nD (n.up.fr h0) fun j d _ hj hr => ?_)
    obtain ⟨b, h1, h3, _⟩ := o.own j d hj
    rw [hr] at h1
    cases h1
    obtain ⟨w, hw, lw, _⟩ := h3.lsdU
    exact h0 ⟨w, hw, lsd_nt lw⟩
end
end RF

set_option Elab.async false
set_option linter.all false
set_option maxRecDepth 100000
set_option maxHeartbeats 1000000
/-! Part NB5: owned things are changed. -/
namespace RF
open PySem PySem.Spec L2
def ownL (σ : SS) (i : Nat) : Option (List PV) := match σ[i]? with
  | some (some (.own (.lst xs))) => some xs
  | _ => none
def ownC (σ : SS) (i : Nat) : Option Cell := match σ[i]? with
  | some (some (.own c)) => some c
  | _ => none
theorem ownL_eq {σ : SS} {i : Nat} {xs : List PV} (h : ownL σ i = some xs) : σ[i]? = some (some (.own (.lst xs))) := by
  unfold ownL at h
  split at h
  · rename_i e; cases h; exact e
  · cases h
theorem ownC_eq {σ : SS} {i : Nat} {c : Cell} (h : ownC σ i = some c) : σ[i]? = some (some (.own c)) := by
  unfold ownC at h
  split at h
  · rename_i e; cases h; exact e
  · cases h
/-- the program's list methods that add to an owned list -/
def fChg (R : List Nat) (i : Nat) (g : List PV → PV → Option (List PV)) (f : FE) : FS := fun σ => match ownL σ i with
  | none => M.bad
  | some _ => (f (bor R 0 σ)).bind fun p => match ownL (rel R (nls [p]) σ) i with
    | none => M.bad
    | some xs => (M.ofO (g xs p)).bind fun ys => M.ret (.nx ((rel R (nls [p]) σ).set i (some (.own (.lst ys)))))
def appG (xs : List PV) (p : PV) : Option (List PV) := if xs.length < 16777216 then some (xs ++ [p]) else none
def extG (xs : List PV) (p : PV) : Option (List PV) := match seqF p with
  | some ys => if xs.length + ys.length ≤ 16777216 then some (xs ++ ys) else none
  | none => none
def rExtendF (K : PySem.W.Frag) : V → List V → Hp → VK → Prop := fun x vs H Q => ∃ l b xs zs, x = .ref l ∧ vs = [.ref b] ∧ H l = some (.lst xs) ∧ (Rd H b (.lst zs) ∨ SqT K H b zs) ∧ xs.length + zs.length ≤ sizeLine ∧ Q .non (upd H l (.lst (xs ++ zs)))
theorem list_extend_tup (l : Addr) (items : Array Value) (n : Nat) (b : Addr) (items2 : Array Value) (n2 : Nat) (dd2 : Option Addr) (sl2 : Array (Option Value)) (hs0 : ¬(!items.isEmpty && Builtin.List.listTooLong (items.size + items2.size)) = true) (hs1 : items.size ≤ sizeLine) (hs2 : items.size + items2.size ≤ sizeLine + 1) :
    Meets (Builtin.«list.extend» ⟨[.ref l, .ref b], []⟩) (fun _ R s => s.heap.get? l = some { cls := .type "list", dict := none, data := .seq items n, slots := #[] } ∧ s.heap.get? b = some { cls := .type "tuple", dict := dd2, data := .seq items2 n2, slots := sl2 } ∧ R (.ok (.ret Value.none)) { s with heap := s.heap.update l (Obj.mapSeq fun x => x ++ items2), toks := s.toks }) :=
  .of_wp fun prog w A R s h => by
    obtain ⟨hp, g, d, tk, os⟩ := s
    obtain ⟨hl, hb, h⟩ := h
    have f2 := PySem.F.sub_tuple_tuple
    have f3 := PySem.F.sub_list_list
    have f4 := PySem.F.sub_tuple_list
    have f5 := PySem.F.sub_list_tuple
    have hz' : (items ++ items2).size ≤ sizeLine + 1 := by rw [Array.size_append]; exact hs2
    wp_walk using (wpAny_updateSeq hl rfl (hz := hs1) (_hz' := hz')), AutoSeq1.wpAny_loadPart' hl, AutoSeq1.wpAny_loadPart' hb
    exact ⟨_, rfl, h⟩
theorem mt_extendF {X : Cx} : MtR X "list.extend" (rExtendF X.K) := by
  intro pins s σ H x vs v us Q I rx rv h
  obtain ⟨l, b, xs, zs, rfl, rfl, hH, hB, hz, q⟩ := h
  cases rx
  obtain ⟨u, rfl, ru⟩ := rv.one
  cases ru
  obtain ⟨z, its, n, r, hl, e⟩ := I.lstM hH
  rcases hB with hB | hB
  · obtain ⟨z2, its2, n2, r2, hl2, e2⟩ := rd_exact I hB
    have hsz : its.toArray.size + its2.toArray.size ≤ sizeLine := by rw [List.size_toArray, List.size_toArray]; omega
    have hlong : ¬ (!its.toArray.isEmpty && Builtin.List.listTooLong (its.toArray.size + its2.toArray.size)) = true := by
      rw [notLongL hsz, Bool.and_false]
      exact Bool.false_ne_true
    refine call_meets PySem.F.slot_list_extend ⟨_, e, rfl⟩ PySem.F.entry_list_extend (PySem.F.args_list_extend_2 _ _)
      (AutoSeq1.list_extend_list_list_0 l its.toArray n b its2.toArray n2 hlong (by rw [List.size_toArray]; omega) (by omega)) ⟨e, e2, ?_⟩
    refine ⟨.non, _, I.lset (its' := its ++ its2) hH e (by simp) (r.append r2) ?_, rfl, q⟩
    rw [List.length_append]
    omega
  · obtain ⟨its2, r2, ⟨o, e2, hc, n2, hd⟩, hz2⟩ := I.tuple hB
    have hl2 := r2.length
    have hsz : its.toArray.size + its2.toArray.size ≤ sizeLine := by rw [List.size_toArray, List.size_toArray]; omega
    have hlong : ¬ (!its.toArray.isEmpty && Builtin.List.listTooLong (its.toArray.size + its2.toArray.size)) = true := by
      rw [notLongL hsz, Bool.and_false]
      exact Bool.false_ne_true
    obtain ⟨cls2, dd2, data2, sl2⟩ := o
    simp only at hc hd
    subst hc hd
    refine call_meets PySem.F.slot_list_extend ⟨_, e, rfl⟩ PySem.F.entry_list_extend (PySem.F.args_list_extend_2 _ _)
      (list_extend_tup l its.toArray n b its2.toArray n2 dd2 sl2 hlong (by rw [List.size_toArray]; omega) (by omega)) ⟨e, e2, ?_⟩
    refine ⟨.non, _, I.lset (its' := its ++ its2) hH e (by simp) (r.append r2) ?_, rfl, q⟩
    rw [List.length_append]
    omega
theorem toM.one {f : FE} {σ : SI} {hp : PH} {e : EI} {Q : PV → PH → Prop} (q : toM (f σ) hp e Q) : toM (fCons f fNil σ) hp e fun ps h => ∃ p, ps = [p] ∧ Q p h := by
  obtain ⟨d, D, h, q⟩ := q
  refine ⟨d, D, h, ?_⟩
  unfold fCons M.bind
  cases e1 : f σ d D with
  | ok p D1 =>
    rw [e1] at q
    exact fun hp' h1 h2 => ⟨p, rfl, q hp' h1 h2⟩
  | err c p D1 =>
    rw [e1] at q
    exact q
  | bad =>
    rw [e1] at q
    exact q
/-- m.append(x), m.extend(x) -/
theorem ns_chg {X : Cx} {C : Cfg} {E : XK} {x : Expr} {f : FE} {R : List Nat} {i : Nat} {g : List PV → PV → Option (List PV)} {r : V → List V → Hp → VK → Prop} {nm name : Str} {p1 apos cpos pos : Pos} {id : String}
    (hr : ∀ μ H a vs xs p v ys Q, RVs C.K μ H xs vs → RV C.K μ H p v → H a = some (.lst vs) → g xs p = some ys → (∀ ws, (∀ μ' H', Up0 μ H μ' H' → RVs C.K μ' H' ys ws) → Q .non (upd H a (.lst ws))) → r (.ref a) [v] H Q)
    (slot : Slot "list" name id) (hty : typeOf (.builtin id) = pure (.type "method_descriptor")) (hm : MtR X id r)
    (hi : X.N[i]? = some nm) (hv : Vis X.env.scope nm) (hd : (nm == ("__debug__" : Str)) = false) (hcd : (nm == ("__classdict__" : Str)) = false) (ha : RE X C E x (toE f)) (he : starEach [x] X.env = (false, eval x X.env) :: starEach [] X.env)
    (hbase : attributeBase (.Name nm p1) name X.env (eval (.Name nm p1) X.env) = eval (.Name nm p1) X.env)
    (hfew : ((backTo cpos (starEach [x] X.env)).all (fun x => !x.1) && (backToKw cpos (keywordEach [] X.env)).all (fun x => x.1.isSome)
      && decide ([x].length + ([] : List Keyword).length + (if ([] : List Keyword).isEmpty then 0 else 1) < 30)) = true)
    (hline : (apos.endLine == cpos.line) = true) (hpl : (backTo cpos (starEach [] X.env)).any (·.1) = false) (hs : swapsWith (.Call (.Attribute (.Name nm p1) name apos) [x] [] cpos) none pos.line X.env = pure false) :
    NS X C E (.Expr (.Call (.Attribute (.Name nm p1) name apos) [x] [] cpos) pos) (toN (fChg R i g f)) := by
  have hA : RA X C E [x] (toA (fCons f fNil)) := (ra_cons ha (ra_nil.imp toA.mo fun _ _ _ _ q => im_nil q) he).imp toA.mo fun _ _ _ _ q => im_cons q
  refine ⟨toN.mo, PS.imp (ps_expr (pe_bm PySem.F.plainAttrs_list slot hty hm (pe_var hi hv hd hcd) (pa_locks hA.pa) hbase hfew hline he hpl) hs) fun D σ H ⟨μ0, H0, μ, hp, σS, e, n, o, q⟩ => ?_⟩
  cases h0 : ownL σS i with
  | none =>
    unfold toN fChg at q
    rw [h0] at q
    exact (toM.nobad q).elim
  | some xs0 =>
    unfold toN fChg at q
    rw [h0] at q
    obtain ⟨a, e1, ⟨vs0, e2, _⟩, e3, e4⟩ := o.own i _ (ownL_eq h0)
    refine ⟨.ref a, e1, .inl ⟨rfl, vs0, .inl (.inl e2)⟩, ?_⟩
    refine n_args (R := R) (Q := fun ps h => ∃ p, ps = [p] ∧ toM (match ownL (rel R (nls [p]) σS) i with
      | none => M.bad
      | some xs => (M.ofO (g xs p)).bind fun ys => M.ret (.nx ((rel R (nls [p]) σS).set i (some (.own (.lst ys)))))) h e (Out.to (gD C μ0 H0 μ H D))) n o ?_ fun ps h1 μ1 H1 us ⟨p, ep, q1⟩ n1 o1 r1 => ?_
    · exact toM.one (toM.bind q)
    · subst ep
      obtain ⟨v, rfl, rv⟩ := r1.one
      split at q1
      · exact (toM.nobad q1).elim
      · rename_i xs h2
        obtain ⟨ys, ey, q1⟩ := toM.ofO (toM.bind q1)
        obtain ⟨a', k1, ⟨vs, k2, k3⟩, k4, k5⟩ := o1.own i _ (ownL_eq h2)
        rw [e1] at k1
        cases k1
        refine hr μ1 H1 a vs xs p v ys _ k3 rv k2 ey fun ws hw => ?_
        obtain ⟨w1, w2, w3, w4⟩ := o1.write (d := .lst ys) n1 (ownL_eq h2) e1 (fun μ' H' u => ⟨ws, rfl, hw μ' H' u⟩) rfl
        exact gD.here (toM.outr q1) (n1.next w1 w2 w3) w4
section
variable {C : Cfg}
theorem hr_app : ∀ (μ : List Addr) (H : Hp) (a : Addr) (vs : List V) (xs : List PV) (p : PV) (v : V) (ys : List PV) (Q : VK), RVs C.K μ H xs vs → RV C.K μ H p v → H a = some (.lst vs) → appG xs p = some ys → (∀ ws, (∀ μ' H', Up0 μ H μ' H' → RVs C.K μ' H' ys ws) → Q .non (upd H a (.lst ws))) → rAppend (.ref a) [v] H Q := by
  intro μ H a vs xs p v ys Q r rp h e q
  unfold appG at e
  split at e
  · rename_i l
    cases e
    exact ⟨a, vs, v, rfl, rfl, h, by rw [r.length, sl]; exact l, q _ fun μ' H' u => (RVs.up0 u _ _ r).append (.cons (RV.up0 u _ _ rp) .nil)⟩
  · cases e
theorem hr_ext : ∀ (μ : List Addr) (H : Hp) (a : Addr) (vs : List V) (xs : List PV) (p : PV) (v : V) (ys : List PV) (Q : VK), RVs C.K μ H xs vs → RV C.K μ H p v → H a = some (.lst vs) → extG xs p = some ys → (∀ ws, (∀ μ' H', Up0 μ H μ' H' → RVs C.K μ' H' ys ws) → Q .non (upd H a (.lst ws))) → rExtendF C.K (.ref a) [v] H Q := by
  intro μ H a vs xs p v ys Q r rp h e q
  unfold extG at e
  split at e
  · rename_i zs hz
    split at e
    · rename_i l
      cases e
      cases p with
      | lst ps =>
        cases hz
        obtain ⟨b, ws, rfl, hb, rb⟩ := rp.lstI
        exact ⟨a, b, vs, ws, rfl, rfl, h, .inl (.inr hb), by rw [r.length, rb.length, sl]; exact l, q _ fun μ' H' u => (RVs.up0 u _ _ r).append (RVs.up0 u _ _ rb)⟩
      | tup ps =>
        cases hz
        obtain ⟨b, ws, rfl, hb, rb⟩ := rp.tupI
        exact ⟨a, b, vs, ws, rfl, rfl, h, .inr hb, by rw [r.length, rb.length, sl]; exact l, q _ fun μ' H' u => (RVs.up0 u _ _ r).append (RVs.up0 u _ _ rb)⟩
      | _ => cases hz
    · cases e
  · cases e
end
/-! name = m.pop() -/
def fPopTo (j i : Nat) : FS := fun σ => match ownL σ i with
  | some xs => if i = j then M.bad else match xs.getLast? with
    | some y => M.ret (.nx ((σ.set i (some (.own (.lst xs.dropLast)))).set j (some (.val y))))
    | none => M.bad
  | none => M.bad
def fPopD (i : Nat) : FS := fun σ => match ownL σ i with
  | some xs => match xs.getLast? with
    | some _ => M.ret (.nx (σ.set i (some (.own (.lst xs.dropLast)))))
    | none => M.bad
  | none => M.bad
section
variable {X : Cx} {C : Cfg} {E : XK} {nm y : Str} {i j : Nat} {p1 pos pos' apos cpos : Pos}
theorem pop_go {D : Ends} {σ : St} {H : Hp} {μ0 : List Addr} {H0 : Hp} {μ : List Addr} {hp : PH} {σS : SS} {e : EI} {xs : List PV} {z : PV} {K : VK} (n : NAt C E μ0 H0 μ H μ H hp e) (o : OR C H0 μ H σS σ) (h0 : ownL σS i = some xs) (hz : xs.getLast? = some z)
    (k : ∀ H' v, NAt C E μ0 H0 μ H μ H' hp e → OR C H0 μ H' (σS.set i (some (.own (.lst xs.dropLast)))) σ → RV C.K μ H' z v → K v H') : tBM0 X.K "list" rPop (tVar i) σ H K := by
  obtain ⟨a, e1, ⟨vs, e2, e5⟩, e3, e4⟩ := o.own i _ (ownL_eq h0)
  have hz' : xs[xs.length - 1]? = some z := by rw [← hz, List.getLast?_eq_getElem?]
  obtain ⟨v, hv, rv⟩ := e5.get hz'
  refine ⟨.ref a, e1, .inl ⟨rfl, vs, .inl (.inl e2)⟩, a, vs, v, rfl, rfl, e2, by rw [e5.length]; exact hv, ?_⟩
  obtain ⟨w1, w2, w3, w4⟩ := o.write (d := .lst xs.dropLast) (u := .lst vs.dropLast) n (ownL_eq h0) e1 (fun μ' H' u => ⟨_, rfl, (RVs.up0 u _ _ e5).dropLast⟩) rfl
  exact k _ v (n.next w1 w2 w3) w4 (RV.up0 w2 _ _ rv)
theorem ns_popTo (hN : X.N.Nodup) (hj : X.N[j]? = some y) (hx : Loc X.env.scope y) (hf : X.fn y = true ∨ X.env.scope.names.lookup y = some .local) (hi : X.N[i]? = some nm) (hv : Vis X.env.scope nm) (hd : (nm == ("__debug__" : Str)) = false) (hcd : (nm == ("__classdict__" : Str)) = false)
    (hbase : attributeBase (.Name nm p1) "pop" X.env (eval (.Name nm p1) X.env) = eval (.Name nm p1) X.env) (hline : (apos.endLine == cpos.line) = true) (hs : swapsWith (.Call (.Attribute (.Name nm p1) "pop" apos) [] [] cpos) (some (.Name y pos')) pos.line X.env = pure false) :
    NS X C E (.Assign [.Name y pos'] (.Call (.Attribute (.Name nm p1) "pop" apos) [] [] cpos) pos) (toN (fPopTo j i)) := by
  refine ⟨toN.mo, PS.imp (ps_set hN hj hx (pe_bm0 PySem.F.plainAttrs_list PySem.F.slot_list_pop PySem.F.type_list_pop mt_pop (pe_var hi hv hd hcd) hbase hline) hs hf) fun D σ H ⟨μ0, H0, μ, hp, σS, e, n, o, q⟩ => ?_⟩
  unfold toN fPopTo at q
  split at q
  · rename_i xs h0
    split at q
    · exact (toM.nobad q).elim
    · split at q
      · rename_i z hz
        exact pop_go (D := D) n o h0 hz fun H' v n1 o1 rv => gD.here (toM.outr q) n1 (o1.set rv)
      · exact (toM.nobad q).elim
  · exact (toM.nobad q).elim
theorem ns_popD (hi : X.N[i]? = some nm) (hv : Vis X.env.scope nm) (hd : (nm == ("__debug__" : Str)) = false) (hcd : (nm == ("__classdict__" : Str)) = false)
    (hbase : attributeBase (.Name nm p1) "pop" X.env (eval (.Name nm p1) X.env) = eval (.Name nm p1) X.env) (hline : (apos.endLine == cpos.line) = true) (hs : swapsWith (.Call (.Attribute (.Name nm p1) "pop" apos) [] [] cpos) none pos.line X.env = pure false) :
    NS X C E (.Expr (.Call (.Attribute (.Name nm p1) "pop" apos) [] [] cpos) pos) (toN (fPopD i)) := by
  refine ⟨toN.mo, PS.imp (ps_expr (pe_bm0 PySem.F.plainAttrs_list PySem.F.slot_list_pop PySem.F.type_list_pop mt_pop (pe_var hi hv hd hcd) hbase hline) hs) fun D σ H ⟨μ0, H0, μ, hp, σS, e, n, o, q⟩ => ?_⟩
  unfold toN fPopD at q
  split at q
  · rename_i xs h0
    split at q
    · rename_i z hz
      exact pop_go (D := D) n o h0 hz fun H' v n1 o1 rv => gD.here (toM.outr q) n1 o1
    · exact (toM.nobad q).elim
  · exact (toM.nobad q).elim
end
/-! m[k] = x -/
def setC (c : Cell) (k p : PV) : Option Cell := match c with
  | .lst xs => match k with
    | .int i => (ixN xs.length i).map fun j => .lst (xs.set j p)
    | _ => none
  | .dct ks => (keyP k).bind fun k => if ks.length < 16777216 then some (.dct (putP ks k p)) else none
def fSet (R R2 : List Nat) (i : Nat) (a : FE) (b : FE) : FS := fun σ => (b (bor R 0 σ)).bind fun p => match ownC (rel R (nl p) σ) i with
  | none => M.bad
  | some _ => (a (bor R2 0 (rel R (nl p) σ))).bind fun k => match ownC (rel R2 (nl k) (rel R (nl p) σ)) i with
    | none => M.bad
    | some c => (M.ofO (setC c k p)).bind fun d => M.ret (.nx ((rel R2 (nl k) (rel R (nl p) σ)).set i (some (.own d))))
theorem PSet.or {X : Cx} {r r' : TSet} (h : PSet X r) (h' : PSet X r') : PSet X (fun o i v H Q => r o i v H Q ∨ r' o i v H Q) := fun pins s σ H o i v ov iv u Q I ro ri rv q => q.elim (fun q => h pins s σ H o i v ov iv u Q I ro ri rv q) fun q => h' pins s σ H o i v ov iv u Q I ro ri rv q
theorem ns_setix {X : Cx} {C : Cfg} {E : XK} {nm : Str} {i : Nat} {p1 spos pos : Pos} {a b : Expr} {fa fb : FE} {R R2 : List Nat} (hu : X.A.units + 1 < cLine) (hi : X.N[i]? = some nm) (hv : Vis X.env.scope nm) (hd : (nm == ("__debug__" : Str)) = false) (hcd : (nm == ("__classdict__" : Str)) = false) (ha : RE X C E a (toE fa)) (hb : RE X C E b (toE fb))
    (hs : swapsWithSole [.Subscript (.Name nm p1) a spos] b pos.line X.env = pure false) (hw : swappedStores [.Subscript (.Name nm p1) a spos] b X.env = pure none) (h1 : (assignEach [.Subscript (.Name nm p1) a spos] X.env).map (·.2) = [assign (.Subscript (.Name nm p1) a spos) X.env])
    (hst : ∀ v, assign (.Subscript (.Name nm p1) a spos) X.env v = (do
      let ov ← holding [v] (eval (.Name nm p1) X.env)
      let iv ← holding [v, ov] (eval a X.env)
      standAt spos
      holding [v, ov, iv] (setItem ov iv v)
      release [v, ov, iv] [])) :
    NS X C E (.Assign [.Subscript (.Name nm p1) a spos] b pos) (toN (fSet R R2 i fa fb)) := by
  refine ⟨toN.mo, PS.imp (ps_asg (pe_locks hb.pe) (pg_sub (pe_var hi hv hd hcd) (pe_locks ha.pe) (PSet.or set_list (set_dict hu)) hst) hs hw h1) fun D σ H ⟨μ0, H0, μ, hp, σS, e, n, o, q⟩ => ?_⟩
  refine n_expr n o (toM.bind q) fun p h1 μ1 H1 v q1 n1 o1 r1 => ?_
  split at q1
  · exact (toM.nobad q1).elim
  · rename_i c0 h0
    obtain ⟨a0, e1, _, _, _⟩ := o1.own i _ (ownC_eq h0)
    refine ⟨.ref a0, e1, ?_⟩
    refine n_expr n1.here o1 (toM.bind q1) fun k h2 μ2 H2 w q2 n2 o2 r2 => ?_
    split at q2
    · exact (toM.nobad q2).elim
    · rename_i c h3
      obtain ⟨d, ed, q2⟩ := toM.ofO (toM.bind q2)
      obtain ⟨a1, k1, k2, _, _⟩ := o2.own i _ (ownC_eq h3)
      rw [e1] at k1
      cases k1
      have rp := RV.up0 n2.us _ _ r1
      have nn := n1.next n2.up n2.us n2.hr
      cases c with
      | lst xs =>
        obtain ⟨vs, k2, k3⟩ := k2
        cases k with
        | int j =>
          obtain ⟨j', ej, rfl⟩ := Option.map_eq_some_iff.mp ed
          obtain ⟨w1, w2, w3, w4⟩ := o2.write (d := .lst (xs.set j' p)) (u := .lst (vs.set j' v)) nn (ownC_eq h3) e1 (fun μ' H' u => ⟨_, rfl, RVs.set (RV.up0 u _ _ rp) j' (RVs.up0 u _ _ k3)⟩) rfl
          exact .inl ⟨a0, vs, j, j', rfl, r2.intI, k2, by rw [k3.length]; exact ej, gD.here (toM.outr q2) (nn.next w1 w2 w3) w4⟩
        | _ => cases ed
      | dct ks =>
        obtain ⟨ws, k2, k3⟩ := k2
        obtain ⟨key, ek, ed⟩ := Option.bind_eq_some_iff.mp ed
        split at ed
        · rename_i l
          cases ed
          have := keyP_V r2 ek
          subst this
          obtain ⟨w1, w2, w3, w4⟩ := o2.write (d := .dct (putP ks key p)) (u := .dK (putK ws key v)) nn (ownC_eq h3) e1 (fun μ' H' u => ⟨_, rfl, (RKs.up0 u _ _ k3).put (RV.up0 u _ _ rp)⟩) rfl
          exact .inr ⟨a0, _, rfl, DPut.k k2 (by rw [k3.length, sl]; exact l), gD.here (toM.outr q2) (nn.next w1 w2 w3) w4⟩
        · cases ed
/-! x op= e of a value -/
def fAug (R : List Nat) (g : PV → PV → Option PV) (i : Nat) (a : FE) : FS := fun σ => match σ[i]? with
  | some (some (.val p)) => (a (bor R 0 σ)).bind fun q => (M.ofO (g p q)).bind fun z => M.ret (.nx ((rel R (nl q) σ).set i (some (.val z))))
  | _ => M.bad
def augAdd : PV → PV → Option PV
  | .int i, .int j => some (.int (i + j))
  | .str a, .str b => if a.length + b.length ≤ 16777216 then some (.str (a ++ b)) else none
  | _, _ => none
def augSub : PV → PV → Option PV
  | .int i, .int j => some (.int (i - j))
  | _, _ => none
def rAddT : R2 := fun x y H Q => ∃ i j, x = .str i ∧ y = .str j ∧ i.length + j.length ≤ sizeLine ∧ Q (.str (i ++ j)) H
structure LIp (C : Cfg) (t : TIp) (g : PV → PV → Option PV) : Prop where
  ok : ∀ μ H p q v u z (Q : VK), RV C.K μ H p v → RV C.K μ H q u → g p q = some z → (∀ w, RV C.K μ H z w → Q w H) → t v u H Q
theorem li_add {C : Cfg} : LIp C (fun x y H Q => ipI (fun i j => i + j) x y H Q ∨ rAddT x y H Q) augAdd := ⟨fun μ H p q v u z Q r1 r2 e k => by
  unfold augAdd at e
  split at e
  · cases e; exact .inl ⟨_, _, r1.intI, r2.intI, k _ .int'⟩
  · split at e
    · rename_i l
      cases e
      exact .inr ⟨_, _, r1.strI, r2.strI, by rw [sl]; exact l, k _ (.str' (by rw [str_len_append, sl]; exact l))⟩
    · cases e
  · cases e⟩
theorem li_sub {C : Cfg} : LIp C (ipI fun i j => i - j) augSub := ⟨fun μ H p q v u z Q r1 r2 e k => by
  unfold augSub at e
  split at e
  · cases e; exact ⟨_, _, r1.intI, r2.intI, k _ .int'⟩
  · cases e⟩
theorem ip_addG {X : Cx} : PIp X .Add (fun x y H Q => ipI (fun i j => i + j) x y H Q ∨ rAddT x y H Q) := fun pins s σ H x y v u Q I r1 r2 q => q.elim (fun q => ip_add pins s σ H x y v u Q I r1 r2 q) fun q => iop_add_str pins s σ H x y v u Q I r1 r2 q
theorem ns_aug {X : Cx} {C : Cfg} {E : XK} {nm : Str} {i : Nat} {pos pos' : Pos} {a : Expr} {fa : FE} {R : List Nat} {op : Operator} {t : TIp} {g : PV → PV → Option PV} (L : LIp C t g) (ho : PIp X op t) (hN : X.N.Nodup) (hi : X.N[i]? = some nm) (hx : Loc X.env.scope nm) (hf : X.fn nm = true ∨ X.env.scope.names.lookup nm = some .local) (ha : RE X C E a (toE fa)) :
    NS X C E (.AugAssign (.Name nm pos') op a pos) (toN (fAug R g i fa)) := by
  refine ⟨toN.mo, PS.imp (ps_aug hN hi hx (pe_locks ha.pe) ho hf) fun D σ H ⟨μ0, H0, μ, hp, σS, e, n, o, q⟩ => ?_⟩
  unfold toN fAug at q
  split at q
  · rename_i p hp
    obtain ⟨v, e1, r1⟩ := o.val i p hp
    refine ⟨v, e1, n_expr n.here o (toM.bind q) fun q' h1 μ1 H1 w q1 n1 o1 r2 => ?_⟩
    obtain ⟨z, ez, q1⟩ := toM.ofO (toM.bind q1)
    exact L.ok μ1 H1 p q' v w z _ (RV.up0 n1.us _ _ r1) r2 ez fun w' rw' => gD.here (toM.outr q1) n1 (o1.set rw')
  · exact (toM.nobad q).elim
end RF

set_option Elab.async false
set_option linter.all false
set_option maxRecDepth 100000
set_option maxHeartbeats 1000000
/-! Part NB6: x, y = a, b with values and new things. -/
namespace RF
open PySem PySem.Spec L2
inductive AM where
  | v (f : FE)
  | c (m : FM)
def fAM : List AM → SI → M (List SV)
  | [], _ => M.ret []
  | .v f :: r, σ => (f σ).bind fun p => (fAM r σ).bind fun ss => M.ret (.val p :: ss)
  | .c m :: r, σ => (m σ).bind fun c => (fAM r σ).bind fun ss => M.ret (.own c :: ss)
def flS : SV → Bool
  | .val p => nl p
  | .own c => flC c
/-- the items behind the reading -/
def IR (C : Cfg) (H0 : Hp) (μ : List Addr) (H : Hp) : List SV → List V → Prop
  | [], vs => vs = []
  | .val p :: ss, vs => ∃ v ws, vs = v :: ws ∧ RV C.K μ H p v ∧ IR C H0 μ H ss ws
  | .own c :: ss, vs => ∃ a ws, vs = .ref a :: ws ∧ CellR C μ H a c ∧ a ∉ μ ∧ Fr H0 a ∧ (∀ (j : Nat) (d : Cell), ss[j]? = some (.own d) → ws[j]? ≠ some (.ref a)) ∧ IR C H0 μ H ss ws
inductive RAM (X : Cx) (C : Cfg) (E : XK) : List Expr → List AM → Prop where
  | nil : RAM X C E [] []
  | v {x : Expr} {es : List Expr} {f : FE} {l : List AM} (h : RE X C E x (toE f)) (r : RAM X C E es l) (hs : starEach (x :: es) X.env = (false, eval x X.env) :: starEach es X.env) : RAM X C E (x :: es) (.v f :: l)
  | c {x : Expr} {es : List Expr} {m : FM} {l : List AM} (h : RM X C E x m) (r : RAM X C E es l) (hs : starEach (x :: es) X.env = (false, eval x X.env) :: starEach es X.env) : RAM X C E (x :: es) (.c m :: l)
def tAM (C : Cfg) (E : XK) (l : List AM) : TA := fun σ H Q => ∃ μ hp σI e, At C E μ H hp e ∧ SR C μ H σI σ ∧ toM (fAM l σI) hp e (fun ss hp' => ∀ μ' H' vs, Up μ H μ' H' → HR C μ' H' hp' → IR C H μ' H' ss vs → Q vs H')
section
variable {X : Cx} {C : Cfg} {E : XK}
theorem IR.fr {H0 H1 : Hp} {μ : List Addr} {H : Hp} (f : ∀ a, Fr H1 a → Fr H0 a) : ∀ {ss : List SV} {vs : List V}, IR C H1 μ H ss vs → IR C H0 μ H ss vs
  | [], _, h => h
  | .val p :: ss, _, ⟨v, ws, e, r, t⟩ => ⟨v, ws, e, r, IR.fr f t⟩
  | .own c :: ss, _, ⟨a, ws, e, r, m, g, d, t⟩ => ⟨a, ws, e, r, m, f a g, d, IR.fr f t⟩
theorem IR.len {H0 : Hp} {μ : List Addr} {H : Hp} : ∀ {ss : List SV} {vs : List V}, IR C H0 μ H ss vs → vs.length = ss.length
  | [], _, h => by subst h; rfl
  | .val p :: ss, _, ⟨v, ws, e, r, t⟩ => by subst e; simp [IR.len t]
  | .own c :: ss, _, ⟨a, ws, e, r, m, g, d, t⟩ => by subst e; simp [IR.len t]
theorem IR.own {H0 : Hp} {μ : List Addr} {H : Hp} : ∀ {ss : List SV} {vs : List V} (j : Nat) (d : Cell), IR C H0 μ H ss vs → ss[j]? = some (.own d) → ∃ b, vs[j]? = some (.ref b) ∧ Fr H0 b
  | [], _, j, d, h, e => by simp at e
  | .val p :: ss, _, 0, d, ⟨v, ws, e, r, t⟩, h => by simp at h
  | .val p :: ss, _, j + 1, d, ⟨v, ws, e, r, t⟩, h => by
    subst e
    simpa using IR.own j d t (by simpa using h)
  | .own c :: ss, _, 0, d, ⟨a, ws, e, r, m, g, _, t⟩, h => by subst e; exact ⟨a, rfl, g⟩
  | .own c :: ss, _, j + 1, d, ⟨a, ws, e, r, m, g, _, t⟩, h => by
    subst e
    simpa using IR.own j d t (by simpa using h)
theorem RAM.pa {es : List Expr} {l : List AM} (h : RAM X C E es l) : PA X es (tAM C E l) := by
  induction h with
  | nil => exact PA.imp pa_nil fun σ H Q ⟨μ, hp, σI, e, A, s, q⟩ => (toM.ret q : ∀ μ' H' vs, Up μ H μ' H' → HR C μ' H' hp → IR C H μ' H' [] vs → Q vs H') μ H [] .refl A.hr rfl
  | @v x es f l h r hs ih =>
    refine PA.imp (pa_cons h.pe ih hs) fun σ H Q ⟨μ, hp, σI, e, A, s, q⟩ => ?_
    refine tE.go h.mo A s (toM.bind q) fun p h1 μ1 H1 v q1 u1 A1 s1 r1 => ?_
    refine ⟨μ1, h1, σI, e, A1, s1, toM.mono (fun ss h2 q2 μ2 H2 vs u2 r2 i2 => ?_) (toM.bind q1)⟩
    exact (toM.ret q2 : ∀ μ' H' vs, Up μ H μ' H' → HR C μ' H' h2 → IR C H μ' H' (.val p :: ss) vs → Q vs H') μ2 H2 (v :: vs) (u1.trans u2) r2 ⟨v, vs, rfl, RV.up u2 _ _ r1, i2.fr fun a f => u1.fr f⟩
  | @c x es m l h r hs ih =>
    refine PA.imp (pa_cons h.pe ih hs) fun σ H Q ⟨μ, hp, σI, e, A, s, q⟩ => ?_
    refine ⟨μ, hp, σI, e, A, s, toM.mono (fun c h1 q1 μ1 H1 a u1 r1 ca na fa => ?_) (toM.bind q)⟩
    have A1 := A.next u1 r1
    refine ⟨μ1, h1, σI, e, A1, s.up u1, toM.mono (fun ss h2 q2 μ2 H2 vs u2 r2 i2 => ?_) (toM.bind q1)⟩
    obtain ⟨w, hw, lw, _⟩ := ca.lsdU
    obtain ⟨e2, n2⟩ := u2.hid a w lw hw na
    refine (toM.ret q2 : ∀ μ' H' vs, Up μ H μ' H' → HR C μ' H' h2 → IR C H μ' H' (.own c :: ss) vs → Q vs H') μ2 H2 (.ref a :: vs) (u1.trans u2) r2 ⟨a, vs, rfl, ca.up u2 (e2.trans hw.symm), n2, fa, fun j d hj hr => ?_, i2.fr fun a f => u1.fr f⟩
    obtain ⟨b, k1, k2⟩ := i2.own j d hj
    rw [hr] at k1
    cases k1
    exact k2 ⟨w, hw, lsd_nt lw⟩
end
def setItS (σ : SS) : List Nat → List SV → SS
  | i :: is, s :: ss => setItS (σ.set i (some s)) is ss
  | _, _ => σ
def fPar (R : List Nat) (is : List Nat) (l : List AM) : FS := fun σ => (fAM l (bor R 0 σ)).bind fun ss => M.ret (.nx (setItS (rel R (ss.all flS) σ) is ss))
section
variable {X : Cx} {C : Cfg} {E : XK} {μ0 μs μ : List Addr} {H0 Hs H : Hp} {σS : SS} {σ : St} {hp : PH} {e : EI} {R : List Nat}
theorem IR.flat {μ : List Addr} {H H' : Hp} (h1 : ∀ ps vs, nls ps = true → RVs C.K μ H ps vs → RVs C.K μ H' ps vs) (h2 : ∀ p v, nl p = true → RV C.K μ H p v → RV C.K μ H' p v) (keep : ∀ a, Fr H0 a → H' a = H a) : ∀ {ss : List SV} {vs : List V}, ss.all flS = true → IR C H0 μ H ss vs → IR C H0 μ H' ss vs
  | [], _, _, h => h
  | .val p :: ss, _, f, ⟨v, ws, e, r, t⟩ => by
    simp only [List.all_cons, Bool.and_eq_true] at f
    exact ⟨v, ws, e, h2 _ _ f.1 r, IR.flat h1 h2 keep f.2 t⟩
  | .own c :: ss, _, f, ⟨a, ws, e, r, m, g, d, t⟩ => by
    simp only [List.all_cons, Bool.and_eq_true] at f
    exact ⟨a, ws, e, CellR.flat h1 h2 f.1 (keep a g) r, m, g, d, IR.flat h1 h2 keep f.2 t⟩
/-- the slots get the items -/
theorem OR.setIt : ∀ (is : List Nat) (ss : List SV) (vs : List V) (σS : SS) (σ : St), OR C H0 μ H σS σ → IR C H0 μ H ss vs → (∀ (k : Nat) (d : Cell) (j : Nat) (c : Cell), σS[k]? = some (some (.own d)) → ss[j]? = some (.own c) → ∀ a, vs[j]? = some (.ref a) → σ[k]? ≠ some (some (.ref a))) → OR C H0 μ H (setItS σS is ss) (RF.setAll σ is vs)
  | [], ss, vs, σS, σ, s, r, _ => by
    cases ss <;> cases vs <;> exact s
  | i :: is, [], vs, σS, σ, s, r, _ => by
    have r : vs = [] := r
    subst r; exact s
  | i :: is, .val p :: ss, vs, σS, σ, s, ⟨v, ws, e, r, t⟩, d => by
    subst e
    refine OR.setIt is ss ws _ _ (s.set r) t fun k d' j c hk hj a ha hr => ?_
    rcases set_get hk with ⟨rfl, h4⟩ | ⟨ne, h4⟩
    · cases h4
    · rw [List.getElem?_set_ne ne] at hr
      exact d k d' (j + 1) c h4 (by simpa using hj) a (by simpa using ha) hr
  | i :: is, .own c :: ss, vs, σS, σ, s, ⟨a, ws, e, r, m, g, dd, t⟩, d => by
    subst e
    refine OR.setIt is ss ws _ _ (s.setOwn r m g fun j d' _ hj => d j d' 0 c hj rfl a rfl) t fun k d' j c' hk hj b hb hr => ?_
    rcases set_get hk with ⟨rfl, h4⟩ | ⟨ne, h4⟩
    · have hl := set_hit hk
      rw [List.getElem?_set_self (by rw [← s.len]; exact hl)] at hr
      cases hr
      exact dd j c' hj hb
    · rw [List.getElem?_set_ne ne] at hr
      exact d k d' (j + 1) c' h4 (by simpa using hj) b (by simpa using hb) hr
theorem n_items {l : List AM} {Q : List SV → PH → Prop} {K : List V → Hp → Prop} (n : NAt C E μ0 H0 μs Hs μ H hp e) (o : OR C H0 μ H σS σ) (q : toM (fAM l (bor R 0 σS)) hp e Q)
    (k : ∀ ss h μ' H' vs, Q ss h → NAt C E μ0 H0 μs Hs μ' H' h e → OR C H0 μ' H' (rel R (ss.all flS) σS) σ → IR C H0 μ' H' ss vs → (∀ (k : Nat) (d : Cell) (j : Nat) (c : Cell), (rel R (ss.all flS) σS)[k]? = some (some (.own d)) → ss[j]? = some (.own c) → ∀ a, vs[j]? = some (.ref a) → σ[k]? ≠ some (some (.ref a))) → K vs H') : tLocksA (tAM C E l) σ H K := by
  obtain ⟨ll, g, nd, hl⟩ := Gath.start (gath o R)
  refine ⟨ll, nd, hl, fun H' hk => ?_⟩
  have kk := g.lk (μ0 := μ0) hk
  have u0 := g.up kk n.up
  refine ⟨μ, hp, bor R 0 σS, e, ⟨kk.hr _ n.hr, n.eok.up u0⟩, g.sr kk o, toM.mono (fun ss h q μ1 H1 vs u1 r1 ir => ?_) q⟩
  have kq := k ss h
  rw [rel_eq] at kq
  have nl' : ∀ a, Fr H' a → a ∉ ll.map (·.1) := fun a fa m => by
    obtain ⟨q, mq, rfl⟩ := List.mem_map.mp m
    obtain ⟨od, hq⟩ := kk.inn q mq
    exact fa (frz_nt hq)
  have ao : ∀ (k : Nat) (d : Cell) (j : Nat) (c : Cell), σS[k]? = some (some (.own d)) → ss[j]? = some (.own c) → ∀ a, vs[j]? = some (.ref a) → σ[k]? ≠ some (some (.ref a)) := fun k d j c hj hs a ha hr => by
    obtain ⟨b, k1, k2⟩ := ir.own j c hs
    rw [ha] at k1
    cases k1
    obtain ⟨b, h1, h2, _⟩ := o.own k d hj
    rw [hr] at h1
    cases h1
    obtain ⟨w, hw, lw, _⟩ := h2.lsdU
    by_cases m : a ∈ ll.map (·.1)
    · exact nl' a k2 m
    · exact k2 ⟨w, by rw [kk.out a m]; exact hw, lsd_nt lw⟩
  have i0 : IR C H0 μ1 H1 ss vs := ir.fr fun a f => u0.fr f
  by_cases hf : ss.all flS = true
  · obtain ⟨a1, a2, aU, a3, a4, a5, a6⟩ := g.free kk o n.up n.xd u1 r1
    rw [if_pos hf] at kq
    have i1 : IR C H' μ1 (unlL ll H1) ss vs := IR.flat a6 a5 (fun a fa => unlL_out a (nl' a fa)) hf ir
    exact .inr ⟨a1, kq _ _ _ q (n.next a2 aU a3) a4 (i1.fr fun a f => u0.fr f) ao⟩
  · rw [if_neg hf] at kq
    refine .inl (kq _ _ _ q (n.next (u0.trans u1) (kk.u0.trans u1.weak) r1) (g.locked kk o u1) i0 fun k d j c hj hs a ha => ?_)
    rcases lck_at _ _ _ _ _ hj with ⟨c', _, _, h3⟩ | ⟨h3, _⟩
    · cases h3
    · exact ao k d j c h3 hs a ha
theorem fAM_len : ∀ (l : List AM) (σ : SI) (d : Nat × Nat) (D D' : Dk) (ss : List SV), fAM l σ d D = .ok ss D' → ss.length = l.length
  | [], σ, d, D, D', ss, h => by cases h; rfl
  | .v f :: r, σ, d, D, D', ss, h => by
    unfold fAM M.bind at h
    cases e1 : f σ d D with
    | ok p D1 =>
      rw [e1] at h
      simp only at h
      cases e2 : fAM r σ d D1 with
      | ok ss1 D2 =>
        rw [e2] at h
        cases h
        simp [fAM_len r σ d D1 _ ss1 e2]
      | err c p D2 => rw [e2] at h; cases h
      | bad => rw [e2] at h; cases h
    | err c p D1 => rw [e1] at h; cases h
    | bad => rw [e1] at h; cases h
  | .c f :: r, σ, d, D, D', ss, h => by
    unfold fAM M.bind at h
    cases e1 : f σ d D with
    | ok p D1 =>
      rw [e1] at h
      simp only at h
      cases e2 : fAM r σ d D1 with
      | ok ss1 D2 =>
        rw [e2] at h
        cases h
        simp [fAM_len r σ d D1 _ ss1 e2]
      | err c p D2 => rw [e2] at h; cases h
      | bad => rw [e2] at h; cases h
    | err c p D1 => rw [e1] at h; cases h
    | bad => rw [e1] at h; cases h
theorem fAM_toM {l : List AM} {σ : SI} {hp : PH} {e : EI} {Q : List SV → PH → Prop} (q : toM (fAM l σ) hp e Q) : toM (fAM l σ) hp e fun ss h => ss.length = l.length ∧ Q ss h := by
  obtain ⟨d, D, h, q⟩ := q
  refine ⟨d, D, h, ?_⟩
  cases e1 : fAM l σ d D with
  | ok ss D1 => rw [e1] at q; exact fun hp' h1 h2 => ⟨fAM_len l σ d D D1 ss e1, q hp' h1 h2⟩
  | err c p D1 => rw [e1] at q; exact q
  | bad => rw [e1] at q; exact q
theorem RAM.len {es : List Expr} {l : List AM} (h : RAM X C E es l) : l.length = es.length := by
  induction h with
  | nil => rfl
  | v _ _ _ ih => simp [ih]
  | c _ _ _ ih => simp [ih]
theorem ns_par2 {i j : Nat} {x y : Str} {a b : Expr} {l : List AM} {px py pt pos : Pos} {kt k2 pt2} (hc : X.calm = true) (hN : X.N.Nodup) (hi : X.N[i]? = some x) (hj : X.N[j]? = some y) (hij : i ≠ j) (hx : X.env.scope.names.lookup x = some .local) (hy : X.env.scope.names.lookup y = some .local)
    (ha : RAM X C E [a, b] l) (hw : swappedStores [.Tuple [.Name x px, .Name y py] kt pt] (.Tuple [a, b] k2 pt2) X.env = pure (some [x, y]))
    (hs : swapsWithSole [.Tuple [.Name x px, .Name y py] kt pt] (.Tuple [a, b] k2 pt2) pos.line X.env = pure false) : NS X C E (.Assign [.Tuple [.Name x px, .Name y py] kt pt] (.Tuple [a, b] k2 pt2) pos) (toN (fPar R [i, j] l)) := by
  refine ⟨toN.mo, PS.imp (ps_par hc hN hi hj hij hx hy (pa_locks ha.pa) hw hs) fun D σ H ⟨μ0, H0, μ, hp, σS, e, n, o, q⟩ => ?_⟩
  refine n_items n o (fAM_toM (toM.bind q)) fun ss h1 μ1 H1 vs ⟨l1, q1⟩ n1 o1 i1 d1 => ?_
  have q2 := (toM.outr q1 : (Out.nx (setItS (rel R (ss.all flS) σS) [i, j] ss)).to (gD C μ0 H0 μ H D) h1)
  have lv : vs.length = 2 := by rw [i1.len, l1, ha.len]; rfl
  match vs, lv with
  | [v, u], _ => exact ⟨v, u, rfl, gD.here q2 n1 (OR.setIt [i, j] ss [v, u] _ _ o1 i1 d1)⟩
theorem ns_par3 {i j l3 : Nat} {x y z : Str} {a b c : Expr} {l : List AM} {px py pz pt pos : Pos} {kt k2 pt2} (hc : X.calm = true) (hN : X.N.Nodup) (hi : X.N[i]? = some x) (hj : X.N[j]? = some y) (hl : X.N[l3]? = some z) (hij : i ≠ j) (hil : i ≠ l3) (hjl : j ≠ l3)
    (hx : X.env.scope.names.lookup x = some .local) (hy : X.env.scope.names.lookup y = some .local) (hz : X.env.scope.names.lookup z = some .local) (ha : RAM X C E [a, b, c] l)
    (hw : swappedStores [.Tuple [.Name x px, .Name y py, .Name z pz] kt pt] (.Tuple [a, b, c] k2 pt2) X.env = pure (some [x, y, z]))
    (hs : swapsWithSole [.Tuple [.Name x px, .Name y py, .Name z pz] kt pt] (.Tuple [a, b, c] k2 pt2) pos.line X.env = pure false) : NS X C E (.Assign [.Tuple [.Name x px, .Name y py, .Name z pz] kt pt] (.Tuple [a, b, c] k2 pt2) pos) (toN (fPar R [i, j, l3] l)) := by
  refine ⟨toN.mo, PS.imp (ps_par3 hc hN hi hj hl hij hil hjl hx hy hz (pa_locks ha.pa) hw hs) fun D σ H ⟨μ0, H0, μ, hp, σS, e, n, o, q⟩ => ?_⟩
  refine n_items n o (fAM_toM (toM.bind q)) fun ss h1 μ1 H1 vs ⟨l1, q1⟩ n1 o1 i1 d1 => ?_
  have q2 := (toM.outr q1 : (Out.nx (setItS (rel R (ss.all flS) σS) [i, j, l3] ss)).to (gD C μ0 H0 μ H D) h1)
  have lv : vs.length = 3 := by rw [i1.len, l1, ha.len]; rfl
  match vs, lv with
  | [v, u, t], _ => exact ⟨v, u, t, rfl, gD.here q2 n1 (OR.setIt [i, j, l3] ss [v, u, t] _ _ o1 i1 d1)⟩
end
end RF

set_option Elab.async false
set_option linter.all false
set_option maxRecDepth 100000
set_option maxHeartbeats 1000000
/-! Part NC1: defs as functions, their calls; short words for statements. -/
namespace RF
open PySem PySem.Spec L2
open PyProof.Rows (envOfC)
abbrev FF := List PV → M PV
def toF (F : FF) : WF := fun ps hp e Q => toM (F ps) hp e Q
theorem toF.mo {F : FF} : MoF (toF F) := fun _ _ _ _ _ i q => toM.mono i q
def slots (N : Nat) (ps : List PV) : SS := (ps.map fun p => some (.val p)) ++ List.replicate (N - ps.length) none
/-- what a def gives -/
def bodyF (N : Nat) (f : FS) : FF := fun ps => (f (slots N ps)).bind fun o => match o with
  | .nx _ => M.ret .non
  | .rt p => M.ret p
  | _ => M.bad
def fCall (n : Nat) (F : FF) (a : FA) : FE := fun σ => (a σ).bind fun ps => if ps.length = n then F ps else M.bad
def fCallK (n : Nat) (perm : List Nat) (F : FF) (a : FA) : FE := fun σ => (a σ).bind fun ps => if ps.length = n ∧ (pick perm ps).length = n then F (pick perm ps) else M.bad
section
variable {σ : SI} {hp : PH} {e : EI} {Q : KI} {fa : FA} {F : FF} {n : Nat} {perm : List Nat}
theorem im_call (q : toE (fCall n F fa) σ hp e Q) : wCall (toF F) (wArgs n (toA fa)) σ hp e Q := (toM.bind q).mono fun ps h q => by
  split at q
  · rename_i l; exact ⟨l, q⟩
  · exact (toM.nobad q).elim
theorem im_call0 (q : toE (fun _ => F []) σ hp e Q) : wCall (toF F) wNil σ hp e Q := q
theorem im_callK (q : toE (fCallK n perm F fa) σ hp e Q) : wCallK (toF F) n perm (toA fa) σ hp e Q := (toM.bind q).mono fun ps h q => by
  split at q
  · rename_i l; exact ⟨l, q⟩
  · exact (toM.nobad q).elim
end
theorem or_start {C : Cfg} {H0 : Hp} {μ : List Addr} {H : Hp} {N : Nat} {qs : List PV} {vs : List V} (r : RVs C.K μ H qs vs) : OR C H0 μ H (slots N qs) (vs.map some ++ List.replicate (N - vs.length) none) := by
  have vl : ∀ (i : Nat) (s : SV), (slots N qs)[i]? = some (some s) → ∃ p, s = .val p ∧ qs[i]? = some p := fun i s e => by
    unfold slots at e
    by_cases hi : i < qs.length
    · rw [List.getElem?_append_left (by simpa using hi), List.getElem?_map] at e
      obtain ⟨z, e1, e2⟩ := Option.map_eq_some_iff.mp e
      cases e2
      exact ⟨z, rfl, e1⟩
    · rw [List.getElem?_append_right (by simpa using hi), List.getElem?_replicate] at e
      split at e <;> cases e
  refine ⟨by simp [slots, r.length], fun i p e => ?_, fun i c e => ?_, fun i j c d e _ _ => ?_⟩
  · obtain ⟨p', e1, e2⟩ := vl i _ e
    cases e1
    obtain ⟨v, e3, e4⟩ := r.get e2
    have hi : i < qs.length := (List.getElem?_eq_some_iff.mp e2).1
    exact ⟨v, by rw [List.getElem?_append_left (by rw [List.length_map, r.length]; exact hi), List.getElem?_map, e3]; rfl, e4⟩
  · obtain ⟨p', e1, _⟩ := vl i _ e
    cases e1
  · obtain ⟨p', e1, _⟩ := vl i _ e
    cases e1
/-- a def's promise, of any meaning of its body -/
def wFunN (N : Nat) (w : WN) : WF := fun ps hp e Q => w (slots N ps) hp e { nx := fun _ h => Q .non h, rt := Q }
theorem toF_body {N : Nat} {f : FS} {ps : List PV} {hp : PH} {e : EI} {Q : KI} (q : toF (bodyF N f) ps hp e Q) : wFunN N (toN f) ps hp e Q := (toM.bind q).mono fun o h q => by
  cases o with
  | nx σ => exact (toM.ret q : Q .non h)
  | rt p => exact (toM.ret q : Q p h)
  | bk σ => exact (toM.nobad q).elim
  | ct σ => exact (toM.nobad q).elim
section
variable {P : Program} {w : World} {C : Cfg} {mg : Str → Option Value} {base : Heap} {k n : Nat} {fd : FuncData} {ps : List Str}
theorem fnN {x : Str} {params : Arguments} {body : List Stmt} {scope : Scope} {dvs : List V} {kws : List (Str × V)} {N : List Str} {ws : WN} (F : FunD C.K x x params body scope dvs kws (He.ga C.K x) fd) (S : FnScope N ps scope) (hn : ps.length = n)
    (hb : ∀ (A : Around) (out : List Env) (s : Shared) (H : Hp) (E : XK) (cdv : Value) (X : Cx), cdv = .ref (RH.codeAd C.K x) → X = cxOf (L2.CX P w) P w C.K mg base N x scope (He.ga C.K x) cdv A out s H E → Ok X C E k → NSs X C E body ws) :
    FnG P w C.K mg base (k + 1) (He.ga C.K x) fd ps (spI C n (wFunN N.length ws)) := by
  obtain ⟨oc, od, dV, kV, doc, pm, an, cdv, ct, osl, rfl, look, code, h1, h2⟩ := F.ex
  have hc : cdv = .ref (RH.codeAd C.K x) := by
    unfold PySem.W.codeIn at code
    split at code
    · unfold RH.codeAd
      rw [look]
    · cases code
  refine ⟨fun vs H Q E h => by rw [h.1, hn], fun A out s H args us vs Q E g room e0 bind rel h => ?_⟩
  obtain ⟨hl, μ, hp, qs, e, a, rv, q⟩ := h
  refine LamX.run_ofS look code S room e0 bind rel (by rw [hl, hn]) fun room' => ?_
  have R := hb A out s H E cdv _ hc rfl (ok_body S.nd g room')
  refine ⟨_, R.ps, μ, H, μ, hp, slots N.length qs, e, ⟨.refl, .refl, a.hr, a.eok, a.hr.xd⟩, or_start rv, R.mo (slots N.length qs) hp e { nx := fun _ h => fE C μ H Q .non h, rt := fE C μ H Q } _ ⟨fun _ h q => ?_, fun _ h q => q, fun _ _ q => q.elim, fun _ _ q => q.elim⟩ q⟩
  exact fun μ' H' σ u v r s => q μ' H' .non u r .non'
theorem mkN {x : Str} {params : Arguments} {body : List Stmt} {scope : Scope} {kws : List (Str × V)} {N : List Str} {ws : WN} (mo : MoN ws) (g : mg x = some (.ref (He.ga C.K x))) (kp : PySem.W.keepIn C.K (.ref (He.ga C.K x)) = true)
    (F : FunD C.K x x params body scope [] kws (He.ga C.K x) fd) (S : FnScope N ps scope) (hn : ps.length = n)
    (b : ∀ (kV doc pm : Value) (an : Option Addr) (cdv ct : Value) (us : List Value), us.length = ps.length → bindArgs (PySem.W.fnOf x x params body scope .none kV doc pm an cdv ct) ⟨us, []⟩ = pure (ps.zip us))
    (hb : ∀ (A : Around) (out : List Env) (s : Shared) (H : Hp) (E : XK) (cdv : Value) (X : Cx), cdv = .ref (RH.codeAd C.K x) → X = cxOf (L2.CX P w) P w C.K mg base N x scope (He.ga C.K x) cdv A out s H E → Ok X C E k → NSs X C E body ws) :
    Fun P w C mg base (k + 1) x n (wFunN N.length ws) := ⟨⟨fd, ps, fnN F S hn hb, FunD.bindsN F b⟩, g, kp, fun ps hp e Q Q' i q => mo _ _ _ { nx := fun _ h => Q .non h, rt := Q } _ ⟨fun _ h q => i _ _ q, fun _ h q => i _ _ q, fun _ _ q => q, fun _ _ q => q⟩ q⟩
theorem mkF {x : Str} {params : Arguments} {body : List Stmt} {scope : Scope} {kws : List (Str × V)} {N : List Str} {f : FS} (g : mg x = some (.ref (He.ga C.K x))) (kp : PySem.W.keepIn C.K (.ref (He.ga C.K x)) = true)
    (F : FunD C.K x x params body scope [] kws (He.ga C.K x) fd) (S : FnScope N ps scope) (hn : ps.length = n)
    (b : ∀ (kV doc pm : Value) (an : Option Addr) (cdv ct : Value) (us : List Value), us.length = ps.length → bindArgs (PySem.W.fnOf x x params body scope .none kV doc pm an cdv ct) ⟨us, []⟩ = pure (ps.zip us))
    (hb : ∀ (A : Around) (out : List Env) (s : Shared) (H : Hp) (E : XK) (cdv : Value) (X : Cx), cdv = .ref (RH.codeAd C.K x) → X = cxOf (L2.CX P w) P w C.K mg base N x scope (He.ga C.K x) cdv A out s H E → Ok X C E k → NSs X C E body (toN f)) :
    Fun P w C mg base (k + 1) x n (toF (bodyF N.length f)) := (mkN toN.mo g kp F S hn b hb).weak toF.mo fun _ _ _ _ q => toF_body q
theorem mkFK {x : Str} {params : Arguments} {body : List Stmt} {scope : Scope} {kws : List (Str × V)} {N : List Str} {f : FS} {ks : List Str} {perm : List Nat} (g : mg x = some (.ref (He.ga C.K x))) (kp : PySem.W.keepIn C.K (.ref (He.ga C.K x)) = true)
    (F : FunD C.K x x params body scope [] kws (He.ga C.K x) fd) (S : FnScope N ps scope) (hn : ps.length = n)
    (b : ∀ (kV doc pm : Value) (an : Option Addr) (cdv ct : Value) (us : List Value), us.length = ks.length → bindArgs (PySem.W.fnOf x x params body scope .none kV doc pm an cdv ct) ⟨[], ks.zip us⟩ = pure (ps.zip (pick perm us)))
    (hb : ∀ (A : Around) (out : List Env) (s : Shared) (H : Hp) (E : XK) (cdv : Value) (X : Cx), cdv = .ref (RH.codeAd C.K x) → X = cxOf (L2.CX P w) P w C.K mg base N x scope (He.ga C.K x) cdv A out s H E → Ok X C E k → NSs X C E body (toN f)) :
    FunK P w C mg base (k + 1) x n (toF (bodyF N.length f)) ks perm := ⟨⟨fd, ps, (fnN F S hn hb).weak fun _ _ _ _ q => toF_body q, fun s us hl => by
      obtain ⟨oc, od, dV, kV, doc, pm, an, cdv, ct, osl, rfl, lk, hcd, hD, hK⟩ := F.ex
      rcases hD with ⟨_, rfl⟩ | ⟨e, _⟩
      · exact .of_eq (b kV doc pm an cdv ct us hl)
      · exact absurd rfl e⟩, g, kp, toF.mo⟩
end
/-! ### short words -/
section
variable {X : Cx} {C : Cfg} {E : XK} {k : Nat} {x a b d t : Expr} {es : List Expr} {fa fb fd : FE} {f : FA} {m : FM} {ta : FT} {F : FF} {n : Nat} {nm : Str} {pos pos' p p1 apos cpos : Pos} {R R2 : List Nat} {sts s2 : List Stmt} {fs fs2 : FS}
theorem y_fun {j : Nat} (c : Ok X C E k) (G : Fun X.prog X.w C X.mg X.base j nm n (toF F)) (hj : j ≤ k) (ha : RA X C E (x :: es) (toA f)) (gl : Gl X nm := by rfl) (hdb : (nm == ("__debug__" : Str)) = false := by decide)
    (he : starEach (x :: es) X.env = (false, eval x X.env) :: starEach es X.env := by rfl) (hpl : (backTo pos (starEach es X.env)).any (·.1) = false := by rfl) : RE X C E (.Call (.Name nm p) (x :: es) [] pos) (toE (fCall n F f)) :=
  (re_fun c.hK G c.cm (c.rm.mono hj) c.tk gl ha hdb he hpl).imp toE.mo fun _ _ _ _ q => im_call q
theorem y_fun0 {j : Nat} (c : Ok X C E k) (G : Fun X.prog X.w C X.mg X.base j nm 0 (toF F)) (hj : j ≤ k) (gl : Gl X nm := by rfl) (hdb : (nm == ("__debug__" : Str)) = false := by decide) : RE X C E (.Call (.Name nm p) [] [] pos) (toE (fun _ => F [])) :=
  (re_fun0 c.hK G c.cm (c.rm.mono hj) c.tk gl hdb).imp toE.mo fun _ _ _ _ q => im_call0 q
theorem yk_nil : RK X C E [] (toA fNil) := ⟨toA.mo, PK.imp rk_nil.pk fun σ H Q ⟨μ, hp, σI, e, A, s, q⟩ => ⟨μ, hp, σI, e, A, s, im_nil q⟩⟩
theorem yk_cons {kws : List Keyword} {kn : Option Str} {kpos : Pos} (hx : RE X C E x (toE fa)) (hr : RK X C E kws (toA f)) : RK X C E (⟨kn, x, kpos⟩ :: kws) (toA (fCons fa f)) := ⟨toA.mo, PK.imp (rk_cons hx hr).pk fun σ H Q ⟨μ, hp, σI, e, A, s, q⟩ => ⟨μ, hp, σI, e, A, s, im_cons q⟩⟩
theorem y_funK {j : Nat} {ks : List Str} {perm : List Nat} {kws : List Keyword} (c : Ok X C E k) (G : FunK X.prog X.w C X.mg X.base j nm n (toF F) ks perm) (hj : j ≤ k) (hkw : RK X C E kws (toA f)) (hn : ks.length = n := by rfl) (gl : Gl X nm := by rfl) (hdb : (nm == ("__debug__" : Str)) = false := by decide)
    (hall : (backToKw pos (keywordEach kws X.env)).all (·.1.isSome) = true := by rfl) (hks : (backToKw pos (keywordEach kws X.env)).filterMap (·.1) = ks := by rfl) (hpl : ((backTo pos (starEach [] X.env)).any (·.1) || (backToKw pos (keywordEach kws X.env)).any (·.1.isNone)) = false := by rfl) :
    RE X C E (.Call (.Name nm p) [] kws pos) (toE (fCallK n perm F f)) :=
  (re_funK c.hK G hn c.cm (c.rm.mono hj) c.tk gl hkw hdb hall hks hpl).imp toE.mo fun _ _ _ _ q => im_callK q
/-! fresh things -/
theorem ym_list (c : Ok X C E k) (hm : X.mg "list" = none) (ha : RE X C E a (toE fa)) (gl : Gl X "list" := by rfl) (he : starEach [a] X.env = (false, eval a X.env) :: starEach [] X.env := by rfl) (hpl : (backTo pos (starEach [] X.env)).any (·.1) = false := by rfl) : RM X C E (.Call (.Name "list" p) [a] [] pos) (fmFn listC fa) := rm_list hm ha c.hK gl he hpl
theorem ym_sl (c : Ok X C E k) {lo hi : Option Expr} {fl fh : FO} {p2 : Pos} (ha : RE X C E x (toE fa)) (hl : RO X C E lo (toO fl)) (hh : RO X C E hi (toO fh)) : RM X C E (.Subscript x (.Slice lo hi none p2) pos) (fmSl fa fl fh) := rm_sl c.hK ha hl hh
theorem ym_lc {tge iter elt : Expr} {ifs : List Expr} {scope : Scope} {it : FA} {tt : FT} {el : FE} (c : Ok X C E k) (own : List (Str × Nat)) (tg : Tg) (hi : RI X C E tge iter (toI it)) (hg : ∀ s H Ca cl fp, TgIs (X.blk s H scope (compEnvC scope cl Ca X.env) fp) tge tg) (ht : ∀ s H Ca cl fp, RTs (X.blk s H scope (compEnvC scope cl Ca X.env) fp) C E0 ifs (toT tt))
    (he : ∀ s H Ca cl fp, RE (X.blk s H scope (compEnvC scope cl Ca X.env) fp) C E0 elt (toE el)) (ok : blkC X.N X.env.scope scope own = true := by decide +kernel) (hv : ∀ i ∈ tg.ix, i ∈ own.map (·.2) := by decide) (hs : ∀ x, foldedSetIterable iter X.env x = pure x := by intro _; rfl) :
    RM X C E (.ListComp elt [⟨tge, iter, ifs, 0⟩] scope pos) (fmLc tg (own.map (·.2)) it tt el) := rm_lc c.hK c.hc c.hN hi ok hv hg ht he hs
theorem am_v (c : Ok X C E k) {l : List AM} (h : RE X C E x (toE fa)) (r : RAM X C E es l) (hs : starEach (x :: es) X.env = (false, eval x X.env) :: starEach es X.env := by rfl) : RAM X C E (x :: es) (.v fa :: l) := .v h r hs
theorem am_c (c : Ok X C E k) {l : List AM} (h : RM X C E x m) (r : RAM X C E es l) (hs : starEach (x :: es) X.env = (false, eval x X.env) :: starEach es X.env := by rfl) : RAM X C E (x :: es) (.c m :: l) := .c h r hs
/-! statements -/
theorem y_if (c : Ok X C E k) (R : List Nat) (ht : RT X C E t (toT ta)) (ha : NSs X C E sts (toN fs)) (hb : NSs X C E s2 (toN fs2)) : NS X C E (.If t sts s2 pos) (toN (fIf R ta fs fs2)) := ns_if ht ha hb
theorem y_do (c : Ok X C E k) (R : List Nat) (h : RE X C E x (toE fa)) (hs : swapsWith x none pos.line X.env = pure false := by rfl) : NS X C E (.Expr x pos) (toN (fDo R fa)) := ns_do h hs
theorem y_ret (c : Ok X C E k) (R : List Nat) (h : RE X C E x (toE fa)) : NS X C E (.Return (some x) pos) (toN (fRet R fa)) := ns_ret h
theorem y_set (c : Ok X C E k) (R : List Nat) (i : Nat) {y : Str} (h : RE X C E x (toE fa)) (hi : X.N[i]? = some y := by rfl) (hx : Loc X.env.scope y := by first | exact .inl rfl | exact .inr rfl) (hf : X.fn y = true ∨ X.env.scope.names.lookup y = some .local := by first | exact .inl rfl | exact .inr rfl)
    (hs : swapsWith x (some (.Name y pos')) pos.line X.env = pure false := by rfl) : NS X C E (.Assign [.Name y pos'] x pos) (toN (fAsg R (.nm i) fa)) := ns_set c.hN hi hx hf h hs
theorem y_unp (c : Ok X C E k) (R : List Nat) {tg : Expr} {g : Tg} (hg : TgIs X tg g) (h : RE X C E x (toE fa)) (hs : swapsWithSole [tg] x pos.line X.env = pure false := by rfl) (hw : swappedStores [tg] x X.env = pure none := by rfl) (h1 : (assignEach [tg] X.env).map (·.2) = [assign tg X.env] := by rfl) : NS X C E (.Assign [tg] x pos) (toN (fAsg R g fa)) := ns_unp c.hK c.hc c.hN hg h hs hw h1
theorem y_own (c : Ok X C E k) (R : List Nat) (i : Nat) {y : Str} (h : RM X C E x m) (hi : X.N[i]? = some y := by rfl) (hx : Loc X.env.scope y := by first | exact .inl rfl | exact .inr rfl) (hf : X.fn y = true ∨ X.env.scope.names.lookup y = some .local := by first | exact .inl rfl | exact .inr rfl)
    (hs : swapsWith x (some (.Name y pos')) pos.line X.env = pure false := by rfl) : NS X C E (.Assign [.Name y pos'] x pos) (toN (fOwn R i m)) := ns_own c.hN hi hx hf h hs
theorem y_ownLc {tge iter elt : Expr} {ifs : List Expr} {scope : Scope} {it : FA} {tt : FT} {el : FE} {py spos : Pos} (c : Ok X C E k) (own : List (Str × Nat)) (tg : Tg) (i : Nat) {y : Str} (hi : RI X C E tge iter (toI it)) (hg : ∀ s H Ca cl fp, TgIs (X.blk s H scope (compEnvC scope cl Ca X.env) fp) tge tg) (ht : ∀ s H Ca cl fp, RTs (X.blk s H scope (compEnvC scope cl Ca X.env) fp) C E0 ifs (toT tt))
    (he : ∀ s H Ca cl fp, RE (X.blk s H scope (compEnvC scope cl Ca X.env) fp) C E0 elt (toE el)) (hy : X.N[i]? = some y := by rfl) (hyl : X.env.scope.names.lookup y = some .local := by rfl) (hsw : swapsWith (.ListComp elt [⟨tge, iter, ifs, 0⟩] scope pos) (some (.Name y py)) spos.line X.env = pure true := by exact sw_true rfl rfl rfl (by decide +kernel))
    (ok : blkC X.N X.env.scope scope own = true := by decide +kernel) (hv : ∀ i ∈ tg.ix, i ∈ own.map (·.2) := by decide) (hs : ∀ x, foldedSetIterable iter X.env x = pure x := by intro _; rfl) :
    NS X C E (.Assign [.Name y py] (.ListComp elt [⟨tge, iter, ifs, 0⟩] scope pos) spos) (toN (fOwn [] i (fmLc tg (own.map (·.2)) it tt el))) := ns_ownLc c.hK c.hc c.hN hy hyl hsw hi ok hv hg ht he hs
theorem y_for (c : Ok X C E k) (R : List Nat) {tg iter : Expr} {g : Tg} {it : FA} (hi : RI X C E tg iter (toI it)) (hg : TgIs X tg g) (hb : NSs X C E sts (toN fs)) (hs : ∀ x, foldedSetIterable iter X.env x = pure x := by intro _; rfl) : NS X C E (.For tg iter sts [] pos) (toN (fFor R g it fs)) := ns_for c.hK c.po c.hc c.hN hi hg hb hs
theorem y_whl (c : Ok X C E k) (N : Nat) (R : List Nat) (ht : RT X C E t (toT ta)) (hb : NSs X C E sts (toN fs)) : NS X C E (.While t sts [] pos) (toN (fWhl N R ta fs)) := ns_whl c.po ht hb
theorem y_raise (c : Ok X C E k) (R : List Nat) {cn : Str} {B fI : Addr} {pos2 : Pos} (T : RX.ErrTxt C.K cn (fldOf cn) (He.ga C.K cn) B fI) (gC : X.mg cn = some (.ref (He.ga C.K cn))) (ha : RE X C E a (toE fa)) (hg : Gl X cn := by rfl) (hdb : (cn == ("__debug__" : Str)) = false := by decide)
    (he : starEach [a] X.env = (false, eval a X.env) :: starEach [] X.env := by rfl) (hpl : (backTo pos (starEach [] X.env)).any (·.1) = false := by rfl) : NS X C E (.Raise (some (.Call (.Name cn p) [a] [] pos)) none pos2) (toN (fRaise R cn fa)) := ns_raise c.hK c.hc (by rw [c.hK]; exact T) gC c.rm c.tk hg ha hdb he hpl
theorem y_app (c : Ok X C E k) (R : List Nat) (i : Nat) (ha : RE X C E x (toE fa)) (hi : X.N[i]? = some nm := by rfl) (hv : Vis X.env.scope nm := by first | exact .inl rfl | exact .inr (.inl rfl) | exact .inr (.inr rfl)) (hd : (nm == ("__debug__" : Str)) = false := by decide) (hcd : (nm == ("__classdict__" : Str)) = false := by decide)
    (he : starEach [x] X.env = (false, eval x X.env) :: starEach [] X.env := by rfl) (hbase : attributeBase (.Name nm p1) "append" X.env (eval (.Name nm p1) X.env) = eval (.Name nm p1) X.env := by rfl)
    (hfew : ((backTo cpos (starEach [x] X.env)).all (fun x => !x.1) && (backToKw cpos (keywordEach [] X.env)).all (fun x => x.1.isSome)
      && decide ([x].length + ([] : List Keyword).length + (if ([] : List Keyword).isEmpty then 0 else 1) < 30)) = true := by rfl)
    (hline : (apos.endLine == cpos.line) = true := by rfl) (hpl : (backTo cpos (starEach [] X.env)).any (·.1) = false := by rfl) (hs : swapsWith (.Call (.Attribute (.Name nm p1) "append" apos) [x] [] cpos) none pos.line X.env = pure false := by rfl) :
    NS X C E (.Expr (.Call (.Attribute (.Name nm p1) "append" apos) [x] [] cpos) pos) (toN (fChg R i appG fa)) := ns_chg hr_app PySem.F.slot_list_append PySem.F.type_list_append mt_append hi hv hd hcd ha he hbase hfew hline hpl hs
theorem y_ext (c : Ok X C E k) (R : List Nat) (i : Nat) (ha : RE X C E x (toE fa)) (hi : X.N[i]? = some nm := by rfl) (hv : Vis X.env.scope nm := by first | exact .inl rfl | exact .inr (.inl rfl) | exact .inr (.inr rfl)) (hd : (nm == ("__debug__" : Str)) = false := by decide) (hcd : (nm == ("__classdict__" : Str)) = false := by decide)
    (he : starEach [x] X.env = (false, eval x X.env) :: starEach [] X.env := by rfl) (hbase : attributeBase (.Name nm p1) "extend" X.env (eval (.Name nm p1) X.env) = eval (.Name nm p1) X.env := by rfl)
    (hfew : ((backTo cpos (starEach [x] X.env)).all (fun x => !x.1) && (backToKw cpos (keywordEach [] X.env)).all (fun x => x.1.isSome)
      && decide ([x].length + ([] : List Keyword).length + (if ([] : List Keyword).isEmpty then 0 else 1) < 30)) = true := by rfl)
    (hline : (apos.endLine == cpos.line) = true := by rfl) (hpl : (backTo cpos (starEach [] X.env)).any (·.1) = false := by rfl) (hs : swapsWith (.Call (.Attribute (.Name nm p1) "extend" apos) [x] [] cpos) none pos.line X.env = pure false := by rfl) :
    NS X C E (.Expr (.Call (.Attribute (.Name nm p1) "extend" apos) [x] [] cpos) pos) (toN (fChg R i extG fa)) := ns_chg (by rw [c.hK]; exact hr_ext) PySem.F.slot_list_extend PySem.F.type_list_extend mt_extendF hi hv hd hcd ha he hbase hfew hline hpl hs
theorem y_setix (c : Ok X C E k) (R R2 : List Nat) (i : Nat) {spos : Pos} (ha : RE X C E a (toE fa)) (hb : RE X C E b (toE fb)) (hi : X.N[i]? = some nm := by rfl) (hv : Vis X.env.scope nm := by first | exact .inl rfl | exact .inr (.inl rfl) | exact .inr (.inr rfl)) (hd : (nm == ("__debug__" : Str)) = false := by decide) (hcd : (nm == ("__classdict__" : Str)) = false := by decide)
    (hs : swapsWithSole [.Subscript (.Name nm p1) a spos] b pos.line X.env = pure false := by rfl) (hw : swappedStores [.Subscript (.Name nm p1) a spos] b X.env = pure none := by rfl) (h1 : (assignEach [.Subscript (.Name nm p1) a spos] X.env).map (·.2) = [assign (.Subscript (.Name nm p1) a spos) X.env] := by rfl)
    (hst : ∀ v, assign (.Subscript (.Name nm p1) a spos) X.env v = (do
      let ov ← holding [v] (eval (.Name nm p1) X.env)
      let iv ← holding [v, ov] (eval a X.env)
      standAt spos
      holding [v, ov, iv] (setItem ov iv v)
      release [v, ov, iv] []) := by intro _; rfl) : NS X C E (.Assign [.Subscript (.Name nm p1) a spos] b pos) (toN (fSet R R2 i fa fb)) := ns_setix c.u1 hi hv hd hcd ha hb hs hw h1 hst
theorem y_popTo (c : Ok X C E k) (j i : Nat) {y : Str} (hj : X.N[j]? = some y := by rfl) (hx : Loc X.env.scope y := by first | exact .inl rfl | exact .inr rfl) (hf : X.fn y = true ∨ X.env.scope.names.lookup y = some .local := by first | exact .inl rfl | exact .inr rfl) (hi : X.N[i]? = some nm := by rfl) (hv : Vis X.env.scope nm := by first | exact .inl rfl | exact .inr (.inl rfl) | exact .inr (.inr rfl)) (hd : (nm == ("__debug__" : Str)) = false := by decide) (hcd : (nm == ("__classdict__" : Str)) = false := by decide)
    (hbase : attributeBase (.Name nm p1) "pop" X.env (eval (.Name nm p1) X.env) = eval (.Name nm p1) X.env := by rfl) (hline : (apos.endLine == cpos.line) = true := by rfl) (hs : swapsWith (.Call (.Attribute (.Name nm p1) "pop" apos) [] [] cpos) (some (.Name y pos')) pos.line X.env = pure false := by rfl) :
    NS X C E (.Assign [.Name y pos'] (.Call (.Attribute (.Name nm p1) "pop" apos) [] [] cpos) pos) (toN (fPopTo j i)) := ns_popTo c.hN hj hx hf hi hv hd hcd hbase hline hs
theorem y_augAdd (c : Ok X C E k) (R : List Nat) (i : Nat) (ha : RE X C E a (toE fa)) (hi : X.N[i]? = some nm := by rfl) (hx : Loc X.env.scope nm := by first | exact .inl rfl | exact .inr rfl) (hf : X.fn nm = true ∨ X.env.scope.names.lookup nm = some .local := by first | exact .inl rfl | exact .inr rfl) : NS X C E (.AugAssign (.Name nm pos') .Add a pos) (toN (fAug R augAdd i fa)) := ns_aug li_add ip_addG c.hN hi hx hf ha
theorem y_augSub (c : Ok X C E k) (R : List Nat) (i : Nat) (ha : RE X C E a (toE fa)) (hi : X.N[i]? = some nm := by rfl) (hx : Loc X.env.scope nm := by first | exact .inl rfl | exact .inr rfl) (hf : X.fn nm = true ∨ X.env.scope.names.lookup nm = some .local := by first | exact .inl rfl | exact .inr rfl) : NS X C E (.AugAssign (.Name nm pos') .Sub a pos) (toN (fAug R augSub i fa)) := ns_aug li_sub ip_sub c.hN hi hx hf ha
theorem y_par2 (c : Ok X C E k) (R : List Nat) (i j : Nat) {x y : Str} {l : List AM} {px py pt : Pos} {kt k2 pt2} (ha : RAM X C E [a, b] l) (hi : X.N[i]? = some x := by rfl) (hj : X.N[j]? = some y := by rfl) (hij : i ≠ j := by decide) (hx : X.env.scope.names.lookup x = some .local := by rfl) (hy : X.env.scope.names.lookup y = some .local := by rfl)
    (hw : swappedStores [.Tuple [.Name x px, .Name y py] kt pt] (.Tuple [a, b] k2 pt2) X.env = pure (some [x, y]) := by rfl) (hs : swapsWithSole [.Tuple [.Name x px, .Name y py] kt pt] (.Tuple [a, b] k2 pt2) pos.line X.env = pure false := by rfl) :
    NS X C E (.Assign [.Tuple [.Name x px, .Name y py] kt pt] (.Tuple [a, b] k2 pt2) pos) (toN (fPar R [i, j] l)) := ns_par2 c.hc c.hN hi hj hij hx hy ha hw hs
theorem y_par3 (c : Ok X C E k) (R : List Nat) (i j l3 : Nat) {x y z : Str} {l : List AM} {px py pz pt : Pos} {kt k2 pt2} (ha : RAM X C E [a, b, d] l) (hi : X.N[i]? = some x := by rfl) (hj : X.N[j]? = some y := by rfl) (hl : X.N[l3]? = some z := by rfl) (hij : i ≠ j := by decide) (hil : i ≠ l3 := by decide) (hjl : j ≠ l3 := by decide)
    (hx : X.env.scope.names.lookup x = some .local := by rfl) (hy : X.env.scope.names.lookup y = some .local := by rfl) (hz : X.env.scope.names.lookup z = some .local := by rfl)
    (hw : swappedStores [.Tuple [.Name x px, .Name y py, .Name z pz] kt pt] (.Tuple [a, b, d] k2 pt2) X.env = pure (some [x, y, z]) := by rfl) (hs : swapsWithSole [.Tuple [.Name x px, .Name y py, .Name z pz] kt pt] (.Tuple [a, b, d] k2 pt2) pos.line X.env = pure false := by rfl) :
    NS X C E (.Assign [.Tuple [.Name x px, .Name y py, .Name z pz] kt pt] (.Tuple [a, b, d] k2 pt2) pos) (toN (fPar R [i, j, l3] l)) := ns_par3 c.hc c.hN hi hj hl hij hil hjl hx hy hz ha hw hs
end
/-! a tuple of texts of the module: index -/
def fIdx (ys : List Str) (a : FE) : FE := fun σ => (a σ).bind fun p => match p with
  | .str z => match ys.findIdx? (· == z) with
    | some j => M.ret (.int j)
    | none => M.bad
  | _ => M.bad
theorem y_tindex {X : Cx} {C : Cfg} {E : XK} {k : Nat} {x : Expr} {fa : FE} {nm : Str} {p1 apos cpos : Pos} {ys : List Str} (c : Ok X C E k) (hm : X.mg nm = some (.ref (He.ga C.K nm))) (hs : ∀ H, SqT C.K H (He.ga C.K nm) (ys.map V.str)) (ht : ∃ o, C.K.lookup (He.ga C.K nm) = some o ∧ o.cls = .type "tuple" ∧ o.dict = none)
    (ha : RE X C E x (toE fa)) (gl : Gl X nm := by rfl) (hd : (nm == ("__debug__" : Str)) = false := by decide) (he : starEach [x] X.env = (false, eval x X.env) :: starEach [] X.env := by rfl) (hbase : attributeBase (.Name nm p1) "index" X.env (eval (.Name nm p1) X.env) = eval (.Name nm p1) X.env := by rfl)
    (hfew : ((backTo cpos (starEach [x] X.env)).all (fun x => !x.1) && (backToKw cpos (keywordEach [] X.env)).all (fun x => x.1.isSome)
      && decide ([x].length + ([] : List Keyword).length + (if ([] : List Keyword).isEmpty then 0 else 1) < 30)) = true := by rfl)
    (hline : (apos.endLine == cpos.line) = true := by rfl) (hpl : (backTo cpos (starEach [] X.env)).any (·.1) = false := by rfl) :
    RE X C E (.Call (.Attribute (.Name nm p1) "index" apos) [x] [] cpos) (toE (fIdx ys fa)) := by
  refine ⟨toE.mo, PE.imp (pe_bm PySem.F.plainAttrs_tuple PySem.F.slot_tuple_index PySem.F.type_tuple_index mt_tup_index (pe_glob (v := .ref (He.ga C.K nm)) gl hm rfl hd) (pa_cons ha.pe pa_nil he) hbase hfew hline he hpl) fun σ H Q ⟨μ, hp, σI, e, A, s, q⟩ => ?_⟩
  refine ⟨.inr (.inl ⟨rfl, by rw [c.hK]; exact ht⟩), ?_⟩
  refine tE.go ha.mo A s (toM.bind q) fun p h1 μ1 H1 v q1 u1 A1 s1 r1 => ?_
  cases p with
  | str z =>
    simp only at q1
    split at q1
    · rename_i j hj
      rw [List.findIdx?_eq_some_iff_getElem] at hj
      obtain ⟨l, h2, h3⟩ := hj
      refine ⟨_, ys, z, j, rfl, by rw [r1.strI], by rw [c.hK]; exact hs H1, by rw [List.getElem?_eq_getElem l]; exact congrArg some (eq_of_beq h2), fun m hm h => ?_, ((toM.ret q1 : fE C μ H Q (.int j) h1).up u1).here A1 .int'⟩
      have := h3 m hm
      obtain ⟨l2, e2⟩ := List.getElem?_eq_some_iff.mp h
      rw [e2] at this
      simp at this
    · exact (toM.nobad q1).elim
  | _ => exact (toM.nobad q1).elim
end RF

set_option Elab.async false
set_option linter.all false
set_option maxRecDepth 100000
set_option maxHeartbeats 1000000
/-! Part P1: the plain side: the deck. -/
namespace RF
open PySem PySem.Spec L2
def gDraw : WS := (wSeq (wDPut (wVar 0) (wC (.str "draws")) (wOp gAdd (wDGet (wVar 0) (wC (.str "draws"))) (wC (.int 1)))) (wSeq (wIf (wCmpT cNe (wDGet (wVar 0) (wC (.str "left"))) (wLst wNil)) (wSeq (wAsg (.nm 2) (wMt isLs gPop (wDGet (wVar 0) (wC (.str "left"))) wNil)) (wSeq (wIf (wCmpT cGe (wVar 2) (wOp gPow (wC (.int 10)) (wC (.int 18)))) (wSeq (wDo (wMt isLs gApp (wDGet (wVar 0) (wC (.str "left"))) (wCons (wOp gDiv (wVar 2) (wFn gMax (wCons (wC (.int 2)) (wCons (wVar 1) wNil)))) wNil))) (wRet (wOp gMod (wFn gInt (wCons (wVar 2) wNil)) (wVar 1)))) wPass) (wDPut (wVar 0) (wC (.str "mixed")) (wOp gMod (wFn gInt (wCons (wOp gAdd (wOp gAdd (wOp gMul (wDGet (wVar 0) (wC (.str "mixed"))) (wC (.int 48271))) (wOp gMod (wFn gInt (wCons (wVar 2) wNil)) (wC (.int 2147483587)))) (wC (.int 5))) wNil)) (wC (.int 2147483629)))))) wPass) (wSeq (wAsg (.nm 3) (wOp gMod (wFn gInt (wCons (wOp gAdd (wDGet (wVar 0) (wC (.str "mixed"))) (wOp gMul (wC (.int 69621)) (wDGet (wVar 0) (wC (.str "draws"))))) wNil)) (wC (.int 2147483647)))) (wSeq (wAsg (.nm 3) (wOp gMod (wFn gInt (wCons (wOp gAdd (wOp gAdd (wOp gMul (wVar 3) (wVar 3)) (wOp gMul (wC (.int 40014)) (wDGet (wVar 0) (wC (.str "draws"))))) (wC (.int 7))) wNil)) (wC (.int 2147483563)))) (wSeq (wAsg (.nm 3) (wOp gMod (wFn gInt (wCons (wOp gAdd (wOp gMul (wVar 3) (wC (.int 30269))) (wC (.int 101))) wNil)) (wC (.int 2147483587)))) (wRet (wOp gMod (wFn gInt (wCons (wOp gDiv (wVar 3) (wC (.int 64))) wNil)) (wVar 1))))))))
/-- the deck stands at d, what is left of the script at l -/
def Deck (d l : Nat) (hp : PH) : Prop := ∃ (xs : List Int) (m k : Int), hp d = some (.dct [(.inr "left", .loc l), (.inr "mixed", .int m), (.inr "draws", .int k)]) ∧ hp l = some (.lst (xs.map PV.int)) ∧ d ≠ l ∧ 0 ≤ m ∧ m < 2147483629 ∧ xs.length ≤ 63
/-- the figure drawn -/
def figV (m k many : Int) : Int := ((((((m + 69621 * k).fmod 2147483647) * ((m + 69621 * k).fmod 2147483647) + 40014 * k + 7).fmod 2147483563) * 30269 + 101).fmod 2147483587).fdiv 64 |>.fmod many
def mixV (m x : Int) : Int := (m * 48271 + x.fmod 2147483587 + 5).fmod 2147483629
theorem mixV_lo (m x : Int) : 0 ≤ mixV m x := Int.fmod_nonneg_of_pos _ (by decide)
theorem mixV_hi (m x : Int) : mixV m x < 2147483629 := Int.fmod_lt_of_pos _ (by decide)
def drawV (D : Dk) (many : Int) : Int × Dk := match h : D.left.getLast? with
  | none => (figV D.mixed (D.draws + 1) many, ⟨D.left, D.mixed, D.draws + 1, D.few, D.lo, D.hi⟩)
  | some x => if 10 ^ 18 ≤ x then (x.fmod many, ⟨D.left.dropLast ++ [x.fdiv (if many > 2 then many else 2)], D.mixed, D.draws + 1, by
      have := D.few
      have e : D.left ≠ [] := fun z => by rw [z] at h; cases h
      have := List.length_pos_iff.mpr e
      simp; omega, D.lo, D.hi⟩)
    else (figV (mixV D.mixed x) (D.draws + 1) many, ⟨D.left.dropLast, mixV D.mixed x, D.draws + 1, by have := D.few; simp; omega, mixV_lo _ _, mixV_hi _ _⟩)
theorem drawV_lo (D : Dk) {many : Int} (h : 0 < many) : 0 ≤ (drawV D many).1 := by
  unfold drawV
  split
  · exact Int.fmod_nonneg_of_pos _ h
  · split
    · exact Int.fmod_nonneg_of_pos _ h
    · exact Int.fmod_nonneg_of_pos _ h
theorem drawV_hi (D : Dk) {many : Int} (h : 0 < many) : (drawV D many).1 < many := by
  unfold drawV
  split
  · exact Int.fmod_lt_of_pos _ h
  · split
    · exact Int.fmod_lt_of_pos _ h
    · exact Int.fmod_lt_of_pos _ h
/-- drawing -/
def drawF : FF := fun ps d D => match ps with
  | [.loc n, .int many] => if n = d.1 ∧ 0 < many ∧ many < 1000000000 then .ok (.int (drawV D many).1) (drawV D many).2 else .bad
  | _ => .bad
theorem toDs_ints : ∀ xs : List Int, toDs (xs.map PV.int) = some (xs.map PyData.int)
  | [] => rfl
  | x :: xs => by
    simp only [List.map_cons, toDs, toD, toDs_ints xs, Option.bind_some, Option.map_some]
theorem put_get {hp : PH} {n m : Nat} {c : Cell} : put hp n c m = if m = n then some c else hp m := rfl
theorem shaped_ints (xs : List Int) : SeqAt.shaped (.list (xs.map PyData.int)) = true := by
  have a1 : ∀ xs : List Int, PyData.canLayAll0 (xs.map PyData.int) = true := by
    intro xs
    induction xs with
    | nil => rfl
    | cons x xs ih => simp [PyData.canLayAll0, PyData.canLay0, ih]
  have a2 : ∀ xs : List Int, PyData.depthAll (xs.map PyData.int) = 0 := by
    intro xs
    induction xs with
    | nil => rfl
    | cons x xs ih => simp [PyData.depthAll, PyData.depth, ih]
  simp [SeqAt.shaped, PyData.canLay0, PyData.depth, a1, a2]
theorem eqv_nil (ds : List PyData) : (PyData.list ds).eqv (.list []) = ds.isEmpty := by
  cases ds with
  | nil => rfl
  | cons a b => rfl
theorem figs {D : DI} {d l : Nat} {many m k : Int} {z : Option PV} {hp : PH} {e : EI} (hm : 0 < many) (hd : hp d = some (.dct [(.inr "left", .loc l), (.inr "mixed", .int m), (.inr "draws", .int k)]))
    (q : D.rt (.int (figV m k many)) hp) : (wSeq (wAsg (.nm 3) (wOp gMod (wFn gInt (wCons (wOp gAdd (wDGet (wVar 0) (wC (.str "mixed"))) (wOp gMul (wC (.int 69621)) (wDGet (wVar 0) (wC (.str "draws"))))) wNil)) (wC (.int 2147483647)))) (wSeq (wAsg (.nm 3) (wOp gMod (wFn gInt (wCons (wOp gAdd (wOp gAdd (wOp gMul (wVar 3) (wVar 3)) (wOp gMul (wC (.int 40014)) (wDGet (wVar 0) (wC (.str "draws"))))) (wC (.int 7))) wNil)) (wC (.int 2147483563)))) (wSeq (wAsg (.nm 3) (wOp gMod (wFn gInt (wCons (wOp gAdd (wOp gMul (wVar 3) (wC (.int 30269))) (wC (.int 101))) wNil)) (wC (.int 2147483587)))) (wRet (wOp gMod (wFn gInt (wCons (wOp gDiv (wVar 3) (wC (.int 64))) wNil)) (wVar 1)))))) [some (.loc d), some (.int many), z, none] hp e D := by
  have b1 : ∀ x : Int, 0 ≤ x.fmod 2147483647 ∧ x.fmod 2147483647 < 2147483647 := fun x => ⟨Int.fmod_nonneg_of_pos x (by decide), Int.fmod_lt_of_pos x (by decide)⟩
  simp (config := { decide := true }) [wSeq, wAsg, Tg.go, wVar, wC, wOp, wDGet, asD, hd, keyP, getP, gAdd, gInt, gF1, wFn, wCons, wNil, wRet, gMul, gII, gMod, gDiv, CMul, CDivN]
  have b2 := b1 (m + 69621 * k)
  exact ⟨⟨by omega, by omega⟩, by omega, q⟩
theorem put_ne' {hp : PH} {n m : Nat} {c : Cell} (h : m ≠ n) : put hp n c m = hp m := if_neg h
abbrev dk (l : Nat) (m k : Int) : Cell := .dct [(.inr "left", .loc l), (.inr "mixed", .int m), (.inr "draws", .int k)]
section
variable {D : DI} {d l : Nat} {many m k : Int} {z z3 : Option PV} {hp : PH} {e : EI}
theorem dr1 (hd : hp d = some (dk l m k)) (q : D.nx [some (.loc d), some (.int many), z, z3] (put hp d (dk l m (k + 1)))) : wDPut (wVar 0) (wC (.str "draws")) (wOp gAdd (wDGet (wVar 0) (wC (.str "draws"))) (wC (.int 1))) [some (.loc d), some (.int many), z, z3] hp e D := by
  simp (config := { decide := true }) [wDPut, wVar, wC, wOp, wDGet, asD, hd, keyP, getP, putP, gAdd]
  exact ⟨rfl, q⟩
theorem dr2 {a b : WS} {xs : List Int} (hd : hp d = some (dk l m k)) (hl : hp l = some (.lst (xs.map PV.int))) (len : xs.length ≤ 63) (q1 : xs ≠ [] → a [some (.loc d), some (.int many), z, z3] hp e D) (q2 : xs = [] → b [some (.loc d), some (.int many), z, z3] hp e D) :
    wIf (wCmpT cNe (wDGet (wVar 0) (wC (.str "left"))) (wLst wNil)) a b [some (.loc d), some (.int many), z, z3] hp e D := by
  have sh : SeqAt.shaped (.list []) = true := by decide +kernel
  have sx : SeqAt.shaped (.list (xs.map PyData.int)) = true := shaped_ints xs
  simp (config := { decide := true }) [wIf, wCmpT, wVar, wC, wDGet, asD, hd, keyP, getP, wLst, wNil, cNe, toDh, asL, hl, toDs_ints, toD, toDs, sh, sx, eqv_nil]
  cases xs with
  | nil => exact .inl ⟨rfl, q2 rfl⟩
  | cons x xs => exact .inr ⟨by simp, q1 (by simp)⟩
theorem dr3 {x : Int} {xs : List Int} (hd : hp d = some (dk l m k)) (hl : hp l = some (.lst ((xs ++ [x]).map PV.int))) (q : D.nx [some (.loc d), some (.int many), some (.int x), z3] (put hp l (.lst (xs.map PV.int)))) :
    wAsg (.nm 2) (wMt isLs gPop (wDGet (wVar 0) (wC (.str "left"))) wNil) [some (.loc d), some (.int many), z, z3] hp e D := by
  simp (config := { decide := true }) [wAsg, wMt, isLs, gPop, wVar, wC, wDGet, asD, hd, keyP, getP, wNil, asL, hl, Tg.go]
  simpa using q
theorem dr4 {a b : WS} {x : Int} (q1 : 10 ^ 18 ≤ x → a [some (.loc d), some (.int many), some (.int x), z3] hp e D) (q2 : x < 10 ^ 18 → b [some (.loc d), some (.int many), some (.int x), z3] hp e D) :
    wIf (wCmpT cGe (wVar 2) (wOp gPow (wC (.int 10)) (wC (.int 18)))) a b [some (.loc d), some (.int many), some (.int x), z3] hp e D := by
  simp (config := { decide := true }) [wIf, wCmpT, wVar, wC, cGe, cII, wOp, gPow, gII, CPow]
  by_cases h : 1000000000000000000 ≤ x
  · exact .inr ⟨h, q1 (by omega)⟩
  · exact .inl ⟨by omega, q2 (by omega)⟩
theorem dr5 {x : Int} {xs : List Int} (hm : 0 < many) (h9 : many < 1000000000) (hd : hp d = some (dk l m k)) (hl : hp l = some (.lst (xs.map PV.int))) (len : xs.length ≤ 62) (q : D.nx [some (.loc d), some (.int many), some (.int x), z3] (put hp l (.lst ((xs ++ [x.fdiv (if many > 2 then many else 2)]).map PV.int)))) :
    wDo (wMt isLs gApp (wDGet (wVar 0) (wC (.str "left"))) (wCons (wOp gDiv (wVar 2) (wFn gMax (wCons (wC (.int 2)) (wCons (wVar 1) wNil)))) wNil)) [some (.loc d), some (.int many), some (.int x), z3] hp e D := by
  have sl : sizeLine = 16777216 := PySem.sizeLine_eq
  simp (config := { decide := true }) [wDo, wMt, isLs, gApp, wVar, wC, wDGet, asD, hd, keyP, getP, wNil, asL, hl, wCons, wOp, gDiv, gII, CDivN, wFn, gMax, gF2]
  refine ⟨_, _, ⟨rfl, rfl⟩, _, ⟨2, rfl, many, rfl, rfl⟩, _, rfl, ⟨?_, ?_⟩, by omega, ?_⟩
  · split <;> omega
  · split <;> omega
  · exact ⟨rfl, by simpa using q⟩
theorem dr6 {x : Int} (hm : 0 < many) (q : D.rt (.int (x.fmod many)) hp) : wRet (wOp gMod (wFn gInt (wCons (wVar 2) wNil)) (wVar 1)) [some (.loc d), some (.int many), some (.int x), z3] hp e D := by
  simp (config := { decide := true }) [wRet, wVar, wOp, gMod, gII, wFn, gInt, gF1, wCons, wNil]
  exact ⟨by omega, q⟩
theorem dr7 {x : Int} (m0 : 0 ≤ m) (m1 : m < 2147483629) (hd : hp d = some (dk l m k)) (q : D.nx [some (.loc d), some (.int many), some (.int x), z3] (put hp d (dk l (mixV m x) k))) :
    wDPut (wVar 0) (wC (.str "mixed")) (wOp gMod (wFn gInt (wCons (wOp gAdd (wOp gAdd (wOp gMul (wDGet (wVar 0) (wC (.str "mixed"))) (wC (.int 48271))) (wOp gMod (wFn gInt (wCons (wVar 2) wNil)) (wC (.int 2147483587)))) (wC (.int 5))) wNil)) (wC (.int 2147483629))) [some (.loc d), some (.int many), some (.int x), z3] hp e D := by
  simp (config := { decide := true }) [wDPut, wVar, wC, wOp, wDGet, asD, hd, keyP, getP, putP, gAdd, gMul, gII, CMul, gMod, wFn, gInt, gF1, wCons, wNil]
  exact ⟨rfl, q⟩
end
theorem drawF_cases (ps : List PV) (d : Nat × Nat) (D : Dk) : drawF ps d D = .bad ∨ ∃ many, ps = [.loc d.1, .int many] ∧ 0 < many ∧ many < 1000000000 ∧ drawF ps d D = .ok (.int (drawV D many).1) (drawV D many).2 := by
  by_cases h : ∃ many, ps = [.loc d.1, .int many] ∧ 0 < many ∧ many < 1000000000
  · obtain ⟨many, rfl, h1, h2⟩ := h
    exact .inr ⟨many, rfl, h1, h2, if_pos ⟨rfl, h1, h2⟩⟩
  · refine .inl ?_
    unfold drawF
    split
    · rename_i n many
      rw [if_neg]
      rintro ⟨rfl, h1, h2⟩
      exact h ⟨many, rfl, h1, h2⟩
    · rfl
theorem draw_okN (ps : List PV) (hp : PH) (e : EI) (Q : KI) (h : toF drawF ps hp e Q) : wFun 4 gDraw ps hp e Q := by
  obtain ⟨⟨d, l⟩, D, ⟨hd, hl, dl⟩, h⟩ := h
  rcases drawF_cases ps (d, l) D with e0 | ⟨many, rfl, h0, h9, e0⟩
  · rw [e0] at h
    exact h.elim
  · rw [e0] at h
    · skip
      simp only at hd hl dl h
      have ld : l ≠ d := fun z => dl z.symm
      show gDraw [some (.loc d), some (.int many), none, none] hp e _
      unfold gDraw
      have few := D.few
      have hd1 : put hp d (dk l D.mixed (D.draws + 1)) d = some (dk l D.mixed (D.draws + 1)) := put_same
      have hl1 : put hp d (dk l D.mixed (D.draws + 1)) l = some (.lst (D.left.map PV.int)) := (put_ne' ld).trans hl
      refine dr1 hd ?_
      refine dr2 hd1 hl1 few (fun hx => ?_) (fun hx => ?_)
      · obtain ⟨ys, y, hy⟩ : ∃ ys y, D.left = ys ++ [y] := ⟨D.left.dropLast, D.left.getLast hx, (List.dropLast_concat_getLast hx).symm⟩
        have hg : D.left.getLast? = some y := by rw [hy]; simp
        have hdl : D.left.dropLast = ys := by rw [hy]; simp
        rw [hy] at hl1
        refine dr3 hd1 hl1 ?_
        have hd2 : put (put hp d (dk l D.mixed (D.draws + 1))) l (.lst (ys.map PV.int)) d = some (dk l D.mixed (D.draws + 1)) := (put_ne' dl).trans hd1
        have hl2 : put (put hp d (dk l D.mixed (D.draws + 1))) l (.lst (ys.map PV.int)) l = some (.lst (ys.map PV.int)) := put_same
        have ly : ys.length ≤ 62 := by rw [hy] at few; simp at few; omega
        refine dr4 (fun h18 => ?_) (fun h18 => ?_)
        · refine dr5 h0 h9 hd2 hl2 ly ?_
          refine dr6 h0 ⟨_, fun _ _ z => z, ?_⟩
          have e1 : (drawV D many).1 = y.fmod many := by
            unfold drawV; split
            · rename_i z; rw [hg] at z; cases z
            · rename_i z; rw [hg] at z; cases z; rw [if_pos h18]
          have e2 : (drawV D many).2.left = ys ++ [y.fdiv (if many > 2 then many else 2)] ∧ (drawV D many).2.mixed = D.mixed ∧ (drawV D many).2.draws = D.draws + 1 := by
            unfold drawV; split
            · rename_i z; rw [hg] at z; cases z
            · rename_i z; rw [hg] at z; cases z; rw [if_pos h18]; exact ⟨by rw [← hdl], rfl, rfl⟩
          rw [e1] at h
          refine h _ ⟨?_, ?_, dl⟩ fun n n1 n2 => ?_
          · rw [e2.2.1, e2.2.2]; exact (put_ne' dl).trans hd2
          · rw [e2.1]; exact put_same
          · rw [put_ne' n2, put_ne' n2, put_ne' n1]
        · refine dr7 D.lo D.hi hd2 ?_
          refine figs h0 put_same ⟨_, fun _ _ z => z, ?_⟩
          have h18' : ¬ 10 ^ 18 ≤ y := by omega
          have e1 : (drawV D many).1 = figV (mixV D.mixed y) (D.draws + 1) many := by
            unfold drawV; split
            · rename_i z; rw [hg] at z; cases z
            · rename_i z; rw [hg] at z; cases z; rw [if_neg h18']
          have e2 : (drawV D many).2.left = ys ∧ (drawV D many).2.mixed = mixV D.mixed y ∧ (drawV D many).2.draws = D.draws + 1 := by
            unfold drawV; split
            · rename_i z; rw [hg] at z; cases z
            · rename_i z; rw [hg] at z; cases z; rw [if_neg h18']; exact ⟨by rw [← hdl], rfl, rfl⟩
          rw [e1] at h
          refine h _ ⟨?_, ?_, dl⟩ fun n n1 n2 => ?_
          · rw [e2.2.1, e2.2.2]; exact put_same
          · rw [e2.1]; exact (put_ne' ld).trans hl2
          · rw [put_ne' n1, put_ne' n2, put_ne' n1]
      · refine figs h0 hd1 ⟨_, fun _ _ z => z, ?_⟩
        have hg : D.left.getLast? = none := by rw [hx]; rfl
        have e1 : (drawV D many).1 = figV D.mixed (D.draws + 1) many := by
          unfold drawV; split
          · rfl
          · rename_i z; rw [hg] at z; cases z
        have e2 : (drawV D many).2.left = D.left ∧ (drawV D many).2.mixed = D.mixed ∧ (drawV D many).2.draws = D.draws + 1 := by
          unfold drawV; split
          · exact ⟨rfl, rfl, rfl⟩
          · rename_i z; rw [hg] at z; cases z
        rw [e1] at h
        refine h _ ⟨?_, ?_, dl⟩ fun n n1 n2 => put_ne' n1
        · rw [e2.2.1, e2.2.2]; exact hd1
        · rw [e2.1]; exact hl1
end RF

set_option Elab.async false
set_option linter.all false
set_option maxRecDepth 100000
set_option maxHeartbeats 1000000
/-! Part P2: loops and comprehensions on the plain side; the deck made, a pick. -/
namespace RF
open PySem PySem.Spec L2
theorem forW_ind {t : Tg} {b : WS} {e : EI} {D : DI} (I : List PV → SI → PH → Prop) (h0 : ∀ σ h, I [] σ h → D.nx σ h)
    (hs : ∀ p ps σ h, I (p :: ps) σ h → ∃ σ', t.go p σ = some σ' ∧ ∀ K : SI → PH → Prop, (∀ σ h, I ps σ h → K σ h) → b σ' h e ⟨K, D.rt, D.nx, K⟩) : ∀ ps σ h, I ps σ h → forW t b e D ps σ h
  | [], σ, h, i => h0 σ h i
  | p :: ps, σ, h, i => by
    obtain ⟨σ', e1, z⟩ := hs p ps σ h i
    exact ⟨σ', e1, z _ fun σ h i => forW_ind I h0 hs ps σ h i⟩
theorem compW_ind {tg : Tg} {tt : WT} {el : WE} {σ : SI} {Q : List PV → PH → Prop} (I : List PV → List PV → PH → Prop) (h0 : ∀ acc h, I [] acc h → Q acc h)
    (hs : ∀ p ps acc h, I (p :: ps) acc h → ∃ σ', tg.go p σ = some σ' ∧ ∀ K : List PV → PH → Prop, (∀ acc h, I ps acc h → K acc h) → tt σ' h eNo fun b h => if b = true then el σ' h eNo fun y h2 => acc.length < sizeLine ∧ K (acc ++ [y]) h2 else K acc h) :
    ∀ ps acc h, I ps acc h → compW tg tt el σ ps acc h Q
  | [], acc, h, i => h0 acc h i
  | p :: ps, acc, h, i => by
    obtain ⟨σ', e1, z⟩ := hs p ps acc h i
    exact ⟨σ', e1, z _ fun acc h i => compW_ind I h0 hs ps acc h i⟩
/-- every item gives one, nothing is changed -/
theorem compW_map {tg : Tg} {el : WE} {σ : SI} {Q : List PV → PH → Prop} {hp : PH} (f : PV → PV) : ∀ (ps acc : List PV), (∀ p ∈ ps, ∃ σ', tg.go p σ = some σ' ∧ ∀ R : KI, R (f p) hp → el σ' hp eNo R) → acc.length + ps.length ≤ sizeLine → Q (acc ++ ps.map f) hp → compW tg wYes el σ ps acc hp Q
  | [], acc, _, _, q => by simpa [compW] using q
  | p :: ps, acc, h, l, q => by
    obtain ⟨σ', e1, z⟩ := h p (List.mem_cons_self ..)
    rw [List.length_cons] at l
    refine ⟨σ', e1, ?_⟩
    simp only [wYes, if_true]
    refine z _ ⟨by omega, compW_map f ps (acc ++ [f p]) (fun p m => h p (List.mem_cons_of_mem _ m)) (by rw [List.length_append]; simp; omega) ?_⟩
    simpa using q
/-- .. of those that are kept -/
theorem compW_filter {tg : Tg} {tt : WT} {el : WE} {σ : SI} {Q : List PV → PH → Prop} {hp : PH} (keep : PV → Bool) (f : PV → PV) : ∀ (ps acc : List PV), (∀ p ∈ ps, ∃ σ', tg.go p σ = some σ' ∧ (∀ R : Bool → PH → Prop, R (keep p) hp → tt σ' hp eNo R) ∧ ∀ R : KI, R (f p) hp → el σ' hp eNo R) →
    acc.length + ps.length ≤ sizeLine → Q (acc ++ (ps.filter keep).map f) hp → compW tg tt el σ ps acc hp Q
  | [], acc, _, _, q => by simpa [compW] using q
  | p :: ps, acc, h, l, q => by
    obtain ⟨σ', e1, z1, z2⟩ := h p (List.mem_cons_self ..)
    rw [List.length_cons] at l
    refine ⟨σ', e1, z1 _ ?_⟩
    have rest := fun acc => compW_filter (tg := tg) (tt := tt) (el := el) (σ := σ) (Q := Q) (hp := hp) keep f ps acc (fun p m => h p (List.mem_cons_of_mem _ m))
    cases e : keep p with
    | true =>
      rw [if_pos rfl]
      refine z2 _ ⟨by omega, rest (acc ++ [f p]) (by rw [List.length_append]; simp; omega) ?_⟩
      rw [List.filter_cons, e] at q
      simpa using q
    | false =>
      rw [if_neg (by simp)]
      refine rest acc (by omega) ?_
      rw [List.filter_cons, e] at q
      simpa using q

/-! ### the deck made -/
def gDeck (C : Cfg) (seed : Int) : WS := (wSeq (wAsg (.nm 1) (wC (.int seed))) (wSeq (wFor (.nm 2) (wIt (wScr C (wVar 0) (wSmO (wC (.int 63))))) (wAsg (.nm 1) (wOp gMod (wFn gInt (wCons (wOp gAdd (wOp gAdd (wOp gMul (wVar 1) (wC (.int 39373))) (wOp gMod (wFn gInt (wCons (wVar 2) wNil)) (wC (.int 2147483629)))) (wC (.int 11))) wNil)) (wC (.int 2147483563))))) (wRet (wDctM [((wC (.str "left")), (wRevLM (wFn gList (wCons (wScr C (wVar 0) (wSmO (wC (.int 63)))) wNil)))), ((wC (.str "mixed")), (wVar 1)), ((wC (.str "draws")), (wC (.int 0)))]))))
def sDeck (C : Cfg) : WF := fun ps hp e Q => ∃ a ns, ps = [.ref a] ∧ (a, ns) ∈ C.scr ∧ ∀ d l hp', hp d = none → hp l = none → leP hp hp' → Deck d l hp' → Q (.loc d) hp'
theorem mo_sDeck {C : Cfg} : MoF (sDeck C) := fun ps hp e Q Q' i ⟨a, ns, h1, h2, h3⟩ => ⟨a, ns, h1, h2, fun d l hp' x y z w => i _ _ (h3 d l hp' x y z w)⟩
theorem cut_ints (ns : List Int) : ∃ ms : List Int, cutP (ns.map PV.int) none (some 63) = ms.map PV.int ∧ ms.length ≤ 63 := by
  refine ⟨cutP ns none (some 63), ?_, ?_⟩
  · unfold cutP
    rw [List.length_map, List.map_take, List.map_drop]
  · unfold cutP
    rw [List.length_take]
    have h : HT.sIx ns.length ns.length (some 63) ≤ 63 := by
      show (if (63 : Int) < 0 then ((63 : Int) + (ns.length : Int)).toNat else min (63 : Int).toNat ns.length) ≤ 63
      rw [if_neg (by decide)]
      exact Nat.min_le_left _ _
    omega
theorem ints_flat (ms : List Int) : nls (ms.map PV.int).reverse = true := by
  rw [nls_iff]
  intro p m
  simp only [List.mem_reverse, List.mem_map] at m
  obtain ⟨i, _, rfl⟩ := m
  rfl
theorem deck_ok {C : Cfg} {seed : Int} (s0 : 0 ≤ seed) (s1 : seed < 2147483563) (ps : List PV) (hp : PH) (e : EI) (Q : KI) (h : sDeck C ps hp e Q) : wFun 3 (gDeck C seed) ps hp e Q := by
  obtain ⟨a, ns, rfl, hm, q⟩ := h
  obtain ⟨ms, em, lm⟩ := cut_ints ns
  show gDeck C seed [some (.ref a), none, none] hp e _
  simp only [gDeck, wSeq, wAsg, wC, Tg.go, Option.some.injEq, exists_eq_left', List.set_cons_succ, List.set_cons_zero]
  refine ⟨_, rfl, 63, rfl, a, ns, rfl, hm, ms.map PV.int, by rw [em]; rfl, fun _ => ?_⟩
  refine forW_ind (fun rest σ h => h = hp ∧ (∃ rs : List Int, rest = rs.map PV.int) ∧ ∃ (m : Int) (z : Option PV), 0 ≤ m ∧ m < 2147483563 ∧ σ = [some (.ref a), some (.int m), z]) (fun σ h i => ?_) (fun p ps σ h i => ?_) _ _ _ ⟨rfl, ⟨ms, rfl⟩, seed, none, s0, s1, rfl⟩
  · obtain ⟨rfl, _, m, z, m0, m1, rfl⟩ := i
    refine ⟨_, rfl, 63, rfl, a, ns, rfl, hm, _, _, rfl, ⟨_, rfl, rfl⟩, _, rfl, by rw [show cutP (ns.map PV.int) none (some 63) = ms.map PV.int from em]; exact ints_flat _, fun l hl => ?_⟩
    refine ⟨_, rfl, _, rfl, rfl, fun d hd => ?_⟩
    have dl : d ≠ l := fun z => by
      rw [z, put_same] at hd
      cases hd
    rw [put_ne' dl] at hd
    refine ⟨_, fun _ _ z => z, q d l _ hd hl (fun n c hc => ?_) ⟨ms.reverse, m, 0, put_same, ?_, dl, m0, by omega, by simpa using lm⟩⟩
    · have n1 : n ≠ d := fun z => by rw [z, hd] at hc; cases hc
      have n2 : n ≠ l := fun z => by rw [z, hl] at hc; cases hc
      rw [put_ne' n1, put_ne' n2]
      exact hc
    · rw [put_ne' dl.symm, put_same]
      have em' : cutP (ns.map PV.int) none (some 63) = ms.map PV.int := em
      simp [em']
  · obtain ⟨rfl, ⟨rs, er⟩, m, z, m0, m1, rfl⟩ := i
    cases rs with
    | nil => cases er
    | cons r rs =>
      cases er
      refine ⟨_, rfl, fun K hK => ?_⟩
      simp (config := { decide := true }) [wAsg, Tg.go, wVar, wC, wOp, gAdd, gMul, gII, CMul, gMod, wFn, gInt, gF1, wCons, wNil]
      refine hK _ _ ⟨rfl, ⟨rs, rfl⟩, _, _, Int.fmod_nonneg_of_pos _ (by decide), Int.fmod_lt_of_pos _ (by decide), rfl⟩
/-! ### demonic runs -/
namespace M
variable {α β : Type}
/-- whatever the deck: it ends well -/
def sat (n : Nat × Nat) (m : M α) (Q : α → Prop) : Prop := ∀ D, ∃ a D', m n D = .ok a D' ∧ Q a
theorem sat_ret {n : Nat × Nat} {a : α} {Q : α → Prop} (h : Q a) : sat n (ret a) Q := fun D => ⟨a, D, rfl, h⟩
theorem sat_bind {n : Nat × Nat} {m : M α} {k : α → M β} {Q : β → Prop} (h : sat n m fun a => sat n (k a) Q) : sat n (m.bind k) Q := fun D => by
  obtain ⟨a, D1, e, h1⟩ := h D
  obtain ⟨b, D2, e2, h2⟩ := h1 D1
  exact ⟨b, D2, by unfold bind; rw [e]; exact e2, h2⟩
theorem sat_mono {n : Nat × Nat} {m : M α} {Q Q' : α → Prop} (i : ∀ a, Q a → Q' a) (h : sat n m Q) : sat n m Q' := fun D => by
  obtain ⟨a, D', e, q⟩ := h D
  exact ⟨a, D', e, i a q⟩
theorem sat_ne {n : Nat × Nat} {m : M α} {Q : α → Prop} (h : sat n m Q) : sat n m.ne Q := fun D => by
  obtain ⟨a, D', e, q⟩ := h D
  exact ⟨a, D', by unfold ne; rw [e], q⟩
theorem sat_draw {n : Nat × Nat} {many : Int} {Q : PV → Prop} (h0 : 0 < many) (h1 : many < 1000000000) (h : ∀ r, 0 ≤ r → r < many → Q (.int r)) : sat n (drawF [.loc n.1, .int many]) Q := fun D =>
  ⟨_, _, if_pos ⟨rfl, h0, h1⟩, h _ (drawV_lo D h0) (drawV_hi D h0)⟩
end M
theorem deck_at {d l : Nat} {hp : PH} (h : Deck d l hp) : ∃ D, DeckAt (d, l) D hp := by
  obtain ⟨xs, m, k, h1, h2, h3, h4, h5, h6⟩ := h
  exact ⟨⟨xs, m, k, h6, h4, h5⟩, h1, h2, h3⟩
theorem toM.of_sat {α : Type} {m : M α} {n : Nat × Nat} {hp : PH} {e : EI} {Q : α → PH → Prop} {D : Dk} (hd : DeckAt n D hp) (h : M.sat n m fun a => ∀ hp', Q a hp') : toM m hp e Q := by
  obtain ⟨a, D', e1, q⟩ := h D
  refine ⟨n, D, hd, ?_⟩
  rw [e1]
  exact fun hp' _ _ => q hp'
/-! ### the law's body: the deck is made, the rest runs -/
section
variable {X : Cx} {C : Cfg} {E : XK} {x : Expr} {w : WE} {pos pos' : Pos}
def wnAsg (i : Nat) (w : WE) : WN := fun σ hp e D => w (bor [] 0 σ) hp e fun p h => D.nx (σ.set i (some (.val p))) h
theorem wnAsg.mo {i : Nat} (h : MoE w) : MoN (wnAsg i w) := fun σ hp e D D' l q => h _ _ _ _ _ (fun p h q => l.nx _ _ q) q
theorem ns_setW {i : Nat} {y : Str} (hN : X.N.Nodup) (hi : X.N[i]? = some y) (hx : Loc X.env.scope y) (hf : X.fn y = true ∨ X.env.scope.names.lookup y = some .local) (h : RE X C E x w) (hs : swapsWith x (some (.Name y pos')) pos.line X.env = pure false) : NS X C E (.Assign [.Name y pos'] x pos) (wnAsg i w) :=
  ⟨wnAsg.mo h.mo, PS.imp (ps_set hN hi hx h.pe hs hf) fun D σ H ⟨μ0, H0, μ, hp, σS, e, n, o, q⟩ =>
    tE.go h.mo n.at o.vals q fun p h μ1 H1 v q1 u1 A1 s1 r1 => gD.here q1 (n.next (n.up.trans u1) u1.weak A1.hr) ((o.up u1).set r1)⟩
theorem y_setW {k : Nat} (c : Ok X C E k) (i : Nat) {y : Str} (h : RE X C E x w) (hi : X.N[i]? = some y := by rfl) (hx : Loc X.env.scope y := by first | exact .inl rfl | exact .inr rfl) (hf : X.fn y = true ∨ X.env.scope.names.lookup y = some .local := by first | exact .inl rfl | exact .inr rfl)
    (hs : swapsWith x (some (.Name y pos')) pos.line X.env = pure false := by rfl) : NS X C E (.Assign [.Name y pos'] x pos) (wnAsg i w) := ns_setW c.hN hi hx hf h hs
end
/-- what is to be shown of a law -/
theorem law_rest {C : Cfg} {a : Addr} {ns : List Int} {N : Nat} {rest : FS} (hm : (a, ns) ∈ C.scr) (hN : 2 ≤ N) (h : ∀ n : Nat × Nat, M.sat n (rest ((slots N [.ref a]).set 1 (some (.val (.loc n.1))))) fun o => o = .rt (.bl true)) (Q : KI) (hQ : ∀ hp, Q (.bl true) hp) :
    wFunN N (wnSeq (wnAsg 1 (wCall (sDeck C) (wArgs 1 (wCons (wVar 0) wNil)))) (toN rest)) [.ref a] (fun _ => none) eNo Q := by
  have h0 : (bor [] 0 (slots N [.ref a]))[0]? = some (some (.ref a)) := by
    simp [slots, bor]
  refine ⟨.ref a, h0, rfl, a, ns, rfl, hm, fun d l hp' _ _ _ dk => ?_⟩
  obtain ⟨D, hD⟩ := deck_at dk
  refine toM.of_sat hD (M.sat_mono (fun o e hp => ?_) (h (d, l)))
  subst e
  exact hQ hp
end RF

set_option Elab.async false
set_option linter.all false
set_option maxRecDepth 100000
set_option maxHeartbeats 1000000
/-! Part NP3: the trying def as a function; the facts' words. -/
namespace RF
open PySem PySem.Spec L2
/-- run, then go on by how it ended -/
def tryM (m : M PV) (okk : PV → M PV) (errk : Str → PV → M PV) : M PV := fun d D => match m d D with
  | .ok p D' => okk p d D'
  | .err c p D' => errk c p d D'
  | .bad => .bad
theorem tryM_ret {p : PV} {okk : PV → M PV} {errk : Str → PV → M PV} : tryM (M.ret p) okk errk = okk p := rfl
theorem tryM_raise {c : Str} {p : PV} {okk : PV → M PV} {errk : Str → PV → M PV} : tryM (M.raise c p) okk errk = errk c p := rfl
theorem toM.tried {m : M PV} {okk : PV → M PV} {errk : Str → PV → M PV} {hp : PH} {e : EI} {Q : KI} (q : toM (tryM m okk errk) hp e Q) : toM m hp (fun c p h => toM (errk c p) h e Q) (fun p h => toM (okk p) h e Q) := by
  obtain ⟨d, D, h, q⟩ := q
  refine ⟨d, D, h, ?_⟩
  unfold tryM at q
  cases e1 : m d D with
  | ok p D1 =>
    rw [e1] at q
    simp only at q ⊢
    intro h1 d1 s1
    refine ⟨d, D1, d1, ?_⟩
    cases e2 : okk p d D1 with
    | ok b D2 => rw [e2] at q; exact fun h2 d2 s2 => q h2 d2 (s1.trans s2)
    | err c p D2 => rw [e2] at q; exact fun h2 d2 s2 => q h2 d2 (s1.trans s2)
    | bad => rw [e2] at q; exact q.elim
  | err c p D1 =>
    rw [e1] at q
    simp only at q ⊢
    intro h1 d1 s1
    refine ⟨d, D1, d1, ?_⟩
    cases e2 : errk c p d D1 with
    | ok b D2 => rw [e2] at q; exact fun h2 d2 s2 => q h2 d2 (s1.trans s2)
    | err c p D2 => rw [e2] at q; exact fun h2 d2 s2 => q h2 d2 (s1.trans s2)
    | bad => rw [e2] at q; exact q.elim
  | bad => rw [e1] at q; exact q
def btN (tr : M PV → M PV) : BT := fun wA hp Q => ∃ m : M PV, (∀ h e' Q', toM m h e' Q' → wA h e' Q') ∧ toM (tr m) hp eNo Q
theorem btN.mo {tr : M PV → M PV} : ∀ w hp Q Q', (∀ p h, Q p h → Q' p h) → btN tr w hp Q → btN tr w hp Q' := fun w hp Q Q' i ⟨m, a, b⟩ => ⟨m, a, b.mono i⟩
def fTried (tr : M PV → M PV) (fl : FE) : FE := fun σ => (tr (fl σ)).ne
theorem im_tried {tr : M PV → M PV} {fl : FE} {σ : SI} {hp : PH} {e : EI} {Q : KI} (q : toE (fTried tr fl) σ hp e Q) : wLam (toE fl) (btN tr) σ hp e Q := ⟨fl σ, fun _ _ _ q => q, toM.ne q⟩
section
variable {X : Cx} {C : Cfg} {E : XK} {k : Nat}
theorem y_lam {x a : Str} {st : Stmt} {Ng : List Str} {j : Nat} {tr : M PV → M PV} {bw : Addr → WL → WS} {cc Pt : Addr} {q : Str} {params : Arguments} {body : Expr} {scope : Scope} {fl : FE} {p lpos pos : Pos} (c : Ok X C E k) (T : Tried X.prog X.w C X.mg X.base x a st Ng (j + 1) (btN tr) bw) (hj : j + 2 ≤ k)
    (TB : LamX.TabB X.base X.mg cc Pt) (hcode : X.env.code = .ref cc) (hT : C.T = [(Pt, q)]) (hbody : ∀ A out s H Eb f c', Ok (LamX.lamCx X A out s H Eb scope f c') C Eb j → RE (LamX.lamCx X A out s H Eb scope f c') C Eb body (toE fl)) (L : LamX.LamS X.env.scope scope)
    (hq : q = X.env.qual ++ "<lambda>" := by rfl) (gl : Gl X x := by rfl) (hdef : defaultsOf params X.env = ([], []) := by rfl) (hbind : ∀ (q : Str) (cl : List (Str × Addr)) (pm cv ctv : Value), bindArgs (PySem.W.kla_fn "<lambda>" q params body scope cl pm cv ctv) ⟨[], []⟩ = pure [] := by intros; rfl)
    (hdb : (x == ("__debug__" : Str)) = false := by decide) (hd : (a == ("__debug__" : Str)) = false := by decide) (hcd : (a == ("__classdict__" : Str)) = false := by decide) :
    RE X C E (.Call (.Name x p) [.Lambda params body scope lpos] [] pos) (toE (fTried tr fl)) :=
  (d_lam c T hj TB hcode hT hbody L hq gl hdef hbind hdb hd hcd).imp toE.mo fun _ _ _ _ q => im_tried q
end
section
variable {X : Cx} {C : Cfg} {E : XK} {k : Nat} {x : Expr} {es : List Expr} {w : WA} {p pos : Pos}
theorem xf_repD (c : Su X C) (sy : HasSys C.K) (hm : X.mg "repr" = none) (ha : RA X C E (x :: es) w) (gl : Gl X "repr" := by rfl) (he : starEach (x :: es) X.env = (false, eval x X.env) :: starEach es X.env := by rfl) (hpl : (backTo pos (starEach es X.env)).any (·.1) = false := by rfl) :
    RE X C E (.Call (.Name "repr" p) (x :: es) [] pos) (wFn gRepD w) := re_fn (lf_repD c.hK (by rw [c.hK]; exact sy)) (cr_reprU c.un c.cm) gl hm (by rfl) ha (by decide) (by decide) he hpl
theorem f_repD (c : Ok X C E k) (sy : HasSys C.K) (hm : X.mg "repr" = none) (ha : RA X C E (x :: es) w) (gl : Gl X "repr" := by rfl) (he : starEach (x :: es) X.env = (false, eval x X.env) :: starEach es X.env := by rfl) (hpl : (backTo pos (starEach es X.env)).any (·.1) = false := by rfl) :
    RE X C E (.Call (.Name "repr" p) (x :: es) [] pos) (wFn gRepD w) := re_fn (lf_repD c.hK (by rw [c.hK]; exact sy)) (cr_repr c.rm c.cm) gl hm (by rfl) ha (by decide) (by decide) he hpl
end
end RF
namespace RH
open PySem PySem.Spec PySem.W L2
def fTupD (x : PySem.Str) (K : Frag) : Bool := match K.lookup (He.ga K x) with
  | some ⟨.type c, none, _, _⟩ => c == "tuple"
  | _ => false
theorem tupD_ok {x : PySem.Str} {K : Frag} (h : fTupD x K = true) : ∃ o, K.lookup (He.ga K x) = some o ∧ o.cls = .type "tuple" ∧ o.dict = none := by
  unfold fTupD at h
  split at h
  · rename_i c dt sl e
    exact ⟨_, e, congrArg Value.type (eq_of_beq h), rfl⟩
  · cases h
end RH

set_option Elab.async false
set_option linter.all false
set_option maxRecDepth 100000
set_option maxHeartbeats 1000000
/-! Part NP4: more short words; what a def that must not be called promises. -/
namespace RF
open PySem PySem.Spec L2
section
variable {X : Cx} {C : Cfg} {E : XK} {k : Nat} {a b x : Expr} {es : List Expr} {wa wb : WE} {fa fb : FE} {f : FA} {p pos : Pos}
theorem xt_inG (c : Su X C) (sy : HasSys C.K) (ha : RE X C E a wa) (hb : RE X C E b wb) (hm : behindInMarks .In b = false := by rfl) : RT X C E (.Compare a [.In] [b] pos) (wCmpT (cInG false) wa wb) :=
  rt_cmp (l_inG c.hK (by rw [c.hK]; exact sy) false) (op_inAllG (by have := c.un; omega)) ha hb hm
theorem xs_set (c : Su X C) (i : Nat) {y : Str} {pos' : Pos} (h : RE X C E x wa) (hN : X.N.Nodup := by exact (by decide +kernel)) (hi : X.N[i]? = some y := by rfl) (hx : Loc X.env.scope y := by first | exact .inl rfl | exact .inr rfl) (hf : X.fn y = true ∨ X.env.scope.names.lookup y = some .local := by first | exact .inl rfl | exact .inr rfl)
    (hs : swapsWith x (some (.Name y pos')) pos.line X.env = pure false := by rfl) : RS X C E (.Assign [.Name y pos'] x pos) (wAsg (.nm i) wa) := rs_set hN hi hx hf h hs
theorem yd_d0 (c : Ok X C E k) : RE X C E (.Dict [] [] pos) (toE (fC (.dct []))) := (re_dct0).imp toE.mo fun σ hp e Q q => (im_c q : wC (.dct []) σ hp e Q)
theorem ym_lst (c : Ok X C E k) (ha : RA X C E es (toA f)) : RM X C E (.List es pos) (fmL f) := rm_lst ha
theorem ym_d0 (c : Ok X C E k) : RM X C E (.Dict [] [] pos) fmD0 := rm_d0
theorem ym_cat (c : Ok X C E k) (ha : RE X C E a (toE fa)) (hb : RE X C E b (toE fb)) : RM X C E (.BinOp a .Add b pos) (fmOp catC fa fb) := rm_cat ha hb
theorem ym_rep {pos2 : Pos} (c : Ok X C E k) (ha : RA X C E es (toA f)) (hb : RE X C E b (toE fb)) : RM X C E (.BinOp (.List es pos2) .Mult b pos) (fmRep f fb) := rm_rep ha hb
end
/-! dict displays -/
def fPairs : List (FE × FE) → SI → M (List (PV × PV))
  | [], _ => M.ret []
  | (a, b) :: r, σ => (a σ).bind fun x => (b σ).bind fun y => (fPairs r σ).bind fun ps => M.ret ((x, y) :: ps)
def fDct (l : List (FE × FE)) : FE := fun σ => (fPairs l σ).bind fun ps => (M.ofO (keysP ps)).bind fun ks => M.ret (.dct (mergeP [] ks))
theorem im_pairs : ∀ {l : List (FE × FE)} {σ : SI} {hp : PH} {e : EI} {Q : List (PV × PV) → PH → Prop}, toM (fPairs l σ) hp e Q → wPairs (l.map fun w => (toE w.1, toE w.2)) σ hp e Q
  | [], σ, hp, e, Q, q => toM.ret q
  | (a, b) :: r, σ, hp, e, Q, q => (toM.bind q).mono fun x h q => (toM.bind q).mono fun y h q => im_pairs ((toM.bind q).mono fun ps h q => toM.ret q)
theorem yd_dct {X : Cx} {C : Cfg} {E : XK} {keys : List (Option Expr)} {values : List Expr} {pos : Pos} (l : List (FE × FE)) (h : RPs X C E keys values (l.map fun w => (toE w.1, toE w.2))) (hall : keys.all (·.isSome) = true := by rfl) (h0 : keys ≠ [] := by simp) (h15 : keys.length ≤ 15 := by decide) : RE X C E (.Dict keys values pos) (toE (fDct l)) :=
  (re_dct h hall h0 h15).imp toE.mo fun σ hp e Q q => im_pairs ((toM.bind q).mono fun ps h q => by
    obtain ⟨ks, e1, q⟩ := toM.ofO (toM.bind q)
    exact ⟨ks, e1, (toM.ret q : Q (.dct (mergeP [] ks)) h)⟩)
section
variable {P : Program} {w : World} {C : Cfg} {mg : Str → Option Value} {base : Heap} {k n : Nat} {fd : FuncData} {ps : List Str}
/-- what is to be shown of a law, wherever it is called -/
theorem law_restE {C : Cfg} {a : Addr} {ns : List Int} {N : Nat} {rest : FS} {hp0 : PH} {e : EI} (hm : (a, ns) ∈ C.scr) (hN : 2 ≤ N) (h : ∀ n : Nat × Nat, M.sat n (rest ((slots N [.ref a]).set 1 (some (.val (.loc n.1))))) fun o => o = .rt (.bl true)) (Q : KI) (hQ : ∀ hp, Q (.bl true) hp) :
    wFunN N (wnSeq (wnAsg 1 (wCall (sDeck C) (wArgs 1 (wCons (wVar 0) wNil)))) (toN rest)) [.ref a] hp0 e Q := by
  have h0 : (bor [] 0 (slots N [.ref a]))[0]? = some (some (.ref a)) := by
    simp [slots, bor]
  refine ⟨.ref a, h0, rfl, a, ns, rfl, hm, fun d l hp' _ _ _ dk => ?_⟩
  obtain ⟨D, hD⟩ := deck_at dk
  refine toM.of_sat hD (M.sat_mono (fun o e hp => ?_) (h (d, l)))
  subst e
  exact hQ hp
/-- a def that is not to be called -/
theorem badFun {x : Str} {params : Arguments} {body : List Stmt} {scope : Scope} {kws : List (Str × V)} (g : mg x = some (.ref (He.ga C.K x))) (kp : PySem.W.keepIn C.K (.ref (He.ga C.K x)) = true)
    (F : FunD C.K x x params body scope [] kws (He.ga C.K x) fd)
    (b : ∀ (kV doc pm : Value) (an : Option Addr) (cdv ct : Value) (us : List Value), us.length = ps.length → bindArgs (PySem.W.fnOf x x params body scope .none kV doc pm an cdv ct) ⟨us, []⟩ = pure (ps.zip us)) :
    Fun P w C mg base k x n (toF fun _ => M.bad) :=
  have no : ∀ vs H Q E, spI C n (toF fun _ => M.bad) vs H Q E → False := fun vs H Q E ⟨_, _, _, _, _, _, _, q⟩ => toM.nobad q
  ⟨⟨fd, ps, ⟨fun vs H Q E q => (no _ _ _ _ q).elim, fun A out s H args us vs Q E g room e0 b r q => (no _ _ _ _ q).elim⟩, FunD.bindsN F b⟩, g, kp, toF.mo⟩
end
end RF

set_option Elab.async false
set_option linter.all false
set_option maxRecDepth 100000
set_option maxHeartbeats 1000000
/-! Part NP5: bundles of defs by the old meanings; what the head says, by its place. -/
namespace RF
open PySem PySem.Spec L2
section
variable {P : Program} {w : World} {C : Cfg} {mg : Str → Option Value} {base : Heap} {k n : Nat} {fd : FuncData} {ps : List Str}
theorem mkFun {x : Str} {params : Arguments} {body : List Stmt} {scope : Scope} {kws : List (Str × V)} {N : List Str} {ws : WS} {wf : WF} (g : mg x = some (.ref (He.ga C.K x))) (kp : PySem.W.keepIn C.K (.ref (He.ga C.K x)) = true)
    (F : FunD C.K x x params body scope [] kws (He.ga C.K x) fd) (S : FnScope N ps scope) (hn : ps.length = n)
    (b : ∀ (kV doc pm : Value) (an : Option Addr) (cdv ct : Value) (us : List Value), us.length = ps.length → bindArgs (PySem.W.fnOf x x params body scope .none kV doc pm an cdv ct) ⟨us, []⟩ = pure (ps.zip us))
    (mo : MoF wf) (le : ∀ qs hp e Q, wf qs hp e Q → wFun N.length ws qs hp e Q)
    (hb : ∀ (A : Around) (out : List Env) (s : Shared) (H : Hp) (E : XK) (cdv : Value) (X : Cx), cdv = .ref (RH.codeAd C.K x) → X = cxOf (L2.CX P w) P w C.K mg base N x scope (He.ga C.K x) cdv A out s H E → Ok X C E k → RSs X C E body ws) :
    Fun P w C mg base (k + 1) x n wf := ⟨⟨fd, ps, (fnRc F S hn hb).weak le, FunD.bindsN F b⟩, g, kp, mo⟩
theorem mkFunK {x : Str} {params : Arguments} {body : List Stmt} {scope : Scope} {kws : List (Str × V)} {N : List Str} {ws : WS} {wf : WF} {ks : List Str} {perm : List Nat} (g : mg x = some (.ref (He.ga C.K x))) (kp : PySem.W.keepIn C.K (.ref (He.ga C.K x)) = true)
    (F : FunD C.K x x params body scope [] kws (He.ga C.K x) fd) (S : FnScope N ps scope) (hn : ps.length = n)
    (b : ∀ (kV doc pm : Value) (an : Option Addr) (cdv ct : Value) (us : List Value), us.length = ks.length → bindArgs (PySem.W.fnOf x x params body scope .none kV doc pm an cdv ct) ⟨[], ks.zip us⟩ = pure (ps.zip (pick perm us)))
    (mo : MoF wf) (le : ∀ qs hp e Q, wf qs hp e Q → wFun N.length ws qs hp e Q)
    (hb : ∀ (A : Around) (out : List Env) (s : Shared) (H : Hp) (E : XK) (cdv : Value) (X : Cx), cdv = .ref (RH.codeAd C.K x) → X = cxOf (L2.CX P w) P w C.K mg base N x scope (He.ga C.K x) cdv A out s H E → Ok X C E k → RSs X C E body ws) :
    FunK P w C mg base (k + 1) x n wf ks perm := ⟨⟨fd, ps, (fnRc F S hn hb).weak le, fun s us hl => by
      obtain ⟨oc, od, dV, kV, doc, pm, an, cdv, ct, osl, rfl, lk, hcd, hD, hK⟩ := F.ex
      rcases hD with ⟨_, rfl⟩ | ⟨e, _⟩
      · exact .of_eq (b kV doc pm an cdv ct us hl)
      · exact absurd rfl e⟩, g, kp, mo⟩
end
end RF
namespace RH
open PySem PySem.Spec PySem.W L2
theorem Says.at {fs : List (PySem.W.Frag → Bool)} {fn : List He.DefD} {ls : List PySem.Str} {K : PySem.W.Frag} {h : PySem.Heap} (S : Says fs fn ls K h) (i : Nat) {f : PySem.W.Frag → Bool} (e : fs[i]? = some f) : f K = true := S.fac f (List.mem_of_getElem? e)
theorem Says.fd {fs : List (PySem.W.Frag → Bool)} {fn : List He.DefD} {ls : List PySem.Str} {K : PySem.W.Frag} {h : PySem.Heap} (S : Says fs fn ls K h) (i : Nat) {d : He.DefD} (e : fn[i]? = some d) :
    (∃ fd, FunD K d.name d.qual d.params d.body d.scope (d.dvs K) (d.kws K) (He.fAd K d.at_) fd) ∧ PySem.W.keepIn K (.ref (He.fAd K d.at_)) = true := ⟨S.def_ d (List.mem_of_getElem? e), S.kp d (List.mem_of_getElem? e)⟩
end RH

set_option Elab.async false
set_option linter.all false
set_option maxRecDepth 100000
set_option maxHeartbeats 1000000
/-! Part NL1: texts cut and joined; what can be shown; kinds compared. -/
namespace RF
open PySem PySem.Spec L2
abbrev S (l : List Nat) : Str := ⟨l.toArray⟩
theorem S_ex (s : Str) : ∃ l, s = S l := ⟨s.cps.toList, (SX.S_tl s).symm⟩
theorem S_inj {a b : List Nat} (h : S a = S b) : a = b := SX.S_inj h
theorem signs_S (l : List Nat) : signs (S l) = l.map fun c => .str (S [c]) := by simp [signs]
theorem slen (l : List Nat) : (S l).length = l.length := SX.S_len l
theorem cutP_nn {α : Type} (xs : List α) (a b : Nat) : cutP xs (some a) (some b) = (xs.drop (min a xs.length)).take (min b xs.length - min a xs.length) := by
  unfold cutP
  rw [HT.sIx_nat, HT.sIx_nat]
theorem cutP_drop {α : Type} (xs : List α) (a : Nat) : cutP xs (some a) none = xs.drop a := by
  unfold cutP
  rw [HT.sIx_nat, HT.sIx_none, List.take_of_length_le (by rw [List.length_drop]; omega)]
  by_cases h : a ≤ xs.length
  · rw [Nat.min_eq_left h]
  · rw [Nat.min_eq_right (by omega), List.drop_length, List.drop_of_length_le (by omega)]
theorem cutP_take {α : Type} (xs : List α) (b : Nat) : cutP xs none (some b) = xs.take b := by
  unfold cutP
  rw [HT.sIx_nat, HT.sIx_none, List.drop_zero, Nat.sub_zero]
  by_cases h : b ≤ xs.length
  · rw [Nat.min_eq_left h]
  · rw [Nat.min_eq_right (by omega), List.take_length, List.take_of_length_le (by omega)]
theorem cutP_seg {α : Type} (xs : List α) (a k : Nat) (h : a + k ≤ xs.length) : cutP xs (some a) (some ((a : Int) + (k : Int))) = (xs.drop a).take k := by
  rw [show ((a : Int) + (k : Int)) = ((a + k : Nat) : Int) by omega, cutP_nn, Nat.min_eq_left (show a ≤ xs.length by omega), Nat.min_eq_left h]
  congr 1
  omega
theorem mem_cutP {α : Type} {xs : List α} {a b : Option Int} {x : α} (h : x ∈ cutP xs a b) : x ∈ xs := List.mem_of_mem_drop (List.mem_of_mem_take h)
theorem len_cutP {α : Type} (xs : List α) (a b : Option Int) : (cutP xs a b).length ≤ xs.length := by
  unfold cutP
  rw [List.length_take, List.length_drop]
  omega
theorem all_cutP {α : Type} {p : α → Bool} {xs : List α} (a b : Option Int) (h : xs.all p = true) : (cutP xs a b).all p = true := by
  rw [List.all_eq_true] at h ⊢
  exact fun x m => h x (mem_cutP m)
theorem cutS_S (l : List Nat) (a b : Option Int) : cutS (S l) a b = S (cutP l a b) := rfl
theorem joinL_nil : ∀ ys : List (List Nat), TL.joinL [] ys = ys.flatten
  | [] => rfl
  | [p] => by simp [TL.joinL]
  | p :: q :: r => by
    show p ++ ([] ++ TL.joinL [] (q :: r)) = _
    rw [joinL_nil (q :: r)]
    simp
theorem join0 (ys : List (List Nat)) : Txt.join "" (ys.map S) = S ys.flatten := by
  have h := SX.join_S [] ys
  rw [joinL_nil] at h
  exact h
theorem flat1 (l : List Nat) : (l.map fun c => [c]).flatten = l := by
  induction l with
  | nil => rfl
  | cons c l ih => simp [ih]
theorem cutP_front {α : Type} (xs : List α) : cutP xs none (some (-1)) = xs.dropLast := by
  unfold cutP
  rw [HT.sIx_none, List.drop_zero, Nat.sub_zero, List.dropLast_eq_take]
  congr 1
  show (if (-1 : Int) < 0 then ((-1 : Int) + (xs.length : Int)).toNat else min (-1 : Int).toNat xs.length) = _
  rw [if_pos (by decide)]
  omega
/-- the last one, alone -/
def lastL {α : Type} (xs : List α) : List α := xs.drop (xs.length - 1)
theorem cutP_last {α : Type} (xs : List α) : cutP xs (some (-1)) none = lastL xs := by
  unfold cutP lastL
  rw [HT.sIx_none]
  have e : HT.sIx xs.length 0 (some (-1)) = xs.length - 1 := by
    show (if (-1 : Int) < 0 then ((-1 : Int) + (xs.length : Int)).toNat else min (-1 : Int).toNat xs.length) = _
    rw [if_pos (by decide)]
    omega
  rw [e]
  exact List.take_of_length_le (by rw [List.length_drop]; omega)
theorem lastL_nil {α : Type} : lastL ([] : List α) = [] := rfl
theorem lastL_snoc {α : Type} (xs : List α) (x : α) : lastL (xs ++ [x]) = [x] := by
  unfold lastL
  rw [List.length_append]
  simp
theorem atI_last {α : Type} (xs : List α) (x : α) : atI (xs ++ [x]) (-1) = some x := by
  have hl : (xs ++ [x]).length = xs.length + 1 := by simp
  unfold atI ixN
  rw [hl, if_neg (by decide), if_pos (by omega)]
  show (xs ++ [x])[((-1 : Int) + ((xs.length + 1 : Nat) : Int)).toNat]? = some x
  rw [show ((-1 : Int) + ((xs.length + 1 : Nat) : Int)).toNat = xs.length by omega]
  simp
theorem atI_nat {α : Type} (xs : List α) (k : Nat) (h : k < xs.length) : atI xs (k : Int) = xs[k]? := by
  unfold atI ixN
  rw [if_pos (by omega), if_pos (by omega)]
  rfl
theorem snoc_cases {α : Type} (l : List α) : l = [] ∨ ∃ xs x, l = xs ++ [x] := by
  rcases List.eq_nil_or_concat l with h | ⟨xs, x, h⟩
  · exact .inl h
  · exact .inr ⟨xs, x, by simpa using h⟩
/-! ### what can be shown -/
/-- a key that can be shown -/
def lfK : Key → Bool
  | .inl i => decide (i.natAbs < 10 ^ 100)
  | .inr s => s.cps.toList.all fun c => decide (c < 16 ^ 8)
def bkK : Key → Nat
  | .inl _ => 0
  | .inr s => s.cps.size
mutual
/-- leaves that can be shown -/
def lf : PV → Bool
  | .non => true
  | .bl _ => true
  | .int i => decide (i.natAbs < 10 ^ 100)
  | .str s => s.cps.toList.all fun c => decide (c < 16 ^ 8)
  | .tup ps => lfs ps
  | .lst ps => lfs ps
  | .dct ks => lfk ks
  | .ref _ => false
  | .loc _ => false
def lfs : List PV → Bool
  | [] => true
  | p :: ps => lf p && lfs ps
def lfk : List (Key × PV) → Bool
  | [] => true
  | (k, p) :: ks => lfK k && lf p && lfk ks
end
mutual
/-- how much there is to be shown -/
def bk : PV → Nat
  | .str s => s.cps.size
  | .tup ps => bks ps
  | .lst ps => bks ps
  | .dct ks => bkk ks
  | .non => 0
  | .bl _ => 0
  | .int _ => 0
  | .ref _ => 0
  | .loc _ => 0
def bks : List PV → Nat
  | [] => 0
  | p :: ps => bk p + 1 + bks ps
def bkk : List (Key × PV) → Nat
  | [] => 0
  | (k, p) :: ks => bkK k + bk p + 2 + bkk ks
end
mutual
def dp : PV → Nat
  | .tup ps => dps ps + 1
  | .lst ps => dps ps + 1
  | .dct ks => dpk ks + 1
  | .non => 0
  | .bl _ => 0
  | .int _ => 0
  | .str _ => 0
  | .ref _ => 0
  | .loc _ => 0
def dps : List PV → Nat
  | [] => 0
  | p :: ps => max (dp p) (dps ps)
def dpk : List (Key × PV) → Nat
  | [] => 0
  | (_, p) :: ks => max (dp p) (dpk ks)
end
theorem log_of {i : Nat} (h : i < 10 ^ 100) : i.log2 < 1920 := by
  by_cases h0 : i = 0
  · subst h0; decide
  · rw [Nat.log2_lt h0]
    exact Nat.lt_trans h (by decide +kernel)
mutual
theorem lf_toR : ∀ p : PV, lf p = true → ∃ d, toR p = some d ∧ d.showable = true ∧ d.leavesShort 110 = true ∧ d.bulk = bk p ∧ d.depth = dp p
  | .non, _ => ⟨_, rfl, rfl, rfl, rfl, rfl⟩
  | .bl b, _ => ⟨_, rfl, rfl, rfl, rfl, rfl⟩
  | .int i, h => by
    have h : i.natAbs < 10 ^ 100 := by simpa only [lf, decide_eq_true_eq] using h
    refine ⟨_, rfl, ?_, ?_, rfl, rfl⟩
    · simp only [PyData.showable, decide_eq_true_eq]
      exact log_of h
    · simp only [PyData.leavesShort, decide_eq_true_eq]
      have e := int_text_length_le10 (k := 100) (by decide) h
      show (Str.ofString (toString i)).length ≤ 110
      rw [PySem.ofString_length]
      omega
  | .str s, h => ⟨_, rfl, rfl, by simpa only [PyData.leavesShort, lf] using h, rfl, rfl⟩
  | .tup ps, h => by
    obtain ⟨ds, h1, h2, h3, h4, h5⟩ := lfs_toR ps (by simpa only [lf] using h)
    exact ⟨.tuple ds, by simp only [toR, h1]; rfl, by simpa only [PyData.showable] using h2, by simpa only [PyData.leavesShort] using h3, by simpa only [PyData.bulk, bk] using h4, by simp only [PyData.depth, dp, h5]⟩
  | .lst ps, h => by
    obtain ⟨ds, h1, h2, h3, h4, h5⟩ := lfs_toR ps (by simpa only [lf] using h)
    exact ⟨.list ds, by simp only [toR, h1]; rfl, by simpa only [PyData.showable] using h2, by simpa only [PyData.leavesShort] using h3, by simpa only [PyData.bulk, bk] using h4, by simp only [PyData.depth, dp, h5]⟩
  | .dct ks, h => by
    obtain ⟨ds, h1, h2, h3, h4, h5⟩ := lfk_toR ks (by simpa only [lf] using h)
    exact ⟨.dict ds, by simp only [toR, h1]; rfl, by simpa only [PyData.showable] using h2, by simpa only [PyData.leavesShort] using h3, by simpa only [PyData.bulk, bk] using h4, by simp only [PyData.depth, dp, h5]⟩
  | .ref _, h => by simp [lf] at h
  | .loc _, h => by simp [lf] at h
theorem lfs_toR : ∀ ps : List PV, lfs ps = true → ∃ ds, toRs ps = some ds ∧ PyData.showableAll ds = true ∧ PyData.leavesShortAll 110 ds = true ∧ PyData.bulkAll ds = bks ps ∧ PyData.depthAll ds = dps ps
  | [], _ => ⟨[], rfl, rfl, rfl, rfl, rfl⟩
  | p :: ps, h => by
    have h' : lf p = true ∧ lfs ps = true := by simpa only [lfs, Bool.and_eq_true] using h
    obtain ⟨d, a1, a2, a3, a4, a5⟩ := lf_toR p h'.1
    obtain ⟨ds, b1, b2, b3, b4, b5⟩ := lfs_toR ps h'.2
    exact ⟨d :: ds, by simp only [toRs, a1, b1]; rfl, by simp only [PyData.showableAll, a2, b2]; rfl, by simp only [PyData.leavesShortAll, a3, b3]; rfl, by simp only [PyData.bulkAll, bks, a4, b4], by simp only [PyData.depthAll, dps, a5, b5]⟩
theorem lfk_toR : ∀ ks : List (Key × PV), lfk ks = true → ∃ ds, toRks ks = some ds ∧ PyData.showableKv ds = true ∧ PyData.leavesShortKv 110 ds = true ∧ PyData.bulkKv ds = bkk ks ∧ PyData.depthKv ds = dpk ks
  | [], _ => ⟨[], rfl, rfl, rfl, rfl, rfl⟩
  | (k, p) :: ks, h => by
    have h' : (lfK k = true ∧ lf p = true) ∧ lfk ks = true := by simpa only [lfk, Bool.and_eq_true] using h
    obtain ⟨d, a1, a2, a3, a4, a5⟩ := lf_toR p h'.1.2
    obtain ⟨ds, b1, b2, b3, b4, b5⟩ := lfk_toR ks h'.2
    have key : (keyD k).showable = true ∧ (keyD k).leavesShort 110 = true ∧ (keyD k).bulk = bkK k ∧ (keyD k).depth = 0 := by
      have hk := h'.1.1
      cases k with
      | inl i =>
        have h : i.natAbs < 10 ^ 100 := by simpa only [lfK, decide_eq_true_eq] using hk
        refine ⟨?_, ?_, rfl, rfl⟩
        · simp only [keyD, PyData.showable, decide_eq_true_eq]
          exact log_of h
        · simp only [keyD, PyData.leavesShort, decide_eq_true_eq]
          have e := int_text_length_le10 (k := 100) (by decide) h
          show (Str.ofString (toString i)).length ≤ 110
          rw [PySem.ofString_length]
          omega
      | inr s => exact ⟨rfl, by simpa only [keyD, PyData.leavesShort, lfK] using hk, rfl, rfl⟩
    obtain ⟨k1, k2, k3, k4⟩ := key
    exact ⟨(keyD k, d) :: ds, by simp only [toRks, a1, b1]; rfl, by simp only [PyData.showableKv, k1, a2, b2]; rfl, by simp only [PyData.leavesShortKv, k2, a3, b3]; rfl, by simp only [PyData.bulkKv, bkk, k3, a4, b4], by simp only [PyData.depthKv, dpk, k4, a5, b5]; omega⟩
end
/-- what repr says -/
def rp (p : PV) : Str := match toR p with
  | some d => d.shown
  | none => ""
theorem reprF_ok {p : PV} (h : lf p = true) (hd : dp p ≤ 64) (hb : bk p ≤ 100000) : reprF p = some (.str (rp p)) := by
  obtain ⟨d, a1, a2, a3, a4, a5⟩ := lf_toR p h
  have e := PyData.shown_le_bulk 110 (by decide) d a3
  unfold reprF rp showy
  rw [a1]
  simp only [Option.bind_some]
  rw [if_pos]
  simp only [Bool.and_eq_true, decide_eq_true_eq]
  rw [a4] at e
  exact ⟨⟨a2, by omega⟩, by omega⟩
theorem toR_of {p : PV} (h : lf p = true) : ∃ d, toR p = some d ∧ d.depth = dp p := by
  obtain ⟨d, a1, _, _, _, a5⟩ := lf_toR p h
  exact ⟨d, a1, a5⟩
theorem lfs_all : ∀ {ps : List PV}, lfs ps = true → ∀ p ∈ ps, lf p = true
  | p :: ps, h, q, m => by
    have h' : lf p = true ∧ lfs ps = true := by simpa only [lfs, Bool.and_eq_true] using h
    rcases List.mem_cons.mp m with rfl | m
    · exact h'.1
    · exact lfs_all h'.2 q m
theorem lfs_of : ∀ {ps : List PV}, (∀ p ∈ ps, lf p = true) → lfs ps = true
  | [], _ => rfl
  | p :: ps, h => by
    simp only [lfs, Bool.and_eq_true]
    exact ⟨h p (List.mem_cons_self ..), lfs_of fun q m => h q (List.mem_cons_of_mem _ m)⟩
theorem bks_app : ∀ xs ys : List PV, bks (xs ++ ys) = bks xs + bks ys
  | [], ys => by simp [bks]
  | p :: ps, ys => by
    have := bks_app ps ys
    simp only [List.cons_append, bks, this]
    omega
theorem dps_app : ∀ xs ys : List PV, dps (xs ++ ys) = max (dps xs) (dps ys)
  | [], ys => by simp [dps]
  | p :: ps, ys => by
    have := dps_app ps ys
    simp only [List.cons_append, dps, this]
    omega
theorem bk_mem : ∀ {ps : List PV} {p : PV}, p ∈ ps → bk p + 1 ≤ bks ps
  | q :: ps, p, m => by
    simp only [bks]
    rcases List.mem_cons.mp m with rfl | m
    · omega
    · have := bk_mem m
      omega
theorem dp_mem : ∀ {ps : List PV} {p : PV}, p ∈ ps → dp p ≤ dps ps
  | q :: ps, p, m => by
    simp only [dps]
    rcases List.mem_cons.mp m with rfl | m
    · omega
    · have := dp_mem m
      omega
theorem len_bks : ∀ ps : List PV, ps.length ≤ bks ps
  | [] => Nat.le_refl _
  | p :: ps => by
    have := len_bks ps
    simp only [bks, List.length_cons]
    omega
/-! ### kinds compared -/
theorem eqF_str (a b : Str) : eqF (.str a) (.str b) = some (a == b) := by simp [eqF, toR, nod, PyData.depth, PyData.eqv]
theorem eqF_int (a b : Int) : eqF (.int a) (.int b) = some (a == b) := by simp [eqF, toR, nod, PyData.depth, PyData.eqv]
theorem neF_str (a b : Str) : neF (.str a) (.str b) = some (!(a == b)) := by simp [neF, toR, nod, PyData.depth, PyData.eqv]
theorem neF_int (a b : Int) : neF (.int a) (.int b) = some (!(a == b)) := by simp [neF, toR, nod, PyData.depth, PyData.eqv]
theorem toRs_len : ∀ {ps : List PV} {ds : List PyData}, toRs ps = some ds → ps.length = ds.length
  | [], ds, h => by cases h; rfl
  | p :: ps, ds, h => by
    simp only [toRs] at h
    obtain ⟨d, e1, h⟩ := Option.bind_eq_some_iff.mp h
    obtain ⟨es, e2, rfl⟩ := Option.map_eq_some_iff.mp h
    simp [toRs_len e2]
theorem eqvAll_nil : ∀ ds : List PyData, PyData.eqvAll ds [] = ds.isEmpty
  | [] => rfl
  | _ :: _ => rfl
theorem eqF_tup0 {ps : List PV} (h : lf (.tup ps) = true) : eqF (.tup ps) (.tup []) = some ps.isEmpty := by
  obtain ⟨ds, a1, _⟩ := lfs_toR ps (by simpa only [lf] using h)
  have e : ps.isEmpty = ds.isEmpty := by
    have := toRs_len a1
    cases ps <;> cases ds <;> first | rfl | (simp at this)
  unfold eqF
  simp only [toR, a1, toRs, Option.map_some]
  split
  · simp only [PyData.eqv, eqvAll_nil, e]
  · rfl
theorem toRs_strs : ∀ ss : List Str, toRs (ss.map .str) = some (ss.map .str)
  | [] => rfl
  | s :: ss => by simp only [List.map_cons, toRs, toR, toRs_strs ss]; rfl
theorem nods_strs : ∀ ss : List Str, nods (ss.map .str) = true
  | [] => rfl
  | s :: ss => by simp only [List.map_cons, nods, nod, nods_strs ss]; rfl
theorem dpA_strs : ∀ ss : List Str, PyData.depthAll (ss.map .str) = 0
  | [] => rfl
  | s :: ss => by simp only [List.map_cons, PyData.depthAll, PyData.depth, dpA_strs ss]; rfl
theorem eqF_strs0 (ss : List Str) : eqF (.lst (ss.map .str)) (.lst []) = some ss.isEmpty := by
  unfold eqF
  simp only [toR, toRs_strs, toRs, Option.map_some, nod, nods_strs, PyData.depth, dpA_strs, PyData.eqv, eqvAll_nil]
  cases ss <;> rfl
/-- is it one of the texts? -/
def isOne (p : PV) (ss : List Str) : Bool := match p with
  | .str s => ss.contains s
  | _ => false
theorem inSeq_strs {p : PV} (h : lf p = true) (ss : List Str) : inSeq p (ss.map .str) = some (isOne p ss) := by
  obtain ⟨d, a1, _⟩ := toR_of h
  unfold inSeq
  rw [a1, toRs_strs]
  simp only [nods_strs, dpA_strs]
  rw [if_pos (by decide)]
  congr 1
  rw [List.any_map]
  cases p with
  | str s =>
    cases a1
    simp only [isOne]
    rw [List.contains_eq_any_beq]
    congr 1
    funext x
    simp only [Function.comp, PyData.eqv]
    by_cases h : x = s
    · subst h; rfl
    · have : ¬ s = x := fun z => h z.symm
      rw [beq_eq_false_iff_ne.mpr h, beq_eq_false_iff_ne.mpr this]
  | non => cases a1; simp [isOne, PyData.eqv]
  | bl b => cases a1; simp [isOne, PyData.eqv]
  | int i => cases a1; simp [isOne, PyData.eqv]
  | tup ps =>
    simp only [toR] at a1
    obtain ⟨ds, _, rfl⟩ := Option.map_eq_some_iff.mp a1
    simp [isOne, PyData.eqv]
  | lst ps =>
    simp only [toR] at a1
    obtain ⟨ds, _, rfl⟩ := Option.map_eq_some_iff.mp a1
    simp [isOne, PyData.eqv]
  | dct ks =>
    simp only [toR] at a1
    obtain ⟨ds, _, rfl⟩ := Option.map_eq_some_iff.mp a1
    simp [isOne, PyData.eqv]
  | ref a => simp [lf] at h
  | loc a => simp [lf] at h
theorem inF_strs {p : PV} (h : lf p = true) (ss : List Str) : inF p (.tup (ss.map .str)) = some (isOne p ss) := inSeq_strs h ss
end RF

set_option Elab.async false
set_option linter.all false
set_option maxRecDepth 100000
set_option maxHeartbeats 1000000
/-! Part NL2: what computations give: rules for definite ones and for those that draw. -/
namespace RF
open PySem PySem.Spec L2
namespace M
variable {α β : Type} {n : Nat × Nat}
theorem ofO_none : (ofO (none : Option α)) = bad := rfl
theorem ne_raise (c : Str) (p : PV) : (raise c p : M α).ne = bad := rfl
theorem ret_inj {a b : α} (h : (ret a : M α) = ret b) : a = b := by
  have := congrFun (congrFun h (0, 0)) ⟨[], 0, 0, by decide, by decide, by decide⟩
  simpa [ret] using this
/-- definite: no draw, it ends well -/
def det (m : M α) (Q : α → Prop) : Prop := ∃ a, m = ret a ∧ Q a
theorem det_ret {a : α} {Q : α → Prop} (h : Q a) : det (ret a) Q := ⟨a, rfl, h⟩
theorem det_ret_iff {a : α} {Q : α → Prop} : det (ret a) Q ↔ Q a := ⟨fun ⟨_, e, q⟩ => by rw [ret_inj e]; exact q, det_ret⟩
theorem sat_ret_iff {a : α} {Q : α → Prop} : sat n (ret a) Q ↔ Q a := ⟨fun h => by
  obtain ⟨b, D', e, q⟩ := h ⟨[], 0, 0, by decide, by decide, by decide⟩
  simp only [ret, Res.ok.injEq] at e
  rw [e.1]; exact q, sat_ret⟩
theorem det_eq {m : M α} {a : α} {Q : α → Prop} (e : m = ret a) (h : Q a) : det m Q := ⟨a, e, h⟩
theorem det_bind {m : M α} {k : α → M β} {Q : β → Prop} (h : det m fun a => det (k a) Q) : det (m.bind k) Q := by
  obtain ⟨a, rfl, b, e, q⟩ := h
  exact ⟨b, e, q⟩
theorem det_mono {m : M α} {Q Q' : α → Prop} (i : ∀ a, Q a → Q' a) (h : det m Q) : det m Q' := by
  obtain ⟨a, e, q⟩ := h
  exact ⟨a, e, i a q⟩
theorem det.eq {m : M α} {a : α} (h : det m fun b => b = a) : m = ret a := by
  obtain ⟨b, e, rfl⟩ := h
  exact e
theorem sat_of {m : M α} {Q : α → Prop} (h : det m Q) : sat n m Q := by
  obtain ⟨a, rfl, q⟩ := h
  exact sat_ret q
/-- what is to hold, hidden from the simplifier -/
theorem sat_keep {m : M α} {P : α → Prop} (h : ∀ Q : α → Prop, (∀ a, P a → Q a) → sat n m Q) : sat n m P := h P fun _ q => q
theorem sat_det {m : M α} {a : α} {Q : α → Prop} (e : m = ret a) (h : Q a) : sat n m Q := by
  rw [e]; exact sat_ret h
theorem sat_bd {m : M α} {k : α → M β} {a : α} {Q : β → Prop} (e : m = ret a) (h : sat n (k a) Q) : sat n (m.bind k) Q := by
  rw [e]; exact h
theorem sat_bindE {m : M α} {k : α → M β} {P : α → Prop} {Q : β → Prop} (h : sat n m P) (i : ∀ a, P a → sat n (k a) Q) : sat n (m.bind k) Q := sat_bind (sat_mono i h)
theorem sat_ite {c : Prop} [Decidable c] {a b : M α} {Q : α → Prop} (h1 : c → sat n a Q) (h2 : ¬ c → sat n b Q) : sat n (if c then a else b) Q := by
  split
  · rename_i h; exact h1 h
  · rename_i h; exact h2 h
theorem det_ite {c : Prop} [Decidable c] {a b : M α} {Q : α → Prop} (h1 : c → det a Q) (h2 : ¬ c → det b Q) : det (if c then a else b) Q := by
  split
  · rename_i h; exact h1 h
  · rename_i h; exact h2 h
end M
section
variable {n : Nat × Nat} {t : Tg} {a b : FS} {σ : SS} {Q : Out → Prop}
theorem sat_seqN (h : M.sat n (a σ) fun o => ∃ σ', o = .nx σ' ∧ M.sat n (b σ') Q) : M.sat n (fSeq a b σ) Q := M.sat_bindE h fun o ⟨σ', e, q⟩ => by
  subst e; exact q
theorem sat_seq (h : M.sat n (a σ) fun o => match o with
    | .nx σ' => M.sat n (b σ') Q
    | o => Q o) : M.sat n (fSeq a b σ) Q := M.sat_bindE h fun o q => by
  cases o with
  | nx σ' => exact q
  | rt p => exact M.sat_ret q
  | bk σ' => exact M.sat_ret q
  | ct σ' => exact M.sat_ret q
theorem det_seq (h : M.det (a σ) fun o => match o with
    | .nx σ' => M.det (b σ') Q
    | o => Q o) : M.det (fSeq a b σ) Q := M.det_bind (M.det_mono (fun o q => by
  cases o with
  | nx σ' => exact q
  | rt p => exact M.det_ret q
  | bk σ' => exact M.det_ret q
  | ct σ' => exact M.det_ret q) h)
theorem det_seqN {σ' : SS} (h : a σ = M.ret (.nx σ')) (h2 : M.det (b σ') Q) : M.det (fSeq a b σ) Q := by
  unfold fSeq; rw [h]; exact h2
theorem det_guard (h : a σ = M.ret (.nx σ)) (h2 : M.det (b σ) Q) : M.det (fSeq a b σ) Q := det_seqN h h2
theorem det_seqR {v : PV} (h : a σ = M.ret (.rt v)) (h2 : Q (.rt v)) : M.det (fSeq a b σ) Q := by
  unfold fSeq; rw [h]; exact M.det_ret h2
theorem sat_seqN' {σ' : SS} (h : a σ = M.ret (.nx σ')) (h2 : M.sat n (b σ') Q) : M.sat n (fSeq a b σ) Q := by
  unfold fSeq; rw [h]; exact h2
theorem sat_guard (h : a σ = M.ret (.nx σ)) (h2 : M.sat n (b σ) Q) : M.sat n (fSeq a b σ) Q := sat_seqN' h h2
theorem sat_seqR {v : PV} (h : a σ = M.ret (.rt v)) (h2 : Q (.rt v)) : M.sat n (fSeq a b σ) Q := by
  unfold fSeq; rw [h]; exact M.sat_ret h2
theorem sat_seqA {σ' : SS} (h : M.sat n (a σ) fun o => o = .nx σ' ∨ ∃ v, o = .rt v ∧ Q (.rt v)) (h2 : M.sat n (b σ') Q) : M.sat n (fSeq a b σ) Q := sat_seq (M.sat_mono (fun o q => by
  rcases q with rfl | ⟨v, rfl, q⟩
  · exact h2
  · exact q) h)
theorem sat_seqX (h : M.sat n (a σ) fun o => ∃ v, o = .rt v ∧ Q (.rt v)) : M.sat n (fSeq a b σ) Q := sat_seq (M.sat_mono (fun o ⟨v, e, q⟩ => by subst e; exact q) h)
theorem sat_seqP {P : SS → Prop} (h : M.sat n (a σ) fun o => ∃ σ', o = .nx σ' ∧ P σ') (h2 : ∀ σ', P σ' → M.sat n (b σ') Q) : M.sat n (fSeq a b σ) Q := sat_seqN (M.sat_mono (fun o ⟨σ', e, q⟩ => ⟨σ', e, h2 σ' q⟩) h)
theorem ifT {R : List Nat} {x : FT} (h : x (bor R 0 σ) = M.ret true) : fIf R x a b σ = a σ := by
  unfold fIf; rw [h]; rfl
theorem ifF {R : List Nat} {x : FT} (h : x (bor R 0 σ) = M.ret false) : fIf R x a b σ = b σ := by
  unfold fIf; rw [h]; rfl
theorem sat_body {N : Nat} {f : FS} {ps : List PV} {Q : PV → Prop} (h : M.sat n (f (slots N ps)) fun o => match o with
    | .rt v => Q v
    | .nx _ => Q .non
    | _ => False) : M.sat n (bodyF N f ps) Q := M.sat_bindE h fun o q => by
  cases o with
  | rt v => exact M.sat_ret q
  | nx σ' => exact M.sat_ret q
  | bk σ' => exact q.elim
  | ct σ' => exact q.elim
theorem sat_bodyR {N : Nat} {f : FS} {ps : List PV} {Q : PV → Prop} (h : M.sat n (f (slots N ps)) fun o => ∃ v, o = .rt v ∧ Q v) : M.sat n (bodyF N f ps) Q := sat_body (M.sat_mono (fun o ⟨v, e, q⟩ => by subst e; exact q) h)
theorem asgN {t : Tg} {x : FE} {p : PV} {σ' : SS} (h : x (bor [] 0 σ) = M.ret p) (g : t.goS p σ = some σ') : fAsg [] t x σ = M.ret (.nx σ') := by
  unfold fAsg; rw [h]; show (M.ofO (t.goS p σ)).bind _ = _; rw [g]; rfl
theorem opE {g : PV → PV → Option PV} {x y : FE} {τ : SI} {p q z : PV} (h : x τ = M.ret p) (k : y τ = M.ret q) (e : g p q = some z) : fOp g x y τ = M.ret z := by
  unfold fOp; rw [h]; show (y τ).bind _ = _; rw [k]; show M.ofO (g p q) = _; rw [e]; rfl
theorem det_for {R : List Nat} {it : FA} {ps : List PV} (e : it (bor R 0 σ) = M.ret ps) (h : M.det (forF t b ps (lck R 0 σ)) Q) : M.det (fFor R t it b σ) Q := M.det_bind (M.det_eq e h)
theorem sat_for {R : List Nat} {it : FA} {ps : List PV} (e : it (bor R 0 σ) = M.ret ps) (h : M.sat n (forF t b ps (lck R 0 σ)) Q) : M.sat n (fFor R t it b σ) Q := M.sat_bd e h
/-- a loop -/
theorem sat_forF (I : List PV → SS → Prop) (h0 : ∀ σ, I [] σ → Q (.nx σ)) (hs : ∀ p ps σ, I (p :: ps) σ → ∃ σ', t.goS p σ = some σ' ∧ M.sat n (b σ') fun o => match o with
    | .nx σ2 => I ps σ2
    | .ct σ2 => I ps σ2
    | .bk σ2 => Q (.nx σ2)
    | .rt v => Q (.rt v)) : ∀ ps σ, I ps σ → M.sat n (forF t b ps σ) Q
  | [], σ, i => M.sat_ret (h0 σ i)
  | p :: ps, σ, i => by
    obtain ⟨σ', e, q⟩ := hs p ps σ i
    unfold forF
    rw [e]
    refine M.sat_bindE (P := fun x => x = σ') (M.sat_ret rfl) fun x hx => ?_
    subst hx
    refine M.sat_bindE q fun o q => ?_
    cases o with
    | nx σ2 => exact sat_forF I h0 hs ps σ2 q
    | ct σ2 => exact sat_forF I h0 hs ps σ2 q
    | bk σ2 => exact M.sat_ret q
    | rt v => exact M.sat_ret q
/-- a loop whose invariant minds no items -/
theorem sat_forJ (J : SS → Prop) (P : PV → Prop) (h0 : ∀ σ, J σ → Q (.nx σ)) (hs : ∀ p σ, P p → J σ → ∃ σ', t.goS p σ = some σ' ∧ M.sat n (b σ') fun o => (∃ σ2, o = .nx σ2 ∧ J σ2) ∨ ∃ σ2, o = .ct σ2 ∧ J σ2) (ps : List PV) (hp : ∀ p ∈ ps, P p) (σ : SS) (i : J σ) : M.sat n (forF t b ps σ) Q :=
  sat_forF (fun ps σ => (∀ p ∈ ps, P p) ∧ J σ) (fun σ i => h0 σ i.2) (fun p ps σ i => by
    obtain ⟨σ', e, q⟩ := hs p σ (i.1 p (List.mem_cons_self ..)) i.2
    refine ⟨σ', e, M.sat_mono (fun o q => ?_) q⟩
    rcases q with ⟨σ2, rfl, j⟩ | ⟨σ2, rfl, j⟩
    · exact ⟨fun q m => i.1 q (List.mem_cons_of_mem _ m), j⟩
    · exact ⟨fun q m => i.1 q (List.mem_cons_of_mem _ m), j⟩) ps σ ⟨hp, i⟩
/-- a loop that leaves with False at the first item that is no good -/
theorem det_all {good : PV → Bool} {J : SS → Prop} : ∀ (ps : List PV) (σ : SS), (∀ p ∈ ps, ∀ σ, J σ → ∃ σ', t.goS p σ = some σ' ∧ M.det (b σ') fun o => if good p = true then ∃ σ2, o = .nx σ2 ∧ J σ2 else o = .rt (.bl false)) → J σ →
    M.det (forF t b ps σ) fun o => if ps.all good = true then ∃ σ2, o = .nx σ2 ∧ J σ2 else o = .rt (.bl false)
  | [], σ, hs, i => M.det_ret (by rw [if_pos (by rfl)]; exact ⟨σ, rfl, i⟩)
  | p :: ps, σ, hs, i => by
    obtain ⟨σ', e, q⟩ := hs p (List.mem_cons_self ..) σ i
    unfold forF
    rw [e]
    refine M.det_bind (M.det_ret ?_)
    refine M.det_bind (M.det_mono (fun o q => ?_) q)
    cases g : good p with
    | true =>
      rw [g, if_pos rfl] at q
      obtain ⟨σ2, rfl, j⟩ := q
      refine M.det_mono (fun o q => ?_) (det_all ps σ2 (fun p m => hs p (List.mem_cons_of_mem _ m)) j)
      rw [List.all_cons, g, Bool.true_and]
      exact q
    | false =>
      rw [g, if_neg (by decide)] at q
      subst q
      rw [List.all_cons, g, Bool.false_and]
      exact M.det_ret (by rw [if_neg (by decide)])
end
section
variable {tg : Tg} {tt : FT} {el : FE} {σ : SI} {n : Nat × Nat}
theorem compF_map (f : PV → PV) : ∀ (ps acc : List PV), (∀ p ∈ ps, ∃ σ', tg.go p σ = some σ' ∧ el σ' = M.ret (f p)) → compF tg fYes el σ ps acc = M.ret (acc ++ ps.map f)
  | [], acc, _ => by simp [compF]
  | p :: ps, acc, h => by
    obtain ⟨σ', e1, e2⟩ := h p (List.mem_cons_self ..)
    unfold compF
    rw [e1]
    show ((fYes σ').ne.bind fun b => if b = true then (el σ').ne.bind fun y => compF tg fYes el σ ps (acc ++ [y]) else compF tg fYes el σ ps acc) = _
    rw [e2]
    show compF tg fYes el σ ps (acc ++ [f p]) = _
    rw [compF_map f ps _ fun p m => h p (List.mem_cons_of_mem _ m)]
    simp
theorem compF_filter (keep : PV → Bool) (f : PV → PV) : ∀ (ps acc : List PV), (∀ p ∈ ps, ∃ σ', tg.go p σ = some σ' ∧ tt σ' = M.ret (keep p) ∧ el σ' = M.ret (f p)) → compF tg tt el σ ps acc = M.ret (acc ++ (ps.filter keep).map f)
  | [], acc, _ => by simp [compF]
  | p :: ps, acc, h => by
    obtain ⟨σ', e1, e2, e3⟩ := h p (List.mem_cons_self ..)
    have ih := fun acc => compF_filter keep f ps acc fun p m => h p (List.mem_cons_of_mem _ m)
    unfold compF
    rw [e1]
    show ((tt σ').ne.bind fun b => if b = true then (el σ').ne.bind fun y => compF tg tt el σ ps (acc ++ [y]) else compF tg tt el σ ps acc) = _
    rw [e2, e3]
    show (if keep p = true then compF tg tt el σ ps (acc ++ [f p]) else compF tg tt el σ ps acc) = _
    rw [ih, ih]
    cases e : keep p <;> simp [e]
theorem sat_compF {P : PV → Prop} : ∀ (ps acc : List PV), (∀ p ∈ ps, ∃ σ', tg.go p σ = some σ' ∧ M.sat n (el σ') P) → M.sat n (compF tg fYes el σ ps acc) fun qs => ∃ rs, qs = acc ++ rs ∧ rs.length = ps.length ∧ ∀ r ∈ rs, P r
  | [], acc, _ => M.sat_ret ⟨[], by simp, rfl, by simp⟩
  | p :: ps, acc, h => by
    obtain ⟨σ', e1, e2⟩ := h p (List.mem_cons_self ..)
    unfold compF
    rw [e1]
    show M.sat n ((fYes σ').ne.bind fun b => if b = true then (el σ').ne.bind fun y => compF tg fYes el σ ps (acc ++ [y]) else compF tg fYes el σ ps acc) _
    show M.sat n ((el σ').ne.bind fun y => compF tg fYes el σ ps (acc ++ [y])) _
    refine M.sat_bindE (M.sat_ne e2) fun y hy => ?_
    refine M.sat_mono (fun qs q => ?_) (sat_compF ps (acc ++ [y]) fun p m => h p (List.mem_cons_of_mem _ m))
    obtain ⟨rs, rfl, l, q⟩ := q
    exact ⟨y :: rs, by simp, by simp [l], fun r m => (List.mem_cons.mp m).elim (fun e => e ▸ hy) (q r)⟩
theorem bools_mapF (f : PV → Bool) : ∀ ps : List PV, bools (ps.map fun p => .bl (f p)) = some (ps.map f)
  | [] => rfl
  | p :: ps => by simp [bools, bools_mapF f ps]
theorem allF_map (f : PV → Bool) (ps : List PV) : allF (.lst (ps.map fun p => .bl (f p))) = some (.bl (ps.all f)) := by
  rw [allF, bools_mapF]
  simp [List.all_map]
theorem texts_strs : ∀ ss : List Str, texts (ss.map .str) = some ss
  | [] => rfl
  | s :: ss => by simp [texts, texts_strs ss]
end
end RF

set_option Elab.async false
set_option linter.all false
set_option maxRecDepth 100000
set_option maxHeartbeats 1000000
/-! Part NL3: rules for statements on own things. -/
namespace RF
open PySem PySem.Spec L2
section
variable {n : Nat × Nat} {σ : SS} {Q : Out → Prop} {R R2 : List Nat} {i : Nat}
theorem rel_true : rel R true σ = σ := by rw [rel_eq]; rfl
theorem sat_asg {t : Tg} {x : FE} {P : PV → Prop} (h : M.sat n (x (bor [] 0 σ)) P) (g : ∀ p, P p → ∃ σ', t.goS p σ = some σ' ∧ Q (.nx σ')) : M.sat n (fAsg [] t x σ) Q := M.sat_bindE h fun p hp => by
  obtain ⟨σ', e, q⟩ := g p hp
  show M.sat n ((M.ofO (t.goS p σ)).bind _) Q
  rw [e]
  exact M.sat_ret q
theorem sat_chg {g : List PV → PV → Option (List PV)} {f : FE} {P : PV → Prop} {xs : List PV} (ho : ownL σ i = some xs) (h : M.sat n (f (bor R 0 σ)) P) (k : ∀ p, P p → nls [p] = true ∧ ∃ ys, g xs p = some ys ∧ Q (.nx (σ.set i (some (.own (.lst ys)))))) : M.sat n (fChg R i g f σ) Q := by
  unfold fChg
  rw [ho]
  refine M.sat_bindE h fun p hp => ?_
  obtain ⟨h1, ys, h2, q⟩ := k p hp
  rw [h1, rel_true, ho]
  simp only []
  rw [h2]
  exact M.sat_ret q
theorem sat_set {a b : FE} {P : PV → Prop} {c : Cell} {k : PV} (ho : ownC σ i = some c) (h : M.sat n (b (bor R 0 σ)) P) (ha : a (bor R2 0 σ) = M.ret k) (hk : nl k = true) (hs : ∀ p, P p → nl p = true ∧ ∃ d, setC c k p = some d ∧ Q (.nx (σ.set i (some (.own d))))) : M.sat n (fSet R R2 i a b σ) Q := by
  unfold fSet
  refine M.sat_bindE h fun p hp => ?_
  obtain ⟨h1, d, h2, q⟩ := hs p hp
  rw [h1, rel_true, ho]
  simp only []
  rw [ha]
  simp only [M.ret_bind]
  rw [hk, rel_true, ho]
  simp only []
  rw [h2]
  exact M.sat_ret q
theorem sat_ret_e {x : FE} {P : PV → Prop} (h : M.sat n (x (bor R 0 σ)) P) : M.sat n (fRet R x σ) fun o => ∃ v, o = .rt v ∧ P v := M.sat_bindE h fun p hp => M.sat_ret ⟨p, rfl, hp⟩
theorem sat_if {t : FT} {a b : FS} {P : Bool → Prop} (h : M.sat n (t (bor R 0 σ)) P) (h1 : P true → M.sat n (a σ) Q) (h2 : P false → M.sat n (b σ) Q) : M.sat n (fIf R t a b σ) Q := M.sat_bindE h fun k hk => by
  cases k with
  | true => exact h1 hk
  | false => exact h2 hk
theorem sat_seqC {a b : FS} {σ' : SS} (h : a σ = M.ret (.ct σ')) (q : Q (.ct σ')) : M.sat n (fSeq a b σ) Q := by
  unfold fSeq; rw [h]; exact M.sat_ret q
theorem sat_for0 {t : Tg} {it : FA} {b : FS} {ps : List PV} (e : it (bor [] 0 σ) = M.ret ps) (h : M.sat n (forF t b ps σ) Q) : M.sat n (fFor [] t it b σ) Q := sat_for e (by rw [lck_nil]; exact h)
theorem det_for0 {t : Tg} {it : FA} {b : FS} {ps : List PV} (e : it (bor [] 0 σ) = M.ret ps) (h : M.det (forF t b ps σ) Q) : M.det (fFor [] t it b σ) Q := det_for e (by rw [lck_nil]; exact h)
theorem rg1E {j : Int} {k : Nat} (h : j = k) (hk : k ≤ 16777216) {x : FE} {σ : SI} (hx : x σ = M.ret (.int j)) : fRg1 x σ = M.ret (intsL 0 k) := by
  unfold fRg1
  rw [hx]
  have e : j.toNat = k := by omega
  rw [← e]
  exact if_pos ⟨by omega, by omega⟩
theorem det_forF {t : Tg} {b : FS} (I : List PV → SS → Prop) (h0 : ∀ σ, I [] σ → Q (.nx σ)) (hs : ∀ p ps σ, I (p :: ps) σ → ∃ σ', t.goS p σ = some σ' ∧ M.det (b σ') fun o => ∃ σ2, o = .nx σ2 ∧ I ps σ2) : ∀ ps σ, I ps σ → M.det (forF t b ps σ) Q
  | [], σ, i => M.det_ret (h0 σ i)
  | p :: ps, σ, i => by
    obtain ⟨σ', e, q⟩ := hs p ps σ i
    unfold forF
    rw [e]
    refine M.det_bind (M.det_ret ?_)
    refine M.det_bind (M.det_mono (fun o q => ?_) q)
    obtain ⟨σ2, rfl, j⟩ := q
    exact det_forF I h0 hs ps σ2 j
theorem appG_ok {xs : List PV} {p : PV} (h : xs.length < 16777216) : appG xs p = some (xs ++ [p]) := if_pos h
theorem intsL_len (lo : Int) (k : Nat) : (intsL lo k).length = k := by simp [intsL]
theorem intsL_mem {lo : Int} {k : Nat} {p : PV} (h : p ∈ intsL lo k) : ∃ i : Nat, i < k ∧ p = .int (lo + i) := by
  simp only [intsL, List.mem_map, List.mem_range] at h
  obtain ⟨i, a, b⟩ := h
  exact ⟨i, a, b.symm⟩
end
end RF

set_option Elab.async false
set_option linter.all false
set_option maxRecDepth 100000
set_option maxHeartbeats 2000000
namespace K89
open PySem PySem.Spec L2 RF
abbrev prg : Program := PySem.Challenge.pw_samequick_k89_standings_after_many_steps
def top (i : Nat) : Stmt := prg.main.body.getD i (.Pass ⟨0, 0, 0, 0⟩)
abbrev st_is_integer : Stmt := top 8
abbrev st_is_between : Stmt := top 9
abbrev st_is_word_value : Stmt := top 10
abbrev st_need_word : Stmt := top 11
abbrev st_is_rule : Stmt := top 15
abbrev st_is_state : Stmt := top 16
abbrev st_is_machine : Stmt := top 17
abbrev st_need_machine : Stmt := top 18
abbrev st_need_count : Stmt := top 19
abbrev st_is_standing_value : Stmt := top 20
abbrev st_done : Stmt := top 21
abbrev st_standing_behind : Stmt := top 22
abbrev st_last_standing : Stmt := top 23
abbrev st_pile_step : Stmt := top 24
abbrev st_standing_after : Stmt := top 25
abbrev st__law_deck : Stmt := top 27
abbrev st__law_draw : Stmt := top 28
abbrev st__law_pick : Stmt := top 29
abbrev st__law_word : Stmt := top 30
abbrev st__law_same : Stmt := top 31
abbrev st__law_is_integer : Stmt := top 32
abbrev st__law_is_number : Stmt := top 33
abbrev st__law_is_word : Stmt := top 34
abbrev st__law_machine : Stmt := top 35
abbrev st__law_is_machine : Stmt := top 36
abbrev st__law_bent : Stmt := top 37
abbrev st__law_pile_step : Stmt := top 38
abbrev st__law_after : Stmt := top 39
abbrev st__law_odd : Stmt := top 40
abbrev st__law_tried : Stmt := top 41
abbrev st_law : Stmt := top 42
/-! ### facts -/
structure Facts (C : Cfg) (mg : Str → Option Value) : Prop where
  sy : HasSys C.K
  b_all : mg "all" = none
  b_bool : mg "bool" = none
  b_int : mg "int" = none
  b_isinstance : mg "isinstance" = none
  b_len : mg "len" = none
  b_list : mg "list" = none
  b_max : mg "max" = none
  b_range : mg "range" = none
  b_repr : mg "repr" = none
  b_str : mg "str" = none
  b_tuple : mg "tuple" = none
  g_LETTERS : mg "LETTERS" = some (.ref (He.ga C.K "LETTERS"))
  c_LETTERS : ∀ H, SqT C.K H (He.ga C.K "LETTERS") [V.str "0", V.str "1"]
  g_DEEDS : mg "DEEDS" = some (.ref (He.ga C.K "DEEDS"))
  c_DEEDS : ∀ H, SqT C.K H (He.ga C.K "DEEDS") [V.str "stay", V.str "put0", V.str "put1", V.str "cut", V.str "over", V.str "back"]
  g_ENDS : mg "ENDS" = some (.ref (He.ga C.K "ENDS"))
  c_ENDS : ∀ H, SqT C.K H (He.ga C.K "ENDS") [V.str "", V.str "0", V.str "1"]
  t_ENDS : ∃ o, C.K.lookup (He.ga C.K "ENDS") = some o ∧ o.cls = .type "tuple" ∧ o.dict = none
  g_BadWord : mg "BadWord" = some (.ref (He.ga C.K "BadWord"))
  e_BadWord : RH.ErrAll C.K "BadWord" (fldOf "BadWord") "QuickError"
  g_BadNumber : mg "BadNumber" = some (.ref (He.ga C.K "BadNumber"))
  e_BadNumber : RH.ErrAll C.K "BadNumber" (fldOf "BadNumber") "QuickError"
  g_BadStanding : mg "BadStanding" = some (.ref (He.ga C.K "BadStanding"))
  e_BadStanding : RH.ErrAll C.K "BadStanding" (fldOf "BadStanding") "QuickError"
  g_BadMachine : mg "BadMachine" = some (.ref (He.ga C.K "BadMachine"))
  e_BadMachine : RH.ErrAll C.K "BadMachine" (fldOf "BadMachine") "QuickError"
  q : mg "QuickError" = some (.ref (He.ga C.K "QuickError"))
  k_BadWord_BadWord : PySem.W.kitOne C.K (.ref (He.ga C.K "BadWord")) (.ref (He.ga C.K "BadWord")) = some true
  k_BadWord_BadNumber : PySem.W.kitOne C.K (.ref (He.ga C.K "BadWord")) (.ref (He.ga C.K "BadNumber")) = some false
  k_BadWord_BadStanding : PySem.W.kitOne C.K (.ref (He.ga C.K "BadWord")) (.ref (He.ga C.K "BadStanding")) = some false
  k_BadWord_BadMachine : PySem.W.kitOne C.K (.ref (He.ga C.K "BadWord")) (.ref (He.ga C.K "BadMachine")) = some false
  k_BadNumber_BadWord : PySem.W.kitOne C.K (.ref (He.ga C.K "BadNumber")) (.ref (He.ga C.K "BadWord")) = some false
  k_BadNumber_BadNumber : PySem.W.kitOne C.K (.ref (He.ga C.K "BadNumber")) (.ref (He.ga C.K "BadNumber")) = some true
  k_BadNumber_BadStanding : PySem.W.kitOne C.K (.ref (He.ga C.K "BadNumber")) (.ref (He.ga C.K "BadStanding")) = some false
  k_BadNumber_BadMachine : PySem.W.kitOne C.K (.ref (He.ga C.K "BadNumber")) (.ref (He.ga C.K "BadMachine")) = some false
  k_BadStanding_BadWord : PySem.W.kitOne C.K (.ref (He.ga C.K "BadStanding")) (.ref (He.ga C.K "BadWord")) = some false
  k_BadStanding_BadNumber : PySem.W.kitOne C.K (.ref (He.ga C.K "BadStanding")) (.ref (He.ga C.K "BadNumber")) = some false
  k_BadStanding_BadStanding : PySem.W.kitOne C.K (.ref (He.ga C.K "BadStanding")) (.ref (He.ga C.K "BadStanding")) = some true
  k_BadStanding_BadMachine : PySem.W.kitOne C.K (.ref (He.ga C.K "BadStanding")) (.ref (He.ga C.K "BadMachine")) = some false
  k_BadMachine_BadWord : PySem.W.kitOne C.K (.ref (He.ga C.K "BadMachine")) (.ref (He.ga C.K "BadWord")) = some false
  k_BadMachine_BadNumber : PySem.W.kitOne C.K (.ref (He.ga C.K "BadMachine")) (.ref (He.ga C.K "BadNumber")) = some false
  k_BadMachine_BadStanding : PySem.W.kitOne C.K (.ref (He.ga C.K "BadMachine")) (.ref (He.ga C.K "BadStanding")) = some false
  k_BadMachine_BadMachine : PySem.W.kitOne C.K (.ref (He.ga C.K "BadMachine")) (.ref (He.ga C.K "BadMachine")) = some true
def errs : List Str := ["BadWord", "BadNumber", "BadStanding", "BadMachine"]
theorem Facts.err {C : Cfg} {mg : Str → Option Value} (FX : Facts C mg) : ∀ cn ∈ errs, RH.ErrAll C.K cn (fldOf cn) "QuickError" := by
  intro cn m
  simp only [errs, List.mem_cons, List.not_mem_nil, or_false] at m
  rcases m with rfl | rfl | rfl | rfl
  all_goals first | exact FX.e_BadWord | exact FX.e_BadNumber | exact FX.e_BadStanding | exact FX.e_BadMachine
theorem Facts.kit {C : Cfg} {mg : Str → Option Value} (FX : Facts C mg) : ∀ c1 ∈ errs, ∀ c2 ∈ errs, PySem.W.kitOne C.K (.ref (He.ga C.K c1)) (.ref (He.ga C.K c2)) = some (decide (c1 = c2)) := by
  intro c1 m1 c2 m2
  simp only [errs, List.mem_cons, List.not_mem_nil, or_false] at m1 m2
  rcases m1 with rfl | rfl | rfl | rfl <;> rcases m2 with rfl | rfl | rfl | rfl
  all_goals first | exact FX.k_BadWord_BadWord | exact FX.k_BadWord_BadNumber | exact FX.k_BadWord_BadStanding | exact FX.k_BadWord_BadMachine | exact FX.k_BadNumber_BadWord | exact FX.k_BadNumber_BadNumber | exact FX.k_BadNumber_BadStanding | exact FX.k_BadNumber_BadMachine | exact FX.k_BadStanding_BadWord | exact FX.k_BadStanding_BadNumber | exact FX.k_BadStanding_BadStanding | exact FX.k_BadStanding_BadMachine | exact FX.k_BadMachine_BadWord | exact FX.k_BadMachine_BadNumber | exact FX.k_BadMachine_BadStanding | exact FX.k_BadMachine_BadMachine
/-! ### the defs as functions, and their derivations -/
abbrev N_is_integer : List Str := ["thing"]
abbrev N_is_between : List Str := ["thing", "least", "most"]
abbrev N_is_word_value : List Str := ["thing", "letter"]
abbrev N_need_word : List Str := ["word"]
abbrev N_is_rule : List Str := ["thing", "many"]
abbrev N_is_state : List Str := ["thing", "many", "rule"]
abbrev N_is_machine : List Str := ["thing", "state"]
abbrev N_need_machine : List Str := ["machine"]
abbrev N_need_count : List Str := ["thing"]
abbrev N_is_standing_value : List Str := ["machine", "thing"]
abbrev N_done : List Str := ["deed", "left", "right"]
abbrev N_standing_behind : List Str := ["machine", "standing", "state", "left", "right", "follower", "deed", "new_left", "new_right"]
abbrev N_last_standing : List Str := ["machine", "word", "many", "standing"]
abbrev N_pile_step : List Str := ["machine", "standing"]
abbrev N_standing_after : List Str := ["machine", "word", "many"]
abbrev N__law_deck : List Str := ["script", "mixed", "cell"]
abbrev N__law_draw : List Str := ["deck", "many", "cell", "figure"]
abbrev N__law_pick : List Str := ["deck", "some"]
abbrev N__law_word : List Str := ["deck", "most", "place"]
abbrev N__law_same : List Str := ["told", "due"]
abbrev N__law_is_integer : List Str := ["thing"]
abbrev N__law_is_number : List Str := ["thing"]
abbrev N__law_is_word : List Str := ["thing", "sign"]
abbrev N__law_machine : List Str := ["deck", "most", "many", "machine", "rare", "deeds", "state", "rules", "letter", "to"]
abbrev N__law_is_machine : List Str := ["thing", "state", "rule"]
abbrev N__law_bent : List Str := ["deck", "thing", "odd", "at", "way"]
abbrev N__law_pile_step : List Str := ["machine", "standing", "state", "left", "right", "to", "deed"]
abbrev N__law_after : List Str := ["machine", "standing", "many", "turn"]
abbrev N__law_odd : List Str := []
abbrev N__law_tried : List Str := ["call", "found", "e", "kinds"]
abbrev N_law : List Str := ["script", "deck", "turn", "machine", "word", "go", "many", "due", "told", "thing", "near"]
abbrev F__law_draw : FF := drawF
def f_is_integer : FS :=
  (fRet [] (fAndV (fIsi .int (fVar 0)) (fNotV (fIsi .bool (fVar 0)))))
def F_is_integer : FF := bodyF 1 (f_is_integer)
def f_is_between : FS :=
  (fRet [] (fAndV (fCall 1 F_is_integer (fCons (fVar 0) fNil)) (fCh leF leF (fVar 1) (fVar 0) (fVar 2))))
def F_is_between : FF := bodyF 3 (f_is_between)
def f_is_word_value : FS :=
  (fRet [] (fAndV (fIsi .str (fVar 0)) (fFn (f1 allF) (fCons (fLc (.nm 1) [1] (fIt (fVar 0)) fYes (fCmp inF (fVar 1) (fC (.tup [.str "0", .str "1"])))) fNil))))
def F_is_word_value : FF := bodyF 2 (f_is_word_value)
def f_need_word : FS :=
  (fIf [] (fNotT (fTru (fCall 1 F_is_word_value (fCons (fVar 0) fNil)))) (fRaise [] "BadWord" (fVar 0)) fPass)
def F_need_word : FF := bodyF 1 (f_need_word)
def f_is_rule : FS :=
  (fSeq (fIf [] (fOrT (fNotT (fTru (fIsi .tuple (fVar 0)))) (fCmpT neF (fFn (f1 lenF) (fCons (fVar 0) fNil)) (fC (.int 2)))) (fRet [] (fC (.bl false))) fPass)
  (fRet [] (fAndV (fCall 3 F_is_between (fCons (fOp ixF (fVar 0) (fC (.int 0))) (fCons (fC (.int 0)) (fCons (fVar 1) fNil)))) (fCmp inF (fOp ixF (fVar 0) (fC (.int 1))) (fC (.tup [.str "stay", .str "put0", .str "put1", .str "cut", .str "over", .str "back"]))))))
def F_is_rule : FF := bodyF 2 (f_is_rule)
def f_is_state : FS :=
  (fRet [] (fAndV (fIsi .tuple (fVar 0)) (fAndV (fCmp eqF (fFn (f1 lenF) (fCons (fVar 0) fNil)) (fFn (f1 lenF) (fCons (fC (.tup [.str "", .str "0", .str "1"])) fNil))) (fFn (f1 allF) (fCons (fLc (.nm 2) [2] (fIt (fVar 0)) fYes (fCall 2 F_is_rule (fCons (fVar 2) (fCons (fVar 1) fNil)))) fNil)))))
def F_is_state : FF := bodyF 3 (f_is_state)
def f_is_machine : FS :=
  (fRet [] (fAndV (fIsi .tuple (fVar 0)) (fAndV (fCmp gtF (fFn (f1 lenF) (fCons (fVar 0) fNil)) (fC (.int 0))) (fFn (f1 allF) (fCons (fLc (.nm 1) [1] (fIt (fVar 0)) fYes (fCall 2 F_is_state (fCons (fVar 1) (fCons (fFn (f1 lenF) (fCons (fVar 0) fNil)) fNil)))) fNil)))))
def F_is_machine : FF := bodyF 2 (f_is_machine)
def f_need_machine : FS :=
  (fIf [] (fNotT (fTru (fCall 1 F_is_machine (fCons (fVar 0) fNil)))) (fRaise [] "BadMachine" (fVar 0)) fPass)
def F_need_machine : FF := bodyF 1 (f_need_machine)
def f_need_count : FS :=
  (fIf [] (fOrT (fNotT (fTru (fCall 1 F_is_integer (fCons (fVar 0) fNil)))) (fCmpT ltF (fVar 0) (fC (.int 0)))) (fRaise [] "BadNumber" (fVar 0)) fPass)
def F_need_count : FF := bodyF 1 (f_need_count)
def f_is_standing_value : FS :=
  (fSeq (fIf [] (fOrT (fNotT (fTru (fIsi .tuple (fVar 1)))) (fOrT (fCmpT neF (fFn (f1 lenF) (fCons (fVar 1) fNil)) (fC (.int 3))) (fNotT (fTru (fCall 3 F_is_between (fCons (fOp ixF (fVar 1) (fC (.int 0))) (fCons (fC (.int 0)) (fCons (fFn (f1 lenF) (fCons (fVar 0) fNil)) fNil)))))))) (fRet [] (fC (.bl false))) fPass)
  (fRet [] (fAndV (fCall 1 F_is_word_value (fCons (fOp ixF (fVar 1) (fC (.int 1))) fNil)) (fCall 1 F_is_word_value (fCons (fOp ixF (fVar 1) (fC (.int 2))) fNil)))))
def F_is_standing_value : FF := bodyF 2 (f_is_standing_value)
def f_done : FS :=
  (fSeq (fIf [] (fCmpT eqF (fVar 0) (fC (.str "put0"))) (fRet [] (fTup (fCons (fOp addF (fVar 1) (fC (.str "0"))) (fCons (fVar 2) fNil)))) fPass)
  (fSeq (fIf [] (fCmpT eqF (fVar 0) (fC (.str "put1"))) (fRet [] (fTup (fCons (fOp addF (fVar 1) (fC (.str "1"))) (fCons (fVar 2) fNil)))) fPass)
  (fSeq (fIf [] (fCmpT eqF (fVar 0) (fC (.str "cut"))) (fRet [] (fTup (fCons (fSl (fVar 1) fNoO (fSmO (fUn negF (fC (.int 1))))) (fCons (fVar 2) fNil)))) fPass)
  (fSeq (fIf [] (fCmpT eqF (fVar 0) (fC (.str "over"))) (fRet [] (fTup (fCons (fSl (fVar 1) fNoO (fSmO (fUn negF (fC (.int 1))))) (fCons (fOp addF (fVar 2) (fSl (fVar 1) (fSmO (fUn negF (fC (.int 1)))) fNoO)) fNil)))) fPass)
  (fSeq (fIf [] (fCmpT eqF (fVar 0) (fC (.str "back"))) (fRet [] (fTup (fCons (fOp addF (fVar 1) (fSl (fVar 2) (fSmO (fUn negF (fC (.int 1)))) fNoO)) (fCons (fSl (fVar 2) fNoO (fSmO (fUn negF (fC (.int 1))))) fNil)))) fPass)
  (fRet [] (fTup (fCons (fVar 1) (fCons (fVar 2) fNil)))))))))
def F_done : FF := bodyF 3 (f_done)
def f_standing_behind : FS :=
  (fSeq (fAsg [] (.tp [2, 3, 4]) (fVar 1))
  (fSeq (fIf [] (fCmpT eqF (fVar 2) (fFn (f1 lenF) (fCons (fVar 0) fNil))) (fRet [] (fVar 1)) fPass)
  (fSeq (fAsg [] (.tp [5, 6]) (fOp ixF (fOp ixF (fVar 0) (fVar 2)) (fIdx ["", "0", "1"] (fSl (fVar 3) (fSmO (fUn negF (fC (.int 1)))) fNoO))))
  (fSeq (fAsg [] (.tp [7, 8]) (fCall 3 F_done (fCons (fVar 6) (fCons (fVar 3) (fCons (fVar 4) fNil)))))
  (fRet [] (fTup (fCons (fVar 5) (fCons (fVar 7) (fCons (fVar 8) fNil)))))))))
def F_standing_behind : FF := bodyF 9 (f_standing_behind)
def f_last_standing : FS :=
  (fSeq (fAsg [] (.nm 3) (fTup (fCons (fC (.int 0)) (fCons (fVar 1) (fCons (fC (.str "")) fNil)))))
  (fSeq (fWhl 1000 [] (fAndT (fCmpT gtF (fVar 2) (fC (.int 0))) (fCmpT ltF (fOp ixF (fVar 3) (fC (.int 0))) (fFn (f1 lenF) (fCons (fVar 0) fNil))))
  (fSeq (fAsg [] (.nm 3) (fCall 2 F_standing_behind (fCons (fVar 0) (fCons (fVar 3) fNil))))
  (fAug [] augSub 2 (fC (.int 1)))))
  (fRet [] (fVar 3))))
def F_last_standing : FF := bodyF 4 (f_last_standing)
def f_pile_step : FS :=
  (fSeq (fDo [] (fCall 1 F_need_machine (fCons (fVar 0) fNil)))
  (fSeq (fIf [] (fNotT (fTru (fCall 2 F_is_standing_value (fCons (fVar 0) (fCons (fVar 1) fNil))))) (fRaise [] "BadStanding" (fVar 1)) fPass)
  (fRet [] (fCall 2 F_standing_behind (fCons (fVar 0) (fCons (fVar 1) fNil))))))
def F_pile_step : FF := bodyF 2 (f_pile_step)
def f_standing_after : FS :=
  (fSeq (fDo [] (fCall 1 F_need_machine (fCons (fVar 0) fNil)))
  (fSeq (fDo [] (fCall 1 F_need_word (fCons (fVar 1) fNil)))
  (fSeq (fDo [] (fCall 1 F_need_count (fCons (fVar 2) fNil)))
  (fRet [] (fCall 3 F_last_standing (fCons (fVar 0) (fCons (fVar 1) (fCons (fVar 2) fNil))))))))
def F_standing_after : FF := bodyF 3 (f_standing_after)
def w__law_deck (C : Cfg) : WS := (wSeq (wAsg (.nm 1) (wC (.int 13745089))) (wSeq (wFor (.nm 2) (wIt (wScr C (wVar 0) (wSmO (wC (.int 63))))) (wAsg (.nm 1) (wOp gMod (wFn gInt (wCons (wOp gAdd (wOp gAdd (wOp gMul (wVar 1) (wC (.int 39373))) (wOp gMod (wFn gInt (wCons (wVar 2) wNil)) (wC (.int 2147483629)))) (wC (.int 11))) wNil)) (wC (.int 2147483563))))) (wRet (wDctM [((wC (.str "left")), (wRevLM (wFn gList (wCons (wScr C (wVar 0) (wSmO (wC (.int 63)))) wNil)))), ((wC (.str "mixed")), (wVar 1)), ((wC (.str "draws")), (wC (.int 0)))]))))
def w__law_draw : WS := (wSeq (wDPut (wVar 0) (wC (.str "draws")) (wOp gAdd (wDGet (wVar 0) (wC (.str "draws"))) (wC (.int 1)))) (wSeq (wIf (wCmpT cNe (wDGet (wVar 0) (wC (.str "left"))) (wLst wNil)) (wSeq (wAsg (.nm 2) (wMt isLs gPop (wDGet (wVar 0) (wC (.str "left"))) wNil)) (wSeq (wIf (wCmpT cGe (wVar 2) (wOp gPow (wC (.int 10)) (wC (.int 18)))) (wSeq (wDo (wMt isLs gApp (wDGet (wVar 0) (wC (.str "left"))) (wCons (wOp gDiv (wVar 2) (wFn gMax (wCons (wC (.int 2)) (wCons (wVar 1) wNil)))) wNil))) (wRet (wOp gMod (wFn gInt (wCons (wVar 2) wNil)) (wVar 1)))) wPass) (wDPut (wVar 0) (wC (.str "mixed")) (wOp gMod (wFn gInt (wCons (wOp gAdd (wOp gAdd (wOp gMul (wDGet (wVar 0) (wC (.str "mixed"))) (wC (.int 48271))) (wOp gMod (wFn gInt (wCons (wVar 2) wNil)) (wC (.int 2147483587)))) (wC (.int 5))) wNil)) (wC (.int 2147483629)))))) wPass) (wSeq (wAsg (.nm 3) (wOp gMod (wFn gInt (wCons (wOp gAdd (wDGet (wVar 0) (wC (.str "mixed"))) (wOp gMul (wC (.int 69621)) (wDGet (wVar 0) (wC (.str "draws"))))) wNil)) (wC (.int 2147483647)))) (wSeq (wAsg (.nm 3) (wOp gMod (wFn gInt (wCons (wOp gAdd (wOp gAdd (wOp gMul (wVar 3) (wVar 3)) (wOp gMul (wC (.int 40014)) (wDGet (wVar 0) (wC (.str "draws"))))) (wC (.int 7))) wNil)) (wC (.int 2147483563)))) (wSeq (wAsg (.nm 3) (wOp gMod (wFn gInt (wCons (wOp gAdd (wOp gMul (wVar 3) (wC (.int 30269))) (wC (.int 101))) wNil)) (wC (.int 2147483587)))) (wRet (wOp gMod (wFn gInt (wCons (wOp gDiv (wVar 3) (wC (.int 64))) wNil)) (wVar 1))))))))
def f__law_pick : FS :=
  (fRet [] (fOp ixF (fVar 1) (fCall 2 F__law_draw (fCons (fVar 0) (fCons (fFn (f1 lenF) (fCons (fVar 1) fNil)) fNil)))))
def F__law_pick : FF := bodyF 2 (f__law_pick)
def f__law_word : FS :=
  (fRet [] (fMt joinF isStrB (fC (.str "")) (fCons (fLc (.nm 2) [2] (fRg1 (fCall 2 F__law_draw (fCons (fVar 0) (fCons (fOp addF (fVar 1) (fC (.int 1))) fNil)))) fYes (fCall 2 F__law_pick (fCons (fVar 0) (fCons (fLst (fCons (fC (.str "0")) (fCons (fC (.str "1")) fNil))) fNil)))) fNil)))
def F__law_word : FF := bodyF 3 (f__law_word)
def f__law_same : FS :=
  (fRet [] (fCmp eqF (fFn (f1 reprF) (fCons (fVar 0) fNil)) (fFn (f1 reprF) (fCons (fVar 1) fNil))))
def F__law_same : FF := bodyF 2 (f__law_same)
def f__law_is_integer : FS :=
  (fRet [] (fAndV (fIsi .int (fVar 0)) (fNotV (fIsi .bool (fVar 0)))))
def F__law_is_integer : FF := bodyF 1 (f__law_is_integer)
def f__law_is_number : FS :=
  (fRet [] (fAndV (fCall 1 F__law_is_integer (fCons (fVar 0) fNil)) (fCmp geF (fVar 0) (fC (.int 0)))))
def F__law_is_number : FF := bodyF 1 (f__law_is_number)
def f__law_is_word : FS :=
  (fRet [] (fAndV (fIsi .str (fVar 0)) (fCmp eqF (fLc (.nm 1) [1] (fIt (fVar 0)) (fCmpT notInF (fVar 1) (fTup (fCons (fC (.str "0")) (fCons (fC (.str "1")) fNil)))) (fVar 1)) (fLst fNil))))
def F__law_is_word : FF := bodyF 2 (f__law_is_word)
def f__law_machine : FS :=
  (fSeq (fPar [] [2, 3, 4] [.v (fOp addF (fC (.int 1)) (fCall 2 F__law_draw (fCons (fVar 0) (fCons (fVar 1) fNil)))), .c (fmL fNil), .v (fCall 2 F__law_pick (fCons (fVar 0) (fCons (fLst (fCons (fC (.int 6)) (fCons (fC (.int 3)) (fCons (fC (.int 40)) fNil)))) fNil)))])
  (fSeq (fAsg [] (.nm 5) (fLst (fCons (fC (.str "over")) (fCons (fC (.str "put1")) (fCons (fC (.str "stay")) (fCons (fC (.str "cut")) (fCons (fC (.str "back")) (fCons (fC (.str "put0")) fNil))))))))
  (fSeq (fIf [] (fCmpT eqF (fCall 2 F__law_draw (fCons (fVar 0) (fCons (fC (.int 2)) fNil))) (fC (.int 0))) (fAsg [] (.nm 5) (fCall 2 F__law_pick (fCons (fVar 0) (fCons (fLst (fCons (fLst (fCons (fC (.str "over")) (fCons (fC (.str "back")) (fCons (fC (.str "put1")) (fCons (fC (.str "over")) (fCons (fC (.str "back")) fNil)))))) (fCons (fLst (fCons (fC (.str "put0")) (fCons (fC (.str "over")) (fCons (fC (.str "put1")) (fCons (fC (.str "back")) (fCons (fC (.str "over")) fNil)))))) fNil))) fNil)))) fPass)
  (fSeq (fFor [] (.nm 6) (fRg1 (fVar 2))
  (fSeq (fOwn [] 7 (fmL fNil))
  (fSeq (fFor [] (.nm 8) (fRg1 (fC (.int 3)))
  (fSeq (fAsg [] (.nm 9) (fIfE (fCmpT eqF (fCall 2 F__law_draw (fCons (fVar 0) (fCons (fVar 4) fNil))) (fC (.int 0))) (fVar 2) (fCall 2 F__law_draw (fCons (fVar 0) (fCons (fVar 2) fNil)))))
  (fChg [] 7 appG (fTup (fCons (fVar 9) (fCons (fCall 2 F__law_pick (fCons (fVar 0) (fCons (fVar 5) fNil))) fNil))))))
  (fChg [7] 3 appG (fFn (f1 tupleF) (fCons (fVar 7) fNil))))))
  (fSeq (fIf [] (fAndT (fCmpT gtF (fVar 2) (fC (.int 1))) (fCmpT eqF (fCall 2 F__law_draw (fCons (fVar 0) (fCons (fC (.int 3)) fNil))) (fC (.int 0)))) (fSeq (fSet [] [] 3 (fC (.int 0)) (fTup (fCons (fTup (fCons (fC (.int 1)) (fCons (fCall 2 F__law_pick (fCons (fVar 0) (fCons (fLst (fCons (fC (.str "stay")) (fCons (fC (.str "put1")) (fCons (fC (.str "stay")) (fCons (fC (.str "put0")) fNil))))) fNil))) fNil))) (fCons (fTup (fCons (fC (.int 0)) (fCons (fC (.str "over")) fNil))) (fCons (fTup (fCons (fC (.int 0)) (fCons (fC (.str "over")) fNil))) fNil)))))
  (fSet [3] [] 3 (fC (.int 1)) (fTup (fCons (fOp ixF (fOp ixF (fVar 3) (fC (.int 1))) (fC (.int 0))) (fCons (fTup (fCons (fC (.int 1)) (fCons (fC (.str "back")) fNil))) (fCons (fTup (fCons (fC (.int 1)) (fCons (fC (.str "back")) fNil))) fNil)))))) fPass)
  (fRet [3] (fFn (f1 tupleF) (fCons (fVar 3) fNil))))))))
def F__law_machine : FF := bodyF 10 (f__law_machine)
def f__law_is_machine : FS :=
  (fSeq (fIf [] (fOrT (fNotT (fTru (fIsi .tuple (fVar 0)))) (fCmpT eqF (fVar 0) (fTup fNil))) (fRet [] (fC (.bl false))) fPass)
  (fSeq (fFor [] (.nm 1) (fIt (fVar 0))
  (fSeq (fIf [] (fOrT (fNotT (fTru (fIsi .tuple (fVar 1)))) (fCmpT neF (fFn (f1 lenF) (fCons (fVar 1) fNil)) (fC (.int 3)))) (fRet [] (fC (.bl false))) fPass)
  (fFor [] (.nm 2) (fIt (fVar 1))
  (fSeq (fIf [] (fOrT (fNotT (fTru (fIsi .tuple (fVar 2)))) (fCmpT neF (fFn (f1 lenF) (fCons (fVar 2) fNil)) (fC (.int 2)))) (fRet [] (fC (.bl false))) fPass)
  (fSeq (fIf [] (fOrT (fNotT (fTru (fCall 1 F__law_is_number (fCons (fOp ixF (fVar 2) (fC (.int 0))) fNil)))) (fCmpT gtF (fOp ixF (fVar 2) (fC (.int 0))) (fFn (f1 lenF) (fCons (fVar 0) fNil)))) (fRet [] (fC (.bl false))) fPass)
  (fIf [] (fOrT (fNotT (fTru (fIsi .str (fOp ixF (fVar 2) (fC (.int 1)))))) (fCmpT notInF (fOp ixF (fVar 2) (fC (.int 1))) (fTup (fCons (fC (.str "stay")) (fCons (fC (.str "put0")) (fCons (fC (.str "put1")) (fCons (fC (.str "cut")) (fCons (fC (.str "over")) (fCons (fC (.str "back")) fNil))))))))) (fRet [] (fC (.bl false))) fPass))))))
  (fRet [] (fC (.bl true)))))
def F__law_is_machine : FF := bodyF 3 (f__law_is_machine)
def f__law_bent (F : FF) : FS :=
  (fSeq (fIf [] (fOrT (fNotT (fTru (fIsi .tuple (fVar 1)))) (fOrT (fCmpT eqF (fVar 1) (fTup fNil)) (fCmpT eqF (fCall 2 F__law_draw (fCons (fVar 0) (fCons (fC (.int 9)) fNil))) (fC (.int 0))))) (fRet [] (fIfE (fAndT (fCmpT inF (fVar 1) (fTup (fCons (fC (.int 0)) (fCons (fC (.int 1)) fNil)))) (fCmpT eqF (fCall 2 F__law_draw (fCons (fVar 0) (fCons (fC (.int 2)) fNil))) (fC (.int 0)))) (fCmp eqF (fVar 1) (fC (.int 1))) (fCall 2 F__law_pick (fCons (fVar 0) (fCons (fVar 2) fNil))))) fPass)
  (fSeq (fPar [] [3, 4] [.v (fCall 2 F__law_draw (fCons (fVar 0) (fCons (fFn (f1 lenF) (fCons (fVar 1) fNil)) fNil))), .v (fCall 2 F__law_draw (fCons (fVar 0) (fCons (fC (.int 10)) fNil)))])
  (fSeq (fIf [] (fCmpT eqF (fVar 4) (fC (.int 0))) (fRet [] (fOp addF (fSl (fVar 1) fNoO (fSmO (fVar 3))) (fSl (fVar 1) (fSmO (fOp addF (fVar 3) (fC (.int 1)))) fNoO))) fPass)
  (fSeq (fIf [] (fCmpT eqF (fVar 4) (fC (.int 1))) (fRet [] (fOp addF (fSl (fVar 1) fNoO (fSmO (fOp addF (fVar 3) (fC (.int 1))))) (fSl (fVar 1) (fSmO (fVar 3)) fNoO))) fPass)
  (fSeq (fIf [] (fCmpT eqF (fVar 4) (fC (.int 2))) (fRet [] (fFn (f1 listF) (fCons (fVar 1) fNil))) fPass)
  (fSeq (fIf [] (fCmpT eqF (fVar 4) (fC (.int 3))) (fRet [] (fOp addF (fSl (fVar 1) (fSmO (fVar 3)) fNoO) (fSl (fVar 1) fNoO (fSmO (fVar 3))))) fPass)
  (fRet [] (fOp addF (fOp addF (fSl (fVar 1) fNoO (fSmO (fVar 3))) (fTup (fCons (fCall 3 F (fCons (fVar 0) (fCons (fOp ixF (fVar 1) (fVar 3)) (fCons (fVar 2) fNil)))) fNil))) (fSl (fVar 1) (fSmO (fOp addF (fVar 3) (fC (.int 1)))) fNoO)))))))))
def F__law_bent : Nat → FF
  | 0 => fun _ => M.bad
  | k + 1 => bodyF 5 (f__law_bent (F__law_bent k))
def f__law_pile_step : FS :=
  (fSeq (fAsg [] (.tp [2, 3, 4]) (fVar 1))
  (fSeq (fIf [] (fCmpT eqF (fVar 2) (fFn (f1 lenF) (fCons (fVar 0) fNil))) (fRet [] (fVar 1)) fPass)
  (fSeq (fAsg [] (.tp [5, 6]) (fOp ixF (fOp ixF (fVar 0) (fVar 2)) (fIfE (fCmpT eqF (fVar 3) (fC (.str ""))) (fC (.int 0)) (fOp addF (fC (.int 1)) (fFn (f1 intF) (fCons (fOp ixF (fVar 3) (fUn negF (fC (.int 1)))) fNil))))))
  (fSeq (fIf [] (fCmpT eqF (fVar 6) (fC (.str "put0"))) (fAsg [] (.nm 3) (fOp addF (fVar 3) (fC (.str "0")))) (fIf [] (fCmpT eqF (fVar 6) (fC (.str "put1"))) (fAsg [] (.nm 3) (fOp addF (fVar 3) (fC (.str "1")))) (fIf [] (fCmpT eqF (fVar 6) (fC (.str "cut"))) (fAsg [] (.nm 3) (fSl (fVar 3) fNoO (fSmO (fUn negF (fC (.int 1)))))) (fIf [] (fAndT (fCmpT eqF (fVar 6) (fC (.str "over"))) (fCmpT neF (fVar 3) (fC (.str "")))) (fPar [] [3, 4] [.v (fSl (fVar 3) fNoO (fSmO (fUn negF (fC (.int 1))))), .v (fOp addF (fVar 4) (fOp ixF (fVar 3) (fUn negF (fC (.int 1)))))]) (fIf [] (fAndT (fCmpT eqF (fVar 6) (fC (.str "back"))) (fCmpT neF (fVar 4) (fC (.str "")))) (fPar [] [3, 4] [.v (fOp addF (fVar 3) (fOp ixF (fVar 4) (fUn negF (fC (.int 1))))), .v (fSl (fVar 4) fNoO (fSmO (fUn negF (fC (.int 1)))))]) fPass)))))
  (fRet [] (fTup (fCons (fVar 5) (fCons (fVar 3) (fCons (fVar 4) fNil)))))))))
def F__law_pile_step : FF := bodyF 7 (f__law_pile_step)
def f__law_after : FS :=
  (fSeq (fFor [] (.nm 3) (fRg1 (fVar 2))
  (fAsg [] (.nm 1) (fCall 2 F__law_pile_step (fCons (fVar 0) (fCons (fVar 1) fNil)))))
  (fRet [] (fVar 1)))
def F__law_after : FF := bodyF 4 (f__law_after)
def f__law_odd : FS :=
  (fRet [] (fLst (fCons (fC .non) (fCons (fC (.bl true)) (fCons (fC (.bl false)) (fCons (fC (.int 0)) (fCons (fC (.int 1)) (fCons (fC (.int 7)) (fCons (fUn negF (fC (.int 1))) (fCons (fC (.str "")) (fCons (fC (.str "0")) (fCons (fC (.str "stay")) (fCons (fC (.str "go")) (fCons (fTup fNil) (fCons (fLst fNil) (fCons (fC (.dct [])) (fCons (fTup (fCons (fC (.int 0)) (fCons (fC (.str "stay")) fNil))) (fCons (fTup (fCons (fTup (fCons (fC (.int 0)) (fCons (fC (.str "stay")) fNil))) fNil)) (fCons (fOp powF (fC (.int 10)) (fC (.int 39))) (fCons (fTup (fCons (fTup (fCons (fC (.int 0)) (fCons (fC (.str "cut")) fNil))) (fCons (fTup (fCons (fC (.int 0)) (fCons (fC (.str "cut")) fNil))) (fCons (fTup (fCons (fC (.int 0)) (fCons (fC (.str "cut")) fNil))) fNil)))) fNil))))))))))))))))))))
def F__law_odd : FF := bodyF 0 (f__law_odd)
def w__law_tried (fA : Addr) (wA : WL) : WS := (wSeq (wTry errs 4 2 (wAsg (.nm 1) (wAct fA wA)) (fun cE pE aE => (wSeq (wAsg (.nm 3) (wTup (wCons (wEis 2 aE (decide (cE = "BadMachine"))) (wCons (wEis 2 aE (decide (cE = "BadStanding"))) (wCons (wEis 2 aE (decide (cE = "BadWord"))) (wCons (wEis 2 aE (decide (cE = "BadNumber"))) wNil)))))) (wRet (wTup (wCons (wC (.str "raised")) (wCons (wVar 3) (wCons (wIfE (wCmpT (cInG false) (wC (.bl true)) (wVar 3)) (wFn gRepD (wCons (wEth 2 aE "thing" cE pE) wNil)) (wC .non)) wNil)))))))) (wRet (wTup (wCons (wC (.str "returned")) (wCons (wFn gRepD (wCons (wVar 1) wNil)) wNil)))))
def f_law (tr : M PV → M PV) : FS :=
  (fSeq (fFor [] (.nm 2) (fRg1 (fC (.int 2)))
  (fSeq (fPar [] [3, 4] [.v (fCall 2 F__law_machine (fCons (fVar 1) (fCons (fC (.int 6)) fNil))), .v (fCall 2 F__law_word (fCons (fVar 1) (fCons (fC (.int 6)) fNil)))])
  (fFor [] (.nm 5) (fRg1 (fC (.int 4)))
  (fSeq (fAsg [] (.nm 6) (fOp addF (fCall 2 F__law_pick (fCons (fVar 1) (fCons (fLst (fCons (fC (.int 0)) (fCons (fC (.int 1)) (fCons (fC (.int 2)) (fCons (fC (.int 3)) (fCons (fC (.int 5)) (fCons (fC (.int 8)) (fCons (fC (.int 13)) (fCons (fC (.int 40)) (fCons (fC (.int 77)) (fCons (fC (.int 199)) fNil))))))))))) fNil))) (fCall 2 F__law_draw (fCons (fVar 1) (fCons (fC (.int 2)) fNil)))))
  (fSeq (fIf [] (fCmpT eqF (fVar 5) (fC (.int 3))) (fAsg [] (.nm 6) (fCall 2 F__law_draw (fCons (fVar 1) (fCons (fC (.int 201)) fNil)))) fPass)
  (fSeq (fAsg [] (.nm 7) (fCall 3 F__law_after (fCons (fVar 3) (fCons (fTup (fCons (fC (.int 0)) (fCons (fVar 4) (fCons (fC (.str "")) fNil)))) (fCons (fVar 6) fNil)))))
  (fSeq (fAsg [] (.nm 8) (fIfE (fCmpT ltF (fVar 5) (fC (.int 2))) (fCall 3 F_standing_after (fCons (fVar 3) (fCons (fVar 4) (fCons (fVar 6) fNil)))) (fCallK 3 [1, 2, 0] F_standing_after (fCons (fVar 6) (fCons (fVar 3) (fCons (fVar 4) fNil))))))
  (fIf [] (fOrT (fNotT (fTru (fCall 2 F__law_same (fCons (fVar 8) (fCons (fVar 7) fNil))))) (fNotT (fTru (fCall 2 F__law_same (fCons (fCall 2 F_pile_step (fCons (fVar 3) (fCons (fVar 8) fNil))) (fCons (fCall 2 F__law_pile_step (fCons (fVar 3) (fCons (fVar 7) fNil))) fNil)))))) (fRet [] (fC (.bl false))) fPass))))))))
  (fSeq (fFor [] (.nm 2) (fRg1 (fC (.int 8)))
  (fSeq (fAsg [] (.tp [9, 10, 6]) (fTup (fCons (fCall 2 F__law_machine (fCons (fVar 1) (fCons (fC (.int 5)) fNil))) (fCons (fCall 2 F__law_word (fCons (fVar 1) (fCons (fC (.int 6)) fNil))) (fCons (fCall 2 F__law_draw (fCons (fVar 1) (fCons (fC (.int 30)) fNil))) fNil)))))
  (fSeq (fIf [] (fCmpT eqF (fCall 2 F__law_draw (fCons (fVar 1) (fCons (fC (.int 3)) fNil))) (fC (.int 0))) (fAsg [] (.nm 9) (fCall 3 (F__law_bent 20) (fCons (fVar 1) (fCons (fVar 9) (fCons (fun _ => F__law_odd []) fNil))))) fPass)
  (fSeq (fIf [] (fCmpT eqF (fCall 2 F__law_draw (fCons (fVar 1) (fCons (fC (.int 2)) fNil))) (fC (.int 0))) (fAsg [] (.nm 10) (fCall 2 F__law_pick (fCons (fVar 1) (fCons (fLst (fCons (fC .non) (fCons (fC (.int 0)) (fCons (fC (.int 1)) (fCons (fC (.bl true)) (fCons (fC (.str "2")) (fCons (fC (.str "01a")) (fCons (fC (.str "0 1")) (fCons (fC (.str " ")) (fCons (fTup (fCons (fC (.str "0")) fNil)) (fCons (fLst (fCons (fC (.str "0")) (fCons (fC (.str "1")) fNil))) (fCons (fC (.dct [])) (fCons (fC (.str "0\n")) (fCons (fC (.str "110")) (fCons (fC (.str "")) fNil))))))))))))))) fNil)))) fPass)
  (fSeq (fIf [] (fCmpT eqF (fCall 2 F__law_draw (fCons (fVar 1) (fCons (fC (.int 2)) fNil))) (fC (.int 0))) (fAsg [] (.nm 6) (fCall 2 F__law_pick (fCons (fVar 1) (fCons (fLst (fCons (fC .non) (fCons (fC (.bl true)) (fCons (fC (.bl false)) (fCons (fUn negF (fC (.int 1))) (fCons (fC (.str "1")) (fCons (fC (.str "")) (fCons (fTup fNil) (fCons (fTup (fCons (fC (.int 1)) fNil)) (fCons (fLst (fCons (fC (.int 1)) fNil)) (fCons (fC (.dct [])) (fCons (fUn negF (fOp powF (fC (.int 10)) (fC (.int 39)))) (fCons (fC (.int 0)) (fCons (fC (.int 3)) fNil)))))))))))))) fNil)))) fPass)
  (fSeq (fIf [] (fNotT (fTru (fCall 1 F__law_is_machine (fCons (fVar 9) fNil)))) (fAsg [] (.nm 7) (fTup (fCons (fC (.str "raised")) (fCons (fTup (fCons (fC (.bl true)) (fCons (fC (.bl false)) (fCons (fC (.bl false)) (fCons (fC (.bl false)) fNil))))) (fCons (fFn (f1 reprF) (fCons (fVar 9) fNil)) fNil))))) (fIf [] (fNotT (fTru (fCall 1 F__law_is_word (fCons (fVar 10) fNil)))) (fAsg [] (.nm 7) (fTup (fCons (fC (.str "raised")) (fCons (fTup (fCons (fC (.bl false)) (fCons (fC (.bl false)) (fCons (fC (.bl true)) (fCons (fC (.bl false)) fNil))))) (fCons (fFn (f1 reprF) (fCons (fVar 10) fNil)) fNil))))) (fIf [] (fNotT (fTru (fCall 1 F__law_is_number (fCons (fVar 6) fNil)))) (fAsg [] (.nm 7) (fTup (fCons (fC (.str "raised")) (fCons (fTup (fCons (fC (.bl false)) (fCons (fC (.bl false)) (fCons (fC (.bl false)) (fCons (fC (.bl true)) fNil))))) (fCons (fFn (f1 reprF) (fCons (fVar 6) fNil)) fNil))))) (fAsg [] (.nm 7) (fTup (fCons (fC (.str "returned")) (fCons (fFn (f1 reprF) (fCons (fCall 3 F__law_after (fCons (fVar 9) (fCons (fTup (fCons (fC (.int 0)) (fCons (fVar 10) (fCons (fC (.str "")) fNil)))) (fCons (fVar 6) fNil)))) fNil)) fNil)))))))
  (fIf [] (fCmpT neF (fTried tr (fCall 3 F_standing_after (fCons (fVar 9) (fCons (fVar 10) (fCons (fVar 6) fNil))))) (fVar 7)) (fRet [] (fC (.bl false))) fPass)))))))
  (fRet [] (fC (.bl true)))))
end K89

set_option Elab.async false
set_option linter.all false
set_option maxRecDepth 100000
set_option maxHeartbeats 4000000
namespace K89
open PySem PySem.Spec L2 RF
theorem r_is_integer {P : Program} {w : World} {C : Cfg} {mg : Str → Option Value} {base : Heap} (FX : Facts C mg) {X : Cx} {E : XK} {cd : Value}  {A : Around} {out : List Env} {s : Shared} {H : Hp} {fa : Addr}
    (hX : X = cxOf (L2.CX P w) P w C.K mg base N_is_integer "is_integer" (defScope st_is_integer) fa cd A out s H E) (c : Ok X C E 0) : NSs X C E (defBody st_is_integer) (toN (f_is_integer)) := by
  subst hX
  exact (nss_one (y_ret c [] (yd_and c (yf_isi2 c .int FX.b_isinstance FX.b_int (yd_var c 0)) (re_one (yd_not c (yf_isi2 c .bool FX.b_isinstance FX.b_bool (yd_var c 0)))))))
theorem r_is_between {P : Program} {w : World} {C : Cfg} {mg : Str → Option Value} {base : Heap} (FX : Facts C mg) {X : Cx} {E : XK} {cd : Value} (B_is_integer : Fun P w C mg base 1 "is_integer" 1 (toF F_is_integer)) {A : Around} {out : List Env} {s : Shared} {H : Hp} {fa : Addr}
    (hX : X = cxOf (L2.CX P w) P w C.K mg base N_is_between "is_between" (defScope st_is_between) fa cd A out s H E) (c : Ok X C E 1) : NSs X C E (defBody st_is_between) (toN (f_is_between)) := by
  subst hX
  exact (nss_one (y_ret c [] (yd_and c (y_fun c B_is_integer (by decide) (ya_cons c (yd_var c 0) ya_nil)) (re_one (yd_lele c (yd_var c 1) (yd_var c 0) (yd_var c 2))))))
theorem r_is_word_value {P : Program} {w : World} {C : Cfg} {mg : Str → Option Value} {base : Heap} (FX : Facts C mg) {X : Cx} {E : XK} {cd : Value}  {A : Around} {out : List Env} {s : Shared} {H : Hp} {fa : Addr}
    (hX : X = cxOf (L2.CX P w) P w C.K mg base N_is_word_value "is_word_value" (defScope st_is_word_value) fa cd A out s H E) (c : Ok X C E 0) : NSs X C E (defBody st_is_word_value) (toN (f_is_word_value)) := by
  subst hX
  exact (nss_one (y_ret c [] (yd_and c (yf_isi2 c .str FX.b_isinstance FX.b_str (yd_var c 0)) (re_one (yf_all c FX.b_all (ya_cons c (yd_lc c [("letter", 1)] (.nm 1) (yi_val c (yd_var c 0)) (fun _ _ _ _ _ => g_nm) (fun _ _ _ _ _ => yts_nil) (fun _ _ _ _ _ => (yd_in c.blk FX.sy (yd_var c.blk 1) (yd_gtup c.blk FX.g_LETTERS FX.c_LETTERS (by intro μ H; repeat (first | exact RVs.nil | refine RVs.cons (by first | exact RV.int' | exact RV.str' (by rw [PySem.sizeLine_eq]; decide)) ?_))))) (by show blkC N_is_word_value (defScope st_is_word_value) _ _ = true; decide +kernel)) ya_nil))))))
theorem r_need_word {P : Program} {w : World} {C : Cfg} {mg : Str → Option Value} {base : Heap} (FX : Facts C mg) {X : Cx} {E : XK} {cd : Value} (B_is_word_value : Fun P w C mg base 1 "is_word_value" 1 (toF F_is_word_value)) {A : Around} {out : List Env} {s : Shared} {H : Hp} {fa : Addr}
    (hX : X = cxOf (L2.CX P w) P w C.K mg base N_need_word "need_word" (defScope st_need_word) fa cd A out s H E) (c : Ok X C E 1) : NSs X C E (defBody st_need_word) (toN (f_need_word)) := by
  subst hX
  exact (nss_one (y_if c [] (yt_not c (yt_tru c (y_fun c B_is_word_value (by decide) (ya_cons c (yd_var c 0) ya_nil)))) (nss_one (y_raise c [] FX.e_BadWord.txt FX.g_BadWord (yd_var c 0)))
  nss_nil))
theorem r_is_rule {P : Program} {w : World} {C : Cfg} {mg : Str → Option Value} {base : Heap} (FX : Facts C mg) {X : Cx} {E : XK} {cd : Value} (B_is_between : Fun P w C mg base 2 "is_between" 3 (toF F_is_between)) {A : Around} {out : List Env} {s : Shared} {H : Hp} {fa : Addr}
    (hX : X = cxOf (L2.CX P w) P w C.K mg base N_is_rule "is_rule" (defScope st_is_rule) fa cd A out s H E) (c : Ok X C E 2) : NSs X C E (defBody st_is_rule) (toN (f_is_rule)) := by
  subst hX
  exact (nss_cons (y_if c [] (RW.rt (yw_or (yt_not c (yt_tru c (yf_isi2 c .tuple FX.b_isinstance FX.b_tuple (yd_var c 0)))) (yw_or1 (yt_ne c FX.sy (yf_len c FX.b_len (ya_cons c (yd_var c 0) ya_nil)) (yd_int c 2))))) (nss_one (y_ret c [] (yd_bl c false)))
  nss_nil)
  (nss_one (y_ret c [] (yd_and c (y_fun c B_is_between (by decide) (ya_cons c (yd_ix c (yd_var c 0) (yd_int c 0)) (ya_cons c (yd_int c 0) (ya_cons c (yd_var c 1) ya_nil)))) (re_one (yd_in c FX.sy (yd_ix c (yd_var c 0) (yd_int c 1)) (yd_gtup c FX.g_DEEDS FX.c_DEEDS (by intro μ H; repeat (first | exact RVs.nil | refine RVs.cons (by first | exact RV.int' | exact RV.str' (by rw [PySem.sizeLine_eq]; decide)) ?_)))))))))
theorem r_is_state {P : Program} {w : World} {C : Cfg} {mg : Str → Option Value} {base : Heap} (FX : Facts C mg) {X : Cx} {E : XK} {cd : Value} (B_is_rule : Fun P w C mg base 3 "is_rule" 2 (toF F_is_rule)) {A : Around} {out : List Env} {s : Shared} {H : Hp} {fa : Addr}
    (hX : X = cxOf (L2.CX P w) P w C.K mg base N_is_state "is_state" (defScope st_is_state) fa cd A out s H E) (c : Ok X C E 3) : NSs X C E (defBody st_is_state) (toN (f_is_state)) := by
  subst hX
  exact (nss_one (y_ret c [] (yd_and c (yf_isi2 c .tuple FX.b_isinstance FX.b_tuple (yd_var c 0)) (yd_and c (yd_eq c FX.sy (yf_len c FX.b_len (ya_cons c (yd_var c 0) ya_nil)) (yf_len c FX.b_len (ya_cons c (yd_gtup c FX.g_ENDS FX.c_ENDS (by intro μ H; repeat (first | exact RVs.nil | refine RVs.cons (by first | exact RV.int' | exact RV.str' (by rw [PySem.sizeLine_eq]; decide)) ?_))) ya_nil))) (re_one (yf_all c FX.b_all (ya_cons c (yd_lc c [("rule", 2)] (.nm 2) (yi_val c (yd_var c 0)) (fun _ _ _ _ _ => g_nm) (fun _ _ _ _ _ => yts_nil) (fun _ _ _ _ _ => (y_fun c.blk B_is_rule (by decide) (ya_cons c.blk (yd_var c.blk 2) (ya_cons c.blk (yd_var c.blk 1) ya_nil)))) (by show blkC N_is_state (defScope st_is_state) _ _ = true; decide +kernel)) ya_nil)))))))
theorem r_is_machine {P : Program} {w : World} {C : Cfg} {mg : Str → Option Value} {base : Heap} (FX : Facts C mg) {X : Cx} {E : XK} {cd : Value} (B_is_state : Fun P w C mg base 4 "is_state" 2 (toF F_is_state)) {A : Around} {out : List Env} {s : Shared} {H : Hp} {fa : Addr}
    (hX : X = cxOf (L2.CX P w) P w C.K mg base N_is_machine "is_machine" (defScope st_is_machine) fa cd A out s H E) (c : Ok X C E 4) : NSs X C E (defBody st_is_machine) (toN (f_is_machine)) := by
  subst hX
  exact (nss_one (y_ret c [] (yd_and c (yf_isi2 c .tuple FX.b_isinstance FX.b_tuple (yd_var c 0)) (yd_and c (yd_gt c (yf_len c FX.b_len (ya_cons c (yd_var c 0) ya_nil)) (yd_int c 0)) (re_one (yf_all c FX.b_all (ya_cons c (yd_lc c [("state", 1)] (.nm 1) (yi_val c (yd_var c 0)) (fun _ _ _ _ _ => g_nm) (fun _ _ _ _ _ => yts_nil) (fun _ _ _ _ _ => (y_fun c.blk B_is_state (by decide) (ya_cons c.blk (yd_var c.blk 1) (ya_cons c.blk (yf_len c.blk FX.b_len (ya_cons c.blk (yd_var c.blk 0) ya_nil)) ya_nil)))) (by show blkC N_is_machine (defScope st_is_machine) _ _ = true; decide +kernel)) ya_nil)))))))
theorem r_need_machine {P : Program} {w : World} {C : Cfg} {mg : Str → Option Value} {base : Heap} (FX : Facts C mg) {X : Cx} {E : XK} {cd : Value} (B_is_machine : Fun P w C mg base 5 "is_machine" 1 (toF F_is_machine)) {A : Around} {out : List Env} {s : Shared} {H : Hp} {fa : Addr}
    (hX : X = cxOf (L2.CX P w) P w C.K mg base N_need_machine "need_machine" (defScope st_need_machine) fa cd A out s H E) (c : Ok X C E 5) : NSs X C E (defBody st_need_machine) (toN (f_need_machine)) := by
  subst hX
  exact (nss_one (y_if c [] (yt_not c (yt_tru c (y_fun c B_is_machine (by decide) (ya_cons c (yd_var c 0) ya_nil)))) (nss_one (y_raise c [] FX.e_BadMachine.txt FX.g_BadMachine (yd_var c 0)))
  nss_nil))
theorem r_need_count {P : Program} {w : World} {C : Cfg} {mg : Str → Option Value} {base : Heap} (FX : Facts C mg) {X : Cx} {E : XK} {cd : Value} (B_is_integer : Fun P w C mg base 1 "is_integer" 1 (toF F_is_integer)) {A : Around} {out : List Env} {s : Shared} {H : Hp} {fa : Addr}
    (hX : X = cxOf (L2.CX P w) P w C.K mg base N_need_count "need_count" (defScope st_need_count) fa cd A out s H E) (c : Ok X C E 1) : NSs X C E (defBody st_need_count) (toN (f_need_count)) := by
  subst hX
  exact (nss_one (y_if c [] (RW.rt (yw_or (yt_not c (yt_tru c (y_fun c B_is_integer (by decide) (ya_cons c (yd_var c 0) ya_nil)))) (yw_or1 (yt_lt c (yd_var c 0) (yd_int c 0))))) (nss_one (y_raise c [] FX.e_BadNumber.txt FX.g_BadNumber (yd_var c 0)))
  nss_nil))
theorem r_is_standing_value {P : Program} {w : World} {C : Cfg} {mg : Str → Option Value} {base : Heap} (FX : Facts C mg) {X : Cx} {E : XK} {cd : Value} (B_is_between : Fun P w C mg base 2 "is_between" 3 (toF F_is_between)) (B_is_word_value : Fun P w C mg base 1 "is_word_value" 1 (toF F_is_word_value)) {A : Around} {out : List Env} {s : Shared} {H : Hp} {fa : Addr}
    (hX : X = cxOf (L2.CX P w) P w C.K mg base N_is_standing_value "is_standing_value" (defScope st_is_standing_value) fa cd A out s H E) (c : Ok X C E 2) : NSs X C E (defBody st_is_standing_value) (toN (f_is_standing_value)) := by
  subst hX
  exact (nss_cons (y_if c [] (RW.rt (yw_or (yt_not c (yt_tru c (yf_isi2 c .tuple FX.b_isinstance FX.b_tuple (yd_var c 1)))) (yw_or (yt_ne c FX.sy (yf_len c FX.b_len (ya_cons c (yd_var c 1) ya_nil)) (yd_int c 3)) (yw_or1 (yt_not c (yt_tru c (y_fun c B_is_between (by decide) (ya_cons c (yd_ix c (yd_var c 1) (yd_int c 0)) (ya_cons c (yd_int c 0) (ya_cons c (yf_len c FX.b_len (ya_cons c (yd_var c 0) ya_nil)) ya_nil)))))))))) (nss_one (y_ret c [] (yd_bl c false)))
  nss_nil)
  (nss_one (y_ret c [] (yd_and c (y_fun c B_is_word_value (by decide) (ya_cons c (yd_ix c (yd_var c 1) (yd_int c 1)) ya_nil)) (re_one (y_fun c B_is_word_value (by decide) (ya_cons c (yd_ix c (yd_var c 1) (yd_int c 2)) ya_nil)))))))
theorem r_done {P : Program} {w : World} {C : Cfg} {mg : Str → Option Value} {base : Heap} (FX : Facts C mg) {X : Cx} {E : XK} {cd : Value}  {A : Around} {out : List Env} {s : Shared} {H : Hp} {fa : Addr}
    (hX : X = cxOf (L2.CX P w) P w C.K mg base N_done "done" (defScope st_done) fa cd A out s H E) (c : Ok X C E 0) : NSs X C E (defBody st_done) (toN (f_done)) := by
  subst hX
  exact (nss_cons (y_if c [] (yt_eq c FX.sy (yd_var c 0) (yd_str c "put0")) (nss_one (y_ret c [] (yd_tup (ya_cons c (yd_add c (yd_var c 1) (yd_str c "0")) (ya_cons c (yd_var c 2) ya_nil)))))
  nss_nil)
  (nss_cons (y_if c [] (yt_eq c FX.sy (yd_var c 0) (yd_str c "put1")) (nss_one (y_ret c [] (yd_tup (ya_cons c (yd_add c (yd_var c 1) (yd_str c "1")) (ya_cons c (yd_var c 2) ya_nil)))))
  nss_nil)
  (nss_cons (y_if c [] (yt_eq c FX.sy (yd_var c 0) (yd_str c "cut")) (nss_one (y_ret c [] (yd_tup (ya_cons c (yd_sl c (yd_var c 1) yo_no (yo_sm (yd_neg c (yd_int c 1)))) (ya_cons c (yd_var c 2) ya_nil)))))
  nss_nil)
  (nss_cons (y_if c [] (yt_eq c FX.sy (yd_var c 0) (yd_str c "over")) (nss_one (y_ret c [] (yd_tup (ya_cons c (yd_sl c (yd_var c 1) yo_no (yo_sm (yd_neg c (yd_int c 1)))) (ya_cons c (yd_add c (yd_var c 2) (yd_sl c (yd_var c 1) (yo_sm (yd_neg c (yd_int c 1))) yo_no)) ya_nil)))))
  nss_nil)
  (nss_cons (y_if c [] (yt_eq c FX.sy (yd_var c 0) (yd_str c "back")) (nss_one (y_ret c [] (yd_tup (ya_cons c (yd_add c (yd_var c 1) (yd_sl c (yd_var c 2) (yo_sm (yd_neg c (yd_int c 1))) yo_no)) (ya_cons c (yd_sl c (yd_var c 2) yo_no (yo_sm (yd_neg c (yd_int c 1)))) ya_nil)))))
  nss_nil)
  (nss_one (y_ret c [] (yd_tup (ya_cons c (yd_var c 1) (ya_cons c (yd_var c 2) ya_nil))))))))))
theorem r_standing_behind {P : Program} {w : World} {C : Cfg} {mg : Str → Option Value} {base : Heap} (FX : Facts C mg) {X : Cx} {E : XK} {cd : Value} (B_done : Fun P w C mg base 1 "done" 3 (toF F_done)) {A : Around} {out : List Env} {s : Shared} {H : Hp} {fa : Addr}
    (hX : X = cxOf (L2.CX P w) P w C.K mg base N_standing_behind "standing_behind" (defScope st_standing_behind) fa cd A out s H E) (c : Ok X C E 1) : NSs X C E (defBody st_standing_behind) (toN (f_standing_behind)) := by
  subst hX
  exact (nss_cons (y_unp c [] (.tp (g_cons (g_cons (g_cons .nil)))) (yd_var c 1))
  (nss_cons (y_if c [] (yt_eq c FX.sy (yd_var c 2) (yf_len c FX.b_len (ya_cons c (yd_var c 0) ya_nil))) (nss_one (y_ret c [] (yd_var c 1)))
  nss_nil)
  (nss_cons (y_unp c [] (.tp (g_cons (g_cons .nil))) (yd_ix c (yd_ix c (yd_var c 0) (yd_var c 2)) (y_tindex c FX.g_ENDS FX.c_ENDS FX.t_ENDS (yd_sl c (yd_var c 3) (yo_sm (yd_neg c (yd_int c 1))) yo_no))))
  (nss_cons (y_unp c [] (.tp (g_cons (g_cons .nil))) (y_fun c B_done (by decide) (ya_cons c (yd_var c 6) (ya_cons c (yd_var c 3) (ya_cons c (yd_var c 4) ya_nil)))))
  (nss_one (y_ret c [] (yd_tup (ya_cons c (yd_var c 5) (ya_cons c (yd_var c 7) (ya_cons c (yd_var c 8) ya_nil))))))))))
theorem r_last_standing {P : Program} {w : World} {C : Cfg} {mg : Str → Option Value} {base : Heap} (FX : Facts C mg) {X : Cx} {E : XK} {cd : Value} (B_standing_behind : Fun P w C mg base 2 "standing_behind" 2 (toF F_standing_behind)) {A : Around} {out : List Env} {s : Shared} {H : Hp} {fa : Addr}
    (hX : X = cxOf (L2.CX P w) P w C.K mg base N_last_standing "last_standing" (defScope st_last_standing) fa cd A out s H E) (c : Ok X C E 2) : NSs X C E (defBody st_last_standing) (toN (f_last_standing)) := by
  subst hX
  exact (nss_cons (y_set c [] 3 (yd_tup (ya_cons c (yd_int c 0) (ya_cons c (yd_var c 1) (ya_cons c (yd_str c "") ya_nil)))))
  (nss_cons (y_whl c 1000 [] (RW.rt (yw_and (yt_gt c (yd_var c 2) (yd_int c 0)) (yw_and1 (yt_lt c (yd_ix c (yd_var c 3) (yd_int c 0)) (yf_len c FX.b_len (ya_cons c (yd_var c 0) ya_nil))))))
  (nss_cons (y_set c [] 3 (y_fun c B_standing_behind (by decide) (ya_cons c (yd_var c 0) (ya_cons c (yd_var c 3) ya_nil))))
  (nss_one (y_augSub c [] 2 (yd_int c 1)))))
  (nss_one (y_ret c [] (yd_var c 3)))))
theorem r_pile_step {P : Program} {w : World} {C : Cfg} {mg : Str → Option Value} {base : Heap} (FX : Facts C mg) {X : Cx} {E : XK} {cd : Value} (B_need_machine : Fun P w C mg base 6 "need_machine" 1 (toF F_need_machine)) (B_is_standing_value : Fun P w C mg base 3 "is_standing_value" 2 (toF F_is_standing_value)) (B_standing_behind : Fun P w C mg base 2 "standing_behind" 2 (toF F_standing_behind)) {A : Around} {out : List Env} {s : Shared} {H : Hp} {fa : Addr}
    (hX : X = cxOf (L2.CX P w) P w C.K mg base N_pile_step "pile_step" (defScope st_pile_step) fa cd A out s H E) (c : Ok X C E 6) : NSs X C E (defBody st_pile_step) (toN (f_pile_step)) := by
  subst hX
  exact (nss_cons (y_do c [] (y_fun c B_need_machine (by decide) (ya_cons c (yd_var c 0) ya_nil)))
  (nss_cons (y_if c [] (yt_not c (yt_tru c (y_fun c B_is_standing_value (by decide) (ya_cons c (yd_var c 0) (ya_cons c (yd_var c 1) ya_nil))))) (nss_one (y_raise c [] FX.e_BadStanding.txt FX.g_BadStanding (yd_var c 1)))
  nss_nil)
  (nss_one (y_ret c [] (y_fun c B_standing_behind (by decide) (ya_cons c (yd_var c 0) (ya_cons c (yd_var c 1) ya_nil)))))))
theorem r_standing_after {P : Program} {w : World} {C : Cfg} {mg : Str → Option Value} {base : Heap} (FX : Facts C mg) {X : Cx} {E : XK} {cd : Value} (B_need_word : Fun P w C mg base 2 "need_word" 1 (toF F_need_word)) (B_need_machine : Fun P w C mg base 6 "need_machine" 1 (toF F_need_machine)) (B_need_count : Fun P w C mg base 2 "need_count" 1 (toF F_need_count)) (B_last_standing : Fun P w C mg base 3 "last_standing" 3 (toF F_last_standing)) {A : Around} {out : List Env} {s : Shared} {H : Hp} {fa : Addr}
    (hX : X = cxOf (L2.CX P w) P w C.K mg base N_standing_after "standing_after" (defScope st_standing_after) fa cd A out s H E) (c : Ok X C E 6) : NSs X C E (defBody st_standing_after) (toN (f_standing_after)) := by
  subst hX
  exact (nss_cons (y_do c [] (y_fun c B_need_machine (by decide) (ya_cons c (yd_var c 0) ya_nil)))
  (nss_cons (y_do c [] (y_fun c B_need_word (by decide) (ya_cons c (yd_var c 1) ya_nil)))
  (nss_cons (y_do c [] (y_fun c B_need_count (by decide) (ya_cons c (yd_var c 2) ya_nil)))
  (nss_one (y_ret c [] (y_fun c B_last_standing (by decide) (ya_cons c (yd_var c 0) (ya_cons c (yd_var c 1) (ya_cons c (yd_var c 2) ya_nil)))))))))
theorem r__law_deck {P : Program} {w : World} {C : Cfg} {mg : Str → Option Value} {base : Heap} (FX : Facts C mg) {X : Cx} {E : XK} {cd : Value} {A : Around} {out : List Env} {s : Shared} {H : Hp} {fa : Addr}
    (hX : X = cxOf (L2.CX P w) P w C.K mg base N__law_deck "_law_deck" (defScope st__law_deck) fa cd A out s H E) (c : Ok X C E 0) : RSs X C E (defBody st__law_deck) (w__law_deck C) := by
  subst hX
  exact (rss_cons (s_set c 1 (d_int c 13745089))
  (rss_cons (s_for c (i_val c (d_scr c (d_var c 0) (ro_sm (d_int c 63)))) g_nm
  (rss_one (s_set c 1 (d_mod c (f_int c FX.b_int (a_cons c (d_add c (d_add c (d_mul c (d_var c 1) (d_int c 39373)) (d_mod c (f_int c FX.b_int (a_cons c (d_var c 2) ra_nil)) (d_int c 2147483629))) (d_int c 11)) ra_nil)) (d_int c 2147483563)))))
  (rss_one (rs_ret (re_dctM (.cons (d_str c "left") (d_revM c (f_list c FX.b_list (a_cons c (d_scr c (d_var c 0) (ro_sm (d_int c 63))) ra_nil))) (.cons (d_str c "mixed") (d_var c 1) (.cons (d_str c "draws") (d_int c 0) .nil))) (by rfl) (by simp) (by decide))))))
theorem r__law_draw {P : Program} {w : World} {C : Cfg} {mg : Str → Option Value} {base : Heap} (FX : Facts C mg) {X : Cx} {E : XK} {cd : Value} {A : Around} {out : List Env} {s : Shared} {H : Hp} {fa : Addr}
    (hX : X = cxOf (L2.CX P w) P w C.K mg base N__law_draw "_law_draw" (defScope st__law_draw) fa cd A out s H E) (c : Ok X C E 0) : RSs X C E (defBody st__law_draw) (w__law_draw) := by
  subst hX
  exact (rss_cons (s_dput c (d_var c 0) (d_str c "draws") (d_add c (d_dget c (d_var c 0) (d_str c "draws")) (d_int c 1)))
  (rss_cons (rs_if (t_ne c (d_dget c (d_var c 0) (d_str c "left")) (re_lst ra_nil)) (rss_cons (s_set c 2 (m_pop c (d_dget c (d_var c 0) (d_str c "left"))))
  (rss_cons (rs_if (t_ge c (d_var c 2) (d_pow c (d_int c 10) (d_int c 18))) (rss_cons (s_do c (m_append c (d_dget c (d_var c 0) (d_str c "left")) (a_cons c (d_div c (d_var c 2) (f_max c FX.b_max (a_cons c (d_int c 2) (a_cons c (d_var c 1) ra_nil)))) ra_nil)))
  (rss_one (rs_ret (d_mod c (f_int c FX.b_int (a_cons c (d_var c 2) ra_nil)) (d_var c 1)))))
  rss_nil)
  (rss_one (s_dput c (d_var c 0) (d_str c "mixed") (d_mod c (f_int c FX.b_int (a_cons c (d_add c (d_add c (d_mul c (d_dget c (d_var c 0) (d_str c "mixed")) (d_int c 48271)) (d_mod c (f_int c FX.b_int (a_cons c (d_var c 2) ra_nil)) (d_int c 2147483587))) (d_int c 5)) ra_nil)) (d_int c 2147483629))))))
  rss_nil)
  (rss_cons (s_set c 3 (d_mod c (f_int c FX.b_int (a_cons c (d_add c (d_dget c (d_var c 0) (d_str c "mixed")) (d_mul c (d_int c 69621) (d_dget c (d_var c 0) (d_str c "draws")))) ra_nil)) (d_int c 2147483647)))
  (rss_cons (s_set c 3 (d_mod c (f_int c FX.b_int (a_cons c (d_add c (d_add c (d_mul c (d_var c 3) (d_var c 3)) (d_mul c (d_int c 40014) (d_dget c (d_var c 0) (d_str c "draws")))) (d_int c 7)) ra_nil)) (d_int c 2147483563)))
  (rss_cons (s_set c 3 (d_mod c (f_int c FX.b_int (a_cons c (d_add c (d_mul c (d_var c 3) (d_int c 30269)) (d_int c 101)) ra_nil)) (d_int c 2147483587)))
  (rss_one (rs_ret (d_mod c (f_int c FX.b_int (a_cons c (d_div c (d_var c 3) (d_int c 64)) ra_nil)) (d_var c 1)))))))))
theorem r__law_pick {P : Program} {w : World} {C : Cfg} {mg : Str → Option Value} {base : Heap} (FX : Facts C mg) {X : Cx} {E : XK} {cd : Value} (B__law_draw : Fun P w C mg base 1 "_law_draw" 2 (toF F__law_draw)) {A : Around} {out : List Env} {s : Shared} {H : Hp} {fa : Addr}
    (hX : X = cxOf (L2.CX P w) P w C.K mg base N__law_pick "_law_pick" (defScope st__law_pick) fa cd A out s H E) (c : Ok X C E 1) : NSs X C E (defBody st__law_pick) (toN (f__law_pick)) := by
  subst hX
  exact (nss_one (y_ret c [] (yd_ix c (yd_var c 1) (y_fun c B__law_draw (by decide) (ya_cons c (yd_var c 0) (ya_cons c (yf_len c FX.b_len (ya_cons c (yd_var c 1) ya_nil)) ya_nil))))))
theorem r__law_word {P : Program} {w : World} {C : Cfg} {mg : Str → Option Value} {base : Heap} (FX : Facts C mg) {X : Cx} {E : XK} {cd : Value} (B__law_draw : Fun P w C mg base 1 "_law_draw" 2 (toF F__law_draw)) (B__law_pick : Fun P w C mg base 2 "_law_pick" 2 (toF F__law_pick)) {A : Around} {out : List Env} {s : Shared} {H : Hp} {fa : Addr}
    (hX : X = cxOf (L2.CX P w) P w C.K mg base N__law_word "_law_word" (defScope st__law_word) fa cd A out s H E) (c : Ok X C E 2) : NSs X C E (defBody st__law_word) (toN (f__law_word)) := by
  subst hX
  exact (nss_one (y_ret c [] (ym_join c (yd_str c "") (ya_cons c (yd_lc c [("place", 2)] (.nm 2) (yi_rg1 c FX.b_range (y_fun c B__law_draw (by decide) (ya_cons c (yd_var c 0) (ya_cons c (yd_add c (yd_var c 1) (yd_int c 1)) ya_nil)))) (fun _ _ _ _ _ => g_nm) (fun _ _ _ _ _ => yts_nil) (fun _ _ _ _ _ => (y_fun c.blk B__law_pick (by decide) (ya_cons c.blk (yd_var c.blk 0) (ya_cons c.blk (yd_lst (ya_cons c.blk (yd_str c.blk "0") (ya_cons c.blk (yd_str c.blk "1") ya_nil))) ya_nil)))) (by show blkC N__law_word (defScope st__law_word) _ _ = true; decide +kernel)) ya_nil))))
theorem r__law_same {P : Program} {w : World} {C : Cfg} {mg : Str → Option Value} {base : Heap} (FX : Facts C mg) {X : Cx} {E : XK} {cd : Value}  {A : Around} {out : List Env} {s : Shared} {H : Hp} {fa : Addr}
    (hX : X = cxOf (L2.CX P w) P w C.K mg base N__law_same "_law_same" (defScope st__law_same) fa cd A out s H E) (c : Ok X C E 0) : NSs X C E (defBody st__law_same) (toN (f__law_same)) := by
  subst hX
  exact (nss_one (y_ret c [] (yd_eq c FX.sy (yf_repr c FX.sy FX.b_repr (ya_cons c (yd_var c 0) ya_nil)) (yf_repr c FX.sy FX.b_repr (ya_cons c (yd_var c 1) ya_nil)))))
theorem r__law_is_integer {P : Program} {w : World} {C : Cfg} {mg : Str → Option Value} {base : Heap} (FX : Facts C mg) {X : Cx} {E : XK} {cd : Value}  {A : Around} {out : List Env} {s : Shared} {H : Hp} {fa : Addr}
    (hX : X = cxOf (L2.CX P w) P w C.K mg base N__law_is_integer "_law_is_integer" (defScope st__law_is_integer) fa cd A out s H E) (c : Ok X C E 0) : NSs X C E (defBody st__law_is_integer) (toN (f__law_is_integer)) := by
  subst hX
  exact (nss_one (y_ret c [] (yd_and c (yf_isi2 c .int FX.b_isinstance FX.b_int (yd_var c 0)) (re_one (yd_not c (yf_isi2 c .bool FX.b_isinstance FX.b_bool (yd_var c 0)))))))
theorem r__law_is_number {P : Program} {w : World} {C : Cfg} {mg : Str → Option Value} {base : Heap} (FX : Facts C mg) {X : Cx} {E : XK} {cd : Value} (B__law_is_integer : Fun P w C mg base 1 "_law_is_integer" 1 (toF F__law_is_integer)) {A : Around} {out : List Env} {s : Shared} {H : Hp} {fa : Addr}
    (hX : X = cxOf (L2.CX P w) P w C.K mg base N__law_is_number "_law_is_number" (defScope st__law_is_number) fa cd A out s H E) (c : Ok X C E 1) : NSs X C E (defBody st__law_is_number) (toN (f__law_is_number)) := by
  subst hX
  exact (nss_one (y_ret c [] (yd_and c (y_fun c B__law_is_integer (by decide) (ya_cons c (yd_var c 0) ya_nil)) (re_one (yd_ge c (yd_var c 0) (yd_int c 0))))))
theorem r__law_is_word {P : Program} {w : World} {C : Cfg} {mg : Str → Option Value} {base : Heap} (FX : Facts C mg) {X : Cx} {E : XK} {cd : Value}  {A : Around} {out : List Env} {s : Shared} {H : Hp} {fa : Addr}
    (hX : X = cxOf (L2.CX P w) P w C.K mg base N__law_is_word "_law_is_word" (defScope st__law_is_word) fa cd A out s H E) (c : Ok X C E 0) : NSs X C E (defBody st__law_is_word) (toN (f__law_is_word)) := by
  subst hX
  exact (nss_one (y_ret c [] (yd_and c (yf_isi2 c .str FX.b_isinstance FX.b_str (yd_var c 0)) (re_one (yd_eq c FX.sy (yd_lc c [("sign", 1)] (.nm 1) (yi_val c (yd_var c 0)) (fun _ _ _ _ _ => g_nm) (fun _ _ _ _ _ => (rts_one (yt_notin c.blk FX.sy (yd_var c.blk 1) (yd_tup (ya_cons c.blk (yd_str c.blk "0") (ya_cons c.blk (yd_str c.blk "1") ya_nil)))))) (fun _ _ _ _ _ => (yd_var c.blk 1)) (by show blkC N__law_is_word (defScope st__law_is_word) _ _ = true; decide +kernel)) (yd_lst ya_nil))))))
theorem r__law_machine {P : Program} {w : World} {C : Cfg} {mg : Str → Option Value} {base : Heap} (FX : Facts C mg) {X : Cx} {E : XK} {cd : Value} (B__law_draw : Fun P w C mg base 1 "_law_draw" 2 (toF F__law_draw)) (B__law_pick : Fun P w C mg base 2 "_law_pick" 2 (toF F__law_pick)) {A : Around} {out : List Env} {s : Shared} {H : Hp} {fa : Addr}
    (hX : X = cxOf (L2.CX P w) P w C.K mg base N__law_machine "_law_machine" (defScope st__law_machine) fa cd A out s H E) (c : Ok X C E 2) : NSs X C E (defBody st__law_machine) (toN (f__law_machine)) := by
  subst hX
  exact (nss_cons (y_par3 c [] 2 3 4 (am_v c (yd_add c (yd_int c 1) (y_fun c B__law_draw (by decide) (ya_cons c (yd_var c 0) (ya_cons c (yd_var c 1) ya_nil)))) (am_c c (ym_lst c ya_nil) (am_v c (y_fun c B__law_pick (by decide) (ya_cons c (yd_var c 0) (ya_cons c (yd_lst (ya_cons c (yd_int c 6) (ya_cons c (yd_int c 3) (ya_cons c (yd_int c 40) ya_nil)))) ya_nil))) .nil))))
  (nss_cons (y_set c [] 5 (yd_lst (ya_cons c (yd_str c "over") (ya_cons c (yd_str c "put1") (ya_cons c (yd_str c "stay") (ya_cons c (yd_str c "cut") (ya_cons c (yd_str c "back") (ya_cons c (yd_str c "put0") ya_nil))))))))
  (nss_cons (y_if c [] (yt_eq c FX.sy (y_fun c B__law_draw (by decide) (ya_cons c (yd_var c 0) (ya_cons c (yd_int c 2) ya_nil))) (yd_int c 0)) (nss_one (y_set c [] 5 (y_fun c B__law_pick (by decide) (ya_cons c (yd_var c 0) (ya_cons c (yd_lst (ya_cons c (yd_lst (ya_cons c (yd_str c "over") (ya_cons c (yd_str c "back") (ya_cons c (yd_str c "put1") (ya_cons c (yd_str c "over") (ya_cons c (yd_str c "back") ya_nil)))))) (ya_cons c (yd_lst (ya_cons c (yd_str c "put0") (ya_cons c (yd_str c "over") (ya_cons c (yd_str c "put1") (ya_cons c (yd_str c "back") (ya_cons c (yd_str c "over") ya_nil)))))) ya_nil))) ya_nil)))))
  nss_nil)
  (nss_cons (y_for c [] (yi_rg1 c FX.b_range (yd_var c 2)) g_nm
  (nss_cons (y_own c [] 7 (ym_lst c ya_nil))
  (nss_cons (y_for c [] (yi_rg1 c FX.b_range (yd_int c 3)) g_nm
  (nss_cons (y_set c [] 9 (yd_ifE (yt_eq c FX.sy (y_fun c B__law_draw (by decide) (ya_cons c (yd_var c 0) (ya_cons c (yd_var c 4) ya_nil))) (yd_int c 0)) (yd_var c 2) (y_fun c B__law_draw (by decide) (ya_cons c (yd_var c 0) (ya_cons c (yd_var c 2) ya_nil)))))
  (nss_one (y_app c [] 7 (yd_tup (ya_cons c (yd_var c 9) (ya_cons c (y_fun c B__law_pick (by decide) (ya_cons c (yd_var c 0) (ya_cons c (yd_var c 5) ya_nil))) ya_nil)))))))
  (nss_one (y_app c [7] 3 (yf_tuple c FX.b_tuple (ya_cons c (yd_var c 7) ya_nil)))))))
  (nss_cons (y_if c [] (RW.rt (yw_and (yt_gt c (yd_var c 2) (yd_int c 1)) (yw_and1 (yt_eq c FX.sy (y_fun c B__law_draw (by decide) (ya_cons c (yd_var c 0) (ya_cons c (yd_int c 3) ya_nil))) (yd_int c 0))))) (nss_cons (y_setix c [] [] 3 (yd_int c 0) (yd_tup (ya_cons c (yd_tup (ya_cons c (yd_int c 1) (ya_cons c (y_fun c B__law_pick (by decide) (ya_cons c (yd_var c 0) (ya_cons c (yd_lst (ya_cons c (yd_str c "stay") (ya_cons c (yd_str c "put1") (ya_cons c (yd_str c "stay") (ya_cons c (yd_str c "put0") ya_nil))))) ya_nil))) ya_nil))) (ya_cons c (yd_tup (ya_cons c (yd_int c 0) (ya_cons c (yd_str c "over") ya_nil))) (ya_cons c (yd_tup (ya_cons c (yd_int c 0) (ya_cons c (yd_str c "over") ya_nil))) ya_nil)))))
  (nss_one (y_setix c [3] [] 3 (yd_int c 1) (yd_tup (ya_cons c (yd_ix c (yd_ix c (yd_var c 3) (yd_int c 1)) (yd_int c 0)) (ya_cons c (yd_tup (ya_cons c (yd_int c 1) (ya_cons c (yd_str c "back") ya_nil))) (ya_cons c (yd_tup (ya_cons c (yd_int c 1) (ya_cons c (yd_str c "back") ya_nil))) ya_nil)))))))
  nss_nil)
  (nss_one (y_ret c [3] (yf_tuple c FX.b_tuple (ya_cons c (yd_var c 3) ya_nil)))))))))
theorem r__law_is_machine {P : Program} {w : World} {C : Cfg} {mg : Str → Option Value} {base : Heap} (FX : Facts C mg) {X : Cx} {E : XK} {cd : Value} (B__law_is_number : Fun P w C mg base 2 "_law_is_number" 1 (toF F__law_is_number)) {A : Around} {out : List Env} {s : Shared} {H : Hp} {fa : Addr}
    (hX : X = cxOf (L2.CX P w) P w C.K mg base N__law_is_machine "_law_is_machine" (defScope st__law_is_machine) fa cd A out s H E) (c : Ok X C E 2) : NSs X C E (defBody st__law_is_machine) (toN (f__law_is_machine)) := by
  subst hX
  exact (nss_cons (y_if c [] (RW.rt (yw_or (yt_not c (yt_tru c (yf_isi2 c .tuple FX.b_isinstance FX.b_tuple (yd_var c 0)))) (yw_or1 (yt_eq c FX.sy (yd_var c 0) (yd_tup ya_nil))))) (nss_one (y_ret c [] (yd_bl c false)))
  nss_nil)
  (nss_cons (y_for c [] (yi_val c (yd_var c 0)) g_nm
  (nss_cons (y_if c [] (RW.rt (yw_or (yt_not c (yt_tru c (yf_isi2 c .tuple FX.b_isinstance FX.b_tuple (yd_var c 1)))) (yw_or1 (yt_ne c FX.sy (yf_len c FX.b_len (ya_cons c (yd_var c 1) ya_nil)) (yd_int c 3))))) (nss_one (y_ret c [] (yd_bl c false)))
  nss_nil)
  (nss_one (y_for c [] (yi_val c (yd_var c 1)) g_nm
  (nss_cons (y_if c [] (RW.rt (yw_or (yt_not c (yt_tru c (yf_isi2 c .tuple FX.b_isinstance FX.b_tuple (yd_var c 2)))) (yw_or1 (yt_ne c FX.sy (yf_len c FX.b_len (ya_cons c (yd_var c 2) ya_nil)) (yd_int c 2))))) (nss_one (y_ret c [] (yd_bl c false)))
  nss_nil)
  (nss_cons (y_if c [] (RW.rt (yw_or (yt_not c (yt_tru c (y_fun c B__law_is_number (by decide) (ya_cons c (yd_ix c (yd_var c 2) (yd_int c 0)) ya_nil)))) (yw_or1 (yt_gt c (yd_ix c (yd_var c 2) (yd_int c 0)) (yf_len c FX.b_len (ya_cons c (yd_var c 0) ya_nil)))))) (nss_one (y_ret c [] (yd_bl c false)))
  nss_nil)
  (nss_one (y_if c [] (RW.rt (yw_or (yt_not c (yt_tru c (yf_isi2 c .str FX.b_isinstance FX.b_str (yd_ix c (yd_var c 2) (yd_int c 1))))) (yw_or1 (yt_notin c FX.sy (yd_ix c (yd_var c 2) (yd_int c 1)) (yd_tup (ya_cons c (yd_str c "stay") (ya_cons c (yd_str c "put0") (ya_cons c (yd_str c "put1") (ya_cons c (yd_str c "cut") (ya_cons c (yd_str c "over") (ya_cons c (yd_str c "back") ya_nil))))))))))) (nss_one (y_ret c [] (yd_bl c false)))
  nss_nil))))))))
  (nss_one (y_ret c [] (yd_bl c true)))))
theorem r__law_bent {P : Program} {w : World} {C : Cfg} {mg : Str → Option Value} {base : Heap} (FX : Facts C mg) {X : Cx} {E : XK} {cd : Value} (B__law_draw : Fun P w C mg base 1 "_law_draw" 2 (toF F__law_draw)) (B__law_pick : Fun P w C mg base 2 "_law_pick" 2 (toF F__law_pick)) {j : Nat} {F : FF} (B__law_bent : Fun P w C mg base (2 + j) "_law_bent" 3 (toF F)) {A : Around} {out : List Env} {s : Shared} {H : Hp} {fa : Addr}
    (hX : X = cxOf (L2.CX P w) P w C.K mg base N__law_bent "_law_bent" (defScope st__law_bent) fa cd A out s H E) (c : Ok X C E (2 + j)) : NSs X C E (defBody st__law_bent) (toN (f__law_bent F)) := by
  subst hX
  exact (nss_cons (y_if c [] (RW.rt (yw_or (yt_not c (yt_tru c (yf_isi2 c .tuple FX.b_isinstance FX.b_tuple (yd_var c 1)))) (yw_or (yt_eq c FX.sy (yd_var c 1) (yd_tup ya_nil)) (yw_or1 (yt_eq c FX.sy (y_fun c B__law_draw (by omega) (ya_cons c (yd_var c 0) (ya_cons c (yd_int c 9) ya_nil))) (yd_int c 0)))))) (nss_one (y_ret c [] (yd_ifE (RW.rt (yw_and (yt_in c FX.sy (yd_var c 1) (yd_tup (ya_cons c (yd_int c 0) (ya_cons c (yd_int c 1) ya_nil)))) (yw_and1 (yt_eq c FX.sy (y_fun c B__law_draw (by omega) (ya_cons c (yd_var c 0) (ya_cons c (yd_int c 2) ya_nil))) (yd_int c 0))))) (yd_eq c FX.sy (yd_var c 1) (yd_int c 1)) (y_fun c B__law_pick (by omega) (ya_cons c (yd_var c 0) (ya_cons c (yd_var c 2) ya_nil))))))
  nss_nil)
  (nss_cons (y_par2 c [] 3 4 (am_v c (y_fun c B__law_draw (by omega) (ya_cons c (yd_var c 0) (ya_cons c (yf_len c FX.b_len (ya_cons c (yd_var c 1) ya_nil)) ya_nil))) (am_v c (y_fun c B__law_draw (by omega) (ya_cons c (yd_var c 0) (ya_cons c (yd_int c 10) ya_nil))) .nil)))
  (nss_cons (y_if c [] (yt_eq c FX.sy (yd_var c 4) (yd_int c 0)) (nss_one (y_ret c [] (yd_add c (yd_sl c (yd_var c 1) yo_no (yo_sm (yd_var c 3))) (yd_sl c (yd_var c 1) (yo_sm (yd_add c (yd_var c 3) (yd_int c 1))) yo_no))))
  nss_nil)
  (nss_cons (y_if c [] (yt_eq c FX.sy (yd_var c 4) (yd_int c 1)) (nss_one (y_ret c [] (yd_add c (yd_sl c (yd_var c 1) yo_no (yo_sm (yd_add c (yd_var c 3) (yd_int c 1)))) (yd_sl c (yd_var c 1) (yo_sm (yd_var c 3)) yo_no))))
  nss_nil)
  (nss_cons (y_if c [] (yt_eq c FX.sy (yd_var c 4) (yd_int c 2)) (nss_one (y_ret c [] (yf_list c FX.b_list (ya_cons c (yd_var c 1) ya_nil))))
  nss_nil)
  (nss_cons (y_if c [] (yt_eq c FX.sy (yd_var c 4) (yd_int c 3)) (nss_one (y_ret c [] (yd_add c (yd_sl c (yd_var c 1) (yo_sm (yd_var c 3)) yo_no) (yd_sl c (yd_var c 1) yo_no (yo_sm (yd_var c 3))))))
  nss_nil)
  (nss_one (y_ret c [] (yd_add c (yd_add c (yd_sl c (yd_var c 1) yo_no (yo_sm (yd_var c 3))) (yd_tup (ya_cons c (y_fun c B__law_bent (by omega) (ya_cons c (yd_var c 0) (ya_cons c (yd_ix c (yd_var c 1) (yd_var c 3)) (ya_cons c (yd_var c 2) ya_nil)))) ya_nil))) (yd_sl c (yd_var c 1) (yo_sm (yd_add c (yd_var c 3) (yd_int c 1))) yo_no))))))))))
theorem r__law_pile_step {P : Program} {w : World} {C : Cfg} {mg : Str → Option Value} {base : Heap} (FX : Facts C mg) {X : Cx} {E : XK} {cd : Value}  {A : Around} {out : List Env} {s : Shared} {H : Hp} {fa : Addr}
    (hX : X = cxOf (L2.CX P w) P w C.K mg base N__law_pile_step "_law_pile_step" (defScope st__law_pile_step) fa cd A out s H E) (c : Ok X C E 0) : NSs X C E (defBody st__law_pile_step) (toN (f__law_pile_step)) := by
  subst hX
  exact (nss_cons (y_unp c [] (.tp (g_cons (g_cons (g_cons .nil)))) (yd_var c 1))
  (nss_cons (y_if c [] (yt_eq c FX.sy (yd_var c 2) (yf_len c FX.b_len (ya_cons c (yd_var c 0) ya_nil))) (nss_one (y_ret c [] (yd_var c 1)))
  nss_nil)
  (nss_cons (y_unp c [] (.tp (g_cons (g_cons .nil))) (yd_ix c (yd_ix c (yd_var c 0) (yd_var c 2)) (yd_ifE (yt_eq c FX.sy (yd_var c 3) (yd_str c "")) (yd_int c 0) (yd_add c (yd_int c 1) (yf_int c FX.b_int (ya_cons c (yd_ix c (yd_var c 3) (yd_neg c (yd_int c 1))) ya_nil))))))
  (nss_cons (y_if c [] (yt_eq c FX.sy (yd_var c 6) (yd_str c "put0")) (nss_one (y_set c [] 3 (yd_add c (yd_var c 3) (yd_str c "0"))))
  (nss_one (y_if c [] (yt_eq c FX.sy (yd_var c 6) (yd_str c "put1")) (nss_one (y_set c [] 3 (yd_add c (yd_var c 3) (yd_str c "1"))))
  (nss_one (y_if c [] (yt_eq c FX.sy (yd_var c 6) (yd_str c "cut")) (nss_one (y_set c [] 3 (yd_sl c (yd_var c 3) yo_no (yo_sm (yd_neg c (yd_int c 1))))))
  (nss_one (y_if c [] (RW.rt (yw_and (yt_eq c FX.sy (yd_var c 6) (yd_str c "over")) (yw_and1 (yt_ne c FX.sy (yd_var c 3) (yd_str c ""))))) (nss_one (y_par2 c [] 3 4 (am_v c (yd_sl c (yd_var c 3) yo_no (yo_sm (yd_neg c (yd_int c 1)))) (am_v c (yd_add c (yd_var c 4) (yd_ix c (yd_var c 3) (yd_neg c (yd_int c 1)))) .nil))))
  (nss_one (y_if c [] (RW.rt (yw_and (yt_eq c FX.sy (yd_var c 6) (yd_str c "back")) (yw_and1 (yt_ne c FX.sy (yd_var c 4) (yd_str c ""))))) (nss_one (y_par2 c [] 3 4 (am_v c (yd_add c (yd_var c 3) (yd_ix c (yd_var c 4) (yd_neg c (yd_int c 1)))) (am_v c (yd_sl c (yd_var c 4) yo_no (yo_sm (yd_neg c (yd_int c 1)))) .nil))))
  nss_nil)))))))))
  (nss_one (y_ret c [] (yd_tup (ya_cons c (yd_var c 5) (ya_cons c (yd_var c 3) (ya_cons c (yd_var c 4) ya_nil))))))))))
theorem r__law_after {P : Program} {w : World} {C : Cfg} {mg : Str → Option Value} {base : Heap} (FX : Facts C mg) {X : Cx} {E : XK} {cd : Value} (B__law_pile_step : Fun P w C mg base 1 "_law_pile_step" 2 (toF F__law_pile_step)) {A : Around} {out : List Env} {s : Shared} {H : Hp} {fa : Addr}
    (hX : X = cxOf (L2.CX P w) P w C.K mg base N__law_after "_law_after" (defScope st__law_after) fa cd A out s H E) (c : Ok X C E 1) : NSs X C E (defBody st__law_after) (toN (f__law_after)) := by
  subst hX
  exact (nss_cons (y_for c [] (yi_rg1 c FX.b_range (yd_var c 2)) g_nm
  (nss_one (y_set c [] 1 (y_fun c B__law_pile_step (by decide) (ya_cons c (yd_var c 0) (ya_cons c (yd_var c 1) ya_nil))))))
  (nss_one (y_ret c [] (yd_var c 1))))
theorem r__law_odd {P : Program} {w : World} {C : Cfg} {mg : Str → Option Value} {base : Heap} (FX : Facts C mg) {X : Cx} {E : XK} {cd : Value}  {A : Around} {out : List Env} {s : Shared} {H : Hp} {fa : Addr}
    (hX : X = cxOf (L2.CX P w) P w C.K mg base N__law_odd "_law_odd" (defScope st__law_odd) fa cd A out s H E) (c : Ok X C E 0) : NSs X C E (defBody st__law_odd) (toN (f__law_odd)) := by
  subst hX
  exact (nss_one (y_ret c [] (yd_lst (ya_cons c (yd_non c) (ya_cons c (yd_bl c true) (ya_cons c (yd_bl c false) (ya_cons c (yd_int c 0) (ya_cons c (yd_int c 1) (ya_cons c (yd_int c 7) (ya_cons c (yd_neg c (yd_int c 1)) (ya_cons c (yd_str c "") (ya_cons c (yd_str c "0") (ya_cons c (yd_str c "stay") (ya_cons c (yd_str c "go") (ya_cons c (yd_tup ya_nil) (ya_cons c (yd_lst ya_nil) (ya_cons c (yd_d0 c) (ya_cons c (yd_tup (ya_cons c (yd_int c 0) (ya_cons c (yd_str c "stay") ya_nil))) (ya_cons c (yd_tup (ya_cons c (yd_tup (ya_cons c (yd_int c 0) (ya_cons c (yd_str c "stay") ya_nil))) ya_nil)) (ya_cons c (yd_pow c (yd_int c 10) (yd_int c 39)) (ya_cons c (yd_tup (ya_cons c (yd_tup (ya_cons c (yd_int c 0) (ya_cons c (yd_str c "cut") ya_nil))) (ya_cons c (yd_tup (ya_cons c (yd_int c 0) (ya_cons c (yd_str c "cut") ya_nil))) (ya_cons c (yd_tup (ya_cons c (yd_int c 0) (ya_cons c (yd_str c "cut") ya_nil))) ya_nil)))) ya_nil)))))))))))))))))))))
theorem r__law_tried {P : Program} {w : World} {C : Cfg} {mg : Str → Option Value} {base : Heap} (FX : Facts C mg) {C1 : Cfg} {Z : Cx} {cd : Value} {A : Around} {out : List Env} {s : Shared} {H : Hp} {fa fA : Addr} {wA : WL} {j : Nat}
    (hZ : Z = cxOf (L2.CX P w) P w C.K mg base N__law_tried "_law_tried" (defScope st__law_tried) fa cd A out s H RF.E0) (hK : C1.K = C.K)
    (act : ∀ pn xe Eb p1 p2, Takes (Z.tr pn xe) (fun cls d _ H => Eb cls d H) → RE (Z.tr pn xe) C1 Eb (.Call (.Name "call" p1) [] [] p2) (wAct fA wA)) (hG : Calm Z.A) (rm : Room j Z.A) : RSs Z C1 RF.E0 (defBody st__law_tried) (w__law_tried fA wA) := by
  obtain ⟨K1, T1, xs1, cs1, sl1, scr1⟩ := C1
  have hK : K1 = C.K := hK
  subst hK hZ
  have c : Ok _ (Cfg.mk C.K T1 xs1 cs1 sl1 scr1) RF.E0 j := ⟨rfl, rfl, (by decide +kernel : N__law_tried.Nodup), takes_of rfl rfl rfl rfl, passes_of (E₁ := fun e1 s1 => L2.CX P w out H s RF.E0 e1 s1) rfl, rm, hG⟩
  exact (rss_cons (rs_try rfl rfl rfl c.hN rfl rfl ⟨rfl, by decide, .inl FX.q⟩ (fun cn m => (FX.err cn m).exm) (fun pn xe Eb tkB po => have cB : Ok (Cx.tr _ pn xe) _ Eb _ := ⟨rfl, rfl, c.hN, tkB, po, c.rm, c.cm⟩; (rss_one (s_set cB 1 (act _ _ _ _ _ tkB))))
  (fun cE hE pE aE dE oe pn hz hd => have cS := su_of (Z := _) (a := aE) (pn := (aE, oe) :: pn) rfl hG rm; (rss_cons (xs_set (hN := (by decide +kernel : N__law_tried.Nodup)) cS 3 (re_tup (xa_cons cS (re_eis (c2 := "BadMachine") rfl hz hd (List.mem_cons_self ..) (FX.err cE hE).isC (FX.kit cE hE "BadMachine" (by simp [errs])) rfl FX.b_isinstance rfl FX.g_BadMachine rfl (by first | exact .inl rfl | exact .inr (.inl rfl)) (by decide) (by decide) (by decide) rfl rfl rfl) (xa_cons cS (re_eis (c2 := "BadStanding") rfl hz hd (List.mem_cons_self ..) (FX.err cE hE).isC (FX.kit cE hE "BadStanding" (by simp [errs])) rfl FX.b_isinstance rfl FX.g_BadStanding rfl (by first | exact .inl rfl | exact .inr (.inl rfl)) (by decide) (by decide) (by decide) rfl rfl rfl) (xa_cons cS (re_eis (c2 := "BadWord") rfl hz hd (List.mem_cons_self ..) (FX.err cE hE).isC (FX.kit cE hE "BadWord" (by simp [errs])) rfl FX.b_isinstance rfl FX.g_BadWord rfl (by first | exact .inl rfl | exact .inr (.inl rfl)) (by decide) (by decide) (by decide) rfl rfl rfl) (xa_cons cS (re_eis (c2 := "BadNumber") rfl hz hd (List.mem_cons_self ..) (FX.err cE hE).isC (FX.kit cE hE "BadNumber" (by simp [errs])) rfl FX.b_isinstance rfl FX.g_BadNumber rfl (by first | exact .inl rfl | exact .inr (.inl rfl)) (by decide) (by decide) (by decide) rfl rfl rfl) ra_nil))))))
  (rss_one (rs_ret (re_tup (xa_cons cS (xd_str cS "raised") (xa_cons cS (xd_var cS 3) (xa_cons cS (re_ifE (xt_inG cS FX.sy (xd_bl cS true) (xd_var cS 3)) (xf_repD cS FX.sy FX.b_repr (xa_cons cS (re_eth rfl hz hd (List.mem_cons_self ..) (FX.err cE hE).txt rfl (by first | exact .inl rfl | exact .inr (.inl rfl)) (by decide) (by decide) rfl) ra_nil)) (xd_non cS)) ra_nil)))))))))
  (rss_one (rs_ret (re_tup (a_cons c (d_str c "returned") (a_cons c (f_repD c FX.sy FX.b_repr (a_cons c (d_var c 1) ra_nil)) ra_nil))))))
theorem r_law {P : Program} {w : World} {C : Cfg} {mg : Str → Option Value} {base : Heap} (tr : M PV → M PV) (FX : Facts C mg) {X : Cx} {E : XK} {cd : Value} (B_pile_step : Fun P w C mg base 7 "pile_step" 2 (toF F_pile_step)) (B_standing_after : Fun P w C mg base 7 "standing_after" 3 (toF F_standing_after)) (K_standing_after : FunK P w C mg base 7 "standing_after" 3 (toF F_standing_after) ["many", "machine", "word"] [1, 2, 0]) (B__law_deck : Fun P w C mg base 1 "_law_deck" 1 (sDeck C)) (B__law_draw : Fun P w C mg base 1 "_law_draw" 2 (toF F__law_draw)) (B__law_pick : Fun P w C mg base 2 "_law_pick" 2 (toF F__law_pick)) (B__law_word : Fun P w C mg base 3 "_law_word" 2 (toF F__law_word)) (B__law_same : Fun P w C mg base 1 "_law_same" 2 (toF F__law_same)) (B__law_is_number : Fun P w C mg base 2 "_law_is_number" 1 (toF F__law_is_number)) (B__law_is_word : Fun P w C mg base 1 "_law_is_word" 1 (toF F__law_is_word)) (B__law_machine : Fun P w C mg base 3 "_law_machine" 2 (toF F__law_machine)) (B__law_is_machine : Fun P w C mg base 3 "_law_is_machine" 1 (toF F__law_is_machine)) (B__law_bent : Fun P w C mg base 22 "_law_bent" 3 (toF (F__law_bent 20))) (B__law_pile_step : Fun P w C mg base 1 "_law_pile_step" 2 (toF F__law_pile_step)) (B__law_after : Fun P w C mg base 2 "_law_after" 3 (toF F__law_after)) (B__law_odd : Fun P w C mg base 1 "_law_odd" 0 (toF F__law_odd)) (TR : Tried P w C mg base "_law_tried" "call" st__law_tried N__law_tried 23 (btN tr) w__law_tried) {cc Pt : Addr} (TB : LamX.TabB base mg cc Pt) (hcd : cd = .ref cc) (hT : C.T = [(Pt, (("law" : Str) ++ ".<locals>.") ++ "<lambda>")]) {A : Around} {out : List Env} {s : Shared} {H : Hp} {fa : Addr}
    (hX : X = cxOf (L2.CX P w) P w C.K mg base N_law "law" (defScope st_law) fa cd A out s H E) (c : Ok X C E 24) : NSs X C E (defBody st_law) (wnSeq (wnAsg 1 (wCall (sDeck C) (wArgs 1 (wCons (wVar 0) wNil)))) (toN (f_law tr))) := by
  subst hX
  exact (nss_consW (y_setW c 1 (d_fun c B__law_deck (by decide) (a_cons c (d_var c 0) ra_nil)))
  (nss_cons (y_for c [] (yi_rg1 c FX.b_range (yd_int c 2)) g_nm
  (nss_cons (y_par2 c [] 3 4 (am_v c (y_fun c B__law_machine (by decide) (ya_cons c (yd_var c 1) (ya_cons c (yd_int c 6) ya_nil))) (am_v c (y_fun c B__law_word (by decide) (ya_cons c (yd_var c 1) (ya_cons c (yd_int c 6) ya_nil))) .nil)))
  (nss_one (y_for c [] (yi_rg1 c FX.b_range (yd_int c 4)) g_nm
  (nss_cons (y_set c [] 6 (yd_add c (y_fun c B__law_pick (by decide) (ya_cons c (yd_var c 1) (ya_cons c (yd_lst (ya_cons c (yd_int c 0) (ya_cons c (yd_int c 1) (ya_cons c (yd_int c 2) (ya_cons c (yd_int c 3) (ya_cons c (yd_int c 5) (ya_cons c (yd_int c 8) (ya_cons c (yd_int c 13) (ya_cons c (yd_int c 40) (ya_cons c (yd_int c 77) (ya_cons c (yd_int c 199) ya_nil))))))))))) ya_nil))) (y_fun c B__law_draw (by decide) (ya_cons c (yd_var c 1) (ya_cons c (yd_int c 2) ya_nil)))))
  (nss_cons (y_if c [] (yt_eq c FX.sy (yd_var c 5) (yd_int c 3)) (nss_one (y_set c [] 6 (y_fun c B__law_draw (by decide) (ya_cons c (yd_var c 1) (ya_cons c (yd_int c 201) ya_nil)))))
  nss_nil)
  (nss_cons (y_set c [] 7 (y_fun c B__law_after (by decide) (ya_cons c (yd_var c 3) (ya_cons c (yd_tup (ya_cons c (yd_int c 0) (ya_cons c (yd_var c 4) (ya_cons c (yd_str c "") ya_nil)))) (ya_cons c (yd_var c 6) ya_nil)))))
  (nss_cons (y_set c [] 8 (yd_ifE (yt_lt c (yd_var c 5) (yd_int c 2)) (y_fun c B_standing_after (by decide) (ya_cons c (yd_var c 3) (ya_cons c (yd_var c 4) (ya_cons c (yd_var c 6) ya_nil)))) (y_funK c K_standing_after (by decide) (yk_cons (yd_var c 6) (yk_cons (yd_var c 3) (yk_cons (yd_var c 4) yk_nil))))))
  (nss_one (y_if c [] (RW.rt (yw_or (yt_not c (yt_tru c (y_fun c B__law_same (by decide) (ya_cons c (yd_var c 8) (ya_cons c (yd_var c 7) ya_nil))))) (yw_or1 (yt_not c (yt_tru c (y_fun c B__law_same (by decide) (ya_cons c (y_fun c B_pile_step (by decide) (ya_cons c (yd_var c 3) (ya_cons c (yd_var c 8) ya_nil))) (ya_cons c (y_fun c B__law_pile_step (by decide) (ya_cons c (yd_var c 3) (ya_cons c (yd_var c 7) ya_nil))) ya_nil)))))))) (nss_one (y_ret c [] (yd_bl c false)))
  nss_nil))))))))))
  (nss_cons (y_for c [] (yi_rg1 c FX.b_range (yd_int c 8)) g_nm
  (nss_cons (y_unp c [] (.tp (g_cons (g_cons (g_cons .nil)))) (yd_tup (ya_cons c (y_fun c B__law_machine (by decide) (ya_cons c (yd_var c 1) (ya_cons c (yd_int c 5) ya_nil))) (ya_cons c (y_fun c B__law_word (by decide) (ya_cons c (yd_var c 1) (ya_cons c (yd_int c 6) ya_nil))) (ya_cons c (y_fun c B__law_draw (by decide) (ya_cons c (yd_var c 1) (ya_cons c (yd_int c 30) ya_nil))) ya_nil)))))
  (nss_cons (y_if c [] (yt_eq c FX.sy (y_fun c B__law_draw (by decide) (ya_cons c (yd_var c 1) (ya_cons c (yd_int c 3) ya_nil))) (yd_int c 0)) (nss_one (y_set c [] 9 (y_fun c B__law_bent (by decide) (ya_cons c (yd_var c 1) (ya_cons c (yd_var c 9) (ya_cons c (y_fun0 c B__law_odd (by decide)) ya_nil))))))
  nss_nil)
  (nss_cons (y_if c [] (yt_eq c FX.sy (y_fun c B__law_draw (by decide) (ya_cons c (yd_var c 1) (ya_cons c (yd_int c 2) ya_nil))) (yd_int c 0)) (nss_one (y_set c [] 10 (y_fun c B__law_pick (by decide) (ya_cons c (yd_var c 1) (ya_cons c (yd_lst (ya_cons c (yd_non c) (ya_cons c (yd_int c 0) (ya_cons c (yd_int c 1) (ya_cons c (yd_bl c true) (ya_cons c (yd_str c "2") (ya_cons c (yd_str c "01a") (ya_cons c (yd_str c "0 1") (ya_cons c (yd_str c " ") (ya_cons c (yd_tup (ya_cons c (yd_str c "0") ya_nil)) (ya_cons c (yd_lst (ya_cons c (yd_str c "0") (ya_cons c (yd_str c "1") ya_nil))) (ya_cons c (yd_d0 c) (ya_cons c (yd_str c "0\n") (ya_cons c (yd_str c "110") (ya_cons c (yd_str c "") ya_nil))))))))))))))) ya_nil)))))
  nss_nil)
  (nss_cons (y_if c [] (yt_eq c FX.sy (y_fun c B__law_draw (by decide) (ya_cons c (yd_var c 1) (ya_cons c (yd_int c 2) ya_nil))) (yd_int c 0)) (nss_one (y_set c [] 6 (y_fun c B__law_pick (by decide) (ya_cons c (yd_var c 1) (ya_cons c (yd_lst (ya_cons c (yd_non c) (ya_cons c (yd_bl c true) (ya_cons c (yd_bl c false) (ya_cons c (yd_neg c (yd_int c 1)) (ya_cons c (yd_str c "1") (ya_cons c (yd_str c "") (ya_cons c (yd_tup ya_nil) (ya_cons c (yd_tup (ya_cons c (yd_int c 1) ya_nil)) (ya_cons c (yd_lst (ya_cons c (yd_int c 1) ya_nil)) (ya_cons c (yd_d0 c) (ya_cons c (yd_neg c (yd_pow c (yd_int c 10) (yd_int c 39))) (ya_cons c (yd_int c 0) (ya_cons c (yd_int c 3) ya_nil)))))))))))))) ya_nil)))))
  nss_nil)
  (nss_cons (y_if c [] (yt_not c (yt_tru c (y_fun c B__law_is_machine (by decide) (ya_cons c (yd_var c 9) ya_nil)))) (nss_one (y_set c [] 7 (yd_tup (ya_cons c (yd_str c "raised") (ya_cons c (yd_tup (ya_cons c (yd_bl c true) (ya_cons c (yd_bl c false) (ya_cons c (yd_bl c false) (ya_cons c (yd_bl c false) ya_nil))))) (ya_cons c (yf_repr c FX.sy FX.b_repr (ya_cons c (yd_var c 9) ya_nil)) ya_nil))))))
  (nss_one (y_if c [] (yt_not c (yt_tru c (y_fun c B__law_is_word (by decide) (ya_cons c (yd_var c 10) ya_nil)))) (nss_one (y_set c [] 7 (yd_tup (ya_cons c (yd_str c "raised") (ya_cons c (yd_tup (ya_cons c (yd_bl c false) (ya_cons c (yd_bl c false) (ya_cons c (yd_bl c true) (ya_cons c (yd_bl c false) ya_nil))))) (ya_cons c (yf_repr c FX.sy FX.b_repr (ya_cons c (yd_var c 10) ya_nil)) ya_nil))))))
  (nss_one (y_if c [] (yt_not c (yt_tru c (y_fun c B__law_is_number (by decide) (ya_cons c (yd_var c 6) ya_nil)))) (nss_one (y_set c [] 7 (yd_tup (ya_cons c (yd_str c "raised") (ya_cons c (yd_tup (ya_cons c (yd_bl c false) (ya_cons c (yd_bl c false) (ya_cons c (yd_bl c false) (ya_cons c (yd_bl c true) ya_nil))))) (ya_cons c (yf_repr c FX.sy FX.b_repr (ya_cons c (yd_var c 6) ya_nil)) ya_nil))))))
  (nss_one (y_set c [] 7 (yd_tup (ya_cons c (yd_str c "returned") (ya_cons c (yf_repr c FX.sy FX.b_repr (ya_cons c (y_fun c B__law_after (by decide) (ya_cons c (yd_var c 9) (ya_cons c (yd_tup (ya_cons c (yd_int c 0) (ya_cons c (yd_var c 10) (ya_cons c (yd_str c "") ya_nil)))) (ya_cons c (yd_var c 6) ya_nil)))) ya_nil)) ya_nil))))))))))
  (nss_one (y_if c [] (yt_ne c FX.sy (y_lam c TR (by decide) TB hcd hT (fun _ _ _ _ _ _ _ cL => (y_fun cL B_standing_after (by decide) (ya_cons cL (yd_var cL 9) (ya_cons cL (yd_var cL 10) (ya_cons cL (yd_var cL 6) ya_nil))))) (LamX.lamS_by (by show LamX.lamSB (defScope st_law) _ = true; decide +kernel))) (yd_var c 7)) (nss_one (y_ret c [] (yd_bl c false)))
  nss_nil))))))))
  (nss_one (y_ret c [] (yd_bl c true))))))
end K89

set_option Elab.async false
set_option linter.all false
set_option maxRecDepth 100000
set_option maxHeartbeats 0
namespace K89
open PySem PySem.Spec PySem.W L2 RF
def fs : List (Frag → Bool) := [RH.fFree "all",
  RH.fFree "bool",
  RH.fFree "int",
  RH.fFree "isinstance",
  RH.fFree "len",
  RH.fFree "list",
  RH.fFree "max",
  RH.fFree "range",
  RH.fFree "repr",
  RH.fFree "str",
  RH.fFree "tuple",
  RH.fSys,
  RH.fGlo "LETTERS",
  RH.fTup "LETTERS" [.str "0", .str "1"],
  RH.fGlo "DEEDS",
  RH.fTup "DEEDS" [.str "stay", .str "put0", .str "put1", .str "cut", .str "over", .str "back"],
  RH.fGlo "ENDS",
  RH.fTup "ENDS" [.str "", .str "0", .str "1"],
  RH.fTupD "ENDS",
  RH.fErr "BadWord" "thing" "QuickError",
  RH.fErr "BadNumber" "thing" "QuickError",
  RH.fErr "BadStanding" "thing" "QuickError",
  RH.fErr "BadMachine" "thing" "QuickError",
  RH.fKit "BadWord" "BadWord" true,
  RH.fKit "BadWord" "BadNumber" false,
  RH.fKit "BadWord" "BadStanding" false,
  RH.fKit "BadWord" "BadMachine" false,
  RH.fKit "BadNumber" "BadWord" false,
  RH.fKit "BadNumber" "BadNumber" true,
  RH.fKit "BadNumber" "BadStanding" false,
  RH.fKit "BadNumber" "BadMachine" false,
  RH.fKit "BadStanding" "BadWord" false,
  RH.fKit "BadStanding" "BadNumber" false,
  RH.fKit "BadStanding" "BadStanding" true,
  RH.fKit "BadStanding" "BadMachine" false,
  RH.fKit "BadMachine" "BadWord" false,
  RH.fKit "BadMachine" "BadNumber" false,
  RH.fKit "BadMachine" "BadStanding" false,
  RH.fKit "BadMachine" "BadMachine" true,
  RH.fGlo "QuickError",
  RH.fGlo "is_integer",
  RH.fGlo "is_between",
  RH.fGlo "is_word_value",
  RH.fGlo "need_word",
  RH.fGlo "is_rule",
  RH.fGlo "is_state",
  RH.fGlo "is_machine",
  RH.fGlo "need_machine",
  RH.fGlo "need_count",
  RH.fGlo "is_standing_value",
  RH.fGlo "done",
  RH.fGlo "standing_behind",
  RH.fGlo "last_standing",
  RH.fGlo "pile_step",
  RH.fGlo "standing_after",
  RH.fGlo "_law_deck",
  RH.fGlo "_law_draw",
  RH.fGlo "_law_pick",
  RH.fGlo "_law_word",
  RH.fGlo "_law_same",
  RH.fGlo "_law_is_integer",
  RH.fGlo "_law_is_number",
  RH.fGlo "_law_is_word",
  RH.fGlo "_law_machine",
  RH.fGlo "_law_is_machine",
  RH.fGlo "_law_bent",
  RH.fGlo "_law_pile_step",
  RH.fGlo "_law_after",
  RH.fGlo "_law_odd",
  RH.fGlo "_law_tried",
  RH.fGlo "law"]
abbrev ini_BadWord : Stmt := (match top 2 with
  | .ClassDef _ _ _ b _ _ _ _ _ _ _ => b
  | _ => []).getD 0 (.Pass ⟨0, 0, 0, 0⟩)
abbrev ini_BadNumber : Stmt := (match top 3 with
  | .ClassDef _ _ _ b _ _ _ _ _ _ _ => b
  | _ => []).getD 0 (.Pass ⟨0, 0, 0, 0⟩)
abbrev ini_BadStanding : Stmt := (match top 4 with
  | .ClassDef _ _ _ b _ _ _ _ _ _ _ => b
  | _ => []).getD 0 (.Pass ⟨0, 0, 0, 0⟩)
abbrev ini_BadMachine : Stmt := (match top 5 with
  | .ClassDef _ _ _ b _ _ _ _ _ _ _ => b
  | _ => []).getD 0 (.Pass ⟨0, 0, 0, 0⟩)
def fn : List He.DefD := [⟨("is_integer", none), "is_integer", "is_integer", defArgs st_is_integer, defBody st_is_integer, defScope st_is_integer, [], []⟩,
  ⟨("is_between", none), "is_between", "is_between", defArgs st_is_between, defBody st_is_between, defScope st_is_between, [], []⟩,
  ⟨("is_word_value", none), "is_word_value", "is_word_value", defArgs st_is_word_value, defBody st_is_word_value, defScope st_is_word_value, [], []⟩,
  ⟨("need_word", none), "need_word", "need_word", defArgs st_need_word, defBody st_need_word, defScope st_need_word, [], []⟩,
  ⟨("is_rule", none), "is_rule", "is_rule", defArgs st_is_rule, defBody st_is_rule, defScope st_is_rule, [], []⟩,
  ⟨("is_state", none), "is_state", "is_state", defArgs st_is_state, defBody st_is_state, defScope st_is_state, [], []⟩,
  ⟨("is_machine", none), "is_machine", "is_machine", defArgs st_is_machine, defBody st_is_machine, defScope st_is_machine, [], []⟩,
  ⟨("need_machine", none), "need_machine", "need_machine", defArgs st_need_machine, defBody st_need_machine, defScope st_need_machine, [], []⟩,
  ⟨("need_count", none), "need_count", "need_count", defArgs st_need_count, defBody st_need_count, defScope st_need_count, [], []⟩,
  ⟨("is_standing_value", none), "is_standing_value", "is_standing_value", defArgs st_is_standing_value, defBody st_is_standing_value, defScope st_is_standing_value, [], []⟩,
  ⟨("done", none), "done", "done", defArgs st_done, defBody st_done, defScope st_done, [], []⟩,
  ⟨("standing_behind", none), "standing_behind", "standing_behind", defArgs st_standing_behind, defBody st_standing_behind, defScope st_standing_behind, [], []⟩,
  ⟨("last_standing", none), "last_standing", "last_standing", defArgs st_last_standing, defBody st_last_standing, defScope st_last_standing, [], []⟩,
  ⟨("pile_step", none), "pile_step", "pile_step", defArgs st_pile_step, defBody st_pile_step, defScope st_pile_step, [], []⟩,
  ⟨("standing_after", none), "standing_after", "standing_after", defArgs st_standing_after, defBody st_standing_after, defScope st_standing_after, [], []⟩,
  ⟨("_law_deck", none), "_law_deck", "_law_deck", defArgs st__law_deck, defBody st__law_deck, defScope st__law_deck, [], []⟩,
  ⟨("_law_draw", none), "_law_draw", "_law_draw", defArgs st__law_draw, defBody st__law_draw, defScope st__law_draw, [], []⟩,
  ⟨("_law_pick", none), "_law_pick", "_law_pick", defArgs st__law_pick, defBody st__law_pick, defScope st__law_pick, [], []⟩,
  ⟨("_law_word", none), "_law_word", "_law_word", defArgs st__law_word, defBody st__law_word, defScope st__law_word, [], []⟩,
  ⟨("_law_same", none), "_law_same", "_law_same", defArgs st__law_same, defBody st__law_same, defScope st__law_same, [], []⟩,
  ⟨("_law_is_integer", none), "_law_is_integer", "_law_is_integer", defArgs st__law_is_integer, defBody st__law_is_integer, defScope st__law_is_integer, [], []⟩,
  ⟨("_law_is_number", none), "_law_is_number", "_law_is_number", defArgs st__law_is_number, defBody st__law_is_number, defScope st__law_is_number, [], []⟩,
  ⟨("_law_is_word", none), "_law_is_word", "_law_is_word", defArgs st__law_is_word, defBody st__law_is_word, defScope st__law_is_word, [], []⟩,
  ⟨("_law_machine", none), "_law_machine", "_law_machine", defArgs st__law_machine, defBody st__law_machine, defScope st__law_machine, [], []⟩,
  ⟨("_law_is_machine", none), "_law_is_machine", "_law_is_machine", defArgs st__law_is_machine, defBody st__law_is_machine, defScope st__law_is_machine, [], []⟩,
  ⟨("_law_bent", none), "_law_bent", "_law_bent", defArgs st__law_bent, defBody st__law_bent, defScope st__law_bent, [], []⟩,
  ⟨("_law_pile_step", none), "_law_pile_step", "_law_pile_step", defArgs st__law_pile_step, defBody st__law_pile_step, defScope st__law_pile_step, [], []⟩,
  ⟨("_law_after", none), "_law_after", "_law_after", defArgs st__law_after, defBody st__law_after, defScope st__law_after, [], []⟩,
  ⟨("_law_odd", none), "_law_odd", "_law_odd", defArgs st__law_odd, defBody st__law_odd, defScope st__law_odd, [], []⟩,
  ⟨("_law_tried", none), "_law_tried", "_law_tried", defArgs st__law_tried, defBody st__law_tried, defScope st__law_tried, [], []⟩,
  ⟨("law", none), "law", "law", defArgs st_law, defBody st_law, defScope st_law, [], []⟩,
  ⟨("BadWord", some "__init__"), "__init__", "BadWord.__init__", defArgs ini_BadWord, defBody ini_BadWord, defScope ini_BadWord, [], []⟩,
  ⟨("BadNumber", some "__init__"), "__init__", "BadNumber.__init__", defArgs ini_BadNumber, defBody ini_BadNumber, defScope ini_BadNumber, [], []⟩,
  ⟨("BadStanding", some "__init__"), "__init__", "BadStanding.__init__", defArgs ini_BadStanding, defBody ini_BadStanding, defScope ini_BadStanding, [], []⟩,
  ⟨("BadMachine", some "__init__"), "__init__", "BadMachine.__init__", defArgs ini_BadMachine, defBody ini_BadMachine, defScope ini_BadMachine, [], []⟩]
def ls : List Str := ["law"]
abbrev Rw : OpenRow := OpenLaw.row PySem.Challenge.rw_samequick_k89_standings_after_many_steps
abbrev hk : Hook := RH.hookR 4 fs fn ls
def ob (s : SharedT) : He.AlD := RH.obsR 4 fs fn ls (HandSHeadRun.getT s)
theorem ob_eq (s : SharedT) : ob s = hk.obs s.abs := RH.obsR_eq (HandSHeadRun.getT_eq s)
def names : List Str := (["__name__", "QuickError", "BadWord", "BadNumber", "BadStanding", "BadMachine", "LETTERS", "is_integer", "is_between", "is_word_value", "need_word", "DEEDS", "ENDS", "is_rule", "is_state", "is_machine", "need_machine", "need_count", "is_standing_value", "done", "standing_behind", "last_standing", "pile_step", "standing_after", "_law_deck", "_law_draw", "_law_pick", "_law_word", "_law_same", "_law_is_integer"] : List Str) ++ (["_law_is_number", "_law_is_word", "_law_machine", "_law_is_machine", "_law_bent", "_law_pile_step", "_law_after", "_law_odd", "_law_tried"] : List Str)
theorem run (w : World) : HandSHeadRun.RunEq Rw (view Rw.prog [42]) hk ob 4000 names w := by
  intro os
  kernel_rfl
end K89

set_option Elab.async false
set_option linter.all false
set_option maxRecDepth 100000
set_option maxHeartbeats 1000000
/-! k89: what the trying def tells. -/
namespace K89
open PySem PySem.Spec L2 RF
/-- what comes of a repr -/
def reprM (p : PV) : M PV := M.ofO (reprF p)
def kindsV (c : Str) : PV := .tup [.bl (decide (c = "BadMachine")), .bl (decide (c = "BadStanding")), .bl (decide (c = "BadWord")), .bl (decide (c = "BadNumber"))]
def tr (m : M PV) : M PV := tryM m (fun p => (reprM p).bind fun s => M.ret (.tup [.str "returned", s])) fun c p => if c ∈ errs then (reprM p).bind fun s => M.ret (.tup [.str "raised", kindsV c, s]) else M.bad
theorem bt_ok (f : Addr) (w : WL) (hp : PH) (Q : KI) (m : MoL w) (h : btN tr w hp Q) : w__law_tried f w (some (.ref f) :: List.replicate (N__law_tried.length - 1) none) hp eNo { nx := fun _ h => ∃ h', leP h' h ∧ Q .non h', rt := fun p h => ∃ h', leP h' h ∧ Q p h' } := by
  obtain ⟨c, a, q⟩ := h
  have sl : sizeLine = 16777216 := PySem.sizeLine_eq
  refine ⟨_, fun c p h => toM (if c ∈ errs then (reprM p).bind fun s => M.ret (.tup [.str "raised", kindsV c, s]) else M.bad) h eNo Q, ⟨fun _ _ z => z, fun _ _ z => z, fun _ _ z => z, fun _ _ z => z⟩, fun c p h z => ?_, rfl, m _ _ _ _ (fun p h q => ?_) (a _ _ _ (toM.tried q))⟩
  · have z := toM.ite z
    split at z
    · rename_i hc
      refine ⟨hc, fun a => ?_⟩
      obtain ⟨s, e1, q⟩ := toM.ofO (toM.bind z)
      have q : Q (.tup [.str "raised", kindsV c, s]) h := toM.ret q
      have g : ∀ K : KI, K s h → gRepD [p] h K := fun K k => if_repr [p] s h K e1 k
      have hc4 : c = "BadWord" ∨ c = "BadNumber" ∨ c = "BadStanding" ∨ c = "BadMachine" := by simpa [errs] using hc
      have ht : inF (.bl true) (kindsV c) = some true := by
        rcases hc4 with rfl | rfl | rfl | rfl <;> decide +kernel
      have hf : ("thing" : Str) = fldOf c := by
        rcases hc4 with rfl | rfl | rfl | rfl <;> decide +kernel
      simp only [wSeq, wAsg, wTup, wCons, wNil, wEis, wRet, wC, wVar, wIfE, wCmpT, wFn, wEth, Tg.go]
      simp
      refine ⟨by rw [sl]; decide, ?_⟩
      exact .inr ⟨ht, hf, g _ ⟨by rw [sl]; decide, h, fun _ _ z => z, q⟩⟩
    · exact (toM.nobad z).elim
  · obtain ⟨s, e1, q⟩ := toM.ofO (toM.bind q)
    have q : Q (.tup [.str "returned", s]) h := toM.ret q
    have g : ∀ K : KI, K s h → gRepD [p] h K := fun K k => if_repr [p] s h K e1 k
    simp only [wSeq, wAsg, wTup, wCons, wNil, wRet, wC, wVar, wFn, Tg.go]
    simp
    exact g _ ⟨by rw [sl]; decide, h, fun _ _ z => z, q⟩
end K89

set_option Elab.async false
set_option linter.all false
set_option maxRecDepth 100000
set_option maxHeartbeats 0
namespace K89
open PySem PySem.Spec PySem.W L2 RF
theorem facts_of {K : Frag} {h : Heap} {mg : Str → Option Value} {C : Cfg} (hC : C.K = K) (S : RH.Says fs fn ls K h) (G : h.Ns mainGlobals mg) : Facts C mg := by
  subst hC
  have kBadWord : fldOf "BadWord" = "thing" := by decide +kernel
  obtain ⟨⟨fBadWord, FBadWord⟩, _⟩ := S.fd 31 rfl
  have kBadNumber : fldOf "BadNumber" = "thing" := by decide +kernel
  obtain ⟨⟨fBadNumber, FBadNumber⟩, _⟩ := S.fd 32 rfl
  have kBadStanding : fldOf "BadStanding" = "thing" := by decide +kernel
  obtain ⟨⟨fBadStanding, FBadStanding⟩, _⟩ := S.fd 33 rfl
  have kBadMachine : fldOf "BadMachine" = "thing" := by decide +kernel
  obtain ⟨⟨fBadMachine, FBadMachine⟩, _⟩ := S.fd 34 rfl
  exact {
    b_all := He.free_ok S.kin G (S.at 0 rfl)
    b_bool := He.free_ok S.kin G (S.at 1 rfl)
    b_int := He.free_ok S.kin G (S.at 2 rfl)
    b_isinstance := He.free_ok S.kin G (S.at 3 rfl)
    b_len := He.free_ok S.kin G (S.at 4 rfl)
    b_list := He.free_ok S.kin G (S.at 5 rfl)
    b_max := He.free_ok S.kin G (S.at 6 rfl)
    b_range := He.free_ok S.kin G (S.at 7 rfl)
    b_repr := He.free_ok S.kin G (S.at 8 rfl)
    b_str := He.free_ok S.kin G (S.at 9 rfl)
    b_tuple := He.free_ok S.kin G (S.at 10 rfl)
    sy := Option.isSome_iff_exists.mp (S.at 11 rfl)
    g_LETTERS := He.glo_ok S.kin G (S.at 12 rfl)
    c_LETTERS := fun H => He.tupB_ok (S.at 13 rfl) H
    g_DEEDS := He.glo_ok S.kin G (S.at 14 rfl)
    c_DEEDS := fun H => He.tupB_ok (S.at 15 rfl) H
    g_ENDS := He.glo_ok S.kin G (S.at 16 rfl)
    c_ENDS := fun H => He.tupB_ok (S.at 17 rfl) H
    t_ENDS := RH.tupD_ok (S.at 18 rfl)
    e_BadWord := by
      rw [kBadWord]
      exact RH.err_ok (S.at 19 rfl) (.inl rfl) rfl FBadWord
    g_BadWord := PySem.W.mg_of S.kin G (RH.err_ok (S.at 19 rfl) (.inl rfl) rfl FBadWord).g
    e_BadNumber := by
      rw [kBadNumber]
      exact RH.err_ok (S.at 20 rfl) (.inl rfl) rfl FBadNumber
    g_BadNumber := PySem.W.mg_of S.kin G (RH.err_ok (S.at 20 rfl) (.inl rfl) rfl FBadNumber).g
    e_BadStanding := by
      rw [kBadStanding]
      exact RH.err_ok (S.at 21 rfl) (.inl rfl) rfl FBadStanding
    g_BadStanding := PySem.W.mg_of S.kin G (RH.err_ok (S.at 21 rfl) (.inl rfl) rfl FBadStanding).g
    e_BadMachine := by
      rw [kBadMachine]
      exact RH.err_ok (S.at 22 rfl) (.inl rfl) rfl FBadMachine
    g_BadMachine := PySem.W.mg_of S.kin G (RH.err_ok (S.at 22 rfl) (.inl rfl) rfl FBadMachine).g
    k_BadWord_BadWord := of_decide_eq_true (S.at 23 rfl)
    k_BadWord_BadNumber := of_decide_eq_true (S.at 24 rfl)
    k_BadWord_BadStanding := of_decide_eq_true (S.at 25 rfl)
    k_BadWord_BadMachine := of_decide_eq_true (S.at 26 rfl)
    k_BadNumber_BadWord := of_decide_eq_true (S.at 27 rfl)
    k_BadNumber_BadNumber := of_decide_eq_true (S.at 28 rfl)
    k_BadNumber_BadStanding := of_decide_eq_true (S.at 29 rfl)
    k_BadNumber_BadMachine := of_decide_eq_true (S.at 30 rfl)
    k_BadStanding_BadWord := of_decide_eq_true (S.at 31 rfl)
    k_BadStanding_BadNumber := of_decide_eq_true (S.at 32 rfl)
    k_BadStanding_BadStanding := of_decide_eq_true (S.at 33 rfl)
    k_BadStanding_BadMachine := of_decide_eq_true (S.at 34 rfl)
    k_BadMachine_BadWord := of_decide_eq_true (S.at 35 rfl)
    k_BadMachine_BadNumber := of_decide_eq_true (S.at 36 rfl)
    k_BadMachine_BadStanding := of_decide_eq_true (S.at 37 rfl)
    k_BadMachine_BadMachine := of_decide_eq_true (S.at 38 rfl)
    q := He.glo_ok S.kin G (S.at 39 rfl) }
theorem sc_is_integer : FnScope N_is_integer ["thing"] (defScope st_is_integer) := ⟨rfl, rfl, rfl, by decide +kernel, rfl, by decide +kernel, by decide +kernel⟩
theorem sc_is_between : FnScope N_is_between ["thing", "least", "most"] (defScope st_is_between) := ⟨rfl, rfl, rfl, by decide +kernel, rfl, by decide +kernel, by decide +kernel⟩
theorem sc_is_word_value : FnScope N_is_word_value ["thing"] (defScope st_is_word_value) := ⟨rfl, rfl, rfl, by decide +kernel, rfl, by decide +kernel, by decide +kernel⟩
theorem sc_need_word : FnScope N_need_word ["word"] (defScope st_need_word) := ⟨rfl, rfl, rfl, by decide +kernel, rfl, by decide +kernel, by decide +kernel⟩
theorem sc_is_rule : FnScope N_is_rule ["thing", "many"] (defScope st_is_rule) := ⟨rfl, rfl, rfl, by decide +kernel, rfl, by decide +kernel, by decide +kernel⟩
theorem sc_is_state : FnScope N_is_state ["thing", "many"] (defScope st_is_state) := ⟨rfl, rfl, rfl, by decide +kernel, rfl, by decide +kernel, by decide +kernel⟩
theorem sc_is_machine : FnScope N_is_machine ["thing"] (defScope st_is_machine) := ⟨rfl, rfl, rfl, by decide +kernel, rfl, by decide +kernel, by decide +kernel⟩
theorem sc_need_machine : FnScope N_need_machine ["machine"] (defScope st_need_machine) := ⟨rfl, rfl, rfl, by decide +kernel, rfl, by decide +kernel, by decide +kernel⟩
theorem sc_need_count : FnScope N_need_count ["thing"] (defScope st_need_count) := ⟨rfl, rfl, rfl, by decide +kernel, rfl, by decide +kernel, by decide +kernel⟩
theorem sc_is_standing_value : FnScope N_is_standing_value ["machine", "thing"] (defScope st_is_standing_value) := ⟨rfl, rfl, rfl, by decide +kernel, rfl, by decide +kernel, by decide +kernel⟩
theorem sc_done : FnScope N_done ["deed", "left", "right"] (defScope st_done) := ⟨rfl, rfl, rfl, by decide +kernel, rfl, by decide +kernel, by decide +kernel⟩
theorem sc_standing_behind : FnScope N_standing_behind ["machine", "standing"] (defScope st_standing_behind) := ⟨rfl, rfl, rfl, by decide +kernel, rfl, by decide +kernel, by decide +kernel⟩
theorem sc_last_standing : FnScope N_last_standing ["machine", "word", "many"] (defScope st_last_standing) := ⟨rfl, rfl, rfl, by decide +kernel, rfl, by decide +kernel, by decide +kernel⟩
theorem sc_pile_step : FnScope N_pile_step ["machine", "standing"] (defScope st_pile_step) := ⟨rfl, rfl, rfl, by decide +kernel, rfl, by decide +kernel, by decide +kernel⟩
theorem sc_standing_after : FnScope N_standing_after ["machine", "word", "many"] (defScope st_standing_after) := ⟨rfl, rfl, rfl, by decide +kernel, rfl, by decide +kernel, by decide +kernel⟩
theorem sc__law_deck : FnScope N__law_deck ["script"] (defScope st__law_deck) := ⟨rfl, rfl, rfl, by decide +kernel, rfl, by decide +kernel, by decide +kernel⟩
theorem sc__law_draw : FnScope N__law_draw ["deck", "many"] (defScope st__law_draw) := ⟨rfl, rfl, rfl, by decide +kernel, rfl, by decide +kernel, by decide +kernel⟩
theorem sc__law_pick : FnScope N__law_pick ["deck", "some"] (defScope st__law_pick) := ⟨rfl, rfl, rfl, by decide +kernel, rfl, by decide +kernel, by decide +kernel⟩
theorem sc__law_word : FnScope N__law_word ["deck", "most"] (defScope st__law_word) := ⟨rfl, rfl, rfl, by decide +kernel, rfl, by decide +kernel, by decide +kernel⟩
theorem sc__law_same : FnScope N__law_same ["told", "due"] (defScope st__law_same) := ⟨rfl, rfl, rfl, by decide +kernel, rfl, by decide +kernel, by decide +kernel⟩
theorem sc__law_is_integer : FnScope N__law_is_integer ["thing"] (defScope st__law_is_integer) := ⟨rfl, rfl, rfl, by decide +kernel, rfl, by decide +kernel, by decide +kernel⟩
theorem sc__law_is_number : FnScope N__law_is_number ["thing"] (defScope st__law_is_number) := ⟨rfl, rfl, rfl, by decide +kernel, rfl, by decide +kernel, by decide +kernel⟩
theorem sc__law_is_word : FnScope N__law_is_word ["thing"] (defScope st__law_is_word) := ⟨rfl, rfl, rfl, by decide +kernel, rfl, by decide +kernel, by decide +kernel⟩
theorem sc__law_machine : FnScope N__law_machine ["deck", "most"] (defScope st__law_machine) := ⟨rfl, rfl, rfl, by decide +kernel, rfl, by decide +kernel, by decide +kernel⟩
theorem sc__law_is_machine : FnScope N__law_is_machine ["thing"] (defScope st__law_is_machine) := ⟨rfl, rfl, rfl, by decide +kernel, rfl, by decide +kernel, by decide +kernel⟩
theorem sc__law_bent : FnScope N__law_bent ["deck", "thing", "odd"] (defScope st__law_bent) := ⟨rfl, rfl, rfl, by decide +kernel, rfl, by decide +kernel, by decide +kernel⟩
theorem sc__law_pile_step : FnScope N__law_pile_step ["machine", "standing"] (defScope st__law_pile_step) := ⟨rfl, rfl, rfl, by decide +kernel, rfl, by decide +kernel, by decide +kernel⟩
theorem sc__law_after : FnScope N__law_after ["machine", "standing", "many"] (defScope st__law_after) := ⟨rfl, rfl, rfl, by decide +kernel, rfl, by decide +kernel, by decide +kernel⟩
theorem sc__law_odd : FnScope N__law_odd [] (defScope st__law_odd) := ⟨rfl, rfl, rfl, by decide +kernel, rfl, by decide +kernel, by decide +kernel⟩
theorem sc__law_tried : FnScope N__law_tried ["call"] (defScope st__law_tried) := ⟨rfl, rfl, rfl, by decide +kernel, rfl, by decide +kernel, by decide +kernel⟩
theorem sc_law : FnScope N_law ["script"] (defScope st_law) := ⟨rfl, rfl, rfl, by decide +kernel, rfl, by decide +kernel, by decide +kernel⟩
section
variable {w : World} {C : Cfg} {mg : Str → Option Value} {base h : Heap}
theorem B_is_integer (S : RH.Says fs fn ls C.K h) (G : h.Ns mainGlobals mg) : Fun prg w C mg base 1 "is_integer" 1 (toF F_is_integer) := by
  obtain ⟨⟨fd, F⟩, kp⟩ := S.fd 0 rfl
  exact mkF (N := N_is_integer) (ps := ["thing"]) (He.glo_ok S.kin G (S.at 40 rfl)) kp F sc_is_integer rfl (fun _ _ _ _ _ _ us hl => match us, hl with | [_], _ => rfl) (fun A out s H E cdv X hc hX c => r_is_integer (facts_of rfl S G) (cd := cdv) hX c)
theorem B_is_between (S : RH.Says fs fn ls C.K h) (G : h.Ns mainGlobals mg) : Fun prg w C mg base 2 "is_between" 3 (toF F_is_between) := by
  obtain ⟨⟨fd, F⟩, kp⟩ := S.fd 1 rfl
  exact mkF (N := N_is_between) (ps := ["thing", "least", "most"]) (He.glo_ok S.kin G (S.at 41 rfl)) kp F sc_is_between rfl (fun _ _ _ _ _ _ us hl => match us, hl with | [_, _, _], _ => rfl) (fun A out s H E cdv X hc hX c => r_is_between (facts_of rfl S G) (cd := cdv) (B_is_integer S G) hX c)
theorem B_is_word_value (S : RH.Says fs fn ls C.K h) (G : h.Ns mainGlobals mg) : Fun prg w C mg base 1 "is_word_value" 1 (toF F_is_word_value) := by
  obtain ⟨⟨fd, F⟩, kp⟩ := S.fd 2 rfl
  exact mkF (N := N_is_word_value) (ps := ["thing"]) (He.glo_ok S.kin G (S.at 42 rfl)) kp F sc_is_word_value rfl (fun _ _ _ _ _ _ us hl => match us, hl with | [_], _ => rfl) (fun A out s H E cdv X hc hX c => r_is_word_value (facts_of rfl S G) (cd := cdv) hX c)
theorem B_need_word (S : RH.Says fs fn ls C.K h) (G : h.Ns mainGlobals mg) : Fun prg w C mg base 2 "need_word" 1 (toF F_need_word) := by
  obtain ⟨⟨fd, F⟩, kp⟩ := S.fd 3 rfl
  exact mkF (N := N_need_word) (ps := ["word"]) (He.glo_ok S.kin G (S.at 43 rfl)) kp F sc_need_word rfl (fun _ _ _ _ _ _ us hl => match us, hl with | [_], _ => rfl) (fun A out s H E cdv X hc hX c => r_need_word (facts_of rfl S G) (cd := cdv) (B_is_word_value S G) hX c)
theorem B_is_rule (S : RH.Says fs fn ls C.K h) (G : h.Ns mainGlobals mg) : Fun prg w C mg base 3 "is_rule" 2 (toF F_is_rule) := by
  obtain ⟨⟨fd, F⟩, kp⟩ := S.fd 4 rfl
  exact mkF (N := N_is_rule) (ps := ["thing", "many"]) (He.glo_ok S.kin G (S.at 44 rfl)) kp F sc_is_rule rfl (fun _ _ _ _ _ _ us hl => match us, hl with | [_, _], _ => rfl) (fun A out s H E cdv X hc hX c => r_is_rule (facts_of rfl S G) (cd := cdv) (B_is_between S G) hX c)
theorem B_is_state (S : RH.Says fs fn ls C.K h) (G : h.Ns mainGlobals mg) : Fun prg w C mg base 4 "is_state" 2 (toF F_is_state) := by
  obtain ⟨⟨fd, F⟩, kp⟩ := S.fd 5 rfl
  exact mkF (N := N_is_state) (ps := ["thing", "many"]) (He.glo_ok S.kin G (S.at 45 rfl)) kp F sc_is_state rfl (fun _ _ _ _ _ _ us hl => match us, hl with | [_, _], _ => rfl) (fun A out s H E cdv X hc hX c => r_is_state (facts_of rfl S G) (cd := cdv) (B_is_rule S G) hX c)
theorem B_is_machine (S : RH.Says fs fn ls C.K h) (G : h.Ns mainGlobals mg) : Fun prg w C mg base 5 "is_machine" 1 (toF F_is_machine) := by
  obtain ⟨⟨fd, F⟩, kp⟩ := S.fd 6 rfl
  exact mkF (N := N_is_machine) (ps := ["thing"]) (He.glo_ok S.kin G (S.at 46 rfl)) kp F sc_is_machine rfl (fun _ _ _ _ _ _ us hl => match us, hl with | [_], _ => rfl) (fun A out s H E cdv X hc hX c => r_is_machine (facts_of rfl S G) (cd := cdv) (B_is_state S G) hX c)
theorem B_need_machine (S : RH.Says fs fn ls C.K h) (G : h.Ns mainGlobals mg) : Fun prg w C mg base 6 "need_machine" 1 (toF F_need_machine) := by
  obtain ⟨⟨fd, F⟩, kp⟩ := S.fd 7 rfl
  exact mkF (N := N_need_machine) (ps := ["machine"]) (He.glo_ok S.kin G (S.at 47 rfl)) kp F sc_need_machine rfl (fun _ _ _ _ _ _ us hl => match us, hl with | [_], _ => rfl) (fun A out s H E cdv X hc hX c => r_need_machine (facts_of rfl S G) (cd := cdv) (B_is_machine S G) hX c)
theorem B_need_count (S : RH.Says fs fn ls C.K h) (G : h.Ns mainGlobals mg) : Fun prg w C mg base 2 "need_count" 1 (toF F_need_count) := by
  obtain ⟨⟨fd, F⟩, kp⟩ := S.fd 8 rfl
  exact mkF (N := N_need_count) (ps := ["thing"]) (He.glo_ok S.kin G (S.at 48 rfl)) kp F sc_need_count rfl (fun _ _ _ _ _ _ us hl => match us, hl with | [_], _ => rfl) (fun A out s H E cdv X hc hX c => r_need_count (facts_of rfl S G) (cd := cdv) (B_is_integer S G) hX c)
theorem B_is_standing_value (S : RH.Says fs fn ls C.K h) (G : h.Ns mainGlobals mg) : Fun prg w C mg base 3 "is_standing_value" 2 (toF F_is_standing_value) := by
  obtain ⟨⟨fd, F⟩, kp⟩ := S.fd 9 rfl
  exact mkF (N := N_is_standing_value) (ps := ["machine", "thing"]) (He.glo_ok S.kin G (S.at 49 rfl)) kp F sc_is_standing_value rfl (fun _ _ _ _ _ _ us hl => match us, hl with | [_, _], _ => rfl) (fun A out s H E cdv X hc hX c => r_is_standing_value (facts_of rfl S G) (cd := cdv) (B_is_between S G) (B_is_word_value S G) hX c)
theorem B_done (S : RH.Says fs fn ls C.K h) (G : h.Ns mainGlobals mg) : Fun prg w C mg base 1 "done" 3 (toF F_done) := by
  obtain ⟨⟨fd, F⟩, kp⟩ := S.fd 10 rfl
  exact mkF (N := N_done) (ps := ["deed", "left", "right"]) (He.glo_ok S.kin G (S.at 50 rfl)) kp F sc_done rfl (fun _ _ _ _ _ _ us hl => match us, hl with | [_, _, _], _ => rfl) (fun A out s H E cdv X hc hX c => r_done (facts_of rfl S G) (cd := cdv) hX c)
theorem B_standing_behind (S : RH.Says fs fn ls C.K h) (G : h.Ns mainGlobals mg) : Fun prg w C mg base 2 "standing_behind" 2 (toF F_standing_behind) := by
  obtain ⟨⟨fd, F⟩, kp⟩ := S.fd 11 rfl
  exact mkF (N := N_standing_behind) (ps := ["machine", "standing"]) (He.glo_ok S.kin G (S.at 51 rfl)) kp F sc_standing_behind rfl (fun _ _ _ _ _ _ us hl => match us, hl with | [_, _], _ => rfl) (fun A out s H E cdv X hc hX c => r_standing_behind (facts_of rfl S G) (cd := cdv) (B_done S G) hX c)
theorem B_last_standing (S : RH.Says fs fn ls C.K h) (G : h.Ns mainGlobals mg) : Fun prg w C mg base 3 "last_standing" 3 (toF F_last_standing) := by
  obtain ⟨⟨fd, F⟩, kp⟩ := S.fd 12 rfl
  exact mkF (N := N_last_standing) (ps := ["machine", "word", "many"]) (He.glo_ok S.kin G (S.at 52 rfl)) kp F sc_last_standing rfl (fun _ _ _ _ _ _ us hl => match us, hl with | [_, _, _], _ => rfl) (fun A out s H E cdv X hc hX c => r_last_standing (facts_of rfl S G) (cd := cdv) (B_standing_behind S G) hX c)
theorem B_pile_step (S : RH.Says fs fn ls C.K h) (G : h.Ns mainGlobals mg) : Fun prg w C mg base 7 "pile_step" 2 (toF F_pile_step) := by
  obtain ⟨⟨fd, F⟩, kp⟩ := S.fd 13 rfl
  exact mkF (N := N_pile_step) (ps := ["machine", "standing"]) (He.glo_ok S.kin G (S.at 53 rfl)) kp F sc_pile_step rfl (fun _ _ _ _ _ _ us hl => match us, hl with | [_, _], _ => rfl) (fun A out s H E cdv X hc hX c => r_pile_step (facts_of rfl S G) (cd := cdv) (B_need_machine S G) (B_is_standing_value S G) (B_standing_behind S G) hX c)
theorem B_standing_after (S : RH.Says fs fn ls C.K h) (G : h.Ns mainGlobals mg) : Fun prg w C mg base 7 "standing_after" 3 (toF F_standing_after) := by
  obtain ⟨⟨fd, F⟩, kp⟩ := S.fd 14 rfl
  exact mkF (N := N_standing_after) (ps := ["machine", "word", "many"]) (He.glo_ok S.kin G (S.at 54 rfl)) kp F sc_standing_after rfl (fun _ _ _ _ _ _ us hl => match us, hl with | [_, _, _], _ => rfl) (fun A out s H E cdv X hc hX c => r_standing_after (facts_of rfl S G) (cd := cdv) (B_need_word S G) (B_need_machine S G) (B_need_count S G) (B_last_standing S G) hX c)
theorem K_standing_after (S : RH.Says fs fn ls C.K h) (G : h.Ns mainGlobals mg) : FunK prg w C mg base 7 "standing_after" 3 (toF F_standing_after) ["many", "machine", "word"] [1, 2, 0] := by
  obtain ⟨⟨fd, F⟩, kp⟩ := S.fd 14 rfl
  exact mkFK (N := N_standing_after) (ps := ["machine", "word", "many"]) (He.glo_ok S.kin G (S.at 54 rfl)) kp F sc_standing_after rfl (fun _ _ _ _ _ _ us hl => match us, hl with | [_, _, _], _ => rfl) (fun A out s H E cdv X hc hX c => r_standing_after (facts_of rfl S G) (cd := cdv) (B_need_word S G) (B_need_machine S G) (B_need_count S G) (B_last_standing S G) hX c)
theorem B__law_deck (S : RH.Says fs fn ls C.K h) (G : h.Ns mainGlobals mg) : Fun prg w C mg base 1 "_law_deck" 1 (sDeck C) := by
  obtain ⟨⟨fd, F⟩, kp⟩ := S.fd 15 rfl
  exact mkFun (N := N__law_deck) (ps := ["script"]) (He.glo_ok S.kin G (S.at 55 rfl)) kp F sc__law_deck rfl (fun _ _ _ _ _ _ us hl => match us, hl with | [_], _ => rfl) mo_sDeck (fun qs hp e Q q => deck_ok (seed := 13745089) (by decide) (by decide) qs hp e Q q) (fun A out s H E cdv X hc hX c => r__law_deck (facts_of rfl S G) (cd := cdv) hX c)
theorem B__law_draw (S : RH.Says fs fn ls C.K h) (G : h.Ns mainGlobals mg) : Fun prg w C mg base 1 "_law_draw" 2 (toF F__law_draw) := by
  obtain ⟨⟨fd, F⟩, kp⟩ := S.fd 16 rfl
  exact mkFun (N := N__law_draw) (ps := ["deck", "many"]) (He.glo_ok S.kin G (S.at 56 rfl)) kp F sc__law_draw rfl (fun _ _ _ _ _ _ us hl => match us, hl with | [_, _], _ => rfl) toF.mo (fun qs hp e Q q => draw_okN qs hp e Q q) (fun A out s H E cdv X hc hX c => r__law_draw (facts_of rfl S G) (cd := cdv) hX c)
theorem B__law_pick (S : RH.Says fs fn ls C.K h) (G : h.Ns mainGlobals mg) : Fun prg w C mg base 2 "_law_pick" 2 (toF F__law_pick) := by
  obtain ⟨⟨fd, F⟩, kp⟩ := S.fd 17 rfl
  exact mkF (N := N__law_pick) (ps := ["deck", "some"]) (He.glo_ok S.kin G (S.at 57 rfl)) kp F sc__law_pick rfl (fun _ _ _ _ _ _ us hl => match us, hl with | [_, _], _ => rfl) (fun A out s H E cdv X hc hX c => r__law_pick (facts_of rfl S G) (cd := cdv) (B__law_draw S G) hX c)
theorem B__law_word (S : RH.Says fs fn ls C.K h) (G : h.Ns mainGlobals mg) : Fun prg w C mg base 3 "_law_word" 2 (toF F__law_word) := by
  obtain ⟨⟨fd, F⟩, kp⟩ := S.fd 18 rfl
  exact mkF (N := N__law_word) (ps := ["deck", "most"]) (He.glo_ok S.kin G (S.at 58 rfl)) kp F sc__law_word rfl (fun _ _ _ _ _ _ us hl => match us, hl with | [_, _], _ => rfl) (fun A out s H E cdv X hc hX c => r__law_word (facts_of rfl S G) (cd := cdv) (B__law_draw S G) (B__law_pick S G) hX c)
theorem B__law_same (S : RH.Says fs fn ls C.K h) (G : h.Ns mainGlobals mg) : Fun prg w C mg base 1 "_law_same" 2 (toF F__law_same) := by
  obtain ⟨⟨fd, F⟩, kp⟩ := S.fd 19 rfl
  exact mkF (N := N__law_same) (ps := ["told", "due"]) (He.glo_ok S.kin G (S.at 59 rfl)) kp F sc__law_same rfl (fun _ _ _ _ _ _ us hl => match us, hl with | [_, _], _ => rfl) (fun A out s H E cdv X hc hX c => r__law_same (facts_of rfl S G) (cd := cdv) hX c)
theorem B__law_is_integer (S : RH.Says fs fn ls C.K h) (G : h.Ns mainGlobals mg) : Fun prg w C mg base 1 "_law_is_integer" 1 (toF F__law_is_integer) := by
  obtain ⟨⟨fd, F⟩, kp⟩ := S.fd 20 rfl
  exact mkF (N := N__law_is_integer) (ps := ["thing"]) (He.glo_ok S.kin G (S.at 60 rfl)) kp F sc__law_is_integer rfl (fun _ _ _ _ _ _ us hl => match us, hl with | [_], _ => rfl) (fun A out s H E cdv X hc hX c => r__law_is_integer (facts_of rfl S G) (cd := cdv) hX c)
theorem B__law_is_number (S : RH.Says fs fn ls C.K h) (G : h.Ns mainGlobals mg) : Fun prg w C mg base 2 "_law_is_number" 1 (toF F__law_is_number) := by
  obtain ⟨⟨fd, F⟩, kp⟩ := S.fd 21 rfl
  exact mkF (N := N__law_is_number) (ps := ["thing"]) (He.glo_ok S.kin G (S.at 61 rfl)) kp F sc__law_is_number rfl (fun _ _ _ _ _ _ us hl => match us, hl with | [_], _ => rfl) (fun A out s H E cdv X hc hX c => r__law_is_number (facts_of rfl S G) (cd := cdv) (B__law_is_integer S G) hX c)
theorem B__law_is_word (S : RH.Says fs fn ls C.K h) (G : h.Ns mainGlobals mg) : Fun prg w C mg base 1 "_law_is_word" 1 (toF F__law_is_word) := by
  obtain ⟨⟨fd, F⟩, kp⟩ := S.fd 22 rfl
  exact mkF (N := N__law_is_word) (ps := ["thing"]) (He.glo_ok S.kin G (S.at 62 rfl)) kp F sc__law_is_word rfl (fun _ _ _ _ _ _ us hl => match us, hl with | [_], _ => rfl) (fun A out s H E cdv X hc hX c => r__law_is_word (facts_of rfl S G) (cd := cdv) hX c)
theorem B__law_machine (S : RH.Says fs fn ls C.K h) (G : h.Ns mainGlobals mg) : Fun prg w C mg base 3 "_law_machine" 2 (toF F__law_machine) := by
  obtain ⟨⟨fd, F⟩, kp⟩ := S.fd 23 rfl
  exact mkF (N := N__law_machine) (ps := ["deck", "most"]) (He.glo_ok S.kin G (S.at 63 rfl)) kp F sc__law_machine rfl (fun _ _ _ _ _ _ us hl => match us, hl with | [_, _], _ => rfl) (fun A out s H E cdv X hc hX c => r__law_machine (facts_of rfl S G) (cd := cdv) (B__law_draw S G) (B__law_pick S G) hX c)
theorem B__law_is_machine (S : RH.Says fs fn ls C.K h) (G : h.Ns mainGlobals mg) : Fun prg w C mg base 3 "_law_is_machine" 1 (toF F__law_is_machine) := by
  obtain ⟨⟨fd, F⟩, kp⟩ := S.fd 24 rfl
  exact mkF (N := N__law_is_machine) (ps := ["thing"]) (He.glo_ok S.kin G (S.at 64 rfl)) kp F sc__law_is_machine rfl (fun _ _ _ _ _ _ us hl => match us, hl with | [_], _ => rfl) (fun A out s H E cdv X hc hX c => r__law_is_machine (facts_of rfl S G) (cd := cdv) (B__law_is_number S G) hX c)
theorem B__law_bent_at (S : RH.Says fs fn ls C.K h) (G : h.Ns mainGlobals mg) : ∀ j : Nat, Fun prg w C mg base (2 + j) "_law_bent" 3 (toF (F__law_bent j))
  | 0 => by
    obtain ⟨⟨fd, F⟩, kp⟩ := S.fd 25 rfl
    exact badFun (ps := ["deck", "thing", "odd"]) (He.glo_ok S.kin G (S.at 65 rfl)) kp F (fun _ _ _ _ _ _ us hl => match us, hl with | [_, _, _], _ => rfl)
  | j + 1 => by
    have ih := B__law_bent_at S G j
    obtain ⟨⟨fd, F⟩, kp⟩ := S.fd 25 rfl
    exact mkF (N := N__law_bent) (ps := ["deck", "thing", "odd"]) (He.glo_ok S.kin G (S.at 65 rfl)) kp F sc__law_bent rfl (fun _ _ _ _ _ _ us hl => match us, hl with | [_, _, _], _ => rfl) (fun A out s H E cdv X hc hX c => r__law_bent (facts_of rfl S G) (cd := cdv) (B__law_draw S G) (B__law_pick S G) ih hX c)
theorem B__law_bent (S : RH.Says fs fn ls C.K h) (G : h.Ns mainGlobals mg) : Fun prg w C mg base 22 "_law_bent" 3 (toF (F__law_bent 20)) := B__law_bent_at S G 20
theorem B__law_pile_step (S : RH.Says fs fn ls C.K h) (G : h.Ns mainGlobals mg) : Fun prg w C mg base 1 "_law_pile_step" 2 (toF F__law_pile_step) := by
  obtain ⟨⟨fd, F⟩, kp⟩ := S.fd 26 rfl
  exact mkF (N := N__law_pile_step) (ps := ["machine", "standing"]) (He.glo_ok S.kin G (S.at 66 rfl)) kp F sc__law_pile_step rfl (fun _ _ _ _ _ _ us hl => match us, hl with | [_, _], _ => rfl) (fun A out s H E cdv X hc hX c => r__law_pile_step (facts_of rfl S G) (cd := cdv) hX c)
theorem B__law_after (S : RH.Says fs fn ls C.K h) (G : h.Ns mainGlobals mg) : Fun prg w C mg base 2 "_law_after" 3 (toF F__law_after) := by
  obtain ⟨⟨fd, F⟩, kp⟩ := S.fd 27 rfl
  exact mkF (N := N__law_after) (ps := ["machine", "standing", "many"]) (He.glo_ok S.kin G (S.at 67 rfl)) kp F sc__law_after rfl (fun _ _ _ _ _ _ us hl => match us, hl with | [_, _, _], _ => rfl) (fun A out s H E cdv X hc hX c => r__law_after (facts_of rfl S G) (cd := cdv) (B__law_pile_step S G) hX c)
theorem B__law_odd (S : RH.Says fs fn ls C.K h) (G : h.Ns mainGlobals mg) : Fun prg w C mg base 1 "_law_odd" 0 (toF F__law_odd) := by
  obtain ⟨⟨fd, F⟩, kp⟩ := S.fd 28 rfl
  exact mkF (N := N__law_odd) (ps := []) (He.glo_ok S.kin G (S.at 68 rfl)) kp F sc__law_odd rfl (fun _ _ _ _ _ _ us hl => match us, hl with | [], _ => rfl) (fun A out s H E cdv X hc hX c => r__law_odd (facts_of rfl S G) (cd := cdv) hX c)
end
theorem tried_is {w : World} {C : Cfg} {mg : Str → Option Value} {base h : Heap} (S : RH.Says fs fn ls C.K h) (G : h.Ns mainGlobals mg) : Tried prg w C mg base "_law_tried" "call" st__law_tried N__law_tried 23 (btN tr) w__law_tried := by
  obtain ⟨⟨fd, F⟩, kp⟩ := S.fd 29 rfl
  exact {
    g := He.glo_ok S.kin G (S.at 69 rfl)
    kp := kp
    ex := ⟨fd, _, _, F, FunD.bindsN F fun _ _ _ _ _ _ us hl => match us, hl with | [_], _ => rfl⟩
    sc := sc__law_tried
    va := by first | exact .inl rfl | exact .inr (.inl rfl) | exact .inr (.inr rfl)
    mbt := btN.mo
    bg := fun C' Z cdv A out s H f wA hZ hK m act g r => r__law_tried (facts_of rfl S G) hZ hK act g r
    bt := bt_ok }
theorem law_is (w : World) (K : Frag) (h : Heap) (mg : Str → Option Value) (fa : Addr) (S : RH.Says fs fn ls K h) (G : h.Ns mainGlobals mg) (hmg : mg "law" = some (.ref fa))
    (rest_ok : ∀ (a : Addr) (n : Nat × Nat), M.sat n ((f_law tr) ((slots 11 [.ref a]).set 1 (some (.val (.loc n.1))))) fun o => o = .rt (.bl true)) :
    LawG prg w K mg h fa 25 63 "script" [(RH.codeAd K "law", RH.tabAd K "law")] [(RH.tabAd K "law", (("law" : Str) ++ ".<locals>.") ++ "<lambda>")] (fun C ps hp e Q => ∃ a ns, ps = [.ref a] ∧ (a, ns) ∈ C.scr ∧ ∀ hp', Q (.bl true) hp') := by
  obtain ⟨⟨fd, F⟩, kp⟩ := S.fd 30 rfl
  obtain ⟨t1, t2, t3⟩ := S.tab "law" (List.mem_singleton.mpr rfl)
  have e := hmg.symm.trans (He.glo_ok S.kin G (S.at 70 rfl))
  cases e
  refine ⟨fun p hp => ?_, fun p hp => ?_, fun p hp => ?_, fun p hp => ?_, ?_, fun a ns hl Q q => ⟨a, ns, rfl, List.mem_singleton.mpr rfl, q⟩⟩
  · cases List.mem_singleton.mp hp; exact t1
  · cases List.mem_singleton.mp hp; exact t2
  · cases List.mem_singleton.mp hp; exact t3
  · cases List.mem_singleton.mp hp; exact List.mem_singleton.mpr rfl
  · have b := FunD.bindsA (ps := ["script"]) F fun _ _ _ _ _ _ us hl => match us, hl with | [_], _ => rfl
    refine ⟨fd, fun s v => b s [v] rfl, fun base a ns hin hns tb => ?_⟩
    have TB := tb _ (List.mem_singleton.mpr rfl)
    have S1 : RH.Says fs fn ls (Cfg.mk K [(RH.tabAd K "law", (("law" : Str) ++ ".<locals>.") ++ "<lambda>")] [] [] [] [(a, ns)]).K h := S
    refine (fnN (C := Cfg.mk K [(RH.tabAd K "law", (("law" : Str) ++ ".<locals>.") ++ "<lambda>")] [] [] [] [(a, ns)]) (N := N_law) (ps := ["script"]) (k := 24) (n := 1) F sc_law rfl fun A out s H E cdv X hc hX c => ?_).weak (f1 := wFunN 11 (wnSeq (wnAsg 1 (wCall (sDeck (Cfg.mk K [(RH.tabAd K "law", (("law" : Str) ++ ".<locals>.") ++ "<lambda>")] [] [] [] [(a, ns)])) (wArgs 1 (wCons (wVar 0) wNil)))) (toN (f_law tr)))) (fun qs hp e Q q => ?_)
    · exact r_law tr (facts_of rfl S1 G) (B_pile_step S1 G) (B_standing_after S1 G) (K_standing_after S1 G) (B__law_deck S1 G) (B__law_draw S1 G) (B__law_pick S1 G) (B__law_word S1 G) (B__law_same S1 G) (B__law_is_number S1 G) (B__law_is_word S1 G) (B__law_machine S1 G) (B__law_is_machine S1 G) (B__law_bent S1 G) (B__law_pile_step S1 G) (B__law_after S1 G) (B__law_odd S1 G) (tried_is S1 G) TB hc rfl hX c
    · obtain ⟨a', ns', rfl, hm, hQ⟩ := q
      exact law_restE (rest := (f_law tr)) hm (by decide) (rest_ok a') Q hQ
end K89

set_option Elab.async false
set_option linter.all false
set_option maxRecDepth 100000
set_option maxHeartbeats 1000000
/-! plain side 1: machines, standings, words: what is one. -/
namespace K89
open PySem PySem.Spec L2 RF
theorem is_integer_eq {p : PV} (h : lf p = true) : F_is_integer [p] = M.ret (.bl (match p with | .int _ => true | _ => false)) := by
  cases p <;> first | (simp [lf] at h; done) | simp [F_is_integer, f_is_integer, bodyF, slots, fSeq, fIf, fRet, fRetN, fAsg, fDo, fPass, fCnt, fBrk, fPar, fAM, setItS, fOwn, fmL, fmFn, fVar, fC, fOp, fUn, fCmp, fCmpT, fCh, fChT, fTru, truF, fNotT, fAndT, fOrT, fNotV, fAndV, fOrV, fIfE, fNil, fCons, fTup, fLst, fFn, f1, f2, fIsi, isiF, fSl, fNoO, fSmO, slF, fCall, fCallK, fMt, isStrB, fIt, itF, fRg1, fRg2, lenF, listF, tupleF, seqF, fRaise, M.ret_bind, M.raise_bind, M.bad_bind, M.ofO_some, M.ofO_none, M.ne_ret, M.ne_raise, M.ite_bind, M.bind_assoc, bor, rel, lck, Tg.goS, setAllS, Tg.go, setAll, wpI, pick, ixF, ixS, addF, negF, ltF, leF, gtF, geF, ciF, List.map_cons, List.map_nil, List.length_cons, List.length_nil, List.set_cons_zero, List.set_cons_succ, List.set_nil, List.getElem?_cons_zero, List.getElem?_cons_succ, List.replicate, List.cons_append, List.nil_append, Option.join_some, Option.join_none, Option.map_some, Option.map_none, Option.bind_some, Option.bind_none]
def isNum (p : PV) (m : Int) : Bool := match p with
  | .int i => decide (0 ≤ i) && decide (i ≤ m)
  | _ => false
theorem is_between_eq {p : PV} (h : lf p = true) (m : Int) : F_is_between [p, .int 0, .int m] = M.ret (.bl (isNum p m)) := by
  cases p <;> first | (simp [lf] at h; done) | skip
  case int i =>
    by_cases h0 : 0 ≤ i
    · simp [F_is_between, f_is_between, is_integer_eq h, isNum, h0, bodyF, slots, fSeq, fIf, fRet, fRetN, fAsg, fDo, fPass, fCnt, fBrk, fPar, fAM, setItS, fOwn, fmL, fmFn, fVar, fC, fOp, fUn, fCmp, fCmpT, fCh, fChT, fTru, truF, fNotT, fAndT, fOrT, fNotV, fAndV, fOrV, fIfE, fNil, fCons, fTup, fLst, fFn, f1, f2, fIsi, isiF, fSl, fNoO, fSmO, slF, fCall, fCallK, fMt, isStrB, fIt, itF, fRg1, fRg2, lenF, listF, tupleF, seqF, fRaise, M.ret_bind, M.raise_bind, M.bad_bind, M.ofO_some, M.ofO_none, M.ne_ret, M.ne_raise, M.ite_bind, M.bind_assoc, bor, rel, lck, Tg.goS, setAllS, Tg.go, setAll, wpI, pick, ixF, ixS, addF, negF, ltF, leF, gtF, geF, ciF, List.map_cons, List.map_nil, List.length_cons, List.length_nil, List.set_cons_zero, List.set_cons_succ, List.set_nil, List.getElem?_cons_zero, List.getElem?_cons_succ, List.replicate, List.cons_append, List.nil_append, Option.join_some, Option.join_none, Option.map_some, Option.map_none, Option.bind_some, Option.bind_none]
    · simp [F_is_between, f_is_between, is_integer_eq h, isNum, h0, bodyF, slots, fSeq, fIf, fRet, fRetN, fAsg, fDo, fPass, fCnt, fBrk, fPar, fAM, setItS, fOwn, fmL, fmFn, fVar, fC, fOp, fUn, fCmp, fCmpT, fCh, fChT, fTru, truF, fNotT, fAndT, fOrT, fNotV, fAndV, fOrV, fIfE, fNil, fCons, fTup, fLst, fFn, f1, f2, fIsi, isiF, fSl, fNoO, fSmO, slF, fCall, fCallK, fMt, isStrB, fIt, itF, fRg1, fRg2, lenF, listF, tupleF, seqF, fRaise, M.ret_bind, M.raise_bind, M.bad_bind, M.ofO_some, M.ofO_none, M.ne_ret, M.ne_raise, M.ite_bind, M.bind_assoc, bor, rel, lck, Tg.goS, setAllS, Tg.go, setAll, wpI, pick, ixF, ixS, addF, negF, ltF, leF, gtF, geF, ciF, List.map_cons, List.map_nil, List.length_cons, List.length_nil, List.set_cons_zero, List.set_cons_succ, List.set_nil, List.getElem?_cons_zero, List.getElem?_cons_succ, List.replicate, List.cons_append, List.nil_append, Option.join_some, Option.join_none, Option.map_some, Option.map_none, Option.bind_some, Option.bind_none]
  all_goals simp [F_is_between, f_is_between, is_integer_eq h, isNum, bodyF, slots, fSeq, fIf, fRet, fRetN, fAsg, fDo, fPass, fCnt, fBrk, fPar, fAM, setItS, fOwn, fmL, fmFn, fVar, fC, fOp, fUn, fCmp, fCmpT, fCh, fChT, fTru, truF, fNotT, fAndT, fOrT, fNotV, fAndV, fOrV, fIfE, fNil, fCons, fTup, fLst, fFn, f1, f2, fIsi, isiF, fSl, fNoO, fSmO, slF, fCall, fCallK, fMt, isStrB, fIt, itF, fRg1, fRg2, lenF, listF, tupleF, seqF, fRaise, M.ret_bind, M.raise_bind, M.bad_bind, M.ofO_some, M.ofO_none, M.ne_ret, M.ne_raise, M.ite_bind, M.bind_assoc, bor, rel, lck, Tg.goS, setAllS, Tg.go, setAll, wpI, pick, ixF, ixS, addF, negF, ltF, leF, gtF, geF, ciF, List.map_cons, List.map_nil, List.length_cons, List.length_nil, List.set_cons_zero, List.set_cons_succ, List.set_nil, List.getElem?_cons_zero, List.getElem?_cons_succ, List.replicate, List.cons_append, List.nil_append, Option.join_some, Option.join_none, Option.map_some, Option.map_none, Option.bind_some, Option.bind_none]
def deeds : List Str := ["stay", "put0", "put1", "cut", "over", "back"]
theorem inF_deeds {p : PV} (h : lf p = true) : inF p (.tup [.str "stay", .str "put0", .str "put1", .str "cut", .str "over", .str "back"]) = some (isOne p deeds) := inF_strs h deeds
theorem inF_signs {p : PV} (h : lf p = true) : inF p (.tup [.str "0", .str "1"]) = some (isOne p ["0", "1"]) := inF_strs h ["0", "1"]
theorem atI0 {α : Type} (a : α) (l : List α) : atI (a :: l) 0 = some a := by
  have := atI_nat (a :: l) 0 (by simp)
  simpa using this
theorem atI1 {α : Type} (a b : α) (l : List α) : atI (a :: b :: l) 1 = some b := by
  have := atI_nat (a :: b :: l) 1 (by simp)
  simpa using this
theorem atI2 {α : Type} (a b c : α) (l : List α) : atI (a :: b :: c :: l) 2 = some c := by
  have := atI_nat (a :: b :: c :: l) 2 (by simp)
  simpa using this
theorem lf2 {a b : PV} (h : lf (.tup [a, b]) = true) : lf a = true ∧ lf b = true := by
  simpa [lf, lfs] using h
theorem lf3 {a b c : PV} (h : lf (.tup [a, b, c]) = true) : lf a = true ∧ lf b = true ∧ lf c = true := by
  simpa [lf, lfs] using h
def isRule (m : Int) (p : PV) : Bool := match p with
  | .tup [a, b] => isNum a m && isOne b deeds
  | _ => false
theorem is_rule_eq {p : PV} (h : lf p = true) (m : Int) : F_is_rule [p, .int m] = M.ret (.bl (isRule m p)) := by
  cases p <;> first | (simp [lf] at h; done) | skip
  case tup ps =>
    match ps, h with
    | [], h => simp [F_is_rule, f_is_rule, isRule, neF_int, bodyF, slots, fSeq, fIf, fRet, fRetN, fAsg, fDo, fPass, fCnt, fBrk, fPar, fAM, setItS, fOwn, fmL, fmFn, fVar, fC, fOp, fUn, fCmp, fCmpT, fCh, fChT, fTru, truF, fNotT, fAndT, fOrT, fNotV, fAndV, fOrV, fIfE, fNil, fCons, fTup, fLst, fFn, f1, f2, fIsi, isiF, fSl, fNoO, fSmO, slF, fCall, fCallK, fMt, isStrB, fIt, itF, fRg1, fRg2, lenF, listF, tupleF, seqF, fRaise, M.ret_bind, M.raise_bind, M.bad_bind, M.ofO_some, M.ofO_none, M.ne_ret, M.ne_raise, M.ite_bind, M.bind_assoc, bor, rel, lck, Tg.goS, setAllS, Tg.go, setAll, wpI, pick, ixF, ixS, addF, negF, ltF, leF, gtF, geF, ciF, List.map_cons, List.map_nil, List.length_cons, List.length_nil, List.set_cons_zero, List.set_cons_succ, List.set_nil, List.getElem?_cons_zero, List.getElem?_cons_succ, List.replicate, List.cons_append, List.nil_append, Option.join_some, Option.join_none, Option.map_some, Option.map_none, Option.bind_some, Option.bind_none]
    | [a], h => simp [F_is_rule, f_is_rule, isRule, neF_int, bodyF, slots, fSeq, fIf, fRet, fRetN, fAsg, fDo, fPass, fCnt, fBrk, fPar, fAM, setItS, fOwn, fmL, fmFn, fVar, fC, fOp, fUn, fCmp, fCmpT, fCh, fChT, fTru, truF, fNotT, fAndT, fOrT, fNotV, fAndV, fOrV, fIfE, fNil, fCons, fTup, fLst, fFn, f1, f2, fIsi, isiF, fSl, fNoO, fSmO, slF, fCall, fCallK, fMt, isStrB, fIt, itF, fRg1, fRg2, lenF, listF, tupleF, seqF, fRaise, M.ret_bind, M.raise_bind, M.bad_bind, M.ofO_some, M.ofO_none, M.ne_ret, M.ne_raise, M.ite_bind, M.bind_assoc, bor, rel, lck, Tg.goS, setAllS, Tg.go, setAll, wpI, pick, ixF, ixS, addF, negF, ltF, leF, gtF, geF, ciF, List.map_cons, List.map_nil, List.length_cons, List.length_nil, List.set_cons_zero, List.set_cons_succ, List.set_nil, List.getElem?_cons_zero, List.getElem?_cons_succ, List.replicate, List.cons_append, List.nil_append, Option.join_some, Option.join_none, Option.map_some, Option.map_none, Option.bind_some, Option.bind_none]
    | [a, b], h =>
      cases e : isNum a m <;> simp [F_is_rule, f_is_rule, isRule, neF_int, atI0, atI1, is_between_eq (lf2 h).1, inF_deeds (lf2 h).2, e, bodyF, slots, fSeq, fIf, fRet, fRetN, fAsg, fDo, fPass, fCnt, fBrk, fPar, fAM, setItS, fOwn, fmL, fmFn, fVar, fC, fOp, fUn, fCmp, fCmpT, fCh, fChT, fTru, truF, fNotT, fAndT, fOrT, fNotV, fAndV, fOrV, fIfE, fNil, fCons, fTup, fLst, fFn, f1, f2, fIsi, isiF, fSl, fNoO, fSmO, slF, fCall, fCallK, fMt, isStrB, fIt, itF, fRg1, fRg2, lenF, listF, tupleF, seqF, fRaise, M.ret_bind, M.raise_bind, M.bad_bind, M.ofO_some, M.ofO_none, M.ne_ret, M.ne_raise, M.ite_bind, M.bind_assoc, bor, rel, lck, Tg.goS, setAllS, Tg.go, setAll, wpI, pick, ixF, ixS, addF, negF, ltF, leF, gtF, geF, ciF, List.map_cons, List.map_nil, List.length_cons, List.length_nil, List.set_cons_zero, List.set_cons_succ, List.set_nil, List.getElem?_cons_zero, List.getElem?_cons_succ, List.replicate, List.cons_append, List.nil_append, Option.join_some, Option.join_none, Option.map_some, Option.map_none, Option.bind_some, Option.bind_none]
    | a :: b :: c :: r, h =>
      have e : ¬ ((r.length : Int) + 1 + 1 + 1 = 2) := by omega
      simp [F_is_rule, f_is_rule, isRule, neF_int, e, bodyF, slots, fSeq, fIf, fRet, fRetN, fAsg, fDo, fPass, fCnt, fBrk, fPar, fAM, setItS, fOwn, fmL, fmFn, fVar, fC, fOp, fUn, fCmp, fCmpT, fCh, fChT, fTru, truF, fNotT, fAndT, fOrT, fNotV, fAndV, fOrV, fIfE, fNil, fCons, fTup, fLst, fFn, f1, f2, fIsi, isiF, fSl, fNoO, fSmO, slF, fCall, fCallK, fMt, isStrB, fIt, itF, fRg1, fRg2, lenF, listF, tupleF, seqF, fRaise, M.ret_bind, M.raise_bind, M.bad_bind, M.ofO_some, M.ofO_none, M.ne_ret, M.ne_raise, M.ite_bind, M.bind_assoc, bor, rel, lck, Tg.goS, setAllS, Tg.go, setAll, wpI, pick, ixF, ixS, addF, negF, ltF, leF, gtF, geF, ciF, List.map_cons, List.map_nil, List.length_cons, List.length_nil, List.set_cons_zero, List.set_cons_succ, List.set_nil, List.getElem?_cons_zero, List.getElem?_cons_succ, List.replicate, List.cons_append, List.nil_append, Option.join_some, Option.join_none, Option.map_some, Option.map_none, Option.bind_some, Option.bind_none]
  all_goals simp [F_is_rule, f_is_rule, isRule, bodyF, slots, fSeq, fIf, fRet, fRetN, fAsg, fDo, fPass, fCnt, fBrk, fPar, fAM, setItS, fOwn, fmL, fmFn, fVar, fC, fOp, fUn, fCmp, fCmpT, fCh, fChT, fTru, truF, fNotT, fAndT, fOrT, fNotV, fAndV, fOrV, fIfE, fNil, fCons, fTup, fLst, fFn, f1, f2, fIsi, isiF, fSl, fNoO, fSmO, slF, fCall, fCallK, fMt, isStrB, fIt, itF, fRg1, fRg2, lenF, listF, tupleF, seqF, fRaise, M.ret_bind, M.raise_bind, M.bad_bind, M.ofO_some, M.ofO_none, M.ne_ret, M.ne_raise, M.ite_bind, M.bind_assoc, bor, rel, lck, Tg.goS, setAllS, Tg.go, setAll, wpI, pick, ixF, ixS, addF, negF, ltF, leF, gtF, geF, ciF, List.map_cons, List.map_nil, List.length_cons, List.length_nil, List.set_cons_zero, List.set_cons_succ, List.set_nil, List.getElem?_cons_zero, List.getElem?_cons_succ, List.replicate, List.cons_append, List.nil_append, Option.join_some, Option.join_none, Option.map_some, Option.map_none, Option.bind_some, Option.bind_none]
def isState (m : Int) (p : PV) : Bool := match p with
  | .tup ps => decide (ps.length = 3) && ps.all (isRule m)
  | _ => false
theorem is_state_eq {p : PV} (h : lf p = true) (m : Int) : F_is_state [p, .int m] = M.ret (.bl (isState m p)) := by
  cases p <;> first | (simp [lf] at h; done) | skip
  case tup ps =>
    have hs := lfs_all (by simpa only [lf] using h : lfs ps = true)
    have key : compF (.nm 2) fYes (fCall 2 F_is_rule (fCons (fVar 2) (fCons (fVar 1) fNil))) [some (.tup ps), some (.int m), none] ps [] = M.ret (ps.map fun p => .bl (isRule m p)) := by
      rw [compF_map (fun p => .bl (isRule m p))]
      · rfl
      · intro p mp
        refine ⟨_, rfl, ?_⟩
        simp [is_rule_eq (hs p mp), bodyF, slots, fSeq, fIf, fRet, fRetN, fAsg, fDo, fPass, fCnt, fBrk, fPar, fAM, setItS, fOwn, fmL, fmFn, fVar, fC, fOp, fUn, fCmp, fCmpT, fCh, fChT, fTru, truF, fNotT, fAndT, fOrT, fNotV, fAndV, fOrV, fIfE, fNil, fCons, fTup, fLst, fFn, f1, f2, fIsi, isiF, fSl, fNoO, fSmO, slF, fCall, fCallK, fMt, isStrB, fIt, itF, fRg1, fRg2, lenF, listF, tupleF, seqF, fRaise, M.ret_bind, M.raise_bind, M.bad_bind, M.ofO_some, M.ofO_none, M.ne_ret, M.ne_raise, M.ite_bind, M.bind_assoc, bor, rel, lck, Tg.goS, setAllS, Tg.go, setAll, wpI, pick, ixF, ixS, addF, negF, ltF, leF, gtF, geF, ciF, List.map_cons, List.map_nil, List.length_cons, List.length_nil, List.set_cons_zero, List.set_cons_succ, List.set_nil, List.getElem?_cons_zero, List.getElem?_cons_succ, List.replicate, List.cons_append, List.nil_append, Option.join_some, Option.join_none, Option.map_some, Option.map_none, Option.bind_some, Option.bind_none]
    by_cases e : ps.length = 3
    · simp [F_is_state, f_is_state, isState, fLc, key, allF_map, eqF_int, e, bodyF, slots, fSeq, fIf, fRet, fRetN, fAsg, fDo, fPass, fCnt, fBrk, fPar, fAM, setItS, fOwn, fmL, fmFn, fVar, fC, fOp, fUn, fCmp, fCmpT, fCh, fChT, fTru, truF, fNotT, fAndT, fOrT, fNotV, fAndV, fOrV, fIfE, fNil, fCons, fTup, fLst, fFn, f1, f2, fIsi, isiF, fSl, fNoO, fSmO, slF, fCall, fCallK, fMt, isStrB, fIt, itF, fRg1, fRg2, lenF, listF, tupleF, seqF, fRaise, M.ret_bind, M.raise_bind, M.bad_bind, M.ofO_some, M.ofO_none, M.ne_ret, M.ne_raise, M.ite_bind, M.bind_assoc, bor, rel, lck, Tg.goS, setAllS, Tg.go, setAll, wpI, pick, ixF, ixS, addF, negF, ltF, leF, gtF, geF, ciF, List.map_cons, List.map_nil, List.length_cons, List.length_nil, List.set_cons_zero, List.set_cons_succ, List.set_nil, List.getElem?_cons_zero, List.getElem?_cons_succ, List.replicate, List.cons_append, List.nil_append, Option.join_some, Option.join_none, Option.map_some, Option.map_none, Option.bind_some, Option.bind_none]
    · have e' : ((ps.length : Int) == 3) = false := beq_eq_false_iff_ne.mpr (by omega)
      simp [F_is_state, f_is_state, isState, fLc, key, allF_map, eqF_int, e, e', bodyF, slots, fSeq, fIf, fRet, fRetN, fAsg, fDo, fPass, fCnt, fBrk, fPar, fAM, setItS, fOwn, fmL, fmFn, fVar, fC, fOp, fUn, fCmp, fCmpT, fCh, fChT, fTru, truF, fNotT, fAndT, fOrT, fNotV, fAndV, fOrV, fIfE, fNil, fCons, fTup, fLst, fFn, f1, f2, fIsi, isiF, fSl, fNoO, fSmO, slF, fCall, fCallK, fMt, isStrB, fIt, itF, fRg1, fRg2, lenF, listF, tupleF, seqF, fRaise, M.ret_bind, M.raise_bind, M.bad_bind, M.ofO_some, M.ofO_none, M.ne_ret, M.ne_raise, M.ite_bind, M.bind_assoc, bor, rel, lck, Tg.goS, setAllS, Tg.go, setAll, wpI, pick, ixF, ixS, addF, negF, ltF, leF, gtF, geF, ciF, List.map_cons, List.map_nil, List.length_cons, List.length_nil, List.set_cons_zero, List.set_cons_succ, List.set_nil, List.getElem?_cons_zero, List.getElem?_cons_succ, List.replicate, List.cons_append, List.nil_append, Option.join_some, Option.join_none, Option.map_some, Option.map_none, Option.bind_some, Option.bind_none]
  all_goals simp [F_is_state, f_is_state, isState, bodyF, slots, fSeq, fIf, fRet, fRetN, fAsg, fDo, fPass, fCnt, fBrk, fPar, fAM, setItS, fOwn, fmL, fmFn, fVar, fC, fOp, fUn, fCmp, fCmpT, fCh, fChT, fTru, truF, fNotT, fAndT, fOrT, fNotV, fAndV, fOrV, fIfE, fNil, fCons, fTup, fLst, fFn, f1, f2, fIsi, isiF, fSl, fNoO, fSmO, slF, fCall, fCallK, fMt, isStrB, fIt, itF, fRg1, fRg2, lenF, listF, tupleF, seqF, fRaise, M.ret_bind, M.raise_bind, M.bad_bind, M.ofO_some, M.ofO_none, M.ne_ret, M.ne_raise, M.ite_bind, M.bind_assoc, bor, rel, lck, Tg.goS, setAllS, Tg.go, setAll, wpI, pick, ixF, ixS, addF, negF, ltF, leF, gtF, geF, ciF, List.map_cons, List.map_nil, List.length_cons, List.length_nil, List.set_cons_zero, List.set_cons_succ, List.set_nil, List.getElem?_cons_zero, List.getElem?_cons_succ, List.replicate, List.cons_append, List.nil_append, Option.join_some, Option.join_none, Option.map_some, Option.map_none, Option.bind_some, Option.bind_none]
def isMach (p : PV) : Bool := match p with
  | .tup ps => !ps.isEmpty && ps.all (isState ps.length)
  | _ => false
theorem is_machine_eq {p : PV} (h : lf p = true) : F_is_machine [p] = M.ret (.bl (isMach p)) := by
  cases p <;> first | (simp [lf] at h; done) | skip
  case tup ps =>
    have hs := lfs_all (by simpa only [lf] using h : lfs ps = true)
    have key : compF (.nm 1) fYes (fCall 2 F_is_state (fCons (fVar 1) (fCons (fFn (f1 lenF) (fCons (fVar 0) fNil)) fNil))) [some (.tup ps), none] ps [] = M.ret (ps.map fun p => .bl (isState ps.length p)) := by
      rw [compF_map (fun p => .bl (isState ps.length p))]
      · rfl
      · intro p mp
        refine ⟨_, rfl, ?_⟩
        simp [is_state_eq (hs p mp), bodyF, slots, fSeq, fIf, fRet, fRetN, fAsg, fDo, fPass, fCnt, fBrk, fPar, fAM, setItS, fOwn, fmL, fmFn, fVar, fC, fOp, fUn, fCmp, fCmpT, fCh, fChT, fTru, truF, fNotT, fAndT, fOrT, fNotV, fAndV, fOrV, fIfE, fNil, fCons, fTup, fLst, fFn, f1, f2, fIsi, isiF, fSl, fNoO, fSmO, slF, fCall, fCallK, fMt, isStrB, fIt, itF, fRg1, fRg2, lenF, listF, tupleF, seqF, fRaise, M.ret_bind, M.raise_bind, M.bad_bind, M.ofO_some, M.ofO_none, M.ne_ret, M.ne_raise, M.ite_bind, M.bind_assoc, bor, rel, lck, Tg.goS, setAllS, Tg.go, setAll, wpI, pick, ixF, ixS, addF, negF, ltF, leF, gtF, geF, ciF, List.map_cons, List.map_nil, List.length_cons, List.length_nil, List.set_cons_zero, List.set_cons_succ, List.set_nil, List.getElem?_cons_zero, List.getElem?_cons_succ, List.replicate, List.cons_append, List.nil_append, Option.join_some, Option.join_none, Option.map_some, Option.map_none, Option.bind_some, Option.bind_none]
    by_cases e : ps = []
    · subst e; simp [F_is_machine, f_is_machine, isMach, bodyF, slots, fSeq, fIf, fRet, fRetN, fAsg, fDo, fPass, fCnt, fBrk, fPar, fAM, setItS, fOwn, fmL, fmFn, fVar, fC, fOp, fUn, fCmp, fCmpT, fCh, fChT, fTru, truF, fNotT, fAndT, fOrT, fNotV, fAndV, fOrV, fIfE, fNil, fCons, fTup, fLst, fFn, f1, f2, fIsi, isiF, fSl, fNoO, fSmO, slF, fCall, fCallK, fMt, isStrB, fIt, itF, fRg1, fRg2, lenF, listF, tupleF, seqF, fRaise, M.ret_bind, M.raise_bind, M.bad_bind, M.ofO_some, M.ofO_none, M.ne_ret, M.ne_raise, M.ite_bind, M.bind_assoc, bor, rel, lck, Tg.goS, setAllS, Tg.go, setAll, wpI, pick, ixF, ixS, addF, negF, ltF, leF, gtF, geF, ciF, List.map_cons, List.map_nil, List.length_cons, List.length_nil, List.set_cons_zero, List.set_cons_succ, List.set_nil, List.getElem?_cons_zero, List.getElem?_cons_succ, List.replicate, List.cons_append, List.nil_append, Option.join_some, Option.join_none, Option.map_some, Option.map_none, Option.bind_some, Option.bind_none]
    · have e1 : (0 : Int) < (ps.length : Int) := by have := List.length_pos_iff.mpr e; omega
      have e2 : ps.isEmpty = false := by cases ps <;> first | rfl | exact absurd rfl e
      simp [F_is_machine, f_is_machine, isMach, fLc, key, allF_map, e, e1, e2, bodyF, slots, fSeq, fIf, fRet, fRetN, fAsg, fDo, fPass, fCnt, fBrk, fPar, fAM, setItS, fOwn, fmL, fmFn, fVar, fC, fOp, fUn, fCmp, fCmpT, fCh, fChT, fTru, truF, fNotT, fAndT, fOrT, fNotV, fAndV, fOrV, fIfE, fNil, fCons, fTup, fLst, fFn, f1, f2, fIsi, isiF, fSl, fNoO, fSmO, slF, fCall, fCallK, fMt, isStrB, fIt, itF, fRg1, fRg2, lenF, listF, tupleF, seqF, fRaise, M.ret_bind, M.raise_bind, M.bad_bind, M.ofO_some, M.ofO_none, M.ne_ret, M.ne_raise, M.ite_bind, M.bind_assoc, bor, rel, lck, Tg.goS, setAllS, Tg.go, setAll, wpI, pick, ixF, ixS, addF, negF, ltF, leF, gtF, geF, ciF, List.map_cons, List.map_nil, List.length_cons, List.length_nil, List.set_cons_zero, List.set_cons_succ, List.set_nil, List.getElem?_cons_zero, List.getElem?_cons_succ, List.replicate, List.cons_append, List.nil_append, Option.join_some, Option.join_none, Option.map_some, Option.map_none, Option.bind_some, Option.bind_none]
  all_goals simp [F_is_machine, f_is_machine, isMach, bodyF, slots, fSeq, fIf, fRet, fRetN, fAsg, fDo, fPass, fCnt, fBrk, fPar, fAM, setItS, fOwn, fmL, fmFn, fVar, fC, fOp, fUn, fCmp, fCmpT, fCh, fChT, fTru, truF, fNotT, fAndT, fOrT, fNotV, fAndV, fOrV, fIfE, fNil, fCons, fTup, fLst, fFn, f1, f2, fIsi, isiF, fSl, fNoO, fSmO, slF, fCall, fCallK, fMt, isStrB, fIt, itF, fRg1, fRg2, lenF, listF, tupleF, seqF, fRaise, M.ret_bind, M.raise_bind, M.bad_bind, M.ofO_some, M.ofO_none, M.ne_ret, M.ne_raise, M.ite_bind, M.bind_assoc, bor, rel, lck, Tg.goS, setAllS, Tg.go, setAll, wpI, pick, ixF, ixS, addF, negF, ltF, leF, gtF, geF, ciF, List.map_cons, List.map_nil, List.length_cons, List.length_nil, List.set_cons_zero, List.set_cons_succ, List.set_nil, List.getElem?_cons_zero, List.getElem?_cons_succ, List.replicate, List.cons_append, List.nil_append, Option.join_some, Option.join_none, Option.map_some, Option.map_none, Option.bind_some, Option.bind_none]
theorem need_machine_eq {p : PV} (h : lf p = true) : F_need_machine [p] = if isMach p = true then M.ret .non else M.raise "BadMachine" p := by
  cases e : isMach p <;> simp [F_need_machine, f_need_machine, is_machine_eq h, e, bodyF, slots, fSeq, fIf, fRet, fRetN, fAsg, fDo, fPass, fCnt, fBrk, fPar, fAM, setItS, fOwn, fmL, fmFn, fVar, fC, fOp, fUn, fCmp, fCmpT, fCh, fChT, fTru, truF, fNotT, fAndT, fOrT, fNotV, fAndV, fOrV, fIfE, fNil, fCons, fTup, fLst, fFn, f1, f2, fIsi, isiF, fSl, fNoO, fSmO, slF, fCall, fCallK, fMt, isStrB, fIt, itF, fRg1, fRg2, lenF, listF, tupleF, seqF, fRaise, M.ret_bind, M.raise_bind, M.bad_bind, M.ofO_some, M.ofO_none, M.ne_ret, M.ne_raise, M.ite_bind, M.bind_assoc, bor, rel, lck, Tg.goS, setAllS, Tg.go, setAll, wpI, pick, ixF, ixS, addF, negF, ltF, leF, gtF, geF, ciF, List.map_cons, List.map_nil, List.length_cons, List.length_nil, List.set_cons_zero, List.set_cons_succ, List.set_nil, List.getElem?_cons_zero, List.getElem?_cons_succ, List.replicate, List.cons_append, List.nil_append, Option.join_some, Option.join_none, Option.map_some, Option.map_none, Option.bind_some, Option.bind_none]
/-! words -/
def isB (c : Nat) : Bool := c == 48 || c == 49
theorem isB_iff {c : Nat} : isB c = true ↔ c = 48 ∨ c = 49 := by simp [isB]
theorem s0 : ("0" : Str) = S [48] := by decide +kernel
theorem s1 : ("1" : Str) = S [49] := by decide +kernel
theorem sE : ("" : Str) = S [] := by decide +kernel
theorem one_sign (c : Nat) : isOne (.str (S [c])) ["0", "1"] = isB c := by
  have e : ∀ d : Nat, (S [c] == S [d]) = (c == d) := fun d => by
    by_cases h : c = d
    · subst h; simp
    · rw [beq_eq_false_iff_ne.mpr h, beq_eq_false_iff_ne.mpr fun z => h (by simpa using S_inj z)]
  simp only [isOne, s0, s1, isB, List.contains_cons, List.contains_nil, Bool.or_false, e]
def isW (p : PV) : Bool := match p with
  | .str s => s.cps.toList.all isB
  | _ => false
theorem lf_sign {l : List Nat} (h : lf (.str (S l)) = true) : ∀ c ∈ l, lf (.str (S [c])) = true := by
  intro c m
  simp only [lf, List.all_eq_true] at h ⊢
  intro d md
  have := h c (by simpa using m)
  simp at md
  subst md
  exact this
theorem is_word_value_eq {p : PV} (h : lf p = true) : F_is_word_value [p] = M.ret (.bl (isW p)) := by
  cases p <;> first | (simp [lf] at h; done) | skip
  case str s =>
    obtain ⟨l, rfl⟩ := S_ex s
    have key : compF (.nm 1) fYes (fCmp inF (fVar 1) (fC (.tup [.str "0", .str "1"]))) [some (.str (S l)), none] (signs (S l)) [] = M.ret ((signs (S l)).map fun p => .bl (isOne p ["0", "1"])) := by
      rw [compF_map (fun p => .bl (isOne p ["0", "1"]))]
      · rfl
      · intro p mp
        rw [signs_S] at mp
        obtain ⟨c, mc, rfl⟩ := List.mem_map.mp mp
        refine ⟨_, rfl, ?_⟩
        simp [inF_signs (lf_sign h c mc), bodyF, slots, fSeq, fIf, fRet, fRetN, fAsg, fDo, fPass, fCnt, fBrk, fPar, fAM, setItS, fOwn, fmL, fmFn, fVar, fC, fOp, fUn, fCmp, fCmpT, fCh, fChT, fTru, truF, fNotT, fAndT, fOrT, fNotV, fAndV, fOrV, fIfE, fNil, fCons, fTup, fLst, fFn, f1, f2, fIsi, isiF, fSl, fNoO, fSmO, slF, fCall, fCallK, fMt, isStrB, fIt, itF, fRg1, fRg2, lenF, listF, tupleF, seqF, fRaise, M.ret_bind, M.raise_bind, M.bad_bind, M.ofO_some, M.ofO_none, M.ne_ret, M.ne_raise, M.ite_bind, M.bind_assoc, bor, rel, lck, Tg.goS, setAllS, Tg.go, setAll, wpI, pick, ixF, ixS, addF, negF, ltF, leF, gtF, geF, ciF, List.map_cons, List.map_nil, List.length_cons, List.length_nil, List.set_cons_zero, List.set_cons_succ, List.set_nil, List.getElem?_cons_zero, List.getElem?_cons_succ, List.replicate, List.cons_append, List.nil_append, Option.join_some, Option.join_none, Option.map_some, Option.map_none, Option.bind_some, Option.bind_none]
    have e : ((signs (S l)).all fun p => isOne p ["0", "1"]) = l.all isB := by
      rw [signs_S, List.all_map]
      congr 1
      funext c
      exact one_sign c
    simp [F_is_word_value, f_is_word_value, isW, fLc, key, allF_map, e, bodyF, slots, fSeq, fIf, fRet, fRetN, fAsg, fDo, fPass, fCnt, fBrk, fPar, fAM, setItS, fOwn, fmL, fmFn, fVar, fC, fOp, fUn, fCmp, fCmpT, fCh, fChT, fTru, truF, fNotT, fAndT, fOrT, fNotV, fAndV, fOrV, fIfE, fNil, fCons, fTup, fLst, fFn, f1, f2, fIsi, isiF, fSl, fNoO, fSmO, slF, fCall, fCallK, fMt, isStrB, fIt, itF, fRg1, fRg2, lenF, listF, tupleF, seqF, fRaise, M.ret_bind, M.raise_bind, M.bad_bind, M.ofO_some, M.ofO_none, M.ne_ret, M.ne_raise, M.ite_bind, M.bind_assoc, bor, rel, lck, Tg.goS, setAllS, Tg.go, setAll, wpI, pick, ixF, ixS, addF, negF, ltF, leF, gtF, geF, ciF, List.map_cons, List.map_nil, List.length_cons, List.length_nil, List.set_cons_zero, List.set_cons_succ, List.set_nil, List.getElem?_cons_zero, List.getElem?_cons_succ, List.replicate, List.cons_append, List.nil_append, Option.join_some, Option.join_none, Option.map_some, Option.map_none, Option.bind_some, Option.bind_none]
  all_goals simp [F_is_word_value, f_is_word_value, isW, bodyF, slots, fSeq, fIf, fRet, fRetN, fAsg, fDo, fPass, fCnt, fBrk, fPar, fAM, setItS, fOwn, fmL, fmFn, fVar, fC, fOp, fUn, fCmp, fCmpT, fCh, fChT, fTru, truF, fNotT, fAndT, fOrT, fNotV, fAndV, fOrV, fIfE, fNil, fCons, fTup, fLst, fFn, f1, f2, fIsi, isiF, fSl, fNoO, fSmO, slF, fCall, fCallK, fMt, isStrB, fIt, itF, fRg1, fRg2, lenF, listF, tupleF, seqF, fRaise, M.ret_bind, M.raise_bind, M.bad_bind, M.ofO_some, M.ofO_none, M.ne_ret, M.ne_raise, M.ite_bind, M.bind_assoc, bor, rel, lck, Tg.goS, setAllS, Tg.go, setAll, wpI, pick, ixF, ixS, addF, negF, ltF, leF, gtF, geF, ciF, List.map_cons, List.map_nil, List.length_cons, List.length_nil, List.set_cons_zero, List.set_cons_succ, List.set_nil, List.getElem?_cons_zero, List.getElem?_cons_succ, List.replicate, List.cons_append, List.nil_append, Option.join_some, Option.join_none, Option.map_some, Option.map_none, Option.bind_some, Option.bind_none]
theorem need_word_eq {p : PV} (h : lf p = true) : F_need_word [p] = if isW p = true then M.ret .non else M.raise "BadWord" p := by
  cases e : isW p <;> simp [F_need_word, f_need_word, is_word_value_eq h, e, bodyF, slots, fSeq, fIf, fRet, fRetN, fAsg, fDo, fPass, fCnt, fBrk, fPar, fAM, setItS, fOwn, fmL, fmFn, fVar, fC, fOp, fUn, fCmp, fCmpT, fCh, fChT, fTru, truF, fNotT, fAndT, fOrT, fNotV, fAndV, fOrV, fIfE, fNil, fCons, fTup, fLst, fFn, f1, f2, fIsi, isiF, fSl, fNoO, fSmO, slF, fCall, fCallK, fMt, isStrB, fIt, itF, fRg1, fRg2, lenF, listF, tupleF, seqF, fRaise, M.ret_bind, M.raise_bind, M.bad_bind, M.ofO_some, M.ofO_none, M.ne_ret, M.ne_raise, M.ite_bind, M.bind_assoc, bor, rel, lck, Tg.goS, setAllS, Tg.go, setAll, wpI, pick, ixF, ixS, addF, negF, ltF, leF, gtF, geF, ciF, List.map_cons, List.map_nil, List.length_cons, List.length_nil, List.set_cons_zero, List.set_cons_succ, List.set_nil, List.getElem?_cons_zero, List.getElem?_cons_succ, List.replicate, List.cons_append, List.nil_append, Option.join_some, Option.join_none, Option.map_some, Option.map_none, Option.bind_some, Option.bind_none]
def isNN (p : PV) : Bool := match p with
  | .int i => decide (0 ≤ i)
  | _ => false
theorem need_count_eq {p : PV} (h : lf p = true) : F_need_count [p] = if isNN p = true then M.ret .non else M.raise "BadNumber" p := by
  cases p <;> first | (simp [lf] at h; done) | skip
  case int i =>
    by_cases e : 0 ≤ i
    · have e2 : ¬ i < 0 := by omega
      simp [F_need_count, f_need_count, is_integer_eq h, isNN, e, e2, bodyF, slots, fSeq, fIf, fRet, fRetN, fAsg, fDo, fPass, fCnt, fBrk, fPar, fAM, setItS, fOwn, fmL, fmFn, fVar, fC, fOp, fUn, fCmp, fCmpT, fCh, fChT, fTru, truF, fNotT, fAndT, fOrT, fNotV, fAndV, fOrV, fIfE, fNil, fCons, fTup, fLst, fFn, f1, f2, fIsi, isiF, fSl, fNoO, fSmO, slF, fCall, fCallK, fMt, isStrB, fIt, itF, fRg1, fRg2, lenF, listF, tupleF, seqF, fRaise, M.ret_bind, M.raise_bind, M.bad_bind, M.ofO_some, M.ofO_none, M.ne_ret, M.ne_raise, M.ite_bind, M.bind_assoc, bor, rel, lck, Tg.goS, setAllS, Tg.go, setAll, wpI, pick, ixF, ixS, addF, negF, ltF, leF, gtF, geF, ciF, List.map_cons, List.map_nil, List.length_cons, List.length_nil, List.set_cons_zero, List.set_cons_succ, List.set_nil, List.getElem?_cons_zero, List.getElem?_cons_succ, List.replicate, List.cons_append, List.nil_append, Option.join_some, Option.join_none, Option.map_some, Option.map_none, Option.bind_some, Option.bind_none]
    · have e2 : i < 0 := by omega
      simp [F_need_count, f_need_count, is_integer_eq h, isNN, e, e2, bodyF, slots, fSeq, fIf, fRet, fRetN, fAsg, fDo, fPass, fCnt, fBrk, fPar, fAM, setItS, fOwn, fmL, fmFn, fVar, fC, fOp, fUn, fCmp, fCmpT, fCh, fChT, fTru, truF, fNotT, fAndT, fOrT, fNotV, fAndV, fOrV, fIfE, fNil, fCons, fTup, fLst, fFn, f1, f2, fIsi, isiF, fSl, fNoO, fSmO, slF, fCall, fCallK, fMt, isStrB, fIt, itF, fRg1, fRg2, lenF, listF, tupleF, seqF, fRaise, M.ret_bind, M.raise_bind, M.bad_bind, M.ofO_some, M.ofO_none, M.ne_ret, M.ne_raise, M.ite_bind, M.bind_assoc, bor, rel, lck, Tg.goS, setAllS, Tg.go, setAll, wpI, pick, ixF, ixS, addF, negF, ltF, leF, gtF, geF, ciF, List.map_cons, List.map_nil, List.length_cons, List.length_nil, List.set_cons_zero, List.set_cons_succ, List.set_nil, List.getElem?_cons_zero, List.getElem?_cons_succ, List.replicate, List.cons_append, List.nil_append, Option.join_some, Option.join_none, Option.map_some, Option.map_none, Option.bind_some, Option.bind_none]
  all_goals simp [F_need_count, f_need_count, is_integer_eq h, isNN, bodyF, slots, fSeq, fIf, fRet, fRetN, fAsg, fDo, fPass, fCnt, fBrk, fPar, fAM, setItS, fOwn, fmL, fmFn, fVar, fC, fOp, fUn, fCmp, fCmpT, fCh, fChT, fTru, truF, fNotT, fAndT, fOrT, fNotV, fAndV, fOrV, fIfE, fNil, fCons, fTup, fLst, fFn, f1, f2, fIsi, isiF, fSl, fNoO, fSmO, slF, fCall, fCallK, fMt, isStrB, fIt, itF, fRg1, fRg2, lenF, listF, tupleF, seqF, fRaise, M.ret_bind, M.raise_bind, M.bad_bind, M.ofO_some, M.ofO_none, M.ne_ret, M.ne_raise, M.ite_bind, M.bind_assoc, bor, rel, lck, Tg.goS, setAllS, Tg.go, setAll, wpI, pick, ixF, ixS, addF, negF, ltF, leF, gtF, geF, ciF, List.map_cons, List.map_nil, List.length_cons, List.length_nil, List.set_cons_zero, List.set_cons_succ, List.set_nil, List.getElem?_cons_zero, List.getElem?_cons_succ, List.replicate, List.cons_append, List.nil_append, Option.join_some, Option.join_none, Option.map_some, Option.map_none, Option.bind_some, Option.bind_none]
def isStand (m : Int) (p : PV) : Bool := match p with
  | .tup [a, b, c] => isNum a m && (isW b && isW c)
  | _ => false
theorem is_standing_value_eq {p : PV} (h : lf p = true) (ms : List PV) : F_is_standing_value [.tup ms, p] = M.ret (.bl (isStand ms.length p)) := by
  cases p <;> first | (simp [lf] at h; done) | skip
  case tup ps =>
    match ps, h with
    | [], h => simp [F_is_standing_value, f_is_standing_value, isStand, neF_int, bodyF, slots, fSeq, fIf, fRet, fRetN, fAsg, fDo, fPass, fCnt, fBrk, fPar, fAM, setItS, fOwn, fmL, fmFn, fVar, fC, fOp, fUn, fCmp, fCmpT, fCh, fChT, fTru, truF, fNotT, fAndT, fOrT, fNotV, fAndV, fOrV, fIfE, fNil, fCons, fTup, fLst, fFn, f1, f2, fIsi, isiF, fSl, fNoO, fSmO, slF, fCall, fCallK, fMt, isStrB, fIt, itF, fRg1, fRg2, lenF, listF, tupleF, seqF, fRaise, M.ret_bind, M.raise_bind, M.bad_bind, M.ofO_some, M.ofO_none, M.ne_ret, M.ne_raise, M.ite_bind, M.bind_assoc, bor, rel, lck, Tg.goS, setAllS, Tg.go, setAll, wpI, pick, ixF, ixS, addF, negF, ltF, leF, gtF, geF, ciF, List.map_cons, List.map_nil, List.length_cons, List.length_nil, List.set_cons_zero, List.set_cons_succ, List.set_nil, List.getElem?_cons_zero, List.getElem?_cons_succ, List.replicate, List.cons_append, List.nil_append, Option.join_some, Option.join_none, Option.map_some, Option.map_none, Option.bind_some, Option.bind_none]
    | [a], h => simp [F_is_standing_value, f_is_standing_value, isStand, neF_int, bodyF, slots, fSeq, fIf, fRet, fRetN, fAsg, fDo, fPass, fCnt, fBrk, fPar, fAM, setItS, fOwn, fmL, fmFn, fVar, fC, fOp, fUn, fCmp, fCmpT, fCh, fChT, fTru, truF, fNotT, fAndT, fOrT, fNotV, fAndV, fOrV, fIfE, fNil, fCons, fTup, fLst, fFn, f1, f2, fIsi, isiF, fSl, fNoO, fSmO, slF, fCall, fCallK, fMt, isStrB, fIt, itF, fRg1, fRg2, lenF, listF, tupleF, seqF, fRaise, M.ret_bind, M.raise_bind, M.bad_bind, M.ofO_some, M.ofO_none, M.ne_ret, M.ne_raise, M.ite_bind, M.bind_assoc, bor, rel, lck, Tg.goS, setAllS, Tg.go, setAll, wpI, pick, ixF, ixS, addF, negF, ltF, leF, gtF, geF, ciF, List.map_cons, List.map_nil, List.length_cons, List.length_nil, List.set_cons_zero, List.set_cons_succ, List.set_nil, List.getElem?_cons_zero, List.getElem?_cons_succ, List.replicate, List.cons_append, List.nil_append, Option.join_some, Option.join_none, Option.map_some, Option.map_none, Option.bind_some, Option.bind_none]
    | [a, b], h => simp [F_is_standing_value, f_is_standing_value, isStand, neF_int, bodyF, slots, fSeq, fIf, fRet, fRetN, fAsg, fDo, fPass, fCnt, fBrk, fPar, fAM, setItS, fOwn, fmL, fmFn, fVar, fC, fOp, fUn, fCmp, fCmpT, fCh, fChT, fTru, truF, fNotT, fAndT, fOrT, fNotV, fAndV, fOrV, fIfE, fNil, fCons, fTup, fLst, fFn, f1, f2, fIsi, isiF, fSl, fNoO, fSmO, slF, fCall, fCallK, fMt, isStrB, fIt, itF, fRg1, fRg2, lenF, listF, tupleF, seqF, fRaise, M.ret_bind, M.raise_bind, M.bad_bind, M.ofO_some, M.ofO_none, M.ne_ret, M.ne_raise, M.ite_bind, M.bind_assoc, bor, rel, lck, Tg.goS, setAllS, Tg.go, setAll, wpI, pick, ixF, ixS, addF, negF, ltF, leF, gtF, geF, ciF, List.map_cons, List.map_nil, List.length_cons, List.length_nil, List.set_cons_zero, List.set_cons_succ, List.set_nil, List.getElem?_cons_zero, List.getElem?_cons_succ, List.replicate, List.cons_append, List.nil_append, Option.join_some, Option.join_none, Option.map_some, Option.map_none, Option.bind_some, Option.bind_none]
    | [a, b, c], h =>
      obtain ⟨h1, h2, h3⟩ := lf3 h
      cases e : isNum a ms.length <;> cases e2 : isW b <;> simp [F_is_standing_value, f_is_standing_value, isStand, neF_int, atI0, atI1, atI2, is_between_eq h1, is_word_value_eq h2, is_word_value_eq h3, e, e2, bodyF, slots, fSeq, fIf, fRet, fRetN, fAsg, fDo, fPass, fCnt, fBrk, fPar, fAM, setItS, fOwn, fmL, fmFn, fVar, fC, fOp, fUn, fCmp, fCmpT, fCh, fChT, fTru, truF, fNotT, fAndT, fOrT, fNotV, fAndV, fOrV, fIfE, fNil, fCons, fTup, fLst, fFn, f1, f2, fIsi, isiF, fSl, fNoO, fSmO, slF, fCall, fCallK, fMt, isStrB, fIt, itF, fRg1, fRg2, lenF, listF, tupleF, seqF, fRaise, M.ret_bind, M.raise_bind, M.bad_bind, M.ofO_some, M.ofO_none, M.ne_ret, M.ne_raise, M.ite_bind, M.bind_assoc, bor, rel, lck, Tg.goS, setAllS, Tg.go, setAll, wpI, pick, ixF, ixS, addF, negF, ltF, leF, gtF, geF, ciF, List.map_cons, List.map_nil, List.length_cons, List.length_nil, List.set_cons_zero, List.set_cons_succ, List.set_nil, List.getElem?_cons_zero, List.getElem?_cons_succ, List.replicate, List.cons_append, List.nil_append, Option.join_some, Option.join_none, Option.map_some, Option.map_none, Option.bind_some, Option.bind_none]
    | a :: b :: c :: d :: r, h =>
      have e : ¬ ((r.length : Int) + 1 + 1 + 1 + 1 = 3) := by omega
      simp [F_is_standing_value, f_is_standing_value, isStand, neF_int, e, bodyF, slots, fSeq, fIf, fRet, fRetN, fAsg, fDo, fPass, fCnt, fBrk, fPar, fAM, setItS, fOwn, fmL, fmFn, fVar, fC, fOp, fUn, fCmp, fCmpT, fCh, fChT, fTru, truF, fNotT, fAndT, fOrT, fNotV, fAndV, fOrV, fIfE, fNil, fCons, fTup, fLst, fFn, f1, f2, fIsi, isiF, fSl, fNoO, fSmO, slF, fCall, fCallK, fMt, isStrB, fIt, itF, fRg1, fRg2, lenF, listF, tupleF, seqF, fRaise, M.ret_bind, M.raise_bind, M.bad_bind, M.ofO_some, M.ofO_none, M.ne_ret, M.ne_raise, M.ite_bind, M.bind_assoc, bor, rel, lck, Tg.goS, setAllS, Tg.go, setAll, wpI, pick, ixF, ixS, addF, negF, ltF, leF, gtF, geF, ciF, List.map_cons, List.map_nil, List.length_cons, List.length_nil, List.set_cons_zero, List.set_cons_succ, List.set_nil, List.getElem?_cons_zero, List.getElem?_cons_succ, List.replicate, List.cons_append, List.nil_append, Option.join_some, Option.join_none, Option.map_some, Option.map_none, Option.bind_some, Option.bind_none]
  all_goals simp [F_is_standing_value, f_is_standing_value, isStand, bodyF, slots, fSeq, fIf, fRet, fRetN, fAsg, fDo, fPass, fCnt, fBrk, fPar, fAM, setItS, fOwn, fmL, fmFn, fVar, fC, fOp, fUn, fCmp, fCmpT, fCh, fChT, fTru, truF, fNotT, fAndT, fOrT, fNotV, fAndV, fOrV, fIfE, fNil, fCons, fTup, fLst, fFn, f1, f2, fIsi, isiF, fSl, fNoO, fSmO, slF, fCall, fCallK, fMt, isStrB, fIt, itF, fRg1, fRg2, lenF, listF, tupleF, seqF, fRaise, M.ret_bind, M.raise_bind, M.bad_bind, M.ofO_some, M.ofO_none, M.ne_ret, M.ne_raise, M.ite_bind, M.bind_assoc, bor, rel, lck, Tg.goS, setAllS, Tg.go, setAll, wpI, pick, ixF, ixS, addF, negF, ltF, leF, gtF, geF, ciF, List.map_cons, List.map_nil, List.length_cons, List.length_nil, List.set_cons_zero, List.set_cons_succ, List.set_nil, List.getElem?_cons_zero, List.getElem?_cons_succ, List.replicate, List.cons_append, List.nil_append, Option.join_some, Option.join_none, Option.map_some, Option.map_none, Option.bind_some, Option.bind_none]
end K89

set_option Elab.async false
set_option linter.all false
set_option maxRecDepth 100000
set_option maxHeartbeats 1000000
/-! plain side 2: the same, as the law asks it. -/
namespace K89
open PySem PySem.Spec L2 RF
theorem l_is_integer_eq {p : PV} (h : lf p = true) : F__law_is_integer [p] = M.ret (.bl (match p with | .int _ => true | _ => false)) := by
  cases p <;> first | (simp [lf] at h; done) | simp [F__law_is_integer, f__law_is_integer, bodyF, slots, fSeq, fIf, fRet, fRetN, fAsg, fDo, fPass, fCnt, fBrk, fPar, fAM, setItS, fOwn, fmL, fmFn, fVar, fC, fOp, fUn, fCmp, fCmpT, fCh, fChT, fTru, truF, fNotT, fAndT, fOrT, fNotV, fAndV, fOrV, fIfE, fNil, fCons, fTup, fLst, fFn, f1, f2, fIsi, isiF, fSl, fNoO, fSmO, slF, fCall, fCallK, fMt, isStrB, fIt, itF, fRg1, fRg2, lenF, listF, tupleF, seqF, fRaise, M.ret_bind, M.raise_bind, M.bad_bind, M.ofO_some, M.ofO_none, M.ne_ret, M.ne_raise, M.ite_bind, M.bind_assoc, bor, rel, lck, Tg.goS, setAllS, Tg.go, setAll, wpI, pick, ixF, ixS, addF, negF, ltF, leF, gtF, geF, ciF, List.map_cons, List.map_nil, List.length_cons, List.length_nil, List.set_cons_zero, List.set_cons_succ, List.set_nil, List.getElem?_cons_zero, List.getElem?_cons_succ, List.replicate, List.cons_append, List.nil_append, Option.join_some, Option.join_none, Option.map_some, Option.map_none, Option.bind_some, Option.bind_none]
theorem l_is_number_eq {p : PV} (h : lf p = true) : F__law_is_number [p] = M.ret (.bl (isNN p)) := by
  cases p <;> first | (simp [lf] at h; done) | simp [F__law_is_number, f__law_is_number, l_is_integer_eq h, isNN, bodyF, slots, fSeq, fIf, fRet, fRetN, fAsg, fDo, fPass, fCnt, fBrk, fPar, fAM, setItS, fOwn, fmL, fmFn, fVar, fC, fOp, fUn, fCmp, fCmpT, fCh, fChT, fTru, truF, fNotT, fAndT, fOrT, fNotV, fAndV, fOrV, fIfE, fNil, fCons, fTup, fLst, fFn, f1, f2, fIsi, isiF, fSl, fNoO, fSmO, slF, fCall, fCallK, fMt, isStrB, fIt, itF, fRg1, fRg2, lenF, listF, tupleF, seqF, fRaise, M.ret_bind, M.raise_bind, M.bad_bind, M.ofO_some, M.ofO_none, M.ne_ret, M.ne_raise, M.ite_bind, M.bind_assoc, bor, rel, lck, Tg.goS, setAllS, Tg.go, setAll, wpI, pick, ixF, ixS, addF, negF, ltF, leF, gtF, geF, ciF, List.map_cons, List.map_nil, List.length_cons, List.length_nil, List.set_cons_zero, List.set_cons_succ, List.set_nil, List.getElem?_cons_zero, List.getElem?_cons_succ, List.replicate, List.cons_append, List.nil_append, Option.join_some, Option.join_none, Option.map_some, Option.map_none, Option.bind_some, Option.bind_none]
theorem l_is_word_eq {p : PV} (h : lf p = true) : F__law_is_word [p] = M.ret (.bl (isW p)) := by
  cases p <;> first | (simp [lf] at h; done) | skip
  case str s =>
    obtain ⟨l, rfl⟩ := S_ex s
    have key : compF (.nm 1) (fCmpT notInF (fVar 1) (fTup (fCons (fC (.str "0")) (fCons (fC (.str "1")) fNil)))) (fVar 1) [some (.str (S l)), none] (signs (S l)) [] = M.ret ((((l.filter fun c => !isB c).map fun c => S [c])).map PV.str) := by
      rw [compF_filter (fun p => !isOne p ["0", "1"]) id]
      · have e : ((fun p => !isOne p ["0", "1"]) ∘ fun c => PV.str (S [c])) = fun c => !isB c := by
          funext c
          simp only [Function.comp, one_sign]
        rw [signs_S, List.filter_map, List.map_id, List.map_map, List.nil_append, e]
        rfl
      · intro p mp
        rw [signs_S] at mp
        obtain ⟨c, mc, rfl⟩ := List.mem_map.mp mp
        refine ⟨_, rfl, ?_, ?_⟩
        · simp [notInF, inF_signs (lf_sign h c mc), bodyF, slots, fSeq, fIf, fRet, fRetN, fAsg, fDo, fPass, fCnt, fBrk, fPar, fAM, setItS, fOwn, fmL, fmFn, fVar, fC, fOp, fUn, fCmp, fCmpT, fCh, fChT, fTru, truF, fNotT, fAndT, fOrT, fNotV, fAndV, fOrV, fIfE, fNil, fCons, fTup, fLst, fFn, f1, f2, fIsi, isiF, fSl, fNoO, fSmO, slF, fCall, fCallK, fMt, isStrB, fIt, itF, fRg1, fRg2, lenF, listF, tupleF, seqF, fRaise, M.ret_bind, M.raise_bind, M.bad_bind, M.ofO_some, M.ofO_none, M.ne_ret, M.ne_raise, M.ite_bind, M.bind_assoc, bor, rel, lck, Tg.goS, setAllS, Tg.go, setAll, wpI, pick, ixF, ixS, addF, negF, ltF, leF, gtF, geF, ciF, List.map_cons, List.map_nil, List.length_cons, List.length_nil, List.set_cons_zero, List.set_cons_succ, List.set_nil, List.getElem?_cons_zero, List.getElem?_cons_succ, List.replicate, List.cons_append, List.nil_append, Option.join_some, Option.join_none, Option.map_some, Option.map_none, Option.bind_some, Option.bind_none]
        · simp [bodyF, slots, fSeq, fIf, fRet, fRetN, fAsg, fDo, fPass, fCnt, fBrk, fPar, fAM, setItS, fOwn, fmL, fmFn, fVar, fC, fOp, fUn, fCmp, fCmpT, fCh, fChT, fTru, truF, fNotT, fAndT, fOrT, fNotV, fAndV, fOrV, fIfE, fNil, fCons, fTup, fLst, fFn, f1, f2, fIsi, isiF, fSl, fNoO, fSmO, slF, fCall, fCallK, fMt, isStrB, fIt, itF, fRg1, fRg2, lenF, listF, tupleF, seqF, fRaise, M.ret_bind, M.raise_bind, M.bad_bind, M.ofO_some, M.ofO_none, M.ne_ret, M.ne_raise, M.ite_bind, M.bind_assoc, bor, rel, lck, Tg.goS, setAllS, Tg.go, setAll, wpI, pick, ixF, ixS, addF, negF, ltF, leF, gtF, geF, ciF, List.map_cons, List.map_nil, List.length_cons, List.length_nil, List.set_cons_zero, List.set_cons_succ, List.set_nil, List.getElem?_cons_zero, List.getElem?_cons_succ, List.replicate, List.cons_append, List.nil_append, Option.join_some, Option.join_none, Option.map_some, Option.map_none, Option.bind_some, Option.bind_none]
    have e : ((l.filter fun c => !isB c).map fun c => S [c]).isEmpty = l.all isB := by
      clear key h
      induction l with
      | nil => rfl
      | cons c l ih =>
        cases e : isB c with
        | true => simp only [List.filter_cons, e, List.all_cons]; simpa using ih
        | false => simp [List.filter_cons, e]
    have e2 := eqF_strs0 ((l.filter fun c => !isB c).map fun c => S [c])
    rw [e] at e2
    simp only [F__law_is_word, f__law_is_word, isW, fLc, bodyF, slots, fSeq, fIf, fRet, fRetN, fAsg, fDo, fPass, fCnt, fBrk, fPar, fAM, setItS, fOwn, fmL, fmFn, fVar, fC, fOp, fUn, fCmp, fCmpT, fCh, fChT, fTru, truF, fNotT, fAndT, fOrT, fNotV, fAndV, fOrV, fIfE, fNil, fCons, fTup, fLst, fFn, f1, f2, fIsi, isiF, fSl, fNoO, fSmO, slF, fCall, fCallK, fMt, isStrB, fIt, itF, fRg1, fRg2, lenF, listF, tupleF, seqF, fRaise, M.ret_bind, M.raise_bind, M.bad_bind, M.ofO_some, M.ofO_none, M.ne_ret, M.ne_raise, M.ite_bind, M.bind_assoc, bor, rel, lck, Tg.goS, setAllS, Tg.go, setAll, wpI, pick, ixF, ixS, addF, negF, ltF, leF, gtF, geF, ciF, List.map_cons, List.map_nil, List.length_cons, List.length_nil, List.set_cons_zero, List.set_cons_succ, List.set_nil, List.getElem?_cons_zero, List.getElem?_cons_succ, List.replicate, List.cons_append, List.nil_append, Option.join_some, Option.join_none, Option.map_some, Option.map_none, Option.bind_some, Option.bind_none]
    simp only [key, M.ret_bind, e2, M.ofO_some, Option.map_some]
    rfl
  all_goals simp [F__law_is_word, f__law_is_word, isW, bodyF, slots, fSeq, fIf, fRet, fRetN, fAsg, fDo, fPass, fCnt, fBrk, fPar, fAM, setItS, fOwn, fmL, fmFn, fVar, fC, fOp, fUn, fCmp, fCmpT, fCh, fChT, fTru, truF, fNotT, fAndT, fOrT, fNotV, fAndV, fOrV, fIfE, fNil, fCons, fTup, fLst, fFn, f1, f2, fIsi, isiF, fSl, fNoO, fSmO, slF, fCall, fCallK, fMt, isStrB, fIt, itF, fRg1, fRg2, lenF, listF, tupleF, seqF, fRaise, M.ret_bind, M.raise_bind, M.bad_bind, M.ofO_some, M.ofO_none, M.ne_ret, M.ne_raise, M.ite_bind, M.bind_assoc, bor, rel, lck, Tg.goS, setAllS, Tg.go, setAll, wpI, pick, ixF, ixS, addF, negF, ltF, leF, gtF, geF, ciF, List.map_cons, List.map_nil, List.length_cons, List.length_nil, List.set_cons_zero, List.set_cons_succ, List.set_nil, List.getElem?_cons_zero, List.getElem?_cons_succ, List.replicate, List.cons_append, List.nil_append, Option.join_some, Option.join_none, Option.map_some, Option.map_none, Option.bind_some, Option.bind_none]
end K89

set_option Elab.async false
set_option linter.all false
set_option maxRecDepth 100000
set_option maxHeartbeats 1000000
/-! plain side 3: the law's machine check. -/
namespace K89
open PySem PySem.Spec L2 RF
theorem l_is_machine_eq {p : PV} (h : lf p = true) : F__law_is_machine [p] = M.ret (.bl (isMach p)) := by
  cases p <;> first | (simp [lf] at h; done) | skip
  case tup ps =>
    have hs := lfs_all (by simpa only [lf] using h : lfs ps = true)
    have main : M.det (f__law_is_machine (slots 3 [.tup ps])) fun o => o = .rt (.bl (isMach (.tup ps))) := by
      unfold f__law_is_machine
      by_cases e : ps = []
      · subst e
        refine det_seqR (v := .bl false) ?_ rfl
        simp [eqF_tup0 h, bodyF, slots, fSeq, fIf, fRet, fRetN, fAsg, fDo, fPass, fCnt, fBrk, fPar, fAM, setItS, fOwn, fmL, fmFn, fVar, fC, fOp, fUn, fCmp, fCmpT, fCh, fChT, fTru, truF, fNotT, fAndT, fOrT, fNotV, fAndV, fOrV, fIfE, fNil, fCons, fTup, fLst, fFn, f1, f2, fIsi, isiF, fSl, fNoO, fSmO, slF, fCall, fCallK, fMt, isStrB, fIt, itF, fRg1, fRg2, lenF, listF, tupleF, seqF, fRaise, M.ret_bind, M.raise_bind, M.bad_bind, M.ofO_some, M.ofO_none, M.ne_ret, M.ne_raise, M.ite_bind, M.bind_assoc, bor, rel, lck, Tg.goS, setAllS, Tg.go, setAll, wpI, pick, ixF, ixS, addF, negF, ltF, leF, gtF, geF, ciF, List.map_cons, List.map_nil, List.length_cons, List.length_nil, List.set_cons_zero, List.set_cons_succ, List.set_nil, List.getElem?_cons_zero, List.getElem?_cons_succ, List.replicate, List.cons_append, List.nil_append, Option.join_some, Option.join_none, Option.map_some, Option.map_none, Option.bind_some, Option.bind_none]
      have e2 : ps.isEmpty = false := by cases ps <;> first | rfl | exact absurd rfl e
      refine det_guard ?_ ?_
      · simp [eqF_tup0 h, e2, e, bodyF, slots, fSeq, fIf, fRet, fRetN, fAsg, fDo, fPass, fCnt, fBrk, fPar, fAM, setItS, fOwn, fmL, fmFn, fVar, fC, fOp, fUn, fCmp, fCmpT, fCh, fChT, fTru, truF, fNotT, fAndT, fOrT, fNotV, fAndV, fOrV, fIfE, fNil, fCons, fTup, fLst, fFn, f1, f2, fIsi, isiF, fSl, fNoO, fSmO, slF, fCall, fCallK, fMt, isStrB, fIt, itF, fRg1, fRg2, lenF, listF, tupleF, seqF, fRaise, M.ret_bind, M.raise_bind, M.bad_bind, M.ofO_some, M.ofO_none, M.ne_ret, M.ne_raise, M.ite_bind, M.bind_assoc, bor, rel, lck, Tg.goS, setAllS, Tg.go, setAll, wpI, pick, ixF, ixS, addF, negF, ltF, leF, gtF, geF, ciF, List.map_cons, List.map_nil, List.length_cons, List.length_nil, List.set_cons_zero, List.set_cons_succ, List.set_nil, List.getElem?_cons_zero, List.getElem?_cons_succ, List.replicate, List.cons_append, List.nil_append, Option.join_some, Option.join_none, Option.map_some, Option.map_none, Option.bind_some, Option.bind_none]
      refine M.det_bind ?_
      refine M.det_mono (Q := fun o => if ps.all (isState ps.length) = true then ∃ σ2, o = .nx σ2 ∧ (∃ x y, σ2 = [some (.val (.tup ps)), x, y]) else o = .rt (.bl false)) (fun o q => ?_) (det_for (ps := ps) rfl (det_all (good := isState ps.length) (J := fun σ => ∃ x y, σ = [some (.val (.tup ps)), x, y]) ps _ (fun st mst σ ⟨x, y, hσ⟩ => ?_) ⟨_, _, rfl⟩))
      · cases g : ps.all (isState ps.length) with
        | true =>
          rw [g, if_pos rfl] at q
          obtain ⟨σ2, rfl, x, y, rfl⟩ := q
          simp [isMach, e2, g, M.det_ret_iff, bodyF, slots, fSeq, fIf, fRet, fRetN, fAsg, fDo, fPass, fCnt, fBrk, fPar, fAM, setItS, fOwn, fmL, fmFn, fVar, fC, fOp, fUn, fCmp, fCmpT, fCh, fChT, fTru, truF, fNotT, fAndT, fOrT, fNotV, fAndV, fOrV, fIfE, fNil, fCons, fTup, fLst, fFn, f1, f2, fIsi, isiF, fSl, fNoO, fSmO, slF, fCall, fCallK, fMt, isStrB, fIt, itF, fRg1, fRg2, lenF, listF, tupleF, seqF, fRaise, M.ret_bind, M.raise_bind, M.bad_bind, M.ofO_some, M.ofO_none, M.ne_ret, M.ne_raise, M.ite_bind, M.bind_assoc, bor, rel, lck, Tg.goS, setAllS, Tg.go, setAll, wpI, pick, ixF, ixS, addF, negF, ltF, leF, gtF, geF, ciF, List.map_cons, List.map_nil, List.length_cons, List.length_nil, List.set_cons_zero, List.set_cons_succ, List.set_nil, List.getElem?_cons_zero, List.getElem?_cons_succ, List.replicate, List.cons_append, List.nil_append, Option.join_some, Option.join_none, Option.map_some, Option.map_none, Option.bind_some, Option.bind_none]
        | false =>
          rw [g, if_neg (by decide)] at q
          subst q
          simp [isMach, e2, g, M.det_ret_iff, bodyF, slots, fSeq, fIf, fRet, fRetN, fAsg, fDo, fPass, fCnt, fBrk, fPar, fAM, setItS, fOwn, fmL, fmFn, fVar, fC, fOp, fUn, fCmp, fCmpT, fCh, fChT, fTru, truF, fNotT, fAndT, fOrT, fNotV, fAndV, fOrV, fIfE, fNil, fCons, fTup, fLst, fFn, f1, f2, fIsi, isiF, fSl, fNoO, fSmO, slF, fCall, fCallK, fMt, isStrB, fIt, itF, fRg1, fRg2, lenF, listF, tupleF, seqF, fRaise, M.ret_bind, M.raise_bind, M.bad_bind, M.ofO_some, M.ofO_none, M.ne_ret, M.ne_raise, M.ite_bind, M.bind_assoc, bor, rel, lck, Tg.goS, setAllS, Tg.go, setAll, wpI, pick, ixF, ixS, addF, negF, ltF, leF, gtF, geF, ciF, List.map_cons, List.map_nil, List.length_cons, List.length_nil, List.set_cons_zero, List.set_cons_succ, List.set_nil, List.getElem?_cons_zero, List.getElem?_cons_succ, List.replicate, List.cons_append, List.nil_append, Option.join_some, Option.join_none, Option.map_some, Option.map_none, Option.bind_some, Option.bind_none]
      · subst hσ
        have hst := hs st mst
        refine ⟨_, rfl, ?_⟩
        cases st <;> first | (simp [lf] at hst; done) | skip
        case tup rs =>
          have hr := lfs_all (by simpa only [lf] using hst : lfs rs = true)
          by_cases e3 : rs.length = 3
          · simp only [isState, e3, decide_true, Bool.true_and]
            refine det_guard ?_ ?_
            · simp [neF_int, e3, bodyF, slots, fSeq, fIf, fRet, fRetN, fAsg, fDo, fPass, fCnt, fBrk, fPar, fAM, setItS, fOwn, fmL, fmFn, fVar, fC, fOp, fUn, fCmp, fCmpT, fCh, fChT, fTru, truF, fNotT, fAndT, fOrT, fNotV, fAndV, fOrV, fIfE, fNil, fCons, fTup, fLst, fFn, f1, f2, fIsi, isiF, fSl, fNoO, fSmO, slF, fCall, fCallK, fMt, isStrB, fIt, itF, fRg1, fRg2, lenF, listF, tupleF, seqF, fRaise, M.ret_bind, M.raise_bind, M.bad_bind, M.ofO_some, M.ofO_none, M.ne_ret, M.ne_raise, M.ite_bind, M.bind_assoc, bor, rel, lck, Tg.goS, setAllS, Tg.go, setAll, wpI, pick, ixF, ixS, addF, negF, ltF, leF, gtF, geF, ciF, List.map_cons, List.map_nil, List.length_cons, List.length_nil, List.set_cons_zero, List.set_cons_succ, List.set_nil, List.getElem?_cons_zero, List.getElem?_cons_succ, List.replicate, List.cons_append, List.nil_append, Option.join_some, Option.join_none, Option.map_some, Option.map_none, Option.bind_some, Option.bind_none]
            refine det_for (ps := rs) rfl (det_all (good := isRule ps.length) (J := fun σ => ∃ x y, σ = [some (.val (.tup ps)), x, y]) rs _ (fun ru mru σ ⟨x, y, hσ⟩ => ?_) ⟨_, _, rfl⟩)
            subst hσ
            have hru := hr ru mru
            refine ⟨_, rfl, ?_⟩
            cases ru <;> first | (simp [lf] at hru; done) | skip
            case tup ab =>
              match ab, hru with
              | [], _ => simp [neF_int, isRule, M.det_ret_iff, bodyF, slots, fSeq, fIf, fRet, fRetN, fAsg, fDo, fPass, fCnt, fBrk, fPar, fAM, setItS, fOwn, fmL, fmFn, fVar, fC, fOp, fUn, fCmp, fCmpT, fCh, fChT, fTru, truF, fNotT, fAndT, fOrT, fNotV, fAndV, fOrV, fIfE, fNil, fCons, fTup, fLst, fFn, f1, f2, fIsi, isiF, fSl, fNoO, fSmO, slF, fCall, fCallK, fMt, isStrB, fIt, itF, fRg1, fRg2, lenF, listF, tupleF, seqF, fRaise, M.ret_bind, M.raise_bind, M.bad_bind, M.ofO_some, M.ofO_none, M.ne_ret, M.ne_raise, M.ite_bind, M.bind_assoc, bor, rel, lck, Tg.goS, setAllS, Tg.go, setAll, wpI, pick, ixF, ixS, addF, negF, ltF, leF, gtF, geF, ciF, List.map_cons, List.map_nil, List.length_cons, List.length_nil, List.set_cons_zero, List.set_cons_succ, List.set_nil, List.getElem?_cons_zero, List.getElem?_cons_succ, List.replicate, List.cons_append, List.nil_append, Option.join_some, Option.join_none, Option.map_some, Option.map_none, Option.bind_some, Option.bind_none]
              | [a], _ => simp [neF_int, isRule, M.det_ret_iff, bodyF, slots, fSeq, fIf, fRet, fRetN, fAsg, fDo, fPass, fCnt, fBrk, fPar, fAM, setItS, fOwn, fmL, fmFn, fVar, fC, fOp, fUn, fCmp, fCmpT, fCh, fChT, fTru, truF, fNotT, fAndT, fOrT, fNotV, fAndV, fOrV, fIfE, fNil, fCons, fTup, fLst, fFn, f1, f2, fIsi, isiF, fSl, fNoO, fSmO, slF, fCall, fCallK, fMt, isStrB, fIt, itF, fRg1, fRg2, lenF, listF, tupleF, seqF, fRaise, M.ret_bind, M.raise_bind, M.bad_bind, M.ofO_some, M.ofO_none, M.ne_ret, M.ne_raise, M.ite_bind, M.bind_assoc, bor, rel, lck, Tg.goS, setAllS, Tg.go, setAll, wpI, pick, ixF, ixS, addF, negF, ltF, leF, gtF, geF, ciF, List.map_cons, List.map_nil, List.length_cons, List.length_nil, List.set_cons_zero, List.set_cons_succ, List.set_nil, List.getElem?_cons_zero, List.getElem?_cons_succ, List.replicate, List.cons_append, List.nil_append, Option.join_some, Option.join_none, Option.map_some, Option.map_none, Option.bind_some, Option.bind_none]
              | [a, b], hab =>
                obtain ⟨ha, hb⟩ := lf2 hab
                have hin := inF_deeds hb
                have hb' : isiF .str b = some (match b with | .str _ => true | _ => false) := by
                  cases b <;> first | (simp [lf] at hb; done) | rfl
                cases a with
                | int i =>
                  by_cases g0 : 0 ≤ i
                  · by_cases g1 : i ≤ (ps.length : Int)
                    · have g1' : ¬ (ps.length : Int) < i := by omega
                      cases b with
                      | str s =>
                        cases g2 : isOne (.str s) deeds <;> simp [neF_int, notInF, isRule, isNum, isNN, atI0, atI1, l_is_number_eq ha, hin, g0, g1, g1', g2, M.det_ret_iff, bodyF, slots, fSeq, fIf, fRet, fRetN, fAsg, fDo, fPass, fCnt, fBrk, fPar, fAM, setItS, fOwn, fmL, fmFn, fVar, fC, fOp, fUn, fCmp, fCmpT, fCh, fChT, fTru, truF, fNotT, fAndT, fOrT, fNotV, fAndV, fOrV, fIfE, fNil, fCons, fTup, fLst, fFn, f1, f2, fIsi, isiF, fSl, fNoO, fSmO, slF, fCall, fCallK, fMt, isStrB, fIt, itF, fRg1, fRg2, lenF, listF, tupleF, seqF, fRaise, M.ret_bind, M.raise_bind, M.bad_bind, M.ofO_some, M.ofO_none, M.ne_ret, M.ne_raise, M.ite_bind, M.bind_assoc, bor, rel, lck, Tg.goS, setAllS, Tg.go, setAll, wpI, pick, ixF, ixS, addF, negF, ltF, leF, gtF, geF, ciF, List.map_cons, List.map_nil, List.length_cons, List.length_nil, List.set_cons_zero, List.set_cons_succ, List.set_nil, List.getElem?_cons_zero, List.getElem?_cons_succ, List.replicate, List.cons_append, List.nil_append, Option.join_some, Option.join_none, Option.map_some, Option.map_none, Option.bind_some, Option.bind_none]
                      | _ => first | (simp [lf] at hb; done) | simp [neF_int, notInF, isRule, isNum, isNN, isOne, atI0, atI1, l_is_number_eq ha, hin, g0, g1, g1', M.det_ret_iff, bodyF, slots, fSeq, fIf, fRet, fRetN, fAsg, fDo, fPass, fCnt, fBrk, fPar, fAM, setItS, fOwn, fmL, fmFn, fVar, fC, fOp, fUn, fCmp, fCmpT, fCh, fChT, fTru, truF, fNotT, fAndT, fOrT, fNotV, fAndV, fOrV, fIfE, fNil, fCons, fTup, fLst, fFn, f1, f2, fIsi, isiF, fSl, fNoO, fSmO, slF, fCall, fCallK, fMt, isStrB, fIt, itF, fRg1, fRg2, lenF, listF, tupleF, seqF, fRaise, M.ret_bind, M.raise_bind, M.bad_bind, M.ofO_some, M.ofO_none, M.ne_ret, M.ne_raise, M.ite_bind, M.bind_assoc, bor, rel, lck, Tg.goS, setAllS, Tg.go, setAll, wpI, pick, ixF, ixS, addF, negF, ltF, leF, gtF, geF, ciF, List.map_cons, List.map_nil, List.length_cons, List.length_nil, List.set_cons_zero, List.set_cons_succ, List.set_nil, List.getElem?_cons_zero, List.getElem?_cons_succ, List.replicate, List.cons_append, List.nil_append, Option.join_some, Option.join_none, Option.map_some, Option.map_none, Option.bind_some, Option.bind_none]
                    · have g1' : (ps.length : Int) < i := by omega
                      simp [neF_int, isRule, isNum, isNN, atI0, atI1, l_is_number_eq ha, g0, g1, g1', M.det_ret_iff, bodyF, slots, fSeq, fIf, fRet, fRetN, fAsg, fDo, fPass, fCnt, fBrk, fPar, fAM, setItS, fOwn, fmL, fmFn, fVar, fC, fOp, fUn, fCmp, fCmpT, fCh, fChT, fTru, truF, fNotT, fAndT, fOrT, fNotV, fAndV, fOrV, fIfE, fNil, fCons, fTup, fLst, fFn, f1, f2, fIsi, isiF, fSl, fNoO, fSmO, slF, fCall, fCallK, fMt, isStrB, fIt, itF, fRg1, fRg2, lenF, listF, tupleF, seqF, fRaise, M.ret_bind, M.raise_bind, M.bad_bind, M.ofO_some, M.ofO_none, M.ne_ret, M.ne_raise, M.ite_bind, M.bind_assoc, bor, rel, lck, Tg.goS, setAllS, Tg.go, setAll, wpI, pick, ixF, ixS, addF, negF, ltF, leF, gtF, geF, ciF, List.map_cons, List.map_nil, List.length_cons, List.length_nil, List.set_cons_zero, List.set_cons_succ, List.set_nil, List.getElem?_cons_zero, List.getElem?_cons_succ, List.replicate, List.cons_append, List.nil_append, Option.join_some, Option.join_none, Option.map_some, Option.map_none, Option.bind_some, Option.bind_none]
                  · simp [neF_int, isRule, isNum, isNN, atI0, atI1, l_is_number_eq ha, g0, M.det_ret_iff, bodyF, slots, fSeq, fIf, fRet, fRetN, fAsg, fDo, fPass, fCnt, fBrk, fPar, fAM, setItS, fOwn, fmL, fmFn, fVar, fC, fOp, fUn, fCmp, fCmpT, fCh, fChT, fTru, truF, fNotT, fAndT, fOrT, fNotV, fAndV, fOrV, fIfE, fNil, fCons, fTup, fLst, fFn, f1, f2, fIsi, isiF, fSl, fNoO, fSmO, slF, fCall, fCallK, fMt, isStrB, fIt, itF, fRg1, fRg2, lenF, listF, tupleF, seqF, fRaise, M.ret_bind, M.raise_bind, M.bad_bind, M.ofO_some, M.ofO_none, M.ne_ret, M.ne_raise, M.ite_bind, M.bind_assoc, bor, rel, lck, Tg.goS, setAllS, Tg.go, setAll, wpI, pick, ixF, ixS, addF, negF, ltF, leF, gtF, geF, ciF, List.map_cons, List.map_nil, List.length_cons, List.length_nil, List.set_cons_zero, List.set_cons_succ, List.set_nil, List.getElem?_cons_zero, List.getElem?_cons_succ, List.replicate, List.cons_append, List.nil_append, Option.join_some, Option.join_none, Option.map_some, Option.map_none, Option.bind_some, Option.bind_none]
                | _ => first | (simp [lf] at ha; done) | simp [neF_int, isRule, isNum, isNN, atI0, atI1, l_is_number_eq ha, M.det_ret_iff, bodyF, slots, fSeq, fIf, fRet, fRetN, fAsg, fDo, fPass, fCnt, fBrk, fPar, fAM, setItS, fOwn, fmL, fmFn, fVar, fC, fOp, fUn, fCmp, fCmpT, fCh, fChT, fTru, truF, fNotT, fAndT, fOrT, fNotV, fAndV, fOrV, fIfE, fNil, fCons, fTup, fLst, fFn, f1, f2, fIsi, isiF, fSl, fNoO, fSmO, slF, fCall, fCallK, fMt, isStrB, fIt, itF, fRg1, fRg2, lenF, listF, tupleF, seqF, fRaise, M.ret_bind, M.raise_bind, M.bad_bind, M.ofO_some, M.ofO_none, M.ne_ret, M.ne_raise, M.ite_bind, M.bind_assoc, bor, rel, lck, Tg.goS, setAllS, Tg.go, setAll, wpI, pick, ixF, ixS, addF, negF, ltF, leF, gtF, geF, ciF, List.map_cons, List.map_nil, List.length_cons, List.length_nil, List.set_cons_zero, List.set_cons_succ, List.set_nil, List.getElem?_cons_zero, List.getElem?_cons_succ, List.replicate, List.cons_append, List.nil_append, Option.join_some, Option.join_none, Option.map_some, Option.map_none, Option.bind_some, Option.bind_none]
              | a :: b :: c :: r, _ =>
                have e : ¬ ((r.length : Int) + 1 + 1 + 1 = 2) := by omega
                simp [neF_int, isRule, e, M.det_ret_iff, bodyF, slots, fSeq, fIf, fRet, fRetN, fAsg, fDo, fPass, fCnt, fBrk, fPar, fAM, setItS, fOwn, fmL, fmFn, fVar, fC, fOp, fUn, fCmp, fCmpT, fCh, fChT, fTru, truF, fNotT, fAndT, fOrT, fNotV, fAndV, fOrV, fIfE, fNil, fCons, fTup, fLst, fFn, f1, f2, fIsi, isiF, fSl, fNoO, fSmO, slF, fCall, fCallK, fMt, isStrB, fIt, itF, fRg1, fRg2, lenF, listF, tupleF, seqF, fRaise, M.ret_bind, M.raise_bind, M.bad_bind, M.ofO_some, M.ofO_none, M.ne_ret, M.ne_raise, M.ite_bind, M.bind_assoc, bor, rel, lck, Tg.goS, setAllS, Tg.go, setAll, wpI, pick, ixF, ixS, addF, negF, ltF, leF, gtF, geF, ciF, List.map_cons, List.map_nil, List.length_cons, List.length_nil, List.set_cons_zero, List.set_cons_succ, List.set_nil, List.getElem?_cons_zero, List.getElem?_cons_succ, List.replicate, List.cons_append, List.nil_append, Option.join_some, Option.join_none, Option.map_some, Option.map_none, Option.bind_some, Option.bind_none]
            all_goals simp [isRule, M.det_ret_iff, bodyF, slots, fSeq, fIf, fRet, fRetN, fAsg, fDo, fPass, fCnt, fBrk, fPar, fAM, setItS, fOwn, fmL, fmFn, fVar, fC, fOp, fUn, fCmp, fCmpT, fCh, fChT, fTru, truF, fNotT, fAndT, fOrT, fNotV, fAndV, fOrV, fIfE, fNil, fCons, fTup, fLst, fFn, f1, f2, fIsi, isiF, fSl, fNoO, fSmO, slF, fCall, fCallK, fMt, isStrB, fIt, itF, fRg1, fRg2, lenF, listF, tupleF, seqF, fRaise, M.ret_bind, M.raise_bind, M.bad_bind, M.ofO_some, M.ofO_none, M.ne_ret, M.ne_raise, M.ite_bind, M.bind_assoc, bor, rel, lck, Tg.goS, setAllS, Tg.go, setAll, wpI, pick, ixF, ixS, addF, negF, ltF, leF, gtF, geF, ciF, List.map_cons, List.map_nil, List.length_cons, List.length_nil, List.set_cons_zero, List.set_cons_succ, List.set_nil, List.getElem?_cons_zero, List.getElem?_cons_succ, List.replicate, List.cons_append, List.nil_append, Option.join_some, Option.join_none, Option.map_some, Option.map_none, Option.bind_some, Option.bind_none]
          · have e4 : ((rs.length : Int) == 3) = false := beq_eq_false_iff_ne.mpr (by omega)
            simp [neF_int, isState, e3, e4, M.det_ret_iff, bodyF, slots, fSeq, fIf, fRet, fRetN, fAsg, fDo, fPass, fCnt, fBrk, fPar, fAM, setItS, fOwn, fmL, fmFn, fVar, fC, fOp, fUn, fCmp, fCmpT, fCh, fChT, fTru, truF, fNotT, fAndT, fOrT, fNotV, fAndV, fOrV, fIfE, fNil, fCons, fTup, fLst, fFn, f1, f2, fIsi, isiF, fSl, fNoO, fSmO, slF, fCall, fCallK, fMt, isStrB, fIt, itF, fRg1, fRg2, lenF, listF, tupleF, seqF, fRaise, M.ret_bind, M.raise_bind, M.bad_bind, M.ofO_some, M.ofO_none, M.ne_ret, M.ne_raise, M.ite_bind, M.bind_assoc, bor, rel, lck, Tg.goS, setAllS, Tg.go, setAll, wpI, pick, ixF, ixS, addF, negF, ltF, leF, gtF, geF, ciF, List.map_cons, List.map_nil, List.length_cons, List.length_nil, List.set_cons_zero, List.set_cons_succ, List.set_nil, List.getElem?_cons_zero, List.getElem?_cons_succ, List.replicate, List.cons_append, List.nil_append, Option.join_some, Option.join_none, Option.map_some, Option.map_none, Option.bind_some, Option.bind_none]
        all_goals simp [isState, M.det_ret_iff, bodyF, slots, fSeq, fIf, fRet, fRetN, fAsg, fDo, fPass, fCnt, fBrk, fPar, fAM, setItS, fOwn, fmL, fmFn, fVar, fC, fOp, fUn, fCmp, fCmpT, fCh, fChT, fTru, truF, fNotT, fAndT, fOrT, fNotV, fAndV, fOrV, fIfE, fNil, fCons, fTup, fLst, fFn, f1, f2, fIsi, isiF, fSl, fNoO, fSmO, slF, fCall, fCallK, fMt, isStrB, fIt, itF, fRg1, fRg2, lenF, listF, tupleF, seqF, fRaise, M.ret_bind, M.raise_bind, M.bad_bind, M.ofO_some, M.ofO_none, M.ne_ret, M.ne_raise, M.ite_bind, M.bind_assoc, bor, rel, lck, Tg.goS, setAllS, Tg.go, setAll, wpI, pick, ixF, ixS, addF, negF, ltF, leF, gtF, geF, ciF, List.map_cons, List.map_nil, List.length_cons, List.length_nil, List.set_cons_zero, List.set_cons_succ, List.set_nil, List.getElem?_cons_zero, List.getElem?_cons_succ, List.replicate, List.cons_append, List.nil_append, Option.join_some, Option.join_none, Option.map_some, Option.map_none, Option.bind_some, Option.bind_none]
    obtain ⟨o, e, rfl⟩ := main
    unfold F__law_is_machine bodyF
    rw [e]
    rfl
  all_goals simp [F__law_is_machine, f__law_is_machine, isMach, bodyF, slots, fSeq, fIf, fRet, fRetN, fAsg, fDo, fPass, fCnt, fBrk, fPar, fAM, setItS, fOwn, fmL, fmFn, fVar, fC, fOp, fUn, fCmp, fCmpT, fCh, fChT, fTru, truF, fNotT, fAndT, fOrT, fNotV, fAndV, fOrV, fIfE, fNil, fCons, fTup, fLst, fFn, f1, f2, fIsi, isiF, fSl, fNoO, fSmO, slF, fCall, fCallK, fMt, isStrB, fIt, itF, fRg1, fRg2, lenF, listF, tupleF, seqF, fRaise, M.ret_bind, M.raise_bind, M.bad_bind, M.ofO_some, M.ofO_none, M.ne_ret, M.ne_raise, M.ite_bind, M.bind_assoc, bor, rel, lck, Tg.goS, setAllS, Tg.go, setAll, wpI, pick, ixF, ixS, addF, negF, ltF, leF, gtF, geF, ciF, List.map_cons, List.map_nil, List.length_cons, List.length_nil, List.set_cons_zero, List.set_cons_succ, List.set_nil, List.getElem?_cons_zero, List.getElem?_cons_succ, List.replicate, List.cons_append, List.nil_append, Option.join_some, Option.join_none, Option.map_some, Option.map_none, Option.bind_some, Option.bind_none]
end K89

set_option Elab.async false
set_option linter.all false
set_option maxRecDepth 100000
set_option maxHeartbeats 1000000
/-! plain side 4: one step. -/
namespace K89
open PySem PySem.Spec L2 RF
theorem beqS (a b : List Nat) : (S a == S b) = decide (a = b) := by
  by_cases h : a = b
  · subst h; simp
  · rw [beq_eq_false_iff_ne.mpr fun z => h (S_inj z)]; simp [h]
theorem cutS_front (l : List Nat) : cutS (S l) none (some (-1)) = S l.dropLast := by rw [cutS_S, cutP_front]
theorem cutS_last (l : List Nat) : cutS (S l) (some (-1)) none = S (lastL l) := by rw [cutS_S, cutP_last]
theorem S_app (a b : List Nat) : S a ++ S b = S (a ++ b) := by
  show (⟨a.toArray ++ b.toArray⟩ : Str) = _
  simp
theorem addF_S {a b : List Nat} (h : a.length + b.length ≤ 16777216) : addF (.str (S a)) (.str (S b)) = some (.str (S (a ++ b))) := by
  simp only [addF, slen]
  rw [if_pos h, S_app]
theorem last_len (l : List Nat) : (lastL l).length ≤ 1 := by
  unfold lastL
  rw [List.length_drop]
  omega
def doneL (d : Str) (l r : List Nat) : List Nat × List Nat :=
  if (d == "put0") = true then (l ++ [48], r) else if (d == "put1") = true then (l ++ [49], r) else if (d == "cut") = true then (l.dropLast, r)
  else if (d == "over") = true then (l.dropLast, r ++ lastL l) else if (d == "back") = true then (l ++ lastL r, r.dropLast) else (l, r)
theorem done_eq (d : Str) {l r : List Nat} (hl : l.length ≤ 1000000) (hr : r.length ≤ 1000000) : F_done [.str d, .str (S l), .str (S r)] = M.ret (.tup [.str (S (doneL d l r).1), .str (S (doneL d l r).2)]) := by
  have a0 : addF (.str (S l)) (.str "0") = some (.str (S (l ++ [48]))) := by rw [s0]; exact addF_S (by simp; omega)
  have a1 : addF (.str (S l)) (.str "1") = some (.str (S (l ++ [49]))) := by rw [s1]; exact addF_S (by simp; omega)
  have a2 : addF (.str (S r)) (.str (S (lastL l))) = some (.str (S (r ++ lastL l))) := addF_S (by have := last_len l; omega)
  have a3 : addF (.str (S l)) (.str (S (lastL r))) = some (.str (S (l ++ lastL r))) := addF_S (by have := last_len r; omega)
  unfold F_done bodyF f_done doneL
  cases b1 : (d == "put0") with
  | true => simp only [eqF_str, b1, a0, bodyF, slots, fSeq, fIf, fRet, fRetN, fAsg, fDo, fPass, fCnt, fBrk, fPar, fAM, setItS, fOwn, fmL, fmFn, fVar, fC, fOp, fUn, fCmp, fCmpT, fCh, fChT, fTru, truF, fNotT, fAndT, fOrT, fNotV, fAndV, fOrV, fIfE, fNil, fCons, fTup, fLst, fFn, f1, f2, fIsi, isiF, fSl, fNoO, fSmO, slF, fCall, fCallK, fMt, isStrB, fIt, itF, fRg1, fRg2, lenF, listF, tupleF, seqF, fRaise, M.ret_bind, M.raise_bind, M.bad_bind, M.ofO_some, M.ofO_none, M.ne_ret, M.ne_raise, M.ite_bind, M.bind_assoc, bor, rel, lck, Tg.goS, setAllS, Tg.go, setAll, wpI, pick, ixF, ixS, negF, ltF, leF, gtF, geF, ciF, List.map_cons, List.map_nil, List.length_cons, List.length_nil, List.set_cons_zero, List.set_cons_succ, List.set_nil, List.getElem?_cons_zero, List.getElem?_cons_succ, List.replicate, List.cons_append, List.nil_append, Option.join_some, Option.join_none, Option.map_some, Option.map_none, Option.bind_some, Option.bind_none]; simp [M.ret_bind]
  | false =>
    cases b2 : (d == "put1") with
    | true => simp only [eqF_str, b1, b2, a1, bodyF, slots, fSeq, fIf, fRet, fRetN, fAsg, fDo, fPass, fCnt, fBrk, fPar, fAM, setItS, fOwn, fmL, fmFn, fVar, fC, fOp, fUn, fCmp, fCmpT, fCh, fChT, fTru, truF, fNotT, fAndT, fOrT, fNotV, fAndV, fOrV, fIfE, fNil, fCons, fTup, fLst, fFn, f1, f2, fIsi, isiF, fSl, fNoO, fSmO, slF, fCall, fCallK, fMt, isStrB, fIt, itF, fRg1, fRg2, lenF, listF, tupleF, seqF, fRaise, M.ret_bind, M.raise_bind, M.bad_bind, M.ofO_some, M.ofO_none, M.ne_ret, M.ne_raise, M.ite_bind, M.bind_assoc, bor, rel, lck, Tg.goS, setAllS, Tg.go, setAll, wpI, pick, ixF, ixS, negF, ltF, leF, gtF, geF, ciF, List.map_cons, List.map_nil, List.length_cons, List.length_nil, List.set_cons_zero, List.set_cons_succ, List.set_nil, List.getElem?_cons_zero, List.getElem?_cons_succ, List.replicate, List.cons_append, List.nil_append, Option.join_some, Option.join_none, Option.map_some, Option.map_none, Option.bind_some, Option.bind_none]; simp [M.ret_bind]
    | false =>
      cases b3 : (d == "cut") with
      | true => simp only [eqF_str, b1, b2, b3, bodyF, slots, fSeq, fIf, fRet, fRetN, fAsg, fDo, fPass, fCnt, fBrk, fPar, fAM, setItS, fOwn, fmL, fmFn, fVar, fC, fOp, fUn, fCmp, fCmpT, fCh, fChT, fTru, truF, fNotT, fAndT, fOrT, fNotV, fAndV, fOrV, fIfE, fNil, fCons, fTup, fLst, fFn, f1, f2, fIsi, isiF, fSl, fNoO, fSmO, slF, fCall, fCallK, fMt, isStrB, fIt, itF, fRg1, fRg2, lenF, listF, tupleF, seqF, fRaise, M.ret_bind, M.raise_bind, M.bad_bind, M.ofO_some, M.ofO_none, M.ne_ret, M.ne_raise, M.ite_bind, M.bind_assoc, bor, rel, lck, Tg.goS, setAllS, Tg.go, setAll, wpI, pick, ixF, ixS, negF, ltF, leF, gtF, geF, ciF, List.map_cons, List.map_nil, List.length_cons, List.length_nil, List.set_cons_zero, List.set_cons_succ, List.set_nil, List.getElem?_cons_zero, List.getElem?_cons_succ, List.replicate, List.cons_append, List.nil_append, Option.join_some, Option.join_none, Option.map_some, Option.map_none, Option.bind_some, Option.bind_none, cutS_front]; simp [M.ret_bind, M.ofO_some, slF, cutS_front]
      | false =>
        cases b4 : (d == "over") with
        | true => simp only [eqF_str, b1, b2, b3, b4, a2, bodyF, slots, fSeq, fIf, fRet, fRetN, fAsg, fDo, fPass, fCnt, fBrk, fPar, fAM, setItS, fOwn, fmL, fmFn, fVar, fC, fOp, fUn, fCmp, fCmpT, fCh, fChT, fTru, truF, fNotT, fAndT, fOrT, fNotV, fAndV, fOrV, fIfE, fNil, fCons, fTup, fLst, fFn, f1, f2, fIsi, isiF, fSl, fNoO, fSmO, slF, fCall, fCallK, fMt, isStrB, fIt, itF, fRg1, fRg2, lenF, listF, tupleF, seqF, fRaise, M.ret_bind, M.raise_bind, M.bad_bind, M.ofO_some, M.ofO_none, M.ne_ret, M.ne_raise, M.ite_bind, M.bind_assoc, bor, rel, lck, Tg.goS, setAllS, Tg.go, setAll, wpI, pick, ixF, ixS, negF, ltF, leF, gtF, geF, ciF, List.map_cons, List.map_nil, List.length_cons, List.length_nil, List.set_cons_zero, List.set_cons_succ, List.set_nil, List.getElem?_cons_zero, List.getElem?_cons_succ, List.replicate, List.cons_append, List.nil_append, Option.join_some, Option.join_none, Option.map_some, Option.map_none, Option.bind_some, Option.bind_none, cutS_front, cutS_last]; simp [M.ret_bind, M.ofO_some, slF, cutS_front, cutS_last, a2]
        | false =>
          cases b5 : (d == "back") with
          | true => simp only [eqF_str, b1, b2, b3, b4, b5, a3, bodyF, slots, fSeq, fIf, fRet, fRetN, fAsg, fDo, fPass, fCnt, fBrk, fPar, fAM, setItS, fOwn, fmL, fmFn, fVar, fC, fOp, fUn, fCmp, fCmpT, fCh, fChT, fTru, truF, fNotT, fAndT, fOrT, fNotV, fAndV, fOrV, fIfE, fNil, fCons, fTup, fLst, fFn, f1, f2, fIsi, isiF, fSl, fNoO, fSmO, slF, fCall, fCallK, fMt, isStrB, fIt, itF, fRg1, fRg2, lenF, listF, tupleF, seqF, fRaise, M.ret_bind, M.raise_bind, M.bad_bind, M.ofO_some, M.ofO_none, M.ne_ret, M.ne_raise, M.ite_bind, M.bind_assoc, bor, rel, lck, Tg.goS, setAllS, Tg.go, setAll, wpI, pick, ixF, ixS, negF, ltF, leF, gtF, geF, ciF, List.map_cons, List.map_nil, List.length_cons, List.length_nil, List.set_cons_zero, List.set_cons_succ, List.set_nil, List.getElem?_cons_zero, List.getElem?_cons_succ, List.replicate, List.cons_append, List.nil_append, Option.join_some, Option.join_none, Option.map_some, Option.map_none, Option.bind_some, Option.bind_none, cutS_front, cutS_last]; simp [M.ret_bind, M.ofO_some, slF, cutS_front, cutS_last, a3]
          | false => simp only [eqF_str, b1, b2, b3, b4, b5, bodyF, slots, fSeq, fIf, fRet, fRetN, fAsg, fDo, fPass, fCnt, fBrk, fPar, fAM, setItS, fOwn, fmL, fmFn, fVar, fC, fOp, fUn, fCmp, fCmpT, fCh, fChT, fTru, truF, fNotT, fAndT, fOrT, fNotV, fAndV, fOrV, fIfE, fNil, fCons, fTup, fLst, fFn, f1, f2, fIsi, isiF, fSl, fNoO, fSmO, slF, fCall, fCallK, fMt, isStrB, fIt, itF, fRg1, fRg2, lenF, listF, tupleF, seqF, fRaise, M.ret_bind, M.raise_bind, M.bad_bind, M.ofO_some, M.ofO_none, M.ne_ret, M.ne_raise, M.ite_bind, M.bind_assoc, bor, rel, lck, Tg.goS, setAllS, Tg.go, setAll, wpI, pick, ixF, ixS, negF, ltF, leF, gtF, geF, ciF, List.map_cons, List.map_nil, List.length_cons, List.length_nil, List.set_cons_zero, List.set_cons_succ, List.set_nil, List.getElem?_cons_zero, List.getElem?_cons_succ, List.replicate, List.cons_append, List.nil_append, Option.join_some, Option.join_none, Option.map_some, Option.map_none, Option.bind_some, Option.bind_none]; simp [M.ret_bind, M.ofO_some]
end K89

set_option Elab.async false
set_option linter.all false
set_option maxRecDepth 100000
set_option maxHeartbeats 1000000
/-! plain side 5: a step of a machine, by the program and by the law. -/
namespace K89
open PySem PySem.Spec L2 RF
def pickR (l : List Nat) : Nat := if lastL l = [] then 0 else if lastL l = [48] then 1 else 2
def ruleAt (ms : List PV) (st : Nat) (k : Nat) : Option (Int × Str) := match ms[st]? with
  | some (.tup rs) => match rs[k]? with
    | some (.tup [.int to, .str d]) => some (to, d)
    | _ => none
  | _ => none
def stepL (ms : List PV) (st : Int) (l r : List Nat) : PV := if st = ms.length then .tup [.int st, .str (S l), .str (S r)] else match ruleAt ms st.toNat (pickR l) with
  | some (to, d) => .tup [.int to, .str (S (doneL d l r).1), .str (S (doneL d l r).2)]
  | none => .non
theorem mach_at {ms : List PV} (h : isMach (.tup ms) = true) {st : Nat} (hs : st < ms.length) {k : Nat} (hk : k < 3) : ∃ rs to d, ms[st]? = some (.tup rs) ∧ rs.length = 3 ∧ rs[k]? = some (.tup [.int to, .str d]) ∧ 0 ≤ to ∧ to ≤ ms.length ∧ d ∈ deeds := by
  have h : ms.isEmpty = false ∧ ms.all (isState ms.length) = true := by simpa only [isMach, Bool.and_eq_true, Bool.not_eq_true'] using h
  have hst := List.all_eq_true.mp h.2 ms[st] (List.getElem_mem hs)
  have e := List.getElem?_eq_getElem hs
  generalize ms[st] = s at hst e
  cases s <;> first | (simp [isState] at hst; done) | skip
  case tup rs =>
    have hst : rs.length = 3 ∧ rs.all (isRule ms.length) = true := by simpa only [isState, Bool.and_eq_true, decide_eq_true_eq] using hst
    have hk' : k < rs.length := by omega
    have hr := List.all_eq_true.mp hst.2 rs[k] (List.getElem_mem hk')
    have e2 := List.getElem?_eq_getElem hk'
    generalize rs[k] = ru at hr e2
    cases ru <;> first | (simp [isRule] at hr; done) | skip
    case tup ab =>
      match ab, hr, e2 with
      | [], hr, _ => simp [isRule] at hr
      | [a], hr, _ => simp [isRule] at hr
      | a :: b :: c :: r, hr, _ => simp [isRule] at hr
      | [a, b], hr, e2 =>
        have hr : isNum a ms.length = true ∧ isOne b deeds = true := by simpa only [isRule, Bool.and_eq_true] using hr
        cases a with
        | int to =>
          cases b with
          | str d =>
            have h1 : 0 ≤ to ∧ to ≤ ms.length := by simpa only [isNum, Bool.and_eq_true, decide_eq_true_eq] using hr.1
            have h2 : d ∈ deeds := by simpa [isOne] using hr.2
            exact ⟨rs, to, d, e, hst.1, e2, h1.1, h1.2, h2⟩
          | _ => simp [isOne] at hr
        | _ => simp [isNum] at hr
theorem pickR_lt (l : List Nat) : pickR l < 3 := by
  unfold pickR
  split
  · omega
  · split <;> omega
theorem ruleAt_some {ms : List PV} (h : isMach (.tup ms) = true) {st : Nat} (hs : st < ms.length) (l : List Nat) : ∃ rs to d, ms[st]? = some (.tup rs) ∧ rs[pickR l]? = some (.tup [.int to, .str d]) ∧ rs.length = 3 ∧ ruleAt ms st (pickR l) = some (to, d) ∧ 0 ≤ to ∧ to ≤ ms.length ∧ d ∈ deeds := by
  obtain ⟨rs, to, d, e1, e2, e3, h1, h2, h3⟩ := mach_at h hs (pickR_lt l)
  exact ⟨rs, to, d, e1, e3, e2, by unfold ruleAt; rw [e1]; simp only [e3], h1, h2, h3⟩
theorem last_bit {l : List Nat} (h : l.all isB = true) : lastL l = [] ∧ l = [] ∨ (∃ xs, l = xs ++ [48]) ∧ lastL l = [48] ∨ (∃ xs, l = xs ++ [49]) ∧ lastL l = [49] := by
  rcases snoc_cases l with rfl | ⟨xs, x, rfl⟩
  · exact .inl ⟨rfl, rfl⟩
  · rw [List.all_append, Bool.and_eq_true] at h
    have hx : isB x = true := by simpa using h.2
    rcases isB_iff.mp hx with rfl | rfl
    · exact .inr (.inl ⟨⟨xs, rfl⟩, lastL_snoc _ _⟩)
    · exact .inr (.inr ⟨⟨xs, rfl⟩, lastL_snoc _ _⟩)
theorem idx_eq {l : List Nat} (h : l.all isB = true) : (["", "0", "1"] : List Str).findIdx? (· == S (lastL l)) = some (pickR l) := by
  rcases last_bit h with ⟨e, _⟩ | ⟨_, e⟩ | ⟨_, e⟩
  all_goals
    unfold pickR
    rw [e]
    decide +kernel
theorem behind_eq {ms : List PV} (h : isMach (.tup ms) = true) {st : Int} (s0 : 0 ≤ st) (s1 : st ≤ ms.length) {l r : List Nat} (wl : l.all isB = true) (hl : l.length ≤ 1000000) (hr : r.length ≤ 1000000) :
    F_standing_behind [.tup ms, .tup [.int st, .str (S l), .str (S r)]] = M.ret (stepL ms st l r) := by
  unfold F_standing_behind bodyF f_standing_behind stepL
  by_cases e : st = ms.length
  · simp [eqF_int, e, bodyF, slots, fSeq, fIf, fRet, fRetN, fAsg, fDo, fPass, fCnt, fBrk, fPar, fAM, setItS, fOwn, fmL, fmFn, fVar, fC, fOp, fUn, fCmp, fCmpT, fCh, fChT, fTru, truF, fNotT, fAndT, fOrT, fNotV, fAndV, fOrV, fIfE, fNil, fCons, fTup, fLst, fFn, f1, f2, fIsi, isiF, fSl, fNoO, fSmO, slF, fCall, fCallK, fMt, isStrB, fIt, itF, fRg1, fRg2, lenF, listF, tupleF, seqF, fRaise, M.ret_bind, M.raise_bind, M.bad_bind, M.ofO_some, M.ofO_none, M.ne_ret, M.ne_raise, M.ite_bind, M.bind_assoc, bor, rel, lck, Tg.goS, setAllS, Tg.go, setAll, wpI, pick, ixF, ixS, addF, negF, ltF, leF, gtF, geF, ciF, List.map_cons, List.map_nil, List.length_cons, List.length_nil, List.set_cons_zero, List.set_cons_succ, List.set_nil, List.getElem?_cons_zero, List.getElem?_cons_succ, List.replicate, List.cons_append, List.nil_append, Option.join_some, Option.join_none, Option.map_some, Option.map_none, Option.bind_some, Option.bind_none]
  · have e' : (st == (ms.length : Int)) = false := beq_eq_false_iff_ne.mpr e
    have hst : st.toNat < ms.length := by omega
    obtain ⟨rs, to, d, e1, e2, e3, e4, _, _, _⟩ := ruleAt_some h hst l
    have a1 : atI ms st = some (.tup rs) := by
      have := atI_nat ms st.toNat hst
      rw [show ((st.toNat : Nat) : Int) = st by omega] at this
      rw [this, e1]
    have a2 : atI rs (pickR l : Int) = some (.tup [.int to, .str d]) := by
      have := pickR_lt l
      rw [atI_nat rs (pickR l) (by omega), e2]
    simp [eqF_int, e', e, e4, a1, a2, fIdx, cutS_last, idx_eq wl, done_eq d hl hr, bodyF, slots, fSeq, fIf, fRet, fRetN, fAsg, fDo, fPass, fCnt, fBrk, fPar, fAM, setItS, fOwn, fmL, fmFn, fVar, fC, fOp, fUn, fCmp, fCmpT, fCh, fChT, fTru, truF, fNotT, fAndT, fOrT, fNotV, fAndV, fOrV, fIfE, fNil, fCons, fTup, fLst, fFn, f1, f2, fIsi, isiF, fSl, fNoO, fSmO, slF, fCall, fCallK, fMt, isStrB, fIt, itF, fRg1, fRg2, lenF, listF, tupleF, seqF, fRaise, M.ret_bind, M.raise_bind, M.bad_bind, M.ofO_some, M.ofO_none, M.ne_ret, M.ne_raise, M.ite_bind, M.bind_assoc, bor, rel, lck, Tg.goS, setAllS, Tg.go, setAll, wpI, pick, ixF, ixS, addF, negF, ltF, leF, gtF, geF, ciF, List.map_cons, List.map_nil, List.length_cons, List.length_nil, List.set_cons_zero, List.set_cons_succ, List.set_nil, List.getElem?_cons_zero, List.getElem?_cons_succ, List.replicate, List.cons_append, List.nil_append, Option.join_some, Option.join_none, Option.map_some, Option.map_none, Option.bind_some, Option.bind_none]
theorem int_one (c : Nat) (h : isB c = true) : intText? (S [c]) = some ((c : Int) - 48) := by
  rcases isB_iff.mp h with rfl | rfl <;> decide +kernel
theorem ix_last (xs : List Nat) (x : Nat) : ixF (.str (S (xs ++ [x]))) (.int (-1)) = some (.str (S [x])) := by
  show (atI (xs ++ [x]) (-1)).map (fun c => PV.str ⟨#[c]⟩) = _
  rw [RF.atI_last]
  rfl
theorem l_step_eq {ms : List PV} (h : isMach (.tup ms) = true) {st : Int} (h0 : 0 ≤ st) (h1 : st ≤ ms.length) {l r : List Nat} (wl : l.all isB = true) (wr : r.all isB = true) (hl : l.length ≤ 1000000) (hr : r.length ≤ 1000000) :
    F__law_pile_step [.tup ms, .tup [.int st, .str (S l), .str (S r)]] = M.ret (stepL ms st l r) := by
  have main : M.det (f__law_pile_step (slots 7 [.tup ms, .tup [.int st, .str (S l), .str (S r)]])) fun o => o = .rt (stepL ms st l r) := by
    unfold f__law_pile_step
    refine det_seqN (σ' := [some (.val (.tup ms)), some (.val (.tup [.int st, .str (S l), .str (S r)])), some (.val (.int st)), some (.val (.str (S l))), some (.val (.str (S r))), none, none]) (by simp [bodyF, slots, fSeq, fIf, fRet, fRetN, fAsg, fDo, fPass, fCnt, fBrk, fPar, fAM, setItS, fOwn, fmL, fmFn, fVar, fC, fOp, fUn, fCmp, fCmpT, fCh, fChT, fTru, truF, fNotT, fAndT, fOrT, fNotV, fAndV, fOrV, fIfE, fNil, fCons, fTup, fLst, fFn, f1, f2, fIsi, isiF, fSl, fNoO, fSmO, slF, fCall, fCallK, fMt, isStrB, fIt, itF, fRg1, fRg2, lenF, listF, tupleF, seqF, fRaise, M.ret_bind, M.raise_bind, M.bad_bind, M.ofO_some, M.ofO_none, M.ne_ret, M.ne_raise, M.ite_bind, M.bind_assoc, bor, rel, lck, Tg.goS, setAllS, Tg.go, setAll, wpI, pick, ixF, ixS, addF, negF, ltF, leF, gtF, geF, ciF, List.map_cons, List.map_nil, List.length_cons, List.length_nil, List.set_cons_zero, List.set_cons_succ, List.set_nil, List.getElem?_cons_zero, List.getElem?_cons_succ, List.replicate, List.cons_append, List.nil_append, Option.join_some, Option.join_none, Option.map_some, Option.map_none, Option.bind_some, Option.bind_none]) ?_
    by_cases e : st = ms.length
    · refine det_seqR (v := .tup [.int st, .str (S l), .str (S r)]) (by simp [eqF_int, e, bodyF, slots, fSeq, fIf, fRet, fRetN, fAsg, fDo, fPass, fCnt, fBrk, fPar, fAM, setItS, fOwn, fmL, fmFn, fVar, fC, fOp, fUn, fCmp, fCmpT, fCh, fChT, fTru, truF, fNotT, fAndT, fOrT, fNotV, fAndV, fOrV, fIfE, fNil, fCons, fTup, fLst, fFn, f1, f2, fIsi, isiF, fSl, fNoO, fSmO, slF, fCall, fCallK, fMt, isStrB, fIt, itF, fRg1, fRg2, lenF, listF, tupleF, seqF, fRaise, M.ret_bind, M.raise_bind, M.bad_bind, M.ofO_some, M.ofO_none, M.ne_ret, M.ne_raise, M.ite_bind, M.bind_assoc, bor, rel, lck, Tg.goS, setAllS, Tg.go, setAll, wpI, pick, ixF, ixS, addF, negF, ltF, leF, gtF, geF, ciF, List.map_cons, List.map_nil, List.length_cons, List.length_nil, List.set_cons_zero, List.set_cons_succ, List.set_nil, List.getElem?_cons_zero, List.getElem?_cons_succ, List.replicate, List.cons_append, List.nil_append, Option.join_some, Option.join_none, Option.map_some, Option.map_none, Option.bind_some, Option.bind_none]) ?_
      simp [stepL, e]
    · have e' : (st == (ms.length : Int)) = false := beq_eq_false_iff_ne.mpr e
      have hst : st.toNat < ms.length := by omega
      obtain ⟨rs, to, d, e1, e2, e3, e4, _, _, _⟩ := ruleAt_some h hst l
      have a1 : atI ms st = some (.tup rs) := by
        have := atI_nat ms st.toNat hst
        rw [show ((st.toNat : Nat) : Int) = st by omega] at this
        rw [this, e1]
      have a2 : atI rs (pickR l : Int) = some (.tup [.int to, .str d]) := by
        have := pickR_lt l
        rw [atI_nat rs (pickR l) (by omega), e2]
      refine det_guard (by simp [eqF_int, e', bodyF, slots, fSeq, fIf, fRet, fRetN, fAsg, fDo, fPass, fCnt, fBrk, fPar, fAM, setItS, fOwn, fmL, fmFn, fVar, fC, fOp, fUn, fCmp, fCmpT, fCh, fChT, fTru, truF, fNotT, fAndT, fOrT, fNotV, fAndV, fOrV, fIfE, fNil, fCons, fTup, fLst, fFn, f1, f2, fIsi, isiF, fSl, fNoO, fSmO, slF, fCall, fCallK, fMt, isStrB, fIt, itF, fRg1, fRg2, lenF, listF, tupleF, seqF, fRaise, M.ret_bind, M.raise_bind, M.bad_bind, M.ofO_some, M.ofO_none, M.ne_ret, M.ne_raise, M.ite_bind, M.bind_assoc, bor, rel, lck, Tg.goS, setAllS, Tg.go, setAll, wpI, pick, ixF, ixS, addF, negF, ltF, leF, gtF, geF, ciF, List.map_cons, List.map_nil, List.length_cons, List.length_nil, List.set_cons_zero, List.set_cons_succ, List.set_nil, List.getElem?_cons_zero, List.getElem?_cons_succ, List.replicate, List.cons_append, List.nil_append, Option.join_some, Option.join_none, Option.map_some, Option.map_none, Option.bind_some, Option.bind_none]) ?_
      have k : fIfE (fCmpT eqF (fVar 3) (fC (.str ""))) (fC (.int 0)) (fOp addF (fC (.int 1)) (fFn (f1 intF) (fCons (fOp ixF (fVar 3) (fUn negF (fC (.int 1)))) fNil))) [some (.tup ms), some (.tup [.int st, .str (S l), .str (S r)]), some (.int st), some (.str (S l)), some (.str (S r)), none, none] = M.ret (.int (pickR l)) := by
        rcases last_bit wl with ⟨q, rfl⟩ | ⟨⟨xs, rfl⟩, q⟩ | ⟨⟨xs, rfl⟩, q⟩
        · simp [eqF_str, sE, beqS, pickR, q, bodyF, slots, fSeq, fIf, fRet, fRetN, fAsg, fDo, fPass, fCnt, fBrk, fPar, fAM, setItS, fOwn, fmL, fmFn, fVar, fC, fOp, fUn, fCmp, fCmpT, fCh, fChT, fTru, truF, fNotT, fAndT, fOrT, fNotV, fAndV, fOrV, fIfE, fNil, fCons, fTup, fLst, fFn, f1, f2, fIsi, isiF, fSl, fNoO, fSmO, slF, fCall, fCallK, fMt, isStrB, fIt, itF, fRg1, fRg2, lenF, listF, tupleF, seqF, fRaise, M.ret_bind, M.raise_bind, M.bad_bind, M.ofO_some, M.ofO_none, M.ne_ret, M.ne_raise, M.ite_bind, M.bind_assoc, bor, rel, lck, Tg.goS, setAllS, Tg.go, setAll, wpI, pick, ixF, ixS, addF, negF, ltF, leF, gtF, geF, ciF, List.map_cons, List.map_nil, List.length_cons, List.length_nil, List.set_cons_zero, List.set_cons_succ, List.set_nil, List.getElem?_cons_zero, List.getElem?_cons_succ, List.replicate, List.cons_append, List.nil_append, Option.join_some, Option.join_none, Option.map_some, Option.map_none, Option.bind_some, Option.bind_none]
        · have b : (S (xs ++ [48]) == S []) = false := by rw [beqS]; simp
          simp [eqF_str, sE, b, pickR, q, ix_last, intF, int_one 48 (by decide), slen, bodyF, slots, fSeq, fIf, fRet, fRetN, fAsg, fDo, fPass, fCnt, fBrk, fPar, fAM, setItS, fOwn, fmL, fmFn, fVar, fC, fOp, fUn, fCmp, fCmpT, fCh, fChT, fTru, truF, fNotT, fAndT, fOrT, fNotV, fAndV, fOrV, fIfE, fNil, fCons, fTup, fLst, fFn, f1, f2, fIsi, isiF, fSl, fNoO, fSmO, slF, fCall, fCallK, fMt, isStrB, fIt, itF, fRg1, fRg2, lenF, listF, tupleF, seqF, fRaise, M.ret_bind, M.raise_bind, M.bad_bind, M.ofO_some, M.ofO_none, M.ne_ret, M.ne_raise, M.ite_bind, M.bind_assoc, bor, rel, lck, Tg.goS, setAllS, Tg.go, setAll, wpI, pick, addF, negF, ltF, leF, gtF, geF, ciF, List.map_cons, List.map_nil, List.length_cons, List.length_nil, List.set_cons_zero, List.set_cons_succ, List.set_nil, List.getElem?_cons_zero, List.getElem?_cons_succ, List.replicate, List.cons_append, List.nil_append, Option.join_some, Option.join_none, Option.map_some, Option.map_none, Option.bind_some, Option.bind_none]
        · have b : (S (xs ++ [49]) == S []) = false := by rw [beqS]; simp
          simp [eqF_str, sE, b, pickR, q, ix_last, intF, int_one 49 (by decide), slen, bodyF, slots, fSeq, fIf, fRet, fRetN, fAsg, fDo, fPass, fCnt, fBrk, fPar, fAM, setItS, fOwn, fmL, fmFn, fVar, fC, fOp, fUn, fCmp, fCmpT, fCh, fChT, fTru, truF, fNotT, fAndT, fOrT, fNotV, fAndV, fOrV, fIfE, fNil, fCons, fTup, fLst, fFn, f1, f2, fIsi, isiF, fSl, fNoO, fSmO, slF, fCall, fCallK, fMt, isStrB, fIt, itF, fRg1, fRg2, lenF, listF, tupleF, seqF, fRaise, M.ret_bind, M.raise_bind, M.bad_bind, M.ofO_some, M.ofO_none, M.ne_ret, M.ne_raise, M.ite_bind, M.bind_assoc, bor, rel, lck, Tg.goS, setAllS, Tg.go, setAll, wpI, pick, addF, negF, ltF, leF, gtF, geF, ciF, List.map_cons, List.map_nil, List.length_cons, List.length_nil, List.set_cons_zero, List.set_cons_succ, List.set_nil, List.getElem?_cons_zero, List.getElem?_cons_succ, List.replicate, List.cons_append, List.nil_append, Option.join_some, Option.join_none, Option.map_some, Option.map_none, Option.bind_some, Option.bind_none]
      refine det_seqN (σ' := [some (.val (.tup ms)), some (.val (.tup [.int st, .str (S l), .str (S r)])), some (.val (.int st)), some (.val (.str (S l))), some (.val (.str (S r))), some (.val (.int to)), some (.val (.str d))])
        (asgN (p := .tup [.int to, .str d]) (opE (p := .tup rs) (q := .int (pickR l)) (opE (p := .tup ms) (q := .int st) rfl rfl a1) k a2) rfl) ?_
      refine det_seqN (σ' := [some (.val (.tup ms)), some (.val (.tup [.int st, .str (S l), .str (S r)])), some (.val (.int st)), some (.val (.str (S (doneL d l r).1))), some (.val (.str (S (doneL d l r).2))), some (.val (.int to)), some (.val (.str d))]) ?_ ?_
      · have a0 : addF (.str (S l)) (.str "0") = some (.str (S (l ++ [48]))) := by rw [s0]; exact addF_S (by simp; omega)
        have a1 : addF (.str (S l)) (.str "1") = some (.str (S (l ++ [49]))) := by rw [s1]; exact addF_S (by simp; omega)
        unfold doneL
        cases b1 : (d == "put0") with
        | true => simp [eqF_str, b1, a0, bodyF, slots, fSeq, fIf, fRet, fRetN, fAsg, fDo, fPass, fCnt, fBrk, fPar, fAM, setItS, fOwn, fmL, fmFn, fVar, fC, fOp, fUn, fCmp, fCmpT, fCh, fChT, fTru, truF, fNotT, fAndT, fOrT, fNotV, fAndV, fOrV, fIfE, fNil, fCons, fTup, fLst, fFn, f1, f2, fIsi, isiF, fSl, fNoO, fSmO, slF, fCall, fCallK, fMt, isStrB, fIt, itF, fRg1, fRg2, lenF, listF, tupleF, seqF, fRaise, M.ret_bind, M.raise_bind, M.bad_bind, M.ofO_some, M.ofO_none, M.ne_ret, M.ne_raise, M.ite_bind, M.bind_assoc, bor, rel, lck, Tg.goS, setAllS, Tg.go, setAll, wpI, pick, ixF, ixS, negF, ltF, leF, gtF, geF, ciF, List.map_cons, List.map_nil, List.length_cons, List.length_nil, List.set_cons_zero, List.set_cons_succ, List.set_nil, List.getElem?_cons_zero, List.getElem?_cons_succ, List.replicate, List.cons_append, List.nil_append, Option.join_some, Option.join_none, Option.map_some, Option.map_none, Option.bind_some, Option.bind_none]
        | false =>
          cases b2 : (d == "put1") with
          | true => simp [eqF_str, b1, b2, a1, bodyF, slots, fSeq, fIf, fRet, fRetN, fAsg, fDo, fPass, fCnt, fBrk, fPar, fAM, setItS, fOwn, fmL, fmFn, fVar, fC, fOp, fUn, fCmp, fCmpT, fCh, fChT, fTru, truF, fNotT, fAndT, fOrT, fNotV, fAndV, fOrV, fIfE, fNil, fCons, fTup, fLst, fFn, f1, f2, fIsi, isiF, fSl, fNoO, fSmO, slF, fCall, fCallK, fMt, isStrB, fIt, itF, fRg1, fRg2, lenF, listF, tupleF, seqF, fRaise, M.ret_bind, M.raise_bind, M.bad_bind, M.ofO_some, M.ofO_none, M.ne_ret, M.ne_raise, M.ite_bind, M.bind_assoc, bor, rel, lck, Tg.goS, setAllS, Tg.go, setAll, wpI, pick, ixF, ixS, negF, ltF, leF, gtF, geF, ciF, List.map_cons, List.map_nil, List.length_cons, List.length_nil, List.set_cons_zero, List.set_cons_succ, List.set_nil, List.getElem?_cons_zero, List.getElem?_cons_succ, List.replicate, List.cons_append, List.nil_append, Option.join_some, Option.join_none, Option.map_some, Option.map_none, Option.bind_some, Option.bind_none]
          | false =>
            cases b3 : (d == "cut") with
            | true => simp [eqF_str, b1, b2, b3, cutS_front, bodyF, slots, fSeq, fIf, fRet, fRetN, fAsg, fDo, fPass, fCnt, fBrk, fPar, fAM, setItS, fOwn, fmL, fmFn, fVar, fC, fOp, fUn, fCmp, fCmpT, fCh, fChT, fTru, truF, fNotT, fAndT, fOrT, fNotV, fAndV, fOrV, fIfE, fNil, fCons, fTup, fLst, fFn, f1, f2, fIsi, isiF, fSl, fNoO, fSmO, slF, fCall, fCallK, fMt, isStrB, fIt, itF, fRg1, fRg2, lenF, listF, tupleF, seqF, fRaise, M.ret_bind, M.raise_bind, M.bad_bind, M.ofO_some, M.ofO_none, M.ne_ret, M.ne_raise, M.ite_bind, M.bind_assoc, bor, rel, lck, Tg.goS, setAllS, Tg.go, setAll, wpI, pick, ixF, ixS, negF, ltF, leF, gtF, geF, ciF, List.map_cons, List.map_nil, List.length_cons, List.length_nil, List.set_cons_zero, List.set_cons_succ, List.set_nil, List.getElem?_cons_zero, List.getElem?_cons_succ, List.replicate, List.cons_append, List.nil_append, Option.join_some, Option.join_none, Option.map_some, Option.map_none, Option.bind_some, Option.bind_none]
            | false =>
              cases b4 : (d == "over") with
              | true =>
                have b5 : (d == "back") = false := by
                  rw [eq_of_beq b4]; decide +kernel
                rcases snoc_cases l with rfl | ⟨xs, x, rfl⟩
                · simp [eqF_str, neF_str, sE, beqS, b1, b2, b3, b4, b5, lastL_nil, bodyF, slots, fSeq, fIf, fRet, fRetN, fAsg, fDo, fPass, fCnt, fBrk, fPar, fAM, setItS, fOwn, fmL, fmFn, fVar, fC, fOp, fUn, fCmp, fCmpT, fCh, fChT, fTru, truF, fNotT, fAndT, fOrT, fNotV, fAndV, fOrV, fIfE, fNil, fCons, fTup, fLst, fFn, f1, f2, fIsi, isiF, fSl, fNoO, fSmO, slF, fCall, fCallK, fMt, isStrB, fIt, itF, fRg1, fRg2, lenF, listF, tupleF, seqF, fRaise, M.ret_bind, M.raise_bind, M.bad_bind, M.ofO_some, M.ofO_none, M.ne_ret, M.ne_raise, M.ite_bind, M.bind_assoc, bor, rel, lck, Tg.goS, setAllS, Tg.go, setAll, wpI, pick, ixF, ixS, negF, ltF, leF, gtF, geF, ciF, List.map_cons, List.map_nil, List.length_cons, List.length_nil, List.set_cons_zero, List.set_cons_succ, List.set_nil, List.getElem?_cons_zero, List.getElem?_cons_succ, List.replicate, List.cons_append, List.nil_append, Option.join_some, Option.join_none, Option.map_some, Option.map_none, Option.bind_some, Option.bind_none]
                · have a2 : addF (.str (S r)) (.str (S [x])) = some (.str (S (r ++ [x]))) := addF_S (by simp; omega)
                  have b : (S (xs ++ [x]) == S []) = false := by rw [beqS]; simp
                  simp [eqF_str, neF_str, sE, b, b1, b2, b3, b4, b5, cutS_front, lastL_snoc, ix_last, a2, bodyF, slots, fSeq, fIf, fRet, fRetN, fAsg, fDo, fPass, fCnt, fBrk, fPar, fAM, setItS, fOwn, fmL, fmFn, fVar, fC, fOp, fUn, fCmp, fCmpT, fCh, fChT, fTru, truF, fNotT, fAndT, fOrT, fNotV, fAndV, fOrV, fIfE, fNil, fCons, fTup, fLst, fFn, f1, f2, fIsi, isiF, fSl, fNoO, fSmO, slF, fCall, fCallK, fMt, isStrB, fIt, itF, fRg1, fRg2, lenF, listF, tupleF, seqF, fRaise, M.ret_bind, M.raise_bind, M.bad_bind, M.ofO_some, M.ofO_none, M.ne_ret, M.ne_raise, M.ite_bind, M.bind_assoc, bor, rel, lck, Tg.goS, setAllS, Tg.go, setAll, wpI, pick, negF, ltF, leF, gtF, geF, ciF, List.map_cons, List.map_nil, List.length_cons, List.length_nil, List.set_cons_zero, List.set_cons_succ, List.set_nil, List.getElem?_cons_zero, List.getElem?_cons_succ, List.replicate, List.cons_append, List.nil_append, Option.join_some, Option.join_none, Option.map_some, Option.map_none, Option.bind_some, Option.bind_none]
              | false =>
                cases b5 : (d == "back") with
                | true =>
                  rcases snoc_cases r with rfl | ⟨xs, x, rfl⟩
                  · simp [eqF_str, neF_str, sE, beqS, b1, b2, b3, b4, b5, lastL_nil, bodyF, slots, fSeq, fIf, fRet, fRetN, fAsg, fDo, fPass, fCnt, fBrk, fPar, fAM, setItS, fOwn, fmL, fmFn, fVar, fC, fOp, fUn, fCmp, fCmpT, fCh, fChT, fTru, truF, fNotT, fAndT, fOrT, fNotV, fAndV, fOrV, fIfE, fNil, fCons, fTup, fLst, fFn, f1, f2, fIsi, isiF, fSl, fNoO, fSmO, slF, fCall, fCallK, fMt, isStrB, fIt, itF, fRg1, fRg2, lenF, listF, tupleF, seqF, fRaise, M.ret_bind, M.raise_bind, M.bad_bind, M.ofO_some, M.ofO_none, M.ne_ret, M.ne_raise, M.ite_bind, M.bind_assoc, bor, rel, lck, Tg.goS, setAllS, Tg.go, setAll, wpI, pick, ixF, ixS, negF, ltF, leF, gtF, geF, ciF, List.map_cons, List.map_nil, List.length_cons, List.length_nil, List.set_cons_zero, List.set_cons_succ, List.set_nil, List.getElem?_cons_zero, List.getElem?_cons_succ, List.replicate, List.cons_append, List.nil_append, Option.join_some, Option.join_none, Option.map_some, Option.map_none, Option.bind_some, Option.bind_none]
                  · have a2 : addF (.str (S l)) (.str (S [x])) = some (.str (S (l ++ [x]))) := addF_S (by simp; omega)
                    have b : (S (xs ++ [x]) == S []) = false := by rw [beqS]; simp
                    simp [eqF_str, neF_str, sE, b, b1, b2, b3, b4, b5, cutS_front, lastL_snoc, ix_last, a2, bodyF, slots, fSeq, fIf, fRet, fRetN, fAsg, fDo, fPass, fCnt, fBrk, fPar, fAM, setItS, fOwn, fmL, fmFn, fVar, fC, fOp, fUn, fCmp, fCmpT, fCh, fChT, fTru, truF, fNotT, fAndT, fOrT, fNotV, fAndV, fOrV, fIfE, fNil, fCons, fTup, fLst, fFn, f1, f2, fIsi, isiF, fSl, fNoO, fSmO, slF, fCall, fCallK, fMt, isStrB, fIt, itF, fRg1, fRg2, lenF, listF, tupleF, seqF, fRaise, M.ret_bind, M.raise_bind, M.bad_bind, M.ofO_some, M.ofO_none, M.ne_ret, M.ne_raise, M.ite_bind, M.bind_assoc, bor, rel, lck, Tg.goS, setAllS, Tg.go, setAll, wpI, pick, negF, ltF, leF, gtF, geF, ciF, List.map_cons, List.map_nil, List.length_cons, List.length_nil, List.set_cons_zero, List.set_cons_succ, List.set_nil, List.getElem?_cons_zero, List.getElem?_cons_succ, List.replicate, List.cons_append, List.nil_append, Option.join_some, Option.join_none, Option.map_some, Option.map_none, Option.bind_some, Option.bind_none]
                | false => simp [eqF_str, b1, b2, b3, b4, b5, bodyF, slots, fSeq, fIf, fRet, fRetN, fAsg, fDo, fPass, fCnt, fBrk, fPar, fAM, setItS, fOwn, fmL, fmFn, fVar, fC, fOp, fUn, fCmp, fCmpT, fCh, fChT, fTru, truF, fNotT, fAndT, fOrT, fNotV, fAndV, fOrV, fIfE, fNil, fCons, fTup, fLst, fFn, f1, f2, fIsi, isiF, fSl, fNoO, fSmO, slF, fCall, fCallK, fMt, isStrB, fIt, itF, fRg1, fRg2, lenF, listF, tupleF, seqF, fRaise, M.ret_bind, M.raise_bind, M.bad_bind, M.ofO_some, M.ofO_none, M.ne_ret, M.ne_raise, M.ite_bind, M.bind_assoc, bor, rel, lck, Tg.goS, setAllS, Tg.go, setAll, wpI, pick, ixF, ixS, negF, ltF, leF, gtF, geF, ciF, List.map_cons, List.map_nil, List.length_cons, List.length_nil, List.set_cons_zero, List.set_cons_succ, List.set_nil, List.getElem?_cons_zero, List.getElem?_cons_succ, List.replicate, List.cons_append, List.nil_append, Option.join_some, Option.join_none, Option.map_some, Option.map_none, Option.bind_some, Option.bind_none]
      · refine M.det_eq (a := .rt (.tup [.int to, .str (S (doneL d l r).1), .str (S (doneL d l r).2)])) (by simp [bodyF, slots, fSeq, fIf, fRet, fRetN, fAsg, fDo, fPass, fCnt, fBrk, fPar, fAM, setItS, fOwn, fmL, fmFn, fVar, fC, fOp, fUn, fCmp, fCmpT, fCh, fChT, fTru, truF, fNotT, fAndT, fOrT, fNotV, fAndV, fOrV, fIfE, fNil, fCons, fTup, fLst, fFn, f1, f2, fIsi, isiF, fSl, fNoO, fSmO, slF, fCall, fCallK, fMt, isStrB, fIt, itF, fRg1, fRg2, lenF, listF, tupleF, seqF, fRaise, M.ret_bind, M.raise_bind, M.bad_bind, M.ofO_some, M.ofO_none, M.ne_ret, M.ne_raise, M.ite_bind, M.bind_assoc, bor, rel, lck, Tg.goS, setAllS, Tg.go, setAll, wpI, pick, ixF, ixS, addF, negF, ltF, leF, gtF, geF, ciF, List.map_cons, List.map_nil, List.length_cons, List.length_nil, List.set_cons_zero, List.set_cons_succ, List.set_nil, List.getElem?_cons_zero, List.getElem?_cons_succ, List.replicate, List.cons_append, List.nil_append, Option.join_some, Option.join_none, Option.map_some, Option.map_none, Option.bind_some, Option.bind_none]) ?_
        simp [stepL, e, e4]
  obtain ⟨o, e, rfl⟩ := main
  unfold F__law_pile_step bodyF
  rw [e]
  rfl
theorem stand_inv {m : Int} {s : PV} (h : isStand m s = true) : ∃ st l r, s = .tup [.int st, .str (S l), .str (S r)] ∧ 0 ≤ st ∧ st ≤ m ∧ l.all isB = true ∧ r.all isB = true := by
  cases s <;> first | (simp [isStand] at h; done) | skip
  case tup ps =>
    match ps, h with
    | [], h => simp [isStand] at h
    | [a], h => simp [isStand] at h
    | [a, b], h => simp [isStand] at h
    | a :: b :: c :: d :: r, h => simp [isStand] at h
    | [a, b, c], h =>
      have h : isNum a m = true ∧ isW b = true ∧ isW c = true := by simpa only [isStand, Bool.and_eq_true] using h
      cases a with
      | int st =>
        cases b with
        | str x =>
          cases c with
          | str y =>
            have h1 : 0 ≤ st ∧ st ≤ m := by simpa only [isNum, Bool.and_eq_true, decide_eq_true_eq] using h.1
            obtain ⟨l, rfl⟩ := S_ex x
            obtain ⟨r, rfl⟩ := S_ex y
            exact ⟨st, l, r, rfl, h1.1, h1.2, by simpa [isW] using h.2.1, by simpa [isW] using h.2.2⟩
          | _ => simp [isW] at h
        | _ => simp [isW] at h
      | _ => simp [isNum] at h
theorem stand_of {m st : Int} {l r : List Nat} (h0 : 0 ≤ st) (h1 : st ≤ m) (wl : l.all isB = true) (wr : r.all isB = true) : isStand m (.tup [.int st, .str (S l), .str (S r)]) = true := by
  simp only [isStand, isNum, isW, Bool.and_eq_true, decide_eq_true_eq]
  exact ⟨⟨h0, h1⟩, wl, wr⟩
theorem mach_tup {p : PV} (h : isMach p = true) : ∃ ms, p = .tup ms := by
  cases p <;> first | (simp [isMach] at h; done) | exact ⟨_, rfl⟩
theorem pile_bad1 {p s : PV} (hp : lf p = true) (e : isMach p = false) : F_pile_step [p, s] = M.raise "BadMachine" p := by
  simp [F_pile_step, f_pile_step, need_machine_eq hp, e, bodyF, slots, fSeq, fIf, fRet, fRetN, fAsg, fDo, fPass, fCnt, fBrk, fPar, fAM, setItS, fOwn, fmL, fmFn, fVar, fC, fOp, fUn, fCmp, fCmpT, fCh, fChT, fTru, truF, fNotT, fAndT, fOrT, fNotV, fAndV, fOrV, fIfE, fNil, fCons, fTup, fLst, fFn, f1, f2, fIsi, isiF, fSl, fNoO, fSmO, slF, fCall, fCallK, fMt, isStrB, fIt, itF, fRg1, fRg2, lenF, listF, tupleF, seqF, fRaise, M.ret_bind, M.raise_bind, M.bad_bind, M.ofO_some, M.ofO_none, M.ne_ret, M.ne_raise, M.ite_bind, M.bind_assoc, bor, rel, lck, Tg.goS, setAllS, Tg.go, setAll, wpI, pick, ixF, ixS, addF, negF, ltF, leF, gtF, geF, ciF, List.map_cons, List.map_nil, List.length_cons, List.length_nil, List.set_cons_zero, List.set_cons_succ, List.set_nil, List.getElem?_cons_zero, List.getElem?_cons_succ, List.replicate, List.cons_append, List.nil_append, Option.join_some, Option.join_none, Option.map_some, Option.map_none, Option.bind_some, Option.bind_none]
theorem pile_bad2 {ms : List PV} {s : PV} (hp : lf (.tup ms) = true) (hs : lf s = true) (e : isMach (.tup ms) = true) (e2 : isStand ms.length s = false) : F_pile_step [.tup ms, s] = M.raise "BadStanding" s := by
  simp [F_pile_step, f_pile_step, need_machine_eq hp, is_standing_value_eq hs, e, e2, bodyF, slots, fSeq, fIf, fRet, fRetN, fAsg, fDo, fPass, fCnt, fBrk, fPar, fAM, setItS, fOwn, fmL, fmFn, fVar, fC, fOp, fUn, fCmp, fCmpT, fCh, fChT, fTru, truF, fNotT, fAndT, fOrT, fNotV, fAndV, fOrV, fIfE, fNil, fCons, fTup, fLst, fFn, f1, f2, fIsi, isiF, fSl, fNoO, fSmO, slF, fCall, fCallK, fMt, isStrB, fIt, itF, fRg1, fRg2, lenF, listF, tupleF, seqF, fRaise, M.ret_bind, M.raise_bind, M.bad_bind, M.ofO_some, M.ofO_none, M.ne_ret, M.ne_raise, M.ite_bind, M.bind_assoc, bor, rel, lck, Tg.goS, setAllS, Tg.go, setAll, wpI, pick, ixF, ixS, addF, negF, ltF, leF, gtF, geF, ciF, List.map_cons, List.map_nil, List.length_cons, List.length_nil, List.set_cons_zero, List.set_cons_succ, List.set_nil, List.getElem?_cons_zero, List.getElem?_cons_succ, List.replicate, List.cons_append, List.nil_append, Option.join_some, Option.join_none, Option.map_some, Option.map_none, Option.bind_some, Option.bind_none]
theorem pile_ok {ms : List PV} {st : Int} {l r : List Nat} (hm : ms.length ≤ 1000000) (hp : lf (.tup ms) = true) (h : isMach (.tup ms) = true) (h0 : 0 ≤ st) (h1 : st ≤ ms.length) (wl : l.all isB = true) (wr : r.all isB = true) (hl : l.length ≤ 1000000) (hr : r.length ≤ 1000000) :
    F_pile_step [.tup ms, .tup [.int st, .str (S l), .str (S r)]] = M.ret (stepL ms st l r) := by
  have wf : ∀ {w : List Nat}, w.all isB = true → lf (.str (S w)) = true := fun {w} h => by
    simp only [lf, List.all_eq_true, decide_eq_true_eq] at h ⊢
    intro c m
    rcases isB_iff.mp (h c (by simpa using m)) with rfl | rfl <;> decide
  have hb := behind_eq h h0 h1 wl hl hr
  have e2 := stand_of h0 h1 wl wr
  have big : st.natAbs < 10 ^ 100 := Nat.lt_of_le_of_lt (show st.natAbs ≤ 1000000 by omega) (by decide +kernel)
  have hs : lf (.tup [.int st, .str (S l), .str (S r)]) = true := by
    simp only [lf, lfs, Bool.and_eq_true, decide_eq_true_eq]
    exact ⟨big, wf wl, wf wr, trivial⟩
  simp [F_pile_step, f_pile_step, need_machine_eq hp, is_standing_value_eq hs, h, e2, hb, bodyF, slots, fSeq, fIf, fRet, fRetN, fAsg, fDo, fPass, fCnt, fBrk, fPar, fAM, setItS, fOwn, fmL, fmFn, fVar, fC, fOp, fUn, fCmp, fCmpT, fCh, fChT, fTru, truF, fNotT, fAndT, fOrT, fNotV, fAndV, fOrV, fIfE, fNil, fCons, fTup, fLst, fFn, f1, f2, fIsi, isiF, fSl, fNoO, fSmO, slF, fCall, fCallK, fMt, isStrB, fIt, itF, fRg1, fRg2, lenF, listF, tupleF, seqF, fRaise, M.ret_bind, M.raise_bind, M.bad_bind, M.ofO_some, M.ofO_none, M.ne_ret, M.ne_raise, M.ite_bind, M.bind_assoc, bor, rel, lck, Tg.goS, setAllS, Tg.go, setAll, wpI, pick, ixF, ixS, addF, negF, ltF, leF, gtF, geF, ciF, List.map_cons, List.map_nil, List.length_cons, List.length_nil, List.set_cons_zero, List.set_cons_succ, List.set_nil, List.getElem?_cons_zero, List.getElem?_cons_succ, List.replicate, List.cons_append, List.nil_append, Option.join_some, Option.join_none, Option.map_some, Option.map_none, Option.bind_some, Option.bind_none]
end K89

set_option Elab.async false
set_option linter.all false
set_option maxRecDepth 100000
set_option maxHeartbeats 1000000
/-! plain side 6: what is drawn: picks, words. -/
namespace K89
open PySem PySem.Spec L2 RF
theorem pick_sat {n : Nat × Nat} {ps : List PV} (h0 : 0 < ps.length) (h1 : ps.length < 1000000) : M.sat n (F__law_pick [.loc n.1, .lst ps]) fun v => v ∈ ps := by
  simp only [F__law_pick, f__law_pick, bodyF, slots, fSeq, fIf, fRet, fRetN, fAsg, fDo, fPass, fCnt, fBrk, fPar, fAM, setItS, fOwn, fmL, fmFn, fVar, fC, fOp, fUn, fCmp, fCmpT, fCh, fChT, fTru, truF, fNotT, fAndT, fOrT, fNotV, fAndV, fOrV, fIfE, fNil, fCons, fTup, fLst, fFn, f1, f2, fIsi, isiF, fSl, fNoO, fSmO, slF, fCall, fCallK, fMt, isStrB, fIt, itF, fRg1, fRg2, lenF, listF, tupleF, seqF, fRaise, M.ret_bind, M.raise_bind, M.bad_bind, M.ofO_some, M.ofO_none, M.ne_ret, M.ne_raise, M.ite_bind, M.bind_assoc, bor, rel, lck, Tg.goS, setAllS, Tg.go, setAll, wpI, pick, ixF, ixS, addF, negF, ltF, leF, gtF, geF, ciF, List.map_cons, List.map_nil, List.length_cons, List.length_nil, List.set_cons_zero, List.set_cons_succ, List.set_nil, List.getElem?_cons_zero, List.getElem?_cons_succ, List.replicate, List.cons_append, List.nil_append, Option.join_some, Option.join_none, Option.map_some, Option.map_none, Option.bind_some, Option.bind_none]
  simp [bodyF, slots, fSeq, fIf, fRet, fRetN, fAsg, fDo, fPass, fCnt, fBrk, fPar, fAM, setItS, fOwn, fmL, fmFn, fVar, fC, fOp, fUn, fCmp, fCmpT, fCh, fChT, fTru, truF, fNotT, fAndT, fOrT, fNotV, fAndV, fOrV, fIfE, fNil, fCons, fTup, fLst, fFn, f1, f2, fIsi, isiF, fSl, fNoO, fSmO, slF, fCall, fCallK, fMt, isStrB, fIt, itF, fRg1, fRg2, lenF, listF, tupleF, seqF, fRaise, M.ret_bind, M.raise_bind, M.bad_bind, M.ofO_some, M.ofO_none, M.ne_ret, M.ne_raise, M.ite_bind, M.bind_assoc, bor, rel, lck, Tg.goS, setAllS, Tg.go, setAll, wpI, pick, ixF, ixS, addF, negF, ltF, leF, gtF, geF, ciF, List.map_cons, List.map_nil, List.length_cons, List.length_nil, List.set_cons_zero, List.set_cons_succ, List.set_nil, List.getElem?_cons_zero, List.getElem?_cons_succ, List.replicate, List.cons_append, List.nil_append, Option.join_some, Option.join_none, Option.map_some, Option.map_none, Option.bind_some, Option.bind_none]
  refine M.sat_bind (M.sat_draw (by omega) (by omega) fun r r0 r1 => ?_)
  have hk : r.toNat < ps.length := by omega
  have a := atI_nat ps r.toNat hk
  rw [show ((r.toNat : Nat) : Int) = r by omega, List.getElem?_eq_getElem hk] at a
  simp [a, bodyF, slots, fSeq, fIf, fRet, fRetN, fAsg, fDo, fPass, fCnt, fBrk, fPar, fAM, setItS, fOwn, fmL, fmFn, fVar, fC, fOp, fUn, fCmp, fCmpT, fCh, fChT, fTru, truF, fNotT, fAndT, fOrT, fNotV, fAndV, fOrV, fIfE, fNil, fCons, fTup, fLst, fFn, f1, f2, fIsi, isiF, fSl, fNoO, fSmO, slF, fCall, fCallK, fMt, isStrB, fIt, itF, fRg1, fRg2, lenF, listF, tupleF, seqF, fRaise, M.ret_bind, M.raise_bind, M.bad_bind, M.ofO_some, M.ofO_none, M.ne_ret, M.ne_raise, M.ite_bind, M.bind_assoc, bor, rel, lck, Tg.goS, setAllS, Tg.go, setAll, wpI, pick, ixF, ixS, addF, negF, ltF, leF, gtF, geF, ciF, List.map_cons, List.map_nil, List.length_cons, List.length_nil, List.set_cons_zero, List.set_cons_succ, List.set_nil, List.getElem?_cons_zero, List.getElem?_cons_succ, List.replicate, List.cons_append, List.nil_append, Option.join_some, Option.join_none, Option.map_some, Option.map_none, Option.bind_some, Option.bind_none, M.sat_ret_iff]
def isBit (v : PV) : Prop := v = .str (S [48]) ∨ v = .str (S [49])
theorem bits_of : ∀ rs : List PV, (∀ r ∈ rs, isBit r) → ∃ l : List Nat, rs = (l.map fun c => S [c]).map PV.str ∧ l.all isB = true
  | [], _ => ⟨[], rfl, rfl⟩
  | r :: rs, h => by
    obtain ⟨l, rfl, w⟩ := bits_of rs fun x m => h x (List.mem_cons_of_mem _ m)
    rcases h r (List.mem_cons_self ..) with rfl | rfl
    · exact ⟨48 :: l, rfl, by rw [List.all_cons, w]; rfl⟩
    · exact ⟨49 :: l, rfl, by rw [List.all_cons, w]; rfl⟩
theorem join_bits (l : List Nat) (h : l.length ≤ 1000000) : joinF (.str "") [.lst ((l.map fun c => S [c]).map PV.str)] = some (.str (S l)) := by
  have e1 : ((l.map fun c => S [c]).map (·.length)).sum = l.length := by
    rw [List.map_map]
    clear h
    induction l with
    | nil => rfl
    | cons c l ih =>
      rw [List.map_cons, List.sum_cons, ih]
      show (S [c]).length + l.length = _
      rw [slen, List.length_cons]
      simp
      omega
  have e2 : Txt.join "" (l.map fun c => S [c]) = S l := by
    have := join0 (l.map fun c => [c])
    rw [flat1, List.map_map] at this
    exact this
  simp only [joinF, seqF, Option.bind_some, texts_strs, e1, e2]
  rw [if_pos]
  have : ("" : Str).length = 0 := rfl
  rw [this]
  omega
theorem word_sat {n : Nat × Nat} {m : Int} (h0 : 0 ≤ m) (h1 : m ≤ 1000) : M.sat n (F__law_word [.loc n.1, .int m]) fun v => ∃ l : List Nat, v = .str (S l) ∧ l.all isB = true ∧ l.length ≤ m := by
  simp only [F__law_word, f__law_word, fLc, bodyF, slots, fSeq, fIf, fRet, fRetN, fAsg, fDo, fPass, fCnt, fBrk, fPar, fAM, setItS, fOwn, fmL, fmFn, fVar, fC, fOp, fUn, fCmp, fCmpT, fCh, fChT, fTru, truF, fNotT, fAndT, fOrT, fNotV, fAndV, fOrV, fIfE, fNil, fCons, fTup, fLst, fFn, f1, f2, fIsi, isiF, fSl, fNoO, fSmO, slF, fCall, fCallK, fMt, isStrB, fIt, itF, fRg1, fRg2, lenF, listF, tupleF, seqF, fRaise, M.ret_bind, M.raise_bind, M.bad_bind, M.ofO_some, M.ofO_none, M.ne_ret, M.ne_raise, M.ite_bind, M.bind_assoc, bor, rel, lck, Tg.goS, setAllS, Tg.go, setAll, wpI, pick, ixF, ixS, addF, negF, ltF, leF, gtF, geF, ciF, List.map_cons, List.map_nil, List.length_cons, List.length_nil, List.set_cons_zero, List.set_cons_succ, List.set_nil, List.getElem?_cons_zero, List.getElem?_cons_succ, List.replicate, List.cons_append, List.nil_append, Option.join_some, Option.join_none, Option.map_some, Option.map_none, Option.bind_some, Option.bind_none]
  simp [bodyF, slots, fSeq, fIf, fRet, fRetN, fAsg, fDo, fPass, fCnt, fBrk, fPar, fAM, setItS, fOwn, fmL, fmFn, fVar, fC, fOp, fUn, fCmp, fCmpT, fCh, fChT, fTru, truF, fNotT, fAndT, fOrT, fNotV, fAndV, fOrV, fIfE, fNil, fCons, fTup, fLst, fFn, f1, f2, fIsi, isiF, fSl, fNoO, fSmO, slF, fCall, fCallK, fMt, isStrB, fIt, itF, fRg1, fRg2, lenF, listF, tupleF, seqF, fRaise, M.ret_bind, M.raise_bind, M.bad_bind, M.ofO_some, M.ofO_none, M.ne_ret, M.ne_raise, M.ite_bind, M.bind_assoc, bor, rel, lck, Tg.goS, setAllS, Tg.go, setAll, wpI, pick, ixF, ixS, addF, negF, ltF, leF, gtF, geF, ciF, List.map_cons, List.map_nil, List.length_cons, List.length_nil, List.set_cons_zero, List.set_cons_succ, List.set_nil, List.getElem?_cons_zero, List.getElem?_cons_succ, List.replicate, List.cons_append, List.nil_append, Option.join_some, Option.join_none, Option.map_some, Option.map_none, Option.bind_some, Option.bind_none]
  refine M.sat_bind (M.sat_draw (by omega) (by omega) fun r r0 r1 => ?_)
  simp only []
  rw [if_pos ⟨by omega, by omega⟩]
  simp only [M.ret_bind]
  refine M.sat_bindE (sat_compF (P := isBit) (intsL 0 r.toNat) [] fun p mp => ⟨_, rfl, ?_⟩) fun qs hq => ?_
  · simp [bodyF, slots, fSeq, fIf, fRet, fRetN, fAsg, fDo, fPass, fCnt, fBrk, fPar, fAM, setItS, fOwn, fmL, fmFn, fVar, fC, fOp, fUn, fCmp, fCmpT, fCh, fChT, fTru, truF, fNotT, fAndT, fOrT, fNotV, fAndV, fOrV, fIfE, fNil, fCons, fTup, fLst, fFn, f1, f2, fIsi, isiF, fSl, fNoO, fSmO, slF, fCall, fCallK, fMt, isStrB, fIt, itF, fRg1, fRg2, lenF, listF, tupleF, seqF, fRaise, M.ret_bind, M.raise_bind, M.bad_bind, M.ofO_some, M.ofO_none, M.ne_ret, M.ne_raise, M.ite_bind, M.bind_assoc, bor, rel, lck, Tg.goS, setAllS, Tg.go, setAll, wpI, pick, ixF, ixS, addF, negF, ltF, leF, gtF, geF, ciF, List.map_cons, List.map_nil, List.length_cons, List.length_nil, List.set_cons_zero, List.set_cons_succ, List.set_nil, List.getElem?_cons_zero, List.getElem?_cons_succ, List.replicate, List.cons_append, List.nil_append, Option.join_some, Option.join_none, Option.map_some, Option.map_none, Option.bind_some, Option.bind_none]
    refine M.sat_mono (fun v hv => ?_) (pick_sat (n := n) (ps := [.str "0", .str "1"]) (by decide) (by decide))
    simp only [List.mem_cons, List.not_mem_nil, or_false] at hv
    rcases hv with rfl | rfl
    · exact .inl (by rw [s0])
    · exact .inr (by rw [s1])
  · obtain ⟨rs, e, hl, hb⟩ := hq
    rw [List.nil_append] at e
    subst e
    obtain ⟨l, rfl, w⟩ := bits_of _ hb
    have len : l.length = r.toNat := by
      have := hl
      simp [intsL] at this
      exact this
    simp only [List.nil_append, join_bits l (by omega), M.ofO_some, M.ret_bind, M.sat_ret_iff]
    exact ⟨l, rfl, List.all_eq_true.mp w, by omega⟩
theorem same_eq {p : PV} (h : lf p = true) (hd : dp p ≤ 64) (hb : bk p ≤ 100000) : F__law_same [p, p] = M.ret (.bl true) := by
  simp [F__law_same, f__law_same, reprF_ok h hd hb, eqF_str, bodyF, slots, fSeq, fIf, fRet, fRetN, fAsg, fDo, fPass, fCnt, fBrk, fPar, fAM, setItS, fOwn, fmL, fmFn, fVar, fC, fOp, fUn, fCmp, fCmpT, fCh, fChT, fTru, truF, fNotT, fAndT, fOrT, fNotV, fAndV, fOrV, fIfE, fNil, fCons, fTup, fLst, fFn, f1, f2, fIsi, isiF, fSl, fNoO, fSmO, slF, fCall, fCallK, fMt, isStrB, fIt, itF, fRg1, fRg2, lenF, listF, tupleF, seqF, fRaise, M.ret_bind, M.raise_bind, M.bad_bind, M.ofO_some, M.ofO_none, M.ne_ret, M.ne_raise, M.ite_bind, M.bind_assoc, bor, rel, lck, Tg.goS, setAllS, Tg.go, setAll, wpI, pick, ixF, ixS, addF, negF, ltF, leF, gtF, geF, ciF, List.map_cons, List.map_nil, List.length_cons, List.length_nil, List.set_cons_zero, List.set_cons_succ, List.set_nil, List.getElem?_cons_zero, List.getElem?_cons_succ, List.replicate, List.cons_append, List.nil_append, Option.join_some, Option.join_none, Option.map_some, Option.map_none, Option.bind_some, Option.bind_none]
end K89

set_option Elab.async false
set_option linter.all false
set_option maxRecDepth 100000
set_option maxHeartbeats 1000000
/-! plain side 7: values bent. -/
namespace K89
open PySem PySem.Spec L2 RF
theorem inF01 {p : PV} (h : lf p = true) : ∃ b, inF p (.tup [.int 0, .int 1]) = some b ∧ (b = true → ∃ c, eqF p (.int 1) = some (.true && c) ∧ True) := by
  obtain ⟨d, e, _⟩ := toR_of h
  have a : inF p (.tup [.int 0, .int 1]) = some (PyData.eqv (.int 0) d || (PyData.eqv (.int 1) d || false)) := by
    simp only [inF, inSeq, e]
    rfl
  refine ⟨_, a, fun hb => ?_⟩
  cases p with
  | non => cases e; simp [PyData.eqv] at hb
  | bl b => cases e; exact ⟨_, by simp [eqF, toR, nod, PyData.depth]; rfl, trivial⟩
  | int i => cases e; exact ⟨_, by rw [eqF_int]; simp; rfl, trivial⟩
  | str s => cases e; simp [PyData.eqv] at hb
  | tup ps =>
    simp only [toR] at e
    obtain ⟨ds, _, rfl⟩ := Option.map_eq_some_iff.mp e
    simp [PyData.eqv] at hb
  | lst ps =>
    simp only [toR] at e
    obtain ⟨ds, _, rfl⟩ := Option.map_eq_some_iff.mp e
    simp [PyData.eqv] at hb
  | dct ks =>
    simp only [toR] at e
    obtain ⟨ds, _, rfl⟩ := Option.map_eq_some_iff.mp e
    simp [PyData.eqv] at hb
  | ref a => simp [lf] at h
  | loc a => simp [lf] at h
/-- odd values -/
structure OddL (os : List PV) : Prop where
  l : ∀ p ∈ os, lf p = true
  d : ∀ p ∈ os, dp p ≤ 3
  b : ∀ p ∈ os, bk p ≤ 100
  n0 : 0 < os.length
  n1 : os.length < 1000
def Bent (p v : PV) : Prop := lf v = true ∧ dp v ≤ dp p + 3 ∧ bk v ≤ 2 * bk p + 100
theorem Bent.odd {os : List PV} (o : OddL os) {p v : PV} (h : v ∈ os) : Bent p v := ⟨o.l v h, by have := o.d v h; omega, by have := o.b v h; omega⟩
theorem Bent.bl {p : PV} {b : Bool} : Bent p (.bl b) := ⟨rfl, by simp [dp], by simp [bk]⟩
theorem bks_split (ps : List PV) (k : Nat) : bks (ps.take k) + bks (ps.drop k) = bks ps := by rw [← bks_app, List.take_append_drop]
theorem dps_split (ps : List PV) (k : Nat) : max (dps (ps.take k)) (dps (ps.drop k)) = dps ps := by rw [← dps_app, List.take_append_drop]
theorem lfs_app {a b : List PV} (h1 : lfs a = true) (h2 : lfs b = true) : lfs (a ++ b) = true := lfs_of fun p m => (List.mem_append.mp m).elim (lfs_all h1 p) (lfs_all h2 p)
theorem lfs_take {a : List PV} (h : lfs a = true) (k : Nat) : lfs (a.take k) = true := lfs_of fun p m => lfs_all h p (List.mem_of_mem_take m)
theorem lfs_drop {a : List PV} (h : lfs a = true) (k : Nat) : lfs (a.drop k) = true := lfs_of fun p m => lfs_all h p (List.mem_of_mem_drop m)
theorem bks_le (ps : List PV) (k : Nat) : bks (ps.take k) ≤ bks ps ∧ bks (ps.drop k) ≤ bks ps := by have := bks_split ps k; omega
theorem dps_le (ps : List PV) (k : Nat) : dps (ps.take k) ≤ dps ps ∧ dps (ps.drop k) ≤ dps ps := by have := dps_split ps k; omega
theorem bent_tup {ps qs : List PV} (h1 : lfs qs = true) (h2 : dps qs ≤ dps ps + 3) (h3 : bks qs ≤ 2 * bks ps + 100) : Bent (.tup ps) (.tup qs) := ⟨by simpa only [lf] using h1, by simp only [dp]; omega, by simp only [bk]; omega⟩
theorem bent_lst {ps qs : List PV} (h1 : lfs qs = true) (h2 : dps qs ≤ dps ps + 3) (h3 : bks qs ≤ 2 * bks ps + 100) : Bent (.tup ps) (.lst qs) := ⟨by simpa only [lf] using h1, by simp only [dp]; omega, by simp only [bk]; omega⟩
theorem addF_tup {a b : List PV} (h : a.length + b.length ≤ 16777216) : addF (.tup a) (.tup b) = some (.tup (a ++ b)) := by
  simp only [addF]; rw [if_pos h]
theorem bent_sat {n : Nat × Nat} {os : List PV} (o : OddL os) : ∀ (k : Nat) (p : PV), dp p < k → lf p = true → bk p ≤ 100000 → M.sat n (F__law_bent k [.loc n.1, p, .lst os]) (Bent p)
  | 0, p, h, _, _ => absurd h (Nat.not_lt_zero _)
  | k + 1, p, hd, hl, hb => by
    -- leaving at once
    have leave : ∀ (x y : Option SV), M.sat n (fRet [] (fIfE (fAndT (fCmpT inF (fVar 1) (fTup (fCons (fC (.int 0)) (fCons (fC (.int 1)) fNil)))) (fCmpT eqF (fCall 2 F__law_draw (fCons (fVar 0) (fCons (fC (.int 2)) fNil))) (fC (.int 0)))) (fCmp eqF (fVar 1) (fC (.int 1))) (fCall 2 F__law_pick (fCons (fVar 0) (fCons (fVar 2) fNil))))
        [some (.val (.loc n.1)), some (.val p), some (.val (.lst os)), x, y]) fun r => ∃ v, r = .rt v ∧ Bent p v := fun x y => by
      have pick : M.sat n ((F__law_pick [.loc n.1, .lst os]).bind fun p => M.ret (Out.rt p)) fun r => ∃ v, r = .rt v ∧ Bent p v :=
        M.sat_bindE (pick_sat o.n0 (by have := o.n1; omega)) fun v hv => M.sat_ret ⟨v, rfl, .odd o hv⟩
      obtain ⟨b, e1, e2⟩ := inF01 hl
      cases b with
      | false => simp [e1, pick, bodyF, slots, fSeq, fIf, fRet, fRetN, fAsg, fDo, fPass, fCnt, fBrk, fPar, fAM, setItS, fOwn, fmL, fmFn, fVar, fC, fOp, fUn, fCmp, fCmpT, fCh, fChT, fTru, truF, fNotT, fAndT, fOrT, fNotV, fAndV, fOrV, fIfE, fNil, fCons, fTup, fLst, fFn, f1, f2, fIsi, isiF, fSl, fNoO, fSmO, slF, fCall, fCallK, fMt, isStrB, fIt, itF, fRg1, fRg2, lenF, listF, tupleF, seqF, fRaise, M.ret_bind, M.raise_bind, M.bad_bind, M.ofO_some, M.ofO_none, M.ne_ret, M.ne_raise, M.ite_bind, M.bind_assoc, bor, rel, lck, Tg.goS, setAllS, Tg.go, setAll, wpI, pick, ixF, ixS, addF, negF, ltF, leF, gtF, geF, ciF, List.map_cons, List.map_nil, List.length_cons, List.length_nil, List.set_cons_zero, List.set_cons_succ, List.set_nil, List.getElem?_cons_zero, List.getElem?_cons_succ, List.replicate, List.cons_append, List.nil_append, Option.join_some, Option.join_none, Option.map_some, Option.map_none, Option.bind_some, Option.bind_none]
      | true =>
        obtain ⟨c, e3, _⟩ := e2 rfl
        simp [e1, bodyF, slots, fSeq, fIf, fRet, fRetN, fAsg, fDo, fPass, fCnt, fBrk, fPar, fAM, setItS, fOwn, fmL, fmFn, fVar, fC, fOp, fUn, fCmp, fCmpT, fCh, fChT, fTru, truF, fNotT, fAndT, fOrT, fNotV, fAndV, fOrV, fIfE, fNil, fCons, fTup, fLst, fFn, f1, f2, fIsi, isiF, fSl, fNoO, fSmO, slF, fCall, fCallK, fMt, isStrB, fIt, itF, fRg1, fRg2, lenF, listF, tupleF, seqF, fRaise, M.ret_bind, M.raise_bind, M.bad_bind, M.ofO_some, M.ofO_none, M.ne_ret, M.ne_raise, M.ite_bind, M.bind_assoc, bor, rel, lck, Tg.goS, setAllS, Tg.go, setAll, wpI, pick, ixF, ixS, addF, negF, ltF, leF, gtF, geF, ciF, List.map_cons, List.map_nil, List.length_cons, List.length_nil, List.set_cons_zero, List.set_cons_succ, List.set_nil, List.getElem?_cons_zero, List.getElem?_cons_succ, List.replicate, List.cons_append, List.nil_append, Option.join_some, Option.join_none, Option.map_some, Option.map_none, Option.bind_some, Option.bind_none]
        refine M.sat_bind (M.sat_draw (by decide) (by decide) fun r r0 r1 => ?_)
        cases hr : (r == 0) with
        | true => simp [eqF_int, hr, e3, bodyF, slots, fSeq, fIf, fRet, fRetN, fAsg, fDo, fPass, fCnt, fBrk, fPar, fAM, setItS, fOwn, fmL, fmFn, fVar, fC, fOp, fUn, fCmp, fCmpT, fCh, fChT, fTru, truF, fNotT, fAndT, fOrT, fNotV, fAndV, fOrV, fIfE, fNil, fCons, fTup, fLst, fFn, f1, f2, fIsi, isiF, fSl, fNoO, fSmO, slF, fCall, fCallK, fMt, isStrB, fIt, itF, fRg1, fRg2, lenF, listF, tupleF, seqF, fRaise, M.ret_bind, M.raise_bind, M.bad_bind, M.ofO_some, M.ofO_none, M.ne_ret, M.ne_raise, M.ite_bind, M.bind_assoc, bor, rel, lck, Tg.goS, setAllS, Tg.go, setAll, wpI, pick, ixF, ixS, addF, negF, ltF, leF, gtF, geF, ciF, List.map_cons, List.map_nil, List.length_cons, List.length_nil, List.set_cons_zero, List.set_cons_succ, List.set_nil, List.getElem?_cons_zero, List.getElem?_cons_succ, List.replicate, List.cons_append, List.nil_append, Option.join_some, Option.join_none, Option.map_some, Option.map_none, Option.bind_some, Option.bind_none, M.sat_ret_iff]; exact .bl
        | false => simp [eqF_int, hr, pick, bodyF, slots, fSeq, fIf, fRet, fRetN, fAsg, fDo, fPass, fCnt, fBrk, fPar, fAM, setItS, fOwn, fmL, fmFn, fVar, fC, fOp, fUn, fCmp, fCmpT, fCh, fChT, fTru, truF, fNotT, fAndT, fOrT, fNotV, fAndV, fOrV, fIfE, fNil, fCons, fTup, fLst, fFn, f1, f2, fIsi, isiF, fSl, fNoO, fSmO, slF, fCall, fCallK, fMt, isStrB, fIt, itF, fRg1, fRg2, lenF, listF, tupleF, seqF, fRaise, M.ret_bind, M.raise_bind, M.bad_bind, M.ofO_some, M.ofO_none, M.ne_ret, M.ne_raise, M.ite_bind, M.bind_assoc, bor, rel, lck, Tg.goS, setAllS, Tg.go, setAll, wpI, pick, ixF, ixS, addF, negF, ltF, leF, gtF, geF, ciF, List.map_cons, List.map_nil, List.length_cons, List.length_nil, List.set_cons_zero, List.set_cons_succ, List.set_nil, List.getElem?_cons_zero, List.getElem?_cons_succ, List.replicate, List.cons_append, List.nil_append, Option.join_some, Option.join_none, Option.map_some, Option.map_none, Option.bind_some, Option.bind_none]
    refine sat_bodyR ?_
    unfold f__law_bent
    have leaveX : ∀ (x y : Option SV), M.sat n (fRet [] (fIfE (fAndT (fCmpT inF (fVar 1) (fTup (fCons (fC (.int 0)) (fCons (fC (.int 1)) fNil)))) (fCmpT eqF (fCall 2 F__law_draw (fCons (fVar 0) (fCons (fC (.int 2)) fNil))) (fC (.int 0)))) (fCmp eqF (fVar 1) (fC (.int 1))) (fCall 2 F__law_pick (fCons (fVar 0) (fCons (fVar 2) fNil))))
        [some (.val (.loc n.1)), some (.val p), some (.val (.lst os)), x, y]) fun r => ∃ v, r = .rt v ∧ ∃ w, Out.rt v = .rt w ∧ Bent p w := fun x y =>
      M.sat_mono (fun o q => by obtain ⟨v, rfl, q⟩ := q; exact ⟨v, rfl, v, rfl, q⟩) (leave x y)
    cases p with
    | tup ps =>
      have hls : lfs ps = true := by simpa only [lf] using hl
      have hbs : bks ps ≤ 100000 := by simpa only [bk] using hb
      by_cases e : ps = []
      · subst e
        refine sat_seqX ?_
        rw [ifT (by simp [eqF_tup0 hl, bodyF, slots, fSeq, fIf, fRet, fRetN, fAsg, fDo, fPass, fCnt, fBrk, fPar, fAM, setItS, fOwn, fmL, fmFn, fVar, fC, fOp, fUn, fCmp, fCmpT, fCh, fChT, fTru, truF, fNotT, fAndT, fOrT, fNotV, fAndV, fOrV, fIfE, fNil, fCons, fTup, fLst, fFn, f1, f2, fIsi, isiF, fSl, fNoO, fSmO, slF, fCall, fCallK, fMt, isStrB, fIt, itF, fRg1, fRg2, lenF, listF, tupleF, seqF, fRaise, M.ret_bind, M.raise_bind, M.bad_bind, M.ofO_some, M.ofO_none, M.ne_ret, M.ne_raise, M.ite_bind, M.bind_assoc, bor, rel, lck, Tg.goS, setAllS, Tg.go, setAll, wpI, pick, ixF, ixS, addF, negF, ltF, leF, gtF, geF, ciF, List.map_cons, List.map_nil, List.length_cons, List.length_nil, List.set_cons_zero, List.set_cons_succ, List.set_nil, List.getElem?_cons_zero, List.getElem?_cons_succ, List.replicate, List.cons_append, List.nil_append, Option.join_some, Option.join_none, Option.map_some, Option.map_none, Option.bind_some, Option.bind_none])]
        exact leaveX none none
      · have e2 : ps.isEmpty = false := by cases ps <;> first | rfl | exact absurd rfl e
        have hlen : 0 < ps.length := List.length_pos_iff.mpr e
        have hmost : ps.length ≤ 100000 := Nat.le_trans (len_bks ps) hbs
        refine sat_seqA (σ' := slots 5 [.loc n.1, .tup ps, .lst os]) ?_ ?_
        · refine M.sat_bindE (P := fun _ => True) ?_ fun b _ => ?_
          · simp [eqF_tup0 hl, e2, e, bodyF, slots, fSeq, fIf, fRet, fRetN, fAsg, fDo, fPass, fCnt, fBrk, fPar, fAM, setItS, fOwn, fmL, fmFn, fVar, fC, fOp, fUn, fCmp, fCmpT, fCh, fChT, fTru, truF, fNotT, fAndT, fOrT, fNotV, fAndV, fOrV, fIfE, fNil, fCons, fTup, fLst, fFn, f1, f2, fIsi, isiF, fSl, fNoO, fSmO, slF, fCall, fCallK, fMt, isStrB, fIt, itF, fRg1, fRg2, lenF, listF, tupleF, seqF, fRaise, M.ret_bind, M.raise_bind, M.bad_bind, M.ofO_some, M.ofO_none, M.ne_ret, M.ne_raise, M.ite_bind, M.bind_assoc, bor, rel, lck, Tg.goS, setAllS, Tg.go, setAll, wpI, pick, ixF, ixS, addF, negF, ltF, leF, gtF, geF, ciF, List.map_cons, List.map_nil, List.length_cons, List.length_nil, List.set_cons_zero, List.set_cons_succ, List.set_nil, List.getElem?_cons_zero, List.getElem?_cons_succ, List.replicate, List.cons_append, List.nil_append, Option.join_some, Option.join_none, Option.map_some, Option.map_none, Option.bind_some, Option.bind_none]
            refine M.sat_bind (M.sat_draw (by decide) (by decide) fun r r0 r1 => ?_)
            simp [eqF_int, bodyF, slots, fSeq, fIf, fRet, fRetN, fAsg, fDo, fPass, fCnt, fBrk, fPar, fAM, setItS, fOwn, fmL, fmFn, fVar, fC, fOp, fUn, fCmp, fCmpT, fCh, fChT, fTru, truF, fNotT, fAndT, fOrT, fNotV, fAndV, fOrV, fIfE, fNil, fCons, fTup, fLst, fFn, f1, f2, fIsi, isiF, fSl, fNoO, fSmO, slF, fCall, fCallK, fMt, isStrB, fIt, itF, fRg1, fRg2, lenF, listF, tupleF, seqF, fRaise, M.ret_bind, M.raise_bind, M.bad_bind, M.ofO_some, M.ofO_none, M.ne_ret, M.ne_raise, M.ite_bind, M.bind_assoc, bor, rel, lck, Tg.goS, setAllS, Tg.go, setAll, wpI, pick, ixF, ixS, addF, negF, ltF, leF, gtF, geF, ciF, List.map_cons, List.map_nil, List.length_cons, List.length_nil, List.set_cons_zero, List.set_cons_succ, List.set_nil, List.getElem?_cons_zero, List.getElem?_cons_succ, List.replicate, List.cons_append, List.nil_append, Option.join_some, Option.join_none, Option.map_some, Option.map_none, Option.bind_some, Option.bind_none, M.sat_ret_iff]
          · cases b with
            | true => exact M.sat_mono (fun o q => .inr q) (leaveX none none)
            | false => exact M.sat_ret (.inl rfl)
        · refine sat_seqP (P := fun σ => ∃ (k : Nat) (w : Int), k < ps.length ∧ σ = [some (.val (.loc n.1)), some (.val (.tup ps)), some (.val (.lst os)), some (.val (.int k)), some (.val (.int w))]) ?_ ?_
          · simp [bodyF, slots, fSeq, fIf, fRet, fRetN, fAsg, fDo, fPass, fCnt, fBrk, fPar, fAM, setItS, fOwn, fmL, fmFn, fVar, fC, fOp, fUn, fCmp, fCmpT, fCh, fChT, fTru, truF, fNotT, fAndT, fOrT, fNotV, fAndV, fOrV, fIfE, fNil, fCons, fTup, fLst, fFn, f1, f2, fIsi, isiF, fSl, fNoO, fSmO, slF, fCall, fCallK, fMt, isStrB, fIt, itF, fRg1, fRg2, lenF, listF, tupleF, seqF, fRaise, M.ret_bind, M.raise_bind, M.bad_bind, M.ofO_some, M.ofO_none, M.ne_ret, M.ne_raise, M.ite_bind, M.bind_assoc, bor, rel, lck, Tg.goS, setAllS, Tg.go, setAll, wpI, pick, ixF, ixS, addF, negF, ltF, leF, gtF, geF, ciF, List.map_cons, List.map_nil, List.length_cons, List.length_nil, List.set_cons_zero, List.set_cons_succ, List.set_nil, List.getElem?_cons_zero, List.getElem?_cons_succ, List.replicate, List.cons_append, List.nil_append, Option.join_some, Option.join_none, Option.map_some, Option.map_none, Option.bind_some, Option.bind_none]
            refine M.sat_bind (M.sat_draw (by omega) (by omega) fun r r0 r1 => ?_)
            refine M.sat_bind (M.sat_draw (by decide) (by decide) fun w w0 w1 => ?_)
            refine M.sat_ret ⟨_, rfl, r.toNat, by omega, w, ?_⟩
            rw [show ((r.toNat : Nat) : Int) = r by omega]
          · rintro σ' ⟨k', w, hk, rfl⟩
            have a9 : addF (.int (k' : Int)) (.int 1) = some (.int ((k' : Int) + 1)) := rfl
            have c1 : ∀ b : Nat, cutP ps none (some (b : Int)) = ps.take b := cutP_take ps
            have c2 : ∀ b : Nat, cutP ps (some (b : Int)) none = ps.drop b := cutP_drop ps
            have c1' : cutP ps none (some ((k' : Int) + 1)) = ps.take (k' + 1) := by have := c1 (k' + 1); simpa using this
            have c2' : cutP ps (some ((k' : Int) + 1)) none = ps.drop (k' + 1) := by have := c2 (k' + 1); simpa using this
            have lt := fun j => List.length_take_le' j ps
            have ld := fun j => (List.length_drop (i := j) (l := ps))
            have bl := bks_le ps
            have dl := dps_le ps
            cases b0 : (w == 0) with
            | true =>
              refine sat_seqR (v := .tup (ps.take k' ++ ps.drop (k' + 1))) ?_ ⟨_, rfl, bent_tup (lfs_app (lfs_take hls _) (lfs_drop hls _)) ?_ ?_⟩
              · have a := addF_tup (a := ps.take k') (b := ps.drop (k' + 1)) (by have := lt k'; have := ld (k' + 1); omega)
                simp [eqF_int, b0, c1, c2', a, a9, bodyF, slots, fSeq, fIf, fRet, fRetN, fAsg, fDo, fPass, fCnt, fBrk, fPar, fAM, setItS, fOwn, fmL, fmFn, fVar, fC, fOp, fUn, fCmp, fCmpT, fCh, fChT, fTru, truF, fNotT, fAndT, fOrT, fNotV, fAndV, fOrV, fIfE, fNil, fCons, fTup, fLst, fFn, f1, f2, fIsi, isiF, fSl, fNoO, fSmO, slF, fCall, fCallK, fMt, isStrB, fIt, itF, fRg1, fRg2, lenF, listF, tupleF, seqF, fRaise, M.ret_bind, M.raise_bind, M.bad_bind, M.ofO_some, M.ofO_none, M.ne_ret, M.ne_raise, M.ite_bind, M.bind_assoc, bor, rel, lck, Tg.goS, setAllS, Tg.go, setAll, wpI, pick, ixF, ixS, negF, ltF, leF, gtF, geF, ciF, List.map_cons, List.map_nil, List.length_cons, List.length_nil, List.set_cons_zero, List.set_cons_succ, List.set_nil, List.getElem?_cons_zero, List.getElem?_cons_succ, List.replicate, List.cons_append, List.nil_append, Option.join_some, Option.join_none, Option.map_some, Option.map_none, Option.bind_some, Option.bind_none]
              · have := dl k'; have := dl (k' + 1); rw [dps_app]; omega
              · have := bl k'; have := bl (k' + 1); rw [bks_app]; omega
            | false =>
              refine sat_guard (by simp [eqF_int, b0, bodyF, slots, fSeq, fIf, fRet, fRetN, fAsg, fDo, fPass, fCnt, fBrk, fPar, fAM, setItS, fOwn, fmL, fmFn, fVar, fC, fOp, fUn, fCmp, fCmpT, fCh, fChT, fTru, truF, fNotT, fAndT, fOrT, fNotV, fAndV, fOrV, fIfE, fNil, fCons, fTup, fLst, fFn, f1, f2, fIsi, isiF, fSl, fNoO, fSmO, slF, fCall, fCallK, fMt, isStrB, fIt, itF, fRg1, fRg2, lenF, listF, tupleF, seqF, fRaise, M.ret_bind, M.raise_bind, M.bad_bind, M.ofO_some, M.ofO_none, M.ne_ret, M.ne_raise, M.ite_bind, M.bind_assoc, bor, rel, lck, Tg.goS, setAllS, Tg.go, setAll, wpI, pick, ixF, ixS, addF, negF, ltF, leF, gtF, geF, ciF, List.map_cons, List.map_nil, List.length_cons, List.length_nil, List.set_cons_zero, List.set_cons_succ, List.set_nil, List.getElem?_cons_zero, List.getElem?_cons_succ, List.replicate, List.cons_append, List.nil_append, Option.join_some, Option.join_none, Option.map_some, Option.map_none, Option.bind_some, Option.bind_none]) ?_
              cases b1 : (w == 1) with
              | true =>
                refine sat_seqR (v := .tup (ps.take (k' + 1) ++ ps.drop k')) ?_ ⟨_, rfl, bent_tup (lfs_app (lfs_take hls _) (lfs_drop hls _)) ?_ ?_⟩
                · have a := addF_tup (a := ps.take (k' + 1)) (b := ps.drop k') (by have := lt (k' + 1); have := ld k'; omega)
                  have a9 : addF (.int (k' : Int)) (.int 1) = some (.int ((k' : Int) + 1)) := rfl
                  simp [eqF_int, b1, c1', c2, a, a9, bodyF, slots, fSeq, fIf, fRet, fRetN, fAsg, fDo, fPass, fCnt, fBrk, fPar, fAM, setItS, fOwn, fmL, fmFn, fVar, fC, fOp, fUn, fCmp, fCmpT, fCh, fChT, fTru, truF, fNotT, fAndT, fOrT, fNotV, fAndV, fOrV, fIfE, fNil, fCons, fTup, fLst, fFn, f1, f2, fIsi, isiF, fSl, fNoO, fSmO, slF, fCall, fCallK, fMt, isStrB, fIt, itF, fRg1, fRg2, lenF, listF, tupleF, seqF, fRaise, M.ret_bind, M.raise_bind, M.bad_bind, M.ofO_some, M.ofO_none, M.ne_ret, M.ne_raise, M.ite_bind, M.bind_assoc, bor, rel, lck, Tg.goS, setAllS, Tg.go, setAll, wpI, pick, ixF, ixS, negF, ltF, leF, gtF, geF, ciF, List.map_cons, List.map_nil, List.length_cons, List.length_nil, List.set_cons_zero, List.set_cons_succ, List.set_nil, List.getElem?_cons_zero, List.getElem?_cons_succ, List.replicate, List.cons_append, List.nil_append, Option.join_some, Option.join_none, Option.map_some, Option.map_none, Option.bind_some, Option.bind_none]
                · have := dl k'; have := dl (k' + 1); rw [dps_app]; omega
                · have := bl k'; have := bl (k' + 1); rw [bks_app]; omega
              | false =>
                refine sat_guard (by simp [eqF_int, b1, bodyF, slots, fSeq, fIf, fRet, fRetN, fAsg, fDo, fPass, fCnt, fBrk, fPar, fAM, setItS, fOwn, fmL, fmFn, fVar, fC, fOp, fUn, fCmp, fCmpT, fCh, fChT, fTru, truF, fNotT, fAndT, fOrT, fNotV, fAndV, fOrV, fIfE, fNil, fCons, fTup, fLst, fFn, f1, f2, fIsi, isiF, fSl, fNoO, fSmO, slF, fCall, fCallK, fMt, isStrB, fIt, itF, fRg1, fRg2, lenF, listF, tupleF, seqF, fRaise, M.ret_bind, M.raise_bind, M.bad_bind, M.ofO_some, M.ofO_none, M.ne_ret, M.ne_raise, M.ite_bind, M.bind_assoc, bor, rel, lck, Tg.goS, setAllS, Tg.go, setAll, wpI, pick, ixF, ixS, addF, negF, ltF, leF, gtF, geF, ciF, List.map_cons, List.map_nil, List.length_cons, List.length_nil, List.set_cons_zero, List.set_cons_succ, List.set_nil, List.getElem?_cons_zero, List.getElem?_cons_succ, List.replicate, List.cons_append, List.nil_append, Option.join_some, Option.join_none, Option.map_some, Option.map_none, Option.bind_some, Option.bind_none]) ?_
                cases b2 : (w == 2) with
                | true =>
                  refine sat_seqR (v := .lst ps) (by simp [eqF_int, b2, bodyF, slots, fSeq, fIf, fRet, fRetN, fAsg, fDo, fPass, fCnt, fBrk, fPar, fAM, setItS, fOwn, fmL, fmFn, fVar, fC, fOp, fUn, fCmp, fCmpT, fCh, fChT, fTru, truF, fNotT, fAndT, fOrT, fNotV, fAndV, fOrV, fIfE, fNil, fCons, fTup, fLst, fFn, f1, f2, fIsi, isiF, fSl, fNoO, fSmO, slF, fCall, fCallK, fMt, isStrB, fIt, itF, fRg1, fRg2, lenF, listF, tupleF, seqF, fRaise, M.ret_bind, M.raise_bind, M.bad_bind, M.ofO_some, M.ofO_none, M.ne_ret, M.ne_raise, M.ite_bind, M.bind_assoc, bor, rel, lck, Tg.goS, setAllS, Tg.go, setAll, wpI, pick, ixF, ixS, addF, negF, ltF, leF, gtF, geF, ciF, List.map_cons, List.map_nil, List.length_cons, List.length_nil, List.set_cons_zero, List.set_cons_succ, List.set_nil, List.getElem?_cons_zero, List.getElem?_cons_succ, List.replicate, List.cons_append, List.nil_append, Option.join_some, Option.join_none, Option.map_some, Option.map_none, Option.bind_some, Option.bind_none]) ⟨_, rfl, bent_lst hls (by omega) (by omega)⟩
                | false =>
                  refine sat_guard (by simp [eqF_int, b2, bodyF, slots, fSeq, fIf, fRet, fRetN, fAsg, fDo, fPass, fCnt, fBrk, fPar, fAM, setItS, fOwn, fmL, fmFn, fVar, fC, fOp, fUn, fCmp, fCmpT, fCh, fChT, fTru, truF, fNotT, fAndT, fOrT, fNotV, fAndV, fOrV, fIfE, fNil, fCons, fTup, fLst, fFn, f1, f2, fIsi, isiF, fSl, fNoO, fSmO, slF, fCall, fCallK, fMt, isStrB, fIt, itF, fRg1, fRg2, lenF, listF, tupleF, seqF, fRaise, M.ret_bind, M.raise_bind, M.bad_bind, M.ofO_some, M.ofO_none, M.ne_ret, M.ne_raise, M.ite_bind, M.bind_assoc, bor, rel, lck, Tg.goS, setAllS, Tg.go, setAll, wpI, pick, ixF, ixS, addF, negF, ltF, leF, gtF, geF, ciF, List.map_cons, List.map_nil, List.length_cons, List.length_nil, List.set_cons_zero, List.set_cons_succ, List.set_nil, List.getElem?_cons_zero, List.getElem?_cons_succ, List.replicate, List.cons_append, List.nil_append, Option.join_some, Option.join_none, Option.map_some, Option.map_none, Option.bind_some, Option.bind_none]) ?_
                  cases b3 : (w == 3) with
                  | true =>
                    refine sat_seqR (v := .tup (ps.drop k' ++ ps.take k')) ?_ ⟨_, rfl, bent_tup (lfs_app (lfs_drop hls _) (lfs_take hls _)) ?_ ?_⟩
                    · have a := addF_tup (a := ps.drop k') (b := ps.take k') (by have := lt k'; have := ld k'; omega)
                      simp [eqF_int, b3, c1, c2, a, bodyF, slots, fSeq, fIf, fRet, fRetN, fAsg, fDo, fPass, fCnt, fBrk, fPar, fAM, setItS, fOwn, fmL, fmFn, fVar, fC, fOp, fUn, fCmp, fCmpT, fCh, fChT, fTru, truF, fNotT, fAndT, fOrT, fNotV, fAndV, fOrV, fIfE, fNil, fCons, fTup, fLst, fFn, f1, f2, fIsi, isiF, fSl, fNoO, fSmO, slF, fCall, fCallK, fMt, isStrB, fIt, itF, fRg1, fRg2, lenF, listF, tupleF, seqF, fRaise, M.ret_bind, M.raise_bind, M.bad_bind, M.ofO_some, M.ofO_none, M.ne_ret, M.ne_raise, M.ite_bind, M.bind_assoc, bor, rel, lck, Tg.goS, setAllS, Tg.go, setAll, wpI, pick, ixF, ixS, negF, ltF, leF, gtF, geF, ciF, List.map_cons, List.map_nil, List.length_cons, List.length_nil, List.set_cons_zero, List.set_cons_succ, List.set_nil, List.getElem?_cons_zero, List.getElem?_cons_succ, List.replicate, List.cons_append, List.nil_append, Option.join_some, Option.join_none, Option.map_some, Option.map_none, Option.bind_some, Option.bind_none]
                    · have := dl k'; rw [dps_app]; omega
                    · have := bl k'; rw [bks_app]; omega
                  | false =>
                    refine sat_guard (by simp [eqF_int, b3, bodyF, slots, fSeq, fIf, fRet, fRetN, fAsg, fDo, fPass, fCnt, fBrk, fPar, fAM, setItS, fOwn, fmL, fmFn, fVar, fC, fOp, fUn, fCmp, fCmpT, fCh, fChT, fTru, truF, fNotT, fAndT, fOrT, fNotV, fAndV, fOrV, fIfE, fNil, fCons, fTup, fLst, fFn, f1, f2, fIsi, isiF, fSl, fNoO, fSmO, slF, fCall, fCallK, fMt, isStrB, fIt, itF, fRg1, fRg2, lenF, listF, tupleF, seqF, fRaise, M.ret_bind, M.raise_bind, M.bad_bind, M.ofO_some, M.ofO_none, M.ne_ret, M.ne_raise, M.ite_bind, M.bind_assoc, bor, rel, lck, Tg.goS, setAllS, Tg.go, setAll, wpI, pick, ixF, ixS, addF, negF, ltF, leF, gtF, geF, ciF, List.map_cons, List.map_nil, List.length_cons, List.length_nil, List.set_cons_zero, List.set_cons_succ, List.set_nil, List.getElem?_cons_zero, List.getElem?_cons_succ, List.replicate, List.cons_append, List.nil_append, Option.join_some, Option.join_none, Option.map_some, Option.map_none, Option.bind_some, Option.bind_none]) ?_
                    have a1 := atI_nat ps k' hk
                    rw [List.getElem?_eq_getElem hk] at a1
                    have sp : ps = ps.take k' ++ ps[k'] :: ps.drop (k' + 1) := by simp
                    have hx : lf ps[k'] = true := lfs_all hls _ (List.getElem_mem hk)
                    have hbk : bk ps[k'] + 1 ≤ bks ps := bk_mem (List.getElem_mem hk)
                    have hdk : dp ps[k'] ≤ dps ps := dp_mem (List.getElem_mem hk)
                    have b4 : bks ps = bks (ps.take k') + (bk ps[k'] + 1 + bks (ps.drop (k' + 1))) := by
                      conv => lhs; rw [sp]
                      rw [bks_app]
                      simp only [bks]
                    have ih := bent_sat (n := n) o k ps[k'] (by simp only [dp] at hd; omega) hx (by omega)
                    simp [a1, c1, c2', bodyF, slots, fSeq, fIf, fRet, fRetN, fAsg, fDo, fPass, fCnt, fBrk, fPar, fAM, setItS, fOwn, fmL, fmFn, fVar, fC, fOp, fUn, fCmp, fCmpT, fCh, fChT, fTru, truF, fNotT, fAndT, fOrT, fNotV, fAndV, fOrV, fIfE, fNil, fCons, fTup, fLst, fFn, f1, f2, fIsi, isiF, fSl, fNoO, fSmO, slF, fCall, fCallK, fMt, isStrB, fIt, itF, fRg1, fRg2, lenF, listF, tupleF, seqF, fRaise, M.ret_bind, M.raise_bind, M.bad_bind, M.ofO_some, M.ofO_none, M.ne_ret, M.ne_raise, M.ite_bind, M.bind_assoc, bor, rel, lck, Tg.goS, setAllS, Tg.go, setAll, wpI, pick, ixF, ixS, negF, ltF, leF, gtF, geF, ciF, List.map_cons, List.map_nil, List.length_cons, List.length_nil, List.set_cons_zero, List.set_cons_succ, List.set_nil, List.getElem?_cons_zero, List.getElem?_cons_succ, List.replicate, List.cons_append, List.nil_append, Option.join_some, Option.join_none, Option.map_some, Option.map_none, Option.bind_some, Option.bind_none]
                    refine M.sat_bindE ih fun v hv => ?_
                    have q1 : addF (.tup (ps.take k')) (.tup [v]) = some (.tup (ps.take k' ++ [v])) := addF_tup (by have := lt k'; simp; omega)
                    have q2 : addF (.tup (ps.take k' ++ [v])) (.tup (ps.drop (k' + 1))) = some (.tup (ps.take k' ++ [v] ++ ps.drop (k' + 1))) := addF_tup (by have := lt k'; have := ld (k' + 1); simp; omega)
                    have q3 : addF (.int (k' : Int)) (.int 1) = some (.int ((k' : Int) + 1)) := rfl
                    simp [q1, q2, q3, c2', bodyF, slots, fSeq, fIf, fRet, fRetN, fAsg, fDo, fPass, fCnt, fBrk, fPar, fAM, setItS, fOwn, fmL, fmFn, fVar, fC, fOp, fUn, fCmp, fCmpT, fCh, fChT, fTru, truF, fNotT, fAndT, fOrT, fNotV, fAndV, fOrV, fIfE, fNil, fCons, fTup, fLst, fFn, f1, f2, fIsi, isiF, fSl, fNoO, fSmO, slF, fCall, fCallK, fMt, isStrB, fIt, itF, fRg1, fRg2, lenF, listF, tupleF, seqF, fRaise, M.ret_bind, M.raise_bind, M.bad_bind, M.ofO_some, M.ofO_none, M.ne_ret, M.ne_raise, M.ite_bind, M.bind_assoc, bor, rel, lck, Tg.goS, setAllS, Tg.go, setAll, wpI, pick, ixF, ixS, negF, ltF, leF, gtF, geF, ciF, List.map_cons, List.map_nil, List.length_cons, List.length_nil, List.set_cons_zero, List.set_cons_succ, List.set_nil, List.getElem?_cons_zero, List.getElem?_cons_succ, List.replicate, List.cons_append, List.nil_append, Option.join_some, Option.join_none, Option.map_some, Option.map_none, Option.bind_some, Option.bind_none]
                    obtain ⟨v1, v2, v3⟩ := hv
                    refine M.sat_ret ⟨_, rfl, bent_tup (lfs_app (lfs_take hls _) ?_) ?_ ?_⟩
                    · simp only [lfs, v1, lfs_drop hls, Bool.and_self]
                    · have := dl k'; have := dl (k' + 1); rw [dps_app]; simp only [dps]; omega
                    · rw [bks_app]; simp only [bks]; omega
    | _ => first | (simp [lf] at hl; done) | (refine sat_seqX ?_; rw [ifT (by simp [bodyF, slots, fSeq, fIf, fRet, fRetN, fAsg, fDo, fPass, fCnt, fBrk, fPar, fAM, setItS, fOwn, fmL, fmFn, fVar, fC, fOp, fUn, fCmp, fCmpT, fCh, fChT, fTru, truF, fNotT, fAndT, fOrT, fNotV, fAndV, fOrV, fIfE, fNil, fCons, fTup, fLst, fFn, f1, f2, fIsi, isiF, fSl, fNoO, fSmO, slF, fCall, fCallK, fMt, isStrB, fIt, itF, fRg1, fRg2, lenF, listF, tupleF, seqF, fRaise, M.ret_bind, M.raise_bind, M.bad_bind, M.ofO_some, M.ofO_none, M.ne_ret, M.ne_raise, M.ite_bind, M.bind_assoc, bor, rel, lck, Tg.goS, setAllS, Tg.go, setAll, wpI, pick, ixF, ixS, addF, negF, ltF, leF, gtF, geF, ciF, List.map_cons, List.map_nil, List.length_cons, List.length_nil, List.set_cons_zero, List.set_cons_succ, List.set_nil, List.getElem?_cons_zero, List.getElem?_cons_succ, List.replicate, List.cons_append, List.nil_append, Option.join_some, Option.join_none, Option.map_some, Option.map_none, Option.bind_some, Option.bind_none])]; exact leaveX none none)
end K89

set_option Elab.async false
set_option linter.all false
set_option maxRecDepth 100000
set_option maxHeartbeats 1000000
/-! plain side 8: odd values; machines drawn. -/
namespace K89
open PySem PySem.Spec L2 RF
def odds : List PV := [.non, .bl true, .bl false, .int 0, .int 1, .int 7, .int (-1), .str "", .str "0", .str "stay", .str "go", .tup [], .lst [], .dct [], .tup [.int 0, .str "stay"], .tup [.tup [.int 0, .str "stay"]], .int 1000000000000000000000000000000000000000, .tup [.tup [.int 0, .str "cut"], .tup [.int 0, .str "cut"], .tup [.int 0, .str "cut"]]]
theorem odd_eq : F__law_odd [] = M.ret (.lst odds) := by
  simp [F__law_odd, f__law_odd, odds, powF, iiF, bodyF, slots, fSeq, fIf, fRet, fRetN, fAsg, fDo, fPass, fCnt, fBrk, fPar, fAM, setItS, fOwn, fmL, fmFn, fVar, fC, fOp, fUn, fCmp, fCmpT, fCh, fChT, fTru, truF, fNotT, fAndT, fOrT, fNotV, fAndV, fOrV, fIfE, fNil, fCons, fTup, fLst, fFn, f1, f2, fIsi, isiF, fSl, fNoO, fSmO, slF, fCall, fCallK, fMt, isStrB, fIt, itF, fRg1, fRg2, lenF, listF, tupleF, seqF, fRaise, M.ret_bind, M.raise_bind, M.bad_bind, M.ofO_some, M.ofO_none, M.ne_ret, M.ne_raise, M.ite_bind, M.bind_assoc, bor, rel, lck, Tg.goS, setAllS, Tg.go, setAll, wpI, pick, ixF, ixS, addF, negF, ltF, leF, gtF, geF, ciF, List.map_cons, List.map_nil, List.length_cons, List.length_nil, List.set_cons_zero, List.set_cons_succ, List.set_nil, List.getElem?_cons_zero, List.getElem?_cons_succ, List.replicate, List.cons_append, List.nil_append, Option.join_some, Option.join_none, Option.map_some, Option.map_none, Option.bind_some, Option.bind_none]
theorem odd_l : OddL odds where
  l := by
    have h : (odds.all lf) = true := by decide +kernel
    exact List.all_eq_true.mp h
  d := by
    have h : (odds.all fun p => decide (dp p ≤ 3)) = true := by decide +kernel
    exact fun p m => of_decide_eq_true (List.all_eq_true.mp h p m)
  b := by
    have h : (odds.all fun p => decide (bk p ≤ 100)) = true := by decide +kernel
    exact fun p m => of_decide_eq_true (List.all_eq_true.mp h p m)
  n0 := by decide +kernel
  n1 := by decide +kernel
theorem deed_short : ∀ d ∈ deeds, lf (.str d) = true ∧ bk (.str d) ≤ 4 := by
  have h : (deeds.all fun d => lf (.str d) && decide (bk (.str d) ≤ 4)) = true := by decide +kernel
  intro d m
  simpa using List.all_eq_true.mp h d m
theorem rule_inv {m : Int} {r : PV} (h : isRule m r = true) : ∃ to d, r = .tup [.int to, .str d] ∧ 0 ≤ to ∧ to ≤ m ∧ d ∈ deeds := by
  cases r <;> first | (simp [isRule] at h; done) | skip
  case tup ab =>
    match ab, h with
    | [], h => simp [isRule] at h
    | [a], h => simp [isRule] at h
    | a :: b :: c :: r, h => simp [isRule] at h
    | [a, b], h =>
      have h : isNum a m = true ∧ isOne b deeds = true := by simpa only [isRule, Bool.and_eq_true] using h
      cases a with
      | int to =>
        cases b with
        | str d =>
          have h1 : 0 ≤ to ∧ to ≤ m := by simpa only [isNum, Bool.and_eq_true, decide_eq_true_eq] using h.1
          exact ⟨to, d, rfl, h1.1, h1.2, by simpa [isOne] using h.2⟩
        | _ => simp [isOne] at h
      | _ => simp [isNum] at h
theorem rule_of {m to : Int} {d : Str} (h0 : 0 ≤ to) (h1 : to ≤ m) (h2 : d ∈ deeds) : isRule m (.tup [.int to, .str d]) = true := by
  simp only [isRule, isNum, isOne, Bool.and_eq_true, decide_eq_true_eq]
  exact ⟨⟨h0, h1⟩, by simpa using h2⟩
def Fine (d b : Nat) (p : PV) : Prop := lf p = true ∧ dp p ≤ d ∧ bk p ≤ b
theorem rule_fine {m : Int} (hm : m ≤ 1000000) {r : PV} (h : isRule m r = true) : Fine 1 6 r := by
  obtain ⟨to, d, rfl, h0, h1, h2⟩ := rule_inv h
  obtain ⟨a, b⟩ := deed_short d h2
  have big : to.natAbs < 10 ^ 100 := Nat.lt_of_le_of_lt (show to.natAbs ≤ 1000000 by omega) (by decide +kernel)
  refine ⟨?_, ?_, ?_⟩
  · simp only [lf, lfs, Bool.and_eq_true, decide_eq_true_eq] at a ⊢
    exact ⟨big, a, trivial⟩
  · simp [dp, dps]
  · simp only [bk, bks] at b ⊢
    omega
theorem fine_all {d b : Nat} : ∀ {ps : List PV}, (∀ p ∈ ps, Fine d b p) → lfs ps = true ∧ dps ps ≤ d ∧ bks ps ≤ ps.length * (b + 1)
  | [], _ => ⟨rfl, Nat.zero_le _, Nat.zero_le _⟩
  | p :: ps, h => by
    obtain ⟨a1, a2, a3⟩ := h p (List.mem_cons_self ..)
    obtain ⟨b1, b2, b3⟩ := fine_all fun q m => h q (List.mem_cons_of_mem _ m)
    refine ⟨by simp only [lfs, a1, b1]; rfl, by simp only [dps]; omega, ?_⟩
    simp only [bks, List.length_cons, Nat.add_mul, Nat.one_mul]
    omega
theorem state_inv {m : Int} {s : PV} (h : isState m s = true) : ∃ rs, s = .tup rs ∧ rs.length = 3 ∧ ∀ r ∈ rs, isRule m r = true := by
  cases s <;> first | (simp [isState] at h; done) | skip
  case tup rs =>
    have h : rs.length = 3 ∧ rs.all (isRule m) = true := by simpa only [isState, Bool.and_eq_true, decide_eq_true_eq] using h
    exact ⟨rs, rfl, h.1, List.all_eq_true.mp h.2⟩
theorem state_of {m : Int} {rs : List PV} (h1 : rs.length = 3) (h2 : ∀ r ∈ rs, isRule m r = true) : isState m (.tup rs) = true := by
  simp only [isState, h1, Bool.and_eq_true, decide_eq_true_eq]
  exact ⟨trivial, List.all_eq_true.mpr h2⟩
theorem state_fine {m : Int} (hm : m ≤ 1000000) {s : PV} (h : isState m s = true) : Fine 2 21 s := by
  obtain ⟨rs, rfl, h1, h2⟩ := state_inv h
  obtain ⟨a1, a2, a3⟩ := fine_all fun r mr => rule_fine hm (h2 r mr)
  exact ⟨by simpa only [lf] using a1, by simp only [dp]; omega, by simp only [bk]; rw [h1] at a3; omega⟩
theorem mach_fine {ms : List PV} (hm : ms.length ≤ 1000000) (h : isMach (.tup ms) = true) : Fine 3 (22 * ms.length) (.tup ms) := by
  have h : ms.isEmpty = false ∧ ms.all (isState ms.length) = true := by simpa only [isMach, Bool.and_eq_true, Bool.not_eq_true'] using h
  obtain ⟨a1, a2, a3⟩ := fine_all fun r mr => state_fine (m := ms.length) (by omega) (List.all_eq_true.mp h.2 r mr)
  exact ⟨by simpa only [lf] using a1, by simp only [dp]; omega, by simp only [bk]; omega⟩
end K89

set_option Elab.async false
set_option linter.all false
set_option maxRecDepth 100000
set_option maxHeartbeats 1000000
/-! plain side 9: machines drawn. -/
namespace K89
open PySem PySem.Spec L2 RF
theorem draw0_sat {n : Nat × Nat} {many : Int} {Q : Bool → Prop} (h0 : 0 < many) (h1 : many < 1000000000) (h : ∀ b, Q b) : M.sat n ((drawF [.loc n.1, .int many]).bind fun x => M.ofO (eqF x (.int 0))) Q := by
  refine M.sat_bind (M.sat_draw h0 h1 fun r r0 r1 => ?_)
  rw [eqF_int]
  exact M.sat_ret (h _)
/-- a list of deeds -/
def DeedL (v : PV) : Prop := ∃ ds : List Str, v = .lst (ds.map PV.str) ∧ (∀ d ∈ ds, d ∈ deeds) ∧ 0 < ds.length ∧ ds.length < 100
theorem deedl (ds : List Str) (h : (ds.all fun d => deeds.contains d) = true) (h1 : 0 < ds.length) (h2 : ds.length < 100) : DeedL (.lst (ds.map PV.str)) := ⟨ds, rfl, fun d m => by
  have := List.all_eq_true.mp h d m
  simpa using this, h1, h2⟩
theorem pick_deed {n : Nat × Nat} {v : PV} (h : DeedL v) : M.sat n (F__law_pick [.loc n.1, v]) fun x => ∃ d, x = .str d ∧ d ∈ deeds := by
  obtain ⟨ds, rfl, h1, h2, h3⟩ := h
  refine M.sat_mono (fun x mx => ?_) (pick_sat (n := n) (ps := ds.map PV.str) (by simpa using h2) (by simp; omega))
  obtain ⟨d, md, rfl⟩ := List.mem_map.mp mx
  exact ⟨d, rfl, h1 d md⟩
theorem nl_rule {m : Int} {r : PV} (h : isRule m r = true) : nl r = true := by
  obtain ⟨to, d, rfl, _⟩ := rule_inv h
  rfl
theorem machine_sat {n : Nat × Nat} {m : Int} (h0 : 1 ≤ m) (h1 : m ≤ 100) : M.sat n (F__law_machine [.loc n.1, .int m]) fun v => ∃ ms, v = .tup ms ∧ isMach (.tup ms) = true ∧ ms.length ≤ m := by
  refine sat_bodyR ?_
  unfold f__law_machine
  -- many, machine, rare
  refine sat_seqP (P := fun σ => ∃ (many : Nat) (rare : Int), 1 ≤ many ∧ many ≤ m ∧ 0 < rare ∧ rare ≤ 40 ∧ σ = [some (.val (.loc n.1)), some (.val (.int m)), some (.val (.int many)), some (.own (.lst [])), some (.val (.int rare)), none, none, none, none, none]) ?_ ?_
  · refine M.sat_keep fun Q hQ => ?_
    simp [bodyF, slots, fSeq, fIf, fRet, fRetN, fAsg, fDo, fPass, fCnt, fBrk, fPar, fAM, setItS, fOwn, fmL, fmFn, fVar, fC, fOp, fUn, fCmp, fCmpT, fCh, fChT, fTru, truF, fNotT, fAndT, fOrT, fNotV, fAndV, fOrV, fIfE, fNil, fCons, fTup, fLst, fFn, f1, f2, fIsi, isiF, fSl, fNoO, fSmO, slF, fCall, fCallK, fMt, isStrB, fIt, itF, fRg1, fRg2, lenF, listF, tupleF, seqF, fRaise, M.ret_bind, M.raise_bind, M.bad_bind, M.ofO_some, M.ofO_none, M.ne_ret, M.ne_raise, M.ite_bind, M.bind_assoc, bor, rel, lck, Tg.goS, setAllS, Tg.go, setAll, wpI, pick, ixF, ixS, addF, negF, ltF, leF, gtF, geF, ciF, List.map_cons, List.map_nil, List.length_cons, List.length_nil, List.set_cons_zero, List.set_cons_succ, List.set_nil, List.getElem?_cons_zero, List.getElem?_cons_succ, List.replicate, List.cons_append, List.nil_append, Option.join_some, Option.join_none, Option.map_some, Option.map_none, Option.bind_some, Option.bind_none]
    refine M.sat_bind (M.sat_draw (by omega) (by omega) fun r r0 r1 => ?_)
    simp [bodyF, slots, fSeq, fIf, fRet, fRetN, fAsg, fDo, fPass, fCnt, fBrk, fPar, fAM, setItS, fOwn, fmL, fmFn, fVar, fC, fOp, fUn, fCmp, fCmpT, fCh, fChT, fTru, truF, fNotT, fAndT, fOrT, fNotV, fAndV, fOrV, fIfE, fNil, fCons, fTup, fLst, fFn, f1, f2, fIsi, isiF, fSl, fNoO, fSmO, slF, fCall, fCallK, fMt, isStrB, fIt, itF, fRg1, fRg2, lenF, listF, tupleF, seqF, fRaise, M.ret_bind, M.raise_bind, M.bad_bind, M.ofO_some, M.ofO_none, M.ne_ret, M.ne_raise, M.ite_bind, M.bind_assoc, bor, rel, lck, Tg.goS, setAllS, Tg.go, setAll, wpI, pick, ixF, ixS, addF, negF, ltF, leF, gtF, geF, ciF, List.map_cons, List.map_nil, List.length_cons, List.length_nil, List.set_cons_zero, List.set_cons_succ, List.set_nil, List.getElem?_cons_zero, List.getElem?_cons_succ, List.replicate, List.cons_append, List.nil_append, Option.join_some, Option.join_none, Option.map_some, Option.map_none, Option.bind_some, Option.bind_none]
    refine M.sat_bindE (pick_sat (n := n) (ps := [.int 6, .int 3, .int 40]) (by decide) (by decide)) fun v hv => ?_
    simp only [List.mem_cons, List.not_mem_nil, or_false] at hv
    have e : ((r.toNat + 1 : Nat) : Int) = 1 + r := by omega
    rcases hv with rfl | rfl | rfl
    · exact M.sat_ret (hQ _ ⟨_, rfl, r.toNat + 1, 6, by omega, by omega, by decide, by decide, by rw [e]⟩)
    · exact M.sat_ret (hQ _ ⟨_, rfl, r.toNat + 1, 3, by omega, by omega, by decide, by decide, by rw [e]⟩)
    · exact M.sat_ret (hQ _ ⟨_, rfl, r.toNat + 1, 40, by omega, by omega, by decide, by decide, by rw [e]⟩)
  rintro σ ⟨many, rare, m0, m1, ra0, ra1, rfl⟩
  -- deeds
  refine sat_seqN' (σ' := [some (.val (.loc n.1)), some (.val (.int m)), some (.val (.int many)), some (.own (.lst [])), some (.val (.int rare)), some (.val (.lst (([ "over", "put1", "stay", "cut", "back", "put0"] : List Str).map PV.str))), none, none, none, none]) (by simp [bodyF, slots, fSeq, fIf, fRet, fRetN, fAsg, fDo, fPass, fCnt, fBrk, fPar, fAM, setItS, fOwn, fmL, fmFn, fVar, fC, fOp, fUn, fCmp, fCmpT, fCh, fChT, fTru, truF, fNotT, fAndT, fOrT, fNotV, fAndV, fOrV, fIfE, fNil, fCons, fTup, fLst, fFn, f1, f2, fIsi, isiF, fSl, fNoO, fSmO, slF, fCall, fCallK, fMt, isStrB, fIt, itF, fRg1, fRg2, lenF, listF, tupleF, seqF, fRaise, M.ret_bind, M.raise_bind, M.bad_bind, M.ofO_some, M.ofO_none, M.ne_ret, M.ne_raise, M.ite_bind, M.bind_assoc, bor, rel, lck, Tg.goS, setAllS, Tg.go, setAll, wpI, pick, ixF, ixS, addF, negF, ltF, leF, gtF, geF, ciF, List.map_cons, List.map_nil, List.length_cons, List.length_nil, List.set_cons_zero, List.set_cons_succ, List.set_nil, List.getElem?_cons_zero, List.getElem?_cons_succ, List.replicate, List.cons_append, List.nil_append, Option.join_some, Option.join_none, Option.map_some, Option.map_none, Option.bind_some, Option.bind_none]) ?_
  refine sat_seqP (P := fun σ => ∃ v, DeedL v ∧ σ = [some (.val (.loc n.1)), some (.val (.int m)), some (.val (.int many)), some (.own (.lst [])), some (.val (.int rare)), some (.val v), none, none, none, none]) ?_ ?_
  · refine M.sat_bindE (P := fun _ => True) ?_ fun b _ => ?_
    · simp only [bodyF, slots, fSeq, fIf, fRet, fRetN, fAsg, fDo, fPass, fCnt, fBrk, fPar, fAM, setItS, fOwn, fmL, fmFn, fVar, fC, fOp, fUn, fCmp, fCmpT, fCh, fChT, fTru, truF, fNotT, fAndT, fOrT, fNotV, fAndV, fOrV, fIfE, fNil, fCons, fTup, fLst, fFn, f1, f2, fIsi, isiF, fSl, fNoO, fSmO, slF, fCall, fCallK, fMt, isStrB, fIt, itF, fRg1, fRg2, lenF, listF, tupleF, seqF, fRaise, M.ret_bind, M.raise_bind, M.bad_bind, M.ofO_some, M.ofO_none, M.ne_ret, M.ne_raise, M.ite_bind, M.bind_assoc, bor, rel, lck, Tg.goS, setAllS, Tg.go, setAll, wpI, pick, ixF, ixS, addF, negF, ltF, leF, gtF, geF, ciF, List.map_cons, List.map_nil, List.length_cons, List.length_nil, List.set_cons_zero, List.set_cons_succ, List.set_nil, List.getElem?_cons_zero, List.getElem?_cons_succ, List.replicate, List.cons_append, List.nil_append, Option.join_some, Option.join_none, Option.map_some, Option.map_none, Option.bind_some, Option.bind_none]
      exact draw0_sat (by decide) (by decide) fun _ => trivial
    · cases b with
      | false => exact M.sat_ret ⟨_, rfl, _, deedl _ (by decide +kernel) (by decide) (by decide), rfl⟩
      | true =>
        refine M.sat_keep fun Q hQ => ?_
        simp [bodyF, slots, fSeq, fIf, fRet, fRetN, fAsg, fDo, fPass, fCnt, fBrk, fPar, fAM, setItS, fOwn, fmL, fmFn, fVar, fC, fOp, fUn, fCmp, fCmpT, fCh, fChT, fTru, truF, fNotT, fAndT, fOrT, fNotV, fAndV, fOrV, fIfE, fNil, fCons, fTup, fLst, fFn, f1, f2, fIsi, isiF, fSl, fNoO, fSmO, slF, fCall, fCallK, fMt, isStrB, fIt, itF, fRg1, fRg2, lenF, listF, tupleF, seqF, fRaise, M.ret_bind, M.raise_bind, M.bad_bind, M.ofO_some, M.ofO_none, M.ne_ret, M.ne_raise, M.ite_bind, M.bind_assoc, bor, rel, lck, Tg.goS, setAllS, Tg.go, setAll, wpI, pick, ixF, ixS, addF, negF, ltF, leF, gtF, geF, ciF, List.map_cons, List.map_nil, List.length_cons, List.length_nil, List.set_cons_zero, List.set_cons_succ, List.set_nil, List.getElem?_cons_zero, List.getElem?_cons_succ, List.replicate, List.cons_append, List.nil_append, Option.join_some, Option.join_none, Option.map_some, Option.map_none, Option.bind_some, Option.bind_none]
        refine M.sat_bindE (pick_sat (n := n) (ps := [.lst (([ "over", "back", "put1", "over", "back"] : List Str).map PV.str), .lst (([ "put0", "over", "put1", "back", "over"] : List Str).map PV.str)]) (by decide) (by decide)) fun v hv => ?_
        simp only [List.mem_cons, List.not_mem_nil, or_false] at hv
        refine M.sat_ret (hQ _ ⟨_, rfl, v, ?_, rfl⟩)
        rcases hv with rfl | rfl
        · exact deedl _ (by decide +kernel) (by decide) (by decide)
        · exact deedl _ (by decide +kernel) (by decide) (by decide)
  rintro σ ⟨dv, hdv, rfl⟩
  refine sat_seqP (P := fun σ => ∃ xs a b c d, xs.length = many ∧ (∀ s ∈ xs, isState many s = true) ∧ σ = [some (.val (.loc n.1)), some (.val (.int m)), some (.val (.int many)), some (.own (.lst xs)), some (.val (.int rare)), some (.val dv), a, b, c, d]) ?_ ?_
  · refine sat_for0 (ps := intsL 0 many) (by simp [bodyF, slots, fSeq, fIf, fRet, fRetN, fAsg, fDo, fPass, fCnt, fBrk, fPar, fAM, setItS, fOwn, fmL, fmFn, fVar, fC, fOp, fUn, fCmp, fCmpT, fCh, fChT, fTru, truF, fNotT, fAndT, fOrT, fNotV, fAndV, fOrV, fIfE, fNil, fCons, fTup, fLst, fFn, f1, f2, fIsi, isiF, fSl, fNoO, fSmO, slF, fCall, fCallK, fMt, isStrB, fIt, itF, fRg1, fRg2, lenF, listF, tupleF, seqF, fRaise, M.ret_bind, M.raise_bind, M.bad_bind, M.ofO_some, M.ofO_none, M.ne_ret, M.ne_raise, M.ite_bind, M.bind_assoc, bor, rel, lck, Tg.goS, setAllS, Tg.go, setAll, wpI, pick, ixF, ixS, addF, negF, ltF, leF, gtF, geF, ciF, List.map_cons, List.map_nil, List.length_cons, List.length_nil, List.set_cons_zero, List.set_cons_succ, List.set_nil, List.getElem?_cons_zero, List.getElem?_cons_succ, List.replicate, List.cons_append, List.nil_append, Option.join_some, Option.join_none, Option.map_some, Option.map_none, Option.bind_some, Option.bind_none]; omega) ?_
    refine sat_forF (fun ps σ => ∃ xs a b c d, xs.length + ps.length = many ∧ (∀ s ∈ xs, isState many s = true) ∧ σ = [some (.val (.loc n.1)), some (.val (.int m)), some (.val (.int many)), some (.own (.lst xs)), some (.val (.int rare)), some (.val dv), a, b, c, d]) (fun σ i => ?_) (fun p ps σ i => ?_) _ _ ⟨[], none, none, none, none, by simp [intsL_len], by simp, rfl⟩
    · obtain ⟨xs, a, b, c, d, e1, e2, e3⟩ := i
      exact ⟨_, rfl, xs, a, b, c, d, by simpa using e1, e2, e3⟩
    · obtain ⟨xs, a, b, c, d, e1, e2, rfl⟩ := i
      rw [List.length_cons] at e1
      refine ⟨_, rfl, ?_⟩
      refine sat_seqN' (σ' := [some (.val (.loc n.1)), some (.val (.int m)), some (.val (.int many)), some (.own (.lst xs)), some (.val (.int rare)), some (.val dv), some (.val p), some (.own (.lst [])), c, d]) (by simp [flC, bodyF, slots, fSeq, fIf, fRet, fRetN, fAsg, fDo, fPass, fCnt, fBrk, fPar, fAM, setItS, fOwn, fmL, fmFn, fVar, fC, fOp, fUn, fCmp, fCmpT, fCh, fChT, fTru, truF, fNotT, fAndT, fOrT, fNotV, fAndV, fOrV, fIfE, fNil, fCons, fTup, fLst, fFn, f1, f2, fIsi, isiF, fSl, fNoO, fSmO, slF, fCall, fCallK, fMt, isStrB, fIt, itF, fRg1, fRg2, lenF, listF, tupleF, seqF, fRaise, M.ret_bind, M.raise_bind, M.bad_bind, M.ofO_some, M.ofO_none, M.ne_ret, M.ne_raise, M.ite_bind, M.bind_assoc, bor, rel, lck, Tg.goS, setAllS, Tg.go, setAll, wpI, pick, ixF, ixS, addF, negF, ltF, leF, gtF, geF, ciF, List.map_cons, List.map_nil, List.length_cons, List.length_nil, List.set_cons_zero, List.set_cons_succ, List.set_nil, List.getElem?_cons_zero, List.getElem?_cons_succ, List.replicate, List.cons_append, List.nil_append, Option.join_some, Option.join_none, Option.map_some, Option.map_none, Option.bind_some, Option.bind_none]) ?_
      refine sat_seqP (P := fun σ => ∃ rs c d, rs.length = 3 ∧ (∀ r ∈ rs, isRule many r = true) ∧ σ = [some (.val (.loc n.1)), some (.val (.int m)), some (.val (.int many)), some (.own (.lst xs)), some (.val (.int rare)), some (.val dv), some (.val p), some (.own (.lst rs)), c, d]) ?_ ?_
      · refine sat_for0 (ps := intsL 0 3) (by simp [bodyF, slots, fSeq, fIf, fRet, fRetN, fAsg, fDo, fPass, fCnt, fBrk, fPar, fAM, setItS, fOwn, fmL, fmFn, fVar, fC, fOp, fUn, fCmp, fCmpT, fCh, fChT, fTru, truF, fNotT, fAndT, fOrT, fNotV, fAndV, fOrV, fIfE, fNil, fCons, fTup, fLst, fFn, f1, f2, fIsi, isiF, fSl, fNoO, fSmO, slF, fCall, fCallK, fMt, isStrB, fIt, itF, fRg1, fRg2, lenF, listF, tupleF, seqF, fRaise, M.ret_bind, M.raise_bind, M.bad_bind, M.ofO_some, M.ofO_none, M.ne_ret, M.ne_raise, M.ite_bind, M.bind_assoc, bor, rel, lck, Tg.goS, setAllS, Tg.go, setAll, wpI, pick, ixF, ixS, addF, negF, ltF, leF, gtF, geF, ciF, List.map_cons, List.map_nil, List.length_cons, List.length_nil, List.set_cons_zero, List.set_cons_succ, List.set_nil, List.getElem?_cons_zero, List.getElem?_cons_succ, List.replicate, List.cons_append, List.nil_append, Option.join_some, Option.join_none, Option.map_some, Option.map_none, Option.bind_some, Option.bind_none]) ?_
        refine sat_forF (fun ps σ => ∃ rs c d, rs.length + ps.length = 3 ∧ (∀ r ∈ rs, isRule many r = true) ∧ σ = [some (.val (.loc n.1)), some (.val (.int m)), some (.val (.int many)), some (.own (.lst xs)), some (.val (.int rare)), some (.val dv), some (.val p), some (.own (.lst rs)), c, d]) (fun σ i => ?_) (fun q qs σ i => ?_) _ _ ⟨[], c, d, by simp [intsL_len], by simp, rfl⟩
        · obtain ⟨rs, c, d, g1, g2, g3⟩ := i
          exact ⟨_, rfl, rs, c, d, by simpa using g1, g2, g3⟩
        · obtain ⟨rs, c, d, g1, g2, rfl⟩ := i
          rw [List.length_cons] at g1
          refine ⟨_, rfl, ?_⟩
          refine sat_seqP (P := fun σ => ∃ to : Int, 0 ≤ to ∧ to ≤ many ∧ σ = [some (.val (.loc n.1)), some (.val (.int m)), some (.val (.int many)), some (.own (.lst xs)), some (.val (.int rare)), some (.val dv), some (.val p), some (.own (.lst rs)), some (.val q), some (.val (.int to))]) ?_ ?_
          · refine sat_asg (P := fun v => ∃ to : Int, v = .int to ∧ 0 ≤ to ∧ to ≤ many) ?_ ?_
            · refine M.sat_bindE (P := fun _ => True) ?_ fun b _ => ?_
              · simp only [bodyF, slots, fSeq, fIf, fRet, fRetN, fAsg, fDo, fPass, fCnt, fBrk, fPar, fAM, setItS, fOwn, fmL, fmFn, fVar, fC, fOp, fUn, fCmp, fCmpT, fCh, fChT, fTru, truF, fNotT, fAndT, fOrT, fNotV, fAndV, fOrV, fIfE, fNil, fCons, fTup, fLst, fFn, f1, f2, fIsi, isiF, fSl, fNoO, fSmO, slF, fCall, fCallK, fMt, isStrB, fIt, itF, fRg1, fRg2, lenF, listF, tupleF, seqF, fRaise, M.ret_bind, M.raise_bind, M.bad_bind, M.ofO_some, M.ofO_none, M.ne_ret, M.ne_raise, M.ite_bind, M.bind_assoc, bor, rel, lck, Tg.goS, setAllS, Tg.go, setAll, wpI, pick, ixF, ixS, addF, negF, ltF, leF, gtF, geF, ciF, List.map_cons, List.map_nil, List.length_cons, List.length_nil, List.set_cons_zero, List.set_cons_succ, List.set_nil, List.getElem?_cons_zero, List.getElem?_cons_succ, List.replicate, List.cons_append, List.nil_append, Option.join_some, Option.join_none, Option.map_some, Option.map_none, Option.bind_some, Option.bind_none]
                exact draw0_sat ra0 (by omega) fun _ => trivial
              · cases b with
                | true => exact M.sat_ret ⟨many, rfl, by omega, by omega⟩
                | false =>
                  refine M.sat_draw (by omega) (by omega) fun r r0 r1 => ⟨r, rfl, r0, by omega⟩
            · rintro v ⟨to, rfl, t0, t1⟩
              exact ⟨_, rfl, _, rfl, to, t0, t1, rfl⟩
          · rintro σ ⟨to, t0, t1, rfl⟩
            refine sat_chg (xs := rs) rfl (P := fun v => ∃ d, v = .tup [.int to, .str d] ∧ d ∈ deeds) ?_ ?_
            · refine M.sat_keep fun Q hQ => ?_
              simp [bodyF, slots, fSeq, fIf, fRet, fRetN, fAsg, fDo, fPass, fCnt, fBrk, fPar, fAM, setItS, fOwn, fmL, fmFn, fVar, fC, fOp, fUn, fCmp, fCmpT, fCh, fChT, fTru, truF, fNotT, fAndT, fOrT, fNotV, fAndV, fOrV, fIfE, fNil, fCons, fTup, fLst, fFn, f1, f2, fIsi, isiF, fSl, fNoO, fSmO, slF, fCall, fCallK, fMt, isStrB, fIt, itF, fRg1, fRg2, lenF, listF, tupleF, seqF, fRaise, M.ret_bind, M.raise_bind, M.bad_bind, M.ofO_some, M.ofO_none, M.ne_ret, M.ne_raise, M.ite_bind, M.bind_assoc, bor, rel, lck, Tg.goS, setAllS, Tg.go, setAll, wpI, pick, ixF, ixS, addF, negF, ltF, leF, gtF, geF, ciF, List.map_cons, List.map_nil, List.length_cons, List.length_nil, List.set_cons_zero, List.set_cons_succ, List.set_nil, List.getElem?_cons_zero, List.getElem?_cons_succ, List.replicate, List.cons_append, List.nil_append, Option.join_some, Option.join_none, Option.map_some, Option.map_none, Option.bind_some, Option.bind_none]
              refine M.sat_bindE (pick_deed hdv) fun v hv => ?_
              obtain ⟨d, rfl, hd⟩ := hv
              exact M.sat_ret (hQ _ ⟨d, rfl, hd⟩)
            · rintro v ⟨d, rfl, hd⟩
              refine ⟨rfl, _, appG_ok (by omega), ?_⟩
              refine ⟨rs ++ [.tup [.int to, .str d]], some (.val q), some (.val (.int to)), by simp; omega, fun r mr => ?_, rfl⟩
              rcases List.mem_append.mp mr with mr | mr
              · exact g2 r mr
              · rw [List.mem_singleton.mp mr]
                exact rule_of t0 t1 hd
      · rintro σ ⟨rs, c, d, g1, g2, rfl⟩
        have flat : nls [.tup rs] = true := by
          rw [nls_iff]
          intro x mx
          rw [List.mem_singleton.mp mx]
          simp only [nl]
          rw [nls_iff]
          exact fun r mr => nl_rule (g2 r mr)
        refine sat_chg (xs := xs) rfl (P := fun v => v = .tup rs) (M.sat_det (by simp [cellV, bodyF, slots, fSeq, fIf, fRet, fRetN, fAsg, fDo, fPass, fCnt, fBrk, fPar, fAM, setItS, fOwn, fmL, fmFn, fVar, fC, fOp, fUn, fCmp, fCmpT, fCh, fChT, fTru, truF, fNotT, fAndT, fOrT, fNotV, fAndV, fOrV, fIfE, fNil, fCons, fTup, fLst, fFn, f1, f2, fIsi, isiF, fSl, fNoO, fSmO, slF, fCall, fCallK, fMt, isStrB, fIt, itF, fRg1, fRg2, lenF, listF, tupleF, seqF, fRaise, M.ret_bind, M.raise_bind, M.bad_bind, M.ofO_some, M.ofO_none, M.ne_ret, M.ne_raise, M.ite_bind, M.bind_assoc, bor, rel, lck, Tg.goS, setAllS, Tg.go, setAll, wpI, pick, ixF, ixS, addF, negF, ltF, leF, gtF, geF, ciF, List.map_cons, List.map_nil, List.length_cons, List.length_nil, List.set_cons_zero, List.set_cons_succ, List.set_nil, List.getElem?_cons_zero, List.getElem?_cons_succ, List.replicate, List.cons_append, List.nil_append, Option.join_some, Option.join_none, Option.map_some, Option.map_none, Option.bind_some, Option.bind_none]) rfl) ?_
        rintro v rfl
        refine ⟨flat, _, appG_ok (by omega), ?_⟩
        refine ⟨xs ++ [.tup rs], some (.val p), some (.own (.lst rs)), c, d, by simp; omega, fun r mr => ?_, rfl⟩
        rcases List.mem_append.mp mr with mr | mr
        · exact e2 r mr
        · rw [List.mem_singleton.mp mr]
          exact state_of g1 g2
  rintro σ ⟨xs, a, b, c, d, hx, hst, rfl⟩
  refine sat_seqP (P := fun σ => ∃ xs, xs.length = many ∧ (∀ s ∈ xs, isState many s = true) ∧ σ = [some (.val (.loc n.1)), some (.val (.int m)), some (.val (.int many)), some (.own (.lst xs)), some (.val (.int rare)), some (.val dv), a, b, c, d]) ?_ ?_
  · refine sat_if (P := fun b => b = true → 1 < many) ?_ (fun hb => ?_) (fun _ => M.sat_ret ⟨_, rfl, xs, hx, hst, rfl⟩)
    · refine M.sat_keep fun Q hQ => ?_
      simp [bodyF, slots, fSeq, fIf, fRet, fRetN, fAsg, fDo, fPass, fCnt, fBrk, fPar, fAM, setItS, fOwn, fmL, fmFn, fVar, fC, fOp, fUn, fCmp, fCmpT, fCh, fChT, fTru, truF, fNotT, fAndT, fOrT, fNotV, fAndV, fOrV, fIfE, fNil, fCons, fTup, fLst, fFn, f1, f2, fIsi, isiF, fSl, fNoO, fSmO, slF, fCall, fCallK, fMt, isStrB, fIt, itF, fRg1, fRg2, lenF, listF, tupleF, seqF, fRaise, M.ret_bind, M.raise_bind, M.bad_bind, M.ofO_some, M.ofO_none, M.ne_ret, M.ne_raise, M.ite_bind, M.bind_assoc, bor, rel, lck, Tg.goS, setAllS, Tg.go, setAll, wpI, pick, ixF, ixS, addF, negF, ltF, leF, gtF, geF, ciF, List.map_cons, List.map_nil, List.length_cons, List.length_nil, List.set_cons_zero, List.set_cons_succ, List.set_nil, List.getElem?_cons_zero, List.getElem?_cons_succ, List.replicate, List.cons_append, List.nil_append, Option.join_some, Option.join_none, Option.map_some, Option.map_none, Option.bind_some, Option.bind_none]
      refine M.sat_ite (fun hm => ?_) (fun hm => M.sat_ret (hQ _ (by simp)))
      exact draw0_sat (by decide) (by decide) fun b => hQ _ fun _ => by omega
    · have h2 : 1 < many := hb rfl
      have setAt : ∀ (ys : List PV) (k : Nat) (p : PV), k < ys.length → setC (.lst ys) (.int k) p = some (.lst (ys.set k p)) := fun ys k p hk => by
        have e : ixN ys.length (k : Int) = some k := by
          unfold ixN
          rw [if_pos (by omega), if_pos (by omega)]
          simp
        show (ixN ys.length (k : Int)).map (fun j => Cell.lst (ys.set j p)) = _
        rw [e]
        rfl
      have setAll : ∀ (ys : List PV) (k : Nat) (p : PV), (∀ s ∈ ys, isState many s = true) → isState many p = true → ∀ s ∈ ys.set k p, isState many s = true := fun ys k p h1 h2 s ms => by
        rcases List.mem_or_eq_of_mem_set ms with h | rfl
        · exact h1 s h
        · exact h2
      refine sat_seqP (P := fun σ => ∃ xs, xs.length = many ∧ (∀ s ∈ xs, isState many s = true) ∧ σ = [some (.val (.loc n.1)), some (.val (.int m)), some (.val (.int many)), some (.own (.lst xs)), some (.val (.int rare)), some (.val dv), a, b, c, d]) ?_ ?_
      · refine sat_set (c := .lst xs) (k := .int 0) rfl (P := fun v => ∃ d, v = .tup [.tup [.int 1, .str d], .tup [.int 0, .str "over"], .tup [.int 0, .str "over"]] ∧ d ∈ deeds) ?_ rfl rfl ?_
        · refine M.sat_keep fun Q hQ => ?_
          simp [bodyF, slots, fSeq, fIf, fRet, fRetN, fAsg, fDo, fPass, fCnt, fBrk, fPar, fAM, setItS, fOwn, fmL, fmFn, fVar, fC, fOp, fUn, fCmp, fCmpT, fCh, fChT, fTru, truF, fNotT, fAndT, fOrT, fNotV, fAndV, fOrV, fIfE, fNil, fCons, fTup, fLst, fFn, f1, f2, fIsi, isiF, fSl, fNoO, fSmO, slF, fCall, fCallK, fMt, isStrB, fIt, itF, fRg1, fRg2, lenF, listF, tupleF, seqF, fRaise, M.ret_bind, M.raise_bind, M.bad_bind, M.ofO_some, M.ofO_none, M.ne_ret, M.ne_raise, M.ite_bind, M.bind_assoc, bor, rel, lck, Tg.goS, setAllS, Tg.go, setAll, wpI, pick, ixF, ixS, addF, negF, ltF, leF, gtF, geF, ciF, List.map_cons, List.map_nil, List.length_cons, List.length_nil, List.set_cons_zero, List.set_cons_succ, List.set_nil, List.getElem?_cons_zero, List.getElem?_cons_succ, List.replicate, List.cons_append, List.nil_append, Option.join_some, Option.join_none, Option.map_some, Option.map_none, Option.bind_some, Option.bind_none]
          refine M.sat_bindE (pick_deed (deedl [ "stay", "put1", "stay", "put0"] (by decide +kernel) (by decide) (by decide))) fun v hv => ?_
          obtain ⟨d, rfl, hd⟩ := hv
          exact M.sat_ret (hQ _ ⟨d, rfl, hd⟩)
        · rintro v ⟨e, rfl, he⟩
          refine ⟨rfl, _, setAt xs 0 _ (by omega), _, rfl, _, by simpa using hx, setAll xs 0 _ hst (state_of rfl ?_), rfl⟩
          intro r mr
          simp only [List.mem_cons, List.not_mem_nil, or_false] at mr
          rcases mr with rfl | rfl | rfl
          · exact rule_of (by decide) (by omega) he
          · exact rule_of (by decide) (by omega) (by decide +kernel)
          · exact rule_of (by decide) (by omega) (by decide +kernel)
      · rintro σ ⟨xs, hx, hst, rfl⟩
        have hk : 1 < xs.length := by omega
        obtain ⟨rs, e1, e2, e3⟩ := state_inv (hst _ (List.getElem_mem hk))
        have a1 : atI xs 1 = some (.tup rs) := by
          have := atI_nat xs 1 hk
          rw [List.getElem?_eq_getElem hk, e1] at this
          exact this
        have hk2 : 0 < rs.length := by omega
        have a2 : atI rs 0 = some rs[0] := by
          have := atI_nat rs 0 hk2
          rw [List.getElem?_eq_getElem hk2] at this
          exact this
        have h0 := e3 _ (List.getElem_mem hk2)
        generalize rs[0] = r0 at a2 h0
        refine sat_set (c := .lst xs) (k := .int 1) rfl (P := fun v => v = .tup [r0, .tup [.int 1, .str "back"], .tup [.int 1, .str "back"]]) (M.sat_det (by simp [cellV, a1, a2, bodyF, slots, fSeq, fIf, fRet, fRetN, fAsg, fDo, fPass, fCnt, fBrk, fPar, fAM, setItS, fOwn, fmL, fmFn, fVar, fC, fOp, fUn, fCmp, fCmpT, fCh, fChT, fTru, truF, fNotT, fAndT, fOrT, fNotV, fAndV, fOrV, fIfE, fNil, fCons, fTup, fLst, fFn, f1, f2, fIsi, isiF, fSl, fNoO, fSmO, slF, fCall, fCallK, fMt, isStrB, fIt, itF, fRg1, fRg2, lenF, listF, tupleF, seqF, fRaise, M.ret_bind, M.raise_bind, M.bad_bind, M.ofO_some, M.ofO_none, M.ne_ret, M.ne_raise, M.ite_bind, M.bind_assoc, bor, rel, lck, Tg.goS, setAllS, Tg.go, setAll, wpI, pick, ixF, ixS, addF, negF, ltF, leF, gtF, geF, ciF, List.map_cons, List.map_nil, List.length_cons, List.length_nil, List.set_cons_zero, List.set_cons_succ, List.set_nil, List.getElem?_cons_zero, List.getElem?_cons_succ, List.replicate, List.cons_append, List.nil_append, Option.join_some, Option.join_none, Option.map_some, Option.map_none, Option.bind_some, Option.bind_none]) rfl) rfl rfl ?_
        rintro v rfl
        refine ⟨?_, _, setAt xs 1 _ hk, _, rfl, _, by simpa using hx, setAll xs 1 _ hst (state_of rfl ?_), rfl⟩
        · obtain ⟨to, d, rfl, _⟩ := rule_inv h0
          rfl
        · intro r mr
          simp only [List.mem_cons, List.not_mem_nil, or_false] at mr
          rcases mr with rfl | rfl | rfl
          · exact h0
          · exact rule_of (by decide) (by omega) (by decide +kernel)
          · exact rule_of (by decide) (by omega) (by decide +kernel)
  · rintro σ ⟨xs, hx, hst, rfl⟩
    refine M.sat_mono (fun o q => ?_) (sat_ret_e (P := fun v => v = .tup xs) (M.sat_det (by simp [cellV, bodyF, slots, fSeq, fIf, fRet, fRetN, fAsg, fDo, fPass, fCnt, fBrk, fPar, fAM, setItS, fOwn, fmL, fmFn, fVar, fC, fOp, fUn, fCmp, fCmpT, fCh, fChT, fTru, truF, fNotT, fAndT, fOrT, fNotV, fAndV, fOrV, fIfE, fNil, fCons, fTup, fLst, fFn, f1, f2, fIsi, isiF, fSl, fNoO, fSmO, slF, fCall, fCallK, fMt, isStrB, fIt, itF, fRg1, fRg2, lenF, listF, tupleF, seqF, fRaise, M.ret_bind, M.raise_bind, M.bad_bind, M.ofO_some, M.ofO_none, M.ne_ret, M.ne_raise, M.ite_bind, M.bind_assoc, bor, rel, lck, Tg.goS, setAllS, Tg.go, setAll, wpI, pick, ixF, ixS, addF, negF, ltF, leF, gtF, geF, ciF, List.map_cons, List.map_nil, List.length_cons, List.length_nil, List.set_cons_zero, List.set_cons_succ, List.set_nil, List.getElem?_cons_zero, List.getElem?_cons_succ, List.replicate, List.cons_append, List.nil_append, Option.join_some, Option.join_none, Option.map_some, Option.map_none, Option.bind_some, Option.bind_none]) rfl))
    obtain ⟨v, rfl, rfl⟩ := q
    refine ⟨_, rfl, xs, rfl, ?_, by omega⟩
    have ne : xs.isEmpty = false := by cases xs <;> first | (simp at hx; omega) | rfl
    simp only [isMach, ne, hx, Bool.not_false, Bool.true_and]
    exact List.all_eq_true.mpr hst
end K89

set_option Elab.async false
set_option linter.all false
set_option maxRecDepth 100000
set_option maxHeartbeats 1000000
/-! plain side 10: standings; what is tried. -/
namespace K89
open PySem PySem.Spec L2 RF
theorem all_drop {l : List Nat} (h : l.all isB = true) : l.dropLast.all isB = true := List.all_eq_true.mpr fun c m => List.all_eq_true.mp h c (by rw [List.dropLast_eq_take] at m; exact List.mem_of_mem_take m)
theorem all_last {l : List Nat} (h : l.all isB = true) : (lastL l).all isB = true := List.all_eq_true.mpr fun c m => List.all_eq_true.mp h c (List.mem_of_mem_drop m)
theorem all_app {l r : List Nat} (h : l.all isB = true) (h2 : r.all isB = true) : (l ++ r).all isB = true := by rw [List.all_append, h, h2]; rfl
theorem done_w (d : Str) {l r : List Nat} (wl : l.all isB = true) (wr : r.all isB = true) : (doneL d l r).1.all isB = true ∧ (doneL d l r).2.all isB = true ∧ (doneL d l r).1.length ≤ l.length + 1 ∧ (doneL d l r).2.length ≤ r.length + 1 := by
  have a := last_len l
  have b := last_len r
  unfold doneL
  split
  · exact ⟨all_app wl rfl, wr, by simp, by simp⟩
  split
  · exact ⟨all_app wl rfl, wr, by simp, by simp⟩
  split
  · exact ⟨all_drop wl, wr, by simp; omega, by simp⟩
  split
  · exact ⟨all_drop wl, all_app wr (all_last wl), by simp; omega, by simp; omega⟩
  split
  · exact ⟨all_app wl (all_last wr), all_drop wr, by simp; omega, by simp; omega⟩
  · exact ⟨wl, wr, by simp, by simp⟩
/-- a standing of a machine of m states, its words no longer than b -/
def St (m b : Nat) (p : PV) : Prop := ∃ st l r, p = .tup [.int st, .str (S l), .str (S r)] ∧ 0 ≤ st ∧ st ≤ m ∧ l.all isB = true ∧ r.all isB = true ∧ l.length ≤ b ∧ r.length ≤ b
theorem stepL_st {ms : List PV} (h : isMach (.tup ms) = true) {st : Int} {l r : List Nat} {b : Nat} (h0 : 0 ≤ st) (h1 : st ≤ ms.length) (wl : l.all isB = true) (wr : r.all isB = true) (bl : l.length ≤ b) (br : r.length ≤ b) : St ms.length (b + 1) (stepL ms st l r) := by
  unfold stepL
  by_cases e : st = ms.length
  · rw [if_pos e]
    exact ⟨st, l, r, rfl, h0, h1, wl, wr, by omega, by omega⟩
  · rw [if_neg e]
    obtain ⟨rs, to, d, _, _, _, e4, t0, t1, _⟩ := ruleAt_some h (st := st.toNat) (by omega) l
    obtain ⟨a, c, a2, c2⟩ := done_w d wl wr
    rw [e4]
    exact ⟨to, _, _, rfl, t0, t1, a, c, by omega, by omega⟩
theorem word_fine {l : List Nat} (h : l.all isB = true) : lf (.str (S l)) = true := by
  simp only [lf, List.all_eq_true, decide_eq_true_eq] at h ⊢
  intro c m
  rcases isB_iff.mp (h c (by simpa using m)) with rfl | rfl <;> decide
theorem St.fine {m b : Nat} {p : PV} (hm : m ≤ 1000000) (h : St m b p) : Fine 1 (2 * b + 10) p := by
  obtain ⟨st, l, r, rfl, h0, h1, wl, wr, bl, br⟩ := h
  have big : st.natAbs < 10 ^ 100 := Nat.lt_of_le_of_lt (show st.natAbs ≤ 1000000 by omega) (by decide +kernel)
  have e : ∀ l : List Nat, bk (.str (S l)) = l.length := fun l => by simp [bk]
  refine ⟨?_, ?_, ?_⟩
  · simp only [lf, lfs, Bool.and_eq_true, decide_eq_true_eq]
    exact ⟨big, word_fine wl, word_fine wr, trivial⟩
  · simp [dp, dps]
  · simp only [bk, bks]
    simp
    omega
/-- the same step -/
theorem steps_same {ms : List PV} {b : Nat} {s : PV} (hm : ms.length ≤ 1000000) (h : isMach (.tup ms) = true) (hs : St ms.length b s) (hb : b ≤ 40000) :
    ∃ v, F_pile_step [.tup ms, s] = M.ret v ∧ F__law_pile_step [.tup ms, s] = M.ret v ∧ St ms.length (b + 1) v ∧ F__law_same [v, v] = M.ret (.bl true) := by
  obtain ⟨st, l, r, rfl, h0, h1, wl, wr, bl, br⟩ := hs
  have q := stepL_st h h0 h1 wl wr bl br
  have f := q.fine hm
  exact ⟨_, pile_ok hm (mach_fine hm h).1 h h0 h1 wl wr (by omega) (by omega), l_step_eq h h0 h1 wl wr (by omega) (by omega), q, same_eq f.1 (by have := f.2.1; omega) (by have := f.2.2; omega)⟩
theorem reprM_ok {p : PV} {d b : Nat} (h : Fine d b p) (hd : d ≤ 64) (hb : b ≤ 100000) : reprF p = some (.str (rp p)) := reprF_ok h.1 (by have := h.2.1; omega) (by have := h.2.2; omega)
theorem tr_raise {c : Str} (hc : c ∈ errs) {p : PV} (h : reprF p = some (.str (rp p))) : (tr (M.raise c p)).ne = M.ret (.tup [.str "raised", kindsV c, .str (rp p)]) := by
  unfold tr
  rw [tryM_raise]
  simp only [if_pos hc, reprM, h, M.ofO_some, M.ret_bind, M.ne_ret]
theorem tr_ret {p : PV} (h : reprF p = some (.str (rp p))) : (tr (M.ret p)).ne = M.ret (.tup [.str "returned", .str (rp p)]) := by
  unfold tr
  rw [tryM_ret]
  simp only [reprM, h, M.ofO_some, M.ret_bind, M.ne_ret]
theorem ne_raised (b1 b2 b3 b4 : Bool) (x : Str) : neF (.tup [.str "raised", .tup [.bl b1, .bl b2, .bl b3, .bl b4], .str x]) (.tup [.str "raised", .tup [.bl b1, .bl b2, .bl b3, .bl b4], .str x]) = some false := by
  simp [neF, toR, toRs, nod, nods, PyData.depth, PyData.depthAll, PyData.eqv, PyData.eqvAll]
theorem ne_returned (x : Str) : neF (.tup [.str "returned", .str x]) (.tup [.str "returned", .str x]) = some false := by
  simp [neF, toR, toRs, nod, nods, PyData.depth, PyData.depthAll, PyData.eqv, PyData.eqvAll]
theorem kinds_m : kindsV "BadMachine" = .tup [.bl true, .bl false, .bl false, .bl false] := by
  have a : ¬ ("BadMachine" : Str) = "BadStanding" := by decide +kernel
  have b : ¬ ("BadMachine" : Str) = "BadWord" := by decide +kernel
  have c : ¬ ("BadMachine" : Str) = "BadNumber" := by decide +kernel
  simp [kindsV, a, b, c]
theorem kinds_s : kindsV "BadStanding" = .tup [.bl false, .bl true, .bl false, .bl false] := by
  have a : ¬ ("BadStanding" : Str) = "BadMachine" := by decide +kernel
  have b : ¬ ("BadStanding" : Str) = "BadWord" := by decide +kernel
  have c : ¬ ("BadStanding" : Str) = "BadNumber" := by decide +kernel
  simp [kindsV, a, b, c]
end K89

set_option Elab.async false
set_option linter.all false
set_option maxRecDepth 100000
set_option maxHeartbeats 1000000
/-! plain side: many steps. -/
namespace K89
open PySem PySem.Spec L2 RF
def stepP (ms : List PV) (p : PV) : PV := match p with
  | .tup [.int st, .str l, .str r] => stepL ms st l.cps.toList r.cps.toList
  | p => p
theorem stepP_S (ms : List PV) (st : Int) (l r : List Nat) : stepP ms (.tup [.int st, .str (S l), .str (S r)]) = stepL ms st l r := by simp [stepP]
def after (ms : List PV) : Nat → PV → PV
  | 0, p => p
  | n + 1, p => after ms n (stepP ms p)
theorem stepP_st {ms : List PV} (h : isMach (.tup ms) = true) {b : Nat} {p : PV} (hs : St ms.length b p) : St ms.length (b + 1) (stepP ms p) := by
  obtain ⟨st, l, r, rfl, h0, h1, wl, wr, bl, br⟩ := hs
  rw [stepP_S]
  exact stepL_st h h0 h1 wl wr bl br
theorem after_st {ms : List PV} (h : isMach (.tup ms) = true) : ∀ (n : Nat) {b : Nat} {p : PV}, St ms.length b p → St ms.length (b + n) (after ms n p)
  | 0, b, p, hs => hs
  | n + 1, b, p, hs => by
    have := after_st h n (stepP_st h hs)
    rw [show b + 1 + n = b + (n + 1) by omega] at this
    exact this
theorem behind_p {ms : List PV} (h : isMach (.tup ms) = true) {b : Nat} {p : PV} (hs : St ms.length b p) (hb : b ≤ 40000) : F_standing_behind [.tup ms, p] = M.ret (stepP ms p) := by
  obtain ⟨st, l, r, rfl, h0, h1, wl, wr, bl, br⟩ := hs
  rw [stepP_S]
  exact behind_eq h h0 h1 wl (by omega) (by omega)
theorem l_step_p {ms : List PV} (h : isMach (.tup ms) = true) {b : Nat} {p : PV} (hs : St ms.length b p) (hb : b ≤ 40000) : F__law_pile_step [.tup ms, p] = M.ret (stepP ms p) := by
  obtain ⟨st, l, r, rfl, h0, h1, wl, wr, bl, br⟩ := hs
  rw [stepP_S]
  exact l_step_eq h h0 h1 wl wr (by omega) (by omega)
theorem l_after_eq {ms : List PV} (h : isMach (.tup ms) = true) (n : Nat) {b : Nat} {p : PV} (hs : St ms.length b p) (hb : b + n ≤ 40000) : F__law_after [.tup ms, p, .int n] = M.ret (after ms n p) := by
  have main : M.det (f__law_after (slots 4 [.tup ms, p, .int n])) fun o => o = .rt (after ms n p) := by
    unfold f__law_after
    refine M.det_bind (M.det_mono (Q := fun o => ∃ x, o = .nx [some (.val (.tup ms)), some (.val (after ms n p)), some (.val (.int n)), x]) (fun o q => ?_) (det_for0 (ps := intsL 0 n) (rg1E (j := n) rfl (by omega) (by simp only [bodyF, slots, fSeq, fIf, fRet, fRetN, fAsg, fDo, fPass, fCnt, fBrk, fPar, fAM, setItS, fOwn, fmL, fmFn, fVar, fC, fOp, fUn, fCmp, fCmpT, fCh, fChT, fTru, truF, fNotT, fAndT, fOrT, fNotV, fAndV, fOrV, fIfE, fNil, fCons, fTup, fLst, fFn, f1, f2, fIsi, isiF, fSl, fNoO, fSmO, slF, fCall, fCallK, fMt, isStrB, fIt, itF, fRg1, fRg2, lenF, listF, tupleF, seqF, fRaise, M.ret_bind, M.raise_bind, M.bad_bind, M.ofO_some, M.ofO_none, M.ne_ret, M.ne_raise, M.ite_bind, M.bind_assoc, bor, rel, lck, Tg.goS, setAllS, Tg.go, setAll, wpI, pick, ixF, ixS, addF, negF, ltF, leF, gtF, geF, ciF, List.map_cons, List.map_nil, List.length_cons, List.length_nil, List.set_cons_zero, List.set_cons_succ, List.set_nil, List.getElem?_cons_zero, List.getElem?_cons_succ, List.replicate, List.cons_append, List.nil_append, Option.join_some, Option.join_none, Option.map_some, Option.map_none, Option.bind_some, Option.bind_none])) (det_forF (fun ps σ => ∃ q x b', St ms.length b' q ∧ b' + ps.length ≤ 40000 ∧ after ms ps.length q = after ms n p ∧ σ = [some (.val (.tup ms)), some (.val q), some (.val (.int n)), x]) (fun σ i => ?_) (fun p ps σ i => ?_) _ _ ⟨p, none, b, hs, by rw [intsL_len]; exact hb, by rw [intsL_len], rfl⟩)))
    · obtain ⟨x, rfl⟩ := q
      exact M.det_eq (a := .rt (after ms n p)) (by simp [bodyF, slots, fSeq, fIf, fRet, fRetN, fAsg, fDo, fPass, fCnt, fBrk, fPar, fAM, setItS, fOwn, fmL, fmFn, fVar, fC, fOp, fUn, fCmp, fCmpT, fCh, fChT, fTru, truF, fNotT, fAndT, fOrT, fNotV, fAndV, fOrV, fIfE, fNil, fCons, fTup, fLst, fFn, f1, f2, fIsi, isiF, fSl, fNoO, fSmO, slF, fCall, fCallK, fMt, isStrB, fIt, itF, fRg1, fRg2, lenF, listF, tupleF, seqF, fRaise, M.ret_bind, M.raise_bind, M.bad_bind, M.ofO_some, M.ofO_none, M.ne_ret, M.ne_raise, M.ite_bind, M.bind_assoc, bor, rel, lck, Tg.goS, setAllS, Tg.go, setAll, wpI, pick, ixF, ixS, addF, negF, ltF, leF, gtF, geF, ciF, List.map_cons, List.map_nil, List.length_cons, List.length_nil, List.set_cons_zero, List.set_cons_succ, List.set_nil, List.getElem?_cons_zero, List.getElem?_cons_succ, List.replicate, List.cons_append, List.nil_append, Option.join_some, Option.join_none, Option.map_some, Option.map_none, Option.bind_some, Option.bind_none]) rfl
    · obtain ⟨q, x, b', a1, a2, a3, rfl⟩ := i
      exact ⟨x, by rw [← a3]; rfl⟩
    · obtain ⟨q, x, b', a1, a2, a3, rfl⟩ := i
      rw [List.length_cons] at a2 a3
      refine ⟨_, rfl, M.det_eq (a := .nx [some (.val (.tup ms)), some (.val (stepP ms q)), some (.val (.int n)), some (.val p)]) ?_ ⟨_, rfl, _, _, b' + 1, stepP_st h a1, by omega, a3, rfl⟩⟩
      simp [l_step_p h a1 (by omega), bodyF, slots, fSeq, fIf, fRet, fRetN, fAsg, fDo, fPass, fCnt, fBrk, fPar, fAM, setItS, fOwn, fmL, fmFn, fVar, fC, fOp, fUn, fCmp, fCmpT, fCh, fChT, fTru, truF, fNotT, fAndT, fOrT, fNotV, fAndV, fOrV, fIfE, fNil, fCons, fTup, fLst, fFn, f1, f2, fIsi, isiF, fSl, fNoO, fSmO, slF, fCall, fCallK, fMt, isStrB, fIt, itF, fRg1, fRg2, lenF, listF, tupleF, seqF, fRaise, M.ret_bind, M.raise_bind, M.bad_bind, M.ofO_some, M.ofO_none, M.ne_ret, M.ne_raise, M.ite_bind, M.bind_assoc, bor, rel, lck, Tg.goS, setAllS, Tg.go, setAll, wpI, pick, ixF, ixS, addF, negF, ltF, leF, gtF, geF, ciF, List.map_cons, List.map_nil, List.length_cons, List.length_nil, List.set_cons_zero, List.set_cons_succ, List.set_nil, List.getElem?_cons_zero, List.getElem?_cons_succ, List.replicate, List.cons_append, List.nil_append, Option.join_some, Option.join_none, Option.map_some, Option.map_none, Option.bind_some, Option.bind_none]
  obtain ⟨o, e, rfl⟩ := main
  unfold F__law_after bodyF
  rw [e]
  rfl
theorem halted {ms : List PV} {l r : List Nat} : ∀ n : Nat, after ms n (.tup [.int ms.length, .str (S l), .str (S r)]) = .tup [.int ms.length, .str (S l), .str (S r)]
  | 0 => rfl
  | n + 1 => by
    have e : stepP ms (.tup [.int ms.length, .str (S l), .str (S r)]) = .tup [.int ms.length, .str (S l), .str (S r)] := by
      rw [stepP_S, stepL, if_pos rfl]
    show after ms n (stepP ms _) = _
    rw [e]
    exact halted n
theorem whl_last {ms : List PV} (h : isMach (.tup ms) = true) (w : PV) : ∀ (n fuel b : Nat) (p : PV), n < fuel → St ms.length b p → b + n ≤ 40000 →
    ∃ k : Int, whlF [] (fAndT (fCmpT gtF (fVar 2) (fC (.int 0))) (fCmpT ltF (fOp ixF (fVar 3) (fC (.int 0))) (fFn (f1 lenF) (fCons (fVar 0) fNil)))) (fSeq (fAsg [] (.nm 3) (fCall 2 F_standing_behind (fCons (fVar 0) (fCons (fVar 3) fNil))))
  (fAug [] augSub 2 (fC (.int 1)))) fuel [some (.val (.tup ms)), some (.val w), some (.val (.int n)), some (.val p)] = M.ret (.nx [some (.val (.tup ms)), some (.val w), some (.val (.int k)), some (.val (after ms n p))])
  | n, 0, b, p, hf, _, _ => absurd hf (Nat.not_lt_zero _)
  | 0, f + 1, b, p, hf, hs, hb => ⟨0, by
    unfold whlF
    simp [bodyF, slots, fSeq, fIf, fRet, fRetN, fAsg, fDo, fPass, fCnt, fBrk, fPar, fAM, setItS, fOwn, fmL, fmFn, fVar, fC, fOp, fUn, fCmp, fCmpT, fCh, fChT, fTru, truF, fNotT, fAndT, fOrT, fNotV, fAndV, fOrV, fIfE, fNil, fCons, fTup, fLst, fFn, f1, f2, fIsi, isiF, fSl, fNoO, fSmO, slF, fCall, fCallK, fMt, isStrB, fIt, itF, fRg1, fRg2, lenF, listF, tupleF, seqF, fRaise, M.ret_bind, M.raise_bind, M.bad_bind, M.ofO_some, M.ofO_none, M.ne_ret, M.ne_raise, M.ite_bind, M.bind_assoc, bor, rel, lck, Tg.goS, setAllS, Tg.go, setAll, wpI, pick, ixF, ixS, addF, negF, ltF, leF, gtF, geF, ciF, List.map_cons, List.map_nil, List.length_cons, List.length_nil, List.set_cons_zero, List.set_cons_succ, List.set_nil, List.getElem?_cons_zero, List.getElem?_cons_succ, List.replicate, List.cons_append, List.nil_append, Option.join_some, Option.join_none, Option.map_some, Option.map_none, Option.bind_some, Option.bind_none]
    rfl⟩
  | n + 1, f + 1, b, p, hf, hs, hb => by
    have hs' := hs
    obtain ⟨st, l, r, rfl, h0, h1, wl, wr, bl, br⟩ := hs'
    by_cases e : st = ms.length
    · refine ⟨(n + 1 : Nat), ?_⟩
      subst e
      rw [halted]
      unfold whlF
      have e1 : (0 : Int) < (n : Int) + 1 := by omega
      simp [atI0, e1, bodyF, slots, fSeq, fIf, fRet, fRetN, fAsg, fDo, fPass, fCnt, fBrk, fPar, fAM, setItS, fOwn, fmL, fmFn, fVar, fC, fOp, fUn, fCmp, fCmpT, fCh, fChT, fTru, truF, fNotT, fAndT, fOrT, fNotV, fAndV, fOrV, fIfE, fNil, fCons, fTup, fLst, fFn, f1, f2, fIsi, isiF, fSl, fNoO, fSmO, slF, fCall, fCallK, fMt, isStrB, fIt, itF, fRg1, fRg2, lenF, listF, tupleF, seqF, fRaise, M.ret_bind, M.raise_bind, M.bad_bind, M.ofO_some, M.ofO_none, M.ne_ret, M.ne_raise, M.ite_bind, M.bind_assoc, bor, rel, lck, Tg.goS, setAllS, Tg.go, setAll, wpI, pick, ixF, ixS, addF, negF, ltF, leF, gtF, geF, ciF, List.map_cons, List.map_nil, List.length_cons, List.length_nil, List.set_cons_zero, List.set_cons_succ, List.set_nil, List.getElem?_cons_zero, List.getElem?_cons_succ, List.replicate, List.cons_append, List.nil_append, Option.join_some, Option.join_none, Option.map_some, Option.map_none, Option.bind_some, Option.bind_none]
    · have hl : st < ms.length := by omega
      obtain ⟨k, ih⟩ := whl_last h w n f (b + 1) (stepP ms (.tup [.int st, .str (S l), .str (S r)])) (by omega) (stepP_st h hs) (by omega)
      refine ⟨k, ?_⟩
      unfold whlF
      have e1 : (0 : Int) < (n : Int) + 1 := by omega
      have e2 : ((n + 1 : Nat) : Int) - 1 = n := by omega
      have e3 := behind_p h hs (by omega)
      show _ = M.ret (Out.nx [some (.val (.tup ms)), some (.val w), some (.val (.int k)), some (.val (after ms n (stepP ms (.tup [.int st, .str (S l), .str (S r)]))))])
      rw [← ih]
      simp [atI0, e1, hl, e3, fAug, augSub, bodyF, slots, fSeq, fIf, fRet, fRetN, fAsg, fDo, fPass, fCnt, fBrk, fPar, fAM, setItS, fOwn, fmL, fmFn, fVar, fC, fOp, fUn, fCmp, fCmpT, fCh, fChT, fTru, truF, fNotT, fAndT, fOrT, fNotV, fAndV, fOrV, fIfE, fNil, fCons, fTup, fLst, fFn, f1, f2, fIsi, isiF, fSl, fNoO, fSmO, slF, fCall, fCallK, fMt, isStrB, fIt, itF, fRg1, fRg2, lenF, listF, tupleF, seqF, fRaise, M.ret_bind, M.raise_bind, M.bad_bind, M.ofO_some, M.ofO_none, M.ne_ret, M.ne_raise, M.ite_bind, M.bind_assoc, bor, rel, lck, Tg.goS, setAllS, Tg.go, setAll, wpI, pick, ixF, ixS, addF, negF, ltF, leF, gtF, geF, ciF, List.map_cons, List.map_nil, List.length_cons, List.length_nil, List.set_cons_zero, List.set_cons_succ, List.set_nil, List.getElem?_cons_zero, List.getElem?_cons_succ, List.replicate, List.cons_append, List.nil_append, Option.join_some, Option.join_none, Option.map_some, Option.map_none, Option.bind_some, Option.bind_none]
end K89

set_option Elab.async false
set_option linter.all false
set_option maxRecDepth 100000
set_option maxHeartbeats 1000000
/-! plain side: the standing behind many steps. -/
namespace K89
open PySem PySem.Spec L2 RF
def begin (w : List Nat) : PV := .tup [.int 0, .str (S w), .str (S [])]
theorem begin_st {ms : List PV} {w : List Nat} {b : Nat} (wl : w.all isB = true) (hw : w.length ≤ b) : St ms.length b (begin w) := ⟨0, w, [], rfl, by decide, by omega, wl, rfl, hw, Nat.zero_le _⟩
theorem last_eq {ms : List PV} (h : isMach (.tup ms) = true) {w : List Nat} (wl : w.all isB = true) (hw : w.length ≤ 10000) {n : Nat} (hn : n < 1000) : F_last_standing [.tup ms, .str (S w), .int n] = M.ret (after ms n (begin w)) := by
  have main : M.det (f_last_standing (slots 4 [.tup ms, .str (S w), .int n])) fun o => o = .rt (after ms n (begin w)) := by
    obtain ⟨k, e⟩ := whl_last h (.str (S w)) n 1000 10000 (begin w) hn (begin_st wl hw) (by omega)
    unfold f_last_standing
    refine det_seqN (σ' := [some (.val (.tup ms)), some (.val (.str (S w))), some (.val (.int n)), some (.val (begin w))]) (by simp [begin, sE, bodyF, slots, fSeq, fIf, fRet, fRetN, fAsg, fDo, fPass, fCnt, fBrk, fPar, fAM, setItS, fOwn, fmL, fmFn, fVar, fC, fOp, fUn, fCmp, fCmpT, fCh, fChT, fTru, truF, fNotT, fAndT, fOrT, fNotV, fAndV, fOrV, fIfE, fNil, fCons, fTup, fLst, fFn, f1, f2, fIsi, isiF, fSl, fNoO, fSmO, slF, fCall, fCallK, fMt, isStrB, fIt, itF, fRg1, fRg2, lenF, listF, tupleF, seqF, fRaise, M.ret_bind, M.raise_bind, M.bad_bind, M.ofO_some, M.ofO_none, M.ne_ret, M.ne_raise, M.ite_bind, M.bind_assoc, bor, rel, lck, Tg.goS, setAllS, Tg.go, setAll, wpI, pick, ixF, ixS, addF, negF, ltF, leF, gtF, geF, ciF, List.map_cons, List.map_nil, List.length_cons, List.length_nil, List.set_cons_zero, List.set_cons_succ, List.set_nil, List.getElem?_cons_zero, List.getElem?_cons_succ, List.replicate, List.cons_append, List.nil_append, Option.join_some, Option.join_none, Option.map_some, Option.map_none, Option.bind_some, Option.bind_none]) ?_
    refine det_seqN e ?_
    exact M.det_eq (a := .rt (after ms n (begin w))) (by simp [bodyF, slots, fSeq, fIf, fRet, fRetN, fAsg, fDo, fPass, fCnt, fBrk, fPar, fAM, setItS, fOwn, fmL, fmFn, fVar, fC, fOp, fUn, fCmp, fCmpT, fCh, fChT, fTru, truF, fNotT, fAndT, fOrT, fNotV, fAndV, fOrV, fIfE, fNil, fCons, fTup, fLst, fFn, f1, f2, fIsi, isiF, fSl, fNoO, fSmO, slF, fCall, fCallK, fMt, isStrB, fIt, itF, fRg1, fRg2, lenF, listF, tupleF, seqF, fRaise, M.ret_bind, M.raise_bind, M.bad_bind, M.ofO_some, M.ofO_none, M.ne_ret, M.ne_raise, M.ite_bind, M.bind_assoc, bor, rel, lck, Tg.goS, setAllS, Tg.go, setAll, wpI, pick, ixF, ixS, addF, negF, ltF, leF, gtF, geF, ciF, List.map_cons, List.map_nil, List.length_cons, List.length_nil, List.set_cons_zero, List.set_cons_succ, List.set_nil, List.getElem?_cons_zero, List.getElem?_cons_succ, List.replicate, List.cons_append, List.nil_append, Option.join_some, Option.join_none, Option.map_some, Option.map_none, Option.bind_some, Option.bind_none]) rfl
  obtain ⟨o, e, rfl⟩ := main
  unfold F_last_standing bodyF
  rw [e]
  rfl
theorem after_bad1 {p w n : PV} (hp : lf p = true) (e : isMach p = false) : F_standing_after [p, w, n] = M.raise "BadMachine" p := by
  simp [F_standing_after, f_standing_after, need_machine_eq hp, e, bodyF, slots, fSeq, fIf, fRet, fRetN, fAsg, fDo, fPass, fCnt, fBrk, fPar, fAM, setItS, fOwn, fmL, fmFn, fVar, fC, fOp, fUn, fCmp, fCmpT, fCh, fChT, fTru, truF, fNotT, fAndT, fOrT, fNotV, fAndV, fOrV, fIfE, fNil, fCons, fTup, fLst, fFn, f1, f2, fIsi, isiF, fSl, fNoO, fSmO, slF, fCall, fCallK, fMt, isStrB, fIt, itF, fRg1, fRg2, lenF, listF, tupleF, seqF, fRaise, M.ret_bind, M.raise_bind, M.bad_bind, M.ofO_some, M.ofO_none, M.ne_ret, M.ne_raise, M.ite_bind, M.bind_assoc, bor, rel, lck, Tg.goS, setAllS, Tg.go, setAll, wpI, pick, ixF, ixS, addF, negF, ltF, leF, gtF, geF, ciF, List.map_cons, List.map_nil, List.length_cons, List.length_nil, List.set_cons_zero, List.set_cons_succ, List.set_nil, List.getElem?_cons_zero, List.getElem?_cons_succ, List.replicate, List.cons_append, List.nil_append, Option.join_some, Option.join_none, Option.map_some, Option.map_none, Option.bind_some, Option.bind_none]
theorem after_bad2 {p w n : PV} (hp : lf p = true) (hw : lf w = true) (e : isMach p = true) (e2 : isW w = false) : F_standing_after [p, w, n] = M.raise "BadWord" w := by
  simp [F_standing_after, f_standing_after, need_machine_eq hp, need_word_eq hw, e, e2, bodyF, slots, fSeq, fIf, fRet, fRetN, fAsg, fDo, fPass, fCnt, fBrk, fPar, fAM, setItS, fOwn, fmL, fmFn, fVar, fC, fOp, fUn, fCmp, fCmpT, fCh, fChT, fTru, truF, fNotT, fAndT, fOrT, fNotV, fAndV, fOrV, fIfE, fNil, fCons, fTup, fLst, fFn, f1, f2, fIsi, isiF, fSl, fNoO, fSmO, slF, fCall, fCallK, fMt, isStrB, fIt, itF, fRg1, fRg2, lenF, listF, tupleF, seqF, fRaise, M.ret_bind, M.raise_bind, M.bad_bind, M.ofO_some, M.ofO_none, M.ne_ret, M.ne_raise, M.ite_bind, M.bind_assoc, bor, rel, lck, Tg.goS, setAllS, Tg.go, setAll, wpI, pick, ixF, ixS, addF, negF, ltF, leF, gtF, geF, ciF, List.map_cons, List.map_nil, List.length_cons, List.length_nil, List.set_cons_zero, List.set_cons_succ, List.set_nil, List.getElem?_cons_zero, List.getElem?_cons_succ, List.replicate, List.cons_append, List.nil_append, Option.join_some, Option.join_none, Option.map_some, Option.map_none, Option.bind_some, Option.bind_none]
theorem after_bad3 {p w n : PV} (hp : lf p = true) (hw : lf w = true) (hn : lf n = true) (e : isMach p = true) (e2 : isW w = true) (e3 : isNN n = false) : F_standing_after [p, w, n] = M.raise "BadNumber" n := by
  simp [F_standing_after, f_standing_after, need_machine_eq hp, need_word_eq hw, need_count_eq hn, e, e2, e3, bodyF, slots, fSeq, fIf, fRet, fRetN, fAsg, fDo, fPass, fCnt, fBrk, fPar, fAM, setItS, fOwn, fmL, fmFn, fVar, fC, fOp, fUn, fCmp, fCmpT, fCh, fChT, fTru, truF, fNotT, fAndT, fOrT, fNotV, fAndV, fOrV, fIfE, fNil, fCons, fTup, fLst, fFn, f1, f2, fIsi, isiF, fSl, fNoO, fSmO, slF, fCall, fCallK, fMt, isStrB, fIt, itF, fRg1, fRg2, lenF, listF, tupleF, seqF, fRaise, M.ret_bind, M.raise_bind, M.bad_bind, M.ofO_some, M.ofO_none, M.ne_ret, M.ne_raise, M.ite_bind, M.bind_assoc, bor, rel, lck, Tg.goS, setAllS, Tg.go, setAll, wpI, pick, ixF, ixS, addF, negF, ltF, leF, gtF, geF, ciF, List.map_cons, List.map_nil, List.length_cons, List.length_nil, List.set_cons_zero, List.set_cons_succ, List.set_nil, List.getElem?_cons_zero, List.getElem?_cons_succ, List.replicate, List.cons_append, List.nil_append, Option.join_some, Option.join_none, Option.map_some, Option.map_none, Option.bind_some, Option.bind_none]
theorem after_ok {ms : List PV} (hp : lf (.tup ms) = true) (h : isMach (.tup ms) = true) {w : List Nat} (wl : w.all isB = true) (hw : w.length ≤ 10000) {n : Nat} (hn : n < 1000) : F_standing_after [.tup ms, .str (S w), .int n] = M.ret (after ms n (begin w)) := by
  have h1 : lf (.int (n : Int)) = true := by
    simp only [lf, decide_eq_true_eq]
    exact Nat.lt_of_le_of_lt (show (n : Int).natAbs ≤ 1000 by omega) (by decide +kernel)
  have h2 : isW (.str (S w)) = true := by simpa [isW] using wl
  have h3 : isNN (.int (n : Int)) = true := by simp [isNN]
  simp [F_standing_after, f_standing_after, need_machine_eq hp, need_word_eq (word_fine wl), need_count_eq h1, h, h2, h3, last_eq h wl hw hn, bodyF, slots, fSeq, fIf, fRet, fRetN, fAsg, fDo, fPass, fCnt, fBrk, fPar, fAM, setItS, fOwn, fmL, fmFn, fVar, fC, fOp, fUn, fCmp, fCmpT, fCh, fChT, fTru, truF, fNotT, fAndT, fOrT, fNotV, fAndV, fOrV, fIfE, fNil, fCons, fTup, fLst, fFn, f1, f2, fIsi, isiF, fSl, fNoO, fSmO, slF, fCall, fCallK, fMt, isStrB, fIt, itF, fRg1, fRg2, lenF, listF, tupleF, seqF, fRaise, M.ret_bind, M.raise_bind, M.bad_bind, M.ofO_some, M.ofO_none, M.ne_ret, M.ne_raise, M.ite_bind, M.bind_assoc, bor, rel, lck, Tg.goS, setAllS, Tg.go, setAll, wpI, pick, ixF, ixS, addF, negF, ltF, leF, gtF, geF, ciF, List.map_cons, List.map_nil, List.length_cons, List.length_nil, List.set_cons_zero, List.set_cons_succ, List.set_nil, List.getElem?_cons_zero, List.getElem?_cons_succ, List.replicate, List.cons_append, List.nil_append, Option.join_some, Option.join_none, Option.map_some, Option.map_none, Option.bind_some, Option.bind_none]
end K89

set_option Elab.async false
set_option linter.all false
set_option maxRecDepth 100000
set_option maxHeartbeats 1000000
/-! k89: the law's first loop. -/
namespace K89
open PySem PySem.Spec L2 RF
/-- a turn within a turn -/
theorem go_ok {a : Addr} {n : Nat × Nat} {ms : List PV} {w : List Nat} {g : Nat} {x2 x6 x7 x8 x9 x10 : Option SV} (h : isMach (.tup ms) = true) (hl : ms.length ≤ 6) (wl : w.all isB = true) (hw : w.length ≤ 6) :
    M.sat n ((fSeq (fAsg [] (.nm 6) (fOp addF (fCall 2 F__law_pick (fCons (fVar 1) (fCons (fLst (fCons (fC (.int 0)) (fCons (fC (.int 1)) (fCons (fC (.int 2)) (fCons (fC (.int 3)) (fCons (fC (.int 5)) (fCons (fC (.int 8)) (fCons (fC (.int 13)) (fCons (fC (.int 40)) (fCons (fC (.int 77)) (fCons (fC (.int 199)) fNil))))))))))) fNil))) (fCall 2 F__law_draw (fCons (fVar 1) (fCons (fC (.int 2)) fNil)))))
  (fSeq (fIf [] (fCmpT eqF (fVar 5) (fC (.int 3))) (fAsg [] (.nm 6) (fCall 2 F__law_draw (fCons (fVar 1) (fCons (fC (.int 201)) fNil)))) fPass)
  (fSeq (fAsg [] (.nm 7) (fCall 3 F__law_after (fCons (fVar 3) (fCons (fTup (fCons (fC (.int 0)) (fCons (fVar 4) (fCons (fC (.str "")) fNil)))) (fCons (fVar 6) fNil)))))
  (fSeq (fAsg [] (.nm 8) (fIfE (fCmpT ltF (fVar 5) (fC (.int 2))) (fCall 3 F_standing_after (fCons (fVar 3) (fCons (fVar 4) (fCons (fVar 6) fNil)))) (fCallK 3 [1, 2, 0] F_standing_after (fCons (fVar 6) (fCons (fVar 3) (fCons (fVar 4) fNil))))))
  (fIf [] (fOrT (fNotT (fTru (fCall 2 F__law_same (fCons (fVar 8) (fCons (fVar 7) fNil))))) (fNotT (fTru (fCall 2 F__law_same (fCons (fCall 2 F_pile_step (fCons (fVar 3) (fCons (fVar 8) fNil))) (fCons (fCall 2 F__law_pile_step (fCons (fVar 3) (fCons (fVar 7) fNil))) fNil)))))) (fRet [] (fC (.bl false))) fPass))))) [some (.val (.ref a)), some (.val (.loc n.1)), x2, some (.val (.tup ms)), some (.val (.str (S w))), some (.val (.int g)), x6, x7, x8, x9, x10])
      fun o => ∃ σ, o = .nx σ ∧ ∃ x5 x6 x7 x8 x9 x10, σ = [some (.val (.ref a)), some (.val (.loc n.1)), x2, some (.val (.tup ms)), some (.val (.str (S w))), x5, x6, x7, x8, x9, x10] := by
  have hl6 : ms.length ≤ 1000000 := by omega
  refine sat_seqP (P := fun σ => ∃ m : Nat, m ≤ 210 ∧ σ = [some (.val (.ref a)), some (.val (.loc n.1)), x2, some (.val (.tup ms)), some (.val (.str (S w))), some (.val (.int g)), some (.val (.int m)), x7, x8, x9, x10]) ?_ ?_
  · refine sat_asg (P := fun v => ∃ m : Nat, m ≤ 210 ∧ v = .int m) ?_ ?_
    · refine M.sat_keep fun Q hQ => ?_
      simp [bodyF, slots, fSeq, fIf, fRet, fRetN, fAsg, fDo, fPass, fCnt, fBrk, fPar, fAM, setItS, fOwn, fmL, fmFn, fVar, fC, fOp, fUn, fCmp, fCmpT, fCh, fChT, fTru, truF, fNotT, fAndT, fOrT, fNotV, fAndV, fOrV, fIfE, fNil, fCons, fTup, fLst, fFn, f1, f2, fIsi, isiF, fSl, fNoO, fSmO, slF, fCall, fCallK, fMt, isStrB, fIt, itF, fRg1, fRg2, lenF, listF, tupleF, seqF, fRaise, M.ret_bind, M.raise_bind, M.bad_bind, M.ofO_some, M.ofO_none, M.ne_ret, M.ne_raise, M.ite_bind, M.bind_assoc, bor, rel, lck, Tg.goS, setAllS, Tg.go, setAll, wpI, pick, ixF, ixS, addF, negF, ltF, leF, gtF, geF, ciF, List.map_cons, List.map_nil, List.length_cons, List.length_nil, List.set_cons_zero, List.set_cons_succ, List.set_nil, List.getElem?_cons_zero, List.getElem?_cons_succ, List.replicate, List.cons_append, List.nil_append, Option.join_some, Option.join_none, Option.map_some, Option.map_none, Option.bind_some, Option.bind_none]
      refine M.sat_bindE (pick_sat (n := n) (ps := [.int 0, .int 1, .int 2, .int 3, .int 5, .int 8, .int 13, .int 40, .int 77, .int 199]) (by decide) (by decide)) fun v hv => ?_
      refine M.sat_bind (M.sat_draw (by decide) (by decide) fun r r0 r1 => ?_)
      have hv : ∃ k : Nat, k ≤ 199 ∧ v = .int k := by
        simp only [List.mem_cons, List.not_mem_nil, or_false] at hv
        rcases hv with rfl | rfl | rfl | rfl | rfl | rfl | rfl | rfl | rfl | rfl
        · exact ⟨0, by decide, rfl⟩
        · exact ⟨1, by decide, rfl⟩
        · exact ⟨2, by decide, rfl⟩
        · exact ⟨3, by decide, rfl⟩
        · exact ⟨5, by decide, rfl⟩
        · exact ⟨8, by decide, rfl⟩
        · exact ⟨13, by decide, rfl⟩
        · exact ⟨40, by decide, rfl⟩
        · exact ⟨77, by decide, rfl⟩
        · exact ⟨199, by decide, rfl⟩
      obtain ⟨k, hk, rfl⟩ := hv
      refine M.sat_ret (hQ _ ⟨k + r.toNat, by omega, ?_⟩)
      rw [show ((k + r.toNat : Nat) : Int) = k + r by omega]
    · rintro v ⟨m, hm, rfl⟩
      exact ⟨_, rfl, _, rfl, m, hm, rfl⟩
  rintro σ ⟨m0, hm0, rfl⟩
  refine sat_seqP (P := fun σ => ∃ m : Nat, m ≤ 210 ∧ σ = [some (.val (.ref a)), some (.val (.loc n.1)), x2, some (.val (.tup ms)), some (.val (.str (S w))), some (.val (.int g)), some (.val (.int m)), x7, x8, x9, x10]) ?_ ?_
  · refine sat_if (P := fun _ => True) ?_ (fun _ => ?_) (fun _ => M.sat_ret ⟨_, rfl, m0, hm0, rfl⟩)
    · refine M.sat_det (a := ((g : Int) == 3)) (by simp [eqF_int, bodyF, slots, fSeq, fIf, fRet, fRetN, fAsg, fDo, fPass, fCnt, fBrk, fPar, fAM, setItS, fOwn, fmL, fmFn, fVar, fC, fOp, fUn, fCmp, fCmpT, fCh, fChT, fTru, truF, fNotT, fAndT, fOrT, fNotV, fAndV, fOrV, fIfE, fNil, fCons, fTup, fLst, fFn, f1, f2, fIsi, isiF, fSl, fNoO, fSmO, slF, fCall, fCallK, fMt, isStrB, fIt, itF, fRg1, fRg2, lenF, listF, tupleF, seqF, fRaise, M.ret_bind, M.raise_bind, M.bad_bind, M.ofO_some, M.ofO_none, M.ne_ret, M.ne_raise, M.ite_bind, M.bind_assoc, bor, rel, lck, Tg.goS, setAllS, Tg.go, setAll, wpI, pick, ixF, ixS, addF, negF, ltF, leF, gtF, geF, ciF, List.map_cons, List.map_nil, List.length_cons, List.length_nil, List.set_cons_zero, List.set_cons_succ, List.set_nil, List.getElem?_cons_zero, List.getElem?_cons_succ, List.replicate, List.cons_append, List.nil_append, Option.join_some, Option.join_none, Option.map_some, Option.map_none, Option.bind_some, Option.bind_none]) trivial
    · refine sat_asg (P := fun v => ∃ m : Nat, m ≤ 210 ∧ v = .int m) ?_ ?_
      · refine M.sat_keep fun Q hQ => ?_
        simp [bodyF, slots, fSeq, fIf, fRet, fRetN, fAsg, fDo, fPass, fCnt, fBrk, fPar, fAM, setItS, fOwn, fmL, fmFn, fVar, fC, fOp, fUn, fCmp, fCmpT, fCh, fChT, fTru, truF, fNotT, fAndT, fOrT, fNotV, fAndV, fOrV, fIfE, fNil, fCons, fTup, fLst, fFn, f1, f2, fIsi, isiF, fSl, fNoO, fSmO, slF, fCall, fCallK, fMt, isStrB, fIt, itF, fRg1, fRg2, lenF, listF, tupleF, seqF, fRaise, M.ret_bind, M.raise_bind, M.bad_bind, M.ofO_some, M.ofO_none, M.ne_ret, M.ne_raise, M.ite_bind, M.bind_assoc, bor, rel, lck, Tg.goS, setAllS, Tg.go, setAll, wpI, pick, ixF, ixS, addF, negF, ltF, leF, gtF, geF, ciF, List.map_cons, List.map_nil, List.length_cons, List.length_nil, List.set_cons_zero, List.set_cons_succ, List.set_nil, List.getElem?_cons_zero, List.getElem?_cons_succ, List.replicate, List.cons_append, List.nil_append, Option.join_some, Option.join_none, Option.map_some, Option.map_none, Option.bind_some, Option.bind_none]
        refine M.sat_draw (by decide) (by decide) fun r r0 r1 => hQ _ ⟨r.toNat, by omega, ?_⟩
        rw [show ((r.toNat : Nat) : Int) = r by omega]
      · rintro v ⟨m, hm, rfl⟩
        exact ⟨_, rfl, _, rfl, m, hm, rfl⟩
  rintro σ ⟨m, hm, rfl⟩
  have hb : St ms.length 6 (begin w) := begin_st wl hw
  have e1 := l_after_eq h m hb (by omega)
  have e2 := after_ok (mach_fine hl6 h).1 h wl (by omega) (show m < 1000 by omega)
  have hs := after_st h m hb
  have f := hs.fine hl6
  have e3 := same_eq f.1 (by have := f.2.1; omega) (by have := f.2.2; omega)
  obtain ⟨v, g1, g2, g3, g4⟩ := steps_same hl6 h hs (by omega)
  generalize after ms m (begin w) = t at e1 e2 e3 g1 g2
  refine sat_seqN' (σ' := [some (.val (.ref a)), some (.val (.loc n.1)), x2, some (.val (.tup ms)), some (.val (.str (S w))), some (.val (.int g)), some (.val (.int m)), some (.val t), x8, x9, x10]) ?_ ?_
  · simp only [begin, sE] at e1
    simp [sE, e1, bodyF, slots, fSeq, fIf, fRet, fRetN, fAsg, fDo, fPass, fCnt, fBrk, fPar, fAM, setItS, fOwn, fmL, fmFn, fVar, fC, fOp, fUn, fCmp, fCmpT, fCh, fChT, fTru, truF, fNotT, fAndT, fOrT, fNotV, fAndV, fOrV, fIfE, fNil, fCons, fTup, fLst, fFn, f1, f2, fIsi, isiF, fSl, fNoO, fSmO, slF, fCall, fCallK, fMt, isStrB, fIt, itF, fRg1, fRg2, lenF, listF, tupleF, seqF, fRaise, M.ret_bind, M.raise_bind, M.bad_bind, M.ofO_some, M.ofO_none, M.ne_ret, M.ne_raise, M.ite_bind, M.bind_assoc, bor, rel, lck, Tg.goS, setAllS, Tg.go, setAll, wpI, pick, ixF, ixS, addF, negF, ltF, leF, gtF, geF, ciF, List.map_cons, List.map_nil, List.length_cons, List.length_nil, List.set_cons_zero, List.set_cons_succ, List.set_nil, List.getElem?_cons_zero, List.getElem?_cons_succ, List.replicate, List.cons_append, List.nil_append, Option.join_some, Option.join_none, Option.map_some, Option.map_none, Option.bind_some, Option.bind_none]
  refine sat_seqN' (σ' := [some (.val (.ref a)), some (.val (.loc n.1)), x2, some (.val (.tup ms)), some (.val (.str (S w))), some (.val (.int g)), some (.val (.int m)), some (.val t), some (.val t), x9, x10]) ?_ ?_
  · by_cases hg : (g : Int) < 2
    · simp [hg, e2, bodyF, slots, fSeq, fIf, fRet, fRetN, fAsg, fDo, fPass, fCnt, fBrk, fPar, fAM, setItS, fOwn, fmL, fmFn, fVar, fC, fOp, fUn, fCmp, fCmpT, fCh, fChT, fTru, truF, fNotT, fAndT, fOrT, fNotV, fAndV, fOrV, fIfE, fNil, fCons, fTup, fLst, fFn, f1, f2, fIsi, isiF, fSl, fNoO, fSmO, slF, fCall, fCallK, fMt, isStrB, fIt, itF, fRg1, fRg2, lenF, listF, tupleF, seqF, fRaise, M.ret_bind, M.raise_bind, M.bad_bind, M.ofO_some, M.ofO_none, M.ne_ret, M.ne_raise, M.ite_bind, M.bind_assoc, bor, rel, lck, Tg.goS, setAllS, Tg.go, setAll, wpI, pick, ixF, ixS, addF, negF, ltF, leF, gtF, geF, ciF, List.map_cons, List.map_nil, List.length_cons, List.length_nil, List.set_cons_zero, List.set_cons_succ, List.set_nil, List.getElem?_cons_zero, List.getElem?_cons_succ, List.replicate, List.cons_append, List.nil_append, Option.join_some, Option.join_none, Option.map_some, Option.map_none, Option.bind_some, Option.bind_none]
    · simp [hg, e2, bodyF, slots, fSeq, fIf, fRet, fRetN, fAsg, fDo, fPass, fCnt, fBrk, fPar, fAM, setItS, fOwn, fmL, fmFn, fVar, fC, fOp, fUn, fCmp, fCmpT, fCh, fChT, fTru, truF, fNotT, fAndT, fOrT, fNotV, fAndV, fOrV, fIfE, fNil, fCons, fTup, fLst, fFn, f1, f2, fIsi, isiF, fSl, fNoO, fSmO, slF, fCall, fCallK, fMt, isStrB, fIt, itF, fRg1, fRg2, lenF, listF, tupleF, seqF, fRaise, M.ret_bind, M.raise_bind, M.bad_bind, M.ofO_some, M.ofO_none, M.ne_ret, M.ne_raise, M.ite_bind, M.bind_assoc, bor, rel, lck, Tg.goS, setAllS, Tg.go, setAll, wpI, pick, ixF, ixS, addF, negF, ltF, leF, gtF, geF, ciF, List.map_cons, List.map_nil, List.length_cons, List.length_nil, List.set_cons_zero, List.set_cons_succ, List.set_nil, List.getElem?_cons_zero, List.getElem?_cons_succ, List.replicate, List.cons_append, List.nil_append, Option.join_some, Option.join_none, Option.map_some, Option.map_none, Option.bind_some, Option.bind_none]
  rw [ifF (by simp [e3, g1, g2, g4, bodyF, slots, fSeq, fIf, fRet, fRetN, fAsg, fDo, fPass, fCnt, fBrk, fPar, fAM, setItS, fOwn, fmL, fmFn, fVar, fC, fOp, fUn, fCmp, fCmpT, fCh, fChT, fTru, truF, fNotT, fAndT, fOrT, fNotV, fAndV, fOrV, fIfE, fNil, fCons, fTup, fLst, fFn, f1, f2, fIsi, isiF, fSl, fNoO, fSmO, slF, fCall, fCallK, fMt, isStrB, fIt, itF, fRg1, fRg2, lenF, listF, tupleF, seqF, fRaise, M.ret_bind, M.raise_bind, M.bad_bind, M.ofO_some, M.ofO_none, M.ne_ret, M.ne_raise, M.ite_bind, M.bind_assoc, bor, rel, lck, Tg.goS, setAllS, Tg.go, setAll, wpI, pick, ixF, ixS, addF, negF, ltF, leF, gtF, geF, ciF, List.map_cons, List.map_nil, List.length_cons, List.length_nil, List.set_cons_zero, List.set_cons_succ, List.set_nil, List.getElem?_cons_zero, List.getElem?_cons_succ, List.replicate, List.cons_append, List.nil_append, Option.join_some, Option.join_none, Option.map_some, Option.map_none, Option.bind_some, Option.bind_none])]
  exact M.sat_ret ⟨_, rfl, _, _, _, _, _, _, rfl⟩
theorem turn_ok {a : Addr} {n : Nat × Nat} {x2 x3 x4 x5 x6 x7 x8 x9 x10 : Option SV} :
    M.sat n ((fSeq (fPar [] [3, 4] [.v (fCall 2 F__law_machine (fCons (fVar 1) (fCons (fC (.int 6)) fNil))), .v (fCall 2 F__law_word (fCons (fVar 1) (fCons (fC (.int 6)) fNil)))])
  (fFor [] (.nm 5) (fRg1 (fC (.int 4)))
  (fSeq (fAsg [] (.nm 6) (fOp addF (fCall 2 F__law_pick (fCons (fVar 1) (fCons (fLst (fCons (fC (.int 0)) (fCons (fC (.int 1)) (fCons (fC (.int 2)) (fCons (fC (.int 3)) (fCons (fC (.int 5)) (fCons (fC (.int 8)) (fCons (fC (.int 13)) (fCons (fC (.int 40)) (fCons (fC (.int 77)) (fCons (fC (.int 199)) fNil))))))))))) fNil))) (fCall 2 F__law_draw (fCons (fVar 1) (fCons (fC (.int 2)) fNil)))))
  (fSeq (fIf [] (fCmpT eqF (fVar 5) (fC (.int 3))) (fAsg [] (.nm 6) (fCall 2 F__law_draw (fCons (fVar 1) (fCons (fC (.int 201)) fNil)))) fPass)
  (fSeq (fAsg [] (.nm 7) (fCall 3 F__law_after (fCons (fVar 3) (fCons (fTup (fCons (fC (.int 0)) (fCons (fVar 4) (fCons (fC (.str "")) fNil)))) (fCons (fVar 6) fNil)))))
  (fSeq (fAsg [] (.nm 8) (fIfE (fCmpT ltF (fVar 5) (fC (.int 2))) (fCall 3 F_standing_after (fCons (fVar 3) (fCons (fVar 4) (fCons (fVar 6) fNil)))) (fCallK 3 [1, 2, 0] F_standing_after (fCons (fVar 6) (fCons (fVar 3) (fCons (fVar 4) fNil))))))
  (fIf [] (fOrT (fNotT (fTru (fCall 2 F__law_same (fCons (fVar 8) (fCons (fVar 7) fNil))))) (fNotT (fTru (fCall 2 F__law_same (fCons (fCall 2 F_pile_step (fCons (fVar 3) (fCons (fVar 8) fNil))) (fCons (fCall 2 F__law_pile_step (fCons (fVar 3) (fCons (fVar 7) fNil))) fNil)))))) (fRet [] (fC (.bl false))) fPass))))))) [some (.val (.ref a)), some (.val (.loc n.1)), x2, x3, x4, x5, x6, x7, x8, x9, x10])
      fun o => ∃ σ, o = .nx σ ∧ ∃ x3 x4 x5 x6 x7 x8 x9 x10, σ = [some (.val (.ref a)), some (.val (.loc n.1)), x2, x3, x4, x5, x6, x7, x8, x9, x10] := by
  refine sat_seqP (P := fun σ => ∃ ms w, isMach (.tup ms) = true ∧ ms.length ≤ 6 ∧ w.all isB = true ∧ w.length ≤ 6 ∧ σ = [some (.val (.ref a)), some (.val (.loc n.1)), x2, some (.val (.tup ms)), some (.val (.str (S w))), x5, x6, x7, x8, x9, x10]) ?_ ?_
  · refine M.sat_keep fun Q hQ => ?_
    simp [bodyF, slots, fSeq, fIf, fRet, fRetN, fAsg, fDo, fPass, fCnt, fBrk, fPar, fAM, setItS, fOwn, fmL, fmFn, fVar, fC, fOp, fUn, fCmp, fCmpT, fCh, fChT, fTru, truF, fNotT, fAndT, fOrT, fNotV, fAndV, fOrV, fIfE, fNil, fCons, fTup, fLst, fFn, f1, f2, fIsi, isiF, fSl, fNoO, fSmO, slF, fCall, fCallK, fMt, isStrB, fIt, itF, fRg1, fRg2, lenF, listF, tupleF, seqF, fRaise, M.ret_bind, M.raise_bind, M.bad_bind, M.ofO_some, M.ofO_none, M.ne_ret, M.ne_raise, M.ite_bind, M.bind_assoc, bor, rel, lck, Tg.goS, setAllS, Tg.go, setAll, wpI, pick, ixF, ixS, addF, negF, ltF, leF, gtF, geF, ciF, List.map_cons, List.map_nil, List.length_cons, List.length_nil, List.set_cons_zero, List.set_cons_succ, List.set_nil, List.getElem?_cons_zero, List.getElem?_cons_succ, List.replicate, List.cons_append, List.nil_append, Option.join_some, Option.join_none, Option.map_some, Option.map_none, Option.bind_some, Option.bind_none]
    refine M.sat_bindE (machine_sat (by decide) (by decide)) fun v hv => ?_
    obtain ⟨ms, rfl, h, l⟩ := hv
    refine M.sat_bindE (word_sat (by decide) (by decide)) fun v hv => ?_
    obtain ⟨w, rfl, wl, hw⟩ := hv
    exact M.sat_ret (hQ _ ⟨_, rfl, ms, w, h, by omega, wl, by omega, rfl⟩)
  rintro σ ⟨ms, w, h, hl, wl, hw, rfl⟩
  refine sat_for0 (ps := intsL 0 4) (by simp [bodyF, slots, fSeq, fIf, fRet, fRetN, fAsg, fDo, fPass, fCnt, fBrk, fPar, fAM, setItS, fOwn, fmL, fmFn, fVar, fC, fOp, fUn, fCmp, fCmpT, fCh, fChT, fTru, truF, fNotT, fAndT, fOrT, fNotV, fAndV, fOrV, fIfE, fNil, fCons, fTup, fLst, fFn, f1, f2, fIsi, isiF, fSl, fNoO, fSmO, slF, fCall, fCallK, fMt, isStrB, fIt, itF, fRg1, fRg2, lenF, listF, tupleF, seqF, fRaise, M.ret_bind, M.raise_bind, M.bad_bind, M.ofO_some, M.ofO_none, M.ne_ret, M.ne_raise, M.ite_bind, M.bind_assoc, bor, rel, lck, Tg.goS, setAllS, Tg.go, setAll, wpI, pick, ixF, ixS, addF, negF, ltF, leF, gtF, geF, ciF, List.map_cons, List.map_nil, List.length_cons, List.length_nil, List.set_cons_zero, List.set_cons_succ, List.set_nil, List.getElem?_cons_zero, List.getElem?_cons_succ, List.replicate, List.cons_append, List.nil_append, Option.join_some, Option.join_none, Option.map_some, Option.map_none, Option.bind_some, Option.bind_none]) ?_
  refine sat_forJ (fun σ => ∃ x5 x6 x7 x8 x9 x10, σ = [some (.val (.ref a)), some (.val (.loc n.1)), x2, some (.val (.tup ms)), some (.val (.str (S w))), x5, x6, x7, x8, x9, x10]) (fun p => ∃ g : Nat, p = .int g) (fun σ j => ?_) ?_ _ ?_ _ ⟨_, _, _, _, _, _, rfl⟩
  · obtain ⟨y5, y6, y7, y8, y9, y10, rfl⟩ := j
    exact ⟨_, rfl, _, _, _, _, _, _, _, _, rfl⟩
  · rintro p σ ⟨g, rfl⟩ ⟨y5, y6, y7, y8, y9, y10, rfl⟩
    exact ⟨_, rfl, M.sat_mono (fun o q => .inl q) (go_ok h hl wl hw)⟩
  · intro p mp
    obtain ⟨i, hi, rfl⟩ := intsL_mem mp
    exact ⟨i, by simp⟩
end K89

set_option Elab.async false
set_option linter.all false
set_option maxRecDepth 100000
set_option maxHeartbeats 1000000
/-! k89: the law. -/
namespace K89
open PySem PySem.Spec L2 RF
theorem kinds_w : kindsV "BadWord" = .tup [.bl false, .bl false, .bl true, .bl false] := by
  have a : ¬ ("BadWord" : Str) = "BadMachine" := by decide +kernel
  have b : ¬ ("BadWord" : Str) = "BadStanding" := by decide +kernel
  have c : ¬ ("BadWord" : Str) = "BadNumber" := by decide +kernel
  simp [kindsV, a, b, c]
theorem kinds_n : kindsV "BadNumber" = .tup [.bl false, .bl false, .bl false, .bl true] := by
  have a : ¬ ("BadNumber" : Str) = "BadMachine" := by decide +kernel
  have b : ¬ ("BadNumber" : Str) = "BadStanding" := by decide +kernel
  have c : ¬ ("BadNumber" : Str) = "BadWord" := by decide +kernel
  simp [kindsV, a, b, c]
/-- what is given for a word -/
def Wl (p : PV) : Prop := Fine 2 100 p
/-- what is given for a number -/
def Nl (p : PV) : Prop := Fine 2 100 p ∧ ∀ i : Int, p = .int i → i ≤ 100
theorem judge_ok {a : Addr} {n : Nat × Nat} {x2 x3 x4 x5 x7 x8 : Option SV} {t u v : PV} (ht : Fine 6 400 t) (hu : Wl u) (hv : Nl v) (hlen : ∀ ts, t = .tup ts → ts.length ≤ 1000) :
    M.sat n ((fSeq (fIf [] (fNotT (fTru (fCall 1 F__law_is_machine (fCons (fVar 9) fNil)))) (fAsg [] (.nm 7) (fTup (fCons (fC (.str "raised")) (fCons (fTup (fCons (fC (.bl true)) (fCons (fC (.bl false)) (fCons (fC (.bl false)) (fCons (fC (.bl false)) fNil))))) (fCons (fFn (f1 reprF) (fCons (fVar 9) fNil)) fNil))))) (fIf [] (fNotT (fTru (fCall 1 F__law_is_word (fCons (fVar 10) fNil)))) (fAsg [] (.nm 7) (fTup (fCons (fC (.str "raised")) (fCons (fTup (fCons (fC (.bl false)) (fCons (fC (.bl false)) (fCons (fC (.bl true)) (fCons (fC (.bl false)) fNil))))) (fCons (fFn (f1 reprF) (fCons (fVar 10) fNil)) fNil))))) (fIf [] (fNotT (fTru (fCall 1 F__law_is_number (fCons (fVar 6) fNil)))) (fAsg [] (.nm 7) (fTup (fCons (fC (.str "raised")) (fCons (fTup (fCons (fC (.bl false)) (fCons (fC (.bl false)) (fCons (fC (.bl false)) (fCons (fC (.bl true)) fNil))))) (fCons (fFn (f1 reprF) (fCons (fVar 6) fNil)) fNil))))) (fAsg [] (.nm 7) (fTup (fCons (fC (.str "returned")) (fCons (fFn (f1 reprF) (fCons (fCall 3 F__law_after (fCons (fVar 9) (fCons (fTup (fCons (fC (.int 0)) (fCons (fVar 10) (fCons (fC (.str "")) fNil)))) (fCons (fVar 6) fNil)))) fNil)) fNil))))))) (fIf [] (fCmpT neF (fTried tr (fCall 3 F_standing_after (fCons (fVar 9) (fCons (fVar 10) (fCons (fVar 6) fNil))))) (fVar 7)) (fRet [] (fC (.bl false))) fPass)) [some (.val (.ref a)), some (.val (.loc n.1)), x2, x3, x4, x5, some (.val v), x7, x8, some (.val t), some (.val u)])
      fun o => ∃ σ, o = .nx σ ∧ ∃ x2 x3 x4 x5 x6 x7 x8 x9 x10, σ = [some (.val (.ref a)), some (.val (.loc n.1)), x2, x3, x4, x5, x6, x7, x8, x9, x10] := by
  have rt := reprM_ok ht (by decide) (by decide)
  have ru := reprM_ok hu (by decide) (by decide)
  have rv := reprM_ok hv.1 (by decide) (by decide)
  cases hmt : isMach t with
  | false =>
    refine sat_seqN' (σ' := [some (.val (.ref a)), some (.val (.loc n.1)), x2, x3, x4, x5, some (.val v), some (.val (.tup [.str "raised", kindsV "BadMachine", .str (rp t)])), x8, some (.val t), some (.val u)]) ?_ ?_
    · simp [l_is_machine_eq ht.1, hmt, rt, kinds_m, bodyF, slots, fSeq, fIf, fRet, fRetN, fAsg, fDo, fPass, fCnt, fBrk, fPar, fAM, setItS, fOwn, fmL, fmFn, fVar, fC, fOp, fUn, fCmp, fCmpT, fCh, fChT, fTru, truF, fNotT, fAndT, fOrT, fNotV, fAndV, fOrV, fIfE, fNil, fCons, fTup, fLst, fFn, f1, f2, fIsi, isiF, fSl, fNoO, fSmO, slF, fCall, fCallK, fMt, isStrB, fIt, itF, fRg1, fRg2, lenF, listF, tupleF, seqF, fRaise, M.ret_bind, M.raise_bind, M.bad_bind, M.ofO_some, M.ofO_none, M.ne_ret, M.ne_raise, M.ite_bind, M.bind_assoc, bor, rel, lck, Tg.goS, setAllS, Tg.go, setAll, wpI, pick, ixF, ixS, addF, negF, ltF, leF, gtF, geF, ciF, List.map_cons, List.map_nil, List.length_cons, List.length_nil, List.set_cons_zero, List.set_cons_succ, List.set_nil, List.getElem?_cons_zero, List.getElem?_cons_succ, List.replicate, List.cons_append, List.nil_append, Option.join_some, Option.join_none, Option.map_some, Option.map_none, Option.bind_some, Option.bind_none]
    · rw [ifF (by simp [fTried, after_bad1 ht.1 hmt, tr_raise (show ("BadMachine" : Str) ∈ errs by decide +kernel) rt, kinds_m, ne_raised, bodyF, slots, fSeq, fIf, fRet, fRetN, fAsg, fDo, fPass, fCnt, fBrk, fPar, fAM, setItS, fOwn, fmL, fmFn, fVar, fC, fOp, fUn, fCmp, fCmpT, fCh, fChT, fTru, truF, fNotT, fAndT, fOrT, fNotV, fAndV, fOrV, fIfE, fNil, fCons, fTup, fLst, fFn, f1, f2, fIsi, isiF, fSl, fNoO, fSmO, slF, fCall, fCallK, fMt, isStrB, fIt, itF, fRg1, fRg2, lenF, listF, tupleF, seqF, fRaise, M.ret_bind, M.raise_bind, M.bad_bind, M.ofO_some, M.ofO_none, M.ne_ret, M.ne_raise, M.ite_bind, M.bind_assoc, bor, rel, lck, Tg.goS, setAllS, Tg.go, setAll, wpI, pick, ixF, ixS, addF, negF, ltF, leF, gtF, geF, ciF, List.map_cons, List.map_nil, List.length_cons, List.length_nil, List.set_cons_zero, List.set_cons_succ, List.set_nil, List.getElem?_cons_zero, List.getElem?_cons_succ, List.replicate, List.cons_append, List.nil_append, Option.join_some, Option.join_none, Option.map_some, Option.map_none, Option.bind_some, Option.bind_none])]
      exact M.sat_ret ⟨_, rfl, _, _, _, _, _, _, _, _, _, rfl⟩
  | true =>
    cases hw : isW u with
    | false =>
      refine sat_seqN' (σ' := [some (.val (.ref a)), some (.val (.loc n.1)), x2, x3, x4, x5, some (.val v), some (.val (.tup [.str "raised", kindsV "BadWord", .str (rp u)])), x8, some (.val t), some (.val u)]) ?_ ?_
      · simp [l_is_machine_eq ht.1, l_is_word_eq hu.1, hmt, hw, ru, kinds_w, bodyF, slots, fSeq, fIf, fRet, fRetN, fAsg, fDo, fPass, fCnt, fBrk, fPar, fAM, setItS, fOwn, fmL, fmFn, fVar, fC, fOp, fUn, fCmp, fCmpT, fCh, fChT, fTru, truF, fNotT, fAndT, fOrT, fNotV, fAndV, fOrV, fIfE, fNil, fCons, fTup, fLst, fFn, f1, f2, fIsi, isiF, fSl, fNoO, fSmO, slF, fCall, fCallK, fMt, isStrB, fIt, itF, fRg1, fRg2, lenF, listF, tupleF, seqF, fRaise, M.ret_bind, M.raise_bind, M.bad_bind, M.ofO_some, M.ofO_none, M.ne_ret, M.ne_raise, M.ite_bind, M.bind_assoc, bor, rel, lck, Tg.goS, setAllS, Tg.go, setAll, wpI, pick, ixF, ixS, addF, negF, ltF, leF, gtF, geF, ciF, List.map_cons, List.map_nil, List.length_cons, List.length_nil, List.set_cons_zero, List.set_cons_succ, List.set_nil, List.getElem?_cons_zero, List.getElem?_cons_succ, List.replicate, List.cons_append, List.nil_append, Option.join_some, Option.join_none, Option.map_some, Option.map_none, Option.bind_some, Option.bind_none]
      · rw [ifF (by simp [fTried, after_bad2 ht.1 hu.1 hmt hw, tr_raise (show ("BadWord" : Str) ∈ errs by decide +kernel) ru, kinds_w, ne_raised, bodyF, slots, fSeq, fIf, fRet, fRetN, fAsg, fDo, fPass, fCnt, fBrk, fPar, fAM, setItS, fOwn, fmL, fmFn, fVar, fC, fOp, fUn, fCmp, fCmpT, fCh, fChT, fTru, truF, fNotT, fAndT, fOrT, fNotV, fAndV, fOrV, fIfE, fNil, fCons, fTup, fLst, fFn, f1, f2, fIsi, isiF, fSl, fNoO, fSmO, slF, fCall, fCallK, fMt, isStrB, fIt, itF, fRg1, fRg2, lenF, listF, tupleF, seqF, fRaise, M.ret_bind, M.raise_bind, M.bad_bind, M.ofO_some, M.ofO_none, M.ne_ret, M.ne_raise, M.ite_bind, M.bind_assoc, bor, rel, lck, Tg.goS, setAllS, Tg.go, setAll, wpI, pick, ixF, ixS, addF, negF, ltF, leF, gtF, geF, ciF, List.map_cons, List.map_nil, List.length_cons, List.length_nil, List.set_cons_zero, List.set_cons_succ, List.set_nil, List.getElem?_cons_zero, List.getElem?_cons_succ, List.replicate, List.cons_append, List.nil_append, Option.join_some, Option.join_none, Option.map_some, Option.map_none, Option.bind_some, Option.bind_none])]
        exact M.sat_ret ⟨_, rfl, _, _, _, _, _, _, _, _, _, rfl⟩
    | true =>
      cases hn : isNN v with
      | false =>
        refine sat_seqN' (σ' := [some (.val (.ref a)), some (.val (.loc n.1)), x2, x3, x4, x5, some (.val v), some (.val (.tup [.str "raised", kindsV "BadNumber", .str (rp v)])), x8, some (.val t), some (.val u)]) ?_ ?_
        · simp [l_is_machine_eq ht.1, l_is_word_eq hu.1, l_is_number_eq hv.1.1, hmt, hw, hn, rv, kinds_n, bodyF, slots, fSeq, fIf, fRet, fRetN, fAsg, fDo, fPass, fCnt, fBrk, fPar, fAM, setItS, fOwn, fmL, fmFn, fVar, fC, fOp, fUn, fCmp, fCmpT, fCh, fChT, fTru, truF, fNotT, fAndT, fOrT, fNotV, fAndV, fOrV, fIfE, fNil, fCons, fTup, fLst, fFn, f1, f2, fIsi, isiF, fSl, fNoO, fSmO, slF, fCall, fCallK, fMt, isStrB, fIt, itF, fRg1, fRg2, lenF, listF, tupleF, seqF, fRaise, M.ret_bind, M.raise_bind, M.bad_bind, M.ofO_some, M.ofO_none, M.ne_ret, M.ne_raise, M.ite_bind, M.bind_assoc, bor, rel, lck, Tg.goS, setAllS, Tg.go, setAll, wpI, pick, ixF, ixS, addF, negF, ltF, leF, gtF, geF, ciF, List.map_cons, List.map_nil, List.length_cons, List.length_nil, List.set_cons_zero, List.set_cons_succ, List.set_nil, List.getElem?_cons_zero, List.getElem?_cons_succ, List.replicate, List.cons_append, List.nil_append, Option.join_some, Option.join_none, Option.map_some, Option.map_none, Option.bind_some, Option.bind_none]
        · rw [ifF (by simp [fTried, after_bad3 ht.1 hu.1 hv.1.1 hmt hw hn, tr_raise (show ("BadNumber" : Str) ∈ errs by decide +kernel) rv, kinds_n, ne_raised, bodyF, slots, fSeq, fIf, fRet, fRetN, fAsg, fDo, fPass, fCnt, fBrk, fPar, fAM, setItS, fOwn, fmL, fmFn, fVar, fC, fOp, fUn, fCmp, fCmpT, fCh, fChT, fTru, truF, fNotT, fAndT, fOrT, fNotV, fAndV, fOrV, fIfE, fNil, fCons, fTup, fLst, fFn, f1, f2, fIsi, isiF, fSl, fNoO, fSmO, slF, fCall, fCallK, fMt, isStrB, fIt, itF, fRg1, fRg2, lenF, listF, tupleF, seqF, fRaise, M.ret_bind, M.raise_bind, M.bad_bind, M.ofO_some, M.ofO_none, M.ne_ret, M.ne_raise, M.ite_bind, M.bind_assoc, bor, rel, lck, Tg.goS, setAllS, Tg.go, setAll, wpI, pick, ixF, ixS, addF, negF, ltF, leF, gtF, geF, ciF, List.map_cons, List.map_nil, List.length_cons, List.length_nil, List.set_cons_zero, List.set_cons_succ, List.set_nil, List.getElem?_cons_zero, List.getElem?_cons_succ, List.replicate, List.cons_append, List.nil_append, Option.join_some, Option.join_none, Option.map_some, Option.map_none, Option.bind_some, Option.bind_none])]
          exact M.sat_ret ⟨_, rfl, _, _, _, _, _, _, _, _, _, rfl⟩
      | true =>
        obtain ⟨ts, rfl⟩ := mach_tup hmt
        cases u <;> first | (simp [isW] at hw; done) | skip
        case str x =>
          obtain ⟨w, rfl⟩ := S_ex x
          have wl : w.all isB = true := by simpa [isW] using hw
          have lw : w.length ≤ 100 := by have := hu.2.2; simpa [bk] using this
          cases v <;> first | (simp [isNN] at hn; done) | skip
          case int i =>
            have i0 : 0 ≤ i := by simpa [isNN] using hn
            have i1 := hv.2 i rfl
            obtain ⟨m, rfl⟩ : ∃ m : Nat, i = m := ⟨i.toNat, by omega⟩
            have tl : ts.length ≤ 1000000 := by have := hlen ts rfl; omega
            have hb : St ts.length 100 (begin w) := begin_st wl lw
            have e1 := l_after_eq hmt m hb (by omega)
            have e2 := after_ok ht.1 hmt wl (by omega) (show m < 1000 by omega)
            have hs := after_st hmt m hb
            have f := hs.fine tl
            have rs := reprM_ok f (by decide) (by omega)
            generalize after ts m (begin w) = z at e1 e2 rs
            refine sat_seqN' (σ' := [some (.val (.ref a)), some (.val (.loc n.1)), x2, x3, x4, x5, some (.val (.int m)), some (.val (.tup [.str "returned", .str (rp z)])), x8, some (.val (.tup ts)), some (.val (.str (S w)))]) ?_ ?_
            · simp only [begin, sE] at e1
              simp [l_is_machine_eq ht.1, l_is_word_eq hu.1, l_is_number_eq hv.1.1, hmt, hw, hn, sE, e1, rs, bodyF, slots, fSeq, fIf, fRet, fRetN, fAsg, fDo, fPass, fCnt, fBrk, fPar, fAM, setItS, fOwn, fmL, fmFn, fVar, fC, fOp, fUn, fCmp, fCmpT, fCh, fChT, fTru, truF, fNotT, fAndT, fOrT, fNotV, fAndV, fOrV, fIfE, fNil, fCons, fTup, fLst, fFn, f1, f2, fIsi, isiF, fSl, fNoO, fSmO, slF, fCall, fCallK, fMt, isStrB, fIt, itF, fRg1, fRg2, lenF, listF, tupleF, seqF, fRaise, M.ret_bind, M.raise_bind, M.bad_bind, M.ofO_some, M.ofO_none, M.ne_ret, M.ne_raise, M.ite_bind, M.bind_assoc, bor, rel, lck, Tg.goS, setAllS, Tg.go, setAll, wpI, pick, ixF, ixS, addF, negF, ltF, leF, gtF, geF, ciF, List.map_cons, List.map_nil, List.length_cons, List.length_nil, List.set_cons_zero, List.set_cons_succ, List.set_nil, List.getElem?_cons_zero, List.getElem?_cons_succ, List.replicate, List.cons_append, List.nil_append, Option.join_some, Option.join_none, Option.map_some, Option.map_none, Option.bind_some, Option.bind_none]
            · rw [ifF (by simp [fTried, e2, tr_ret rs, ne_returned, bodyF, slots, fSeq, fIf, fRet, fRetN, fAsg, fDo, fPass, fCnt, fBrk, fPar, fAM, setItS, fOwn, fmL, fmFn, fVar, fC, fOp, fUn, fCmp, fCmpT, fCh, fChT, fTru, truF, fNotT, fAndT, fOrT, fNotV, fAndV, fOrV, fIfE, fNil, fCons, fTup, fLst, fFn, f1, f2, fIsi, isiF, fSl, fNoO, fSmO, slF, fCall, fCallK, fMt, isStrB, fIt, itF, fRg1, fRg2, lenF, listF, tupleF, seqF, fRaise, M.ret_bind, M.raise_bind, M.bad_bind, M.ofO_some, M.ofO_none, M.ne_ret, M.ne_raise, M.ite_bind, M.bind_assoc, bor, rel, lck, Tg.goS, setAllS, Tg.go, setAll, wpI, pick, ixF, ixS, addF, negF, ltF, leF, gtF, geF, ciF, List.map_cons, List.map_nil, List.length_cons, List.length_nil, List.set_cons_zero, List.set_cons_succ, List.set_nil, List.getElem?_cons_zero, List.getElem?_cons_succ, List.replicate, List.cons_append, List.nil_append, Option.join_some, Option.join_none, Option.map_some, Option.map_none, Option.bind_some, Option.bind_none])]
              exact M.sat_ret ⟨_, rfl, _, _, _, _, _, _, _, _, _, rfl⟩
def nears : List PV := [.non, .int 0, .int 1, .bl true, .str "2", .str "01a", .str "0 1", .str " ", .tup [.str "0"], .lst [.str "0", .str "1"], .dct [], .str "0\n", .str "110", .str ""]
theorem nears_ok : ∀ v ∈ nears, Wl v := by
  have h : (nears.all fun p => lf p && (decide (dp p ≤ 2) && decide (bk p ≤ 100))) = true := by decide +kernel
  intro v m
  have := List.all_eq_true.mp h v m
  simp only [Bool.and_eq_true, decide_eq_true_eq] at this
  exact this
def manys : List PV := [.non, .bl true, .bl false, .int (-1), .str "1", .str "", .tup [], .tup [.int 1], .lst [.int 1], .dct [], .int (-1000000000000000000000000000000000000000), .int 0, .int 3]
theorem manys_ok : ∀ v ∈ manys, Nl v := by
  have h : (manys.all fun p => lf p && (decide (dp p ≤ 2) && (decide (bk p ≤ 100) && (match p with | .int i => decide (i ≤ 100) | _ => true)))) = true := by decide +kernel
  intro v m
  have := List.all_eq_true.mp h v m
  simp only [Bool.and_eq_true, decide_eq_true_eq] at this
  refine ⟨⟨this.1, this.2.1, this.2.2.1⟩, fun i e => ?_⟩
  subst e
  simpa using this.2.2.2
theorem turn2_ok {a : Addr} {n : Nat × Nat} {x2 x3 x4 x5 x6 x7 x8 x9 x10 : Option SV} :
    M.sat n ((fSeq (fAsg [] (.tp [9, 10, 6]) (fTup (fCons (fCall 2 F__law_machine (fCons (fVar 1) (fCons (fC (.int 5)) fNil))) (fCons (fCall 2 F__law_word (fCons (fVar 1) (fCons (fC (.int 6)) fNil))) (fCons (fCall 2 F__law_draw (fCons (fVar 1) (fCons (fC (.int 30)) fNil))) fNil)))))
  (fSeq (fIf [] (fCmpT eqF (fCall 2 F__law_draw (fCons (fVar 1) (fCons (fC (.int 3)) fNil))) (fC (.int 0))) (fAsg [] (.nm 9) (fCall 3 (F__law_bent 20) (fCons (fVar 1) (fCons (fVar 9) (fCons (fun _ => F__law_odd []) fNil))))) fPass)
  (fSeq (fIf [] (fCmpT eqF (fCall 2 F__law_draw (fCons (fVar 1) (fCons (fC (.int 2)) fNil))) (fC (.int 0))) (fAsg [] (.nm 10) (fCall 2 F__law_pick (fCons (fVar 1) (fCons (fLst (fCons (fC .non) (fCons (fC (.int 0)) (fCons (fC (.int 1)) (fCons (fC (.bl true)) (fCons (fC (.str "2")) (fCons (fC (.str "01a")) (fCons (fC (.str "0 1")) (fCons (fC (.str " ")) (fCons (fTup (fCons (fC (.str "0")) fNil)) (fCons (fLst (fCons (fC (.str "0")) (fCons (fC (.str "1")) fNil))) (fCons (fC (.dct [])) (fCons (fC (.str "0\n")) (fCons (fC (.str "110")) (fCons (fC (.str "")) fNil))))))))))))))) fNil)))) fPass)
  (fSeq (fIf [] (fCmpT eqF (fCall 2 F__law_draw (fCons (fVar 1) (fCons (fC (.int 2)) fNil))) (fC (.int 0))) (fAsg [] (.nm 6) (fCall 2 F__law_pick (fCons (fVar 1) (fCons (fLst (fCons (fC .non) (fCons (fC (.bl true)) (fCons (fC (.bl false)) (fCons (fUn negF (fC (.int 1))) (fCons (fC (.str "1")) (fCons (fC (.str "")) (fCons (fTup fNil) (fCons (fTup (fCons (fC (.int 1)) fNil)) (fCons (fLst (fCons (fC (.int 1)) fNil)) (fCons (fC (.dct [])) (fCons (fUn negF (fOp powF (fC (.int 10)) (fC (.int 39)))) (fCons (fC (.int 0)) (fCons (fC (.int 3)) fNil)))))))))))))) fNil)))) fPass)
  (fSeq (fIf [] (fNotT (fTru (fCall 1 F__law_is_machine (fCons (fVar 9) fNil)))) (fAsg [] (.nm 7) (fTup (fCons (fC (.str "raised")) (fCons (fTup (fCons (fC (.bl true)) (fCons (fC (.bl false)) (fCons (fC (.bl false)) (fCons (fC (.bl false)) fNil))))) (fCons (fFn (f1 reprF) (fCons (fVar 9) fNil)) fNil))))) (fIf [] (fNotT (fTru (fCall 1 F__law_is_word (fCons (fVar 10) fNil)))) (fAsg [] (.nm 7) (fTup (fCons (fC (.str "raised")) (fCons (fTup (fCons (fC (.bl false)) (fCons (fC (.bl false)) (fCons (fC (.bl true)) (fCons (fC (.bl false)) fNil))))) (fCons (fFn (f1 reprF) (fCons (fVar 10) fNil)) fNil))))) (fIf [] (fNotT (fTru (fCall 1 F__law_is_number (fCons (fVar 6) fNil)))) (fAsg [] (.nm 7) (fTup (fCons (fC (.str "raised")) (fCons (fTup (fCons (fC (.bl false)) (fCons (fC (.bl false)) (fCons (fC (.bl false)) (fCons (fC (.bl true)) fNil))))) (fCons (fFn (f1 reprF) (fCons (fVar 6) fNil)) fNil))))) (fAsg [] (.nm 7) (fTup (fCons (fC (.str "returned")) (fCons (fFn (f1 reprF) (fCons (fCall 3 F__law_after (fCons (fVar 9) (fCons (fTup (fCons (fC (.int 0)) (fCons (fVar 10) (fCons (fC (.str "")) fNil)))) (fCons (fVar 6) fNil)))) fNil)) fNil)))))))
  (fIf [] (fCmpT neF (fTried tr (fCall 3 F_standing_after (fCons (fVar 9) (fCons (fVar 10) (fCons (fVar 6) fNil))))) (fVar 7)) (fRet [] (fC (.bl false))) fPass)))))) [some (.val (.ref a)), some (.val (.loc n.1)), x2, x3, x4, x5, x6, x7, x8, x9, x10])
      fun o => ∃ σ, o = .nx σ ∧ ∃ x2 x3 x4 x5 x6 x7 x8 x9 x10, σ = [some (.val (.ref a)), some (.val (.loc n.1)), x2, x3, x4, x5, x6, x7, x8, x9, x10] := by
  refine sat_seqP (P := fun σ => ∃ t u v, Fine 3 132 t ∧ Wl u ∧ Nl v ∧ σ = [some (.val (.ref a)), some (.val (.loc n.1)), x2, x3, x4, x5, some (.val v), x7, x8, some (.val t), some (.val u)]) ?_ ?_
  · refine M.sat_keep fun Q hQ => ?_
    simp [bodyF, slots, fSeq, fIf, fRet, fRetN, fAsg, fDo, fPass, fCnt, fBrk, fPar, fAM, setItS, fOwn, fmL, fmFn, fVar, fC, fOp, fUn, fCmp, fCmpT, fCh, fChT, fTru, truF, fNotT, fAndT, fOrT, fNotV, fAndV, fOrV, fIfE, fNil, fCons, fTup, fLst, fFn, f1, f2, fIsi, isiF, fSl, fNoO, fSmO, slF, fCall, fCallK, fMt, isStrB, fIt, itF, fRg1, fRg2, lenF, listF, tupleF, seqF, fRaise, M.ret_bind, M.raise_bind, M.bad_bind, M.ofO_some, M.ofO_none, M.ne_ret, M.ne_raise, M.ite_bind, M.bind_assoc, bor, rel, lck, Tg.goS, setAllS, Tg.go, setAll, wpI, pick, ixF, ixS, addF, negF, ltF, leF, gtF, geF, ciF, List.map_cons, List.map_nil, List.length_cons, List.length_nil, List.set_cons_zero, List.set_cons_succ, List.set_nil, List.getElem?_cons_zero, List.getElem?_cons_succ, List.replicate, List.cons_append, List.nil_append, Option.join_some, Option.join_none, Option.map_some, Option.map_none, Option.bind_some, Option.bind_none]
    refine M.sat_bindE (machine_sat (by decide) (by decide)) fun v hv => ?_
    obtain ⟨ms, rfl, h, l⟩ := hv
    refine M.sat_bindE (word_sat (by decide) (by decide)) fun v hv => ?_
    obtain ⟨w, rfl, wl, hw⟩ := hv
    refine M.sat_bind (M.sat_draw (by decide) (by decide) fun r r0 r1 => ?_)
    have f := mach_fine (by omega) h
    refine M.sat_ret (hQ _ ⟨_, rfl, .tup ms, .str (S w), .int r, ⟨f.1, f.2.1, by have := f.2.2; omega⟩, ⟨word_fine wl, by simp [dp], by simp [bk]; omega⟩, ⟨⟨?_, by simp [dp], by simp [bk]⟩, fun i e => by cases e; omega⟩, rfl⟩)
    simp only [lf, decide_eq_true_eq]
    exact Nat.lt_of_le_of_lt (show r.natAbs ≤ 1000 by omega) (by decide +kernel)
  rintro σ ⟨t, u, v, ht, hu, hv, rfl⟩
  refine sat_seqP (P := fun σ => ∃ t, Fine 6 400 t ∧ σ = [some (.val (.ref a)), some (.val (.loc n.1)), x2, x3, x4, x5, some (.val v), x7, x8, some (.val t), some (.val u)]) ?_ ?_
  · refine sat_if (P := fun _ => True) ?_ (fun _ => ?_) (fun _ => M.sat_ret ⟨_, rfl, _, ⟨ht.1, by have := ht.2.1; omega, by have := ht.2.2; omega⟩, rfl⟩)
    · simp only [bodyF, slots, fSeq, fIf, fRet, fRetN, fAsg, fDo, fPass, fCnt, fBrk, fPar, fAM, setItS, fOwn, fmL, fmFn, fVar, fC, fOp, fUn, fCmp, fCmpT, fCh, fChT, fTru, truF, fNotT, fAndT, fOrT, fNotV, fAndV, fOrV, fIfE, fNil, fCons, fTup, fLst, fFn, f1, f2, fIsi, isiF, fSl, fNoO, fSmO, slF, fCall, fCallK, fMt, isStrB, fIt, itF, fRg1, fRg2, lenF, listF, tupleF, seqF, fRaise, M.ret_bind, M.raise_bind, M.bad_bind, M.ofO_some, M.ofO_none, M.ne_ret, M.ne_raise, M.ite_bind, M.bind_assoc, bor, rel, lck, Tg.goS, setAllS, Tg.go, setAll, wpI, pick, ixF, ixS, addF, negF, ltF, leF, gtF, geF, ciF, List.map_cons, List.map_nil, List.length_cons, List.length_nil, List.set_cons_zero, List.set_cons_succ, List.set_nil, List.getElem?_cons_zero, List.getElem?_cons_succ, List.replicate, List.cons_append, List.nil_append, Option.join_some, Option.join_none, Option.map_some, Option.map_none, Option.bind_some, Option.bind_none]
      exact draw0_sat (by decide) (by decide) fun _ => trivial
    · refine sat_asg (P := Fine 6 400) ?_ ?_
      · refine M.sat_keep fun Q hQ => ?_
        simp [odd_eq, bodyF, slots, fSeq, fIf, fRet, fRetN, fAsg, fDo, fPass, fCnt, fBrk, fPar, fAM, setItS, fOwn, fmL, fmFn, fVar, fC, fOp, fUn, fCmp, fCmpT, fCh, fChT, fTru, truF, fNotT, fAndT, fOrT, fNotV, fAndV, fOrV, fIfE, fNil, fCons, fTup, fLst, fFn, f1, f2, fIsi, isiF, fSl, fNoO, fSmO, slF, fCall, fCallK, fMt, isStrB, fIt, itF, fRg1, fRg2, lenF, listF, tupleF, seqF, fRaise, M.ret_bind, M.raise_bind, M.bad_bind, M.ofO_some, M.ofO_none, M.ne_ret, M.ne_raise, M.ite_bind, M.bind_assoc, bor, rel, lck, Tg.goS, setAllS, Tg.go, setAll, wpI, pick, ixF, ixS, addF, negF, ltF, leF, gtF, geF, ciF, List.map_cons, List.map_nil, List.length_cons, List.length_nil, List.set_cons_zero, List.set_cons_succ, List.set_nil, List.getElem?_cons_zero, List.getElem?_cons_succ, List.replicate, List.cons_append, List.nil_append, Option.join_some, Option.join_none, Option.map_some, Option.map_none, Option.bind_some, Option.bind_none]
        refine M.sat_mono (fun v hv => hQ v ?_) (bent_sat odd_l 20 t (by have := ht.2.1; omega) ht.1 (by have := ht.2.2; omega))
        exact ⟨hv.1, by have := hv.2.1; have := ht.2.1; omega, by have := hv.2.2; have := ht.2.2; omega⟩
      · intro v hv
        exact ⟨_, rfl, _, rfl, v, hv, rfl⟩
  rintro σ ⟨t, ht, rfl⟩
  refine sat_seqP (P := fun σ => ∃ u, Wl u ∧ σ = [some (.val (.ref a)), some (.val (.loc n.1)), x2, x3, x4, x5, some (.val v), x7, x8, some (.val t), some (.val u)]) ?_ ?_
  · refine sat_if (P := fun _ => True) ?_ (fun _ => ?_) (fun _ => M.sat_ret ⟨_, rfl, _, hu, rfl⟩)
    · simp only [bodyF, slots, fSeq, fIf, fRet, fRetN, fAsg, fDo, fPass, fCnt, fBrk, fPar, fAM, setItS, fOwn, fmL, fmFn, fVar, fC, fOp, fUn, fCmp, fCmpT, fCh, fChT, fTru, truF, fNotT, fAndT, fOrT, fNotV, fAndV, fOrV, fIfE, fNil, fCons, fTup, fLst, fFn, f1, f2, fIsi, isiF, fSl, fNoO, fSmO, slF, fCall, fCallK, fMt, isStrB, fIt, itF, fRg1, fRg2, lenF, listF, tupleF, seqF, fRaise, M.ret_bind, M.raise_bind, M.bad_bind, M.ofO_some, M.ofO_none, M.ne_ret, M.ne_raise, M.ite_bind, M.bind_assoc, bor, rel, lck, Tg.goS, setAllS, Tg.go, setAll, wpI, pick, ixF, ixS, addF, negF, ltF, leF, gtF, geF, ciF, List.map_cons, List.map_nil, List.length_cons, List.length_nil, List.set_cons_zero, List.set_cons_succ, List.set_nil, List.getElem?_cons_zero, List.getElem?_cons_succ, List.replicate, List.cons_append, List.nil_append, Option.join_some, Option.join_none, Option.map_some, Option.map_none, Option.bind_some, Option.bind_none]
      exact draw0_sat (by decide) (by decide) fun _ => trivial
    · refine sat_asg (P := Wl) ?_ ?_
      · refine M.sat_keep fun Q hQ => ?_
        simp [bodyF, slots, fSeq, fIf, fRet, fRetN, fAsg, fDo, fPass, fCnt, fBrk, fPar, fAM, setItS, fOwn, fmL, fmFn, fVar, fC, fOp, fUn, fCmp, fCmpT, fCh, fChT, fTru, truF, fNotT, fAndT, fOrT, fNotV, fAndV, fOrV, fIfE, fNil, fCons, fTup, fLst, fFn, f1, f2, fIsi, isiF, fSl, fNoO, fSmO, slF, fCall, fCallK, fMt, isStrB, fIt, itF, fRg1, fRg2, lenF, listF, tupleF, seqF, fRaise, M.ret_bind, M.raise_bind, M.bad_bind, M.ofO_some, M.ofO_none, M.ne_ret, M.ne_raise, M.ite_bind, M.bind_assoc, bor, rel, lck, Tg.goS, setAllS, Tg.go, setAll, wpI, pick, ixF, ixS, addF, negF, ltF, leF, gtF, geF, ciF, List.map_cons, List.map_nil, List.length_cons, List.length_nil, List.set_cons_zero, List.set_cons_succ, List.set_nil, List.getElem?_cons_zero, List.getElem?_cons_succ, List.replicate, List.cons_append, List.nil_append, Option.join_some, Option.join_none, Option.map_some, Option.map_none, Option.bind_some, Option.bind_none]
        exact M.sat_mono (fun v hv => hQ v (nears_ok v hv)) (pick_sat (n := n) (ps := nears) (by decide) (by decide))
      · intro v hv
        exact ⟨_, rfl, _, rfl, v, hv, rfl⟩
  rintro σ ⟨u, hu, rfl⟩
  refine sat_seqP (P := fun σ => ∃ v, Nl v ∧ σ = [some (.val (.ref a)), some (.val (.loc n.1)), x2, x3, x4, x5, some (.val v), x7, x8, some (.val t), some (.val u)]) ?_ ?_
  · refine sat_if (P := fun _ => True) ?_ (fun _ => ?_) (fun _ => M.sat_ret ⟨_, rfl, _, hv, rfl⟩)
    · simp only [bodyF, slots, fSeq, fIf, fRet, fRetN, fAsg, fDo, fPass, fCnt, fBrk, fPar, fAM, setItS, fOwn, fmL, fmFn, fVar, fC, fOp, fUn, fCmp, fCmpT, fCh, fChT, fTru, truF, fNotT, fAndT, fOrT, fNotV, fAndV, fOrV, fIfE, fNil, fCons, fTup, fLst, fFn, f1, f2, fIsi, isiF, fSl, fNoO, fSmO, slF, fCall, fCallK, fMt, isStrB, fIt, itF, fRg1, fRg2, lenF, listF, tupleF, seqF, fRaise, M.ret_bind, M.raise_bind, M.bad_bind, M.ofO_some, M.ofO_none, M.ne_ret, M.ne_raise, M.ite_bind, M.bind_assoc, bor, rel, lck, Tg.goS, setAllS, Tg.go, setAll, wpI, pick, ixF, ixS, addF, negF, ltF, leF, gtF, geF, ciF, List.map_cons, List.map_nil, List.length_cons, List.length_nil, List.set_cons_zero, List.set_cons_succ, List.set_nil, List.getElem?_cons_zero, List.getElem?_cons_succ, List.replicate, List.cons_append, List.nil_append, Option.join_some, Option.join_none, Option.map_some, Option.map_none, Option.bind_some, Option.bind_none]
      exact draw0_sat (by decide) (by decide) fun _ => trivial
    · refine sat_asg (P := Nl) ?_ ?_
      · refine M.sat_keep fun Q hQ => ?_
        simp [powF, iiF, bodyF, slots, fSeq, fIf, fRet, fRetN, fAsg, fDo, fPass, fCnt, fBrk, fPar, fAM, setItS, fOwn, fmL, fmFn, fVar, fC, fOp, fUn, fCmp, fCmpT, fCh, fChT, fTru, truF, fNotT, fAndT, fOrT, fNotV, fAndV, fOrV, fIfE, fNil, fCons, fTup, fLst, fFn, f1, f2, fIsi, isiF, fSl, fNoO, fSmO, slF, fCall, fCallK, fMt, isStrB, fIt, itF, fRg1, fRg2, lenF, listF, tupleF, seqF, fRaise, M.ret_bind, M.raise_bind, M.bad_bind, M.ofO_some, M.ofO_none, M.ne_ret, M.ne_raise, M.ite_bind, M.bind_assoc, bor, rel, lck, Tg.goS, setAllS, Tg.go, setAll, wpI, pick, ixF, ixS, addF, negF, ltF, leF, gtF, geF, ciF, List.map_cons, List.map_nil, List.length_cons, List.length_nil, List.set_cons_zero, List.set_cons_succ, List.set_nil, List.getElem?_cons_zero, List.getElem?_cons_succ, List.replicate, List.cons_append, List.nil_append, Option.join_some, Option.join_none, Option.map_some, Option.map_none, Option.bind_some, Option.bind_none]
        exact M.sat_mono (fun v hv => hQ v (manys_ok v hv)) (pick_sat (n := n) (ps := manys) (by decide) (by decide))
      · intro v hv
        exact ⟨_, rfl, _, rfl, v, hv, rfl⟩
  rintro σ ⟨v, hv, rfl⟩
  refine judge_ok ht hu hv fun ts e => ?_
  subst e
  have h1 := ht.2.2
  simp only [bk] at h1
  have := len_bks ts
  omega
theorem rest_ok (a : Addr) (n : Nat × Nat) : M.sat n (f_law tr ((slots 11 [.ref a]).set 1 (some (.val (.loc n.1))))) fun o => o = .rt (.bl true) := by
  unfold f_law
  refine sat_seqP (P := fun σ => ∃ x2 x3 x4 x5 x6 x7 x8 x9 x10, σ = [some (.val (.ref a)), some (.val (.loc n.1)), x2, x3, x4, x5, x6, x7, x8, x9, x10]) ?_ ?_
  · refine sat_for0 (ps := intsL 0 2) (by simp [bodyF, slots, fSeq, fIf, fRet, fRetN, fAsg, fDo, fPass, fCnt, fBrk, fPar, fAM, setItS, fOwn, fmL, fmFn, fVar, fC, fOp, fUn, fCmp, fCmpT, fCh, fChT, fTru, truF, fNotT, fAndT, fOrT, fNotV, fAndV, fOrV, fIfE, fNil, fCons, fTup, fLst, fFn, f1, f2, fIsi, isiF, fSl, fNoO, fSmO, slF, fCall, fCallK, fMt, isStrB, fIt, itF, fRg1, fRg2, lenF, listF, tupleF, seqF, fRaise, M.ret_bind, M.raise_bind, M.bad_bind, M.ofO_some, M.ofO_none, M.ne_ret, M.ne_raise, M.ite_bind, M.bind_assoc, bor, rel, lck, Tg.goS, setAllS, Tg.go, setAll, wpI, pick, ixF, ixS, addF, negF, ltF, leF, gtF, geF, ciF, List.map_cons, List.map_nil, List.length_cons, List.length_nil, List.set_cons_zero, List.set_cons_succ, List.set_nil, List.getElem?_cons_zero, List.getElem?_cons_succ, List.replicate, List.cons_append, List.nil_append, Option.join_some, Option.join_none, Option.map_some, Option.map_none, Option.bind_some, Option.bind_none]) ?_
    refine sat_forJ (fun σ => ∃ x2 x3 x4 x5 x6 x7 x8 x9 x10, σ = [some (.val (.ref a)), some (.val (.loc n.1)), x2, x3, x4, x5, x6, x7, x8, x9, x10]) (fun _ => True) (fun σ j => ⟨_, rfl, j⟩) ?_ _ (fun _ _ => trivial) _ ⟨_, _, _, _, _, _, _, _, _, rfl⟩
    rintro p σ - ⟨x2, x3, x4, x5, x6, x7, x8, x9, x10, rfl⟩
    refine ⟨_, rfl, M.sat_mono (fun o q => .inl ?_) turn_ok⟩
    obtain ⟨σ, rfl, y3, y4, y5, y6, y7, y8, y9, y10, rfl⟩ := q
    exact ⟨_, rfl, _, _, _, _, _, _, _, _, _, rfl⟩
  rintro σ ⟨x2, x3, x4, x5, x6, x7, x8, x9, x10, rfl⟩
  refine sat_seqP (P := fun _ => True) ?_ (fun σ _ => M.sat_mono (fun o q => ?_) (sat_ret_e (R := []) (P := fun v => v = .bl true) (M.sat_det rfl rfl)))
  · refine sat_for0 (ps := intsL 0 8) (by simp [bodyF, slots, fSeq, fIf, fRet, fRetN, fAsg, fDo, fPass, fCnt, fBrk, fPar, fAM, setItS, fOwn, fmL, fmFn, fVar, fC, fOp, fUn, fCmp, fCmpT, fCh, fChT, fTru, truF, fNotT, fAndT, fOrT, fNotV, fAndV, fOrV, fIfE, fNil, fCons, fTup, fLst, fFn, f1, f2, fIsi, isiF, fSl, fNoO, fSmO, slF, fCall, fCallK, fMt, isStrB, fIt, itF, fRg1, fRg2, lenF, listF, tupleF, seqF, fRaise, M.ret_bind, M.raise_bind, M.bad_bind, M.ofO_some, M.ofO_none, M.ne_ret, M.ne_raise, M.ite_bind, M.bind_assoc, bor, rel, lck, Tg.goS, setAllS, Tg.go, setAll, wpI, pick, ixF, ixS, addF, negF, ltF, leF, gtF, geF, ciF, List.map_cons, List.map_nil, List.length_cons, List.length_nil, List.set_cons_zero, List.set_cons_succ, List.set_nil, List.getElem?_cons_zero, List.getElem?_cons_succ, List.replicate, List.cons_append, List.nil_append, Option.join_some, Option.join_none, Option.map_some, Option.map_none, Option.bind_some, Option.bind_none]) ?_
    refine sat_forJ (fun σ => ∃ x2 x3 x4 x5 x6 x7 x8 x9 x10, σ = [some (.val (.ref a)), some (.val (.loc n.1)), x2, x3, x4, x5, x6, x7, x8, x9, x10]) (fun _ => True) (fun σ j => ⟨_, rfl, trivial⟩) ?_ _ (fun _ _ => trivial) _ ⟨_, _, _, _, _, _, _, _, _, rfl⟩
    rintro p σ - ⟨x2, x3, x4, x5, x6, x7, x8, x9, x10, rfl⟩
    exact ⟨_, rfl, M.sat_mono (fun o q => .inl q) turn2_ok⟩
  · obtain ⟨v, rfl, rfl⟩ := q
    rfl
end K89

set_option Elab.async false
set_option linter.all false
set_option maxRecDepth 100000
set_option maxHeartbeats 0
open PySem PySem.W PySem.Calls PyProof.Rows
theorem PySem.Challenge.cw_samequick_k89_standings_after_many_steps_holds : PySem.Challenge.rw_samequick_k89_standings_after_many_steps.Holds := by
  w_on; o_law
  refine HandSHeadRun.head_any (r := OpenLaw.row PySem.Challenge.rw_samequick_k89_standings_after_many_steps) (q := view (OpenLaw.row PySem.Challenge.rw_samequick_k89_standings_after_many_steps).prog [42]) (H := K89.hk) (ob := K89.ob) (M := 4000) (loose := K89.names) (d := HandSHeadRun.topDef (OpenLaw.row PySem.Challenge.rw_samequick_k89_standings_after_many_steps).prog 42) (kwd := []) K89.ob_eq
    (by kernel_rfl) (fun s => by kernel_rfl) K89.run (by kernel_rfl) (by kernel_rfl) (by kernel_rfl) (by rfl) (by first | assumption | decide +kernel) (by decide +kernel) ⟨rfl, rfl, rfl, rfl, rfl, by decide +kernel⟩ ?hw ?hc
  case hw => w_witness2
  case hc =>
    refine RF.walk_ofG (l := PySem.Challenge.rw_samequick_k89_standings_after_many_steps) (n := 63) (k := 25) (x := "script") rfl (by decide) (by kernel_rfl) ⟨rfl, by decide, by decide⟩ ?F
    intro w mg fa h Y G hmg0
    obtain ⟨K, S⟩ := Y
    have hmg : mg ("law" : PySem.Str) = some (.ref fa) := by
      have e : (HandSHeadRun.topDef (OpenLaw.row PySem.Challenge.rw_samequick_k89_standings_after_many_steps).prog 42).name = ("law" : PySem.Str) := by kernel_rfl
      rw [← e]
      exact hmg0
    exact ⟨K, _, _, _, S.kin, K89.law_is w K h mg fa S G hmg K89.rest_ok⟩

