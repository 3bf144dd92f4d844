import PyProof.Rows.All
import Wide.All
import OpenK.AllK
import Wide.FinOn
import HandS.ForMost
import HandS.ForExc
import HandS.IsInst
import HandS.Flow
import HandS.Wide
import HandS.WideBits
import HandS.Gcd
import HandS.Walk
import HandS.Zip
import HandS.Rev
import HandS.EndBits
import HandS.TupAny
import HandS.TupLe
import HandS.Deep
import HandS.Style
import HandS.CallSlots
import HandS.Small
import HandS.SortInts
import HandS.RevTup
import HandS.ExcInit
import HandS.Nested
import HandS.ExcField
import KE.KExcSuper
import PyProof.WalksMore
import KE.GoesMore
import PyProof.StrBlock2
import HandS.ExcIs
import PySem.Challenge.RW_askewread_k59_tracks_and_maps_between
set_option Elab.async false
set_option linter.all false
set_option maxRecDepth 100000
set_option maxHeartbeats 2000000
/-! The F layer: pure data, mirrors, judgements over HandS's readings. -/
namespace AF
open PySem PySem.Spec PyProof.Rows L2

/-- pure data -/
inductive D where
  | non | bl (b : Bool) | int (i : Int) | str (s : List Nat) | tup (xs : List D) | lst (xs : List D) | ty (n : String)

inductive Er where
  | plain (cls : String) | one (cls f : String) (d : D)
/-- the answer of a mirror -/
inductive Res (α : Type) where
  | ok (a : α) | err (e : Er) | stuck
namespace Res
def bind {α β : Type} (r : Res α) (f : α → Res β) : Res β := match r with
  | .ok a => f a
  | .err e => .err e
  | .stuck => .stuck
def map {α β : Type} (f : α → β) (r : Res α) : Res β := r.bind fun a => .ok (f a)
end Res

/-- a tuple that is laid, or one of the written part -/
def TpL (K : PySem.W.Frag) (H : Hp) (a : Addr) (xs : List V) : Prop :=
  H a = some (.tup xs) ∨ ∃ (o : Obj) (its : Array Value) (n : Nat), K.lookup a = some o ∧ o.cls = .type "tuple" ∧ o.data = .seq its n ∧ its.size ≤ sizeLine ∧ Vals xs its.toList
mutual
def Rep (K : PySem.W.Frag) (H : Hp) : D → V → Prop
  | .non, v => v = .non
  | .bl b, v => v = .bl b
  | .int i, v => v = .int i
  | .str s, v => v = .str ⟨s.toArray⟩ ∧ s.length ≤ sizeLine ∧ s.all (· < 1114112) = true
  | .tup xs, v => ∃ a vs, v = .ref a ∧ TpL K H a vs ∧ Reps K H xs vs
  | .lst xs, v => ∃ a vs, v = .ref a ∧ SqL K H a vs ∧ Reps K H xs vs
  | .ty n, v => v = .ty n
def Reps (K : PySem.W.Frag) (H : Hp) : List D → List V → Prop
  | [], vs => vs = []
  | d :: ds, vs => ∃ v r, vs = v :: r ∧ Rep K H d v ∧ Reps K H ds r
end
section
variable {K : PySem.W.Frag} {H H' : Hp}
theorem Same.rd0 (e : Same H H') {a : Addr} {u : HO} (h : Rd H a u) : Rd H' a u := by
  rcases h with h | ⟨o, h⟩
  · exact .inl (e _ _ h)
  · exact .inr ⟨o, e _ _ h⟩
theorem Same.tp (e : Same H H') {a : Addr} {xs : List V} (h : TpL K H a xs) : TpL K H' a xs := by
  rcases h with h | h
  · exact .inl (e _ _ h)
  · exact .inr h
theorem Same.sl (e : Same H H') {a : Addr} {xs : List V} (h : SqL K H a xs) : SqL K H' a xs := Same.seq e h
theorem Same.seqT (e : Same H H') {a : Addr} {xs : List V} (h : TpL K H a xs) : SqT K H' a xs := by
  rcases h with h | h
  · exact .inl (.inl (e _ _ h))
  · exact .inr h
mutual
theorem Rep.mono (e : Same H H') : ∀ (d : D) (v : V), Rep K H d v → Rep K H' d v
  | .non, _, h => h
  | .bl _, _, h => h
  | .int _, _, h => h
  | .str _, _, h => h
  | .ty _, _, h => h
  | .tup xs, v, h => by
    obtain ⟨a, vs, e1, hs, hr⟩ := h
    exact ⟨a, vs, e1, Same.tp e hs, Reps.mono e xs vs hr⟩
  | .lst xs, v, h => by
    obtain ⟨a, vs, e1, hs, hr⟩ := h
    exact ⟨a, vs, e1, Same.sl e hs, Reps.mono e xs vs hr⟩
theorem Reps.mono (e : Same H H') : ∀ (ds : List D) (vs : List V), Reps K H ds vs → Reps K H' ds vs
  | [], _, h => h
  | d :: ds, vs, h => by
    obtain ⟨v, r, e1, h1, h2⟩ := h
    exact ⟨v, r, e1, Rep.mono e d v h1, Reps.mono e ds r h2⟩
end
theorem Reps.length : ∀ {ds : List D} {vs : List V}, Reps K H ds vs → vs.length = ds.length
  | [], _, h => by
    rw [show _ = [] from h]
    rfl
  | d :: ds, _, h => by
    obtain ⟨v, r, rfl, _, h2⟩ := h
    simp [Reps.length h2]
theorem Reps.get : ∀ {ds : List D} {vs : List V} {i : Nat} {v : V}, Reps K H ds vs → vs[i]? = some v → ∃ d, ds[i]? = some d ∧ Rep K H d v
  | [], _, i, v, h, e => by
    rw [show _ = [] from h] at e
    simp at e
  | d :: ds, _, 0, v, h, e => by
    obtain ⟨w, r, rfl, h1, _⟩ := h
    simp at e
    subst e
    exact ⟨d, rfl, h1⟩
  | d :: ds, _, i + 1, v, h, e => by
    obtain ⟨w, r, rfl, _, h2⟩ := h
    simp at e
    obtain ⟨d', e', hd⟩ := Reps.get h2 e
    exact ⟨d', by simpa using e', hd⟩
theorem Reps.getD : ∀ {ds : List D} {vs : List V} {i : Nat} {d : D}, Reps K H ds vs → ds[i]? = some d → ∃ v, vs[i]? = some v ∧ Rep K H d v := fun {ds vs i d} h e => by
  have hl := h.length
  have hi : i < ds.length := (List.getElem?_eq_some_iff.mp e).1
  have hv : vs[i]? = some (vs[i]'(by omega)) := List.getElem?_eq_getElem (by omega)
  obtain ⟨d', e', hd⟩ := h.get hv
  rw [e] at e'
  cases e'
  exact ⟨_, hv, hd⟩
theorem Reps.append : ∀ {ds es : List D} {vs ws : List V}, Reps K H ds vs → Reps K H es ws → Reps K H (ds ++ es) (vs ++ ws)
  | [], _, _, _, h, h2 => by
    rw [show _ = [] from h]
    exact h2
  | d :: ds, es, _, ws, h, h2 => by
    obtain ⟨v, r, rfl, h1, h3⟩ := h
    exact ⟨v, r ++ ws, rfl, h1, Reps.append h3 h2⟩
theorem Reps.snoc {ds : List D} {vs : List V} {d : D} {v : V} (h : Reps K H ds vs) (h1 : Rep K H d v) : Reps K H (ds ++ [d]) (vs ++ [v]) := h.append ⟨v, [], rfl, h1, rfl⟩
theorem Reps.set : ∀ {ds : List D} {vs : List V} {d : D} {v : V} (i : Nat), Reps K H ds vs → Rep K H d v → Reps K H (ds.set i d) (vs.set i v)
  | [], _, _, _, _, h, _ => by
    rw [show _ = [] from h]
    exact rfl
  | d :: ds, _, _, _, 0, h, h1 => by
    obtain ⟨v, r, rfl, _, h3⟩ := h
    exact ⟨_, _, rfl, h1, h3⟩
  | d :: ds, _, _, _, i + 1, h, h1 => by
    obtain ⟨v, r, rfl, h2, h3⟩ := h
    exact ⟨_, _, rfl, h2, Reps.set i h3 h1⟩
theorem Reps.take : ∀ {ds : List D} {vs : List V} (n : Nat), Reps K H ds vs → Reps K H (ds.take n) (vs.take n)
  | [], _, n, h => by
    rw [show _ = [] from h]
    cases n <;> exact rfl
  | d :: ds, _, 0, h => by
    simp
    exact rfl
  | d :: ds, _, n + 1, h => by
    obtain ⟨v, r, rfl, h2, h3⟩ := h
    exact ⟨_, _, rfl, h2, Reps.take n h3⟩
theorem Reps.drop : ∀ {ds : List D} {vs : List V} (n : Nat), Reps K H ds vs → Reps K H (ds.drop n) (vs.drop n)
  | [], _, n, h => by
    rw [show _ = [] from h]
    cases n <;> exact rfl
  | d :: ds, _, 0, h => h
  | d :: ds, _, n + 1, h => by
    obtain ⟨v, r, rfl, h2, h3⟩ := h
    exact Reps.drop n h3
theorem Reps.reverse : ∀ {ds : List D} {vs : List V}, Reps K H ds vs → Reps K H ds.reverse vs.reverse
  | [], _, h => by
    rw [show _ = [] from h]
    exact rfl
  | d :: ds, _, h => by
    obtain ⟨v, r, rfl, h2, h3⟩ := h
    rw [List.reverse_cons, List.reverse_cons]
    exact (Reps.reverse h3).snoc h2
theorem Reps.cons_iff {d : D} {ds : List D} {v : V} {vs : List V} : Reps K H (d :: ds) (v :: vs) ↔ Rep K H d v ∧ Reps K H ds vs := by
  constructor
  · rintro ⟨w, r, e, h1, h2⟩
    cases e
    exact ⟨h1, h2⟩
  · rintro ⟨h1, h2⟩
    exact ⟨v, vs, rfl, h1, h2⟩
theorem reps_ints : ∀ (ns : List Int), Reps K H (ns.map D.int) (ns.map V.int)
  | [] => rfl
  | n :: ns => ⟨_, _, rfl, rfl, reps_ints ns⟩
theorem Reps.isInts : ∀ {ds : List D} {vs : List V}, Reps K H ds vs → ∀ ns : List Int, ds = ns.map D.int → vs = ns.map V.int
  | _, _, h, [], e => by
    subst e
    exact h
  | _, _, h, n :: ns, e => by
    subst e
    obtain ⟨v, r, rfl, h1, h2⟩ := h
    rw [show v = .int n from h1, Reps.isInts h2 ns rfl]
    rfl
end

/-! ### hiding -/
open Classical in
noncomputable def hid (P : Addr → Prop) (H : Hp) : Hp := fun a => if P a then none else H a
section
variable {P P' : Addr → Prop} {H H' : Hp} {a : Addr} {o : HO}
theorem hid_some (h : hid P H a = some o) : ¬ P a ∧ H a = some o := by
  unfold hid at h
  split at h
  · cases h
  · exact ⟨‹_›, h⟩
theorem hid_of (h : ¬ P a) (e : H a = some o) : hid P H a = some o := by
  unfold hid
  rw [if_neg h]
  exact e
theorem hid_same (P : Addr → Prop) (H : Hp) : Same (hid P H) H := fun _ _ h => (hid_some h).2
theorem Same.hid (e : Same H H') : Same (hid P H) (hid P H') := fun _ _ h => hid_of (hid_some h).1 (e _ _ (hid_some h).2)
theorem Same.hid2 (e : Same H H') (hp : ∀ a o, H a = some o → ¬ P a → ¬ P' a) : Same (AF.hid P H) (AF.hid P' H') := fun _ _ h =>
  hid_of (hp _ _ (hid_some h).2 (hid_some h).1) (e _ _ (hid_some h).2)
/-- what is hidden stands -/
def Hides (P : Addr → Prop) (H : Hp) : Prop := ∀ a, P a → H a ≠ none
theorem Hides.mono (h : Hides P H) (e : Same H H') : Hides P H' := fun a p n => h a p (e.free n)
theorem Hides.not (h : Hides P H) (n : H a = none) : ¬ P a := fun p => h a p n
theorem same_new (n : H a = none) : Same H (upd H a o) := fun b x e => by
  rw [upd_ne (ne_of_none e n)]
  exact e
end

/-! ### slots of a mirror -/
inductive Sl where
  | unk | val (d : D) | own (ds : List D) | pin (d : D) | lent (ds : List D)
abbrev En := List Sl

structure Ga where
  H0 : Hp
  P0 : Addr → Prop
  G0 : Hp
  G1 : Hp
  L : Addr → Prop
def Hd (Γ : Ga) (os : List (Option Addr)) : Addr → Prop := fun a => Γ.P0 a ∨ some a ∈ os

def SlOk (K : PySem.W.Frag) (Γ : Ga) (G H : Hp) : Sl → Option V → Option Addr → Prop
  | .unk, _, o => o = none
  | .val d, sv, o => o = none ∧ ∃ v, sv = some v ∧ Rep K G d v
  | .own ds, sv, o => ∃ p vs, o = some p ∧ sv = some (.ref p) ∧ H p = some (.lst vs) ∧ Reps K G ds vs
  | .pin d, sv, o => o = none ∧ ∃ v, sv = some v ∧ Rep K Γ.G1 d v
  | .lent ds, sv, o => o = none ∧ ∃ p vs, sv = some (.ref p) ∧ Γ.L p ∧ G p = some (.lst vs) ∧ Reps K G ds vs

structure Agree (K : PySem.W.Frag) (Γ : Ga) (os : List (Option Addr)) (σ : L2.St) (H : Hp) (env : En) : Prop where
  len : σ.length = env.length
  olen : os.length = env.length
  same : Same Γ.H0 H
  vis : Same Γ.G0 (hid (Hd Γ os) H)
  vis1 : Same Γ.G1 (hid (Hd Γ os) H)
  p0 : Hides Γ.P0 Γ.H0
  fresh : ∀ p, some p ∈ os → Γ.H0 p = none
  nd : ∀ (i j : Nat) (p : Addr), os[i]? = some (some p) → os[j]? = some (some p) → i = j
  slot : ∀ (i : Nat) s, env[i]? = some s → ∃ sv o, σ[i]? = some sv ∧ os[i]? = some o ∧ SlOk K Γ (hid (Hd Γ os) H) H s sv o
section
variable {K : PySem.W.Frag} {Γ : Ga} {os : List (Option Addr)} {σ : L2.St} {H H' : Hp} {env : En}
theorem SlOk.mono {G G' : Hp} {s : Sl} {sv : Option V} {o : Option Addr} (h : SlOk K Γ G H s sv o) (e : Same G G') (e2 : Same H H') : SlOk K Γ G' H' s sv o := by
  cases s with
  | unk => exact h
  | val d =>
    obtain ⟨h1, v, h2, h3⟩ := h
    exact ⟨h1, v, h2, Rep.mono e d v h3⟩
  | own ds =>
    obtain ⟨p, vs, h1, h2, h3, h4⟩ := h
    exact ⟨p, vs, h1, h2, e2 _ _ h3, Reps.mono e ds vs h4⟩
  | pin d => exact h
  | lent ds =>
    obtain ⟨h1, p, vs, h2, h3, h4, h5⟩ := h
    exact ⟨h1, p, vs, h2, h3, e _ _ h4, Reps.mono e ds vs h5⟩
theorem Agree.mono (A : Agree K Γ os σ H env) (e : Same H H') : Agree K Γ os σ H' env :=
  ⟨A.len, A.olen, A.same.trans e, A.vis.trans (Same.hid e), A.vis1.trans (Same.hid e), A.p0, A.fresh, A.nd, fun i s h => by
    obtain ⟨sv, o, h1, h2, h3⟩ := A.slot i s h
    exact ⟨sv, o, h1, h2, h3.mono (Same.hid e) e⟩⟩
theorem Agree.ownAt (A : Agree K Γ os σ H env) {p : Addr} (h : some p ∈ os) : ∃ vs, H p = some (.lst vs) := by
  obtain ⟨i, hi, e⟩ := List.mem_iff_getElem.mp h
  have hi' : i < env.length := by
    have := A.olen
    omega
  obtain ⟨sv, o, h1, h2, h3⟩ := A.slot i env[i] (List.getElem?_eq_getElem hi')
  have : os[i]? = some (some p) := by rw [List.getElem?_eq_getElem hi, e]
  rw [this] at h2
  cases h2
  revert h3
  cases env[i] with
  | unk => intro h3; cases h3
  | val d => intro h3; cases h3.1
  | pin d => intro h3; cases h3.1
  | lent ds => intro h3; cases h3.1
  | own ds =>
    rintro ⟨q, vs, e1, _, e3, _⟩
    cases e1
    exact ⟨vs, e3⟩
theorem Agree.hides (A : Agree K Γ os σ H env) : Hides (Hd Γ os) H := fun a h => by
  rcases h with h | h
  · exact (A.p0.mono A.same) a h
  · obtain ⟨vs, e⟩ := A.ownAt h
    rw [e]
    exact nofun
theorem Agree.notP0 (A : Agree K Γ os σ H env) {p : Addr} (h : some p ∈ os) : ¬ Γ.P0 p := fun q => A.p0 p q (A.fresh p h)
end

/-! ### the wishes -/
section
variable (K : PySem.W.Frag) (mg : Str → Option Value)
def ErrR (G H : Hp) : Er → Value → Option Addr → Prop
  | .plain x, c, pd => ∃ C, mg (Str.ofString x) = some (.ref C) ∧ c = .ref C ∧ pd = none
  | .one x f d, c, pd => ∃ C p v, mg (Str.ofString x) = some (.ref C) ∧ c = .ref C ∧ pd = some p ∧ H p = some (.xd [(Str.ofString f, v)]) ∧ Rep K G d v
/-- the general wish: Z of the heap ahead, the answer, the heap behind -/
def WR {α : Type} (P : Addr → Prop) (W : WX) (σ : L2.St) (H : Hp) (r : Res α) (Z : Hp → α → Hp → Prop) : Prop := match r with
  | .ok a => ∀ H', Same H H' → Z H a H'
  | .err e => ∀ c pd H', Same H H' → ErrR K mg (hid P H') H' e c pd → W c pd σ H'
  | .stuck => False
def zE (P : Addr → Prop) (Q : VK) : Hp → D → Hp → Prop := fun _ d H' => ∀ v, Rep K (hid P H') d v → Q v H'
def zL (P : Addr → Prop) (Q : VK) : Hp → List D → Hp → Prop := fun H ds H' => ∀ p vs, H p = none → H' p = some (.lst vs) → Reps K (hid (fun a => P a ∨ a = p) H') ds vs → Q (.ref p) H'
def zB (Q : Bool → Hp → Prop) : Hp → Bool → Hp → Prop := fun _ b H' => Q b H'
def zA (P : Addr → Prop) (Q : List V → Hp → Prop) : Hp → List D → Hp → Prop := fun _ ds H' => ∀ vs, Reps K (hid P H') ds vs → Q vs H'
/-- of an expression -/
abbrev WE (P : Addr → Prop) (W : WX) (σ : L2.St) (H : Hp) (r : Res D) (Q : VK) : Prop := WR K mg P W σ H r (zE K P Q)
/-- of an expression that makes a new list -/
abbrev WL (P : Addr → Prop) (W : WX) (σ : L2.St) (H : Hp) (r : Res (List D)) (Q : VK) : Prop := WR K mg P W σ H r (zL K P Q)
abbrev WB (P : Addr → Prop) (W : WX) (σ : L2.St) (H : Hp) (r : Res Bool) (Q : Bool → Hp → Prop) : Prop := WR K mg P W σ H r (zB Q)
abbrev WA (P : Addr → Prop) (W : WX) (σ : L2.St) (H : Hp) (r : Res (List D)) (Q : List V → Hp → Prop) : Prop := WR K mg P W σ H r (zA K P Q)
end
def Res.of {α : Type} : Option α → Res α
  | some a => .ok a
  | none => .stuck
def Anti {α : Type} (Z : Hp → α → Hp → Prop) : Prop := ∀ H H1 a H', Same H H1 → Z H a H' → Z H1 a H'
section
variable {K : PySem.W.Frag} {mg : Str → Option Value} {α β : Type} {P : Addr → Prop} {W : WX} {σ : L2.St} {H H1 : Hp}
theorem anti_E {Q : VK} : Anti (zE K P Q) := fun _ _ _ _ _ h => h
theorem anti_B {Q : Bool → Hp → Prop} : Anti (zB Q) := fun _ _ _ _ _ h => h
theorem anti_A {Q : List V → Hp → Prop} : Anti (zA K P Q) := fun _ _ _ _ _ h => h
theorem anti_L {Q : VK} : Anti (zL K P Q) := fun _ _ _ _ s h p vs n => h p vs (s.free n)
theorem WR.mono {r : Res α} {Z : Hp → α → Hp → Prop} (hZ : Anti Z) (h : WR K mg P W σ H r Z) (s : Same H H1) : WR K mg P W σ H1 r Z := by
  cases r with
  | ok a => exact fun H' s' => hZ _ _ _ _ s (h H' (s.trans s'))
  | err e => exact fun c pd H' s' => h c pd H' (s.trans s')
  | stuck => exact h
theorem WR.bind {r : Res α} {f : α → Res β} {Z : Hp → β → Hp → Prop} {Y : Hp → α → Hp → Prop} (hZ : Anti Z) (h : WR K mg P W σ H (r.bind f) Z)
    (k : ∀ a H1, r = .ok a → Same H H1 → WR K mg P W σ H1 (f a) Z → Y H a H1) : WR K mg P W σ H r Y := by
  cases r with
  | ok a => exact fun H' s' => k a H' rfl s' (WR.mono hZ h s')
  | err e => exact h
  | stuck => exact h
theorem WR.ok {a : α} {Z : Hp → α → Hp → Prop} (h : WR K mg P W σ H (.ok a) Z) (s : Same H H1) : Z H a H1 := h H1 s
theorem WR.of {o : Option α} {Z : Hp → α → Hp → Prop} (h : WR K mg P W σ H (Res.of o) Z) : ∃ a, o = some a ∧ ∀ H1, Same H H1 → Z H a H1 := by
  cases o with
  | none => exact h.elim
  | some a => exact ⟨a, rfl, h⟩
end

/-- what a statement's mirror answers -/
inductive Out where
  | next (env : En) | ret (d : D) | brk (env : En) | cont (env : En) | err (e : Er) (env : En) | stuck
abbrev GE := En → Res D
abbrev GL := En → Res (List D)
abbrev GB := En → Res Bool
abbrev GS := En → Out

section
variable (K : PySem.W.Frag) (mg : Str → Option Value)
def WS (W : WX) (Γ : Ga) (r : Out) (Dn : Ends) : Prop := match r with
  | .next env => ∀ os σ H, Agree K Γ os σ H env → Dn.nx σ H
  | .brk env => ∀ os σ H, Agree K Γ os σ H env → Dn.bk σ H
  | .cont env => ∀ os σ H, Agree K Γ os σ H env → Dn.ct σ H
  | .ret d => ∀ v H, Same Γ.H0 H → Rep K (hid Γ.P0 H) d v → Dn.rt v H
  | .err e env => ∀ os σ H c pd, Agree K Γ os σ H env → ErrR K mg (hid (Hd Γ os) H) H e c pd → W c pd σ H
  | .stuck => False
def tG (W : WX) (g : GE) : TE := fun σ H Q => ∃ Γ os env, Agree K Γ os σ H env ∧ WE K mg (Hd Γ os) W σ H (g env) Q
def tGL (W : WX) (g : GL) : TE := fun σ H Q => ∃ Γ os env, Agree K Γ os σ H env ∧ WL K mg (Hd Γ os) W σ H (g env) Q
def tGB (W : WX) (g : GB) : TT := fun σ H Q => ∃ Γ os env, Agree K Γ os σ H env ∧ WB K mg (Hd Γ os) W σ H (g env) Q
def tGA (W : WX) (g : GL) : TA := fun σ H Q => ∃ Γ os env, Agree K Γ os σ H env ∧ WA K mg (Hd Γ os) W σ H (g env) Q
def tGS (W : WX) (g : GS) : TS := fun Dn σ H => ∃ Γ os env, Agree K Γ os σ H env ∧ WS K mg W Γ (g env) Dn
end
/-! ### the judgements -/
abbrev FE (X : Cx) (W : WX) (e : Expr) (g : GE) : Prop := PE X e (tG X.K X.mg W g)
abbrev FL (X : Cx) (W : WX) (e : Expr) (g : GL) : Prop := PE X e (tGL X.K X.mg W g)
abbrev FT (X : Cx) (W : WX) (e : Expr) (g : GB) : Prop := PT X e (tGB X.K X.mg W g)
abbrev FW (X : Cx) (W : WX) (e : Expr) (g : GB) : Prop := PW X e (tGB X.K X.mg W g)
abbrev FA (X : Cx) (W : WX) (es : List Expr) (g : GL) : Prop := PA X es (tGA X.K X.mg W g)
abbrev FS (X : Cx) (W : WX) (st : Stmt) (g : GS) : Prop := PS X st (tGS X.K X.mg W g)
abbrev FSs (X : Cx) (W : WX) (st : List Stmt) (g : GS) : Prop := PSs X st (tGS X.K X.mg W g)

section
variable {X : Cx} {e : Expr}
theorem PE.imp {t t' : TE} (h : PE X e t) (i : ∀ σ H Q, t' σ H Q → t σ H Q) : PE X e t' := ⟨fun pins s σ H Q I w => h.run pins s σ H Q I (i _ _ _ w)⟩
theorem PT.imp {t t' : TT} (h : PT X e t) (i : ∀ σ H Q, t' σ H Q → t σ H Q) : PT X e t' := ⟨fun pins s σ H Q I w => h.run pins s σ H Q I (i _ _ _ w)⟩
theorem PW.imp {t t' : TT} (h : PW X e t) (i : ∀ σ H Q, t' σ H Q → t σ H Q) : PW X e t' := ⟨fun wh pins s σ H Q I w => h.run wh pins s σ H Q I (i _ _ _ w)⟩
theorem PA.imp {es : List Expr} {t t' : TA} (h : PA X es t) (i : ∀ σ H Q, t' σ H Q → t σ H Q) : PA X es t' := ⟨fun pos pins s σ H Q I w => h.run pos pins s σ H Q I (i _ _ _ w)⟩
theorem PS.imp {st : Stmt} {t t' : TS} (h : PS X st t) (i : ∀ Dn σ H, t' Dn σ H → t Dn σ H) : PS X st t' := ⟨fun pins s σ H Dn I w => h.run pins s σ H Dn I (i _ _ _ w)⟩
theorem PSs.imp {st : List Stmt} {t t' : TS} (h : PSs X st t) (i : ∀ Dn σ H, t' Dn σ H → t Dn σ H) : PSs X st t' := ⟨fun pins s σ H Dn I w => h.run pins s σ H Dn I (i _ _ _ w)⟩
end
end AF

namespace AF
open PySem PySem.Spec PyProof.Rows L2

/-! ### mirrors of expressions -/
def eVar (i : Nat) : GE := fun env => match env[i]? with
  | some (.val d) => .ok d
  | some (.pin d) => .ok d
  | some (.lent ds) => .ok (.lst ds)
  | _ => .stuck
def eC (d : D) : GE := fun _ => .ok d
def e1 (f : D → Option D) (a : GE) : GE := fun env => (a env).bind fun x => Res.of (f x)
def e2 (f : D → D → Option D) (a b : GE) : GE := fun env => (a env).bind fun x => (b env).bind fun y => Res.of (f x y)
def l2 (f : D → D → Option (List D)) (a b : GE) : GL := fun env => (a env).bind fun x => (b env).bind fun y => Res.of (f x y)
def b1 (f : D → Option Bool) (a : GE) : GB := fun env => (a env).bind fun x => Res.of (f x)
def b2 (f : D → D → Option Bool) (a b : GE) : GB := fun env => (a env).bind fun x => (b env).bind fun y => Res.of (f x y)
def eB (g : GB) : GE := fun env => (g env).bind fun b => .ok (.bl b)
def aNil : GL := fun _ => .ok []
def aCons (a : GE) (r : GL) : GL := fun env => (a env).bind fun x => (r env).bind fun xs => .ok (x :: xs)
def eLst (g : GL) : GE := fun env => (g env).bind fun xs => .ok (.lst xs)
def eF (f : List D → Option D) (g : GL) : GE := fun env => (g env).bind fun xs => Res.of (f xs)
def lF (f : List D → Option (List D)) (g : GL) : GL := fun env => (g env).bind fun xs => Res.of (f xs)
def eCall (m : List D → Res D) (g : GL) : GE := fun env => (g env).bind m
def lCall (m : List D → Res (List D)) (g : GL) : GL := fun env => (g env).bind m
def eIf (c : GB) (a b : GE) : GE := fun env => (c env).bind fun k => if k then a env else b env
def bAnd (a b : GB) : GB := fun env => (a env).bind fun k => if k then b env else .ok false
def bOr (a b : GB) : GB := fun env => (a env).bind fun k => if k then .ok true else b env
def bNot (a : GB) : GB := fun env => (a env).bind fun k => .ok (!k)
def sz (xs : List D) : Option (List D) := if xs.length ≤ sizeLine then some xs else none
/-- a display -/
def lDisp (g : GL) : GL := fun env => (g env).bind fun xs => Res.of (sz xs)
def eTup (g : GL) : GE := fun env => (g env).bind fun xs => Res.of ((sz xs).map .tup)

section
variable {K : PySem.W.Frag} {mg : Str → Option Value} {P : Addr → Prop} {H H' : Hp}
/-- an operation's reading answers as f -/
def Ok2 (K : PySem.W.Frag) (r : R2) (f : D → D → Option D) : Prop := ∀ P H x y d e z Q, Hides P H → Rep K (hid P H) d x → Rep K (hid P H) e y → f d e = some z → (∀ v H', Same H H' → Rep K (hid P H') z v → Q v H') → r x y H Q
def Ok2L (K : PySem.W.Frag) (r : R2) (f : D → D → Option (List D)) : Prop := ∀ P H x y d e zs Q, Hides P H → Rep K (hid P H) d x → Rep K (hid P H) e y → f d e = some zs →
  (∀ p vs H', Same H H' → H p = none → H' p = some (.lst vs) → Reps K (hid (fun a => P a ∨ a = p) H') zs vs → Q (.ref p) H') → r x y H Q
def Ok2B (K : PySem.W.Frag) (r : R2) (f : D → D → Option Bool) : Prop := ∀ P H x y d e b Q, Hides P H → Rep K (hid P H) d x → Rep K (hid P H) e y → f d e = some b → (∀ H', Same H H' → Q (.bl b) H') → r x y H Q
def Ok1 (K : PySem.W.Frag) (r : V → Hp → VK → Prop) (f : D → Option D) : Prop := ∀ P H x d z Q, Hides P H → Rep K (hid P H) d x → f d = some z → (∀ v H', Same H H' → Rep K (hid P H') z v → Q v H') → r x H Q
def OkA (K : PySem.W.Frag) (r : List V → Hp → VK → Prop) (f : List D → Option D) : Prop := ∀ P H xs ds z Q, Hides P H → Reps K (hid P H) ds xs → f ds = some z → (∀ v H', Same H H' → Rep K (hid P H') z v → Q v H') → r xs H Q
def OkAL (K : PySem.W.Frag) (r : List V → Hp → VK → Prop) (f : List D → Option (List D)) : Prop := ∀ P H xs ds zs Q, Hides P H → Reps K (hid P H) ds xs → f ds = some zs →
  (∀ p vs H', Same H H' → H p = none → H' p = some (.lst vs) → Reps K (hid (fun a => P a ∨ a = p) H') zs vs → Q (.ref p) H') → r xs H Q
/-- a new list is a list -/
theorem lst_of_new {zs : List D} {p : Addr} {vs : List V} (hP : Hides P H) (n : H p = none) (e : H' p = some (.lst vs)) (r : Reps K (hid (fun a => P a ∨ a = p) H') zs vs) : Rep K (hid P H') (.lst zs) (.ref p) :=
  ⟨p, vs, rfl, .inl (.inl (hid_of (hP.not n) e)), Reps.mono (fun _ _ h => hid_of (fun q => (hid_some h).1 (.inl q)) (hid_some h).2) _ _ r⟩
theorem tup_new {zs : List D} {p : Addr} {vs : List V} (hP : Hides P H) (n : H p = none) (r : Reps K (hid P H) zs vs) : Rep K (hid P (upd H p (.tup vs))) (.tup zs) (.ref p) :=
  ⟨p, vs, rfl, .inl (hid_of (hP.not n) upd_same), Reps.mono (Same.hid (same_new n)) _ _ r⟩
/-- what is represented stays so where a new list is laid, and hides from it -/
theorem reps_new {zs : List D} {p : Addr} {vs : List V} {o : HO} (n : H p = none) (r : Reps K (hid P H) zs vs) : Reps K (hid (fun a => P a ∨ a = p) (upd H p o)) zs vs :=
  Reps.mono (fun a u h => by
    obtain ⟨h1, h2⟩ := hid_some h
    have ne : a ≠ p := ne_of_none h2 n
    exact hid_of (fun q => q.elim h1 ne) ((upd_ne ne).trans h2)) _ _ r
end

section
variable {X : Cx} {W : WX} {a b c : Expr} {ga gb gc : GE} {pos : Pos}
/-! ### names, constants -/
theorem fe_var (i : Nat) {x : Str} {pos : Pos} (hN : X.N[i]? = some x := by rfl) (hv : Vis X.env.scope x := by first | exact Or.inl rfl | exact Or.inr (Or.inl rfl) | exact Or.inr (Or.inr rfl)) (hd : (x == ("__debug__" : Str)) = false := by decide)
    (hcd : (x == ("__classdict__" : Str)) = false := by decide) : FE X W (.Name x pos) (eVar i) := by
  refine PE.imp (pe_var hN hv hd hcd) fun σ H Q h => ?_
  obtain ⟨Γ, os, env, A, h⟩ := h
  have h : WR X.K X.mg (Hd Γ os) W σ H (match env[i]? with | some (.val d) => .ok d | some (.pin d) => .ok d | some (.lent ds) => .ok (.lst ds) | _ => .stuck) (zE X.K (Hd Γ os) Q) := h
  cases e : env[i]? with
  | none => rw [e] at h; exact h.elim
  | some s =>
    rw [e] at h
    cases s with
    | unk => exact h.elim
    | own ds => exact h.elim
    | val d =>
      obtain ⟨sv, o, h1, h2, h3, v, h4, h5⟩ := A.slot i _ e
      subst h4
      exact ⟨v, h1, h H (Same.refl H) v h5⟩
    | pin d =>
      obtain ⟨sv, o, h1, h2, h3, v, h4, h5⟩ := A.slot i _ e
      subst h4
      exact ⟨v, h1, h H (Same.refl H) v (Rep.mono A.vis1 d v h5)⟩
    | lent ds =>
      obtain ⟨sv, o, h1, h2, h3, p, vs, h4, _, h5, h6⟩ := A.slot i _ e
      subst h4
      exact ⟨.ref p, h1, h H (Same.refl H) _ ⟨p, vs, rfl, .inl (.inl h5), h6⟩⟩
theorem fe_c {d : D} {v : V} (hp : PE X a (tC v)) (hr : ∀ H, Rep X.K H d v) : FE X W a (eC d) := by
  refine PE.imp hp fun σ H Q h => ?_
  obtain ⟨Γ, os, env, A, h⟩ := h
  exact WR.ok h (Same.refl H) v (hr _)
theorem fe_int {i j pos} : FE X W (.Constant (.int i) j pos) (eC (.int i)) := fe_c pe_int fun _ => rfl
theorem fe_bl {b j pos} : FE X W (.Constant (.bool b) j pos) (eC (.bl b)) := fe_c pe_bl fun _ => rfl
theorem fe_non {j pos} : FE X W (.Constant .none j pos) (eC .non) := fe_c pe_non fun _ => rfl
theorem str_eta (x : Str) : (⟨x.cps.toList.toArray⟩ : Str) = x := by
  cases x
  simp
theorem fe_str {x : Str} {l : List Nat} {j pos} (hl : x.cps.toList = l := by rfl) (hz : l.length ≤ sizeLine := by decide) (ho : l.all (· < 1114112) = true := by decide) : FE X W (.Constant (.str x) j pos) (eC (.str l)) :=
  fe_c pe_str fun _ => ⟨by rw [← hl, str_eta], hz, ho⟩

/-! ### operations -/
theorem fe_op {op : Operator} {r : R2} {f : D → D → Option D} (ho : OpR X (binaryOp op) r) (hf : Ok2 X.K r f) (ha : FE X W a ga) (hb : FE X W b gb) : FE X W (.BinOp a op b pos) (e2 f ga gb) := by
  refine PE.imp (pe_op ho ha hb) fun σ H Q h => ?_
  obtain ⟨Γ, os, env, A, h⟩ := h
  refine ⟨Γ, os, env, A, WR.bind anti_E h fun d H1 _ s1 h1 v rv => ⟨Γ, os, env, A.mono s1, WR.bind anti_E h1 fun e H2 _ s2 h2 w rw => ?_⟩⟩
  obtain ⟨z, ez, h3⟩ := WR.of h2
  exact hf _ _ _ _ _ _ _ _ (A.hides.mono (s1.trans s2)) (Rep.mono (Same.hid s2) d v rv) rw ez fun u H3 s3 r3 => h3 H3 s3 u r3
theorem fl_op {op : Operator} {r : R2} {f : D → D → Option (List D)} (ho : OpR X (binaryOp op) r) (hf : Ok2L X.K r f) (ha : FE X W a ga) (hb : FE X W b gb) : FL X W (.BinOp a op b pos) (l2 f ga gb) := by
  refine PE.imp (pe_op ho ha hb) fun σ H Q h => ?_
  obtain ⟨Γ, os, env, A, h⟩ := h
  refine ⟨Γ, os, env, A, WR.bind anti_L h fun d H1 _ s1 h1 v rv => ⟨Γ, os, env, A.mono s1, WR.bind anti_L h1 fun e H2 _ s2 h2 w rw => ?_⟩⟩
  obtain ⟨z, ez, h3⟩ := WR.of h2
  exact hf _ _ _ _ _ _ _ _ (A.hides.mono (s1.trans s2)) (Rep.mono (Same.hid s2) d v rv) rw ez fun p vs H3 s3 n e3 r3 => h3 H3 s3 p vs n e3 r3
theorem fe_un {op : UnaryOp} {r : V → Hp → VK → Prop} {f : D → Option D} (ho : UnR X (unaryOp op) r) (hf : Ok1 X.K r f) (ha : FE X W a ga) : FE X W (.UnaryOp op a pos) (e1 f ga) := by
  refine PE.imp (pe_un ho ha) fun σ H Q h => ?_
  obtain ⟨Γ, os, env, A, h⟩ := h
  refine ⟨Γ, os, env, A, WR.bind anti_E h fun d H1 _ s1 h1 v rv => ?_⟩
  obtain ⟨z, ez, h3⟩ := WR.of h1
  exact hf _ _ _ _ _ _ (A.hides.mono s1) rv ez fun u H3 s3 r3 => h3 H3 s3 u r3
/-- a list that is made may stand as any value -/
theorem fe_l {g : GL} (h : FL X W a g) : FE X W a (eLst g) := by
  refine PE.imp h fun σ H Q h => ?_
  obtain ⟨Γ, os, env, A, h⟩ := h
  refine ⟨Γ, os, env, A, WR.bind anti_E h fun zs H1 _ s1 h1 p vs n e r => WR.ok h1 (Same.refl H1) (.ref p) (lst_of_new A.hides n e r)⟩

/-! ### arguments, displays -/
theorem fa_nil : FA X W [] aNil := by
  refine PA.imp pa_nil fun σ H Q h => ?_
  obtain ⟨Γ, os, env, A, h⟩ := h
  exact WR.ok h (Same.refl H) [] rfl
theorem fa_cons {es : List Expr} {gr : GL} (ha : FE X W a ga) (hr : FA X W es gr) (hs : starEach (a :: es) X.env = (false, eval a X.env) :: starEach es X.env := by rfl) : FA X W (a :: es) (aCons ga gr) := by
  refine PA.imp (pa_cons ha hr hs) fun σ H Q h => ?_
  obtain ⟨Γ, os, env, A, h⟩ := h
  refine ⟨Γ, os, env, A, WR.bind anti_A h fun d H1 _ s1 h1 v rv => ⟨Γ, os, env, A.mono s1, WR.bind anti_A h1 fun ds H2 _ s2 h2 vs rvs => ?_⟩⟩
  exact WR.ok h2 (Same.refl H2) _ ⟨v, vs, rfl, Rep.mono (Same.hid s2) d v rv, rvs⟩
theorem sz_some {xs zs : List D} (h : sz xs = some zs) : zs = xs ∧ xs.length ≤ sizeLine := by
  unfold sz at h
  split at h
  · cases h
    exact ⟨rfl, ‹_›⟩
  · cases h
theorem fl_disp {es : List Expr} {g : GL} (h : FA X W es g) : FL X W (.List es pos) (lDisp g) := by
  refine PE.imp (pe_lst h) fun σ H Q h => ?_
  obtain ⟨Γ, os, env, A, h⟩ := h
  refine ⟨Γ, os, env, A, WR.bind anti_L h fun ds H1 _ s1 h1 vs rv => ?_⟩
  obtain ⟨zs, ez, h3⟩ := WR.of h1
  obtain ⟨rfl, hz⟩ := sz_some ez
  exact ⟨by rw [rv.length]; exact hz, fun p n => h3 (upd H1 p (.lst vs)) (same_new n) p vs n upd_same (reps_new n rv)⟩
theorem fe_tup {es : List Expr} {g : GL} {x1} (h : FA X W es g) : FE X W (.Tuple es x1 pos) (eTup g) := by
  refine PE.imp (pe_tup h) fun σ H Q h => ?_
  obtain ⟨Γ, os, env, A, h⟩ := h
  refine ⟨Γ, os, env, A, WR.bind anti_E h fun ds H1 _ s1 h1 vs rv => ?_⟩
  obtain ⟨z, ez, h3⟩ := WR.of h1
  cases es : sz ds with
  | none => rw [es] at ez; cases ez
  | some zs =>
    rw [es] at ez
    cases ez
    obtain ⟨rfl, hz⟩ := sz_some es
    exact ⟨by rw [rv.length]; exact hz, fun p n => h3 (upd H1 p (.tup vs)) (same_new n) _ (tup_new (A.hides.mono s1) n rv)⟩

/-! ### calls of built-ins -/
theorem fe_callB {x : Str} {id : String} {p : Pos} {es : List Expr} {g : GL} {r : List V → Hp → VK → Prop} {f : List D → Option D} (hc : CallR X (.builtin id) r) (hf : OkA X.K r f) (hm : X.mg x = none) (hg : Gl X x) (hv : bootBuiltins x = some (.builtin id)) (ha : FA X W (a :: es) g)
    (hn : x ≠ "__name__" := by decide) (hdb : (x == ("__debug__" : Str)) = false := by decide)
    (he : starEach (a :: es) X.env = (false, eval a X.env) :: starEach es X.env := by rfl) (hpl : (backTo pos (starEach es X.env)).any (·.1) = false := by rfl) : FE X W (.Call (.Name x p) (a :: es) [] pos) (eF f g) := by
  refine PE.imp (pe_callB hc hg hm hv ha hn hdb he hpl) fun σ H Q h => ?_
  obtain ⟨Γ, os, env, A, h⟩ := h
  refine ⟨Γ, os, env, A, WR.bind anti_E h fun ds H1 _ s1 h1 vs rv => ?_⟩
  obtain ⟨z, ez, h3⟩ := WR.of h1
  exact hf _ _ _ _ _ _ (A.hides.mono s1) rv ez fun u H3 s3 r3 => h3 H3 s3 u r3
theorem fe_callTy {x : Str} {T : String} {p : Pos} {es : List Expr} {g : GL} {r : List V → Hp → VK → Prop} {f : List D → Option D} (hc : CallR X (.type T) r) (hf : OkA X.K r f) (hm : X.mg x = none) (hg : Gl X x) (hv : bootBuiltins x = some (.type T)) (ha : FA X W (a :: es) g)
    (hn : x ≠ "__name__" := by decide) (hdb : (x == ("__debug__" : Str)) = false := by decide)
    (he : starEach (a :: es) X.env = (false, eval a X.env) :: starEach es X.env := by rfl) (hpl : (backTo pos (starEach es X.env)).any (·.1) = false := by rfl) : FE X W (.Call (.Name x p) (a :: es) [] pos) (eF f g) := by
  refine PE.imp (pe_callTy hc hg hm hv ha hn hdb he hpl) fun σ H Q h => ?_
  obtain ⟨Γ, os, env, A, h⟩ := h
  refine ⟨Γ, os, env, A, WR.bind anti_E h fun ds H1 _ s1 h1 vs rv => ?_⟩
  obtain ⟨z, ez, h3⟩ := WR.of h1
  exact hf _ _ _ _ _ _ (A.hides.mono s1) rv ez fun u H3 s3 r3 => h3 H3 s3 u r3
theorem fl_callTy {x : Str} {T : String} {p : Pos} {es : List Expr} {g : GL} {r : List V → Hp → VK → Prop} {f : List D → Option (List D)} (hc : CallR X (.type T) r) (hf : OkAL X.K r f) (hm : X.mg x = none) (hg : Gl X x) (hv : bootBuiltins x = some (.type T)) (ha : FA X W (a :: es) g)
    (hn : x ≠ "__name__" := by decide) (hdb : (x == ("__debug__" : Str)) = false := by decide)
    (he : starEach (a :: es) X.env = (false, eval a X.env) :: starEach es X.env := by rfl) (hpl : (backTo pos (starEach es X.env)).any (·.1) = false := by rfl) : FL X W (.Call (.Name x p) (a :: es) [] pos) (lF f g) := by
  refine PE.imp (pe_callTy hc hg hm hv ha hn hdb he hpl) fun σ H Q h => ?_
  obtain ⟨Γ, os, env, A, h⟩ := h
  refine ⟨Γ, os, env, A, WR.bind anti_L h fun ds H1 _ s1 h1 vs rv => ?_⟩
  obtain ⟨z, ez, h3⟩ := WR.of h1
  exact hf _ _ _ _ _ _ (A.hides.mono s1) rv ez fun p vs H3 s3 n e3 r3 => h3 H3 s3 p vs n e3 r3
/-- a built-in that stands at a module's name (from math import gcd) -/
theorem fe_callBf {x : Str} {id : String} {p : Pos} {es : List Expr} {g : GL} {r : List V → Hp → VK → Prop} {f : List D → Option D} (hc : CallR X (.builtin id) r) (hf : OkA X.K r f) (hm : X.mg x = some (.builtin id)) (hg : Gl X x) (ha : FA X W (a :: es) g)
    (hdb : (x == ("__debug__" : Str)) = false := by decide)
    (he : starEach (a :: es) X.env = (false, eval a X.env) :: starEach es X.env := by rfl) (hpl : (backTo pos (starEach es X.env)).any (·.1) = false := by rfl) : FE X W (.Call (.Name x p) (a :: es) [] pos) (eF f g) := by
  refine PE.imp (pe_callBfun hc hg hm ha hdb he hpl) fun σ H Q h => ?_
  obtain ⟨Γ, os, env, A, h⟩ := h
  refine ⟨Γ, os, env, A, WR.bind anti_E h fun ds H1 _ s1 h1 vs rv => ?_⟩
  obtain ⟨z, ez, h3⟩ := WR.of h1
  exact hf _ _ _ _ _ _ (A.hides.mono s1) rv ez fun u H3 s3 r3 => h3 H3 s3 u r3

/-! ### tests -/
theorem ft_cmp {op : CmpOp} {r : R2} {f : D → D → Option Bool} (ho : OpR X (compareOp op) r) (hf : Ok2B X.K r f) (ha : FE X W a ga) (hb : FE X W b gb) (hm : behindInMarks op b = false := by first | exact nomark _ | rfl) : FT X W (.Compare a [op] [b] pos) (b2 f ga gb) := by
  refine PT.imp (pt_cmpR ho ha hb hm) fun σ H Q h => ?_
  obtain ⟨Γ, os, env, A, h⟩ := h
  refine ⟨Γ, os, env, A, WR.bind anti_B h fun d H1 _ s1 h1 v rv => ⟨Γ, os, env, A.mono s1, WR.bind anti_B h1 fun e H2 _ s2 h2 w rw => ?_⟩⟩
  obtain ⟨z, ez, h3⟩ := WR.of h2
  exact hf _ _ _ _ _ _ _ _ (A.hides.mono (s1.trans s2)) (Rep.mono (Same.hid s2) d v rv) rw ez fun H3 s3 => ⟨z, rfl, h3 H3 s3⟩
theorem fe_cmp {op : CmpOp} {r : R2} {f : D → D → Option Bool} (ho : OpR X (compareOp op) r) (hf : Ok2B X.K r f) (ha : FE X W a ga) (hb : FE X W b gb) (hm : behindInMarks op b = false := by first | exact nomark _ | rfl) : FE X W (.Compare a [op] [b] pos) (eB (b2 f ga gb)) := by
  refine PE.imp (pe_cmpR ho ha hb hm) fun σ H Q h => ?_
  obtain ⟨Γ, os, env, A, h⟩ := h
  have h : WR X.K X.mg (Hd Γ os) W σ H (((ga env).bind fun x => (gb env).bind fun y => Res.of (f x y)).bind fun b => .ok (.bl b)) (zE X.K (Hd Γ os) Q) := h
  have h' : WR X.K X.mg (Hd Γ os) W σ H ((ga env).bind fun x => (gb env).bind fun y => Res.of (f x y)) (zB fun b H' => Q (.bl b) H') := WR.bind anti_E h fun b H1 _ s1 h1 => WR.ok h1 (Same.refl H1) _ rfl
  refine ⟨Γ, os, env, A, WR.bind anti_B h' fun d H1 _ s1 h1 v rv => ⟨Γ, os, env, A.mono s1, WR.bind anti_B h1 fun e H2 _ s2 h2 w rw => ?_⟩⟩
  obtain ⟨z, ez, h3⟩ := WR.of h2
  exact hf _ _ _ _ _ _ _ _ (A.hides.mono (s1.trans s2)) (Rep.mono (Same.hid s2) d v rv) rw ez fun H3 s3 => h3 H3 s3
def bChain (f f' : D → D → Option Bool) (a b c : GE) : GB := fun env => (a env).bind fun x => (b env).bind fun y => (Res.of (f x y)).bind fun k => if k then (c env).bind fun z => Res.of (f' y z) else .ok false
theorem ft_chain {op op' : CmpOp} {r r' : R2} {f f' : D → D → Option Bool} (ho : OpR X (compareOp op) r) (hf : Ok2B X.K r f) (ho' : OpR X (compareOp op') r') (hf' : Ok2B X.K r' f') (ha : FE X W a ga) (hb : FE X W b gb) (hc : FE X W c gc) (hm : lastMarks [op, op'] [b, c] = false := by rfl) :
    FT X W (.Compare a [op, op'] [b, c] pos) (bChain f f' ga gb gc) := by
  refine PT.imp (pt_chain ho ho' ha hb hc hm) fun σ H Q h => ?_
  obtain ⟨Γ, os, env, A, h⟩ := h
  refine ⟨Γ, os, env, A, WR.bind anti_B h fun d H1 _ s1 h1 v rv => ⟨Γ, os, env, A.mono s1, WR.bind anti_B h1 fun e H2 _ s2 h2 w rw => ?_⟩⟩
  have h2' : WR X.K X.mg (Hd Γ os) W σ H2 (Res.of (f d e)) (fun _ k H' => ∀ H3, Same H' H3 → WR X.K X.mg (Hd Γ os) W σ H3 (if k = true then (gc env).bind fun z => Res.of (f' e z) else .ok false) (zB Q)) :=
    WR.bind anti_B h2 fun k H3 _ s3 h3 H4 s4 => WR.mono anti_B h3 s4
  obtain ⟨k, ek, h3⟩ := WR.of h2'
  refine hf _ _ _ _ _ _ _ _ (A.hides.mono (s1.trans s2)) (Rep.mono (Same.hid s2) d v rv) rw ek fun H3 s3 => ⟨k, rfl, ?_⟩
  have h4 := h3 H3 s3 H3 (Same.refl H3)
  cases k with
  | false =>
    rw [if_neg Bool.false_ne_true]
    have q := WR.ok h4 (Same.refl H3)
    exact ⟨false, rfl, q⟩
  | true =>
    rw [if_pos rfl]
    refine ⟨Γ, os, env, A.mono (s1.trans (s2.trans s3)), WR.bind anti_B h4 fun z H4 _ s4 h5 u ru => ?_⟩
    obtain ⟨k2, ek2, h6⟩ := WR.of h5
    exact hf' _ _ _ _ _ _ _ _ (A.hides.mono (s1.trans (s2.trans (s3.trans s4)))) (Rep.mono (Same.hid (s3.trans s4)) e w rw) ru ek2 fun H5 s5 => ⟨k2, rfl, h6 H5 s5⟩
variable {p q : GB} {rest : List Expr}
theorem fw_and1 (ha : FT X W a p) : FW X W (.BoolOp .And [a] pos) p := pw_and1 ha
theorem fw_or1 (ha : FT X W a p) : FW X W (.BoolOp .Or [a] pos) p := pw_or1 ha
theorem fw_and (ha : FT X W a p) (hb : FW X W (.BoolOp .And (b :: rest) pos) q) : FW X W (.BoolOp .And (a :: b :: rest) pos) (bAnd p q) := by
  refine PW.imp (pw_and ha hb) fun σ H Q h => ?_
  obtain ⟨Γ, os, env, A, h⟩ := h
  refine ⟨Γ, os, env, A, WR.bind anti_B h fun k H1 _ s1 h1 => ?_⟩
  cases k with
  | true => exact ⟨Γ, os, env, A.mono s1, h1⟩
  | false =>
    have q := WR.ok h1 (Same.refl H1)
    exact q
theorem fw_or (ha : FT X W a p) (hb : FW X W (.BoolOp .Or (b :: rest) pos) q) : FW X W (.BoolOp .Or (a :: b :: rest) pos) (bOr p q) := by
  refine PW.imp (pw_or ha hb) fun σ H Q h => ?_
  obtain ⟨Γ, os, env, A, h⟩ := h
  refine ⟨Γ, os, env, A, WR.bind anti_B h fun k H1 _ s1 h1 => ?_⟩
  cases k with
  | false => exact ⟨Γ, os, env, A.mono s1, h1⟩
  | true =>
    have q := WR.ok h1 (Same.refl H1)
    exact q
theorem ft_w (h : FW X W a p) : FT X W a p := PW.pt h
theorem ft_not (ha : FT X W a p) : FT X W (.UnaryOp .Not a pos) (bNot p) := by
  refine PT.imp (pt_not ha) fun σ H Q h => ?_
  obtain ⟨Γ, os, env, A, h⟩ := h
  exact ⟨Γ, os, env, A, WR.bind anti_B h fun k H1 _ s1 h1 => by
    have q := WR.ok h1 (Same.refl H1)
    exact q⟩
theorem fe_if (hc : FT X W c p) (ha : FE X W a ga) (hb : FE X W b gb) : FE X W (.IfExp c a b pos) (eIf p ga gb) := by
  refine PE.imp (pe_ifExp hc ha hb) fun σ H Q h => ?_
  obtain ⟨Γ, os, env, A, h⟩ := h
  refine ⟨Γ, os, env, A, WR.bind anti_E h fun k H1 _ s1 h1 => ?_⟩
  cases k with
  | true => exact ⟨Γ, os, env, A.mono s1, h1⟩
  | false => exact ⟨Γ, os, env, A.mono s1, h1⟩
/-! ### truth -/
def truth : D → Option Bool
  | .non => some false
  | .bl b => some b
  | .int i => some (i != 0)
  | .str s => some (!s.isEmpty)
  | .tup xs => some (!xs.isEmpty)
  | .lst xs => some (!xs.isEmpty)
  | .ty _ => none
theorem truV_of {P : Addr → Prop} {H : Hp} {d : D} {x : V} {k : Bool} (r : Rep X.K (hid P H) d x) (e : truth d = some k) : TruV X.K x H k := by
  cases d with
  | non => cases r; cases e; exact rfl
  | bl b => cases r; cases e; exact rfl
  | int i => cases r; cases e; exact rfl
  | str s =>
    obtain ⟨rfl, hz, _⟩ := r
    cases e
    refine ⟨?_, ?_⟩
    · show (s.toArray).size ≤ sizeLine
      simpa using hz
    · show (!s.isEmpty) = (((s.toArray).size : Int) != 0)
      cases s <;> simp
      omega
  | tup xs =>
    obtain ⟨a, vs, rfl, h1, h2⟩ := r
    cases e
    refine .inr (.inl ⟨vs, Same.seqT (hid_same P H) h1, ?_⟩)
    have := h2.length
    cases xs <;> cases vs <;> first | rfl | (simp at this)
  | lst xs =>
    obtain ⟨a, vs, rfl, h1, h2⟩ := r
    cases e
    refine .inl ⟨vs, (Same.sl (hid_same P H) h1), ?_⟩
    have := h2.length
    cases xs <;> cases vs <;> first | rfl | (simp at this)
  | ty n => cases e
theorem ft_truth (ha : FE X W a ga) (he : ∀ whole, isTrue a X.env whole = (do let v ← whole; standAt a.pos; holding [v] (truthy v)) := by intro _; rfl) : FT X W a (b1 truth ga) := by
  refine PT.imp (pt_truth ha he) fun σ H Q h => ?_
  obtain ⟨Γ, os, env, A, h⟩ := h
  refine ⟨Γ, os, env, A, WR.bind anti_B h fun d H1 _ s1 h1 v rv => ?_⟩
  obtain ⟨z, ez, h3⟩ := WR.of h1
  exact ⟨z, truV_of rv ez, h3 H1 (Same.refl H1)⟩
/-- and, or, not as values -/
def eAnd (a b : GE) : GE := fun env => (a env).bind fun x => (Res.of (truth x)).bind fun k => if k then b env else .ok x
def eOr (a b : GE) : GE := fun env => (a env).bind fun x => (Res.of (truth x)).bind fun k => if k then .ok x else b env
theorem fe_one {op} (ha : FE X W a ga) : FE X W (.BoolOp op [a] pos) ga := pe_one ha
theorem fe_and (ha : FE X W a ga) (hb : FE X W (.BoolOp .And (b :: rest) pos) gb) : FE X W (.BoolOp .And (a :: b :: rest) pos) (eAnd ga gb) := by
  refine PE.imp (pe_andT ha hb) fun σ H Q h => ?_
  obtain ⟨Γ, os, env, A, h⟩ := h
  refine ⟨Γ, os, env, A, WR.bind anti_E h fun d H1 _ s1 h1 v rv => ?_⟩
  have h1' : WR X.K X.mg (Hd Γ os) W σ H1 (Res.of (truth d)) (fun _ k H' => ∀ H3, Same H' H3 → WR X.K X.mg (Hd Γ os) W σ H3 (if k = true then gb env else .ok d) (zE X.K (Hd Γ os) Q)) :=
    WR.bind anti_E h1 fun k H3 _ s3 h3 H4 s4 => WR.mono anti_E h3 s4
  obtain ⟨k, ek, h3⟩ := WR.of h1'
  have h4 := h3 H1 (Same.refl H1) H1 (Same.refl H1)
  refine ⟨k, truV_of rv ek, ?_⟩
  cases k with
  | true => exact ⟨Γ, os, env, A.mono s1, h4⟩
  | false => exact WR.ok h4 (Same.refl H1) v rv
theorem fe_or (ha : FE X W a ga) (hb : FE X W (.BoolOp .Or (b :: rest) pos) gb) : FE X W (.BoolOp .Or (a :: b :: rest) pos) (eOr ga gb) := by
  refine PE.imp (pe_orT ha hb) fun σ H Q h => ?_
  obtain ⟨Γ, os, env, A, h⟩ := h
  refine ⟨Γ, os, env, A, WR.bind anti_E h fun d H1 _ s1 h1 v rv => ?_⟩
  have h1' : WR X.K X.mg (Hd Γ os) W σ H1 (Res.of (truth d)) (fun _ k H' => ∀ H3, Same H' H3 → WR X.K X.mg (Hd Γ os) W σ H3 (if k = true then .ok d else gb env) (zE X.K (Hd Γ os) Q)) :=
    WR.bind anti_E h1 fun k H3 _ s3 h3 H4 s4 => WR.mono anti_E h3 s4
  obtain ⟨k, ek, h3⟩ := WR.of h1'
  have h4 := h3 H1 (Same.refl H1) H1 (Same.refl H1)
  refine ⟨k, truV_of rv ek, ?_⟩
  cases k with
  | false => exact ⟨Γ, os, env, A.mono s1, h4⟩
  | true => exact WR.ok h4 (Same.refl H1) v rv
def notD (d : D) : Option D := (truth d).map fun b => .bl (!b)
theorem fe_not (ha : FE X W a ga) : FE X W (.UnaryOp .Not a pos) (e1 notD ga) := by
  refine PE.imp (pe_notT ha) fun σ H Q h => ?_
  obtain ⟨Γ, os, env, A, h⟩ := h
  refine ⟨Γ, os, env, A, WR.bind anti_E h fun d H1 _ s1 h1 v rv => ?_⟩
  obtain ⟨z, ez, h3⟩ := WR.of h1
  unfold notD at ez
  cases ek : truth d with
  | none => rw [ek] at ez; cases ez
  | some k =>
    rw [ek] at ez
    cases ez
    exact ⟨k, truV_of rv ek, h3 H1 (Same.refl H1) _ rfl⟩
end
end AF

namespace AF
open PySem PySem.Spec PyProof.Rows L2

/-! ### sizes of ints -/
def Sm (i : Int) : Prop := Builtin.Int.intBits i ≤ 60000000
def S9 (i : Int) : Prop := i ≠ 0 ∧ i.natAbs.log2 < 9000
instance (i : Int) : Decidable (Sm i) := inferInstanceAs (Decidable (_ ≤ _))
instance (i : Int) : Decidable (S9 i) := inferInstanceAs (Decidable (_ ∧ _))
theorem Sm.of {i : Int} {k : Nat} (h : i.natAbs < 2 ^ k) (hk : k ≤ 60000000) : Sm i := Nat.le_trans (PyProof.Rows.intBits_le h) hk
theorem S9.of {i : Int} {k : Nat} (h0 : i ≠ 0) (h : i.natAbs < 2 ^ k) (hk : k ≤ 9000) : S9 i := ⟨h0, by
  have : 0 < k := by
    cases k with
    | zero => simp at h; exact absurd h h0
    | succ k => omega
  exact Nat.lt_of_lt_of_le (PySem.Flt.log2_lt_of this h) hk⟩

theorem OpR.or {X : Cx} {f : Value → Value → Sem Value} {r r' : R2} (h : OpR X f r) (h' : OpR X f r') : OpR X f (fun x y H Q => r x y H Q ∨ r' x y H Q) := by
  intro pins s σ H x y v u Q I rx ry q
  rcases q with q | q
  · exact h pins s σ H x y v u Q I rx ry q
  · exact h' pins s σ H x y v u Q I rx ry q

/-! ### + -/
def dAdd : D → D → Option D
  | .int i, .int j => some (.int (i + j))
  | .str s, .str t => if s.length + t.length ≤ sizeLine then some (.str (s ++ t)) else none
  | .tup xs, .tup ys => if xs.length + ys.length ≤ sizeLine then some (.tup (xs ++ ys)) else none
  | _, _ => none
def lAdd : D → D → Option (List D)
  | .lst xs, .lst ys => if xs.length + ys.length ≤ sizeLine then some (xs ++ ys) else none
  | _, _ => none
section
variable {X : Cx}
def rAddS : R2 := fun x y H Q => ∃ i j : Str, x = .str i ∧ y = .str j ∧ i.length + j.length ≤ sizeLine ∧ Q (.str (i ++ j)) H
def rAdd3 (K : PySem.W.Frag) : R2 := fun x y H Q => rI0 (fun i j => .int (i + j)) x y H Q ∨ (rAddS x y H Q ∨ rCatA K x y H Q)
theorem op_add3 : OpR X (binaryOp .Add) (rAdd3 X.K) := OpR.or op_add (OpR.or op_add_str op_catA)
theorem str_app (s t : List Nat) : (⟨s.toArray⟩ : Str) ++ (⟨t.toArray⟩ : Str) = ⟨(s ++ t).toArray⟩ := by
  show (⟨s.toArray ++ t.toArray⟩ : Str) = _
  simp
theorem ok_add3 {K : PySem.W.Frag} : Ok2 K (rAdd3 K) dAdd := by
  intro P H x y d e z Q hP rx ry ez q
  cases d <;> cases e <;> first | (cases ez; done) | skip
  · cases ez; cases rx; cases ry; exact .inl ⟨_, _, rfl, rfl, q _ H (Same.refl H) rfl⟩
  · rename_i s t
    obtain ⟨rfl, h1, h2⟩ := rx
    obtain ⟨rfl, h3, h4⟩ := ry
    simp only [dAdd] at ez
    split at ez
    · cases ez
      refine .inr (.inl ⟨_, _, rfl, rfl, ?_, q _ H (Same.refl H) ⟨by rw [str_app], ?_, ?_⟩⟩)
      · show (s.toArray).size + (t.toArray).size ≤ sizeLine
        simpa using ‹_›
      · rw [List.length_append]; assumption
      · rw [List.all_append, h2, h4]; rfl
    · cases ez
  · rename_i xs ys
    obtain ⟨a, vs, rfl, h1, h2⟩ := rx
    obtain ⟨b, ws, rfl, h3, h4⟩ := ry
    simp only [dAdd] at ez
    split at ez
    · cases ez
      have l1 := h2.length
      have l2 := h4.length
      refine .inr (.inr ⟨a, b, vs, ws, rfl, rfl, Same.seqT (hid_same P H) h1, Same.seqT (hid_same P H) h3, by omega, fun e0 => ?_, fun n0 e0 => ?_, fun n0 n1 p hp => ?_⟩)
      · subst e0
        have : xs = [] := by cases xs; rfl; simp at l1
        subst this
        exact q _ H (Same.refl H) ⟨b, ws, rfl, h3, h4⟩
      · subst e0
        have : ys = [] := by cases ys; rfl; simp at l2
        subst this
        rw [List.append_nil] at q
        exact q _ H (Same.refl H) ⟨a, vs, rfl, h1, h2⟩
      · exact q _ _ (same_new hp) (tup_new hP hp (h2.append h4))
    · cases ez
/-- a list and a list, read: tracked, or the script -/
def rCatL (K : PySem.W.Frag) : R2 := fun x y H Q => ∃ l b xs zs, x = .ref l ∧ y = .ref b ∧ SqL K H l xs ∧ SqL K H b zs ∧ xs.length + zs.length ≤ sizeLine ∧ ∀ p, H p = none → Q (.ref p) (upd H p (.lst (xs ++ zs)))
theorem op_catL : OpR X (binaryOp .Add) (rCatL X.K) := by
  intro pins s σ H x y v u Q I rx ry h
  obtain ⟨l, b, xs, zs, rfl, rfl, hH, hB, hz, q⟩ := h
  cases rx
  cases ry
  obtain ⟨its, r, ⟨⟨cls, dd, data, sl⟩, n, e, hc, hd, hx⟩, z⟩ := I.list hH
  obtain ⟨its2, r2, ⟨⟨cls2, dd2, data2, sl2⟩, n2, e2, hc2, hd2, hx2⟩, z2⟩ := I.list hB
  simp only at hc hd hx hc2 hd2 hx2
  subst hc hd hx hc2 hd2 hx2
  have hl := r.length
  have hl2 := r2.length
  refine PySem.concat_meets ⟨_, e, rfl⟩ ⟨_, e2, rfl⟩ noFill_list_add seq_list_add PySem.F.slot_list_add PySem.F.entry_list_add (PySem.F.args_list_add_2 _ _) (list_addW l b its.toArray its2.toArray n n2 none none sl sl2 (by rw [List.size_toArray, List.size_toArray]; omega)) ⟨e, e2, ?_⟩
  have ea : its.toArray ++ its2.toArray = (its ++ its2).toArray := by simp
  rw [ea]
  exact ⟨.ref _, _, I.lnew (t' := s.toks) (r.append r2) (by rw [List.length_append]; omega), rfl, q _ I.fresh⟩
theorem ok_catL {K : PySem.W.Frag} : Ok2L K (rCatL K) lAdd := by
  intro P H x y d e z Q hP rx ry ez q
  cases d <;> cases e <;> first | (cases ez; done) | skip
  rename_i xs ys
  obtain ⟨a, vs, rfl, h1, h2⟩ := rx
  obtain ⟨b, ws, rfl, h3, h4⟩ := ry
  simp only [lAdd] at ez
  split at ez
  · cases ez
    have l1 := h2.length
    have l2 := h4.length
    exact ⟨a, b, vs, ws, rfl, rfl, Same.sl (hid_same P H) h1, Same.sl (hid_same P H) h3, by omega, fun p hp => q p _ _ (same_new hp) hp upd_same (reps_new hp (h2.append h4))⟩
  · cases ez
variable {W : WX} {a b : Expr} {ga gb : GE} {pos : Pos}
theorem fe_add (ha : FE X W a ga) (hb : FE X W b gb) : FE X W (.BinOp a .Add b pos) (e2 dAdd ga gb) := fe_op op_add3 ok_add3 ha hb
theorem fl_add (ha : FE X W a ga) (hb : FE X W b gb) : FL X W (.BinOp a .Add b pos) (l2 lAdd ga gb) := fl_op op_catL ok_catL ha hb

/-! ### ints -/
def dI (f : Int → Int → Option Int) : D → D → Option D
  | .int i, .int j => (f i j).map .int
  | _, _ => none
theorem ok_I {K : PySem.W.Frag} {C : Int → Int → Prop} {g : Int → Int → Int} {f : Int → Int → Option Int} (h : ∀ i j k, f i j = some k → C i j ∧ k = g i j) : Ok2 K (rI C fun i j => .int (g i j)) (dI f) := by
  intro P H x y d e z Q hP rx ry ez q
  cases d <;> cases e <;> first | (cases ez; done) | skip
  rename_i i j
  cases rx
  cases ry
  cases ek : f i j with
  | none => simp [dI, ek] at ez
  | some k =>
    simp [dI, ek] at ez
    subst ez
    obtain ⟨h1, rfl⟩ := h _ _ _ ek
    exact ⟨i, j, rfl, rfl, h1, q _ H (Same.refl H) rfl⟩
theorem ok_I0 {K : PySem.W.Frag} {g : Int → Int → Int} : Ok2 K (rI0 fun i j => .int (g i j)) (dI fun i j => some (g i j)) := by
  intro P H x y d e z Q hP rx ry ez q
  cases d <;> cases e <;> first | (cases ez; done) | skip
  cases rx
  cases ry
  cases ez
  exact ⟨_, _, rfl, rfl, q _ H (Same.refl H) rfl⟩
def iMul (i j : Int) : Option Int := if Sm i ∧ Sm j then some (i * j) else none
def iFdiv (i j : Int) : Option Int := if S9 j then some (i.fdiv j) else none
def iMod (i j : Int) : Option Int := if j ≠ 0 then some (i.fmod j) else none
def iPow (i j : Int) : Option Int := if 0 ≤ j ∧ j ≤ 1000000 ∧ i.natAbs < 18446744073709551616 then some (i ^ j.toNat) else none
def iShl (i j : Int) : Option Int := if 0 ≤ j ∧ j ≤ 1000000 ∧ i.natAbs < 18446744073709551616 then some (i * 2 ^ j.toNat) else none
def iShr (i j : Int) : Option Int := if 0 ≤ j then some (i / 2 ^ j.toNat) else none
abbrev dSub : D → D → Option D := dI fun i j => some (i - j)
abbrev dMul : D → D → Option D := dI iMul
abbrev dFdiv : D → D → Option D := dI iFdiv
abbrev dMod : D → D → Option D := dI iMod
abbrev dPow : D → D → Option D := dI iPow
abbrev dShl : D → D → Option D := dI iShl
abbrev dShr : D → D → Option D := dI iShr
abbrev dAnd : D → D → Option D := dI fun i j => some (Builtin.bitAnd i j)
abbrev dOr : D → D → Option D := dI fun i j => some (Builtin.bitOr i j)
abbrev dXor : D → D → Option D := dI fun i j => some (Builtin.bitXor i j)
theorem op_fdivG : OpR X (binaryOp .FloorDiv) (rI (fun _ j => S9 j) fun i j => .int (i.fdiv j)) := opI fun i j _ _ _ _ _ hc q => floordiv_int hc.1 q (.inl (PyProof.noPylong_of_log2 hc.2))
theorem fe_sub (ha : FE X W a ga) (hb : FE X W b gb) : FE X W (.BinOp a .Sub b pos) (e2 dSub ga gb) := fe_op op_sub ok_I0 ha hb
theorem fe_mul (ha : FE X W a ga) (hb : FE X W b gb) : FE X W (.BinOp a .Mult b pos) (e2 dMul ga gb) := fe_op op_mulX (ok_I fun i j k h => by
  unfold iMul at h
  split at h
  · rename_i hh
    cases h
    refine ⟨?_, rfl⟩
    have h1 : Builtin.Int.intBits i ≤ 60000000 := hh.1
    have h2 : Builtin.Int.intBits j ≤ 60000000 := hh.2
    unfold CMulX
    omega
  · cases h) ha hb
theorem fe_fdiv (ha : FE X W a ga) (hb : FE X W b gb) : FE X W (.BinOp a .FloorDiv b pos) (e2 dFdiv ga gb) := fe_op op_fdivG (ok_I fun i j k h => by
  unfold iFdiv at h
  split at h
  · cases h; exact ⟨‹_›, rfl⟩
  · cases h) ha hb
theorem fe_mod (ha : FE X W a ga) (hb : FE X W b gb) : FE X W (.BinOp a .Mod b pos) (e2 dMod ga gb) := fe_op op_modN (ok_I fun i j k h => by
  unfold iMod at h
  split at h
  · cases h; exact ⟨‹_›, rfl⟩
  · cases h) ha hb
theorem fe_pow (ha : FE X W a ga) (hb : FE X W b gb) : FE X W (.BinOp a .Pow b pos) (e2 dPow ga gb) := fe_op op_pow (ok_I fun i j k h => by
  unfold iPow at h
  split at h
  · rename_i hh
    cases h; exact ⟨hh, rfl⟩
  · cases h) ha hb
theorem fe_shl (ha : FE X W a ga) (hb : FE X W b gb) : FE X W (.BinOp a .LShift b pos) (e2 dShl ga gb) := fe_op op_shl (ok_I fun i j k h => by
  unfold iShl at h
  split at h
  · rename_i hh
    cases h; exact ⟨hh, rfl⟩
  · cases h) ha hb
theorem fe_shr (ha : FE X W a ga) (hb : FE X W b gb) : FE X W (.BinOp a .RShift b pos) (e2 dShr ga gb) := fe_op op_shr (ok_I fun i j k h => by
  unfold iShr at h
  split at h
  · cases h; exact ⟨‹_›, rfl⟩
  · cases h) ha hb
theorem fe_bitand (ha : FE X W a ga) (hb : FE X W b gb) : FE X W (.BinOp a .BitAnd b pos) (e2 dAnd ga gb) := fe_op op_and ok_I0 ha hb
theorem fe_bitor (ha : FE X W a ga) (hb : FE X W b gb) : FE X W (.BinOp a .BitOr b pos) (e2 dOr ga gb) := fe_op op_or ok_I0 ha hb
theorem fe_bitxor (ha : FE X W a ga) (hb : FE X W b gb) : FE X W (.BinOp a .BitXor b pos) (e2 dXor ga gb) := fe_op op_xor ok_I0 ha hb
def dNeg : D → Option D
  | .int i => some (.int (-i))
  | _ => none
theorem fe_neg (ha : FE X W a ga) : FE X W (.UnaryOp .USub a pos) (e1 dNeg ga) := fe_un un_neg (fun P H x d z Q hP rx ez q => by
  cases d <;> first | (cases ez; done) | skip
  cases rx
  cases ez
  exact ⟨_, rfl, q _ H (Same.refl H) rfl⟩) ha

/-! ### order -/
def cI (f : Int → Int → Bool) : D → D → Option Bool
  | .int i, .int j => some (f i j)
  | _, _ => none
theorem ok_cI {K : PySem.W.Frag} {f : Int → Int → Bool} : Ok2B K (rI0 fun i j => .bl (f i j)) (cI f) := by
  intro P H x y d e z Q hP rx ry ez q
  cases d <;> cases e <;> first | (cases ez; done) | skip
  cases rx
  cases ry
  cases ez
  exact ⟨_, _, rfl, rfl, q H (Same.refl H)⟩
theorem ocI {f : Value → Value → Sem Value} {g : Int → Int → Bool} (rule : ∀ (i j : Int) (t u : Tok) (Q : Value → Shared → Prop) (E : Value → Shared → Prop) (s : Shared), Q (.bool (g i j)) s → wpAny (model X.prog X.w) X.A (f (.int i t) (.int j u)) Q E s) : OpR X f (rI0 fun i j => .bl (g i j)) := by
  intro pins s σ H x y v u Q I rx ry h
  obtain ⟨i, j, rfl, rfl, q⟩ := h
  obtain ⟨t, rfl⟩ := rx
  obtain ⟨t', rfl⟩ := ry
  exact rule i j t t' _ _ s ⟨.bl _, H, I, rfl, q⟩
theorem oc_lt : OpR X (compareOp .Lt) (rI0 fun i j => .bl (decide (i < j))) := ocI fun _ _ _ _ _ _ _ h => lt_int h
theorem oc_le : OpR X (compareOp .LtE) (rI0 fun i j => .bl (decide (i ≤ j))) := ocI fun _ _ _ _ _ _ _ h => le_int h
theorem oc_gt : OpR X (compareOp .Gt) (rI0 fun i j => .bl (decide (j < i))) := ocI fun _ _ _ _ _ _ _ h => gt_int h
theorem oc_ge : OpR X (compareOp .GtE) (rI0 fun i j => .bl (decide (j ≤ i))) := ocI fun _ _ _ _ _ _ _ h => ge_int h
abbrev cLt := cI fun i j => decide (i < j)
abbrev cLe := cI fun i j => decide (i ≤ j)
abbrev cGt := cI fun i j => decide (j < i)
abbrev cGe := cI fun i j => decide (j ≤ i)

/-! ### == -/
mutual
def toPy : D → PyData
  | .non => .none
  | .bl b => .bool b
  | .int i => .int i
  | .str s => .str ⟨s.toArray⟩
  | .tup xs => .tuple (toPys xs)
  | .lst xs => .list (toPys xs)
  | .ty _ => .none
def toPys : List D → List PyData
  | [] => []
  | d :: ds => toPy d :: toPys ds
end
mutual
def isData : D → Bool
  | .ty _ => false
  | .tup xs => isDatas xs
  | .lst xs => isDatas xs
  | _ => true
def isDatas : List D → Bool
  | [] => true
  | d :: ds => isData d && isDatas ds
end
def okD (d : D) : Bool := isData d && decide ((toPy d).depth ≤ 60)
def cEq (d e : D) : Option Bool := if okD d && okD e then some (PyData.eqv (toPy d) (toPy e)) else none
def cNe (d e : D) : Option Bool := (cEq d e).map not
mutual
theorem dp_of {K : PySem.W.Frag} {P : Addr → Prop} {H : Hp} : ∀ (d : D) (v : V), Rep K (hid P H) d v → isData d = true → Dp K H v (toPy d) ∧ (toPy d).canLay0 = true
  | .non, _, r, _ => by cases r; exact ⟨.non, rfl⟩
  | .bl b, _, r, _ => by cases r; exact ⟨.bl b, rfl⟩
  | .int i, _, r, _ => by cases r; exact ⟨.int i, rfl⟩
  | .str s, _, r, _ => by
    obtain ⟨rfl, h1, h2⟩ := r
    refine ⟨.str _, ?_⟩
    show (s.toArray).all (· < 0x110000) = true
    simpa using h2
  | .ty _, _, _, h => by cases h
  | .tup xs, _, r, h => by
    obtain ⟨a, vs, rfl, h1, h2⟩ := r
    obtain ⟨q1, q2⟩ := dps_of xs vs h2 h
    exact ⟨.tup (Same.seqT (hid_same P H) h1) q1, q2⟩
  | .lst xs, _, r, h => by
    obtain ⟨a, vs, rfl, h1, h2⟩ := r
    obtain ⟨q1, q2⟩ := dps_of xs vs h2 h
    exact ⟨.lst ((Same.sl (hid_same P H) h1)) q1, q2⟩
theorem dps_of {K : PySem.W.Frag} {P : Addr → Prop} {H : Hp} : ∀ (ds : List D) (vs : List V), Reps K (hid P H) ds vs → isDatas ds = true → DpAll K H vs (toPys ds) ∧ PyData.canLayAll0 (toPys ds) = true
  | [], _, r, _ => by rw [show _ = [] from r]; exact ⟨.nil, rfl⟩
  | d :: ds, _, r, h => by
    obtain ⟨v, r', rfl, h1, h2⟩ := r
    have h' : (isData d && isDatas ds) = true := h
    rw [Bool.and_eq_true] at h'
    obtain ⟨q1, q2⟩ := dp_of d v h1 h'.1
    obtain ⟨q3, q4⟩ := dps_of ds r' h2 h'.2
    exact ⟨.cons q1 q3, by show ((toPy d).canLay0 && PyData.canLayAll0 (toPys ds)) = true; rw [q2, q4]; rfl⟩
end
theorem dpo {K : PySem.W.Frag} {P : Addr → Prop} {H : Hp} {d : D} {v : V} (r : Rep K (hid P H) d v) (h : okD d = true) : Dp K H v (toPy d) ∧ SeqAt.shaped (toPy d) = true ∧ (toPy d).depth ≤ 60 := by
  unfold okD at h
  rw [Bool.and_eq_true] at h
  obtain ⟨q1, q2⟩ := dp_of d v r h.1
  have h3 := of_decide_eq_true h.2
  refine ⟨q1, ?_, h3⟩
  unfold SeqAt.shaped
  rw [q2, decide_eq_true (by omega : (toPy d).depth ≤ 64)]
  rfl
theorem ok_eq {K : PySem.W.Frag} : Ok2B K (rEqD K) cEq := by
  intro P H x y d e z Q hP rx ry ez q
  unfold cEq at ez
  split at ez
  · rename_i hh
    rw [Bool.and_eq_true] at hh
    cases ez
    obtain ⟨a1, a2, _⟩ := dpo rx hh.1
    obtain ⟨b1, b2, _⟩ := dpo ry hh.2
    exact ⟨_, _, a1, b1, a2, b2, q H (Same.refl H)⟩
  · cases ez
theorem ok_ne {K : PySem.W.Frag} : Ok2B K (rNeD K) cNe := by
  intro P H x y d e z Q hP rx ry ez q
  unfold cNe cEq at ez
  split at ez
  · rename_i hh
    rw [Bool.and_eq_true] at hh
    cases ez
    obtain ⟨a1, a2, _⟩ := dpo rx hh.1
    obtain ⟨b1, b2, _⟩ := dpo ry hh.2
    exact ⟨_, _, a1, b1, a2, b2, q H (Same.refl H)⟩
  · cases ez
/-! ### is -/
def cIs : D → D → Option Bool
  | .non, .non => some true
  | _, .non => some false
  | .bl a, .bl b => some (a == b)
  | .ty a, .ty b => some (a == b)
  | .ty _, _ => none
  | _, .bl _ => some false
  | _, _ => none
def cIsNot (d e : D) : Option Bool := (cIs d e).map not
/-- the value is no built-in name -/
def plainV : V → V → Option Bool
  | .non, .non => some true
  | .bl a, .bl b => some (a == b)
  | .ty a, .ty b => some (a == b)
  | .ref _, .ref _ => none
  | .int _, .int _ => none
  | .flt _, .flt _ => none
  | .str _, .str _ => none
  | .byt _, .byt _ => none
  | _, _ => some false
theorem plainV_ok {x y : V} {v u : Value} {b : Bool} (rx : RelV x v) (ry : RelV y u) (h : plainV x y = some b) : plainIs v u = true ∧ (v == u) = b := by
  cases x <;> cases y <;> first | (cases h; done) | skip
  all_goals (simp only [L2.RelV] at rx ry)
  all_goals (first | (obtain ⟨t, rfl⟩ := rx) | (subst rx))
  all_goals (first | (obtain ⟨t', rfl⟩ := ry) | (subst ry))
  all_goals (simp only [plainV, Option.some.injEq] at h; subst h)
  all_goals (refine ⟨rfl, ?_⟩)
  all_goals (first | rfl | skip)
  all_goals (rw [Bool.eq_iff_iff]; simp)
theorem op_isV : OpR X (compareOp .Is) (fun x y H Q => ∃ b, plainV x y = some b ∧ Q (.bl b) H) := by
  intro pins s σ H x y v u Q I rx ry h
  obtain ⟨b, e, q⟩ := h
  obtain ⟨h1, h2⟩ := plainV_ok rx ry e
  exact wpAny_is_plain h1 ⟨.bl b, H, I, by rw [h2]; rfl, q⟩
theorem op_isNotV : OpR X (compareOp .IsNot) (fun x y H Q => ∃ b, plainV x y = some b ∧ Q (.bl (!b)) H) := by
  intro pins s σ H x y v u Q I rx ry h
  obtain ⟨b, e, q⟩ := h
  obtain ⟨h1, h2⟩ := plainV_ok rx ry e
  exact wpAny_isNot_plain h1 ⟨.bl (!b), H, I, by rw [h2]; rfl, q⟩
theorem plainV_of {K : PySem.W.Frag} {G : Hp} {d e : D} {x y : V} {b : Bool} (rx : Rep K G d x) (ry : Rep K G e y) (h : cIs d e = some b) : plainV x y = some b := by
  cases d <;> cases e <;> first
    | (cases h; done)
    | (cases rx; cases ry; exact h)
    | (obtain ⟨rfl, _⟩ := rx; cases ry; exact h)
    | (obtain ⟨_, _, rfl, _⟩ := rx; cases ry; exact h)
theorem ok_is {K : PySem.W.Frag} : Ok2B K (fun x y H Q => ∃ b, plainV x y = some b ∧ Q (.bl b) H) cIs := fun P H x y d e z Q hP rx ry ez q => ⟨z, plainV_of rx ry ez, q H (Same.refl H)⟩
theorem ok_isNot {K : PySem.W.Frag} : Ok2B K (fun x y H Q => ∃ b, plainV x y = some b ∧ Q (.bl (!b)) H) cIsNot := fun P H x y d e z Q hP rx ry ez q => by
  unfold cIsNot at ez
  cases ek : cIs d e with
  | none => rw [ek] at ez; cases ez
  | some k =>
    rw [ek] at ez
    cases ez
    exact ⟨k, plainV_of rx ry ek, q H (Same.refl H)⟩
/-! ### in -/
/-- x in xs -/
def cIn : D → D → Option Bool
  | d, .lst xs => if okD d && okD (.lst xs) then some ((toPys xs).any fun z => PyData.eqv z (toPy d)) else none
  | d, .tup xs => if okD d && okD (.tup xs) then some ((toPys xs).any fun z => PyData.eqv z (toPy d)) else none
  | .str [c], .str s => some (decide (c ∈ s))
  | _, _ => none
end
end AF

namespace AF
open PySem PySem.Spec PyProof.Rows L2

section
variable {K : PySem.W.Frag} {Γ Γ' : Ga} {os : List (Option Addr)} {σ : L2.St} {H H' : Hp} {env : En} {mg : Str → Option Value} {W : WX}
theorem Hd.set_none {i : Nat} {a : Addr} (h : Hd Γ (os.set i none) a) : Hd Γ os a := by
  rcases h with h | h
  · exact .inl h
  · rcases List.mem_or_eq_of_mem_set h with h | h
    · exact .inr h
    · cases h
theorem get_set_some {α : Type} {l : List α} {i j : Nat} {a b : α} (h : (l.set i a)[j]? = some b) : (j = i ∧ b = a ∧ i < l.length) ∨ (j ≠ i ∧ l[j]? = some b) := by
  by_cases e : i = j
  · subst e
    by_cases hi : i < l.length
    · rw [List.getElem?_set_self hi] at h
      exact .inl ⟨rfl, (Option.some.inj h).symm, hi⟩
    · rw [List.getElem?_eq_none (by simpa using hi)] at h
      cases h
  · rw [List.getElem?_set_ne e] at h
    exact .inr ⟨Ne.symm e, h⟩
theorem Agree.set_val (A : Agree K Γ os σ H env) {i : Nat} {d : D} {v : V} (r : Rep K (hid (Hd Γ os) H) d v) : Agree K Γ (os.set i none) (σ.set i (some v)) H (env.set i (.val d)) := by
  have s : Same (hid (Hd Γ os) H) (hid (Hd Γ (os.set i none)) H) := Same.hid2 (Same.refl H) fun _ _ _ h q => h q.set_none
  refine ⟨by simp [A.len], by simp [A.olen], A.same, A.vis.trans s, A.vis1.trans s, A.p0, fun p h => ?_, fun a b p h1 h2 => ?_, fun j sl h => ?_⟩
  · rcases List.mem_or_eq_of_mem_set h with h | h
    · exact A.fresh p h
    · cases h
  · rcases get_set_some h1 with ⟨_, z, _⟩ | ⟨_, h1⟩
    · cases z
    rcases get_set_some h2 with ⟨_, z, _⟩ | ⟨_, h2⟩
    · cases z
    exact A.nd a b p h1 h2
  · rcases get_set_some h with ⟨rfl, rfl, hi⟩ | ⟨ne, h⟩
    · exact ⟨some v, none, List.getElem?_set_self (by rw [A.len]; exact hi), List.getElem?_set_self (by rw [A.olen]; exact hi), rfl, v, rfl, Rep.mono s d v r⟩
    · obtain ⟨sv, o, h1, h2, h3⟩ := A.slot j sl h
      exact ⟨sv, o, by rw [List.getElem?_set_ne (Ne.symm ne)]; exact h1, by rw [List.getElem?_set_ne (Ne.symm ne)]; exact h2, h3.mono s (Same.refl H)⟩
theorem Agree.set_unk (A : Agree K Γ os σ H env) (i : Nat) (o : Option V) : Agree K Γ (os.set i none) (σ.set i o) H (env.set i .unk) := by
  have s : Same (hid (Hd Γ os) H) (hid (Hd Γ (os.set i none)) H) := Same.hid2 (Same.refl H) fun _ _ _ h q => h q.set_none
  refine ⟨by simp [A.len], by simp [A.olen], A.same, A.vis.trans s, A.vis1.trans s, A.p0, fun p h => ?_, fun a b p h1 h2 => ?_, fun j sl h => ?_⟩
  · rcases List.mem_or_eq_of_mem_set h with h | h
    · exact A.fresh p h
    · cases h
  · rcases get_set_some h1 with ⟨_, z, _⟩ | ⟨_, h1⟩
    · cases z
    rcases get_set_some h2 with ⟨_, z, _⟩ | ⟨_, h2⟩
    · cases z
    exact A.nd a b p h1 h2
  · rcases get_set_some h with ⟨rfl, rfl, hi⟩ | ⟨ne, h⟩
    · exact ⟨o, none, List.getElem?_set_self (by rw [A.len]; exact hi), List.getElem?_set_self (by rw [A.olen]; exact hi), rfl⟩
    · obtain ⟨sv, o', h1, h2, h3⟩ := A.slot j sl h
      exact ⟨sv, o', by rw [List.getElem?_set_ne (Ne.symm ne)]; exact h1, by rw [List.getElem?_set_ne (Ne.symm ne)]; exact h2, h3.mono s (Same.refl H)⟩
theorem Agree.set_own (A : Agree K Γ os σ H env) {i : Nat} {ds : List D} {p : Addr} {vs : List V} (s : Same H H') (n : H p = none) (e : H' p = some (.lst vs)) (r : Reps K (hid (fun a => Hd Γ os a ∨ a = p) H') ds vs) :
    Agree K Γ (os.set i (some p)) (σ.set i (some (.ref p))) H' (env.set i (.own ds)) := by
  have sub : ∀ a, Hd Γ (os.set i (some p)) a → Hd Γ os a ∨ a = p := fun a h => by
    rcases h with h | h
    · exact .inl (.inl h)
    · rcases List.mem_or_eq_of_mem_set h with h | h
      · exact .inl (.inr h)
      · exact .inr (Option.some.inj h)
  have s1 : Same (hid (Hd Γ os) H) (hid (fun a => Hd Γ os a ∨ a = p) H') := Same.hid2 s fun a o e h q => q.elim h (ne_of_none e n)
  have s2 : Same (hid (fun a => Hd Γ os a ∨ a = p) H') (hid (Hd Γ (os.set i (some p))) H') := Same.hid2 (Same.refl H') fun a o e h q => h (sub a q)
  have nos : some p ∉ os := fun h => by
    obtain ⟨ws, q⟩ := A.ownAt h
    rw [n] at q
    cases q
  refine ⟨by simp [A.len], by simp [A.olen], A.same.trans s, (A.vis.trans s1).trans s2, (A.vis1.trans s1).trans s2, A.p0, fun q h => ?_, fun a b q h1 h2 => ?_, fun j sl h => ?_⟩
  · rcases List.mem_or_eq_of_mem_set h with h | h
    · exact A.fresh q h
    · cases h
      exact A.same.free n
  · rcases get_set_some h1 with ⟨e1, z1, _⟩ | ⟨_, h1⟩
    · rcases get_set_some h2 with ⟨e2, z2, _⟩ | ⟨_, h2⟩
      · rw [e1, e2]
      · cases z1
        exact absurd (List.mem_of_getElem? h2) nos
    · rcases get_set_some h2 with ⟨e2, z2, _⟩ | ⟨_, h2⟩
      · cases z2
        exact absurd (List.mem_of_getElem? h1) nos
      · exact A.nd a b q h1 h2
  · rcases get_set_some h with ⟨rfl, rfl, hi⟩ | ⟨ne, h⟩
    · exact ⟨_, _, List.getElem?_set_self (by rw [A.len]; exact hi), List.getElem?_set_self (by rw [A.olen]; exact hi), p, vs, rfl, rfl, e, Reps.mono s2 ds vs r⟩
    · obtain ⟨sv, o, h1, h2, h3⟩ := A.slot j sl h
      exact ⟨sv, o, by rw [List.getElem?_set_ne (Ne.symm ne)]; exact h1, by rw [List.getElem?_set_ne (Ne.symm ne)]; exact h2, h3.mono (s1.trans s2) s⟩
theorem Agree.own (A : Agree K Γ os σ H env) {i : Nat} {ds : List D} (h : env[i]? = some (.own ds)) : ∃ p vs, os[i]? = some (some p) ∧ σ[i]? = some (some (.ref p)) ∧ H p = some (.lst vs) ∧ Reps K (hid (Hd Γ os) H) ds vs := by
  obtain ⟨sv, o, h1, h2, p, vs, rfl, rfl, h3, h4⟩ := A.slot i _ h
  exact ⟨p, vs, h2, h1, h3, h4⟩
theorem Agree.freeze (A : Agree K Γ os σ H env) {i : Nat} {ds : List D} (h : env[i]? = some (.own ds)) : Agree K Γ (os.set i none) σ H (env.set i (.val (.lst ds))) := by
  obtain ⟨p, vs, ho, hσ, hp, hr⟩ := A.own h
  have s : Same (hid (Hd Γ os) H) (hid (Hd Γ (os.set i none)) H) := Same.hid2 (Same.refl H) fun _ _ _ h q => h q.set_none
  have np : ¬ Hd Γ (os.set i none) p := fun q => by
    rcases q with q | q
    · exact A.notP0 (List.mem_of_getElem? ho) q
    · obtain ⟨j, hj, e⟩ := List.mem_iff_getElem.mp q
      have e' : (os.set i none)[j]? = some (some p) := by rw [List.getElem?_eq_getElem hj, e]
      rcases get_set_some e' with ⟨_, z, _⟩ | ⟨ne, e'⟩
      · cases z
      · exact ne (A.nd j i p e' ho)
  refine ⟨by simp [A.len], by simp [A.olen], A.same, A.vis.trans s, A.vis1.trans s, A.p0, fun p h => ?_, fun a b p h1 h2 => ?_, fun j sl h' => ?_⟩
  · rcases List.mem_or_eq_of_mem_set h with h | h
    · exact A.fresh p h
    · cases h
  · rcases get_set_some h1 with ⟨_, z, _⟩ | ⟨_, h1⟩
    · cases z
    rcases get_set_some h2 with ⟨_, z, _⟩ | ⟨_, h2⟩
    · cases z
    exact A.nd a b p h1 h2
  · rcases get_set_some h' with ⟨rfl, rfl, hi⟩ | ⟨ne, h'⟩
    · exact ⟨_, none, hσ, List.getElem?_set_self (by rw [A.olen]; exact hi), rfl, .ref p, rfl, p, vs, rfl, .inl (.inl (hid_of np hp)), Reps.mono s ds vs hr⟩
    · obtain ⟨sv, o, h1, h2, h3⟩ := A.slot j sl h'
      exact ⟨sv, o, h1, by rw [List.getElem?_set_ne (Ne.symm ne)]; exact h2, h3.mono s (Same.refl H)⟩
/-- an own list is written -/
theorem Agree.upd_own (A : Agree K Γ os σ H env) {i : Nat} {p : Addr} {ds : List D} {vs : List V} (ho : os[i]? = some (some p)) (hσ : σ[i]? = some (some (.ref p))) (r : Reps K (hid (Hd Γ os) H) ds vs) : Agree K Γ os σ (upd H p (.lst vs)) (env.set i (.own ds)) := by
  have hp : Hd Γ os p := .inr (List.mem_of_getElem? ho)
  have n0 : Γ.H0 p = none := A.fresh p (List.mem_of_getElem? ho)
  have s : Same (hid (Hd Γ os) H) (hid (Hd Γ os) (upd H p (.lst vs))) := fun a o h => by
    obtain ⟨h1, h2⟩ := hid_some h
    have ne : a ≠ p := fun e => h1 (by rw [e]; exact hp)
    exact hid_of h1 (by rw [upd_ne ne]; exact h2)
  refine ⟨by simp [A.len], by simp [A.olen], fun a o h => ?_, A.vis.trans s, A.vis1.trans s, A.p0, A.fresh, A.nd, fun j sl h => ?_⟩
  · rw [upd_ne (ne_of_none h n0)]
    exact A.same _ _ h
  · rcases get_set_some h with ⟨rfl, rfl, hi⟩ | ⟨ne, h⟩
    · exact ⟨_, _, hσ, ho, p, vs, rfl, rfl, upd_same, Reps.mono s ds vs r⟩
    · obtain ⟨sv, o, h1, h2, h3⟩ := A.slot j sl h
      refine ⟨sv, o, h1, h2, ?_⟩
      cases sl with
      | unk => exact h3
      | val d =>
        obtain ⟨q1, v, q2, q3⟩ := h3
        exact ⟨q1, v, q2, Rep.mono s d v q3⟩
      | pin d => exact h3
      | lent es =>
        obtain ⟨q1, q, ws, q2, q3, q4, q5⟩ := h3
        exact ⟨q1, q, ws, q2, q3, s _ _ q4, Reps.mono s es ws q5⟩
      | own es =>
        obtain ⟨q, ws, q1, q2, q3, q4⟩ := h3
        subst q1
        have nq : q ≠ p := fun z => ne (A.nd j i p (z ▸ h2) ho)
        exact ⟨q, ws, rfl, q2, by rw [upd_ne nq]; exact q3, Reps.mono s es ws q4⟩
theorem Agree.weak (A : Agree K Γ' os σ H env) (e1 : Γ'.H0 = Γ.H0) (e2 : Γ'.P0 = Γ.P0) (s : Same Γ.G0 Γ'.G0) (e3 : Γ'.G1 = Γ.G1 := by rfl) (e4 : Γ'.L = Γ.L := by rfl) : Agree K Γ os σ H env := by
  cases Γ
  cases Γ'
  cases e1
  cases e2
  cases e3
  cases e4
  exact ⟨A.len, A.olen, A.same, s.trans A.vis, A.vis1, A.p0, A.fresh, A.nd, A.slot⟩
theorem WS.weak {r : Out} {Dn : Ends} (h : WS K mg W Γ r Dn) (e1 : Γ'.H0 = Γ.H0) (e2 : Γ'.P0 = Γ.P0) (s : Same Γ.G0 Γ'.G0) (e3 : Γ'.G1 = Γ.G1 := by rfl) (e4 : Γ'.L = Γ.L := by rfl) : WS K mg W Γ' r Dn := by
  have eh : ∀ os, Hd Γ' os = Hd Γ os := fun os => by unfold Hd; rw [e2]
  cases r with
  | next e => exact fun os σ H A => h os σ H (A.weak e1 e2 s e3 e4)
  | brk e => exact fun os σ H A => h os σ H (A.weak e1 e2 s e3 e4)
  | cont e => exact fun os σ H A => h os σ H (A.weak e1 e2 s e3 e4)
  | ret d => exact fun v H q r => h v H (by rw [← e1]; exact q) (by rw [← e2]; exact r)
  | err x e => exact fun os σ H c pd A q => h os σ H c pd (A.weak e1 e2 s e3 e4) (by rw [← eh]; exact q)
  | stuck => exact h
/-- from a statement's wish to an expression's -/
theorem WS.expr {α : Type} {r : Res α} {f : α → Out} {Dn : Ends} {Z : Hp → α → Hp → Prop} (A : Agree K Γ os σ H env) (h : WS K mg W Γ (match r with | .ok a => f a | .err e => .err e env | .stuck => .stuck) Dn)
    (k : ∀ a H', r = .ok a → Same H H' → WS K mg W Γ (f a) Dn → Z H a H') : WR K mg (Hd Γ os) W σ H r Z := by
  cases r with
  | ok a => exact fun H' s => k a H' rfl s h
  | err e => exact fun c pd H' s q => h os σ H' c pd (A.mono s) q
  | stuck => exact h
end

/-! ### mirrors of statements -/
def onOk {α : Type} (env : En) (r : Res α) (f : α → Out) : Out := match r with
  | .ok a => f a
  | .err e => .err e env
  | .stuck => .stuck
def sSeq (a b : GS) : GS := fun env => match a env with
  | .next e => b e
  | r => r
def sNil : GS := fun env => .next env
def sBreak : GS := fun env => .brk env
def sCont : GS := fun env => .cont env
def sSet (i : Nat) (g : GE) : GS := fun env => onOk env (g env) fun d => .next (env.set i (.val d))
def sSetL (i : Nat) (g : GL) : GS := fun env => onOk env (g env) fun ds => .next (env.set i (.own ds))
def sExpr (g : GE) : GS := fun env => onOk env (g env) fun _ => .next env
def sRet (g : GE) : GS := fun env => onOk env (g env) fun d => .ret d
def sRetN : GS := fun _ => .ret .non
def sIf (c : GB) (a b : GS) : GS := fun env => onOk env (c env) fun k => if k then a env else b env
def withOwn (env : En) (i : Nat) (f : List D → Out) : Out := match env[i]? with
  | some (.own ds) => f ds
  | _ => .stuck
def sRetO (i : Nat) : GS := fun env => withOwn env i fun ds => .ret (.lst ds)
def sApp (i : Nat) (g : GE) : GS := fun env => withOwn env i fun ds => onOk env (g env) fun d => if ds.length < sizeLine then .next (env.set i (.own (ds ++ [d]))) else .stuck
def frz (i : Nat) (env : En) : En := match env[i]? with
  | some (.own ds) => env.set i (.val (.lst ds))
  | _ => env
def sFrz (i : Nat) (g : GS) : GS := fun env => g (frz i env)
/-- a target: how its slots are set -/
abbrev GT := D → En → Option En
def tName (i : Nat) : GT := fun d env => some (env.set i (.val d))
def tsNil : List D → En → Option En := fun ds env => match ds with
  | [] => some env
  | _ => none
def tsCons (t : GT) (r : List D → En → Option En) : List D → En → Option En := fun ds env => match ds with
  | d :: ds => (t d env).bind (r ds)
  | [] => none
def tTup (n : Nat) (ts : List D → En → Option En) : GT := fun d env => match d with
  | .tup ds => if ds.length = n then ts ds env else none
  | .lst ds => if ds.length = n then ts ds env else none
  | _ => none
def sAsg (t : GT) (g : GE) : GS := fun env => onOk env (g env) fun d => match t d env with
  | some e => .next e
  | none => .stuck
def forL (t : GT) (body : GS) : List D → GS
  | [], env => .next env
  | d :: ds, env => match t d env with
    | none => .stuck
    | some e1 => match body e1 with
      | .next e => forL t body ds e
      | .cont e => forL t body ds e
      | .brk e => .next e
      | .ret d => .ret d
      | .err x e => .err x e
      | .stuck => .stuck
def sFor (it : GL) (t : GT) (body : GS) : GS := fun env => onOk env (it env) fun ds => forL t body ds env
def whileL (c : GB) (body : GS) : Nat → GS
  | 0, _ => .stuck
  | n + 1, env => onOk env (c env) fun k => if k then (match body env with
      | .next e => whileL c body n e
      | .cont e => whileL c body n e
      | .brk e => .next e
      | .ret d => .ret d
      | .err x e => .err x e
      | .stuck => .stuck) else .next env
def sWhile (n : Nat) (c : GB) (body : GS) : GS := whileL c body n

section
variable {X : Cx} {W : WX} {st : Stmt} {sts rest : List Stmt} {a b e : Expr} {g ga gb : GE} {gl : GL} {p q : GS} {pos : Pos}
theorem fss_nil : FSs X W [] sNil := by
  refine PSs.imp pss_nil fun Dn σ H h => ?_
  obtain ⟨Γ, os, env, A, h⟩ := h
  exact h os σ H A
theorem tseq {K : PySem.W.Frag} {mg : Str → Option Value} : ∀ Dn σ H, tGS K mg W (sSeq p q) Dn σ H → tSeq (tGS K mg W p) (tGS K mg W q) Dn σ H := fun Dn σ H h => by
  obtain ⟨Γ, os, env, A, h⟩ := h
  refine ⟨Γ, os, env, A, ?_⟩
  have h : WS K mg W Γ (match p env with | .next e => q e | r => r) Dn := h
  revert h
  cases p env with
  | next e' => exact fun h os' σ' H' A' => ⟨Γ, os', e', A', h⟩
  | brk e' => exact id
  | cont e' => exact id
  | ret d => exact id
  | err x e' => exact id
  | stuck => exact id
theorem fss_cons (h1 : FS X W st p) (h2 : FSs X W rest q) : FSs X W (st :: rest) (sSeq p q) := PSs.imp (pss_cons h1 h2) tseq
theorem fss_one (h : FS X W st p) : FSs X W [st] p := pss_one h
theorem fs_pass : FS X W (.Pass pos) sNil := by
  refine PS.imp ps_pass fun Dn σ H h => ?_
  obtain ⟨Γ, os, env, A, h⟩ := h
  exact h os σ H A
theorem fs_break : FS X W (.Break pos) sBreak := by
  refine PS.imp ps_break fun Dn σ H h => ?_
  obtain ⟨Γ, os, env, A, h⟩ := h
  exact h os σ H A
theorem fs_cont : FS X W (.Continue pos) sCont := by
  refine PS.imp ps_continue fun Dn σ H h => ?_
  obtain ⟨Γ, os, env, A, h⟩ := h
  exact h os σ H A
theorem fs_set (i : Nat) {x : Str} {pos' : Pos} (he : FE X W e g) (hN : X.N.Nodup) (hi : X.N[i]? = some x := by rfl) (hx : Loc X.env.scope x := by first | exact .inl rfl | exact .inr rfl) (hs : swapsWith e (some (.Name x pos')) pos.line X.env = pure false := by rfl)
    (hf : X.fn x = true ∨ X.env.scope.names.lookup x = some .local := by first | exact .inl rfl | exact .inr rfl) : FS X W (.Assign [.Name x pos'] e pos) (sSet i g) := by
  refine PS.imp (ps_set hN hi hx he hs hf) fun Dn σ H h => ?_
  obtain ⟨Γ, os, env, A, h⟩ := h
  exact ⟨Γ, os, env, A, WS.expr A h fun d H' _ s h v r => h _ _ _ ((A.mono s).set_val r)⟩
theorem fs_setL (i : Nat) {x : Str} {pos' : Pos} (he : FL X W e gl) (hN : X.N.Nodup) (hi : X.N[i]? = some x := by rfl) (hx : Loc X.env.scope x := by first | exact .inl rfl | exact .inr rfl) (hs : swapsWith e (some (.Name x pos')) pos.line X.env = pure false := by rfl)
    (hf : X.fn x = true ∨ X.env.scope.names.lookup x = some .local := by first | exact .inl rfl | exact .inr rfl) : FS X W (.Assign [.Name x pos'] e pos) (sSetL i gl) := by
  refine PS.imp (ps_set hN hi hx he hs hf) fun Dn σ H h => ?_
  obtain ⟨Γ, os, env, A, h⟩ := h
  exact ⟨Γ, os, env, A, WS.expr A h fun d H' _ s h p vs n e r => h _ _ _ (A.set_own s n e r)⟩
theorem fs_expr (he : FE X W e g) (hs : swapsWith e none pos.line X.env = pure false := by rfl) : FS X W (.Expr e pos) (sExpr g) := by
  refine PS.imp (ps_expr he hs) fun Dn σ H h => ?_
  obtain ⟨Γ, os, env, A, h⟩ := h
  exact ⟨Γ, os, env, A, WS.expr A h fun d H' _ s h v r => h _ _ _ (A.mono s)⟩
theorem rep_ret {K : PySem.W.Frag} {Γ : Ga} {os : List (Option Addr)} {H : Hp} {d : D} {v : V} (r : Rep K (hid (Hd Γ os) H) d v) : Rep K (hid Γ.P0 H) d v :=
  Rep.mono (Same.hid2 (Same.refl H) fun _ _ _ h q => h (.inl q)) d v r
theorem fs_ret (he : FE X W e g) : FS X W (.Return (some e) pos) (sRet g) := by
  refine PS.imp (ps_ret he) fun Dn σ H h => ?_
  obtain ⟨Γ, os, env, A, h⟩ := h
  exact ⟨Γ, os, env, A, WS.expr A h fun d H' _ s h v r => h v H' (A.same.trans s) (rep_ret r)⟩
theorem fs_retN : FS X W (.Return none pos) sRetN := by
  refine PS.imp ps_retN fun Dn σ H h => ?_
  obtain ⟨Γ, os, env, A, h⟩ := h
  exact h .non H A.same rfl
theorem fs_if {c : Expr} {gc : GB} {s1 s2 : List Stmt} (hc : FT X W c gc) (ha : FSs X W s1 p) (hb : FSs X W s2 q) : FS X W (.If c s1 s2 pos) (sIf gc p q) := by
  refine PS.imp (ps_if hc ha hb) fun Dn σ H h => ?_
  obtain ⟨Γ, os, env, A, h⟩ := h
  refine ⟨Γ, os, env, A, WS.expr A h fun k H' _ s h => ?_⟩
  cases k with
  | true => exact ⟨Γ, os, env, A.mono s, h⟩
  | false => exact ⟨Γ, os, env, A.mono s, h⟩
theorem own_cases {env : En} {i : Nat} {f : List D → Out} {K : PySem.W.Frag} {mg : Str → Option Value} {Γ : Ga} {Dn : Ends} (h : WS K mg W Γ (withOwn env i f) Dn) : ∃ ds, env[i]? = some (.own ds) ∧ WS K mg W Γ (f ds) Dn := by
  unfold withOwn at h
  split at h
  · exact ⟨_, ‹_›, h⟩
  · exact h.elim
theorem fs_retO (i : Nat) {x : Str} {p1 : Pos} (hN : X.N[i]? = some x := by rfl) (hv : Vis X.env.scope x := by first | exact Or.inl rfl | exact Or.inr (Or.inl rfl) | exact Or.inr (Or.inr rfl)) (hd : (x == ("__debug__" : Str)) = false := by decide)
    (hcd : (x == ("__classdict__" : Str)) = false := by decide) : FS X W (.Return (some (.Name x p1)) pos) (sRetO i) := by
  refine PS.imp (ps_ret (pe_var hN hv hd hcd)) fun Dn σ H h => ?_
  obtain ⟨Γ, os, env, A, h⟩ := h
  obtain ⟨ds, e, h⟩ := own_cases h
  obtain ⟨p, vs, ho, hσ, hp, hr⟩ := A.own e
  refine ⟨.ref p, hσ, h _ H A.same ⟨p, vs, rfl, .inl (.inl (hid_of (A.notP0 (List.mem_of_getElem? ho)) hp)), ?_⟩⟩
  exact Reps.mono (Same.hid2 (Same.refl H) fun _ _ _ h q => h (.inl q)) ds vs hr
theorem fs_frz (i : Nat) (h : FS X W st p) : FS X W st (sFrz i p) := by
  refine PS.imp h fun Dn σ H h => ?_
  obtain ⟨Γ, os, env, A, h⟩ := h
  have h : WS X.K X.mg W Γ (p (frz i env)) Dn := h
  unfold frz at h
  split at h
  · exact ⟨Γ, _, _, A.freeze ‹_›, h⟩
  · exact ⟨Γ, os, env, A, h⟩
theorem fss_frz (i : Nat) (h : FSs X W sts p) : FSs X W sts (sFrz i p) := by
  refine PSs.imp h fun Dn σ H h => ?_
  obtain ⟨Γ, os, env, A, h⟩ := h
  have h : WS X.K X.mg W Γ (p (frz i env)) Dn := h
  unfold frz at h
  split at h
  · exact ⟨Γ, _, _, A.freeze ‹_›, h⟩
  · exact ⟨Γ, os, env, A, h⟩
/-- x.append(e) -/
theorem fs_app (i : Nat) {x : Str} {p1 apos pos2 : Pos} (ha : FE X W a ga) (hN : X.N[i]? = some x := by rfl) (hv : Vis X.env.scope x := by first | exact Or.inl rfl | exact Or.inr (Or.inl rfl) | exact Or.inr (Or.inr rfl)) (hd : (x == ("__debug__" : Str)) = false := by decide)
    (hcd : (x == ("__classdict__" : Str)) = false := by decide)
    (hp : PE X (.Call (.Attribute (.Name x p1) "append" apos) [a] [] pos2) (tBM X.K "list" rAppend (tVar i) (tCons (tG X.K X.mg W ga) tNil)))
    (hs : swapsWith (.Call (.Attribute (.Name x p1) "append" apos) [a] [] pos2) none pos.line X.env = pure false := by rfl) : FS X W (.Expr (.Call (.Attribute (.Name x p1) "append" apos) [a] [] pos2) pos) (sApp i ga) := by
  refine PS.imp (ps_expr hp hs) fun Dn σ H h => ?_
  obtain ⟨Γ, os, env, A, h⟩ := h
  obtain ⟨ds, e, h⟩ := own_cases h
  obtain ⟨p, vs, ho, hσ, hp, hr⟩ := A.own e
  refine ⟨.ref p, hσ, .inl ⟨rfl, _, .inl (.inl hp)⟩, Γ, os, env, A, WS.expr A h fun d H' _ s h v r => ?_⟩
  have l := hr.length
  by_cases hz : ds.length < sizeLine
  · have h : WS X.K X.mg W Γ (if ds.length < sizeLine then .next (env.set i (.own (ds ++ [d]))) else .stuck) Dn := h
    rw [if_pos hz] at h
    refine ⟨p, vs, v, rfl, rfl, s _ _ hp, by omega, h os σ _ ?_⟩
    exact (A.mono s).upd_own ho hσ ((Reps.mono (Same.hid s) ds vs hr).snoc r)
  · have h : WS X.K X.mg W Γ (if ds.length < sizeLine then .next (env.set i (.own (ds ++ [d]))) else .stuck) Dn := h
    rw [if_neg hz] at h
    exact h.elim
end

/-! ### targets -/
def tGT (K : PySem.W.Frag) (is : List Nat) (t : GT) : TG := fun v σ H Q => ∃ Γ os env d env', Agree K Γ os σ H env ∧ Rep K (hid (Hd Γ os) H) d v ∧ t d env = some env' ∧
  ∀ os' σ', Agree K Γ os' σ' H env' → (∀ vs, (∀ i ∈ is, i ∈ vs) → wipe σ' vs = wipe σ vs) → (∀ a, Hd Γ os' a → Hd Γ os a) → (∀ j, j ∉ is → os'[j]? = os[j]?) → Q σ' H
def tGTs (K : PySem.W.Frag) (is : List Nat) (t : List D → En → Option En) : TGs := fun vs σ H Q => ∃ Γ os env ds env', Agree K Γ os σ H env ∧ Reps K (hid (Hd Γ os) H) ds vs ∧ t ds env = some env' ∧
  ∀ os' σ', Agree K Γ os' σ' H env' → (∀ vs, (∀ i ∈ is, i ∈ vs) → wipe σ' vs = wipe σ vs) → (∀ a, Hd Γ os' a → Hd Γ os a) → (∀ j, j ∉ is → os'[j]? = os[j]?) → Q σ' H
abbrev FG (X : Cx) (target : Expr) (is : List Nat) (t : GT) : Prop := PG X target (tGT X.K is t)
abbrev FGs (X : Cx) (ts : List Expr) (is : List Nat) (t : List D → En → Option En) : Prop := PGs X ts (tGTs X.K is t)
theorem wipe_set {σ : L2.St} {i : Nat} {o : Option V} : ∀ {vs : List Nat}, i ∈ vs → wipe (σ.set i o) vs = wipe σ vs
  | [], h => by cases h
  | v :: vs, h => by
    show (wipe (σ.set i o) vs).set v none = (wipe σ vs).set v none
    by_cases hv : i ∈ vs
    · rw [wipe_set hv]
    · have e : i = v := by
        rcases List.mem_cons.mp h with h | h
        · exact h
        · exact absurd h hv
      subst e
      apply List.ext_getElem?
      intro j
      by_cases ej : i = j
      · subst ej
        have l1 := wipe_length (σ.set i o) vs
        have l2 := wipe_length σ vs
        rw [List.length_set] at l1
        by_cases hi : i < σ.length
        · rw [List.getElem?_set_self (by omega), List.getElem?_set_self (by omega)]
        · rw [List.getElem?_eq_none (by rw [List.length_set]; omega), List.getElem?_eq_none (by rw [List.length_set]; omega)]
      · rw [List.getElem?_set_ne ej, List.getElem?_set_ne ej]
        have out : ∀ (ws : List Nat) (τ : L2.St), i ∉ ws → ∀ k, (wipe (τ.set i o) ws)[k]? = if k = i then (τ.set i o)[k]? else (wipe τ ws)[k]? := by
          intro ws
          induction ws with
          | nil =>
            intro τ _ k
            by_cases hk : k = i
            · rw [if_pos hk]; rfl
            · rw [if_neg hk]
              exact List.getElem?_set_ne (Ne.symm hk)
          | cons w ws ih =>
            intro τ hw k
            have hw1 : i ≠ w := fun z => hw (z ▸ List.mem_cons_self)
            have hw2 : i ∉ ws := fun z => hw (List.mem_cons_of_mem _ z)
            show ((wipe (τ.set i o) ws).set w none)[k]? = if k = i then (τ.set i o)[k]? else ((wipe τ ws).set w none)[k]?
            by_cases hk : k = i
            · rw [if_pos hk, hk, List.getElem?_set_ne (Ne.symm hw1), ih τ hw2 i, if_pos rfl]
            · rw [if_neg hk]
              by_cases hkw : w = k
              · subst hkw
                have l1 := wipe_length (τ.set i o) ws
                have l2 := wipe_length τ ws
                rw [List.length_set] at l1
                by_cases hl : w < τ.length
                · rw [List.getElem?_set_self (by omega), List.getElem?_set_self (by omega)]
                · rw [List.getElem?_eq_none (by rw [List.length_set]; omega), List.getElem?_eq_none (by rw [List.length_set]; omega)]
              · rw [List.getElem?_set_ne hkw, List.getElem?_set_ne hkw, ih τ hw2 k, if_neg hk]
        rw [out vs σ hv j, if_neg (Ne.symm ej)]
section
variable {X : Cx} {W : WX} {tg e : Expr} {g : GE} {t : GT} {is js : List Nat} {pos : Pos}
theorem fg_name (i : Nat) {x : Str} (hN : X.N.Nodup) (hi : X.N[i]? = some x := by rfl) (hx : Loc X.env.scope x := by first | exact .inl rfl | exact .inr rfl) (hf : X.fn x = true ∨ X.env.scope.names.lookup x = some .local := by first | exact .inl rfl | exact .inr rfl) :
    FG X (.Name x pos) [i] (tName i) := by
  have h := pg_name (pos := pos) hN hi hx hf
  refine ⟨fun pins s σ H v u Q I r hw => h.run pins s σ H v u Q I r ?_⟩
  obtain ⟨Γ, os, env, d, env', A, rd, et, q⟩ := hw
  cases et
  exact q _ _ (A.set_val rd) (fun vs hv => wipe_set (hv i List.mem_cons_self)) (fun a h => h.set_none) fun j hj => List.getElem?_set_ne fun z => hj (by rw [z]; exact List.mem_cons_self)
theorem fgs_nil : FGs X [] [] tsNil := by
  refine ⟨fun pins s σ H vs us Q I r hw => pgs_nil.run pins s σ H vs us Q I r ?_⟩
  obtain ⟨Γ, os, env, ds, env', A, rd, et, q⟩ := hw
  cases ds with
  | cons d ds => cases et
  | nil =>
    cases et
    exact ⟨rd, q _ _ A (fun _ _ => rfl) (fun _ h => h) fun _ _ => rfl⟩
theorem fgs_cons {es : List Expr} {ts : List D → En → Option En} (h1 : FG X tg is t) (h2 : FGs X es js ts)
    (hs : (assignEach (tg :: es) X.env).map (·.2) = assign tg X.env :: (assignEach es X.env).map (·.2) := by rfl) : FGs X (tg :: es) (is ++ js) (tsCons t ts) := by
  have h := pgs_cons h1 h2 hs
  refine ⟨fun pins s σ H vs us Q I r hw => h.run pins s σ H vs us Q I r ?_⟩
  obtain ⟨Γ, os, env, ds, env', A, rd, et, q⟩ := hw
  cases ds with
  | nil => cases et
  | cons d ds =>
    obtain ⟨v, r', rfl, h3, h4⟩ := rd
    have et : (t d env).bind (ts ds) = some env' := et
    cases e1 : t d env with
    | none => rw [e1] at et; cases et
    | some env1 =>
      rw [e1] at et
      refine ⟨v, r', rfl, Γ, os, env, d, env1, A, h3, e1, fun os1 σ1 A1 w1 m1 k1 => ⟨Γ, os1, env1, ds, env', A1, ?_, et, fun os2 σ2 A2 w2 m2 k2 => q os2 σ2 A2 (fun vs hv => ?_) (fun a h => m1 a (m2 a h)) fun j hj => (k2 j fun z => hj (List.mem_append_right _ z)).trans (k1 j fun z => hj (List.mem_append_left _ z))⟩⟩
      · exact Reps.mono (Same.hid2 (Same.refl H) fun _ _ _ h q => h (m1 _ q)) _ _ h4
      · rw [w2 vs fun i hi => hv i (List.mem_append_right _ hi), w1 vs fun i hi => hv i (List.mem_append_left _ hi)]
theorem pg_or {t1 t2 : TG} (h1 : PG X tg t1) (h2 : PG X tg t2) : PG X tg (fun v σ H Q => t1 v σ H Q ∨ t2 v σ H Q) := by
  refine ⟨fun pins s σ H v u Q I r hw => ?_⟩
  rcases hw with hw | hw
  · exact h1.run pins s σ H v u Q I r hw
  · exact h2.run pins s σ H v u Q I r hw
theorem fg_tup {es : List Expr} {k n : Nat} {ts : List D → En → Option En} (hc : X.calm = true) (h : FGs X es is ts)
    (hn : (assignEach es X.env).length = n := by rfl) (hst : (assignEach es X.env).findIdx? (·.1) = none := by rfl) : FG X (.Tuple es k pos) is (tTup n ts) := by
  have h := pg_or (pg_tup (k := k) (pos := pos) hc h hn hst) (pg_lst (k := k) (pos := pos) hc h hn hst)
  refine ⟨fun pins s σ H v u Q I r hw => h.run pins s σ H v u Q I r ?_⟩
  obtain ⟨Γ, os, env, d, env', A, rd, et, q⟩ := hw
  cases d <;> first | (cases et; done) | skip
  · rename_i ds
    obtain ⟨a, vs, rfl, h1, h2⟩ := rd
    have et : (if ds.length = n then ts ds env else none) = some env' := et
    split at et
    · exact .inl ⟨a, vs, rfl, Same.seqT (hid_same _ H) h1, by rw [h2.length]; assumption, Γ, os, env, ds, env', A, h2, et, q⟩
    · cases et
  · rename_i ds
    obtain ⟨a, vs, rfl, h1, h2⟩ := rd
    have et : (if ds.length = n then ts ds env else none) = some env' := et
    split at et
    · exact .inr ⟨a, vs, rfl, (Same.sl (hid_same _ H) h1), by rw [h2.length]; assumption, Γ, os, env, ds, env', A, h2, et, q⟩
    · cases et
theorem fs_asg (he : FE X W e g) (hg : FG X tg is t) (hs : swapsWithSole [tg] e pos.line X.env = pure false := by rfl) (hw : swappedStores [tg] e X.env = pure none := by rfl) (h1 : (assignEach [tg] X.env).map (·.2) = [assign tg X.env] := by rfl) : FS X W (.Assign [tg] e pos) (sAsg t g) := by
  refine PS.imp (ps_asg he hg hs hw h1) fun Dn σ H h => ?_
  obtain ⟨Γ, os, env, A, h⟩ := h
  refine ⟨Γ, os, env, A, WS.expr A h fun d H' _ s h v r => ?_⟩
  cases et : t d env with
  | none =>
    rw [et] at h
    exact h.elim
  | some env' =>
    rw [et] at h
    exact ⟨Γ, os, env, d, env', A.mono s, r, et, fun os' σ' A' _ _ _ => h os' σ' H' A'⟩
end
end AF

namespace AF
open PySem PySem.Spec PyProof.Rows L2

/-! ### what is walked -/
/-- J gives the ds one by one as long as what stands in G stands -/
def IsIt (K : PySem.W.Frag) (G : Hp) (J : It) (ds : List D) : Prop := ∃ Gp Y, Walk J ds.length Gp Y ∧ (∀ H, Same G H → Gp H) ∧
  ∀ i d H x H2 P, ds[i]? = some d → Y i H x H2 → Hides P H → Same G (hid P H) → Same H H2 ∧ Rep K (hid P H2) d x
def tGI (K : PySem.W.Frag) (mg : Str → Option Value) (W : WX) (g : GL) : TI := fun σ H R => ∃ Γ os env, Agree K Γ os σ H env ∧ WR K mg (Hd Γ os) W σ H (g env) (fun _ ds H' => ∀ J, IsIt K (hid (Hd Γ os) H') J ds → R J H')
abbrev FI (X : Cx) (W : WX) (tg iter : Expr) (g : GL) : Prop := PI X tg iter (tGI X.K X.mg W g)
theorem PI.imp {X : Cx} {tg iter : Expr} {t t' : TI} (h : PI X tg iter t) (i : ∀ σ H R, t' σ H R → t σ H R) : PI X tg iter t' := ⟨fun pins s σ H R I w => h.run pins s σ H R I (i _ _ _ w)⟩
section
variable {K : PySem.W.Frag} {G : Hp}
theorem isIt_list {a : Addr} {vs : List V} {ds : List D} (h : SqL K G a vs) (r : Reps K G ds vs) : IsIt K G (Itl K a) ds := by
  refine ⟨_, _, by rw [← r.length]; exact walk_list, fun H s => (Same.sl s h), fun i d H x H2 P e y hP s => ?_⟩
  obtain ⟨rfl, ex⟩ := y
  obtain ⟨d', e', hd⟩ := r.get ex
  rw [e] at e'
  cases e'
  exact ⟨Same.refl _, Rep.mono s d x hd⟩
theorem isIt_tup {a : Addr} {vs : List V} {ds : List D} (h : TpL K G a vs) (r : Reps K G ds vs) : IsIt K G (Itt K a) ds := by
  refine ⟨_, _, by rw [← r.length]; exact walk_tup, fun H s => Same.seqT s h, fun i d H x H2 P e y hP s => ?_⟩
  obtain ⟨rfl, ex⟩ := y
  obtain ⟨d', e', hd⟩ := r.get ex
  rw [e] at e'
  cases e'
  exact ⟨Same.refl _, Rep.mono s d x hd⟩
def signs (s : List Nat) : List D := s.map fun c => .str [c]
theorem isIt_str {s : List Nat} (h : s.all (· < 1114112) = true) : IsIt K G (Its ⟨s.toArray⟩) (signs s) := by
  have l : (signs s).length = (⟨s.toArray⟩ : Str).cps.size := by simp [signs]
  refine ⟨_, _, by rw [l]; exact walk_str, fun H s => trivial, fun i d H x H2 P e y hP s' => ?_⟩
  obtain ⟨rfl, c, ec, rfl⟩ := y
  have ec' : s[i]? = some c := by simpa using ec
  have e2 : (signs s)[i]? = some (.str [c]) := by simp [signs, ec']
  rw [e] at e2
  cases e2
  refine ⟨Same.refl _, rfl, by show 1 ≤ sizeLine; decide, ?_⟩
  have := List.all_eq_true.mp h c (List.mem_of_getElem? ec')
  simpa using this
def rangeD (lo : Int) (n : Nat) : List D := (List.range n).map fun (i : Nat) => D.int (lo + i)
theorem isIt_range {lo : Int} {n : Nat} : IsIt K G (Itr lo n) (rangeD lo n) := by
  have l : (rangeD lo n).length = n := by simp [rangeD]
  refine ⟨_, _, by rw [l]; exact walk_range, fun H s => trivial, fun i d H x H2 P e y hP s' => ?_⟩
  obtain ⟨rfl, rfl⟩ := y
  have hi : i < n := by
    have := (List.getElem?_eq_some_iff.mp e).1
    omega
  have e2 : (rangeD lo n)[i]? = some (.int (lo + i)) := by simp [rangeD, hi]
  rw [e] at e2
  cases e2
  exact ⟨Same.refl _, rfl⟩
def rangeC (lo c : Int) (n : Nat) : List D := (List.range n).map fun (i : Nat) => D.int (lo + i * c)
theorem isIt_rangeC {lo c : Int} {n : Nat} : IsIt K G (Itc lo c n) (rangeC lo c n) := by
  have l : (rangeC lo c n).length = n := by simp [rangeC]
  refine ⟨_, _, by rw [l]; exact walk_rangeC, fun H s => trivial, fun i d H x H2 P e y hP s' => ?_⟩
  obtain ⟨rfl, rfl⟩ := y
  have hi : i < n := by
    have := (List.getElem?_eq_some_iff.mp e).1
    omega
  have e2 : (rangeC lo c n)[i]? = some (.int (lo + i * c)) := by simp [rangeC, hi]
  rw [e] at e2
  cases e2
  exact ⟨Same.refl _, rfl⟩
end
/-- a value's items -/
def items : D → Option (List D)
  | .lst ds => some ds
  | .tup ds => some ds
  | .str s => some (signs s)
  | _ => none
def iAny (g : GE) : GL := fun env => (g env).bind fun d => Res.of (items d)
def iAnyT (K : PySem.W.Frag) (t : TE) : TI := fun σ H R => t σ H fun x H1 => (∃ a, x = .ref a ∧ (∃ xs, SqL K H1 a xs) ∧ R (Itl K a) H1) ∨ (∃ a, x = .ref a ∧ (∃ xs, SqT K H1 a xs) ∧ R (Itt K a) H1) ∨ (∃ z, x = .str z ∧ R (Its z) H1)
theorem pi_any {X : Cx} {tg e : Expr} {te : TE} (he : PE X e te) : PI X tg e (iAnyT X.K te) := by
  refine ⟨fun pins s σ H R I h => ?_⟩
  refine thn (he.run pins s σ H _ I h) fun v s1 ⟨x, H1, I1, r1, q1⟩ => ?_
  rcases q1 with ⟨a, e, ⟨xs, hq⟩, q⟩ | ⟨a, e, ⟨xs, hq⟩, q⟩ | ⟨z, ex, q⟩
  · subst e
    cases r1
    obtain ⟨its, rv, p, hz⟩ := I1.list hq
    refine wpAny_pyIter_list p.isList ?_
    refine ⟨s1.heap.objs.size, [s1.heap.objs.size], _, _, H1, rfl, I1.kept (t' := s1.toks) fun b o e => Heap.get?_push_of_some _ e, turn_list a _, ⟨_, Heap.get?_push_size _ rfl, rfl, rfl⟩, fun b hb => ?_, q⟩
    have e : b = s1.heap.objs.size := by simpa using hb
    subst e
    exact I1.fpOk (Nat.le_refl _) (I1.hok.fresh (Nat.le_refl _))
  · subst e
    cases r1
    obtain ⟨its, rv, p, hz⟩ := I1.tuple hq
    refine wpAny_pyIter_tuple (show s1.heap.IsTuple a its.toArray from p) ?_
    refine ⟨s1.heap.objs.size, [s1.heap.objs.size], _, _, H1, rfl, I1.kept (t' := s1.toks) fun b o e => Heap.get?_push_of_some _ e, turn_tuple a _, ⟨_, Heap.get?_push_size _ rfl, rfl, rfl⟩, fun b hb => ?_, q⟩
    have e : b = s1.heap.objs.size := by simpa using hb
    subst e
    exact I1.fpOk (Nat.le_refl _) (I1.hok.fresh (Nat.le_refl _))
  · subst ex
    obtain ⟨t, rfl⟩ := r1
    cases ha : z.cps.all (· < 128)
    · exact wpAny_pyIter_wide ha (pi_one (tk := s1.toks) I1 _ (turn_str _ z t "str_iterator" (.inr rfl)) ⟨_, Heap.get?_push_size _ rfl, rfl, rfl⟩ q)
    · exact wpAny_pyIter_ascii ha (pi_one (tk := s1.toks) I1 _ (turn_str _ z t "str_ascii_iterator" (.inl rfl)) ⟨_, Heap.get?_push_size _ rfl, rfl, rfl⟩ q)
section
variable {X : Cx} {W : WX} {tg e : Expr} {g : GE} {pos : Pos}
theorem fi_any (he : FE X W e g) : FI X W tg e (iAny g) := by
  refine PI.imp (pi_any he) fun σ H R h => ?_
  obtain ⟨Γ, os, env, A, h⟩ := h
  have hZ : Anti (fun (_ : Hp) (ds : List D) H' => ∀ J, IsIt X.K (hid (Hd Γ os) H') J ds → R J H') := fun _ _ _ _ _ h => h
  refine ⟨Γ, os, env, A, WR.bind hZ h fun d H1 _ s1 h1 v rv => ?_⟩
  obtain ⟨ds, ed, h2⟩ := WR.of h1
  have h2 := h2 H1 (Same.refl H1)
  cases d <;> first | (cases ed; done) | skip
  · cases ed
    obtain ⟨rfl, q1, q2⟩ := rv
    exact .inr (.inr ⟨_, rfl, h2 _ (isIt_str q2)⟩)
  · cases ed
    obtain ⟨a, vs, rfl, q1, q2⟩ := rv
    exact .inr (.inl ⟨a, rfl, ⟨vs, Same.seqT (hid_same _ H1) q1⟩, h2 _ (isIt_tup q1 q2)⟩)
  · cases ed
    obtain ⟨a, vs, rfl, q1, q2⟩ := rv
    exact .inl ⟨a, rfl, ⟨vs, (Same.sl (hid_same _ H1) q1)⟩, h2 _ (isIt_list q1 q2)⟩
/-- ranges -/
def rg1 : List D → Option (List D)
  | [.int j] => if -1000000000 ≤ j ∧ j ≤ 1000000000 then some (rangeD 0 j.toNat) else none
  | _ => none
def rg2 : List D → Option (List D)
  | [.int i, .int j] => if -1000000000 ≤ i ∧ i ≤ 1000000000 ∧ -1000000000 ≤ j ∧ j ≤ 1000000000 then some (rangeD i (j - i).toNat) else none
  | _ => none
theorem reps1 {K : PySem.W.Frag} {H : Hp} {d : D} {vs : List V} (r : Reps K H [d] vs) : ∃ v, vs = [v] ∧ Rep K H d v := by
  obtain ⟨v, r', rfl, h, h'⟩ := r
  rw [show r' = [] from h']
  exact ⟨v, rfl, h⟩
theorem reps2 {K : PySem.W.Frag} {H : Hp} {d e : D} {vs : List V} (r : Reps K H [d, e] vs) : ∃ v u, vs = [v, u] ∧ Rep K H d v ∧ Rep K H e u := by
  obtain ⟨v, r', rfl, h, h'⟩ := r
  obtain ⟨u, rfl, h2⟩ := reps1 h'
  exact ⟨v, u, rfl, h, h2⟩
theorem reps3 {K : PySem.W.Frag} {H : Hp} {d e f : D} {vs : List V} (r : Reps K H [d, e, f] vs) : ∃ v u w, vs = [v, u, w] ∧ Rep K H d v ∧ Rep K H e u ∧ Rep K H f w := by
  obtain ⟨v, r', rfl, h, h'⟩ := r
  obtain ⟨u, w, rfl, h2, h3⟩ := reps2 h'
  exact ⟨v, u, w, rfl, h, h2, h3⟩
theorem fi_range1 {a : Expr} {ga : GL} {p : Pos} (hm : X.mg "range" = none) (ha : FA X W [a] ga) (hg : Gl X "range" := by rfl) (hs : starEach [a] X.env = [(false, eval a X.env)] := by rfl) : FI X W tg (.Call (.Name "range" p) [a] [] pos) (lF rg1 ga) := by
  refine PI.imp (pi_range1 hg hm ha hs) fun σ H R h => ?_
  obtain ⟨Γ, os, env, A, h⟩ := h
  have hZ : Anti (fun (_ : Hp) (ds : List D) H' => ∀ J, IsIt X.K (hid (Hd Γ os) H') J ds → R J H') := fun _ _ _ _ _ h => h
  refine ⟨Γ, os, env, A, WR.bind hZ h fun ds H1 _ s1 h1 vs rv => ?_⟩
  obtain ⟨zs, ed, h2⟩ := WR.of h1
  have h2 := h2 H1 (Same.refl H1)
  cases ds with
  | nil => cases ed
  | cons d ds =>
    cases ds with
    | cons e ds => cases d <;> cases ed
    | nil =>
      cases d <;> first | (cases ed; done) | skip
      rename_i j _
      have ed : (if -1000000000 ≤ j ∧ j ≤ 1000000000 then some (rangeD 0 j.toNat) else none) = some zs := ed
      split at ed
      · cases ed
        obtain ⟨v, rfl, r⟩ := reps1 rv
        cases r
        exact ⟨j, rfl, by omega, by omega, h2 _ isIt_range⟩
      · cases ed
theorem fi_range2 {a b : Expr} {ga : GL} {p : Pos} (hm : X.mg "range" = none) (ha : FA X W [a, b] ga) (hg : Gl X "range" := by rfl) (hs : starEach [a, b] X.env = [(false, eval a X.env), (false, eval b X.env)] := by rfl) (hs2 : starEach [b] X.env = [(false, eval b X.env)] := by rfl) : FI X W tg (.Call (.Name "range" p) [a, b] [] pos) (lF rg2 ga) := by
  refine PI.imp (pi_range2 hg hm ha hs hs2) fun σ H R h => ?_
  obtain ⟨Γ, os, env, A, h⟩ := h
  have hZ : Anti (fun (_ : Hp) (ds : List D) H' => ∀ J, IsIt X.K (hid (Hd Γ os) H') J ds → R J H') := fun _ _ _ _ _ h => h
  refine ⟨Γ, os, env, A, WR.bind hZ h fun ds H1 _ s1 h1 vs rv => ?_⟩
  obtain ⟨zs, ed, h2⟩ := WR.of h1
  have h2 := h2 H1 (Same.refl H1)
  unfold rg2 at ed
  split at ed
  · split at ed
    · cases ed
      obtain ⟨v, u, rfl, r1, r2⟩ := reps2 rv
      cases r1
      cases r2
      exact ⟨_, _, rfl, ⟨by omega, by omega, by omega, by omega⟩, h2 _ isIt_range⟩
    · cases ed
  · cases ed
/-- a range with a step -/
def rg3 : List D → Option (List D)
  | [.int i, .int j, .int c] => if -1000000000 ≤ i ∧ i ≤ 1000000000 ∧ -1000000000 ≤ j ∧ j ≤ 1000000000 ∧ c ≠ 0 ∧ -1000000 ≤ c ∧ c ≤ 1000000 ∧ Builtin.Range.small i j c = true ∧ 0 ≤ Builtin.Range.rangeSize i j c then some (rangeC i c (Builtin.Range.rangeSize i j c).toNat) else none
  | _ => none
theorem fi_range3 {a b c : Expr} {ga : GL} {p : Pos} (hm : X.mg "range" = none) (ha : FA X W [a, b, c] ga) (hg : Gl X "range" := by rfl) (hs : starEach [a, b, c] X.env = (false, eval a X.env) :: starEach [b, c] X.env := by rfl) (hpl : (backTo pos (starEach [b, c] X.env)).any (·.1) = false := by rfl) : FI X W tg (.Call (.Name "range" p) [a, b, c] [] pos) (lF rg3 ga) := by
  refine PI.imp (pi_range3 hg hm ha hs hpl) fun σ H R h => ?_
  obtain ⟨Γ, os, env, A, h⟩ := h
  have hZ : Anti (fun (_ : Hp) (ds : List D) H' => ∀ J, IsIt X.K (hid (Hd Γ os) H') J ds → R J H') := fun _ _ _ _ _ h => h
  refine ⟨Γ, os, env, A, WR.bind hZ h fun ds H1 _ s1 h1 vs rv => ?_⟩
  obtain ⟨zs, ed, h2⟩ := WR.of h1
  have h2 := h2 H1 (Same.refl H1)
  unfold rg3 at ed
  split at ed
  · split at ed
    · cases ed
      obtain ⟨v, u, w, rfl, r1, r2, r3⟩ := reps3 rv
      cases r1
      cases r2
      cases r3
      exact ⟨_, _, _, _, rfl, ⟨by omega, by omega, by simp_all, by rw [Int.toNat_of_nonneg (by omega)]⟩, h2 _ isIt_rangeC⟩
    · cases ed
  · cases ed
/-- zip, enumerate, reversed of lists (zip of tuples too) -/
def zipD (ds es : List D) : List D := List.zipWith (fun a b => .tup [a, b]) ds es
def enumD (n : Int) : List D → List D
  | [] => []
  | d :: ds => .tup [.int n, d] :: enumD (n + 1) ds
theorem enumD_len : ∀ (ds : List D) (n : Int), (enumD n ds).length = ds.length
  | [], _ => rfl
  | d :: ds, n => by simp [enumD, enumD_len ds]
theorem enumD_get : ∀ (ds : List D) (n : Int) (i : Nat), (enumD n ds)[i]? = ds[i]?.map fun d => .tup [.int (n + i), d]
  | [], _, _ => rfl
  | d :: ds, n, 0 => by simp [enumD]
  | d :: ds, n, i + 1 => by
    simp only [enumD, List.getElem?_cons_succ, enumD_get ds (n + 1) i]
    have : n + 1 + (i : Int) = n + ((i + 1 : Nat) : Int) := by omega
    rw [this]
def zipF : List D → Option (List D)
  | [.lst xs, .lst ys] => some (zipD xs ys)
  | [.tup xs, .tup ys] => some (zipD xs ys)
  | _ => none
def enumF : List D → Option (List D)
  | [.lst xs] => some (enumD 0 xs)
  | _ => none
def revF : List D → Option (List D)
  | [.lst xs] => some xs.reverse
  | [.tup xs] => some xs.reverse
  | _ => none
theorem rep_pair {K : PySem.W.Frag} {P : Addr → Prop} {H : Hp} {T : Addr} {x y : V} {d e : D} (hP : Hides P H) (n : H T = none) (h1 : Rep K (hid P H) d x) (h2 : Rep K (hid P H) e y) : Rep K (hid P (upd H T (.tup [x, y]))) (.tup [d, e]) (.ref T) :=
  tup_new hP n ⟨x, [y], rfl, h1, y, [], rfl, h2, rfl⟩
theorem fi_enum {a : Expr} {ga : GL} {p tpos : Pos} {elts : List Expr} {kk : Nat} (hm : X.mg "enumerate" = none) (ha : FA X W [a] ga) (hg : Gl X "enumerate" := by rfl) (hs : starEach [a] X.env = [(false, eval a X.env)] := by rfl) : FI X W (.Tuple elts kk tpos) (.Call (.Name "enumerate" p) [a] [] pos) (lF enumF ga) := by
  refine PI.imp (pi_enum hg hm ha hs) fun σ H R h => ?_
  obtain ⟨Γ, os, env, A, h⟩ := h
  have hZ : Anti (fun (_ : Hp) (ds : List D) H' => ∀ J, IsIt X.K (hid (Hd Γ os) H') J ds → R J H') := fun _ _ _ _ _ h => h
  refine ⟨Γ, os, env, A, WR.bind hZ h fun ds H1 _ s1 h1 vs rv => ?_⟩
  obtain ⟨zs, ed, h2⟩ := WR.of h1
  have h2 := h2 H1 (Same.refl H1)
  unfold enumF at ed
  split at ed
  · rename_i xs _
    cases ed
    obtain ⟨v, rfl, b, ws, rfl, q1, q2⟩ := reps1 rv
    refine ⟨b, ws, rfl, (Same.sl (hid_same _ H1) q1), h2 _ ⟨_, _, by rw [enumD_len, ← q2.length]; exact walk_enum, fun H s => (Same.sl s q1), fun i d H x H2 P e y hP s => ?_⟩⟩
    obtain ⟨T, x1, y1, rfl, nT, rfl, e1, e2⟩ := y
    cases e1
    obtain ⟨d', ed', hd⟩ := q2.get e2
    rw [enumD_get, ed'] at e
    cases e
    exact ⟨same_new nT, rep_pair hP nT (by show V.int (i : Int) = V.int (0 + (i : Int)); rw [Int.zero_add]) (Rep.mono s _ _ hd)⟩
  · cases ed
theorem fi_zip {a b : Expr} {ga : GL} {p tpos : Pos} {elts : List Expr} {kk : Nat} (hm : X.mg "zip" = none) (ha : FA X W [a, b] ga) (hg : Gl X "zip" := by rfl)
    (hs : starEach [a, b] X.env = (false, eval a X.env) :: starEach [b] X.env := by rfl) (hpl : (backTo pos (starEach [b] X.env)).any (·.1) = false := by rfl) : FI X W (.Tuple elts kk tpos) (.Call (.Name "zip" p) [a, b] [] pos) (lF zipF ga) := by
  refine PI.imp (RZ.pi_zipA hg hm ha hs hpl) fun σ H R h => ?_
  obtain ⟨Γ, os, env, A, h⟩ := h
  have hZ : Anti (fun (_ : Hp) (ds : List D) H' => ∀ J, IsIt X.K (hid (Hd Γ os) H') J ds → R J H') := fun _ _ _ _ _ h => h
  refine ⟨Γ, os, env, A, WR.bind hZ h fun ds H1 _ s1 h1 vs rv => ?_⟩
  obtain ⟨zs, ed, h2⟩ := WR.of h1
  have h2 := h2 H1 (Same.refl H1)
  unfold zipF at ed
  split at ed
  · rename_i xs ys _
    cases ed
    obtain ⟨v, u, rfl, ⟨a1, ws, rfl, q1, q2⟩, ⟨b1, us, rfl, q3, q4⟩⟩ := reps2 rv
    have l1 := q2.length
    have l2 := q4.length
    refine ⟨a1, b1, ws, us, rfl, .inl ⟨(Same.sl (hid_same _ H1) q1), (Same.sl (hid_same _ H1) q3), h2 _ ⟨_, _, walk_zip (by simp [zipD, l1, l2]), fun H s => ⟨(Same.sl s q1), (Same.sl s q3)⟩, fun i d H x H2 P e y hP s => ?_⟩⟩⟩
    obtain ⟨T, x1, y1, rfl, nT, rfl, e1, e2⟩ := y
    obtain ⟨d1, ed1, hd1⟩ := q2.get e1
    obtain ⟨d2, ed2, hd2⟩ := q4.get e2
    have e3 : (zipD xs ys)[i]? = some (.tup [d1, d2]) := by simp [zipD, List.getElem?_zipWith, ed1, ed2]
    rw [e] at e3
    cases e3
    exact ⟨same_new nT, rep_pair hP nT (Rep.mono s _ _ hd1) (Rep.mono s _ _ hd2)⟩
  · rename_i xs ys _
    cases ed
    obtain ⟨v, u, rfl, ⟨a1, ws, rfl, q1, q2⟩, ⟨b1, us, rfl, q3, q4⟩⟩ := reps2 rv
    have l1 := q2.length
    have l2 := q4.length
    have wt : Walk (RZ.ItzT X.K a1 b1) (zipD xs ys).length (fun H => SqT X.K H a1 ws ∧ SqT X.K H b1 us) (YPair (fun i => ws[i]?) (fun i => us[i]?)) := by
      have hn : (zipD xs ys).length = min ws.length us.length := by simp [zipD, l1, l2]
      rw [hn]
      refine ⟨fun i _ hi q => ?_, fun _ q => ⟨ws, us, q.1, q.2, by omega⟩, fun i H v H' _ q y => ?_⟩
      · have h1 : i < ws.length := by omega
        have h2 : i < us.length := by omega
        exact ⟨ws, us, ws[i], us[i], q.1, q.2, by simp [h1], by simp [h2]⟩
      · obtain ⟨T, x, z, h1, h2, h3, h4, h5⟩ := y
        exact ⟨T, x, z, h1, h2, h3, h4 ws q.1, h5 us q.2⟩
    refine ⟨a1, b1, ws, us, rfl, .inr ⟨Same.seqT (hid_same _ H1) q1, Same.seqT (hid_same _ H1) q3, h2 _ ⟨_, _, wt, fun H s => ⟨Same.seqT s q1, Same.seqT s q3⟩, fun i d H x H2 P e y hP s => ?_⟩⟩⟩
    obtain ⟨T, x1, y1, rfl, nT, rfl, e1, e2⟩ := y
    obtain ⟨d1, ed1, hd1⟩ := q2.get e1
    obtain ⟨d2, ed2, hd2⟩ := q4.get e2
    have e3 : (zipD xs ys)[i]? = some (.tup [d1, d2]) := by simp [zipD, List.getElem?_zipWith, ed1, ed2]
    rw [e] at e3
    cases e3
    exact ⟨same_new nT, rep_pair hP nT (Rep.mono s _ _ hd1) (Rep.mono s _ _ hd2)⟩
  · cases ed
end

/-! ### for -/
section
variable {X : Cx} {W : WX} {tg iter : Expr} {body : List Stmt} {gi : GL} {t : GT} {is : List Nat} {p : GS} {pos : Pos}
theorem fs_for (po : PassesOwn (model X.prog X.w) X.A X.env X.xe) (hc : X.calm = true) (hi : FI X W tg iter gi) (hg : FG X tg is t) (hb : FSs X W body p)
    (hs : ∀ x, foldedSetIterable iter X.env x = pure x := by intro _; rfl) : FS X W (.For tg iter body [] pos) (sFor gi t p) := by
  refine PS.imp (ps_for po hc hi hg hb hs) fun Dn σ H h => ?_
  obtain ⟨Γ, os, env, A, h⟩ := h
  refine ⟨Γ, os, env, A, WS.expr A h fun ds H1 _ s1 h1 J it => ?_⟩
  have A1 := A.mono s1
  obtain ⟨Gp, Y, wk, keep, yl⟩ := it
  obtain ⟨G1, eG1⟩ : ∃ G1, G1 = hid (Hd Γ os) H1 := ⟨_, rfl⟩
  rw [← eG1] at keep yl
  have sG : Same Γ.G0 G1 := eG1 ▸ A1.vis
  have A2 : Agree X.K ⟨Γ.H0, Γ.P0, G1, Γ.G1, Γ.L⟩ os σ H1 env := ⟨A1.len, A1.olen, A1.same, eG1 ▸ Same.refl _, A1.vis1, A1.p0, A1.fresh, A1.nd, A1.slot⟩
  refine for_it wk (fun i σ H => ∃ os' env', Agree X.K ⟨Γ.H0, Γ.P0, G1, Γ.G1, Γ.L⟩ os' σ H env' ∧ WS X.K X.mg W Γ (forL t p (ds.drop i) env') Dn) ⟨os, env, A2, by rw [List.drop_zero]; exact h1⟩
    (fun i σ H _ ⟨os', env', A', _⟩ => keep H (A'.vis.trans (hid_same _ H))) (fun i x σ H H' hi ⟨os', env', A', h⟩ y => ?_) (fun σ H ⟨os', env', A', h⟩ => ?_)
  · have ed : ds[i]? = some ds[i] := List.getElem?_eq_getElem hi
    have hd : ds.drop i = ds[i] :: ds.drop (i + 1) := List.drop_eq_getElem_cons hi
    obtain ⟨s2, rx⟩ := yl i _ H x H' (Hd ⟨Γ.H0, Γ.P0, G1, Γ.G1, Γ.L⟩ os') ed y A'.hides A'.vis
    rw [hd] at h
    cases et : t ds[i] env' with
    | none =>
      simp only [forL, et] at h
      exact h.elim
    | some e1 =>
      simp only [forL, et] at h
      refine ⟨_, os', env', ds[i], e1, A'.mono s2, rx, et, fun os2 σ2 A2 _ _ _ => ⟨⟨Γ.H0, Γ.P0, G1, Γ.G1, Γ.L⟩, os2, e1, A2, ?_⟩⟩
      cases eb : p e1 with
      | next e2 =>
        rw [eb] at h
        exact fun os3 σ3 H3 A3 => ⟨os3, e2, A3, h⟩
      | cont e2 =>
        rw [eb] at h
        exact fun os3 σ3 H3 A3 => ⟨os3, e2, A3, h⟩
      | brk e2 =>
        rw [eb] at h
        exact fun os3 σ3 H3 A3 => h os3 σ3 H3 (A3.weak rfl rfl sG)
      | ret d =>
        rw [eb] at h
        exact h
      | err er e2 =>
        rw [eb] at h
        exact fun os3 σ3 H3 c pd A3 q => h os3 σ3 H3 c pd (A3.weak rfl rfl sG) q
      | stuck =>
        rw [eb] at h
        exact h
  · rw [List.drop_length] at h
    exact h _ _ _ (A'.weak rfl rfl sG)
theorem fs_while {c : Expr} {gc : GB} (n : Nat) (po : PassesOwn (model X.prog X.w) X.A X.env X.xe) (hc : FT X W c gc) (hb : FSs X W body p) : FS X W (.While c body [] pos) (sWhile n gc p) := by
  refine PS.imp (ps_while po hc hb) fun Dn σ H h => ?_
  obtain ⟨Γ, os, env, A, h⟩ := h
  refine ⟨fun m σ H => ∃ os env, Agree X.K Γ os σ H env ∧ WS X.K X.mg W Γ (whileL gc p m env) Dn, ⟨n, os, env, A, h⟩, ?_⟩
  rintro m σ H ⟨os, env, A, h⟩
  cases m with
  | zero => exact h.elim
  | succ m =>
    refine ⟨Γ, os, env, A, WS.expr A h fun k H1 _ s1 h1 => ?_⟩
    cases k with
    | false =>
      show Dn.nx σ H1
      exact h1 _ _ _ (A.mono s1)
    | true =>
      show ∃ N : L2.St → Hp → Prop, (∀ σ' H', N σ' H' → ∃ m', m' < m + 1 ∧ _) ∧ _
      refine ⟨fun σ' H' => ∃ os' env', Agree X.K Γ os' σ' H' env' ∧ WS X.K X.mg W Γ (whileL gc p m env') Dn, fun σ' H' ⟨os', env', A', h'⟩ => ⟨m, Nat.lt_succ_self m, os', env', A', h'⟩, Γ, os, env, A.mono s1, ?_⟩
      revert h1
      cases p env with
      | next e2 => exact fun h1 os3 σ3 H3 A3 => ⟨os3, e2, A3, h1⟩
      | cont e2 => exact fun h1 os3 σ3 H3 A3 => ⟨os3, e2, A3, h1⟩
      | brk e2 => exact id
      | ret d => exact id
      | err er e2 => exact id
      | stuck => exact id
end
end AF

namespace AF
open PySem PySem.Spec PyProof.Rows L2

/-! ### the promise of a def by its mirror -/
def spF (K : PySem.W.Frag) (mg : Str → Option Value) (n : Nat) (m : List D → Res D) : Sp := fun vs H Q E => ∃ P ds, Hides P H ∧ Reps K (hid P H) ds vs ∧ ds.length = n ∧ WR K mg P (fun c pd _ H' => E c pd H') [] H (m ds) (zE K P Q)
structure Fk (P : Program) (w : World) (K : PySem.W.Frag) (mg : Str → Option Value) (base : Heap) (k : Nat) (x : Str) (n : Nat) (m : List D → Res D) : Prop where
  ex : ∃ f fd ps, FnOk P w K mg base (L2.CX P w) k f fd ps (spF K mg n m) ∧ mg x = some (.ref f) ∧ PySem.W.keepIn K (.ref f) = true ∧ Binds K fd ps []
  len : ∀ ds, ds.length ≠ n → m ds = .stuck
theorem Fk.mono {P : Program} {w : World} {K : PySem.W.Frag} {mg : Str → Option Value} {base : Heap} {j k : Nat} {x : Str} {n : Nat} {m : List D → Res D} (F : Fk P w K mg base j x n m) (h : j ≤ k) : Fk P w K mg base k x n m := by
  obtain ⟨f, fd, ps, F1, h1, h2, h3⟩ := F.ex
  exact ⟨⟨f, fd, ps, F1.mono h, h1, h2, h3⟩, F.len⟩
theorem WR.wish {K : PySem.W.Frag} {mg : Str → Option Value} {P : Addr → Prop} {W W' : WX} {σ σ' : L2.St} {H : Hp} {α : Type} {r : Res α} {Z : Hp → α → Hp → Prop} (h : WR K mg P W σ H r Z) (i : ∀ c pd H', W c pd σ H' → W' c pd σ' H') : WR K mg P W' σ' H r Z := by
  cases r with
  | ok a => exact h
  | err e => exact fun c pd H' s q => i _ _ _ (h c pd H' s q)
  | stuck => exact h
section
variable {X : Cx} {W : WX} {a : Expr} {es : List Expr} {g : GL} {pos p : Pos} {x : Str} {k n : Nat} {m : List D → Res D}
theorem fe_call (F : Fk X.prog X.w X.K X.mg X.base k x n m) (hr : Room k X.A) (tk : Takes X W) (ha : FA X W (a :: es) g) (hg : Gl X x := by rfl) (hdb : (x == ("__debug__" : Str)) = false := by decide)
    (he : starEach (a :: es) X.env = (false, eval a X.env) :: starEach es X.env := by rfl) (hpl : (backTo pos (starEach es X.env)).any (·.1) = false := by rfl) : FE X W (.Call (.Name x p) (a :: es) [] pos) (eCall m g) := by
  obtain ⟨f, fd, ps, F1, hm, hk, hb⟩ := F.ex
  refine PE.imp (pe_callSD (E := fun σ cls d H => W cls d σ H) F1 hr hg hm hk hb .nil (passAt tk) ha hdb he hpl) fun σ H Q h => ?_
  obtain ⟨Γ, os, env, A, h⟩ := h
  refine ⟨Γ, os, env, A, WR.bind anti_E h fun ds H1 _ s1 h1 vs rv => ?_⟩
  by_cases hl : ds.length = n
  · show spF X.K X.mg n m (vs ++ []) H1 Q _
    rw [List.append_nil]
    exact ⟨_, ds, A.hides.mono s1, rv, hl, WR.wish h1 fun c pd H' q => q⟩
  · rw [F.len ds hl] at h1
    exact h1.elim
theorem fe_call0 (F : Fk X.prog X.w X.K X.mg X.base k x 0 m) (hr : Room k X.A) (hx : ∀ e, m [] ≠ .err e) (hg : Gl X x := by rfl) (hdb : (x == ("__debug__" : Str)) = false := by decide) (hp : Passes (L2.CX X.prog X.w) X E0 := by exact passL) : FE X W (.Call (.Name x p) [] [] pos) (eCall m aNil) := by
  obtain ⟨f, fd, ps, F1, hm, hk, hb⟩ := F.ex
  refine PE.imp (pe_call0 F1 hr hg hm hk hb .nil hp hdb) fun σ H Q h => ?_
  obtain ⟨Γ, os, env, A, h⟩ := h
  have h : WR X.K X.mg (Hd Γ os) W σ H (m []) (zE X.K (Hd Γ os) Q) := h
  refine ⟨_, [], A.hides, rfl, rfl, ?_⟩
  cases e : m [] with
  | ok d => rw [e] at h; exact h
  | err er => exact absurd e (hx er)
  | stuck => rw [e] at h; exact h
end

/-! ### a def's body -/
def runF (n nn : Nat) (g : GS) : List D → Res D := fun ds => if ds.length = n then (match g (ds.map Sl.val ++ List.replicate (nn - n) .unk) with
  | .next _ => .ok .non
  | .ret d => .ok d
  | .err e _ => .err e
  | _ => .stuck) else .stuck
theorem runF_len {n nn : Nat} {g : GS} (ds : List D) (h : ds.length ≠ n) : runF n nn g ds = .stuck := if_neg h
theorem agree_start {K : PySem.W.Frag} {P : Addr → Prop} {H : Hp} {ds : List D} {vs : List V} {N : List Str} {n : Nat} (hP : Hides P H) (r : Reps K (hid P H) ds vs) (hn : ds.length = n) (hN : n ≤ N.length) :
    Agree K ⟨H, P, fun _ => none, fun _ => none, fun p => H p = none ∧ (fun _ => none : Hp) p = none⟩ (List.replicate N.length none) (L2.start N vs) H (ds.map Sl.val ++ List.replicate (N.length - n) .unk) := by
  have lv := r.length
  have e : Same (hid P H) (hid (Hd ⟨H, P, fun _ => none, fun _ => none, fun p => H p = none ∧ (fun _ => none : Hp) p = none⟩ (List.replicate N.length none)) H) := Same.hid2 (Same.refl H) fun a o h q z => by
    rcases z with z | z
    · exact q z
    · have := List.eq_of_mem_replicate z
      cases this
  refine ⟨?_, ?_, Same.refl H, nofun, nofun, hP, fun p h => ?_, fun i j p h1 h2 => ?_, fun i sl h => ?_⟩
  · simp [L2.start]
    omega
  · simp
    omega
  · have := List.eq_of_mem_replicate h
    cases this
  · have := List.eq_of_mem_replicate (List.mem_of_getElem? h1)
    cases this
  · by_cases hi : i < ds.length
    · rw [List.getElem?_append_left (by simpa using hi)] at h
      rw [List.getElem?_map, List.getElem?_eq_getElem hi] at h
      cases h
      obtain ⟨v, ev, hd⟩ := r.getD (List.getElem?_eq_getElem hi)
      refine ⟨some v, none, ?_, by rw [List.getElem?_replicate]; exact if_pos (by omega), rfl, v, rfl, Rep.mono e _ _ hd⟩
      unfold L2.start
      rw [List.getElem?_append_left (by simp; omega), List.getElem?_map, ev]
      rfl
    · rw [List.getElem?_append_right (by simp; omega)] at h
      obtain ⟨h1, h2⟩ := List.getElem?_eq_some_iff.mp h
      simp at h2
      subst h2
      simp at h1
      refine ⟨none, none, ?_, by rw [List.getElem?_replicate]; exact if_pos (by omega), rfl⟩
      unfold L2.start
      rw [List.getElem?_append_right (by simp; omega), List.getElem?_replicate]
      exact if_pos (by simp; omega)
section
variable {P : Program} {w : World} {K : PySem.W.Frag} {mg : Str → Option Value} {base : Heap}
theorem fn_of {x : Str} {st : Stmt} {f : Addr} {fd : FuncData} {N ps : List Str} {k n nn : Nat} {g : GS} (F : Fun K x x st f fd) (S : FnScope N ps (defScope st)) 
    (hps : ps.length = n := by rfl) (hnn : N.length = nn := by rfl) (hle : n ≤ nn := by decide)
    (body : ∀ (cdv : Value) (A : Around) (outer : List Env) (s : Shared) (H : Hp) (E : XK), Room k (A.deeper (envOfC x (defScope st) s.heap.objs.size f cdv)) →
      FSs (cxOf (L2.CX P w) P w K mg base N x (defScope st) f cdv A outer s H E) (fun c pd _ H' => E c pd H') (defBody st) g) : FnOk P w K mg base (L2.CX P w) (k + 1) f fd ps (spF K mg n (runF n nn g)) := by
  refine F.okX S (fun vs H Q E h => ?_) (fun cdv A outer s H vs Q E hr h => ⟨_, body cdv A outer s H E hr, ?_⟩)
  · obtain ⟨P, ds, _, r, e, _⟩ := h
    rw [r.length, e, hps]
  · obtain ⟨P', ds, hP, r, e, h⟩ := h
    refine ⟨_, _, _, agree_start hP r e (by omega), ?_⟩
    subst hnn
    unfold runF at h
    rw [if_pos e] at h
    revert h
    cases g (ds.map Sl.val ++ List.replicate (N.length - n) .unk) with
    | next env' => exact fun h os σ H' A => WR.ok h A.same .non rfl
    | brk env' => exact fun h => h.elim
    | cont env' => exact fun h => h.elim
    | ret d => exact fun h v H' s r => WR.ok h s v r
    | stuck => exact fun h => h.elim
    | err er env' =>
      intro h os σ H' c pd A q
      refine h c pd H' A.same ?_
      have sm : Same (hid (Hd ⟨H, P', fun _ => none, fun _ => none, fun p => H p = none ∧ (fun _ => none : Hp) p = none⟩ os) H') (hid P' H') := Same.hid2 (Same.refl H') fun _ _ _ h q => h (.inl q)
      cases er with
      | plain y => exact q
      | one y f d =>
        obtain ⟨C, p, v, q1, q2, q3, q4, q5⟩ := q
        exact ⟨C, p, v, q1, q2, q3, q4, Rep.mono sm _ _ q5⟩
theorem fk_of {x : Str} {st : Stmt} {f : Addr} {fd : FuncData} {N ps : List Str} {k n nn : Nat} {g : GS} (F : Fun K x x st f fd) (S : FnScope N ps (defScope st)) (hm : mg x = some (.ref f))
    (hb : ∀ (kV doc pm : Value) (an : Option Addr) (cdv ct : Value) (us : List Value), us.length = ps.length → bindArgs (PySem.W.fnOf x x (defArgs st) (defBody st) (defScope st) .none kV doc pm an cdv ct) ⟨us, []⟩ = pure (ps.zip us))
    (hps : ps.length = n := by rfl) (hnn : N.length = nn := by rfl) (hle : n ≤ nn := by decide)
    (body : ∀ (cdv : Value) (A : Around) (outer : List Env) (s : Shared) (H : Hp) (E : XK), Room k (A.deeper (envOfC x (defScope st) s.heap.objs.size f cdv)) →
      FSs (cxOf (L2.CX P w) P w K mg base N x (defScope st) f cdv A outer s H E) (fun c pd _ H' => E c pd H') (defBody st) g) : Fk P w K mg base (k + 1) x n (runF n nn g) :=
  ⟨⟨f, fd, ps, fn_of F S hps hnn hle body, hm, F.kp, F.binds hb⟩, runF_len⟩
end

/-! ### errors -/
structure Exn (K : PySem.W.Frag) (mg : Str → Option Value) (x : String) (C : Addr) : Prop where
  g : mg (Str.ofString x) = some (.ref C)
  xc : PySem.W.excIn K C [.type "ValueError", .type "Exception", .type "BaseException", .type "object"] "ValueError.__new__" = true
  k : PySem.W.keepIn K (.ref C) = true
  b : PySem.W.subIn K (.ref C) (.type "BaseException") = some true
  t : PySem.W.typeIn K (.ref C) = some (.type "type")
def sRaise (e : Er) : GS := fun env => .err e env
def Er.cls : Er → String
  | .plain x => x
  | .one x _ _ => x
def sTry (cat : List (String × Bool)) (body hand : GS) : GS := fun env => match body env with
  | .err e env' => (match cat.lookup e.cls with
    | some true => (match hand env' with
      | .err _ _ => .stuck
      | r => r)
    | some false => .err e env'
    | none => .stuck)
  | r => r
abbrev W0 : WX := fun _ _ _ _ => False
section
variable {X : Cx} {W : WX} {pos p : Pos} {x : String} {C : Addr}
/-- raise X('..') -/
theorem fs_raise {m : Str} {j : Nat} {p2 pos2 : Pos} (T : Exn X.K X.mg x C) (hc : X.calm = true) (tk : Takes X W) (hg : Gl X (Str.ofString x) := by rfl) (hdb : (Str.ofString x == ("__debug__" : Str)) = false := by decide) :
    FS X W (.Raise (some (.Call (.Name (Str.ofString x) p) [.Constant (.str m) j p2] [] pos2)) none pos) (sRaise (.plain x)) := by
  refine PS.imp (ps_raise hc tk (pmk_own PySem.F.excBase_ValueError T.xc T.g T.k (raises_own T.b T.t) hg hdb)) fun Dn σ H h => ?_
  obtain ⟨Γ, os, env, A, h⟩ := h
  exact h os σ H _ _ A ⟨C, T.g, rfl, rfl⟩
theorem lookup_mem {x : String} {b : Bool} : ∀ {l : List (String × Bool)}, l.lookup x = some b → (x, b) ∈ l
  | [], h => by cases h
  | (y, c) :: l, h => by
    rw [List.lookup_cons] at h
    by_cases e : x = y
    · subst e
      simp at h
      subst h
      exact List.mem_cons_self
    · have : (x == y) = false := by simpa using e
      rw [this] at h
      exact List.mem_cons_of_mem _ (lookup_mem h)
/-- try: .. except y: .. -/
theorem fs_try {y : Str} {c : Value} {body suite : List Stmt} {b₀ : Stmt} {np pos' : Pos} {gb gh : GS} {cat : List (String × Bool)} (hc : Names X y c) (tk : Takes X W)
    (hcat : ∀ q ∈ cat, ∃ C, X.mg (Str.ofString q.1) = some (.ref C) ∧ PySem.W.exmOne X.K (.ref C) c = some q.2)
    (hb : ∀ (W' : WX) (pn : List (Addr × Obj)) (xe : Value → Shared → Prop), Takes (X.tr pn xe) W' → PassesOwn (model X.prog X.w) X.A X.env xe → FSs (X.tr pn xe) W' body gb)
    (hh : ∀ (a : Addr) (pn : List (Addr × Obj)), FSs (X.suite a pn) W0 (b₀ :: suite) gh) (hs : X.stack = X.env :: X.outer := by rfl) (hf : X.env.frame = some X.env.locals := by rfl) :
    FS X W (.Try body [.ExceptHandler (some (.Name y np)) none (b₀ :: suite) pos'] [] [] pos) (sTry cat gb gh) := by
  refine PS.imp (ps_try_only (Wout := W) (tb := fun W' => tGS X.K X.mg W' gb) (ts := fun _ _ _ => tGS X.K X.mg W0 gh) hs hf hc tk (fun W' pn xe tk' po => hb W' pn xe tk' po) (fun a oe cls d pn _ _ => hh a ((a, oe) :: pn))) fun Dn σ H h => ?_
  obtain ⟨Γ, os, env, A, h⟩ := h
  refine ⟨Γ, os, env, A, ?_⟩
  unfold sTry at h
  revert h
  cases gb env with
  | next e => exact id
  | brk e => exact id
  | cont e => exact id
  | ret d => exact id
  | stuck => exact id
  | err e env' =>
    intro h os' σ' H' cls pd A' q
    have eC : ∃ C, X.mg (Str.ofString e.cls) = some (.ref C) ∧ cls = .ref C := by
      cases e with
      | plain y =>
        obtain ⟨C, q1, q2, _⟩ := q
        exact ⟨C, q1, q2⟩
      | one y f d =>
        obtain ⟨C, p, v, q1, q2, _⟩ := q
        exact ⟨C, q1, q2⟩
    obtain ⟨C, q1, rfl⟩ := eC
    cases ek : cat.lookup e.cls with
    | none =>
      simp only [ek] at h
      exact h.elim
    | some b =>
      obtain ⟨C', m1, m2⟩ := hcat _ (lookup_mem ek)
      simp only [] at m1
      rw [q1] at m1
      cases m1
      refine ⟨b, m2, fun hb a na => ?_, fun hb => ?_⟩
      · subst hb
        simp only [ek] at h
        refine ⟨Γ, os', env', A', ?_⟩
        revert h
        cases gh env' with
        | next e => exact id
        | brk e => exact id
        | cont e => exact id
        | ret d => exact id
        | stuck => exact id
        | err e2 e3 => exact fun h => h.elim
      · subst hb
        simp only [ek] at h
        exact h os' σ' H' _ pd A' q
end
end AF

namespace AF
open PySem PySem.Spec PyProof.Rows L2
def wipeE (env : En) : List Nat → En
  | [] => env
  | v :: vs => (wipeE env vs).set v .unk
def noOwn (env : En) (vs : List Nat) : Bool := vs.all fun v => match env[v]? with
  | some (.own _) => false
  | _ => true
section
variable {K : PySem.W.Frag} {Γ : Ga} {os : List (Option Addr)} {σ : L2.St} {H H1 : Hp} {env : En}
theorem set_same {α : Type} {l : List α} {i : Nat} {a : α} (h : ∀ b, l[i]? = some b → b = a) : l.set i a = l := by
  apply List.ext_getElem?
  intro j
  by_cases e : i = j
  · subst e
    by_cases hi : i < l.length
    · rw [List.getElem?_set_self hi, List.getElem?_eq_getElem hi, h _ (List.getElem?_eq_getElem hi)]
    · rw [List.getElem?_eq_none (by simpa using hi), List.getElem?_eq_none (by omega)]
  · rw [List.getElem?_set_ne e]
theorem Agree.wipe (A : Agree K Γ os σ H env) : ∀ vs, noOwn env vs = true → Agree K Γ os (wipe σ vs) H (wipeE env vs)
  | [], _ => A
  | v :: vs, h => by
    have h' : ((match env[v]? with | some (.own _) => false | _ => true) && noOwn env vs) = true := h
    rw [Bool.and_eq_true] at h'
    have q := (A.wipe vs h'.2).set_unk v none
    have e : os.set v none = os := set_same fun b eb => by
      have hv : v < env.length := by
        have := (List.getElem?_eq_some_iff.mp eb).1
        rw [A.olen] at this
        exact this
      obtain ⟨sv, o, h1, h2, h3⟩ := A.slot v _ (List.getElem?_eq_getElem hv)
      rw [eb] at h2
      cases h2
      have h'1 := h'.1
      rw [List.getElem?_eq_getElem hv] at h'1
      revert h3 h'1
      cases env[v] with
      | unk => exact fun h _ => h
      | val d => exact fun h _ => h.1
      | pin d => exact fun h _ => h.1
      | lent ds => exact fun h _ => h.1
      | own ds => exact fun _ h => by cases h
    rw [e] at q
    exact q
theorem hid_neg {P : Addr → Prop} {a : Addr} (h : ¬ P a) : hid P H a = H a := by
  unfold hid
  exact if_neg h
theorem Agree.inner (A : Agree K Γ os σ H1 env) (s : Same H1 H) {Dl : Addr} (n : H1 Dl = none) (e : H Dl ≠ none) : ∃ Γ', Agree K Γ' os σ H env ∧ (∀ a, Hd Γ' os a ↔ Hd Γ os a ∨ a = Dl) := by
  have nD : some Dl ∉ os := fun h => by
    obtain ⟨vs, q⟩ := A.ownAt h
    rw [n] at q
    cases q
  have iff : ∀ a, Hd ⟨hid (fun a => some a ∈ os) H, fun a => Γ.P0 a ∨ a = Dl, fun _ => none, Γ.G1, Γ.L⟩ os a ↔ Hd Γ os a ∨ a = Dl := fun a => by
    unfold Hd
    constructor
    · rintro ((h | h) | h)
      · exact .inl (.inl h)
      · exact .inr h
      · exact .inl (.inr h)
    · rintro ((h | h) | h)
      · exact .inl (.inl h)
      · exact .inr h
      · exact .inl (.inr h)
  have sm : Same (hid (Hd Γ os) H1) (hid (Hd ⟨hid (fun a => some a ∈ os) H, fun a => Γ.P0 a ∨ a = Dl, fun _ => none, Γ.G1, Γ.L⟩ os) H) := Same.hid2 s fun a o h q z => by
    rcases (iff a).mp z with z | z
    · exact q z
    · exact ne_of_none h n z
  refine ⟨⟨hid (fun a => some a ∈ os) H, fun a => Γ.P0 a ∨ a = Dl, fun _ => none, Γ.G1, Γ.L⟩, ⟨A.len, A.olen, hid_same _ H, nofun, A.vis1.trans sm, fun a h q => ?_, fun p h => ?_, A.nd, fun i sl h => ?_⟩, iff⟩
  · rcases h with h | h
    · have h1 : ¬ some a ∈ os := fun z => A.notP0 z h
      have h2 := ((A.p0.mono A.same).mono s) a h
      exact h2 ((hid_neg (P := fun a => some a ∈ os) h1).symm.trans q)
    · subst h
      exact e ((hid_neg (P := fun a => some a ∈ os) nD).symm.trans q)
  · unfold hid
    exact if_pos h
  · obtain ⟨sv, o, h1, h2, h3⟩ := A.slot i sl h
    exact ⟨sv, o, h1, h2, h3.mono sm s⟩
theorem wipe_wipe : ∀ vs : List Nat, wipe (wipe σ vs) vs = wipe σ vs := by
  have gen : ∀ (ws vs : List Nat), (∀ w ∈ ws, w ∈ vs) → wipe (wipe σ ws) vs = wipe σ vs := by
    intro ws
    induction ws with
    | nil => intro vs _; rfl
    | cons w ws ih =>
      intro vs h
      show wipe ((wipe σ ws).set w none) vs = wipe σ vs
      rw [wipe_set (h w List.mem_cons_self)]
      exact ih vs fun x hx => h x (List.mem_cons_of_mem _ hx)
  exact fun vs => gen vs vs fun _ h => h
end
/-- the items that a comprehension makes -/
def compM (t : GT) (c : GB) (e : GE) (env : En) : List D → Res (List D)
  | [] => .ok []
  | d :: ds => match t d env with
    | none => .stuck
    | some e1 => (c e1).bind fun k => if k then (e e1).bind fun y => (compM t c e env ds).bind fun ys => .ok (y :: ys) else compM t c e env ds
def okOnly {α : Type} : Res α → Res α
  | .ok a => .ok a
  | _ => .stuck
def lComp (it : GL) (vs : List Nat) (t : GT) (c : GB) (e : GE) : GL := fun env => (it env).bind fun ds => if ds.length ≤ sizeLine ∧ noOwn env vs = true then okOnly (compM t c e (wipeE env vs) ds) else .stuck
def bYes : GB := fun _ => .ok true
theorem compM_cons {t : GT} {c : GB} {e : GE} {env : En} {d : D} {ds ys : List D} (h : compM t c e env (d :: ds) = .ok ys) :
    ∃ e1 k, t d env = some e1 ∧ c e1 = .ok k ∧ ((k = true ∧ ∃ y zs, e e1 = .ok y ∧ compM t c e env ds = .ok zs ∧ ys = y :: zs) ∨ (k = false ∧ compM t c e env ds = .ok ys)) := by
  unfold compM at h
  cases et : t d env with
  | none => rw [et] at h; cases h
  | some e1 =>
    rw [et] at h
    dsimp only at h
    cases ec : c e1 with
    | err x => rw [ec] at h; cases h
    | stuck => rw [ec] at h; cases h
    | ok k =>
      rw [ec] at h
      refine ⟨e1, k, rfl, ec, ?_⟩
      cases k with
      | false => exact .inr ⟨rfl, h⟩
      | true =>
        have h : ((e e1).bind fun y => (compM t c e env ds).bind fun ys => .ok (y :: ys)) = .ok ys := h
        cases ee : e e1 with
        | err x => rw [ee] at h; cases h
        | stuck => rw [ee] at h; cases h
        | ok y =>
          rw [ee] at h
          cases em : compM t c e env ds with
          | err x => rw [em] at h; cases h
          | stuck => rw [em] at h; cases h
          | ok zs =>
            rw [em] at h
            cases h
            exact .inl ⟨rfl, y, zs, rfl, rfl, rfl⟩
theorem tLc_of {K : PySem.W.Frag} {mg : Str → Option Value} {W : WX} {it : GL} {vs is : List Nat} {t : GT} {c : GB} {e : GE} (hv : ∀ i ∈ is, i ∈ vs) {σ : L2.St} {H : Hp} {Q : VK} (h : tGL K mg W (lComp it vs t c e) σ H Q) :
    tLc (tGI K mg W it) (tGT K is t) (tGB K mg W0 c) (tG K mg W0 e) vs σ H Q := by
  obtain ⟨Γ, os, env, A, h⟩ := h
  refine ⟨Γ, os, env, A, WR.bind anti_L h fun ds H1 _ s1 h1 J itJ Dl nD => ?_⟩
  have A1 := A.mono s1
  have hc : ds.length ≤ sizeLine ∧ noOwn env vs = true := by
    by_cases hc : ds.length ≤ sizeLine ∧ noOwn env vs = true
    · exact hc
    · rw [if_neg hc] at h1
      exact h1.elim
  rw [if_pos hc] at h1
  obtain ⟨hz, hno⟩ := hc
  obtain ⟨ys, ey, wish⟩ : ∃ ys, compM t c e (wipeE env vs) ds = .ok ys ∧ ∀ H', Same H1 H' → zL K (Hd Γ os) Q H1 ys H' := by
    revert h1
    cases compM t c e (wipeE env vs) ds with
    | ok ys => exact fun h1 => ⟨ys, rfl, h1⟩
    | err x => exact fun h1 => h1.elim
    | stuck => exact fun h1 => h1.elim
  obtain ⟨Gp, Y, wk, keep, yl⟩ := itJ
  refine lc_it wk (fun i Hh => ∃ accV accD zs, Same H1 Hh ∧ Hh Dl = some (.lst accV) ∧ Reps K (hid (fun a => Hd Γ os a ∨ a = Dl) Hh) accD accV ∧ accD.length ≤ i ∧ compM t c e (wipeE env vs) (ds.drop i) = .ok zs ∧ accD ++ zs = ys)
    ⟨[], [], ys, same_new nD, upd_same, rfl, Nat.zero_le _, by rw [List.drop_zero]; exact ey, rfl⟩ (fun i Hh _ ⟨_, _, _, s, _⟩ => keep Hh ((hid_same _ H1).trans s)) (fun i x Hh H' hi hp y => ?_) (fun Hh hp => ?_)
  · obtain ⟨accV, accD, zs, s, eD, racc, hl, em, ez⟩ := hp
    have ed : ds[i]? = some ds[i] := List.getElem?_eq_getElem hi
    have hd : ds.drop i = ds[i] :: ds.drop (i + 1) := List.drop_eq_getElem_cons hi
    rw [hd] at em
    have hP : Hides (fun a => Hd Γ os a ∨ a = Dl) Hh := fun a q n => by
      rcases q with q | q
      · exact ((A1.mono s).hides) a q n
      · subst q
        rw [eD] at n
        cases n
    have vis : Same (hid (Hd Γ os) H1) (hid (fun a => Hd Γ os a ∨ a = Dl) Hh) := Same.hid2 s fun a o h q z => z.elim q (ne_of_none h nD)
    obtain ⟨s2, rx⟩ := yl i _ Hh x H' _ ed y hP vis
    obtain ⟨e1, k, et, ec, hk⟩ := compM_cons em
    obtain ⟨Γ', A', iff⟩ := A1.inner (s.trans s2) nD (by rw [s2 _ _ eD]; exact nofun)
    have A2 := A'.wipe vs hno
    have eP : Hd Γ' os = fun a => Hd Γ os a ∨ a = Dl := funext fun a => propext (iff a)
    have rx' : Rep K (hid (Hd Γ' os) H') ds[i] x := by rw [eP]; exact rx
    refine ⟨Γ', os, wipeE env vs, ds[i], e1, A2, rx', et, fun os2 σ2 A3 w2 m2 k2 => ⟨by rw [w2 vs hv, wipe_wipe], Γ', os2, e1, A3, ?_⟩⟩
    have eP2 : Hd Γ' os2 = fun a => Hd Γ os a ∨ a = Dl := funext fun a => propext ⟨fun h => (iff a).mp (m2 a h), fun h => by
      rcases (iff a).mpr h with h | h
      · exact .inl h
      · obtain ⟨j, hj, ej⟩ := List.mem_iff_getElem.mp h
        have ej' : os[j]? = some (some a) := by rw [List.getElem?_eq_getElem hj, ej]
        have jn : j ∉ is := fun hjs => by
          have hjv := List.all_eq_true.mp hno j (hv j hjs)
          have hje : j < env.length := by
            rw [← A.olen]
            exact hj
          obtain ⟨sv, o, q1, q2, q3⟩ := A.slot j _ (List.getElem?_eq_getElem hje)
          rw [ej'] at q2
          cases q2
          rw [List.getElem?_eq_getElem hje] at hjv
          revert q3 hjv
          cases env[j] with
          | unk => exact fun _ q => by cases q
          | val d => exact fun _ q => by cases q.1
          | pin d => exact fun _ q => by cases q.1
          | lent ds => exact fun _ q => by cases q.1
          | own ds => exact fun q _ => by cases q
        exact .inr (List.mem_of_getElem? ((k2 j jn).trans ej'))⟩
    rw [ec]
    intro H3 s3
    have sH : Same H1 H3 := s.trans (s2.trans s3)
    have eD3 : H3 Dl = some (.lst accV) := s3 _ _ (s2 _ _ eD)
    have racc3 : Reps K (hid (fun a => Hd Γ os a ∨ a = Dl) H3) accD accV := Reps.mono (Same.hid (s2.trans s3)) _ _ racc
    rcases hk with ⟨rfl, y0, zs', ee, em', rfl⟩ | ⟨rfl, em'⟩
    · show tG K mg W0 e σ2 H3 _
      refine ⟨Γ', os2, e1, A3.mono s3, ?_⟩
      rw [ee]
      intro H4 s4 v rv
      rw [eP2] at rv
      have lr := racc.length
      refine ⟨accV, s4 _ _ eD3, by omega, accV ++ [v], accD ++ [y0], zs', fun a o h => ?_, upd_same, ?_, by simp; omega, em', by rw [List.append_assoc]; exact ez⟩
      · rw [upd_ne (ne_of_none h nD)]
        exact s4 _ _ (sH _ _ h)
      · have sm : Same (hid (fun a => Hd Γ os a ∨ a = Dl) H4) (hid (fun a => Hd Γ os a ∨ a = Dl) (upd H4 Dl (.lst (accV ++ [v])))) := fun a o h => by
          obtain ⟨q1, q2⟩ := hid_some h
          exact hid_of q1 (by rw [upd_ne (fun z => q1 (.inr z))]; exact q2)
        exact (Reps.mono ((Same.hid s4).trans sm) _ _ racc3).snoc (Rep.mono sm _ _ rv)
    · exact ⟨accV, accD, zs, sH, eD3, racc3, Nat.le_succ_of_le hl, em', ez⟩
  · obtain ⟨accV, accD, zs, s, eD, racc, hl, em, ez⟩ := hp
    rw [List.drop_length] at em
    cases em
    rw [List.append_nil] at ez
    subst ez
    exact wish Hh s Dl accV nD eD racc
abbrev FTs (X : Cx) (W : WX) (ifs : List Expr) (g : GB) : Prop := PTs X ifs (tGB X.K X.mg W g)
section
variable {X : Cx} {W : WX} {elt tg iter : Expr} {ifs : List Expr} {scope : Scope} {own : List (Str × Nat)} {pos : Pos} {gi : GL} {t : GT} {is : List Nat} {c : GB} {e : GE}
theorem fts_nil : FTs X W [] bYes := by
  refine ⟨fun pins s σ H Q I h => pts_nil.run pins s σ H Q I ?_⟩
  obtain ⟨Γ, os, env, A, h⟩ := h
  exact WR.ok h (Same.refl H)
theorem fts_one {e : Expr} {c : GB} (h : FT X W e c) : FTs X W [e] c := pts_one h
theorem fl_comp (hc : X.calm = true) (hN : X.N.Nodup) (ok : blkC X.N X.env.scope scope own = true) (hi : FI X W tg iter gi)
    (hg : ∀ (s : Shared) (H : Hp) (C : Addr) (cl : List (Str × Addr)) (fp : List Addr), FG (X.blk s H scope (compEnvC scope cl C X.env) fp) tg is t)
    (ht : ∀ (s : Shared) (H : Hp) (C : Addr) (cl : List (Str × Addr)) (fp : List Addr), FTs (X.blk s H scope (compEnvC scope cl C X.env) fp) W0 ifs c)
    (he : ∀ (s : Shared) (H : Hp) (C : Addr) (cl : List (Str × Addr)) (fp : List Addr), FE (X.blk s H scope (compEnvC scope cl C X.env) fp) W0 elt e)
    (hv : ∀ i ∈ is, i ∈ own.map (·.2) := by decide) (hs : ∀ x, foldedSetIterable iter X.env x = pure x := by intro _; rfl) : FL X W (.ListComp elt [⟨tg, iter, ifs, 0⟩] scope pos) (lComp gi (own.map (·.2)) t c e) :=
  PE.imp (pe_lc hc hN hi (blkOk_by ok) hg ht he hs) fun _ _ _ h => tLc_of hv h
/-- y = [..] on one line, y a local -/
theorem fs_comp (i : Nat) {y : Str} {py spos : Pos} (hsw : swapsWith (.ListComp elt [⟨tg, iter, ifs, 0⟩] scope pos) (some (.Name y py)) spos.line X.env = pure true) (hc : X.calm = true) (hN : X.N.Nodup) (ok : blkC X.N X.env.scope scope own = true) (hi : FI X W tg iter gi)
    (hg : ∀ (s : Shared) (H : Hp) (C : Addr) (cl : List (Str × Addr)) (fp : List Addr), FG (X.blk s H scope (compEnvC scope cl C X.env) fp) tg is t)
    (ht : ∀ (s : Shared) (H : Hp) (C : Addr) (cl : List (Str × Addr)) (fp : List Addr), FTs (X.blk s H scope (compEnvC scope cl C X.env) fp) W0 ifs c)
    (he : ∀ (s : Shared) (H : Hp) (C : Addr) (cl : List (Str × Addr)) (fp : List Addr), FE (X.blk s H scope (compEnvC scope cl C X.env) fp) W0 elt e)
    (hv : ∀ i ∈ is, i ∈ own.map (·.2) := by decide) (hs : ∀ x, foldedSetIterable iter X.env x = pure x := by intro _; rfl) (hy : X.N[i]? = some y := by rfl) (hyl : X.env.scope.names.lookup y = some .local := by rfl) :
    FS X W (.Assign [.Name y py] (.ListComp elt [⟨tg, iter, ifs, 0⟩] scope pos) spos) (sSetL i (lComp gi (own.map (·.2)) t c e)) := by
  refine PS.imp (ps_setLc (wi := tGI X.K X.mg W gi) (g := tGT X.K is t) (tt := tGB X.K X.mg W0 c) (te := tG X.K X.mg W0 e) hc hN hy hyl hsw hi (blkOk_by ok) hg ht he hs) fun Dn σ H h => ?_
  obtain ⟨Γ, os, env, A, h⟩ := h
  exact tLc_of hv ⟨Γ, os, env, A, WS.expr A h fun d H' _ s h p vs n e r => h _ _ _ (A.set_own s n e r)⟩
end
end AF

namespace AF
open PySem PySem.Spec PyProof.Rows L2

theorem CallR.or3 {X : Cx} {f : Value} {r r' : List V → Hp → VK → Prop} (h : CallR X f r) (h' : CallR X f r') : CallR X f (fun xs H Q => r xs H Q ∨ r' xs H Q) := L2.CallR.or h h'
section
variable {X : Cx} {W : WX} {a b : Expr} {ga gb : GE} {pos : Pos}
/-! ### subscripts -/
def dIx : D → D → Option D
  | .lst xs, .int i => atI xs i
  | .tup xs, .int i => atI xs i
  | .str s, .int i => (atI s i).map fun c => .str [c]
  | _, _ => none
theorem atI_rep {K : PySem.W.Frag} {H : Hp} {ds : List D} {vs : List V} {i : Int} {d : D} (r : Reps K H ds vs) (h : atI ds i = some d) : ∃ v, atI vs i = some v ∧ Rep K H d v := by
  unfold atI at h ⊢
  rw [r.length]
  cases e : ixN ds.length i with
  | none => rw [e] at h; cases h
  | some j =>
    rw [e] at h
    exact r.getD h
theorem ok_ix {K : PySem.W.Frag} : Ok2 K (rIx K) dIx := by
  intro P H x y d e z Q hP rx ry ez q
  cases d <;> cases e <;> first | (cases ez; done) | skip
  · rename_i s i
    obtain ⟨rfl, h1, h2⟩ := rx
    cases ry
    have ez : (atI s i).map (fun c => D.str [c]) = some z := ez
    cases ec : atI s i with
    | none => rw [ec] at ez; cases ez
    | some c =>
      rw [ec] at ez
      cases ez
      refine .inr (.inr ⟨_, i, c, rfl, rfl, by show (s.toArray).size ≤ sizeLine; simpa using h1, by simpa using ec, q _ H (Same.refl H) ⟨rfl, by show 1 ≤ sizeLine; decide, ?_⟩⟩)
      obtain ⟨j, _, hj, _⟩ := atI_get ec
      have := List.all_eq_true.mp h2 c (List.mem_of_getElem? hj)
      simpa using this
  · rename_i xs i
    obtain ⟨p, vs, rfl, h1, h2⟩ := rx
    cases ry
    obtain ⟨v, e1, e2⟩ := atI_rep h2 ez
    exact .inr (.inl ⟨p, vs, i, v, rfl, rfl, Same.seqT (hid_same P H) h1, e1, q v H (Same.refl H) e2⟩)
  · rename_i xs i
    obtain ⟨p, vs, rfl, h1, h2⟩ := rx
    cases ry
    obtain ⟨v, e1, e2⟩ := atI_rep h2 ez
    exact .inl ⟨p, vs, i, v, rfl, rfl, (Same.sl (hid_same P H) h1), e1, q v H (Same.refl H) e2⟩
theorem fe_ix (ha : FE X W a ga) (hb : FE X W b gb) (hs : PlainIx b := by exact fun _ _ => rfl) : FE X W (.Subscript a b pos) (e2 dIx ga gb) := by
  refine PE.imp (pe_ix ix_seq ha hb hs) fun σ H Q h => ?_
  obtain ⟨Γ, os, env, A, h⟩ := h
  refine ⟨Γ, os, env, A, WR.bind anti_E h fun d H1 _ s1 h1 v rv => ⟨Γ, os, env, A.mono s1, WR.bind anti_E h1 fun e H2 _ s2 h2 w rw => ?_⟩⟩
  obtain ⟨z, ez, h3⟩ := WR.of h2
  exact ok_ix _ _ _ _ _ _ _ _ (A.hides.mono (s1.trans s2)) (Rep.mono (Same.hid s2) d v rv) rw ez fun u H3 s3 r3 => h3 H3 s3 u r3
/-! ### slices -/
abbrev GO := En → Res (Option Int)
def oNone : GO := fun _ => .ok none
def oSome (g : GE) : GO := fun env => (g env).bind fun d => match d with
  | .int i => .ok (some i)
  | _ => .stuck
def tGO (K : PySem.W.Frag) (mg : Str → Option Value) (W : WX) (g : GO) : TO := fun σ H Q => ∃ Γ os env, Agree K Γ os σ H env ∧ WR K mg (Hd Γ os) W σ H (g env) (fun _ o H' => Q o H')
abbrev FO (X : Cx) (W : WX) (e : Option Expr) (g : GO) : Prop := PO X e (tGO X.K X.mg W g)
theorem PO.imp {e : Option Expr} {t t' : TO} (h : PO X e t) (i : ∀ σ H Q, t' σ H Q → t σ H Q) : PO X e t' := ⟨fun pins s σ H Q I w => h.run pins s σ H Q I (i _ _ _ w)⟩
theorem anti_O {Q : Option Int → Hp → Prop} : Anti (fun (_ : Hp) (o : Option Int) H' => Q o H') := fun _ _ _ _ _ h => h
theorem fo_none : FO X W none oNone := by
  refine PO.imp po_none fun σ H Q h => ?_
  obtain ⟨Γ, os, env, A, h⟩ := h
  exact WR.ok h (Same.refl H)
theorem fo_some (h : FE X W a ga) : FO X W (some a) (oSome ga) := by
  refine PO.imp (po_some h) fun σ H Q h => ?_
  obtain ⟨Γ, os, env, A, h⟩ := h
  refine ⟨Γ, os, env, A, WR.bind anti_O h fun d H1 _ s1 h1 v rv => ?_⟩
  cases d <;> first | exact h1.elim | skip
  cases rv
  exact ⟨_, rfl, h1 H1 (Same.refl H1)⟩
def cutD {α : Type} (xs : List α) (lo hi : Option Int) : List α := (xs.drop (HT.sIx xs.length 0 lo)).take (HT.sIx xs.length xs.length hi - HT.sIx xs.length 0 lo)
theorem reps_cut {K : PySem.W.Frag} {H : Hp} {ds : List D} {vs : List V} (r : Reps K H ds vs) (lo hi : Option Int) : Reps K H (cutD ds lo hi) (cutV vs lo hi) := by
  unfold cutD cutV
  rw [r.length]
  exact Reps.take _ (Reps.drop _ r)
def dSl : D → Option Int → Option Int → Option D
  | .tup xs, lo, hi => some (.tup (cutD xs lo hi))
  | .str s, lo, hi => some (.str (cutD s lo hi))
  | .lst xs, lo, hi => some (.lst (cutD xs lo hi))
  | _, _, _ => none
def lSl : D → Option Int → Option Int → Option (List D)
  | .lst xs, lo, hi => some (cutD xs lo hi)
  | _, _, _ => none
def eSl (f : D → Option Int → Option Int → Option D) (g : GE) (lo hi : GO) : GE := fun env => (g env).bind fun d => (lo env).bind fun l => (hi env).bind fun u => Res.of (f d l u)
def lSlG (g : GE) (lo hi : GO) : GL := fun env => (g env).bind fun d => (lo env).bind fun l => (hi env).bind fun u => Res.of (lSl d l u)
def rSl3 (K : PySem.W.Frag) : V → Option Int → Option Int → Hp → VK → Prop := fun x lo hi H Q => rSlL K x lo hi H Q ∨ (rSlA K x lo hi H Q ∨ rSlS x lo hi H Q)
theorem sl3 : SlR X (rSl3 X.K) := SlR.or sl_list (SlR.or sl_tupA sl_str)
theorem cutD_all {s : List Nat} {lo hi : Option Int} (h : s.all (· < 1114112) = true) : (cutD s lo hi).all (· < 1114112) = true := by
  rw [List.all_eq_true] at h ⊢
  exact fun c hc => h c (List.mem_of_mem_drop (List.mem_of_mem_take hc))
theorem cutD_len {α : Type} (s : List α) (lo hi : Option Int) : (cutD s lo hi).length ≤ s.length := by
  unfold cutD
  rw [List.length_take, List.length_drop]
  omega
theorem fe_sl {lo hi : Option Expr} {gl gh : GO} {p2 : Pos} (ha : FE X W a ga) (hl : FO X W lo gl) (hh : FO X W hi gh) : FE X W (.Subscript a (.Slice lo hi none p2) pos) (eSl dSl ga gl gh) := by
  refine PE.imp (pe_slice sl3 ha hl hh) fun σ H Q h => ?_
  obtain ⟨Γ, os, env, A, h⟩ := h
  refine ⟨Γ, os, env, A, WR.bind anti_E h fun d H1 _ s1 h1 v rv => ⟨Γ, os, env, A.mono s1, WR.bind anti_E h1 fun l H2 _ s2 h2 => ⟨Γ, os, env, A.mono (s1.trans s2), WR.bind anti_E h2 fun u H3 _ s3 h3 => ?_⟩⟩⟩
  have rv := Rep.mono (Same.hid (P := Hd Γ os) (s2.trans s3)) d v rv
  have hP := A.hides.mono (s1.trans (s2.trans s3))
  obtain ⟨z, ez, h4⟩ := WR.of h3
  cases d <;> first | (cases ez; done) | skip
  · rename_i s _ _
    obtain ⟨rfl, q1, q2⟩ := rv
    cases ez
    refine .inr (.inr ⟨_, rfl, by show (s.toArray).size ≤ sizeLine; simpa using q1, h4 H3 (Same.refl H3) _ ⟨?_, Nat.le_trans (cutD_len s l u) q1, cutD_all q2⟩⟩)
    unfold cutS cutD
    have e : (⟨s.toArray⟩ : Str).length = s.length := by show (s.toArray).size = _; simp
    rw [e]
  · rename_i xs _ _
    obtain ⟨p, vs, rfl, q1, q2⟩ := rv
    cases ez
    have l2 := q2.length
    refine .inr (.inl ⟨p, vs, rfl, Same.seqT (hid_same _ H3) q1, fun hw => ?_, fun _ p hp => ?_⟩)
    · rw [l2] at hw
      have e : cutD xs l u = xs := by
        unfold cutD
        rw [hw.1, hw.2]
        simp
      rw [e] at h4
      exact h4 H3 (Same.refl H3) _ ⟨p, vs, rfl, q1, q2⟩
    · exact h4 _ (same_new hp) _ (tup_new hP hp (reps_cut q2 l u))
  · rename_i xs _
    obtain ⟨p, vs, rfl, q1, q2⟩ := rv
    cases ez
    refine .inl ⟨p, vs, rfl, (Same.sl (hid_same _ H3) q1), fun p hp => h4 _ (same_new hp) _ ?_⟩
    exact lst_of_new hP hp upd_same (reps_new hp (reps_cut q2 l u))
theorem fl_sl {lo hi : Option Expr} {gl gh : GO} {p2 : Pos} (ha : FE X W a ga) (hl : FO X W lo gl) (hh : FO X W hi gh) : FL X W (.Subscript a (.Slice lo hi none p2) pos) (lSlG ga gl gh) := by
  refine PE.imp (pe_slice sl_list ha hl hh) fun σ H Q h => ?_
  obtain ⟨Γ, os, env, A, h⟩ := h
  refine ⟨Γ, os, env, A, WR.bind anti_L h fun d H1 _ s1 h1 v rv => ⟨Γ, os, env, A.mono s1, WR.bind anti_L h1 fun l H2 _ s2 h2 => ⟨Γ, os, env, A.mono (s1.trans s2), WR.bind anti_L h2 fun u H3 _ s3 h3 => ?_⟩⟩⟩
  have rv := Rep.mono (Same.hid (P := Hd Γ os) (s2.trans s3)) d v rv
  have hP := A.hides.mono (s1.trans (s2.trans s3))
  obtain ⟨z, ez, h4⟩ := WR.of h3
  cases d <;> first | (cases ez; done) | skip
  rename_i xs _
  obtain ⟨p, vs, rfl, q1, q2⟩ := rv
  cases ez
  exact ⟨p, vs, rfl, (Same.sl (hid_same _ H3) q1), fun p hp => h4 _ (same_new hp) _ _ hp upd_same (reps_new hp (reps_cut q2 l u))⟩
/-! ### x[i] = e, an own list -/
def sSetIx (i : Nat) (gi gv : GE) : GS := fun env => onOk env (gv env) fun d => withOwn env i fun ds => onOk env (gi env) fun k => match k with
  | .int z => (match ixN ds.length z with
    | some j => .next (env.set i (.own (ds.set j d)))
    | none => .stuck)
  | _ => .stuck
theorem fs_setIx (i : Nat) {x : Str} {p1 tpos : Pos} (hv : FE X W a ga) (hi : FE X W b gb) (hN : X.N[i]? = some x := by rfl) (hvis : Vis X.env.scope x := by first | exact Or.inl rfl | exact Or.inr (Or.inl rfl) | exact Or.inr (Or.inr rfl)) (hd : (x == ("__debug__" : Str)) = false := by decide)
    (hcd : (x == ("__classdict__" : Str)) = false := by decide)
    (hs : swapsWithSole [.Subscript (.Name x p1) b tpos] a pos.line X.env = pure false := by rfl) (hw : swappedStores [.Subscript (.Name x p1) b tpos] a X.env = pure none := by rfl) (h1 : (assignEach [.Subscript (.Name x p1) b tpos] X.env).map (·.2) = [assign (.Subscript (.Name x p1) b tpos) X.env] := by rfl)
    (ha : ∀ v, assign (.Subscript (.Name x p1) b tpos) X.env v = (do
      let ov ← holding [v] (eval (.Name x p1) X.env)
      let iv ← holding [v, ov] (eval b X.env)
      standAt tpos
      holding [v, ov, iv] (setItem ov iv v)
      release [v, ov, iv] []) := by intro _; rfl) : FS X W (.Assign [.Subscript (.Name x p1) b tpos] a pos) (sSetIx i gb ga) := by
  refine PS.imp (ps_asg hv (pg_sub (pos := tpos) (pe_var (pos := p1) hN hvis hd hcd) hi set_list ha) hs hw h1) fun Dn σ H h => ?_
  obtain ⟨Γ, os, env, A, h⟩ := h
  refine ⟨Γ, os, env, A, WS.expr A h fun d H1 _ s1 h1 v rv => ?_⟩
  obtain ⟨ds, e, h2⟩ := own_cases h1
  obtain ⟨p, vs, ho, hσ, hp, hr⟩ := A.own e
  have A1 := A.mono s1
  refine ⟨.ref p, hσ, Γ, os, env, A1, WS.expr A1 h2 fun k H2 _ s2 h3 w rw => ?_⟩
  cases k <;> first | exact h3.elim | skip
  rename_i z _
  cases rw
  have h3 : WS X.K X.mg W Γ (match ixN ds.length z with | some j => .next (env.set i (.own (ds.set j d))) | none => .stuck) Dn := h3
  cases ej : ixN ds.length z with
  | none =>
    rw [ej] at h3
    exact h3.elim
  | some j =>
    rw [ej] at h3
    refine ⟨p, vs, z, j, rfl, rfl, s2 _ _ (s1 _ _ hp), by rw [hr.length]; exact ej, h3 os σ _ ?_⟩
    exact (A1.mono s2).upd_own ho hσ (Reps.set j (Reps.mono (Same.hid (s1.trans s2)) ds vs hr) (Rep.mono (Same.hid s2) d v rv))
/-! ### x op= e -/
def sAug (i : Nat) (f : D → D → Option D) (g : GE) : GS := fun env => match env[i]? with
  | some (.val d) => onOk env (g env) fun e => (match f d e with
    | some z => .next (env.set i (.val z))
    | none => .stuck)
  | _ => .stuck
theorem fs_aug (i : Nat) {x : Str} {pos' : Pos} {op : Operator} {r : R2} {f : D → D → Option D} (ho : OpR X (inplaceOp op) r) (hf : Ok2 X.K r f) (he : FE X W a ga) (hN : X.N.Nodup) (hi : X.N[i]? = some x := by rfl) (hx : Loc X.env.scope x := by first | exact .inl rfl | exact .inr rfl) 
    (hf2 : X.fn x = true ∨ X.env.scope.names.lookup x = some .local := by first | exact .inl rfl | exact .inr rfl) (hp : PS X (.AugAssign (.Name x pos') op a pos) (tAug i (tG X.K X.mg W ga) r)) : FS X W (.AugAssign (.Name x pos') op a pos) (sAug i f ga) := by
  refine PS.imp hp fun Dn σ H h => ?_
  obtain ⟨Γ, os, env, A, h⟩ := h
  have h : WS X.K X.mg W Γ (match env[i]? with
  | some (.val d) => onOk env (ga env) fun e => (match f d e with
    | some z => .next (env.set i (.val z))
    | none => .stuck)
  | _ => .stuck) Dn := h
  cases ei : env[i]? with
  | none => rw [ei] at h; exact h.elim
  | some sl =>
    rw [ei] at h
    cases sl with
    | unk => exact h.elim
    | own ds => exact h.elim
    | pin ds => exact h.elim
    | lent ds => exact h.elim
    | val d =>
      obtain ⟨sv, o, h1, h2, h3, v, h4, h5⟩ := A.slot i _ ei
      subst h4
      refine ⟨v, h1, Γ, os, env, A, WS.expr A h fun e H1 _ s1 h6 w rw => ?_⟩
      have h6 : WS X.K X.mg W Γ (match f d e with | some z => .next (env.set i (.val z)) | none => .stuck) Dn := h6
      cases ef : f d e with
      | none => rw [ef] at h6; exact h6.elim
      | some z =>
        rw [ef] at h6
        exact hf _ _ _ _ _ _ _ _ ((A.mono s1).hides) (Rep.mono (Same.hid s1) d v h5) rw ef fun u H2 s2 ru => h6 _ _ _ (((A.mono s1).mono s2).set_val ru)
theorem iop_fdivG : OpR X (inplaceOp .FloorDiv) (rI (fun _ j => S9 j) fun i j => .int (i.fdiv j)) := opI fun i j _ _ _ _ _ hc q => ifloordiv_int hc.1 q (.inl (PyProof.noPylong_of_log2 hc.2))
end
/-! ### built-ins -/
def tyName : D → Option String
  | .non => some "NoneType"
  | .bl _ => some "bool"
  | .int _ => some "int"
  | .str _ => some "str"
  | .tup _ => some "tuple"
  | .lst _ => some "list"
  | .ty _ => none
def tyNames : List String := ["NoneType", "bool", "int", "str", "tuple", "list", "dict"]
def isSubTy (a b : String) : Bool := a == b || (a == "bool" && b == "int")
theorem kitB_ok : ∀ a ∈ tyNames, ∀ b ∈ tyNames, kitB a b = some (isSubTy a b) := by decide +kernel
theorem tyName_mem {d : D} {n : String} (h : tyName d = some n) : n ∈ tyNames := by
  cases d <;> cases h <;> decide
def isiAny (n : String) : List D → Option Bool
  | [] => some false
  | .ty b :: r => if b ∈ tyNames then (isiAny n r).map fun k => isSubTy n b || k else none
  | _ => none
def fIsi : List D → Option D
  | [d, .ty b] => (tyName d).bind fun n => if b ∈ tyNames then some (.bl (isSubTy n b)) else none
  | [d, .tup ts] => (tyName d).bind fun n => (isiAny n ts).map .bl
  | _ => none
theorem tyX_of {K : PySem.W.Frag} {P : Addr → Prop} {H : Hp} {d : D} {x : V} {n : String} (r : Rep K (hid P H) d x) (h : tyName d = some n) : TyX K H x (.type n) := by
  cases d with
  | non => cases r; cases h; exact .base .non
  | bl b => cases r; cases h; exact .base (.bl b)
  | int i => cases r; cases h; exact .base (.int i)
  | str s => obtain ⟨rfl, _⟩ := r; cases h; exact .base (.str _)
  | ty t => cases h
  | tup xs =>
    obtain ⟨a, vs, rfl, h1, h2⟩ := r
    cases h
    rcases h1 with h1 | ⟨o, its, n, h1, h3, _⟩
    · exact .base (.tup ((hid_some h1).2))
    · exact .kTuple h1 h3
  | lst xs =>
    obtain ⟨a, vs, rfl, h1, h2⟩ := r
    cases h
    rcases h1 with (h1 | ⟨o, h1⟩) | ⟨o, its, n, h1, h3, _⟩
    · exact .base (.lst ((hid_some h1).2))
    · exact .base (.frz ((hid_some h1).2))
    · exact .kList h1 h3
theorem kitAny_of {K : PySem.W.Frag} {G : Hp} {n : String} (hn : n ∈ tyNames) : ∀ (ts : List D) (vs : List V) (b : Bool), Reps K G ts vs → isiAny n ts = some b → ∃ us, Paired ClsV vs us ∧ PySem.W.kitAny K (.type n) us = some b
  | [], _, b, r, h => by
    rw [show _ = [] from r]
    cases h
    exact ⟨[], .nil, kitAny_nil⟩
  | t :: ts, _, b, r, h => by
    obtain ⟨v, r', rfl, h1, h2⟩ := r
    cases t <;> first | (cases h; done) | skip
    rename_i c
    cases h1
    have h : (if c ∈ tyNames then (isiAny n ts).map (fun k => isSubTy n c || k) else none) = some b := h
    split at h
    · rename_i hc
      have e := kit_ty (K := K) (kitB_ok n hn c hc)
      cases ek : isiAny n ts with
      | none => rw [ek] at h; cases h
      | some k =>
        rw [ek] at h
        cases h
        obtain ⟨us, p1, p2⟩ := kitAny_of hn ts r' k h2 ek
        refine ⟨_, .cons (.ty c) p1, kitAny_cons e (fun z => ?_) fun z => ?_⟩
        · rw [z]; exact p2
        · rw [z]; rfl
    · cases h
theorem clsV_ty {K : PySem.W.Frag} {G : Hp} {n : String} {v : V} (h : Rep K G (.ty n) v) : ClsV v (.type n) := by
  cases h
  exact .ty n
section
variable {X : Cx} {W : WX} {a b : Expr} {ga gb : GE} {pos : Pos}
theorem op_isi : CallR X (.builtin "isinstance") (fun xs H Q => rIsi X.K xs H Q ∨ (rIsiT X.K xs H Q ∨ rIsiK X.K xs H Q)) := by
  intro pins s σ H xs us Q I r h
  rcases h with h | h | h
  · exact call_isi pins s σ H xs us Q I r h
  · exact call_isiT pins s σ H xs us Q I r h
  · exact call_isiK pins s σ H xs us Q I r h
theorem ok_isi {K : PySem.W.Frag} : OkA K (fun xs H Q => rIsi K xs H Q ∨ (rIsiT K xs H Q ∨ rIsiK K xs H Q)) fIsi := by
  intro P H xs ds z Q hP r ez q
  unfold fIsi at ez
  split at ez
  · rename_i d b
    cases en : tyName d with
    | none => rw [en] at ez; cases ez
    | some n =>
      rw [en] at ez
      have ez : (if b ∈ tyNames then some (D.bl (isSubTy n b)) else none) = some z := ez
      split at ez
      · rename_i hb
        cases ez
        obtain ⟨v, u, rfl, r1, r2⟩ := reps2 r
        exact .inl ⟨v, u, _, _, _, rfl, clsV_ty r2, tyX_of r1 en, kit_ty (kitB_ok n (tyName_mem en) b hb), q _ H (Same.refl H) rfl⟩
      · cases ez
  · rename_i d ts
    cases en : tyName d with
    | none => rw [en] at ez; cases ez
    | some n =>
      rw [en] at ez
      have ez : (isiAny n ts).map D.bl = some z := ez
      cases ea : isiAny n ts with
      | none => rw [ea] at ez; cases ez
      | some k =>
        rw [ea] at ez
        cases ez
        obtain ⟨v, u, rfl, r1, r2⟩ := reps2 r
        obtain ⟨tp, cs, rfl, h1, h2⟩ := r2
        obtain ⟨us, p1, p2⟩ := kitAny_of (tyName_mem en) ts cs k h2 ea
        rcases h1 with h1 | ⟨⟨oc, od, dt, sl⟩, its, n', h1, h3, h4, h5, h6⟩
        · exact .inr (.inl ⟨v, tp, cs, _, us, k, rfl, (hid_some h1).2, p1, tyX_of r1 en, p2, q _ H (Same.refl H) rfl⟩)
        · simp only at h3 h4
          subst h3 h4
          have e := ClsV.all p1 h6
          subst e
          exact .inr (.inr ⟨v, tp, od, _, n', sl, _, k, rfl, by rw [h1], tyX_of r1 en, p2, q _ H (Same.refl H) rfl⟩)
  · cases ez
end
end AF

namespace AF
open PySem PySem.Spec PyProof.Rows L2
/-! ### len, abs, int, bool, str -/
def fLen : List D → Option D
  | [.str s] => some (.int s.length)
  | [.tup xs] => some (.int xs.length)
  | [.lst xs] => some (.int xs.length)
  | _ => none
def fAbs : List D → Option D
  | [.int i] => some (.int (if i < 0 then -i else i))
  | _ => none
def fInt : List D → Option D
  | [.int i] => some (.int i)
  | [.bl b] => some (.int (if b then 1 else 0))
  | _ => none
def fBool : List D → Option D
  | [.int i] => some (.bl (i != 0))
  | [.bl b] => some (.bl b)
  | _ => none
/-- the text of an int, by its codes -/
def strInt (i : Int) : List Nat := (toString i).toList.map Char.toNat
def fStr : List D → Option D
  | [.int i] => if i.natAbs.log2 < 1920 ∧ (strInt i).length ≤ sizeLine then some (.str (strInt i)) else none
  | _ => none
def fType : List D → Option D
  | [d] => (tyName d).map .ty
  | _ => none
def fTuple : List D → Option D
  | [.lst xs] => some (.tup xs)
  | [.tup xs] => some (.tup xs)
  | _ => none
def fList : List D → Option (List D)
  | [.lst xs] => some xs
  | [.tup xs] => some xs
  | _ => none
def ints? : List D → Option (List Int)
  | [] => some []
  | .int i :: r => (ints? r).map fun ns => i :: ns
  | _ => none
def bls? : List D → Option (List Bool)
  | [] => some []
  | .bl b :: r => (bls? r).map fun ns => b :: ns
  | _ => none
def fSum : List D → Option D
  | [.lst xs] => (ints? xs).map fun ns => .int ns.sum
  | _ => none
def fMin : List D → Option D
  | [.lst xs] => (ints? xs).bind fun ns => ns.min?.map .int
  | [.int i, .int j] => some (.int (if j < i then j else i))
  | _ => none
def fMax : List D → Option D
  | [.lst xs] => (ints? xs).bind fun ns => ns.max?.map .int
  | [.int i, .int j] => some (.int (if j > i then j else i))
  | _ => none
def fAll : List D → Option D
  | [.lst xs] => (bls? xs).map fun bs => .bl (bs.all id)
  | _ => none
def fAny : List D → Option D
  | [.lst xs] => (bls? xs).map fun bs => .bl (bs.any id)
  | _ => none
def fGcd : List D → Option D
  | [.int a, .int b] => some (.int ((Nat.gcd a.natAbs b.natAbs : Nat) : Int))
  | _ => none
theorem ints_eq : ∀ {ds : List D} {ns : List Int}, ints? ds = some ns → ds = ns.map D.int
  | [], ns, h => by cases h; rfl
  | d :: ds, ns, h => by
    cases d <;> first | (cases h; done) | skip
    have h : (ints? ds).map (fun ns => _ :: ns) = some ns := h
    cases e : ints? ds with
    | none => rw [e] at h; cases h
    | some ms =>
      rw [e] at h
      cases h
      rw [ints_eq e]
      rfl
theorem bls_eq : ∀ {ds : List D} {ns : List Bool}, bls? ds = some ns → ds = ns.map D.bl
  | [], ns, h => by cases h; rfl
  | d :: ds, ns, h => by
    cases d <;> first | (cases h; done) | skip
    have h : (bls? ds).map (fun ns => _ :: ns) = some ns := h
    cases e : bls? ds with
    | none => rw [e] at h; cases h
    | some ms =>
      rw [e] at h
      cases h
      rw [bls_eq e]
      rfl
theorem reps_bls {K : PySem.W.Frag} {H : Hp} : ∀ {bs : List Bool} {vs : List V}, Reps K H (bs.map D.bl) vs → vs = bs.map V.bl
  | [], _, h => h
  | b :: bs, _, h => by
    obtain ⟨v, r, rfl, h1, h2⟩ := h
    rw [show v = .bl b from h1, reps_bls h2]
    rfl
theorem ok_len {K : PySem.W.Frag} : OkA K (fun xs H Q => ∃ x n, xs = [x] ∧ LenV K x H n ∧ Q (.int n) H) fLen := by
  intro P H xs ds z Q hP r ez q
  unfold fLen at ez
  split at ez <;> first | (cases ez; done) | skip
  · cases ez
    obtain ⟨v, rfl, rfl, h1, h2⟩ := reps1 r
    rename_i s
    exact ⟨_, s.length, rfl, ⟨by show (s.toArray).size ≤ sizeLine; simpa using h1, by show s.length = (s.toArray).size; simp⟩, q _ H (Same.refl H) rfl⟩
  · cases ez
    obtain ⟨v, rfl, p, vs, rfl, h1, h2⟩ := reps1 r
    exact ⟨_, _, rfl, .inr ⟨vs, Same.seqT (hid_same P H) h1, h2.length.symm⟩, q _ H (Same.refl H) rfl⟩
  · cases ez
    obtain ⟨v, rfl, p, vs, rfl, h1, h2⟩ := reps1 r
    exact ⟨_, _, rfl, .inl ⟨vs, (Same.sl (hid_same P H) h1), h2.length.symm⟩, q _ H (Same.refl H) rfl⟩
theorem ok_abs {K : PySem.W.Frag} : OkA K (fun xs H Q => ∃ i, xs = [.int i] ∧ Q (.int (if i < 0 then -i else i)) H) fAbs := by
  intro P H xs ds z Q hP r ez q
  unfold fAbs at ez
  split at ez <;> first | (cases ez; done) | skip
  cases ez
  obtain ⟨v, rfl, r1⟩ := reps1 r
  cases r1
  exact ⟨_, rfl, q _ H (Same.refl H) rfl⟩
theorem ok_int {K : PySem.W.Frag} : OkA K (fun xs H Q => (∃ i, xs = [.int i] ∧ Q (.int i) H) ∨ ∃ k, xs = [.bl k] ∧ Q (.int (if k then 1 else 0)) H) fInt := by
  intro P H xs ds z Q hP r ez q
  unfold fInt at ez
  split at ez <;> first | (cases ez; done) | skip
  · cases ez
    obtain ⟨v, rfl, r1⟩ := reps1 r
    cases r1
    exact .inl ⟨_, rfl, q _ H (Same.refl H) rfl⟩
  · cases ez
    obtain ⟨v, rfl, r1⟩ := reps1 r
    cases r1
    exact .inr ⟨_, rfl, q _ H (Same.refl H) rfl⟩
theorem ok_bool {K : PySem.W.Frag} : OkA K (fun xs H Q => (∃ i, xs = [.int i] ∧ Q (.bl (i != 0)) H) ∨ ∃ k, xs = [.bl k] ∧ Q (.bl k) H) fBool := by
  intro P H xs ds z Q hP r ez q
  unfold fBool at ez
  split at ez <;> first | (cases ez; done) | skip
  · cases ez
    obtain ⟨v, rfl, r1⟩ := reps1 r
    cases r1
    exact .inl ⟨_, rfl, q _ H (Same.refl H) rfl⟩
  · cases ez
    obtain ⟨v, rfl, r1⟩ := reps1 r
    cases r1
    exact .inr ⟨_, rfl, q _ H (Same.refl H) rfl⟩
theorem ofString_cps (s : String) : PySem.Str.ofString s = ⟨(s.toList.map Char.toNat).toArray⟩ := PySem.Str.ofString_eq_toList s
theorem char_lt (c : Char) : c.toNat < 1114112 := by
  have := c.valid
  unfold Char.toNat
  rcases this with h | ⟨_, h⟩
  · have : c.val.toNat < 55296 := h
    omega
  · exact h
theorem ok_str {K : PySem.W.Frag} : OkA K (fun xs H Q => ∃ i, xs = [.int i] ∧ i.natAbs.log2 < 1920 ∧ Q (.str (toString i)) H) fStr := by
  intro P H xs ds z Q hP r ez q
  unfold fStr at ez
  split at ez <;> first | (cases ez; done) | skip
  split at ez <;> first | (cases ez; done) | skip
  rename_i hh
  cases ez
  obtain ⟨v, rfl, r1⟩ := reps1 r
  cases r1
  refine ⟨_, rfl, hh.1, q _ H (Same.refl H) ⟨?_, hh.2, ?_⟩⟩
  · rw [ofString_cps]
    rfl
  · rw [List.all_eq_true]
    intro c hc
    obtain ⟨ch, _, rfl⟩ := List.mem_map.mp hc
    exact decide_eq_true (char_lt ch)
theorem ok_tuple {K : PySem.W.Frag} : OkA K (fun xs H Q => ∃ p ys, xs = [.ref p] ∧ ((SqL K H p ys ∧ ∀ l, H l = none → Q (.ref l) (upd H l (.tup ys))) ∨ (SqT K H p ys ∧ Q (.ref p) H))) fTuple := by
  intro P H xs ds z Q hP r ez q
  unfold fTuple at ez
  split at ez <;> first | (cases ez; done) | skip
  · cases ez
    obtain ⟨v, rfl, p, vs, rfl, h1, h2⟩ := reps1 r
    exact ⟨p, vs, rfl, .inl ⟨(Same.sl (hid_same P H) h1), fun l hl => q _ _ (same_new hl) (tup_new hP hl h2)⟩⟩
  · cases ez
    obtain ⟨v, rfl, p, vs, rfl, h1, h2⟩ := reps1 r
    exact ⟨p, vs, rfl, .inr ⟨Same.seqT (hid_same P H) h1, q _ H (Same.refl H) ⟨p, vs, rfl, h1, h2⟩⟩⟩
theorem ok_list {K : PySem.W.Frag} : OkAL K (fun xs H Q => ∃ p ys, xs = [.ref p] ∧ (SqL K H p ys ∨ SqT K H p ys) ∧ ∀ l, H l = none → Q (.ref l) (upd H l (.lst ys))) fList := by
  intro P H xs ds z Q hP r ez q
  unfold fList at ez
  split at ez <;> first | (cases ez; done) | skip
  · cases ez
    obtain ⟨v, rfl, p, vs, rfl, h1, h2⟩ := reps1 r
    exact ⟨p, vs, rfl, .inl ((Same.sl (hid_same P H) h1)), fun l hl => q l _ _ (same_new hl) hl upd_same (reps_new hl h2)⟩
  · cases ez
    obtain ⟨v, rfl, p, vs, rfl, h1, h2⟩ := reps1 r
    exact ⟨p, vs, rfl, .inr (Same.seqT (hid_same P H) h1), fun l hl => q l _ _ (same_new hl) hl upd_same (reps_new hl h2)⟩
theorem ok_sum {K : PySem.W.Frag} : OkA K (rSum K) fSum := by
  intro P H xs ds z Q hP r ez q
  unfold fSum at ez
  split at ez <;> first | (cases ez; done) | skip
  rename_i xs
  cases e : ints? xs with
  | none => rw [e] at ez; cases ez
  | some ns =>
    rw [e] at ez
    cases ez
    obtain ⟨v, rfl, p, vs, rfl, h1, h2⟩ := reps1 r
    rw [h2.isInts ns (ints_eq e)] at h1
    exact ⟨p, ns, rfl, (Same.sl (hid_same P H) h1), q _ H (Same.refl H) rfl⟩
theorem ok_all {K : PySem.W.Frag} : OkA K (rAll K) fAll := by
  intro P H xs ds z Q hP r ez q
  unfold fAll at ez
  split at ez <;> first | (cases ez; done) | skip
  rename_i xs
  cases e : bls? xs with
  | none => rw [e] at ez; cases ez
  | some ns =>
    rw [e] at ez
    cases ez
    obtain ⟨v, rfl, p, vs, rfl, h1, h2⟩ := reps1 r
    rw [bls_eq e] at h2
    rw [reps_bls h2] at h1
    exact ⟨p, ns, rfl, (Same.sl (hid_same P H) h1), q _ H (Same.refl H) rfl⟩
theorem ok_any {K : PySem.W.Frag} : OkA K (rAny K) fAny := by
  intro P H xs ds z Q hP r ez q
  unfold fAny at ez
  split at ez <;> first | (cases ez; done) | skip
  rename_i xs
  cases e : bls? xs with
  | none => rw [e] at ez; cases ez
  | some ns =>
    rw [e] at ez
    cases ez
    obtain ⟨v, rfl, p, vs, rfl, h1, h2⟩ := reps1 r
    rw [bls_eq e] at h2
    rw [reps_bls h2] at h1
    exact ⟨p, ns, rfl, (Same.sl (hid_same P H) h1), q _ H (Same.refl H) rfl⟩
theorem ok_gcd {K : PySem.W.Frag} : OkA K rGcd fGcd := by
  intro P H xs ds z Q hP r ez q
  unfold fGcd at ez
  split at ez <;> first | (cases ez; done) | skip
  cases ez
  obtain ⟨v, u, rfl, r1, r2⟩ := reps2 r
  cases r1
  cases r2
  exact ⟨_, _, rfl, q _ H (Same.refl H) rfl⟩
/-- min, max: of a list of ints, or of two ints -/
def rMin3 (K : PySem.W.Frag) : List V → Hp → VK → Prop := fun xs H Q => rMin K xs H Q ∨ (∃ i j, xs = [.int i, .int j] ∧ Q (.int (if j < i then j else i)) H)
def rMax3 (K : PySem.W.Frag) : List V → Hp → VK → Prop := fun xs H Q => rMax K xs H Q ∨ (∃ i j, xs = [.int i, .int j] ∧ Q (.int (if j > i then j else i)) H)
theorem ok_min {K : PySem.W.Frag} : OkA K (rMin3 K) fMin := by
  intro P H xs ds z Q hP r ez q
  unfold fMin at ez
  split at ez <;> first | (cases ez; done) | skip
  · rename_i xs
    cases e : ints? xs with
    | none => rw [e] at ez; cases ez
    | some ns =>
      rw [e] at ez
      have ez : ns.min?.map D.int = some z := ez
      cases em : ns.min? with
      | none => rw [em] at ez; cases ez
      | some m =>
        rw [em] at ez
        cases ez
        obtain ⟨v, rfl, p, vs, rfl, h1, h2⟩ := reps1 r
        rw [h2.isInts ns (ints_eq e)] at h1
        have hm := List.min?_eq_some_iff.mp em
        refine .inl ⟨p, ns, rfl, (Same.sl (hid_same P H) h1), ?_, fun m' h3 h4 => ?_⟩
        · cases ns with
          | nil => cases em
          | cons a l => exact Nat.succ_pos _
        · have : m' = m := Int.le_antisymm (h4 m hm.1) (hm.2 m' h3)
          subst this
          exact q _ H (Same.refl H) rfl
  · cases ez
    obtain ⟨v, u, rfl, r1, r2⟩ := reps2 r
    cases r1
    cases r2
    exact .inr ⟨_, _, rfl, q _ H (Same.refl H) rfl⟩
theorem ok_max {K : PySem.W.Frag} : OkA K (rMax3 K) fMax := by
  intro P H xs ds z Q hP r ez q
  unfold fMax at ez
  split at ez <;> first | (cases ez; done) | skip
  · rename_i xs
    cases e : ints? xs with
    | none => rw [e] at ez; cases ez
    | some ns =>
      rw [e] at ez
      have ez : ns.max?.map D.int = some z := ez
      cases em : ns.max? with
      | none => rw [em] at ez; cases ez
      | some m =>
        rw [em] at ez
        cases ez
        obtain ⟨v, rfl, p, vs, rfl, h1, h2⟩ := reps1 r
        rw [h2.isInts ns (ints_eq e)] at h1
        have hm := List.max?_eq_some_iff.mp em
        refine .inl ⟨p, ns, rfl, (Same.sl (hid_same P H) h1), ?_, fun m' h3 h4 => ?_⟩
        · cases ns with
          | nil => cases em
          | cons a l => exact Nat.succ_pos _
        · have : m' = m := Int.le_antisymm (hm.2 m' h3) (h4 m hm.1)
          subst this
          exact q _ H (Same.refl H) rfl
  · cases ez
    obtain ⟨v, u, rfl, r1, r2⟩ := reps2 r
    cases r1
    cases r2
    exact .inr ⟨_, _, rfl, q _ H (Same.refl H) rfl⟩
/-- type(x) -/
def TyT (K : PySem.W.Frag) (H : Hp) : V → String → Prop
  | .non, n => n = "NoneType"
  | .bl _, n => n = "bool"
  | .int _, n => n = "int"
  | .str _, n => n = "str"
  | .ref a, n => (n = "list" ∧ ∃ xs, SqL K H a xs) ∨ (n = "tuple" ∧ ∃ xs, TpL K H a xs)
  | _, _ => False
def rType (K : PySem.W.Frag) : List V → Hp → VK → Prop := fun xs H Q => ∃ x n, xs = [x] ∧ TyT K H x n ∧ Q (.ty n) H
theorem cr_typeD {X : Cx} : CallR X (.type "type") (rType X.K) := by
  intro pins s σ H xs us Q I r h
  obtain ⟨x, n, rfl, t, q⟩ := h
  obtain ⟨u, rfl, rx⟩ := vals1 r
  have key : s.TypeIs u n ∧ (Value.type n == Value.type "builtin_function_or_method") = false := by
    cases x with
    | non => cases rx; cases t; exact ⟨rfl, by decide +kernel⟩
    | bl b => cases rx; cases t; exact ⟨rfl, by decide +kernel⟩
    | int i => obtain ⟨k, rfl⟩ := rx; cases t; exact ⟨rfl, by decide +kernel⟩
    | str z => obtain ⟨k, rfl⟩ := rx; cases t; exact ⟨rfl, by decide +kernel⟩
    | byt _ => exact t.elim
    | flt _ => exact t.elim
    | ty _ => exact t.elim
    | ref a =>
      cases rx
      rcases t with ⟨rfl, ys, t⟩ | ⟨rfl, ys, t⟩
      · obtain ⟨its, rv, p, _⟩ := I.list t
        exact ⟨p.isList.typeIs, by decide +kernel⟩
      · obtain ⟨its, rv, p, _⟩ := I.tuple (Same.seqT (Same.refl H) t)
        exact ⟨p.typeIs, by decide +kernel⟩
  exact call_type_of key.1 key.2 ⟨.ty n, H, I, rfl, q⟩
theorem ok_type {K : PySem.W.Frag} : OkA K (rType K) fType := by
  intro P H xs ds z Q hP r ez q
  unfold fType at ez
  split at ez <;> first | (cases ez; done) | skip
  rename_i d
  cases en : tyName d with
  | none => rw [en] at ez; cases ez
  | some n =>
    rw [en] at ez
    cases ez
    obtain ⟨v, rfl, r1⟩ := reps1 r
    refine ⟨v, n, rfl, ?_, q _ H (Same.refl H) rfl⟩
    cases d with
    | non => cases r1; cases en; exact rfl
    | bl b => cases r1; cases en; exact rfl
    | int i => cases r1; cases en; exact rfl
    | str s => obtain ⟨rfl, _⟩ := r1; cases en; exact rfl
    | ty t => cases en
    | tup xs =>
      obtain ⟨a, vs, rfl, h1, h2⟩ := r1
      cases en
      exact .inr ⟨rfl, vs, Same.tp (hid_same P H) h1⟩
    | lst xs =>
      obtain ⟨a, vs, rfl, h1, h2⟩ := r1
      cases en
      exact .inl ⟨rfl, vs, Same.sl (hid_same P H) h1⟩
/-! ### in -/
theorem toPys_any {ds : List D} : toPys ds = ds.map toPy := by
  induction ds with
  | nil => rfl
  | cons d ds ih => simp [toPys, ih]
def rIn3 (K : PySem.W.Frag) : R2 := fun x y H Q => rInD K x y H Q ∨ ((∃ d ds, Dp K H x d ∧ Dp K H y (.tuple ds) ∧ SeqAt.shaped d = true ∧ SeqAt.shaped (.tuple ds) = true ∧ Q (.bl (ds.any fun z => PyData.eqv z d)) H) ∨ (∃ (c : Nat) (z : Str), x = .str ⟨#[c]⟩ ∧ y = .str z ∧ Q (.bl (decide (c ∈ z.cps.toList))) H))
def rNotIn3 (K : PySem.W.Frag) : R2 := fun x y H Q => rNotInD K x y H Q ∨ ((∃ d ds, Dp K H x d ∧ Dp K H y (.tuple ds) ∧ SeqAt.shaped d = true ∧ SeqAt.shaped (.tuple ds) = true ∧ Q (.bl (!ds.any fun z => PyData.eqv z d)) H) ∨ (∃ (c : Nat) (z : Str), x = .str ⟨#[c]⟩ ∧ y = .str z ∧ Q (.bl (!decide (c ∈ z.cps.toList))) H))
section
variable {X : Cx} {W : WX}
theorem op_inT (hu : X.A.units + 65 < cLine) : OpR X (compareOp .In) (fun x y H Q => ∃ d ds, Dp X.K H x d ∧ Dp X.K H y (.tuple ds) ∧ SeqAt.shaped d = true ∧ SeqAt.shaped (.tuple ds) = true ∧ Q (.bl (ds.any fun z => PyData.eqv z d)) H) := by
  intro pins s σ H x y v u Q I rx ry h
  obtain ⟨d, ds, hd, he, sd, se, q⟩ := h
  obtain ⟨as, r1⟩ := Dp.reads I d x v hd rx
  obtain ⟨bs, r2⟩ := Dp.reads I (.tuple ds) y u he ry
  exact SeqAt.in_tuple_reads r2 r1 (SeqAt.canLay_of_shaped se) (SeqAt.canLay_of_shaped sd) (room_in_shaped sd hu) ⟨.bl _, H, I, rfl, q⟩
theorem op_notInT (hu : X.A.units + 65 < cLine) : OpR X (compareOp .NotIn) (fun x y H Q => ∃ d ds, Dp X.K H x d ∧ Dp X.K H y (.tuple ds) ∧ SeqAt.shaped d = true ∧ SeqAt.shaped (.tuple ds) = true ∧ Q (.bl (!ds.any fun z => PyData.eqv z d)) H) := by
  intro pins s σ H x y v u Q I rx ry h
  obtain ⟨d, ds, hd, he, sd, se, q⟩ := h
  obtain ⟨as, r1⟩ := Dp.reads I d x v hd rx
  obtain ⟨bs, r2⟩ := Dp.reads I (.tuple ds) y u he ry
  exact SeqAt.notIn_tuple_reads r2 r1 (SeqAt.canLay_of_shaped se) (SeqAt.canLay_of_shaped sd) (room_in_shaped sd hu) ⟨.bl _, H, I, rfl, q⟩
theorem op_in3 (hu : X.A.units + 65 < cLine) : OpR X (compareOp .In) (rIn3 X.K) := OpR.or (op_inD hu) (OpR.or (op_inT hu) op_in_sign)
theorem op_notIn3 (hu : X.A.units + 65 < cLine) : OpR X (compareOp .NotIn) (rNotIn3 X.K) := OpR.or (op_notInD hu) (OpR.or (op_notInT hu) op_notIn_sign)
def cNotIn (d e : D) : Option Bool := (cIn d e).map not
theorem ok_in {K : PySem.W.Frag} : Ok2B K (rIn3 K) cIn := by
  intro P H x y d e z Q hP rx ry ez q
  unfold cIn at ez
  split at ez
  · split at ez <;> first | (cases ez; done) | skip
    rename_i hh
    rw [Bool.and_eq_true] at hh
    cases ez
    obtain ⟨a1, a2, _⟩ := dpo rx hh.1
    obtain ⟨b1, b2, _⟩ := dpo ry hh.2
    exact .inl ⟨_, _, a1, b1, a2, b2, q H (Same.refl H)⟩
  · split at ez <;> first | (cases ez; done) | skip
    rename_i hh
    rw [Bool.and_eq_true] at hh
    cases ez
    obtain ⟨a1, a2, _⟩ := dpo rx hh.1
    obtain ⟨b1, b2, _⟩ := dpo ry hh.2
    exact .inr (.inl ⟨_, _, a1, b1, a2, b2, q H (Same.refl H)⟩)
  · cases ez
    obtain ⟨rfl, _⟩ := rx
    obtain ⟨rfl, _⟩ := ry
    rename_i c s
    exact .inr (.inr ⟨_, _, rfl, rfl, by simpa using q H (Same.refl H)⟩)
  · cases ez
theorem ok_notIn {K : PySem.W.Frag} : Ok2B K (rNotIn3 K) cNotIn := by
  intro P H x y d e z Q hP rx ry ez q
  unfold cNotIn cIn at ez
  split at ez
  · split at ez <;> first | (cases ez; done) | skip
    rename_i hh
    rw [Bool.and_eq_true] at hh
    cases ez
    obtain ⟨a1, a2, _⟩ := dpo rx hh.1
    obtain ⟨b1, b2, _⟩ := dpo ry hh.2
    exact .inl ⟨_, _, a1, b1, a2, b2, q H (Same.refl H)⟩
  · split at ez <;> first | (cases ez; done) | skip
    rename_i hh
    rw [Bool.and_eq_true] at hh
    cases ez
    obtain ⟨a1, a2, _⟩ := dpo rx hh.1
    obtain ⟨b1, b2, _⟩ := dpo ry hh.2
    exact .inr (.inl ⟨_, _, a1, b1, a2, b2, q H (Same.refl H)⟩)
  · cases ez
    obtain ⟨rfl, _⟩ := rx
    obtain ⟨rfl, _⟩ := ry
    rename_i c s
    exact .inr (.inr ⟨_, _, rfl, rfl, by simpa using q H (Same.refl H)⟩)
  · cases ez
theorem op_min3 (hc : X.calm = true) : CallR X (.builtin "min") (rMin3 X.K) := L2.CallR.or (cr_min hc) (call_min2 hc)
theorem op_max3 (hc : X.calm = true) : CallR X (.builtin "max") (rMax3 X.K) := L2.CallR.or (cr_max hc) (call_max2 hc)
end
end AF

namespace AF
open PySem PySem.Spec PyProof.Rows L2 RT
open Sem (wp)
section
variable {prog : Program} {w : World} {A : Around} {E : Value → Shared → Prop} {s : Shared}
theorem extend_rev {R : Result → Shared → Prop} {it l : Addr} {items : Array Value} (hh : A.handled = none) (hit : s.heap.IsRevIter it l ((items.size : Int) - 1)) (hl : s.heap.IsList l items) (hne : l ≠ it) (hn : items.size ≤ sizeLine)
    (S : Addr) (hSi : S ≠ it) (hSl : S ≠ l) (res : Value) (c₀ : Nat) (hS : s.heap.get? S = some { cls := .type "list", data := .seq #[] c₀ })
    (hR : ∀ h' tk acc' c', (∀ b o, b ≠ S → b ≠ it → s.heap.get? b = some o → h'.get? b = some o) → h'.get? S = some { cls := .type "list", dict := none, data := .seq acc' c', slots := #[] } →
      ItemsOf (fun i v => items[items.size - 1 - i]? = some v) acc' items.size → R (.ok (.ret res)) { s with heap := h', toks := tk }) :
    wpAny (model prog w) A.in1 (Builtin.List.listExtendWith (.ref S) (.ref it) res)
      (fun fin s' => match fin with | .done f => R (.ok f) s' | .again c' => c'.quiet = true ∧ codeAny (model prog w) A c' R s') (fun e s' => R (.error e) s') s := by
  have W := (Walks.listRev (prog := prog) (w := w) (A := A.in1) hh it l hne items).toS
  have hSf : S ∉ [it, l] := by simp only [List.mem_cons, List.not_mem_nil, or_false, not_or]; exact ⟨hSi, hSl⟩
  have hT : s.TypeIs (.ref it) "list_reverseiterator" := hit.typeIs
  have h1 : Builtin.List.listSameRef (.ref S) (.ref it) = false := by simp [Builtin.List.listSameRef, hSi]
  unfold Builtin.List.listExtendWith
  refine wpAny_bind (wpAny_typeOf hT ?_)
  rw [if_neg (by rw [h1]; decide)]
  refine wpAny_bind (wpAny_pyIter_revIter hit ?_)
  refine wpAny_bind (wpAny_holding ?_)
  unfold Builtin.List.listLengthHint
  refine wpAny_bind (wpAny_specialOf hT nolen_lri ?_)
  show wpAny _ A.in1 (specialOf (Value.ref it) (Str.ofString "__length_hint__") >>= _) _ _ _
  refine wpAny_bind (wpAny_specialOf hT hint_lri ?_)
  generalize hid : ("list_reverseiterator.__length_hint__" : String) = id0
  wp_delta
  rw [show splitId id0 = some ("list_reverseiterator", "__length_hint__") from by subst hid; decide +kernel]
  subst hid
  refine wpAny_bind (wpAny_isInstance (b := true) hT (by rw [isSubtype_type]; kernel_rfl) ?_)
  refine wpAny_pure ?_
  rw [if_neg (by decide)]
  have e0 : ((items.size : Nat) : Int) - 1 - ((0 : Nat) : Int) = (items.size : Int) - 1 := by omega
  refine wpAny_pure ⟨plainId_quiet PySem.F.plain_extend_loop _, codeAny_extend_loopS W hn S hSf res items.size 0 _ #[] c₀ rfl (Nat.zero_le _) ⟨Nat.zero_le _, by rw [e0]; exact hit, hl⟩ hS (ItemsOf.nil _) fun s' acc' c' hm hS' hacc => ?_⟩
  rw [Moved.eq_with hm]
  refine hR s'.heap s'.toks acc' c' (fun b o hb hb2 e => hm.heap b o (fun hmem => ?_) e) hS' hacc
  rcases List.mem_cons.mp hmem with e' | hmem
  · exact hb e'
  · exact hb2 (List.mem_singleton.mp hmem)
theorem init_rev {R : Result → Shared → Prop} {it l : Addr} {items : Array Value} (hh : A.handled = none) (hit : s.heap.IsRevIter it l ((items.size : Int) - 1)) (hl : s.heap.IsList l items) (hne : l ≠ it) (hn : items.size ≤ sizeLine)
    (S : Addr) (hSi : S ≠ it) (hSl : S ≠ l) (hS : s.heap.get? S = some { cls := .type "list", data := .seq #[] })
    (hR : ∀ h' tk acc' c', (∀ b o, b ≠ S → b ≠ it → s.heap.get? b = some o → h'.get? b = some o) → h'.get? S = some { cls := .type "list", dict := none, data := .seq acc' c', slots := #[] } →
      ItemsOf (fun i v => items[items.size - 1 - i]? = some v) acc' items.size → R (.ok (.ret .none)) { s with heap := h', toks := tk }) :
    wpAny (model prog w) A.in1 (Builtin.«list.__init__» ⟨[.ref S, .ref it], []⟩)
      (fun fin s' => match fin with | .done f => R (.ok f) s' | .again c' => c'.quiet = true ∧ codeAny (model prog w) A c' R s') (fun e s' => R (.error e) s') s := by
  show wpAny _ _ (do let old ← Builtin.List.listItems (.ref S); Builtin.List.listUpdate (.ref S) (fun _ => #[]); letGo old.toList.reverse; Builtin.List.listExtendWith (.ref S) (.ref it) .none) _ _ s
  refine wpAny_bind ?_
  unfold Builtin.List.listItems
  refine wpAny_bind (wpAny_seqItems hS rfl (wpAny_pure ?_))
  show wpAny _ _ (updateSeq S (fun _ => #[]) >>= fun _ => letGo (#[] : Array Value).toList.reverse >>= fun _ => Builtin.List.listExtendWith (.ref S) (.ref it) .none) _ _ s
  refine wpAny_bind (wpAny_updateSeq hS rfl ?_)
  have hS₂ := Heap.get?_update_self (Obj.mapSeq (fun _ => (#[] : Array Value))) hS rfl
  have oth : ∀ b o, b ≠ S → s.heap.get? b = some o → (s.heap.update S (Obj.mapSeq (fun _ => (#[] : Array Value)))).get? b = some o :=
    fun b o hb e => (Heap.get?_update_other _ _ (Ne.symm hb)).trans e
  refine wpAny_bind (wpAny_letGo ?_)
  refine extend_rev hh (hit.at fun o e => oth it o (Ne.symm hSi) e) (hl.at fun o e => oth l o (Ne.symm hSl) e) hne hn S hSi hSl .none _ hS₂ fun h' tk acc' c' hk hS' hacc => ?_
  exact hR h' tk acc' c' (fun b o hb hb2 e => hk b o hb hb2 (oth b o hb e)) hS' hacc
theorem call_list_rev {Q : Value → Shared → Prop} {it l : Addr} {items : Array Value} (hh : A.handled = none) (hit : s.heap.IsRevIter it l ((items.size : Int) - 1)) (hl : s.heap.IsList l items) (hne : l ≠ it) (hn : items.size ≤ sizeLine)
    (hQ : ∀ h' tk acc' c', (∀ b o, b ≠ it → s.heap.get? b = some o → h'.get? b = some o) → h'.get? s.heap.objs.size = some { cls := .type "list", dict := none, data := .seq acc' c', slots := #[] } →
      ItemsOf (fun i v => items[items.size - 1 - i]? = some v) acc' items.size → Q (.ref s.heap.objs.size) { s with heap := h', toks := tk }) :
    wpAny (model prog w) A (call (.type "list") [.ref it]) Q E s := by
  refine callType_codes (Q₁ := fun obj s₁ => obj = .ref s.heap.objs.size ∧ s₁ = { s with heap := s.heap.push { cls := .type "list", data := .seq #[] } }) PySem.F.called_list (PySem.F.typeCall_list_1 _) PySem.F.entry_list_init
    (code_list_new _ ⟨rfl, rfl⟩) fun obj s₁ h₁ => ?_
  obtain ⟨rfl, rfl⟩ := h₁
  have hS : (s.heap.push { cls := .type "list", data := .seq #[] }).get? s.heap.objs.size = some { cls := .type "list", data := .seq #[] } := Heap.get?_push_size _ rfl
  obtain ⟨oi, hoi, _⟩ := id hit
  obtain ⟨ol, hol, _⟩ := id hl
  refine ⟨⟨_, hS, rfl⟩, PySem.F.args_list_init_2 _ _, init_rev (A := A.in1) hh (hit.at fun o e => Heap.get?_push_of_some _ e) (hl.push _) hne hn _ (Nat.ne_of_gt (Heap.lt_size hoi)) (Nat.ne_of_gt (Heap.lt_size hol)) hS fun h' tk acc' c' hk hS' hacc => ?_⟩
  exact ⟨rfl, hQ h' tk acc' c' (fun b o hb e => hk b o (Nat.ne_of_lt (Heap.lt_size e)) hb (Heap.get?_push_of_some _ e)) hS' hacc⟩
end
/-- list(reversed(x)), x a list: a new list -/
def tLstRev (K : PySem.W.Frag) (te : TE) : TE := fun σ H Q => te σ H fun v H1 => ∃ (a : Addr) (xs : List V), v = .ref a ∧ SqL K H1 a xs ∧ ∀ q, H1 q = none → Q (.ref q) (upd H1 q (.lst xs.reverse))
section
variable {X : Cx}
theorem pe_lstRev {e : Expr} {te : TE} {p p2 pos pos2 : Pos} (hc : X.calm = true) (hg : Gl X "list") (hm : X.mg "list" = none) (hg2 : Gl X "reversed") (hm2 : X.mg "reversed" = none) (he : PE X e te)
    (hs : starEach [e] X.env = (false, eval e X.env) :: starEach [] X.env := by rfl)
    (hs2 : starEach [.Call (.Name "reversed" p2) [e] [] pos2] X.env = (false, eval (.Call (.Name "reversed" p2) [e] [] pos2) X.env) :: starEach [] X.env := by rfl) :
    PE X (.Call (.Name "list" p) [.Call (.Name "reversed" p2) [e] [] pos2] [] pos) (tLstRev X.K te) := by
  refine ⟨fun pins s σ H Q I h => ?_⟩
  refine Call_ (ld_blt I hg hm boot_list (PyProof.Rows.callWith_type1 (args_cons (Call_ (ld_blt I hg2 hm2 PyProof.Rows.boot_reversed (PyProof.Rows.callWith_type1 (args_cons (thn (he.run pins s σ H _ I h) fun u s1 ⟨v, H1, I1, r1, q1⟩ => args_nil ?_) hs) hs rfl))) hs2) hs2 rfl))
  obtain ⟨a, xs, ev, hq, q⟩ := q1
  subst ev
  obtain rfl : u = Value.ref a := r1
  obtain ⟨its, rv, p', hz⟩ := I1.list hq
  refine call_reversed_list p'.isList (args_nil ?_)
  have k0 : ∀ b o, s1.heap.get? b = some o → (s1.heap.push (revObj a ((its.toArray.size : Int) - 1))).get? b = some o := fun b o e => Heap.get?_push_of_some _ e
  have I2 : Inv X pins σ H1 { s1 with heap := s1.heap.push (revObj a ((its.toArray.size : Int) - 1)) } := I1.kept (t' := s1.toks) k0
  obtain ⟨f0, f1, f2, f3, f4, f5⟩ := I1.fpOk (H' := H1) (b := s1.heap.objs.size) (Nat.le_refl _) (I1.hok.fresh (Nat.le_refl _))
  have hl := p'.isList
  obtain ⟨ol, hol, _⟩ := id hl
  have hne : a ≠ s1.heap.objs.size := Nat.ne_of_lt (Heap.lt_size hol)
  have hn : its.toArray.size ≤ sizeLine := by rw [List.size_toArray, ← rv.length]; exact hz
  refine call_list_rev (s := { s1 with heap := s1.heap.push (revObj a ((its.toArray.size : Int) - 1)) }) (I1.ok.hd hc) ⟨_, Heap.get?_push_size _ rfl, rfl, rfl⟩ (hl.push _) hne hn fun h' tk acc c' hk hS hi => ?_
  have hsz : (s1.heap.push (revObj a ((its.toArray.size : Int) - 1))).objs.size = s1.heap.objs.size + 1 := Heap.size_push _ _
  have k1 : ∀ b o, s1.heap.get? b = some o → h'.get? b = some o := fun b o e => hk b o (Nat.ne_of_lt (Heap.lt_size e)) (k0 b o e)
  have hge : s1.heap.objs.size ≤ (s1.heap.push (revObj a ((its.toArray.size : Int) - 1))).objs.size := by rw [hsz]; exact Nat.le_succ _
  refine ⟨.ref _, upd H1 _ (.lst xs.reverse), I1.laid (t' := tk) k1 hge (show ObjOk X.prog X.w _ h' _ (.lst xs.reverse) from ⟨by rw [List.length_reverse]; exact hz, acc.toList, c', vals_rev rv hi, ?_⟩), rfl, q _ (I1.hok.fresh hge)⟩
  rw [Array.toArray_toList]
  exact hS
def revL : D → Option (List D)
  | .lst xs => some xs.reverse
  | _ => none
def l1 (f : D → Option (List D)) (a : GE) : GL := fun env => (a env).bind fun x => Res.of (f x)
theorem fl_listRev {W : WX} {e : Expr} {g : GE} {p p2 pos pos2 : Pos} (hc : X.calm = true) (hm : X.mg "list" = none) (hm2 : X.mg "reversed" = none) (he : FE X W e g) (hg : Gl X "list" := by rfl) (hg2 : Gl X "reversed" := by rfl)
    (hs : starEach [e] X.env = (false, eval e X.env) :: starEach [] X.env := by rfl)
    (hs2 : starEach [.Call (.Name "reversed" p2) [e] [] pos2] X.env = (false, eval (.Call (.Name "reversed" p2) [e] [] pos2) X.env) :: starEach [] X.env := by rfl) :
    FL X W (.Call (.Name "list" p) [.Call (.Name "reversed" p2) [e] [] pos2] [] pos) (l1 revL g) := by
  refine PE.imp (pe_lstRev hc hg hm hg2 hm2 he hs hs2) fun σ H Q h => ?_
  obtain ⟨Γ, os, env, A, h⟩ := h
  refine ⟨Γ, os, env, A, WR.bind anti_L h fun d H1 _ s1 h1 v rv => ?_⟩
  obtain ⟨zs, ez, h2⟩ := WR.of h1
  cases d <;> first | (cases ez; done) | skip
  cases ez
  obtain ⟨a, vs, rfl, q1, q2⟩ := rv
  exact ⟨a, vs, rfl, (Same.sl (hid_same _ H1) q1), fun p hp => h2 _ (same_new hp) _ _ hp upd_same (reps_new hp q2.reverse)⟩
end
end AF

namespace AF
open PySem PySem.Spec PyProof.Rows L2
theorem bt_len : bootBuiltins "len" = some (.builtin "len") := by decide +kernel
theorem bt_abs : bootBuiltins "abs" = some (.builtin "abs") := by decide +kernel
theorem bt_isi : bootBuiltins "isinstance" = some (.builtin "isinstance") := by decide +kernel
theorem bt_sum : bootBuiltins "sum" = some (.builtin "sum") := by decide +kernel
theorem bt_min : bootBuiltins "min" = some (.builtin "min") := by decide +kernel
theorem bt_max : bootBuiltins "max" = some (.builtin "max") := by decide +kernel
theorem bt_all : bootBuiltins "all" = some (.builtin "all") := by decide +kernel
theorem bt_any : bootBuiltins "any" = some (.builtin "any") := by decide +kernel
theorem bt_int : bootBuiltins "int" = some (.type "int") := by decide +kernel
theorem bt_bool : bootBuiltins "bool" = some (.type "bool") := by decide +kernel
theorem bt_str : bootBuiltins "str" = some (.type "str") := by decide +kernel
theorem bt_list : bootBuiltins "list" = some (.type "list") := by decide +kernel
theorem bt_tuple : bootBuiltins "tuple" = some (.type "tuple") := by decide +kernel
theorem bt_dict : bootBuiltins "dict" = some (.type "dict") := by decide +kernel
theorem bt_type : bootBuiltins "type" = some (.type "type") := by decide +kernel
section
variable {X : Cx} {W : WX} {a b c e : Expr} {es : List Expr} {ga gb gc : GE} {g : GL} {pos p p2 pos2 : Pos}
/-- a built-in type as a value -/
theorem fe_ty {n : String} (hm : X.mg (Str.ofString n) = none) (hv : bootBuiltins (Str.ofString n) = some (.type n)) (hg : Gl X (Str.ofString n) := by rfl) (hn : Str.ofString n ≠ "__name__" := by decide) (hd : (Str.ofString n == ("__debug__" : Str)) = false := by decide) : FE X W (.Name (Str.ofString n) pos) (eC (.ty n)) :=
  fe_c (pe_bltn (v := .ty n) hg hm hv rfl hn hd) fun _ => rfl
/-- a module's constant -/
theorem fe_glob {x : Str} {d : D} {v : V} (h : ∃ u, X.mg x = some u ∧ RelV v u) (hr : ∀ H, Rep X.K H d v) (hg : Gl X x := by rfl) (hd : (x == ("__debug__" : Str)) = false := by decide) : FE X W (.Name x pos) (eC d) := by
  obtain ⟨u, hm, r⟩ := h
  exact fe_c (pe_glob hg hm r hd) hr
theorem fe_len (hm : X.mg "len" = none) (ha : FA X W [a] g) (hg : Gl X "len" := by rfl) (he : starEach [a] X.env = (false, eval a X.env) :: starEach [] X.env := by rfl) : FE X W (.Call (.Name "len" p) [a] [] pos) (eF fLen g) :=
  fe_callB call_len ok_len hm hg bt_len ha (by decide) (by decide) he rfl
theorem fe_abs (hm : X.mg "abs" = none) (ha : FA X W [a] g) (hg : Gl X "abs" := by rfl) (he : starEach [a] X.env = (false, eval a X.env) :: starEach [] X.env := by rfl) : FE X W (.Call (.Name "abs" p) [a] [] pos) (eF fAbs g) :=
  fe_callB call_abs ok_abs hm hg bt_abs ha (by decide) (by decide) he rfl
theorem fe_isi (hm : X.mg "isinstance" = none) (ha : FA X W [a, b] g) (hg : Gl X "isinstance" := by rfl) (he : starEach [a, b] X.env = (false, eval a X.env) :: starEach [b] X.env := by rfl) (hpl : (backTo pos (starEach [b] X.env)).any (·.1) = false := by rfl) : FE X W (.Call (.Name "isinstance" p) [a, b] [] pos) (eF fIsi g) :=
  fe_callB op_isi ok_isi hm hg bt_isi ha (by decide) (by decide) he hpl
theorem fe_sum (hm : X.mg "sum" = none) (hc : X.calm = true) (ha : FA X W [a] g) (hg : Gl X "sum" := by rfl) (he : starEach [a] X.env = (false, eval a X.env) :: starEach [] X.env := by rfl) : FE X W (.Call (.Name "sum" p) [a] [] pos) (eF fSum g) :=
  fe_callB (cr_sum hc) ok_sum hm hg bt_sum ha (by decide) (by decide) he rfl
theorem fe_all (hm : X.mg "all" = none) (hc : X.calm = true) (ha : FA X W [a] g) (hg : Gl X "all" := by rfl) (he : starEach [a] X.env = (false, eval a X.env) :: starEach [] X.env := by rfl) : FE X W (.Call (.Name "all" p) [a] [] pos) (eF fAll g) :=
  fe_callB (cr_all hc) ok_all hm hg bt_all ha (by decide) (by decide) he rfl
theorem fe_any (hm : X.mg "any" = none) (hc : X.calm = true) (ha : FA X W [a] g) (hg : Gl X "any" := by rfl) (he : starEach [a] X.env = (false, eval a X.env) :: starEach [] X.env := by rfl) : FE X W (.Call (.Name "any" p) [a] [] pos) (eF fAny g) :=
  fe_callB (cr_any hc) ok_any hm hg bt_any ha (by decide) (by decide) he rfl
theorem fe_min1 (hm : X.mg "min" = none) (hc : X.calm = true) (ha : FA X W [a] g) (hg : Gl X "min" := by rfl) (he : starEach [a] X.env = (false, eval a X.env) :: starEach [] X.env := by rfl) : FE X W (.Call (.Name "min" p) [a] [] pos) (eF fMin g) :=
  fe_callB (op_min3 hc) ok_min hm hg bt_min ha (by decide) (by decide) he rfl
theorem fe_max1 (hm : X.mg "max" = none) (hc : X.calm = true) (ha : FA X W [a] g) (hg : Gl X "max" := by rfl) (he : starEach [a] X.env = (false, eval a X.env) :: starEach [] X.env := by rfl) : FE X W (.Call (.Name "max" p) [a] [] pos) (eF fMax g) :=
  fe_callB (op_max3 hc) ok_max hm hg bt_max ha (by decide) (by decide) he rfl
theorem fe_min2 (hm : X.mg "min" = none) (hc : X.calm = true) (ha : FA X W [a, b] g) (hg : Gl X "min" := by rfl) (he : starEach [a, b] X.env = (false, eval a X.env) :: starEach [b] X.env := by rfl) (hpl : (backTo pos (starEach [b] X.env)).any (·.1) = false := by rfl) : FE X W (.Call (.Name "min" p) [a, b] [] pos) (eF fMin g) :=
  fe_callB (op_min3 hc) ok_min hm hg bt_min ha (by decide) (by decide) he hpl
theorem fe_max2 (hm : X.mg "max" = none) (hc : X.calm = true) (ha : FA X W [a, b] g) (hg : Gl X "max" := by rfl) (he : starEach [a, b] X.env = (false, eval a X.env) :: starEach [b] X.env := by rfl) (hpl : (backTo pos (starEach [b] X.env)).any (·.1) = false := by rfl) : FE X W (.Call (.Name "max" p) [a, b] [] pos) (eF fMax g) :=
  fe_callB (op_max3 hc) ok_max hm hg bt_max ha (by decide) (by decide) he hpl
theorem fe_cint (hm : X.mg "int" = none) (ha : FA X W [a] g) (hg : Gl X "int" := by rfl) (he : starEach [a] X.env = (false, eval a X.env) :: starEach [] X.env := by rfl) : FE X W (.Call (.Name "int" p) [a] [] pos) (eF fInt g) :=
  fe_callTy call_int1 ok_int hm hg bt_int ha (by decide) (by decide) he rfl
theorem fe_cbool (hm : X.mg "bool" = none) (ha : FA X W [a] g) (hg : Gl X "bool" := by rfl) (he : starEach [a] X.env = (false, eval a X.env) :: starEach [] X.env := by rfl) : FE X W (.Call (.Name "bool" p) [a] [] pos) (eF fBool g) :=
  fe_callTy call_bool1 ok_bool hm hg bt_bool ha (by decide) (by decide) he rfl
theorem fe_cstr (hm : X.mg "str" = none) (ha : FA X W [a] g) (hg : Gl X "str" := by rfl) (he : starEach [a] X.env = (false, eval a X.env) :: starEach [] X.env := by rfl) : FE X W (.Call (.Name "str" p) [a] [] pos) (eF fStr g) :=
  fe_callTy call_str_int ok_str hm hg bt_str ha (by decide) (by decide) he rfl
theorem fe_ctype (hm : X.mg "type" = none) (ha : FA X W [a] g) (hg : Gl X "type" := by rfl) (he : starEach [a] X.env = (false, eval a X.env) :: starEach [] X.env := by rfl) : FE X W (.Call (.Name "type" p) [a] [] pos) (eF fType g) :=
  fe_callTy cr_typeD ok_type hm hg bt_type ha (by decide) (by decide) he rfl
theorem fe_ctuple (hm : X.mg "tuple" = none) (ha : FA X W [a] g) (hg : Gl X "tuple" := by rfl) (he : starEach [a] X.env = (false, eval a X.env) :: starEach [] X.env := by rfl) : FE X W (.Call (.Name "tuple" p) [a] [] pos) (eF fTuple g) :=
  fe_callTy call_tuple_of ok_tuple hm hg bt_tuple ha (by decide) (by decide) he rfl
theorem fl_clist (hm : X.mg "list" = none) (ha : FA X W [a] g) (hg : Gl X "list" := by rfl) (he : starEach [a] X.env = (false, eval a X.env) :: starEach [] X.env := by rfl) : FL X W (.Call (.Name "list" p) [a] [] pos) (lF fList g) :=
  fl_callTy call_list_of ok_list hm hg bt_list ha (by decide) (by decide) he rfl
theorem fe_gcd (hm : X.mg "gcd" = some (.builtin "math.gcd")) (ha : FA X W [a, b] g) (hg : Gl X "gcd" := by rfl) (he : starEach [a, b] X.env = (false, eval a X.env) :: starEach [b] X.env := by rfl) (hpl : (backTo pos (starEach [b] X.env)).any (·.1) = false := by rfl) : FE X W (.Call (.Name "gcd" p) [a, b] [] pos) (eF fGcd g) :=
  fe_callBf cr_gcd ok_gcd hm hg ha (by decide) he hpl
/-! ### comparisons by name -/
variable {k : Nat}
theorem ft_eq (hr : Room k X.A) (ha : FE X W a ga) (hb : FE X W b gb) : FT X W (.Compare a [.Eq] [b] pos) (b2 cEq ga gb) := ft_cmp (op_eqD hr.units) ok_eq ha hb (nomark _)
theorem ft_ne (hr : Room k X.A) (ha : FE X W a ga) (hb : FE X W b gb) : FT X W (.Compare a [.NotEq] [b] pos) (b2 cNe ga gb) := ft_cmp (op_neD hr.units) ok_ne ha hb (nomark _)
theorem ft_lt (ha : FE X W a ga) (hb : FE X W b gb) : FT X W (.Compare a [.Lt] [b] pos) (b2 cLt ga gb) := ft_cmp oc_lt ok_cI ha hb (nomark _)
theorem ft_le (ha : FE X W a ga) (hb : FE X W b gb) : FT X W (.Compare a [.LtE] [b] pos) (b2 cLe ga gb) := ft_cmp oc_le ok_cI ha hb (nomark _)
theorem ft_gt (ha : FE X W a ga) (hb : FE X W b gb) : FT X W (.Compare a [.Gt] [b] pos) (b2 cGt ga gb) := ft_cmp oc_gt ok_cI ha hb (nomark _)
theorem ft_ge (ha : FE X W a ga) (hb : FE X W b gb) : FT X W (.Compare a [.GtE] [b] pos) (b2 cGe ga gb) := ft_cmp oc_ge ok_cI ha hb (nomark _)
theorem ft_is (ha : FE X W a ga) (hb : FE X W b gb) : FT X W (.Compare a [.Is] [b] pos) (b2 cIs ga gb) := ft_cmp op_isV ok_is ha hb (nomark _)
theorem ft_isnot (ha : FE X W a ga) (hb : FE X W b gb) : FT X W (.Compare a [.IsNot] [b] pos) (b2 cIsNot ga gb) := ft_cmp op_isNotV ok_isNot ha hb (nomark _)
theorem ft_in (hr : Room (k + 1) X.A) (ha : FE X W a ga) (hb : FE X W b gb) (hm : behindInMarks .In b = false := by rfl) : FT X W (.Compare a [.In] [b] pos) (b2 cIn ga gb) := ft_cmp (op_in3 (by have := hr.un; omega)) ok_in ha hb hm
theorem ft_notin (hr : Room (k + 1) X.A) (ha : FE X W a ga) (hb : FE X W b gb) (hm : behindInMarks .NotIn b = false := by rfl) : FT X W (.Compare a [.NotIn] [b] pos) (b2 cNotIn ga gb) := ft_cmp (op_notIn3 (by have := hr.un; omega)) ok_notIn ha hb hm
theorem fe_eq (hr : Room k X.A) (ha : FE X W a ga) (hb : FE X W b gb) : FE X W (.Compare a [.Eq] [b] pos) (eB (b2 cEq ga gb)) := fe_cmp (op_eqD hr.units) ok_eq ha hb (nomark _)
theorem fe_ne (hr : Room k X.A) (ha : FE X W a ga) (hb : FE X W b gb) : FE X W (.Compare a [.NotEq] [b] pos) (eB (b2 cNe ga gb)) := fe_cmp (op_neD hr.units) ok_ne ha hb (nomark _)
theorem fe_lt (ha : FE X W a ga) (hb : FE X W b gb) : FE X W (.Compare a [.Lt] [b] pos) (eB (b2 cLt ga gb)) := fe_cmp oc_lt ok_cI ha hb (nomark _)
theorem fe_le (ha : FE X W a ga) (hb : FE X W b gb) : FE X W (.Compare a [.LtE] [b] pos) (eB (b2 cLe ga gb)) := fe_cmp oc_le ok_cI ha hb (nomark _)
theorem fe_gt (ha : FE X W a ga) (hb : FE X W b gb) : FE X W (.Compare a [.Gt] [b] pos) (eB (b2 cGt ga gb)) := fe_cmp oc_gt ok_cI ha hb (nomark _)
theorem fe_ge (ha : FE X W a ga) (hb : FE X W b gb) : FE X W (.Compare a [.GtE] [b] pos) (eB (b2 cGe ga gb)) := fe_cmp oc_ge ok_cI ha hb (nomark _)
theorem fe_is (ha : FE X W a ga) (hb : FE X W b gb) : FE X W (.Compare a [.Is] [b] pos) (eB (b2 cIs ga gb)) := fe_cmp op_isV ok_is ha hb (nomark _)
theorem fe_isnot (ha : FE X W a ga) (hb : FE X W b gb) : FE X W (.Compare a [.IsNot] [b] pos) (eB (b2 cIsNot ga gb)) := fe_cmp op_isNotV ok_isNot ha hb (nomark _)
theorem fe_in (hr : Room (k + 1) X.A) (ha : FE X W a ga) (hb : FE X W b gb) (hm : behindInMarks .In b = false := by rfl) : FE X W (.Compare a [.In] [b] pos) (eB (b2 cIn ga gb)) := fe_cmp (op_in3 (by have := hr.un; omega)) ok_in ha hb hm
theorem fe_notin (hr : Room (k + 1) X.A) (ha : FE X W a ga) (hb : FE X W b gb) (hm : behindInMarks .NotIn b = false := by rfl) : FE X W (.Compare a [.NotIn] [b] pos) (eB (b2 cNotIn ga gb)) := fe_cmp (op_notIn3 (by have := hr.un; omega)) ok_notIn ha hb hm
/-- chains of order -/
theorem ft_lele (ha : FE X W a ga) (hb : FE X W b gb) (hc : FE X W c gc) (hm : lastMarks [.LtE, .LtE] [b, c] = false := by rfl) : FT X W (.Compare a [.LtE, .LtE] [b, c] pos) (bChain cLe cLe ga gb gc) := ft_chain oc_le ok_cI oc_le ok_cI ha hb hc hm
theorem ft_lelt (ha : FE X W a ga) (hb : FE X W b gb) (hc : FE X W c gc) (hm : lastMarks [.LtE, .Lt] [b, c] = false := by rfl) : FT X W (.Compare a [.LtE, .Lt] [b, c] pos) (bChain cLe cLt ga gb gc) := ft_chain oc_le ok_cI oc_lt ok_cI ha hb hc hm
theorem ft_ltle (ha : FE X W a ga) (hb : FE X W b gb) (hc : FE X W c gc) (hm : lastMarks [.Lt, .LtE] [b, c] = false := by rfl) : FT X W (.Compare a [.Lt, .LtE] [b, c] pos) (bChain cLt cLe ga gb gc) := ft_chain oc_lt ok_cI oc_le ok_cI ha hb hc hm
theorem ft_ltlt (ha : FE X W a ga) (hb : FE X W b gb) (hc : FE X W c gc) (hm : lastMarks [.Lt, .Lt] [b, c] = false := by rfl) : FT X W (.Compare a [.Lt, .Lt] [b, c] pos) (bChain cLt cLt ga gb gc) := ft_chain oc_lt ok_cI oc_lt ok_cI ha hb hc hm
/-- .. as values -/
theorem fe_chain {op op' : CmpOp} {r r' : R2} {f f' : D → D → Option Bool} (ho : OpR X (compareOp op) r) (hf : Ok2B X.K r f) (ho' : OpR X (compareOp op') r') (hf' : Ok2B X.K r' f') (ha : FE X W a ga) (hb : FE X W b gb) (hc : FE X W c gc) (hm : lastMarks [op, op'] [b, c] = false := by rfl) :
    FE X W (.Compare a [op, op'] [b, c] pos) (eB (bChain f f' ga gb gc)) := by
  refine PE.imp (pe_chain ho ho' ha hb hc hm) fun σ H Q h => ?_
  obtain ⟨Γ, os, env, A, h⟩ := h
  have h : WR X.K X.mg (Hd Γ os) W σ H ((bChain f f' ga gb gc env).bind fun b => .ok (.bl b)) (zE X.K (Hd Γ os) Q) := h
  have h' : WR X.K X.mg (Hd Γ os) W σ H (bChain f f' ga gb gc env) (zB fun b H' => Q (.bl b) H') := WR.bind anti_E h fun b H1 _ s1 h1 => WR.ok h1 (Same.refl H1) _ rfl
  refine ⟨Γ, os, env, A, WR.bind anti_B h' fun d H1 _ s1 h1 v rv => ⟨Γ, os, env, A.mono s1, WR.bind anti_B h1 fun e H2 _ s2 h2 w rw => ?_⟩⟩
  have h2' : WR X.K X.mg (Hd Γ os) W σ H2 (Res.of (f d e)) (fun _ k H' => ∀ H3, Same H' H3 → WR X.K X.mg (Hd Γ os) W σ H3 (if k = true then (gc env).bind fun z => Res.of (f' e z) else .ok false) (zB fun b H' => Q (.bl b) H')) :=
    WR.bind anti_B h2 fun k H3 _ s3 h3 H4 s4 => WR.mono anti_B h3 s4
  obtain ⟨k, ek, h3⟩ := WR.of h2'
  refine hf _ _ _ _ _ _ _ _ (A.hides.mono (s1.trans s2)) (Rep.mono (Same.hid s2) d v rv) rw ek fun H3 s3 => ⟨k, rfl, ?_⟩
  have h4 := h3 H3 s3 H3 (Same.refl H3)
  cases k with
  | false =>
    rw [if_neg Bool.false_ne_true]
    have q := WR.ok h4 (Same.refl H3)
    exact q
  | true =>
    rw [if_pos rfl]
    refine ⟨Γ, os, env, A.mono (s1.trans (s2.trans s3)), WR.bind anti_B h4 fun z H4 _ s4 h5 u ru => ?_⟩
    obtain ⟨k2, ek2, h6⟩ := WR.of h5
    exact hf' _ _ _ _ _ _ _ _ (A.hides.mono (s1.trans (s2.trans (s3.trans s4)))) (Rep.mono (Same.hid (s3.trans s4)) e w rw) ru ek2 fun H5 s5 => h6 H5 s5
theorem fe_lele (ha : FE X W a ga) (hb : FE X W b gb) (hc : FE X W c gc) (hm : lastMarks [.LtE, .LtE] [b, c] = false := by rfl) : FE X W (.Compare a [.LtE, .LtE] [b, c] pos) (eB (bChain cLe cLe ga gb gc)) := fe_chain oc_le ok_cI oc_le ok_cI ha hb hc hm
theorem fe_lelt (ha : FE X W a ga) (hb : FE X W b gb) (hc : FE X W c gc) (hm : lastMarks [.LtE, .Lt] [b, c] = false := by rfl) : FE X W (.Compare a [.LtE, .Lt] [b, c] pos) (eB (bChain cLe cLt ga gb gc)) := fe_chain oc_le ok_cI oc_lt ok_cI ha hb hc hm
/-! ### own lists, read -/
def scalD : D → Bool
  | .tup _ => false
  | .lst _ => false
  | _ => true
theorem scal_rep {K : PySem.W.Frag} {H H' : Hp} {d : D} {v : V} (h : scalD d = true) (r : Rep K H d v) : Rep K H' d v := by
  cases d <;> first | exact r | cases h
def bor {α : Type} (ok : α → Bool) (r : Res α) : Res α := match r with
  | .ok d => if ok d then .ok d else .stuck
  | .err (.plain x) => .err (.plain x)
  | .err (.one x f d) => if scalD d then .err (.one x f d) else .stuck
  | .stuck => .stuck
def eBor (i : Nat) (g : GE) : GE := fun env => bor scalD (g (frz i env))
def bBor (i : Nat) (g : GB) : GB := fun env => bor (fun _ => true) (g (frz i env))
theorem frz_agree {K : PySem.W.Frag} {Γ : Ga} {os : List (Option Addr)} {σ : L2.St} {H : Hp} {env : En} (A : Agree K Γ os σ H env) (i : Nat) : ∃ os', Agree K Γ os' σ H (frz i env) := by
  unfold frz
  split
  · exact ⟨_, A.freeze ‹_›⟩
  · exact ⟨os, A⟩
theorem bor_wish {K : PySem.W.Frag} {mg : Str → Option Value} {P P' : Addr → Prop} {σ : L2.St} {H : Hp} {α : Type} {ok : α → Bool} {r : Res α} {Z Z' : Hp → α → Hp → Prop} (h : WR K mg P W σ H (bor ok r) Z) (hz : ∀ d H', ok d = true → Z H d H' → Z' H d H') : WR K mg P' W σ H r Z' := by
  cases r with
  | ok d =>
    have h : WR K mg P W σ H (if ok d = true then .ok d else .stuck) Z := h
    by_cases hk : ok d = true
    · rw [if_pos hk] at h
      exact fun H' s => hz d H' hk (h H' s)
    · rw [if_neg hk] at h
      exact h.elim
  | err e =>
    cases e with
    | plain x => exact fun c pd H' s q => h c pd H' s q
    | one x f d =>
      have h : WR K mg P W σ H (if scalD d = true then .err (.one x f d) else .stuck : Res α) Z := h
      by_cases hk : scalD d = true
      · rw [if_pos hk] at h
        intro c pd H' s q
        obtain ⟨C, p, v, q1, q2, q3, q4, q5⟩ := q
        exact h c pd H' s ⟨C, p, v, q1, q2, q3, q4, scal_rep hk q5⟩
      · rw [if_neg hk] at h
        exact h.elim
  | stuck => exact h
theorem fe_bor (i : Nat) (h : FE X W a ga) : FE X W a (eBor i ga) := by
  refine PE.imp h fun σ H Q h => ?_
  obtain ⟨Γ, os, env, A, h⟩ := h
  obtain ⟨os', A'⟩ := frz_agree A i
  exact ⟨Γ, os', _, A', bor_wish h fun d H' hs q v r => q v (scal_rep hs r)⟩
theorem ft_bor {q : GB} (i : Nat) (h : FT X W a q) : FT X W a (bBor i q) := by
  refine PT.imp h fun σ H Q h => ?_
  obtain ⟨Γ, os, env, A, h⟩ := h
  obtain ⟨os', A'⟩ := frz_agree A i
  exact ⟨Γ, os', _, A', bor_wish h fun d H' hs q => q⟩
/-- an item of an own list -/
def eIxO (i : Nat) (g : GE) : GE := fun env => match env[i]? with
  | some (.own ds) => (g env).bind fun k => Res.of (dIx (.lst ds) k)
  | _ => .stuck
theorem fe_ixO (i : Nat) {x : Str} (hb : FE X W b gb) (hN : X.N[i]? = some x := by rfl) (hv : Vis X.env.scope x := by first | exact Or.inl rfl | exact Or.inr (Or.inl rfl) | exact Or.inr (Or.inr rfl)) (hd : (x == ("__debug__" : Str)) = false := by decide)
    (hcd : (x == ("__classdict__" : Str)) = false := by decide) (hs : PlainIx b := by exact fun _ _ => rfl) : FE X W (.Subscript (.Name x p) b pos) (eIxO i gb) := by
  refine PE.imp (pe_ix ix_list (pe_var hN hv hd hcd) hb hs) fun σ H Q h => ?_
  obtain ⟨Γ, os, env, A, h⟩ := h
  have h : WR X.K X.mg (Hd Γ os) W σ H (match env[i]? with | some (.own ds) => (gb env).bind fun k => Res.of (dIx (.lst ds) k) | _ => .stuck) (zE X.K (Hd Γ os) Q) := h
  cases ei : env[i]? with
  | none => rw [ei] at h; exact h.elim
  | some sl =>
    rw [ei] at h
    cases sl with
    | unk => exact h.elim
    | val d => exact h.elim
    | pin d => exact h.elim
    | lent d => exact h.elim
    | own ds =>
      obtain ⟨q, vs, ho, hσ, hp, hr⟩ := A.own ei
      refine ⟨.ref q, hσ, Γ, os, env, A, WR.bind anti_E h fun k H1 _ s1 h1 w rw => ?_⟩
      obtain ⟨z, ez, h3⟩ := WR.of h1
      cases k <;> first | (cases ez; done) | skip
      cases rw
      obtain ⟨v, e1, e2⟩ := atI_rep hr ez
      exact ⟨q, vs, _, v, rfl, rfl, .inl (.inl (s1 _ _ hp)), e1, h3 H1 (Same.refl H1) v (Rep.mono (Same.hid s1) _ _ e2)⟩
end
/-! ### the law's own end, recursion -/
section
variable {P : Program} {w : World} {K : PySem.W.Frag} {mg : Str → Option Value} {base : Heap}
theorem fk_stuck {x : Str} {n : Nat} {st : Stmt} {f : Addr} {fd : FuncData} {ps : List Str} (F : Fun K x x st f fd) (hm : mg x = some (.ref f))
    (hb : ∀ (kV doc pm : Value) (an : Option Addr) (cdv ct : Value) (us : List Value), us.length = ps.length → bindArgs (PySem.W.fnOf x x (defArgs st) (defBody st) (defScope st) .none kV doc pm an cdv ct) ⟨us, []⟩ = pure (ps.zip us)) : Fk P w K mg base 1 x n (fun _ => .stuck) :=
  ⟨⟨f, fd, ps, ⟨fun vs H Q E h => by
    obtain ⟨_, _, _, _, _, h⟩ := h
    exact h.elim, fun A outer s H args us vs Q E _ _ _ _ h => by
    obtain ⟨_, _, _, _, _, h⟩ := h
    exact h.elim⟩, hm, F.kp, F.binds hb⟩, fun _ _ => rfl⟩
end
end AF

namespace AF
open PySem PySem.Spec PyProof.Rows L2
theorem Ok2.or {K : PySem.W.Frag} {r r' : R2} {f f' : D → D → Option D} (h : Ok2 K r f) (h' : Ok2 K r' f') : Ok2 K (fun x y H Q => r x y H Q ∨ r' x y H Q) (fun d e => match f d e with | some z => some z | none => f' d e) := by
  intro P H x y d e z Q hP rx ry ez q
  cases ef : f d e with
  | some z' =>
    simp only [ef] at ez
    cases ez
    exact .inl (h P H x y d e _ Q hP rx ry ef q)
  | none =>
    simp only [ef] at ez
    exact .inr (h' P H x y d e z Q hP rx ry ez q)
theorem Ok2L.d {K : PySem.W.Frag} {r : R2} {f : D → D → Option (List D)} (h : Ok2L K r f) : Ok2 K r (fun d e => (f d e).map .lst) := by
  intro P H x y d e z Q hP rx ry ez q
  have ez : (f d e).map D.lst = some z := ez
  cases ef : f d e with
  | none => rw [ef] at ez; cases ez
  | some zs =>
    rw [ef] at ez
    cases ez
    exact h P H x y d e zs Q hP rx ry ef fun p vs H' s n e r => q (.ref p) H' s (lst_of_new hP n e r)
/-- + of ints, texts, tuples, lists -/
def dPlus : D → D → Option D := fun d e => match dAdd d e with
  | some z => some z
  | none => (lAdd d e).map .lst
section
variable {X : Cx} {W : WX} {a b : Expr} {ga gb : GE} {pos : Pos}
theorem fe_plus (ha : FE X W a ga) (hb : FE X W b gb) : FE X W (.BinOp a .Add b pos) (e2 dPlus ga gb) := fe_op (OpR.or op_add3 op_catL) (Ok2.or ok_add3 ok_catL.d) ha hb
def sThen (i : Nat) (p : GS) : GS := fun env => match p env with
  | .next e => .next (frz i e)
  | r => r
theorem fs_then {st : Stmt} {p : GS} (i : Nat) (h : FS X W st p) : FS X W st (sThen i p) := by
  refine PS.imp h fun Dn σ H h => ?_
  obtain ⟨Γ, os, env, A, h⟩ := h
  refine ⟨Γ, os, env, A, ?_⟩
  unfold sThen at h
  revert h
  cases p env with
  | next e =>
    intro h os' σ' H' A'
    obtain ⟨os2, A2⟩ := frz_agree A' i
    exact h os2 σ' H' A2
  | brk e => exact id
  | cont e => exact id
  | ret d => exact id
  | err x e => exact id
  | stuck => exact id
end
section
variable {P : Program} {w : World} {K : PySem.W.Frag} {mg : Str → Option Value} {base : Heap}
theorem fk_mk {x : Str} {st : Stmt} {f : Addr} {fd : FuncData} {N ps : List Str} {k n nn : Nat} {g : GS} (F : Fun K x x st f fd) (S : FnScope N ps (defScope st)) (hm : mg x = some (.ref f))
    (hb : ∀ (kV doc pm : Value) (an : Option Addr) (cdv ct : Value) (us : List Value), us.length = ps.length → bindArgs (PySem.W.fnOf x x (defArgs st) (defBody st) (defScope st) .none kV doc pm an cdv ct) ⟨us, []⟩ = pure (ps.zip us))
    (hps : ps.length = n) (hnn : N.length = nn) (hle : n ≤ nn)
    (body : ∀ (cdv : Value) (A : Around) (outer : List Env) (s : Shared) (H : Hp) (E : XK), Room k (A.deeper (envOfC x (defScope st) s.heap.objs.size f cdv)) →
      Takes (cxOf (L2.CX P w) P w K mg base N x (defScope st) f cdv A outer s H E) (fun c pd _ H' => E c pd H') →
      PassesOwn (model P w) (A.deeper (envOfC x (defScope st) s.heap.objs.size f cdv)) (envOfC x (defScope st) s.heap.objs.size f cdv) (cxOf (L2.CX P w) P w K mg base N x (defScope st) f cdv A outer s H E).xe →
      FSs (cxOf (L2.CX P w) P w K mg base N x (defScope st) f cdv A outer s H E) (fun c pd _ H' => E c pd H') (defBody st) g) : Fk P w K mg base (k + 1) x n (runF n nn g) :=
  fk_of F S hm hb hps hnn hle fun cdv A outer s H E hr => body cdv A outer s H E hr (takes_of rfl rfl rfl rfl) (passes_of (X := cxOf (L2.CX P w) P w K mg base N x (defScope st) f cdv A outer s H E) rfl)
theorem fn_mk {x : Str} {st : Stmt} {f : Addr} {fd : FuncData} {N ps : List Str} {k n nn : Nat} {g : GS} (F : Fun K x x st f fd) (S : FnScope N ps (defScope st)) 
    (hps : ps.length = n) (hnn : N.length = nn) (hle : n ≤ nn)
    (body : ∀ (cdv : Value) (A : Around) (outer : List Env) (s : Shared) (H : Hp) (E : XK), Room k (A.deeper (envOfC x (defScope st) s.heap.objs.size f cdv)) →
      Takes (cxOf (L2.CX P w) P w K mg base N x (defScope st) f cdv A outer s H E) (fun c pd _ H' => E c pd H') →
      PassesOwn (model P w) (A.deeper (envOfC x (defScope st) s.heap.objs.size f cdv)) (envOfC x (defScope st) s.heap.objs.size f cdv) (cxOf (L2.CX P w) P w K mg base N x (defScope st) f cdv A outer s H E).xe →
      FSs (cxOf (L2.CX P w) P w K mg base N x (defScope st) f cdv A outer s H E) (fun c pd _ H' => E c pd H') (defBody st) g) : FnOk P w K mg base (L2.CX P w) (k + 1) f fd ps (spF K mg n (runF n nn g)) :=
  fn_of F S hps hnn hle fun cdv A outer s H E hr => body cdv A outer s H E hr (takes_of rfl rfl rfl rfl) (passes_of (X := cxOf (L2.CX P w) P w K mg base N x (defScope st) f cdv A outer s H E) rfl)
end
end AF

set_option maxHeartbeats 800000
namespace AF
open PySem PySem.Spec PyProof.Rows L2 NdefX

/-! ### own exceptions with a field: super().__init__(r); self.f = r -/
def supF (c f : Str) (st : Stmt) (cda cc : Addr) : NF := ⟨"__init__", c ++ ".__init__", defArgs st, defBody st, defScope st, [("__class__", cc)], cda⟩
structure SupC (K : PySem.W.Frag) (mg : Str → Option Value) (c f : Str) (st : Stmt) (C fI cda cc : Addr) : Prop where
  g : mg c = some (.ref C)
  T : OexC K C
  X : XfC K C
  iC : PySem.W.findIn K (.ref C) "__init__" = some (some (.ref fI))
  tI : PySem.W.typeIn K (.ref fI) = some (.type "function")
  lF : ∃ oc od sl doc pm ctv, K.lookup fI = some ⟨oc, od, .func ((supF c f st cda cc).fd doc pm ctv), sl⟩
  cF : PySem.W.codeIn K (.ref cda) (c ++ ".__init__") = true
  lC : ∃ oc od vs sl tf, K.lookup cda = some ⟨oc, od, .fields vs, sl⟩ ∧ vs[2]? = some (.str (Str.ofString "/claim/cut.py") tf)
  lcc : ∃ oc od sl, K.lookup cc = some ⟨oc, od, .cell (some (.ref C)), sl⟩
  hD : ∃ cd, PySem.W.clsIn K C = some cd
  hsub : PySem.W.mroIn K C (.ref C) = some true
  hVE : PySem.W.mroIn K C (.type "ValueError") = some true
  hsup : PySem.W.ks_superIn K C C "__init__" = some (some (.builtin "ValueError.__init__"))
  hno : PySem.W.nsIn K cStatics "thirdparty.any" = some none
  hz : mg "super" = none
  nof : PySem.W.findIn K (.ref C) f = some none
/-- the promise of such an __init__ -/
def spI (C : Addr) (f : Str) : Sp := fun vs H Q _ => ∃ e r, vs = [.ref e, r] ∧ H e = some (exo e C none) ∧ ∀ H2 dx, (∀ b x, b ≠ e → H b = some x → H2 b = some x) → H dx = none → H2 e = some (exo e C (some dx)) → H2 dx = some (exd dx [(f, r)]) → Q .non H2
theorem call_mw {X : Cx} {pins : List (Addr × Obj)} {σ : L2.St} {H : Hp} {s : Shared} {A : Around} {E : Value → Shared → Prop} {a u C : Addr} {us : List Value} {Q : Value → Shared → Prop} (T : OexC X.K C) (I : Inv X pins σ H s) (e : H a = some (exo a C none))
    (hu : s.heap.get? u = some (PySem.W.kxs_mw "ValueError.__init__" a)) (hl : us.length ≤ sizeLine) (h : ∀ s', Inv X pins σ H s' → Q .none s') : wpAny (model X.prog X.w) A (call (.ref u) us) Q E s := by
  obtain ⟨nm, q, N, bs, bm, sn, sub, ab, col, dd, k0, k1, k2, k3, k5, hC, hbm⟩ := T.cls
  obtain ⟨t1, ho⟩ := exo_at I.hok e
  have hC' := I.kIn _ _ hC
  obtain ⟨hp, g, d, t, os⟩ := s
  have fin : ∀ h' t2, (∀ b o, b ≠ a → hp.get? b = some o → h'.get? b = some o) → h'.get? a = some (PySem.HandSPX.excO C t2) → Q .none ⟨h', g, d, t, os⟩ := fun h' t2 k hx => by
    have J := I.write (t' := t) (x := a) (e := a) (o := exo a C none) (by rw [e]; exact True.intro) (.inl rfl) k ⟨_, hx⟩ (exo_ok hx)
    have eu : upd H a (exo a C none) = H := funext fun b => by
      by_cases hb : b = a
      · rw [hb, upd_same, e]
      · rw [upd_ne hb]
    rw [eu] at J
    exact h _ J
  refine wpAny_call (codeAny_of_tree (show wpAny _ A.in1 (callAny (.ref u) ⟨us, []⟩) _ _ _ from ?_)); simp only [callAny]
  refine wpAny_bind (wpAny_load hu ?_); simp only [PySem.W.kxs_mw, show (Value.type "method-wrapper" == Value.type "method" || Value.type "method-wrapper" == Value.type "builtin_function_or_method" || Value.type "method-wrapper" == Value.type "method-wrapper") = true by decide, if_true]
  refine PySem.W.KFB.if_so (by decide) (wpAny_bind (PySem.W.check_bound_init PySem.F.excCall_ValueError hC' ho rfl (wpAny_bind (wpAny_pure (wpAny_pure ⟨Code.quiet_builtin _ (by decide +kernel), codeAny_builtin PySem.F.excBase_ValueError.initEntry ?_⟩)))))
  rw [Around.under_plainId PySem.F.excBase_ValueError.init.plain _]
  wp_walk
  refine fin _ hp.objs.size (fun b o hb hbo => (Heap.get?_update_other _ _ (Ne.symm hb)).trans (Heap.get?_push_of_some _ hbo)) ?_
  rw [Heap.get?_update_self _ (Heap.get?_push_of_some _ ho) rfl]; rfl
section
variable {P : Program} {w : World} {K : PySem.W.Frag} {mg : Str → Option Value} {base : Heap} {c f : Str} {st : Stmt} {C fI cda cc : Addr} {p0 p1 p2 p3 p4 p5 p6 p7 p8 p9 : Pos} {a : Str}
theorem sup_fn (T : SupC K mg c f st C fI cda cc) (hS : NScope ["self", a, "__class__"] ["self", a] ["__class__"] (defScope st))
    (hbody : defBody st = [.Expr (.Call (.Attribute (.Call (.Name "super" p0) [] [] p1) "__init__" p2) [.Name a p3] [] p4) p5, .Assign [.Attribute (.Name "self" p6) f p7] (.Name a p8) p9])
    (hks : (defScope st).names.lookup ("super" : Str) = some .globalImplicit) (har : ∃ ar, ((defArgs st).posonlyargs ++ (defArgs st).args).head? = some ar ∧ ar.arg = "self")
    (hfile : P.main.file = "/claim/cut.py") (htop : (P.main.scope.names.lookup ("super" : Str)).isSome = false) (pl : Sem Bool) (hcall : ∀ L g, eval (.Call (.Attribute (.Call (.Name "super" p0) [] [] p1) "__init__" p2) [.Name a p3] [] p4) (envF (supF c f st cda cc) g L) = (do
      let ov ← attributeBase (.Call (.Name "super" p0) [] [] p1) "__init__" (envF (supF c f st cda cc) g L) (eval (.Call (.Name "super" p0) [] [] p1) (envF (supF c f st cda cc) g L))
      standAt p2.atName
      let (fn, first) ← holding [ov] (getMethod ov "__init__" pl)
      callWith p4 fn first (backTo p4 (starEach [.Name a p3] (envF (supF c f st cda cc) g L))) []))
    (hint : ∀ L g, interactive (envF (supF c f st cda cc) g L) = false)
    (hsw2 : ∀ L g, swapsWith (.Name a p8) (some (.Attribute (.Name "self" p6) f p7)) p9.line (envF (supF c f st cda cc) g L) = pure false)
    (hsw : ∀ L g, swapsWith (.Call (.Attribute (.Call (.Name "super" p0) [] [] p1) "__init__" p2) [.Name a p3] [] p4) none p5.line (envF (supF c f st cda cc) g L) = pure false) (ha1 : (a == ("__debug__" : Str)) = false) (ha2 : (a == ("__classdict__" : Str)) = false)
    {oc : Value} {od : Option Addr} {sl : Array (Option Value)} {doc pm ctv : Value} (lF : K.lookup fI = some ⟨oc, od, .func ((supF c f st cda cc).fd doc pm ctv), sl⟩) :
    FnOk P w K mg base (L2.CX P w) 1 fI ((supF c f st cda cc).fd doc pm ctv) ["self", a] (spI C f) := by
  refine ⟨fun vs H Q E h => by obtain ⟨e, r, rfl, _⟩ := h; rfl, fun A outer s H args us vs Q E hr e0 hb r h => ?_⟩
  obtain ⟨e, rv, rfl, he, q⟩ := h
  have kin : K.In s.heap := fun b o z => (e0.bs b o (e0.mod.kin b o z)).1
  have lim : s.heap.NoLimit := e0.mod.nolimit.keeps fun b o z => (e0.bs b o z).1
  obtain ⟨occ, odc, slc, lcc⟩ := T.lcc
  obtain ⟨mb, hmb, hmb2⟩ := e0.mod.blt
  have hHcc : H cc = none := (e0.bs _ _ (e0.mod.kin _ _ lcc)).2
  have CA : CellsAt (supF c f st cda cc).cl ["__class__"] [some (.ref C)] s.heap H := by
    have one : ∀ y c', (supF c f st cda cc).cl.lookup y = some c' → y = "__class__" ∧ c' = cc := fun y c' h => by
      have h : List.lookup y [(("__class__" : Str), cc)] = some c' := h
      rw [List.lookup_cons] at h
      cases hy : y == ("__class__" : Str) with
      | true => rw [hy] at h; cases h; exact ⟨beq_iff_eq.mp hy, rfl⟩
      | false => rw [hy] at h; cases h
    have isc : s.heap.IsCell cc (some (.ref C)) := ⟨_, kin _ _ lcc, rfl⟩
    refine ⟨rfl, fun y c' h => ?_, fun x y c' h1 h2 => ?_, fun i y h => ?_⟩
    · obtain ⟨_, rfl⟩ := one y c' h
      exact ⟨hHcc, _, isc⟩
    · rw [(one x c' h1).1, (one y c' h2).1]
    · match i, h with
      | 0, h =>
        cases h
        exact ⟨cc, by rfl, fun v hv => by cases hv; exact ⟨.ref C, rfl, isc⟩⟩
  cases r with
  | @cons _ u0 _ ur r1 r' =>
  cases r' with
  | @cons _ u1 _ ur' r2 r'' =>
  cases r''
  obtain rfl : u0 = Value.ref e := r1
  refine PySem.ks_codeAny_call_defAt (fd := (supF c f st cda cc).fd doc pm ctv) (body := defBody st) hr.depth (kin _ _ lF) rfl lim (PySem.W.codeRec_of kin T.cF) rfl hb hS.nocell ?_ (fun h₁ hns kp => ?_) hS.co hS.gen hS.kind
  · intro y hy
    exact hS.par _ (List.of_mem_zip hy).1
  have I := inv_startN (CX := L2.CX P w) (F := supF c f st cda cc) (f := fI) (ws := [some (.ref C)]) (vs := [.ref e, rv]) (us := [.ref e, u1]) (E := E) (tk := s.toks + ((["self", a] : List Str).zip [Value.ref e, u1]).length) hS hr.hd e0 rfl (.cons rfl (.cons r2 .nil)) CA hns kp
  obtain ⟨cdD, hD⟩ := T.hD
  obtain ⟨ar, har1, har2⟩ := har
  obtain ⟨ocC, odC, vsC, slC, tfC, lC, hvsC⟩ := T.lC
  have hkc : (envF (supF c f st cda cc) fI s.heap.objs.size).kindOf "__class__" = some .free := hS.frk _ (by simp)
  have kin1 : K.In h₁ := fun b o z => kp _ _ (kin b o z)
  have hself : (envF (supF c f st cda cc) fI s.heap.objs.size).kindOf "self" = some .local := hS.par _ (by simp)
  have hC0 : ∃ oD, h₁.get? C = some oD ∧ oD.data = .cls cdD := by
    have hD' := hD
    unfold PySem.W.clsIn at hD'
    split at hD'
    · rename_i c0 d0 cd0 sl0 ho
      cases hD'
      exact ⟨_, kin1 _ _ ho, rfl⟩
    · cases hD'
  obtain ⟨oD, hoD1, hoD2⟩ := hC0
  obtain ⟨t1, hex⟩ := exo_at I.hok he
  rw [hbody]
  refine PySem.ks_wpAt_execs_cons (PySem.ks_wpAt_Expr_any (PySem.ks_wpAt_MethodCall (pl := pl) ?_ (hcall _ _)) (hint _ _) (hsw _ _))
  refine PySem.ks_wpAt_super_base (env := envF (supF c f st cda cc) fI s.heap.objs.size) hks hkc rfl rfl (kin1 _ _ lF) rfl har1 rfl (kin1 _ _ lC) rfl hvsC (by rw [hfile]; rfl) htop ?_
  refine PySem.W.ks_loadName_global hS.kind hks (Calls.loadGlobal_builtin (env := envF (supF c f st cda cc) fI s.heap.objs.size) (mg := mg) (mb := mb) ((e0.mod.glob.keeps fun b o z => kp _ _ (e0.bs b o z).1)) T.hz (hmb.keeps fun b o z => kp _ _ (e0.bs b o z).1) ((hmb2 _ (by decide)).trans PyProof.Rows.Boot.«super») ⟨rfl, ?_⟩)
  refine wpAny_loadName_free hS.kind hkc (by rfl) ⟨_, kin1 _ _ lcc, rfl⟩ ?_
  rw [har2]
  refine wpAny_loadName_local hS.kind hself hns (v := .ref e) ?_ ?_
  · have nda : ("self" : Str) ≠ a := fun z => by
      have := hS.nd
      rw [← z] at this
      exact absurd this (by simp)
    show List.lookup ("self" : Str) [(a, u1), ("self", Value.ref e)] = some (.ref e)
    rw [List.lookup_cons, beq_false_of_ne nda]
    rfl
  refine PySem.ks_wpAny_isType_cls hoD1 hoD2 ⟨rfl, ?_⟩
  refine PySem.ks_wpAny_call_super hoD1 hoD2 hex rfl (fun c e => by cases e) (PySem.W.looks_mroIn kin1 T.hsub) (fun h2 hso k2 => ?_)
  have I2 := I.laid (h' := h2) (t' := s.toks + ((["self", a] : List Str).zip [Value.ref e, u1]).length) (a := h₁.objs.size) (o := .ext fun h => h.get? h₁.objs.size = some (PySem.W.ks_superObj C e C)) k2 (Nat.le_refl _) (show ObjOk P w _ _ _ (.ext _) from ⟨hso, ⟨_, hso⟩, fun h1 h2 z k => k _ z⟩)
  have kin2 : K.In h2 := fun b o z => k2 _ _ (kin1 b o z)
  have IA : PySem.W.InstAt h2 e _ C none := ⟨k2 _ _ hex, rfl, rfl, trivial⟩
  have hsup : PySem.W.alongIn K "__init__" ((cdD.mro.dropWhile (· != .ref C)).drop 1) = some (some (.builtin "ValueError.__init__")) := by
    have z := T.hsup
    unfold PySem.W.ks_superIn at z
    rw [hD] at z
    exact z
  refine PySem.W.kxs_getMethod PySem.W.kxs_ValueError hso (PySem.W.looks_opaque kin2 T.hno) (l₀ := cdD.mro) ((PySem.W.looks_clsIn kin2 hD).andThen .now) rfl kin2 hsup (IA.type.andThen (PySem.W.looks_mroIn kin2 T.hVE)) (PySem.W.ks_ne kin2 IA hD) rfl ?_
  have nso : e ≠ h₁.objs.size := fun z => by
    rw [z] at hex
    exact absurd (Heap.lt_size hex) (Nat.lt_irrefl _)
  have I3 := I2.laid (h' := h2.push (PySem.W.kxs_mw "ValueError.__init__" e)) (t' := s.toks + ((["self", a] : List Str).zip [Value.ref e, u1]).length + 1) (a := h2.objs.size) (o := .ext fun h => h.get? h2.objs.size = some (PySem.W.kxs_mw "ValueError.__init__" e)) (fun b o z => Heap.get?_push_of_some _ z) (Nat.le_refl _) (show ObjOk P w _ _ _ (.ext _) from ⟨Heap.get?_push_size _ rfl, ⟨_, Heap.get?_push_size _ rfl⟩, fun h1 h2 z k => k _ z⟩)
  have nu : e ≠ h2.objs.size := fun z => by
    have := IA.at_
    rw [z] at this
    exact absurd (Heap.lt_size this) (Nat.lt_irrefl _)
  generalize hH3 : upd (upd H h₁.objs.size (.ext fun h => h.get? h₁.objs.size = some (PySem.W.ks_superObj C e C))) h2.objs.size (.ext fun h => h.get? h2.objs.size = some (PySem.W.kxs_mw "ValueError.__init__" e)) = H3 at I3
  have he3 : H3 e = some (exo e C none) := by rw [← hH3]; exact (upd_ne nu).trans ((upd_ne nso).trans he)
  have hu3 : H3 h2.objs.size = some (.ext fun h => h.get? h2.objs.size = some (PySem.W.kxs_mw "ValueError.__init__" e)) := by rw [← hH3]; exact upd_same
  have n1 : H h₁.objs.size = none := I.hok.fresh (Nat.le_refl _)
  have n2 : H h2.objs.size = none := by
    have z : upd H h₁.objs.size (.ext fun h => h.get? h₁.objs.size = some (PySem.W.ks_superObj C e C)) h2.objs.size = none := I2.hok.fresh (Nat.le_refl _)
    by_cases hb : h2.objs.size = h₁.objs.size
    · rw [hb]; exact n1
    · rwa [upd_ne hb] at z
  have same3 : ∀ b x, H b = some x → H3 b = some x := fun b x z => by
    rw [← hH3]
    exact (upd_ne (ne_of_none z n2)).trans ((upd_ne (ne_of_none z n1)).trans z)
  have vis1 : Vis (envF (supF c f st cda cc) fI s.heap.objs.size).scope a := .inl (hS.par _ (by simp))
  have vis0 : Vis (envF (supF c f st cda cc) fI s.heap.objs.size).scope "self" := .inl (hS.par _ (by simp))
  refine PySem.W.kxs_callWith (i := "ValueError.__init__") (x := e) (by rfl) (Calls.evalArgs_plain (thn ((pa_cons (X := ncx (L2.CX P w) P w K mg base ["self", a, "__class__"] (supF c f st cda cc) fI A outer s H E) (pe_var (i := 1) (x := a) (pos := p3) rfl vis1 ha1 ha2) pa_nil).run p4 [] _ _ _ (fun vs H' => vs = [rv] ∧ H' = H3) I3 ⟨rv, rfl, rfl, rfl⟩) fun us s1 hx => ?_))
  obtain ⟨vs, H1, I4, r4, rfl, rfl⟩ := hx
  have hmw : s1.heap.get? h2.objs.size = some (PySem.W.kxs_mw "ValueError.__init__" e) := by
    have x : ObjOk P w _ s1.heap h2.objs.size (.ext _) := I4.hok _ _ hu3
    exact x.1
  refine ⟨hmw, call_mw T.T I4 he3 hmw (by show us.length ≤ sizeLine; rw [← r4.length]; exact (show (1 : Nat) ≤ sizeLine by decide)) fun s5 I5 => ?_⟩
  have hst := pss_one (ps_ost (X := ncx (L2.CX P w) P w K mg base ["self", a, "__class__"] (supF c f st cda cc) fI A outer s H E) (f := f) (p' := p7) (pos := p9) (pe_var (i := 0) (x := "self") (pos := p6) rfl vis0) (pe_var (i := 1) (x := a) (pos := p8) rfl vis1 ha1 ha2) (hsw2 _ _))
  refine PySem.wpAt_of_wpAny (wpAny_mono (hst.run [] s5 _ _ { nx := fun _ H' => Q .non H', rt := Q } I5 ?_) (fun fl s' hs => ?_) fun er s' hs => hs)
  · refine ⟨rv, rfl, .ref e, rfl, e, C, rfl, T.T, T.nof, .inl ⟨he3, fun dx hdx hne => ?_⟩⟩
    refine q _ dx (fun b x hb hx => ?_) ?_ upd_same ?_
    · have hx3 := same3 b x hx
      rw [upd_ne hb, upd_ne (ne_of_none hx3 hdx)]
      exact hx3
    · cases z : H dx with
      | none => rfl
      | some x => rw [same3 _ _ z] at hdx; cases hdx
    · rw [upd_ne hne, upd_same]
  · have fin : ∀ {σ' : L2.St} {H' : Hp} {v : V} {u : Value}, Inv (ncx (L2.CX P w) P w K mg base ["self", a, "__class__"] (supF c f st cda cc) fI A outer s H E) [] σ' H' s' → L2.RelV v u → Q v H' → CE outer P w H s Q u s' :=
      fun {σ' H' v u} J rv q => ⟨v, H', J.os, J.bare, J.base, J.hok, rv, q⟩
    cases fl with
    | ret u =>
      obtain ⟨v, σ', H', J, rv, q⟩ := hs
      exact fin J rv q
    | next =>
      obtain ⟨σ', H', J, q⟩ := hs
      exact fin (v := V.non) (u := Value.none) J rfl q
    | brk =>
      obtain ⟨_, _, _, q⟩ := hs
      exact False.elim q
    | cont =>
      obtain ⟨_, _, _, q⟩ := hs
      exact False.elim q
end
end AF

namespace AF
open PySem PySem.Spec PyProof.Rows L2

structure Ex1 (P : Program) (w : World) (K : PySem.W.Frag) (mg : Str → Option Value) (base : Heap) (x f : String) (C : Addr) : Prop where
  g : mg (Str.ofString x) = some (.ref C)
  T : OexC K C
  X : XfC K C
  nof : PySem.W.findIn K (.ref C) (Str.ofString f) = some none
  ini : ∃ fI fd ps, PySem.W.findIn K (.ref C) "__init__" = some (some (.ref fI)) ∧ PySem.W.typeIn K (.ref fI) = some (.type "function") ∧ FnOk P w K mg base (L2.CX P w) 1 fI fd ps (spI C (Str.ofString f)) ∧ Binds K fd ps []
def sRaise1 (x f : String) (g : GL) : GS := fun env => onOk env (g env) fun ds => match ds with
  | [d] => .err (.one x f d) env
  | _ => .stuck
section
variable {X : Cx} {W : WX} {pos p : Pos} {x f : String} {C : Addr} {a : Expr} {gl : GL}
/-- raise X(e) -/
theorem fs_raise1 {pos2 : Pos} (T : Ex1 X.prog X.w X.K X.mg X.base x f C) (hr : Room 2 X.A) (hc : X.calm = true) (tk : Takes X W) (ha : FA X W [a] gl) (hg : Gl X (Str.ofString x) := by rfl) (hdb : (Str.ofString x == ("__debug__" : Str)) = false := by decide)
    (he : starEach [a] X.env = (false, eval a X.env) :: starEach [] X.env := by rfl) (hp : Passes (L2.CX X.prog X.w) X E0 := by exact passL) :
    FS X W (.Raise (some (.Call (.Name (Str.ofString x) p) [a] [] pos2)) none pos) (sRaise1 x f gl) := by
  obtain ⟨fI, fd, ps, h1, h2, h3, h4⟩ := T.ini
  refine PS.imp (ps_raise hc tk (pmk_oex T.T h1 h2 h3 hr h4 .nil hp hg T.g ha hdb he rfl)) fun Dn σ H h => ?_
  obtain ⟨Γ, os, env, A, h⟩ := h
  refine ⟨Γ, os, env, A, WS.expr A h fun ds H1 _ s h vs rv => ?_⟩
  match ds, h with
  | [d], h =>
    obtain ⟨v, rfl, r1⟩ := reps1 rv
    refine ⟨show (1 : Nat) ≤ 1000 by decide, fun b hb => ⟨b, v, rfl, upd_same, fun H2 dx k1 k2 k3 k4 => ?_⟩⟩
    have ndx : dx ≠ b := fun z => by rw [z, upd_same] at k2; cases k2
    have k2' : H1 dx = none := by rwa [upd_ne ndx] at k2
    refine ⟨rfl, dx, _, k3, k4, k2', ?_⟩
    have sm : Same H1 (upd (del H2 b) dx (.xd [(Str.ofString f, v)])) := fun y o hy => by
      have n1 : y ≠ b := ne_of_none hy hb
      rw [upd_ne (ne_of_none hy k2'), del_ne n1]
      exact k1 y o n1 ((upd_ne n1).trans hy)
    exact h os σ _ _ _ (A.mono (s.trans sm)) ⟨C, dx, v, T.g, rfl, rfl, upd_same, Rep.mono (Same.hid sm) d v r1⟩
/-- try: .. except X as e: return e.f -/
def sTryF (cat : List (String × Bool)) (i : Nat) (f : String) (body : GS) : GS := fun env => match body env with
  | .err e env' => (match cat.lookup e.cls with
    | some true => (match e with
      | .one _ f' d => if f' = f ∧ i < env'.length then .ret d else .stuck
      | .plain _ => .stuck)
    | some false => .err e env'
    | none => .stuck)
  | r => r
theorem fs_tryF {n : Str} (i : Nat) {body : List Stmt} {np pos' p1 p2 p3 : Pos} {gb : GS} {cat : List (String × Bool)} (T : Ex1 X.prog X.w X.K X.mg X.base x f C) (hc : Names X (Str.ofString x) (.ref C)) (tk : Takes X W)
    (hcat : ∀ q ∈ cat, ∃ D, X.mg (Str.ofString q.1) = some (.ref D) ∧ PySem.W.exmOne X.K (.ref D) (.ref C) = some q.2) (honly : ∀ y, cat.lookup y = some true → y = x)
    (hb : ∀ (W' : WX) (pn : List (Addr × Obj)) (xe : Value → Shared → Prop), Takes (X.tr pn xe) W' → PassesOwn (model X.prog X.w) X.A X.env xe → FSs (X.tr pn xe) W' body gb)
    (hN : X.N.Nodup) (hi : X.N[i]? = some n := by rfl) (hln : X.env.kindOf n = some .local := by rfl) (hd : (n == ("__debug__" : Str)) = false := by decide) (hcd : (n == ("__classdict__" : Str)) = false := by decide)
    (hs : X.stack = X.env :: X.outer := by rfl) (hf : X.env.frame = some X.env.locals := by rfl) :
    FS X W (.Try body [.ExceptHandler (some (.Name (Str.ofString x) np)) (some n) [.Return (some (.Attribute (.Name n p1) (Str.ofString f) p2)) p3] pos'] [] [] pos) (sTryF cat i f gb) := by
  refine PS.imp (ps_try_as (Wout := W) (i := i) (tb := fun W' => tGS X.K X.mg W' gb) (ts := fun a cls d => tRet (tXf a cls d C (Str.ofString f) (tVar i))) hs hf hN hi hln hc tk (fun W' pn xe tk' po => hb W' pn xe tk' po)
    (fun a oe cls d pn hz hfl => pss_one (ps_ret (pe_xf (X := X) T.X T.nof hz hfl (pe_var (X := X.suite a ((a, oe) :: pn)) hi (.inl hln) hd hcd))))) fun Dn σ H h => ?_
  obtain ⟨Γ, os, env, A, h⟩ := h
  refine ⟨Γ, os, env, A, ?_⟩
  unfold sTryF at h
  revert h
  cases gb env with
  | next e => exact id
  | brk e => exact id
  | cont e => exact id
  | ret d => exact id
  | stuck => exact id
  | err e env' =>
    intro h os' σ' H' cls pd A' q
    have eC : ∃ D, X.mg (Str.ofString e.cls) = some (.ref D) ∧ cls = .ref D := by
      cases e with
      | plain y =>
        obtain ⟨D, q1, q2, _⟩ := q
        exact ⟨D, q1, q2⟩
      | one y f d =>
        obtain ⟨D, p, v, q1, q2, _⟩ := q
        exact ⟨D, q1, q2⟩
    obtain ⟨D, q1, rfl⟩ := eC
    cases ek : cat.lookup e.cls with
    | none =>
      simp only [ek] at h
      exact h.elim
    | some b =>
      obtain ⟨D', m1, m2⟩ := hcat _ (lookup_mem ek)
      simp only [] at m1
      rw [q1] at m1
      cases m1
      refine ⟨b, m2, fun hb a na => ?_, fun hb => ?_⟩
      · subst hb
        simp only [ek] at h
        cases e with
        | plain y => exact h.elim
        | one y f' d =>
          have hy := honly _ ek
          have hy : y = x := hy
          subst hy
          have q1 : X.mg (Str.ofString y) = some (.ref D) := q1
          rw [T.g] at q1
          cases q1
          have h5 : WS X.K X.mg W Γ (if f' = f ∧ i < env'.length then .ret d else .stuck) Dn := h
          clear h
          by_cases hff : f' = f ∧ i < env'.length
          · rw [if_pos hff] at h5
            obtain ⟨rfl, hil⟩ := hff
            rw [← A'.len] at hil
            obtain ⟨D2, dd, v, _, _, e3, e4, e5⟩ := q
            refine ⟨.ref a, by rw [List.getElem?_set_self hil], rfl, rfl, dd, _, v, e3, e4, by simp, ?_⟩
            exact h5 v H' A'.same (Rep.mono (Same.hid2 (Same.refl H') fun _ _ _ h q => h (.inl q)) d v e5)
          · rw [if_neg hff] at h5
            exact h5.elim
      · subst hb
        simp only [ek] at h
        exact h os' σ' H' _ pd A' q
end
end AF

namespace AF
open PySem PySem.Spec PyProof.Rows L2
section
variable {X : Cx} {W : WX} {a : Expr} {ga : GE} {pos : Pos}
/-! ### x.extend(e), e makes a list -/
def sExt (i : Nat) (g : GL) : GS := fun env => withOwn env i fun ds => onOk env (g env) fun es => if ds.length + es.length ≤ sizeLine then .next (env.set i (.own (ds ++ es))) else .stuck
theorem fs_ext (i : Nat) {gl : GL} {x : Str} {p1 apos pos2 : Pos} (ha : FL X W a gl) (hN : X.N[i]? = some x := by rfl) (hv : Vis X.env.scope x := by first | exact Or.inl rfl | exact Or.inr (Or.inl rfl) | exact Or.inr (Or.inr rfl)) (hd : (x == ("__debug__" : Str)) = false := by decide)
    (hcd : (x == ("__classdict__" : Str)) = false := by decide)
    (hp : PE X (.Call (.Attribute (.Name x p1) "extend" apos) [a] [] pos2) (tBM X.K "list" rExtend (tVar i) (tCons (tGL X.K X.mg W gl) tNil)))
    (hs : swapsWith (.Call (.Attribute (.Name x p1) "extend" apos) [a] [] pos2) none pos.line X.env = pure false := by rfl) : FS X W (.Expr (.Call (.Attribute (.Name x p1) "extend" apos) [a] [] pos2) pos) (sExt i gl) := by
  refine PS.imp (ps_expr hp hs) fun Dn σ H h => ?_
  obtain ⟨Γ, os, env, A, h⟩ := h
  obtain ⟨ds, e, h⟩ := own_cases h
  obtain ⟨p, vs, ho, hσ, hp, hr⟩ := A.own e
  refine ⟨.ref p, hσ, .inl ⟨rfl, _, .inl (.inl hp)⟩, Γ, os, env, A, WS.expr A h fun es H' _ s h b ws hb hb' rb => ?_⟩
  have l := hr.length
  have l2 := rb.length
  by_cases hz : ds.length + es.length ≤ sizeLine
  · have h : WS X.K X.mg W Γ (if ds.length + es.length ≤ sizeLine then .next (env.set i (.own (ds ++ es))) else .stuck) Dn := h
    rw [if_pos hz] at h
    refine ⟨p, b, vs, ws, rfl, rfl, s _ _ hp, hb', by omega, h os σ _ ?_⟩
    exact (A.mono s).upd_own ho hσ ((Reps.mono (Same.hid s) ds vs hr).append (Reps.mono (Same.hid2 (Same.refl H') fun _ _ _ h q => h (.inl q)) es ws rb))
  · have h : WS X.K X.mg W Γ (if ds.length + es.length ≤ sizeLine then .next (env.set i (.own (ds ++ es))) else .stuck) Dn := h
    rw [if_neg hz] at h
    exact h.elim
end
end AF

set_option maxHeartbeats 1000000
namespace AF
open PySem PySem.Spec PyProof.Rows L2
/-! ### any(x), x a tuple of ints -/
def rAnyT (K : PySem.W.Frag) : List V → Hp → VK → Prop := fun vs H Q => ∃ (a : Addr) (ns : List Int), vs = [.ref a] ∧ SqT K H a (ns.map V.int) ∧ Q (.bl (ns.any (· != 0))) H
theorem truth_ints {prog : Program} {w : World} {A : Around} {ns : List Int} {its : List Value} (r : Vals (ns.map V.int) its) :
    TruthOf prog w A (fun i v => its.toArray[i]? = some v) (fun i => ns.getD i 0 != 0) := fun i v s Q E hv hq => by
  have hv' : its[i]? = some v := by simpa using hv
  have hl := r.length
  have hi : i < ns.length := by
    have := (List.getElem?_eq_some_iff.mp hv').1
    rw [List.length_map] at hl
    omega
  have hx : (ns.map V.int)[i]? = some (.int ns[i]) := by rw [List.getElem?_map, List.getElem?_eq_getElem hi]; rfl
  obtain ⟨u, hu, ru⟩ := r.get hx
  rw [hv'] at hu
  cases hu
  obtain ⟨t, rfl⟩ := ru
  have hg : ns.getD i 0 = ns[i] := by rw [List.getD_eq_getElem?_getD, List.getElem?_eq_getElem hi]; rfl
  have hq' : Q (ns.getD i 0 != 0) s := hq
  rw [hg] at hq'
  exact PySem.P.truthy_int hq'
theorem any_ints : ∀ ns : List Int, (List.range ns.length).any (fun i => ns.getD i 0 != 0) = ns.any (· != 0)
  | [] => rfl
  | n :: ns => by
    rw [List.length_cons, List.range_succ_eq_map, List.any_cons, List.any_map, List.any_cons, ← any_ints ns]
    rfl
theorem cr_anyT {X : Cx} (hc : X.calm = true) : CallR X (.builtin "any") (rAnyT X.K) := by
  intro pins s σ H vs us Q I r h
  obtain ⟨a, ns, rfl, hs, q⟩ := h
  obtain ⟨its, rv, hl, _⟩ := I.tuple hs
  rw [Vals.ref1 r]
  have hlt : a < s.heap.objs.size := by obtain ⟨_, e, _⟩ := hl; exact Heap.lt_size e
  refine call_any_walk (wpAny_pyIter_tuple hl ⟨_, _, _, _, _, _, _, rfl, Walks.tuple (A := X.A.in1) (I.ok.hd hc) _ a (Nat.ne_of_lt hlt) its.toArray, ⟨⟨_, Heap.get?_push_size _ rfl, rfl, rfl⟩, ?_⟩, truth_ints rv, fun h' tk hk => ?_⟩)
  · obtain ⟨o, e, z⟩ := hl
    exact ⟨o, Heap.get?_push_of_some _ e, z⟩
  · refine ⟨.bl _, H, I.kept fun b o eo => hk b o (fun hmem => ?_) (Heap.get?_push_of_some _ eo), ?_, q⟩
    · rcases List.mem_cons.mp hmem with e1 | hmem
      · exact absurd (e1 ▸ Heap.lt_size eo) (Nat.lt_irrefl _)
      · cases hmem
    · show Value.bool _ = Value.bool _
      have : its.toArray.size = ns.length := by
        have := rv.length
        rw [List.length_map] at this
        simp [this]
      rw [this, any_ints]
def fAny2 : List D → Option D
  | [.lst xs] => (bls? xs).map fun bs => .bl (bs.any id)
  | [.tup xs] => (ints? xs).map fun ns => .bl (ns.any (· != 0))
  | _ => none
theorem reps_intV {K : PySem.W.Frag} {H : Hp} : ∀ {ns : List Int} {vs : List V}, Reps K H (ns.map D.int) vs → vs = ns.map V.int
  | [], _, h => h
  | n :: ns, _, h => by
    obtain ⟨v, r, rfl, h1, h2⟩ := h
    cases h1
    rw [reps_intV h2]
    rfl
theorem ok_any2 {K : PySem.W.Frag} : OkA K (fun xs H Q => rAny K xs H Q ∨ rAnyT K xs H Q) fAny2 := by
  intro P H xs ds z Q hP r ez q
  unfold fAny2 at ez
  split at ez <;> first | (cases ez; done) | skip
  · rename_i ys
    exact .inl (ok_any P H xs [.lst ys] z Q hP r ez q)
  · rename_i ys
    cases e : ints? ys with
    | none => rw [e] at ez; cases ez
    | some ns =>
      rw [e] at ez
      cases ez
      obtain ⟨v, rfl, p, vs, rfl, h1, h2⟩ := reps1 r
      rw [ints_eq e] at h2
      rw [reps_intV h2] at h1
      exact .inr ⟨p, ns, rfl, Same.seqT (hid_same P H) h1, q _ H (Same.refl H) rfl⟩
section
variable {X : Cx} {W : WX} {a : Expr} {g : GL} {pos p : Pos}
theorem fe_any2 (hm : X.mg "any" = none) (hc : X.calm = true) (ha : FA X W [a] g) (hg : Gl X "any" := by rfl) (he : starEach [a] X.env = (false, eval a X.env) :: starEach [] X.env := by rfl) : FE X W (.Call (.Name "any" p) [a] [] pos) (eF fAny2 g) :=
  fe_callB (CallR.or3 (cr_any hc) (cr_anyT hc)) ok_any2 hm hg bt_any ha (by decide) (by decide) he rfl
end
end AF

namespace AF
open PySem PySem.Spec PyProof.Rows L2
/-! ### enumerate(x), x a tuple -/
theorem new_enumT (l : Addr) (o : Obj) (items : Array Value) (n : Nat) (hc : o.cls = .type "tuple") (hd : o.data = .seq items n) :
    Meets (Builtin.«enumerate.__new__» ⟨[.type "enumerate", .ref l], []⟩) (fun _ R s => s.heap.get? l = some o ∧
      R (.ok (.ret (.ref (s.heap.push { cls := .type "tuple_iterator", data := .fields #[.ref l, .int 0 0] }).objs.size)))
        { s with heap := (s.heap.push { cls := .type "tuple_iterator", data := .fields #[.ref l, .int 0 0] }).push { cls := .type "enumerate", data := .fields #[.none, .bool false, .ref s.heap.objs.size, rawInt 0, .none, .none] } }) :=
  .of_wp fun prog w A R s h => by
    obtain ⟨hp, g, d, tk, os⟩ := s
    obtain ⟨hl, h⟩ := h
    have hsub := sub_enumerate
    have hT : Heap.IsTuple (Shared.heap ⟨hp, g, d, tk, os⟩) l items := ⟨_, hl, hc, n, hd⟩
    wp_walk using wpAny_loadPart' hl
    refine wpAny_stack_any fun st => wpAny_pure ?_; split
    · rename_i c _ _ _ _ _; cases (c == Value.type "enumerate") <;> (wp_walk using wpAny_loadPart' hl, wpAny_pyIter_tuple hT; exact ⟨_, rfl, h⟩)
    · wp_walk using wpAny_loadPart' hl, wpAny_pyIter_tuple hT; exact ⟨_, rfl, h⟩
theorem call_enumT {prog : Program} {w : World} {A : Around} {E : Value → Shared → Prop} {s : Shared} {l : Addr} {items : Array Value} {Q : Value → Shared → Prop} (hT : s.heap.IsTuple l items)
    (h : ∀ h', IsEnum h' (s.heap.objs.size + 1) s.heap.objs.size 0 .none → h'.IsTupleIter s.heap.objs.size l 0 → h'.objs.size = s.heap.objs.size + 2 → (∀ b o, s.heap.get? b = some o → h'.get? b = some o) → Q (.ref (s.heap.objs.size + 1)) { s with heap := h' }) :
    wpAny (model prog w) A (call (.type "enumerate") [.ref l]) Q E s := by
  obtain ⟨o, hl, hc, n, hd⟩ := hT
  refine callType_new PySem.F.called_enumerate (by decide) (PySem.F.typeCall_enumerate_1 _) (PySem.F.newCall_enumerate_1 _) (fun obj => PySem.F.args_object_init_2 obj _) PySem.F.entry_enumerate_new (new_enumT l o items n hc hd) ⟨hl, ?_⟩
  have hz : (s.heap.push { cls := .type "tuple_iterator", data := .fields #[.ref l, .int 0 0] }).objs.size = s.heap.objs.size + 1 := Heap.size_push ..
  show _ ∧ _
  rw [hz]
  have he : IsEnum ((s.heap.push { cls := .type "tuple_iterator", data := .fields #[.ref l, .int 0 0] }).push { cls := .type "enumerate", data := .fields #[.none, .bool false, .ref s.heap.objs.size, rawInt 0, .none, .none] }) (s.heap.objs.size + 1) s.heap.objs.size 0 .none := by
    have q := Heap.get?_push_size (s.heap.push { cls := .type "tuple_iterator", data := .fields #[.ref l, .int 0 0] }) (o := { cls := .type "enumerate", data := .fields #[.none, .bool false, .ref s.heap.objs.size, rawInt 0, .none, .none] }) rfl
    rwa [hz] at q
  exact ⟨⟨_, he, rfl⟩, h _ he ⟨_, Heap.get?_push_of_some _ (Heap.get?_push_size _ rfl), rfl, rfl⟩ (by rw [Heap.size_push, hz]) fun b o x => Heap.get?_push_of_some _ (Heap.get?_push_of_some _ x)⟩
theorem wpAny_pyNext_enum_endT {prog : Program} {w : World} {A : Around} {E : Value → Shared → Prop} {s : Shared} {e it l : Addr} {i : Nat} {items : Array Value} {old : Value} {Q : Option Value → Shared → Prop} (hh : A.handled = none)
    (he : IsEnum s.heap e it i old) (hit : s.heap.IsTupleIter it l i) (hl : s.heap.IsTuple l items) (hx : items[i]? = none)
    (hQ : ∀ h', Heap.ExtBut it s.heap h' → Q none { s with heap := h' }) : wpAny (model prog w) A (pyNext (.ref e)) Q E s := by
  have hT : s.TypeIs (.ref e) "enumerate" := ⟨_, he, rfl⟩
  unfold pyNext
  refine wpAny_bind (wpAny_attempt (wpAny_callSpecial?_slot (name := Str.ofString "__next__") hT F.slot_enumerate_next
    (wpAny_call_entry F.slot_enumerate_next hT F.entry_enumerate_next ?_ (F.args_enumerate_next_1 _))))
  show wpAny _ _ (field (.ref e) 2 >>= _) _ _ _
  refine wpAny_bind (wpAny_field he rfl (x := .ref it) rfl ?_)
  refine wpAny_bind (wpAny_nextOf_tuple_end hh hit hl hx fun h' x he' hx' => ?_)
  obtain ⟨o, ho, hc⟩ := hx'
  refine wpAny_bind (wpAny_isInstance (T := "StopIteration") (b := true) ⟨o, ho, hc⟩ isSubtype_stop ?_)
  exact wpAny_pure (hQ _ he')
/-- the tuple at a, each item in a new pair -/
def IteT (K : PySem.W.Frag) (a : Addr) : It :=
  ⟨fun i H => ∃ (xs : List V) (x : V), SqT K H a xs ∧ xs[i]? = some x, fun i H v H' => ∃ T x, v = .ref T ∧ H T = none ∧ H' = upd H T (.tup [.int (i : Nat), x]) ∧ ∀ xs, SqT K H a xs → xs[i]? = some x, fun i H => ∃ xs : List V, SqT K H a xs ∧ xs.length ≤ i⟩
theorem turn_enumT {P : Program} {w : World} {K : PySem.W.Frag} {elts : List Expr} {kk : Nat} {tpos : Pos} (a e it : Addr) (hai : a ≠ it) (hea : e ≠ a) :
    Turn P w K (.Tuple elts kk tpos) (IteT K a) [e, it] e (fun i h => (∃ old, IsEnum h e it ((i : Nat) : Int) old) ∧ h.IsTupleIter it a i ∧ e ≠ it) where
  mem := by simp
  obj := fun i h st b hb => by
    obtain ⟨⟨old, he⟩, ⟨o, ho, hc, hd⟩, _⟩ := st
    have e' : b = e ∨ b = it := by simpa using hb
    rcases e' with z | z
    · rw [z]; exact ⟨_, he, fun v q => nomatch q⟩
    · rw [z]; exact ⟨o, ho, fun v q => by rw [hd] at q; cases q⟩
  keep := fun i h h' st k => let ⟨⟨old, he⟩, hi, hne⟩ := st; ⟨⟨old, k e (by simp) _ he⟩, hi.at fun o q => k it (by simp) o q, hne⟩
  item := by
    intro X hP hw hK hc i pins s σ H E I hf st hg
    subst hP hw hK
    obtain ⟨⟨old, he⟩, hit, hne⟩ := st
    obtain ⟨xs, x, hq, hx⟩ := hg
    obtain ⟨its, rv, p, hz⟩ := I.tuple hq
    have hT : s.heap.IsTuple a its.toArray := p
    obtain ⟨u, hu, ru⟩ := rv.get hx
    have hel : e < s.heap.objs.size := Heap.lt_size he
    have hil : it < s.heap.objs.size := by obtain ⟨_, q, _⟩ := hit; exact Heap.lt_size q
    have hlt : i < its.toArray.size := by
      have := (List.getElem?_eq_some_iff.mp hu).1
      simpa using this
    refine wpAny_pyNext_enum_itemD (Draws.tuple (A := X.A.in1) (show X.A.in1.handled = none from I.ok.hd hc) it a hai its.toArray) he ⟨hit, hT⟩ hlt hne (by simp [hne, hea]) fun x' h' tk hP ho hs' hT' hsz hk => ?_
    obtain ⟨hit', _⟩ := hs'
    obtain rfl : u = x' := by
      have hu' : its.toArray[i]? = some u := by simpa using hu
      have hP' : its.toArray[i]? = some x' := hP
      rw [hu'] at hP'
      cases hP'
      rfl
    refine ⟨_, rfl, wpAny_letOwnedTupleGo_enum (s := { s with heap := h', toks := tk + 1 }) ho fun h'' he' sb => ?_⟩
    have hT2 : h''.get? s.heap.objs.size = some { cls := .type "tuple", data := .seq #[.int i tk, u] } := (sb.2 _ (Nat.ne_of_gt hel)).trans hT'
    have new : ObjOk X.prog X.w (upd H s.heap.objs.size (.tup [.int (i : Nat), x])) h'' s.heap.objs.size (.tup [.int (i : Nat), x]) :=
      ⟨by show 2 ≤ sizeLine; decide, [.int i tk, u], .cons ⟨_, rfl⟩ (.cons ru .nil), ⟨_, hT2, rfl, _, rfl⟩⟩
    have I1 : Inv X pins σ (upd H s.heap.objs.size (.tup [.int (i : Nat), x])) { s with heap := h'', toks := tk + 1 } :=
      I.turnedNew (ch := [e, it]) (fun b ob hb q => (sb.2 b (fun z => hb (by simp [z]))).trans (hk b ob (fun z => hb (by simp [z])) (fun z => hb (by simp [z])) q)) hf (Nat.le_refl _) new
    refine ⟨.ref s.heap.objs.size, _, I1, rfl, ⟨_, x, rfl, I.hok.fresh (Nat.le_refl _), rfl, fun ys hy => by rw [I.tuple_inj hy hq]; exact hx⟩, ⟨⟨u, ?_⟩, hit'.at fun o q => (sb.2 it (Ne.symm hne)).trans q, hne⟩, fun b hb => ?_⟩
    · have e1 : ((i + 1 : Nat) : Int) = (i : Int) + 1 := by omega
      rw [e1]; exact he'
    · have hb' : b < s.heap.objs.size := by
        have e' : b = e ∨ b = it := by simpa using hb
        rcases e' with z | z
        · rw [z]; exact hel
        · rw [z]; exact hil
      rw [upd_ne (Nat.ne_of_lt hb')]
      exact (hf b hb).1
  done := by
    intro X hP hw hK hc i pins s σ H E I hf st hg
    subst hP hw hK
    obtain ⟨⟨old, he⟩, hit, hne⟩ := st
    obtain ⟨xs, hq, hx⟩ := hg
    obtain ⟨its, rv, p, hz⟩ := I.tuple hq
    have hT : s.heap.IsTuple a its.toArray := p
    obtain ⟨f0, f1, f2, f3, f4, f5⟩ := hf it (by simp)
    have hl := rv.length
    refine wpAny_pyNext_enum_endT (I.ok.hd hc) he hit hT (by simp; omega) fun h' eb => ⟨rfl, I.turned (t' := s.toks) (fun b o hb q => eb b o hb q) f0 f1 f3 f4 f5⟩
  self := fun A i s Q E st h => let ⟨⟨_, he⟩, _⟩ := st; wpAny_pyIter_enum he h
def iEnumT (K : PySem.W.Frag) (ta : TA) : TI := fun σ H R => ta σ H fun vs H1 => ∃ a xs, vs = [.ref a] ∧ SqT K H1 a xs ∧ R (IteT K a) H1
theorem pi_enumT {X : Cx} {e : Expr} {ta : TA} {p pos tpos : Pos} {elts : List Expr} {kk : Nat} (hg : Gl X "enumerate") (hm : X.mg "enumerate" = none) (ha : PA X [e] ta) (hs : starEach [e] X.env = [(false, eval e X.env)] := by rfl) :
    PI X (.Tuple elts kk tpos) (.Call (.Name "enumerate" p) [e] [] pos) (iEnumT X.K ta) := by
  refine ⟨fun pins s σ H R I h => ?_⟩
  refine Call_ (ld_blt I hg hm boot_enumerate (PyProof.Rows.callWith_type1 (thn (ha.run pos pins s σ H _ I h) fun us s1 ⟨vs, H1, I1, r1, q1⟩ => ?_) hs rfl))
  obtain ⟨a, xs, ex, hq, q⟩ := q1
  subst ex
  cases r1 with
  | cons r rr =>
    cases rr
    cases r
    obtain ⟨its, rv, p', hz⟩ := I1.tuple hq
    have hT : s1.heap.IsTuple a its.toArray := p'
    have hal : a < s1.heap.objs.size := by obtain ⟨_, q, _⟩ := hT; exact Heap.lt_size q
    refine call_enumT hT fun h' he hit hsz hk => wpAny_pyIter_enum he ?_
    have I2 : Inv X pins σ H1 { s1 with heap := h' } := I1.kept (t' := s1.toks) hk
    refine ⟨s1.heap.objs.size + 1, [s1.heap.objs.size + 1, s1.heap.objs.size], _, _, H1, rfl, I2, turn_enumT a (s1.heap.objs.size + 1) s1.heap.objs.size (Nat.ne_of_lt hal) (Nat.ne_of_gt (Nat.lt_succ_of_lt hal)), ⟨⟨.none, he⟩, hit, Nat.succ_ne_self _⟩, fun b hb => ?_, q⟩
    have e' : b = s1.heap.objs.size + 1 ∨ b = s1.heap.objs.size := by simpa using hb
    have hle : s1.heap.objs.size ≤ b := by
      rcases e' with z | z
      · rw [z]; exact Nat.le_add_right _ _
      · rw [z]; exact Nat.le_refl _
    exact I1.fpOk hle (I1.hok.fresh hle)
theorem walk_enumT {K : PySem.W.Frag} {a : Addr} {xs : List V} : Walk (IteT K a) xs.length (fun H => SqT K H a xs) (YPair (fun i => some (.int (i : Nat))) (fun i => xs[i]?)) := by
  refine ⟨fun i _ hi q => ⟨xs, xs[i], q, by simp [hi]⟩, fun _ q => ⟨xs, q, Nat.le_refl _⟩, fun i H v H' _ q y => ?_⟩
  obtain ⟨T, x, h1, h2, h3, h4⟩ := y
  exact ⟨T, .int (i : Nat), x, h1, h2, h3, rfl, h4 xs q⟩
theorem PI.or {X : Cx} {tg iter : Expr} {t1 t2 : TI} (h1 : PI X tg iter t1) (h2 : PI X tg iter t2) : PI X tg iter (fun σ H R => t1 σ H R ∨ t2 σ H R) := by
  refine ⟨fun pins s σ H R I h => ?_⟩
  rcases h with h | h
  · exact h1.run pins s σ H R I h
  · exact h2.run pins s σ H R I h
def enumF2 : List D → Option (List D)
  | [.lst xs] => some (enumD 0 xs)
  | [.tup xs] => some (enumD 0 xs)
  | _ => none
theorem fi_enum2 {X : Cx} {W : WX} {pos : Pos} {a : Expr} {ga : GL} {p tpos : Pos} {elts : List Expr} {kk : Nat} (hm : X.mg "enumerate" = none) (ha : FA X W [a] ga) (hg : Gl X "enumerate" := by rfl) (hs : starEach [a] X.env = [(false, eval a X.env)] := by rfl) : FI X W (.Tuple elts kk tpos) (.Call (.Name "enumerate" p) [a] [] pos) (lF enumF2 ga) := by
  refine PI.imp (PI.or (pi_enum hg hm ha hs) (pi_enumT hg hm ha hs)) fun σ H R h => ?_
  obtain ⟨Γ, os, env, A, h⟩ := h
  have hZ : Anti (fun (_ : Hp) (ds : List D) H' => ∀ J, IsIt X.K (hid (Hd Γ os) H') J ds → R J H') := fun _ _ _ _ _ h => h
  by_cases ht : ∃ xs, ga env = .ok [.tup xs]
  · obtain ⟨xs, ht⟩ := ht
    refine .inr ⟨Γ, os, env, A, WR.bind hZ h fun ds H1 eq s1 h1 vs rv => ?_⟩
    rw [ht] at eq
    cases eq
    obtain ⟨zs, ed, h2⟩ := WR.of h1
    have h2 := h2 H1 (Same.refl H1)
    cases ed
    obtain ⟨v, rfl, b, ws, rfl, q1, q2⟩ := reps1 rv
    refine ⟨b, ws, rfl, (Same.seqT (hid_same _ H1) q1), h2 _ ⟨_, _, by rw [enumD_len, ← q2.length]; exact walk_enumT, fun H s => (Same.seqT s q1), fun i d H x H2 P e y hP s => ?_⟩⟩
    obtain ⟨T, x1, y1, rfl, nT, rfl, e1, e2⟩ := y
    cases e1
    obtain ⟨d', ed', hd⟩ := q2.get e2
    rw [enumD_get, ed'] at e
    cases e
    exact ⟨same_new nT, rep_pair hP nT (by show V.int (i : Int) = V.int (0 + (i : Int)); rw [Int.zero_add]) (Rep.mono s _ _ hd)⟩
  · refine .inl ⟨Γ, os, env, A, WR.bind hZ h fun ds H1 eq s1 h1 vs rv => ?_⟩
    obtain ⟨zs, ed, h2⟩ := WR.of h1
    have h2 := h2 H1 (Same.refl H1)
    unfold enumF2 at ed
    split at ed
    · rename_i xs _
      cases ed
      obtain ⟨v, rfl, b, ws, rfl, q1, q2⟩ := reps1 rv
      refine ⟨b, ws, rfl, (Same.sl (hid_same _ H1) q1), h2 _ ⟨_, _, by rw [enumD_len, ← q2.length]; exact walk_enum, fun H s => (Same.sl s q1), fun i d H x H2 P e y hP s => ?_⟩⟩
      obtain ⟨T, x1, y1, rfl, nT, rfl, e1, e2⟩ := y
      cases e1
      obtain ⟨d', ed', hd⟩ := q2.get e2
      rw [enumD_get, ed'] at e
      cases e
      exact ⟨same_new nT, rep_pair hP nT (by show V.int (i : Int) = V.int (0 + (i : Int)); rw [Int.zero_add]) (Rep.mono s _ _ hd)⟩
    · exact (ht ⟨_, eq⟩).elim
    · cases ed
end AF

namespace AF
open PySem PySem.Spec PyProof.Rows L2
/-! ### [elt for tg in iter if .. for tg1 in iter1 if ..] -/
section
variable {J : It} {n : Nat} {G : Hp → Prop} {Y : Nat → Hp → V → Hp → Prop}
theorem out_it {B : (Hp → Prop) → V → Hp → Prop} (w : Walk J n G Y) {H0 : Hp} {Qd : Hp → Prop} (Pv : Nat → Hp → Prop) (h0 : Pv 0 H0) (hG : ∀ i H, i ≤ n → Pv i H → G H)
    (hs : ∀ i x H H', i < n → Pv i H → Y i H x H' → B (Pv (i + 1)) x H') (hd : ∀ H, Pv n H → Qd H) :
    ∃ W : Nat → Nat → Hp → Prop, (∃ m, W 0 m H0) ∧ ∀ i m H, W i m H →
      (J.stop i H ∧ Qd H) ∨ (J.go i H ∧ ∃ Nx : Hp → Prop, (∀ H', Nx H' → ∃ m', m' < m ∧ W (i + 1) m' H') ∧ ∀ x H', J.yld i H x H' → B Nx x H') := by
  refine ⟨fun i m H => m = n - i ∧ i ≤ n ∧ Pv i H, ⟨n, by simp, Nat.zero_le _, h0⟩, ?_⟩
  rintro i m H ⟨rfl, hi, p⟩
  have q := hG i H hi p
  by_cases hlt : i < n
  · refine .inr ⟨w.goes i H hlt q, Pv (i + 1), fun H' p' => ⟨n - (i + 1), by omega, rfl, hlt, p'⟩, fun x H' y => hs i x H H' hlt p (w.yields i H x H' hlt q y)⟩
  · have e : i = n := by omega
    subst e
    exact .inl ⟨w.stops H q, hd H p⟩
end
/-- what an environment stands for where one hidden list alone has changed -/
theorem Agree.over {K : PySem.W.Frag} {Γ : Ga} {os : List (Option Addr)} {σ : L2.St} {H H' : Hp} {env : En} (A : Agree K Γ os σ H env) {Dl : Addr} (hp : Γ.P0 Dl) (hs : ∀ a o, a ≠ Dl → H a = some o → H' a = some o) (hD : H' Dl ≠ none) :
    ∃ Γ', Agree K Γ' os σ H' env ∧ Γ'.P0 = Γ.P0 := by
  have nD : some Dl ∉ os := fun h => A.notP0 h hp
  have hv : Same (hid (Hd Γ os) H) (hid (Hd ⟨hid (fun a => some a ∈ os) H', Γ.P0, fun _ => none, Γ.G1, Γ.L⟩ os) H') := fun a o h => by
    obtain ⟨q1, q2⟩ := hid_some h
    exact hid_of q1 (hs a o (fun e => q1 (.inl (e ▸ hp))) q2)
  refine ⟨⟨hid (fun a => some a ∈ os) H', Γ.P0, fun _ => none, Γ.G1, Γ.L⟩, ⟨A.len, A.olen, hid_same _ H', nofun, A.vis1.trans hv, fun a h q => ?_, fun p h => ?_, A.nd, fun i sl h => ?_⟩, rfl⟩
  · have h1 : ¬ some a ∈ os := fun z => A.notP0 z h
    have q' := (hid_neg (P := fun a => some a ∈ os) h1).symm.trans q
    by_cases e : a = Dl
    · exact hD (e ▸ q')
    · have h2 := (A.p0.mono A.same) a h
      cases eh : H a with
      | none => exact h2 eh
      | some o =>
        rw [hs a o e eh] at q'
        cases q'
  · unfold hid
    exact if_pos h
  · obtain ⟨sv, o, h1, h2, h3⟩ := A.slot i sl h
    refine ⟨sv, o, h1, h2, ?_⟩
    cases sl with
    | unk => exact h3
    | val d =>
      obtain ⟨q1, v, q2, q3⟩ := h3
      exact ⟨q1, v, q2, Rep.mono hv d v q3⟩
    | pin d => exact h3
    | lent ds =>
      obtain ⟨q1, p, vs, q2, q3, q4, q5⟩ := h3
      exact ⟨q1, p, vs, q2, q3, hv _ _ q4, Reps.mono hv ds vs q5⟩
    | own ds =>
      obtain ⟨p, vs, q1, q2, q3, q4⟩ := h3
      refine ⟨p, vs, q1, q2, hs _ _ (fun e => nD ?_) q3, Reps.mono hv ds vs q4⟩
      rw [← e, ← q1]
      exact List.mem_of_getElem? h2
def compM2 (t : GT) (c : GB) (it1 : GL) (vs1 : List Nat) (t1 : GT) (c1 : GB) (e : GE) (env : En) : List D → Res (List D)
  | [] => .ok []
  | d :: ds => match t d env with
    | none => .stuck
    | some e1 => (c e1).bind fun k => if k then (it1 e1).bind fun ds1 => if noOwn e1 vs1 = true then (compM t1 c1 e (wipeE e1 vs1) ds1).bind fun ys1 => (compM2 t c it1 vs1 t1 c1 e env ds).bind fun ys => .ok (ys1 ++ ys) else .stuck else compM2 t c it1 vs1 t1 c1 e env ds
def capL (r : Res (List D)) : Res (List D) := r.bind fun ys => if ys.length ≤ sizeLine then .ok ys else .stuck
def lComp2 (it : GL) (vs : List Nat) (t : GT) (c : GB) (it1 : GL) (vs1 : List Nat) (t1 : GT) (c1 : GB) (e : GE) : GL := fun env => (it env).bind fun ds => if noOwn env vs = true then capL (okOnly (compM2 t c it1 vs1 t1 c1 e (wipeE env vs) ds)) else .stuck
theorem compM2_cons {t : GT} {c : GB} {it1 : GL} {vs1 : List Nat} {t1 : GT} {c1 : GB} {e : GE} {env : En} {d : D} {ds ys : List D} (h : compM2 t c it1 vs1 t1 c1 e env (d :: ds) = .ok ys) :
    ∃ e1 k, t d env = some e1 ∧ c e1 = .ok k ∧ ((k = true ∧ ∃ ds1 zs1 zs, it1 e1 = .ok ds1 ∧ noOwn e1 vs1 = true ∧ compM t1 c1 e (wipeE e1 vs1) ds1 = .ok zs1 ∧ compM2 t c it1 vs1 t1 c1 e env ds = .ok zs ∧ ys = zs1 ++ zs) ∨ (k = false ∧ compM2 t c it1 vs1 t1 c1 e env ds = .ok ys)) := by
  unfold compM2 at h
  cases et : t d env with
  | none => rw [et] at h; cases h
  | some e1 =>
    rw [et] at h
    dsimp only at h
    cases ec : c e1 with
    | err x => rw [ec] at h; cases h
    | stuck => rw [ec] at h; cases h
    | ok k =>
      rw [ec] at h
      refine ⟨e1, k, rfl, ec, ?_⟩
      cases k with
      | false => exact .inr ⟨rfl, h⟩
      | true =>
        have h : ((it1 e1).bind fun ds1 => if noOwn e1 vs1 = true then (compM t1 c1 e (wipeE e1 vs1) ds1).bind fun ys1 => (compM2 t c it1 vs1 t1 c1 e env ds).bind fun ys => .ok (ys1 ++ ys) else .stuck) = .ok ys := h
        cases ei : it1 e1 with
        | err x => rw [ei] at h; cases h
        | stuck => rw [ei] at h; cases h
        | ok ds1 =>
          rw [ei] at h
          have h : (if noOwn e1 vs1 = true then (compM t1 c1 e (wipeE e1 vs1) ds1).bind fun ys1 => (compM2 t c it1 vs1 t1 c1 e env ds).bind fun ys => .ok (ys1 ++ ys) else .stuck) = .ok ys := h
          split at h
          · rename_i hno
            cases e1' : compM t1 c1 e (wipeE e1 vs1) ds1 with
            | err x => rw [e1'] at h; cases h
            | stuck => rw [e1'] at h; cases h
            | ok zs1 =>
              rw [e1'] at h
              have h : ((compM2 t c it1 vs1 t1 c1 e env ds).bind fun ys => .ok (zs1 ++ ys)) = .ok ys := h
              cases em : compM2 t c it1 vs1 t1 c1 e env ds with
              | err x => rw [em] at h; cases h
              | stuck => rw [em] at h; cases h
              | ok zs =>
                rw [em] at h
                cases h
                exact .inl ⟨rfl, ds1, zs1, zs, rfl, hno, e1', rfl, rfl⟩
          · cases h
theorem own_out {K : PySem.W.Frag} {Γ : Ga} {os : List (Option Addr)} {σ : L2.St} {H : Hp} {env : En} (A : Agree K Γ os σ H env) {vs is : List Nat} (hv : ∀ i ∈ is, i ∈ vs) (hno : noOwn env vs = true) {j : Nat} {a : Addr} (ej' : os[j]? = some (some a)) : j ∉ is := fun hjs => by
  have hjv := List.all_eq_true.mp hno j (hv j hjs)
  have hje : j < env.length := by
    rw [← A.olen]
    exact (List.getElem?_eq_some_iff.mp ej').1
  obtain ⟨sv, o, q1, q2, q3⟩ := A.slot j _ (List.getElem?_eq_getElem hje)
  rw [ej'] at q2
  cases q2
  rw [List.getElem?_eq_getElem hje] at hjv
  revert q3 hjv
  cases env[j] with
  | unk => exact fun _ q => by cases q
  | val d => exact fun _ q => by cases q.1
  | pin d => exact fun _ q => by cases q.1
  | lent ds => exact fun _ q => by cases q.1
  | own ds => exact fun q _ => by cases q
theorem hd_same {K : PySem.W.Frag} {Γ : Ga} {os os2 : List (Option Addr)} {σ : L2.St} {H : Hp} {env : En} (A : Agree K Γ os σ H env) {vs is : List Nat} (hv : ∀ i ∈ is, i ∈ vs) (hno : noOwn env vs = true) {P : Addr → Prop} (hP : Hd Γ os = P) (m2 : ∀ a, Hd Γ os2 a → Hd Γ os a) (k2 : ∀ j, j ∉ is → os2[j]? = os[j]?) : Hd Γ os2 = P := by
  rw [← hP]
  refine funext fun a => propext ⟨m2 a, fun h => ?_⟩
  rcases h with h | h
  · exact .inl h
  · obtain ⟨j, hj, ej⟩ := List.mem_iff_getElem.mp h
    have ej' : os[j]? = some (some a) := by rw [List.getElem?_eq_getElem hj, ej]
    exact .inr (List.mem_of_getElem? ((k2 j (own_out A hv hno ej')).trans ej'))
theorem tLc2_of {K : PySem.W.Frag} {mg : Str → Option Value} {W : WX} {it it1 : GL} {vs is vs1 is1 : List Nat} {t t1 : GT} {c c1 : GB} {e : GE} (hv : ∀ i ∈ is, i ∈ vs) (hv1 : ∀ i ∈ is1, i ∈ vs1) (hvv : ∀ i ∈ vs1, i ∈ vs) {σ : L2.St} {H : Hp} {Q : VK} (h : tGL K mg W (lComp2 it vs t c it1 vs1 t1 c1 e) σ H Q) :
    tLc2 (tGI K mg W it) (tGT K is t) (tGB K mg W0 c) (tGI K mg W0 it1) (tGT K is1 t1) (tGB K mg W0 c1) (tG K mg W0 e) vs vs1 σ H Q := by
  obtain ⟨Γ, os, env, A, h⟩ := h
  refine ⟨Γ, os, env, A, WR.bind anti_L h fun ds H1 _ s1 h1 J itJ Dl nD => ?_⟩
  have A1 := A.mono s1
  have hno : noOwn env vs = true := by
    by_cases hc : noOwn env vs = true
    · exact hc
    · rw [if_neg hc] at h1
      exact h1.elim
  rw [if_pos hno] at h1
  obtain ⟨ys, ey, hys, wish⟩ : ∃ ys, compM2 t c it1 vs1 t1 c1 e (wipeE env vs) ds = .ok ys ∧ ys.length ≤ sizeLine ∧ ∀ H', Same H1 H' → zL K (Hd Γ os) Q H1 ys H' := by
    revert h1
    cases compM2 t c it1 vs1 t1 c1 e (wipeE env vs) ds with
    | ok ys =>
      intro h1
      have h1 : WR K mg (Hd Γ os) W σ H1 (if ys.length ≤ sizeLine then .ok ys else .stuck) (zL K (Hd Γ os) Q) := h1
      split at h1
      · exact ⟨ys, rfl, ‹_›, h1⟩
      · exact h1.elim
    | err x => exact fun h1 => h1.elim
    | stuck => exact fun h1 => h1.elim
  obtain ⟨Gp, Y, wk, keep, yl⟩ := itJ
  refine out_it wk (fun i Hh => ∃ accV accD zs, Same H1 Hh ∧ Hh Dl = some (.lst accV) ∧ Reps K (hid (fun a => Hd Γ os a ∨ a = Dl) Hh) accD accV ∧ compM2 t c it1 vs1 t1 c1 e (wipeE env vs) (ds.drop i) = .ok zs ∧ accD ++ zs = ys)
    ⟨[], [], ys, same_new nD, upd_same, rfl, by rw [List.drop_zero]; exact ey, rfl⟩ (fun i Hh _ ⟨_, _, _, s, _⟩ => keep Hh ((hid_same _ H1).trans s)) (fun i x Hh H' hi hp y => ?_) (fun Hh hp => ?_)
  · obtain ⟨accV, accD, zs, s, eD, racc, em, ez⟩ := hp
    have ed : ds[i]? = some ds[i] := List.getElem?_eq_getElem hi
    have hd : ds.drop i = ds[i] :: ds.drop (i + 1) := List.drop_eq_getElem_cons hi
    rw [hd] at em
    have hP : Hides (fun a => Hd Γ os a ∨ a = Dl) Hh := fun a q n => by
      rcases q with q | q
      · exact ((A1.mono s).hides) a q n
      · subst q
        rw [eD] at n
        cases n
    have vis : Same (hid (Hd Γ os) H1) (hid (fun a => Hd Γ os a ∨ a = Dl) Hh) := Same.hid2 s fun a o h q z => z.elim q (ne_of_none h nD)
    obtain ⟨s2, rx⟩ := yl i _ Hh x H' _ ed y hP vis
    obtain ⟨e1, k, et, ec, hk⟩ := compM2_cons em
    obtain ⟨Γ', A', iff⟩ := A1.inner (s.trans s2) nD (by rw [s2 _ _ eD]; exact nofun)
    have hD' : Γ'.P0 Dl := by
      rcases (iff Dl).mpr (.inr rfl) with h | h
      · exact h
      · obtain ⟨vs', q⟩ := A1.ownAt h
        rw [nD] at q
        cases q
    have A2 := A'.wipe vs hno
    have eP : Hd Γ' os = fun a => Hd Γ os a ∨ a = Dl := funext fun a => propext (iff a)
    have rx' : Rep K (hid (Hd Γ' os) H') ds[i] x := by rw [eP]; exact rx
    refine ⟨Γ', os, wipeE env vs, ds[i], e1, A2, rx', et, fun os2 σ2 A3 w2 m2 k2 => ⟨by rw [w2 vs hv, wipe_wipe], Γ', os2, e1, A3, ?_⟩⟩
    have eP2 : Hd Γ' os2 = fun a => Hd Γ os a ∨ a = Dl := by
      have hno2 : noOwn env vs = true := hno
      exact hd_same A' hv hno2 eP m2 k2
    rw [ec]
    intro H3 s3
    have sH : Same H1 H3 := s.trans (s2.trans s3)
    have eD3 : H3 Dl = some (.lst accV) := s3 _ _ (s2 _ _ eD)
    have racc3 : Reps K (hid (fun a => Hd Γ os a ∨ a = Dl) H3) accD accV := Reps.mono (Same.hid (s2.trans s3)) _ _ racc
    rcases hk with ⟨rfl, ds1, zs1, zs', ei, hno1, e1c, em', rfl⟩ | ⟨rfl, em'⟩
    · show tGI K mg W0 it1 σ2 H3 _
      refine ⟨Γ', os2, e1, A3.mono s3, ?_⟩
      rw [ei]
      intro H4 s4 J1 itJ1
      obtain ⟨Gp1, Y1, wk1, keep1, yl1⟩ := itJ1
      have A4 := (A3.mono s3).mono s4
      refine out_it wk1 (fun j Hh => ∃ accV accD zsj, (∀ a o, a ≠ Dl → H4 a = some o → Hh a = some o) ∧ Same H1 Hh ∧ Hh Dl = some (.lst accV) ∧ Reps K (hid (fun a => Hd Γ os a ∨ a = Dl) Hh) accD accV ∧ compM t1 c1 e (wipeE e1 vs1) (ds1.drop j) = .ok zsj ∧ accD ++ (zsj ++ zs') = ys)
        ⟨accV, accD, zs1, fun a o _ q => q, sH.trans s4, s4 _ _ eD3, Reps.mono (Same.hid s4) _ _ racc3, by rw [List.drop_zero]; exact e1c, ez⟩ (fun j Hh _ ⟨_, _, _, q, _, _⟩ => keep1 Hh fun a o z => q a o (fun e => (hid_some z).1 (by rw [e]; exact .inl hD')) (hid_some z).2) (fun j x1 Hj Hj' hj hpj yj => ?_) (fun Hj hpj => ?_)
      · obtain ⟨accVj, accDj, zsj, oj, sj, eDj, rj, emj, ezj⟩ := hpj
        have edj : ds1[j]? = some ds1[j] := List.getElem?_eq_getElem hj
        have hdj : ds1.drop j = ds1[j] :: ds1.drop (j + 1) := List.drop_eq_getElem_cons hj
        rw [hdj] at emj
        obtain ⟨Γ5, A5, eP5⟩ := A4.over hD' oj (by rw [eDj]; exact nofun)
        have eH5 : Hd Γ5 os2 = fun a => Hd Γ os a ∨ a = Dl := by
          rw [← eP2]
          unfold Hd
          rw [eP5]
        have vis1 : Same (hid (Hd Γ' os2) H4) (hid (fun a => Hd Γ os a ∨ a = Dl) Hj) := fun a o z => by
          obtain ⟨q1, q2⟩ := hid_some z
          rw [eP2] at q1
          exact hid_of q1 (oj a o (fun e => q1 (.inr e)) q2)
        have hPj : Hides (fun a => Hd Γ os a ∨ a = Dl) Hj := by
          rw [← eH5]
          exact A5.hides
        obtain ⟨s6, rx1⟩ := yl1 j _ Hj x1 Hj' _ edj yj hPj vis1
        obtain ⟨e2, k1, et1, ec1, hk1⟩ := compM_cons emj
        have A6 := (A5.mono s6).wipe vs1 hno1
        have rx1' : Rep K (hid (Hd Γ5 os2) Hj') ds1[j] x1 := by rw [eH5]; exact rx1
        refine ⟨Γ5, os2, wipeE e1 vs1, ds1[j], e2, A6, rx1', et1, fun os3 σ3 A7 w3 m3 k3 => ⟨by rw [w3 vs1 hv1, wipe_wipe], Γ5, os3, e2, A7, ?_⟩⟩
        have eP3 : Hd Γ5 os3 = fun a => Hd Γ os a ∨ a = Dl := hd_same A5 hv1 hno1 eH5 m3 k3
        rw [ec1]
        intro H6 s7
        have oj6 : ∀ a o, a ≠ Dl → H4 a = some o → H6 a = some o := fun a o z q => s7 _ _ (s6 _ _ (oj a o z q))
        have sH6 : Same H1 H6 := sj.trans (s6.trans s7)
        have eD6 : H6 Dl = some (.lst accVj) := s7 _ _ (s6 _ _ eDj)
        have r6 : Reps K (hid (fun a => Hd Γ os a ∨ a = Dl) H6) accDj accVj := Reps.mono (Same.hid (s6.trans s7)) _ _ rj
        rcases hk1 with ⟨rfl, y0, zsj', ee, emj', rfl⟩ | ⟨rfl, emj'⟩
        · show tG K mg W0 e σ3 H6 _
          refine ⟨Γ5, os3, e2, A7.mono s7, ?_⟩
          rw [ee]
          intro H7 s8 v rv
          rw [eP3] at rv
          have lr := r6.length
          have lz : accDj.length < ys.length := by
            rw [← ezj]
            simp only [List.length_append, List.length_cons]
            omega
          refine ⟨accVj, s8 _ _ eD6, by omega, accVj ++ [v], accDj ++ [y0], zsj', fun a o z q => ?_, fun a o h => ?_, upd_same, ?_, emj', by rw [List.append_assoc]; exact ezj⟩
          · rw [upd_ne z]
            exact s8 _ _ (oj6 a o z q)
          · rw [upd_ne (ne_of_none h nD)]
            exact s8 _ _ (sH6 _ _ h)
          · have sm : Same (hid (fun a => Hd Γ os a ∨ a = Dl) H7) (hid (fun a => Hd Γ os a ∨ a = Dl) (upd H7 Dl (.lst (accVj ++ [v])))) := fun a o h => by
              obtain ⟨q1, q2⟩ := hid_some h
              exact hid_of q1 (by rw [upd_ne (fun z => q1 (.inr z))]; exact q2)
            exact (Reps.mono ((Same.hid s8).trans sm) _ _ r6).snoc (Rep.mono sm _ _ rv)
        · exact ⟨accVj, accDj, zsj, oj6, sH6, eD6, r6, emj', ezj⟩
      · obtain ⟨accVj, accDj, zsj, oj, sj, eDj, rj, emj, ezj⟩ := hpj
        rw [List.drop_length] at emj
        cases emj
        exact ⟨accVj, accDj, zs', sj, eDj, rj, em', ezj⟩
    · exact ⟨accV, accD, zs, sH, eD3, racc3, em', ez⟩
  · obtain ⟨accV, accD, zs, s, eD, racc, em, ez⟩ := hp
    rw [List.drop_length] at em
    cases em
    rw [List.append_nil] at ez
    subst ez
    exact wish Hh s Dl accV nD eD racc
section
variable {X : Cx} {W : WX} {elt tg iter tg1 iter1 : Expr} {ifs ifs1 : List Expr} {scope : Scope} {own : List (Str × Nat)} {pos : Pos} {gi gi1 : GL} {t t1 : GT} {is is1 vs1 : List Nat} {c c1 : GB} {e : GE}
theorem fl_comp2 (hc : X.calm = true) (hN : X.N.Nodup) (ok : blkC X.N X.env.scope scope own = true) (hi : FI X W tg iter gi)
    (hg : ∀ (s : Shared) (H : Hp) (C : Addr) (cl : List (Str × Addr)) (fp : List Addr), FG (X.blk s H scope (compEnvC scope cl C X.env) fp) tg is t)
    (ht : ∀ (s : Shared) (H : Hp) (C : Addr) (cl : List (Str × Addr)) (fp : List Addr), FTs (X.blk s H scope (compEnvC scope cl C X.env) fp) W0 ifs c)
    (hi1 : ∀ (s : Shared) (H : Hp) (C : Addr) (cl : List (Str × Addr)) (fp : List Addr), FI (X.blk s H scope (compEnvC scope cl C X.env) fp) W0 tg1 iter1 gi1)
    (hg1 : ∀ (s : Shared) (H : Hp) (C : Addr) (cl : List (Str × Addr)) (fp : List Addr), FG (X.blk s H scope (compEnvC scope cl C X.env) fp) tg1 is1 t1)
    (ht1 : ∀ (s : Shared) (H : Hp) (C : Addr) (cl : List (Str × Addr)) (fp : List Addr), FTs (X.blk s H scope (compEnvC scope cl C X.env) fp) W0 ifs1 c1)
    (he : ∀ (s : Shared) (H : Hp) (C : Addr) (cl : List (Str × Addr)) (fp : List Addr), FE (X.blk s H scope (compEnvC scope cl C X.env) fp) W0 elt e)
    (hv : ∀ i ∈ is, i ∈ own.map (·.2) := by decide) (hv1 : ∀ i ∈ is1, i ∈ vs1 := by decide) (hvv : ∀ i ∈ vs1, i ∈ own.map (·.2) := by decide) (hs : ∀ x, foldedSetIterable iter X.env x = pure x := by intro _; rfl) (hs1 : ∀ env x, foldedSetIterable iter1 env x = pure x := by intro _ _; rfl) :
    FL X W (.ListComp elt [⟨tg, iter, ifs, 0⟩, ⟨tg1, iter1, ifs1, 0⟩] scope pos) (lComp2 gi (own.map (·.2)) t c gi1 vs1 t1 c1 e) :=
  PE.imp (pe_lc2 hc hN hi (blkOk_by ok) hvv hg ht hi1 hg1 ht1 he hs hs1) fun _ _ _ h => tLc2_of hv hv1 hvv h
theorem fs_comp2 (i : Nat) {y : Str} {py spos : Pos} (hsw : swapsWith (.ListComp elt [⟨tg, iter, ifs, 0⟩, ⟨tg1, iter1, ifs1, 0⟩] scope pos) (some (.Name y py)) spos.line X.env = pure true) (hc : X.calm = true) (hN : X.N.Nodup) (ok : blkC X.N X.env.scope scope own = true) (hi : FI X W tg iter gi)
    (hg : ∀ (s : Shared) (H : Hp) (C : Addr) (cl : List (Str × Addr)) (fp : List Addr), FG (X.blk s H scope (compEnvC scope cl C X.env) fp) tg is t)
    (ht : ∀ (s : Shared) (H : Hp) (C : Addr) (cl : List (Str × Addr)) (fp : List Addr), FTs (X.blk s H scope (compEnvC scope cl C X.env) fp) W0 ifs c)
    (hi1 : ∀ (s : Shared) (H : Hp) (C : Addr) (cl : List (Str × Addr)) (fp : List Addr), FI (X.blk s H scope (compEnvC scope cl C X.env) fp) W0 tg1 iter1 gi1)
    (hg1 : ∀ (s : Shared) (H : Hp) (C : Addr) (cl : List (Str × Addr)) (fp : List Addr), FG (X.blk s H scope (compEnvC scope cl C X.env) fp) tg1 is1 t1)
    (ht1 : ∀ (s : Shared) (H : Hp) (C : Addr) (cl : List (Str × Addr)) (fp : List Addr), FTs (X.blk s H scope (compEnvC scope cl C X.env) fp) W0 ifs1 c1)
    (he : ∀ (s : Shared) (H : Hp) (C : Addr) (cl : List (Str × Addr)) (fp : List Addr), FE (X.blk s H scope (compEnvC scope cl C X.env) fp) W0 elt e)
    (hv : ∀ i ∈ is, i ∈ own.map (·.2) := by decide) (hv1 : ∀ i ∈ is1, i ∈ vs1 := by decide) (hvv : ∀ i ∈ vs1, i ∈ own.map (·.2) := by decide) (hs : ∀ x, foldedSetIterable iter X.env x = pure x := by intro _; rfl) (hs1 : ∀ env x, foldedSetIterable iter1 env x = pure x := by intro _ _; rfl)
    (hy : X.N[i]? = some y := by rfl) (hyl : X.env.scope.names.lookup y = some .local := by rfl) :
    FS X W (.Assign [.Name y py] (.ListComp elt [⟨tg, iter, ifs, 0⟩, ⟨tg1, iter1, ifs1, 0⟩] scope pos) spos) (sSetL i (lComp2 gi (own.map (·.2)) t c gi1 vs1 t1 c1 e)) := by
  refine PS.imp (ps_setLc2 (wi := tGI X.K X.mg W gi) (g := tGT X.K is t) (tt := tGB X.K X.mg W0 c) (wi1 := tGI X.K X.mg W0 gi1) (g1 := tGT X.K is1 t1) (tt1 := tGB X.K X.mg W0 c1) (te := tG X.K X.mg W0 e) hc hN hy hyl hsw hi (blkOk_by ok) hvv hg ht hi1 hg1 ht1 he hs hs1) fun Dn σ H h => ?_
  obtain ⟨Γ, os, env, A, h⟩ := h
  exact tLc2_of hv hv1 hvv ⟨Γ, os, env, A, WS.expr A h fun d H' _ s h p vs n e r => h _ _ _ (A.set_own s n e r)⟩
end
end AF

namespace AF
open PySem PySem.Spec PyProof.Rows L2
/-! ### a text times an int -/
def dRepS : D → D → Option D
  | .str s, .int k => if 0 ≤ k ∧ k ≤ 100000 ∧ s.length ≤ 1000 ∧ s.length * k.toNat ≤ 100000 then some (.str (List.replicate k.toNat s).flatten) else none
  | _, _ => none
def rMulS : R2 := fun x y H Q => ∃ (z : Str) (k : Int), x = .str z ∧ y = .int k ∧ MulOk z k ∧ Q (.str (Txt.mul z k)) H
theorem op_mulS {X : Cx} : OpR X (binaryOp .Mult) rMulS := by
  intro pins s σ H x y v u Q I rx ry h
  obtain ⟨z, k, rfl, rfl, hz, q⟩ := h
  obtain ⟨t, rfl⟩ := rx
  obtain ⟨t', rfl⟩ := ry
  exact SB.mul hz fun t' tk => ⟨.str _, H, I.tok _, ⟨_, rfl⟩, q⟩
theorem foldA (its : List Nat) : ∀ (m : Nat) (acc : List Nat), (List.replicate m its.toArray).foldl (· ++ ·) acc.toArray = (acc ++ (List.replicate m its).flatten).toArray
  | 0, acc => by simp
  | m + 1, acc => by
    rw [List.replicate_succ, List.foldl_cons, List.replicate_succ, List.flatten_cons, ← List.append_assoc]
    have : acc.toArray ++ its.toArray = (acc ++ its).toArray := by simp
    rw [this]
    exact foldA its m (acc ++ its)
theorem txt_mul {s : List Nat} {k : Int} (hk : 0 ≤ k) : Txt.mul ⟨s.toArray⟩ k = ⟨((List.replicate k.toNat s).flatten).toArray⟩ := by
  unfold Txt.mul
  split
  · have : k = 0 := by omega
    subst this
    rfl
  · split
    · rename_i h
      rw [Bool.or_eq_true] at h
      rcases h with h | h
      · have : k = 1 := by simpa using h
        subst this
        simp
      · have : s = [] := by
          have h : ((s.toArray).size == 0) = true := h
          simpa using h
        subst this
        have : ∀ m : Nat, (List.replicate m ([] : List Nat)).flatten = [] := fun m => by
          induction m with
          | zero => rfl
          | succ m ih => rw [List.replicate_succ, List.flatten_cons, ih]; rfl
        rw [this]
    · have := foldA s k.toNat []
      rw [List.nil_append] at this
      exact congrArg Str.mk this
theorem all_rep {s : List Nat} (h : s.all (· < 1114112) = true) : ∀ m : Nat, ((List.replicate m s).flatten).all (· < 1114112) = true
  | 0 => rfl
  | m + 1 => by rw [List.replicate_succ, List.flatten_cons, List.all_append, h, all_rep h m]; rfl
theorem len_rep (s : List Nat) : ∀ m : Nat, ((List.replicate m s).flatten).length = m * s.length
  | 0 => by simp
  | m + 1 => by rw [List.replicate_succ, List.flatten_cons, List.length_append, len_rep s m, Nat.succ_mul, Nat.add_comm]
theorem ok_mulS {K : PySem.W.Frag} : Ok2 K rMulS dRepS := by
  intro P H x y d e z Q hP rx ry ez q
  cases d <;> cases e <;> first | (cases ez; done) | skip
  rename_i s k
  obtain ⟨rfl, h1, h2⟩ := rx
  cases ry
  have ez : (if 0 ≤ k ∧ k ≤ 100000 ∧ s.length ≤ 1000 ∧ s.length * k.toNat ≤ 100000 then some (D.str (List.replicate k.toNat s).flatten) else none) = some z := ez
  split at ez
  · rename_i hh
    cases ez
    obtain ⟨c1, c2, c3, hm⟩ := hh
    have hl : (⟨s.toArray⟩ : Str).length = s.length := by show (s.toArray).size = _; simp
    have hsl : 100000 ≤ sizeLine := by decide
    refine ⟨_, _, rfl, rfl, ⟨?_, fun h _ => ?_, fun h _ => ?_⟩, ?_⟩
    · rw [decide_eq_false (by omega), decide_eq_false (by omega)]; rfl
    · rw [hl]
      have : (2 ^ 63 - 1 : Int) / k ≥ (2 ^ 63 - 1) / 100000 := by
        rw [ge_iff_le, Int.le_ediv_iff_mul_le (by omega)]
        have e1 : ((2 ^ 63 - 1 : Int) / 100000) * k ≤ ((2 ^ 63 - 1 : Int) / 100000) * 100000 := Int.mul_le_mul_of_nonneg_left c2 (by decide)
        have e2 : ((2 ^ 63 - 1 : Int) / 100000) * 100000 ≤ 2 ^ 63 - 1 := by decide
        omega
      have e3 : ((2 ^ 63 - 1 : Int) / 100000) ≥ 1000 := by decide
      omega
    · rw [hl]
      unfold Builtin.Str.tooLong
      first | exact decide_eq_false (by omega) | (simp; omega)
    · rw [txt_mul c1]
      refine q _ H (Same.refl H) ⟨rfl, ?_, all_rep h2 _⟩
      rw [len_rep, Nat.mul_comm]
      exact Nat.le_trans hm (by decide)
  · cases ez
theorem fe_mulS {X : Cx} {W : WX} {a b : Expr} {ga gb : GE} {pos : Pos} (ha : FE X W a ga) (hb : FE X W b gb) : FE X W (.BinOp a .Mult b pos) (e2 dRepS ga gb) := fe_op op_mulS ok_mulS ha hb
end AF

namespace AF
open PySem PySem.Spec PyProof.Rows L2
/-! ### a def that returns a list of its own: what the call tells is a new list -/
inductive OutL where
  | ok (ds : List D) | err (e : Er) (env : En) | stuck
abbrev GSL := En → OutL
section
variable (K : PySem.W.Frag) (mg : Str → Option Value)
def WSL (W : WX) (Γ : Ga) (r : OutL) (Dn : Ends) : Prop := match r with
  | .ok ds => ∀ p vs H, Same Γ.H0 H → Γ.H0 p = none → H p = some (.lst vs) → Reps K (hid (fun a => Γ.P0 a ∨ a = p) H) ds vs → Dn.rt (.ref p) H
  | .err e env => ∀ os σ H c pd, Agree K Γ os σ H env → ErrR K mg (hid (Hd Γ os) H) H e c pd → W c pd σ H
  | .stuck => False
def tGSL (W : WX) (g : GSL) : TS := fun Dn σ H => ∃ Γ os env, Agree K Γ os σ H env ∧ WSL K mg W Γ (g env) Dn
end
abbrev FSL (X : Cx) (W : WX) (st : List Stmt) (g : GSL) : Prop := PSs X st (tGSL X.K X.mg W g)
def lRet (i : Nat) : GSL := fun env => match env[i]? with
  | some (.own ds) => .ok ds
  | _ => .stuck
def lSeq (a : GS) (b : GSL) : GSL := fun env => match a env with
  | .next e => b e
  | .err e env' => .err e env'
  | _ => .stuck
section
variable {X : Cx} {W : WX} {pos : Pos} {st : Stmt} {rest : List Stmt} {p : GS} {q : GSL}
theorem fsl_ret (i : Nat) {x : Str} {p1 : Pos} (hN : X.N[i]? = some x := by rfl) (hv : Vis X.env.scope x := by first | exact Or.inl rfl | exact Or.inr (Or.inl rfl) | exact Or.inr (Or.inr rfl)) (hd : (x == ("__debug__" : Str)) = false := by decide)
    (hcd : (x == ("__classdict__" : Str)) = false := by decide) : FSL X W [.Return (some (.Name x p1)) pos] (lRet i) := by
  refine PSs.imp (pss_one (ps_ret (pe_var hN hv hd hcd))) fun Dn σ H h => ?_
  obtain ⟨Γ, os, env, A, h⟩ := h
  have h : WSL X.K X.mg W Γ (match env[i]? with | some (.own ds) => .ok ds | _ => .stuck) Dn := h
  split at h
  · rename_i ds e
    obtain ⟨p, vs, ho, hσ, hp, hr⟩ := A.own e
    have hm : some p ∈ os := List.mem_of_getElem? ho
    refine ⟨.ref p, hσ, h p vs H A.same (A.fresh p hm) hp ?_⟩
    refine Reps.mono (Same.hid2 (Same.refl H) fun a _ _ h q => ?_) ds vs hr
    rcases q with q | q
    · exact h (.inl q)
    · exact h (.inr (q ▸ hm))
  · exact h.elim
theorem tseqL {K : PySem.W.Frag} {mg : Str → Option Value} : ∀ Dn σ H, tGSL K mg W (lSeq p q) Dn σ H → tSeq (tGS K mg W p) (tGSL K mg W q) Dn σ H := fun Dn σ H h => by
  obtain ⟨Γ, os, env, A, h⟩ := h
  refine ⟨Γ, os, env, A, ?_⟩
  unfold lSeq at h
  revert h
  cases p env with
  | next e => exact fun h os σ H A => ⟨Γ, os, e, A, h⟩
  | brk e => exact fun h => h.elim
  | cont e => exact fun h => h.elim
  | ret d => exact fun h => h.elim
  | err x e => exact fun h => h
  | stuck => exact fun h => h.elim
theorem fsl_cons (h1 : FS X W st p) (h2 : FSL X W rest q) : FSL X W (st :: rest) (lSeq p q) := PSs.imp (pss_cons h1 h2) tseqL
end
def spFL (K : PySem.W.Frag) (mg : Str → Option Value) (n : Nat) (m : List D → Res (List D)) : Sp := fun vs H Q E => ∃ P ds, Hides P H ∧ Reps K (hid P H) ds vs ∧ ds.length = n ∧ WR K mg P (fun c pd _ H' => E c pd H') [] H (m ds) (zL K P Q)
structure FkL (P : Program) (w : World) (K : PySem.W.Frag) (mg : Str → Option Value) (base : Heap) (k : Nat) (x : Str) (n : Nat) (m : List D → Res (List D)) : Prop where
  ex : ∃ f fd ps, FnOk P w K mg base (L2.CX P w) k f fd ps (spFL K mg n m) ∧ mg x = some (.ref f) ∧ PySem.W.keepIn K (.ref f) = true ∧ Binds K fd ps []
  len : ∀ ds, ds.length ≠ n → m ds = .stuck
def lCallF (m : List D → Res (List D)) (g : GL) : GL := fun env => (g env).bind m
section
variable {X : Cx} {W : WX} {a : Expr} {es : List Expr} {g : GL} {pos p : Pos} {x : Str} {k n : Nat} {m : List D → Res (List D)}
theorem fl_call (F : FkL X.prog X.w X.K X.mg X.base k x n m) (hr : Room k X.A) (tk : Takes X W) (ha : FA X W (a :: es) g) (hg : Gl X x := by rfl) (hdb : (x == ("__debug__" : Str)) = false := by decide)
    (he : starEach (a :: es) X.env = (false, eval a X.env) :: starEach es X.env := by rfl) (hpl : (backTo pos (starEach es X.env)).any (·.1) = false := by rfl) : FL X W (.Call (.Name x p) (a :: es) [] pos) (lCallF m g) := by
  obtain ⟨f, fd, ps, F1, hm, hk, hb⟩ := F.ex
  refine PE.imp (pe_callSD (E := fun σ cls d H => W cls d σ H) F1 hr hg hm hk hb .nil (passAt tk) ha hdb he hpl) fun σ H Q h => ?_
  obtain ⟨Γ, os, env, A, h⟩ := h
  refine ⟨Γ, os, env, A, WR.bind anti_L h fun ds H1 _ s1 h1 vs rv => ?_⟩
  by_cases hl : ds.length = n
  · show spFL X.K X.mg n m (vs ++ []) H1 Q _
    rw [List.append_nil]
    exact ⟨_, ds, A.hides.mono s1, rv, hl, WR.wish h1 fun c pd H' q => q⟩
  · rw [F.len ds hl] at h1
    exact h1.elim
end
def runFL (n nn : Nat) (g : GSL) : List D → Res (List D) := fun ds => if ds.length = n then (match g (ds.map Sl.val ++ List.replicate (nn - n) .unk) with
  | .ok d => .ok d
  | .err e _ => .err e
  | .stuck => .stuck) else .stuck
theorem runFL_len {n nn : Nat} {g : GSL} (ds : List D) (h : ds.length ≠ n) : runFL n nn g ds = .stuck := if_neg h
section
variable {P : Program} {w : World} {K : PySem.W.Frag} {mg : Str → Option Value} {base : Heap}
theorem fkl_mk {x : Str} {st : Stmt} {f : Addr} {fd : FuncData} {N ps : List Str} {k n nn : Nat} {g : GSL} (F : Fun K x x st f fd) (S : FnScope N ps (defScope st)) (hm : mg x = some (.ref f))
    (hb : ∀ (kV doc pm : Value) (an : Option Addr) (cdv ct : Value) (us : List Value), us.length = ps.length → bindArgs (PySem.W.fnOf x x (defArgs st) (defBody st) (defScope st) .none kV doc pm an cdv ct) ⟨us, []⟩ = pure (ps.zip us))
    (hps : ps.length = n) (hnn : N.length = nn) (hle : n ≤ nn)
    (body : ∀ (cdv : Value) (A : Around) (outer : List Env) (s : Shared) (H : Hp) (E : XK), Room k (A.deeper (envOfC x (defScope st) s.heap.objs.size f cdv)) →
      Takes (cxOf (L2.CX P w) P w K mg base N x (defScope st) f cdv A outer s H E) (fun c pd _ H' => E c pd H') →
      PassesOwn (model P w) (A.deeper (envOfC x (defScope st) s.heap.objs.size f cdv)) (envOfC x (defScope st) s.heap.objs.size f cdv) (cxOf (L2.CX P w) P w K mg base N x (defScope st) f cdv A outer s H E).xe →
      FSL (cxOf (L2.CX P w) P w K mg base N x (defScope st) f cdv A outer s H E) (fun c pd _ H' => E c pd H') (defBody st) g) : FkL P w K mg base (k + 1) x n (runFL n nn g) := by
  refine ⟨⟨f, fd, ps, ?_, hm, F.kp, F.binds hb⟩, runFL_len⟩
  refine F.okX S (fun vs H Q E h => ?_) (fun cdv A outer s H vs Q E hr h => ⟨_, body cdv A outer s H E hr (takes_of rfl rfl rfl rfl) (passes_of (X := cxOf (L2.CX P w) P w K mg base N x (defScope st) f cdv A outer s H E) rfl), ?_⟩)
  · obtain ⟨P, ds, _, r, e, _⟩ := h
    rw [r.length, e, hps]
  · obtain ⟨P', ds, hP, r, e, h⟩ := h
    refine ⟨_, _, _, agree_start hP r e (by omega), ?_⟩
    subst hnn
    unfold runFL at h
    rw [if_pos e] at h
    revert h
    cases g (ds.map Sl.val ++ List.replicate (N.length - n) .unk) with
    | ok d => exact fun h p vs H' s n e r => WR.ok h s p vs n e r
    | stuck => exact fun h => h.elim
    | err er env' =>
      intro h os σ H' c pd A q
      refine h c pd H' A.same ?_
      have sm : Same (hid (Hd ⟨H, P', fun _ => none, fun _ => none, fun p => H p = none ∧ (fun _ => none : Hp) p = none⟩ os) H') (hid P' H') := Same.hid2 (Same.refl H') fun _ _ _ h q => h (.inl q)
      cases er with
      | plain y => exact q
      | one y f d =>
        obtain ⟨C, p, v, q1, q2, q3, q4, q5⟩ := q
        exact ⟨C, p, v, q1, q2, q3, q4, Rep.mono sm _ _ q5⟩
end
/-! ### a new list times an int -/
def repL (ds : List D) : D → Option (List D)
  | .int k => if 0 ≤ k ∧ k ≤ 100000 ∧ ds.length * k.toNat ≤ 100000 then some (List.replicate k.toNat ds).flatten else none
  | _ => none
def lRep (gl : GL) (gb : GE) : GL := fun env => (gl env).bind fun ds => (gb env).bind fun k => Res.of (repL ds k)
theorem reps_flat {K : PySem.W.Frag} {H : Hp} {ds : List D} {vs : List V} (r : Reps K H ds vs) : ∀ k : Nat, Reps K H (List.replicate k ds).flatten (List.replicate k vs).flatten
  | 0 => rfl
  | k + 1 => by
    rw [List.replicate_succ, List.flatten_cons, List.replicate_succ, List.flatten_cons]
    exact r.append (reps_flat r k)
theorem fl_rep {X : Cx} {W : WX} {a b : Expr} {ga : GL} {gb : GE} {pos : Pos} (ha : FL X W a ga) (hb : FE X W b gb) : FL X W (.BinOp a .Mult b pos) (lRep ga gb) := by
  refine PE.imp (pe_op op_rep ha hb) fun σ H Q h => ?_
  obtain ⟨Γ, os, env, A, h⟩ := h
  refine ⟨Γ, os, env, A, WR.bind anti_L h fun ds H1 _ s1 h1 p vs n e r => ⟨Γ, os, env, A.mono s1, WR.bind anti_L h1 fun k H2 _ s2 h2 w rw => ?_⟩⟩
  obtain ⟨z, ez, h3⟩ := WR.of h2
  cases k <;> first | (cases ez; done) | skip
  rename_i k _
  cases rw
  have ez : (if 0 ≤ k ∧ k ≤ 100000 ∧ ds.length * k.toNat ≤ 100000 then some (List.replicate k.toNat ds).flatten else none) = some z := ez
  split at ez
  · rename_i hh
    cases ez
    obtain ⟨c1, c2, c3⟩ := hh
    have hl := r.length
    have hsl : 100000 ≤ sizeLine := by decide
    refine ⟨p, k, vs, rfl, rfl, s2 _ _ e, by omega, by omega, by rw [hl]; omega, fun p' n' => ?_⟩
    refine h3 (upd H2 p' (.lst (List.replicate k.toNat vs).flatten)) (same_new n') p' _ n' upd_same (reps_flat (Reps.mono (fun a o q => ?_) ds vs r) _)
    obtain ⟨q1, q2⟩ := hid_some q
    have q3 := s2 _ _ q2
    have ne : a ≠ p' := ne_of_none q3 n'
    exact hid_of (fun z => z.elim (fun z => q1 (.inl z)) ne) (by rw [upd_ne ne]; exact q3)
  · cases ez
/-! ### reversed(x) as what is walked -/
def revI : D → Option (List D)
  | .lst xs => some xs.reverse
  | .tup xs => some xs.reverse
  | _ => none
def iRevG (g : GE) : GL := fun env => (g env).bind fun d => Res.of (revI d)
theorem rev_get {α : Type} {xs : List α} {i : Nat} {d : α} (h : xs.reverse[i]? = some d) : i < xs.length ∧ xs[xs.length - 1 - i]? = some d := by
  have hi : i < xs.length := by
    have := (List.getElem?_eq_some_iff.mp h).1
    rwa [List.length_reverse] at this
  rw [List.getElem?_reverse hi] at h
  exact ⟨hi, h⟩
theorem walk_revT {K : PySem.W.Frag} {a : Addr} {xs : List V} : Walk (RT.ItvT K a xs.length) xs.length (fun H => SqT K H a xs) (fun i H x H' => H' = H ∧ xs[xs.length - 1 - i]? = some x) :=
  ⟨fun i _ hi q => ⟨hi, xs, xs[xs.length - 1 - i]'(by omega), q, by simp [show xs.length - 1 - i < xs.length by omega]⟩, fun _ _ => Nat.le_refl _, fun _ _ _ _ _ q y => ⟨y.1, y.2 xs q⟩⟩
theorem fi_rev {X : Cx} {W : WX} {tg e : Expr} {g : GE} {p pos : Pos} (hm : X.mg "reversed" = none) (he : FE X W e g) (hg : Gl X "reversed" := by rfl) (hs : starEach [e] X.env = (false, eval e X.env) :: starEach [] X.env := by rfl) : FI X W tg (.Call (.Name "reversed" p) [e] [] pos) (iRevG g) := by
  refine PI.imp (RT.pi_revA hg hm he hs) fun σ H R h => ?_
  obtain ⟨Γ, os, env, A, h⟩ := h
  have hZ : Anti (fun (_ : Hp) (ds : List D) H' => ∀ J, IsIt X.K (hid (Hd Γ os) H') J ds → R J H') := fun _ _ _ _ _ h => h
  refine ⟨Γ, os, env, A, WR.bind hZ h fun d H1 _ s1 h1 v rv => ?_⟩
  obtain ⟨ds, ed, h2⟩ := WR.of h1
  have h2 := h2 H1 (Same.refl H1)
  cases d <;> first | (cases ed; done) | skip
  · cases ed
    obtain ⟨a, vs, rfl, q1, q2⟩ := rv
    refine ⟨a, vs, rfl, .inr ⟨Same.seqT (hid_same _ H1) q1, h2 _ ⟨_, _, by rw [List.length_reverse, ← q2.length]; exact walk_revT, fun H s => Same.seqT s q1, fun i d H x H2 P e y hP s => ?_⟩⟩⟩
    obtain ⟨rfl, ex⟩ := y
    obtain ⟨_, e'⟩ := rev_get e
    rw [← q2.length] at e'
    obtain ⟨d', e2, hd⟩ := q2.get ex
    rw [e'] at e2
    cases e2
    exact ⟨Same.refl _, Rep.mono s _ x hd⟩
  · cases ed
    obtain ⟨a, vs, rfl, q1, q2⟩ := rv
    refine ⟨a, vs, rfl, .inl ⟨Same.sl (hid_same _ H1) q1, h2 _ ⟨_, _, by rw [List.length_reverse, ← q2.length]; exact walk_rev, fun H s => Same.sl s q1, fun i d H x H2 P e y hP s => ?_⟩⟩⟩
    obtain ⟨rfl, ex⟩ := y
    obtain ⟨_, e'⟩ := rev_get e
    rw [← q2.length] at e'
    obtain ⟨d', e2, hd⟩ := q2.get ex
    rw [e'] at e2
    cases e2
    exact ⟨Same.refl _, Rep.mono s _ x hd⟩
end AF

namespace AF
open PySem PySem.Spec PyProof.Rows L2
/-! ### a def's own level: values pinned to an earlier heap, a list lent out and written at afterwards -/
def pin1 : Sl → Sl
  | .val d => .pin d
  | .lent ds => .pin (.lst ds)
  | s => s
def pinE : En → En
  | [] => []
  | s :: r => pin1 s :: pinE r
def drop1 : Sl → Sl
  | .pin d => .pin d
  | _ => .unk
def dropE : En → En
  | [] => []
  | s :: r => drop1 s :: dropE r
def lendE (i : Nat) (env : En) : En := match env[i]? with
  | some (.own ds) => env.set i (.lent ds)
  | _ => env
def sPin (q : GS) : GS := fun env => q (pinE env)
def sLend (i : Nat) (q : GS) : GS := fun env => q (lendE i env)
def lentOk (env : En) (i : Nat) : Bool := match env[i]? with
  | some (.lent ds) => decide (ds.length < sizeLine)
  | _ => false
def sAppP (i : Nat) (g : GE) : GS := fun env => if lentOk env i = true then onOk env (g env) fun d => if scalD d = true then .next (dropE env) else .stuck else .stuck
theorem pinE_map : ∀ env, pinE env = env.map pin1
  | [] => rfl
  | _ :: r => congrArg _ (pinE_map r)
theorem dropE_map : ∀ env, dropE env = env.map drop1
  | [] => rfl
  | _ :: r => congrArg _ (dropE_map r)
def Top (Γ : Ga) : Prop := (∀ a, Γ.G0 a = none) ∧ ∀ p, Γ.L p ↔ Γ.H0 p = none ∧ Γ.G1 p = none
section
variable (K : PySem.W.Frag) (mg : Str → Option Value)
def WST (W : WX) (Γ : Ga) (r : Out) (Dn : Ends) : Prop := match r with
  | .next _ => ∀ σ H, Same Γ.H0 H → Dn.nx σ H
  | .ret d => ∀ v H, Same Γ.H0 H → Rep K (hid Γ.P0 H) d v → Dn.rt v H
  | .err e _ => ∀ σ H c pd, Same Γ.H0 H → ErrR K mg (hid Γ.P0 H) H e c pd → W c pd σ H
  | _ => False
def tGST (W : WX) (g : GS) : TS := fun Dn σ H => ∃ Γ os env, Top Γ ∧ Agree K Γ os σ H env ∧ WST K mg W Γ (g env) Dn
end
abbrev FST (X : Cx) (W : WX) (st : List Stmt) (g : GS) : Prop := PSs X st (tGST X.K X.mg W g)
section
variable {K : PySem.W.Frag} {Γ : Ga} {os : List (Option Addr)} {σ : L2.St} {H H' : Hp} {env : En} {mg : Str → Option Value} {W : WX}
theorem errP0 {e : Er} {c : Value} {pd : Option Addr} (q : ErrR K mg (hid (Hd Γ os) H) H e c pd) : ErrR K mg (hid Γ.P0 H) H e c pd := by
  have sm : Same (hid (Hd Γ os) H) (hid Γ.P0 H) := Same.hid2 (Same.refl H) fun _ _ _ h q => h (.inl q)
  cases e with
  | plain y => exact q
  | one y f d =>
    obtain ⟨C, p, v, q1, q2, q3, q4, q5⟩ := q
    exact ⟨C, p, v, q1, q2, q3, q4, Rep.mono sm _ _ q5⟩
theorem WS.top {r : Out} {Dn : Ends} (h : WST K mg W Γ r Dn) : WS K mg W Γ r Dn := by
  cases r with
  | next e => exact fun os σ H A => h σ H A.same
  | brk e => exact h.elim
  | cont e => exact h.elim
  | ret d => exact h
  | err x e => exact fun os σ H c pd A q => h σ H c pd A.same (errP0 q)
  | stuck => exact h.elim
theorem Agree.lend (A : Agree K Γ os σ H env) (hT : Top Γ) {i : Nat} {ds : List D} (h : env[i]? = some (.own ds)) : Agree K Γ (os.set i none) σ H (env.set i (.lent ds)) := by
  obtain ⟨p, vs, ho, hσ, hp, hr⟩ := A.own h
  have B := A.freeze h
  have s : Same (hid (Hd Γ os) H) (hid (Hd Γ (os.set i none)) H) := Same.hid2 (Same.refl H) fun _ _ _ h q => h q.set_none
  have hm : some p ∈ os := List.mem_of_getElem? ho
  have np : ¬ Hd Γ (os.set i none) p := fun q => by
    rcases q with q | q
    · exact A.notP0 hm q
    · obtain ⟨j, hj, e⟩ := List.mem_iff_getElem.mp q
      have e' : (os.set i none)[j]? = some (some p) := by rw [List.getElem?_eq_getElem hj, e]
      rcases get_set_some e' with ⟨_, z, _⟩ | ⟨ne, e'⟩
      · cases z
      · exact ne (A.nd j i p e' ho)
  have hL : Γ.L p := (hT.2 p).mpr ⟨A.fresh p hm, by
    cases e : Γ.G1 p with
    | none => rfl
    | some o => exact absurd (.inr hm) (hid_some (A.vis1 _ _ e)).1⟩
  refine ⟨by simpa using B.len, by simpa using B.olen, B.same, B.vis, B.vis1, B.p0, B.fresh, B.nd, fun j sl h' => ?_⟩
  rcases get_set_some h' with ⟨rfl, rfl, hi⟩ | ⟨ne, h'⟩
  · exact ⟨_, none, hσ, List.getElem?_set_self (by rw [A.olen]; exact hi), rfl, p, vs, rfl, hL, hid_of np hp, Reps.mono s ds vs hr⟩
  · obtain ⟨sv, o, h1, h2, h3⟩ := A.slot j sl h'
    exact ⟨sv, o, h1, by rw [List.getElem?_set_ne (Ne.symm ne)]; exact h2, h3.mono s (Same.refl H)⟩
theorem Agree.pinned (A : Agree K Γ os σ H env) : Agree K ⟨Γ.H0, Γ.P0, Γ.G0, hid (Hd Γ os) H, fun p => Γ.H0 p = none ∧ hid (Hd Γ os) H p = none⟩ os σ H (pinE env) := by
  rw [pinE_map]
  refine ⟨by simpa using A.len, by simpa using A.olen, A.same, A.vis, Same.refl _, A.p0, A.fresh, A.nd, fun j sl h => ?_⟩
  rw [List.getElem?_map] at h
  cases e : env[j]? with
  | none => rw [e] at h; cases h
  | some s =>
    rw [e] at h
    cases h
    obtain ⟨sv, o, h1, h2, h3⟩ := A.slot j s e
    refine ⟨sv, o, h1, h2, ?_⟩
    cases s with
    | unk => exact h3
    | val d => exact h3
    | own ds => exact h3
    | pin d =>
      obtain ⟨q1, v, q2, q3⟩ := h3
      exact ⟨q1, v, q2, Rep.mono A.vis1 d v q3⟩
    | lent ds =>
      obtain ⟨q1, p, vs, q2, _, q3, q4⟩ := h3
      exact ⟨q1, .ref p, q2, p, vs, rfl, .inl (.inl q3), q4⟩
theorem Agree.dropped (A : Agree K Γ os σ H env) (hT : Top Γ) {p : Addr} {u : HO} (hL : Γ.L p) : Agree K Γ (os.map fun _ => none) σ (upd H p u) (dropE env) := by
  rw [dropE_map]
  obtain ⟨n0, n1⟩ := (hT.2 p).mp hL
  refine ⟨by simpa using A.len, by simpa using A.olen, fun a o h => ?_, fun a o h => absurd h (by rw [hT.1 a]; exact nofun), fun a o h => ?_, A.p0, fun q h => ?_, fun a b q h => ?_, fun j sl h => ?_⟩
  · rw [upd_ne (ne_of_none h n0)]
    exact A.same _ _ h
  · obtain ⟨q1, q2⟩ := hid_some (A.vis1 _ _ h)
    refine hid_of (fun z => ?_) (by rw [upd_ne (ne_of_none h n1)]; exact q2)
    rcases z with z | z
    · exact q1 (.inl z)
    · simp at z
  · simp at h
  · rw [List.getElem?_map] at h
    cases e : os[a]? with
    | none => rw [e] at h; cases h
    | some o => rw [e] at h; cases h
  · rw [List.getElem?_map] at h
    cases e : env[j]? with
    | none => rw [e] at h; cases h
    | some s =>
      rw [e] at h
      cases h
      obtain ⟨sv, o, h1, h2, h3⟩ := A.slot j s e
      refine ⟨sv, none, h1, by rw [List.getElem?_map, h2]; rfl, ?_⟩
      cases s with
      | unk => exact rfl
      | val d => exact rfl
      | own ds => exact rfl
      | pin d => exact ⟨rfl, h3.2⟩
      | lent ds => exact rfl
end
section
variable {X : Cx} {W : WX} {st : Stmt} {sts rest : List Stmt} {a : Expr} {ga : GE} {p q : GS} {pos : Pos}
theorem fst_last (h : FSs X W sts p) : FST X W sts p := PSs.imp h fun Dn σ H h => by
  obtain ⟨Γ, os, env, _, A, h⟩ := h
  exact ⟨Γ, os, env, A, WS.top h⟩
theorem tseqT {K : PySem.W.Frag} {mg : Str → Option Value} : ∀ Dn σ H, tGST K mg W (sSeq p q) Dn σ H → tSeq (tGS K mg W p) (tGST K mg W q) Dn σ H := fun Dn σ H h => by
  obtain ⟨Γ, os, env, hT, A, h⟩ := h
  refine ⟨Γ, os, env, A, ?_⟩
  have h : WST K mg W Γ (match p env with | .next e => q e | r => r) Dn := h
  revert h
  cases p env with
  | next e' => exact fun h os' σ' H' A' => ⟨Γ, os', e', hT, A', h⟩
  | brk e' => exact fun h => h.elim
  | cont e' => exact fun h => h.elim
  | ret d => exact id
  | err x e' => exact fun h os σ H c pd A q => h σ H c pd A.same (errP0 q)
  | stuck => exact fun h => h.elim
theorem fst_cons (h1 : FS X W st p) (h2 : FST X W rest q) : FST X W (st :: rest) (sSeq p q) := PSs.imp (pss_cons h1 h2) tseqT
theorem fst_frz (i : Nat) (h : FST X W sts p) : FST X W sts (sFrz i p) := PSs.imp h fun Dn σ H h => by
  obtain ⟨Γ, os, env, hT, A, h⟩ := h
  obtain ⟨os', A'⟩ := frz_agree A i
  exact ⟨Γ, os', _, hT, A', h⟩
theorem fst_pin (h : FST X W sts p) : FST X W sts (sPin p) := PSs.imp h fun Dn σ H h => by
  obtain ⟨Γ, os, env, hT, A, h⟩ := h
  refine ⟨⟨Γ.H0, Γ.P0, Γ.G0, hid (Hd Γ os) H, fun p => Γ.H0 p = none ∧ hid (Hd Γ os) H p = none⟩, os, _, ⟨hT.1, fun p => Iff.rfl⟩, A.pinned, ?_⟩
  have h : WST X.K X.mg W Γ (p (pinE env)) Dn := h
  revert h
  cases p (pinE env) <;> exact id
theorem fst_lend (i : Nat) (h : FST X W sts p) : FST X W sts (sLend i p) := PSs.imp h fun Dn σ H h => by
  obtain ⟨Γ, os, env, hT, A, h⟩ := h
  have h : WST X.K X.mg W Γ (p (lendE i env)) Dn := h
  unfold lendE at h
  split at h
  · exact ⟨Γ, _, _, hT, A.lend hT ‹_›, h⟩
  · exact ⟨Γ, os, env, hT, A, h⟩
/-- x.append(e) where x was lent: what is not pinned is let go -/
theorem fst_app (i : Nat) {x : Str} {p1 apos pos2 : Pos} (ha : FE X W a ga) (h2 : FST X W rest q) (hN : X.N[i]? = some x := by rfl) (hv : Vis X.env.scope x := by first | exact Or.inl rfl | exact Or.inr (Or.inl rfl) | exact Or.inr (Or.inr rfl)) (hd : (x == ("__debug__" : Str)) = false := by decide)
    (hcd : (x == ("__classdict__" : Str)) = false := by decide)
    (hp : PE X (.Call (.Attribute (.Name x p1) "append" apos) [a] [] pos2) (tBM X.K "list" rAppend (tVar i) (tCons (tG X.K X.mg W ga) tNil)))
    (hs : swapsWith (.Call (.Attribute (.Name x p1) "append" apos) [a] [] pos2) none pos.line X.env = pure false := by rfl) : FST X W (.Expr (.Call (.Attribute (.Name x p1) "append" apos) [a] [] pos2) pos :: rest) (sSeq (sAppP i ga) q) := by
  refine PSs.imp (pss_cons (ps_expr hp hs) h2) fun Dn σ H h => ?_
  obtain ⟨Γ, os, env, hT, A, h⟩ := h
  have h : WST X.K X.mg W Γ (match (if lentOk env i = true then onOk env (ga env) fun d => if scalD d = true then .next (dropE env) else .stuck else Out.stuck) with | .next e => q e | r => r) Dn := h
  by_cases c1 : lentOk env i = true
  · rw [if_pos c1] at h
    unfold lentOk at c1
    cases ei : env[i]? with
    | none => rw [ei] at c1; cases c1
    | some sl =>
      rw [ei] at c1
      cases sl with
      | unk => cases c1
      | val _ => cases c1
      | own _ => cases c1
      | pin _ => cases c1
      | lent ds =>
        have c1 : ds.length < sizeLine := of_decide_eq_true c1
        obtain ⟨sv, o, h1, h2, h3, r, vs, h4, hL, h5, h6⟩ := A.slot i _ ei
        subst h4
        refine ⟨.ref r, h1, .inl ⟨rfl, _, .inl (.inl (hid_some h5).2)⟩, Γ, os, env, A, ?_⟩
        cases eg : ga env with
        | stuck => rw [eg] at h; exact h.elim
        | err e =>
          rw [eg] at h
          exact fun c pd H' s q => h σ H' c pd (A.same.trans s) (errP0 q)
        | ok d =>
          rw [eg] at h
          have h : WST X.K X.mg W Γ (match (if scalD d = true then Out.next (dropE env) else .stuck) with | .next e => q e | r => r) Dn := h
          by_cases hc : scalD d = true
          · rw [if_pos hc] at h
            intro H' s v rv
            have l := h6.length
            exact ⟨r, vs, v, rfl, rfl, s _ _ (hid_some h5).2, by omega, Γ, _, _, hT, (A.mono s).dropped hT hL, h⟩
          · rw [if_neg hc] at h
            exact h.elim
  · rw [if_neg c1] at h
    exact h.elim
end
section
variable {P : Program} {w : World} {K : PySem.W.Frag} {mg : Str → Option Value} {base : Heap}
theorem fkT_mk {x : Str} {st : Stmt} {f : Addr} {fd : FuncData} {N ps : List Str} {k n nn : Nat} {g : GS} (F : Fun K x x st f fd) (S : FnScope N ps (defScope st)) (hm : mg x = some (.ref f))
    (hb : ∀ (kV doc pm : Value) (an : Option Addr) (cdv ct : Value) (us : List Value), us.length = ps.length → bindArgs (PySem.W.fnOf x x (defArgs st) (defBody st) (defScope st) .none kV doc pm an cdv ct) ⟨us, []⟩ = pure (ps.zip us))
    (hps : ps.length = n) (hnn : N.length = nn) (hle : n ≤ nn)
    (body : ∀ (cdv : Value) (A : Around) (outer : List Env) (s : Shared) (H : Hp) (E : XK), Room k (A.deeper (envOfC x (defScope st) s.heap.objs.size f cdv)) →
      Takes (cxOf (L2.CX P w) P w K mg base N x (defScope st) f cdv A outer s H E) (fun c pd _ H' => E c pd H') →
      PassesOwn (model P w) (A.deeper (envOfC x (defScope st) s.heap.objs.size f cdv)) (envOfC x (defScope st) s.heap.objs.size f cdv) (cxOf (L2.CX P w) P w K mg base N x (defScope st) f cdv A outer s H E).xe →
      FST (cxOf (L2.CX P w) P w K mg base N x (defScope st) f cdv A outer s H E) (fun c pd _ H' => E c pd H') (defBody st) g) : Fk P w K mg base (k + 1) x n (runF n nn g) := by
  refine ⟨⟨f, fd, ps, ?_, hm, F.kp, F.binds hb⟩, runF_len⟩
  refine F.okX S (fun vs H Q E h => ?_) (fun cdv A outer s H vs Q E hr h => ⟨_, body cdv A outer s H E hr (takes_of rfl rfl rfl rfl) (passes_of (X := cxOf (L2.CX P w) P w K mg base N x (defScope st) f cdv A outer s H E) rfl), ?_⟩)
  · obtain ⟨P, ds, _, r, e, _⟩ := h
    rw [r.length, e, hps]
  · obtain ⟨P', ds, hP, r, e, h⟩ := h
    refine ⟨_, _, _, ⟨fun _ => rfl, fun _ => Iff.rfl⟩, agree_start hP r e (by omega), ?_⟩
    subst hnn
    unfold runF at h
    rw [if_pos e] at h
    revert h
    cases g (ds.map Sl.val ++ List.replicate (N.length - n) .unk) with
    | next env' => exact fun h σ H' s => WR.ok h s .non rfl
    | brk env' => exact fun h => h.elim
    | cont env' => exact fun h => h.elim
    | ret d => exact fun h v H' s r => WR.ok h s v r
    | stuck => exact fun h => h.elim
    | err er env' => exact fun h σ H' c pd s q => h c pd H' s q
end
end AF

namespace AF
open PySem PySem.Spec PyProof.Rows L2

/-! ### the law's end -/
def lawSp (K : PySem.W.Frag) : Sp := fun vs H Q _ => ∃ (a : Addr) (ns : List Int), vs = [.ref a] ∧ SqL K H a (ns.map V.int) ∧ ns.length ≤ 63 ∧ (∀ z ∈ ns, Builtin.Int.intBits z ≤ 1048576) ∧ ∀ H', Q (.bl true) H'
/-- the plain law of a mirror -/
def Keeps (m : List D → Res D) : Prop := ∀ ns : List Int, ns.length ≤ 63 → (∀ z ∈ ns, Builtin.Int.intBits z ≤ 1048576) → m [.lst (ns.map .int)] = .ok (.bl true)
theorem reps_intsL {K : PySem.W.Frag} {H : Hp} : ∀ ns : List Int, Reps K H (ns.map .int) (ns.map V.int)
  | [] => rfl
  | n :: ns => ⟨_, _, rfl, rfl, reps_intsL ns⟩
theorem fn_law {P : Program} {w : World} {K : PySem.W.Frag} {mg : Str → Option Value} {base : Heap} {k : Nat} {f : Addr} {fd : FuncData} {ps : List Str} {m : List D → Res D}
    (F : FnOk P w K mg base (L2.CX P w) k f fd ps (spF K mg 1 m)) (h : Keeps m) : FnOk P w K mg base (L2.CX P w) k f fd ps (lawSp K) := by
  refine F.imp fun vs H Q E q => ?_
  obtain ⟨a, ns, rfl, h1, h2, h3, q⟩ := q
  have e : Same H (hid (fun _ => False) H) := fun b x e => hid_of (fun z => z) e
  refine ⟨fun _ => False, [.lst (ns.map .int)], fun a p => p.elim, ⟨.ref a, [], rfl, ⟨a, _, rfl, Same.sl e h1, reps_intsL ns⟩, rfl⟩, rfl, ?_⟩
  rw [h ns h2 h3]
  intro H' s v r
  cases r
  exact q H'
theorem law_end {l : PySem.W.OpenLaw} {k : Nat} {q : Program} {loose : List Str} {XP : (Str → Option Value) → Heap → Prop} {YP : World → Heap → Prop} {d : DefRec} {K : Params → PySem.W.Frag} {x : Str} {m : List D → Res D}
    (hm : Keeps m) (hn : l.most = some 63) (hdf : d.params.defaults = []) (hr : Room k callerA)
    (hY : ∀ (w : World) (h : Heap), YP w h → (K w.params).In h)
    (F : ∀ (w : World) (mg : Str → Option Value) (fa : Addr) (h : Heap), (K w.params).In h → h.Ns mainGlobals mg → mg d.name = some (.ref fa) →
      ∃ fd : FuncData, (∀ (s : Shared) (u : Value), BindsTo s fd ⟨[u], []⟩ [(x, u)]) ∧
        ∀ base : Heap, (K w.params).In base → base.Ns mainGlobals mg → FnOk l.prog w (K w.params) mg base (L2.CX l.prog w) k fa fd [x] (spF (K w.params) mg 1 m)) :
    PySem.W.WalkO q loose XP YP l.row.toRowW d [] (fun f vs => PySem.call f vs) := by
  refine L2.walk_ofB (n := 63) (CX := fun w => L2.CX l.prog w) (x := x) (sp := fun w => lawSp (K w.params)) hn (by decide) hdf hr hY (fun w mg fa h KX G hmg => ?_) (fun w H a ns h1 h2 _ h3 => ⟨a, ns, rfl, h3, h1, h2, fun _ => rfl⟩) (fun w H s e s' h => ?_)
  · obtain ⟨fd, h1, h2⟩ := F w mg fa h KX G hmg
    exact ⟨fd, h1, fun base b1 b2 => fn_law (h2 base b1 b2) hm⟩
  · obtain ⟨a, B, H', cls, d, _, _, _, _, _, _, _, h⟩ := h
    exact h
/-! ### what the top has written -/
theorem glob_of {K : PySem.W.Frag} {h : Heap} {mg : Str → Option Value} {x : Str} {v : V} {u : Value} (X : K.In h) (G : h.Ns mainGlobals mg) (a : PySem.W.nsIn K mainGlobals x = some (some u)) (r : RelV v u) : ∃ u, mg x = some u ∧ RelV v u := ⟨u, PySem.W.mg_of X G a, r⟩
theorem exn_mk {K : PySem.W.Frag} {h : Heap} {mg : Str → Option Value} {x : String} {C : Addr} (X : K.In h) (G : h.Ns mainGlobals mg) (a : PySem.W.nsIn K mainGlobals (Str.ofString x) = some (some (.ref C)))
    (xc : PySem.W.excIn K C [.type "ValueError", .type "Exception", .type "BaseException", .type "object"] "ValueError.__new__" = true) (k : PySem.W.keepIn K (.ref C) = true) (b : PySem.W.subIn K (.ref C) (.type "BaseException") = some true) (t : PySem.W.typeIn K (.ref C) = some (.type "type")) : Exn K mg x C := ⟨PySem.W.mg_of X G a, xc, k, b, t⟩
theorem cat_cons {K : PySem.W.Frag} {h : Heap} {mg : Str → Option Value} {x : String} {b : Bool} {C D : Addr} {l : List (String × Bool)} (X : K.In h) (G : h.Ns mainGlobals mg) (a : PySem.W.nsIn K mainGlobals (Str.ofString x) = some (some (.ref C)))
    (h1 : PySem.W.subIn K (.ref D) (.type "BaseException") = some true) (hd : PySem.W.hasDictIn K D = true) (ht : PySem.W.typeIn K (.ref D) = some (.type "type")) (h4 : PySem.W.subIn K (.ref C) (.ref D) = some b)
    (r : ∀ q ∈ l, ∃ C, mg (Str.ofString q.1) = some (.ref C) ∧ PySem.W.exmOne K (.ref C) (.ref D) = some q.2) : ∀ q ∈ (x, b) :: l, ∃ C, mg (Str.ofString q.1) = some (.ref C) ∧ PySem.W.exmOne K (.ref C) (.ref D) = some q.2 := by
  intro q hq
  rcases List.mem_cons.mp hq with e | e
  · subst e
    exact ⟨C, PySem.W.mg_of X G a, PySem.W.exm_ref h1 hd ht h4⟩
  · exact r q e
theorem rep_int {K : PySem.W.Frag} {i : Int} : ∀ H : Hp, Rep K H (.int i) (.int i) := fun _ => rfl
theorem rep_str {K : PySem.W.Frag} {l : List Nat} (h : (decide (l.length ≤ sizeLine) && l.all (· < 1114112)) = true := by decide +kernel) : ∀ H : Hp, Rep K H (.str l) (.str ⟨l.toArray⟩) := fun _ => by
  simp only [Bool.and_eq_true, decide_eq_true_eq] at h
  exact ⟨rfl, h.1, h.2⟩
theorem rep_tup {K : PySem.W.Frag} {a : Addr} {o : Obj} {its : Array Value} {n : Nat} {ds : List D} {vs : List V} (e : K.lookup a = some o) (hc : o.cls = .type "tuple") (hd : o.data = .seq its n) (hz : its.size ≤ sizeLine) (hv : Vals vs its.toList) (h : ∀ H, Reps K H ds vs) : ∀ H : Hp, Rep K H (.tup ds) (.ref a) := fun H =>
  ⟨a, vs, rfl, .inr ⟨o, its, n, e, hc, hd, hz, hv⟩, h H⟩
theorem reps_nil {K : PySem.W.Frag} : ∀ H : Hp, Reps K H [] [] := fun _ => rfl
theorem reps_cons {K : PySem.W.Frag} {d : D} {v : V} {ds : List D} {vs : List V} (h1 : ∀ H : Hp, Rep K H d v) (h2 : ∀ H, Reps K H ds vs) : ∀ H : Hp, Reps K H (d :: ds) (v :: vs) := fun H => ⟨v, vs, rfl, h1 H, h2 H⟩
theorem const_tup {K : PySem.W.Frag} {h : Heap} {mg : Str → Option Value} {x : Str} {a : Addr} {o : Obj} {its : Array Value} {n : Nat} {ds : List D} {vs : List V} (X : K.In h) (G : h.Ns mainGlobals mg) (z : PySem.W.nsIn K mainGlobals x = some (some (.ref a)))
    (e : K.lookup a = some o) (hc : o.cls = .type "tuple") (hd : o.data = .seq its n) (hz : its.size ≤ sizeLine) (hv : Vals vs its.toList) (hr : ∀ H, Reps K H ds vs) : (∃ u, mg x = some u ∧ RelV (.ref a) u) ∧ ∀ H : Hp, Rep K H (.tup ds) (.ref a) := ⟨⟨_, PySem.W.mg_of X G z, rfl⟩, rep_tup e hc hd hz hv hr⟩
end AF

namespace AF
open PySem PySem.Spec PyProof.Rows L2 NdefX
/-- a class's one method -/
def initOf : Stmt → Stmt
  | .ClassDef _ _ _ body _ _ _ _ _ _ _ => body.getD 0 (.Pass ⟨0, 0, 0, 0⟩)
  | s => s
theorem honly_of {x : String} {cat : List (String × Bool)} (h : cat.all (fun p => !p.2 || p.1 == x) = true) : ∀ y, cat.lookup y = some true → y = x := fun y e => by
  have := List.all_eq_true.mp h _ (lookup_mem e)
  simpa using this
theorem ex1_mk {P : Program} {w : World} {K : PySem.W.Frag} {h base : Heap} {mg : Str → Option Value} {x f : String} {st : Stmt} {C fI cda cc N : Addr} {a nm q : Str} {bs bm : List Value} {sn : List Str} {sub : List Value} {ab : Bool} {col : Option Bool} {dd : Option Addr} {k0 k1 k2 k3 k5 : Option Value}
    {oc oc2 oc3 doc pm ctv : Value} {od od2 od3 : Option Addr} {sl sl2 sl3 : Array (Option Value)} {vs : Array Value} {tf : Tok} {cd : ClassData} {pl : Sem Bool} {p0 p1 p2 p3 p4 p5 p6 p7 p8 p9 : Pos} {ar : Arg}
    (X : K.In h) (G : h.Ns mainGlobals mg) (aC : PySem.W.nsIn K mainGlobals (Str.ofString x) = some (some (.ref C)))
    (xL : K.lookup C = some (excClassObj nm q C N bs bm true sn sub ab col dd k0 k1 k2 k3 k5 "ValueError.__new__")) (vL : PySem.HandSPX.refsVE bm = true)
    (sa : PySem.W.findIn K (.ref C) "__setattr__" = some (some (.builtin "object.__setattr__"))) (ga : PySem.W.findIn K (.ref C) "__getattribute__" = some (some (.builtin "BaseException.__getattribute__"))) (gg : PySem.W.findIn K (.ref C) "__getattr__" = some none)
    (nf : PySem.W.findIn K (.ref C) (Str.ofString f) = some none) (iC : PySem.W.findIn K (.ref C) "__init__" = some (some (.ref fI))) (tI : PySem.W.typeIn K (.ref fI) = some (.type "function"))
    (lF : K.lookup fI = some ⟨oc, od, .func ((supF (Str.ofString x) (Str.ofString f) st cda cc).fd doc pm ctv), sl⟩) (cF : PySem.W.codeIn K (.ref cda) (Str.ofString x ++ ".__init__") = true) (kF : PySem.W.keepIn K (.ref fI) = true)
    (kC : PySem.W.keepIn K (.ref C) = true) (eC : PySem.W.subIn K (.ref C) (.type "BaseException") = some true) (tC : PySem.W.typeIn K (.ref C) = some (.type "type")) (hC : PySem.W.hasDictIn K C = true)
    (lC : K.lookup cda = some ⟨oc2, od2, .fields vs, sl2⟩) (fC : vs[2]? = some (.str (Str.ofString "/claim/cut.py") tf)) (lcc : K.lookup cc = some ⟨oc3, od3, .cell (some (.ref C)), sl3⟩)
    (hD : PySem.W.clsIn K C = some cd) (hsub : PySem.W.mroIn K C (.ref C) = some true) (hVE : PySem.W.mroIn K C (.type "ValueError") = some true)
    (hal : PySem.W.alongIn K "__init__" ((cd.mro.dropWhile (· != .ref C)).drop 1) = some (some (.builtin "ValueError.__init__"))) (hno : PySem.W.nsIn K cStatics "thirdparty.any" = some none) (hz : PySem.W.nsIn K mainGlobals "super" = some none)
    (hS : nscB ["self", a, "__class__"] ["self", a] ["__class__"] (defScope st) = true)
    (hbody : defBody st = [.Expr (.Call (.Attribute (.Call (.Name "super" p0) [] [] p1) "__init__" p2) [.Name a p3] [] p4) p5, .Assign [.Attribute (.Name "self" p6) (Str.ofString f) p7] (.Name a p8) p9])
    (hks : (defScope st).names.lookup ("super" : Str) = some .globalImplicit) (har1 : ((defArgs st).posonlyargs ++ (defArgs st).args).head? = some ar) (har2 : ar.arg = "self")
    (hfile : P.main.file = "/claim/cut.py") (htop : (P.main.scope.names.lookup ("super" : Str)).isSome = false)
    (hcall : ∀ L g, eval (.Call (.Attribute (.Call (.Name "super" p0) [] [] p1) "__init__" p2) [.Name a p3] [] p4) (envF (supF (Str.ofString x) (Str.ofString f) st cda cc) g L) = (do
      let ov ← attributeBase (.Call (.Name "super" p0) [] [] p1) "__init__" (envF (supF (Str.ofString x) (Str.ofString f) st cda cc) g L) (eval (.Call (.Name "super" p0) [] [] p1) (envF (supF (Str.ofString x) (Str.ofString f) st cda cc) g L))
      standAt p2.atName
      let (fn, first) ← holding [ov] (getMethod ov "__init__" pl)
      callWith p4 fn first (backTo p4 (starEach [.Name a p3] (envF (supF (Str.ofString x) (Str.ofString f) st cda cc) g L))) []))
    (hint : ∀ L g, interactive (envF (supF (Str.ofString x) (Str.ofString f) st cda cc) g L) = false)
    (hsw2 : ∀ L g, swapsWith (.Name a p8) (some (.Attribute (.Name "self" p6) (Str.ofString f) p7)) p9.line (envF (supF (Str.ofString x) (Str.ofString f) st cda cc) g L) = pure false)
    (hsw : ∀ L g, swapsWith (.Call (.Attribute (.Call (.Name "super" p0) [] [] p1) "__init__" p2) [.Name a p3] [] p4) none p5.line (envF (supF (Str.ofString x) (Str.ofString f) st cda cc) g L) = pure false)
    (ha1 : (a == ("__debug__" : Str)) = false) (ha2 : (a == ("__classdict__" : Str)) = false)
    (hb : ∀ (us : List Value), us.length = 2 → bindArgs ((supF (Str.ofString x) (Str.ofString f) st cda cc).fd doc pm ctv) ⟨us, []⟩ = pure ((["self", a] : List Str).zip us)) : Ex1 P w K mg base x f C := by
  have T : OexC K C := ⟨⟨nm, q, N, bs, bm, sn, sub, ab, col, dd, k0, k1, k2, k3, k5, xL, vL⟩, sa, eC, tC, kC⟩
  have S : SupC K mg (Str.ofString x) (Str.ofString f) st C fI cda cc :=
    { g := PySem.W.mg_of X G aC, T := T, X := ⟨ga, gg, eC, hC⟩, iC := iC, tI := tI, lF := ⟨_, _, _, _, _, _, lF⟩, cF := cF, lC := ⟨_, _, _, _, _, lC, fC⟩, lcc := ⟨_, _, _, lcc⟩, hD := ⟨_, hD⟩, hsub := hsub, hVE := hVE,
      hsup := by unfold PySem.W.ks_superIn; rw [hD]; exact hal
      hno := hno, hz := PySem.W.mg_none_of X G hz, nof := nf }
  refine ⟨PySem.W.mg_of X G aC, T, ⟨ga, gg, eC, hC⟩, nf, fI, _, _, iC, tI, sup_fn S (nscope_by hS) hbody hks ⟨ar, har1, har2⟩ hfile htop pl hcall hint hsw2 hsw ha1 ha2 lF, .all hb⟩
end AF

namespace AF
open PySem PySem.Spec PyProof.Rows L2

/-! ### what a mirror answers, wish by wish -/
def wpR {α : Type} (r : Res α) (Q : α → Prop) (E : Er → Prop) : Prop := match r with
  | .ok a => Q a
  | .err e => E e
  | .stuck => False
def wpO {α : Type} (o : Option α) (Q : α → Prop) : Prop := match o with
  | some a => Q a
  | none => False
def wpS (o : Out) (N : En → Prop) (R : D → Prop) (E : Er → En → Prop) (B C : En → Prop) : Prop := match o with
  | .next e => N e
  | .ret d => R d
  | .err x e => E x e
  | .brk e => B e
  | .cont e => C e
  | .stuck => False
section
variable {α β : Type} {Q : α → Prop} {E : Er → Prop} {QD : D → Prop} {QB : Bool → Prop} {QL : List D → Prop} {env : En} {a b c : GE} {g : GL} {gb gc : GB}
theorem wR_ok {x : α} : wpR (.ok x) Q E = Q x := propext Iff.rfl
theorem wR_err {e : Er} : wpR (.err e : Res α) Q E = E e := propext Iff.rfl
theorem wR_bind {r : Res β} {f : β → Res α} : wpR (r.bind f) Q E = wpR r (fun x => wpR (f x) Q E) E := by cases r <;> rfl
theorem wR_of {o : Option α} : wpR (Res.of o) Q E = wpO o Q := by cases o <;> rfl
theorem wO_some {x : α} : wpO (some x) Q = Q x := propext Iff.rfl
theorem wO_map {f : β → α} {o : Option β} : wpO (o.map f) Q = wpO o (fun x => Q (f x)) := by cases o <;> rfl
theorem wO_bind {f : β → Option α} {o : Option β} : wpO (o.bind f) Q = wpO o (fun x => wpO (f x) Q) := by cases o <;> rfl
theorem wO_ite {p : Prop} [Decidable p] {x : α} : wpO (if p then some x else none) Q = (p ∧ Q x) := by
  by_cases h : p
  · rw [if_pos h]; exact propext ⟨fun q => ⟨h, q⟩, fun q => q.2⟩
  · rw [if_neg h]; exact propext ⟨fun q => q.elim, fun q => (h q.1).elim⟩
theorem wR_mono {r : Res α} {Q' : α → Prop} {E' : Er → Prop} (h : wpR r Q E) (hq : ∀ x, Q x → Q' x) (he : ∀ x, E x → E' x) : wpR r Q' E' := by
  cases r with
  | ok x => exact hq x h
  | err x => exact he x h
  | stuck => exact h
theorem wR_eq {r : Res α} {x : α} (h : wpR r (fun y => y = x) fun _ => False) : r = .ok x := by
  cases r with
  | ok y => exact congrArg _ h
  | err e => exact h.elim
  | stuck => exact h.elim
theorem wR_errE {r : Res α} {x : Er} (h : wpR r (fun _ => False) fun e => e = x) : r = .err x := by
  cases r with
  | ok y => exact h.elim
  | err e => exact congrArg _ h
  | stuck => exact h.elim
-- expressions
theorem w_var0 {d : D} {r : En} : wpR (eVar 0 (.val d :: r)) QD E = QD d := propext Iff.rfl
theorem w_varS {s : Sl} {r : En} {i : Nat} : wpR (eVar (i + 1) (s :: r)) QD E = wpR (eVar i r) QD E := propext Iff.rfl
theorem w_eC {d : D} : wpR (eC d env) QD E = QD d := propext Iff.rfl
theorem w_e1 {f : D → Option D} : wpR (e1 f a env) QD E = wpR (a env) (fun x => wpO (f x) QD) E := by unfold e1; simp only [wR_bind, wR_of]
theorem w_l1 {f : D → Option (List D)} : wpR (l1 f a env) QL E = wpR (a env) (fun x => wpO (f x) QL) E := by unfold l1; simp only [wR_bind, wR_of]
theorem w_e2 {f : D → D → Option D} : wpR (e2 f a b env) QD E = wpR (a env) (fun x => wpR (b env) (fun y => wpO (f x y) QD) E) E := by unfold e2; simp only [wR_bind, wR_of]
theorem w_l2 {f : D → D → Option (List D)} : wpR (l2 f a b env) QL E = wpR (a env) (fun x => wpR (b env) (fun y => wpO (f x y) QL) E) E := by unfold l2; simp only [wR_bind, wR_of]
theorem w_b1 {f : D → Option Bool} : wpR (b1 f a env) QB E = wpR (a env) (fun x => wpO (f x) QB) E := by unfold b1; simp only [wR_bind, wR_of]
theorem w_b2 {f : D → D → Option Bool} : wpR (b2 f a b env) QB E = wpR (a env) (fun x => wpR (b env) (fun y => wpO (f x y) QB) E) E := by unfold b2; simp only [wR_bind, wR_of]
theorem w_eB : wpR (eB gb env) QD E = wpR (gb env) (fun k => QD (.bl k)) E := by unfold eB; simp only [wR_bind, wR_ok]
theorem w_eF {f : List D → Option D} : wpR (eF f g env) QD E = wpR (g env) (fun xs => wpO (f xs) QD) E := by unfold eF; simp only [wR_bind, wR_of]
theorem w_lF {f : List D → Option (List D)} : wpR (lF f g env) QL E = wpR (g env) (fun xs => wpO (f xs) QL) E := by unfold lF; simp only [wR_bind, wR_of]
theorem w_eCall {m : List D → Res D} : wpR (eCall m g env) QD E = wpR (g env) (fun xs => wpR (m xs) QD E) E := by unfold eCall; simp only [wR_bind]
theorem w_eLst : wpR (eLst g env) QD E = wpR (g env) (fun xs => QD (.lst xs)) E := by unfold eLst; simp only [wR_bind, wR_ok]
theorem w_aNil : wpR (aNil env) QL E = QL [] := propext Iff.rfl
theorem w_aCons : wpR (aCons a g env) QL E = wpR (a env) (fun x => wpR (g env) (fun xs => QL (x :: xs)) E) E := by unfold aCons; simp only [wR_bind, wR_ok]
theorem w_eTup : wpR (eTup g env) QD E = wpR (g env) (fun xs => xs.length ≤ sizeLine ∧ QD (.tup xs)) E := by unfold eTup sz; simp only [wR_bind, wR_of, wO_map, wO_ite]
theorem w_lDisp : wpR (lDisp g env) QL E = wpR (g env) (fun xs => xs.length ≤ sizeLine ∧ QL xs) E := by unfold lDisp sz; simp only [wR_bind, wR_of, wO_ite]
theorem w_eIf : wpR (eIf gb a b env) QD E = wpR (gb env) (fun k => if k = true then wpR (a env) QD E else wpR (b env) QD E) E := by
  unfold eIf
  rw [wR_bind]
  congr 1
  funext k
  cases k <;> rfl
theorem w_bAnd : wpR (bAnd gb gc env) QB E = wpR (gb env) (fun k => if k = true then wpR (gc env) QB E else QB false) E := by
  unfold bAnd
  rw [wR_bind]
  congr 1
  funext k
  cases k <;> rfl
theorem w_bOr : wpR (bOr gb gc env) QB E = wpR (gb env) (fun k => if k = true then QB true else wpR (gc env) QB E) E := by
  unfold bOr
  rw [wR_bind]
  congr 1
  funext k
  cases k <;> rfl
theorem w_bNot : wpR (bNot gb env) QB E = wpR (gb env) (fun k => QB (!k)) E := by unfold bNot; simp only [wR_bind, wR_ok]
theorem w_bYes : wpR (bYes env) QB E = QB true := propext Iff.rfl
theorem w_bChain {f f' : D → D → Option Bool} : wpR (bChain f f' a b c env) QB E = wpR (a env) (fun x => wpR (b env) (fun y => wpO (f x y) fun k => if k = true then wpR (c env) (fun z => wpO (f' y z) QB) E else QB false) E) E := by
  unfold bChain
  simp only [wR_bind, wR_of]
  congr 1
  funext x
  congr 1
  funext y
  congr 1
  funext k
  cases k
  · rfl
  · simp only [if_true, wR_bind, wR_of]
theorem w_eAnd : wpR (eAnd a b env) QD E = wpR (a env) (fun x => wpO (truth x) fun k => if k = true then wpR (b env) QD E else QD x) E := by
  unfold eAnd
  simp only [wR_bind, wR_of]
  congr 1
  funext x
  congr 1
  funext k
  cases k <;> rfl
theorem w_eOr : wpR (eOr a b env) QD E = wpR (a env) (fun x => wpO (truth x) fun k => if k = true then QD x else wpR (b env) QD E) E := by
  unfold eOr
  simp only [wR_bind, wR_of]
  congr 1
  funext x
  congr 1
  funext k
  cases k <;> rfl
theorem w_iAny : wpR (iAny a env) QL E = wpR (a env) (fun d => wpO (items d) QL) E := by unfold iAny; simp only [wR_bind, wR_of]
theorem w_oNone {Q : Option Int → Prop} : wpR (oNone env) Q E = Q none := propext Iff.rfl
theorem w_oSomeC {Q : Option Int → Prop} {i : Int} : wpR (oSome (eC (.int i)) env) Q E = Q (some i) := propext Iff.rfl
theorem w_eSl {f : D → Option Int → Option Int → Option D} {lo hi : GO} : wpR (eSl f a lo hi env) QD E = wpR (a env) (fun d => wpR (lo env) (fun l => wpR (hi env) (fun u => wpO (f d l u) QD) E) E) E := by unfold eSl; simp only [wR_bind, wR_of]
theorem w_lSlG {lo hi : GO} : wpR (lSlG a lo hi env) QL E = wpR (a env) (fun d => wpR (lo env) (fun l => wpR (hi env) (fun u => wpO (lSl d l u) QL) E) E) E := by unfold lSlG; simp only [wR_bind, wR_of]
theorem w_lComp {it : GL} {vs : List Nat} {t : GT} {cc : GB} {e : GE} : wpR (lComp it vs t cc e env) QL E = wpR (it env) (fun ds => (ds.length ≤ sizeLine ∧ noOwn env vs = true) ∧ wpR (okOnly (compM t cc e (wipeE env vs) ds)) QL E) E := by
  unfold lComp
  rw [wR_bind]
  congr 1
  funext ds
  by_cases h : ds.length ≤ sizeLine ∧ noOwn env vs = true
  · rw [if_pos h]; exact propext ⟨fun q => ⟨h, q⟩, fun q => q.2⟩
  · rw [if_neg h]; exact propext ⟨fun q => q.elim, fun q => (h q.1).elim⟩
-- statements
variable {N B C : En → Prop} {R : D → Prop} {ES : Er → En → Prop} {p q : GS}
theorem w_onOk {r : Res α} {f : α → Out} : wpS (onOk env r f) N R ES B C = wpR r (fun x => wpS (f x) N R ES B C) (fun e => ES e env) := by cases r <;> rfl
theorem w_sSeq : wpS (sSeq p q env) N R ES B C = wpS (p env) (fun e => wpS (q e) N R ES B C) R ES B C := by
  unfold sSeq
  cases p env <;> rfl
theorem w_sNil : wpS (sNil env) N R ES B C = N env := propext Iff.rfl
theorem w_sBreak : wpS (sBreak env) N R ES B C = B env := propext Iff.rfl
theorem w_sCont : wpS (sCont env) N R ES B C = C env := propext Iff.rfl
theorem w_sSet {i : Nat} : wpS (sSet i a env) N R ES B C = wpR (a env) (fun d => N (env.set i (.val d))) (fun e => ES e env) := by unfold sSet; rw [w_onOk]; rfl
theorem w_sSetL {i : Nat} : wpS (sSetL i g env) N R ES B C = wpR (g env) (fun d => N (env.set i (.own d))) (fun e => ES e env) := by unfold sSetL; rw [w_onOk]; rfl
theorem w_sExpr : wpS (sExpr a env) N R ES B C = wpR (a env) (fun _ => N env) (fun e => ES e env) := by unfold sExpr; rw [w_onOk]; rfl
theorem w_sRet : wpS (sRet a env) N R ES B C = wpR (a env) R (fun e => ES e env) := by unfold sRet; rw [w_onOk]; rfl
theorem w_sRetN : wpS (sRetN env) N R ES B C = R .non := propext Iff.rfl
theorem w_sIf : wpS (sIf gb p q env) N R ES B C = wpR (gb env) (fun k => if k = true then wpS (p env) N R ES B C else wpS (q env) N R ES B C) (fun e => ES e env) := by
  unfold sIf
  rw [w_onOk]
  congr 1
  funext k
  cases k <;> rfl
def wOwn (env : En) (i : Nat) (Q : List D → Prop) : Prop := match env[i]? with
  | some (.own ds) => Q ds
  | _ => False
theorem w_own0 {ds : List D} {r : En} : wOwn (.own ds :: r) 0 QL = QL ds := propext Iff.rfl
theorem w_ownS {s : Sl} {r : En} {i : Nat} : wOwn (s :: r) (i + 1) QL = wOwn r i QL := propext Iff.rfl
theorem w_withOwn {i : Nat} {f : List D → Out} : wpS (withOwn env i f) N R ES B C = wOwn env i (fun ds => wpS (f ds) N R ES B C) := by
  unfold withOwn wOwn
  cases env[i]? with
  | none => rfl
  | some s => cases s <;> rfl
theorem w_sRetO {i : Nat} : wpS (sRetO i env) N R ES B C = wOwn env i (fun ds => R (.lst ds)) := by unfold sRetO; rw [w_withOwn]; rfl
theorem w_sApp {i : Nat} : wpS (sApp i a env) N R ES B C = wOwn env i (fun ds => wpR (a env) (fun d => ds.length < sizeLine ∧ N (env.set i (.own (ds ++ [d])))) (fun e => ES e env)) := by
  unfold sApp
  rw [w_withOwn]
  congr 1
  funext ds
  rw [w_onOk]
  congr 1
  funext d
  by_cases h : ds.length < sizeLine
  · rw [if_pos h]; exact propext ⟨fun q => ⟨h, q⟩, fun q => q.2⟩
  · rw [if_neg h]; exact propext ⟨fun q => q.elim, fun q => (h q.1).elim⟩
theorem w_sSetIx {i : Nat} : wpS (sSetIx i a b env) N R ES B C = wpR (b env) (fun d => wOwn env i fun ds => wpR (a env) (fun k => match k with
    | .int z => wpO (ixN ds.length z) fun j => N (env.set i (.own (ds.set j d)))
    | _ => False) (fun e => ES e env)) (fun e => ES e env) := by
  unfold sSetIx
  rw [w_onOk]
  congr 1
  funext d
  rw [w_withOwn]
  congr 1
  funext ds
  rw [w_onOk]
  congr 1
  funext k
  cases k <;> try rfl
  rename_i z
  show wpS (match ixN ds.length z with | some j => _ | none => _) _ _ _ _ _ = wpO (ixN ds.length z) _
  cases ixN ds.length z <;> rfl
theorem w_sAug0 {f : D → D → Option D} {d : D} {r : En} {i : Nat} (h : env[i]? = some (.val d)) : wpS (sAug i f a env) N R ES B C = wpR (a env) (fun e => wpO (f d e) fun z => N (env.set i (.val z))) (fun e => ES e env) := by
  unfold sAug
  rw [h]
  show wpS (onOk env (a env) _) _ _ _ _ _ = _
  rw [w_onOk]
  congr 1
  funext e
  cases f d e <;> rfl
theorem w_sFrz {i : Nat} : wpS (sFrz i p env) N R ES B C = wpS (p (frz i env)) N R ES B C := propext Iff.rfl
theorem w_sThen {i : Nat} : wpS (sThen i p env) N R ES B C = wpS (p env) (fun e => N (frz i e)) R ES B C := by
  unfold sThen
  cases p env <;> rfl
theorem w_sRaise {x : Er} : wpS (sRaise x env) N R ES B C = ES x env := propext Iff.rfl
theorem w_sAsg {t : GT} : wpS (sAsg t a env) N R ES B C = wpR (a env) (fun d => wpO (t d env) N) (fun e => ES e env) := by
  unfold sAsg
  rw [w_onOk]
  congr 1
  funext d
  cases t d env <;> rfl
theorem w_sFor {it : GL} {t : GT} : wpS (sFor it t p env) N R ES B C = wpR (it env) (fun ds => wpS (forL t p ds env) N R ES B C) (fun e => ES e env) := by unfold sFor; rw [w_onOk]
theorem w_sTry {cat : List (String × Bool)} : wpS (sTry cat p q env) N R ES B C = wpS (p env) N R (fun e env' => match cat.lookup e.cls with
    | some true => wpS (q env') N R (fun _ _ => False) B C
    | some false => ES e env'
    | none => False) B C := by
  unfold sTry
  cases p env <;> try rfl
  rename_i e env'
  show wpS (match cat.lookup e.cls with | some true => _ | some false => _ | none => _) _ _ _ _ _ = (match cat.lookup e.cls with | some true => _ | some false => _ | none => _)
  cases cat.lookup e.cls with
  | none => rfl
  | some b =>
    cases b with
    | false => rfl
    | true =>
      show wpS (match q env' with | .err _ _ => _ | r => r) _ _ _ _ _ = wpS (q env') _ _ _ _ _
      cases q env' <;> rfl
theorem w_runF {n nn : Nat} {ds : List D} (h : ds.length = n) : wpR (runF n nn p ds) QD E = wpS (p (ds.map Sl.val ++ List.replicate (nn - n) .unk)) (fun _ => QD .non) QD (fun e _ => E e) (fun _ => False) (fun _ => False) := by
  unfold runF
  rw [if_pos h]
  cases p (ds.map Sl.val ++ List.replicate (nn - n) .unk) <;> rfl
-- targets
theorem t_name {i : Nat} {d : D} {QE : En → Prop} : wpO (tName i d env) QE = QE (env.set i (.val d)) := propext Iff.rfl
theorem t_tup {n : Nat} {ts : List D → En → Option En} {ds : List D} {QE : En → Prop} (h : ds.length = n) : wpO (tTup n ts (.tup ds) env) QE = wpO (ts ds env) QE := by show wpO (if ds.length = n then _ else _) _ = _; rw [if_pos h]
theorem t_lst {n : Nat} {ts : List D → En → Option En} {ds : List D} {QE : En → Prop} (h : ds.length = n) : wpO (tTup n ts (.lst ds) env) QE = wpO (ts ds env) QE := by show wpO (if ds.length = n then _ else _) _ = _; rw [if_pos h]
theorem t_nil {QE : En → Prop} : wpO (tsNil [] env) QE = QE env := propext Iff.rfl
theorem t_cons {t : GT} {r : List D → En → Option En} {d : D} {ds : List D} {QE : En → Prop} : wpO (tsCons t r (d :: ds) env) QE = wpO (t d env) (fun e => wpO (r ds e) QE) := by show wpO ((t d env).bind _) _ = _; rw [wO_bind]
-- operations
theorem o_plus {i j : Int} : wpO (dPlus (.int i) (.int j)) QD = QD (.int (i + j)) := propext Iff.rfl
theorem o_plusL {xs ys : List D} : wpO (dPlus (.lst xs) (.lst ys)) QD = (xs.length + ys.length ≤ sizeLine ∧ QD (.lst (xs ++ ys))) := by
  show wpO (match dAdd (.lst xs) (.lst ys) with | some z => some z | none => (lAdd (.lst xs) (.lst ys)).map .lst) _ = _
  show wpO ((if xs.length + ys.length ≤ sizeLine then some (xs ++ ys) else none).map D.lst) _ = _
  rw [wO_map, wO_ite]
theorem o_lAdd {xs ys : List D} : wpO (lAdd (.lst xs) (.lst ys)) QL = (xs.length + ys.length ≤ sizeLine ∧ QL (xs ++ ys)) := wO_ite
theorem o_sub {i j : Int} : wpO (dSub (.int i) (.int j)) QD = QD (.int (i - j)) := propext Iff.rfl
theorem o_neg {i : Int} : wpO (dNeg (.int i)) QD = QD (.int (-i)) := propext Iff.rfl
theorem o_mul {i j : Int} : wpO (dMul (.int i) (.int j)) QD = ((Sm i ∧ Sm j) ∧ QD (.int (i * j))) := by
  show wpO ((iMul i j).map D.int) _ = _
  unfold iMul
  rw [wO_map, wO_ite]
theorem o_fdiv {i j : Int} : wpO (dFdiv (.int i) (.int j)) QD = (S9 j ∧ QD (.int (i.fdiv j))) := by
  show wpO ((iFdiv i j).map D.int) _ = _
  unfold iFdiv
  rw [wO_map, wO_ite]
theorem o_mod {i j : Int} : wpO (dMod (.int i) (.int j)) QD = (j ≠ 0 ∧ QD (.int (i.fmod j))) := by
  show wpO ((iMod i j).map D.int) _ = _
  unfold iMod
  rw [wO_map, wO_ite]
theorem o_pow {i j : Int} : wpO (dPow (.int i) (.int j)) QD = ((0 ≤ j ∧ j ≤ 1000000 ∧ i.natAbs < 18446744073709551616) ∧ QD (.int (i ^ j.toNat))) := by
  show wpO ((iPow i j).map D.int) _ = _
  unfold iPow
  rw [wO_map, wO_ite]
theorem o_lt {i j : Int} : wpO (cLt (.int i) (.int j)) QB = QB (decide (i < j)) := propext Iff.rfl
theorem o_le {i j : Int} : wpO (cLe (.int i) (.int j)) QB = QB (decide (i ≤ j)) := propext Iff.rfl
theorem o_gt {i j : Int} : wpO (cGt (.int i) (.int j)) QB = QB (decide (j < i)) := propext Iff.rfl
theorem o_ge {i j : Int} : wpO (cGe (.int i) (.int j)) QB = QB (decide (j ≤ i)) := propext Iff.rfl
theorem okD_int (i : Int) : okD (.int i) = true := by show (true && decide ((PyData.int i).depth ≤ 60)) = true; rfl
theorem okD_str (s : List Nat) : okD (.str s) = true := by show (true && decide ((PyData.str ⟨s.toArray⟩).depth ≤ 60)) = true; rfl
theorem cEq_int (i j : Int) : cEq (.int i) (.int j) = some (decide (i = j)) := by
  unfold cEq
  rw [okD_int, okD_int]
  rfl
theorem o_eq {i j : Int} : wpO (cEq (.int i) (.int j)) QB = QB (decide (i = j)) := by rw [cEq_int]; rfl
theorem o_ne {i j : Int} : wpO (cNe (.int i) (.int j)) QB = QB (!decide (i = j)) := by unfold cNe; rw [cEq_int]; rfl
theorem o_truthB {k : Bool} : wpO (truth (.bl k)) QB = QB k := propext Iff.rfl
theorem o_truthI {i : Int} : wpO (truth (.int i)) QB = QB (i != 0) := propext Iff.rfl
theorem o_truthN : wpO (truth .non) QB = QB false := propext Iff.rfl
theorem o_truthL {xs : List D} : wpO (truth (.lst xs)) QB = QB (!xs.isEmpty) := propext Iff.rfl
theorem o_truthT {xs : List D} : wpO (truth (.tup xs)) QB = QB (!xs.isEmpty) := propext Iff.rfl
theorem o_truthS {xs : List Nat} : wpO (truth (.str xs)) QB = QB (!xs.isEmpty) := propext Iff.rfl
theorem o_notB {k : Bool} : wpO (notD (.bl k)) QD = QD (.bl (!k)) := propext Iff.rfl
theorem o_isN {d : D} (h : d ≠ .non := by intro h; cases h) : wpO (cIs d .non) QB = QB false := by cases d <;> first | rfl | exact absurd rfl h
theorem o_isNN : wpO (cIs .non .non) QB = QB true := propext Iff.rfl
theorem o_isBT {a : Bool} : wpO (cIs (.bl a) (.bl true)) QB = QB a := by cases a <;> rfl
theorem o_isBF {a : Bool} : wpO (cIs (.bl a) (.bl false)) QB = QB (!a) := by cases a <;> rfl
theorem o_isT {a b : String} : wpO (cIs (.ty a) (.ty b)) QB = QB (a == b) := propext Iff.rfl
theorem o_isIB {i : Int} {b : Bool} : wpO (cIs (.int i) (.bl b)) QB = QB false := propext Iff.rfl
theorem o_isSB {i : List Nat} {b : Bool} : wpO (cIs (.str i) (.bl b)) QB = QB false := propext Iff.rfl
theorem o_isLB {i : List D} {b : Bool} : wpO (cIs (.lst i) (.bl b)) QB = QB false := propext Iff.rfl
theorem o_isTB {i : List D} {b : Bool} : wpO (cIs (.tup i) (.bl b)) QB = QB false := propext Iff.rfl
theorem o_isNB {b : Bool} : wpO (cIs .non (.bl b)) QB = QB false := propext Iff.rfl
theorem o_isNot {d e : D} : wpO (cIsNot d e) QB = wpO (cIs d e) (fun k => QB (!k)) := by unfold cIsNot; rw [wO_map]
theorem o_lenL {xs : List D} : wpO (fLen [.lst xs]) QD = QD (.int xs.length) := propext Iff.rfl
theorem o_lenT {xs : List D} : wpO (fLen [.tup xs]) QD = QD (.int xs.length) := propext Iff.rfl
theorem o_lenS {xs : List Nat} : wpO (fLen [.str xs]) QD = QD (.int xs.length) := propext Iff.rfl
theorem o_abs {i : Int} : wpO (fAbs [.int i]) QD = QD (.int (if i < 0 then -i else i)) := propext Iff.rfl
theorem o_intI {i : Int} : wpO (fInt [.int i]) QD = QD (.int i) := propext Iff.rfl
theorem o_intB {k : Bool} : wpO (fInt [.bl k]) QD = QD (.int (if k then 1 else 0)) := propext Iff.rfl
theorem o_str {i : Int} : wpO (fStr [.int i]) QD = ((i.natAbs.log2 < 1920 ∧ (strInt i).length ≤ sizeLine) ∧ QD (.str (strInt i))) := wO_ite
theorem o_gcd {i j : Int} : wpO (fGcd [.int i, .int j]) QD = QD (.int ((Nat.gcd i.natAbs j.natAbs : Nat) : Int)) := propext Iff.rfl
theorem o_list {xs : List D} : wpO (fList [.lst xs]) QL = QL xs := propext Iff.rfl
theorem o_listT {xs : List D} : wpO (fList [.tup xs]) QL = QL xs := propext Iff.rfl
theorem o_tuple {xs : List D} : wpO (fTuple [.lst xs]) QD = QD (.tup xs) := propext Iff.rfl
theorem o_tupleT {xs : List D} : wpO (fTuple [.tup xs]) QD = QD (.tup xs) := propext Iff.rfl
theorem o_rev {xs : List D} : wpO (revL (.lst xs)) QL = QL xs.reverse := propext Iff.rfl
theorem o_type {d : D} : wpO (fType [d]) QD = wpO (tyName d) (fun n => QD (.ty n)) := by show wpO ((tyName d).map D.ty) _ = _; rw [wO_map]
theorem o_isi {d : D} {b : String} : wpO (fIsi [d, .ty b]) QD = wpO (tyName d) (fun n => b ∈ tyNames ∧ QD (.bl (isSubTy n b))) := by
  show wpO ((tyName d).bind fun n => if b ∈ tyNames then some (D.bl (isSubTy n b)) else none) _ = _
  rw [wO_bind]
  congr 1
  funext n
  rw [wO_ite]
theorem o_isi2 {d : D} {a b : String} : wpO (fIsi [d, .tup [.ty a, .ty b]]) QD = wpO (tyName d) (fun n => (a ∈ tyNames ∧ b ∈ tyNames) ∧ QD (.bl (isSubTy n a || isSubTy n b))) := by
  show wpO ((tyName d).bind fun n => (isiAny n [.ty a, .ty b]).map D.bl) _ = _
  rw [wO_bind]
  congr 1
  funext n
  rw [wO_map]
  show wpO (if a ∈ tyNames then ((if b ∈ tyNames then (some false).map fun k => isSubTy n b || k else none).map fun k => isSubTy n a || k) else none) _ = _
  by_cases h : a ∈ tyNames <;> by_cases h' : b ∈ tyNames <;> simp [h, h', wpO]
theorem o_rg1 {j : Int} : wpO (rg1 [.int j]) QL = ((-1000000000 ≤ j ∧ j ≤ 1000000000) ∧ QL (rangeD 0 j.toNat)) := wO_ite
theorem o_rg2 {i j : Int} : wpO (rg2 [.int i, .int j]) QL = ((-1000000000 ≤ i ∧ i ≤ 1000000000 ∧ -1000000000 ≤ j ∧ j ≤ 1000000000) ∧ QL (rangeD i (j - i).toNat)) := wO_ite
theorem o_zip {xs ys : List D} : wpO (zipF [.lst xs, .lst ys]) QL = QL (zipD xs ys) := propext Iff.rfl
theorem o_zipT {xs ys : List D} : wpO (zipF [.tup xs, .tup ys]) QL = QL (zipD xs ys) := propext Iff.rfl
theorem o_itemsL {xs : List D} : wpO (items (.lst xs)) QL = QL xs := propext Iff.rfl
theorem o_itemsT {xs : List D} : wpO (items (.tup xs)) QL = QL xs := propext Iff.rfl
theorem o_ixL {xs : List D} {i : Int} : wpO (dIx (.lst xs) (.int i)) QD = wpO (atI xs i) QD := propext Iff.rfl
theorem o_ixT {xs : List D} {i : Int} : wpO (dIx (.tup xs) (.int i)) QD = wpO (atI xs i) QD := propext Iff.rfl
theorem o_at {xs : List α} {i : Nat} {x : α} (h : xs[i]? = some x) : wpO (atI xs (i : Int)) Q = Q x := by rw [show atI xs (i : Int) = some x from atI_nat h]; rfl
theorem o_at0 {xs : List α} {x : α} : wpO (atI (x :: xs) 0) Q = Q x := o_at (i := 0) rfl
theorem o_at1 {xs : List α} {x y : α} : wpO (atI (x :: y :: xs) 1) Q = Q y := o_at (i := 1) rfl
theorem o_at2 {xs : List α} {x0 x1 x2 : α} : wpO (atI (x0 :: x1 :: x2 :: xs) 2) Q = Q x2 := o_at (i := 2) rfl
theorem o_at3 {xs : List α} {x0 x1 x2 x3 : α} : wpO (atI (x0 :: x1 :: x2 :: x3 :: xs) 3) Q = Q x3 := o_at (i := 3) rfl
theorem o_at4 {xs : List α} {x0 x1 x2 x3 x4 : α} : wpO (atI (x0 :: x1 :: x2 :: x3 :: x4 :: xs) 4) Q = Q x4 := o_at (i := 4) rfl
theorem o_at5 {xs : List α} {x0 x1 x2 x3 x4 x5 : α} : wpO (atI (x0 :: x1 :: x2 :: x3 :: x4 :: x5 :: xs) 5) Q = Q x5 := o_at (i := 5) rfl
theorem o_at6 {xs : List α} {x0 x1 x2 x3 x4 x5 x6 : α} : wpO (atI (x0 :: x1 :: x2 :: x3 :: x4 :: x5 :: x6 :: xs) 6) Q = Q x6 := o_at (i := 6) rfl
theorem o_at7 {xs : List α} {x0 x1 x2 x3 x4 x5 x6 x7 : α} : wpO (atI (x0 :: x1 :: x2 :: x3 :: x4 :: x5 :: x6 :: x7 :: xs) 7) Q = Q x7 := o_at (i := 7) rfl
theorem o_at8 {xs : List α} {x0 x1 x2 x3 x4 x5 x6 x7 x8 : α} : wpO (atI (x0 :: x1 :: x2 :: x3 :: x4 :: x5 :: x6 :: x7 :: x8 :: xs) 8) Q = Q x8 := o_at (i := 8) rfl
theorem o_at9 {xs : List α} {x0 x1 x2 x3 x4 x5 x6 x7 x8 x9 : α} : wpO (atI (x0 :: x1 :: x2 :: x3 :: x4 :: x5 :: x6 :: x7 :: x8 :: x9 :: xs) 9) Q = Q x9 := o_at (i := 9) rfl
theorem o_at10 {xs : List α} {x0 x1 x2 x3 x4 x5 x6 x7 x8 x9 x10 : α} : wpO (atI (x0 :: x1 :: x2 :: x3 :: x4 :: x5 :: x6 :: x7 :: x8 :: x9 :: x10 :: xs) 10) Q = Q x10 := o_at (i := 10) rfl
theorem o_at11 {xs : List α} {x0 x1 x2 x3 x4 x5 x6 x7 x8 x9 x10 x11 : α} : wpO (atI (x0 :: x1 :: x2 :: x3 :: x4 :: x5 :: x6 :: x7 :: x8 :: x9 :: x10 :: x11 :: xs) 11) Q = Q x11 := o_at (i := 11) rfl
theorem o_at12 {xs : List α} {x0 x1 x2 x3 x4 x5 x6 x7 x8 x9 x10 x11 x12 : α} : wpO (atI (x0 :: x1 :: x2 :: x3 :: x4 :: x5 :: x6 :: x7 :: x8 :: x9 :: x10 :: x11 :: x12 :: xs) 12) Q = Q x12 := o_at (i := 12) rfl
theorem o_at13 {xs : List α} {x0 x1 x2 x3 x4 x5 x6 x7 x8 x9 x10 x11 x12 x13 : α} : wpO (atI (x0 :: x1 :: x2 :: x3 :: x4 :: x5 :: x6 :: x7 :: x8 :: x9 :: x10 :: x11 :: x12 :: x13 :: xs) 13) Q = Q x13 := o_at (i := 13) rfl
theorem o_at14 {xs : List α} {x0 x1 x2 x3 x4 x5 x6 x7 x8 x9 x10 x11 x12 x13 x14 : α} : wpO (atI (x0 :: x1 :: x2 :: x3 :: x4 :: x5 :: x6 :: x7 :: x8 :: x9 :: x10 :: x11 :: x12 :: x13 :: x14 :: xs) 14) Q = Q x14 := o_at (i := 14) rfl
theorem o_at15 {xs : List α} {x0 x1 x2 x3 x4 x5 x6 x7 x8 x9 x10 x11 x12 x13 x14 x15 : α} : wpO (atI (x0 :: x1 :: x2 :: x3 :: x4 :: x5 :: x6 :: x7 :: x8 :: x9 :: x10 :: x11 :: x12 :: x13 :: x14 :: x15 :: xs) 15) Q = Q x15 := o_at (i := 15) rfl
theorem o_atM1 {xs : List α} {x : α} (h : xs.getLast? = some x) : wpO (atI xs (-1)) Q = Q x := by
  have : atI xs (-1) = some x := by
    obtain ⟨ys, rfl⟩ := List.getLast?_eq_some_iff.mp h
    exact atI_last _ _
  rw [this]; rfl
theorem w_eIxO {i : Nat} : wpR (eIxO i a env) QD E = wOwn env i (fun ds => wpR (a env) (fun k => wpO (dIx (.lst ds) k) QD) E) := by
  unfold eIxO wOwn
  cases env[i]? with
  | none => rfl
  | some s =>
    cases s <;> try rfl
    show wpR ((a env).bind _) _ _ = _
    rw [wR_bind]
    simp only [wR_of]
theorem sz_0 : ((0 : Nat) ≤ sizeLine) = True := eq_true (by decide)
theorem szl_0 : ((0 : Nat) < sizeLine) = True := eq_true (by decide)
theorem sz_1 : ((1 : Nat) ≤ sizeLine) = True := eq_true (by decide)
theorem szl_1 : ((1 : Nat) < sizeLine) = True := eq_true (by decide)
theorem sz_2 : ((2 : Nat) ≤ sizeLine) = True := eq_true (by decide)
theorem szl_2 : ((2 : Nat) < sizeLine) = True := eq_true (by decide)
theorem sz_3 : ((3 : Nat) ≤ sizeLine) = True := eq_true (by decide)
theorem szl_3 : ((3 : Nat) < sizeLine) = True := eq_true (by decide)
theorem sz_4 : ((4 : Nat) ≤ sizeLine) = True := eq_true (by decide)
theorem szl_4 : ((4 : Nat) < sizeLine) = True := eq_true (by decide)
theorem sz_5 : ((5 : Nat) ≤ sizeLine) = True := eq_true (by decide)
theorem szl_5 : ((5 : Nat) < sizeLine) = True := eq_true (by decide)
theorem sz_6 : ((6 : Nat) ≤ sizeLine) = True := eq_true (by decide)
theorem szl_6 : ((6 : Nat) < sizeLine) = True := eq_true (by decide)
theorem sz_7 : ((7 : Nat) ≤ sizeLine) = True := eq_true (by decide)
theorem szl_7 : ((7 : Nat) < sizeLine) = True := eq_true (by decide)
theorem sz_8 : ((8 : Nat) ≤ sizeLine) = True := eq_true (by decide)
theorem szl_8 : ((8 : Nat) < sizeLine) = True := eq_true (by decide)
theorem sz_9 : ((9 : Nat) ≤ sizeLine) = True := eq_true (by decide)
theorem szl_9 : ((9 : Nat) < sizeLine) = True := eq_true (by decide)
theorem sz_10 : ((10 : Nat) ≤ sizeLine) = True := eq_true (by decide)
theorem szl_10 : ((10 : Nat) < sizeLine) = True := eq_true (by decide)
theorem sz_11 : ((11 : Nat) ≤ sizeLine) = True := eq_true (by decide)
theorem szl_11 : ((11 : Nat) < sizeLine) = True := eq_true (by decide)
theorem sz_12 : ((12 : Nat) ≤ sizeLine) = True := eq_true (by decide)
theorem szl_12 : ((12 : Nat) < sizeLine) = True := eq_true (by decide)
theorem sz_13 : ((13 : Nat) ≤ sizeLine) = True := eq_true (by decide)
theorem szl_13 : ((13 : Nat) < sizeLine) = True := eq_true (by decide)
theorem sz_14 : ((14 : Nat) ≤ sizeLine) = True := eq_true (by decide)
theorem szl_14 : ((14 : Nat) < sizeLine) = True := eq_true (by decide)
theorem sz_15 : ((15 : Nat) ≤ sizeLine) = True := eq_true (by decide)
theorem szl_15 : ((15 : Nat) < sizeLine) = True := eq_true (by decide)
theorem sz_16 : ((16 : Nat) ≤ sizeLine) = True := eq_true (by decide)
theorem szl_16 : ((16 : Nat) < sizeLine) = True := eq_true (by decide)
theorem sz_17 : ((17 : Nat) ≤ sizeLine) = True := eq_true (by decide)
theorem szl_17 : ((17 : Nat) < sizeLine) = True := eq_true (by decide)
theorem sz_18 : ((18 : Nat) ≤ sizeLine) = True := eq_true (by decide)
theorem szl_18 : ((18 : Nat) < sizeLine) = True := eq_true (by decide)
theorem sz_19 : ((19 : Nat) ≤ sizeLine) = True := eq_true (by decide)
theorem szl_19 : ((19 : Nat) < sizeLine) = True := eq_true (by decide)
theorem sz_20 : ((20 : Nat) ≤ sizeLine) = True := eq_true (by decide)
theorem szl_20 : ((20 : Nat) < sizeLine) = True := eq_true (by decide)
theorem sz_21 : ((21 : Nat) ≤ sizeLine) = True := eq_true (by decide)
theorem szl_21 : ((21 : Nat) < sizeLine) = True := eq_true (by decide)
theorem sz_22 : ((22 : Nat) ≤ sizeLine) = True := eq_true (by decide)
theorem szl_22 : ((22 : Nat) < sizeLine) = True := eq_true (by decide)
theorem sz_23 : ((23 : Nat) ≤ sizeLine) = True := eq_true (by decide)
theorem szl_23 : ((23 : Nat) < sizeLine) = True := eq_true (by decide)
theorem sz_24 : ((24 : Nat) ≤ sizeLine) = True := eq_true (by decide)
theorem szl_24 : ((24 : Nat) < sizeLine) = True := eq_true (by decide)
theorem sz_25 : ((25 : Nat) ≤ sizeLine) = True := eq_true (by decide)
theorem szl_25 : ((25 : Nat) < sizeLine) = True := eq_true (by decide)
theorem sz_26 : ((26 : Nat) ≤ sizeLine) = True := eq_true (by decide)
theorem szl_26 : ((26 : Nat) < sizeLine) = True := eq_true (by decide)
theorem sz_27 : ((27 : Nat) ≤ sizeLine) = True := eq_true (by decide)
theorem szl_27 : ((27 : Nat) < sizeLine) = True := eq_true (by decide)
theorem sz_28 : ((28 : Nat) ≤ sizeLine) = True := eq_true (by decide)
theorem szl_28 : ((28 : Nat) < sizeLine) = True := eq_true (by decide)
theorem sz_29 : ((29 : Nat) ≤ sizeLine) = True := eq_true (by decide)
theorem szl_29 : ((29 : Nat) < sizeLine) = True := eq_true (by decide)
theorem sz_30 : ((30 : Nat) ≤ sizeLine) = True := eq_true (by decide)
theorem szl_30 : ((30 : Nat) < sizeLine) = True := eq_true (by decide)
theorem sz_31 : ((31 : Nat) ≤ sizeLine) = True := eq_true (by decide)
theorem szl_31 : ((31 : Nat) < sizeLine) = True := eq_true (by decide)
theorem sz_32 : ((32 : Nat) ≤ sizeLine) = True := eq_true (by decide)
theorem szl_32 : ((32 : Nat) < sizeLine) = True := eq_true (by decide)
def borE (E : Er → Prop) : Er → Prop
  | .plain x => E (.plain x)
  | .one x f d => scalD d = true ∧ E (.one x f d)
theorem w_bor {r : Res α} {ok : α → Bool} : wpR (bor ok r) Q E = wpR r (fun a => ok a = true ∧ Q a) (borE E) := by
  cases r with
  | ok a =>
    show wpR (if ok a then Res.ok a else Res.stuck) Q E = (ok a = true ∧ Q a)
    by_cases h : ok a = true
    · rw [if_pos h]; exact propext ⟨fun q => ⟨h, q⟩, fun q => q.2⟩
    · rw [if_neg h]; exact propext ⟨fun q => q.elim, fun q => (h q.1).elim⟩
  | err e =>
    cases e with
    | plain x => rfl
    | one x f d =>
      show wpR (if scalD d then Res.err (.one x f d) else Res.stuck) Q E = (scalD d = true ∧ E (.one x f d))
      by_cases h : scalD d = true
      · rw [if_pos h]; exact propext ⟨fun q => ⟨h, q⟩, fun q => q.2⟩
      · rw [if_neg h]; exact propext ⟨fun q => q.elim, fun q => (h q.1).elim⟩
  | stuck => rfl
theorem w_eBor {i : Nat} : wpR (eBor i a env) QD E = wpR (a (frz i env)) (fun d => scalD d = true ∧ QD d) (borE E) := w_bor
theorem w_bBor {i : Nat} : wpR (bBor i gb env) QB E = wpR (gb (frz i env)) (fun d => true = true ∧ QB d) (borE E) := w_bor
theorem t_tup1 {n : List D → En → Option En} {d : D} {QE : En → Prop} : wpO (tTup 1 n (.tup [d]) env) QE = wpO (n [d] env) QE := t_tup rfl
theorem t_tup2 {n : List D → En → Option En} {d e : D} {QE : En → Prop} : wpO (tTup 2 n (.tup [d, e]) env) QE = wpO (n [d, e] env) QE := t_tup rfl
theorem t_tup3 {n : List D → En → Option En} {d e f : D} {QE : En → Prop} : wpO (tTup 3 n (.tup [d, e, f]) env) QE = wpO (n [d, e, f] env) QE := t_tup rfl
theorem t_tup9 {n : List D → En → Option En} {a b c d e f g h i : D} {QE : En → Prop} : wpO (tTup 9 n (.tup [a, b, c, d, e, f, g, h, i]) env) QE = wpO (n [a, b, c, d, e, f, g, h, i] env) QE := t_tup rfl
theorem w_okOnly {r : Res α} : wpR (okOnly r) Q E = wpR r Q (fun _ => False) := by cases r <;> rfl
theorem w_compN {t : GT} {cc : GB} {e : GE} : wpR (compM t cc e env []) QL E = QL [] := propext Iff.rfl
theorem w_compC {t : GT} {cc : GB} {e : GE} {d : D} {ds : List D} : wpR (compM t cc e env (d :: ds)) QL E = wpO (t d env) fun e1 => wpR (cc e1) (fun k => if k = true then wpR (e e1) (fun y => wpR (compM t cc e env ds) (fun ys => QL (y :: ys)) E) E else wpR (compM t cc e env ds) QL E) E := by
  rw [compM]
  cases t d env with
  | none => rfl
  | some e1 =>
    show wpR ((cc e1).bind _) _ _ = wpR (cc e1) _ _
    rw [wR_bind]
    congr 1
    funext k
    cases k
    · rfl
    · simp only [if_true, wR_bind, wR_ok]
theorem w_forN {t : GT} : wpS (forL t p [] env) N R ES B C = N env := propext Iff.rfl
theorem w_forC {t : GT} {d : D} {ds : List D} : wpS (forL t p (d :: ds) env) N R ES B C = wpO (t d env) fun e1 => wpS (p e1) (fun e => wpS (forL t p ds e) N R ES B C) R ES N (fun e => wpS (forL t p ds e) N R ES B C) := by
  rw [forL]
  cases t d env with
  | none => rfl
  | some e1 =>
    show wpS (match p e1 with | .next e => forL t p ds e | .cont e => forL t p ds e | .brk e => .next e | .ret d => .ret d | .err x e => .err x e | .stuck => .stuck) _ _ _ _ _ = wpS (p e1) _ _ _ _ _
    cases p e1 <;> rfl
theorem o_all {xs : List D} : wpO (fAll [.lst xs]) QD = wpO (bls? xs) (fun bs => QD (.bl (bs.all id))) := wO_map
theorem o_any {xs : List D} : wpO (fAny [.lst xs]) QD = wpO (bls? xs) (fun bs => QD (.bl (bs.any id))) := wO_map
theorem bls_nil {Q : List Bool → Prop} : wpO (bls? []) Q = Q [] := propext Iff.rfl
theorem bls_cons {b : Bool} {xs : List D} {Q : List Bool → Prop} : wpO (bls? (.bl b :: xs)) Q = wpO (bls? xs) (fun bs => Q (b :: bs)) := wO_map
theorem o_minL {xs : List D} : wpO (fMin [.lst xs]) QD = wpO (ints? xs) (fun ns => wpO (ns.min?) fun i => QD (.int i)) := by
  show wpO ((ints? xs).bind _) _ = _
  rw [wO_bind]
  simp only [wO_map]
theorem o_maxL {xs : List D} : wpO (fMax [.lst xs]) QD = wpO (ints? xs) (fun ns => wpO (ns.max?) fun i => QD (.int i)) := by
  show wpO ((ints? xs).bind _) _ = _
  rw [wO_bind]
  simp only [wO_map]
theorem o_sumL {xs : List D} : wpO (fSum [.lst xs]) QD = wpO (ints? xs) (fun ns => QD (.int ns.sum)) := wO_map
theorem ints_nil {Q : List Int → Prop} : wpO (ints? []) Q = Q [] := propext Iff.rfl
theorem ints_cons {b : Int} {xs : List D} {Q : List Int → Prop} : wpO (ints? (.int b :: xs)) Q = wpO (ints? xs) (fun bs => Q (b :: bs)) := wO_map
theorem o_min3 {a b c : Int} {Q : Int → Prop} : wpO ([a, b, c].min?) Q = Q (min (min a b) c) := propext Iff.rfl
theorem o_max3 {a b c : Int} {Q : Int → Prop} : wpO ([a, b, c].max?) Q = Q (max (max a b) c) := propext Iff.rfl
theorem o_slL {xs : List D} {lo hi : Option Int} : wpO (dSl (.lst xs) lo hi) QD = QD (.lst (cutD xs lo hi)) := propext Iff.rfl
theorem o_slT {xs : List D} {lo hi : Option Int} : wpO (dSl (.tup xs) lo hi) QD = QD (.tup (cutD xs lo hi)) := propext Iff.rfl
theorem o_allB {xs : List D} {bs : List Bool} (h : bls? xs = some bs) : wpO (fAll [.lst xs]) QD = QD (.bl (bs.all id)) := by show wpO ((bls? xs).map _) _ = _; rw [h]; rfl
/-! ### loops -/
theorem w_forI {t : GT} {ds : List D} (I : Nat → En → Prop) (h0 : I 0 env) (hs : ∀ i d env, ds[i]? = some d → I i env → wpO (t d env) fun e1 => wpS (p e1) (I (i + 1)) R ES N (I (i + 1))) (hN : ∀ env, I ds.length env → N env) : wpS (forL t p ds env) N R ES B C := by
  have gen : ∀ (rest : List D) (k : Nat) (env : En), ds.drop k = rest → k ≤ ds.length → I k env → wpS (forL t p rest env) N R ES B C := by
    intro rest
    induction rest with
    | nil =>
      intro k env hk hle hI
      have : k = ds.length := by
        have := congrArg List.length hk
        simp at this
        omega
      subst this
      exact hN env hI
    | cons d rest ih =>
      intro k env hk hle hI
      have hd : ds[k]? = some d := by
        have := congrArg (fun l => l[0]?) hk
        simpa using this
      have hlt : k < ds.length := (List.getElem?_eq_some_iff.mp hd).1
      have hr : ds.drop (k + 1) = rest := by
        have := congrArg List.tail hk
        simpa using this
      have q := hs k d env hd hI
      unfold forL
      revert q
      cases t d env with
      | none => exact fun q => q.elim
      | some e1 =>
        intro q
        have q : wpS (p e1) (I (k + 1)) R ES N (I (k + 1)) := q
        revert q
        show wpS (p e1) _ _ _ _ _ → wpS (match p e1 with | .next e => forL t p rest e | .cont e => forL t p rest e | .brk e => .next e | .ret d => .ret d | .err x e => .err x e | .stuck => .stuck) _ _ _ _ _
        cases p e1 with
        | next e => exact fun q => ih (k + 1) e hr hlt q
        | cont e => exact fun q => ih (k + 1) e hr hlt q
        | brk e => exact fun q => q
        | ret d => exact fun q => q
        | err x e => exact fun q => q
        | stuck => exact fun q => q
  exact gen ds 0 env rfl (Nat.zero_le _) h0
theorem w_forP {t : GT} {ds : List D} (I : En → Prop) (h0 : I env) (hs : ∀ d ∈ ds, ∀ env, I env → wpO (t d env) fun e1 => wpS (p e1) I R ES N I) (hN : ∀ env, I env → N env) : wpS (forL t p ds env) N R ES B C :=
  w_forI (fun _ => I) h0 (fun i d env hd hI => hs d (List.mem_of_getElem? hd) env hI) hN
theorem w_compF {t : GT} {cc : GB} {e : GE} {ds : List D} (f : D → D) (h : ∀ d ∈ ds, wpO (t d env) fun e1 => wpR (cc e1) (fun k => k = true ∧ wpR (e e1) (fun y => y = f d) fun _ => False) fun _ => False) (q : QL (ds.map f)) : wpR (compM t cc e env ds) QL E := by
  have key : compM t cc e env ds = .ok (ds.map f) := by
    clear q
    induction ds with
    | nil => rfl
    | cons d ds ih =>
      have h1 := h d List.mem_cons_self
      have h2 := ih fun d hd => h d (List.mem_cons_of_mem _ hd)
      unfold compM
      revert h1
      cases t d env with
      | none => exact fun h => h.elim
      | some e1 =>
        intro h1
        have h1 : wpR (cc e1) _ _ := h1
        revert h1
        show wpR (cc e1) _ _ → (cc e1).bind _ = _
        cases cc e1 with
        | ok k =>
          intro h1
          obtain ⟨rfl, h1⟩ : k = true ∧ wpR (e e1) (fun y => y = f d) (fun _ => False) := h1
          have := wR_eq h1
          show Res.bind (e e1) (fun y => Res.bind (compM t cc e env ds) fun ys => Res.ok (y :: ys)) = _
          rw [this, h2]
          rfl
        | err x => exact fun h => h.elim
        | stuck => exact fun h => h.elim
  rw [key]
  exact q
end
theorem rangeD_get {lo : Int} {n i : Nat} {d : D} (h : (rangeD lo n)[i]? = some d) : d = .int (lo + i) ∧ i < n := by
  unfold rangeD at h
  rw [List.getElem?_map] at h
  by_cases hi : i < n
  · rw [List.getElem?_range hi] at h
    cases h
    exact ⟨rfl, hi⟩
  · rw [List.getElem?_eq_none (by simpa using hi)] at h
    cases h
theorem rangeD_len {lo : Int} {n : Nat} : (rangeD lo n).length = n := by simp [rangeD]
end AF

set_option maxHeartbeats 4000000
namespace AF
open PySem PySem.Spec PyProof.Rows L2
def b__law_numbers_1 : GS :=
  sIf (b2 cGe (eVar 3) (e2 dPow (eC (.int 10)) (eC (.int 18))))
    (sSeq (sApp 4 (e2 dMod (eVar 3) (eC (.int 1009))))
    (sSet 3 (e2 dFdiv (eVar 3) (eC (.int 1009)))))
    (sSeq (sSet 6 (e2 dMod (e2 dPlus (e2 dPlus (e2 dMul (eVar 3) (eC (.int 48271))) (e2 dMul (e2 dPlus (eVar 5) (eC (.int 1))) (eC (.int 69621)))) (e2 dMul (eVar 1) (eC (.int 4001)))) (eC (.int 2147483647))))
    (sSeq (sSet 6 (e2 dMod (e2 dPlus (e2 dMul (eVar 6) (eVar 6)) (e2 dMul (eC (.int 16807)) (e2 dPlus (eVar 5) (eC (.int 3))))) (eC (.int 2147483629))))
    (sApp 4 (e2 dMod (e2 dFdiv (eVar 6) (eC (.int 7))) (eC (.int 1009))))))
def r__law_numbers_2 : GS :=
  sRetO 4
def g__law_numbers : GS :=
  sSeq (sSet 3 (e2 dMul (eC (.int 1000003)) (e2 dPlus (eVar 1) (eC (.int 1)))))
    (sSeq (sIf (b2 cLt (eVar 1) (eF fLen (aCons (eVar 0) (aNil))))
    (sSet 3 (eF fInt (aCons (e2 dIx (eVar 0) (eVar 1)) (aNil))))
    (sNil))
    (sSeq (sIf (b2 cLt (eVar 3) (eC (.int 0)))
    (sSet 3 (e2 dSub (eC (.int 1)) (e2 dMul (eC (.int 2)) (eVar 3))))
    (sNil))
    (sSeq (sSetL 4 (lDisp (aNil)))
    (sSeq (sFor (lF rg1 (aCons (eVar 2) (aNil))) (tName 5)
    (b__law_numbers_1))
    (r__law_numbers_2)))))
def m__law_numbers : List D → Res D := runF 3 7 g__law_numbers
def b__law_same_1 (mr : List D → Res D) : GS :=
  sIf (bNot (b1 truth (eCall (mr) (aCons (e2 dIx (eVar 0) (eVar 2)) (aCons (e2 dIx (eVar 1) (eVar 2)) (aNil))))))
    (sRet (eC (.bl false)))
    (sNil)
def r__law_same_2 (mr : List D → Res D) : GS :=
  sRet (eC (.bl true))
def g__law_same (mr : List D → Res D) : GS :=
  sSeq (sIf (b2 cIs (eVar 1) (eC .non))
    (sRet (eB (b2 cIs (eVar 0) (eC .non))))
    (sNil))
    (sSeq (sIf (b2 cIs (eVar 1) (eC (.bl true)))
    (sRet (eB (b2 cIs (eVar 0) (eC (.bl true)))))
    (sNil))
    (sSeq (sIf (b2 cIs (eVar 1) (eC (.bl false)))
    (sRet (eB (b2 cIs (eVar 0) (eC (.bl false)))))
    (sNil))
    (sSeq (sIf (b1 truth (eF fIsi (aCons (eVar 1) (aCons (eC (.ty "str")) (aNil)))))
    (sRet (eAnd (eF fIsi (aCons (eVar 0) (aCons (eC (.ty "str")) (aNil)))) (eB (b2 cEq (eVar 0) (eVar 1)))))
    (sNil))
    (sSeq (sIf (b1 truth (eF fIsi (aCons (eVar 1) (aCons (eC (.ty "int")) (aNil)))))
    (sRet (eAnd (eF fIsi (aCons (eVar 0) (aCons (eC (.ty "int")) (aNil)))) (eAnd (e1 notD (eF fIsi (aCons (eVar 0) (aCons (eC (.ty "bool")) (aNil))))) (eB (b2 cEq (eVar 0) (eVar 1))))))
    (sNil))
    (sSeq (sIf (bAnd (b1 truth (eF fIsi (aCons (eVar 1) (aCons (eC (.ty "tuple")) (aNil))))) (bNot (b1 truth (eF fIsi (aCons (eVar 0) (aCons (eC (.ty "tuple")) (aNil)))))))
    (sRet (eC (.bl false)))
    (sNil))
    (sSeq (sIf (bAnd (b1 truth (eF fIsi (aCons (eVar 1) (aCons (eC (.ty "list")) (aNil))))) (bNot (b1 truth (eF fIsi (aCons (eVar 0) (aCons (eC (.ty "list")) (aNil)))))))
    (sRet (eC (.bl false)))
    (sNil))
    (sSeq (sIf (b2 cNe (eF fLen (aCons (eVar 0) (aNil))) (eF fLen (aCons (eVar 1) (aNil))))
    (sRet (eC (.bl false)))
    (sNil))
    (sSeq (sFor (lF rg1 (aCons (eF fLen (aCons (eVar 1) (aNil))) (aNil))) (tName 2)
    (b__law_same_1 mr))
    (r__law_same_2 mr)))))))))
def m__law_same : Nat → List D → Res D
  | 0 => fun _ => .stuck
  | k + 1 => runF 2 3 (g__law_same (m__law_same k))
/-! ### sizes -/
theorem Sm.lt {i : Int} (h1 : -(2 ^ 200 : Int) < i) (h2 : i < 2 ^ 200) : Sm i := Sm.of (k := 200) (by omega) (by decide)
theorem S9.lt {i : Int} (h0 : i ≠ 0) (h1 : -(2 ^ 200 : Int) < i) (h2 : i < 2 ^ 200) : S9 i := S9.of h0 (k := 200) (by omega) (by decide)
theorem fmod_pos (x : Int) {y : Int} (h : 0 < y) : 0 ≤ x.fmod y ∧ x.fmod y < y := by
  rw [Int.fmod_eq_emod_of_nonneg x (by omega)]
  exact ⟨Int.emod_nonneg _ (by omega), Int.emod_lt_of_pos _ h⟩
/-! ### the law's draws -/
theorem sl0 : (0 : Nat) ≤ sizeLine := Nat.zero_le _
theorem numbers_body {ns : List Int} {at' : Nat} (ha : at' < 1000000) {d1 d2 : D} {i : Nat} (hi : i < 1000) {cell : Int} (hc : 0 ≤ cell) {ks : List Int} (hk : ks.length = i) {s5 s6 : Sl} {N : En → Prop} {R : D → Prop} {ES : Er → En → Prop} {B C : En → Prop}
    (h : ∀ cell' k s6', 0 ≤ cell' → 0 ≤ k → k < 1009 → N [.val d1, .val (.int at'), .val d2, .val (.int cell'), .own ((ks ++ [k]).map .int), .val (.int i), s6']) :
    wpS (b__law_numbers_1 [.val d1, .val (.int at'), .val d2, .val (.int cell), .own (ks.map .int), .val (.int i), s6]) N R ES B C := by
  have hz : ks.length < sizeLine := by rw [hk]; exact Nat.lt_of_lt_of_le hi (by decide)
  have m1 : ∀ x y : Int, 0 < y → 0 ≤ x.fmod y ∧ x.fmod y < y := fun x y h => fmod_pos x h
  have f1 : ∀ x y : Int, 0 ≤ x → 0 < y → 0 ≤ x.fdiv y := fun x y h h2 => by rw [Int.fdiv_eq_ediv_of_nonneg x (by omega)]; exact Int.ediv_nonneg h (by omega)
  simp only [b__law_numbers_1, ↓wR_ok, ↓wR_err, ↓wR_bind, ↓wR_of, ↓wO_some, ↓wO_map, ↓wO_bind, ↓w_var0, ↓w_varS, ↓w_eC, ↓w_e1, ↓w_l1, ↓w_e2, ↓w_l2, ↓w_b1, ↓w_b2, ↓w_eB, ↓w_eF, ↓w_lF, ↓w_eCall, ↓w_eLst, ↓w_aNil, ↓w_aCons, ↓w_eTup, ↓w_lDisp, ↓w_eIf, ↓w_bAnd, ↓w_bOr, ↓w_bNot, ↓w_bYes, ↓w_bChain, ↓w_eAnd, ↓w_eOr, ↓w_iAny, ↓w_oNone, ↓w_oSomeC, ↓w_eSl, ↓w_lSlG, ↓w_lComp, ↓w_sSeq, ↓w_sNil, ↓w_sBreak, ↓w_sCont, ↓w_sSet, ↓w_sSetL, ↓w_sExpr, ↓w_sRet, ↓w_sRetN, ↓w_sIf, ↓w_own0, ↓w_ownS, ↓w_sRetO, ↓w_sApp, ↓w_sSetIx, ↓w_sFrz, ↓w_sThen, ↓w_sRaise, ↓w_sAsg, ↓w_sFor, ↓w_sTry, ↓t_name, ↓t_nil, ↓t_cons, ↓o_plus, ↓o_plusL, ↓o_lAdd, ↓o_sub, ↓o_neg, ↓o_mul, ↓o_fdiv, ↓o_mod, ↓o_pow, ↓o_lt, ↓o_le, ↓o_gt, ↓o_ge, ↓o_eq, ↓o_ne, ↓o_truthB, ↓o_truthI, ↓o_truthN, ↓o_truthL, ↓o_truthT, ↓o_truthS, ↓o_notB, ↓o_isNN, ↓o_isBT, ↓o_isBF, ↓o_isT, ↓o_isIB, ↓o_isSB, ↓o_isLB, ↓o_isTB, ↓o_isNB, ↓o_isNot, ↓o_lenL, ↓o_lenT, ↓o_lenS, ↓o_abs, ↓o_intI, ↓o_intB, ↓o_str, ↓o_gcd, ↓o_list, ↓o_listT, ↓o_tuple, ↓o_tupleT, ↓o_rev, ↓o_type, ↓o_isi, ↓o_isi2, ↓o_rg1, ↓o_rg2, ↓o_zip, ↓o_zipT, ↓o_itemsL, ↓o_itemsT, ↓o_ixL, ↓o_ixT, ↓o_at0, ↓o_at1, ↓o_at2, ↓o_at3, ↓o_at4, ↓o_at5, ↓o_at6, ↓o_at7, ↓o_at8, ↓o_at9, ↓o_at10, ↓o_at11, ↓o_at12, ↓o_at13, ↓o_at14, ↓o_at15, ↓w_eIxO, ↓t_tup1, ↓t_tup2, ↓t_tup3, ↓t_tup9, ↓w_okOnly, ↓w_compN, ↓w_compC, ↓o_all, ↓o_any, ↓bls_nil, ↓bls_cons, ↓o_minL, ↓o_maxL, ↓o_sumL, ↓ints_nil, ↓ints_cons, ↓o_min3, ↓o_max3, ↓o_slL, ↓o_slT, ↓w_eBor, ↓w_bBor, o_isN, w_runF, tyName, isSubTy, tyNames, List.getElem?_cons_zero, List.getElem?_cons_succ, List.set_cons_zero, List.set_cons_succ, List.map_cons, List.map_nil, List.replicate_succ, List.replicate_zero, List.length_cons, List.length_nil, List.cons_append, List.nil_append, Nat.reduceAdd, Nat.reduceSub, Nat.reduceLeDiff, Nat.reduceEqDiff, reduceIte, if_true, if_false, Bool.not_true, Bool.not_false, Bool.true_and, Bool.and_true, Bool.false_and, Bool.and_false, Bool.true_or, Bool.false_or, Bool.or_true, Bool.or_false, reduceCtorEq, decide_true, decide_false, beq_self_eq_true, List.mem_cons, true_or, or_true, true_and, and_true, false_and, and_false, or_false, false_or, String.reduceEq, String.reduceBEq, List.not_mem_nil, Bool.not_eq_true, Bool.false_eq_true, eq_self, not_true_eq_false, not_false_eq_true, Bool.not_eq_eq_eq_not, decide_eq_true_eq, decide_eq_false_iff_not, bne_iff_ne, ne_eq, Int.reduceLT, Int.reduceLE, Int.reduceMul, Int.reduceAdd, Int.reduceNeg, Int.reduceToNat, Int.reducePow, Nat.reduceLT, Int.reduceEq, Int.reduceSub, zipD, List.zipWith_cons_cons, List.zipWith_nil_left, List.zipWith_nil_right, List.all_cons, List.all_nil, id_eq, scalD, borE, wipeE, noOwn, sz_0, szl_0, sz_1, szl_1, sz_2, szl_2, sz_3, szl_3, sz_4, szl_4, sz_5, szl_5, sz_6, szl_6, sz_7, szl_7, sz_8, szl_8, sz_9, szl_9, sz_10, szl_10, sz_11, szl_11, sz_12, szl_12, sz_13, szl_13, sz_14, szl_14, sz_15, szl_15, sz_16, szl_16, sz_17, szl_17, sz_18, szl_18, sz_19, szl_19, sz_20, szl_20, sz_21, szl_21, sz_22, szl_22, sz_23, szl_23, sz_24, szl_24, sz_25, szl_25, sz_26, szl_26, sz_27, szl_27, sz_28, szl_28, sz_29, szl_29, sz_30, szl_30, sz_31, szl_31, sz_32, szl_32, frz, List.all_cons, List.all_nil, List.length_map, ne_eq, Int.reduceEq, not_false_eq_true, true_and]
  refine ⟨by decide, ?_⟩
  split
  · refine ⟨hz, S9.lt (by decide) (by decide) (by decide), ?_⟩
    have := h (cell.fdiv 1009) (cell.fmod 1009) s6 (f1 _ _ hc (by decide)) (m1 _ _ (by decide)).1 (m1 _ _ (by decide)).2
    simpa using this
  · rename_i hlt
    have q := m1 (cell * 48271 + ((i : Int) + 1) * 69621 + (at' : Int) * 4001) 2147483647 (by decide)
    refine ⟨?_, ?_, ?_, ?_, ?_, ?_, hz, ?_⟩
    iterate 5 (exact ⟨Sm.lt (by omega) (by omega), Sm.lt (by omega) (by omega)⟩)
    · exact S9.lt (by decide) (by decide) (by decide)
    generalize hm : ((cell * 48271 + ((i : Int) + 1) * 69621 + (at' : Int) * 4001).fmod 2147483647 * (cell * 48271 + ((i : Int) + 1) * 69621 + (at' : Int) * 4001).fmod 2147483647 + 16807 * ((i : Int) + 3)).fmod 2147483629 = M
    have := h cell ((M.fdiv 7).fmod 1009) (.val (.int M)) hc (m1 _ _ (by decide)).1 (m1 _ _ (by decide)).2
    simpa using this
theorem numbers_ok (ns : List Int) (hb : ∀ z ∈ ns, Builtin.Int.intBits z ≤ 1048576) (at' count : Nat) (ha : at' < 1000000) (hc : count ≤ 1000) :
    ∃ ks : List Int, ks.length = count ∧ (∀ k ∈ ks, 0 ≤ k ∧ k < 1009) ∧ m__law_numbers [.lst (ns.map .int), .int at', .int count] = .ok (.lst (ks.map .int)) := by
  suffices h : wpR (m__law_numbers [.lst (ns.map .int), .int at', .int count]) (fun d => ∃ ks : List Int, ks.length = count ∧ (∀ k ∈ ks, 0 ≤ k ∧ k < 1009) ∧ d = .lst (ks.map .int)) (fun _ => False) by
    revert h
    cases m__law_numbers [.lst (ns.map .int), .int at', .int count] with
    | ok d => rintro ⟨ks, h1, h2, rfl⟩; exact ⟨ks, h1, h2, rfl⟩
    | err e => exact fun h => h.elim
    | stuck => exact fun h => h.elim
  have loop : ∀ cell : Int, 0 ≤ cell → ∀ (N0 : En → Prop) (R : D → Prop) ES B C, (∀ ks : List Int, ks.length = count → (∀ k ∈ ks, 0 ≤ k ∧ k < 1009) → R (.lst (ks.map .int))) →
      wpS (forL (tName 5) b__law_numbers_1 (rangeD 0 (count : Int).toNat) [.val (.lst (ns.map .int)), .val (.int at'), .val (.int count), .val (.int cell), .own [], .unk, .unk]) (fun e => wpS (r__law_numbers_2 e) N0 R ES B C) R ES B C := by
    intro cell hcell N0 R ES B C hR
    refine w_forI (fun i e => ∃ cell' ks s5 s6, 0 ≤ cell' ∧ ks.length = i ∧ (∀ k ∈ ks, 0 ≤ k ∧ k < 1009) ∧ e = [.val (.lst (ns.map .int)), .val (.int at'), .val (.int count), .val (.int cell'), .own (ks.map .int), s5, s6]) ⟨cell, [], .unk, .unk, hcell, rfl, by simp, rfl⟩ ?_ ?_
    · rintro i d env hd ⟨cell', ks, s5, s6, h1, h2, h3, rfl⟩
      obtain ⟨rfl, hi⟩ := rangeD_get hd
      rw [t_name]
      simp only [List.set_cons_succ, List.set_cons_zero]
      rw [show (0 : Int) + (i : Int) = (i : Int) from by omega]
      refine numbers_body (ns := ns) (s5 := s5) ha (by omega) h1 h2 fun c k s6' q1 q2 q3 => ⟨c, ks ++ [k], _, s6', q1, by simp [h2], fun x hx => ?_, rfl⟩
      rcases List.mem_append.mp hx with e | e
      · exact h3 x e
      · rw [List.mem_singleton.mp e]; exact ⟨q2, q3⟩
    · rintro env ⟨cell', ks, s5, s6, h1, h2, h3, rfl⟩
      simp only [r__law_numbers_2, ↓wR_ok, ↓wR_err, ↓wR_bind, ↓wR_of, ↓wO_some, ↓wO_map, ↓wO_bind, ↓w_var0, ↓w_varS, ↓w_eC, ↓w_e1, ↓w_l1, ↓w_e2, ↓w_l2, ↓w_b1, ↓w_b2, ↓w_eB, ↓w_eF, ↓w_lF, ↓w_eCall, ↓w_eLst, ↓w_aNil, ↓w_aCons, ↓w_eTup, ↓w_lDisp, ↓w_eIf, ↓w_bAnd, ↓w_bOr, ↓w_bNot, ↓w_bYes, ↓w_bChain, ↓w_eAnd, ↓w_eOr, ↓w_iAny, ↓w_oNone, ↓w_oSomeC, ↓w_eSl, ↓w_lSlG, ↓w_lComp, ↓w_sSeq, ↓w_sNil, ↓w_sBreak, ↓w_sCont, ↓w_sSet, ↓w_sSetL, ↓w_sExpr, ↓w_sRet, ↓w_sRetN, ↓w_sIf, ↓w_own0, ↓w_ownS, ↓w_sRetO, ↓w_sApp, ↓w_sSetIx, ↓w_sFrz, ↓w_sThen, ↓w_sRaise, ↓w_sAsg, ↓w_sFor, ↓w_sTry, ↓t_name, ↓t_nil, ↓t_cons, ↓o_plus, ↓o_plusL, ↓o_lAdd, ↓o_sub, ↓o_neg, ↓o_mul, ↓o_fdiv, ↓o_mod, ↓o_pow, ↓o_lt, ↓o_le, ↓o_gt, ↓o_ge, ↓o_eq, ↓o_ne, ↓o_truthB, ↓o_truthI, ↓o_truthN, ↓o_truthL, ↓o_truthT, ↓o_truthS, ↓o_notB, ↓o_isNN, ↓o_isBT, ↓o_isBF, ↓o_isT, ↓o_isIB, ↓o_isSB, ↓o_isLB, ↓o_isTB, ↓o_isNB, ↓o_isNot, ↓o_lenL, ↓o_lenT, ↓o_lenS, ↓o_abs, ↓o_intI, ↓o_intB, ↓o_str, ↓o_gcd, ↓o_list, ↓o_listT, ↓o_tuple, ↓o_tupleT, ↓o_rev, ↓o_type, ↓o_isi, ↓o_isi2, ↓o_rg1, ↓o_rg2, ↓o_zip, ↓o_zipT, ↓o_itemsL, ↓o_itemsT, ↓o_ixL, ↓o_ixT, ↓o_at0, ↓o_at1, ↓o_at2, ↓o_at3, ↓o_at4, ↓o_at5, ↓o_at6, ↓o_at7, ↓o_at8, ↓o_at9, ↓o_at10, ↓o_at11, ↓o_at12, ↓o_at13, ↓o_at14, ↓o_at15, ↓w_eIxO, ↓t_tup1, ↓t_tup2, ↓t_tup3, ↓t_tup9, ↓w_okOnly, ↓w_compN, ↓w_compC, ↓o_all, ↓o_any, ↓bls_nil, ↓bls_cons, ↓o_minL, ↓o_maxL, ↓o_sumL, ↓ints_nil, ↓ints_cons, ↓o_min3, ↓o_max3, ↓o_slL, ↓o_slT, ↓w_eBor, ↓w_bBor, o_isN, w_runF, tyName, isSubTy, tyNames, List.getElem?_cons_zero, List.getElem?_cons_succ, List.set_cons_zero, List.set_cons_succ, List.map_cons, List.map_nil, List.replicate_succ, List.replicate_zero, List.length_cons, List.length_nil, List.cons_append, List.nil_append, Nat.reduceAdd, Nat.reduceSub, Nat.reduceLeDiff, Nat.reduceEqDiff, reduceIte, if_true, if_false, Bool.not_true, Bool.not_false, Bool.true_and, Bool.and_true, Bool.false_and, Bool.and_false, Bool.true_or, Bool.false_or, Bool.or_true, Bool.or_false, reduceCtorEq, decide_true, decide_false, beq_self_eq_true, List.mem_cons, true_or, or_true, true_and, and_true, false_and, and_false, or_false, false_or, String.reduceEq, String.reduceBEq, List.not_mem_nil, Bool.not_eq_true, Bool.false_eq_true, eq_self, not_true_eq_false, not_false_eq_true, Bool.not_eq_eq_eq_not, decide_eq_true_eq, decide_eq_false_iff_not, bne_iff_ne, ne_eq, Int.reduceLT, Int.reduceLE, Int.reduceMul, Int.reduceAdd, Int.reduceNeg, Int.reduceToNat, Int.reducePow, Nat.reduceLT, Int.reduceEq, Int.reduceSub, zipD, List.zipWith_cons_cons, List.zipWith_nil_left, List.zipWith_nil_right, List.all_cons, List.all_nil, id_eq, scalD, borE, wipeE, noOwn, sz_0, szl_0, sz_1, szl_1, sz_2, szl_2, sz_3, szl_3, sz_4, szl_4, sz_5, szl_5, sz_6, szl_6, sz_7, szl_7, sz_8, szl_8, sz_9, szl_9, sz_10, szl_10, sz_11, szl_11, sz_12, szl_12, sz_13, szl_13, sz_14, szl_14, sz_15, szl_15, sz_16, szl_16, sz_17, szl_17, sz_18, szl_18, sz_19, szl_19, sz_20, szl_20, sz_21, szl_21, sz_22, szl_22, sz_23, szl_23, sz_24, szl_24, sz_25, szl_25, sz_26, szl_26, sz_27, szl_27, sz_28, szl_28, sz_29, szl_29, sz_30, szl_30, sz_31, szl_31, sz_32, szl_32, frz, List.all_cons, List.all_nil]
      exact hR ks (by rw [h2, rangeD_len]; rfl) h3
  simp only [m__law_numbers, g__law_numbers, ↓wR_ok, ↓wR_err, ↓wR_bind, ↓wR_of, ↓wO_some, ↓wO_map, ↓wO_bind, ↓w_var0, ↓w_varS, ↓w_eC, ↓w_e1, ↓w_l1, ↓w_e2, ↓w_l2, ↓w_b1, ↓w_b2, ↓w_eB, ↓w_eF, ↓w_lF, ↓w_eCall, ↓w_eLst, ↓w_aNil, ↓w_aCons, ↓w_eTup, ↓w_lDisp, ↓w_eIf, ↓w_bAnd, ↓w_bOr, ↓w_bNot, ↓w_bYes, ↓w_bChain, ↓w_eAnd, ↓w_eOr, ↓w_iAny, ↓w_oNone, ↓w_oSomeC, ↓w_eSl, ↓w_lSlG, ↓w_lComp, ↓w_sSeq, ↓w_sNil, ↓w_sBreak, ↓w_sCont, ↓w_sSet, ↓w_sSetL, ↓w_sExpr, ↓w_sRet, ↓w_sRetN, ↓w_sIf, ↓w_own0, ↓w_ownS, ↓w_sRetO, ↓w_sApp, ↓w_sSetIx, ↓w_sFrz, ↓w_sThen, ↓w_sRaise, ↓w_sAsg, ↓w_sFor, ↓w_sTry, ↓t_name, ↓t_nil, ↓t_cons, ↓o_plus, ↓o_plusL, ↓o_lAdd, ↓o_sub, ↓o_neg, ↓o_mul, ↓o_fdiv, ↓o_mod, ↓o_pow, ↓o_lt, ↓o_le, ↓o_gt, ↓o_ge, ↓o_eq, ↓o_ne, ↓o_truthB, ↓o_truthI, ↓o_truthN, ↓o_truthL, ↓o_truthT, ↓o_truthS, ↓o_notB, ↓o_isNN, ↓o_isBT, ↓o_isBF, ↓o_isT, ↓o_isIB, ↓o_isSB, ↓o_isLB, ↓o_isTB, ↓o_isNB, ↓o_isNot, ↓o_lenL, ↓o_lenT, ↓o_lenS, ↓o_abs, ↓o_intI, ↓o_intB, ↓o_str, ↓o_gcd, ↓o_list, ↓o_listT, ↓o_tuple, ↓o_tupleT, ↓o_rev, ↓o_type, ↓o_isi, ↓o_isi2, ↓o_rg1, ↓o_rg2, ↓o_zip, ↓o_zipT, ↓o_itemsL, ↓o_itemsT, ↓o_ixL, ↓o_ixT, ↓o_at0, ↓o_at1, ↓o_at2, ↓o_at3, ↓o_at4, ↓o_at5, ↓o_at6, ↓o_at7, ↓o_at8, ↓o_at9, ↓o_at10, ↓o_at11, ↓o_at12, ↓o_at13, ↓o_at14, ↓o_at15, ↓w_eIxO, ↓t_tup1, ↓t_tup2, ↓t_tup3, ↓t_tup9, ↓w_okOnly, ↓w_compN, ↓w_compC, ↓o_all, ↓o_any, ↓bls_nil, ↓bls_cons, ↓o_minL, ↓o_maxL, ↓o_sumL, ↓ints_nil, ↓ints_cons, ↓o_min3, ↓o_max3, ↓o_slL, ↓o_slT, ↓w_eBor, ↓w_bBor, o_isN, w_runF, tyName, isSubTy, tyNames, List.getElem?_cons_zero, List.getElem?_cons_succ, List.set_cons_zero, List.set_cons_succ, List.map_cons, List.map_nil, List.replicate_succ, List.replicate_zero, List.length_cons, List.length_nil, List.cons_append, List.nil_append, Nat.reduceAdd, Nat.reduceSub, Nat.reduceLeDiff, Nat.reduceEqDiff, reduceIte, if_true, if_false, Bool.not_true, Bool.not_false, Bool.true_and, Bool.and_true, Bool.false_and, Bool.and_false, Bool.true_or, Bool.false_or, Bool.or_true, Bool.or_false, reduceCtorEq, decide_true, decide_false, beq_self_eq_true, List.mem_cons, true_or, or_true, true_and, and_true, false_and, and_false, or_false, false_or, String.reduceEq, String.reduceBEq, List.not_mem_nil, Bool.not_eq_true, Bool.false_eq_true, eq_self, not_true_eq_false, not_false_eq_true, Bool.not_eq_eq_eq_not, decide_eq_true_eq, decide_eq_false_iff_not, bne_iff_ne, ne_eq, Int.reduceLT, Int.reduceLE, Int.reduceMul, Int.reduceAdd, Int.reduceNeg, Int.reduceToNat, Int.reducePow, Nat.reduceLT, Int.reduceEq, Int.reduceSub, zipD, List.zipWith_cons_cons, List.zipWith_nil_left, List.zipWith_nil_right, List.all_cons, List.all_nil, id_eq, scalD, borE, wipeE, noOwn, sz_0, szl_0, sz_1, szl_1, sz_2, szl_2, sz_3, szl_3, sz_4, szl_4, sz_5, szl_5, sz_6, szl_6, sz_7, szl_7, sz_8, szl_8, sz_9, szl_9, sz_10, szl_10, sz_11, szl_11, sz_12, szl_12, sz_13, szl_13, sz_14, szl_14, sz_15, szl_15, sz_16, szl_16, sz_17, szl_17, sz_18, szl_18, sz_19, szl_19, sz_20, szl_20, sz_21, szl_21, sz_22, szl_22, sz_23, szl_23, sz_24, szl_24, sz_25, szl_25, sz_26, szl_26, sz_27, szl_27, sz_28, szl_28, sz_29, szl_29, sz_30, szl_30, sz_31, szl_31, sz_32, szl_32, frz, List.all_cons, List.all_nil, List.length_map]
  refine ⟨⟨Sm.lt (by decide) (by decide), Sm.lt (by omega) (by omega)⟩, ?_⟩
  split
  · rename_i hlt
    have hlt' : at' < ns.length := by omega
    have e : (ns.map D.int)[at']? = some (.int ns[at']) := by rw [List.getElem?_map, List.getElem?_eq_getElem hlt']; rfl
    rw [o_at e]
    simp only [↓wR_ok, ↓wR_err, ↓wR_bind, ↓wR_of, ↓wO_some, ↓wO_map, ↓wO_bind, ↓w_var0, ↓w_varS, ↓w_eC, ↓w_e1, ↓w_l1, ↓w_e2, ↓w_l2, ↓w_b1, ↓w_b2, ↓w_eB, ↓w_eF, ↓w_lF, ↓w_eCall, ↓w_eLst, ↓w_aNil, ↓w_aCons, ↓w_eTup, ↓w_lDisp, ↓w_eIf, ↓w_bAnd, ↓w_bOr, ↓w_bNot, ↓w_bYes, ↓w_bChain, ↓w_eAnd, ↓w_eOr, ↓w_iAny, ↓w_oNone, ↓w_oSomeC, ↓w_eSl, ↓w_lSlG, ↓w_lComp, ↓w_sSeq, ↓w_sNil, ↓w_sBreak, ↓w_sCont, ↓w_sSet, ↓w_sSetL, ↓w_sExpr, ↓w_sRet, ↓w_sRetN, ↓w_sIf, ↓w_own0, ↓w_ownS, ↓w_sRetO, ↓w_sApp, ↓w_sSetIx, ↓w_sFrz, ↓w_sThen, ↓w_sRaise, ↓w_sAsg, ↓w_sFor, ↓w_sTry, ↓t_name, ↓t_nil, ↓t_cons, ↓o_plus, ↓o_plusL, ↓o_lAdd, ↓o_sub, ↓o_neg, ↓o_mul, ↓o_fdiv, ↓o_mod, ↓o_pow, ↓o_lt, ↓o_le, ↓o_gt, ↓o_ge, ↓o_eq, ↓o_ne, ↓o_truthB, ↓o_truthI, ↓o_truthN, ↓o_truthL, ↓o_truthT, ↓o_truthS, ↓o_notB, ↓o_isNN, ↓o_isBT, ↓o_isBF, ↓o_isT, ↓o_isIB, ↓o_isSB, ↓o_isLB, ↓o_isTB, ↓o_isNB, ↓o_isNot, ↓o_lenL, ↓o_lenT, ↓o_lenS, ↓o_abs, ↓o_intI, ↓o_intB, ↓o_str, ↓o_gcd, ↓o_list, ↓o_listT, ↓o_tuple, ↓o_tupleT, ↓o_rev, ↓o_type, ↓o_isi, ↓o_isi2, ↓o_rg1, ↓o_rg2, ↓o_zip, ↓o_zipT, ↓o_itemsL, ↓o_itemsT, ↓o_ixL, ↓o_ixT, ↓o_at0, ↓o_at1, ↓o_at2, ↓o_at3, ↓o_at4, ↓o_at5, ↓o_at6, ↓o_at7, ↓o_at8, ↓o_at9, ↓o_at10, ↓o_at11, ↓o_at12, ↓o_at13, ↓o_at14, ↓o_at15, ↓w_eIxO, ↓t_tup1, ↓t_tup2, ↓t_tup3, ↓t_tup9, ↓w_okOnly, ↓w_compN, ↓w_compC, ↓o_all, ↓o_any, ↓bls_nil, ↓bls_cons, ↓o_minL, ↓o_maxL, ↓o_sumL, ↓ints_nil, ↓ints_cons, ↓o_min3, ↓o_max3, ↓o_slL, ↓o_slT, ↓w_eBor, ↓w_bBor, o_isN, w_runF, tyName, isSubTy, tyNames, List.getElem?_cons_zero, List.getElem?_cons_succ, List.set_cons_zero, List.set_cons_succ, List.map_cons, List.map_nil, List.replicate_succ, List.replicate_zero, List.length_cons, List.length_nil, List.cons_append, List.nil_append, Nat.reduceAdd, Nat.reduceSub, Nat.reduceLeDiff, Nat.reduceEqDiff, reduceIte, if_true, if_false, Bool.not_true, Bool.not_false, Bool.true_and, Bool.and_true, Bool.false_and, Bool.and_false, Bool.true_or, Bool.false_or, Bool.or_true, Bool.or_false, reduceCtorEq, decide_true, decide_false, beq_self_eq_true, List.mem_cons, true_or, or_true, true_and, and_true, false_and, and_false, or_false, false_or, String.reduceEq, String.reduceBEq, List.not_mem_nil, Bool.not_eq_true, Bool.false_eq_true, eq_self, not_true_eq_false, not_false_eq_true, Bool.not_eq_eq_eq_not, decide_eq_true_eq, decide_eq_false_iff_not, bne_iff_ne, ne_eq, Int.reduceLT, Int.reduceLE, Int.reduceMul, Int.reduceAdd, Int.reduceNeg, Int.reduceToNat, Int.reducePow, Nat.reduceLT, Int.reduceEq, Int.reduceSub, zipD, List.zipWith_cons_cons, List.zipWith_nil_left, List.zipWith_nil_right, List.all_cons, List.all_nil, id_eq, scalD, borE, wipeE, noOwn, sz_0, szl_0, sz_1, szl_1, sz_2, szl_2, sz_3, szl_3, sz_4, szl_4, sz_5, szl_5, sz_6, szl_6, sz_7, szl_7, sz_8, szl_8, sz_9, szl_9, sz_10, szl_10, sz_11, szl_11, sz_12, szl_12, sz_13, szl_13, sz_14, szl_14, sz_15, szl_15, sz_16, szl_16, sz_17, szl_17, sz_18, szl_18, sz_19, szl_19, sz_20, szl_20, sz_21, szl_21, sz_22, szl_22, sz_23, szl_23, sz_24, szl_24, sz_25, szl_25, sz_26, szl_26, sz_27, szl_27, sz_28, szl_28, sz_29, szl_29, sz_30, szl_30, sz_31, szl_31, sz_32, szl_32, frz, List.all_cons, List.all_nil]
    split
    · refine ⟨⟨Sm.lt (by decide) (by decide), Nat.le_trans (hb _ (List.getElem_mem hlt')) (by decide)⟩, ⟨by omega, by omega⟩, ?_⟩
      refine loop _ ?_ _ _ _ _ _ ?_ <;> first | omega | exact fun ks h1 h2 => ⟨ks, h1, h2, rfl⟩
    · refine ⟨⟨by omega, by omega⟩, ?_⟩
      refine loop _ ?_ _ _ _ _ _ ?_ <;> first | omega | exact fun ks h1 h2 => ⟨ks, h1, h2, rfl⟩
  · rw [if_neg (by omega)]
    refine ⟨⟨by omega, by omega⟩, ?_⟩
    refine loop _ ?_ _ _ _ _ _ ?_ <;> first | omega | exact fun ks h1 h2 => ⟨ks, h1, h2, rfl⟩
end AF

namespace AF
open PySem PySem.Spec PyProof.Rows L2
/-! ### the law's own equality: a value is the same as itself -/
def okS : Nat → D → Bool
  | 0, _ => false
  | _ + 1, .non => true
  | _ + 1, .bl _ => true
  | _ + 1, .int _ => true
  | _ + 1, .str _ => true
  | k + 1, .tup xs => decide (xs.length ≤ 1000000) && xs.all (okS k)
  | k + 1, .lst xs => decide (xs.length ≤ 1000000) && xs.all (okS k)
  | _ + 1, .ty _ => false
theorem cEq_str (s : List Nat) : wpO (cEq (.str s) (.str s)) Q = Q true := by
  unfold cEq
  rw [okD_str]
  have : PyData.eqv (toPy (.str s)) (toPy (.str s)) = true := by
    show decide ((⟨s.toArray⟩ : Str) = ⟨s.toArray⟩) = true
    exact decide_eq_true rfl
  show wpO (some (PyData.eqv (toPy (.str s)) (toPy (.str s)))) Q = _
  rw [this]
  rfl
theorem same_ok : ∀ (k : Nat) (d : D), okS k d = true → m__law_same k [d, d] = .ok (.bl true)
  | 0, _, h => by cases h
  | k + 1, d, h => by
    have ih := same_ok k
    have loop : ∀ (xs : List D) (d : D), (∀ Q : D → Prop, ∀ i : Int, wpO (dIx d (.int i)) Q = wpO (atI xs i) Q) → xs.length ≤ 1000000 → xs.all (okS k) = true → ∀ N0 ES B C s2,
        wpS (forL (tName 2) (b__law_same_1 (m__law_same k)) (rangeD 0 (xs.length : Int).toNat) [.val d, .val d, s2]) (fun e => wpS (r__law_same_2 (m__law_same k) e) N0 (fun y => y = .bl true) ES B C) (fun y => y = .bl true) ES B C := by
      intro xs d hd hl ha N0 ES B C s2
      refine w_forI (fun i e => ∃ s, e = [.val d, .val d, s]) ⟨s2, rfl⟩ ?_ ?_
      · rintro i d0 env he ⟨s, rfl⟩
        obtain ⟨rfl, hi⟩ := rangeD_get he
        have hi' : i < xs.length := by simpa using hi
        have e1 : xs[i]? = some xs[i] := List.getElem?_eq_getElem hi'
        have e2 := ih xs[i] (List.all_eq_true.mp ha _ (List.getElem_mem hi'))
        rw [t_name]
        simp only [List.set_cons_succ, List.set_cons_zero]
        rw [show (0 : Int) + (i : Int) = (i : Int) from by omega]
        simp only [b__law_same_1, ↓wR_ok, ↓wR_err, ↓wR_bind, ↓wR_of, ↓wO_some, ↓wO_map, ↓wO_bind, ↓w_var0, ↓w_varS, ↓w_eC, ↓w_e1, ↓w_l1, ↓w_e2, ↓w_l2, ↓w_b1, ↓w_b2, ↓w_eB, ↓w_eF, ↓w_lF, ↓w_eCall, ↓w_eLst, ↓w_aNil, ↓w_aCons, ↓w_eTup, ↓w_lDisp, ↓w_eIf, ↓w_bAnd, ↓w_bOr, ↓w_bNot, ↓w_bYes, ↓w_bChain, ↓w_eAnd, ↓w_eOr, ↓w_iAny, ↓w_oNone, ↓w_oSomeC, ↓w_eSl, ↓w_lSlG, ↓w_lComp, ↓w_sSeq, ↓w_sNil, ↓w_sBreak, ↓w_sCont, ↓w_sSet, ↓w_sSetL, ↓w_sExpr, ↓w_sRet, ↓w_sRetN, ↓w_sIf, ↓w_own0, ↓w_ownS, ↓w_sRetO, ↓w_sApp, ↓w_sSetIx, ↓w_sFrz, ↓w_sThen, ↓w_sRaise, ↓w_sAsg, ↓w_sFor, ↓w_sTry, ↓t_name, ↓t_nil, ↓t_cons, ↓o_plus, ↓o_plusL, ↓o_lAdd, ↓o_sub, ↓o_neg, ↓o_mul, ↓o_fdiv, ↓o_mod, ↓o_pow, ↓o_lt, ↓o_le, ↓o_gt, ↓o_ge, ↓o_eq, ↓o_ne, ↓o_truthB, ↓o_truthI, ↓o_truthN, ↓o_truthL, ↓o_truthT, ↓o_truthS, ↓o_notB, ↓o_isNN, ↓o_isBT, ↓o_isBF, ↓o_isT, ↓o_isIB, ↓o_isSB, ↓o_isLB, ↓o_isTB, ↓o_isNB, ↓o_isNot, ↓o_lenL, ↓o_lenT, ↓o_lenS, ↓o_abs, ↓o_intI, ↓o_intB, ↓o_str, ↓o_gcd, ↓o_list, ↓o_listT, ↓o_tuple, ↓o_tupleT, ↓o_rev, ↓o_type, ↓o_isi, ↓o_isi2, ↓o_rg1, ↓o_rg2, ↓o_zip, ↓o_zipT, ↓o_itemsL, ↓o_itemsT, ↓o_ixL, ↓o_ixT, ↓o_at0, ↓o_at1, ↓o_at2, ↓o_at3, ↓o_at4, ↓o_at5, ↓o_at6, ↓o_at7, ↓o_at8, ↓o_at9, ↓o_at10, ↓o_at11, ↓o_at12, ↓o_at13, ↓o_at14, ↓o_at15, ↓w_eIxO, ↓t_tup1, ↓t_tup2, ↓t_tup3, ↓t_tup9, ↓w_okOnly, ↓w_compN, ↓w_compC, ↓o_all, ↓o_any, ↓bls_nil, ↓bls_cons, ↓o_minL, ↓o_maxL, ↓o_sumL, ↓ints_nil, ↓ints_cons, ↓o_min3, ↓o_max3, ↓o_slL, ↓o_slT, ↓w_eBor, ↓w_bBor, o_isN, w_runF, tyName, isSubTy, tyNames, List.getElem?_cons_zero, List.getElem?_cons_succ, List.set_cons_zero, List.set_cons_succ, List.map_cons, List.map_nil, List.replicate_succ, List.replicate_zero, List.length_cons, List.length_nil, List.cons_append, List.nil_append, Nat.reduceAdd, Nat.reduceSub, Nat.reduceLeDiff, Nat.reduceEqDiff, reduceIte, if_true, if_false, Bool.not_true, Bool.not_false, Bool.true_and, Bool.and_true, Bool.false_and, Bool.and_false, Bool.true_or, Bool.false_or, Bool.or_true, Bool.or_false, reduceCtorEq, decide_true, decide_false, beq_self_eq_true, List.mem_cons, true_or, or_true, true_and, and_true, false_and, and_false, or_false, false_or, String.reduceEq, String.reduceBEq, List.not_mem_nil, Bool.not_eq_true, Bool.false_eq_true, eq_self, not_true_eq_false, not_false_eq_true, Bool.not_eq_eq_eq_not, decide_eq_true_eq, decide_eq_false_iff_not, bne_iff_ne, ne_eq, Int.reduceLT, Int.reduceLE, Int.reduceMul, Int.reduceAdd, Int.reduceNeg, Int.reduceToNat, Int.reducePow, Nat.reduceLT, Int.reduceEq, Int.reduceSub, zipD, List.zipWith_cons_cons, List.zipWith_nil_left, List.zipWith_nil_right, List.all_cons, List.all_nil, id_eq, scalD, borE, wipeE, noOwn, sz_0, szl_0, sz_1, szl_1, sz_2, szl_2, sz_3, szl_3, sz_4, szl_4, sz_5, szl_5, sz_6, szl_6, sz_7, szl_7, sz_8, szl_8, sz_9, szl_9, sz_10, szl_10, sz_11, szl_11, sz_12, szl_12, sz_13, szl_13, sz_14, szl_14, sz_15, szl_15, sz_16, szl_16, sz_17, szl_17, sz_18, szl_18, sz_19, szl_19, sz_20, szl_20, sz_21, szl_21, sz_22, szl_22, sz_23, szl_23, sz_24, szl_24, sz_25, szl_25, sz_26, szl_26, sz_27, szl_27, sz_28, szl_28, sz_29, szl_29, sz_30, szl_30, sz_31, szl_31, sz_32, szl_32, frz, List.all_cons, List.all_nil, hd, o_at e1, e2]
        exact ⟨_, rfl⟩
      · rintro env ⟨s, rfl⟩
        simp only [r__law_same_2, ↓wR_ok, ↓wR_err, ↓wR_bind, ↓wR_of, ↓wO_some, ↓wO_map, ↓wO_bind, ↓w_var0, ↓w_varS, ↓w_eC, ↓w_e1, ↓w_l1, ↓w_e2, ↓w_l2, ↓w_b1, ↓w_b2, ↓w_eB, ↓w_eF, ↓w_lF, ↓w_eCall, ↓w_eLst, ↓w_aNil, ↓w_aCons, ↓w_eTup, ↓w_lDisp, ↓w_eIf, ↓w_bAnd, ↓w_bOr, ↓w_bNot, ↓w_bYes, ↓w_bChain, ↓w_eAnd, ↓w_eOr, ↓w_iAny, ↓w_oNone, ↓w_oSomeC, ↓w_eSl, ↓w_lSlG, ↓w_lComp, ↓w_sSeq, ↓w_sNil, ↓w_sBreak, ↓w_sCont, ↓w_sSet, ↓w_sSetL, ↓w_sExpr, ↓w_sRet, ↓w_sRetN, ↓w_sIf, ↓w_own0, ↓w_ownS, ↓w_sRetO, ↓w_sApp, ↓w_sSetIx, ↓w_sFrz, ↓w_sThen, ↓w_sRaise, ↓w_sAsg, ↓w_sFor, ↓w_sTry, ↓t_name, ↓t_nil, ↓t_cons, ↓o_plus, ↓o_plusL, ↓o_lAdd, ↓o_sub, ↓o_neg, ↓o_mul, ↓o_fdiv, ↓o_mod, ↓o_pow, ↓o_lt, ↓o_le, ↓o_gt, ↓o_ge, ↓o_eq, ↓o_ne, ↓o_truthB, ↓o_truthI, ↓o_truthN, ↓o_truthL, ↓o_truthT, ↓o_truthS, ↓o_notB, ↓o_isNN, ↓o_isBT, ↓o_isBF, ↓o_isT, ↓o_isIB, ↓o_isSB, ↓o_isLB, ↓o_isTB, ↓o_isNB, ↓o_isNot, ↓o_lenL, ↓o_lenT, ↓o_lenS, ↓o_abs, ↓o_intI, ↓o_intB, ↓o_str, ↓o_gcd, ↓o_list, ↓o_listT, ↓o_tuple, ↓o_tupleT, ↓o_rev, ↓o_type, ↓o_isi, ↓o_isi2, ↓o_rg1, ↓o_rg2, ↓o_zip, ↓o_zipT, ↓o_itemsL, ↓o_itemsT, ↓o_ixL, ↓o_ixT, ↓o_at0, ↓o_at1, ↓o_at2, ↓o_at3, ↓o_at4, ↓o_at5, ↓o_at6, ↓o_at7, ↓o_at8, ↓o_at9, ↓o_at10, ↓o_at11, ↓o_at12, ↓o_at13, ↓o_at14, ↓o_at15, ↓w_eIxO, ↓t_tup1, ↓t_tup2, ↓t_tup3, ↓t_tup9, ↓w_okOnly, ↓w_compN, ↓w_compC, ↓o_all, ↓o_any, ↓bls_nil, ↓bls_cons, ↓o_minL, ↓o_maxL, ↓o_sumL, ↓ints_nil, ↓ints_cons, ↓o_min3, ↓o_max3, ↓o_slL, ↓o_slT, ↓w_eBor, ↓w_bBor, o_isN, w_runF, tyName, isSubTy, tyNames, List.getElem?_cons_zero, List.getElem?_cons_succ, List.set_cons_zero, List.set_cons_succ, List.map_cons, List.map_nil, List.replicate_succ, List.replicate_zero, List.length_cons, List.length_nil, List.cons_append, List.nil_append, Nat.reduceAdd, Nat.reduceSub, Nat.reduceLeDiff, Nat.reduceEqDiff, reduceIte, if_true, if_false, Bool.not_true, Bool.not_false, Bool.true_and, Bool.and_true, Bool.false_and, Bool.and_false, Bool.true_or, Bool.false_or, Bool.or_true, Bool.or_false, reduceCtorEq, decide_true, decide_false, beq_self_eq_true, List.mem_cons, true_or, or_true, true_and, and_true, false_and, and_false, or_false, false_or, String.reduceEq, String.reduceBEq, List.not_mem_nil, Bool.not_eq_true, Bool.false_eq_true, eq_self, not_true_eq_false, not_false_eq_true, Bool.not_eq_eq_eq_not, decide_eq_true_eq, decide_eq_false_iff_not, bne_iff_ne, ne_eq, Int.reduceLT, Int.reduceLE, Int.reduceMul, Int.reduceAdd, Int.reduceNeg, Int.reduceToNat, Int.reducePow, Nat.reduceLT, Int.reduceEq, Int.reduceSub, zipD, List.zipWith_cons_cons, List.zipWith_nil_left, List.zipWith_nil_right, List.all_cons, List.all_nil, id_eq, scalD, borE, wipeE, noOwn, sz_0, szl_0, sz_1, szl_1, sz_2, szl_2, sz_3, szl_3, sz_4, szl_4, sz_5, szl_5, sz_6, szl_6, sz_7, szl_7, sz_8, szl_8, sz_9, szl_9, sz_10, szl_10, sz_11, szl_11, sz_12, szl_12, sz_13, szl_13, sz_14, szl_14, sz_15, szl_15, sz_16, szl_16, sz_17, szl_17, sz_18, szl_18, sz_19, szl_19, sz_20, szl_20, sz_21, szl_21, sz_22, szl_22, sz_23, szl_23, sz_24, szl_24, sz_25, szl_25, sz_26, szl_26, sz_27, szl_27, sz_28, szl_28, sz_29, szl_29, sz_30, szl_30, sz_31, szl_31, sz_32, szl_32, frz, List.all_cons, List.all_nil]
    apply wR_eq
    cases d with
    | non => simp only [m__law_same, g__law_same, ↓wR_ok, ↓wR_err, ↓wR_bind, ↓wR_of, ↓wO_some, ↓wO_map, ↓wO_bind, ↓w_var0, ↓w_varS, ↓w_eC, ↓w_e1, ↓w_l1, ↓w_e2, ↓w_l2, ↓w_b1, ↓w_b2, ↓w_eB, ↓w_eF, ↓w_lF, ↓w_eCall, ↓w_eLst, ↓w_aNil, ↓w_aCons, ↓w_eTup, ↓w_lDisp, ↓w_eIf, ↓w_bAnd, ↓w_bOr, ↓w_bNot, ↓w_bYes, ↓w_bChain, ↓w_eAnd, ↓w_eOr, ↓w_iAny, ↓w_oNone, ↓w_oSomeC, ↓w_eSl, ↓w_lSlG, ↓w_lComp, ↓w_sSeq, ↓w_sNil, ↓w_sBreak, ↓w_sCont, ↓w_sSet, ↓w_sSetL, ↓w_sExpr, ↓w_sRet, ↓w_sRetN, ↓w_sIf, ↓w_own0, ↓w_ownS, ↓w_sRetO, ↓w_sApp, ↓w_sSetIx, ↓w_sFrz, ↓w_sThen, ↓w_sRaise, ↓w_sAsg, ↓w_sFor, ↓w_sTry, ↓t_name, ↓t_nil, ↓t_cons, ↓o_plus, ↓o_plusL, ↓o_lAdd, ↓o_sub, ↓o_neg, ↓o_mul, ↓o_fdiv, ↓o_mod, ↓o_pow, ↓o_lt, ↓o_le, ↓o_gt, ↓o_ge, ↓o_eq, ↓o_ne, ↓o_truthB, ↓o_truthI, ↓o_truthN, ↓o_truthL, ↓o_truthT, ↓o_truthS, ↓o_notB, ↓o_isNN, ↓o_isBT, ↓o_isBF, ↓o_isT, ↓o_isIB, ↓o_isSB, ↓o_isLB, ↓o_isTB, ↓o_isNB, ↓o_isNot, ↓o_lenL, ↓o_lenT, ↓o_lenS, ↓o_abs, ↓o_intI, ↓o_intB, ↓o_str, ↓o_gcd, ↓o_list, ↓o_listT, ↓o_tuple, ↓o_tupleT, ↓o_rev, ↓o_type, ↓o_isi, ↓o_isi2, ↓o_rg1, ↓o_rg2, ↓o_zip, ↓o_zipT, ↓o_itemsL, ↓o_itemsT, ↓o_ixL, ↓o_ixT, ↓o_at0, ↓o_at1, ↓o_at2, ↓o_at3, ↓o_at4, ↓o_at5, ↓o_at6, ↓o_at7, ↓o_at8, ↓o_at9, ↓o_at10, ↓o_at11, ↓o_at12, ↓o_at13, ↓o_at14, ↓o_at15, ↓w_eIxO, ↓t_tup1, ↓t_tup2, ↓t_tup3, ↓t_tup9, ↓w_okOnly, ↓w_compN, ↓w_compC, ↓o_all, ↓o_any, ↓bls_nil, ↓bls_cons, ↓o_minL, ↓o_maxL, ↓o_sumL, ↓ints_nil, ↓ints_cons, ↓o_min3, ↓o_max3, ↓o_slL, ↓o_slT, ↓w_eBor, ↓w_bBor, o_isN, w_runF, tyName, isSubTy, tyNames, List.getElem?_cons_zero, List.getElem?_cons_succ, List.set_cons_zero, List.set_cons_succ, List.map_cons, List.map_nil, List.replicate_succ, List.replicate_zero, List.length_cons, List.length_nil, List.cons_append, List.nil_append, Nat.reduceAdd, Nat.reduceSub, Nat.reduceLeDiff, Nat.reduceEqDiff, reduceIte, if_true, if_false, Bool.not_true, Bool.not_false, Bool.true_and, Bool.and_true, Bool.false_and, Bool.and_false, Bool.true_or, Bool.false_or, Bool.or_true, Bool.or_false, reduceCtorEq, decide_true, decide_false, beq_self_eq_true, List.mem_cons, true_or, or_true, true_and, and_true, false_and, and_false, or_false, false_or, String.reduceEq, String.reduceBEq, List.not_mem_nil, Bool.not_eq_true, Bool.false_eq_true, eq_self, not_true_eq_false, not_false_eq_true, Bool.not_eq_eq_eq_not, decide_eq_true_eq, decide_eq_false_iff_not, bne_iff_ne, ne_eq, Int.reduceLT, Int.reduceLE, Int.reduceMul, Int.reduceAdd, Int.reduceNeg, Int.reduceToNat, Int.reducePow, Nat.reduceLT, Int.reduceEq, Int.reduceSub, zipD, List.zipWith_cons_cons, List.zipWith_nil_left, List.zipWith_nil_right, List.all_cons, List.all_nil, id_eq, scalD, borE, wipeE, noOwn, sz_0, szl_0, sz_1, szl_1, sz_2, szl_2, sz_3, szl_3, sz_4, szl_4, sz_5, szl_5, sz_6, szl_6, sz_7, szl_7, sz_8, szl_8, sz_9, szl_9, sz_10, szl_10, sz_11, szl_11, sz_12, szl_12, sz_13, szl_13, sz_14, szl_14, sz_15, szl_15, sz_16, szl_16, sz_17, szl_17, sz_18, szl_18, sz_19, szl_19, sz_20, szl_20, sz_21, szl_21, sz_22, szl_22, sz_23, szl_23, sz_24, szl_24, sz_25, szl_25, sz_26, szl_26, sz_27, szl_27, sz_28, szl_28, sz_29, szl_29, sz_30, szl_30, sz_31, szl_31, sz_32, szl_32, frz, List.all_cons, List.all_nil]
    | bl b => cases b <;> simp only [m__law_same, g__law_same, ↓wR_ok, ↓wR_err, ↓wR_bind, ↓wR_of, ↓wO_some, ↓wO_map, ↓wO_bind, ↓w_var0, ↓w_varS, ↓w_eC, ↓w_e1, ↓w_l1, ↓w_e2, ↓w_l2, ↓w_b1, ↓w_b2, ↓w_eB, ↓w_eF, ↓w_lF, ↓w_eCall, ↓w_eLst, ↓w_aNil, ↓w_aCons, ↓w_eTup, ↓w_lDisp, ↓w_eIf, ↓w_bAnd, ↓w_bOr, ↓w_bNot, ↓w_bYes, ↓w_bChain, ↓w_eAnd, ↓w_eOr, ↓w_iAny, ↓w_oNone, ↓w_oSomeC, ↓w_eSl, ↓w_lSlG, ↓w_lComp, ↓w_sSeq, ↓w_sNil, ↓w_sBreak, ↓w_sCont, ↓w_sSet, ↓w_sSetL, ↓w_sExpr, ↓w_sRet, ↓w_sRetN, ↓w_sIf, ↓w_own0, ↓w_ownS, ↓w_sRetO, ↓w_sApp, ↓w_sSetIx, ↓w_sFrz, ↓w_sThen, ↓w_sRaise, ↓w_sAsg, ↓w_sFor, ↓w_sTry, ↓t_name, ↓t_nil, ↓t_cons, ↓o_plus, ↓o_plusL, ↓o_lAdd, ↓o_sub, ↓o_neg, ↓o_mul, ↓o_fdiv, ↓o_mod, ↓o_pow, ↓o_lt, ↓o_le, ↓o_gt, ↓o_ge, ↓o_eq, ↓o_ne, ↓o_truthB, ↓o_truthI, ↓o_truthN, ↓o_truthL, ↓o_truthT, ↓o_truthS, ↓o_notB, ↓o_isNN, ↓o_isBT, ↓o_isBF, ↓o_isT, ↓o_isIB, ↓o_isSB, ↓o_isLB, ↓o_isTB, ↓o_isNB, ↓o_isNot, ↓o_lenL, ↓o_lenT, ↓o_lenS, ↓o_abs, ↓o_intI, ↓o_intB, ↓o_str, ↓o_gcd, ↓o_list, ↓o_listT, ↓o_tuple, ↓o_tupleT, ↓o_rev, ↓o_type, ↓o_isi, ↓o_isi2, ↓o_rg1, ↓o_rg2, ↓o_zip, ↓o_zipT, ↓o_itemsL, ↓o_itemsT, ↓o_ixL, ↓o_ixT, ↓o_at0, ↓o_at1, ↓o_at2, ↓o_at3, ↓o_at4, ↓o_at5, ↓o_at6, ↓o_at7, ↓o_at8, ↓o_at9, ↓o_at10, ↓o_at11, ↓o_at12, ↓o_at13, ↓o_at14, ↓o_at15, ↓w_eIxO, ↓t_tup1, ↓t_tup2, ↓t_tup3, ↓t_tup9, ↓w_okOnly, ↓w_compN, ↓w_compC, ↓o_all, ↓o_any, ↓bls_nil, ↓bls_cons, ↓o_minL, ↓o_maxL, ↓o_sumL, ↓ints_nil, ↓ints_cons, ↓o_min3, ↓o_max3, ↓o_slL, ↓o_slT, ↓w_eBor, ↓w_bBor, o_isN, w_runF, tyName, isSubTy, tyNames, List.getElem?_cons_zero, List.getElem?_cons_succ, List.set_cons_zero, List.set_cons_succ, List.map_cons, List.map_nil, List.replicate_succ, List.replicate_zero, List.length_cons, List.length_nil, List.cons_append, List.nil_append, Nat.reduceAdd, Nat.reduceSub, Nat.reduceLeDiff, Nat.reduceEqDiff, reduceIte, if_true, if_false, Bool.not_true, Bool.not_false, Bool.true_and, Bool.and_true, Bool.false_and, Bool.and_false, Bool.true_or, Bool.false_or, Bool.or_true, Bool.or_false, reduceCtorEq, decide_true, decide_false, beq_self_eq_true, List.mem_cons, true_or, or_true, true_and, and_true, false_and, and_false, or_false, false_or, String.reduceEq, String.reduceBEq, List.not_mem_nil, Bool.not_eq_true, Bool.false_eq_true, eq_self, not_true_eq_false, not_false_eq_true, Bool.not_eq_eq_eq_not, decide_eq_true_eq, decide_eq_false_iff_not, bne_iff_ne, ne_eq, Int.reduceLT, Int.reduceLE, Int.reduceMul, Int.reduceAdd, Int.reduceNeg, Int.reduceToNat, Int.reducePow, Nat.reduceLT, Int.reduceEq, Int.reduceSub, zipD, List.zipWith_cons_cons, List.zipWith_nil_left, List.zipWith_nil_right, List.all_cons, List.all_nil, id_eq, scalD, borE, wipeE, noOwn, sz_0, szl_0, sz_1, szl_1, sz_2, szl_2, sz_3, szl_3, sz_4, szl_4, sz_5, szl_5, sz_6, szl_6, sz_7, szl_7, sz_8, szl_8, sz_9, szl_9, sz_10, szl_10, sz_11, szl_11, sz_12, szl_12, sz_13, szl_13, sz_14, szl_14, sz_15, szl_15, sz_16, szl_16, sz_17, szl_17, sz_18, szl_18, sz_19, szl_19, sz_20, szl_20, sz_21, szl_21, sz_22, szl_22, sz_23, szl_23, sz_24, szl_24, sz_25, szl_25, sz_26, szl_26, sz_27, szl_27, sz_28, szl_28, sz_29, szl_29, sz_30, szl_30, sz_31, szl_31, sz_32, szl_32, frz, List.all_cons, List.all_nil] <;> rfl
    | int i => simp only [m__law_same, g__law_same, ↓wR_ok, ↓wR_err, ↓wR_bind, ↓wR_of, ↓wO_some, ↓wO_map, ↓wO_bind, ↓w_var0, ↓w_varS, ↓w_eC, ↓w_e1, ↓w_l1, ↓w_e2, ↓w_l2, ↓w_b1, ↓w_b2, ↓w_eB, ↓w_eF, ↓w_lF, ↓w_eCall, ↓w_eLst, ↓w_aNil, ↓w_aCons, ↓w_eTup, ↓w_lDisp, ↓w_eIf, ↓w_bAnd, ↓w_bOr, ↓w_bNot, ↓w_bYes, ↓w_bChain, ↓w_eAnd, ↓w_eOr, ↓w_iAny, ↓w_oNone, ↓w_oSomeC, ↓w_eSl, ↓w_lSlG, ↓w_lComp, ↓w_sSeq, ↓w_sNil, ↓w_sBreak, ↓w_sCont, ↓w_sSet, ↓w_sSetL, ↓w_sExpr, ↓w_sRet, ↓w_sRetN, ↓w_sIf, ↓w_own0, ↓w_ownS, ↓w_sRetO, ↓w_sApp, ↓w_sSetIx, ↓w_sFrz, ↓w_sThen, ↓w_sRaise, ↓w_sAsg, ↓w_sFor, ↓w_sTry, ↓t_name, ↓t_nil, ↓t_cons, ↓o_plus, ↓o_plusL, ↓o_lAdd, ↓o_sub, ↓o_neg, ↓o_mul, ↓o_fdiv, ↓o_mod, ↓o_pow, ↓o_lt, ↓o_le, ↓o_gt, ↓o_ge, ↓o_eq, ↓o_ne, ↓o_truthB, ↓o_truthI, ↓o_truthN, ↓o_truthL, ↓o_truthT, ↓o_truthS, ↓o_notB, ↓o_isNN, ↓o_isBT, ↓o_isBF, ↓o_isT, ↓o_isIB, ↓o_isSB, ↓o_isLB, ↓o_isTB, ↓o_isNB, ↓o_isNot, ↓o_lenL, ↓o_lenT, ↓o_lenS, ↓o_abs, ↓o_intI, ↓o_intB, ↓o_str, ↓o_gcd, ↓o_list, ↓o_listT, ↓o_tuple, ↓o_tupleT, ↓o_rev, ↓o_type, ↓o_isi, ↓o_isi2, ↓o_rg1, ↓o_rg2, ↓o_zip, ↓o_zipT, ↓o_itemsL, ↓o_itemsT, ↓o_ixL, ↓o_ixT, ↓o_at0, ↓o_at1, ↓o_at2, ↓o_at3, ↓o_at4, ↓o_at5, ↓o_at6, ↓o_at7, ↓o_at8, ↓o_at9, ↓o_at10, ↓o_at11, ↓o_at12, ↓o_at13, ↓o_at14, ↓o_at15, ↓w_eIxO, ↓t_tup1, ↓t_tup2, ↓t_tup3, ↓t_tup9, ↓w_okOnly, ↓w_compN, ↓w_compC, ↓o_all, ↓o_any, ↓bls_nil, ↓bls_cons, ↓o_minL, ↓o_maxL, ↓o_sumL, ↓ints_nil, ↓ints_cons, ↓o_min3, ↓o_max3, ↓o_slL, ↓o_slT, ↓w_eBor, ↓w_bBor, o_isN, w_runF, tyName, isSubTy, tyNames, List.getElem?_cons_zero, List.getElem?_cons_succ, List.set_cons_zero, List.set_cons_succ, List.map_cons, List.map_nil, List.replicate_succ, List.replicate_zero, List.length_cons, List.length_nil, List.cons_append, List.nil_append, Nat.reduceAdd, Nat.reduceSub, Nat.reduceLeDiff, Nat.reduceEqDiff, reduceIte, if_true, if_false, Bool.not_true, Bool.not_false, Bool.true_and, Bool.and_true, Bool.false_and, Bool.and_false, Bool.true_or, Bool.false_or, Bool.or_true, Bool.or_false, reduceCtorEq, decide_true, decide_false, beq_self_eq_true, List.mem_cons, true_or, or_true, true_and, and_true, false_and, and_false, or_false, false_or, String.reduceEq, String.reduceBEq, List.not_mem_nil, Bool.not_eq_true, Bool.false_eq_true, eq_self, not_true_eq_false, not_false_eq_true, Bool.not_eq_eq_eq_not, decide_eq_true_eq, decide_eq_false_iff_not, bne_iff_ne, ne_eq, Int.reduceLT, Int.reduceLE, Int.reduceMul, Int.reduceAdd, Int.reduceNeg, Int.reduceToNat, Int.reducePow, Nat.reduceLT, Int.reduceEq, Int.reduceSub, zipD, List.zipWith_cons_cons, List.zipWith_nil_left, List.zipWith_nil_right, List.all_cons, List.all_nil, id_eq, scalD, borE, wipeE, noOwn, sz_0, szl_0, sz_1, szl_1, sz_2, szl_2, sz_3, szl_3, sz_4, szl_4, sz_5, szl_5, sz_6, szl_6, sz_7, szl_7, sz_8, szl_8, sz_9, szl_9, sz_10, szl_10, sz_11, szl_11, sz_12, szl_12, sz_13, szl_13, sz_14, szl_14, sz_15, szl_15, sz_16, szl_16, sz_17, szl_17, sz_18, szl_18, sz_19, szl_19, sz_20, szl_20, sz_21, szl_21, sz_22, szl_22, sz_23, szl_23, sz_24, szl_24, sz_25, szl_25, sz_26, szl_26, sz_27, szl_27, sz_28, szl_28, sz_29, szl_29, sz_30, szl_30, sz_31, szl_31, sz_32, szl_32, frz, List.all_cons, List.all_nil]
    | str s => simp only [m__law_same, g__law_same, ↓wR_ok, ↓wR_err, ↓wR_bind, ↓wR_of, ↓wO_some, ↓wO_map, ↓wO_bind, ↓w_var0, ↓w_varS, ↓w_eC, ↓w_e1, ↓w_l1, ↓w_e2, ↓w_l2, ↓w_b1, ↓w_b2, ↓w_eB, ↓w_eF, ↓w_lF, ↓w_eCall, ↓w_eLst, ↓w_aNil, ↓w_aCons, ↓w_eTup, ↓w_lDisp, ↓w_eIf, ↓w_bAnd, ↓w_bOr, ↓w_bNot, ↓w_bYes, ↓w_bChain, ↓w_eAnd, ↓w_eOr, ↓w_iAny, ↓w_oNone, ↓w_oSomeC, ↓w_eSl, ↓w_lSlG, ↓w_lComp, ↓w_sSeq, ↓w_sNil, ↓w_sBreak, ↓w_sCont, ↓w_sSet, ↓w_sSetL, ↓w_sExpr, ↓w_sRet, ↓w_sRetN, ↓w_sIf, ↓w_own0, ↓w_ownS, ↓w_sRetO, ↓w_sApp, ↓w_sSetIx, ↓w_sFrz, ↓w_sThen, ↓w_sRaise, ↓w_sAsg, ↓w_sFor, ↓w_sTry, ↓t_name, ↓t_nil, ↓t_cons, ↓o_plus, ↓o_plusL, ↓o_lAdd, ↓o_sub, ↓o_neg, ↓o_mul, ↓o_fdiv, ↓o_mod, ↓o_pow, ↓o_lt, ↓o_le, ↓o_gt, ↓o_ge, ↓o_eq, ↓o_ne, ↓o_truthB, ↓o_truthI, ↓o_truthN, ↓o_truthL, ↓o_truthT, ↓o_truthS, ↓o_notB, ↓o_isNN, ↓o_isBT, ↓o_isBF, ↓o_isT, ↓o_isIB, ↓o_isSB, ↓o_isLB, ↓o_isTB, ↓o_isNB, ↓o_isNot, ↓o_lenL, ↓o_lenT, ↓o_lenS, ↓o_abs, ↓o_intI, ↓o_intB, ↓o_str, ↓o_gcd, ↓o_list, ↓o_listT, ↓o_tuple, ↓o_tupleT, ↓o_rev, ↓o_type, ↓o_isi, ↓o_isi2, ↓o_rg1, ↓o_rg2, ↓o_zip, ↓o_zipT, ↓o_itemsL, ↓o_itemsT, ↓o_ixL, ↓o_ixT, ↓o_at0, ↓o_at1, ↓o_at2, ↓o_at3, ↓o_at4, ↓o_at5, ↓o_at6, ↓o_at7, ↓o_at8, ↓o_at9, ↓o_at10, ↓o_at11, ↓o_at12, ↓o_at13, ↓o_at14, ↓o_at15, ↓w_eIxO, ↓t_tup1, ↓t_tup2, ↓t_tup3, ↓t_tup9, ↓w_okOnly, ↓w_compN, ↓w_compC, ↓o_all, ↓o_any, ↓bls_nil, ↓bls_cons, ↓o_minL, ↓o_maxL, ↓o_sumL, ↓ints_nil, ↓ints_cons, ↓o_min3, ↓o_max3, ↓o_slL, ↓o_slT, ↓w_eBor, ↓w_bBor, o_isN, w_runF, tyName, isSubTy, tyNames, List.getElem?_cons_zero, List.getElem?_cons_succ, List.set_cons_zero, List.set_cons_succ, List.map_cons, List.map_nil, List.replicate_succ, List.replicate_zero, List.length_cons, List.length_nil, List.cons_append, List.nil_append, Nat.reduceAdd, Nat.reduceSub, Nat.reduceLeDiff, Nat.reduceEqDiff, reduceIte, if_true, if_false, Bool.not_true, Bool.not_false, Bool.true_and, Bool.and_true, Bool.false_and, Bool.and_false, Bool.true_or, Bool.false_or, Bool.or_true, Bool.or_false, reduceCtorEq, decide_true, decide_false, beq_self_eq_true, List.mem_cons, true_or, or_true, true_and, and_true, false_and, and_false, or_false, false_or, String.reduceEq, String.reduceBEq, List.not_mem_nil, Bool.not_eq_true, Bool.false_eq_true, eq_self, not_true_eq_false, not_false_eq_true, Bool.not_eq_eq_eq_not, decide_eq_true_eq, decide_eq_false_iff_not, bne_iff_ne, ne_eq, Int.reduceLT, Int.reduceLE, Int.reduceMul, Int.reduceAdd, Int.reduceNeg, Int.reduceToNat, Int.reducePow, Nat.reduceLT, Int.reduceEq, Int.reduceSub, zipD, List.zipWith_cons_cons, List.zipWith_nil_left, List.zipWith_nil_right, List.all_cons, List.all_nil, id_eq, scalD, borE, wipeE, noOwn, sz_0, szl_0, sz_1, szl_1, sz_2, szl_2, sz_3, szl_3, sz_4, szl_4, sz_5, szl_5, sz_6, szl_6, sz_7, szl_7, sz_8, szl_8, sz_9, szl_9, sz_10, szl_10, sz_11, szl_11, sz_12, szl_12, sz_13, szl_13, sz_14, szl_14, sz_15, szl_15, sz_16, szl_16, sz_17, szl_17, sz_18, szl_18, sz_19, szl_19, sz_20, szl_20, sz_21, szl_21, sz_22, szl_22, sz_23, szl_23, sz_24, szl_24, sz_25, szl_25, sz_26, szl_26, sz_27, szl_27, sz_28, szl_28, sz_29, szl_29, sz_30, szl_30, sz_31, szl_31, sz_32, szl_32, frz, List.all_cons, List.all_nil, cEq_str]
    | ty n => cases h
    | tup xs =>
      have h : (decide (xs.length ≤ 1000000) && xs.all (okS k)) = true := h
      simp only [Bool.and_eq_true, decide_eq_true_eq] at h
      simp only [m__law_same, g__law_same, ↓wR_ok, ↓wR_err, ↓wR_bind, ↓wR_of, ↓wO_some, ↓wO_map, ↓wO_bind, ↓w_var0, ↓w_varS, ↓w_eC, ↓w_e1, ↓w_l1, ↓w_e2, ↓w_l2, ↓w_b1, ↓w_b2, ↓w_eB, ↓w_eF, ↓w_lF, ↓w_eCall, ↓w_eLst, ↓w_aNil, ↓w_aCons, ↓w_eTup, ↓w_lDisp, ↓w_eIf, ↓w_bAnd, ↓w_bOr, ↓w_bNot, ↓w_bYes, ↓w_bChain, ↓w_eAnd, ↓w_eOr, ↓w_iAny, ↓w_oNone, ↓w_oSomeC, ↓w_eSl, ↓w_lSlG, ↓w_lComp, ↓w_sSeq, ↓w_sNil, ↓w_sBreak, ↓w_sCont, ↓w_sSet, ↓w_sSetL, ↓w_sExpr, ↓w_sRet, ↓w_sRetN, ↓w_sIf, ↓w_own0, ↓w_ownS, ↓w_sRetO, ↓w_sApp, ↓w_sSetIx, ↓w_sFrz, ↓w_sThen, ↓w_sRaise, ↓w_sAsg, ↓w_sFor, ↓w_sTry, ↓t_name, ↓t_nil, ↓t_cons, ↓o_plus, ↓o_plusL, ↓o_lAdd, ↓o_sub, ↓o_neg, ↓o_mul, ↓o_fdiv, ↓o_mod, ↓o_pow, ↓o_lt, ↓o_le, ↓o_gt, ↓o_ge, ↓o_eq, ↓o_ne, ↓o_truthB, ↓o_truthI, ↓o_truthN, ↓o_truthL, ↓o_truthT, ↓o_truthS, ↓o_notB, ↓o_isNN, ↓o_isBT, ↓o_isBF, ↓o_isT, ↓o_isIB, ↓o_isSB, ↓o_isLB, ↓o_isTB, ↓o_isNB, ↓o_isNot, ↓o_lenL, ↓o_lenT, ↓o_lenS, ↓o_abs, ↓o_intI, ↓o_intB, ↓o_str, ↓o_gcd, ↓o_list, ↓o_listT, ↓o_tuple, ↓o_tupleT, ↓o_rev, ↓o_type, ↓o_isi, ↓o_isi2, ↓o_rg1, ↓o_rg2, ↓o_zip, ↓o_zipT, ↓o_itemsL, ↓o_itemsT, ↓o_ixL, ↓o_ixT, ↓o_at0, ↓o_at1, ↓o_at2, ↓o_at3, ↓o_at4, ↓o_at5, ↓o_at6, ↓o_at7, ↓o_at8, ↓o_at9, ↓o_at10, ↓o_at11, ↓o_at12, ↓o_at13, ↓o_at14, ↓o_at15, ↓w_eIxO, ↓t_tup1, ↓t_tup2, ↓t_tup3, ↓t_tup9, ↓w_okOnly, ↓w_compN, ↓w_compC, ↓o_all, ↓o_any, ↓bls_nil, ↓bls_cons, ↓o_minL, ↓o_maxL, ↓o_sumL, ↓ints_nil, ↓ints_cons, ↓o_min3, ↓o_max3, ↓o_slL, ↓o_slT, ↓w_eBor, ↓w_bBor, o_isN, w_runF, tyName, isSubTy, tyNames, List.getElem?_cons_zero, List.getElem?_cons_succ, List.set_cons_zero, List.set_cons_succ, List.map_cons, List.map_nil, List.replicate_succ, List.replicate_zero, List.length_cons, List.length_nil, List.cons_append, List.nil_append, Nat.reduceAdd, Nat.reduceSub, Nat.reduceLeDiff, Nat.reduceEqDiff, reduceIte, if_true, if_false, Bool.not_true, Bool.not_false, Bool.true_and, Bool.and_true, Bool.false_and, Bool.and_false, Bool.true_or, Bool.false_or, Bool.or_true, Bool.or_false, reduceCtorEq, decide_true, decide_false, beq_self_eq_true, List.mem_cons, true_or, or_true, true_and, and_true, false_and, and_false, or_false, false_or, String.reduceEq, String.reduceBEq, List.not_mem_nil, Bool.not_eq_true, Bool.false_eq_true, eq_self, not_true_eq_false, not_false_eq_true, Bool.not_eq_eq_eq_not, decide_eq_true_eq, decide_eq_false_iff_not, bne_iff_ne, ne_eq, Int.reduceLT, Int.reduceLE, Int.reduceMul, Int.reduceAdd, Int.reduceNeg, Int.reduceToNat, Int.reducePow, Nat.reduceLT, Int.reduceEq, Int.reduceSub, zipD, List.zipWith_cons_cons, List.zipWith_nil_left, List.zipWith_nil_right, List.all_cons, List.all_nil, id_eq, scalD, borE, wipeE, noOwn, sz_0, szl_0, sz_1, szl_1, sz_2, szl_2, sz_3, szl_3, sz_4, szl_4, sz_5, szl_5, sz_6, szl_6, sz_7, szl_7, sz_8, szl_8, sz_9, szl_9, sz_10, szl_10, sz_11, szl_11, sz_12, szl_12, sz_13, szl_13, sz_14, szl_14, sz_15, szl_15, sz_16, szl_16, sz_17, szl_17, sz_18, szl_18, sz_19, szl_19, sz_20, szl_20, sz_21, szl_21, sz_22, szl_22, sz_23, szl_23, sz_24, szl_24, sz_25, szl_25, sz_26, szl_26, sz_27, szl_27, sz_28, szl_28, sz_29, szl_29, sz_30, szl_30, sz_31, szl_31, sz_32, szl_32, frz, List.all_cons, List.all_nil]
      exact ⟨⟨by omega, by omega⟩, loop xs _ (fun Q i => rfl) h.1 h.2 _ _ _ _ _⟩
    | lst xs =>
      have h : (decide (xs.length ≤ 1000000) && xs.all (okS k)) = true := h
      simp only [Bool.and_eq_true, decide_eq_true_eq] at h
      simp only [m__law_same, g__law_same, ↓wR_ok, ↓wR_err, ↓wR_bind, ↓wR_of, ↓wO_some, ↓wO_map, ↓wO_bind, ↓w_var0, ↓w_varS, ↓w_eC, ↓w_e1, ↓w_l1, ↓w_e2, ↓w_l2, ↓w_b1, ↓w_b2, ↓w_eB, ↓w_eF, ↓w_lF, ↓w_eCall, ↓w_eLst, ↓w_aNil, ↓w_aCons, ↓w_eTup, ↓w_lDisp, ↓w_eIf, ↓w_bAnd, ↓w_bOr, ↓w_bNot, ↓w_bYes, ↓w_bChain, ↓w_eAnd, ↓w_eOr, ↓w_iAny, ↓w_oNone, ↓w_oSomeC, ↓w_eSl, ↓w_lSlG, ↓w_lComp, ↓w_sSeq, ↓w_sNil, ↓w_sBreak, ↓w_sCont, ↓w_sSet, ↓w_sSetL, ↓w_sExpr, ↓w_sRet, ↓w_sRetN, ↓w_sIf, ↓w_own0, ↓w_ownS, ↓w_sRetO, ↓w_sApp, ↓w_sSetIx, ↓w_sFrz, ↓w_sThen, ↓w_sRaise, ↓w_sAsg, ↓w_sFor, ↓w_sTry, ↓t_name, ↓t_nil, ↓t_cons, ↓o_plus, ↓o_plusL, ↓o_lAdd, ↓o_sub, ↓o_neg, ↓o_mul, ↓o_fdiv, ↓o_mod, ↓o_pow, ↓o_lt, ↓o_le, ↓o_gt, ↓o_ge, ↓o_eq, ↓o_ne, ↓o_truthB, ↓o_truthI, ↓o_truthN, ↓o_truthL, ↓o_truthT, ↓o_truthS, ↓o_notB, ↓o_isNN, ↓o_isBT, ↓o_isBF, ↓o_isT, ↓o_isIB, ↓o_isSB, ↓o_isLB, ↓o_isTB, ↓o_isNB, ↓o_isNot, ↓o_lenL, ↓o_lenT, ↓o_lenS, ↓o_abs, ↓o_intI, ↓o_intB, ↓o_str, ↓o_gcd, ↓o_list, ↓o_listT, ↓o_tuple, ↓o_tupleT, ↓o_rev, ↓o_type, ↓o_isi, ↓o_isi2, ↓o_rg1, ↓o_rg2, ↓o_zip, ↓o_zipT, ↓o_itemsL, ↓o_itemsT, ↓o_ixL, ↓o_ixT, ↓o_at0, ↓o_at1, ↓o_at2, ↓o_at3, ↓o_at4, ↓o_at5, ↓o_at6, ↓o_at7, ↓o_at8, ↓o_at9, ↓o_at10, ↓o_at11, ↓o_at12, ↓o_at13, ↓o_at14, ↓o_at15, ↓w_eIxO, ↓t_tup1, ↓t_tup2, ↓t_tup3, ↓t_tup9, ↓w_okOnly, ↓w_compN, ↓w_compC, ↓o_all, ↓o_any, ↓bls_nil, ↓bls_cons, ↓o_minL, ↓o_maxL, ↓o_sumL, ↓ints_nil, ↓ints_cons, ↓o_min3, ↓o_max3, ↓o_slL, ↓o_slT, ↓w_eBor, ↓w_bBor, o_isN, w_runF, tyName, isSubTy, tyNames, List.getElem?_cons_zero, List.getElem?_cons_succ, List.set_cons_zero, List.set_cons_succ, List.map_cons, List.map_nil, List.replicate_succ, List.replicate_zero, List.length_cons, List.length_nil, List.cons_append, List.nil_append, Nat.reduceAdd, Nat.reduceSub, Nat.reduceLeDiff, Nat.reduceEqDiff, reduceIte, if_true, if_false, Bool.not_true, Bool.not_false, Bool.true_and, Bool.and_true, Bool.false_and, Bool.and_false, Bool.true_or, Bool.false_or, Bool.or_true, Bool.or_false, reduceCtorEq, decide_true, decide_false, beq_self_eq_true, List.mem_cons, true_or, or_true, true_and, and_true, false_and, and_false, or_false, false_or, String.reduceEq, String.reduceBEq, List.not_mem_nil, Bool.not_eq_true, Bool.false_eq_true, eq_self, not_true_eq_false, not_false_eq_true, Bool.not_eq_eq_eq_not, decide_eq_true_eq, decide_eq_false_iff_not, bne_iff_ne, ne_eq, Int.reduceLT, Int.reduceLE, Int.reduceMul, Int.reduceAdd, Int.reduceNeg, Int.reduceToNat, Int.reducePow, Nat.reduceLT, Int.reduceEq, Int.reduceSub, zipD, List.zipWith_cons_cons, List.zipWith_nil_left, List.zipWith_nil_right, List.all_cons, List.all_nil, id_eq, scalD, borE, wipeE, noOwn, sz_0, szl_0, sz_1, szl_1, sz_2, szl_2, sz_3, szl_3, sz_4, szl_4, sz_5, szl_5, sz_6, szl_6, sz_7, szl_7, sz_8, szl_8, sz_9, szl_9, sz_10, szl_10, sz_11, szl_11, sz_12, szl_12, sz_13, szl_13, sz_14, szl_14, sz_15, szl_15, sz_16, szl_16, sz_17, szl_17, sz_18, szl_18, sz_19, szl_19, sz_20, szl_20, sz_21, szl_21, sz_22, szl_22, sz_23, szl_23, sz_24, szl_24, sz_25, szl_25, sz_26, szl_26, sz_27, szl_27, sz_28, szl_28, sz_29, szl_29, sz_30, szl_30, sz_31, szl_31, sz_32, szl_32, frz, List.all_cons, List.all_nil]
      exact ⟨⟨by omega, by omega⟩, loop xs _ (fun Q i => rfl) h.1 h.2 _ _ _ _ _⟩
end AF

set_option exponentiation.threshold 20000
namespace AF
open PySem PySem.Spec PyProof.Rows L2

/-! ### ratios in lowest terms are the rationals -/
def rq (x : Rat) : D := .tup [.int x.num, .int x.den]
def shOf (p q : Int) : Int := if 0 < q then ((Nat.gcd p.natAbs q.natAbs : Nat) : Int) else -((Nat.gcd p.natAbs q.natAbs : Nat) : Int)
theorem low_ok (p q : Int) (hq : q ≠ 0) : p.fdiv (shOf p q) = (Rat.divInt p q).num ∧ q.fdiv (shOf p q) = ((Rat.divInt p q).den : Int) := by
  have hg : Nat.gcd p.natAbs q.natAbs ≠ 0 := by
    intro h
    have := Nat.eq_zero_of_gcd_eq_zero_right h
    omega
  obtain ⟨a, ha⟩ : ((Nat.gcd p.natAbs q.natAbs : Nat) : Int) ∣ p := Int.ofNat_dvd_left.mpr (Nat.gcd_dvd_left _ _)
  obtain ⟨b, hb⟩ : ((Nat.gcd p.natAbs q.natAbs : Nat) : Int) ∣ q := Int.ofNat_dvd_left.mpr (Nat.gcd_dvd_right _ _)
  have hgc : q.gcd p = Nat.gcd p.natAbs q.natAbs := Nat.gcd_comm _ _
  rw [Rat.num_divInt, Rat.den_divInt, if_neg hq, hgc]
  unfold shOf
  generalize Nat.gcd p.natAbs q.natAbs = g at *
  have hgz : (g : Int) ≠ 0 := by omega
  have e1 : q.natAbs / g = b.natAbs := by
    rw [hb, Int.natAbs_mul, Int.natAbs_natCast]
    exact Nat.mul_div_cancel_left _ (by omega)
  rw [e1]
  by_cases h : 0 < q
  · rw [if_pos h]
    have hb0 : 0 < b := by
      rw [hb] at h
      by_cases hb' : 0 < b
      · exact hb'
      · have : 0 ≤ (g : Int) * (-b) := Int.mul_nonneg (by omega) (by omega)
        rw [Int.mul_neg] at this
        omega
    rw [Int.sign_eq_one_of_pos h, Int.one_mul]
    constructor
    · rw [ha, Int.mul_fdiv_cancel_left _ hgz, Int.mul_ediv_cancel_left _ hgz]
    · rw [hb, Int.mul_fdiv_cancel_left _ hgz]
      omega
  · rw [if_neg h]
    have hq0 : q < 0 := by omega
    have hb0 : b < 0 := by
      rw [hb] at hq0
      by_cases hb' : b < 0
      · exact hb'
      · have : 0 ≤ (g : Int) * b := Int.mul_nonneg (by omega) (by omega)
        omega
    rw [Int.sign_eq_neg_one_of_neg hq0]
    constructor
    · rw [show p = (-(g : Int)) * (-a) from by rw [Int.neg_mul_neg]; exact ha, Int.mul_fdiv_cancel_left _ (by omega)]
      rw [show (-1 : Int) * (-(g : Int) * -a) = (g : Int) * (-a) from by rw [Int.neg_mul_neg, Int.mul_neg, Int.neg_mul, Int.one_mul], Int.mul_ediv_cancel_left _ hgz]
    · rw [show q = (-(g : Int)) * (-b) from by rw [Int.neg_mul_neg]; exact hb, Int.mul_fdiv_cancel_left _ (by omega)]
      omega
def Bd (x : Rat) : Prop := x.num.natAbs < 2 ^ 1000 ∧ x.den < 2 ^ 1000
theorem sm_of {i : Int} (h : i.natAbs < 2 ^ 3000) : Sm i := Sm.of h (by decide)
theorem s9_of {i : Int} (h0 : i ≠ 0) (h : i.natAbs < 2 ^ 3000) : S9 i := S9.of h0 h (by decide)
theorem mul_lt {x y : Int} {a b : Nat} (h1 : x.natAbs < 2 ^ a) (h2 : y.natAbs < 2 ^ b) : (x * y).natAbs < 2 ^ (a + b) := by
  rw [Int.natAbs_mul, Nat.pow_add]
  exact Nat.mul_lt_mul'' h1 h2
theorem add_lt {x y : Int} {a : Nat} (h1 : x.natAbs < 2 ^ a) (h2 : y.natAbs < 2 ^ a) : (x + y).natAbs < 2 ^ (a + 1) := by
  have := Int.natAbs_add_le x y
  rw [Nat.pow_succ]
  omega
theorem sub_lt {x y : Int} {a : Nat} (h1 : x.natAbs < 2 ^ a) (h2 : y.natAbs < 2 ^ a) : (x - y).natAbs < 2 ^ (a + 1) := by
  have := Int.natAbs_sub_le x y
  rw [Nat.pow_succ]
  omega
theorem lt_up {x : Int} {a b : Nat} (h : x.natAbs < 2 ^ a) (hab : a ≤ b) : x.natAbs < 2 ^ b := Nat.lt_of_lt_of_le h (Nat.pow_le_pow_right (by decide) hab)
theorem sh_ne {p q : Int} (hq : q ≠ 0) : shOf p q ≠ 0 := by
  have hg : Nat.gcd p.natAbs q.natAbs ≠ 0 := by
    intro h
    have := Nat.eq_zero_of_gcd_eq_zero_right h
    omega
  unfold shOf
  split <;> omega
theorem sh_le {p q : Int} (hq : q ≠ 0) : (shOf p q).natAbs ≤ q.natAbs := by
  have : Nat.gcd p.natAbs q.natAbs ≤ q.natAbs := Nat.gcd_le_right _ (by omega)
  unfold shOf
  split <;> omega
theorem den_ne (x : Rat) : (x.den : Int) ≠ 0 := by have := x.den_nz; omega
theorem den_mul_ne (x y : Rat) : (x.den : Int) * (y.den : Int) ≠ 0 := Int.mul_ne_zero (den_ne x) (den_ne y)
theorem plus_eq (x y : Rat) : Rat.divInt (x.num * y.den + y.num * x.den) (x.den * y.den) = x + y := by
  rw [Rat.add_def', ← Rat.divInt_ofNat]
  simp
theorem minus_eq (x y : Rat) : Rat.divInt (x.num * y.den - y.num * x.den) (x.den * y.den) = x - y := by
  rw [Rat.sub_def', ← Rat.divInt_ofNat]
  simp
theorem times_eq (x y : Rat) : Rat.divInt (x.num * y.num) (x.den * y.den) = x * y := by
  rw [Rat.mul_def', ← Rat.divInt_ofNat]
  simp
theorem over_eq (x y : Rat) : Rat.divInt (x.num * y.den) (x.den * y.num) = x * y⁻¹ := by
  rw [Rat.inv_def, ← Rat.divInt_mul_divInt, Rat.num_divInt_den]
/-! ### bounds -/
/-- x is of the L-ths, and at most M in size -/
def Ov (L M : Nat) (x : Rat) : Prop := ∃ n : Int, x = mkRat n L ∧ n.natAbs ≤ M * L
theorem Ov.add {L M M' : Nat} {x y : Rat} (hL : L ≠ 0) (h : Ov L M x) (h' : Ov L M' y) : Ov L (M + M') (x + y) := by
  obtain ⟨n, rfl, h1⟩ := h
  obtain ⟨m, rfl, h2⟩ := h'
  refine ⟨n + m, ?_, ?_⟩
  · rw [Rat.mkRat_add_mkRat _ _ hL hL, ← Int.add_mul, Rat.mkRat_mul_right hL]
  · have := Int.natAbs_add_le n m
    rw [Nat.add_mul]
    omega
theorem Ov.zero {L : Nat} : Ov L 0 0 := ⟨0, by simp, by simp⟩
theorem Ov.mono {L M M' : Nat} {x : Rat} (h : Ov L M x) (hM : M ≤ M') : Ov L M' x := by
  obtain ⟨n, e, h1⟩ := h
  exact ⟨n, e, Nat.le_trans h1 (Nat.mul_le_mul_right _ hM)⟩
theorem Ov.den_dvd {L M : Nat} {x : Rat} (hL : L ≠ 0) (h : Ov L M x) : x.den ∣ L := by
  obtain ⟨n, rfl, _⟩ := h
  rw [Rat.den_mkRat, if_neg hL]
  exact Nat.div_dvd_of_dvd (Nat.gcd_dvd_left _ _)
theorem Ov.den_le {L M : Nat} {x : Rat} (hL : L ≠ 0) (h : Ov L M x) : x.den ≤ L := Nat.le_of_dvd (by omega) (h.den_dvd hL)
theorem Ov.num_le {L M : Nat} {x : Rat} (hL : L ≠ 0) (h : Ov L M x) : x.num.natAbs ≤ M * L := by
  obtain ⟨n, rfl, h1⟩ := h
  refine Nat.le_trans ?_ h1
  rw [Rat.num_mkRat, if_neg hL]
  exact Int.natAbs_ediv_le_natAbs _ _
theorem Ov.of {L : Nat} {x : Rat} (h : x.den ∣ L) (hL : L ≠ 0) : Ov L x.num.natAbs x := by
  obtain ⟨c, hc⟩ := h
  have hc0 : c ≠ 0 := by
    intro e
    subst e
    simp at hc
    omega
  refine ⟨x.num * c, ?_, ?_⟩
  · rw [hc, Rat.mkRat_mul_right hc0, Rat.mkRat_self]
  · rw [Int.natAbs_mul, Int.natAbs_natCast]
    refine Nat.mul_le_mul_left _ ?_
    rw [hc]
    exact Nat.le_mul_of_pos_left _ (Nat.pos_of_ne_zero x.den_nz)
end AF

namespace AF
open PySem PySem.Spec PyProof.Rows L2
/-! ### lowest terms of a list -/
def gcdF (a : Nat) (ns : List Int) : Nat := ns.foldl (fun g n => Nat.gcd g n.natAbs) a
def gcdL (ns : List Int) : Nat := gcdF 0 ns
def prim (ns : List Int) : List Int := if 0 < gcdL ns then ns.map (fun n => n.fdiv (gcdL ns)) else ns
theorem gcdF_dvd : ∀ (ns : List Int) (a : Nat), gcdF a ns ∣ a ∧ ∀ n ∈ ns, (gcdF a ns : Int) ∣ n
  | [], a => ⟨Nat.dvd_refl _, by simp⟩
  | n :: ns, a => by
    have h := gcdF_dvd ns (Nat.gcd a n.natAbs)
    refine ⟨Nat.dvd_trans h.1 (Nat.gcd_dvd_left _ _), fun m hm => ?_⟩
    rcases List.mem_cons.mp hm with rfl | hm
    · exact Int.ofNat_dvd_left.mpr (Nat.dvd_trans h.1 (Nat.gcd_dvd_right _ _))
    · exact h.2 m hm
theorem gcdF_scale (k : Int) : ∀ (ns : List Int) (a : Nat), gcdF (k.natAbs * a) (ns.map (k * ·)) = k.natAbs * gcdF a ns
  | [], a => rfl
  | n :: ns, a => by
    show gcdF (Nat.gcd (k.natAbs * a) (k * n).natAbs) (ns.map (k * ·)) = k.natAbs * gcdF (Nat.gcd a n.natAbs) ns
    rw [Int.natAbs_mul, Nat.gcd_mul_left, gcdF_scale k ns]
theorem gcdL_scale (k : Int) (ns : List Int) : gcdL (ns.map (k * ·)) = k.natAbs * gcdL ns := by
  have := gcdF_scale k ns 0
  rwa [Nat.mul_zero] at this
theorem gcdL_dvd {ns : List Int} {n : Int} (h : n ∈ ns) : (gcdL ns : Int) ∣ n := (gcdF_dvd ns 0).2 n h
theorem gcdF_zero : ∀ (ns : List Int) (a : Nat), gcdF a ns = 0 ↔ a = 0 ∧ ∀ n ∈ ns, n = 0
  | [], a => by simp [gcdF]
  | n :: ns, a => by
    show gcdF (Nat.gcd a n.natAbs) ns = 0 ↔ _
    rw [gcdF_zero ns, Nat.gcd_eq_zero_iff, Int.natAbs_eq_zero]
    simp [and_assoc]
theorem gcdL_pos {ns : List Int} {n : Int} (h : n ∈ ns) (h0 : n ≠ 0) : 0 < gcdL ns := by
  rcases Nat.eq_zero_or_pos (gcdL ns) with e | e
  · exact absurd (((gcdF_zero ns 0).mp e).2 n h) h0
  · exact e
theorem gcdL_le {ns : List Int} {B : Nat} (h : ∀ n ∈ ns, n.natAbs < B) (hB : 0 < B) : gcdL ns < B := by
  by_cases h0 : ∀ n ∈ ns, n = 0
  · have : gcdL ns = 0 := (gcdF_zero ns 0).mpr ⟨rfl, h0⟩
    omega
  · have : ∃ n, n ∈ ns ∧ n ≠ 0 := by
      refine Classical.byContradiction fun q => h0 fun n hn => Classical.byContradiction fun z => q ⟨n, hn, z⟩
    obtain ⟨n, hn, hz⟩ := this
    have d := Int.ofNat_dvd_left.mp (gcdL_dvd hn)
    exact Nat.lt_of_le_of_lt (Nat.le_of_dvd (by omega) d) (h n hn)
theorem prim_len (ns : List Int) : (prim ns).length = ns.length := by
  unfold prim
  split <;> simp
/-- ns is g times its lowest terms -/
theorem prim_mul {ns : List Int} (h : 0 < gcdL ns) : (prim ns).map ((gcdL ns : Int) * ·) = ns := by
  unfold prim
  rw [if_pos h, List.map_map]
  have : ∀ n ∈ ns, ((fun x => (gcdL ns : Int) * x) ∘ fun n => n.fdiv (gcdL ns)) n = n := fun n hn => by
    obtain ⟨c, hc⟩ := gcdL_dvd hn
    show (gcdL ns : Int) * n.fdiv (gcdL ns) = n
    conv => lhs; rw [hc]
    rw [Int.mul_fdiv_cancel_left _ (by omega)]
    exact hc.symm
  rw [List.map_congr_left this, List.map_id']
theorem gcdL_prim {ns : List Int} (h : 0 < gcdL ns) : gcdL (prim ns) = 1 := by
  have e := prim_mul h
  have e2 := gcdL_scale (gcdL ns : Int) (prim ns)
  rw [e, Int.natAbs_natCast] at e2
  have : gcdL ns * 1 = gcdL ns * gcdL (prim ns) := by omega
  exact (Nat.eq_of_mul_eq_mul_left h this).symm
theorem prim_one {ns : List Int} (h : gcdL ns = 1) : prim ns = ns := by
  have e := prim_mul (ns := ns) (by omega)
  rw [h] at e
  simpa using e
theorem prim_scale {k : Int} (hk : 0 < k) (ns : List Int) : prim (ns.map (k * ·)) = prim ns := by
  have e := gcdL_scale k ns
  by_cases h : 0 < gcdL ns
  · have h2 : 0 < gcdL (ns.map (k * ·)) := by rw [e]; exact Nat.mul_pos (by omega) h
    unfold prim
    rw [if_pos h, if_pos h2, List.map_map]
    refine List.map_congr_left fun n hn => ?_
    obtain ⟨c, hc⟩ := gcdL_dvd hn
    show (k * n).fdiv (gcdL (ns.map (k * ·))) = n.fdiv (gcdL ns)
    have e' : ((gcdL (ns.map (k * ·)) : Nat) : Int) = k * (gcdL ns : Int) := by
      rw [e, Int.natCast_mul, Int.natAbs_of_nonneg (by omega)]
    rw [e']
    have hg : (gcdL ns : Int) ≠ 0 := by omega
    generalize (gcdL ns : Int) = g at hc hg ⊢
    subst hc
    rw [← Int.mul_assoc, Int.mul_fdiv_cancel_left _ (Int.mul_ne_zero (by omega) hg), Int.mul_fdiv_cancel_left _ hg]
  · have h0 : gcdL ns = 0 := by omega
    have hz := ((gcdF_zero ns 0).mp h0).2
    have h2 : ¬ 0 < gcdL (ns.map (k * ·)) := by rw [e, h0]; omega
    unfold prim
    rw [if_neg h, if_neg h2]
    refine (List.map_congr_left (g := id) fun n hn => ?_).trans (List.map_id _)
    rw [hz n hn]
    exact Int.mul_zero _
end AF

namespace AF
open PySem PySem.Spec PyProof.Rows L2
section
variable {env : En} {QD : D → Prop} {E : Er → Prop} {N : En → Prop} {R : D → Prop} {ES : Er → En → Prop} {B C : En → Prop} {p : GS} {a : GE}
theorem w_pin0 {d : D} {r : En} : wpR (eVar 0 (.pin d :: r)) QD E = QD d := propext Iff.rfl
theorem w_lent0 {ds : List D} {r : En} : wpR (eVar 0 (.lent ds :: r)) QD E = QD (.lst ds) := propext Iff.rfl
theorem w_sPin : wpS (sPin p env) N R ES B C = wpS (p (pinE env)) N R ES B C := propext Iff.rfl
theorem w_sLend {i : Nat} : wpS (sLend i p env) N R ES B C = wpS (p (lendE i env)) N R ES B C := propext Iff.rfl
theorem w_sAppP {i : Nat} : wpS (sAppP i a env) N R ES B C = (lentOk env i = true ∧ wpR (a env) (fun d => scalD d = true ∧ N (dropE env)) (fun e => ES e env)) := by
  unfold sAppP
  by_cases h : lentOk env i = true
  · rw [if_pos h, w_onOk]
    refine propext ⟨fun q => ⟨h, ?_⟩, fun q => ?_⟩
    · revert q
      cases a env with
      | ok d =>
        intro q
        have q : wpS (if scalD d = true then Out.next (dropE env) else .stuck) N R ES B C := q
        show scalD d = true ∧ N (dropE env)
        by_cases hs : scalD d = true
        · rw [if_pos hs] at q; exact ⟨hs, q⟩
        · rw [if_neg hs] at q; exact q.elim
      | err e => exact id
      | stuck => exact id
    · have q := q.2
      revert q
      cases a env with
      | ok d =>
        intro q
        have q : scalD d = true ∧ N (dropE env) := q
        show wpS (if scalD d = true then Out.next (dropE env) else .stuck) N R ES B C
        rw [if_pos q.1]
        exact q.2
      | err e => exact id
      | stuck => exact id
  · rw [if_neg h]
    exact propext ⟨fun q => q.elim, fun q => (h q.1).elim⟩
end
end AF

namespace AF
open PySem PySem.Spec PyProof.Rows L2
section
variable {env : En} {N B C : En → Prop} {R : D → Prop} {ES : Er → En → Prop} {p : GS} {g : GL}
def one1 (ds : List D) (Q : D → Prop) : Prop := match ds with
  | [d] => Q d
  | _ => False
theorem one1_one {d : D} {Q : D → Prop} : one1 [d] Q = Q d := rfl
theorem w_sRaise1 {x f : String} : wpS (sRaise1 x f g env) N R ES B C = wpR (g env) (fun ds => one1 ds fun d => ES (.one x f d) env) (fun e => ES e env) := by
  unfold sRaise1
  rw [w_onOk]
  congr 1
  funext ds
  match ds with
  | [] => rfl
  | [d] => rfl
  | _ :: _ :: _ => rfl
def fldOf (f : String) (R : D → Prop) : Er → Prop
  | .one _ f' d => f' = f ∧ R d
  | .plain _ => False
theorem w_sTryF {cat : List (String × Bool)} {i : Nat} {f : String} : wpS (sTryF cat i f p env) N R ES B C = wpS (p env) N R (fun e env' => match cat.lookup e.cls with
    | some true => i < env'.length ∧ fldOf f R e
    | some false => ES e env'
    | none => False) B C := by
  unfold sTryF
  cases p env <;> try rfl
  rename_i e env'
  show wpS (match cat.lookup e.cls with | some true => _ | some false => _ | none => _) _ _ _ _ _ = (match cat.lookup e.cls with | some true => _ | some false => _ | none => _)
  cases cat.lookup e.cls with
  | none => rfl
  | some b =>
    cases b with
    | false => rfl
    | true =>
      cases e with
      | plain y => exact propext ⟨fun h => h.elim, fun h => h.2.elim⟩
      | one y f' d =>
        show wpS (if f' = f ∧ i < env'.length then .ret d else .stuck) _ _ _ _ _ = (i < env'.length ∧ f' = f ∧ R d)
        by_cases h : f' = f ∧ i < env'.length
        · rw [if_pos h]; exact propext ⟨fun q => ⟨h.2, h.1, q⟩, fun q => q.2.2⟩
        · rw [if_neg h]; exact propext ⟨fun q => q.elim, fun q => (h ⟨q.2.1, q.1⟩).elim⟩
theorem w_sExt {i : Nat} : wpS (sExt i g env) N R ES B C = wOwn env i (fun ds => wpR (g env) (fun es => ds.length + es.length ≤ sizeLine ∧ N (env.set i (.own (ds ++ es)))) (fun e => ES e env)) := by
  unfold sExt
  rw [w_withOwn]
  congr 1
  funext ds
  rw [w_onOk]
  congr 1
  funext es
  by_cases h : ds.length + es.length ≤ sizeLine
  · rw [if_pos h]; exact propext ⟨fun q => ⟨h, q⟩, fun q => q.2⟩
  · rw [if_neg h]; exact propext ⟨fun q => q.elim, fun q => (h q.1).elim⟩
end
theorem o_any2L {xs : List D} {QD : D → Prop} : wpO (fAny2 [.lst xs]) QD = wpO (bls? xs) (fun bs => QD (.bl (bs.any id))) := wO_map
theorem o_any2T {xs : List D} {QD : D → Prop} : wpO (fAny2 [.tup xs]) QD = wpO (ints? xs) (fun ns => QD (.bl (ns.any (· != 0)))) := wO_map
theorem o_plusT {xs ys : List D} {QD : D → Prop} : wpO (dPlus (.tup xs) (.tup ys)) QD = (xs.length + ys.length ≤ sizeLine ∧ QD (.tup (xs ++ ys))) := by
  show wpO (match (if xs.length + ys.length ≤ sizeLine then some (D.tup (xs ++ ys)) else none : Option D) with | some z => some z | none => none) QD = _
  by_cases h : xs.length + ys.length ≤ sizeLine
  · rw [if_pos h]; exact propext ⟨fun q => ⟨h, q⟩, fun q => q.2⟩
  · rw [if_neg h]; exact propext ⟨fun q => q.elim, fun q => (h q.1).elim⟩
theorem o_plusS {xs ys : List Nat} {QD : D → Prop} : wpO (dPlus (.str xs) (.str ys)) QD = (xs.length + ys.length ≤ sizeLine ∧ QD (.str (xs ++ ys))) := by
  show wpO (match (if xs.length + ys.length ≤ sizeLine then some (D.str (xs ++ ys)) else none : Option D) with | some z => some z | none => none) QD = _
  by_cases h : xs.length + ys.length ≤ sizeLine
  · rw [if_pos h]; exact propext ⟨fun q => ⟨h, q⟩, fun q => q.2⟩
  · rw [if_neg h]; exact propext ⟨fun q => q.elim, fun q => (h q.1).elim⟩
theorem o_repS {s : List Nat} {k : Int} {QD : D → Prop} : wpO (dRepS (.str s) (.int k)) QD = ((0 ≤ k ∧ k ≤ 100000 ∧ s.length ≤ 1000 ∧ s.length * k.toNat ≤ 100000) ∧ QD (.str (List.replicate k.toNat s).flatten)) := wO_ite
theorem ints_map (ns : List Int) : ints? (ns.map D.int) = some ns := by
  induction ns with
  | nil => rfl
  | cons n ns ih => show (ints? (ns.map D.int)).map _ = _; rw [ih]; rfl
theorem o_enumL {xs : List D} {QL : List D → Prop} : wpO (enumF2 [.lst xs]) QL = QL (enumD 0 xs) := propext Iff.rfl
theorem o_enumT {xs : List D} {QL : List D → Prop} : wpO (enumF2 [.tup xs]) QL = QL (enumD 0 xs) := propext Iff.rfl
theorem enumD_nil {n : Int} : enumD n [] = [] := by rw [enumD]
theorem enumD_cons {n : Int} {d : D} {ds : List D} : enumD n (d :: ds) = .tup [.int n, d] :: enumD (n + 1) ds := by rw [enumD]
/-! ### == of tuples and lists of ints -/
theorem isDatas_ints : ∀ xs : List Int, isDatas (xs.map D.int) = true
  | [] => rfl
  | x :: xs => by
    show (true && isDatas (xs.map D.int)) = true
    rw [isDatas_ints xs]
    rfl
theorem depth_ints : ∀ xs : List Int, PyData.depthAll (toPys (xs.map D.int)) = PyData.depthAll []  ∨ PyData.depthAll (toPys (xs.map D.int)) = (PyData.int 0).depth
  | [] => .inl rfl
  | x :: xs => by
    right
    show max (PyData.int x).depth (PyData.depthAll (toPys (xs.map D.int))) = (PyData.int 0).depth
    rcases depth_ints xs with h | h <;> rw [h] <;> rfl
theorem okD_ints (xs : List Int) : okD (.tup (xs.map D.int)) = true ∧ okD (.lst (xs.map D.int)) = true := by
  have h : PyData.depthAll (toPys (xs.map D.int)) + 1 ≤ 60 := by
    rcases depth_ints xs with h | h <;> rw [h] <;> decide
  constructor
  · show (isDatas (xs.map D.int) && decide (PyData.depthAll (toPys (xs.map D.int)) + 1 ≤ 60)) = true
    rw [isDatas_ints, decide_eq_true h]
    rfl
  · show (isDatas (xs.map D.int) && decide (PyData.depthAll (toPys (xs.map D.int)) + 1 ≤ 60)) = true
    rw [isDatas_ints, decide_eq_true h]
    rfl
theorem eqv_ints : ∀ xs ys : List Int, PyData.eqvAll (toPys (xs.map D.int)) (toPys (ys.map D.int)) = decide (xs = ys)
  | [], [] => rfl
  | [], y :: ys => rfl
  | x :: xs, [] => rfl
  | x :: xs, y :: ys => by
    show (x == y && PyData.eqvAll (toPys (xs.map D.int)) (toPys (ys.map D.int))) = _
    rw [eqv_ints xs ys, Bool.eq_iff_iff]
    simp
theorem cEq_tupI (xs ys : List Int) : cEq (.tup (xs.map D.int)) (.tup (ys.map D.int)) = some (decide (xs = ys)) := by
  unfold cEq
  rw [(okD_ints xs).1, (okD_ints ys).1]
  show some (PyData.eqvAll (toPys (xs.map D.int)) (toPys (ys.map D.int))) = _
  rw [eqv_ints]
theorem cEq_lstI (xs ys : List Int) : cEq (.lst (xs.map D.int)) (.lst (ys.map D.int)) = some (decide (xs = ys)) := by
  unfold cEq
  rw [(okD_ints xs).2, (okD_ints ys).2]
  show some (PyData.eqvAll (toPys (xs.map D.int)) (toPys (ys.map D.int))) = _
  rw [eqv_ints]
theorem cNe_lstI (xs ys : List Int) : cNe (.lst (xs.map D.int)) (.lst (ys.map D.int)) = some (!decide (xs = ys)) := by
  unfold cNe
  rw [cEq_lstI]
  rfl
/-! ### comprehensions with two fors -/
section
variable {env : En} {QL : List D → Prop} {E : Er → Prop}
theorem w_capL {r : Res (List D)} : wpR (capL r) QL E = wpR r (fun ys => ys.length ≤ sizeLine ∧ QL ys) E := by
  unfold capL
  rw [wR_bind]
  congr 1
  funext ys
  by_cases h : ys.length ≤ sizeLine
  · rw [if_pos h]; exact propext ⟨fun q => ⟨h, q⟩, fun q => q.2⟩
  · rw [if_neg h]; exact propext ⟨fun q => q.elim, fun q => (h q.1).elim⟩
theorem w_lComp2 {it it1 : GL} {vs vs1 : List Nat} {t t1 : GT} {c c1 : GB} {e : GE} : wpR (lComp2 it vs t c it1 vs1 t1 c1 e env) QL E = wpR (it env) (fun ds => noOwn env vs = true ∧ wpR (capL (okOnly (compM2 t c it1 vs1 t1 c1 e (wipeE env vs) ds))) QL E) E := by
  unfold lComp2
  rw [wR_bind]
  congr 1
  funext ds
  by_cases h : noOwn env vs = true
  · rw [if_pos h]; exact propext ⟨fun q => ⟨h, q⟩, fun q => q.2⟩
  · rw [if_neg h]; exact propext ⟨fun q => q.elim, fun q => (h q.1).elim⟩
theorem w_comp2N {it1 : GL} {vs1 : List Nat} {t t1 : GT} {c c1 : GB} {e : GE} : wpR (compM2 t c it1 vs1 t1 c1 e env []) QL E = QL [] := propext Iff.rfl
theorem w_comp2C {it1 : GL} {vs1 : List Nat} {t t1 : GT} {c c1 : GB} {e : GE} {d : D} {ds : List D} : wpR (compM2 t c it1 vs1 t1 c1 e env (d :: ds)) QL E = wpO (t d env) fun e1 => wpR (c e1) (fun k => if k = true then wpR (it1 e1) (fun ds1 => noOwn e1 vs1 = true ∧ wpR (compM t1 c1 e (wipeE e1 vs1) ds1) (fun ys1 => wpR (compM2 t c it1 vs1 t1 c1 e env ds) (fun ys => QL (ys1 ++ ys)) E) E) E else wpR (compM2 t c it1 vs1 t1 c1 e env ds) QL E) E := by
  rw [compM2]
  cases t d env with
  | none => rfl
  | some e1 =>
    show wpR ((c e1).bind _) QL E = wpR (c e1) _ E
    rw [wR_bind]
    congr 1
    funext k
    cases k with
    | false => rfl
    | true =>
      show wpR ((it1 e1).bind _) QL E = wpR (it1 e1) _ E
      rw [wR_bind]
      congr 1
      funext ds1
      by_cases h : noOwn e1 vs1 = true
      · rw [if_pos h, wR_bind]
        refine propext ⟨fun q => ⟨h, ?_⟩, fun q => ?_⟩
        · simpa only [wR_bind, wR_ok] using q
        · simpa only [wR_bind, wR_ok] using q.2
      · rw [if_neg h]; exact propext ⟨fun q => q.elim, fun q => (h q.1).elim⟩
end
/-! ### lists of a call, lists times an int, reversed -/
section
variable {env : En} {QL : List D → Prop} {E : Er → Prop}
def wpL (o : OutL) (R : List D → Prop) (ES : Er → En → Prop) : Prop := match o with
  | .ok ds => R ds
  | .err e env => ES e env
  | .stuck => False
theorem w_lRet {i : Nat} {R : List D → Prop} {ES : Er → En → Prop} : wpL (lRet i env) R ES = wOwn env i R := by
  unfold lRet wOwn
  cases env[i]? with
  | none => rfl
  | some s => cases s <;> rfl
theorem w_lSeq {a : GS} {b : GSL} {R : List D → Prop} {ES : Er → En → Prop} : wpL (lSeq a b env) R ES = wpS (a env) (fun e => wpL (b e) R ES) (fun _ => False) ES (fun _ => False) (fun _ => False) := by
  unfold lSeq
  cases a env <;> rfl
theorem w_runFL {n nn : Nat} {g : GSL} {ds : List D} : wpR (runFL n nn g ds) QL E = (ds.length = n ∧ wpL (g (ds.map Sl.val ++ List.replicate (nn - n) .unk)) QL (fun e _ => E e)) := by
  unfold runFL
  by_cases h : ds.length = n
  · rw [if_pos h]
    refine propext ⟨fun q => ⟨h, ?_⟩, fun q => ?_⟩
    · revert q
      cases g (ds.map Sl.val ++ List.replicate (nn - n) .unk) <;> exact id
    · have q := q.2
      revert q
      cases g (ds.map Sl.val ++ List.replicate (nn - n) .unk) <;> exact id
  · rw [if_neg h]
    exact propext ⟨fun q => q.elim, fun q => (h q.1).elim⟩
theorem w_lCallF {m : List D → Res (List D)} {g : GL} : wpR (lCallF m g env) QL E = wpR (g env) (fun xs => wpR (m xs) QL E) E := by unfold lCallF; simp only [wR_bind]
theorem w_lRep {gl : GL} {gb : GE} : wpR (lRep gl gb env) QL E = wpR (gl env) (fun ds => wpR (gb env) (fun k => wpO (repL ds k) QL) E) E := by unfold lRep; simp only [wR_bind, wR_of]
theorem o_repL {ds : List D} {k : Int} : wpO (repL ds (.int k)) QL = ((0 ≤ k ∧ k ≤ 100000 ∧ ds.length * k.toNat ≤ 100000) ∧ QL (List.replicate k.toNat ds).flatten) := wO_ite
theorem w_iRevG {g : GE} : wpR (iRevG g env) QL E = wpR (g env) (fun d => wpO (revI d) QL) E := by unfold iRevG; simp only [wR_bind, wR_of]
theorem o_revIL {xs : List D} : wpO (revI (.lst xs)) QL = QL xs.reverse := propext Iff.rfl
theorem o_revIT {xs : List D} : wpO (revI (.tup xs)) QL = QL xs.reverse := propext Iff.rfl
end
end AF

set_option linter.unusedVariables false
namespace AF
open PySem PySem.Spec PyProof.Rows L2
def topS (i : Nat) : Stmt := PySem.Challenge.pw_askewread_k59_tracks_and_maps_between.main.body.getD i (.Pass ⟨0, 0, 0, 0⟩)
abbrev st_BadMap : Stmt := initOf (topS 3)
def cat_BadMap_l : List (String × Bool) := [("AskewError", false), ("BadMap", true)]
def c_MOST_STEPS : D := .int (20)
section
variable {P : Program} {w : World} {K : PySem.W.Frag} {mg : Str → Option Value} {base : Heap}
abbrev s_is_whole : Stmt := topS 5
abbrev N_is_whole : List Str := ["value"]
theorem sc_is_whole : FnScope N_is_whole ["value"] (defScope s_is_whole) := ⟨rfl, rfl, rfl, by decide +kernel, rfl, by decide +kernel, by decide +kernel⟩
def g_is_whole : GS :=
  sRet (eAnd (eF fIsi (aCons (eVar 0) (aCons (eC (.ty "int")) (aNil)))) (e1 notD (eF fIsi (aCons (eVar 0) (aCons (eC (.ty "bool")) (aNil))))))
def m_is_whole : List D → Res D := runF 1 1 g_is_whole
theorem ok_is_whole {f : Addr} {fd : FuncData} (F : Fun K "is_whole" "is_whole" s_is_whole f fd) (hm : mg "is_whole" = some (.ref f)) (b_int : mg "int" = none) (b_isinstance : mg "isinstance" = none) (b_bool : mg "bool" = none) : Fk P w K mg base 1 "is_whole" 1 m_is_whole :=
  fk_mk (k := 0) F sc_is_whole hm (fun _ _ _ _ _ _ us hl => match us, hl with | [_], _ => rfl) rfl rfl (by decide) fun cdv A outer s H E hr tk po => by
    have nd := sc_is_whole.nd
    exact (fss_one (fs_ret (fe_and (fe_isi b_isinstance (fa_cons (fe_var 0) (fa_cons (fe_ty b_int bt_int) fa_nil))) (fe_one (fe_not (fe_isi b_isinstance (fa_cons (fe_var 0) (fa_cons (fe_ty b_bool bt_bool) fa_nil))))))))
abbrev s_lowest : Stmt := topS 7
abbrev N_lowest : List Str := ["numbers", "shared", "n"]
theorem sc_lowest : FnScope N_lowest ["numbers"] (defScope s_lowest) := ⟨rfl, rfl, rfl, by decide +kernel, rfl, by decide +kernel, by decide +kernel⟩
def b_lowest_1 : GS :=
  sSet 1 (eF fGcd (aCons (eVar 1) (aCons (eVar 2) (aNil))))
def r_lowest_2 : GS :=
  sRet (eIf (b2 cGt (eVar 1) (eC (.int 0))) (eF fTuple (aCons (eLst (lComp (iAny (eVar 0)) [2] (tName 2) (bYes) (e2 dFdiv (eVar 2) (eVar 1)))) (aNil))) (eF fTuple (aCons (eVar 0) (aNil))))
def g_lowest : GS :=
  sSeq (sSet 1 (eC (.int 0)))
    (sSeq (sFor (iAny (eVar 0)) (tName 2)
    (b_lowest_1))
    (r_lowest_2))
def m_lowest : List D → Res D := runF 1 3 g_lowest
theorem ok_lowest {f : Addr} {fd : FuncData} (F : Fun K "lowest" "lowest" s_lowest f fd) (hm : mg "lowest" = some (.ref f)) (b_gcd : mg "gcd" = some (.builtin "math.gcd")) (b_tuple : mg "tuple" = none) : Fk P w K mg base 1 "lowest" 1 m_lowest :=
  fk_mk (k := 0) F sc_lowest hm (fun _ _ _ _ _ _ us hl => match us, hl with | [_], _ => rfl) rfl rfl (by decide) fun cdv A outer s H E hr tk po => by
    have nd := sc_lowest.nd
    exact (fss_cons (fs_set 1 fe_int nd)
    (fss_cons (fs_for po rfl (fi_any (fe_var 0)) (fg_name 2 nd)
    (fss_one (fs_set 1 (fe_gcd b_gcd (fa_cons (fe_var 1) (fa_cons (fe_var 2) fa_nil))) nd)))
    (fss_one (fs_ret (fe_if (ft_gt (fe_var 1) fe_int) (fe_ctuple b_tuple (fa_cons (fe_l (fl_comp (own := [("n", 2)]) rfl nd (show blkC N_lowest (defScope s_lowest) _ _ = true by decide +kernel) (fi_any (fe_var 0)) (fun _ _ _ _ _ => (fg_name 2 nd)) (fun _ _ _ _ _ => fts_nil) (fun _ _ _ _ _ => (fe_fdiv (fe_var 2) (fe_var 1))))) fa_nil)) (fe_ctuple b_tuple (fa_cons (fe_var 0) fa_nil)))))))
abbrev s_measure : Stmt := topS 8
abbrev N_measure : List Str := ["m", "a", "b", "c", "d", "e", "f", "g", "h", "i"]
theorem sc_measure : FnScope N_measure ["m"] (defScope s_measure) := ⟨rfl, rfl, rfl, by decide +kernel, rfl, by decide +kernel, by decide +kernel⟩
def g_measure : GS :=
  sSeq (sAsg (tTup 9 (tsCons (tName 1) (tsCons (tName 2) (tsCons (tName 3) (tsCons (tName 4) (tsCons (tName 5) (tsCons (tName 6) (tsCons (tName 7) (tsCons (tName 8) (tsCons (tName 9) (tsNil))))))))))) (eVar 0))
    (sRet (e2 dPlus (e2 dSub (e2 dMul (eVar 1) (e2 dSub (e2 dMul (eVar 5) (eVar 9)) (e2 dMul (eVar 6) (eVar 8)))) (e2 dMul (eVar 2) (e2 dSub (e2 dMul (eVar 4) (eVar 9)) (e2 dMul (eVar 6) (eVar 7))))) (e2 dMul (eVar 3) (e2 dSub (e2 dMul (eVar 4) (eVar 8)) (e2 dMul (eVar 5) (eVar 7))))))
def m_measure : List D → Res D := runF 1 10 g_measure
theorem ok_measure {f : Addr} {fd : FuncData} (F : Fun K "measure" "measure" s_measure f fd) (hm : mg "measure" = some (.ref f)) : Fk P w K mg base 1 "measure" 1 m_measure :=
  fk_mk (k := 0) F sc_measure hm (fun _ _ _ _ _ _ us hl => match us, hl with | [_], _ => rfl) rfl rfl (by decide) fun cdv A outer s H E hr tk po => by
    have nd := sc_measure.nd
    exact (fss_cons (fs_asg (fe_var 0) (fg_tup rfl (fgs_cons (fg_name 1 nd) (fgs_cons (fg_name 2 nd) (fgs_cons (fg_name 3 nd) (fgs_cons (fg_name 4 nd) (fgs_cons (fg_name 5 nd) (fgs_cons (fg_name 6 nd) (fgs_cons (fg_name 7 nd) (fgs_cons (fg_name 8 nd) (fgs_cons (fg_name 9 nd) fgs_nil)))))))))))
    (fss_one (fs_ret (fe_plus (fe_sub (fe_mul (fe_var 1) (fe_sub (fe_mul (fe_var 5) (fe_var 9)) (fe_mul (fe_var 6) (fe_var 8)))) (fe_mul (fe_var 2) (fe_sub (fe_mul (fe_var 4) (fe_var 9)) (fe_mul (fe_var 6) (fe_var 7))))) (fe_mul (fe_var 3) (fe_sub (fe_mul (fe_var 4) (fe_var 8)) (fe_mul (fe_var 5) (fe_var 7))))))))
abbrev s_is_map : Stmt := topS 9
abbrev N_is_map : List Str := ["value", "n"]
theorem sc_is_map : FnScope N_is_map ["value"] (defScope s_is_map) := ⟨rfl, rfl, rfl, by decide +kernel, rfl, by decide +kernel, by decide +kernel⟩
def g_is_map : GS :=
  sSeq (sIf (bOr (bNot (b1 truth (eF fIsi (aCons (eVar 0) (aCons (eC (.ty "tuple")) (aNil)))))) (bOr (b2 cNe (eF fLen (aCons (eVar 0) (aNil))) (eC (.int 9))) (bNot (b1 truth (eF fAll (aCons (eLst (lComp (iAny (eVar 0)) [1] (tName 1) (bYes) (eCall (m_is_whole) (aCons (eVar 1) (aNil))))) (aNil)))))))
    (sRet (eC (.bl false)))
    (sNil))
    (sRet (eAnd (eB (b2 cNe (eCall (m_measure) (aCons (eVar 0) (aNil))) (eC (.int 0)))) (eB (b2 cEq (eCall (m_lowest) (aCons (eVar 0) (aNil))) (eVar 0)))))
def m_is_map : List D → Res D := runF 1 2 g_is_map
theorem ok_is_map {f : Addr} {fd : FuncData} (F : Fun K "is_map" "is_map" s_is_map f fd) (hm : mg "is_map" = some (.ref f)) (b_tuple : mg "tuple" = none) (b_isinstance : mg "isinstance" = none) (b_len : mg "len" = none) (k_is_whole : Fk P w K mg base 1 "is_whole" 1 m_is_whole) (b_all : mg "all" = none) (k_measure : Fk P w K mg base 1 "measure" 1 m_measure) (k_lowest : Fk P w K mg base 1 "lowest" 1 m_lowest) : Fk P w K mg base 2 "is_map" 1 m_is_map :=
  fk_mk (k := 1) F sc_is_map hm (fun _ _ _ _ _ _ us hl => match us, hl with | [_], _ => rfl) rfl rfl (by decide) fun cdv A outer s H E hr tk po => by
    have nd := sc_is_map.nd
    exact (fss_cons (fs_if (ft_w (fw_or (ft_not (ft_truth (fe_isi b_isinstance (fa_cons (fe_var 0) (fa_cons (fe_ty b_tuple bt_tuple) fa_nil))))) (fw_or (ft_ne hr (fe_len b_len (fa_cons (fe_var 0) fa_nil)) fe_int) (fw_or1 (ft_not (ft_truth (fe_all b_all rfl (fa_cons (fe_l (fl_comp (own := [("n", 1)]) rfl nd (show blkC N_is_map (defScope s_is_map) _ _ = true by decide +kernel) (fi_any (fe_var 0)) (fun _ _ _ _ _ => (fg_name 1 nd)) (fun _ _ _ _ _ => fts_nil) (fun _ _ _ _ _ => (fe_call k_is_whole (hr.mono (by omega)) takes0 (fa_cons (fe_var 1) fa_nil))))) fa_nil))))))))
    (fss_one (fs_ret fe_bl))
    fss_nil)
    (fss_one (fs_ret (fe_and (fe_ne hr (fe_call k_measure (hr.mono (by omega)) tk (fa_cons (fe_var 0) fa_nil)) fe_int) (fe_one (fe_eq hr (fe_call k_lowest (hr.mono (by omega)) tk (fa_cons (fe_var 0) fa_nil)) (fe_var 0)))))))
abbrev s_check_map : Stmt := topS 10
abbrev N_check_map : List Str := ["value"]
theorem sc_check_map : FnScope N_check_map ["value"] (defScope s_check_map) := ⟨rfl, rfl, rfl, by decide +kernel, rfl, by decide +kernel, by decide +kernel⟩
def g_check_map : GS :=
  sIf (bNot (b1 truth (eCall (m_is_map) (aCons (eVar 0) (aNil)))))
    (sRaise1 "BadMap" "reason" (aCons (eC (.str [109, 97, 112])) (aNil)))
    (sNil)
def m_check_map : List D → Res D := runF 1 1 g_check_map
theorem ok_check_map {f : Addr} {fd : FuncData} {C_BadMap : Addr} (F : Fun K "check_map" "check_map" s_check_map f fd) (hm : mg "check_map" = some (.ref f)) (k_is_map : Fk P w K mg base 2 "is_map" 1 m_is_map) (x1_BadMap : Ex1 P w K mg base "BadMap" "reason" C_BadMap) : Fk P w K mg base 3 "check_map" 1 m_check_map :=
  fk_mk (k := 2) F sc_check_map hm (fun _ _ _ _ _ _ us hl => match us, hl with | [_], _ => rfl) rfl rfl (by decide) fun cdv A outer s H E hr tk po => by
    have nd := sc_check_map.nd
    exact (fss_one (fs_if (ft_not (ft_truth (fe_call k_is_map (hr.mono (by omega)) tk (fa_cons (fe_var 0) fa_nil))))
    (fss_one (fs_raise1 x1_BadMap (hr.mono (by omega)) rfl tk (fa_cons fe_str fa_nil)))
    fss_nil))
abbrev s_depth : Stmt := topS 11
abbrev N_depth : List Str := ["m", "x", "y", "p", "q", "r", "s"]
theorem sc_depth : FnScope N_depth ["m", "x", "y"] (defScope s_depth) := ⟨rfl, rfl, rfl, by decide +kernel, rfl, by decide +kernel, by decide +kernel⟩
def g_depth : GS :=
  sSeq (sAsg (tTup 2 (tsCons (tName 3) (tsCons (tName 4) (tsNil)))) (eVar 1))
    (sSeq (sAsg (tTup 2 (tsCons (tName 5) (tsCons (tName 6) (tsNil)))) (eVar 2))
    (sRet (eTup (aCons (e2 dPlus (e2 dPlus (e2 dMul (e2 dMul (e2 dIx (eVar 0) (eC (.int 6))) (eVar 3)) (eVar 6)) (e2 dMul (e2 dMul (e2 dIx (eVar 0) (eC (.int 7))) (eVar 5)) (eVar 4))) (e2 dMul (e2 dMul (e2 dIx (eVar 0) (eC (.int 8))) (eVar 4)) (eVar 6))) (aCons (e2 dMul (eVar 4) (eVar 6)) (aNil))))))
def m_depth : List D → Res D := runF 3 7 g_depth
theorem ok_depth {f : Addr} {fd : FuncData} (F : Fun K "depth" "depth" s_depth f fd) (hm : mg "depth" = some (.ref f)) : Fk P w K mg base 1 "depth" 3 m_depth :=
  fk_mk (k := 0) F sc_depth hm (fun _ _ _ _ _ _ us hl => match us, hl with | [_, _, _], _ => rfl) rfl rfl (by decide) fun cdv A outer s H E hr tk po => by
    have nd := sc_depth.nd
    exact (fss_cons (fs_asg (fe_var 1) (fg_tup rfl (fgs_cons (fg_name 3 nd) (fgs_cons (fg_name 4 nd) fgs_nil))))
    (fss_cons (fs_asg (fe_var 2) (fg_tup rfl (fgs_cons (fg_name 5 nd) (fgs_cons (fg_name 6 nd) fgs_nil))))
    (fss_one (fs_ret (fe_tup (fa_cons (fe_plus (fe_plus (fe_mul (fe_mul (fe_ix (fe_var 0) fe_int) (fe_var 3)) (fe_var 6)) (fe_mul (fe_mul (fe_ix (fe_var 0) fe_int) (fe_var 5)) (fe_var 4))) (fe_mul (fe_mul (fe_ix (fe_var 0) fe_int) (fe_var 4)) (fe_var 6))) (fa_cons (fe_mul (fe_var 4) (fe_var 6)) fa_nil)))))))
abbrev s_is_seen : Stmt := topS 12
abbrev N_is_seen : List Str := ["m", "point"]
theorem sc_is_seen : FnScope N_is_seen ["m", "point"] (defScope s_is_seen) := ⟨rfl, rfl, rfl, by decide +kernel, rfl, by decide +kernel, by decide +kernel⟩
def g_is_seen : GS :=
  sRet (eB (b2 cGt (e2 dIx (eCall (m_depth) (aCons (eVar 0) (aCons (e2 dIx (eVar 1) (eC (.int 0))) (aCons (e2 dIx (eVar 1) (eC (.int 1))) (aNil))))) (eC (.int 0))) (eC (.int 0))))
def m_is_seen : List D → Res D := runF 2 2 g_is_seen
theorem ok_is_seen {f : Addr} {fd : FuncData} (F : Fun K "is_seen" "is_seen" s_is_seen f fd) (hm : mg "is_seen" = some (.ref f)) (k_depth : Fk P w K mg base 1 "depth" 3 m_depth) : Fk P w K mg base 2 "is_seen" 2 m_is_seen :=
  fk_mk (k := 1) F sc_is_seen hm (fun _ _ _ _ _ _ us hl => match us, hl with | [_, _], _ => rfl) rfl rfl (by decide) fun cdv A outer s H E hr tk po => by
    have nd := sc_is_seen.nd
    exact (fss_one (fs_ret (fe_gt (fe_ix (fe_call k_depth (hr.mono (by omega)) tk (fa_cons (fe_var 0) (fa_cons (fe_ix (fe_var 1) fe_int) (fa_cons (fe_ix (fe_var 1) fe_int) fa_nil)))) fe_int) fe_int)))
abbrev s_first_then : Stmt := topS 13
abbrev N_first_then : List Str := ["m", "n", "found", "i", "j", "k"]
theorem sc_first_then : FnScope N_first_then ["m", "n"] (defScope s_first_then) := ⟨rfl, rfl, rfl, by decide +kernel, rfl, by decide +kernel, by decide +kernel⟩
def b_first_then_1 : GS :=
  sApp 2 (eF fSum (aCons (eLst (lComp (lF rg1 (aCons (eC (.int 3)) (aNil))) [5] (tName 5) (bYes) (e2 dMul (e2 dIx (eVar 1) (e2 dPlus (e2 dMul (eC (.int 3)) (eVar 3)) (eVar 5))) (e2 dIx (eVar 0) (e2 dPlus (e2 dMul (eC (.int 3)) (eVar 5)) (eVar 4)))))) (aNil)))
def b_first_then_2 : GS :=
  sFor (lF rg1 (aCons (eC (.int 3)) (aNil))) (tName 4)
    (b_first_then_1)
def r_first_then_3 : GS :=
  sFrz 2 (sRet (eCall (m_lowest) (aCons (eVar 2) (aNil))))
def g_first_then : GS :=
  sSeq (sSetL 2 (lDisp (aNil)))
    (sSeq (sFor (lF rg1 (aCons (eC (.int 3)) (aNil))) (tName 3)
    (b_first_then_2))
    (r_first_then_3))
def m_first_then : List D → Res D := runF 2 6 g_first_then
theorem ok_first_then {f : Addr} {fd : FuncData} (F : Fun K "first_then" "first_then" s_first_then f fd) (hm : mg "first_then" = some (.ref f)) (b_range : mg "range" = none) (b_sum : mg "sum" = none) (k_lowest : Fk P w K mg base 1 "lowest" 1 m_lowest) : Fk P w K mg base 2 "first_then" 2 m_first_then :=
  fk_mk (k := 1) F sc_first_then hm (fun _ _ _ _ _ _ us hl => match us, hl with | [_, _], _ => rfl) rfl rfl (by decide) fun cdv A outer s H E hr tk po => by
    have nd := sc_first_then.nd
    exact (fss_cons (fs_setL 2 (fl_disp fa_nil) nd)
    (fss_cons (fs_for po rfl (fi_range1 b_range (fa_cons fe_int fa_nil)) (fg_name 3 nd)
    (fss_one (fs_for po rfl (fi_range1 b_range (fa_cons fe_int fa_nil)) (fg_name 4 nd)
    (fss_one (fs_app 2 (fe_sum b_sum rfl (fa_cons (fe_l (fl_comp (own := [("k", 5)]) rfl nd (show blkC N_first_then (defScope s_first_then) _ _ = true by decide +kernel) (fi_range1 b_range (fa_cons fe_int fa_nil)) (fun _ _ _ _ _ => (fg_name 5 nd)) (fun _ _ _ _ _ => fts_nil) (fun _ _ _ _ _ => (fe_mul (fe_ix (fe_var 1) (fe_plus (fe_mul fe_int (fe_var 3)) (fe_var 5))) (fe_ix (fe_var 0) (fe_plus (fe_mul fe_int (fe_var 5)) (fe_var 4))))))) fa_nil)) (hp := pe_bm PySem.F.plainAttrs_list PySem.F.slot_list_append PySem.F.type_list_append mt_append (pv 2) (pa_cons (fe_sum b_sum rfl (fa_cons (fe_l (fl_comp (own := [("k", 5)]) rfl nd (show blkC N_first_then (defScope s_first_then) _ _ = true by decide +kernel) (fi_range1 b_range (fa_cons fe_int fa_nil)) (fun _ _ _ _ _ => (fg_name 5 nd)) (fun _ _ _ _ _ => fts_nil) (fun _ _ _ _ _ => (fe_mul (fe_ix (fe_var 1) (fe_plus (fe_mul fe_int (fe_var 3)) (fe_var 5))) (fe_ix (fe_var 0) (fe_plus (fe_mul fe_int (fe_var 5)) (fe_var 4))))))) fa_nil)) pa_nil)))))))
    (fss_one (fs_frz 2 (fs_ret (fe_call k_lowest (hr.mono (by omega)) tk (fa_cons (fe_var 2) fa_nil)))))))
abbrev s_cofactors : Stmt := topS 14
abbrev N_cofactors : List Str := ["m", "a", "b", "c", "d", "e", "f", "g", "h", "i", "first", "second", "third"]
theorem sc_cofactors : FnScope N_cofactors ["m"] (defScope s_cofactors) := ⟨rfl, rfl, rfl, by decide +kernel, rfl, by decide +kernel, by decide +kernel⟩
def g_cofactors : GS :=
  sSeq (sAsg (tTup 9 (tsCons (tName 1) (tsCons (tName 2) (tsCons (tName 3) (tsCons (tName 4) (tsCons (tName 5) (tsCons (tName 6) (tsCons (tName 7) (tsCons (tName 8) (tsCons (tName 9) (tsNil))))))))))) (eVar 0))
    (sSeq (sSet 10 (eTup (aCons (e2 dSub (e2 dMul (eVar 5) (eVar 9)) (e2 dMul (eVar 6) (eVar 8))) (aCons (e2 dSub (e2 dMul (eVar 3) (eVar 8)) (e2 dMul (eVar 2) (eVar 9))) (aCons (e2 dSub (e2 dMul (eVar 2) (eVar 6)) (e2 dMul (eVar 3) (eVar 5))) (aNil))))))
    (sSeq (sSet 11 (eTup (aCons (e2 dSub (e2 dMul (eVar 6) (eVar 7)) (e2 dMul (eVar 4) (eVar 9))) (aCons (e2 dSub (e2 dMul (eVar 1) (eVar 9)) (e2 dMul (eVar 3) (eVar 7))) (aCons (e2 dSub (e2 dMul (eVar 3) (eVar 4)) (e2 dMul (eVar 1) (eVar 6))) (aNil))))))
    (sSeq (sSet 12 (eTup (aCons (e2 dSub (e2 dMul (eVar 4) (eVar 8)) (e2 dMul (eVar 5) (eVar 7))) (aCons (e2 dSub (e2 dMul (eVar 2) (eVar 7)) (e2 dMul (eVar 1) (eVar 8))) (aCons (e2 dSub (e2 dMul (eVar 1) (eVar 5)) (e2 dMul (eVar 2) (eVar 4))) (aNil))))))
    (sRet (e2 dPlus (e2 dPlus (eVar 10) (eVar 11)) (eVar 12))))))
def m_cofactors : List D → Res D := runF 1 13 g_cofactors
theorem ok_cofactors {f : Addr} {fd : FuncData} (F : Fun K "cofactors" "cofactors" s_cofactors f fd) (hm : mg "cofactors" = some (.ref f)) : Fk P w K mg base 1 "cofactors" 1 m_cofactors :=
  fk_mk (k := 0) F sc_cofactors hm (fun _ _ _ _ _ _ us hl => match us, hl with | [_], _ => rfl) rfl rfl (by decide) fun cdv A outer s H E hr tk po => by
    have nd := sc_cofactors.nd
    exact (fss_cons (fs_asg (fe_var 0) (fg_tup rfl (fgs_cons (fg_name 1 nd) (fgs_cons (fg_name 2 nd) (fgs_cons (fg_name 3 nd) (fgs_cons (fg_name 4 nd) (fgs_cons (fg_name 5 nd) (fgs_cons (fg_name 6 nd) (fgs_cons (fg_name 7 nd) (fgs_cons (fg_name 8 nd) (fgs_cons (fg_name 9 nd) fgs_nil)))))))))))
    (fss_cons (fs_set 10 (fe_tup (fa_cons (fe_sub (fe_mul (fe_var 5) (fe_var 9)) (fe_mul (fe_var 6) (fe_var 8))) (fa_cons (fe_sub (fe_mul (fe_var 3) (fe_var 8)) (fe_mul (fe_var 2) (fe_var 9))) (fa_cons (fe_sub (fe_mul (fe_var 2) (fe_var 6)) (fe_mul (fe_var 3) (fe_var 5))) fa_nil)))) nd)
    (fss_cons (fs_set 11 (fe_tup (fa_cons (fe_sub (fe_mul (fe_var 6) (fe_var 7)) (fe_mul (fe_var 4) (fe_var 9))) (fa_cons (fe_sub (fe_mul (fe_var 1) (fe_var 9)) (fe_mul (fe_var 3) (fe_var 7))) (fa_cons (fe_sub (fe_mul (fe_var 3) (fe_var 4)) (fe_mul (fe_var 1) (fe_var 6))) fa_nil)))) nd)
    (fss_cons (fs_set 12 (fe_tup (fa_cons (fe_sub (fe_mul (fe_var 4) (fe_var 8)) (fe_mul (fe_var 5) (fe_var 7))) (fa_cons (fe_sub (fe_mul (fe_var 2) (fe_var 7)) (fe_mul (fe_var 1) (fe_var 8))) (fa_cons (fe_sub (fe_mul (fe_var 1) (fe_var 5)) (fe_mul (fe_var 2) (fe_var 4))) fa_nil)))) nd)
    (fss_one (fs_ret (fe_plus (fe_plus (fe_var 10) (fe_var 11)) (fe_var 12))))))))
abbrev s_back_map : Stmt := topS 15
abbrev N_back_map : List Str := ["m", "found", "n"]
theorem sc_back_map : FnScope N_back_map ["m"] (defScope s_back_map) := ⟨rfl, rfl, rfl, by decide +kernel, rfl, by decide +kernel, by decide +kernel⟩
def g_back_map : GS :=
  sSeq (sSet 1 (eCall (m_cofactors) (aCons (eVar 0) (aNil))))
    (sSeq (sIf (b2 cLt (eCall (m_measure) (aCons (eVar 0) (aNil))) (eC (.int 0)))
    (sSet 1 (eF fTuple (aCons (eLst (lComp (iAny (eVar 1)) [2] (tName 2) (bYes) (e1 dNeg (eVar 2)))) (aNil))))
    (sNil))
    (sRet (eCall (m_lowest) (aCons (eVar 1) (aNil)))))
def m_back_map : List D → Res D := runF 1 3 g_back_map
theorem ok_back_map {f : Addr} {fd : FuncData} (F : Fun K "back_map" "back_map" s_back_map f fd) (hm : mg "back_map" = some (.ref f)) (k_cofactors : Fk P w K mg base 1 "cofactors" 1 m_cofactors) (k_measure : Fk P w K mg base 1 "measure" 1 m_measure) (b_tuple : mg "tuple" = none) (k_lowest : Fk P w K mg base 1 "lowest" 1 m_lowest) : Fk P w K mg base 2 "back_map" 1 m_back_map :=
  fk_mk (k := 1) F sc_back_map hm (fun _ _ _ _ _ _ us hl => match us, hl with | [_], _ => rfl) rfl rfl (by decide) fun cdv A outer s H E hr tk po => by
    have nd := sc_back_map.nd
    exact (fss_cons (fs_set 1 (fe_call k_cofactors (hr.mono (by omega)) tk (fa_cons (fe_var 0) fa_nil)) nd)
    (fss_cons (fs_if (ft_lt (fe_call k_measure (hr.mono (by omega)) tk (fa_cons (fe_var 0) fa_nil)) fe_int)
    (fss_one (fs_set 1 (fe_ctuple b_tuple (fa_cons (fe_l (fl_comp (own := [("n", 2)]) rfl nd (show blkC N_back_map (defScope s_back_map) _ _ = true by decide +kernel) (fi_any (fe_var 1)) (fun _ _ _ _ _ => (fg_name 2 nd)) (fun _ _ _ _ _ => fts_nil) (fun _ _ _ _ _ => (fe_neg (fe_var 2))))) fa_nil)) nd))
    fss_nil)
    (fss_one (fs_ret (fe_call k_lowest (hr.mono (by omega)) tk (fa_cons (fe_var 1) fa_nil))))))
abbrev s_sees_square : Stmt := topS 16
abbrev N_sees_square : List Str := ["m", "side", "corners", "i", "j", "corner"]
theorem sc_sees_square : FnScope N_sees_square ["m", "side"] (defScope s_sees_square) := ⟨rfl, rfl, rfl, by decide +kernel, rfl, by decide +kernel, by decide +kernel⟩
def g_sees_square : GS :=
  sSeq (sThen 2 (sSetL 2 (lComp2 (lF rg1 (aCons (eC (.int 2)) (aNil))) [3, 4] (tName 3) (bYes) (lF rg1 (aCons (eC (.int 2)) (aNil))) [4] (tName 4) (bYes) (eTup (aCons (eTup (aCons (e2 dMul (eVar 3) (eVar 1)) (aCons (eC (.int 1)) (aNil)))) (aCons (eTup (aCons (e2 dMul (eVar 4) (eVar 1)) (aCons (eC (.int 1)) (aNil)))) (aNil)))))))
    (sRet (eF fAll (aCons (eLst (lComp (iAny (eVar 2)) [5] (tName 5) (bYes) (eCall (m_is_seen) (aCons (eVar 0) (aCons (eVar 5) (aNil)))))) (aNil))))
def m_sees_square : List D → Res D := runF 2 6 g_sees_square
theorem ok_sees_square {f : Addr} {fd : FuncData} (F : Fun K "sees_square" "sees_square" s_sees_square f fd) (hm : mg "sees_square" = some (.ref f)) (b_range : mg "range" = none) (k_is_seen : Fk P w K mg base 2 "is_seen" 2 m_is_seen) (b_all : mg "all" = none) : Fk P w K mg base 3 "sees_square" 2 m_sees_square :=
  fk_mk (k := 2) F sc_sees_square hm (fun _ _ _ _ _ _ us hl => match us, hl with | [_, _], _ => rfl) rfl rfl (by decide) fun cdv A outer s H E hr tk po => by
    have nd := sc_sees_square.nd
    exact (fss_cons (fs_then 2 (fs_comp2 2 (sw_true rfl rfl rfl (by decide +kernel)) (own := [("i", 3), ("j", 4)]) (vs1 := [4]) rfl nd (show blkC N_sees_square (defScope s_sees_square) _ _ = true by decide +kernel) (fi_range1 b_range (fa_cons fe_int fa_nil)) (fun _ _ _ _ _ => (fg_name 3 nd)) (fun _ _ _ _ _ => fts_nil) (fun _ _ _ _ _ => (fi_range1 b_range (fa_cons fe_int fa_nil))) (fun _ _ _ _ _ => (fg_name 4 nd)) (fun _ _ _ _ _ => fts_nil) (fun _ _ _ _ _ => (fe_tup (fa_cons (fe_tup (fa_cons (fe_mul (fe_var 3) (fe_var 1)) (fa_cons fe_int fa_nil))) (fa_cons (fe_tup (fa_cons (fe_mul (fe_var 4) (fe_var 1)) (fa_cons fe_int fa_nil))) fa_nil))))))
    (fss_one (fs_ret (fe_all b_all rfl (fa_cons (fe_l (fl_comp (own := [("corner", 5)]) rfl nd (show blkC N_sees_square (defScope s_sees_square) _ _ = true by decide +kernel) (fi_any (fe_var 2)) (fun _ _ _ _ _ => (fg_name 5 nd)) (fun _ _ _ _ _ => fts_nil) (fun _ _ _ _ _ => (fe_call k_is_seen (hr.mono (by omega)) takes0 (fa_cons (fe_var 0) (fa_cons (fe_var 5) fa_nil)))))) fa_nil)))))
abbrev s_check_steps : Stmt := topS 19
abbrev N_check_steps : List Str := ["value", "m"]
theorem sc_check_steps : FnScope N_check_steps ["value"] (defScope s_check_steps) := ⟨rfl, rfl, rfl, by decide +kernel, rfl, by decide +kernel, by decide +kernel⟩
def g_check_steps : GS :=
  sIf (bOr (bNot (b1 truth (eF fIsi (aCons (eVar 0) (aCons (eC (.ty "list")) (aNil)))))) (bOr (b2 cGt (eF fLen (aCons (eVar 0) (aNil))) (eC c_MOST_STEPS)) (bNot (b1 truth (eF fAll (aCons (eLst (lComp (iAny (eVar 0)) [1] (tName 1) (bYes) (eCall (m_is_map) (aCons (eVar 1) (aNil))))) (aNil)))))))
    (sRaise1 "BadMap" "reason" (aCons (eC (.str [115, 116, 101, 112, 115])) (aNil)))
    (sNil)
def m_check_steps : List D → Res D := runF 1 2 g_check_steps
theorem ok_check_steps {f : Addr} {fd : FuncData} {C_BadMap : Addr} {v_MOST_STEPS : V} (F : Fun K "check_steps" "check_steps" s_check_steps f fd) (hm : mg "check_steps" = some (.ref f)) (b_list : mg "list" = none) (b_isinstance : mg "isinstance" = none) (b_len : mg "len" = none) (g_MOST_STEPS : ∃ u, mg "MOST_STEPS" = some u ∧ RelV v_MOST_STEPS u) (r_MOST_STEPS : ∀ H, Rep K H c_MOST_STEPS v_MOST_STEPS) (k_is_map : Fk P w K mg base 2 "is_map" 1 m_is_map) (b_all : mg "all" = none) (x1_BadMap : Ex1 P w K mg base "BadMap" "reason" C_BadMap) : Fk P w K mg base 3 "check_steps" 1 m_check_steps :=
  fk_mk (k := 2) F sc_check_steps hm (fun _ _ _ _ _ _ us hl => match us, hl with | [_], _ => rfl) rfl rfl (by decide) fun cdv A outer s H E hr tk po => by
    have nd := sc_check_steps.nd
    exact (fss_one (fs_if (ft_w (fw_or (ft_not (ft_truth (fe_isi b_isinstance (fa_cons (fe_var 0) (fa_cons (fe_ty b_list bt_list) fa_nil))))) (fw_or (ft_gt (fe_len b_len (fa_cons (fe_var 0) fa_nil)) (fe_glob g_MOST_STEPS r_MOST_STEPS)) (fw_or1 (ft_not (ft_truth (fe_all b_all rfl (fa_cons (fe_l (fl_comp (own := [("m", 1)]) rfl nd (show blkC N_check_steps (defScope s_check_steps) _ _ = true by decide +kernel) (fi_any (fe_var 0)) (fun _ _ _ _ _ => (fg_name 1 nd)) (fun _ _ _ _ _ => fts_nil) (fun _ _ _ _ _ => (fe_call k_is_map (hr.mono (by omega)) takes0 (fa_cons (fe_var 1) fa_nil))))) fa_nil))))))))
    (fss_one (fs_raise1 x1_BadMap (hr.mono (by omega)) rfl tk (fa_cons fe_str fa_nil)))
    fss_nil))
abbrev s_track : Stmt := topS 20
abbrev N_track : List Str := ["m", "steps", "found", "step"]
theorem sc_track : FnScope N_track ["m", "steps"] (defScope s_track) := ⟨rfl, rfl, rfl, by decide +kernel, rfl, by decide +kernel, by decide +kernel⟩
def b_track_1 : GS :=
  sApp 2 (eCall (m_first_then) (aCons (eIxO 2 (e1 dNeg (eC (.int 1)))) (aCons (eVar 3) (aNil))))
def r_track_2 : GS :=
  sRetO 2
def g_track : GS :=
  sSeq (sExpr (eCall (m_check_map) (aCons (eVar 0) (aNil))))
    (sSeq (sExpr (eCall (m_check_steps) (aCons (eVar 1) (aNil))))
    (sSeq (sSetL 2 (lDisp (aCons (eVar 0) (aNil))))
    (sSeq (sFor (iAny (eVar 1)) (tName 3)
    (b_track_1))
    (r_track_2))))
def m_track : List D → Res D := runF 2 4 g_track
theorem ok_track {f : Addr} {fd : FuncData} (F : Fun K "track" "track" s_track f fd) (hm : mg "track" = some (.ref f)) (k_check_map : Fk P w K mg base 3 "check_map" 1 m_check_map) (k_check_steps : Fk P w K mg base 3 "check_steps" 1 m_check_steps) (k_first_then : Fk P w K mg base 2 "first_then" 2 m_first_then) : Fk P w K mg base 4 "track" 2 m_track :=
  fk_mk (k := 3) F sc_track hm (fun _ _ _ _ _ _ us hl => match us, hl with | [_, _], _ => rfl) rfl rfl (by decide) fun cdv A outer s H E hr tk po => by
    have nd := sc_track.nd
    exact (fss_cons (fs_expr (fe_call k_check_map (hr.mono (by omega)) tk (fa_cons (fe_var 0) fa_nil)))
    (fss_cons (fs_expr (fe_call k_check_steps (hr.mono (by omega)) tk (fa_cons (fe_var 1) fa_nil)))
    (fss_cons (fs_setL 2 (fl_disp (fa_cons (fe_var 0) fa_nil)) nd)
    (fss_cons (fs_for po rfl (fi_any (fe_var 1)) (fg_name 3 nd)
    (fss_one (fs_app 2 (fe_call k_first_then (hr.mono (by omega)) tk (fa_cons (fe_ixO 2 (fe_neg fe_int)) (fa_cons (fe_var 3) fa_nil))) (hp := pe_bm PySem.F.plainAttrs_list PySem.F.slot_list_append PySem.F.type_list_append mt_append (pv 2) (pa_cons (fe_call k_first_then (hr.mono (by omega)) tk (fa_cons (fe_ixO 2 (fe_neg fe_int)) (fa_cons (fe_var 3) fa_nil))) pa_nil)))))
    (fss_one (fs_retO 2))))))
def gl_track : GSL :=
  lSeq (sExpr (eCall (m_check_map) (aCons (eVar 0) (aNil))))
    (lSeq (sExpr (eCall (m_check_steps) (aCons (eVar 1) (aNil))))
    (lSeq (sSetL 2 (lDisp (aCons (eVar 0) (aNil))))
    (lSeq (sFor (iAny (eVar 1)) (tName 3)
    (b_track_1))
    (lRet 2))))
def ml_track : List D → Res (List D) := runFL 2 4 gl_track
theorem okl_track {f : Addr} {fd : FuncData} (F : Fun K "track" "track" s_track f fd) (hm : mg "track" = some (.ref f)) (k_check_map : Fk P w K mg base 3 "check_map" 1 m_check_map) (k_check_steps : Fk P w K mg base 3 "check_steps" 1 m_check_steps) (k_first_then : Fk P w K mg base 2 "first_then" 2 m_first_then) : FkL P w K mg base 4 "track" 2 ml_track :=
  fkl_mk (k := 3) F sc_track hm (fun _ _ _ _ _ _ us hl => match us, hl with | [_, _], _ => rfl) rfl rfl (by decide) fun cdv A outer s H E hr tk po => by
    have nd := sc_track.nd
    exact (fsl_cons (fs_expr (fe_call k_check_map (hr.mono (by omega)) tk (fa_cons (fe_var 0) fa_nil)))
    (fsl_cons (fs_expr (fe_call k_check_steps (hr.mono (by omega)) tk (fa_cons (fe_var 1) fa_nil)))
    (fsl_cons (fs_setL 2 (fl_disp (fa_cons (fe_var 0) fa_nil)) nd)
    (fsl_cons (fs_for po rfl (fi_any (fe_var 1)) (fg_name 3 nd)
    (fss_one (fs_app 2 (fe_call k_first_then (hr.mono (by omega)) tk (fa_cons (fe_ixO 2 (fe_neg fe_int)) (fa_cons (fe_var 3) fa_nil))) (hp := pe_bm PySem.F.plainAttrs_list PySem.F.slot_list_append PySem.F.type_list_append mt_append (pv 2) (pa_cons (fe_call k_first_then (hr.mono (by omega)) tk (fa_cons (fe_ixO 2 (fe_neg fe_int)) (fa_cons (fe_var 3) fa_nil))) pa_nil)))))
    (fsl_ret 2)))))
abbrev s_steps_between : Stmt := topS 21
abbrev N_steps_between : List Str := ["maps", "one", "other"]
theorem sc_steps_between : FnScope N_steps_between ["maps"] (defScope s_steps_between) := ⟨rfl, rfl, rfl, by decide +kernel, rfl, by decide +kernel, by decide +kernel⟩
def g_steps_between : GS :=
  sSeq (sExpr (eCall (m_check_steps) (aCons (eVar 0) (aNil))))
    (sRet (eLst (lComp (lF zipF (aCons (eVar 0) (aCons (eSl dSl (eVar 0) (oSome (eC (.int 1))) (oNone)) (aNil)))) [1, 2] (tTup 2 (tsCons (tName 1) (tsCons (tName 2) (tsNil)))) (bYes) (eCall (m_first_then) (aCons (eCall (m_back_map) (aCons (eVar 1) (aNil))) (aCons (eVar 2) (aNil)))))))
def m_steps_between : List D → Res D := runF 1 3 g_steps_between
theorem ok_steps_between {f : Addr} {fd : FuncData} (F : Fun K "steps_between" "steps_between" s_steps_between f fd) (hm : mg "steps_between" = some (.ref f)) (k_check_steps : Fk P w K mg base 3 "check_steps" 1 m_check_steps) (b_zip : mg "zip" = none) (k_first_then : Fk P w K mg base 2 "first_then" 2 m_first_then) (k_back_map : Fk P w K mg base 2 "back_map" 1 m_back_map) : Fk P w K mg base 4 "steps_between" 1 m_steps_between :=
  fk_mk (k := 3) F sc_steps_between hm (fun _ _ _ _ _ _ us hl => match us, hl with | [_], _ => rfl) rfl rfl (by decide) fun cdv A outer s H E hr tk po => by
    have nd := sc_steps_between.nd
    exact (fss_cons (fs_expr (fe_call k_check_steps (hr.mono (by omega)) tk (fa_cons (fe_var 0) fa_nil)))
    (fss_one (fs_ret (fe_l (fl_comp (own := [("one", 1), ("other", 2)]) rfl nd (show blkC N_steps_between (defScope s_steps_between) _ _ = true by decide +kernel) (fi_zip b_zip (fa_cons (fe_var 0) (fa_cons (fe_sl (fe_var 0) (fo_some fe_int) fo_none) fa_nil))) (fun _ _ _ _ _ => (fg_tup rfl (fgs_cons (fg_name 1 nd) (fgs_cons (fg_name 2 nd) fgs_nil)))) (fun _ _ _ _ _ => fts_nil) (fun _ _ _ _ _ => (fe_call k_first_then (hr.mono (by omega)) takes0 (fa_cons (fe_call k_back_map (hr.mono (by omega)) takes0 (fa_cons (fe_var 1) fa_nil)) (fa_cons (fe_var 2) fa_nil)))))))))
abbrev s_seen_steps : Stmt := topS 22
abbrev N_seen_steps : List Str := ["maps", "side", "index", "m"]
theorem sc_seen_steps : FnScope N_seen_steps ["maps", "side"] (defScope s_seen_steps) := ⟨rfl, rfl, rfl, by decide +kernel, rfl, by decide +kernel, by decide +kernel⟩
def g_seen_steps : GS :=
  sRet (eLst (lComp (lF enumF2 (aCons (eVar 0) (aNil))) [2, 3] (tTup 2 (tsCons (tName 2) (tsCons (tName 3) (tsNil)))) (b1 truth (eCall (m_sees_square) (aCons (eVar 3) (aCons (eVar 1) (aNil))))) (eVar 2)))
def m_seen_steps : List D → Res D := runF 2 4 g_seen_steps
theorem ok_seen_steps {f : Addr} {fd : FuncData} (F : Fun K "seen_steps" "seen_steps" s_seen_steps f fd) (hm : mg "seen_steps" = some (.ref f)) (b_enumerate : mg "enumerate" = none) (k_sees_square : Fk P w K mg base 3 "sees_square" 2 m_sees_square) : Fk P w K mg base 4 "seen_steps" 2 m_seen_steps :=
  fk_mk (k := 3) F sc_seen_steps hm (fun _ _ _ _ _ _ us hl => match us, hl with | [_, _], _ => rfl) rfl rfl (by decide) fun cdv A outer s H E hr tk po => by
    have nd := sc_seen_steps.nd
    exact (fss_one (fs_ret (fe_l (fl_comp (own := [("index", 2), ("m", 3)]) rfl nd (show blkC N_seen_steps (defScope s_seen_steps) _ _ = true by decide +kernel) (fi_enum2 b_enumerate (fa_cons (fe_var 0) fa_nil)) (fun _ _ _ _ _ => (fg_tup rfl (fgs_cons (fg_name 2 nd) (fgs_cons (fg_name 3 nd) fgs_nil)))) (fun _ _ _ _ _ => (fts_one (ft_truth (fe_call k_sees_square (hr.mono (by omega)) takes0 (fa_cons (fe_var 3) (fa_cons (fe_var 1) fa_nil)))))) (fun _ _ _ _ _ => (fe_var 2))))))
abbrev s_between_maps : Stmt := topS 23
abbrev N_between_maps : List Str := ["first", "second", "share", "of", "found", "a", "b"]
theorem sc_between_maps : FnScope N_between_maps ["first", "second", "share", "of"] (defScope s_between_maps) := ⟨rfl, rfl, rfl, by decide +kernel, rfl, by decide +kernel, by decide +kernel⟩
def b_between_maps_1 : GS :=
  sApp 4 (e2 dPlus (e2 dMul (e2 dMul (e2 dSub (eVar 3) (eVar 2)) (eVar 5)) (e2 dIx (eVar 1) (eC (.int 8)))) (e2 dMul (e2 dMul (eVar 2) (eVar 6)) (e2 dIx (eVar 0) (eC (.int 8)))))
def r_between_maps_2 : GS :=
  sSeq (sFrz 4 (sSet 4 (eCall (m_lowest) (aCons (eVar 4) (aNil)))))
    (sSeq (sIf (bNot (b1 truth (eCall (m_is_map) (aCons (eVar 4) (aNil)))))
    (sRaise1 "BadMap" "reason" (aCons (eC (.str [109, 97, 112])) (aNil)))
    (sNil))
    (sRet (eVar 4)))
def g_between_maps : GS :=
  sSeq (sIf (bOr (bNot (b1 truth (eCall (m_is_whole) (aCons (eVar 2) (aNil))))) (bOr (bNot (b1 truth (eCall (m_is_whole) (aCons (eVar 3) (aNil))))) (bOr (bNot (bChain cLe cLe (eC (.int 0)) (eVar 2) (eVar 3))) (b2 cLt (eVar 3) (eC (.int 1))))))
    (sRaise1 "BadMap" "reason" (aCons (eC (.str [115, 104, 97, 114, 101])) (aNil)))
    (sNil))
    (sSeq (sIf (bOr (b2 cLe (e2 dIx (eVar 0) (eC (.int 8))) (eC (.int 0))) (b2 cLe (e2 dIx (eVar 1) (eC (.int 8))) (eC (.int 0))))
    (sRaise1 "BadMap" "reason" (aCons (eC (.str [108, 97, 115, 116])) (aNil)))
    (sNil))
    (sSeq (sSetL 4 (lDisp (aNil)))
    (sSeq (sFor (lF zipF (aCons (eVar 0) (aCons (eVar 1) (aNil)))) (tTup 2 (tsCons (tName 5) (tsCons (tName 6) (tsNil))))
    (b_between_maps_1))
    (r_between_maps_2))))
def m_between_maps : List D → Res D := runF 4 7 g_between_maps
theorem ok_between_maps {f : Addr} {fd : FuncData} {C_BadMap : Addr} (F : Fun K "between_maps" "between_maps" s_between_maps f fd) (hm : mg "between_maps" = some (.ref f)) (k_is_whole : Fk P w K mg base 1 "is_whole" 1 m_is_whole) (x1_BadMap : Ex1 P w K mg base "BadMap" "reason" C_BadMap) (b_zip : mg "zip" = none) (k_lowest : Fk P w K mg base 1 "lowest" 1 m_lowest) (k_is_map : Fk P w K mg base 2 "is_map" 1 m_is_map) : Fk P w K mg base 3 "between_maps" 4 m_between_maps :=
  fk_mk (k := 2) F sc_between_maps hm (fun _ _ _ _ _ _ us hl => match us, hl with | [_, _, _, _], _ => rfl) rfl rfl (by decide) fun cdv A outer s H E hr tk po => by
    have nd := sc_between_maps.nd
    exact (fss_cons (fs_if (ft_w (fw_or (ft_not (ft_truth (fe_call k_is_whole (hr.mono (by omega)) tk (fa_cons (fe_var 2) fa_nil)))) (fw_or (ft_not (ft_truth (fe_call k_is_whole (hr.mono (by omega)) tk (fa_cons (fe_var 3) fa_nil)))) (fw_or (ft_not (ft_lele fe_int (fe_var 2) (fe_var 3))) (fw_or1 (ft_lt (fe_var 3) fe_int))))))
    (fss_one (fs_raise1 x1_BadMap (hr.mono (by omega)) rfl tk (fa_cons fe_str fa_nil)))
    fss_nil)
    (fss_cons (fs_if (ft_w (fw_or (ft_le (fe_ix (fe_var 0) fe_int) fe_int) (fw_or1 (ft_le (fe_ix (fe_var 1) fe_int) fe_int))))
    (fss_one (fs_raise1 x1_BadMap (hr.mono (by omega)) rfl tk (fa_cons fe_str fa_nil)))
    fss_nil)
    (fss_cons (fs_setL 4 (fl_disp fa_nil) nd)
    (fss_cons (fs_for po rfl (fi_zip b_zip (fa_cons (fe_var 0) (fa_cons (fe_var 1) fa_nil))) (fg_tup rfl (fgs_cons (fg_name 5 nd) (fgs_cons (fg_name 6 nd) fgs_nil)))
    (fss_one (fs_app 4 (fe_plus (fe_mul (fe_mul (fe_sub (fe_var 3) (fe_var 2)) (fe_var 5)) (fe_ix (fe_var 1) fe_int)) (fe_mul (fe_mul (fe_var 2) (fe_var 6)) (fe_ix (fe_var 0) fe_int))) (hp := pe_bm PySem.F.plainAttrs_list PySem.F.slot_list_append PySem.F.type_list_append mt_append (pv 4) (pa_cons (fe_plus (fe_mul (fe_mul (fe_sub (fe_var 3) (fe_var 2)) (fe_var 5)) (fe_ix (fe_var 1) fe_int)) (fe_mul (fe_mul (fe_var 2) (fe_var 6)) (fe_ix (fe_var 0) fe_int))) pa_nil)))))
    (fss_cons (fs_frz 4 (fs_set 4 (fe_call k_lowest (hr.mono (by omega)) tk (fa_cons (fe_var 4) fa_nil)) nd))
    (fss_cons (fs_if (ft_not (ft_truth (fe_call k_is_map (hr.mono (by omega)) tk (fa_cons (fe_var 4) fa_nil))))
    (fss_one (fs_raise1 x1_BadMap (hr.mono (by omega)) rfl tk (fa_cons fe_str fa_nil)))
    fss_nil)
    (fss_one (fs_ret (fe_var 4)))))))))
abbrev s__law_numbers : Stmt := topS 25
abbrev N__law_numbers : List Str := ["script", "at", "count", "cell", "numbers", "k", "mixed"]
theorem sc__law_numbers : FnScope N__law_numbers ["script", "at", "count"] (defScope s__law_numbers) := ⟨rfl, rfl, rfl, by decide +kernel, rfl, by decide +kernel, by decide +kernel⟩
theorem ok__law_numbers {f : Addr} {fd : FuncData} (F : Fun K "_law_numbers" "_law_numbers" s__law_numbers f fd) (hm : mg "_law_numbers" = some (.ref f)) (b_len : mg "len" = none) (b_int : mg "int" = none) (b_range : mg "range" = none) : Fk P w K mg base 1 "_law_numbers" 3 m__law_numbers :=
  fk_mk (k := 0) F sc__law_numbers hm (fun _ _ _ _ _ _ us hl => match us, hl with | [_, _, _], _ => rfl) rfl rfl (by decide) fun cdv A outer s H E hr tk po => by
    have nd := sc__law_numbers.nd
    exact (fss_cons (fs_set 3 (fe_mul fe_int (fe_plus (fe_var 1) fe_int)) nd)
    (fss_cons (fs_if (ft_lt (fe_var 1) (fe_len b_len (fa_cons (fe_var 0) fa_nil)))
    (fss_one (fs_set 3 (fe_cint b_int (fa_cons (fe_ix (fe_var 0) (fe_var 1)) fa_nil)) nd))
    fss_nil)
    (fss_cons (fs_if (ft_lt (fe_var 3) fe_int)
    (fss_one (fs_set 3 (fe_sub fe_int (fe_mul fe_int (fe_var 3))) nd))
    fss_nil)
    (fss_cons (fs_setL 4 (fl_disp fa_nil) nd)
    (fss_cons (fs_for po rfl (fi_range1 b_range (fa_cons (fe_var 2) fa_nil)) (fg_name 5 nd)
    (fss_one (fs_if (ft_ge (fe_var 3) (fe_pow fe_int fe_int))
    (fss_cons (fs_app 4 (fe_mod (fe_var 3) fe_int) (hp := pe_bm PySem.F.plainAttrs_list PySem.F.slot_list_append PySem.F.type_list_append mt_append (pv 4) (pa_cons (fe_mod (fe_var 3) fe_int) pa_nil)))
    (fss_one (fs_set 3 (fe_fdiv (fe_var 3) fe_int) nd)))
    (fss_cons (fs_set 6 (fe_mod (fe_plus (fe_plus (fe_mul (fe_var 3) fe_int) (fe_mul (fe_plus (fe_var 5) fe_int) fe_int)) (fe_mul (fe_var 1) fe_int)) fe_int) nd)
    (fss_cons (fs_set 6 (fe_mod (fe_plus (fe_mul (fe_var 6) (fe_var 6)) (fe_mul fe_int (fe_plus (fe_var 5) fe_int))) fe_int) nd)
    (fss_one (fs_app 4 (fe_mod (fe_fdiv (fe_var 6) fe_int) fe_int) (hp := pe_bm PySem.F.plainAttrs_list PySem.F.slot_list_append PySem.F.type_list_append mt_append (pv 4) (pa_cons (fe_mod (fe_fdiv (fe_var 6) fe_int) fe_int) pa_nil)))))))))
    (fss_one (fs_retO 4)))))))
abbrev s__law_same : Stmt := topS 26
abbrev N__law_same : List Str := ["told", "due", "k"]
theorem sc__law_same : FnScope N__law_same ["told", "due"] (defScope s__law_same) := ⟨rfl, rfl, rfl, by decide +kernel, rfl, by decide +kernel, by decide +kernel⟩
theorem ok__law_same {f : Addr} {fd : FuncData} (F : Fun K "_law_same" "_law_same" s__law_same f fd) (hm : mg "_law_same" = some (.ref f)) (b_str : mg "str" = none) (b_isinstance : mg "isinstance" = none) (b_int : mg "int" = none) (b_bool : mg "bool" = none) (b_tuple : mg "tuple" = none) (b_list : mg "list" = none) (b_len : mg "len" = none) (b_range : mg "range" = none) : ∀ k, Fk P w K mg base (k + 1) "_law_same" 2 (m__law_same k)
  | 0 => (fk_stuck (ps := ["told", "due"]) F hm (fun _ _ _ _ _ _ us hl => match us, hl with | [_, _], _ => rfl)).mono (by omega)
  | k + 1 => fk_mk F sc__law_same hm (fun _ _ _ _ _ _ us hl => match us, hl with | [_, _], _ => rfl) rfl rfl (by decide) fun cdv A outer s H E hr tk po => by
    have ih := ok__law_same F hm b_str b_isinstance b_int b_bool b_tuple b_list b_len b_range k
    have nd := sc__law_same.nd
    exact (fss_cons (fs_if (ft_is (fe_var 1) fe_non)
    (fss_one (fs_ret (fe_is (fe_var 0) fe_non)))
    fss_nil)
    (fss_cons (fs_if (ft_is (fe_var 1) fe_bl)
    (fss_one (fs_ret (fe_is (fe_var 0) fe_bl)))
    fss_nil)
    (fss_cons (fs_if (ft_is (fe_var 1) fe_bl)
    (fss_one (fs_ret (fe_is (fe_var 0) fe_bl)))
    fss_nil)
    (fss_cons (fs_if (ft_truth (fe_isi b_isinstance (fa_cons (fe_var 1) (fa_cons (fe_ty b_str bt_str) fa_nil))))
    (fss_one (fs_ret (fe_and (fe_isi b_isinstance (fa_cons (fe_var 0) (fa_cons (fe_ty b_str bt_str) fa_nil))) (fe_one (fe_eq hr (fe_var 0) (fe_var 1))))))
    fss_nil)
    (fss_cons (fs_if (ft_truth (fe_isi b_isinstance (fa_cons (fe_var 1) (fa_cons (fe_ty b_int bt_int) fa_nil))))
    (fss_one (fs_ret (fe_and (fe_isi b_isinstance (fa_cons (fe_var 0) (fa_cons (fe_ty b_int bt_int) fa_nil))) (fe_and (fe_not (fe_isi b_isinstance (fa_cons (fe_var 0) (fa_cons (fe_ty b_bool bt_bool) fa_nil)))) (fe_one (fe_eq hr (fe_var 0) (fe_var 1)))))))
    fss_nil)
    (fss_cons (fs_if (ft_w (fw_and (ft_truth (fe_isi b_isinstance (fa_cons (fe_var 1) (fa_cons (fe_ty b_tuple bt_tuple) fa_nil)))) (fw_and1 (ft_not (ft_truth (fe_isi b_isinstance (fa_cons (fe_var 0) (fa_cons (fe_ty b_tuple bt_tuple) fa_nil))))))))
    (fss_one (fs_ret fe_bl))
    fss_nil)
    (fss_cons (fs_if (ft_w (fw_and (ft_truth (fe_isi b_isinstance (fa_cons (fe_var 1) (fa_cons (fe_ty b_list bt_list) fa_nil)))) (fw_and1 (ft_not (ft_truth (fe_isi b_isinstance (fa_cons (fe_var 0) (fa_cons (fe_ty b_list bt_list) fa_nil))))))))
    (fss_one (fs_ret fe_bl))
    fss_nil)
    (fss_cons (fs_if (ft_ne hr (fe_len b_len (fa_cons (fe_var 0) fa_nil)) (fe_len b_len (fa_cons (fe_var 1) fa_nil)))
    (fss_one (fs_ret fe_bl))
    fss_nil)
    (fss_cons (fs_for po rfl (fi_range1 b_range (fa_cons (fe_len b_len (fa_cons (fe_var 1) fa_nil)) fa_nil)) (fg_name 2 nd)
    (fss_one (fs_if (ft_not (ft_truth (fe_call ih (hr.mono (by omega)) tk (fa_cons (fe_ix (fe_var 0) (fe_var 2)) (fa_cons (fe_ix (fe_var 1) (fe_var 2)) fa_nil)))))
    (fss_one (fs_ret fe_bl))
    fss_nil)))
    (fss_one (fs_ret fe_bl)))))))))))
abbrev s__law_divisor : Stmt := topS 27
abbrev N__law_divisor : List Str := ["a", "b", "k", "rest"]
theorem sc__law_divisor : FnScope N__law_divisor ["a", "b"] (defScope s__law_divisor) := ⟨rfl, rfl, rfl, by decide +kernel, rfl, by decide +kernel, by decide +kernel⟩
def b__law_divisor_1 : GS :=
  sSeq (sIf (b2 cEq (eVar 1) (eC (.int 0)))
    (sBreak)
    (sNil))
    (sSeq (sSet 3 (e2 dMod (eVar 0) (eVar 1)))
    (sSeq (sSet 0 (eVar 1))
    (sSet 1 (eVar 3))))
def r__law_divisor_2 : GS :=
  sRet (eVar 0)
def g__law_divisor : GS :=
  sSeq (sSet 0 (eF fAbs (aCons (eVar 0) (aNil))))
    (sSeq (sSet 1 (eF fAbs (aCons (eVar 1) (aNil))))
    (sSeq (sFor (lF rg1 (aCons (eC (.int 2000)) (aNil))) (tName 2)
    (b__law_divisor_1))
    (r__law_divisor_2)))
def m__law_divisor : List D → Res D := runF 2 4 g__law_divisor
theorem ok__law_divisor {f : Addr} {fd : FuncData} (F : Fun K "_law_divisor" "_law_divisor" s__law_divisor f fd) (hm : mg "_law_divisor" = some (.ref f)) (b_abs : mg "abs" = none) (b_range : mg "range" = none) : Fk P w K mg base 1 "_law_divisor" 2 m__law_divisor :=
  fk_mk (k := 0) F sc__law_divisor hm (fun _ _ _ _ _ _ us hl => match us, hl with | [_, _], _ => rfl) rfl rfl (by decide) fun cdv A outer s H E hr tk po => by
    have nd := sc__law_divisor.nd
    exact (fss_cons (fs_set 0 (fe_abs b_abs (fa_cons (fe_var 0) fa_nil)) nd)
    (fss_cons (fs_set 1 (fe_abs b_abs (fa_cons (fe_var 1) fa_nil)) nd)
    (fss_cons (fs_for po rfl (fi_range1 b_range (fa_cons fe_int fa_nil)) (fg_name 2 nd)
    (fss_cons (fs_if (ft_eq hr (fe_var 1) fe_int)
    (fss_one fs_break)
    fss_nil)
    (fss_cons (fs_set 3 (fe_mod (fe_var 0) (fe_var 1)) nd)
    (fss_cons (fs_set 0 (fe_var 1) nd)
    (fss_one (fs_set 1 (fe_var 3) nd))))))
    (fss_one (fs_ret (fe_var 0))))))
abbrev s__law_short : Stmt := topS 28
abbrev N__law_short : List Str := ["numbers", "by", "n"]
theorem sc__law_short : FnScope N__law_short ["numbers"] (defScope s__law_short) := ⟨rfl, rfl, rfl, by decide +kernel, rfl, by decide +kernel, by decide +kernel⟩
def b__law_short_1 : GS :=
  sSet 1 (eCall (m__law_divisor) (aCons (eVar 1) (aCons (eVar 2) (aNil))))
def r__law_short_2 : GS :=
  sSeq (sIf (b2 cEq (eVar 1) (eC (.int 0)))
    (sRet (eF fTuple (aCons (eVar 0) (aNil))))
    (sNil))
    (sRet (eF fTuple (aCons (eLst (lComp (iAny (eVar 0)) [2] (tName 2) (bYes) (e2 dFdiv (eVar 2) (eVar 1)))) (aNil))))
def g__law_short : GS :=
  sSeq (sSet 1 (eC (.int 0)))
    (sSeq (sFor (iAny (eVar 0)) (tName 2)
    (b__law_short_1))
    (r__law_short_2))
def m__law_short : List D → Res D := runF 1 3 g__law_short
theorem ok__law_short {f : Addr} {fd : FuncData} (F : Fun K "_law_short" "_law_short" s__law_short f fd) (hm : mg "_law_short" = some (.ref f)) (k__law_divisor : Fk P w K mg base 1 "_law_divisor" 2 m__law_divisor) (b_tuple : mg "tuple" = none) : Fk P w K mg base 2 "_law_short" 1 m__law_short :=
  fk_mk (k := 1) F sc__law_short hm (fun _ _ _ _ _ _ us hl => match us, hl with | [_], _ => rfl) rfl rfl (by decide) fun cdv A outer s H E hr tk po => by
    have nd := sc__law_short.nd
    exact (fss_cons (fs_set 1 fe_int nd)
    (fss_cons (fs_for po rfl (fi_any (fe_var 0)) (fg_name 2 nd)
    (fss_one (fs_set 1 (fe_call k__law_divisor (hr.mono (by omega)) tk (fa_cons (fe_var 1) (fa_cons (fe_var 2) fa_nil))) nd)))
    (fss_cons (fs_if (ft_eq hr (fe_var 1) fe_int)
    (fss_one (fs_ret (fe_ctuple b_tuple (fa_cons (fe_var 0) fa_nil))))
    fss_nil)
    (fss_one (fs_ret (fe_ctuple b_tuple (fa_cons (fe_l (fl_comp (own := [("n", 2)]) rfl nd (show blkC N__law_short (defScope s__law_short) _ _ = true by decide +kernel) (fi_any (fe_var 0)) (fun _ _ _ _ _ => (fg_name 2 nd)) (fun _ _ _ _ _ => fts_nil) (fun _ _ _ _ _ => (fe_fdiv (fe_var 2) (fe_var 1))))) fa_nil)))))))
abbrev s__law_measure : Stmt := topS 29
abbrev N__law_measure : List Str := ["m", "found"]
theorem sc__law_measure : FnScope N__law_measure ["m"] (defScope s__law_measure) := ⟨rfl, rfl, rfl, by decide +kernel, rfl, by decide +kernel, by decide +kernel⟩
def g__law_measure : GS :=
  sSeq (sSet 1 (e2 dSub (e2 dMul (e2 dIx (eVar 0) (eC (.int 0))) (e2 dSub (e2 dMul (e2 dIx (eVar 0) (eC (.int 4))) (e2 dIx (eVar 0) (eC (.int 8)))) (e2 dMul (e2 dIx (eVar 0) (eC (.int 5))) (e2 dIx (eVar 0) (eC (.int 7)))))) (e2 dMul (e2 dIx (eVar 0) (eC (.int 1))) (e2 dSub (e2 dMul (e2 dIx (eVar 0) (eC (.int 3))) (e2 dIx (eVar 0) (eC (.int 8)))) (e2 dMul (e2 dIx (eVar 0) (eC (.int 5))) (e2 dIx (eVar 0) (eC (.int 6))))))))
    (sRet (e2 dPlus (eVar 1) (e2 dMul (e2 dIx (eVar 0) (eC (.int 2))) (e2 dSub (e2 dMul (e2 dIx (eVar 0) (eC (.int 3))) (e2 dIx (eVar 0) (eC (.int 7)))) (e2 dMul (e2 dIx (eVar 0) (eC (.int 4))) (e2 dIx (eVar 0) (eC (.int 6))))))))
def m__law_measure : List D → Res D := runF 1 2 g__law_measure
theorem ok__law_measure {f : Addr} {fd : FuncData} (F : Fun K "_law_measure" "_law_measure" s__law_measure f fd) (hm : mg "_law_measure" = some (.ref f)) : Fk P w K mg base 1 "_law_measure" 1 m__law_measure :=
  fk_mk (k := 0) F sc__law_measure hm (fun _ _ _ _ _ _ us hl => match us, hl with | [_], _ => rfl) rfl rfl (by decide) fun cdv A outer s H E hr tk po => by
    have nd := sc__law_measure.nd
    exact (fss_cons (fs_set 1 (fe_sub (fe_mul (fe_ix (fe_var 0) fe_int) (fe_sub (fe_mul (fe_ix (fe_var 0) fe_int) (fe_ix (fe_var 0) fe_int)) (fe_mul (fe_ix (fe_var 0) fe_int) (fe_ix (fe_var 0) fe_int)))) (fe_mul (fe_ix (fe_var 0) fe_int) (fe_sub (fe_mul (fe_ix (fe_var 0) fe_int) (fe_ix (fe_var 0) fe_int)) (fe_mul (fe_ix (fe_var 0) fe_int) (fe_ix (fe_var 0) fe_int))))) nd)
    (fss_one (fs_ret (fe_plus (fe_var 1) (fe_mul (fe_ix (fe_var 0) fe_int) (fe_sub (fe_mul (fe_ix (fe_var 0) fe_int) (fe_ix (fe_var 0) fe_int)) (fe_mul (fe_ix (fe_var 0) fe_int) (fe_ix (fe_var 0) fe_int))))))))
abbrev s__law_then : Stmt := topS 30
abbrev N__law_then : List Str := ["m", "n", "found", "i", "j"]
theorem sc__law_then : FnScope N__law_then ["m", "n"] (defScope s__law_then) := ⟨rfl, rfl, rfl, by decide +kernel, rfl, by decide +kernel, by decide +kernel⟩
def b__law_then_1 : GS :=
  sApp 2 (e2 dPlus (e2 dPlus (e2 dMul (e2 dIx (eVar 1) (e2 dMul (eC (.int 3)) (eVar 3))) (e2 dIx (eVar 0) (eVar 4))) (e2 dMul (e2 dIx (eVar 1) (e2 dPlus (e2 dMul (eC (.int 3)) (eVar 3)) (eC (.int 1)))) (e2 dIx (eVar 0) (e2 dPlus (eC (.int 3)) (eVar 4))))) (e2 dMul (e2 dIx (eVar 1) (e2 dPlus (e2 dMul (eC (.int 3)) (eVar 3)) (eC (.int 2)))) (e2 dIx (eVar 0) (e2 dPlus (eC (.int 6)) (eVar 4)))))
def b__law_then_2 : GS :=
  sFor (lF rg1 (aCons (eC (.int 3)) (aNil))) (tName 4)
    (b__law_then_1)
def r__law_then_3 : GS :=
  sFrz 2 (sRet (eCall (m__law_short) (aCons (eVar 2) (aNil))))
def g__law_then : GS :=
  sSeq (sSetL 2 (lDisp (aNil)))
    (sSeq (sFor (lF rg1 (aCons (eC (.int 3)) (aNil))) (tName 3)
    (b__law_then_2))
    (r__law_then_3))
def m__law_then : List D → Res D := runF 2 5 g__law_then
theorem ok__law_then {f : Addr} {fd : FuncData} (F : Fun K "_law_then" "_law_then" s__law_then f fd) (hm : mg "_law_then" = some (.ref f)) (b_range : mg "range" = none) (k__law_short : Fk P w K mg base 2 "_law_short" 1 m__law_short) : Fk P w K mg base 3 "_law_then" 2 m__law_then :=
  fk_mk (k := 2) F sc__law_then hm (fun _ _ _ _ _ _ us hl => match us, hl with | [_, _], _ => rfl) rfl rfl (by decide) fun cdv A outer s H E hr tk po => by
    have nd := sc__law_then.nd
    exact (fss_cons (fs_setL 2 (fl_disp fa_nil) nd)
    (fss_cons (fs_for po rfl (fi_range1 b_range (fa_cons fe_int fa_nil)) (fg_name 3 nd)
    (fss_one (fs_for po rfl (fi_range1 b_range (fa_cons fe_int fa_nil)) (fg_name 4 nd)
    (fss_one (fs_app 2 (fe_plus (fe_plus (fe_mul (fe_ix (fe_var 1) (fe_mul fe_int (fe_var 3))) (fe_ix (fe_var 0) (fe_var 4))) (fe_mul (fe_ix (fe_var 1) (fe_plus (fe_mul fe_int (fe_var 3)) fe_int)) (fe_ix (fe_var 0) (fe_plus fe_int (fe_var 4))))) (fe_mul (fe_ix (fe_var 1) (fe_plus (fe_mul fe_int (fe_var 3)) fe_int)) (fe_ix (fe_var 0) (fe_plus fe_int (fe_var 4))))) (hp := pe_bm PySem.F.plainAttrs_list PySem.F.slot_list_append PySem.F.type_list_append mt_append (pv 2) (pa_cons (fe_plus (fe_plus (fe_mul (fe_ix (fe_var 1) (fe_mul fe_int (fe_var 3))) (fe_ix (fe_var 0) (fe_var 4))) (fe_mul (fe_ix (fe_var 1) (fe_plus (fe_mul fe_int (fe_var 3)) fe_int)) (fe_ix (fe_var 0) (fe_plus fe_int (fe_var 4))))) (fe_mul (fe_ix (fe_var 1) (fe_plus (fe_mul fe_int (fe_var 3)) fe_int)) (fe_ix (fe_var 0) (fe_plus fe_int (fe_var 4))))) pa_nil)))))))
    (fss_one (fs_frz 2 (fs_ret (fe_call k__law_short (hr.mono (by omega)) tk (fa_cons (fe_var 2) fa_nil)))))))
abbrev s__law_back : Stmt := topS 31
abbrev N__law_back : List Str := ["m", "found", "n"]
theorem sc__law_back : FnScope N__law_back ["m"] (defScope s__law_back) := ⟨rfl, rfl, rfl, by decide +kernel, rfl, by decide +kernel, by decide +kernel⟩
def g__law_back : GS :=
  sSeq (sSet 1 (eLst (lDisp (aCons (e2 dSub (e2 dMul (e2 dIx (eVar 0) (eC (.int 4))) (e2 dIx (eVar 0) (eC (.int 8)))) (e2 dMul (e2 dIx (eVar 0) (eC (.int 5))) (e2 dIx (eVar 0) (eC (.int 7))))) (aCons (e2 dSub (e2 dMul (e2 dIx (eVar 0) (eC (.int 2))) (e2 dIx (eVar 0) (eC (.int 7)))) (e2 dMul (e2 dIx (eVar 0) (eC (.int 1))) (e2 dIx (eVar 0) (eC (.int 8))))) (aCons (e2 dSub (e2 dMul (e2 dIx (eVar 0) (eC (.int 1))) (e2 dIx (eVar 0) (eC (.int 5)))) (e2 dMul (e2 dIx (eVar 0) (eC (.int 2))) (e2 dIx (eVar 0) (eC (.int 4))))) (aNil)))))))
    (sSeq (sSet 1 (e2 dPlus (eVar 1) (eLst (lDisp (aCons (e2 dSub (e2 dMul (e2 dIx (eVar 0) (eC (.int 5))) (e2 dIx (eVar 0) (eC (.int 6)))) (e2 dMul (e2 dIx (eVar 0) (eC (.int 3))) (e2 dIx (eVar 0) (eC (.int 8))))) (aCons (e2 dSub (e2 dMul (e2 dIx (eVar 0) (eC (.int 0))) (e2 dIx (eVar 0) (eC (.int 8)))) (e2 dMul (e2 dIx (eVar 0) (eC (.int 2))) (e2 dIx (eVar 0) (eC (.int 6))))) (aCons (e2 dSub (e2 dMul (e2 dIx (eVar 0) (eC (.int 2))) (e2 dIx (eVar 0) (eC (.int 3)))) (e2 dMul (e2 dIx (eVar 0) (eC (.int 0))) (e2 dIx (eVar 0) (eC (.int 5))))) (aNil))))))))
    (sSeq (sSet 1 (e2 dPlus (eVar 1) (eLst (lDisp (aCons (e2 dSub (e2 dMul (e2 dIx (eVar 0) (eC (.int 3))) (e2 dIx (eVar 0) (eC (.int 7)))) (e2 dMul (e2 dIx (eVar 0) (eC (.int 4))) (e2 dIx (eVar 0) (eC (.int 6))))) (aCons (e2 dSub (e2 dMul (e2 dIx (eVar 0) (eC (.int 1))) (e2 dIx (eVar 0) (eC (.int 6)))) (e2 dMul (e2 dIx (eVar 0) (eC (.int 0))) (e2 dIx (eVar 0) (eC (.int 7))))) (aCons (e2 dSub (e2 dMul (e2 dIx (eVar 0) (eC (.int 0))) (e2 dIx (eVar 0) (eC (.int 4)))) (e2 dMul (e2 dIx (eVar 0) (eC (.int 1))) (e2 dIx (eVar 0) (eC (.int 3))))) (aNil))))))))
    (sSeq (sIf (b2 cLt (eCall (m__law_measure) (aCons (eVar 0) (aNil))) (eC (.int 0)))
    (sThen 1 (sSetL 1 (lComp (iAny (eVar 1)) [2] (tName 2) (bYes) (e1 dNeg (eVar 2)))))
    (sNil))
    (sRet (eCall (m__law_short) (aCons (eVar 1) (aNil)))))))
def m__law_back : List D → Res D := runF 1 3 g__law_back
theorem ok__law_back {f : Addr} {fd : FuncData} (F : Fun K "_law_back" "_law_back" s__law_back f fd) (hm : mg "_law_back" = some (.ref f)) (k__law_measure : Fk P w K mg base 1 "_law_measure" 1 m__law_measure) (k__law_short : Fk P w K mg base 2 "_law_short" 1 m__law_short) : Fk P w K mg base 3 "_law_back" 1 m__law_back :=
  fk_mk (k := 2) F sc__law_back hm (fun _ _ _ _ _ _ us hl => match us, hl with | [_], _ => rfl) rfl rfl (by decide) fun cdv A outer s H E hr tk po => by
    have nd := sc__law_back.nd
    exact (fss_cons (fs_set 1 (fe_l (fl_disp (fa_cons (fe_sub (fe_mul (fe_ix (fe_var 0) fe_int) (fe_ix (fe_var 0) fe_int)) (fe_mul (fe_ix (fe_var 0) fe_int) (fe_ix (fe_var 0) fe_int))) (fa_cons (fe_sub (fe_mul (fe_ix (fe_var 0) fe_int) (fe_ix (fe_var 0) fe_int)) (fe_mul (fe_ix (fe_var 0) fe_int) (fe_ix (fe_var 0) fe_int))) (fa_cons (fe_sub (fe_mul (fe_ix (fe_var 0) fe_int) (fe_ix (fe_var 0) fe_int)) (fe_mul (fe_ix (fe_var 0) fe_int) (fe_ix (fe_var 0) fe_int))) fa_nil))))) nd)
    (fss_cons (fs_set 1 (fe_plus (fe_var 1) (fe_l (fl_disp (fa_cons (fe_sub (fe_mul (fe_ix (fe_var 0) fe_int) (fe_ix (fe_var 0) fe_int)) (fe_mul (fe_ix (fe_var 0) fe_int) (fe_ix (fe_var 0) fe_int))) (fa_cons (fe_sub (fe_mul (fe_ix (fe_var 0) fe_int) (fe_ix (fe_var 0) fe_int)) (fe_mul (fe_ix (fe_var 0) fe_int) (fe_ix (fe_var 0) fe_int))) (fa_cons (fe_sub (fe_mul (fe_ix (fe_var 0) fe_int) (fe_ix (fe_var 0) fe_int)) (fe_mul (fe_ix (fe_var 0) fe_int) (fe_ix (fe_var 0) fe_int))) fa_nil)))))) nd)
    (fss_cons (fs_set 1 (fe_plus (fe_var 1) (fe_l (fl_disp (fa_cons (fe_sub (fe_mul (fe_ix (fe_var 0) fe_int) (fe_ix (fe_var 0) fe_int)) (fe_mul (fe_ix (fe_var 0) fe_int) (fe_ix (fe_var 0) fe_int))) (fa_cons (fe_sub (fe_mul (fe_ix (fe_var 0) fe_int) (fe_ix (fe_var 0) fe_int)) (fe_mul (fe_ix (fe_var 0) fe_int) (fe_ix (fe_var 0) fe_int))) (fa_cons (fe_sub (fe_mul (fe_ix (fe_var 0) fe_int) (fe_ix (fe_var 0) fe_int)) (fe_mul (fe_ix (fe_var 0) fe_int) (fe_ix (fe_var 0) fe_int))) fa_nil)))))) nd)
    (fss_cons (fs_if (ft_lt (fe_call k__law_measure (hr.mono (by omega)) tk (fa_cons (fe_var 0) fa_nil)) fe_int)
    (fss_one (fs_then 1 (fs_comp 1 (sw_true rfl rfl rfl (by decide +kernel)) (own := [("n", 2)]) rfl nd (show blkC N__law_back (defScope s__law_back) _ _ = true by decide +kernel) (fi_any (fe_var 1)) (fun _ _ _ _ _ => (fg_name 2 nd)) (fun _ _ _ _ _ => fts_nil) (fun _ _ _ _ _ => (fe_neg (fe_var 2))))))
    fss_nil)
    (fss_one (fs_ret (fe_call k__law_short (hr.mono (by omega)) tk (fa_cons (fe_var 1) fa_nil))))))))
abbrev s__law_map : Stmt := topS 32
abbrev N__law_map : List Str := ["draws", "numbers", "k"]
theorem sc__law_map : FnScope N__law_map ["draws"] (defScope s__law_map) := ⟨rfl, rfl, rfl, by decide +kernel, rfl, by decide +kernel, by decide +kernel⟩
def b__law_map_1 : GS :=
  sIf (bBor 1 (b2 cEq (eCall (m__law_measure) (aCons (eVar 1) (aNil))) (eC (.int 0))))
    (sSetIx 1 (e2 dMul (eC (.int 4)) (eVar 2)) (e2 dPlus (eIxO 1 (e2 dMul (eC (.int 4)) (eVar 2))) (eC (.int 37))))
    (sNil)
def r__law_map_2 : GS :=
  sSeq (sIf (bBor 1 (b2 cEq (eCall (m__law_measure) (aCons (eVar 1) (aNil))) (eC (.int 0))))
    (sSetL 1 (lDisp (aCons (eC (.int 2)) (aCons (eC (.int 0)) (aCons (eC (.int 5)) (aCons (eC (.int 0)) (aCons (eC (.int 3)) (aCons (eC (.int 1)) (aCons (eC (.int 0)) (aCons (eC (.int 0)) (aCons (eC (.int 1)) (aNil))))))))))))
    (sNil))
    (sFrz 1 (sRet (eCall (m__law_short) (aCons (eVar 1) (aNil)))))
def g__law_map : GS :=
  sSeq (sSetL 1 (lDisp (aCons (e2 dSub (e2 dMod (e2 dIx (eVar 0) (eC (.int 0))) (eC (.int 21))) (eC (.int 10))) (aCons (e2 dSub (e2 dMod (e2 dIx (eVar 0) (eC (.int 1))) (eC (.int 9))) (eC (.int 4))) (aCons (e2 dSub (e2 dMod (e2 dIx (eVar 0) (eC (.int 2))) (eC (.int 61))) (eC (.int 30))) (aCons (e2 dSub (e2 dMod (e2 dIx (eVar 0) (eC (.int 3))) (eC (.int 9))) (eC (.int 4))) (aCons (e2 dSub (e2 dMod (e2 dIx (eVar 0) (eC (.int 4))) (eC (.int 21))) (eC (.int 10))) (aCons (e2 dSub (e2 dMod (e2 dIx (eVar 0) (eC (.int 5))) (eC (.int 61))) (eC (.int 30))) (aNil)))))))))
    (sSeq (sFrz 1 (sSetL 1 (l2 lAdd (eVar 1) (eLst (lDisp (aCons (eC (.int 0)) (aCons (eC (.int 0)) (aCons (e2 dPlus (eC (.int 1)) (e2 dMod (e2 dIx (eVar 0) (eC (.int 8))) (eC (.int 9)))) (aNil)))))))))
    (sSeq (sIf (b2 cEq (e2 dMod (e2 dIx (eVar 0) (eC (.int 9))) (eC (.int 2))) (eC (.int 0)))
    (sSeq (sSetIx 1 (eC (.int 6)) (e2 dSub (e2 dMod (e2 dIx (eVar 0) (eC (.int 6))) (eC (.int 3))) (eC (.int 1))))
    (sSeq (sSetIx 1 (eC (.int 7)) (e2 dSub (e2 dMod (e2 dIx (eVar 0) (eC (.int 7))) (eC (.int 3))) (eC (.int 1))))
    (sSetIx 1 (eC (.int 8)) (e2 dPlus (eC (.int 20)) (e2 dMod (e2 dIx (eVar 0) (eC (.int 8))) (eC (.int 60)))))))
    (sNil))
    (sSeq (sFor (lF rg1 (aCons (eC (.int 2)) (aNil))) (tName 2)
    (b__law_map_1))
    (r__law_map_2))))
def m__law_map : List D → Res D := runF 1 3 g__law_map
theorem ok__law_map {f : Addr} {fd : FuncData} (F : Fun K "_law_map" "_law_map" s__law_map f fd) (hm : mg "_law_map" = some (.ref f)) (b_range : mg "range" = none) (k__law_measure : Fk P w K mg base 1 "_law_measure" 1 m__law_measure) (k__law_short : Fk P w K mg base 2 "_law_short" 1 m__law_short) : Fk P w K mg base 3 "_law_map" 1 m__law_map :=
  fk_mk (k := 2) F sc__law_map hm (fun _ _ _ _ _ _ us hl => match us, hl with | [_], _ => rfl) rfl rfl (by decide) fun cdv A outer s H E hr tk po => by
    have nd := sc__law_map.nd
    exact (fss_cons (fs_setL 1 (fl_disp (fa_cons (fe_sub (fe_mod (fe_ix (fe_var 0) fe_int) fe_int) fe_int) (fa_cons (fe_sub (fe_mod (fe_ix (fe_var 0) fe_int) fe_int) fe_int) (fa_cons (fe_sub (fe_mod (fe_ix (fe_var 0) fe_int) fe_int) fe_int) (fa_cons (fe_sub (fe_mod (fe_ix (fe_var 0) fe_int) fe_int) fe_int) (fa_cons (fe_sub (fe_mod (fe_ix (fe_var 0) fe_int) fe_int) fe_int) (fa_cons (fe_sub (fe_mod (fe_ix (fe_var 0) fe_int) fe_int) fe_int) fa_nil))))))) nd)
    (fss_cons (fs_frz 1 (fs_setL 1 (fl_add (fe_var 1) (fe_l (fl_disp (fa_cons fe_int (fa_cons fe_int (fa_cons (fe_plus fe_int (fe_mod (fe_ix (fe_var 0) fe_int) fe_int)) fa_nil)))))) nd))
    (fss_cons (fs_if (ft_eq hr (fe_mod (fe_ix (fe_var 0) fe_int) fe_int) fe_int)
    (fss_cons (fs_setIx 1 (fe_sub (fe_mod (fe_ix (fe_var 0) fe_int) fe_int) fe_int) fe_int)
    (fss_cons (fs_setIx 1 (fe_sub (fe_mod (fe_ix (fe_var 0) fe_int) fe_int) fe_int) fe_int)
    (fss_one (fs_setIx 1 (fe_plus fe_int (fe_mod (fe_ix (fe_var 0) fe_int) fe_int)) fe_int))))
    fss_nil)
    (fss_cons (fs_for po rfl (fi_range1 b_range (fa_cons fe_int fa_nil)) (fg_name 2 nd)
    (fss_one (fs_if (ft_bor 1 (ft_eq hr (fe_call k__law_measure (hr.mono (by omega)) tk (fa_cons (fe_var 1) fa_nil)) fe_int))
    (fss_one (fs_setIx 1 (fe_plus (fe_ixO 1 (fe_mul fe_int (fe_var 2))) fe_int) (fe_mul fe_int (fe_var 2))))
    fss_nil)))
    (fss_cons (fs_if (ft_bor 1 (ft_eq hr (fe_call k__law_measure (hr.mono (by omega)) tk (fa_cons (fe_var 1) fa_nil)) fe_int))
    (fss_one (fs_setL 1 (fl_disp (fa_cons fe_int (fa_cons fe_int (fa_cons fe_int (fa_cons fe_int (fa_cons fe_int (fa_cons fe_int (fa_cons fe_int (fa_cons fe_int (fa_cons fe_int fa_nil)))))))))) nd))
    fss_nil)
    (fss_one (fs_frz 1 (fs_ret (fe_call k__law_short (hr.mono (by omega)) tk (fa_cons (fe_var 1) fa_nil))))))))))
abbrev s__law_step : Stmt := topS 33
abbrev N__law_step : List Str := ["draws", "kind"]
theorem sc__law_step : FnScope N__law_step ["draws"] (defScope s__law_step) := ⟨rfl, rfl, rfl, by decide +kernel, rfl, by decide +kernel, by decide +kernel⟩
def g__law_step : GS :=
  sSeq (sSet 1 (e2 dMod (e2 dIx (eVar 0) (eC (.int 0))) (eC (.int 5))))
    (sSeq (sIf (b2 cEq (eVar 1) (eC (.int 0)))
    (sRet (eTup (aCons (eC (.int 1)) (aCons (eC (.int 0)) (aCons (e2 dSub (e2 dMod (e2 dIx (eVar 0) (eC (.int 1))) (eC (.int 41))) (eC (.int 20))) (aCons (eC (.int 0)) (aCons (eC (.int 1)) (aCons (e2 dSub (e2 dMod (e2 dIx (eVar 0) (eC (.int 2))) (eC (.int 41))) (eC (.int 20))) (aCons (eC (.int 0)) (aCons (eC (.int 0)) (aCons (eC (.int 1)) (aNil))))))))))))
    (sNil))
    (sSeq (sIf (b2 cEq (eVar 1) (eC (.int 1)))
    (sRet (eCall (m__law_short) (aCons (eLst (lDisp (aCons (e2 dPlus (eC (.int 1)) (e2 dMod (e2 dIx (eVar 0) (eC (.int 1))) (eC (.int 4)))) (aCons (eC (.int 0)) (aCons (eC (.int 0)) (aCons (eC (.int 0)) (aCons (e2 dPlus (eC (.int 1)) (e2 dMod (e2 dIx (eVar 0) (eC (.int 1))) (eC (.int 4)))) (aCons (eC (.int 0)) (aCons (eC (.int 0)) (aCons (eC (.int 0)) (aCons (e2 dPlus (eC (.int 1)) (e2 dMod (e2 dIx (eVar 0) (eC (.int 2))) (eC (.int 3)))) (aNil)))))))))))) (aNil))))
    (sNil))
    (sSeq (sIf (b2 cEq (eVar 1) (eC (.int 2)))
    (sRet (eTup (aCons (eC (.int 0)) (aCons (e1 dNeg (eC (.int 1))) (aCons (eC (.int 0)) (aCons (eC (.int 1)) (aCons (eC (.int 0)) (aCons (eC (.int 0)) (aCons (eC (.int 0)) (aCons (eC (.int 0)) (aCons (eC (.int 1)) (aNil))))))))))))
    (sNil))
    (sSeq (sIf (b2 cEq (eVar 1) (eC (.int 3)))
    (sRet (eTup (aCons (eC (.int 0)) (aCons (eC (.int 1)) (aCons (eC (.int 0)) (aCons (eC (.int 1)) (aCons (eC (.int 0)) (aCons (eC (.int 0)) (aCons (eC (.int 0)) (aCons (eC (.int 0)) (aCons (eC (.int 1)) (aNil))))))))))))
    (sNil))
    (sRet (eCall (m__law_short) (aCons (eLst (lDisp (aCons (eC (.int 30)) (aCons (eC (.int 0)) (aCons (e2 dMod (e2 dIx (eVar 0) (eC (.int 1))) (eC (.int 9))) (aCons (eC (.int 0)) (aCons (eC (.int 30)) (aCons (e2 dMod (e2 dIx (eVar 0) (eC (.int 2))) (eC (.int 9))) (aCons (e2 dSub (e2 dMod (e2 dIx (eVar 0) (eC (.int 1))) (eC (.int 3))) (eC (.int 1))) (aCons (e2 dSub (e2 dMod (e2 dIx (eVar 0) (eC (.int 2))) (eC (.int 3))) (eC (.int 1))) (aCons (e2 dPlus (eC (.int 30)) (e2 dMod (e2 dIx (eVar 0) (eC (.int 3))) (eC (.int 90)))) (aNil)))))))))))) (aNil))))))))
def m__law_step : List D → Res D := runF 1 2 g__law_step
theorem ok__law_step {f : Addr} {fd : FuncData} (F : Fun K "_law_step" "_law_step" s__law_step f fd) (hm : mg "_law_step" = some (.ref f)) (k__law_short : Fk P w K mg base 2 "_law_short" 1 m__law_short) : Fk P w K mg base 3 "_law_step" 1 m__law_step :=
  fk_mk (k := 2) F sc__law_step hm (fun _ _ _ _ _ _ us hl => match us, hl with | [_], _ => rfl) rfl rfl (by decide) fun cdv A outer s H E hr tk po => by
    have nd := sc__law_step.nd
    exact (fss_cons (fs_set 1 (fe_mod (fe_ix (fe_var 0) fe_int) fe_int) nd)
    (fss_cons (fs_if (ft_eq hr (fe_var 1) fe_int)
    (fss_one (fs_ret (fe_tup (fa_cons fe_int (fa_cons fe_int (fa_cons (fe_sub (fe_mod (fe_ix (fe_var 0) fe_int) fe_int) fe_int) (fa_cons fe_int (fa_cons fe_int (fa_cons (fe_sub (fe_mod (fe_ix (fe_var 0) fe_int) fe_int) fe_int) (fa_cons fe_int (fa_cons fe_int (fa_cons fe_int fa_nil))))))))))))
    fss_nil)
    (fss_cons (fs_if (ft_eq hr (fe_var 1) fe_int)
    (fss_one (fs_ret (fe_call k__law_short (hr.mono (by omega)) tk (fa_cons (fe_l (fl_disp (fa_cons (fe_plus fe_int (fe_mod (fe_ix (fe_var 0) fe_int) fe_int)) (fa_cons fe_int (fa_cons fe_int (fa_cons fe_int (fa_cons (fe_plus fe_int (fe_mod (fe_ix (fe_var 0) fe_int) fe_int)) (fa_cons fe_int (fa_cons fe_int (fa_cons fe_int (fa_cons (fe_plus fe_int (fe_mod (fe_ix (fe_var 0) fe_int) fe_int)) fa_nil))))))))))) fa_nil))))
    fss_nil)
    (fss_cons (fs_if (ft_eq hr (fe_var 1) fe_int)
    (fss_one (fs_ret (fe_tup (fa_cons fe_int (fa_cons (fe_neg fe_int) (fa_cons fe_int (fa_cons fe_int (fa_cons fe_int (fa_cons fe_int (fa_cons fe_int (fa_cons fe_int (fa_cons fe_int fa_nil))))))))))))
    fss_nil)
    (fss_cons (fs_if (ft_eq hr (fe_var 1) fe_int)
    (fss_one (fs_ret (fe_tup (fa_cons fe_int (fa_cons fe_int (fa_cons fe_int (fa_cons fe_int (fa_cons fe_int (fa_cons fe_int (fa_cons fe_int (fa_cons fe_int (fa_cons fe_int fa_nil))))))))))))
    fss_nil)
    (fss_one (fs_ret (fe_call k__law_short (hr.mono (by omega)) tk (fa_cons (fe_l (fl_disp (fa_cons fe_int (fa_cons fe_int (fa_cons (fe_mod (fe_ix (fe_var 0) fe_int) fe_int) (fa_cons fe_int (fa_cons fe_int (fa_cons (fe_mod (fe_ix (fe_var 0) fe_int) fe_int) (fa_cons (fe_sub (fe_mod (fe_ix (fe_var 0) fe_int) fe_int) fe_int) (fa_cons (fe_sub (fe_mod (fe_ix (fe_var 0) fe_int) fe_int) fe_int) (fa_cons (fe_plus fe_int (fe_mod (fe_ix (fe_var 0) fe_int) fe_int)) fa_nil))))))))))) fa_nil)))))))))
abbrev s__law_sees : Stmt := topS 34
abbrev N__law_sees : List Str := ["m", "side", "x", "y"]
theorem sc__law_sees : FnScope N__law_sees ["m", "side"] (defScope s__law_sees) := ⟨rfl, rfl, rfl, by decide +kernel, rfl, by decide +kernel, by decide +kernel⟩
def b__law_sees_1 : GS :=
  sIf (b2 cLe (e2 dPlus (e2 dPlus (e2 dMul (e2 dIx (eVar 0) (eC (.int 6))) (eVar 2)) (e2 dMul (e2 dIx (eVar 0) (eC (.int 7))) (eVar 3))) (e2 dIx (eVar 0) (eC (.int 8)))) (eC (.int 0)))
    (sRet (eC (.bl false)))
    (sNil)
def b__law_sees_2 : GS :=
  sFor (iAny (eLst (lDisp (aCons (eC (.int 0)) (aCons (eVar 1) (aNil)))))) (tName 3)
    (b__law_sees_1)
def r__law_sees_3 : GS :=
  sRet (eC (.bl true))
def g__law_sees : GS :=
  sSeq (sFor (iAny (eLst (lDisp (aCons (eC (.int 0)) (aCons (eVar 1) (aNil)))))) (tName 2)
    (b__law_sees_2))
    (r__law_sees_3)
def m__law_sees : List D → Res D := runF 2 4 g__law_sees
theorem ok__law_sees {f : Addr} {fd : FuncData} (F : Fun K "_law_sees" "_law_sees" s__law_sees f fd) (hm : mg "_law_sees" = some (.ref f)) : Fk P w K mg base 1 "_law_sees" 2 m__law_sees :=
  fk_mk (k := 0) F sc__law_sees hm (fun _ _ _ _ _ _ us hl => match us, hl with | [_, _], _ => rfl) rfl rfl (by decide) fun cdv A outer s H E hr tk po => by
    have nd := sc__law_sees.nd
    exact (fss_cons (fs_for po rfl (fi_any (fe_l (fl_disp (fa_cons fe_int (fa_cons (fe_var 1) fa_nil))))) (fg_name 2 nd)
    (fss_one (fs_for po rfl (fi_any (fe_l (fl_disp (fa_cons fe_int (fa_cons (fe_var 1) fa_nil))))) (fg_name 3 nd)
    (fss_one (fs_if (ft_le (fe_plus (fe_plus (fe_mul (fe_ix (fe_var 0) fe_int) (fe_var 2)) (fe_mul (fe_ix (fe_var 0) fe_int) (fe_var 3))) (fe_ix (fe_var 0) fe_int)) fe_int)
    (fss_one (fs_ret fe_bl))
    fss_nil)))))
    (fss_one (fs_ret fe_bl)))
abbrev s__law_track_error : Stmt := topS 35
abbrev N__law_track_error : List Str := ["m", "steps", "e"]
theorem sc__law_track_error : FnScope N__law_track_error ["m", "steps"] (defScope s__law_track_error) := ⟨rfl, rfl, rfl, by decide +kernel, rfl, by decide +kernel, by decide +kernel⟩
def g__law_track_error : GS :=
  sTryF cat_BadMap_l 2 "reason" (sRet (eLst (lDisp (aCons (eCall (m_track) (aCons (eVar 0) (aCons (eVar 1) (aNil)))) (aNil)))))
def m__law_track_error : List D → Res D := runF 2 3 g__law_track_error
theorem ok__law_track_error {f : Addr} {fd : FuncData} {C_BadMap : Addr} (F : Fun K "_law_track_error" "_law_track_error" s__law_track_error f fd) (hm : mg "_law_track_error" = some (.ref f)) (k_track : Fk P w K mg base 4 "track" 2 m_track) (x1_BadMap : Ex1 P w K mg base "BadMap" "reason" C_BadMap) (n_BadMap : mg "BadMap" = some (.ref C_BadMap)) (cat_BadMap : ∀ q ∈ cat_BadMap_l, ∃ C, mg (Str.ofString q.1) = some (.ref C) ∧ PySem.W.exmOne K (.ref C) (.ref C_BadMap) = some q.2) : Fk P w K mg base 5 "_law_track_error" 2 m__law_track_error :=
  fk_mk (k := 4) F sc__law_track_error hm (fun _ _ _ _ _ _ us hl => match us, hl with | [_, _], _ => rfl) rfl rfl (by decide) fun cdv A outer s H E hr tk po => by
    have nd := sc__law_track_error.nd
    exact (fss_one (fs_tryF 2 x1_BadMap ⟨rfl, by decide, .inl n_BadMap⟩ tk cat_BadMap (honly_of (by decide)) (fun W' pn xe tk' po' => (fss_one (fs_ret (fe_l (fl_disp (fa_cons (fe_call k_track (hr.mono (by omega)) tk' (fa_cons (fe_var 0) (fa_cons (fe_var 1) fa_nil))) fa_nil)))))) nd))
abbrev s__law_steps_error : Stmt := topS 36
abbrev N__law_steps_error : List Str := ["maps", "e"]
theorem sc__law_steps_error : FnScope N__law_steps_error ["maps"] (defScope s__law_steps_error) := ⟨rfl, rfl, rfl, by decide +kernel, rfl, by decide +kernel, by decide +kernel⟩
def g__law_steps_error : GS :=
  sTryF cat_BadMap_l 1 "reason" (sRet (eLst (lDisp (aCons (eCall (m_steps_between) (aCons (eVar 0) (aNil))) (aNil)))))
def m__law_steps_error : List D → Res D := runF 1 2 g__law_steps_error
theorem ok__law_steps_error {f : Addr} {fd : FuncData} {C_BadMap : Addr} (F : Fun K "_law_steps_error" "_law_steps_error" s__law_steps_error f fd) (hm : mg "_law_steps_error" = some (.ref f)) (k_steps_between : Fk P w K mg base 4 "steps_between" 1 m_steps_between) (x1_BadMap : Ex1 P w K mg base "BadMap" "reason" C_BadMap) (n_BadMap : mg "BadMap" = some (.ref C_BadMap)) (cat_BadMap : ∀ q ∈ cat_BadMap_l, ∃ C, mg (Str.ofString q.1) = some (.ref C) ∧ PySem.W.exmOne K (.ref C) (.ref C_BadMap) = some q.2) : Fk P w K mg base 5 "_law_steps_error" 1 m__law_steps_error :=
  fk_mk (k := 4) F sc__law_steps_error hm (fun _ _ _ _ _ _ us hl => match us, hl with | [_], _ => rfl) rfl rfl (by decide) fun cdv A outer s H E hr tk po => by
    have nd := sc__law_steps_error.nd
    exact (fss_one (fs_tryF 1 x1_BadMap ⟨rfl, by decide, .inl n_BadMap⟩ tk cat_BadMap (honly_of (by decide)) (fun W' pn xe tk' po' => (fss_one (fs_ret (fe_l (fl_disp (fa_cons (fe_call k_steps_between (hr.mono (by omega)) tk' (fa_cons (fe_var 0) fa_nil)) fa_nil)))))) nd))
abbrev s__law_between_error : Stmt := topS 37
abbrev N__law_between_error : List Str := ["first", "second", "share", "of", "e"]
theorem sc__law_between_error : FnScope N__law_between_error ["first", "second", "share", "of"] (defScope s__law_between_error) := ⟨rfl, rfl, rfl, by decide +kernel, rfl, by decide +kernel, by decide +kernel⟩
def g__law_between_error : GS :=
  sTryF cat_BadMap_l 4 "reason" (sRet (eLst (lDisp (aCons (eCall (m_between_maps) (aCons (eVar 0) (aCons (eVar 1) (aCons (eVar 2) (aCons (eVar 3) (aNil)))))) (aNil)))))
def m__law_between_error : List D → Res D := runF 4 5 g__law_between_error
theorem ok__law_between_error {f : Addr} {fd : FuncData} {C_BadMap : Addr} (F : Fun K "_law_between_error" "_law_between_error" s__law_between_error f fd) (hm : mg "_law_between_error" = some (.ref f)) (k_between_maps : Fk P w K mg base 3 "between_maps" 4 m_between_maps) (x1_BadMap : Ex1 P w K mg base "BadMap" "reason" C_BadMap) (n_BadMap : mg "BadMap" = some (.ref C_BadMap)) (cat_BadMap : ∀ q ∈ cat_BadMap_l, ∃ C, mg (Str.ofString q.1) = some (.ref C) ∧ PySem.W.exmOne K (.ref C) (.ref C_BadMap) = some q.2) : Fk P w K mg base 4 "_law_between_error" 4 m__law_between_error :=
  fk_mk (k := 3) F sc__law_between_error hm (fun _ _ _ _ _ _ us hl => match us, hl with | [_, _, _, _], _ => rfl) rfl rfl (by decide) fun cdv A outer s H E hr tk po => by
    have nd := sc__law_between_error.nd
    exact (fss_one (fs_tryF 4 x1_BadMap ⟨rfl, by decide, .inl n_BadMap⟩ tk cat_BadMap (honly_of (by decide)) (fun W' pn xe tk' po' => (fss_one (fs_ret (fe_l (fl_disp (fa_cons (fe_call k_between_maps (hr.mono (by omega)) tk' (fa_cons (fe_var 0) (fa_cons (fe_var 1) (fa_cons (fe_var 2) (fa_cons (fe_var 3) fa_nil))))) fa_nil)))))) nd))
abbrev s__law_between : Stmt := topS 38
abbrev N__law_between : List Str := ["first", "second", "share", "of", "numbers", "k"]
theorem sc__law_between : FnScope N__law_between ["first", "second", "share", "of"] (defScope s__law_between) := ⟨rfl, rfl, rfl, by decide +kernel, rfl, by decide +kernel, by decide +kernel⟩
def g__law_between : GS :=
  sSeq (sThen 4 (sSetL 4 (lComp (lF rg1 (aCons (eC (.int 9)) (aNil))) [5] (tName 5) (bYes) (e2 dPlus (e2 dMul (e2 dMul (e2 dSub (eVar 3) (eVar 2)) (e2 dIx (eVar 0) (eVar 5))) (e2 dIx (eVar 1) (eC (.int 8)))) (e2 dMul (e2 dMul (eVar 2) (e2 dIx (eVar 1) (eVar 5))) (e2 dIx (eVar 0) (eC (.int 8))))))))
    (sSeq (sIf (b2 cEq (eCall (m__law_measure) (aCons (eVar 4) (aNil))) (eC (.int 0)))
    (sRet (eC (.str [109, 97, 112])))
    (sNil))
    (sRet (eLst (lDisp (aCons (eCall (m__law_short) (aCons (eVar 4) (aNil))) (aNil))))))
def m__law_between : List D → Res D := runF 4 6 g__law_between
theorem ok__law_between {f : Addr} {fd : FuncData} (F : Fun K "_law_between" "_law_between" s__law_between f fd) (hm : mg "_law_between" = some (.ref f)) (b_range : mg "range" = none) (k__law_measure : Fk P w K mg base 1 "_law_measure" 1 m__law_measure) (k__law_short : Fk P w K mg base 2 "_law_short" 1 m__law_short) : Fk P w K mg base 3 "_law_between" 4 m__law_between :=
  fk_mk (k := 2) F sc__law_between hm (fun _ _ _ _ _ _ us hl => match us, hl with | [_, _, _, _], _ => rfl) rfl rfl (by decide) fun cdv A outer s H E hr tk po => by
    have nd := sc__law_between.nd
    exact (fss_cons (fs_then 4 (fs_comp 4 (sw_true rfl rfl rfl (by decide +kernel)) (own := [("k", 5)]) rfl nd (show blkC N__law_between (defScope s__law_between) _ _ = true by decide +kernel) (fi_range1 b_range (fa_cons fe_int fa_nil)) (fun _ _ _ _ _ => (fg_name 5 nd)) (fun _ _ _ _ _ => fts_nil) (fun _ _ _ _ _ => (fe_plus (fe_mul (fe_mul (fe_sub (fe_var 3) (fe_var 2)) (fe_ix (fe_var 0) (fe_var 5))) (fe_ix (fe_var 1) fe_int)) (fe_mul (fe_mul (fe_var 2) (fe_ix (fe_var 1) (fe_var 5))) (fe_ix (fe_var 0) fe_int))))))
    (fss_cons (fs_if (ft_eq hr (fe_call k__law_measure (hr.mono (by omega)) tk (fa_cons (fe_var 4) fa_nil)) fe_int)
    (fss_one (fs_ret fe_str))
    fss_nil)
    (fss_one (fs_ret (fe_l (fl_disp (fa_cons (fe_call k__law_short (hr.mono (by omega)) tk (fa_cons (fe_var 4) fa_nil)) fa_nil)))))))
abbrev s__law_track_holds : Stmt := topS 39
abbrev N__law_track_holds : List Str := ["m", "steps", "due", "step", "handed", "told", "found", "side", "seen", "k"]
theorem sc__law_track_holds : FnScope N__law_track_holds ["m", "steps"] (defScope s__law_track_holds) := ⟨rfl, rfl, rfl, by decide +kernel, rfl, by decide +kernel, by decide +kernel⟩
def b__law_track_holds_1 : GS :=
  sApp 2 (eCall (m__law_then) (aCons (eIxO 2 (e1 dNeg (eC (.int 1)))) (aCons (eVar 3) (aNil))))
def b__law_track_holds_2 : GS :=
  sSeq (sThen 8 (sSetL 8 (lComp (lF rg1 (aCons (eF fLen (aCons (eVar 2) (aNil))) (aNil))) [9] (tName 9) (b1 truth (eCall (m__law_sees) (aCons (e2 dIx (eVar 2) (eVar 9)) (aCons (eVar 7) (aNil))))) (eVar 9))))
    (sIf (bNot (b1 truth (eCall ((m__law_same 40)) (aCons (eCall (m_seen_steps) (aCons (eLst (lF fList (aCons (eVar 2) (aNil)))) (aCons (eVar 7) (aNil)))) (aCons (eVar 8) (aNil))))))
    (sRet (eC (.bl false)))
    (sNil))
def b__law_track_holds_3 : GS :=
  sIf (bNot (b1 truth (eCall ((m__law_same 40)) (aCons (eCall (m_first_then) (aCons (eCall (m_back_map) (aCons (e2 dIx (eVar 2) (eVar 9)) (aNil))) (aCons (e2 dIx (eVar 2) (e2 dPlus (eVar 9) (eC (.int 1)))) (aNil)))) (aCons (e2 dIx (eVar 1) (eVar 9)) (aNil))))))
    (sRet (eC (.bl false)))
    (sNil)
def r__law_track_holds_4 : GS :=
  sSeq (sAppP 5 (eC .non))
    (sRet (eCall ((m__law_same 40)) (aCons (eCall (m_track) (aCons (eVar 0) (aCons (eVar 4) (aNil)))) (aCons (eVar 2) (aNil)))))
def r__law_track_holds_5 : GS :=
  sSeq (sFor (lF rg1 (aCons (eF fLen (aCons (eVar 1) (aNil))) (aNil))) (tName 9)
    (b__law_track_holds_3))
    (r__law_track_holds_4)
def r__law_track_holds_6 : GS :=
  sSeq (sSet 4 (eLst (lF fList (aCons (eVar 1) (aNil)))))
    (sFrz 2 (sPin (sSeq (sSetL 5 (lCallF ml_track (aCons (eVar 0) (aCons (eVar 4) (aNil)))))
    (sLend 5 (sSeq (sIf (bOr (bNot (b1 truth (eCall ((m__law_same 40)) (aCons (eVar 5) (aCons (eVar 2) (aNil)))))) (bNot (b1 truth (eCall ((m__law_same 40)) (aCons (eVar 4) (aCons (eVar 1) (aNil)))))))
    (sRet (eC (.bl false)))
    (sNil))
    (sSeq (sSet 6 (eLst (lDisp (aCons (eCall (m_steps_between) (aCons (eVar 5) (aNil))) (aCons (eCall (m_steps_between) (aCons (eLst (l1 revL (eVar 2))) (aNil))) (aNil))))))
    (sSeq (sIf (bNot (b1 truth (eCall ((m__law_same 40)) (aCons (eVar 6) (aCons (eLst (lDisp (aCons (eVar 1) (aCons (eLst (lComp (iRevG (eVar 1)) [3] (tName 3) (bYes) (eCall (m__law_back) (aCons (eVar 3) (aNil))))) (aNil))))) (aNil))))))
    (sRet (eC (.bl false)))
    (sNil))
    (sSeq (sFor (iAny (eLst (lDisp (aCons (eC (.int 21)) (aCons (eC (.int 25)) (aCons (eC (.int 37)) (aCons (eC (.int 49)) (aNil)))))))) (tName 7)
    (b__law_track_holds_2))
    (r__law_track_holds_5)))))))))
def g__law_track_holds : GS :=
  sSeq (sSetL 2 (lDisp (aCons (eVar 0) (aNil))))
    (sSeq (sFor (iAny (eVar 1)) (tName 3)
    (b__law_track_holds_1))
    (r__law_track_holds_6))
def m__law_track_holds : List D → Res D := runF 2 10 g__law_track_holds
theorem ok__law_track_holds {f : Addr} {fd : FuncData} (F : Fun K "_law_track_holds" "_law_track_holds" s__law_track_holds f fd) (hm : mg "_law_track_holds" = some (.ref f)) (k__law_then : Fk P w K mg base 3 "_law_then" 2 m__law_then) (b_list : mg "list" = none) (kl_track : FkL P w K mg base 4 "track" 2 ml_track) (k__law_same : Fk P w K mg base 41 "_law_same" 2 (m__law_same 40)) (k_steps_between : Fk P w K mg base 4 "steps_between" 1 m_steps_between) (b_reversed : mg "reversed" = none) (k__law_back : Fk P w K mg base 3 "_law_back" 1 m__law_back) (b_len : mg "len" = none) (b_range : mg "range" = none) (k__law_sees : Fk P w K mg base 1 "_law_sees" 2 m__law_sees) (k_seen_steps : Fk P w K mg base 4 "seen_steps" 2 m_seen_steps) (k_first_then : Fk P w K mg base 2 "first_then" 2 m_first_then) (k_back_map : Fk P w K mg base 2 "back_map" 1 m_back_map) (k_track : Fk P w K mg base 4 "track" 2 m_track) : Fk P w K mg base 42 "_law_track_holds" 2 m__law_track_holds :=
  fkT_mk (k := 41) F sc__law_track_holds hm (fun _ _ _ _ _ _ us hl => match us, hl with | [_, _], _ => rfl) rfl rfl (by decide) fun cdv A outer s H E hr tk po => by
    have nd := sc__law_track_holds.nd
    exact (fst_cons (fs_setL 2 (fl_disp (fa_cons (fe_var 0) fa_nil)) nd)
    (fst_cons (fs_for po rfl (fi_any (fe_var 1)) (fg_name 3 nd)
    (fss_one (fs_app 2 (fe_call k__law_then (hr.mono (by omega)) tk (fa_cons (fe_ixO 2 (fe_neg fe_int)) (fa_cons (fe_var 3) fa_nil))) (hp := pe_bm PySem.F.plainAttrs_list PySem.F.slot_list_append PySem.F.type_list_append mt_append (pv 2) (pa_cons (fe_call k__law_then (hr.mono (by omega)) tk (fa_cons (fe_ixO 2 (fe_neg fe_int)) (fa_cons (fe_var 3) fa_nil))) pa_nil)))))
    (fst_cons (fs_set 4 (fe_l (fl_clist b_list (fa_cons (fe_var 1) fa_nil))) nd)
    (fst_frz 2 (fst_pin (fst_cons (fs_setL 5 (fl_call kl_track (hr.mono (by omega)) tk (fa_cons (fe_var 0) (fa_cons (fe_var 4) fa_nil))) nd)
    (fst_lend 5 (fst_cons (fs_if (ft_w (fw_or (ft_not (ft_truth (fe_call k__law_same (hr.mono (by omega)) tk (fa_cons (fe_var 5) (fa_cons (fe_var 2) fa_nil))))) (fw_or1 (ft_not (ft_truth (fe_call k__law_same (hr.mono (by omega)) tk (fa_cons (fe_var 4) (fa_cons (fe_var 1) fa_nil))))))))
    (fss_one (fs_ret fe_bl))
    fss_nil)
    (fst_cons (fs_set 6 (fe_l (fl_disp (fa_cons (fe_call k_steps_between (hr.mono (by omega)) tk (fa_cons (fe_var 5) fa_nil)) (fa_cons (fe_call k_steps_between (hr.mono (by omega)) tk (fa_cons (fe_l (fl_listRev rfl b_list b_reversed (fe_var 2))) fa_nil)) fa_nil)))) nd)
    (fst_cons (fs_if (ft_not (ft_truth (fe_call k__law_same (hr.mono (by omega)) tk (fa_cons (fe_var 6) (fa_cons (fe_l (fl_disp (fa_cons (fe_var 1) (fa_cons (fe_l (fl_comp (own := [("step", 3)]) rfl nd (show blkC N__law_track_holds (defScope s__law_track_holds) _ _ = true by decide +kernel) (fi_rev b_reversed (fe_var 1)) (fun _ _ _ _ _ => (fg_name 3 nd)) (fun _ _ _ _ _ => fts_nil) (fun _ _ _ _ _ => (fe_call k__law_back (hr.mono (by omega)) takes0 (fa_cons (fe_var 3) fa_nil))))) fa_nil)))) fa_nil)))))
    (fss_one (fs_ret fe_bl))
    fss_nil)
    (fst_cons (fs_for po rfl (fi_any (fe_l (fl_disp (fa_cons fe_int (fa_cons fe_int (fa_cons fe_int (fa_cons fe_int fa_nil))))))) (fg_name 7 nd)
    (fss_cons (fs_then 8 (fs_comp 8 (sw_true rfl rfl rfl (by decide +kernel)) (own := [("k", 9)]) rfl nd (show blkC N__law_track_holds (defScope s__law_track_holds) _ _ = true by decide +kernel) (fi_range1 b_range (fa_cons (fe_len b_len (fa_cons (fe_var 2) fa_nil)) fa_nil)) (fun _ _ _ _ _ => (fg_name 9 nd)) (fun _ _ _ _ _ => (fts_one (ft_truth (fe_call k__law_sees (hr.mono (by omega)) takes0 (fa_cons (fe_ix (fe_var 2) (fe_var 9)) (fa_cons (fe_var 7) fa_nil)))))) (fun _ _ _ _ _ => (fe_var 9))))
    (fss_one (fs_if (ft_not (ft_truth (fe_call k__law_same (hr.mono (by omega)) tk (fa_cons (fe_call k_seen_steps (hr.mono (by omega)) tk (fa_cons (fe_l (fl_clist b_list (fa_cons (fe_var 2) fa_nil))) (fa_cons (fe_var 7) fa_nil))) (fa_cons (fe_var 8) fa_nil)))))
    (fss_one (fs_ret fe_bl))
    fss_nil))))
    (fst_cons (fs_for po rfl (fi_range1 b_range (fa_cons (fe_len b_len (fa_cons (fe_var 1) fa_nil)) fa_nil)) (fg_name 9 nd)
    (fss_one (fs_if (ft_not (ft_truth (fe_call k__law_same (hr.mono (by omega)) tk (fa_cons (fe_call k_first_then (hr.mono (by omega)) tk (fa_cons (fe_call k_back_map (hr.mono (by omega)) tk (fa_cons (fe_ix (fe_var 2) (fe_var 9)) fa_nil)) (fa_cons (fe_ix (fe_var 2) (fe_plus (fe_var 9) fe_int)) fa_nil))) (fa_cons (fe_ix (fe_var 1) (fe_var 9)) fa_nil)))))
    (fss_one (fs_ret fe_bl))
    fss_nil)))
    (fst_app 5 fe_non
    (fst_last (fss_one (fs_ret (fe_call k__law_same (hr.mono (by omega)) tk (fa_cons (fe_call k_track (hr.mono (by omega)) tk (fa_cons (fe_var 0) (fa_cons (fe_var 4) fa_nil))) (fa_cons (fe_var 2) fa_nil)))))) (hp := pe_bm PySem.F.plainAttrs_list PySem.F.slot_list_append PySem.F.type_list_append mt_append (pv 5) (pa_cons fe_non pa_nil)))))))))))))))
abbrev s__law_between_holds : Stmt := topS 40
abbrev N__law_between_holds : List Str := ["first", "second", "of", "share", "due", "found"]
theorem sc__law_between_holds : FnScope N__law_between_holds ["first", "second", "of"] (defScope s__law_between_holds) := ⟨rfl, rfl, rfl, by decide +kernel, rfl, by decide +kernel, by decide +kernel⟩
def b__law_between_holds_1 : GS :=
  sSeq (sSet 4 (eCall (m__law_between) (aCons (eVar 0) (aCons (eVar 1) (aCons (eVar 3) (aCons (eVar 2) (aNil)))))))
    (sSeq (sSetL 5 (lDisp (aCons (eCall (m__law_between_error) (aCons (eVar 0) (aCons (eVar 1) (aCons (eVar 3) (aCons (eVar 2) (aNil)))))) (aCons (eCall (m__law_between_error) (aCons (eVar 1) (aCons (eVar 0) (aCons (e2 dSub (eVar 2) (eVar 3)) (aCons (eVar 2) (aNil)))))) (aNil)))))
    (sSeq (sApp 5 (eCall (m__law_between_error) (aCons (eVar 0) (aCons (eVar 1) (aCons (e2 dMul (eC (.int 3)) (eVar 3)) (aCons (e2 dMul (eC (.int 3)) (eVar 2)) (aNil)))))))
    (sIf (bNot (bBor 5 (b1 truth (eCall ((m__law_same 40)) (aCons (eVar 5) (aCons (eLst (lDisp (aCons (eVar 4) (aCons (eVar 4) (aCons (eVar 4) (aNil)))))) (aNil)))))))
    (sRet (eC (.bl false)))
    (sNil))))
def r__law_between_holds_2 : GS :=
  sRet (eCall ((m__law_same 40)) (aCons (eLst (lDisp (aCons (eCall (m_between_maps) (aCons (eVar 0) (aCons (eVar 1) (aCons (eC (.int 0)) (aCons (eVar 2) (aNil)))))) (aCons (eCall (m_between_maps) (aCons (eVar 0) (aCons (eVar 1) (aCons (eVar 2) (aCons (eVar 2) (aNil)))))) (aCons (eCall (m_between_maps) (aCons (eVar 0) (aCons (eVar 0) (aCons (eC (.int 1)) (aCons (e2 dPlus (eC (.int 1)) (eVar 2)) (aNil)))))) (aNil)))))) (aCons (eLst (lDisp (aCons (eVar 0) (aCons (eVar 1) (aCons (eVar 0) (aNil)))))) (aNil))))
def g__law_between_holds : GS :=
  sSeq (sFor (lF rg1 (aCons (e2 dPlus (eVar 2) (eC (.int 1))) (aNil))) (tName 3)
    (b__law_between_holds_1))
    (r__law_between_holds_2)
def m__law_between_holds : List D → Res D := runF 3 6 g__law_between_holds
theorem ok__law_between_holds {f : Addr} {fd : FuncData} (F : Fun K "_law_between_holds" "_law_between_holds" s__law_between_holds f fd) (hm : mg "_law_between_holds" = some (.ref f)) (b_range : mg "range" = none) (k__law_between : Fk P w K mg base 3 "_law_between" 4 m__law_between) (k__law_between_error : Fk P w K mg base 4 "_law_between_error" 4 m__law_between_error) (k__law_same : Fk P w K mg base 41 "_law_same" 2 (m__law_same 40)) (k_between_maps : Fk P w K mg base 3 "between_maps" 4 m_between_maps) : Fk P w K mg base 42 "_law_between_holds" 3 m__law_between_holds :=
  fk_mk (k := 41) F sc__law_between_holds hm (fun _ _ _ _ _ _ us hl => match us, hl with | [_, _, _], _ => rfl) rfl rfl (by decide) fun cdv A outer s H E hr tk po => by
    have nd := sc__law_between_holds.nd
    exact (fss_cons (fs_for po rfl (fi_range1 b_range (fa_cons (fe_plus (fe_var 2) fe_int) fa_nil)) (fg_name 3 nd)
    (fss_cons (fs_set 4 (fe_call k__law_between (hr.mono (by omega)) tk (fa_cons (fe_var 0) (fa_cons (fe_var 1) (fa_cons (fe_var 3) (fa_cons (fe_var 2) fa_nil))))) nd)
    (fss_cons (fs_setL 5 (fl_disp (fa_cons (fe_call k__law_between_error (hr.mono (by omega)) tk (fa_cons (fe_var 0) (fa_cons (fe_var 1) (fa_cons (fe_var 3) (fa_cons (fe_var 2) fa_nil))))) (fa_cons (fe_call k__law_between_error (hr.mono (by omega)) tk (fa_cons (fe_var 1) (fa_cons (fe_var 0) (fa_cons (fe_sub (fe_var 2) (fe_var 3)) (fa_cons (fe_var 2) fa_nil))))) fa_nil))) nd)
    (fss_cons (fs_app 5 (fe_call k__law_between_error (hr.mono (by omega)) tk (fa_cons (fe_var 0) (fa_cons (fe_var 1) (fa_cons (fe_mul fe_int (fe_var 3)) (fa_cons (fe_mul fe_int (fe_var 2)) fa_nil))))) (hp := pe_bm PySem.F.plainAttrs_list PySem.F.slot_list_append PySem.F.type_list_append mt_append (pv 5) (pa_cons (fe_call k__law_between_error (hr.mono (by omega)) tk (fa_cons (fe_var 0) (fa_cons (fe_var 1) (fa_cons (fe_mul fe_int (fe_var 3)) (fa_cons (fe_mul fe_int (fe_var 2)) fa_nil))))) pa_nil)))
    (fss_one (fs_if (ft_not (ft_bor 5 (ft_truth (fe_call k__law_same (hr.mono (by omega)) tk (fa_cons (fe_var 5) (fa_cons (fe_l (fl_disp (fa_cons (fe_var 4) (fa_cons (fe_var 4) (fa_cons (fe_var 4) fa_nil))))) fa_nil))))))
    (fss_one (fs_ret fe_bl))
    fss_nil))))))
    (fss_one (fs_ret (fe_call k__law_same (hr.mono (by omega)) tk (fa_cons (fe_l (fl_disp (fa_cons (fe_call k_between_maps (hr.mono (by omega)) tk (fa_cons (fe_var 0) (fa_cons (fe_var 1) (fa_cons fe_int (fa_cons (fe_var 2) fa_nil))))) (fa_cons (fe_call k_between_maps (hr.mono (by omega)) tk (fa_cons (fe_var 0) (fa_cons (fe_var 1) (fa_cons (fe_var 2) (fa_cons (fe_var 2) fa_nil))))) (fa_cons (fe_call k_between_maps (hr.mono (by omega)) tk (fa_cons (fe_var 0) (fa_cons (fe_var 0) (fa_cons fe_int (fa_cons (fe_plus fe_int (fe_var 2)) fa_nil))))) fa_nil))))) (fa_cons (fe_l (fl_disp (fa_cons (fe_var 0) (fa_cons (fe_var 1) (fa_cons (fe_var 0) fa_nil))))) fa_nil))))))
abbrev s_law : Stmt := topS 41
abbrev N_law : List Str := ["script", "draws", "m", "steps", "k", "step", "second", "low", "found", "zero", "due", "n"]
theorem sc_law : FnScope N_law ["script"] (defScope s_law) := ⟨rfl, rfl, rfl, by decide +kernel, rfl, by decide +kernel, by decide +kernel⟩
def b_law_1 : GS :=
  sSeq (sSet 5 (eCall (m__law_step) (aCons (eSl dSl (eVar 1) (oSome (e2 dPlus (eC (.int 11)) (e2 dMul (eC (.int 4)) (eVar 4)))) (oNone)) (aNil))))
    (sSeq (sIf (bAnd (b2 cGt (eVar 4) (eC (.int 0))) (b2 cEq (e2 dMod (e2 dIx (eVar 1) (eC (.int 40))) (eC (.int 3))) (eC (.int 0))))
    (sSet 5 (eIxO 3 (eC (.int 0))))
    (sNil))
    (sApp 3 (eVar 5)))
def r_law_2 : GS :=
  sSeq (sIf (bOr (bNot (bBor 3 (b1 truth (eCall (m__law_track_holds) (aCons (eVar 2) (aCons (eVar 3) (aNil))))))) (bNot (b1 truth (eCall (m__law_track_holds) (aCons (eVar 2) (aCons (eLst (lDisp (aNil))) (aNil)))))))
    (sRet (eC (.bl false)))
    (sNil))
    (sSeq (sSet 6 (eCall (m__law_map) (aCons (eCall (m__law_numbers) (aCons (eVar 0) (aCons (eC (.int 1)) (aCons (eC (.int 10)) (aNil))))) (aNil))))
    (sSeq (sIf (bNot (b1 truth (eCall (m__law_between_holds) (aCons (eVar 2) (aCons (eVar 6) (aCons (e2 dPlus (eC (.int 1)) (e2 dMod (e2 dIx (eVar 1) (eC (.int 41))) (eC (.int 6)))) (aNil)))))))
    (sRet (eC (.bl false)))
    (sNil))
    (sSeq (sSet 7 (eCall (m__law_short) (aCons (eLst (lDisp (aCons (e2 dIx (eVar 2) (eC (.int 0))) (aCons (e2 dIx (eVar 2) (eC (.int 1))) (aCons (e2 dIx (eVar 2) (eC (.int 2))) (aCons (e2 dIx (eVar 2) (eC (.int 3))) (aCons (e2 dIx (eVar 2) (eC (.int 4))) (aCons (e2 dIx (eVar 2) (eC (.int 5))) (aCons (e2 dIx (eVar 2) (eC (.int 6))) (aCons (e2 dIx (eVar 2) (eC (.int 7))) (aCons (e1 dNeg (e2 dIx (eVar 2) (eC (.int 8)))) (aNil)))))))))))) (aNil))))
    (sSeq (sIf (b1 truth (eCall (m_is_map) (aCons (eVar 7) (aNil))))
    (sSeq (sSet 8 (eLst (lDisp (aCons (eCall (m__law_between_error) (aCons (eVar 7) (aCons (eVar 2) (aCons (eC (.int 1)) (aCons (eC (.int 2)) (aNil)))))) (aCons (eCall (m__law_between_error) (aCons (eVar 2) (aCons (eVar 7) (aCons (eC (.int 1)) (aCons (eC (.int 2)) (aNil)))))) (aNil))))))
    (sIf (bNot (b1 truth (eCall ((m__law_same 40)) (aCons (eVar 8) (aCons (eLst (lDisp (aCons (eC (.str [108, 97, 115, 116])) (aCons (eC (.str [108, 97, 115, 116])) (aNil))))) (aNil))))))
    (sRet (eC (.bl false)))
    (sNil)))
    (sNil))
    (sSeq (sSet 9 (eTup (aCons (eC (.int 0)) (aCons (eC (.int 0)) (aCons (eC (.int 1)) (aCons (eC (.int 0)) (aCons (eC (.int 1)) (aCons (eC (.int 0)) (aCons (eC (.int 1)) (aCons (eC (.int 0)) (aCons (eC (.int 0)) (aNil))))))))))))
    (sSeq (sSet 8 (eLst (lDisp (aCons (eCall (m__law_between_error) (aCons (eVar 2) (aCons (eVar 9) (aCons (eC (.int 1)) (aCons (eC (.int 2)) (aNil)))))) (aCons (eCall (m__law_track_error) (aCons (eVar 2) (aCons (eLst (lRep (lDisp (aCons (eTup (aCons (eC (.int 1)) (aCons (eC (.int 0)) (aCons (eC (.int 0)) (aCons (eC (.int 0)) (aCons (eC (.int 1)) (aCons (eC (.int 0)) (aCons (eC (.int 0)) (aCons (eC (.int 0)) (aCons (eC (.int 1)) (aNil))))))))))) (aNil))) (eC (.int 20)))) (aNil)))) (aCons (eCall (m__law_track_error) (aCons (eVar 2) (aCons (eLst (lRep (lDisp (aCons (eVar 2) (aNil))) (eC (.int 21)))) (aNil)))) (aNil)))))))
    (sSeq (sSet 8 (e2 dPlus (eVar 8) (eLst (lDisp (aCons (eCall (m__law_track_error) (aCons (eC .non) (aCons (eLst (lDisp (aNil))) (aNil)))) (aCons (eCall (m__law_track_error) (aCons (eF fTuple (aCons (eLst (lComp (iAny (eVar 2)) [11] (tName 11) (bYes) (e2 dMul (eC (.int 2)) (eVar 11)))) (aNil))) (aCons (eLst (lDisp (aNil))) (aNil)))) (aCons (eCall (m__law_track_error) (aCons (eVar 2) (aCons (eC .non) (aNil)))) (aCons (eCall (m__law_track_error) (aCons (eVar 2) (aCons (eLst (lDisp (aCons (eC .non) (aNil)))) (aNil)))) (aNil)))))))))
    (sSeq (sSet 10 (eLst (lDisp (aCons (eC (.str [108, 97, 115, 116])) (aCons (eLst (lDisp (aCons (eLst (lRep (lDisp (aCons (eVar 2) (aNil))) (eC (.int 21)))) (aNil)))) (aCons (eC (.str [115, 116, 101, 112, 115])) (aCons (eC (.str [109, 97, 112])) (aCons (eC (.str [109, 97, 112])) (aCons (eC (.str [115, 116, 101, 112, 115])) (aCons (eC (.str [115, 116, 101, 112, 115])) (aNil)))))))))))
    (sSeq (sFrz 3 (sSet 8 (e2 dPlus (eVar 8) (eLst (lDisp (aCons (eCall (m__law_track_error) (aCons (eVar 2) (aCons (eF fTuple (aCons (eVar 3) (aNil))) (aNil)))) (aCons (eCall (m__law_track_error) (aCons (eVar 2) (aCons (e2 dPlus (eVar 3) (eLst (lDisp (aCons (eTup (aCons (eC (.int 0)) (aCons (eC (.int 0)) (aCons (eC (.int 0)) (aCons (eC (.int 0)) (aCons (eC (.int 0)) (aCons (eC (.int 0)) (aCons (eC (.int 0)) (aCons (eC (.int 0)) (aCons (eC (.int 0)) (aNil))))))))))) (aNil))))) (aNil)))) (aCons (eCall (m__law_steps_error) (aCons (eLst (lDisp (aCons (eVar 2) (aCons (eC .non) (aNil))))) (aNil))) (aNil)))))))))
    (sSeq (sSet 10 (e2 dPlus (eVar 10) (eLst (lDisp (aCons (eC (.str [115, 116, 101, 112, 115])) (aCons (eC (.str [115, 116, 101, 112, 115])) (aCons (eC (.str [115, 116, 101, 112, 115])) (aNil))))))))
    (sRet (eCall ((m__law_same 40)) (aCons (eVar 8) (aCons (eVar 10) (aNil)))))))))))))))
def g_law : GS :=
  sSeq (sSet 1 (eCall (m__law_numbers) (aCons (eVar 0) (aCons (eC (.int 0)) (aCons (eC (.int 50)) (aNil))))))
    (sSeq (sSet 2 (eCall (m__law_map) (aCons (eVar 1) (aNil))))
    (sSeq (sSetL 3 (lDisp (aNil)))
    (sSeq (sFor (lF rg1 (aCons (e2 dMod (e2 dIx (eVar 1) (eC (.int 10))) (eC (.int 8))) (aNil))) (tName 4)
    (b_law_1))
    (r_law_2))))
def m_law : List D → Res D := runF 1 12 g_law
theorem ok_law {f : Addr} {fd : FuncData} (F : Fun K "law" "law" s_law f fd) (hm : mg "law" = some (.ref f)) (k__law_numbers : Fk P w K mg base 1 "_law_numbers" 3 m__law_numbers) (k__law_map : Fk P w K mg base 3 "_law_map" 1 m__law_map) (b_range : mg "range" = none) (k__law_step : Fk P w K mg base 3 "_law_step" 1 m__law_step) (k__law_track_holds : Fk P w K mg base 42 "_law_track_holds" 2 m__law_track_holds) (k__law_between_holds : Fk P w K mg base 42 "_law_between_holds" 3 m__law_between_holds) (k__law_short : Fk P w K mg base 2 "_law_short" 1 m__law_short) (k_is_map : Fk P w K mg base 2 "is_map" 1 m_is_map) (k__law_between_error : Fk P w K mg base 4 "_law_between_error" 4 m__law_between_error) (k__law_same : Fk P w K mg base 41 "_law_same" 2 (m__law_same 40)) (k__law_track_error : Fk P w K mg base 5 "_law_track_error" 2 m__law_track_error) (b_tuple : mg "tuple" = none) (k__law_steps_error : Fk P w K mg base 5 "_law_steps_error" 1 m__law_steps_error) : Fk P w K mg base 43 "law" 1 m_law :=
  fk_mk (k := 42) F sc_law hm (fun _ _ _ _ _ _ us hl => match us, hl with | [_], _ => rfl) rfl rfl (by decide) fun cdv A outer s H E hr tk po => by
    have nd := sc_law.nd
    exact (fss_cons (fs_set 1 (fe_call k__law_numbers (hr.mono (by omega)) tk (fa_cons (fe_var 0) (fa_cons fe_int (fa_cons fe_int fa_nil)))) nd)
    (fss_cons (fs_set 2 (fe_call k__law_map (hr.mono (by omega)) tk (fa_cons (fe_var 1) fa_nil)) nd)
    (fss_cons (fs_setL 3 (fl_disp fa_nil) nd)
    (fss_cons (fs_for po rfl (fi_range1 b_range (fa_cons (fe_mod (fe_ix (fe_var 1) fe_int) fe_int) fa_nil)) (fg_name 4 nd)
    (fss_cons (fs_set 5 (fe_call k__law_step (hr.mono (by omega)) tk (fa_cons (fe_sl (fe_var 1) (fo_some (fe_plus fe_int (fe_mul fe_int (fe_var 4)))) fo_none) fa_nil)) nd)
    (fss_cons (fs_if (ft_w (fw_and (ft_gt (fe_var 4) fe_int) (fw_and1 (ft_eq hr (fe_mod (fe_ix (fe_var 1) fe_int) fe_int) fe_int))))
    (fss_one (fs_set 5 (fe_ixO 3 fe_int) nd))
    fss_nil)
    (fss_one (fs_app 3 (fe_var 5) (hp := pe_bm PySem.F.plainAttrs_list PySem.F.slot_list_append PySem.F.type_list_append mt_append (pv 3) (pa_cons (fe_var 5) pa_nil)))))))
    (fss_cons (fs_if (ft_w (fw_or (ft_not (ft_bor 3 (ft_truth (fe_call k__law_track_holds (hr.mono (by omega)) tk (fa_cons (fe_var 2) (fa_cons (fe_var 3) fa_nil)))))) (fw_or1 (ft_not (ft_truth (fe_call k__law_track_holds (hr.mono (by omega)) tk (fa_cons (fe_var 2) (fa_cons (fe_l (fl_disp fa_nil)) fa_nil))))))))
    (fss_one (fs_ret fe_bl))
    fss_nil)
    (fss_cons (fs_set 6 (fe_call k__law_map (hr.mono (by omega)) tk (fa_cons (fe_call k__law_numbers (hr.mono (by omega)) tk (fa_cons (fe_var 0) (fa_cons fe_int (fa_cons fe_int fa_nil)))) fa_nil)) nd)
    (fss_cons (fs_if (ft_not (ft_truth (fe_call k__law_between_holds (hr.mono (by omega)) tk (fa_cons (fe_var 2) (fa_cons (fe_var 6) (fa_cons (fe_plus fe_int (fe_mod (fe_ix (fe_var 1) fe_int) fe_int)) fa_nil))))))
    (fss_one (fs_ret fe_bl))
    fss_nil)
    (fss_cons (fs_set 7 (fe_call k__law_short (hr.mono (by omega)) tk (fa_cons (fe_l (fl_disp (fa_cons (fe_ix (fe_var 2) fe_int) (fa_cons (fe_ix (fe_var 2) fe_int) (fa_cons (fe_ix (fe_var 2) fe_int) (fa_cons (fe_ix (fe_var 2) fe_int) (fa_cons (fe_ix (fe_var 2) fe_int) (fa_cons (fe_ix (fe_var 2) fe_int) (fa_cons (fe_ix (fe_var 2) fe_int) (fa_cons (fe_ix (fe_var 2) fe_int) (fa_cons (fe_neg (fe_ix (fe_var 2) fe_int)) fa_nil))))))))))) fa_nil)) nd)
    (fss_cons (fs_if (ft_truth (fe_call k_is_map (hr.mono (by omega)) tk (fa_cons (fe_var 7) fa_nil)))
    (fss_cons (fs_set 8 (fe_l (fl_disp (fa_cons (fe_call k__law_between_error (hr.mono (by omega)) tk (fa_cons (fe_var 7) (fa_cons (fe_var 2) (fa_cons fe_int (fa_cons fe_int fa_nil))))) (fa_cons (fe_call k__law_between_error (hr.mono (by omega)) tk (fa_cons (fe_var 2) (fa_cons (fe_var 7) (fa_cons fe_int (fa_cons fe_int fa_nil))))) fa_nil)))) nd)
    (fss_one (fs_if (ft_not (ft_truth (fe_call k__law_same (hr.mono (by omega)) tk (fa_cons (fe_var 8) (fa_cons (fe_l (fl_disp (fa_cons fe_str (fa_cons fe_str fa_nil)))) fa_nil)))))
    (fss_one (fs_ret fe_bl))
    fss_nil)))
    fss_nil)
    (fss_cons (fs_set 9 (fe_tup (fa_cons fe_int (fa_cons fe_int (fa_cons fe_int (fa_cons fe_int (fa_cons fe_int (fa_cons fe_int (fa_cons fe_int (fa_cons fe_int (fa_cons fe_int fa_nil)))))))))) nd)
    (fss_cons (fs_set 8 (fe_l (fl_disp (fa_cons (fe_call k__law_between_error (hr.mono (by omega)) tk (fa_cons (fe_var 2) (fa_cons (fe_var 9) (fa_cons fe_int (fa_cons fe_int fa_nil))))) (fa_cons (fe_call k__law_track_error (hr.mono (by omega)) tk (fa_cons (fe_var 2) (fa_cons (fe_l (fl_rep (fl_disp (fa_cons (fe_tup (fa_cons fe_int (fa_cons fe_int (fa_cons fe_int (fa_cons fe_int (fa_cons fe_int (fa_cons fe_int (fa_cons fe_int (fa_cons fe_int (fa_cons fe_int fa_nil)))))))))) fa_nil)) fe_int)) fa_nil))) (fa_cons (fe_call k__law_track_error (hr.mono (by omega)) tk (fa_cons (fe_var 2) (fa_cons (fe_l (fl_rep (fl_disp (fa_cons (fe_var 2) fa_nil)) fe_int)) fa_nil))) fa_nil))))) nd)
    (fss_cons (fs_set 8 (fe_plus (fe_var 8) (fe_l (fl_disp (fa_cons (fe_call k__law_track_error (hr.mono (by omega)) tk (fa_cons fe_non (fa_cons (fe_l (fl_disp fa_nil)) fa_nil))) (fa_cons (fe_call k__law_track_error (hr.mono (by omega)) tk (fa_cons (fe_ctuple b_tuple (fa_cons (fe_l (fl_comp (own := [("n", 11)]) rfl nd (show blkC N_law (defScope s_law) _ _ = true by decide +kernel) (fi_any (fe_var 2)) (fun _ _ _ _ _ => (fg_name 11 nd)) (fun _ _ _ _ _ => fts_nil) (fun _ _ _ _ _ => (fe_mul fe_int (fe_var 11))))) fa_nil)) (fa_cons (fe_l (fl_disp fa_nil)) fa_nil))) (fa_cons (fe_call k__law_track_error (hr.mono (by omega)) tk (fa_cons (fe_var 2) (fa_cons fe_non fa_nil))) (fa_cons (fe_call k__law_track_error (hr.mono (by omega)) tk (fa_cons (fe_var 2) (fa_cons (fe_l (fl_disp (fa_cons fe_non fa_nil))) fa_nil))) fa_nil))))))) nd)
    (fss_cons (fs_set 10 (fe_l (fl_disp (fa_cons fe_str (fa_cons (fe_l (fl_disp (fa_cons (fe_l (fl_rep (fl_disp (fa_cons (fe_var 2) fa_nil)) fe_int)) fa_nil))) (fa_cons fe_str (fa_cons fe_str (fa_cons fe_str (fa_cons fe_str (fa_cons fe_str fa_nil))))))))) nd)
    (fss_cons (fs_frz 3 (fs_set 8 (fe_plus (fe_var 8) (fe_l (fl_disp (fa_cons (fe_call k__law_track_error (hr.mono (by omega)) tk (fa_cons (fe_var 2) (fa_cons (fe_ctuple b_tuple (fa_cons (fe_var 3) fa_nil)) fa_nil))) (fa_cons (fe_call k__law_track_error (hr.mono (by omega)) tk (fa_cons (fe_var 2) (fa_cons (fe_plus (fe_var 3) (fe_l (fl_disp (fa_cons (fe_tup (fa_cons fe_int (fa_cons fe_int (fa_cons fe_int (fa_cons fe_int (fa_cons fe_int (fa_cons fe_int (fa_cons fe_int (fa_cons fe_int (fa_cons fe_int fa_nil)))))))))) fa_nil)))) fa_nil))) (fa_cons (fe_call k__law_steps_error (hr.mono (by omega)) tk (fa_cons (fe_l (fl_disp (fa_cons (fe_var 2) (fa_cons fe_non fa_nil)))) fa_nil)) fa_nil)))))) nd))
    (fss_cons (fs_set 10 (fe_plus (fe_var 10) (fe_l (fl_disp (fa_cons fe_str (fa_cons fe_str (fa_cons fe_str fa_nil)))))) nd)
    (fss_one (fs_ret (fe_call k__law_same (hr.mono (by omega)) tk (fa_cons (fe_var 8) (fa_cons (fe_var 10) fa_nil))))))))))))))))))))
theorem fn_law_ {f : Addr} {fd : FuncData} (F : Fun K "law" "law" s_law f fd) (hm : mg "law" = some (.ref f)) (k__law_numbers : Fk P w K mg base 1 "_law_numbers" 3 m__law_numbers) (k__law_map : Fk P w K mg base 3 "_law_map" 1 m__law_map) (b_range : mg "range" = none) (k__law_step : Fk P w K mg base 3 "_law_step" 1 m__law_step) (k__law_track_holds : Fk P w K mg base 42 "_law_track_holds" 2 m__law_track_holds) (k__law_between_holds : Fk P w K mg base 42 "_law_between_holds" 3 m__law_between_holds) (k__law_short : Fk P w K mg base 2 "_law_short" 1 m__law_short) (k_is_map : Fk P w K mg base 2 "is_map" 1 m_is_map) (k__law_between_error : Fk P w K mg base 4 "_law_between_error" 4 m__law_between_error) (k__law_same : Fk P w K mg base 41 "_law_same" 2 (m__law_same 40)) (k__law_track_error : Fk P w K mg base 5 "_law_track_error" 2 m__law_track_error) (b_tuple : mg "tuple" = none) (k__law_steps_error : Fk P w K mg base 5 "_law_steps_error" 1 m__law_steps_error) : FnOk P w K mg base (L2.CX P w) 43 f fd ["script"] (spF K mg 1 m_law) :=
  fn_mk (k := 42) F sc_law rfl rfl (by decide) fun cdv A outer s H E hr tk po => by
    have nd := sc_law.nd
    exact (fss_cons (fs_set 1 (fe_call k__law_numbers (hr.mono (by omega)) tk (fa_cons (fe_var 0) (fa_cons fe_int (fa_cons fe_int fa_nil)))) nd)
    (fss_cons (fs_set 2 (fe_call k__law_map (hr.mono (by omega)) tk (fa_cons (fe_var 1) fa_nil)) nd)
    (fss_cons (fs_setL 3 (fl_disp fa_nil) nd)
    (fss_cons (fs_for po rfl (fi_range1 b_range (fa_cons (fe_mod (fe_ix (fe_var 1) fe_int) fe_int) fa_nil)) (fg_name 4 nd)
    (fss_cons (fs_set 5 (fe_call k__law_step (hr.mono (by omega)) tk (fa_cons (fe_sl (fe_var 1) (fo_some (fe_plus fe_int (fe_mul fe_int (fe_var 4)))) fo_none) fa_nil)) nd)
    (fss_cons (fs_if (ft_w (fw_and (ft_gt (fe_var 4) fe_int) (fw_and1 (ft_eq hr (fe_mod (fe_ix (fe_var 1) fe_int) fe_int) fe_int))))
    (fss_one (fs_set 5 (fe_ixO 3 fe_int) nd))
    fss_nil)
    (fss_one (fs_app 3 (fe_var 5) (hp := pe_bm PySem.F.plainAttrs_list PySem.F.slot_list_append PySem.F.type_list_append mt_append (pv 3) (pa_cons (fe_var 5) pa_nil)))))))
    (fss_cons (fs_if (ft_w (fw_or (ft_not (ft_bor 3 (ft_truth (fe_call k__law_track_holds (hr.mono (by omega)) tk (fa_cons (fe_var 2) (fa_cons (fe_var 3) fa_nil)))))) (fw_or1 (ft_not (ft_truth (fe_call k__law_track_holds (hr.mono (by omega)) tk (fa_cons (fe_var 2) (fa_cons (fe_l (fl_disp fa_nil)) fa_nil))))))))
    (fss_one (fs_ret fe_bl))
    fss_nil)
    (fss_cons (fs_set 6 (fe_call k__law_map (hr.mono (by omega)) tk (fa_cons (fe_call k__law_numbers (hr.mono (by omega)) tk (fa_cons (fe_var 0) (fa_cons fe_int (fa_cons fe_int fa_nil)))) fa_nil)) nd)
    (fss_cons (fs_if (ft_not (ft_truth (fe_call k__law_between_holds (hr.mono (by omega)) tk (fa_cons (fe_var 2) (fa_cons (fe_var 6) (fa_cons (fe_plus fe_int (fe_mod (fe_ix (fe_var 1) fe_int) fe_int)) fa_nil))))))
    (fss_one (fs_ret fe_bl))
    fss_nil)
    (fss_cons (fs_set 7 (fe_call k__law_short (hr.mono (by omega)) tk (fa_cons (fe_l (fl_disp (fa_cons (fe_ix (fe_var 2) fe_int) (fa_cons (fe_ix (fe_var 2) fe_int) (fa_cons (fe_ix (fe_var 2) fe_int) (fa_cons (fe_ix (fe_var 2) fe_int) (fa_cons (fe_ix (fe_var 2) fe_int) (fa_cons (fe_ix (fe_var 2) fe_int) (fa_cons (fe_ix (fe_var 2) fe_int) (fa_cons (fe_ix (fe_var 2) fe_int) (fa_cons (fe_neg (fe_ix (fe_var 2) fe_int)) fa_nil))))))))))) fa_nil)) nd)
    (fss_cons (fs_if (ft_truth (fe_call k_is_map (hr.mono (by omega)) tk (fa_cons (fe_var 7) fa_nil)))
    (fss_cons (fs_set 8 (fe_l (fl_disp (fa_cons (fe_call k__law_between_error (hr.mono (by omega)) tk (fa_cons (fe_var 7) (fa_cons (fe_var 2) (fa_cons fe_int (fa_cons fe_int fa_nil))))) (fa_cons (fe_call k__law_between_error (hr.mono (by omega)) tk (fa_cons (fe_var 2) (fa_cons (fe_var 7) (fa_cons fe_int (fa_cons fe_int fa_nil))))) fa_nil)))) nd)
    (fss_one (fs_if (ft_not (ft_truth (fe_call k__law_same (hr.mono (by omega)) tk (fa_cons (fe_var 8) (fa_cons (fe_l (fl_disp (fa_cons fe_str (fa_cons fe_str fa_nil)))) fa_nil)))))
    (fss_one (fs_ret fe_bl))
    fss_nil)))
    fss_nil)
    (fss_cons (fs_set 9 (fe_tup (fa_cons fe_int (fa_cons fe_int (fa_cons fe_int (fa_cons fe_int (fa_cons fe_int (fa_cons fe_int (fa_cons fe_int (fa_cons fe_int (fa_cons fe_int fa_nil)))))))))) nd)
    (fss_cons (fs_set 8 (fe_l (fl_disp (fa_cons (fe_call k__law_between_error (hr.mono (by omega)) tk (fa_cons (fe_var 2) (fa_cons (fe_var 9) (fa_cons fe_int (fa_cons fe_int fa_nil))))) (fa_cons (fe_call k__law_track_error (hr.mono (by omega)) tk (fa_cons (fe_var 2) (fa_cons (fe_l (fl_rep (fl_disp (fa_cons (fe_tup (fa_cons fe_int (fa_cons fe_int (fa_cons fe_int (fa_cons fe_int (fa_cons fe_int (fa_cons fe_int (fa_cons fe_int (fa_cons fe_int (fa_cons fe_int fa_nil)))))))))) fa_nil)) fe_int)) fa_nil))) (fa_cons (fe_call k__law_track_error (hr.mono (by omega)) tk (fa_cons (fe_var 2) (fa_cons (fe_l (fl_rep (fl_disp (fa_cons (fe_var 2) fa_nil)) fe_int)) fa_nil))) fa_nil))))) nd)
    (fss_cons (fs_set 8 (fe_plus (fe_var 8) (fe_l (fl_disp (fa_cons (fe_call k__law_track_error (hr.mono (by omega)) tk (fa_cons fe_non (fa_cons (fe_l (fl_disp fa_nil)) fa_nil))) (fa_cons (fe_call k__law_track_error (hr.mono (by omega)) tk (fa_cons (fe_ctuple b_tuple (fa_cons (fe_l (fl_comp (own := [("n", 11)]) rfl nd (show blkC N_law (defScope s_law) _ _ = true by decide +kernel) (fi_any (fe_var 2)) (fun _ _ _ _ _ => (fg_name 11 nd)) (fun _ _ _ _ _ => fts_nil) (fun _ _ _ _ _ => (fe_mul fe_int (fe_var 11))))) fa_nil)) (fa_cons (fe_l (fl_disp fa_nil)) fa_nil))) (fa_cons (fe_call k__law_track_error (hr.mono (by omega)) tk (fa_cons (fe_var 2) (fa_cons fe_non fa_nil))) (fa_cons (fe_call k__law_track_error (hr.mono (by omega)) tk (fa_cons (fe_var 2) (fa_cons (fe_l (fl_disp (fa_cons fe_non fa_nil))) fa_nil))) fa_nil))))))) nd)
    (fss_cons (fs_set 10 (fe_l (fl_disp (fa_cons fe_str (fa_cons (fe_l (fl_disp (fa_cons (fe_l (fl_rep (fl_disp (fa_cons (fe_var 2) fa_nil)) fe_int)) fa_nil))) (fa_cons fe_str (fa_cons fe_str (fa_cons fe_str (fa_cons fe_str (fa_cons fe_str fa_nil))))))))) nd)
    (fss_cons (fs_frz 3 (fs_set 8 (fe_plus (fe_var 8) (fe_l (fl_disp (fa_cons (fe_call k__law_track_error (hr.mono (by omega)) tk (fa_cons (fe_var 2) (fa_cons (fe_ctuple b_tuple (fa_cons (fe_var 3) fa_nil)) fa_nil))) (fa_cons (fe_call k__law_track_error (hr.mono (by omega)) tk (fa_cons (fe_var 2) (fa_cons (fe_plus (fe_var 3) (fe_l (fl_disp (fa_cons (fe_tup (fa_cons fe_int (fa_cons fe_int (fa_cons fe_int (fa_cons fe_int (fa_cons fe_int (fa_cons fe_int (fa_cons fe_int (fa_cons fe_int (fa_cons fe_int fa_nil)))))))))) fa_nil)))) fa_nil))) (fa_cons (fe_call k__law_steps_error (hr.mono (by omega)) tk (fa_cons (fe_l (fl_disp (fa_cons (fe_var 2) (fa_cons fe_non fa_nil)))) fa_nil)) fa_nil)))))) nd))
    (fss_cons (fs_set 10 (fe_plus (fe_var 10) (fe_l (fl_disp (fa_cons fe_str (fa_cons fe_str (fa_cons fe_str fa_nil)))))) nd)
    (fss_one (fs_ret (fe_call k__law_same (hr.mono (by omega)) tk (fa_cons (fe_var 8) (fa_cons (fe_var 10) fa_nil))))))))))))))))))))
end
end AF

namespace AF
open PySem PySem.Spec PyProof.Rows L2
/-! ### the program's maps -/
def iD (ns : List Int) : List D := ns.map D.int
theorem lowest_loop {ns : List Int} {dn : D} {s2 : Sl} {R : D → Prop} {ES : Er → En → Prop} {N B C : En → Prop} (h2 : s2 = .unk ∨ ∃ d, s2 = .val d) (hN : ∀ s2, (s2 = .unk ∨ ∃ d, s2 = .val d) → N [.val dn, .val (.int (gcdL ns : Nat)), s2]) :
    wpS (forL (tName 2) b_lowest_1 (iD ns) [.val dn, .val (.int 0), s2]) N R ES B C := by
  refine w_forI (fun i e => ∃ s2, (s2 = .unk ∨ ∃ d, s2 = .val d) ∧ e = [.val dn, .val (.int (gcdF 0 (ns.take i) : Nat)), s2]) ⟨_, h2, rfl⟩ ?_ ?_
  · rintro i d env hd ⟨s2, _, rfl⟩
    unfold iD at hd
    rw [List.getElem?_map] at hd
    cases hi : ns[i]? with
    | none => rw [hi] at hd; cases hd
    | some n =>
      rw [hi] at hd
      cases hd
      rw [t_name]
      simp only [b_lowest_1, ↓w_pin0, ↓w_lent0, ↓w_sPin, ↓w_sLend, ↓w_sAppP, pinE, pin1, dropE, drop1, lendE, lentOk, ↓w_sRaise1, ↓one1_one, ↓w_sTryF, ↓w_sExt, ↓o_any2L, ↓o_any2T, ↓w_lRet, ↓w_lSeq, ↓w_runFL, ↓w_lCallF, ↓w_lRep, ↓o_repL, ↓w_iRevG, ↓o_revIL, ↓o_revIT, ↓o_plusT, ↓o_plusS, ↓o_repS, ↓o_enumL, ↓o_enumT, ↓w_lComp2, ↓w_capL, ↓w_comp2N, ↓w_comp2C, enumD_nil, enumD_cons, fldOf, Er.cls, ↓wR_ok, ↓wR_err, ↓wR_bind, ↓wR_of, ↓wO_some, ↓wO_map, ↓wO_bind, ↓w_var0, ↓w_varS, ↓w_eC, ↓w_e1, ↓w_l1, ↓w_e2, ↓w_l2, ↓w_b1, ↓w_b2, ↓w_eB, ↓w_eF, ↓w_lF, ↓w_eCall, ↓w_eLst, ↓w_aNil, ↓w_aCons, ↓w_eTup, ↓w_lDisp, ↓w_eIf, ↓w_bAnd, ↓w_bOr, ↓w_bNot, ↓w_bYes, ↓w_bChain, ↓w_eAnd, ↓w_eOr, ↓w_iAny, ↓w_oNone, ↓w_oSomeC, ↓w_eSl, ↓w_lSlG, ↓w_lComp, ↓w_sSeq, ↓w_sNil, ↓w_sBreak, ↓w_sCont, ↓w_sSet, ↓w_sSetL, ↓w_sExpr, ↓w_sRet, ↓w_sRetN, ↓w_sIf, ↓w_own0, ↓w_ownS, ↓w_sRetO, ↓w_sApp, ↓w_sSetIx, ↓w_sFrz, ↓w_sThen, ↓w_sRaise, ↓w_sAsg, ↓w_sFor, ↓w_sTry, ↓t_name, ↓t_nil, ↓t_cons, ↓o_plus, ↓o_plusL, ↓o_lAdd, ↓o_sub, ↓o_neg, ↓o_mul, ↓o_fdiv, ↓o_mod, ↓o_pow, ↓o_lt, ↓o_le, ↓o_gt, ↓o_ge, ↓o_eq, ↓o_ne, ↓o_truthB, ↓o_truthI, ↓o_truthN, ↓o_truthL, ↓o_truthT, ↓o_truthS, ↓o_notB, ↓o_isNN, ↓o_isBT, ↓o_isBF, ↓o_isT, ↓o_isIB, ↓o_isSB, ↓o_isLB, ↓o_isTB, ↓o_isNB, ↓o_isNot, ↓o_lenL, ↓o_lenT, ↓o_lenS, ↓o_abs, ↓o_intI, ↓o_intB, ↓o_str, ↓o_gcd, ↓o_list, ↓o_listT, ↓o_tuple, ↓o_tupleT, ↓o_rev, ↓o_type, ↓o_isi, ↓o_isi2, ↓o_rg1, ↓o_rg2, ↓o_zip, ↓o_zipT, ↓o_itemsL, ↓o_itemsT, ↓o_ixL, ↓o_ixT, ↓o_at0, ↓o_at1, ↓o_at2, ↓o_at3, ↓o_at4, ↓o_at5, ↓o_at6, ↓o_at7, ↓o_at8, ↓o_at9, ↓o_at10, ↓o_at11, ↓o_at12, ↓o_at13, ↓o_at14, ↓o_at15, ↓w_eIxO, ↓t_tup1, ↓t_tup2, ↓t_tup3, ↓w_okOnly, ↓w_compN, ↓w_compC, ↓o_all, ↓o_any, ↓bls_nil, ↓bls_cons, ↓o_minL, ↓o_maxL, ↓o_sumL, ↓ints_nil, ↓ints_cons, ↓o_min3, ↓o_max3, ↓o_slL, ↓o_slT, ↓w_eBor, ↓w_bBor, o_isN, w_runF, tyName, isSubTy, tyNames, List.getElem?_cons_zero, List.getElem?_cons_succ, List.set_cons_zero, List.set_cons_succ, List.map_cons, List.map_nil, List.replicate_succ, List.replicate_zero, List.length_cons, List.length_nil, List.cons_append, List.nil_append, Nat.reduceAdd, Nat.reduceSub, Nat.reduceLeDiff, Nat.reduceEqDiff, ↓reduceIte, if_true, if_false, Bool.not_true, Bool.not_false, Bool.true_and, Bool.and_true, Bool.false_and, Bool.and_false, Bool.true_or, Bool.false_or, Bool.or_true, Bool.or_false, reduceCtorEq, decide_true, decide_false, beq_self_eq_true, List.mem_cons, true_or, or_true, true_and, and_true, false_and, and_false, or_false, false_or, String.reduceEq, String.reduceBEq, List.not_mem_nil, Bool.not_eq_true, Bool.false_eq_true, eq_self, not_true_eq_false, not_false_eq_true, Bool.not_eq_eq_eq_not, decide_eq_true_eq, decide_eq_false_iff_not, bne_iff_ne, ne_eq, Int.reduceLT, Int.reduceLE, Int.reduceMul, Int.reduceAdd, Int.reduceNeg, Int.reduceToNat, Int.reducePow, Nat.reduceLT, Int.reduceEq, Int.reduceSub, zipD, List.zipWith_cons_cons, List.zipWith_nil_left, List.zipWith_nil_right, List.all_cons, List.all_nil, id_eq, scalD, borE, wipeE, noOwn, sz_0, szl_0, sz_1, szl_1, sz_2, szl_2, sz_3, szl_3, sz_4, szl_4, sz_5, szl_5, sz_6, szl_6, sz_7, szl_7, sz_8, szl_8, sz_9, szl_9, sz_10, szl_10, sz_11, szl_11, sz_12, szl_12, sz_13, szl_13, sz_14, szl_14, sz_15, szl_15, sz_16, szl_16, sz_17, szl_17, sz_18, szl_18, sz_19, szl_19, sz_20, szl_20, sz_21, szl_21, sz_22, szl_22, sz_23, szl_23, sz_24, szl_24, sz_25, szl_25, sz_26, szl_26, sz_27, szl_27, sz_28, szl_28, sz_29, szl_29, sz_30, szl_30, sz_31, szl_31, sz_32, szl_32, frz, List.all_cons, List.all_nil, Int.natAbs_natCast]
      refine ⟨.val (.int n), .inr ⟨_, rfl⟩, ?_⟩
      rw [List.take_add_one, hi, Option.toList_some]
      simp [gcdF]
  · rintro env ⟨s2, h2, rfl⟩
    rw [show (iD ns).length = ns.length from List.length_map _, List.take_length]
    exact hN _ h2
theorem prim_div {ns : List Int} (h : 0 < gcdL ns) : prim ns = ns.map (fun n => n.fdiv (gcdL ns)) := if_pos h
theorem plowest_ok (ns : List Int) (hb : ∀ n ∈ ns, n.natAbs < 2 ^ 3000) (hl : ns.length ≤ 1000) : m_lowest [.tup (iD ns)] = .ok (.tup (iD (prim ns))) ∧ m_lowest [.lst (iD ns)] = .ok (.tup (iD (prim ns))) := by
  have hg : gcdL ns < 2 ^ 3000 := gcdL_le hb (by decide)
  have hsz : (iD ns).length ≤ sizeLine := by
    rw [show (iD ns).length = ns.length from List.length_map _]
    exact Nat.le_trans hl (by decide)
  have fin : ∀ dn : D, (∀ Q : List D → Prop, wpO (items dn) Q = Q (iD ns)) → (∀ Q : D → Prop, wpO (fTuple [dn]) Q = Q (.tup (iD ns))) → ∀ s2, (s2 = .unk ∨ ∃ d, s2 = .val d) → ∀ N ES B C, wpS (r_lowest_2 [.val dn, .val (.int (gcdL ns : Nat)), s2]) N (fun y => y = .tup (iD (prim ns))) ES B C := by
    intro dn h1 h2 s2 hs2 N ES B C
    simp only [r_lowest_2, ↓w_pin0, ↓w_lent0, ↓w_sPin, ↓w_sLend, ↓w_sAppP, pinE, pin1, dropE, drop1, lendE, lentOk, ↓w_sRaise1, ↓one1_one, ↓w_sTryF, ↓w_sExt, ↓o_any2L, ↓o_any2T, ↓w_lRet, ↓w_lSeq, ↓w_runFL, ↓w_lCallF, ↓w_lRep, ↓o_repL, ↓w_iRevG, ↓o_revIL, ↓o_revIT, ↓o_plusT, ↓o_plusS, ↓o_repS, ↓o_enumL, ↓o_enumT, ↓w_lComp2, ↓w_capL, ↓w_comp2N, ↓w_comp2C, enumD_nil, enumD_cons, fldOf, Er.cls, ↓wR_ok, ↓wR_err, ↓wR_bind, ↓wR_of, ↓wO_some, ↓wO_map, ↓wO_bind, ↓w_var0, ↓w_varS, ↓w_eC, ↓w_e1, ↓w_l1, ↓w_e2, ↓w_l2, ↓w_b1, ↓w_b2, ↓w_eB, ↓w_eF, ↓w_lF, ↓w_eCall, ↓w_eLst, ↓w_aNil, ↓w_aCons, ↓w_eTup, ↓w_lDisp, ↓w_eIf, ↓w_bAnd, ↓w_bOr, ↓w_bNot, ↓w_bYes, ↓w_bChain, ↓w_eAnd, ↓w_eOr, ↓w_iAny, ↓w_oNone, ↓w_oSomeC, ↓w_eSl, ↓w_lSlG, ↓w_lComp, ↓w_sSeq, ↓w_sNil, ↓w_sBreak, ↓w_sCont, ↓w_sSet, ↓w_sSetL, ↓w_sExpr, ↓w_sRet, ↓w_sRetN, ↓w_sIf, ↓w_own0, ↓w_ownS, ↓w_sRetO, ↓w_sApp, ↓w_sSetIx, ↓w_sFrz, ↓w_sThen, ↓w_sRaise, ↓w_sAsg, ↓w_sFor, ↓w_sTry, ↓t_name, ↓t_nil, ↓t_cons, ↓o_plus, ↓o_plusL, ↓o_lAdd, ↓o_sub, ↓o_neg, ↓o_mul, ↓o_fdiv, ↓o_mod, ↓o_pow, ↓o_lt, ↓o_le, ↓o_gt, ↓o_ge, ↓o_eq, ↓o_ne, ↓o_truthB, ↓o_truthI, ↓o_truthN, ↓o_truthL, ↓o_truthT, ↓o_truthS, ↓o_notB, ↓o_isNN, ↓o_isBT, ↓o_isBF, ↓o_isT, ↓o_isIB, ↓o_isSB, ↓o_isLB, ↓o_isTB, ↓o_isNB, ↓o_isNot, ↓o_lenL, ↓o_lenT, ↓o_lenS, ↓o_abs, ↓o_intI, ↓o_intB, ↓o_str, ↓o_gcd, ↓o_list, ↓o_listT, ↓o_tuple, ↓o_tupleT, ↓o_rev, ↓o_type, ↓o_isi, ↓o_isi2, ↓o_rg1, ↓o_rg2, ↓o_zip, ↓o_zipT, ↓o_itemsL, ↓o_itemsT, ↓o_ixL, ↓o_ixT, ↓o_at0, ↓o_at1, ↓o_at2, ↓o_at3, ↓o_at4, ↓o_at5, ↓o_at6, ↓o_at7, ↓o_at8, ↓o_at9, ↓o_at10, ↓o_at11, ↓o_at12, ↓o_at13, ↓o_at14, ↓o_at15, ↓w_eIxO, ↓t_tup1, ↓t_tup2, ↓t_tup3, ↓w_okOnly, ↓w_compN, ↓w_compC, ↓o_all, ↓o_any, ↓bls_nil, ↓bls_cons, ↓o_minL, ↓o_maxL, ↓o_sumL, ↓ints_nil, ↓ints_cons, ↓o_min3, ↓o_max3, ↓o_slL, ↓o_slT, ↓w_eBor, ↓w_bBor, o_isN, w_runF, tyName, isSubTy, tyNames, List.getElem?_cons_zero, List.getElem?_cons_succ, List.set_cons_zero, List.set_cons_succ, List.map_cons, List.map_nil, List.replicate_succ, List.replicate_zero, List.length_cons, List.length_nil, List.cons_append, List.nil_append, Nat.reduceAdd, Nat.reduceSub, Nat.reduceLeDiff, Nat.reduceEqDiff, ↓reduceIte, if_true, if_false, Bool.not_true, Bool.not_false, Bool.true_and, Bool.and_true, Bool.false_and, Bool.and_false, Bool.true_or, Bool.false_or, Bool.or_true, Bool.or_false, reduceCtorEq, decide_true, decide_false, beq_self_eq_true, List.mem_cons, true_or, or_true, true_and, and_true, false_and, and_false, or_false, false_or, String.reduceEq, String.reduceBEq, List.not_mem_nil, Bool.not_eq_true, Bool.false_eq_true, eq_self, not_true_eq_false, not_false_eq_true, Bool.not_eq_eq_eq_not, decide_eq_true_eq, decide_eq_false_iff_not, bne_iff_ne, ne_eq, Int.reduceLT, Int.reduceLE, Int.reduceMul, Int.reduceAdd, Int.reduceNeg, Int.reduceToNat, Int.reducePow, Nat.reduceLT, Int.reduceEq, Int.reduceSub, zipD, List.zipWith_cons_cons, List.zipWith_nil_left, List.zipWith_nil_right, List.all_cons, List.all_nil, id_eq, scalD, borE, wipeE, noOwn, sz_0, szl_0, sz_1, szl_1, sz_2, szl_2, sz_3, szl_3, sz_4, szl_4, sz_5, szl_5, sz_6, szl_6, sz_7, szl_7, sz_8, szl_8, sz_9, szl_9, sz_10, szl_10, sz_11, szl_11, sz_12, szl_12, sz_13, szl_13, sz_14, szl_14, sz_15, szl_15, sz_16, szl_16, sz_17, szl_17, sz_18, szl_18, sz_19, szl_19, sz_20, szl_20, sz_21, szl_21, sz_22, szl_22, sz_23, szl_23, sz_24, szl_24, sz_25, szl_25, sz_26, szl_26, sz_27, szl_27, sz_28, szl_28, sz_29, szl_29, sz_30, szl_30, sz_31, szl_31, sz_32, szl_32, frz, List.all_cons, List.all_nil, h1, h2]
    split
    · rename_i h
      have h0 : 0 < gcdL ns := by omega
      refine ⟨⟨hsz, ?_⟩, ?_⟩
      · rcases hs2 with rfl | ⟨d, rfl⟩ <;> rfl
      refine w_compF (fun d => match d with | .int z => .int (z.fdiv (gcdL ns)) | d => d) ?_ ?_
      · intro d hd
        obtain ⟨n, hn, rfl⟩ := List.mem_map.mp hd
        rw [t_name]
        simp only [↓w_pin0, ↓w_lent0, ↓w_sPin, ↓w_sLend, ↓w_sAppP, pinE, pin1, dropE, drop1, lendE, lentOk, ↓w_sRaise1, ↓one1_one, ↓w_sTryF, ↓w_sExt, ↓o_any2L, ↓o_any2T, ↓w_lRet, ↓w_lSeq, ↓w_runFL, ↓w_lCallF, ↓w_lRep, ↓o_repL, ↓w_iRevG, ↓o_revIL, ↓o_revIT, ↓o_plusT, ↓o_plusS, ↓o_repS, ↓o_enumL, ↓o_enumT, ↓w_lComp2, ↓w_capL, ↓w_comp2N, ↓w_comp2C, enumD_nil, enumD_cons, fldOf, Er.cls, ↓wR_ok, ↓wR_err, ↓wR_bind, ↓wR_of, ↓wO_some, ↓wO_map, ↓wO_bind, ↓w_var0, ↓w_varS, ↓w_eC, ↓w_e1, ↓w_l1, ↓w_e2, ↓w_l2, ↓w_b1, ↓w_b2, ↓w_eB, ↓w_eF, ↓w_lF, ↓w_eCall, ↓w_eLst, ↓w_aNil, ↓w_aCons, ↓w_eTup, ↓w_lDisp, ↓w_eIf, ↓w_bAnd, ↓w_bOr, ↓w_bNot, ↓w_bYes, ↓w_bChain, ↓w_eAnd, ↓w_eOr, ↓w_iAny, ↓w_oNone, ↓w_oSomeC, ↓w_eSl, ↓w_lSlG, ↓w_lComp, ↓w_sSeq, ↓w_sNil, ↓w_sBreak, ↓w_sCont, ↓w_sSet, ↓w_sSetL, ↓w_sExpr, ↓w_sRet, ↓w_sRetN, ↓w_sIf, ↓w_own0, ↓w_ownS, ↓w_sRetO, ↓w_sApp, ↓w_sSetIx, ↓w_sFrz, ↓w_sThen, ↓w_sRaise, ↓w_sAsg, ↓w_sFor, ↓w_sTry, ↓t_name, ↓t_nil, ↓t_cons, ↓o_plus, ↓o_plusL, ↓o_lAdd, ↓o_sub, ↓o_neg, ↓o_mul, ↓o_fdiv, ↓o_mod, ↓o_pow, ↓o_lt, ↓o_le, ↓o_gt, ↓o_ge, ↓o_eq, ↓o_ne, ↓o_truthB, ↓o_truthI, ↓o_truthN, ↓o_truthL, ↓o_truthT, ↓o_truthS, ↓o_notB, ↓o_isNN, ↓o_isBT, ↓o_isBF, ↓o_isT, ↓o_isIB, ↓o_isSB, ↓o_isLB, ↓o_isTB, ↓o_isNB, ↓o_isNot, ↓o_lenL, ↓o_lenT, ↓o_lenS, ↓o_abs, ↓o_intI, ↓o_intB, ↓o_str, ↓o_gcd, ↓o_list, ↓o_listT, ↓o_tuple, ↓o_tupleT, ↓o_rev, ↓o_type, ↓o_isi, ↓o_isi2, ↓o_rg1, ↓o_rg2, ↓o_zip, ↓o_zipT, ↓o_itemsL, ↓o_itemsT, ↓o_ixL, ↓o_ixT, ↓o_at0, ↓o_at1, ↓o_at2, ↓o_at3, ↓o_at4, ↓o_at5, ↓o_at6, ↓o_at7, ↓o_at8, ↓o_at9, ↓o_at10, ↓o_at11, ↓o_at12, ↓o_at13, ↓o_at14, ↓o_at15, ↓w_eIxO, ↓t_tup1, ↓t_tup2, ↓t_tup3, ↓w_okOnly, ↓w_compN, ↓w_compC, ↓o_all, ↓o_any, ↓bls_nil, ↓bls_cons, ↓o_minL, ↓o_maxL, ↓o_sumL, ↓ints_nil, ↓ints_cons, ↓o_min3, ↓o_max3, ↓o_slL, ↓o_slT, ↓w_eBor, ↓w_bBor, o_isN, w_runF, tyName, isSubTy, tyNames, List.getElem?_cons_zero, List.getElem?_cons_succ, List.set_cons_zero, List.set_cons_succ, List.map_cons, List.map_nil, List.replicate_succ, List.replicate_zero, List.length_cons, List.length_nil, List.cons_append, List.nil_append, Nat.reduceAdd, Nat.reduceSub, Nat.reduceLeDiff, Nat.reduceEqDiff, ↓reduceIte, if_true, if_false, Bool.not_true, Bool.not_false, Bool.true_and, Bool.and_true, Bool.false_and, Bool.and_false, Bool.true_or, Bool.false_or, Bool.or_true, Bool.or_false, reduceCtorEq, decide_true, decide_false, beq_self_eq_true, List.mem_cons, true_or, or_true, true_and, and_true, false_and, and_false, or_false, false_or, String.reduceEq, String.reduceBEq, List.not_mem_nil, Bool.not_eq_true, Bool.false_eq_true, eq_self, not_true_eq_false, not_false_eq_true, Bool.not_eq_eq_eq_not, decide_eq_true_eq, decide_eq_false_iff_not, bne_iff_ne, ne_eq, Int.reduceLT, Int.reduceLE, Int.reduceMul, Int.reduceAdd, Int.reduceNeg, Int.reduceToNat, Int.reducePow, Nat.reduceLT, Int.reduceEq, Int.reduceSub, zipD, List.zipWith_cons_cons, List.zipWith_nil_left, List.zipWith_nil_right, List.all_cons, List.all_nil, id_eq, scalD, borE, wipeE, noOwn, sz_0, szl_0, sz_1, szl_1, sz_2, szl_2, sz_3, szl_3, sz_4, szl_4, sz_5, szl_5, sz_6, szl_6, sz_7, szl_7, sz_8, szl_8, sz_9, szl_9, sz_10, szl_10, sz_11, szl_11, sz_12, szl_12, sz_13, szl_13, sz_14, szl_14, sz_15, szl_15, sz_16, szl_16, sz_17, szl_17, sz_18, szl_18, sz_19, szl_19, sz_20, szl_20, sz_21, szl_21, sz_22, szl_22, sz_23, szl_23, sz_24, szl_24, sz_25, szl_25, sz_26, szl_26, sz_27, szl_27, sz_28, szl_28, sz_29, szl_29, sz_30, szl_30, sz_31, szl_31, sz_32, szl_32, frz, List.all_cons, List.all_nil]
        exact s9_of (by omega) (by rw [Int.natAbs_natCast]; exact hg)
      · rw [prim_div h0]
        simp only [↓w_pin0, ↓w_lent0, ↓w_sPin, ↓w_sLend, ↓w_sAppP, pinE, pin1, dropE, drop1, lendE, lentOk, ↓w_sRaise1, ↓one1_one, ↓w_sTryF, ↓w_sExt, ↓o_any2L, ↓o_any2T, ↓w_lRet, ↓w_lSeq, ↓w_runFL, ↓w_lCallF, ↓w_lRep, ↓o_repL, ↓w_iRevG, ↓o_revIL, ↓o_revIT, ↓o_plusT, ↓o_plusS, ↓o_repS, ↓o_enumL, ↓o_enumT, ↓w_lComp2, ↓w_capL, ↓w_comp2N, ↓w_comp2C, enumD_nil, enumD_cons, fldOf, Er.cls, ↓wR_ok, ↓wR_err, ↓wR_bind, ↓wR_of, ↓wO_some, ↓wO_map, ↓wO_bind, ↓w_var0, ↓w_varS, ↓w_eC, ↓w_e1, ↓w_l1, ↓w_e2, ↓w_l2, ↓w_b1, ↓w_b2, ↓w_eB, ↓w_eF, ↓w_lF, ↓w_eCall, ↓w_eLst, ↓w_aNil, ↓w_aCons, ↓w_eTup, ↓w_lDisp, ↓w_eIf, ↓w_bAnd, ↓w_bOr, ↓w_bNot, ↓w_bYes, ↓w_bChain, ↓w_eAnd, ↓w_eOr, ↓w_iAny, ↓w_oNone, ↓w_oSomeC, ↓w_eSl, ↓w_lSlG, ↓w_lComp, ↓w_sSeq, ↓w_sNil, ↓w_sBreak, ↓w_sCont, ↓w_sSet, ↓w_sSetL, ↓w_sExpr, ↓w_sRet, ↓w_sRetN, ↓w_sIf, ↓w_own0, ↓w_ownS, ↓w_sRetO, ↓w_sApp, ↓w_sSetIx, ↓w_sFrz, ↓w_sThen, ↓w_sRaise, ↓w_sAsg, ↓w_sFor, ↓w_sTry, ↓t_name, ↓t_nil, ↓t_cons, ↓o_plus, ↓o_plusL, ↓o_lAdd, ↓o_sub, ↓o_neg, ↓o_mul, ↓o_fdiv, ↓o_mod, ↓o_pow, ↓o_lt, ↓o_le, ↓o_gt, ↓o_ge, ↓o_eq, ↓o_ne, ↓o_truthB, ↓o_truthI, ↓o_truthN, ↓o_truthL, ↓o_truthT, ↓o_truthS, ↓o_notB, ↓o_isNN, ↓o_isBT, ↓o_isBF, ↓o_isT, ↓o_isIB, ↓o_isSB, ↓o_isLB, ↓o_isTB, ↓o_isNB, ↓o_isNot, ↓o_lenL, ↓o_lenT, ↓o_lenS, ↓o_abs, ↓o_intI, ↓o_intB, ↓o_str, ↓o_gcd, ↓o_list, ↓o_listT, ↓o_tuple, ↓o_tupleT, ↓o_rev, ↓o_type, ↓o_isi, ↓o_isi2, ↓o_rg1, ↓o_rg2, ↓o_zip, ↓o_zipT, ↓o_itemsL, ↓o_itemsT, ↓o_ixL, ↓o_ixT, ↓o_at0, ↓o_at1, ↓o_at2, ↓o_at3, ↓o_at4, ↓o_at5, ↓o_at6, ↓o_at7, ↓o_at8, ↓o_at9, ↓o_at10, ↓o_at11, ↓o_at12, ↓o_at13, ↓o_at14, ↓o_at15, ↓w_eIxO, ↓t_tup1, ↓t_tup2, ↓t_tup3, ↓w_okOnly, ↓w_compN, ↓w_compC, ↓o_all, ↓o_any, ↓bls_nil, ↓bls_cons, ↓o_minL, ↓o_maxL, ↓o_sumL, ↓ints_nil, ↓ints_cons, ↓o_min3, ↓o_max3, ↓o_slL, ↓o_slT, ↓w_eBor, ↓w_bBor, o_isN, w_runF, tyName, isSubTy, tyNames, List.getElem?_cons_zero, List.getElem?_cons_succ, List.set_cons_zero, List.set_cons_succ, List.map_cons, List.map_nil, List.replicate_succ, List.replicate_zero, List.length_cons, List.length_nil, List.cons_append, List.nil_append, Nat.reduceAdd, Nat.reduceSub, Nat.reduceLeDiff, Nat.reduceEqDiff, ↓reduceIte, if_true, if_false, Bool.not_true, Bool.not_false, Bool.true_and, Bool.and_true, Bool.false_and, Bool.and_false, Bool.true_or, Bool.false_or, Bool.or_true, Bool.or_false, reduceCtorEq, decide_true, decide_false, beq_self_eq_true, List.mem_cons, true_or, or_true, true_and, and_true, false_and, and_false, or_false, false_or, String.reduceEq, String.reduceBEq, List.not_mem_nil, Bool.not_eq_true, Bool.false_eq_true, eq_self, not_true_eq_false, not_false_eq_true, Bool.not_eq_eq_eq_not, decide_eq_true_eq, decide_eq_false_iff_not, bne_iff_ne, ne_eq, Int.reduceLT, Int.reduceLE, Int.reduceMul, Int.reduceAdd, Int.reduceNeg, Int.reduceToNat, Int.reducePow, Nat.reduceLT, Int.reduceEq, Int.reduceSub, zipD, List.zipWith_cons_cons, List.zipWith_nil_left, List.zipWith_nil_right, List.all_cons, List.all_nil, id_eq, scalD, borE, wipeE, noOwn, sz_0, szl_0, sz_1, szl_1, sz_2, szl_2, sz_3, szl_3, sz_4, szl_4, sz_5, szl_5, sz_6, szl_6, sz_7, szl_7, sz_8, szl_8, sz_9, szl_9, sz_10, szl_10, sz_11, szl_11, sz_12, szl_12, sz_13, szl_13, sz_14, szl_14, sz_15, szl_15, sz_16, szl_16, sz_17, szl_17, sz_18, szl_18, sz_19, szl_19, sz_20, szl_20, sz_21, szl_21, sz_22, szl_22, sz_23, szl_23, sz_24, szl_24, sz_25, szl_25, sz_26, szl_26, sz_27, szl_27, sz_28, szl_28, sz_29, szl_29, sz_30, szl_30, sz_31, szl_31, sz_32, szl_32, frz, List.all_cons, List.all_nil, iD, List.map_map]
        rfl
    · rename_i h
      have : gcdL ns = 0 := by omega
      rw [show prim ns = ns from if_neg (by omega)]
  constructor
  · apply wR_eq
    simp only [m_lowest, g_lowest, ↓w_pin0, ↓w_lent0, ↓w_sPin, ↓w_sLend, ↓w_sAppP, pinE, pin1, dropE, drop1, lendE, lentOk, ↓w_sRaise1, ↓one1_one, ↓w_sTryF, ↓w_sExt, ↓o_any2L, ↓o_any2T, ↓w_lRet, ↓w_lSeq, ↓w_runFL, ↓w_lCallF, ↓w_lRep, ↓o_repL, ↓w_iRevG, ↓o_revIL, ↓o_revIT, ↓o_plusT, ↓o_plusS, ↓o_repS, ↓o_enumL, ↓o_enumT, ↓w_lComp2, ↓w_capL, ↓w_comp2N, ↓w_comp2C, enumD_nil, enumD_cons, fldOf, Er.cls, ↓wR_ok, ↓wR_err, ↓wR_bind, ↓wR_of, ↓wO_some, ↓wO_map, ↓wO_bind, ↓w_var0, ↓w_varS, ↓w_eC, ↓w_e1, ↓w_l1, ↓w_e2, ↓w_l2, ↓w_b1, ↓w_b2, ↓w_eB, ↓w_eF, ↓w_lF, ↓w_eCall, ↓w_eLst, ↓w_aNil, ↓w_aCons, ↓w_eTup, ↓w_lDisp, ↓w_eIf, ↓w_bAnd, ↓w_bOr, ↓w_bNot, ↓w_bYes, ↓w_bChain, ↓w_eAnd, ↓w_eOr, ↓w_iAny, ↓w_oNone, ↓w_oSomeC, ↓w_eSl, ↓w_lSlG, ↓w_lComp, ↓w_sSeq, ↓w_sNil, ↓w_sBreak, ↓w_sCont, ↓w_sSet, ↓w_sSetL, ↓w_sExpr, ↓w_sRet, ↓w_sRetN, ↓w_sIf, ↓w_own0, ↓w_ownS, ↓w_sRetO, ↓w_sApp, ↓w_sSetIx, ↓w_sFrz, ↓w_sThen, ↓w_sRaise, ↓w_sAsg, ↓w_sFor, ↓w_sTry, ↓t_name, ↓t_nil, ↓t_cons, ↓o_plus, ↓o_plusL, ↓o_lAdd, ↓o_sub, ↓o_neg, ↓o_mul, ↓o_fdiv, ↓o_mod, ↓o_pow, ↓o_lt, ↓o_le, ↓o_gt, ↓o_ge, ↓o_eq, ↓o_ne, ↓o_truthB, ↓o_truthI, ↓o_truthN, ↓o_truthL, ↓o_truthT, ↓o_truthS, ↓o_notB, ↓o_isNN, ↓o_isBT, ↓o_isBF, ↓o_isT, ↓o_isIB, ↓o_isSB, ↓o_isLB, ↓o_isTB, ↓o_isNB, ↓o_isNot, ↓o_lenL, ↓o_lenT, ↓o_lenS, ↓o_abs, ↓o_intI, ↓o_intB, ↓o_str, ↓o_gcd, ↓o_list, ↓o_listT, ↓o_tuple, ↓o_tupleT, ↓o_rev, ↓o_type, ↓o_isi, ↓o_isi2, ↓o_rg1, ↓o_rg2, ↓o_zip, ↓o_zipT, ↓o_itemsL, ↓o_itemsT, ↓o_ixL, ↓o_ixT, ↓o_at0, ↓o_at1, ↓o_at2, ↓o_at3, ↓o_at4, ↓o_at5, ↓o_at6, ↓o_at7, ↓o_at8, ↓o_at9, ↓o_at10, ↓o_at11, ↓o_at12, ↓o_at13, ↓o_at14, ↓o_at15, ↓w_eIxO, ↓t_tup1, ↓t_tup2, ↓t_tup3, ↓w_okOnly, ↓w_compN, ↓w_compC, ↓o_all, ↓o_any, ↓bls_nil, ↓bls_cons, ↓o_minL, ↓o_maxL, ↓o_sumL, ↓ints_nil, ↓ints_cons, ↓o_min3, ↓o_max3, ↓o_slL, ↓o_slT, ↓w_eBor, ↓w_bBor, o_isN, w_runF, tyName, isSubTy, tyNames, List.getElem?_cons_zero, List.getElem?_cons_succ, List.set_cons_zero, List.set_cons_succ, List.map_cons, List.map_nil, List.replicate_succ, List.replicate_zero, List.length_cons, List.length_nil, List.cons_append, List.nil_append, Nat.reduceAdd, Nat.reduceSub, Nat.reduceLeDiff, Nat.reduceEqDiff, ↓reduceIte, if_true, if_false, Bool.not_true, Bool.not_false, Bool.true_and, Bool.and_true, Bool.false_and, Bool.and_false, Bool.true_or, Bool.false_or, Bool.or_true, Bool.or_false, reduceCtorEq, decide_true, decide_false, beq_self_eq_true, List.mem_cons, true_or, or_true, true_and, and_true, false_and, and_false, or_false, false_or, String.reduceEq, String.reduceBEq, List.not_mem_nil, Bool.not_eq_true, Bool.false_eq_true, eq_self, not_true_eq_false, not_false_eq_true, Bool.not_eq_eq_eq_not, decide_eq_true_eq, decide_eq_false_iff_not, bne_iff_ne, ne_eq, Int.reduceLT, Int.reduceLE, Int.reduceMul, Int.reduceAdd, Int.reduceNeg, Int.reduceToNat, Int.reducePow, Nat.reduceLT, Int.reduceEq, Int.reduceSub, zipD, List.zipWith_cons_cons, List.zipWith_nil_left, List.zipWith_nil_right, List.all_cons, List.all_nil, id_eq, scalD, borE, wipeE, noOwn, sz_0, szl_0, sz_1, szl_1, sz_2, szl_2, sz_3, szl_3, sz_4, szl_4, sz_5, szl_5, sz_6, szl_6, sz_7, szl_7, sz_8, szl_8, sz_9, szl_9, sz_10, szl_10, sz_11, szl_11, sz_12, szl_12, sz_13, szl_13, sz_14, szl_14, sz_15, szl_15, sz_16, szl_16, sz_17, szl_17, sz_18, szl_18, sz_19, szl_19, sz_20, szl_20, sz_21, szl_21, sz_22, szl_22, sz_23, szl_23, sz_24, szl_24, sz_25, szl_25, sz_26, szl_26, sz_27, szl_27, sz_28, szl_28, sz_29, szl_29, sz_30, szl_30, sz_31, szl_31, sz_32, szl_32, frz, List.all_cons, List.all_nil]
    exact lowest_loop (.inl rfl) fun s2 h2 => fin _ (fun Q => rfl) (fun Q => rfl) _ h2 _ _ _ _
  · apply wR_eq
    simp only [m_lowest, g_lowest, ↓w_pin0, ↓w_lent0, ↓w_sPin, ↓w_sLend, ↓w_sAppP, pinE, pin1, dropE, drop1, lendE, lentOk, ↓w_sRaise1, ↓one1_one, ↓w_sTryF, ↓w_sExt, ↓o_any2L, ↓o_any2T, ↓w_lRet, ↓w_lSeq, ↓w_runFL, ↓w_lCallF, ↓w_lRep, ↓o_repL, ↓w_iRevG, ↓o_revIL, ↓o_revIT, ↓o_plusT, ↓o_plusS, ↓o_repS, ↓o_enumL, ↓o_enumT, ↓w_lComp2, ↓w_capL, ↓w_comp2N, ↓w_comp2C, enumD_nil, enumD_cons, fldOf, Er.cls, ↓wR_ok, ↓wR_err, ↓wR_bind, ↓wR_of, ↓wO_some, ↓wO_map, ↓wO_bind, ↓w_var0, ↓w_varS, ↓w_eC, ↓w_e1, ↓w_l1, ↓w_e2, ↓w_l2, ↓w_b1, ↓w_b2, ↓w_eB, ↓w_eF, ↓w_lF, ↓w_eCall, ↓w_eLst, ↓w_aNil, ↓w_aCons, ↓w_eTup, ↓w_lDisp, ↓w_eIf, ↓w_bAnd, ↓w_bOr, ↓w_bNot, ↓w_bYes, ↓w_bChain, ↓w_eAnd, ↓w_eOr, ↓w_iAny, ↓w_oNone, ↓w_oSomeC, ↓w_eSl, ↓w_lSlG, ↓w_lComp, ↓w_sSeq, ↓w_sNil, ↓w_sBreak, ↓w_sCont, ↓w_sSet, ↓w_sSetL, ↓w_sExpr, ↓w_sRet, ↓w_sRetN, ↓w_sIf, ↓w_own0, ↓w_ownS, ↓w_sRetO, ↓w_sApp, ↓w_sSetIx, ↓w_sFrz, ↓w_sThen, ↓w_sRaise, ↓w_sAsg, ↓w_sFor, ↓w_sTry, ↓t_name, ↓t_nil, ↓t_cons, ↓o_plus, ↓o_plusL, ↓o_lAdd, ↓o_sub, ↓o_neg, ↓o_mul, ↓o_fdiv, ↓o_mod, ↓o_pow, ↓o_lt, ↓o_le, ↓o_gt, ↓o_ge, ↓o_eq, ↓o_ne, ↓o_truthB, ↓o_truthI, ↓o_truthN, ↓o_truthL, ↓o_truthT, ↓o_truthS, ↓o_notB, ↓o_isNN, ↓o_isBT, ↓o_isBF, ↓o_isT, ↓o_isIB, ↓o_isSB, ↓o_isLB, ↓o_isTB, ↓o_isNB, ↓o_isNot, ↓o_lenL, ↓o_lenT, ↓o_lenS, ↓o_abs, ↓o_intI, ↓o_intB, ↓o_str, ↓o_gcd, ↓o_list, ↓o_listT, ↓o_tuple, ↓o_tupleT, ↓o_rev, ↓o_type, ↓o_isi, ↓o_isi2, ↓o_rg1, ↓o_rg2, ↓o_zip, ↓o_zipT, ↓o_itemsL, ↓o_itemsT, ↓o_ixL, ↓o_ixT, ↓o_at0, ↓o_at1, ↓o_at2, ↓o_at3, ↓o_at4, ↓o_at5, ↓o_at6, ↓o_at7, ↓o_at8, ↓o_at9, ↓o_at10, ↓o_at11, ↓o_at12, ↓o_at13, ↓o_at14, ↓o_at15, ↓w_eIxO, ↓t_tup1, ↓t_tup2, ↓t_tup3, ↓w_okOnly, ↓w_compN, ↓w_compC, ↓o_all, ↓o_any, ↓bls_nil, ↓bls_cons, ↓o_minL, ↓o_maxL, ↓o_sumL, ↓ints_nil, ↓ints_cons, ↓o_min3, ↓o_max3, ↓o_slL, ↓o_slT, ↓w_eBor, ↓w_bBor, o_isN, w_runF, tyName, isSubTy, tyNames, List.getElem?_cons_zero, List.getElem?_cons_succ, List.set_cons_zero, List.set_cons_succ, List.map_cons, List.map_nil, List.replicate_succ, List.replicate_zero, List.length_cons, List.length_nil, List.cons_append, List.nil_append, Nat.reduceAdd, Nat.reduceSub, Nat.reduceLeDiff, Nat.reduceEqDiff, ↓reduceIte, if_true, if_false, Bool.not_true, Bool.not_false, Bool.true_and, Bool.and_true, Bool.false_and, Bool.and_false, Bool.true_or, Bool.false_or, Bool.or_true, Bool.or_false, reduceCtorEq, decide_true, decide_false, beq_self_eq_true, List.mem_cons, true_or, or_true, true_and, and_true, false_and, and_false, or_false, false_or, String.reduceEq, String.reduceBEq, List.not_mem_nil, Bool.not_eq_true, Bool.false_eq_true, eq_self, not_true_eq_false, not_false_eq_true, Bool.not_eq_eq_eq_not, decide_eq_true_eq, decide_eq_false_iff_not, bne_iff_ne, ne_eq, Int.reduceLT, Int.reduceLE, Int.reduceMul, Int.reduceAdd, Int.reduceNeg, Int.reduceToNat, Int.reducePow, Nat.reduceLT, Int.reduceEq, Int.reduceSub, zipD, List.zipWith_cons_cons, List.zipWith_nil_left, List.zipWith_nil_right, List.all_cons, List.all_nil, id_eq, scalD, borE, wipeE, noOwn, sz_0, szl_0, sz_1, szl_1, sz_2, szl_2, sz_3, szl_3, sz_4, szl_4, sz_5, szl_5, sz_6, szl_6, sz_7, szl_7, sz_8, szl_8, sz_9, szl_9, sz_10, szl_10, sz_11, szl_11, sz_12, szl_12, sz_13, szl_13, sz_14, szl_14, sz_15, szl_15, sz_16, szl_16, sz_17, szl_17, sz_18, szl_18, sz_19, szl_19, sz_20, szl_20, sz_21, szl_21, sz_22, szl_22, sz_23, szl_23, sz_24, szl_24, sz_25, szl_25, sz_26, szl_26, sz_27, szl_27, sz_28, szl_28, sz_29, szl_29, sz_30, szl_30, sz_31, szl_31, sz_32, szl_32, frz, List.all_cons, List.all_nil]
    exact lowest_loop (.inl rfl) fun s2 h2 => fin _ (fun Q => rfl) (fun Q => rfl) _ h2 _ _ _ _
end AF

namespace AF
open PySem PySem.Spec PyProof.Rows L2
theorem t_nineT {a b c d e f g h i : D} {s0 s1 s2 s3 s4 s5 s6 s7 s8 s9 : Sl} {r : En} {QE : En → Prop} : wpO (tTup 9 (tsCons (tName 1) (tsCons (tName 2) (tsCons (tName 3) (tsCons (tName 4) (tsCons (tName 5) (tsCons (tName 6) (tsCons (tName 7) (tsCons (tName 8) (tsCons (tName 9) tsNil))))))))) (.tup [a, b, c, d, e, f, g, h, i]) (s0 :: s1 :: s2 :: s3 :: s4 :: s5 :: s6 :: s7 :: s8 :: s9 :: r)) QE = QE (s0 :: .val a :: .val b :: .val c :: .val d :: .val e :: .val f :: .val g :: .val h :: .val i :: r) := rfl
theorem t_nineL {a b c d e f g h i : D} {s0 s1 s2 s3 s4 s5 s6 s7 s8 s9 : Sl} {r : En} {QE : En → Prop} : wpO (tTup 9 (tsCons (tName 1) (tsCons (tName 2) (tsCons (tName 3) (tsCons (tName 4) (tsCons (tName 5) (tsCons (tName 6) (tsCons (tName 7) (tsCons (tName 8) (tsCons (tName 9) tsNil))))))))) (.lst [a, b, c, d, e, f, g, h, i]) (s0 :: s1 :: s2 :: s3 :: s4 :: s5 :: s6 :: s7 :: s8 :: s9 :: r)) QE = QE (s0 :: .val a :: .val b :: .val c :: .val d :: .val e :: .val f :: .val g :: .val h :: .val i :: r) := rfl
def meas (a b c d e f g h i : Int) : Int := a * (e * i - f * h) - b * (d * i - f * g) + c * (d * h - e * g)
theorem minor {x y z w : Int} {k : Nat} (h1 : x.natAbs < 2 ^ k) (h2 : y.natAbs < 2 ^ k) (h3 : z.natAbs < 2 ^ k) (h4 : w.natAbs < 2 ^ k) : (x * y - z * w).natAbs < 2 ^ (k + k + 1) := sub_lt (mul_lt h1 h2) (mul_lt h3 h4)
theorem measure_ok {a b c d e f g h i : Int} (ha : a.natAbs < 2 ^ 900) (hb : b.natAbs < 2 ^ 900) (hc : c.natAbs < 2 ^ 900) (hd : d.natAbs < 2 ^ 900) (he : e.natAbs < 2 ^ 900) (hf : f.natAbs < 2 ^ 900) (hg : g.natAbs < 2 ^ 900) (hh : h.natAbs < 2 ^ 900) (hi : i.natAbs < 2 ^ 900) :
    m_measure [.tup [.int a, .int b, .int c, .int d, .int e, .int f, .int g, .int h, .int i]] = .ok (.int (meas a b c d e f g h i)) ∧ m_measure [.lst [.int a, .int b, .int c, .int d, .int e, .int f, .int g, .int h, .int i]] = .ok (.int (meas a b c d e f g h i)) := by
  have S : ∀ {x : Int}, x.natAbs < 2 ^ 900 → Sm x := fun h => sm_of (lt_up h (by decide))
  have M : ∀ {x y z w : Int}, x.natAbs < 2 ^ 900 → y.natAbs < 2 ^ 900 → z.natAbs < 2 ^ 900 → w.natAbs < 2 ^ 900 → Sm (x * y - z * w) := fun h1 h2 h3 h4 => sm_of (lt_up (minor h1 h2 h3 h4) (by decide))
  constructor
  · apply wR_eq
    simp only [m_measure, g_measure, ↓w_pin0, ↓w_lent0, ↓w_sPin, ↓w_sLend, ↓w_sAppP, pinE, pin1, dropE, drop1, lendE, lentOk, ↓w_sRaise1, ↓one1_one, ↓w_sTryF, ↓w_sExt, ↓o_any2L, ↓o_any2T, ↓w_lRet, ↓w_lSeq, ↓w_runFL, ↓w_lCallF, ↓w_lRep, ↓o_repL, ↓w_iRevG, ↓o_revIL, ↓o_revIT, ↓o_plusT, ↓o_plusS, ↓o_repS, ↓o_enumL, ↓o_enumT, ↓w_lComp2, ↓w_capL, ↓w_comp2N, ↓w_comp2C, enumD_nil, enumD_cons, fldOf, Er.cls, ↓wR_ok, ↓wR_err, ↓wR_bind, ↓wR_of, ↓wO_some, ↓wO_map, ↓wO_bind, ↓w_var0, ↓w_varS, ↓w_eC, ↓w_e1, ↓w_l1, ↓w_e2, ↓w_l2, ↓w_b1, ↓w_b2, ↓w_eB, ↓w_eF, ↓w_lF, ↓w_eCall, ↓w_eLst, ↓w_aNil, ↓w_aCons, ↓w_eTup, ↓w_lDisp, ↓w_eIf, ↓w_bAnd, ↓w_bOr, ↓w_bNot, ↓w_bYes, ↓w_bChain, ↓w_eAnd, ↓w_eOr, ↓w_iAny, ↓w_oNone, ↓w_oSomeC, ↓w_eSl, ↓w_lSlG, ↓w_lComp, ↓w_sSeq, ↓w_sNil, ↓w_sBreak, ↓w_sCont, ↓w_sSet, ↓w_sSetL, ↓w_sExpr, ↓w_sRet, ↓w_sRetN, ↓w_sIf, ↓w_own0, ↓w_ownS, ↓w_sRetO, ↓w_sApp, ↓w_sSetIx, ↓w_sFrz, ↓w_sThen, ↓w_sRaise, ↓w_sAsg, ↓w_sFor, ↓w_sTry, ↓t_name, ↓t_nil, ↓t_cons, ↓o_plus, ↓o_plusL, ↓o_lAdd, ↓o_sub, ↓o_neg, ↓o_mul, ↓o_fdiv, ↓o_mod, ↓o_pow, ↓o_lt, ↓o_le, ↓o_gt, ↓o_ge, ↓o_eq, ↓o_ne, ↓o_truthB, ↓o_truthI, ↓o_truthN, ↓o_truthL, ↓o_truthT, ↓o_truthS, ↓o_notB, ↓o_isNN, ↓o_isBT, ↓o_isBF, ↓o_isT, ↓o_isIB, ↓o_isSB, ↓o_isLB, ↓o_isTB, ↓o_isNB, ↓o_isNot, ↓o_lenL, ↓o_lenT, ↓o_lenS, ↓o_abs, ↓o_intI, ↓o_intB, ↓o_str, ↓o_gcd, ↓o_list, ↓o_listT, ↓o_tuple, ↓o_tupleT, ↓o_rev, ↓o_type, ↓o_isi, ↓o_isi2, ↓o_rg1, ↓o_rg2, ↓o_zip, ↓o_zipT, ↓o_itemsL, ↓o_itemsT, ↓o_ixL, ↓o_ixT, ↓o_at0, ↓o_at1, ↓o_at2, ↓o_at3, ↓o_at4, ↓o_at5, ↓o_at6, ↓o_at7, ↓o_at8, ↓o_at9, ↓o_at10, ↓o_at11, ↓o_at12, ↓o_at13, ↓o_at14, ↓o_at15, ↓w_eIxO, ↓t_tup1, ↓t_tup2, ↓t_tup3, ↓w_okOnly, ↓w_compN, ↓w_compC, ↓o_all, ↓o_any, ↓bls_nil, ↓bls_cons, ↓o_minL, ↓o_maxL, ↓o_sumL, ↓ints_nil, ↓ints_cons, ↓o_min3, ↓o_max3, ↓o_slL, ↓o_slT, ↓w_eBor, ↓w_bBor, o_isN, w_runF, tyName, isSubTy, tyNames, List.getElem?_cons_zero, List.getElem?_cons_succ, List.set_cons_zero, List.set_cons_succ, List.map_cons, List.map_nil, List.replicate_succ, List.replicate_zero, List.length_cons, List.length_nil, List.cons_append, List.nil_append, Nat.reduceAdd, Nat.reduceSub, Nat.reduceLeDiff, Nat.reduceEqDiff, ↓reduceIte, if_true, if_false, Bool.not_true, Bool.not_false, Bool.true_and, Bool.and_true, Bool.false_and, Bool.and_false, Bool.true_or, Bool.false_or, Bool.or_true, Bool.or_false, reduceCtorEq, decide_true, decide_false, beq_self_eq_true, List.mem_cons, true_or, or_true, true_and, and_true, false_and, and_false, or_false, false_or, String.reduceEq, String.reduceBEq, List.not_mem_nil, Bool.not_eq_true, Bool.false_eq_true, eq_self, not_true_eq_false, not_false_eq_true, Bool.not_eq_eq_eq_not, decide_eq_true_eq, decide_eq_false_iff_not, bne_iff_ne, ne_eq, Int.reduceLT, Int.reduceLE, Int.reduceMul, Int.reduceAdd, Int.reduceNeg, Int.reduceToNat, Int.reducePow, Nat.reduceLT, Int.reduceEq, Int.reduceSub, zipD, List.zipWith_cons_cons, List.zipWith_nil_left, List.zipWith_nil_right, List.all_cons, List.all_nil, id_eq, scalD, borE, wipeE, noOwn, sz_0, szl_0, sz_1, szl_1, sz_2, szl_2, sz_3, szl_3, sz_4, szl_4, sz_5, szl_5, sz_6, szl_6, sz_7, szl_7, sz_8, szl_8, sz_9, szl_9, sz_10, szl_10, sz_11, szl_11, sz_12, szl_12, sz_13, szl_13, sz_14, szl_14, sz_15, szl_15, sz_16, szl_16, sz_17, szl_17, sz_18, szl_18, sz_19, szl_19, sz_20, szl_20, sz_21, szl_21, sz_22, szl_22, sz_23, szl_23, sz_24, szl_24, sz_25, szl_25, sz_26, szl_26, sz_27, szl_27, sz_28, szl_28, sz_29, szl_29, sz_30, szl_30, sz_31, szl_31, sz_32, szl_32, frz, List.all_cons, List.all_nil, ↓t_nineT, S ha, S hb, S hc, S hd, S he, S hf, S hg, S hh, S hi, M he hi hf hh, M hd hi hf hg, M hd hh he hg]
    rfl
  · apply wR_eq
    simp only [m_measure, g_measure, ↓w_pin0, ↓w_lent0, ↓w_sPin, ↓w_sLend, ↓w_sAppP, pinE, pin1, dropE, drop1, lendE, lentOk, ↓w_sRaise1, ↓one1_one, ↓w_sTryF, ↓w_sExt, ↓o_any2L, ↓o_any2T, ↓w_lRet, ↓w_lSeq, ↓w_runFL, ↓w_lCallF, ↓w_lRep, ↓o_repL, ↓w_iRevG, ↓o_revIL, ↓o_revIT, ↓o_plusT, ↓o_plusS, ↓o_repS, ↓o_enumL, ↓o_enumT, ↓w_lComp2, ↓w_capL, ↓w_comp2N, ↓w_comp2C, enumD_nil, enumD_cons, fldOf, Er.cls, ↓wR_ok, ↓wR_err, ↓wR_bind, ↓wR_of, ↓wO_some, ↓wO_map, ↓wO_bind, ↓w_var0, ↓w_varS, ↓w_eC, ↓w_e1, ↓w_l1, ↓w_e2, ↓w_l2, ↓w_b1, ↓w_b2, ↓w_eB, ↓w_eF, ↓w_lF, ↓w_eCall, ↓w_eLst, ↓w_aNil, ↓w_aCons, ↓w_eTup, ↓w_lDisp, ↓w_eIf, ↓w_bAnd, ↓w_bOr, ↓w_bNot, ↓w_bYes, ↓w_bChain, ↓w_eAnd, ↓w_eOr, ↓w_iAny, ↓w_oNone, ↓w_oSomeC, ↓w_eSl, ↓w_lSlG, ↓w_lComp, ↓w_sSeq, ↓w_sNil, ↓w_sBreak, ↓w_sCont, ↓w_sSet, ↓w_sSetL, ↓w_sExpr, ↓w_sRet, ↓w_sRetN, ↓w_sIf, ↓w_own0, ↓w_ownS, ↓w_sRetO, ↓w_sApp, ↓w_sSetIx, ↓w_sFrz, ↓w_sThen, ↓w_sRaise, ↓w_sAsg, ↓w_sFor, ↓w_sTry, ↓t_name, ↓t_nil, ↓t_cons, ↓o_plus, ↓o_plusL, ↓o_lAdd, ↓o_sub, ↓o_neg, ↓o_mul, ↓o_fdiv, ↓o_mod, ↓o_pow, ↓o_lt, ↓o_le, ↓o_gt, ↓o_ge, ↓o_eq, ↓o_ne, ↓o_truthB, ↓o_truthI, ↓o_truthN, ↓o_truthL, ↓o_truthT, ↓o_truthS, ↓o_notB, ↓o_isNN, ↓o_isBT, ↓o_isBF, ↓o_isT, ↓o_isIB, ↓o_isSB, ↓o_isLB, ↓o_isTB, ↓o_isNB, ↓o_isNot, ↓o_lenL, ↓o_lenT, ↓o_lenS, ↓o_abs, ↓o_intI, ↓o_intB, ↓o_str, ↓o_gcd, ↓o_list, ↓o_listT, ↓o_tuple, ↓o_tupleT, ↓o_rev, ↓o_type, ↓o_isi, ↓o_isi2, ↓o_rg1, ↓o_rg2, ↓o_zip, ↓o_zipT, ↓o_itemsL, ↓o_itemsT, ↓o_ixL, ↓o_ixT, ↓o_at0, ↓o_at1, ↓o_at2, ↓o_at3, ↓o_at4, ↓o_at5, ↓o_at6, ↓o_at7, ↓o_at8, ↓o_at9, ↓o_at10, ↓o_at11, ↓o_at12, ↓o_at13, ↓o_at14, ↓o_at15, ↓w_eIxO, ↓t_tup1, ↓t_tup2, ↓t_tup3, ↓w_okOnly, ↓w_compN, ↓w_compC, ↓o_all, ↓o_any, ↓bls_nil, ↓bls_cons, ↓o_minL, ↓o_maxL, ↓o_sumL, ↓ints_nil, ↓ints_cons, ↓o_min3, ↓o_max3, ↓o_slL, ↓o_slT, ↓w_eBor, ↓w_bBor, o_isN, w_runF, tyName, isSubTy, tyNames, List.getElem?_cons_zero, List.getElem?_cons_succ, List.set_cons_zero, List.set_cons_succ, List.map_cons, List.map_nil, List.replicate_succ, List.replicate_zero, List.length_cons, List.length_nil, List.cons_append, List.nil_append, Nat.reduceAdd, Nat.reduceSub, Nat.reduceLeDiff, Nat.reduceEqDiff, ↓reduceIte, if_true, if_false, Bool.not_true, Bool.not_false, Bool.true_and, Bool.and_true, Bool.false_and, Bool.and_false, Bool.true_or, Bool.false_or, Bool.or_true, Bool.or_false, reduceCtorEq, decide_true, decide_false, beq_self_eq_true, List.mem_cons, true_or, or_true, true_and, and_true, false_and, and_false, or_false, false_or, String.reduceEq, String.reduceBEq, List.not_mem_nil, Bool.not_eq_true, Bool.false_eq_true, eq_self, not_true_eq_false, not_false_eq_true, Bool.not_eq_eq_eq_not, decide_eq_true_eq, decide_eq_false_iff_not, bne_iff_ne, ne_eq, Int.reduceLT, Int.reduceLE, Int.reduceMul, Int.reduceAdd, Int.reduceNeg, Int.reduceToNat, Int.reducePow, Nat.reduceLT, Int.reduceEq, Int.reduceSub, zipD, List.zipWith_cons_cons, List.zipWith_nil_left, List.zipWith_nil_right, List.all_cons, List.all_nil, id_eq, scalD, borE, wipeE, noOwn, sz_0, szl_0, sz_1, szl_1, sz_2, szl_2, sz_3, szl_3, sz_4, szl_4, sz_5, szl_5, sz_6, szl_6, sz_7, szl_7, sz_8, szl_8, sz_9, szl_9, sz_10, szl_10, sz_11, szl_11, sz_12, szl_12, sz_13, szl_13, sz_14, szl_14, sz_15, szl_15, sz_16, szl_16, sz_17, szl_17, sz_18, szl_18, sz_19, szl_19, sz_20, szl_20, sz_21, szl_21, sz_22, szl_22, sz_23, szl_23, sz_24, szl_24, sz_25, szl_25, sz_26, szl_26, sz_27, szl_27, sz_28, szl_28, sz_29, szl_29, sz_30, szl_30, sz_31, szl_31, sz_32, szl_32, frz, List.all_cons, List.all_nil, ↓t_nineL, S ha, S hb, S hc, S hd, S he, S hf, S hg, S hh, S hi, M he hi hf hh, M hd hi hf hg, M hd hh he hg]
    rfl
/-! ### a map at a point -/
def dep (g h i : Int) (x y : Rat) : Int := g * x.num * y.den + h * y.num * x.den + i * x.den * y.den
structure Sp (x : Rat) : Prop where
  n : x.num.natAbs < 2 ^ 600
  d : x.den < 2 ^ 600
theorem Sp.dd {x : Rat} (h : Sp x) : ((x.den : Int)).natAbs < 2 ^ 600 := by have := h.d; omega
theorem o_rq0' {x : Rat} {Q : D → Prop} : wpO (dIx (rq x) (.int 0)) Q = Q (.int x.num) := o_at0
theorem o_rq1' {x : Rat} {Q : D → Prop} : wpO (dIx (rq x) (.int 1)) Q = Q (.int x.den) := o_at1
theorem t_rq {n : List D → En → Option En} {env : En} {x : Rat} {QE : En → Prop} : wpO (tTup 2 n (rq x) env) QE = wpO (n [.int x.num, .int x.den] env) QE := t_tup2
theorem seen_ok {a b c d e f g h i : Int} {x y : Rat} (hx : Sp x) (hy : Sp y) (hg : g.natAbs < 2 ^ 900) (hh : h.natAbs < 2 ^ 900) (hi : i.natAbs < 2 ^ 900) :
    m_is_seen [.tup [.int a, .int b, .int c, .int d, .int e, .int f, .int g, .int h, .int i], .tup [rq x, rq y]] = .ok (.bl (decide (0 < dep g h i x y))) := by
  have S : ∀ {z : Int} {k : Nat}, z.natAbs < 2 ^ k → k ≤ 3000 → Sm z := fun h hk => sm_of (lt_up h hk)
  have s1 := S (mul_lt hg hx.n) (by decide)
  have s2 := S (mul_lt hh hy.n) (by decide)
  have s3 := S (mul_lt hi hx.dd) (by decide)
  have dk : m_depth [.tup [.int a, .int b, .int c, .int d, .int e, .int f, .int g, .int h, .int i], rq x, rq y] = .ok (.tup [.int (dep g h i x y), .int (x.den * y.den)]) := by
    apply wR_eq
    simp only [m_depth, g_depth, ↓w_pin0, ↓w_lent0, ↓w_sPin, ↓w_sLend, ↓w_sAppP, pinE, pin1, dropE, drop1, lendE, lentOk, ↓w_sRaise1, ↓one1_one, ↓w_sTryF, ↓w_sExt, ↓o_any2L, ↓o_any2T, ↓w_lRet, ↓w_lSeq, ↓w_runFL, ↓w_lCallF, ↓w_lRep, ↓o_repL, ↓w_iRevG, ↓o_revIL, ↓o_revIT, ↓o_plusT, ↓o_plusS, ↓o_repS, ↓o_enumL, ↓o_enumT, ↓w_lComp2, ↓w_capL, ↓w_comp2N, ↓w_comp2C, enumD_nil, enumD_cons, fldOf, Er.cls, ↓wR_ok, ↓wR_err, ↓wR_bind, ↓wR_of, ↓wO_some, ↓wO_map, ↓wO_bind, ↓w_var0, ↓w_varS, ↓w_eC, ↓w_e1, ↓w_l1, ↓w_e2, ↓w_l2, ↓w_b1, ↓w_b2, ↓w_eB, ↓w_eF, ↓w_lF, ↓w_eCall, ↓w_eLst, ↓w_aNil, ↓w_aCons, ↓w_eTup, ↓w_lDisp, ↓w_eIf, ↓w_bAnd, ↓w_bOr, ↓w_bNot, ↓w_bYes, ↓w_bChain, ↓w_eAnd, ↓w_eOr, ↓w_iAny, ↓w_oNone, ↓w_oSomeC, ↓w_eSl, ↓w_lSlG, ↓w_lComp, ↓w_sSeq, ↓w_sNil, ↓w_sBreak, ↓w_sCont, ↓w_sSet, ↓w_sSetL, ↓w_sExpr, ↓w_sRet, ↓w_sRetN, ↓w_sIf, ↓w_own0, ↓w_ownS, ↓w_sRetO, ↓w_sApp, ↓w_sSetIx, ↓w_sFrz, ↓w_sThen, ↓w_sRaise, ↓w_sAsg, ↓w_sFor, ↓w_sTry, ↓t_name, ↓t_nil, ↓t_cons, ↓o_plus, ↓o_plusL, ↓o_lAdd, ↓o_sub, ↓o_neg, ↓o_mul, ↓o_fdiv, ↓o_mod, ↓o_pow, ↓o_lt, ↓o_le, ↓o_gt, ↓o_ge, ↓o_eq, ↓o_ne, ↓o_truthB, ↓o_truthI, ↓o_truthN, ↓o_truthL, ↓o_truthT, ↓o_truthS, ↓o_notB, ↓o_isNN, ↓o_isBT, ↓o_isBF, ↓o_isT, ↓o_isIB, ↓o_isSB, ↓o_isLB, ↓o_isTB, ↓o_isNB, ↓o_isNot, ↓o_lenL, ↓o_lenT, ↓o_lenS, ↓o_abs, ↓o_intI, ↓o_intB, ↓o_str, ↓o_gcd, ↓o_list, ↓o_listT, ↓o_tuple, ↓o_tupleT, ↓o_rev, ↓o_type, ↓o_isi, ↓o_isi2, ↓o_rg1, ↓o_rg2, ↓o_zip, ↓o_zipT, ↓o_itemsL, ↓o_itemsT, ↓o_ixL, ↓o_ixT, ↓o_at0, ↓o_at1, ↓o_at2, ↓o_at3, ↓o_at4, ↓o_at5, ↓o_at6, ↓o_at7, ↓o_at8, ↓o_at9, ↓o_at10, ↓o_at11, ↓o_at12, ↓o_at13, ↓o_at14, ↓o_at15, ↓w_eIxO, ↓t_tup1, ↓t_tup2, ↓t_tup3, ↓w_okOnly, ↓w_compN, ↓w_compC, ↓o_all, ↓o_any, ↓bls_nil, ↓bls_cons, ↓o_minL, ↓o_maxL, ↓o_sumL, ↓ints_nil, ↓ints_cons, ↓o_min3, ↓o_max3, ↓o_slL, ↓o_slT, ↓w_eBor, ↓w_bBor, o_isN, w_runF, tyName, isSubTy, tyNames, List.getElem?_cons_zero, List.getElem?_cons_succ, List.set_cons_zero, List.set_cons_succ, List.map_cons, List.map_nil, List.replicate_succ, List.replicate_zero, List.length_cons, List.length_nil, List.cons_append, List.nil_append, Nat.reduceAdd, Nat.reduceSub, Nat.reduceLeDiff, Nat.reduceEqDiff, ↓reduceIte, if_true, if_false, Bool.not_true, Bool.not_false, Bool.true_and, Bool.and_true, Bool.false_and, Bool.and_false, Bool.true_or, Bool.false_or, Bool.or_true, Bool.or_false, reduceCtorEq, decide_true, decide_false, beq_self_eq_true, List.mem_cons, true_or, or_true, true_and, and_true, false_and, and_false, or_false, false_or, String.reduceEq, String.reduceBEq, List.not_mem_nil, Bool.not_eq_true, Bool.false_eq_true, eq_self, not_true_eq_false, not_false_eq_true, Bool.not_eq_eq_eq_not, decide_eq_true_eq, decide_eq_false_iff_not, bne_iff_ne, ne_eq, Int.reduceLT, Int.reduceLE, Int.reduceMul, Int.reduceAdd, Int.reduceNeg, Int.reduceToNat, Int.reducePow, Nat.reduceLT, Int.reduceEq, Int.reduceSub, zipD, List.zipWith_cons_cons, List.zipWith_nil_left, List.zipWith_nil_right, List.all_cons, List.all_nil, id_eq, scalD, borE, wipeE, noOwn, sz_0, szl_0, sz_1, szl_1, sz_2, szl_2, sz_3, szl_3, sz_4, szl_4, sz_5, szl_5, sz_6, szl_6, sz_7, szl_7, sz_8, szl_8, sz_9, szl_9, sz_10, szl_10, sz_11, szl_11, sz_12, szl_12, sz_13, szl_13, sz_14, szl_14, sz_15, szl_15, sz_16, szl_16, sz_17, szl_17, sz_18, szl_18, sz_19, szl_19, sz_20, szl_20, sz_21, szl_21, sz_22, szl_22, sz_23, szl_23, sz_24, szl_24, sz_25, szl_25, sz_26, szl_26, sz_27, szl_27, sz_28, szl_28, sz_29, szl_29, sz_30, szl_30, sz_31, szl_31, sz_32, szl_32, frz, List.all_cons, List.all_nil, ↓t_rq, s1, s2, s3, S hg (by decide), S hh (by decide), S hi (by decide), S hx.n (by decide), S hx.dd (by decide), S hy.n (by decide), S hy.dd (by decide)]
    rfl
  apply wR_eq
  simp only [m_is_seen, g_is_seen, ↓w_pin0, ↓w_lent0, ↓w_sPin, ↓w_sLend, ↓w_sAppP, pinE, pin1, dropE, drop1, lendE, lentOk, ↓w_sRaise1, ↓one1_one, ↓w_sTryF, ↓w_sExt, ↓o_any2L, ↓o_any2T, ↓w_lRet, ↓w_lSeq, ↓w_runFL, ↓w_lCallF, ↓w_lRep, ↓o_repL, ↓w_iRevG, ↓o_revIL, ↓o_revIT, ↓o_plusT, ↓o_plusS, ↓o_repS, ↓o_enumL, ↓o_enumT, ↓w_lComp2, ↓w_capL, ↓w_comp2N, ↓w_comp2C, enumD_nil, enumD_cons, fldOf, Er.cls, ↓wR_ok, ↓wR_err, ↓wR_bind, ↓wR_of, ↓wO_some, ↓wO_map, ↓wO_bind, ↓w_var0, ↓w_varS, ↓w_eC, ↓w_e1, ↓w_l1, ↓w_e2, ↓w_l2, ↓w_b1, ↓w_b2, ↓w_eB, ↓w_eF, ↓w_lF, ↓w_eCall, ↓w_eLst, ↓w_aNil, ↓w_aCons, ↓w_eTup, ↓w_lDisp, ↓w_eIf, ↓w_bAnd, ↓w_bOr, ↓w_bNot, ↓w_bYes, ↓w_bChain, ↓w_eAnd, ↓w_eOr, ↓w_iAny, ↓w_oNone, ↓w_oSomeC, ↓w_eSl, ↓w_lSlG, ↓w_lComp, ↓w_sSeq, ↓w_sNil, ↓w_sBreak, ↓w_sCont, ↓w_sSet, ↓w_sSetL, ↓w_sExpr, ↓w_sRet, ↓w_sRetN, ↓w_sIf, ↓w_own0, ↓w_ownS, ↓w_sRetO, ↓w_sApp, ↓w_sSetIx, ↓w_sFrz, ↓w_sThen, ↓w_sRaise, ↓w_sAsg, ↓w_sFor, ↓w_sTry, ↓t_name, ↓t_nil, ↓t_cons, ↓o_plus, ↓o_plusL, ↓o_lAdd, ↓o_sub, ↓o_neg, ↓o_mul, ↓o_fdiv, ↓o_mod, ↓o_pow, ↓o_lt, ↓o_le, ↓o_gt, ↓o_ge, ↓o_eq, ↓o_ne, ↓o_truthB, ↓o_truthI, ↓o_truthN, ↓o_truthL, ↓o_truthT, ↓o_truthS, ↓o_notB, ↓o_isNN, ↓o_isBT, ↓o_isBF, ↓o_isT, ↓o_isIB, ↓o_isSB, ↓o_isLB, ↓o_isTB, ↓o_isNB, ↓o_isNot, ↓o_lenL, ↓o_lenT, ↓o_lenS, ↓o_abs, ↓o_intI, ↓o_intB, ↓o_str, ↓o_gcd, ↓o_list, ↓o_listT, ↓o_tuple, ↓o_tupleT, ↓o_rev, ↓o_type, ↓o_isi, ↓o_isi2, ↓o_rg1, ↓o_rg2, ↓o_zip, ↓o_zipT, ↓o_itemsL, ↓o_itemsT, ↓o_ixL, ↓o_ixT, ↓o_at0, ↓o_at1, ↓o_at2, ↓o_at3, ↓o_at4, ↓o_at5, ↓o_at6, ↓o_at7, ↓o_at8, ↓o_at9, ↓o_at10, ↓o_at11, ↓o_at12, ↓o_at13, ↓o_at14, ↓o_at15, ↓w_eIxO, ↓t_tup1, ↓t_tup2, ↓t_tup3, ↓w_okOnly, ↓w_compN, ↓w_compC, ↓o_all, ↓o_any, ↓bls_nil, ↓bls_cons, ↓o_minL, ↓o_maxL, ↓o_sumL, ↓ints_nil, ↓ints_cons, ↓o_min3, ↓o_max3, ↓o_slL, ↓o_slT, ↓w_eBor, ↓w_bBor, o_isN, w_runF, tyName, isSubTy, tyNames, List.getElem?_cons_zero, List.getElem?_cons_succ, List.set_cons_zero, List.set_cons_succ, List.map_cons, List.map_nil, List.replicate_succ, List.replicate_zero, List.length_cons, List.length_nil, List.cons_append, List.nil_append, Nat.reduceAdd, Nat.reduceSub, Nat.reduceLeDiff, Nat.reduceEqDiff, ↓reduceIte, if_true, if_false, Bool.not_true, Bool.not_false, Bool.true_and, Bool.and_true, Bool.false_and, Bool.and_false, Bool.true_or, Bool.false_or, Bool.or_true, Bool.or_false, reduceCtorEq, decide_true, decide_false, beq_self_eq_true, List.mem_cons, true_or, or_true, true_and, and_true, false_and, and_false, or_false, false_or, String.reduceEq, String.reduceBEq, List.not_mem_nil, Bool.not_eq_true, Bool.false_eq_true, eq_self, not_true_eq_false, not_false_eq_true, Bool.not_eq_eq_eq_not, decide_eq_true_eq, decide_eq_false_iff_not, bne_iff_ne, ne_eq, Int.reduceLT, Int.reduceLE, Int.reduceMul, Int.reduceAdd, Int.reduceNeg, Int.reduceToNat, Int.reducePow, Nat.reduceLT, Int.reduceEq, Int.reduceSub, zipD, List.zipWith_cons_cons, List.zipWith_nil_left, List.zipWith_nil_right, List.all_cons, List.all_nil, id_eq, scalD, borE, wipeE, noOwn, sz_0, szl_0, sz_1, szl_1, sz_2, szl_2, sz_3, szl_3, sz_4, szl_4, sz_5, szl_5, sz_6, szl_6, sz_7, szl_7, sz_8, szl_8, sz_9, szl_9, sz_10, szl_10, sz_11, szl_11, sz_12, szl_12, sz_13, szl_13, sz_14, szl_14, sz_15, szl_15, sz_16, szl_16, sz_17, szl_17, sz_18, szl_18, sz_19, szl_19, sz_20, szl_20, sz_21, szl_21, sz_22, szl_22, sz_23, szl_23, sz_24, szl_24, sz_25, szl_25, sz_26, szl_26, sz_27, szl_27, sz_28, szl_28, sz_29, szl_29, sz_30, szl_30, sz_31, szl_31, sz_32, szl_32, frz, List.all_cons, List.all_nil, dk]
end AF

namespace AF
open PySem PySem.Spec PyProof.Rows L2
/-! ### the law's own divisor, lowest terms -/
theorem divisor_step {x y : Nat} {i : Nat} {R : D → Prop} {ES : Er → En → Prop} {N B C : En → Prop} {s2 s3 : Sl}
    (h0 : y = 0 → B [.val (.int x), .val (.int y), s2, s3]) (h1 : y ≠ 0 → N [.val (.int y), .val (.int (x % y : Nat)), s2, .val (.int (x % y : Nat))]) :
    wpS (b__law_divisor_1 [.val (.int x), .val (.int y), s2, s3]) N R ES B C := by
  simp only [b__law_divisor_1, ↓w_pin0, ↓w_lent0, ↓w_sPin, ↓w_sLend, ↓w_sAppP, pinE, pin1, dropE, drop1, lendE, lentOk, ↓w_sRaise1, ↓one1_one, ↓w_sTryF, ↓w_sExt, ↓o_any2L, ↓o_any2T, ↓w_lRet, ↓w_lSeq, ↓w_runFL, ↓w_lCallF, ↓w_lRep, ↓o_repL, ↓w_iRevG, ↓o_revIL, ↓o_revIT, ↓o_plusT, ↓o_plusS, ↓o_repS, ↓o_enumL, ↓o_enumT, ↓w_lComp2, ↓w_capL, ↓w_comp2N, ↓w_comp2C, enumD_nil, enumD_cons, fldOf, Er.cls, ↓wR_ok, ↓wR_err, ↓wR_bind, ↓wR_of, ↓wO_some, ↓wO_map, ↓wO_bind, ↓w_var0, ↓w_varS, ↓w_eC, ↓w_e1, ↓w_l1, ↓w_e2, ↓w_l2, ↓w_b1, ↓w_b2, ↓w_eB, ↓w_eF, ↓w_lF, ↓w_eCall, ↓w_eLst, ↓w_aNil, ↓w_aCons, ↓w_eTup, ↓w_lDisp, ↓w_eIf, ↓w_bAnd, ↓w_bOr, ↓w_bNot, ↓w_bYes, ↓w_bChain, ↓w_eAnd, ↓w_eOr, ↓w_iAny, ↓w_oNone, ↓w_oSomeC, ↓w_eSl, ↓w_lSlG, ↓w_lComp, ↓w_sSeq, ↓w_sNil, ↓w_sBreak, ↓w_sCont, ↓w_sSet, ↓w_sSetL, ↓w_sExpr, ↓w_sRet, ↓w_sRetN, ↓w_sIf, ↓w_own0, ↓w_ownS, ↓w_sRetO, ↓w_sApp, ↓w_sSetIx, ↓w_sFrz, ↓w_sThen, ↓w_sRaise, ↓w_sAsg, ↓w_sFor, ↓w_sTry, ↓t_name, ↓t_nil, ↓t_cons, ↓o_plus, ↓o_plusL, ↓o_lAdd, ↓o_sub, ↓o_neg, ↓o_mul, ↓o_fdiv, ↓o_mod, ↓o_pow, ↓o_lt, ↓o_le, ↓o_gt, ↓o_ge, ↓o_eq, ↓o_ne, ↓o_truthB, ↓o_truthI, ↓o_truthN, ↓o_truthL, ↓o_truthT, ↓o_truthS, ↓o_notB, ↓o_isNN, ↓o_isBT, ↓o_isBF, ↓o_isT, ↓o_isIB, ↓o_isSB, ↓o_isLB, ↓o_isTB, ↓o_isNB, ↓o_isNot, ↓o_lenL, ↓o_lenT, ↓o_lenS, ↓o_abs, ↓o_intI, ↓o_intB, ↓o_str, ↓o_gcd, ↓o_list, ↓o_listT, ↓o_tuple, ↓o_tupleT, ↓o_rev, ↓o_type, ↓o_isi, ↓o_isi2, ↓o_rg1, ↓o_rg2, ↓o_zip, ↓o_zipT, ↓o_itemsL, ↓o_itemsT, ↓o_ixL, ↓o_ixT, ↓o_at0, ↓o_at1, ↓o_at2, ↓o_at3, ↓o_at4, ↓o_at5, ↓o_at6, ↓o_at7, ↓o_at8, ↓o_at9, ↓o_at10, ↓o_at11, ↓o_at12, ↓o_at13, ↓o_at14, ↓o_at15, ↓w_eIxO, ↓t_tup1, ↓t_tup2, ↓t_tup3, ↓w_okOnly, ↓w_compN, ↓w_compC, ↓o_all, ↓o_any, ↓bls_nil, ↓bls_cons, ↓o_minL, ↓o_maxL, ↓o_sumL, ↓ints_nil, ↓ints_cons, ↓o_min3, ↓o_max3, ↓o_slL, ↓o_slT, ↓w_eBor, ↓w_bBor, o_isN, w_runF, tyName, isSubTy, tyNames, List.getElem?_cons_zero, List.getElem?_cons_succ, List.set_cons_zero, List.set_cons_succ, List.map_cons, List.map_nil, List.replicate_succ, List.replicate_zero, List.length_cons, List.length_nil, List.cons_append, List.nil_append, Nat.reduceAdd, Nat.reduceSub, Nat.reduceLeDiff, Nat.reduceEqDiff, ↓reduceIte, if_true, if_false, Bool.not_true, Bool.not_false, Bool.true_and, Bool.and_true, Bool.false_and, Bool.and_false, Bool.true_or, Bool.false_or, Bool.or_true, Bool.or_false, reduceCtorEq, decide_true, decide_false, beq_self_eq_true, List.mem_cons, true_or, or_true, true_and, and_true, false_and, and_false, or_false, false_or, String.reduceEq, String.reduceBEq, List.not_mem_nil, Bool.not_eq_true, Bool.false_eq_true, eq_self, not_true_eq_false, not_false_eq_true, Bool.not_eq_eq_eq_not, decide_eq_true_eq, decide_eq_false_iff_not, bne_iff_ne, ne_eq, Int.reduceLT, Int.reduceLE, Int.reduceMul, Int.reduceAdd, Int.reduceNeg, Int.reduceToNat, Int.reducePow, Nat.reduceLT, Int.reduceEq, Int.reduceSub, zipD, List.zipWith_cons_cons, List.zipWith_nil_left, List.zipWith_nil_right, List.all_cons, List.all_nil, id_eq, scalD, borE, wipeE, noOwn, sz_0, szl_0, sz_1, szl_1, sz_2, szl_2, sz_3, szl_3, sz_4, szl_4, sz_5, szl_5, sz_6, szl_6, sz_7, szl_7, sz_8, szl_8, sz_9, szl_9, sz_10, szl_10, sz_11, szl_11, sz_12, szl_12, sz_13, szl_13, sz_14, szl_14, sz_15, szl_15, sz_16, szl_16, sz_17, szl_17, sz_18, szl_18, sz_19, szl_19, sz_20, szl_20, sz_21, szl_21, sz_22, szl_22, sz_23, szl_23, sz_24, szl_24, sz_25, szl_25, sz_26, szl_26, sz_27, szl_27, sz_28, szl_28, sz_29, szl_29, sz_30, szl_30, sz_31, szl_31, sz_32, szl_32, frz, List.all_cons, List.all_nil]
  split
  · exact h0 (by omega)
  · rename_i h
    have e : (x : Int).fmod (y : Int) = ((x % y : Nat) : Int) := by rw [Int.fmod_eq_emod_of_nonneg _ (by omega)]; rfl
    refine ⟨h, ?_⟩
    rw [e]
    exact h1 (by omega)
theorem mod_half {x y n : Nat} (hy : y ≠ 0) (hxy : y ≤ x) (h : x * y < 2 ^ (n + 1)) : y * (x % y) < 2 ^ n := by
  have h1 : x % y < y := Nat.mod_lt _ (by omega)
  have h2 : x % y + y ≤ x := by
    have := Nat.div_add_mod x y
    have hd : 1 ≤ x / y := Nat.div_pos hxy (by omega)
    have : y * 1 ≤ y * (x / y) := Nat.mul_le_mul_left _ hd
    omega
  have h3 : 2 * (y * (x % y)) ≤ x * y := by
    rw [Nat.mul_left_comm, Nat.mul_comm x y]
    exact Nat.mul_le_mul_left _ (by omega)
  rw [Nat.pow_succ] at h
  omega
theorem divisor_loop (n : Nat) (a b : Nat) (hab : a * b < 2 ^ n) {s2 s3 : Sl} {R : D → Prop} {ES : Er → En → Prop} {N B C : En → Prop}
    (hN : ∀ s2 s3, N [.val (.int (Nat.gcd a b)), .val (.int 0), s2, s3]) :
    wpS (forL (tName 2) b__law_divisor_1 (rangeD 0 (n + 2)) [.val (.int a), .val (.int b), s2, s3]) N R ES B C := by
  refine w_forI (fun i e => ∃ (x y : Nat) (s2 s3 : Sl), Nat.gcd x y = Nat.gcd a b ∧ (i ≠ 0 → y ≤ x) ∧ x * y < 2 ^ (n - (i - 1)) ∧ e = [.val (.int x), .val (.int y), s2, s3]) ⟨a, b, s2, s3, rfl, fun h => absurd rfl h, hab, rfl⟩ ?_ ?_
  · rintro i d env hd ⟨x, y, s2, s3, h1, h2, h3, rfl⟩
    obtain ⟨rfl, hi⟩ := rangeD_get hd
    rw [t_name]
    simp only [List.set_cons_succ, List.set_cons_zero]
    refine divisor_step (i := i) (fun h => ?_) fun h => ?_
    · subst h
      rw [Nat.gcd_zero_right] at h1
      subst h1
      exact hN _ _
    · refine ⟨y, x % y, _, _, ?_, fun _ => Nat.le_of_lt (Nat.mod_lt _ (by omega)), ?_, rfl⟩
      · rw [← h1, Nat.gcd_comm x y, Nat.gcd_rec y x, Nat.gcd_comm]
      · by_cases hi0 : i = 0
        · subst hi0
          refine Nat.lt_of_le_of_lt ?_ h3
          rw [Nat.mul_comm x y]
          exact Nat.mul_le_mul_left _ (Nat.mod_le _ _)
        · have hxy := h2 hi0
          by_cases hin : n - (i - 1) = 0
          · rw [hin] at h3
            have : x * y ≠ 0 := Nat.mul_ne_zero (by omega) h
            omega
          · have := mod_half (n := n - (i - 1) - 1) h hxy (by rw [show n - (i - 1) - 1 + 1 = n - (i - 1) from by omega]; exact h3)
            rw [show n - (i + 1 - 1) = n - (i - 1) - 1 from by omega]
            exact this
  · rintro env ⟨x, y, s2, s3, h1, h2, h3, rfl⟩
    rw [rangeD_len] at h2 h3
    have hy := h2 (by omega)
    rw [show n - (n + 2 - 1) = 0 from by omega] at h3
    have : y = 0 := by
      by_cases h : y = 0
      · exact h
      · have : x * y ≠ 0 := Nat.mul_ne_zero (by omega) h
        omega
    subst this
    rw [Nat.gcd_zero_right] at h1
    subst h1
    exact hN _ _
theorem divisor_ok (p q : Int) (h : p.natAbs * q.natAbs < 2 ^ 1998) : m__law_divisor [.int p, .int q] = .ok (.int (Nat.gcd p.natAbs q.natAbs : Nat)) := by
  apply wR_eq
  have e : ∀ i : Int, (if i < 0 then -i else i) = (i.natAbs : Int) := fun i => by split <;> omega
  simp only [m__law_divisor, g__law_divisor, ↓w_pin0, ↓w_lent0, ↓w_sPin, ↓w_sLend, ↓w_sAppP, pinE, pin1, dropE, drop1, lendE, lentOk, ↓w_sRaise1, ↓one1_one, ↓w_sTryF, ↓w_sExt, ↓o_any2L, ↓o_any2T, ↓w_lRet, ↓w_lSeq, ↓w_runFL, ↓w_lCallF, ↓w_lRep, ↓o_repL, ↓w_iRevG, ↓o_revIL, ↓o_revIT, ↓o_plusT, ↓o_plusS, ↓o_repS, ↓o_enumL, ↓o_enumT, ↓w_lComp2, ↓w_capL, ↓w_comp2N, ↓w_comp2C, enumD_nil, enumD_cons, fldOf, Er.cls, ↓wR_ok, ↓wR_err, ↓wR_bind, ↓wR_of, ↓wO_some, ↓wO_map, ↓wO_bind, ↓w_var0, ↓w_varS, ↓w_eC, ↓w_e1, ↓w_l1, ↓w_e2, ↓w_l2, ↓w_b1, ↓w_b2, ↓w_eB, ↓w_eF, ↓w_lF, ↓w_eCall, ↓w_eLst, ↓w_aNil, ↓w_aCons, ↓w_eTup, ↓w_lDisp, ↓w_eIf, ↓w_bAnd, ↓w_bOr, ↓w_bNot, ↓w_bYes, ↓w_bChain, ↓w_eAnd, ↓w_eOr, ↓w_iAny, ↓w_oNone, ↓w_oSomeC, ↓w_eSl, ↓w_lSlG, ↓w_lComp, ↓w_sSeq, ↓w_sNil, ↓w_sBreak, ↓w_sCont, ↓w_sSet, ↓w_sSetL, ↓w_sExpr, ↓w_sRet, ↓w_sRetN, ↓w_sIf, ↓w_own0, ↓w_ownS, ↓w_sRetO, ↓w_sApp, ↓w_sSetIx, ↓w_sFrz, ↓w_sThen, ↓w_sRaise, ↓w_sAsg, ↓w_sFor, ↓w_sTry, ↓t_name, ↓t_nil, ↓t_cons, ↓o_plus, ↓o_plusL, ↓o_lAdd, ↓o_sub, ↓o_neg, ↓o_mul, ↓o_fdiv, ↓o_mod, ↓o_pow, ↓o_lt, ↓o_le, ↓o_gt, ↓o_ge, ↓o_eq, ↓o_ne, ↓o_truthB, ↓o_truthI, ↓o_truthN, ↓o_truthL, ↓o_truthT, ↓o_truthS, ↓o_notB, ↓o_isNN, ↓o_isBT, ↓o_isBF, ↓o_isT, ↓o_isIB, ↓o_isSB, ↓o_isLB, ↓o_isTB, ↓o_isNB, ↓o_isNot, ↓o_lenL, ↓o_lenT, ↓o_lenS, ↓o_abs, ↓o_intI, ↓o_intB, ↓o_str, ↓o_gcd, ↓o_list, ↓o_listT, ↓o_tuple, ↓o_tupleT, ↓o_rev, ↓o_type, ↓o_isi, ↓o_isi2, ↓o_rg1, ↓o_rg2, ↓o_zip, ↓o_zipT, ↓o_itemsL, ↓o_itemsT, ↓o_ixL, ↓o_ixT, ↓o_at0, ↓o_at1, ↓o_at2, ↓o_at3, ↓o_at4, ↓o_at5, ↓o_at6, ↓o_at7, ↓o_at8, ↓o_at9, ↓o_at10, ↓o_at11, ↓o_at12, ↓o_at13, ↓o_at14, ↓o_at15, ↓w_eIxO, ↓t_tup1, ↓t_tup2, ↓t_tup3, ↓w_okOnly, ↓w_compN, ↓w_compC, ↓o_all, ↓o_any, ↓bls_nil, ↓bls_cons, ↓o_minL, ↓o_maxL, ↓o_sumL, ↓ints_nil, ↓ints_cons, ↓o_min3, ↓o_max3, ↓o_slL, ↓o_slT, ↓w_eBor, ↓w_bBor, o_isN, w_runF, tyName, isSubTy, tyNames, List.getElem?_cons_zero, List.getElem?_cons_succ, List.set_cons_zero, List.set_cons_succ, List.map_cons, List.map_nil, List.replicate_succ, List.replicate_zero, List.length_cons, List.length_nil, List.cons_append, List.nil_append, Nat.reduceAdd, Nat.reduceSub, Nat.reduceLeDiff, Nat.reduceEqDiff, ↓reduceIte, if_true, if_false, Bool.not_true, Bool.not_false, Bool.true_and, Bool.and_true, Bool.false_and, Bool.and_false, Bool.true_or, Bool.false_or, Bool.or_true, Bool.or_false, reduceCtorEq, decide_true, decide_false, beq_self_eq_true, List.mem_cons, true_or, or_true, true_and, and_true, false_and, and_false, or_false, false_or, String.reduceEq, String.reduceBEq, List.not_mem_nil, Bool.not_eq_true, Bool.false_eq_true, eq_self, not_true_eq_false, not_false_eq_true, Bool.not_eq_eq_eq_not, decide_eq_true_eq, decide_eq_false_iff_not, bne_iff_ne, ne_eq, Int.reduceLT, Int.reduceLE, Int.reduceMul, Int.reduceAdd, Int.reduceNeg, Int.reduceToNat, Int.reducePow, Nat.reduceLT, Int.reduceEq, Int.reduceSub, zipD, List.zipWith_cons_cons, List.zipWith_nil_left, List.zipWith_nil_right, List.all_cons, List.all_nil, id_eq, scalD, borE, wipeE, noOwn, sz_0, szl_0, sz_1, szl_1, sz_2, szl_2, sz_3, szl_3, sz_4, szl_4, sz_5, szl_5, sz_6, szl_6, sz_7, szl_7, sz_8, szl_8, sz_9, szl_9, sz_10, szl_10, sz_11, szl_11, sz_12, szl_12, sz_13, szl_13, sz_14, szl_14, sz_15, szl_15, sz_16, szl_16, sz_17, szl_17, sz_18, szl_18, sz_19, szl_19, sz_20, szl_20, sz_21, szl_21, sz_22, szl_22, sz_23, szl_23, sz_24, szl_24, sz_25, szl_25, sz_26, szl_26, sz_27, szl_27, sz_28, szl_28, sz_29, szl_29, sz_30, szl_30, sz_31, szl_31, sz_32, szl_32, frz, List.all_cons, List.all_nil, e]
  refine divisor_loop 1998 _ _ h fun s2 s3 => ?_
  simp only [r__law_divisor_2, ↓w_pin0, ↓w_lent0, ↓w_sPin, ↓w_sLend, ↓w_sAppP, pinE, pin1, dropE, drop1, lendE, lentOk, ↓w_sRaise1, ↓one1_one, ↓w_sTryF, ↓w_sExt, ↓o_any2L, ↓o_any2T, ↓w_lRet, ↓w_lSeq, ↓w_runFL, ↓w_lCallF, ↓w_lRep, ↓o_repL, ↓w_iRevG, ↓o_revIL, ↓o_revIT, ↓o_plusT, ↓o_plusS, ↓o_repS, ↓o_enumL, ↓o_enumT, ↓w_lComp2, ↓w_capL, ↓w_comp2N, ↓w_comp2C, enumD_nil, enumD_cons, fldOf, Er.cls, ↓wR_ok, ↓wR_err, ↓wR_bind, ↓wR_of, ↓wO_some, ↓wO_map, ↓wO_bind, ↓w_var0, ↓w_varS, ↓w_eC, ↓w_e1, ↓w_l1, ↓w_e2, ↓w_l2, ↓w_b1, ↓w_b2, ↓w_eB, ↓w_eF, ↓w_lF, ↓w_eCall, ↓w_eLst, ↓w_aNil, ↓w_aCons, ↓w_eTup, ↓w_lDisp, ↓w_eIf, ↓w_bAnd, ↓w_bOr, ↓w_bNot, ↓w_bYes, ↓w_bChain, ↓w_eAnd, ↓w_eOr, ↓w_iAny, ↓w_oNone, ↓w_oSomeC, ↓w_eSl, ↓w_lSlG, ↓w_lComp, ↓w_sSeq, ↓w_sNil, ↓w_sBreak, ↓w_sCont, ↓w_sSet, ↓w_sSetL, ↓w_sExpr, ↓w_sRet, ↓w_sRetN, ↓w_sIf, ↓w_own0, ↓w_ownS, ↓w_sRetO, ↓w_sApp, ↓w_sSetIx, ↓w_sFrz, ↓w_sThen, ↓w_sRaise, ↓w_sAsg, ↓w_sFor, ↓w_sTry, ↓t_name, ↓t_nil, ↓t_cons, ↓o_plus, ↓o_plusL, ↓o_lAdd, ↓o_sub, ↓o_neg, ↓o_mul, ↓o_fdiv, ↓o_mod, ↓o_pow, ↓o_lt, ↓o_le, ↓o_gt, ↓o_ge, ↓o_eq, ↓o_ne, ↓o_truthB, ↓o_truthI, ↓o_truthN, ↓o_truthL, ↓o_truthT, ↓o_truthS, ↓o_notB, ↓o_isNN, ↓o_isBT, ↓o_isBF, ↓o_isT, ↓o_isIB, ↓o_isSB, ↓o_isLB, ↓o_isTB, ↓o_isNB, ↓o_isNot, ↓o_lenL, ↓o_lenT, ↓o_lenS, ↓o_abs, ↓o_intI, ↓o_intB, ↓o_str, ↓o_gcd, ↓o_list, ↓o_listT, ↓o_tuple, ↓o_tupleT, ↓o_rev, ↓o_type, ↓o_isi, ↓o_isi2, ↓o_rg1, ↓o_rg2, ↓o_zip, ↓o_zipT, ↓o_itemsL, ↓o_itemsT, ↓o_ixL, ↓o_ixT, ↓o_at0, ↓o_at1, ↓o_at2, ↓o_at3, ↓o_at4, ↓o_at5, ↓o_at6, ↓o_at7, ↓o_at8, ↓o_at9, ↓o_at10, ↓o_at11, ↓o_at12, ↓o_at13, ↓o_at14, ↓o_at15, ↓w_eIxO, ↓t_tup1, ↓t_tup2, ↓t_tup3, ↓w_okOnly, ↓w_compN, ↓w_compC, ↓o_all, ↓o_any, ↓bls_nil, ↓bls_cons, ↓o_minL, ↓o_maxL, ↓o_sumL, ↓ints_nil, ↓ints_cons, ↓o_min3, ↓o_max3, ↓o_slL, ↓o_slT, ↓w_eBor, ↓w_bBor, o_isN, w_runF, tyName, isSubTy, tyNames, List.getElem?_cons_zero, List.getElem?_cons_succ, List.set_cons_zero, List.set_cons_succ, List.map_cons, List.map_nil, List.replicate_succ, List.replicate_zero, List.length_cons, List.length_nil, List.cons_append, List.nil_append, Nat.reduceAdd, Nat.reduceSub, Nat.reduceLeDiff, Nat.reduceEqDiff, ↓reduceIte, if_true, if_false, Bool.not_true, Bool.not_false, Bool.true_and, Bool.and_true, Bool.false_and, Bool.and_false, Bool.true_or, Bool.false_or, Bool.or_true, Bool.or_false, reduceCtorEq, decide_true, decide_false, beq_self_eq_true, List.mem_cons, true_or, or_true, true_and, and_true, false_and, and_false, or_false, false_or, String.reduceEq, String.reduceBEq, List.not_mem_nil, Bool.not_eq_true, Bool.false_eq_true, eq_self, not_true_eq_false, not_false_eq_true, Bool.not_eq_eq_eq_not, decide_eq_true_eq, decide_eq_false_iff_not, bne_iff_ne, ne_eq, Int.reduceLT, Int.reduceLE, Int.reduceMul, Int.reduceAdd, Int.reduceNeg, Int.reduceToNat, Int.reducePow, Nat.reduceLT, Int.reduceEq, Int.reduceSub, zipD, List.zipWith_cons_cons, List.zipWith_nil_left, List.zipWith_nil_right, List.all_cons, List.all_nil, id_eq, scalD, borE, wipeE, noOwn, sz_0, szl_0, sz_1, szl_1, sz_2, szl_2, sz_3, szl_3, sz_4, szl_4, sz_5, szl_5, sz_6, szl_6, sz_7, szl_7, sz_8, szl_8, sz_9, szl_9, sz_10, szl_10, sz_11, szl_11, sz_12, szl_12, sz_13, szl_13, sz_14, szl_14, sz_15, szl_15, sz_16, szl_16, sz_17, szl_17, sz_18, szl_18, sz_19, szl_19, sz_20, szl_20, sz_21, szl_21, sz_22, szl_22, sz_23, szl_23, sz_24, szl_24, sz_25, szl_25, sz_26, szl_26, sz_27, szl_27, sz_28, szl_28, sz_29, szl_29, sz_30, szl_30, sz_31, szl_31, sz_32, szl_32, frz, List.all_cons, List.all_nil]
end AF

namespace AF
open PySem PySem.Spec PyProof.Rows L2
theorem nat_mul2 {a b n m : Nat} (h1 : a < 2 ^ n) (h2 : b < 2 ^ m) : a * b < 2 ^ (n + m) := by
  rw [Nat.pow_add]
  exact Nat.mul_lt_mul'' h1 h2
theorem short_loop {ns : List Int} (hb : ∀ n ∈ ns, n.natAbs < 2 ^ 900) {dn : D} {s2 : Sl} {R : D → Prop} {ES : Er → En → Prop} {N B C : En → Prop} (h2 : s2 = .unk ∨ ∃ d, s2 = .val d) (hN : ∀ s2, (s2 = .unk ∨ ∃ d, s2 = .val d) → N [.val dn, .val (.int (gcdL ns : Nat)), s2]) :
    wpS (forL (tName 2) b__law_short_1 (iD ns) [.val dn, .val (.int 0), s2]) N R ES B C := by
  refine w_forI (fun i e => ∃ s2, (s2 = .unk ∨ ∃ d, s2 = .val d) ∧ e = [.val dn, .val (.int (gcdF 0 (ns.take i) : Nat)), s2]) ⟨_, h2, rfl⟩ ?_ ?_
  · rintro i d env hd ⟨s2, _, rfl⟩
    unfold iD at hd
    rw [List.getElem?_map] at hd
    cases hi : ns[i]? with
    | none => rw [hi] at hd; cases hd
    | some n =>
      rw [hi] at hd
      cases hd
      rw [t_name]
      have g1 : gcdF 0 (ns.take i) < 2 ^ 900 := gcdL_le (ns := ns.take i) (fun n hn => hb n (List.mem_of_mem_take hn)) (by decide)
      have dv := divisor_ok (gcdF 0 (ns.take i) : Nat) n (Nat.lt_of_lt_of_le (nat_mul2 (by rw [Int.natAbs_natCast]; exact g1) (hb n (List.mem_of_getElem? hi))) (by decide))
      simp only [b__law_short_1, ↓w_pin0, ↓w_lent0, ↓w_sPin, ↓w_sLend, ↓w_sAppP, pinE, pin1, dropE, drop1, lendE, lentOk, ↓w_sRaise1, ↓one1_one, ↓w_sTryF, ↓w_sExt, ↓o_any2L, ↓o_any2T, ↓w_lRet, ↓w_lSeq, ↓w_runFL, ↓w_lCallF, ↓w_lRep, ↓o_repL, ↓w_iRevG, ↓o_revIL, ↓o_revIT, ↓o_plusT, ↓o_plusS, ↓o_repS, ↓o_enumL, ↓o_enumT, ↓w_lComp2, ↓w_capL, ↓w_comp2N, ↓w_comp2C, enumD_nil, enumD_cons, fldOf, Er.cls, ↓wR_ok, ↓wR_err, ↓wR_bind, ↓wR_of, ↓wO_some, ↓wO_map, ↓wO_bind, ↓w_var0, ↓w_varS, ↓w_eC, ↓w_e1, ↓w_l1, ↓w_e2, ↓w_l2, ↓w_b1, ↓w_b2, ↓w_eB, ↓w_eF, ↓w_lF, ↓w_eCall, ↓w_eLst, ↓w_aNil, ↓w_aCons, ↓w_eTup, ↓w_lDisp, ↓w_eIf, ↓w_bAnd, ↓w_bOr, ↓w_bNot, ↓w_bYes, ↓w_bChain, ↓w_eAnd, ↓w_eOr, ↓w_iAny, ↓w_oNone, ↓w_oSomeC, ↓w_eSl, ↓w_lSlG, ↓w_lComp, ↓w_sSeq, ↓w_sNil, ↓w_sBreak, ↓w_sCont, ↓w_sSet, ↓w_sSetL, ↓w_sExpr, ↓w_sRet, ↓w_sRetN, ↓w_sIf, ↓w_own0, ↓w_ownS, ↓w_sRetO, ↓w_sApp, ↓w_sSetIx, ↓w_sFrz, ↓w_sThen, ↓w_sRaise, ↓w_sAsg, ↓w_sFor, ↓w_sTry, ↓t_name, ↓t_nil, ↓t_cons, ↓o_plus, ↓o_plusL, ↓o_lAdd, ↓o_sub, ↓o_neg, ↓o_mul, ↓o_fdiv, ↓o_mod, ↓o_pow, ↓o_lt, ↓o_le, ↓o_gt, ↓o_ge, ↓o_eq, ↓o_ne, ↓o_truthB, ↓o_truthI, ↓o_truthN, ↓o_truthL, ↓o_truthT, ↓o_truthS, ↓o_notB, ↓o_isNN, ↓o_isBT, ↓o_isBF, ↓o_isT, ↓o_isIB, ↓o_isSB, ↓o_isLB, ↓o_isTB, ↓o_isNB, ↓o_isNot, ↓o_lenL, ↓o_lenT, ↓o_lenS, ↓o_abs, ↓o_intI, ↓o_intB, ↓o_str, ↓o_gcd, ↓o_list, ↓o_listT, ↓o_tuple, ↓o_tupleT, ↓o_rev, ↓o_type, ↓o_isi, ↓o_isi2, ↓o_rg1, ↓o_rg2, ↓o_zip, ↓o_zipT, ↓o_itemsL, ↓o_itemsT, ↓o_ixL, ↓o_ixT, ↓o_at0, ↓o_at1, ↓o_at2, ↓o_at3, ↓o_at4, ↓o_at5, ↓o_at6, ↓o_at7, ↓o_at8, ↓o_at9, ↓o_at10, ↓o_at11, ↓o_at12, ↓o_at13, ↓o_at14, ↓o_at15, ↓w_eIxO, ↓t_tup1, ↓t_tup2, ↓t_tup3, ↓w_okOnly, ↓w_compN, ↓w_compC, ↓o_all, ↓o_any, ↓bls_nil, ↓bls_cons, ↓o_minL, ↓o_maxL, ↓o_sumL, ↓ints_nil, ↓ints_cons, ↓o_min3, ↓o_max3, ↓o_slL, ↓o_slT, ↓w_eBor, ↓w_bBor, o_isN, w_runF, tyName, isSubTy, tyNames, List.getElem?_cons_zero, List.getElem?_cons_succ, List.set_cons_zero, List.set_cons_succ, List.map_cons, List.map_nil, List.replicate_succ, List.replicate_zero, List.length_cons, List.length_nil, List.cons_append, List.nil_append, Nat.reduceAdd, Nat.reduceSub, Nat.reduceLeDiff, Nat.reduceEqDiff, ↓reduceIte, if_true, if_false, Bool.not_true, Bool.not_false, Bool.true_and, Bool.and_true, Bool.false_and, Bool.and_false, Bool.true_or, Bool.false_or, Bool.or_true, Bool.or_false, reduceCtorEq, decide_true, decide_false, beq_self_eq_true, List.mem_cons, true_or, or_true, true_and, and_true, false_and, and_false, or_false, false_or, String.reduceEq, String.reduceBEq, List.not_mem_nil, Bool.not_eq_true, Bool.false_eq_true, eq_self, not_true_eq_false, not_false_eq_true, Bool.not_eq_eq_eq_not, decide_eq_true_eq, decide_eq_false_iff_not, bne_iff_ne, ne_eq, Int.reduceLT, Int.reduceLE, Int.reduceMul, Int.reduceAdd, Int.reduceNeg, Int.reduceToNat, Int.reducePow, Nat.reduceLT, Int.reduceEq, Int.reduceSub, zipD, List.zipWith_cons_cons, List.zipWith_nil_left, List.zipWith_nil_right, List.all_cons, List.all_nil, id_eq, scalD, borE, wipeE, noOwn, sz_0, szl_0, sz_1, szl_1, sz_2, szl_2, sz_3, szl_3, sz_4, szl_4, sz_5, szl_5, sz_6, szl_6, sz_7, szl_7, sz_8, szl_8, sz_9, szl_9, sz_10, szl_10, sz_11, szl_11, sz_12, szl_12, sz_13, szl_13, sz_14, szl_14, sz_15, szl_15, sz_16, szl_16, sz_17, szl_17, sz_18, szl_18, sz_19, szl_19, sz_20, szl_20, sz_21, szl_21, sz_22, szl_22, sz_23, szl_23, sz_24, szl_24, sz_25, szl_25, sz_26, szl_26, sz_27, szl_27, sz_28, szl_28, sz_29, szl_29, sz_30, szl_30, sz_31, szl_31, sz_32, szl_32, frz, List.all_cons, List.all_nil, dv, Int.natAbs_natCast]
      refine ⟨.val (.int n), .inr ⟨_, rfl⟩, ?_⟩
      rw [List.take_add_one, hi, Option.toList_some]
      simp [gcdF]
  · rintro env ⟨s2, h2, rfl⟩
    rw [show (iD ns).length = ns.length from List.length_map _, List.take_length]
    exact hN _ h2
theorem short_ok (ns : List Int) (hb : ∀ n ∈ ns, n.natAbs < 2 ^ 900) (hl : ns.length ≤ 1000) : m__law_short [.tup (iD ns)] = .ok (.tup (iD (prim ns))) ∧ m__law_short [.lst (iD ns)] = .ok (.tup (iD (prim ns))) := by
  have hg : gcdL ns < 2 ^ 900 := gcdL_le hb (by decide)
  have hsz : (iD ns).length ≤ sizeLine := by
    rw [show (iD ns).length = ns.length from List.length_map _]
    exact Nat.le_trans hl (by decide)
  have fin : ∀ dn : D, (∀ Q : List D → Prop, wpO (items dn) Q = Q (iD ns)) → (∀ Q : D → Prop, wpO (fTuple [dn]) Q = Q (.tup (iD ns))) → ∀ s2, (s2 = .unk ∨ ∃ d, s2 = .val d) → ∀ N ES B C, wpS (r__law_short_2 [.val dn, .val (.int (gcdL ns : Nat)), s2]) N (fun y => y = .tup (iD (prim ns))) ES B C := by
    intro dn h1 h2 s2 hs2 N ES B C
    simp only [r__law_short_2, ↓w_pin0, ↓w_lent0, ↓w_sPin, ↓w_sLend, ↓w_sAppP, pinE, pin1, dropE, drop1, lendE, lentOk, ↓w_sRaise1, ↓one1_one, ↓w_sTryF, ↓w_sExt, ↓o_any2L, ↓o_any2T, ↓w_lRet, ↓w_lSeq, ↓w_runFL, ↓w_lCallF, ↓w_lRep, ↓o_repL, ↓w_iRevG, ↓o_revIL, ↓o_revIT, ↓o_plusT, ↓o_plusS, ↓o_repS, ↓o_enumL, ↓o_enumT, ↓w_lComp2, ↓w_capL, ↓w_comp2N, ↓w_comp2C, enumD_nil, enumD_cons, fldOf, Er.cls, ↓wR_ok, ↓wR_err, ↓wR_bind, ↓wR_of, ↓wO_some, ↓wO_map, ↓wO_bind, ↓w_var0, ↓w_varS, ↓w_eC, ↓w_e1, ↓w_l1, ↓w_e2, ↓w_l2, ↓w_b1, ↓w_b2, ↓w_eB, ↓w_eF, ↓w_lF, ↓w_eCall, ↓w_eLst, ↓w_aNil, ↓w_aCons, ↓w_eTup, ↓w_lDisp, ↓w_eIf, ↓w_bAnd, ↓w_bOr, ↓w_bNot, ↓w_bYes, ↓w_bChain, ↓w_eAnd, ↓w_eOr, ↓w_iAny, ↓w_oNone, ↓w_oSomeC, ↓w_eSl, ↓w_lSlG, ↓w_lComp, ↓w_sSeq, ↓w_sNil, ↓w_sBreak, ↓w_sCont, ↓w_sSet, ↓w_sSetL, ↓w_sExpr, ↓w_sRet, ↓w_sRetN, ↓w_sIf, ↓w_own0, ↓w_ownS, ↓w_sRetO, ↓w_sApp, ↓w_sSetIx, ↓w_sFrz, ↓w_sThen, ↓w_sRaise, ↓w_sAsg, ↓w_sFor, ↓w_sTry, ↓t_name, ↓t_nil, ↓t_cons, ↓o_plus, ↓o_plusL, ↓o_lAdd, ↓o_sub, ↓o_neg, ↓o_mul, ↓o_fdiv, ↓o_mod, ↓o_pow, ↓o_lt, ↓o_le, ↓o_gt, ↓o_ge, ↓o_eq, ↓o_ne, ↓o_truthB, ↓o_truthI, ↓o_truthN, ↓o_truthL, ↓o_truthT, ↓o_truthS, ↓o_notB, ↓o_isNN, ↓o_isBT, ↓o_isBF, ↓o_isT, ↓o_isIB, ↓o_isSB, ↓o_isLB, ↓o_isTB, ↓o_isNB, ↓o_isNot, ↓o_lenL, ↓o_lenT, ↓o_lenS, ↓o_abs, ↓o_intI, ↓o_intB, ↓o_str, ↓o_gcd, ↓o_list, ↓o_listT, ↓o_tuple, ↓o_tupleT, ↓o_rev, ↓o_type, ↓o_isi, ↓o_isi2, ↓o_rg1, ↓o_rg2, ↓o_zip, ↓o_zipT, ↓o_itemsL, ↓o_itemsT, ↓o_ixL, ↓o_ixT, ↓o_at0, ↓o_at1, ↓o_at2, ↓o_at3, ↓o_at4, ↓o_at5, ↓o_at6, ↓o_at7, ↓o_at8, ↓o_at9, ↓o_at10, ↓o_at11, ↓o_at12, ↓o_at13, ↓o_at14, ↓o_at15, ↓w_eIxO, ↓t_tup1, ↓t_tup2, ↓t_tup3, ↓w_okOnly, ↓w_compN, ↓w_compC, ↓o_all, ↓o_any, ↓bls_nil, ↓bls_cons, ↓o_minL, ↓o_maxL, ↓o_sumL, ↓ints_nil, ↓ints_cons, ↓o_min3, ↓o_max3, ↓o_slL, ↓o_slT, ↓w_eBor, ↓w_bBor, o_isN, w_runF, tyName, isSubTy, tyNames, List.getElem?_cons_zero, List.getElem?_cons_succ, List.set_cons_zero, List.set_cons_succ, List.map_cons, List.map_nil, List.replicate_succ, List.replicate_zero, List.length_cons, List.length_nil, List.cons_append, List.nil_append, Nat.reduceAdd, Nat.reduceSub, Nat.reduceLeDiff, Nat.reduceEqDiff, ↓reduceIte, if_true, if_false, Bool.not_true, Bool.not_false, Bool.true_and, Bool.and_true, Bool.false_and, Bool.and_false, Bool.true_or, Bool.false_or, Bool.or_true, Bool.or_false, reduceCtorEq, decide_true, decide_false, beq_self_eq_true, List.mem_cons, true_or, or_true, true_and, and_true, false_and, and_false, or_false, false_or, String.reduceEq, String.reduceBEq, List.not_mem_nil, Bool.not_eq_true, Bool.false_eq_true, eq_self, not_true_eq_false, not_false_eq_true, Bool.not_eq_eq_eq_not, decide_eq_true_eq, decide_eq_false_iff_not, bne_iff_ne, ne_eq, Int.reduceLT, Int.reduceLE, Int.reduceMul, Int.reduceAdd, Int.reduceNeg, Int.reduceToNat, Int.reducePow, Nat.reduceLT, Int.reduceEq, Int.reduceSub, zipD, List.zipWith_cons_cons, List.zipWith_nil_left, List.zipWith_nil_right, List.all_cons, List.all_nil, id_eq, scalD, borE, wipeE, noOwn, sz_0, szl_0, sz_1, szl_1, sz_2, szl_2, sz_3, szl_3, sz_4, szl_4, sz_5, szl_5, sz_6, szl_6, sz_7, szl_7, sz_8, szl_8, sz_9, szl_9, sz_10, szl_10, sz_11, szl_11, sz_12, szl_12, sz_13, szl_13, sz_14, szl_14, sz_15, szl_15, sz_16, szl_16, sz_17, szl_17, sz_18, szl_18, sz_19, szl_19, sz_20, szl_20, sz_21, szl_21, sz_22, szl_22, sz_23, szl_23, sz_24, szl_24, sz_25, szl_25, sz_26, szl_26, sz_27, szl_27, sz_28, szl_28, sz_29, szl_29, sz_30, szl_30, sz_31, szl_31, sz_32, szl_32, frz, List.all_cons, List.all_nil, h1, h2]
    split
    · rename_i h
      rw [show prim ns = ns from if_neg (by omega)]
    · rename_i h
      have h0 : 0 < gcdL ns := by omega
      refine ⟨⟨hsz, ?_⟩, ?_⟩
      · rcases hs2 with rfl | ⟨d, rfl⟩ <;> rfl
      refine w_compF (fun d => match d with | .int z => .int (z.fdiv (gcdL ns)) | d => d) ?_ ?_
      · intro d hd
        obtain ⟨n, hn, rfl⟩ := List.mem_map.mp hd
        rw [t_name]
        simp only [↓w_pin0, ↓w_lent0, ↓w_sPin, ↓w_sLend, ↓w_sAppP, pinE, pin1, dropE, drop1, lendE, lentOk, ↓w_sRaise1, ↓one1_one, ↓w_sTryF, ↓w_sExt, ↓o_any2L, ↓o_any2T, ↓w_lRet, ↓w_lSeq, ↓w_runFL, ↓w_lCallF, ↓w_lRep, ↓o_repL, ↓w_iRevG, ↓o_revIL, ↓o_revIT, ↓o_plusT, ↓o_plusS, ↓o_repS, ↓o_enumL, ↓o_enumT, ↓w_lComp2, ↓w_capL, ↓w_comp2N, ↓w_comp2C, enumD_nil, enumD_cons, fldOf, Er.cls, ↓wR_ok, ↓wR_err, ↓wR_bind, ↓wR_of, ↓wO_some, ↓wO_map, ↓wO_bind, ↓w_var0, ↓w_varS, ↓w_eC, ↓w_e1, ↓w_l1, ↓w_e2, ↓w_l2, ↓w_b1, ↓w_b2, ↓w_eB, ↓w_eF, ↓w_lF, ↓w_eCall, ↓w_eLst, ↓w_aNil, ↓w_aCons, ↓w_eTup, ↓w_lDisp, ↓w_eIf, ↓w_bAnd, ↓w_bOr, ↓w_bNot, ↓w_bYes, ↓w_bChain, ↓w_eAnd, ↓w_eOr, ↓w_iAny, ↓w_oNone, ↓w_oSomeC, ↓w_eSl, ↓w_lSlG, ↓w_lComp, ↓w_sSeq, ↓w_sNil, ↓w_sBreak, ↓w_sCont, ↓w_sSet, ↓w_sSetL, ↓w_sExpr, ↓w_sRet, ↓w_sRetN, ↓w_sIf, ↓w_own0, ↓w_ownS, ↓w_sRetO, ↓w_sApp, ↓w_sSetIx, ↓w_sFrz, ↓w_sThen, ↓w_sRaise, ↓w_sAsg, ↓w_sFor, ↓w_sTry, ↓t_name, ↓t_nil, ↓t_cons, ↓o_plus, ↓o_plusL, ↓o_lAdd, ↓o_sub, ↓o_neg, ↓o_mul, ↓o_fdiv, ↓o_mod, ↓o_pow, ↓o_lt, ↓o_le, ↓o_gt, ↓o_ge, ↓o_eq, ↓o_ne, ↓o_truthB, ↓o_truthI, ↓o_truthN, ↓o_truthL, ↓o_truthT, ↓o_truthS, ↓o_notB, ↓o_isNN, ↓o_isBT, ↓o_isBF, ↓o_isT, ↓o_isIB, ↓o_isSB, ↓o_isLB, ↓o_isTB, ↓o_isNB, ↓o_isNot, ↓o_lenL, ↓o_lenT, ↓o_lenS, ↓o_abs, ↓o_intI, ↓o_intB, ↓o_str, ↓o_gcd, ↓o_list, ↓o_listT, ↓o_tuple, ↓o_tupleT, ↓o_rev, ↓o_type, ↓o_isi, ↓o_isi2, ↓o_rg1, ↓o_rg2, ↓o_zip, ↓o_zipT, ↓o_itemsL, ↓o_itemsT, ↓o_ixL, ↓o_ixT, ↓o_at0, ↓o_at1, ↓o_at2, ↓o_at3, ↓o_at4, ↓o_at5, ↓o_at6, ↓o_at7, ↓o_at8, ↓o_at9, ↓o_at10, ↓o_at11, ↓o_at12, ↓o_at13, ↓o_at14, ↓o_at15, ↓w_eIxO, ↓t_tup1, ↓t_tup2, ↓t_tup3, ↓w_okOnly, ↓w_compN, ↓w_compC, ↓o_all, ↓o_any, ↓bls_nil, ↓bls_cons, ↓o_minL, ↓o_maxL, ↓o_sumL, ↓ints_nil, ↓ints_cons, ↓o_min3, ↓o_max3, ↓o_slL, ↓o_slT, ↓w_eBor, ↓w_bBor, o_isN, w_runF, tyName, isSubTy, tyNames, List.getElem?_cons_zero, List.getElem?_cons_succ, List.set_cons_zero, List.set_cons_succ, List.map_cons, List.map_nil, List.replicate_succ, List.replicate_zero, List.length_cons, List.length_nil, List.cons_append, List.nil_append, Nat.reduceAdd, Nat.reduceSub, Nat.reduceLeDiff, Nat.reduceEqDiff, ↓reduceIte, if_true, if_false, Bool.not_true, Bool.not_false, Bool.true_and, Bool.and_true, Bool.false_and, Bool.and_false, Bool.true_or, Bool.false_or, Bool.or_true, Bool.or_false, reduceCtorEq, decide_true, decide_false, beq_self_eq_true, List.mem_cons, true_or, or_true, true_and, and_true, false_and, and_false, or_false, false_or, String.reduceEq, String.reduceBEq, List.not_mem_nil, Bool.not_eq_true, Bool.false_eq_true, eq_self, not_true_eq_false, not_false_eq_true, Bool.not_eq_eq_eq_not, decide_eq_true_eq, decide_eq_false_iff_not, bne_iff_ne, ne_eq, Int.reduceLT, Int.reduceLE, Int.reduceMul, Int.reduceAdd, Int.reduceNeg, Int.reduceToNat, Int.reducePow, Nat.reduceLT, Int.reduceEq, Int.reduceSub, zipD, List.zipWith_cons_cons, List.zipWith_nil_left, List.zipWith_nil_right, List.all_cons, List.all_nil, id_eq, scalD, borE, wipeE, noOwn, sz_0, szl_0, sz_1, szl_1, sz_2, szl_2, sz_3, szl_3, sz_4, szl_4, sz_5, szl_5, sz_6, szl_6, sz_7, szl_7, sz_8, szl_8, sz_9, szl_9, sz_10, szl_10, sz_11, szl_11, sz_12, szl_12, sz_13, szl_13, sz_14, szl_14, sz_15, szl_15, sz_16, szl_16, sz_17, szl_17, sz_18, szl_18, sz_19, szl_19, sz_20, szl_20, sz_21, szl_21, sz_22, szl_22, sz_23, szl_23, sz_24, szl_24, sz_25, szl_25, sz_26, szl_26, sz_27, szl_27, sz_28, szl_28, sz_29, szl_29, sz_30, szl_30, sz_31, szl_31, sz_32, szl_32, frz, List.all_cons, List.all_nil]
        exact s9_of (by omega) (by rw [Int.natAbs_natCast]; exact Nat.lt_of_lt_of_le hg (by decide))
      · rw [prim_div h0]
        simp only [↓w_pin0, ↓w_lent0, ↓w_sPin, ↓w_sLend, ↓w_sAppP, pinE, pin1, dropE, drop1, lendE, lentOk, ↓w_sRaise1, ↓one1_one, ↓w_sTryF, ↓w_sExt, ↓o_any2L, ↓o_any2T, ↓w_lRet, ↓w_lSeq, ↓w_runFL, ↓w_lCallF, ↓w_lRep, ↓o_repL, ↓w_iRevG, ↓o_revIL, ↓o_revIT, ↓o_plusT, ↓o_plusS, ↓o_repS, ↓o_enumL, ↓o_enumT, ↓w_lComp2, ↓w_capL, ↓w_comp2N, ↓w_comp2C, enumD_nil, enumD_cons, fldOf, Er.cls, ↓wR_ok, ↓wR_err, ↓wR_bind, ↓wR_of, ↓wO_some, ↓wO_map, ↓wO_bind, ↓w_var0, ↓w_varS, ↓w_eC, ↓w_e1, ↓w_l1, ↓w_e2, ↓w_l2, ↓w_b1, ↓w_b2, ↓w_eB, ↓w_eF, ↓w_lF, ↓w_eCall, ↓w_eLst, ↓w_aNil, ↓w_aCons, ↓w_eTup, ↓w_lDisp, ↓w_eIf, ↓w_bAnd, ↓w_bOr, ↓w_bNot, ↓w_bYes, ↓w_bChain, ↓w_eAnd, ↓w_eOr, ↓w_iAny, ↓w_oNone, ↓w_oSomeC, ↓w_eSl, ↓w_lSlG, ↓w_lComp, ↓w_sSeq, ↓w_sNil, ↓w_sBreak, ↓w_sCont, ↓w_sSet, ↓w_sSetL, ↓w_sExpr, ↓w_sRet, ↓w_sRetN, ↓w_sIf, ↓w_own0, ↓w_ownS, ↓w_sRetO, ↓w_sApp, ↓w_sSetIx, ↓w_sFrz, ↓w_sThen, ↓w_sRaise, ↓w_sAsg, ↓w_sFor, ↓w_sTry, ↓t_name, ↓t_nil, ↓t_cons, ↓o_plus, ↓o_plusL, ↓o_lAdd, ↓o_sub, ↓o_neg, ↓o_mul, ↓o_fdiv, ↓o_mod, ↓o_pow, ↓o_lt, ↓o_le, ↓o_gt, ↓o_ge, ↓o_eq, ↓o_ne, ↓o_truthB, ↓o_truthI, ↓o_truthN, ↓o_truthL, ↓o_truthT, ↓o_truthS, ↓o_notB, ↓o_isNN, ↓o_isBT, ↓o_isBF, ↓o_isT, ↓o_isIB, ↓o_isSB, ↓o_isLB, ↓o_isTB, ↓o_isNB, ↓o_isNot, ↓o_lenL, ↓o_lenT, ↓o_lenS, ↓o_abs, ↓o_intI, ↓o_intB, ↓o_str, ↓o_gcd, ↓o_list, ↓o_listT, ↓o_tuple, ↓o_tupleT, ↓o_rev, ↓o_type, ↓o_isi, ↓o_isi2, ↓o_rg1, ↓o_rg2, ↓o_zip, ↓o_zipT, ↓o_itemsL, ↓o_itemsT, ↓o_ixL, ↓o_ixT, ↓o_at0, ↓o_at1, ↓o_at2, ↓o_at3, ↓o_at4, ↓o_at5, ↓o_at6, ↓o_at7, ↓o_at8, ↓o_at9, ↓o_at10, ↓o_at11, ↓o_at12, ↓o_at13, ↓o_at14, ↓o_at15, ↓w_eIxO, ↓t_tup1, ↓t_tup2, ↓t_tup3, ↓w_okOnly, ↓w_compN, ↓w_compC, ↓o_all, ↓o_any, ↓bls_nil, ↓bls_cons, ↓o_minL, ↓o_maxL, ↓o_sumL, ↓ints_nil, ↓ints_cons, ↓o_min3, ↓o_max3, ↓o_slL, ↓o_slT, ↓w_eBor, ↓w_bBor, o_isN, w_runF, tyName, isSubTy, tyNames, List.getElem?_cons_zero, List.getElem?_cons_succ, List.set_cons_zero, List.set_cons_succ, List.map_cons, List.map_nil, List.replicate_succ, List.replicate_zero, List.length_cons, List.length_nil, List.cons_append, List.nil_append, Nat.reduceAdd, Nat.reduceSub, Nat.reduceLeDiff, Nat.reduceEqDiff, ↓reduceIte, if_true, if_false, Bool.not_true, Bool.not_false, Bool.true_and, Bool.and_true, Bool.false_and, Bool.and_false, Bool.true_or, Bool.false_or, Bool.or_true, Bool.or_false, reduceCtorEq, decide_true, decide_false, beq_self_eq_true, List.mem_cons, true_or, or_true, true_and, and_true, false_and, and_false, or_false, false_or, String.reduceEq, String.reduceBEq, List.not_mem_nil, Bool.not_eq_true, Bool.false_eq_true, eq_self, not_true_eq_false, not_false_eq_true, Bool.not_eq_eq_eq_not, decide_eq_true_eq, decide_eq_false_iff_not, bne_iff_ne, ne_eq, Int.reduceLT, Int.reduceLE, Int.reduceMul, Int.reduceAdd, Int.reduceNeg, Int.reduceToNat, Int.reducePow, Nat.reduceLT, Int.reduceEq, Int.reduceSub, zipD, List.zipWith_cons_cons, List.zipWith_nil_left, List.zipWith_nil_right, List.all_cons, List.all_nil, id_eq, scalD, borE, wipeE, noOwn, sz_0, szl_0, sz_1, szl_1, sz_2, szl_2, sz_3, szl_3, sz_4, szl_4, sz_5, szl_5, sz_6, szl_6, sz_7, szl_7, sz_8, szl_8, sz_9, szl_9, sz_10, szl_10, sz_11, szl_11, sz_12, szl_12, sz_13, szl_13, sz_14, szl_14, sz_15, szl_15, sz_16, szl_16, sz_17, szl_17, sz_18, szl_18, sz_19, szl_19, sz_20, szl_20, sz_21, szl_21, sz_22, szl_22, sz_23, szl_23, sz_24, szl_24, sz_25, szl_25, sz_26, szl_26, sz_27, szl_27, sz_28, szl_28, sz_29, szl_29, sz_30, szl_30, sz_31, szl_31, sz_32, szl_32, frz, List.all_cons, List.all_nil, iD, List.map_map]
        rfl
  constructor
  · apply wR_eq
    simp only [m__law_short, g__law_short, ↓w_pin0, ↓w_lent0, ↓w_sPin, ↓w_sLend, ↓w_sAppP, pinE, pin1, dropE, drop1, lendE, lentOk, ↓w_sRaise1, ↓one1_one, ↓w_sTryF, ↓w_sExt, ↓o_any2L, ↓o_any2T, ↓w_lRet, ↓w_lSeq, ↓w_runFL, ↓w_lCallF, ↓w_lRep, ↓o_repL, ↓w_iRevG, ↓o_revIL, ↓o_revIT, ↓o_plusT, ↓o_plusS, ↓o_repS, ↓o_enumL, ↓o_enumT, ↓w_lComp2, ↓w_capL, ↓w_comp2N, ↓w_comp2C, enumD_nil, enumD_cons, fldOf, Er.cls, ↓wR_ok, ↓wR_err, ↓wR_bind, ↓wR_of, ↓wO_some, ↓wO_map, ↓wO_bind, ↓w_var0, ↓w_varS, ↓w_eC, ↓w_e1, ↓w_l1, ↓w_e2, ↓w_l2, ↓w_b1, ↓w_b2, ↓w_eB, ↓w_eF, ↓w_lF, ↓w_eCall, ↓w_eLst, ↓w_aNil, ↓w_aCons, ↓w_eTup, ↓w_lDisp, ↓w_eIf, ↓w_bAnd, ↓w_bOr, ↓w_bNot, ↓w_bYes, ↓w_bChain, ↓w_eAnd, ↓w_eOr, ↓w_iAny, ↓w_oNone, ↓w_oSomeC, ↓w_eSl, ↓w_lSlG, ↓w_lComp, ↓w_sSeq, ↓w_sNil, ↓w_sBreak, ↓w_sCont, ↓w_sSet, ↓w_sSetL, ↓w_sExpr, ↓w_sRet, ↓w_sRetN, ↓w_sIf, ↓w_own0, ↓w_ownS, ↓w_sRetO, ↓w_sApp, ↓w_sSetIx, ↓w_sFrz, ↓w_sThen, ↓w_sRaise, ↓w_sAsg, ↓w_sFor, ↓w_sTry, ↓t_name, ↓t_nil, ↓t_cons, ↓o_plus, ↓o_plusL, ↓o_lAdd, ↓o_sub, ↓o_neg, ↓o_mul, ↓o_fdiv, ↓o_mod, ↓o_pow, ↓o_lt, ↓o_le, ↓o_gt, ↓o_ge, ↓o_eq, ↓o_ne, ↓o_truthB, ↓o_truthI, ↓o_truthN, ↓o_truthL, ↓o_truthT, ↓o_truthS, ↓o_notB, ↓o_isNN, ↓o_isBT, ↓o_isBF, ↓o_isT, ↓o_isIB, ↓o_isSB, ↓o_isLB, ↓o_isTB, ↓o_isNB, ↓o_isNot, ↓o_lenL, ↓o_lenT, ↓o_lenS, ↓o_abs, ↓o_intI, ↓o_intB, ↓o_str, ↓o_gcd, ↓o_list, ↓o_listT, ↓o_tuple, ↓o_tupleT, ↓o_rev, ↓o_type, ↓o_isi, ↓o_isi2, ↓o_rg1, ↓o_rg2, ↓o_zip, ↓o_zipT, ↓o_itemsL, ↓o_itemsT, ↓o_ixL, ↓o_ixT, ↓o_at0, ↓o_at1, ↓o_at2, ↓o_at3, ↓o_at4, ↓o_at5, ↓o_at6, ↓o_at7, ↓o_at8, ↓o_at9, ↓o_at10, ↓o_at11, ↓o_at12, ↓o_at13, ↓o_at14, ↓o_at15, ↓w_eIxO, ↓t_tup1, ↓t_tup2, ↓t_tup3, ↓w_okOnly, ↓w_compN, ↓w_compC, ↓o_all, ↓o_any, ↓bls_nil, ↓bls_cons, ↓o_minL, ↓o_maxL, ↓o_sumL, ↓ints_nil, ↓ints_cons, ↓o_min3, ↓o_max3, ↓o_slL, ↓o_slT, ↓w_eBor, ↓w_bBor, o_isN, w_runF, tyName, isSubTy, tyNames, List.getElem?_cons_zero, List.getElem?_cons_succ, List.set_cons_zero, List.set_cons_succ, List.map_cons, List.map_nil, List.replicate_succ, List.replicate_zero, List.length_cons, List.length_nil, List.cons_append, List.nil_append, Nat.reduceAdd, Nat.reduceSub, Nat.reduceLeDiff, Nat.reduceEqDiff, ↓reduceIte, if_true, if_false, Bool.not_true, Bool.not_false, Bool.true_and, Bool.and_true, Bool.false_and, Bool.and_false, Bool.true_or, Bool.false_or, Bool.or_true, Bool.or_false, reduceCtorEq, decide_true, decide_false, beq_self_eq_true, List.mem_cons, true_or, or_true, true_and, and_true, false_and, and_false, or_false, false_or, String.reduceEq, String.reduceBEq, List.not_mem_nil, Bool.not_eq_true, Bool.false_eq_true, eq_self, not_true_eq_false, not_false_eq_true, Bool.not_eq_eq_eq_not, decide_eq_true_eq, decide_eq_false_iff_not, bne_iff_ne, ne_eq, Int.reduceLT, Int.reduceLE, Int.reduceMul, Int.reduceAdd, Int.reduceNeg, Int.reduceToNat, Int.reducePow, Nat.reduceLT, Int.reduceEq, Int.reduceSub, zipD, List.zipWith_cons_cons, List.zipWith_nil_left, List.zipWith_nil_right, List.all_cons, List.all_nil, id_eq, scalD, borE, wipeE, noOwn, sz_0, szl_0, sz_1, szl_1, sz_2, szl_2, sz_3, szl_3, sz_4, szl_4, sz_5, szl_5, sz_6, szl_6, sz_7, szl_7, sz_8, szl_8, sz_9, szl_9, sz_10, szl_10, sz_11, szl_11, sz_12, szl_12, sz_13, szl_13, sz_14, szl_14, sz_15, szl_15, sz_16, szl_16, sz_17, szl_17, sz_18, szl_18, sz_19, szl_19, sz_20, szl_20, sz_21, szl_21, sz_22, szl_22, sz_23, szl_23, sz_24, szl_24, sz_25, szl_25, sz_26, szl_26, sz_27, szl_27, sz_28, szl_28, sz_29, szl_29, sz_30, szl_30, sz_31, szl_31, sz_32, szl_32, frz, List.all_cons, List.all_nil]
    exact short_loop hb (.inl rfl) fun s2 h2 => fin _ (fun Q => rfl) (fun Q => rfl) _ h2 _ _ _ _
  · apply wR_eq
    simp only [m__law_short, g__law_short, ↓w_pin0, ↓w_lent0, ↓w_sPin, ↓w_sLend, ↓w_sAppP, pinE, pin1, dropE, drop1, lendE, lentOk, ↓w_sRaise1, ↓one1_one, ↓w_sTryF, ↓w_sExt, ↓o_any2L, ↓o_any2T, ↓w_lRet, ↓w_lSeq, ↓w_runFL, ↓w_lCallF, ↓w_lRep, ↓o_repL, ↓w_iRevG, ↓o_revIL, ↓o_revIT, ↓o_plusT, ↓o_plusS, ↓o_repS, ↓o_enumL, ↓o_enumT, ↓w_lComp2, ↓w_capL, ↓w_comp2N, ↓w_comp2C, enumD_nil, enumD_cons, fldOf, Er.cls, ↓wR_ok, ↓wR_err, ↓wR_bind, ↓wR_of, ↓wO_some, ↓wO_map, ↓wO_bind, ↓w_var0, ↓w_varS, ↓w_eC, ↓w_e1, ↓w_l1, ↓w_e2, ↓w_l2, ↓w_b1, ↓w_b2, ↓w_eB, ↓w_eF, ↓w_lF, ↓w_eCall, ↓w_eLst, ↓w_aNil, ↓w_aCons, ↓w_eTup, ↓w_lDisp, ↓w_eIf, ↓w_bAnd, ↓w_bOr, ↓w_bNot, ↓w_bYes, ↓w_bChain, ↓w_eAnd, ↓w_eOr, ↓w_iAny, ↓w_oNone, ↓w_oSomeC, ↓w_eSl, ↓w_lSlG, ↓w_lComp, ↓w_sSeq, ↓w_sNil, ↓w_sBreak, ↓w_sCont, ↓w_sSet, ↓w_sSetL, ↓w_sExpr, ↓w_sRet, ↓w_sRetN, ↓w_sIf, ↓w_own0, ↓w_ownS, ↓w_sRetO, ↓w_sApp, ↓w_sSetIx, ↓w_sFrz, ↓w_sThen, ↓w_sRaise, ↓w_sAsg, ↓w_sFor, ↓w_sTry, ↓t_name, ↓t_nil, ↓t_cons, ↓o_plus, ↓o_plusL, ↓o_lAdd, ↓o_sub, ↓o_neg, ↓o_mul, ↓o_fdiv, ↓o_mod, ↓o_pow, ↓o_lt, ↓o_le, ↓o_gt, ↓o_ge, ↓o_eq, ↓o_ne, ↓o_truthB, ↓o_truthI, ↓o_truthN, ↓o_truthL, ↓o_truthT, ↓o_truthS, ↓o_notB, ↓o_isNN, ↓o_isBT, ↓o_isBF, ↓o_isT, ↓o_isIB, ↓o_isSB, ↓o_isLB, ↓o_isTB, ↓o_isNB, ↓o_isNot, ↓o_lenL, ↓o_lenT, ↓o_lenS, ↓o_abs, ↓o_intI, ↓o_intB, ↓o_str, ↓o_gcd, ↓o_list, ↓o_listT, ↓o_tuple, ↓o_tupleT, ↓o_rev, ↓o_type, ↓o_isi, ↓o_isi2, ↓o_rg1, ↓o_rg2, ↓o_zip, ↓o_zipT, ↓o_itemsL, ↓o_itemsT, ↓o_ixL, ↓o_ixT, ↓o_at0, ↓o_at1, ↓o_at2, ↓o_at3, ↓o_at4, ↓o_at5, ↓o_at6, ↓o_at7, ↓o_at8, ↓o_at9, ↓o_at10, ↓o_at11, ↓o_at12, ↓o_at13, ↓o_at14, ↓o_at15, ↓w_eIxO, ↓t_tup1, ↓t_tup2, ↓t_tup3, ↓w_okOnly, ↓w_compN, ↓w_compC, ↓o_all, ↓o_any, ↓bls_nil, ↓bls_cons, ↓o_minL, ↓o_maxL, ↓o_sumL, ↓ints_nil, ↓ints_cons, ↓o_min3, ↓o_max3, ↓o_slL, ↓o_slT, ↓w_eBor, ↓w_bBor, o_isN, w_runF, tyName, isSubTy, tyNames, List.getElem?_cons_zero, List.getElem?_cons_succ, List.set_cons_zero, List.set_cons_succ, List.map_cons, List.map_nil, List.replicate_succ, List.replicate_zero, List.length_cons, List.length_nil, List.cons_append, List.nil_append, Nat.reduceAdd, Nat.reduceSub, Nat.reduceLeDiff, Nat.reduceEqDiff, ↓reduceIte, if_true, if_false, Bool.not_true, Bool.not_false, Bool.true_and, Bool.and_true, Bool.false_and, Bool.and_false, Bool.true_or, Bool.false_or, Bool.or_true, Bool.or_false, reduceCtorEq, decide_true, decide_false, beq_self_eq_true, List.mem_cons, true_or, or_true, true_and, and_true, false_and, and_false, or_false, false_or, String.reduceEq, String.reduceBEq, List.not_mem_nil, Bool.not_eq_true, Bool.false_eq_true, eq_self, not_true_eq_false, not_false_eq_true, Bool.not_eq_eq_eq_not, decide_eq_true_eq, decide_eq_false_iff_not, bne_iff_ne, ne_eq, Int.reduceLT, Int.reduceLE, Int.reduceMul, Int.reduceAdd, Int.reduceNeg, Int.reduceToNat, Int.reducePow, Nat.reduceLT, Int.reduceEq, Int.reduceSub, zipD, List.zipWith_cons_cons, List.zipWith_nil_left, List.zipWith_nil_right, List.all_cons, List.all_nil, id_eq, scalD, borE, wipeE, noOwn, sz_0, szl_0, sz_1, szl_1, sz_2, szl_2, sz_3, szl_3, sz_4, szl_4, sz_5, szl_5, sz_6, szl_6, sz_7, szl_7, sz_8, szl_8, sz_9, szl_9, sz_10, szl_10, sz_11, szl_11, sz_12, szl_12, sz_13, szl_13, sz_14, szl_14, sz_15, szl_15, sz_16, szl_16, sz_17, szl_17, sz_18, szl_18, sz_19, szl_19, sz_20, szl_20, sz_21, szl_21, sz_22, szl_22, sz_23, szl_23, sz_24, szl_24, sz_25, szl_25, sz_26, szl_26, sz_27, szl_27, sz_28, szl_28, sz_29, szl_29, sz_30, szl_30, sz_31, szl_31, sz_32, szl_32, frz, List.all_cons, List.all_nil]
    exact short_loop hb (.inl rfl) fun s2 h2 => fin _ (fun Q => rfl) (fun Q => rfl) _ h2 _ _ _ _
end AF

namespace AF
open PySem PySem.Spec PyProof.Rows L2
theorem rangeD_3 : rangeD 0 3 = [.int 0, .int 1, .int 2] := rfl
def thenL (a b c d e f g h i A B C D' E F G H I : Int) : List Int :=
  [A * a + B * d + C * g, A * b + B * e + C * h, A * c + B * f + C * i, D' * a + E * d + F * g, D' * b + E * e + F * h, D' * c + E * f + F * i, G * a + H * d + I * g, G * b + H * e + I * h, G * c + H * f + I * i]
theorem then_law {a b c d e f g h i A B C D' E F G H I : Int} (hs : ∀ x ∈ [a, b, c, d, e, f, g, h, i, A, B, C, D', E, F, G, H, I], Sm x) (hb : ∀ n ∈ thenL a b c d e f g h i A B C D' E F G H I, n.natAbs < 2 ^ 900) :
    m__law_then [.tup [.int a, .int b, .int c, .int d, .int e, .int f, .int g, .int h, .int i], .tup [.int A, .int B, .int C, .int D', .int E, .int F, .int G, .int H, .int I]] = .ok (.tup (iD (prim (thenL a b c d e f g h i A B C D' E F G H I)))) := by
  have s := (short_ok _ hb (by simp [thenL])).2
  simp only [List.mem_cons, List.not_mem_nil, or_false, forall_eq_or_imp, forall_eq] at hs
  obtain ⟨h1, h2, h3, h4, h5, h6, h7, h8, h9, g1, g2, g3, g4, g5, g6, g7, g8, g9⟩ := hs
  have s3 : Sm 3 := Sm.lt (by decide) (by decide)
  have s0 : Sm 0 := Sm.lt (by decide) (by decide)
  have s1 : Sm 1 := Sm.lt (by decide) (by decide)
  have s2 : Sm 2 := Sm.lt (by decide) (by decide)
  simp only [thenL, iD, List.map_cons, List.map_nil] at s ⊢
  apply wR_eq
  simp only [m__law_then, g__law_then, b__law_then_1, b__law_then_2, r__law_then_3, ↓w_pin0, ↓w_lent0, ↓w_sPin, ↓w_sLend, ↓w_sAppP, pinE, pin1, dropE, drop1, lendE, lentOk, ↓w_sRaise1, ↓one1_one, ↓w_sTryF, ↓w_sExt, ↓o_any2L, ↓o_any2T, ↓w_lRet, ↓w_lSeq, ↓w_runFL, ↓w_lCallF, ↓w_lRep, ↓o_repL, ↓w_iRevG, ↓o_revIL, ↓o_revIT, ↓o_plusT, ↓o_plusS, ↓o_repS, ↓o_enumL, ↓o_enumT, ↓w_lComp2, ↓w_capL, ↓w_comp2N, ↓w_comp2C, enumD_nil, enumD_cons, fldOf, Er.cls, ↓wR_ok, ↓wR_err, ↓wR_bind, ↓wR_of, ↓wO_some, ↓wO_map, ↓wO_bind, ↓w_var0, ↓w_varS, ↓w_eC, ↓w_e1, ↓w_l1, ↓w_e2, ↓w_l2, ↓w_b1, ↓w_b2, ↓w_eB, ↓w_eF, ↓w_lF, ↓w_eCall, ↓w_eLst, ↓w_aNil, ↓w_aCons, ↓w_eTup, ↓w_lDisp, ↓w_eIf, ↓w_bAnd, ↓w_bOr, ↓w_bNot, ↓w_bYes, ↓w_bChain, ↓w_eAnd, ↓w_eOr, ↓w_iAny, ↓w_oNone, ↓w_oSomeC, ↓w_eSl, ↓w_lSlG, ↓w_lComp, ↓w_sSeq, ↓w_sNil, ↓w_sBreak, ↓w_sCont, ↓w_sSet, ↓w_sSetL, ↓w_sExpr, ↓w_sRet, ↓w_sRetN, ↓w_sIf, ↓w_own0, ↓w_ownS, ↓w_sRetO, ↓w_sApp, ↓w_sSetIx, ↓w_sFrz, ↓w_sThen, ↓w_sRaise, ↓w_sAsg, ↓w_sFor, ↓w_sTry, ↓t_name, ↓t_nil, ↓t_cons, ↓o_plus, ↓o_plusL, ↓o_lAdd, ↓o_sub, ↓o_neg, ↓o_mul, ↓o_fdiv, ↓o_mod, ↓o_pow, ↓o_lt, ↓o_le, ↓o_gt, ↓o_ge, ↓o_eq, ↓o_ne, ↓o_truthB, ↓o_truthI, ↓o_truthN, ↓o_truthL, ↓o_truthT, ↓o_truthS, ↓o_notB, ↓o_isNN, ↓o_isBT, ↓o_isBF, ↓o_isT, ↓o_isIB, ↓o_isSB, ↓o_isLB, ↓o_isTB, ↓o_isNB, ↓o_isNot, ↓o_lenL, ↓o_lenT, ↓o_lenS, ↓o_abs, ↓o_intI, ↓o_intB, ↓o_str, ↓o_gcd, ↓o_list, ↓o_listT, ↓o_tuple, ↓o_tupleT, ↓o_rev, ↓o_type, ↓o_isi, ↓o_isi2, ↓o_rg1, ↓o_rg2, ↓o_zip, ↓o_zipT, ↓o_itemsL, ↓o_itemsT, ↓o_ixL, ↓o_ixT, ↓o_at0, ↓o_at1, ↓o_at2, ↓o_at3, ↓o_at4, ↓o_at5, ↓o_at6, ↓o_at7, ↓o_at8, ↓o_at9, ↓o_at10, ↓o_at11, ↓o_at12, ↓o_at13, ↓o_at14, ↓o_at15, ↓w_eIxO, ↓t_tup1, ↓t_tup2, ↓t_tup3, ↓w_okOnly, ↓w_compN, ↓w_compC, ↓o_all, ↓o_any, ↓bls_nil, ↓bls_cons, ↓o_minL, ↓o_maxL, ↓o_sumL, ↓ints_nil, ↓ints_cons, ↓o_min3, ↓o_max3, ↓o_slL, ↓o_slT, ↓w_eBor, ↓w_bBor, o_isN, w_runF, tyName, isSubTy, tyNames, List.getElem?_cons_zero, List.getElem?_cons_succ, List.set_cons_zero, List.set_cons_succ, List.map_cons, List.map_nil, List.replicate_succ, List.replicate_zero, List.length_cons, List.length_nil, List.cons_append, List.nil_append, Nat.reduceAdd, Nat.reduceSub, Nat.reduceLeDiff, Nat.reduceEqDiff, ↓reduceIte, if_true, if_false, Bool.not_true, Bool.not_false, Bool.true_and, Bool.and_true, Bool.false_and, Bool.and_false, Bool.true_or, Bool.false_or, Bool.or_true, Bool.or_false, reduceCtorEq, decide_true, decide_false, beq_self_eq_true, List.mem_cons, true_or, or_true, true_and, and_true, false_and, and_false, or_false, false_or, String.reduceEq, String.reduceBEq, List.not_mem_nil, Bool.not_eq_true, Bool.false_eq_true, eq_self, not_true_eq_false, not_false_eq_true, Bool.not_eq_eq_eq_not, decide_eq_true_eq, decide_eq_false_iff_not, bne_iff_ne, ne_eq, Int.reduceLT, Int.reduceLE, Int.reduceMul, Int.reduceAdd, Int.reduceNeg, Int.reduceToNat, Int.reducePow, Nat.reduceLT, Int.reduceEq, Int.reduceSub, zipD, List.zipWith_cons_cons, List.zipWith_nil_left, List.zipWith_nil_right, List.all_cons, List.all_nil, id_eq, scalD, borE, wipeE, noOwn, sz_0, szl_0, sz_1, szl_1, sz_2, szl_2, sz_3, szl_3, sz_4, szl_4, sz_5, szl_5, sz_6, szl_6, sz_7, szl_7, sz_8, szl_8, sz_9, szl_9, sz_10, szl_10, sz_11, szl_11, sz_12, szl_12, sz_13, szl_13, sz_14, szl_14, sz_15, szl_15, sz_16, szl_16, sz_17, szl_17, sz_18, szl_18, sz_19, szl_19, sz_20, szl_20, sz_21, szl_21, sz_22, szl_22, sz_23, szl_23, sz_24, szl_24, sz_25, szl_25, sz_26, szl_26, sz_27, szl_27, sz_28, szl_28, sz_29, szl_29, sz_30, szl_30, sz_31, szl_31, sz_32, szl_32, frz, List.all_cons, List.all_nil, ↓w_forN, ↓w_forC, rangeD_3, h1, h2, h3, h4, h5, h6, h7, h8, h9, g1, g2, g3, g4, g5, g6, g7, g8, g9, s0, s1, s2, s3]
  rw [s]
  rfl
theorem sum3 (x y z : Int) : [x, y, z].sum = x + y + z := by
  show x + (y + (z + 0)) = _
  omega
theorem then_prog {a b c d e f g h i A B C D' E F G H I : Int} (hs : ∀ x ∈ [a, b, c, d, e, f, g, h, i, A, B, C, D', E, F, G, H, I], Sm x) (hb : ∀ n ∈ thenL a b c d e f g h i A B C D' E F G H I, n.natAbs < 2 ^ 900) :
    m_first_then [.tup [.int a, .int b, .int c, .int d, .int e, .int f, .int g, .int h, .int i], .tup [.int A, .int B, .int C, .int D', .int E, .int F, .int G, .int H, .int I]] = .ok (.tup (iD (prim (thenL a b c d e f g h i A B C D' E F G H I)))) := by
  have s := (plowest_ok _ (fun n hn => lt_up (hb n hn) (by decide)) (by simp [thenL])).2
  simp only [List.mem_cons, List.not_mem_nil, or_false, forall_eq_or_imp, forall_eq] at hs
  obtain ⟨h1, h2, h3, h4, h5, h6, h7, h8, h9, g1, g2, g3, g4, g5, g6, g7, g8, g9⟩ := hs
  have s3 : Sm 3 := Sm.lt (by decide) (by decide)
  have s0 : Sm 0 := Sm.lt (by decide) (by decide)
  have s1 : Sm 1 := Sm.lt (by decide) (by decide)
  have s2 : Sm 2 := Sm.lt (by decide) (by decide)
  simp only [thenL, iD, List.map_cons, List.map_nil] at s ⊢
  apply wR_eq
  simp only [m_first_then, g_first_then, b_first_then_1, b_first_then_2, r_first_then_3, ↓w_pin0, ↓w_lent0, ↓w_sPin, ↓w_sLend, ↓w_sAppP, pinE, pin1, dropE, drop1, lendE, lentOk, ↓w_sRaise1, ↓one1_one, ↓w_sTryF, ↓w_sExt, ↓o_any2L, ↓o_any2T, ↓w_lRet, ↓w_lSeq, ↓w_runFL, ↓w_lCallF, ↓w_lRep, ↓o_repL, ↓w_iRevG, ↓o_revIL, ↓o_revIT, ↓o_plusT, ↓o_plusS, ↓o_repS, ↓o_enumL, ↓o_enumT, ↓w_lComp2, ↓w_capL, ↓w_comp2N, ↓w_comp2C, enumD_nil, enumD_cons, fldOf, Er.cls, ↓wR_ok, ↓wR_err, ↓wR_bind, ↓wR_of, ↓wO_some, ↓wO_map, ↓wO_bind, ↓w_var0, ↓w_varS, ↓w_eC, ↓w_e1, ↓w_l1, ↓w_e2, ↓w_l2, ↓w_b1, ↓w_b2, ↓w_eB, ↓w_eF, ↓w_lF, ↓w_eCall, ↓w_eLst, ↓w_aNil, ↓w_aCons, ↓w_eTup, ↓w_lDisp, ↓w_eIf, ↓w_bAnd, ↓w_bOr, ↓w_bNot, ↓w_bYes, ↓w_bChain, ↓w_eAnd, ↓w_eOr, ↓w_iAny, ↓w_oNone, ↓w_oSomeC, ↓w_eSl, ↓w_lSlG, ↓w_lComp, ↓w_sSeq, ↓w_sNil, ↓w_sBreak, ↓w_sCont, ↓w_sSet, ↓w_sSetL, ↓w_sExpr, ↓w_sRet, ↓w_sRetN, ↓w_sIf, ↓w_own0, ↓w_ownS, ↓w_sRetO, ↓w_sApp, ↓w_sSetIx, ↓w_sFrz, ↓w_sThen, ↓w_sRaise, ↓w_sAsg, ↓w_sFor, ↓w_sTry, ↓t_name, ↓t_nil, ↓t_cons, ↓o_plus, ↓o_plusL, ↓o_lAdd, ↓o_sub, ↓o_neg, ↓o_mul, ↓o_fdiv, ↓o_mod, ↓o_pow, ↓o_lt, ↓o_le, ↓o_gt, ↓o_ge, ↓o_eq, ↓o_ne, ↓o_truthB, ↓o_truthI, ↓o_truthN, ↓o_truthL, ↓o_truthT, ↓o_truthS, ↓o_notB, ↓o_isNN, ↓o_isBT, ↓o_isBF, ↓o_isT, ↓o_isIB, ↓o_isSB, ↓o_isLB, ↓o_isTB, ↓o_isNB, ↓o_isNot, ↓o_lenL, ↓o_lenT, ↓o_lenS, ↓o_abs, ↓o_intI, ↓o_intB, ↓o_str, ↓o_gcd, ↓o_list, ↓o_listT, ↓o_tuple, ↓o_tupleT, ↓o_rev, ↓o_type, ↓o_isi, ↓o_isi2, ↓o_rg1, ↓o_rg2, ↓o_zip, ↓o_zipT, ↓o_itemsL, ↓o_itemsT, ↓o_ixL, ↓o_ixT, ↓o_at0, ↓o_at1, ↓o_at2, ↓o_at3, ↓o_at4, ↓o_at5, ↓o_at6, ↓o_at7, ↓o_at8, ↓o_at9, ↓o_at10, ↓o_at11, ↓o_at12, ↓o_at13, ↓o_at14, ↓o_at15, ↓w_eIxO, ↓t_tup1, ↓t_tup2, ↓t_tup3, ↓w_okOnly, ↓w_compN, ↓w_compC, ↓o_all, ↓o_any, ↓bls_nil, ↓bls_cons, ↓o_minL, ↓o_maxL, ↓o_sumL, ↓ints_nil, ↓ints_cons, ↓o_min3, ↓o_max3, ↓o_slL, ↓o_slT, ↓w_eBor, ↓w_bBor, o_isN, w_runF, tyName, isSubTy, tyNames, List.getElem?_cons_zero, List.getElem?_cons_succ, List.set_cons_zero, List.set_cons_succ, List.map_cons, List.map_nil, List.replicate_succ, List.replicate_zero, List.length_cons, List.length_nil, List.cons_append, List.nil_append, Nat.reduceAdd, Nat.reduceSub, Nat.reduceLeDiff, Nat.reduceEqDiff, ↓reduceIte, if_true, if_false, Bool.not_true, Bool.not_false, Bool.true_and, Bool.and_true, Bool.false_and, Bool.and_false, Bool.true_or, Bool.false_or, Bool.or_true, Bool.or_false, reduceCtorEq, decide_true, decide_false, beq_self_eq_true, List.mem_cons, true_or, or_true, true_and, and_true, false_and, and_false, or_false, false_or, String.reduceEq, String.reduceBEq, List.not_mem_nil, Bool.not_eq_true, Bool.false_eq_true, eq_self, not_true_eq_false, not_false_eq_true, Bool.not_eq_eq_eq_not, decide_eq_true_eq, decide_eq_false_iff_not, bne_iff_ne, ne_eq, Int.reduceLT, Int.reduceLE, Int.reduceMul, Int.reduceAdd, Int.reduceNeg, Int.reduceToNat, Int.reducePow, Nat.reduceLT, Int.reduceEq, Int.reduceSub, zipD, List.zipWith_cons_cons, List.zipWith_nil_left, List.zipWith_nil_right, List.all_cons, List.all_nil, id_eq, scalD, borE, wipeE, noOwn, sz_0, szl_0, sz_1, szl_1, sz_2, szl_2, sz_3, szl_3, sz_4, szl_4, sz_5, szl_5, sz_6, szl_6, sz_7, szl_7, sz_8, szl_8, sz_9, szl_9, sz_10, szl_10, sz_11, szl_11, sz_12, szl_12, sz_13, szl_13, sz_14, szl_14, sz_15, szl_15, sz_16, szl_16, sz_17, szl_17, sz_18, szl_18, sz_19, szl_19, sz_20, szl_20, sz_21, szl_21, sz_22, szl_22, sz_23, szl_23, sz_24, szl_24, sz_25, szl_25, sz_26, szl_26, sz_27, szl_27, sz_28, szl_28, sz_29, szl_29, sz_30, szl_30, sz_31, szl_31, sz_32, szl_32, frz, List.all_cons, List.all_nil, ↓w_forN, ↓w_forC, rangeD_3, sum3, h1, h2, h3, h4, h5, h6, h7, h8, h9, g1, g2, g3, g4, g5, g6, g7, g8, g9, s0, s1, s2, s3]
  rw [s]
  rfl
end AF

namespace AF
open PySem PySem.Spec PyProof.Rows L2
/-! ### maps as lists of nine -/
theorem nine {ns : List Int} (h : ns.length = 9) : ∃ a b c d e f g h i, ns = [a, b, c, d, e, f, g, h, i] := by
  match ns, h with
  | [a, b, c, d, e, f, g, h, i], _ => exact ⟨a, b, c, d, e, f, g, h, i, rfl⟩
def cofL (a b c d e f g h i : Int) : List Int := [e * i - f * h, c * h - b * i, b * f - c * e, f * g - d * i, a * i - c * g, c * d - a * f, d * h - e * g, b * g - a * h, a * e - b * d]
def TH (ms ns : List Int) : List Int := match ms, ns with
  | [a, b, c, d, e, f, g, h, i], [A, B, C, D', E, F, G, H, I] => thenL a b c d e f g h i A B C D' E F G H I
  | _, _ => []
def ME (ms : List Int) : Int := match ms with
  | [a, b, c, d, e, f, g, h, i] => meas a b c d e f g h i
  | _ => 0
def CO (ms : List Int) : List Int := match ms with
  | [a, b, c, d, e, f, g, h, i] => cofL a b c d e f g h i
  | _ => []
def BK (ms : List Int) : List Int := if ME ms < 0 then (CO ms).map (-1 * ·) else CO ms
/-- entries below 2^k -/
def Lt (k : Nat) (ms : List Int) : Prop := ms.length = 9 ∧ ∀ n ∈ ms, n.natAbs < 2 ^ k
theorem Lt.up {k m : Nat} {ms : List Int} (h : Lt k ms) (hk : k ≤ m) : Lt m ms := ⟨h.1, fun n hn => lt_up (h.2 n hn) hk⟩
theorem prim_le {ns : List Int} {B : Nat} (h : ∀ n ∈ ns, n.natAbs < B) : ∀ n ∈ prim ns, n.natAbs < B := by
  intro n hn
  unfold prim at hn
  split at hn
  · rename_i hg
    obtain ⟨m, hm, rfl⟩ := List.mem_map.mp hn
    obtain ⟨c, hc⟩ := gcdL_dvd hm
    refine Nat.lt_of_le_of_lt ?_ (h m hm)
    generalize hgg : gcdL ns = g at *
    rw [hc, Int.mul_fdiv_cancel_left _ (by omega), Int.natAbs_mul, Int.natAbs_natCast]
    exact Nat.le_mul_of_pos_left _ hg
  · exact h n hn
theorem Lt.prim {k : Nat} {ms : List Int} (h : Lt k ms) : Lt k (prim ms) := ⟨by rw [prim_len]; exact h.1, prim_le h.2⟩
theorem dot3_lt {x y z X Y Z : Int} {k m : Nat} (h1 : x.natAbs < 2 ^ k) (h2 : y.natAbs < 2 ^ k) (h3 : z.natAbs < 2 ^ k) (g1 : X.natAbs < 2 ^ m) (g2 : Y.natAbs < 2 ^ m) (g3 : Z.natAbs < 2 ^ m) : (x * X + y * Y + z * Z).natAbs < 2 ^ (k + m + 2) := by
  have a1 := mul_lt h1 g1
  have a2 := mul_lt h2 g2
  have a3 := mul_lt h3 g3
  have := Int.natAbs_add_le (x * X + y * Y) (z * Z)
  have := Int.natAbs_add_le (x * X) (y * Y)
  rw [Nat.pow_add 2 (k + m) 2]
  omega
theorem TH_lt {k m : Nat} {ms ns : List Int} (h : Lt k ms) (g : Lt m ns) : Lt (m + k + 2) (TH ms ns) := by
  obtain ⟨h1, h2⟩ := h
  obtain ⟨g1, g2⟩ := g
  obtain ⟨a, b, c, d, e, f, g, h, i, rfl⟩ := nine h1
  obtain ⟨A, B, C, D', E, F, G, H, I, rfl⟩ := nine g1
  simp only [List.mem_cons, List.not_mem_nil, or_false, forall_eq_or_imp, forall_eq] at h2 g2
  obtain ⟨x1, x2, x3, x4, x5, x6, x7, x8, x9⟩ := h2
  obtain ⟨y1, y2, y3, y4, y5, y6, y7, y8, y9⟩ := g2
  refine ⟨rfl, ?_⟩
  show ∀ n ∈ thenL a b c d e f g h i A B C D' E F G H I, _
  simp only [thenL, List.mem_cons, List.not_mem_nil, or_false, forall_eq_or_imp, forall_eq]
  refine ⟨?_, ?_, ?_, ?_, ?_, ?_, ?_, ?_, ?_⟩ <;> (refine dot3_lt ?_ ?_ ?_ ?_ ?_ ?_ <;> assumption)
theorem CO_lt {k : Nat} {ms : List Int} (h : Lt k ms) : Lt (k + k + 1) (CO ms) := by
  obtain ⟨h1, h2⟩ := h
  obtain ⟨a, b, c, d, e, f, g, h, i, rfl⟩ := nine h1
  simp only [List.mem_cons, List.not_mem_nil, or_false, forall_eq_or_imp, forall_eq] at h2
  obtain ⟨x1, x2, x3, x4, x5, x6, x7, x8, x9⟩ := h2
  refine ⟨rfl, ?_⟩
  show ∀ n ∈ cofL a b c d e f g h i, _
  simp only [cofL, List.mem_cons, List.not_mem_nil, or_false, forall_eq_or_imp, forall_eq]
  refine ⟨?_, ?_, ?_, ?_, ?_, ?_, ?_, ?_, ?_⟩ <;> (refine minor ?_ ?_ ?_ ?_ <;> assumption)
theorem BK_lt {k : Nat} {ms : List Int} (h : Lt k ms) : Lt (k + k + 1) (BK ms) := by
  have c := CO_lt h
  unfold BK
  split
  · refine ⟨by rw [List.length_map]; exact c.1, fun n hn => ?_⟩
    obtain ⟨m, hm, rfl⟩ := List.mem_map.mp hn
    rw [show -1 * m = -m from by omega, Int.natAbs_neg]
    exact c.2 m hm
  · exact c
theorem then_ok {ms ns : List Int} (h : Lt 200 ms) (g : Lt 200 ns) : m_first_then [.tup (iD ms), .tup (iD ns)] = .ok (.tup (iD (prim (TH ms ns)))) ∧ m__law_then [.tup (iD ms), .tup (iD ns)] = .ok (.tup (iD (prim (TH ms ns)))) := by
  have bb := TH_lt h g
  obtain ⟨h1, h2⟩ := h
  obtain ⟨g1, g2⟩ := g
  obtain ⟨a, b, c, d, e, f, g, h, i, rfl⟩ := nine h1
  obtain ⟨A, B, C, D', E, F, G, H, I, rfl⟩ := nine g1
  have hs : ∀ x ∈ [a, b, c, d, e, f, g, h, i, A, B, C, D', E, F, G, H, I], Sm x := fun x hx => by
    rcases List.mem_append.mp (show x ∈ [a, b, c, d, e, f, g, h, i] ++ [A, B, C, D', E, F, G, H, I] from hx) with q | q
    · exact sm_of (lt_up (h2 x q) (by decide))
    · exact sm_of (lt_up (g2 x q) (by decide))
  have hb : ∀ n ∈ thenL a b c d e f g h i A B C D' E F G H I, n.natAbs < 2 ^ 900 := fun n hn => lt_up (bb.2 n hn) (by decide)
  exact ⟨then_prog hs hb, then_law hs hb⟩
theorem meas_ok {ms : List Int} (h : Lt 200 ms) : m_measure [.tup (iD ms)] = .ok (.int (ME ms)) ∧ m__law_measure [.tup (iD ms)] = .ok (.int (ME ms)) ∧ m__law_measure [.lst (iD ms)] = .ok (.int (ME ms)) := by
  obtain ⟨h1, h2⟩ := h
  obtain ⟨a, b, c, d, e, f, g, h, i, rfl⟩ := nine h1
  simp only [List.mem_cons, List.not_mem_nil, or_false, forall_eq_or_imp, forall_eq] at h2
  obtain ⟨x1, x2, x3, x4, x5, x6, x7, x8, x9⟩ := h2
  have U : ∀ {w : Int}, w.natAbs < 2 ^ 200 → w.natAbs < 2 ^ 900 := fun h => lt_up h (by decide)
  have S : ∀ {x : Int}, x.natAbs < 2 ^ 200 → Sm x := fun h => sm_of (lt_up h (by decide))
  have M : ∀ {x y z w : Int}, x.natAbs < 2 ^ 200 → y.natAbs < 2 ^ 200 → z.natAbs < 2 ^ 200 → w.natAbs < 2 ^ 200 → Sm (x * y - z * w) := fun h1 h2 h3 h4 => sm_of (lt_up (minor h1 h2 h3 h4) (by decide))
  refine ⟨(measure_ok (U x1) (U x2) (U x3) (U x4) (U x5) (U x6) (U x7) (U x8) (U x9)).1, ?_, ?_⟩
  · apply wR_eq
    simp only [iD, List.map_cons, List.map_nil, m__law_measure, g__law_measure, ↓w_pin0, ↓w_lent0, ↓w_sPin, ↓w_sLend, ↓w_sAppP, pinE, pin1, dropE, drop1, lendE, lentOk, ↓w_sRaise1, ↓one1_one, ↓w_sTryF, ↓w_sExt, ↓o_any2L, ↓o_any2T, ↓w_lRet, ↓w_lSeq, ↓w_runFL, ↓w_lCallF, ↓w_lRep, ↓o_repL, ↓w_iRevG, ↓o_revIL, ↓o_revIT, ↓o_plusT, ↓o_plusS, ↓o_repS, ↓o_enumL, ↓o_enumT, ↓w_lComp2, ↓w_capL, ↓w_comp2N, ↓w_comp2C, enumD_nil, enumD_cons, fldOf, Er.cls, ↓wR_ok, ↓wR_err, ↓wR_bind, ↓wR_of, ↓wO_some, ↓wO_map, ↓wO_bind, ↓w_var0, ↓w_varS, ↓w_eC, ↓w_e1, ↓w_l1, ↓w_e2, ↓w_l2, ↓w_b1, ↓w_b2, ↓w_eB, ↓w_eF, ↓w_lF, ↓w_eCall, ↓w_eLst, ↓w_aNil, ↓w_aCons, ↓w_eTup, ↓w_lDisp, ↓w_eIf, ↓w_bAnd, ↓w_bOr, ↓w_bNot, ↓w_bYes, ↓w_bChain, ↓w_eAnd, ↓w_eOr, ↓w_iAny, ↓w_oNone, ↓w_oSomeC, ↓w_eSl, ↓w_lSlG, ↓w_lComp, ↓w_sSeq, ↓w_sNil, ↓w_sBreak, ↓w_sCont, ↓w_sSet, ↓w_sSetL, ↓w_sExpr, ↓w_sRet, ↓w_sRetN, ↓w_sIf, ↓w_own0, ↓w_ownS, ↓w_sRetO, ↓w_sApp, ↓w_sSetIx, ↓w_sFrz, ↓w_sThen, ↓w_sRaise, ↓w_sAsg, ↓w_sFor, ↓w_sTry, ↓t_name, ↓t_nil, ↓t_cons, ↓o_plus, ↓o_plusL, ↓o_lAdd, ↓o_sub, ↓o_neg, ↓o_mul, ↓o_fdiv, ↓o_mod, ↓o_pow, ↓o_lt, ↓o_le, ↓o_gt, ↓o_ge, ↓o_eq, ↓o_ne, ↓o_truthB, ↓o_truthI, ↓o_truthN, ↓o_truthL, ↓o_truthT, ↓o_truthS, ↓o_notB, ↓o_isNN, ↓o_isBT, ↓o_isBF, ↓o_isT, ↓o_isIB, ↓o_isSB, ↓o_isLB, ↓o_isTB, ↓o_isNB, ↓o_isNot, ↓o_lenL, ↓o_lenT, ↓o_lenS, ↓o_abs, ↓o_intI, ↓o_intB, ↓o_str, ↓o_gcd, ↓o_list, ↓o_listT, ↓o_tuple, ↓o_tupleT, ↓o_rev, ↓o_type, ↓o_isi, ↓o_isi2, ↓o_rg1, ↓o_rg2, ↓o_zip, ↓o_zipT, ↓o_itemsL, ↓o_itemsT, ↓o_ixL, ↓o_ixT, ↓o_at0, ↓o_at1, ↓o_at2, ↓o_at3, ↓o_at4, ↓o_at5, ↓o_at6, ↓o_at7, ↓o_at8, ↓o_at9, ↓o_at10, ↓o_at11, ↓o_at12, ↓o_at13, ↓o_at14, ↓o_at15, ↓w_eIxO, ↓t_tup1, ↓t_tup2, ↓t_tup3, ↓w_okOnly, ↓w_compN, ↓w_compC, ↓o_all, ↓o_any, ↓bls_nil, ↓bls_cons, ↓o_minL, ↓o_maxL, ↓o_sumL, ↓ints_nil, ↓ints_cons, ↓o_min3, ↓o_max3, ↓o_slL, ↓o_slT, ↓w_eBor, ↓w_bBor, o_isN, w_runF, tyName, isSubTy, tyNames, List.getElem?_cons_zero, List.getElem?_cons_succ, List.set_cons_zero, List.set_cons_succ, List.map_cons, List.map_nil, List.replicate_succ, List.replicate_zero, List.length_cons, List.length_nil, List.cons_append, List.nil_append, Nat.reduceAdd, Nat.reduceSub, Nat.reduceLeDiff, Nat.reduceEqDiff, ↓reduceIte, if_true, if_false, Bool.not_true, Bool.not_false, Bool.true_and, Bool.and_true, Bool.false_and, Bool.and_false, Bool.true_or, Bool.false_or, Bool.or_true, Bool.or_false, reduceCtorEq, decide_true, decide_false, beq_self_eq_true, List.mem_cons, true_or, or_true, true_and, and_true, false_and, and_false, or_false, false_or, String.reduceEq, String.reduceBEq, List.not_mem_nil, Bool.not_eq_true, Bool.false_eq_true, eq_self, not_true_eq_false, not_false_eq_true, Bool.not_eq_eq_eq_not, decide_eq_true_eq, decide_eq_false_iff_not, bne_iff_ne, ne_eq, Int.reduceLT, Int.reduceLE, Int.reduceMul, Int.reduceAdd, Int.reduceNeg, Int.reduceToNat, Int.reducePow, Nat.reduceLT, Int.reduceEq, Int.reduceSub, zipD, List.zipWith_cons_cons, List.zipWith_nil_left, List.zipWith_nil_right, List.all_cons, List.all_nil, id_eq, scalD, borE, wipeE, noOwn, sz_0, szl_0, sz_1, szl_1, sz_2, szl_2, sz_3, szl_3, sz_4, szl_4, sz_5, szl_5, sz_6, szl_6, sz_7, szl_7, sz_8, szl_8, sz_9, szl_9, sz_10, szl_10, sz_11, szl_11, sz_12, szl_12, sz_13, szl_13, sz_14, szl_14, sz_15, szl_15, sz_16, szl_16, sz_17, szl_17, sz_18, szl_18, sz_19, szl_19, sz_20, szl_20, sz_21, szl_21, sz_22, szl_22, sz_23, szl_23, sz_24, szl_24, sz_25, szl_25, sz_26, szl_26, sz_27, szl_27, sz_28, szl_28, sz_29, szl_29, sz_30, szl_30, sz_31, szl_31, sz_32, szl_32, frz, List.all_cons, List.all_nil, S x1, S x2, S x3, S x4, S x5, S x6, S x7, S x8, S x9, M x5 x9 x6 x8, M x4 x9 x6 x7, M x4 x8 x5 x7]
    rfl
  · apply wR_eq
    simp only [iD, List.map_cons, List.map_nil, m__law_measure, g__law_measure, ↓w_pin0, ↓w_lent0, ↓w_sPin, ↓w_sLend, ↓w_sAppP, pinE, pin1, dropE, drop1, lendE, lentOk, ↓w_sRaise1, ↓one1_one, ↓w_sTryF, ↓w_sExt, ↓o_any2L, ↓o_any2T, ↓w_lRet, ↓w_lSeq, ↓w_runFL, ↓w_lCallF, ↓w_lRep, ↓o_repL, ↓w_iRevG, ↓o_revIL, ↓o_revIT, ↓o_plusT, ↓o_plusS, ↓o_repS, ↓o_enumL, ↓o_enumT, ↓w_lComp2, ↓w_capL, ↓w_comp2N, ↓w_comp2C, enumD_nil, enumD_cons, fldOf, Er.cls, ↓wR_ok, ↓wR_err, ↓wR_bind, ↓wR_of, ↓wO_some, ↓wO_map, ↓wO_bind, ↓w_var0, ↓w_varS, ↓w_eC, ↓w_e1, ↓w_l1, ↓w_e2, ↓w_l2, ↓w_b1, ↓w_b2, ↓w_eB, ↓w_eF, ↓w_lF, ↓w_eCall, ↓w_eLst, ↓w_aNil, ↓w_aCons, ↓w_eTup, ↓w_lDisp, ↓w_eIf, ↓w_bAnd, ↓w_bOr, ↓w_bNot, ↓w_bYes, ↓w_bChain, ↓w_eAnd, ↓w_eOr, ↓w_iAny, ↓w_oNone, ↓w_oSomeC, ↓w_eSl, ↓w_lSlG, ↓w_lComp, ↓w_sSeq, ↓w_sNil, ↓w_sBreak, ↓w_sCont, ↓w_sSet, ↓w_sSetL, ↓w_sExpr, ↓w_sRet, ↓w_sRetN, ↓w_sIf, ↓w_own0, ↓w_ownS, ↓w_sRetO, ↓w_sApp, ↓w_sSetIx, ↓w_sFrz, ↓w_sThen, ↓w_sRaise, ↓w_sAsg, ↓w_sFor, ↓w_sTry, ↓t_name, ↓t_nil, ↓t_cons, ↓o_plus, ↓o_plusL, ↓o_lAdd, ↓o_sub, ↓o_neg, ↓o_mul, ↓o_fdiv, ↓o_mod, ↓o_pow, ↓o_lt, ↓o_le, ↓o_gt, ↓o_ge, ↓o_eq, ↓o_ne, ↓o_truthB, ↓o_truthI, ↓o_truthN, ↓o_truthL, ↓o_truthT, ↓o_truthS, ↓o_notB, ↓o_isNN, ↓o_isBT, ↓o_isBF, ↓o_isT, ↓o_isIB, ↓o_isSB, ↓o_isLB, ↓o_isTB, ↓o_isNB, ↓o_isNot, ↓o_lenL, ↓o_lenT, ↓o_lenS, ↓o_abs, ↓o_intI, ↓o_intB, ↓o_str, ↓o_gcd, ↓o_list, ↓o_listT, ↓o_tuple, ↓o_tupleT, ↓o_rev, ↓o_type, ↓o_isi, ↓o_isi2, ↓o_rg1, ↓o_rg2, ↓o_zip, ↓o_zipT, ↓o_itemsL, ↓o_itemsT, ↓o_ixL, ↓o_ixT, ↓o_at0, ↓o_at1, ↓o_at2, ↓o_at3, ↓o_at4, ↓o_at5, ↓o_at6, ↓o_at7, ↓o_at8, ↓o_at9, ↓o_at10, ↓o_at11, ↓o_at12, ↓o_at13, ↓o_at14, ↓o_at15, ↓w_eIxO, ↓t_tup1, ↓t_tup2, ↓t_tup3, ↓w_okOnly, ↓w_compN, ↓w_compC, ↓o_all, ↓o_any, ↓bls_nil, ↓bls_cons, ↓o_minL, ↓o_maxL, ↓o_sumL, ↓ints_nil, ↓ints_cons, ↓o_min3, ↓o_max3, ↓o_slL, ↓o_slT, ↓w_eBor, ↓w_bBor, o_isN, w_runF, tyName, isSubTy, tyNames, List.getElem?_cons_zero, List.getElem?_cons_succ, List.set_cons_zero, List.set_cons_succ, List.map_cons, List.map_nil, List.replicate_succ, List.replicate_zero, List.length_cons, List.length_nil, List.cons_append, List.nil_append, Nat.reduceAdd, Nat.reduceSub, Nat.reduceLeDiff, Nat.reduceEqDiff, ↓reduceIte, if_true, if_false, Bool.not_true, Bool.not_false, Bool.true_and, Bool.and_true, Bool.false_and, Bool.and_false, Bool.true_or, Bool.false_or, Bool.or_true, Bool.or_false, reduceCtorEq, decide_true, decide_false, beq_self_eq_true, List.mem_cons, true_or, or_true, true_and, and_true, false_and, and_false, or_false, false_or, String.reduceEq, String.reduceBEq, List.not_mem_nil, Bool.not_eq_true, Bool.false_eq_true, eq_self, not_true_eq_false, not_false_eq_true, Bool.not_eq_eq_eq_not, decide_eq_true_eq, decide_eq_false_iff_not, bne_iff_ne, ne_eq, Int.reduceLT, Int.reduceLE, Int.reduceMul, Int.reduceAdd, Int.reduceNeg, Int.reduceToNat, Int.reducePow, Nat.reduceLT, Int.reduceEq, Int.reduceSub, zipD, List.zipWith_cons_cons, List.zipWith_nil_left, List.zipWith_nil_right, List.all_cons, List.all_nil, id_eq, scalD, borE, wipeE, noOwn, sz_0, szl_0, sz_1, szl_1, sz_2, szl_2, sz_3, szl_3, sz_4, szl_4, sz_5, szl_5, sz_6, szl_6, sz_7, szl_7, sz_8, szl_8, sz_9, szl_9, sz_10, szl_10, sz_11, szl_11, sz_12, szl_12, sz_13, szl_13, sz_14, szl_14, sz_15, szl_15, sz_16, szl_16, sz_17, szl_17, sz_18, szl_18, sz_19, szl_19, sz_20, szl_20, sz_21, szl_21, sz_22, szl_22, sz_23, szl_23, sz_24, szl_24, sz_25, szl_25, sz_26, szl_26, sz_27, szl_27, sz_28, szl_28, sz_29, szl_29, sz_30, szl_30, sz_31, szl_31, sz_32, szl_32, frz, List.all_cons, List.all_nil, S x1, S x2, S x3, S x4, S x5, S x6, S x7, S x8, S x9, M x5 x9 x6 x8, M x4 x9 x6 x7, M x4 x8 x5 x7]
    rfl
theorem back_ok {ms : List Int} (h : Lt 200 ms) : m_back_map [.tup (iD ms)] = .ok (.tup (iD (prim (BK ms)))) ∧ m__law_back [.tup (iD ms)] = .ok (.tup (iD (prim (BK ms)))) := by
  have hb := BK_lt h
  have lo := plowest_ok (BK ms) (fun n hn => lt_up (hb.2 n hn) (by decide)) (by rw [hb.1]; decide)
  have so := short_ok (BK ms) (fun n hn => lt_up (hb.2 n hn) (by decide)) (by rw [hb.1]; decide)
  obtain ⟨me1, me2, _⟩ := meas_ok h
  have eB : BK ms = if ME ms < 0 then (CO ms).map (-1 * ·) else CO ms := rfl
  obtain ⟨h1, h2⟩ := h
  obtain ⟨a, b, c, d, e, f, g, h, i, rfl⟩ := nine h1
  simp only [List.mem_cons, List.not_mem_nil, or_false, forall_eq_or_imp, forall_eq] at h2
  obtain ⟨x1, x2, x3, x4, x5, x6, x7, x8, x9⟩ := h2
  have S : ∀ {x : Int}, x.natAbs < 2 ^ 200 → Sm x := fun h => sm_of (lt_up h (by decide))
  have co : m_cofactors [.tup (iD [a, b, c, d, e, f, g, h, i])] = .ok (.tup (iD (cofL a b c d e f g h i))) := by
    apply wR_eq
    simp only [iD, List.map_cons, List.map_nil, m_cofactors, g_cofactors, ↓w_pin0, ↓w_lent0, ↓w_sPin, ↓w_sLend, ↓w_sAppP, pinE, pin1, dropE, drop1, lendE, lentOk, ↓w_sRaise1, ↓one1_one, ↓w_sTryF, ↓w_sExt, ↓o_any2L, ↓o_any2T, ↓w_lRet, ↓w_lSeq, ↓w_runFL, ↓w_lCallF, ↓w_lRep, ↓o_repL, ↓w_iRevG, ↓o_revIL, ↓o_revIT, ↓o_plusT, ↓o_plusS, ↓o_repS, ↓o_enumL, ↓o_enumT, ↓w_lComp2, ↓w_capL, ↓w_comp2N, ↓w_comp2C, enumD_nil, enumD_cons, fldOf, Er.cls, ↓wR_ok, ↓wR_err, ↓wR_bind, ↓wR_of, ↓wO_some, ↓wO_map, ↓wO_bind, ↓w_var0, ↓w_varS, ↓w_eC, ↓w_e1, ↓w_l1, ↓w_e2, ↓w_l2, ↓w_b1, ↓w_b2, ↓w_eB, ↓w_eF, ↓w_lF, ↓w_eCall, ↓w_eLst, ↓w_aNil, ↓w_aCons, ↓w_eTup, ↓w_lDisp, ↓w_eIf, ↓w_bAnd, ↓w_bOr, ↓w_bNot, ↓w_bYes, ↓w_bChain, ↓w_eAnd, ↓w_eOr, ↓w_iAny, ↓w_oNone, ↓w_oSomeC, ↓w_eSl, ↓w_lSlG, ↓w_lComp, ↓w_sSeq, ↓w_sNil, ↓w_sBreak, ↓w_sCont, ↓w_sSet, ↓w_sSetL, ↓w_sExpr, ↓w_sRet, ↓w_sRetN, ↓w_sIf, ↓w_own0, ↓w_ownS, ↓w_sRetO, ↓w_sApp, ↓w_sSetIx, ↓w_sFrz, ↓w_sThen, ↓w_sRaise, ↓w_sAsg, ↓w_sFor, ↓w_sTry, ↓t_name, ↓t_nil, ↓t_cons, ↓o_plus, ↓o_plusL, ↓o_lAdd, ↓o_sub, ↓o_neg, ↓o_mul, ↓o_fdiv, ↓o_mod, ↓o_pow, ↓o_lt, ↓o_le, ↓o_gt, ↓o_ge, ↓o_eq, ↓o_ne, ↓o_truthB, ↓o_truthI, ↓o_truthN, ↓o_truthL, ↓o_truthT, ↓o_truthS, ↓o_notB, ↓o_isNN, ↓o_isBT, ↓o_isBF, ↓o_isT, ↓o_isIB, ↓o_isSB, ↓o_isLB, ↓o_isTB, ↓o_isNB, ↓o_isNot, ↓o_lenL, ↓o_lenT, ↓o_lenS, ↓o_abs, ↓o_intI, ↓o_intB, ↓o_str, ↓o_gcd, ↓o_list, ↓o_listT, ↓o_tuple, ↓o_tupleT, ↓o_rev, ↓o_type, ↓o_isi, ↓o_isi2, ↓o_rg1, ↓o_rg2, ↓o_zip, ↓o_zipT, ↓o_itemsL, ↓o_itemsT, ↓o_ixL, ↓o_ixT, ↓o_at0, ↓o_at1, ↓o_at2, ↓o_at3, ↓o_at4, ↓o_at5, ↓o_at6, ↓o_at7, ↓o_at8, ↓o_at9, ↓o_at10, ↓o_at11, ↓o_at12, ↓o_at13, ↓o_at14, ↓o_at15, ↓w_eIxO, ↓t_tup1, ↓t_tup2, ↓t_tup3, ↓w_okOnly, ↓w_compN, ↓w_compC, ↓o_all, ↓o_any, ↓bls_nil, ↓bls_cons, ↓o_minL, ↓o_maxL, ↓o_sumL, ↓ints_nil, ↓ints_cons, ↓o_min3, ↓o_max3, ↓o_slL, ↓o_slT, ↓w_eBor, ↓w_bBor, o_isN, w_runF, tyName, isSubTy, tyNames, List.getElem?_cons_zero, List.getElem?_cons_succ, List.set_cons_zero, List.set_cons_succ, List.map_cons, List.map_nil, List.replicate_succ, List.replicate_zero, List.length_cons, List.length_nil, List.cons_append, List.nil_append, Nat.reduceAdd, Nat.reduceSub, Nat.reduceLeDiff, Nat.reduceEqDiff, ↓reduceIte, if_true, if_false, Bool.not_true, Bool.not_false, Bool.true_and, Bool.and_true, Bool.false_and, Bool.and_false, Bool.true_or, Bool.false_or, Bool.or_true, Bool.or_false, reduceCtorEq, decide_true, decide_false, beq_self_eq_true, List.mem_cons, true_or, or_true, true_and, and_true, false_and, and_false, or_false, false_or, String.reduceEq, String.reduceBEq, List.not_mem_nil, Bool.not_eq_true, Bool.false_eq_true, eq_self, not_true_eq_false, not_false_eq_true, Bool.not_eq_eq_eq_not, decide_eq_true_eq, decide_eq_false_iff_not, bne_iff_ne, ne_eq, Int.reduceLT, Int.reduceLE, Int.reduceMul, Int.reduceAdd, Int.reduceNeg, Int.reduceToNat, Int.reducePow, Nat.reduceLT, Int.reduceEq, Int.reduceSub, zipD, List.zipWith_cons_cons, List.zipWith_nil_left, List.zipWith_nil_right, List.all_cons, List.all_nil, id_eq, scalD, borE, wipeE, noOwn, sz_0, szl_0, sz_1, szl_1, sz_2, szl_2, sz_3, szl_3, sz_4, szl_4, sz_5, szl_5, sz_6, szl_6, sz_7, szl_7, sz_8, szl_8, sz_9, szl_9, sz_10, szl_10, sz_11, szl_11, sz_12, szl_12, sz_13, szl_13, sz_14, szl_14, sz_15, szl_15, sz_16, szl_16, sz_17, szl_17, sz_18, szl_18, sz_19, szl_19, sz_20, szl_20, sz_21, szl_21, sz_22, szl_22, sz_23, szl_23, sz_24, szl_24, sz_25, szl_25, sz_26, szl_26, sz_27, szl_27, sz_28, szl_28, sz_29, szl_29, sz_30, szl_30, sz_31, szl_31, sz_32, szl_32, frz, List.all_cons, List.all_nil, ↓t_nineT, S x1, S x2, S x3, S x4, S x5, S x6, S x7, S x8, S x9]
    rfl
  have ng : ∀ x : Int, -1 * x = -x := fun x => by omega
  by_cases hm : ME [a, b, c, d, e, f, g, h, i] < 0
  · rw [if_pos hm] at eB
    have hm' : (ME [a, b, c, d, e, f, g, h, i] < 0) = True := eq_true hm
    have e2 : BK [a, b, c, d, e, f, g, h, i] = (cofL a b c d e f g h i).map (-1 * ·) := eB
    rw [e2] at lo so ⊢
    simp only [cofL, iD, List.map_cons, List.map_nil, ng] at lo so co me1 me2 ⊢
    constructor
    · apply wR_eq
      simp only [m_back_map, g_back_map, ↓w_pin0, ↓w_lent0, ↓w_sPin, ↓w_sLend, ↓w_sAppP, pinE, pin1, dropE, drop1, lendE, lentOk, ↓w_sRaise1, ↓one1_one, ↓w_sTryF, ↓w_sExt, ↓o_any2L, ↓o_any2T, ↓w_lRet, ↓w_lSeq, ↓w_runFL, ↓w_lCallF, ↓w_lRep, ↓o_repL, ↓w_iRevG, ↓o_revIL, ↓o_revIT, ↓o_plusT, ↓o_plusS, ↓o_repS, ↓o_enumL, ↓o_enumT, ↓w_lComp2, ↓w_capL, ↓w_comp2N, ↓w_comp2C, enumD_nil, enumD_cons, fldOf, Er.cls, ↓wR_ok, ↓wR_err, ↓wR_bind, ↓wR_of, ↓wO_some, ↓wO_map, ↓wO_bind, ↓w_var0, ↓w_varS, ↓w_eC, ↓w_e1, ↓w_l1, ↓w_e2, ↓w_l2, ↓w_b1, ↓w_b2, ↓w_eB, ↓w_eF, ↓w_lF, ↓w_eCall, ↓w_eLst, ↓w_aNil, ↓w_aCons, ↓w_eTup, ↓w_lDisp, ↓w_eIf, ↓w_bAnd, ↓w_bOr, ↓w_bNot, ↓w_bYes, ↓w_bChain, ↓w_eAnd, ↓w_eOr, ↓w_iAny, ↓w_oNone, ↓w_oSomeC, ↓w_eSl, ↓w_lSlG, ↓w_lComp, ↓w_sSeq, ↓w_sNil, ↓w_sBreak, ↓w_sCont, ↓w_sSet, ↓w_sSetL, ↓w_sExpr, ↓w_sRet, ↓w_sRetN, ↓w_sIf, ↓w_own0, ↓w_ownS, ↓w_sRetO, ↓w_sApp, ↓w_sSetIx, ↓w_sFrz, ↓w_sThen, ↓w_sRaise, ↓w_sAsg, ↓w_sFor, ↓w_sTry, ↓t_name, ↓t_nil, ↓t_cons, ↓o_plus, ↓o_plusL, ↓o_lAdd, ↓o_sub, ↓o_neg, ↓o_mul, ↓o_fdiv, ↓o_mod, ↓o_pow, ↓o_lt, ↓o_le, ↓o_gt, ↓o_ge, ↓o_eq, ↓o_ne, ↓o_truthB, ↓o_truthI, ↓o_truthN, ↓o_truthL, ↓o_truthT, ↓o_truthS, ↓o_notB, ↓o_isNN, ↓o_isBT, ↓o_isBF, ↓o_isT, ↓o_isIB, ↓o_isSB, ↓o_isLB, ↓o_isTB, ↓o_isNB, ↓o_isNot, ↓o_lenL, ↓o_lenT, ↓o_lenS, ↓o_abs, ↓o_intI, ↓o_intB, ↓o_str, ↓o_gcd, ↓o_list, ↓o_listT, ↓o_tuple, ↓o_tupleT, ↓o_rev, ↓o_type, ↓o_isi, ↓o_isi2, ↓o_rg1, ↓o_rg2, ↓o_zip, ↓o_zipT, ↓o_itemsL, ↓o_itemsT, ↓o_ixL, ↓o_ixT, ↓o_at0, ↓o_at1, ↓o_at2, ↓o_at3, ↓o_at4, ↓o_at5, ↓o_at6, ↓o_at7, ↓o_at8, ↓o_at9, ↓o_at10, ↓o_at11, ↓o_at12, ↓o_at13, ↓o_at14, ↓o_at15, ↓w_eIxO, ↓t_tup1, ↓t_tup2, ↓t_tup3, ↓w_okOnly, ↓w_compN, ↓w_compC, ↓o_all, ↓o_any, ↓bls_nil, ↓bls_cons, ↓o_minL, ↓o_maxL, ↓o_sumL, ↓ints_nil, ↓ints_cons, ↓o_min3, ↓o_max3, ↓o_slL, ↓o_slT, ↓w_eBor, ↓w_bBor, o_isN, w_runF, tyName, isSubTy, tyNames, List.getElem?_cons_zero, List.getElem?_cons_succ, List.set_cons_zero, List.set_cons_succ, List.map_cons, List.map_nil, List.replicate_succ, List.replicate_zero, List.length_cons, List.length_nil, List.cons_append, List.nil_append, Nat.reduceAdd, Nat.reduceSub, Nat.reduceLeDiff, Nat.reduceEqDiff, ↓reduceIte, if_true, if_false, Bool.not_true, Bool.not_false, Bool.true_and, Bool.and_true, Bool.false_and, Bool.and_false, Bool.true_or, Bool.false_or, Bool.or_true, Bool.or_false, reduceCtorEq, decide_true, decide_false, beq_self_eq_true, List.mem_cons, true_or, or_true, true_and, and_true, false_and, and_false, or_false, false_or, String.reduceEq, String.reduceBEq, List.not_mem_nil, Bool.not_eq_true, Bool.false_eq_true, eq_self, not_true_eq_false, not_false_eq_true, Bool.not_eq_eq_eq_not, decide_eq_true_eq, decide_eq_false_iff_not, bne_iff_ne, ne_eq, Int.reduceLT, Int.reduceLE, Int.reduceMul, Int.reduceAdd, Int.reduceNeg, Int.reduceToNat, Int.reducePow, Nat.reduceLT, Int.reduceEq, Int.reduceSub, zipD, List.zipWith_cons_cons, List.zipWith_nil_left, List.zipWith_nil_right, List.all_cons, List.all_nil, id_eq, scalD, borE, wipeE, noOwn, sz_0, szl_0, sz_1, szl_1, sz_2, szl_2, sz_3, szl_3, sz_4, szl_4, sz_5, szl_5, sz_6, szl_6, sz_7, szl_7, sz_8, szl_8, sz_9, szl_9, sz_10, szl_10, sz_11, szl_11, sz_12, szl_12, sz_13, szl_13, sz_14, szl_14, sz_15, szl_15, sz_16, szl_16, sz_17, szl_17, sz_18, szl_18, sz_19, szl_19, sz_20, szl_20, sz_21, szl_21, sz_22, szl_22, sz_23, szl_23, sz_24, szl_24, sz_25, szl_25, sz_26, szl_26, sz_27, szl_27, sz_28, szl_28, sz_29, szl_29, sz_30, szl_30, sz_31, szl_31, sz_32, szl_32, frz, List.all_cons, List.all_nil, me1, co, hm']
      rw [lo.1]
      rfl
    · apply wR_eq
      simp only [m__law_back, g__law_back, ↓w_pin0, ↓w_lent0, ↓w_sPin, ↓w_sLend, ↓w_sAppP, pinE, pin1, dropE, drop1, lendE, lentOk, ↓w_sRaise1, ↓one1_one, ↓w_sTryF, ↓w_sExt, ↓o_any2L, ↓o_any2T, ↓w_lRet, ↓w_lSeq, ↓w_runFL, ↓w_lCallF, ↓w_lRep, ↓o_repL, ↓w_iRevG, ↓o_revIL, ↓o_revIT, ↓o_plusT, ↓o_plusS, ↓o_repS, ↓o_enumL, ↓o_enumT, ↓w_lComp2, ↓w_capL, ↓w_comp2N, ↓w_comp2C, enumD_nil, enumD_cons, fldOf, Er.cls, ↓wR_ok, ↓wR_err, ↓wR_bind, ↓wR_of, ↓wO_some, ↓wO_map, ↓wO_bind, ↓w_var0, ↓w_varS, ↓w_eC, ↓w_e1, ↓w_l1, ↓w_e2, ↓w_l2, ↓w_b1, ↓w_b2, ↓w_eB, ↓w_eF, ↓w_lF, ↓w_eCall, ↓w_eLst, ↓w_aNil, ↓w_aCons, ↓w_eTup, ↓w_lDisp, ↓w_eIf, ↓w_bAnd, ↓w_bOr, ↓w_bNot, ↓w_bYes, ↓w_bChain, ↓w_eAnd, ↓w_eOr, ↓w_iAny, ↓w_oNone, ↓w_oSomeC, ↓w_eSl, ↓w_lSlG, ↓w_lComp, ↓w_sSeq, ↓w_sNil, ↓w_sBreak, ↓w_sCont, ↓w_sSet, ↓w_sSetL, ↓w_sExpr, ↓w_sRet, ↓w_sRetN, ↓w_sIf, ↓w_own0, ↓w_ownS, ↓w_sRetO, ↓w_sApp, ↓w_sSetIx, ↓w_sFrz, ↓w_sThen, ↓w_sRaise, ↓w_sAsg, ↓w_sFor, ↓w_sTry, ↓t_name, ↓t_nil, ↓t_cons, ↓o_plus, ↓o_plusL, ↓o_lAdd, ↓o_sub, ↓o_neg, ↓o_mul, ↓o_fdiv, ↓o_mod, ↓o_pow, ↓o_lt, ↓o_le, ↓o_gt, ↓o_ge, ↓o_eq, ↓o_ne, ↓o_truthB, ↓o_truthI, ↓o_truthN, ↓o_truthL, ↓o_truthT, ↓o_truthS, ↓o_notB, ↓o_isNN, ↓o_isBT, ↓o_isBF, ↓o_isT, ↓o_isIB, ↓o_isSB, ↓o_isLB, ↓o_isTB, ↓o_isNB, ↓o_isNot, ↓o_lenL, ↓o_lenT, ↓o_lenS, ↓o_abs, ↓o_intI, ↓o_intB, ↓o_str, ↓o_gcd, ↓o_list, ↓o_listT, ↓o_tuple, ↓o_tupleT, ↓o_rev, ↓o_type, ↓o_isi, ↓o_isi2, ↓o_rg1, ↓o_rg2, ↓o_zip, ↓o_zipT, ↓o_itemsL, ↓o_itemsT, ↓o_ixL, ↓o_ixT, ↓o_at0, ↓o_at1, ↓o_at2, ↓o_at3, ↓o_at4, ↓o_at5, ↓o_at6, ↓o_at7, ↓o_at8, ↓o_at9, ↓o_at10, ↓o_at11, ↓o_at12, ↓o_at13, ↓o_at14, ↓o_at15, ↓w_eIxO, ↓t_tup1, ↓t_tup2, ↓t_tup3, ↓w_okOnly, ↓w_compN, ↓w_compC, ↓o_all, ↓o_any, ↓bls_nil, ↓bls_cons, ↓o_minL, ↓o_maxL, ↓o_sumL, ↓ints_nil, ↓ints_cons, ↓o_min3, ↓o_max3, ↓o_slL, ↓o_slT, ↓w_eBor, ↓w_bBor, o_isN, w_runF, tyName, isSubTy, tyNames, List.getElem?_cons_zero, List.getElem?_cons_succ, List.set_cons_zero, List.set_cons_succ, List.map_cons, List.map_nil, List.replicate_succ, List.replicate_zero, List.length_cons, List.length_nil, List.cons_append, List.nil_append, Nat.reduceAdd, Nat.reduceSub, Nat.reduceLeDiff, Nat.reduceEqDiff, ↓reduceIte, if_true, if_false, Bool.not_true, Bool.not_false, Bool.true_and, Bool.and_true, Bool.false_and, Bool.and_false, Bool.true_or, Bool.false_or, Bool.or_true, Bool.or_false, reduceCtorEq, decide_true, decide_false, beq_self_eq_true, List.mem_cons, true_or, or_true, true_and, and_true, false_and, and_false, or_false, false_or, String.reduceEq, String.reduceBEq, List.not_mem_nil, Bool.not_eq_true, Bool.false_eq_true, eq_self, not_true_eq_false, not_false_eq_true, Bool.not_eq_eq_eq_not, decide_eq_true_eq, decide_eq_false_iff_not, bne_iff_ne, ne_eq, Int.reduceLT, Int.reduceLE, Int.reduceMul, Int.reduceAdd, Int.reduceNeg, Int.reduceToNat, Int.reducePow, Nat.reduceLT, Int.reduceEq, Int.reduceSub, zipD, List.zipWith_cons_cons, List.zipWith_nil_left, List.zipWith_nil_right, List.all_cons, List.all_nil, id_eq, scalD, borE, wipeE, noOwn, sz_0, szl_0, sz_1, szl_1, sz_2, szl_2, sz_3, szl_3, sz_4, szl_4, sz_5, szl_5, sz_6, szl_6, sz_7, szl_7, sz_8, szl_8, sz_9, szl_9, sz_10, szl_10, sz_11, szl_11, sz_12, szl_12, sz_13, szl_13, sz_14, szl_14, sz_15, szl_15, sz_16, szl_16, sz_17, szl_17, sz_18, szl_18, sz_19, szl_19, sz_20, szl_20, sz_21, szl_21, sz_22, szl_22, sz_23, szl_23, sz_24, szl_24, sz_25, szl_25, sz_26, szl_26, sz_27, szl_27, sz_28, szl_28, sz_29, szl_29, sz_30, szl_30, sz_31, szl_31, sz_32, szl_32, frz, List.all_cons, List.all_nil, me2, hm', S x1, S x2, S x3, S x4, S x5, S x6, S x7, S x8, S x9]
      rw [so.2]
      rfl
  · rw [if_neg hm] at eB
    have hm' : (ME [a, b, c, d, e, f, g, h, i] < 0) = False := eq_false hm
    have e2 : BK [a, b, c, d, e, f, g, h, i] = cofL a b c d e f g h i := eB
    rw [e2] at lo so ⊢
    simp only [cofL, iD, List.map_cons, List.map_nil] at lo so co me1 me2 ⊢
    constructor
    · apply wR_eq
      simp only [m_back_map, g_back_map, ↓w_pin0, ↓w_lent0, ↓w_sPin, ↓w_sLend, ↓w_sAppP, pinE, pin1, dropE, drop1, lendE, lentOk, ↓w_sRaise1, ↓one1_one, ↓w_sTryF, ↓w_sExt, ↓o_any2L, ↓o_any2T, ↓w_lRet, ↓w_lSeq, ↓w_runFL, ↓w_lCallF, ↓w_lRep, ↓o_repL, ↓w_iRevG, ↓o_revIL, ↓o_revIT, ↓o_plusT, ↓o_plusS, ↓o_repS, ↓o_enumL, ↓o_enumT, ↓w_lComp2, ↓w_capL, ↓w_comp2N, ↓w_comp2C, enumD_nil, enumD_cons, fldOf, Er.cls, ↓wR_ok, ↓wR_err, ↓wR_bind, ↓wR_of, ↓wO_some, ↓wO_map, ↓wO_bind, ↓w_var0, ↓w_varS, ↓w_eC, ↓w_e1, ↓w_l1, ↓w_e2, ↓w_l2, ↓w_b1, ↓w_b2, ↓w_eB, ↓w_eF, ↓w_lF, ↓w_eCall, ↓w_eLst, ↓w_aNil, ↓w_aCons, ↓w_eTup, ↓w_lDisp, ↓w_eIf, ↓w_bAnd, ↓w_bOr, ↓w_bNot, ↓w_bYes, ↓w_bChain, ↓w_eAnd, ↓w_eOr, ↓w_iAny, ↓w_oNone, ↓w_oSomeC, ↓w_eSl, ↓w_lSlG, ↓w_lComp, ↓w_sSeq, ↓w_sNil, ↓w_sBreak, ↓w_sCont, ↓w_sSet, ↓w_sSetL, ↓w_sExpr, ↓w_sRet, ↓w_sRetN, ↓w_sIf, ↓w_own0, ↓w_ownS, ↓w_sRetO, ↓w_sApp, ↓w_sSetIx, ↓w_sFrz, ↓w_sThen, ↓w_sRaise, ↓w_sAsg, ↓w_sFor, ↓w_sTry, ↓t_name, ↓t_nil, ↓t_cons, ↓o_plus, ↓o_plusL, ↓o_lAdd, ↓o_sub, ↓o_neg, ↓o_mul, ↓o_fdiv, ↓o_mod, ↓o_pow, ↓o_lt, ↓o_le, ↓o_gt, ↓o_ge, ↓o_eq, ↓o_ne, ↓o_truthB, ↓o_truthI, ↓o_truthN, ↓o_truthL, ↓o_truthT, ↓o_truthS, ↓o_notB, ↓o_isNN, ↓o_isBT, ↓o_isBF, ↓o_isT, ↓o_isIB, ↓o_isSB, ↓o_isLB, ↓o_isTB, ↓o_isNB, ↓o_isNot, ↓o_lenL, ↓o_lenT, ↓o_lenS, ↓o_abs, ↓o_intI, ↓o_intB, ↓o_str, ↓o_gcd, ↓o_list, ↓o_listT, ↓o_tuple, ↓o_tupleT, ↓o_rev, ↓o_type, ↓o_isi, ↓o_isi2, ↓o_rg1, ↓o_rg2, ↓o_zip, ↓o_zipT, ↓o_itemsL, ↓o_itemsT, ↓o_ixL, ↓o_ixT, ↓o_at0, ↓o_at1, ↓o_at2, ↓o_at3, ↓o_at4, ↓o_at5, ↓o_at6, ↓o_at7, ↓o_at8, ↓o_at9, ↓o_at10, ↓o_at11, ↓o_at12, ↓o_at13, ↓o_at14, ↓o_at15, ↓w_eIxO, ↓t_tup1, ↓t_tup2, ↓t_tup3, ↓w_okOnly, ↓w_compN, ↓w_compC, ↓o_all, ↓o_any, ↓bls_nil, ↓bls_cons, ↓o_minL, ↓o_maxL, ↓o_sumL, ↓ints_nil, ↓ints_cons, ↓o_min3, ↓o_max3, ↓o_slL, ↓o_slT, ↓w_eBor, ↓w_bBor, o_isN, w_runF, tyName, isSubTy, tyNames, List.getElem?_cons_zero, List.getElem?_cons_succ, List.set_cons_zero, List.set_cons_succ, List.map_cons, List.map_nil, List.replicate_succ, List.replicate_zero, List.length_cons, List.length_nil, List.cons_append, List.nil_append, Nat.reduceAdd, Nat.reduceSub, Nat.reduceLeDiff, Nat.reduceEqDiff, ↓reduceIte, if_true, if_false, Bool.not_true, Bool.not_false, Bool.true_and, Bool.and_true, Bool.false_and, Bool.and_false, Bool.true_or, Bool.false_or, Bool.or_true, Bool.or_false, reduceCtorEq, decide_true, decide_false, beq_self_eq_true, List.mem_cons, true_or, or_true, true_and, and_true, false_and, and_false, or_false, false_or, String.reduceEq, String.reduceBEq, List.not_mem_nil, Bool.not_eq_true, Bool.false_eq_true, eq_self, not_true_eq_false, not_false_eq_true, Bool.not_eq_eq_eq_not, decide_eq_true_eq, decide_eq_false_iff_not, bne_iff_ne, ne_eq, Int.reduceLT, Int.reduceLE, Int.reduceMul, Int.reduceAdd, Int.reduceNeg, Int.reduceToNat, Int.reducePow, Nat.reduceLT, Int.reduceEq, Int.reduceSub, zipD, List.zipWith_cons_cons, List.zipWith_nil_left, List.zipWith_nil_right, List.all_cons, List.all_nil, id_eq, scalD, borE, wipeE, noOwn, sz_0, szl_0, sz_1, szl_1, sz_2, szl_2, sz_3, szl_3, sz_4, szl_4, sz_5, szl_5, sz_6, szl_6, sz_7, szl_7, sz_8, szl_8, sz_9, szl_9, sz_10, szl_10, sz_11, szl_11, sz_12, szl_12, sz_13, szl_13, sz_14, szl_14, sz_15, szl_15, sz_16, szl_16, sz_17, szl_17, sz_18, szl_18, sz_19, szl_19, sz_20, szl_20, sz_21, szl_21, sz_22, szl_22, sz_23, szl_23, sz_24, szl_24, sz_25, szl_25, sz_26, szl_26, sz_27, szl_27, sz_28, szl_28, sz_29, szl_29, sz_30, szl_30, sz_31, szl_31, sz_32, szl_32, frz, List.all_cons, List.all_nil, me1, co, hm']
      rw [lo.1]
      rfl
    · apply wR_eq
      simp only [m__law_back, g__law_back, ↓w_pin0, ↓w_lent0, ↓w_sPin, ↓w_sLend, ↓w_sAppP, pinE, pin1, dropE, drop1, lendE, lentOk, ↓w_sRaise1, ↓one1_one, ↓w_sTryF, ↓w_sExt, ↓o_any2L, ↓o_any2T, ↓w_lRet, ↓w_lSeq, ↓w_runFL, ↓w_lCallF, ↓w_lRep, ↓o_repL, ↓w_iRevG, ↓o_revIL, ↓o_revIT, ↓o_plusT, ↓o_plusS, ↓o_repS, ↓o_enumL, ↓o_enumT, ↓w_lComp2, ↓w_capL, ↓w_comp2N, ↓w_comp2C, enumD_nil, enumD_cons, fldOf, Er.cls, ↓wR_ok, ↓wR_err, ↓wR_bind, ↓wR_of, ↓wO_some, ↓wO_map, ↓wO_bind, ↓w_var0, ↓w_varS, ↓w_eC, ↓w_e1, ↓w_l1, ↓w_e2, ↓w_l2, ↓w_b1, ↓w_b2, ↓w_eB, ↓w_eF, ↓w_lF, ↓w_eCall, ↓w_eLst, ↓w_aNil, ↓w_aCons, ↓w_eTup, ↓w_lDisp, ↓w_eIf, ↓w_bAnd, ↓w_bOr, ↓w_bNot, ↓w_bYes, ↓w_bChain, ↓w_eAnd, ↓w_eOr, ↓w_iAny, ↓w_oNone, ↓w_oSomeC, ↓w_eSl, ↓w_lSlG, ↓w_lComp, ↓w_sSeq, ↓w_sNil, ↓w_sBreak, ↓w_sCont, ↓w_sSet, ↓w_sSetL, ↓w_sExpr, ↓w_sRet, ↓w_sRetN, ↓w_sIf, ↓w_own0, ↓w_ownS, ↓w_sRetO, ↓w_sApp, ↓w_sSetIx, ↓w_sFrz, ↓w_sThen, ↓w_sRaise, ↓w_sAsg, ↓w_sFor, ↓w_sTry, ↓t_name, ↓t_nil, ↓t_cons, ↓o_plus, ↓o_plusL, ↓o_lAdd, ↓o_sub, ↓o_neg, ↓o_mul, ↓o_fdiv, ↓o_mod, ↓o_pow, ↓o_lt, ↓o_le, ↓o_gt, ↓o_ge, ↓o_eq, ↓o_ne, ↓o_truthB, ↓o_truthI, ↓o_truthN, ↓o_truthL, ↓o_truthT, ↓o_truthS, ↓o_notB, ↓o_isNN, ↓o_isBT, ↓o_isBF, ↓o_isT, ↓o_isIB, ↓o_isSB, ↓o_isLB, ↓o_isTB, ↓o_isNB, ↓o_isNot, ↓o_lenL, ↓o_lenT, ↓o_lenS, ↓o_abs, ↓o_intI, ↓o_intB, ↓o_str, ↓o_gcd, ↓o_list, ↓o_listT, ↓o_tuple, ↓o_tupleT, ↓o_rev, ↓o_type, ↓o_isi, ↓o_isi2, ↓o_rg1, ↓o_rg2, ↓o_zip, ↓o_zipT, ↓o_itemsL, ↓o_itemsT, ↓o_ixL, ↓o_ixT, ↓o_at0, ↓o_at1, ↓o_at2, ↓o_at3, ↓o_at4, ↓o_at5, ↓o_at6, ↓o_at7, ↓o_at8, ↓o_at9, ↓o_at10, ↓o_at11, ↓o_at12, ↓o_at13, ↓o_at14, ↓o_at15, ↓w_eIxO, ↓t_tup1, ↓t_tup2, ↓t_tup3, ↓w_okOnly, ↓w_compN, ↓w_compC, ↓o_all, ↓o_any, ↓bls_nil, ↓bls_cons, ↓o_minL, ↓o_maxL, ↓o_sumL, ↓ints_nil, ↓ints_cons, ↓o_min3, ↓o_max3, ↓o_slL, ↓o_slT, ↓w_eBor, ↓w_bBor, o_isN, w_runF, tyName, isSubTy, tyNames, List.getElem?_cons_zero, List.getElem?_cons_succ, List.set_cons_zero, List.set_cons_succ, List.map_cons, List.map_nil, List.replicate_succ, List.replicate_zero, List.length_cons, List.length_nil, List.cons_append, List.nil_append, Nat.reduceAdd, Nat.reduceSub, Nat.reduceLeDiff, Nat.reduceEqDiff, ↓reduceIte, if_true, if_false, Bool.not_true, Bool.not_false, Bool.true_and, Bool.and_true, Bool.false_and, Bool.and_false, Bool.true_or, Bool.false_or, Bool.or_true, Bool.or_false, reduceCtorEq, decide_true, decide_false, beq_self_eq_true, List.mem_cons, true_or, or_true, true_and, and_true, false_and, and_false, or_false, false_or, String.reduceEq, String.reduceBEq, List.not_mem_nil, Bool.not_eq_true, Bool.false_eq_true, eq_self, not_true_eq_false, not_false_eq_true, Bool.not_eq_eq_eq_not, decide_eq_true_eq, decide_eq_false_iff_not, bne_iff_ne, ne_eq, Int.reduceLT, Int.reduceLE, Int.reduceMul, Int.reduceAdd, Int.reduceNeg, Int.reduceToNat, Int.reducePow, Nat.reduceLT, Int.reduceEq, Int.reduceSub, zipD, List.zipWith_cons_cons, List.zipWith_nil_left, List.zipWith_nil_right, List.all_cons, List.all_nil, id_eq, scalD, borE, wipeE, noOwn, sz_0, szl_0, sz_1, szl_1, sz_2, szl_2, sz_3, szl_3, sz_4, szl_4, sz_5, szl_5, sz_6, szl_6, sz_7, szl_7, sz_8, szl_8, sz_9, szl_9, sz_10, szl_10, sz_11, szl_11, sz_12, szl_12, sz_13, szl_13, sz_14, szl_14, sz_15, szl_15, sz_16, szl_16, sz_17, szl_17, sz_18, szl_18, sz_19, szl_19, sz_20, szl_20, sz_21, szl_21, sz_22, szl_22, sz_23, szl_23, sz_24, szl_24, sz_25, szl_25, sz_26, szl_26, sz_27, szl_27, sz_28, szl_28, sz_29, szl_29, sz_30, szl_30, sz_31, szl_31, sz_32, szl_32, frz, List.all_cons, List.all_nil, me2, hm', S x1, S x2, S x3, S x4, S x5, S x6, S x7, S x8, S x9]
      rw [so.2]
      rfl
end AF

namespace AF
open PySem PySem.Spec PyProof.Rows L2
/-! ### the algebra of maps -/
abbrev ID9 : List Int := [1, 0, 0, 0, 1, 0, 0, 0, 1]
theorem TH_assoc {x y z : List Int} (hx : x.length = 9) (hy : y.length = 9) (hz : z.length = 9) : TH (TH x y) z = TH x (TH y z) := by
  obtain ⟨a, b, c, d, e, f, g, h, i, rfl⟩ := nine hx
  obtain ⟨A, B, C, D', E, F, G, H, I, rfl⟩ := nine hy
  obtain ⟨p, q, r, s, t, u, v, w, o, rfl⟩ := nine hz
  simp only [TH, thenL, List.cons.injEq, and_true]
  refine ⟨?_, ?_, ?_, ?_, ?_, ?_, ?_, ?_, ?_⟩ <;> grind
theorem TH_l {x y : List Int} (k : Int) (hx : x.length = 9) (hy : y.length = 9) : TH (x.map (k * ·)) y = (TH x y).map (k * ·) := by
  obtain ⟨a, b, c, d, e, f, g, h, i, rfl⟩ := nine hx
  obtain ⟨A, B, C, D', E, F, G, H, I, rfl⟩ := nine hy
  simp only [TH, thenL, List.map_cons, List.map_nil, List.cons.injEq, and_true]
  refine ⟨?_, ?_, ?_, ?_, ?_, ?_, ?_, ?_, ?_⟩ <;> grind
theorem TH_r {x y : List Int} (k : Int) (hx : x.length = 9) (hy : y.length = 9) : TH x (y.map (k * ·)) = (TH x y).map (k * ·) := by
  obtain ⟨a, b, c, d, e, f, g, h, i, rfl⟩ := nine hx
  obtain ⟨A, B, C, D', E, F, G, H, I, rfl⟩ := nine hy
  simp only [TH, thenL, List.map_cons, List.map_nil, List.cons.injEq, and_true]
  refine ⟨?_, ?_, ?_, ?_, ?_, ?_, ?_, ?_, ?_⟩ <;> grind
theorem TH_len {x y : List Int} (hx : x.length = 9) (hy : y.length = 9) : (TH x y).length = 9 := by
  obtain ⟨a, b, c, d, e, f, g, h, i, rfl⟩ := nine hx
  obtain ⟨A, B, C, D', E, F, G, H, I, rfl⟩ := nine hy
  rfl
theorem CO_len {x : List Int} (hx : x.length = 9) : (CO x).length = 9 := by
  obtain ⟨a, b, c, d, e, f, g, h, i, rfl⟩ := nine hx
  rfl
theorem BK_len {x : List Int} (hx : x.length = 9) : (BK x).length = 9 := by
  unfold BK
  split
  · rw [List.length_map, CO_len hx]
  · exact CO_len hx
theorem CO_r {x : List Int} (hx : x.length = 9) : TH x (CO x) = ID9.map (ME x * ·) ∧ TH (CO x) x = ID9.map (ME x * ·) := by
  obtain ⟨a, b, c, d, e, f, g, h, i, rfl⟩ := nine hx
  simp only [TH, CO, ME, cofL, thenL, meas, List.map_cons, List.map_nil, List.cons.injEq, and_true]
  refine ⟨⟨?_, ?_, ?_, ?_, ?_, ?_, ?_, ?_, ?_⟩, ⟨?_, ?_, ?_, ?_, ?_, ?_, ?_, ?_, ?_⟩⟩ <;> grind
theorem map_map_mul (k m : Int) (x : List Int) : (x.map (k * ·)).map (m * ·) = x.map (m * k * ·) := by
  rw [List.map_map]
  refine List.map_congr_left fun n _ => ?_
  show m * (k * n) = m * k * n
  rw [Int.mul_assoc]
/-- back and forth: the identity times the size of the determinant -/
theorem BK_r {x : List Int} (hx : x.length = 9) : TH x (BK x) = ID9.map (((ME x).natAbs : Int) * ·) ∧ TH (BK x) x = ID9.map (((ME x).natAbs : Int) * ·) := by
  obtain ⟨h1, h2⟩ := CO_r hx
  unfold BK
  split
  · rename_i hm
    have e : ((ME x).natAbs : Int) = -1 * ME x := by omega
    rw [TH_r _ hx (CO_len hx), TH_l _ (CO_len hx) hx, h1, h2, map_map_mul, e]
    exact ⟨rfl, rfl⟩
  · rename_i hm
    have e : ((ME x).natAbs : Int) = ME x := by omega
    rw [h1, h2, e]
    exact ⟨rfl, rfl⟩
theorem prim_id {k : Int} (hk : 0 < k) : prim (ID9.map (k * ·)) = ID9 := by
  rw [prim_scale hk]
  rfl
/-- a map: lowest terms, not singular -/
structure Mq (k : Nat) (x : List Int) : Prop where
  lt : Lt k x
  one : gcdL x = 1
  det : ME x ≠ 0
theorem Mq.len {k : Nat} {x : List Int} (h : Mq k x) : x.length = 9 := h.lt.1
theorem Mq.prim {k : Nat} {x : List Int} (h : Mq k x) : prim x = x := prim_one h.one
theorem ME_scale {x : List Int} (k : Int) (hx : x.length = 9) : ME (x.map (k * ·)) = k * (k * k) * ME x := by
  obtain ⟨a, b, c, d, e, f, g, h, i, rfl⟩ := nine hx
  show meas _ _ _ _ _ _ _ _ _ = k * (k * k) * meas _ _ _ _ _ _ _ _ _
  unfold meas
  grind
theorem ME_TH {x y : List Int} (hx : x.length = 9) (hy : y.length = 9) : ME (TH x y) = ME x * ME y := by
  obtain ⟨a, b, c, d, e, f, g, h, i, rfl⟩ := nine hx
  obtain ⟨A, B, C, D', E, F, G, H, I, rfl⟩ := nine hy
  show meas _ _ _ _ _ _ _ _ _ = meas _ _ _ _ _ _ _ _ _ * meas _ _ _ _ _ _ _ _ _
  unfold meas
  grind
theorem ME_zero {x : List Int} (hx : x.length = 9) (hz : ∀ n ∈ x, n = 0) : ME x = 0 := by
  obtain ⟨a, b, c, d, e, f, g, h, i, rfl⟩ := nine hx
  simp only [List.mem_cons, List.not_mem_nil, or_false, forall_eq_or_imp, forall_eq] at hz
  obtain ⟨rfl, rfl, rfl, rfl, rfl, rfl, rfl, rfl, rfl⟩ := hz
  rfl
theorem gcd_pos {x : List Int} (hx : x.length = 9) (hd : ME x ≠ 0) : 0 < gcdL x := by
  rcases Nat.eq_zero_or_pos (gcdL x) with q | q
  · exact absurd (ME_zero hx ((gcdF_zero _ 0).mp q).2) hd
  · exact q
/-- lowest terms of a list that is not singular -/
theorem mq_prim {k : Nat} {x : List Int} (h : Lt k x) (hd : ME x ≠ 0) : Mq k (prim x) ∧ ∃ c : Int, 0 < c ∧ x = (prim x).map (c * ·) := by
  have hg := gcd_pos h.1 hd
  have e := (prim_mul hg).symm
  refine ⟨⟨h.prim, gcdL_prim hg, fun q => hd ?_⟩, _, by omega, e⟩
  rw [e, ME_scale _ h.prim.1, q, Int.mul_zero]
theorem prim_TH_l {k m : Nat} {x y : List Int} (h : Lt k x) (hd : ME x ≠ 0) (g : Lt m y) : prim (TH (prim x) y) = prim (TH x y) := by
  obtain ⟨_, c, hc, e⟩ := mq_prim h hd
  conv => rhs; rw [e]
  rw [TH_l c h.prim.1 g.1, prim_scale hc]
theorem prim_TH_r {k m : Nat} {x y : List Int} (h : Lt k x) (g : Lt m y) (hd : ME y ≠ 0) : prim (TH x (prim y)) = prim (TH x y) := by
  obtain ⟨_, c, hc, e⟩ := mq_prim g hd
  conv => rhs; rw [e]
  rw [TH_r c h.1 g.prim.1, prim_scale hc]
theorem TH_id {x : List Int} (hx : x.length = 9) : TH x ID9 = x := by
  obtain ⟨a, b, c, d, e, f, g, h, i, rfl⟩ := nine hx
  simp only [TH, thenL, List.cons.injEq, and_true]
  refine ⟨?_, ?_, ?_, ?_, ?_, ?_, ?_, ?_, ?_⟩ <;> omega
theorem prim_neg {x : List Int} {k : Int} (hk : 0 < k) (h1 : gcdL x = 1) : prim (x.map (-k * ·)) = x.map (-1 * ·) := by
  have e : x.map (-k * ·) = (x.map (-1 * ·)).map (k * ·) := by
    rw [map_map_mul]
    refine List.map_congr_left fun n _ => ?_
    show -k * n = k * -1 * n
    rw [Int.mul_neg_one]
  rw [e, prim_scale hk, prim_one]
  rw [gcdL_scale, h1]
  rfl
theorem ME_BK {x : List Int} (hx : x.length = 9) (hd : ME x ≠ 0) : ME (BK x) ≠ 0 := by
  intro q
  have e := (BK_r hx).1
  have m := ME_TH hx (BK_len hx)
  rw [e, ME_scale _ rfl, q, Int.mul_zero, show ME ID9 = 1 from rfl, Int.mul_one] at m
  have hn : ((ME x).natAbs : Int) ≠ 0 := by omega
  rcases Int.mul_eq_zero.mp m with z | z
  · exact hn z
  · rcases Int.mul_eq_zero.mp z with z | z <;> exact hn z
end AF

set_option maxHeartbeats 8000000
namespace AF
open PySem PySem.Spec PyProof.Rows L2
/-! ### the adjugate of a product -/
theorem CO_TH {x y : List Int} (hx : x.length = 9) (hy : y.length = 9) : CO (TH x y) = TH (CO y) (CO x) := by
  obtain ⟨a, b, c, d, e, f, g, h, i, rfl⟩ := nine hx
  obtain ⟨A, B, C, D', E, F, G, H, I, rfl⟩ := nine hy
  simp only [TH, CO, cofL, thenL, List.cons.injEq, and_true]
  refine ⟨?_, ?_, ?_, ?_, ?_, ?_, ?_, ?_, ?_⟩ <;> grind
theorem neg_neg9 (x : List Int) : (x.map (-1 * ·)).map (-1 * ·) = x := by
  rw [map_map_mul]
  exact (List.map_congr_left fun n _ => show -1 * -1 * n = n by omega).trans (List.map_id' x)
theorem BK_TH {x y : List Int} (hx : x.length = 9) (hy : y.length = 9) (h1 : ME x ≠ 0) (h2 : ME y ≠ 0) : BK (TH x y) = TH (BK y) (BK x) := by
  have hm := ME_TH hx hy
  have hc := CO_TH hx hy
  unfold BK
  rcases Int.lt_or_lt_of_ne h1 with q1 | q1 <;> rcases Int.lt_or_lt_of_ne h2 with q2 | q2
  · have := Int.mul_pos_of_neg_of_neg q1 q2
    rw [if_neg (by omega), if_pos q1, if_pos q2, TH_l _ (CO_len hy) (by rw [List.length_map]; exact CO_len hx), TH_r _ (CO_len hy) (CO_len hx), neg_neg9, hc]
  · have := Int.mul_neg_of_neg_of_pos q1 q2
    rw [if_pos (by omega), if_pos q1, if_neg (by omega), TH_r _ (CO_len hy) (CO_len hx), hc]
  · have := Int.mul_neg_of_pos_of_neg q1 q2
    rw [if_pos (by omega), if_neg (show ¬ ME x < 0 by omega), if_pos q2, TH_l _ (CO_len hy) (CO_len hx), hc]
  · have := Int.mul_pos q1 q2
    rw [if_neg (by omega), if_neg (by omega), if_neg (by omega), hc]
theorem CO_k {x : List Int} (k : Int) (hx : x.length = 9) : CO (x.map (k * ·)) = (CO x).map (k * k * ·) := by
  obtain ⟨a, b, c, d, e, f, g, h, i, rfl⟩ := nine hx
  simp only [CO, cofL, List.map_cons, List.map_nil, List.cons.injEq, and_true]
  refine ⟨?_, ?_, ?_, ?_, ?_, ?_, ?_, ?_, ?_⟩ <;> grind
theorem BK_k {x : List Int} {k : Int} (hk : 0 < k) (hx : x.length = 9) : BK (x.map (k * ·)) = (BK x).map (k * k * ·) := by
  have h1 := ME_scale k hx
  have h2 := CO_k k hx
  have h3 : 0 < k * (k * k) := Int.mul_pos hk (Int.mul_pos hk hk)
  unfold BK
  by_cases q : ME x < 0
  · have := Int.mul_neg_of_pos_of_neg h3 q
    rw [if_pos q, if_pos (by omega), h2, map_map_mul, map_map_mul, Int.mul_comm]
  · have := Int.mul_nonneg (show 0 ≤ k * (k * k) by omega) (show 0 ≤ ME x by omega)
    rw [if_neg q, if_neg (by omega), h2]
/-- lowest terms back: the same -/
theorem prim_BK {k : Nat} {x : List Int} (h : Lt k x) (hd : ME x ≠ 0) : prim (BK (prim x)) = prim (BK x) := by
  obtain ⟨_, c, hc, e⟩ := mq_prim h hd
  conv => rhs; rw [e]
  rw [BK_k hc h.prim.1, prim_scale (Int.mul_pos hc hc)]
theorem whole_int (i : Int) : m_is_whole [.int i] = .ok (.bl true) := by apply wR_eq; simp only [m_is_whole, g_is_whole, ↓w_pin0, ↓w_lent0, ↓w_sPin, ↓w_sLend, ↓w_sAppP, pinE, pin1, dropE, drop1, lendE, lentOk, ↓w_sRaise1, ↓one1_one, ↓w_sTryF, ↓w_sExt, ↓o_any2L, ↓o_any2T, ↓w_lRet, ↓w_lSeq, ↓w_runFL, ↓w_lCallF, ↓w_lRep, ↓o_repL, ↓w_iRevG, ↓o_revIL, ↓o_revIT, ↓o_plusT, ↓o_plusS, ↓o_repS, ↓o_enumL, ↓o_enumT, ↓w_lComp2, ↓w_capL, ↓w_comp2N, ↓w_comp2C, enumD_nil, enumD_cons, fldOf, Er.cls, ↓wR_ok, ↓wR_err, ↓wR_bind, ↓wR_of, ↓wO_some, ↓wO_map, ↓wO_bind, ↓w_var0, ↓w_varS, ↓w_eC, ↓w_e1, ↓w_l1, ↓w_e2, ↓w_l2, ↓w_b1, ↓w_b2, ↓w_eB, ↓w_eF, ↓w_lF, ↓w_eCall, ↓w_eLst, ↓w_aNil, ↓w_aCons, ↓w_eTup, ↓w_lDisp, ↓w_eIf, ↓w_bAnd, ↓w_bOr, ↓w_bNot, ↓w_bYes, ↓w_bChain, ↓w_eAnd, ↓w_eOr, ↓w_iAny, ↓w_oNone, ↓w_oSomeC, ↓w_eSl, ↓w_lSlG, ↓w_lComp, ↓w_sSeq, ↓w_sNil, ↓w_sBreak, ↓w_sCont, ↓w_sSet, ↓w_sSetL, ↓w_sExpr, ↓w_sRet, ↓w_sRetN, ↓w_sIf, ↓w_own0, ↓w_ownS, ↓w_sRetO, ↓w_sApp, ↓w_sSetIx, ↓w_sFrz, ↓w_sThen, ↓w_sRaise, ↓w_sAsg, ↓w_sFor, ↓w_sTry, ↓t_name, ↓t_nil, ↓t_cons, ↓o_plus, ↓o_plusL, ↓o_lAdd, ↓o_sub, ↓o_neg, ↓o_mul, ↓o_fdiv, ↓o_mod, ↓o_pow, ↓o_lt, ↓o_le, ↓o_gt, ↓o_ge, ↓o_eq, ↓o_ne, ↓o_truthB, ↓o_truthI, ↓o_truthN, ↓o_truthL, ↓o_truthT, ↓o_truthS, ↓o_notB, ↓o_isNN, ↓o_isBT, ↓o_isBF, ↓o_isT, ↓o_isIB, ↓o_isSB, ↓o_isLB, ↓o_isTB, ↓o_isNB, ↓o_isNot, ↓o_lenL, ↓o_lenT, ↓o_lenS, ↓o_abs, ↓o_intI, ↓o_intB, ↓o_str, ↓o_gcd, ↓o_list, ↓o_listT, ↓o_tuple, ↓o_tupleT, ↓o_rev, ↓o_type, ↓o_isi, ↓o_isi2, ↓o_rg1, ↓o_rg2, ↓o_zip, ↓o_zipT, ↓o_itemsL, ↓o_itemsT, ↓o_ixL, ↓o_ixT, ↓o_at0, ↓o_at1, ↓o_at2, ↓o_at3, ↓o_at4, ↓o_at5, ↓o_at6, ↓o_at7, ↓o_at8, ↓o_at9, ↓o_at10, ↓o_at11, ↓o_at12, ↓o_at13, ↓o_at14, ↓o_at15, ↓w_eIxO, ↓t_tup1, ↓t_tup2, ↓t_tup3, ↓w_okOnly, ↓w_compN, ↓w_compC, ↓o_all, ↓o_any, ↓bls_nil, ↓bls_cons, ↓o_minL, ↓o_maxL, ↓o_sumL, ↓ints_nil, ↓ints_cons, ↓o_min3, ↓o_max3, ↓o_slL, ↓o_slT, ↓w_eBor, ↓w_bBor, o_isN, w_runF, tyName, isSubTy, tyNames, List.getElem?_cons_zero, List.getElem?_cons_succ, List.set_cons_zero, List.set_cons_succ, List.map_cons, List.map_nil, List.replicate_succ, List.replicate_zero, List.length_cons, List.length_nil, List.cons_append, List.nil_append, Nat.reduceAdd, Nat.reduceSub, Nat.reduceLeDiff, Nat.reduceEqDiff, ↓reduceIte, if_true, if_false, Bool.not_true, Bool.not_false, Bool.true_and, Bool.and_true, Bool.false_and, Bool.and_false, Bool.true_or, Bool.false_or, Bool.or_true, Bool.or_false, reduceCtorEq, decide_true, decide_false, beq_self_eq_true, List.mem_cons, true_or, or_true, true_and, and_true, false_and, and_false, or_false, false_or, String.reduceEq, String.reduceBEq, List.not_mem_nil, Bool.not_eq_true, Bool.false_eq_true, eq_self, not_true_eq_false, not_false_eq_true, Bool.not_eq_eq_eq_not, decide_eq_true_eq, decide_eq_false_iff_not, bne_iff_ne, ne_eq, Int.reduceLT, Int.reduceLE, Int.reduceMul, Int.reduceAdd, Int.reduceNeg, Int.reduceToNat, Int.reducePow, Nat.reduceLT, Int.reduceEq, Int.reduceSub, zipD, List.zipWith_cons_cons, List.zipWith_nil_left, List.zipWith_nil_right, List.all_cons, List.all_nil, id_eq, scalD, borE, wipeE, noOwn, sz_0, szl_0, sz_1, szl_1, sz_2, szl_2, sz_3, szl_3, sz_4, szl_4, sz_5, szl_5, sz_6, szl_6, sz_7, szl_7, sz_8, szl_8, sz_9, szl_9, sz_10, szl_10, sz_11, szl_11, sz_12, szl_12, sz_13, szl_13, sz_14, szl_14, sz_15, szl_15, sz_16, szl_16, sz_17, szl_17, sz_18, szl_18, sz_19, szl_19, sz_20, szl_20, sz_21, szl_21, sz_22, szl_22, sz_23, szl_23, sz_24, szl_24, sz_25, szl_25, sz_26, szl_26, sz_27, szl_27, sz_28, szl_28, sz_29, szl_29, sz_30, szl_30, sz_31, szl_31, sz_32, szl_32, frz, List.all_cons, List.all_nil]
/-! ### what is a map -/
theorem is_map_val {ms : List Int} (h : Lt 200 ms) : m_is_map [.tup (iD ms)] = .ok (.bl (decide (ME ms ≠ 0) && decide (prim ms = ms))) := by
  have me := (meas_ok h).1
  have lo := (plowest_ok ms (fun n hn => lt_up (h.2 n hn) (by decide)) (by rw [h.1]; decide)).1
  have ce := cEq_tupI (prim ms) ms
  obtain ⟨hl, _⟩ := h
  obtain ⟨a, b, c, d, e, f, g, h', i, rfl⟩ := nine hl
  have hME : (ME [a, b, c, d, e, f, g, h', i] = 0) ∨ ¬ (ME [a, b, c, d, e, f, g, h', i] = 0) := Classical.em _
  generalize ME [a, b, c, d, e, f, g, h', i] = M at *
  simp only [iD, List.map_cons, List.map_nil] at me lo ce ⊢
  apply wR_eq
  simp only [m_is_map, g_is_map, ↓w_pin0, ↓w_lent0, ↓w_sPin, ↓w_sLend, ↓w_sAppP, pinE, pin1, dropE, drop1, lendE, lentOk, ↓w_sRaise1, ↓one1_one, ↓w_sTryF, ↓w_sExt, ↓o_any2L, ↓o_any2T, ↓w_lRet, ↓w_lSeq, ↓w_runFL, ↓w_lCallF, ↓w_lRep, ↓o_repL, ↓w_iRevG, ↓o_revIL, ↓o_revIT, ↓o_plusT, ↓o_plusS, ↓o_repS, ↓o_enumL, ↓o_enumT, ↓w_lComp2, ↓w_capL, ↓w_comp2N, ↓w_comp2C, enumD_nil, enumD_cons, fldOf, Er.cls, ↓wR_ok, ↓wR_err, ↓wR_bind, ↓wR_of, ↓wO_some, ↓wO_map, ↓wO_bind, ↓w_var0, ↓w_varS, ↓w_eC, ↓w_e1, ↓w_l1, ↓w_e2, ↓w_l2, ↓w_b1, ↓w_b2, ↓w_eB, ↓w_eF, ↓w_lF, ↓w_eCall, ↓w_eLst, ↓w_aNil, ↓w_aCons, ↓w_eTup, ↓w_lDisp, ↓w_eIf, ↓w_bAnd, ↓w_bOr, ↓w_bNot, ↓w_bYes, ↓w_bChain, ↓w_eAnd, ↓w_eOr, ↓w_iAny, ↓w_oNone, ↓w_oSomeC, ↓w_eSl, ↓w_lSlG, ↓w_lComp, ↓w_sSeq, ↓w_sNil, ↓w_sBreak, ↓w_sCont, ↓w_sSet, ↓w_sSetL, ↓w_sExpr, ↓w_sRet, ↓w_sRetN, ↓w_sIf, ↓w_own0, ↓w_ownS, ↓w_sRetO, ↓w_sApp, ↓w_sSetIx, ↓w_sFrz, ↓w_sThen, ↓w_sRaise, ↓w_sAsg, ↓w_sFor, ↓w_sTry, ↓t_name, ↓t_nil, ↓t_cons, ↓o_plus, ↓o_plusL, ↓o_lAdd, ↓o_sub, ↓o_neg, ↓o_mul, ↓o_fdiv, ↓o_mod, ↓o_pow, ↓o_lt, ↓o_le, ↓o_gt, ↓o_ge, ↓o_eq, ↓o_ne, ↓o_truthB, ↓o_truthI, ↓o_truthN, ↓o_truthL, ↓o_truthT, ↓o_truthS, ↓o_notB, ↓o_isNN, ↓o_isBT, ↓o_isBF, ↓o_isT, ↓o_isIB, ↓o_isSB, ↓o_isLB, ↓o_isTB, ↓o_isNB, ↓o_isNot, ↓o_lenL, ↓o_lenT, ↓o_lenS, ↓o_abs, ↓o_intI, ↓o_intB, ↓o_str, ↓o_gcd, ↓o_list, ↓o_listT, ↓o_tuple, ↓o_tupleT, ↓o_rev, ↓o_type, ↓o_isi, ↓o_isi2, ↓o_rg1, ↓o_rg2, ↓o_zip, ↓o_zipT, ↓o_itemsL, ↓o_itemsT, ↓o_ixL, ↓o_ixT, ↓o_at0, ↓o_at1, ↓o_at2, ↓o_at3, ↓o_at4, ↓o_at5, ↓o_at6, ↓o_at7, ↓o_at8, ↓o_at9, ↓o_at10, ↓o_at11, ↓o_at12, ↓o_at13, ↓o_at14, ↓o_at15, ↓w_eIxO, ↓t_tup1, ↓t_tup2, ↓t_tup3, ↓w_okOnly, ↓w_compN, ↓w_compC, ↓o_all, ↓o_any, ↓bls_nil, ↓bls_cons, ↓o_minL, ↓o_maxL, ↓o_sumL, ↓ints_nil, ↓ints_cons, ↓o_min3, ↓o_max3, ↓o_slL, ↓o_slT, ↓w_eBor, ↓w_bBor, o_isN, w_runF, tyName, isSubTy, tyNames, List.getElem?_cons_zero, List.getElem?_cons_succ, List.set_cons_zero, List.set_cons_succ, List.map_cons, List.map_nil, List.replicate_succ, List.replicate_zero, List.length_cons, List.length_nil, List.cons_append, List.nil_append, Nat.reduceAdd, Nat.reduceSub, Nat.reduceLeDiff, Nat.reduceEqDiff, ↓reduceIte, if_true, if_false, Bool.not_true, Bool.not_false, Bool.true_and, Bool.and_true, Bool.false_and, Bool.and_false, Bool.true_or, Bool.false_or, Bool.or_true, Bool.or_false, reduceCtorEq, decide_true, decide_false, beq_self_eq_true, List.mem_cons, true_or, or_true, true_and, and_true, false_and, and_false, or_false, false_or, String.reduceEq, String.reduceBEq, List.not_mem_nil, Bool.not_eq_true, Bool.false_eq_true, eq_self, not_true_eq_false, not_false_eq_true, Bool.not_eq_eq_eq_not, decide_eq_true_eq, decide_eq_false_iff_not, bne_iff_ne, ne_eq, Int.reduceLT, Int.reduceLE, Int.reduceMul, Int.reduceAdd, Int.reduceNeg, Int.reduceToNat, Int.reducePow, Nat.reduceLT, Int.reduceEq, Int.reduceSub, zipD, List.zipWith_cons_cons, List.zipWith_nil_left, List.zipWith_nil_right, List.all_cons, List.all_nil, id_eq, scalD, borE, wipeE, noOwn, sz_0, szl_0, sz_1, szl_1, sz_2, szl_2, sz_3, szl_3, sz_4, szl_4, sz_5, szl_5, sz_6, szl_6, sz_7, szl_7, sz_8, szl_8, sz_9, szl_9, sz_10, szl_10, sz_11, szl_11, sz_12, szl_12, sz_13, szl_13, sz_14, szl_14, sz_15, szl_15, sz_16, szl_16, sz_17, szl_17, sz_18, szl_18, sz_19, szl_19, sz_20, szl_20, sz_21, szl_21, sz_22, szl_22, sz_23, szl_23, sz_24, szl_24, sz_25, szl_25, sz_26, szl_26, sz_27, szl_27, sz_28, szl_28, sz_29, szl_29, sz_30, szl_30, sz_31, szl_31, sz_32, szl_32, frz, List.all_cons, List.all_nil, whole_int, me, lo, ce]
  rcases hME with h0 | h0
  · simp [h0]
  · simp [h0]
theorem is_map_mq {k : Nat} {ms : List Int} (h : Mq k ms) (hk : k ≤ 200) : m_is_map [.tup (iD ms)] = .ok (.bl true) := by
  rw [is_map_val (h.lt.up hk), decide_eq_true h.det, decide_eq_true h.prim]
  rfl
theorem lt9 {k : Nat} {a b c d e f g h i : Int} (hb : a.natAbs < 2 ^ k ∧ b.natAbs < 2 ^ k ∧ c.natAbs < 2 ^ k ∧ d.natAbs < 2 ^ k ∧ e.natAbs < 2 ^ k ∧ f.natAbs < 2 ^ k ∧ g.natAbs < 2 ^ k ∧ h.natAbs < 2 ^ k ∧ i.natAbs < 2 ^ k) : Lt k [a, b, c, d, e, f, g, h, i] :=
  ⟨rfl, by simpa only [List.mem_cons, List.not_mem_nil, or_false, forall_eq_or_imp, forall_eq] using hb⟩
theorem not_map {ms : List Int} (h : Lt 200 ms) (h0 : ME ms = 0 ∨ prim ms ≠ ms) : m_is_map [.tup (iD ms)] = .ok (.bl false) := by
  rw [is_map_val h]
  rcases h0 with h0 | h0
  · rw [decide_eq_false (not_not_intro h0)]; rfl
  · rw [decide_eq_false h0, Bool.and_false]
theorem ism_lst (xs : List D) : m_is_map [.lst xs] = .ok (.bl false) := by
  apply wR_eq
  simp only [m_is_map, g_is_map, ↓w_pin0, ↓w_lent0, ↓w_sPin, ↓w_sLend, ↓w_sAppP, pinE, pin1, dropE, drop1, lendE, lentOk, ↓w_sRaise1, ↓one1_one, ↓w_sTryF, ↓w_sExt, ↓o_any2L, ↓o_any2T, ↓w_lRet, ↓w_lSeq, ↓w_runFL, ↓w_lCallF, ↓w_lRep, ↓o_repL, ↓w_iRevG, ↓o_revIL, ↓o_revIT, ↓o_plusT, ↓o_plusS, ↓o_repS, ↓o_enumL, ↓o_enumT, ↓w_lComp2, ↓w_capL, ↓w_comp2N, ↓w_comp2C, enumD_nil, enumD_cons, fldOf, Er.cls, ↓wR_ok, ↓wR_err, ↓wR_bind, ↓wR_of, ↓wO_some, ↓wO_map, ↓wO_bind, ↓w_var0, ↓w_varS, ↓w_eC, ↓w_e1, ↓w_l1, ↓w_e2, ↓w_l2, ↓w_b1, ↓w_b2, ↓w_eB, ↓w_eF, ↓w_lF, ↓w_eCall, ↓w_eLst, ↓w_aNil, ↓w_aCons, ↓w_eTup, ↓w_lDisp, ↓w_eIf, ↓w_bAnd, ↓w_bOr, ↓w_bNot, ↓w_bYes, ↓w_bChain, ↓w_eAnd, ↓w_eOr, ↓w_iAny, ↓w_oNone, ↓w_oSomeC, ↓w_eSl, ↓w_lSlG, ↓w_lComp, ↓w_sSeq, ↓w_sNil, ↓w_sBreak, ↓w_sCont, ↓w_sSet, ↓w_sSetL, ↓w_sExpr, ↓w_sRet, ↓w_sRetN, ↓w_sIf, ↓w_own0, ↓w_ownS, ↓w_sRetO, ↓w_sApp, ↓w_sSetIx, ↓w_sFrz, ↓w_sThen, ↓w_sRaise, ↓w_sAsg, ↓w_sFor, ↓w_sTry, ↓t_name, ↓t_nil, ↓t_cons, ↓o_plus, ↓o_plusL, ↓o_lAdd, ↓o_sub, ↓o_neg, ↓o_mul, ↓o_fdiv, ↓o_mod, ↓o_pow, ↓o_lt, ↓o_le, ↓o_gt, ↓o_ge, ↓o_eq, ↓o_ne, ↓o_truthB, ↓o_truthI, ↓o_truthN, ↓o_truthL, ↓o_truthT, ↓o_truthS, ↓o_notB, ↓o_isNN, ↓o_isBT, ↓o_isBF, ↓o_isT, ↓o_isIB, ↓o_isSB, ↓o_isLB, ↓o_isTB, ↓o_isNB, ↓o_isNot, ↓o_lenL, ↓o_lenT, ↓o_lenS, ↓o_abs, ↓o_intI, ↓o_intB, ↓o_str, ↓o_gcd, ↓o_list, ↓o_listT, ↓o_tuple, ↓o_tupleT, ↓o_rev, ↓o_type, ↓o_isi, ↓o_isi2, ↓o_rg1, ↓o_rg2, ↓o_zip, ↓o_zipT, ↓o_itemsL, ↓o_itemsT, ↓o_ixL, ↓o_ixT, ↓o_at0, ↓o_at1, ↓o_at2, ↓o_at3, ↓o_at4, ↓o_at5, ↓o_at6, ↓o_at7, ↓o_at8, ↓o_at9, ↓o_at10, ↓o_at11, ↓o_at12, ↓o_at13, ↓o_at14, ↓o_at15, ↓w_eIxO, ↓t_tup1, ↓t_tup2, ↓t_tup3, ↓w_okOnly, ↓w_compN, ↓w_compC, ↓o_all, ↓o_any, ↓bls_nil, ↓bls_cons, ↓o_minL, ↓o_maxL, ↓o_sumL, ↓ints_nil, ↓ints_cons, ↓o_min3, ↓o_max3, ↓o_slL, ↓o_slT, ↓w_eBor, ↓w_bBor, o_isN, w_runF, tyName, isSubTy, tyNames, List.getElem?_cons_zero, List.getElem?_cons_succ, List.set_cons_zero, List.set_cons_succ, List.map_cons, List.map_nil, List.replicate_succ, List.replicate_zero, List.length_cons, List.length_nil, List.cons_append, List.nil_append, Nat.reduceAdd, Nat.reduceSub, Nat.reduceLeDiff, Nat.reduceEqDiff, ↓reduceIte, if_true, if_false, Bool.not_true, Bool.not_false, Bool.true_and, Bool.and_true, Bool.false_and, Bool.and_false, Bool.true_or, Bool.false_or, Bool.or_true, Bool.or_false, reduceCtorEq, decide_true, decide_false, beq_self_eq_true, List.mem_cons, true_or, or_true, true_and, and_true, false_and, and_false, or_false, false_or, String.reduceEq, String.reduceBEq, List.not_mem_nil, Bool.not_eq_true, Bool.false_eq_true, eq_self, not_true_eq_false, not_false_eq_true, Bool.not_eq_eq_eq_not, decide_eq_true_eq, decide_eq_false_iff_not, bne_iff_ne, ne_eq, Int.reduceLT, Int.reduceLE, Int.reduceMul, Int.reduceAdd, Int.reduceNeg, Int.reduceToNat, Int.reducePow, Nat.reduceLT, Int.reduceEq, Int.reduceSub, zipD, List.zipWith_cons_cons, List.zipWith_nil_left, List.zipWith_nil_right, List.all_cons, List.all_nil, id_eq, scalD, borE, wipeE, noOwn, sz_0, szl_0, sz_1, szl_1, sz_2, szl_2, sz_3, szl_3, sz_4, szl_4, sz_5, szl_5, sz_6, szl_6, sz_7, szl_7, sz_8, szl_8, sz_9, szl_9, sz_10, szl_10, sz_11, szl_11, sz_12, szl_12, sz_13, szl_13, sz_14, szl_14, sz_15, szl_15, sz_16, szl_16, sz_17, szl_17, sz_18, szl_18, sz_19, szl_19, sz_20, szl_20, sz_21, szl_21, sz_22, szl_22, sz_23, szl_23, sz_24, szl_24, sz_25, szl_25, sz_26, szl_26, sz_27, szl_27, sz_28, szl_28, sz_29, szl_29, sz_30, szl_30, sz_31, szl_31, sz_32, szl_32, frz, List.all_cons, List.all_nil]
theorem ism_non : m_is_map [.non] = .ok (.bl false) := by
  apply wR_eq
  simp only [m_is_map, g_is_map, ↓w_pin0, ↓w_lent0, ↓w_sPin, ↓w_sLend, ↓w_sAppP, pinE, pin1, dropE, drop1, lendE, lentOk, ↓w_sRaise1, ↓one1_one, ↓w_sTryF, ↓w_sExt, ↓o_any2L, ↓o_any2T, ↓w_lRet, ↓w_lSeq, ↓w_runFL, ↓w_lCallF, ↓w_lRep, ↓o_repL, ↓w_iRevG, ↓o_revIL, ↓o_revIT, ↓o_plusT, ↓o_plusS, ↓o_repS, ↓o_enumL, ↓o_enumT, ↓w_lComp2, ↓w_capL, ↓w_comp2N, ↓w_comp2C, enumD_nil, enumD_cons, fldOf, Er.cls, ↓wR_ok, ↓wR_err, ↓wR_bind, ↓wR_of, ↓wO_some, ↓wO_map, ↓wO_bind, ↓w_var0, ↓w_varS, ↓w_eC, ↓w_e1, ↓w_l1, ↓w_e2, ↓w_l2, ↓w_b1, ↓w_b2, ↓w_eB, ↓w_eF, ↓w_lF, ↓w_eCall, ↓w_eLst, ↓w_aNil, ↓w_aCons, ↓w_eTup, ↓w_lDisp, ↓w_eIf, ↓w_bAnd, ↓w_bOr, ↓w_bNot, ↓w_bYes, ↓w_bChain, ↓w_eAnd, ↓w_eOr, ↓w_iAny, ↓w_oNone, ↓w_oSomeC, ↓w_eSl, ↓w_lSlG, ↓w_lComp, ↓w_sSeq, ↓w_sNil, ↓w_sBreak, ↓w_sCont, ↓w_sSet, ↓w_sSetL, ↓w_sExpr, ↓w_sRet, ↓w_sRetN, ↓w_sIf, ↓w_own0, ↓w_ownS, ↓w_sRetO, ↓w_sApp, ↓w_sSetIx, ↓w_sFrz, ↓w_sThen, ↓w_sRaise, ↓w_sAsg, ↓w_sFor, ↓w_sTry, ↓t_name, ↓t_nil, ↓t_cons, ↓o_plus, ↓o_plusL, ↓o_lAdd, ↓o_sub, ↓o_neg, ↓o_mul, ↓o_fdiv, ↓o_mod, ↓o_pow, ↓o_lt, ↓o_le, ↓o_gt, ↓o_ge, ↓o_eq, ↓o_ne, ↓o_truthB, ↓o_truthI, ↓o_truthN, ↓o_truthL, ↓o_truthT, ↓o_truthS, ↓o_notB, ↓o_isNN, ↓o_isBT, ↓o_isBF, ↓o_isT, ↓o_isIB, ↓o_isSB, ↓o_isLB, ↓o_isTB, ↓o_isNB, ↓o_isNot, ↓o_lenL, ↓o_lenT, ↓o_lenS, ↓o_abs, ↓o_intI, ↓o_intB, ↓o_str, ↓o_gcd, ↓o_list, ↓o_listT, ↓o_tuple, ↓o_tupleT, ↓o_rev, ↓o_type, ↓o_isi, ↓o_isi2, ↓o_rg1, ↓o_rg2, ↓o_zip, ↓o_zipT, ↓o_itemsL, ↓o_itemsT, ↓o_ixL, ↓o_ixT, ↓o_at0, ↓o_at1, ↓o_at2, ↓o_at3, ↓o_at4, ↓o_at5, ↓o_at6, ↓o_at7, ↓o_at8, ↓o_at9, ↓o_at10, ↓o_at11, ↓o_at12, ↓o_at13, ↓o_at14, ↓o_at15, ↓w_eIxO, ↓t_tup1, ↓t_tup2, ↓t_tup3, ↓w_okOnly, ↓w_compN, ↓w_compC, ↓o_all, ↓o_any, ↓bls_nil, ↓bls_cons, ↓o_minL, ↓o_maxL, ↓o_sumL, ↓ints_nil, ↓ints_cons, ↓o_min3, ↓o_max3, ↓o_slL, ↓o_slT, ↓w_eBor, ↓w_bBor, o_isN, w_runF, tyName, isSubTy, tyNames, List.getElem?_cons_zero, List.getElem?_cons_succ, List.set_cons_zero, List.set_cons_succ, List.map_cons, List.map_nil, List.replicate_succ, List.replicate_zero, List.length_cons, List.length_nil, List.cons_append, List.nil_append, Nat.reduceAdd, Nat.reduceSub, Nat.reduceLeDiff, Nat.reduceEqDiff, ↓reduceIte, if_true, if_false, Bool.not_true, Bool.not_false, Bool.true_and, Bool.and_true, Bool.false_and, Bool.and_false, Bool.true_or, Bool.false_or, Bool.or_true, Bool.or_false, reduceCtorEq, decide_true, decide_false, beq_self_eq_true, List.mem_cons, true_or, or_true, true_and, and_true, false_and, and_false, or_false, false_or, String.reduceEq, String.reduceBEq, List.not_mem_nil, Bool.not_eq_true, Bool.false_eq_true, eq_self, not_true_eq_false, not_false_eq_true, Bool.not_eq_eq_eq_not, decide_eq_true_eq, decide_eq_false_iff_not, bne_iff_ne, ne_eq, Int.reduceLT, Int.reduceLE, Int.reduceMul, Int.reduceAdd, Int.reduceNeg, Int.reduceToNat, Int.reducePow, Nat.reduceLT, Int.reduceEq, Int.reduceSub, zipD, List.zipWith_cons_cons, List.zipWith_nil_left, List.zipWith_nil_right, List.all_cons, List.all_nil, id_eq, scalD, borE, wipeE, noOwn, sz_0, szl_0, sz_1, szl_1, sz_2, szl_2, sz_3, szl_3, sz_4, szl_4, sz_5, szl_5, sz_6, szl_6, sz_7, szl_7, sz_8, szl_8, sz_9, szl_9, sz_10, szl_10, sz_11, szl_11, sz_12, szl_12, sz_13, szl_13, sz_14, szl_14, sz_15, szl_15, sz_16, szl_16, sz_17, szl_17, sz_18, szl_18, sz_19, szl_19, sz_20, szl_20, sz_21, szl_21, sz_22, szl_22, sz_23, szl_23, sz_24, szl_24, sz_25, szl_25, sz_26, szl_26, sz_27, szl_27, sz_28, szl_28, sz_29, szl_29, sz_30, szl_30, sz_31, szl_31, sz_32, szl_32, frz, List.all_cons, List.all_nil]
end AF

namespace AF
open PySem PySem.Spec PyProof.Rows L2
/-! ### drawn maps, drawn steps -/
theorem o_dr {ks : List Int} {i : Nat} (hi : i < ks.length) {Q : D → Prop} : wpO (atI (ks.map D.int) (i : Int)) Q = Q (.int (ks.getD i 0)) := o_at (by
  rw [List.getElem?_map, List.getD_eq_getElem?_getD, List.getElem?_eq_getElem hi]
  rfl)
theorem o_drop {ks : List Int} {i j : Nat} (hi : i + j < ks.length) {Q : D → Prop} : wpO (atI ((ks.map D.int).drop j) (i : Int)) Q = Q (.int (ks.getD (i + j) 0)) := o_at (by
  rw [List.getElem?_drop, Nat.add_comm j i, List.getElem?_map, List.getD_eq_getElem?_getD, List.getElem?_eq_getElem hi]
  rfl)
def LS (ms : List Int) : Int := ms.getD 8 0
theorem LS_k {ms : List Int} (k : Int) (hl : ms.length = 9) : LS (ms.map (k * ·)) = k * LS ms := by
  obtain ⟨a, b, c, d, e, f, g, h, i, rfl⟩ := nine hl
  rfl
theorem LS_prim {k : Nat} {ms : List Int} (h : Lt k ms) (hd : ME ms ≠ 0) (hp : 0 < LS ms) : 0 < LS (prim ms) := by
  obtain ⟨_, c, hc, e⟩ := mq_prim h hd
  rw [e, LS_k _ h.prim.1] at hp
  exact Int.pos_of_mul_pos_right hp (by omega)
theorem lt_of {ms : List Int} {B : Nat} (hl : ms.length = 9) (hb : ∀ n ∈ ms, n.natAbs ≤ B) (hB : B < 2 ^ 12) : Lt 12 ms := ⟨hl, fun n hn => Nat.lt_of_le_of_lt (hb n hn) hB⟩
theorem lt_of8 {ms : List Int} {B : Nat} (hl : ms.length = 9) (hb : ∀ n ∈ ms, n.natAbs ≤ B) (hB : B < 2 ^ 8) : Lt 8 ms := ⟨hl, fun n hn => Nat.lt_of_le_of_lt (hb n hn) hB⟩
theorem map_step {ms : List Int} {B i : Nat} (hl : ms.length = 9) (hb : ∀ n ∈ ms, n.natAbs ≤ B) (hp : 0 < LS ms) (hB : B ≤ 2000) (hi : i < 2) {s0 : Sl} {N B0 C0 : En → Prop} {R : D → Prop} {ES : Er → En → Prop}
    (hN : ∀ ms' : List Int, ms'.length = 9 → (∀ n ∈ ms', n.natAbs ≤ B + 37) → 0 < LS ms' → N [s0, .own (iD ms'), .val (.int i)]) :
    wpS (b__law_map_1 [s0, .own (iD ms), .val (.int i)]) N R ES B0 C0 := by
  have me := (meas_ok ((lt_of hl hb (by omega)).up (by decide : 12 ≤ 200))).2.2
  have ix : ∀ Q : Nat → Prop, wpO (ixN 9 (4 * (i : Int))) Q = Q (4 * i) := fun Q => by
    have : i = 0 ∨ i = 1 := by omega
    rcases this with rfl | rfl <;> rfl
  have at' : ∀ Q : D → Prop, wpO (atI (iD ms) (4 * (i : Int))) Q = Q (.int (ms.getD (4 * i) 0)) := fun Q => o_dr (ks := ms) (i := 4 * i) (by omega)
  have ll : (iD ms).length = 9 := by rw [show (iD ms).length = ms.length from List.length_map _]; exact hl
  have t4 : Sm 4 := Sm.lt (by decide) (by decide)
  have ti : Sm (i : Int) := Sm.lt (by omega) (by omega)
  simp only [b__law_map_1, ↓w_pin0, ↓w_lent0, ↓w_sPin, ↓w_sLend, ↓w_sAppP, pinE, pin1, dropE, drop1, lendE, lentOk, ↓w_sRaise1, ↓one1_one, ↓w_sTryF, ↓w_sExt, ↓o_any2L, ↓o_any2T, ↓w_lRet, ↓w_lSeq, ↓w_runFL, ↓w_lCallF, ↓w_lRep, ↓o_repL, ↓w_iRevG, ↓o_revIL, ↓o_revIT, ↓o_plusT, ↓o_plusS, ↓o_repS, ↓o_enumL, ↓o_enumT, ↓w_lComp2, ↓w_capL, ↓w_comp2N, ↓w_comp2C, enumD_nil, enumD_cons, fldOf, Er.cls, ↓wR_ok, ↓wR_err, ↓wR_bind, ↓wR_of, ↓wO_some, ↓wO_map, ↓wO_bind, ↓w_var0, ↓w_varS, ↓w_eC, ↓w_e1, ↓w_l1, ↓w_e2, ↓w_l2, ↓w_b1, ↓w_b2, ↓w_eB, ↓w_eF, ↓w_lF, ↓w_eCall, ↓w_eLst, ↓w_aNil, ↓w_aCons, ↓w_eTup, ↓w_lDisp, ↓w_eIf, ↓w_bAnd, ↓w_bOr, ↓w_bNot, ↓w_bYes, ↓w_bChain, ↓w_eAnd, ↓w_eOr, ↓w_iAny, ↓w_oNone, ↓w_oSomeC, ↓w_eSl, ↓w_lSlG, ↓w_lComp, ↓w_sSeq, ↓w_sNil, ↓w_sBreak, ↓w_sCont, ↓w_sSet, ↓w_sSetL, ↓w_sExpr, ↓w_sRet, ↓w_sRetN, ↓w_sIf, ↓w_own0, ↓w_ownS, ↓w_sRetO, ↓w_sApp, ↓w_sSetIx, ↓w_sFrz, ↓w_sThen, ↓w_sRaise, ↓w_sAsg, ↓w_sFor, ↓w_sTry, ↓t_name, ↓t_nil, ↓t_cons, ↓o_plus, ↓o_plusL, ↓o_lAdd, ↓o_sub, ↓o_neg, ↓o_mul, ↓o_fdiv, ↓o_mod, ↓o_pow, ↓o_lt, ↓o_le, ↓o_gt, ↓o_ge, ↓o_eq, ↓o_ne, ↓o_truthB, ↓o_truthI, ↓o_truthN, ↓o_truthL, ↓o_truthT, ↓o_truthS, ↓o_notB, ↓o_isNN, ↓o_isBT, ↓o_isBF, ↓o_isT, ↓o_isIB, ↓o_isSB, ↓o_isLB, ↓o_isTB, ↓o_isNB, ↓o_isNot, ↓o_lenL, ↓o_lenT, ↓o_lenS, ↓o_abs, ↓o_intI, ↓o_intB, ↓o_str, ↓o_gcd, ↓o_list, ↓o_listT, ↓o_tuple, ↓o_tupleT, ↓o_rev, ↓o_type, ↓o_isi, ↓o_isi2, ↓o_rg1, ↓o_rg2, ↓o_zip, ↓o_zipT, ↓o_itemsL, ↓o_itemsT, ↓o_ixL, ↓o_ixT, ↓o_at0, ↓o_at1, ↓o_at2, ↓o_at3, ↓o_at4, ↓o_at5, ↓o_at6, ↓o_at7, ↓o_at8, ↓o_at9, ↓o_at10, ↓o_at11, ↓o_at12, ↓o_at13, ↓o_at14, ↓o_at15, ↓w_eIxO, ↓t_tup1, ↓t_tup2, ↓t_tup3, ↓w_okOnly, ↓w_compN, ↓w_compC, ↓o_all, ↓o_any, ↓bls_nil, ↓bls_cons, ↓o_minL, ↓o_maxL, ↓o_sumL, ↓ints_nil, ↓ints_cons, ↓o_min3, ↓o_max3, ↓o_slL, ↓o_slT, ↓w_eBor, ↓w_bBor, o_isN, w_runF, tyName, isSubTy, tyNames, List.getElem?_cons_zero, List.getElem?_cons_succ, List.set_cons_zero, List.set_cons_succ, List.map_cons, List.map_nil, List.replicate_succ, List.replicate_zero, List.length_cons, List.length_nil, List.cons_append, List.nil_append, Nat.reduceAdd, Nat.reduceSub, Nat.reduceLeDiff, Nat.reduceEqDiff, ↓reduceIte, if_true, if_false, Bool.not_true, Bool.not_false, Bool.true_and, Bool.and_true, Bool.false_and, Bool.and_false, Bool.true_or, Bool.false_or, Bool.or_true, Bool.or_false, reduceCtorEq, decide_true, decide_false, beq_self_eq_true, List.mem_cons, true_or, or_true, true_and, and_true, false_and, and_false, or_false, false_or, String.reduceEq, String.reduceBEq, List.not_mem_nil, Bool.not_eq_true, Bool.false_eq_true, eq_self, not_true_eq_false, not_false_eq_true, Bool.not_eq_eq_eq_not, decide_eq_true_eq, decide_eq_false_iff_not, bne_iff_ne, ne_eq, Int.reduceLT, Int.reduceLE, Int.reduceMul, Int.reduceAdd, Int.reduceNeg, Int.reduceToNat, Int.reducePow, Nat.reduceLT, Int.reduceEq, Int.reduceSub, zipD, List.zipWith_cons_cons, List.zipWith_nil_left, List.zipWith_nil_right, List.all_cons, List.all_nil, id_eq, scalD, borE, wipeE, noOwn, sz_0, szl_0, sz_1, szl_1, sz_2, szl_2, sz_3, szl_3, sz_4, szl_4, sz_5, szl_5, sz_6, szl_6, sz_7, szl_7, sz_8, szl_8, sz_9, szl_9, sz_10, szl_10, sz_11, szl_11, sz_12, szl_12, sz_13, szl_13, sz_14, szl_14, sz_15, szl_15, sz_16, szl_16, sz_17, szl_17, sz_18, szl_18, sz_19, szl_19, sz_20, szl_20, sz_21, szl_21, sz_22, szl_22, sz_23, szl_23, sz_24, szl_24, sz_25, szl_25, sz_26, szl_26, sz_27, szl_27, sz_28, szl_28, sz_29, szl_29, sz_30, szl_30, sz_31, szl_31, sz_32, szl_32, frz, List.all_cons, List.all_nil, me, ix, at', ll, t4, ti]
  split
  · have e : (iD ms).set (4 * i) (.int (ms.getD (4 * i) 0 + 37)) = iD (ms.set (4 * i) (ms.getD (4 * i) 0 + 37)) := by rw [iD, iD, List.map_set]
    rw [e]
    refine hN _ (by rw [List.length_set]; exact hl) (fun n hn => ?_) ?_
    · rcases List.mem_or_eq_of_mem_set hn with h | h
      · have := hb n h
        omega
      · subst h
        have : (ms.getD (4 * i) 0).natAbs ≤ B := by
          rw [List.getD_eq_getElem?_getD, List.getElem?_eq_getElem (by omega)]
          exact hb _ (List.getElem_mem _)
        omega
    · unfold LS at hp ⊢
      rw [List.getD_eq_getElem?_getD, List.getElem?_set_ne (by omega), ← List.getD_eq_getElem?_getD]
      exact hp
  · exact hN _ hl (fun n hn => by have := hb n hn; omega) hp
def MapOk (y : D) : Prop := ∃ ms, Mq 8 ms ∧ 0 < LS ms ∧ y = .tup (iD ms)
theorem map_tail {ms : List Int} (hl : ms.length = 9) (hb : ∀ n ∈ ms, n.natAbs ≤ 100) (hp : 0 < LS ms) {s0 s2 : Sl} {N B0 C0 : En → Prop} {ES : Er → En → Prop} :
    wpS (forL (tName 2) b__law_map_1 (rangeD 0 2) [s0, .own (iD ms), s2]) (fun e => wpS (r__law_map_2 e) N MapOk ES B0 C0) MapOk ES B0 C0 := by
  refine w_forI (fun i e => ∃ ms s2, ms.length = 9 ∧ (∀ n ∈ ms, n.natAbs ≤ 100 + 37 * i) ∧ 0 < LS ms ∧ e = [s0, .own (iD ms), s2]) ⟨ms, s2, hl, fun n hn => by have := hb n hn; omega, hp, rfl⟩ ?_ ?_
  · rintro i d env hd ⟨ms, s2, h1, h2, h3, rfl⟩
    obtain ⟨rfl, hi⟩ := rangeD_get hd
    rw [t_name, show (0 : Int) + (i : Int) = (i : Int) from by omega]
    simp only [List.set_cons_succ, List.set_cons_zero]
    exact map_step h1 h2 h3 (by omega) hi fun ms' q1 q2 q3 => ⟨ms', _, q1, fun n hn => by have := q2 n hn; omega, q3, rfl⟩
  · rintro env ⟨ms, s2, h1, h2, h3, rfl⟩
    rw [rangeD_len] at h2
    have hlt := lt_of8 h1 h2 (by decide)
    have me := (meas_ok (hlt.up (by decide : 8 ≤ 200))).2.2
    by_cases h0 : ME ms = 0
    · have so := (short_ok [2, 0, 5, 0, 3, 1, 0, 0, 1] (by decide) (by decide)).2
      rw [show prim [2, 0, 5, 0, 3, 1, 0, 0, 1] = [2, 0, 5, 0, 3, 1, 0, 0, 1] by decide] at so
      have h0' : (ME ms = 0) = True := eq_true h0
      simp only [iD, List.map_cons, List.map_nil] at so
      simp only [r__law_map_2, ↓w_pin0, ↓w_lent0, ↓w_sPin, ↓w_sLend, ↓w_sAppP, pinE, pin1, dropE, drop1, lendE, lentOk, ↓w_sRaise1, ↓one1_one, ↓w_sTryF, ↓w_sExt, ↓o_any2L, ↓o_any2T, ↓w_lRet, ↓w_lSeq, ↓w_runFL, ↓w_lCallF, ↓w_lRep, ↓o_repL, ↓w_iRevG, ↓o_revIL, ↓o_revIT, ↓o_plusT, ↓o_plusS, ↓o_repS, ↓o_enumL, ↓o_enumT, ↓w_lComp2, ↓w_capL, ↓w_comp2N, ↓w_comp2C, enumD_nil, enumD_cons, fldOf, Er.cls, ↓wR_ok, ↓wR_err, ↓wR_bind, ↓wR_of, ↓wO_some, ↓wO_map, ↓wO_bind, ↓w_var0, ↓w_varS, ↓w_eC, ↓w_e1, ↓w_l1, ↓w_e2, ↓w_l2, ↓w_b1, ↓w_b2, ↓w_eB, ↓w_eF, ↓w_lF, ↓w_eCall, ↓w_eLst, ↓w_aNil, ↓w_aCons, ↓w_eTup, ↓w_lDisp, ↓w_eIf, ↓w_bAnd, ↓w_bOr, ↓w_bNot, ↓w_bYes, ↓w_bChain, ↓w_eAnd, ↓w_eOr, ↓w_iAny, ↓w_oNone, ↓w_oSomeC, ↓w_eSl, ↓w_lSlG, ↓w_lComp, ↓w_sSeq, ↓w_sNil, ↓w_sBreak, ↓w_sCont, ↓w_sSet, ↓w_sSetL, ↓w_sExpr, ↓w_sRet, ↓w_sRetN, ↓w_sIf, ↓w_own0, ↓w_ownS, ↓w_sRetO, ↓w_sApp, ↓w_sSetIx, ↓w_sFrz, ↓w_sThen, ↓w_sRaise, ↓w_sAsg, ↓w_sFor, ↓w_sTry, ↓t_name, ↓t_nil, ↓t_cons, ↓o_plus, ↓o_plusL, ↓o_lAdd, ↓o_sub, ↓o_neg, ↓o_mul, ↓o_fdiv, ↓o_mod, ↓o_pow, ↓o_lt, ↓o_le, ↓o_gt, ↓o_ge, ↓o_eq, ↓o_ne, ↓o_truthB, ↓o_truthI, ↓o_truthN, ↓o_truthL, ↓o_truthT, ↓o_truthS, ↓o_notB, ↓o_isNN, ↓o_isBT, ↓o_isBF, ↓o_isT, ↓o_isIB, ↓o_isSB, ↓o_isLB, ↓o_isTB, ↓o_isNB, ↓o_isNot, ↓o_lenL, ↓o_lenT, ↓o_lenS, ↓o_abs, ↓o_intI, ↓o_intB, ↓o_str, ↓o_gcd, ↓o_list, ↓o_listT, ↓o_tuple, ↓o_tupleT, ↓o_rev, ↓o_type, ↓o_isi, ↓o_isi2, ↓o_rg1, ↓o_rg2, ↓o_zip, ↓o_zipT, ↓o_itemsL, ↓o_itemsT, ↓o_ixL, ↓o_ixT, ↓o_at0, ↓o_at1, ↓o_at2, ↓o_at3, ↓o_at4, ↓o_at5, ↓o_at6, ↓o_at7, ↓o_at8, ↓o_at9, ↓o_at10, ↓o_at11, ↓o_at12, ↓o_at13, ↓o_at14, ↓o_at15, ↓w_eIxO, ↓t_tup1, ↓t_tup2, ↓t_tup3, ↓w_okOnly, ↓w_compN, ↓w_compC, ↓o_all, ↓o_any, ↓bls_nil, ↓bls_cons, ↓o_minL, ↓o_maxL, ↓o_sumL, ↓ints_nil, ↓ints_cons, ↓o_min3, ↓o_max3, ↓o_slL, ↓o_slT, ↓w_eBor, ↓w_bBor, o_isN, w_runF, tyName, isSubTy, tyNames, List.getElem?_cons_zero, List.getElem?_cons_succ, List.set_cons_zero, List.set_cons_succ, List.map_cons, List.map_nil, List.replicate_succ, List.replicate_zero, List.length_cons, List.length_nil, List.cons_append, List.nil_append, Nat.reduceAdd, Nat.reduceSub, Nat.reduceLeDiff, Nat.reduceEqDiff, ↓reduceIte, if_true, if_false, Bool.not_true, Bool.not_false, Bool.true_and, Bool.and_true, Bool.false_and, Bool.and_false, Bool.true_or, Bool.false_or, Bool.or_true, Bool.or_false, reduceCtorEq, decide_true, decide_false, beq_self_eq_true, List.mem_cons, true_or, or_true, true_and, and_true, false_and, and_false, or_false, false_or, String.reduceEq, String.reduceBEq, List.not_mem_nil, Bool.not_eq_true, Bool.false_eq_true, eq_self, not_true_eq_false, not_false_eq_true, Bool.not_eq_eq_eq_not, decide_eq_true_eq, decide_eq_false_iff_not, bne_iff_ne, ne_eq, Int.reduceLT, Int.reduceLE, Int.reduceMul, Int.reduceAdd, Int.reduceNeg, Int.reduceToNat, Int.reducePow, Nat.reduceLT, Int.reduceEq, Int.reduceSub, zipD, List.zipWith_cons_cons, List.zipWith_nil_left, List.zipWith_nil_right, List.all_cons, List.all_nil, id_eq, scalD, borE, wipeE, noOwn, sz_0, szl_0, sz_1, szl_1, sz_2, szl_2, sz_3, szl_3, sz_4, szl_4, sz_5, szl_5, sz_6, szl_6, sz_7, szl_7, sz_8, szl_8, sz_9, szl_9, sz_10, szl_10, sz_11, szl_11, sz_12, szl_12, sz_13, szl_13, sz_14, szl_14, sz_15, szl_15, sz_16, szl_16, sz_17, szl_17, sz_18, szl_18, sz_19, szl_19, sz_20, szl_20, sz_21, szl_21, sz_22, szl_22, sz_23, szl_23, sz_24, szl_24, sz_25, szl_25, sz_26, szl_26, sz_27, szl_27, sz_28, szl_28, sz_29, szl_29, sz_30, szl_30, sz_31, szl_31, sz_32, szl_32, frz, List.all_cons, List.all_nil, me, h0', so]
      exact ⟨[2, 0, 5, 0, 3, 1, 0, 0, 1], ⟨⟨rfl, by decide⟩, by decide, by decide⟩, by decide, rfl⟩
    · have so := (short_ok ms (fun n hn => lt_up (hlt.2 n hn) (by decide)) (by omega)).2
      have h0' : (ME ms = 0) = False := eq_false h0
      simp only [r__law_map_2, ↓w_pin0, ↓w_lent0, ↓w_sPin, ↓w_sLend, ↓w_sAppP, pinE, pin1, dropE, drop1, lendE, lentOk, ↓w_sRaise1, ↓one1_one, ↓w_sTryF, ↓w_sExt, ↓o_any2L, ↓o_any2T, ↓w_lRet, ↓w_lSeq, ↓w_runFL, ↓w_lCallF, ↓w_lRep, ↓o_repL, ↓w_iRevG, ↓o_revIL, ↓o_revIT, ↓o_plusT, ↓o_plusS, ↓o_repS, ↓o_enumL, ↓o_enumT, ↓w_lComp2, ↓w_capL, ↓w_comp2N, ↓w_comp2C, enumD_nil, enumD_cons, fldOf, Er.cls, ↓wR_ok, ↓wR_err, ↓wR_bind, ↓wR_of, ↓wO_some, ↓wO_map, ↓wO_bind, ↓w_var0, ↓w_varS, ↓w_eC, ↓w_e1, ↓w_l1, ↓w_e2, ↓w_l2, ↓w_b1, ↓w_b2, ↓w_eB, ↓w_eF, ↓w_lF, ↓w_eCall, ↓w_eLst, ↓w_aNil, ↓w_aCons, ↓w_eTup, ↓w_lDisp, ↓w_eIf, ↓w_bAnd, ↓w_bOr, ↓w_bNot, ↓w_bYes, ↓w_bChain, ↓w_eAnd, ↓w_eOr, ↓w_iAny, ↓w_oNone, ↓w_oSomeC, ↓w_eSl, ↓w_lSlG, ↓w_lComp, ↓w_sSeq, ↓w_sNil, ↓w_sBreak, ↓w_sCont, ↓w_sSet, ↓w_sSetL, ↓w_sExpr, ↓w_sRet, ↓w_sRetN, ↓w_sIf, ↓w_own0, ↓w_ownS, ↓w_sRetO, ↓w_sApp, ↓w_sSetIx, ↓w_sFrz, ↓w_sThen, ↓w_sRaise, ↓w_sAsg, ↓w_sFor, ↓w_sTry, ↓t_name, ↓t_nil, ↓t_cons, ↓o_plus, ↓o_plusL, ↓o_lAdd, ↓o_sub, ↓o_neg, ↓o_mul, ↓o_fdiv, ↓o_mod, ↓o_pow, ↓o_lt, ↓o_le, ↓o_gt, ↓o_ge, ↓o_eq, ↓o_ne, ↓o_truthB, ↓o_truthI, ↓o_truthN, ↓o_truthL, ↓o_truthT, ↓o_truthS, ↓o_notB, ↓o_isNN, ↓o_isBT, ↓o_isBF, ↓o_isT, ↓o_isIB, ↓o_isSB, ↓o_isLB, ↓o_isTB, ↓o_isNB, ↓o_isNot, ↓o_lenL, ↓o_lenT, ↓o_lenS, ↓o_abs, ↓o_intI, ↓o_intB, ↓o_str, ↓o_gcd, ↓o_list, ↓o_listT, ↓o_tuple, ↓o_tupleT, ↓o_rev, ↓o_type, ↓o_isi, ↓o_isi2, ↓o_rg1, ↓o_rg2, ↓o_zip, ↓o_zipT, ↓o_itemsL, ↓o_itemsT, ↓o_ixL, ↓o_ixT, ↓o_at0, ↓o_at1, ↓o_at2, ↓o_at3, ↓o_at4, ↓o_at5, ↓o_at6, ↓o_at7, ↓o_at8, ↓o_at9, ↓o_at10, ↓o_at11, ↓o_at12, ↓o_at13, ↓o_at14, ↓o_at15, ↓w_eIxO, ↓t_tup1, ↓t_tup2, ↓t_tup3, ↓w_okOnly, ↓w_compN, ↓w_compC, ↓o_all, ↓o_any, ↓bls_nil, ↓bls_cons, ↓o_minL, ↓o_maxL, ↓o_sumL, ↓ints_nil, ↓ints_cons, ↓o_min3, ↓o_max3, ↓o_slL, ↓o_slT, ↓w_eBor, ↓w_bBor, o_isN, w_runF, tyName, isSubTy, tyNames, List.getElem?_cons_zero, List.getElem?_cons_succ, List.set_cons_zero, List.set_cons_succ, List.map_cons, List.map_nil, List.replicate_succ, List.replicate_zero, List.length_cons, List.length_nil, List.cons_append, List.nil_append, Nat.reduceAdd, Nat.reduceSub, Nat.reduceLeDiff, Nat.reduceEqDiff, ↓reduceIte, if_true, if_false, Bool.not_true, Bool.not_false, Bool.true_and, Bool.and_true, Bool.false_and, Bool.and_false, Bool.true_or, Bool.false_or, Bool.or_true, Bool.or_false, reduceCtorEq, decide_true, decide_false, beq_self_eq_true, List.mem_cons, true_or, or_true, true_and, and_true, false_and, and_false, or_false, false_or, String.reduceEq, String.reduceBEq, List.not_mem_nil, Bool.not_eq_true, Bool.false_eq_true, eq_self, not_true_eq_false, not_false_eq_true, Bool.not_eq_eq_eq_not, decide_eq_true_eq, decide_eq_false_iff_not, bne_iff_ne, ne_eq, Int.reduceLT, Int.reduceLE, Int.reduceMul, Int.reduceAdd, Int.reduceNeg, Int.reduceToNat, Int.reducePow, Nat.reduceLT, Int.reduceEq, Int.reduceSub, zipD, List.zipWith_cons_cons, List.zipWith_nil_left, List.zipWith_nil_right, List.all_cons, List.all_nil, id_eq, scalD, borE, wipeE, noOwn, sz_0, szl_0, sz_1, szl_1, sz_2, szl_2, sz_3, szl_3, sz_4, szl_4, sz_5, szl_5, sz_6, szl_6, sz_7, szl_7, sz_8, szl_8, sz_9, szl_9, sz_10, szl_10, sz_11, szl_11, sz_12, szl_12, sz_13, szl_13, sz_14, szl_14, sz_15, szl_15, sz_16, szl_16, sz_17, szl_17, sz_18, szl_18, sz_19, szl_19, sz_20, szl_20, sz_21, szl_21, sz_22, szl_22, sz_23, szl_23, sz_24, szl_24, sz_25, szl_25, sz_26, szl_26, sz_27, szl_27, sz_28, szl_28, sz_29, szl_29, sz_30, szl_30, sz_31, szl_31, sz_32, szl_32, frz, List.all_cons, List.all_nil, me, h0', so]
      exact ⟨prim ms, (mq_prim hlt h0).1, LS_prim hlt h0 h3, rfl⟩
theorem map_ok {xs : List D} {k : Nat → Int} (e : ∀ i : Nat, i < 10 → ∀ Q : D → Prop, wpO (atI xs (i : Int)) Q = Q (.int (k i))) : ∃ ms, Mq 8 ms ∧ 0 < LS ms ∧ m__law_map [.lst xs] = .ok (.tup (iD ms)) := by
  suffices h : wpR (m__law_map [.lst xs]) MapOk (fun _ => False) by
    revert h
    cases m__law_map [.lst xs] with
    | ok y => rintro ⟨ms, h, hp, rfl⟩; exact ⟨ms, h, hp, rfl⟩
    | err e => exact fun h => h.elim
    | stuck => exact fun h => h.elim
  have e0 : ∀ Q : D → Prop, wpO (atI xs 0) Q = Q (.int (k 0)) := e 0 (by decide)
  have e1 : ∀ Q : D → Prop, wpO (atI xs 1) Q = Q (.int (k 1)) := e 1 (by decide)
  have e2 : ∀ Q : D → Prop, wpO (atI xs 2) Q = Q (.int (k 2)) := e 2 (by decide)
  have e3 : ∀ Q : D → Prop, wpO (atI xs 3) Q = Q (.int (k 3)) := e 3 (by decide)
  have e4 : ∀ Q : D → Prop, wpO (atI xs 4) Q = Q (.int (k 4)) := e 4 (by decide)
  have e5 : ∀ Q : D → Prop, wpO (atI xs 5) Q = Q (.int (k 5)) := e 5 (by decide)
  have e6 : ∀ Q : D → Prop, wpO (atI xs 6) Q = Q (.int (k 6)) := e 6 (by decide)
  have e7 : ∀ Q : D → Prop, wpO (atI xs 7) Q = Q (.int (k 7)) := e 7 (by decide)
  have e8 : ∀ Q : D → Prop, wpO (atI xs 8) Q = Q (.int (k 8)) := e 8 (by decide)
  have e9 : ∀ Q : D → Prop, wpO (atI xs 9) Q = Q (.int (k 9)) := e 9 (by decide)
  have c2 := fun x : Int => fmod_pos x (show (0 : Int) < 2 by decide)
  have c3 := fun x : Int => fmod_pos x (show (0 : Int) < 3 by decide)
  have c9 := fun x : Int => fmod_pos x (show (0 : Int) < 9 by decide)
  have c21 := fun x : Int => fmod_pos x (show (0 : Int) < 21 by decide)
  have c61 := fun x : Int => fmod_pos x (show (0 : Int) < 61 by decide)
  have c60 := fun x : Int => fmod_pos x (show (0 : Int) < 60 by decide)
  have i6 : ∀ Q : Nat → Prop, wpO (ixN 9 6) Q = Q 6 := fun Q => propext Iff.rfl
  have i7 : ∀ Q : Nat → Prop, wpO (ixN 9 7) Q = Q 7 := fun Q => propext Iff.rfl
  have i8 : ∀ Q : Nat → Prop, wpO (ixN 9 8) Q = Q 8 := fun Q => propext Iff.rfl
  simp only [m__law_map, g__law_map, ↓w_pin0, ↓w_lent0, ↓w_sPin, ↓w_sLend, ↓w_sAppP, pinE, pin1, dropE, drop1, lendE, lentOk, ↓w_sRaise1, ↓one1_one, ↓w_sTryF, ↓w_sExt, ↓o_any2L, ↓o_any2T, ↓w_lRet, ↓w_lSeq, ↓w_runFL, ↓w_lCallF, ↓w_lRep, ↓o_repL, ↓w_iRevG, ↓o_revIL, ↓o_revIT, ↓o_plusT, ↓o_plusS, ↓o_repS, ↓o_enumL, ↓o_enumT, ↓w_lComp2, ↓w_capL, ↓w_comp2N, ↓w_comp2C, enumD_nil, enumD_cons, fldOf, Er.cls, ↓wR_ok, ↓wR_err, ↓wR_bind, ↓wR_of, ↓wO_some, ↓wO_map, ↓wO_bind, ↓w_var0, ↓w_varS, ↓w_eC, ↓w_e1, ↓w_l1, ↓w_e2, ↓w_l2, ↓w_b1, ↓w_b2, ↓w_eB, ↓w_eF, ↓w_lF, ↓w_eCall, ↓w_eLst, ↓w_aNil, ↓w_aCons, ↓w_eTup, ↓w_lDisp, ↓w_eIf, ↓w_bAnd, ↓w_bOr, ↓w_bNot, ↓w_bYes, ↓w_bChain, ↓w_eAnd, ↓w_eOr, ↓w_iAny, ↓w_oNone, ↓w_oSomeC, ↓w_eSl, ↓w_lSlG, ↓w_lComp, ↓w_sSeq, ↓w_sNil, ↓w_sBreak, ↓w_sCont, ↓w_sSet, ↓w_sSetL, ↓w_sExpr, ↓w_sRet, ↓w_sRetN, ↓w_sIf, ↓w_own0, ↓w_ownS, ↓w_sRetO, ↓w_sApp, ↓w_sSetIx, ↓w_sFrz, ↓w_sThen, ↓w_sRaise, ↓w_sAsg, ↓w_sFor, ↓w_sTry, ↓t_name, ↓t_nil, ↓t_cons, ↓o_plus, ↓o_plusL, ↓o_lAdd, ↓o_sub, ↓o_neg, ↓o_mul, ↓o_fdiv, ↓o_mod, ↓o_pow, ↓o_lt, ↓o_le, ↓o_gt, ↓o_ge, ↓o_eq, ↓o_ne, ↓o_truthB, ↓o_truthI, ↓o_truthN, ↓o_truthL, ↓o_truthT, ↓o_truthS, ↓o_notB, ↓o_isNN, ↓o_isBT, ↓o_isBF, ↓o_isT, ↓o_isIB, ↓o_isSB, ↓o_isLB, ↓o_isTB, ↓o_isNB, ↓o_isNot, ↓o_lenL, ↓o_lenT, ↓o_lenS, ↓o_abs, ↓o_intI, ↓o_intB, ↓o_str, ↓o_gcd, ↓o_list, ↓o_listT, ↓o_tuple, ↓o_tupleT, ↓o_rev, ↓o_type, ↓o_isi, ↓o_isi2, ↓o_rg1, ↓o_rg2, ↓o_zip, ↓o_zipT, ↓o_itemsL, ↓o_itemsT, ↓o_ixL, ↓o_ixT, ↓o_at0, ↓o_at1, ↓o_at2, ↓o_at3, ↓o_at4, ↓o_at5, ↓o_at6, ↓o_at7, ↓o_at8, ↓o_at9, ↓o_at10, ↓o_at11, ↓o_at12, ↓o_at13, ↓o_at14, ↓o_at15, ↓w_eIxO, ↓t_tup1, ↓t_tup2, ↓t_tup3, ↓w_okOnly, ↓w_compN, ↓w_compC, ↓o_all, ↓o_any, ↓bls_nil, ↓bls_cons, ↓o_minL, ↓o_maxL, ↓o_sumL, ↓ints_nil, ↓ints_cons, ↓o_min3, ↓o_max3, ↓o_slL, ↓o_slT, ↓w_eBor, ↓w_bBor, o_isN, w_runF, tyName, isSubTy, tyNames, List.getElem?_cons_zero, List.getElem?_cons_succ, List.set_cons_zero, List.set_cons_succ, List.map_cons, List.map_nil, List.replicate_succ, List.replicate_zero, List.length_cons, List.length_nil, List.cons_append, List.nil_append, Nat.reduceAdd, Nat.reduceSub, Nat.reduceLeDiff, Nat.reduceEqDiff, ↓reduceIte, if_true, if_false, Bool.not_true, Bool.not_false, Bool.true_and, Bool.and_true, Bool.false_and, Bool.and_false, Bool.true_or, Bool.false_or, Bool.or_true, Bool.or_false, reduceCtorEq, decide_true, decide_false, beq_self_eq_true, List.mem_cons, true_or, or_true, true_and, and_true, false_and, and_false, or_false, false_or, String.reduceEq, String.reduceBEq, List.not_mem_nil, Bool.not_eq_true, Bool.false_eq_true, eq_self, not_true_eq_false, not_false_eq_true, Bool.not_eq_eq_eq_not, decide_eq_true_eq, decide_eq_false_iff_not, bne_iff_ne, ne_eq, Int.reduceLT, Int.reduceLE, Int.reduceMul, Int.reduceAdd, Int.reduceNeg, Int.reduceToNat, Int.reducePow, Nat.reduceLT, Int.reduceEq, Int.reduceSub, zipD, List.zipWith_cons_cons, List.zipWith_nil_left, List.zipWith_nil_right, List.all_cons, List.all_nil, id_eq, scalD, borE, wipeE, noOwn, sz_0, szl_0, sz_1, szl_1, sz_2, szl_2, sz_3, szl_3, sz_4, szl_4, sz_5, szl_5, sz_6, szl_6, sz_7, szl_7, sz_8, szl_8, sz_9, szl_9, sz_10, szl_10, sz_11, szl_11, sz_12, szl_12, sz_13, szl_13, sz_14, szl_14, sz_15, szl_15, sz_16, szl_16, sz_17, szl_17, sz_18, szl_18, sz_19, szl_19, sz_20, szl_20, sz_21, szl_21, sz_22, szl_22, sz_23, szl_23, sz_24, szl_24, sz_25, szl_25, sz_26, szl_26, sz_27, szl_27, sz_28, szl_28, sz_29, szl_29, sz_30, szl_30, sz_31, szl_31, sz_32, szl_32, frz, List.all_cons, List.all_nil, e0, e1, e2, e3, e4, e5, e6, e7, e8, e9, i6, i7, i8]
  have p0 := c21 (k 0)
  have p1 := c9 (k 1)
  have p2 := c61 (k 2)
  have p3 := c9 (k 3)
  have p4 := c21 (k 4)
  have p5 := c61 (k 5)
  have p6 := c3 (k 6)
  have p7 := c3 (k 7)
  have p8 := c9 (k 8)
  have u8 := c60 (k 8)
  split <;> (refine map_tail (ms := [_, _, _, _, _, _, _, _, _]) rfl ?_ ?_; (simp only [List.mem_cons, List.not_mem_nil, or_false, forall_eq_or_imp, forall_eq]; refine ⟨?_, ?_, ?_, ?_, ?_, ?_, ?_, ?_, ?_⟩ <;> omega); (show (0 : Int) < _ + _; omega))
end AF

namespace AF
open PySem PySem.Spec PyProof.Rows L2
/-! ### drawn steps -/
def tI (ms : List Int) : D := .tup (iD ms)
theorem mq_of {k : Nat} {ms : List Int} (hl : Lt k ms) (h1 : ∃ n ∈ ms, n = 1 ∨ n = -1) (hd : ME ms ≠ 0) : Mq k ms := by
  refine ⟨hl, ?_, hd⟩
  obtain ⟨n, hn, e⟩ := h1
  have q := gcdL_dvd hn
  rcases e with rfl | rfl
  · exact Nat.dvd_one.mp (Int.natCast_dvd_natCast.mp q)
  · exact Nat.dvd_one.mp (Int.natCast_dvd_natCast.mp (Int.dvd_neg.mp q))
theorem lt12 {a b c d e f g h i : Int} (hb : a.natAbs < 128 ∧ b.natAbs < 128 ∧ c.natAbs < 128 ∧ d.natAbs < 128 ∧ e.natAbs < 128 ∧ f.natAbs < 128 ∧ g.natAbs < 128 ∧ h.natAbs < 128 ∧ i.natAbs < 128) : Lt 7 [a, b, c, d, e, f, g, h, i] := lt9 hb
theorem me_kind4 {a b c d k : Int} (ha : 0 ≤ a ∧ a ≤ 8) (hb : 0 ≤ b ∧ b ≤ 8) (hc : -1 ≤ c ∧ c ≤ 1) (hd : -1 ≤ d ∧ d ≤ 1) (hk : 30 ≤ k) : ME [30, 0, a, 0, 30, b, c, d, k] ≠ 0 := by
  have hc' : c = -1 ∨ c = 0 ∨ c = 1 := by omega
  have hd' : d = -1 ∨ d = 0 ∨ d = 1 := by omega
  simp only [ME, meas]
  rcases hc' with rfl | rfl | rfl <;> rcases hd' with rfl | rfl | rfl <;> omega
theorem step_ok {xs : List D} {k : Nat → Int} (e : ∀ i : Nat, i < 4 → ∀ Q : D → Prop, wpO (atI xs (i : Int)) Q = Q (.int (k i))) : ∃ ms, Mq 7 ms ∧ m__law_step [.lst xs] = .ok (tI ms) := by
  suffices h : wpR (m__law_step [.lst xs]) (fun y => ∃ ms, Mq 7 ms ∧ y = tI ms) (fun _ => False) by
    revert h
    cases m__law_step [.lst xs] with
    | ok y => rintro ⟨ms, h, rfl⟩; exact ⟨ms, h, rfl⟩
    | err e => exact fun h => h.elim
    | stuck => exact fun h => h.elim
  have e0 : ∀ Q : D → Prop, wpO (atI xs 0) Q = Q (.int (k 0)) := e 0 (by decide)
  have e1 : ∀ Q : D → Prop, wpO (atI xs 1) Q = Q (.int (k 1)) := e 1 (by decide)
  have e2 : ∀ Q : D → Prop, wpO (atI xs 2) Q = Q (.int (k 2)) := e 2 (by decide)
  have e3 : ∀ Q : D → Prop, wpO (atI xs 3) Q = Q (.int (k 3)) := e 3 (by decide)
  have c5 := fmod_pos (k 0) (show (0 : Int) < 5 by decide)
  have c41 := fun x : Int => fmod_pos x (show (0 : Int) < 41 by decide)
  have p1 := c41 (k 1)
  have p2 := c41 (k 2)
  have p3 := fmod_pos (k 1) (show (0 : Int) < 4 by decide)
  have p4 := fmod_pos (k 2) (show (0 : Int) < 3 by decide)
  have p5 := fmod_pos (k 1) (show (0 : Int) < 9 by decide)
  have p6 := fmod_pos (k 2) (show (0 : Int) < 9 by decide)
  have p7 := fmod_pos (k 1) (show (0 : Int) < 3 by decide)
  have p8 := fmod_pos (k 3) (show (0 : Int) < 90 by decide)
  have so1 := short_ok [1 + (k 1).fmod 4, 0, 0, 0, 1 + (k 1).fmod 4, 0, 0, 0, 1 + (k 2).fmod 3] 
  have so4 := short_ok [30, 0, (k 1).fmod 9, 0, 30, (k 2).fmod 9, (k 1).fmod 3 - 1, (k 2).fmod 3 - 1, 30 + (k 3).fmod 90] 
  have l1 : Lt 7 [1 + (k 1).fmod 4, 0, 0, 0, 1 + (k 1).fmod 4, 0, 0, 0, 1 + (k 2).fmod 3] := lt12 (by omega)
  have l4 : Lt 7 [30, 0, (k 1).fmod 9, 0, 30, (k 2).fmod 9, (k 1).fmod 3 - 1, (k 2).fmod 3 - 1, 30 + (k 3).fmod 90] := lt12 (by omega)
  have so1 := (so1 (fun n hn => lt_up (l1.2 n hn) (by decide)) (show 9 ≤ 1000 by decide)).2
  have so4 := (so4 (fun n hn => lt_up (l4.2 n hn) (by decide)) (show 9 ≤ 1000 by decide)).2
  simp only [iD, List.map_cons, List.map_nil] at so1 so4
  simp only [m__law_step, g__law_step, ↓w_pin0, ↓w_lent0, ↓w_sPin, ↓w_sLend, ↓w_sAppP, pinE, pin1, dropE, drop1, lendE, lentOk, ↓w_sRaise1, ↓one1_one, ↓w_sTryF, ↓w_sExt, ↓o_any2L, ↓o_any2T, ↓w_lRet, ↓w_lSeq, ↓w_runFL, ↓w_lCallF, ↓w_lRep, ↓o_repL, ↓w_iRevG, ↓o_revIL, ↓o_revIT, ↓o_plusT, ↓o_plusS, ↓o_repS, ↓o_enumL, ↓o_enumT, ↓w_lComp2, ↓w_capL, ↓w_comp2N, ↓w_comp2C, enumD_nil, enumD_cons, fldOf, Er.cls, ↓wR_ok, ↓wR_err, ↓wR_bind, ↓wR_of, ↓wO_some, ↓wO_map, ↓wO_bind, ↓w_var0, ↓w_varS, ↓w_eC, ↓w_e1, ↓w_l1, ↓w_e2, ↓w_l2, ↓w_b1, ↓w_b2, ↓w_eB, ↓w_eF, ↓w_lF, ↓w_eCall, ↓w_eLst, ↓w_aNil, ↓w_aCons, ↓w_eTup, ↓w_lDisp, ↓w_eIf, ↓w_bAnd, ↓w_bOr, ↓w_bNot, ↓w_bYes, ↓w_bChain, ↓w_eAnd, ↓w_eOr, ↓w_iAny, ↓w_oNone, ↓w_oSomeC, ↓w_eSl, ↓w_lSlG, ↓w_lComp, ↓w_sSeq, ↓w_sNil, ↓w_sBreak, ↓w_sCont, ↓w_sSet, ↓w_sSetL, ↓w_sExpr, ↓w_sRet, ↓w_sRetN, ↓w_sIf, ↓w_own0, ↓w_ownS, ↓w_sRetO, ↓w_sApp, ↓w_sSetIx, ↓w_sFrz, ↓w_sThen, ↓w_sRaise, ↓w_sAsg, ↓w_sFor, ↓w_sTry, ↓t_name, ↓t_nil, ↓t_cons, ↓o_plus, ↓o_plusL, ↓o_lAdd, ↓o_sub, ↓o_neg, ↓o_mul, ↓o_fdiv, ↓o_mod, ↓o_pow, ↓o_lt, ↓o_le, ↓o_gt, ↓o_ge, ↓o_eq, ↓o_ne, ↓o_truthB, ↓o_truthI, ↓o_truthN, ↓o_truthL, ↓o_truthT, ↓o_truthS, ↓o_notB, ↓o_isNN, ↓o_isBT, ↓o_isBF, ↓o_isT, ↓o_isIB, ↓o_isSB, ↓o_isLB, ↓o_isTB, ↓o_isNB, ↓o_isNot, ↓o_lenL, ↓o_lenT, ↓o_lenS, ↓o_abs, ↓o_intI, ↓o_intB, ↓o_str, ↓o_gcd, ↓o_list, ↓o_listT, ↓o_tuple, ↓o_tupleT, ↓o_rev, ↓o_type, ↓o_isi, ↓o_isi2, ↓o_rg1, ↓o_rg2, ↓o_zip, ↓o_zipT, ↓o_itemsL, ↓o_itemsT, ↓o_ixL, ↓o_ixT, ↓o_at0, ↓o_at1, ↓o_at2, ↓o_at3, ↓o_at4, ↓o_at5, ↓o_at6, ↓o_at7, ↓o_at8, ↓o_at9, ↓o_at10, ↓o_at11, ↓o_at12, ↓o_at13, ↓o_at14, ↓o_at15, ↓w_eIxO, ↓t_tup1, ↓t_tup2, ↓t_tup3, ↓w_okOnly, ↓w_compN, ↓w_compC, ↓o_all, ↓o_any, ↓bls_nil, ↓bls_cons, ↓o_minL, ↓o_maxL, ↓o_sumL, ↓ints_nil, ↓ints_cons, ↓o_min3, ↓o_max3, ↓o_slL, ↓o_slT, ↓w_eBor, ↓w_bBor, o_isN, w_runF, tyName, isSubTy, tyNames, List.getElem?_cons_zero, List.getElem?_cons_succ, List.set_cons_zero, List.set_cons_succ, List.map_cons, List.map_nil, List.replicate_succ, List.replicate_zero, List.length_cons, List.length_nil, List.cons_append, List.nil_append, Nat.reduceAdd, Nat.reduceSub, Nat.reduceLeDiff, Nat.reduceEqDiff, ↓reduceIte, if_true, if_false, Bool.not_true, Bool.not_false, Bool.true_and, Bool.and_true, Bool.false_and, Bool.and_false, Bool.true_or, Bool.false_or, Bool.or_true, Bool.or_false, reduceCtorEq, decide_true, decide_false, beq_self_eq_true, List.mem_cons, true_or, or_true, true_and, and_true, false_and, and_false, or_false, false_or, String.reduceEq, String.reduceBEq, List.not_mem_nil, Bool.not_eq_true, Bool.false_eq_true, eq_self, not_true_eq_false, not_false_eq_true, Bool.not_eq_eq_eq_not, decide_eq_true_eq, decide_eq_false_iff_not, bne_iff_ne, ne_eq, Int.reduceLT, Int.reduceLE, Int.reduceMul, Int.reduceAdd, Int.reduceNeg, Int.reduceToNat, Int.reducePow, Nat.reduceLT, Int.reduceEq, Int.reduceSub, zipD, List.zipWith_cons_cons, List.zipWith_nil_left, List.zipWith_nil_right, List.all_cons, List.all_nil, id_eq, scalD, borE, wipeE, noOwn, sz_0, szl_0, sz_1, szl_1, sz_2, szl_2, sz_3, szl_3, sz_4, szl_4, sz_5, szl_5, sz_6, szl_6, sz_7, szl_7, sz_8, szl_8, sz_9, szl_9, sz_10, szl_10, sz_11, szl_11, sz_12, szl_12, sz_13, szl_13, sz_14, szl_14, sz_15, szl_15, sz_16, szl_16, sz_17, szl_17, sz_18, szl_18, sz_19, szl_19, sz_20, szl_20, sz_21, szl_21, sz_22, szl_22, sz_23, szl_23, sz_24, szl_24, sz_25, szl_25, sz_26, szl_26, sz_27, szl_27, sz_28, szl_28, sz_29, szl_29, sz_30, szl_30, sz_31, szl_31, sz_32, szl_32, frz, List.all_cons, List.all_nil, e0, e1, e2, e3, so1, so4]
  split
  · exact ⟨[1, 0, (k 1).fmod 41 - 20, 0, 1, (k 2).fmod 41 - 20, 0, 0, 1], mq_of (lt12 (by omega)) ⟨1, by simp, .inl rfl⟩ (by simp only [ME, meas]; omega), rfl⟩
  · split
    · refine ⟨prim _, (mq_prim l1 ?_).1, rfl⟩
      have h1 : 0 < (1 + (k 1).fmod 4) * ((1 + (k 1).fmod 4) * (1 + (k 2).fmod 3)) := Int.mul_pos (by omega) (Int.mul_pos (by omega) (by omega))
      simp only [ME, meas]
      grind
    · split
      · exact ⟨[0, -1, 0, 1, 0, 0, 0, 0, 1], mq_of (lt12 (by decide)) ⟨1, by simp, .inl rfl⟩ (by decide), rfl⟩
      · split
        · exact ⟨[0, 1, 0, 1, 0, 0, 0, 0, 1], mq_of (lt12 (by decide)) ⟨1, by simp, .inl rfl⟩ (by decide), rfl⟩
        · exact ⟨prim _, (mq_prim l4 (me_kind4 (by omega) (by omega) (by omega) (by omega) (by omega))).1, rfl⟩
/-! ### what are steps -/
def badS : Er := .one "BadMap" "reason" (.str [115, 116, 101, 112, 115])
theorem bls_map (f : D → Bool) : ∀ xs : List D, bls? (xs.map fun d => .bl (f d)) = some (xs.map f)
  | [] => rfl
  | x :: xs => by
    show (bls? (xs.map fun d => .bl (f d))).map _ = _
    rw [bls_map f xs]
    rfl
theorem chk_of {xs : List D} (f : D → Bool) (hl : xs.length ≤ 20) (hm : ∀ d ∈ xs, m_is_map [d] = .ok (.bl (f d))) {QD : D → Prop} {E : Er → Prop} (h : if xs.all f = true then QD .non else E badS) : wpR (m_check_steps [.lst xs]) QD E := by
  have hl' : ((xs.length : Int) > 20) = False := eq_false (by omega)
  simp only [m_check_steps, g_check_steps, c_MOST_STEPS, ↓w_pin0, ↓w_lent0, ↓w_sPin, ↓w_sLend, ↓w_sAppP, pinE, pin1, dropE, drop1, lendE, lentOk, ↓w_sRaise1, ↓one1_one, ↓w_sTryF, ↓w_sExt, ↓o_any2L, ↓o_any2T, ↓w_lRet, ↓w_lSeq, ↓w_runFL, ↓w_lCallF, ↓w_lRep, ↓o_repL, ↓w_iRevG, ↓o_revIL, ↓o_revIT, ↓o_plusT, ↓o_plusS, ↓o_repS, ↓o_enumL, ↓o_enumT, ↓w_lComp2, ↓w_capL, ↓w_comp2N, ↓w_comp2C, enumD_nil, enumD_cons, fldOf, Er.cls, ↓wR_ok, ↓wR_err, ↓wR_bind, ↓wR_of, ↓wO_some, ↓wO_map, ↓wO_bind, ↓w_var0, ↓w_varS, ↓w_eC, ↓w_e1, ↓w_l1, ↓w_e2, ↓w_l2, ↓w_b1, ↓w_b2, ↓w_eB, ↓w_eF, ↓w_lF, ↓w_eCall, ↓w_eLst, ↓w_aNil, ↓w_aCons, ↓w_eTup, ↓w_lDisp, ↓w_eIf, ↓w_bAnd, ↓w_bOr, ↓w_bNot, ↓w_bYes, ↓w_bChain, ↓w_eAnd, ↓w_eOr, ↓w_iAny, ↓w_oNone, ↓w_oSomeC, ↓w_eSl, ↓w_lSlG, ↓w_lComp, ↓w_sSeq, ↓w_sNil, ↓w_sBreak, ↓w_sCont, ↓w_sSet, ↓w_sSetL, ↓w_sExpr, ↓w_sRet, ↓w_sRetN, ↓w_sIf, ↓w_own0, ↓w_ownS, ↓w_sRetO, ↓w_sApp, ↓w_sSetIx, ↓w_sFrz, ↓w_sThen, ↓w_sRaise, ↓w_sAsg, ↓w_sFor, ↓w_sTry, ↓t_name, ↓t_nil, ↓t_cons, ↓o_plus, ↓o_plusL, ↓o_lAdd, ↓o_sub, ↓o_neg, ↓o_mul, ↓o_fdiv, ↓o_mod, ↓o_pow, ↓o_lt, ↓o_le, ↓o_gt, ↓o_ge, ↓o_eq, ↓o_ne, ↓o_truthB, ↓o_truthI, ↓o_truthN, ↓o_truthL, ↓o_truthT, ↓o_truthS, ↓o_notB, ↓o_isNN, ↓o_isBT, ↓o_isBF, ↓o_isT, ↓o_isIB, ↓o_isSB, ↓o_isLB, ↓o_isTB, ↓o_isNB, ↓o_isNot, ↓o_lenL, ↓o_lenT, ↓o_lenS, ↓o_abs, ↓o_intI, ↓o_intB, ↓o_str, ↓o_gcd, ↓o_list, ↓o_listT, ↓o_tuple, ↓o_tupleT, ↓o_rev, ↓o_type, ↓o_isi, ↓o_isi2, ↓o_rg1, ↓o_rg2, ↓o_zip, ↓o_zipT, ↓o_itemsL, ↓o_itemsT, ↓o_ixL, ↓o_ixT, ↓o_at0, ↓o_at1, ↓o_at2, ↓o_at3, ↓o_at4, ↓o_at5, ↓o_at6, ↓o_at7, ↓o_at8, ↓o_at9, ↓o_at10, ↓o_at11, ↓o_at12, ↓o_at13, ↓o_at14, ↓o_at15, ↓w_eIxO, ↓t_tup1, ↓t_tup2, ↓t_tup3, ↓w_okOnly, ↓o_all, ↓o_any, ↓bls_nil, ↓bls_cons, ↓o_minL, ↓o_maxL, ↓o_sumL, ↓ints_nil, ↓ints_cons, ↓o_min3, ↓o_max3, ↓o_slL, ↓o_slT, ↓w_eBor, ↓w_bBor, o_isN, w_runF, tyName, isSubTy, tyNames, List.getElem?_cons_zero, List.getElem?_cons_succ, List.set_cons_zero, List.set_cons_succ, List.map_cons, List.map_nil, List.replicate_succ, List.replicate_zero, List.length_cons, List.length_nil, List.cons_append, List.nil_append, Nat.reduceAdd, Nat.reduceSub, Nat.reduceLeDiff, Nat.reduceEqDiff, ↓reduceIte, if_true, if_false, Bool.not_true, Bool.not_false, Bool.true_and, Bool.and_true, Bool.false_and, Bool.and_false, Bool.true_or, Bool.false_or, Bool.or_true, Bool.or_false, reduceCtorEq, decide_true, decide_false, beq_self_eq_true, List.mem_cons, true_or, or_true, true_and, and_true, false_and, and_false, or_false, false_or, String.reduceEq, String.reduceBEq, List.not_mem_nil, Bool.not_eq_true, Bool.false_eq_true, eq_self, not_true_eq_false, not_false_eq_true, Bool.not_eq_eq_eq_not, decide_eq_true_eq, decide_eq_false_iff_not, bne_iff_ne, ne_eq, Int.reduceLT, Int.reduceLE, Int.reduceMul, Int.reduceAdd, Int.reduceNeg, Int.reduceToNat, Int.reducePow, Nat.reduceLT, Int.reduceEq, Int.reduceSub, zipD, List.zipWith_cons_cons, List.zipWith_nil_left, List.zipWith_nil_right, List.all_cons, List.all_nil, id_eq, scalD, borE, wipeE, noOwn, sz_0, szl_0, sz_1, szl_1, sz_2, szl_2, sz_3, szl_3, sz_4, szl_4, sz_5, szl_5, sz_6, szl_6, sz_7, szl_7, sz_8, szl_8, sz_9, szl_9, sz_10, szl_10, sz_11, szl_11, sz_12, szl_12, sz_13, szl_13, sz_14, szl_14, sz_15, szl_15, sz_16, szl_16, sz_17, szl_17, sz_18, szl_18, sz_19, szl_19, sz_20, szl_20, sz_21, szl_21, sz_22, szl_22, sz_23, szl_23, sz_24, szl_24, sz_25, szl_25, sz_26, szl_26, sz_27, szl_27, sz_28, szl_28, sz_29, szl_29, sz_30, szl_30, sz_31, szl_31, sz_32, szl_32, frz, List.all_cons, List.all_nil, hl']
  refine ⟨Nat.le_trans hl (by decide), w_compF (fun d => .bl (f d)) (fun d hd => ?_) ?_⟩
  · simp only [↓w_pin0, ↓w_lent0, ↓w_sPin, ↓w_sLend, ↓w_sAppP, pinE, pin1, dropE, drop1, lendE, lentOk, ↓w_sRaise1, ↓one1_one, ↓w_sTryF, ↓w_sExt, ↓o_any2L, ↓o_any2T, ↓w_lRet, ↓w_lSeq, ↓w_runFL, ↓w_lCallF, ↓w_lRep, ↓o_repL, ↓w_iRevG, ↓o_revIL, ↓o_revIT, ↓o_plusT, ↓o_plusS, ↓o_repS, ↓o_enumL, ↓o_enumT, ↓w_lComp2, ↓w_capL, ↓w_comp2N, ↓w_comp2C, enumD_nil, enumD_cons, fldOf, Er.cls, ↓wR_ok, ↓wR_err, ↓wR_bind, ↓wR_of, ↓wO_some, ↓wO_map, ↓wO_bind, ↓w_var0, ↓w_varS, ↓w_eC, ↓w_e1, ↓w_l1, ↓w_e2, ↓w_l2, ↓w_b1, ↓w_b2, ↓w_eB, ↓w_eF, ↓w_lF, ↓w_eCall, ↓w_eLst, ↓w_aNil, ↓w_aCons, ↓w_eTup, ↓w_lDisp, ↓w_eIf, ↓w_bAnd, ↓w_bOr, ↓w_bNot, ↓w_bYes, ↓w_bChain, ↓w_eAnd, ↓w_eOr, ↓w_iAny, ↓w_oNone, ↓w_oSomeC, ↓w_eSl, ↓w_lSlG, ↓w_lComp, ↓w_sSeq, ↓w_sNil, ↓w_sBreak, ↓w_sCont, ↓w_sSet, ↓w_sSetL, ↓w_sExpr, ↓w_sRet, ↓w_sRetN, ↓w_sIf, ↓w_own0, ↓w_ownS, ↓w_sRetO, ↓w_sApp, ↓w_sSetIx, ↓w_sFrz, ↓w_sThen, ↓w_sRaise, ↓w_sAsg, ↓w_sFor, ↓w_sTry, ↓t_name, ↓t_nil, ↓t_cons, ↓o_plus, ↓o_plusL, ↓o_lAdd, ↓o_sub, ↓o_neg, ↓o_mul, ↓o_fdiv, ↓o_mod, ↓o_pow, ↓o_lt, ↓o_le, ↓o_gt, ↓o_ge, ↓o_eq, ↓o_ne, ↓o_truthB, ↓o_truthI, ↓o_truthN, ↓o_truthL, ↓o_truthT, ↓o_truthS, ↓o_notB, ↓o_isNN, ↓o_isBT, ↓o_isBF, ↓o_isT, ↓o_isIB, ↓o_isSB, ↓o_isLB, ↓o_isTB, ↓o_isNB, ↓o_isNot, ↓o_lenL, ↓o_lenT, ↓o_lenS, ↓o_abs, ↓o_intI, ↓o_intB, ↓o_str, ↓o_gcd, ↓o_list, ↓o_listT, ↓o_tuple, ↓o_tupleT, ↓o_rev, ↓o_type, ↓o_isi, ↓o_isi2, ↓o_rg1, ↓o_rg2, ↓o_zip, ↓o_zipT, ↓o_itemsL, ↓o_itemsT, ↓o_ixL, ↓o_ixT, ↓o_at0, ↓o_at1, ↓o_at2, ↓o_at3, ↓o_at4, ↓o_at5, ↓o_at6, ↓o_at7, ↓o_at8, ↓o_at9, ↓o_at10, ↓o_at11, ↓o_at12, ↓o_at13, ↓o_at14, ↓o_at15, ↓w_eIxO, ↓t_tup1, ↓t_tup2, ↓t_tup3, ↓w_okOnly, ↓o_all, ↓o_any, ↓bls_nil, ↓bls_cons, ↓o_minL, ↓o_maxL, ↓o_sumL, ↓ints_nil, ↓ints_cons, ↓o_min3, ↓o_max3, ↓o_slL, ↓o_slT, ↓w_eBor, ↓w_bBor, o_isN, w_runF, tyName, isSubTy, tyNames, List.getElem?_cons_zero, List.getElem?_cons_succ, List.set_cons_zero, List.set_cons_succ, List.map_cons, List.map_nil, List.replicate_succ, List.replicate_zero, List.length_cons, List.length_nil, List.cons_append, List.nil_append, Nat.reduceAdd, Nat.reduceSub, Nat.reduceLeDiff, Nat.reduceEqDiff, ↓reduceIte, if_true, if_false, Bool.not_true, Bool.not_false, Bool.true_and, Bool.and_true, Bool.false_and, Bool.and_false, Bool.true_or, Bool.false_or, Bool.or_true, Bool.or_false, reduceCtorEq, decide_true, decide_false, beq_self_eq_true, List.mem_cons, true_or, or_true, true_and, and_true, false_and, and_false, or_false, false_or, String.reduceEq, String.reduceBEq, List.not_mem_nil, Bool.not_eq_true, Bool.false_eq_true, eq_self, not_true_eq_false, not_false_eq_true, Bool.not_eq_eq_eq_not, decide_eq_true_eq, decide_eq_false_iff_not, bne_iff_ne, ne_eq, Int.reduceLT, Int.reduceLE, Int.reduceMul, Int.reduceAdd, Int.reduceNeg, Int.reduceToNat, Int.reducePow, Nat.reduceLT, Int.reduceEq, Int.reduceSub, zipD, List.zipWith_cons_cons, List.zipWith_nil_left, List.zipWith_nil_right, List.all_cons, List.all_nil, id_eq, scalD, borE, wipeE, noOwn, sz_0, szl_0, sz_1, szl_1, sz_2, szl_2, sz_3, szl_3, sz_4, szl_4, sz_5, szl_5, sz_6, szl_6, sz_7, szl_7, sz_8, szl_8, sz_9, szl_9, sz_10, szl_10, sz_11, szl_11, sz_12, szl_12, sz_13, szl_13, sz_14, szl_14, sz_15, szl_15, sz_16, szl_16, sz_17, szl_17, sz_18, szl_18, sz_19, szl_19, sz_20, szl_20, sz_21, szl_21, sz_22, szl_22, sz_23, szl_23, sz_24, szl_24, sz_25, szl_25, sz_26, szl_26, sz_27, szl_27, sz_28, szl_28, sz_29, szl_29, sz_30, szl_30, sz_31, szl_31, sz_32, szl_32, frz, List.all_cons, List.all_nil, hm d hd]
  · rw [bls_map f xs, wO_some, List.all_map]
    show if xs.all f = false then E badS else QD .non
    revert h
    cases xs.all f <;> exact id
theorem chk_ok {xs : List D} (hl : xs.length ≤ 20) (hm : ∀ d ∈ xs, m_is_map [d] = .ok (.bl true)) : m_check_steps [.lst xs] = .ok .non := wR_eq (chk_of (fun _ => true) hl hm (by rw [if_pos (List.all_eq_true.mpr fun _ _ => rfl)]))
theorem chk_bad {xs : List D} (f : D → Bool) (hl : xs.length ≤ 20) (hm : ∀ d ∈ xs, m_is_map [d] = .ok (.bl (f d))) (hf : xs.all f = false) : m_check_steps [.lst xs] = .err badS := wR_errE (chk_of f hl hm (by rw [hf]; exact rfl))
theorem chk_long {xs : List D} (hl : 20 < xs.length) : m_check_steps [.lst xs] = .err badS := by
  have hl' : ((xs.length : Int) > 20) = True := eq_true (by omega)
  apply wR_errE
  simp only [m_check_steps, g_check_steps, c_MOST_STEPS, ↓w_pin0, ↓w_lent0, ↓w_sPin, ↓w_sLend, ↓w_sAppP, pinE, pin1, dropE, drop1, lendE, lentOk, ↓w_sRaise1, ↓one1_one, ↓w_sTryF, ↓w_sExt, ↓o_any2L, ↓o_any2T, ↓w_lRet, ↓w_lSeq, ↓w_runFL, ↓w_lCallF, ↓w_lRep, ↓o_repL, ↓w_iRevG, ↓o_revIL, ↓o_revIT, ↓o_plusT, ↓o_plusS, ↓o_repS, ↓o_enumL, ↓o_enumT, ↓w_lComp2, ↓w_capL, ↓w_comp2N, ↓w_comp2C, enumD_nil, enumD_cons, fldOf, Er.cls, ↓wR_ok, ↓wR_err, ↓wR_bind, ↓wR_of, ↓wO_some, ↓wO_map, ↓wO_bind, ↓w_var0, ↓w_varS, ↓w_eC, ↓w_e1, ↓w_l1, ↓w_e2, ↓w_l2, ↓w_b1, ↓w_b2, ↓w_eB, ↓w_eF, ↓w_lF, ↓w_eCall, ↓w_eLst, ↓w_aNil, ↓w_aCons, ↓w_eTup, ↓w_lDisp, ↓w_eIf, ↓w_bAnd, ↓w_bOr, ↓w_bNot, ↓w_bYes, ↓w_bChain, ↓w_eAnd, ↓w_eOr, ↓w_iAny, ↓w_oNone, ↓w_oSomeC, ↓w_eSl, ↓w_lSlG, ↓w_lComp, ↓w_sSeq, ↓w_sNil, ↓w_sBreak, ↓w_sCont, ↓w_sSet, ↓w_sSetL, ↓w_sExpr, ↓w_sRet, ↓w_sRetN, ↓w_sIf, ↓w_own0, ↓w_ownS, ↓w_sRetO, ↓w_sApp, ↓w_sSetIx, ↓w_sFrz, ↓w_sThen, ↓w_sRaise, ↓w_sAsg, ↓w_sFor, ↓w_sTry, ↓t_name, ↓t_nil, ↓t_cons, ↓o_plus, ↓o_plusL, ↓o_lAdd, ↓o_sub, ↓o_neg, ↓o_mul, ↓o_fdiv, ↓o_mod, ↓o_pow, ↓o_lt, ↓o_le, ↓o_gt, ↓o_ge, ↓o_eq, ↓o_ne, ↓o_truthB, ↓o_truthI, ↓o_truthN, ↓o_truthL, ↓o_truthT, ↓o_truthS, ↓o_notB, ↓o_isNN, ↓o_isBT, ↓o_isBF, ↓o_isT, ↓o_isIB, ↓o_isSB, ↓o_isLB, ↓o_isTB, ↓o_isNB, ↓o_isNot, ↓o_lenL, ↓o_lenT, ↓o_lenS, ↓o_abs, ↓o_intI, ↓o_intB, ↓o_str, ↓o_gcd, ↓o_list, ↓o_listT, ↓o_tuple, ↓o_tupleT, ↓o_rev, ↓o_type, ↓o_isi, ↓o_isi2, ↓o_rg1, ↓o_rg2, ↓o_zip, ↓o_zipT, ↓o_itemsL, ↓o_itemsT, ↓o_ixL, ↓o_ixT, ↓o_at0, ↓o_at1, ↓o_at2, ↓o_at3, ↓o_at4, ↓o_at5, ↓o_at6, ↓o_at7, ↓o_at8, ↓o_at9, ↓o_at10, ↓o_at11, ↓o_at12, ↓o_at13, ↓o_at14, ↓o_at15, ↓w_eIxO, ↓t_tup1, ↓t_tup2, ↓t_tup3, ↓w_okOnly, ↓o_all, ↓o_any, ↓bls_nil, ↓bls_cons, ↓o_minL, ↓o_maxL, ↓o_sumL, ↓ints_nil, ↓ints_cons, ↓o_min3, ↓o_max3, ↓o_slL, ↓o_slT, ↓w_eBor, ↓w_bBor, o_isN, w_runF, tyName, isSubTy, tyNames, List.getElem?_cons_zero, List.getElem?_cons_succ, List.set_cons_zero, List.set_cons_succ, List.map_cons, List.map_nil, List.replicate_succ, List.replicate_zero, List.length_cons, List.length_nil, List.cons_append, List.nil_append, Nat.reduceAdd, Nat.reduceSub, Nat.reduceLeDiff, Nat.reduceEqDiff, ↓reduceIte, if_true, if_false, Bool.not_true, Bool.not_false, Bool.true_and, Bool.and_true, Bool.false_and, Bool.and_false, Bool.true_or, Bool.false_or, Bool.or_true, Bool.or_false, reduceCtorEq, decide_true, decide_false, beq_self_eq_true, List.mem_cons, true_or, or_true, true_and, and_true, false_and, and_false, or_false, false_or, String.reduceEq, String.reduceBEq, List.not_mem_nil, Bool.not_eq_true, Bool.false_eq_true, eq_self, not_true_eq_false, not_false_eq_true, Bool.not_eq_eq_eq_not, decide_eq_true_eq, decide_eq_false_iff_not, bne_iff_ne, ne_eq, Int.reduceLT, Int.reduceLE, Int.reduceMul, Int.reduceAdd, Int.reduceNeg, Int.reduceToNat, Int.reducePow, Nat.reduceLT, Int.reduceEq, Int.reduceSub, zipD, List.zipWith_cons_cons, List.zipWith_nil_left, List.zipWith_nil_right, List.all_cons, List.all_nil, id_eq, scalD, borE, wipeE, noOwn, sz_0, szl_0, sz_1, szl_1, sz_2, szl_2, sz_3, szl_3, sz_4, szl_4, sz_5, szl_5, sz_6, szl_6, sz_7, szl_7, sz_8, szl_8, sz_9, szl_9, sz_10, szl_10, sz_11, szl_11, sz_12, szl_12, sz_13, szl_13, sz_14, szl_14, sz_15, szl_15, sz_16, szl_16, sz_17, szl_17, sz_18, szl_18, sz_19, szl_19, sz_20, szl_20, sz_21, szl_21, sz_22, szl_22, sz_23, szl_23, sz_24, szl_24, sz_25, szl_25, sz_26, szl_26, sz_27, szl_27, sz_28, szl_28, sz_29, szl_29, sz_30, szl_30, sz_31, szl_31, sz_32, szl_32, frz, List.all_cons, List.all_nil, hl', badS]
theorem chk_tup (xs : List D) : m_check_steps [.tup xs] = .err badS := by
  apply wR_errE
  simp only [m_check_steps, g_check_steps, c_MOST_STEPS, ↓w_pin0, ↓w_lent0, ↓w_sPin, ↓w_sLend, ↓w_sAppP, pinE, pin1, dropE, drop1, lendE, lentOk, ↓w_sRaise1, ↓one1_one, ↓w_sTryF, ↓w_sExt, ↓o_any2L, ↓o_any2T, ↓w_lRet, ↓w_lSeq, ↓w_runFL, ↓w_lCallF, ↓w_lRep, ↓o_repL, ↓w_iRevG, ↓o_revIL, ↓o_revIT, ↓o_plusT, ↓o_plusS, ↓o_repS, ↓o_enumL, ↓o_enumT, ↓w_lComp2, ↓w_capL, ↓w_comp2N, ↓w_comp2C, enumD_nil, enumD_cons, fldOf, Er.cls, ↓wR_ok, ↓wR_err, ↓wR_bind, ↓wR_of, ↓wO_some, ↓wO_map, ↓wO_bind, ↓w_var0, ↓w_varS, ↓w_eC, ↓w_e1, ↓w_l1, ↓w_e2, ↓w_l2, ↓w_b1, ↓w_b2, ↓w_eB, ↓w_eF, ↓w_lF, ↓w_eCall, ↓w_eLst, ↓w_aNil, ↓w_aCons, ↓w_eTup, ↓w_lDisp, ↓w_eIf, ↓w_bAnd, ↓w_bOr, ↓w_bNot, ↓w_bYes, ↓w_bChain, ↓w_eAnd, ↓w_eOr, ↓w_iAny, ↓w_oNone, ↓w_oSomeC, ↓w_eSl, ↓w_lSlG, ↓w_lComp, ↓w_sSeq, ↓w_sNil, ↓w_sBreak, ↓w_sCont, ↓w_sSet, ↓w_sSetL, ↓w_sExpr, ↓w_sRet, ↓w_sRetN, ↓w_sIf, ↓w_own0, ↓w_ownS, ↓w_sRetO, ↓w_sApp, ↓w_sSetIx, ↓w_sFrz, ↓w_sThen, ↓w_sRaise, ↓w_sAsg, ↓w_sFor, ↓w_sTry, ↓t_name, ↓t_nil, ↓t_cons, ↓o_plus, ↓o_plusL, ↓o_lAdd, ↓o_sub, ↓o_neg, ↓o_mul, ↓o_fdiv, ↓o_mod, ↓o_pow, ↓o_lt, ↓o_le, ↓o_gt, ↓o_ge, ↓o_eq, ↓o_ne, ↓o_truthB, ↓o_truthI, ↓o_truthN, ↓o_truthL, ↓o_truthT, ↓o_truthS, ↓o_notB, ↓o_isNN, ↓o_isBT, ↓o_isBF, ↓o_isT, ↓o_isIB, ↓o_isSB, ↓o_isLB, ↓o_isTB, ↓o_isNB, ↓o_isNot, ↓o_lenL, ↓o_lenT, ↓o_lenS, ↓o_abs, ↓o_intI, ↓o_intB, ↓o_str, ↓o_gcd, ↓o_list, ↓o_listT, ↓o_tuple, ↓o_tupleT, ↓o_rev, ↓o_type, ↓o_isi, ↓o_isi2, ↓o_rg1, ↓o_rg2, ↓o_zip, ↓o_zipT, ↓o_itemsL, ↓o_itemsT, ↓o_ixL, ↓o_ixT, ↓o_at0, ↓o_at1, ↓o_at2, ↓o_at3, ↓o_at4, ↓o_at5, ↓o_at6, ↓o_at7, ↓o_at8, ↓o_at9, ↓o_at10, ↓o_at11, ↓o_at12, ↓o_at13, ↓o_at14, ↓o_at15, ↓w_eIxO, ↓t_tup1, ↓t_tup2, ↓t_tup3, ↓w_okOnly, ↓o_all, ↓o_any, ↓bls_nil, ↓bls_cons, ↓o_minL, ↓o_maxL, ↓o_sumL, ↓ints_nil, ↓ints_cons, ↓o_min3, ↓o_max3, ↓o_slL, ↓o_slT, ↓w_eBor, ↓w_bBor, o_isN, w_runF, tyName, isSubTy, tyNames, List.getElem?_cons_zero, List.getElem?_cons_succ, List.set_cons_zero, List.set_cons_succ, List.map_cons, List.map_nil, List.replicate_succ, List.replicate_zero, List.length_cons, List.length_nil, List.cons_append, List.nil_append, Nat.reduceAdd, Nat.reduceSub, Nat.reduceLeDiff, Nat.reduceEqDiff, ↓reduceIte, if_true, if_false, Bool.not_true, Bool.not_false, Bool.true_and, Bool.and_true, Bool.false_and, Bool.and_false, Bool.true_or, Bool.false_or, Bool.or_true, Bool.or_false, reduceCtorEq, decide_true, decide_false, beq_self_eq_true, List.mem_cons, true_or, or_true, true_and, and_true, false_and, and_false, or_false, false_or, String.reduceEq, String.reduceBEq, List.not_mem_nil, Bool.not_eq_true, Bool.false_eq_true, eq_self, not_true_eq_false, not_false_eq_true, Bool.not_eq_eq_eq_not, decide_eq_true_eq, decide_eq_false_iff_not, bne_iff_ne, ne_eq, Int.reduceLT, Int.reduceLE, Int.reduceMul, Int.reduceAdd, Int.reduceNeg, Int.reduceToNat, Int.reducePow, Nat.reduceLT, Int.reduceEq, Int.reduceSub, zipD, List.zipWith_cons_cons, List.zipWith_nil_left, List.zipWith_nil_right, List.all_cons, List.all_nil, id_eq, scalD, borE, wipeE, noOwn, sz_0, szl_0, sz_1, szl_1, sz_2, szl_2, sz_3, szl_3, sz_4, szl_4, sz_5, szl_5, sz_6, szl_6, sz_7, szl_7, sz_8, szl_8, sz_9, szl_9, sz_10, szl_10, sz_11, szl_11, sz_12, szl_12, sz_13, szl_13, sz_14, szl_14, sz_15, szl_15, sz_16, szl_16, sz_17, szl_17, sz_18, szl_18, sz_19, szl_19, sz_20, szl_20, sz_21, szl_21, sz_22, szl_22, sz_23, szl_23, sz_24, szl_24, sz_25, szl_25, sz_26, szl_26, sz_27, szl_27, sz_28, szl_28, sz_29, szl_29, sz_30, szl_30, sz_31, szl_31, sz_32, szl_32, frz, List.all_cons, List.all_nil, badS]
theorem chk_non : m_check_steps [.non] = .err badS := by
  apply wR_errE
  simp only [m_check_steps, g_check_steps, c_MOST_STEPS, ↓w_pin0, ↓w_lent0, ↓w_sPin, ↓w_sLend, ↓w_sAppP, pinE, pin1, dropE, drop1, lendE, lentOk, ↓w_sRaise1, ↓one1_one, ↓w_sTryF, ↓w_sExt, ↓o_any2L, ↓o_any2T, ↓w_lRet, ↓w_lSeq, ↓w_runFL, ↓w_lCallF, ↓w_lRep, ↓o_repL, ↓w_iRevG, ↓o_revIL, ↓o_revIT, ↓o_plusT, ↓o_plusS, ↓o_repS, ↓o_enumL, ↓o_enumT, ↓w_lComp2, ↓w_capL, ↓w_comp2N, ↓w_comp2C, enumD_nil, enumD_cons, fldOf, Er.cls, ↓wR_ok, ↓wR_err, ↓wR_bind, ↓wR_of, ↓wO_some, ↓wO_map, ↓wO_bind, ↓w_var0, ↓w_varS, ↓w_eC, ↓w_e1, ↓w_l1, ↓w_e2, ↓w_l2, ↓w_b1, ↓w_b2, ↓w_eB, ↓w_eF, ↓w_lF, ↓w_eCall, ↓w_eLst, ↓w_aNil, ↓w_aCons, ↓w_eTup, ↓w_lDisp, ↓w_eIf, ↓w_bAnd, ↓w_bOr, ↓w_bNot, ↓w_bYes, ↓w_bChain, ↓w_eAnd, ↓w_eOr, ↓w_iAny, ↓w_oNone, ↓w_oSomeC, ↓w_eSl, ↓w_lSlG, ↓w_lComp, ↓w_sSeq, ↓w_sNil, ↓w_sBreak, ↓w_sCont, ↓w_sSet, ↓w_sSetL, ↓w_sExpr, ↓w_sRet, ↓w_sRetN, ↓w_sIf, ↓w_own0, ↓w_ownS, ↓w_sRetO, ↓w_sApp, ↓w_sSetIx, ↓w_sFrz, ↓w_sThen, ↓w_sRaise, ↓w_sAsg, ↓w_sFor, ↓w_sTry, ↓t_name, ↓t_nil, ↓t_cons, ↓o_plus, ↓o_plusL, ↓o_lAdd, ↓o_sub, ↓o_neg, ↓o_mul, ↓o_fdiv, ↓o_mod, ↓o_pow, ↓o_lt, ↓o_le, ↓o_gt, ↓o_ge, ↓o_eq, ↓o_ne, ↓o_truthB, ↓o_truthI, ↓o_truthN, ↓o_truthL, ↓o_truthT, ↓o_truthS, ↓o_notB, ↓o_isNN, ↓o_isBT, ↓o_isBF, ↓o_isT, ↓o_isIB, ↓o_isSB, ↓o_isLB, ↓o_isTB, ↓o_isNB, ↓o_isNot, ↓o_lenL, ↓o_lenT, ↓o_lenS, ↓o_abs, ↓o_intI, ↓o_intB, ↓o_str, ↓o_gcd, ↓o_list, ↓o_listT, ↓o_tuple, ↓o_tupleT, ↓o_rev, ↓o_type, ↓o_isi, ↓o_isi2, ↓o_rg1, ↓o_rg2, ↓o_zip, ↓o_zipT, ↓o_itemsL, ↓o_itemsT, ↓o_ixL, ↓o_ixT, ↓o_at0, ↓o_at1, ↓o_at2, ↓o_at3, ↓o_at4, ↓o_at5, ↓o_at6, ↓o_at7, ↓o_at8, ↓o_at9, ↓o_at10, ↓o_at11, ↓o_at12, ↓o_at13, ↓o_at14, ↓o_at15, ↓w_eIxO, ↓t_tup1, ↓t_tup2, ↓t_tup3, ↓w_okOnly, ↓o_all, ↓o_any, ↓bls_nil, ↓bls_cons, ↓o_minL, ↓o_maxL, ↓o_sumL, ↓ints_nil, ↓ints_cons, ↓o_min3, ↓o_max3, ↓o_slL, ↓o_slT, ↓w_eBor, ↓w_bBor, o_isN, w_runF, tyName, isSubTy, tyNames, List.getElem?_cons_zero, List.getElem?_cons_succ, List.set_cons_zero, List.set_cons_succ, List.map_cons, List.map_nil, List.replicate_succ, List.replicate_zero, List.length_cons, List.length_nil, List.cons_append, List.nil_append, Nat.reduceAdd, Nat.reduceSub, Nat.reduceLeDiff, Nat.reduceEqDiff, ↓reduceIte, if_true, if_false, Bool.not_true, Bool.not_false, Bool.true_and, Bool.and_true, Bool.false_and, Bool.and_false, Bool.true_or, Bool.false_or, Bool.or_true, Bool.or_false, reduceCtorEq, decide_true, decide_false, beq_self_eq_true, List.mem_cons, true_or, or_true, true_and, and_true, false_and, and_false, or_false, false_or, String.reduceEq, String.reduceBEq, List.not_mem_nil, Bool.not_eq_true, Bool.false_eq_true, eq_self, not_true_eq_false, not_false_eq_true, Bool.not_eq_eq_eq_not, decide_eq_true_eq, decide_eq_false_iff_not, bne_iff_ne, ne_eq, Int.reduceLT, Int.reduceLE, Int.reduceMul, Int.reduceAdd, Int.reduceNeg, Int.reduceToNat, Int.reducePow, Nat.reduceLT, Int.reduceEq, Int.reduceSub, zipD, List.zipWith_cons_cons, List.zipWith_nil_left, List.zipWith_nil_right, List.all_cons, List.all_nil, id_eq, scalD, borE, wipeE, noOwn, sz_0, szl_0, sz_1, szl_1, sz_2, szl_2, sz_3, szl_3, sz_4, szl_4, sz_5, szl_5, sz_6, szl_6, sz_7, szl_7, sz_8, szl_8, sz_9, szl_9, sz_10, szl_10, sz_11, szl_11, sz_12, szl_12, sz_13, szl_13, sz_14, szl_14, sz_15, szl_15, sz_16, szl_16, sz_17, szl_17, sz_18, szl_18, sz_19, szl_19, sz_20, szl_20, sz_21, szl_21, sz_22, szl_22, sz_23, szl_23, sz_24, szl_24, sz_25, szl_25, sz_26, szl_26, sz_27, szl_27, sz_28, szl_28, sz_29, szl_29, sz_30, szl_30, sz_31, szl_31, sz_32, szl_32, frz, List.all_cons, List.all_nil, badS]
/-! ### tracks -/
def WK (m : List Int) (S : Nat → List Int) : Nat → List Int
  | 0 => m
  | i + 1 => prim (TH (WK m S i) (S i))
def TR (m : List Int) (S : Nat → List Int) (n : Nat) : List D := (List.range n).map fun i => tI (WK m S i)
theorem TR_succ (m : List Int) (S : Nat → List Int) (n : Nat) : TR m S n ++ [tI (WK m S n)] = TR m S (n + 1) := by
  unfold TR
  rw [List.range_succ, List.map_append]
  rfl
theorem TR_len (m : List Int) (S : Nat → List Int) (n : Nat) : (TR m S n).length = n := by simp [TR]
theorem TR_get (m : List Int) (S : Nat → List Int) {n i : Nat} (h : i < n) : (TR m S n)[i]? = some (tI (WK m S i)) := by simp [TR, h]
def SD (S : Nat → List Int) (n : Nat) : List D := (List.range n).map fun i => tI (S i)
theorem SD_len (S : Nat → List Int) (n : Nat) : (SD S n).length = n := by simp [SD]
theorem SD_get {S : Nat → List Int} {n i : Nat} {d : D} (h : (SD S n)[i]? = some d) : d = tI (S i) ∧ i < n := by
  unfold SD at h
  rw [List.getElem?_map] at h
  by_cases hi : i < n
  · rw [List.getElem?_range hi] at h
    exact ⟨(Option.some.inj h).symm, hi⟩
  · rw [List.getElem?_eq_none (by simpa using hi)] at h
    cases h
theorem atI_last {xs : List D} {x : D} {Q : D → Prop} : wpO (atI (xs ++ [x]) (-1)) Q = Q x := by
  have h : atI (xs ++ [x]) (-1) = some x := by
    unfold atI
    have e : ixN (xs ++ [x]).length (-1) = some xs.length := by
      unfold ixN
      simp only [List.length_append, List.length_singleton]
      split <;> first | omega | (split <;> first | omega | (congr 1; omega))
    rw [e]
    show (xs ++ [x])[xs.length]? = some x
    simp
  rw [h]
  rfl
theorem track_loop {m : List Int} {S : Nat → List Int} {n : Nat} (hn : n ≤ 20) (hW : ∀ i, i ≤ n → Lt 200 (WK m S i)) (hS : ∀ i, i < n → Lt 200 (S i)) {s0 s1 s3 : Sl} {R : D → Prop} {ES : Er → En → Prop} {N B C : En → Prop} (hN : ∀ s3, N [s0, s1, .own (TR m S (n + 1)), s3]) :
    wpS (forL (tName 3) b_track_1 (SD S n) [s0, s1, .own [tI m], s3]) N R ES B C := by
  refine w_forI (fun i e => ∃ s3, e = [s0, s1, .own (TR m S (i + 1)), s3]) ⟨s3, rfl⟩ ?_ ?_
  · rintro i d env hd ⟨s3, rfl⟩
    obtain ⟨rfl, hi⟩ := SD_get hd
    have th := (then_ok (hW i (by omega)) (hS i hi)).1
    have hz : (TR m S (i + 1)).length < sizeLine := by rw [TR_len]; exact Nat.lt_of_le_of_lt (show i + 1 ≤ 20 by omega) (by decide)
    have ix : ∀ Q : D → Prop, wpO (atI (TR m S (i + 1)) (-1)) Q = Q (tI (WK m S i)) := fun Q => by rw [← TR_succ]; exact atI_last
    rw [t_name]
    simp only [List.set_cons_succ, List.set_cons_zero]
    simp only [b_track_1, ↓w_pin0, ↓w_lent0, ↓w_sPin, ↓w_sLend, ↓w_sAppP, pinE, pin1, dropE, drop1, lendE, lentOk, ↓w_sRaise1, ↓one1_one, ↓w_sTryF, ↓w_sExt, ↓o_any2L, ↓o_any2T, ↓w_lRet, ↓w_lSeq, ↓w_runFL, ↓w_lCallF, ↓w_lRep, ↓o_repL, ↓w_iRevG, ↓o_revIL, ↓o_revIT, ↓o_plusT, ↓o_plusS, ↓o_repS, ↓o_enumL, ↓o_enumT, ↓w_lComp2, ↓w_capL, ↓w_comp2N, ↓w_comp2C, enumD_nil, enumD_cons, fldOf, Er.cls, ↓wR_ok, ↓wR_err, ↓wR_bind, ↓wR_of, ↓wO_some, ↓wO_map, ↓wO_bind, ↓w_var0, ↓w_varS, ↓w_eC, ↓w_e1, ↓w_l1, ↓w_e2, ↓w_l2, ↓w_b1, ↓w_b2, ↓w_eB, ↓w_eF, ↓w_lF, ↓w_eCall, ↓w_eLst, ↓w_aNil, ↓w_aCons, ↓w_eTup, ↓w_lDisp, ↓w_eIf, ↓w_bAnd, ↓w_bOr, ↓w_bNot, ↓w_bYes, ↓w_bChain, ↓w_eAnd, ↓w_eOr, ↓w_iAny, ↓w_oNone, ↓w_oSomeC, ↓w_eSl, ↓w_lSlG, ↓w_lComp, ↓w_sSeq, ↓w_sNil, ↓w_sBreak, ↓w_sCont, ↓w_sSet, ↓w_sSetL, ↓w_sExpr, ↓w_sRet, ↓w_sRetN, ↓w_sIf, ↓w_own0, ↓w_ownS, ↓w_sRetO, ↓w_sApp, ↓w_sSetIx, ↓w_sFrz, ↓w_sThen, ↓w_sRaise, ↓w_sAsg, ↓w_sFor, ↓w_sTry, ↓t_name, ↓t_nil, ↓t_cons, ↓o_plus, ↓o_plusL, ↓o_lAdd, ↓o_sub, ↓o_neg, ↓o_mul, ↓o_fdiv, ↓o_mod, ↓o_pow, ↓o_lt, ↓o_le, ↓o_gt, ↓o_ge, ↓o_eq, ↓o_ne, ↓o_truthB, ↓o_truthI, ↓o_truthN, ↓o_truthL, ↓o_truthT, ↓o_truthS, ↓o_notB, ↓o_isNN, ↓o_isBT, ↓o_isBF, ↓o_isT, ↓o_isIB, ↓o_isSB, ↓o_isLB, ↓o_isTB, ↓o_isNB, ↓o_isNot, ↓o_lenL, ↓o_lenT, ↓o_lenS, ↓o_abs, ↓o_intI, ↓o_intB, ↓o_str, ↓o_gcd, ↓o_list, ↓o_listT, ↓o_tuple, ↓o_tupleT, ↓o_rev, ↓o_type, ↓o_isi, ↓o_isi2, ↓o_rg1, ↓o_rg2, ↓o_zip, ↓o_zipT, ↓o_itemsL, ↓o_itemsT, ↓o_ixL, ↓o_ixT, ↓o_at0, ↓o_at1, ↓o_at2, ↓o_at3, ↓o_at4, ↓o_at5, ↓o_at6, ↓o_at7, ↓o_at8, ↓o_at9, ↓o_at10, ↓o_at11, ↓o_at12, ↓o_at13, ↓o_at14, ↓o_at15, ↓w_eIxO, ↓t_tup1, ↓t_tup2, ↓t_tup3, ↓w_okOnly, ↓w_compN, ↓w_compC, ↓o_all, ↓o_any, ↓bls_nil, ↓bls_cons, ↓o_minL, ↓o_maxL, ↓o_sumL, ↓ints_nil, ↓ints_cons, ↓o_min3, ↓o_max3, ↓o_slL, ↓o_slT, ↓w_eBor, ↓w_bBor, o_isN, w_runF, tyName, isSubTy, tyNames, List.getElem?_cons_zero, List.getElem?_cons_succ, List.set_cons_zero, List.set_cons_succ, List.map_cons, List.map_nil, List.replicate_succ, List.replicate_zero, List.length_cons, List.length_nil, List.cons_append, List.nil_append, Nat.reduceAdd, Nat.reduceSub, Nat.reduceLeDiff, Nat.reduceEqDiff, ↓reduceIte, if_true, if_false, Bool.not_true, Bool.not_false, Bool.true_and, Bool.and_true, Bool.false_and, Bool.and_false, Bool.true_or, Bool.false_or, Bool.or_true, Bool.or_false, reduceCtorEq, decide_true, decide_false, beq_self_eq_true, List.mem_cons, true_or, or_true, true_and, and_true, false_and, and_false, or_false, false_or, String.reduceEq, String.reduceBEq, List.not_mem_nil, Bool.not_eq_true, Bool.false_eq_true, eq_self, not_true_eq_false, not_false_eq_true, Bool.not_eq_eq_eq_not, decide_eq_true_eq, decide_eq_false_iff_not, bne_iff_ne, ne_eq, Int.reduceLT, Int.reduceLE, Int.reduceMul, Int.reduceAdd, Int.reduceNeg, Int.reduceToNat, Int.reducePow, Nat.reduceLT, Int.reduceEq, Int.reduceSub, zipD, List.zipWith_cons_cons, List.zipWith_nil_left, List.zipWith_nil_right, List.all_cons, List.all_nil, id_eq, scalD, borE, wipeE, noOwn, sz_0, szl_0, sz_1, szl_1, sz_2, szl_2, sz_3, szl_3, sz_4, szl_4, sz_5, szl_5, sz_6, szl_6, sz_7, szl_7, sz_8, szl_8, sz_9, szl_9, sz_10, szl_10, sz_11, szl_11, sz_12, szl_12, sz_13, szl_13, sz_14, szl_14, sz_15, szl_15, sz_16, szl_16, sz_17, szl_17, sz_18, szl_18, sz_19, szl_19, sz_20, szl_20, sz_21, szl_21, sz_22, szl_22, sz_23, szl_23, sz_24, szl_24, sz_25, szl_25, sz_26, szl_26, sz_27, szl_27, sz_28, szl_28, sz_29, szl_29, sz_30, szl_30, sz_31, szl_31, sz_32, szl_32, frz, List.all_cons, List.all_nil, ix, tI, th]
    exact ⟨hz, _, by rw [← TR_succ m S (i + 1)]; rfl⟩
  · rintro env ⟨s3, rfl⟩
    rw [SD_len]
    exact hN s3
theorem chkm_ok {k : Nat} {m : List Int} (h : Mq k m) (hk : k ≤ 200) : m_check_map [tI m] = .ok .non := by
  have := is_map_mq h hk
  apply wR_eq
  simp only [m_check_map, g_check_map, tI, ↓w_pin0, ↓w_lent0, ↓w_sPin, ↓w_sLend, ↓w_sAppP, pinE, pin1, dropE, drop1, lendE, lentOk, ↓w_sRaise1, ↓one1_one, ↓w_sTryF, ↓w_sExt, ↓o_any2L, ↓o_any2T, ↓w_lRet, ↓w_lSeq, ↓w_runFL, ↓w_lCallF, ↓w_lRep, ↓o_repL, ↓w_iRevG, ↓o_revIL, ↓o_revIT, ↓o_plusT, ↓o_plusS, ↓o_repS, ↓o_enumL, ↓o_enumT, ↓w_lComp2, ↓w_capL, ↓w_comp2N, ↓w_comp2C, enumD_nil, enumD_cons, fldOf, Er.cls, ↓wR_ok, ↓wR_err, ↓wR_bind, ↓wR_of, ↓wO_some, ↓wO_map, ↓wO_bind, ↓w_var0, ↓w_varS, ↓w_eC, ↓w_e1, ↓w_l1, ↓w_e2, ↓w_l2, ↓w_b1, ↓w_b2, ↓w_eB, ↓w_eF, ↓w_lF, ↓w_eCall, ↓w_eLst, ↓w_aNil, ↓w_aCons, ↓w_eTup, ↓w_lDisp, ↓w_eIf, ↓w_bAnd, ↓w_bOr, ↓w_bNot, ↓w_bYes, ↓w_bChain, ↓w_eAnd, ↓w_eOr, ↓w_iAny, ↓w_oNone, ↓w_oSomeC, ↓w_eSl, ↓w_lSlG, ↓w_lComp, ↓w_sSeq, ↓w_sNil, ↓w_sBreak, ↓w_sCont, ↓w_sSet, ↓w_sSetL, ↓w_sExpr, ↓w_sRet, ↓w_sRetN, ↓w_sIf, ↓w_own0, ↓w_ownS, ↓w_sRetO, ↓w_sApp, ↓w_sSetIx, ↓w_sFrz, ↓w_sThen, ↓w_sRaise, ↓w_sAsg, ↓w_sFor, ↓w_sTry, ↓t_name, ↓t_nil, ↓t_cons, ↓o_plus, ↓o_plusL, ↓o_lAdd, ↓o_sub, ↓o_neg, ↓o_mul, ↓o_fdiv, ↓o_mod, ↓o_pow, ↓o_lt, ↓o_le, ↓o_gt, ↓o_ge, ↓o_eq, ↓o_ne, ↓o_truthB, ↓o_truthI, ↓o_truthN, ↓o_truthL, ↓o_truthT, ↓o_truthS, ↓o_notB, ↓o_isNN, ↓o_isBT, ↓o_isBF, ↓o_isT, ↓o_isIB, ↓o_isSB, ↓o_isLB, ↓o_isTB, ↓o_isNB, ↓o_isNot, ↓o_lenL, ↓o_lenT, ↓o_lenS, ↓o_abs, ↓o_intI, ↓o_intB, ↓o_str, ↓o_gcd, ↓o_list, ↓o_listT, ↓o_tuple, ↓o_tupleT, ↓o_rev, ↓o_type, ↓o_isi, ↓o_isi2, ↓o_rg1, ↓o_rg2, ↓o_zip, ↓o_zipT, ↓o_itemsL, ↓o_itemsT, ↓o_ixL, ↓o_ixT, ↓o_at0, ↓o_at1, ↓o_at2, ↓o_at3, ↓o_at4, ↓o_at5, ↓o_at6, ↓o_at7, ↓o_at8, ↓o_at9, ↓o_at10, ↓o_at11, ↓o_at12, ↓o_at13, ↓o_at14, ↓o_at15, ↓w_eIxO, ↓t_tup1, ↓t_tup2, ↓t_tup3, ↓w_okOnly, ↓w_compN, ↓w_compC, ↓o_all, ↓o_any, ↓bls_nil, ↓bls_cons, ↓o_minL, ↓o_maxL, ↓o_sumL, ↓ints_nil, ↓ints_cons, ↓o_min3, ↓o_max3, ↓o_slL, ↓o_slT, ↓w_eBor, ↓w_bBor, o_isN, w_runF, tyName, isSubTy, tyNames, List.getElem?_cons_zero, List.getElem?_cons_succ, List.set_cons_zero, List.set_cons_succ, List.map_cons, List.map_nil, List.replicate_succ, List.replicate_zero, List.length_cons, List.length_nil, List.cons_append, List.nil_append, Nat.reduceAdd, Nat.reduceSub, Nat.reduceLeDiff, Nat.reduceEqDiff, ↓reduceIte, if_true, if_false, Bool.not_true, Bool.not_false, Bool.true_and, Bool.and_true, Bool.false_and, Bool.and_false, Bool.true_or, Bool.false_or, Bool.or_true, Bool.or_false, reduceCtorEq, decide_true, decide_false, beq_self_eq_true, List.mem_cons, true_or, or_true, true_and, and_true, false_and, and_false, or_false, false_or, String.reduceEq, String.reduceBEq, List.not_mem_nil, Bool.not_eq_true, Bool.false_eq_true, eq_self, not_true_eq_false, not_false_eq_true, Bool.not_eq_eq_eq_not, decide_eq_true_eq, decide_eq_false_iff_not, bne_iff_ne, ne_eq, Int.reduceLT, Int.reduceLE, Int.reduceMul, Int.reduceAdd, Int.reduceNeg, Int.reduceToNat, Int.reducePow, Nat.reduceLT, Int.reduceEq, Int.reduceSub, zipD, List.zipWith_cons_cons, List.zipWith_nil_left, List.zipWith_nil_right, List.all_cons, List.all_nil, id_eq, scalD, borE, wipeE, noOwn, sz_0, szl_0, sz_1, szl_1, sz_2, szl_2, sz_3, szl_3, sz_4, szl_4, sz_5, szl_5, sz_6, szl_6, sz_7, szl_7, sz_8, szl_8, sz_9, szl_9, sz_10, szl_10, sz_11, szl_11, sz_12, szl_12, sz_13, szl_13, sz_14, szl_14, sz_15, szl_15, sz_16, szl_16, sz_17, szl_17, sz_18, szl_18, sz_19, szl_19, sz_20, szl_20, sz_21, szl_21, sz_22, szl_22, sz_23, szl_23, sz_24, szl_24, sz_25, szl_25, sz_26, szl_26, sz_27, szl_27, sz_28, szl_28, sz_29, szl_29, sz_30, szl_30, sz_31, szl_31, sz_32, szl_32, frz, List.all_cons, List.all_nil, this]
def badM : Er := .one "BadMap" "reason" (.str [109, 97, 112])
theorem chkm_bad {d : D} (h : m_is_map [d] = .ok (.bl false)) : m_check_map [d] = .err badM := by
  apply wR_errE
  simp only [m_check_map, g_check_map, ↓w_pin0, ↓w_lent0, ↓w_sPin, ↓w_sLend, ↓w_sAppP, pinE, pin1, dropE, drop1, lendE, lentOk, ↓w_sRaise1, ↓one1_one, ↓w_sTryF, ↓w_sExt, ↓o_any2L, ↓o_any2T, ↓w_lRet, ↓w_lSeq, ↓w_runFL, ↓w_lCallF, ↓w_lRep, ↓o_repL, ↓w_iRevG, ↓o_revIL, ↓o_revIT, ↓o_plusT, ↓o_plusS, ↓o_repS, ↓o_enumL, ↓o_enumT, ↓w_lComp2, ↓w_capL, ↓w_comp2N, ↓w_comp2C, enumD_nil, enumD_cons, fldOf, Er.cls, ↓wR_ok, ↓wR_err, ↓wR_bind, ↓wR_of, ↓wO_some, ↓wO_map, ↓wO_bind, ↓w_var0, ↓w_varS, ↓w_eC, ↓w_e1, ↓w_l1, ↓w_e2, ↓w_l2, ↓w_b1, ↓w_b2, ↓w_eB, ↓w_eF, ↓w_lF, ↓w_eCall, ↓w_eLst, ↓w_aNil, ↓w_aCons, ↓w_eTup, ↓w_lDisp, ↓w_eIf, ↓w_bAnd, ↓w_bOr, ↓w_bNot, ↓w_bYes, ↓w_bChain, ↓w_eAnd, ↓w_eOr, ↓w_iAny, ↓w_oNone, ↓w_oSomeC, ↓w_eSl, ↓w_lSlG, ↓w_lComp, ↓w_sSeq, ↓w_sNil, ↓w_sBreak, ↓w_sCont, ↓w_sSet, ↓w_sSetL, ↓w_sExpr, ↓w_sRet, ↓w_sRetN, ↓w_sIf, ↓w_own0, ↓w_ownS, ↓w_sRetO, ↓w_sApp, ↓w_sSetIx, ↓w_sFrz, ↓w_sThen, ↓w_sRaise, ↓w_sAsg, ↓w_sFor, ↓w_sTry, ↓t_name, ↓t_nil, ↓t_cons, ↓o_plus, ↓o_plusL, ↓o_lAdd, ↓o_sub, ↓o_neg, ↓o_mul, ↓o_fdiv, ↓o_mod, ↓o_pow, ↓o_lt, ↓o_le, ↓o_gt, ↓o_ge, ↓o_eq, ↓o_ne, ↓o_truthB, ↓o_truthI, ↓o_truthN, ↓o_truthL, ↓o_truthT, ↓o_truthS, ↓o_notB, ↓o_isNN, ↓o_isBT, ↓o_isBF, ↓o_isT, ↓o_isIB, ↓o_isSB, ↓o_isLB, ↓o_isTB, ↓o_isNB, ↓o_isNot, ↓o_lenL, ↓o_lenT, ↓o_lenS, ↓o_abs, ↓o_intI, ↓o_intB, ↓o_str, ↓o_gcd, ↓o_list, ↓o_listT, ↓o_tuple, ↓o_tupleT, ↓o_rev, ↓o_type, ↓o_isi, ↓o_isi2, ↓o_rg1, ↓o_rg2, ↓o_zip, ↓o_zipT, ↓o_itemsL, ↓o_itemsT, ↓o_ixL, ↓o_ixT, ↓o_at0, ↓o_at1, ↓o_at2, ↓o_at3, ↓o_at4, ↓o_at5, ↓o_at6, ↓o_at7, ↓o_at8, ↓o_at9, ↓o_at10, ↓o_at11, ↓o_at12, ↓o_at13, ↓o_at14, ↓o_at15, ↓w_eIxO, ↓t_tup1, ↓t_tup2, ↓t_tup3, ↓w_okOnly, ↓w_compN, ↓w_compC, ↓o_all, ↓o_any, ↓bls_nil, ↓bls_cons, ↓o_minL, ↓o_maxL, ↓o_sumL, ↓ints_nil, ↓ints_cons, ↓o_min3, ↓o_max3, ↓o_slL, ↓o_slT, ↓w_eBor, ↓w_bBor, o_isN, w_runF, tyName, isSubTy, tyNames, List.getElem?_cons_zero, List.getElem?_cons_succ, List.set_cons_zero, List.set_cons_succ, List.map_cons, List.map_nil, List.replicate_succ, List.replicate_zero, List.length_cons, List.length_nil, List.cons_append, List.nil_append, Nat.reduceAdd, Nat.reduceSub, Nat.reduceLeDiff, Nat.reduceEqDiff, ↓reduceIte, if_true, if_false, Bool.not_true, Bool.not_false, Bool.true_and, Bool.and_true, Bool.false_and, Bool.and_false, Bool.true_or, Bool.false_or, Bool.or_true, Bool.or_false, reduceCtorEq, decide_true, decide_false, beq_self_eq_true, List.mem_cons, true_or, or_true, true_and, and_true, false_and, and_false, or_false, false_or, String.reduceEq, String.reduceBEq, List.not_mem_nil, Bool.not_eq_true, Bool.false_eq_true, eq_self, not_true_eq_false, not_false_eq_true, Bool.not_eq_eq_eq_not, decide_eq_true_eq, decide_eq_false_iff_not, bne_iff_ne, ne_eq, Int.reduceLT, Int.reduceLE, Int.reduceMul, Int.reduceAdd, Int.reduceNeg, Int.reduceToNat, Int.reducePow, Nat.reduceLT, Int.reduceEq, Int.reduceSub, zipD, List.zipWith_cons_cons, List.zipWith_nil_left, List.zipWith_nil_right, List.all_cons, List.all_nil, id_eq, scalD, borE, wipeE, noOwn, sz_0, szl_0, sz_1, szl_1, sz_2, szl_2, sz_3, szl_3, sz_4, szl_4, sz_5, szl_5, sz_6, szl_6, sz_7, szl_7, sz_8, szl_8, sz_9, szl_9, sz_10, szl_10, sz_11, szl_11, sz_12, szl_12, sz_13, szl_13, sz_14, szl_14, sz_15, szl_15, sz_16, szl_16, sz_17, szl_17, sz_18, szl_18, sz_19, szl_19, sz_20, szl_20, sz_21, szl_21, sz_22, szl_22, sz_23, szl_23, sz_24, szl_24, sz_25, szl_25, sz_26, szl_26, sz_27, szl_27, sz_28, szl_28, sz_29, szl_29, sz_30, szl_30, sz_31, szl_31, sz_32, szl_32, frz, List.all_cons, List.all_nil, h, badM]
theorem SD_maps {S : Nat → List Int} {n k : Nat} (hS : ∀ i, i < n → Mq k (S i)) (hk : k ≤ 200) : ∀ d ∈ SD S n, m_is_map [d] = .ok (.bl true) := by
  intro d hd
  obtain ⟨i, hi, e⟩ := List.mem_iff_getElem.mp hd
  have h := SD_get (List.getElem?_eq_some_iff.mpr ⟨hi, e⟩)
  rw [h.1]
  exact is_map_mq (hS i h.2) hk
theorem track_ok {k : Nat} {m : List Int} {S : Nat → List Int} {n : Nat} (hm : Mq k m) (hk : k ≤ 200) (hn : n ≤ 20) (hW : ∀ i, i ≤ n → Lt 200 (WK m S i)) (hS : ∀ i, i < n → Mq k (S i)) : m_track [tI m, .lst (SD S n)] = .ok (.lst (TR m S (n + 1))) ∧ ml_track [tI m, .lst (SD S n)] = .ok (TR m S (n + 1)) := by
  have c1 := chkm_ok hm hk
  have c2 := chk_ok (by rw [SD_len]; exact hn) (SD_maps hS hk)
  have hS' : ∀ i, i < n → Lt 200 (S i) := fun i hi => (hS i hi).lt.up hk
  constructor
  · apply wR_eq
    simp only [m_track, g_track, ↓w_pin0, ↓w_lent0, ↓w_sPin, ↓w_sLend, ↓w_sAppP, pinE, pin1, dropE, drop1, lendE, lentOk, ↓w_sRaise1, ↓one1_one, ↓w_sTryF, ↓w_sExt, ↓o_any2L, ↓o_any2T, ↓w_lRet, ↓w_lSeq, ↓w_runFL, ↓w_lCallF, ↓w_lRep, ↓o_repL, ↓w_iRevG, ↓o_revIL, ↓o_revIT, ↓o_plusT, ↓o_plusS, ↓o_repS, ↓o_enumL, ↓o_enumT, ↓w_lComp2, ↓w_capL, ↓w_comp2N, ↓w_comp2C, enumD_nil, enumD_cons, fldOf, Er.cls, ↓wR_ok, ↓wR_err, ↓wR_bind, ↓wR_of, ↓wO_some, ↓wO_map, ↓wO_bind, ↓w_var0, ↓w_varS, ↓w_eC, ↓w_e1, ↓w_l1, ↓w_e2, ↓w_l2, ↓w_b1, ↓w_b2, ↓w_eB, ↓w_eF, ↓w_lF, ↓w_eCall, ↓w_eLst, ↓w_aNil, ↓w_aCons, ↓w_eTup, ↓w_lDisp, ↓w_eIf, ↓w_bAnd, ↓w_bOr, ↓w_bNot, ↓w_bYes, ↓w_bChain, ↓w_eAnd, ↓w_eOr, ↓w_iAny, ↓w_oNone, ↓w_oSomeC, ↓w_eSl, ↓w_lSlG, ↓w_lComp, ↓w_sSeq, ↓w_sNil, ↓w_sBreak, ↓w_sCont, ↓w_sSet, ↓w_sSetL, ↓w_sExpr, ↓w_sRet, ↓w_sRetN, ↓w_sIf, ↓w_own0, ↓w_ownS, ↓w_sRetO, ↓w_sApp, ↓w_sSetIx, ↓w_sFrz, ↓w_sThen, ↓w_sRaise, ↓w_sAsg, ↓w_sFor, ↓w_sTry, ↓t_name, ↓t_nil, ↓t_cons, ↓o_plus, ↓o_plusL, ↓o_lAdd, ↓o_sub, ↓o_neg, ↓o_mul, ↓o_fdiv, ↓o_mod, ↓o_pow, ↓o_lt, ↓o_le, ↓o_gt, ↓o_ge, ↓o_eq, ↓o_ne, ↓o_truthB, ↓o_truthI, ↓o_truthN, ↓o_truthL, ↓o_truthT, ↓o_truthS, ↓o_notB, ↓o_isNN, ↓o_isBT, ↓o_isBF, ↓o_isT, ↓o_isIB, ↓o_isSB, ↓o_isLB, ↓o_isTB, ↓o_isNB, ↓o_isNot, ↓o_lenL, ↓o_lenT, ↓o_lenS, ↓o_abs, ↓o_intI, ↓o_intB, ↓o_str, ↓o_gcd, ↓o_list, ↓o_listT, ↓o_tuple, ↓o_tupleT, ↓o_rev, ↓o_type, ↓o_isi, ↓o_isi2, ↓o_rg1, ↓o_rg2, ↓o_zip, ↓o_zipT, ↓o_itemsL, ↓o_itemsT, ↓o_ixL, ↓o_ixT, ↓o_at0, ↓o_at1, ↓o_at2, ↓o_at3, ↓o_at4, ↓o_at5, ↓o_at6, ↓o_at7, ↓o_at8, ↓o_at9, ↓o_at10, ↓o_at11, ↓o_at12, ↓o_at13, ↓o_at14, ↓o_at15, ↓w_eIxO, ↓t_tup1, ↓t_tup2, ↓t_tup3, ↓w_okOnly, ↓w_compN, ↓w_compC, ↓o_all, ↓o_any, ↓bls_nil, ↓bls_cons, ↓o_minL, ↓o_maxL, ↓o_sumL, ↓ints_nil, ↓ints_cons, ↓o_min3, ↓o_max3, ↓o_slL, ↓o_slT, ↓w_eBor, ↓w_bBor, o_isN, w_runF, tyName, isSubTy, tyNames, List.getElem?_cons_zero, List.getElem?_cons_succ, List.set_cons_zero, List.set_cons_succ, List.map_cons, List.map_nil, List.replicate_succ, List.replicate_zero, List.length_cons, List.length_nil, List.cons_append, List.nil_append, Nat.reduceAdd, Nat.reduceSub, Nat.reduceLeDiff, Nat.reduceEqDiff, ↓reduceIte, if_true, if_false, Bool.not_true, Bool.not_false, Bool.true_and, Bool.and_true, Bool.false_and, Bool.and_false, Bool.true_or, Bool.false_or, Bool.or_true, Bool.or_false, reduceCtorEq, decide_true, decide_false, beq_self_eq_true, List.mem_cons, true_or, or_true, true_and, and_true, false_and, and_false, or_false, false_or, String.reduceEq, String.reduceBEq, List.not_mem_nil, Bool.not_eq_true, Bool.false_eq_true, eq_self, not_true_eq_false, not_false_eq_true, Bool.not_eq_eq_eq_not, decide_eq_true_eq, decide_eq_false_iff_not, bne_iff_ne, ne_eq, Int.reduceLT, Int.reduceLE, Int.reduceMul, Int.reduceAdd, Int.reduceNeg, Int.reduceToNat, Int.reducePow, Nat.reduceLT, Int.reduceEq, Int.reduceSub, zipD, List.zipWith_cons_cons, List.zipWith_nil_left, List.zipWith_nil_right, List.all_cons, List.all_nil, id_eq, scalD, borE, wipeE, noOwn, sz_0, szl_0, sz_1, szl_1, sz_2, szl_2, sz_3, szl_3, sz_4, szl_4, sz_5, szl_5, sz_6, szl_6, sz_7, szl_7, sz_8, szl_8, sz_9, szl_9, sz_10, szl_10, sz_11, szl_11, sz_12, szl_12, sz_13, szl_13, sz_14, szl_14, sz_15, szl_15, sz_16, szl_16, sz_17, szl_17, sz_18, szl_18, sz_19, szl_19, sz_20, szl_20, sz_21, szl_21, sz_22, szl_22, sz_23, szl_23, sz_24, szl_24, sz_25, szl_25, sz_26, szl_26, sz_27, szl_27, sz_28, szl_28, sz_29, szl_29, sz_30, szl_30, sz_31, szl_31, sz_32, szl_32, frz, List.all_cons, List.all_nil, c1, c2]
    refine track_loop hn hW hS' fun s3 => ?_
    simp only [r_track_2, ↓w_pin0, ↓w_lent0, ↓w_sPin, ↓w_sLend, ↓w_sAppP, pinE, pin1, dropE, drop1, lendE, lentOk, ↓w_sRaise1, ↓one1_one, ↓w_sTryF, ↓w_sExt, ↓o_any2L, ↓o_any2T, ↓w_lRet, ↓w_lSeq, ↓w_runFL, ↓w_lCallF, ↓w_lRep, ↓o_repL, ↓w_iRevG, ↓o_revIL, ↓o_revIT, ↓o_plusT, ↓o_plusS, ↓o_repS, ↓o_enumL, ↓o_enumT, ↓w_lComp2, ↓w_capL, ↓w_comp2N, ↓w_comp2C, enumD_nil, enumD_cons, fldOf, Er.cls, ↓wR_ok, ↓wR_err, ↓wR_bind, ↓wR_of, ↓wO_some, ↓wO_map, ↓wO_bind, ↓w_var0, ↓w_varS, ↓w_eC, ↓w_e1, ↓w_l1, ↓w_e2, ↓w_l2, ↓w_b1, ↓w_b2, ↓w_eB, ↓w_eF, ↓w_lF, ↓w_eCall, ↓w_eLst, ↓w_aNil, ↓w_aCons, ↓w_eTup, ↓w_lDisp, ↓w_eIf, ↓w_bAnd, ↓w_bOr, ↓w_bNot, ↓w_bYes, ↓w_bChain, ↓w_eAnd, ↓w_eOr, ↓w_iAny, ↓w_oNone, ↓w_oSomeC, ↓w_eSl, ↓w_lSlG, ↓w_lComp, ↓w_sSeq, ↓w_sNil, ↓w_sBreak, ↓w_sCont, ↓w_sSet, ↓w_sSetL, ↓w_sExpr, ↓w_sRet, ↓w_sRetN, ↓w_sIf, ↓w_own0, ↓w_ownS, ↓w_sRetO, ↓w_sApp, ↓w_sSetIx, ↓w_sFrz, ↓w_sThen, ↓w_sRaise, ↓w_sAsg, ↓w_sFor, ↓w_sTry, ↓t_name, ↓t_nil, ↓t_cons, ↓o_plus, ↓o_plusL, ↓o_lAdd, ↓o_sub, ↓o_neg, ↓o_mul, ↓o_fdiv, ↓o_mod, ↓o_pow, ↓o_lt, ↓o_le, ↓o_gt, ↓o_ge, ↓o_eq, ↓o_ne, ↓o_truthB, ↓o_truthI, ↓o_truthN, ↓o_truthL, ↓o_truthT, ↓o_truthS, ↓o_notB, ↓o_isNN, ↓o_isBT, ↓o_isBF, ↓o_isT, ↓o_isIB, ↓o_isSB, ↓o_isLB, ↓o_isTB, ↓o_isNB, ↓o_isNot, ↓o_lenL, ↓o_lenT, ↓o_lenS, ↓o_abs, ↓o_intI, ↓o_intB, ↓o_str, ↓o_gcd, ↓o_list, ↓o_listT, ↓o_tuple, ↓o_tupleT, ↓o_rev, ↓o_type, ↓o_isi, ↓o_isi2, ↓o_rg1, ↓o_rg2, ↓o_zip, ↓o_zipT, ↓o_itemsL, ↓o_itemsT, ↓o_ixL, ↓o_ixT, ↓o_at0, ↓o_at1, ↓o_at2, ↓o_at3, ↓o_at4, ↓o_at5, ↓o_at6, ↓o_at7, ↓o_at8, ↓o_at9, ↓o_at10, ↓o_at11, ↓o_at12, ↓o_at13, ↓o_at14, ↓o_at15, ↓w_eIxO, ↓t_tup1, ↓t_tup2, ↓t_tup3, ↓w_okOnly, ↓w_compN, ↓w_compC, ↓o_all, ↓o_any, ↓bls_nil, ↓bls_cons, ↓o_minL, ↓o_maxL, ↓o_sumL, ↓ints_nil, ↓ints_cons, ↓o_min3, ↓o_max3, ↓o_slL, ↓o_slT, ↓w_eBor, ↓w_bBor, o_isN, w_runF, tyName, isSubTy, tyNames, List.getElem?_cons_zero, List.getElem?_cons_succ, List.set_cons_zero, List.set_cons_succ, List.map_cons, List.map_nil, List.replicate_succ, List.replicate_zero, List.length_cons, List.length_nil, List.cons_append, List.nil_append, Nat.reduceAdd, Nat.reduceSub, Nat.reduceLeDiff, Nat.reduceEqDiff, ↓reduceIte, if_true, if_false, Bool.not_true, Bool.not_false, Bool.true_and, Bool.and_true, Bool.false_and, Bool.and_false, Bool.true_or, Bool.false_or, Bool.or_true, Bool.or_false, reduceCtorEq, decide_true, decide_false, beq_self_eq_true, List.mem_cons, true_or, or_true, true_and, and_true, false_and, and_false, or_false, false_or, String.reduceEq, String.reduceBEq, List.not_mem_nil, Bool.not_eq_true, Bool.false_eq_true, eq_self, not_true_eq_false, not_false_eq_true, Bool.not_eq_eq_eq_not, decide_eq_true_eq, decide_eq_false_iff_not, bne_iff_ne, ne_eq, Int.reduceLT, Int.reduceLE, Int.reduceMul, Int.reduceAdd, Int.reduceNeg, Int.reduceToNat, Int.reducePow, Nat.reduceLT, Int.reduceEq, Int.reduceSub, zipD, List.zipWith_cons_cons, List.zipWith_nil_left, List.zipWith_nil_right, List.all_cons, List.all_nil, id_eq, scalD, borE, wipeE, noOwn, sz_0, szl_0, sz_1, szl_1, sz_2, szl_2, sz_3, szl_3, sz_4, szl_4, sz_5, szl_5, sz_6, szl_6, sz_7, szl_7, sz_8, szl_8, sz_9, szl_9, sz_10, szl_10, sz_11, szl_11, sz_12, szl_12, sz_13, szl_13, sz_14, szl_14, sz_15, szl_15, sz_16, szl_16, sz_17, szl_17, sz_18, szl_18, sz_19, szl_19, sz_20, szl_20, sz_21, szl_21, sz_22, szl_22, sz_23, szl_23, sz_24, szl_24, sz_25, szl_25, sz_26, szl_26, sz_27, szl_27, sz_28, szl_28, sz_29, szl_29, sz_30, szl_30, sz_31, szl_31, sz_32, szl_32, frz, List.all_cons, List.all_nil]
  · apply wR_eq
    simp only [ml_track, gl_track, ↓w_pin0, ↓w_lent0, ↓w_sPin, ↓w_sLend, ↓w_sAppP, pinE, pin1, dropE, drop1, lendE, lentOk, ↓w_sRaise1, ↓one1_one, ↓w_sTryF, ↓w_sExt, ↓o_any2L, ↓o_any2T, ↓w_lRet, ↓w_lSeq, ↓w_runFL, ↓w_lCallF, ↓w_lRep, ↓o_repL, ↓w_iRevG, ↓o_revIL, ↓o_revIT, ↓o_plusT, ↓o_plusS, ↓o_repS, ↓o_enumL, ↓o_enumT, ↓w_lComp2, ↓w_capL, ↓w_comp2N, ↓w_comp2C, enumD_nil, enumD_cons, fldOf, Er.cls, ↓wR_ok, ↓wR_err, ↓wR_bind, ↓wR_of, ↓wO_some, ↓wO_map, ↓wO_bind, ↓w_var0, ↓w_varS, ↓w_eC, ↓w_e1, ↓w_l1, ↓w_e2, ↓w_l2, ↓w_b1, ↓w_b2, ↓w_eB, ↓w_eF, ↓w_lF, ↓w_eCall, ↓w_eLst, ↓w_aNil, ↓w_aCons, ↓w_eTup, ↓w_lDisp, ↓w_eIf, ↓w_bAnd, ↓w_bOr, ↓w_bNot, ↓w_bYes, ↓w_bChain, ↓w_eAnd, ↓w_eOr, ↓w_iAny, ↓w_oNone, ↓w_oSomeC, ↓w_eSl, ↓w_lSlG, ↓w_lComp, ↓w_sSeq, ↓w_sNil, ↓w_sBreak, ↓w_sCont, ↓w_sSet, ↓w_sSetL, ↓w_sExpr, ↓w_sRet, ↓w_sRetN, ↓w_sIf, ↓w_own0, ↓w_ownS, ↓w_sRetO, ↓w_sApp, ↓w_sSetIx, ↓w_sFrz, ↓w_sThen, ↓w_sRaise, ↓w_sAsg, ↓w_sFor, ↓w_sTry, ↓t_name, ↓t_nil, ↓t_cons, ↓o_plus, ↓o_plusL, ↓o_lAdd, ↓o_sub, ↓o_neg, ↓o_mul, ↓o_fdiv, ↓o_mod, ↓o_pow, ↓o_lt, ↓o_le, ↓o_gt, ↓o_ge, ↓o_eq, ↓o_ne, ↓o_truthB, ↓o_truthI, ↓o_truthN, ↓o_truthL, ↓o_truthT, ↓o_truthS, ↓o_notB, ↓o_isNN, ↓o_isBT, ↓o_isBF, ↓o_isT, ↓o_isIB, ↓o_isSB, ↓o_isLB, ↓o_isTB, ↓o_isNB, ↓o_isNot, ↓o_lenL, ↓o_lenT, ↓o_lenS, ↓o_abs, ↓o_intI, ↓o_intB, ↓o_str, ↓o_gcd, ↓o_list, ↓o_listT, ↓o_tuple, ↓o_tupleT, ↓o_rev, ↓o_type, ↓o_isi, ↓o_isi2, ↓o_rg1, ↓o_rg2, ↓o_zip, ↓o_zipT, ↓o_itemsL, ↓o_itemsT, ↓o_ixL, ↓o_ixT, ↓o_at0, ↓o_at1, ↓o_at2, ↓o_at3, ↓o_at4, ↓o_at5, ↓o_at6, ↓o_at7, ↓o_at8, ↓o_at9, ↓o_at10, ↓o_at11, ↓o_at12, ↓o_at13, ↓o_at14, ↓o_at15, ↓w_eIxO, ↓t_tup1, ↓t_tup2, ↓t_tup3, ↓w_okOnly, ↓w_compN, ↓w_compC, ↓o_all, ↓o_any, ↓bls_nil, ↓bls_cons, ↓o_minL, ↓o_maxL, ↓o_sumL, ↓ints_nil, ↓ints_cons, ↓o_min3, ↓o_max3, ↓o_slL, ↓o_slT, ↓w_eBor, ↓w_bBor, o_isN, w_runF, tyName, isSubTy, tyNames, List.getElem?_cons_zero, List.getElem?_cons_succ, List.set_cons_zero, List.set_cons_succ, List.map_cons, List.map_nil, List.replicate_succ, List.replicate_zero, List.length_cons, List.length_nil, List.cons_append, List.nil_append, Nat.reduceAdd, Nat.reduceSub, Nat.reduceLeDiff, Nat.reduceEqDiff, ↓reduceIte, if_true, if_false, Bool.not_true, Bool.not_false, Bool.true_and, Bool.and_true, Bool.false_and, Bool.and_false, Bool.true_or, Bool.false_or, Bool.or_true, Bool.or_false, reduceCtorEq, decide_true, decide_false, beq_self_eq_true, List.mem_cons, true_or, or_true, true_and, and_true, false_and, and_false, or_false, false_or, String.reduceEq, String.reduceBEq, List.not_mem_nil, Bool.not_eq_true, Bool.false_eq_true, eq_self, not_true_eq_false, not_false_eq_true, Bool.not_eq_eq_eq_not, decide_eq_true_eq, decide_eq_false_iff_not, bne_iff_ne, ne_eq, Int.reduceLT, Int.reduceLE, Int.reduceMul, Int.reduceAdd, Int.reduceNeg, Int.reduceToNat, Int.reducePow, Nat.reduceLT, Int.reduceEq, Int.reduceSub, zipD, List.zipWith_cons_cons, List.zipWith_nil_left, List.zipWith_nil_right, List.all_cons, List.all_nil, id_eq, scalD, borE, wipeE, noOwn, sz_0, szl_0, sz_1, szl_1, sz_2, szl_2, sz_3, szl_3, sz_4, szl_4, sz_5, szl_5, sz_6, szl_6, sz_7, szl_7, sz_8, szl_8, sz_9, szl_9, sz_10, szl_10, sz_11, szl_11, sz_12, szl_12, sz_13, szl_13, sz_14, szl_14, sz_15, szl_15, sz_16, szl_16, sz_17, szl_17, sz_18, szl_18, sz_19, szl_19, sz_20, szl_20, sz_21, szl_21, sz_22, szl_22, sz_23, szl_23, sz_24, szl_24, sz_25, szl_25, sz_26, szl_26, sz_27, szl_27, sz_28, szl_28, sz_29, szl_29, sz_30, szl_30, sz_31, szl_31, sz_32, szl_32, frz, List.all_cons, List.all_nil, c1, c2]
    refine track_loop hn hW hS' fun s3 => ?_
    simp only [↓w_pin0, ↓w_lent0, ↓w_sPin, ↓w_sLend, ↓w_sAppP, pinE, pin1, dropE, drop1, lendE, lentOk, ↓w_sRaise1, ↓one1_one, ↓w_sTryF, ↓w_sExt, ↓o_any2L, ↓o_any2T, ↓w_lRet, ↓w_lSeq, ↓w_runFL, ↓w_lCallF, ↓w_lRep, ↓o_repL, ↓w_iRevG, ↓o_revIL, ↓o_revIT, ↓o_plusT, ↓o_plusS, ↓o_repS, ↓o_enumL, ↓o_enumT, ↓w_lComp2, ↓w_capL, ↓w_comp2N, ↓w_comp2C, enumD_nil, enumD_cons, fldOf, Er.cls, ↓wR_ok, ↓wR_err, ↓wR_bind, ↓wR_of, ↓wO_some, ↓wO_map, ↓wO_bind, ↓w_var0, ↓w_varS, ↓w_eC, ↓w_e1, ↓w_l1, ↓w_e2, ↓w_l2, ↓w_b1, ↓w_b2, ↓w_eB, ↓w_eF, ↓w_lF, ↓w_eCall, ↓w_eLst, ↓w_aNil, ↓w_aCons, ↓w_eTup, ↓w_lDisp, ↓w_eIf, ↓w_bAnd, ↓w_bOr, ↓w_bNot, ↓w_bYes, ↓w_bChain, ↓w_eAnd, ↓w_eOr, ↓w_iAny, ↓w_oNone, ↓w_oSomeC, ↓w_eSl, ↓w_lSlG, ↓w_lComp, ↓w_sSeq, ↓w_sNil, ↓w_sBreak, ↓w_sCont, ↓w_sSet, ↓w_sSetL, ↓w_sExpr, ↓w_sRet, ↓w_sRetN, ↓w_sIf, ↓w_own0, ↓w_ownS, ↓w_sRetO, ↓w_sApp, ↓w_sSetIx, ↓w_sFrz, ↓w_sThen, ↓w_sRaise, ↓w_sAsg, ↓w_sFor, ↓w_sTry, ↓t_name, ↓t_nil, ↓t_cons, ↓o_plus, ↓o_plusL, ↓o_lAdd, ↓o_sub, ↓o_neg, ↓o_mul, ↓o_fdiv, ↓o_mod, ↓o_pow, ↓o_lt, ↓o_le, ↓o_gt, ↓o_ge, ↓o_eq, ↓o_ne, ↓o_truthB, ↓o_truthI, ↓o_truthN, ↓o_truthL, ↓o_truthT, ↓o_truthS, ↓o_notB, ↓o_isNN, ↓o_isBT, ↓o_isBF, ↓o_isT, ↓o_isIB, ↓o_isSB, ↓o_isLB, ↓o_isTB, ↓o_isNB, ↓o_isNot, ↓o_lenL, ↓o_lenT, ↓o_lenS, ↓o_abs, ↓o_intI, ↓o_intB, ↓o_str, ↓o_gcd, ↓o_list, ↓o_listT, ↓o_tuple, ↓o_tupleT, ↓o_rev, ↓o_type, ↓o_isi, ↓o_isi2, ↓o_rg1, ↓o_rg2, ↓o_zip, ↓o_zipT, ↓o_itemsL, ↓o_itemsT, ↓o_ixL, ↓o_ixT, ↓o_at0, ↓o_at1, ↓o_at2, ↓o_at3, ↓o_at4, ↓o_at5, ↓o_at6, ↓o_at7, ↓o_at8, ↓o_at9, ↓o_at10, ↓o_at11, ↓o_at12, ↓o_at13, ↓o_at14, ↓o_at15, ↓w_eIxO, ↓t_tup1, ↓t_tup2, ↓t_tup3, ↓w_okOnly, ↓w_compN, ↓w_compC, ↓o_all, ↓o_any, ↓bls_nil, ↓bls_cons, ↓o_minL, ↓o_maxL, ↓o_sumL, ↓ints_nil, ↓ints_cons, ↓o_min3, ↓o_max3, ↓o_slL, ↓o_slT, ↓w_eBor, ↓w_bBor, o_isN, w_runF, tyName, isSubTy, tyNames, List.getElem?_cons_zero, List.getElem?_cons_succ, List.set_cons_zero, List.set_cons_succ, List.map_cons, List.map_nil, List.replicate_succ, List.replicate_zero, List.length_cons, List.length_nil, List.cons_append, List.nil_append, Nat.reduceAdd, Nat.reduceSub, Nat.reduceLeDiff, Nat.reduceEqDiff, ↓reduceIte, if_true, if_false, Bool.not_true, Bool.not_false, Bool.true_and, Bool.and_true, Bool.false_and, Bool.and_false, Bool.true_or, Bool.false_or, Bool.or_true, Bool.or_false, reduceCtorEq, decide_true, decide_false, beq_self_eq_true, List.mem_cons, true_or, or_true, true_and, and_true, false_and, and_false, or_false, false_or, String.reduceEq, String.reduceBEq, List.not_mem_nil, Bool.not_eq_true, Bool.false_eq_true, eq_self, not_true_eq_false, not_false_eq_true, Bool.not_eq_eq_eq_not, decide_eq_true_eq, decide_eq_false_iff_not, bne_iff_ne, ne_eq, Int.reduceLT, Int.reduceLE, Int.reduceMul, Int.reduceAdd, Int.reduceNeg, Int.reduceToNat, Int.reducePow, Nat.reduceLT, Int.reduceEq, Int.reduceSub, zipD, List.zipWith_cons_cons, List.zipWith_nil_left, List.zipWith_nil_right, List.all_cons, List.all_nil, id_eq, scalD, borE, wipeE, noOwn, sz_0, szl_0, sz_1, szl_1, sz_2, szl_2, sz_3, szl_3, sz_4, szl_4, sz_5, szl_5, sz_6, szl_6, sz_7, szl_7, sz_8, szl_8, sz_9, szl_9, sz_10, szl_10, sz_11, szl_11, sz_12, szl_12, sz_13, szl_13, sz_14, szl_14, sz_15, szl_15, sz_16, szl_16, sz_17, szl_17, sz_18, szl_18, sz_19, szl_19, sz_20, szl_20, sz_21, szl_21, sz_22, szl_22, sz_23, szl_23, sz_24, szl_24, sz_25, szl_25, sz_26, szl_26, sz_27, szl_27, sz_28, szl_28, sz_29, szl_29, sz_30, szl_30, sz_31, szl_31, sz_32, szl_32, frz, List.all_cons, List.all_nil]
theorem track_m {d e : D} (h : m_is_map [d] = .ok (.bl false)) : m_track [d, e] = .err badM := by
  have c1 := chkm_bad h
  apply wR_errE
  simp only [m_track, g_track, ↓w_pin0, ↓w_lent0, ↓w_sPin, ↓w_sLend, ↓w_sAppP, pinE, pin1, dropE, drop1, lendE, lentOk, ↓w_sRaise1, ↓one1_one, ↓w_sTryF, ↓w_sExt, ↓o_any2L, ↓o_any2T, ↓w_lRet, ↓w_lSeq, ↓w_runFL, ↓w_lCallF, ↓w_lRep, ↓o_repL, ↓w_iRevG, ↓o_revIL, ↓o_revIT, ↓o_plusT, ↓o_plusS, ↓o_repS, ↓o_enumL, ↓o_enumT, ↓w_lComp2, ↓w_capL, ↓w_comp2N, ↓w_comp2C, enumD_nil, enumD_cons, fldOf, Er.cls, ↓wR_ok, ↓wR_err, ↓wR_bind, ↓wR_of, ↓wO_some, ↓wO_map, ↓wO_bind, ↓w_var0, ↓w_varS, ↓w_eC, ↓w_e1, ↓w_l1, ↓w_e2, ↓w_l2, ↓w_b1, ↓w_b2, ↓w_eB, ↓w_eF, ↓w_lF, ↓w_eCall, ↓w_eLst, ↓w_aNil, ↓w_aCons, ↓w_eTup, ↓w_lDisp, ↓w_eIf, ↓w_bAnd, ↓w_bOr, ↓w_bNot, ↓w_bYes, ↓w_bChain, ↓w_eAnd, ↓w_eOr, ↓w_iAny, ↓w_oNone, ↓w_oSomeC, ↓w_eSl, ↓w_lSlG, ↓w_lComp, ↓w_sSeq, ↓w_sNil, ↓w_sBreak, ↓w_sCont, ↓w_sSet, ↓w_sSetL, ↓w_sExpr, ↓w_sRet, ↓w_sRetN, ↓w_sIf, ↓w_own0, ↓w_ownS, ↓w_sRetO, ↓w_sApp, ↓w_sSetIx, ↓w_sFrz, ↓w_sThen, ↓w_sRaise, ↓w_sAsg, ↓w_sFor, ↓w_sTry, ↓t_name, ↓t_nil, ↓t_cons, ↓o_plus, ↓o_plusL, ↓o_lAdd, ↓o_sub, ↓o_neg, ↓o_mul, ↓o_fdiv, ↓o_mod, ↓o_pow, ↓o_lt, ↓o_le, ↓o_gt, ↓o_ge, ↓o_eq, ↓o_ne, ↓o_truthB, ↓o_truthI, ↓o_truthN, ↓o_truthL, ↓o_truthT, ↓o_truthS, ↓o_notB, ↓o_isNN, ↓o_isBT, ↓o_isBF, ↓o_isT, ↓o_isIB, ↓o_isSB, ↓o_isLB, ↓o_isTB, ↓o_isNB, ↓o_isNot, ↓o_lenL, ↓o_lenT, ↓o_lenS, ↓o_abs, ↓o_intI, ↓o_intB, ↓o_str, ↓o_gcd, ↓o_list, ↓o_listT, ↓o_tuple, ↓o_tupleT, ↓o_rev, ↓o_type, ↓o_isi, ↓o_isi2, ↓o_rg1, ↓o_rg2, ↓o_zip, ↓o_zipT, ↓o_itemsL, ↓o_itemsT, ↓o_ixL, ↓o_ixT, ↓o_at0, ↓o_at1, ↓o_at2, ↓o_at3, ↓o_at4, ↓o_at5, ↓o_at6, ↓o_at7, ↓o_at8, ↓o_at9, ↓o_at10, ↓o_at11, ↓o_at12, ↓o_at13, ↓o_at14, ↓o_at15, ↓w_eIxO, ↓t_tup1, ↓t_tup2, ↓t_tup3, ↓w_okOnly, ↓w_compN, ↓w_compC, ↓o_all, ↓o_any, ↓bls_nil, ↓bls_cons, ↓o_minL, ↓o_maxL, ↓o_sumL, ↓ints_nil, ↓ints_cons, ↓o_min3, ↓o_max3, ↓o_slL, ↓o_slT, ↓w_eBor, ↓w_bBor, o_isN, w_runF, tyName, isSubTy, tyNames, List.getElem?_cons_zero, List.getElem?_cons_succ, List.set_cons_zero, List.set_cons_succ, List.map_cons, List.map_nil, List.replicate_succ, List.replicate_zero, List.length_cons, List.length_nil, List.cons_append, List.nil_append, Nat.reduceAdd, Nat.reduceSub, Nat.reduceLeDiff, Nat.reduceEqDiff, ↓reduceIte, if_true, if_false, Bool.not_true, Bool.not_false, Bool.true_and, Bool.and_true, Bool.false_and, Bool.and_false, Bool.true_or, Bool.false_or, Bool.or_true, Bool.or_false, reduceCtorEq, decide_true, decide_false, beq_self_eq_true, List.mem_cons, true_or, or_true, true_and, and_true, false_and, and_false, or_false, false_or, String.reduceEq, String.reduceBEq, List.not_mem_nil, Bool.not_eq_true, Bool.false_eq_true, eq_self, not_true_eq_false, not_false_eq_true, Bool.not_eq_eq_eq_not, decide_eq_true_eq, decide_eq_false_iff_not, bne_iff_ne, ne_eq, Int.reduceLT, Int.reduceLE, Int.reduceMul, Int.reduceAdd, Int.reduceNeg, Int.reduceToNat, Int.reducePow, Nat.reduceLT, Int.reduceEq, Int.reduceSub, zipD, List.zipWith_cons_cons, List.zipWith_nil_left, List.zipWith_nil_right, List.all_cons, List.all_nil, id_eq, scalD, borE, wipeE, noOwn, sz_0, szl_0, sz_1, szl_1, sz_2, szl_2, sz_3, szl_3, sz_4, szl_4, sz_5, szl_5, sz_6, szl_6, sz_7, szl_7, sz_8, szl_8, sz_9, szl_9, sz_10, szl_10, sz_11, szl_11, sz_12, szl_12, sz_13, szl_13, sz_14, szl_14, sz_15, szl_15, sz_16, szl_16, sz_17, szl_17, sz_18, szl_18, sz_19, szl_19, sz_20, szl_20, sz_21, szl_21, sz_22, szl_22, sz_23, szl_23, sz_24, szl_24, sz_25, szl_25, sz_26, szl_26, sz_27, szl_27, sz_28, szl_28, sz_29, szl_29, sz_30, szl_30, sz_31, szl_31, sz_32, szl_32, frz, List.all_cons, List.all_nil, c1]
theorem track_s {k : Nat} {m : List Int} {e : D} (hm : Mq k m) (hk : k ≤ 200) (h : m_check_steps [e] = .err badS) : m_track [tI m, e] = .err badS := by
  have c1 := chkm_ok hm hk
  apply wR_errE
  simp only [m_track, g_track, ↓w_pin0, ↓w_lent0, ↓w_sPin, ↓w_sLend, ↓w_sAppP, pinE, pin1, dropE, drop1, lendE, lentOk, ↓w_sRaise1, ↓one1_one, ↓w_sTryF, ↓w_sExt, ↓o_any2L, ↓o_any2T, ↓w_lRet, ↓w_lSeq, ↓w_runFL, ↓w_lCallF, ↓w_lRep, ↓o_repL, ↓w_iRevG, ↓o_revIL, ↓o_revIT, ↓o_plusT, ↓o_plusS, ↓o_repS, ↓o_enumL, ↓o_enumT, ↓w_lComp2, ↓w_capL, ↓w_comp2N, ↓w_comp2C, enumD_nil, enumD_cons, fldOf, Er.cls, ↓wR_ok, ↓wR_err, ↓wR_bind, ↓wR_of, ↓wO_some, ↓wO_map, ↓wO_bind, ↓w_var0, ↓w_varS, ↓w_eC, ↓w_e1, ↓w_l1, ↓w_e2, ↓w_l2, ↓w_b1, ↓w_b2, ↓w_eB, ↓w_eF, ↓w_lF, ↓w_eCall, ↓w_eLst, ↓w_aNil, ↓w_aCons, ↓w_eTup, ↓w_lDisp, ↓w_eIf, ↓w_bAnd, ↓w_bOr, ↓w_bNot, ↓w_bYes, ↓w_bChain, ↓w_eAnd, ↓w_eOr, ↓w_iAny, ↓w_oNone, ↓w_oSomeC, ↓w_eSl, ↓w_lSlG, ↓w_lComp, ↓w_sSeq, ↓w_sNil, ↓w_sBreak, ↓w_sCont, ↓w_sSet, ↓w_sSetL, ↓w_sExpr, ↓w_sRet, ↓w_sRetN, ↓w_sIf, ↓w_own0, ↓w_ownS, ↓w_sRetO, ↓w_sApp, ↓w_sSetIx, ↓w_sFrz, ↓w_sThen, ↓w_sRaise, ↓w_sAsg, ↓w_sFor, ↓w_sTry, ↓t_name, ↓t_nil, ↓t_cons, ↓o_plus, ↓o_plusL, ↓o_lAdd, ↓o_sub, ↓o_neg, ↓o_mul, ↓o_fdiv, ↓o_mod, ↓o_pow, ↓o_lt, ↓o_le, ↓o_gt, ↓o_ge, ↓o_eq, ↓o_ne, ↓o_truthB, ↓o_truthI, ↓o_truthN, ↓o_truthL, ↓o_truthT, ↓o_truthS, ↓o_notB, ↓o_isNN, ↓o_isBT, ↓o_isBF, ↓o_isT, ↓o_isIB, ↓o_isSB, ↓o_isLB, ↓o_isTB, ↓o_isNB, ↓o_isNot, ↓o_lenL, ↓o_lenT, ↓o_lenS, ↓o_abs, ↓o_intI, ↓o_intB, ↓o_str, ↓o_gcd, ↓o_list, ↓o_listT, ↓o_tuple, ↓o_tupleT, ↓o_rev, ↓o_type, ↓o_isi, ↓o_isi2, ↓o_rg1, ↓o_rg2, ↓o_zip, ↓o_zipT, ↓o_itemsL, ↓o_itemsT, ↓o_ixL, ↓o_ixT, ↓o_at0, ↓o_at1, ↓o_at2, ↓o_at3, ↓o_at4, ↓o_at5, ↓o_at6, ↓o_at7, ↓o_at8, ↓o_at9, ↓o_at10, ↓o_at11, ↓o_at12, ↓o_at13, ↓o_at14, ↓o_at15, ↓w_eIxO, ↓t_tup1, ↓t_tup2, ↓t_tup3, ↓w_okOnly, ↓w_compN, ↓w_compC, ↓o_all, ↓o_any, ↓bls_nil, ↓bls_cons, ↓o_minL, ↓o_maxL, ↓o_sumL, ↓ints_nil, ↓ints_cons, ↓o_min3, ↓o_max3, ↓o_slL, ↓o_slT, ↓w_eBor, ↓w_bBor, o_isN, w_runF, tyName, isSubTy, tyNames, List.getElem?_cons_zero, List.getElem?_cons_succ, List.set_cons_zero, List.set_cons_succ, List.map_cons, List.map_nil, List.replicate_succ, List.replicate_zero, List.length_cons, List.length_nil, List.cons_append, List.nil_append, Nat.reduceAdd, Nat.reduceSub, Nat.reduceLeDiff, Nat.reduceEqDiff, ↓reduceIte, if_true, if_false, Bool.not_true, Bool.not_false, Bool.true_and, Bool.and_true, Bool.false_and, Bool.and_false, Bool.true_or, Bool.false_or, Bool.or_true, Bool.or_false, reduceCtorEq, decide_true, decide_false, beq_self_eq_true, List.mem_cons, true_or, or_true, true_and, and_true, false_and, and_false, or_false, false_or, String.reduceEq, String.reduceBEq, List.not_mem_nil, Bool.not_eq_true, Bool.false_eq_true, eq_self, not_true_eq_false, not_false_eq_true, Bool.not_eq_eq_eq_not, decide_eq_true_eq, decide_eq_false_iff_not, bne_iff_ne, ne_eq, Int.reduceLT, Int.reduceLE, Int.reduceMul, Int.reduceAdd, Int.reduceNeg, Int.reduceToNat, Int.reducePow, Nat.reduceLT, Int.reduceEq, Int.reduceSub, zipD, List.zipWith_cons_cons, List.zipWith_nil_left, List.zipWith_nil_right, List.all_cons, List.all_nil, id_eq, scalD, borE, wipeE, noOwn, sz_0, szl_0, sz_1, szl_1, sz_2, szl_2, sz_3, szl_3, sz_4, szl_4, sz_5, szl_5, sz_6, szl_6, sz_7, szl_7, sz_8, szl_8, sz_9, szl_9, sz_10, szl_10, sz_11, szl_11, sz_12, szl_12, sz_13, szl_13, sz_14, szl_14, sz_15, szl_15, sz_16, szl_16, sz_17, szl_17, sz_18, szl_18, sz_19, szl_19, sz_20, szl_20, sz_21, szl_21, sz_22, szl_22, sz_23, szl_23, sz_24, szl_24, sz_25, szl_25, sz_26, szl_26, sz_27, szl_27, sz_28, szl_28, sz_29, szl_29, sz_30, szl_30, sz_31, szl_31, sz_32, szl_32, frz, List.all_cons, List.all_nil, c1, h]
end AF

namespace AF
open PySem PySem.Spec PyProof.Rows L2
/-! ### what is seen of a square -/
theorem rq_int (n : Int) : rq (n : Rat) = .tup [.int n, .int 1] := rfl
def SQ (ms : List Int) (s : Int) : Bool := match ms with
  | [_, _, _, _, _, _, g, h, i] => decide (0 < i) && decide (0 < h * s + i) && decide (0 < g * s + i) && decide (0 < g * s + h * s + i)
  | _ => false
theorem square_ok {ms : List Int} (hm : Lt 200 ms) {s : Int} (hs : s.natAbs < 2 ^ 20) : m_sees_square [.tup (iD ms), .int s] = .ok (.bl (SQ ms s)) ∧ m__law_sees [.tup (iD ms), .int s] = .ok (.bl (SQ ms s)) := by
  obtain ⟨hl, hb⟩ := hm
  obtain ⟨a, b, c, d, e, f, g, h', i, rfl⟩ := nine hl
  simp only [List.mem_cons, List.not_mem_nil, or_false, forall_eq_or_imp, forall_eq] at hb
  obtain ⟨x1, x2, x3, x4, x5, x6, x7, x8, x9⟩ := hb
  have U : ∀ {w : Int}, w.natAbs < 2 ^ 200 → w.natAbs < 2 ^ 900 := fun h => lt_up h (by decide)
  have S : ∀ {z : Int} {k : Nat}, z.natAbs < 2 ^ k → k ≤ 3000 → Sm z := fun h hk => sm_of (lt_up h hk)
  have zz : ∀ n : Int, n.natAbs < 2 ^ 20 → Sp (n : Rat) := fun n hn => ⟨Nat.lt_of_lt_of_le hn (Nat.pow_le_pow_right (by decide) (by decide)), by show 1 < 2 ^ 600; decide⟩
  have se := fun (m n : Int) (hm : m.natAbs < 2 ^ 20) (hn : n.natAbs < 2 ^ 20) => seen_ok (a := a) (b := b) (c := c) (d := d) (e := e) (f := f) (zz m hm) (zz n hn) (U x7) (U x8) (U x9)
  have dp : ∀ m n : Int, dep g h' i (m : Rat) (n : Rat) = g * m + h' * n + i := fun m n => by
    show g * m * 1 + h' * n * 1 + i * 1 * 1 = _
    omega
  have z0 : (0 : Int).natAbs < 2 ^ 20 := by decide
  have e00 := se 0 0 z0 z0
  have e01 := se 0 s z0 hs
  have e10 := se s 0 hs z0
  have e11 := se s s hs hs
  rw [dp] at e00 e01 e10 e11
  simp only [rq_int] at e00 e01 e10 e11
  have t0 : Sm 0 := Sm.lt (by decide) (by decide)
  have t1 : Sm 1 := Sm.lt (by decide) (by decide)
  have ss : Sm s := S hs (by decide)
  have r2 : rangeD 0 2 = [.int 0, .int 1] := rfl
  simp only [iD, List.map_cons, List.map_nil, SQ]
  have c0 : g * 0 + h' * 0 + i = i := by omega
  have c1 : g * 0 + h' * s + i = h' * s + i := by omega
  have c2 : g * s + h' * 0 + i = g * s + i := by omega
  rw [c0] at e00
  rw [c1] at e01
  rw [c2] at e10
  constructor
  · apply wR_eq
    simp only [m_sees_square, g_sees_square, ↓w_pin0, ↓w_lent0, ↓w_sPin, ↓w_sLend, ↓w_sAppP, pinE, pin1, dropE, drop1, lendE, lentOk, ↓w_sRaise1, ↓one1_one, ↓w_sTryF, ↓w_sExt, ↓o_any2L, ↓o_any2T, ↓w_lRet, ↓w_lSeq, ↓w_runFL, ↓w_lCallF, ↓w_lRep, ↓o_repL, ↓w_iRevG, ↓o_revIL, ↓o_revIT, ↓o_plusT, ↓o_plusS, ↓o_repS, ↓o_enumL, ↓o_enumT, ↓w_lComp2, ↓w_capL, ↓w_comp2N, ↓w_comp2C, enumD_nil, enumD_cons, fldOf, Er.cls, ↓wR_ok, ↓wR_err, ↓wR_bind, ↓wR_of, ↓wO_some, ↓wO_map, ↓wO_bind, ↓w_var0, ↓w_varS, ↓w_eC, ↓w_e1, ↓w_l1, ↓w_e2, ↓w_l2, ↓w_b1, ↓w_b2, ↓w_eB, ↓w_eF, ↓w_lF, ↓w_eCall, ↓w_eLst, ↓w_aNil, ↓w_aCons, ↓w_eTup, ↓w_lDisp, ↓w_eIf, ↓w_bAnd, ↓w_bOr, ↓w_bNot, ↓w_bYes, ↓w_bChain, ↓w_eAnd, ↓w_eOr, ↓w_iAny, ↓w_oNone, ↓w_oSomeC, ↓w_eSl, ↓w_lSlG, ↓w_lComp, ↓w_sSeq, ↓w_sNil, ↓w_sBreak, ↓w_sCont, ↓w_sSet, ↓w_sSetL, ↓w_sExpr, ↓w_sRet, ↓w_sRetN, ↓w_sIf, ↓w_own0, ↓w_ownS, ↓w_sRetO, ↓w_sApp, ↓w_sSetIx, ↓w_sFrz, ↓w_sThen, ↓w_sRaise, ↓w_sAsg, ↓w_sFor, ↓w_sTry, ↓t_name, ↓t_nil, ↓t_cons, ↓o_plus, ↓o_plusL, ↓o_lAdd, ↓o_sub, ↓o_neg, ↓o_mul, ↓o_fdiv, ↓o_mod, ↓o_pow, ↓o_lt, ↓o_le, ↓o_gt, ↓o_ge, ↓o_eq, ↓o_ne, ↓o_truthB, ↓o_truthI, ↓o_truthN, ↓o_truthL, ↓o_truthT, ↓o_truthS, ↓o_notB, ↓o_isNN, ↓o_isBT, ↓o_isBF, ↓o_isT, ↓o_isIB, ↓o_isSB, ↓o_isLB, ↓o_isTB, ↓o_isNB, ↓o_isNot, ↓o_lenL, ↓o_lenT, ↓o_lenS, ↓o_abs, ↓o_intI, ↓o_intB, ↓o_str, ↓o_gcd, ↓o_list, ↓o_listT, ↓o_tuple, ↓o_tupleT, ↓o_rev, ↓o_type, ↓o_isi, ↓o_isi2, ↓o_rg1, ↓o_rg2, ↓o_zip, ↓o_zipT, ↓o_itemsL, ↓o_itemsT, ↓o_ixL, ↓o_ixT, ↓o_at0, ↓o_at1, ↓o_at2, ↓o_at3, ↓o_at4, ↓o_at5, ↓o_at6, ↓o_at7, ↓o_at8, ↓o_at9, ↓o_at10, ↓o_at11, ↓o_at12, ↓o_at13, ↓o_at14, ↓o_at15, ↓w_eIxO, ↓t_tup1, ↓t_tup2, ↓t_tup3, ↓w_okOnly, ↓w_compN, ↓w_compC, ↓o_all, ↓o_any, ↓bls_nil, ↓bls_cons, ↓o_minL, ↓o_maxL, ↓o_sumL, ↓ints_nil, ↓ints_cons, ↓o_min3, ↓o_max3, ↓o_slL, ↓o_slT, ↓w_eBor, ↓w_bBor, o_isN, w_runF, tyName, isSubTy, tyNames, List.getElem?_cons_zero, List.getElem?_cons_succ, List.set_cons_zero, List.set_cons_succ, List.map_cons, List.map_nil, List.replicate_succ, List.replicate_zero, List.length_cons, List.length_nil, List.cons_append, List.nil_append, Nat.reduceAdd, Nat.reduceSub, Nat.reduceLeDiff, Nat.reduceEqDiff, ↓reduceIte, if_true, if_false, Bool.not_true, Bool.not_false, Bool.true_and, Bool.and_true, Bool.false_and, Bool.and_false, Bool.true_or, Bool.false_or, Bool.or_true, Bool.or_false, reduceCtorEq, decide_true, decide_false, beq_self_eq_true, List.mem_cons, true_or, or_true, true_and, and_true, false_and, and_false, or_false, false_or, String.reduceEq, String.reduceBEq, List.not_mem_nil, Bool.not_eq_true, Bool.false_eq_true, eq_self, not_true_eq_false, not_false_eq_true, Bool.not_eq_eq_eq_not, decide_eq_true_eq, decide_eq_false_iff_not, bne_iff_ne, ne_eq, Int.reduceLT, Int.reduceLE, Int.reduceMul, Int.reduceAdd, Int.reduceNeg, Int.reduceToNat, Int.reducePow, Nat.reduceLT, Int.reduceEq, Int.reduceSub, zipD, List.zipWith_cons_cons, List.zipWith_nil_left, List.zipWith_nil_right, List.all_cons, List.all_nil, id_eq, scalD, borE, wipeE, noOwn, sz_0, szl_0, sz_1, szl_1, sz_2, szl_2, sz_3, szl_3, sz_4, szl_4, sz_5, szl_5, sz_6, szl_6, sz_7, szl_7, sz_8, szl_8, sz_9, szl_9, sz_10, szl_10, sz_11, szl_11, sz_12, szl_12, sz_13, szl_13, sz_14, szl_14, sz_15, szl_15, sz_16, szl_16, sz_17, szl_17, sz_18, szl_18, sz_19, szl_19, sz_20, szl_20, sz_21, szl_21, sz_22, szl_22, sz_23, szl_23, sz_24, szl_24, sz_25, szl_25, sz_26, szl_26, sz_27, szl_27, sz_28, szl_28, sz_29, szl_29, sz_30, szl_30, sz_31, szl_31, sz_32, szl_32, frz, List.all_cons, List.all_nil, ↓w_forN, ↓w_forC, r2, t0, t1, ss, Int.zero_mul, Int.one_mul, e00, e01, e10, e11]
    simp [Bool.and_assoc]
  · apply wR_eq
    simp only [m__law_sees, g__law_sees, b__law_sees_1, b__law_sees_2, r__law_sees_3, ↓w_pin0, ↓w_lent0, ↓w_sPin, ↓w_sLend, ↓w_sAppP, pinE, pin1, dropE, drop1, lendE, lentOk, ↓w_sRaise1, ↓one1_one, ↓w_sTryF, ↓w_sExt, ↓o_any2L, ↓o_any2T, ↓w_lRet, ↓w_lSeq, ↓w_runFL, ↓w_lCallF, ↓w_lRep, ↓o_repL, ↓w_iRevG, ↓o_revIL, ↓o_revIT, ↓o_plusT, ↓o_plusS, ↓o_repS, ↓o_enumL, ↓o_enumT, ↓w_lComp2, ↓w_capL, ↓w_comp2N, ↓w_comp2C, enumD_nil, enumD_cons, fldOf, Er.cls, ↓wR_ok, ↓wR_err, ↓wR_bind, ↓wR_of, ↓wO_some, ↓wO_map, ↓wO_bind, ↓w_var0, ↓w_varS, ↓w_eC, ↓w_e1, ↓w_l1, ↓w_e2, ↓w_l2, ↓w_b1, ↓w_b2, ↓w_eB, ↓w_eF, ↓w_lF, ↓w_eCall, ↓w_eLst, ↓w_aNil, ↓w_aCons, ↓w_eTup, ↓w_lDisp, ↓w_eIf, ↓w_bAnd, ↓w_bOr, ↓w_bNot, ↓w_bYes, ↓w_bChain, ↓w_eAnd, ↓w_eOr, ↓w_iAny, ↓w_oNone, ↓w_oSomeC, ↓w_eSl, ↓w_lSlG, ↓w_lComp, ↓w_sSeq, ↓w_sNil, ↓w_sBreak, ↓w_sCont, ↓w_sSet, ↓w_sSetL, ↓w_sExpr, ↓w_sRet, ↓w_sRetN, ↓w_sIf, ↓w_own0, ↓w_ownS, ↓w_sRetO, ↓w_sApp, ↓w_sSetIx, ↓w_sFrz, ↓w_sThen, ↓w_sRaise, ↓w_sAsg, ↓w_sFor, ↓w_sTry, ↓t_name, ↓t_nil, ↓t_cons, ↓o_plus, ↓o_plusL, ↓o_lAdd, ↓o_sub, ↓o_neg, ↓o_mul, ↓o_fdiv, ↓o_mod, ↓o_pow, ↓o_lt, ↓o_le, ↓o_gt, ↓o_ge, ↓o_eq, ↓o_ne, ↓o_truthB, ↓o_truthI, ↓o_truthN, ↓o_truthL, ↓o_truthT, ↓o_truthS, ↓o_notB, ↓o_isNN, ↓o_isBT, ↓o_isBF, ↓o_isT, ↓o_isIB, ↓o_isSB, ↓o_isLB, ↓o_isTB, ↓o_isNB, ↓o_isNot, ↓o_lenL, ↓o_lenT, ↓o_lenS, ↓o_abs, ↓o_intI, ↓o_intB, ↓o_str, ↓o_gcd, ↓o_list, ↓o_listT, ↓o_tuple, ↓o_tupleT, ↓o_rev, ↓o_type, ↓o_isi, ↓o_isi2, ↓o_rg1, ↓o_rg2, ↓o_zip, ↓o_zipT, ↓o_itemsL, ↓o_itemsT, ↓o_ixL, ↓o_ixT, ↓o_at0, ↓o_at1, ↓o_at2, ↓o_at3, ↓o_at4, ↓o_at5, ↓o_at6, ↓o_at7, ↓o_at8, ↓o_at9, ↓o_at10, ↓o_at11, ↓o_at12, ↓o_at13, ↓o_at14, ↓o_at15, ↓w_eIxO, ↓t_tup1, ↓t_tup2, ↓t_tup3, ↓w_okOnly, ↓w_compN, ↓w_compC, ↓o_all, ↓o_any, ↓bls_nil, ↓bls_cons, ↓o_minL, ↓o_maxL, ↓o_sumL, ↓ints_nil, ↓ints_cons, ↓o_min3, ↓o_max3, ↓o_slL, ↓o_slT, ↓w_eBor, ↓w_bBor, o_isN, w_runF, tyName, isSubTy, tyNames, List.getElem?_cons_zero, List.getElem?_cons_succ, List.set_cons_zero, List.set_cons_succ, List.map_cons, List.map_nil, List.replicate_succ, List.replicate_zero, List.length_cons, List.length_nil, List.cons_append, List.nil_append, Nat.reduceAdd, Nat.reduceSub, Nat.reduceLeDiff, Nat.reduceEqDiff, ↓reduceIte, if_true, if_false, Bool.not_true, Bool.not_false, Bool.true_and, Bool.and_true, Bool.false_and, Bool.and_false, Bool.true_or, Bool.false_or, Bool.or_true, Bool.or_false, reduceCtorEq, decide_true, decide_false, beq_self_eq_true, List.mem_cons, true_or, or_true, true_and, and_true, false_and, and_false, or_false, false_or, String.reduceEq, String.reduceBEq, List.not_mem_nil, Bool.not_eq_true, Bool.false_eq_true, eq_self, not_true_eq_false, not_false_eq_true, Bool.not_eq_eq_eq_not, decide_eq_true_eq, decide_eq_false_iff_not, bne_iff_ne, ne_eq, Int.reduceLT, Int.reduceLE, Int.reduceMul, Int.reduceAdd, Int.reduceNeg, Int.reduceToNat, Int.reducePow, Nat.reduceLT, Int.reduceEq, Int.reduceSub, zipD, List.zipWith_cons_cons, List.zipWith_nil_left, List.zipWith_nil_right, List.all_cons, List.all_nil, id_eq, scalD, borE, wipeE, noOwn, sz_0, szl_0, sz_1, szl_1, sz_2, szl_2, sz_3, szl_3, sz_4, szl_4, sz_5, szl_5, sz_6, szl_6, sz_7, szl_7, sz_8, szl_8, sz_9, szl_9, sz_10, szl_10, sz_11, szl_11, sz_12, szl_12, sz_13, szl_13, sz_14, szl_14, sz_15, szl_15, sz_16, szl_16, sz_17, szl_17, sz_18, szl_18, sz_19, szl_19, sz_20, szl_20, sz_21, szl_21, sz_22, szl_22, sz_23, szl_23, sz_24, szl_24, sz_25, szl_25, sz_26, szl_26, sz_27, szl_27, sz_28, szl_28, sz_29, szl_29, sz_30, szl_30, sz_31, szl_31, sz_32, szl_32, frz, List.all_cons, List.all_nil, ↓w_forN, ↓w_forC, t0, ss, S x7 (by decide), S x8 (by decide), c0, c1, c2]
    by_cases h1 : i ≤ 0
    · (simp [h1] <;> try omega)
    · by_cases h2 : h' * s + i ≤ 0
      · (simp [h1, h2] <;> try omega)
      · by_cases h3 : g * s + i ≤ 0
        · (simp [h1, h2, h3] <;> try omega)
        · by_cases h4 : g * s + h' * s + i ≤ 0
          · (simp [h1, h2, h3, h4] <;> try omega)
          · (simp [h1, h2, h3, h4] <;> try omega)
/-! ### comprehensions by index -/
theorem w_compR {α : Type} {t : GT} {cc : GB} {e : GE} {env : En} {QL : List D → Prop} {E : Er → Prop} {l : List α} (g f : α → D) (p : α → Bool) (h : ∀ i ∈ l, wpO (t (g i) env) fun e1 => wpR (cc e1) (fun k => k = p i ∧ (p i = true → wpR (e e1) (fun y => y = f i) fun _ => False)) fun _ => False) (q : QL ((l.filter p).map f)) : wpR (compM t cc e env (l.map g)) QL E := by
  have key : compM t cc e env (l.map g) = .ok ((l.filter p).map f) := by
    clear q
    induction l with
    | nil => rfl
    | cons d ds ih =>
      have h1 := h d List.mem_cons_self
      have h2 := ih fun d hd => h d (List.mem_cons_of_mem _ hd)
      rw [List.map_cons]
      unfold compM
      revert h1
      cases t (g d) env with
      | none => exact fun h => h.elim
      | some e1 =>
        intro h1
        have h1 : wpR (cc e1) _ _ := h1
        revert h1
        show wpR (cc e1) _ _ → (cc e1).bind _ = _
        cases cc e1 with
        | ok k =>
          intro h1
          obtain ⟨hk, h1⟩ : k = p d ∧ (p d = true → wpR (e e1) (fun y => y = f d) (fun _ => False)) := h1
          subst hk
          show (if p d = true then _ else _) = _
          by_cases hp : p d = true
          · have := wR_eq (h1 hp)
            rw [if_pos hp, this, h2, List.filter_cons_of_pos hp]
            rfl
          · rw [if_neg hp, h2, List.filter_cons_of_neg hp]
        | err x => exact fun h => h.elim
        | stuck => exact fun h => h.elim
  rw [key]
  exact q
theorem w_compA {α : Type} {t : GT} {cc : GB} {e : GE} {env : En} {QL : List D → Prop} {E : Er → Prop} {l : List α} (g f : α → D) (h : ∀ i ∈ l, wpO (t (g i) env) fun e1 => wpR (cc e1) (fun k => k = true ∧ wpR (e e1) (fun y => y = f i) fun _ => False) fun _ => False) (q : QL (l.map f)) : wpR (compM t cc e env (l.map g)) QL E := by
  refine w_compR g f (fun _ => true) (fun i hi => ?_) (by rw [List.filter_eq_self.mpr fun _ _ => rfl]; exact q)
  have := h i hi
  revert this
  cases t (g i) env with
  | none => exact id
  | some e1 =>
    intro h1
    have h1 : wpR (cc e1) _ _ := h1
    revert h1
    show wpR (cc e1) _ _ → wpR (cc e1) _ _
    cases cc e1 with
    | ok k => exact fun h => ⟨h.1, fun _ => h.2⟩
    | err x => exact id
    | stuck => exact id
theorem SD_rev (S : Nat → List Int) (n : Nat) : (SD S n).reverse = SD (fun i => S (n - 1 - i)) n := by
  apply List.ext_getElem?
  intro i
  by_cases hi : i < n
  · rw [List.getElem?_reverse (by rw [SD_len]; exact hi), SD_len]
    simp [SD, hi, show n - 1 - i < n by omega]
  · rw [List.getElem?_eq_none (by rw [List.length_reverse, SD_len]; omega), List.getElem?_eq_none (by rw [SD_len]; omega)]
theorem SD_congr {S T : Nat → List Int} {n : Nat} (h : ∀ i, i < n → S i = T i) : SD S n = SD T n := by
  unfold SD
  exact List.map_congr_left fun i hi => by rw [h i (List.mem_range.mp hi)]
theorem SD_tail (S : Nat → List Int) (n : Nat) : cutD (SD S n) (some 1) none = SD (fun i => S (i + 1)) (n - 1) := by
  have e1 : HT.sIx n 0 (some 1) = min 1 n := by
    unfold HT.sIx
    simp
  have e2 : HT.sIx n n none = n := rfl
  unfold cutD
  rw [SD_len, e1, e2]
  apply List.ext_getElem?
  intro i
  by_cases hi : i < n - 1
  · rw [List.getElem?_take_of_lt (by omega), List.getElem?_drop, show min 1 n + i = i + 1 by omega]
    simp [SD, hi, show i + 1 < n by omega]
  · rw [List.getElem?_eq_none (by rw [List.length_take, List.length_drop, SD_len]; omega), List.getElem?_eq_none (by rw [SD_len]; omega)]
theorem SD_zip (S : Nat → List Int) (n : Nat) : zipD (SD S n) (SD (fun i => S (i + 1)) (n - 1)) = (List.range (n - 1)).map fun i => .tup [tI (S i), tI (S (i + 1))] := by
  apply List.ext_getElem?
  intro i
  unfold zipD
  rw [List.getElem?_zipWith]
  by_cases hi : i < n - 1
  · simp [SD, hi, show i < n by omega]
  · simp [SD, hi]
theorem between_ok {k : Nat} {V : Nat → List Int} {n : Nat} (hk : k ≤ 90) (hn : n ≤ 20) (hV : ∀ i, i < n → Mq k (V i)) : m_steps_between [.lst (SD V n)] = .ok (.lst (SD (fun i => prim (TH (prim (BK (V i))) (V (i + 1)))) (n - 1))) := by
  have c2 := chk_ok (by rw [SD_len]; exact hn) (SD_maps hV (by omega))
  apply wR_eq
  have hz : List.zipWith (fun a b => D.tup [a, b]) (SD V n) (SD (fun i => V (i + 1)) (n - 1)) = _ := SD_zip V n
  simp only [m_steps_between, g_steps_between, ↓w_pin0, ↓w_lent0, ↓w_sPin, ↓w_sLend, ↓w_sAppP, pinE, pin1, dropE, drop1, lendE, lentOk, ↓w_sRaise1, ↓one1_one, ↓w_sTryF, ↓w_sExt, ↓o_any2L, ↓o_any2T, ↓w_lRet, ↓w_lSeq, ↓w_runFL, ↓w_lCallF, ↓w_lRep, ↓o_repL, ↓w_iRevG, ↓o_revIL, ↓o_revIT, ↓o_plusT, ↓o_plusS, ↓o_repS, ↓o_enumL, ↓o_enumT, ↓w_lComp2, ↓w_capL, ↓w_comp2N, ↓w_comp2C, enumD_nil, enumD_cons, fldOf, Er.cls, ↓wR_ok, ↓wR_err, ↓wR_bind, ↓wR_of, ↓wO_some, ↓wO_map, ↓wO_bind, ↓w_var0, ↓w_varS, ↓w_eC, ↓w_e1, ↓w_l1, ↓w_e2, ↓w_l2, ↓w_b1, ↓w_b2, ↓w_eB, ↓w_eF, ↓w_lF, ↓w_eCall, ↓w_eLst, ↓w_aNil, ↓w_aCons, ↓w_eTup, ↓w_lDisp, ↓w_eIf, ↓w_bAnd, ↓w_bOr, ↓w_bNot, ↓w_bYes, ↓w_bChain, ↓w_eAnd, ↓w_eOr, ↓w_iAny, ↓w_oNone, ↓w_oSomeC, ↓w_eSl, ↓w_lSlG, ↓w_lComp, ↓w_sSeq, ↓w_sNil, ↓w_sBreak, ↓w_sCont, ↓w_sSet, ↓w_sSetL, ↓w_sExpr, ↓w_sRet, ↓w_sRetN, ↓w_sIf, ↓w_own0, ↓w_ownS, ↓w_sRetO, ↓w_sApp, ↓w_sSetIx, ↓w_sFrz, ↓w_sThen, ↓w_sRaise, ↓w_sAsg, ↓w_sFor, ↓w_sTry, ↓t_name, ↓t_nil, ↓t_cons, ↓o_plus, ↓o_plusL, ↓o_lAdd, ↓o_sub, ↓o_neg, ↓o_mul, ↓o_fdiv, ↓o_mod, ↓o_pow, ↓o_lt, ↓o_le, ↓o_gt, ↓o_ge, ↓o_eq, ↓o_ne, ↓o_truthB, ↓o_truthI, ↓o_truthN, ↓o_truthL, ↓o_truthT, ↓o_truthS, ↓o_notB, ↓o_isNN, ↓o_isBT, ↓o_isBF, ↓o_isT, ↓o_isIB, ↓o_isSB, ↓o_isLB, ↓o_isTB, ↓o_isNB, ↓o_isNot, ↓o_lenL, ↓o_lenT, ↓o_lenS, ↓o_abs, ↓o_intI, ↓o_intB, ↓o_str, ↓o_gcd, ↓o_list, ↓o_listT, ↓o_tuple, ↓o_tupleT, ↓o_rev, ↓o_type, ↓o_isi, ↓o_isi2, ↓o_rg1, ↓o_rg2, ↓o_zip, ↓o_zipT, ↓o_itemsL, ↓o_itemsT, ↓o_ixL, ↓o_ixT, ↓o_at0, ↓o_at1, ↓o_at2, ↓o_at3, ↓o_at4, ↓o_at5, ↓o_at6, ↓o_at7, ↓o_at8, ↓o_at9, ↓o_at10, ↓o_at11, ↓o_at12, ↓o_at13, ↓o_at14, ↓o_at15, ↓w_eIxO, ↓t_tup1, ↓t_tup2, ↓t_tup3, ↓w_okOnly, ↓o_all, ↓o_any, ↓bls_nil, ↓bls_cons, ↓o_minL, ↓o_maxL, ↓o_sumL, ↓ints_nil, ↓ints_cons, ↓o_min3, ↓o_max3, ↓o_slL, ↓o_slT, ↓w_eBor, ↓w_bBor, o_isN, w_runF, tyName, isSubTy, tyNames, List.getElem?_cons_zero, List.getElem?_cons_succ, List.set_cons_zero, List.set_cons_succ, List.map_cons, List.map_nil, List.replicate_succ, List.replicate_zero, List.length_cons, List.length_nil, List.cons_append, List.nil_append, Nat.reduceAdd, Nat.reduceSub, Nat.reduceLeDiff, Nat.reduceEqDiff, ↓reduceIte, if_true, if_false, Bool.not_true, Bool.not_false, Bool.true_and, Bool.and_true, Bool.false_and, Bool.and_false, Bool.true_or, Bool.false_or, Bool.or_true, Bool.or_false, reduceCtorEq, decide_true, decide_false, beq_self_eq_true, List.mem_cons, true_or, or_true, true_and, and_true, false_and, and_false, or_false, false_or, String.reduceEq, String.reduceBEq, List.not_mem_nil, Bool.not_eq_true, Bool.false_eq_true, eq_self, not_true_eq_false, not_false_eq_true, Bool.not_eq_eq_eq_not, decide_eq_true_eq, decide_eq_false_iff_not, bne_iff_ne, ne_eq, Int.reduceLT, Int.reduceLE, Int.reduceMul, Int.reduceAdd, Int.reduceNeg, Int.reduceToNat, Int.reducePow, Nat.reduceLT, Int.reduceEq, Int.reduceSub, zipD, List.zipWith_cons_cons, List.zipWith_nil_left, List.zipWith_nil_right, List.all_cons, List.all_nil, id_eq, scalD, borE, wipeE, noOwn, sz_0, szl_0, sz_1, szl_1, sz_2, szl_2, sz_3, szl_3, sz_4, szl_4, sz_5, szl_5, sz_6, szl_6, sz_7, szl_7, sz_8, szl_8, sz_9, szl_9, sz_10, szl_10, sz_11, szl_11, sz_12, szl_12, sz_13, szl_13, sz_14, szl_14, sz_15, szl_15, sz_16, szl_16, sz_17, szl_17, sz_18, szl_18, sz_19, szl_19, sz_20, szl_20, sz_21, szl_21, sz_22, szl_22, sz_23, szl_23, sz_24, szl_24, sz_25, szl_25, sz_26, szl_26, sz_27, szl_27, sz_28, szl_28, sz_29, szl_29, sz_30, szl_30, sz_31, szl_31, sz_32, szl_32, frz, List.all_cons, List.all_nil, c2, SD_tail, hz, List.length_map, List.length_range]
  refine ⟨Nat.le_trans (show n - 1 ≤ 20 by omega) (show 20 ≤ sizeLine by decide), w_compA _ (fun i => tI (prim (TH (prim (BK (V i))) (V (i + 1))))) (fun i hi => ?_) rfl⟩
  have hi := List.mem_range.mp hi
  have l1 := (hV i (by omega)).lt
  have l2 := (hV (i + 1) (by omega)).lt
  have b := (back_ok (l1.up (by omega))).1
  have th := (then_ok (ms := prim (BK (V i))) (ns := V (i + 1)) ((BK_lt l1).prim.up (by omega)) (l2.up (by omega))).1
  simp only [↓w_pin0, ↓w_lent0, ↓w_sPin, ↓w_sLend, ↓w_sAppP, pinE, pin1, dropE, drop1, lendE, lentOk, ↓w_sRaise1, ↓one1_one, ↓w_sTryF, ↓w_sExt, ↓o_any2L, ↓o_any2T, ↓w_lRet, ↓w_lSeq, ↓w_runFL, ↓w_lCallF, ↓w_lRep, ↓o_repL, ↓w_iRevG, ↓o_revIL, ↓o_revIT, ↓o_plusT, ↓o_plusS, ↓o_repS, ↓o_enumL, ↓o_enumT, ↓w_lComp2, ↓w_capL, ↓w_comp2N, ↓w_comp2C, enumD_nil, enumD_cons, fldOf, Er.cls, ↓wR_ok, ↓wR_err, ↓wR_bind, ↓wR_of, ↓wO_some, ↓wO_map, ↓wO_bind, ↓w_var0, ↓w_varS, ↓w_eC, ↓w_e1, ↓w_l1, ↓w_e2, ↓w_l2, ↓w_b1, ↓w_b2, ↓w_eB, ↓w_eF, ↓w_lF, ↓w_eCall, ↓w_eLst, ↓w_aNil, ↓w_aCons, ↓w_eTup, ↓w_lDisp, ↓w_eIf, ↓w_bAnd, ↓w_bOr, ↓w_bNot, ↓w_bYes, ↓w_bChain, ↓w_eAnd, ↓w_eOr, ↓w_iAny, ↓w_oNone, ↓w_oSomeC, ↓w_eSl, ↓w_lSlG, ↓w_lComp, ↓w_sSeq, ↓w_sNil, ↓w_sBreak, ↓w_sCont, ↓w_sSet, ↓w_sSetL, ↓w_sExpr, ↓w_sRet, ↓w_sRetN, ↓w_sIf, ↓w_own0, ↓w_ownS, ↓w_sRetO, ↓w_sApp, ↓w_sSetIx, ↓w_sFrz, ↓w_sThen, ↓w_sRaise, ↓w_sAsg, ↓w_sFor, ↓w_sTry, ↓t_name, ↓t_nil, ↓t_cons, ↓o_plus, ↓o_plusL, ↓o_lAdd, ↓o_sub, ↓o_neg, ↓o_mul, ↓o_fdiv, ↓o_mod, ↓o_pow, ↓o_lt, ↓o_le, ↓o_gt, ↓o_ge, ↓o_eq, ↓o_ne, ↓o_truthB, ↓o_truthI, ↓o_truthN, ↓o_truthL, ↓o_truthT, ↓o_truthS, ↓o_notB, ↓o_isNN, ↓o_isBT, ↓o_isBF, ↓o_isT, ↓o_isIB, ↓o_isSB, ↓o_isLB, ↓o_isTB, ↓o_isNB, ↓o_isNot, ↓o_lenL, ↓o_lenT, ↓o_lenS, ↓o_abs, ↓o_intI, ↓o_intB, ↓o_str, ↓o_gcd, ↓o_list, ↓o_listT, ↓o_tuple, ↓o_tupleT, ↓o_rev, ↓o_type, ↓o_isi, ↓o_isi2, ↓o_rg1, ↓o_rg2, ↓o_zip, ↓o_zipT, ↓o_itemsL, ↓o_itemsT, ↓o_ixL, ↓o_ixT, ↓o_at0, ↓o_at1, ↓o_at2, ↓o_at3, ↓o_at4, ↓o_at5, ↓o_at6, ↓o_at7, ↓o_at8, ↓o_at9, ↓o_at10, ↓o_at11, ↓o_at12, ↓o_at13, ↓o_at14, ↓o_at15, ↓w_eIxO, ↓t_tup1, ↓t_tup2, ↓t_tup3, ↓w_okOnly, ↓o_all, ↓o_any, ↓bls_nil, ↓bls_cons, ↓o_minL, ↓o_maxL, ↓o_sumL, ↓ints_nil, ↓ints_cons, ↓o_min3, ↓o_max3, ↓o_slL, ↓o_slT, ↓w_eBor, ↓w_bBor, o_isN, w_runF, tyName, isSubTy, tyNames, List.getElem?_cons_zero, List.getElem?_cons_succ, List.set_cons_zero, List.set_cons_succ, List.map_cons, List.map_nil, List.replicate_succ, List.replicate_zero, List.length_cons, List.length_nil, List.cons_append, List.nil_append, Nat.reduceAdd, Nat.reduceSub, Nat.reduceLeDiff, Nat.reduceEqDiff, ↓reduceIte, if_true, if_false, Bool.not_true, Bool.not_false, Bool.true_and, Bool.and_true, Bool.false_and, Bool.and_false, Bool.true_or, Bool.false_or, Bool.or_true, Bool.or_false, reduceCtorEq, decide_true, decide_false, beq_self_eq_true, List.mem_cons, true_or, or_true, true_and, and_true, false_and, and_false, or_false, false_or, String.reduceEq, String.reduceBEq, List.not_mem_nil, Bool.not_eq_true, Bool.false_eq_true, eq_self, not_true_eq_false, not_false_eq_true, Bool.not_eq_eq_eq_not, decide_eq_true_eq, decide_eq_false_iff_not, bne_iff_ne, ne_eq, Int.reduceLT, Int.reduceLE, Int.reduceMul, Int.reduceAdd, Int.reduceNeg, Int.reduceToNat, Int.reducePow, Nat.reduceLT, Int.reduceEq, Int.reduceSub, zipD, List.zipWith_cons_cons, List.zipWith_nil_left, List.zipWith_nil_right, List.all_cons, List.all_nil, id_eq, scalD, borE, wipeE, noOwn, sz_0, szl_0, sz_1, szl_1, sz_2, szl_2, sz_3, szl_3, sz_4, szl_4, sz_5, szl_5, sz_6, szl_6, sz_7, szl_7, sz_8, szl_8, sz_9, szl_9, sz_10, szl_10, sz_11, szl_11, sz_12, szl_12, sz_13, szl_13, sz_14, szl_14, sz_15, szl_15, sz_16, szl_16, sz_17, szl_17, sz_18, szl_18, sz_19, szl_19, sz_20, szl_20, sz_21, szl_21, sz_22, szl_22, sz_23, szl_23, sz_24, szl_24, sz_25, szl_25, sz_26, szl_26, sz_27, szl_27, sz_28, szl_28, sz_29, szl_29, sz_30, szl_30, sz_31, szl_31, sz_32, szl_32, frz, List.all_cons, List.all_nil, tI, b, th]
theorem seen_steps_ok {V : Nat → List Int} {n : Nat} {s : Int} (hs : s.natAbs < 2 ^ 20) (hn : n ≤ 1000) (hV : ∀ i, i < n → Lt 200 (V i)) : m_seen_steps [.lst (SD V n), .int s] = .ok (.lst (((List.range n).filter fun i => SQ (V i) s).map fun i => .int (i : Nat))) := by
  have en : enumD 0 (SD V n) = (List.range n).map fun i => .tup [.int (i : Nat), tI (V i)] := by
    apply List.ext_getElem?
    intro i
    rw [enumD_get]
    by_cases hi : i < n
    · simp [SD, hi]
    · simp [SD, hi]
  apply wR_eq
  simp only [m_seen_steps, g_seen_steps, ↓w_pin0, ↓w_lent0, ↓w_sPin, ↓w_sLend, ↓w_sAppP, pinE, pin1, dropE, drop1, lendE, lentOk, ↓w_sRaise1, ↓one1_one, ↓w_sTryF, ↓w_sExt, ↓o_any2L, ↓o_any2T, ↓w_lRet, ↓w_lSeq, ↓w_runFL, ↓w_lCallF, ↓w_lRep, ↓o_repL, ↓w_iRevG, ↓o_revIL, ↓o_revIT, ↓o_plusT, ↓o_plusS, ↓o_repS, ↓o_enumL, ↓o_enumT, ↓w_lComp2, ↓w_capL, ↓w_comp2N, ↓w_comp2C, enumD_nil, enumD_cons, fldOf, Er.cls, ↓wR_ok, ↓wR_err, ↓wR_bind, ↓wR_of, ↓wO_some, ↓wO_map, ↓wO_bind, ↓w_var0, ↓w_varS, ↓w_eC, ↓w_e1, ↓w_l1, ↓w_e2, ↓w_l2, ↓w_b1, ↓w_b2, ↓w_eB, ↓w_eF, ↓w_lF, ↓w_eCall, ↓w_eLst, ↓w_aNil, ↓w_aCons, ↓w_eTup, ↓w_lDisp, ↓w_eIf, ↓w_bAnd, ↓w_bOr, ↓w_bNot, ↓w_bYes, ↓w_bChain, ↓w_eAnd, ↓w_eOr, ↓w_iAny, ↓w_oNone, ↓w_oSomeC, ↓w_eSl, ↓w_lSlG, ↓w_lComp, ↓w_sSeq, ↓w_sNil, ↓w_sBreak, ↓w_sCont, ↓w_sSet, ↓w_sSetL, ↓w_sExpr, ↓w_sRet, ↓w_sRetN, ↓w_sIf, ↓w_own0, ↓w_ownS, ↓w_sRetO, ↓w_sApp, ↓w_sSetIx, ↓w_sFrz, ↓w_sThen, ↓w_sRaise, ↓w_sAsg, ↓w_sFor, ↓w_sTry, ↓t_name, ↓t_nil, ↓t_cons, ↓o_plus, ↓o_plusL, ↓o_lAdd, ↓o_sub, ↓o_neg, ↓o_mul, ↓o_fdiv, ↓o_mod, ↓o_pow, ↓o_lt, ↓o_le, ↓o_gt, ↓o_ge, ↓o_eq, ↓o_ne, ↓o_truthB, ↓o_truthI, ↓o_truthN, ↓o_truthL, ↓o_truthT, ↓o_truthS, ↓o_notB, ↓o_isNN, ↓o_isBT, ↓o_isBF, ↓o_isT, ↓o_isIB, ↓o_isSB, ↓o_isLB, ↓o_isTB, ↓o_isNB, ↓o_isNot, ↓o_lenL, ↓o_lenT, ↓o_lenS, ↓o_abs, ↓o_intI, ↓o_intB, ↓o_str, ↓o_gcd, ↓o_list, ↓o_listT, ↓o_tuple, ↓o_tupleT, ↓o_rev, ↓o_type, ↓o_isi, ↓o_isi2, ↓o_rg1, ↓o_rg2, ↓o_zip, ↓o_zipT, ↓o_itemsL, ↓o_itemsT, ↓o_ixL, ↓o_ixT, ↓o_at0, ↓o_at1, ↓o_at2, ↓o_at3, ↓o_at4, ↓o_at5, ↓o_at6, ↓o_at7, ↓o_at8, ↓o_at9, ↓o_at10, ↓o_at11, ↓o_at12, ↓o_at13, ↓o_at14, ↓o_at15, ↓w_eIxO, ↓t_tup1, ↓t_tup2, ↓t_tup3, ↓w_okOnly, ↓o_all, ↓o_any, ↓bls_nil, ↓bls_cons, ↓o_minL, ↓o_maxL, ↓o_sumL, ↓ints_nil, ↓ints_cons, ↓o_min3, ↓o_max3, ↓o_slL, ↓o_slT, ↓w_eBor, ↓w_bBor, o_isN, w_runF, tyName, isSubTy, tyNames, List.getElem?_cons_zero, List.getElem?_cons_succ, List.set_cons_zero, List.set_cons_succ, List.map_cons, List.map_nil, List.replicate_succ, List.replicate_zero, List.length_cons, List.length_nil, List.cons_append, List.nil_append, Nat.reduceAdd, Nat.reduceSub, Nat.reduceLeDiff, Nat.reduceEqDiff, ↓reduceIte, if_true, if_false, Bool.not_true, Bool.not_false, Bool.true_and, Bool.and_true, Bool.false_and, Bool.and_false, Bool.true_or, Bool.false_or, Bool.or_true, Bool.or_false, reduceCtorEq, decide_true, decide_false, beq_self_eq_true, List.mem_cons, true_or, or_true, true_and, and_true, false_and, and_false, or_false, false_or, String.reduceEq, String.reduceBEq, List.not_mem_nil, Bool.not_eq_true, Bool.false_eq_true, eq_self, not_true_eq_false, not_false_eq_true, Bool.not_eq_eq_eq_not, decide_eq_true_eq, decide_eq_false_iff_not, bne_iff_ne, ne_eq, Int.reduceLT, Int.reduceLE, Int.reduceMul, Int.reduceAdd, Int.reduceNeg, Int.reduceToNat, Int.reducePow, Nat.reduceLT, Int.reduceEq, Int.reduceSub, zipD, List.zipWith_cons_cons, List.zipWith_nil_left, List.zipWith_nil_right, List.all_cons, List.all_nil, id_eq, scalD, borE, wipeE, noOwn, sz_0, szl_0, sz_1, szl_1, sz_2, szl_2, sz_3, szl_3, sz_4, szl_4, sz_5, szl_5, sz_6, szl_6, sz_7, szl_7, sz_8, szl_8, sz_9, szl_9, sz_10, szl_10, sz_11, szl_11, sz_12, szl_12, sz_13, szl_13, sz_14, szl_14, sz_15, szl_15, sz_16, szl_16, sz_17, szl_17, sz_18, szl_18, sz_19, szl_19, sz_20, szl_20, sz_21, szl_21, sz_22, szl_22, sz_23, szl_23, sz_24, szl_24, sz_25, szl_25, sz_26, szl_26, sz_27, szl_27, sz_28, szl_28, sz_29, szl_29, sz_30, szl_30, sz_31, szl_31, sz_32, szl_32, frz, List.all_cons, List.all_nil, en, List.length_map, List.length_range]
  refine ⟨Nat.le_trans hn (show 1000 ≤ sizeLine by decide), w_compR _ _ _ (fun i hi => ?_) rfl⟩
  have sq := (square_ok (hV i (List.mem_range.mp hi)) hs).1
  simp only [↓w_pin0, ↓w_lent0, ↓w_sPin, ↓w_sLend, ↓w_sAppP, pinE, pin1, dropE, drop1, lendE, lentOk, ↓w_sRaise1, ↓one1_one, ↓w_sTryF, ↓w_sExt, ↓o_any2L, ↓o_any2T, ↓w_lRet, ↓w_lSeq, ↓w_runFL, ↓w_lCallF, ↓w_lRep, ↓o_repL, ↓w_iRevG, ↓o_revIL, ↓o_revIT, ↓o_plusT, ↓o_plusS, ↓o_repS, ↓o_enumL, ↓o_enumT, ↓w_lComp2, ↓w_capL, ↓w_comp2N, ↓w_comp2C, enumD_nil, enumD_cons, fldOf, Er.cls, ↓wR_ok, ↓wR_err, ↓wR_bind, ↓wR_of, ↓wO_some, ↓wO_map, ↓wO_bind, ↓w_var0, ↓w_varS, ↓w_eC, ↓w_e1, ↓w_l1, ↓w_e2, ↓w_l2, ↓w_b1, ↓w_b2, ↓w_eB, ↓w_eF, ↓w_lF, ↓w_eCall, ↓w_eLst, ↓w_aNil, ↓w_aCons, ↓w_eTup, ↓w_lDisp, ↓w_eIf, ↓w_bAnd, ↓w_bOr, ↓w_bNot, ↓w_bYes, ↓w_bChain, ↓w_eAnd, ↓w_eOr, ↓w_iAny, ↓w_oNone, ↓w_oSomeC, ↓w_eSl, ↓w_lSlG, ↓w_lComp, ↓w_sSeq, ↓w_sNil, ↓w_sBreak, ↓w_sCont, ↓w_sSet, ↓w_sSetL, ↓w_sExpr, ↓w_sRet, ↓w_sRetN, ↓w_sIf, ↓w_own0, ↓w_ownS, ↓w_sRetO, ↓w_sApp, ↓w_sSetIx, ↓w_sFrz, ↓w_sThen, ↓w_sRaise, ↓w_sAsg, ↓w_sFor, ↓w_sTry, ↓t_name, ↓t_nil, ↓t_cons, ↓o_plus, ↓o_plusL, ↓o_lAdd, ↓o_sub, ↓o_neg, ↓o_mul, ↓o_fdiv, ↓o_mod, ↓o_pow, ↓o_lt, ↓o_le, ↓o_gt, ↓o_ge, ↓o_eq, ↓o_ne, ↓o_truthB, ↓o_truthI, ↓o_truthN, ↓o_truthL, ↓o_truthT, ↓o_truthS, ↓o_notB, ↓o_isNN, ↓o_isBT, ↓o_isBF, ↓o_isT, ↓o_isIB, ↓o_isSB, ↓o_isLB, ↓o_isTB, ↓o_isNB, ↓o_isNot, ↓o_lenL, ↓o_lenT, ↓o_lenS, ↓o_abs, ↓o_intI, ↓o_intB, ↓o_str, ↓o_gcd, ↓o_list, ↓o_listT, ↓o_tuple, ↓o_tupleT, ↓o_rev, ↓o_type, ↓o_isi, ↓o_isi2, ↓o_rg1, ↓o_rg2, ↓o_zip, ↓o_zipT, ↓o_itemsL, ↓o_itemsT, ↓o_ixL, ↓o_ixT, ↓o_at0, ↓o_at1, ↓o_at2, ↓o_at3, ↓o_at4, ↓o_at5, ↓o_at6, ↓o_at7, ↓o_at8, ↓o_at9, ↓o_at10, ↓o_at11, ↓o_at12, ↓o_at13, ↓o_at14, ↓o_at15, ↓w_eIxO, ↓t_tup1, ↓t_tup2, ↓t_tup3, ↓w_okOnly, ↓o_all, ↓o_any, ↓bls_nil, ↓bls_cons, ↓o_minL, ↓o_maxL, ↓o_sumL, ↓ints_nil, ↓ints_cons, ↓o_min3, ↓o_max3, ↓o_slL, ↓o_slT, ↓w_eBor, ↓w_bBor, o_isN, w_runF, tyName, isSubTy, tyNames, List.getElem?_cons_zero, List.getElem?_cons_succ, List.set_cons_zero, List.set_cons_succ, List.map_cons, List.map_nil, List.replicate_succ, List.replicate_zero, List.length_cons, List.length_nil, List.cons_append, List.nil_append, Nat.reduceAdd, Nat.reduceSub, Nat.reduceLeDiff, Nat.reduceEqDiff, ↓reduceIte, if_true, if_false, Bool.not_true, Bool.not_false, Bool.true_and, Bool.and_true, Bool.false_and, Bool.and_false, Bool.true_or, Bool.false_or, Bool.or_true, Bool.or_false, reduceCtorEq, decide_true, decide_false, beq_self_eq_true, List.mem_cons, true_or, or_true, true_and, and_true, false_and, and_false, or_false, false_or, String.reduceEq, String.reduceBEq, List.not_mem_nil, Bool.not_eq_true, Bool.false_eq_true, eq_self, not_true_eq_false, not_false_eq_true, Bool.not_eq_eq_eq_not, decide_eq_true_eq, decide_eq_false_iff_not, bne_iff_ne, ne_eq, Int.reduceLT, Int.reduceLE, Int.reduceMul, Int.reduceAdd, Int.reduceNeg, Int.reduceToNat, Int.reducePow, Nat.reduceLT, Int.reduceEq, Int.reduceSub, zipD, List.zipWith_cons_cons, List.zipWith_nil_left, List.zipWith_nil_right, List.all_cons, List.all_nil, id_eq, scalD, borE, wipeE, noOwn, sz_0, szl_0, sz_1, szl_1, sz_2, szl_2, sz_3, szl_3, sz_4, szl_4, sz_5, szl_5, sz_6, szl_6, sz_7, szl_7, sz_8, szl_8, sz_9, szl_9, sz_10, szl_10, sz_11, szl_11, sz_12, szl_12, sz_13, szl_13, sz_14, szl_14, sz_15, szl_15, sz_16, szl_16, sz_17, szl_17, sz_18, szl_18, sz_19, szl_19, sz_20, szl_20, sz_21, szl_21, sz_22, szl_22, sz_23, szl_23, sz_24, szl_24, sz_25, szl_25, sz_26, szl_26, sz_27, szl_27, sz_28, szl_28, sz_29, szl_29, sz_30, szl_30, sz_31, szl_31, sz_32, szl_32, frz, List.all_cons, List.all_nil, tI, sq]
  exact fun _ => trivial
end AF

namespace AF
open PySem PySem.Spec PyProof.Rows L2
/-! ### the maps of a track -/
theorem WK_mq {m : List Int} {S : Nat → List Int} {n : Nat} (hm : Mq 8 m) (hS : ∀ i, i < n → Mq 7 (S i)) : ∀ i, i ≤ n → Mq (8 + 9 * i) (WK m S i)
  | 0, _ => hm
  | i + 1, h => by
    have a := WK_mq hm hS i (by omega)
    have b := hS i h
    have t := TH_lt a.lt b.lt
    have hd : ME (TH (WK m S i) (S i)) ≠ 0 := by
      rw [ME_TH a.len b.len]
      exact Int.mul_ne_zero a.det b.det
    have q := (mq_prim t hd).1
    rw [show 7 + (8 + 9 * i) + 2 = 8 + 9 * (i + 1) by omega] at q
    exact q
theorem Mq.up {k m : Nat} {x : List Int} (h : Mq k x) (hk : k ≤ m) : Mq m x := ⟨h.lt.up hk, h.one, h.det⟩
theorem BK_nz {x : List Int} (hx : x.length = 9) (hd : ME x ≠ 0) : ME (BK x) ≠ 0 := ME_BK hx hd
theorem prim_id_r {x y : List Int} {c : Int} (hc : 0 < c) (hy : y.length = 9) : prim (TH (ID9.map (c * ·)) y) = prim y := by
  rw [TH_l _ rfl hy, prim_scale hc]
  obtain ⟨a, b, c, d, e, f, g, h, i, rfl⟩ := nine hy
  congr 1
  simp only [TH, ID9, thenL]
  simp
theorem fwd {m : List Int} {S : Nat → List Int} {n : Nat} (hm : Mq 8 m) (hS : ∀ i, i < n → Mq 7 (S i)) {i : Nat} (hi : i < n) : prim (TH (prim (BK (WK m S i))) (WK m S (i + 1))) = S i := by
  have a := WK_mq hm hS i (by omega)
  have b := hS i hi
  have hd : ME (TH (WK m S i) (S i)) ≠ 0 := by
    rw [ME_TH a.len b.len]
    exact Int.mul_ne_zero a.det b.det
  have t := TH_lt a.lt b.lt
  have hp : (0 : Int) < ((ME (WK m S i)).natAbs : Int) := by have := a.det; omega
  show prim (TH (prim (BK (WK m S i))) (prim (TH (WK m S i) (S i)))) = S i
  rw [prim_TH_r (BK_lt a.lt).prim t hd, prim_TH_l (BK_lt a.lt) (BK_nz a.len a.det) t, ← TH_assoc (BK_len a.len) a.len b.len, (BK_r a.len).2, prim_id_r (x := []) hp b.len, b.prim]
theorem bwd {m : List Int} {S : Nat → List Int} {n : Nat} (hm : Mq 8 m) (hS : ∀ i, i < n → Mq 7 (S i)) {i : Nat} (hi : i < n) : prim (TH (prim (BK (WK m S (i + 1)))) (WK m S i)) = prim (BK (S i)) := by
  have a := WK_mq hm hS i (by omega)
  have b := hS i hi
  have hd : ME (TH (WK m S i) (S i)) ≠ 0 := by
    rw [ME_TH a.len b.len]
    exact Int.mul_ne_zero a.det b.det
  have t := TH_lt a.lt b.lt
  have tl := TH_len a.len b.len
  have hp : (0 : Int) < ((ME (WK m S i)).natAbs : Int) := by have := a.det; omega
  show prim (TH (prim (BK (prim (TH (WK m S i) (S i))))) (WK m S i)) = _
  rw [prim_BK t hd, prim_TH_l (BK_lt t) (BK_nz tl hd) a.lt, BK_TH a.len b.len a.det b.det, TH_assoc (BK_len b.len) (BK_len a.len) a.len, (BK_r a.len).2, TH_r _ (BK_len b.len) rfl, prim_scale hp, TH_id (BK_len b.len)]
/-! ### equal data -/
theorem okS_tI {ms : List Int} (h : ms.length = 9) (k : Nat) : okS (k + 2) (tI ms) = true := by
  obtain ⟨a, b, c, d, e, f, g, h', i, rfl⟩ := nine h
  rfl
theorem okS_SD {S : Nat → List Int} {n : Nat} (h : ∀ i, i < n → (S i).length = 9) (hn : n ≤ 1000000) (k : Nat) : okS (k + 3) (.lst (SD S n)) = true := by
  have h1 : (SD S n).all (okS (k + 2)) = true := by
    refine List.all_eq_true.mpr fun d hd => ?_
    obtain ⟨i, hi, e⟩ := List.mem_iff_getElem.mp hd
    have q := SD_get (List.getElem?_eq_some_iff.mpr ⟨hi, e⟩)
    rw [q.1]
    exact okS_tI (h i q.2) k
  show (decide ((SD S n).length ≤ 1000000) && (SD S n).all (okS (k + 2))) = true
  rw [h1, SD_len, decide_eq_true hn]
  rfl
theorem same_SD {S : Nat → List Int} {n : Nat} (h : ∀ i, i < n → (S i).length = 9) (hn : n ≤ 1000000) : m__law_same 40 [.lst (SD S n), .lst (SD S n)] = .ok (.bl true) := same_ok 40 _ (okS_SD h hn 37)
theorem same_tI {ms : List Int} (h : ms.length = 9) : m__law_same 40 [tI ms, tI ms] = .ok (.bl true) := same_ok 40 _ (okS_tI h 38)
theorem same_nats (l : List Nat) (hl : l.length ≤ 1000000) : m__law_same 40 [.lst (l.map fun i => D.int (i : Nat)), .lst (l.map fun i => D.int (i : Nat))] = .ok (.bl true) := by
  refine same_ok 40 _ ?_
  show (decide ((l.map fun i => D.int (i : Nat)).length ≤ 1000000) && (l.map fun i => D.int (i : Nat)).all (okS 39)) = true
  rw [List.length_map, decide_eq_true hl, List.all_eq_true.mpr]
  · rfl
  · intro d hd
    obtain ⟨i, _, rfl⟩ := List.mem_map.mp hd
    rfl
theorem same_SD2 {S T : Nat → List Int} {n : Nat} (h : ∀ i, i < n → (S i).length = 9) (h2 : ∀ i, i < n → (T i).length = 9) (hn : n ≤ 1000000) : m__law_same 40 [.lst [.lst (SD S n), .lst (SD T n)], .lst [.lst (SD S n), .lst (SD T n)]] = .ok (.bl true) := by
  refine same_ok 40 _ ?_
  show (decide (([.lst (SD S n), .lst (SD T n)] : List D).length ≤ 1000000) && ([.lst (SD S n), .lst (SD T n)] : List D).all (okS 39)) = true
  rw [List.all_cons, List.all_cons, okS_SD h hn 36, okS_SD h2 hn 36]
  rfl
/-! ### the law's tracks -/
theorem due_loop {m : List Int} {S : Nat → List Int} {n : Nat} (hn : n ≤ 20) (hW : ∀ i, i ≤ n → Lt 200 (WK m S i)) (hS : ∀ i, i < n → Lt 200 (S i)) {s0 s1 s3 s4 s5 s6 s7 s8 s9 : Sl} (h3 : s3 = .unk ∨ ∃ d, s3 = .val d) {R : D → Prop} {ES : Er → En → Prop} {N B C : En → Prop} (hN : ∀ s3, (s3 = .unk ∨ ∃ d, s3 = .val d) → N [s0, s1, .own (SD (WK m S) (n + 1)), s3, s4, s5, s6, s7, s8, s9]) :
    wpS (forL (tName 3) b__law_track_holds_1 (SD S n) [s0, s1, .own [tI m], s3, s4, s5, s6, s7, s8, s9]) N R ES B C := by
  refine w_forI (fun i e => ∃ s3, (s3 = .unk ∨ ∃ d, s3 = .val d) ∧ e = [s0, s1, .own (TR m S (i + 1)), s3, s4, s5, s6, s7, s8, s9]) ⟨s3, h3, rfl⟩ ?_ ?_
  · rintro i d env hd ⟨s3, _, rfl⟩
    obtain ⟨rfl, hi⟩ := SD_get hd
    have th := (then_ok (hW i (by omega)) (hS i hi)).2
    have hz : (TR m S (i + 1)).length < sizeLine := by rw [TR_len]; exact Nat.lt_of_le_of_lt (show i + 1 ≤ 20 by omega) (by decide)
    have ix : ∀ Q : D → Prop, wpO (atI (TR m S (i + 1)) (-1)) Q = Q (tI (WK m S i)) := fun Q => by rw [← TR_succ]; exact atI_last
    rw [t_name]
    simp only [List.set_cons_succ, List.set_cons_zero]
    simp only [b__law_track_holds_1, ↓w_pin0, ↓w_lent0, ↓w_sPin, ↓w_sLend, ↓w_sAppP, pinE, pin1, dropE, drop1, lendE, lentOk, ↓w_sRaise1, ↓one1_one, ↓w_sTryF, ↓w_sExt, ↓o_any2L, ↓o_any2T, ↓w_lRet, ↓w_lSeq, ↓w_runFL, ↓w_lCallF, ↓w_lRep, ↓o_repL, ↓w_iRevG, ↓o_revIL, ↓o_revIT, ↓o_plusT, ↓o_plusS, ↓o_repS, ↓o_enumL, ↓o_enumT, ↓w_lComp2, ↓w_capL, ↓w_comp2N, ↓w_comp2C, enumD_nil, enumD_cons, fldOf, Er.cls, ↓wR_ok, ↓wR_err, ↓wR_bind, ↓wR_of, ↓wO_some, ↓wO_map, ↓wO_bind, ↓w_var0, ↓w_varS, ↓w_eC, ↓w_e1, ↓w_l1, ↓w_e2, ↓w_l2, ↓w_b1, ↓w_b2, ↓w_eB, ↓w_eF, ↓w_lF, ↓w_eCall, ↓w_eLst, ↓w_aNil, ↓w_aCons, ↓w_eTup, ↓w_lDisp, ↓w_eIf, ↓w_bAnd, ↓w_bOr, ↓w_bNot, ↓w_bYes, ↓w_bChain, ↓w_eAnd, ↓w_eOr, ↓w_iAny, ↓w_oNone, ↓w_oSomeC, ↓w_eSl, ↓w_lSlG, ↓w_lComp, ↓w_sSeq, ↓w_sNil, ↓w_sBreak, ↓w_sCont, ↓w_sSet, ↓w_sSetL, ↓w_sExpr, ↓w_sRet, ↓w_sRetN, ↓w_sIf, ↓w_own0, ↓w_ownS, ↓w_sRetO, ↓w_sApp, ↓w_sSetIx, ↓w_sFrz, ↓w_sThen, ↓w_sRaise, ↓w_sAsg, ↓w_sFor, ↓w_sTry, ↓t_name, ↓t_nil, ↓t_cons, ↓o_plus, ↓o_plusL, ↓o_lAdd, ↓o_sub, ↓o_neg, ↓o_mul, ↓o_fdiv, ↓o_mod, ↓o_pow, ↓o_lt, ↓o_le, ↓o_gt, ↓o_ge, ↓o_eq, ↓o_ne, ↓o_truthB, ↓o_truthI, ↓o_truthN, ↓o_truthL, ↓o_truthT, ↓o_truthS, ↓o_notB, ↓o_isNN, ↓o_isBT, ↓o_isBF, ↓o_isT, ↓o_isIB, ↓o_isSB, ↓o_isLB, ↓o_isTB, ↓o_isNB, ↓o_isNot, ↓o_lenL, ↓o_lenT, ↓o_lenS, ↓o_abs, ↓o_intI, ↓o_intB, ↓o_str, ↓o_gcd, ↓o_list, ↓o_listT, ↓o_tuple, ↓o_tupleT, ↓o_rev, ↓o_type, ↓o_isi, ↓o_isi2, ↓o_rg1, ↓o_rg2, ↓o_zip, ↓o_zipT, ↓o_itemsL, ↓o_itemsT, ↓o_ixL, ↓o_ixT, ↓o_at0, ↓o_at1, ↓o_at2, ↓o_at3, ↓o_at4, ↓o_at5, ↓o_at6, ↓o_at7, ↓o_at8, ↓o_at9, ↓o_at10, ↓o_at11, ↓o_at12, ↓o_at13, ↓o_at14, ↓o_at15, ↓w_eIxO, ↓t_tup1, ↓t_tup2, ↓t_tup3, ↓w_okOnly, ↓w_compN, ↓w_compC, ↓o_all, ↓o_any, ↓bls_nil, ↓bls_cons, ↓o_minL, ↓o_maxL, ↓o_sumL, ↓ints_nil, ↓ints_cons, ↓o_min3, ↓o_max3, ↓o_slL, ↓o_slT, ↓w_eBor, ↓w_bBor, o_isN, w_runF, tyName, isSubTy, tyNames, List.getElem?_cons_zero, List.getElem?_cons_succ, List.set_cons_zero, List.set_cons_succ, List.map_cons, List.map_nil, List.replicate_succ, List.replicate_zero, List.length_cons, List.length_nil, List.cons_append, List.nil_append, Nat.reduceAdd, Nat.reduceSub, Nat.reduceLeDiff, Nat.reduceEqDiff, ↓reduceIte, if_true, if_false, Bool.not_true, Bool.not_false, Bool.true_and, Bool.and_true, Bool.false_and, Bool.and_false, Bool.true_or, Bool.false_or, Bool.or_true, Bool.or_false, reduceCtorEq, decide_true, decide_false, beq_self_eq_true, List.mem_cons, true_or, or_true, true_and, and_true, false_and, and_false, or_false, false_or, String.reduceEq, String.reduceBEq, List.not_mem_nil, Bool.not_eq_true, Bool.false_eq_true, eq_self, not_true_eq_false, not_false_eq_true, Bool.not_eq_eq_eq_not, decide_eq_true_eq, decide_eq_false_iff_not, bne_iff_ne, ne_eq, Int.reduceLT, Int.reduceLE, Int.reduceMul, Int.reduceAdd, Int.reduceNeg, Int.reduceToNat, Int.reducePow, Nat.reduceLT, Int.reduceEq, Int.reduceSub, zipD, List.zipWith_cons_cons, List.zipWith_nil_left, List.zipWith_nil_right, List.all_cons, List.all_nil, id_eq, scalD, borE, wipeE, noOwn, sz_0, szl_0, sz_1, szl_1, sz_2, szl_2, sz_3, szl_3, sz_4, szl_4, sz_5, szl_5, sz_6, szl_6, sz_7, szl_7, sz_8, szl_8, sz_9, szl_9, sz_10, szl_10, sz_11, szl_11, sz_12, szl_12, sz_13, szl_13, sz_14, szl_14, sz_15, szl_15, sz_16, szl_16, sz_17, szl_17, sz_18, szl_18, sz_19, szl_19, sz_20, szl_20, sz_21, szl_21, sz_22, szl_22, sz_23, szl_23, sz_24, szl_24, sz_25, szl_25, sz_26, szl_26, sz_27, szl_27, sz_28, szl_28, sz_29, szl_29, sz_30, szl_30, sz_31, szl_31, sz_32, szl_32, frz, List.all_cons, List.all_nil, ix, tI, th]
    exact ⟨hz, _, .inr ⟨_, rfl⟩, by rw [← TR_succ m S (i + 1)]; rfl⟩
  · rintro env ⟨s3, q, rfl⟩
    rw [SD_len]
    exact hN s3 q
theorem o_SD {V : Nat → List Int} {n i : Nat} (hi : i < n) {Q : D → Prop} : wpO (atI (SD V n) (i : Int)) Q = Q (tI (V i)) := o_at (by simp [SD, hi])
theorem rangeD_map (n : Nat) : rangeD 0 n = (List.range n).map fun i : Nat => D.int (0 + (i : Int)) := rfl
theorem side_ok {V : Nat → List Int} {n : Nat} {s : Int} (hs : s.natAbs < 2 ^ 20) (hn : n ≤ 1000) (hV : ∀ i, i < n → Lt 200 (V i)) {x0 x1 x3 x4 x5 x6 x8 x9 : Sl} (h9 : x9 = .unk ∨ ∃ d, x9 = .val d) {R : D → Prop} {ES : Er → En → Prop} {N B C : En → Prop}
    (hN : ∀ x8, N [x0, x1, .pin (.lst (SD V n)), x3, x4, x5, x6, .val (.int s), x8, x9]) :
    wpS (b__law_track_holds_2 [x0, x1, .pin (.lst (SD V n)), x3, x4, x5, x6, .val (.int s), x8, x9]) N R ES B C := by
  have se := seen_steps_ok hs hn hV
  have sa := same_nats ((List.range n).filter fun i => SQ (V i) s) (Nat.le_trans (List.length_filter_le _ _) (by rw [List.length_range]; omega))
  have key : ∀ Q : List D → Prop, Q (((List.range n).filter fun i => SQ (V i) s).map fun i => .int (i : Nat)) → wpR
        (compM (tName 9) (b1 truth (eCall m__law_sees (aCons (e2 dIx (eVar 2) (eVar 9)) (aCons (eVar 7) aNil))))
          (eVar 9) [x0, x1, Sl.pin (D.lst (SD V n)), x3, x4, x5, x6, Sl.val (D.int s), x8, Sl.unk]
          (rangeD 0 n)) Q (fun _ => False) := fun Q q => by
    rw [rangeD_map]
    refine w_compR _ (fun i => .int (i : Nat)) (fun i => SQ (V i) s) (fun i hi => ?_) q
    have hi := List.mem_range.mp hi
    have sq := (square_ok (hV i hi) hs).2
    have z : (0 : Int) + (i : Int) = i := by omega
    simp only [↓w_pin0, ↓w_lent0, ↓w_sPin, ↓w_sLend, ↓w_sAppP, pinE, pin1, dropE, drop1, lendE, lentOk, ↓w_sRaise1, ↓one1_one, ↓w_sTryF, ↓w_sExt, ↓o_any2L, ↓o_any2T, ↓w_lRet, ↓w_lSeq, ↓w_runFL, ↓w_lCallF, ↓w_lRep, ↓o_repL, ↓w_iRevG, ↓o_revIL, ↓o_revIT, ↓o_plusT, ↓o_plusS, ↓o_repS, ↓o_enumL, ↓o_enumT, ↓w_lComp2, ↓w_capL, ↓w_comp2N, ↓w_comp2C, enumD_nil, enumD_cons, fldOf, Er.cls, ↓wR_ok, ↓wR_err, ↓wR_bind, ↓wR_of, ↓wO_some, ↓wO_map, ↓wO_bind, ↓w_var0, ↓w_varS, ↓w_eC, ↓w_e1, ↓w_l1, ↓w_e2, ↓w_l2, ↓w_b1, ↓w_b2, ↓w_eB, ↓w_eF, ↓w_lF, ↓w_eCall, ↓w_eLst, ↓w_aNil, ↓w_aCons, ↓w_eTup, ↓w_lDisp, ↓w_eIf, ↓w_bAnd, ↓w_bOr, ↓w_bNot, ↓w_bYes, ↓w_bChain, ↓w_eAnd, ↓w_eOr, ↓w_iAny, ↓w_oNone, ↓w_oSomeC, ↓w_eSl, ↓w_lSlG, ↓w_lComp, ↓w_sSeq, ↓w_sNil, ↓w_sBreak, ↓w_sCont, ↓w_sSet, ↓w_sSetL, ↓w_sExpr, ↓w_sRet, ↓w_sRetN, ↓w_sIf, ↓w_own0, ↓w_ownS, ↓w_sRetO, ↓w_sApp, ↓w_sSetIx, ↓w_sFrz, ↓w_sThen, ↓w_sRaise, ↓w_sAsg, ↓w_sFor, ↓w_sTry, ↓t_name, ↓t_nil, ↓t_cons, ↓o_plus, ↓o_plusL, ↓o_lAdd, ↓o_sub, ↓o_neg, ↓o_mul, ↓o_fdiv, ↓o_mod, ↓o_pow, ↓o_lt, ↓o_le, ↓o_gt, ↓o_ge, ↓o_eq, ↓o_ne, ↓o_truthB, ↓o_truthI, ↓o_truthN, ↓o_truthL, ↓o_truthT, ↓o_truthS, ↓o_notB, ↓o_isNN, ↓o_isBT, ↓o_isBF, ↓o_isT, ↓o_isIB, ↓o_isSB, ↓o_isLB, ↓o_isTB, ↓o_isNB, ↓o_isNot, ↓o_lenL, ↓o_lenT, ↓o_lenS, ↓o_abs, ↓o_intI, ↓o_intB, ↓o_str, ↓o_gcd, ↓o_list, ↓o_listT, ↓o_tuple, ↓o_tupleT, ↓o_rev, ↓o_type, ↓o_isi, ↓o_isi2, ↓o_rg1, ↓o_rg2, ↓o_zip, ↓o_zipT, ↓o_itemsL, ↓o_itemsT, ↓o_ixL, ↓o_ixT, ↓o_at0, ↓o_at1, ↓o_at2, ↓o_at3, ↓o_at4, ↓o_at5, ↓o_at6, ↓o_at7, ↓o_at8, ↓o_at9, ↓o_at10, ↓o_at11, ↓o_at12, ↓o_at13, ↓o_at14, ↓o_at15, ↓w_eIxO, ↓t_tup1, ↓t_tup2, ↓t_tup3, ↓w_okOnly, ↓o_all, ↓o_any, ↓bls_nil, ↓bls_cons, ↓o_minL, ↓o_maxL, ↓o_sumL, ↓ints_nil, ↓ints_cons, ↓o_min3, ↓o_max3, ↓o_slL, ↓o_slT, ↓w_eBor, ↓w_bBor, o_isN, w_runF, tyName, isSubTy, tyNames, List.getElem?_cons_zero, List.getElem?_cons_succ, List.set_cons_zero, List.set_cons_succ, List.map_cons, List.map_nil, List.replicate_succ, List.replicate_zero, List.length_cons, List.length_nil, List.cons_append, List.nil_append, Nat.reduceAdd, Nat.reduceSub, Nat.reduceLeDiff, Nat.reduceEqDiff, ↓reduceIte, if_true, if_false, Bool.not_true, Bool.not_false, Bool.true_and, Bool.and_true, Bool.false_and, Bool.and_false, Bool.true_or, Bool.false_or, Bool.or_true, Bool.or_false, reduceCtorEq, decide_true, decide_false, beq_self_eq_true, List.mem_cons, true_or, or_true, true_and, and_true, false_and, and_false, or_false, false_or, String.reduceEq, String.reduceBEq, List.not_mem_nil, Bool.not_eq_true, Bool.false_eq_true, eq_self, not_true_eq_false, not_false_eq_true, Bool.not_eq_eq_eq_not, decide_eq_true_eq, decide_eq_false_iff_not, bne_iff_ne, ne_eq, Int.reduceLT, Int.reduceLE, Int.reduceMul, Int.reduceAdd, Int.reduceNeg, Int.reduceToNat, Int.reducePow, Nat.reduceLT, Int.reduceEq, Int.reduceSub, zipD, List.zipWith_cons_cons, List.zipWith_nil_left, List.zipWith_nil_right, List.all_cons, List.all_nil, id_eq, scalD, borE, wipeE, noOwn, sz_0, szl_0, sz_1, szl_1, sz_2, szl_2, sz_3, szl_3, sz_4, szl_4, sz_5, szl_5, sz_6, szl_6, sz_7, szl_7, sz_8, szl_8, sz_9, szl_9, sz_10, szl_10, sz_11, szl_11, sz_12, szl_12, sz_13, szl_13, sz_14, szl_14, sz_15, szl_15, sz_16, szl_16, sz_17, szl_17, sz_18, szl_18, sz_19, szl_19, sz_20, szl_20, sz_21, szl_21, sz_22, szl_22, sz_23, szl_23, sz_24, szl_24, sz_25, szl_25, sz_26, szl_26, sz_27, szl_27, sz_28, szl_28, sz_29, szl_29, sz_30, szl_30, sz_31, szl_31, sz_32, szl_32, frz, List.all_cons, List.all_nil, z, o_SD hi, tI, sq]
    exact fun _ => trivial
  unfold b__law_track_holds_2
  rw [w_sSeq]
  simp only [↓w_pin0, ↓w_lent0, ↓w_sPin, ↓w_sLend, ↓w_sAppP, pinE, pin1, dropE, drop1, lendE, lentOk, ↓w_sRaise1, ↓one1_one, ↓w_sTryF, ↓w_sExt, ↓o_any2L, ↓o_any2T, ↓w_lRet, ↓w_lSeq, ↓w_runFL, ↓w_lCallF, ↓w_lRep, ↓o_repL, ↓w_iRevG, ↓o_revIL, ↓o_revIT, ↓o_plusT, ↓o_plusS, ↓o_repS, ↓o_enumL, ↓o_enumT, ↓w_lComp2, ↓w_capL, ↓w_comp2N, ↓w_comp2C, enumD_nil, enumD_cons, fldOf, Er.cls, ↓wR_ok, ↓wR_err, ↓wR_bind, ↓wR_of, ↓wO_some, ↓wO_map, ↓wO_bind, ↓w_var0, ↓w_varS, ↓w_eC, ↓w_e1, ↓w_l1, ↓w_e2, ↓w_l2, ↓w_b1, ↓w_b2, ↓w_eB, ↓w_eF, ↓w_lF, ↓w_eCall, ↓w_eLst, ↓w_aNil, ↓w_aCons, ↓w_eTup, ↓w_lDisp, ↓w_eIf, ↓w_bAnd, ↓w_bOr, ↓w_bNot, ↓w_bYes, ↓w_bChain, ↓w_eAnd, ↓w_eOr, ↓w_iAny, ↓w_oNone, ↓w_oSomeC, ↓w_eSl, ↓w_lSlG, ↓w_lComp, ↓w_sNil, ↓w_sBreak, ↓w_sCont, ↓w_sSet, ↓w_sSetL, ↓w_sExpr, ↓w_sRet, ↓w_sRetN, ↓w_sIf, ↓w_own0, ↓w_ownS, ↓w_sRetO, ↓w_sApp, ↓w_sSetIx, ↓w_sFrz, ↓w_sThen, ↓w_sRaise, ↓w_sAsg, ↓w_sFor, ↓w_sTry, ↓t_name, ↓t_nil, ↓t_cons, ↓o_plus, ↓o_plusL, ↓o_lAdd, ↓o_sub, ↓o_neg, ↓o_mul, ↓o_fdiv, ↓o_mod, ↓o_pow, ↓o_lt, ↓o_le, ↓o_gt, ↓o_ge, ↓o_eq, ↓o_ne, ↓o_truthB, ↓o_truthI, ↓o_truthN, ↓o_truthL, ↓o_truthT, ↓o_truthS, ↓o_notB, ↓o_isNN, ↓o_isBT, ↓o_isBF, ↓o_isT, ↓o_isIB, ↓o_isSB, ↓o_isLB, ↓o_isTB, ↓o_isNB, ↓o_isNot, ↓o_lenL, ↓o_lenT, ↓o_lenS, ↓o_abs, ↓o_intI, ↓o_intB, ↓o_str, ↓o_gcd, ↓o_list, ↓o_listT, ↓o_tuple, ↓o_tupleT, ↓o_rev, ↓o_type, ↓o_isi, ↓o_isi2, ↓o_rg1, ↓o_rg2, ↓o_zip, ↓o_zipT, ↓o_itemsL, ↓o_itemsT, ↓o_ixL, ↓o_ixT, ↓o_at0, ↓o_at1, ↓o_at2, ↓o_at3, ↓o_at4, ↓o_at5, ↓o_at6, ↓o_at7, ↓o_at8, ↓o_at9, ↓o_at10, ↓o_at11, ↓o_at12, ↓o_at13, ↓o_at14, ↓o_at15, ↓w_eIxO, ↓t_tup1, ↓t_tup2, ↓t_tup3, ↓w_okOnly, ↓o_all, ↓o_any, ↓bls_nil, ↓bls_cons, ↓o_minL, ↓o_maxL, ↓o_sumL, ↓ints_nil, ↓ints_cons, ↓o_min3, ↓o_max3, ↓o_slL, ↓o_slT, ↓w_eBor, ↓w_bBor, o_isN, w_runF, tyName, isSubTy, tyNames, List.getElem?_cons_zero, List.getElem?_cons_succ, List.set_cons_zero, List.set_cons_succ, List.map_cons, List.map_nil, List.replicate_succ, List.replicate_zero, List.length_cons, List.length_nil, List.cons_append, List.nil_append, Nat.reduceAdd, Nat.reduceSub, Nat.reduceLeDiff, Nat.reduceEqDiff, ↓reduceIte, if_true, if_false, Bool.not_true, Bool.not_false, Bool.true_and, Bool.and_true, Bool.false_and, Bool.and_false, Bool.true_or, Bool.false_or, Bool.or_true, Bool.or_false, reduceCtorEq, decide_true, decide_false, beq_self_eq_true, List.mem_cons, true_or, or_true, true_and, and_true, false_and, and_false, or_false, false_or, String.reduceEq, String.reduceBEq, List.not_mem_nil, Bool.not_eq_true, Bool.false_eq_true, eq_self, not_true_eq_false, not_false_eq_true, Bool.not_eq_eq_eq_not, decide_eq_true_eq, decide_eq_false_iff_not, bne_iff_ne, ne_eq, Int.reduceLT, Int.reduceLE, Int.reduceMul, Int.reduceAdd, Int.reduceNeg, Int.reduceToNat, Int.reducePow, Nat.reduceLT, Int.reduceEq, Int.reduceSub, zipD, List.zipWith_cons_cons, List.zipWith_nil_left, List.zipWith_nil_right, List.all_cons, List.all_nil, id_eq, scalD, borE, wipeE, noOwn, sz_0, szl_0, sz_1, szl_1, sz_2, szl_2, sz_3, szl_3, sz_4, szl_4, sz_5, szl_5, sz_6, szl_6, sz_7, szl_7, sz_8, szl_8, sz_9, szl_9, sz_10, szl_10, sz_11, szl_11, sz_12, szl_12, sz_13, szl_13, sz_14, szl_14, sz_15, szl_15, sz_16, szl_16, sz_17, szl_17, sz_18, szl_18, sz_19, szl_19, sz_20, szl_20, sz_21, szl_21, sz_22, szl_22, sz_23, szl_23, sz_24, szl_24, sz_25, szl_25, sz_26, szl_26, sz_27, szl_27, sz_28, szl_28, sz_29, szl_29, sz_30, szl_30, sz_31, szl_31, sz_32, szl_32, frz, List.all_cons, List.all_nil, SD_len, Int.toNat_natCast]
  refine ⟨⟨by omega, by omega⟩, ⟨Nat.le_trans (by rw [rangeD_len]; exact hn) (show 1000 ≤ sizeLine by decide), by rcases h9 with rfl | ⟨d, rfl⟩ <;> rfl⟩, key _ ?_⟩
  rw [se]
  simp only [↓w_pin0, ↓w_lent0, ↓w_sPin, ↓w_sLend, ↓w_sAppP, pinE, pin1, dropE, drop1, lendE, lentOk, ↓w_sRaise1, ↓one1_one, ↓w_sTryF, ↓w_sExt, ↓o_any2L, ↓o_any2T, ↓w_lRet, ↓w_lSeq, ↓w_runFL, ↓w_lCallF, ↓w_lRep, ↓o_repL, ↓w_iRevG, ↓o_revIL, ↓o_revIT, ↓o_plusT, ↓o_plusS, ↓o_repS, ↓o_enumL, ↓o_enumT, ↓w_lComp2, ↓w_capL, ↓w_comp2N, ↓w_comp2C, enumD_nil, enumD_cons, fldOf, Er.cls, ↓wR_ok, ↓wR_err, ↓wR_bind, ↓wR_of, ↓wO_some, ↓wO_map, ↓wO_bind, ↓w_var0, ↓w_varS, ↓w_eC, ↓w_e1, ↓w_l1, ↓w_e2, ↓w_l2, ↓w_b1, ↓w_b2, ↓w_eB, ↓w_eF, ↓w_lF, ↓w_eCall, ↓w_eLst, ↓w_aNil, ↓w_aCons, ↓w_eTup, ↓w_lDisp, ↓w_eIf, ↓w_bAnd, ↓w_bOr, ↓w_bNot, ↓w_bYes, ↓w_bChain, ↓w_eAnd, ↓w_eOr, ↓w_iAny, ↓w_oNone, ↓w_oSomeC, ↓w_eSl, ↓w_lSlG, ↓w_lComp, ↓w_sNil, ↓w_sBreak, ↓w_sCont, ↓w_sSet, ↓w_sSetL, ↓w_sExpr, ↓w_sRet, ↓w_sRetN, ↓w_sIf, ↓w_own0, ↓w_ownS, ↓w_sRetO, ↓w_sApp, ↓w_sSetIx, ↓w_sFrz, ↓w_sThen, ↓w_sRaise, ↓w_sAsg, ↓w_sFor, ↓w_sTry, ↓t_name, ↓t_nil, ↓t_cons, ↓o_plus, ↓o_plusL, ↓o_lAdd, ↓o_sub, ↓o_neg, ↓o_mul, ↓o_fdiv, ↓o_mod, ↓o_pow, ↓o_lt, ↓o_le, ↓o_gt, ↓o_ge, ↓o_eq, ↓o_ne, ↓o_truthB, ↓o_truthI, ↓o_truthN, ↓o_truthL, ↓o_truthT, ↓o_truthS, ↓o_notB, ↓o_isNN, ↓o_isBT, ↓o_isBF, ↓o_isT, ↓o_isIB, ↓o_isSB, ↓o_isLB, ↓o_isTB, ↓o_isNB, ↓o_isNot, ↓o_lenL, ↓o_lenT, ↓o_lenS, ↓o_abs, ↓o_intI, ↓o_intB, ↓o_str, ↓o_gcd, ↓o_list, ↓o_listT, ↓o_tuple, ↓o_tupleT, ↓o_rev, ↓o_type, ↓o_isi, ↓o_isi2, ↓o_rg1, ↓o_rg2, ↓o_zip, ↓o_zipT, ↓o_itemsL, ↓o_itemsT, ↓o_ixL, ↓o_ixT, ↓o_at0, ↓o_at1, ↓o_at2, ↓o_at3, ↓o_at4, ↓o_at5, ↓o_at6, ↓o_at7, ↓o_at8, ↓o_at9, ↓o_at10, ↓o_at11, ↓o_at12, ↓o_at13, ↓o_at14, ↓o_at15, ↓w_eIxO, ↓t_tup1, ↓t_tup2, ↓t_tup3, ↓w_okOnly, ↓o_all, ↓o_any, ↓bls_nil, ↓bls_cons, ↓o_minL, ↓o_maxL, ↓o_sumL, ↓ints_nil, ↓ints_cons, ↓o_min3, ↓o_max3, ↓o_slL, ↓o_slT, ↓w_eBor, ↓w_bBor, o_isN, w_runF, tyName, isSubTy, tyNames, List.getElem?_cons_zero, List.getElem?_cons_succ, List.set_cons_zero, List.set_cons_succ, List.map_cons, List.map_nil, List.replicate_succ, List.replicate_zero, List.length_cons, List.length_nil, List.cons_append, List.nil_append, Nat.reduceAdd, Nat.reduceSub, Nat.reduceLeDiff, Nat.reduceEqDiff, ↓reduceIte, if_true, if_false, Bool.not_true, Bool.not_false, Bool.true_and, Bool.and_true, Bool.false_and, Bool.and_false, Bool.true_or, Bool.false_or, Bool.or_true, Bool.or_false, reduceCtorEq, decide_true, decide_false, beq_self_eq_true, List.mem_cons, true_or, or_true, true_and, and_true, false_and, and_false, or_false, false_or, String.reduceEq, String.reduceBEq, List.not_mem_nil, Bool.not_eq_true, Bool.false_eq_true, eq_self, not_true_eq_false, not_false_eq_true, Bool.not_eq_eq_eq_not, decide_eq_true_eq, decide_eq_false_iff_not, bne_iff_ne, ne_eq, Int.reduceLT, Int.reduceLE, Int.reduceMul, Int.reduceAdd, Int.reduceNeg, Int.reduceToNat, Int.reducePow, Nat.reduceLT, Int.reduceEq, Int.reduceSub, zipD, List.zipWith_cons_cons, List.zipWith_nil_left, List.zipWith_nil_right, List.all_cons, List.all_nil, id_eq, scalD, borE, wipeE, noOwn, sz_0, szl_0, sz_1, szl_1, sz_2, szl_2, sz_3, szl_3, sz_4, szl_4, sz_5, szl_5, sz_6, szl_6, sz_7, szl_7, sz_8, szl_8, sz_9, szl_9, sz_10, szl_10, sz_11, szl_11, sz_12, szl_12, sz_13, szl_13, sz_14, szl_14, sz_15, szl_15, sz_16, szl_16, sz_17, szl_17, sz_18, szl_18, sz_19, szl_19, sz_20, szl_20, sz_21, szl_21, sz_22, szl_22, sz_23, szl_23, sz_24, szl_24, sz_25, szl_25, sz_26, szl_26, sz_27, szl_27, sz_28, szl_28, sz_29, szl_29, sz_30, szl_30, sz_31, szl_31, sz_32, szl_32, frz, List.all_cons, List.all_nil, sa]
  exact hN _
theorem step_back {m : List Int} {S : Nat → List Int} {n i : Nat} (hm : Mq 8 m) (hS : ∀ i, i < n → Mq 7 (S i)) (hn : n ≤ 7) (hi : i < n) {x3 x4 x5 x6 x7 x8 : Sl} {x0 : Sl} {R : D → Prop} {ES : Er → En → Prop} {N B C : En → Prop}
    (hN : N [x0, .pin (.lst (SD S n)), .pin (.lst (SD (WK m S) (n + 1))), x3, x4, x5, x6, x7, x8, .val (.int (i : Nat))]) :
    wpS (b__law_track_holds_3 [x0, .pin (.lst (SD S n)), .pin (.lst (SD (WK m S) (n + 1))), x3, x4, x5, x6, x7, x8, .val (.int (i : Nat))]) N R ES B C := by
  have l1 := (WK_mq hm hS i (by omega)).lt
  have l2 := (WK_mq hm hS (i + 1) (by omega)).lt
  have b := (back_ok (l1.up (show 8 + 9 * i ≤ 200 by omega))).1
  have th := (then_ok (ms := prim (BK (WK m S i))) (ns := WK m S (i + 1)) ((BK_lt l1).prim.up (by omega)) (l2.up (by omega))).1
  rw [fwd hm hS hi] at th
  have sa := same_tI (hS i hi).len
  have e1 : ∀ Q : D → Prop, wpO (atI (SD (WK m S) (n + 1)) (i : Int)) Q = Q (tI (WK m S i)) := fun Q => o_SD (by omega)
  have e2 : ∀ Q : D → Prop, wpO (atI (SD (WK m S) (n + 1)) ((i : Int) + 1)) Q = Q (tI (WK m S (i + 1))) := fun Q => o_SD (V := WK m S) (i := i + 1) (by omega)
  have e3 : ∀ Q : D → Prop, wpO (atI (SD S n) (i : Int)) Q = Q (tI (S i)) := fun Q => o_SD hi
  simp only [tI] at sa e1 e2 e3
  simp only [b__law_track_holds_3, ↓w_pin0, ↓w_lent0, ↓w_sPin, ↓w_sLend, ↓w_sAppP, pinE, pin1, dropE, drop1, lendE, lentOk, ↓w_sRaise1, ↓one1_one, ↓w_sTryF, ↓w_sExt, ↓o_any2L, ↓o_any2T, ↓w_lRet, ↓w_lSeq, ↓w_runFL, ↓w_lCallF, ↓w_lRep, ↓o_repL, ↓w_iRevG, ↓o_revIL, ↓o_revIT, ↓o_plusT, ↓o_plusS, ↓o_repS, ↓o_enumL, ↓o_enumT, ↓w_lComp2, ↓w_capL, ↓w_comp2N, ↓w_comp2C, enumD_nil, enumD_cons, fldOf, Er.cls, ↓wR_ok, ↓wR_err, ↓wR_bind, ↓wR_of, ↓wO_some, ↓wO_map, ↓wO_bind, ↓w_var0, ↓w_varS, ↓w_eC, ↓w_e1, ↓w_l1, ↓w_e2, ↓w_l2, ↓w_b1, ↓w_b2, ↓w_eB, ↓w_eF, ↓w_lF, ↓w_eCall, ↓w_eLst, ↓w_aNil, ↓w_aCons, ↓w_eTup, ↓w_lDisp, ↓w_eIf, ↓w_bAnd, ↓w_bOr, ↓w_bNot, ↓w_bYes, ↓w_bChain, ↓w_eAnd, ↓w_eOr, ↓w_iAny, ↓w_oNone, ↓w_oSomeC, ↓w_eSl, ↓w_lSlG, ↓w_lComp, ↓w_sSeq, ↓w_sNil, ↓w_sBreak, ↓w_sCont, ↓w_sSet, ↓w_sSetL, ↓w_sExpr, ↓w_sRet, ↓w_sRetN, ↓w_sIf, ↓w_own0, ↓w_ownS, ↓w_sRetO, ↓w_sApp, ↓w_sSetIx, ↓w_sFrz, ↓w_sThen, ↓w_sRaise, ↓w_sAsg, ↓w_sFor, ↓w_sTry, ↓t_name, ↓t_nil, ↓t_cons, ↓o_plus, ↓o_plusL, ↓o_lAdd, ↓o_sub, ↓o_neg, ↓o_mul, ↓o_fdiv, ↓o_mod, ↓o_pow, ↓o_lt, ↓o_le, ↓o_gt, ↓o_ge, ↓o_eq, ↓o_ne, ↓o_truthB, ↓o_truthI, ↓o_truthN, ↓o_truthL, ↓o_truthT, ↓o_truthS, ↓o_notB, ↓o_isNN, ↓o_isBT, ↓o_isBF, ↓o_isT, ↓o_isIB, ↓o_isSB, ↓o_isLB, ↓o_isTB, ↓o_isNB, ↓o_isNot, ↓o_lenL, ↓o_lenT, ↓o_lenS, ↓o_abs, ↓o_intI, ↓o_intB, ↓o_str, ↓o_gcd, ↓o_list, ↓o_listT, ↓o_tuple, ↓o_tupleT, ↓o_rev, ↓o_type, ↓o_isi, ↓o_isi2, ↓o_rg1, ↓o_rg2, ↓o_zip, ↓o_zipT, ↓o_itemsL, ↓o_itemsT, ↓o_ixL, ↓o_ixT, ↓o_at0, ↓o_at1, ↓o_at2, ↓o_at3, ↓o_at4, ↓o_at5, ↓o_at6, ↓o_at7, ↓o_at8, ↓o_at9, ↓o_at10, ↓o_at11, ↓o_at12, ↓o_at13, ↓o_at14, ↓o_at15, ↓w_eIxO, ↓t_tup1, ↓t_tup2, ↓t_tup3, ↓w_okOnly, ↓w_compN, ↓w_compC, ↓o_all, ↓o_any, ↓bls_nil, ↓bls_cons, ↓o_minL, ↓o_maxL, ↓o_sumL, ↓ints_nil, ↓ints_cons, ↓o_min3, ↓o_max3, ↓o_slL, ↓o_slT, ↓w_eBor, ↓w_bBor, o_isN, w_runF, tyName, isSubTy, tyNames, List.getElem?_cons_zero, List.getElem?_cons_succ, List.set_cons_zero, List.set_cons_succ, List.map_cons, List.map_nil, List.replicate_succ, List.replicate_zero, List.length_cons, List.length_nil, List.cons_append, List.nil_append, Nat.reduceAdd, Nat.reduceSub, Nat.reduceLeDiff, Nat.reduceEqDiff, ↓reduceIte, if_true, if_false, Bool.not_true, Bool.not_false, Bool.true_and, Bool.and_true, Bool.false_and, Bool.and_false, Bool.true_or, Bool.false_or, Bool.or_true, Bool.or_false, reduceCtorEq, decide_true, decide_false, beq_self_eq_true, List.mem_cons, true_or, or_true, true_and, and_true, false_and, and_false, or_false, false_or, String.reduceEq, String.reduceBEq, List.not_mem_nil, Bool.not_eq_true, Bool.false_eq_true, eq_self, not_true_eq_false, not_false_eq_true, Bool.not_eq_eq_eq_not, decide_eq_true_eq, decide_eq_false_iff_not, bne_iff_ne, ne_eq, Int.reduceLT, Int.reduceLE, Int.reduceMul, Int.reduceAdd, Int.reduceNeg, Int.reduceToNat, Int.reducePow, Nat.reduceLT, Int.reduceEq, Int.reduceSub, zipD, List.zipWith_cons_cons, List.zipWith_nil_left, List.zipWith_nil_right, List.all_cons, List.all_nil, id_eq, scalD, borE, wipeE, noOwn, sz_0, szl_0, sz_1, szl_1, sz_2, szl_2, sz_3, szl_3, sz_4, szl_4, sz_5, szl_5, sz_6, szl_6, sz_7, szl_7, sz_8, szl_8, sz_9, szl_9, sz_10, szl_10, sz_11, szl_11, sz_12, szl_12, sz_13, szl_13, sz_14, szl_14, sz_15, szl_15, sz_16, szl_16, sz_17, szl_17, sz_18, szl_18, sz_19, szl_19, sz_20, szl_20, sz_21, szl_21, sz_22, szl_22, sz_23, szl_23, sz_24, szl_24, sz_25, szl_25, sz_26, szl_26, sz_27, szl_27, sz_28, szl_28, sz_29, szl_29, sz_30, szl_30, sz_31, szl_31, sz_32, szl_32, frz, List.all_cons, List.all_nil, e1, e2, e3, b, th, sa]
  exact hN
theorem track_holds {m : List Int} {S : Nat → List Int} {n : Nat} (hm : Mq 8 m) (hS : ∀ i, i < n → Mq 7 (S i)) (hn : n ≤ 7) : m__law_track_holds [tI m, .lst (SD S n)] = .ok (.bl true) := by
  have hW : ∀ i, i ≤ n → Lt 200 (WK m S i) := fun i hi => (WK_mq hm hS i hi).lt.up (by omega)
  have hV : ∀ i, i < n + 1 → Mq 90 (WK m S i) := fun i hi => (WK_mq hm hS i (by omega)).up (by omega)
  have tr := track_ok (hm.up (show 8 ≤ 90 by decide)) (by decide) (show n ≤ 20 by omega) hW (fun i hi => (hS i hi).up (by decide))
  have tr1 : m_track [tI m, .lst (SD S n)] = .ok (.lst (SD (WK m S) (n + 1))) := tr.1
  have tr2 : ml_track [tI m, .lst (SD S n)] = .ok (SD (WK m S) (n + 1)) := tr.2
  have sV := same_SD (n := n + 1) (fun i hi => (hV i hi).len) (by omega)
  have sS := same_SD (n := n) (fun i hi => (hS i hi).len) (by omega)
  have bt := between_ok (show 90 ≤ 90 by decide) (show n + 1 ≤ 20 by omega) hV
  rw [SD_congr (n := n + 1 - 1) (T := S) (fun i hi => fwd hm hS (by omega)), show n + 1 - 1 = n from rfl] at bt
  have br := between_ok (V := fun i => WK m S (n + 1 - 1 - i)) (show 90 ≤ 90 by decide) (show n + 1 ≤ 20 by omega) (fun i hi => hV _ (by omega))
  rw [SD_congr (n := n + 1 - 1) (T := fun i => prim (BK (S (n - 1 - i)))) (fun i hi => by
    have := bwd hm hS (i := n - 1 - i) (by omega)
    rw [show n - 1 - i + 1 = n + 1 - 1 - i by omega] at this
    rw [show n + 1 - 1 - (i + 1) = n - 1 - i by omega]
    exact this), show n + 1 - 1 = n from rfl] at br
  have s2 := same_SD2 (S := S) (T := fun i => prim (BK (S (n - 1 - i)))) (n := n) (fun i hi => (hS i hi).len) (fun i hi => (BK_lt (hS _ (by omega)).lt).prim.1) (by omega)
  have rv : (SD (WK m S) (n + 1)).reverse = SD (fun i => WK m S (n - i)) (n + 1) := SD_rev _ _
  have rs := SD_rev S n
  apply wR_eq
  simp only [m__law_track_holds, g__law_track_holds, ↓w_pin0, ↓w_lent0, ↓w_sPin, ↓w_sLend, ↓w_sAppP, pinE, pin1, dropE, drop1, lendE, lentOk, ↓w_sRaise1, ↓one1_one, ↓w_sTryF, ↓w_sExt, ↓o_any2L, ↓o_any2T, ↓w_lRet, ↓w_lSeq, ↓w_runFL, ↓w_lCallF, ↓w_lRep, ↓o_repL, ↓w_iRevG, ↓o_revIL, ↓o_revIT, ↓o_plusT, ↓o_plusS, ↓o_repS, ↓o_enumL, ↓o_enumT, ↓w_lComp2, ↓w_capL, ↓w_comp2N, ↓w_comp2C, enumD_nil, enumD_cons, fldOf, Er.cls, ↓wR_ok, ↓wR_err, ↓wR_bind, ↓wR_of, ↓wO_some, ↓wO_map, ↓wO_bind, ↓w_var0, ↓w_varS, ↓w_eC, ↓w_e1, ↓w_l1, ↓w_e2, ↓w_l2, ↓w_b1, ↓w_b2, ↓w_eB, ↓w_eF, ↓w_lF, ↓w_eCall, ↓w_eLst, ↓w_aNil, ↓w_aCons, ↓w_eTup, ↓w_lDisp, ↓w_eIf, ↓w_bAnd, ↓w_bOr, ↓w_bNot, ↓w_bYes, ↓w_bChain, ↓w_eAnd, ↓w_eOr, ↓w_iAny, ↓w_oNone, ↓w_oSomeC, ↓w_eSl, ↓w_lSlG, ↓w_lComp, ↓w_sSeq, ↓w_sNil, ↓w_sBreak, ↓w_sCont, ↓w_sSet, ↓w_sSetL, ↓w_sExpr, ↓w_sRet, ↓w_sRetN, ↓w_sIf, ↓w_own0, ↓w_ownS, ↓w_sRetO, ↓w_sApp, ↓w_sSetIx, ↓w_sFrz, ↓w_sThen, ↓w_sRaise, ↓w_sAsg, ↓w_sFor, ↓w_sTry, ↓t_name, ↓t_nil, ↓t_cons, ↓o_plus, ↓o_plusL, ↓o_lAdd, ↓o_sub, ↓o_neg, ↓o_mul, ↓o_fdiv, ↓o_mod, ↓o_pow, ↓o_lt, ↓o_le, ↓o_gt, ↓o_ge, ↓o_eq, ↓o_ne, ↓o_truthB, ↓o_truthI, ↓o_truthN, ↓o_truthL, ↓o_truthT, ↓o_truthS, ↓o_notB, ↓o_isNN, ↓o_isBT, ↓o_isBF, ↓o_isT, ↓o_isIB, ↓o_isSB, ↓o_isLB, ↓o_isTB, ↓o_isNB, ↓o_isNot, ↓o_lenL, ↓o_lenT, ↓o_lenS, ↓o_abs, ↓o_intI, ↓o_intB, ↓o_str, ↓o_gcd, ↓o_list, ↓o_listT, ↓o_tuple, ↓o_tupleT, ↓o_rev, ↓o_type, ↓o_isi, ↓o_isi2, ↓o_rg1, ↓o_rg2, ↓o_zip, ↓o_zipT, ↓o_itemsL, ↓o_itemsT, ↓o_ixL, ↓o_ixT, ↓o_at0, ↓o_at1, ↓o_at2, ↓o_at3, ↓o_at4, ↓o_at5, ↓o_at6, ↓o_at7, ↓o_at8, ↓o_at9, ↓o_at10, ↓o_at11, ↓o_at12, ↓o_at13, ↓o_at14, ↓o_at15, ↓w_eIxO, ↓t_tup1, ↓t_tup2, ↓t_tup3, ↓w_okOnly, ↓w_compN, ↓w_compC, ↓o_all, ↓o_any, ↓bls_nil, ↓bls_cons, ↓o_minL, ↓o_maxL, ↓o_sumL, ↓ints_nil, ↓ints_cons, ↓o_min3, ↓o_max3, ↓o_slL, ↓o_slT, ↓w_eBor, ↓w_bBor, o_isN, w_runF, tyName, isSubTy, tyNames, List.getElem?_cons_zero, List.getElem?_cons_succ, List.set_cons_zero, List.set_cons_succ, List.map_cons, List.map_nil, List.replicate_succ, List.replicate_zero, List.length_cons, List.length_nil, List.cons_append, List.nil_append, Nat.reduceAdd, Nat.reduceSub, Nat.reduceLeDiff, Nat.reduceEqDiff, ↓reduceIte, if_true, if_false, Bool.not_true, Bool.not_false, Bool.true_and, Bool.and_true, Bool.false_and, Bool.and_false, Bool.true_or, Bool.false_or, Bool.or_true, Bool.or_false, reduceCtorEq, decide_true, decide_false, beq_self_eq_true, List.mem_cons, true_or, or_true, true_and, and_true, false_and, and_false, or_false, false_or, String.reduceEq, String.reduceBEq, List.not_mem_nil, Bool.not_eq_true, Bool.false_eq_true, eq_self, not_true_eq_false, not_false_eq_true, Bool.not_eq_eq_eq_not, decide_eq_true_eq, decide_eq_false_iff_not, bne_iff_ne, ne_eq, Int.reduceLT, Int.reduceLE, Int.reduceMul, Int.reduceAdd, Int.reduceNeg, Int.reduceToNat, Int.reducePow, Nat.reduceLT, Int.reduceEq, Int.reduceSub, zipD, List.zipWith_cons_cons, List.zipWith_nil_left, List.zipWith_nil_right, List.all_cons, List.all_nil, id_eq, scalD, borE, wipeE, noOwn, sz_0, szl_0, sz_1, szl_1, sz_2, szl_2, sz_3, szl_3, sz_4, szl_4, sz_5, szl_5, sz_6, szl_6, sz_7, szl_7, sz_8, szl_8, sz_9, szl_9, sz_10, szl_10, sz_11, szl_11, sz_12, szl_12, sz_13, szl_13, sz_14, szl_14, sz_15, szl_15, sz_16, szl_16, sz_17, szl_17, sz_18, szl_18, sz_19, szl_19, sz_20, szl_20, sz_21, szl_21, sz_22, szl_22, sz_23, szl_23, sz_24, szl_24, sz_25, szl_25, sz_26, szl_26, sz_27, szl_27, sz_28, szl_28, sz_29, szl_29, sz_30, szl_30, sz_31, szl_31, sz_32, szl_32, frz, List.all_cons, List.all_nil]
  refine due_loop (by omega) hW (fun i hi => (hS i hi).lt.up (by decide)) (.inl rfl) fun s3 h3 => ?_
  have lb : ∀ i, i < n → m__law_back [tI (S (n - 1 - i))] = .ok (tI (prim (BK (S (n - 1 - i))))) := fun i hi => (back_ok ((hS _ (by omega)).lt.up (by decide))).2
  have lz : (SD (WK m S) (n + 1)).length < sizeLine := by rw [SD_len]; exact Nat.lt_of_le_of_lt (show n + 1 ≤ 20 by omega) (by decide)
  have lr : ((SD S n).reverse.length ≤ sizeLine) = True := eq_true (Nat.le_trans (by rw [List.length_reverse, SD_len]; omega) (show 20 ≤ sizeLine by decide))
  rcases h3 with rfl | ⟨d0, rfl⟩ <;> (
  unfold r__law_track_holds_6
  simp only [↓w_pin0, ↓w_lent0, ↓w_sPin, ↓w_sLend, ↓w_sAppP, pinE, pin1, dropE, drop1, lendE, lentOk, ↓w_sRaise1, ↓one1_one, ↓w_sTryF, ↓w_sExt, ↓o_any2L, ↓o_any2T, ↓w_lRet, ↓w_lSeq, ↓w_runFL, ↓w_lCallF, ↓w_lRep, ↓o_repL, ↓w_iRevG, ↓o_revIL, ↓o_revIT, ↓o_plusT, ↓o_plusS, ↓o_repS, ↓o_enumL, ↓o_enumT, ↓w_lComp2, ↓w_capL, ↓w_comp2N, ↓w_comp2C, enumD_nil, enumD_cons, fldOf, Er.cls, ↓wR_ok, ↓wR_err, ↓wR_bind, ↓wR_of, ↓wO_some, ↓wO_map, ↓wO_bind, ↓w_var0, ↓w_varS, ↓w_eC, ↓w_e1, ↓w_l1, ↓w_e2, ↓w_l2, ↓w_b1, ↓w_b2, ↓w_eB, ↓w_eF, ↓w_lF, ↓w_eCall, ↓w_eLst, ↓w_aNil, ↓w_aCons, ↓w_eTup, ↓w_lDisp, ↓w_eIf, ↓w_bAnd, ↓w_bOr, ↓w_bNot, ↓w_bYes, ↓w_bChain, ↓w_eAnd, ↓w_eOr, ↓w_iAny, ↓w_oNone, ↓w_oSomeC, ↓w_eSl, ↓w_lSlG, ↓w_lComp, ↓w_sSeq, ↓w_sNil, ↓w_sBreak, ↓w_sCont, ↓w_sSet, ↓w_sSetL, ↓w_sExpr, ↓w_sRet, ↓w_sRetN, ↓w_sIf, ↓w_own0, ↓w_ownS, ↓w_sRetO, ↓w_sApp, ↓w_sSetIx, ↓w_sFrz, ↓w_sThen, ↓w_sRaise, ↓w_sAsg, ↓w_sFor, ↓w_sTry, ↓t_name, ↓t_nil, ↓t_cons, ↓o_plus, ↓o_plusL, ↓o_lAdd, ↓o_sub, ↓o_neg, ↓o_mul, ↓o_fdiv, ↓o_mod, ↓o_pow, ↓o_lt, ↓o_le, ↓o_gt, ↓o_ge, ↓o_eq, ↓o_ne, ↓o_truthB, ↓o_truthI, ↓o_truthN, ↓o_truthL, ↓o_truthT, ↓o_truthS, ↓o_notB, ↓o_isNN, ↓o_isBT, ↓o_isBF, ↓o_isT, ↓o_isIB, ↓o_isSB, ↓o_isLB, ↓o_isTB, ↓o_isNB, ↓o_isNot, ↓o_lenL, ↓o_lenT, ↓o_lenS, ↓o_abs, ↓o_intI, ↓o_intB, ↓o_str, ↓o_gcd, ↓o_list, ↓o_listT, ↓o_tuple, ↓o_tupleT, ↓o_rev, ↓o_type, ↓o_isi, ↓o_isi2, ↓o_rg1, ↓o_rg2, ↓o_zip, ↓o_zipT, ↓o_itemsL, ↓o_itemsT, ↓o_ixL, ↓o_ixT, ↓o_at0, ↓o_at1, ↓o_at2, ↓o_at3, ↓o_at4, ↓o_at5, ↓o_at6, ↓o_at7, ↓o_at8, ↓o_at9, ↓o_at10, ↓o_at11, ↓o_at12, ↓o_at13, ↓o_at14, ↓o_at15, ↓w_eIxO, ↓t_tup1, ↓t_tup2, ↓t_tup3, ↓w_okOnly, ↓o_all, ↓o_any, ↓bls_nil, ↓bls_cons, ↓o_minL, ↓o_maxL, ↓o_sumL, ↓ints_nil, ↓ints_cons, ↓o_min3, ↓o_max3, ↓o_slL, ↓o_slT, ↓w_eBor, ↓w_bBor, o_isN, w_runF, tyName, isSubTy, tyNames, List.getElem?_cons_zero, List.getElem?_cons_succ, List.set_cons_zero, List.set_cons_succ, List.map_cons, List.map_nil, List.replicate_succ, List.replicate_zero, List.length_cons, List.length_nil, List.cons_append, List.nil_append, Nat.reduceAdd, Nat.reduceSub, Nat.reduceLeDiff, Nat.reduceEqDiff, ↓reduceIte, if_true, if_false, Bool.not_true, Bool.not_false, Bool.true_and, Bool.and_true, Bool.false_and, Bool.and_false, Bool.true_or, Bool.false_or, Bool.or_true, Bool.or_false, reduceCtorEq, decide_true, decide_false, beq_self_eq_true, List.mem_cons, true_or, or_true, true_and, and_true, false_and, and_false, or_false, false_or, String.reduceEq, String.reduceBEq, List.not_mem_nil, Bool.not_eq_true, Bool.false_eq_true, eq_self, not_true_eq_false, not_false_eq_true, Bool.not_eq_eq_eq_not, decide_eq_true_eq, decide_eq_false_iff_not, bne_iff_ne, ne_eq, Int.reduceLT, Int.reduceLE, Int.reduceMul, Int.reduceAdd, Int.reduceNeg, Int.reduceToNat, Int.reducePow, Nat.reduceLT, Int.reduceEq, Int.reduceSub, zipD, List.zipWith_cons_cons, List.zipWith_nil_left, List.zipWith_nil_right, List.all_cons, List.all_nil, id_eq, scalD, borE, wipeE, noOwn, sz_0, szl_0, sz_1, szl_1, sz_2, szl_2, sz_3, szl_3, sz_4, szl_4, sz_5, szl_5, sz_6, szl_6, sz_7, szl_7, sz_8, szl_8, sz_9, szl_9, sz_10, szl_10, sz_11, szl_11, sz_12, szl_12, sz_13, szl_13, sz_14, szl_14, sz_15, szl_15, sz_16, szl_16, sz_17, szl_17, sz_18, szl_18, sz_19, szl_19, sz_20, szl_20, sz_21, szl_21, sz_22, szl_22, sz_23, szl_23, sz_24, szl_24, sz_25, szl_25, sz_26, szl_26, sz_27, szl_27, sz_28, szl_28, sz_29, szl_29, sz_30, szl_30, sz_31, szl_31, sz_32, szl_32, frz, List.all_cons, List.all_nil, tr2, sV, sS, bt, rv]
  rw [br, wR_ok]
  simp only [lr, true_and]
  rw [rs]
  refine w_compA _ (fun i => tI (prim (BK (S (n - 1 - i))))) (fun i hi => ?_) ?_
  · simp only [↓w_pin0, ↓w_lent0, ↓w_sPin, ↓w_sLend, ↓w_sAppP, pinE, pin1, dropE, drop1, lendE, lentOk, ↓w_sRaise1, ↓one1_one, ↓w_sTryF, ↓w_sExt, ↓o_any2L, ↓o_any2T, ↓w_lRet, ↓w_lSeq, ↓w_runFL, ↓w_lCallF, ↓w_lRep, ↓o_repL, ↓w_iRevG, ↓o_revIL, ↓o_revIT, ↓o_plusT, ↓o_plusS, ↓o_repS, ↓o_enumL, ↓o_enumT, ↓w_lComp2, ↓w_capL, ↓w_comp2N, ↓w_comp2C, enumD_nil, enumD_cons, fldOf, Er.cls, ↓wR_ok, ↓wR_err, ↓wR_bind, ↓wR_of, ↓wO_some, ↓wO_map, ↓wO_bind, ↓w_var0, ↓w_varS, ↓w_eC, ↓w_e1, ↓w_l1, ↓w_e2, ↓w_l2, ↓w_b1, ↓w_b2, ↓w_eB, ↓w_eF, ↓w_lF, ↓w_eCall, ↓w_eLst, ↓w_aNil, ↓w_aCons, ↓w_eTup, ↓w_lDisp, ↓w_eIf, ↓w_bAnd, ↓w_bOr, ↓w_bNot, ↓w_bYes, ↓w_bChain, ↓w_eAnd, ↓w_eOr, ↓w_iAny, ↓w_oNone, ↓w_oSomeC, ↓w_eSl, ↓w_lSlG, ↓w_lComp, ↓w_sSeq, ↓w_sNil, ↓w_sBreak, ↓w_sCont, ↓w_sSet, ↓w_sSetL, ↓w_sExpr, ↓w_sRet, ↓w_sRetN, ↓w_sIf, ↓w_own0, ↓w_ownS, ↓w_sRetO, ↓w_sApp, ↓w_sSetIx, ↓w_sFrz, ↓w_sThen, ↓w_sRaise, ↓w_sAsg, ↓w_sFor, ↓w_sTry, ↓t_name, ↓t_nil, ↓t_cons, ↓o_plus, ↓o_plusL, ↓o_lAdd, ↓o_sub, ↓o_neg, ↓o_mul, ↓o_fdiv, ↓o_mod, ↓o_pow, ↓o_lt, ↓o_le, ↓o_gt, ↓o_ge, ↓o_eq, ↓o_ne, ↓o_truthB, ↓o_truthI, ↓o_truthN, ↓o_truthL, ↓o_truthT, ↓o_truthS, ↓o_notB, ↓o_isNN, ↓o_isBT, ↓o_isBF, ↓o_isT, ↓o_isIB, ↓o_isSB, ↓o_isLB, ↓o_isTB, ↓o_isNB, ↓o_isNot, ↓o_lenL, ↓o_lenT, ↓o_lenS, ↓o_abs, ↓o_intI, ↓o_intB, ↓o_str, ↓o_gcd, ↓o_list, ↓o_listT, ↓o_tuple, ↓o_tupleT, ↓o_rev, ↓o_type, ↓o_isi, ↓o_isi2, ↓o_rg1, ↓o_rg2, ↓o_zip, ↓o_zipT, ↓o_itemsL, ↓o_itemsT, ↓o_ixL, ↓o_ixT, ↓o_at0, ↓o_at1, ↓o_at2, ↓o_at3, ↓o_at4, ↓o_at5, ↓o_at6, ↓o_at7, ↓o_at8, ↓o_at9, ↓o_at10, ↓o_at11, ↓o_at12, ↓o_at13, ↓o_at14, ↓o_at15, ↓w_eIxO, ↓t_tup1, ↓t_tup2, ↓t_tup3, ↓w_okOnly, ↓o_all, ↓o_any, ↓bls_nil, ↓bls_cons, ↓o_minL, ↓o_maxL, ↓o_sumL, ↓ints_nil, ↓ints_cons, ↓o_min3, ↓o_max3, ↓o_slL, ↓o_slT, ↓w_eBor, ↓w_bBor, o_isN, w_runF, tyName, isSubTy, tyNames, List.getElem?_cons_zero, List.getElem?_cons_succ, List.set_cons_zero, List.set_cons_succ, List.map_cons, List.map_nil, List.replicate_succ, List.replicate_zero, List.length_cons, List.length_nil, List.cons_append, List.nil_append, Nat.reduceAdd, Nat.reduceSub, Nat.reduceLeDiff, Nat.reduceEqDiff, ↓reduceIte, if_true, if_false, Bool.not_true, Bool.not_false, Bool.true_and, Bool.and_true, Bool.false_and, Bool.and_false, Bool.true_or, Bool.false_or, Bool.or_true, Bool.or_false, reduceCtorEq, decide_true, decide_false, beq_self_eq_true, List.mem_cons, true_or, or_true, true_and, and_true, false_and, and_false, or_false, false_or, String.reduceEq, String.reduceBEq, List.not_mem_nil, Bool.not_eq_true, Bool.false_eq_true, eq_self, not_true_eq_false, not_false_eq_true, Bool.not_eq_eq_eq_not, decide_eq_true_eq, decide_eq_false_iff_not, bne_iff_ne, ne_eq, Int.reduceLT, Int.reduceLE, Int.reduceMul, Int.reduceAdd, Int.reduceNeg, Int.reduceToNat, Int.reducePow, Nat.reduceLT, Int.reduceEq, Int.reduceSub, zipD, List.zipWith_cons_cons, List.zipWith_nil_left, List.zipWith_nil_right, List.all_cons, List.all_nil, id_eq, scalD, borE, wipeE, noOwn, sz_0, szl_0, sz_1, szl_1, sz_2, szl_2, sz_3, szl_3, sz_4, szl_4, sz_5, szl_5, sz_6, szl_6, sz_7, szl_7, sz_8, szl_8, sz_9, szl_9, sz_10, szl_10, sz_11, szl_11, sz_12, szl_12, sz_13, szl_13, sz_14, szl_14, sz_15, szl_15, sz_16, szl_16, sz_17, szl_17, sz_18, szl_18, sz_19, szl_19, sz_20, szl_20, sz_21, szl_21, sz_22, szl_22, sz_23, szl_23, sz_24, szl_24, sz_25, szl_25, sz_26, szl_26, sz_27, szl_27, sz_28, szl_28, sz_29, szl_29, sz_30, szl_30, sz_31, szl_31, sz_32, szl_32, frz, List.all_cons, List.all_nil, lb i (List.mem_range.mp hi)]
  show wpR (m__law_same 40 [D.lst [D.lst (SD S n), _], D.lst [D.lst (SD S n), .lst (SD (fun i => prim (BK (S (n - 1 - i)))) n)]]) _ _
  rw [s2]
  simp only [↓w_pin0, ↓w_lent0, ↓w_sPin, ↓w_sLend, ↓w_sAppP, pinE, pin1, dropE, drop1, lendE, lentOk, ↓w_sRaise1, ↓one1_one, ↓w_sTryF, ↓w_sExt, ↓o_any2L, ↓o_any2T, ↓w_lRet, ↓w_lSeq, ↓w_runFL, ↓w_lCallF, ↓w_lRep, ↓o_repL, ↓w_iRevG, ↓o_revIL, ↓o_revIT, ↓o_plusT, ↓o_plusS, ↓o_repS, ↓o_enumL, ↓o_enumT, ↓w_lComp2, ↓w_capL, ↓w_comp2N, ↓w_comp2C, enumD_nil, enumD_cons, fldOf, Er.cls, ↓wR_ok, ↓wR_err, ↓wR_bind, ↓wR_of, ↓wO_some, ↓wO_map, ↓wO_bind, ↓w_var0, ↓w_varS, ↓w_eC, ↓w_e1, ↓w_l1, ↓w_e2, ↓w_l2, ↓w_b1, ↓w_b2, ↓w_eB, ↓w_eF, ↓w_lF, ↓w_eCall, ↓w_eLst, ↓w_aNil, ↓w_aCons, ↓w_eTup, ↓w_lDisp, ↓w_eIf, ↓w_bAnd, ↓w_bOr, ↓w_bNot, ↓w_bYes, ↓w_bChain, ↓w_eAnd, ↓w_eOr, ↓w_iAny, ↓w_oNone, ↓w_oSomeC, ↓w_eSl, ↓w_lSlG, ↓w_lComp, ↓w_sSeq, ↓w_sNil, ↓w_sBreak, ↓w_sCont, ↓w_sSet, ↓w_sSetL, ↓w_sExpr, ↓w_sRet, ↓w_sRetN, ↓w_sIf, ↓w_own0, ↓w_ownS, ↓w_sRetO, ↓w_sApp, ↓w_sSetIx, ↓w_sFrz, ↓w_sThen, ↓w_sRaise, ↓w_sAsg, ↓w_sFor, ↓w_sTry, ↓t_name, ↓t_nil, ↓t_cons, ↓o_plus, ↓o_plusL, ↓o_lAdd, ↓o_sub, ↓o_neg, ↓o_mul, ↓o_fdiv, ↓o_mod, ↓o_pow, ↓o_lt, ↓o_le, ↓o_gt, ↓o_ge, ↓o_eq, ↓o_ne, ↓o_truthB, ↓o_truthI, ↓o_truthN, ↓o_truthL, ↓o_truthT, ↓o_truthS, ↓o_notB, ↓o_isNN, ↓o_isBT, ↓o_isBF, ↓o_isT, ↓o_isIB, ↓o_isSB, ↓o_isLB, ↓o_isTB, ↓o_isNB, ↓o_isNot, ↓o_lenL, ↓o_lenT, ↓o_lenS, ↓o_abs, ↓o_intI, ↓o_intB, ↓o_str, ↓o_gcd, ↓o_list, ↓o_listT, ↓o_tuple, ↓o_tupleT, ↓o_rev, ↓o_type, ↓o_isi, ↓o_isi2, ↓o_rg1, ↓o_rg2, ↓o_zip, ↓o_zipT, ↓o_itemsL, ↓o_itemsT, ↓o_ixL, ↓o_ixT, ↓o_at0, ↓o_at1, ↓o_at2, ↓o_at3, ↓o_at4, ↓o_at5, ↓o_at6, ↓o_at7, ↓o_at8, ↓o_at9, ↓o_at10, ↓o_at11, ↓o_at12, ↓o_at13, ↓o_at14, ↓o_at15, ↓w_eIxO, ↓t_tup1, ↓t_tup2, ↓t_tup3, ↓w_okOnly, ↓o_all, ↓o_any, ↓bls_nil, ↓bls_cons, ↓o_minL, ↓o_maxL, ↓o_sumL, ↓ints_nil, ↓ints_cons, ↓o_min3, ↓o_max3, ↓o_slL, ↓o_slT, ↓w_eBor, ↓w_bBor, o_isN, w_runF, tyName, isSubTy, tyNames, List.getElem?_cons_zero, List.getElem?_cons_succ, List.set_cons_zero, List.set_cons_succ, List.map_cons, List.map_nil, List.replicate_succ, List.replicate_zero, List.length_cons, List.length_nil, List.cons_append, List.nil_append, Nat.reduceAdd, Nat.reduceSub, Nat.reduceLeDiff, Nat.reduceEqDiff, ↓reduceIte, if_true, if_false, Bool.not_true, Bool.not_false, Bool.true_and, Bool.and_true, Bool.false_and, Bool.and_false, Bool.true_or, Bool.false_or, Bool.or_true, Bool.or_false, reduceCtorEq, decide_true, decide_false, beq_self_eq_true, List.mem_cons, true_or, or_true, true_and, and_true, false_and, and_false, or_false, false_or, String.reduceEq, String.reduceBEq, List.not_mem_nil, Bool.not_eq_true, Bool.false_eq_true, eq_self, not_true_eq_false, not_false_eq_true, Bool.not_eq_eq_eq_not, decide_eq_true_eq, decide_eq_false_iff_not, bne_iff_ne, ne_eq, Int.reduceLT, Int.reduceLE, Int.reduceMul, Int.reduceAdd, Int.reduceNeg, Int.reduceToNat, Int.reducePow, Nat.reduceLT, Int.reduceEq, Int.reduceSub, zipD, List.zipWith_cons_cons, List.zipWith_nil_left, List.zipWith_nil_right, List.all_cons, List.all_nil, id_eq, scalD, borE, wipeE, noOwn, sz_0, szl_0, sz_1, szl_1, sz_2, szl_2, sz_3, szl_3, sz_4, szl_4, sz_5, szl_5, sz_6, szl_6, sz_7, szl_7, sz_8, szl_8, sz_9, szl_9, sz_10, szl_10, sz_11, szl_11, sz_12, szl_12, sz_13, szl_13, sz_14, szl_14, sz_15, szl_15, sz_16, szl_16, sz_17, szl_17, sz_18, szl_18, sz_19, szl_19, sz_20, szl_20, sz_21, szl_21, sz_22, szl_22, sz_23, szl_23, sz_24, szl_24, sz_25, szl_25, sz_26, szl_26, sz_27, szl_27, sz_28, szl_28, sz_29, szl_29, sz_30, szl_30, sz_31, szl_31, sz_32, szl_32, frz, List.all_cons, List.all_nil]
  refine w_forP (fun e => ∃ x3 x6 x7 x8, e = [Sl.pin (tI m), Sl.pin (D.lst (SD S n)), Sl.pin (D.lst (SD (WK m S) (n + 1))), x3, Sl.pin (D.lst (SD S n)), Sl.lent (SD (WK m S) (n + 1)), x6, x7, x8, .unk]) ⟨_, _, _, _, rfl⟩ ?_ ?_
  · rintro d hd env ⟨x3, x6, x7, x8, rfl⟩
    rw [t_name]
    simp only [List.set_cons_succ, List.set_cons_zero]
    simp only [List.mem_cons, List.not_mem_nil, or_false] at hd
    rcases hd with rfl | rfl | rfl | rfl <;> exact side_ok (by decide) (by omega) (fun i hi => (hV i hi).lt.up (by decide)) (.inl rfl) fun x8 => ⟨_, _, _, _, rfl⟩
  · rintro env ⟨x3, x6, x7, x8, rfl⟩
    simp only [r__law_track_holds_5, ↓w_pin0, ↓w_lent0, ↓w_sPin, ↓w_sLend, ↓w_sAppP, pinE, pin1, dropE, drop1, lendE, lentOk, ↓w_sRaise1, ↓one1_one, ↓w_sTryF, ↓w_sExt, ↓o_any2L, ↓o_any2T, ↓w_lRet, ↓w_lSeq, ↓w_runFL, ↓w_lCallF, ↓w_lRep, ↓o_repL, ↓w_iRevG, ↓o_revIL, ↓o_revIT, ↓o_plusT, ↓o_plusS, ↓o_repS, ↓o_enumL, ↓o_enumT, ↓w_lComp2, ↓w_capL, ↓w_comp2N, ↓w_comp2C, enumD_nil, enumD_cons, fldOf, Er.cls, ↓wR_ok, ↓wR_err, ↓wR_bind, ↓wR_of, ↓wO_some, ↓wO_map, ↓wO_bind, ↓w_var0, ↓w_varS, ↓w_eC, ↓w_e1, ↓w_l1, ↓w_e2, ↓w_l2, ↓w_b1, ↓w_b2, ↓w_eB, ↓w_eF, ↓w_lF, ↓w_eCall, ↓w_eLst, ↓w_aNil, ↓w_aCons, ↓w_eTup, ↓w_lDisp, ↓w_eIf, ↓w_bAnd, ↓w_bOr, ↓w_bNot, ↓w_bYes, ↓w_bChain, ↓w_eAnd, ↓w_eOr, ↓w_iAny, ↓w_oNone, ↓w_oSomeC, ↓w_eSl, ↓w_lSlG, ↓w_lComp, ↓w_sSeq, ↓w_sNil, ↓w_sBreak, ↓w_sCont, ↓w_sSet, ↓w_sSetL, ↓w_sExpr, ↓w_sRet, ↓w_sRetN, ↓w_sIf, ↓w_own0, ↓w_ownS, ↓w_sRetO, ↓w_sApp, ↓w_sSetIx, ↓w_sFrz, ↓w_sThen, ↓w_sRaise, ↓w_sAsg, ↓w_sFor, ↓w_sTry, ↓t_name, ↓t_nil, ↓t_cons, ↓o_plus, ↓o_plusL, ↓o_lAdd, ↓o_sub, ↓o_neg, ↓o_mul, ↓o_fdiv, ↓o_mod, ↓o_pow, ↓o_lt, ↓o_le, ↓o_gt, ↓o_ge, ↓o_eq, ↓o_ne, ↓o_truthB, ↓o_truthI, ↓o_truthN, ↓o_truthL, ↓o_truthT, ↓o_truthS, ↓o_notB, ↓o_isNN, ↓o_isBT, ↓o_isBF, ↓o_isT, ↓o_isIB, ↓o_isSB, ↓o_isLB, ↓o_isTB, ↓o_isNB, ↓o_isNot, ↓o_lenL, ↓o_lenT, ↓o_lenS, ↓o_abs, ↓o_intI, ↓o_intB, ↓o_str, ↓o_gcd, ↓o_list, ↓o_listT, ↓o_tuple, ↓o_tupleT, ↓o_rev, ↓o_type, ↓o_isi, ↓o_isi2, ↓o_rg1, ↓o_rg2, ↓o_zip, ↓o_zipT, ↓o_itemsL, ↓o_itemsT, ↓o_ixL, ↓o_ixT, ↓o_at0, ↓o_at1, ↓o_at2, ↓o_at3, ↓o_at4, ↓o_at5, ↓o_at6, ↓o_at7, ↓o_at8, ↓o_at9, ↓o_at10, ↓o_at11, ↓o_at12, ↓o_at13, ↓o_at14, ↓o_at15, ↓w_eIxO, ↓t_tup1, ↓t_tup2, ↓t_tup3, ↓w_okOnly, ↓o_all, ↓o_any, ↓bls_nil, ↓bls_cons, ↓o_minL, ↓o_maxL, ↓o_sumL, ↓ints_nil, ↓ints_cons, ↓o_min3, ↓o_max3, ↓o_slL, ↓o_slT, ↓w_eBor, ↓w_bBor, o_isN, w_runF, tyName, isSubTy, tyNames, List.getElem?_cons_zero, List.getElem?_cons_succ, List.set_cons_zero, List.set_cons_succ, List.map_cons, List.map_nil, List.replicate_succ, List.replicate_zero, List.length_cons, List.length_nil, List.cons_append, List.nil_append, Nat.reduceAdd, Nat.reduceSub, Nat.reduceLeDiff, Nat.reduceEqDiff, ↓reduceIte, if_true, if_false, Bool.not_true, Bool.not_false, Bool.true_and, Bool.and_true, Bool.false_and, Bool.and_false, Bool.true_or, Bool.false_or, Bool.or_true, Bool.or_false, reduceCtorEq, decide_true, decide_false, beq_self_eq_true, List.mem_cons, true_or, or_true, true_and, and_true, false_and, and_false, or_false, false_or, String.reduceEq, String.reduceBEq, List.not_mem_nil, Bool.not_eq_true, Bool.false_eq_true, eq_self, not_true_eq_false, not_false_eq_true, Bool.not_eq_eq_eq_not, decide_eq_true_eq, decide_eq_false_iff_not, bne_iff_ne, ne_eq, Int.reduceLT, Int.reduceLE, Int.reduceMul, Int.reduceAdd, Int.reduceNeg, Int.reduceToNat, Int.reducePow, Nat.reduceLT, Int.reduceEq, Int.reduceSub, zipD, List.zipWith_cons_cons, List.zipWith_nil_left, List.zipWith_nil_right, List.all_cons, List.all_nil, id_eq, scalD, borE, wipeE, noOwn, sz_0, szl_0, sz_1, szl_1, sz_2, szl_2, sz_3, szl_3, sz_4, szl_4, sz_5, szl_5, sz_6, szl_6, sz_7, szl_7, sz_8, szl_8, sz_9, szl_9, sz_10, szl_10, sz_11, szl_11, sz_12, szl_12, sz_13, szl_13, sz_14, szl_14, sz_15, szl_15, sz_16, szl_16, sz_17, szl_17, sz_18, szl_18, sz_19, szl_19, sz_20, szl_20, sz_21, szl_21, sz_22, szl_22, sz_23, szl_23, sz_24, szl_24, sz_25, szl_25, sz_26, szl_26, sz_27, szl_27, sz_28, szl_28, sz_29, szl_29, sz_30, szl_30, sz_31, szl_31, sz_32, szl_32, frz, List.all_cons, List.all_nil, SD_len, Int.toNat_natCast]
    refine ⟨⟨by omega, by omega⟩, ?_⟩
    refine w_forP (fun e => ∃ x9, e = [Sl.pin (tI m), Sl.pin (D.lst (SD S n)), Sl.pin (D.lst (SD (WK m S) (n + 1))), x3, Sl.pin (D.lst (SD S n)), Sl.lent (SD (WK m S) (n + 1)), x6, x7, x8, x9]) ⟨_, rfl⟩ ?_ ?_
    · rintro d hd env ⟨x9, rfl⟩
      obtain ⟨i, hi, rfl⟩ := List.mem_map.mp (by rw [rangeD_map] at hd; exact hd)
      rw [t_name]
      simp only [List.set_cons_succ, List.set_cons_zero, Int.zero_add]
      exact step_back hm hS hn (List.mem_range.mp hi) ⟨_, rfl⟩
    · rintro env ⟨x9, rfl⟩
      simp only [r__law_track_holds_4, ↓w_pin0, ↓w_lent0, ↓w_sPin, ↓w_sLend, ↓w_sAppP, pinE, pin1, dropE, drop1, lendE, lentOk, ↓w_sRaise1, ↓one1_one, ↓w_sTryF, ↓w_sExt, ↓o_any2L, ↓o_any2T, ↓w_lRet, ↓w_lSeq, ↓w_runFL, ↓w_lCallF, ↓w_lRep, ↓o_repL, ↓w_iRevG, ↓o_revIL, ↓o_revIT, ↓o_plusT, ↓o_plusS, ↓o_repS, ↓o_enumL, ↓o_enumT, ↓w_lComp2, ↓w_capL, ↓w_comp2N, ↓w_comp2C, enumD_nil, enumD_cons, fldOf, Er.cls, ↓wR_ok, ↓wR_err, ↓wR_bind, ↓wR_of, ↓wO_some, ↓wO_map, ↓wO_bind, ↓w_var0, ↓w_varS, ↓w_eC, ↓w_e1, ↓w_l1, ↓w_e2, ↓w_l2, ↓w_b1, ↓w_b2, ↓w_eB, ↓w_eF, ↓w_lF, ↓w_eCall, ↓w_eLst, ↓w_aNil, ↓w_aCons, ↓w_eTup, ↓w_lDisp, ↓w_eIf, ↓w_bAnd, ↓w_bOr, ↓w_bNot, ↓w_bYes, ↓w_bChain, ↓w_eAnd, ↓w_eOr, ↓w_iAny, ↓w_oNone, ↓w_oSomeC, ↓w_eSl, ↓w_lSlG, ↓w_lComp, ↓w_sSeq, ↓w_sNil, ↓w_sBreak, ↓w_sCont, ↓w_sSet, ↓w_sSetL, ↓w_sExpr, ↓w_sRet, ↓w_sRetN, ↓w_sIf, ↓w_own0, ↓w_ownS, ↓w_sRetO, ↓w_sApp, ↓w_sSetIx, ↓w_sFrz, ↓w_sThen, ↓w_sRaise, ↓w_sAsg, ↓w_sFor, ↓w_sTry, ↓t_name, ↓t_nil, ↓t_cons, ↓o_plus, ↓o_plusL, ↓o_lAdd, ↓o_sub, ↓o_neg, ↓o_mul, ↓o_fdiv, ↓o_mod, ↓o_pow, ↓o_lt, ↓o_le, ↓o_gt, ↓o_ge, ↓o_eq, ↓o_ne, ↓o_truthB, ↓o_truthI, ↓o_truthN, ↓o_truthL, ↓o_truthT, ↓o_truthS, ↓o_notB, ↓o_isNN, ↓o_isBT, ↓o_isBF, ↓o_isT, ↓o_isIB, ↓o_isSB, ↓o_isLB, ↓o_isTB, ↓o_isNB, ↓o_isNot, ↓o_lenL, ↓o_lenT, ↓o_lenS, ↓o_abs, ↓o_intI, ↓o_intB, ↓o_str, ↓o_gcd, ↓o_list, ↓o_listT, ↓o_tuple, ↓o_tupleT, ↓o_rev, ↓o_type, ↓o_isi, ↓o_isi2, ↓o_rg1, ↓o_rg2, ↓o_zip, ↓o_zipT, ↓o_itemsL, ↓o_itemsT, ↓o_ixL, ↓o_ixT, ↓o_at0, ↓o_at1, ↓o_at2, ↓o_at3, ↓o_at4, ↓o_at5, ↓o_at6, ↓o_at7, ↓o_at8, ↓o_at9, ↓o_at10, ↓o_at11, ↓o_at12, ↓o_at13, ↓o_at14, ↓o_at15, ↓w_eIxO, ↓t_tup1, ↓t_tup2, ↓t_tup3, ↓w_okOnly, ↓o_all, ↓o_any, ↓bls_nil, ↓bls_cons, ↓o_minL, ↓o_maxL, ↓o_sumL, ↓ints_nil, ↓ints_cons, ↓o_min3, ↓o_max3, ↓o_slL, ↓o_slT, ↓w_eBor, ↓w_bBor, o_isN, w_runF, tyName, isSubTy, tyNames, List.getElem?_cons_zero, List.getElem?_cons_succ, List.set_cons_zero, List.set_cons_succ, List.map_cons, List.map_nil, List.replicate_succ, List.replicate_zero, List.length_cons, List.length_nil, List.cons_append, List.nil_append, Nat.reduceAdd, Nat.reduceSub, Nat.reduceLeDiff, Nat.reduceEqDiff, ↓reduceIte, if_true, if_false, Bool.not_true, Bool.not_false, Bool.true_and, Bool.and_true, Bool.false_and, Bool.and_false, Bool.true_or, Bool.false_or, Bool.or_true, Bool.or_false, reduceCtorEq, decide_true, decide_false, beq_self_eq_true, List.mem_cons, true_or, or_true, true_and, and_true, false_and, and_false, or_false, false_or, String.reduceEq, String.reduceBEq, List.not_mem_nil, Bool.not_eq_true, Bool.false_eq_true, eq_self, not_true_eq_false, not_false_eq_true, Bool.not_eq_eq_eq_not, decide_eq_true_eq, decide_eq_false_iff_not, bne_iff_ne, ne_eq, Int.reduceLT, Int.reduceLE, Int.reduceMul, Int.reduceAdd, Int.reduceNeg, Int.reduceToNat, Int.reducePow, Nat.reduceLT, Int.reduceEq, Int.reduceSub, zipD, List.zipWith_cons_cons, List.zipWith_nil_left, List.zipWith_nil_right, List.all_cons, List.all_nil, id_eq, scalD, borE, wipeE, noOwn, sz_0, szl_0, sz_1, szl_1, sz_2, szl_2, sz_3, szl_3, sz_4, szl_4, sz_5, szl_5, sz_6, szl_6, sz_7, szl_7, sz_8, szl_8, sz_9, szl_9, sz_10, szl_10, sz_11, szl_11, sz_12, szl_12, sz_13, szl_13, sz_14, szl_14, sz_15, szl_15, sz_16, szl_16, sz_17, szl_17, sz_18, szl_18, sz_19, szl_19, sz_20, szl_20, sz_21, szl_21, sz_22, szl_22, sz_23, szl_23, sz_24, szl_24, sz_25, szl_25, sz_26, szl_26, sz_27, szl_27, sz_28, szl_28, sz_29, szl_29, sz_30, szl_30, sz_31, szl_31, sz_32, szl_32, frz, List.all_cons, List.all_nil, tr1, sV, lz])
end AF

namespace AF
open PySem PySem.Spec PyProof.Rows L2
/-! ### maps between -/
def BT (f s : List Int) (sh of : Int) : List Int := List.zipWith (fun a b => (of - sh) * a * LS s + sh * b * LS f) f s
theorem BT_len {f s : List Int} (hf : f.length = 9) (hs : s.length = 9) (sh of : Int) : (BT f s sh of).length = 9 := by
  unfold BT
  rw [List.length_zipWith, hf, hs]
  rfl
theorem LS_lt {k : Nat} {f : List Int} (h : Lt k f) : (LS f).natAbs < 2 ^ k := by
  obtain ⟨hl, hb⟩ := h
  obtain ⟨a, b, c, d, e, f, g, h', i, rfl⟩ := nine hl
  exact hb i (by simp)
theorem BT_lt {f s : List Int} (hf : Lt 8 f) (hs : Lt 8 s) {sh of : Int} (h1 : sh.natAbs < 2 ^ 8) (h2 : (of - sh).natAbs < 2 ^ 8) : Lt 25 (BT f s sh of) := by
  refine ⟨BT_len hf.1 hs.1 _ _, fun n hn => ?_⟩
  unfold BT at hn
  obtain ⟨i, hi, e⟩ := List.mem_iff_getElem.mp hn
  rw [List.getElem_zipWith] at e
  subst e
  rw [List.length_zipWith] at hi
  have i1 : i < f.length := by omega
  have i2 : i < s.length := by omega
  have x := mul_lt (mul_lt h2 (hf.2 (f[i]'i1) (List.getElem_mem i1))) (LS_lt hs)
  have y := mul_lt (mul_lt h1 (hs.2 (s[i]'i2) (List.getElem_mem i2))) (LS_lt hf)
  have x' := lt_up x (show 8 + 8 + 8 ≤ 24 by decide)
  have y' := lt_up y (show 8 + 8 + 8 ≤ 24 by decide)
  omega
theorem BT_swap {f s : List Int} (hf : f.length = 9) (hs : s.length = 9) (sh of : Int) : BT s f (of - sh) of = BT f s sh of := by
  obtain ⟨a, b, c, d, e, f, g, h', i, rfl⟩ := nine hf
  obtain ⟨A, B, C, D', E, F, G, H, I, rfl⟩ := nine hs
  simp only [BT, LS, List.zipWith_cons_cons, List.zipWith_nil_left, List.cons.injEq, and_true, List.getD_cons_succ, List.getD_cons_zero, show of - (of - sh) = sh by omega]
  refine ⟨?_, ?_, ?_, ?_, ?_, ?_, ?_, ?_, ?_⟩ <;> exact Int.add_comm _ _
theorem BT_k {f s : List Int} (hf : f.length = 9) (hs : s.length = 9) (k sh of : Int) : BT f s (k * sh) (k * of) = (BT f s sh of).map (k * ·) := by
  obtain ⟨a, b, c, d, e, f, g, h', i, rfl⟩ := nine hf
  obtain ⟨A, B, C, D', E, F, G, H, I, rfl⟩ := nine hs
  simp only [BT, LS, List.zipWith_cons_cons, List.zipWith_nil_left, List.map_cons, List.map_nil, List.cons.injEq, and_true, List.getD_cons_succ, List.getD_cons_zero]
  refine ⟨?_, ?_, ?_, ?_, ?_, ?_, ?_, ?_, ?_⟩ <;> grind
theorem BT_0 {f s : List Int} (hf : f.length = 9) (hs : s.length = 9) (of : Int) : BT f s 0 of = f.map (of * LS s * ·) := by
  obtain ⟨a, b, c, d, e, f, g, h', i, rfl⟩ := nine hf
  obtain ⟨A, B, C, D', E, F, G, H, I, rfl⟩ := nine hs
  simp only [BT, LS, List.zipWith_cons_cons, List.zipWith_nil_left, List.map_cons, List.map_nil, List.cons.injEq, and_true, List.getD_cons_succ, List.getD_cons_zero]
  refine ⟨?_, ?_, ?_, ?_, ?_, ?_, ?_, ?_, ?_⟩ <;> grind
theorem BT_1 {f s : List Int} (hf : f.length = 9) (hs : s.length = 9) (of : Int) : BT f s of of = s.map (of * LS f * ·) := by
  rw [← BT_swap hf hs, show of - of = 0 by omega, BT_0 hs hf]
theorem BT_2 {f : List Int} (hf : f.length = 9) (sh of : Int) : BT f f sh of = f.map (of * LS f * ·) := by
  obtain ⟨a, b, c, d, e, f, g, h', i, rfl⟩ := nine hf
  simp only [BT, LS, List.zipWith_cons_cons, List.zipWith_nil_left, List.map_cons, List.map_nil, List.cons.injEq, and_true, List.getD_cons_succ, List.getD_cons_zero]
  refine ⟨?_, ?_, ?_, ?_, ?_, ?_, ?_, ?_, ?_⟩ <;> grind
/-- is lowest terms a map -/
theorem is_map_prim {k : Nat} {x : List Int} (h : Lt k x) (hk : k ≤ 200) : m_is_map [tI (prim x)] = .ok (.bl (decide (ME x ≠ 0))) := by
  by_cases hd : ME x = 0
  · rw [decide_eq_false (by simpa using hd)]
    refine not_map (h.prim.up hk) (.inl ?_)
    by_cases hg : 0 < gcdL x
    · have e := prim_mul hg
      have m := ME_scale (gcdL x : Int) h.prim.1
      rw [e, hd] at m
      rcases Int.mul_eq_zero.mp m.symm with q | q
      · exfalso
        rcases Int.mul_eq_zero.mp q with q | q
        · omega
        · rcases Int.mul_eq_zero.mp q with q | q <;> omega
      · exact q
    · rw [show prim x = x from if_neg hg]
      exact hd
  · rw [decide_eq_true hd]
    exact is_map_mq (mq_prim h hd).1 hk
def badL : Er := .one "BadMap" "reason" (.str [108, 97, 115, 116])
def BR (L : List Int) : D := if ME L = 0 then .str [109, 97, 112] else .lst [tI (prim L)]
theorem between_maps_ok {f s : List Int} (hf : Lt 8 f) (hs : Lt 8 s) (pf : 0 < LS f) (ps : 0 < LS s) {sh of : Int} (h0 : 0 ≤ sh) (h1 : sh ≤ of) (h2 : 1 ≤ of) (h3 : of < 2 ^ 8) :
    (ME (BT f s sh of) ≠ 0 → m_between_maps [tI f, tI s, .int sh, .int of] = .ok (tI (prim (BT f s sh of)))) ∧ (ME (BT f s sh of) = 0 → m_between_maps [tI f, tI s, .int sh, .int of] = .err badM) ∧ m__law_between [tI f, tI s, .int sh, .int of] = .ok (BR (BT f s sh of)) := by
  have bl := BT_lt hf hs (show sh.natAbs < 2 ^ 8 by omega) (show (of - sh).natAbs < 2 ^ 8 by omega)
  have im := is_map_prim bl (by decide)
  have lo := (plowest_ok (BT f s sh of) (fun n hn => lt_up (bl.2 n hn) (by decide)) (by rw [bl.1]; decide)).2
  have so := (short_ok (BT f s sh of) (fun n hn => lt_up (bl.2 n hn) (by decide)) (by rw [bl.1]; decide)).2
  have me := (meas_ok (bl.up (by decide : 25 ≤ 200))).2.2
  obtain ⟨hl, hb⟩ := hf
  obtain ⟨gl, gb⟩ := hs
  obtain ⟨a, b, c, d, e, f, g, h', i, rfl⟩ := nine hl
  obtain ⟨A, B, C, D', E, F, G, H, I, rfl⟩ := nine gl
  have pf : 0 < i := pf
  have ps : 0 < I := ps
  simp only [List.mem_cons, List.not_mem_nil, or_false, forall_eq_or_imp, forall_eq] at hb gb
  obtain ⟨x1, x2, x3, x4, x5, x6, x7, x8, x9⟩ := hb
  obtain ⟨y1, y2, y3, y4, y5, y6, y7, y8, y9⟩ := gb
  have S : ∀ {z : Int} {k : Nat}, z.natAbs < 2 ^ k → k ≤ 3000 → Sm z := fun h hk => sm_of (lt_up h hk)
  have q1 : (of - sh).natAbs < 2 ^ 8 := by omega
  have q2 : sh.natAbs < 2 ^ 8 := by omega
  have S1 : ∀ {z : Int}, z.natAbs < 2 ^ 8 → Sm z := fun h => S h (by decide)
  have S2 : ∀ {z : Int}, z.natAbs < 2 ^ 8 → Sm ((of - sh) * z) := fun h => S (mul_lt q1 h) (by decide)
  have S3 : ∀ {z : Int}, z.natAbs < 2 ^ 8 → Sm (sh * z) := fun h => S (mul_lt q2 h) (by decide)
  generalize hM : ME (BT [a, b, c, d, e, f, g, h', i] [A, B, C, D', E, F, G, H, I] sh of) = M at *
  simp only [BT, LS, List.zipWith_cons_cons, List.zipWith_nil_left, List.getD_cons_succ, List.getD_cons_zero, iD, List.map_cons, List.map_nil, tI] at im lo so me ⊢
  generalize hP : prim _ = P at im lo so ⊢
  have c1 : (0 ≤ sh) = True := eq_true h0
  have c2 : (sh ≤ of) = True := eq_true h1
  have c3 : (of < 1) = False := eq_false (by omega)
  have c4 : (i ≤ 0) = False := eq_false (by omega)
  have c5 : (I ≤ 0) = False := eq_false (by omega)
  have r9 : rangeD 0 9 = [.int 0, .int 1, .int 2, .int 3, .int 4, .int 5, .int 6, .int 7, .int 8] := rfl
  refine ⟨fun hM => ?_, fun hM => ?_, ?_⟩
  · apply wR_eq
    simp only [m_between_maps, g_between_maps, b_between_maps_1, r_between_maps_2, ↓w_pin0, ↓w_lent0, ↓w_sPin, ↓w_sLend, ↓w_sAppP, pinE, pin1, dropE, drop1, lendE, lentOk, ↓w_sRaise1, ↓one1_one, ↓w_sTryF, ↓w_sExt, ↓o_any2L, ↓o_any2T, ↓w_lRet, ↓w_lSeq, ↓w_runFL, ↓w_lCallF, ↓w_lRep, ↓o_repL, ↓w_iRevG, ↓o_revIL, ↓o_revIT, ↓o_plusT, ↓o_plusS, ↓o_repS, ↓o_enumL, ↓o_enumT, ↓w_lComp2, ↓w_capL, ↓w_comp2N, ↓w_comp2C, enumD_nil, enumD_cons, fldOf, Er.cls, ↓wR_ok, ↓wR_err, ↓wR_bind, ↓wR_of, ↓wO_some, ↓wO_map, ↓wO_bind, ↓w_var0, ↓w_varS, ↓w_eC, ↓w_e1, ↓w_l1, ↓w_e2, ↓w_l2, ↓w_b1, ↓w_b2, ↓w_eB, ↓w_eF, ↓w_lF, ↓w_eCall, ↓w_eLst, ↓w_aNil, ↓w_aCons, ↓w_eTup, ↓w_lDisp, ↓w_eIf, ↓w_bAnd, ↓w_bOr, ↓w_bNot, ↓w_bYes, ↓w_bChain, ↓w_eAnd, ↓w_eOr, ↓w_iAny, ↓w_oNone, ↓w_oSomeC, ↓w_eSl, ↓w_lSlG, ↓w_lComp, ↓w_sSeq, ↓w_sNil, ↓w_sBreak, ↓w_sCont, ↓w_sSet, ↓w_sSetL, ↓w_sExpr, ↓w_sRet, ↓w_sRetN, ↓w_sIf, ↓w_own0, ↓w_ownS, ↓w_sRetO, ↓w_sApp, ↓w_sSetIx, ↓w_sFrz, ↓w_sThen, ↓w_sRaise, ↓w_sAsg, ↓w_sFor, ↓w_sTry, ↓t_name, ↓t_nil, ↓t_cons, ↓o_plus, ↓o_plusL, ↓o_lAdd, ↓o_sub, ↓o_neg, ↓o_mul, ↓o_fdiv, ↓o_mod, ↓o_pow, ↓o_lt, ↓o_le, ↓o_gt, ↓o_ge, ↓o_eq, ↓o_ne, ↓o_truthB, ↓o_truthI, ↓o_truthN, ↓o_truthL, ↓o_truthT, ↓o_truthS, ↓o_notB, ↓o_isNN, ↓o_isBT, ↓o_isBF, ↓o_isT, ↓o_isIB, ↓o_isSB, ↓o_isLB, ↓o_isTB, ↓o_isNB, ↓o_isNot, ↓o_lenL, ↓o_lenT, ↓o_lenS, ↓o_abs, ↓o_intI, ↓o_intB, ↓o_str, ↓o_gcd, ↓o_list, ↓o_listT, ↓o_tuple, ↓o_tupleT, ↓o_rev, ↓o_type, ↓o_isi, ↓o_isi2, ↓o_rg1, ↓o_rg2, ↓o_zip, ↓o_zipT, ↓o_itemsL, ↓o_itemsT, ↓o_ixL, ↓o_ixT, ↓o_at0, ↓o_at1, ↓o_at2, ↓o_at3, ↓o_at4, ↓o_at5, ↓o_at6, ↓o_at7, ↓o_at8, ↓o_at9, ↓o_at10, ↓o_at11, ↓o_at12, ↓o_at13, ↓o_at14, ↓o_at15, ↓w_eIxO, ↓t_tup1, ↓t_tup2, ↓t_tup3, ↓w_okOnly, ↓w_compN, ↓w_compC, ↓o_all, ↓o_any, ↓bls_nil, ↓bls_cons, ↓o_minL, ↓o_maxL, ↓o_sumL, ↓ints_nil, ↓ints_cons, ↓o_min3, ↓o_max3, ↓o_slL, ↓o_slT, ↓w_eBor, ↓w_bBor, o_isN, w_runF, tyName, isSubTy, tyNames, List.getElem?_cons_zero, List.getElem?_cons_succ, List.set_cons_zero, List.set_cons_succ, List.map_cons, List.map_nil, List.replicate_succ, List.replicate_zero, List.length_cons, List.length_nil, List.cons_append, List.nil_append, Nat.reduceAdd, Nat.reduceSub, Nat.reduceLeDiff, Nat.reduceEqDiff, ↓reduceIte, if_true, if_false, Bool.not_true, Bool.not_false, Bool.true_and, Bool.and_true, Bool.false_and, Bool.and_false, Bool.true_or, Bool.false_or, Bool.or_true, Bool.or_false, reduceCtorEq, decide_true, decide_false, beq_self_eq_true, List.mem_cons, true_or, or_true, true_and, and_true, false_and, and_false, or_false, false_or, String.reduceEq, String.reduceBEq, List.not_mem_nil, Bool.not_eq_true, Bool.false_eq_true, eq_self, not_true_eq_false, not_false_eq_true, Bool.not_eq_eq_eq_not, decide_eq_true_eq, decide_eq_false_iff_not, bne_iff_ne, ne_eq, Int.reduceLT, Int.reduceLE, Int.reduceMul, Int.reduceAdd, Int.reduceNeg, Int.reduceToNat, Int.reducePow, Nat.reduceLT, Int.reduceEq, Int.reduceSub, zipD, List.zipWith_cons_cons, List.zipWith_nil_left, List.zipWith_nil_right, List.all_cons, List.all_nil, id_eq, scalD, borE, wipeE, noOwn, sz_0, szl_0, sz_1, szl_1, sz_2, szl_2, sz_3, szl_3, sz_4, szl_4, sz_5, szl_5, sz_6, szl_6, sz_7, szl_7, sz_8, szl_8, sz_9, szl_9, sz_10, szl_10, sz_11, szl_11, sz_12, szl_12, sz_13, szl_13, sz_14, szl_14, sz_15, szl_15, sz_16, szl_16, sz_17, szl_17, sz_18, szl_18, sz_19, szl_19, sz_20, szl_20, sz_21, szl_21, sz_22, szl_22, sz_23, szl_23, sz_24, szl_24, sz_25, szl_25, sz_26, szl_26, sz_27, szl_27, sz_28, szl_28, sz_29, szl_29, sz_30, szl_30, sz_31, szl_31, sz_32, szl_32, frz, List.all_cons, List.all_nil, ↓w_forN, ↓w_forC, whole_int, c1, c2, c3, c4, c5, S1 q1, S1 q2, S1 x1, S1 x2, S1 x3, S1 x4, S1 x5, S1 x6, S1 x7, S1 x8, S1 x9, S1 y1, S1 y2, S1 y3, S1 y4, S1 y5, S1 y6, S1 y7, S1 y8, S1 y9, S2 x1, S2 x2, S2 x3, S2 x4, S2 x5, S2 x6, S2 x7, S2 x8, S2 x9, S3 y1, S3 y2, S3 y3, S3 y4, S3 y5, S3 y6, S3 y7, S3 y8, S3 y9, lo, im, hM]
  · apply wR_errE
    simp only [m_between_maps, g_between_maps, b_between_maps_1, r_between_maps_2, ↓w_pin0, ↓w_lent0, ↓w_sPin, ↓w_sLend, ↓w_sAppP, pinE, pin1, dropE, drop1, lendE, lentOk, ↓w_sRaise1, ↓one1_one, ↓w_sTryF, ↓w_sExt, ↓o_any2L, ↓o_any2T, ↓w_lRet, ↓w_lSeq, ↓w_runFL, ↓w_lCallF, ↓w_lRep, ↓o_repL, ↓w_iRevG, ↓o_revIL, ↓o_revIT, ↓o_plusT, ↓o_plusS, ↓o_repS, ↓o_enumL, ↓o_enumT, ↓w_lComp2, ↓w_capL, ↓w_comp2N, ↓w_comp2C, enumD_nil, enumD_cons, fldOf, Er.cls, ↓wR_ok, ↓wR_err, ↓wR_bind, ↓wR_of, ↓wO_some, ↓wO_map, ↓wO_bind, ↓w_var0, ↓w_varS, ↓w_eC, ↓w_e1, ↓w_l1, ↓w_e2, ↓w_l2, ↓w_b1, ↓w_b2, ↓w_eB, ↓w_eF, ↓w_lF, ↓w_eCall, ↓w_eLst, ↓w_aNil, ↓w_aCons, ↓w_eTup, ↓w_lDisp, ↓w_eIf, ↓w_bAnd, ↓w_bOr, ↓w_bNot, ↓w_bYes, ↓w_bChain, ↓w_eAnd, ↓w_eOr, ↓w_iAny, ↓w_oNone, ↓w_oSomeC, ↓w_eSl, ↓w_lSlG, ↓w_lComp, ↓w_sSeq, ↓w_sNil, ↓w_sBreak, ↓w_sCont, ↓w_sSet, ↓w_sSetL, ↓w_sExpr, ↓w_sRet, ↓w_sRetN, ↓w_sIf, ↓w_own0, ↓w_ownS, ↓w_sRetO, ↓w_sApp, ↓w_sSetIx, ↓w_sFrz, ↓w_sThen, ↓w_sRaise, ↓w_sAsg, ↓w_sFor, ↓w_sTry, ↓t_name, ↓t_nil, ↓t_cons, ↓o_plus, ↓o_plusL, ↓o_lAdd, ↓o_sub, ↓o_neg, ↓o_mul, ↓o_fdiv, ↓o_mod, ↓o_pow, ↓o_lt, ↓o_le, ↓o_gt, ↓o_ge, ↓o_eq, ↓o_ne, ↓o_truthB, ↓o_truthI, ↓o_truthN, ↓o_truthL, ↓o_truthT, ↓o_truthS, ↓o_notB, ↓o_isNN, ↓o_isBT, ↓o_isBF, ↓o_isT, ↓o_isIB, ↓o_isSB, ↓o_isLB, ↓o_isTB, ↓o_isNB, ↓o_isNot, ↓o_lenL, ↓o_lenT, ↓o_lenS, ↓o_abs, ↓o_intI, ↓o_intB, ↓o_str, ↓o_gcd, ↓o_list, ↓o_listT, ↓o_tuple, ↓o_tupleT, ↓o_rev, ↓o_type, ↓o_isi, ↓o_isi2, ↓o_rg1, ↓o_rg2, ↓o_zip, ↓o_zipT, ↓o_itemsL, ↓o_itemsT, ↓o_ixL, ↓o_ixT, ↓o_at0, ↓o_at1, ↓o_at2, ↓o_at3, ↓o_at4, ↓o_at5, ↓o_at6, ↓o_at7, ↓o_at8, ↓o_at9, ↓o_at10, ↓o_at11, ↓o_at12, ↓o_at13, ↓o_at14, ↓o_at15, ↓w_eIxO, ↓t_tup1, ↓t_tup2, ↓t_tup3, ↓w_okOnly, ↓w_compN, ↓w_compC, ↓o_all, ↓o_any, ↓bls_nil, ↓bls_cons, ↓o_minL, ↓o_maxL, ↓o_sumL, ↓ints_nil, ↓ints_cons, ↓o_min3, ↓o_max3, ↓o_slL, ↓o_slT, ↓w_eBor, ↓w_bBor, o_isN, w_runF, tyName, isSubTy, tyNames, List.getElem?_cons_zero, List.getElem?_cons_succ, List.set_cons_zero, List.set_cons_succ, List.map_cons, List.map_nil, List.replicate_succ, List.replicate_zero, List.length_cons, List.length_nil, List.cons_append, List.nil_append, Nat.reduceAdd, Nat.reduceSub, Nat.reduceLeDiff, Nat.reduceEqDiff, ↓reduceIte, if_true, if_false, Bool.not_true, Bool.not_false, Bool.true_and, Bool.and_true, Bool.false_and, Bool.and_false, Bool.true_or, Bool.false_or, Bool.or_true, Bool.or_false, reduceCtorEq, decide_true, decide_false, beq_self_eq_true, List.mem_cons, true_or, or_true, true_and, and_true, false_and, and_false, or_false, false_or, String.reduceEq, String.reduceBEq, List.not_mem_nil, Bool.not_eq_true, Bool.false_eq_true, eq_self, not_true_eq_false, not_false_eq_true, Bool.not_eq_eq_eq_not, decide_eq_true_eq, decide_eq_false_iff_not, bne_iff_ne, ne_eq, Int.reduceLT, Int.reduceLE, Int.reduceMul, Int.reduceAdd, Int.reduceNeg, Int.reduceToNat, Int.reducePow, Nat.reduceLT, Int.reduceEq, Int.reduceSub, zipD, List.zipWith_cons_cons, List.zipWith_nil_left, List.zipWith_nil_right, List.all_cons, List.all_nil, id_eq, scalD, borE, wipeE, noOwn, sz_0, szl_0, sz_1, szl_1, sz_2, szl_2, sz_3, szl_3, sz_4, szl_4, sz_5, szl_5, sz_6, szl_6, sz_7, szl_7, sz_8, szl_8, sz_9, szl_9, sz_10, szl_10, sz_11, szl_11, sz_12, szl_12, sz_13, szl_13, sz_14, szl_14, sz_15, szl_15, sz_16, szl_16, sz_17, szl_17, sz_18, szl_18, sz_19, szl_19, sz_20, szl_20, sz_21, szl_21, sz_22, szl_22, sz_23, szl_23, sz_24, szl_24, sz_25, szl_25, sz_26, szl_26, sz_27, szl_27, sz_28, szl_28, sz_29, szl_29, sz_30, szl_30, sz_31, szl_31, sz_32, szl_32, frz, List.all_cons, List.all_nil, ↓w_forN, ↓w_forC, whole_int, c1, c2, c3, c4, c5, S1 q1, S1 q2, S1 x1, S1 x2, S1 x3, S1 x4, S1 x5, S1 x6, S1 x7, S1 x8, S1 x9, S1 y1, S1 y2, S1 y3, S1 y4, S1 y5, S1 y6, S1 y7, S1 y8, S1 y9, S2 x1, S2 x2, S2 x3, S2 x4, S2 x5, S2 x6, S2 x7, S2 x8, S2 x9, S3 y1, S3 y2, S3 y3, S3 y4, S3 y5, S3 y6, S3 y7, S3 y8, S3 y9, lo, im, hM, badM]
  · have hB : BR [(of - sh) * a * I + sh * A * i, (of - sh) * b * I + sh * B * i, (of - sh) * c * I + sh * C * i, (of - sh) * d * I + sh * D' * i, (of - sh) * e * I + sh * E * i, (of - sh) * f * I + sh * F * i, (of - sh) * g * I + sh * G * i, (of - sh) * h' * I + sh * H * i, (of - sh) * i * I + sh * I * i] = if M = 0 then D.str [109, 97, 112] else .lst [.tup (List.map D.int P)] := by
      unfold BR
      rw [← hP, ← hM]
      rfl
    rw [hB]
    apply wR_eq
    by_cases h0 : M = 0
    · simp only [m__law_between, g__law_between, r9, ↓w_pin0, ↓w_lent0, ↓w_sPin, ↓w_sLend, ↓w_sAppP, pinE, pin1, dropE, drop1, lendE, lentOk, ↓w_sRaise1, ↓one1_one, ↓w_sTryF, ↓w_sExt, ↓o_any2L, ↓o_any2T, ↓w_lRet, ↓w_lSeq, ↓w_runFL, ↓w_lCallF, ↓w_lRep, ↓o_repL, ↓w_iRevG, ↓o_revIL, ↓o_revIT, ↓o_plusT, ↓o_plusS, ↓o_repS, ↓o_enumL, ↓o_enumT, ↓w_lComp2, ↓w_capL, ↓w_comp2N, ↓w_comp2C, enumD_nil, enumD_cons, fldOf, Er.cls, ↓wR_ok, ↓wR_err, ↓wR_bind, ↓wR_of, ↓wO_some, ↓wO_map, ↓wO_bind, ↓w_var0, ↓w_varS, ↓w_eC, ↓w_e1, ↓w_l1, ↓w_e2, ↓w_l2, ↓w_b1, ↓w_b2, ↓w_eB, ↓w_eF, ↓w_lF, ↓w_eCall, ↓w_eLst, ↓w_aNil, ↓w_aCons, ↓w_eTup, ↓w_lDisp, ↓w_eIf, ↓w_bAnd, ↓w_bOr, ↓w_bNot, ↓w_bYes, ↓w_bChain, ↓w_eAnd, ↓w_eOr, ↓w_iAny, ↓w_oNone, ↓w_oSomeC, ↓w_eSl, ↓w_lSlG, ↓w_lComp, ↓w_sSeq, ↓w_sNil, ↓w_sBreak, ↓w_sCont, ↓w_sSet, ↓w_sSetL, ↓w_sExpr, ↓w_sRet, ↓w_sRetN, ↓w_sIf, ↓w_own0, ↓w_ownS, ↓w_sRetO, ↓w_sApp, ↓w_sSetIx, ↓w_sFrz, ↓w_sThen, ↓w_sRaise, ↓w_sAsg, ↓w_sFor, ↓w_sTry, ↓t_name, ↓t_nil, ↓t_cons, ↓o_plus, ↓o_plusL, ↓o_lAdd, ↓o_sub, ↓o_neg, ↓o_mul, ↓o_fdiv, ↓o_mod, ↓o_pow, ↓o_lt, ↓o_le, ↓o_gt, ↓o_ge, ↓o_eq, ↓o_ne, ↓o_truthB, ↓o_truthI, ↓o_truthN, ↓o_truthL, ↓o_truthT, ↓o_truthS, ↓o_notB, ↓o_isNN, ↓o_isBT, ↓o_isBF, ↓o_isT, ↓o_isIB, ↓o_isSB, ↓o_isLB, ↓o_isTB, ↓o_isNB, ↓o_isNot, ↓o_lenL, ↓o_lenT, ↓o_lenS, ↓o_abs, ↓o_intI, ↓o_intB, ↓o_str, ↓o_gcd, ↓o_list, ↓o_listT, ↓o_tuple, ↓o_tupleT, ↓o_rev, ↓o_type, ↓o_isi, ↓o_isi2, ↓o_rg1, ↓o_rg2, ↓o_zip, ↓o_zipT, ↓o_itemsL, ↓o_itemsT, ↓o_ixL, ↓o_ixT, ↓o_at0, ↓o_at1, ↓o_at2, ↓o_at3, ↓o_at4, ↓o_at5, ↓o_at6, ↓o_at7, ↓o_at8, ↓o_at9, ↓o_at10, ↓o_at11, ↓o_at12, ↓o_at13, ↓o_at14, ↓o_at15, ↓w_eIxO, ↓t_tup1, ↓t_tup2, ↓t_tup3, ↓w_okOnly, ↓w_compN, ↓w_compC, ↓o_all, ↓o_any, ↓bls_nil, ↓bls_cons, ↓o_minL, ↓o_maxL, ↓o_sumL, ↓ints_nil, ↓ints_cons, ↓o_min3, ↓o_max3, ↓o_slL, ↓o_slT, ↓w_eBor, ↓w_bBor, o_isN, w_runF, tyName, isSubTy, tyNames, List.getElem?_cons_zero, List.getElem?_cons_succ, List.set_cons_zero, List.set_cons_succ, List.map_cons, List.map_nil, List.replicate_succ, List.replicate_zero, List.length_cons, List.length_nil, List.cons_append, List.nil_append, Nat.reduceAdd, Nat.reduceSub, Nat.reduceLeDiff, Nat.reduceEqDiff, ↓reduceIte, if_true, if_false, Bool.not_true, Bool.not_false, Bool.true_and, Bool.and_true, Bool.false_and, Bool.and_false, Bool.true_or, Bool.false_or, Bool.or_true, Bool.or_false, reduceCtorEq, decide_true, decide_false, beq_self_eq_true, List.mem_cons, true_or, or_true, true_and, and_true, false_and, and_false, or_false, false_or, String.reduceEq, String.reduceBEq, List.not_mem_nil, Bool.not_eq_true, Bool.false_eq_true, eq_self, not_true_eq_false, not_false_eq_true, Bool.not_eq_eq_eq_not, decide_eq_true_eq, decide_eq_false_iff_not, bne_iff_ne, ne_eq, Int.reduceLT, Int.reduceLE, Int.reduceMul, Int.reduceAdd, Int.reduceNeg, Int.reduceToNat, Int.reducePow, Nat.reduceLT, Int.reduceEq, Int.reduceSub, zipD, List.zipWith_cons_cons, List.zipWith_nil_left, List.zipWith_nil_right, List.all_cons, List.all_nil, id_eq, scalD, borE, wipeE, noOwn, sz_0, szl_0, sz_1, szl_1, sz_2, szl_2, sz_3, szl_3, sz_4, szl_4, sz_5, szl_5, sz_6, szl_6, sz_7, szl_7, sz_8, szl_8, sz_9, szl_9, sz_10, szl_10, sz_11, szl_11, sz_12, szl_12, sz_13, szl_13, sz_14, szl_14, sz_15, szl_15, sz_16, szl_16, sz_17, szl_17, sz_18, szl_18, sz_19, szl_19, sz_20, szl_20, sz_21, szl_21, sz_22, szl_22, sz_23, szl_23, sz_24, szl_24, sz_25, szl_25, sz_26, szl_26, sz_27, szl_27, sz_28, szl_28, sz_29, szl_29, sz_30, szl_30, sz_31, szl_31, sz_32, szl_32, frz, List.all_cons, List.all_nil, ↓w_forN, ↓w_forC, whole_int, c1, c2, c3, c4, c5, S1 q1, S1 q2, S1 x1, S1 x2, S1 x3, S1 x4, S1 x5, S1 x6, S1 x7, S1 x8, S1 x9, S1 y1, S1 y2, S1 y3, S1 y4, S1 y5, S1 y6, S1 y7, S1 y8, S1 y9, S2 x1, S2 x2, S2 x3, S2 x4, S2 x5, S2 x6, S2 x7, S2 x8, S2 x9, S3 y1, S3 y2, S3 y3, S3 y4, S3 y5, S3 y6, S3 y7, S3 y8, S3 y9, so, me, h0]
    · simp only [m__law_between, g__law_between, r9, ↓w_pin0, ↓w_lent0, ↓w_sPin, ↓w_sLend, ↓w_sAppP, pinE, pin1, dropE, drop1, lendE, lentOk, ↓w_sRaise1, ↓one1_one, ↓w_sTryF, ↓w_sExt, ↓o_any2L, ↓o_any2T, ↓w_lRet, ↓w_lSeq, ↓w_runFL, ↓w_lCallF, ↓w_lRep, ↓o_repL, ↓w_iRevG, ↓o_revIL, ↓o_revIT, ↓o_plusT, ↓o_plusS, ↓o_repS, ↓o_enumL, ↓o_enumT, ↓w_lComp2, ↓w_capL, ↓w_comp2N, ↓w_comp2C, enumD_nil, enumD_cons, fldOf, Er.cls, ↓wR_ok, ↓wR_err, ↓wR_bind, ↓wR_of, ↓wO_some, ↓wO_map, ↓wO_bind, ↓w_var0, ↓w_varS, ↓w_eC, ↓w_e1, ↓w_l1, ↓w_e2, ↓w_l2, ↓w_b1, ↓w_b2, ↓w_eB, ↓w_eF, ↓w_lF, ↓w_eCall, ↓w_eLst, ↓w_aNil, ↓w_aCons, ↓w_eTup, ↓w_lDisp, ↓w_eIf, ↓w_bAnd, ↓w_bOr, ↓w_bNot, ↓w_bYes, ↓w_bChain, ↓w_eAnd, ↓w_eOr, ↓w_iAny, ↓w_oNone, ↓w_oSomeC, ↓w_eSl, ↓w_lSlG, ↓w_lComp, ↓w_sSeq, ↓w_sNil, ↓w_sBreak, ↓w_sCont, ↓w_sSet, ↓w_sSetL, ↓w_sExpr, ↓w_sRet, ↓w_sRetN, ↓w_sIf, ↓w_own0, ↓w_ownS, ↓w_sRetO, ↓w_sApp, ↓w_sSetIx, ↓w_sFrz, ↓w_sThen, ↓w_sRaise, ↓w_sAsg, ↓w_sFor, ↓w_sTry, ↓t_name, ↓t_nil, ↓t_cons, ↓o_plus, ↓o_plusL, ↓o_lAdd, ↓o_sub, ↓o_neg, ↓o_mul, ↓o_fdiv, ↓o_mod, ↓o_pow, ↓o_lt, ↓o_le, ↓o_gt, ↓o_ge, ↓o_eq, ↓o_ne, ↓o_truthB, ↓o_truthI, ↓o_truthN, ↓o_truthL, ↓o_truthT, ↓o_truthS, ↓o_notB, ↓o_isNN, ↓o_isBT, ↓o_isBF, ↓o_isT, ↓o_isIB, ↓o_isSB, ↓o_isLB, ↓o_isTB, ↓o_isNB, ↓o_isNot, ↓o_lenL, ↓o_lenT, ↓o_lenS, ↓o_abs, ↓o_intI, ↓o_intB, ↓o_str, ↓o_gcd, ↓o_list, ↓o_listT, ↓o_tuple, ↓o_tupleT, ↓o_rev, ↓o_type, ↓o_isi, ↓o_isi2, ↓o_rg1, ↓o_rg2, ↓o_zip, ↓o_zipT, ↓o_itemsL, ↓o_itemsT, ↓o_ixL, ↓o_ixT, ↓o_at0, ↓o_at1, ↓o_at2, ↓o_at3, ↓o_at4, ↓o_at5, ↓o_at6, ↓o_at7, ↓o_at8, ↓o_at9, ↓o_at10, ↓o_at11, ↓o_at12, ↓o_at13, ↓o_at14, ↓o_at15, ↓w_eIxO, ↓t_tup1, ↓t_tup2, ↓t_tup3, ↓w_okOnly, ↓w_compN, ↓w_compC, ↓o_all, ↓o_any, ↓bls_nil, ↓bls_cons, ↓o_minL, ↓o_maxL, ↓o_sumL, ↓ints_nil, ↓ints_cons, ↓o_min3, ↓o_max3, ↓o_slL, ↓o_slT, ↓w_eBor, ↓w_bBor, o_isN, w_runF, tyName, isSubTy, tyNames, List.getElem?_cons_zero, List.getElem?_cons_succ, List.set_cons_zero, List.set_cons_succ, List.map_cons, List.map_nil, List.replicate_succ, List.replicate_zero, List.length_cons, List.length_nil, List.cons_append, List.nil_append, Nat.reduceAdd, Nat.reduceSub, Nat.reduceLeDiff, Nat.reduceEqDiff, ↓reduceIte, if_true, if_false, Bool.not_true, Bool.not_false, Bool.true_and, Bool.and_true, Bool.false_and, Bool.and_false, Bool.true_or, Bool.false_or, Bool.or_true, Bool.or_false, reduceCtorEq, decide_true, decide_false, beq_self_eq_true, List.mem_cons, true_or, or_true, true_and, and_true, false_and, and_false, or_false, false_or, String.reduceEq, String.reduceBEq, List.not_mem_nil, Bool.not_eq_true, Bool.false_eq_true, eq_self, not_true_eq_false, not_false_eq_true, Bool.not_eq_eq_eq_not, decide_eq_true_eq, decide_eq_false_iff_not, bne_iff_ne, ne_eq, Int.reduceLT, Int.reduceLE, Int.reduceMul, Int.reduceAdd, Int.reduceNeg, Int.reduceToNat, Int.reducePow, Nat.reduceLT, Int.reduceEq, Int.reduceSub, zipD, List.zipWith_cons_cons, List.zipWith_nil_left, List.zipWith_nil_right, List.all_cons, List.all_nil, id_eq, scalD, borE, wipeE, noOwn, sz_0, szl_0, sz_1, szl_1, sz_2, szl_2, sz_3, szl_3, sz_4, szl_4, sz_5, szl_5, sz_6, szl_6, sz_7, szl_7, sz_8, szl_8, sz_9, szl_9, sz_10, szl_10, sz_11, szl_11, sz_12, szl_12, sz_13, szl_13, sz_14, szl_14, sz_15, szl_15, sz_16, szl_16, sz_17, szl_17, sz_18, szl_18, sz_19, szl_19, sz_20, szl_20, sz_21, szl_21, sz_22, szl_22, sz_23, szl_23, sz_24, szl_24, sz_25, szl_25, sz_26, szl_26, sz_27, szl_27, sz_28, szl_28, sz_29, szl_29, sz_30, szl_30, sz_31, szl_31, sz_32, szl_32, frz, List.all_cons, List.all_nil, ↓w_forN, ↓w_forC, whole_int, c1, c2, c3, c4, c5, S1 q1, S1 q2, S1 x1, S1 x2, S1 x3, S1 x4, S1 x5, S1 x6, S1 x7, S1 x8, S1 x9, S1 y1, S1 y2, S1 y3, S1 y4, S1 y5, S1 y6, S1 y7, S1 y8, S1 y9, S2 x1, S2 x2, S2 x3, S2 x4, S2 x5, S2 x6, S2 x7, S2 x8, S2 x9, S3 y1, S3 y2, S3 y3, S3 y4, S3 y5, S3 y6, S3 y7, S3 y8, S3 y9, so, me, h0]
end AF

namespace AF
open PySem PySem.Spec PyProof.Rows L2
/-! ### maps between, by the law -/
theorem BR_k {L : List Int} {k : Int} (hk : 0 < k) (hl : L.length = 9) : BR (L.map (k * ·)) = BR L := by
  unfold BR
  have m := ME_scale k hl
  have h3 : 0 < k * (k * k) := Int.mul_pos hk (Int.mul_pos hk hk)
  rw [prim_scale hk, m]
  by_cases h : ME L = 0
  · rw [h, Int.mul_zero]
  · rw [if_neg h, if_neg (Int.mul_ne_zero (by omega) h)]
theorem okS_BR {L : List Int} (hl : L.length = 9) (k : Nat) : okS (k + 3) (BR L) = true := by
  unfold BR
  by_cases h : ME L = 0
  · rw [if_pos h]; rfl
  · rw [if_neg h]
    show (decide (([tI (prim L)] : List D).length ≤ 1000000) && ([tI (prim L)] : List D).all (okS (k + 2))) = true
    rw [List.all_cons, okS_tI (by rw [prim_len]; exact hl) k]
    rfl
theorem same_BR3 {L : List Int} (hl : L.length = 9) : m__law_same 40 [.lst [BR L, BR L, BR L], .lst [BR L, BR L, BR L]] = .ok (.bl true) := by
  refine same_ok 40 _ ?_
  show (decide (([BR L, BR L, BR L] : List D).length ≤ 1000000) && ([BR L, BR L, BR L] : List D).all (okS 39)) = true
  rw [List.all_cons, List.all_cons, List.all_cons, okS_BR hl 36]
  rfl
theorem berr_ok {f s : List Int} (hf : Lt 8 f) (hs : Lt 8 s) (pf : 0 < LS f) (ps : 0 < LS s) {sh of : Int} (h0 : 0 ≤ sh) (h1 : sh ≤ of) (h2 : 1 ≤ of) (h3 : of < 2 ^ 8) :
    m__law_between_error [tI f, tI s, .int sh, .int of] = .ok (BR (BT f s sh of)) := by
  obtain ⟨b1, b2, _⟩ := between_maps_ok hf hs pf ps h0 h1 h2 h3
  unfold BR
  by_cases h : ME (BT f s sh of) = 0
  · have b := b2 h
    rw [if_pos h]
    apply wR_eq
    simp only [m__law_between_error, g__law_between_error, cat_BadMap_l, ↓w_pin0, ↓w_lent0, ↓w_sPin, ↓w_sLend, ↓w_sAppP, pinE, pin1, dropE, drop1, lendE, lentOk, ↓w_sRaise1, ↓one1_one, ↓w_sTryF, ↓w_sExt, ↓o_any2L, ↓o_any2T, ↓w_lRet, ↓w_lSeq, ↓w_runFL, ↓w_lCallF, ↓w_lRep, ↓o_repL, ↓w_iRevG, ↓o_revIL, ↓o_revIT, ↓o_plusT, ↓o_plusS, ↓o_repS, ↓o_enumL, ↓o_enumT, ↓w_lComp2, ↓w_capL, ↓w_comp2N, ↓w_comp2C, enumD_nil, enumD_cons, fldOf, Er.cls, ↓wR_ok, ↓wR_err, ↓wR_bind, ↓wR_of, ↓wO_some, ↓wO_map, ↓wO_bind, ↓w_var0, ↓w_varS, ↓w_eC, ↓w_e1, ↓w_l1, ↓w_e2, ↓w_l2, ↓w_b1, ↓w_b2, ↓w_eB, ↓w_eF, ↓w_lF, ↓w_eCall, ↓w_eLst, ↓w_aNil, ↓w_aCons, ↓w_eTup, ↓w_lDisp, ↓w_eIf, ↓w_bAnd, ↓w_bOr, ↓w_bNot, ↓w_bYes, ↓w_bChain, ↓w_eAnd, ↓w_eOr, ↓w_iAny, ↓w_oNone, ↓w_oSomeC, ↓w_eSl, ↓w_lSlG, ↓w_lComp, ↓w_sSeq, ↓w_sNil, ↓w_sBreak, ↓w_sCont, ↓w_sSet, ↓w_sSetL, ↓w_sExpr, ↓w_sRet, ↓w_sRetN, ↓w_sIf, ↓w_own0, ↓w_ownS, ↓w_sRetO, ↓w_sApp, ↓w_sSetIx, ↓w_sFrz, ↓w_sThen, ↓w_sRaise, ↓w_sAsg, ↓w_sFor, ↓w_sTry, ↓t_name, ↓t_nil, ↓t_cons, ↓o_plus, ↓o_plusL, ↓o_lAdd, ↓o_sub, ↓o_neg, ↓o_mul, ↓o_fdiv, ↓o_mod, ↓o_pow, ↓o_lt, ↓o_le, ↓o_gt, ↓o_ge, ↓o_eq, ↓o_ne, ↓o_truthB, ↓o_truthI, ↓o_truthN, ↓o_truthL, ↓o_truthT, ↓o_truthS, ↓o_notB, ↓o_isNN, ↓o_isBT, ↓o_isBF, ↓o_isT, ↓o_isIB, ↓o_isSB, ↓o_isLB, ↓o_isTB, ↓o_isNB, ↓o_isNot, ↓o_lenL, ↓o_lenT, ↓o_lenS, ↓o_abs, ↓o_intI, ↓o_intB, ↓o_str, ↓o_gcd, ↓o_list, ↓o_listT, ↓o_tuple, ↓o_tupleT, ↓o_rev, ↓o_type, ↓o_isi, ↓o_isi2, ↓o_rg1, ↓o_rg2, ↓o_zip, ↓o_zipT, ↓o_itemsL, ↓o_itemsT, ↓o_ixL, ↓o_ixT, ↓o_at0, ↓o_at1, ↓o_at2, ↓o_at3, ↓o_at4, ↓o_at5, ↓o_at6, ↓o_at7, ↓o_at8, ↓o_at9, ↓o_at10, ↓o_at11, ↓o_at12, ↓o_at13, ↓o_at14, ↓o_at15, ↓w_eIxO, ↓t_tup1, ↓t_tup2, ↓t_tup3, ↓w_okOnly, ↓w_compN, ↓w_compC, ↓o_all, ↓o_any, ↓bls_nil, ↓bls_cons, ↓o_minL, ↓o_maxL, ↓o_sumL, ↓ints_nil, ↓ints_cons, ↓o_min3, ↓o_max3, ↓o_slL, ↓o_slT, ↓w_eBor, ↓w_bBor, o_isN, w_runF, tyName, isSubTy, tyNames, List.getElem?_cons_zero, List.getElem?_cons_succ, List.set_cons_zero, List.set_cons_succ, List.map_cons, List.map_nil, List.replicate_succ, List.replicate_zero, List.length_cons, List.length_nil, List.cons_append, List.nil_append, Nat.reduceAdd, Nat.reduceSub, Nat.reduceLeDiff, Nat.reduceEqDiff, ↓reduceIte, if_true, if_false, Bool.not_true, Bool.not_false, Bool.true_and, Bool.and_true, Bool.false_and, Bool.and_false, Bool.true_or, Bool.false_or, Bool.or_true, Bool.or_false, reduceCtorEq, decide_true, decide_false, beq_self_eq_true, List.mem_cons, true_or, or_true, true_and, and_true, false_and, and_false, or_false, false_or, String.reduceEq, String.reduceBEq, List.not_mem_nil, Bool.not_eq_true, Bool.false_eq_true, eq_self, not_true_eq_false, not_false_eq_true, Bool.not_eq_eq_eq_not, decide_eq_true_eq, decide_eq_false_iff_not, bne_iff_ne, ne_eq, Int.reduceLT, Int.reduceLE, Int.reduceMul, Int.reduceAdd, Int.reduceNeg, Int.reduceToNat, Int.reducePow, Nat.reduceLT, Int.reduceEq, Int.reduceSub, zipD, List.zipWith_cons_cons, List.zipWith_nil_left, List.zipWith_nil_right, List.all_cons, List.all_nil, id_eq, scalD, borE, wipeE, noOwn, sz_0, szl_0, sz_1, szl_1, sz_2, szl_2, sz_3, szl_3, sz_4, szl_4, sz_5, szl_5, sz_6, szl_6, sz_7, szl_7, sz_8, szl_8, sz_9, szl_9, sz_10, szl_10, sz_11, szl_11, sz_12, szl_12, sz_13, szl_13, sz_14, szl_14, sz_15, szl_15, sz_16, szl_16, sz_17, szl_17, sz_18, szl_18, sz_19, szl_19, sz_20, szl_20, sz_21, szl_21, sz_22, szl_22, sz_23, szl_23, sz_24, szl_24, sz_25, szl_25, sz_26, szl_26, sz_27, szl_27, sz_28, szl_28, sz_29, szl_29, sz_30, szl_30, sz_31, szl_31, sz_32, szl_32, frz, List.all_cons, List.all_nil, b, badM]
    simp [List.lookup]
  · have b := b1 h
    rw [if_neg h]
    apply wR_eq
    simp only [m__law_between_error, g__law_between_error, cat_BadMap_l, ↓w_pin0, ↓w_lent0, ↓w_sPin, ↓w_sLend, ↓w_sAppP, pinE, pin1, dropE, drop1, lendE, lentOk, ↓w_sRaise1, ↓one1_one, ↓w_sTryF, ↓w_sExt, ↓o_any2L, ↓o_any2T, ↓w_lRet, ↓w_lSeq, ↓w_runFL, ↓w_lCallF, ↓w_lRep, ↓o_repL, ↓w_iRevG, ↓o_revIL, ↓o_revIT, ↓o_plusT, ↓o_plusS, ↓o_repS, ↓o_enumL, ↓o_enumT, ↓w_lComp2, ↓w_capL, ↓w_comp2N, ↓w_comp2C, enumD_nil, enumD_cons, fldOf, Er.cls, ↓wR_ok, ↓wR_err, ↓wR_bind, ↓wR_of, ↓wO_some, ↓wO_map, ↓wO_bind, ↓w_var0, ↓w_varS, ↓w_eC, ↓w_e1, ↓w_l1, ↓w_e2, ↓w_l2, ↓w_b1, ↓w_b2, ↓w_eB, ↓w_eF, ↓w_lF, ↓w_eCall, ↓w_eLst, ↓w_aNil, ↓w_aCons, ↓w_eTup, ↓w_lDisp, ↓w_eIf, ↓w_bAnd, ↓w_bOr, ↓w_bNot, ↓w_bYes, ↓w_bChain, ↓w_eAnd, ↓w_eOr, ↓w_iAny, ↓w_oNone, ↓w_oSomeC, ↓w_eSl, ↓w_lSlG, ↓w_lComp, ↓w_sSeq, ↓w_sNil, ↓w_sBreak, ↓w_sCont, ↓w_sSet, ↓w_sSetL, ↓w_sExpr, ↓w_sRet, ↓w_sRetN, ↓w_sIf, ↓w_own0, ↓w_ownS, ↓w_sRetO, ↓w_sApp, ↓w_sSetIx, ↓w_sFrz, ↓w_sThen, ↓w_sRaise, ↓w_sAsg, ↓w_sFor, ↓w_sTry, ↓t_name, ↓t_nil, ↓t_cons, ↓o_plus, ↓o_plusL, ↓o_lAdd, ↓o_sub, ↓o_neg, ↓o_mul, ↓o_fdiv, ↓o_mod, ↓o_pow, ↓o_lt, ↓o_le, ↓o_gt, ↓o_ge, ↓o_eq, ↓o_ne, ↓o_truthB, ↓o_truthI, ↓o_truthN, ↓o_truthL, ↓o_truthT, ↓o_truthS, ↓o_notB, ↓o_isNN, ↓o_isBT, ↓o_isBF, ↓o_isT, ↓o_isIB, ↓o_isSB, ↓o_isLB, ↓o_isTB, ↓o_isNB, ↓o_isNot, ↓o_lenL, ↓o_lenT, ↓o_lenS, ↓o_abs, ↓o_intI, ↓o_intB, ↓o_str, ↓o_gcd, ↓o_list, ↓o_listT, ↓o_tuple, ↓o_tupleT, ↓o_rev, ↓o_type, ↓o_isi, ↓o_isi2, ↓o_rg1, ↓o_rg2, ↓o_zip, ↓o_zipT, ↓o_itemsL, ↓o_itemsT, ↓o_ixL, ↓o_ixT, ↓o_at0, ↓o_at1, ↓o_at2, ↓o_at3, ↓o_at4, ↓o_at5, ↓o_at6, ↓o_at7, ↓o_at8, ↓o_at9, ↓o_at10, ↓o_at11, ↓o_at12, ↓o_at13, ↓o_at14, ↓o_at15, ↓w_eIxO, ↓t_tup1, ↓t_tup2, ↓t_tup3, ↓w_okOnly, ↓w_compN, ↓w_compC, ↓o_all, ↓o_any, ↓bls_nil, ↓bls_cons, ↓o_minL, ↓o_maxL, ↓o_sumL, ↓ints_nil, ↓ints_cons, ↓o_min3, ↓o_max3, ↓o_slL, ↓o_slT, ↓w_eBor, ↓w_bBor, o_isN, w_runF, tyName, isSubTy, tyNames, List.getElem?_cons_zero, List.getElem?_cons_succ, List.set_cons_zero, List.set_cons_succ, List.map_cons, List.map_nil, List.replicate_succ, List.replicate_zero, List.length_cons, List.length_nil, List.cons_append, List.nil_append, Nat.reduceAdd, Nat.reduceSub, Nat.reduceLeDiff, Nat.reduceEqDiff, ↓reduceIte, if_true, if_false, Bool.not_true, Bool.not_false, Bool.true_and, Bool.and_true, Bool.false_and, Bool.and_false, Bool.true_or, Bool.false_or, Bool.or_true, Bool.or_false, reduceCtorEq, decide_true, decide_false, beq_self_eq_true, List.mem_cons, true_or, or_true, true_and, and_true, false_and, and_false, or_false, false_or, String.reduceEq, String.reduceBEq, List.not_mem_nil, Bool.not_eq_true, Bool.false_eq_true, eq_self, not_true_eq_false, not_false_eq_true, Bool.not_eq_eq_eq_not, decide_eq_true_eq, decide_eq_false_iff_not, bne_iff_ne, ne_eq, Int.reduceLT, Int.reduceLE, Int.reduceMul, Int.reduceAdd, Int.reduceNeg, Int.reduceToNat, Int.reducePow, Nat.reduceLT, Int.reduceEq, Int.reduceSub, zipD, List.zipWith_cons_cons, List.zipWith_nil_left, List.zipWith_nil_right, List.all_cons, List.all_nil, id_eq, scalD, borE, wipeE, noOwn, sz_0, szl_0, sz_1, szl_1, sz_2, szl_2, sz_3, szl_3, sz_4, szl_4, sz_5, szl_5, sz_6, szl_6, sz_7, szl_7, sz_8, szl_8, sz_9, szl_9, sz_10, szl_10, sz_11, szl_11, sz_12, szl_12, sz_13, szl_13, sz_14, szl_14, sz_15, szl_15, sz_16, szl_16, sz_17, szl_17, sz_18, szl_18, sz_19, szl_19, sz_20, szl_20, sz_21, szl_21, sz_22, szl_22, sz_23, szl_23, sz_24, szl_24, sz_25, szl_25, sz_26, szl_26, sz_27, szl_27, sz_28, szl_28, sz_29, szl_29, sz_30, szl_30, sz_31, szl_31, sz_32, szl_32, frz, List.all_cons, List.all_nil, b]
theorem berr_last {f s : List Int} (hf : f.length = 9) (hs : s.length = 9) (h : LS f ≤ 0 ∨ LS s ≤ 0) : m__law_between_error [tI f, tI s, .int 1, .int 2] = .ok (.str [108, 97, 115, 116]) := by
  have b : m_between_maps [tI f, tI s, .int 1, .int 2] = .err badL := by
    obtain ⟨a, b, c, d, e, f, g, h', i, rfl⟩ := nine hf
    obtain ⟨A, B, C, D', E, F, G, H, I, rfl⟩ := nine hs
    have h : i ≤ 0 ∨ I ≤ 0 := h
    apply wR_errE
    simp only [tI, iD, List.map_cons, List.map_nil, m_between_maps, g_between_maps, ↓w_pin0, ↓w_lent0, ↓w_sPin, ↓w_sLend, ↓w_sAppP, pinE, pin1, dropE, drop1, lendE, lentOk, ↓w_sRaise1, ↓one1_one, ↓w_sTryF, ↓w_sExt, ↓o_any2L, ↓o_any2T, ↓w_lRet, ↓w_lSeq, ↓w_runFL, ↓w_lCallF, ↓w_lRep, ↓o_repL, ↓w_iRevG, ↓o_revIL, ↓o_revIT, ↓o_plusT, ↓o_plusS, ↓o_repS, ↓o_enumL, ↓o_enumT, ↓w_lComp2, ↓w_capL, ↓w_comp2N, ↓w_comp2C, enumD_nil, enumD_cons, fldOf, Er.cls, ↓wR_ok, ↓wR_err, ↓wR_bind, ↓wR_of, ↓wO_some, ↓wO_map, ↓wO_bind, ↓w_var0, ↓w_varS, ↓w_eC, ↓w_e1, ↓w_l1, ↓w_e2, ↓w_l2, ↓w_b1, ↓w_b2, ↓w_eB, ↓w_eF, ↓w_lF, ↓w_eCall, ↓w_eLst, ↓w_aNil, ↓w_aCons, ↓w_eTup, ↓w_lDisp, ↓w_eIf, ↓w_bAnd, ↓w_bOr, ↓w_bNot, ↓w_bYes, ↓w_bChain, ↓w_eAnd, ↓w_eOr, ↓w_iAny, ↓w_oNone, ↓w_oSomeC, ↓w_eSl, ↓w_lSlG, ↓w_lComp, ↓w_sSeq, ↓w_sNil, ↓w_sBreak, ↓w_sCont, ↓w_sSet, ↓w_sSetL, ↓w_sExpr, ↓w_sRet, ↓w_sRetN, ↓w_sIf, ↓w_own0, ↓w_ownS, ↓w_sRetO, ↓w_sApp, ↓w_sSetIx, ↓w_sFrz, ↓w_sThen, ↓w_sRaise, ↓w_sAsg, ↓w_sFor, ↓w_sTry, ↓t_name, ↓t_nil, ↓t_cons, ↓o_plus, ↓o_plusL, ↓o_lAdd, ↓o_sub, ↓o_neg, ↓o_mul, ↓o_fdiv, ↓o_mod, ↓o_pow, ↓o_lt, ↓o_le, ↓o_gt, ↓o_ge, ↓o_eq, ↓o_ne, ↓o_truthB, ↓o_truthI, ↓o_truthN, ↓o_truthL, ↓o_truthT, ↓o_truthS, ↓o_notB, ↓o_isNN, ↓o_isBT, ↓o_isBF, ↓o_isT, ↓o_isIB, ↓o_isSB, ↓o_isLB, ↓o_isTB, ↓o_isNB, ↓o_isNot, ↓o_lenL, ↓o_lenT, ↓o_lenS, ↓o_abs, ↓o_intI, ↓o_intB, ↓o_str, ↓o_gcd, ↓o_list, ↓o_listT, ↓o_tuple, ↓o_tupleT, ↓o_rev, ↓o_type, ↓o_isi, ↓o_isi2, ↓o_rg1, ↓o_rg2, ↓o_zip, ↓o_zipT, ↓o_itemsL, ↓o_itemsT, ↓o_ixL, ↓o_ixT, ↓o_at0, ↓o_at1, ↓o_at2, ↓o_at3, ↓o_at4, ↓o_at5, ↓o_at6, ↓o_at7, ↓o_at8, ↓o_at9, ↓o_at10, ↓o_at11, ↓o_at12, ↓o_at13, ↓o_at14, ↓o_at15, ↓w_eIxO, ↓t_tup1, ↓t_tup2, ↓t_tup3, ↓w_okOnly, ↓w_compN, ↓w_compC, ↓o_all, ↓o_any, ↓bls_nil, ↓bls_cons, ↓o_minL, ↓o_maxL, ↓o_sumL, ↓ints_nil, ↓ints_cons, ↓o_min3, ↓o_max3, ↓o_slL, ↓o_slT, ↓w_eBor, ↓w_bBor, o_isN, w_runF, tyName, isSubTy, tyNames, List.getElem?_cons_zero, List.getElem?_cons_succ, List.set_cons_zero, List.set_cons_succ, List.map_cons, List.map_nil, List.replicate_succ, List.replicate_zero, List.length_cons, List.length_nil, List.cons_append, List.nil_append, Nat.reduceAdd, Nat.reduceSub, Nat.reduceLeDiff, Nat.reduceEqDiff, ↓reduceIte, if_true, if_false, Bool.not_true, Bool.not_false, Bool.true_and, Bool.and_true, Bool.false_and, Bool.and_false, Bool.true_or, Bool.false_or, Bool.or_true, Bool.or_false, reduceCtorEq, decide_true, decide_false, beq_self_eq_true, List.mem_cons, true_or, or_true, true_and, and_true, false_and, and_false, or_false, false_or, String.reduceEq, String.reduceBEq, List.not_mem_nil, Bool.not_eq_true, Bool.false_eq_true, eq_self, not_true_eq_false, not_false_eq_true, Bool.not_eq_eq_eq_not, decide_eq_true_eq, decide_eq_false_iff_not, bne_iff_ne, ne_eq, Int.reduceLT, Int.reduceLE, Int.reduceMul, Int.reduceAdd, Int.reduceNeg, Int.reduceToNat, Int.reducePow, Nat.reduceLT, Int.reduceEq, Int.reduceSub, zipD, List.zipWith_cons_cons, List.zipWith_nil_left, List.zipWith_nil_right, List.all_cons, List.all_nil, id_eq, scalD, borE, wipeE, noOwn, sz_0, szl_0, sz_1, szl_1, sz_2, szl_2, sz_3, szl_3, sz_4, szl_4, sz_5, szl_5, sz_6, szl_6, sz_7, szl_7, sz_8, szl_8, sz_9, szl_9, sz_10, szl_10, sz_11, szl_11, sz_12, szl_12, sz_13, szl_13, sz_14, szl_14, sz_15, szl_15, sz_16, szl_16, sz_17, szl_17, sz_18, szl_18, sz_19, szl_19, sz_20, szl_20, sz_21, szl_21, sz_22, szl_22, sz_23, szl_23, sz_24, szl_24, sz_25, szl_25, sz_26, szl_26, sz_27, szl_27, sz_28, szl_28, sz_29, szl_29, sz_30, szl_30, sz_31, szl_31, sz_32, szl_32, frz, List.all_cons, List.all_nil, whole_int]
    by_cases c : i ≤ 0
    · simp [c, badL]
    · have c2 : I ≤ 0 := by omega
      simp [c, c2, badL]
  apply wR_eq
  simp only [m__law_between_error, g__law_between_error, cat_BadMap_l, ↓w_pin0, ↓w_lent0, ↓w_sPin, ↓w_sLend, ↓w_sAppP, pinE, pin1, dropE, drop1, lendE, lentOk, ↓w_sRaise1, ↓one1_one, ↓w_sTryF, ↓w_sExt, ↓o_any2L, ↓o_any2T, ↓w_lRet, ↓w_lSeq, ↓w_runFL, ↓w_lCallF, ↓w_lRep, ↓o_repL, ↓w_iRevG, ↓o_revIL, ↓o_revIT, ↓o_plusT, ↓o_plusS, ↓o_repS, ↓o_enumL, ↓o_enumT, ↓w_lComp2, ↓w_capL, ↓w_comp2N, ↓w_comp2C, enumD_nil, enumD_cons, fldOf, Er.cls, ↓wR_ok, ↓wR_err, ↓wR_bind, ↓wR_of, ↓wO_some, ↓wO_map, ↓wO_bind, ↓w_var0, ↓w_varS, ↓w_eC, ↓w_e1, ↓w_l1, ↓w_e2, ↓w_l2, ↓w_b1, ↓w_b2, ↓w_eB, ↓w_eF, ↓w_lF, ↓w_eCall, ↓w_eLst, ↓w_aNil, ↓w_aCons, ↓w_eTup, ↓w_lDisp, ↓w_eIf, ↓w_bAnd, ↓w_bOr, ↓w_bNot, ↓w_bYes, ↓w_bChain, ↓w_eAnd, ↓w_eOr, ↓w_iAny, ↓w_oNone, ↓w_oSomeC, ↓w_eSl, ↓w_lSlG, ↓w_lComp, ↓w_sSeq, ↓w_sNil, ↓w_sBreak, ↓w_sCont, ↓w_sSet, ↓w_sSetL, ↓w_sExpr, ↓w_sRet, ↓w_sRetN, ↓w_sIf, ↓w_own0, ↓w_ownS, ↓w_sRetO, ↓w_sApp, ↓w_sSetIx, ↓w_sFrz, ↓w_sThen, ↓w_sRaise, ↓w_sAsg, ↓w_sFor, ↓w_sTry, ↓t_name, ↓t_nil, ↓t_cons, ↓o_plus, ↓o_plusL, ↓o_lAdd, ↓o_sub, ↓o_neg, ↓o_mul, ↓o_fdiv, ↓o_mod, ↓o_pow, ↓o_lt, ↓o_le, ↓o_gt, ↓o_ge, ↓o_eq, ↓o_ne, ↓o_truthB, ↓o_truthI, ↓o_truthN, ↓o_truthL, ↓o_truthT, ↓o_truthS, ↓o_notB, ↓o_isNN, ↓o_isBT, ↓o_isBF, ↓o_isT, ↓o_isIB, ↓o_isSB, ↓o_isLB, ↓o_isTB, ↓o_isNB, ↓o_isNot, ↓o_lenL, ↓o_lenT, ↓o_lenS, ↓o_abs, ↓o_intI, ↓o_intB, ↓o_str, ↓o_gcd, ↓o_list, ↓o_listT, ↓o_tuple, ↓o_tupleT, ↓o_rev, ↓o_type, ↓o_isi, ↓o_isi2, ↓o_rg1, ↓o_rg2, ↓o_zip, ↓o_zipT, ↓o_itemsL, ↓o_itemsT, ↓o_ixL, ↓o_ixT, ↓o_at0, ↓o_at1, ↓o_at2, ↓o_at3, ↓o_at4, ↓o_at5, ↓o_at6, ↓o_at7, ↓o_at8, ↓o_at9, ↓o_at10, ↓o_at11, ↓o_at12, ↓o_at13, ↓o_at14, ↓o_at15, ↓w_eIxO, ↓t_tup1, ↓t_tup2, ↓t_tup3, ↓w_okOnly, ↓w_compN, ↓w_compC, ↓o_all, ↓o_any, ↓bls_nil, ↓bls_cons, ↓o_minL, ↓o_maxL, ↓o_sumL, ↓ints_nil, ↓ints_cons, ↓o_min3, ↓o_max3, ↓o_slL, ↓o_slT, ↓w_eBor, ↓w_bBor, o_isN, w_runF, tyName, isSubTy, tyNames, List.getElem?_cons_zero, List.getElem?_cons_succ, List.set_cons_zero, List.set_cons_succ, List.map_cons, List.map_nil, List.replicate_succ, List.replicate_zero, List.length_cons, List.length_nil, List.cons_append, List.nil_append, Nat.reduceAdd, Nat.reduceSub, Nat.reduceLeDiff, Nat.reduceEqDiff, ↓reduceIte, if_true, if_false, Bool.not_true, Bool.not_false, Bool.true_and, Bool.and_true, Bool.false_and, Bool.and_false, Bool.true_or, Bool.false_or, Bool.or_true, Bool.or_false, reduceCtorEq, decide_true, decide_false, beq_self_eq_true, List.mem_cons, true_or, or_true, true_and, and_true, false_and, and_false, or_false, false_or, String.reduceEq, String.reduceBEq, List.not_mem_nil, Bool.not_eq_true, Bool.false_eq_true, eq_self, not_true_eq_false, not_false_eq_true, Bool.not_eq_eq_eq_not, decide_eq_true_eq, decide_eq_false_iff_not, bne_iff_ne, ne_eq, Int.reduceLT, Int.reduceLE, Int.reduceMul, Int.reduceAdd, Int.reduceNeg, Int.reduceToNat, Int.reducePow, Nat.reduceLT, Int.reduceEq, Int.reduceSub, zipD, List.zipWith_cons_cons, List.zipWith_nil_left, List.zipWith_nil_right, List.all_cons, List.all_nil, id_eq, scalD, borE, wipeE, noOwn, sz_0, szl_0, sz_1, szl_1, sz_2, szl_2, sz_3, szl_3, sz_4, szl_4, sz_5, szl_5, sz_6, szl_6, sz_7, szl_7, sz_8, szl_8, sz_9, szl_9, sz_10, szl_10, sz_11, szl_11, sz_12, szl_12, sz_13, szl_13, sz_14, szl_14, sz_15, szl_15, sz_16, szl_16, sz_17, szl_17, sz_18, szl_18, sz_19, szl_19, sz_20, szl_20, sz_21, szl_21, sz_22, szl_22, sz_23, szl_23, sz_24, szl_24, sz_25, szl_25, sz_26, szl_26, sz_27, szl_27, sz_28, szl_28, sz_29, szl_29, sz_30, szl_30, sz_31, szl_31, sz_32, szl_32, frz, List.all_cons, List.all_nil, b, badL]
  simp [List.lookup]
theorem between_holds {f s : List Int} (hf : Mq 8 f) (hs : Mq 8 s) (pf : 0 < LS f) (ps : 0 < LS s) {of : Int} (h2 : 1 ≤ of) (h3 : of ≤ 6) : m__law_between_holds [tI f, tI s, .int of] = .ok (.bl true) := by
  have e0 : m_between_maps [tI f, tI s, .int 0, .int of] = .ok (tI f) := by
    have k : 0 < of * LS s := Int.mul_pos (by omega) ps
    have k3 : 0 < (of * LS s) * ((of * LS s) * (of * LS s)) := Int.mul_pos k (Int.mul_pos k k)
    have q := (between_maps_ok hf.lt hs.lt pf ps (Int.le_refl 0) (show (0 : Int) ≤ of by omega) h2 (by omega)).1
    rw [BT_0 hf.len hs.len, prim_scale k, hf.prim, ME_scale _ hf.len] at q
    exact q (Int.mul_ne_zero (by omega) hf.det)
  have e1 : m_between_maps [tI f, tI s, .int of, .int of] = .ok (tI s) := by
    have k : 0 < of * LS f := Int.mul_pos (by omega) pf
    have k3 : 0 < (of * LS f) * ((of * LS f) * (of * LS f)) := Int.mul_pos k (Int.mul_pos k k)
    have q := (between_maps_ok hf.lt hs.lt pf ps (show (0 : Int) ≤ of by omega) (Int.le_refl of) h2 (by omega)).1
    rw [BT_1 hf.len hs.len, prim_scale k, hs.prim, ME_scale _ hs.len] at q
    exact q (Int.mul_ne_zero (by omega) hs.det)
  have e2 : m_between_maps [tI f, tI f, .int 1, .int (1 + of)] = .ok (tI f) := by
    have k : 0 < (1 + of) * LS f := Int.mul_pos (by omega) pf
    have k3 : 0 < ((1 + of) * LS f) * (((1 + of) * LS f) * ((1 + of) * LS f)) := Int.mul_pos k (Int.mul_pos k k)
    have q := (between_maps_ok hf.lt hf.lt pf pf (show (0 : Int) ≤ 1 by omega) (show 1 ≤ 1 + of by omega) (by omega) (by omega)).1
    rw [BT_2 hf.len, prim_scale k, hf.prim, ME_scale _ hf.len] at q
    exact q (Int.mul_ne_zero (by omega) hf.det)
  have s3 : m__law_same 40 [.lst [tI f, tI s, tI f], .lst [tI f, tI s, tI f]] = .ok (.bl true) := by
    refine same_ok 40 _ ?_
    show (decide (([tI f, tI s, tI f] : List D).length ≤ 1000000) && ([tI f, tI s, tI f] : List D).all (okS 39)) = true
    rw [List.all_cons, List.all_cons, List.all_cons, okS_tI hf.len 37, okS_tI hs.len 37]
    rfl
  have lz2 : 2 < sizeLine := by decide
  apply wR_eq
  simp only [m__law_between_holds, g__law_between_holds, ↓w_pin0, ↓w_lent0, ↓w_sPin, ↓w_sLend, ↓w_sAppP, pinE, pin1, dropE, drop1, lendE, lentOk, ↓w_sRaise1, ↓one1_one, ↓w_sTryF, ↓w_sExt, ↓o_any2L, ↓o_any2T, ↓w_lRet, ↓w_lSeq, ↓w_runFL, ↓w_lCallF, ↓w_lRep, ↓o_repL, ↓w_iRevG, ↓o_revIL, ↓o_revIT, ↓o_plusT, ↓o_plusS, ↓o_repS, ↓o_enumL, ↓o_enumT, ↓w_lComp2, ↓w_capL, ↓w_comp2N, ↓w_comp2C, enumD_nil, enumD_cons, fldOf, Er.cls, ↓wR_ok, ↓wR_err, ↓wR_bind, ↓wR_of, ↓wO_some, ↓wO_map, ↓wO_bind, ↓w_var0, ↓w_varS, ↓w_eC, ↓w_e1, ↓w_l1, ↓w_e2, ↓w_l2, ↓w_b1, ↓w_b2, ↓w_eB, ↓w_eF, ↓w_lF, ↓w_eCall, ↓w_eLst, ↓w_aNil, ↓w_aCons, ↓w_eTup, ↓w_lDisp, ↓w_eIf, ↓w_bAnd, ↓w_bOr, ↓w_bNot, ↓w_bYes, ↓w_bChain, ↓w_eAnd, ↓w_eOr, ↓w_iAny, ↓w_oNone, ↓w_oSomeC, ↓w_eSl, ↓w_lSlG, ↓w_lComp, ↓w_sSeq, ↓w_sNil, ↓w_sBreak, ↓w_sCont, ↓w_sSet, ↓w_sSetL, ↓w_sExpr, ↓w_sRet, ↓w_sRetN, ↓w_sIf, ↓w_own0, ↓w_ownS, ↓w_sRetO, ↓w_sApp, ↓w_sSetIx, ↓w_sFrz, ↓w_sThen, ↓w_sRaise, ↓w_sAsg, ↓w_sFor, ↓w_sTry, ↓t_name, ↓t_nil, ↓t_cons, ↓o_plus, ↓o_plusL, ↓o_lAdd, ↓o_sub, ↓o_neg, ↓o_mul, ↓o_fdiv, ↓o_mod, ↓o_pow, ↓o_lt, ↓o_le, ↓o_gt, ↓o_ge, ↓o_eq, ↓o_ne, ↓o_truthB, ↓o_truthI, ↓o_truthN, ↓o_truthL, ↓o_truthT, ↓o_truthS, ↓o_notB, ↓o_isNN, ↓o_isBT, ↓o_isBF, ↓o_isT, ↓o_isIB, ↓o_isSB, ↓o_isLB, ↓o_isTB, ↓o_isNB, ↓o_isNot, ↓o_lenL, ↓o_lenT, ↓o_lenS, ↓o_abs, ↓o_intI, ↓o_intB, ↓o_str, ↓o_gcd, ↓o_list, ↓o_listT, ↓o_tuple, ↓o_tupleT, ↓o_rev, ↓o_type, ↓o_isi, ↓o_isi2, ↓o_rg1, ↓o_rg2, ↓o_zip, ↓o_zipT, ↓o_itemsL, ↓o_itemsT, ↓o_ixL, ↓o_ixT, ↓o_at0, ↓o_at1, ↓o_at2, ↓o_at3, ↓o_at4, ↓o_at5, ↓o_at6, ↓o_at7, ↓o_at8, ↓o_at9, ↓o_at10, ↓o_at11, ↓o_at12, ↓o_at13, ↓o_at14, ↓o_at15, ↓w_eIxO, ↓t_tup1, ↓t_tup2, ↓t_tup3, ↓w_okOnly, ↓w_compN, ↓w_compC, ↓o_all, ↓o_any, ↓bls_nil, ↓bls_cons, ↓o_minL, ↓o_maxL, ↓o_sumL, ↓ints_nil, ↓ints_cons, ↓o_min3, ↓o_max3, ↓o_slL, ↓o_slT, ↓w_eBor, ↓w_bBor, o_isN, w_runF, tyName, isSubTy, tyNames, List.getElem?_cons_zero, List.getElem?_cons_succ, List.set_cons_zero, List.set_cons_succ, List.map_cons, List.map_nil, List.replicate_succ, List.replicate_zero, List.length_cons, List.length_nil, List.cons_append, List.nil_append, Nat.reduceAdd, Nat.reduceSub, Nat.reduceLeDiff, Nat.reduceEqDiff, ↓reduceIte, if_true, if_false, Bool.not_true, Bool.not_false, Bool.true_and, Bool.and_true, Bool.false_and, Bool.and_false, Bool.true_or, Bool.false_or, Bool.or_true, Bool.or_false, reduceCtorEq, decide_true, decide_false, beq_self_eq_true, List.mem_cons, true_or, or_true, true_and, and_true, false_and, and_false, or_false, false_or, String.reduceEq, String.reduceBEq, List.not_mem_nil, Bool.not_eq_true, Bool.false_eq_true, eq_self, not_true_eq_false, not_false_eq_true, Bool.not_eq_eq_eq_not, decide_eq_true_eq, decide_eq_false_iff_not, bne_iff_ne, ne_eq, Int.reduceLT, Int.reduceLE, Int.reduceMul, Int.reduceAdd, Int.reduceNeg, Int.reduceToNat, Int.reducePow, Nat.reduceLT, Int.reduceEq, Int.reduceSub, zipD, List.zipWith_cons_cons, List.zipWith_nil_left, List.zipWith_nil_right, List.all_cons, List.all_nil, id_eq, scalD, borE, wipeE, noOwn, sz_0, szl_0, sz_1, szl_1, sz_2, szl_2, sz_3, szl_3, sz_4, szl_4, sz_5, szl_5, sz_6, szl_6, sz_7, szl_7, sz_8, szl_8, sz_9, szl_9, sz_10, szl_10, sz_11, szl_11, sz_12, szl_12, sz_13, szl_13, sz_14, szl_14, sz_15, szl_15, sz_16, szl_16, sz_17, szl_17, sz_18, szl_18, sz_19, szl_19, sz_20, szl_20, sz_21, szl_21, sz_22, szl_22, sz_23, szl_23, sz_24, szl_24, sz_25, szl_25, sz_26, szl_26, sz_27, szl_27, sz_28, szl_28, sz_29, szl_29, sz_30, szl_30, sz_31, szl_31, sz_32, szl_32, frz, List.all_cons, List.all_nil]
  refine ⟨by omega, ?_⟩
  refine w_forP (fun e => ∃ x3 x4 x5, e = [.val (tI f), .val (tI s), .val (.int of), x3, x4, x5]) ⟨_, _, _, rfl⟩ ?_ ?_
  · rintro d hd env ⟨x3, x4, x5, rfl⟩
    obtain ⟨i, hi, rfl⟩ := List.mem_map.mp hd
    have hi := List.mem_range.mp hi
    have hi2 : (i : Int) ≤ of := by omega
    rw [t_name]
    simp only [List.set_cons_succ, List.set_cons_zero, Int.zero_add]
    have ll := BT_len hf.len hs.len (i : Int) of
    have b1 := (between_maps_ok hf.lt hs.lt pf ps (show (0 : Int) ≤ (i : Int) by omega) hi2 h2 (by omega)).2.2
    have b2 := berr_ok hf.lt hs.lt pf ps (show (0 : Int) ≤ (i : Int) by omega) hi2 h2 (by omega)
    have b3 := berr_ok hs.lt hf.lt ps pf (show (0 : Int) ≤ of - (i : Int) by omega) (show of - (i : Int) ≤ of by omega) h2 (by omega)
    rw [BT_swap hf.len hs.len] at b3
    have b4 := berr_ok hf.lt hs.lt pf ps (show (0 : Int) ≤ 3 * (i : Int) by omega) (show 3 * (i : Int) ≤ 3 * of by omega) (by omega) (by omega)
    rw [BT_k hf.len hs.len, BR_k (by decide) ll] at b4
    have sa := same_BR3 ll
    have t3 : Sm 3 := Sm.lt (by decide) (by decide)
    have ti : Sm (i : Int) := Sm.lt (by omega) (by omega)
    have to : Sm of := Sm.lt (by omega) (by omega)
    simp only [b__law_between_holds_1, ↓w_pin0, ↓w_lent0, ↓w_sPin, ↓w_sLend, ↓w_sAppP, pinE, pin1, dropE, drop1, lendE, lentOk, ↓w_sRaise1, ↓one1_one, ↓w_sTryF, ↓w_sExt, ↓o_any2L, ↓o_any2T, ↓w_lRet, ↓w_lSeq, ↓w_runFL, ↓w_lCallF, ↓w_lRep, ↓o_repL, ↓w_iRevG, ↓o_revIL, ↓o_revIT, ↓o_plusT, ↓o_plusS, ↓o_repS, ↓o_enumL, ↓o_enumT, ↓w_lComp2, ↓w_capL, ↓w_comp2N, ↓w_comp2C, enumD_nil, enumD_cons, fldOf, Er.cls, ↓wR_ok, ↓wR_err, ↓wR_bind, ↓wR_of, ↓wO_some, ↓wO_map, ↓wO_bind, ↓w_var0, ↓w_varS, ↓w_eC, ↓w_e1, ↓w_l1, ↓w_e2, ↓w_l2, ↓w_b1, ↓w_b2, ↓w_eB, ↓w_eF, ↓w_lF, ↓w_eCall, ↓w_eLst, ↓w_aNil, ↓w_aCons, ↓w_eTup, ↓w_lDisp, ↓w_eIf, ↓w_bAnd, ↓w_bOr, ↓w_bNot, ↓w_bYes, ↓w_bChain, ↓w_eAnd, ↓w_eOr, ↓w_iAny, ↓w_oNone, ↓w_oSomeC, ↓w_eSl, ↓w_lSlG, ↓w_lComp, ↓w_sSeq, ↓w_sNil, ↓w_sBreak, ↓w_sCont, ↓w_sSet, ↓w_sSetL, ↓w_sExpr, ↓w_sRet, ↓w_sRetN, ↓w_sIf, ↓w_own0, ↓w_ownS, ↓w_sRetO, ↓w_sApp, ↓w_sSetIx, ↓w_sFrz, ↓w_sThen, ↓w_sRaise, ↓w_sAsg, ↓w_sFor, ↓w_sTry, ↓t_name, ↓t_nil, ↓t_cons, ↓o_plus, ↓o_plusL, ↓o_lAdd, ↓o_sub, ↓o_neg, ↓o_mul, ↓o_fdiv, ↓o_mod, ↓o_pow, ↓o_lt, ↓o_le, ↓o_gt, ↓o_ge, ↓o_eq, ↓o_ne, ↓o_truthB, ↓o_truthI, ↓o_truthN, ↓o_truthL, ↓o_truthT, ↓o_truthS, ↓o_notB, ↓o_isNN, ↓o_isBT, ↓o_isBF, ↓o_isT, ↓o_isIB, ↓o_isSB, ↓o_isLB, ↓o_isTB, ↓o_isNB, ↓o_isNot, ↓o_lenL, ↓o_lenT, ↓o_lenS, ↓o_abs, ↓o_intI, ↓o_intB, ↓o_str, ↓o_gcd, ↓o_list, ↓o_listT, ↓o_tuple, ↓o_tupleT, ↓o_rev, ↓o_type, ↓o_isi, ↓o_isi2, ↓o_rg1, ↓o_rg2, ↓o_zip, ↓o_zipT, ↓o_itemsL, ↓o_itemsT, ↓o_ixL, ↓o_ixT, ↓o_at0, ↓o_at1, ↓o_at2, ↓o_at3, ↓o_at4, ↓o_at5, ↓o_at6, ↓o_at7, ↓o_at8, ↓o_at9, ↓o_at10, ↓o_at11, ↓o_at12, ↓o_at13, ↓o_at14, ↓o_at15, ↓w_eIxO, ↓t_tup1, ↓t_tup2, ↓t_tup3, ↓w_okOnly, ↓w_compN, ↓w_compC, ↓o_all, ↓o_any, ↓bls_nil, ↓bls_cons, ↓o_minL, ↓o_maxL, ↓o_sumL, ↓ints_nil, ↓ints_cons, ↓o_min3, ↓o_max3, ↓o_slL, ↓o_slT, ↓w_eBor, ↓w_bBor, o_isN, w_runF, tyName, isSubTy, tyNames, List.getElem?_cons_zero, List.getElem?_cons_succ, List.set_cons_zero, List.set_cons_succ, List.map_cons, List.map_nil, List.replicate_succ, List.replicate_zero, List.length_cons, List.length_nil, List.cons_append, List.nil_append, Nat.reduceAdd, Nat.reduceSub, Nat.reduceLeDiff, Nat.reduceEqDiff, ↓reduceIte, if_true, if_false, Bool.not_true, Bool.not_false, Bool.true_and, Bool.and_true, Bool.false_and, Bool.and_false, Bool.true_or, Bool.false_or, Bool.or_true, Bool.or_false, reduceCtorEq, decide_true, decide_false, beq_self_eq_true, List.mem_cons, true_or, or_true, true_and, and_true, false_and, and_false, or_false, false_or, String.reduceEq, String.reduceBEq, List.not_mem_nil, Bool.not_eq_true, Bool.false_eq_true, eq_self, not_true_eq_false, not_false_eq_true, Bool.not_eq_eq_eq_not, decide_eq_true_eq, decide_eq_false_iff_not, bne_iff_ne, ne_eq, Int.reduceLT, Int.reduceLE, Int.reduceMul, Int.reduceAdd, Int.reduceNeg, Int.reduceToNat, Int.reducePow, Nat.reduceLT, Int.reduceEq, Int.reduceSub, zipD, List.zipWith_cons_cons, List.zipWith_nil_left, List.zipWith_nil_right, List.all_cons, List.all_nil, id_eq, scalD, borE, wipeE, noOwn, sz_0, szl_0, sz_1, szl_1, sz_2, szl_2, sz_3, szl_3, sz_4, szl_4, sz_5, szl_5, sz_6, szl_6, sz_7, szl_7, sz_8, szl_8, sz_9, szl_9, sz_10, szl_10, sz_11, szl_11, sz_12, szl_12, sz_13, szl_13, sz_14, szl_14, sz_15, szl_15, sz_16, szl_16, sz_17, szl_17, sz_18, szl_18, sz_19, szl_19, sz_20, szl_20, sz_21, szl_21, sz_22, szl_22, sz_23, szl_23, sz_24, szl_24, sz_25, szl_25, sz_26, szl_26, sz_27, szl_27, sz_28, szl_28, sz_29, szl_29, sz_30, szl_30, sz_31, szl_31, sz_32, szl_32, frz, List.all_cons, List.all_nil, b1, b2, b3, b4, t3, ti, to, sa]
    exact ⟨_, _, _, rfl⟩
  · rintro env ⟨x3, x4, x5, rfl⟩
    simp only [r__law_between_holds_2, ↓w_pin0, ↓w_lent0, ↓w_sPin, ↓w_sLend, ↓w_sAppP, pinE, pin1, dropE, drop1, lendE, lentOk, ↓w_sRaise1, ↓one1_one, ↓w_sTryF, ↓w_sExt, ↓o_any2L, ↓o_any2T, ↓w_lRet, ↓w_lSeq, ↓w_runFL, ↓w_lCallF, ↓w_lRep, ↓o_repL, ↓w_iRevG, ↓o_revIL, ↓o_revIT, ↓o_plusT, ↓o_plusS, ↓o_repS, ↓o_enumL, ↓o_enumT, ↓w_lComp2, ↓w_capL, ↓w_comp2N, ↓w_comp2C, enumD_nil, enumD_cons, fldOf, Er.cls, ↓wR_ok, ↓wR_err, ↓wR_bind, ↓wR_of, ↓wO_some, ↓wO_map, ↓wO_bind, ↓w_var0, ↓w_varS, ↓w_eC, ↓w_e1, ↓w_l1, ↓w_e2, ↓w_l2, ↓w_b1, ↓w_b2, ↓w_eB, ↓w_eF, ↓w_lF, ↓w_eCall, ↓w_eLst, ↓w_aNil, ↓w_aCons, ↓w_eTup, ↓w_lDisp, ↓w_eIf, ↓w_bAnd, ↓w_bOr, ↓w_bNot, ↓w_bYes, ↓w_bChain, ↓w_eAnd, ↓w_eOr, ↓w_iAny, ↓w_oNone, ↓w_oSomeC, ↓w_eSl, ↓w_lSlG, ↓w_lComp, ↓w_sSeq, ↓w_sNil, ↓w_sBreak, ↓w_sCont, ↓w_sSet, ↓w_sSetL, ↓w_sExpr, ↓w_sRet, ↓w_sRetN, ↓w_sIf, ↓w_own0, ↓w_ownS, ↓w_sRetO, ↓w_sApp, ↓w_sSetIx, ↓w_sFrz, ↓w_sThen, ↓w_sRaise, ↓w_sAsg, ↓w_sFor, ↓w_sTry, ↓t_name, ↓t_nil, ↓t_cons, ↓o_plus, ↓o_plusL, ↓o_lAdd, ↓o_sub, ↓o_neg, ↓o_mul, ↓o_fdiv, ↓o_mod, ↓o_pow, ↓o_lt, ↓o_le, ↓o_gt, ↓o_ge, ↓o_eq, ↓o_ne, ↓o_truthB, ↓o_truthI, ↓o_truthN, ↓o_truthL, ↓o_truthT, ↓o_truthS, ↓o_notB, ↓o_isNN, ↓o_isBT, ↓o_isBF, ↓o_isT, ↓o_isIB, ↓o_isSB, ↓o_isLB, ↓o_isTB, ↓o_isNB, ↓o_isNot, ↓o_lenL, ↓o_lenT, ↓o_lenS, ↓o_abs, ↓o_intI, ↓o_intB, ↓o_str, ↓o_gcd, ↓o_list, ↓o_listT, ↓o_tuple, ↓o_tupleT, ↓o_rev, ↓o_type, ↓o_isi, ↓o_isi2, ↓o_rg1, ↓o_rg2, ↓o_zip, ↓o_zipT, ↓o_itemsL, ↓o_itemsT, ↓o_ixL, ↓o_ixT, ↓o_at0, ↓o_at1, ↓o_at2, ↓o_at3, ↓o_at4, ↓o_at5, ↓o_at6, ↓o_at7, ↓o_at8, ↓o_at9, ↓o_at10, ↓o_at11, ↓o_at12, ↓o_at13, ↓o_at14, ↓o_at15, ↓w_eIxO, ↓t_tup1, ↓t_tup2, ↓t_tup3, ↓w_okOnly, ↓w_compN, ↓w_compC, ↓o_all, ↓o_any, ↓bls_nil, ↓bls_cons, ↓o_minL, ↓o_maxL, ↓o_sumL, ↓ints_nil, ↓ints_cons, ↓o_min3, ↓o_max3, ↓o_slL, ↓o_slT, ↓w_eBor, ↓w_bBor, o_isN, w_runF, tyName, isSubTy, tyNames, List.getElem?_cons_zero, List.getElem?_cons_succ, List.set_cons_zero, List.set_cons_succ, List.map_cons, List.map_nil, List.replicate_succ, List.replicate_zero, List.length_cons, List.length_nil, List.cons_append, List.nil_append, Nat.reduceAdd, Nat.reduceSub, Nat.reduceLeDiff, Nat.reduceEqDiff, ↓reduceIte, if_true, if_false, Bool.not_true, Bool.not_false, Bool.true_and, Bool.and_true, Bool.false_and, Bool.and_false, Bool.true_or, Bool.false_or, Bool.or_true, Bool.or_false, reduceCtorEq, decide_true, decide_false, beq_self_eq_true, List.mem_cons, true_or, or_true, true_and, and_true, false_and, and_false, or_false, false_or, String.reduceEq, String.reduceBEq, List.not_mem_nil, Bool.not_eq_true, Bool.false_eq_true, eq_self, not_true_eq_false, not_false_eq_true, Bool.not_eq_eq_eq_not, decide_eq_true_eq, decide_eq_false_iff_not, bne_iff_ne, ne_eq, Int.reduceLT, Int.reduceLE, Int.reduceMul, Int.reduceAdd, Int.reduceNeg, Int.reduceToNat, Int.reducePow, Nat.reduceLT, Int.reduceEq, Int.reduceSub, zipD, List.zipWith_cons_cons, List.zipWith_nil_left, List.zipWith_nil_right, List.all_cons, List.all_nil, id_eq, scalD, borE, wipeE, noOwn, sz_0, szl_0, sz_1, szl_1, sz_2, szl_2, sz_3, szl_3, sz_4, szl_4, sz_5, szl_5, sz_6, szl_6, sz_7, szl_7, sz_8, szl_8, sz_9, szl_9, sz_10, szl_10, sz_11, szl_11, sz_12, szl_12, sz_13, szl_13, sz_14, szl_14, sz_15, szl_15, sz_16, szl_16, sz_17, szl_17, sz_18, szl_18, sz_19, szl_19, sz_20, szl_20, sz_21, szl_21, sz_22, szl_22, sz_23, szl_23, sz_24, szl_24, sz_25, szl_25, sz_26, szl_26, sz_27, szl_27, sz_28, szl_28, sz_29, szl_29, sz_30, szl_30, sz_31, szl_31, sz_32, szl_32, frz, List.all_cons, List.all_nil, e0, e1, e2, s3]
end AF

namespace AF
open PySem PySem.Spec PyProof.Rows L2
/-! ### what is refused -/
theorem terr {d e : D} {s : List Nat} (h : m_track [d, e] = .err (.one "BadMap" "reason" (.str s))) : m__law_track_error [d, e] = .ok (.str s) := by
  apply wR_eq
  simp only [m__law_track_error, g__law_track_error, cat_BadMap_l, ↓w_pin0, ↓w_lent0, ↓w_sPin, ↓w_sLend, ↓w_sAppP, pinE, pin1, dropE, drop1, lendE, lentOk, ↓w_sRaise1, ↓one1_one, ↓w_sTryF, ↓w_sExt, ↓o_any2L, ↓o_any2T, ↓w_lRet, ↓w_lSeq, ↓w_runFL, ↓w_lCallF, ↓w_lRep, ↓o_repL, ↓w_iRevG, ↓o_revIL, ↓o_revIT, ↓o_plusT, ↓o_plusS, ↓o_repS, ↓o_enumL, ↓o_enumT, ↓w_lComp2, ↓w_capL, ↓w_comp2N, ↓w_comp2C, enumD_nil, enumD_cons, fldOf, Er.cls, ↓wR_ok, ↓wR_err, ↓wR_bind, ↓wR_of, ↓wO_some, ↓wO_map, ↓wO_bind, ↓w_var0, ↓w_varS, ↓w_eC, ↓w_e1, ↓w_l1, ↓w_e2, ↓w_l2, ↓w_b1, ↓w_b2, ↓w_eB, ↓w_eF, ↓w_lF, ↓w_eCall, ↓w_eLst, ↓w_aNil, ↓w_aCons, ↓w_eTup, ↓w_lDisp, ↓w_eIf, ↓w_bAnd, ↓w_bOr, ↓w_bNot, ↓w_bYes, ↓w_bChain, ↓w_eAnd, ↓w_eOr, ↓w_iAny, ↓w_oNone, ↓w_oSomeC, ↓w_eSl, ↓w_lSlG, ↓w_lComp, ↓w_sSeq, ↓w_sNil, ↓w_sBreak, ↓w_sCont, ↓w_sSet, ↓w_sSetL, ↓w_sExpr, ↓w_sRet, ↓w_sRetN, ↓w_sIf, ↓w_own0, ↓w_ownS, ↓w_sRetO, ↓w_sApp, ↓w_sSetIx, ↓w_sFrz, ↓w_sThen, ↓w_sRaise, ↓w_sAsg, ↓w_sFor, ↓w_sTry, ↓t_name, ↓t_nil, ↓t_cons, ↓o_plus, ↓o_plusL, ↓o_lAdd, ↓o_sub, ↓o_neg, ↓o_mul, ↓o_fdiv, ↓o_mod, ↓o_pow, ↓o_lt, ↓o_le, ↓o_gt, ↓o_ge, ↓o_eq, ↓o_ne, ↓o_truthB, ↓o_truthI, ↓o_truthN, ↓o_truthL, ↓o_truthT, ↓o_truthS, ↓o_notB, ↓o_isNN, ↓o_isBT, ↓o_isBF, ↓o_isT, ↓o_isIB, ↓o_isSB, ↓o_isLB, ↓o_isTB, ↓o_isNB, ↓o_isNot, ↓o_lenL, ↓o_lenT, ↓o_lenS, ↓o_abs, ↓o_intI, ↓o_intB, ↓o_str, ↓o_gcd, ↓o_list, ↓o_listT, ↓o_tuple, ↓o_tupleT, ↓o_rev, ↓o_type, ↓o_isi, ↓o_isi2, ↓o_rg1, ↓o_rg2, ↓o_zip, ↓o_zipT, ↓o_itemsL, ↓o_itemsT, ↓o_ixL, ↓o_ixT, ↓o_at0, ↓o_at1, ↓o_at2, ↓o_at3, ↓o_at4, ↓o_at5, ↓o_at6, ↓o_at7, ↓o_at8, ↓o_at9, ↓o_at10, ↓o_at11, ↓o_at12, ↓o_at13, ↓o_at14, ↓o_at15, ↓w_eIxO, ↓t_tup1, ↓t_tup2, ↓t_tup3, ↓w_okOnly, ↓w_compN, ↓w_compC, ↓o_all, ↓o_any, ↓bls_nil, ↓bls_cons, ↓o_minL, ↓o_maxL, ↓o_sumL, ↓ints_nil, ↓ints_cons, ↓o_min3, ↓o_max3, ↓o_slL, ↓o_slT, ↓w_eBor, ↓w_bBor, o_isN, w_runF, tyName, isSubTy, tyNames, List.getElem?_cons_zero, List.getElem?_cons_succ, List.set_cons_zero, List.set_cons_succ, List.map_cons, List.map_nil, List.replicate_succ, List.replicate_zero, List.length_cons, List.length_nil, List.cons_append, List.nil_append, Nat.reduceAdd, Nat.reduceSub, Nat.reduceLeDiff, Nat.reduceEqDiff, ↓reduceIte, if_true, if_false, Bool.not_true, Bool.not_false, Bool.true_and, Bool.and_true, Bool.false_and, Bool.and_false, Bool.true_or, Bool.false_or, Bool.or_true, Bool.or_false, reduceCtorEq, decide_true, decide_false, beq_self_eq_true, List.mem_cons, true_or, or_true, true_and, and_true, false_and, and_false, or_false, false_or, String.reduceEq, String.reduceBEq, List.not_mem_nil, Bool.not_eq_true, Bool.false_eq_true, eq_self, not_true_eq_false, not_false_eq_true, Bool.not_eq_eq_eq_not, decide_eq_true_eq, decide_eq_false_iff_not, bne_iff_ne, ne_eq, Int.reduceLT, Int.reduceLE, Int.reduceMul, Int.reduceAdd, Int.reduceNeg, Int.reduceToNat, Int.reducePow, Nat.reduceLT, Int.reduceEq, Int.reduceSub, zipD, List.zipWith_cons_cons, List.zipWith_nil_left, List.zipWith_nil_right, List.all_cons, List.all_nil, id_eq, scalD, borE, wipeE, noOwn, sz_0, szl_0, sz_1, szl_1, sz_2, szl_2, sz_3, szl_3, sz_4, szl_4, sz_5, szl_5, sz_6, szl_6, sz_7, szl_7, sz_8, szl_8, sz_9, szl_9, sz_10, szl_10, sz_11, szl_11, sz_12, szl_12, sz_13, szl_13, sz_14, szl_14, sz_15, szl_15, sz_16, szl_16, sz_17, szl_17, sz_18, szl_18, sz_19, szl_19, sz_20, szl_20, sz_21, szl_21, sz_22, szl_22, sz_23, szl_23, sz_24, szl_24, sz_25, szl_25, sz_26, szl_26, sz_27, szl_27, sz_28, szl_28, sz_29, szl_29, sz_30, szl_30, sz_31, szl_31, sz_32, szl_32, frz, List.all_cons, List.all_nil, h]
  simp [List.lookup]
theorem terr_ok {d e x : D} (h : m_track [d, e] = .ok x) : m__law_track_error [d, e] = .ok (.lst [x]) := by
  apply wR_eq
  simp only [m__law_track_error, g__law_track_error, cat_BadMap_l, ↓w_pin0, ↓w_lent0, ↓w_sPin, ↓w_sLend, ↓w_sAppP, pinE, pin1, dropE, drop1, lendE, lentOk, ↓w_sRaise1, ↓one1_one, ↓w_sTryF, ↓w_sExt, ↓o_any2L, ↓o_any2T, ↓w_lRet, ↓w_lSeq, ↓w_runFL, ↓w_lCallF, ↓w_lRep, ↓o_repL, ↓w_iRevG, ↓o_revIL, ↓o_revIT, ↓o_plusT, ↓o_plusS, ↓o_repS, ↓o_enumL, ↓o_enumT, ↓w_lComp2, ↓w_capL, ↓w_comp2N, ↓w_comp2C, enumD_nil, enumD_cons, fldOf, Er.cls, ↓wR_ok, ↓wR_err, ↓wR_bind, ↓wR_of, ↓wO_some, ↓wO_map, ↓wO_bind, ↓w_var0, ↓w_varS, ↓w_eC, ↓w_e1, ↓w_l1, ↓w_e2, ↓w_l2, ↓w_b1, ↓w_b2, ↓w_eB, ↓w_eF, ↓w_lF, ↓w_eCall, ↓w_eLst, ↓w_aNil, ↓w_aCons, ↓w_eTup, ↓w_lDisp, ↓w_eIf, ↓w_bAnd, ↓w_bOr, ↓w_bNot, ↓w_bYes, ↓w_bChain, ↓w_eAnd, ↓w_eOr, ↓w_iAny, ↓w_oNone, ↓w_oSomeC, ↓w_eSl, ↓w_lSlG, ↓w_lComp, ↓w_sSeq, ↓w_sNil, ↓w_sBreak, ↓w_sCont, ↓w_sSet, ↓w_sSetL, ↓w_sExpr, ↓w_sRet, ↓w_sRetN, ↓w_sIf, ↓w_own0, ↓w_ownS, ↓w_sRetO, ↓w_sApp, ↓w_sSetIx, ↓w_sFrz, ↓w_sThen, ↓w_sRaise, ↓w_sAsg, ↓w_sFor, ↓w_sTry, ↓t_name, ↓t_nil, ↓t_cons, ↓o_plus, ↓o_plusL, ↓o_lAdd, ↓o_sub, ↓o_neg, ↓o_mul, ↓o_fdiv, ↓o_mod, ↓o_pow, ↓o_lt, ↓o_le, ↓o_gt, ↓o_ge, ↓o_eq, ↓o_ne, ↓o_truthB, ↓o_truthI, ↓o_truthN, ↓o_truthL, ↓o_truthT, ↓o_truthS, ↓o_notB, ↓o_isNN, ↓o_isBT, ↓o_isBF, ↓o_isT, ↓o_isIB, ↓o_isSB, ↓o_isLB, ↓o_isTB, ↓o_isNB, ↓o_isNot, ↓o_lenL, ↓o_lenT, ↓o_lenS, ↓o_abs, ↓o_intI, ↓o_intB, ↓o_str, ↓o_gcd, ↓o_list, ↓o_listT, ↓o_tuple, ↓o_tupleT, ↓o_rev, ↓o_type, ↓o_isi, ↓o_isi2, ↓o_rg1, ↓o_rg2, ↓o_zip, ↓o_zipT, ↓o_itemsL, ↓o_itemsT, ↓o_ixL, ↓o_ixT, ↓o_at0, ↓o_at1, ↓o_at2, ↓o_at3, ↓o_at4, ↓o_at5, ↓o_at6, ↓o_at7, ↓o_at8, ↓o_at9, ↓o_at10, ↓o_at11, ↓o_at12, ↓o_at13, ↓o_at14, ↓o_at15, ↓w_eIxO, ↓t_tup1, ↓t_tup2, ↓t_tup3, ↓w_okOnly, ↓w_compN, ↓w_compC, ↓o_all, ↓o_any, ↓bls_nil, ↓bls_cons, ↓o_minL, ↓o_maxL, ↓o_sumL, ↓ints_nil, ↓ints_cons, ↓o_min3, ↓o_max3, ↓o_slL, ↓o_slT, ↓w_eBor, ↓w_bBor, o_isN, w_runF, tyName, isSubTy, tyNames, List.getElem?_cons_zero, List.getElem?_cons_succ, List.set_cons_zero, List.set_cons_succ, List.map_cons, List.map_nil, List.replicate_succ, List.replicate_zero, List.length_cons, List.length_nil, List.cons_append, List.nil_append, Nat.reduceAdd, Nat.reduceSub, Nat.reduceLeDiff, Nat.reduceEqDiff, ↓reduceIte, if_true, if_false, Bool.not_true, Bool.not_false, Bool.true_and, Bool.and_true, Bool.false_and, Bool.and_false, Bool.true_or, Bool.false_or, Bool.or_true, Bool.or_false, reduceCtorEq, decide_true, decide_false, beq_self_eq_true, List.mem_cons, true_or, or_true, true_and, and_true, false_and, and_false, or_false, false_or, String.reduceEq, String.reduceBEq, List.not_mem_nil, Bool.not_eq_true, Bool.false_eq_true, eq_self, not_true_eq_false, not_false_eq_true, Bool.not_eq_eq_eq_not, decide_eq_true_eq, decide_eq_false_iff_not, bne_iff_ne, ne_eq, Int.reduceLT, Int.reduceLE, Int.reduceMul, Int.reduceAdd, Int.reduceNeg, Int.reduceToNat, Int.reducePow, Nat.reduceLT, Int.reduceEq, Int.reduceSub, zipD, List.zipWith_cons_cons, List.zipWith_nil_left, List.zipWith_nil_right, List.all_cons, List.all_nil, id_eq, scalD, borE, wipeE, noOwn, sz_0, szl_0, sz_1, szl_1, sz_2, szl_2, sz_3, szl_3, sz_4, szl_4, sz_5, szl_5, sz_6, szl_6, sz_7, szl_7, sz_8, szl_8, sz_9, szl_9, sz_10, szl_10, sz_11, szl_11, sz_12, szl_12, sz_13, szl_13, sz_14, szl_14, sz_15, szl_15, sz_16, szl_16, sz_17, szl_17, sz_18, szl_18, sz_19, szl_19, sz_20, szl_20, sz_21, szl_21, sz_22, szl_22, sz_23, szl_23, sz_24, szl_24, sz_25, szl_25, sz_26, szl_26, sz_27, szl_27, sz_28, szl_28, sz_29, szl_29, sz_30, szl_30, sz_31, szl_31, sz_32, szl_32, frz, List.all_cons, List.all_nil, h]
theorem serr {e : D} (h : m_check_steps [e] = .err badS) : m__law_steps_error [e] = .ok (.str [115, 116, 101, 112, 115]) := by
  have h2 : m_steps_between [e] = .err badS := by
    apply wR_errE
    simp only [m_steps_between, g_steps_between, ↓w_pin0, ↓w_lent0, ↓w_sPin, ↓w_sLend, ↓w_sAppP, pinE, pin1, dropE, drop1, lendE, lentOk, ↓w_sRaise1, ↓one1_one, ↓w_sTryF, ↓w_sExt, ↓o_any2L, ↓o_any2T, ↓w_lRet, ↓w_lSeq, ↓w_runFL, ↓w_lCallF, ↓w_lRep, ↓o_repL, ↓w_iRevG, ↓o_revIL, ↓o_revIT, ↓o_plusT, ↓o_plusS, ↓o_repS, ↓o_enumL, ↓o_enumT, ↓w_lComp2, ↓w_capL, ↓w_comp2N, ↓w_comp2C, enumD_nil, enumD_cons, fldOf, Er.cls, ↓wR_ok, ↓wR_err, ↓wR_bind, ↓wR_of, ↓wO_some, ↓wO_map, ↓wO_bind, ↓w_var0, ↓w_varS, ↓w_eC, ↓w_e1, ↓w_l1, ↓w_e2, ↓w_l2, ↓w_b1, ↓w_b2, ↓w_eB, ↓w_eF, ↓w_lF, ↓w_eCall, ↓w_eLst, ↓w_aNil, ↓w_aCons, ↓w_eTup, ↓w_lDisp, ↓w_eIf, ↓w_bAnd, ↓w_bOr, ↓w_bNot, ↓w_bYes, ↓w_bChain, ↓w_eAnd, ↓w_eOr, ↓w_iAny, ↓w_oNone, ↓w_oSomeC, ↓w_eSl, ↓w_lSlG, ↓w_lComp, ↓w_sSeq, ↓w_sNil, ↓w_sBreak, ↓w_sCont, ↓w_sSet, ↓w_sSetL, ↓w_sExpr, ↓w_sRet, ↓w_sRetN, ↓w_sIf, ↓w_own0, ↓w_ownS, ↓w_sRetO, ↓w_sApp, ↓w_sSetIx, ↓w_sFrz, ↓w_sThen, ↓w_sRaise, ↓w_sAsg, ↓w_sFor, ↓w_sTry, ↓t_name, ↓t_nil, ↓t_cons, ↓o_plus, ↓o_plusL, ↓o_lAdd, ↓o_sub, ↓o_neg, ↓o_mul, ↓o_fdiv, ↓o_mod, ↓o_pow, ↓o_lt, ↓o_le, ↓o_gt, ↓o_ge, ↓o_eq, ↓o_ne, ↓o_truthB, ↓o_truthI, ↓o_truthN, ↓o_truthL, ↓o_truthT, ↓o_truthS, ↓o_notB, ↓o_isNN, ↓o_isBT, ↓o_isBF, ↓o_isT, ↓o_isIB, ↓o_isSB, ↓o_isLB, ↓o_isTB, ↓o_isNB, ↓o_isNot, ↓o_lenL, ↓o_lenT, ↓o_lenS, ↓o_abs, ↓o_intI, ↓o_intB, ↓o_str, ↓o_gcd, ↓o_list, ↓o_listT, ↓o_tuple, ↓o_tupleT, ↓o_rev, ↓o_type, ↓o_isi, ↓o_isi2, ↓o_rg1, ↓o_rg2, ↓o_zip, ↓o_zipT, ↓o_itemsL, ↓o_itemsT, ↓o_ixL, ↓o_ixT, ↓o_at0, ↓o_at1, ↓o_at2, ↓o_at3, ↓o_at4, ↓o_at5, ↓o_at6, ↓o_at7, ↓o_at8, ↓o_at9, ↓o_at10, ↓o_at11, ↓o_at12, ↓o_at13, ↓o_at14, ↓o_at15, ↓w_eIxO, ↓t_tup1, ↓t_tup2, ↓t_tup3, ↓w_okOnly, ↓w_compN, ↓w_compC, ↓o_all, ↓o_any, ↓bls_nil, ↓bls_cons, ↓o_minL, ↓o_maxL, ↓o_sumL, ↓ints_nil, ↓ints_cons, ↓o_min3, ↓o_max3, ↓o_slL, ↓o_slT, ↓w_eBor, ↓w_bBor, o_isN, w_runF, tyName, isSubTy, tyNames, List.getElem?_cons_zero, List.getElem?_cons_succ, List.set_cons_zero, List.set_cons_succ, List.map_cons, List.map_nil, List.replicate_succ, List.replicate_zero, List.length_cons, List.length_nil, List.cons_append, List.nil_append, Nat.reduceAdd, Nat.reduceSub, Nat.reduceLeDiff, Nat.reduceEqDiff, ↓reduceIte, if_true, if_false, Bool.not_true, Bool.not_false, Bool.true_and, Bool.and_true, Bool.false_and, Bool.and_false, Bool.true_or, Bool.false_or, Bool.or_true, Bool.or_false, reduceCtorEq, decide_true, decide_false, beq_self_eq_true, List.mem_cons, true_or, or_true, true_and, and_true, false_and, and_false, or_false, false_or, String.reduceEq, String.reduceBEq, List.not_mem_nil, Bool.not_eq_true, Bool.false_eq_true, eq_self, not_true_eq_false, not_false_eq_true, Bool.not_eq_eq_eq_not, decide_eq_true_eq, decide_eq_false_iff_not, bne_iff_ne, ne_eq, Int.reduceLT, Int.reduceLE, Int.reduceMul, Int.reduceAdd, Int.reduceNeg, Int.reduceToNat, Int.reducePow, Nat.reduceLT, Int.reduceEq, Int.reduceSub, zipD, List.zipWith_cons_cons, List.zipWith_nil_left, List.zipWith_nil_right, List.all_cons, List.all_nil, id_eq, scalD, borE, wipeE, noOwn, sz_0, szl_0, sz_1, szl_1, sz_2, szl_2, sz_3, szl_3, sz_4, szl_4, sz_5, szl_5, sz_6, szl_6, sz_7, szl_7, sz_8, szl_8, sz_9, szl_9, sz_10, szl_10, sz_11, szl_11, sz_12, szl_12, sz_13, szl_13, sz_14, szl_14, sz_15, szl_15, sz_16, szl_16, sz_17, szl_17, sz_18, szl_18, sz_19, szl_19, sz_20, szl_20, sz_21, szl_21, sz_22, szl_22, sz_23, szl_23, sz_24, szl_24, sz_25, szl_25, sz_26, szl_26, sz_27, szl_27, sz_28, szl_28, sz_29, szl_29, sz_30, szl_30, sz_31, szl_31, sz_32, szl_32, frz, List.all_cons, List.all_nil, h]
  apply wR_eq
  simp only [m__law_steps_error, g__law_steps_error, cat_BadMap_l, ↓w_pin0, ↓w_lent0, ↓w_sPin, ↓w_sLend, ↓w_sAppP, pinE, pin1, dropE, drop1, lendE, lentOk, ↓w_sRaise1, ↓one1_one, ↓w_sTryF, ↓w_sExt, ↓o_any2L, ↓o_any2T, ↓w_lRet, ↓w_lSeq, ↓w_runFL, ↓w_lCallF, ↓w_lRep, ↓o_repL, ↓w_iRevG, ↓o_revIL, ↓o_revIT, ↓o_plusT, ↓o_plusS, ↓o_repS, ↓o_enumL, ↓o_enumT, ↓w_lComp2, ↓w_capL, ↓w_comp2N, ↓w_comp2C, enumD_nil, enumD_cons, fldOf, Er.cls, ↓wR_ok, ↓wR_err, ↓wR_bind, ↓wR_of, ↓wO_some, ↓wO_map, ↓wO_bind, ↓w_var0, ↓w_varS, ↓w_eC, ↓w_e1, ↓w_l1, ↓w_e2, ↓w_l2, ↓w_b1, ↓w_b2, ↓w_eB, ↓w_eF, ↓w_lF, ↓w_eCall, ↓w_eLst, ↓w_aNil, ↓w_aCons, ↓w_eTup, ↓w_lDisp, ↓w_eIf, ↓w_bAnd, ↓w_bOr, ↓w_bNot, ↓w_bYes, ↓w_bChain, ↓w_eAnd, ↓w_eOr, ↓w_iAny, ↓w_oNone, ↓w_oSomeC, ↓w_eSl, ↓w_lSlG, ↓w_lComp, ↓w_sSeq, ↓w_sNil, ↓w_sBreak, ↓w_sCont, ↓w_sSet, ↓w_sSetL, ↓w_sExpr, ↓w_sRet, ↓w_sRetN, ↓w_sIf, ↓w_own0, ↓w_ownS, ↓w_sRetO, ↓w_sApp, ↓w_sSetIx, ↓w_sFrz, ↓w_sThen, ↓w_sRaise, ↓w_sAsg, ↓w_sFor, ↓w_sTry, ↓t_name, ↓t_nil, ↓t_cons, ↓o_plus, ↓o_plusL, ↓o_lAdd, ↓o_sub, ↓o_neg, ↓o_mul, ↓o_fdiv, ↓o_mod, ↓o_pow, ↓o_lt, ↓o_le, ↓o_gt, ↓o_ge, ↓o_eq, ↓o_ne, ↓o_truthB, ↓o_truthI, ↓o_truthN, ↓o_truthL, ↓o_truthT, ↓o_truthS, ↓o_notB, ↓o_isNN, ↓o_isBT, ↓o_isBF, ↓o_isT, ↓o_isIB, ↓o_isSB, ↓o_isLB, ↓o_isTB, ↓o_isNB, ↓o_isNot, ↓o_lenL, ↓o_lenT, ↓o_lenS, ↓o_abs, ↓o_intI, ↓o_intB, ↓o_str, ↓o_gcd, ↓o_list, ↓o_listT, ↓o_tuple, ↓o_tupleT, ↓o_rev, ↓o_type, ↓o_isi, ↓o_isi2, ↓o_rg1, ↓o_rg2, ↓o_zip, ↓o_zipT, ↓o_itemsL, ↓o_itemsT, ↓o_ixL, ↓o_ixT, ↓o_at0, ↓o_at1, ↓o_at2, ↓o_at3, ↓o_at4, ↓o_at5, ↓o_at6, ↓o_at7, ↓o_at8, ↓o_at9, ↓o_at10, ↓o_at11, ↓o_at12, ↓o_at13, ↓o_at14, ↓o_at15, ↓w_eIxO, ↓t_tup1, ↓t_tup2, ↓t_tup3, ↓w_okOnly, ↓w_compN, ↓w_compC, ↓o_all, ↓o_any, ↓bls_nil, ↓bls_cons, ↓o_minL, ↓o_maxL, ↓o_sumL, ↓ints_nil, ↓ints_cons, ↓o_min3, ↓o_max3, ↓o_slL, ↓o_slT, ↓w_eBor, ↓w_bBor, o_isN, w_runF, tyName, isSubTy, tyNames, List.getElem?_cons_zero, List.getElem?_cons_succ, List.set_cons_zero, List.set_cons_succ, List.map_cons, List.map_nil, List.replicate_succ, List.replicate_zero, List.length_cons, List.length_nil, List.cons_append, List.nil_append, Nat.reduceAdd, Nat.reduceSub, Nat.reduceLeDiff, Nat.reduceEqDiff, ↓reduceIte, if_true, if_false, Bool.not_true, Bool.not_false, Bool.true_and, Bool.and_true, Bool.false_and, Bool.and_false, Bool.true_or, Bool.false_or, Bool.or_true, Bool.or_false, reduceCtorEq, decide_true, decide_false, beq_self_eq_true, List.mem_cons, true_or, or_true, true_and, and_true, false_and, and_false, or_false, false_or, String.reduceEq, String.reduceBEq, List.not_mem_nil, Bool.not_eq_true, Bool.false_eq_true, eq_self, not_true_eq_false, not_false_eq_true, Bool.not_eq_eq_eq_not, decide_eq_true_eq, decide_eq_false_iff_not, bne_iff_ne, ne_eq, Int.reduceLT, Int.reduceLE, Int.reduceMul, Int.reduceAdd, Int.reduceNeg, Int.reduceToNat, Int.reducePow, Nat.reduceLT, Int.reduceEq, Int.reduceSub, zipD, List.zipWith_cons_cons, List.zipWith_nil_left, List.zipWith_nil_right, List.all_cons, List.all_nil, id_eq, scalD, borE, wipeE, noOwn, sz_0, szl_0, sz_1, szl_1, sz_2, szl_2, sz_3, szl_3, sz_4, szl_4, sz_5, szl_5, sz_6, szl_6, sz_7, szl_7, sz_8, szl_8, sz_9, szl_9, sz_10, szl_10, sz_11, szl_11, sz_12, szl_12, sz_13, szl_13, sz_14, szl_14, sz_15, szl_15, sz_16, szl_16, sz_17, szl_17, sz_18, szl_18, sz_19, szl_19, sz_20, szl_20, sz_21, szl_21, sz_22, szl_22, sz_23, szl_23, sz_24, szl_24, sz_25, szl_25, sz_26, szl_26, sz_27, szl_27, sz_28, szl_28, sz_29, szl_29, sz_30, szl_30, sz_31, szl_31, sz_32, szl_32, frz, List.all_cons, List.all_nil, h2, badS]
  simp [List.lookup]
open Classical in
theorem chk_bad2 {xs : List D} (hl : xs.length ≤ 20) (hm : ∀ d ∈ xs, ∃ b, m_is_map [d] = .ok (.bl b)) {d0 : D} (h0 : d0 ∈ xs) (hf : m_is_map [d0] = .ok (.bl false)) : m_check_steps [.lst xs] = .err badS := by
  refine chk_bad (fun d => decide (m_is_map [d] = .ok (.bl true))) hl (fun d hd => ?_) ?_
  · obtain ⟨b, e⟩ := hm d hd
    rw [e]
    cases b <;> simp
  · refine List.all_eq_false.mpr ⟨d0, h0, ?_⟩
    rw [hf]
    simp
theorem ID_mq : Mq 8 ID9 := ⟨⟨rfl, by decide⟩, by decide, by decide⟩
theorem WK_id {k : Nat} {m : List Int} (h : Mq k m) : ∀ i, WK m (fun _ => ID9) i = m
  | 0 => rfl
  | i + 1 => by
    show prim (TH (WK m (fun _ => ID9) i) ID9) = m
    rw [WK_id h i, TH_id h.len, h.prim]
theorem track_id {m : List Int} (h : Mq 8 m) : m__law_track_error [tI m, .lst (SD (fun _ => ID9) 20)] = .ok (.lst [.lst (SD (fun _ => m) 21)]) := by
  have t := (track_ok (n := 20) (S := fun _ => ID9) h (by decide) (by decide) (fun i _ => by rw [WK_id h i]; exact h.lt.up (by decide)) (fun _ _ => ID_mq)).1
  have e : TR m (fun _ => ID9) (20 + 1) = SD (fun _ => m) 21 := SD_congr fun i _ => WK_id h i
  rw [e] at t
  exact terr_ok t
theorem track_long {m : List Int} (h : Mq 8 m) : m__law_track_error [tI m, .lst (SD (fun _ => m) 21)] = .ok (.str [115, 116, 101, 112, 115]) := terr (track_s h (by decide) (chk_long (by rw [SD_len]; decide)))
theorem track_none : m__law_track_error [.non, .lst []] = .ok (.str [109, 97, 112]) := terr (track_m ism_non)
theorem dbl_ne {ms : List Int} {k : Nat} (h : Mq k ms) : prim (ms.map (2 * ·)) ≠ ms.map (2 * ·) := by
  intro e
  rw [prim_scale (by decide), h.prim] at e
  have q := gcdL_scale 2 ms
  rw [← e, h.one] at q
  cases q
theorem track_dbl {m : List Int} (h : Mq 8 m) : m__law_track_error [tI (m.map (2 * ·)), .lst []] = .ok (.str [109, 97, 112]) := terr (track_m (not_map ⟨by rw [List.length_map]; exact h.len, fun n hn => by
  obtain ⟨z, hz, rfl⟩ := List.mem_map.mp hn
  have := h.lt.2 z hz
  have q : 2 * z.natAbs < 2 ^ 9 := by omega
  exact lt_up (a := 9) (show (2 * z).natAbs < 2 ^ 9 by omega) (by decide)⟩ (.inr (dbl_ne h))))
theorem track_sn {m : List Int} (h : Mq 8 m) : m__law_track_error [tI m, .non] = .ok (.str [115, 116, 101, 112, 115]) := terr (track_s h (by decide) chk_non)
theorem track_st {m : List Int} (h : Mq 8 m) (xs : List D) : m__law_track_error [tI m, .tup xs] = .ok (.str [115, 116, 101, 112, 115]) := terr (track_s h (by decide) (chk_tup xs))
theorem track_s1 {m : List Int} (h : Mq 8 m) : m__law_track_error [tI m, .lst [.non]] = .ok (.str [115, 116, 101, 112, 115]) := terr (track_s h (by decide) (chk_bad2 (by decide) (fun d hd => ⟨false, by rw [List.mem_singleton.mp hd]; exact ism_non⟩) (List.mem_singleton.mpr rfl) ism_non))
theorem zeros_no : m_is_map [tI [0, 0, 0, 0, 0, 0, 0, 0, 0]] = .ok (.bl false) := not_map ⟨rfl, by decide⟩ (.inl (by decide))
theorem track_s0 {m : List Int} {S : Nat → List Int} {n : Nat} (h : Mq 8 m) (hS : ∀ i, i < n → Mq 7 (S i)) (hn : n ≤ 7) : m__law_track_error [tI m, .lst (SD S n ++ [tI [0, 0, 0, 0, 0, 0, 0, 0, 0]])] = .ok (.str [115, 116, 101, 112, 115]) := by
  refine terr (track_s h (by decide) (chk_bad2 (d0 := tI [0, 0, 0, 0, 0, 0, 0, 0, 0]) (by rw [List.length_append, SD_len]; show n + 1 ≤ 20; omega) (fun d hd => ?_) (by simp) zeros_no))
  rcases List.mem_append.mp hd with q | q
  · exact ⟨true, SD_maps hS (by decide) d q⟩
  · exact ⟨false, by rw [List.mem_singleton.mp q]; exact zeros_no⟩
theorem steps_mn {m : List Int} (h : Mq 8 m) : m__law_steps_error [.lst [tI m, .non]] = .ok (.str [115, 116, 101, 112, 115]) := serr (chk_bad2 (d0 := .non) (show 2 ≤ 20 by decide) (fun d hd => by
  simp only [List.mem_cons, List.not_mem_nil, or_false] at hd
  rcases hd with rfl | rfl
  · exact ⟨true, is_map_mq h (by decide)⟩
  · exact ⟨false, ism_non⟩) (by simp) ism_non)
theorem rep20 : (List.replicate (20 : Int).toNat [D.tup [.int 1, .int 0, .int 0, .int 0, .int 1, .int 0, .int 0, .int 0, .int 1]]).flatten = SD (fun _ => ID9) 20 := rfl
theorem rep21 (m : List Int) : (List.replicate (21 : Int).toNat [tI m]).flatten = SD (fun _ => m) 21 := rfl
theorem cutk {xs : List D} {z : Int} (j : Nat) (hz : z = j) (hj : j ≤ xs.length) : cutD xs (some z) none = xs.drop j := by
  have e1 : HT.sIx xs.length 0 (some z) = j := by unfold HT.sIx; subst hz; simp; rw [if_neg (by omega)]; omega
  have e2 : HT.sIx xs.length xs.length none = xs.length := rfl
  unfold cutD
  rw [e1, e2]
  exact List.take_of_length_le (by rw [List.length_drop]; omega)
end AF

namespace AF
open PySem PySem.Spec PyProof.Rows L2
/-! ### the law -/
def toI : D → Option Int
  | .int i => some i
  | _ => none
theorem w_oSome {g : GE} {env : En} {Q : Option Int → Prop} {E : Er → Prop} : wpR (oSome g env) Q E = wpR (g env) (fun d => wpO (toI d) fun i => Q (some i)) E := by
  unfold oSome
  rw [wR_bind]
  congr 1
  funext d
  cases d <;> rfl
theorem o_toI {i : Int} {Q : Int → Prop} : wpO (toI (.int i)) Q = Q i := propext Iff.rfl
theorem LS_prim_neg {k : Nat} {ms : List Int} (h : Lt k ms) (hd : ME ms ≠ 0) (hp : LS ms < 0) : LS (prim ms) ≤ 0 := by
  obtain ⟨_, c, hc, e⟩ := mq_prim h hd
  rw [e, LS_k _ h.prim.1] at hp
  by_cases q : LS (prim ms) ≤ 0
  · exact q
  · have := Int.mul_pos hc (show 0 < LS (prim ms) by omega)
    omega
theorem lows_ok {a b c d e f g h i : Int} (hm : Mq 8 [a, b, c, d, e, f, g, h, i]) (hp : 0 < i) :
    m__law_short [.lst (iD [a, b, c, d, e, f, g, h, -i])] = .ok (tI (prim [a, b, c, d, e, f, g, h, -i])) ∧ m_is_map [tI (prim [a, b, c, d, e, f, g, h, -i])] = .ok (.bl (decide (ME [a, b, c, d, e, f, g, h, -i] ≠ 0))) ∧
    (ME [a, b, c, d, e, f, g, h, -i] ≠ 0 → m__law_between_error [tI (prim [a, b, c, d, e, f, g, h, -i]), tI [a, b, c, d, e, f, g, h, i], .int 1, .int 2] = .ok (.str [108, 97, 115, 116]) ∧ m__law_between_error [tI [a, b, c, d, e, f, g, h, i], tI (prim [a, b, c, d, e, f, g, h, -i]), .int 1, .int 2] = .ok (.str [108, 97, 115, 116])) := by
  have l : Lt 8 [a, b, c, d, e, f, g, h, -i] := by
    obtain ⟨_, hb⟩ := hm.lt
    refine ⟨rfl, ?_⟩
    simp only [List.mem_cons, List.not_mem_nil, or_false, forall_eq_or_imp, forall_eq] at hb ⊢
    obtain ⟨x1, x2, x3, x4, x5, x6, x7, x8, x9⟩ := hb
    exact ⟨x1, x2, x3, x4, x5, x6, x7, x8, by omega⟩
  refine ⟨(short_ok _ (fun n hn => lt_up (l.2 n hn) (by decide)) (show 9 ≤ 1000 by decide)).2, is_map_prim l (by decide), fun hd => ?_⟩
  have q := LS_prim_neg l hd (show -i < 0 by omega)
  exact ⟨berr_last l.prim.1 hm.len (.inl q), berr_last hm.len l.prim.1 (.inr q)⟩
def sST : D := .str [115, 116, 101, 112, 115]
def sMA : D := .str [109, 97, 112]
def sLA : D := .str [108, 97, 115, 116]
theorem same_end {m : List Int} (hl : m.length = 9) : m__law_same 40 [.lst [sLA, .lst [.lst (SD (fun _ => m) 21)], sST, sMA, sMA, sST, sST, sST, sST, sST], .lst [sLA, .lst [.lst (SD (fun _ => m) 21)], sST, sMA, sMA, sST, sST, sST, sST, sST]] = .ok (.bl true) := by
  refine same_ok 40 _ ?_
  have h1 : okS 39 (.lst [.lst (SD (fun _ => m) 21)]) = true := by
    show (decide (([.lst (SD (fun _ => m) 21)] : List D).length ≤ 1000000) && ([.lst (SD (fun _ => m) 21)] : List D).all (okS 38)) = true
    rw [List.all_cons, okS_SD (fun _ _ => hl) (by decide) 35]
    rfl
  show (decide (([sLA, .lst [.lst (SD (fun _ => m) 21)], sST, sMA, sMA, sST, sST, sST, sST, sST] : List D).length ≤ 1000000) && ([sLA, .lst [.lst (SD (fun _ => m) 21)], sST, sMA, sMA, sST, sST, sST, sST, sST] : List D).all (okS 39)) = true
  rw [List.all_cons, List.all_cons, h1]
  rfl
theorem tail_ok {m m2 : List Int} {S : Nat → List Int} {n : Nat} (hm : Mq 8 m) (hm2 : Mq 8 m2) (pm : 0 < LS m) (pm2 : 0 < LS m2) (hS : ∀ i, i < n → Mq 7 (S i)) (hn : n ≤ 7) {sc dr nu : D} {d41 : Int} (hnu : m__law_numbers [sc, .int 1, .int 10] = .ok nu) (hmp : m__law_map [nu] = .ok (tI m2)) (e41 : ∀ Q : D → Prop, wpO (dIx dr (.int 41)) Q = Q (.int d41)) {s4 s5 : Sl} {N B C : En → Prop} {ES : Er → En → Prop} :
    wpS (r_law_2 [.val sc, .val dr, .val (tI m), .own (SD S n), s4, s5, .unk, .unk, .unk, .unk, .unk, .unk]) N (fun y => y = .bl true) ES B C := by
  have th := track_holds hm hS hn
  have t0 : m__law_track_holds [tI m, .lst []] = .ok (.bl true) := track_holds (n := 0) (S := fun _ => ID9) hm (fun i hi => absurd hi (by omega)) (by decide)
  have f6 := fmod_pos d41 (show (0 : Int) < 6 by decide)
  have bh := between_holds hm hm2 pm pm2 (show 1 ≤ 1 + d41.fmod 6 by omega) (by omega)
  have z0 := berr_last (s := [0, 0, 1, 0, 1, 0, 1, 0, 0]) hm.len rfl (.inr (by decide))
  have ti := track_id hm
  have tlo := track_long hm
  have td := track_dbl hm
  have tn := track_sn hm
  have tt := track_st hm (SD S n)
  have t1 := track_s1 hm
  have ts0 := track_s0 hm hS hn
  have smn := steps_mn hm
  have se := same_end hm.len
  have r21 := rep21 m
  have r21b : (List.replicate 21 [tI m]).flatten = SD (fun _ => m) 21 := rfl
  have lzz : ((SD S n).length + 1 ≤ sizeLine) = True := eq_true (by rw [SD_len]; exact Nat.le_trans (show n + 1 ≤ 20 by omega) (by decide))
  have se2 : m__law_same 40 [.lst [sLA, sLA], .lst [sLA, sLA]] = .ok (.bl true) := same_ok 40 _ rfl
  have ml := hm.lt
  obtain ⟨a, b, c, d, e, f, g, h, i, rfl⟩ := nine hm.len
  obtain ⟨l1, l2, l3⟩ := lows_ok hm pm
  obtain ⟨_, hb⟩ := ml
  simp only [List.mem_cons, List.not_mem_nil, or_false, forall_eq_or_imp, forall_eq] at hb
  obtain ⟨x1, x2, x3, x4, x5, x6, x7, x8, x9⟩ := hb
  have S1 : ∀ {z : Int}, z.natAbs < 2 ^ 8 → Sm z := fun h => sm_of (lt_up h (by decide))
  have g2 : Sm 2 := Sm.lt (by decide) (by decide)
  generalize hM : ME [a, b, c, d, e, f, g, h, -i] = M at *
  generalize hP : prim [a, b, c, d, e, f, g, h, -i] = P at *
  simp only [tI, iD, List.map_cons, List.map_nil] at th t0 bh z0 ti tlo td tn tt t1 ts0 smn se r21 r21b hmp l1 l2 l3 ⊢
  generalize hPD : D.tup (List.map D.int P) = PD at *
  have by0 : M = 0 ∨ M ≠ 0 := Classical.em _
  simp only [sST, sMA, sLA] at se se2
  rcases by0 with h0 | h0
  · simp (maxSteps := 10000000) only [r_law_2, ↓w_pin0, ↓w_lent0, ↓w_sPin, ↓w_sLend, ↓w_sAppP, pinE, pin1, dropE, drop1, lendE, lentOk, ↓w_sRaise1, ↓one1_one, ↓w_sTryF, ↓w_sExt, ↓o_any2L, ↓o_any2T, ↓w_lRet, ↓w_lSeq, ↓w_runFL, ↓w_lCallF, ↓w_lRep, ↓o_repL, ↓w_iRevG, ↓o_revIL, ↓o_revIT, ↓o_plusT, ↓o_plusS, ↓o_repS, ↓o_enumL, ↓o_enumT, ↓w_lComp2, ↓w_capL, ↓w_comp2N, ↓w_comp2C, enumD_nil, enumD_cons, fldOf, Er.cls, ↓wR_ok, ↓wR_err, ↓wR_bind, ↓wR_of, ↓wO_some, ↓wO_map, ↓wO_bind, ↓w_var0, ↓w_varS, ↓w_eC, ↓w_e1, ↓w_l1, ↓w_e2, ↓w_l2, ↓w_b1, ↓w_b2, ↓w_eB, ↓w_eF, ↓w_lF, ↓w_eCall, ↓w_eLst, ↓w_aNil, ↓w_aCons, ↓w_eTup, ↓w_lDisp, ↓w_eIf, ↓w_bAnd, ↓w_bOr, ↓w_bNot, ↓w_bYes, ↓w_bChain, ↓w_eAnd, ↓w_eOr, ↓w_iAny, ↓w_oNone, ↓w_oSomeC, ↓w_eSl, ↓w_lSlG, ↓w_lComp, ↓w_sSeq, ↓w_sNil, ↓w_sBreak, ↓w_sCont, ↓w_sSet, ↓w_sSetL, ↓w_sExpr, ↓w_sRet, ↓w_sRetN, ↓w_sIf, ↓w_own0, ↓w_ownS, ↓w_sRetO, ↓w_sApp, ↓w_sSetIx, ↓w_sFrz, ↓w_sThen, ↓w_sRaise, ↓w_sAsg, ↓w_sFor, ↓w_sTry, ↓t_name, ↓t_nil, ↓t_cons, ↓o_plus, ↓o_plusL, ↓o_lAdd, ↓o_sub, ↓o_neg, ↓o_mul, ↓o_fdiv, ↓o_mod, ↓o_pow, ↓o_lt, ↓o_le, ↓o_gt, ↓o_ge, ↓o_eq, ↓o_ne, ↓o_truthB, ↓o_truthI, ↓o_truthN, ↓o_truthL, ↓o_truthT, ↓o_truthS, ↓o_notB, ↓o_isNN, ↓o_isBT, ↓o_isBF, ↓o_isT, ↓o_isIB, ↓o_isSB, ↓o_isLB, ↓o_isTB, ↓o_isNB, ↓o_isNot, ↓o_lenL, ↓o_lenT, ↓o_lenS, ↓o_abs, ↓o_intI, ↓o_intB, ↓o_str, ↓o_gcd, ↓o_list, ↓o_listT, ↓o_tuple, ↓o_tupleT, ↓o_rev, ↓o_type, ↓o_isi, ↓o_isi2, ↓o_rg1, ↓o_rg2, ↓o_zip, ↓o_zipT, ↓o_itemsL, ↓o_itemsT, ↓o_ixL, ↓o_ixT, ↓o_at0, ↓o_at1, ↓o_at2, ↓o_at3, ↓o_at4, ↓o_at5, ↓o_at6, ↓o_at7, ↓o_at8, ↓o_at9, ↓o_at10, ↓o_at11, ↓o_at12, ↓o_at13, ↓o_at14, ↓o_at15, ↓w_eIxO, ↓t_tup1, ↓t_tup2, ↓t_tup3, ↓w_okOnly, ↓w_compN, ↓w_compC, ↓o_all, ↓o_any, ↓bls_nil, ↓bls_cons, ↓o_minL, ↓o_maxL, ↓o_sumL, ↓ints_nil, ↓ints_cons, ↓o_min3, ↓o_max3, ↓o_slL, ↓o_slT, ↓w_eBor, ↓w_bBor, o_isN, w_runF, tyName, isSubTy, tyNames, List.getElem?_cons_zero, List.getElem?_cons_succ, List.set_cons_zero, List.set_cons_succ, List.map_cons, List.map_nil, List.replicate_zero, List.length_cons, List.length_nil, List.cons_append, List.nil_append, Nat.reduceAdd, Nat.reduceSub, Nat.reduceLeDiff, Nat.reduceEqDiff, ↓reduceIte, if_true, if_false, Bool.not_true, Bool.not_false, Bool.true_and, Bool.and_true, Bool.false_and, Bool.and_false, Bool.true_or, Bool.false_or, Bool.or_true, Bool.or_false, reduceCtorEq, decide_true, decide_false, beq_self_eq_true, List.mem_cons, true_or, or_true, true_and, and_true, false_and, and_false, or_false, false_or, String.reduceEq, String.reduceBEq, List.not_mem_nil, Bool.not_eq_true, Bool.false_eq_true, eq_self, not_true_eq_false, not_false_eq_true, Bool.not_eq_eq_eq_not, decide_eq_true_eq, decide_eq_false_iff_not, bne_iff_ne, ne_eq, Int.reduceLT, Int.reduceLE, Int.reduceMul, Int.reduceAdd, Int.reduceNeg, Int.reduceToNat, Int.reducePow, Nat.reduceLT, Int.reduceEq, Int.reduceSub, zipD, List.zipWith_cons_cons, List.zipWith_nil_left, List.zipWith_nil_right, List.all_cons, List.all_nil, id_eq, scalD, borE, wipeE, noOwn, sz_0, szl_0, sz_1, szl_1, sz_2, szl_2, sz_3, szl_3, sz_4, szl_4, sz_5, szl_5, sz_6, szl_6, sz_7, szl_7, sz_8, szl_8, sz_9, szl_9, sz_10, szl_10, sz_11, szl_11, sz_12, szl_12, sz_13, szl_13, sz_14, szl_14, sz_15, szl_15, sz_16, szl_16, sz_17, szl_17, sz_18, szl_18, sz_19, szl_19, sz_20, szl_20, sz_21, szl_21, sz_22, szl_22, sz_23, szl_23, sz_24, szl_24, sz_25, szl_25, sz_26, szl_26, sz_27, szl_27, sz_28, szl_28, sz_29, szl_29, sz_30, szl_30, sz_31, szl_31, sz_32, szl_32, frz, List.all_cons, List.all_nil, ↓th, ↓t0, hnu, hmp, e41, ↓bh, l1, l2, ↓rep20, ↓r21, r21b, lzz, z0, ti, tlo, td, tn, tt, t1, ts0, smn, track_none, S1 x1, S1 x2, S1 x3, S1 x4, S1 x5, S1 x6, S1 x7, S1 x8, S1 x9, g2, h0, se]
    decide
  · obtain ⟨q1, q2⟩ := l3 h0
    simp (maxSteps := 10000000) only [r_law_2, ↓w_pin0, ↓w_lent0, ↓w_sPin, ↓w_sLend, ↓w_sAppP, pinE, pin1, dropE, drop1, lendE, lentOk, ↓w_sRaise1, ↓one1_one, ↓w_sTryF, ↓w_sExt, ↓o_any2L, ↓o_any2T, ↓w_lRet, ↓w_lSeq, ↓w_runFL, ↓w_lCallF, ↓w_lRep, ↓o_repL, ↓w_iRevG, ↓o_revIL, ↓o_revIT, ↓o_plusT, ↓o_plusS, ↓o_repS, ↓o_enumL, ↓o_enumT, ↓w_lComp2, ↓w_capL, ↓w_comp2N, ↓w_comp2C, enumD_nil, enumD_cons, fldOf, Er.cls, ↓wR_ok, ↓wR_err, ↓wR_bind, ↓wR_of, ↓wO_some, ↓wO_map, ↓wO_bind, ↓w_var0, ↓w_varS, ↓w_eC, ↓w_e1, ↓w_l1, ↓w_e2, ↓w_l2, ↓w_b1, ↓w_b2, ↓w_eB, ↓w_eF, ↓w_lF, ↓w_eCall, ↓w_eLst, ↓w_aNil, ↓w_aCons, ↓w_eTup, ↓w_lDisp, ↓w_eIf, ↓w_bAnd, ↓w_bOr, ↓w_bNot, ↓w_bYes, ↓w_bChain, ↓w_eAnd, ↓w_eOr, ↓w_iAny, ↓w_oNone, ↓w_oSomeC, ↓w_eSl, ↓w_lSlG, ↓w_lComp, ↓w_sSeq, ↓w_sNil, ↓w_sBreak, ↓w_sCont, ↓w_sSet, ↓w_sSetL, ↓w_sExpr, ↓w_sRet, ↓w_sRetN, ↓w_sIf, ↓w_own0, ↓w_ownS, ↓w_sRetO, ↓w_sApp, ↓w_sSetIx, ↓w_sFrz, ↓w_sThen, ↓w_sRaise, ↓w_sAsg, ↓w_sFor, ↓w_sTry, ↓t_name, ↓t_nil, ↓t_cons, ↓o_plus, ↓o_plusL, ↓o_lAdd, ↓o_sub, ↓o_neg, ↓o_mul, ↓o_fdiv, ↓o_mod, ↓o_pow, ↓o_lt, ↓o_le, ↓o_gt, ↓o_ge, ↓o_eq, ↓o_ne, ↓o_truthB, ↓o_truthI, ↓o_truthN, ↓o_truthL, ↓o_truthT, ↓o_truthS, ↓o_notB, ↓o_isNN, ↓o_isBT, ↓o_isBF, ↓o_isT, ↓o_isIB, ↓o_isSB, ↓o_isLB, ↓o_isTB, ↓o_isNB, ↓o_isNot, ↓o_lenL, ↓o_lenT, ↓o_lenS, ↓o_abs, ↓o_intI, ↓o_intB, ↓o_str, ↓o_gcd, ↓o_list, ↓o_listT, ↓o_tuple, ↓o_tupleT, ↓o_rev, ↓o_type, ↓o_isi, ↓o_isi2, ↓o_rg1, ↓o_rg2, ↓o_zip, ↓o_zipT, ↓o_itemsL, ↓o_itemsT, ↓o_ixL, ↓o_ixT, ↓o_at0, ↓o_at1, ↓o_at2, ↓o_at3, ↓o_at4, ↓o_at5, ↓o_at6, ↓o_at7, ↓o_at8, ↓o_at9, ↓o_at10, ↓o_at11, ↓o_at12, ↓o_at13, ↓o_at14, ↓o_at15, ↓w_eIxO, ↓t_tup1, ↓t_tup2, ↓t_tup3, ↓w_okOnly, ↓w_compN, ↓w_compC, ↓o_all, ↓o_any, ↓bls_nil, ↓bls_cons, ↓o_minL, ↓o_maxL, ↓o_sumL, ↓ints_nil, ↓ints_cons, ↓o_min3, ↓o_max3, ↓o_slL, ↓o_slT, ↓w_eBor, ↓w_bBor, o_isN, w_runF, tyName, isSubTy, tyNames, List.getElem?_cons_zero, List.getElem?_cons_succ, List.set_cons_zero, List.set_cons_succ, List.map_cons, List.map_nil, List.replicate_zero, List.length_cons, List.length_nil, List.cons_append, List.nil_append, Nat.reduceAdd, Nat.reduceSub, Nat.reduceLeDiff, Nat.reduceEqDiff, ↓reduceIte, if_true, if_false, Bool.not_true, Bool.not_false, Bool.true_and, Bool.and_true, Bool.false_and, Bool.and_false, Bool.true_or, Bool.false_or, Bool.or_true, Bool.or_false, reduceCtorEq, decide_true, decide_false, beq_self_eq_true, List.mem_cons, true_or, or_true, true_and, and_true, false_and, and_false, or_false, false_or, String.reduceEq, String.reduceBEq, List.not_mem_nil, Bool.not_eq_true, Bool.false_eq_true, eq_self, not_true_eq_false, not_false_eq_true, Bool.not_eq_eq_eq_not, decide_eq_true_eq, decide_eq_false_iff_not, bne_iff_ne, ne_eq, Int.reduceLT, Int.reduceLE, Int.reduceMul, Int.reduceAdd, Int.reduceNeg, Int.reduceToNat, Int.reducePow, Nat.reduceLT, Int.reduceEq, Int.reduceSub, zipD, List.zipWith_cons_cons, List.zipWith_nil_left, List.zipWith_nil_right, List.all_cons, List.all_nil, id_eq, scalD, borE, wipeE, noOwn, sz_0, szl_0, sz_1, szl_1, sz_2, szl_2, sz_3, szl_3, sz_4, szl_4, sz_5, szl_5, sz_6, szl_6, sz_7, szl_7, sz_8, szl_8, sz_9, szl_9, sz_10, szl_10, sz_11, szl_11, sz_12, szl_12, sz_13, szl_13, sz_14, szl_14, sz_15, szl_15, sz_16, szl_16, sz_17, szl_17, sz_18, szl_18, sz_19, szl_19, sz_20, szl_20, sz_21, szl_21, sz_22, szl_22, sz_23, szl_23, sz_24, szl_24, sz_25, szl_25, sz_26, szl_26, sz_27, szl_27, sz_28, szl_28, sz_29, szl_29, sz_30, szl_30, sz_31, szl_31, sz_32, szl_32, frz, List.all_cons, List.all_nil, ↓th, ↓t0, hnu, hmp, e41, ↓bh, l1, l2, ↓rep20, ↓r21, r21b, lzz, z0, ti, tlo, td, tn, tt, t1, ts0, smn, track_none, S1 x1, S1 x2, S1 x3, S1 x4, S1 x5, S1 x6, S1 x7, S1 x8, S1 x9, g2, h0, q1, q2, se2, se]
    decide
theorem keeps : Keeps m_law := by
  intro ns h63 hb
  obtain ⟨ks, hl, hr, hd⟩ := numbers_ok ns hb 0 50 (by decide) (by decide)
  obtain ⟨ms, hl2, hr2, hd2⟩ := numbers_ok ns hb 1 10 (by decide) (by decide)
  have hd : m__law_numbers [.lst (ns.map .int), .int 0, .int 50] = _ := hd
  have hd2 : m__law_numbers [.lst (ns.map .int), .int 1, .int 10] = _ := hd2
  obtain ⟨M, hM, pM, mk⟩ := map_ok (xs := ks.map D.int) (k := fun i => ks.getD i 0) fun i hi Q => o_dr (by omega)
  obtain ⟨M2, hM2, pM2, mk2⟩ := map_ok (xs := ms.map D.int) (k := fun i => ms.getD i 0) fun i hi Q => o_dr (by omega)
  have k10 : ∀ Q : D → Prop, wpO (atI (ks.map D.int) 10) Q = Q (.int (ks.getD 10 0)) := fun Q => o_dr (i := 10) (by omega)
  have k40 : ∀ Q : D → Prop, wpO (atI (ks.map D.int) 40) Q = Q (.int (ks.getD 40 0)) := fun Q => o_dr (i := 40) (by omega)
  have k41 : ∀ Q : D → Prop, wpO (dIx (.lst (ks.map D.int)) (.int 41)) Q = Q (.int (ks.getD 41 0)) := fun Q => o_dr (i := 41) (by omega)
  have f8 := fmod_pos (ks.getD 10 0) (show (0 : Int) < 8 by decide)
  have lm : (ks.map D.int).length = 50 := by rw [List.length_map]; exact hl
  apply wR_eq
  simp only [m_law, g_law, ↓w_pin0, ↓w_lent0, ↓w_sPin, ↓w_sLend, ↓w_sAppP, pinE, pin1, dropE, drop1, lendE, lentOk, ↓w_sRaise1, ↓one1_one, ↓w_sTryF, ↓w_sExt, ↓o_any2L, ↓o_any2T, ↓w_lRet, ↓w_lSeq, ↓w_runFL, ↓w_lCallF, ↓w_lRep, ↓o_repL, ↓w_iRevG, ↓o_revIL, ↓o_revIT, ↓o_plusT, ↓o_plusS, ↓o_repS, ↓o_enumL, ↓o_enumT, ↓w_lComp2, ↓w_capL, ↓w_comp2N, ↓w_comp2C, enumD_nil, enumD_cons, fldOf, Er.cls, ↓wR_ok, ↓wR_err, ↓wR_bind, ↓wR_of, ↓wO_some, ↓wO_map, ↓wO_bind, ↓w_var0, ↓w_varS, ↓w_eC, ↓w_e1, ↓w_l1, ↓w_e2, ↓w_l2, ↓w_b1, ↓w_b2, ↓w_eB, ↓w_eF, ↓w_lF, ↓w_eCall, ↓w_eLst, ↓w_aNil, ↓w_aCons, ↓w_eTup, ↓w_lDisp, ↓w_eIf, ↓w_bAnd, ↓w_bOr, ↓w_bNot, ↓w_bYes, ↓w_bChain, ↓w_eAnd, ↓w_eOr, ↓w_iAny, ↓w_oNone, ↓w_oSomeC, ↓w_eSl, ↓w_lSlG, ↓w_lComp, ↓w_sSeq, ↓w_sNil, ↓w_sBreak, ↓w_sCont, ↓w_sSet, ↓w_sSetL, ↓w_sExpr, ↓w_sRet, ↓w_sRetN, ↓w_sIf, ↓w_own0, ↓w_ownS, ↓w_sRetO, ↓w_sApp, ↓w_sSetIx, ↓w_sFrz, ↓w_sThen, ↓w_sRaise, ↓w_sAsg, ↓w_sFor, ↓w_sTry, ↓t_name, ↓t_nil, ↓t_cons, ↓o_plus, ↓o_plusL, ↓o_lAdd, ↓o_sub, ↓o_neg, ↓o_mul, ↓o_fdiv, ↓o_mod, ↓o_pow, ↓o_lt, ↓o_le, ↓o_gt, ↓o_ge, ↓o_eq, ↓o_ne, ↓o_truthB, ↓o_truthI, ↓o_truthN, ↓o_truthL, ↓o_truthT, ↓o_truthS, ↓o_notB, ↓o_isNN, ↓o_isBT, ↓o_isBF, ↓o_isT, ↓o_isIB, ↓o_isSB, ↓o_isLB, ↓o_isTB, ↓o_isNB, ↓o_isNot, ↓o_lenL, ↓o_lenT, ↓o_lenS, ↓o_abs, ↓o_intI, ↓o_intB, ↓o_str, ↓o_gcd, ↓o_list, ↓o_listT, ↓o_tuple, ↓o_tupleT, ↓o_rev, ↓o_type, ↓o_isi, ↓o_isi2, ↓o_rg1, ↓o_rg2, ↓o_zip, ↓o_zipT, ↓o_itemsL, ↓o_itemsT, ↓o_ixL, ↓o_ixT, ↓o_at0, ↓o_at1, ↓o_at2, ↓o_at3, ↓o_at4, ↓o_at5, ↓o_at6, ↓o_at7, ↓o_at8, ↓o_at9, ↓o_at10, ↓o_at11, ↓o_at12, ↓o_at13, ↓o_at14, ↓o_at15, ↓w_eIxO, ↓t_tup1, ↓t_tup2, ↓t_tup3, ↓w_okOnly, ↓w_compN, ↓w_compC, ↓o_all, ↓o_any, ↓bls_nil, ↓bls_cons, ↓o_minL, ↓o_maxL, ↓o_sumL, ↓ints_nil, ↓ints_cons, ↓o_min3, ↓o_max3, ↓o_slL, ↓o_slT, ↓w_eBor, ↓w_bBor, o_isN, w_runF, tyName, isSubTy, tyNames, List.getElem?_cons_zero, List.getElem?_cons_succ, List.set_cons_zero, List.set_cons_succ, List.map_cons, List.map_nil, List.replicate_succ, List.replicate_zero, List.length_cons, List.length_nil, List.cons_append, List.nil_append, Nat.reduceAdd, Nat.reduceSub, Nat.reduceLeDiff, Nat.reduceEqDiff, ↓reduceIte, if_true, if_false, Bool.not_true, Bool.not_false, Bool.true_and, Bool.and_true, Bool.false_and, Bool.and_false, Bool.true_or, Bool.false_or, Bool.or_true, Bool.or_false, reduceCtorEq, decide_true, decide_false, beq_self_eq_true, List.mem_cons, true_or, or_true, true_and, and_true, false_and, and_false, or_false, false_or, String.reduceEq, String.reduceBEq, List.not_mem_nil, Bool.not_eq_true, Bool.false_eq_true, eq_self, not_true_eq_false, not_false_eq_true, Bool.not_eq_eq_eq_not, decide_eq_true_eq, decide_eq_false_iff_not, bne_iff_ne, ne_eq, Int.reduceLT, Int.reduceLE, Int.reduceMul, Int.reduceAdd, Int.reduceNeg, Int.reduceToNat, Int.reducePow, Nat.reduceLT, Int.reduceEq, Int.reduceSub, zipD, List.zipWith_cons_cons, List.zipWith_nil_left, List.zipWith_nil_right, List.all_cons, List.all_nil, id_eq, scalD, borE, wipeE, noOwn, sz_0, szl_0, sz_1, szl_1, sz_2, szl_2, sz_3, szl_3, sz_4, szl_4, sz_5, szl_5, sz_6, szl_6, sz_7, szl_7, sz_8, szl_8, sz_9, szl_9, sz_10, szl_10, sz_11, szl_11, sz_12, szl_12, sz_13, szl_13, sz_14, szl_14, sz_15, szl_15, sz_16, szl_16, sz_17, szl_17, sz_18, szl_18, sz_19, szl_19, sz_20, szl_20, sz_21, szl_21, sz_22, szl_22, sz_23, szl_23, sz_24, szl_24, sz_25, szl_25, sz_26, szl_26, sz_27, szl_27, sz_28, szl_28, sz_29, szl_29, sz_30, szl_30, sz_31, szl_31, sz_32, szl_32, frz, List.all_cons, List.all_nil, hd, mk, k10]
  refine ⟨by omega, ?_⟩
  refine w_forI (fun i e => ∃ Ls s4 s5, Ls.length = i ∧ (∀ x ∈ Ls, Mq 7 x) ∧ e = [.val (.lst (ns.map .int)), .val (.lst (ks.map D.int)), .val (tI M), .own (Ls.map tI), s4, s5, .unk, .unk, .unk, .unk, .unk, .unk]) ⟨[], _, _, rfl, nofun, rfl⟩ ?_ ?_
  · rintro i d env hd ⟨Ls, s4, s5, hL, hLs, rfl⟩
    obtain ⟨rfl, hi⟩ := rangeD_get hd
    have hi7 : i < 7 := by omega
    obtain ⟨s, hs, st⟩ := step_ok (xs := (ks.map D.int).drop (11 + 4 * i)) (k := fun j => ks.getD (j + (11 + 4 * i)) 0) fun j hj Q => o_drop (by omega)
    have ck : cutD (ks.map D.int) (some (11 + 4 * (i : Int))) none = (ks.map D.int).drop (11 + 4 * i) := cutk _ (by omega) (by omega)
    have g4 : Sm 4 := Sm.lt (by decide) (by decide)
    have gi : Sm (i : Int) := Sm.lt (by omega) (by omega)
    have lz : (Ls.map tI).length < sizeLine := by rw [List.length_map, hL]; exact Nat.lt_of_lt_of_le hi7 (by decide)
    have at0 : ∀ (h : 0 < Ls.length) (Q : D → Prop), wpO (atI (Ls.map tI) 0) Q = Q (tI Ls[0]) := fun h Q => o_at (i := 0) (by rw [List.getElem?_map, List.getElem?_eq_getElem h]; rfl)
    rw [t_name, Int.zero_add]
    simp only [List.set_cons_succ, List.set_cons_zero]
    simp only [b_law_1, ↓w_pin0, ↓w_lent0, ↓w_sPin, ↓w_sLend, ↓w_sAppP, pinE, pin1, dropE, drop1, lendE, lentOk, ↓w_sRaise1, ↓one1_one, ↓w_sTryF, ↓w_sExt, ↓o_any2L, ↓o_any2T, ↓w_lRet, ↓w_lSeq, ↓w_runFL, ↓w_lCallF, ↓w_lRep, ↓o_repL, ↓w_iRevG, ↓o_revIL, ↓o_revIT, ↓o_plusT, ↓o_plusS, ↓o_repS, ↓o_enumL, ↓o_enumT, ↓w_lComp2, ↓w_capL, ↓w_comp2N, ↓w_comp2C, enumD_nil, enumD_cons, fldOf, Er.cls, ↓wR_ok, ↓wR_err, ↓wR_bind, ↓wR_of, ↓wO_some, ↓wO_map, ↓wO_bind, ↓w_var0, ↓w_varS, ↓w_eC, ↓w_e1, ↓w_l1, ↓w_e2, ↓w_l2, ↓w_b1, ↓w_b2, ↓w_eB, ↓w_eF, ↓w_lF, ↓w_eCall, ↓w_eLst, ↓w_aNil, ↓w_aCons, ↓w_eTup, ↓w_lDisp, ↓w_eIf, ↓w_bAnd, ↓w_bOr, ↓w_bNot, ↓w_bYes, ↓w_bChain, ↓w_eAnd, ↓w_eOr, ↓w_iAny, ↓w_oNone, ↓w_oSomeC, ↓w_eSl, ↓w_lSlG, ↓w_lComp, ↓w_sSeq, ↓w_sNil, ↓w_sBreak, ↓w_sCont, ↓w_sSet, ↓w_sSetL, ↓w_sExpr, ↓w_sRet, ↓w_sRetN, ↓w_sIf, ↓w_own0, ↓w_ownS, ↓w_sRetO, ↓w_sApp, ↓w_sSetIx, ↓w_sFrz, ↓w_sThen, ↓w_sRaise, ↓w_sAsg, ↓w_sFor, ↓w_sTry, ↓t_name, ↓t_nil, ↓t_cons, ↓o_plus, ↓o_plusL, ↓o_lAdd, ↓o_sub, ↓o_neg, ↓o_mul, ↓o_fdiv, ↓o_mod, ↓o_pow, ↓o_lt, ↓o_le, ↓o_gt, ↓o_ge, ↓o_eq, ↓o_ne, ↓o_truthB, ↓o_truthI, ↓o_truthN, ↓o_truthL, ↓o_truthT, ↓o_truthS, ↓o_notB, ↓o_isNN, ↓o_isBT, ↓o_isBF, ↓o_isT, ↓o_isIB, ↓o_isSB, ↓o_isLB, ↓o_isTB, ↓o_isNB, ↓o_isNot, ↓o_lenL, ↓o_lenT, ↓o_lenS, ↓o_abs, ↓o_intI, ↓o_intB, ↓o_str, ↓o_gcd, ↓o_list, ↓o_listT, ↓o_tuple, ↓o_tupleT, ↓o_rev, ↓o_type, ↓o_isi, ↓o_isi2, ↓o_rg1, ↓o_rg2, ↓o_zip, ↓o_zipT, ↓o_itemsL, ↓o_itemsT, ↓o_ixL, ↓o_ixT, ↓o_at0, ↓o_at1, ↓o_at2, ↓o_at3, ↓o_at4, ↓o_at5, ↓o_at6, ↓o_at7, ↓o_at8, ↓o_at9, ↓o_at10, ↓o_at11, ↓o_at12, ↓o_at13, ↓o_at14, ↓o_at15, ↓w_eIxO, ↓t_tup1, ↓t_tup2, ↓t_tup3, ↓w_okOnly, ↓w_compN, ↓w_compC, ↓o_all, ↓o_any, ↓bls_nil, ↓bls_cons, ↓o_minL, ↓o_maxL, ↓o_sumL, ↓ints_nil, ↓ints_cons, ↓o_min3, ↓o_max3, ↓o_slL, ↓o_slT, ↓w_eBor, ↓w_bBor, o_isN, w_runF, tyName, isSubTy, tyNames, List.getElem?_cons_zero, List.getElem?_cons_succ, List.set_cons_zero, List.set_cons_succ, List.map_cons, List.map_nil, List.replicate_succ, List.replicate_zero, List.length_cons, List.length_nil, List.cons_append, List.nil_append, Nat.reduceAdd, Nat.reduceSub, Nat.reduceLeDiff, Nat.reduceEqDiff, ↓reduceIte, if_true, if_false, Bool.not_true, Bool.not_false, Bool.true_and, Bool.and_true, Bool.false_and, Bool.and_false, Bool.true_or, Bool.false_or, Bool.or_true, Bool.or_false, reduceCtorEq, decide_true, decide_false, beq_self_eq_true, List.mem_cons, true_or, or_true, true_and, and_true, false_and, and_false, or_false, false_or, String.reduceEq, String.reduceBEq, List.not_mem_nil, Bool.not_eq_true, Bool.false_eq_true, eq_self, not_true_eq_false, not_false_eq_true, Bool.not_eq_eq_eq_not, decide_eq_true_eq, decide_eq_false_iff_not, bne_iff_ne, ne_eq, Int.reduceLT, Int.reduceLE, Int.reduceMul, Int.reduceAdd, Int.reduceNeg, Int.reduceToNat, Int.reducePow, Nat.reduceLT, Int.reduceEq, Int.reduceSub, zipD, List.zipWith_cons_cons, List.zipWith_nil_left, List.zipWith_nil_right, List.all_cons, List.all_nil, id_eq, scalD, borE, wipeE, noOwn, sz_0, szl_0, sz_1, szl_1, sz_2, szl_2, sz_3, szl_3, sz_4, szl_4, sz_5, szl_5, sz_6, szl_6, sz_7, szl_7, sz_8, szl_8, sz_9, szl_9, sz_10, szl_10, sz_11, szl_11, sz_12, szl_12, sz_13, szl_13, sz_14, szl_14, sz_15, szl_15, sz_16, szl_16, sz_17, szl_17, sz_18, szl_18, sz_19, szl_19, sz_20, szl_20, sz_21, szl_21, sz_22, szl_22, sz_23, szl_23, sz_24, szl_24, sz_25, szl_25, sz_26, szl_26, sz_27, szl_27, sz_28, szl_28, sz_29, szl_29, sz_30, szl_30, sz_31, szl_31, sz_32, szl_32, frz, List.all_cons, List.all_nil, ↓w_oSome, ↓o_toI, ck, st, g4, gi, k40]
    have fin : ∀ x, Mq 7 x → (List.map tI Ls).length < sizeLine ∧ ∃ Ls_1 s4 s5, Ls_1.length = i + 1 ∧ (∀ x : List Int, x ∈ Ls_1 → Mq 7 x) ∧
        [Sl.val (D.lst (List.map D.int ns)), Sl.val (D.lst (List.map D.int ks)), Sl.val (tI M), Sl.own (List.map tI Ls ++ [tI x]), Sl.val (D.int (i : Int)), Sl.val (tI x), Sl.unk, Sl.unk, Sl.unk, Sl.unk, Sl.unk, Sl.unk] =
        [Sl.val (D.lst (List.map D.int ns)), Sl.val (D.lst (List.map D.int ks)), Sl.val (tI M), Sl.own (List.map tI Ls_1), s4, s5, Sl.unk, Sl.unk, Sl.unk, Sl.unk, Sl.unk, Sl.unk] := fun x hx =>
      ⟨lz, Ls ++ [x], _, _, by rw [List.length_append, hL]; rfl, fun y hy => by
        rcases List.mem_append.mp hy with q | q
        · exact hLs y q
        · rw [List.mem_singleton.mp q]; exact hx, by rw [List.map_append]; rfl⟩
    split
    · split
      · rename_i h _
        have hp : 0 < Ls.length := by omega
        rw [at0 hp]
        exact fin _ (hLs _ (List.getElem_mem hp))
      · exact fin s hs
    · exact fin s hs
  · rintro env ⟨Ls, s4, s5, hL, hLs, rfl⟩
    have eS : Ls.map tI = SD (fun i => Ls.getD i []) Ls.length := by
      unfold SD
      apply List.ext_getElem?
      intro j
      by_cases hj : j < Ls.length
      · simp [hj]
      · simp [hj]
    have h7 : Ls.length ≤ 7 := by rw [hL, rangeD_len]; omega
    rw [eS]
    exact tail_ok hM hM2 pM pM2 (fun i hi => by
      show Mq 7 (Ls.getD i [])
      rw [List.getD_eq_getElem?_getD, List.getElem?_eq_getElem hi]
      exact hLs _ (List.getElem_mem hi)) h7 hd2 mk2 k41
end AF

namespace AF
open PySem PySem.Spec PyProof.Rows L2
theorem all_mk {P : Program} {w : World} {K : PySem.W.Frag} {h : Heap} {mg : Str → Option Value} {fa : Addr} {f_is_whole : Addr} {od_is_whole an_is_whole : Option Addr} {sl_is_whole : Array (Option Value)} {oc_is_whole kV_is_whole dc_is_whole pm_is_whole cd_is_whole ct_is_whole : Value} {f_lowest : Addr} {od_lowest an_lowest : Option Addr} {sl_lowest : Array (Option Value)} {oc_lowest kV_lowest dc_lowest pm_lowest cd_lowest ct_lowest : Value} {f_measure : Addr} {od_measure an_measure : Option Addr} {sl_measure : Array (Option Value)} {oc_measure kV_measure dc_measure pm_measure cd_measure ct_measure : Value} {f_is_map : Addr} {od_is_map an_is_map : Option Addr} {sl_is_map : Array (Option Value)} {oc_is_map kV_is_map dc_is_map pm_is_map cd_is_map ct_is_map : Value} {f_check_map : Addr} {od_check_map an_check_map : Option Addr} {sl_check_map : Array (Option Value)} {oc_check_map kV_check_map dc_check_map pm_check_map cd_check_map ct_check_map : Value} {C_BadMap : Addr} {fI_BadMap cda_BadMap cc_BadMap N_BadMap : Addr} {nm_BadMap q_BadMap : Str} {bs_BadMap bm_BadMap : List Value} {sn_BadMap : List Str} {sub_BadMap : List Value} {ab_BadMap : Bool} {col_BadMap : Option Bool} {dd_BadMap : Option Addr} {m0_BadMap m1_BadMap m2_BadMap m3_BadMap m5_BadMap : Option Value} {oc_BadMap oc2_BadMap oc3_BadMap doc_BadMap pm_BadMap ctv_BadMap : Value} {od_BadMap od2_BadMap od3_BadMap : Option Addr} {sl_BadMap sl2_BadMap sl3_BadMap : Array (Option Value)} {vs_BadMap : Array Value} {tf_BadMap : Tok} {cd_BadMap : ClassData} {f_depth : Addr} {od_depth an_depth : Option Addr} {sl_depth : Array (Option Value)} {oc_depth kV_depth dc_depth pm_depth cd_depth ct_depth : Value} {f_is_seen : Addr} {od_is_seen an_is_seen : Option Addr} {sl_is_seen : Array (Option Value)} {oc_is_seen kV_is_seen dc_is_seen pm_is_seen cd_is_seen ct_is_seen : Value} {f_first_then : Addr} {od_first_then an_first_then : Option Addr} {sl_first_then : Array (Option Value)} {oc_first_then kV_first_then dc_first_then pm_first_then cd_first_then ct_first_then : Value} {f_cofactors : Addr} {od_cofactors an_cofactors : Option Addr} {sl_cofactors : Array (Option Value)} {oc_cofactors kV_cofactors dc_cofactors pm_cofactors cd_cofactors ct_cofactors : Value} {f_back_map : Addr} {od_back_map an_back_map : Option Addr} {sl_back_map : Array (Option Value)} {oc_back_map kV_back_map dc_back_map pm_back_map cd_back_map ct_back_map : Value} {f_sees_square : Addr} {od_sees_square an_sees_square : Option Addr} {sl_sees_square : Array (Option Value)} {oc_sees_square kV_sees_square dc_sees_square pm_sees_square cd_sees_square ct_sees_square : Value} {f_check_steps : Addr} {od_check_steps an_check_steps : Option Addr} {sl_check_steps : Array (Option Value)} {oc_check_steps kV_check_steps dc_check_steps pm_check_steps cd_check_steps ct_check_steps : Value} {u_MOST_STEPS : Value} {f_track : Addr} {od_track an_track : Option Addr} {sl_track : Array (Option Value)} {oc_track kV_track dc_track pm_track cd_track ct_track : Value} {f_steps_between : Addr} {od_steps_between an_steps_between : Option Addr} {sl_steps_between : Array (Option Value)} {oc_steps_between kV_steps_between dc_steps_between pm_steps_between cd_steps_between ct_steps_between : Value} {f_seen_steps : Addr} {od_seen_steps an_seen_steps : Option Addr} {sl_seen_steps : Array (Option Value)} {oc_seen_steps kV_seen_steps dc_seen_steps pm_seen_steps cd_seen_steps ct_seen_steps : Value} {f_between_maps : Addr} {od_between_maps an_between_maps : Option Addr} {sl_between_maps : Array (Option Value)} {oc_between_maps kV_between_maps dc_between_maps pm_between_maps cd_between_maps ct_between_maps : Value} {f__law_numbers : Addr} {od__law_numbers an__law_numbers : Option Addr} {sl__law_numbers : Array (Option Value)} {oc__law_numbers kV__law_numbers dc__law_numbers pm__law_numbers cd__law_numbers ct__law_numbers : Value} {f__law_same : Addr} {od__law_same an__law_same : Option Addr} {sl__law_same : Array (Option Value)} {oc__law_same kV__law_same dc__law_same pm__law_same cd__law_same ct__law_same : Value} {f__law_divisor : Addr} {od__law_divisor an__law_divisor : Option Addr} {sl__law_divisor : Array (Option Value)} {oc__law_divisor kV__law_divisor dc__law_divisor pm__law_divisor cd__law_divisor ct__law_divisor : Value} {f__law_short : Addr} {od__law_short an__law_short : Option Addr} {sl__law_short : Array (Option Value)} {oc__law_short kV__law_short dc__law_short pm__law_short cd__law_short ct__law_short : Value} {f__law_measure : Addr} {od__law_measure an__law_measure : Option Addr} {sl__law_measure : Array (Option Value)} {oc__law_measure kV__law_measure dc__law_measure pm__law_measure cd__law_measure ct__law_measure : Value} {f__law_then : Addr} {od__law_then an__law_then : Option Addr} {sl__law_then : Array (Option Value)} {oc__law_then kV__law_then dc__law_then pm__law_then cd__law_then ct__law_then : Value} {f__law_back : Addr} {od__law_back an__law_back : Option Addr} {sl__law_back : Array (Option Value)} {oc__law_back kV__law_back dc__law_back pm__law_back cd__law_back ct__law_back : Value} {f__law_map : Addr} {od__law_map an__law_map : Option Addr} {sl__law_map : Array (Option Value)} {oc__law_map kV__law_map dc__law_map pm__law_map cd__law_map ct__law_map : Value} {f__law_step : Addr} {od__law_step an__law_step : Option Addr} {sl__law_step : Array (Option Value)} {oc__law_step kV__law_step dc__law_step pm__law_step cd__law_step ct__law_step : Value} {f__law_sees : Addr} {od__law_sees an__law_sees : Option Addr} {sl__law_sees : Array (Option Value)} {oc__law_sees kV__law_sees dc__law_sees pm__law_sees cd__law_sees ct__law_sees : Value} {f__law_track_error : Addr} {od__law_track_error an__law_track_error : Option Addr} {sl__law_track_error : Array (Option Value)} {oc__law_track_error kV__law_track_error dc__law_track_error pm__law_track_error cd__law_track_error ct__law_track_error : Value} {C_AskewError : Addr} {f__law_steps_error : Addr} {od__law_steps_error an__law_steps_error : Option Addr} {sl__law_steps_error : Array (Option Value)} {oc__law_steps_error kV__law_steps_error dc__law_steps_error pm__law_steps_error cd__law_steps_error ct__law_steps_error : Value} {f__law_between_error : Addr} {od__law_between_error an__law_between_error : Option Addr} {sl__law_between_error : Array (Option Value)} {oc__law_between_error kV__law_between_error dc__law_between_error pm__law_between_error cd__law_between_error ct__law_between_error : Value} {f__law_between : Addr} {od__law_between an__law_between : Option Addr} {sl__law_between : Array (Option Value)} {oc__law_between kV__law_between dc__law_between pm__law_between cd__law_between ct__law_between : Value} {f__law_track_holds : Addr} {od__law_track_holds an__law_track_holds : Option Addr} {sl__law_track_holds : Array (Option Value)} {oc__law_track_holds kV__law_track_holds dc__law_track_holds pm__law_track_holds cd__law_track_holds ct__law_track_holds : Value} {f__law_between_holds : Addr} {od__law_between_holds an__law_between_holds : Option Addr} {sl__law_between_holds : Array (Option Value)} {oc__law_between_holds kV__law_between_holds dc__law_between_holds pm__law_between_holds cd__law_between_holds ct__law_between_holds : Value} {f_law : Addr} {od_law an_law : Option Addr} {sl_law : Array (Option Value)} {oc_law kV_law dc_law pm_law cd_law ct_law : Value} (X : K.In h) (G : h.Ns mainGlobals mg) (hfa : mg "law" = some (.ref fa))
    (aF_is_whole : PySem.W.nsIn K mainGlobals "is_whole" = some (some (.ref f_is_whole)))
    (lF_is_whole : K.lookup f_is_whole = some ⟨oc_is_whole, od_is_whole, .func (PySem.W.fnOf "is_whole" "is_whole" (defArgs s_is_whole) (defBody s_is_whole) (defScope s_is_whole) .none kV_is_whole dc_is_whole pm_is_whole an_is_whole cd_is_whole ct_is_whole), sl_is_whole⟩)
    (cF_is_whole : PySem.W.codeIn K cd_is_whole "is_whole" = true)
    (kF_is_whole : PySem.W.keepIn K (.ref f_is_whole) = true)
    (zB_int : PySem.W.nsIn K mainGlobals "int" = some none)
    (zB_isinstance : PySem.W.nsIn K mainGlobals "isinstance" = some none)
    (zB_bool : PySem.W.nsIn K mainGlobals "bool" = some none)
    (aF_lowest : PySem.W.nsIn K mainGlobals "lowest" = some (some (.ref f_lowest)))
    (lF_lowest : K.lookup f_lowest = some ⟨oc_lowest, od_lowest, .func (PySem.W.fnOf "lowest" "lowest" (defArgs s_lowest) (defBody s_lowest) (defScope s_lowest) .none kV_lowest dc_lowest pm_lowest an_lowest cd_lowest ct_lowest), sl_lowest⟩)
    (cF_lowest : PySem.W.codeIn K cd_lowest "lowest" = true)
    (kF_lowest : PySem.W.keepIn K (.ref f_lowest) = true)
    (zB_gcd : PySem.W.nsIn K mainGlobals "gcd" = some (some (.builtin "math.gcd")))
    (zB_tuple : PySem.W.nsIn K mainGlobals "tuple" = some none)
    (aF_measure : PySem.W.nsIn K mainGlobals "measure" = some (some (.ref f_measure)))
    (lF_measure : K.lookup f_measure = some ⟨oc_measure, od_measure, .func (PySem.W.fnOf "measure" "measure" (defArgs s_measure) (defBody s_measure) (defScope s_measure) .none kV_measure dc_measure pm_measure an_measure cd_measure ct_measure), sl_measure⟩)
    (cF_measure : PySem.W.codeIn K cd_measure "measure" = true)
    (kF_measure : PySem.W.keepIn K (.ref f_measure) = true)
    (aF_is_map : PySem.W.nsIn K mainGlobals "is_map" = some (some (.ref f_is_map)))
    (lF_is_map : K.lookup f_is_map = some ⟨oc_is_map, od_is_map, .func (PySem.W.fnOf "is_map" "is_map" (defArgs s_is_map) (defBody s_is_map) (defScope s_is_map) .none kV_is_map dc_is_map pm_is_map an_is_map cd_is_map ct_is_map), sl_is_map⟩)
    (cF_is_map : PySem.W.codeIn K cd_is_map "is_map" = true)
    (kF_is_map : PySem.W.keepIn K (.ref f_is_map) = true)
    (zB_len : PySem.W.nsIn K mainGlobals "len" = some none)
    (zB_all : PySem.W.nsIn K mainGlobals "all" = some none)
    (aF_check_map : PySem.W.nsIn K mainGlobals "check_map" = some (some (.ref f_check_map)))
    (lF_check_map : K.lookup f_check_map = some ⟨oc_check_map, od_check_map, .func (PySem.W.fnOf "check_map" "check_map" (defArgs s_check_map) (defBody s_check_map) (defScope s_check_map) .none kV_check_map dc_check_map pm_check_map an_check_map cd_check_map ct_check_map), sl_check_map⟩)
    (cF_check_map : PySem.W.codeIn K cd_check_map "check_map" = true)
    (kF_check_map : PySem.W.keepIn K (.ref f_check_map) = true)
    (aX_BadMap : PySem.W.nsIn K mainGlobals "BadMap" = some (some (.ref C_BadMap)))
    (hfile : P.main.file = "/claim/cut.py")
    (htop : (P.main.scope.names.lookup ("super" : Str)).isSome = false)
    (hno : PySem.W.nsIn K cStatics "thirdparty.any" = some none)
    (zSuper : PySem.W.nsIn K mainGlobals "super" = some none)
    (xL_BadMap : K.lookup C_BadMap = some (excClassObj nm_BadMap q_BadMap C_BadMap N_BadMap bs_BadMap bm_BadMap true sn_BadMap sub_BadMap ab_BadMap col_BadMap dd_BadMap m0_BadMap m1_BadMap m2_BadMap m3_BadMap m5_BadMap "ValueError.__new__"))
    (vL_BadMap : PySem.HandSPX.refsVE bm_BadMap = true)
    (sa_BadMap : PySem.W.findIn K (.ref C_BadMap) "__setattr__" = some (some (.builtin "object.__setattr__")))
    (ga_BadMap : PySem.W.findIn K (.ref C_BadMap) "__getattribute__" = some (some (.builtin "BaseException.__getattribute__")))
    (gg_BadMap : PySem.W.findIn K (.ref C_BadMap) "__getattr__" = some none)
    (nf_BadMap : PySem.W.findIn K (.ref C_BadMap) "reason" = some none)
    (iC_BadMap : PySem.W.findIn K (.ref C_BadMap) "__init__" = some (some (.ref fI_BadMap)))
    (tI_BadMap : PySem.W.typeIn K (.ref fI_BadMap) = some (.type "function"))
    (lF_BadMap : K.lookup fI_BadMap = some ⟨oc_BadMap, od_BadMap, .func ((supF "BadMap" "reason" st_BadMap cda_BadMap cc_BadMap).fd doc_BadMap pm_BadMap ctv_BadMap), sl_BadMap⟩)
    (cF_BadMap : PySem.W.codeIn K (.ref cda_BadMap) ("BadMap" ++ ".__init__") = true)
    (kF_BadMap : PySem.W.keepIn K (.ref fI_BadMap) = true)
    (kX_BadMap : PySem.W.keepIn K (.ref C_BadMap) = true)
    (bX_BadMap : PySem.W.subIn K (.ref C_BadMap) (.type "BaseException") = some true)
    (tX_BadMap : PySem.W.typeIn K (.ref C_BadMap) = some (.type "type"))
    (dX_BadMap : PySem.W.hasDictIn K C_BadMap = true)
    (lC_BadMap : K.lookup cda_BadMap = some ⟨oc2_BadMap, od2_BadMap, .fields vs_BadMap, sl2_BadMap⟩)
    (fC_BadMap : vs_BadMap[2]? = some (.str (Str.ofString "/claim/cut.py") tf_BadMap))
    (lcc_BadMap : K.lookup cc_BadMap = some ⟨oc3_BadMap, od3_BadMap, .cell (some (.ref C_BadMap)), sl3_BadMap⟩)
    (hD_BadMap : PySem.W.clsIn K C_BadMap = some cd_BadMap)
    (hsub_BadMap : PySem.W.mroIn K C_BadMap (.ref C_BadMap) = some true)
    (hVE_BadMap : PySem.W.mroIn K C_BadMap (.type "ValueError") = some true)
    (hal_BadMap : PySem.W.alongIn K "__init__" ((cd_BadMap.mro.dropWhile (· != .ref C_BadMap)).drop 1) = some (some (.builtin "ValueError.__init__")))
    (aF_depth : PySem.W.nsIn K mainGlobals "depth" = some (some (.ref f_depth)))
    (lF_depth : K.lookup f_depth = some ⟨oc_depth, od_depth, .func (PySem.W.fnOf "depth" "depth" (defArgs s_depth) (defBody s_depth) (defScope s_depth) .none kV_depth dc_depth pm_depth an_depth cd_depth ct_depth), sl_depth⟩)
    (cF_depth : PySem.W.codeIn K cd_depth "depth" = true)
    (kF_depth : PySem.W.keepIn K (.ref f_depth) = true)
    (aF_is_seen : PySem.W.nsIn K mainGlobals "is_seen" = some (some (.ref f_is_seen)))
    (lF_is_seen : K.lookup f_is_seen = some ⟨oc_is_seen, od_is_seen, .func (PySem.W.fnOf "is_seen" "is_seen" (defArgs s_is_seen) (defBody s_is_seen) (defScope s_is_seen) .none kV_is_seen dc_is_seen pm_is_seen an_is_seen cd_is_seen ct_is_seen), sl_is_seen⟩)
    (cF_is_seen : PySem.W.codeIn K cd_is_seen "is_seen" = true)
    (kF_is_seen : PySem.W.keepIn K (.ref f_is_seen) = true)
    (aF_first_then : PySem.W.nsIn K mainGlobals "first_then" = some (some (.ref f_first_then)))
    (lF_first_then : K.lookup f_first_then = some ⟨oc_first_then, od_first_then, .func (PySem.W.fnOf "first_then" "first_then" (defArgs s_first_then) (defBody s_first_then) (defScope s_first_then) .none kV_first_then dc_first_then pm_first_then an_first_then cd_first_then ct_first_then), sl_first_then⟩)
    (cF_first_then : PySem.W.codeIn K cd_first_then "first_then" = true)
    (kF_first_then : PySem.W.keepIn K (.ref f_first_then) = true)
    (zB_range : PySem.W.nsIn K mainGlobals "range" = some none)
    (zB_sum : PySem.W.nsIn K mainGlobals "sum" = some none)
    (aF_cofactors : PySem.W.nsIn K mainGlobals "cofactors" = some (some (.ref f_cofactors)))
    (lF_cofactors : K.lookup f_cofactors = some ⟨oc_cofactors, od_cofactors, .func (PySem.W.fnOf "cofactors" "cofactors" (defArgs s_cofactors) (defBody s_cofactors) (defScope s_cofactors) .none kV_cofactors dc_cofactors pm_cofactors an_cofactors cd_cofactors ct_cofactors), sl_cofactors⟩)
    (cF_cofactors : PySem.W.codeIn K cd_cofactors "cofactors" = true)
    (kF_cofactors : PySem.W.keepIn K (.ref f_cofactors) = true)
    (aF_back_map : PySem.W.nsIn K mainGlobals "back_map" = some (some (.ref f_back_map)))
    (lF_back_map : K.lookup f_back_map = some ⟨oc_back_map, od_back_map, .func (PySem.W.fnOf "back_map" "back_map" (defArgs s_back_map) (defBody s_back_map) (defScope s_back_map) .none kV_back_map dc_back_map pm_back_map an_back_map cd_back_map ct_back_map), sl_back_map⟩)
    (cF_back_map : PySem.W.codeIn K cd_back_map "back_map" = true)
    (kF_back_map : PySem.W.keepIn K (.ref f_back_map) = true)
    (aF_sees_square : PySem.W.nsIn K mainGlobals "sees_square" = some (some (.ref f_sees_square)))
    (lF_sees_square : K.lookup f_sees_square = some ⟨oc_sees_square, od_sees_square, .func (PySem.W.fnOf "sees_square" "sees_square" (defArgs s_sees_square) (defBody s_sees_square) (defScope s_sees_square) .none kV_sees_square dc_sees_square pm_sees_square an_sees_square cd_sees_square ct_sees_square), sl_sees_square⟩)
    (cF_sees_square : PySem.W.codeIn K cd_sees_square "sees_square" = true)
    (kF_sees_square : PySem.W.keepIn K (.ref f_sees_square) = true)
    (aF_check_steps : PySem.W.nsIn K mainGlobals "check_steps" = some (some (.ref f_check_steps)))
    (lF_check_steps : K.lookup f_check_steps = some ⟨oc_check_steps, od_check_steps, .func (PySem.W.fnOf "check_steps" "check_steps" (defArgs s_check_steps) (defBody s_check_steps) (defScope s_check_steps) .none kV_check_steps dc_check_steps pm_check_steps an_check_steps cd_check_steps ct_check_steps), sl_check_steps⟩)
    (cF_check_steps : PySem.W.codeIn K cd_check_steps "check_steps" = true)
    (kF_check_steps : PySem.W.keepIn K (.ref f_check_steps) = true)
    (zB_list : PySem.W.nsIn K mainGlobals "list" = some none)
    (aC_MOST_STEPS : PySem.W.nsIn K mainGlobals "MOST_STEPS" = some (some u_MOST_STEPS))
    (rC_MOST_STEPS : RelV (.int (20)) u_MOST_STEPS)
    (aF_track : PySem.W.nsIn K mainGlobals "track" = some (some (.ref f_track)))
    (lF_track : K.lookup f_track = some ⟨oc_track, od_track, .func (PySem.W.fnOf "track" "track" (defArgs s_track) (defBody s_track) (defScope s_track) .none kV_track dc_track pm_track an_track cd_track ct_track), sl_track⟩)
    (cF_track : PySem.W.codeIn K cd_track "track" = true)
    (kF_track : PySem.W.keepIn K (.ref f_track) = true)
    (aF_steps_between : PySem.W.nsIn K mainGlobals "steps_between" = some (some (.ref f_steps_between)))
    (lF_steps_between : K.lookup f_steps_between = some ⟨oc_steps_between, od_steps_between, .func (PySem.W.fnOf "steps_between" "steps_between" (defArgs s_steps_between) (defBody s_steps_between) (defScope s_steps_between) .none kV_steps_between dc_steps_between pm_steps_between an_steps_between cd_steps_between ct_steps_between), sl_steps_between⟩)
    (cF_steps_between : PySem.W.codeIn K cd_steps_between "steps_between" = true)
    (kF_steps_between : PySem.W.keepIn K (.ref f_steps_between) = true)
    (zB_zip : PySem.W.nsIn K mainGlobals "zip" = some none)
    (aF_seen_steps : PySem.W.nsIn K mainGlobals "seen_steps" = some (some (.ref f_seen_steps)))
    (lF_seen_steps : K.lookup f_seen_steps = some ⟨oc_seen_steps, od_seen_steps, .func (PySem.W.fnOf "seen_steps" "seen_steps" (defArgs s_seen_steps) (defBody s_seen_steps) (defScope s_seen_steps) .none kV_seen_steps dc_seen_steps pm_seen_steps an_seen_steps cd_seen_steps ct_seen_steps), sl_seen_steps⟩)
    (cF_seen_steps : PySem.W.codeIn K cd_seen_steps "seen_steps" = true)
    (kF_seen_steps : PySem.W.keepIn K (.ref f_seen_steps) = true)
    (zB_enumerate : PySem.W.nsIn K mainGlobals "enumerate" = some none)
    (aF_between_maps : PySem.W.nsIn K mainGlobals "between_maps" = some (some (.ref f_between_maps)))
    (lF_between_maps : K.lookup f_between_maps = some ⟨oc_between_maps, od_between_maps, .func (PySem.W.fnOf "between_maps" "between_maps" (defArgs s_between_maps) (defBody s_between_maps) (defScope s_between_maps) .none kV_between_maps dc_between_maps pm_between_maps an_between_maps cd_between_maps ct_between_maps), sl_between_maps⟩)
    (cF_between_maps : PySem.W.codeIn K cd_between_maps "between_maps" = true)
    (kF_between_maps : PySem.W.keepIn K (.ref f_between_maps) = true)
    (aF__law_numbers : PySem.W.nsIn K mainGlobals "_law_numbers" = some (some (.ref f__law_numbers)))
    (lF__law_numbers : K.lookup f__law_numbers = some ⟨oc__law_numbers, od__law_numbers, .func (PySem.W.fnOf "_law_numbers" "_law_numbers" (defArgs s__law_numbers) (defBody s__law_numbers) (defScope s__law_numbers) .none kV__law_numbers dc__law_numbers pm__law_numbers an__law_numbers cd__law_numbers ct__law_numbers), sl__law_numbers⟩)
    (cF__law_numbers : PySem.W.codeIn K cd__law_numbers "_law_numbers" = true)
    (kF__law_numbers : PySem.W.keepIn K (.ref f__law_numbers) = true)
    (aF__law_same : PySem.W.nsIn K mainGlobals "_law_same" = some (some (.ref f__law_same)))
    (lF__law_same : K.lookup f__law_same = some ⟨oc__law_same, od__law_same, .func (PySem.W.fnOf "_law_same" "_law_same" (defArgs s__law_same) (defBody s__law_same) (defScope s__law_same) .none kV__law_same dc__law_same pm__law_same an__law_same cd__law_same ct__law_same), sl__law_same⟩)
    (cF__law_same : PySem.W.codeIn K cd__law_same "_law_same" = true)
    (kF__law_same : PySem.W.keepIn K (.ref f__law_same) = true)
    (zB_str : PySem.W.nsIn K mainGlobals "str" = some none)
    (aF__law_divisor : PySem.W.nsIn K mainGlobals "_law_divisor" = some (some (.ref f__law_divisor)))
    (lF__law_divisor : K.lookup f__law_divisor = some ⟨oc__law_divisor, od__law_divisor, .func (PySem.W.fnOf "_law_divisor" "_law_divisor" (defArgs s__law_divisor) (defBody s__law_divisor) (defScope s__law_divisor) .none kV__law_divisor dc__law_divisor pm__law_divisor an__law_divisor cd__law_divisor ct__law_divisor), sl__law_divisor⟩)
    (cF__law_divisor : PySem.W.codeIn K cd__law_divisor "_law_divisor" = true)
    (kF__law_divisor : PySem.W.keepIn K (.ref f__law_divisor) = true)
    (zB_abs : PySem.W.nsIn K mainGlobals "abs" = some none)
    (aF__law_short : PySem.W.nsIn K mainGlobals "_law_short" = some (some (.ref f__law_short)))
    (lF__law_short : K.lookup f__law_short = some ⟨oc__law_short, od__law_short, .func (PySem.W.fnOf "_law_short" "_law_short" (defArgs s__law_short) (defBody s__law_short) (defScope s__law_short) .none kV__law_short dc__law_short pm__law_short an__law_short cd__law_short ct__law_short), sl__law_short⟩)
    (cF__law_short : PySem.W.codeIn K cd__law_short "_law_short" = true)
    (kF__law_short : PySem.W.keepIn K (.ref f__law_short) = true)
    (aF__law_measure : PySem.W.nsIn K mainGlobals "_law_measure" = some (some (.ref f__law_measure)))
    (lF__law_measure : K.lookup f__law_measure = some ⟨oc__law_measure, od__law_measure, .func (PySem.W.fnOf "_law_measure" "_law_measure" (defArgs s__law_measure) (defBody s__law_measure) (defScope s__law_measure) .none kV__law_measure dc__law_measure pm__law_measure an__law_measure cd__law_measure ct__law_measure), sl__law_measure⟩)
    (cF__law_measure : PySem.W.codeIn K cd__law_measure "_law_measure" = true)
    (kF__law_measure : PySem.W.keepIn K (.ref f__law_measure) = true)
    (aF__law_then : PySem.W.nsIn K mainGlobals "_law_then" = some (some (.ref f__law_then)))
    (lF__law_then : K.lookup f__law_then = some ⟨oc__law_then, od__law_then, .func (PySem.W.fnOf "_law_then" "_law_then" (defArgs s__law_then) (defBody s__law_then) (defScope s__law_then) .none kV__law_then dc__law_then pm__law_then an__law_then cd__law_then ct__law_then), sl__law_then⟩)
    (cF__law_then : PySem.W.codeIn K cd__law_then "_law_then" = true)
    (kF__law_then : PySem.W.keepIn K (.ref f__law_then) = true)
    (aF__law_back : PySem.W.nsIn K mainGlobals "_law_back" = some (some (.ref f__law_back)))
    (lF__law_back : K.lookup f__law_back = some ⟨oc__law_back, od__law_back, .func (PySem.W.fnOf "_law_back" "_law_back" (defArgs s__law_back) (defBody s__law_back) (defScope s__law_back) .none kV__law_back dc__law_back pm__law_back an__law_back cd__law_back ct__law_back), sl__law_back⟩)
    (cF__law_back : PySem.W.codeIn K cd__law_back "_law_back" = true)
    (kF__law_back : PySem.W.keepIn K (.ref f__law_back) = true)
    (aF__law_map : PySem.W.nsIn K mainGlobals "_law_map" = some (some (.ref f__law_map)))
    (lF__law_map : K.lookup f__law_map = some ⟨oc__law_map, od__law_map, .func (PySem.W.fnOf "_law_map" "_law_map" (defArgs s__law_map) (defBody s__law_map) (defScope s__law_map) .none kV__law_map dc__law_map pm__law_map an__law_map cd__law_map ct__law_map), sl__law_map⟩)
    (cF__law_map : PySem.W.codeIn K cd__law_map "_law_map" = true)
    (kF__law_map : PySem.W.keepIn K (.ref f__law_map) = true)
    (aF__law_step : PySem.W.nsIn K mainGlobals "_law_step" = some (some (.ref f__law_step)))
    (lF__law_step : K.lookup f__law_step = some ⟨oc__law_step, od__law_step, .func (PySem.W.fnOf "_law_step" "_law_step" (defArgs s__law_step) (defBody s__law_step) (defScope s__law_step) .none kV__law_step dc__law_step pm__law_step an__law_step cd__law_step ct__law_step), sl__law_step⟩)
    (cF__law_step : PySem.W.codeIn K cd__law_step "_law_step" = true)
    (kF__law_step : PySem.W.keepIn K (.ref f__law_step) = true)
    (aF__law_sees : PySem.W.nsIn K mainGlobals "_law_sees" = some (some (.ref f__law_sees)))
    (lF__law_sees : K.lookup f__law_sees = some ⟨oc__law_sees, od__law_sees, .func (PySem.W.fnOf "_law_sees" "_law_sees" (defArgs s__law_sees) (defBody s__law_sees) (defScope s__law_sees) .none kV__law_sees dc__law_sees pm__law_sees an__law_sees cd__law_sees ct__law_sees), sl__law_sees⟩)
    (cF__law_sees : PySem.W.codeIn K cd__law_sees "_law_sees" = true)
    (kF__law_sees : PySem.W.keepIn K (.ref f__law_sees) = true)
    (aF__law_track_error : PySem.W.nsIn K mainGlobals "_law_track_error" = some (some (.ref f__law_track_error)))
    (lF__law_track_error : K.lookup f__law_track_error = some ⟨oc__law_track_error, od__law_track_error, .func (PySem.W.fnOf "_law_track_error" "_law_track_error" (defArgs s__law_track_error) (defBody s__law_track_error) (defScope s__law_track_error) .none kV__law_track_error dc__law_track_error pm__law_track_error an__law_track_error cd__law_track_error ct__law_track_error), sl__law_track_error⟩)
    (cF__law_track_error : PySem.W.codeIn K cd__law_track_error "_law_track_error" = true)
    (kF__law_track_error : PySem.W.keepIn K (.ref f__law_track_error) = true)
    (sX_BadMap_BadMap : PySem.W.subIn K (.ref C_BadMap) (.ref C_BadMap) = some true)
    (aX_AskewError : PySem.W.nsIn K mainGlobals "AskewError" = some (some (.ref C_AskewError)))
    (sX_AskewError_BadMap : PySem.W.subIn K (.ref C_AskewError) (.ref C_BadMap) = some false)
    (aF__law_steps_error : PySem.W.nsIn K mainGlobals "_law_steps_error" = some (some (.ref f__law_steps_error)))
    (lF__law_steps_error : K.lookup f__law_steps_error = some ⟨oc__law_steps_error, od__law_steps_error, .func (PySem.W.fnOf "_law_steps_error" "_law_steps_error" (defArgs s__law_steps_error) (defBody s__law_steps_error) (defScope s__law_steps_error) .none kV__law_steps_error dc__law_steps_error pm__law_steps_error an__law_steps_error cd__law_steps_error ct__law_steps_error), sl__law_steps_error⟩)
    (cF__law_steps_error : PySem.W.codeIn K cd__law_steps_error "_law_steps_error" = true)
    (kF__law_steps_error : PySem.W.keepIn K (.ref f__law_steps_error) = true)
    (aF__law_between_error : PySem.W.nsIn K mainGlobals "_law_between_error" = some (some (.ref f__law_between_error)))
    (lF__law_between_error : K.lookup f__law_between_error = some ⟨oc__law_between_error, od__law_between_error, .func (PySem.W.fnOf "_law_between_error" "_law_between_error" (defArgs s__law_between_error) (defBody s__law_between_error) (defScope s__law_between_error) .none kV__law_between_error dc__law_between_error pm__law_between_error an__law_between_error cd__law_between_error ct__law_between_error), sl__law_between_error⟩)
    (cF__law_between_error : PySem.W.codeIn K cd__law_between_error "_law_between_error" = true)
    (kF__law_between_error : PySem.W.keepIn K (.ref f__law_between_error) = true)
    (aF__law_between : PySem.W.nsIn K mainGlobals "_law_between" = some (some (.ref f__law_between)))
    (lF__law_between : K.lookup f__law_between = some ⟨oc__law_between, od__law_between, .func (PySem.W.fnOf "_law_between" "_law_between" (defArgs s__law_between) (defBody s__law_between) (defScope s__law_between) .none kV__law_between dc__law_between pm__law_between an__law_between cd__law_between ct__law_between), sl__law_between⟩)
    (cF__law_between : PySem.W.codeIn K cd__law_between "_law_between" = true)
    (kF__law_between : PySem.W.keepIn K (.ref f__law_between) = true)
    (aF__law_track_holds : PySem.W.nsIn K mainGlobals "_law_track_holds" = some (some (.ref f__law_track_holds)))
    (lF__law_track_holds : K.lookup f__law_track_holds = some ⟨oc__law_track_holds, od__law_track_holds, .func (PySem.W.fnOf "_law_track_holds" "_law_track_holds" (defArgs s__law_track_holds) (defBody s__law_track_holds) (defScope s__law_track_holds) .none kV__law_track_holds dc__law_track_holds pm__law_track_holds an__law_track_holds cd__law_track_holds ct__law_track_holds), sl__law_track_holds⟩)
    (cF__law_track_holds : PySem.W.codeIn K cd__law_track_holds "_law_track_holds" = true)
    (kF__law_track_holds : PySem.W.keepIn K (.ref f__law_track_holds) = true)
    (zB_reversed : PySem.W.nsIn K mainGlobals "reversed" = some none)
    (aF__law_between_holds : PySem.W.nsIn K mainGlobals "_law_between_holds" = some (some (.ref f__law_between_holds)))
    (lF__law_between_holds : K.lookup f__law_between_holds = some ⟨oc__law_between_holds, od__law_between_holds, .func (PySem.W.fnOf "_law_between_holds" "_law_between_holds" (defArgs s__law_between_holds) (defBody s__law_between_holds) (defScope s__law_between_holds) .none kV__law_between_holds dc__law_between_holds pm__law_between_holds an__law_between_holds cd__law_between_holds ct__law_between_holds), sl__law_between_holds⟩)
    (cF__law_between_holds : PySem.W.codeIn K cd__law_between_holds "_law_between_holds" = true)
    (kF__law_between_holds : PySem.W.keepIn K (.ref f__law_between_holds) = true)
    (aF_law : PySem.W.nsIn K mainGlobals "law" = some (some (.ref f_law)))
    (lF_law : K.lookup f_law = some ⟨oc_law, od_law, .func (PySem.W.fnOf "law" "law" (defArgs s_law) (defBody s_law) (defScope s_law) .none kV_law dc_law pm_law an_law cd_law ct_law), sl_law⟩)
    (cF_law : PySem.W.codeIn K cd_law "law" = true)
    (kF_law : PySem.W.keepIn K (.ref f_law) = true)
    : ∃ fd : FuncData, (∀ (s : Shared) (v : Value), BindsTo s fd ⟨[v], []⟩ [("script", v)]) ∧ ∀ base : Heap, K.In base → base.Ns mainGlobals mg → FnOk P w K mg base (L2.CX P w) 43 fa fd ["script"] (spF K mg 1 m_law) := by
  have e := hfa.symm.trans (PySem.W.mg_of X G aF_law)
  cases e
  refine ⟨PySem.W.fnOf "law" "law" (defArgs s_law) (defBody s_law) (defScope s_law) .none kV_law dc_law pm_law an_law cd_law ct_law, fun s v => .of_eq rfl, fun base _ _ => ?_⟩
  have kk_is_whole : Fk P w K mg base 1 "is_whole" 1 m_is_whole := ok_is_whole (fun_mk (st := s_is_whole) lF_is_whole cF_is_whole kF_is_whole) (PySem.W.mg_of X G aF_is_whole) (PySem.W.mg_none_of X G zB_int) (PySem.W.mg_none_of X G zB_isinstance) (PySem.W.mg_none_of X G zB_bool)
  have kk_lowest : Fk P w K mg base 1 "lowest" 1 m_lowest := ok_lowest (fun_mk (st := s_lowest) lF_lowest cF_lowest kF_lowest) (PySem.W.mg_of X G aF_lowest) (PySem.W.mg_of X G zB_gcd) (PySem.W.mg_none_of X G zB_tuple)
  have kk_measure : Fk P w K mg base 1 "measure" 1 m_measure := ok_measure (fun_mk (st := s_measure) lF_measure cF_measure kF_measure) (PySem.W.mg_of X G aF_measure) 
  have kk_is_map : Fk P w K mg base 2 "is_map" 1 m_is_map := ok_is_map (fun_mk (st := s_is_map) lF_is_map cF_is_map kF_is_map) (PySem.W.mg_of X G aF_is_map) (PySem.W.mg_none_of X G zB_tuple) (PySem.W.mg_none_of X G zB_isinstance) (PySem.W.mg_none_of X G zB_len) kk_is_whole (PySem.W.mg_none_of X G zB_all) kk_measure kk_lowest
  have kk_check_map : Fk P w K mg base 3 "check_map" 1 m_check_map := ok_check_map (fun_mk (st := s_check_map) lF_check_map cF_check_map kF_check_map) (PySem.W.mg_of X G aF_check_map) kk_is_map (ex1_mk (a := "reason") X G aX_BadMap xL_BadMap vL_BadMap sa_BadMap ga_BadMap gg_BadMap nf_BadMap iC_BadMap tI_BadMap lF_BadMap cF_BadMap kF_BadMap kX_BadMap bX_BadMap tX_BadMap dX_BadMap lC_BadMap fC_BadMap lcc_BadMap hD_BadMap hsub_BadMap hVE_BadMap hal_BadMap hno zSuper (by decide +kernel) rfl (by first | rfl | decide +kernel) rfl rfl hfile htop (fun _ _ => rfl) (fun _ _ => rfl) (fun _ _ => rfl) (fun _ _ => rfl) (by decide) (by decide) (fun us hl => match us, hl with | [_, _], _ => rfl))
  have kk_depth : Fk P w K mg base 1 "depth" 3 m_depth := ok_depth (fun_mk (st := s_depth) lF_depth cF_depth kF_depth) (PySem.W.mg_of X G aF_depth) 
  have kk_is_seen : Fk P w K mg base 2 "is_seen" 2 m_is_seen := ok_is_seen (fun_mk (st := s_is_seen) lF_is_seen cF_is_seen kF_is_seen) (PySem.W.mg_of X G aF_is_seen) kk_depth
  have kk_first_then : Fk P w K mg base 2 "first_then" 2 m_first_then := ok_first_then (fun_mk (st := s_first_then) lF_first_then cF_first_then kF_first_then) (PySem.W.mg_of X G aF_first_then) (PySem.W.mg_none_of X G zB_range) (PySem.W.mg_none_of X G zB_sum) kk_lowest
  have kk_cofactors : Fk P w K mg base 1 "cofactors" 1 m_cofactors := ok_cofactors (fun_mk (st := s_cofactors) lF_cofactors cF_cofactors kF_cofactors) (PySem.W.mg_of X G aF_cofactors) 
  have kk_back_map : Fk P w K mg base 2 "back_map" 1 m_back_map := ok_back_map (fun_mk (st := s_back_map) lF_back_map cF_back_map kF_back_map) (PySem.W.mg_of X G aF_back_map) kk_cofactors kk_measure (PySem.W.mg_none_of X G zB_tuple) kk_lowest
  have kk_sees_square : Fk P w K mg base 3 "sees_square" 2 m_sees_square := ok_sees_square (fun_mk (st := s_sees_square) lF_sees_square cF_sees_square kF_sees_square) (PySem.W.mg_of X G aF_sees_square) (PySem.W.mg_none_of X G zB_range) kk_is_seen (PySem.W.mg_none_of X G zB_all)
  have kk_check_steps : Fk P w K mg base 3 "check_steps" 1 m_check_steps := ok_check_steps (v_MOST_STEPS := .int (20)) (fun_mk (st := s_check_steps) lF_check_steps cF_check_steps kF_check_steps) (PySem.W.mg_of X G aF_check_steps) (PySem.W.mg_none_of X G zB_list) (PySem.W.mg_none_of X G zB_isinstance) (PySem.W.mg_none_of X G zB_len) ⟨_, PySem.W.mg_of X G aC_MOST_STEPS, rC_MOST_STEPS⟩ (fun _ => rfl) kk_is_map (PySem.W.mg_none_of X G zB_all) (ex1_mk (a := "reason") X G aX_BadMap xL_BadMap vL_BadMap sa_BadMap ga_BadMap gg_BadMap nf_BadMap iC_BadMap tI_BadMap lF_BadMap cF_BadMap kF_BadMap kX_BadMap bX_BadMap tX_BadMap dX_BadMap lC_BadMap fC_BadMap lcc_BadMap hD_BadMap hsub_BadMap hVE_BadMap hal_BadMap hno zSuper (by decide +kernel) rfl (by first | rfl | decide +kernel) rfl rfl hfile htop (fun _ _ => rfl) (fun _ _ => rfl) (fun _ _ => rfl) (fun _ _ => rfl) (by decide) (by decide) (fun us hl => match us, hl with | [_, _], _ => rfl))
  have kk_track : Fk P w K mg base 4 "track" 2 m_track := ok_track (fun_mk (st := s_track) lF_track cF_track kF_track) (PySem.W.mg_of X G aF_track) kk_check_map kk_check_steps kk_first_then
  have kkl_track : FkL P w K mg base 4 "track" 2 ml_track := okl_track (fun_mk (st := s_track) lF_track cF_track kF_track) (PySem.W.mg_of X G aF_track) kk_check_map kk_check_steps kk_first_then
  have kk_steps_between : Fk P w K mg base 4 "steps_between" 1 m_steps_between := ok_steps_between (fun_mk (st := s_steps_between) lF_steps_between cF_steps_between kF_steps_between) (PySem.W.mg_of X G aF_steps_between) kk_check_steps (PySem.W.mg_none_of X G zB_zip) kk_first_then kk_back_map
  have kk_seen_steps : Fk P w K mg base 4 "seen_steps" 2 m_seen_steps := ok_seen_steps (fun_mk (st := s_seen_steps) lF_seen_steps cF_seen_steps kF_seen_steps) (PySem.W.mg_of X G aF_seen_steps) (PySem.W.mg_none_of X G zB_enumerate) kk_sees_square
  have kk_between_maps : Fk P w K mg base 3 "between_maps" 4 m_between_maps := ok_between_maps (fun_mk (st := s_between_maps) lF_between_maps cF_between_maps kF_between_maps) (PySem.W.mg_of X G aF_between_maps) kk_is_whole (ex1_mk (a := "reason") X G aX_BadMap xL_BadMap vL_BadMap sa_BadMap ga_BadMap gg_BadMap nf_BadMap iC_BadMap tI_BadMap lF_BadMap cF_BadMap kF_BadMap kX_BadMap bX_BadMap tX_BadMap dX_BadMap lC_BadMap fC_BadMap lcc_BadMap hD_BadMap hsub_BadMap hVE_BadMap hal_BadMap hno zSuper (by decide +kernel) rfl (by first | rfl | decide +kernel) rfl rfl hfile htop (fun _ _ => rfl) (fun _ _ => rfl) (fun _ _ => rfl) (fun _ _ => rfl) (by decide) (by decide) (fun us hl => match us, hl with | [_, _], _ => rfl)) (PySem.W.mg_none_of X G zB_zip) kk_lowest kk_is_map
  have kk__law_numbers : Fk P w K mg base 1 "_law_numbers" 3 m__law_numbers := ok__law_numbers (fun_mk (st := s__law_numbers) lF__law_numbers cF__law_numbers kF__law_numbers) (PySem.W.mg_of X G aF__law_numbers) (PySem.W.mg_none_of X G zB_len) (PySem.W.mg_none_of X G zB_int) (PySem.W.mg_none_of X G zB_range)
  have kk__law_same : Fk P w K mg base 41 "_law_same" 2 (m__law_same 40) := ok__law_same (fun_mk (st := s__law_same) lF__law_same cF__law_same kF__law_same) (PySem.W.mg_of X G aF__law_same) (PySem.W.mg_none_of X G zB_str) (PySem.W.mg_none_of X G zB_isinstance) (PySem.W.mg_none_of X G zB_int) (PySem.W.mg_none_of X G zB_bool) (PySem.W.mg_none_of X G zB_tuple) (PySem.W.mg_none_of X G zB_list) (PySem.W.mg_none_of X G zB_len) (PySem.W.mg_none_of X G zB_range) 40
  have kk__law_divisor : Fk P w K mg base 1 "_law_divisor" 2 m__law_divisor := ok__law_divisor (fun_mk (st := s__law_divisor) lF__law_divisor cF__law_divisor kF__law_divisor) (PySem.W.mg_of X G aF__law_divisor) (PySem.W.mg_none_of X G zB_abs) (PySem.W.mg_none_of X G zB_range)
  have kk__law_short : Fk P w K mg base 2 "_law_short" 1 m__law_short := ok__law_short (fun_mk (st := s__law_short) lF__law_short cF__law_short kF__law_short) (PySem.W.mg_of X G aF__law_short) kk__law_divisor (PySem.W.mg_none_of X G zB_tuple)
  have kk__law_measure : Fk P w K mg base 1 "_law_measure" 1 m__law_measure := ok__law_measure (fun_mk (st := s__law_measure) lF__law_measure cF__law_measure kF__law_measure) (PySem.W.mg_of X G aF__law_measure) 
  have kk__law_then : Fk P w K mg base 3 "_law_then" 2 m__law_then := ok__law_then (fun_mk (st := s__law_then) lF__law_then cF__law_then kF__law_then) (PySem.W.mg_of X G aF__law_then) (PySem.W.mg_none_of X G zB_range) kk__law_short
  have kk__law_back : Fk P w K mg base 3 "_law_back" 1 m__law_back := ok__law_back (fun_mk (st := s__law_back) lF__law_back cF__law_back kF__law_back) (PySem.W.mg_of X G aF__law_back) kk__law_measure kk__law_short
  have kk__law_map : Fk P w K mg base 3 "_law_map" 1 m__law_map := ok__law_map (fun_mk (st := s__law_map) lF__law_map cF__law_map kF__law_map) (PySem.W.mg_of X G aF__law_map) (PySem.W.mg_none_of X G zB_range) kk__law_measure kk__law_short
  have kk__law_step : Fk P w K mg base 3 "_law_step" 1 m__law_step := ok__law_step (fun_mk (st := s__law_step) lF__law_step cF__law_step kF__law_step) (PySem.W.mg_of X G aF__law_step) kk__law_short
  have kk__law_sees : Fk P w K mg base 1 "_law_sees" 2 m__law_sees := ok__law_sees (fun_mk (st := s__law_sees) lF__law_sees cF__law_sees kF__law_sees) (PySem.W.mg_of X G aF__law_sees) 
  have kk__law_track_error : Fk P w K mg base 5 "_law_track_error" 2 m__law_track_error := ok__law_track_error (fun_mk (st := s__law_track_error) lF__law_track_error cF__law_track_error kF__law_track_error) (PySem.W.mg_of X G aF__law_track_error) kk_track (ex1_mk (a := "reason") X G aX_BadMap xL_BadMap vL_BadMap sa_BadMap ga_BadMap gg_BadMap nf_BadMap iC_BadMap tI_BadMap lF_BadMap cF_BadMap kF_BadMap kX_BadMap bX_BadMap tX_BadMap dX_BadMap lC_BadMap fC_BadMap lcc_BadMap hD_BadMap hsub_BadMap hVE_BadMap hal_BadMap hno zSuper (by decide +kernel) rfl (by first | rfl | decide +kernel) rfl rfl hfile htop (fun _ _ => rfl) (fun _ _ => rfl) (fun _ _ => rfl) (fun _ _ => rfl) (by decide) (by decide) (fun us hl => match us, hl with | [_, _], _ => rfl)) (PySem.W.mg_of X G aX_BadMap) (cat_cons X G aX_AskewError bX_BadMap dX_BadMap tX_BadMap sX_AskewError_BadMap (cat_cons X G aX_BadMap bX_BadMap dX_BadMap tX_BadMap sX_BadMap_BadMap (fun _ h => nomatch h)))
  have kk__law_steps_error : Fk P w K mg base 5 "_law_steps_error" 1 m__law_steps_error := ok__law_steps_error (fun_mk (st := s__law_steps_error) lF__law_steps_error cF__law_steps_error kF__law_steps_error) (PySem.W.mg_of X G aF__law_steps_error) kk_steps_between (ex1_mk (a := "reason") X G aX_BadMap xL_BadMap vL_BadMap sa_BadMap ga_BadMap gg_BadMap nf_BadMap iC_BadMap tI_BadMap lF_BadMap cF_BadMap kF_BadMap kX_BadMap bX_BadMap tX_BadMap dX_BadMap lC_BadMap fC_BadMap lcc_BadMap hD_BadMap hsub_BadMap hVE_BadMap hal_BadMap hno zSuper (by decide +kernel) rfl (by first | rfl | decide +kernel) rfl rfl hfile htop (fun _ _ => rfl) (fun _ _ => rfl) (fun _ _ => rfl) (fun _ _ => rfl) (by decide) (by decide) (fun us hl => match us, hl with | [_, _], _ => rfl)) (PySem.W.mg_of X G aX_BadMap) (cat_cons X G aX_AskewError bX_BadMap dX_BadMap tX_BadMap sX_AskewError_BadMap (cat_cons X G aX_BadMap bX_BadMap dX_BadMap tX_BadMap sX_BadMap_BadMap (fun _ h => nomatch h)))
  have kk__law_between_error : Fk P w K mg base 4 "_law_between_error" 4 m__law_between_error := ok__law_between_error (fun_mk (st := s__law_between_error) lF__law_between_error cF__law_between_error kF__law_between_error) (PySem.W.mg_of X G aF__law_between_error) kk_between_maps (ex1_mk (a := "reason") X G aX_BadMap xL_BadMap vL_BadMap sa_BadMap ga_BadMap gg_BadMap nf_BadMap iC_BadMap tI_BadMap lF_BadMap cF_BadMap kF_BadMap kX_BadMap bX_BadMap tX_BadMap dX_BadMap lC_BadMap fC_BadMap lcc_BadMap hD_BadMap hsub_BadMap hVE_BadMap hal_BadMap hno zSuper (by decide +kernel) rfl (by first | rfl | decide +kernel) rfl rfl hfile htop (fun _ _ => rfl) (fun _ _ => rfl) (fun _ _ => rfl) (fun _ _ => rfl) (by decide) (by decide) (fun us hl => match us, hl with | [_, _], _ => rfl)) (PySem.W.mg_of X G aX_BadMap) (cat_cons X G aX_AskewError bX_BadMap dX_BadMap tX_BadMap sX_AskewError_BadMap (cat_cons X G aX_BadMap bX_BadMap dX_BadMap tX_BadMap sX_BadMap_BadMap (fun _ h => nomatch h)))
  have kk__law_between : Fk P w K mg base 3 "_law_between" 4 m__law_between := ok__law_between (fun_mk (st := s__law_between) lF__law_between cF__law_between kF__law_between) (PySem.W.mg_of X G aF__law_between) (PySem.W.mg_none_of X G zB_range) kk__law_measure kk__law_short
  have kk__law_track_holds : Fk P w K mg base 42 "_law_track_holds" 2 m__law_track_holds := ok__law_track_holds (fun_mk (st := s__law_track_holds) lF__law_track_holds cF__law_track_holds kF__law_track_holds) (PySem.W.mg_of X G aF__law_track_holds) kk__law_then (PySem.W.mg_none_of X G zB_list) kkl_track kk__law_same kk_steps_between (PySem.W.mg_none_of X G zB_reversed) kk__law_back (PySem.W.mg_none_of X G zB_len) (PySem.W.mg_none_of X G zB_range) kk__law_sees kk_seen_steps kk_first_then kk_back_map kk_track
  have kk__law_between_holds : Fk P w K mg base 42 "_law_between_holds" 3 m__law_between_holds := ok__law_between_holds (fun_mk (st := s__law_between_holds) lF__law_between_holds cF__law_between_holds kF__law_between_holds) (PySem.W.mg_of X G aF__law_between_holds) (PySem.W.mg_none_of X G zB_range) kk__law_between kk__law_between_error kk__law_same kk_between_maps
  exact fn_law_ (fun_mk (st := s_law) lF_law cF_law kF_law) (PySem.W.mg_of X G aF_law) kk__law_numbers kk__law_map (PySem.W.mg_none_of X G zB_range) kk__law_step kk__law_track_holds kk__law_between_holds kk__law_short kk_is_map kk__law_between_error kk__law_same kk__law_track_error (PySem.W.mg_none_of X G zB_tuple) kk__law_steps_error
end AF
open PySem PySem.W PyProof.Rows AF
set_option maxHeartbeats 0 in
theorem PySem.Challenge.cw_askewread_k59_tracks_and_maps_between_holds : PySem.Challenge.rw_askewread_k59_tracks_and_maps_between.Holds := by
  w_on; o_law; k_head; (case hw => w_witness2)
  k_fill
  refine AF.law_end (l := PySem.Challenge.rw_askewread_k59_tracks_and_maps_between) (k := 43) (x := "script") AF.keeps rfl rfl ⟨rfl, by decide, by decide⟩ (fun w h Y => PySem.W.kIn_of Y) ?F
  case F =>
    intro w mg fa h KX G hmg
    refine' AF.all_mk KX G hmg ?aF_is_whole ?lF_is_whole ?cF_is_whole ?kF_is_whole ?zB_int ?zB_isinstance ?zB_bool ?aF_lowest ?lF_lowest ?cF_lowest ?kF_lowest ?zB_gcd ?zB_tuple ?aF_measure ?lF_measure ?cF_measure ?kF_measure ?aF_is_map ?lF_is_map ?cF_is_map ?kF_is_map ?zB_len ?zB_all ?aF_check_map ?lF_check_map ?cF_check_map ?kF_check_map ?aX_BadMap ?hfile ?htop ?hno ?zSuper ?xL_BadMap ?vL_BadMap ?sa_BadMap ?ga_BadMap ?gg_BadMap ?nf_BadMap ?iC_BadMap ?tI_BadMap ?lF_BadMap ?cF_BadMap ?kF_BadMap ?kX_BadMap ?bX_BadMap ?tX_BadMap ?dX_BadMap ?lC_BadMap ?fC_BadMap ?lcc_BadMap ?hD_BadMap ?hsub_BadMap ?hVE_BadMap ?hal_BadMap ?aF_depth ?lF_depth ?cF_depth ?kF_depth ?aF_is_seen ?lF_is_seen ?cF_is_seen ?kF_is_seen ?aF_first_then ?lF_first_then ?cF_first_then ?kF_first_then ?zB_range ?zB_sum ?aF_cofactors ?lF_cofactors ?cF_cofactors ?kF_cofactors ?aF_back_map ?lF_back_map ?cF_back_map ?kF_back_map ?aF_sees_square ?lF_sees_square ?cF_sees_square ?kF_sees_square ?aF_check_steps ?lF_check_steps ?cF_check_steps ?kF_check_steps ?zB_list ?aC_MOST_STEPS ?rC_MOST_STEPS ?aF_track ?lF_track ?cF_track ?kF_track ?aF_steps_between ?lF_steps_between ?cF_steps_between ?kF_steps_between ?zB_zip ?aF_seen_steps ?lF_seen_steps ?cF_seen_steps ?kF_seen_steps ?zB_enumerate ?aF_between_maps ?lF_between_maps ?cF_between_maps ?kF_between_maps ?aF__law_numbers ?lF__law_numbers ?cF__law_numbers ?kF__law_numbers ?aF__law_same ?lF__law_same ?cF__law_same ?kF__law_same ?zB_str ?aF__law_divisor ?lF__law_divisor ?cF__law_divisor ?kF__law_divisor ?zB_abs ?aF__law_short ?lF__law_short ?cF__law_short ?kF__law_short ?aF__law_measure ?lF__law_measure ?cF__law_measure ?kF__law_measure ?aF__law_then ?lF__law_then ?cF__law_then ?kF__law_then ?aF__law_back ?lF__law_back ?cF__law_back ?kF__law_back ?aF__law_map ?lF__law_map ?cF__law_map ?kF__law_map ?aF__law_step ?lF__law_step ?cF__law_step ?kF__law_step ?aF__law_sees ?lF__law_sees ?cF__law_sees ?kF__law_sees ?aF__law_track_error ?lF__law_track_error ?cF__law_track_error ?kF__law_track_error ?sX_BadMap_BadMap ?aX_AskewError ?sX_AskewError_BadMap ?aF__law_steps_error ?lF__law_steps_error ?cF__law_steps_error ?kF__law_steps_error ?aF__law_between_error ?lF__law_between_error ?cF__law_between_error ?kF__law_between_error ?aF__law_between ?lF__law_between ?cF__law_between ?kF__law_between ?aF__law_track_holds ?lF__law_track_holds ?cF__law_track_holds ?kF__law_track_holds ?zB_reversed ?aF__law_between_holds ?lF__law_between_holds ?cF__law_between_holds ?kF__law_between_holds ?aF_law ?lF_law ?cF_law ?kF_law
    (case aF_is_whole => k_is)
    (case lF_is_whole => k_is)
    (case cF_is_whole => k_is)
    (case kF_is_whole => k_is)
    (case zB_int => k_is)
    (case zB_isinstance => k_is)
    (case zB_bool => k_is)
    (case aF_lowest => k_is)
    (case lF_lowest => k_is)
    (case cF_lowest => k_is)
    (case kF_lowest => k_is)
    (case zB_gcd => k_is)
    (case zB_tuple => k_is)
    (case aF_measure => k_is)
    (case lF_measure => k_is)
    (case cF_measure => k_is)
    (case kF_measure => k_is)
    (case aF_is_map => k_is)
    (case lF_is_map => k_is)
    (case cF_is_map => k_is)
    (case kF_is_map => k_is)
    (case zB_len => k_is)
    (case zB_all => k_is)
    (case aF_check_map => k_is)
    (case lF_check_map => k_is)
    (case cF_check_map => k_is)
    (case kF_check_map => k_is)
    (case aX_BadMap => k_is)
    (case hfile => rfl)
    (case htop => first | rfl | decide +kernel)
    (case hno => k_is)
    (case zSuper => k_is)
    (case xL_BadMap => k_is)
    (case vL_BadMap => first | rfl | decide +kernel)
    (case sa_BadMap => k_is)
    (case ga_BadMap => k_is)
    (case gg_BadMap => k_is)
    (case nf_BadMap => k_is)
    (case iC_BadMap => k_is)
    (case tI_BadMap => k_is)
    (case lF_BadMap => k_is)
    (case cF_BadMap => k_is)
    (case kF_BadMap => k_is)
    (case kX_BadMap => k_is)
    (case bX_BadMap => k_is)
    (case tX_BadMap => k_is)
    (case dX_BadMap => k_is)
    (case lC_BadMap => k_is)
    (case fC_BadMap => rfl)
    (case lcc_BadMap => k_is)
    (case hD_BadMap => k_is)
    (case hsub_BadMap => k_is)
    (case hVE_BadMap => k_is)
    (case hal_BadMap => first | k_is | kernel_rfl | rfl | decide +kernel)
    (case aF_depth => k_is)
    (case lF_depth => k_is)
    (case cF_depth => k_is)
    (case kF_depth => k_is)
    (case aF_is_seen => k_is)
    (case lF_is_seen => k_is)
    (case cF_is_seen => k_is)
    (case kF_is_seen => k_is)
    (case aF_first_then => k_is)
    (case lF_first_then => k_is)
    (case cF_first_then => k_is)
    (case kF_first_then => k_is)
    (case zB_range => k_is)
    (case zB_sum => k_is)
    (case aF_cofactors => k_is)
    (case lF_cofactors => k_is)
    (case cF_cofactors => k_is)
    (case kF_cofactors => k_is)
    (case aF_back_map => k_is)
    (case lF_back_map => k_is)
    (case cF_back_map => k_is)
    (case kF_back_map => k_is)
    (case aF_sees_square => k_is)
    (case lF_sees_square => k_is)
    (case cF_sees_square => k_is)
    (case kF_sees_square => k_is)
    (case aF_check_steps => k_is)
    (case lF_check_steps => k_is)
    (case cF_check_steps => k_is)
    (case kF_check_steps => k_is)
    (case zB_list => k_is)
    (case aC_MOST_STEPS => k_is)
    (case rC_MOST_STEPS => exact ⟨_, rfl⟩)
    (case aF_track => k_is)
    (case lF_track => k_is)
    (case cF_track => k_is)
    (case kF_track => k_is)
    (case aF_steps_between => k_is)
    (case lF_steps_between => k_is)
    (case cF_steps_between => k_is)
    (case kF_steps_between => k_is)
    (case zB_zip => k_is)
    (case aF_seen_steps => k_is)
    (case lF_seen_steps => k_is)
    (case cF_seen_steps => k_is)
    (case kF_seen_steps => k_is)
    (case zB_enumerate => k_is)
    (case aF_between_maps => k_is)
    (case lF_between_maps => k_is)
    (case cF_between_maps => k_is)
    (case kF_between_maps => k_is)
    (case aF__law_numbers => k_is)
    (case lF__law_numbers => k_is)
    (case cF__law_numbers => k_is)
    (case kF__law_numbers => k_is)
    (case aF__law_same => k_is)
    (case lF__law_same => k_is)
    (case cF__law_same => k_is)
    (case kF__law_same => k_is)
    (case zB_str => k_is)
    (case aF__law_divisor => k_is)
    (case lF__law_divisor => k_is)
    (case cF__law_divisor => k_is)
    (case kF__law_divisor => k_is)
    (case zB_abs => k_is)
    (case aF__law_short => k_is)
    (case lF__law_short => k_is)
    (case cF__law_short => k_is)
    (case kF__law_short => k_is)
    (case aF__law_measure => k_is)
    (case lF__law_measure => k_is)
    (case cF__law_measure => k_is)
    (case kF__law_measure => k_is)
    (case aF__law_then => k_is)
    (case lF__law_then => k_is)
    (case cF__law_then => k_is)
    (case kF__law_then => k_is)
    (case aF__law_back => k_is)
    (case lF__law_back => k_is)
    (case cF__law_back => k_is)
    (case kF__law_back => k_is)
    (case aF__law_map => k_is)
    (case lF__law_map => k_is)
    (case cF__law_map => k_is)
    (case kF__law_map => k_is)
    (case aF__law_step => k_is)
    (case lF__law_step => k_is)
    (case cF__law_step => k_is)
    (case kF__law_step => k_is)
    (case aF__law_sees => k_is)
    (case lF__law_sees => k_is)
    (case cF__law_sees => k_is)
    (case kF__law_sees => k_is)
    (case aF__law_track_error => k_is)
    (case lF__law_track_error => k_is)
    (case cF__law_track_error => k_is)
    (case kF__law_track_error => k_is)
    (case sX_BadMap_BadMap => first | rfl | k_is)
    (case aX_AskewError => k_is)
    (case sX_AskewError_BadMap => first | rfl | k_is)
    (case aF__law_steps_error => k_is)
    (case lF__law_steps_error => k_is)
    (case cF__law_steps_error => k_is)
    (case kF__law_steps_error => k_is)
    (case aF__law_between_error => k_is)
    (case lF__law_between_error => k_is)
    (case cF__law_between_error => k_is)
    (case kF__law_between_error => k_is)
    (case aF__law_between => k_is)
    (case lF__law_between => k_is)
    (case cF__law_between => k_is)
    (case kF__law_between => k_is)
    (case aF__law_track_holds => k_is)
    (case lF__law_track_holds => k_is)
    (case cF__law_track_holds => k_is)
    (case kF__law_track_holds => k_is)
    (case zB_reversed => k_is)
    (case aF__law_between_holds => k_is)
    (case lF__law_between_holds => k_is)
    (case cF__law_between_holds => k_is)
    (case kF__law_between_holds => k_is)
    (case aF_law => k_is)
    (case lF_law => k_is)
    (case cF_law => k_is)
    (case kF_law => k_is)

