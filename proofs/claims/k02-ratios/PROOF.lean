import PyProof.Rows.All
import Wide.All
import OpenK.AllK
import Wide.FinOn
import HandS.ForMost
import HandS.ForExc
import HandS.IsInst
import HandS.Flow
import HandS.Wide
import HandS.WideBits
import HandS.Gcd
import HandS.Walk
import HandS.Zip
import HandS.Rev
import HandS.EndBits
import HandS.TupAny
import HandS.TupLe
import HandS.Deep
import HandS.Style
import HandS.CallSlots
import HandS.Small
import HandS.SortInts
import HandS.RevTup
import HandS.ExcIs
import PySem.Challenge.RW_askewread_k02_ratios_cut_and_joined
set_option Elab.async false
set_option linter.all false
set_option maxRecDepth 100000
set_option maxHeartbeats 2000000
/-! The F layer: pure data, mirrors, judgements over HandS's readings. -/
namespace AF
open PySem PySem.Spec PyProof.Rows L2

/-- pure data -/
inductive D where
  | non | bl (b : Bool) | int (i : Int) | str (s : List Nat) | tup (xs : List D) | lst (xs : List D) | ty (n : String)

inductive Er where
  | plain (cls : String) | one (cls f : String) (d : D)
/-- the answer of a mirror -/
inductive Res (α : Type) where
  | ok (a : α) | err (e : Er) | stuck
namespace Res
def bind {α β : Type} (r : Res α) (f : α → Res β) : Res β := match r with
  | .ok a => f a
  | .err e => .err e
  | .stuck => .stuck
def map {α β : Type} (f : α → β) (r : Res α) : Res β := r.bind fun a => .ok (f a)
end Res

/-- a tuple that is laid, or one of the written part -/
def TpL (K : PySem.W.Frag) (H : Hp) (a : Addr) (xs : List V) : Prop :=
  H a = some (.tup xs) ∨ ∃ (o : Obj) (its : Array Value) (n : Nat), K.lookup a = some o ∧ o.cls = .type "tuple" ∧ o.data = .seq its n ∧ its.size ≤ sizeLine ∧ Vals xs its.toList
mutual
def Rep (K : PySem.W.Frag) (H : Hp) : D → V → Prop
  | .non, v => v = .non
  | .bl b, v => v = .bl b
  | .int i, v => v = .int i
  | .str s, v => v = .str ⟨s.toArray⟩ ∧ s.length ≤ sizeLine ∧ s.all (· < 1114112) = true
  | .tup xs, v => ∃ a vs, v = .ref a ∧ TpL K H a vs ∧ Reps K H xs vs
  | .lst xs, v => ∃ a vs, v = .ref a ∧ SqL K H a vs ∧ Reps K H xs vs
  | .ty n, v => v = .ty n
def Reps (K : PySem.W.Frag) (H : Hp) : List D → List V → Prop
  | [], vs => vs = []
  | d :: ds, vs => ∃ v r, vs = v :: r ∧ Rep K H d v ∧ Reps K H ds r
end
section
variable {K : PySem.W.Frag} {H H' : Hp}
theorem Same.rd0 (e : Same H H') {a : Addr} {u : HO} (h : Rd H a u) : Rd H' a u := by
  rcases h with h | ⟨o, h⟩
  · exact .inl (e _ _ h)
  · exact .inr ⟨o, e _ _ h⟩
theorem Same.tp (e : Same H H') {a : Addr} {xs : List V} (h : TpL K H a xs) : TpL K H' a xs := by
  rcases h with h | h
  · exact .inl (e _ _ h)
  · exact .inr h
theorem Same.sl (e : Same H H') {a : Addr} {xs : List V} (h : SqL K H a xs) : SqL K H' a xs := Same.seq e h
theorem Same.seqT (e : Same H H') {a : Addr} {xs : List V} (h : TpL K H a xs) : SqT K H' a xs := by
  rcases h with h | h
  · exact .inl (.inl (e _ _ h))
  · exact .inr h
mutual
theorem Rep.mono (e : Same H H') : ∀ (d : D) (v : V), Rep K H d v → Rep K H' d v
  | .non, _, h => h
  | .bl _, _, h => h
  | .int _, _, h => h
  | .str _, _, h => h
  | .ty _, _, h => h
  | .tup xs, v, h => by
    obtain ⟨a, vs, e1, hs, hr⟩ := h
    exact ⟨a, vs, e1, Same.tp e hs, Reps.mono e xs vs hr⟩
  | .lst xs, v, h => by
    obtain ⟨a, vs, e1, hs, hr⟩ := h
    exact ⟨a, vs, e1, Same.sl e hs, Reps.mono e xs vs hr⟩
theorem Reps.mono (e : Same H H') : ∀ (ds : List D) (vs : List V), Reps K H ds vs → Reps K H' ds vs
  | [], _, h => h
  | d :: ds, vs, h => by
    obtain ⟨v, r, e1, h1, h2⟩ := h
    exact ⟨v, r, e1, Rep.mono e d v h1, Reps.mono e ds r h2⟩
end
theorem Reps.length : ∀ {ds : List D} {vs : List V}, Reps K H ds vs → vs.length = ds.length
  | [], _, h => by
    rw [show _ = [] from h]
    rfl
  | d :: ds, _, h => by
    obtain ⟨v, r, rfl, _, h2⟩ := h
    simp [Reps.length h2]
theorem Reps.get : ∀ {ds : List D} {vs : List V} {i : Nat} {v : V}, Reps K H ds vs → vs[i]? = some v → ∃ d, ds[i]? = some d ∧ Rep K H d v
  | [], _, i, v, h, e => by
    rw [show _ = [] from h] at e
    simp at e
  | d :: ds, _, 0, v, h, e => by
    obtain ⟨w, r, rfl, h1, _⟩ := h
    simp at e
    subst e
    exact ⟨d, rfl, h1⟩
  | d :: ds, _, i + 1, v, h, e => by
    obtain ⟨w, r, rfl, _, h2⟩ := h
    simp at e
    obtain ⟨d', e', hd⟩ := Reps.get h2 e
    exact ⟨d', by simpa using e', hd⟩
theorem Reps.getD : ∀ {ds : List D} {vs : List V} {i : Nat} {d : D}, Reps K H ds vs → ds[i]? = some d → ∃ v, vs[i]? = some v ∧ Rep K H d v := fun {ds vs i d} h e => by
  have hl := h.length
  have hi : i < ds.length := (List.getElem?_eq_some_iff.mp e).1
  have hv : vs[i]? = some (vs[i]'(by omega)) := List.getElem?_eq_getElem (by omega)
  obtain ⟨d', e', hd⟩ := h.get hv
  rw [e] at e'
  cases e'
  exact ⟨_, hv, hd⟩
theorem Reps.append : ∀ {ds es : List D} {vs ws : List V}, Reps K H ds vs → Reps K H es ws → Reps K H (ds ++ es) (vs ++ ws)
  | [], _, _, _, h, h2 => by
    rw [show _ = [] from h]
    exact h2
  | d :: ds, es, _, ws, h, h2 => by
    obtain ⟨v, r, rfl, h1, h3⟩ := h
    exact ⟨v, r ++ ws, rfl, h1, Reps.append h3 h2⟩
theorem Reps.snoc {ds : List D} {vs : List V} {d : D} {v : V} (h : Reps K H ds vs) (h1 : Rep K H d v) : Reps K H (ds ++ [d]) (vs ++ [v]) := h.append ⟨v, [], rfl, h1, rfl⟩
theorem Reps.set : ∀ {ds : List D} {vs : List V} {d : D} {v : V} (i : Nat), Reps K H ds vs → Rep K H d v → Reps K H (ds.set i d) (vs.set i v)
  | [], _, _, _, _, h, _ => by
    rw [show _ = [] from h]
    exact rfl
  | d :: ds, _, _, _, 0, h, h1 => by
    obtain ⟨v, r, rfl, _, h3⟩ := h
    exact ⟨_, _, rfl, h1, h3⟩
  | d :: ds, _, _, _, i + 1, h, h1 => by
    obtain ⟨v, r, rfl, h2, h3⟩ := h
    exact ⟨_, _, rfl, h2, Reps.set i h3 h1⟩
theorem Reps.take : ∀ {ds : List D} {vs : List V} (n : Nat), Reps K H ds vs → Reps K H (ds.take n) (vs.take n)
  | [], _, n, h => by
    rw [show _ = [] from h]
    cases n <;> exact rfl
  | d :: ds, _, 0, h => by
    simp
    exact rfl
  | d :: ds, _, n + 1, h => by
    obtain ⟨v, r, rfl, h2, h3⟩ := h
    exact ⟨_, _, rfl, h2, Reps.take n h3⟩
theorem Reps.drop : ∀ {ds : List D} {vs : List V} (n : Nat), Reps K H ds vs → Reps K H (ds.drop n) (vs.drop n)
  | [], _, n, h => by
    rw [show _ = [] from h]
    cases n <;> exact rfl
  | d :: ds, _, 0, h => h
  | d :: ds, _, n + 1, h => by
    obtain ⟨v, r, rfl, h2, h3⟩ := h
    exact Reps.drop n h3
theorem Reps.reverse : ∀ {ds : List D} {vs : List V}, Reps K H ds vs → Reps K H ds.reverse vs.reverse
  | [], _, h => by
    rw [show _ = [] from h]
    exact rfl
  | d :: ds, _, h => by
    obtain ⟨v, r, rfl, h2, h3⟩ := h
    rw [List.reverse_cons, List.reverse_cons]
    exact (Reps.reverse h3).snoc h2
theorem Reps.cons_iff {d : D} {ds : List D} {v : V} {vs : List V} : Reps K H (d :: ds) (v :: vs) ↔ Rep K H d v ∧ Reps K H ds vs := by
  constructor
  · rintro ⟨w, r, e, h1, h2⟩
    cases e
    exact ⟨h1, h2⟩
  · rintro ⟨h1, h2⟩
    exact ⟨v, vs, rfl, h1, h2⟩
theorem reps_ints : ∀ (ns : List Int), Reps K H (ns.map D.int) (ns.map V.int)
  | [] => rfl
  | n :: ns => ⟨_, _, rfl, rfl, reps_ints ns⟩
theorem Reps.isInts : ∀ {ds : List D} {vs : List V}, Reps K H ds vs → ∀ ns : List Int, ds = ns.map D.int → vs = ns.map V.int
  | _, _, h, [], e => by
    subst e
    exact h
  | _, _, h, n :: ns, e => by
    subst e
    obtain ⟨v, r, rfl, h1, h2⟩ := h
    rw [show v = .int n from h1, Reps.isInts h2 ns rfl]
    rfl
end

/-! ### hiding -/
open Classical in
noncomputable def hid (P : Addr → Prop) (H : Hp) : Hp := fun a => if P a then none else H a
section
variable {P P' : Addr → Prop} {H H' : Hp} {a : Addr} {o : HO}
theorem hid_some (h : hid P H a = some o) : ¬ P a ∧ H a = some o := by
  unfold hid at h
  split at h
  · cases h
  · exact ⟨‹_›, h⟩
theorem hid_of (h : ¬ P a) (e : H a = some o) : hid P H a = some o := by
  unfold hid
  rw [if_neg h]
  exact e
theorem hid_same (P : Addr → Prop) (H : Hp) : Same (hid P H) H := fun _ _ h => (hid_some h).2
theorem Same.hid (e : Same H H') : Same (hid P H) (hid P H') := fun _ _ h => hid_of (hid_some h).1 (e _ _ (hid_some h).2)
theorem Same.hid2 (e : Same H H') (hp : ∀ a o, H a = some o → ¬ P a → ¬ P' a) : Same (AF.hid P H) (AF.hid P' H') := fun _ _ h =>
  hid_of (hp _ _ (hid_some h).2 (hid_some h).1) (e _ _ (hid_some h).2)
/-- what is hidden stands -/
def Hides (P : Addr → Prop) (H : Hp) : Prop := ∀ a, P a → H a ≠ none
theorem Hides.mono (h : Hides P H) (e : Same H H') : Hides P H' := fun a p n => h a p (e.free n)
theorem Hides.not (h : Hides P H) (n : H a = none) : ¬ P a := fun p => h a p n
theorem same_new (n : H a = none) : Same H (upd H a o) := fun b x e => by
  rw [upd_ne (ne_of_none e n)]
  exact e
end

/-! ### slots of a mirror -/
inductive Sl where
  | unk | val (d : D) | own (ds : List D)
abbrev En := List Sl

structure Ga where
  H0 : Hp
  P0 : Addr → Prop
  G0 : Hp
def Hd (Γ : Ga) (os : List (Option Addr)) : Addr → Prop := fun a => Γ.P0 a ∨ some a ∈ os

def SlOk (K : PySem.W.Frag) (G H : Hp) : Sl → Option V → Option Addr → Prop
  | .unk, _, o => o = none
  | .val d, sv, o => o = none ∧ ∃ v, sv = some v ∧ Rep K G d v
  | .own ds, sv, o => ∃ p vs, o = some p ∧ sv = some (.ref p) ∧ H p = some (.lst vs) ∧ Reps K G ds vs

structure Agree (K : PySem.W.Frag) (Γ : Ga) (os : List (Option Addr)) (σ : L2.St) (H : Hp) (env : En) : Prop where
  len : σ.length = env.length
  olen : os.length = env.length
  same : Same Γ.H0 H
  vis : Same Γ.G0 (hid (Hd Γ os) H)
  p0 : Hides Γ.P0 Γ.H0
  fresh : ∀ p, some p ∈ os → Γ.H0 p = none
  nd : ∀ (i j : Nat) (p : Addr), os[i]? = some (some p) → os[j]? = some (some p) → i = j
  slot : ∀ (i : Nat) s, env[i]? = some s → ∃ sv o, σ[i]? = some sv ∧ os[i]? = some o ∧ SlOk K (hid (Hd Γ os) H) H s sv o
section
variable {K : PySem.W.Frag} {Γ : Ga} {os : List (Option Addr)} {σ : L2.St} {H H' : Hp} {env : En}
theorem SlOk.mono {G G' : Hp} {s : Sl} {sv : Option V} {o : Option Addr} (h : SlOk K G H s sv o) (e : Same G G') (e2 : Same H H') : SlOk K G' H' s sv o := by
  cases s with
  | unk => exact h
  | val d =>
    obtain ⟨h1, v, h2, h3⟩ := h
    exact ⟨h1, v, h2, Rep.mono e d v h3⟩
  | own ds =>
    obtain ⟨p, vs, h1, h2, h3, h4⟩ := h
    exact ⟨p, vs, h1, h2, e2 _ _ h3, Reps.mono e ds vs h4⟩
theorem Agree.mono (A : Agree K Γ os σ H env) (e : Same H H') : Agree K Γ os σ H' env :=
  ⟨A.len, A.olen, A.same.trans e, A.vis.trans (Same.hid e), A.p0, A.fresh, A.nd, fun i s h => by
    obtain ⟨sv, o, h1, h2, h3⟩ := A.slot i s h
    exact ⟨sv, o, h1, h2, h3.mono (Same.hid e) e⟩⟩
theorem Agree.ownAt (A : Agree K Γ os σ H env) {p : Addr} (h : some p ∈ os) : ∃ vs, H p = some (.lst vs) := by
  obtain ⟨i, hi, e⟩ := List.mem_iff_getElem.mp h
  have hi' : i < env.length := by
    have := A.olen
    omega
  obtain ⟨sv, o, h1, h2, h3⟩ := A.slot i env[i] (List.getElem?_eq_getElem hi')
  have : os[i]? = some (some p) := by rw [List.getElem?_eq_getElem hi, e]
  rw [this] at h2
  cases h2
  revert h3
  cases env[i] with
  | unk => intro h3; cases h3
  | val d => intro h3; cases h3.1
  | own ds =>
    rintro ⟨q, vs, e1, _, e3, _⟩
    cases e1
    exact ⟨vs, e3⟩
theorem Agree.hides (A : Agree K Γ os σ H env) : Hides (Hd Γ os) H := fun a h => by
  rcases h with h | h
  · exact (A.p0.mono A.same) a h
  · obtain ⟨vs, e⟩ := A.ownAt h
    rw [e]
    exact nofun
theorem Agree.notP0 (A : Agree K Γ os σ H env) {p : Addr} (h : some p ∈ os) : ¬ Γ.P0 p := fun q => A.p0 p q (A.fresh p h)
end

/-! ### the wishes -/
section
variable (K : PySem.W.Frag) (mg : Str → Option Value)
def ErrR (G H : Hp) : Er → Value → Option Addr → Prop
  | .plain x, c, pd => ∃ C, mg (Str.ofString x) = some (.ref C) ∧ c = .ref C ∧ pd = none
  | .one x f d, c, pd => ∃ C p v, mg (Str.ofString x) = some (.ref C) ∧ c = .ref C ∧ pd = some p ∧ H p = some (.xd [(Str.ofString f, v)]) ∧ Rep K G d v
/-- the general wish: Z of the heap ahead, the answer, the heap behind -/
def WR {α : Type} (P : Addr → Prop) (W : WX) (σ : L2.St) (H : Hp) (r : Res α) (Z : Hp → α → Hp → Prop) : Prop := match r with
  | .ok a => ∀ H', Same H H' → Z H a H'
  | .err e => ∀ c pd H', Same H H' → ErrR K mg (hid P H') H' e c pd → W c pd σ H'
  | .stuck => False
def zE (P : Addr → Prop) (Q : VK) : Hp → D → Hp → Prop := fun _ d H' => ∀ v, Rep K (hid P H') d v → Q v H'
def zL (P : Addr → Prop) (Q : VK) : Hp → List D → Hp → Prop := fun H ds H' => ∀ p vs, H p = none → H' p = some (.lst vs) → Reps K (hid (fun a => P a ∨ a = p) H') ds vs → Q (.ref p) H'
def zB (Q : Bool → Hp → Prop) : Hp → Bool → Hp → Prop := fun _ b H' => Q b H'
def zA (P : Addr → Prop) (Q : List V → Hp → Prop) : Hp → List D → Hp → Prop := fun _ ds H' => ∀ vs, Reps K (hid P H') ds vs → Q vs H'
/-- of an expression -/
abbrev WE (P : Addr → Prop) (W : WX) (σ : L2.St) (H : Hp) (r : Res D) (Q : VK) : Prop := WR K mg P W σ H r (zE K P Q)
/-- of an expression that makes a new list -/
abbrev WL (P : Addr → Prop) (W : WX) (σ : L2.St) (H : Hp) (r : Res (List D)) (Q : VK) : Prop := WR K mg P W σ H r (zL K P Q)
abbrev WB (P : Addr → Prop) (W : WX) (σ : L2.St) (H : Hp) (r : Res Bool) (Q : Bool → Hp → Prop) : Prop := WR K mg P W σ H r (zB Q)
abbrev WA (P : Addr → Prop) (W : WX) (σ : L2.St) (H : Hp) (r : Res (List D)) (Q : List V → Hp → Prop) : Prop := WR K mg P W σ H r (zA K P Q)
end
def Res.of {α : Type} : Option α → Res α
  | some a => .ok a
  | none => .stuck
def Anti {α : Type} (Z : Hp → α → Hp → Prop) : Prop := ∀ H H1 a H', Same H H1 → Z H a H' → Z H1 a H'
section
variable {K : PySem.W.Frag} {mg : Str → Option Value} {α β : Type} {P : Addr → Prop} {W : WX} {σ : L2.St} {H H1 : Hp}
theorem anti_E {Q : VK} : Anti (zE K P Q) := fun _ _ _ _ _ h => h
theorem anti_B {Q : Bool → Hp → Prop} : Anti (zB Q) := fun _ _ _ _ _ h => h
theorem anti_A {Q : List V → Hp → Prop} : Anti (zA K P Q) := fun _ _ _ _ _ h => h
theorem anti_L {Q : VK} : Anti (zL K P Q) := fun _ _ _ _ s h p vs n => h p vs (s.free n)
theorem WR.mono {r : Res α} {Z : Hp → α → Hp → Prop} (hZ : Anti Z) (h : WR K mg P W σ H r Z) (s : Same H H1) : WR K mg P W σ H1 r Z := by
  cases r with
  | ok a => exact fun H' s' => hZ _ _ _ _ s (h H' (s.trans s'))
  | err e => exact fun c pd H' s' => h c pd H' (s.trans s')
  | stuck => exact h
theorem WR.bind {r : Res α} {f : α → Res β} {Z : Hp → β → Hp → Prop} {Y : Hp → α → Hp → Prop} (hZ : Anti Z) (h : WR K mg P W σ H (r.bind f) Z)
    (k : ∀ a H1, r = .ok a → Same H H1 → WR K mg P W σ H1 (f a) Z → Y H a H1) : WR K mg P W σ H r Y := by
  cases r with
  | ok a => exact fun H' s' => k a H' rfl s' (WR.mono hZ h s')
  | err e => exact h
  | stuck => exact h
theorem WR.ok {a : α} {Z : Hp → α → Hp → Prop} (h : WR K mg P W σ H (.ok a) Z) (s : Same H H1) : Z H a H1 := h H1 s
theorem WR.of {o : Option α} {Z : Hp → α → Hp → Prop} (h : WR K mg P W σ H (Res.of o) Z) : ∃ a, o = some a ∧ ∀ H1, Same H H1 → Z H a H1 := by
  cases o with
  | none => exact h.elim
  | some a => exact ⟨a, rfl, h⟩
end

/-- what a statement's mirror answers -/
inductive Out where
  | next (env : En) | ret (d : D) | brk (env : En) | cont (env : En) | err (e : Er) (env : En) | stuck
abbrev GE := En → Res D
abbrev GL := En → Res (List D)
abbrev GB := En → Res Bool
abbrev GS := En → Out

section
variable (K : PySem.W.Frag) (mg : Str → Option Value)
def WS (W : WX) (Γ : Ga) (r : Out) (Dn : Ends) : Prop := match r with
  | .next env => ∀ os σ H, Agree K Γ os σ H env → Dn.nx σ H
  | .brk env => ∀ os σ H, Agree K Γ os σ H env → Dn.bk σ H
  | .cont env => ∀ os σ H, Agree K Γ os σ H env → Dn.ct σ H
  | .ret d => ∀ v H, Same Γ.H0 H → Rep K (hid Γ.P0 H) d v → Dn.rt v H
  | .err e env => ∀ os σ H c pd, Agree K Γ os σ H env → ErrR K mg (hid (Hd Γ os) H) H e c pd → W c pd σ H
  | .stuck => False
def tG (W : WX) (g : GE) : TE := fun σ H Q => ∃ Γ os env, Agree K Γ os σ H env ∧ WE K mg (Hd Γ os) W σ H (g env) Q
def tGL (W : WX) (g : GL) : TE := fun σ H Q => ∃ Γ os env, Agree K Γ os σ H env ∧ WL K mg (Hd Γ os) W σ H (g env) Q
def tGB (W : WX) (g : GB) : TT := fun σ H Q => ∃ Γ os env, Agree K Γ os σ H env ∧ WB K mg (Hd Γ os) W σ H (g env) Q
def tGA (W : WX) (g : GL) : TA := fun σ H Q => ∃ Γ os env, Agree K Γ os σ H env ∧ WA K mg (Hd Γ os) W σ H (g env) Q
def tGS (W : WX) (g : GS) : TS := fun Dn σ H => ∃ Γ os env, Agree K Γ os σ H env ∧ WS K mg W Γ (g env) Dn
end
/-! ### the judgements -/
abbrev FE (X : Cx) (W : WX) (e : Expr) (g : GE) : Prop := PE X e (tG X.K X.mg W g)
abbrev FL (X : Cx) (W : WX) (e : Expr) (g : GL) : Prop := PE X e (tGL X.K X.mg W g)
abbrev FT (X : Cx) (W : WX) (e : Expr) (g : GB) : Prop := PT X e (tGB X.K X.mg W g)
abbrev FW (X : Cx) (W : WX) (e : Expr) (g : GB) : Prop := PW X e (tGB X.K X.mg W g)
abbrev FA (X : Cx) (W : WX) (es : List Expr) (g : GL) : Prop := PA X es (tGA X.K X.mg W g)
abbrev FS (X : Cx) (W : WX) (st : Stmt) (g : GS) : Prop := PS X st (tGS X.K X.mg W g)
abbrev FSs (X : Cx) (W : WX) (st : List Stmt) (g : GS) : Prop := PSs X st (tGS X.K X.mg W g)

section
variable {X : Cx} {e : Expr}
theorem PE.imp {t t' : TE} (h : PE X e t) (i : ∀ σ H Q, t' σ H Q → t σ H Q) : PE X e t' := ⟨fun pins s σ H Q I w => h.run pins s σ H Q I (i _ _ _ w)⟩
theorem PT.imp {t t' : TT} (h : PT X e t) (i : ∀ σ H Q, t' σ H Q → t σ H Q) : PT X e t' := ⟨fun pins s σ H Q I w => h.run pins s σ H Q I (i _ _ _ w)⟩
theorem PW.imp {t t' : TT} (h : PW X e t) (i : ∀ σ H Q, t' σ H Q → t σ H Q) : PW X e t' := ⟨fun wh pins s σ H Q I w => h.run wh pins s σ H Q I (i _ _ _ w)⟩
theorem PA.imp {es : List Expr} {t t' : TA} (h : PA X es t) (i : ∀ σ H Q, t' σ H Q → t σ H Q) : PA X es t' := ⟨fun pos pins s σ H Q I w => h.run pos pins s σ H Q I (i _ _ _ w)⟩
theorem PS.imp {st : Stmt} {t t' : TS} (h : PS X st t) (i : ∀ Dn σ H, t' Dn σ H → t Dn σ H) : PS X st t' := ⟨fun pins s σ H Dn I w => h.run pins s σ H Dn I (i _ _ _ w)⟩
theorem PSs.imp {st : List Stmt} {t t' : TS} (h : PSs X st t) (i : ∀ Dn σ H, t' Dn σ H → t Dn σ H) : PSs X st t' := ⟨fun pins s σ H Dn I w => h.run pins s σ H Dn I (i _ _ _ w)⟩
end
end AF

namespace AF
open PySem PySem.Spec PyProof.Rows L2

/-! ### mirrors of expressions -/
def eVar (i : Nat) : GE := fun env => match env[i]? with
  | some (.val d) => .ok d
  | _ => .stuck
def eC (d : D) : GE := fun _ => .ok d
def e1 (f : D → Option D) (a : GE) : GE := fun env => (a env).bind fun x => Res.of (f x)
def e2 (f : D → D → Option D) (a b : GE) : GE := fun env => (a env).bind fun x => (b env).bind fun y => Res.of (f x y)
def l2 (f : D → D → Option (List D)) (a b : GE) : GL := fun env => (a env).bind fun x => (b env).bind fun y => Res.of (f x y)
def b1 (f : D → Option Bool) (a : GE) : GB := fun env => (a env).bind fun x => Res.of (f x)
def b2 (f : D → D → Option Bool) (a b : GE) : GB := fun env => (a env).bind fun x => (b env).bind fun y => Res.of (f x y)
def eB (g : GB) : GE := fun env => (g env).bind fun b => .ok (.bl b)
def aNil : GL := fun _ => .ok []
def aCons (a : GE) (r : GL) : GL := fun env => (a env).bind fun x => (r env).bind fun xs => .ok (x :: xs)
def eLst (g : GL) : GE := fun env => (g env).bind fun xs => .ok (.lst xs)
def eF (f : List D → Option D) (g : GL) : GE := fun env => (g env).bind fun xs => Res.of (f xs)
def lF (f : List D → Option (List D)) (g : GL) : GL := fun env => (g env).bind fun xs => Res.of (f xs)
def eCall (m : List D → Res D) (g : GL) : GE := fun env => (g env).bind m
def lCall (m : List D → Res (List D)) (g : GL) : GL := fun env => (g env).bind m
def eIf (c : GB) (a b : GE) : GE := fun env => (c env).bind fun k => if k then a env else b env
def bAnd (a b : GB) : GB := fun env => (a env).bind fun k => if k then b env else .ok false
def bOr (a b : GB) : GB := fun env => (a env).bind fun k => if k then .ok true else b env
def bNot (a : GB) : GB := fun env => (a env).bind fun k => .ok (!k)
def sz (xs : List D) : Option (List D) := if xs.length ≤ sizeLine then some xs else none
/-- a display -/
def lDisp (g : GL) : GL := fun env => (g env).bind fun xs => Res.of (sz xs)
def eTup (g : GL) : GE := fun env => (g env).bind fun xs => Res.of ((sz xs).map .tup)

section
variable {K : PySem.W.Frag} {mg : Str → Option Value} {P : Addr → Prop} {H H' : Hp}
/-- an operation's reading answers as f -/
def Ok2 (K : PySem.W.Frag) (r : R2) (f : D → D → Option D) : Prop := ∀ P H x y d e z Q, Hides P H → Rep K (hid P H) d x → Rep K (hid P H) e y → f d e = some z → (∀ v H', Same H H' → Rep K (hid P H') z v → Q v H') → r x y H Q
def Ok2L (K : PySem.W.Frag) (r : R2) (f : D → D → Option (List D)) : Prop := ∀ P H x y d e zs Q, Hides P H → Rep K (hid P H) d x → Rep K (hid P H) e y → f d e = some zs →
  (∀ p vs H', Same H H' → H p = none → H' p = some (.lst vs) → Reps K (hid (fun a => P a ∨ a = p) H') zs vs → Q (.ref p) H') → r x y H Q
def Ok2B (K : PySem.W.Frag) (r : R2) (f : D → D → Option Bool) : Prop := ∀ P H x y d e b Q, Hides P H → Rep K (hid P H) d x → Rep K (hid P H) e y → f d e = some b → (∀ H', Same H H' → Q (.bl b) H') → r x y H Q
def Ok1 (K : PySem.W.Frag) (r : V → Hp → VK → Prop) (f : D → Option D) : Prop := ∀ P H x d z Q, Hides P H → Rep K (hid P H) d x → f d = some z → (∀ v H', Same H H' → Rep K (hid P H') z v → Q v H') → r x H Q
def OkA (K : PySem.W.Frag) (r : List V → Hp → VK → Prop) (f : List D → Option D) : Prop := ∀ P H xs ds z Q, Hides P H → Reps K (hid P H) ds xs → f ds = some z → (∀ v H', Same H H' → Rep K (hid P H') z v → Q v H') → r xs H Q
def OkAL (K : PySem.W.Frag) (r : List V → Hp → VK → Prop) (f : List D → Option (List D)) : Prop := ∀ P H xs ds zs Q, Hides P H → Reps K (hid P H) ds xs → f ds = some zs →
  (∀ p vs H', Same H H' → H p = none → H' p = some (.lst vs) → Reps K (hid (fun a => P a ∨ a = p) H') zs vs → Q (.ref p) H') → r xs H Q
/-- a new list is a list -/
theorem lst_of_new {zs : List D} {p : Addr} {vs : List V} (hP : Hides P H) (n : H p = none) (e : H' p = some (.lst vs)) (r : Reps K (hid (fun a => P a ∨ a = p) H') zs vs) : Rep K (hid P H') (.lst zs) (.ref p) :=
  ⟨p, vs, rfl, .inl (.inl (hid_of (hP.not n) e)), Reps.mono (fun _ _ h => hid_of (fun q => (hid_some h).1 (.inl q)) (hid_some h).2) _ _ r⟩
theorem tup_new {zs : List D} {p : Addr} {vs : List V} (hP : Hides P H) (n : H p = none) (r : Reps K (hid P H) zs vs) : Rep K (hid P (upd H p (.tup vs))) (.tup zs) (.ref p) :=
  ⟨p, vs, rfl, .inl (hid_of (hP.not n) upd_same), Reps.mono (Same.hid (same_new n)) _ _ r⟩
/-- what is represented stays so where a new list is laid, and hides from it -/
theorem reps_new {zs : List D} {p : Addr} {vs : List V} {o : HO} (n : H p = none) (r : Reps K (hid P H) zs vs) : Reps K (hid (fun a => P a ∨ a = p) (upd H p o)) zs vs :=
  Reps.mono (fun a u h => by
    obtain ⟨h1, h2⟩ := hid_some h
    have ne : a ≠ p := ne_of_none h2 n
    exact hid_of (fun q => q.elim h1 ne) ((upd_ne ne).trans h2)) _ _ r
end

section
variable {X : Cx} {W : WX} {a b c : Expr} {ga gb gc : GE} {pos : Pos}
/-! ### names, constants -/
theorem fe_var (i : Nat) {x : Str} {pos : Pos} (hN : X.N[i]? = some x := by rfl) (hv : Vis X.env.scope x := by first | exact Or.inl rfl | exact Or.inr (Or.inl rfl) | exact Or.inr (Or.inr rfl)) (hd : (x == ("__debug__" : Str)) = false := by decide)
    (hcd : (x == ("__classdict__" : Str)) = false := by decide) : FE X W (.Name x pos) (eVar i) := by
  refine PE.imp (pe_var hN hv hd hcd) fun σ H Q h => ?_
  obtain ⟨Γ, os, env, A, h⟩ := h
  have h : WR X.K X.mg (Hd Γ os) W σ H (match env[i]? with | some (.val d) => .ok d | _ => .stuck) (zE X.K (Hd Γ os) Q) := h
  cases e : env[i]? with
  | none => rw [e] at h; exact h.elim
  | some s =>
    rw [e] at h
    cases s with
    | unk => exact h.elim
    | own ds => exact h.elim
    | val d =>
      obtain ⟨sv, o, h1, h2, h3, v, h4, h5⟩ := A.slot i _ e
      subst h4
      exact ⟨v, h1, h H (Same.refl H) v h5⟩
theorem fe_c {d : D} {v : V} (hp : PE X a (tC v)) (hr : ∀ H, Rep X.K H d v) : FE X W a (eC d) := by
  refine PE.imp hp fun σ H Q h => ?_
  obtain ⟨Γ, os, env, A, h⟩ := h
  exact WR.ok h (Same.refl H) v (hr _)
theorem fe_int {i j pos} : FE X W (.Constant (.int i) j pos) (eC (.int i)) := fe_c pe_int fun _ => rfl
theorem fe_bl {b j pos} : FE X W (.Constant (.bool b) j pos) (eC (.bl b)) := fe_c pe_bl fun _ => rfl
theorem fe_non {j pos} : FE X W (.Constant .none j pos) (eC .non) := fe_c pe_non fun _ => rfl
theorem str_eta (x : Str) : (⟨x.cps.toList.toArray⟩ : Str) = x := by
  cases x
  simp
theorem fe_str {x : Str} {l : List Nat} {j pos} (hl : x.cps.toList = l := by rfl) (hz : l.length ≤ sizeLine := by decide) (ho : l.all (· < 1114112) = true := by decide) : FE X W (.Constant (.str x) j pos) (eC (.str l)) :=
  fe_c pe_str fun _ => ⟨by rw [← hl, str_eta], hz, ho⟩

/-! ### operations -/
theorem fe_op {op : Operator} {r : R2} {f : D → D → Option D} (ho : OpR X (binaryOp op) r) (hf : Ok2 X.K r f) (ha : FE X W a ga) (hb : FE X W b gb) : FE X W (.BinOp a op b pos) (e2 f ga gb) := by
  refine PE.imp (pe_op ho ha hb) fun σ H Q h => ?_
  obtain ⟨Γ, os, env, A, h⟩ := h
  refine ⟨Γ, os, env, A, WR.bind anti_E h fun d H1 _ s1 h1 v rv => ⟨Γ, os, env, A.mono s1, WR.bind anti_E h1 fun e H2 _ s2 h2 w rw => ?_⟩⟩
  obtain ⟨z, ez, h3⟩ := WR.of h2
  exact hf _ _ _ _ _ _ _ _ (A.hides.mono (s1.trans s2)) (Rep.mono (Same.hid s2) d v rv) rw ez fun u H3 s3 r3 => h3 H3 s3 u r3
theorem fl_op {op : Operator} {r : R2} {f : D → D → Option (List D)} (ho : OpR X (binaryOp op) r) (hf : Ok2L X.K r f) (ha : FE X W a ga) (hb : FE X W b gb) : FL X W (.BinOp a op b pos) (l2 f ga gb) := by
  refine PE.imp (pe_op ho ha hb) fun σ H Q h => ?_
  obtain ⟨Γ, os, env, A, h⟩ := h
  refine ⟨Γ, os, env, A, WR.bind anti_L h fun d H1 _ s1 h1 v rv => ⟨Γ, os, env, A.mono s1, WR.bind anti_L h1 fun e H2 _ s2 h2 w rw => ?_⟩⟩
  obtain ⟨z, ez, h3⟩ := WR.of h2
  exact hf _ _ _ _ _ _ _ _ (A.hides.mono (s1.trans s2)) (Rep.mono (Same.hid s2) d v rv) rw ez fun p vs H3 s3 n e3 r3 => h3 H3 s3 p vs n e3 r3
theorem fe_un {op : UnaryOp} {r : V → Hp → VK → Prop} {f : D → Option D} (ho : UnR X (unaryOp op) r) (hf : Ok1 X.K r f) (ha : FE X W a ga) : FE X W (.UnaryOp op a pos) (e1 f ga) := by
  refine PE.imp (pe_un ho ha) fun σ H Q h => ?_
  obtain ⟨Γ, os, env, A, h⟩ := h
  refine ⟨Γ, os, env, A, WR.bind anti_E h fun d H1 _ s1 h1 v rv => ?_⟩
  obtain ⟨z, ez, h3⟩ := WR.of h1
  exact hf _ _ _ _ _ _ (A.hides.mono s1) rv ez fun u H3 s3 r3 => h3 H3 s3 u r3
/-- a list that is made may stand as any value -/
theorem fe_l {g : GL} (h : FL X W a g) : FE X W a (eLst g) := by
  refine PE.imp h fun σ H Q h => ?_
  obtain ⟨Γ, os, env, A, h⟩ := h
  refine ⟨Γ, os, env, A, WR.bind anti_E h fun zs H1 _ s1 h1 p vs n e r => WR.ok h1 (Same.refl H1) (.ref p) (lst_of_new A.hides n e r)⟩

/-! ### arguments, displays -/
theorem fa_nil : FA X W [] aNil := by
  refine PA.imp pa_nil fun σ H Q h => ?_
  obtain ⟨Γ, os, env, A, h⟩ := h
  exact WR.ok h (Same.refl H) [] rfl
theorem fa_cons {es : List Expr} {gr : GL} (ha : FE X W a ga) (hr : FA X W es gr) (hs : starEach (a :: es) X.env = (false, eval a X.env) :: starEach es X.env := by rfl) : FA X W (a :: es) (aCons ga gr) := by
  refine PA.imp (pa_cons ha hr hs) fun σ H Q h => ?_
  obtain ⟨Γ, os, env, A, h⟩ := h
  refine ⟨Γ, os, env, A, WR.bind anti_A h fun d H1 _ s1 h1 v rv => ⟨Γ, os, env, A.mono s1, WR.bind anti_A h1 fun ds H2 _ s2 h2 vs rvs => ?_⟩⟩
  exact WR.ok h2 (Same.refl H2) _ ⟨v, vs, rfl, Rep.mono (Same.hid s2) d v rv, rvs⟩
theorem sz_some {xs zs : List D} (h : sz xs = some zs) : zs = xs ∧ xs.length ≤ sizeLine := by
  unfold sz at h
  split at h
  · cases h
    exact ⟨rfl, ‹_›⟩
  · cases h
theorem fl_disp {es : List Expr} {g : GL} (h : FA X W es g) : FL X W (.List es pos) (lDisp g) := by
  refine PE.imp (pe_lst h) fun σ H Q h => ?_
  obtain ⟨Γ, os, env, A, h⟩ := h
  refine ⟨Γ, os, env, A, WR.bind anti_L h fun ds H1 _ s1 h1 vs rv => ?_⟩
  obtain ⟨zs, ez, h3⟩ := WR.of h1
  obtain ⟨rfl, hz⟩ := sz_some ez
  exact ⟨by rw [rv.length]; exact hz, fun p n => h3 (upd H1 p (.lst vs)) (same_new n) p vs n upd_same (reps_new n rv)⟩
theorem fe_tup {es : List Expr} {g : GL} {x1} (h : FA X W es g) : FE X W (.Tuple es x1 pos) (eTup g) := by
  refine PE.imp (pe_tup h) fun σ H Q h => ?_
  obtain ⟨Γ, os, env, A, h⟩ := h
  refine ⟨Γ, os, env, A, WR.bind anti_E h fun ds H1 _ s1 h1 vs rv => ?_⟩
  obtain ⟨z, ez, h3⟩ := WR.of h1
  cases es : sz ds with
  | none => rw [es] at ez; cases ez
  | some zs =>
    rw [es] at ez
    cases ez
    obtain ⟨rfl, hz⟩ := sz_some es
    exact ⟨by rw [rv.length]; exact hz, fun p n => h3 (upd H1 p (.tup vs)) (same_new n) _ (tup_new (A.hides.mono s1) n rv)⟩

/-! ### calls of built-ins -/
theorem fe_callB {x : Str} {id : String} {p : Pos} {es : List Expr} {g : GL} {r : List V → Hp → VK → Prop} {f : List D → Option D} (hc : CallR X (.builtin id) r) (hf : OkA X.K r f) (hm : X.mg x = none) (hg : Gl X x) (hv : bootBuiltins x = some (.builtin id)) (ha : FA X W (a :: es) g)
    (hn : x ≠ "__name__" := by decide) (hdb : (x == ("__debug__" : Str)) = false := by decide)
    (he : starEach (a :: es) X.env = (false, eval a X.env) :: starEach es X.env := by rfl) (hpl : (backTo pos (starEach es X.env)).any (·.1) = false := by rfl) : FE X W (.Call (.Name x p) (a :: es) [] pos) (eF f g) := by
  refine PE.imp (pe_callB hc hg hm hv ha hn hdb he hpl) fun σ H Q h => ?_
  obtain ⟨Γ, os, env, A, h⟩ := h
  refine ⟨Γ, os, env, A, WR.bind anti_E h fun ds H1 _ s1 h1 vs rv => ?_⟩
  obtain ⟨z, ez, h3⟩ := WR.of h1
  exact hf _ _ _ _ _ _ (A.hides.mono s1) rv ez fun u H3 s3 r3 => h3 H3 s3 u r3
theorem fe_callTy {x : Str} {T : String} {p : Pos} {es : List Expr} {g : GL} {r : List V → Hp → VK → Prop} {f : List D → Option D} (hc : CallR X (.type T) r) (hf : OkA X.K r f) (hm : X.mg x = none) (hg : Gl X x) (hv : bootBuiltins x = some (.type T)) (ha : FA X W (a :: es) g)
    (hn : x ≠ "__name__" := by decide) (hdb : (x == ("__debug__" : Str)) = false := by decide)
    (he : starEach (a :: es) X.env = (false, eval a X.env) :: starEach es X.env := by rfl) (hpl : (backTo pos (starEach es X.env)).any (·.1) = false := by rfl) : FE X W (.Call (.Name x p) (a :: es) [] pos) (eF f g) := by
  refine PE.imp (pe_callTy hc hg hm hv ha hn hdb he hpl) fun σ H Q h => ?_
  obtain ⟨Γ, os, env, A, h⟩ := h
  refine ⟨Γ, os, env, A, WR.bind anti_E h fun ds H1 _ s1 h1 vs rv => ?_⟩
  obtain ⟨z, ez, h3⟩ := WR.of h1
  exact hf _ _ _ _ _ _ (A.hides.mono s1) rv ez fun u H3 s3 r3 => h3 H3 s3 u r3
theorem fl_callTy {x : Str} {T : String} {p : Pos} {es : List Expr} {g : GL} {r : List V → Hp → VK → Prop} {f : List D → Option (List D)} (hc : CallR X (.type T) r) (hf : OkAL X.K r f) (hm : X.mg x = none) (hg : Gl X x) (hv : bootBuiltins x = some (.type T)) (ha : FA X W (a :: es) g)
    (hn : x ≠ "__name__" := by decide) (hdb : (x == ("__debug__" : Str)) = false := by decide)
    (he : starEach (a :: es) X.env = (false, eval a X.env) :: starEach es X.env := by rfl) (hpl : (backTo pos (starEach es X.env)).any (·.1) = false := by rfl) : FL X W (.Call (.Name x p) (a :: es) [] pos) (lF f g) := by
  refine PE.imp (pe_callTy hc hg hm hv ha hn hdb he hpl) fun σ H Q h => ?_
  obtain ⟨Γ, os, env, A, h⟩ := h
  refine ⟨Γ, os, env, A, WR.bind anti_L h fun ds H1 _ s1 h1 vs rv => ?_⟩
  obtain ⟨z, ez, h3⟩ := WR.of h1
  exact hf _ _ _ _ _ _ (A.hides.mono s1) rv ez fun p vs H3 s3 n e3 r3 => h3 H3 s3 p vs n e3 r3
/-- a built-in that stands at a module's name (from math import gcd) -/
theorem fe_callBf {x : Str} {id : String} {p : Pos} {es : List Expr} {g : GL} {r : List V → Hp → VK → Prop} {f : List D → Option D} (hc : CallR X (.builtin id) r) (hf : OkA X.K r f) (hm : X.mg x = some (.builtin id)) (hg : Gl X x) (ha : FA X W (a :: es) g)
    (hdb : (x == ("__debug__" : Str)) = false := by decide)
    (he : starEach (a :: es) X.env = (false, eval a X.env) :: starEach es X.env := by rfl) (hpl : (backTo pos (starEach es X.env)).any (·.1) = false := by rfl) : FE X W (.Call (.Name x p) (a :: es) [] pos) (eF f g) := by
  refine PE.imp (pe_callBfun hc hg hm ha hdb he hpl) fun σ H Q h => ?_
  obtain ⟨Γ, os, env, A, h⟩ := h
  refine ⟨Γ, os, env, A, WR.bind anti_E h fun ds H1 _ s1 h1 vs rv => ?_⟩
  obtain ⟨z, ez, h3⟩ := WR.of h1
  exact hf _ _ _ _ _ _ (A.hides.mono s1) rv ez fun u H3 s3 r3 => h3 H3 s3 u r3

/-! ### tests -/
theorem ft_cmp {op : CmpOp} {r : R2} {f : D → D → Option Bool} (ho : OpR X (compareOp op) r) (hf : Ok2B X.K r f) (ha : FE X W a ga) (hb : FE X W b gb) (hm : behindInMarks op b = false := by first | exact nomark _ | rfl) : FT X W (.Compare a [op] [b] pos) (b2 f ga gb) := by
  refine PT.imp (pt_cmpR ho ha hb hm) fun σ H Q h => ?_
  obtain ⟨Γ, os, env, A, h⟩ := h
  refine ⟨Γ, os, env, A, WR.bind anti_B h fun d H1 _ s1 h1 v rv => ⟨Γ, os, env, A.mono s1, WR.bind anti_B h1 fun e H2 _ s2 h2 w rw => ?_⟩⟩
  obtain ⟨z, ez, h3⟩ := WR.of h2
  exact hf _ _ _ _ _ _ _ _ (A.hides.mono (s1.trans s2)) (Rep.mono (Same.hid s2) d v rv) rw ez fun H3 s3 => ⟨z, rfl, h3 H3 s3⟩
theorem fe_cmp {op : CmpOp} {r : R2} {f : D → D → Option Bool} (ho : OpR X (compareOp op) r) (hf : Ok2B X.K r f) (ha : FE X W a ga) (hb : FE X W b gb) (hm : behindInMarks op b = false := by first | exact nomark _ | rfl) : FE X W (.Compare a [op] [b] pos) (eB (b2 f ga gb)) := by
  refine PE.imp (pe_cmpR ho ha hb hm) fun σ H Q h => ?_
  obtain ⟨Γ, os, env, A, h⟩ := h
  have h : WR X.K X.mg (Hd Γ os) W σ H (((ga env).bind fun x => (gb env).bind fun y => Res.of (f x y)).bind fun b => .ok (.bl b)) (zE X.K (Hd Γ os) Q) := h
  have h' : WR X.K X.mg (Hd Γ os) W σ H ((ga env).bind fun x => (gb env).bind fun y => Res.of (f x y)) (zB fun b H' => Q (.bl b) H') := WR.bind anti_E h fun b H1 _ s1 h1 => WR.ok h1 (Same.refl H1) _ rfl
  refine ⟨Γ, os, env, A, WR.bind anti_B h' fun d H1 _ s1 h1 v rv => ⟨Γ, os, env, A.mono s1, WR.bind anti_B h1 fun e H2 _ s2 h2 w rw => ?_⟩⟩
  obtain ⟨z, ez, h3⟩ := WR.of h2
  exact hf _ _ _ _ _ _ _ _ (A.hides.mono (s1.trans s2)) (Rep.mono (Same.hid s2) d v rv) rw ez fun H3 s3 => h3 H3 s3
def bChain (f f' : D → D → Option Bool) (a b c : GE) : GB := fun env => (a env).bind fun x => (b env).bind fun y => (Res.of (f x y)).bind fun k => if k then (c env).bind fun z => Res.of (f' y z) else .ok false
theorem ft_chain {op op' : CmpOp} {r r' : R2} {f f' : D → D → Option Bool} (ho : OpR X (compareOp op) r) (hf : Ok2B X.K r f) (ho' : OpR X (compareOp op') r') (hf' : Ok2B X.K r' f') (ha : FE X W a ga) (hb : FE X W b gb) (hc : FE X W c gc) (hm : lastMarks [op, op'] [b, c] = false := by rfl) :
    FT X W (.Compare a [op, op'] [b, c] pos) (bChain f f' ga gb gc) := by
  refine PT.imp (pt_chain ho ho' ha hb hc hm) fun σ H Q h => ?_
  obtain ⟨Γ, os, env, A, h⟩ := h
  refine ⟨Γ, os, env, A, WR.bind anti_B h fun d H1 _ s1 h1 v rv => ⟨Γ, os, env, A.mono s1, WR.bind anti_B h1 fun e H2 _ s2 h2 w rw => ?_⟩⟩
  have h2' : WR X.K X.mg (Hd Γ os) W σ H2 (Res.of (f d e)) (fun _ k H' => ∀ H3, Same H' H3 → WR X.K X.mg (Hd Γ os) W σ H3 (if k = true then (gc env).bind fun z => Res.of (f' e z) else .ok false) (zB Q)) :=
    WR.bind anti_B h2 fun k H3 _ s3 h3 H4 s4 => WR.mono anti_B h3 s4
  obtain ⟨k, ek, h3⟩ := WR.of h2'
  refine hf _ _ _ _ _ _ _ _ (A.hides.mono (s1.trans s2)) (Rep.mono (Same.hid s2) d v rv) rw ek fun H3 s3 => ⟨k, rfl, ?_⟩
  have h4 := h3 H3 s3 H3 (Same.refl H3)
  cases k with
  | false =>
    rw [if_neg Bool.false_ne_true]
    have q := WR.ok h4 (Same.refl H3)
    exact ⟨false, rfl, q⟩
  | true =>
    rw [if_pos rfl]
    refine ⟨Γ, os, env, A.mono (s1.trans (s2.trans s3)), WR.bind anti_B h4 fun z H4 _ s4 h5 u ru => ?_⟩
    obtain ⟨k2, ek2, h6⟩ := WR.of h5
    exact hf' _ _ _ _ _ _ _ _ (A.hides.mono (s1.trans (s2.trans (s3.trans s4)))) (Rep.mono (Same.hid (s3.trans s4)) e w rw) ru ek2 fun H5 s5 => ⟨k2, rfl, h6 H5 s5⟩
variable {p q : GB} {rest : List Expr}
theorem fw_and1 (ha : FT X W a p) : FW X W (.BoolOp .And [a] pos) p := pw_and1 ha
theorem fw_or1 (ha : FT X W a p) : FW X W (.BoolOp .Or [a] pos) p := pw_or1 ha
theorem fw_and (ha : FT X W a p) (hb : FW X W (.BoolOp .And (b :: rest) pos) q) : FW X W (.BoolOp .And (a :: b :: rest) pos) (bAnd p q) := by
  refine PW.imp (pw_and ha hb) fun σ H Q h => ?_
  obtain ⟨Γ, os, env, A, h⟩ := h
  refine ⟨Γ, os, env, A, WR.bind anti_B h fun k H1 _ s1 h1 => ?_⟩
  cases k with
  | true => exact ⟨Γ, os, env, A.mono s1, h1⟩
  | false =>
    have q := WR.ok h1 (Same.refl H1)
    exact q
theorem fw_or (ha : FT X W a p) (hb : FW X W (.BoolOp .Or (b :: rest) pos) q) : FW X W (.BoolOp .Or (a :: b :: rest) pos) (bOr p q) := by
  refine PW.imp (pw_or ha hb) fun σ H Q h => ?_
  obtain ⟨Γ, os, env, A, h⟩ := h
  refine ⟨Γ, os, env, A, WR.bind anti_B h fun k H1 _ s1 h1 => ?_⟩
  cases k with
  | false => exact ⟨Γ, os, env, A.mono s1, h1⟩
  | true =>
    have q := WR.ok h1 (Same.refl H1)
    exact q
theorem ft_w (h : FW X W a p) : FT X W a p := PW.pt h
theorem ft_not (ha : FT X W a p) : FT X W (.UnaryOp .Not a pos) (bNot p) := by
  refine PT.imp (pt_not ha) fun σ H Q h => ?_
  obtain ⟨Γ, os, env, A, h⟩ := h
  exact ⟨Γ, os, env, A, WR.bind anti_B h fun k H1 _ s1 h1 => by
    have q := WR.ok h1 (Same.refl H1)
    exact q⟩
theorem fe_if (hc : FT X W c p) (ha : FE X W a ga) (hb : FE X W b gb) : FE X W (.IfExp c a b pos) (eIf p ga gb) := by
  refine PE.imp (pe_ifExp hc ha hb) fun σ H Q h => ?_
  obtain ⟨Γ, os, env, A, h⟩ := h
  refine ⟨Γ, os, env, A, WR.bind anti_E h fun k H1 _ s1 h1 => ?_⟩
  cases k with
  | true => exact ⟨Γ, os, env, A.mono s1, h1⟩
  | false => exact ⟨Γ, os, env, A.mono s1, h1⟩
/-! ### truth -/
def truth : D → Option Bool
  | .non => some false
  | .bl b => some b
  | .int i => some (i != 0)
  | .str s => some (!s.isEmpty)
  | .tup xs => some (!xs.isEmpty)
  | .lst xs => some (!xs.isEmpty)
  | .ty _ => none
theorem truV_of {P : Addr → Prop} {H : Hp} {d : D} {x : V} {k : Bool} (r : Rep X.K (hid P H) d x) (e : truth d = some k) : TruV X.K x H k := by
  cases d with
  | non => cases r; cases e; exact rfl
  | bl b => cases r; cases e; exact rfl
  | int i => cases r; cases e; exact rfl
  | str s =>
    obtain ⟨rfl, hz, _⟩ := r
    cases e
    refine ⟨?_, ?_⟩
    · show (s.toArray).size ≤ sizeLine
      simpa using hz
    · show (!s.isEmpty) = (((s.toArray).size : Int) != 0)
      cases s <;> simp
      omega
  | tup xs =>
    obtain ⟨a, vs, rfl, h1, h2⟩ := r
    cases e
    refine .inr (.inl ⟨vs, Same.seqT (hid_same P H) h1, ?_⟩)
    have := h2.length
    cases xs <;> cases vs <;> first | rfl | (simp at this)
  | lst xs =>
    obtain ⟨a, vs, rfl, h1, h2⟩ := r
    cases e
    refine .inl ⟨vs, (Same.sl (hid_same P H) h1), ?_⟩
    have := h2.length
    cases xs <;> cases vs <;> first | rfl | (simp at this)
  | ty n => cases e
theorem ft_truth (ha : FE X W a ga) (he : ∀ whole, isTrue a X.env whole = (do let v ← whole; standAt a.pos; holding [v] (truthy v)) := by intro _; rfl) : FT X W a (b1 truth ga) := by
  refine PT.imp (pt_truth ha he) fun σ H Q h => ?_
  obtain ⟨Γ, os, env, A, h⟩ := h
  refine ⟨Γ, os, env, A, WR.bind anti_B h fun d H1 _ s1 h1 v rv => ?_⟩
  obtain ⟨z, ez, h3⟩ := WR.of h1
  exact ⟨z, truV_of rv ez, h3 H1 (Same.refl H1)⟩
/-- and, or, not as values -/
def eAnd (a b : GE) : GE := fun env => (a env).bind fun x => (Res.of (truth x)).bind fun k => if k then b env else .ok x
def eOr (a b : GE) : GE := fun env => (a env).bind fun x => (Res.of (truth x)).bind fun k => if k then .ok x else b env
theorem fe_one {op} (ha : FE X W a ga) : FE X W (.BoolOp op [a] pos) ga := pe_one ha
theorem fe_and (ha : FE X W a ga) (hb : FE X W (.BoolOp .And (b :: rest) pos) gb) : FE X W (.BoolOp .And (a :: b :: rest) pos) (eAnd ga gb) := by
  refine PE.imp (pe_andT ha hb) fun σ H Q h => ?_
  obtain ⟨Γ, os, env, A, h⟩ := h
  refine ⟨Γ, os, env, A, WR.bind anti_E h fun d H1 _ s1 h1 v rv => ?_⟩
  have h1' : WR X.K X.mg (Hd Γ os) W σ H1 (Res.of (truth d)) (fun _ k H' => ∀ H3, Same H' H3 → WR X.K X.mg (Hd Γ os) W σ H3 (if k = true then gb env else .ok d) (zE X.K (Hd Γ os) Q)) :=
    WR.bind anti_E h1 fun k H3 _ s3 h3 H4 s4 => WR.mono anti_E h3 s4
  obtain ⟨k, ek, h3⟩ := WR.of h1'
  have h4 := h3 H1 (Same.refl H1) H1 (Same.refl H1)
  refine ⟨k, truV_of rv ek, ?_⟩
  cases k with
  | true => exact ⟨Γ, os, env, A.mono s1, h4⟩
  | false => exact WR.ok h4 (Same.refl H1) v rv
theorem fe_or (ha : FE X W a ga) (hb : FE X W (.BoolOp .Or (b :: rest) pos) gb) : FE X W (.BoolOp .Or (a :: b :: rest) pos) (eOr ga gb) := by
  refine PE.imp (pe_orT ha hb) fun σ H Q h => ?_
  obtain ⟨Γ, os, env, A, h⟩ := h
  refine ⟨Γ, os, env, A, WR.bind anti_E h fun d H1 _ s1 h1 v rv => ?_⟩
  have h1' : WR X.K X.mg (Hd Γ os) W σ H1 (Res.of (truth d)) (fun _ k H' => ∀ H3, Same H' H3 → WR X.K X.mg (Hd Γ os) W σ H3 (if k = true then .ok d else gb env) (zE X.K (Hd Γ os) Q)) :=
    WR.bind anti_E h1 fun k H3 _ s3 h3 H4 s4 => WR.mono anti_E h3 s4
  obtain ⟨k, ek, h3⟩ := WR.of h1'
  have h4 := h3 H1 (Same.refl H1) H1 (Same.refl H1)
  refine ⟨k, truV_of rv ek, ?_⟩
  cases k with
  | false => exact ⟨Γ, os, env, A.mono s1, h4⟩
  | true => exact WR.ok h4 (Same.refl H1) v rv
def notD (d : D) : Option D := (truth d).map fun b => .bl (!b)
theorem fe_not (ha : FE X W a ga) : FE X W (.UnaryOp .Not a pos) (e1 notD ga) := by
  refine PE.imp (pe_notT ha) fun σ H Q h => ?_
  obtain ⟨Γ, os, env, A, h⟩ := h
  refine ⟨Γ, os, env, A, WR.bind anti_E h fun d H1 _ s1 h1 v rv => ?_⟩
  obtain ⟨z, ez, h3⟩ := WR.of h1
  unfold notD at ez
  cases ek : truth d with
  | none => rw [ek] at ez; cases ez
  | some k =>
    rw [ek] at ez
    cases ez
    exact ⟨k, truV_of rv ek, h3 H1 (Same.refl H1) _ rfl⟩
end
end AF

namespace AF
open PySem PySem.Spec PyProof.Rows L2

/-! ### sizes of ints -/
def Sm (i : Int) : Prop := Builtin.Int.intBits i ≤ 60000000
def S9 (i : Int) : Prop := i ≠ 0 ∧ i.natAbs.log2 < 9000
instance (i : Int) : Decidable (Sm i) := inferInstanceAs (Decidable (_ ≤ _))
instance (i : Int) : Decidable (S9 i) := inferInstanceAs (Decidable (_ ∧ _))
theorem Sm.of {i : Int} {k : Nat} (h : i.natAbs < 2 ^ k) (hk : k ≤ 60000000) : Sm i := Nat.le_trans (PyProof.Rows.intBits_le h) hk
theorem S9.of {i : Int} {k : Nat} (h0 : i ≠ 0) (h : i.natAbs < 2 ^ k) (hk : k ≤ 9000) : S9 i := ⟨h0, by
  have : 0 < k := by
    cases k with
    | zero => simp at h; exact absurd h h0
    | succ k => omega
  exact Nat.lt_of_lt_of_le (PySem.Flt.log2_lt_of this h) hk⟩

theorem OpR.or {X : Cx} {f : Value → Value → Sem Value} {r r' : R2} (h : OpR X f r) (h' : OpR X f r') : OpR X f (fun x y H Q => r x y H Q ∨ r' x y H Q) := by
  intro pins s σ H x y v u Q I rx ry q
  rcases q with q | q
  · exact h pins s σ H x y v u Q I rx ry q
  · exact h' pins s σ H x y v u Q I rx ry q

/-! ### + -/
def dAdd : D → D → Option D
  | .int i, .int j => some (.int (i + j))
  | .str s, .str t => if s.length + t.length ≤ sizeLine then some (.str (s ++ t)) else none
  | .tup xs, .tup ys => if xs.length + ys.length ≤ sizeLine then some (.tup (xs ++ ys)) else none
  | _, _ => none
def lAdd : D → D → Option (List D)
  | .lst xs, .lst ys => if xs.length + ys.length ≤ sizeLine then some (xs ++ ys) else none
  | _, _ => none
section
variable {X : Cx}
def rAddS : R2 := fun x y H Q => ∃ i j : Str, x = .str i ∧ y = .str j ∧ i.length + j.length ≤ sizeLine ∧ Q (.str (i ++ j)) H
def rAdd3 (K : PySem.W.Frag) : R2 := fun x y H Q => rI0 (fun i j => .int (i + j)) x y H Q ∨ (rAddS x y H Q ∨ rCatA K x y H Q)
theorem op_add3 : OpR X (binaryOp .Add) (rAdd3 X.K) := OpR.or op_add (OpR.or op_add_str op_catA)
theorem str_app (s t : List Nat) : (⟨s.toArray⟩ : Str) ++ (⟨t.toArray⟩ : Str) = ⟨(s ++ t).toArray⟩ := by
  show (⟨s.toArray ++ t.toArray⟩ : Str) = _
  simp
theorem ok_add3 {K : PySem.W.Frag} : Ok2 K (rAdd3 K) dAdd := by
  intro P H x y d e z Q hP rx ry ez q
  cases d <;> cases e <;> first | (cases ez; done) | skip
  · cases ez; cases rx; cases ry; exact .inl ⟨_, _, rfl, rfl, q _ H (Same.refl H) rfl⟩
  · rename_i s t
    obtain ⟨rfl, h1, h2⟩ := rx
    obtain ⟨rfl, h3, h4⟩ := ry
    simp only [dAdd] at ez
    split at ez
    · cases ez
      refine .inr (.inl ⟨_, _, rfl, rfl, ?_, q _ H (Same.refl H) ⟨by rw [str_app], ?_, ?_⟩⟩)
      · show (s.toArray).size + (t.toArray).size ≤ sizeLine
        simpa using ‹_›
      · rw [List.length_append]; assumption
      · rw [List.all_append, h2, h4]; rfl
    · cases ez
  · rename_i xs ys
    obtain ⟨a, vs, rfl, h1, h2⟩ := rx
    obtain ⟨b, ws, rfl, h3, h4⟩ := ry
    simp only [dAdd] at ez
    split at ez
    · cases ez
      have l1 := h2.length
      have l2 := h4.length
      refine .inr (.inr ⟨a, b, vs, ws, rfl, rfl, Same.seqT (hid_same P H) h1, Same.seqT (hid_same P H) h3, by omega, fun e0 => ?_, fun n0 e0 => ?_, fun n0 n1 p hp => ?_⟩)
      · subst e0
        have : xs = [] := by cases xs; rfl; simp at l1
        subst this
        exact q _ H (Same.refl H) ⟨b, ws, rfl, h3, h4⟩
      · subst e0
        have : ys = [] := by cases ys; rfl; simp at l2
        subst this
        rw [List.append_nil] at q
        exact q _ H (Same.refl H) ⟨a, vs, rfl, h1, h2⟩
      · exact q _ _ (same_new hp) (tup_new hP hp (h2.append h4))
    · cases ez
/-- a list and a list, read: tracked, or the script -/
def rCatL (K : PySem.W.Frag) : R2 := fun x y H Q => ∃ l b xs zs, x = .ref l ∧ y = .ref b ∧ SqL K H l xs ∧ SqL K H b zs ∧ xs.length + zs.length ≤ sizeLine ∧ ∀ p, H p = none → Q (.ref p) (upd H p (.lst (xs ++ zs)))
theorem op_catL : OpR X (binaryOp .Add) (rCatL X.K) := by
  intro pins s σ H x y v u Q I rx ry h
  obtain ⟨l, b, xs, zs, rfl, rfl, hH, hB, hz, q⟩ := h
  cases rx
  cases ry
  obtain ⟨its, r, ⟨⟨cls, dd, data, sl⟩, n, e, hc, hd, hx⟩, z⟩ := I.list hH
  obtain ⟨its2, r2, ⟨⟨cls2, dd2, data2, sl2⟩, n2, e2, hc2, hd2, hx2⟩, z2⟩ := I.list hB
  simp only at hc hd hx hc2 hd2 hx2
  subst hc hd hx hc2 hd2 hx2
  have hl := r.length
  have hl2 := r2.length
  refine PySem.concat_meets ⟨_, e, rfl⟩ ⟨_, e2, rfl⟩ noFill_list_add seq_list_add PySem.F.slot_list_add PySem.F.entry_list_add (PySem.F.args_list_add_2 _ _) (list_addW l b its.toArray its2.toArray n n2 none none sl sl2 (by rw [List.size_toArray, List.size_toArray]; omega)) ⟨e, e2, ?_⟩
  have ea : its.toArray ++ its2.toArray = (its ++ its2).toArray := by simp
  rw [ea]
  exact ⟨.ref _, _, I.lnew (t' := s.toks) (r.append r2) (by rw [List.length_append]; omega), rfl, q _ I.fresh⟩
theorem ok_catL {K : PySem.W.Frag} : Ok2L K (rCatL K) lAdd := by
  intro P H x y d e z Q hP rx ry ez q
  cases d <;> cases e <;> first | (cases ez; done) | skip
  rename_i xs ys
  obtain ⟨a, vs, rfl, h1, h2⟩ := rx
  obtain ⟨b, ws, rfl, h3, h4⟩ := ry
  simp only [lAdd] at ez
  split at ez
  · cases ez
    have l1 := h2.length
    have l2 := h4.length
    exact ⟨a, b, vs, ws, rfl, rfl, Same.sl (hid_same P H) h1, Same.sl (hid_same P H) h3, by omega, fun p hp => q p _ _ (same_new hp) hp upd_same (reps_new hp (h2.append h4))⟩
  · cases ez
variable {W : WX} {a b : Expr} {ga gb : GE} {pos : Pos}
theorem fe_add (ha : FE X W a ga) (hb : FE X W b gb) : FE X W (.BinOp a .Add b pos) (e2 dAdd ga gb) := fe_op op_add3 ok_add3 ha hb
theorem fl_add (ha : FE X W a ga) (hb : FE X W b gb) : FL X W (.BinOp a .Add b pos) (l2 lAdd ga gb) := fl_op op_catL ok_catL ha hb

/-! ### ints -/
def dI (f : Int → Int → Option Int) : D → D → Option D
  | .int i, .int j => (f i j).map .int
  | _, _ => none
theorem ok_I {K : PySem.W.Frag} {C : Int → Int → Prop} {g : Int → Int → Int} {f : Int → Int → Option Int} (h : ∀ i j k, f i j = some k → C i j ∧ k = g i j) : Ok2 K (rI C fun i j => .int (g i j)) (dI f) := by
  intro P H x y d e z Q hP rx ry ez q
  cases d <;> cases e <;> first | (cases ez; done) | skip
  rename_i i j
  cases rx
  cases ry
  cases ek : f i j with
  | none => simp [dI, ek] at ez
  | some k =>
    simp [dI, ek] at ez
    subst ez
    obtain ⟨h1, rfl⟩ := h _ _ _ ek
    exact ⟨i, j, rfl, rfl, h1, q _ H (Same.refl H) rfl⟩
theorem ok_I0 {K : PySem.W.Frag} {g : Int → Int → Int} : Ok2 K (rI0 fun i j => .int (g i j)) (dI fun i j => some (g i j)) := by
  intro P H x y d e z Q hP rx ry ez q
  cases d <;> cases e <;> first | (cases ez; done) | skip
  cases rx
  cases ry
  cases ez
  exact ⟨_, _, rfl, rfl, q _ H (Same.refl H) rfl⟩
def iMul (i j : Int) : Option Int := if Sm i ∧ Sm j then some (i * j) else none
def iFdiv (i j : Int) : Option Int := if S9 j then some (i.fdiv j) else none
def iMod (i j : Int) : Option Int := if j ≠ 0 then some (i.fmod j) else none
def iPow (i j : Int) : Option Int := if 0 ≤ j ∧ j ≤ 1000000 ∧ i.natAbs < 18446744073709551616 then some (i ^ j.toNat) else none
def iShl (i j : Int) : Option Int := if 0 ≤ j ∧ j ≤ 1000000 ∧ i.natAbs < 18446744073709551616 then some (i * 2 ^ j.toNat) else none
def iShr (i j : Int) : Option Int := if 0 ≤ j then some (i / 2 ^ j.toNat) else none
abbrev dSub : D → D → Option D := dI fun i j => some (i - j)
abbrev dMul : D → D → Option D := dI iMul
abbrev dFdiv : D → D → Option D := dI iFdiv
abbrev dMod : D → D → Option D := dI iMod
abbrev dPow : D → D → Option D := dI iPow
abbrev dShl : D → D → Option D := dI iShl
abbrev dShr : D → D → Option D := dI iShr
abbrev dAnd : D → D → Option D := dI fun i j => some (Builtin.bitAnd i j)
abbrev dOr : D → D → Option D := dI fun i j => some (Builtin.bitOr i j)
abbrev dXor : D → D → Option D := dI fun i j => some (Builtin.bitXor i j)
theorem op_fdivG : OpR X (binaryOp .FloorDiv) (rI (fun _ j => S9 j) fun i j => .int (i.fdiv j)) := opI fun i j _ _ _ _ _ hc q => floordiv_int hc.1 q (.inl (PyProof.noPylong_of_log2 hc.2))
theorem fe_sub (ha : FE X W a ga) (hb : FE X W b gb) : FE X W (.BinOp a .Sub b pos) (e2 dSub ga gb) := fe_op op_sub ok_I0 ha hb
theorem fe_mul (ha : FE X W a ga) (hb : FE X W b gb) : FE X W (.BinOp a .Mult b pos) (e2 dMul ga gb) := fe_op op_mulX (ok_I fun i j k h => by
  unfold iMul at h
  split at h
  · rename_i hh
    cases h
    refine ⟨?_, rfl⟩
    have h1 : Builtin.Int.intBits i ≤ 60000000 := hh.1
    have h2 : Builtin.Int.intBits j ≤ 60000000 := hh.2
    unfold CMulX
    omega
  · cases h) ha hb
theorem fe_fdiv (ha : FE X W a ga) (hb : FE X W b gb) : FE X W (.BinOp a .FloorDiv b pos) (e2 dFdiv ga gb) := fe_op op_fdivG (ok_I fun i j k h => by
  unfold iFdiv at h
  split at h
  · cases h; exact ⟨‹_›, rfl⟩
  · cases h) ha hb
theorem fe_mod (ha : FE X W a ga) (hb : FE X W b gb) : FE X W (.BinOp a .Mod b pos) (e2 dMod ga gb) := fe_op op_modN (ok_I fun i j k h => by
  unfold iMod at h
  split at h
  · cases h; exact ⟨‹_›, rfl⟩
  · cases h) ha hb
theorem fe_pow (ha : FE X W a ga) (hb : FE X W b gb) : FE X W (.BinOp a .Pow b pos) (e2 dPow ga gb) := fe_op op_pow (ok_I fun i j k h => by
  unfold iPow at h
  split at h
  · rename_i hh
    cases h; exact ⟨hh, rfl⟩
  · cases h) ha hb
theorem fe_shl (ha : FE X W a ga) (hb : FE X W b gb) : FE X W (.BinOp a .LShift b pos) (e2 dShl ga gb) := fe_op op_shl (ok_I fun i j k h => by
  unfold iShl at h
  split at h
  · rename_i hh
    cases h; exact ⟨hh, rfl⟩
  · cases h) ha hb
theorem fe_shr (ha : FE X W a ga) (hb : FE X W b gb) : FE X W (.BinOp a .RShift b pos) (e2 dShr ga gb) := fe_op op_shr (ok_I fun i j k h => by
  unfold iShr at h
  split at h
  · cases h; exact ⟨‹_›, rfl⟩
  · cases h) ha hb
theorem fe_bitand (ha : FE X W a ga) (hb : FE X W b gb) : FE X W (.BinOp a .BitAnd b pos) (e2 dAnd ga gb) := fe_op op_and ok_I0 ha hb
theorem fe_bitor (ha : FE X W a ga) (hb : FE X W b gb) : FE X W (.BinOp a .BitOr b pos) (e2 dOr ga gb) := fe_op op_or ok_I0 ha hb
theorem fe_bitxor (ha : FE X W a ga) (hb : FE X W b gb) : FE X W (.BinOp a .BitXor b pos) (e2 dXor ga gb) := fe_op op_xor ok_I0 ha hb
def dNeg : D → Option D
  | .int i => some (.int (-i))
  | _ => none
theorem fe_neg (ha : FE X W a ga) : FE X W (.UnaryOp .USub a pos) (e1 dNeg ga) := fe_un un_neg (fun P H x d z Q hP rx ez q => by
  cases d <;> first | (cases ez; done) | skip
  cases rx
  cases ez
  exact ⟨_, rfl, q _ H (Same.refl H) rfl⟩) ha

/-! ### order -/
def cI (f : Int → Int → Bool) : D → D → Option Bool
  | .int i, .int j => some (f i j)
  | _, _ => none
theorem ok_cI {K : PySem.W.Frag} {f : Int → Int → Bool} : Ok2B K (rI0 fun i j => .bl (f i j)) (cI f) := by
  intro P H x y d e z Q hP rx ry ez q
  cases d <;> cases e <;> first | (cases ez; done) | skip
  cases rx
  cases ry
  cases ez
  exact ⟨_, _, rfl, rfl, q H (Same.refl H)⟩
theorem ocI {f : Value → Value → Sem Value} {g : Int → Int → Bool} (rule : ∀ (i j : Int) (t u : Tok) (Q : Value → Shared → Prop) (E : Value → Shared → Prop) (s : Shared), Q (.bool (g i j)) s → wpAny (model X.prog X.w) X.A (f (.int i t) (.int j u)) Q E s) : OpR X f (rI0 fun i j => .bl (g i j)) := by
  intro pins s σ H x y v u Q I rx ry h
  obtain ⟨i, j, rfl, rfl, q⟩ := h
  obtain ⟨t, rfl⟩ := rx
  obtain ⟨t', rfl⟩ := ry
  exact rule i j t t' _ _ s ⟨.bl _, H, I, rfl, q⟩
theorem oc_lt : OpR X (compareOp .Lt) (rI0 fun i j => .bl (decide (i < j))) := ocI fun _ _ _ _ _ _ _ h => lt_int h
theorem oc_le : OpR X (compareOp .LtE) (rI0 fun i j => .bl (decide (i ≤ j))) := ocI fun _ _ _ _ _ _ _ h => le_int h
theorem oc_gt : OpR X (compareOp .Gt) (rI0 fun i j => .bl (decide (j < i))) := ocI fun _ _ _ _ _ _ _ h => gt_int h
theorem oc_ge : OpR X (compareOp .GtE) (rI0 fun i j => .bl (decide (j ≤ i))) := ocI fun _ _ _ _ _ _ _ h => ge_int h
abbrev cLt := cI fun i j => decide (i < j)
abbrev cLe := cI fun i j => decide (i ≤ j)
abbrev cGt := cI fun i j => decide (j < i)
abbrev cGe := cI fun i j => decide (j ≤ i)

/-! ### == -/
mutual
def toPy : D → PyData
  | .non => .none
  | .bl b => .bool b
  | .int i => .int i
  | .str s => .str ⟨s.toArray⟩
  | .tup xs => .tuple (toPys xs)
  | .lst xs => .list (toPys xs)
  | .ty _ => .none
def toPys : List D → List PyData
  | [] => []
  | d :: ds => toPy d :: toPys ds
end
mutual
def isData : D → Bool
  | .ty _ => false
  | .tup xs => isDatas xs
  | .lst xs => isDatas xs
  | _ => true
def isDatas : List D → Bool
  | [] => true
  | d :: ds => isData d && isDatas ds
end
def okD (d : D) : Bool := isData d && decide ((toPy d).depth ≤ 60)
def cEq (d e : D) : Option Bool := if okD d && okD e then some (PyData.eqv (toPy d) (toPy e)) else none
def cNe (d e : D) : Option Bool := (cEq d e).map not
mutual
theorem dp_of {K : PySem.W.Frag} {P : Addr → Prop} {H : Hp} : ∀ (d : D) (v : V), Rep K (hid P H) d v → isData d = true → Dp K H v (toPy d) ∧ (toPy d).canLay0 = true
  | .non, _, r, _ => by cases r; exact ⟨.non, rfl⟩
  | .bl b, _, r, _ => by cases r; exact ⟨.bl b, rfl⟩
  | .int i, _, r, _ => by cases r; exact ⟨.int i, rfl⟩
  | .str s, _, r, _ => by
    obtain ⟨rfl, h1, h2⟩ := r
    refine ⟨.str _, ?_⟩
    show (s.toArray).all (· < 0x110000) = true
    simpa using h2
  | .ty _, _, _, h => by cases h
  | .tup xs, _, r, h => by
    obtain ⟨a, vs, rfl, h1, h2⟩ := r
    obtain ⟨q1, q2⟩ := dps_of xs vs h2 h
    exact ⟨.tup (Same.seqT (hid_same P H) h1) q1, q2⟩
  | .lst xs, _, r, h => by
    obtain ⟨a, vs, rfl, h1, h2⟩ := r
    obtain ⟨q1, q2⟩ := dps_of xs vs h2 h
    exact ⟨.lst ((Same.sl (hid_same P H) h1)) q1, q2⟩
theorem dps_of {K : PySem.W.Frag} {P : Addr → Prop} {H : Hp} : ∀ (ds : List D) (vs : List V), Reps K (hid P H) ds vs → isDatas ds = true → DpAll K H vs (toPys ds) ∧ PyData.canLayAll0 (toPys ds) = true
  | [], _, r, _ => by rw [show _ = [] from r]; exact ⟨.nil, rfl⟩
  | d :: ds, _, r, h => by
    obtain ⟨v, r', rfl, h1, h2⟩ := r
    have h' : (isData d && isDatas ds) = true := h
    rw [Bool.and_eq_true] at h'
    obtain ⟨q1, q2⟩ := dp_of d v h1 h'.1
    obtain ⟨q3, q4⟩ := dps_of ds r' h2 h'.2
    exact ⟨.cons q1 q3, by show ((toPy d).canLay0 && PyData.canLayAll0 (toPys ds)) = true; rw [q2, q4]; rfl⟩
end
theorem dpo {K : PySem.W.Frag} {P : Addr → Prop} {H : Hp} {d : D} {v : V} (r : Rep K (hid P H) d v) (h : okD d = true) : Dp K H v (toPy d) ∧ SeqAt.shaped (toPy d) = true ∧ (toPy d).depth ≤ 60 := by
  unfold okD at h
  rw [Bool.and_eq_true] at h
  obtain ⟨q1, q2⟩ := dp_of d v r h.1
  have h3 := of_decide_eq_true h.2
  refine ⟨q1, ?_, h3⟩
  unfold SeqAt.shaped
  rw [q2, decide_eq_true (by omega : (toPy d).depth ≤ 64)]
  rfl
theorem ok_eq {K : PySem.W.Frag} : Ok2B K (rEqD K) cEq := by
  intro P H x y d e z Q hP rx ry ez q
  unfold cEq at ez
  split at ez
  · rename_i hh
    rw [Bool.and_eq_true] at hh
    cases ez
    obtain ⟨a1, a2, _⟩ := dpo rx hh.1
    obtain ⟨b1, b2, _⟩ := dpo ry hh.2
    exact ⟨_, _, a1, b1, a2, b2, q H (Same.refl H)⟩
  · cases ez
theorem ok_ne {K : PySem.W.Frag} : Ok2B K (rNeD K) cNe := by
  intro P H x y d e z Q hP rx ry ez q
  unfold cNe cEq at ez
  split at ez
  · rename_i hh
    rw [Bool.and_eq_true] at hh
    cases ez
    obtain ⟨a1, a2, _⟩ := dpo rx hh.1
    obtain ⟨b1, b2, _⟩ := dpo ry hh.2
    exact ⟨_, _, a1, b1, a2, b2, q H (Same.refl H)⟩
  · cases ez
/-! ### is -/
def cIs : D → D → Option Bool
  | .non, .non => some true
  | _, .non => some false
  | .bl a, .bl b => some (a == b)
  | .ty a, .ty b => some (a == b)
  | .ty _, _ => none
  | _, .bl _ => some false
  | _, _ => none
def cIsNot (d e : D) : Option Bool := (cIs d e).map not
/-- the value is no built-in name -/
def plainV : V → V → Option Bool
  | .non, .non => some true
  | .bl a, .bl b => some (a == b)
  | .ty a, .ty b => some (a == b)
  | .ref _, .ref _ => none
  | .int _, .int _ => none
  | .flt _, .flt _ => none
  | .str _, .str _ => none
  | .byt _, .byt _ => none
  | _, _ => some false
theorem plainV_ok {x y : V} {v u : Value} {b : Bool} (rx : RelV x v) (ry : RelV y u) (h : plainV x y = some b) : plainIs v u = true ∧ (v == u) = b := by
  cases x <;> cases y <;> first | (cases h; done) | skip
  all_goals (simp only [L2.RelV] at rx ry)
  all_goals (first | (obtain ⟨t, rfl⟩ := rx) | (subst rx))
  all_goals (first | (obtain ⟨t', rfl⟩ := ry) | (subst ry))
  all_goals (simp only [plainV, Option.some.injEq] at h; subst h)
  all_goals (refine ⟨rfl, ?_⟩)
  all_goals (first | rfl | skip)
  all_goals (rw [Bool.eq_iff_iff]; simp)
theorem op_isV : OpR X (compareOp .Is) (fun x y H Q => ∃ b, plainV x y = some b ∧ Q (.bl b) H) := by
  intro pins s σ H x y v u Q I rx ry h
  obtain ⟨b, e, q⟩ := h
  obtain ⟨h1, h2⟩ := plainV_ok rx ry e
  exact wpAny_is_plain h1 ⟨.bl b, H, I, by rw [h2]; rfl, q⟩
theorem op_isNotV : OpR X (compareOp .IsNot) (fun x y H Q => ∃ b, plainV x y = some b ∧ Q (.bl (!b)) H) := by
  intro pins s σ H x y v u Q I rx ry h
  obtain ⟨b, e, q⟩ := h
  obtain ⟨h1, h2⟩ := plainV_ok rx ry e
  exact wpAny_isNot_plain h1 ⟨.bl (!b), H, I, by rw [h2]; rfl, q⟩
theorem plainV_of {K : PySem.W.Frag} {G : Hp} {d e : D} {x y : V} {b : Bool} (rx : Rep K G d x) (ry : Rep K G e y) (h : cIs d e = some b) : plainV x y = some b := by
  cases d <;> cases e <;> first
    | (cases h; done)
    | (cases rx; cases ry; exact h)
    | (obtain ⟨rfl, _⟩ := rx; cases ry; exact h)
    | (obtain ⟨_, _, rfl, _⟩ := rx; cases ry; exact h)
theorem ok_is {K : PySem.W.Frag} : Ok2B K (fun x y H Q => ∃ b, plainV x y = some b ∧ Q (.bl b) H) cIs := fun P H x y d e z Q hP rx ry ez q => ⟨z, plainV_of rx ry ez, q H (Same.refl H)⟩
theorem ok_isNot {K : PySem.W.Frag} : Ok2B K (fun x y H Q => ∃ b, plainV x y = some b ∧ Q (.bl (!b)) H) cIsNot := fun P H x y d e z Q hP rx ry ez q => by
  unfold cIsNot at ez
  cases ek : cIs d e with
  | none => rw [ek] at ez; cases ez
  | some k =>
    rw [ek] at ez
    cases ez
    exact ⟨k, plainV_of rx ry ek, q H (Same.refl H)⟩
/-! ### in -/
/-- x in xs -/
def cIn : D → D → Option Bool
  | d, .lst xs => if okD d && okD (.lst xs) then some ((toPys xs).any fun z => PyData.eqv z (toPy d)) else none
  | d, .tup xs => if okD d && okD (.tup xs) then some ((toPys xs).any fun z => PyData.eqv z (toPy d)) else none
  | .str [c], .str s => some (decide (c ∈ s))
  | _, _ => none
end
end AF

namespace AF
open PySem PySem.Spec PyProof.Rows L2

section
variable {K : PySem.W.Frag} {Γ Γ' : Ga} {os : List (Option Addr)} {σ : L2.St} {H H' : Hp} {env : En} {mg : Str → Option Value} {W : WX}
theorem Hd.set_none {i : Nat} {a : Addr} (h : Hd Γ (os.set i none) a) : Hd Γ os a := by
  rcases h with h | h
  · exact .inl h
  · rcases List.mem_or_eq_of_mem_set h with h | h
    · exact .inr h
    · cases h
theorem get_set_some {α : Type} {l : List α} {i j : Nat} {a b : α} (h : (l.set i a)[j]? = some b) : (j = i ∧ b = a ∧ i < l.length) ∨ (j ≠ i ∧ l[j]? = some b) := by
  by_cases e : i = j
  · subst e
    by_cases hi : i < l.length
    · rw [List.getElem?_set_self hi] at h
      exact .inl ⟨rfl, (Option.some.inj h).symm, hi⟩
    · rw [List.getElem?_eq_none (by simpa using hi)] at h
      cases h
  · rw [List.getElem?_set_ne e] at h
    exact .inr ⟨Ne.symm e, h⟩
theorem Agree.set_val (A : Agree K Γ os σ H env) {i : Nat} {d : D} {v : V} (r : Rep K (hid (Hd Γ os) H) d v) : Agree K Γ (os.set i none) (σ.set i (some v)) H (env.set i (.val d)) := by
  have s : Same (hid (Hd Γ os) H) (hid (Hd Γ (os.set i none)) H) := Same.hid2 (Same.refl H) fun _ _ _ h q => h q.set_none
  refine ⟨by simp [A.len], by simp [A.olen], A.same, A.vis.trans s, A.p0, fun p h => ?_, fun a b p h1 h2 => ?_, fun j sl h => ?_⟩
  · rcases List.mem_or_eq_of_mem_set h with h | h
    · exact A.fresh p h
    · cases h
  · rcases get_set_some h1 with ⟨_, z, _⟩ | ⟨_, h1⟩
    · cases z
    rcases get_set_some h2 with ⟨_, z, _⟩ | ⟨_, h2⟩
    · cases z
    exact A.nd a b p h1 h2
  · rcases get_set_some h with ⟨rfl, rfl, hi⟩ | ⟨ne, h⟩
    · exact ⟨some v, none, List.getElem?_set_self (by rw [A.len]; exact hi), List.getElem?_set_self (by rw [A.olen]; exact hi), rfl, v, rfl, Rep.mono s d v r⟩
    · obtain ⟨sv, o, h1, h2, h3⟩ := A.slot j sl h
      exact ⟨sv, o, by rw [List.getElem?_set_ne (Ne.symm ne)]; exact h1, by rw [List.getElem?_set_ne (Ne.symm ne)]; exact h2, h3.mono s (Same.refl H)⟩
theorem Agree.set_unk (A : Agree K Γ os σ H env) (i : Nat) (o : Option V) : Agree K Γ (os.set i none) (σ.set i o) H (env.set i .unk) := by
  have s : Same (hid (Hd Γ os) H) (hid (Hd Γ (os.set i none)) H) := Same.hid2 (Same.refl H) fun _ _ _ h q => h q.set_none
  refine ⟨by simp [A.len], by simp [A.olen], A.same, A.vis.trans s, A.p0, fun p h => ?_, fun a b p h1 h2 => ?_, fun j sl h => ?_⟩
  · rcases List.mem_or_eq_of_mem_set h with h | h
    · exact A.fresh p h
    · cases h
  · rcases get_set_some h1 with ⟨_, z, _⟩ | ⟨_, h1⟩
    · cases z
    rcases get_set_some h2 with ⟨_, z, _⟩ | ⟨_, h2⟩
    · cases z
    exact A.nd a b p h1 h2
  · rcases get_set_some h with ⟨rfl, rfl, hi⟩ | ⟨ne, h⟩
    · exact ⟨o, none, List.getElem?_set_self (by rw [A.len]; exact hi), List.getElem?_set_self (by rw [A.olen]; exact hi), rfl⟩
    · obtain ⟨sv, o', h1, h2, h3⟩ := A.slot j sl h
      exact ⟨sv, o', by rw [List.getElem?_set_ne (Ne.symm ne)]; exact h1, by rw [List.getElem?_set_ne (Ne.symm ne)]; exact h2, h3.mono s (Same.refl H)⟩
theorem Agree.set_own (A : Agree K Γ os σ H env) {i : Nat} {ds : List D} {p : Addr} {vs : List V} (s : Same H H') (n : H p = none) (e : H' p = some (.lst vs)) (r : Reps K (hid (fun a => Hd Γ os a ∨ a = p) H') ds vs) :
    Agree K Γ (os.set i (some p)) (σ.set i (some (.ref p))) H' (env.set i (.own ds)) := by
  have sub : ∀ a, Hd Γ (os.set i (some p)) a → Hd Γ os a ∨ a = p := fun a h => by
    rcases h with h | h
    · exact .inl (.inl h)
    · rcases List.mem_or_eq_of_mem_set h with h | h
      · exact .inl (.inr h)
      · exact .inr (Option.some.inj h)
  have s1 : Same (hid (Hd Γ os) H) (hid (fun a => Hd Γ os a ∨ a = p) H') := Same.hid2 s fun a o e h q => q.elim h (ne_of_none e n)
  have s2 : Same (hid (fun a => Hd Γ os a ∨ a = p) H') (hid (Hd Γ (os.set i (some p))) H') := Same.hid2 (Same.refl H') fun a o e h q => h (sub a q)
  have nos : some p ∉ os := fun h => by
    obtain ⟨ws, q⟩ := A.ownAt h
    rw [n] at q
    cases q
  refine ⟨by simp [A.len], by simp [A.olen], A.same.trans s, (A.vis.trans s1).trans s2, A.p0, fun q h => ?_, fun a b q h1 h2 => ?_, fun j sl h => ?_⟩
  · rcases List.mem_or_eq_of_mem_set h with h | h
    · exact A.fresh q h
    · cases h
      exact A.same.free n
  · rcases get_set_some h1 with ⟨e1, z1, _⟩ | ⟨_, h1⟩
    · rcases get_set_some h2 with ⟨e2, z2, _⟩ | ⟨_, h2⟩
      · rw [e1, e2]
      · cases z1
        exact absurd (List.mem_of_getElem? h2) nos
    · rcases get_set_some h2 with ⟨e2, z2, _⟩ | ⟨_, h2⟩
      · cases z2
        exact absurd (List.mem_of_getElem? h1) nos
      · exact A.nd a b q h1 h2
  · rcases get_set_some h with ⟨rfl, rfl, hi⟩ | ⟨ne, h⟩
    · exact ⟨_, _, List.getElem?_set_self (by rw [A.len]; exact hi), List.getElem?_set_self (by rw [A.olen]; exact hi), p, vs, rfl, rfl, e, Reps.mono s2 ds vs r⟩
    · obtain ⟨sv, o, h1, h2, h3⟩ := A.slot j sl h
      exact ⟨sv, o, by rw [List.getElem?_set_ne (Ne.symm ne)]; exact h1, by rw [List.getElem?_set_ne (Ne.symm ne)]; exact h2, h3.mono (s1.trans s2) s⟩
theorem Agree.own (A : Agree K Γ os σ H env) {i : Nat} {ds : List D} (h : env[i]? = some (.own ds)) : ∃ p vs, os[i]? = some (some p) ∧ σ[i]? = some (some (.ref p)) ∧ H p = some (.lst vs) ∧ Reps K (hid (Hd Γ os) H) ds vs := by
  obtain ⟨sv, o, h1, h2, p, vs, rfl, rfl, h3, h4⟩ := A.slot i _ h
  exact ⟨p, vs, h2, h1, h3, h4⟩
theorem Agree.freeze (A : Agree K Γ os σ H env) {i : Nat} {ds : List D} (h : env[i]? = some (.own ds)) : Agree K Γ (os.set i none) σ H (env.set i (.val (.lst ds))) := by
  obtain ⟨p, vs, ho, hσ, hp, hr⟩ := A.own h
  have s : Same (hid (Hd Γ os) H) (hid (Hd Γ (os.set i none)) H) := Same.hid2 (Same.refl H) fun _ _ _ h q => h q.set_none
  have np : ¬ Hd Γ (os.set i none) p := fun q => by
    rcases q with q | q
    · exact A.notP0 (List.mem_of_getElem? ho) q
    · obtain ⟨j, hj, e⟩ := List.mem_iff_getElem.mp q
      have e' : (os.set i none)[j]? = some (some p) := by rw [List.getElem?_eq_getElem hj, e]
      rcases get_set_some e' with ⟨_, z, _⟩ | ⟨ne, e'⟩
      · cases z
      · exact ne (A.nd j i p e' ho)
  refine ⟨by simp [A.len], by simp [A.olen], A.same, A.vis.trans s, A.p0, fun p h => ?_, fun a b p h1 h2 => ?_, fun j sl h' => ?_⟩
  · rcases List.mem_or_eq_of_mem_set h with h | h
    · exact A.fresh p h
    · cases h
  · rcases get_set_some h1 with ⟨_, z, _⟩ | ⟨_, h1⟩
    · cases z
    rcases get_set_some h2 with ⟨_, z, _⟩ | ⟨_, h2⟩
    · cases z
    exact A.nd a b p h1 h2
  · rcases get_set_some h' with ⟨rfl, rfl, hi⟩ | ⟨ne, h'⟩
    · exact ⟨_, none, hσ, List.getElem?_set_self (by rw [A.olen]; exact hi), rfl, .ref p, rfl, p, vs, rfl, .inl (.inl (hid_of np hp)), Reps.mono s ds vs hr⟩
    · obtain ⟨sv, o, h1, h2, h3⟩ := A.slot j sl h'
      exact ⟨sv, o, h1, by rw [List.getElem?_set_ne (Ne.symm ne)]; exact h2, h3.mono s (Same.refl H)⟩
/-- an own list is written -/
theorem Agree.upd_own (A : Agree K Γ os σ H env) {i : Nat} {p : Addr} {ds : List D} {vs : List V} (ho : os[i]? = some (some p)) (hσ : σ[i]? = some (some (.ref p))) (r : Reps K (hid (Hd Γ os) H) ds vs) : Agree K Γ os σ (upd H p (.lst vs)) (env.set i (.own ds)) := by
  have hp : Hd Γ os p := .inr (List.mem_of_getElem? ho)
  have n0 : Γ.H0 p = none := A.fresh p (List.mem_of_getElem? ho)
  have s : Same (hid (Hd Γ os) H) (hid (Hd Γ os) (upd H p (.lst vs))) := fun a o h => by
    obtain ⟨h1, h2⟩ := hid_some h
    have ne : a ≠ p := fun e => h1 (by rw [e]; exact hp)
    exact hid_of h1 (by rw [upd_ne ne]; exact h2)
  refine ⟨by simp [A.len], by simp [A.olen], fun a o h => ?_, A.vis.trans s, A.p0, A.fresh, A.nd, fun j sl h => ?_⟩
  · rw [upd_ne (ne_of_none h n0)]
    exact A.same _ _ h
  · rcases get_set_some h with ⟨rfl, rfl, hi⟩ | ⟨ne, h⟩
    · exact ⟨_, _, hσ, ho, p, vs, rfl, rfl, upd_same, Reps.mono s ds vs r⟩
    · obtain ⟨sv, o, h1, h2, h3⟩ := A.slot j sl h
      refine ⟨sv, o, h1, h2, ?_⟩
      cases sl with
      | unk => exact h3
      | val d =>
        obtain ⟨q1, v, q2, q3⟩ := h3
        exact ⟨q1, v, q2, Rep.mono s d v q3⟩
      | own es =>
        obtain ⟨q, ws, q1, q2, q3, q4⟩ := h3
        subst q1
        have nq : q ≠ p := fun z => ne (A.nd j i p (z ▸ h2) ho)
        exact ⟨q, ws, rfl, q2, by rw [upd_ne nq]; exact q3, Reps.mono s es ws q4⟩
theorem Agree.weak (A : Agree K Γ' os σ H env) (e1 : Γ'.H0 = Γ.H0) (e2 : Γ'.P0 = Γ.P0) (s : Same Γ.G0 Γ'.G0) : Agree K Γ os σ H env := by
  cases Γ
  cases Γ'
  cases e1
  cases e2
  exact ⟨A.len, A.olen, A.same, s.trans A.vis, A.p0, A.fresh, A.nd, A.slot⟩
theorem WS.weak {r : Out} {Dn : Ends} (h : WS K mg W Γ r Dn) (e1 : Γ'.H0 = Γ.H0) (e2 : Γ'.P0 = Γ.P0) (s : Same Γ.G0 Γ'.G0) : WS K mg W Γ' r Dn := by
  have eh : ∀ os, Hd Γ' os = Hd Γ os := fun os => by unfold Hd; rw [e2]
  cases r with
  | next e => exact fun os σ H A => h os σ H (A.weak e1 e2 s)
  | brk e => exact fun os σ H A => h os σ H (A.weak e1 e2 s)
  | cont e => exact fun os σ H A => h os σ H (A.weak e1 e2 s)
  | ret d => exact fun v H q r => h v H (by rw [← e1]; exact q) (by rw [← e2]; exact r)
  | err x e => exact fun os σ H c pd A q => h os σ H c pd (A.weak e1 e2 s) (by rw [← eh]; exact q)
  | stuck => exact h
/-- from a statement's wish to an expression's -/
theorem WS.expr {α : Type} {r : Res α} {f : α → Out} {Dn : Ends} {Z : Hp → α → Hp → Prop} (A : Agree K Γ os σ H env) (h : WS K mg W Γ (match r with | .ok a => f a | .err e => .err e env | .stuck => .stuck) Dn)
    (k : ∀ a H', r = .ok a → Same H H' → WS K mg W Γ (f a) Dn → Z H a H') : WR K mg (Hd Γ os) W σ H r Z := by
  cases r with
  | ok a => exact fun H' s => k a H' rfl s h
  | err e => exact fun c pd H' s q => h os σ H' c pd (A.mono s) q
  | stuck => exact h
end

/-! ### mirrors of statements -/
def onOk {α : Type} (env : En) (r : Res α) (f : α → Out) : Out := match r with
  | .ok a => f a
  | .err e => .err e env
  | .stuck => .stuck
def sSeq (a b : GS) : GS := fun env => match a env with
  | .next e => b e
  | r => r
def sNil : GS := fun env => .next env
def sBreak : GS := fun env => .brk env
def sCont : GS := fun env => .cont env
def sSet (i : Nat) (g : GE) : GS := fun env => onOk env (g env) fun d => .next (env.set i (.val d))
def sSetL (i : Nat) (g : GL) : GS := fun env => onOk env (g env) fun ds => .next (env.set i (.own ds))
def sExpr (g : GE) : GS := fun env => onOk env (g env) fun _ => .next env
def sRet (g : GE) : GS := fun env => onOk env (g env) fun d => .ret d
def sRetN : GS := fun _ => .ret .non
def sIf (c : GB) (a b : GS) : GS := fun env => onOk env (c env) fun k => if k then a env else b env
def withOwn (env : En) (i : Nat) (f : List D → Out) : Out := match env[i]? with
  | some (.own ds) => f ds
  | _ => .stuck
def sRetO (i : Nat) : GS := fun env => withOwn env i fun ds => .ret (.lst ds)
def sApp (i : Nat) (g : GE) : GS := fun env => withOwn env i fun ds => onOk env (g env) fun d => if ds.length < sizeLine then .next (env.set i (.own (ds ++ [d]))) else .stuck
def frz (i : Nat) (env : En) : En := match env[i]? with
  | some (.own ds) => env.set i (.val (.lst ds))
  | _ => env
def sFrz (i : Nat) (g : GS) : GS := fun env => g (frz i env)
/-- a target: how its slots are set -/
abbrev GT := D → En → Option En
def tName (i : Nat) : GT := fun d env => some (env.set i (.val d))
def tsNil : List D → En → Option En := fun ds env => match ds with
  | [] => some env
  | _ => none
def tsCons (t : GT) (r : List D → En → Option En) : List D → En → Option En := fun ds env => match ds with
  | d :: ds => (t d env).bind (r ds)
  | [] => none
def tTup (n : Nat) (ts : List D → En → Option En) : GT := fun d env => match d with
  | .tup ds => if ds.length = n then ts ds env else none
  | .lst ds => if ds.length = n then ts ds env else none
  | _ => none
def sAsg (t : GT) (g : GE) : GS := fun env => onOk env (g env) fun d => match t d env with
  | some e => .next e
  | none => .stuck
def forL (t : GT) (body : GS) : List D → GS
  | [], env => .next env
  | d :: ds, env => match t d env with
    | none => .stuck
    | some e1 => match body e1 with
      | .next e => forL t body ds e
      | .cont e => forL t body ds e
      | .brk e => .next e
      | .ret d => .ret d
      | .err x e => .err x e
      | .stuck => .stuck
def sFor (it : GL) (t : GT) (body : GS) : GS := fun env => onOk env (it env) fun ds => forL t body ds env
def whileL (c : GB) (body : GS) : Nat → GS
  | 0, _ => .stuck
  | n + 1, env => onOk env (c env) fun k => if k then (match body env with
      | .next e => whileL c body n e
      | .cont e => whileL c body n e
      | .brk e => .next e
      | .ret d => .ret d
      | .err x e => .err x e
      | .stuck => .stuck) else .next env
def sWhile (n : Nat) (c : GB) (body : GS) : GS := whileL c body n

section
variable {X : Cx} {W : WX} {st : Stmt} {sts rest : List Stmt} {a b e : Expr} {g ga gb : GE} {gl : GL} {p q : GS} {pos : Pos}
theorem fss_nil : FSs X W [] sNil := by
  refine PSs.imp pss_nil fun Dn σ H h => ?_
  obtain ⟨Γ, os, env, A, h⟩ := h
  exact h os σ H A
theorem tseq {K : PySem.W.Frag} {mg : Str → Option Value} : ∀ Dn σ H, tGS K mg W (sSeq p q) Dn σ H → tSeq (tGS K mg W p) (tGS K mg W q) Dn σ H := fun Dn σ H h => by
  obtain ⟨Γ, os, env, A, h⟩ := h
  refine ⟨Γ, os, env, A, ?_⟩
  have h : WS K mg W Γ (match p env with | .next e => q e | r => r) Dn := h
  revert h
  cases p env with
  | next e' => exact fun h os' σ' H' A' => ⟨Γ, os', e', A', h⟩
  | brk e' => exact id
  | cont e' => exact id
  | ret d => exact id
  | err x e' => exact id
  | stuck => exact id
theorem fss_cons (h1 : FS X W st p) (h2 : FSs X W rest q) : FSs X W (st :: rest) (sSeq p q) := PSs.imp (pss_cons h1 h2) tseq
theorem fss_one (h : FS X W st p) : FSs X W [st] p := pss_one h
theorem fs_pass : FS X W (.Pass pos) sNil := by
  refine PS.imp ps_pass fun Dn σ H h => ?_
  obtain ⟨Γ, os, env, A, h⟩ := h
  exact h os σ H A
theorem fs_break : FS X W (.Break pos) sBreak := by
  refine PS.imp ps_break fun Dn σ H h => ?_
  obtain ⟨Γ, os, env, A, h⟩ := h
  exact h os σ H A
theorem fs_cont : FS X W (.Continue pos) sCont := by
  refine PS.imp ps_continue fun Dn σ H h => ?_
  obtain ⟨Γ, os, env, A, h⟩ := h
  exact h os σ H A
theorem fs_set (i : Nat) {x : Str} {pos' : Pos} (he : FE X W e g) (hN : X.N.Nodup) (hi : X.N[i]? = some x := by rfl) (hx : Loc X.env.scope x := by first | exact .inl rfl | exact .inr rfl) (hs : swapsWith e (some (.Name x pos')) pos.line X.env = pure false := by rfl)
    (hf : X.fn x = true ∨ X.env.scope.names.lookup x = some .local := by first | exact .inl rfl | exact .inr rfl) : FS X W (.Assign [.Name x pos'] e pos) (sSet i g) := by
  refine PS.imp (ps_set hN hi hx he hs hf) fun Dn σ H h => ?_
  obtain ⟨Γ, os, env, A, h⟩ := h
  exact ⟨Γ, os, env, A, WS.expr A h fun d H' _ s h v r => h _ _ _ ((A.mono s).set_val r)⟩
theorem fs_setL (i : Nat) {x : Str} {pos' : Pos} (he : FL X W e gl) (hN : X.N.Nodup) (hi : X.N[i]? = some x := by rfl) (hx : Loc X.env.scope x := by first | exact .inl rfl | exact .inr rfl) (hs : swapsWith e (some (.Name x pos')) pos.line X.env = pure false := by rfl)
    (hf : X.fn x = true ∨ X.env.scope.names.lookup x = some .local := by first | exact .inl rfl | exact .inr rfl) : FS X W (.Assign [.Name x pos'] e pos) (sSetL i gl) := by
  refine PS.imp (ps_set hN hi hx he hs hf) fun Dn σ H h => ?_
  obtain ⟨Γ, os, env, A, h⟩ := h
  exact ⟨Γ, os, env, A, WS.expr A h fun d H' _ s h p vs n e r => h _ _ _ (A.set_own s n e r)⟩
theorem fs_expr (he : FE X W e g) (hs : swapsWith e none pos.line X.env = pure false := by rfl) : FS X W (.Expr e pos) (sExpr g) := by
  refine PS.imp (ps_expr he hs) fun Dn σ H h => ?_
  obtain ⟨Γ, os, env, A, h⟩ := h
  exact ⟨Γ, os, env, A, WS.expr A h fun d H' _ s h v r => h _ _ _ (A.mono s)⟩
theorem rep_ret {K : PySem.W.Frag} {Γ : Ga} {os : List (Option Addr)} {H : Hp} {d : D} {v : V} (r : Rep K (hid (Hd Γ os) H) d v) : Rep K (hid Γ.P0 H) d v :=
  Rep.mono (Same.hid2 (Same.refl H) fun _ _ _ h q => h (.inl q)) d v r
theorem fs_ret (he : FE X W e g) : FS X W (.Return (some e) pos) (sRet g) := by
  refine PS.imp (ps_ret he) fun Dn σ H h => ?_
  obtain ⟨Γ, os, env, A, h⟩ := h
  exact ⟨Γ, os, env, A, WS.expr A h fun d H' _ s h v r => h v H' (A.same.trans s) (rep_ret r)⟩
theorem fs_retN : FS X W (.Return none pos) sRetN := by
  refine PS.imp ps_retN fun Dn σ H h => ?_
  obtain ⟨Γ, os, env, A, h⟩ := h
  exact h .non H A.same rfl
theorem fs_if {c : Expr} {gc : GB} {s1 s2 : List Stmt} (hc : FT X W c gc) (ha : FSs X W s1 p) (hb : FSs X W s2 q) : FS X W (.If c s1 s2 pos) (sIf gc p q) := by
  refine PS.imp (ps_if hc ha hb) fun Dn σ H h => ?_
  obtain ⟨Γ, os, env, A, h⟩ := h
  refine ⟨Γ, os, env, A, WS.expr A h fun k H' _ s h => ?_⟩
  cases k with
  | true => exact ⟨Γ, os, env, A.mono s, h⟩
  | false => exact ⟨Γ, os, env, A.mono s, h⟩
theorem own_cases {env : En} {i : Nat} {f : List D → Out} {K : PySem.W.Frag} {mg : Str → Option Value} {Γ : Ga} {Dn : Ends} (h : WS K mg W Γ (withOwn env i f) Dn) : ∃ ds, env[i]? = some (.own ds) ∧ WS K mg W Γ (f ds) Dn := by
  unfold withOwn at h
  split at h
  · exact ⟨_, ‹_›, h⟩
  · exact h.elim
theorem fs_retO (i : Nat) {x : Str} {p1 : Pos} (hN : X.N[i]? = some x := by rfl) (hv : Vis X.env.scope x := by first | exact Or.inl rfl | exact Or.inr (Or.inl rfl) | exact Or.inr (Or.inr rfl)) (hd : (x == ("__debug__" : Str)) = false := by decide)
    (hcd : (x == ("__classdict__" : Str)) = false := by decide) : FS X W (.Return (some (.Name x p1)) pos) (sRetO i) := by
  refine PS.imp (ps_ret (pe_var hN hv hd hcd)) fun Dn σ H h => ?_
  obtain ⟨Γ, os, env, A, h⟩ := h
  obtain ⟨ds, e, h⟩ := own_cases h
  obtain ⟨p, vs, ho, hσ, hp, hr⟩ := A.own e
  refine ⟨.ref p, hσ, h _ H A.same ⟨p, vs, rfl, .inl (.inl (hid_of (A.notP0 (List.mem_of_getElem? ho)) hp)), ?_⟩⟩
  exact Reps.mono (Same.hid2 (Same.refl H) fun _ _ _ h q => h (.inl q)) ds vs hr
theorem fs_frz (i : Nat) (h : FS X W st p) : FS X W st (sFrz i p) := by
  refine PS.imp h fun Dn σ H h => ?_
  obtain ⟨Γ, os, env, A, h⟩ := h
  have h : WS X.K X.mg W Γ (p (frz i env)) Dn := h
  unfold frz at h
  split at h
  · exact ⟨Γ, _, _, A.freeze ‹_›, h⟩
  · exact ⟨Γ, os, env, A, h⟩
theorem fss_frz (i : Nat) (h : FSs X W sts p) : FSs X W sts (sFrz i p) := by
  refine PSs.imp h fun Dn σ H h => ?_
  obtain ⟨Γ, os, env, A, h⟩ := h
  have h : WS X.K X.mg W Γ (p (frz i env)) Dn := h
  unfold frz at h
  split at h
  · exact ⟨Γ, _, _, A.freeze ‹_›, h⟩
  · exact ⟨Γ, os, env, A, h⟩
/-- x.append(e) -/
theorem fs_app (i : Nat) {x : Str} {p1 apos pos2 : Pos} (ha : FE X W a ga) (hN : X.N[i]? = some x := by rfl) (hv : Vis X.env.scope x := by first | exact Or.inl rfl | exact Or.inr (Or.inl rfl) | exact Or.inr (Or.inr rfl)) (hd : (x == ("__debug__" : Str)) = false := by decide)
    (hcd : (x == ("__classdict__" : Str)) = false := by decide)
    (hp : PE X (.Call (.Attribute (.Name x p1) "append" apos) [a] [] pos2) (tBM X.K "list" rAppend (tVar i) (tCons (tG X.K X.mg W ga) tNil)))
    (hs : swapsWith (.Call (.Attribute (.Name x p1) "append" apos) [a] [] pos2) none pos.line X.env = pure false := by rfl) : FS X W (.Expr (.Call (.Attribute (.Name x p1) "append" apos) [a] [] pos2) pos) (sApp i ga) := by
  refine PS.imp (ps_expr hp hs) fun Dn σ H h => ?_
  obtain ⟨Γ, os, env, A, h⟩ := h
  obtain ⟨ds, e, h⟩ := own_cases h
  obtain ⟨p, vs, ho, hσ, hp, hr⟩ := A.own e
  refine ⟨.ref p, hσ, .inl ⟨rfl, _, .inl (.inl hp)⟩, Γ, os, env, A, WS.expr A h fun d H' _ s h v r => ?_⟩
  have l := hr.length
  by_cases hz : ds.length < sizeLine
  · have h : WS X.K X.mg W Γ (if ds.length < sizeLine then .next (env.set i (.own (ds ++ [d]))) else .stuck) Dn := h
    rw [if_pos hz] at h
    refine ⟨p, vs, v, rfl, rfl, s _ _ hp, by omega, h os σ _ ?_⟩
    exact (A.mono s).upd_own ho hσ ((Reps.mono (Same.hid s) ds vs hr).snoc r)
  · have h : WS X.K X.mg W Γ (if ds.length < sizeLine then .next (env.set i (.own (ds ++ [d]))) else .stuck) Dn := h
    rw [if_neg hz] at h
    exact h.elim
end

/-! ### targets -/
def tGT (K : PySem.W.Frag) (is : List Nat) (t : GT) : TG := fun v σ H Q => ∃ Γ os env d env', Agree K Γ os σ H env ∧ Rep K (hid (Hd Γ os) H) d v ∧ t d env = some env' ∧
  ∀ os' σ', Agree K Γ os' σ' H env' → (∀ vs, (∀ i ∈ is, i ∈ vs) → wipe σ' vs = wipe σ vs) → (∀ a, Hd Γ os' a → Hd Γ os a) → (∀ j, j ∉ is → os'[j]? = os[j]?) → Q σ' H
def tGTs (K : PySem.W.Frag) (is : List Nat) (t : List D → En → Option En) : TGs := fun vs σ H Q => ∃ Γ os env ds env', Agree K Γ os σ H env ∧ Reps K (hid (Hd Γ os) H) ds vs ∧ t ds env = some env' ∧
  ∀ os' σ', Agree K Γ os' σ' H env' → (∀ vs, (∀ i ∈ is, i ∈ vs) → wipe σ' vs = wipe σ vs) → (∀ a, Hd Γ os' a → Hd Γ os a) → (∀ j, j ∉ is → os'[j]? = os[j]?) → Q σ' H
abbrev FG (X : Cx) (target : Expr) (is : List Nat) (t : GT) : Prop := PG X target (tGT X.K is t)
abbrev FGs (X : Cx) (ts : List Expr) (is : List Nat) (t : List D → En → Option En) : Prop := PGs X ts (tGTs X.K is t)
theorem wipe_set {σ : L2.St} {i : Nat} {o : Option V} : ∀ {vs : List Nat}, i ∈ vs → wipe (σ.set i o) vs = wipe σ vs
  | [], h => by cases h
  | v :: vs, h => by
    show (wipe (σ.set i o) vs).set v none = (wipe σ vs).set v none
    by_cases hv : i ∈ vs
    · rw [wipe_set hv]
    · have e : i = v := by
        rcases List.mem_cons.mp h with h | h
        · exact h
        · exact absurd h hv
      subst e
      apply List.ext_getElem?
      intro j
      by_cases ej : i = j
      · subst ej
        have l1 := wipe_length (σ.set i o) vs
        have l2 := wipe_length σ vs
        rw [List.length_set] at l1
        by_cases hi : i < σ.length
        · rw [List.getElem?_set_self (by omega), List.getElem?_set_self (by omega)]
        · rw [List.getElem?_eq_none (by rw [List.length_set]; omega), List.getElem?_eq_none (by rw [List.length_set]; omega)]
      · rw [List.getElem?_set_ne ej, List.getElem?_set_ne ej]
        have out : ∀ (ws : List Nat) (τ : L2.St), i ∉ ws → ∀ k, (wipe (τ.set i o) ws)[k]? = if k = i then (τ.set i o)[k]? else (wipe τ ws)[k]? := by
          intro ws
          induction ws with
          | nil =>
            intro τ _ k
            by_cases hk : k = i
            · rw [if_pos hk]; rfl
            · rw [if_neg hk]
              exact List.getElem?_set_ne (Ne.symm hk)
          | cons w ws ih =>
            intro τ hw k
            have hw1 : i ≠ w := fun z => hw (z ▸ List.mem_cons_self)
            have hw2 : i ∉ ws := fun z => hw (List.mem_cons_of_mem _ z)
            show ((wipe (τ.set i o) ws).set w none)[k]? = if k = i then (τ.set i o)[k]? else ((wipe τ ws).set w none)[k]?
            by_cases hk : k = i
            · rw [if_pos hk, hk, List.getElem?_set_ne (Ne.symm hw1), ih τ hw2 i, if_pos rfl]
            · rw [if_neg hk]
              by_cases hkw : w = k
              · subst hkw
                have l1 := wipe_length (τ.set i o) ws
                have l2 := wipe_length τ ws
                rw [List.length_set] at l1
                by_cases hl : w < τ.length
                · rw [List.getElem?_set_self (by omega), List.getElem?_set_self (by omega)]
                · rw [List.getElem?_eq_none (by rw [List.length_set]; omega), List.getElem?_eq_none (by rw [List.length_set]; omega)]
              · rw [List.getElem?_set_ne hkw, List.getElem?_set_ne hkw, ih τ hw2 k, if_neg hk]
        rw [out vs σ hv j, if_neg (Ne.symm ej)]
section
variable {X : Cx} {W : WX} {tg e : Expr} {g : GE} {t : GT} {is js : List Nat} {pos : Pos}
theorem fg_name (i : Nat) {x : Str} (hN : X.N.Nodup) (hi : X.N[i]? = some x := by rfl) (hx : Loc X.env.scope x := by first | exact .inl rfl | exact .inr rfl) (hf : X.fn x = true ∨ X.env.scope.names.lookup x = some .local := by first | exact .inl rfl | exact .inr rfl) :
    FG X (.Name x pos) [i] (tName i) := by
  have h := pg_name (pos := pos) hN hi hx hf
  refine ⟨fun pins s σ H v u Q I r hw => h.run pins s σ H v u Q I r ?_⟩
  obtain ⟨Γ, os, env, d, env', A, rd, et, q⟩ := hw
  cases et
  exact q _ _ (A.set_val rd) (fun vs hv => wipe_set (hv i List.mem_cons_self)) (fun a h => h.set_none) fun j hj => List.getElem?_set_ne fun z => hj (by rw [z]; exact List.mem_cons_self)
theorem fgs_nil : FGs X [] [] tsNil := by
  refine ⟨fun pins s σ H vs us Q I r hw => pgs_nil.run pins s σ H vs us Q I r ?_⟩
  obtain ⟨Γ, os, env, ds, env', A, rd, et, q⟩ := hw
  cases ds with
  | cons d ds => cases et
  | nil =>
    cases et
    exact ⟨rd, q _ _ A (fun _ _ => rfl) (fun _ h => h) fun _ _ => rfl⟩
theorem fgs_cons {es : List Expr} {ts : List D → En → Option En} (h1 : FG X tg is t) (h2 : FGs X es js ts)
    (hs : (assignEach (tg :: es) X.env).map (·.2) = assign tg X.env :: (assignEach es X.env).map (·.2) := by rfl) : FGs X (tg :: es) (is ++ js) (tsCons t ts) := by
  have h := pgs_cons h1 h2 hs
  refine ⟨fun pins s σ H vs us Q I r hw => h.run pins s σ H vs us Q I r ?_⟩
  obtain ⟨Γ, os, env, ds, env', A, rd, et, q⟩ := hw
  cases ds with
  | nil => cases et
  | cons d ds =>
    obtain ⟨v, r', rfl, h3, h4⟩ := rd
    have et : (t d env).bind (ts ds) = some env' := et
    cases e1 : t d env with
    | none => rw [e1] at et; cases et
    | some env1 =>
      rw [e1] at et
      refine ⟨v, r', rfl, Γ, os, env, d, env1, A, h3, e1, fun os1 σ1 A1 w1 m1 k1 => ⟨Γ, os1, env1, ds, env', A1, ?_, et, fun os2 σ2 A2 w2 m2 k2 => q os2 σ2 A2 (fun vs hv => ?_) (fun a h => m1 a (m2 a h)) fun j hj => (k2 j fun z => hj (List.mem_append_right _ z)).trans (k1 j fun z => hj (List.mem_append_left _ z))⟩⟩
      · exact Reps.mono (Same.hid2 (Same.refl H) fun _ _ _ h q => h (m1 _ q)) _ _ h4
      · rw [w2 vs fun i hi => hv i (List.mem_append_right _ hi), w1 vs fun i hi => hv i (List.mem_append_left _ hi)]
theorem pg_or {t1 t2 : TG} (h1 : PG X tg t1) (h2 : PG X tg t2) : PG X tg (fun v σ H Q => t1 v σ H Q ∨ t2 v σ H Q) := by
  refine ⟨fun pins s σ H v u Q I r hw => ?_⟩
  rcases hw with hw | hw
  · exact h1.run pins s σ H v u Q I r hw
  · exact h2.run pins s σ H v u Q I r hw
theorem fg_tup {es : List Expr} {k n : Nat} {ts : List D → En → Option En} (hc : X.calm = true) (h : FGs X es is ts)
    (hn : (assignEach es X.env).length = n := by rfl) (hst : (assignEach es X.env).findIdx? (·.1) = none := by rfl) : FG X (.Tuple es k pos) is (tTup n ts) := by
  have h := pg_or (pg_tup (k := k) (pos := pos) hc h hn hst) (pg_lst (k := k) (pos := pos) hc h hn hst)
  refine ⟨fun pins s σ H v u Q I r hw => h.run pins s σ H v u Q I r ?_⟩
  obtain ⟨Γ, os, env, d, env', A, rd, et, q⟩ := hw
  cases d <;> first | (cases et; done) | skip
  · rename_i ds
    obtain ⟨a, vs, rfl, h1, h2⟩ := rd
    have et : (if ds.length = n then ts ds env else none) = some env' := et
    split at et
    · exact .inl ⟨a, vs, rfl, Same.seqT (hid_same _ H) h1, by rw [h2.length]; assumption, Γ, os, env, ds, env', A, h2, et, q⟩
    · cases et
  · rename_i ds
    obtain ⟨a, vs, rfl, h1, h2⟩ := rd
    have et : (if ds.length = n then ts ds env else none) = some env' := et
    split at et
    · exact .inr ⟨a, vs, rfl, (Same.sl (hid_same _ H) h1), by rw [h2.length]; assumption, Γ, os, env, ds, env', A, h2, et, q⟩
    · cases et
theorem fs_asg (he : FE X W e g) (hg : FG X tg is t) (hs : swapsWithSole [tg] e pos.line X.env = pure false := by rfl) (hw : swappedStores [tg] e X.env = pure none := by rfl) (h1 : (assignEach [tg] X.env).map (·.2) = [assign tg X.env] := by rfl) : FS X W (.Assign [tg] e pos) (sAsg t g) := by
  refine PS.imp (ps_asg he hg hs hw h1) fun Dn σ H h => ?_
  obtain ⟨Γ, os, env, A, h⟩ := h
  refine ⟨Γ, os, env, A, WS.expr A h fun d H' _ s h v r => ?_⟩
  cases et : t d env with
  | none =>
    rw [et] at h
    exact h.elim
  | some env' =>
    rw [et] at h
    exact ⟨Γ, os, env, d, env', A.mono s, r, et, fun os' σ' A' _ _ _ => h os' σ' H' A'⟩
end
end AF

namespace AF
open PySem PySem.Spec PyProof.Rows L2

/-! ### what is walked -/
/-- J gives the ds one by one as long as what stands in G stands -/
def IsIt (K : PySem.W.Frag) (G : Hp) (J : It) (ds : List D) : Prop := ∃ Gp Y, Walk J ds.length Gp Y ∧ (∀ H, Same G H → Gp H) ∧
  ∀ i d H x H2 P, ds[i]? = some d → Y i H x H2 → Hides P H → Same G (hid P H) → Same H H2 ∧ Rep K (hid P H2) d x
def tGI (K : PySem.W.Frag) (mg : Str → Option Value) (W : WX) (g : GL) : TI := fun σ H R => ∃ Γ os env, Agree K Γ os σ H env ∧ WR K mg (Hd Γ os) W σ H (g env) (fun _ ds H' => ∀ J, IsIt K (hid (Hd Γ os) H') J ds → R J H')
abbrev FI (X : Cx) (W : WX) (tg iter : Expr) (g : GL) : Prop := PI X tg iter (tGI X.K X.mg W g)
theorem PI.imp {X : Cx} {tg iter : Expr} {t t' : TI} (h : PI X tg iter t) (i : ∀ σ H R, t' σ H R → t σ H R) : PI X tg iter t' := ⟨fun pins s σ H R I w => h.run pins s σ H R I (i _ _ _ w)⟩
section
variable {K : PySem.W.Frag} {G : Hp}
theorem isIt_list {a : Addr} {vs : List V} {ds : List D} (h : SqL K G a vs) (r : Reps K G ds vs) : IsIt K G (Itl K a) ds := by
  refine ⟨_, _, by rw [← r.length]; exact walk_list, fun H s => (Same.sl s h), fun i d H x H2 P e y hP s => ?_⟩
  obtain ⟨rfl, ex⟩ := y
  obtain ⟨d', e', hd⟩ := r.get ex
  rw [e] at e'
  cases e'
  exact ⟨Same.refl _, Rep.mono s d x hd⟩
theorem isIt_tup {a : Addr} {vs : List V} {ds : List D} (h : TpL K G a vs) (r : Reps K G ds vs) : IsIt K G (Itt K a) ds := by
  refine ⟨_, _, by rw [← r.length]; exact walk_tup, fun H s => Same.seqT s h, fun i d H x H2 P e y hP s => ?_⟩
  obtain ⟨rfl, ex⟩ := y
  obtain ⟨d', e', hd⟩ := r.get ex
  rw [e] at e'
  cases e'
  exact ⟨Same.refl _, Rep.mono s d x hd⟩
def signs (s : List Nat) : List D := s.map fun c => .str [c]
theorem isIt_str {s : List Nat} (h : s.all (· < 1114112) = true) : IsIt K G (Its ⟨s.toArray⟩) (signs s) := by
  have l : (signs s).length = (⟨s.toArray⟩ : Str).cps.size := by simp [signs]
  refine ⟨_, _, by rw [l]; exact walk_str, fun H s => trivial, fun i d H x H2 P e y hP s' => ?_⟩
  obtain ⟨rfl, c, ec, rfl⟩ := y
  have ec' : s[i]? = some c := by simpa using ec
  have e2 : (signs s)[i]? = some (.str [c]) := by simp [signs, ec']
  rw [e] at e2
  cases e2
  refine ⟨Same.refl _, rfl, by show 1 ≤ sizeLine; decide, ?_⟩
  have := List.all_eq_true.mp h c (List.mem_of_getElem? ec')
  simpa using this
def rangeD (lo : Int) (n : Nat) : List D := (List.range n).map fun (i : Nat) => D.int (lo + i)
theorem isIt_range {lo : Int} {n : Nat} : IsIt K G (Itr lo n) (rangeD lo n) := by
  have l : (rangeD lo n).length = n := by simp [rangeD]
  refine ⟨_, _, by rw [l]; exact walk_range, fun H s => trivial, fun i d H x H2 P e y hP s' => ?_⟩
  obtain ⟨rfl, rfl⟩ := y
  have hi : i < n := by
    have := (List.getElem?_eq_some_iff.mp e).1
    omega
  have e2 : (rangeD lo n)[i]? = some (.int (lo + i)) := by simp [rangeD, hi]
  rw [e] at e2
  cases e2
  exact ⟨Same.refl _, rfl⟩
def rangeC (lo c : Int) (n : Nat) : List D := (List.range n).map fun (i : Nat) => D.int (lo + i * c)
theorem isIt_rangeC {lo c : Int} {n : Nat} : IsIt K G (Itc lo c n) (rangeC lo c n) := by
  have l : (rangeC lo c n).length = n := by simp [rangeC]
  refine ⟨_, _, by rw [l]; exact walk_rangeC, fun H s => trivial, fun i d H x H2 P e y hP s' => ?_⟩
  obtain ⟨rfl, rfl⟩ := y
  have hi : i < n := by
    have := (List.getElem?_eq_some_iff.mp e).1
    omega
  have e2 : (rangeC lo c n)[i]? = some (.int (lo + i * c)) := by simp [rangeC, hi]
  rw [e] at e2
  cases e2
  exact ⟨Same.refl _, rfl⟩
end
/-- a value's items -/
def items : D → Option (List D)
  | .lst ds => some ds
  | .tup ds => some ds
  | .str s => some (signs s)
  | _ => none
def iAny (g : GE) : GL := fun env => (g env).bind fun d => Res.of (items d)
def iAnyT (K : PySem.W.Frag) (t : TE) : TI := fun σ H R => t σ H fun x H1 => (∃ a, x = .ref a ∧ (∃ xs, SqL K H1 a xs) ∧ R (Itl K a) H1) ∨ (∃ a, x = .ref a ∧ (∃ xs, SqT K H1 a xs) ∧ R (Itt K a) H1) ∨ (∃ z, x = .str z ∧ R (Its z) H1)
theorem pi_any {X : Cx} {tg e : Expr} {te : TE} (he : PE X e te) : PI X tg e (iAnyT X.K te) := by
  refine ⟨fun pins s σ H R I h => ?_⟩
  refine thn (he.run pins s σ H _ I h) fun v s1 ⟨x, H1, I1, r1, q1⟩ => ?_
  rcases q1 with ⟨a, e, ⟨xs, hq⟩, q⟩ | ⟨a, e, ⟨xs, hq⟩, q⟩ | ⟨z, ex, q⟩
  · subst e
    cases r1
    obtain ⟨its, rv, p, hz⟩ := I1.list hq
    refine wpAny_pyIter_list p.isList ?_
    refine ⟨s1.heap.objs.size, [s1.heap.objs.size], _, _, H1, rfl, I1.kept (t' := s1.toks) fun b o e => Heap.get?_push_of_some _ e, turn_list a _, ⟨_, Heap.get?_push_size _ rfl, rfl, rfl⟩, fun b hb => ?_, q⟩
    have e : b = s1.heap.objs.size := by simpa using hb
    subst e
    exact I1.fpOk (Nat.le_refl _) (I1.hok.fresh (Nat.le_refl _))
  · subst e
    cases r1
    obtain ⟨its, rv, p, hz⟩ := I1.tuple hq
    refine wpAny_pyIter_tuple (show s1.heap.IsTuple a its.toArray from p) ?_
    refine ⟨s1.heap.objs.size, [s1.heap.objs.size], _, _, H1, rfl, I1.kept (t' := s1.toks) fun b o e => Heap.get?_push_of_some _ e, turn_tuple a _, ⟨_, Heap.get?_push_size _ rfl, rfl, rfl⟩, fun b hb => ?_, q⟩
    have e : b = s1.heap.objs.size := by simpa using hb
    subst e
    exact I1.fpOk (Nat.le_refl _) (I1.hok.fresh (Nat.le_refl _))
  · subst ex
    obtain ⟨t, rfl⟩ := r1
    cases ha : z.cps.all (· < 128)
    · exact wpAny_pyIter_wide ha (pi_one (tk := s1.toks) I1 _ (turn_str _ z t "str_iterator" (.inr rfl)) ⟨_, Heap.get?_push_size _ rfl, rfl, rfl⟩ q)
    · exact wpAny_pyIter_ascii ha (pi_one (tk := s1.toks) I1 _ (turn_str _ z t "str_ascii_iterator" (.inl rfl)) ⟨_, Heap.get?_push_size _ rfl, rfl, rfl⟩ q)
section
variable {X : Cx} {W : WX} {tg e : Expr} {g : GE} {pos : Pos}
theorem fi_any (he : FE X W e g) : FI X W tg e (iAny g) := by
  refine PI.imp (pi_any he) fun σ H R h => ?_
  obtain ⟨Γ, os, env, A, h⟩ := h
  have hZ : Anti (fun (_ : Hp) (ds : List D) H' => ∀ J, IsIt X.K (hid (Hd Γ os) H') J ds → R J H') := fun _ _ _ _ _ h => h
  refine ⟨Γ, os, env, A, WR.bind hZ h fun d H1 _ s1 h1 v rv => ?_⟩
  obtain ⟨ds, ed, h2⟩ := WR.of h1
  have h2 := h2 H1 (Same.refl H1)
  cases d <;> first | (cases ed; done) | skip
  · cases ed
    obtain ⟨rfl, q1, q2⟩ := rv
    exact .inr (.inr ⟨_, rfl, h2 _ (isIt_str q2)⟩)
  · cases ed
    obtain ⟨a, vs, rfl, q1, q2⟩ := rv
    exact .inr (.inl ⟨a, rfl, ⟨vs, Same.seqT (hid_same _ H1) q1⟩, h2 _ (isIt_tup q1 q2)⟩)
  · cases ed
    obtain ⟨a, vs, rfl, q1, q2⟩ := rv
    exact .inl ⟨a, rfl, ⟨vs, (Same.sl (hid_same _ H1) q1)⟩, h2 _ (isIt_list q1 q2)⟩
/-- ranges -/
def rg1 : List D → Option (List D)
  | [.int j] => if -1000000000 ≤ j ∧ j ≤ 1000000000 then some (rangeD 0 j.toNat) else none
  | _ => none
def rg2 : List D → Option (List D)
  | [.int i, .int j] => if -1000000000 ≤ i ∧ i ≤ 1000000000 ∧ -1000000000 ≤ j ∧ j ≤ 1000000000 then some (rangeD i (j - i).toNat) else none
  | _ => none
theorem reps1 {K : PySem.W.Frag} {H : Hp} {d : D} {vs : List V} (r : Reps K H [d] vs) : ∃ v, vs = [v] ∧ Rep K H d v := by
  obtain ⟨v, r', rfl, h, h'⟩ := r
  rw [show r' = [] from h']
  exact ⟨v, rfl, h⟩
theorem reps2 {K : PySem.W.Frag} {H : Hp} {d e : D} {vs : List V} (r : Reps K H [d, e] vs) : ∃ v u, vs = [v, u] ∧ Rep K H d v ∧ Rep K H e u := by
  obtain ⟨v, r', rfl, h, h'⟩ := r
  obtain ⟨u, rfl, h2⟩ := reps1 h'
  exact ⟨v, u, rfl, h, h2⟩
theorem reps3 {K : PySem.W.Frag} {H : Hp} {d e f : D} {vs : List V} (r : Reps K H [d, e, f] vs) : ∃ v u w, vs = [v, u, w] ∧ Rep K H d v ∧ Rep K H e u ∧ Rep K H f w := by
  obtain ⟨v, r', rfl, h, h'⟩ := r
  obtain ⟨u, w, rfl, h2, h3⟩ := reps2 h'
  exact ⟨v, u, w, rfl, h, h2, h3⟩
theorem fi_range1 {a : Expr} {ga : GL} {p : Pos} (hm : X.mg "range" = none) (ha : FA X W [a] ga) (hg : Gl X "range" := by rfl) (hs : starEach [a] X.env = [(false, eval a X.env)] := by rfl) : FI X W tg (.Call (.Name "range" p) [a] [] pos) (lF rg1 ga) := by
  refine PI.imp (pi_range1 hg hm ha hs) fun σ H R h => ?_
  obtain ⟨Γ, os, env, A, h⟩ := h
  have hZ : Anti (fun (_ : Hp) (ds : List D) H' => ∀ J, IsIt X.K (hid (Hd Γ os) H') J ds → R J H') := fun _ _ _ _ _ h => h
  refine ⟨Γ, os, env, A, WR.bind hZ h fun ds H1 _ s1 h1 vs rv => ?_⟩
  obtain ⟨zs, ed, h2⟩ := WR.of h1
  have h2 := h2 H1 (Same.refl H1)
  cases ds with
  | nil => cases ed
  | cons d ds =>
    cases ds with
    | cons e ds => cases d <;> cases ed
    | nil =>
      cases d <;> first | (cases ed; done) | skip
      rename_i j _
      have ed : (if -1000000000 ≤ j ∧ j ≤ 1000000000 then some (rangeD 0 j.toNat) else none) = some zs := ed
      split at ed
      · cases ed
        obtain ⟨v, rfl, r⟩ := reps1 rv
        cases r
        exact ⟨j, rfl, by omega, by omega, h2 _ isIt_range⟩
      · cases ed
theorem fi_range2 {a b : Expr} {ga : GL} {p : Pos} (hm : X.mg "range" = none) (ha : FA X W [a, b] ga) (hg : Gl X "range" := by rfl) (hs : starEach [a, b] X.env = [(false, eval a X.env), (false, eval b X.env)] := by rfl) (hs2 : starEach [b] X.env = [(false, eval b X.env)] := by rfl) : FI X W tg (.Call (.Name "range" p) [a, b] [] pos) (lF rg2 ga) := by
  refine PI.imp (pi_range2 hg hm ha hs hs2) fun σ H R h => ?_
  obtain ⟨Γ, os, env, A, h⟩ := h
  have hZ : Anti (fun (_ : Hp) (ds : List D) H' => ∀ J, IsIt X.K (hid (Hd Γ os) H') J ds → R J H') := fun _ _ _ _ _ h => h
  refine ⟨Γ, os, env, A, WR.bind hZ h fun ds H1 _ s1 h1 vs rv => ?_⟩
  obtain ⟨zs, ed, h2⟩ := WR.of h1
  have h2 := h2 H1 (Same.refl H1)
  unfold rg2 at ed
  split at ed
  · split at ed
    · cases ed
      obtain ⟨v, u, rfl, r1, r2⟩ := reps2 rv
      cases r1
      cases r2
      exact ⟨_, _, rfl, ⟨by omega, by omega, by omega, by omega⟩, h2 _ isIt_range⟩
    · cases ed
  · cases ed
/-- a range with a step -/
def rg3 : List D → Option (List D)
  | [.int i, .int j, .int c] => if -1000000000 ≤ i ∧ i ≤ 1000000000 ∧ -1000000000 ≤ j ∧ j ≤ 1000000000 ∧ c ≠ 0 ∧ -1000000 ≤ c ∧ c ≤ 1000000 ∧ Builtin.Range.small i j c = true ∧ 0 ≤ Builtin.Range.rangeSize i j c then some (rangeC i c (Builtin.Range.rangeSize i j c).toNat) else none
  | _ => none
theorem fi_range3 {a b c : Expr} {ga : GL} {p : Pos} (hm : X.mg "range" = none) (ha : FA X W [a, b, c] ga) (hg : Gl X "range" := by rfl) (hs : starEach [a, b, c] X.env = (false, eval a X.env) :: starEach [b, c] X.env := by rfl) (hpl : (backTo pos (starEach [b, c] X.env)).any (·.1) = false := by rfl) : FI X W tg (.Call (.Name "range" p) [a, b, c] [] pos) (lF rg3 ga) := by
  refine PI.imp (pi_range3 hg hm ha hs hpl) fun σ H R h => ?_
  obtain ⟨Γ, os, env, A, h⟩ := h
  have hZ : Anti (fun (_ : Hp) (ds : List D) H' => ∀ J, IsIt X.K (hid (Hd Γ os) H') J ds → R J H') := fun _ _ _ _ _ h => h
  refine ⟨Γ, os, env, A, WR.bind hZ h fun ds H1 _ s1 h1 vs rv => ?_⟩
  obtain ⟨zs, ed, h2⟩ := WR.of h1
  have h2 := h2 H1 (Same.refl H1)
  unfold rg3 at ed
  split at ed
  · split at ed
    · cases ed
      obtain ⟨v, u, w, rfl, r1, r2, r3⟩ := reps3 rv
      cases r1
      cases r2
      cases r3
      exact ⟨_, _, _, _, rfl, ⟨by omega, by omega, by simp_all, by rw [Int.toNat_of_nonneg (by omega)]⟩, h2 _ isIt_rangeC⟩
    · cases ed
  · cases ed
/-- zip, enumerate, reversed of lists (zip of tuples too) -/
def zipD (ds es : List D) : List D := List.zipWith (fun a b => .tup [a, b]) ds es
def enumD (n : Int) : List D → List D
  | [] => []
  | d :: ds => .tup [.int n, d] :: enumD (n + 1) ds
theorem enumD_len : ∀ (ds : List D) (n : Int), (enumD n ds).length = ds.length
  | [], _ => rfl
  | d :: ds, n => by simp [enumD, enumD_len ds]
theorem enumD_get : ∀ (ds : List D) (n : Int) (i : Nat), (enumD n ds)[i]? = ds[i]?.map fun d => .tup [.int (n + i), d]
  | [], _, _ => rfl
  | d :: ds, n, 0 => by simp [enumD]
  | d :: ds, n, i + 1 => by
    simp only [enumD, List.getElem?_cons_succ, enumD_get ds (n + 1) i]
    have : n + 1 + (i : Int) = n + ((i + 1 : Nat) : Int) := by omega
    rw [this]
def zipF : List D → Option (List D)
  | [.lst xs, .lst ys] => some (zipD xs ys)
  | [.tup xs, .tup ys] => some (zipD xs ys)
  | _ => none
def enumF : List D → Option (List D)
  | [.lst xs] => some (enumD 0 xs)
  | _ => none
def revF : List D → Option (List D)
  | [.lst xs] => some xs.reverse
  | [.tup xs] => some xs.reverse
  | _ => none
theorem rep_pair {K : PySem.W.Frag} {P : Addr → Prop} {H : Hp} {T : Addr} {x y : V} {d e : D} (hP : Hides P H) (n : H T = none) (h1 : Rep K (hid P H) d x) (h2 : Rep K (hid P H) e y) : Rep K (hid P (upd H T (.tup [x, y]))) (.tup [d, e]) (.ref T) :=
  tup_new hP n ⟨x, [y], rfl, h1, y, [], rfl, h2, rfl⟩
theorem fi_enum {a : Expr} {ga : GL} {p tpos : Pos} {elts : List Expr} {kk : Nat} (hm : X.mg "enumerate" = none) (ha : FA X W [a] ga) (hg : Gl X "enumerate" := by rfl) (hs : starEach [a] X.env = [(false, eval a X.env)] := by rfl) : FI X W (.Tuple elts kk tpos) (.Call (.Name "enumerate" p) [a] [] pos) (lF enumF ga) := by
  refine PI.imp (pi_enum hg hm ha hs) fun σ H R h => ?_
  obtain ⟨Γ, os, env, A, h⟩ := h
  have hZ : Anti (fun (_ : Hp) (ds : List D) H' => ∀ J, IsIt X.K (hid (Hd Γ os) H') J ds → R J H') := fun _ _ _ _ _ h => h
  refine ⟨Γ, os, env, A, WR.bind hZ h fun ds H1 _ s1 h1 vs rv => ?_⟩
  obtain ⟨zs, ed, h2⟩ := WR.of h1
  have h2 := h2 H1 (Same.refl H1)
  unfold enumF at ed
  split at ed
  · rename_i xs _
    cases ed
    obtain ⟨v, rfl, b, ws, rfl, q1, q2⟩ := reps1 rv
    refine ⟨b, ws, rfl, (Same.sl (hid_same _ H1) q1), h2 _ ⟨_, _, by rw [enumD_len, ← q2.length]; exact walk_enum, fun H s => (Same.sl s q1), fun i d H x H2 P e y hP s => ?_⟩⟩
    obtain ⟨T, x1, y1, rfl, nT, rfl, e1, e2⟩ := y
    cases e1
    obtain ⟨d', ed', hd⟩ := q2.get e2
    rw [enumD_get, ed'] at e
    cases e
    exact ⟨same_new nT, rep_pair hP nT (by show V.int (i : Int) = V.int (0 + (i : Int)); rw [Int.zero_add]) (Rep.mono s _ _ hd)⟩
  · cases ed
theorem fi_zip {a b : Expr} {ga : GL} {p tpos : Pos} {elts : List Expr} {kk : Nat} (hm : X.mg "zip" = none) (ha : FA X W [a, b] ga) (hg : Gl X "zip" := by rfl)
    (hs : starEach [a, b] X.env = (false, eval a X.env) :: starEach [b] X.env := by rfl) (hpl : (backTo pos (starEach [b] X.env)).any (·.1) = false := by rfl) : FI X W (.Tuple elts kk tpos) (.Call (.Name "zip" p) [a, b] [] pos) (lF zipF ga) := by
  refine PI.imp (RZ.pi_zipA hg hm ha hs hpl) fun σ H R h => ?_
  obtain ⟨Γ, os, env, A, h⟩ := h
  have hZ : Anti (fun (_ : Hp) (ds : List D) H' => ∀ J, IsIt X.K (hid (Hd Γ os) H') J ds → R J H') := fun _ _ _ _ _ h => h
  refine ⟨Γ, os, env, A, WR.bind hZ h fun ds H1 _ s1 h1 vs rv => ?_⟩
  obtain ⟨zs, ed, h2⟩ := WR.of h1
  have h2 := h2 H1 (Same.refl H1)
  unfold zipF at ed
  split at ed
  · rename_i xs ys _
    cases ed
    obtain ⟨v, u, rfl, ⟨a1, ws, rfl, q1, q2⟩, ⟨b1, us, rfl, q3, q4⟩⟩ := reps2 rv
    have l1 := q2.length
    have l2 := q4.length
    refine ⟨a1, b1, ws, us, rfl, .inl ⟨(Same.sl (hid_same _ H1) q1), (Same.sl (hid_same _ H1) q3), h2 _ ⟨_, _, walk_zip (by simp [zipD, l1, l2]), fun H s => ⟨(Same.sl s q1), (Same.sl s q3)⟩, fun i d H x H2 P e y hP s => ?_⟩⟩⟩
    obtain ⟨T, x1, y1, rfl, nT, rfl, e1, e2⟩ := y
    obtain ⟨d1, ed1, hd1⟩ := q2.get e1
    obtain ⟨d2, ed2, hd2⟩ := q4.get e2
    have e3 : (zipD xs ys)[i]? = some (.tup [d1, d2]) := by simp [zipD, List.getElem?_zipWith, ed1, ed2]
    rw [e] at e3
    cases e3
    exact ⟨same_new nT, rep_pair hP nT (Rep.mono s _ _ hd1) (Rep.mono s _ _ hd2)⟩
  · rename_i xs ys _
    cases ed
    obtain ⟨v, u, rfl, ⟨a1, ws, rfl, q1, q2⟩, ⟨b1, us, rfl, q3, q4⟩⟩ := reps2 rv
    have l1 := q2.length
    have l2 := q4.length
    have wt : Walk (RZ.ItzT X.K a1 b1) (zipD xs ys).length (fun H => SqT X.K H a1 ws ∧ SqT X.K H b1 us) (YPair (fun i => ws[i]?) (fun i => us[i]?)) := by
      have hn : (zipD xs ys).length = min ws.length us.length := by simp [zipD, l1, l2]
      rw [hn]
      refine ⟨fun i _ hi q => ?_, fun _ q => ⟨ws, us, q.1, q.2, by omega⟩, fun i H v H' _ q y => ?_⟩
      · have h1 : i < ws.length := by omega
        have h2 : i < us.length := by omega
        exact ⟨ws, us, ws[i], us[i], q.1, q.2, by simp [h1], by simp [h2]⟩
      · obtain ⟨T, x, z, h1, h2, h3, h4, h5⟩ := y
        exact ⟨T, x, z, h1, h2, h3, h4 ws q.1, h5 us q.2⟩
    refine ⟨a1, b1, ws, us, rfl, .inr ⟨Same.seqT (hid_same _ H1) q1, Same.seqT (hid_same _ H1) q3, h2 _ ⟨_, _, wt, fun H s => ⟨Same.seqT s q1, Same.seqT s q3⟩, fun i d H x H2 P e y hP s => ?_⟩⟩⟩
    obtain ⟨T, x1, y1, rfl, nT, rfl, e1, e2⟩ := y
    obtain ⟨d1, ed1, hd1⟩ := q2.get e1
    obtain ⟨d2, ed2, hd2⟩ := q4.get e2
    have e3 : (zipD xs ys)[i]? = some (.tup [d1, d2]) := by simp [zipD, List.getElem?_zipWith, ed1, ed2]
    rw [e] at e3
    cases e3
    exact ⟨same_new nT, rep_pair hP nT (Rep.mono s _ _ hd1) (Rep.mono s _ _ hd2)⟩
  · cases ed
end

/-! ### for -/
section
variable {X : Cx} {W : WX} {tg iter : Expr} {body : List Stmt} {gi : GL} {t : GT} {is : List Nat} {p : GS} {pos : Pos}
theorem fs_for (po : PassesOwn (model X.prog X.w) X.A X.env X.xe) (hc : X.calm = true) (hi : FI X W tg iter gi) (hg : FG X tg is t) (hb : FSs X W body p)
    (hs : ∀ x, foldedSetIterable iter X.env x = pure x := by intro _; rfl) : FS X W (.For tg iter body [] pos) (sFor gi t p) := by
  refine PS.imp (ps_for po hc hi hg hb hs) fun Dn σ H h => ?_
  obtain ⟨Γ, os, env, A, h⟩ := h
  refine ⟨Γ, os, env, A, WS.expr A h fun ds H1 _ s1 h1 J it => ?_⟩
  have A1 := A.mono s1
  obtain ⟨Gp, Y, wk, keep, yl⟩ := it
  obtain ⟨G1, eG1⟩ : ∃ G1, G1 = hid (Hd Γ os) H1 := ⟨_, rfl⟩
  rw [← eG1] at keep yl
  have sG : Same Γ.G0 G1 := eG1 ▸ A1.vis
  have A2 : Agree X.K ⟨Γ.H0, Γ.P0, G1⟩ os σ H1 env := ⟨A1.len, A1.olen, A1.same, eG1 ▸ Same.refl _, A1.p0, A1.fresh, A1.nd, A1.slot⟩
  refine for_it wk (fun i σ H => ∃ os' env', Agree X.K ⟨Γ.H0, Γ.P0, G1⟩ os' σ H env' ∧ WS X.K X.mg W Γ (forL t p (ds.drop i) env') Dn) ⟨os, env, A2, by rw [List.drop_zero]; exact h1⟩
    (fun i σ H _ ⟨os', env', A', _⟩ => keep H (A'.vis.trans (hid_same _ H))) (fun i x σ H H' hi ⟨os', env', A', h⟩ y => ?_) (fun σ H ⟨os', env', A', h⟩ => ?_)
  · have ed : ds[i]? = some ds[i] := List.getElem?_eq_getElem hi
    have hd : ds.drop i = ds[i] :: ds.drop (i + 1) := List.drop_eq_getElem_cons hi
    obtain ⟨s2, rx⟩ := yl i _ H x H' (Hd ⟨Γ.H0, Γ.P0, G1⟩ os') ed y A'.hides A'.vis
    rw [hd] at h
    cases et : t ds[i] env' with
    | none =>
      simp only [forL, et] at h
      exact h.elim
    | some e1 =>
      simp only [forL, et] at h
      refine ⟨_, os', env', ds[i], e1, A'.mono s2, rx, et, fun os2 σ2 A2 _ _ _ => ⟨⟨Γ.H0, Γ.P0, G1⟩, os2, e1, A2, ?_⟩⟩
      cases eb : p e1 with
      | next e2 =>
        rw [eb] at h
        exact fun os3 σ3 H3 A3 => ⟨os3, e2, A3, h⟩
      | cont e2 =>
        rw [eb] at h
        exact fun os3 σ3 H3 A3 => ⟨os3, e2, A3, h⟩
      | brk e2 =>
        rw [eb] at h
        exact fun os3 σ3 H3 A3 => h os3 σ3 H3 (A3.weak rfl rfl sG)
      | ret d =>
        rw [eb] at h
        exact h
      | err er e2 =>
        rw [eb] at h
        exact fun os3 σ3 H3 c pd A3 q => h os3 σ3 H3 c pd (A3.weak rfl rfl sG) q
      | stuck =>
        rw [eb] at h
        exact h
  · rw [List.drop_length] at h
    exact h _ _ _ (A'.weak rfl rfl sG)
theorem fs_while {c : Expr} {gc : GB} (n : Nat) (po : PassesOwn (model X.prog X.w) X.A X.env X.xe) (hc : FT X W c gc) (hb : FSs X W body p) : FS X W (.While c body [] pos) (sWhile n gc p) := by
  refine PS.imp (ps_while po hc hb) fun Dn σ H h => ?_
  obtain ⟨Γ, os, env, A, h⟩ := h
  refine ⟨fun m σ H => ∃ os env, Agree X.K Γ os σ H env ∧ WS X.K X.mg W Γ (whileL gc p m env) Dn, ⟨n, os, env, A, h⟩, ?_⟩
  rintro m σ H ⟨os, env, A, h⟩
  cases m with
  | zero => exact h.elim
  | succ m =>
    refine ⟨Γ, os, env, A, WS.expr A h fun k H1 _ s1 h1 => ?_⟩
    cases k with
    | false =>
      show Dn.nx σ H1
      exact h1 _ _ _ (A.mono s1)
    | true =>
      show ∃ N : L2.St → Hp → Prop, (∀ σ' H', N σ' H' → ∃ m', m' < m + 1 ∧ _) ∧ _
      refine ⟨fun σ' H' => ∃ os' env', Agree X.K Γ os' σ' H' env' ∧ WS X.K X.mg W Γ (whileL gc p m env') Dn, fun σ' H' ⟨os', env', A', h'⟩ => ⟨m, Nat.lt_succ_self m, os', env', A', h'⟩, Γ, os, env, A.mono s1, ?_⟩
      revert h1
      cases p env with
      | next e2 => exact fun h1 os3 σ3 H3 A3 => ⟨os3, e2, A3, h1⟩
      | cont e2 => exact fun h1 os3 σ3 H3 A3 => ⟨os3, e2, A3, h1⟩
      | brk e2 => exact id
      | ret d => exact id
      | err er e2 => exact id
      | stuck => exact id
end
end AF

namespace AF
open PySem PySem.Spec PyProof.Rows L2

/-! ### the promise of a def by its mirror -/
def spF (K : PySem.W.Frag) (mg : Str → Option Value) (n : Nat) (m : List D → Res D) : Sp := fun vs H Q E => ∃ P ds, Hides P H ∧ Reps K (hid P H) ds vs ∧ ds.length = n ∧ WR K mg P (fun c pd _ H' => E c pd H') [] H (m ds) (zE K P Q)
structure Fk (P : Program) (w : World) (K : PySem.W.Frag) (mg : Str → Option Value) (base : Heap) (k : Nat) (x : Str) (n : Nat) (m : List D → Res D) : Prop where
  ex : ∃ f fd ps, FnOk P w K mg base (L2.CX P w) k f fd ps (spF K mg n m) ∧ mg x = some (.ref f) ∧ PySem.W.keepIn K (.ref f) = true ∧ Binds K fd ps []
  len : ∀ ds, ds.length ≠ n → m ds = .stuck
theorem Fk.mono {P : Program} {w : World} {K : PySem.W.Frag} {mg : Str → Option Value} {base : Heap} {j k : Nat} {x : Str} {n : Nat} {m : List D → Res D} (F : Fk P w K mg base j x n m) (h : j ≤ k) : Fk P w K mg base k x n m := by
  obtain ⟨f, fd, ps, F1, h1, h2, h3⟩ := F.ex
  exact ⟨⟨f, fd, ps, F1.mono h, h1, h2, h3⟩, F.len⟩
theorem WR.wish {K : PySem.W.Frag} {mg : Str → Option Value} {P : Addr → Prop} {W W' : WX} {σ σ' : L2.St} {H : Hp} {α : Type} {r : Res α} {Z : Hp → α → Hp → Prop} (h : WR K mg P W σ H r Z) (i : ∀ c pd H', W c pd σ H' → W' c pd σ' H') : WR K mg P W' σ' H r Z := by
  cases r with
  | ok a => exact h
  | err e => exact fun c pd H' s q => i _ _ _ (h c pd H' s q)
  | stuck => exact h
section
variable {X : Cx} {W : WX} {a : Expr} {es : List Expr} {g : GL} {pos p : Pos} {x : Str} {k n : Nat} {m : List D → Res D}
theorem fe_call (F : Fk X.prog X.w X.K X.mg X.base k x n m) (hr : Room k X.A) (tk : Takes X W) (ha : FA X W (a :: es) g) (hg : Gl X x := by rfl) (hdb : (x == ("__debug__" : Str)) = false := by decide)
    (he : starEach (a :: es) X.env = (false, eval a X.env) :: starEach es X.env := by rfl) (hpl : (backTo pos (starEach es X.env)).any (·.1) = false := by rfl) : FE X W (.Call (.Name x p) (a :: es) [] pos) (eCall m g) := by
  obtain ⟨f, fd, ps, F1, hm, hk, hb⟩ := F.ex
  refine PE.imp (pe_callSD (E := fun σ cls d H => W cls d σ H) F1 hr hg hm hk hb .nil (passAt tk) ha hdb he hpl) fun σ H Q h => ?_
  obtain ⟨Γ, os, env, A, h⟩ := h
  refine ⟨Γ, os, env, A, WR.bind anti_E h fun ds H1 _ s1 h1 vs rv => ?_⟩
  by_cases hl : ds.length = n
  · show spF X.K X.mg n m (vs ++ []) H1 Q _
    rw [List.append_nil]
    exact ⟨_, ds, A.hides.mono s1, rv, hl, WR.wish h1 fun c pd H' q => q⟩
  · rw [F.len ds hl] at h1
    exact h1.elim
theorem fe_call0 (F : Fk X.prog X.w X.K X.mg X.base k x 0 m) (hr : Room k X.A) (hx : ∀ e, m [] ≠ .err e) (hg : Gl X x := by rfl) (hdb : (x == ("__debug__" : Str)) = false := by decide) (hp : Passes (L2.CX X.prog X.w) X E0 := by exact passL) : FE X W (.Call (.Name x p) [] [] pos) (eCall m aNil) := by
  obtain ⟨f, fd, ps, F1, hm, hk, hb⟩ := F.ex
  refine PE.imp (pe_call0 F1 hr hg hm hk hb .nil hp hdb) fun σ H Q h => ?_
  obtain ⟨Γ, os, env, A, h⟩ := h
  have h : WR X.K X.mg (Hd Γ os) W σ H (m []) (zE X.K (Hd Γ os) Q) := h
  refine ⟨_, [], A.hides, rfl, rfl, ?_⟩
  cases e : m [] with
  | ok d => rw [e] at h; exact h
  | err er => exact absurd e (hx er)
  | stuck => rw [e] at h; exact h
end

/-! ### a def's body -/
def runF (n nn : Nat) (g : GS) : List D → Res D := fun ds => if ds.length = n then (match g (ds.map Sl.val ++ List.replicate (nn - n) .unk) with
  | .next _ => .ok .non
  | .ret d => .ok d
  | .err e _ => .err e
  | _ => .stuck) else .stuck
theorem runF_len {n nn : Nat} {g : GS} (ds : List D) (h : ds.length ≠ n) : runF n nn g ds = .stuck := if_neg h
theorem agree_start {K : PySem.W.Frag} {P : Addr → Prop} {H : Hp} {ds : List D} {vs : List V} {N : List Str} {n : Nat} (hP : Hides P H) (r : Reps K (hid P H) ds vs) (hn : ds.length = n) (hN : n ≤ N.length) :
    Agree K ⟨H, P, fun _ => none⟩ (List.replicate N.length none) (L2.start N vs) H (ds.map Sl.val ++ List.replicate (N.length - n) .unk) := by
  have lv := r.length
  have e : Same (hid P H) (hid (Hd ⟨H, P, fun _ => none⟩ (List.replicate N.length none)) H) := Same.hid2 (Same.refl H) fun a o h q z => by
    rcases z with z | z
    · exact q z
    · have := List.eq_of_mem_replicate z
      cases this
  refine ⟨?_, ?_, Same.refl H, nofun, hP, fun p h => ?_, fun i j p h1 h2 => ?_, fun i sl h => ?_⟩
  · simp [L2.start]
    omega
  · simp
    omega
  · have := List.eq_of_mem_replicate h
    cases this
  · have := List.eq_of_mem_replicate (List.mem_of_getElem? h1)
    cases this
  · by_cases hi : i < ds.length
    · rw [List.getElem?_append_left (by simpa using hi)] at h
      rw [List.getElem?_map, List.getElem?_eq_getElem hi] at h
      cases h
      obtain ⟨v, ev, hd⟩ := r.getD (List.getElem?_eq_getElem hi)
      refine ⟨some v, none, ?_, by rw [List.getElem?_replicate]; exact if_pos (by omega), rfl, v, rfl, Rep.mono e _ _ hd⟩
      unfold L2.start
      rw [List.getElem?_append_left (by simp; omega), List.getElem?_map, ev]
      rfl
    · rw [List.getElem?_append_right (by simp; omega)] at h
      obtain ⟨h1, h2⟩ := List.getElem?_eq_some_iff.mp h
      simp at h2
      subst h2
      simp at h1
      refine ⟨none, none, ?_, by rw [List.getElem?_replicate]; exact if_pos (by omega), rfl⟩
      unfold L2.start
      rw [List.getElem?_append_right (by simp; omega), List.getElem?_replicate]
      exact if_pos (by simp; omega)
section
variable {P : Program} {w : World} {K : PySem.W.Frag} {mg : Str → Option Value} {base : Heap}
theorem fn_of {x : Str} {st : Stmt} {f : Addr} {fd : FuncData} {N ps : List Str} {k n nn : Nat} {g : GS} (F : Fun K x x st f fd) (S : FnScope N ps (defScope st)) 
    (hps : ps.length = n := by rfl) (hnn : N.length = nn := by rfl) (hle : n ≤ nn := by decide)
    (body : ∀ (cdv : Value) (A : Around) (outer : List Env) (s : Shared) (H : Hp) (E : XK), Room k (A.deeper (envOfC x (defScope st) s.heap.objs.size f cdv)) →
      FSs (cxOf (L2.CX P w) P w K mg base N x (defScope st) f cdv A outer s H E) (fun c pd _ H' => E c pd H') (defBody st) g) : FnOk P w K mg base (L2.CX P w) (k + 1) f fd ps (spF K mg n (runF n nn g)) := by
  refine F.okX S (fun vs H Q E h => ?_) (fun cdv A outer s H vs Q E hr h => ⟨_, body cdv A outer s H E hr, ?_⟩)
  · obtain ⟨P, ds, _, r, e, _⟩ := h
    rw [r.length, e, hps]
  · obtain ⟨P', ds, hP, r, e, h⟩ := h
    refine ⟨_, _, _, agree_start hP r e (by omega), ?_⟩
    subst hnn
    unfold runF at h
    rw [if_pos e] at h
    revert h
    cases g (ds.map Sl.val ++ List.replicate (N.length - n) .unk) with
    | next env' => exact fun h os σ H' A => WR.ok h A.same .non rfl
    | brk env' => exact fun h => h.elim
    | cont env' => exact fun h => h.elim
    | ret d => exact fun h v H' s r => WR.ok h s v r
    | stuck => exact fun h => h.elim
    | err er env' =>
      intro h os σ H' c pd A q
      refine h c pd H' A.same ?_
      have sm : Same (hid (Hd ⟨H, P', fun _ => none⟩ os) H') (hid P' H') := Same.hid2 (Same.refl H') fun _ _ _ h q => h (.inl q)
      cases er with
      | plain y => exact q
      | one y f d =>
        obtain ⟨C, p, v, q1, q2, q3, q4, q5⟩ := q
        exact ⟨C, p, v, q1, q2, q3, q4, Rep.mono sm _ _ q5⟩
theorem fk_of {x : Str} {st : Stmt} {f : Addr} {fd : FuncData} {N ps : List Str} {k n nn : Nat} {g : GS} (F : Fun K x x st f fd) (S : FnScope N ps (defScope st)) (hm : mg x = some (.ref f))
    (hb : ∀ (kV doc pm : Value) (an : Option Addr) (cdv ct : Value) (us : List Value), us.length = ps.length → bindArgs (PySem.W.fnOf x x (defArgs st) (defBody st) (defScope st) .none kV doc pm an cdv ct) ⟨us, []⟩ = pure (ps.zip us))
    (hps : ps.length = n := by rfl) (hnn : N.length = nn := by rfl) (hle : n ≤ nn := by decide)
    (body : ∀ (cdv : Value) (A : Around) (outer : List Env) (s : Shared) (H : Hp) (E : XK), Room k (A.deeper (envOfC x (defScope st) s.heap.objs.size f cdv)) →
      FSs (cxOf (L2.CX P w) P w K mg base N x (defScope st) f cdv A outer s H E) (fun c pd _ H' => E c pd H') (defBody st) g) : Fk P w K mg base (k + 1) x n (runF n nn g) :=
  ⟨⟨f, fd, ps, fn_of F S hps hnn hle body, hm, F.kp, F.binds hb⟩, runF_len⟩
end

/-! ### errors -/
structure Exn (K : PySem.W.Frag) (mg : Str → Option Value) (x : String) (C : Addr) : Prop where
  g : mg (Str.ofString x) = some (.ref C)
  xc : PySem.W.excIn K C [.type "ValueError", .type "Exception", .type "BaseException", .type "object"] "ValueError.__new__" = true
  k : PySem.W.keepIn K (.ref C) = true
  b : PySem.W.subIn K (.ref C) (.type "BaseException") = some true
  t : PySem.W.typeIn K (.ref C) = some (.type "type")
def sRaise (e : Er) : GS := fun env => .err e env
def Er.cls : Er → String
  | .plain x => x
  | .one x _ _ => x
def sTry (cat : List (String × Bool)) (body hand : GS) : GS := fun env => match body env with
  | .err e env' => (match cat.lookup e.cls with
    | some true => (match hand env' with
      | .err _ _ => .stuck
      | r => r)
    | some false => .err e env'
    | none => .stuck)
  | r => r
abbrev W0 : WX := fun _ _ _ _ => False
section
variable {X : Cx} {W : WX} {pos p : Pos} {x : String} {C : Addr}
/-- raise X('..') -/
theorem fs_raise {m : Str} {j : Nat} {p2 pos2 : Pos} (T : Exn X.K X.mg x C) (hc : X.calm = true) (tk : Takes X W) (hg : Gl X (Str.ofString x) := by rfl) (hdb : (Str.ofString x == ("__debug__" : Str)) = false := by decide) :
    FS X W (.Raise (some (.Call (.Name (Str.ofString x) p) [.Constant (.str m) j p2] [] pos2)) none pos) (sRaise (.plain x)) := by
  refine PS.imp (ps_raise hc tk (pmk_own PySem.F.excBase_ValueError T.xc T.g T.k (raises_own T.b T.t) hg hdb)) fun Dn σ H h => ?_
  obtain ⟨Γ, os, env, A, h⟩ := h
  exact h os σ H _ _ A ⟨C, T.g, rfl, rfl⟩
theorem lookup_mem {x : String} {b : Bool} : ∀ {l : List (String × Bool)}, l.lookup x = some b → (x, b) ∈ l
  | [], h => by cases h
  | (y, c) :: l, h => by
    rw [List.lookup_cons] at h
    by_cases e : x = y
    · subst e
      simp at h
      subst h
      exact List.mem_cons_self
    · have : (x == y) = false := by simpa using e
      rw [this] at h
      exact List.mem_cons_of_mem _ (lookup_mem h)
/-- try: .. except y: .. -/
theorem fs_try {y : Str} {c : Value} {body suite : List Stmt} {b₀ : Stmt} {np pos' : Pos} {gb gh : GS} {cat : List (String × Bool)} (hc : Names X y c) (tk : Takes X W)
    (hcat : ∀ q ∈ cat, ∃ C, X.mg (Str.ofString q.1) = some (.ref C) ∧ PySem.W.exmOne X.K (.ref C) c = some q.2)
    (hb : ∀ (W' : WX) (pn : List (Addr × Obj)) (xe : Value → Shared → Prop), Takes (X.tr pn xe) W' → PassesOwn (model X.prog X.w) X.A X.env xe → FSs (X.tr pn xe) W' body gb)
    (hh : ∀ (a : Addr) (pn : List (Addr × Obj)), FSs (X.suite a pn) W0 (b₀ :: suite) gh) (hs : X.stack = X.env :: X.outer := by rfl) (hf : X.env.frame = some X.env.locals := by rfl) :
    FS X W (.Try body [.ExceptHandler (some (.Name y np)) none (b₀ :: suite) pos'] [] [] pos) (sTry cat gb gh) := by
  refine PS.imp (ps_try_only (Wout := W) (tb := fun W' => tGS X.K X.mg W' gb) (ts := fun _ _ _ => tGS X.K X.mg W0 gh) hs hf hc tk (fun W' pn xe tk' po => hb W' pn xe tk' po) (fun a oe cls d pn _ _ => hh a ((a, oe) :: pn))) fun Dn σ H h => ?_
  obtain ⟨Γ, os, env, A, h⟩ := h
  refine ⟨Γ, os, env, A, ?_⟩
  unfold sTry at h
  revert h
  cases gb env with
  | next e => exact id
  | brk e => exact id
  | cont e => exact id
  | ret d => exact id
  | stuck => exact id
  | err e env' =>
    intro h os' σ' H' cls pd A' q
    have eC : ∃ C, X.mg (Str.ofString e.cls) = some (.ref C) ∧ cls = .ref C := by
      cases e with
      | plain y =>
        obtain ⟨C, q1, q2, _⟩ := q
        exact ⟨C, q1, q2⟩
      | one y f d =>
        obtain ⟨C, p, v, q1, q2, _⟩ := q
        exact ⟨C, q1, q2⟩
    obtain ⟨C, q1, rfl⟩ := eC
    cases ek : cat.lookup e.cls with
    | none =>
      simp only [ek] at h
      exact h.elim
    | some b =>
      obtain ⟨C', m1, m2⟩ := hcat _ (lookup_mem ek)
      simp only [] at m1
      rw [q1] at m1
      cases m1
      refine ⟨b, m2, fun hb a na => ?_, fun hb => ?_⟩
      · subst hb
        simp only [ek] at h
        refine ⟨Γ, os', env', A', ?_⟩
        revert h
        cases gh env' with
        | next e => exact id
        | brk e => exact id
        | cont e => exact id
        | ret d => exact id
        | stuck => exact id
        | err e2 e3 => exact fun h => h.elim
      · subst hb
        simp only [ek] at h
        exact h os' σ' H' _ pd A' q
end
end AF

namespace AF
open PySem PySem.Spec PyProof.Rows L2
def wipeE (env : En) : List Nat → En
  | [] => env
  | v :: vs => (wipeE env vs).set v .unk
def noOwn (env : En) (vs : List Nat) : Bool := vs.all fun v => match env[v]? with
  | some (.own _) => false
  | _ => true
section
variable {K : PySem.W.Frag} {Γ : Ga} {os : List (Option Addr)} {σ : L2.St} {H H1 : Hp} {env : En}
theorem set_same {α : Type} {l : List α} {i : Nat} {a : α} (h : ∀ b, l[i]? = some b → b = a) : l.set i a = l := by
  apply List.ext_getElem?
  intro j
  by_cases e : i = j
  · subst e
    by_cases hi : i < l.length
    · rw [List.getElem?_set_self hi, List.getElem?_eq_getElem hi, h _ (List.getElem?_eq_getElem hi)]
    · rw [List.getElem?_eq_none (by simpa using hi), List.getElem?_eq_none (by omega)]
  · rw [List.getElem?_set_ne e]
theorem Agree.wipe (A : Agree K Γ os σ H env) : ∀ vs, noOwn env vs = true → Agree K Γ os (wipe σ vs) H (wipeE env vs)
  | [], _ => A
  | v :: vs, h => by
    have h' : ((match env[v]? with | some (.own _) => false | _ => true) && noOwn env vs) = true := h
    rw [Bool.and_eq_true] at h'
    have q := (A.wipe vs h'.2).set_unk v none
    have e : os.set v none = os := set_same fun b eb => by
      have hv : v < env.length := by
        have := (List.getElem?_eq_some_iff.mp eb).1
        rw [A.olen] at this
        exact this
      obtain ⟨sv, o, h1, h2, h3⟩ := A.slot v _ (List.getElem?_eq_getElem hv)
      rw [eb] at h2
      cases h2
      have h'1 := h'.1
      rw [List.getElem?_eq_getElem hv] at h'1
      revert h3 h'1
      cases env[v] with
      | unk => exact fun h _ => h
      | val d => exact fun h _ => h.1
      | own ds => exact fun _ h => by cases h
    rw [e] at q
    exact q
theorem hid_neg {P : Addr → Prop} {a : Addr} (h : ¬ P a) : hid P H a = H a := by
  unfold hid
  exact if_neg h
theorem Agree.inner (A : Agree K Γ os σ H1 env) (s : Same H1 H) {Dl : Addr} (n : H1 Dl = none) (e : H Dl ≠ none) : ∃ Γ', Agree K Γ' os σ H env ∧ (∀ a, Hd Γ' os a ↔ Hd Γ os a ∨ a = Dl) := by
  have nD : some Dl ∉ os := fun h => by
    obtain ⟨vs, q⟩ := A.ownAt h
    rw [n] at q
    cases q
  have iff : ∀ a, Hd ⟨hid (fun a => some a ∈ os) H, fun a => Γ.P0 a ∨ a = Dl, fun _ => none⟩ os a ↔ Hd Γ os a ∨ a = Dl := fun a => by
    unfold Hd
    constructor
    · rintro ((h | h) | h)
      · exact .inl (.inl h)
      · exact .inr h
      · exact .inl (.inr h)
    · rintro ((h | h) | h)
      · exact .inl (.inl h)
      · exact .inr h
      · exact .inl (.inr h)
  have sm : Same (hid (Hd Γ os) H1) (hid (Hd ⟨hid (fun a => some a ∈ os) H, fun a => Γ.P0 a ∨ a = Dl, fun _ => none⟩ os) H) := Same.hid2 s fun a o h q z => by
    rcases (iff a).mp z with z | z
    · exact q z
    · exact ne_of_none h n z
  refine ⟨⟨hid (fun a => some a ∈ os) H, fun a => Γ.P0 a ∨ a = Dl, fun _ => none⟩, ⟨A.len, A.olen, hid_same _ H, nofun, fun a h q => ?_, fun p h => ?_, A.nd, fun i sl h => ?_⟩, iff⟩
  · rcases h with h | h
    · have h1 : ¬ some a ∈ os := fun z => A.notP0 z h
      have h2 := ((A.p0.mono A.same).mono s) a h
      exact h2 ((hid_neg (P := fun a => some a ∈ os) h1).symm.trans q)
    · subst h
      exact e ((hid_neg (P := fun a => some a ∈ os) nD).symm.trans q)
  · unfold hid
    exact if_pos h
  · obtain ⟨sv, o, h1, h2, h3⟩ := A.slot i sl h
    exact ⟨sv, o, h1, h2, h3.mono sm s⟩
theorem wipe_wipe : ∀ vs : List Nat, wipe (wipe σ vs) vs = wipe σ vs := by
  have gen : ∀ (ws vs : List Nat), (∀ w ∈ ws, w ∈ vs) → wipe (wipe σ ws) vs = wipe σ vs := by
    intro ws
    induction ws with
    | nil => intro vs _; rfl
    | cons w ws ih =>
      intro vs h
      show wipe ((wipe σ ws).set w none) vs = wipe σ vs
      rw [wipe_set (h w List.mem_cons_self)]
      exact ih vs fun x hx => h x (List.mem_cons_of_mem _ hx)
  exact fun vs => gen vs vs fun _ h => h
end
/-- the items that a comprehension makes -/
def compM (t : GT) (c : GB) (e : GE) (env : En) : List D → Res (List D)
  | [] => .ok []
  | d :: ds => match t d env with
    | none => .stuck
    | some e1 => (c e1).bind fun k => if k then (e e1).bind fun y => (compM t c e env ds).bind fun ys => .ok (y :: ys) else compM t c e env ds
def okOnly {α : Type} : Res α → Res α
  | .ok a => .ok a
  | _ => .stuck
def lComp (it : GL) (vs : List Nat) (t : GT) (c : GB) (e : GE) : GL := fun env => (it env).bind fun ds => if ds.length ≤ sizeLine ∧ noOwn env vs = true then okOnly (compM t c e (wipeE env vs) ds) else .stuck
def bYes : GB := fun _ => .ok true
theorem compM_cons {t : GT} {c : GB} {e : GE} {env : En} {d : D} {ds ys : List D} (h : compM t c e env (d :: ds) = .ok ys) :
    ∃ e1 k, t d env = some e1 ∧ c e1 = .ok k ∧ ((k = true ∧ ∃ y zs, e e1 = .ok y ∧ compM t c e env ds = .ok zs ∧ ys = y :: zs) ∨ (k = false ∧ compM t c e env ds = .ok ys)) := by
  unfold compM at h
  cases et : t d env with
  | none => rw [et] at h; cases h
  | some e1 =>
    rw [et] at h
    dsimp only at h
    cases ec : c e1 with
    | err x => rw [ec] at h; cases h
    | stuck => rw [ec] at h; cases h
    | ok k =>
      rw [ec] at h
      refine ⟨e1, k, rfl, ec, ?_⟩
      cases k with
      | false => exact .inr ⟨rfl, h⟩
      | true =>
        have h : ((e e1).bind fun y => (compM t c e env ds).bind fun ys => .ok (y :: ys)) = .ok ys := h
        cases ee : e e1 with
        | err x => rw [ee] at h; cases h
        | stuck => rw [ee] at h; cases h
        | ok y =>
          rw [ee] at h
          cases em : compM t c e env ds with
          | err x => rw [em] at h; cases h
          | stuck => rw [em] at h; cases h
          | ok zs =>
            rw [em] at h
            cases h
            exact .inl ⟨rfl, y, zs, rfl, rfl, rfl⟩
theorem tLc_of {K : PySem.W.Frag} {mg : Str → Option Value} {W : WX} {it : GL} {vs is : List Nat} {t : GT} {c : GB} {e : GE} (hv : ∀ i ∈ is, i ∈ vs) {σ : L2.St} {H : Hp} {Q : VK} (h : tGL K mg W (lComp it vs t c e) σ H Q) :
    tLc (tGI K mg W it) (tGT K is t) (tGB K mg W0 c) (tG K mg W0 e) vs σ H Q := by
  obtain ⟨Γ, os, env, A, h⟩ := h
  refine ⟨Γ, os, env, A, WR.bind anti_L h fun ds H1 _ s1 h1 J itJ Dl nD => ?_⟩
  have A1 := A.mono s1
  have hc : ds.length ≤ sizeLine ∧ noOwn env vs = true := by
    by_cases hc : ds.length ≤ sizeLine ∧ noOwn env vs = true
    · exact hc
    · rw [if_neg hc] at h1
      exact h1.elim
  rw [if_pos hc] at h1
  obtain ⟨hz, hno⟩ := hc
  obtain ⟨ys, ey, wish⟩ : ∃ ys, compM t c e (wipeE env vs) ds = .ok ys ∧ ∀ H', Same H1 H' → zL K (Hd Γ os) Q H1 ys H' := by
    revert h1
    cases compM t c e (wipeE env vs) ds with
    | ok ys => exact fun h1 => ⟨ys, rfl, h1⟩
    | err x => exact fun h1 => h1.elim
    | stuck => exact fun h1 => h1.elim
  obtain ⟨Gp, Y, wk, keep, yl⟩ := itJ
  refine lc_it wk (fun i Hh => ∃ accV accD zs, Same H1 Hh ∧ Hh Dl = some (.lst accV) ∧ Reps K (hid (fun a => Hd Γ os a ∨ a = Dl) Hh) accD accV ∧ accD.length ≤ i ∧ compM t c e (wipeE env vs) (ds.drop i) = .ok zs ∧ accD ++ zs = ys)
    ⟨[], [], ys, same_new nD, upd_same, rfl, Nat.zero_le _, by rw [List.drop_zero]; exact ey, rfl⟩ (fun i Hh _ ⟨_, _, _, s, _⟩ => keep Hh ((hid_same _ H1).trans s)) (fun i x Hh H' hi hp y => ?_) (fun Hh hp => ?_)
  · obtain ⟨accV, accD, zs, s, eD, racc, hl, em, ez⟩ := hp
    have ed : ds[i]? = some ds[i] := List.getElem?_eq_getElem hi
    have hd : ds.drop i = ds[i] :: ds.drop (i + 1) := List.drop_eq_getElem_cons hi
    rw [hd] at em
    have hP : Hides (fun a => Hd Γ os a ∨ a = Dl) Hh := fun a q n => by
      rcases q with q | q
      · exact ((A1.mono s).hides) a q n
      · subst q
        rw [eD] at n
        cases n
    have vis : Same (hid (Hd Γ os) H1) (hid (fun a => Hd Γ os a ∨ a = Dl) Hh) := Same.hid2 s fun a o h q z => z.elim q (ne_of_none h nD)
    obtain ⟨s2, rx⟩ := yl i _ Hh x H' _ ed y hP vis
    obtain ⟨e1, k, et, ec, hk⟩ := compM_cons em
    obtain ⟨Γ', A', iff⟩ := A1.inner (s.trans s2) nD (by rw [s2 _ _ eD]; exact nofun)
    have A2 := A'.wipe vs hno
    have eP : Hd Γ' os = fun a => Hd Γ os a ∨ a = Dl := funext fun a => propext (iff a)
    have rx' : Rep K (hid (Hd Γ' os) H') ds[i] x := by rw [eP]; exact rx
    refine ⟨Γ', os, wipeE env vs, ds[i], e1, A2, rx', et, fun os2 σ2 A3 w2 m2 k2 => ⟨by rw [w2 vs hv, wipe_wipe], Γ', os2, e1, A3, ?_⟩⟩
    have eP2 : Hd Γ' os2 = fun a => Hd Γ os a ∨ a = Dl := funext fun a => propext ⟨fun h => (iff a).mp (m2 a h), fun h => by
      rcases (iff a).mpr h with h | h
      · exact .inl h
      · obtain ⟨j, hj, ej⟩ := List.mem_iff_getElem.mp h
        have ej' : os[j]? = some (some a) := by rw [List.getElem?_eq_getElem hj, ej]
        have jn : j ∉ is := fun hjs => by
          have hjv := List.all_eq_true.mp hno j (hv j hjs)
          have hje : j < env.length := by
            rw [← A.olen]
            exact hj
          obtain ⟨sv, o, q1, q2, q3⟩ := A.slot j _ (List.getElem?_eq_getElem hje)
          rw [ej'] at q2
          cases q2
          rw [List.getElem?_eq_getElem hje] at hjv
          revert q3 hjv
          cases env[j] with
          | unk => exact fun _ q => by cases q
          | val d => exact fun _ q => by cases q.1
          | own ds => exact fun q _ => by cases q
        exact .inr (List.mem_of_getElem? ((k2 j jn).trans ej'))⟩
    rw [ec]
    intro H3 s3
    have sH : Same H1 H3 := s.trans (s2.trans s3)
    have eD3 : H3 Dl = some (.lst accV) := s3 _ _ (s2 _ _ eD)
    have racc3 : Reps K (hid (fun a => Hd Γ os a ∨ a = Dl) H3) accD accV := Reps.mono (Same.hid (s2.trans s3)) _ _ racc
    rcases hk with ⟨rfl, y0, zs', ee, em', rfl⟩ | ⟨rfl, em'⟩
    · show tG K mg W0 e σ2 H3 _
      refine ⟨Γ', os2, e1, A3.mono s3, ?_⟩
      rw [ee]
      intro H4 s4 v rv
      rw [eP2] at rv
      have lr := racc.length
      refine ⟨accV, s4 _ _ eD3, by omega, accV ++ [v], accD ++ [y0], zs', fun a o h => ?_, upd_same, ?_, by simp; omega, em', by rw [List.append_assoc]; exact ez⟩
      · rw [upd_ne (ne_of_none h nD)]
        exact s4 _ _ (sH _ _ h)
      · have sm : Same (hid (fun a => Hd Γ os a ∨ a = Dl) H4) (hid (fun a => Hd Γ os a ∨ a = Dl) (upd H4 Dl (.lst (accV ++ [v])))) := fun a o h => by
          obtain ⟨q1, q2⟩ := hid_some h
          exact hid_of q1 (by rw [upd_ne (fun z => q1 (.inr z))]; exact q2)
        exact (Reps.mono ((Same.hid s4).trans sm) _ _ racc3).snoc (Rep.mono sm _ _ rv)
    · exact ⟨accV, accD, zs, sH, eD3, racc3, Nat.le_succ_of_le hl, em', ez⟩
  · obtain ⟨accV, accD, zs, s, eD, racc, hl, em, ez⟩ := hp
    rw [List.drop_length] at em
    cases em
    rw [List.append_nil] at ez
    subst ez
    exact wish Hh s Dl accV nD eD racc
abbrev FTs (X : Cx) (W : WX) (ifs : List Expr) (g : GB) : Prop := PTs X ifs (tGB X.K X.mg W g)
section
variable {X : Cx} {W : WX} {elt tg iter : Expr} {ifs : List Expr} {scope : Scope} {own : List (Str × Nat)} {pos : Pos} {gi : GL} {t : GT} {is : List Nat} {c : GB} {e : GE}
theorem fts_nil : FTs X W [] bYes := by
  refine ⟨fun pins s σ H Q I h => pts_nil.run pins s σ H Q I ?_⟩
  obtain ⟨Γ, os, env, A, h⟩ := h
  exact WR.ok h (Same.refl H)
theorem fts_one {e : Expr} {c : GB} (h : FT X W e c) : FTs X W [e] c := pts_one h
theorem fl_comp (hc : X.calm = true) (hN : X.N.Nodup) (ok : blkC X.N X.env.scope scope own = true) (hi : FI X W tg iter gi)
    (hg : ∀ (s : Shared) (H : Hp) (C : Addr) (cl : List (Str × Addr)) (fp : List Addr), FG (X.blk s H scope (compEnvC scope cl C X.env) fp) tg is t)
    (ht : ∀ (s : Shared) (H : Hp) (C : Addr) (cl : List (Str × Addr)) (fp : List Addr), FTs (X.blk s H scope (compEnvC scope cl C X.env) fp) W0 ifs c)
    (he : ∀ (s : Shared) (H : Hp) (C : Addr) (cl : List (Str × Addr)) (fp : List Addr), FE (X.blk s H scope (compEnvC scope cl C X.env) fp) W0 elt e)
    (hv : ∀ i ∈ is, i ∈ own.map (·.2) := by decide) (hs : ∀ x, foldedSetIterable iter X.env x = pure x := by intro _; rfl) : FL X W (.ListComp elt [⟨tg, iter, ifs, 0⟩] scope pos) (lComp gi (own.map (·.2)) t c e) :=
  PE.imp (pe_lc hc hN hi (blkOk_by ok) hg ht he hs) fun _ _ _ h => tLc_of hv h
/-- y = [..] on one line, y a local -/
theorem fs_comp (i : Nat) {y : Str} {py spos : Pos} (hsw : swapsWith (.ListComp elt [⟨tg, iter, ifs, 0⟩] scope pos) (some (.Name y py)) spos.line X.env = pure true) (hc : X.calm = true) (hN : X.N.Nodup) (ok : blkC X.N X.env.scope scope own = true) (hi : FI X W tg iter gi)
    (hg : ∀ (s : Shared) (H : Hp) (C : Addr) (cl : List (Str × Addr)) (fp : List Addr), FG (X.blk s H scope (compEnvC scope cl C X.env) fp) tg is t)
    (ht : ∀ (s : Shared) (H : Hp) (C : Addr) (cl : List (Str × Addr)) (fp : List Addr), FTs (X.blk s H scope (compEnvC scope cl C X.env) fp) W0 ifs c)
    (he : ∀ (s : Shared) (H : Hp) (C : Addr) (cl : List (Str × Addr)) (fp : List Addr), FE (X.blk s H scope (compEnvC scope cl C X.env) fp) W0 elt e)
    (hv : ∀ i ∈ is, i ∈ own.map (·.2) := by decide) (hs : ∀ x, foldedSetIterable iter X.env x = pure x := by intro _; rfl) (hy : X.N[i]? = some y := by rfl) (hyl : X.env.scope.names.lookup y = some .local := by rfl) :
    FS X W (.Assign [.Name y py] (.ListComp elt [⟨tg, iter, ifs, 0⟩] scope pos) spos) (sSetL i (lComp gi (own.map (·.2)) t c e)) := by
  refine PS.imp (ps_setLc (wi := tGI X.K X.mg W gi) (g := tGT X.K is t) (tt := tGB X.K X.mg W0 c) (te := tG X.K X.mg W0 e) hc hN hy hyl hsw hi (blkOk_by ok) hg ht he hs) fun Dn σ H h => ?_
  obtain ⟨Γ, os, env, A, h⟩ := h
  exact tLc_of hv ⟨Γ, os, env, A, WS.expr A h fun d H' _ s h p vs n e r => h _ _ _ (A.set_own s n e r)⟩
end
end AF

namespace AF
open PySem PySem.Spec PyProof.Rows L2

theorem CallR.or3 {X : Cx} {f : Value} {r r' : List V → Hp → VK → Prop} (h : CallR X f r) (h' : CallR X f r') : CallR X f (fun xs H Q => r xs H Q ∨ r' xs H Q) := L2.CallR.or h h'
section
variable {X : Cx} {W : WX} {a b : Expr} {ga gb : GE} {pos : Pos}
/-! ### subscripts -/
def dIx : D → D → Option D
  | .lst xs, .int i => atI xs i
  | .tup xs, .int i => atI xs i
  | .str s, .int i => (atI s i).map fun c => .str [c]
  | _, _ => none
theorem atI_rep {K : PySem.W.Frag} {H : Hp} {ds : List D} {vs : List V} {i : Int} {d : D} (r : Reps K H ds vs) (h : atI ds i = some d) : ∃ v, atI vs i = some v ∧ Rep K H d v := by
  unfold atI at h ⊢
  rw [r.length]
  cases e : ixN ds.length i with
  | none => rw [e] at h; cases h
  | some j =>
    rw [e] at h
    exact r.getD h
theorem ok_ix {K : PySem.W.Frag} : Ok2 K (rIx K) dIx := by
  intro P H x y d e z Q hP rx ry ez q
  cases d <;> cases e <;> first | (cases ez; done) | skip
  · rename_i s i
    obtain ⟨rfl, h1, h2⟩ := rx
    cases ry
    have ez : (atI s i).map (fun c => D.str [c]) = some z := ez
    cases ec : atI s i with
    | none => rw [ec] at ez; cases ez
    | some c =>
      rw [ec] at ez
      cases ez
      refine .inr (.inr ⟨_, i, c, rfl, rfl, by show (s.toArray).size ≤ sizeLine; simpa using h1, by simpa using ec, q _ H (Same.refl H) ⟨rfl, by show 1 ≤ sizeLine; decide, ?_⟩⟩)
      obtain ⟨j, _, hj, _⟩ := atI_get ec
      have := List.all_eq_true.mp h2 c (List.mem_of_getElem? hj)
      simpa using this
  · rename_i xs i
    obtain ⟨p, vs, rfl, h1, h2⟩ := rx
    cases ry
    obtain ⟨v, e1, e2⟩ := atI_rep h2 ez
    exact .inr (.inl ⟨p, vs, i, v, rfl, rfl, Same.seqT (hid_same P H) h1, e1, q v H (Same.refl H) e2⟩)
  · rename_i xs i
    obtain ⟨p, vs, rfl, h1, h2⟩ := rx
    cases ry
    obtain ⟨v, e1, e2⟩ := atI_rep h2 ez
    exact .inl ⟨p, vs, i, v, rfl, rfl, (Same.sl (hid_same P H) h1), e1, q v H (Same.refl H) e2⟩
theorem fe_ix (ha : FE X W a ga) (hb : FE X W b gb) (hs : PlainIx b := by exact fun _ _ => rfl) : FE X W (.Subscript a b pos) (e2 dIx ga gb) := by
  refine PE.imp (pe_ix ix_seq ha hb hs) fun σ H Q h => ?_
  obtain ⟨Γ, os, env, A, h⟩ := h
  refine ⟨Γ, os, env, A, WR.bind anti_E h fun d H1 _ s1 h1 v rv => ⟨Γ, os, env, A.mono s1, WR.bind anti_E h1 fun e H2 _ s2 h2 w rw => ?_⟩⟩
  obtain ⟨z, ez, h3⟩ := WR.of h2
  exact ok_ix _ _ _ _ _ _ _ _ (A.hides.mono (s1.trans s2)) (Rep.mono (Same.hid s2) d v rv) rw ez fun u H3 s3 r3 => h3 H3 s3 u r3
/-! ### slices -/
abbrev GO := En → Res (Option Int)
def oNone : GO := fun _ => .ok none
def oSome (g : GE) : GO := fun env => (g env).bind fun d => match d with
  | .int i => .ok (some i)
  | _ => .stuck
def tGO (K : PySem.W.Frag) (mg : Str → Option Value) (W : WX) (g : GO) : TO := fun σ H Q => ∃ Γ os env, Agree K Γ os σ H env ∧ WR K mg (Hd Γ os) W σ H (g env) (fun _ o H' => Q o H')
abbrev FO (X : Cx) (W : WX) (e : Option Expr) (g : GO) : Prop := PO X e (tGO X.K X.mg W g)
theorem PO.imp {e : Option Expr} {t t' : TO} (h : PO X e t) (i : ∀ σ H Q, t' σ H Q → t σ H Q) : PO X e t' := ⟨fun pins s σ H Q I w => h.run pins s σ H Q I (i _ _ _ w)⟩
theorem anti_O {Q : Option Int → Hp → Prop} : Anti (fun (_ : Hp) (o : Option Int) H' => Q o H') := fun _ _ _ _ _ h => h
theorem fo_none : FO X W none oNone := by
  refine PO.imp po_none fun σ H Q h => ?_
  obtain ⟨Γ, os, env, A, h⟩ := h
  exact WR.ok h (Same.refl H)
theorem fo_some (h : FE X W a ga) : FO X W (some a) (oSome ga) := by
  refine PO.imp (po_some h) fun σ H Q h => ?_
  obtain ⟨Γ, os, env, A, h⟩ := h
  refine ⟨Γ, os, env, A, WR.bind anti_O h fun d H1 _ s1 h1 v rv => ?_⟩
  cases d <;> first | exact h1.elim | skip
  cases rv
  exact ⟨_, rfl, h1 H1 (Same.refl H1)⟩
def cutD {α : Type} (xs : List α) (lo hi : Option Int) : List α := (xs.drop (HT.sIx xs.length 0 lo)).take (HT.sIx xs.length xs.length hi - HT.sIx xs.length 0 lo)
theorem reps_cut {K : PySem.W.Frag} {H : Hp} {ds : List D} {vs : List V} (r : Reps K H ds vs) (lo hi : Option Int) : Reps K H (cutD ds lo hi) (cutV vs lo hi) := by
  unfold cutD cutV
  rw [r.length]
  exact Reps.take _ (Reps.drop _ r)
def dSl : D → Option Int → Option Int → Option D
  | .tup xs, lo, hi => some (.tup (cutD xs lo hi))
  | .str s, lo, hi => some (.str (cutD s lo hi))
  | .lst xs, lo, hi => some (.lst (cutD xs lo hi))
  | _, _, _ => none
def lSl : D → Option Int → Option Int → Option (List D)
  | .lst xs, lo, hi => some (cutD xs lo hi)
  | _, _, _ => none
def eSl (f : D → Option Int → Option Int → Option D) (g : GE) (lo hi : GO) : GE := fun env => (g env).bind fun d => (lo env).bind fun l => (hi env).bind fun u => Res.of (f d l u)
def lSlG (g : GE) (lo hi : GO) : GL := fun env => (g env).bind fun d => (lo env).bind fun l => (hi env).bind fun u => Res.of (lSl d l u)
def rSl3 (K : PySem.W.Frag) : V → Option Int → Option Int → Hp → VK → Prop := fun x lo hi H Q => rSlL K x lo hi H Q ∨ (rSlA K x lo hi H Q ∨ rSlS x lo hi H Q)
theorem sl3 : SlR X (rSl3 X.K) := SlR.or sl_list (SlR.or sl_tupA sl_str)
theorem cutD_all {s : List Nat} {lo hi : Option Int} (h : s.all (· < 1114112) = true) : (cutD s lo hi).all (· < 1114112) = true := by
  rw [List.all_eq_true] at h ⊢
  exact fun c hc => h c (List.mem_of_mem_drop (List.mem_of_mem_take hc))
theorem cutD_len {α : Type} (s : List α) (lo hi : Option Int) : (cutD s lo hi).length ≤ s.length := by
  unfold cutD
  rw [List.length_take, List.length_drop]
  omega
theorem fe_sl {lo hi : Option Expr} {gl gh : GO} {p2 : Pos} (ha : FE X W a ga) (hl : FO X W lo gl) (hh : FO X W hi gh) : FE X W (.Subscript a (.Slice lo hi none p2) pos) (eSl dSl ga gl gh) := by
  refine PE.imp (pe_slice sl3 ha hl hh) fun σ H Q h => ?_
  obtain ⟨Γ, os, env, A, h⟩ := h
  refine ⟨Γ, os, env, A, WR.bind anti_E h fun d H1 _ s1 h1 v rv => ⟨Γ, os, env, A.mono s1, WR.bind anti_E h1 fun l H2 _ s2 h2 => ⟨Γ, os, env, A.mono (s1.trans s2), WR.bind anti_E h2 fun u H3 _ s3 h3 => ?_⟩⟩⟩
  have rv := Rep.mono (Same.hid (P := Hd Γ os) (s2.trans s3)) d v rv
  have hP := A.hides.mono (s1.trans (s2.trans s3))
  obtain ⟨z, ez, h4⟩ := WR.of h3
  cases d <;> first | (cases ez; done) | skip
  · rename_i s _ _
    obtain ⟨rfl, q1, q2⟩ := rv
    cases ez
    refine .inr (.inr ⟨_, rfl, by show (s.toArray).size ≤ sizeLine; simpa using q1, h4 H3 (Same.refl H3) _ ⟨?_, Nat.le_trans (cutD_len s l u) q1, cutD_all q2⟩⟩)
    unfold cutS cutD
    have e : (⟨s.toArray⟩ : Str).length = s.length := by show (s.toArray).size = _; simp
    rw [e]
  · rename_i xs _ _
    obtain ⟨p, vs, rfl, q1, q2⟩ := rv
    cases ez
    have l2 := q2.length
    refine .inr (.inl ⟨p, vs, rfl, Same.seqT (hid_same _ H3) q1, fun hw => ?_, fun _ p hp => ?_⟩)
    · rw [l2] at hw
      have e : cutD xs l u = xs := by
        unfold cutD
        rw [hw.1, hw.2]
        simp
      rw [e] at h4
      exact h4 H3 (Same.refl H3) _ ⟨p, vs, rfl, q1, q2⟩
    · exact h4 _ (same_new hp) _ (tup_new hP hp (reps_cut q2 l u))
  · rename_i xs _
    obtain ⟨p, vs, rfl, q1, q2⟩ := rv
    cases ez
    refine .inl ⟨p, vs, rfl, (Same.sl (hid_same _ H3) q1), fun p hp => h4 _ (same_new hp) _ ?_⟩
    exact lst_of_new hP hp upd_same (reps_new hp (reps_cut q2 l u))
theorem fl_sl {lo hi : Option Expr} {gl gh : GO} {p2 : Pos} (ha : FE X W a ga) (hl : FO X W lo gl) (hh : FO X W hi gh) : FL X W (.Subscript a (.Slice lo hi none p2) pos) (lSlG ga gl gh) := by
  refine PE.imp (pe_slice sl_list ha hl hh) fun σ H Q h => ?_
  obtain ⟨Γ, os, env, A, h⟩ := h
  refine ⟨Γ, os, env, A, WR.bind anti_L h fun d H1 _ s1 h1 v rv => ⟨Γ, os, env, A.mono s1, WR.bind anti_L h1 fun l H2 _ s2 h2 => ⟨Γ, os, env, A.mono (s1.trans s2), WR.bind anti_L h2 fun u H3 _ s3 h3 => ?_⟩⟩⟩
  have rv := Rep.mono (Same.hid (P := Hd Γ os) (s2.trans s3)) d v rv
  have hP := A.hides.mono (s1.trans (s2.trans s3))
  obtain ⟨z, ez, h4⟩ := WR.of h3
  cases d <;> first | (cases ez; done) | skip
  rename_i xs _
  obtain ⟨p, vs, rfl, q1, q2⟩ := rv
  cases ez
  exact ⟨p, vs, rfl, (Same.sl (hid_same _ H3) q1), fun p hp => h4 _ (same_new hp) _ _ hp upd_same (reps_new hp (reps_cut q2 l u))⟩
/-! ### x[i] = e, an own list -/
def sSetIx (i : Nat) (gi gv : GE) : GS := fun env => onOk env (gv env) fun d => withOwn env i fun ds => onOk env (gi env) fun k => match k with
  | .int z => (match ixN ds.length z with
    | some j => .next (env.set i (.own (ds.set j d)))
    | none => .stuck)
  | _ => .stuck
theorem fs_setIx (i : Nat) {x : Str} {p1 tpos : Pos} (hv : FE X W a ga) (hi : FE X W b gb) (hN : X.N[i]? = some x := by rfl) (hvis : Vis X.env.scope x := by first | exact Or.inl rfl | exact Or.inr (Or.inl rfl) | exact Or.inr (Or.inr rfl)) (hd : (x == ("__debug__" : Str)) = false := by decide)
    (hcd : (x == ("__classdict__" : Str)) = false := by decide)
    (hs : swapsWithSole [.Subscript (.Name x p1) b tpos] a pos.line X.env = pure false := by rfl) (hw : swappedStores [.Subscript (.Name x p1) b tpos] a X.env = pure none := by rfl) (h1 : (assignEach [.Subscript (.Name x p1) b tpos] X.env).map (·.2) = [assign (.Subscript (.Name x p1) b tpos) X.env] := by rfl)
    (ha : ∀ v, assign (.Subscript (.Name x p1) b tpos) X.env v = (do
      let ov ← holding [v] (eval (.Name x p1) X.env)
      let iv ← holding [v, ov] (eval b X.env)
      standAt tpos
      holding [v, ov, iv] (setItem ov iv v)
      release [v, ov, iv] []) := by intro _; rfl) : FS X W (.Assign [.Subscript (.Name x p1) b tpos] a pos) (sSetIx i gb ga) := by
  refine PS.imp (ps_asg hv (pg_sub (pos := tpos) (pe_var (pos := p1) hN hvis hd hcd) hi set_list ha) hs hw h1) fun Dn σ H h => ?_
  obtain ⟨Γ, os, env, A, h⟩ := h
  refine ⟨Γ, os, env, A, WS.expr A h fun d H1 _ s1 h1 v rv => ?_⟩
  obtain ⟨ds, e, h2⟩ := own_cases h1
  obtain ⟨p, vs, ho, hσ, hp, hr⟩ := A.own e
  have A1 := A.mono s1
  refine ⟨.ref p, hσ, Γ, os, env, A1, WS.expr A1 h2 fun k H2 _ s2 h3 w rw => ?_⟩
  cases k <;> first | exact h3.elim | skip
  rename_i z _
  cases rw
  have h3 : WS X.K X.mg W Γ (match ixN ds.length z with | some j => .next (env.set i (.own (ds.set j d))) | none => .stuck) Dn := h3
  cases ej : ixN ds.length z with
  | none =>
    rw [ej] at h3
    exact h3.elim
  | some j =>
    rw [ej] at h3
    refine ⟨p, vs, z, j, rfl, rfl, s2 _ _ (s1 _ _ hp), by rw [hr.length]; exact ej, h3 os σ _ ?_⟩
    exact (A1.mono s2).upd_own ho hσ (Reps.set j (Reps.mono (Same.hid (s1.trans s2)) ds vs hr) (Rep.mono (Same.hid s2) d v rv))
/-! ### x op= e -/
def sAug (i : Nat) (f : D → D → Option D) (g : GE) : GS := fun env => match env[i]? with
  | some (.val d) => onOk env (g env) fun e => (match f d e with
    | some z => .next (env.set i (.val z))
    | none => .stuck)
  | _ => .stuck
theorem fs_aug (i : Nat) {x : Str} {pos' : Pos} {op : Operator} {r : R2} {f : D → D → Option D} (ho : OpR X (inplaceOp op) r) (hf : Ok2 X.K r f) (he : FE X W a ga) (hN : X.N.Nodup) (hi : X.N[i]? = some x := by rfl) (hx : Loc X.env.scope x := by first | exact .inl rfl | exact .inr rfl) 
    (hf2 : X.fn x = true ∨ X.env.scope.names.lookup x = some .local := by first | exact .inl rfl | exact .inr rfl) (hp : PS X (.AugAssign (.Name x pos') op a pos) (tAug i (tG X.K X.mg W ga) r)) : FS X W (.AugAssign (.Name x pos') op a pos) (sAug i f ga) := by
  refine PS.imp hp fun Dn σ H h => ?_
  obtain ⟨Γ, os, env, A, h⟩ := h
  have h : WS X.K X.mg W Γ (match env[i]? with
  | some (.val d) => onOk env (ga env) fun e => (match f d e with
    | some z => .next (env.set i (.val z))
    | none => .stuck)
  | _ => .stuck) Dn := h
  cases ei : env[i]? with
  | none => rw [ei] at h; exact h.elim
  | some sl =>
    rw [ei] at h
    cases sl with
    | unk => exact h.elim
    | own ds => exact h.elim
    | val d =>
      obtain ⟨sv, o, h1, h2, h3, v, h4, h5⟩ := A.slot i _ ei
      subst h4
      refine ⟨v, h1, Γ, os, env, A, WS.expr A h fun e H1 _ s1 h6 w rw => ?_⟩
      have h6 : WS X.K X.mg W Γ (match f d e with | some z => .next (env.set i (.val z)) | none => .stuck) Dn := h6
      cases ef : f d e with
      | none => rw [ef] at h6; exact h6.elim
      | some z =>
        rw [ef] at h6
        exact hf _ _ _ _ _ _ _ _ ((A.mono s1).hides) (Rep.mono (Same.hid s1) d v h5) rw ef fun u H2 s2 ru => h6 _ _ _ (((A.mono s1).mono s2).set_val ru)
theorem iop_fdivG : OpR X (inplaceOp .FloorDiv) (rI (fun _ j => S9 j) fun i j => .int (i.fdiv j)) := opI fun i j _ _ _ _ _ hc q => ifloordiv_int hc.1 q (.inl (PyProof.noPylong_of_log2 hc.2))
end
/-! ### built-ins -/
def tyName : D → Option String
  | .non => some "NoneType"
  | .bl _ => some "bool"
  | .int _ => some "int"
  | .str _ => some "str"
  | .tup _ => some "tuple"
  | .lst _ => some "list"
  | .ty _ => none
def tyNames : List String := ["NoneType", "bool", "int", "str", "tuple", "list", "dict"]
def isSubTy (a b : String) : Bool := a == b || (a == "bool" && b == "int")
theorem kitB_ok : ∀ a ∈ tyNames, ∀ b ∈ tyNames, kitB a b = some (isSubTy a b) := by decide +kernel
theorem tyName_mem {d : D} {n : String} (h : tyName d = some n) : n ∈ tyNames := by
  cases d <;> cases h <;> decide
def isiAny (n : String) : List D → Option Bool
  | [] => some false
  | .ty b :: r => if b ∈ tyNames then (isiAny n r).map fun k => isSubTy n b || k else none
  | _ => none
def fIsi : List D → Option D
  | [d, .ty b] => (tyName d).bind fun n => if b ∈ tyNames then some (.bl (isSubTy n b)) else none
  | [d, .tup ts] => (tyName d).bind fun n => (isiAny n ts).map .bl
  | _ => none
theorem tyX_of {K : PySem.W.Frag} {P : Addr → Prop} {H : Hp} {d : D} {x : V} {n : String} (r : Rep K (hid P H) d x) (h : tyName d = some n) : TyX K H x (.type n) := by
  cases d with
  | non => cases r; cases h; exact .base .non
  | bl b => cases r; cases h; exact .base (.bl b)
  | int i => cases r; cases h; exact .base (.int i)
  | str s => obtain ⟨rfl, _⟩ := r; cases h; exact .base (.str _)
  | ty t => cases h
  | tup xs =>
    obtain ⟨a, vs, rfl, h1, h2⟩ := r
    cases h
    rcases h1 with h1 | ⟨o, its, n, h1, h3, _⟩
    · exact .base (.tup ((hid_some h1).2))
    · exact .kTuple h1 h3
  | lst xs =>
    obtain ⟨a, vs, rfl, h1, h2⟩ := r
    cases h
    rcases h1 with (h1 | ⟨o, h1⟩) | ⟨o, its, n, h1, h3, _⟩
    · exact .base (.lst ((hid_some h1).2))
    · exact .base (.frz ((hid_some h1).2))
    · exact .kList h1 h3
theorem kitAny_of {K : PySem.W.Frag} {G : Hp} {n : String} (hn : n ∈ tyNames) : ∀ (ts : List D) (vs : List V) (b : Bool), Reps K G ts vs → isiAny n ts = some b → ∃ us, Paired ClsV vs us ∧ PySem.W.kitAny K (.type n) us = some b
  | [], _, b, r, h => by
    rw [show _ = [] from r]
    cases h
    exact ⟨[], .nil, kitAny_nil⟩
  | t :: ts, _, b, r, h => by
    obtain ⟨v, r', rfl, h1, h2⟩ := r
    cases t <;> first | (cases h; done) | skip
    rename_i c
    cases h1
    have h : (if c ∈ tyNames then (isiAny n ts).map (fun k => isSubTy n c || k) else none) = some b := h
    split at h
    · rename_i hc
      have e := kit_ty (K := K) (kitB_ok n hn c hc)
      cases ek : isiAny n ts with
      | none => rw [ek] at h; cases h
      | some k =>
        rw [ek] at h
        cases h
        obtain ⟨us, p1, p2⟩ := kitAny_of hn ts r' k h2 ek
        refine ⟨_, .cons (.ty c) p1, kitAny_cons e (fun z => ?_) fun z => ?_⟩
        · rw [z]; exact p2
        · rw [z]; rfl
    · cases h
theorem clsV_ty {K : PySem.W.Frag} {G : Hp} {n : String} {v : V} (h : Rep K G (.ty n) v) : ClsV v (.type n) := by
  cases h
  exact .ty n
section
variable {X : Cx} {W : WX} {a b : Expr} {ga gb : GE} {pos : Pos}
theorem op_isi : CallR X (.builtin "isinstance") (fun xs H Q => rIsi X.K xs H Q ∨ (rIsiT X.K xs H Q ∨ rIsiK X.K xs H Q)) := by
  intro pins s σ H xs us Q I r h
  rcases h with h | h | h
  · exact call_isi pins s σ H xs us Q I r h
  · exact call_isiT pins s σ H xs us Q I r h
  · exact call_isiK pins s σ H xs us Q I r h
theorem ok_isi {K : PySem.W.Frag} : OkA K (fun xs H Q => rIsi K xs H Q ∨ (rIsiT K xs H Q ∨ rIsiK K xs H Q)) fIsi := by
  intro P H xs ds z Q hP r ez q
  unfold fIsi at ez
  split at ez
  · rename_i d b
    cases en : tyName d with
    | none => rw [en] at ez; cases ez
    | some n =>
      rw [en] at ez
      have ez : (if b ∈ tyNames then some (D.bl (isSubTy n b)) else none) = some z := ez
      split at ez
      · rename_i hb
        cases ez
        obtain ⟨v, u, rfl, r1, r2⟩ := reps2 r
        exact .inl ⟨v, u, _, _, _, rfl, clsV_ty r2, tyX_of r1 en, kit_ty (kitB_ok n (tyName_mem en) b hb), q _ H (Same.refl H) rfl⟩
      · cases ez
  · rename_i d ts
    cases en : tyName d with
    | none => rw [en] at ez; cases ez
    | some n =>
      rw [en] at ez
      have ez : (isiAny n ts).map D.bl = some z := ez
      cases ea : isiAny n ts with
      | none => rw [ea] at ez; cases ez
      | some k =>
        rw [ea] at ez
        cases ez
        obtain ⟨v, u, rfl, r1, r2⟩ := reps2 r
        obtain ⟨tp, cs, rfl, h1, h2⟩ := r2
        obtain ⟨us, p1, p2⟩ := kitAny_of (tyName_mem en) ts cs k h2 ea
        rcases h1 with h1 | ⟨⟨oc, od, dt, sl⟩, its, n', h1, h3, h4, h5, h6⟩
        · exact .inr (.inl ⟨v, tp, cs, _, us, k, rfl, (hid_some h1).2, p1, tyX_of r1 en, p2, q _ H (Same.refl H) rfl⟩)
        · simp only at h3 h4
          subst h3 h4
          have e := ClsV.all p1 h6
          subst e
          exact .inr (.inr ⟨v, tp, od, _, n', sl, _, k, rfl, by rw [h1], tyX_of r1 en, p2, q _ H (Same.refl H) rfl⟩)
  · cases ez
end
end AF

namespace AF
open PySem PySem.Spec PyProof.Rows L2
/-! ### len, abs, int, bool, str -/
def fLen : List D → Option D
  | [.str s] => some (.int s.length)
  | [.tup xs] => some (.int xs.length)
  | [.lst xs] => some (.int xs.length)
  | _ => none
def fAbs : List D → Option D
  | [.int i] => some (.int (if i < 0 then -i else i))
  | _ => none
def fInt : List D → Option D
  | [.int i] => some (.int i)
  | [.bl b] => some (.int (if b then 1 else 0))
  | _ => none
def fBool : List D → Option D
  | [.int i] => some (.bl (i != 0))
  | [.bl b] => some (.bl b)
  | _ => none
/-- the text of an int, by its codes -/
def strInt (i : Int) : List Nat := (toString i).toList.map Char.toNat
def fStr : List D → Option D
  | [.int i] => if i.natAbs.log2 < 1920 ∧ (strInt i).length ≤ sizeLine then some (.str (strInt i)) else none
  | _ => none
def fType : List D → Option D
  | [d] => (tyName d).map .ty
  | _ => none
def fTuple : List D → Option D
  | [.lst xs] => some (.tup xs)
  | [.tup xs] => some (.tup xs)
  | _ => none
def fList : List D → Option (List D)
  | [.lst xs] => some xs
  | [.tup xs] => some xs
  | _ => none
def ints? : List D → Option (List Int)
  | [] => some []
  | .int i :: r => (ints? r).map fun ns => i :: ns
  | _ => none
def bls? : List D → Option (List Bool)
  | [] => some []
  | .bl b :: r => (bls? r).map fun ns => b :: ns
  | _ => none
def fSum : List D → Option D
  | [.lst xs] => (ints? xs).map fun ns => .int ns.sum
  | _ => none
def fMin : List D → Option D
  | [.lst xs] => (ints? xs).bind fun ns => ns.min?.map .int
  | [.int i, .int j] => some (.int (if j < i then j else i))
  | _ => none
def fMax : List D → Option D
  | [.lst xs] => (ints? xs).bind fun ns => ns.max?.map .int
  | [.int i, .int j] => some (.int (if j > i then j else i))
  | _ => none
def fAll : List D → Option D
  | [.lst xs] => (bls? xs).map fun bs => .bl (bs.all id)
  | _ => none
def fAny : List D → Option D
  | [.lst xs] => (bls? xs).map fun bs => .bl (bs.any id)
  | _ => none
def fGcd : List D → Option D
  | [.int a, .int b] => some (.int ((Nat.gcd a.natAbs b.natAbs : Nat) : Int))
  | _ => none
theorem ints_eq : ∀ {ds : List D} {ns : List Int}, ints? ds = some ns → ds = ns.map D.int
  | [], ns, h => by cases h; rfl
  | d :: ds, ns, h => by
    cases d <;> first | (cases h; done) | skip
    have h : (ints? ds).map (fun ns => _ :: ns) = some ns := h
    cases e : ints? ds with
    | none => rw [e] at h; cases h
    | some ms =>
      rw [e] at h
      cases h
      rw [ints_eq e]
      rfl
theorem bls_eq : ∀ {ds : List D} {ns : List Bool}, bls? ds = some ns → ds = ns.map D.bl
  | [], ns, h => by cases h; rfl
  | d :: ds, ns, h => by
    cases d <;> first | (cases h; done) | skip
    have h : (bls? ds).map (fun ns => _ :: ns) = some ns := h
    cases e : bls? ds with
    | none => rw [e] at h; cases h
    | some ms =>
      rw [e] at h
      cases h
      rw [bls_eq e]
      rfl
theorem reps_bls {K : PySem.W.Frag} {H : Hp} : ∀ {bs : List Bool} {vs : List V}, Reps K H (bs.map D.bl) vs → vs = bs.map V.bl
  | [], _, h => h
  | b :: bs, _, h => by
    obtain ⟨v, r, rfl, h1, h2⟩ := h
    rw [show v = .bl b from h1, reps_bls h2]
    rfl
theorem ok_len {K : PySem.W.Frag} : OkA K (fun xs H Q => ∃ x n, xs = [x] ∧ LenV K x H n ∧ Q (.int n) H) fLen := by
  intro P H xs ds z Q hP r ez q
  unfold fLen at ez
  split at ez <;> first | (cases ez; done) | skip
  · cases ez
    obtain ⟨v, rfl, rfl, h1, h2⟩ := reps1 r
    rename_i s
    exact ⟨_, s.length, rfl, ⟨by show (s.toArray).size ≤ sizeLine; simpa using h1, by show s.length = (s.toArray).size; simp⟩, q _ H (Same.refl H) rfl⟩
  · cases ez
    obtain ⟨v, rfl, p, vs, rfl, h1, h2⟩ := reps1 r
    exact ⟨_, _, rfl, .inr ⟨vs, Same.seqT (hid_same P H) h1, h2.length.symm⟩, q _ H (Same.refl H) rfl⟩
  · cases ez
    obtain ⟨v, rfl, p, vs, rfl, h1, h2⟩ := reps1 r
    exact ⟨_, _, rfl, .inl ⟨vs, (Same.sl (hid_same P H) h1), h2.length.symm⟩, q _ H (Same.refl H) rfl⟩
theorem ok_abs {K : PySem.W.Frag} : OkA K (fun xs H Q => ∃ i, xs = [.int i] ∧ Q (.int (if i < 0 then -i else i)) H) fAbs := by
  intro P H xs ds z Q hP r ez q
  unfold fAbs at ez
  split at ez <;> first | (cases ez; done) | skip
  cases ez
  obtain ⟨v, rfl, r1⟩ := reps1 r
  cases r1
  exact ⟨_, rfl, q _ H (Same.refl H) rfl⟩
theorem ok_int {K : PySem.W.Frag} : OkA K (fun xs H Q => (∃ i, xs = [.int i] ∧ Q (.int i) H) ∨ ∃ k, xs = [.bl k] ∧ Q (.int (if k then 1 else 0)) H) fInt := by
  intro P H xs ds z Q hP r ez q
  unfold fInt at ez
  split at ez <;> first | (cases ez; done) | skip
  · cases ez
    obtain ⟨v, rfl, r1⟩ := reps1 r
    cases r1
    exact .inl ⟨_, rfl, q _ H (Same.refl H) rfl⟩
  · cases ez
    obtain ⟨v, rfl, r1⟩ := reps1 r
    cases r1
    exact .inr ⟨_, rfl, q _ H (Same.refl H) rfl⟩
theorem ok_bool {K : PySem.W.Frag} : OkA K (fun xs H Q => (∃ i, xs = [.int i] ∧ Q (.bl (i != 0)) H) ∨ ∃ k, xs = [.bl k] ∧ Q (.bl k) H) fBool := by
  intro P H xs ds z Q hP r ez q
  unfold fBool at ez
  split at ez <;> first | (cases ez; done) | skip
  · cases ez
    obtain ⟨v, rfl, r1⟩ := reps1 r
    cases r1
    exact .inl ⟨_, rfl, q _ H (Same.refl H) rfl⟩
  · cases ez
    obtain ⟨v, rfl, r1⟩ := reps1 r
    cases r1
    exact .inr ⟨_, rfl, q _ H (Same.refl H) rfl⟩
theorem ofString_cps (s : String) : PySem.Str.ofString s = ⟨(s.toList.map Char.toNat).toArray⟩ := PySem.Str.ofString_eq_toList s
theorem char_lt (c : Char) : c.toNat < 1114112 := by
  have := c.valid
  unfold Char.toNat
  rcases this with h | ⟨_, h⟩
  · have : c.val.toNat < 55296 := h
    omega
  · exact h
theorem ok_str {K : PySem.W.Frag} : OkA K (fun xs H Q => ∃ i, xs = [.int i] ∧ i.natAbs.log2 < 1920 ∧ Q (.str (toString i)) H) fStr := by
  intro P H xs ds z Q hP r ez q
  unfold fStr at ez
  split at ez <;> first | (cases ez; done) | skip
  split at ez <;> first | (cases ez; done) | skip
  rename_i hh
  cases ez
  obtain ⟨v, rfl, r1⟩ := reps1 r
  cases r1
  refine ⟨_, rfl, hh.1, q _ H (Same.refl H) ⟨?_, hh.2, ?_⟩⟩
  · rw [ofString_cps]
    rfl
  · rw [List.all_eq_true]
    intro c hc
    obtain ⟨ch, _, rfl⟩ := List.mem_map.mp hc
    exact decide_eq_true (char_lt ch)
theorem ok_tuple {K : PySem.W.Frag} : OkA K (fun xs H Q => ∃ p ys, xs = [.ref p] ∧ ((SqL K H p ys ∧ ∀ l, H l = none → Q (.ref l) (upd H l (.tup ys))) ∨ (SqT K H p ys ∧ Q (.ref p) H))) fTuple := by
  intro P H xs ds z Q hP r ez q
  unfold fTuple at ez
  split at ez <;> first | (cases ez; done) | skip
  · cases ez
    obtain ⟨v, rfl, p, vs, rfl, h1, h2⟩ := reps1 r
    exact ⟨p, vs, rfl, .inl ⟨(Same.sl (hid_same P H) h1), fun l hl => q _ _ (same_new hl) (tup_new hP hl h2)⟩⟩
  · cases ez
    obtain ⟨v, rfl, p, vs, rfl, h1, h2⟩ := reps1 r
    exact ⟨p, vs, rfl, .inr ⟨Same.seqT (hid_same P H) h1, q _ H (Same.refl H) ⟨p, vs, rfl, h1, h2⟩⟩⟩
theorem ok_list {K : PySem.W.Frag} : OkAL K (fun xs H Q => ∃ p ys, xs = [.ref p] ∧ (SqL K H p ys ∨ SqT K H p ys) ∧ ∀ l, H l = none → Q (.ref l) (upd H l (.lst ys))) fList := by
  intro P H xs ds z Q hP r ez q
  unfold fList at ez
  split at ez <;> first | (cases ez; done) | skip
  · cases ez
    obtain ⟨v, rfl, p, vs, rfl, h1, h2⟩ := reps1 r
    exact ⟨p, vs, rfl, .inl ((Same.sl (hid_same P H) h1)), fun l hl => q l _ _ (same_new hl) hl upd_same (reps_new hl h2)⟩
  · cases ez
    obtain ⟨v, rfl, p, vs, rfl, h1, h2⟩ := reps1 r
    exact ⟨p, vs, rfl, .inr (Same.seqT (hid_same P H) h1), fun l hl => q l _ _ (same_new hl) hl upd_same (reps_new hl h2)⟩
theorem ok_sum {K : PySem.W.Frag} : OkA K (rSum K) fSum := by
  intro P H xs ds z Q hP r ez q
  unfold fSum at ez
  split at ez <;> first | (cases ez; done) | skip
  rename_i xs
  cases e : ints? xs with
  | none => rw [e] at ez; cases ez
  | some ns =>
    rw [e] at ez
    cases ez
    obtain ⟨v, rfl, p, vs, rfl, h1, h2⟩ := reps1 r
    rw [h2.isInts ns (ints_eq e)] at h1
    exact ⟨p, ns, rfl, (Same.sl (hid_same P H) h1), q _ H (Same.refl H) rfl⟩
theorem ok_all {K : PySem.W.Frag} : OkA K (rAll K) fAll := by
  intro P H xs ds z Q hP r ez q
  unfold fAll at ez
  split at ez <;> first | (cases ez; done) | skip
  rename_i xs
  cases e : bls? xs with
  | none => rw [e] at ez; cases ez
  | some ns =>
    rw [e] at ez
    cases ez
    obtain ⟨v, rfl, p, vs, rfl, h1, h2⟩ := reps1 r
    rw [bls_eq e] at h2
    rw [reps_bls h2] at h1
    exact ⟨p, ns, rfl, (Same.sl (hid_same P H) h1), q _ H (Same.refl H) rfl⟩
theorem ok_any {K : PySem.W.Frag} : OkA K (rAny K) fAny := by
  intro P H xs ds z Q hP r ez q
  unfold fAny at ez
  split at ez <;> first | (cases ez; done) | skip
  rename_i xs
  cases e : bls? xs with
  | none => rw [e] at ez; cases ez
  | some ns =>
    rw [e] at ez
    cases ez
    obtain ⟨v, rfl, p, vs, rfl, h1, h2⟩ := reps1 r
    rw [bls_eq e] at h2
    rw [reps_bls h2] at h1
    exact ⟨p, ns, rfl, (Same.sl (hid_same P H) h1), q _ H (Same.refl H) rfl⟩
theorem ok_gcd {K : PySem.W.Frag} : OkA K rGcd fGcd := by
  intro P H xs ds z Q hP r ez q
  unfold fGcd at ez
  split at ez <;> first | (cases ez; done) | skip
  cases ez
  obtain ⟨v, u, rfl, r1, r2⟩ := reps2 r
  cases r1
  cases r2
  exact ⟨_, _, rfl, q _ H (Same.refl H) rfl⟩
/-- min, max: of a list of ints, or of two ints -/
def rMin3 (K : PySem.W.Frag) : List V → Hp → VK → Prop := fun xs H Q => rMin K xs H Q ∨ (∃ i j, xs = [.int i, .int j] ∧ Q (.int (if j < i then j else i)) H)
def rMax3 (K : PySem.W.Frag) : List V → Hp → VK → Prop := fun xs H Q => rMax K xs H Q ∨ (∃ i j, xs = [.int i, .int j] ∧ Q (.int (if j > i then j else i)) H)
theorem ok_min {K : PySem.W.Frag} : OkA K (rMin3 K) fMin := by
  intro P H xs ds z Q hP r ez q
  unfold fMin at ez
  split at ez <;> first | (cases ez; done) | skip
  · rename_i xs
    cases e : ints? xs with
    | none => rw [e] at ez; cases ez
    | some ns =>
      rw [e] at ez
      have ez : ns.min?.map D.int = some z := ez
      cases em : ns.min? with
      | none => rw [em] at ez; cases ez
      | some m =>
        rw [em] at ez
        cases ez
        obtain ⟨v, rfl, p, vs, rfl, h1, h2⟩ := reps1 r
        rw [h2.isInts ns (ints_eq e)] at h1
        have hm := List.min?_eq_some_iff.mp em
        refine .inl ⟨p, ns, rfl, (Same.sl (hid_same P H) h1), ?_, fun m' h3 h4 => ?_⟩
        · cases ns with
          | nil => cases em
          | cons a l => exact Nat.succ_pos _
        · have : m' = m := Int.le_antisymm (h4 m hm.1) (hm.2 m' h3)
          subst this
          exact q _ H (Same.refl H) rfl
  · cases ez
    obtain ⟨v, u, rfl, r1, r2⟩ := reps2 r
    cases r1
    cases r2
    exact .inr ⟨_, _, rfl, q _ H (Same.refl H) rfl⟩
theorem ok_max {K : PySem.W.Frag} : OkA K (rMax3 K) fMax := by
  intro P H xs ds z Q hP r ez q
  unfold fMax at ez
  split at ez <;> first | (cases ez; done) | skip
  · rename_i xs
    cases e : ints? xs with
    | none => rw [e] at ez; cases ez
    | some ns =>
      rw [e] at ez
      have ez : ns.max?.map D.int = some z := ez
      cases em : ns.max? with
      | none => rw [em] at ez; cases ez
      | some m =>
        rw [em] at ez
        cases ez
        obtain ⟨v, rfl, p, vs, rfl, h1, h2⟩ := reps1 r
        rw [h2.isInts ns (ints_eq e)] at h1
        have hm := List.max?_eq_some_iff.mp em
        refine .inl ⟨p, ns, rfl, (Same.sl (hid_same P H) h1), ?_, fun m' h3 h4 => ?_⟩
        · cases ns with
          | nil => cases em
          | cons a l => exact Nat.succ_pos _
        · have : m' = m := Int.le_antisymm (hm.2 m' h3) (h4 m hm.1)
          subst this
          exact q _ H (Same.refl H) rfl
  · cases ez
    obtain ⟨v, u, rfl, r1, r2⟩ := reps2 r
    cases r1
    cases r2
    exact .inr ⟨_, _, rfl, q _ H (Same.refl H) rfl⟩
/-- type(x) -/
def TyT (K : PySem.W.Frag) (H : Hp) : V → String → Prop
  | .non, n => n = "NoneType"
  | .bl _, n => n = "bool"
  | .int _, n => n = "int"
  | .str _, n => n = "str"
  | .ref a, n => (n = "list" ∧ ∃ xs, SqL K H a xs) ∨ (n = "tuple" ∧ ∃ xs, TpL K H a xs)
  | _, _ => False
def rType (K : PySem.W.Frag) : List V → Hp → VK → Prop := fun xs H Q => ∃ x n, xs = [x] ∧ TyT K H x n ∧ Q (.ty n) H
theorem cr_typeD {X : Cx} : CallR X (.type "type") (rType X.K) := by
  intro pins s σ H xs us Q I r h
  obtain ⟨x, n, rfl, t, q⟩ := h
  obtain ⟨u, rfl, rx⟩ := vals1 r
  have key : s.TypeIs u n ∧ (Value.type n == Value.type "builtin_function_or_method") = false := by
    cases x with
    | non => cases rx; cases t; exact ⟨rfl, by decide +kernel⟩
    | bl b => cases rx; cases t; exact ⟨rfl, by decide +kernel⟩
    | int i => obtain ⟨k, rfl⟩ := rx; cases t; exact ⟨rfl, by decide +kernel⟩
    | str z => obtain ⟨k, rfl⟩ := rx; cases t; exact ⟨rfl, by decide +kernel⟩
    | byt _ => exact t.elim
    | flt _ => exact t.elim
    | ty _ => exact t.elim
    | ref a =>
      cases rx
      rcases t with ⟨rfl, ys, t⟩ | ⟨rfl, ys, t⟩
      · obtain ⟨its, rv, p, _⟩ := I.list t
        exact ⟨p.isList.typeIs, by decide +kernel⟩
      · obtain ⟨its, rv, p, _⟩ := I.tuple (Same.seqT (Same.refl H) t)
        exact ⟨p.typeIs, by decide +kernel⟩
  exact call_type_of key.1 key.2 ⟨.ty n, H, I, rfl, q⟩
theorem ok_type {K : PySem.W.Frag} : OkA K (rType K) fType := by
  intro P H xs ds z Q hP r ez q
  unfold fType at ez
  split at ez <;> first | (cases ez; done) | skip
  rename_i d
  cases en : tyName d with
  | none => rw [en] at ez; cases ez
  | some n =>
    rw [en] at ez
    cases ez
    obtain ⟨v, rfl, r1⟩ := reps1 r
    refine ⟨v, n, rfl, ?_, q _ H (Same.refl H) rfl⟩
    cases d with
    | non => cases r1; cases en; exact rfl
    | bl b => cases r1; cases en; exact rfl
    | int i => cases r1; cases en; exact rfl
    | str s => obtain ⟨rfl, _⟩ := r1; cases en; exact rfl
    | ty t => cases en
    | tup xs =>
      obtain ⟨a, vs, rfl, h1, h2⟩ := r1
      cases en
      exact .inr ⟨rfl, vs, Same.tp (hid_same P H) h1⟩
    | lst xs =>
      obtain ⟨a, vs, rfl, h1, h2⟩ := r1
      cases en
      exact .inl ⟨rfl, vs, Same.sl (hid_same P H) h1⟩
/-! ### in -/
theorem toPys_any {ds : List D} : toPys ds = ds.map toPy := by
  induction ds with
  | nil => rfl
  | cons d ds ih => simp [toPys, ih]
def rIn3 (K : PySem.W.Frag) : R2 := fun x y H Q => rInD K x y H Q ∨ ((∃ d ds, Dp K H x d ∧ Dp K H y (.tuple ds) ∧ SeqAt.shaped d = true ∧ SeqAt.shaped (.tuple ds) = true ∧ Q (.bl (ds.any fun z => PyData.eqv z d)) H) ∨ (∃ (c : Nat) (z : Str), x = .str ⟨#[c]⟩ ∧ y = .str z ∧ Q (.bl (decide (c ∈ z.cps.toList))) H))
def rNotIn3 (K : PySem.W.Frag) : R2 := fun x y H Q => rNotInD K x y H Q ∨ ((∃ d ds, Dp K H x d ∧ Dp K H y (.tuple ds) ∧ SeqAt.shaped d = true ∧ SeqAt.shaped (.tuple ds) = true ∧ Q (.bl (!ds.any fun z => PyData.eqv z d)) H) ∨ (∃ (c : Nat) (z : Str), x = .str ⟨#[c]⟩ ∧ y = .str z ∧ Q (.bl (!decide (c ∈ z.cps.toList))) H))
section
variable {X : Cx} {W : WX}
theorem op_inT (hu : X.A.units + 65 < cLine) : OpR X (compareOp .In) (fun x y H Q => ∃ d ds, Dp X.K H x d ∧ Dp X.K H y (.tuple ds) ∧ SeqAt.shaped d = true ∧ SeqAt.shaped (.tuple ds) = true ∧ Q (.bl (ds.any fun z => PyData.eqv z d)) H) := by
  intro pins s σ H x y v u Q I rx ry h
  obtain ⟨d, ds, hd, he, sd, se, q⟩ := h
  obtain ⟨as, r1⟩ := Dp.reads I d x v hd rx
  obtain ⟨bs, r2⟩ := Dp.reads I (.tuple ds) y u he ry
  exact SeqAt.in_tuple_reads r2 r1 (SeqAt.canLay_of_shaped se) (SeqAt.canLay_of_shaped sd) (room_in_shaped sd hu) ⟨.bl _, H, I, rfl, q⟩
theorem op_notInT (hu : X.A.units + 65 < cLine) : OpR X (compareOp .NotIn) (fun x y H Q => ∃ d ds, Dp X.K H x d ∧ Dp X.K H y (.tuple ds) ∧ SeqAt.shaped d = true ∧ SeqAt.shaped (.tuple ds) = true ∧ Q (.bl (!ds.any fun z => PyData.eqv z d)) H) := by
  intro pins s σ H x y v u Q I rx ry h
  obtain ⟨d, ds, hd, he, sd, se, q⟩ := h
  obtain ⟨as, r1⟩ := Dp.reads I d x v hd rx
  obtain ⟨bs, r2⟩ := Dp.reads I (.tuple ds) y u he ry
  exact SeqAt.notIn_tuple_reads r2 r1 (SeqAt.canLay_of_shaped se) (SeqAt.canLay_of_shaped sd) (room_in_shaped sd hu) ⟨.bl _, H, I, rfl, q⟩
theorem op_in3 (hu : X.A.units + 65 < cLine) : OpR X (compareOp .In) (rIn3 X.K) := OpR.or (op_inD hu) (OpR.or (op_inT hu) op_in_sign)
theorem op_notIn3 (hu : X.A.units + 65 < cLine) : OpR X (compareOp .NotIn) (rNotIn3 X.K) := OpR.or (op_notInD hu) (OpR.or (op_notInT hu) op_notIn_sign)
def cNotIn (d e : D) : Option Bool := (cIn d e).map not
theorem ok_in {K : PySem.W.Frag} : Ok2B K (rIn3 K) cIn := by
  intro P H x y d e z Q hP rx ry ez q
  unfold cIn at ez
  split at ez
  · split at ez <;> first | (cases ez; done) | skip
    rename_i hh
    rw [Bool.and_eq_true] at hh
    cases ez
    obtain ⟨a1, a2, _⟩ := dpo rx hh.1
    obtain ⟨b1, b2, _⟩ := dpo ry hh.2
    exact .inl ⟨_, _, a1, b1, a2, b2, q H (Same.refl H)⟩
  · split at ez <;> first | (cases ez; done) | skip
    rename_i hh
    rw [Bool.and_eq_true] at hh
    cases ez
    obtain ⟨a1, a2, _⟩ := dpo rx hh.1
    obtain ⟨b1, b2, _⟩ := dpo ry hh.2
    exact .inr (.inl ⟨_, _, a1, b1, a2, b2, q H (Same.refl H)⟩)
  · cases ez
    obtain ⟨rfl, _⟩ := rx
    obtain ⟨rfl, _⟩ := ry
    rename_i c s
    exact .inr (.inr ⟨_, _, rfl, rfl, by simpa using q H (Same.refl H)⟩)
  · cases ez
theorem ok_notIn {K : PySem.W.Frag} : Ok2B K (rNotIn3 K) cNotIn := by
  intro P H x y d e z Q hP rx ry ez q
  unfold cNotIn cIn at ez
  split at ez
  · split at ez <;> first | (cases ez; done) | skip
    rename_i hh
    rw [Bool.and_eq_true] at hh
    cases ez
    obtain ⟨a1, a2, _⟩ := dpo rx hh.1
    obtain ⟨b1, b2, _⟩ := dpo ry hh.2
    exact .inl ⟨_, _, a1, b1, a2, b2, q H (Same.refl H)⟩
  · split at ez <;> first | (cases ez; done) | skip
    rename_i hh
    rw [Bool.and_eq_true] at hh
    cases ez
    obtain ⟨a1, a2, _⟩ := dpo rx hh.1
    obtain ⟨b1, b2, _⟩ := dpo ry hh.2
    exact .inr (.inl ⟨_, _, a1, b1, a2, b2, q H (Same.refl H)⟩)
  · cases ez
    obtain ⟨rfl, _⟩ := rx
    obtain ⟨rfl, _⟩ := ry
    rename_i c s
    exact .inr (.inr ⟨_, _, rfl, rfl, by simpa using q H (Same.refl H)⟩)
  · cases ez
theorem op_min3 (hc : X.calm = true) : CallR X (.builtin "min") (rMin3 X.K) := L2.CallR.or (cr_min hc) (call_min2 hc)
theorem op_max3 (hc : X.calm = true) : CallR X (.builtin "max") (rMax3 X.K) := L2.CallR.or (cr_max hc) (call_max2 hc)
end
end AF

namespace AF
open PySem PySem.Spec PyProof.Rows L2 RT
open Sem (wp)
section
variable {prog : Program} {w : World} {A : Around} {E : Value → Shared → Prop} {s : Shared}
theorem extend_rev {R : Result → Shared → Prop} {it l : Addr} {items : Array Value} (hh : A.handled = none) (hit : s.heap.IsRevIter it l ((items.size : Int) - 1)) (hl : s.heap.IsList l items) (hne : l ≠ it) (hn : items.size ≤ sizeLine)
    (S : Addr) (hSi : S ≠ it) (hSl : S ≠ l) (res : Value) (c₀ : Nat) (hS : s.heap.get? S = some { cls := .type "list", data := .seq #[] c₀ })
    (hR : ∀ h' tk acc' c', (∀ b o, b ≠ S → b ≠ it → s.heap.get? b = some o → h'.get? b = some o) → h'.get? S = some { cls := .type "list", dict := none, data := .seq acc' c', slots := #[] } →
      ItemsOf (fun i v => items[items.size - 1 - i]? = some v) acc' items.size → R (.ok (.ret res)) { s with heap := h', toks := tk }) :
    wpAny (model prog w) A.in1 (Builtin.List.listExtendWith (.ref S) (.ref it) res)
      (fun fin s' => match fin with | .done f => R (.ok f) s' | .again c' => c'.quiet = true ∧ codeAny (model prog w) A c' R s') (fun e s' => R (.error e) s') s := by
  have W := (Walks.listRev (prog := prog) (w := w) (A := A.in1) hh it l hne items).toS
  have hSf : S ∉ [it, l] := by simp only [List.mem_cons, List.not_mem_nil, or_false, not_or]; exact ⟨hSi, hSl⟩
  have hT : s.TypeIs (.ref it) "list_reverseiterator" := hit.typeIs
  have h1 : Builtin.List.listSameRef (.ref S) (.ref it) = false := by simp [Builtin.List.listSameRef, hSi]
  unfold Builtin.List.listExtendWith
  refine wpAny_bind (wpAny_typeOf hT ?_)
  rw [if_neg (by rw [h1]; decide)]
  refine wpAny_bind (wpAny_pyIter_revIter hit ?_)
  refine wpAny_bind (wpAny_holding ?_)
  unfold Builtin.List.listLengthHint
  refine wpAny_bind (wpAny_specialOf hT nolen_lri ?_)
  show wpAny _ A.in1 (specialOf (Value.ref it) (Str.ofString "__length_hint__") >>= _) _ _ _
  refine wpAny_bind (wpAny_specialOf hT hint_lri ?_)
  generalize hid : ("list_reverseiterator.__length_hint__" : String) = id0
  wp_delta
  rw [show splitId id0 = some ("list_reverseiterator", "__length_hint__") from by subst hid; decide +kernel]
  subst hid
  refine wpAny_bind (wpAny_isInstance (b := true) hT (by rw [isSubtype_type]; kernel_rfl) ?_)
  refine wpAny_pure ?_
  rw [if_neg (by decide)]
  have e0 : ((items.size : Nat) : Int) - 1 - ((0 : Nat) : Int) = (items.size : Int) - 1 := by omega
  refine wpAny_pure ⟨plainId_quiet PySem.F.plain_extend_loop _, codeAny_extend_loopS W hn S hSf res items.size 0 _ #[] c₀ rfl (Nat.zero_le _) ⟨Nat.zero_le _, by rw [e0]; exact hit, hl⟩ hS (ItemsOf.nil _) fun s' acc' c' hm hS' hacc => ?_⟩
  rw [Moved.eq_with hm]
  refine hR s'.heap s'.toks acc' c' (fun b o hb hb2 e => hm.heap b o (fun hmem => ?_) e) hS' hacc
  rcases List.mem_cons.mp hmem with e' | hmem
  · exact hb e'
  · exact hb2 (List.mem_singleton.mp hmem)
theorem init_rev {R : Result → Shared → Prop} {it l : Addr} {items : Array Value} (hh : A.handled = none) (hit : s.heap.IsRevIter it l ((items.size : Int) - 1)) (hl : s.heap.IsList l items) (hne : l ≠ it) (hn : items.size ≤ sizeLine)
    (S : Addr) (hSi : S ≠ it) (hSl : S ≠ l) (hS : s.heap.get? S = some { cls := .type "list", data := .seq #[] })
    (hR : ∀ h' tk acc' c', (∀ b o, b ≠ S → b ≠ it → s.heap.get? b = some o → h'.get? b = some o) → h'.get? S = some { cls := .type "list", dict := none, data := .seq acc' c', slots := #[] } →
      ItemsOf (fun i v => items[items.size - 1 - i]? = some v) acc' items.size → R (.ok (.ret .none)) { s with heap := h', toks := tk }) :
    wpAny (model prog w) A.in1 (Builtin.«list.__init__» ⟨[.ref S, .ref it], []⟩)
      (fun fin s' => match fin with | .done f => R (.ok f) s' | .again c' => c'.quiet = true ∧ codeAny (model prog w) A c' R s') (fun e s' => R (.error e) s') s := by
  show wpAny _ _ (do let old ← Builtin.List.listItems (.ref S); Builtin.List.listUpdate (.ref S) (fun _ => #[]); letGo old.toList.reverse; Builtin.List.listExtendWith (.ref S) (.ref it) .none) _ _ s
  refine wpAny_bind ?_
  unfold Builtin.List.listItems
  refine wpAny_bind (wpAny_seqItems hS rfl (wpAny_pure ?_))
  show wpAny _ _ (updateSeq S (fun _ => #[]) >>= fun _ => letGo (#[] : Array Value).toList.reverse >>= fun _ => Builtin.List.listExtendWith (.ref S) (.ref it) .none) _ _ s
  refine wpAny_bind (wpAny_updateSeq hS rfl ?_)
  have hS₂ := Heap.get?_update_self (Obj.mapSeq (fun _ => (#[] : Array Value))) hS rfl
  have oth : ∀ b o, b ≠ S → s.heap.get? b = some o → (s.heap.update S (Obj.mapSeq (fun _ => (#[] : Array Value)))).get? b = some o :=
    fun b o hb e => (Heap.get?_update_other _ _ (Ne.symm hb)).trans e
  refine wpAny_bind (wpAny_letGo ?_)
  refine extend_rev hh (hit.at fun o e => oth it o (Ne.symm hSi) e) (hl.at fun o e => oth l o (Ne.symm hSl) e) hne hn S hSi hSl .none _ hS₂ fun h' tk acc' c' hk hS' hacc => ?_
  exact hR h' tk acc' c' (fun b o hb hb2 e => hk b o hb hb2 (oth b o hb e)) hS' hacc
theorem call_list_rev {Q : Value → Shared → Prop} {it l : Addr} {items : Array Value} (hh : A.handled = none) (hit : s.heap.IsRevIter it l ((items.size : Int) - 1)) (hl : s.heap.IsList l items) (hne : l ≠ it) (hn : items.size ≤ sizeLine)
    (hQ : ∀ h' tk acc' c', (∀ b o, b ≠ it → s.heap.get? b = some o → h'.get? b = some o) → h'.get? s.heap.objs.size = some { cls := .type "list", dict := none, data := .seq acc' c', slots := #[] } →
      ItemsOf (fun i v => items[items.size - 1 - i]? = some v) acc' items.size → Q (.ref s.heap.objs.size) { s with heap := h', toks := tk }) :
    wpAny (model prog w) A (call (.type "list") [.ref it]) Q E s := by
  refine callType_codes (Q₁ := fun obj s₁ => obj = .ref s.heap.objs.size ∧ s₁ = { s with heap := s.heap.push { cls := .type "list", data := .seq #[] } }) PySem.F.called_list (PySem.F.typeCall_list_1 _) PySem.F.entry_list_init
    (code_list_new _ ⟨rfl, rfl⟩) fun obj s₁ h₁ => ?_
  obtain ⟨rfl, rfl⟩ := h₁
  have hS : (s.heap.push { cls := .type "list", data := .seq #[] }).get? s.heap.objs.size = some { cls := .type "list", data := .seq #[] } := Heap.get?_push_size _ rfl
  obtain ⟨oi, hoi, _⟩ := id hit
  obtain ⟨ol, hol, _⟩ := id hl
  refine ⟨⟨_, hS, rfl⟩, PySem.F.args_list_init_2 _ _, init_rev (A := A.in1) hh (hit.at fun o e => Heap.get?_push_of_some _ e) (hl.push _) hne hn _ (Nat.ne_of_gt (Heap.lt_size hoi)) (Nat.ne_of_gt (Heap.lt_size hol)) hS fun h' tk acc' c' hk hS' hacc => ?_⟩
  exact ⟨rfl, hQ h' tk acc' c' (fun b o hb e => hk b o (Nat.ne_of_lt (Heap.lt_size e)) hb (Heap.get?_push_of_some _ e)) hS' hacc⟩
end
/-- list(reversed(x)), x a list: a new list -/
def tLstRev (K : PySem.W.Frag) (te : TE) : TE := fun σ H Q => te σ H fun v H1 => ∃ (a : Addr) (xs : List V), v = .ref a ∧ SqL K H1 a xs ∧ ∀ q, H1 q = none → Q (.ref q) (upd H1 q (.lst xs.reverse))
section
variable {X : Cx}
theorem pe_lstRev {e : Expr} {te : TE} {p p2 pos pos2 : Pos} (hc : X.calm = true) (hg : Gl X "list") (hm : X.mg "list" = none) (hg2 : Gl X "reversed") (hm2 : X.mg "reversed" = none) (he : PE X e te)
    (hs : starEach [e] X.env = (false, eval e X.env) :: starEach [] X.env := by rfl)
    (hs2 : starEach [.Call (.Name "reversed" p2) [e] [] pos2] X.env = (false, eval (.Call (.Name "reversed" p2) [e] [] pos2) X.env) :: starEach [] X.env := by rfl) :
    PE X (.Call (.Name "list" p) [.Call (.Name "reversed" p2) [e] [] pos2] [] pos) (tLstRev X.K te) := by
  refine ⟨fun pins s σ H Q I h => ?_⟩
  refine Call_ (ld_blt I hg hm boot_list (PyProof.Rows.callWith_type1 (args_cons (Call_ (ld_blt I hg2 hm2 PyProof.Rows.boot_reversed (PyProof.Rows.callWith_type1 (args_cons (thn (he.run pins s σ H _ I h) fun u s1 ⟨v, H1, I1, r1, q1⟩ => args_nil ?_) hs) hs rfl))) hs2) hs2 rfl))
  obtain ⟨a, xs, ev, hq, q⟩ := q1
  subst ev
  obtain rfl : u = Value.ref a := r1
  obtain ⟨its, rv, p', hz⟩ := I1.list hq
  refine call_reversed_list p'.isList (args_nil ?_)
  have k0 : ∀ b o, s1.heap.get? b = some o → (s1.heap.push (revObj a ((its.toArray.size : Int) - 1))).get? b = some o := fun b o e => Heap.get?_push_of_some _ e
  have I2 : Inv X pins σ H1 { s1 with heap := s1.heap.push (revObj a ((its.toArray.size : Int) - 1)) } := I1.kept (t' := s1.toks) k0
  obtain ⟨f0, f1, f2, f3, f4, f5⟩ := I1.fpOk (H' := H1) (b := s1.heap.objs.size) (Nat.le_refl _) (I1.hok.fresh (Nat.le_refl _))
  have hl := p'.isList
  obtain ⟨ol, hol, _⟩ := id hl
  have hne : a ≠ s1.heap.objs.size := Nat.ne_of_lt (Heap.lt_size hol)
  have hn : its.toArray.size ≤ sizeLine := by rw [List.size_toArray, ← rv.length]; exact hz
  refine call_list_rev (s := { s1 with heap := s1.heap.push (revObj a ((its.toArray.size : Int) - 1)) }) (I1.ok.hd hc) ⟨_, Heap.get?_push_size _ rfl, rfl, rfl⟩ (hl.push _) hne hn fun h' tk acc c' hk hS hi => ?_
  have hsz : (s1.heap.push (revObj a ((its.toArray.size : Int) - 1))).objs.size = s1.heap.objs.size + 1 := Heap.size_push _ _
  have k1 : ∀ b o, s1.heap.get? b = some o → h'.get? b = some o := fun b o e => hk b o (Nat.ne_of_lt (Heap.lt_size e)) (k0 b o e)
  have hge : s1.heap.objs.size ≤ (s1.heap.push (revObj a ((its.toArray.size : Int) - 1))).objs.size := by rw [hsz]; exact Nat.le_succ _
  refine ⟨.ref _, upd H1 _ (.lst xs.reverse), I1.laid (t' := tk) k1 hge (show ObjOk X.prog X.w _ h' _ (.lst xs.reverse) from ⟨by rw [List.length_reverse]; exact hz, acc.toList, c', vals_rev rv hi, ?_⟩), rfl, q _ (I1.hok.fresh hge)⟩
  rw [Array.toArray_toList]
  exact hS
def revL : D → Option (List D)
  | .lst xs => some xs.reverse
  | _ => none
def l1 (f : D → Option (List D)) (a : GE) : GL := fun env => (a env).bind fun x => Res.of (f x)
theorem fl_listRev {W : WX} {e : Expr} {g : GE} {p p2 pos pos2 : Pos} (hc : X.calm = true) (hm : X.mg "list" = none) (hm2 : X.mg "reversed" = none) (he : FE X W e g) (hg : Gl X "list" := by rfl) (hg2 : Gl X "reversed" := by rfl)
    (hs : starEach [e] X.env = (false, eval e X.env) :: starEach [] X.env := by rfl)
    (hs2 : starEach [.Call (.Name "reversed" p2) [e] [] pos2] X.env = (false, eval (.Call (.Name "reversed" p2) [e] [] pos2) X.env) :: starEach [] X.env := by rfl) :
    FL X W (.Call (.Name "list" p) [.Call (.Name "reversed" p2) [e] [] pos2] [] pos) (l1 revL g) := by
  refine PE.imp (pe_lstRev hc hg hm hg2 hm2 he hs hs2) fun σ H Q h => ?_
  obtain ⟨Γ, os, env, A, h⟩ := h
  refine ⟨Γ, os, env, A, WR.bind anti_L h fun d H1 _ s1 h1 v rv => ?_⟩
  obtain ⟨zs, ez, h2⟩ := WR.of h1
  cases d <;> first | (cases ez; done) | skip
  cases ez
  obtain ⟨a, vs, rfl, q1, q2⟩ := rv
  exact ⟨a, vs, rfl, (Same.sl (hid_same _ H1) q1), fun p hp => h2 _ (same_new hp) _ _ hp upd_same (reps_new hp q2.reverse)⟩
end
end AF

namespace AF
open PySem PySem.Spec PyProof.Rows L2
theorem bt_len : bootBuiltins "len" = some (.builtin "len") := by decide +kernel
theorem bt_abs : bootBuiltins "abs" = some (.builtin "abs") := by decide +kernel
theorem bt_isi : bootBuiltins "isinstance" = some (.builtin "isinstance") := by decide +kernel
theorem bt_sum : bootBuiltins "sum" = some (.builtin "sum") := by decide +kernel
theorem bt_min : bootBuiltins "min" = some (.builtin "min") := by decide +kernel
theorem bt_max : bootBuiltins "max" = some (.builtin "max") := by decide +kernel
theorem bt_all : bootBuiltins "all" = some (.builtin "all") := by decide +kernel
theorem bt_any : bootBuiltins "any" = some (.builtin "any") := by decide +kernel
theorem bt_int : bootBuiltins "int" = some (.type "int") := by decide +kernel
theorem bt_bool : bootBuiltins "bool" = some (.type "bool") := by decide +kernel
theorem bt_str : bootBuiltins "str" = some (.type "str") := by decide +kernel
theorem bt_list : bootBuiltins "list" = some (.type "list") := by decide +kernel
theorem bt_tuple : bootBuiltins "tuple" = some (.type "tuple") := by decide +kernel
theorem bt_dict : bootBuiltins "dict" = some (.type "dict") := by decide +kernel
theorem bt_type : bootBuiltins "type" = some (.type "type") := by decide +kernel
section
variable {X : Cx} {W : WX} {a b c e : Expr} {es : List Expr} {ga gb gc : GE} {g : GL} {pos p p2 pos2 : Pos}
/-- a built-in type as a value -/
theorem fe_ty {n : String} (hm : X.mg (Str.ofString n) = none) (hv : bootBuiltins (Str.ofString n) = some (.type n)) (hg : Gl X (Str.ofString n) := by rfl) (hn : Str.ofString n ≠ "__name__" := by decide) (hd : (Str.ofString n == ("__debug__" : Str)) = false := by decide) : FE X W (.Name (Str.ofString n) pos) (eC (.ty n)) :=
  fe_c (pe_bltn (v := .ty n) hg hm hv rfl hn hd) fun _ => rfl
/-- a module's constant -/
theorem fe_glob {x : Str} {d : D} {v : V} (h : ∃ u, X.mg x = some u ∧ RelV v u) (hr : ∀ H, Rep X.K H d v) (hg : Gl X x := by rfl) (hd : (x == ("__debug__" : Str)) = false := by decide) : FE X W (.Name x pos) (eC d) := by
  obtain ⟨u, hm, r⟩ := h
  exact fe_c (pe_glob hg hm r hd) hr
theorem fe_len (hm : X.mg "len" = none) (ha : FA X W [a] g) (hg : Gl X "len" := by rfl) (he : starEach [a] X.env = (false, eval a X.env) :: starEach [] X.env := by rfl) : FE X W (.Call (.Name "len" p) [a] [] pos) (eF fLen g) :=
  fe_callB call_len ok_len hm hg bt_len ha (by decide) (by decide) he rfl
theorem fe_abs (hm : X.mg "abs" = none) (ha : FA X W [a] g) (hg : Gl X "abs" := by rfl) (he : starEach [a] X.env = (false, eval a X.env) :: starEach [] X.env := by rfl) : FE X W (.Call (.Name "abs" p) [a] [] pos) (eF fAbs g) :=
  fe_callB call_abs ok_abs hm hg bt_abs ha (by decide) (by decide) he rfl
theorem fe_isi (hm : X.mg "isinstance" = none) (ha : FA X W [a, b] g) (hg : Gl X "isinstance" := by rfl) (he : starEach [a, b] X.env = (false, eval a X.env) :: starEach [b] X.env := by rfl) (hpl : (backTo pos (starEach [b] X.env)).any (·.1) = false := by rfl) : FE X W (.Call (.Name "isinstance" p) [a, b] [] pos) (eF fIsi g) :=
  fe_callB op_isi ok_isi hm hg bt_isi ha (by decide) (by decide) he hpl
theorem fe_sum (hm : X.mg "sum" = none) (hc : X.calm = true) (ha : FA X W [a] g) (hg : Gl X "sum" := by rfl) (he : starEach [a] X.env = (false, eval a X.env) :: starEach [] X.env := by rfl) : FE X W (.Call (.Name "sum" p) [a] [] pos) (eF fSum g) :=
  fe_callB (cr_sum hc) ok_sum hm hg bt_sum ha (by decide) (by decide) he rfl
theorem fe_all (hm : X.mg "all" = none) (hc : X.calm = true) (ha : FA X W [a] g) (hg : Gl X "all" := by rfl) (he : starEach [a] X.env = (false, eval a X.env) :: starEach [] X.env := by rfl) : FE X W (.Call (.Name "all" p) [a] [] pos) (eF fAll g) :=
  fe_callB (cr_all hc) ok_all hm hg bt_all ha (by decide) (by decide) he rfl
theorem fe_any (hm : X.mg "any" = none) (hc : X.calm = true) (ha : FA X W [a] g) (hg : Gl X "any" := by rfl) (he : starEach [a] X.env = (false, eval a X.env) :: starEach [] X.env := by rfl) : FE X W (.Call (.Name "any" p) [a] [] pos) (eF fAny g) :=
  fe_callB (cr_any hc) ok_any hm hg bt_any ha (by decide) (by decide) he rfl
theorem fe_min1 (hm : X.mg "min" = none) (hc : X.calm = true) (ha : FA X W [a] g) (hg : Gl X "min" := by rfl) (he : starEach [a] X.env = (false, eval a X.env) :: starEach [] X.env := by rfl) : FE X W (.Call (.Name "min" p) [a] [] pos) (eF fMin g) :=
  fe_callB (op_min3 hc) ok_min hm hg bt_min ha (by decide) (by decide) he rfl
theorem fe_max1 (hm : X.mg "max" = none) (hc : X.calm = true) (ha : FA X W [a] g) (hg : Gl X "max" := by rfl) (he : starEach [a] X.env = (false, eval a X.env) :: starEach [] X.env := by rfl) : FE X W (.Call (.Name "max" p) [a] [] pos) (eF fMax g) :=
  fe_callB (op_max3 hc) ok_max hm hg bt_max ha (by decide) (by decide) he rfl
theorem fe_min2 (hm : X.mg "min" = none) (hc : X.calm = true) (ha : FA X W [a, b] g) (hg : Gl X "min" := by rfl) (he : starEach [a, b] X.env = (false, eval a X.env) :: starEach [b] X.env := by rfl) (hpl : (backTo pos (starEach [b] X.env)).any (·.1) = false := by rfl) : FE X W (.Call (.Name "min" p) [a, b] [] pos) (eF fMin g) :=
  fe_callB (op_min3 hc) ok_min hm hg bt_min ha (by decide) (by decide) he hpl
theorem fe_max2 (hm : X.mg "max" = none) (hc : X.calm = true) (ha : FA X W [a, b] g) (hg : Gl X "max" := by rfl) (he : starEach [a, b] X.env = (false, eval a X.env) :: starEach [b] X.env := by rfl) (hpl : (backTo pos (starEach [b] X.env)).any (·.1) = false := by rfl) : FE X W (.Call (.Name "max" p) [a, b] [] pos) (eF fMax g) :=
  fe_callB (op_max3 hc) ok_max hm hg bt_max ha (by decide) (by decide) he hpl
theorem fe_cint (hm : X.mg "int" = none) (ha : FA X W [a] g) (hg : Gl X "int" := by rfl) (he : starEach [a] X.env = (false, eval a X.env) :: starEach [] X.env := by rfl) : FE X W (.Call (.Name "int" p) [a] [] pos) (eF fInt g) :=
  fe_callTy call_int1 ok_int hm hg bt_int ha (by decide) (by decide) he rfl
theorem fe_cbool (hm : X.mg "bool" = none) (ha : FA X W [a] g) (hg : Gl X "bool" := by rfl) (he : starEach [a] X.env = (false, eval a X.env) :: starEach [] X.env := by rfl) : FE X W (.Call (.Name "bool" p) [a] [] pos) (eF fBool g) :=
  fe_callTy call_bool1 ok_bool hm hg bt_bool ha (by decide) (by decide) he rfl
theorem fe_cstr (hm : X.mg "str" = none) (ha : FA X W [a] g) (hg : Gl X "str" := by rfl) (he : starEach [a] X.env = (false, eval a X.env) :: starEach [] X.env := by rfl) : FE X W (.Call (.Name "str" p) [a] [] pos) (eF fStr g) :=
  fe_callTy call_str_int ok_str hm hg bt_str ha (by decide) (by decide) he rfl
theorem fe_ctype (hm : X.mg "type" = none) (ha : FA X W [a] g) (hg : Gl X "type" := by rfl) (he : starEach [a] X.env = (false, eval a X.env) :: starEach [] X.env := by rfl) : FE X W (.Call (.Name "type" p) [a] [] pos) (eF fType g) :=
  fe_callTy cr_typeD ok_type hm hg bt_type ha (by decide) (by decide) he rfl
theorem fe_ctuple (hm : X.mg "tuple" = none) (ha : FA X W [a] g) (hg : Gl X "tuple" := by rfl) (he : starEach [a] X.env = (false, eval a X.env) :: starEach [] X.env := by rfl) : FE X W (.Call (.Name "tuple" p) [a] [] pos) (eF fTuple g) :=
  fe_callTy call_tuple_of ok_tuple hm hg bt_tuple ha (by decide) (by decide) he rfl
theorem fl_clist (hm : X.mg "list" = none) (ha : FA X W [a] g) (hg : Gl X "list" := by rfl) (he : starEach [a] X.env = (false, eval a X.env) :: starEach [] X.env := by rfl) : FL X W (.Call (.Name "list" p) [a] [] pos) (lF fList g) :=
  fl_callTy call_list_of ok_list hm hg bt_list ha (by decide) (by decide) he rfl
theorem fe_gcd (hm : X.mg "gcd" = some (.builtin "math.gcd")) (ha : FA X W [a, b] g) (hg : Gl X "gcd" := by rfl) (he : starEach [a, b] X.env = (false, eval a X.env) :: starEach [b] X.env := by rfl) (hpl : (backTo pos (starEach [b] X.env)).any (·.1) = false := by rfl) : FE X W (.Call (.Name "gcd" p) [a, b] [] pos) (eF fGcd g) :=
  fe_callBf cr_gcd ok_gcd hm hg ha (by decide) he hpl
/-! ### comparisons by name -/
variable {k : Nat}
theorem ft_eq (hr : Room k X.A) (ha : FE X W a ga) (hb : FE X W b gb) : FT X W (.Compare a [.Eq] [b] pos) (b2 cEq ga gb) := ft_cmp (op_eqD hr.units) ok_eq ha hb (nomark _)
theorem ft_ne (hr : Room k X.A) (ha : FE X W a ga) (hb : FE X W b gb) : FT X W (.Compare a [.NotEq] [b] pos) (b2 cNe ga gb) := ft_cmp (op_neD hr.units) ok_ne ha hb (nomark _)
theorem ft_lt (ha : FE X W a ga) (hb : FE X W b gb) : FT X W (.Compare a [.Lt] [b] pos) (b2 cLt ga gb) := ft_cmp oc_lt ok_cI ha hb (nomark _)
theorem ft_le (ha : FE X W a ga) (hb : FE X W b gb) : FT X W (.Compare a [.LtE] [b] pos) (b2 cLe ga gb) := ft_cmp oc_le ok_cI ha hb (nomark _)
theorem ft_gt (ha : FE X W a ga) (hb : FE X W b gb) : FT X W (.Compare a [.Gt] [b] pos) (b2 cGt ga gb) := ft_cmp oc_gt ok_cI ha hb (nomark _)
theorem ft_ge (ha : FE X W a ga) (hb : FE X W b gb) : FT X W (.Compare a [.GtE] [b] pos) (b2 cGe ga gb) := ft_cmp oc_ge ok_cI ha hb (nomark _)
theorem ft_is (ha : FE X W a ga) (hb : FE X W b gb) : FT X W (.Compare a [.Is] [b] pos) (b2 cIs ga gb) := ft_cmp op_isV ok_is ha hb (nomark _)
theorem ft_isnot (ha : FE X W a ga) (hb : FE X W b gb) : FT X W (.Compare a [.IsNot] [b] pos) (b2 cIsNot ga gb) := ft_cmp op_isNotV ok_isNot ha hb (nomark _)
theorem ft_in (hr : Room (k + 1) X.A) (ha : FE X W a ga) (hb : FE X W b gb) (hm : behindInMarks .In b = false := by rfl) : FT X W (.Compare a [.In] [b] pos) (b2 cIn ga gb) := ft_cmp (op_in3 (by have := hr.un; omega)) ok_in ha hb hm
theorem ft_notin (hr : Room (k + 1) X.A) (ha : FE X W a ga) (hb : FE X W b gb) (hm : behindInMarks .NotIn b = false := by rfl) : FT X W (.Compare a [.NotIn] [b] pos) (b2 cNotIn ga gb) := ft_cmp (op_notIn3 (by have := hr.un; omega)) ok_notIn ha hb hm
theorem fe_eq (hr : Room k X.A) (ha : FE X W a ga) (hb : FE X W b gb) : FE X W (.Compare a [.Eq] [b] pos) (eB (b2 cEq ga gb)) := fe_cmp (op_eqD hr.units) ok_eq ha hb (nomark _)
theorem fe_ne (hr : Room k X.A) (ha : FE X W a ga) (hb : FE X W b gb) : FE X W (.Compare a [.NotEq] [b] pos) (eB (b2 cNe ga gb)) := fe_cmp (op_neD hr.units) ok_ne ha hb (nomark _)
theorem fe_lt (ha : FE X W a ga) (hb : FE X W b gb) : FE X W (.Compare a [.Lt] [b] pos) (eB (b2 cLt ga gb)) := fe_cmp oc_lt ok_cI ha hb (nomark _)
theorem fe_le (ha : FE X W a ga) (hb : FE X W b gb) : FE X W (.Compare a [.LtE] [b] pos) (eB (b2 cLe ga gb)) := fe_cmp oc_le ok_cI ha hb (nomark _)
theorem fe_gt (ha : FE X W a ga) (hb : FE X W b gb) : FE X W (.Compare a [.Gt] [b] pos) (eB (b2 cGt ga gb)) := fe_cmp oc_gt ok_cI ha hb (nomark _)
theorem fe_ge (ha : FE X W a ga) (hb : FE X W b gb) : FE X W (.Compare a [.GtE] [b] pos) (eB (b2 cGe ga gb)) := fe_cmp oc_ge ok_cI ha hb (nomark _)
theorem fe_is (ha : FE X W a ga) (hb : FE X W b gb) : FE X W (.Compare a [.Is] [b] pos) (eB (b2 cIs ga gb)) := fe_cmp op_isV ok_is ha hb (nomark _)
theorem fe_isnot (ha : FE X W a ga) (hb : FE X W b gb) : FE X W (.Compare a [.IsNot] [b] pos) (eB (b2 cIsNot ga gb)) := fe_cmp op_isNotV ok_isNot ha hb (nomark _)
theorem fe_in (hr : Room (k + 1) X.A) (ha : FE X W a ga) (hb : FE X W b gb) (hm : behindInMarks .In b = false := by rfl) : FE X W (.Compare a [.In] [b] pos) (eB (b2 cIn ga gb)) := fe_cmp (op_in3 (by have := hr.un; omega)) ok_in ha hb hm
theorem fe_notin (hr : Room (k + 1) X.A) (ha : FE X W a ga) (hb : FE X W b gb) (hm : behindInMarks .NotIn b = false := by rfl) : FE X W (.Compare a [.NotIn] [b] pos) (eB (b2 cNotIn ga gb)) := fe_cmp (op_notIn3 (by have := hr.un; omega)) ok_notIn ha hb hm
/-- chains of order -/
theorem ft_lele (ha : FE X W a ga) (hb : FE X W b gb) (hc : FE X W c gc) (hm : lastMarks [.LtE, .LtE] [b, c] = false := by rfl) : FT X W (.Compare a [.LtE, .LtE] [b, c] pos) (bChain cLe cLe ga gb gc) := ft_chain oc_le ok_cI oc_le ok_cI ha hb hc hm
theorem ft_lelt (ha : FE X W a ga) (hb : FE X W b gb) (hc : FE X W c gc) (hm : lastMarks [.LtE, .Lt] [b, c] = false := by rfl) : FT X W (.Compare a [.LtE, .Lt] [b, c] pos) (bChain cLe cLt ga gb gc) := ft_chain oc_le ok_cI oc_lt ok_cI ha hb hc hm
theorem ft_ltle (ha : FE X W a ga) (hb : FE X W b gb) (hc : FE X W c gc) (hm : lastMarks [.Lt, .LtE] [b, c] = false := by rfl) : FT X W (.Compare a [.Lt, .LtE] [b, c] pos) (bChain cLt cLe ga gb gc) := ft_chain oc_lt ok_cI oc_le ok_cI ha hb hc hm
theorem ft_ltlt (ha : FE X W a ga) (hb : FE X W b gb) (hc : FE X W c gc) (hm : lastMarks [.Lt, .Lt] [b, c] = false := by rfl) : FT X W (.Compare a [.Lt, .Lt] [b, c] pos) (bChain cLt cLt ga gb gc) := ft_chain oc_lt ok_cI oc_lt ok_cI ha hb hc hm
/-- .. as values -/
theorem fe_chain {op op' : CmpOp} {r r' : R2} {f f' : D → D → Option Bool} (ho : OpR X (compareOp op) r) (hf : Ok2B X.K r f) (ho' : OpR X (compareOp op') r') (hf' : Ok2B X.K r' f') (ha : FE X W a ga) (hb : FE X W b gb) (hc : FE X W c gc) (hm : lastMarks [op, op'] [b, c] = false := by rfl) :
    FE X W (.Compare a [op, op'] [b, c] pos) (eB (bChain f f' ga gb gc)) := by
  refine PE.imp (pe_chain ho ho' ha hb hc hm) fun σ H Q h => ?_
  obtain ⟨Γ, os, env, A, h⟩ := h
  have h : WR X.K X.mg (Hd Γ os) W σ H ((bChain f f' ga gb gc env).bind fun b => .ok (.bl b)) (zE X.K (Hd Γ os) Q) := h
  have h' : WR X.K X.mg (Hd Γ os) W σ H (bChain f f' ga gb gc env) (zB fun b H' => Q (.bl b) H') := WR.bind anti_E h fun b H1 _ s1 h1 => WR.ok h1 (Same.refl H1) _ rfl
  refine ⟨Γ, os, env, A, WR.bind anti_B h' fun d H1 _ s1 h1 v rv => ⟨Γ, os, env, A.mono s1, WR.bind anti_B h1 fun e H2 _ s2 h2 w rw => ?_⟩⟩
  have h2' : WR X.K X.mg (Hd Γ os) W σ H2 (Res.of (f d e)) (fun _ k H' => ∀ H3, Same H' H3 → WR X.K X.mg (Hd Γ os) W σ H3 (if k = true then (gc env).bind fun z => Res.of (f' e z) else .ok false) (zB fun b H' => Q (.bl b) H')) :=
    WR.bind anti_B h2 fun k H3 _ s3 h3 H4 s4 => WR.mono anti_B h3 s4
  obtain ⟨k, ek, h3⟩ := WR.of h2'
  refine hf _ _ _ _ _ _ _ _ (A.hides.mono (s1.trans s2)) (Rep.mono (Same.hid s2) d v rv) rw ek fun H3 s3 => ⟨k, rfl, ?_⟩
  have h4 := h3 H3 s3 H3 (Same.refl H3)
  cases k with
  | false =>
    rw [if_neg Bool.false_ne_true]
    have q := WR.ok h4 (Same.refl H3)
    exact q
  | true =>
    rw [if_pos rfl]
    refine ⟨Γ, os, env, A.mono (s1.trans (s2.trans s3)), WR.bind anti_B h4 fun z H4 _ s4 h5 u ru => ?_⟩
    obtain ⟨k2, ek2, h6⟩ := WR.of h5
    exact hf' _ _ _ _ _ _ _ _ (A.hides.mono (s1.trans (s2.trans (s3.trans s4)))) (Rep.mono (Same.hid (s3.trans s4)) e w rw) ru ek2 fun H5 s5 => h6 H5 s5
theorem fe_lele (ha : FE X W a ga) (hb : FE X W b gb) (hc : FE X W c gc) (hm : lastMarks [.LtE, .LtE] [b, c] = false := by rfl) : FE X W (.Compare a [.LtE, .LtE] [b, c] pos) (eB (bChain cLe cLe ga gb gc)) := fe_chain oc_le ok_cI oc_le ok_cI ha hb hc hm
theorem fe_lelt (ha : FE X W a ga) (hb : FE X W b gb) (hc : FE X W c gc) (hm : lastMarks [.LtE, .Lt] [b, c] = false := by rfl) : FE X W (.Compare a [.LtE, .Lt] [b, c] pos) (eB (bChain cLe cLt ga gb gc)) := fe_chain oc_le ok_cI oc_lt ok_cI ha hb hc hm
/-! ### own lists, read -/
def scalD : D → Bool
  | .tup _ => false
  | .lst _ => false
  | _ => true
theorem scal_rep {K : PySem.W.Frag} {H H' : Hp} {d : D} {v : V} (h : scalD d = true) (r : Rep K H d v) : Rep K H' d v := by
  cases d <;> first | exact r | cases h
def bor {α : Type} (ok : α → Bool) (r : Res α) : Res α := match r with
  | .ok d => if ok d then .ok d else .stuck
  | .err (.plain x) => .err (.plain x)
  | .err (.one x f d) => if scalD d then .err (.one x f d) else .stuck
  | .stuck => .stuck
def eBor (i : Nat) (g : GE) : GE := fun env => bor scalD (g (frz i env))
def bBor (i : Nat) (g : GB) : GB := fun env => bor (fun _ => true) (g (frz i env))
theorem frz_agree {K : PySem.W.Frag} {Γ : Ga} {os : List (Option Addr)} {σ : L2.St} {H : Hp} {env : En} (A : Agree K Γ os σ H env) (i : Nat) : ∃ os', Agree K Γ os' σ H (frz i env) := by
  unfold frz
  split
  · exact ⟨_, A.freeze ‹_›⟩
  · exact ⟨os, A⟩
theorem bor_wish {K : PySem.W.Frag} {mg : Str → Option Value} {P P' : Addr → Prop} {σ : L2.St} {H : Hp} {α : Type} {ok : α → Bool} {r : Res α} {Z Z' : Hp → α → Hp → Prop} (h : WR K mg P W σ H (bor ok r) Z) (hz : ∀ d H', ok d = true → Z H d H' → Z' H d H') : WR K mg P' W σ H r Z' := by
  cases r with
  | ok d =>
    have h : WR K mg P W σ H (if ok d = true then .ok d else .stuck) Z := h
    by_cases hk : ok d = true
    · rw [if_pos hk] at h
      exact fun H' s => hz d H' hk (h H' s)
    · rw [if_neg hk] at h
      exact h.elim
  | err e =>
    cases e with
    | plain x => exact fun c pd H' s q => h c pd H' s q
    | one x f d =>
      have h : WR K mg P W σ H (if scalD d = true then .err (.one x f d) else .stuck : Res α) Z := h
      by_cases hk : scalD d = true
      · rw [if_pos hk] at h
        intro c pd H' s q
        obtain ⟨C, p, v, q1, q2, q3, q4, q5⟩ := q
        exact h c pd H' s ⟨C, p, v, q1, q2, q3, q4, scal_rep hk q5⟩
      · rw [if_neg hk] at h
        exact h.elim
  | stuck => exact h
theorem fe_bor (i : Nat) (h : FE X W a ga) : FE X W a (eBor i ga) := by
  refine PE.imp h fun σ H Q h => ?_
  obtain ⟨Γ, os, env, A, h⟩ := h
  obtain ⟨os', A'⟩ := frz_agree A i
  exact ⟨Γ, os', _, A', bor_wish h fun d H' hs q v r => q v (scal_rep hs r)⟩
theorem ft_bor {q : GB} (i : Nat) (h : FT X W a q) : FT X W a (bBor i q) := by
  refine PT.imp h fun σ H Q h => ?_
  obtain ⟨Γ, os, env, A, h⟩ := h
  obtain ⟨os', A'⟩ := frz_agree A i
  exact ⟨Γ, os', _, A', bor_wish h fun d H' hs q => q⟩
/-- an item of an own list -/
def eIxO (i : Nat) (g : GE) : GE := fun env => match env[i]? with
  | some (.own ds) => (g env).bind fun k => Res.of (dIx (.lst ds) k)
  | _ => .stuck
theorem fe_ixO (i : Nat) {x : Str} (hb : FE X W b gb) (hN : X.N[i]? = some x := by rfl) (hv : Vis X.env.scope x := by first | exact Or.inl rfl | exact Or.inr (Or.inl rfl) | exact Or.inr (Or.inr rfl)) (hd : (x == ("__debug__" : Str)) = false := by decide)
    (hcd : (x == ("__classdict__" : Str)) = false := by decide) (hs : PlainIx b := by exact fun _ _ => rfl) : FE X W (.Subscript (.Name x p) b pos) (eIxO i gb) := by
  refine PE.imp (pe_ix ix_list (pe_var hN hv hd hcd) hb hs) fun σ H Q h => ?_
  obtain ⟨Γ, os, env, A, h⟩ := h
  have h : WR X.K X.mg (Hd Γ os) W σ H (match env[i]? with | some (.own ds) => (gb env).bind fun k => Res.of (dIx (.lst ds) k) | _ => .stuck) (zE X.K (Hd Γ os) Q) := h
  cases ei : env[i]? with
  | none => rw [ei] at h; exact h.elim
  | some sl =>
    rw [ei] at h
    cases sl with
    | unk => exact h.elim
    | val d => exact h.elim
    | own ds =>
      obtain ⟨q, vs, ho, hσ, hp, hr⟩ := A.own ei
      refine ⟨.ref q, hσ, Γ, os, env, A, WR.bind anti_E h fun k H1 _ s1 h1 w rw => ?_⟩
      obtain ⟨z, ez, h3⟩ := WR.of h1
      cases k <;> first | (cases ez; done) | skip
      cases rw
      obtain ⟨v, e1, e2⟩ := atI_rep hr ez
      exact ⟨q, vs, _, v, rfl, rfl, .inl (.inl (s1 _ _ hp)), e1, h3 H1 (Same.refl H1) v (Rep.mono (Same.hid s1) _ _ e2)⟩
end
/-! ### the law's own end, recursion -/
section
variable {P : Program} {w : World} {K : PySem.W.Frag} {mg : Str → Option Value} {base : Heap}
theorem fk_stuck {x : Str} {n : Nat} {st : Stmt} {f : Addr} {fd : FuncData} {ps : List Str} (F : Fun K x x st f fd) (hm : mg x = some (.ref f))
    (hb : ∀ (kV doc pm : Value) (an : Option Addr) (cdv ct : Value) (us : List Value), us.length = ps.length → bindArgs (PySem.W.fnOf x x (defArgs st) (defBody st) (defScope st) .none kV doc pm an cdv ct) ⟨us, []⟩ = pure (ps.zip us)) : Fk P w K mg base 1 x n (fun _ => .stuck) :=
  ⟨⟨f, fd, ps, ⟨fun vs H Q E h => by
    obtain ⟨_, _, _, _, _, h⟩ := h
    exact h.elim, fun A outer s H args us vs Q E _ _ _ _ h => by
    obtain ⟨_, _, _, _, _, h⟩ := h
    exact h.elim⟩, hm, F.kp, F.binds hb⟩, fun _ _ => rfl⟩
end
end AF

namespace AF
open PySem PySem.Spec PyProof.Rows L2
theorem Ok2.or {K : PySem.W.Frag} {r r' : R2} {f f' : D → D → Option D} (h : Ok2 K r f) (h' : Ok2 K r' f') : Ok2 K (fun x y H Q => r x y H Q ∨ r' x y H Q) (fun d e => match f d e with | some z => some z | none => f' d e) := by
  intro P H x y d e z Q hP rx ry ez q
  cases ef : f d e with
  | some z' =>
    simp only [ef] at ez
    cases ez
    exact .inl (h P H x y d e _ Q hP rx ry ef q)
  | none =>
    simp only [ef] at ez
    exact .inr (h' P H x y d e z Q hP rx ry ez q)
theorem Ok2L.d {K : PySem.W.Frag} {r : R2} {f : D → D → Option (List D)} (h : Ok2L K r f) : Ok2 K r (fun d e => (f d e).map .lst) := by
  intro P H x y d e z Q hP rx ry ez q
  have ez : (f d e).map D.lst = some z := ez
  cases ef : f d e with
  | none => rw [ef] at ez; cases ez
  | some zs =>
    rw [ef] at ez
    cases ez
    exact h P H x y d e zs Q hP rx ry ef fun p vs H' s n e r => q (.ref p) H' s (lst_of_new hP n e r)
/-- + of ints, texts, tuples, lists -/
def dPlus : D → D → Option D := fun d e => match dAdd d e with
  | some z => some z
  | none => (lAdd d e).map .lst
section
variable {X : Cx} {W : WX} {a b : Expr} {ga gb : GE} {pos : Pos}
theorem fe_plus (ha : FE X W a ga) (hb : FE X W b gb) : FE X W (.BinOp a .Add b pos) (e2 dPlus ga gb) := fe_op (OpR.or op_add3 op_catL) (Ok2.or ok_add3 ok_catL.d) ha hb
def sThen (i : Nat) (p : GS) : GS := fun env => match p env with
  | .next e => .next (frz i e)
  | r => r
theorem fs_then {st : Stmt} {p : GS} (i : Nat) (h : FS X W st p) : FS X W st (sThen i p) := by
  refine PS.imp h fun Dn σ H h => ?_
  obtain ⟨Γ, os, env, A, h⟩ := h
  refine ⟨Γ, os, env, A, ?_⟩
  unfold sThen at h
  revert h
  cases p env with
  | next e =>
    intro h os' σ' H' A'
    obtain ⟨os2, A2⟩ := frz_agree A' i
    exact h os2 σ' H' A2
  | brk e => exact id
  | cont e => exact id
  | ret d => exact id
  | err x e => exact id
  | stuck => exact id
end
section
variable {P : Program} {w : World} {K : PySem.W.Frag} {mg : Str → Option Value} {base : Heap}
theorem fk_mk {x : Str} {st : Stmt} {f : Addr} {fd : FuncData} {N ps : List Str} {k n nn : Nat} {g : GS} (F : Fun K x x st f fd) (S : FnScope N ps (defScope st)) (hm : mg x = some (.ref f))
    (hb : ∀ (kV doc pm : Value) (an : Option Addr) (cdv ct : Value) (us : List Value), us.length = ps.length → bindArgs (PySem.W.fnOf x x (defArgs st) (defBody st) (defScope st) .none kV doc pm an cdv ct) ⟨us, []⟩ = pure (ps.zip us))
    (hps : ps.length = n) (hnn : N.length = nn) (hle : n ≤ nn)
    (body : ∀ (cdv : Value) (A : Around) (outer : List Env) (s : Shared) (H : Hp) (E : XK), Room k (A.deeper (envOfC x (defScope st) s.heap.objs.size f cdv)) →
      Takes (cxOf (L2.CX P w) P w K mg base N x (defScope st) f cdv A outer s H E) (fun c pd _ H' => E c pd H') →
      PassesOwn (model P w) (A.deeper (envOfC x (defScope st) s.heap.objs.size f cdv)) (envOfC x (defScope st) s.heap.objs.size f cdv) (cxOf (L2.CX P w) P w K mg base N x (defScope st) f cdv A outer s H E).xe →
      FSs (cxOf (L2.CX P w) P w K mg base N x (defScope st) f cdv A outer s H E) (fun c pd _ H' => E c pd H') (defBody st) g) : Fk P w K mg base (k + 1) x n (runF n nn g) :=
  fk_of F S hm hb hps hnn hle fun cdv A outer s H E hr => body cdv A outer s H E hr (takes_of rfl rfl rfl rfl) (passes_of (X := cxOf (L2.CX P w) P w K mg base N x (defScope st) f cdv A outer s H E) rfl)
theorem fn_mk {x : Str} {st : Stmt} {f : Addr} {fd : FuncData} {N ps : List Str} {k n nn : Nat} {g : GS} (F : Fun K x x st f fd) (S : FnScope N ps (defScope st)) 
    (hps : ps.length = n) (hnn : N.length = nn) (hle : n ≤ nn)
    (body : ∀ (cdv : Value) (A : Around) (outer : List Env) (s : Shared) (H : Hp) (E : XK), Room k (A.deeper (envOfC x (defScope st) s.heap.objs.size f cdv)) →
      Takes (cxOf (L2.CX P w) P w K mg base N x (defScope st) f cdv A outer s H E) (fun c pd _ H' => E c pd H') →
      PassesOwn (model P w) (A.deeper (envOfC x (defScope st) s.heap.objs.size f cdv)) (envOfC x (defScope st) s.heap.objs.size f cdv) (cxOf (L2.CX P w) P w K mg base N x (defScope st) f cdv A outer s H E).xe →
      FSs (cxOf (L2.CX P w) P w K mg base N x (defScope st) f cdv A outer s H E) (fun c pd _ H' => E c pd H') (defBody st) g) : FnOk P w K mg base (L2.CX P w) (k + 1) f fd ps (spF K mg n (runF n nn g)) :=
  fn_of F S hps hnn hle fun cdv A outer s H E hr => body cdv A outer s H E hr (takes_of rfl rfl rfl rfl) (passes_of (X := cxOf (L2.CX P w) P w K mg base N x (defScope st) f cdv A outer s H E) rfl)
end
end AF

namespace AF
open PySem PySem.Spec PyProof.Rows L2

/-! ### the law's end -/
def lawSp (K : PySem.W.Frag) : Sp := fun vs H Q _ => ∃ (a : Addr) (ns : List Int), vs = [.ref a] ∧ SqL K H a (ns.map V.int) ∧ ns.length ≤ 63 ∧ (∀ z ∈ ns, Builtin.Int.intBits z ≤ 1048576) ∧ ∀ H', Q (.bl true) H'
/-- the plain law of a mirror -/
def Keeps (m : List D → Res D) : Prop := ∀ ns : List Int, ns.length ≤ 63 → (∀ z ∈ ns, Builtin.Int.intBits z ≤ 1048576) → m [.lst (ns.map .int)] = .ok (.bl true)
theorem reps_intsL {K : PySem.W.Frag} {H : Hp} : ∀ ns : List Int, Reps K H (ns.map .int) (ns.map V.int)
  | [] => rfl
  | n :: ns => ⟨_, _, rfl, rfl, reps_intsL ns⟩
theorem fn_law {P : Program} {w : World} {K : PySem.W.Frag} {mg : Str → Option Value} {base : Heap} {k : Nat} {f : Addr} {fd : FuncData} {ps : List Str} {m : List D → Res D}
    (F : FnOk P w K mg base (L2.CX P w) k f fd ps (spF K mg 1 m)) (h : Keeps m) : FnOk P w K mg base (L2.CX P w) k f fd ps (lawSp K) := by
  refine F.imp fun vs H Q E q => ?_
  obtain ⟨a, ns, rfl, h1, h2, h3, q⟩ := q
  have e : Same H (hid (fun _ => False) H) := fun b x e => hid_of (fun z => z) e
  refine ⟨fun _ => False, [.lst (ns.map .int)], fun a p => p.elim, ⟨.ref a, [], rfl, ⟨a, _, rfl, Same.sl e h1, reps_intsL ns⟩, rfl⟩, rfl, ?_⟩
  rw [h ns h2 h3]
  intro H' s v r
  cases r
  exact q H'
theorem law_end {l : PySem.W.OpenLaw} {k : Nat} {q : Program} {loose : List Str} {XP : (Str → Option Value) → Heap → Prop} {YP : World → Heap → Prop} {d : DefRec} {K : Params → PySem.W.Frag} {x : Str} {m : List D → Res D}
    (hm : Keeps m) (hn : l.most = some 63) (hdf : d.params.defaults = []) (hr : Room k callerA)
    (hY : ∀ (w : World) (h : Heap), YP w h → (K w.params).In h)
    (F : ∀ (w : World) (mg : Str → Option Value) (fa : Addr) (h : Heap), (K w.params).In h → h.Ns mainGlobals mg → mg d.name = some (.ref fa) →
      ∃ fd : FuncData, (∀ (s : Shared) (u : Value), BindsTo s fd ⟨[u], []⟩ [(x, u)]) ∧
        ∀ base : Heap, (K w.params).In base → base.Ns mainGlobals mg → FnOk l.prog w (K w.params) mg base (L2.CX l.prog w) k fa fd [x] (spF (K w.params) mg 1 m)) :
    PySem.W.WalkO q loose XP YP l.row.toRowW d [] (fun f vs => PySem.call f vs) := by
  refine L2.walk_ofB (n := 63) (CX := fun w => L2.CX l.prog w) (x := x) (sp := fun w => lawSp (K w.params)) hn (by decide) hdf hr hY (fun w mg fa h KX G hmg => ?_) (fun w H a ns h1 h2 _ h3 => ⟨a, ns, rfl, h3, h1, h2, fun _ => rfl⟩) (fun w H s e s' h => ?_)
  · obtain ⟨fd, h1, h2⟩ := F w mg fa h KX G hmg
    exact ⟨fd, h1, fun base b1 b2 => fn_law (h2 base b1 b2) hm⟩
  · obtain ⟨a, B, H', cls, d, _, _, _, _, _, _, _, h⟩ := h
    exact h
/-! ### what the top has written -/
theorem glob_of {K : PySem.W.Frag} {h : Heap} {mg : Str → Option Value} {x : Str} {v : V} {u : Value} (X : K.In h) (G : h.Ns mainGlobals mg) (a : PySem.W.nsIn K mainGlobals x = some (some u)) (r : RelV v u) : ∃ u, mg x = some u ∧ RelV v u := ⟨u, PySem.W.mg_of X G a, r⟩
theorem exn_mk {K : PySem.W.Frag} {h : Heap} {mg : Str → Option Value} {x : String} {C : Addr} (X : K.In h) (G : h.Ns mainGlobals mg) (a : PySem.W.nsIn K mainGlobals (Str.ofString x) = some (some (.ref C)))
    (xc : PySem.W.excIn K C [.type "ValueError", .type "Exception", .type "BaseException", .type "object"] "ValueError.__new__" = true) (k : PySem.W.keepIn K (.ref C) = true) (b : PySem.W.subIn K (.ref C) (.type "BaseException") = some true) (t : PySem.W.typeIn K (.ref C) = some (.type "type")) : Exn K mg x C := ⟨PySem.W.mg_of X G a, xc, k, b, t⟩
theorem cat_cons {K : PySem.W.Frag} {h : Heap} {mg : Str → Option Value} {x : String} {b : Bool} {C D : Addr} {l : List (String × Bool)} (X : K.In h) (G : h.Ns mainGlobals mg) (a : PySem.W.nsIn K mainGlobals (Str.ofString x) = some (some (.ref C)))
    (h1 : PySem.W.subIn K (.ref D) (.type "BaseException") = some true) (hd : PySem.W.hasDictIn K D = true) (ht : PySem.W.typeIn K (.ref D) = some (.type "type")) (h4 : PySem.W.subIn K (.ref C) (.ref D) = some b)
    (r : ∀ q ∈ l, ∃ C, mg (Str.ofString q.1) = some (.ref C) ∧ PySem.W.exmOne K (.ref C) (.ref D) = some q.2) : ∀ q ∈ (x, b) :: l, ∃ C, mg (Str.ofString q.1) = some (.ref C) ∧ PySem.W.exmOne K (.ref C) (.ref D) = some q.2 := by
  intro q hq
  rcases List.mem_cons.mp hq with e | e
  · subst e
    exact ⟨C, PySem.W.mg_of X G a, PySem.W.exm_ref h1 hd ht h4⟩
  · exact r q e
theorem rep_int {K : PySem.W.Frag} {i : Int} : ∀ H : Hp, Rep K H (.int i) (.int i) := fun _ => rfl
theorem rep_str {K : PySem.W.Frag} {l : List Nat} (h : (decide (l.length ≤ sizeLine) && l.all (· < 1114112)) = true := by decide +kernel) : ∀ H : Hp, Rep K H (.str l) (.str ⟨l.toArray⟩) := fun _ => by
  simp only [Bool.and_eq_true, decide_eq_true_eq] at h
  exact ⟨rfl, h.1, h.2⟩
theorem rep_tup {K : PySem.W.Frag} {a : Addr} {o : Obj} {its : Array Value} {n : Nat} {ds : List D} {vs : List V} (e : K.lookup a = some o) (hc : o.cls = .type "tuple") (hd : o.data = .seq its n) (hz : its.size ≤ sizeLine) (hv : Vals vs its.toList) (h : ∀ H, Reps K H ds vs) : ∀ H : Hp, Rep K H (.tup ds) (.ref a) := fun H =>
  ⟨a, vs, rfl, .inr ⟨o, its, n, e, hc, hd, hz, hv⟩, h H⟩
theorem reps_nil {K : PySem.W.Frag} : ∀ H : Hp, Reps K H [] [] := fun _ => rfl
theorem reps_cons {K : PySem.W.Frag} {d : D} {v : V} {ds : List D} {vs : List V} (h1 : ∀ H : Hp, Rep K H d v) (h2 : ∀ H, Reps K H ds vs) : ∀ H : Hp, Reps K H (d :: ds) (v :: vs) := fun H => ⟨v, vs, rfl, h1 H, h2 H⟩
theorem const_tup {K : PySem.W.Frag} {h : Heap} {mg : Str → Option Value} {x : Str} {a : Addr} {o : Obj} {its : Array Value} {n : Nat} {ds : List D} {vs : List V} (X : K.In h) (G : h.Ns mainGlobals mg) (z : PySem.W.nsIn K mainGlobals x = some (some (.ref a)))
    (e : K.lookup a = some o) (hc : o.cls = .type "tuple") (hd : o.data = .seq its n) (hz : its.size ≤ sizeLine) (hv : Vals vs its.toList) (hr : ∀ H, Reps K H ds vs) : (∃ u, mg x = some u ∧ RelV (.ref a) u) ∧ ∀ H : Hp, Rep K H (.tup ds) (.ref a) := ⟨⟨_, PySem.W.mg_of X G z, rfl⟩, rep_tup e hc hd hz hv hr⟩
end AF

namespace AF
open PySem PySem.Spec PyProof.Rows L2

/-! ### what a mirror answers, wish by wish -/
def wpR {α : Type} (r : Res α) (Q : α → Prop) (E : Er → Prop) : Prop := match r with
  | .ok a => Q a
  | .err e => E e
  | .stuck => False
def wpO {α : Type} (o : Option α) (Q : α → Prop) : Prop := match o with
  | some a => Q a
  | none => False
def wpS (o : Out) (N : En → Prop) (R : D → Prop) (E : Er → En → Prop) (B C : En → Prop) : Prop := match o with
  | .next e => N e
  | .ret d => R d
  | .err x e => E x e
  | .brk e => B e
  | .cont e => C e
  | .stuck => False
section
variable {α β : Type} {Q : α → Prop} {E : Er → Prop} {QD : D → Prop} {QB : Bool → Prop} {QL : List D → Prop} {env : En} {a b c : GE} {g : GL} {gb gc : GB}
theorem wR_ok {x : α} : wpR (.ok x) Q E = Q x := rfl
theorem wR_err {e : Er} : wpR (.err e : Res α) Q E = E e := rfl
theorem wR_bind {r : Res β} {f : β → Res α} : wpR (r.bind f) Q E = wpR r (fun x => wpR (f x) Q E) E := by cases r <;> rfl
theorem wR_of {o : Option α} : wpR (Res.of o) Q E = wpO o Q := by cases o <;> rfl
theorem wO_some {x : α} : wpO (some x) Q = Q x := rfl
theorem wO_map {f : β → α} {o : Option β} : wpO (o.map f) Q = wpO o (fun x => Q (f x)) := by cases o <;> rfl
theorem wO_bind {f : β → Option α} {o : Option β} : wpO (o.bind f) Q = wpO o (fun x => wpO (f x) Q) := by cases o <;> rfl
theorem wO_ite {p : Prop} [Decidable p] {x : α} : wpO (if p then some x else none) Q = (p ∧ Q x) := by
  by_cases h : p
  · rw [if_pos h]; exact propext ⟨fun q => ⟨h, q⟩, fun q => q.2⟩
  · rw [if_neg h]; exact propext ⟨fun q => q.elim, fun q => (h q.1).elim⟩
theorem wR_mono {r : Res α} {Q' : α → Prop} {E' : Er → Prop} (h : wpR r Q E) (hq : ∀ x, Q x → Q' x) (he : ∀ x, E x → E' x) : wpR r Q' E' := by
  cases r with
  | ok x => exact hq x h
  | err x => exact he x h
  | stuck => exact h
theorem wR_eq {r : Res α} {x : α} (h : wpR r (fun y => y = x) fun _ => False) : r = .ok x := by
  cases r with
  | ok y => exact congrArg _ h
  | err e => exact h.elim
  | stuck => exact h.elim
theorem wR_errE {r : Res α} {x : Er} (h : wpR r (fun _ => False) fun e => e = x) : r = .err x := by
  cases r with
  | ok y => exact h.elim
  | err e => exact congrArg _ h
  | stuck => exact h.elim
-- expressions
theorem w_var0 {d : D} {r : En} : wpR (eVar 0 (.val d :: r)) QD E = QD d := rfl
theorem w_varS {s : Sl} {r : En} {i : Nat} : wpR (eVar (i + 1) (s :: r)) QD E = wpR (eVar i r) QD E := rfl
theorem w_eC {d : D} : wpR (eC d env) QD E = QD d := rfl
theorem w_e1 {f : D → Option D} : wpR (e1 f a env) QD E = wpR (a env) (fun x => wpO (f x) QD) E := by unfold e1; simp only [wR_bind, wR_of]
theorem w_l1 {f : D → Option (List D)} : wpR (l1 f a env) QL E = wpR (a env) (fun x => wpO (f x) QL) E := by unfold l1; simp only [wR_bind, wR_of]
theorem w_e2 {f : D → D → Option D} : wpR (e2 f a b env) QD E = wpR (a env) (fun x => wpR (b env) (fun y => wpO (f x y) QD) E) E := by unfold e2; simp only [wR_bind, wR_of]
theorem w_l2 {f : D → D → Option (List D)} : wpR (l2 f a b env) QL E = wpR (a env) (fun x => wpR (b env) (fun y => wpO (f x y) QL) E) E := by unfold l2; simp only [wR_bind, wR_of]
theorem w_b1 {f : D → Option Bool} : wpR (b1 f a env) QB E = wpR (a env) (fun x => wpO (f x) QB) E := by unfold b1; simp only [wR_bind, wR_of]
theorem w_b2 {f : D → D → Option Bool} : wpR (b2 f a b env) QB E = wpR (a env) (fun x => wpR (b env) (fun y => wpO (f x y) QB) E) E := by unfold b2; simp only [wR_bind, wR_of]
theorem w_eB : wpR (eB gb env) QD E = wpR (gb env) (fun k => QD (.bl k)) E := by unfold eB; simp only [wR_bind, wR_ok]
theorem w_eF {f : List D → Option D} : wpR (eF f g env) QD E = wpR (g env) (fun xs => wpO (f xs) QD) E := by unfold eF; simp only [wR_bind, wR_of]
theorem w_lF {f : List D → Option (List D)} : wpR (lF f g env) QL E = wpR (g env) (fun xs => wpO (f xs) QL) E := by unfold lF; simp only [wR_bind, wR_of]
theorem w_eCall {m : List D → Res D} : wpR (eCall m g env) QD E = wpR (g env) (fun xs => wpR (m xs) QD E) E := by unfold eCall; simp only [wR_bind]
theorem w_eLst : wpR (eLst g env) QD E = wpR (g env) (fun xs => QD (.lst xs)) E := by unfold eLst; simp only [wR_bind, wR_ok]
theorem w_aNil : wpR (aNil env) QL E = QL [] := rfl
theorem w_aCons : wpR (aCons a g env) QL E = wpR (a env) (fun x => wpR (g env) (fun xs => QL (x :: xs)) E) E := by unfold aCons; simp only [wR_bind, wR_ok]
theorem w_eTup : wpR (eTup g env) QD E = wpR (g env) (fun xs => xs.length ≤ sizeLine ∧ QD (.tup xs)) E := by unfold eTup sz; simp only [wR_bind, wR_of, wO_map, wO_ite]
theorem w_lDisp : wpR (lDisp g env) QL E = wpR (g env) (fun xs => xs.length ≤ sizeLine ∧ QL xs) E := by unfold lDisp sz; simp only [wR_bind, wR_of, wO_ite]
theorem w_eIf : wpR (eIf gb a b env) QD E = wpR (gb env) (fun k => if k = true then wpR (a env) QD E else wpR (b env) QD E) E := by
  unfold eIf
  rw [wR_bind]
  congr 1
  funext k
  cases k <;> rfl
theorem w_bAnd : wpR (bAnd gb gc env) QB E = wpR (gb env) (fun k => if k = true then wpR (gc env) QB E else QB false) E := by
  unfold bAnd
  rw [wR_bind]
  congr 1
  funext k
  cases k <;> rfl
theorem w_bOr : wpR (bOr gb gc env) QB E = wpR (gb env) (fun k => if k = true then QB true else wpR (gc env) QB E) E := by
  unfold bOr
  rw [wR_bind]
  congr 1
  funext k
  cases k <;> rfl
theorem w_bNot : wpR (bNot gb env) QB E = wpR (gb env) (fun k => QB (!k)) E := by unfold bNot; simp only [wR_bind, wR_ok]
theorem w_bYes : wpR (bYes env) QB E = QB true := rfl
theorem w_bChain {f f' : D → D → Option Bool} : wpR (bChain f f' a b c env) QB E = wpR (a env) (fun x => wpR (b env) (fun y => wpO (f x y) fun k => if k = true then wpR (c env) (fun z => wpO (f' y z) QB) E else QB false) E) E := by
  unfold bChain
  simp only [wR_bind, wR_of]
  congr 1
  funext x
  congr 1
  funext y
  congr 1
  funext k
  cases k
  · rfl
  · simp only [if_true, wR_bind, wR_of]
theorem w_eAnd : wpR (eAnd a b env) QD E = wpR (a env) (fun x => wpO (truth x) fun k => if k = true then wpR (b env) QD E else QD x) E := by
  unfold eAnd
  simp only [wR_bind, wR_of]
  congr 1
  funext x
  congr 1
  funext k
  cases k <;> rfl
theorem w_eOr : wpR (eOr a b env) QD E = wpR (a env) (fun x => wpO (truth x) fun k => if k = true then QD x else wpR (b env) QD E) E := by
  unfold eOr
  simp only [wR_bind, wR_of]
  congr 1
  funext x
  congr 1
  funext k
  cases k <;> rfl
theorem w_iAny : wpR (iAny a env) QL E = wpR (a env) (fun d => wpO (items d) QL) E := by unfold iAny; simp only [wR_bind, wR_of]
theorem w_oNone {Q : Option Int → Prop} : wpR (oNone env) Q E = Q none := rfl
theorem w_oSomeC {Q : Option Int → Prop} {i : Int} : wpR (oSome (eC (.int i)) env) Q E = Q (some i) := rfl
theorem w_eSl {f : D → Option Int → Option Int → Option D} {lo hi : GO} : wpR (eSl f a lo hi env) QD E = wpR (a env) (fun d => wpR (lo env) (fun l => wpR (hi env) (fun u => wpO (f d l u) QD) E) E) E := by unfold eSl; simp only [wR_bind, wR_of]
theorem w_lSlG {lo hi : GO} : wpR (lSlG a lo hi env) QL E = wpR (a env) (fun d => wpR (lo env) (fun l => wpR (hi env) (fun u => wpO (lSl d l u) QL) E) E) E := by unfold lSlG; simp only [wR_bind, wR_of]
theorem w_lComp {it : GL} {vs : List Nat} {t : GT} {cc : GB} {e : GE} : wpR (lComp it vs t cc e env) QL E = wpR (it env) (fun ds => (ds.length ≤ sizeLine ∧ noOwn env vs = true) ∧ wpR (okOnly (compM t cc e (wipeE env vs) ds)) QL E) E := by
  unfold lComp
  rw [wR_bind]
  congr 1
  funext ds
  by_cases h : ds.length ≤ sizeLine ∧ noOwn env vs = true
  · rw [if_pos h]; exact propext ⟨fun q => ⟨h, q⟩, fun q => q.2⟩
  · rw [if_neg h]; exact propext ⟨fun q => q.elim, fun q => (h q.1).elim⟩
-- statements
variable {N B C : En → Prop} {R : D → Prop} {ES : Er → En → Prop} {p q : GS}
theorem w_onOk {r : Res α} {f : α → Out} : wpS (onOk env r f) N R ES B C = wpR r (fun x => wpS (f x) N R ES B C) (fun e => ES e env) := by cases r <;> rfl
theorem w_sSeq : wpS (sSeq p q env) N R ES B C = wpS (p env) (fun e => wpS (q e) N R ES B C) R ES B C := by
  unfold sSeq
  cases p env <;> rfl
theorem w_sNil : wpS (sNil env) N R ES B C = N env := rfl
theorem w_sBreak : wpS (sBreak env) N R ES B C = B env := rfl
theorem w_sCont : wpS (sCont env) N R ES B C = C env := rfl
theorem w_sSet {i : Nat} : wpS (sSet i a env) N R ES B C = wpR (a env) (fun d => N (env.set i (.val d))) (fun e => ES e env) := by unfold sSet; rw [w_onOk]; rfl
theorem w_sSetL {i : Nat} : wpS (sSetL i g env) N R ES B C = wpR (g env) (fun d => N (env.set i (.own d))) (fun e => ES e env) := by unfold sSetL; rw [w_onOk]; rfl
theorem w_sExpr : wpS (sExpr a env) N R ES B C = wpR (a env) (fun _ => N env) (fun e => ES e env) := by unfold sExpr; rw [w_onOk]; rfl
theorem w_sRet : wpS (sRet a env) N R ES B C = wpR (a env) R (fun e => ES e env) := by unfold sRet; rw [w_onOk]; rfl
theorem w_sRetN : wpS (sRetN env) N R ES B C = R .non := rfl
theorem w_sIf : wpS (sIf gb p q env) N R ES B C = wpR (gb env) (fun k => if k = true then wpS (p env) N R ES B C else wpS (q env) N R ES B C) (fun e => ES e env) := by
  unfold sIf
  rw [w_onOk]
  congr 1
  funext k
  cases k <;> rfl
def wOwn (env : En) (i : Nat) (Q : List D → Prop) : Prop := match env[i]? with
  | some (.own ds) => Q ds
  | _ => False
theorem w_own0 {ds : List D} {r : En} : wOwn (.own ds :: r) 0 QL = QL ds := rfl
theorem w_ownS {s : Sl} {r : En} {i : Nat} : wOwn (s :: r) (i + 1) QL = wOwn r i QL := rfl
theorem w_withOwn {i : Nat} {f : List D → Out} : wpS (withOwn env i f) N R ES B C = wOwn env i (fun ds => wpS (f ds) N R ES B C) := by
  unfold withOwn wOwn
  cases env[i]? with
  | none => rfl
  | some s => cases s <;> rfl
theorem w_sRetO {i : Nat} : wpS (sRetO i env) N R ES B C = wOwn env i (fun ds => R (.lst ds)) := by unfold sRetO; rw [w_withOwn]; rfl
theorem w_sApp {i : Nat} : wpS (sApp i a env) N R ES B C = wOwn env i (fun ds => wpR (a env) (fun d => ds.length < sizeLine ∧ N (env.set i (.own (ds ++ [d])))) (fun e => ES e env)) := by
  unfold sApp
  rw [w_withOwn]
  congr 1
  funext ds
  rw [w_onOk]
  congr 1
  funext d
  by_cases h : ds.length < sizeLine
  · rw [if_pos h]; exact propext ⟨fun q => ⟨h, q⟩, fun q => q.2⟩
  · rw [if_neg h]; exact propext ⟨fun q => q.elim, fun q => (h q.1).elim⟩
theorem w_sSetIx {i : Nat} : wpS (sSetIx i a b env) N R ES B C = wpR (b env) (fun d => wOwn env i fun ds => wpR (a env) (fun k => match k with
    | .int z => wpO (ixN ds.length z) fun j => N (env.set i (.own (ds.set j d)))
    | _ => False) (fun e => ES e env)) (fun e => ES e env) := by
  unfold sSetIx
  rw [w_onOk]
  congr 1
  funext d
  rw [w_withOwn]
  congr 1
  funext ds
  rw [w_onOk]
  congr 1
  funext k
  cases k <;> try rfl
  rename_i z
  show wpS (match ixN ds.length z with | some j => _ | none => _) _ _ _ _ _ = wpO (ixN ds.length z) _
  cases ixN ds.length z <;> rfl
theorem w_sAug0 {f : D → D → Option D} {d : D} {r : En} {i : Nat} (h : env[i]? = some (.val d)) : wpS (sAug i f a env) N R ES B C = wpR (a env) (fun e => wpO (f d e) fun z => N (env.set i (.val z))) (fun e => ES e env) := by
  unfold sAug
  rw [h]
  show wpS (onOk env (a env) _) _ _ _ _ _ = _
  rw [w_onOk]
  congr 1
  funext e
  cases f d e <;> rfl
theorem w_sFrz {i : Nat} : wpS (sFrz i p env) N R ES B C = wpS (p (frz i env)) N R ES B C := rfl
theorem w_sThen {i : Nat} : wpS (sThen i p env) N R ES B C = wpS (p env) (fun e => N (frz i e)) R ES B C := by
  unfold sThen
  cases p env <;> rfl
theorem w_sRaise {x : Er} : wpS (sRaise x env) N R ES B C = ES x env := rfl
theorem w_sAsg {t : GT} : wpS (sAsg t a env) N R ES B C = wpR (a env) (fun d => wpO (t d env) N) (fun e => ES e env) := by
  unfold sAsg
  rw [w_onOk]
  congr 1
  funext d
  cases t d env <;> rfl
theorem w_sFor {it : GL} {t : GT} : wpS (sFor it t p env) N R ES B C = wpR (it env) (fun ds => wpS (forL t p ds env) N R ES B C) (fun e => ES e env) := by unfold sFor; rw [w_onOk]
theorem w_sTry {cat : List (String × Bool)} : wpS (sTry cat p q env) N R ES B C = wpS (p env) N R (fun e env' => match cat.lookup e.cls with
    | some true => wpS (q env') N R (fun _ _ => False) B C
    | some false => ES e env'
    | none => False) B C := by
  unfold sTry
  cases p env <;> try rfl
  rename_i e env'
  show wpS (match cat.lookup e.cls with | some true => _ | some false => _ | none => _) _ _ _ _ _ = (match cat.lookup e.cls with | some true => _ | some false => _ | none => _)
  cases cat.lookup e.cls with
  | none => rfl
  | some b =>
    cases b with
    | false => rfl
    | true =>
      show wpS (match q env' with | .err _ _ => _ | r => r) _ _ _ _ _ = wpS (q env') _ _ _ _ _
      cases q env' <;> rfl
theorem w_runF {n nn : Nat} {ds : List D} (h : ds.length = n) : wpR (runF n nn p ds) QD E = wpS (p (ds.map Sl.val ++ List.replicate (nn - n) .unk)) (fun _ => QD .non) QD (fun e _ => E e) (fun _ => False) (fun _ => False) := by
  unfold runF
  rw [if_pos h]
  cases p (ds.map Sl.val ++ List.replicate (nn - n) .unk) <;> rfl
-- targets
theorem t_name {i : Nat} {d : D} {QE : En → Prop} : wpO (tName i d env) QE = QE (env.set i (.val d)) := rfl
theorem t_tup {n : Nat} {ts : List D → En → Option En} {ds : List D} {QE : En → Prop} (h : ds.length = n) : wpO (tTup n ts (.tup ds) env) QE = wpO (ts ds env) QE := by show wpO (if ds.length = n then _ else _) _ = _; rw [if_pos h]
theorem t_lst {n : Nat} {ts : List D → En → Option En} {ds : List D} {QE : En → Prop} (h : ds.length = n) : wpO (tTup n ts (.lst ds) env) QE = wpO (ts ds env) QE := by show wpO (if ds.length = n then _ else _) _ = _; rw [if_pos h]
theorem t_nil {QE : En → Prop} : wpO (tsNil [] env) QE = QE env := rfl
theorem t_cons {t : GT} {r : List D → En → Option En} {d : D} {ds : List D} {QE : En → Prop} : wpO (tsCons t r (d :: ds) env) QE = wpO (t d env) (fun e => wpO (r ds e) QE) := by show wpO ((t d env).bind _) _ = _; rw [wO_bind]
-- operations
theorem o_plus {i j : Int} : wpO (dPlus (.int i) (.int j)) QD = QD (.int (i + j)) := rfl
theorem o_plusL {xs ys : List D} : wpO (dPlus (.lst xs) (.lst ys)) QD = (xs.length + ys.length ≤ sizeLine ∧ QD (.lst (xs ++ ys))) := by
  show wpO (match dAdd (.lst xs) (.lst ys) with | some z => some z | none => (lAdd (.lst xs) (.lst ys)).map .lst) _ = _
  show wpO ((if xs.length + ys.length ≤ sizeLine then some (xs ++ ys) else none).map D.lst) _ = _
  rw [wO_map, wO_ite]
theorem o_lAdd {xs ys : List D} : wpO (lAdd (.lst xs) (.lst ys)) QL = (xs.length + ys.length ≤ sizeLine ∧ QL (xs ++ ys)) := wO_ite
theorem o_sub {i j : Int} : wpO (dSub (.int i) (.int j)) QD = QD (.int (i - j)) := rfl
theorem o_neg {i : Int} : wpO (dNeg (.int i)) QD = QD (.int (-i)) := rfl
theorem o_mul {i j : Int} : wpO (dMul (.int i) (.int j)) QD = ((Sm i ∧ Sm j) ∧ QD (.int (i * j))) := by
  show wpO ((iMul i j).map D.int) _ = _
  unfold iMul
  rw [wO_map, wO_ite]
theorem o_fdiv {i j : Int} : wpO (dFdiv (.int i) (.int j)) QD = (S9 j ∧ QD (.int (i.fdiv j))) := by
  show wpO ((iFdiv i j).map D.int) _ = _
  unfold iFdiv
  rw [wO_map, wO_ite]
theorem o_mod {i j : Int} : wpO (dMod (.int i) (.int j)) QD = (j ≠ 0 ∧ QD (.int (i.fmod j))) := by
  show wpO ((iMod i j).map D.int) _ = _
  unfold iMod
  rw [wO_map, wO_ite]
theorem o_pow {i j : Int} : wpO (dPow (.int i) (.int j)) QD = ((0 ≤ j ∧ j ≤ 1000000 ∧ i.natAbs < 18446744073709551616) ∧ QD (.int (i ^ j.toNat))) := by
  show wpO ((iPow i j).map D.int) _ = _
  unfold iPow
  rw [wO_map, wO_ite]
theorem o_lt {i j : Int} : wpO (cLt (.int i) (.int j)) QB = QB (decide (i < j)) := rfl
theorem o_le {i j : Int} : wpO (cLe (.int i) (.int j)) QB = QB (decide (i ≤ j)) := rfl
theorem o_gt {i j : Int} : wpO (cGt (.int i) (.int j)) QB = QB (decide (j < i)) := rfl
theorem o_ge {i j : Int} : wpO (cGe (.int i) (.int j)) QB = QB (decide (j ≤ i)) := rfl
theorem okD_int (i : Int) : okD (.int i) = true := by show (true && decide ((PyData.int i).depth ≤ 60)) = true; rfl
theorem okD_str (s : List Nat) : okD (.str s) = true := by show (true && decide ((PyData.str ⟨s.toArray⟩).depth ≤ 60)) = true; rfl
theorem cEq_int (i j : Int) : cEq (.int i) (.int j) = some (decide (i = j)) := by
  unfold cEq
  rw [okD_int, okD_int]
  rfl
theorem o_eq {i j : Int} : wpO (cEq (.int i) (.int j)) QB = QB (decide (i = j)) := by rw [cEq_int]; rfl
theorem o_ne {i j : Int} : wpO (cNe (.int i) (.int j)) QB = QB (!decide (i = j)) := by unfold cNe; rw [cEq_int]; rfl
theorem o_truthB {k : Bool} : wpO (truth (.bl k)) QB = QB k := rfl
theorem o_truthI {i : Int} : wpO (truth (.int i)) QB = QB (i != 0) := rfl
theorem o_truthN : wpO (truth .non) QB = QB false := rfl
theorem o_truthL {xs : List D} : wpO (truth (.lst xs)) QB = QB (!xs.isEmpty) := rfl
theorem o_truthT {xs : List D} : wpO (truth (.tup xs)) QB = QB (!xs.isEmpty) := rfl
theorem o_truthS {xs : List Nat} : wpO (truth (.str xs)) QB = QB (!xs.isEmpty) := rfl
theorem o_notB {k : Bool} : wpO (notD (.bl k)) QD = QD (.bl (!k)) := rfl
theorem o_isN {d : D} (h : d ≠ .non := by intro h; cases h) : wpO (cIs d .non) QB = QB false := by cases d <;> first | rfl | exact absurd rfl h
theorem o_isNN : wpO (cIs .non .non) QB = QB true := rfl
theorem o_isBT {a : Bool} : wpO (cIs (.bl a) (.bl true)) QB = QB a := by cases a <;> rfl
theorem o_isBF {a : Bool} : wpO (cIs (.bl a) (.bl false)) QB = QB (!a) := by cases a <;> rfl
theorem o_isT {a b : String} : wpO (cIs (.ty a) (.ty b)) QB = QB (a == b) := rfl
theorem o_isIB {i : Int} {b : Bool} : wpO (cIs (.int i) (.bl b)) QB = QB false := rfl
theorem o_isSB {i : List Nat} {b : Bool} : wpO (cIs (.str i) (.bl b)) QB = QB false := rfl
theorem o_isLB {i : List D} {b : Bool} : wpO (cIs (.lst i) (.bl b)) QB = QB false := rfl
theorem o_isTB {i : List D} {b : Bool} : wpO (cIs (.tup i) (.bl b)) QB = QB false := rfl
theorem o_isNB {b : Bool} : wpO (cIs .non (.bl b)) QB = QB false := rfl
theorem o_isNot {d e : D} : wpO (cIsNot d e) QB = wpO (cIs d e) (fun k => QB (!k)) := by unfold cIsNot; rw [wO_map]
theorem o_lenL {xs : List D} : wpO (fLen [.lst xs]) QD = QD (.int xs.length) := rfl
theorem o_lenT {xs : List D} : wpO (fLen [.tup xs]) QD = QD (.int xs.length) := rfl
theorem o_lenS {xs : List Nat} : wpO (fLen [.str xs]) QD = QD (.int xs.length) := rfl
theorem o_abs {i : Int} : wpO (fAbs [.int i]) QD = QD (.int (if i < 0 then -i else i)) := rfl
theorem o_intI {i : Int} : wpO (fInt [.int i]) QD = QD (.int i) := rfl
theorem o_intB {k : Bool} : wpO (fInt [.bl k]) QD = QD (.int (if k then 1 else 0)) := rfl
theorem o_str {i : Int} : wpO (fStr [.int i]) QD = ((i.natAbs.log2 < 1920 ∧ (strInt i).length ≤ sizeLine) ∧ QD (.str (strInt i))) := wO_ite
theorem o_gcd {i j : Int} : wpO (fGcd [.int i, .int j]) QD = QD (.int ((Nat.gcd i.natAbs j.natAbs : Nat) : Int)) := rfl
theorem o_list {xs : List D} : wpO (fList [.lst xs]) QL = QL xs := rfl
theorem o_listT {xs : List D} : wpO (fList [.tup xs]) QL = QL xs := rfl
theorem o_tuple {xs : List D} : wpO (fTuple [.lst xs]) QD = QD (.tup xs) := rfl
theorem o_tupleT {xs : List D} : wpO (fTuple [.tup xs]) QD = QD (.tup xs) := rfl
theorem o_rev {xs : List D} : wpO (revL (.lst xs)) QL = QL xs.reverse := rfl
theorem o_type {d : D} : wpO (fType [d]) QD = wpO (tyName d) (fun n => QD (.ty n)) := by show wpO ((tyName d).map D.ty) _ = _; rw [wO_map]
theorem o_isi {d : D} {b : String} : wpO (fIsi [d, .ty b]) QD = wpO (tyName d) (fun n => b ∈ tyNames ∧ QD (.bl (isSubTy n b))) := by
  show wpO ((tyName d).bind fun n => if b ∈ tyNames then some (D.bl (isSubTy n b)) else none) _ = _
  rw [wO_bind]
  congr 1
  funext n
  rw [wO_ite]
theorem o_isi2 {d : D} {a b : String} : wpO (fIsi [d, .tup [.ty a, .ty b]]) QD = wpO (tyName d) (fun n => (a ∈ tyNames ∧ b ∈ tyNames) ∧ QD (.bl (isSubTy n a || isSubTy n b))) := by
  show wpO ((tyName d).bind fun n => (isiAny n [.ty a, .ty b]).map D.bl) _ = _
  rw [wO_bind]
  congr 1
  funext n
  rw [wO_map]
  show wpO (if a ∈ tyNames then ((if b ∈ tyNames then (some false).map fun k => isSubTy n b || k else none).map fun k => isSubTy n a || k) else none) _ = _
  by_cases h : a ∈ tyNames <;> by_cases h' : b ∈ tyNames <;> simp [h, h', wpO]
theorem o_rg1 {j : Int} : wpO (rg1 [.int j]) QL = ((-1000000000 ≤ j ∧ j ≤ 1000000000) ∧ QL (rangeD 0 j.toNat)) := wO_ite
theorem o_rg2 {i j : Int} : wpO (rg2 [.int i, .int j]) QL = ((-1000000000 ≤ i ∧ i ≤ 1000000000 ∧ -1000000000 ≤ j ∧ j ≤ 1000000000) ∧ QL (rangeD i (j - i).toNat)) := wO_ite
theorem o_zip {xs ys : List D} : wpO (zipF [.lst xs, .lst ys]) QL = QL (zipD xs ys) := rfl
theorem o_zipT {xs ys : List D} : wpO (zipF [.tup xs, .tup ys]) QL = QL (zipD xs ys) := rfl
theorem o_itemsL {xs : List D} : wpO (items (.lst xs)) QL = QL xs := rfl
theorem o_itemsT {xs : List D} : wpO (items (.tup xs)) QL = QL xs := rfl
theorem o_ixL {xs : List D} {i : Int} : wpO (dIx (.lst xs) (.int i)) QD = wpO (atI xs i) QD := rfl
theorem o_ixT {xs : List D} {i : Int} : wpO (dIx (.tup xs) (.int i)) QD = wpO (atI xs i) QD := rfl
theorem o_at {xs : List α} {i : Nat} {x : α} (h : xs[i]? = some x) : wpO (atI xs (i : Int)) Q = Q x := by rw [show atI xs (i : Int) = some x from atI_nat h]; rfl
theorem o_at0 {xs : List α} {x : α} : wpO (atI (x :: xs) 0) Q = Q x := o_at (i := 0) rfl
theorem o_at1 {xs : List α} {x y : α} : wpO (atI (x :: y :: xs) 1) Q = Q y := o_at (i := 1) rfl
theorem o_at2 {xs : List α} {x0 x1 x2 : α} : wpO (atI (x0 :: x1 :: x2 :: xs) 2) Q = Q x2 := o_at (i := 2) rfl
theorem o_at3 {xs : List α} {x0 x1 x2 x3 : α} : wpO (atI (x0 :: x1 :: x2 :: x3 :: xs) 3) Q = Q x3 := o_at (i := 3) rfl
theorem o_at4 {xs : List α} {x0 x1 x2 x3 x4 : α} : wpO (atI (x0 :: x1 :: x2 :: x3 :: x4 :: xs) 4) Q = Q x4 := o_at (i := 4) rfl
theorem o_at5 {xs : List α} {x0 x1 x2 x3 x4 x5 : α} : wpO (atI (x0 :: x1 :: x2 :: x3 :: x4 :: x5 :: xs) 5) Q = Q x5 := o_at (i := 5) rfl
theorem o_at6 {xs : List α} {x0 x1 x2 x3 x4 x5 x6 : α} : wpO (atI (x0 :: x1 :: x2 :: x3 :: x4 :: x5 :: x6 :: xs) 6) Q = Q x6 := o_at (i := 6) rfl
theorem o_at7 {xs : List α} {x0 x1 x2 x3 x4 x5 x6 x7 : α} : wpO (atI (x0 :: x1 :: x2 :: x3 :: x4 :: x5 :: x6 :: x7 :: xs) 7) Q = Q x7 := o_at (i := 7) rfl
theorem o_at8 {xs : List α} {x0 x1 x2 x3 x4 x5 x6 x7 x8 : α} : wpO (atI (x0 :: x1 :: x2 :: x3 :: x4 :: x5 :: x6 :: x7 :: x8 :: xs) 8) Q = Q x8 := o_at (i := 8) rfl
theorem o_at9 {xs : List α} {x0 x1 x2 x3 x4 x5 x6 x7 x8 x9 : α} : wpO (atI (x0 :: x1 :: x2 :: x3 :: x4 :: x5 :: x6 :: x7 :: x8 :: x9 :: xs) 9) Q = Q x9 := o_at (i := 9) rfl
theorem o_at10 {xs : List α} {x0 x1 x2 x3 x4 x5 x6 x7 x8 x9 x10 : α} : wpO (atI (x0 :: x1 :: x2 :: x3 :: x4 :: x5 :: x6 :: x7 :: x8 :: x9 :: x10 :: xs) 10) Q = Q x10 := o_at (i := 10) rfl
theorem o_at11 {xs : List α} {x0 x1 x2 x3 x4 x5 x6 x7 x8 x9 x10 x11 : α} : wpO (atI (x0 :: x1 :: x2 :: x3 :: x4 :: x5 :: x6 :: x7 :: x8 :: x9 :: x10 :: x11 :: xs) 11) Q = Q x11 := o_at (i := 11) rfl
theorem o_at12 {xs : List α} {x0 x1 x2 x3 x4 x5 x6 x7 x8 x9 x10 x11 x12 : α} : wpO (atI (x0 :: x1 :: x2 :: x3 :: x4 :: x5 :: x6 :: x7 :: x8 :: x9 :: x10 :: x11 :: x12 :: xs) 12) Q = Q x12 := o_at (i := 12) rfl
theorem o_at13 {xs : List α} {x0 x1 x2 x3 x4 x5 x6 x7 x8 x9 x10 x11 x12 x13 : α} : wpO (atI (x0 :: x1 :: x2 :: x3 :: x4 :: x5 :: x6 :: x7 :: x8 :: x9 :: x10 :: x11 :: x12 :: x13 :: xs) 13) Q = Q x13 := o_at (i := 13) rfl
theorem o_at14 {xs : List α} {x0 x1 x2 x3 x4 x5 x6 x7 x8 x9 x10 x11 x12 x13 x14 : α} : wpO (atI (x0 :: x1 :: x2 :: x3 :: x4 :: x5 :: x6 :: x7 :: x8 :: x9 :: x10 :: x11 :: x12 :: x13 :: x14 :: xs) 14) Q = Q x14 := o_at (i := 14) rfl
theorem o_at15 {xs : List α} {x0 x1 x2 x3 x4 x5 x6 x7 x8 x9 x10 x11 x12 x13 x14 x15 : α} : wpO (atI (x0 :: x1 :: x2 :: x3 :: x4 :: x5 :: x6 :: x7 :: x8 :: x9 :: x10 :: x11 :: x12 :: x13 :: x14 :: x15 :: xs) 15) Q = Q x15 := o_at (i := 15) rfl
theorem o_atM1 {xs : List α} {x : α} (h : xs.getLast? = some x) : wpO (atI xs (-1)) Q = Q x := by
  have : atI xs (-1) = some x := by
    obtain ⟨ys, rfl⟩ := List.getLast?_eq_some_iff.mp h
    exact atI_last _ _
  rw [this]; rfl
theorem w_eIxO {i : Nat} : wpR (eIxO i a env) QD E = wOwn env i (fun ds => wpR (a env) (fun k => wpO (dIx (.lst ds) k) QD) E) := by
  unfold eIxO wOwn
  cases env[i]? with
  | none => rfl
  | some s =>
    cases s <;> try rfl
    show wpR ((a env).bind _) _ _ = _
    rw [wR_bind]
    simp only [wR_of]
theorem sz_0 : ((0 : Nat) ≤ sizeLine) = True := eq_true (by decide)
theorem szl_0 : ((0 : Nat) < sizeLine) = True := eq_true (by decide)
theorem sz_1 : ((1 : Nat) ≤ sizeLine) = True := eq_true (by decide)
theorem szl_1 : ((1 : Nat) < sizeLine) = True := eq_true (by decide)
theorem sz_2 : ((2 : Nat) ≤ sizeLine) = True := eq_true (by decide)
theorem szl_2 : ((2 : Nat) < sizeLine) = True := eq_true (by decide)
theorem sz_3 : ((3 : Nat) ≤ sizeLine) = True := eq_true (by decide)
theorem szl_3 : ((3 : Nat) < sizeLine) = True := eq_true (by decide)
theorem sz_4 : ((4 : Nat) ≤ sizeLine) = True := eq_true (by decide)
theorem szl_4 : ((4 : Nat) < sizeLine) = True := eq_true (by decide)
theorem sz_5 : ((5 : Nat) ≤ sizeLine) = True := eq_true (by decide)
theorem szl_5 : ((5 : Nat) < sizeLine) = True := eq_true (by decide)
theorem sz_6 : ((6 : Nat) ≤ sizeLine) = True := eq_true (by decide)
theorem szl_6 : ((6 : Nat) < sizeLine) = True := eq_true (by decide)
theorem sz_7 : ((7 : Nat) ≤ sizeLine) = True := eq_true (by decide)
theorem szl_7 : ((7 : Nat) < sizeLine) = True := eq_true (by decide)
theorem sz_8 : ((8 : Nat) ≤ sizeLine) = True := eq_true (by decide)
theorem szl_8 : ((8 : Nat) < sizeLine) = True := eq_true (by decide)
theorem sz_9 : ((9 : Nat) ≤ sizeLine) = True := eq_true (by decide)
theorem szl_9 : ((9 : Nat) < sizeLine) = True := eq_true (by decide)
theorem sz_10 : ((10 : Nat) ≤ sizeLine) = True := eq_true (by decide)
theorem szl_10 : ((10 : Nat) < sizeLine) = True := eq_true (by decide)
theorem sz_11 : ((11 : Nat) ≤ sizeLine) = True := eq_true (by decide)
theorem szl_11 : ((11 : Nat) < sizeLine) = True := eq_true (by decide)
theorem sz_12 : ((12 : Nat) ≤ sizeLine) = True := eq_true (by decide)
theorem szl_12 : ((12 : Nat) < sizeLine) = True := eq_true (by decide)
theorem sz_13 : ((13 : Nat) ≤ sizeLine) = True := eq_true (by decide)
theorem szl_13 : ((13 : Nat) < sizeLine) = True := eq_true (by decide)
theorem sz_14 : ((14 : Nat) ≤ sizeLine) = True := eq_true (by decide)
theorem szl_14 : ((14 : Nat) < sizeLine) = True := eq_true (by decide)
theorem sz_15 : ((15 : Nat) ≤ sizeLine) = True := eq_true (by decide)
theorem szl_15 : ((15 : Nat) < sizeLine) = True := eq_true (by decide)
theorem sz_16 : ((16 : Nat) ≤ sizeLine) = True := eq_true (by decide)
theorem szl_16 : ((16 : Nat) < sizeLine) = True := eq_true (by decide)
theorem sz_17 : ((17 : Nat) ≤ sizeLine) = True := eq_true (by decide)
theorem szl_17 : ((17 : Nat) < sizeLine) = True := eq_true (by decide)
theorem sz_18 : ((18 : Nat) ≤ sizeLine) = True := eq_true (by decide)
theorem szl_18 : ((18 : Nat) < sizeLine) = True := eq_true (by decide)
theorem sz_19 : ((19 : Nat) ≤ sizeLine) = True := eq_true (by decide)
theorem szl_19 : ((19 : Nat) < sizeLine) = True := eq_true (by decide)
theorem sz_20 : ((20 : Nat) ≤ sizeLine) = True := eq_true (by decide)
theorem szl_20 : ((20 : Nat) < sizeLine) = True := eq_true (by decide)
theorem sz_21 : ((21 : Nat) ≤ sizeLine) = True := eq_true (by decide)
theorem szl_21 : ((21 : Nat) < sizeLine) = True := eq_true (by decide)
theorem sz_22 : ((22 : Nat) ≤ sizeLine) = True := eq_true (by decide)
theorem szl_22 : ((22 : Nat) < sizeLine) = True := eq_true (by decide)
theorem sz_23 : ((23 : Nat) ≤ sizeLine) = True := eq_true (by decide)
theorem szl_23 : ((23 : Nat) < sizeLine) = True := eq_true (by decide)
theorem sz_24 : ((24 : Nat) ≤ sizeLine) = True := eq_true (by decide)
theorem szl_24 : ((24 : Nat) < sizeLine) = True := eq_true (by decide)
theorem sz_25 : ((25 : Nat) ≤ sizeLine) = True := eq_true (by decide)
theorem szl_25 : ((25 : Nat) < sizeLine) = True := eq_true (by decide)
theorem sz_26 : ((26 : Nat) ≤ sizeLine) = True := eq_true (by decide)
theorem szl_26 : ((26 : Nat) < sizeLine) = True := eq_true (by decide)
theorem sz_27 : ((27 : Nat) ≤ sizeLine) = True := eq_true (by decide)
theorem szl_27 : ((27 : Nat) < sizeLine) = True := eq_true (by decide)
theorem sz_28 : ((28 : Nat) ≤ sizeLine) = True := eq_true (by decide)
theorem szl_28 : ((28 : Nat) < sizeLine) = True := eq_true (by decide)
theorem sz_29 : ((29 : Nat) ≤ sizeLine) = True := eq_true (by decide)
theorem szl_29 : ((29 : Nat) < sizeLine) = True := eq_true (by decide)
theorem sz_30 : ((30 : Nat) ≤ sizeLine) = True := eq_true (by decide)
theorem szl_30 : ((30 : Nat) < sizeLine) = True := eq_true (by decide)
theorem sz_31 : ((31 : Nat) ≤ sizeLine) = True := eq_true (by decide)
theorem szl_31 : ((31 : Nat) < sizeLine) = True := eq_true (by decide)
theorem sz_32 : ((32 : Nat) ≤ sizeLine) = True := eq_true (by decide)
theorem szl_32 : ((32 : Nat) < sizeLine) = True := eq_true (by decide)
def borE (E : Er → Prop) : Er → Prop
  | .plain x => E (.plain x)
  | .one x f d => scalD d = true ∧ E (.one x f d)
theorem w_bor {r : Res α} {ok : α → Bool} : wpR (bor ok r) Q E = wpR r (fun a => ok a = true ∧ Q a) (borE E) := by
  cases r with
  | ok a =>
    show wpR (if ok a then Res.ok a else Res.stuck) Q E = (ok a = true ∧ Q a)
    by_cases h : ok a = true
    · rw [if_pos h]; exact propext ⟨fun q => ⟨h, q⟩, fun q => q.2⟩
    · rw [if_neg h]; exact propext ⟨fun q => q.elim, fun q => (h q.1).elim⟩
  | err e =>
    cases e with
    | plain x => rfl
    | one x f d =>
      show wpR (if scalD d then Res.err (.one x f d) else Res.stuck) Q E = (scalD d = true ∧ E (.one x f d))
      by_cases h : scalD d = true
      · rw [if_pos h]; exact propext ⟨fun q => ⟨h, q⟩, fun q => q.2⟩
      · rw [if_neg h]; exact propext ⟨fun q => q.elim, fun q => (h q.1).elim⟩
  | stuck => rfl
theorem w_eBor {i : Nat} : wpR (eBor i a env) QD E = wpR (a (frz i env)) (fun d => scalD d = true ∧ QD d) (borE E) := w_bor
theorem w_bBor {i : Nat} : wpR (bBor i gb env) QB E = wpR (gb (frz i env)) (fun d => true = true ∧ QB d) (borE E) := w_bor
theorem t_tup1 {n : List D → En → Option En} {d : D} {QE : En → Prop} : wpO (tTup 1 n (.tup [d]) env) QE = wpO (n [d] env) QE := t_tup rfl
theorem t_tup2 {n : List D → En → Option En} {d e : D} {QE : En → Prop} : wpO (tTup 2 n (.tup [d, e]) env) QE = wpO (n [d, e] env) QE := t_tup rfl
theorem t_tup3 {n : List D → En → Option En} {d e f : D} {QE : En → Prop} : wpO (tTup 3 n (.tup [d, e, f]) env) QE = wpO (n [d, e, f] env) QE := t_tup rfl
theorem t_tup9 {n : List D → En → Option En} {a b c d e f g h i : D} {QE : En → Prop} : wpO (tTup 9 n (.tup [a, b, c, d, e, f, g, h, i]) env) QE = wpO (n [a, b, c, d, e, f, g, h, i] env) QE := t_tup rfl
theorem w_okOnly {r : Res α} : wpR (okOnly r) Q E = wpR r Q (fun _ => False) := by cases r <;> rfl
theorem w_compN {t : GT} {cc : GB} {e : GE} : wpR (compM t cc e env []) QL E = QL [] := rfl
theorem w_compC {t : GT} {cc : GB} {e : GE} {d : D} {ds : List D} : wpR (compM t cc e env (d :: ds)) QL E = wpO (t d env) fun e1 => wpR (cc e1) (fun k => if k = true then wpR (e e1) (fun y => wpR (compM t cc e env ds) (fun ys => QL (y :: ys)) E) E else wpR (compM t cc e env ds) QL E) E := by
  rw [compM]
  cases t d env with
  | none => rfl
  | some e1 =>
    show wpR ((cc e1).bind _) _ _ = wpR (cc e1) _ _
    rw [wR_bind]
    congr 1
    funext k
    cases k
    · rfl
    · simp only [if_true, wR_bind, wR_ok]
theorem w_forN {t : GT} : wpS (forL t p [] env) N R ES B C = N env := rfl
theorem w_forC {t : GT} {d : D} {ds : List D} : wpS (forL t p (d :: ds) env) N R ES B C = wpO (t d env) fun e1 => wpS (p e1) (fun e => wpS (forL t p ds e) N R ES B C) R ES N (fun e => wpS (forL t p ds e) N R ES B C) := by
  rw [forL]
  cases t d env with
  | none => rfl
  | some e1 =>
    show wpS (match p e1 with | .next e => forL t p ds e | .cont e => forL t p ds e | .brk e => .next e | .ret d => .ret d | .err x e => .err x e | .stuck => .stuck) _ _ _ _ _ = wpS (p e1) _ _ _ _ _
    cases p e1 <;> rfl
theorem o_all {xs : List D} : wpO (fAll [.lst xs]) QD = wpO (bls? xs) (fun bs => QD (.bl (bs.all id))) := wO_map
theorem o_any {xs : List D} : wpO (fAny [.lst xs]) QD = wpO (bls? xs) (fun bs => QD (.bl (bs.any id))) := wO_map
theorem bls_nil {Q : List Bool → Prop} : wpO (bls? []) Q = Q [] := rfl
theorem bls_cons {b : Bool} {xs : List D} {Q : List Bool → Prop} : wpO (bls? (.bl b :: xs)) Q = wpO (bls? xs) (fun bs => Q (b :: bs)) := wO_map
theorem o_minL {xs : List D} : wpO (fMin [.lst xs]) QD = wpO (ints? xs) (fun ns => wpO (ns.min?) fun i => QD (.int i)) := by
  show wpO ((ints? xs).bind _) _ = _
  rw [wO_bind]
  simp only [wO_map]
theorem o_maxL {xs : List D} : wpO (fMax [.lst xs]) QD = wpO (ints? xs) (fun ns => wpO (ns.max?) fun i => QD (.int i)) := by
  show wpO ((ints? xs).bind _) _ = _
  rw [wO_bind]
  simp only [wO_map]
theorem o_sumL {xs : List D} : wpO (fSum [.lst xs]) QD = wpO (ints? xs) (fun ns => QD (.int ns.sum)) := wO_map
theorem ints_nil {Q : List Int → Prop} : wpO (ints? []) Q = Q [] := rfl
theorem ints_cons {b : Int} {xs : List D} {Q : List Int → Prop} : wpO (ints? (.int b :: xs)) Q = wpO (ints? xs) (fun bs => Q (b :: bs)) := wO_map
theorem o_min3 {a b c : Int} {Q : Int → Prop} : wpO ([a, b, c].min?) Q = Q (min (min a b) c) := rfl
theorem o_max3 {a b c : Int} {Q : Int → Prop} : wpO ([a, b, c].max?) Q = Q (max (max a b) c) := rfl
theorem o_slL {xs : List D} {lo hi : Option Int} : wpO (dSl (.lst xs) lo hi) QD = QD (.lst (cutD xs lo hi)) := rfl
theorem o_slT {xs : List D} {lo hi : Option Int} : wpO (dSl (.tup xs) lo hi) QD = QD (.tup (cutD xs lo hi)) := rfl
theorem o_allB {xs : List D} {bs : List Bool} (h : bls? xs = some bs) : wpO (fAll [.lst xs]) QD = QD (.bl (bs.all id)) := by show wpO ((bls? xs).map _) _ = _; rw [h]; rfl
/-! ### loops -/
theorem w_forI {t : GT} {ds : List D} (I : Nat → En → Prop) (h0 : I 0 env) (hs : ∀ i d env, ds[i]? = some d → I i env → wpO (t d env) fun e1 => wpS (p e1) (I (i + 1)) R ES N (I (i + 1))) (hN : ∀ env, I ds.length env → N env) : wpS (forL t p ds env) N R ES B C := by
  have gen : ∀ (rest : List D) (k : Nat) (env : En), ds.drop k = rest → k ≤ ds.length → I k env → wpS (forL t p rest env) N R ES B C := by
    intro rest
    induction rest with
    | nil =>
      intro k env hk hle hI
      have : k = ds.length := by
        have := congrArg List.length hk
        simp at this
        omega
      subst this
      exact hN env hI
    | cons d rest ih =>
      intro k env hk hle hI
      have hd : ds[k]? = some d := by
        have := congrArg (fun l => l[0]?) hk
        simpa using this
      have hlt : k < ds.length := (List.getElem?_eq_some_iff.mp hd).1
      have hr : ds.drop (k + 1) = rest := by
        have := congrArg List.tail hk
        simpa using this
      have q := hs k d env hd hI
      unfold forL
      revert q
      cases t d env with
      | none => exact fun q => q.elim
      | some e1 =>
        intro q
        have q : wpS (p e1) (I (k + 1)) R ES N (I (k + 1)) := q
        revert q
        show wpS (p e1) _ _ _ _ _ → wpS (match p e1 with | .next e => forL t p rest e | .cont e => forL t p rest e | .brk e => .next e | .ret d => .ret d | .err x e => .err x e | .stuck => .stuck) _ _ _ _ _
        cases p e1 with
        | next e => exact fun q => ih (k + 1) e hr hlt q
        | cont e => exact fun q => ih (k + 1) e hr hlt q
        | brk e => exact fun q => q
        | ret d => exact fun q => q
        | err x e => exact fun q => q
        | stuck => exact fun q => q
  exact gen ds 0 env rfl (Nat.zero_le _) h0
theorem w_forP {t : GT} {ds : List D} (I : En → Prop) (h0 : I env) (hs : ∀ d ∈ ds, ∀ env, I env → wpO (t d env) fun e1 => wpS (p e1) I R ES N I) (hN : ∀ env, I env → N env) : wpS (forL t p ds env) N R ES B C :=
  w_forI (fun _ => I) h0 (fun i d env hd hI => hs d (List.mem_of_getElem? hd) env hI) hN
theorem w_compF {t : GT} {cc : GB} {e : GE} {ds : List D} (f : D → D) (h : ∀ d ∈ ds, wpO (t d env) fun e1 => wpR (cc e1) (fun k => k = true ∧ wpR (e e1) (fun y => y = f d) fun _ => False) fun _ => False) (q : QL (ds.map f)) : wpR (compM t cc e env ds) QL E := by
  have key : compM t cc e env ds = .ok (ds.map f) := by
    clear q
    induction ds with
    | nil => rfl
    | cons d ds ih =>
      have h1 := h d List.mem_cons_self
      have h2 := ih fun d hd => h d (List.mem_cons_of_mem _ hd)
      unfold compM
      revert h1
      cases t d env with
      | none => exact fun h => h.elim
      | some e1 =>
        intro h1
        have h1 : wpR (cc e1) _ _ := h1
        revert h1
        show wpR (cc e1) _ _ → (cc e1).bind _ = _
        cases cc e1 with
        | ok k =>
          intro h1
          obtain ⟨rfl, h1⟩ : k = true ∧ wpR (e e1) (fun y => y = f d) (fun _ => False) := h1
          have := wR_eq h1
          show Res.bind (e e1) (fun y => Res.bind (compM t cc e env ds) fun ys => Res.ok (y :: ys)) = _
          rw [this, h2]
          rfl
        | err x => exact fun h => h.elim
        | stuck => exact fun h => h.elim
  rw [key]
  exact q
end
theorem rangeD_get {lo : Int} {n i : Nat} {d : D} (h : (rangeD lo n)[i]? = some d) : d = .int (lo + i) ∧ i < n := by
  unfold rangeD at h
  rw [List.getElem?_map] at h
  by_cases hi : i < n
  · rw [List.getElem?_range hi] at h
    cases h
    exact ⟨rfl, hi⟩
  · rw [List.getElem?_eq_none (by simpa using hi)] at h
    cases h
theorem rangeD_len {lo : Int} {n : Nat} : (rangeD lo n).length = n := by simp [rangeD]
end AF

set_option maxHeartbeats 4000000
namespace AF
open PySem PySem.Spec PyProof.Rows L2
def b__law_numbers_1 : GS :=
  sIf (b2 cGe (eVar 3) (e2 dPow (eC (.int 10)) (eC (.int 18))))
    (sSeq (sApp 4 (e2 dMod (eVar 3) (eC (.int 1009))))
    (sSet 3 (e2 dFdiv (eVar 3) (eC (.int 1009)))))
    (sSeq (sSet 6 (e2 dMod (e2 dPlus (e2 dPlus (e2 dMul (eVar 3) (eC (.int 48271))) (e2 dMul (e2 dPlus (eVar 5) (eC (.int 1))) (eC (.int 69621)))) (e2 dMul (eVar 1) (eC (.int 4001)))) (eC (.int 2147483647))))
    (sSeq (sSet 6 (e2 dMod (e2 dPlus (e2 dMul (eVar 6) (eVar 6)) (e2 dMul (eC (.int 16807)) (e2 dPlus (eVar 5) (eC (.int 3))))) (eC (.int 2147483629))))
    (sApp 4 (e2 dMod (e2 dFdiv (eVar 6) (eC (.int 7))) (eC (.int 1009))))))
def r__law_numbers_2 : GS :=
  sRetO 4
def g__law_numbers : GS :=
  sSeq (sSet 3 (e2 dMul (eC (.int 1000003)) (e2 dPlus (eVar 1) (eC (.int 1)))))
    (sSeq (sIf (b2 cLt (eVar 1) (eF fLen (aCons (eVar 0) (aNil))))
    (sSet 3 (eF fInt (aCons (e2 dIx (eVar 0) (eVar 1)) (aNil))))
    (sNil))
    (sSeq (sIf (b2 cLt (eVar 3) (eC (.int 0)))
    (sSet 3 (e2 dSub (eC (.int 1)) (e2 dMul (eC (.int 2)) (eVar 3))))
    (sNil))
    (sSeq (sSetL 4 (lDisp (aNil)))
    (sSeq (sFor (lF rg1 (aCons (eVar 2) (aNil))) (tName 5)
    (b__law_numbers_1))
    (r__law_numbers_2)))))
def m__law_numbers : List D → Res D := runF 3 7 g__law_numbers
def b__law_same_1 (mr : List D → Res D) : GS :=
  sIf (bNot (b1 truth (eCall (mr) (aCons (e2 dIx (eVar 0) (eVar 2)) (aCons (e2 dIx (eVar 1) (eVar 2)) (aNil))))))
    (sRet (eC (.bl false)))
    (sNil)
def r__law_same_2 (mr : List D → Res D) : GS :=
  sRet (eC (.bl true))
def g__law_same (mr : List D → Res D) : GS :=
  sSeq (sIf (b2 cIs (eVar 1) (eC .non))
    (sRet (eB (b2 cIs (eVar 0) (eC .non))))
    (sNil))
    (sSeq (sIf (b2 cIs (eVar 1) (eC (.bl true)))
    (sRet (eB (b2 cIs (eVar 0) (eC (.bl true)))))
    (sNil))
    (sSeq (sIf (b2 cIs (eVar 1) (eC (.bl false)))
    (sRet (eB (b2 cIs (eVar 0) (eC (.bl false)))))
    (sNil))
    (sSeq (sIf (b1 truth (eF fIsi (aCons (eVar 1) (aCons (eC (.ty "str")) (aNil)))))
    (sRet (eAnd (eF fIsi (aCons (eVar 0) (aCons (eC (.ty "str")) (aNil)))) (eB (b2 cEq (eVar 0) (eVar 1)))))
    (sNil))
    (sSeq (sIf (b1 truth (eF fIsi (aCons (eVar 1) (aCons (eC (.ty "int")) (aNil)))))
    (sRet (eAnd (eF fIsi (aCons (eVar 0) (aCons (eC (.ty "int")) (aNil)))) (eAnd (e1 notD (eF fIsi (aCons (eVar 0) (aCons (eC (.ty "bool")) (aNil))))) (eB (b2 cEq (eVar 0) (eVar 1))))))
    (sNil))
    (sSeq (sIf (bAnd (b1 truth (eF fIsi (aCons (eVar 1) (aCons (eC (.ty "tuple")) (aNil))))) (bNot (b1 truth (eF fIsi (aCons (eVar 0) (aCons (eC (.ty "tuple")) (aNil)))))))
    (sRet (eC (.bl false)))
    (sNil))
    (sSeq (sIf (bAnd (b1 truth (eF fIsi (aCons (eVar 1) (aCons (eC (.ty "list")) (aNil))))) (bNot (b1 truth (eF fIsi (aCons (eVar 0) (aCons (eC (.ty "list")) (aNil)))))))
    (sRet (eC (.bl false)))
    (sNil))
    (sSeq (sIf (b2 cNe (eF fLen (aCons (eVar 0) (aNil))) (eF fLen (aCons (eVar 1) (aNil))))
    (sRet (eC (.bl false)))
    (sNil))
    (sSeq (sFor (lF rg1 (aCons (eF fLen (aCons (eVar 1) (aNil))) (aNil))) (tName 2)
    (b__law_same_1 mr))
    (r__law_same_2 mr)))))))))
def m__law_same : Nat → List D → Res D
  | 0 => fun _ => .stuck
  | k + 1 => runF 2 3 (g__law_same (m__law_same k))
/-! ### sizes -/
theorem Sm.lt {i : Int} (h1 : -(2 ^ 200 : Int) < i) (h2 : i < 2 ^ 200) : Sm i := Sm.of (k := 200) (by omega) (by decide)
theorem S9.lt {i : Int} (h0 : i ≠ 0) (h1 : -(2 ^ 200 : Int) < i) (h2 : i < 2 ^ 200) : S9 i := S9.of h0 (k := 200) (by omega) (by decide)
theorem fmod_pos (x : Int) {y : Int} (h : 0 < y) : 0 ≤ x.fmod y ∧ x.fmod y < y := by
  rw [Int.fmod_eq_emod_of_nonneg x (by omega)]
  exact ⟨Int.emod_nonneg _ (by omega), Int.emod_lt_of_pos _ h⟩
/-! ### the law's draws -/
theorem sl0 : (0 : Nat) ≤ sizeLine := Nat.zero_le _
theorem numbers_body {ns : List Int} {at' : Nat} (ha : at' < 1000000) {d1 d2 : D} {i : Nat} (hi : i < 1000) {cell : Int} (hc : 0 ≤ cell) {ks : List Int} (hk : ks.length = i) {s5 s6 : Sl} {N : En → Prop} {R : D → Prop} {ES : Er → En → Prop} {B C : En → Prop}
    (h : ∀ cell' k s6', 0 ≤ cell' → 0 ≤ k → k < 1009 → N [.val d1, .val (.int at'), .val d2, .val (.int cell'), .own ((ks ++ [k]).map .int), .val (.int i), s6']) :
    wpS (b__law_numbers_1 [.val d1, .val (.int at'), .val d2, .val (.int cell), .own (ks.map .int), .val (.int i), s6]) N R ES B C := by
  have hz : ks.length < sizeLine := by rw [hk]; exact Nat.lt_of_lt_of_le hi (by decide)
  have m1 : ∀ x y : Int, 0 < y → 0 ≤ x.fmod y ∧ x.fmod y < y := fun x y h => fmod_pos x h
  have f1 : ∀ x y : Int, 0 ≤ x → 0 < y → 0 ≤ x.fdiv y := fun x y h h2 => by rw [Int.fdiv_eq_ediv_of_nonneg x (by omega)]; exact Int.ediv_nonneg h (by omega)
  simp only [b__law_numbers_1, ↓wR_ok, ↓wR_err, ↓wR_bind, ↓wR_of, ↓wO_some, ↓wO_map, ↓wO_bind, ↓w_var0, ↓w_varS, ↓w_eC, ↓w_e1, ↓w_l1, ↓w_e2, ↓w_l2, ↓w_b1, ↓w_b2, ↓w_eB, ↓w_eF, ↓w_lF, ↓w_eCall, ↓w_eLst, ↓w_aNil, ↓w_aCons, ↓w_eTup, ↓w_lDisp, ↓w_eIf, ↓w_bAnd, ↓w_bOr, ↓w_bNot, ↓w_bYes, ↓w_bChain, ↓w_eAnd, ↓w_eOr, ↓w_iAny, ↓w_oNone, ↓w_oSomeC, ↓w_eSl, ↓w_lSlG, ↓w_lComp, ↓w_sSeq, ↓w_sNil, ↓w_sBreak, ↓w_sCont, ↓w_sSet, ↓w_sSetL, ↓w_sExpr, ↓w_sRet, ↓w_sRetN, ↓w_sIf, ↓w_own0, ↓w_ownS, ↓w_sRetO, ↓w_sApp, ↓w_sSetIx, ↓w_sFrz, ↓w_sThen, ↓w_sRaise, ↓w_sAsg, ↓w_sFor, ↓w_sTry, ↓t_name, ↓t_nil, ↓t_cons, ↓o_plus, ↓o_plusL, ↓o_lAdd, ↓o_sub, ↓o_neg, ↓o_mul, ↓o_fdiv, ↓o_mod, ↓o_pow, ↓o_lt, ↓o_le, ↓o_gt, ↓o_ge, ↓o_eq, ↓o_ne, ↓o_truthB, ↓o_truthI, ↓o_truthN, ↓o_truthL, ↓o_truthT, ↓o_truthS, ↓o_notB, ↓o_isNN, ↓o_isBT, ↓o_isBF, ↓o_isT, ↓o_isIB, ↓o_isSB, ↓o_isLB, ↓o_isTB, ↓o_isNB, ↓o_isNot, ↓o_lenL, ↓o_lenT, ↓o_lenS, ↓o_abs, ↓o_intI, ↓o_intB, ↓o_str, ↓o_gcd, ↓o_list, ↓o_listT, ↓o_tuple, ↓o_tupleT, ↓o_rev, ↓o_type, ↓o_isi, ↓o_isi2, ↓o_rg1, ↓o_rg2, ↓o_zip, ↓o_zipT, ↓o_itemsL, ↓o_itemsT, ↓o_ixL, ↓o_ixT, ↓o_at0, ↓o_at1, ↓o_at2, ↓o_at3, ↓o_at4, ↓o_at5, ↓o_at6, ↓o_at7, ↓o_at8, ↓o_at9, ↓o_at10, ↓o_at11, ↓o_at12, ↓o_at13, ↓o_at14, ↓o_at15, ↓w_eIxO, ↓t_tup1, ↓t_tup2, ↓t_tup3, ↓t_tup9, ↓w_okOnly, ↓w_compN, ↓w_compC, ↓o_all, ↓o_any, ↓bls_nil, ↓bls_cons, ↓o_minL, ↓o_maxL, ↓o_sumL, ↓ints_nil, ↓ints_cons, ↓o_min3, ↓o_max3, ↓o_slL, ↓o_slT, ↓w_eBor, ↓w_bBor, o_isN, w_runF, tyName, isSubTy, tyNames, List.getElem?_cons_zero, List.getElem?_cons_succ, List.set_cons_zero, List.set_cons_succ, List.map_cons, List.map_nil, List.replicate_succ, List.replicate_zero, List.length_cons, List.length_nil, List.cons_append, List.nil_append, Nat.reduceAdd, Nat.reduceSub, Nat.reduceLeDiff, Nat.reduceEqDiff, reduceIte, if_true, if_false, Bool.not_true, Bool.not_false, Bool.true_and, Bool.and_true, Bool.false_and, Bool.and_false, Bool.true_or, Bool.false_or, Bool.or_true, Bool.or_false, reduceCtorEq, decide_true, decide_false, beq_self_eq_true, List.mem_cons, true_or, or_true, true_and, and_true, false_and, and_false, or_false, false_or, String.reduceEq, String.reduceBEq, List.not_mem_nil, Bool.not_eq_true, Bool.false_eq_true, eq_self, not_true_eq_false, not_false_eq_true, Bool.not_eq_eq_eq_not, decide_eq_true_eq, decide_eq_false_iff_not, bne_iff_ne, ne_eq, Int.reduceLT, Int.reduceLE, Int.reduceMul, Int.reduceAdd, Int.reduceNeg, Int.reduceToNat, Int.reducePow, Nat.reduceLT, Int.reduceEq, Int.reduceSub, zipD, List.zipWith_cons_cons, List.zipWith_nil_left, List.zipWith_nil_right, List.all_cons, List.all_nil, id_eq, scalD, borE, wipeE, noOwn, sz_0, szl_0, sz_1, szl_1, sz_2, szl_2, sz_3, szl_3, sz_4, szl_4, sz_5, szl_5, sz_6, szl_6, sz_7, szl_7, sz_8, szl_8, sz_9, szl_9, sz_10, szl_10, sz_11, szl_11, sz_12, szl_12, sz_13, szl_13, sz_14, szl_14, sz_15, szl_15, sz_16, szl_16, sz_17, szl_17, sz_18, szl_18, sz_19, szl_19, sz_20, szl_20, sz_21, szl_21, sz_22, szl_22, sz_23, szl_23, sz_24, szl_24, sz_25, szl_25, sz_26, szl_26, sz_27, szl_27, sz_28, szl_28, sz_29, szl_29, sz_30, szl_30, sz_31, szl_31, sz_32, szl_32, frz, List.all_cons, List.all_nil, List.length_map, ne_eq, Int.reduceEq, not_false_eq_true, true_and]
  refine ⟨by decide, ?_⟩
  split
  · refine ⟨hz, S9.lt (by decide) (by decide) (by decide), ?_⟩
    have := h (cell.fdiv 1009) (cell.fmod 1009) s6 (f1 _ _ hc (by decide)) (m1 _ _ (by decide)).1 (m1 _ _ (by decide)).2
    simpa using this
  · rename_i hlt
    have q := m1 (cell * 48271 + ((i : Int) + 1) * 69621 + (at' : Int) * 4001) 2147483647 (by decide)
    refine ⟨?_, ?_, ?_, ?_, ?_, ?_, hz, ?_⟩
    iterate 5 (exact ⟨Sm.lt (by omega) (by omega), Sm.lt (by omega) (by omega)⟩)
    · exact S9.lt (by decide) (by decide) (by decide)
    generalize hm : ((cell * 48271 + ((i : Int) + 1) * 69621 + (at' : Int) * 4001).fmod 2147483647 * (cell * 48271 + ((i : Int) + 1) * 69621 + (at' : Int) * 4001).fmod 2147483647 + 16807 * ((i : Int) + 3)).fmod 2147483629 = M
    have := h cell ((M.fdiv 7).fmod 1009) (.val (.int M)) hc (m1 _ _ (by decide)).1 (m1 _ _ (by decide)).2
    simpa using this
theorem numbers_ok (ns : List Int) (hb : ∀ z ∈ ns, Builtin.Int.intBits z ≤ 1048576) (at' count : Nat) (ha : at' < 1000000) (hc : count ≤ 1000) :
    ∃ ks : List Int, ks.length = count ∧ (∀ k ∈ ks, 0 ≤ k ∧ k < 1009) ∧ m__law_numbers [.lst (ns.map .int), .int at', .int count] = .ok (.lst (ks.map .int)) := by
  suffices h : wpR (m__law_numbers [.lst (ns.map .int), .int at', .int count]) (fun d => ∃ ks : List Int, ks.length = count ∧ (∀ k ∈ ks, 0 ≤ k ∧ k < 1009) ∧ d = .lst (ks.map .int)) (fun _ => False) by
    revert h
    cases m__law_numbers [.lst (ns.map .int), .int at', .int count] with
    | ok d => rintro ⟨ks, h1, h2, rfl⟩; exact ⟨ks, h1, h2, rfl⟩
    | err e => exact fun h => h.elim
    | stuck => exact fun h => h.elim
  have loop : ∀ cell : Int, 0 ≤ cell → ∀ (N0 : En → Prop) (R : D → Prop) ES B C, (∀ ks : List Int, ks.length = count → (∀ k ∈ ks, 0 ≤ k ∧ k < 1009) → R (.lst (ks.map .int))) →
      wpS (forL (tName 5) b__law_numbers_1 (rangeD 0 (count : Int).toNat) [.val (.lst (ns.map .int)), .val (.int at'), .val (.int count), .val (.int cell), .own [], .unk, .unk]) (fun e => wpS (r__law_numbers_2 e) N0 R ES B C) R ES B C := by
    intro cell hcell N0 R ES B C hR
    refine w_forI (fun i e => ∃ cell' ks s5 s6, 0 ≤ cell' ∧ ks.length = i ∧ (∀ k ∈ ks, 0 ≤ k ∧ k < 1009) ∧ e = [.val (.lst (ns.map .int)), .val (.int at'), .val (.int count), .val (.int cell'), .own (ks.map .int), s5, s6]) ⟨cell, [], .unk, .unk, hcell, rfl, by simp, rfl⟩ ?_ ?_
    · rintro i d env hd ⟨cell', ks, s5, s6, h1, h2, h3, rfl⟩
      obtain ⟨rfl, hi⟩ := rangeD_get hd
      rw [t_name]
      simp only [List.set_cons_succ, List.set_cons_zero]
      rw [show (0 : Int) + (i : Int) = (i : Int) from by omega]
      refine numbers_body (ns := ns) (s5 := s5) ha (by omega) h1 h2 fun c k s6' q1 q2 q3 => ⟨c, ks ++ [k], _, s6', q1, by simp [h2], fun x hx => ?_, rfl⟩
      rcases List.mem_append.mp hx with e | e
      · exact h3 x e
      · rw [List.mem_singleton.mp e]; exact ⟨q2, q3⟩
    · rintro env ⟨cell', ks, s5, s6, h1, h2, h3, rfl⟩
      simp only [r__law_numbers_2, ↓wR_ok, ↓wR_err, ↓wR_bind, ↓wR_of, ↓wO_some, ↓wO_map, ↓wO_bind, ↓w_var0, ↓w_varS, ↓w_eC, ↓w_e1, ↓w_l1, ↓w_e2, ↓w_l2, ↓w_b1, ↓w_b2, ↓w_eB, ↓w_eF, ↓w_lF, ↓w_eCall, ↓w_eLst, ↓w_aNil, ↓w_aCons, ↓w_eTup, ↓w_lDisp, ↓w_eIf, ↓w_bAnd, ↓w_bOr, ↓w_bNot, ↓w_bYes, ↓w_bChain, ↓w_eAnd, ↓w_eOr, ↓w_iAny, ↓w_oNone, ↓w_oSomeC, ↓w_eSl, ↓w_lSlG, ↓w_lComp, ↓w_sSeq, ↓w_sNil, ↓w_sBreak, ↓w_sCont, ↓w_sSet, ↓w_sSetL, ↓w_sExpr, ↓w_sRet, ↓w_sRetN, ↓w_sIf, ↓w_own0, ↓w_ownS, ↓w_sRetO, ↓w_sApp, ↓w_sSetIx, ↓w_sFrz, ↓w_sThen, ↓w_sRaise, ↓w_sAsg, ↓w_sFor, ↓w_sTry, ↓t_name, ↓t_nil, ↓t_cons, ↓o_plus, ↓o_plusL, ↓o_lAdd, ↓o_sub, ↓o_neg, ↓o_mul, ↓o_fdiv, ↓o_mod, ↓o_pow, ↓o_lt, ↓o_le, ↓o_gt, ↓o_ge, ↓o_eq, ↓o_ne, ↓o_truthB, ↓o_truthI, ↓o_truthN, ↓o_truthL, ↓o_truthT, ↓o_truthS, ↓o_notB, ↓o_isNN, ↓o_isBT, ↓o_isBF, ↓o_isT, ↓o_isIB, ↓o_isSB, ↓o_isLB, ↓o_isTB, ↓o_isNB, ↓o_isNot, ↓o_lenL, ↓o_lenT, ↓o_lenS, ↓o_abs, ↓o_intI, ↓o_intB, ↓o_str, ↓o_gcd, ↓o_list, ↓o_listT, ↓o_tuple, ↓o_tupleT, ↓o_rev, ↓o_type, ↓o_isi, ↓o_isi2, ↓o_rg1, ↓o_rg2, ↓o_zip, ↓o_zipT, ↓o_itemsL, ↓o_itemsT, ↓o_ixL, ↓o_ixT, ↓o_at0, ↓o_at1, ↓o_at2, ↓o_at3, ↓o_at4, ↓o_at5, ↓o_at6, ↓o_at7, ↓o_at8, ↓o_at9, ↓o_at10, ↓o_at11, ↓o_at12, ↓o_at13, ↓o_at14, ↓o_at15, ↓w_eIxO, ↓t_tup1, ↓t_tup2, ↓t_tup3, ↓t_tup9, ↓w_okOnly, ↓w_compN, ↓w_compC, ↓o_all, ↓o_any, ↓bls_nil, ↓bls_cons, ↓o_minL, ↓o_maxL, ↓o_sumL, ↓ints_nil, ↓ints_cons, ↓o_min3, ↓o_max3, ↓o_slL, ↓o_slT, ↓w_eBor, ↓w_bBor, o_isN, w_runF, tyName, isSubTy, tyNames, List.getElem?_cons_zero, List.getElem?_cons_succ, List.set_cons_zero, List.set_cons_succ, List.map_cons, List.map_nil, List.replicate_succ, List.replicate_zero, List.length_cons, List.length_nil, List.cons_append, List.nil_append, Nat.reduceAdd, Nat.reduceSub, Nat.reduceLeDiff, Nat.reduceEqDiff, reduceIte, if_true, if_false, Bool.not_true, Bool.not_false, Bool.true_and, Bool.and_true, Bool.false_and, Bool.and_false, Bool.true_or, Bool.false_or, Bool.or_true, Bool.or_false, reduceCtorEq, decide_true, decide_false, beq_self_eq_true, List.mem_cons, true_or, or_true, true_and, and_true, false_and, and_false, or_false, false_or, String.reduceEq, String.reduceBEq, List.not_mem_nil, Bool.not_eq_true, Bool.false_eq_true, eq_self, not_true_eq_false, not_false_eq_true, Bool.not_eq_eq_eq_not, decide_eq_true_eq, decide_eq_false_iff_not, bne_iff_ne, ne_eq, Int.reduceLT, Int.reduceLE, Int.reduceMul, Int.reduceAdd, Int.reduceNeg, Int.reduceToNat, Int.reducePow, Nat.reduceLT, Int.reduceEq, Int.reduceSub, zipD, List.zipWith_cons_cons, List.zipWith_nil_left, List.zipWith_nil_right, List.all_cons, List.all_nil, id_eq, scalD, borE, wipeE, noOwn, sz_0, szl_0, sz_1, szl_1, sz_2, szl_2, sz_3, szl_3, sz_4, szl_4, sz_5, szl_5, sz_6, szl_6, sz_7, szl_7, sz_8, szl_8, sz_9, szl_9, sz_10, szl_10, sz_11, szl_11, sz_12, szl_12, sz_13, szl_13, sz_14, szl_14, sz_15, szl_15, sz_16, szl_16, sz_17, szl_17, sz_18, szl_18, sz_19, szl_19, sz_20, szl_20, sz_21, szl_21, sz_22, szl_22, sz_23, szl_23, sz_24, szl_24, sz_25, szl_25, sz_26, szl_26, sz_27, szl_27, sz_28, szl_28, sz_29, szl_29, sz_30, szl_30, sz_31, szl_31, sz_32, szl_32, frz, List.all_cons, List.all_nil]
      exact hR ks (by rw [h2, rangeD_len]; rfl) h3
  simp only [m__law_numbers, g__law_numbers, ↓wR_ok, ↓wR_err, ↓wR_bind, ↓wR_of, ↓wO_some, ↓wO_map, ↓wO_bind, ↓w_var0, ↓w_varS, ↓w_eC, ↓w_e1, ↓w_l1, ↓w_e2, ↓w_l2, ↓w_b1, ↓w_b2, ↓w_eB, ↓w_eF, ↓w_lF, ↓w_eCall, ↓w_eLst, ↓w_aNil, ↓w_aCons, ↓w_eTup, ↓w_lDisp, ↓w_eIf, ↓w_bAnd, ↓w_bOr, ↓w_bNot, ↓w_bYes, ↓w_bChain, ↓w_eAnd, ↓w_eOr, ↓w_iAny, ↓w_oNone, ↓w_oSomeC, ↓w_eSl, ↓w_lSlG, ↓w_lComp, ↓w_sSeq, ↓w_sNil, ↓w_sBreak, ↓w_sCont, ↓w_sSet, ↓w_sSetL, ↓w_sExpr, ↓w_sRet, ↓w_sRetN, ↓w_sIf, ↓w_own0, ↓w_ownS, ↓w_sRetO, ↓w_sApp, ↓w_sSetIx, ↓w_sFrz, ↓w_sThen, ↓w_sRaise, ↓w_sAsg, ↓w_sFor, ↓w_sTry, ↓t_name, ↓t_nil, ↓t_cons, ↓o_plus, ↓o_plusL, ↓o_lAdd, ↓o_sub, ↓o_neg, ↓o_mul, ↓o_fdiv, ↓o_mod, ↓o_pow, ↓o_lt, ↓o_le, ↓o_gt, ↓o_ge, ↓o_eq, ↓o_ne, ↓o_truthB, ↓o_truthI, ↓o_truthN, ↓o_truthL, ↓o_truthT, ↓o_truthS, ↓o_notB, ↓o_isNN, ↓o_isBT, ↓o_isBF, ↓o_isT, ↓o_isIB, ↓o_isSB, ↓o_isLB, ↓o_isTB, ↓o_isNB, ↓o_isNot, ↓o_lenL, ↓o_lenT, ↓o_lenS, ↓o_abs, ↓o_intI, ↓o_intB, ↓o_str, ↓o_gcd, ↓o_list, ↓o_listT, ↓o_tuple, ↓o_tupleT, ↓o_rev, ↓o_type, ↓o_isi, ↓o_isi2, ↓o_rg1, ↓o_rg2, ↓o_zip, ↓o_zipT, ↓o_itemsL, ↓o_itemsT, ↓o_ixL, ↓o_ixT, ↓o_at0, ↓o_at1, ↓o_at2, ↓o_at3, ↓o_at4, ↓o_at5, ↓o_at6, ↓o_at7, ↓o_at8, ↓o_at9, ↓o_at10, ↓o_at11, ↓o_at12, ↓o_at13, ↓o_at14, ↓o_at15, ↓w_eIxO, ↓t_tup1, ↓t_tup2, ↓t_tup3, ↓t_tup9, ↓w_okOnly, ↓w_compN, ↓w_compC, ↓o_all, ↓o_any, ↓bls_nil, ↓bls_cons, ↓o_minL, ↓o_maxL, ↓o_sumL, ↓ints_nil, ↓ints_cons, ↓o_min3, ↓o_max3, ↓o_slL, ↓o_slT, ↓w_eBor, ↓w_bBor, o_isN, w_runF, tyName, isSubTy, tyNames, List.getElem?_cons_zero, List.getElem?_cons_succ, List.set_cons_zero, List.set_cons_succ, List.map_cons, List.map_nil, List.replicate_succ, List.replicate_zero, List.length_cons, List.length_nil, List.cons_append, List.nil_append, Nat.reduceAdd, Nat.reduceSub, Nat.reduceLeDiff, Nat.reduceEqDiff, reduceIte, if_true, if_false, Bool.not_true, Bool.not_false, Bool.true_and, Bool.and_true, Bool.false_and, Bool.and_false, Bool.true_or, Bool.false_or, Bool.or_true, Bool.or_false, reduceCtorEq, decide_true, decide_false, beq_self_eq_true, List.mem_cons, true_or, or_true, true_and, and_true, false_and, and_false, or_false, false_or, String.reduceEq, String.reduceBEq, List.not_mem_nil, Bool.not_eq_true, Bool.false_eq_true, eq_self, not_true_eq_false, not_false_eq_true, Bool.not_eq_eq_eq_not, decide_eq_true_eq, decide_eq_false_iff_not, bne_iff_ne, ne_eq, Int.reduceLT, Int.reduceLE, Int.reduceMul, Int.reduceAdd, Int.reduceNeg, Int.reduceToNat, Int.reducePow, Nat.reduceLT, Int.reduceEq, Int.reduceSub, zipD, List.zipWith_cons_cons, List.zipWith_nil_left, List.zipWith_nil_right, List.all_cons, List.all_nil, id_eq, scalD, borE, wipeE, noOwn, sz_0, szl_0, sz_1, szl_1, sz_2, szl_2, sz_3, szl_3, sz_4, szl_4, sz_5, szl_5, sz_6, szl_6, sz_7, szl_7, sz_8, szl_8, sz_9, szl_9, sz_10, szl_10, sz_11, szl_11, sz_12, szl_12, sz_13, szl_13, sz_14, szl_14, sz_15, szl_15, sz_16, szl_16, sz_17, szl_17, sz_18, szl_18, sz_19, szl_19, sz_20, szl_20, sz_21, szl_21, sz_22, szl_22, sz_23, szl_23, sz_24, szl_24, sz_25, szl_25, sz_26, szl_26, sz_27, szl_27, sz_28, szl_28, sz_29, szl_29, sz_30, szl_30, sz_31, szl_31, sz_32, szl_32, frz, List.all_cons, List.all_nil, List.length_map]
  refine ⟨⟨Sm.lt (by decide) (by decide), Sm.lt (by omega) (by omega)⟩, ?_⟩
  split
  · rename_i hlt
    have hlt' : at' < ns.length := by omega
    have e : (ns.map D.int)[at']? = some (.int ns[at']) := by rw [List.getElem?_map, List.getElem?_eq_getElem hlt']; rfl
    rw [o_at e]
    simp only [↓wR_ok, ↓wR_err, ↓wR_bind, ↓wR_of, ↓wO_some, ↓wO_map, ↓wO_bind, ↓w_var0, ↓w_varS, ↓w_eC, ↓w_e1, ↓w_l1, ↓w_e2, ↓w_l2, ↓w_b1, ↓w_b2, ↓w_eB, ↓w_eF, ↓w_lF, ↓w_eCall, ↓w_eLst, ↓w_aNil, ↓w_aCons, ↓w_eTup, ↓w_lDisp, ↓w_eIf, ↓w_bAnd, ↓w_bOr, ↓w_bNot, ↓w_bYes, ↓w_bChain, ↓w_eAnd, ↓w_eOr, ↓w_iAny, ↓w_oNone, ↓w_oSomeC, ↓w_eSl, ↓w_lSlG, ↓w_lComp, ↓w_sSeq, ↓w_sNil, ↓w_sBreak, ↓w_sCont, ↓w_sSet, ↓w_sSetL, ↓w_sExpr, ↓w_sRet, ↓w_sRetN, ↓w_sIf, ↓w_own0, ↓w_ownS, ↓w_sRetO, ↓w_sApp, ↓w_sSetIx, ↓w_sFrz, ↓w_sThen, ↓w_sRaise, ↓w_sAsg, ↓w_sFor, ↓w_sTry, ↓t_name, ↓t_nil, ↓t_cons, ↓o_plus, ↓o_plusL, ↓o_lAdd, ↓o_sub, ↓o_neg, ↓o_mul, ↓o_fdiv, ↓o_mod, ↓o_pow, ↓o_lt, ↓o_le, ↓o_gt, ↓o_ge, ↓o_eq, ↓o_ne, ↓o_truthB, ↓o_truthI, ↓o_truthN, ↓o_truthL, ↓o_truthT, ↓o_truthS, ↓o_notB, ↓o_isNN, ↓o_isBT, ↓o_isBF, ↓o_isT, ↓o_isIB, ↓o_isSB, ↓o_isLB, ↓o_isTB, ↓o_isNB, ↓o_isNot, ↓o_lenL, ↓o_lenT, ↓o_lenS, ↓o_abs, ↓o_intI, ↓o_intB, ↓o_str, ↓o_gcd, ↓o_list, ↓o_listT, ↓o_tuple, ↓o_tupleT, ↓o_rev, ↓o_type, ↓o_isi, ↓o_isi2, ↓o_rg1, ↓o_rg2, ↓o_zip, ↓o_zipT, ↓o_itemsL, ↓o_itemsT, ↓o_ixL, ↓o_ixT, ↓o_at0, ↓o_at1, ↓o_at2, ↓o_at3, ↓o_at4, ↓o_at5, ↓o_at6, ↓o_at7, ↓o_at8, ↓o_at9, ↓o_at10, ↓o_at11, ↓o_at12, ↓o_at13, ↓o_at14, ↓o_at15, ↓w_eIxO, ↓t_tup1, ↓t_tup2, ↓t_tup3, ↓t_tup9, ↓w_okOnly, ↓w_compN, ↓w_compC, ↓o_all, ↓o_any, ↓bls_nil, ↓bls_cons, ↓o_minL, ↓o_maxL, ↓o_sumL, ↓ints_nil, ↓ints_cons, ↓o_min3, ↓o_max3, ↓o_slL, ↓o_slT, ↓w_eBor, ↓w_bBor, o_isN, w_runF, tyName, isSubTy, tyNames, List.getElem?_cons_zero, List.getElem?_cons_succ, List.set_cons_zero, List.set_cons_succ, List.map_cons, List.map_nil, List.replicate_succ, List.replicate_zero, List.length_cons, List.length_nil, List.cons_append, List.nil_append, Nat.reduceAdd, Nat.reduceSub, Nat.reduceLeDiff, Nat.reduceEqDiff, reduceIte, if_true, if_false, Bool.not_true, Bool.not_false, Bool.true_and, Bool.and_true, Bool.false_and, Bool.and_false, Bool.true_or, Bool.false_or, Bool.or_true, Bool.or_false, reduceCtorEq, decide_true, decide_false, beq_self_eq_true, List.mem_cons, true_or, or_true, true_and, and_true, false_and, and_false, or_false, false_or, String.reduceEq, String.reduceBEq, List.not_mem_nil, Bool.not_eq_true, Bool.false_eq_true, eq_self, not_true_eq_false, not_false_eq_true, Bool.not_eq_eq_eq_not, decide_eq_true_eq, decide_eq_false_iff_not, bne_iff_ne, ne_eq, Int.reduceLT, Int.reduceLE, Int.reduceMul, Int.reduceAdd, Int.reduceNeg, Int.reduceToNat, Int.reducePow, Nat.reduceLT, Int.reduceEq, Int.reduceSub, zipD, List.zipWith_cons_cons, List.zipWith_nil_left, List.zipWith_nil_right, List.all_cons, List.all_nil, id_eq, scalD, borE, wipeE, noOwn, sz_0, szl_0, sz_1, szl_1, sz_2, szl_2, sz_3, szl_3, sz_4, szl_4, sz_5, szl_5, sz_6, szl_6, sz_7, szl_7, sz_8, szl_8, sz_9, szl_9, sz_10, szl_10, sz_11, szl_11, sz_12, szl_12, sz_13, szl_13, sz_14, szl_14, sz_15, szl_15, sz_16, szl_16, sz_17, szl_17, sz_18, szl_18, sz_19, szl_19, sz_20, szl_20, sz_21, szl_21, sz_22, szl_22, sz_23, szl_23, sz_24, szl_24, sz_25, szl_25, sz_26, szl_26, sz_27, szl_27, sz_28, szl_28, sz_29, szl_29, sz_30, szl_30, sz_31, szl_31, sz_32, szl_32, frz, List.all_cons, List.all_nil]
    split
    · refine ⟨⟨Sm.lt (by decide) (by decide), Nat.le_trans (hb _ (List.getElem_mem hlt')) (by decide)⟩, ⟨by omega, by omega⟩, ?_⟩
      refine loop _ ?_ _ _ _ _ _ ?_ <;> first | omega | exact fun ks h1 h2 => ⟨ks, h1, h2, rfl⟩
    · refine ⟨⟨by omega, by omega⟩, ?_⟩
      refine loop _ ?_ _ _ _ _ _ ?_ <;> first | omega | exact fun ks h1 h2 => ⟨ks, h1, h2, rfl⟩
  · rw [if_neg (by omega)]
    refine ⟨⟨by omega, by omega⟩, ?_⟩
    refine loop _ ?_ _ _ _ _ _ ?_ <;> first | omega | exact fun ks h1 h2 => ⟨ks, h1, h2, rfl⟩
end AF

namespace AF
open PySem PySem.Spec PyProof.Rows L2
/-! ### the law's own equality: a value is the same as itself -/
def okS : Nat → D → Bool
  | 0, _ => false
  | _ + 1, .non => true
  | _ + 1, .bl _ => true
  | _ + 1, .int _ => true
  | _ + 1, .str _ => true
  | k + 1, .tup xs => decide (xs.length ≤ 1000000) && xs.all (okS k)
  | k + 1, .lst xs => decide (xs.length ≤ 1000000) && xs.all (okS k)
  | _ + 1, .ty _ => false
theorem cEq_str (s : List Nat) : wpO (cEq (.str s) (.str s)) Q = Q true := by
  unfold cEq
  rw [okD_str]
  have : PyData.eqv (toPy (.str s)) (toPy (.str s)) = true := by
    show decide ((⟨s.toArray⟩ : Str) = ⟨s.toArray⟩) = true
    exact decide_eq_true rfl
  show wpO (some (PyData.eqv (toPy (.str s)) (toPy (.str s)))) Q = _
  rw [this]
  rfl
theorem same_ok : ∀ (k : Nat) (d : D), okS k d = true → m__law_same k [d, d] = .ok (.bl true)
  | 0, _, h => by cases h
  | k + 1, d, h => by
    have ih := same_ok k
    have loop : ∀ (xs : List D) (d : D), (∀ Q : D → Prop, ∀ i : Int, wpO (dIx d (.int i)) Q = wpO (atI xs i) Q) → xs.length ≤ 1000000 → xs.all (okS k) = true → ∀ N0 ES B C s2,
        wpS (forL (tName 2) (b__law_same_1 (m__law_same k)) (rangeD 0 (xs.length : Int).toNat) [.val d, .val d, s2]) (fun e => wpS (r__law_same_2 (m__law_same k) e) N0 (fun y => y = .bl true) ES B C) (fun y => y = .bl true) ES B C := by
      intro xs d hd hl ha N0 ES B C s2
      refine w_forI (fun i e => ∃ s, e = [.val d, .val d, s]) ⟨s2, rfl⟩ ?_ ?_
      · rintro i d0 env he ⟨s, rfl⟩
        obtain ⟨rfl, hi⟩ := rangeD_get he
        have hi' : i < xs.length := by simpa using hi
        have e1 : xs[i]? = some xs[i] := List.getElem?_eq_getElem hi'
        have e2 := ih xs[i] (List.all_eq_true.mp ha _ (List.getElem_mem hi'))
        rw [t_name]
        simp only [List.set_cons_succ, List.set_cons_zero]
        rw [show (0 : Int) + (i : Int) = (i : Int) from by omega]
        simp only [b__law_same_1, ↓wR_ok, ↓wR_err, ↓wR_bind, ↓wR_of, ↓wO_some, ↓wO_map, ↓wO_bind, ↓w_var0, ↓w_varS, ↓w_eC, ↓w_e1, ↓w_l1, ↓w_e2, ↓w_l2, ↓w_b1, ↓w_b2, ↓w_eB, ↓w_eF, ↓w_lF, ↓w_eCall, ↓w_eLst, ↓w_aNil, ↓w_aCons, ↓w_eTup, ↓w_lDisp, ↓w_eIf, ↓w_bAnd, ↓w_bOr, ↓w_bNot, ↓w_bYes, ↓w_bChain, ↓w_eAnd, ↓w_eOr, ↓w_iAny, ↓w_oNone, ↓w_oSomeC, ↓w_eSl, ↓w_lSlG, ↓w_lComp, ↓w_sSeq, ↓w_sNil, ↓w_sBreak, ↓w_sCont, ↓w_sSet, ↓w_sSetL, ↓w_sExpr, ↓w_sRet, ↓w_sRetN, ↓w_sIf, ↓w_own0, ↓w_ownS, ↓w_sRetO, ↓w_sApp, ↓w_sSetIx, ↓w_sFrz, ↓w_sThen, ↓w_sRaise, ↓w_sAsg, ↓w_sFor, ↓w_sTry, ↓t_name, ↓t_nil, ↓t_cons, ↓o_plus, ↓o_plusL, ↓o_lAdd, ↓o_sub, ↓o_neg, ↓o_mul, ↓o_fdiv, ↓o_mod, ↓o_pow, ↓o_lt, ↓o_le, ↓o_gt, ↓o_ge, ↓o_eq, ↓o_ne, ↓o_truthB, ↓o_truthI, ↓o_truthN, ↓o_truthL, ↓o_truthT, ↓o_truthS, ↓o_notB, ↓o_isNN, ↓o_isBT, ↓o_isBF, ↓o_isT, ↓o_isIB, ↓o_isSB, ↓o_isLB, ↓o_isTB, ↓o_isNB, ↓o_isNot, ↓o_lenL, ↓o_lenT, ↓o_lenS, ↓o_abs, ↓o_intI, ↓o_intB, ↓o_str, ↓o_gcd, ↓o_list, ↓o_listT, ↓o_tuple, ↓o_tupleT, ↓o_rev, ↓o_type, ↓o_isi, ↓o_isi2, ↓o_rg1, ↓o_rg2, ↓o_zip, ↓o_zipT, ↓o_itemsL, ↓o_itemsT, ↓o_ixL, ↓o_ixT, ↓o_at0, ↓o_at1, ↓o_at2, ↓o_at3, ↓o_at4, ↓o_at5, ↓o_at6, ↓o_at7, ↓o_at8, ↓o_at9, ↓o_at10, ↓o_at11, ↓o_at12, ↓o_at13, ↓o_at14, ↓o_at15, ↓w_eIxO, ↓t_tup1, ↓t_tup2, ↓t_tup3, ↓t_tup9, ↓w_okOnly, ↓w_compN, ↓w_compC, ↓o_all, ↓o_any, ↓bls_nil, ↓bls_cons, ↓o_minL, ↓o_maxL, ↓o_sumL, ↓ints_nil, ↓ints_cons, ↓o_min3, ↓o_max3, ↓o_slL, ↓o_slT, ↓w_eBor, ↓w_bBor, o_isN, w_runF, tyName, isSubTy, tyNames, List.getElem?_cons_zero, List.getElem?_cons_succ, List.set_cons_zero, List.set_cons_succ, List.map_cons, List.map_nil, List.replicate_succ, List.replicate_zero, List.length_cons, List.length_nil, List.cons_append, List.nil_append, Nat.reduceAdd, Nat.reduceSub, Nat.reduceLeDiff, Nat.reduceEqDiff, reduceIte, if_true, if_false, Bool.not_true, Bool.not_false, Bool.true_and, Bool.and_true, Bool.false_and, Bool.and_false, Bool.true_or, Bool.false_or, Bool.or_true, Bool.or_false, reduceCtorEq, decide_true, decide_false, beq_self_eq_true, List.mem_cons, true_or, or_true, true_and, and_true, false_and, and_false, or_false, false_or, String.reduceEq, String.reduceBEq, List.not_mem_nil, Bool.not_eq_true, Bool.false_eq_true, eq_self, not_true_eq_false, not_false_eq_true, Bool.not_eq_eq_eq_not, decide_eq_true_eq, decide_eq_false_iff_not, bne_iff_ne, ne_eq, Int.reduceLT, Int.reduceLE, Int.reduceMul, Int.reduceAdd, Int.reduceNeg, Int.reduceToNat, Int.reducePow, Nat.reduceLT, Int.reduceEq, Int.reduceSub, zipD, List.zipWith_cons_cons, List.zipWith_nil_left, List.zipWith_nil_right, List.all_cons, List.all_nil, id_eq, scalD, borE, wipeE, noOwn, sz_0, szl_0, sz_1, szl_1, sz_2, szl_2, sz_3, szl_3, sz_4, szl_4, sz_5, szl_5, sz_6, szl_6, sz_7, szl_7, sz_8, szl_8, sz_9, szl_9, sz_10, szl_10, sz_11, szl_11, sz_12, szl_12, sz_13, szl_13, sz_14, szl_14, sz_15, szl_15, sz_16, szl_16, sz_17, szl_17, sz_18, szl_18, sz_19, szl_19, sz_20, szl_20, sz_21, szl_21, sz_22, szl_22, sz_23, szl_23, sz_24, szl_24, sz_25, szl_25, sz_26, szl_26, sz_27, szl_27, sz_28, szl_28, sz_29, szl_29, sz_30, szl_30, sz_31, szl_31, sz_32, szl_32, frz, List.all_cons, List.all_nil, hd, o_at e1, e2]
        exact ⟨_, rfl⟩
      · rintro env ⟨s, rfl⟩
        simp only [r__law_same_2, ↓wR_ok, ↓wR_err, ↓wR_bind, ↓wR_of, ↓wO_some, ↓wO_map, ↓wO_bind, ↓w_var0, ↓w_varS, ↓w_eC, ↓w_e1, ↓w_l1, ↓w_e2, ↓w_l2, ↓w_b1, ↓w_b2, ↓w_eB, ↓w_eF, ↓w_lF, ↓w_eCall, ↓w_eLst, ↓w_aNil, ↓w_aCons, ↓w_eTup, ↓w_lDisp, ↓w_eIf, ↓w_bAnd, ↓w_bOr, ↓w_bNot, ↓w_bYes, ↓w_bChain, ↓w_eAnd, ↓w_eOr, ↓w_iAny, ↓w_oNone, ↓w_oSomeC, ↓w_eSl, ↓w_lSlG, ↓w_lComp, ↓w_sSeq, ↓w_sNil, ↓w_sBreak, ↓w_sCont, ↓w_sSet, ↓w_sSetL, ↓w_sExpr, ↓w_sRet, ↓w_sRetN, ↓w_sIf, ↓w_own0, ↓w_ownS, ↓w_sRetO, ↓w_sApp, ↓w_sSetIx, ↓w_sFrz, ↓w_sThen, ↓w_sRaise, ↓w_sAsg, ↓w_sFor, ↓w_sTry, ↓t_name, ↓t_nil, ↓t_cons, ↓o_plus, ↓o_plusL, ↓o_lAdd, ↓o_sub, ↓o_neg, ↓o_mul, ↓o_fdiv, ↓o_mod, ↓o_pow, ↓o_lt, ↓o_le, ↓o_gt, ↓o_ge, ↓o_eq, ↓o_ne, ↓o_truthB, ↓o_truthI, ↓o_truthN, ↓o_truthL, ↓o_truthT, ↓o_truthS, ↓o_notB, ↓o_isNN, ↓o_isBT, ↓o_isBF, ↓o_isT, ↓o_isIB, ↓o_isSB, ↓o_isLB, ↓o_isTB, ↓o_isNB, ↓o_isNot, ↓o_lenL, ↓o_lenT, ↓o_lenS, ↓o_abs, ↓o_intI, ↓o_intB, ↓o_str, ↓o_gcd, ↓o_list, ↓o_listT, ↓o_tuple, ↓o_tupleT, ↓o_rev, ↓o_type, ↓o_isi, ↓o_isi2, ↓o_rg1, ↓o_rg2, ↓o_zip, ↓o_zipT, ↓o_itemsL, ↓o_itemsT, ↓o_ixL, ↓o_ixT, ↓o_at0, ↓o_at1, ↓o_at2, ↓o_at3, ↓o_at4, ↓o_at5, ↓o_at6, ↓o_at7, ↓o_at8, ↓o_at9, ↓o_at10, ↓o_at11, ↓o_at12, ↓o_at13, ↓o_at14, ↓o_at15, ↓w_eIxO, ↓t_tup1, ↓t_tup2, ↓t_tup3, ↓t_tup9, ↓w_okOnly, ↓w_compN, ↓w_compC, ↓o_all, ↓o_any, ↓bls_nil, ↓bls_cons, ↓o_minL, ↓o_maxL, ↓o_sumL, ↓ints_nil, ↓ints_cons, ↓o_min3, ↓o_max3, ↓o_slL, ↓o_slT, ↓w_eBor, ↓w_bBor, o_isN, w_runF, tyName, isSubTy, tyNames, List.getElem?_cons_zero, List.getElem?_cons_succ, List.set_cons_zero, List.set_cons_succ, List.map_cons, List.map_nil, List.replicate_succ, List.replicate_zero, List.length_cons, List.length_nil, List.cons_append, List.nil_append, Nat.reduceAdd, Nat.reduceSub, Nat.reduceLeDiff, Nat.reduceEqDiff, reduceIte, if_true, if_false, Bool.not_true, Bool.not_false, Bool.true_and, Bool.and_true, Bool.false_and, Bool.and_false, Bool.true_or, Bool.false_or, Bool.or_true, Bool.or_false, reduceCtorEq, decide_true, decide_false, beq_self_eq_true, List.mem_cons, true_or, or_true, true_and, and_true, false_and, and_false, or_false, false_or, String.reduceEq, String.reduceBEq, List.not_mem_nil, Bool.not_eq_true, Bool.false_eq_true, eq_self, not_true_eq_false, not_false_eq_true, Bool.not_eq_eq_eq_not, decide_eq_true_eq, decide_eq_false_iff_not, bne_iff_ne, ne_eq, Int.reduceLT, Int.reduceLE, Int.reduceMul, Int.reduceAdd, Int.reduceNeg, Int.reduceToNat, Int.reducePow, Nat.reduceLT, Int.reduceEq, Int.reduceSub, zipD, List.zipWith_cons_cons, List.zipWith_nil_left, List.zipWith_nil_right, List.all_cons, List.all_nil, id_eq, scalD, borE, wipeE, noOwn, sz_0, szl_0, sz_1, szl_1, sz_2, szl_2, sz_3, szl_3, sz_4, szl_4, sz_5, szl_5, sz_6, szl_6, sz_7, szl_7, sz_8, szl_8, sz_9, szl_9, sz_10, szl_10, sz_11, szl_11, sz_12, szl_12, sz_13, szl_13, sz_14, szl_14, sz_15, szl_15, sz_16, szl_16, sz_17, szl_17, sz_18, szl_18, sz_19, szl_19, sz_20, szl_20, sz_21, szl_21, sz_22, szl_22, sz_23, szl_23, sz_24, szl_24, sz_25, szl_25, sz_26, szl_26, sz_27, szl_27, sz_28, szl_28, sz_29, szl_29, sz_30, szl_30, sz_31, szl_31, sz_32, szl_32, frz, List.all_cons, List.all_nil]
    apply wR_eq
    cases d with
    | non => simp only [m__law_same, g__law_same, ↓wR_ok, ↓wR_err, ↓wR_bind, ↓wR_of, ↓wO_some, ↓wO_map, ↓wO_bind, ↓w_var0, ↓w_varS, ↓w_eC, ↓w_e1, ↓w_l1, ↓w_e2, ↓w_l2, ↓w_b1, ↓w_b2, ↓w_eB, ↓w_eF, ↓w_lF, ↓w_eCall, ↓w_eLst, ↓w_aNil, ↓w_aCons, ↓w_eTup, ↓w_lDisp, ↓w_eIf, ↓w_bAnd, ↓w_bOr, ↓w_bNot, ↓w_bYes, ↓w_bChain, ↓w_eAnd, ↓w_eOr, ↓w_iAny, ↓w_oNone, ↓w_oSomeC, ↓w_eSl, ↓w_lSlG, ↓w_lComp, ↓w_sSeq, ↓w_sNil, ↓w_sBreak, ↓w_sCont, ↓w_sSet, ↓w_sSetL, ↓w_sExpr, ↓w_sRet, ↓w_sRetN, ↓w_sIf, ↓w_own0, ↓w_ownS, ↓w_sRetO, ↓w_sApp, ↓w_sSetIx, ↓w_sFrz, ↓w_sThen, ↓w_sRaise, ↓w_sAsg, ↓w_sFor, ↓w_sTry, ↓t_name, ↓t_nil, ↓t_cons, ↓o_plus, ↓o_plusL, ↓o_lAdd, ↓o_sub, ↓o_neg, ↓o_mul, ↓o_fdiv, ↓o_mod, ↓o_pow, ↓o_lt, ↓o_le, ↓o_gt, ↓o_ge, ↓o_eq, ↓o_ne, ↓o_truthB, ↓o_truthI, ↓o_truthN, ↓o_truthL, ↓o_truthT, ↓o_truthS, ↓o_notB, ↓o_isNN, ↓o_isBT, ↓o_isBF, ↓o_isT, ↓o_isIB, ↓o_isSB, ↓o_isLB, ↓o_isTB, ↓o_isNB, ↓o_isNot, ↓o_lenL, ↓o_lenT, ↓o_lenS, ↓o_abs, ↓o_intI, ↓o_intB, ↓o_str, ↓o_gcd, ↓o_list, ↓o_listT, ↓o_tuple, ↓o_tupleT, ↓o_rev, ↓o_type, ↓o_isi, ↓o_isi2, ↓o_rg1, ↓o_rg2, ↓o_zip, ↓o_zipT, ↓o_itemsL, ↓o_itemsT, ↓o_ixL, ↓o_ixT, ↓o_at0, ↓o_at1, ↓o_at2, ↓o_at3, ↓o_at4, ↓o_at5, ↓o_at6, ↓o_at7, ↓o_at8, ↓o_at9, ↓o_at10, ↓o_at11, ↓o_at12, ↓o_at13, ↓o_at14, ↓o_at15, ↓w_eIxO, ↓t_tup1, ↓t_tup2, ↓t_tup3, ↓t_tup9, ↓w_okOnly, ↓w_compN, ↓w_compC, ↓o_all, ↓o_any, ↓bls_nil, ↓bls_cons, ↓o_minL, ↓o_maxL, ↓o_sumL, ↓ints_nil, ↓ints_cons, ↓o_min3, ↓o_max3, ↓o_slL, ↓o_slT, ↓w_eBor, ↓w_bBor, o_isN, w_runF, tyName, isSubTy, tyNames, List.getElem?_cons_zero, List.getElem?_cons_succ, List.set_cons_zero, List.set_cons_succ, List.map_cons, List.map_nil, List.replicate_succ, List.replicate_zero, List.length_cons, List.length_nil, List.cons_append, List.nil_append, Nat.reduceAdd, Nat.reduceSub, Nat.reduceLeDiff, Nat.reduceEqDiff, reduceIte, if_true, if_false, Bool.not_true, Bool.not_false, Bool.true_and, Bool.and_true, Bool.false_and, Bool.and_false, Bool.true_or, Bool.false_or, Bool.or_true, Bool.or_false, reduceCtorEq, decide_true, decide_false, beq_self_eq_true, List.mem_cons, true_or, or_true, true_and, and_true, false_and, and_false, or_false, false_or, String.reduceEq, String.reduceBEq, List.not_mem_nil, Bool.not_eq_true, Bool.false_eq_true, eq_self, not_true_eq_false, not_false_eq_true, Bool.not_eq_eq_eq_not, decide_eq_true_eq, decide_eq_false_iff_not, bne_iff_ne, ne_eq, Int.reduceLT, Int.reduceLE, Int.reduceMul, Int.reduceAdd, Int.reduceNeg, Int.reduceToNat, Int.reducePow, Nat.reduceLT, Int.reduceEq, Int.reduceSub, zipD, List.zipWith_cons_cons, List.zipWith_nil_left, List.zipWith_nil_right, List.all_cons, List.all_nil, id_eq, scalD, borE, wipeE, noOwn, sz_0, szl_0, sz_1, szl_1, sz_2, szl_2, sz_3, szl_3, sz_4, szl_4, sz_5, szl_5, sz_6, szl_6, sz_7, szl_7, sz_8, szl_8, sz_9, szl_9, sz_10, szl_10, sz_11, szl_11, sz_12, szl_12, sz_13, szl_13, sz_14, szl_14, sz_15, szl_15, sz_16, szl_16, sz_17, szl_17, sz_18, szl_18, sz_19, szl_19, sz_20, szl_20, sz_21, szl_21, sz_22, szl_22, sz_23, szl_23, sz_24, szl_24, sz_25, szl_25, sz_26, szl_26, sz_27, szl_27, sz_28, szl_28, sz_29, szl_29, sz_30, szl_30, sz_31, szl_31, sz_32, szl_32, frz, List.all_cons, List.all_nil]
    | bl b => cases b <;> simp only [m__law_same, g__law_same, ↓wR_ok, ↓wR_err, ↓wR_bind, ↓wR_of, ↓wO_some, ↓wO_map, ↓wO_bind, ↓w_var0, ↓w_varS, ↓w_eC, ↓w_e1, ↓w_l1, ↓w_e2, ↓w_l2, ↓w_b1, ↓w_b2, ↓w_eB, ↓w_eF, ↓w_lF, ↓w_eCall, ↓w_eLst, ↓w_aNil, ↓w_aCons, ↓w_eTup, ↓w_lDisp, ↓w_eIf, ↓w_bAnd, ↓w_bOr, ↓w_bNot, ↓w_bYes, ↓w_bChain, ↓w_eAnd, ↓w_eOr, ↓w_iAny, ↓w_oNone, ↓w_oSomeC, ↓w_eSl, ↓w_lSlG, ↓w_lComp, ↓w_sSeq, ↓w_sNil, ↓w_sBreak, ↓w_sCont, ↓w_sSet, ↓w_sSetL, ↓w_sExpr, ↓w_sRet, ↓w_sRetN, ↓w_sIf, ↓w_own0, ↓w_ownS, ↓w_sRetO, ↓w_sApp, ↓w_sSetIx, ↓w_sFrz, ↓w_sThen, ↓w_sRaise, ↓w_sAsg, ↓w_sFor, ↓w_sTry, ↓t_name, ↓t_nil, ↓t_cons, ↓o_plus, ↓o_plusL, ↓o_lAdd, ↓o_sub, ↓o_neg, ↓o_mul, ↓o_fdiv, ↓o_mod, ↓o_pow, ↓o_lt, ↓o_le, ↓o_gt, ↓o_ge, ↓o_eq, ↓o_ne, ↓o_truthB, ↓o_truthI, ↓o_truthN, ↓o_truthL, ↓o_truthT, ↓o_truthS, ↓o_notB, ↓o_isNN, ↓o_isBT, ↓o_isBF, ↓o_isT, ↓o_isIB, ↓o_isSB, ↓o_isLB, ↓o_isTB, ↓o_isNB, ↓o_isNot, ↓o_lenL, ↓o_lenT, ↓o_lenS, ↓o_abs, ↓o_intI, ↓o_intB, ↓o_str, ↓o_gcd, ↓o_list, ↓o_listT, ↓o_tuple, ↓o_tupleT, ↓o_rev, ↓o_type, ↓o_isi, ↓o_isi2, ↓o_rg1, ↓o_rg2, ↓o_zip, ↓o_zipT, ↓o_itemsL, ↓o_itemsT, ↓o_ixL, ↓o_ixT, ↓o_at0, ↓o_at1, ↓o_at2, ↓o_at3, ↓o_at4, ↓o_at5, ↓o_at6, ↓o_at7, ↓o_at8, ↓o_at9, ↓o_at10, ↓o_at11, ↓o_at12, ↓o_at13, ↓o_at14, ↓o_at15, ↓w_eIxO, ↓t_tup1, ↓t_tup2, ↓t_tup3, ↓t_tup9, ↓w_okOnly, ↓w_compN, ↓w_compC, ↓o_all, ↓o_any, ↓bls_nil, ↓bls_cons, ↓o_minL, ↓o_maxL, ↓o_sumL, ↓ints_nil, ↓ints_cons, ↓o_min3, ↓o_max3, ↓o_slL, ↓o_slT, ↓w_eBor, ↓w_bBor, o_isN, w_runF, tyName, isSubTy, tyNames, List.getElem?_cons_zero, List.getElem?_cons_succ, List.set_cons_zero, List.set_cons_succ, List.map_cons, List.map_nil, List.replicate_succ, List.replicate_zero, List.length_cons, List.length_nil, List.cons_append, List.nil_append, Nat.reduceAdd, Nat.reduceSub, Nat.reduceLeDiff, Nat.reduceEqDiff, reduceIte, if_true, if_false, Bool.not_true, Bool.not_false, Bool.true_and, Bool.and_true, Bool.false_and, Bool.and_false, Bool.true_or, Bool.false_or, Bool.or_true, Bool.or_false, reduceCtorEq, decide_true, decide_false, beq_self_eq_true, List.mem_cons, true_or, or_true, true_and, and_true, false_and, and_false, or_false, false_or, String.reduceEq, String.reduceBEq, List.not_mem_nil, Bool.not_eq_true, Bool.false_eq_true, eq_self, not_true_eq_false, not_false_eq_true, Bool.not_eq_eq_eq_not, decide_eq_true_eq, decide_eq_false_iff_not, bne_iff_ne, ne_eq, Int.reduceLT, Int.reduceLE, Int.reduceMul, Int.reduceAdd, Int.reduceNeg, Int.reduceToNat, Int.reducePow, Nat.reduceLT, Int.reduceEq, Int.reduceSub, zipD, List.zipWith_cons_cons, List.zipWith_nil_left, List.zipWith_nil_right, List.all_cons, List.all_nil, id_eq, scalD, borE, wipeE, noOwn, sz_0, szl_0, sz_1, szl_1, sz_2, szl_2, sz_3, szl_3, sz_4, szl_4, sz_5, szl_5, sz_6, szl_6, sz_7, szl_7, sz_8, szl_8, sz_9, szl_9, sz_10, szl_10, sz_11, szl_11, sz_12, szl_12, sz_13, szl_13, sz_14, szl_14, sz_15, szl_15, sz_16, szl_16, sz_17, szl_17, sz_18, szl_18, sz_19, szl_19, sz_20, szl_20, sz_21, szl_21, sz_22, szl_22, sz_23, szl_23, sz_24, szl_24, sz_25, szl_25, sz_26, szl_26, sz_27, szl_27, sz_28, szl_28, sz_29, szl_29, sz_30, szl_30, sz_31, szl_31, sz_32, szl_32, frz, List.all_cons, List.all_nil] <;> rfl
    | int i => simp only [m__law_same, g__law_same, ↓wR_ok, ↓wR_err, ↓wR_bind, ↓wR_of, ↓wO_some, ↓wO_map, ↓wO_bind, ↓w_var0, ↓w_varS, ↓w_eC, ↓w_e1, ↓w_l1, ↓w_e2, ↓w_l2, ↓w_b1, ↓w_b2, ↓w_eB, ↓w_eF, ↓w_lF, ↓w_eCall, ↓w_eLst, ↓w_aNil, ↓w_aCons, ↓w_eTup, ↓w_lDisp, ↓w_eIf, ↓w_bAnd, ↓w_bOr, ↓w_bNot, ↓w_bYes, ↓w_bChain, ↓w_eAnd, ↓w_eOr, ↓w_iAny, ↓w_oNone, ↓w_oSomeC, ↓w_eSl, ↓w_lSlG, ↓w_lComp, ↓w_sSeq, ↓w_sNil, ↓w_sBreak, ↓w_sCont, ↓w_sSet, ↓w_sSetL, ↓w_sExpr, ↓w_sRet, ↓w_sRetN, ↓w_sIf, ↓w_own0, ↓w_ownS, ↓w_sRetO, ↓w_sApp, ↓w_sSetIx, ↓w_sFrz, ↓w_sThen, ↓w_sRaise, ↓w_sAsg, ↓w_sFor, ↓w_sTry, ↓t_name, ↓t_nil, ↓t_cons, ↓o_plus, ↓o_plusL, ↓o_lAdd, ↓o_sub, ↓o_neg, ↓o_mul, ↓o_fdiv, ↓o_mod, ↓o_pow, ↓o_lt, ↓o_le, ↓o_gt, ↓o_ge, ↓o_eq, ↓o_ne, ↓o_truthB, ↓o_truthI, ↓o_truthN, ↓o_truthL, ↓o_truthT, ↓o_truthS, ↓o_notB, ↓o_isNN, ↓o_isBT, ↓o_isBF, ↓o_isT, ↓o_isIB, ↓o_isSB, ↓o_isLB, ↓o_isTB, ↓o_isNB, ↓o_isNot, ↓o_lenL, ↓o_lenT, ↓o_lenS, ↓o_abs, ↓o_intI, ↓o_intB, ↓o_str, ↓o_gcd, ↓o_list, ↓o_listT, ↓o_tuple, ↓o_tupleT, ↓o_rev, ↓o_type, ↓o_isi, ↓o_isi2, ↓o_rg1, ↓o_rg2, ↓o_zip, ↓o_zipT, ↓o_itemsL, ↓o_itemsT, ↓o_ixL, ↓o_ixT, ↓o_at0, ↓o_at1, ↓o_at2, ↓o_at3, ↓o_at4, ↓o_at5, ↓o_at6, ↓o_at7, ↓o_at8, ↓o_at9, ↓o_at10, ↓o_at11, ↓o_at12, ↓o_at13, ↓o_at14, ↓o_at15, ↓w_eIxO, ↓t_tup1, ↓t_tup2, ↓t_tup3, ↓t_tup9, ↓w_okOnly, ↓w_compN, ↓w_compC, ↓o_all, ↓o_any, ↓bls_nil, ↓bls_cons, ↓o_minL, ↓o_maxL, ↓o_sumL, ↓ints_nil, ↓ints_cons, ↓o_min3, ↓o_max3, ↓o_slL, ↓o_slT, ↓w_eBor, ↓w_bBor, o_isN, w_runF, tyName, isSubTy, tyNames, List.getElem?_cons_zero, List.getElem?_cons_succ, List.set_cons_zero, List.set_cons_succ, List.map_cons, List.map_nil, List.replicate_succ, List.replicate_zero, List.length_cons, List.length_nil, List.cons_append, List.nil_append, Nat.reduceAdd, Nat.reduceSub, Nat.reduceLeDiff, Nat.reduceEqDiff, reduceIte, if_true, if_false, Bool.not_true, Bool.not_false, Bool.true_and, Bool.and_true, Bool.false_and, Bool.and_false, Bool.true_or, Bool.false_or, Bool.or_true, Bool.or_false, reduceCtorEq, decide_true, decide_false, beq_self_eq_true, List.mem_cons, true_or, or_true, true_and, and_true, false_and, and_false, or_false, false_or, String.reduceEq, String.reduceBEq, List.not_mem_nil, Bool.not_eq_true, Bool.false_eq_true, eq_self, not_true_eq_false, not_false_eq_true, Bool.not_eq_eq_eq_not, decide_eq_true_eq, decide_eq_false_iff_not, bne_iff_ne, ne_eq, Int.reduceLT, Int.reduceLE, Int.reduceMul, Int.reduceAdd, Int.reduceNeg, Int.reduceToNat, Int.reducePow, Nat.reduceLT, Int.reduceEq, Int.reduceSub, zipD, List.zipWith_cons_cons, List.zipWith_nil_left, List.zipWith_nil_right, List.all_cons, List.all_nil, id_eq, scalD, borE, wipeE, noOwn, sz_0, szl_0, sz_1, szl_1, sz_2, szl_2, sz_3, szl_3, sz_4, szl_4, sz_5, szl_5, sz_6, szl_6, sz_7, szl_7, sz_8, szl_8, sz_9, szl_9, sz_10, szl_10, sz_11, szl_11, sz_12, szl_12, sz_13, szl_13, sz_14, szl_14, sz_15, szl_15, sz_16, szl_16, sz_17, szl_17, sz_18, szl_18, sz_19, szl_19, sz_20, szl_20, sz_21, szl_21, sz_22, szl_22, sz_23, szl_23, sz_24, szl_24, sz_25, szl_25, sz_26, szl_26, sz_27, szl_27, sz_28, szl_28, sz_29, szl_29, sz_30, szl_30, sz_31, szl_31, sz_32, szl_32, frz, List.all_cons, List.all_nil]
    | str s => simp only [m__law_same, g__law_same, ↓wR_ok, ↓wR_err, ↓wR_bind, ↓wR_of, ↓wO_some, ↓wO_map, ↓wO_bind, ↓w_var0, ↓w_varS, ↓w_eC, ↓w_e1, ↓w_l1, ↓w_e2, ↓w_l2, ↓w_b1, ↓w_b2, ↓w_eB, ↓w_eF, ↓w_lF, ↓w_eCall, ↓w_eLst, ↓w_aNil, ↓w_aCons, ↓w_eTup, ↓w_lDisp, ↓w_eIf, ↓w_bAnd, ↓w_bOr, ↓w_bNot, ↓w_bYes, ↓w_bChain, ↓w_eAnd, ↓w_eOr, ↓w_iAny, ↓w_oNone, ↓w_oSomeC, ↓w_eSl, ↓w_lSlG, ↓w_lComp, ↓w_sSeq, ↓w_sNil, ↓w_sBreak, ↓w_sCont, ↓w_sSet, ↓w_sSetL, ↓w_sExpr, ↓w_sRet, ↓w_sRetN, ↓w_sIf, ↓w_own0, ↓w_ownS, ↓w_sRetO, ↓w_sApp, ↓w_sSetIx, ↓w_sFrz, ↓w_sThen, ↓w_sRaise, ↓w_sAsg, ↓w_sFor, ↓w_sTry, ↓t_name, ↓t_nil, ↓t_cons, ↓o_plus, ↓o_plusL, ↓o_lAdd, ↓o_sub, ↓o_neg, ↓o_mul, ↓o_fdiv, ↓o_mod, ↓o_pow, ↓o_lt, ↓o_le, ↓o_gt, ↓o_ge, ↓o_eq, ↓o_ne, ↓o_truthB, ↓o_truthI, ↓o_truthN, ↓o_truthL, ↓o_truthT, ↓o_truthS, ↓o_notB, ↓o_isNN, ↓o_isBT, ↓o_isBF, ↓o_isT, ↓o_isIB, ↓o_isSB, ↓o_isLB, ↓o_isTB, ↓o_isNB, ↓o_isNot, ↓o_lenL, ↓o_lenT, ↓o_lenS, ↓o_abs, ↓o_intI, ↓o_intB, ↓o_str, ↓o_gcd, ↓o_list, ↓o_listT, ↓o_tuple, ↓o_tupleT, ↓o_rev, ↓o_type, ↓o_isi, ↓o_isi2, ↓o_rg1, ↓o_rg2, ↓o_zip, ↓o_zipT, ↓o_itemsL, ↓o_itemsT, ↓o_ixL, ↓o_ixT, ↓o_at0, ↓o_at1, ↓o_at2, ↓o_at3, ↓o_at4, ↓o_at5, ↓o_at6, ↓o_at7, ↓o_at8, ↓o_at9, ↓o_at10, ↓o_at11, ↓o_at12, ↓o_at13, ↓o_at14, ↓o_at15, ↓w_eIxO, ↓t_tup1, ↓t_tup2, ↓t_tup3, ↓t_tup9, ↓w_okOnly, ↓w_compN, ↓w_compC, ↓o_all, ↓o_any, ↓bls_nil, ↓bls_cons, ↓o_minL, ↓o_maxL, ↓o_sumL, ↓ints_nil, ↓ints_cons, ↓o_min3, ↓o_max3, ↓o_slL, ↓o_slT, ↓w_eBor, ↓w_bBor, o_isN, w_runF, tyName, isSubTy, tyNames, List.getElem?_cons_zero, List.getElem?_cons_succ, List.set_cons_zero, List.set_cons_succ, List.map_cons, List.map_nil, List.replicate_succ, List.replicate_zero, List.length_cons, List.length_nil, List.cons_append, List.nil_append, Nat.reduceAdd, Nat.reduceSub, Nat.reduceLeDiff, Nat.reduceEqDiff, reduceIte, if_true, if_false, Bool.not_true, Bool.not_false, Bool.true_and, Bool.and_true, Bool.false_and, Bool.and_false, Bool.true_or, Bool.false_or, Bool.or_true, Bool.or_false, reduceCtorEq, decide_true, decide_false, beq_self_eq_true, List.mem_cons, true_or, or_true, true_and, and_true, false_and, and_false, or_false, false_or, String.reduceEq, String.reduceBEq, List.not_mem_nil, Bool.not_eq_true, Bool.false_eq_true, eq_self, not_true_eq_false, not_false_eq_true, Bool.not_eq_eq_eq_not, decide_eq_true_eq, decide_eq_false_iff_not, bne_iff_ne, ne_eq, Int.reduceLT, Int.reduceLE, Int.reduceMul, Int.reduceAdd, Int.reduceNeg, Int.reduceToNat, Int.reducePow, Nat.reduceLT, Int.reduceEq, Int.reduceSub, zipD, List.zipWith_cons_cons, List.zipWith_nil_left, List.zipWith_nil_right, List.all_cons, List.all_nil, id_eq, scalD, borE, wipeE, noOwn, sz_0, szl_0, sz_1, szl_1, sz_2, szl_2, sz_3, szl_3, sz_4, szl_4, sz_5, szl_5, sz_6, szl_6, sz_7, szl_7, sz_8, szl_8, sz_9, szl_9, sz_10, szl_10, sz_11, szl_11, sz_12, szl_12, sz_13, szl_13, sz_14, szl_14, sz_15, szl_15, sz_16, szl_16, sz_17, szl_17, sz_18, szl_18, sz_19, szl_19, sz_20, szl_20, sz_21, szl_21, sz_22, szl_22, sz_23, szl_23, sz_24, szl_24, sz_25, szl_25, sz_26, szl_26, sz_27, szl_27, sz_28, szl_28, sz_29, szl_29, sz_30, szl_30, sz_31, szl_31, sz_32, szl_32, frz, List.all_cons, List.all_nil, cEq_str]
    | ty n => cases h
    | tup xs =>
      have h : (decide (xs.length ≤ 1000000) && xs.all (okS k)) = true := h
      simp only [Bool.and_eq_true, decide_eq_true_eq] at h
      simp only [m__law_same, g__law_same, ↓wR_ok, ↓wR_err, ↓wR_bind, ↓wR_of, ↓wO_some, ↓wO_map, ↓wO_bind, ↓w_var0, ↓w_varS, ↓w_eC, ↓w_e1, ↓w_l1, ↓w_e2, ↓w_l2, ↓w_b1, ↓w_b2, ↓w_eB, ↓w_eF, ↓w_lF, ↓w_eCall, ↓w_eLst, ↓w_aNil, ↓w_aCons, ↓w_eTup, ↓w_lDisp, ↓w_eIf, ↓w_bAnd, ↓w_bOr, ↓w_bNot, ↓w_bYes, ↓w_bChain, ↓w_eAnd, ↓w_eOr, ↓w_iAny, ↓w_oNone, ↓w_oSomeC, ↓w_eSl, ↓w_lSlG, ↓w_lComp, ↓w_sSeq, ↓w_sNil, ↓w_sBreak, ↓w_sCont, ↓w_sSet, ↓w_sSetL, ↓w_sExpr, ↓w_sRet, ↓w_sRetN, ↓w_sIf, ↓w_own0, ↓w_ownS, ↓w_sRetO, ↓w_sApp, ↓w_sSetIx, ↓w_sFrz, ↓w_sThen, ↓w_sRaise, ↓w_sAsg, ↓w_sFor, ↓w_sTry, ↓t_name, ↓t_nil, ↓t_cons, ↓o_plus, ↓o_plusL, ↓o_lAdd, ↓o_sub, ↓o_neg, ↓o_mul, ↓o_fdiv, ↓o_mod, ↓o_pow, ↓o_lt, ↓o_le, ↓o_gt, ↓o_ge, ↓o_eq, ↓o_ne, ↓o_truthB, ↓o_truthI, ↓o_truthN, ↓o_truthL, ↓o_truthT, ↓o_truthS, ↓o_notB, ↓o_isNN, ↓o_isBT, ↓o_isBF, ↓o_isT, ↓o_isIB, ↓o_isSB, ↓o_isLB, ↓o_isTB, ↓o_isNB, ↓o_isNot, ↓o_lenL, ↓o_lenT, ↓o_lenS, ↓o_abs, ↓o_intI, ↓o_intB, ↓o_str, ↓o_gcd, ↓o_list, ↓o_listT, ↓o_tuple, ↓o_tupleT, ↓o_rev, ↓o_type, ↓o_isi, ↓o_isi2, ↓o_rg1, ↓o_rg2, ↓o_zip, ↓o_zipT, ↓o_itemsL, ↓o_itemsT, ↓o_ixL, ↓o_ixT, ↓o_at0, ↓o_at1, ↓o_at2, ↓o_at3, ↓o_at4, ↓o_at5, ↓o_at6, ↓o_at7, ↓o_at8, ↓o_at9, ↓o_at10, ↓o_at11, ↓o_at12, ↓o_at13, ↓o_at14, ↓o_at15, ↓w_eIxO, ↓t_tup1, ↓t_tup2, ↓t_tup3, ↓t_tup9, ↓w_okOnly, ↓w_compN, ↓w_compC, ↓o_all, ↓o_any, ↓bls_nil, ↓bls_cons, ↓o_minL, ↓o_maxL, ↓o_sumL, ↓ints_nil, ↓ints_cons, ↓o_min3, ↓o_max3, ↓o_slL, ↓o_slT, ↓w_eBor, ↓w_bBor, o_isN, w_runF, tyName, isSubTy, tyNames, List.getElem?_cons_zero, List.getElem?_cons_succ, List.set_cons_zero, List.set_cons_succ, List.map_cons, List.map_nil, List.replicate_succ, List.replicate_zero, List.length_cons, List.length_nil, List.cons_append, List.nil_append, Nat.reduceAdd, Nat.reduceSub, Nat.reduceLeDiff, Nat.reduceEqDiff, reduceIte, if_true, if_false, Bool.not_true, Bool.not_false, Bool.true_and, Bool.and_true, Bool.false_and, Bool.and_false, Bool.true_or, Bool.false_or, Bool.or_true, Bool.or_false, reduceCtorEq, decide_true, decide_false, beq_self_eq_true, List.mem_cons, true_or, or_true, true_and, and_true, false_and, and_false, or_false, false_or, String.reduceEq, String.reduceBEq, List.not_mem_nil, Bool.not_eq_true, Bool.false_eq_true, eq_self, not_true_eq_false, not_false_eq_true, Bool.not_eq_eq_eq_not, decide_eq_true_eq, decide_eq_false_iff_not, bne_iff_ne, ne_eq, Int.reduceLT, Int.reduceLE, Int.reduceMul, Int.reduceAdd, Int.reduceNeg, Int.reduceToNat, Int.reducePow, Nat.reduceLT, Int.reduceEq, Int.reduceSub, zipD, List.zipWith_cons_cons, List.zipWith_nil_left, List.zipWith_nil_right, List.all_cons, List.all_nil, id_eq, scalD, borE, wipeE, noOwn, sz_0, szl_0, sz_1, szl_1, sz_2, szl_2, sz_3, szl_3, sz_4, szl_4, sz_5, szl_5, sz_6, szl_6, sz_7, szl_7, sz_8, szl_8, sz_9, szl_9, sz_10, szl_10, sz_11, szl_11, sz_12, szl_12, sz_13, szl_13, sz_14, szl_14, sz_15, szl_15, sz_16, szl_16, sz_17, szl_17, sz_18, szl_18, sz_19, szl_19, sz_20, szl_20, sz_21, szl_21, sz_22, szl_22, sz_23, szl_23, sz_24, szl_24, sz_25, szl_25, sz_26, szl_26, sz_27, szl_27, sz_28, szl_28, sz_29, szl_29, sz_30, szl_30, sz_31, szl_31, sz_32, szl_32, frz, List.all_cons, List.all_nil]
      exact ⟨⟨by omega, by omega⟩, loop xs _ (fun Q i => rfl) h.1 h.2 _ _ _ _ _⟩
    | lst xs =>
      have h : (decide (xs.length ≤ 1000000) && xs.all (okS k)) = true := h
      simp only [Bool.and_eq_true, decide_eq_true_eq] at h
      simp only [m__law_same, g__law_same, ↓wR_ok, ↓wR_err, ↓wR_bind, ↓wR_of, ↓wO_some, ↓wO_map, ↓wO_bind, ↓w_var0, ↓w_varS, ↓w_eC, ↓w_e1, ↓w_l1, ↓w_e2, ↓w_l2, ↓w_b1, ↓w_b2, ↓w_eB, ↓w_eF, ↓w_lF, ↓w_eCall, ↓w_eLst, ↓w_aNil, ↓w_aCons, ↓w_eTup, ↓w_lDisp, ↓w_eIf, ↓w_bAnd, ↓w_bOr, ↓w_bNot, ↓w_bYes, ↓w_bChain, ↓w_eAnd, ↓w_eOr, ↓w_iAny, ↓w_oNone, ↓w_oSomeC, ↓w_eSl, ↓w_lSlG, ↓w_lComp, ↓w_sSeq, ↓w_sNil, ↓w_sBreak, ↓w_sCont, ↓w_sSet, ↓w_sSetL, ↓w_sExpr, ↓w_sRet, ↓w_sRetN, ↓w_sIf, ↓w_own0, ↓w_ownS, ↓w_sRetO, ↓w_sApp, ↓w_sSetIx, ↓w_sFrz, ↓w_sThen, ↓w_sRaise, ↓w_sAsg, ↓w_sFor, ↓w_sTry, ↓t_name, ↓t_nil, ↓t_cons, ↓o_plus, ↓o_plusL, ↓o_lAdd, ↓o_sub, ↓o_neg, ↓o_mul, ↓o_fdiv, ↓o_mod, ↓o_pow, ↓o_lt, ↓o_le, ↓o_gt, ↓o_ge, ↓o_eq, ↓o_ne, ↓o_truthB, ↓o_truthI, ↓o_truthN, ↓o_truthL, ↓o_truthT, ↓o_truthS, ↓o_notB, ↓o_isNN, ↓o_isBT, ↓o_isBF, ↓o_isT, ↓o_isIB, ↓o_isSB, ↓o_isLB, ↓o_isTB, ↓o_isNB, ↓o_isNot, ↓o_lenL, ↓o_lenT, ↓o_lenS, ↓o_abs, ↓o_intI, ↓o_intB, ↓o_str, ↓o_gcd, ↓o_list, ↓o_listT, ↓o_tuple, ↓o_tupleT, ↓o_rev, ↓o_type, ↓o_isi, ↓o_isi2, ↓o_rg1, ↓o_rg2, ↓o_zip, ↓o_zipT, ↓o_itemsL, ↓o_itemsT, ↓o_ixL, ↓o_ixT, ↓o_at0, ↓o_at1, ↓o_at2, ↓o_at3, ↓o_at4, ↓o_at5, ↓o_at6, ↓o_at7, ↓o_at8, ↓o_at9, ↓o_at10, ↓o_at11, ↓o_at12, ↓o_at13, ↓o_at14, ↓o_at15, ↓w_eIxO, ↓t_tup1, ↓t_tup2, ↓t_tup3, ↓t_tup9, ↓w_okOnly, ↓w_compN, ↓w_compC, ↓o_all, ↓o_any, ↓bls_nil, ↓bls_cons, ↓o_minL, ↓o_maxL, ↓o_sumL, ↓ints_nil, ↓ints_cons, ↓o_min3, ↓o_max3, ↓o_slL, ↓o_slT, ↓w_eBor, ↓w_bBor, o_isN, w_runF, tyName, isSubTy, tyNames, List.getElem?_cons_zero, List.getElem?_cons_succ, List.set_cons_zero, List.set_cons_succ, List.map_cons, List.map_nil, List.replicate_succ, List.replicate_zero, List.length_cons, List.length_nil, List.cons_append, List.nil_append, Nat.reduceAdd, Nat.reduceSub, Nat.reduceLeDiff, Nat.reduceEqDiff, reduceIte, if_true, if_false, Bool.not_true, Bool.not_false, Bool.true_and, Bool.and_true, Bool.false_and, Bool.and_false, Bool.true_or, Bool.false_or, Bool.or_true, Bool.or_false, reduceCtorEq, decide_true, decide_false, beq_self_eq_true, List.mem_cons, true_or, or_true, true_and, and_true, false_and, and_false, or_false, false_or, String.reduceEq, String.reduceBEq, List.not_mem_nil, Bool.not_eq_true, Bool.false_eq_true, eq_self, not_true_eq_false, not_false_eq_true, Bool.not_eq_eq_eq_not, decide_eq_true_eq, decide_eq_false_iff_not, bne_iff_ne, ne_eq, Int.reduceLT, Int.reduceLE, Int.reduceMul, Int.reduceAdd, Int.reduceNeg, Int.reduceToNat, Int.reducePow, Nat.reduceLT, Int.reduceEq, Int.reduceSub, zipD, List.zipWith_cons_cons, List.zipWith_nil_left, List.zipWith_nil_right, List.all_cons, List.all_nil, id_eq, scalD, borE, wipeE, noOwn, sz_0, szl_0, sz_1, szl_1, sz_2, szl_2, sz_3, szl_3, sz_4, szl_4, sz_5, szl_5, sz_6, szl_6, sz_7, szl_7, sz_8, szl_8, sz_9, szl_9, sz_10, szl_10, sz_11, szl_11, sz_12, szl_12, sz_13, szl_13, sz_14, szl_14, sz_15, szl_15, sz_16, szl_16, sz_17, szl_17, sz_18, szl_18, sz_19, szl_19, sz_20, szl_20, sz_21, szl_21, sz_22, szl_22, sz_23, szl_23, sz_24, szl_24, sz_25, szl_25, sz_26, szl_26, sz_27, szl_27, sz_28, szl_28, sz_29, szl_29, sz_30, szl_30, sz_31, szl_31, sz_32, szl_32, frz, List.all_cons, List.all_nil]
      exact ⟨⟨by omega, by omega⟩, loop xs _ (fun Q i => rfl) h.1 h.2 _ _ _ _ _⟩
end AF

set_option exponentiation.threshold 20000
namespace AF
open PySem PySem.Spec PyProof.Rows L2

/-! ### ratios in lowest terms are the rationals -/
def rq (x : Rat) : D := .tup [.int x.num, .int x.den]
def shOf (p q : Int) : Int := if 0 < q then ((Nat.gcd p.natAbs q.natAbs : Nat) : Int) else -((Nat.gcd p.natAbs q.natAbs : Nat) : Int)
theorem low_ok (p q : Int) (hq : q ≠ 0) : p.fdiv (shOf p q) = (Rat.divInt p q).num ∧ q.fdiv (shOf p q) = ((Rat.divInt p q).den : Int) := by
  have hg : Nat.gcd p.natAbs q.natAbs ≠ 0 := by
    intro h
    have := Nat.eq_zero_of_gcd_eq_zero_right h
    omega
  obtain ⟨a, ha⟩ : ((Nat.gcd p.natAbs q.natAbs : Nat) : Int) ∣ p := Int.ofNat_dvd_left.mpr (Nat.gcd_dvd_left _ _)
  obtain ⟨b, hb⟩ : ((Nat.gcd p.natAbs q.natAbs : Nat) : Int) ∣ q := Int.ofNat_dvd_left.mpr (Nat.gcd_dvd_right _ _)
  have hgc : q.gcd p = Nat.gcd p.natAbs q.natAbs := Nat.gcd_comm _ _
  rw [Rat.num_divInt, Rat.den_divInt, if_neg hq, hgc]
  unfold shOf
  generalize Nat.gcd p.natAbs q.natAbs = g at *
  have hgz : (g : Int) ≠ 0 := by omega
  have e1 : q.natAbs / g = b.natAbs := by
    rw [hb, Int.natAbs_mul, Int.natAbs_natCast]
    exact Nat.mul_div_cancel_left _ (by omega)
  rw [e1]
  by_cases h : 0 < q
  · rw [if_pos h]
    have hb0 : 0 < b := by
      rw [hb] at h
      by_cases hb' : 0 < b
      · exact hb'
      · have : 0 ≤ (g : Int) * (-b) := Int.mul_nonneg (by omega) (by omega)
        rw [Int.mul_neg] at this
        omega
    rw [Int.sign_eq_one_of_pos h, Int.one_mul]
    constructor
    · rw [ha, Int.mul_fdiv_cancel_left _ hgz, Int.mul_ediv_cancel_left _ hgz]
    · rw [hb, Int.mul_fdiv_cancel_left _ hgz]
      omega
  · rw [if_neg h]
    have hq0 : q < 0 := by omega
    have hb0 : b < 0 := by
      rw [hb] at hq0
      by_cases hb' : b < 0
      · exact hb'
      · have : 0 ≤ (g : Int) * b := Int.mul_nonneg (by omega) (by omega)
        omega
    rw [Int.sign_eq_neg_one_of_neg hq0]
    constructor
    · rw [show p = (-(g : Int)) * (-a) from by rw [Int.neg_mul_neg]; exact ha, Int.mul_fdiv_cancel_left _ (by omega)]
      rw [show (-1 : Int) * (-(g : Int) * -a) = (g : Int) * (-a) from by rw [Int.neg_mul_neg, Int.mul_neg, Int.neg_mul, Int.one_mul], Int.mul_ediv_cancel_left _ hgz]
    · rw [show q = (-(g : Int)) * (-b) from by rw [Int.neg_mul_neg]; exact hb, Int.mul_fdiv_cancel_left _ (by omega)]
      omega
def Bd (x : Rat) : Prop := x.num.natAbs < 2 ^ 1000 ∧ x.den < 2 ^ 1000
theorem sm_of {i : Int} (h : i.natAbs < 2 ^ 3000) : Sm i := Sm.of h (by decide)
theorem s9_of {i : Int} (h0 : i ≠ 0) (h : i.natAbs < 2 ^ 3000) : S9 i := S9.of h0 h (by decide)
theorem mul_lt {x y : Int} {a b : Nat} (h1 : x.natAbs < 2 ^ a) (h2 : y.natAbs < 2 ^ b) : (x * y).natAbs < 2 ^ (a + b) := by
  rw [Int.natAbs_mul, Nat.pow_add]
  exact Nat.mul_lt_mul'' h1 h2
theorem add_lt {x y : Int} {a : Nat} (h1 : x.natAbs < 2 ^ a) (h2 : y.natAbs < 2 ^ a) : (x + y).natAbs < 2 ^ (a + 1) := by
  have := Int.natAbs_add_le x y
  rw [Nat.pow_succ]
  omega
theorem sub_lt {x y : Int} {a : Nat} (h1 : x.natAbs < 2 ^ a) (h2 : y.natAbs < 2 ^ a) : (x - y).natAbs < 2 ^ (a + 1) := by
  have := Int.natAbs_sub_le x y
  rw [Nat.pow_succ]
  omega
theorem lt_up {x : Int} {a b : Nat} (h : x.natAbs < 2 ^ a) (hab : a ≤ b) : x.natAbs < 2 ^ b := Nat.lt_of_lt_of_le h (Nat.pow_le_pow_right (by decide) hab)
theorem sh_ne {p q : Int} (hq : q ≠ 0) : shOf p q ≠ 0 := by
  have hg : Nat.gcd p.natAbs q.natAbs ≠ 0 := by
    intro h
    have := Nat.eq_zero_of_gcd_eq_zero_right h
    omega
  unfold shOf
  split <;> omega
theorem sh_le {p q : Int} (hq : q ≠ 0) : (shOf p q).natAbs ≤ q.natAbs := by
  have : Nat.gcd p.natAbs q.natAbs ≤ q.natAbs := Nat.gcd_le_right _ (by omega)
  unfold shOf
  split <;> omega
theorem den_ne (x : Rat) : (x.den : Int) ≠ 0 := by have := x.den_nz; omega
theorem den_mul_ne (x y : Rat) : (x.den : Int) * (y.den : Int) ≠ 0 := Int.mul_ne_zero (den_ne x) (den_ne y)
theorem plus_eq (x y : Rat) : Rat.divInt (x.num * y.den + y.num * x.den) (x.den * y.den) = x + y := by
  rw [Rat.add_def', ← Rat.divInt_ofNat]
  simp
theorem minus_eq (x y : Rat) : Rat.divInt (x.num * y.den - y.num * x.den) (x.den * y.den) = x - y := by
  rw [Rat.sub_def', ← Rat.divInt_ofNat]
  simp
theorem times_eq (x y : Rat) : Rat.divInt (x.num * y.num) (x.den * y.den) = x * y := by
  rw [Rat.mul_def', ← Rat.divInt_ofNat]
  simp
theorem over_eq (x y : Rat) : Rat.divInt (x.num * y.den) (x.den * y.num) = x * y⁻¹ := by
  rw [Rat.inv_def, ← Rat.divInt_mul_divInt, Rat.num_divInt_den]
/-! ### bounds -/
/-- x is of the L-ths, and at most M in size -/
def Ov (L M : Nat) (x : Rat) : Prop := ∃ n : Int, x = mkRat n L ∧ n.natAbs ≤ M * L
theorem Ov.add {L M M' : Nat} {x y : Rat} (hL : L ≠ 0) (h : Ov L M x) (h' : Ov L M' y) : Ov L (M + M') (x + y) := by
  obtain ⟨n, rfl, h1⟩ := h
  obtain ⟨m, rfl, h2⟩ := h'
  refine ⟨n + m, ?_, ?_⟩
  · rw [Rat.mkRat_add_mkRat _ _ hL hL, ← Int.add_mul, Rat.mkRat_mul_right hL]
  · have := Int.natAbs_add_le n m
    rw [Nat.add_mul]
    omega
theorem Ov.zero {L : Nat} : Ov L 0 0 := ⟨0, by simp, by simp⟩
theorem Ov.mono {L M M' : Nat} {x : Rat} (h : Ov L M x) (hM : M ≤ M') : Ov L M' x := by
  obtain ⟨n, e, h1⟩ := h
  exact ⟨n, e, Nat.le_trans h1 (Nat.mul_le_mul_right _ hM)⟩
theorem Ov.den_dvd {L M : Nat} {x : Rat} (hL : L ≠ 0) (h : Ov L M x) : x.den ∣ L := by
  obtain ⟨n, rfl, _⟩ := h
  rw [Rat.den_mkRat, if_neg hL]
  exact Nat.div_dvd_of_dvd (Nat.gcd_dvd_left _ _)
theorem Ov.den_le {L M : Nat} {x : Rat} (hL : L ≠ 0) (h : Ov L M x) : x.den ≤ L := Nat.le_of_dvd (by omega) (h.den_dvd hL)
theorem Ov.num_le {L M : Nat} {x : Rat} (hL : L ≠ 0) (h : Ov L M x) : x.num.natAbs ≤ M * L := by
  obtain ⟨n, rfl, h1⟩ := h
  refine Nat.le_trans ?_ h1
  rw [Rat.num_mkRat, if_neg hL]
  exact Int.natAbs_ediv_le_natAbs _ _
theorem Ov.of {L : Nat} {x : Rat} (h : x.den ∣ L) (hL : L ≠ 0) : Ov L x.num.natAbs x := by
  obtain ⟨c, hc⟩ := h
  have hc0 : c ≠ 0 := by
    intro e
    subst e
    simp at hc
    omega
  refine ⟨x.num * c, ?_, ?_⟩
  · rw [hc, Rat.mkRat_mul_right hc0, Rat.mkRat_self]
  · rw [Int.natAbs_mul, Int.natAbs_natCast]
    refine Nat.mul_le_mul_left _ ?_
    rw [hc]
    exact Nat.le_mul_of_pos_left _ (Nat.pos_of_ne_zero x.den_nz)
end AF

set_option linter.unusedVariables false
namespace AF
open PySem PySem.Spec PyProof.Rows L2
def topS (i : Nat) : Stmt := PySem.Challenge.pw_askewread_k02_ratios_cut_and_joined.main.body.getD i (.Pass ⟨0, 0, 0, 0⟩)
def cat_BadNumber_l : List (String × Bool) := [("AskewError", false), ("BadNumber", true)]
def c_NOUGHT : D := .tup [.int (0), .int (1)]
section
variable {P : Program} {w : World} {K : PySem.W.Frag} {mg : Str → Option Value} {base : Heap}
abbrev s_is_whole : Stmt := topS 6
abbrev N_is_whole : List Str := ["value"]
theorem sc_is_whole : FnScope N_is_whole ["value"] (defScope s_is_whole) := ⟨rfl, rfl, rfl, by decide +kernel, rfl, by decide +kernel, by decide +kernel⟩
def g_is_whole : GS :=
  sRet (eAnd (eF fIsi (aCons (eVar 0) (aCons (eC (.ty "int")) (aNil)))) (e1 notD (eF fIsi (aCons (eVar 0) (aCons (eC (.ty "bool")) (aNil))))))
def m_is_whole : List D → Res D := runF 1 1 g_is_whole
theorem ok_is_whole {f : Addr} {fd : FuncData} (F : Fun K "is_whole" "is_whole" s_is_whole f fd) (hm : mg "is_whole" = some (.ref f)) (b_int : mg "int" = none) (b_isinstance : mg "isinstance" = none) (b_bool : mg "bool" = none) : Fk P w K mg base 1 "is_whole" 1 m_is_whole :=
  fk_mk (k := 0) F sc_is_whole hm (fun _ _ _ _ _ _ us hl => match us, hl with | [_], _ => rfl) rfl rfl (by decide) fun cdv A outer s H E hr tk po => by
    have nd := sc_is_whole.nd
    exact (fss_one (fs_ret (fe_and (fe_isi b_isinstance (fa_cons (fe_var 0) (fa_cons (fe_ty b_int bt_int) fa_nil))) (fe_one (fe_not (fe_isi b_isinstance (fa_cons (fe_var 0) (fa_cons (fe_ty b_bool bt_bool) fa_nil))))))))
abbrev s_are_wholes : Stmt := topS 7
abbrev N_are_wholes : List Str := ["value", "low", "high", "one"]
theorem sc_are_wholes : FnScope N_are_wholes ["value", "low", "high"] (defScope s_are_wholes) := ⟨rfl, rfl, rfl, by decide +kernel, rfl, by decide +kernel, by decide +kernel⟩
def g_are_wholes : GS :=
  sRet (eAnd (eF fIsi (aCons (eVar 0) (aCons (eC (.ty "list")) (aNil)))) (eF fAll (aCons (eLst (lComp (iAny (eVar 0)) [3] (tName 3) (bYes) (eAnd (eCall (m_is_whole) (aCons (eVar 3) (aNil))) (eB (bChain cLe cLe (eVar 1) (eVar 3) (eVar 2)))))) (aNil))))
def m_are_wholes : List D → Res D := runF 3 4 g_are_wholes
theorem ok_are_wholes {f : Addr} {fd : FuncData} (F : Fun K "are_wholes" "are_wholes" s_are_wholes f fd) (hm : mg "are_wholes" = some (.ref f)) (b_list : mg "list" = none) (b_isinstance : mg "isinstance" = none) (k_is_whole : Fk P w K mg base 1 "is_whole" 1 m_is_whole) (b_all : mg "all" = none) : Fk P w K mg base 2 "are_wholes" 3 m_are_wholes :=
  fk_mk (k := 1) F sc_are_wholes hm (fun _ _ _ _ _ _ us hl => match us, hl with | [_, _, _], _ => rfl) rfl rfl (by decide) fun cdv A outer s H E hr tk po => by
    have nd := sc_are_wholes.nd
    exact (fss_one (fs_ret (fe_and (fe_isi b_isinstance (fa_cons (fe_var 0) (fa_cons (fe_ty b_list bt_list) fa_nil))) (fe_one (fe_all b_all rfl (fa_cons (fe_l (fl_comp (own := [("one", 3)]) rfl nd (show blkC N_are_wholes (defScope s_are_wholes) _ _ = true by decide +kernel) (fi_any (fe_var 0)) (fun _ _ _ _ _ => (fg_name 3 nd)) (fun _ _ _ _ _ => fts_nil) (fun _ _ _ _ _ => (fe_and (fe_call k_is_whole (hr.mono (by omega)) takes0 (fa_cons (fe_var 3) fa_nil)) (fe_one (fe_lele (fe_var 1) (fe_var 3) (fe_var 2))))))) fa_nil))))))
abbrev s_is_same : Stmt := topS 8
abbrev N_is_same : List Str := ["value", "due", "one", "other"]
theorem sc_is_same : FnScope N_is_same ["value", "due"] (defScope s_is_same) := ⟨rfl, rfl, rfl, by decide +kernel, rfl, by decide +kernel, by decide +kernel⟩
def g_is_same (mr : List D → Res D) : GS :=
  sSeq (sIf (b2 cIsNot (eF fType (aCons (eVar 0) (aNil))) (eF fType (aCons (eVar 1) (aNil))))
    (sRet (eC (.bl false)))
    (sNil))
    (sSeq (sIf (bNot (b1 truth (eF fIsi (aCons (eVar 1) (aCons (eTup (aCons (eC (.ty "list")) (aCons (eC (.ty "tuple")) (aNil)))) (aNil))))))
    (sRet (eB (b2 cEq (eVar 0) (eVar 1))))
    (sNil))
    (sRet (eAnd (eB (b2 cEq (eF fLen (aCons (eVar 0) (aNil))) (eF fLen (aCons (eVar 1) (aNil))))) (eF fAll (aCons (eLst (lComp (lF zipF (aCons (eVar 0) (aCons (eVar 1) (aNil)))) [2, 3] (tTup 2 (tsCons (tName 2) (tsCons (tName 3) (tsNil)))) (bYes) (eCall (mr) (aCons (eVar 2) (aCons (eVar 3) (aNil)))))) (aNil))))))
def m_is_same : Nat → List D → Res D
  | 0 => fun _ => .stuck
  | k + 1 => runF 2 4 (g_is_same (m_is_same k))
theorem ok_is_same {f : Addr} {fd : FuncData} (F : Fun K "is_same" "is_same" s_is_same f fd) (hm : mg "is_same" = some (.ref f)) (b_type : mg "type" = none) (b_tuple : mg "tuple" = none) (b_list : mg "list" = none) (b_isinstance : mg "isinstance" = none) (b_len : mg "len" = none) (b_zip : mg "zip" = none) (b_all : mg "all" = none) : ∀ k, Fk P w K mg base (k + 1) "is_same" 2 (m_is_same k)
  | 0 => (fk_stuck (ps := ["value", "due"]) F hm (fun _ _ _ _ _ _ us hl => match us, hl with | [_, _], _ => rfl)).mono (by omega)
  | k + 1 => fk_mk F sc_is_same hm (fun _ _ _ _ _ _ us hl => match us, hl with | [_, _], _ => rfl) rfl rfl (by decide) fun cdv A outer s H E hr tk po => by
    have ih := ok_is_same F hm b_type b_tuple b_list b_isinstance b_len b_zip b_all k
    have nd := sc_is_same.nd
    exact (fss_cons (fs_if (ft_isnot (fe_ctype b_type (fa_cons (fe_var 0) fa_nil)) (fe_ctype b_type (fa_cons (fe_var 1) fa_nil)))
    (fss_one (fs_ret fe_bl))
    fss_nil)
    (fss_cons (fs_if (ft_not (ft_truth (fe_isi b_isinstance (fa_cons (fe_var 1) (fa_cons (fe_tup (fa_cons (fe_ty b_list bt_list) (fa_cons (fe_ty b_tuple bt_tuple) fa_nil))) fa_nil)))))
    (fss_one (fs_ret (fe_eq hr (fe_var 0) (fe_var 1))))
    fss_nil)
    (fss_one (fs_ret (fe_and (fe_eq hr (fe_len b_len (fa_cons (fe_var 0) fa_nil)) (fe_len b_len (fa_cons (fe_var 1) fa_nil))) (fe_one (fe_all b_all rfl (fa_cons (fe_l (fl_comp (own := [("one", 2), ("other", 3)]) rfl nd (show blkC N_is_same (defScope s_is_same) _ _ = true by decide +kernel) (fi_zip b_zip (fa_cons (fe_var 0) (fa_cons (fe_var 1) fa_nil))) (fun _ _ _ _ _ => (fg_tup rfl (fgs_cons (fg_name 2 nd) (fgs_cons (fg_name 3 nd) fgs_nil)))) (fun _ _ _ _ _ => fts_nil) (fun _ _ _ _ _ => (fe_call ih (hr.mono (by omega)) takes0 (fa_cons (fe_var 2) (fa_cons (fe_var 3) fa_nil)))))) fa_nil))))))))
abbrev s_is_ratio : Stmt := topS 9
abbrev N_is_ratio : List Str := ["value", "part"]
theorem sc_is_ratio : FnScope N_is_ratio ["value"] (defScope s_is_ratio) := ⟨rfl, rfl, rfl, by decide +kernel, rfl, by decide +kernel, by decide +kernel⟩
def g_is_ratio : GS :=
  sSeq (sIf (bOr (bNot (b1 truth (eF fIsi (aCons (eVar 0) (aCons (eC (.ty "tuple")) (aNil)))))) (bOr (b2 cNe (eF fLen (aCons (eVar 0) (aNil))) (eC (.int 2))) (bNot (b1 truth (eF fAll (aCons (eLst (lComp (iAny (eVar 0)) [1] (tName 1) (bYes) (eCall (m_is_whole) (aCons (eVar 1) (aNil))))) (aNil)))))))
    (sRet (eC (.bl false)))
    (sNil))
    (sRet (eAnd (eB (b2 cGe (e2 dIx (eVar 0) (eC (.int 1))) (eC (.int 1)))) (eB (b2 cEq (eF fGcd (aCons (e2 dIx (eVar 0) (eC (.int 0))) (aCons (e2 dIx (eVar 0) (eC (.int 1))) (aNil)))) (eC (.int 1))))))
def m_is_ratio : List D → Res D := runF 1 2 g_is_ratio
theorem ok_is_ratio {f : Addr} {fd : FuncData} (F : Fun K "is_ratio" "is_ratio" s_is_ratio f fd) (hm : mg "is_ratio" = some (.ref f)) (b_tuple : mg "tuple" = none) (b_isinstance : mg "isinstance" = none) (b_len : mg "len" = none) (k_is_whole : Fk P w K mg base 1 "is_whole" 1 m_is_whole) (b_all : mg "all" = none) (b_gcd : mg "gcd" = some (.builtin "math.gcd")) : Fk P w K mg base 2 "is_ratio" 1 m_is_ratio :=
  fk_mk (k := 1) F sc_is_ratio hm (fun _ _ _ _ _ _ us hl => match us, hl with | [_], _ => rfl) rfl rfl (by decide) fun cdv A outer s H E hr tk po => by
    have nd := sc_is_ratio.nd
    exact (fss_cons (fs_if (ft_w (fw_or (ft_not (ft_truth (fe_isi b_isinstance (fa_cons (fe_var 0) (fa_cons (fe_ty b_tuple bt_tuple) fa_nil))))) (fw_or (ft_ne hr (fe_len b_len (fa_cons (fe_var 0) fa_nil)) fe_int) (fw_or1 (ft_not (ft_truth (fe_all b_all rfl (fa_cons (fe_l (fl_comp (own := [("part", 1)]) rfl nd (show blkC N_is_ratio (defScope s_is_ratio) _ _ = true by decide +kernel) (fi_any (fe_var 0)) (fun _ _ _ _ _ => (fg_name 1 nd)) (fun _ _ _ _ _ => fts_nil) (fun _ _ _ _ _ => (fe_call k_is_whole (hr.mono (by omega)) takes0 (fa_cons (fe_var 1) fa_nil))))) fa_nil))))))))
    (fss_one (fs_ret fe_bl))
    fss_nil)
    (fss_one (fs_ret (fe_and (fe_ge (fe_ix (fe_var 0) fe_int) fe_int) (fe_one (fe_eq hr (fe_gcd b_gcd (fa_cons (fe_ix (fe_var 0) fe_int) (fa_cons (fe_ix (fe_var 0) fe_int) fa_nil))) fe_int))))))
abbrev s_ratio : Stmt := topS 10
abbrev N_ratio : List Str := ["p", "q", "shared"]
theorem sc_ratio : FnScope N_ratio ["p", "q"] (defScope s_ratio) := ⟨rfl, rfl, rfl, by decide +kernel, rfl, by decide +kernel, by decide +kernel⟩
def g_ratio : GS :=
  sSeq (sIf (b2 cEq (eVar 1) (eC (.int 0)))
    (sRaise (.plain "BadNumber"))
    (sNil))
    (sSeq (sSet 2 (eIf (b2 cGt (eVar 1) (eC (.int 0))) (eF fGcd (aCons (eVar 0) (aCons (eVar 1) (aNil)))) (e1 dNeg (eF fGcd (aCons (eVar 0) (aCons (eVar 1) (aNil)))))))
    (sRet (eTup (aCons (e2 dFdiv (eVar 0) (eVar 2)) (aCons (e2 dFdiv (eVar 1) (eVar 2)) (aNil))))))
def m_ratio : List D → Res D := runF 2 3 g_ratio
theorem ok_ratio {f : Addr} {fd : FuncData} {C_BadNumber : Addr} (F : Fun K "ratio" "ratio" s_ratio f fd) (hm : mg "ratio" = some (.ref f)) (x_BadNumber : Exn K mg "BadNumber" C_BadNumber) (b_gcd : mg "gcd" = some (.builtin "math.gcd")) : Fk P w K mg base 1 "ratio" 2 m_ratio :=
  fk_mk (k := 0) F sc_ratio hm (fun _ _ _ _ _ _ us hl => match us, hl with | [_, _], _ => rfl) rfl rfl (by decide) fun cdv A outer s H E hr tk po => by
    have nd := sc_ratio.nd
    exact (fss_cons (fs_if (ft_eq hr (fe_var 1) fe_int)
    (fss_one (fs_raise x_BadNumber rfl tk))
    fss_nil)
    (fss_cons (fs_set 2 (fe_if (ft_gt (fe_var 1) fe_int) (fe_gcd b_gcd (fa_cons (fe_var 0) (fa_cons (fe_var 1) fa_nil))) (fe_neg (fe_gcd b_gcd (fa_cons (fe_var 0) (fa_cons (fe_var 1) fa_nil))))) nd)
    (fss_one (fs_ret (fe_tup (fa_cons (fe_fdiv (fe_var 0) (fe_var 2)) (fa_cons (fe_fdiv (fe_var 1) (fe_var 2)) fa_nil)))))))
abbrev s_plus : Stmt := topS 11
abbrev N_plus : List Str := ["r", "s"]
theorem sc_plus : FnScope N_plus ["r", "s"] (defScope s_plus) := ⟨rfl, rfl, rfl, by decide +kernel, rfl, by decide +kernel, by decide +kernel⟩
def g_plus : GS :=
  sRet (eCall (m_ratio) (aCons (e2 dPlus (e2 dMul (e2 dIx (eVar 0) (eC (.int 0))) (e2 dIx (eVar 1) (eC (.int 1)))) (e2 dMul (e2 dIx (eVar 1) (eC (.int 0))) (e2 dIx (eVar 0) (eC (.int 1))))) (aCons (e2 dMul (e2 dIx (eVar 0) (eC (.int 1))) (e2 dIx (eVar 1) (eC (.int 1)))) (aNil))))
def m_plus : List D → Res D := runF 2 2 g_plus
theorem ok_plus {f : Addr} {fd : FuncData} (F : Fun K "plus" "plus" s_plus f fd) (hm : mg "plus" = some (.ref f)) (k_ratio : Fk P w K mg base 1 "ratio" 2 m_ratio) : Fk P w K mg base 2 "plus" 2 m_plus :=
  fk_mk (k := 1) F sc_plus hm (fun _ _ _ _ _ _ us hl => match us, hl with | [_, _], _ => rfl) rfl rfl (by decide) fun cdv A outer s H E hr tk po => by
    have nd := sc_plus.nd
    exact (fss_one (fs_ret (fe_call k_ratio (hr.mono (by omega)) tk (fa_cons (fe_plus (fe_mul (fe_ix (fe_var 0) fe_int) (fe_ix (fe_var 1) fe_int)) (fe_mul (fe_ix (fe_var 1) fe_int) (fe_ix (fe_var 0) fe_int))) (fa_cons (fe_mul (fe_ix (fe_var 0) fe_int) (fe_ix (fe_var 1) fe_int)) fa_nil)))))
abbrev s_minus : Stmt := topS 12
abbrev N_minus : List Str := ["r", "s"]
theorem sc_minus : FnScope N_minus ["r", "s"] (defScope s_minus) := ⟨rfl, rfl, rfl, by decide +kernel, rfl, by decide +kernel, by decide +kernel⟩
def g_minus : GS :=
  sRet (eCall (m_ratio) (aCons (e2 dSub (e2 dMul (e2 dIx (eVar 0) (eC (.int 0))) (e2 dIx (eVar 1) (eC (.int 1)))) (e2 dMul (e2 dIx (eVar 1) (eC (.int 0))) (e2 dIx (eVar 0) (eC (.int 1))))) (aCons (e2 dMul (e2 dIx (eVar 0) (eC (.int 1))) (e2 dIx (eVar 1) (eC (.int 1)))) (aNil))))
def m_minus : List D → Res D := runF 2 2 g_minus
theorem ok_minus {f : Addr} {fd : FuncData} (F : Fun K "minus" "minus" s_minus f fd) (hm : mg "minus" = some (.ref f)) (k_ratio : Fk P w K mg base 1 "ratio" 2 m_ratio) : Fk P w K mg base 2 "minus" 2 m_minus :=
  fk_mk (k := 1) F sc_minus hm (fun _ _ _ _ _ _ us hl => match us, hl with | [_, _], _ => rfl) rfl rfl (by decide) fun cdv A outer s H E hr tk po => by
    have nd := sc_minus.nd
    exact (fss_one (fs_ret (fe_call k_ratio (hr.mono (by omega)) tk (fa_cons (fe_sub (fe_mul (fe_ix (fe_var 0) fe_int) (fe_ix (fe_var 1) fe_int)) (fe_mul (fe_ix (fe_var 1) fe_int) (fe_ix (fe_var 0) fe_int))) (fa_cons (fe_mul (fe_ix (fe_var 0) fe_int) (fe_ix (fe_var 1) fe_int)) fa_nil)))))
abbrev s_times : Stmt := topS 13
abbrev N_times : List Str := ["r", "s"]
theorem sc_times : FnScope N_times ["r", "s"] (defScope s_times) := ⟨rfl, rfl, rfl, by decide +kernel, rfl, by decide +kernel, by decide +kernel⟩
def g_times : GS :=
  sRet (eCall (m_ratio) (aCons (e2 dMul (e2 dIx (eVar 0) (eC (.int 0))) (e2 dIx (eVar 1) (eC (.int 0)))) (aCons (e2 dMul (e2 dIx (eVar 0) (eC (.int 1))) (e2 dIx (eVar 1) (eC (.int 1)))) (aNil))))
def m_times : List D → Res D := runF 2 2 g_times
theorem ok_times {f : Addr} {fd : FuncData} (F : Fun K "times" "times" s_times f fd) (hm : mg "times" = some (.ref f)) (k_ratio : Fk P w K mg base 1 "ratio" 2 m_ratio) : Fk P w K mg base 2 "times" 2 m_times :=
  fk_mk (k := 1) F sc_times hm (fun _ _ _ _ _ _ us hl => match us, hl with | [_, _], _ => rfl) rfl rfl (by decide) fun cdv A outer s H E hr tk po => by
    have nd := sc_times.nd
    exact (fss_one (fs_ret (fe_call k_ratio (hr.mono (by omega)) tk (fa_cons (fe_mul (fe_ix (fe_var 0) fe_int) (fe_ix (fe_var 1) fe_int)) (fa_cons (fe_mul (fe_ix (fe_var 0) fe_int) (fe_ix (fe_var 1) fe_int)) fa_nil)))))
abbrev s_over : Stmt := topS 14
abbrev N_over : List Str := ["r", "s"]
theorem sc_over : FnScope N_over ["r", "s"] (defScope s_over) := ⟨rfl, rfl, rfl, by decide +kernel, rfl, by decide +kernel, by decide +kernel⟩
def g_over : GS :=
  sRet (eCall (m_ratio) (aCons (e2 dMul (e2 dIx (eVar 0) (eC (.int 0))) (e2 dIx (eVar 1) (eC (.int 1)))) (aCons (e2 dMul (e2 dIx (eVar 0) (eC (.int 1))) (e2 dIx (eVar 1) (eC (.int 0)))) (aNil))))
def m_over : List D → Res D := runF 2 2 g_over
theorem ok_over {f : Addr} {fd : FuncData} (F : Fun K "over" "over" s_over f fd) (hm : mg "over" = some (.ref f)) (k_ratio : Fk P w K mg base 1 "ratio" 2 m_ratio) : Fk P w K mg base 2 "over" 2 m_over :=
  fk_mk (k := 1) F sc_over hm (fun _ _ _ _ _ _ us hl => match us, hl with | [_, _], _ => rfl) rfl rfl (by decide) fun cdv A outer s H E hr tk po => by
    have nd := sc_over.nd
    exact (fss_one (fs_ret (fe_call k_ratio (hr.mono (by omega)) tk (fa_cons (fe_mul (fe_ix (fe_var 0) fe_int) (fe_ix (fe_var 1) fe_int)) (fa_cons (fe_mul (fe_ix (fe_var 0) fe_int) (fe_ix (fe_var 1) fe_int)) fa_nil)))))
abbrev s_sign : Stmt := topS 15
abbrev N_sign : List Str := ["r"]
theorem sc_sign : FnScope N_sign ["r"] (defScope s_sign) := ⟨rfl, rfl, rfl, by decide +kernel, rfl, by decide +kernel, by decide +kernel⟩
def g_sign : GS :=
  sRet (e2 dSub (eF fInt (aCons (eB (b2 cGt (e2 dIx (eVar 0) (eC (.int 0))) (eC (.int 0)))) (aNil))) (eF fInt (aCons (eB (b2 cLt (e2 dIx (eVar 0) (eC (.int 0))) (eC (.int 0)))) (aNil))))
def m_sign : List D → Res D := runF 1 1 g_sign
theorem ok_sign {f : Addr} {fd : FuncData} (F : Fun K "sign" "sign" s_sign f fd) (hm : mg "sign" = some (.ref f)) (b_int : mg "int" = none) : Fk P w K mg base 1 "sign" 1 m_sign :=
  fk_mk (k := 0) F sc_sign hm (fun _ _ _ _ _ _ us hl => match us, hl with | [_], _ => rfl) rfl rfl (by decide) fun cdv A outer s H E hr tk po => by
    have nd := sc_sign.nd
    exact (fss_one (fs_ret (fe_sub (fe_cint b_int (fa_cons (fe_gt (fe_ix (fe_var 0) fe_int) fe_int) fa_nil)) (fe_cint b_int (fa_cons (fe_lt (fe_ix (fe_var 0) fe_int) fe_int) fa_nil)))))
abbrev s_compare : Stmt := topS 16
abbrev N_compare : List Str := ["r", "s"]
theorem sc_compare : FnScope N_compare ["r", "s"] (defScope s_compare) := ⟨rfl, rfl, rfl, by decide +kernel, rfl, by decide +kernel, by decide +kernel⟩
def g_compare : GS :=
  sRet (eCall (m_sign) (aCons (eCall (m_minus) (aCons (eVar 0) (aCons (eVar 1) (aNil)))) (aNil)))
def m_compare : List D → Res D := runF 2 2 g_compare
theorem ok_compare {f : Addr} {fd : FuncData} (F : Fun K "compare" "compare" s_compare f fd) (hm : mg "compare" = some (.ref f)) (k_sign : Fk P w K mg base 1 "sign" 1 m_sign) (k_minus : Fk P w K mg base 2 "minus" 2 m_minus) : Fk P w K mg base 3 "compare" 2 m_compare :=
  fk_mk (k := 2) F sc_compare hm (fun _ _ _ _ _ _ us hl => match us, hl with | [_, _], _ => rfl) rfl rfl (by decide) fun cdv A outer s H E hr tk po => by
    have nd := sc_compare.nd
    exact (fss_one (fs_ret (fe_call k_sign (hr.mono (by omega)) tk (fa_cons (fe_call k_minus (hr.mono (by omega)) tk (fa_cons (fe_var 0) (fa_cons (fe_var 1) fa_nil))) fa_nil))))
abbrev s_floor_of : Stmt := topS 17
abbrev N_floor_of : List Str := ["r"]
theorem sc_floor_of : FnScope N_floor_of ["r"] (defScope s_floor_of) := ⟨rfl, rfl, rfl, by decide +kernel, rfl, by decide +kernel, by decide +kernel⟩
def g_floor_of : GS :=
  sRet (e2 dFdiv (e2 dIx (eVar 0) (eC (.int 0))) (e2 dIx (eVar 0) (eC (.int 1))))
def m_floor_of : List D → Res D := runF 1 1 g_floor_of
theorem ok_floor_of {f : Addr} {fd : FuncData} (F : Fun K "floor_of" "floor_of" s_floor_of f fd) (hm : mg "floor_of" = some (.ref f)) : Fk P w K mg base 1 "floor_of" 1 m_floor_of :=
  fk_mk (k := 0) F sc_floor_of hm (fun _ _ _ _ _ _ us hl => match us, hl with | [_], _ => rfl) rfl rfl (by decide) fun cdv A outer s H E hr tk po => by
    have nd := sc_floor_of.nd
    exact (fss_one (fs_ret (fe_fdiv (fe_ix (fe_var 0) fe_int) (fe_ix (fe_var 0) fe_int))))
abbrev s_total : Stmt := topS 18
abbrev N_total : List Str := ["listed", "found", "r"]
theorem sc_total : FnScope N_total ["listed"] (defScope s_total) := ⟨rfl, rfl, rfl, by decide +kernel, rfl, by decide +kernel, by decide +kernel⟩
def b_total_1 : GS :=
  sSet 1 (eCall (m_plus) (aCons (eVar 1) (aCons (eVar 2) (aNil))))
def r_total_2 : GS :=
  sRet (eVar 1)
def g_total : GS :=
  sSeq (sSet 1 (eC c_NOUGHT))
    (sSeq (sFor (iAny (eVar 0)) (tName 2)
    (b_total_1))
    (r_total_2))
def m_total : List D → Res D := runF 1 3 g_total
theorem ok_total {f : Addr} {fd : FuncData} {v_NOUGHT : V} (F : Fun K "total" "total" s_total f fd) (hm : mg "total" = some (.ref f)) (g_NOUGHT : ∃ u, mg "NOUGHT" = some u ∧ RelV v_NOUGHT u) (r_NOUGHT : ∀ H, Rep K H c_NOUGHT v_NOUGHT) (k_plus : Fk P w K mg base 2 "plus" 2 m_plus) : Fk P w K mg base 3 "total" 1 m_total :=
  fk_mk (k := 2) F sc_total hm (fun _ _ _ _ _ _ us hl => match us, hl with | [_], _ => rfl) rfl rfl (by decide) fun cdv A outer s H E hr tk po => by
    have nd := sc_total.nd
    exact (fss_cons (fs_set 1 (fe_glob g_NOUGHT r_NOUGHT) nd)
    (fss_cons (fs_for po rfl (fi_any (fe_var 0)) (fg_name 2 nd)
    (fss_one (fs_set 1 (fe_call k_plus (hr.mono (by omega)) tk (fa_cons (fe_var 1) (fa_cons (fe_var 2) fa_nil))) nd)))
    (fss_one (fs_ret (fe_var 1)))))
abbrev s_common_bottom : Stmt := topS 19
abbrev N_common_bottom : List Str := ["listed", "found", "_", "q"]
theorem sc_common_bottom : FnScope N_common_bottom ["listed"] (defScope s_common_bottom) := ⟨rfl, rfl, rfl, by decide +kernel, rfl, by decide +kernel, by decide +kernel⟩
def b_common_bottom_1 : GS :=
  sSet 1 (e2 dMul (e2 dFdiv (eVar 1) (eF fGcd (aCons (eVar 1) (aCons (eVar 3) (aNil))))) (eVar 3))
def r_common_bottom_2 : GS :=
  sRet (eVar 1)
def g_common_bottom : GS :=
  sSeq (sSet 1 (eC (.int 1)))
    (sSeq (sFor (iAny (eVar 0)) (tTup 2 (tsCons (tName 2) (tsCons (tName 3) (tsNil))))
    (b_common_bottom_1))
    (r_common_bottom_2))
def m_common_bottom : List D → Res D := runF 1 4 g_common_bottom
theorem ok_common_bottom {f : Addr} {fd : FuncData} (F : Fun K "common_bottom" "common_bottom" s_common_bottom f fd) (hm : mg "common_bottom" = some (.ref f)) (b_gcd : mg "gcd" = some (.builtin "math.gcd")) : Fk P w K mg base 1 "common_bottom" 1 m_common_bottom :=
  fk_mk (k := 0) F sc_common_bottom hm (fun _ _ _ _ _ _ us hl => match us, hl with | [_], _ => rfl) rfl rfl (by decide) fun cdv A outer s H E hr tk po => by
    have nd := sc_common_bottom.nd
    exact (fss_cons (fs_set 1 fe_int nd)
    (fss_cons (fs_for po rfl (fi_any (fe_var 0)) (fg_tup rfl (fgs_cons (fg_name 2 nd) (fgs_cons (fg_name 3 nd) fgs_nil)))
    (fss_one (fs_set 1 (fe_mul (fe_fdiv (fe_var 1) (fe_gcd b_gcd (fa_cons (fe_var 1) (fa_cons (fe_var 3) fa_nil)))) (fe_var 3)) nd)))
    (fss_one (fs_ret (fe_var 1)))))
abbrev s__law_numbers : Stmt := topS 21
abbrev N__law_numbers : List Str := ["script", "at", "count", "cell", "numbers", "k", "mixed"]
theorem sc__law_numbers : FnScope N__law_numbers ["script", "at", "count"] (defScope s__law_numbers) := ⟨rfl, rfl, rfl, by decide +kernel, rfl, by decide +kernel, by decide +kernel⟩
theorem ok__law_numbers {f : Addr} {fd : FuncData} (F : Fun K "_law_numbers" "_law_numbers" s__law_numbers f fd) (hm : mg "_law_numbers" = some (.ref f)) (b_len : mg "len" = none) (b_int : mg "int" = none) (b_range : mg "range" = none) : Fk P w K mg base 1 "_law_numbers" 3 m__law_numbers :=
  fk_mk (k := 0) F sc__law_numbers hm (fun _ _ _ _ _ _ us hl => match us, hl with | [_, _, _], _ => rfl) rfl rfl (by decide) fun cdv A outer s H E hr tk po => by
    have nd := sc__law_numbers.nd
    exact (fss_cons (fs_set 3 (fe_mul fe_int (fe_plus (fe_var 1) fe_int)) nd)
    (fss_cons (fs_if (ft_lt (fe_var 1) (fe_len b_len (fa_cons (fe_var 0) fa_nil)))
    (fss_one (fs_set 3 (fe_cint b_int (fa_cons (fe_ix (fe_var 0) (fe_var 1)) fa_nil)) nd))
    fss_nil)
    (fss_cons (fs_if (ft_lt (fe_var 3) fe_int)
    (fss_one (fs_set 3 (fe_sub fe_int (fe_mul fe_int (fe_var 3))) nd))
    fss_nil)
    (fss_cons (fs_setL 4 (fl_disp fa_nil) nd)
    (fss_cons (fs_for po rfl (fi_range1 b_range (fa_cons (fe_var 2) fa_nil)) (fg_name 5 nd)
    (fss_one (fs_if (ft_ge (fe_var 3) (fe_pow fe_int fe_int))
    (fss_cons (fs_app 4 (fe_mod (fe_var 3) fe_int) (hp := pe_bm PySem.F.plainAttrs_list PySem.F.slot_list_append PySem.F.type_list_append mt_append (pv 4) (pa_cons (fe_mod (fe_var 3) fe_int) pa_nil)))
    (fss_one (fs_set 3 (fe_fdiv (fe_var 3) fe_int) nd)))
    (fss_cons (fs_set 6 (fe_mod (fe_plus (fe_plus (fe_mul (fe_var 3) fe_int) (fe_mul (fe_plus (fe_var 5) fe_int) fe_int)) (fe_mul (fe_var 1) fe_int)) fe_int) nd)
    (fss_cons (fs_set 6 (fe_mod (fe_plus (fe_mul (fe_var 6) (fe_var 6)) (fe_mul fe_int (fe_plus (fe_var 5) fe_int))) fe_int) nd)
    (fss_one (fs_app 4 (fe_mod (fe_fdiv (fe_var 6) fe_int) fe_int) (hp := pe_bm PySem.F.plainAttrs_list PySem.F.slot_list_append PySem.F.type_list_append mt_append (pv 4) (pa_cons (fe_mod (fe_fdiv (fe_var 6) fe_int) fe_int) pa_nil)))))))))
    (fss_one (fs_retO 4)))))))
abbrev s__law_same : Stmt := topS 22
abbrev N__law_same : List Str := ["told", "due", "k"]
theorem sc__law_same : FnScope N__law_same ["told", "due"] (defScope s__law_same) := ⟨rfl, rfl, rfl, by decide +kernel, rfl, by decide +kernel, by decide +kernel⟩
theorem ok__law_same {f : Addr} {fd : FuncData} (F : Fun K "_law_same" "_law_same" s__law_same f fd) (hm : mg "_law_same" = some (.ref f)) (b_str : mg "str" = none) (b_isinstance : mg "isinstance" = none) (b_int : mg "int" = none) (b_bool : mg "bool" = none) (b_tuple : mg "tuple" = none) (b_list : mg "list" = none) (b_len : mg "len" = none) (b_range : mg "range" = none) : ∀ k, Fk P w K mg base (k + 1) "_law_same" 2 (m__law_same k)
  | 0 => (fk_stuck (ps := ["told", "due"]) F hm (fun _ _ _ _ _ _ us hl => match us, hl with | [_, _], _ => rfl)).mono (by omega)
  | k + 1 => fk_mk F sc__law_same hm (fun _ _ _ _ _ _ us hl => match us, hl with | [_, _], _ => rfl) rfl rfl (by decide) fun cdv A outer s H E hr tk po => by
    have ih := ok__law_same F hm b_str b_isinstance b_int b_bool b_tuple b_list b_len b_range k
    have nd := sc__law_same.nd
    exact (fss_cons (fs_if (ft_is (fe_var 1) fe_non)
    (fss_one (fs_ret (fe_is (fe_var 0) fe_non)))
    fss_nil)
    (fss_cons (fs_if (ft_is (fe_var 1) fe_bl)
    (fss_one (fs_ret (fe_is (fe_var 0) fe_bl)))
    fss_nil)
    (fss_cons (fs_if (ft_is (fe_var 1) fe_bl)
    (fss_one (fs_ret (fe_is (fe_var 0) fe_bl)))
    fss_nil)
    (fss_cons (fs_if (ft_truth (fe_isi b_isinstance (fa_cons (fe_var 1) (fa_cons (fe_ty b_str bt_str) fa_nil))))
    (fss_one (fs_ret (fe_and (fe_isi b_isinstance (fa_cons (fe_var 0) (fa_cons (fe_ty b_str bt_str) fa_nil))) (fe_one (fe_eq hr (fe_var 0) (fe_var 1))))))
    fss_nil)
    (fss_cons (fs_if (ft_truth (fe_isi b_isinstance (fa_cons (fe_var 1) (fa_cons (fe_ty b_int bt_int) fa_nil))))
    (fss_one (fs_ret (fe_and (fe_isi b_isinstance (fa_cons (fe_var 0) (fa_cons (fe_ty b_int bt_int) fa_nil))) (fe_and (fe_not (fe_isi b_isinstance (fa_cons (fe_var 0) (fa_cons (fe_ty b_bool bt_bool) fa_nil)))) (fe_one (fe_eq hr (fe_var 0) (fe_var 1)))))))
    fss_nil)
    (fss_cons (fs_if (ft_w (fw_and (ft_truth (fe_isi b_isinstance (fa_cons (fe_var 1) (fa_cons (fe_ty b_tuple bt_tuple) fa_nil)))) (fw_and1 (ft_not (ft_truth (fe_isi b_isinstance (fa_cons (fe_var 0) (fa_cons (fe_ty b_tuple bt_tuple) fa_nil))))))))
    (fss_one (fs_ret fe_bl))
    fss_nil)
    (fss_cons (fs_if (ft_w (fw_and (ft_truth (fe_isi b_isinstance (fa_cons (fe_var 1) (fa_cons (fe_ty b_list bt_list) fa_nil)))) (fw_and1 (ft_not (ft_truth (fe_isi b_isinstance (fa_cons (fe_var 0) (fa_cons (fe_ty b_list bt_list) fa_nil))))))))
    (fss_one (fs_ret fe_bl))
    fss_nil)
    (fss_cons (fs_if (ft_ne hr (fe_len b_len (fa_cons (fe_var 0) fa_nil)) (fe_len b_len (fa_cons (fe_var 1) fa_nil)))
    (fss_one (fs_ret fe_bl))
    fss_nil)
    (fss_cons (fs_for po rfl (fi_range1 b_range (fa_cons (fe_len b_len (fa_cons (fe_var 1) fa_nil)) fa_nil)) (fg_name 2 nd)
    (fss_one (fs_if (ft_not (ft_truth (fe_call ih (hr.mono (by omega)) tk (fa_cons (fe_ix (fe_var 0) (fe_var 2)) (fa_cons (fe_ix (fe_var 1) (fe_var 2)) fa_nil)))))
    (fss_one (fs_ret fe_bl))
    fss_nil)))
    (fss_one (fs_ret fe_bl)))))))))))
abbrev s__law_divisor : Stmt := topS 23
abbrev N__law_divisor : List Str := ["a", "b", "k", "rest"]
theorem sc__law_divisor : FnScope N__law_divisor ["a", "b"] (defScope s__law_divisor) := ⟨rfl, rfl, rfl, by decide +kernel, rfl, by decide +kernel, by decide +kernel⟩
def b__law_divisor_1 : GS :=
  sSeq (sIf (b2 cEq (eVar 1) (eC (.int 0)))
    (sBreak)
    (sNil))
    (sSeq (sSet 3 (e2 dMod (eVar 0) (eVar 1)))
    (sSeq (sSet 0 (eVar 1))
    (sSet 1 (eVar 3))))
def r__law_divisor_2 : GS :=
  sRet (eVar 0)
def g__law_divisor : GS :=
  sSeq (sSet 0 (eF fAbs (aCons (eVar 0) (aNil))))
    (sSeq (sSet 1 (eF fAbs (aCons (eVar 1) (aNil))))
    (sSeq (sFor (lF rg1 (aCons (eC (.int 400)) (aNil))) (tName 2)
    (b__law_divisor_1))
    (r__law_divisor_2)))
def m__law_divisor : List D → Res D := runF 2 4 g__law_divisor
theorem ok__law_divisor {f : Addr} {fd : FuncData} (F : Fun K "_law_divisor" "_law_divisor" s__law_divisor f fd) (hm : mg "_law_divisor" = some (.ref f)) (b_abs : mg "abs" = none) (b_range : mg "range" = none) : Fk P w K mg base 1 "_law_divisor" 2 m__law_divisor :=
  fk_mk (k := 0) F sc__law_divisor hm (fun _ _ _ _ _ _ us hl => match us, hl with | [_, _], _ => rfl) rfl rfl (by decide) fun cdv A outer s H E hr tk po => by
    have nd := sc__law_divisor.nd
    exact (fss_cons (fs_set 0 (fe_abs b_abs (fa_cons (fe_var 0) fa_nil)) nd)
    (fss_cons (fs_set 1 (fe_abs b_abs (fa_cons (fe_var 1) fa_nil)) nd)
    (fss_cons (fs_for po rfl (fi_range1 b_range (fa_cons fe_int fa_nil)) (fg_name 2 nd)
    (fss_cons (fs_if (ft_eq hr (fe_var 1) fe_int)
    (fss_one fs_break)
    fss_nil)
    (fss_cons (fs_set 3 (fe_mod (fe_var 0) (fe_var 1)) nd)
    (fss_cons (fs_set 0 (fe_var 1) nd)
    (fss_one (fs_set 1 (fe_var 3) nd))))))
    (fss_one (fs_ret (fe_var 0))))))
abbrev s__law_lowest : Stmt := topS 24
abbrev N__law_lowest : List Str := ["p", "q", "by"]
theorem sc__law_lowest : FnScope N__law_lowest ["p", "q"] (defScope s__law_lowest) := ⟨rfl, rfl, rfl, by decide +kernel, rfl, by decide +kernel, by decide +kernel⟩
def g__law_lowest : GS :=
  sSeq (sSet 2 (eCall (m__law_divisor) (aCons (eVar 0) (aCons (eVar 1) (aNil)))))
    (sSeq (sIf (b2 cLt (eVar 1) (eC (.int 0)))
    (sSet 2 (e1 dNeg (eVar 2)))
    (sNil))
    (sRet (eTup (aCons (e2 dFdiv (eVar 0) (eVar 2)) (aCons (e2 dFdiv (eVar 1) (eVar 2)) (aNil))))))
def m__law_lowest : List D → Res D := runF 2 3 g__law_lowest
theorem ok__law_lowest {f : Addr} {fd : FuncData} (F : Fun K "_law_lowest" "_law_lowest" s__law_lowest f fd) (hm : mg "_law_lowest" = some (.ref f)) (k__law_divisor : Fk P w K mg base 1 "_law_divisor" 2 m__law_divisor) : Fk P w K mg base 2 "_law_lowest" 2 m__law_lowest :=
  fk_mk (k := 1) F sc__law_lowest hm (fun _ _ _ _ _ _ us hl => match us, hl with | [_, _], _ => rfl) rfl rfl (by decide) fun cdv A outer s H E hr tk po => by
    have nd := sc__law_lowest.nd
    exact (fss_cons (fs_set 2 (fe_call k__law_divisor (hr.mono (by omega)) tk (fa_cons (fe_var 0) (fa_cons (fe_var 1) fa_nil))) nd)
    (fss_cons (fs_if (ft_lt (fe_var 1) fe_int)
    (fss_one (fs_set 2 (fe_neg (fe_var 2)) nd))
    fss_nil)
    (fss_one (fs_ret (fe_tup (fa_cons (fe_fdiv (fe_var 0) (fe_var 2)) (fa_cons (fe_fdiv (fe_var 1) (fe_var 2)) fa_nil)))))))
abbrev s__law_ratio : Stmt := topS 25
abbrev N__law_ratio : List Str := ["p", "q"]
theorem sc__law_ratio : FnScope N__law_ratio ["p", "q"] (defScope s__law_ratio) := ⟨rfl, rfl, rfl, by decide +kernel, rfl, by decide +kernel, by decide +kernel⟩
def g__law_ratio : GS :=
  sTry cat_BadNumber_l (sRet (eLst (lDisp (aCons (eCall (m_ratio) (aCons (eVar 0) (aCons (eVar 1) (aNil)))) (aNil))))) (sRet (eLst (lDisp (aNil))))
def m__law_ratio : List D → Res D := runF 2 2 g__law_ratio
theorem ok__law_ratio {f : Addr} {fd : FuncData} {C_BadNumber : Addr} (F : Fun K "_law_ratio" "_law_ratio" s__law_ratio f fd) (hm : mg "_law_ratio" = some (.ref f)) (k_ratio : Fk P w K mg base 1 "ratio" 2 m_ratio) (n_BadNumber : mg "BadNumber" = some (.ref C_BadNumber)) (cat_BadNumber : ∀ q ∈ cat_BadNumber_l, ∃ C, mg (Str.ofString q.1) = some (.ref C) ∧ PySem.W.exmOne K (.ref C) (.ref C_BadNumber) = some q.2) : Fk P w K mg base 2 "_law_ratio" 2 m__law_ratio :=
  fk_mk (k := 1) F sc__law_ratio hm (fun _ _ _ _ _ _ us hl => match us, hl with | [_, _], _ => rfl) rfl rfl (by decide) fun cdv A outer s H E hr tk po => by
    have nd := sc__law_ratio.nd
    exact (fss_one (fs_try ⟨rfl, by decide, .inl n_BadNumber⟩ tk cat_BadNumber (fun W' pn xe tk' po' => (fss_one (fs_ret (fe_l (fl_disp (fa_cons (fe_call k_ratio (hr.mono (by omega)) tk' (fa_cons (fe_var 0) (fa_cons (fe_var 1) fa_nil))) fa_nil)))))) (fun a pn => (fss_one (fs_ret (fe_l (fl_disp fa_nil)))))))
abbrev s__law_over : Stmt := topS 26
abbrev N__law_over : List Str := ["r", "s"]
theorem sc__law_over : FnScope N__law_over ["r", "s"] (defScope s__law_over) := ⟨rfl, rfl, rfl, by decide +kernel, rfl, by decide +kernel, by decide +kernel⟩
def g__law_over : GS :=
  sTry cat_BadNumber_l (sRet (eLst (lDisp (aCons (eCall (m_over) (aCons (eVar 0) (aCons (eVar 1) (aNil)))) (aNil))))) (sRet (eLst (lDisp (aNil))))
def m__law_over : List D → Res D := runF 2 2 g__law_over
theorem ok__law_over {f : Addr} {fd : FuncData} {C_BadNumber : Addr} (F : Fun K "_law_over" "_law_over" s__law_over f fd) (hm : mg "_law_over" = some (.ref f)) (k_over : Fk P w K mg base 2 "over" 2 m_over) (n_BadNumber : mg "BadNumber" = some (.ref C_BadNumber)) (cat_BadNumber : ∀ q ∈ cat_BadNumber_l, ∃ C, mg (Str.ofString q.1) = some (.ref C) ∧ PySem.W.exmOne K (.ref C) (.ref C_BadNumber) = some q.2) : Fk P w K mg base 3 "_law_over" 2 m__law_over :=
  fk_mk (k := 2) F sc__law_over hm (fun _ _ _ _ _ _ us hl => match us, hl with | [_, _], _ => rfl) rfl rfl (by decide) fun cdv A outer s H E hr tk po => by
    have nd := sc__law_over.nd
    exact (fss_one (fs_try ⟨rfl, by decide, .inl n_BadNumber⟩ tk cat_BadNumber (fun W' pn xe tk' po' => (fss_one (fs_ret (fe_l (fl_disp (fa_cons (fe_call k_over (hr.mono (by omega)) tk' (fa_cons (fe_var 0) (fa_cons (fe_var 1) fa_nil))) fa_nil)))))) (fun a pn => (fss_one (fs_ret (fe_l (fl_disp fa_nil)))))))
abbrev s__law_raws : Stmt := topS 27
abbrev N__law_raws : List Str := ["first", "second", "raws", "k", "p", "q", "many"]
theorem sc__law_raws : FnScope N__law_raws ["first", "second"] (defScope s__law_raws) := ⟨rfl, rfl, rfl, by decide +kernel, rfl, by decide +kernel, by decide +kernel⟩
def b__law_raws_1 : GS :=
  sSeq (sSet 4 (e2 dSub (e2 dMod (e2 dIx (eVar 0) (eVar 3)) (eC (.int 7))) (eC (.int 3))))
    (sSeq (sSet 5 (e2 dPlus (e2 dMod (e2 dIx (eVar 1) (eVar 3)) (eC (.int 6))) (eC (.int 1))))
    (sSeq (sIf (b2 cEq (e2 dMod (e2 dIx (eVar 0) (e2 dPlus (eVar 3) (eC (.int 5)))) (eC (.int 4))) (eC (.int 1)))
    (sSeq (sSet 4 (e2 dSub (e2 dIx (eVar 0) (e2 dPlus (eVar 3) (eC (.int 10)))) (eC (.int 504))))
    (sSet 5 (e2 dPlus (e2 dIx (eVar 1) (e2 dPlus (eVar 3) (eC (.int 5)))) (eC (.int 1)))))
    (sNil))
    (sSeq (sIf (b2 cEq (e2 dMod (e2 dIx (eVar 0) (e2 dPlus (eVar 3) (eC (.int 5)))) (eC (.int 4))) (eC (.int 2)))
    (sSeq (sSet 4 (e2 dSub (e2 dMul (e2 dPlus (e2 dMul (e2 dIx (eVar 0) (e2 dPlus (eVar 3) (eC (.int 10)))) (eC (.int 1009))) (e2 dIx (eVar 0) (eVar 3))) (eC (.int 10009))) (e2 dMul (e2 dIx (eVar 1) (e2 dPlus (eVar 3) (eC (.int 10)))) (eC (.int 1000003)))))
    (sSet 5 (e2 dPlus (e2 dPlus (e2 dMul (e2 dIx (eVar 1) (e2 dPlus (eVar 3) (eC (.int 5)))) (eC (.int 1009))) (e2 dIx (eVar 1) (eVar 3))) (eC (.int 1)))))
    (sNil))
    (sSeq (sIf (b2 cEq (e2 dMod (e2 dIx (eVar 1) (e2 dPlus (eVar 3) (eC (.int 10)))) (eC (.int 2))) (eC (.int 1)))
    (sSet 5 (e1 dNeg (eVar 5)))
    (sNil))
    (sApp 2 (eTup (aCons (eVar 4) (aCons (eVar 5) (aNil)))))))))
def r__law_raws_2 : GS :=
  sSeq (sApp 2 (eTup (aCons (e2 dMul (e1 dNeg (eC (.int 3))) (e2 dIx (eIxO 2 (eC (.int 0))) (eC (.int 0)))) (aCons (e2 dMul (eC (.int 3)) (e2 dIx (eIxO 2 (eC (.int 0))) (eC (.int 1)))) (aNil)))))
    (sSeq (sSet 6 (e2 dPlus (eC (.int 2)) (e2 dMod (e2 dIx (eVar 0) (eC (.int 15))) (eC (.int 3)))))
    (sSeq (sApp 2 (eTup (aCons (e2 dMul (e1 dNeg (eVar 6)) (e2 dIx (eIxO 2 (eC (.int 1))) (eC (.int 0)))) (aCons (e2 dMul (e1 dNeg (eVar 6)) (e2 dIx (eIxO 2 (eC (.int 1))) (eC (.int 1)))) (aNil)))))
    (sRetO 2)))
def g__law_raws : GS :=
  sSeq (sSetL 2 (lDisp (aNil)))
    (sSeq (sFor (lF rg1 (aCons (eC (.int 5)) (aNil))) (tName 3)
    (b__law_raws_1))
    (r__law_raws_2))
def m__law_raws : List D → Res D := runF 2 7 g__law_raws
theorem ok__law_raws {f : Addr} {fd : FuncData} (F : Fun K "_law_raws" "_law_raws" s__law_raws f fd) (hm : mg "_law_raws" = some (.ref f)) (b_range : mg "range" = none) : Fk P w K mg base 1 "_law_raws" 2 m__law_raws :=
  fk_mk (k := 0) F sc__law_raws hm (fun _ _ _ _ _ _ us hl => match us, hl with | [_, _], _ => rfl) rfl rfl (by decide) fun cdv A outer s H E hr tk po => by
    have nd := sc__law_raws.nd
    exact (fss_cons (fs_setL 2 (fl_disp fa_nil) nd)
    (fss_cons (fs_for po rfl (fi_range1 b_range (fa_cons fe_int fa_nil)) (fg_name 3 nd)
    (fss_cons (fs_set 4 (fe_sub (fe_mod (fe_ix (fe_var 0) (fe_var 3)) fe_int) fe_int) nd)
    (fss_cons (fs_set 5 (fe_plus (fe_mod (fe_ix (fe_var 1) (fe_var 3)) fe_int) fe_int) nd)
    (fss_cons (fs_if (ft_eq hr (fe_mod (fe_ix (fe_var 0) (fe_plus (fe_var 3) fe_int)) fe_int) fe_int)
    (fss_cons (fs_set 4 (fe_sub (fe_ix (fe_var 0) (fe_plus (fe_var 3) fe_int)) fe_int) nd)
    (fss_one (fs_set 5 (fe_plus (fe_ix (fe_var 1) (fe_plus (fe_var 3) fe_int)) fe_int) nd)))
    fss_nil)
    (fss_cons (fs_if (ft_eq hr (fe_mod (fe_ix (fe_var 0) (fe_plus (fe_var 3) fe_int)) fe_int) fe_int)
    (fss_cons (fs_set 4 (fe_sub (fe_mul (fe_plus (fe_mul (fe_ix (fe_var 0) (fe_plus (fe_var 3) fe_int)) fe_int) (fe_ix (fe_var 0) (fe_var 3))) fe_int) (fe_mul (fe_ix (fe_var 1) (fe_plus (fe_var 3) fe_int)) fe_int)) nd)
    (fss_one (fs_set 5 (fe_plus (fe_plus (fe_mul (fe_ix (fe_var 1) (fe_plus (fe_var 3) fe_int)) fe_int) (fe_ix (fe_var 1) (fe_var 3))) fe_int) nd)))
    fss_nil)
    (fss_cons (fs_if (ft_eq hr (fe_mod (fe_ix (fe_var 1) (fe_plus (fe_var 3) fe_int)) fe_int) fe_int)
    (fss_one (fs_set 5 (fe_neg (fe_var 5)) nd))
    fss_nil)
    (fss_one (fs_app 2 (fe_tup (fa_cons (fe_var 4) (fa_cons (fe_var 5) fa_nil))) (hp := pe_bm PySem.F.plainAttrs_list PySem.F.slot_list_append PySem.F.type_list_append mt_append (pv 2) (pa_cons (fe_tup (fa_cons (fe_var 4) (fa_cons (fe_var 5) fa_nil))) pa_nil))))))))))
    (fss_cons (fs_app 2 (fe_tup (fa_cons (fe_mul (fe_neg fe_int) (fe_ix (fe_ixO 2 fe_int) fe_int)) (fa_cons (fe_mul fe_int (fe_ix (fe_ixO 2 fe_int) fe_int)) fa_nil))) (hp := pe_bm PySem.F.plainAttrs_list PySem.F.slot_list_append PySem.F.type_list_append mt_append (pv 2) (pa_cons (fe_tup (fa_cons (fe_mul (fe_neg fe_int) (fe_ix (fe_ixO 2 fe_int) fe_int)) (fa_cons (fe_mul fe_int (fe_ix (fe_ixO 2 fe_int) fe_int)) fa_nil))) pa_nil)))
    (fss_cons (fs_set 6 (fe_plus fe_int (fe_mod (fe_ix (fe_var 0) fe_int) fe_int)) nd)
    (fss_cons (fs_app 2 (fe_tup (fa_cons (fe_mul (fe_neg (fe_var 6)) (fe_ix (fe_ixO 2 fe_int) fe_int)) (fa_cons (fe_mul (fe_neg (fe_var 6)) (fe_ix (fe_ixO 2 fe_int) fe_int)) fa_nil))) (hp := pe_bm PySem.F.plainAttrs_list PySem.F.slot_list_append PySem.F.type_list_append mt_append (pv 2) (pa_cons (fe_tup (fa_cons (fe_mul (fe_neg (fe_var 6)) (fe_ix (fe_ixO 2 fe_int) fe_int)) (fa_cons (fe_mul (fe_neg (fe_var 6)) (fe_ix (fe_ixO 2 fe_int) fe_int)) fa_nil))) pa_nil)))
    (fss_one (fs_retO 2)))))))
abbrev s__law_order : Stmt := topS 28
abbrev N__law_order : List Str := ["p", "q", "s", "t", "left", "right"]
theorem sc__law_order : FnScope N__law_order ["p", "q", "s", "t"] (defScope s__law_order) := ⟨rfl, rfl, rfl, by decide +kernel, rfl, by decide +kernel, by decide +kernel⟩
def g__law_order : GS :=
  sSeq (sSet 4 (e2 dMul (eVar 0) (eVar 3)))
    (sSeq (sSet 5 (e2 dMul (eVar 2) (eVar 1)))
    (sSeq (sIf (b2 cEq (eVar 4) (eVar 5))
    (sRet (eC (.int 0)))
    (sNil))
    (sSeq (sIf (b2 cLt (eVar 4) (eVar 5))
    (sRet (e1 dNeg (eC (.int 1))))
    (sNil))
    (sRet (eC (.int 1))))))
def m__law_order : List D → Res D := runF 4 6 g__law_order
theorem ok__law_order {f : Addr} {fd : FuncData} (F : Fun K "_law_order" "_law_order" s__law_order f fd) (hm : mg "_law_order" = some (.ref f)) : Fk P w K mg base 1 "_law_order" 4 m__law_order :=
  fk_mk (k := 0) F sc__law_order hm (fun _ _ _ _ _ _ us hl => match us, hl with | [_, _, _, _], _ => rfl) rfl rfl (by decide) fun cdv A outer s H E hr tk po => by
    have nd := sc__law_order.nd
    exact (fss_cons (fs_set 4 (fe_mul (fe_var 0) (fe_var 3)) nd)
    (fss_cons (fs_set 5 (fe_mul (fe_var 2) (fe_var 1)) nd)
    (fss_cons (fs_if (ft_eq hr (fe_var 4) (fe_var 5))
    (fss_one (fs_ret fe_int))
    fss_nil)
    (fss_cons (fs_if (ft_lt (fe_var 4) (fe_var 5))
    (fss_one (fs_ret (fe_neg fe_int)))
    fss_nil)
    (fss_one (fs_ret fe_int))))))
abbrev s__law_pairs_hold : Stmt := topS 29
abbrev N__law_pairs_hold : List Str := ["dues", "r", "s", "p", "q", "found", "due"]
theorem sc__law_pairs_hold : FnScope N__law_pairs_hold ["dues"] (defScope s__law_pairs_hold) := ⟨rfl, rfl, rfl, by decide +kernel, rfl, by decide +kernel, by decide +kernel⟩
def b__law_pairs_hold_1 : GS :=
  sSeq (sSet 3 (e2 dIx (eVar 1) (eC (.int 0))))
    (sSeq (sSet 4 (e2 dIx (eVar 1) (eC (.int 1))))
    (sSeq (sSet 5 (eLst (lDisp (aCons (eCall (m_plus) (aCons (eVar 1) (aCons (eVar 2) (aNil)))) (aCons (eCall (m_minus) (aCons (eVar 1) (aCons (eVar 2) (aNil)))) (aCons (eCall (m_times) (aCons (eVar 1) (aCons (eVar 2) (aNil)))) (aCons (eCall (m_compare) (aCons (eVar 1) (aCons (eVar 2) (aNil)))) (aCons (eCall (m__law_over) (aCons (eVar 1) (aCons (eVar 2) (aNil)))) (aNil)))))))))
    (sSeq (sSetL 6 (lDisp (aCons (eCall (m__law_lowest) (aCons (e2 dPlus (e2 dMul (eVar 3) (e2 dIx (eVar 2) (eC (.int 1)))) (e2 dMul (e2 dIx (eVar 2) (eC (.int 0))) (eVar 4))) (aCons (e2 dMul (eVar 4) (e2 dIx (eVar 2) (eC (.int 1)))) (aNil)))) (aCons (eCall (m__law_lowest) (aCons (e2 dSub (e2 dMul (eVar 3) (e2 dIx (eVar 2) (eC (.int 1)))) (e2 dMul (e2 dIx (eVar 2) (eC (.int 0))) (eVar 4))) (aCons (e2 dMul (eVar 4) (e2 dIx (eVar 2) (eC (.int 1)))) (aNil)))) (aNil)))))
    (sSeq (sFrz 6 (sSetL 6 (l2 lAdd (eVar 6) (eLst (lDisp (aCons (eCall (m__law_lowest) (aCons (e2 dMul (eVar 3) (e2 dIx (eVar 2) (eC (.int 0)))) (aCons (e2 dMul (eVar 4) (e2 dIx (eVar 2) (eC (.int 1)))) (aNil)))) (aCons (eCall (m__law_order) (aCons (eVar 3) (aCons (eVar 4) (aCons (e2 dIx (eVar 2) (eC (.int 0))) (aCons (e2 dIx (eVar 2) (eC (.int 1))) (aNil)))))) (aCons (eLst (lDisp (aNil))) (aNil)))))))))
    (sSeq (sIf (b2 cNe (e2 dIx (eVar 2) (eC (.int 0))) (eC (.int 0)))
    (sSetIx 6 (eC (.int 4)) (eLst (lDisp (aCons (eCall (m__law_lowest) (aCons (e2 dMul (eVar 3) (e2 dIx (eVar 2) (eC (.int 1)))) (aCons (e2 dMul (eVar 4) (e2 dIx (eVar 2) (eC (.int 0)))) (aNil)))) (aNil)))))
    (sNil))
    (sIf (bNot (bBor 6 (b1 truth (eCall ((m__law_same 40)) (aCons (eVar 5) (aCons (eVar 6) (aNil)))))))
    (sRet (eC (.bl false)))
    (sNil)))))))
def b__law_pairs_hold_2 : GS :=
  sFor (iAny (eVar 0)) (tName 2)
    (b__law_pairs_hold_1)
def r__law_pairs_hold_3 : GS :=
  sRet (eC (.bl true))
def g__law_pairs_hold : GS :=
  sSeq (sFor (iAny (eVar 0)) (tName 1)
    (b__law_pairs_hold_2))
    (r__law_pairs_hold_3)
def m__law_pairs_hold : List D → Res D := runF 1 7 g__law_pairs_hold
theorem ok__law_pairs_hold {f : Addr} {fd : FuncData} (F : Fun K "_law_pairs_hold" "_law_pairs_hold" s__law_pairs_hold f fd) (hm : mg "_law_pairs_hold" = some (.ref f)) (k__law_over : Fk P w K mg base 3 "_law_over" 2 m__law_over) (k_compare : Fk P w K mg base 3 "compare" 2 m_compare) (k_times : Fk P w K mg base 2 "times" 2 m_times) (k_minus : Fk P w K mg base 2 "minus" 2 m_minus) (k_plus : Fk P w K mg base 2 "plus" 2 m_plus) (k__law_lowest : Fk P w K mg base 2 "_law_lowest" 2 m__law_lowest) (k__law_order : Fk P w K mg base 1 "_law_order" 4 m__law_order) (k__law_same : Fk P w K mg base 41 "_law_same" 2 (m__law_same 40)) : Fk P w K mg base 42 "_law_pairs_hold" 1 m__law_pairs_hold :=
  fk_mk (k := 41) F sc__law_pairs_hold hm (fun _ _ _ _ _ _ us hl => match us, hl with | [_], _ => rfl) rfl rfl (by decide) fun cdv A outer s H E hr tk po => by
    have nd := sc__law_pairs_hold.nd
    exact (fss_cons (fs_for po rfl (fi_any (fe_var 0)) (fg_name 1 nd)
    (fss_one (fs_for po rfl (fi_any (fe_var 0)) (fg_name 2 nd)
    (fss_cons (fs_set 3 (fe_ix (fe_var 1) fe_int) nd)
    (fss_cons (fs_set 4 (fe_ix (fe_var 1) fe_int) nd)
    (fss_cons (fs_set 5 (fe_l (fl_disp (fa_cons (fe_call k_plus (hr.mono (by omega)) tk (fa_cons (fe_var 1) (fa_cons (fe_var 2) fa_nil))) (fa_cons (fe_call k_minus (hr.mono (by omega)) tk (fa_cons (fe_var 1) (fa_cons (fe_var 2) fa_nil))) (fa_cons (fe_call k_times (hr.mono (by omega)) tk (fa_cons (fe_var 1) (fa_cons (fe_var 2) fa_nil))) (fa_cons (fe_call k_compare (hr.mono (by omega)) tk (fa_cons (fe_var 1) (fa_cons (fe_var 2) fa_nil))) (fa_cons (fe_call k__law_over (hr.mono (by omega)) tk (fa_cons (fe_var 1) (fa_cons (fe_var 2) fa_nil))) fa_nil))))))) nd)
    (fss_cons (fs_setL 6 (fl_disp (fa_cons (fe_call k__law_lowest (hr.mono (by omega)) tk (fa_cons (fe_plus (fe_mul (fe_var 3) (fe_ix (fe_var 2) fe_int)) (fe_mul (fe_ix (fe_var 2) fe_int) (fe_var 4))) (fa_cons (fe_mul (fe_var 4) (fe_ix (fe_var 2) fe_int)) fa_nil))) (fa_cons (fe_call k__law_lowest (hr.mono (by omega)) tk (fa_cons (fe_sub (fe_mul (fe_var 3) (fe_ix (fe_var 2) fe_int)) (fe_mul (fe_ix (fe_var 2) fe_int) (fe_var 4))) (fa_cons (fe_mul (fe_var 4) (fe_ix (fe_var 2) fe_int)) fa_nil))) fa_nil))) nd)
    (fss_cons (fs_frz 6 (fs_setL 6 (fl_add (fe_var 6) (fe_l (fl_disp (fa_cons (fe_call k__law_lowest (hr.mono (by omega)) tk (fa_cons (fe_mul (fe_var 3) (fe_ix (fe_var 2) fe_int)) (fa_cons (fe_mul (fe_var 4) (fe_ix (fe_var 2) fe_int)) fa_nil))) (fa_cons (fe_call k__law_order (hr.mono (by omega)) tk (fa_cons (fe_var 3) (fa_cons (fe_var 4) (fa_cons (fe_ix (fe_var 2) fe_int) (fa_cons (fe_ix (fe_var 2) fe_int) fa_nil))))) (fa_cons (fe_l (fl_disp fa_nil)) fa_nil)))))) nd))
    (fss_cons (fs_if (ft_ne hr (fe_ix (fe_var 2) fe_int) fe_int)
    (fss_one (fs_setIx 6 (fe_l (fl_disp (fa_cons (fe_call k__law_lowest (hr.mono (by omega)) tk (fa_cons (fe_mul (fe_var 3) (fe_ix (fe_var 2) fe_int)) (fa_cons (fe_mul (fe_var 4) (fe_ix (fe_var 2) fe_int)) fa_nil))) fa_nil))) fe_int))
    fss_nil)
    (fss_one (fs_if (ft_not (ft_bor 6 (ft_truth (fe_call k__law_same (hr.mono (by omega)) tk (fa_cons (fe_var 5) (fa_cons (fe_var 6) fa_nil))))))
    (fss_one (fs_ret fe_bl))
    fss_nil)))))))))))
    (fss_one (fs_ret fe_bl)))
abbrev s__law_list_holds : Stmt := topS 30
abbrev N__law_list_holds : List Str := ["listed", "summed", "bottom", "r", "handed", "back", "found", "due"]
theorem sc__law_list_holds : FnScope N__law_list_holds ["listed"] (defScope s__law_list_holds) := ⟨rfl, rfl, rfl, by decide +kernel, rfl, by decide +kernel, by decide +kernel⟩
def b__law_list_holds_1 : GS :=
  sSeq (sSet 1 (eCall (m__law_lowest) (aCons (e2 dPlus (e2 dMul (e2 dIx (eVar 1) (eC (.int 0))) (e2 dIx (eVar 3) (eC (.int 1)))) (e2 dMul (e2 dIx (eVar 3) (eC (.int 0))) (e2 dIx (eVar 1) (eC (.int 1))))) (aCons (e2 dMul (e2 dIx (eVar 1) (eC (.int 1))) (e2 dIx (eVar 3) (eC (.int 1)))) (aNil)))))
    (sSet 2 (e2 dFdiv (e2 dMul (eVar 2) (e2 dIx (eVar 3) (eC (.int 1)))) (eCall (m__law_divisor) (aCons (eVar 2) (aCons (e2 dIx (eVar 3) (eC (.int 1))) (aNil))))))
def r__law_list_holds_2 : GS :=
  sSeq (sSet 4 (eLst (lF fList (aCons (eVar 0) (aNil)))))
    (sSeq (sSet 5 (eLst (l1 revL (eVar 0))))
    (sSeq (sSet 6 (eLst (lDisp (aCons (eCall (m_total) (aCons (eVar 4) (aNil))) (aCons (eCall (m_total) (aCons (eVar 5) (aNil))) (aCons (eCall (m_total) (aCons (e2 dPlus (eVar 0) (eVar 5)) (aNil))) (aCons (eCall (m_total) (aCons (eLst (lDisp (aNil))) (aNil))) (aCons (eCall (m_total) (aCons (eLst (lDisp (aCons (e2 dIx (eVar 0) (eC (.int 2))) (aNil)))) (aNil))) (aNil)))))))))
    (sSeq (sSet 7 (eLst (lDisp (aCons (eVar 1) (aCons (eVar 1) (aCons (eCall (m__law_lowest) (aCons (e2 dMul (eC (.int 2)) (e2 dIx (eVar 1) (eC (.int 0)))) (aCons (e2 dIx (eVar 1) (eC (.int 1))) (aNil)))) (aCons (eTup (aCons (eC (.int 0)) (aCons (eC (.int 1)) (aNil)))) (aCons (e2 dIx (eVar 0) (eC (.int 2))) (aNil)))))))))
    (sSeq (sIf (bOr (bNot (b1 truth (eCall ((m__law_same 40)) (aCons (eVar 6) (aCons (eVar 7) (aNil)))))) (bNot (b1 truth (eCall ((m__law_same 40)) (aCons (eVar 4) (aCons (eVar 0) (aNil)))))))
    (sRet (eC (.bl false)))
    (sNil))
    (sSeq (sSet 6 (eLst (lDisp (aCons (eCall (m_common_bottom) (aCons (eVar 4) (aNil))) (aCons (eCall (m_common_bottom) (aCons (e2 dPlus (eVar 0) (eVar 5)) (aNil))) (aCons (eCall (m_common_bottom) (aCons (eLst (lDisp (aCons (e2 dIx (eVar 0) (eC (.int 3))) (aNil)))) (aNil))) (aCons (eCall (m_common_bottom) (aCons (eLst (lDisp (aNil))) (aNil))) (aCons (eCall (m_common_bottom) (aCons (eVar 5) (aNil))) (aNil)))))))))
    (sSeq (sIf (bOr (bNot (b1 truth (eCall ((m__law_same 40)) (aCons (eVar 6) (aCons (eLst (lDisp (aCons (eVar 2) (aCons (eVar 2) (aCons (e2 dIx (e2 dIx (eVar 0) (eC (.int 3))) (eC (.int 1))) (aCons (eC (.int 1)) (aCons (eVar 2) (aNil)))))))) (aNil)))))) (bNot (b1 truth (eCall ((m__law_same 40)) (aCons (eVar 4) (aCons (eVar 0) (aNil)))))))
    (sRet (eC (.bl false)))
    (sNil))
    (sRet (eCall ((m__law_same 40)) (aCons (eVar 5) (aCons (eLst (l1 revL (eVar 0))) (aNil)))))))))))
def g__law_list_holds : GS :=
  sSeq (sSet 1 (eTup (aCons (eC (.int 0)) (aCons (eC (.int 1)) (aNil)))))
    (sSeq (sSet 2 (eC (.int 1)))
    (sSeq (sFor (iAny (eVar 0)) (tName 3)
    (b__law_list_holds_1))
    (r__law_list_holds_2)))
def m__law_list_holds : List D → Res D := runF 1 8 g__law_list_holds
theorem ok__law_list_holds {f : Addr} {fd : FuncData} (F : Fun K "_law_list_holds" "_law_list_holds" s__law_list_holds f fd) (hm : mg "_law_list_holds" = some (.ref f)) (k__law_lowest : Fk P w K mg base 2 "_law_lowest" 2 m__law_lowest) (k__law_divisor : Fk P w K mg base 1 "_law_divisor" 2 m__law_divisor) (b_list : mg "list" = none) (b_reversed : mg "reversed" = none) (k_total : Fk P w K mg base 3 "total" 1 m_total) (k__law_same : Fk P w K mg base 41 "_law_same" 2 (m__law_same 40)) (k_common_bottom : Fk P w K mg base 1 "common_bottom" 1 m_common_bottom) : Fk P w K mg base 42 "_law_list_holds" 1 m__law_list_holds :=
  fk_mk (k := 41) F sc__law_list_holds hm (fun _ _ _ _ _ _ us hl => match us, hl with | [_], _ => rfl) rfl rfl (by decide) fun cdv A outer s H E hr tk po => by
    have nd := sc__law_list_holds.nd
    exact (fss_cons (fs_set 1 (fe_tup (fa_cons fe_int (fa_cons fe_int fa_nil))) nd)
    (fss_cons (fs_set 2 fe_int nd)
    (fss_cons (fs_for po rfl (fi_any (fe_var 0)) (fg_name 3 nd)
    (fss_cons (fs_set 1 (fe_call k__law_lowest (hr.mono (by omega)) tk (fa_cons (fe_plus (fe_mul (fe_ix (fe_var 1) fe_int) (fe_ix (fe_var 3) fe_int)) (fe_mul (fe_ix (fe_var 3) fe_int) (fe_ix (fe_var 1) fe_int))) (fa_cons (fe_mul (fe_ix (fe_var 1) fe_int) (fe_ix (fe_var 3) fe_int)) fa_nil))) nd)
    (fss_one (fs_set 2 (fe_fdiv (fe_mul (fe_var 2) (fe_ix (fe_var 3) fe_int)) (fe_call k__law_divisor (hr.mono (by omega)) tk (fa_cons (fe_var 2) (fa_cons (fe_ix (fe_var 3) fe_int) fa_nil)))) nd))))
    (fss_cons (fs_set 4 (fe_l (fl_clist b_list (fa_cons (fe_var 0) fa_nil))) nd)
    (fss_cons (fs_set 5 (fe_l (fl_listRev rfl b_list b_reversed (fe_var 0))) nd)
    (fss_cons (fs_set 6 (fe_l (fl_disp (fa_cons (fe_call k_total (hr.mono (by omega)) tk (fa_cons (fe_var 4) fa_nil)) (fa_cons (fe_call k_total (hr.mono (by omega)) tk (fa_cons (fe_var 5) fa_nil)) (fa_cons (fe_call k_total (hr.mono (by omega)) tk (fa_cons (fe_plus (fe_var 0) (fe_var 5)) fa_nil)) (fa_cons (fe_call k_total (hr.mono (by omega)) tk (fa_cons (fe_l (fl_disp fa_nil)) fa_nil)) (fa_cons (fe_call k_total (hr.mono (by omega)) tk (fa_cons (fe_l (fl_disp (fa_cons (fe_ix (fe_var 0) fe_int) fa_nil))) fa_nil)) fa_nil))))))) nd)
    (fss_cons (fs_set 7 (fe_l (fl_disp (fa_cons (fe_var 1) (fa_cons (fe_var 1) (fa_cons (fe_call k__law_lowest (hr.mono (by omega)) tk (fa_cons (fe_mul fe_int (fe_ix (fe_var 1) fe_int)) (fa_cons (fe_ix (fe_var 1) fe_int) fa_nil))) (fa_cons (fe_tup (fa_cons fe_int (fa_cons fe_int fa_nil))) (fa_cons (fe_ix (fe_var 0) fe_int) fa_nil))))))) nd)
    (fss_cons (fs_if (ft_w (fw_or (ft_not (ft_truth (fe_call k__law_same (hr.mono (by omega)) tk (fa_cons (fe_var 6) (fa_cons (fe_var 7) fa_nil))))) (fw_or1 (ft_not (ft_truth (fe_call k__law_same (hr.mono (by omega)) tk (fa_cons (fe_var 4) (fa_cons (fe_var 0) fa_nil))))))))
    (fss_one (fs_ret fe_bl))
    fss_nil)
    (fss_cons (fs_set 6 (fe_l (fl_disp (fa_cons (fe_call k_common_bottom (hr.mono (by omega)) tk (fa_cons (fe_var 4) fa_nil)) (fa_cons (fe_call k_common_bottom (hr.mono (by omega)) tk (fa_cons (fe_plus (fe_var 0) (fe_var 5)) fa_nil)) (fa_cons (fe_call k_common_bottom (hr.mono (by omega)) tk (fa_cons (fe_l (fl_disp (fa_cons (fe_ix (fe_var 0) fe_int) fa_nil))) fa_nil)) (fa_cons (fe_call k_common_bottom (hr.mono (by omega)) tk (fa_cons (fe_l (fl_disp fa_nil)) fa_nil)) (fa_cons (fe_call k_common_bottom (hr.mono (by omega)) tk (fa_cons (fe_var 5) fa_nil)) fa_nil))))))) nd)
    (fss_cons (fs_if (ft_w (fw_or (ft_not (ft_truth (fe_call k__law_same (hr.mono (by omega)) tk (fa_cons (fe_var 6) (fa_cons (fe_l (fl_disp (fa_cons (fe_var 2) (fa_cons (fe_var 2) (fa_cons (fe_ix (fe_ix (fe_var 0) fe_int) fe_int) (fa_cons fe_int (fa_cons (fe_var 2) fa_nil))))))) fa_nil))))) (fw_or1 (ft_not (ft_truth (fe_call k__law_same (hr.mono (by omega)) tk (fa_cons (fe_var 4) (fa_cons (fe_var 0) fa_nil))))))))
    (fss_one (fs_ret fe_bl))
    fss_nil)
    (fss_one (fs_ret (fe_call k__law_same (hr.mono (by omega)) tk (fa_cons (fe_var 5) (fa_cons (fe_l (fl_listRev rfl b_list b_reversed (fe_var 0))) fa_nil)))))))))))))))
abbrev s__law_lists_hold : Stmt := topS 31
abbrev N__law_lists_hold : List Str := ["dues", "longer", "listed", "k"]
theorem sc__law_lists_hold : FnScope N__law_lists_hold ["dues"] (defScope s__law_lists_hold) := ⟨rfl, rfl, rfl, by decide +kernel, rfl, by decide +kernel, by decide +kernel⟩
def b__law_lists_hold_1 : GS :=
  sIf (bNot (b1 truth (eCall (m__law_list_holds) (aCons (eVar 2) (aNil)))))
    (sRet (eC (.bl false)))
    (sNil)
def r__law_lists_hold_2 : GS :=
  sRet (eC (.bl true))
def g__law_lists_hold : GS :=
  sSeq (sSet 1 (e2 dPlus (eVar 0) (eLst (lComp (lF rg1 (aCons (eF fLen (aCons (eVar 0) (aNil))) (aNil))) [3] (tName 3) (bYes) (eCall (m__law_lowest) (aCons (e2 dIx (e2 dIx (eVar 0) (eVar 3)) (eC (.int 0))) (aCons (e2 dMul (e2 dIx (e2 dIx (eVar 0) (eVar 3)) (eC (.int 1))) (e2 dPlus (eC (.int 11)) (e2 dMul (eC (.int 2)) (eVar 3)))) (aNil))))))))
    (sSeq (sFor (iAny (eLst (lDisp (aCons (eVar 0) (aCons (eVar 1) (aCons (e2 dPlus (eSl dSl (eVar 1) (oSome (eC (.int 5))) (oNone)) (eSl dSl (eVar 1) (oNone) (oSome (eC (.int 5))))) (aNil))))))) (tName 2)
    (b__law_lists_hold_1))
    (r__law_lists_hold_2))
def m__law_lists_hold : List D → Res D := runF 1 4 g__law_lists_hold
theorem ok__law_lists_hold {f : Addr} {fd : FuncData} (F : Fun K "_law_lists_hold" "_law_lists_hold" s__law_lists_hold f fd) (hm : mg "_law_lists_hold" = some (.ref f)) (b_len : mg "len" = none) (b_range : mg "range" = none) (k__law_lowest : Fk P w K mg base 2 "_law_lowest" 2 m__law_lowest) (k__law_list_holds : Fk P w K mg base 42 "_law_list_holds" 1 m__law_list_holds) : Fk P w K mg base 43 "_law_lists_hold" 1 m__law_lists_hold :=
  fk_mk (k := 42) F sc__law_lists_hold hm (fun _ _ _ _ _ _ us hl => match us, hl with | [_], _ => rfl) rfl rfl (by decide) fun cdv A outer s H E hr tk po => by
    have nd := sc__law_lists_hold.nd
    exact (fss_cons (fs_set 1 (fe_plus (fe_var 0) (fe_l (fl_comp (own := [("k", 3)]) rfl nd (show blkC N__law_lists_hold (defScope s__law_lists_hold) _ _ = true by decide +kernel) (fi_range1 b_range (fa_cons (fe_len b_len (fa_cons (fe_var 0) fa_nil)) fa_nil)) (fun _ _ _ _ _ => (fg_name 3 nd)) (fun _ _ _ _ _ => fts_nil) (fun _ _ _ _ _ => (fe_call k__law_lowest (hr.mono (by omega)) takes0 (fa_cons (fe_ix (fe_ix (fe_var 0) (fe_var 3)) fe_int) (fa_cons (fe_mul (fe_ix (fe_ix (fe_var 0) (fe_var 3)) fe_int) (fe_plus fe_int (fe_mul fe_int (fe_var 3)))) fa_nil))))))) nd)
    (fss_cons (fs_for po rfl (fi_any (fe_l (fl_disp (fa_cons (fe_var 0) (fa_cons (fe_var 1) (fa_cons (fe_plus (fe_sl (fe_var 1) (fo_some fe_int) fo_none) (fe_sl (fe_var 1) fo_none (fo_some fe_int))) fa_nil)))))) (fg_name 2 nd)
    (fss_one (fs_if (ft_not (ft_truth (fe_call k__law_list_holds (hr.mono (by omega)) tk (fa_cons (fe_var 2) fa_nil))))
    (fss_one (fs_ret fe_bl))
    fss_nil)))
    (fss_one (fs_ret fe_bl))))
abbrev s__law_kinds_hold : Stmt := topS 32
abbrev N__law_kinds_hold : List Str := ["r", "many", "p", "q", "wrong", "value", "right", "pair", "listed", "low", "high", "found"]
theorem sc__law_kinds_hold : FnScope N__law_kinds_hold ["r", "many"] (defScope s__law_kinds_hold) := ⟨rfl, rfl, rfl, by decide +kernel, rfl, by decide +kernel, by decide +kernel⟩
def b__law_kinds_hold_1 : GS :=
  sIf (b2 cIsNot (eCall (m_is_ratio) (aCons (eVar 5) (aNil))) (eC (.bl false)))
    (sRet (eC (.bl false)))
    (sNil)
def b__law_kinds_hold_2 : GS :=
  sIf (b2 cIsNot (eCall (m_is_whole) (aCons (eVar 5) (aNil))) (eC (.bl false)))
    (sRet (eC (.bl false)))
    (sNil)
def b__law_kinds_hold_3 : GS :=
  sIf (b2 cIsNot (eCall ((m_is_same 40)) (aCons (e2 dIx (eVar 7) (eC (.int 0))) (aCons (e2 dIx (eVar 7) (eC (.int 1))) (aNil)))) (eC (.bl true)))
    (sRet (eC (.bl false)))
    (sNil)
def b__law_kinds_hold_4 : GS :=
  sIf (b2 cIsNot (eCall ((m_is_same 40)) (aCons (e2 dIx (eVar 7) (eC (.int 0))) (aCons (e2 dIx (eVar 7) (eC (.int 1))) (aNil)))) (eC (.bl false)))
    (sRet (eC (.bl false)))
    (sNil)
def r__law_kinds_hold_5 : GS :=
  sSeq (sSet 8 (eLst (lDisp (aCons (eVar 2) (aCons (eVar 3) (aCons (e2 dPlus (eVar 2) (eVar 1)) (aNil)))))))
    (sSeq (sSet 9 (e2 dSub (eF fMin (aCons (eVar 8) (aNil))) (eC (.int 1))))
    (sSeq (sSet 10 (e2 dPlus (eF fMax (aCons (eVar 8) (aNil))) (eC (.int 1))))
    (sSeq (sSet 11 (eLst (lDisp (aCons (eCall (m_are_wholes) (aCons (eLst (lF fList (aCons (eVar 8) (aNil)))) (aCons (eVar 9) (aCons (eVar 10) (aNil))))) (aCons (eCall (m_are_wholes) (aCons (eLst (lDisp (aNil))) (aCons (eVar 9) (aCons (eVar 10) (aNil))))) (aCons (eCall (m_are_wholes) (aCons (e2 dPlus (eVar 8) (eLst (lDisp (aCons (eC (.bl true)) (aNil))))) (aCons (e2 dSub (e1 dNeg (eC (.int 9))) (eF fAbs (aCons (eVar 2) (aNil)))) (aCons (e2 dPlus (eVar 10) (eC (.int 9))) (aNil))))) (aNil)))))))
    (sSeq (sSet 11 (e2 dPlus (eVar 11) (eLst (lDisp (aCons (eCall (m_are_wholes) (aCons (e2 dPlus (eVar 8) (eLst (lDisp (aCons (e2 dSub (eVar 9) (eVar 1)) (aNil))))) (aCons (eVar 9) (aCons (eVar 10) (aNil))))) (aCons (eCall (m_are_wholes) (aCons (e2 dPlus (eLst (lDisp (aCons (e2 dPlus (eVar 10) (eVar 1)) (aNil)))) (eVar 8)) (aCons (eVar 9) (aCons (eVar 10) (aNil))))) (aNil)))))))
    (sSeq (sSet 11 (e2 dPlus (eVar 11) (eLst (lDisp (aCons (eCall (m_are_wholes) (aCons (eTup (aCons (eVar 2) (aCons (eVar 3) (aNil)))) (aCons (eVar 9) (aCons (eVar 10) (aNil))))) (aCons (eCall (m_are_wholes) (aCons (eVar 2) (aCons (eVar 9) (aCons (eVar 10) (aNil))))) (aCons (eCall (m_are_wholes) (aCons (eLst (lDisp (aCons (eVar 2) (aCons (eC .non) (aCons (eVar 3) (aNil)))))) (aCons (eVar 9) (aCons (eVar 10) (aNil))))) (aNil))))))))
    (sRet (eCall ((m__law_same 40)) (aCons (eVar 11) (aCons (eLst (lDisp (aCons (eC (.bl true)) (aCons (eC (.bl true)) (aCons (eC (.bl false)) (aCons (eC (.bl false)) (aCons (eC (.bl false)) (aCons (eC (.bl false)) (aCons (eC (.bl false)) (aCons (eC (.bl false)) (aNil))))))))))) (aNil))))))))))
def r__law_kinds_hold_6 : GS :=
  sSeq (sSet 4 (eLst (lDisp (aCons (eTup (aCons (eC (.bl true)) (aCons (eC (.int 1)) (aNil)))) (aCons (eTup (aCons (eC (.int 0)) (aCons (eC (.bl false)) (aNil)))) (aCons (eTup (aCons (eLst (lDisp (aCons (eVar 2) (aNil)))) (aCons (eTup (aCons (eVar 2) (aNil))) (aNil)))) (aCons (eTup (aCons (eTup (aCons (eVar 2) (aCons (eVar 3) (aNil)))) (aCons (eLst (lDisp (aCons (eVar 2) (aCons (eVar 3) (aNil))))) (aNil)))) (aCons (eTup (aCons (eLst (lDisp (aCons (eVar 0) (aCons (eLst (lDisp (aCons (eC (.int 1)) (aNil)))) (aNil))))) (aCons (eLst (lDisp (aCons (eVar 0) (aCons (eLst (lDisp (aCons (eC (.bl true)) (aNil)))) (aNil))))) (aNil)))) (aCons (eTup (aCons (eLst (lDisp (aCons (eVar 2) (aCons (eVar 3) (aNil))))) (aCons (eLst (lDisp (aCons (eVar 2) (aCons (eVar 3) (aCons (eVar 3) (aNil)))))) (aNil)))) (aCons (eTup (aCons (eVar 2) (aCons (eF fStr (aCons (eVar 2) (aNil))) (aNil)))) (aNil)))))))))))
    (sSeq (sSet 4 (e2 dPlus (eVar 4) (eLst (lDisp (aCons (eTup (aCons (eTup (aCons (eC (.int 1)) (aCons (eTup (aCons (eC (.int 0)) (aNil))) (aNil)))) (aCons (eTup (aCons (eC (.int 1)) (aCons (eTup (aCons (eC (.bl false)) (aNil))) (aNil)))) (aNil)))) (aCons (eTup (aCons (eLst (lDisp (aCons (eVar 2) (aCons (eVar 2) (aNil))))) (aCons (eLst (lDisp (aCons (eVar 2) (aNil)))) (aNil)))) (aCons (eTup (aCons (eC .non) (aCons (eC (.int 0)) (aNil)))) (aCons (eTup (aCons (eC (.str [])) (aCons (eC .non) (aNil)))) (aCons (eTup (aCons (eLst (lDisp (aCons (eVar 0) (aCons (eVar 0) (aNil))))) (aCons (eLst (lDisp (aCons (eVar 0) (aCons (eTup (aCons (eVar 2) (aCons (e2 dPlus (eVar 3) (eC (.int 1))) (aNil)))) (aNil))))) (aNil)))) (aCons (eTup (aCons (eVar 2) (aCons (e2 dPlus (eVar 2) (eVar 1)) (aNil)))) (aNil)))))))))))
    (sSeq (sFor (iAny (eVar 4)) (tName 7)
    (b__law_kinds_hold_4))
    (r__law_kinds_hold_5)))
def r__law_kinds_hold_7 : GS :=
  sSeq (sSet 6 (eLst (lDisp (aCons (eTup (aCons (eLst (lDisp (aCons (eVar 0) (aCons (eLst (lDisp (aCons (eVar 2) (aNil)))) (aNil))))) (aCons (eLst (lDisp (aCons (eTup (aCons (eVar 2) (aCons (eVar 3) (aNil)))) (aCons (eLst (lDisp (aCons (eVar 2) (aNil)))) (aNil))))) (aNil)))) (aCons (eTup (aCons (eC (.str [97])) (aCons (eC (.str [97])) (aNil)))) (aCons (eTup (aCons (eC .non) (aCons (eC .non) (aNil)))) (aCons (eTup (aCons (eC (.bl true)) (aCons (eC (.bl true)) (aNil)))) (aCons (eTup (aCons (eLst (lDisp (aNil))) (aCons (eLst (lDisp (aNil))) (aNil)))) (aCons (eTup (aCons (eTup (aNil)) (aCons (eTup (aNil)) (aNil)))) (aCons (eTup (aCons (eVar 2) (aCons (e2 dPlus (eVar 2) (eC (.int 0))) (aNil)))) (aNil)))))))))))
    (sSeq (sFor (iAny (eVar 6)) (tName 7)
    (b__law_kinds_hold_3))
    (r__law_kinds_hold_6))
def r__law_kinds_hold_8 : GS :=
  sSeq (sIf (bOr (b2 cIsNot (eCall (m_is_ratio) (aCons (eVar 0) (aNil))) (eC (.bl true))) (bOr (b2 cIsNot (eCall (m_is_whole) (aCons (eVar 2) (aNil))) (eC (.bl true))) (b2 cIsNot (eCall (m_is_whole) (aCons (e1 dNeg (eVar 3)) (aNil))) (eC (.bl true)))))
    (sRet (eC (.bl false)))
    (sNil))
    (sSeq (sFor (iAny (eLst (lDisp (aCons (eC (.bl true)) (aCons (eC (.bl false)) (aCons (eC .non) (aCons (eF fStr (aCons (eVar 2) (aNil))) (aCons (eTup (aCons (eVar 2) (aNil))) (aCons (eLst (lDisp (aCons (eVar 3) (aNil)))) (aNil)))))))))) (tName 5)
    (b__law_kinds_hold_2))
    (r__law_kinds_hold_7))
def g__law_kinds_hold : GS :=
  sSeq (sSet 2 (e2 dIx (eVar 0) (eC (.int 0))))
    (sSeq (sSet 3 (e2 dIx (eVar 0) (eC (.int 1))))
    (sSeq (sSet 4 (eLst (lDisp (aCons (eTup (aCons (e2 dMul (eVar 1) (eVar 2)) (aCons (e2 dMul (eVar 1) (eVar 3)) (aNil)))) (aCons (eLst (lDisp (aCons (eVar 2) (aCons (eVar 3) (aNil))))) (aCons (eTup (aCons (eVar 2) (aCons (e1 dNeg (eVar 3)) (aNil)))) (aCons (eTup (aCons (eVar 2) (aCons (eC (.int 0)) (aNil)))) (aCons (eTup (aCons (eVar 2) (aNil))) (aCons (eTup (aCons (eVar 2) (aCons (eVar 3) (aCons (eC (.int 1)) (aNil))))) (aCons (eTup (aCons (eC (.bl true)) (aCons (eVar 3) (aNil)))) (aCons (eTup (aCons (eVar 2) (aCons (eC (.bl true)) (aNil)))) (aCons (eVar 2) (aCons (eC .non) (aCons (eF fStr (aCons (eVar 2) (aNil))) (aCons (eTup (aCons (eF fStr (aCons (eVar 2) (aNil))) (aCons (eVar 3) (aNil)))) (aNil))))))))))))))))
    (sSeq (sFor (iAny (eVar 4)) (tName 5)
    (b__law_kinds_hold_1))
    (r__law_kinds_hold_8))))
def m__law_kinds_hold : List D → Res D := runF 2 12 g__law_kinds_hold
theorem ok__law_kinds_hold {f : Addr} {fd : FuncData} (F : Fun K "_law_kinds_hold" "_law_kinds_hold" s__law_kinds_hold f fd) (hm : mg "_law_kinds_hold" = some (.ref f)) (b_str : mg "str" = none) (k_is_ratio : Fk P w K mg base 2 "is_ratio" 1 m_is_ratio) (k_is_whole : Fk P w K mg base 1 "is_whole" 1 m_is_whole) (k_is_same : Fk P w K mg base 41 "is_same" 2 (m_is_same 40)) (b_min : mg "min" = none) (b_max : mg "max" = none) (k_are_wholes : Fk P w K mg base 2 "are_wholes" 3 m_are_wholes) (b_abs : mg "abs" = none) (b_list : mg "list" = none) (k__law_same : Fk P w K mg base 41 "_law_same" 2 (m__law_same 40)) : Fk P w K mg base 42 "_law_kinds_hold" 2 m__law_kinds_hold :=
  fk_mk (k := 41) F sc__law_kinds_hold hm (fun _ _ _ _ _ _ us hl => match us, hl with | [_, _], _ => rfl) rfl rfl (by decide) fun cdv A outer s H E hr tk po => by
    have nd := sc__law_kinds_hold.nd
    exact (fss_cons (fs_set 2 (fe_ix (fe_var 0) fe_int) nd)
    (fss_cons (fs_set 3 (fe_ix (fe_var 0) fe_int) nd)
    (fss_cons (fs_set 4 (fe_l (fl_disp (fa_cons (fe_tup (fa_cons (fe_mul (fe_var 1) (fe_var 2)) (fa_cons (fe_mul (fe_var 1) (fe_var 3)) fa_nil))) (fa_cons (fe_l (fl_disp (fa_cons (fe_var 2) (fa_cons (fe_var 3) fa_nil)))) (fa_cons (fe_tup (fa_cons (fe_var 2) (fa_cons (fe_neg (fe_var 3)) fa_nil))) (fa_cons (fe_tup (fa_cons (fe_var 2) (fa_cons fe_int fa_nil))) (fa_cons (fe_tup (fa_cons (fe_var 2) fa_nil)) (fa_cons (fe_tup (fa_cons (fe_var 2) (fa_cons (fe_var 3) (fa_cons fe_int fa_nil)))) (fa_cons (fe_tup (fa_cons fe_bl (fa_cons (fe_var 3) fa_nil))) (fa_cons (fe_tup (fa_cons (fe_var 2) (fa_cons fe_bl fa_nil))) (fa_cons (fe_var 2) (fa_cons fe_non (fa_cons (fe_cstr b_str (fa_cons (fe_var 2) fa_nil)) (fa_cons (fe_tup (fa_cons (fe_cstr b_str (fa_cons (fe_var 2) fa_nil)) (fa_cons (fe_var 3) fa_nil))) fa_nil)))))))))))))) nd)
    (fss_cons (fs_for po rfl (fi_any (fe_var 4)) (fg_name 5 nd)
    (fss_one (fs_if (ft_isnot (fe_call k_is_ratio (hr.mono (by omega)) tk (fa_cons (fe_var 5) fa_nil)) fe_bl)
    (fss_one (fs_ret fe_bl))
    fss_nil)))
    (fss_cons (fs_if (ft_w (fw_or (ft_isnot (fe_call k_is_ratio (hr.mono (by omega)) tk (fa_cons (fe_var 0) fa_nil)) fe_bl) (fw_or (ft_isnot (fe_call k_is_whole (hr.mono (by omega)) tk (fa_cons (fe_var 2) fa_nil)) fe_bl) (fw_or1 (ft_isnot (fe_call k_is_whole (hr.mono (by omega)) tk (fa_cons (fe_neg (fe_var 3)) fa_nil)) fe_bl)))))
    (fss_one (fs_ret fe_bl))
    fss_nil)
    (fss_cons (fs_for po rfl (fi_any (fe_l (fl_disp (fa_cons fe_bl (fa_cons fe_bl (fa_cons fe_non (fa_cons (fe_cstr b_str (fa_cons (fe_var 2) fa_nil)) (fa_cons (fe_tup (fa_cons (fe_var 2) fa_nil)) (fa_cons (fe_l (fl_disp (fa_cons (fe_var 3) fa_nil))) fa_nil))))))))) (fg_name 5 nd)
    (fss_one (fs_if (ft_isnot (fe_call k_is_whole (hr.mono (by omega)) tk (fa_cons (fe_var 5) fa_nil)) fe_bl)
    (fss_one (fs_ret fe_bl))
    fss_nil)))
    (fss_cons (fs_set 6 (fe_l (fl_disp (fa_cons (fe_tup (fa_cons (fe_l (fl_disp (fa_cons (fe_var 0) (fa_cons (fe_l (fl_disp (fa_cons (fe_var 2) fa_nil))) fa_nil)))) (fa_cons (fe_l (fl_disp (fa_cons (fe_tup (fa_cons (fe_var 2) (fa_cons (fe_var 3) fa_nil))) (fa_cons (fe_l (fl_disp (fa_cons (fe_var 2) fa_nil))) fa_nil)))) fa_nil))) (fa_cons (fe_tup (fa_cons fe_str (fa_cons fe_str fa_nil))) (fa_cons (fe_tup (fa_cons fe_non (fa_cons fe_non fa_nil))) (fa_cons (fe_tup (fa_cons fe_bl (fa_cons fe_bl fa_nil))) (fa_cons (fe_tup (fa_cons (fe_l (fl_disp fa_nil)) (fa_cons (fe_l (fl_disp fa_nil)) fa_nil))) (fa_cons (fe_tup (fa_cons (fe_tup fa_nil) (fa_cons (fe_tup fa_nil) fa_nil))) (fa_cons (fe_tup (fa_cons (fe_var 2) (fa_cons (fe_plus (fe_var 2) fe_int) fa_nil))) fa_nil))))))))) nd)
    (fss_cons (fs_for po rfl (fi_any (fe_var 6)) (fg_name 7 nd)
    (fss_one (fs_if (ft_isnot (fe_call k_is_same (hr.mono (by omega)) tk (fa_cons (fe_ix (fe_var 7) fe_int) (fa_cons (fe_ix (fe_var 7) fe_int) fa_nil))) fe_bl)
    (fss_one (fs_ret fe_bl))
    fss_nil)))
    (fss_cons (fs_set 4 (fe_l (fl_disp (fa_cons (fe_tup (fa_cons fe_bl (fa_cons fe_int fa_nil))) (fa_cons (fe_tup (fa_cons fe_int (fa_cons fe_bl fa_nil))) (fa_cons (fe_tup (fa_cons (fe_l (fl_disp (fa_cons (fe_var 2) fa_nil))) (fa_cons (fe_tup (fa_cons (fe_var 2) fa_nil)) fa_nil))) (fa_cons (fe_tup (fa_cons (fe_tup (fa_cons (fe_var 2) (fa_cons (fe_var 3) fa_nil))) (fa_cons (fe_l (fl_disp (fa_cons (fe_var 2) (fa_cons (fe_var 3) fa_nil)))) fa_nil))) (fa_cons (fe_tup (fa_cons (fe_l (fl_disp (fa_cons (fe_var 0) (fa_cons (fe_l (fl_disp (fa_cons fe_int fa_nil))) fa_nil)))) (fa_cons (fe_l (fl_disp (fa_cons (fe_var 0) (fa_cons (fe_l (fl_disp (fa_cons fe_bl fa_nil))) fa_nil)))) fa_nil))) (fa_cons (fe_tup (fa_cons (fe_l (fl_disp (fa_cons (fe_var 2) (fa_cons (fe_var 3) fa_nil)))) (fa_cons (fe_l (fl_disp (fa_cons (fe_var 2) (fa_cons (fe_var 3) (fa_cons (fe_var 3) fa_nil))))) fa_nil))) (fa_cons (fe_tup (fa_cons (fe_var 2) (fa_cons (fe_cstr b_str (fa_cons (fe_var 2) fa_nil)) fa_nil))) fa_nil))))))))) nd)
    (fss_cons (fs_set 4 (fe_plus (fe_var 4) (fe_l (fl_disp (fa_cons (fe_tup (fa_cons (fe_tup (fa_cons fe_int (fa_cons (fe_tup (fa_cons fe_int fa_nil)) fa_nil))) (fa_cons (fe_tup (fa_cons fe_int (fa_cons (fe_tup (fa_cons fe_bl fa_nil)) fa_nil))) fa_nil))) (fa_cons (fe_tup (fa_cons (fe_l (fl_disp (fa_cons (fe_var 2) (fa_cons (fe_var 2) fa_nil)))) (fa_cons (fe_l (fl_disp (fa_cons (fe_var 2) fa_nil))) fa_nil))) (fa_cons (fe_tup (fa_cons fe_non (fa_cons fe_int fa_nil))) (fa_cons (fe_tup (fa_cons fe_str (fa_cons fe_non fa_nil))) (fa_cons (fe_tup (fa_cons (fe_l (fl_disp (fa_cons (fe_var 0) (fa_cons (fe_var 0) fa_nil)))) (fa_cons (fe_l (fl_disp (fa_cons (fe_var 0) (fa_cons (fe_tup (fa_cons (fe_var 2) (fa_cons (fe_plus (fe_var 3) fe_int) fa_nil))) fa_nil)))) fa_nil))) (fa_cons (fe_tup (fa_cons (fe_var 2) (fa_cons (fe_plus (fe_var 2) (fe_var 1)) fa_nil))) fa_nil))))))))) nd)
    (fss_cons (fs_for po rfl (fi_any (fe_var 4)) (fg_name 7 nd)
    (fss_one (fs_if (ft_isnot (fe_call k_is_same (hr.mono (by omega)) tk (fa_cons (fe_ix (fe_var 7) fe_int) (fa_cons (fe_ix (fe_var 7) fe_int) fa_nil))) fe_bl)
    (fss_one (fs_ret fe_bl))
    fss_nil)))
    (fss_cons (fs_set 8 (fe_l (fl_disp (fa_cons (fe_var 2) (fa_cons (fe_var 3) (fa_cons (fe_plus (fe_var 2) (fe_var 1)) fa_nil))))) nd)
    (fss_cons (fs_set 9 (fe_sub (fe_min1 b_min rfl (fa_cons (fe_var 8) fa_nil)) fe_int) nd)
    (fss_cons (fs_set 10 (fe_plus (fe_max1 b_max rfl (fa_cons (fe_var 8) fa_nil)) fe_int) nd)
    (fss_cons (fs_set 11 (fe_l (fl_disp (fa_cons (fe_call k_are_wholes (hr.mono (by omega)) tk (fa_cons (fe_l (fl_clist b_list (fa_cons (fe_var 8) fa_nil))) (fa_cons (fe_var 9) (fa_cons (fe_var 10) fa_nil)))) (fa_cons (fe_call k_are_wholes (hr.mono (by omega)) tk (fa_cons (fe_l (fl_disp fa_nil)) (fa_cons (fe_var 9) (fa_cons (fe_var 10) fa_nil)))) (fa_cons (fe_call k_are_wholes (hr.mono (by omega)) tk (fa_cons (fe_plus (fe_var 8) (fe_l (fl_disp (fa_cons fe_bl fa_nil)))) (fa_cons (fe_sub (fe_neg fe_int) (fe_abs b_abs (fa_cons (fe_var 2) fa_nil))) (fa_cons (fe_plus (fe_var 10) fe_int) fa_nil)))) fa_nil))))) nd)
    (fss_cons (fs_set 11 (fe_plus (fe_var 11) (fe_l (fl_disp (fa_cons (fe_call k_are_wholes (hr.mono (by omega)) tk (fa_cons (fe_plus (fe_var 8) (fe_l (fl_disp (fa_cons (fe_sub (fe_var 9) (fe_var 1)) fa_nil)))) (fa_cons (fe_var 9) (fa_cons (fe_var 10) fa_nil)))) (fa_cons (fe_call k_are_wholes (hr.mono (by omega)) tk (fa_cons (fe_plus (fe_l (fl_disp (fa_cons (fe_plus (fe_var 10) (fe_var 1)) fa_nil))) (fe_var 8)) (fa_cons (fe_var 9) (fa_cons (fe_var 10) fa_nil)))) fa_nil))))) nd)
    (fss_cons (fs_set 11 (fe_plus (fe_var 11) (fe_l (fl_disp (fa_cons (fe_call k_are_wholes (hr.mono (by omega)) tk (fa_cons (fe_tup (fa_cons (fe_var 2) (fa_cons (fe_var 3) fa_nil))) (fa_cons (fe_var 9) (fa_cons (fe_var 10) fa_nil)))) (fa_cons (fe_call k_are_wholes (hr.mono (by omega)) tk (fa_cons (fe_var 2) (fa_cons (fe_var 9) (fa_cons (fe_var 10) fa_nil)))) (fa_cons (fe_call k_are_wholes (hr.mono (by omega)) tk (fa_cons (fe_l (fl_disp (fa_cons (fe_var 2) (fa_cons fe_non (fa_cons (fe_var 3) fa_nil))))) (fa_cons (fe_var 9) (fa_cons (fe_var 10) fa_nil)))) fa_nil)))))) nd)
    (fss_one (fs_ret (fe_call k__law_same (hr.mono (by omega)) tk (fa_cons (fe_var 11) (fa_cons (fe_l (fl_disp (fa_cons fe_bl (fa_cons fe_bl (fa_cons fe_bl (fa_cons fe_bl (fa_cons fe_bl (fa_cons fe_bl (fa_cons fe_bl (fa_cons fe_bl fa_nil)))))))))) fa_nil))))))))))))))))))))))
abbrev s_law : Stmt := topS 33
abbrev N_law : List Str := ["script", "first", "second", "raws", "dues", "k", "p", "q", "found", "due", "raw"]
theorem sc_law : FnScope N_law ["script"] (defScope s_law) := ⟨rfl, rfl, rfl, by decide +kernel, rfl, by decide +kernel, by decide +kernel⟩
def b_law_1 : GS :=
  sSeq (sSet 6 (e2 dIx (e2 dIx (eVar 3) (eVar 5)) (eC (.int 0))))
    (sSeq (sSet 7 (e2 dIx (e2 dIx (eVar 3) (eVar 5)) (eC (.int 1))))
    (sSeq (sSet 8 (eLst (lDisp (aCons (eCall (m__law_ratio) (aCons (eVar 6) (aCons (eVar 7) (aNil)))) (aCons (eCall (m_sign) (aCons (e2 dIx (eVar 4) (eVar 5)) (aNil))) (aCons (eCall (m_floor_of) (aCons (e2 dIx (eVar 4) (eVar 5)) (aNil))) (aCons (eCall (m__law_ratio) (aCons (eVar 6) (aCons (eC (.int 0)) (aNil)))) (aCons (eCall (m__law_over) (aCons (e2 dIx (eVar 4) (eVar 5)) (aCons (eTup (aCons (eC (.int 0)) (aCons (eC (.int 1)) (aNil)))) (aNil)))) (aNil)))))))))
    (sSeq (sSet 9 (eLst (lDisp (aCons (eLst (lDisp (aCons (e2 dIx (eVar 4) (eVar 5)) (aNil)))) (aCons (eCall (m__law_order) (aCons (e2 dMul (eVar 6) (eVar 7)) (aCons (eC (.int 1)) (aCons (eC (.int 0)) (aCons (eC (.int 1)) (aNil)))))) (aCons (e2 dFdiv (e2 dIx (e2 dIx (eVar 4) (eVar 5)) (eC (.int 0))) (e2 dIx (e2 dIx (eVar 4) (eVar 5)) (eC (.int 1)))) (aCons (eLst (lDisp (aNil))) (aCons (eLst (lDisp (aNil))) (aNil)))))))))
    (sSeq (sIf (bNot (b1 truth (eCall ((m__law_same 40)) (aCons (eVar 8) (aCons (eVar 9) (aNil))))))
    (sRet (eC (.bl false)))
    (sNil))
    (sIf (bNot (b1 truth (eCall (m__law_kinds_hold) (aCons (e2 dIx (eVar 4) (eVar 5)) (aCons (e2 dPlus (eC (.int 2)) (e2 dMod (e2 dIx (eVar 2) (eC (.int 15))) (eC (.int 5)))) (aNil))))))
    (sRet (eC (.bl false)))
    (sNil))))))
def r_law_2 : GS :=
  sRet (eAnd (eCall (m__law_pairs_hold) (aCons (eVar 4) (aNil))) (eCall (m__law_lists_hold) (aCons (eVar 4) (aNil))))
def g_law : GS :=
  sSeq (sSet 1 (eCall (m__law_numbers) (aCons (eVar 0) (aCons (eC (.int 0)) (aCons (eC (.int 16)) (aNil))))))
    (sSeq (sSet 2 (eCall (m__law_numbers) (aCons (eVar 0) (aCons (eC (.int 1)) (aCons (eC (.int 16)) (aNil))))))
    (sSeq (sSet 3 (eCall (m__law_raws) (aCons (eVar 1) (aCons (eVar 2) (aNil)))))
    (sSeq (sThen 4 (sSetL 4 (lComp (iAny (eVar 3)) [10] (tName 10) (bYes) (eCall (m__law_lowest) (aCons (e2 dIx (eVar 10) (eC (.int 0))) (aCons (e2 dIx (eVar 10) (eC (.int 1))) (aNil)))))))
    (sSeq (sFor (lF rg1 (aCons (eC (.int 7)) (aNil))) (tName 5)
    (b_law_1))
    (r_law_2)))))
def m_law : List D → Res D := runF 1 11 g_law
theorem ok_law {f : Addr} {fd : FuncData} (F : Fun K "law" "law" s_law f fd) (hm : mg "law" = some (.ref f)) (k__law_numbers : Fk P w K mg base 1 "_law_numbers" 3 m__law_numbers) (k__law_raws : Fk P w K mg base 1 "_law_raws" 2 m__law_raws) (k__law_lowest : Fk P w K mg base 2 "_law_lowest" 2 m__law_lowest) (b_range : mg "range" = none) (k__law_over : Fk P w K mg base 3 "_law_over" 2 m__law_over) (k__law_ratio : Fk P w K mg base 2 "_law_ratio" 2 m__law_ratio) (k_floor_of : Fk P w K mg base 1 "floor_of" 1 m_floor_of) (k_sign : Fk P w K mg base 1 "sign" 1 m_sign) (k__law_order : Fk P w K mg base 1 "_law_order" 4 m__law_order) (k__law_same : Fk P w K mg base 41 "_law_same" 2 (m__law_same 40)) (k__law_kinds_hold : Fk P w K mg base 42 "_law_kinds_hold" 2 m__law_kinds_hold) (k__law_pairs_hold : Fk P w K mg base 42 "_law_pairs_hold" 1 m__law_pairs_hold) (k__law_lists_hold : Fk P w K mg base 43 "_law_lists_hold" 1 m__law_lists_hold) : Fk P w K mg base 44 "law" 1 m_law :=
  fk_mk (k := 43) F sc_law hm (fun _ _ _ _ _ _ us hl => match us, hl with | [_], _ => rfl) rfl rfl (by decide) fun cdv A outer s H E hr tk po => by
    have nd := sc_law.nd
    exact (fss_cons (fs_set 1 (fe_call k__law_numbers (hr.mono (by omega)) tk (fa_cons (fe_var 0) (fa_cons fe_int (fa_cons fe_int fa_nil)))) nd)
    (fss_cons (fs_set 2 (fe_call k__law_numbers (hr.mono (by omega)) tk (fa_cons (fe_var 0) (fa_cons fe_int (fa_cons fe_int fa_nil)))) nd)
    (fss_cons (fs_set 3 (fe_call k__law_raws (hr.mono (by omega)) tk (fa_cons (fe_var 1) (fa_cons (fe_var 2) fa_nil))) nd)
    (fss_cons (fs_then 4 (fs_comp 4 (sw_true rfl rfl rfl (by decide +kernel)) (own := [("raw", 10)]) rfl nd (show blkC N_law (defScope s_law) _ _ = true by decide +kernel) (fi_any (fe_var 3)) (fun _ _ _ _ _ => (fg_name 10 nd)) (fun _ _ _ _ _ => fts_nil) (fun _ _ _ _ _ => (fe_call k__law_lowest (hr.mono (by omega)) takes0 (fa_cons (fe_ix (fe_var 10) fe_int) (fa_cons (fe_ix (fe_var 10) fe_int) fa_nil))))))
    (fss_cons (fs_for po rfl (fi_range1 b_range (fa_cons fe_int fa_nil)) (fg_name 5 nd)
    (fss_cons (fs_set 6 (fe_ix (fe_ix (fe_var 3) (fe_var 5)) fe_int) nd)
    (fss_cons (fs_set 7 (fe_ix (fe_ix (fe_var 3) (fe_var 5)) fe_int) nd)
    (fss_cons (fs_set 8 (fe_l (fl_disp (fa_cons (fe_call k__law_ratio (hr.mono (by omega)) tk (fa_cons (fe_var 6) (fa_cons (fe_var 7) fa_nil))) (fa_cons (fe_call k_sign (hr.mono (by omega)) tk (fa_cons (fe_ix (fe_var 4) (fe_var 5)) fa_nil)) (fa_cons (fe_call k_floor_of (hr.mono (by omega)) tk (fa_cons (fe_ix (fe_var 4) (fe_var 5)) fa_nil)) (fa_cons (fe_call k__law_ratio (hr.mono (by omega)) tk (fa_cons (fe_var 6) (fa_cons fe_int fa_nil))) (fa_cons (fe_call k__law_over (hr.mono (by omega)) tk (fa_cons (fe_ix (fe_var 4) (fe_var 5)) (fa_cons (fe_tup (fa_cons fe_int (fa_cons fe_int fa_nil))) fa_nil))) fa_nil))))))) nd)
    (fss_cons (fs_set 9 (fe_l (fl_disp (fa_cons (fe_l (fl_disp (fa_cons (fe_ix (fe_var 4) (fe_var 5)) fa_nil))) (fa_cons (fe_call k__law_order (hr.mono (by omega)) tk (fa_cons (fe_mul (fe_var 6) (fe_var 7)) (fa_cons fe_int (fa_cons fe_int (fa_cons fe_int fa_nil))))) (fa_cons (fe_fdiv (fe_ix (fe_ix (fe_var 4) (fe_var 5)) fe_int) (fe_ix (fe_ix (fe_var 4) (fe_var 5)) fe_int)) (fa_cons (fe_l (fl_disp fa_nil)) (fa_cons (fe_l (fl_disp fa_nil)) fa_nil))))))) nd)
    (fss_cons (fs_if (ft_not (ft_truth (fe_call k__law_same (hr.mono (by omega)) tk (fa_cons (fe_var 8) (fa_cons (fe_var 9) fa_nil)))))
    (fss_one (fs_ret fe_bl))
    fss_nil)
    (fss_one (fs_if (ft_not (ft_truth (fe_call k__law_kinds_hold (hr.mono (by omega)) tk (fa_cons (fe_ix (fe_var 4) (fe_var 5)) (fa_cons (fe_plus fe_int (fe_mod (fe_ix (fe_var 2) fe_int) fe_int)) fa_nil)))))
    (fss_one (fs_ret fe_bl))
    fss_nil))))))))
    (fss_one (fs_ret (fe_and (fe_call k__law_pairs_hold (hr.mono (by omega)) tk (fa_cons (fe_var 4) fa_nil)) (fe_one (fe_call k__law_lists_hold (hr.mono (by omega)) tk (fa_cons (fe_var 4) fa_nil)))))))))))
theorem fn_law_ {f : Addr} {fd : FuncData} (F : Fun K "law" "law" s_law f fd) (hm : mg "law" = some (.ref f)) (k__law_numbers : Fk P w K mg base 1 "_law_numbers" 3 m__law_numbers) (k__law_raws : Fk P w K mg base 1 "_law_raws" 2 m__law_raws) (k__law_lowest : Fk P w K mg base 2 "_law_lowest" 2 m__law_lowest) (b_range : mg "range" = none) (k__law_over : Fk P w K mg base 3 "_law_over" 2 m__law_over) (k__law_ratio : Fk P w K mg base 2 "_law_ratio" 2 m__law_ratio) (k_floor_of : Fk P w K mg base 1 "floor_of" 1 m_floor_of) (k_sign : Fk P w K mg base 1 "sign" 1 m_sign) (k__law_order : Fk P w K mg base 1 "_law_order" 4 m__law_order) (k__law_same : Fk P w K mg base 41 "_law_same" 2 (m__law_same 40)) (k__law_kinds_hold : Fk P w K mg base 42 "_law_kinds_hold" 2 m__law_kinds_hold) (k__law_pairs_hold : Fk P w K mg base 42 "_law_pairs_hold" 1 m__law_pairs_hold) (k__law_lists_hold : Fk P w K mg base 43 "_law_lists_hold" 1 m__law_lists_hold) : FnOk P w K mg base (L2.CX P w) 44 f fd ["script"] (spF K mg 1 m_law) :=
  fn_mk (k := 43) F sc_law rfl rfl (by decide) fun cdv A outer s H E hr tk po => by
    have nd := sc_law.nd
    exact (fss_cons (fs_set 1 (fe_call k__law_numbers (hr.mono (by omega)) tk (fa_cons (fe_var 0) (fa_cons fe_int (fa_cons fe_int fa_nil)))) nd)
    (fss_cons (fs_set 2 (fe_call k__law_numbers (hr.mono (by omega)) tk (fa_cons (fe_var 0) (fa_cons fe_int (fa_cons fe_int fa_nil)))) nd)
    (fss_cons (fs_set 3 (fe_call k__law_raws (hr.mono (by omega)) tk (fa_cons (fe_var 1) (fa_cons (fe_var 2) fa_nil))) nd)
    (fss_cons (fs_then 4 (fs_comp 4 (sw_true rfl rfl rfl (by decide +kernel)) (own := [("raw", 10)]) rfl nd (show blkC N_law (defScope s_law) _ _ = true by decide +kernel) (fi_any (fe_var 3)) (fun _ _ _ _ _ => (fg_name 10 nd)) (fun _ _ _ _ _ => fts_nil) (fun _ _ _ _ _ => (fe_call k__law_lowest (hr.mono (by omega)) takes0 (fa_cons (fe_ix (fe_var 10) fe_int) (fa_cons (fe_ix (fe_var 10) fe_int) fa_nil))))))
    (fss_cons (fs_for po rfl (fi_range1 b_range (fa_cons fe_int fa_nil)) (fg_name 5 nd)
    (fss_cons (fs_set 6 (fe_ix (fe_ix (fe_var 3) (fe_var 5)) fe_int) nd)
    (fss_cons (fs_set 7 (fe_ix (fe_ix (fe_var 3) (fe_var 5)) fe_int) nd)
    (fss_cons (fs_set 8 (fe_l (fl_disp (fa_cons (fe_call k__law_ratio (hr.mono (by omega)) tk (fa_cons (fe_var 6) (fa_cons (fe_var 7) fa_nil))) (fa_cons (fe_call k_sign (hr.mono (by omega)) tk (fa_cons (fe_ix (fe_var 4) (fe_var 5)) fa_nil)) (fa_cons (fe_call k_floor_of (hr.mono (by omega)) tk (fa_cons (fe_ix (fe_var 4) (fe_var 5)) fa_nil)) (fa_cons (fe_call k__law_ratio (hr.mono (by omega)) tk (fa_cons (fe_var 6) (fa_cons fe_int fa_nil))) (fa_cons (fe_call k__law_over (hr.mono (by omega)) tk (fa_cons (fe_ix (fe_var 4) (fe_var 5)) (fa_cons (fe_tup (fa_cons fe_int (fa_cons fe_int fa_nil))) fa_nil))) fa_nil))))))) nd)
    (fss_cons (fs_set 9 (fe_l (fl_disp (fa_cons (fe_l (fl_disp (fa_cons (fe_ix (fe_var 4) (fe_var 5)) fa_nil))) (fa_cons (fe_call k__law_order (hr.mono (by omega)) tk (fa_cons (fe_mul (fe_var 6) (fe_var 7)) (fa_cons fe_int (fa_cons fe_int (fa_cons fe_int fa_nil))))) (fa_cons (fe_fdiv (fe_ix (fe_ix (fe_var 4) (fe_var 5)) fe_int) (fe_ix (fe_ix (fe_var 4) (fe_var 5)) fe_int)) (fa_cons (fe_l (fl_disp fa_nil)) (fa_cons (fe_l (fl_disp fa_nil)) fa_nil))))))) nd)
    (fss_cons (fs_if (ft_not (ft_truth (fe_call k__law_same (hr.mono (by omega)) tk (fa_cons (fe_var 8) (fa_cons (fe_var 9) fa_nil)))))
    (fss_one (fs_ret fe_bl))
    fss_nil)
    (fss_one (fs_if (ft_not (ft_truth (fe_call k__law_kinds_hold (hr.mono (by omega)) tk (fa_cons (fe_ix (fe_var 4) (fe_var 5)) (fa_cons (fe_plus fe_int (fe_mod (fe_ix (fe_var 2) fe_int) fe_int)) fa_nil)))))
    (fss_one (fs_ret fe_bl))
    fss_nil))))))))
    (fss_one (fs_ret (fe_and (fe_call k__law_pairs_hold (hr.mono (by omega)) tk (fa_cons (fe_var 4) fa_nil)) (fe_one (fe_call k__law_lists_hold (hr.mono (by omega)) tk (fa_cons (fe_var 4) fa_nil)))))))))))
end
end AF

namespace AF
open PySem PySem.Spec PyProof.Rows L2
/-! ### the program's ratios -/
theorem ratio_ok (p q : Int) (hq : q ≠ 0) (hb : q.natAbs < 2 ^ 3000) : m_ratio [.int p, .int q] = .ok (rq (Rat.divInt p q)) := by
  have h1 := sh_ne (p := p) hq
  have h2 := sh_le (p := p) hq
  have h3 : S9 (shOf p q) := s9_of h1 (by omega)
  obtain ⟨e1, e2⟩ := low_ok p q hq
  apply wR_eq
  simp only [m_ratio, g_ratio, ↓wR_ok, ↓wR_err, ↓wR_bind, ↓wR_of, ↓wO_some, ↓wO_map, ↓wO_bind, ↓w_var0, ↓w_varS, ↓w_eC, ↓w_e1, ↓w_l1, ↓w_e2, ↓w_l2, ↓w_b1, ↓w_b2, ↓w_eB, ↓w_eF, ↓w_lF, ↓w_eCall, ↓w_eLst, ↓w_aNil, ↓w_aCons, ↓w_eTup, ↓w_lDisp, ↓w_eIf, ↓w_bAnd, ↓w_bOr, ↓w_bNot, ↓w_bYes, ↓w_bChain, ↓w_eAnd, ↓w_eOr, ↓w_iAny, ↓w_oNone, ↓w_oSomeC, ↓w_eSl, ↓w_lSlG, ↓w_lComp, ↓w_sSeq, ↓w_sNil, ↓w_sBreak, ↓w_sCont, ↓w_sSet, ↓w_sSetL, ↓w_sExpr, ↓w_sRet, ↓w_sRetN, ↓w_sIf, ↓w_own0, ↓w_ownS, ↓w_sRetO, ↓w_sApp, ↓w_sSetIx, ↓w_sFrz, ↓w_sThen, ↓w_sRaise, ↓w_sAsg, ↓w_sFor, ↓w_sTry, ↓t_name, ↓t_nil, ↓t_cons, ↓o_plus, ↓o_plusL, ↓o_lAdd, ↓o_sub, ↓o_neg, ↓o_mul, ↓o_fdiv, ↓o_mod, ↓o_pow, ↓o_lt, ↓o_le, ↓o_gt, ↓o_ge, ↓o_eq, ↓o_ne, ↓o_truthB, ↓o_truthI, ↓o_truthN, ↓o_truthL, ↓o_truthT, ↓o_truthS, ↓o_notB, ↓o_isNN, ↓o_isBT, ↓o_isBF, ↓o_isT, ↓o_isIB, ↓o_isSB, ↓o_isLB, ↓o_isTB, ↓o_isNB, ↓o_isNot, ↓o_lenL, ↓o_lenT, ↓o_lenS, ↓o_abs, ↓o_intI, ↓o_intB, ↓o_str, ↓o_gcd, ↓o_list, ↓o_listT, ↓o_tuple, ↓o_tupleT, ↓o_rev, ↓o_type, ↓o_isi, ↓o_isi2, ↓o_rg1, ↓o_rg2, ↓o_zip, ↓o_zipT, ↓o_itemsL, ↓o_itemsT, ↓o_ixL, ↓o_ixT, ↓o_at0, ↓o_at1, ↓o_at2, ↓o_at3, ↓o_at4, ↓o_at5, ↓o_at6, ↓o_at7, ↓o_at8, ↓o_at9, ↓o_at10, ↓o_at11, ↓o_at12, ↓o_at13, ↓o_at14, ↓o_at15, ↓w_eIxO, ↓t_tup1, ↓t_tup2, ↓t_tup3, ↓t_tup9, ↓w_okOnly, ↓w_compN, ↓w_compC, ↓o_all, ↓o_any, ↓bls_nil, ↓bls_cons, ↓o_minL, ↓o_maxL, ↓o_sumL, ↓ints_nil, ↓ints_cons, ↓o_min3, ↓o_max3, ↓o_slL, ↓o_slT, ↓w_eBor, ↓w_bBor, o_isN, w_runF, tyName, isSubTy, tyNames, List.getElem?_cons_zero, List.getElem?_cons_succ, List.set_cons_zero, List.set_cons_succ, List.map_cons, List.map_nil, List.replicate_succ, List.replicate_zero, List.length_cons, List.length_nil, List.cons_append, List.nil_append, Nat.reduceAdd, Nat.reduceSub, Nat.reduceLeDiff, Nat.reduceEqDiff, reduceIte, if_true, if_false, Bool.not_true, Bool.not_false, Bool.true_and, Bool.and_true, Bool.false_and, Bool.and_false, Bool.true_or, Bool.false_or, Bool.or_true, Bool.or_false, reduceCtorEq, decide_true, decide_false, beq_self_eq_true, List.mem_cons, true_or, or_true, true_and, and_true, false_and, and_false, or_false, false_or, String.reduceEq, String.reduceBEq, List.not_mem_nil, Bool.not_eq_true, Bool.false_eq_true, eq_self, not_true_eq_false, not_false_eq_true, Bool.not_eq_eq_eq_not, decide_eq_true_eq, decide_eq_false_iff_not, bne_iff_ne, ne_eq, Int.reduceLT, Int.reduceLE, Int.reduceMul, Int.reduceAdd, Int.reduceNeg, Int.reduceToNat, Int.reducePow, Nat.reduceLT, Int.reduceEq, Int.reduceSub, zipD, List.zipWith_cons_cons, List.zipWith_nil_left, List.zipWith_nil_right, List.all_cons, List.all_nil, id_eq, scalD, borE, wipeE, noOwn, sz_0, szl_0, sz_1, szl_1, sz_2, szl_2, sz_3, szl_3, sz_4, szl_4, sz_5, szl_5, sz_6, szl_6, sz_7, szl_7, sz_8, szl_8, sz_9, szl_9, sz_10, szl_10, sz_11, szl_11, sz_12, szl_12, sz_13, szl_13, sz_14, szl_14, sz_15, szl_15, sz_16, szl_16, sz_17, szl_17, sz_18, szl_18, sz_19, szl_19, sz_20, szl_20, sz_21, szl_21, sz_22, szl_22, sz_23, szl_23, sz_24, szl_24, sz_25, szl_25, sz_26, szl_26, sz_27, szl_27, sz_28, szl_28, sz_29, szl_29, sz_30, szl_30, sz_31, szl_31, sz_32, szl_32, frz, List.all_cons, List.all_nil]
  rw [if_neg hq]
  unfold shOf at h3 e1 e2
  split
  · rename_i h
    rw [if_pos h] at h3 e1 e2
    exact ⟨h3, h3, by rw [e1, e2]; rfl⟩
  · rename_i h
    rw [if_neg h] at h3 e1 e2
    exact ⟨h3, h3, by rw [e1, e2]; rfl⟩
theorem ratio_no (p : Int) : m_ratio [.int p, .int 0] = .err (.plain "BadNumber") := by
  apply wR_errE
  simp only [m_ratio, g_ratio, ↓wR_ok, ↓wR_err, ↓wR_bind, ↓wR_of, ↓wO_some, ↓wO_map, ↓wO_bind, ↓w_var0, ↓w_varS, ↓w_eC, ↓w_e1, ↓w_l1, ↓w_e2, ↓w_l2, ↓w_b1, ↓w_b2, ↓w_eB, ↓w_eF, ↓w_lF, ↓w_eCall, ↓w_eLst, ↓w_aNil, ↓w_aCons, ↓w_eTup, ↓w_lDisp, ↓w_eIf, ↓w_bAnd, ↓w_bOr, ↓w_bNot, ↓w_bYes, ↓w_bChain, ↓w_eAnd, ↓w_eOr, ↓w_iAny, ↓w_oNone, ↓w_oSomeC, ↓w_eSl, ↓w_lSlG, ↓w_lComp, ↓w_sSeq, ↓w_sNil, ↓w_sBreak, ↓w_sCont, ↓w_sSet, ↓w_sSetL, ↓w_sExpr, ↓w_sRet, ↓w_sRetN, ↓w_sIf, ↓w_own0, ↓w_ownS, ↓w_sRetO, ↓w_sApp, ↓w_sSetIx, ↓w_sFrz, ↓w_sThen, ↓w_sRaise, ↓w_sAsg, ↓w_sFor, ↓w_sTry, ↓t_name, ↓t_nil, ↓t_cons, ↓o_plus, ↓o_plusL, ↓o_lAdd, ↓o_sub, ↓o_neg, ↓o_mul, ↓o_fdiv, ↓o_mod, ↓o_pow, ↓o_lt, ↓o_le, ↓o_gt, ↓o_ge, ↓o_eq, ↓o_ne, ↓o_truthB, ↓o_truthI, ↓o_truthN, ↓o_truthL, ↓o_truthT, ↓o_truthS, ↓o_notB, ↓o_isNN, ↓o_isBT, ↓o_isBF, ↓o_isT, ↓o_isIB, ↓o_isSB, ↓o_isLB, ↓o_isTB, ↓o_isNB, ↓o_isNot, ↓o_lenL, ↓o_lenT, ↓o_lenS, ↓o_abs, ↓o_intI, ↓o_intB, ↓o_str, ↓o_gcd, ↓o_list, ↓o_listT, ↓o_tuple, ↓o_tupleT, ↓o_rev, ↓o_type, ↓o_isi, ↓o_isi2, ↓o_rg1, ↓o_rg2, ↓o_zip, ↓o_zipT, ↓o_itemsL, ↓o_itemsT, ↓o_ixL, ↓o_ixT, ↓o_at0, ↓o_at1, ↓o_at2, ↓o_at3, ↓o_at4, ↓o_at5, ↓o_at6, ↓o_at7, ↓o_at8, ↓o_at9, ↓o_at10, ↓o_at11, ↓o_at12, ↓o_at13, ↓o_at14, ↓o_at15, ↓w_eIxO, ↓t_tup1, ↓t_tup2, ↓t_tup3, ↓t_tup9, ↓w_okOnly, ↓w_compN, ↓w_compC, ↓o_all, ↓o_any, ↓bls_nil, ↓bls_cons, ↓o_minL, ↓o_maxL, ↓o_sumL, ↓ints_nil, ↓ints_cons, ↓o_min3, ↓o_max3, ↓o_slL, ↓o_slT, ↓w_eBor, ↓w_bBor, o_isN, w_runF, tyName, isSubTy, tyNames, List.getElem?_cons_zero, List.getElem?_cons_succ, List.set_cons_zero, List.set_cons_succ, List.map_cons, List.map_nil, List.replicate_succ, List.replicate_zero, List.length_cons, List.length_nil, List.cons_append, List.nil_append, Nat.reduceAdd, Nat.reduceSub, Nat.reduceLeDiff, Nat.reduceEqDiff, reduceIte, if_true, if_false, Bool.not_true, Bool.not_false, Bool.true_and, Bool.and_true, Bool.false_and, Bool.and_false, Bool.true_or, Bool.false_or, Bool.or_true, Bool.or_false, reduceCtorEq, decide_true, decide_false, beq_self_eq_true, List.mem_cons, true_or, or_true, true_and, and_true, false_and, and_false, or_false, false_or, String.reduceEq, String.reduceBEq, List.not_mem_nil, Bool.not_eq_true, Bool.false_eq_true, eq_self, not_true_eq_false, not_false_eq_true, Bool.not_eq_eq_eq_not, decide_eq_true_eq, decide_eq_false_iff_not, bne_iff_ne, ne_eq, Int.reduceLT, Int.reduceLE, Int.reduceMul, Int.reduceAdd, Int.reduceNeg, Int.reduceToNat, Int.reducePow, Nat.reduceLT, Int.reduceEq, Int.reduceSub, zipD, List.zipWith_cons_cons, List.zipWith_nil_left, List.zipWith_nil_right, List.all_cons, List.all_nil, id_eq, scalD, borE, wipeE, noOwn, sz_0, szl_0, sz_1, szl_1, sz_2, szl_2, sz_3, szl_3, sz_4, szl_4, sz_5, szl_5, sz_6, szl_6, sz_7, szl_7, sz_8, szl_8, sz_9, szl_9, sz_10, szl_10, sz_11, szl_11, sz_12, szl_12, sz_13, szl_13, sz_14, szl_14, sz_15, szl_15, sz_16, szl_16, sz_17, szl_17, sz_18, szl_18, sz_19, szl_19, sz_20, szl_20, sz_21, szl_21, sz_22, szl_22, sz_23, szl_23, sz_24, szl_24, sz_25, szl_25, sz_26, szl_26, sz_27, szl_27, sz_28, szl_28, sz_29, szl_29, sz_30, szl_30, sz_31, szl_31, sz_32, szl_32, frz, List.all_cons, List.all_nil]
theorem dlt {x : Rat} (h : Bd x) : ((x.den : Int)).natAbs < 2 ^ 1000 := by have := h.2; omega
theorem plus_ok (x y : Rat) (hx : Bd x) (hy : Bd y) : m_plus [rq x, rq y] = .ok (rq (x + y)) := by
  apply wR_eq
  have b1 := mul_lt (dlt hx) (dlt hy)
  have b2 := ratio_ok (x.num * y.den + y.num * x.den) (x.den * y.den) (den_mul_ne x y) (lt_up b1 (by decide))
  rw [plus_eq] at b2
  simp only [m_plus, g_plus, rq, ↓wR_ok, ↓wR_err, ↓wR_bind, ↓wR_of, ↓wO_some, ↓wO_map, ↓wO_bind, ↓w_var0, ↓w_varS, ↓w_eC, ↓w_e1, ↓w_l1, ↓w_e2, ↓w_l2, ↓w_b1, ↓w_b2, ↓w_eB, ↓w_eF, ↓w_lF, ↓w_eCall, ↓w_eLst, ↓w_aNil, ↓w_aCons, ↓w_eTup, ↓w_lDisp, ↓w_eIf, ↓w_bAnd, ↓w_bOr, ↓w_bNot, ↓w_bYes, ↓w_bChain, ↓w_eAnd, ↓w_eOr, ↓w_iAny, ↓w_oNone, ↓w_oSomeC, ↓w_eSl, ↓w_lSlG, ↓w_lComp, ↓w_sSeq, ↓w_sNil, ↓w_sBreak, ↓w_sCont, ↓w_sSet, ↓w_sSetL, ↓w_sExpr, ↓w_sRet, ↓w_sRetN, ↓w_sIf, ↓w_own0, ↓w_ownS, ↓w_sRetO, ↓w_sApp, ↓w_sSetIx, ↓w_sFrz, ↓w_sThen, ↓w_sRaise, ↓w_sAsg, ↓w_sFor, ↓w_sTry, ↓t_name, ↓t_nil, ↓t_cons, ↓o_plus, ↓o_plusL, ↓o_lAdd, ↓o_sub, ↓o_neg, ↓o_mul, ↓o_fdiv, ↓o_mod, ↓o_pow, ↓o_lt, ↓o_le, ↓o_gt, ↓o_ge, ↓o_eq, ↓o_ne, ↓o_truthB, ↓o_truthI, ↓o_truthN, ↓o_truthL, ↓o_truthT, ↓o_truthS, ↓o_notB, ↓o_isNN, ↓o_isBT, ↓o_isBF, ↓o_isT, ↓o_isIB, ↓o_isSB, ↓o_isLB, ↓o_isTB, ↓o_isNB, ↓o_isNot, ↓o_lenL, ↓o_lenT, ↓o_lenS, ↓o_abs, ↓o_intI, ↓o_intB, ↓o_str, ↓o_gcd, ↓o_list, ↓o_listT, ↓o_tuple, ↓o_tupleT, ↓o_rev, ↓o_type, ↓o_isi, ↓o_isi2, ↓o_rg1, ↓o_rg2, ↓o_zip, ↓o_zipT, ↓o_itemsL, ↓o_itemsT, ↓o_ixL, ↓o_ixT, ↓o_at0, ↓o_at1, ↓o_at2, ↓o_at3, ↓o_at4, ↓o_at5, ↓o_at6, ↓o_at7, ↓o_at8, ↓o_at9, ↓o_at10, ↓o_at11, ↓o_at12, ↓o_at13, ↓o_at14, ↓o_at15, ↓w_eIxO, ↓t_tup1, ↓t_tup2, ↓t_tup3, ↓t_tup9, ↓w_okOnly, ↓w_compN, ↓w_compC, ↓o_all, ↓o_any, ↓bls_nil, ↓bls_cons, ↓o_minL, ↓o_maxL, ↓o_sumL, ↓ints_nil, ↓ints_cons, ↓o_min3, ↓o_max3, ↓o_slL, ↓o_slT, ↓w_eBor, ↓w_bBor, o_isN, w_runF, tyName, isSubTy, tyNames, List.getElem?_cons_zero, List.getElem?_cons_succ, List.set_cons_zero, List.set_cons_succ, List.map_cons, List.map_nil, List.replicate_succ, List.replicate_zero, List.length_cons, List.length_nil, List.cons_append, List.nil_append, Nat.reduceAdd, Nat.reduceSub, Nat.reduceLeDiff, Nat.reduceEqDiff, reduceIte, if_true, if_false, Bool.not_true, Bool.not_false, Bool.true_and, Bool.and_true, Bool.false_and, Bool.and_false, Bool.true_or, Bool.false_or, Bool.or_true, Bool.or_false, reduceCtorEq, decide_true, decide_false, beq_self_eq_true, List.mem_cons, true_or, or_true, true_and, and_true, false_and, and_false, or_false, false_or, String.reduceEq, String.reduceBEq, List.not_mem_nil, Bool.not_eq_true, Bool.false_eq_true, eq_self, not_true_eq_false, not_false_eq_true, Bool.not_eq_eq_eq_not, decide_eq_true_eq, decide_eq_false_iff_not, bne_iff_ne, ne_eq, Int.reduceLT, Int.reduceLE, Int.reduceMul, Int.reduceAdd, Int.reduceNeg, Int.reduceToNat, Int.reducePow, Nat.reduceLT, Int.reduceEq, Int.reduceSub, zipD, List.zipWith_cons_cons, List.zipWith_nil_left, List.zipWith_nil_right, List.all_cons, List.all_nil, id_eq, scalD, borE, wipeE, noOwn, sz_0, szl_0, sz_1, szl_1, sz_2, szl_2, sz_3, szl_3, sz_4, szl_4, sz_5, szl_5, sz_6, szl_6, sz_7, szl_7, sz_8, szl_8, sz_9, szl_9, sz_10, szl_10, sz_11, szl_11, sz_12, szl_12, sz_13, szl_13, sz_14, szl_14, sz_15, szl_15, sz_16, szl_16, sz_17, szl_17, sz_18, szl_18, sz_19, szl_19, sz_20, szl_20, sz_21, szl_21, sz_22, szl_22, sz_23, szl_23, sz_24, szl_24, sz_25, szl_25, sz_26, szl_26, sz_27, szl_27, sz_28, szl_28, sz_29, szl_29, sz_30, szl_30, sz_31, szl_31, sz_32, szl_32, frz, List.all_cons, List.all_nil]
  rw [b2]
  exact ⟨⟨sm_of (lt_up hx.1 (by decide)), sm_of (lt_up (dlt hy) (by decide))⟩, ⟨sm_of (lt_up hy.1 (by decide)), sm_of (lt_up (dlt hx) (by decide))⟩, ⟨sm_of (lt_up (dlt hx) (by decide)), sm_of (lt_up (dlt hy) (by decide))⟩, rfl⟩
theorem minus_ok (x y : Rat) (hx : Bd x) (hy : Bd y) : m_minus [rq x, rq y] = .ok (rq (x - y)) := by
  apply wR_eq
  have b1 := mul_lt (dlt hx) (dlt hy)
  have b2 := ratio_ok (x.num * y.den - y.num * x.den) (x.den * y.den) (den_mul_ne x y) (lt_up b1 (by decide))
  rw [minus_eq] at b2
  simp only [m_minus, g_minus, rq, ↓wR_ok, ↓wR_err, ↓wR_bind, ↓wR_of, ↓wO_some, ↓wO_map, ↓wO_bind, ↓w_var0, ↓w_varS, ↓w_eC, ↓w_e1, ↓w_l1, ↓w_e2, ↓w_l2, ↓w_b1, ↓w_b2, ↓w_eB, ↓w_eF, ↓w_lF, ↓w_eCall, ↓w_eLst, ↓w_aNil, ↓w_aCons, ↓w_eTup, ↓w_lDisp, ↓w_eIf, ↓w_bAnd, ↓w_bOr, ↓w_bNot, ↓w_bYes, ↓w_bChain, ↓w_eAnd, ↓w_eOr, ↓w_iAny, ↓w_oNone, ↓w_oSomeC, ↓w_eSl, ↓w_lSlG, ↓w_lComp, ↓w_sSeq, ↓w_sNil, ↓w_sBreak, ↓w_sCont, ↓w_sSet, ↓w_sSetL, ↓w_sExpr, ↓w_sRet, ↓w_sRetN, ↓w_sIf, ↓w_own0, ↓w_ownS, ↓w_sRetO, ↓w_sApp, ↓w_sSetIx, ↓w_sFrz, ↓w_sThen, ↓w_sRaise, ↓w_sAsg, ↓w_sFor, ↓w_sTry, ↓t_name, ↓t_nil, ↓t_cons, ↓o_plus, ↓o_plusL, ↓o_lAdd, ↓o_sub, ↓o_neg, ↓o_mul, ↓o_fdiv, ↓o_mod, ↓o_pow, ↓o_lt, ↓o_le, ↓o_gt, ↓o_ge, ↓o_eq, ↓o_ne, ↓o_truthB, ↓o_truthI, ↓o_truthN, ↓o_truthL, ↓o_truthT, ↓o_truthS, ↓o_notB, ↓o_isNN, ↓o_isBT, ↓o_isBF, ↓o_isT, ↓o_isIB, ↓o_isSB, ↓o_isLB, ↓o_isTB, ↓o_isNB, ↓o_isNot, ↓o_lenL, ↓o_lenT, ↓o_lenS, ↓o_abs, ↓o_intI, ↓o_intB, ↓o_str, ↓o_gcd, ↓o_list, ↓o_listT, ↓o_tuple, ↓o_tupleT, ↓o_rev, ↓o_type, ↓o_isi, ↓o_isi2, ↓o_rg1, ↓o_rg2, ↓o_zip, ↓o_zipT, ↓o_itemsL, ↓o_itemsT, ↓o_ixL, ↓o_ixT, ↓o_at0, ↓o_at1, ↓o_at2, ↓o_at3, ↓o_at4, ↓o_at5, ↓o_at6, ↓o_at7, ↓o_at8, ↓o_at9, ↓o_at10, ↓o_at11, ↓o_at12, ↓o_at13, ↓o_at14, ↓o_at15, ↓w_eIxO, ↓t_tup1, ↓t_tup2, ↓t_tup3, ↓t_tup9, ↓w_okOnly, ↓w_compN, ↓w_compC, ↓o_all, ↓o_any, ↓bls_nil, ↓bls_cons, ↓o_minL, ↓o_maxL, ↓o_sumL, ↓ints_nil, ↓ints_cons, ↓o_min3, ↓o_max3, ↓o_slL, ↓o_slT, ↓w_eBor, ↓w_bBor, o_isN, w_runF, tyName, isSubTy, tyNames, List.getElem?_cons_zero, List.getElem?_cons_succ, List.set_cons_zero, List.set_cons_succ, List.map_cons, List.map_nil, List.replicate_succ, List.replicate_zero, List.length_cons, List.length_nil, List.cons_append, List.nil_append, Nat.reduceAdd, Nat.reduceSub, Nat.reduceLeDiff, Nat.reduceEqDiff, reduceIte, if_true, if_false, Bool.not_true, Bool.not_false, Bool.true_and, Bool.and_true, Bool.false_and, Bool.and_false, Bool.true_or, Bool.false_or, Bool.or_true, Bool.or_false, reduceCtorEq, decide_true, decide_false, beq_self_eq_true, List.mem_cons, true_or, or_true, true_and, and_true, false_and, and_false, or_false, false_or, String.reduceEq, String.reduceBEq, List.not_mem_nil, Bool.not_eq_true, Bool.false_eq_true, eq_self, not_true_eq_false, not_false_eq_true, Bool.not_eq_eq_eq_not, decide_eq_true_eq, decide_eq_false_iff_not, bne_iff_ne, ne_eq, Int.reduceLT, Int.reduceLE, Int.reduceMul, Int.reduceAdd, Int.reduceNeg, Int.reduceToNat, Int.reducePow, Nat.reduceLT, Int.reduceEq, Int.reduceSub, zipD, List.zipWith_cons_cons, List.zipWith_nil_left, List.zipWith_nil_right, List.all_cons, List.all_nil, id_eq, scalD, borE, wipeE, noOwn, sz_0, szl_0, sz_1, szl_1, sz_2, szl_2, sz_3, szl_3, sz_4, szl_4, sz_5, szl_5, sz_6, szl_6, sz_7, szl_7, sz_8, szl_8, sz_9, szl_9, sz_10, szl_10, sz_11, szl_11, sz_12, szl_12, sz_13, szl_13, sz_14, szl_14, sz_15, szl_15, sz_16, szl_16, sz_17, szl_17, sz_18, szl_18, sz_19, szl_19, sz_20, szl_20, sz_21, szl_21, sz_22, szl_22, sz_23, szl_23, sz_24, szl_24, sz_25, szl_25, sz_26, szl_26, sz_27, szl_27, sz_28, szl_28, sz_29, szl_29, sz_30, szl_30, sz_31, szl_31, sz_32, szl_32, frz, List.all_cons, List.all_nil]
  rw [b2]
  exact ⟨⟨sm_of (lt_up hx.1 (by decide)), sm_of (lt_up (dlt hy) (by decide))⟩, ⟨sm_of (lt_up hy.1 (by decide)), sm_of (lt_up (dlt hx) (by decide))⟩, ⟨sm_of (lt_up (dlt hx) (by decide)), sm_of (lt_up (dlt hy) (by decide))⟩, rfl⟩
theorem times_ok (x y : Rat) (hx : Bd x) (hy : Bd y) : m_times [rq x, rq y] = .ok (rq (x * y)) := by
  apply wR_eq
  have b1 := mul_lt (dlt hx) (dlt hy)
  have b2 := ratio_ok (x.num * y.num) (x.den * y.den) (den_mul_ne x y) (lt_up b1 (by decide))
  rw [times_eq] at b2
  simp only [m_times, g_times, rq, ↓wR_ok, ↓wR_err, ↓wR_bind, ↓wR_of, ↓wO_some, ↓wO_map, ↓wO_bind, ↓w_var0, ↓w_varS, ↓w_eC, ↓w_e1, ↓w_l1, ↓w_e2, ↓w_l2, ↓w_b1, ↓w_b2, ↓w_eB, ↓w_eF, ↓w_lF, ↓w_eCall, ↓w_eLst, ↓w_aNil, ↓w_aCons, ↓w_eTup, ↓w_lDisp, ↓w_eIf, ↓w_bAnd, ↓w_bOr, ↓w_bNot, ↓w_bYes, ↓w_bChain, ↓w_eAnd, ↓w_eOr, ↓w_iAny, ↓w_oNone, ↓w_oSomeC, ↓w_eSl, ↓w_lSlG, ↓w_lComp, ↓w_sSeq, ↓w_sNil, ↓w_sBreak, ↓w_sCont, ↓w_sSet, ↓w_sSetL, ↓w_sExpr, ↓w_sRet, ↓w_sRetN, ↓w_sIf, ↓w_own0, ↓w_ownS, ↓w_sRetO, ↓w_sApp, ↓w_sSetIx, ↓w_sFrz, ↓w_sThen, ↓w_sRaise, ↓w_sAsg, ↓w_sFor, ↓w_sTry, ↓t_name, ↓t_nil, ↓t_cons, ↓o_plus, ↓o_plusL, ↓o_lAdd, ↓o_sub, ↓o_neg, ↓o_mul, ↓o_fdiv, ↓o_mod, ↓o_pow, ↓o_lt, ↓o_le, ↓o_gt, ↓o_ge, ↓o_eq, ↓o_ne, ↓o_truthB, ↓o_truthI, ↓o_truthN, ↓o_truthL, ↓o_truthT, ↓o_truthS, ↓o_notB, ↓o_isNN, ↓o_isBT, ↓o_isBF, ↓o_isT, ↓o_isIB, ↓o_isSB, ↓o_isLB, ↓o_isTB, ↓o_isNB, ↓o_isNot, ↓o_lenL, ↓o_lenT, ↓o_lenS, ↓o_abs, ↓o_intI, ↓o_intB, ↓o_str, ↓o_gcd, ↓o_list, ↓o_listT, ↓o_tuple, ↓o_tupleT, ↓o_rev, ↓o_type, ↓o_isi, ↓o_isi2, ↓o_rg1, ↓o_rg2, ↓o_zip, ↓o_zipT, ↓o_itemsL, ↓o_itemsT, ↓o_ixL, ↓o_ixT, ↓o_at0, ↓o_at1, ↓o_at2, ↓o_at3, ↓o_at4, ↓o_at5, ↓o_at6, ↓o_at7, ↓o_at8, ↓o_at9, ↓o_at10, ↓o_at11, ↓o_at12, ↓o_at13, ↓o_at14, ↓o_at15, ↓w_eIxO, ↓t_tup1, ↓t_tup2, ↓t_tup3, ↓t_tup9, ↓w_okOnly, ↓w_compN, ↓w_compC, ↓o_all, ↓o_any, ↓bls_nil, ↓bls_cons, ↓o_minL, ↓o_maxL, ↓o_sumL, ↓ints_nil, ↓ints_cons, ↓o_min3, ↓o_max3, ↓o_slL, ↓o_slT, ↓w_eBor, ↓w_bBor, o_isN, w_runF, tyName, isSubTy, tyNames, List.getElem?_cons_zero, List.getElem?_cons_succ, List.set_cons_zero, List.set_cons_succ, List.map_cons, List.map_nil, List.replicate_succ, List.replicate_zero, List.length_cons, List.length_nil, List.cons_append, List.nil_append, Nat.reduceAdd, Nat.reduceSub, Nat.reduceLeDiff, Nat.reduceEqDiff, reduceIte, if_true, if_false, Bool.not_true, Bool.not_false, Bool.true_and, Bool.and_true, Bool.false_and, Bool.and_false, Bool.true_or, Bool.false_or, Bool.or_true, Bool.or_false, reduceCtorEq, decide_true, decide_false, beq_self_eq_true, List.mem_cons, true_or, or_true, true_and, and_true, false_and, and_false, or_false, false_or, String.reduceEq, String.reduceBEq, List.not_mem_nil, Bool.not_eq_true, Bool.false_eq_true, eq_self, not_true_eq_false, not_false_eq_true, Bool.not_eq_eq_eq_not, decide_eq_true_eq, decide_eq_false_iff_not, bne_iff_ne, ne_eq, Int.reduceLT, Int.reduceLE, Int.reduceMul, Int.reduceAdd, Int.reduceNeg, Int.reduceToNat, Int.reducePow, Nat.reduceLT, Int.reduceEq, Int.reduceSub, zipD, List.zipWith_cons_cons, List.zipWith_nil_left, List.zipWith_nil_right, List.all_cons, List.all_nil, id_eq, scalD, borE, wipeE, noOwn, sz_0, szl_0, sz_1, szl_1, sz_2, szl_2, sz_3, szl_3, sz_4, szl_4, sz_5, szl_5, sz_6, szl_6, sz_7, szl_7, sz_8, szl_8, sz_9, szl_9, sz_10, szl_10, sz_11, szl_11, sz_12, szl_12, sz_13, szl_13, sz_14, szl_14, sz_15, szl_15, sz_16, szl_16, sz_17, szl_17, sz_18, szl_18, sz_19, szl_19, sz_20, szl_20, sz_21, szl_21, sz_22, szl_22, sz_23, szl_23, sz_24, szl_24, sz_25, szl_25, sz_26, szl_26, sz_27, szl_27, sz_28, szl_28, sz_29, szl_29, sz_30, szl_30, sz_31, szl_31, sz_32, szl_32, frz, List.all_cons, List.all_nil]
  rw [b2]
  exact ⟨⟨sm_of (lt_up hx.1 (by decide)), sm_of (lt_up hy.1 (by decide))⟩, ⟨sm_of (lt_up (dlt hx) (by decide)), sm_of (lt_up (dlt hy) (by decide))⟩, rfl⟩
theorem over_wp (x y : Rat) (hx : Bd x) (hy : Bd y) : m_over [rq x, rq y] = m_ratio [.int (x.num * y.den), .int (x.den * y.num)] := by
  have key : ∀ Q E, wpR (m_over [rq x, rq y]) Q E = wpR (m_ratio [.int (x.num * y.den), .int (x.den * y.num)]) Q E := by
    intro Q E
    simp only [m_over, g_over, rq, ↓wR_ok, ↓wR_err, ↓wR_bind, ↓wR_of, ↓wO_some, ↓wO_map, ↓wO_bind, ↓w_var0, ↓w_varS, ↓w_eC, ↓w_e1, ↓w_l1, ↓w_e2, ↓w_l2, ↓w_b1, ↓w_b2, ↓w_eB, ↓w_eF, ↓w_lF, ↓w_eCall, ↓w_eLst, ↓w_aNil, ↓w_aCons, ↓w_eTup, ↓w_lDisp, ↓w_eIf, ↓w_bAnd, ↓w_bOr, ↓w_bNot, ↓w_bYes, ↓w_bChain, ↓w_eAnd, ↓w_eOr, ↓w_iAny, ↓w_oNone, ↓w_oSomeC, ↓w_eSl, ↓w_lSlG, ↓w_lComp, ↓w_sSeq, ↓w_sNil, ↓w_sBreak, ↓w_sCont, ↓w_sSet, ↓w_sSetL, ↓w_sExpr, ↓w_sRet, ↓w_sRetN, ↓w_sIf, ↓w_own0, ↓w_ownS, ↓w_sRetO, ↓w_sApp, ↓w_sSetIx, ↓w_sFrz, ↓w_sThen, ↓w_sRaise, ↓w_sAsg, ↓w_sFor, ↓w_sTry, ↓t_name, ↓t_nil, ↓t_cons, ↓o_plus, ↓o_plusL, ↓o_lAdd, ↓o_sub, ↓o_neg, ↓o_mul, ↓o_fdiv, ↓o_mod, ↓o_pow, ↓o_lt, ↓o_le, ↓o_gt, ↓o_ge, ↓o_eq, ↓o_ne, ↓o_truthB, ↓o_truthI, ↓o_truthN, ↓o_truthL, ↓o_truthT, ↓o_truthS, ↓o_notB, ↓o_isNN, ↓o_isBT, ↓o_isBF, ↓o_isT, ↓o_isIB, ↓o_isSB, ↓o_isLB, ↓o_isTB, ↓o_isNB, ↓o_isNot, ↓o_lenL, ↓o_lenT, ↓o_lenS, ↓o_abs, ↓o_intI, ↓o_intB, ↓o_str, ↓o_gcd, ↓o_list, ↓o_listT, ↓o_tuple, ↓o_tupleT, ↓o_rev, ↓o_type, ↓o_isi, ↓o_isi2, ↓o_rg1, ↓o_rg2, ↓o_zip, ↓o_zipT, ↓o_itemsL, ↓o_itemsT, ↓o_ixL, ↓o_ixT, ↓o_at0, ↓o_at1, ↓o_at2, ↓o_at3, ↓o_at4, ↓o_at5, ↓o_at6, ↓o_at7, ↓o_at8, ↓o_at9, ↓o_at10, ↓o_at11, ↓o_at12, ↓o_at13, ↓o_at14, ↓o_at15, ↓w_eIxO, ↓t_tup1, ↓t_tup2, ↓t_tup3, ↓t_tup9, ↓w_okOnly, ↓w_compN, ↓w_compC, ↓o_all, ↓o_any, ↓bls_nil, ↓bls_cons, ↓o_minL, ↓o_maxL, ↓o_sumL, ↓ints_nil, ↓ints_cons, ↓o_min3, ↓o_max3, ↓o_slL, ↓o_slT, ↓w_eBor, ↓w_bBor, o_isN, w_runF, tyName, isSubTy, tyNames, List.getElem?_cons_zero, List.getElem?_cons_succ, List.set_cons_zero, List.set_cons_succ, List.map_cons, List.map_nil, List.replicate_succ, List.replicate_zero, List.length_cons, List.length_nil, List.cons_append, List.nil_append, Nat.reduceAdd, Nat.reduceSub, Nat.reduceLeDiff, Nat.reduceEqDiff, reduceIte, if_true, if_false, Bool.not_true, Bool.not_false, Bool.true_and, Bool.and_true, Bool.false_and, Bool.and_false, Bool.true_or, Bool.false_or, Bool.or_true, Bool.or_false, reduceCtorEq, decide_true, decide_false, beq_self_eq_true, List.mem_cons, true_or, or_true, true_and, and_true, false_and, and_false, or_false, false_or, String.reduceEq, String.reduceBEq, List.not_mem_nil, Bool.not_eq_true, Bool.false_eq_true, eq_self, not_true_eq_false, not_false_eq_true, Bool.not_eq_eq_eq_not, decide_eq_true_eq, decide_eq_false_iff_not, bne_iff_ne, ne_eq, Int.reduceLT, Int.reduceLE, Int.reduceMul, Int.reduceAdd, Int.reduceNeg, Int.reduceToNat, Int.reducePow, Nat.reduceLT, Int.reduceEq, Int.reduceSub, zipD, List.zipWith_cons_cons, List.zipWith_nil_left, List.zipWith_nil_right, List.all_cons, List.all_nil, id_eq, scalD, borE, wipeE, noOwn, sz_0, szl_0, sz_1, szl_1, sz_2, szl_2, sz_3, szl_3, sz_4, szl_4, sz_5, szl_5, sz_6, szl_6, sz_7, szl_7, sz_8, szl_8, sz_9, szl_9, sz_10, szl_10, sz_11, szl_11, sz_12, szl_12, sz_13, szl_13, sz_14, szl_14, sz_15, szl_15, sz_16, szl_16, sz_17, szl_17, sz_18, szl_18, sz_19, szl_19, sz_20, szl_20, sz_21, szl_21, sz_22, szl_22, sz_23, szl_23, sz_24, szl_24, sz_25, szl_25, sz_26, szl_26, sz_27, szl_27, sz_28, szl_28, sz_29, szl_29, sz_30, szl_30, sz_31, szl_31, sz_32, szl_32, frz, List.all_cons, List.all_nil]
    exact propext ⟨fun h => h.2.2, fun h => ⟨⟨sm_of (lt_up hx.1 (by decide)), sm_of (lt_up (dlt hy) (by decide))⟩, ⟨sm_of (lt_up (dlt hx) (by decide)), sm_of (lt_up hy.1 (by decide))⟩, h⟩⟩
  cases e : m_ratio [.int (x.num * y.den), .int (x.den * y.num)] with
  | ok d => exact wR_eq (by rw [key, e]; rfl)
  | err d => exact wR_errE (by rw [key, e]; rfl)
  | stuck =>
    by_cases h0 : x.den * y.num = 0
    · rw [h0, ratio_no] at e
      cases e
    · rw [ratio_ok _ _ h0 (lt_up (mul_lt (dlt hx) hy.1) (by decide))] at e
      cases e
theorem over_ok (x y : Rat) (hx : Bd x) (hy : Bd y) (h : y.num ≠ 0) : m_over [rq x, rq y] = .ok (rq (x * y⁻¹)) := by
  rw [over_wp x y hx hy, ratio_ok _ _ (Int.mul_ne_zero (den_ne x) h) (lt_up (mul_lt (dlt hx) hy.1) (by decide)), over_eq]
theorem over_no (x y : Rat) (hx : Bd x) (hy : Bd y) (h : y.num = 0) : m_over [rq x, rq y] = .err (.plain "BadNumber") := by
  rw [over_wp x y hx hy, h, Int.mul_zero, ratio_no]
def sgn (i : Int) : Int := if 0 < i then 1 else if i < 0 then -1 else 0
theorem sign_ok (x : Rat) : m_sign [rq x] = .ok (.int (sgn x.num)) := by
  apply wR_eq
  simp only [m_sign, g_sign, rq, ↓wR_ok, ↓wR_err, ↓wR_bind, ↓wR_of, ↓wO_some, ↓wO_map, ↓wO_bind, ↓w_var0, ↓w_varS, ↓w_eC, ↓w_e1, ↓w_l1, ↓w_e2, ↓w_l2, ↓w_b1, ↓w_b2, ↓w_eB, ↓w_eF, ↓w_lF, ↓w_eCall, ↓w_eLst, ↓w_aNil, ↓w_aCons, ↓w_eTup, ↓w_lDisp, ↓w_eIf, ↓w_bAnd, ↓w_bOr, ↓w_bNot, ↓w_bYes, ↓w_bChain, ↓w_eAnd, ↓w_eOr, ↓w_iAny, ↓w_oNone, ↓w_oSomeC, ↓w_eSl, ↓w_lSlG, ↓w_lComp, ↓w_sSeq, ↓w_sNil, ↓w_sBreak, ↓w_sCont, ↓w_sSet, ↓w_sSetL, ↓w_sExpr, ↓w_sRet, ↓w_sRetN, ↓w_sIf, ↓w_own0, ↓w_ownS, ↓w_sRetO, ↓w_sApp, ↓w_sSetIx, ↓w_sFrz, ↓w_sThen, ↓w_sRaise, ↓w_sAsg, ↓w_sFor, ↓w_sTry, ↓t_name, ↓t_nil, ↓t_cons, ↓o_plus, ↓o_plusL, ↓o_lAdd, ↓o_sub, ↓o_neg, ↓o_mul, ↓o_fdiv, ↓o_mod, ↓o_pow, ↓o_lt, ↓o_le, ↓o_gt, ↓o_ge, ↓o_eq, ↓o_ne, ↓o_truthB, ↓o_truthI, ↓o_truthN, ↓o_truthL, ↓o_truthT, ↓o_truthS, ↓o_notB, ↓o_isNN, ↓o_isBT, ↓o_isBF, ↓o_isT, ↓o_isIB, ↓o_isSB, ↓o_isLB, ↓o_isTB, ↓o_isNB, ↓o_isNot, ↓o_lenL, ↓o_lenT, ↓o_lenS, ↓o_abs, ↓o_intI, ↓o_intB, ↓o_str, ↓o_gcd, ↓o_list, ↓o_listT, ↓o_tuple, ↓o_tupleT, ↓o_rev, ↓o_type, ↓o_isi, ↓o_isi2, ↓o_rg1, ↓o_rg2, ↓o_zip, ↓o_zipT, ↓o_itemsL, ↓o_itemsT, ↓o_ixL, ↓o_ixT, ↓o_at0, ↓o_at1, ↓o_at2, ↓o_at3, ↓o_at4, ↓o_at5, ↓o_at6, ↓o_at7, ↓o_at8, ↓o_at9, ↓o_at10, ↓o_at11, ↓o_at12, ↓o_at13, ↓o_at14, ↓o_at15, ↓w_eIxO, ↓t_tup1, ↓t_tup2, ↓t_tup3, ↓t_tup9, ↓w_okOnly, ↓w_compN, ↓w_compC, ↓o_all, ↓o_any, ↓bls_nil, ↓bls_cons, ↓o_minL, ↓o_maxL, ↓o_sumL, ↓ints_nil, ↓ints_cons, ↓o_min3, ↓o_max3, ↓o_slL, ↓o_slT, ↓w_eBor, ↓w_bBor, o_isN, w_runF, tyName, isSubTy, tyNames, List.getElem?_cons_zero, List.getElem?_cons_succ, List.set_cons_zero, List.set_cons_succ, List.map_cons, List.map_nil, List.replicate_succ, List.replicate_zero, List.length_cons, List.length_nil, List.cons_append, List.nil_append, Nat.reduceAdd, Nat.reduceSub, Nat.reduceLeDiff, Nat.reduceEqDiff, reduceIte, if_true, if_false, Bool.not_true, Bool.not_false, Bool.true_and, Bool.and_true, Bool.false_and, Bool.and_false, Bool.true_or, Bool.false_or, Bool.or_true, Bool.or_false, reduceCtorEq, decide_true, decide_false, beq_self_eq_true, List.mem_cons, true_or, or_true, true_and, and_true, false_and, and_false, or_false, false_or, String.reduceEq, String.reduceBEq, List.not_mem_nil, Bool.not_eq_true, Bool.false_eq_true, eq_self, not_true_eq_false, not_false_eq_true, Bool.not_eq_eq_eq_not, decide_eq_true_eq, decide_eq_false_iff_not, bne_iff_ne, ne_eq, Int.reduceLT, Int.reduceLE, Int.reduceMul, Int.reduceAdd, Int.reduceNeg, Int.reduceToNat, Int.reducePow, Nat.reduceLT, Int.reduceEq, Int.reduceSub, zipD, List.zipWith_cons_cons, List.zipWith_nil_left, List.zipWith_nil_right, List.all_cons, List.all_nil, id_eq, scalD, borE, wipeE, noOwn, sz_0, szl_0, sz_1, szl_1, sz_2, szl_2, sz_3, szl_3, sz_4, szl_4, sz_5, szl_5, sz_6, szl_6, sz_7, szl_7, sz_8, szl_8, sz_9, szl_9, sz_10, szl_10, sz_11, szl_11, sz_12, szl_12, sz_13, szl_13, sz_14, szl_14, sz_15, szl_15, sz_16, szl_16, sz_17, szl_17, sz_18, szl_18, sz_19, szl_19, sz_20, szl_20, sz_21, szl_21, sz_22, szl_22, sz_23, szl_23, sz_24, szl_24, sz_25, szl_25, sz_26, szl_26, sz_27, szl_27, sz_28, szl_28, sz_29, szl_29, sz_30, szl_30, sz_31, szl_31, sz_32, szl_32, frz, List.all_cons, List.all_nil]
  unfold sgn
  by_cases h1 : 0 < x.num <;> by_cases h2 : x.num < 0 <;> simp [h1, h2] <;> omega
theorem compare_ok (x y : Rat) (hx : Bd x) (hy : Bd y) : m_compare [rq x, rq y] = .ok (.int (sgn (x - y).num)) := by
  apply wR_eq
  simp only [m_compare, g_compare, ↓wR_ok, ↓wR_err, ↓wR_bind, ↓wR_of, ↓wO_some, ↓wO_map, ↓wO_bind, ↓w_var0, ↓w_varS, ↓w_eC, ↓w_e1, ↓w_l1, ↓w_e2, ↓w_l2, ↓w_b1, ↓w_b2, ↓w_eB, ↓w_eF, ↓w_lF, ↓w_eCall, ↓w_eLst, ↓w_aNil, ↓w_aCons, ↓w_eTup, ↓w_lDisp, ↓w_eIf, ↓w_bAnd, ↓w_bOr, ↓w_bNot, ↓w_bYes, ↓w_bChain, ↓w_eAnd, ↓w_eOr, ↓w_iAny, ↓w_oNone, ↓w_oSomeC, ↓w_eSl, ↓w_lSlG, ↓w_lComp, ↓w_sSeq, ↓w_sNil, ↓w_sBreak, ↓w_sCont, ↓w_sSet, ↓w_sSetL, ↓w_sExpr, ↓w_sRet, ↓w_sRetN, ↓w_sIf, ↓w_own0, ↓w_ownS, ↓w_sRetO, ↓w_sApp, ↓w_sSetIx, ↓w_sFrz, ↓w_sThen, ↓w_sRaise, ↓w_sAsg, ↓w_sFor, ↓w_sTry, ↓t_name, ↓t_nil, ↓t_cons, ↓o_plus, ↓o_plusL, ↓o_lAdd, ↓o_sub, ↓o_neg, ↓o_mul, ↓o_fdiv, ↓o_mod, ↓o_pow, ↓o_lt, ↓o_le, ↓o_gt, ↓o_ge, ↓o_eq, ↓o_ne, ↓o_truthB, ↓o_truthI, ↓o_truthN, ↓o_truthL, ↓o_truthT, ↓o_truthS, ↓o_notB, ↓o_isNN, ↓o_isBT, ↓o_isBF, ↓o_isT, ↓o_isIB, ↓o_isSB, ↓o_isLB, ↓o_isTB, ↓o_isNB, ↓o_isNot, ↓o_lenL, ↓o_lenT, ↓o_lenS, ↓o_abs, ↓o_intI, ↓o_intB, ↓o_str, ↓o_gcd, ↓o_list, ↓o_listT, ↓o_tuple, ↓o_tupleT, ↓o_rev, ↓o_type, ↓o_isi, ↓o_isi2, ↓o_rg1, ↓o_rg2, ↓o_zip, ↓o_zipT, ↓o_itemsL, ↓o_itemsT, ↓o_ixL, ↓o_ixT, ↓o_at0, ↓o_at1, ↓o_at2, ↓o_at3, ↓o_at4, ↓o_at5, ↓o_at6, ↓o_at7, ↓o_at8, ↓o_at9, ↓o_at10, ↓o_at11, ↓o_at12, ↓o_at13, ↓o_at14, ↓o_at15, ↓w_eIxO, ↓t_tup1, ↓t_tup2, ↓t_tup3, ↓t_tup9, ↓w_okOnly, ↓w_compN, ↓w_compC, ↓o_all, ↓o_any, ↓bls_nil, ↓bls_cons, ↓o_minL, ↓o_maxL, ↓o_sumL, ↓ints_nil, ↓ints_cons, ↓o_min3, ↓o_max3, ↓o_slL, ↓o_slT, ↓w_eBor, ↓w_bBor, o_isN, w_runF, tyName, isSubTy, tyNames, List.getElem?_cons_zero, List.getElem?_cons_succ, List.set_cons_zero, List.set_cons_succ, List.map_cons, List.map_nil, List.replicate_succ, List.replicate_zero, List.length_cons, List.length_nil, List.cons_append, List.nil_append, Nat.reduceAdd, Nat.reduceSub, Nat.reduceLeDiff, Nat.reduceEqDiff, reduceIte, if_true, if_false, Bool.not_true, Bool.not_false, Bool.true_and, Bool.and_true, Bool.false_and, Bool.and_false, Bool.true_or, Bool.false_or, Bool.or_true, Bool.or_false, reduceCtorEq, decide_true, decide_false, beq_self_eq_true, List.mem_cons, true_or, or_true, true_and, and_true, false_and, and_false, or_false, false_or, String.reduceEq, String.reduceBEq, List.not_mem_nil, Bool.not_eq_true, Bool.false_eq_true, eq_self, not_true_eq_false, not_false_eq_true, Bool.not_eq_eq_eq_not, decide_eq_true_eq, decide_eq_false_iff_not, bne_iff_ne, ne_eq, Int.reduceLT, Int.reduceLE, Int.reduceMul, Int.reduceAdd, Int.reduceNeg, Int.reduceToNat, Int.reducePow, Nat.reduceLT, Int.reduceEq, Int.reduceSub, zipD, List.zipWith_cons_cons, List.zipWith_nil_left, List.zipWith_nil_right, List.all_cons, List.all_nil, id_eq, scalD, borE, wipeE, noOwn, sz_0, szl_0, sz_1, szl_1, sz_2, szl_2, sz_3, szl_3, sz_4, szl_4, sz_5, szl_5, sz_6, szl_6, sz_7, szl_7, sz_8, szl_8, sz_9, szl_9, sz_10, szl_10, sz_11, szl_11, sz_12, szl_12, sz_13, szl_13, sz_14, szl_14, sz_15, szl_15, sz_16, szl_16, sz_17, szl_17, sz_18, szl_18, sz_19, szl_19, sz_20, szl_20, sz_21, szl_21, sz_22, szl_22, sz_23, szl_23, sz_24, szl_24, sz_25, szl_25, sz_26, szl_26, sz_27, szl_27, sz_28, szl_28, sz_29, szl_29, sz_30, szl_30, sz_31, szl_31, sz_32, szl_32, frz, List.all_cons, List.all_nil]
  simp only [rq, ↓wR_ok, ↓wR_err, ↓wR_bind, ↓wR_of, ↓wO_some, ↓wO_map, ↓wO_bind, ↓w_var0, ↓w_varS, ↓w_eC, ↓w_e1, ↓w_l1, ↓w_e2, ↓w_l2, ↓w_b1, ↓w_b2, ↓w_eB, ↓w_eF, ↓w_lF, ↓w_eCall, ↓w_eLst, ↓w_aNil, ↓w_aCons, ↓w_eTup, ↓w_lDisp, ↓w_eIf, ↓w_bAnd, ↓w_bOr, ↓w_bNot, ↓w_bYes, ↓w_bChain, ↓w_eAnd, ↓w_eOr, ↓w_iAny, ↓w_oNone, ↓w_oSomeC, ↓w_eSl, ↓w_lSlG, ↓w_lComp, ↓w_sSeq, ↓w_sNil, ↓w_sBreak, ↓w_sCont, ↓w_sSet, ↓w_sSetL, ↓w_sExpr, ↓w_sRet, ↓w_sRetN, ↓w_sIf, ↓w_own0, ↓w_ownS, ↓w_sRetO, ↓w_sApp, ↓w_sSetIx, ↓w_sFrz, ↓w_sThen, ↓w_sRaise, ↓w_sAsg, ↓w_sFor, ↓w_sTry, ↓t_name, ↓t_nil, ↓t_cons, ↓o_plus, ↓o_plusL, ↓o_lAdd, ↓o_sub, ↓o_neg, ↓o_mul, ↓o_fdiv, ↓o_mod, ↓o_pow, ↓o_lt, ↓o_le, ↓o_gt, ↓o_ge, ↓o_eq, ↓o_ne, ↓o_truthB, ↓o_truthI, ↓o_truthN, ↓o_truthL, ↓o_truthT, ↓o_truthS, ↓o_notB, ↓o_isNN, ↓o_isBT, ↓o_isBF, ↓o_isT, ↓o_isIB, ↓o_isSB, ↓o_isLB, ↓o_isTB, ↓o_isNB, ↓o_isNot, ↓o_lenL, ↓o_lenT, ↓o_lenS, ↓o_abs, ↓o_intI, ↓o_intB, ↓o_str, ↓o_gcd, ↓o_list, ↓o_listT, ↓o_tuple, ↓o_tupleT, ↓o_rev, ↓o_type, ↓o_isi, ↓o_isi2, ↓o_rg1, ↓o_rg2, ↓o_zip, ↓o_zipT, ↓o_itemsL, ↓o_itemsT, ↓o_ixL, ↓o_ixT, ↓o_at0, ↓o_at1, ↓o_at2, ↓o_at3, ↓o_at4, ↓o_at5, ↓o_at6, ↓o_at7, ↓o_at8, ↓o_at9, ↓o_at10, ↓o_at11, ↓o_at12, ↓o_at13, ↓o_at14, ↓o_at15, ↓w_eIxO, ↓t_tup1, ↓t_tup2, ↓t_tup3, ↓t_tup9, ↓w_okOnly, ↓w_compN, ↓w_compC, ↓o_all, ↓o_any, ↓bls_nil, ↓bls_cons, ↓o_minL, ↓o_maxL, ↓o_sumL, ↓ints_nil, ↓ints_cons, ↓o_min3, ↓o_max3, ↓o_slL, ↓o_slT, ↓w_eBor, ↓w_bBor, o_isN, w_runF, tyName, isSubTy, tyNames, List.getElem?_cons_zero, List.getElem?_cons_succ, List.set_cons_zero, List.set_cons_succ, List.map_cons, List.map_nil, List.replicate_succ, List.replicate_zero, List.length_cons, List.length_nil, List.cons_append, List.nil_append, Nat.reduceAdd, Nat.reduceSub, Nat.reduceLeDiff, Nat.reduceEqDiff, reduceIte, if_true, if_false, Bool.not_true, Bool.not_false, Bool.true_and, Bool.and_true, Bool.false_and, Bool.and_false, Bool.true_or, Bool.false_or, Bool.or_true, Bool.or_false, reduceCtorEq, decide_true, decide_false, beq_self_eq_true, List.mem_cons, true_or, or_true, true_and, and_true, false_and, and_false, or_false, false_or, String.reduceEq, String.reduceBEq, List.not_mem_nil, Bool.not_eq_true, Bool.false_eq_true, eq_self, not_true_eq_false, not_false_eq_true, Bool.not_eq_eq_eq_not, decide_eq_true_eq, decide_eq_false_iff_not, bne_iff_ne, ne_eq, Int.reduceLT, Int.reduceLE, Int.reduceMul, Int.reduceAdd, Int.reduceNeg, Int.reduceToNat, Int.reducePow, Nat.reduceLT, Int.reduceEq, Int.reduceSub, zipD, List.zipWith_cons_cons, List.zipWith_nil_left, List.zipWith_nil_right, List.all_cons, List.all_nil, id_eq, scalD, borE, wipeE, noOwn, sz_0, szl_0, sz_1, szl_1, sz_2, szl_2, sz_3, szl_3, sz_4, szl_4, sz_5, szl_5, sz_6, szl_6, sz_7, szl_7, sz_8, szl_8, sz_9, szl_9, sz_10, szl_10, sz_11, szl_11, sz_12, szl_12, sz_13, szl_13, sz_14, szl_14, sz_15, szl_15, sz_16, szl_16, sz_17, szl_17, sz_18, szl_18, sz_19, szl_19, sz_20, szl_20, sz_21, szl_21, sz_22, szl_22, sz_23, szl_23, sz_24, szl_24, sz_25, szl_25, sz_26, szl_26, sz_27, szl_27, sz_28, szl_28, sz_29, szl_29, sz_30, szl_30, sz_31, szl_31, sz_32, szl_32, frz, List.all_cons, List.all_nil]
  show wpR (m_minus [rq x, rq y]) _ _
  rw [minus_ok x y hx hy, wR_ok, sign_ok]
  rfl
theorem floor_ok (x : Rat) (hx : Bd x) : m_floor_of [rq x] = .ok (.int (x.num.fdiv x.den)) := by
  apply wR_eq
  simp only [m_floor_of, g_floor_of, rq, ↓wR_ok, ↓wR_err, ↓wR_bind, ↓wR_of, ↓wO_some, ↓wO_map, ↓wO_bind, ↓w_var0, ↓w_varS, ↓w_eC, ↓w_e1, ↓w_l1, ↓w_e2, ↓w_l2, ↓w_b1, ↓w_b2, ↓w_eB, ↓w_eF, ↓w_lF, ↓w_eCall, ↓w_eLst, ↓w_aNil, ↓w_aCons, ↓w_eTup, ↓w_lDisp, ↓w_eIf, ↓w_bAnd, ↓w_bOr, ↓w_bNot, ↓w_bYes, ↓w_bChain, ↓w_eAnd, ↓w_eOr, ↓w_iAny, ↓w_oNone, ↓w_oSomeC, ↓w_eSl, ↓w_lSlG, ↓w_lComp, ↓w_sSeq, ↓w_sNil, ↓w_sBreak, ↓w_sCont, ↓w_sSet, ↓w_sSetL, ↓w_sExpr, ↓w_sRet, ↓w_sRetN, ↓w_sIf, ↓w_own0, ↓w_ownS, ↓w_sRetO, ↓w_sApp, ↓w_sSetIx, ↓w_sFrz, ↓w_sThen, ↓w_sRaise, ↓w_sAsg, ↓w_sFor, ↓w_sTry, ↓t_name, ↓t_nil, ↓t_cons, ↓o_plus, ↓o_plusL, ↓o_lAdd, ↓o_sub, ↓o_neg, ↓o_mul, ↓o_fdiv, ↓o_mod, ↓o_pow, ↓o_lt, ↓o_le, ↓o_gt, ↓o_ge, ↓o_eq, ↓o_ne, ↓o_truthB, ↓o_truthI, ↓o_truthN, ↓o_truthL, ↓o_truthT, ↓o_truthS, ↓o_notB, ↓o_isNN, ↓o_isBT, ↓o_isBF, ↓o_isT, ↓o_isIB, ↓o_isSB, ↓o_isLB, ↓o_isTB, ↓o_isNB, ↓o_isNot, ↓o_lenL, ↓o_lenT, ↓o_lenS, ↓o_abs, ↓o_intI, ↓o_intB, ↓o_str, ↓o_gcd, ↓o_list, ↓o_listT, ↓o_tuple, ↓o_tupleT, ↓o_rev, ↓o_type, ↓o_isi, ↓o_isi2, ↓o_rg1, ↓o_rg2, ↓o_zip, ↓o_zipT, ↓o_itemsL, ↓o_itemsT, ↓o_ixL, ↓o_ixT, ↓o_at0, ↓o_at1, ↓o_at2, ↓o_at3, ↓o_at4, ↓o_at5, ↓o_at6, ↓o_at7, ↓o_at8, ↓o_at9, ↓o_at10, ↓o_at11, ↓o_at12, ↓o_at13, ↓o_at14, ↓o_at15, ↓w_eIxO, ↓t_tup1, ↓t_tup2, ↓t_tup3, ↓t_tup9, ↓w_okOnly, ↓w_compN, ↓w_compC, ↓o_all, ↓o_any, ↓bls_nil, ↓bls_cons, ↓o_minL, ↓o_maxL, ↓o_sumL, ↓ints_nil, ↓ints_cons, ↓o_min3, ↓o_max3, ↓o_slL, ↓o_slT, ↓w_eBor, ↓w_bBor, o_isN, w_runF, tyName, isSubTy, tyNames, List.getElem?_cons_zero, List.getElem?_cons_succ, List.set_cons_zero, List.set_cons_succ, List.map_cons, List.map_nil, List.replicate_succ, List.replicate_zero, List.length_cons, List.length_nil, List.cons_append, List.nil_append, Nat.reduceAdd, Nat.reduceSub, Nat.reduceLeDiff, Nat.reduceEqDiff, reduceIte, if_true, if_false, Bool.not_true, Bool.not_false, Bool.true_and, Bool.and_true, Bool.false_and, Bool.and_false, Bool.true_or, Bool.false_or, Bool.or_true, Bool.or_false, reduceCtorEq, decide_true, decide_false, beq_self_eq_true, List.mem_cons, true_or, or_true, true_and, and_true, false_and, and_false, or_false, false_or, String.reduceEq, String.reduceBEq, List.not_mem_nil, Bool.not_eq_true, Bool.false_eq_true, eq_self, not_true_eq_false, not_false_eq_true, Bool.not_eq_eq_eq_not, decide_eq_true_eq, decide_eq_false_iff_not, bne_iff_ne, ne_eq, Int.reduceLT, Int.reduceLE, Int.reduceMul, Int.reduceAdd, Int.reduceNeg, Int.reduceToNat, Int.reducePow, Nat.reduceLT, Int.reduceEq, Int.reduceSub, zipD, List.zipWith_cons_cons, List.zipWith_nil_left, List.zipWith_nil_right, List.all_cons, List.all_nil, id_eq, scalD, borE, wipeE, noOwn, sz_0, szl_0, sz_1, szl_1, sz_2, szl_2, sz_3, szl_3, sz_4, szl_4, sz_5, szl_5, sz_6, szl_6, sz_7, szl_7, sz_8, szl_8, sz_9, szl_9, sz_10, szl_10, sz_11, szl_11, sz_12, szl_12, sz_13, szl_13, sz_14, szl_14, sz_15, szl_15, sz_16, szl_16, sz_17, szl_17, sz_18, szl_18, sz_19, szl_19, sz_20, szl_20, sz_21, szl_21, sz_22, szl_22, sz_23, szl_23, sz_24, szl_24, sz_25, szl_25, sz_26, szl_26, sz_27, szl_27, sz_28, szl_28, sz_29, szl_29, sz_30, szl_30, sz_31, szl_31, sz_32, szl_32, frz, List.all_cons, List.all_nil]
  exact s9_of (den_ne x) (lt_up (dlt hx) (by decide))
theorem rq0 : c_NOUGHT = rq 0 := rfl
theorem total_ok (xs : List Rat) (hx : ∀ x ∈ xs, Bd x) (hs : ∀ k, Bd (xs.take k).sum) : m_total [.lst (xs.map rq)] = .ok (rq xs.sum) := by
  apply wR_eq
  simp only [m_total, g_total, ↓wR_ok, ↓wR_err, ↓wR_bind, ↓wR_of, ↓wO_some, ↓wO_map, ↓wO_bind, ↓w_var0, ↓w_varS, ↓w_eC, ↓w_e1, ↓w_l1, ↓w_e2, ↓w_l2, ↓w_b1, ↓w_b2, ↓w_eB, ↓w_eF, ↓w_lF, ↓w_eCall, ↓w_eLst, ↓w_aNil, ↓w_aCons, ↓w_eTup, ↓w_lDisp, ↓w_eIf, ↓w_bAnd, ↓w_bOr, ↓w_bNot, ↓w_bYes, ↓w_bChain, ↓w_eAnd, ↓w_eOr, ↓w_iAny, ↓w_oNone, ↓w_oSomeC, ↓w_eSl, ↓w_lSlG, ↓w_lComp, ↓w_sSeq, ↓w_sNil, ↓w_sBreak, ↓w_sCont, ↓w_sSet, ↓w_sSetL, ↓w_sExpr, ↓w_sRet, ↓w_sRetN, ↓w_sIf, ↓w_own0, ↓w_ownS, ↓w_sRetO, ↓w_sApp, ↓w_sSetIx, ↓w_sFrz, ↓w_sThen, ↓w_sRaise, ↓w_sAsg, ↓w_sFor, ↓w_sTry, ↓t_name, ↓t_nil, ↓t_cons, ↓o_plus, ↓o_plusL, ↓o_lAdd, ↓o_sub, ↓o_neg, ↓o_mul, ↓o_fdiv, ↓o_mod, ↓o_pow, ↓o_lt, ↓o_le, ↓o_gt, ↓o_ge, ↓o_eq, ↓o_ne, ↓o_truthB, ↓o_truthI, ↓o_truthN, ↓o_truthL, ↓o_truthT, ↓o_truthS, ↓o_notB, ↓o_isNN, ↓o_isBT, ↓o_isBF, ↓o_isT, ↓o_isIB, ↓o_isSB, ↓o_isLB, ↓o_isTB, ↓o_isNB, ↓o_isNot, ↓o_lenL, ↓o_lenT, ↓o_lenS, ↓o_abs, ↓o_intI, ↓o_intB, ↓o_str, ↓o_gcd, ↓o_list, ↓o_listT, ↓o_tuple, ↓o_tupleT, ↓o_rev, ↓o_type, ↓o_isi, ↓o_isi2, ↓o_rg1, ↓o_rg2, ↓o_zip, ↓o_zipT, ↓o_itemsL, ↓o_itemsT, ↓o_ixL, ↓o_ixT, ↓o_at0, ↓o_at1, ↓o_at2, ↓o_at3, ↓o_at4, ↓o_at5, ↓o_at6, ↓o_at7, ↓o_at8, ↓o_at9, ↓o_at10, ↓o_at11, ↓o_at12, ↓o_at13, ↓o_at14, ↓o_at15, ↓w_eIxO, ↓t_tup1, ↓t_tup2, ↓t_tup3, ↓t_tup9, ↓w_okOnly, ↓w_compN, ↓w_compC, ↓o_all, ↓o_any, ↓bls_nil, ↓bls_cons, ↓o_minL, ↓o_maxL, ↓o_sumL, ↓ints_nil, ↓ints_cons, ↓o_min3, ↓o_max3, ↓o_slL, ↓o_slT, ↓w_eBor, ↓w_bBor, o_isN, w_runF, tyName, isSubTy, tyNames, List.getElem?_cons_zero, List.getElem?_cons_succ, List.set_cons_zero, List.set_cons_succ, List.map_cons, List.map_nil, List.replicate_succ, List.replicate_zero, List.length_cons, List.length_nil, List.cons_append, List.nil_append, Nat.reduceAdd, Nat.reduceSub, Nat.reduceLeDiff, Nat.reduceEqDiff, reduceIte, if_true, if_false, Bool.not_true, Bool.not_false, Bool.true_and, Bool.and_true, Bool.false_and, Bool.and_false, Bool.true_or, Bool.false_or, Bool.or_true, Bool.or_false, reduceCtorEq, decide_true, decide_false, beq_self_eq_true, List.mem_cons, true_or, or_true, true_and, and_true, false_and, and_false, or_false, false_or, String.reduceEq, String.reduceBEq, List.not_mem_nil, Bool.not_eq_true, Bool.false_eq_true, eq_self, not_true_eq_false, not_false_eq_true, Bool.not_eq_eq_eq_not, decide_eq_true_eq, decide_eq_false_iff_not, bne_iff_ne, ne_eq, Int.reduceLT, Int.reduceLE, Int.reduceMul, Int.reduceAdd, Int.reduceNeg, Int.reduceToNat, Int.reducePow, Nat.reduceLT, Int.reduceEq, Int.reduceSub, zipD, List.zipWith_cons_cons, List.zipWith_nil_left, List.zipWith_nil_right, List.all_cons, List.all_nil, id_eq, scalD, borE, wipeE, noOwn, sz_0, szl_0, sz_1, szl_1, sz_2, szl_2, sz_3, szl_3, sz_4, szl_4, sz_5, szl_5, sz_6, szl_6, sz_7, szl_7, sz_8, szl_8, sz_9, szl_9, sz_10, szl_10, sz_11, szl_11, sz_12, szl_12, sz_13, szl_13, sz_14, szl_14, sz_15, szl_15, sz_16, szl_16, sz_17, szl_17, sz_18, szl_18, sz_19, szl_19, sz_20, szl_20, sz_21, szl_21, sz_22, szl_22, sz_23, szl_23, sz_24, szl_24, sz_25, szl_25, sz_26, szl_26, sz_27, szl_27, sz_28, szl_28, sz_29, szl_29, sz_30, szl_30, sz_31, szl_31, sz_32, szl_32, frz, List.all_cons, List.all_nil]
  refine w_forI (fun i e => ∃ s, e = [.val (.lst (xs.map rq)), .val (rq (xs.take i).sum), s]) ⟨.unk, rfl⟩ ?_ ?_
  · rintro i d env hd ⟨s, rfl⟩
    rw [List.getElem?_map] at hd
    cases hi : xs[i]? with
    | none => rw [hi] at hd; cases hd
    | some x =>
      rw [hi] at hd
      cases hd
      rw [t_name]
      simp only [b_total_1, ↓wR_ok, ↓wR_err, ↓wR_bind, ↓wR_of, ↓wO_some, ↓wO_map, ↓wO_bind, ↓w_var0, ↓w_varS, ↓w_eC, ↓w_e1, ↓w_l1, ↓w_e2, ↓w_l2, ↓w_b1, ↓w_b2, ↓w_eB, ↓w_eF, ↓w_lF, ↓w_eCall, ↓w_eLst, ↓w_aNil, ↓w_aCons, ↓w_eTup, ↓w_lDisp, ↓w_eIf, ↓w_bAnd, ↓w_bOr, ↓w_bNot, ↓w_bYes, ↓w_bChain, ↓w_eAnd, ↓w_eOr, ↓w_iAny, ↓w_oNone, ↓w_oSomeC, ↓w_eSl, ↓w_lSlG, ↓w_lComp, ↓w_sSeq, ↓w_sNil, ↓w_sBreak, ↓w_sCont, ↓w_sSet, ↓w_sSetL, ↓w_sExpr, ↓w_sRet, ↓w_sRetN, ↓w_sIf, ↓w_own0, ↓w_ownS, ↓w_sRetO, ↓w_sApp, ↓w_sSetIx, ↓w_sFrz, ↓w_sThen, ↓w_sRaise, ↓w_sAsg, ↓w_sFor, ↓w_sTry, ↓t_name, ↓t_nil, ↓t_cons, ↓o_plus, ↓o_plusL, ↓o_lAdd, ↓o_sub, ↓o_neg, ↓o_mul, ↓o_fdiv, ↓o_mod, ↓o_pow, ↓o_lt, ↓o_le, ↓o_gt, ↓o_ge, ↓o_eq, ↓o_ne, ↓o_truthB, ↓o_truthI, ↓o_truthN, ↓o_truthL, ↓o_truthT, ↓o_truthS, ↓o_notB, ↓o_isNN, ↓o_isBT, ↓o_isBF, ↓o_isT, ↓o_isIB, ↓o_isSB, ↓o_isLB, ↓o_isTB, ↓o_isNB, ↓o_isNot, ↓o_lenL, ↓o_lenT, ↓o_lenS, ↓o_abs, ↓o_intI, ↓o_intB, ↓o_str, ↓o_gcd, ↓o_list, ↓o_listT, ↓o_tuple, ↓o_tupleT, ↓o_rev, ↓o_type, ↓o_isi, ↓o_isi2, ↓o_rg1, ↓o_rg2, ↓o_zip, ↓o_zipT, ↓o_itemsL, ↓o_itemsT, ↓o_ixL, ↓o_ixT, ↓o_at0, ↓o_at1, ↓o_at2, ↓o_at3, ↓o_at4, ↓o_at5, ↓o_at6, ↓o_at7, ↓o_at8, ↓o_at9, ↓o_at10, ↓o_at11, ↓o_at12, ↓o_at13, ↓o_at14, ↓o_at15, ↓w_eIxO, ↓t_tup1, ↓t_tup2, ↓t_tup3, ↓t_tup9, ↓w_okOnly, ↓w_compN, ↓w_compC, ↓o_all, ↓o_any, ↓bls_nil, ↓bls_cons, ↓o_minL, ↓o_maxL, ↓o_sumL, ↓ints_nil, ↓ints_cons, ↓o_min3, ↓o_max3, ↓o_slL, ↓o_slT, ↓w_eBor, ↓w_bBor, o_isN, w_runF, tyName, isSubTy, tyNames, List.getElem?_cons_zero, List.getElem?_cons_succ, List.set_cons_zero, List.set_cons_succ, List.map_cons, List.map_nil, List.replicate_succ, List.replicate_zero, List.length_cons, List.length_nil, List.cons_append, List.nil_append, Nat.reduceAdd, Nat.reduceSub, Nat.reduceLeDiff, Nat.reduceEqDiff, reduceIte, if_true, if_false, Bool.not_true, Bool.not_false, Bool.true_and, Bool.and_true, Bool.false_and, Bool.and_false, Bool.true_or, Bool.false_or, Bool.or_true, Bool.or_false, reduceCtorEq, decide_true, decide_false, beq_self_eq_true, List.mem_cons, true_or, or_true, true_and, and_true, false_and, and_false, or_false, false_or, String.reduceEq, String.reduceBEq, List.not_mem_nil, Bool.not_eq_true, Bool.false_eq_true, eq_self, not_true_eq_false, not_false_eq_true, Bool.not_eq_eq_eq_not, decide_eq_true_eq, decide_eq_false_iff_not, bne_iff_ne, ne_eq, Int.reduceLT, Int.reduceLE, Int.reduceMul, Int.reduceAdd, Int.reduceNeg, Int.reduceToNat, Int.reducePow, Nat.reduceLT, Int.reduceEq, Int.reduceSub, zipD, List.zipWith_cons_cons, List.zipWith_nil_left, List.zipWith_nil_right, List.all_cons, List.all_nil, id_eq, scalD, borE, wipeE, noOwn, sz_0, szl_0, sz_1, szl_1, sz_2, szl_2, sz_3, szl_3, sz_4, szl_4, sz_5, szl_5, sz_6, szl_6, sz_7, szl_7, sz_8, szl_8, sz_9, szl_9, sz_10, szl_10, sz_11, szl_11, sz_12, szl_12, sz_13, szl_13, sz_14, szl_14, sz_15, szl_15, sz_16, szl_16, sz_17, szl_17, sz_18, szl_18, sz_19, szl_19, sz_20, szl_20, sz_21, szl_21, sz_22, szl_22, sz_23, szl_23, sz_24, szl_24, sz_25, szl_25, sz_26, szl_26, sz_27, szl_27, sz_28, szl_28, sz_29, szl_29, sz_30, szl_30, sz_31, szl_31, sz_32, szl_32, frz, List.all_cons, List.all_nil]
      rw [plus_ok _ _ (hs i) (hx x (List.mem_of_getElem? hi))]
      refine ⟨.val (rq x), ?_⟩
      have : (xs.take (i + 1)).sum = (xs.take i).sum + x := by
        rw [List.take_add_one, hi, Option.toList_some, List.sum_append]
        show _ + (x + 0) = _
        rw [Rat.add_zero]
      rw [this]
  · rintro env ⟨s, rfl⟩
    simp only [r_total_2, ↓wR_ok, ↓wR_err, ↓wR_bind, ↓wR_of, ↓wO_some, ↓wO_map, ↓wO_bind, ↓w_var0, ↓w_varS, ↓w_eC, ↓w_e1, ↓w_l1, ↓w_e2, ↓w_l2, ↓w_b1, ↓w_b2, ↓w_eB, ↓w_eF, ↓w_lF, ↓w_eCall, ↓w_eLst, ↓w_aNil, ↓w_aCons, ↓w_eTup, ↓w_lDisp, ↓w_eIf, ↓w_bAnd, ↓w_bOr, ↓w_bNot, ↓w_bYes, ↓w_bChain, ↓w_eAnd, ↓w_eOr, ↓w_iAny, ↓w_oNone, ↓w_oSomeC, ↓w_eSl, ↓w_lSlG, ↓w_lComp, ↓w_sSeq, ↓w_sNil, ↓w_sBreak, ↓w_sCont, ↓w_sSet, ↓w_sSetL, ↓w_sExpr, ↓w_sRet, ↓w_sRetN, ↓w_sIf, ↓w_own0, ↓w_ownS, ↓w_sRetO, ↓w_sApp, ↓w_sSetIx, ↓w_sFrz, ↓w_sThen, ↓w_sRaise, ↓w_sAsg, ↓w_sFor, ↓w_sTry, ↓t_name, ↓t_nil, ↓t_cons, ↓o_plus, ↓o_plusL, ↓o_lAdd, ↓o_sub, ↓o_neg, ↓o_mul, ↓o_fdiv, ↓o_mod, ↓o_pow, ↓o_lt, ↓o_le, ↓o_gt, ↓o_ge, ↓o_eq, ↓o_ne, ↓o_truthB, ↓o_truthI, ↓o_truthN, ↓o_truthL, ↓o_truthT, ↓o_truthS, ↓o_notB, ↓o_isNN, ↓o_isBT, ↓o_isBF, ↓o_isT, ↓o_isIB, ↓o_isSB, ↓o_isLB, ↓o_isTB, ↓o_isNB, ↓o_isNot, ↓o_lenL, ↓o_lenT, ↓o_lenS, ↓o_abs, ↓o_intI, ↓o_intB, ↓o_str, ↓o_gcd, ↓o_list, ↓o_listT, ↓o_tuple, ↓o_tupleT, ↓o_rev, ↓o_type, ↓o_isi, ↓o_isi2, ↓o_rg1, ↓o_rg2, ↓o_zip, ↓o_zipT, ↓o_itemsL, ↓o_itemsT, ↓o_ixL, ↓o_ixT, ↓o_at0, ↓o_at1, ↓o_at2, ↓o_at3, ↓o_at4, ↓o_at5, ↓o_at6, ↓o_at7, ↓o_at8, ↓o_at9, ↓o_at10, ↓o_at11, ↓o_at12, ↓o_at13, ↓o_at14, ↓o_at15, ↓w_eIxO, ↓t_tup1, ↓t_tup2, ↓t_tup3, ↓t_tup9, ↓w_okOnly, ↓w_compN, ↓w_compC, ↓o_all, ↓o_any, ↓bls_nil, ↓bls_cons, ↓o_minL, ↓o_maxL, ↓o_sumL, ↓ints_nil, ↓ints_cons, ↓o_min3, ↓o_max3, ↓o_slL, ↓o_slT, ↓w_eBor, ↓w_bBor, o_isN, w_runF, tyName, isSubTy, tyNames, List.getElem?_cons_zero, List.getElem?_cons_succ, List.set_cons_zero, List.set_cons_succ, List.map_cons, List.map_nil, List.replicate_succ, List.replicate_zero, List.length_cons, List.length_nil, List.cons_append, List.nil_append, Nat.reduceAdd, Nat.reduceSub, Nat.reduceLeDiff, Nat.reduceEqDiff, reduceIte, if_true, if_false, Bool.not_true, Bool.not_false, Bool.true_and, Bool.and_true, Bool.false_and, Bool.and_false, Bool.true_or, Bool.false_or, Bool.or_true, Bool.or_false, reduceCtorEq, decide_true, decide_false, beq_self_eq_true, List.mem_cons, true_or, or_true, true_and, and_true, false_and, and_false, or_false, false_or, String.reduceEq, String.reduceBEq, List.not_mem_nil, Bool.not_eq_true, Bool.false_eq_true, eq_self, not_true_eq_false, not_false_eq_true, Bool.not_eq_eq_eq_not, decide_eq_true_eq, decide_eq_false_iff_not, bne_iff_ne, ne_eq, Int.reduceLT, Int.reduceLE, Int.reduceMul, Int.reduceAdd, Int.reduceNeg, Int.reduceToNat, Int.reducePow, Nat.reduceLT, Int.reduceEq, Int.reduceSub, zipD, List.zipWith_cons_cons, List.zipWith_nil_left, List.zipWith_nil_right, List.all_cons, List.all_nil, id_eq, scalD, borE, wipeE, noOwn, sz_0, szl_0, sz_1, szl_1, sz_2, szl_2, sz_3, szl_3, sz_4, szl_4, sz_5, szl_5, sz_6, szl_6, sz_7, szl_7, sz_8, szl_8, sz_9, szl_9, sz_10, szl_10, sz_11, szl_11, sz_12, szl_12, sz_13, szl_13, sz_14, szl_14, sz_15, szl_15, sz_16, szl_16, sz_17, szl_17, sz_18, szl_18, sz_19, szl_19, sz_20, szl_20, sz_21, szl_21, sz_22, szl_22, sz_23, szl_23, sz_24, szl_24, sz_25, szl_25, sz_26, szl_26, sz_27, szl_27, sz_28, szl_28, sz_29, szl_29, sz_30, szl_30, sz_31, szl_31, sz_32, szl_32, frz, List.all_cons, List.all_nil]
    rw [List.length_map, List.take_length]
/-! ### the law's own divisor -/
theorem divisor_step {x y : Nat} {i : Nat} {R : D → Prop} {ES : Er → En → Prop} {N B C : En → Prop} {s2 s3 : Sl}
    (h0 : y = 0 → B [.val (.int x), .val (.int y), s2, s3]) (h1 : y ≠ 0 → N [.val (.int y), .val (.int (x % y : Nat)), s2, .val (.int (x % y : Nat))]) :
    wpS (b__law_divisor_1 [.val (.int x), .val (.int y), s2, s3]) N R ES B C := by
  simp only [b__law_divisor_1, ↓wR_ok, ↓wR_err, ↓wR_bind, ↓wR_of, ↓wO_some, ↓wO_map, ↓wO_bind, ↓w_var0, ↓w_varS, ↓w_eC, ↓w_e1, ↓w_l1, ↓w_e2, ↓w_l2, ↓w_b1, ↓w_b2, ↓w_eB, ↓w_eF, ↓w_lF, ↓w_eCall, ↓w_eLst, ↓w_aNil, ↓w_aCons, ↓w_eTup, ↓w_lDisp, ↓w_eIf, ↓w_bAnd, ↓w_bOr, ↓w_bNot, ↓w_bYes, ↓w_bChain, ↓w_eAnd, ↓w_eOr, ↓w_iAny, ↓w_oNone, ↓w_oSomeC, ↓w_eSl, ↓w_lSlG, ↓w_lComp, ↓w_sSeq, ↓w_sNil, ↓w_sBreak, ↓w_sCont, ↓w_sSet, ↓w_sSetL, ↓w_sExpr, ↓w_sRet, ↓w_sRetN, ↓w_sIf, ↓w_own0, ↓w_ownS, ↓w_sRetO, ↓w_sApp, ↓w_sSetIx, ↓w_sFrz, ↓w_sThen, ↓w_sRaise, ↓w_sAsg, ↓w_sFor, ↓w_sTry, ↓t_name, ↓t_nil, ↓t_cons, ↓o_plus, ↓o_plusL, ↓o_lAdd, ↓o_sub, ↓o_neg, ↓o_mul, ↓o_fdiv, ↓o_mod, ↓o_pow, ↓o_lt, ↓o_le, ↓o_gt, ↓o_ge, ↓o_eq, ↓o_ne, ↓o_truthB, ↓o_truthI, ↓o_truthN, ↓o_truthL, ↓o_truthT, ↓o_truthS, ↓o_notB, ↓o_isNN, ↓o_isBT, ↓o_isBF, ↓o_isT, ↓o_isIB, ↓o_isSB, ↓o_isLB, ↓o_isTB, ↓o_isNB, ↓o_isNot, ↓o_lenL, ↓o_lenT, ↓o_lenS, ↓o_abs, ↓o_intI, ↓o_intB, ↓o_str, ↓o_gcd, ↓o_list, ↓o_listT, ↓o_tuple, ↓o_tupleT, ↓o_rev, ↓o_type, ↓o_isi, ↓o_isi2, ↓o_rg1, ↓o_rg2, ↓o_zip, ↓o_zipT, ↓o_itemsL, ↓o_itemsT, ↓o_ixL, ↓o_ixT, ↓o_at0, ↓o_at1, ↓o_at2, ↓o_at3, ↓o_at4, ↓o_at5, ↓o_at6, ↓o_at7, ↓o_at8, ↓o_at9, ↓o_at10, ↓o_at11, ↓o_at12, ↓o_at13, ↓o_at14, ↓o_at15, ↓w_eIxO, ↓t_tup1, ↓t_tup2, ↓t_tup3, ↓t_tup9, ↓w_okOnly, ↓w_compN, ↓w_compC, ↓o_all, ↓o_any, ↓bls_nil, ↓bls_cons, ↓o_minL, ↓o_maxL, ↓o_sumL, ↓ints_nil, ↓ints_cons, ↓o_min3, ↓o_max3, ↓o_slL, ↓o_slT, ↓w_eBor, ↓w_bBor, o_isN, w_runF, tyName, isSubTy, tyNames, List.getElem?_cons_zero, List.getElem?_cons_succ, List.set_cons_zero, List.set_cons_succ, List.map_cons, List.map_nil, List.replicate_succ, List.replicate_zero, List.length_cons, List.length_nil, List.cons_append, List.nil_append, Nat.reduceAdd, Nat.reduceSub, Nat.reduceLeDiff, Nat.reduceEqDiff, reduceIte, if_true, if_false, Bool.not_true, Bool.not_false, Bool.true_and, Bool.and_true, Bool.false_and, Bool.and_false, Bool.true_or, Bool.false_or, Bool.or_true, Bool.or_false, reduceCtorEq, decide_true, decide_false, beq_self_eq_true, List.mem_cons, true_or, or_true, true_and, and_true, false_and, and_false, or_false, false_or, String.reduceEq, String.reduceBEq, List.not_mem_nil, Bool.not_eq_true, Bool.false_eq_true, eq_self, not_true_eq_false, not_false_eq_true, Bool.not_eq_eq_eq_not, decide_eq_true_eq, decide_eq_false_iff_not, bne_iff_ne, ne_eq, Int.reduceLT, Int.reduceLE, Int.reduceMul, Int.reduceAdd, Int.reduceNeg, Int.reduceToNat, Int.reducePow, Nat.reduceLT, Int.reduceEq, Int.reduceSub, zipD, List.zipWith_cons_cons, List.zipWith_nil_left, List.zipWith_nil_right, List.all_cons, List.all_nil, id_eq, scalD, borE, wipeE, noOwn, sz_0, szl_0, sz_1, szl_1, sz_2, szl_2, sz_3, szl_3, sz_4, szl_4, sz_5, szl_5, sz_6, szl_6, sz_7, szl_7, sz_8, szl_8, sz_9, szl_9, sz_10, szl_10, sz_11, szl_11, sz_12, szl_12, sz_13, szl_13, sz_14, szl_14, sz_15, szl_15, sz_16, szl_16, sz_17, szl_17, sz_18, szl_18, sz_19, szl_19, sz_20, szl_20, sz_21, szl_21, sz_22, szl_22, sz_23, szl_23, sz_24, szl_24, sz_25, szl_25, sz_26, szl_26, sz_27, szl_27, sz_28, szl_28, sz_29, szl_29, sz_30, szl_30, sz_31, szl_31, sz_32, szl_32, frz, List.all_cons, List.all_nil]
  split
  · exact h0 (by omega)
  · rename_i h
    have e : (x : Int).fmod (y : Int) = ((x % y : Nat) : Int) := by rw [Int.fmod_eq_emod_of_nonneg _ (by omega)]; rfl
    refine ⟨h, ?_⟩
    rw [e]
    exact h1 (by omega)
theorem mod_half {x y n : Nat} (hy : y ≠ 0) (hxy : y ≤ x) (h : x * y < 2 ^ (n + 1)) : y * (x % y) < 2 ^ n := by
  have h1 : x % y < y := Nat.mod_lt _ (by omega)
  have h2 : x % y + y ≤ x := by
    have := Nat.div_add_mod x y
    have hd : 1 ≤ x / y := Nat.div_pos hxy (by omega)
    have : y * 1 ≤ y * (x / y) := Nat.mul_le_mul_left _ hd
    omega
  have h3 : 2 * (y * (x % y)) ≤ x * y := by
    rw [Nat.mul_left_comm, Nat.mul_comm x y]
    exact Nat.mul_le_mul_left _ (by omega)
  rw [Nat.pow_succ] at h
  omega
theorem divisor_loop (n : Nat) (a b : Nat) (hab : a * b < 2 ^ n) {s2 s3 : Sl} {R : D → Prop} {ES : Er → En → Prop} {N B C : En → Prop}
    (hN : ∀ s2 s3, N [.val (.int (Nat.gcd a b)), .val (.int 0), s2, s3]) :
    wpS (forL (tName 2) b__law_divisor_1 (rangeD 0 (n + 2)) [.val (.int a), .val (.int b), s2, s3]) N R ES B C := by
  refine w_forI (fun i e => ∃ (x y : Nat) (s2 s3 : Sl), Nat.gcd x y = Nat.gcd a b ∧ (i ≠ 0 → y ≤ x) ∧ x * y < 2 ^ (n - (i - 1)) ∧ e = [.val (.int x), .val (.int y), s2, s3]) ⟨a, b, s2, s3, rfl, fun h => absurd rfl h, hab, rfl⟩ ?_ ?_
  · rintro i d env hd ⟨x, y, s2, s3, h1, h2, h3, rfl⟩
    obtain ⟨rfl, hi⟩ := rangeD_get hd
    rw [t_name]
    simp only [List.set_cons_succ, List.set_cons_zero]
    refine divisor_step (i := i) (fun h => ?_) fun h => ?_
    · subst h
      rw [Nat.gcd_zero_right] at h1
      subst h1
      exact hN _ _
    · refine ⟨y, x % y, _, _, ?_, fun _ => Nat.le_of_lt (Nat.mod_lt _ (by omega)), ?_, rfl⟩
      · rw [← h1, Nat.gcd_comm x y, Nat.gcd_rec y x, Nat.gcd_comm]
      · by_cases hi0 : i = 0
        · subst hi0
          refine Nat.lt_of_le_of_lt ?_ h3
          rw [Nat.mul_comm x y]
          exact Nat.mul_le_mul_left _ (Nat.mod_le _ _)
        · have hxy := h2 hi0
          by_cases hin : n - (i - 1) = 0
          · rw [hin] at h3
            have : x * y ≠ 0 := Nat.mul_ne_zero (by omega) h
            omega
          · have := mod_half (n := n - (i - 1) - 1) h hxy (by rw [show n - (i - 1) - 1 + 1 = n - (i - 1) from by omega]; exact h3)
            rw [show n - (i + 1 - 1) = n - (i - 1) - 1 from by omega]
            exact this
  · rintro env ⟨x, y, s2, s3, h1, h2, h3, rfl⟩
    rw [rangeD_len] at h2 h3
    have hy := h2 (by omega)
    rw [show n - (n + 2 - 1) = 0 from by omega] at h3
    have : y = 0 := by
      by_cases h : y = 0
      · exact h
      · have : x * y ≠ 0 := Nat.mul_ne_zero (by omega) h
        omega
    subst this
    rw [Nat.gcd_zero_right] at h1
    subst h1
    exact hN _ _
theorem divisor_ok (p q : Int) (h : p.natAbs * q.natAbs < 2 ^ 398) : m__law_divisor [.int p, .int q] = .ok (.int (Nat.gcd p.natAbs q.natAbs : Nat)) := by
  apply wR_eq
  have e : ∀ i : Int, (if i < 0 then -i else i) = (i.natAbs : Int) := fun i => by split <;> omega
  simp only [m__law_divisor, g__law_divisor, ↓wR_ok, ↓wR_err, ↓wR_bind, ↓wR_of, ↓wO_some, ↓wO_map, ↓wO_bind, ↓w_var0, ↓w_varS, ↓w_eC, ↓w_e1, ↓w_l1, ↓w_e2, ↓w_l2, ↓w_b1, ↓w_b2, ↓w_eB, ↓w_eF, ↓w_lF, ↓w_eCall, ↓w_eLst, ↓w_aNil, ↓w_aCons, ↓w_eTup, ↓w_lDisp, ↓w_eIf, ↓w_bAnd, ↓w_bOr, ↓w_bNot, ↓w_bYes, ↓w_bChain, ↓w_eAnd, ↓w_eOr, ↓w_iAny, ↓w_oNone, ↓w_oSomeC, ↓w_eSl, ↓w_lSlG, ↓w_lComp, ↓w_sSeq, ↓w_sNil, ↓w_sBreak, ↓w_sCont, ↓w_sSet, ↓w_sSetL, ↓w_sExpr, ↓w_sRet, ↓w_sRetN, ↓w_sIf, ↓w_own0, ↓w_ownS, ↓w_sRetO, ↓w_sApp, ↓w_sSetIx, ↓w_sFrz, ↓w_sThen, ↓w_sRaise, ↓w_sAsg, ↓w_sFor, ↓w_sTry, ↓t_name, ↓t_nil, ↓t_cons, ↓o_plus, ↓o_plusL, ↓o_lAdd, ↓o_sub, ↓o_neg, ↓o_mul, ↓o_fdiv, ↓o_mod, ↓o_pow, ↓o_lt, ↓o_le, ↓o_gt, ↓o_ge, ↓o_eq, ↓o_ne, ↓o_truthB, ↓o_truthI, ↓o_truthN, ↓o_truthL, ↓o_truthT, ↓o_truthS, ↓o_notB, ↓o_isNN, ↓o_isBT, ↓o_isBF, ↓o_isT, ↓o_isIB, ↓o_isSB, ↓o_isLB, ↓o_isTB, ↓o_isNB, ↓o_isNot, ↓o_lenL, ↓o_lenT, ↓o_lenS, ↓o_abs, ↓o_intI, ↓o_intB, ↓o_str, ↓o_gcd, ↓o_list, ↓o_listT, ↓o_tuple, ↓o_tupleT, ↓o_rev, ↓o_type, ↓o_isi, ↓o_isi2, ↓o_rg1, ↓o_rg2, ↓o_zip, ↓o_zipT, ↓o_itemsL, ↓o_itemsT, ↓o_ixL, ↓o_ixT, ↓o_at0, ↓o_at1, ↓o_at2, ↓o_at3, ↓o_at4, ↓o_at5, ↓o_at6, ↓o_at7, ↓o_at8, ↓o_at9, ↓o_at10, ↓o_at11, ↓o_at12, ↓o_at13, ↓o_at14, ↓o_at15, ↓w_eIxO, ↓t_tup1, ↓t_tup2, ↓t_tup3, ↓t_tup9, ↓w_okOnly, ↓w_compN, ↓w_compC, ↓o_all, ↓o_any, ↓bls_nil, ↓bls_cons, ↓o_minL, ↓o_maxL, ↓o_sumL, ↓ints_nil, ↓ints_cons, ↓o_min3, ↓o_max3, ↓o_slL, ↓o_slT, ↓w_eBor, ↓w_bBor, o_isN, w_runF, tyName, isSubTy, tyNames, List.getElem?_cons_zero, List.getElem?_cons_succ, List.set_cons_zero, List.set_cons_succ, List.map_cons, List.map_nil, List.replicate_succ, List.replicate_zero, List.length_cons, List.length_nil, List.cons_append, List.nil_append, Nat.reduceAdd, Nat.reduceSub, Nat.reduceLeDiff, Nat.reduceEqDiff, reduceIte, if_true, if_false, Bool.not_true, Bool.not_false, Bool.true_and, Bool.and_true, Bool.false_and, Bool.and_false, Bool.true_or, Bool.false_or, Bool.or_true, Bool.or_false, reduceCtorEq, decide_true, decide_false, beq_self_eq_true, List.mem_cons, true_or, or_true, true_and, and_true, false_and, and_false, or_false, false_or, String.reduceEq, String.reduceBEq, List.not_mem_nil, Bool.not_eq_true, Bool.false_eq_true, eq_self, not_true_eq_false, not_false_eq_true, Bool.not_eq_eq_eq_not, decide_eq_true_eq, decide_eq_false_iff_not, bne_iff_ne, ne_eq, Int.reduceLT, Int.reduceLE, Int.reduceMul, Int.reduceAdd, Int.reduceNeg, Int.reduceToNat, Int.reducePow, Nat.reduceLT, Int.reduceEq, Int.reduceSub, zipD, List.zipWith_cons_cons, List.zipWith_nil_left, List.zipWith_nil_right, List.all_cons, List.all_nil, id_eq, scalD, borE, wipeE, noOwn, sz_0, szl_0, sz_1, szl_1, sz_2, szl_2, sz_3, szl_3, sz_4, szl_4, sz_5, szl_5, sz_6, szl_6, sz_7, szl_7, sz_8, szl_8, sz_9, szl_9, sz_10, szl_10, sz_11, szl_11, sz_12, szl_12, sz_13, szl_13, sz_14, szl_14, sz_15, szl_15, sz_16, szl_16, sz_17, szl_17, sz_18, szl_18, sz_19, szl_19, sz_20, szl_20, sz_21, szl_21, sz_22, szl_22, sz_23, szl_23, sz_24, szl_24, sz_25, szl_25, sz_26, szl_26, sz_27, szl_27, sz_28, szl_28, sz_29, szl_29, sz_30, szl_30, sz_31, szl_31, sz_32, szl_32, frz, List.all_cons, List.all_nil, e]
  refine divisor_loop 398 _ _ h fun s2 s3 => ?_
  simp only [r__law_divisor_2, ↓wR_ok, ↓wR_err, ↓wR_bind, ↓wR_of, ↓wO_some, ↓wO_map, ↓wO_bind, ↓w_var0, ↓w_varS, ↓w_eC, ↓w_e1, ↓w_l1, ↓w_e2, ↓w_l2, ↓w_b1, ↓w_b2, ↓w_eB, ↓w_eF, ↓w_lF, ↓w_eCall, ↓w_eLst, ↓w_aNil, ↓w_aCons, ↓w_eTup, ↓w_lDisp, ↓w_eIf, ↓w_bAnd, ↓w_bOr, ↓w_bNot, ↓w_bYes, ↓w_bChain, ↓w_eAnd, ↓w_eOr, ↓w_iAny, ↓w_oNone, ↓w_oSomeC, ↓w_eSl, ↓w_lSlG, ↓w_lComp, ↓w_sSeq, ↓w_sNil, ↓w_sBreak, ↓w_sCont, ↓w_sSet, ↓w_sSetL, ↓w_sExpr, ↓w_sRet, ↓w_sRetN, ↓w_sIf, ↓w_own0, ↓w_ownS, ↓w_sRetO, ↓w_sApp, ↓w_sSetIx, ↓w_sFrz, ↓w_sThen, ↓w_sRaise, ↓w_sAsg, ↓w_sFor, ↓w_sTry, ↓t_name, ↓t_nil, ↓t_cons, ↓o_plus, ↓o_plusL, ↓o_lAdd, ↓o_sub, ↓o_neg, ↓o_mul, ↓o_fdiv, ↓o_mod, ↓o_pow, ↓o_lt, ↓o_le, ↓o_gt, ↓o_ge, ↓o_eq, ↓o_ne, ↓o_truthB, ↓o_truthI, ↓o_truthN, ↓o_truthL, ↓o_truthT, ↓o_truthS, ↓o_notB, ↓o_isNN, ↓o_isBT, ↓o_isBF, ↓o_isT, ↓o_isIB, ↓o_isSB, ↓o_isLB, ↓o_isTB, ↓o_isNB, ↓o_isNot, ↓o_lenL, ↓o_lenT, ↓o_lenS, ↓o_abs, ↓o_intI, ↓o_intB, ↓o_str, ↓o_gcd, ↓o_list, ↓o_listT, ↓o_tuple, ↓o_tupleT, ↓o_rev, ↓o_type, ↓o_isi, ↓o_isi2, ↓o_rg1, ↓o_rg2, ↓o_zip, ↓o_zipT, ↓o_itemsL, ↓o_itemsT, ↓o_ixL, ↓o_ixT, ↓o_at0, ↓o_at1, ↓o_at2, ↓o_at3, ↓o_at4, ↓o_at5, ↓o_at6, ↓o_at7, ↓o_at8, ↓o_at9, ↓o_at10, ↓o_at11, ↓o_at12, ↓o_at13, ↓o_at14, ↓o_at15, ↓w_eIxO, ↓t_tup1, ↓t_tup2, ↓t_tup3, ↓t_tup9, ↓w_okOnly, ↓w_compN, ↓w_compC, ↓o_all, ↓o_any, ↓bls_nil, ↓bls_cons, ↓o_minL, ↓o_maxL, ↓o_sumL, ↓ints_nil, ↓ints_cons, ↓o_min3, ↓o_max3, ↓o_slL, ↓o_slT, ↓w_eBor, ↓w_bBor, o_isN, w_runF, tyName, isSubTy, tyNames, List.getElem?_cons_zero, List.getElem?_cons_succ, List.set_cons_zero, List.set_cons_succ, List.map_cons, List.map_nil, List.replicate_succ, List.replicate_zero, List.length_cons, List.length_nil, List.cons_append, List.nil_append, Nat.reduceAdd, Nat.reduceSub, Nat.reduceLeDiff, Nat.reduceEqDiff, reduceIte, if_true, if_false, Bool.not_true, Bool.not_false, Bool.true_and, Bool.and_true, Bool.false_and, Bool.and_false, Bool.true_or, Bool.false_or, Bool.or_true, Bool.or_false, reduceCtorEq, decide_true, decide_false, beq_self_eq_true, List.mem_cons, true_or, or_true, true_and, and_true, false_and, and_false, or_false, false_or, String.reduceEq, String.reduceBEq, List.not_mem_nil, Bool.not_eq_true, Bool.false_eq_true, eq_self, not_true_eq_false, not_false_eq_true, Bool.not_eq_eq_eq_not, decide_eq_true_eq, decide_eq_false_iff_not, bne_iff_ne, ne_eq, Int.reduceLT, Int.reduceLE, Int.reduceMul, Int.reduceAdd, Int.reduceNeg, Int.reduceToNat, Int.reducePow, Nat.reduceLT, Int.reduceEq, Int.reduceSub, zipD, List.zipWith_cons_cons, List.zipWith_nil_left, List.zipWith_nil_right, List.all_cons, List.all_nil, id_eq, scalD, borE, wipeE, noOwn, sz_0, szl_0, sz_1, szl_1, sz_2, szl_2, sz_3, szl_3, sz_4, szl_4, sz_5, szl_5, sz_6, szl_6, sz_7, szl_7, sz_8, szl_8, sz_9, szl_9, sz_10, szl_10, sz_11, szl_11, sz_12, szl_12, sz_13, szl_13, sz_14, szl_14, sz_15, szl_15, sz_16, szl_16, sz_17, szl_17, sz_18, szl_18, sz_19, szl_19, sz_20, szl_20, sz_21, szl_21, sz_22, szl_22, sz_23, szl_23, sz_24, szl_24, sz_25, szl_25, sz_26, szl_26, sz_27, szl_27, sz_28, szl_28, sz_29, szl_29, sz_30, szl_30, sz_31, szl_31, sz_32, szl_32, frz, List.all_cons, List.all_nil]
theorem lowest_ok (p q : Int) (hq : q ≠ 0) (hb : q.natAbs < 2 ^ 3000) (h : p.natAbs * q.natAbs < 2 ^ 398) : m__law_lowest [.int p, .int q] = .ok (rq (Rat.divInt p q)) := by
  have h1 := sh_ne (p := p) hq
  have h2 := sh_le (p := p) hq
  have h3 : S9 (shOf p q) := s9_of h1 (by omega)
  obtain ⟨e1, e2⟩ := low_ok p q hq
  apply wR_eq
  simp only [m__law_lowest, g__law_lowest, ↓wR_ok, ↓wR_err, ↓wR_bind, ↓wR_of, ↓wO_some, ↓wO_map, ↓wO_bind, ↓w_var0, ↓w_varS, ↓w_eC, ↓w_e1, ↓w_l1, ↓w_e2, ↓w_l2, ↓w_b1, ↓w_b2, ↓w_eB, ↓w_eF, ↓w_lF, ↓w_eCall, ↓w_eLst, ↓w_aNil, ↓w_aCons, ↓w_eTup, ↓w_lDisp, ↓w_eIf, ↓w_bAnd, ↓w_bOr, ↓w_bNot, ↓w_bYes, ↓w_bChain, ↓w_eAnd, ↓w_eOr, ↓w_iAny, ↓w_oNone, ↓w_oSomeC, ↓w_eSl, ↓w_lSlG, ↓w_lComp, ↓w_sSeq, ↓w_sNil, ↓w_sBreak, ↓w_sCont, ↓w_sSet, ↓w_sSetL, ↓w_sExpr, ↓w_sRet, ↓w_sRetN, ↓w_sIf, ↓w_own0, ↓w_ownS, ↓w_sRetO, ↓w_sApp, ↓w_sSetIx, ↓w_sFrz, ↓w_sThen, ↓w_sRaise, ↓w_sAsg, ↓w_sFor, ↓w_sTry, ↓t_name, ↓t_nil, ↓t_cons, ↓o_plus, ↓o_plusL, ↓o_lAdd, ↓o_sub, ↓o_neg, ↓o_mul, ↓o_fdiv, ↓o_mod, ↓o_pow, ↓o_lt, ↓o_le, ↓o_gt, ↓o_ge, ↓o_eq, ↓o_ne, ↓o_truthB, ↓o_truthI, ↓o_truthN, ↓o_truthL, ↓o_truthT, ↓o_truthS, ↓o_notB, ↓o_isNN, ↓o_isBT, ↓o_isBF, ↓o_isT, ↓o_isIB, ↓o_isSB, ↓o_isLB, ↓o_isTB, ↓o_isNB, ↓o_isNot, ↓o_lenL, ↓o_lenT, ↓o_lenS, ↓o_abs, ↓o_intI, ↓o_intB, ↓o_str, ↓o_gcd, ↓o_list, ↓o_listT, ↓o_tuple, ↓o_tupleT, ↓o_rev, ↓o_type, ↓o_isi, ↓o_isi2, ↓o_rg1, ↓o_rg2, ↓o_zip, ↓o_zipT, ↓o_itemsL, ↓o_itemsT, ↓o_ixL, ↓o_ixT, ↓o_at0, ↓o_at1, ↓o_at2, ↓o_at3, ↓o_at4, ↓o_at5, ↓o_at6, ↓o_at7, ↓o_at8, ↓o_at9, ↓o_at10, ↓o_at11, ↓o_at12, ↓o_at13, ↓o_at14, ↓o_at15, ↓w_eIxO, ↓t_tup1, ↓t_tup2, ↓t_tup3, ↓t_tup9, ↓w_okOnly, ↓w_compN, ↓w_compC, ↓o_all, ↓o_any, ↓bls_nil, ↓bls_cons, ↓o_minL, ↓o_maxL, ↓o_sumL, ↓ints_nil, ↓ints_cons, ↓o_min3, ↓o_max3, ↓o_slL, ↓o_slT, ↓w_eBor, ↓w_bBor, o_isN, w_runF, tyName, isSubTy, tyNames, List.getElem?_cons_zero, List.getElem?_cons_succ, List.set_cons_zero, List.set_cons_succ, List.map_cons, List.map_nil, List.replicate_succ, List.replicate_zero, List.length_cons, List.length_nil, List.cons_append, List.nil_append, Nat.reduceAdd, Nat.reduceSub, Nat.reduceLeDiff, Nat.reduceEqDiff, reduceIte, if_true, if_false, Bool.not_true, Bool.not_false, Bool.true_and, Bool.and_true, Bool.false_and, Bool.and_false, Bool.true_or, Bool.false_or, Bool.or_true, Bool.or_false, reduceCtorEq, decide_true, decide_false, beq_self_eq_true, List.mem_cons, true_or, or_true, true_and, and_true, false_and, and_false, or_false, false_or, String.reduceEq, String.reduceBEq, List.not_mem_nil, Bool.not_eq_true, Bool.false_eq_true, eq_self, not_true_eq_false, not_false_eq_true, Bool.not_eq_eq_eq_not, decide_eq_true_eq, decide_eq_false_iff_not, bne_iff_ne, ne_eq, Int.reduceLT, Int.reduceLE, Int.reduceMul, Int.reduceAdd, Int.reduceNeg, Int.reduceToNat, Int.reducePow, Nat.reduceLT, Int.reduceEq, Int.reduceSub, zipD, List.zipWith_cons_cons, List.zipWith_nil_left, List.zipWith_nil_right, List.all_cons, List.all_nil, id_eq, scalD, borE, wipeE, noOwn, sz_0, szl_0, sz_1, szl_1, sz_2, szl_2, sz_3, szl_3, sz_4, szl_4, sz_5, szl_5, sz_6, szl_6, sz_7, szl_7, sz_8, szl_8, sz_9, szl_9, sz_10, szl_10, sz_11, szl_11, sz_12, szl_12, sz_13, szl_13, sz_14, szl_14, sz_15, szl_15, sz_16, szl_16, sz_17, szl_17, sz_18, szl_18, sz_19, szl_19, sz_20, szl_20, sz_21, szl_21, sz_22, szl_22, sz_23, szl_23, sz_24, szl_24, sz_25, szl_25, sz_26, szl_26, sz_27, szl_27, sz_28, szl_28, sz_29, szl_29, sz_30, szl_30, sz_31, szl_31, sz_32, szl_32, frz, List.all_cons, List.all_nil]
  rw [divisor_ok p q h]
  simp only [↓wR_ok, ↓wR_err, ↓wR_bind, ↓wR_of, ↓wO_some, ↓wO_map, ↓wO_bind, ↓w_var0, ↓w_varS, ↓w_eC, ↓w_e1, ↓w_l1, ↓w_e2, ↓w_l2, ↓w_b1, ↓w_b2, ↓w_eB, ↓w_eF, ↓w_lF, ↓w_eCall, ↓w_eLst, ↓w_aNil, ↓w_aCons, ↓w_eTup, ↓w_lDisp, ↓w_eIf, ↓w_bAnd, ↓w_bOr, ↓w_bNot, ↓w_bYes, ↓w_bChain, ↓w_eAnd, ↓w_eOr, ↓w_iAny, ↓w_oNone, ↓w_oSomeC, ↓w_eSl, ↓w_lSlG, ↓w_lComp, ↓w_sSeq, ↓w_sNil, ↓w_sBreak, ↓w_sCont, ↓w_sSet, ↓w_sSetL, ↓w_sExpr, ↓w_sRet, ↓w_sRetN, ↓w_sIf, ↓w_own0, ↓w_ownS, ↓w_sRetO, ↓w_sApp, ↓w_sSetIx, ↓w_sFrz, ↓w_sThen, ↓w_sRaise, ↓w_sAsg, ↓w_sFor, ↓w_sTry, ↓t_name, ↓t_nil, ↓t_cons, ↓o_plus, ↓o_plusL, ↓o_lAdd, ↓o_sub, ↓o_neg, ↓o_mul, ↓o_fdiv, ↓o_mod, ↓o_pow, ↓o_lt, ↓o_le, ↓o_gt, ↓o_ge, ↓o_eq, ↓o_ne, ↓o_truthB, ↓o_truthI, ↓o_truthN, ↓o_truthL, ↓o_truthT, ↓o_truthS, ↓o_notB, ↓o_isNN, ↓o_isBT, ↓o_isBF, ↓o_isT, ↓o_isIB, ↓o_isSB, ↓o_isLB, ↓o_isTB, ↓o_isNB, ↓o_isNot, ↓o_lenL, ↓o_lenT, ↓o_lenS, ↓o_abs, ↓o_intI, ↓o_intB, ↓o_str, ↓o_gcd, ↓o_list, ↓o_listT, ↓o_tuple, ↓o_tupleT, ↓o_rev, ↓o_type, ↓o_isi, ↓o_isi2, ↓o_rg1, ↓o_rg2, ↓o_zip, ↓o_zipT, ↓o_itemsL, ↓o_itemsT, ↓o_ixL, ↓o_ixT, ↓o_at0, ↓o_at1, ↓o_at2, ↓o_at3, ↓o_at4, ↓o_at5, ↓o_at6, ↓o_at7, ↓o_at8, ↓o_at9, ↓o_at10, ↓o_at11, ↓o_at12, ↓o_at13, ↓o_at14, ↓o_at15, ↓w_eIxO, ↓t_tup1, ↓t_tup2, ↓t_tup3, ↓t_tup9, ↓w_okOnly, ↓w_compN, ↓w_compC, ↓o_all, ↓o_any, ↓bls_nil, ↓bls_cons, ↓o_minL, ↓o_maxL, ↓o_sumL, ↓ints_nil, ↓ints_cons, ↓o_min3, ↓o_max3, ↓o_slL, ↓o_slT, ↓w_eBor, ↓w_bBor, o_isN, w_runF, tyName, isSubTy, tyNames, List.getElem?_cons_zero, List.getElem?_cons_succ, List.set_cons_zero, List.set_cons_succ, List.map_cons, List.map_nil, List.replicate_succ, List.replicate_zero, List.length_cons, List.length_nil, List.cons_append, List.nil_append, Nat.reduceAdd, Nat.reduceSub, Nat.reduceLeDiff, Nat.reduceEqDiff, reduceIte, if_true, if_false, Bool.not_true, Bool.not_false, Bool.true_and, Bool.and_true, Bool.false_and, Bool.and_false, Bool.true_or, Bool.false_or, Bool.or_true, Bool.or_false, reduceCtorEq, decide_true, decide_false, beq_self_eq_true, List.mem_cons, true_or, or_true, true_and, and_true, false_and, and_false, or_false, false_or, String.reduceEq, String.reduceBEq, List.not_mem_nil, Bool.not_eq_true, Bool.false_eq_true, eq_self, not_true_eq_false, not_false_eq_true, Bool.not_eq_eq_eq_not, decide_eq_true_eq, decide_eq_false_iff_not, bne_iff_ne, ne_eq, Int.reduceLT, Int.reduceLE, Int.reduceMul, Int.reduceAdd, Int.reduceNeg, Int.reduceToNat, Int.reducePow, Nat.reduceLT, Int.reduceEq, Int.reduceSub, zipD, List.zipWith_cons_cons, List.zipWith_nil_left, List.zipWith_nil_right, List.all_cons, List.all_nil, id_eq, scalD, borE, wipeE, noOwn, sz_0, szl_0, sz_1, szl_1, sz_2, szl_2, sz_3, szl_3, sz_4, szl_4, sz_5, szl_5, sz_6, szl_6, sz_7, szl_7, sz_8, szl_8, sz_9, szl_9, sz_10, szl_10, sz_11, szl_11, sz_12, szl_12, sz_13, szl_13, sz_14, szl_14, sz_15, szl_15, sz_16, szl_16, sz_17, szl_17, sz_18, szl_18, sz_19, szl_19, sz_20, szl_20, sz_21, szl_21, sz_22, szl_22, sz_23, szl_23, sz_24, szl_24, sz_25, szl_25, sz_26, szl_26, sz_27, szl_27, sz_28, szl_28, sz_29, szl_29, sz_30, szl_30, sz_31, szl_31, sz_32, szl_32, frz, List.all_cons, List.all_nil]
  unfold shOf at h3 e1 e2
  split
  · rename_i h
    rw [if_neg (by omega)] at h3 e1 e2
    exact ⟨h3, h3, by rw [e1, e2]; rfl⟩
  · rename_i h
    rw [if_pos (by omega)] at h3 e1 e2
    exact ⟨h3, h3, by rw [e1, e2]; rfl⟩
theorem lratio_ok (p q : Int) (hq : q ≠ 0) (hb : q.natAbs < 2 ^ 3000) : m__law_ratio [.int p, .int q] = .ok (.lst [rq (Rat.divInt p q)]) := by
  apply wR_eq
  simp only [m__law_ratio, g__law_ratio, ↓wR_ok, ↓wR_err, ↓wR_bind, ↓wR_of, ↓wO_some, ↓wO_map, ↓wO_bind, ↓w_var0, ↓w_varS, ↓w_eC, ↓w_e1, ↓w_l1, ↓w_e2, ↓w_l2, ↓w_b1, ↓w_b2, ↓w_eB, ↓w_eF, ↓w_lF, ↓w_eCall, ↓w_eLst, ↓w_aNil, ↓w_aCons, ↓w_eTup, ↓w_lDisp, ↓w_eIf, ↓w_bAnd, ↓w_bOr, ↓w_bNot, ↓w_bYes, ↓w_bChain, ↓w_eAnd, ↓w_eOr, ↓w_iAny, ↓w_oNone, ↓w_oSomeC, ↓w_eSl, ↓w_lSlG, ↓w_lComp, ↓w_sSeq, ↓w_sNil, ↓w_sBreak, ↓w_sCont, ↓w_sSet, ↓w_sSetL, ↓w_sExpr, ↓w_sRet, ↓w_sRetN, ↓w_sIf, ↓w_own0, ↓w_ownS, ↓w_sRetO, ↓w_sApp, ↓w_sSetIx, ↓w_sFrz, ↓w_sThen, ↓w_sRaise, ↓w_sAsg, ↓w_sFor, ↓w_sTry, ↓t_name, ↓t_nil, ↓t_cons, ↓o_plus, ↓o_plusL, ↓o_lAdd, ↓o_sub, ↓o_neg, ↓o_mul, ↓o_fdiv, ↓o_mod, ↓o_pow, ↓o_lt, ↓o_le, ↓o_gt, ↓o_ge, ↓o_eq, ↓o_ne, ↓o_truthB, ↓o_truthI, ↓o_truthN, ↓o_truthL, ↓o_truthT, ↓o_truthS, ↓o_notB, ↓o_isNN, ↓o_isBT, ↓o_isBF, ↓o_isT, ↓o_isIB, ↓o_isSB, ↓o_isLB, ↓o_isTB, ↓o_isNB, ↓o_isNot, ↓o_lenL, ↓o_lenT, ↓o_lenS, ↓o_abs, ↓o_intI, ↓o_intB, ↓o_str, ↓o_gcd, ↓o_list, ↓o_listT, ↓o_tuple, ↓o_tupleT, ↓o_rev, ↓o_type, ↓o_isi, ↓o_isi2, ↓o_rg1, ↓o_rg2, ↓o_zip, ↓o_zipT, ↓o_itemsL, ↓o_itemsT, ↓o_ixL, ↓o_ixT, ↓o_at0, ↓o_at1, ↓o_at2, ↓o_at3, ↓o_at4, ↓o_at5, ↓o_at6, ↓o_at7, ↓o_at8, ↓o_at9, ↓o_at10, ↓o_at11, ↓o_at12, ↓o_at13, ↓o_at14, ↓o_at15, ↓w_eIxO, ↓t_tup1, ↓t_tup2, ↓t_tup3, ↓t_tup9, ↓w_okOnly, ↓w_compN, ↓w_compC, ↓o_all, ↓o_any, ↓bls_nil, ↓bls_cons, ↓o_minL, ↓o_maxL, ↓o_sumL, ↓ints_nil, ↓ints_cons, ↓o_min3, ↓o_max3, ↓o_slL, ↓o_slT, ↓w_eBor, ↓w_bBor, o_isN, w_runF, tyName, isSubTy, tyNames, List.getElem?_cons_zero, List.getElem?_cons_succ, List.set_cons_zero, List.set_cons_succ, List.map_cons, List.map_nil, List.replicate_succ, List.replicate_zero, List.length_cons, List.length_nil, List.cons_append, List.nil_append, Nat.reduceAdd, Nat.reduceSub, Nat.reduceLeDiff, Nat.reduceEqDiff, reduceIte, if_true, if_false, Bool.not_true, Bool.not_false, Bool.true_and, Bool.and_true, Bool.false_and, Bool.and_false, Bool.true_or, Bool.false_or, Bool.or_true, Bool.or_false, reduceCtorEq, decide_true, decide_false, beq_self_eq_true, List.mem_cons, true_or, or_true, true_and, and_true, false_and, and_false, or_false, false_or, String.reduceEq, String.reduceBEq, List.not_mem_nil, Bool.not_eq_true, Bool.false_eq_true, eq_self, not_true_eq_false, not_false_eq_true, Bool.not_eq_eq_eq_not, decide_eq_true_eq, decide_eq_false_iff_not, bne_iff_ne, ne_eq, Int.reduceLT, Int.reduceLE, Int.reduceMul, Int.reduceAdd, Int.reduceNeg, Int.reduceToNat, Int.reducePow, Nat.reduceLT, Int.reduceEq, Int.reduceSub, zipD, List.zipWith_cons_cons, List.zipWith_nil_left, List.zipWith_nil_right, List.all_cons, List.all_nil, id_eq, scalD, borE, wipeE, noOwn, sz_0, szl_0, sz_1, szl_1, sz_2, szl_2, sz_3, szl_3, sz_4, szl_4, sz_5, szl_5, sz_6, szl_6, sz_7, szl_7, sz_8, szl_8, sz_9, szl_9, sz_10, szl_10, sz_11, szl_11, sz_12, szl_12, sz_13, szl_13, sz_14, szl_14, sz_15, szl_15, sz_16, szl_16, sz_17, szl_17, sz_18, szl_18, sz_19, szl_19, sz_20, szl_20, sz_21, szl_21, sz_22, szl_22, sz_23, szl_23, sz_24, szl_24, sz_25, szl_25, sz_26, szl_26, sz_27, szl_27, sz_28, szl_28, sz_29, szl_29, sz_30, szl_30, sz_31, szl_31, sz_32, szl_32, frz, List.all_cons, List.all_nil]
  rw [ratio_ok p q hq hb]
  rfl
theorem lratio_no (p : Int) : m__law_ratio [.int p, .int 0] = .ok (.lst []) := by
  apply wR_eq
  simp only [m__law_ratio, g__law_ratio, ↓wR_ok, ↓wR_err, ↓wR_bind, ↓wR_of, ↓wO_some, ↓wO_map, ↓wO_bind, ↓w_var0, ↓w_varS, ↓w_eC, ↓w_e1, ↓w_l1, ↓w_e2, ↓w_l2, ↓w_b1, ↓w_b2, ↓w_eB, ↓w_eF, ↓w_lF, ↓w_eCall, ↓w_eLst, ↓w_aNil, ↓w_aCons, ↓w_eTup, ↓w_lDisp, ↓w_eIf, ↓w_bAnd, ↓w_bOr, ↓w_bNot, ↓w_bYes, ↓w_bChain, ↓w_eAnd, ↓w_eOr, ↓w_iAny, ↓w_oNone, ↓w_oSomeC, ↓w_eSl, ↓w_lSlG, ↓w_lComp, ↓w_sSeq, ↓w_sNil, ↓w_sBreak, ↓w_sCont, ↓w_sSet, ↓w_sSetL, ↓w_sExpr, ↓w_sRet, ↓w_sRetN, ↓w_sIf, ↓w_own0, ↓w_ownS, ↓w_sRetO, ↓w_sApp, ↓w_sSetIx, ↓w_sFrz, ↓w_sThen, ↓w_sRaise, ↓w_sAsg, ↓w_sFor, ↓w_sTry, ↓t_name, ↓t_nil, ↓t_cons, ↓o_plus, ↓o_plusL, ↓o_lAdd, ↓o_sub, ↓o_neg, ↓o_mul, ↓o_fdiv, ↓o_mod, ↓o_pow, ↓o_lt, ↓o_le, ↓o_gt, ↓o_ge, ↓o_eq, ↓o_ne, ↓o_truthB, ↓o_truthI, ↓o_truthN, ↓o_truthL, ↓o_truthT, ↓o_truthS, ↓o_notB, ↓o_isNN, ↓o_isBT, ↓o_isBF, ↓o_isT, ↓o_isIB, ↓o_isSB, ↓o_isLB, ↓o_isTB, ↓o_isNB, ↓o_isNot, ↓o_lenL, ↓o_lenT, ↓o_lenS, ↓o_abs, ↓o_intI, ↓o_intB, ↓o_str, ↓o_gcd, ↓o_list, ↓o_listT, ↓o_tuple, ↓o_tupleT, ↓o_rev, ↓o_type, ↓o_isi, ↓o_isi2, ↓o_rg1, ↓o_rg2, ↓o_zip, ↓o_zipT, ↓o_itemsL, ↓o_itemsT, ↓o_ixL, ↓o_ixT, ↓o_at0, ↓o_at1, ↓o_at2, ↓o_at3, ↓o_at4, ↓o_at5, ↓o_at6, ↓o_at7, ↓o_at8, ↓o_at9, ↓o_at10, ↓o_at11, ↓o_at12, ↓o_at13, ↓o_at14, ↓o_at15, ↓w_eIxO, ↓t_tup1, ↓t_tup2, ↓t_tup3, ↓t_tup9, ↓w_okOnly, ↓w_compN, ↓w_compC, ↓o_all, ↓o_any, ↓bls_nil, ↓bls_cons, ↓o_minL, ↓o_maxL, ↓o_sumL, ↓ints_nil, ↓ints_cons, ↓o_min3, ↓o_max3, ↓o_slL, ↓o_slT, ↓w_eBor, ↓w_bBor, o_isN, w_runF, tyName, isSubTy, tyNames, List.getElem?_cons_zero, List.getElem?_cons_succ, List.set_cons_zero, List.set_cons_succ, List.map_cons, List.map_nil, List.replicate_succ, List.replicate_zero, List.length_cons, List.length_nil, List.cons_append, List.nil_append, Nat.reduceAdd, Nat.reduceSub, Nat.reduceLeDiff, Nat.reduceEqDiff, reduceIte, if_true, if_false, Bool.not_true, Bool.not_false, Bool.true_and, Bool.and_true, Bool.false_and, Bool.and_false, Bool.true_or, Bool.false_or, Bool.or_true, Bool.or_false, reduceCtorEq, decide_true, decide_false, beq_self_eq_true, List.mem_cons, true_or, or_true, true_and, and_true, false_and, and_false, or_false, false_or, String.reduceEq, String.reduceBEq, List.not_mem_nil, Bool.not_eq_true, Bool.false_eq_true, eq_self, not_true_eq_false, not_false_eq_true, Bool.not_eq_eq_eq_not, decide_eq_true_eq, decide_eq_false_iff_not, bne_iff_ne, ne_eq, Int.reduceLT, Int.reduceLE, Int.reduceMul, Int.reduceAdd, Int.reduceNeg, Int.reduceToNat, Int.reducePow, Nat.reduceLT, Int.reduceEq, Int.reduceSub, zipD, List.zipWith_cons_cons, List.zipWith_nil_left, List.zipWith_nil_right, List.all_cons, List.all_nil, id_eq, scalD, borE, wipeE, noOwn, sz_0, szl_0, sz_1, szl_1, sz_2, szl_2, sz_3, szl_3, sz_4, szl_4, sz_5, szl_5, sz_6, szl_6, sz_7, szl_7, sz_8, szl_8, sz_9, szl_9, sz_10, szl_10, sz_11, szl_11, sz_12, szl_12, sz_13, szl_13, sz_14, szl_14, sz_15, szl_15, sz_16, szl_16, sz_17, szl_17, sz_18, szl_18, sz_19, szl_19, sz_20, szl_20, sz_21, szl_21, sz_22, szl_22, sz_23, szl_23, sz_24, szl_24, sz_25, szl_25, sz_26, szl_26, sz_27, szl_27, sz_28, szl_28, sz_29, szl_29, sz_30, szl_30, sz_31, szl_31, sz_32, szl_32, frz, List.all_cons, List.all_nil]
  rw [ratio_no p]
  trivial
theorem lover_ok (x y : Rat) (hx : Bd x) (hy : Bd y) (h : y.num ≠ 0) : m__law_over [rq x, rq y] = .ok (.lst [rq (x * y⁻¹)]) := by
  apply wR_eq
  simp only [m__law_over, g__law_over, ↓wR_ok, ↓wR_err, ↓wR_bind, ↓wR_of, ↓wO_some, ↓wO_map, ↓wO_bind, ↓w_var0, ↓w_varS, ↓w_eC, ↓w_e1, ↓w_l1, ↓w_e2, ↓w_l2, ↓w_b1, ↓w_b2, ↓w_eB, ↓w_eF, ↓w_lF, ↓w_eCall, ↓w_eLst, ↓w_aNil, ↓w_aCons, ↓w_eTup, ↓w_lDisp, ↓w_eIf, ↓w_bAnd, ↓w_bOr, ↓w_bNot, ↓w_bYes, ↓w_bChain, ↓w_eAnd, ↓w_eOr, ↓w_iAny, ↓w_oNone, ↓w_oSomeC, ↓w_eSl, ↓w_lSlG, ↓w_lComp, ↓w_sSeq, ↓w_sNil, ↓w_sBreak, ↓w_sCont, ↓w_sSet, ↓w_sSetL, ↓w_sExpr, ↓w_sRet, ↓w_sRetN, ↓w_sIf, ↓w_own0, ↓w_ownS, ↓w_sRetO, ↓w_sApp, ↓w_sSetIx, ↓w_sFrz, ↓w_sThen, ↓w_sRaise, ↓w_sAsg, ↓w_sFor, ↓w_sTry, ↓t_name, ↓t_nil, ↓t_cons, ↓o_plus, ↓o_plusL, ↓o_lAdd, ↓o_sub, ↓o_neg, ↓o_mul, ↓o_fdiv, ↓o_mod, ↓o_pow, ↓o_lt, ↓o_le, ↓o_gt, ↓o_ge, ↓o_eq, ↓o_ne, ↓o_truthB, ↓o_truthI, ↓o_truthN, ↓o_truthL, ↓o_truthT, ↓o_truthS, ↓o_notB, ↓o_isNN, ↓o_isBT, ↓o_isBF, ↓o_isT, ↓o_isIB, ↓o_isSB, ↓o_isLB, ↓o_isTB, ↓o_isNB, ↓o_isNot, ↓o_lenL, ↓o_lenT, ↓o_lenS, ↓o_abs, ↓o_intI, ↓o_intB, ↓o_str, ↓o_gcd, ↓o_list, ↓o_listT, ↓o_tuple, ↓o_tupleT, ↓o_rev, ↓o_type, ↓o_isi, ↓o_isi2, ↓o_rg1, ↓o_rg2, ↓o_zip, ↓o_zipT, ↓o_itemsL, ↓o_itemsT, ↓o_ixL, ↓o_ixT, ↓o_at0, ↓o_at1, ↓o_at2, ↓o_at3, ↓o_at4, ↓o_at5, ↓o_at6, ↓o_at7, ↓o_at8, ↓o_at9, ↓o_at10, ↓o_at11, ↓o_at12, ↓o_at13, ↓o_at14, ↓o_at15, ↓w_eIxO, ↓t_tup1, ↓t_tup2, ↓t_tup3, ↓t_tup9, ↓w_okOnly, ↓w_compN, ↓w_compC, ↓o_all, ↓o_any, ↓bls_nil, ↓bls_cons, ↓o_minL, ↓o_maxL, ↓o_sumL, ↓ints_nil, ↓ints_cons, ↓o_min3, ↓o_max3, ↓o_slL, ↓o_slT, ↓w_eBor, ↓w_bBor, o_isN, w_runF, tyName, isSubTy, tyNames, List.getElem?_cons_zero, List.getElem?_cons_succ, List.set_cons_zero, List.set_cons_succ, List.map_cons, List.map_nil, List.replicate_succ, List.replicate_zero, List.length_cons, List.length_nil, List.cons_append, List.nil_append, Nat.reduceAdd, Nat.reduceSub, Nat.reduceLeDiff, Nat.reduceEqDiff, reduceIte, if_true, if_false, Bool.not_true, Bool.not_false, Bool.true_and, Bool.and_true, Bool.false_and, Bool.and_false, Bool.true_or, Bool.false_or, Bool.or_true, Bool.or_false, reduceCtorEq, decide_true, decide_false, beq_self_eq_true, List.mem_cons, true_or, or_true, true_and, and_true, false_and, and_false, or_false, false_or, String.reduceEq, String.reduceBEq, List.not_mem_nil, Bool.not_eq_true, Bool.false_eq_true, eq_self, not_true_eq_false, not_false_eq_true, Bool.not_eq_eq_eq_not, decide_eq_true_eq, decide_eq_false_iff_not, bne_iff_ne, ne_eq, Int.reduceLT, Int.reduceLE, Int.reduceMul, Int.reduceAdd, Int.reduceNeg, Int.reduceToNat, Int.reducePow, Nat.reduceLT, Int.reduceEq, Int.reduceSub, zipD, List.zipWith_cons_cons, List.zipWith_nil_left, List.zipWith_nil_right, List.all_cons, List.all_nil, id_eq, scalD, borE, wipeE, noOwn, sz_0, szl_0, sz_1, szl_1, sz_2, szl_2, sz_3, szl_3, sz_4, szl_4, sz_5, szl_5, sz_6, szl_6, sz_7, szl_7, sz_8, szl_8, sz_9, szl_9, sz_10, szl_10, sz_11, szl_11, sz_12, szl_12, sz_13, szl_13, sz_14, szl_14, sz_15, szl_15, sz_16, szl_16, sz_17, szl_17, sz_18, szl_18, sz_19, szl_19, sz_20, szl_20, sz_21, szl_21, sz_22, szl_22, sz_23, szl_23, sz_24, szl_24, sz_25, szl_25, sz_26, szl_26, sz_27, szl_27, sz_28, szl_28, sz_29, szl_29, sz_30, szl_30, sz_31, szl_31, sz_32, szl_32, frz, List.all_cons, List.all_nil]
  rw [over_ok x y hx hy h]
  rfl
theorem lover_no (x y : Rat) (hx : Bd x) (hy : Bd y) (h : y.num = 0) : m__law_over [rq x, rq y] = .ok (.lst []) := by
  apply wR_eq
  simp only [m__law_over, g__law_over, ↓wR_ok, ↓wR_err, ↓wR_bind, ↓wR_of, ↓wO_some, ↓wO_map, ↓wO_bind, ↓w_var0, ↓w_varS, ↓w_eC, ↓w_e1, ↓w_l1, ↓w_e2, ↓w_l2, ↓w_b1, ↓w_b2, ↓w_eB, ↓w_eF, ↓w_lF, ↓w_eCall, ↓w_eLst, ↓w_aNil, ↓w_aCons, ↓w_eTup, ↓w_lDisp, ↓w_eIf, ↓w_bAnd, ↓w_bOr, ↓w_bNot, ↓w_bYes, ↓w_bChain, ↓w_eAnd, ↓w_eOr, ↓w_iAny, ↓w_oNone, ↓w_oSomeC, ↓w_eSl, ↓w_lSlG, ↓w_lComp, ↓w_sSeq, ↓w_sNil, ↓w_sBreak, ↓w_sCont, ↓w_sSet, ↓w_sSetL, ↓w_sExpr, ↓w_sRet, ↓w_sRetN, ↓w_sIf, ↓w_own0, ↓w_ownS, ↓w_sRetO, ↓w_sApp, ↓w_sSetIx, ↓w_sFrz, ↓w_sThen, ↓w_sRaise, ↓w_sAsg, ↓w_sFor, ↓w_sTry, ↓t_name, ↓t_nil, ↓t_cons, ↓o_plus, ↓o_plusL, ↓o_lAdd, ↓o_sub, ↓o_neg, ↓o_mul, ↓o_fdiv, ↓o_mod, ↓o_pow, ↓o_lt, ↓o_le, ↓o_gt, ↓o_ge, ↓o_eq, ↓o_ne, ↓o_truthB, ↓o_truthI, ↓o_truthN, ↓o_truthL, ↓o_truthT, ↓o_truthS, ↓o_notB, ↓o_isNN, ↓o_isBT, ↓o_isBF, ↓o_isT, ↓o_isIB, ↓o_isSB, ↓o_isLB, ↓o_isTB, ↓o_isNB, ↓o_isNot, ↓o_lenL, ↓o_lenT, ↓o_lenS, ↓o_abs, ↓o_intI, ↓o_intB, ↓o_str, ↓o_gcd, ↓o_list, ↓o_listT, ↓o_tuple, ↓o_tupleT, ↓o_rev, ↓o_type, ↓o_isi, ↓o_isi2, ↓o_rg1, ↓o_rg2, ↓o_zip, ↓o_zipT, ↓o_itemsL, ↓o_itemsT, ↓o_ixL, ↓o_ixT, ↓o_at0, ↓o_at1, ↓o_at2, ↓o_at3, ↓o_at4, ↓o_at5, ↓o_at6, ↓o_at7, ↓o_at8, ↓o_at9, ↓o_at10, ↓o_at11, ↓o_at12, ↓o_at13, ↓o_at14, ↓o_at15, ↓w_eIxO, ↓t_tup1, ↓t_tup2, ↓t_tup3, ↓t_tup9, ↓w_okOnly, ↓w_compN, ↓w_compC, ↓o_all, ↓o_any, ↓bls_nil, ↓bls_cons, ↓o_minL, ↓o_maxL, ↓o_sumL, ↓ints_nil, ↓ints_cons, ↓o_min3, ↓o_max3, ↓o_slL, ↓o_slT, ↓w_eBor, ↓w_bBor, o_isN, w_runF, tyName, isSubTy, tyNames, List.getElem?_cons_zero, List.getElem?_cons_succ, List.set_cons_zero, List.set_cons_succ, List.map_cons, List.map_nil, List.replicate_succ, List.replicate_zero, List.length_cons, List.length_nil, List.cons_append, List.nil_append, Nat.reduceAdd, Nat.reduceSub, Nat.reduceLeDiff, Nat.reduceEqDiff, reduceIte, if_true, if_false, Bool.not_true, Bool.not_false, Bool.true_and, Bool.and_true, Bool.false_and, Bool.and_false, Bool.true_or, Bool.false_or, Bool.or_true, Bool.or_false, reduceCtorEq, decide_true, decide_false, beq_self_eq_true, List.mem_cons, true_or, or_true, true_and, and_true, false_and, and_false, or_false, false_or, String.reduceEq, String.reduceBEq, List.not_mem_nil, Bool.not_eq_true, Bool.false_eq_true, eq_self, not_true_eq_false, not_false_eq_true, Bool.not_eq_eq_eq_not, decide_eq_true_eq, decide_eq_false_iff_not, bne_iff_ne, ne_eq, Int.reduceLT, Int.reduceLE, Int.reduceMul, Int.reduceAdd, Int.reduceNeg, Int.reduceToNat, Int.reducePow, Nat.reduceLT, Int.reduceEq, Int.reduceSub, zipD, List.zipWith_cons_cons, List.zipWith_nil_left, List.zipWith_nil_right, List.all_cons, List.all_nil, id_eq, scalD, borE, wipeE, noOwn, sz_0, szl_0, sz_1, szl_1, sz_2, szl_2, sz_3, szl_3, sz_4, szl_4, sz_5, szl_5, sz_6, szl_6, sz_7, szl_7, sz_8, szl_8, sz_9, szl_9, sz_10, szl_10, sz_11, szl_11, sz_12, szl_12, sz_13, szl_13, sz_14, szl_14, sz_15, szl_15, sz_16, szl_16, sz_17, szl_17, sz_18, szl_18, sz_19, szl_19, sz_20, szl_20, sz_21, szl_21, sz_22, szl_22, sz_23, szl_23, sz_24, szl_24, sz_25, szl_25, sz_26, szl_26, sz_27, szl_27, sz_28, szl_28, sz_29, szl_29, sz_30, szl_30, sz_31, szl_31, sz_32, szl_32, frz, List.all_cons, List.all_nil]
  rw [over_no x y hx hy h]
  trivial
theorem order_ok (p q s t : Int) (h1 : p.natAbs < 2 ^ 3000) (h2 : q.natAbs < 2 ^ 3000) (h3 : s.natAbs < 2 ^ 3000) (h4 : t.natAbs < 2 ^ 3000) : m__law_order [.int p, .int q, .int s, .int t] = .ok (.int (sgn (p * t - s * q))) := by
  apply wR_eq
  simp only [m__law_order, g__law_order, ↓wR_ok, ↓wR_err, ↓wR_bind, ↓wR_of, ↓wO_some, ↓wO_map, ↓wO_bind, ↓w_var0, ↓w_varS, ↓w_eC, ↓w_e1, ↓w_l1, ↓w_e2, ↓w_l2, ↓w_b1, ↓w_b2, ↓w_eB, ↓w_eF, ↓w_lF, ↓w_eCall, ↓w_eLst, ↓w_aNil, ↓w_aCons, ↓w_eTup, ↓w_lDisp, ↓w_eIf, ↓w_bAnd, ↓w_bOr, ↓w_bNot, ↓w_bYes, ↓w_bChain, ↓w_eAnd, ↓w_eOr, ↓w_iAny, ↓w_oNone, ↓w_oSomeC, ↓w_eSl, ↓w_lSlG, ↓w_lComp, ↓w_sSeq, ↓w_sNil, ↓w_sBreak, ↓w_sCont, ↓w_sSet, ↓w_sSetL, ↓w_sExpr, ↓w_sRet, ↓w_sRetN, ↓w_sIf, ↓w_own0, ↓w_ownS, ↓w_sRetO, ↓w_sApp, ↓w_sSetIx, ↓w_sFrz, ↓w_sThen, ↓w_sRaise, ↓w_sAsg, ↓w_sFor, ↓w_sTry, ↓t_name, ↓t_nil, ↓t_cons, ↓o_plus, ↓o_plusL, ↓o_lAdd, ↓o_sub, ↓o_neg, ↓o_mul, ↓o_fdiv, ↓o_mod, ↓o_pow, ↓o_lt, ↓o_le, ↓o_gt, ↓o_ge, ↓o_eq, ↓o_ne, ↓o_truthB, ↓o_truthI, ↓o_truthN, ↓o_truthL, ↓o_truthT, ↓o_truthS, ↓o_notB, ↓o_isNN, ↓o_isBT, ↓o_isBF, ↓o_isT, ↓o_isIB, ↓o_isSB, ↓o_isLB, ↓o_isTB, ↓o_isNB, ↓o_isNot, ↓o_lenL, ↓o_lenT, ↓o_lenS, ↓o_abs, ↓o_intI, ↓o_intB, ↓o_str, ↓o_gcd, ↓o_list, ↓o_listT, ↓o_tuple, ↓o_tupleT, ↓o_rev, ↓o_type, ↓o_isi, ↓o_isi2, ↓o_rg1, ↓o_rg2, ↓o_zip, ↓o_zipT, ↓o_itemsL, ↓o_itemsT, ↓o_ixL, ↓o_ixT, ↓o_at0, ↓o_at1, ↓o_at2, ↓o_at3, ↓o_at4, ↓o_at5, ↓o_at6, ↓o_at7, ↓o_at8, ↓o_at9, ↓o_at10, ↓o_at11, ↓o_at12, ↓o_at13, ↓o_at14, ↓o_at15, ↓w_eIxO, ↓t_tup1, ↓t_tup2, ↓t_tup3, ↓t_tup9, ↓w_okOnly, ↓w_compN, ↓w_compC, ↓o_all, ↓o_any, ↓bls_nil, ↓bls_cons, ↓o_minL, ↓o_maxL, ↓o_sumL, ↓ints_nil, ↓ints_cons, ↓o_min3, ↓o_max3, ↓o_slL, ↓o_slT, ↓w_eBor, ↓w_bBor, o_isN, w_runF, tyName, isSubTy, tyNames, List.getElem?_cons_zero, List.getElem?_cons_succ, List.set_cons_zero, List.set_cons_succ, List.map_cons, List.map_nil, List.replicate_succ, List.replicate_zero, List.length_cons, List.length_nil, List.cons_append, List.nil_append, Nat.reduceAdd, Nat.reduceSub, Nat.reduceLeDiff, Nat.reduceEqDiff, reduceIte, if_true, if_false, Bool.not_true, Bool.not_false, Bool.true_and, Bool.and_true, Bool.false_and, Bool.and_false, Bool.true_or, Bool.false_or, Bool.or_true, Bool.or_false, reduceCtorEq, decide_true, decide_false, beq_self_eq_true, List.mem_cons, true_or, or_true, true_and, and_true, false_and, and_false, or_false, false_or, String.reduceEq, String.reduceBEq, List.not_mem_nil, Bool.not_eq_true, Bool.false_eq_true, eq_self, not_true_eq_false, not_false_eq_true, Bool.not_eq_eq_eq_not, decide_eq_true_eq, decide_eq_false_iff_not, bne_iff_ne, ne_eq, Int.reduceLT, Int.reduceLE, Int.reduceMul, Int.reduceAdd, Int.reduceNeg, Int.reduceToNat, Int.reducePow, Nat.reduceLT, Int.reduceEq, Int.reduceSub, zipD, List.zipWith_cons_cons, List.zipWith_nil_left, List.zipWith_nil_right, List.all_cons, List.all_nil, id_eq, scalD, borE, wipeE, noOwn, sz_0, szl_0, sz_1, szl_1, sz_2, szl_2, sz_3, szl_3, sz_4, szl_4, sz_5, szl_5, sz_6, szl_6, sz_7, szl_7, sz_8, szl_8, sz_9, szl_9, sz_10, szl_10, sz_11, szl_11, sz_12, szl_12, sz_13, szl_13, sz_14, szl_14, sz_15, szl_15, sz_16, szl_16, sz_17, szl_17, sz_18, szl_18, sz_19, szl_19, sz_20, szl_20, sz_21, szl_21, sz_22, szl_22, sz_23, szl_23, sz_24, szl_24, sz_25, szl_25, sz_26, szl_26, sz_27, szl_27, sz_28, szl_28, sz_29, szl_29, sz_30, szl_30, sz_31, szl_31, sz_32, szl_32, frz, List.all_cons, List.all_nil]
  refine ⟨⟨sm_of h1, sm_of h4⟩, ⟨sm_of h3, sm_of h2⟩, ?_⟩
  unfold sgn
  split
  · rename_i h
    rw [if_neg (by omega), if_neg (by omega)]
  · split
    · rw [if_neg (by omega), if_pos (by omega)]
    · rw [if_pos (by omega)]
end AF

namespace AF
open PySem PySem.Spec PyProof.Rows L2
def pD (r : Int × Int) : D := .tup [.int r.1, .int r.2]
def Rw (r : Int × Int) : Prop := r.1.natAbs < 2 ^ 35 ∧ r.2 ≠ 0 ∧ r.2.natAbs < 2 ^ 20
def Draw (ks : List Int) : Prop := ks.length = 16 ∧ ∀ k ∈ ks, 0 ≤ k ∧ k < 1009
theorem draw_at {ks : List Int} (h : Draw ks) {i : Nat} (hi : i < 16) : ∃ a : Int, (0 ≤ a ∧ a < 1009) ∧ ∀ z : Int, z = i → ∀ Q, wpO (atI (ks.map D.int) z) Q = Q (.int a) := by
  have hi' : i < ks.length := by rw [h.1]; exact hi
  refine ⟨ks[i], h.2 _ (List.getElem_mem hi'), fun z hz Q => ?_⟩
  subst hz
  exact o_at (by rw [List.getElem?_map, List.getElem?_eq_getElem hi']; rfl)
theorem fmod_eq (x : Int) {y : Int} (h : 0 ≤ y) : x.fmod y = x % y := Int.fmod_eq_emod_of_nonneg x h
theorem raws_body {f s : List Int} (hf : Draw f) (hs : Draw s) {i : Nat} (hi : i < 5) {rs : List (Int × Int)} (hl : rs.length = i) {s4 s5 s6 : Sl} {R : D → Prop} {ES : Er → En → Prop} {N B C : En → Prop}
    (hN : ∀ p q, Rw (p, q) → N [.val (.lst (f.map .int)), .val (.lst (s.map .int)), .own (rs.map pD ++ [pD (p, q)]), .val (.int i), .val (.int p), .val (.int q), s6]) :
    wpS (b__law_raws_1 [.val (.lst (f.map .int)), .val (.lst (s.map .int)), .own (rs.map pD), .val (.int i), s4, s5, s6]) N R ES B C := by
  obtain ⟨a0, ha0, e0⟩ := draw_at hf (i := i) (by omega)
  obtain ⟨a5, ha5, e5⟩ := draw_at hf (i := i + 5) (by omega)
  obtain ⟨a10, ha10, e10⟩ := draw_at hf (i := i + 10) (by omega)
  obtain ⟨b0, hb0, g0⟩ := draw_at hs (i := i) (by omega)
  obtain ⟨b5, hb5, g5⟩ := draw_at hs (i := i + 5) (by omega)
  obtain ⟨b10, hb10, g10⟩ := draw_at hs (i := i + 10) (by omega)
  have hz : rs.length < sizeLine := by rw [hl]; exact Nat.lt_of_lt_of_le hi (by decide)
  simp only [b__law_raws_1, ↓wR_ok, ↓wR_err, ↓wR_bind, ↓wR_of, ↓wO_some, ↓wO_map, ↓wO_bind, ↓w_var0, ↓w_varS, ↓w_eC, ↓w_e1, ↓w_l1, ↓w_e2, ↓w_l2, ↓w_b1, ↓w_b2, ↓w_eB, ↓w_eF, ↓w_lF, ↓w_eCall, ↓w_eLst, ↓w_aNil, ↓w_aCons, ↓w_eTup, ↓w_lDisp, ↓w_eIf, ↓w_bAnd, ↓w_bOr, ↓w_bNot, ↓w_bYes, ↓w_bChain, ↓w_eAnd, ↓w_eOr, ↓w_iAny, ↓w_oNone, ↓w_oSomeC, ↓w_eSl, ↓w_lSlG, ↓w_lComp, ↓w_sSeq, ↓w_sNil, ↓w_sBreak, ↓w_sCont, ↓w_sSet, ↓w_sSetL, ↓w_sExpr, ↓w_sRet, ↓w_sRetN, ↓w_sIf, ↓w_own0, ↓w_ownS, ↓w_sRetO, ↓w_sApp, ↓w_sSetIx, ↓w_sFrz, ↓w_sThen, ↓w_sRaise, ↓w_sAsg, ↓w_sFor, ↓w_sTry, ↓t_name, ↓t_nil, ↓t_cons, ↓o_plus, ↓o_plusL, ↓o_lAdd, ↓o_sub, ↓o_neg, ↓o_mul, ↓o_fdiv, ↓o_mod, ↓o_pow, ↓o_lt, ↓o_le, ↓o_gt, ↓o_ge, ↓o_eq, ↓o_ne, ↓o_truthB, ↓o_truthI, ↓o_truthN, ↓o_truthL, ↓o_truthT, ↓o_truthS, ↓o_notB, ↓o_isNN, ↓o_isBT, ↓o_isBF, ↓o_isT, ↓o_isIB, ↓o_isSB, ↓o_isLB, ↓o_isTB, ↓o_isNB, ↓o_isNot, ↓o_lenL, ↓o_lenT, ↓o_lenS, ↓o_abs, ↓o_intI, ↓o_intB, ↓o_str, ↓o_gcd, ↓o_list, ↓o_listT, ↓o_tuple, ↓o_tupleT, ↓o_rev, ↓o_type, ↓o_isi, ↓o_isi2, ↓o_rg1, ↓o_rg2, ↓o_zip, ↓o_zipT, ↓o_itemsL, ↓o_itemsT, ↓o_ixL, ↓o_ixT, ↓o_at0, ↓o_at1, ↓o_at2, ↓o_at3, ↓o_at4, ↓o_at5, ↓o_at6, ↓o_at7, ↓o_at8, ↓o_at9, ↓o_at10, ↓o_at11, ↓o_at12, ↓o_at13, ↓o_at14, ↓o_at15, ↓w_eIxO, ↓t_tup1, ↓t_tup2, ↓t_tup3, ↓t_tup9, ↓w_okOnly, ↓w_compN, ↓w_compC, ↓o_all, ↓o_any, ↓bls_nil, ↓bls_cons, ↓o_minL, ↓o_maxL, ↓o_sumL, ↓ints_nil, ↓ints_cons, ↓o_min3, ↓o_max3, ↓o_slL, ↓o_slT, ↓w_eBor, ↓w_bBor, o_isN, w_runF, tyName, isSubTy, tyNames, List.getElem?_cons_zero, List.getElem?_cons_succ, List.set_cons_zero, List.set_cons_succ, List.map_cons, List.map_nil, List.replicate_succ, List.replicate_zero, List.length_cons, List.length_nil, List.cons_append, List.nil_append, Nat.reduceAdd, Nat.reduceSub, Nat.reduceLeDiff, Nat.reduceEqDiff, reduceIte, if_true, if_false, Bool.not_true, Bool.not_false, Bool.true_and, Bool.and_true, Bool.false_and, Bool.and_false, Bool.true_or, Bool.false_or, Bool.or_true, Bool.or_false, reduceCtorEq, decide_true, decide_false, beq_self_eq_true, List.mem_cons, true_or, or_true, true_and, and_true, false_and, and_false, or_false, false_or, String.reduceEq, String.reduceBEq, List.not_mem_nil, Bool.not_eq_true, Bool.false_eq_true, eq_self, not_true_eq_false, not_false_eq_true, Bool.not_eq_eq_eq_not, decide_eq_true_eq, decide_eq_false_iff_not, bne_iff_ne, ne_eq, Int.reduceLT, Int.reduceLE, Int.reduceMul, Int.reduceAdd, Int.reduceNeg, Int.reduceToNat, Int.reducePow, Nat.reduceLT, Int.reduceEq, Int.reduceSub, zipD, List.zipWith_cons_cons, List.zipWith_nil_left, List.zipWith_nil_right, List.all_cons, List.all_nil, id_eq, scalD, borE, wipeE, noOwn, sz_0, szl_0, sz_1, szl_1, sz_2, szl_2, sz_3, szl_3, sz_4, szl_4, sz_5, szl_5, sz_6, szl_6, sz_7, szl_7, sz_8, szl_8, sz_9, szl_9, sz_10, szl_10, sz_11, szl_11, sz_12, szl_12, sz_13, szl_13, sz_14, szl_14, sz_15, szl_15, sz_16, szl_16, sz_17, szl_17, sz_18, szl_18, sz_19, szl_19, sz_20, szl_20, sz_21, szl_21, sz_22, szl_22, sz_23, szl_23, sz_24, szl_24, sz_25, szl_25, sz_26, szl_26, sz_27, szl_27, sz_28, szl_28, sz_29, szl_29, sz_30, szl_30, sz_31, szl_31, sz_32, szl_32, frz, List.all_cons, List.all_nil, e0 _ rfl, e5 ((i : Int) + 5) (by omega), e10 ((i : Int) + 10) (by omega), g0 _ rfl, g5 ((i : Int) + 5) (by omega), g10 ((i : Int) + 10) (by omega), List.length_map]
  have fin : ∀ p q : Int, p.natAbs < 2 ^ 35 → q ≠ 0 → q.natAbs < 2 ^ 20 → rs.length < sizeLine ∧ N [.val (.lst (f.map .int)), .val (.lst (s.map .int)), .own (rs.map pD ++ [.tup [.int p, .int q]]), .val (.int i), .val (.int p), .val (.int q), s6] :=
    fun p q h1 h2 h3 => ⟨hz, hN p q ⟨h1, h2, h3⟩⟩
  simp only [fmod_eq _ (show (0 : Int) ≤ 7 from by decide), fmod_eq _ (show (0 : Int) ≤ 6 from by decide), fmod_eq _ (show (0 : Int) ≤ 4 from by decide), fmod_eq _ (show (0 : Int) ≤ 2 from by decide)]
  have sm : ∀ z : Int, -(2 ^ 100 : Int) < z → z < 2 ^ 100 → Sm z := fun z h1 h2 => Sm.lt (by omega) (by omega)
  repeat' split
  all_goals (repeat' (first | (exact fin _ _ (by omega) (by omega) (by omega)) | refine And.intro ?_ ?_))
  all_goals first | (exact sm _ (by omega) (by omega)) | omega | skip
theorem raws_ok {f s : List Int} (hf : Draw f) (hs : Draw s) : ∃ (r0 r1 r2 r3 r4 : Int × Int) (m : Int), Rw r0 ∧ Rw r1 ∧ Rw r2 ∧ Rw r3 ∧ Rw r4 ∧ 2 ≤ m ∧ m ≤ 4 ∧
    m__law_raws [.lst (f.map .int), .lst (s.map .int)] = .ok (.lst [pD r0, pD r1, pD r2, pD r3, pD r4, pD (-3 * r0.1, 3 * r0.2), pD (-m * r1.1, -m * r1.2)]) := by
  suffices h : wpR (m__law_raws [.lst (f.map .int), .lst (s.map .int)]) (fun d => ∃ (r0 r1 r2 r3 r4 : Int × Int) (m : Int), Rw r0 ∧ Rw r1 ∧ Rw r2 ∧ Rw r3 ∧ Rw r4 ∧ 2 ≤ m ∧ m ≤ 4 ∧ d = .lst [pD r0, pD r1, pD r2, pD r3, pD r4, pD (-3 * r0.1, 3 * r0.2), pD (-m * r1.1, -m * r1.2)]) (fun _ => False) by
    revert h
    cases m__law_raws [.lst (f.map .int), .lst (s.map .int)] with
    | ok d => rintro ⟨r0, r1, r2, r3, r4, m, h0, h1, h2, h3, h4, h5, h6, rfl⟩; exact ⟨r0, r1, r2, r3, r4, m, h0, h1, h2, h3, h4, h5, h6, rfl⟩
    | err e => exact fun h => h.elim
    | stuck => exact fun h => h.elim
  obtain ⟨a15, ha15, e15⟩ := draw_at hf (i := 15) (by omega)
  have e15 := e15 15 rfl
  simp only [m__law_raws, g__law_raws, ↓wR_ok, ↓wR_err, ↓wR_bind, ↓wR_of, ↓wO_some, ↓wO_map, ↓wO_bind, ↓w_var0, ↓w_varS, ↓w_eC, ↓w_e1, ↓w_l1, ↓w_e2, ↓w_l2, ↓w_b1, ↓w_b2, ↓w_eB, ↓w_eF, ↓w_lF, ↓w_eCall, ↓w_eLst, ↓w_aNil, ↓w_aCons, ↓w_eTup, ↓w_lDisp, ↓w_eIf, ↓w_bAnd, ↓w_bOr, ↓w_bNot, ↓w_bYes, ↓w_bChain, ↓w_eAnd, ↓w_eOr, ↓w_iAny, ↓w_oNone, ↓w_oSomeC, ↓w_eSl, ↓w_lSlG, ↓w_lComp, ↓w_sSeq, ↓w_sNil, ↓w_sBreak, ↓w_sCont, ↓w_sSet, ↓w_sSetL, ↓w_sExpr, ↓w_sRet, ↓w_sRetN, ↓w_sIf, ↓w_own0, ↓w_ownS, ↓w_sRetO, ↓w_sApp, ↓w_sSetIx, ↓w_sFrz, ↓w_sThen, ↓w_sRaise, ↓w_sAsg, ↓w_sFor, ↓w_sTry, ↓t_name, ↓t_nil, ↓t_cons, ↓o_plus, ↓o_plusL, ↓o_lAdd, ↓o_sub, ↓o_neg, ↓o_mul, ↓o_fdiv, ↓o_mod, ↓o_pow, ↓o_lt, ↓o_le, ↓o_gt, ↓o_ge, ↓o_eq, ↓o_ne, ↓o_truthB, ↓o_truthI, ↓o_truthN, ↓o_truthL, ↓o_truthT, ↓o_truthS, ↓o_notB, ↓o_isNN, ↓o_isBT, ↓o_isBF, ↓o_isT, ↓o_isIB, ↓o_isSB, ↓o_isLB, ↓o_isTB, ↓o_isNB, ↓o_isNot, ↓o_lenL, ↓o_lenT, ↓o_lenS, ↓o_abs, ↓o_intI, ↓o_intB, ↓o_str, ↓o_gcd, ↓o_list, ↓o_listT, ↓o_tuple, ↓o_tupleT, ↓o_rev, ↓o_type, ↓o_isi, ↓o_isi2, ↓o_rg1, ↓o_rg2, ↓o_zip, ↓o_zipT, ↓o_itemsL, ↓o_itemsT, ↓o_ixL, ↓o_ixT, ↓o_at0, ↓o_at1, ↓o_at2, ↓o_at3, ↓o_at4, ↓o_at5, ↓o_at6, ↓o_at7, ↓o_at8, ↓o_at9, ↓o_at10, ↓o_at11, ↓o_at12, ↓o_at13, ↓o_at14, ↓o_at15, ↓w_eIxO, ↓t_tup1, ↓t_tup2, ↓t_tup3, ↓t_tup9, ↓w_okOnly, ↓w_compN, ↓w_compC, ↓o_all, ↓o_any, ↓bls_nil, ↓bls_cons, ↓o_minL, ↓o_maxL, ↓o_sumL, ↓ints_nil, ↓ints_cons, ↓o_min3, ↓o_max3, ↓o_slL, ↓o_slT, ↓w_eBor, ↓w_bBor, o_isN, w_runF, tyName, isSubTy, tyNames, List.getElem?_cons_zero, List.getElem?_cons_succ, List.set_cons_zero, List.set_cons_succ, List.map_cons, List.map_nil, List.replicate_succ, List.replicate_zero, List.length_cons, List.length_nil, List.cons_append, List.nil_append, Nat.reduceAdd, Nat.reduceSub, Nat.reduceLeDiff, Nat.reduceEqDiff, reduceIte, if_true, if_false, Bool.not_true, Bool.not_false, Bool.true_and, Bool.and_true, Bool.false_and, Bool.and_false, Bool.true_or, Bool.false_or, Bool.or_true, Bool.or_false, reduceCtorEq, decide_true, decide_false, beq_self_eq_true, List.mem_cons, true_or, or_true, true_and, and_true, false_and, and_false, or_false, false_or, String.reduceEq, String.reduceBEq, List.not_mem_nil, Bool.not_eq_true, Bool.false_eq_true, eq_self, not_true_eq_false, not_false_eq_true, Bool.not_eq_eq_eq_not, decide_eq_true_eq, decide_eq_false_iff_not, bne_iff_ne, ne_eq, Int.reduceLT, Int.reduceLE, Int.reduceMul, Int.reduceAdd, Int.reduceNeg, Int.reduceToNat, Int.reducePow, Nat.reduceLT, Int.reduceEq, Int.reduceSub, zipD, List.zipWith_cons_cons, List.zipWith_nil_left, List.zipWith_nil_right, List.all_cons, List.all_nil, id_eq, scalD, borE, wipeE, noOwn, sz_0, szl_0, sz_1, szl_1, sz_2, szl_2, sz_3, szl_3, sz_4, szl_4, sz_5, szl_5, sz_6, szl_6, sz_7, szl_7, sz_8, szl_8, sz_9, szl_9, sz_10, szl_10, sz_11, szl_11, sz_12, szl_12, sz_13, szl_13, sz_14, szl_14, sz_15, szl_15, sz_16, szl_16, sz_17, szl_17, sz_18, szl_18, sz_19, szl_19, sz_20, szl_20, sz_21, szl_21, sz_22, szl_22, sz_23, szl_23, sz_24, szl_24, sz_25, szl_25, sz_26, szl_26, sz_27, szl_27, sz_28, szl_28, sz_29, szl_29, sz_30, szl_30, sz_31, szl_31, sz_32, szl_32, frz, List.all_cons, List.all_nil]
  refine w_forI (fun i e => ∃ (rs : List (Int × Int)) (s3 s4 s5 s6 : Sl), rs.length = i ∧ (∀ r ∈ rs, Rw r) ∧ e = [.val (.lst (f.map .int)), .val (.lst (s.map .int)), .own (rs.map pD), s3, s4, s5, s6]) ⟨[], .unk, .unk, .unk, .unk, rfl, by simp, rfl⟩ ?_ ?_
  · rintro i d env hd ⟨rs, s3, s4, s5, s6, h1, h2, rfl⟩
    obtain ⟨rfl, hi⟩ := rangeD_get hd
    rw [t_name]
    simp only [List.set_cons_succ, List.set_cons_zero]
    rw [show (0 : Int) + (i : Int) = (i : Int) from by omega]
    refine raws_body hf hs hi h1 fun p q hr => ⟨rs ++ [(p, q)], _, _, _, _, by simp [h1], fun r hrm => ?_, by rw [List.map_append]; rfl⟩
    rcases List.mem_append.mp hrm with e | e
    · exact h2 r e
    · rw [List.mem_singleton.mp e]; exact hr
  · rintro env ⟨rs, s3, s4, s5, s6, h1, h2, rfl⟩
    match rs, h1, h2 with
    | [r0, r1, r2, r3, r4], _, h2 =>
      simp only [r__law_raws_2, pD, ↓wR_ok, ↓wR_err, ↓wR_bind, ↓wR_of, ↓wO_some, ↓wO_map, ↓wO_bind, ↓w_var0, ↓w_varS, ↓w_eC, ↓w_e1, ↓w_l1, ↓w_e2, ↓w_l2, ↓w_b1, ↓w_b2, ↓w_eB, ↓w_eF, ↓w_lF, ↓w_eCall, ↓w_eLst, ↓w_aNil, ↓w_aCons, ↓w_eTup, ↓w_lDisp, ↓w_eIf, ↓w_bAnd, ↓w_bOr, ↓w_bNot, ↓w_bYes, ↓w_bChain, ↓w_eAnd, ↓w_eOr, ↓w_iAny, ↓w_oNone, ↓w_oSomeC, ↓w_eSl, ↓w_lSlG, ↓w_lComp, ↓w_sSeq, ↓w_sNil, ↓w_sBreak, ↓w_sCont, ↓w_sSet, ↓w_sSetL, ↓w_sExpr, ↓w_sRet, ↓w_sRetN, ↓w_sIf, ↓w_own0, ↓w_ownS, ↓w_sRetO, ↓w_sApp, ↓w_sSetIx, ↓w_sFrz, ↓w_sThen, ↓w_sRaise, ↓w_sAsg, ↓w_sFor, ↓w_sTry, ↓t_name, ↓t_nil, ↓t_cons, ↓o_plus, ↓o_plusL, ↓o_lAdd, ↓o_sub, ↓o_neg, ↓o_mul, ↓o_fdiv, ↓o_mod, ↓o_pow, ↓o_lt, ↓o_le, ↓o_gt, ↓o_ge, ↓o_eq, ↓o_ne, ↓o_truthB, ↓o_truthI, ↓o_truthN, ↓o_truthL, ↓o_truthT, ↓o_truthS, ↓o_notB, ↓o_isNN, ↓o_isBT, ↓o_isBF, ↓o_isT, ↓o_isIB, ↓o_isSB, ↓o_isLB, ↓o_isTB, ↓o_isNB, ↓o_isNot, ↓o_lenL, ↓o_lenT, ↓o_lenS, ↓o_abs, ↓o_intI, ↓o_intB, ↓o_str, ↓o_gcd, ↓o_list, ↓o_listT, ↓o_tuple, ↓o_tupleT, ↓o_rev, ↓o_type, ↓o_isi, ↓o_isi2, ↓o_rg1, ↓o_rg2, ↓o_zip, ↓o_zipT, ↓o_itemsL, ↓o_itemsT, ↓o_ixL, ↓o_ixT, ↓o_at0, ↓o_at1, ↓o_at2, ↓o_at3, ↓o_at4, ↓o_at5, ↓o_at6, ↓o_at7, ↓o_at8, ↓o_at9, ↓o_at10, ↓o_at11, ↓o_at12, ↓o_at13, ↓o_at14, ↓o_at15, ↓w_eIxO, ↓t_tup1, ↓t_tup2, ↓t_tup3, ↓t_tup9, ↓w_okOnly, ↓w_compN, ↓w_compC, ↓o_all, ↓o_any, ↓bls_nil, ↓bls_cons, ↓o_minL, ↓o_maxL, ↓o_sumL, ↓ints_nil, ↓ints_cons, ↓o_min3, ↓o_max3, ↓o_slL, ↓o_slT, ↓w_eBor, ↓w_bBor, o_isN, w_runF, tyName, isSubTy, tyNames, List.getElem?_cons_zero, List.getElem?_cons_succ, List.set_cons_zero, List.set_cons_succ, List.map_cons, List.map_nil, List.replicate_succ, List.replicate_zero, List.length_cons, List.length_nil, List.cons_append, List.nil_append, Nat.reduceAdd, Nat.reduceSub, Nat.reduceLeDiff, Nat.reduceEqDiff, reduceIte, if_true, if_false, Bool.not_true, Bool.not_false, Bool.true_and, Bool.and_true, Bool.false_and, Bool.and_false, Bool.true_or, Bool.false_or, Bool.or_true, Bool.or_false, reduceCtorEq, decide_true, decide_false, beq_self_eq_true, List.mem_cons, true_or, or_true, true_and, and_true, false_and, and_false, or_false, false_or, String.reduceEq, String.reduceBEq, List.not_mem_nil, Bool.not_eq_true, Bool.false_eq_true, eq_self, not_true_eq_false, not_false_eq_true, Bool.not_eq_eq_eq_not, decide_eq_true_eq, decide_eq_false_iff_not, bne_iff_ne, ne_eq, Int.reduceLT, Int.reduceLE, Int.reduceMul, Int.reduceAdd, Int.reduceNeg, Int.reduceToNat, Int.reducePow, Nat.reduceLT, Int.reduceEq, Int.reduceSub, zipD, List.zipWith_cons_cons, List.zipWith_nil_left, List.zipWith_nil_right, List.all_cons, List.all_nil, id_eq, scalD, borE, wipeE, noOwn, sz_0, szl_0, sz_1, szl_1, sz_2, szl_2, sz_3, szl_3, sz_4, szl_4, sz_5, szl_5, sz_6, szl_6, sz_7, szl_7, sz_8, szl_8, sz_9, szl_9, sz_10, szl_10, sz_11, szl_11, sz_12, szl_12, sz_13, szl_13, sz_14, szl_14, sz_15, szl_15, sz_16, szl_16, sz_17, szl_17, sz_18, szl_18, sz_19, szl_19, sz_20, szl_20, sz_21, szl_21, sz_22, szl_22, sz_23, szl_23, sz_24, szl_24, sz_25, szl_25, sz_26, szl_26, sz_27, szl_27, sz_28, szl_28, sz_29, szl_29, sz_30, szl_30, sz_31, szl_31, sz_32, szl_32, frz, List.all_cons, List.all_nil, e15]
      have q0 := h2 r0 (by simp)
      have q1 := h2 r1 (by simp)
      have m3 := fmod_pos a15 (show (0 : Int) < 3 from by decide)
      exact ⟨⟨Sm.lt (by decide) (by decide), sm_of (lt_up q0.1 (by decide))⟩, ⟨Sm.lt (by decide) (by decide), sm_of (lt_up q0.2.2 (by decide))⟩, ⟨Sm.lt (by omega) (by omega), sm_of (lt_up q1.1 (by decide))⟩, ⟨Sm.lt (by omega) (by omega), sm_of (lt_up q1.2.2 (by decide))⟩,
        r0, r1, r2, r3, r4, 2 + a15.fmod 3, q0, q1, h2 r2 (by simp), h2 r3 (by simp), h2 r4 (by simp), by omega, by omega, rfl⟩
end AF

namespace AF
open PySem PySem.Spec PyProof.Rows L2
theorem o_rq0 {x : Rat} {Q : D → Prop} : wpO (dIx (rq x) (.int 0)) Q = Q (.int x.num) := o_at0
theorem o_rq1 {x : Rat} {Q : D → Prop} : wpO (dIx (rq x) (.int 1)) Q = Q (.int x.den) := o_at1
def Sz (x : Rat) : Prop := x.num.natAbs < 2 ^ 35 ∧ x.den < 2 ^ 20
theorem Sz.bd {x : Rat} (h : Sz x) : Bd x := ⟨lt_up h.1 (by decide), Nat.lt_of_lt_of_le h.2 (by decide)⟩
theorem Sz.n {x : Rat} (h : Sz x) : ((x.den : Int)).natAbs < 2 ^ 20 := by have := h.2; omega
theorem sgn_mul (i : Int) {k : Int} (hk : 0 < k) : sgn (i * k) = sgn i := by
  unfold sgn
  by_cases h1 : 0 < i
  · rw [if_pos h1, if_pos (Int.mul_pos h1 hk)]
  · by_cases h2 : i < 0
    · rw [if_neg h1, if_pos h2, if_neg (by have := Int.mul_neg_of_neg_of_pos h2 hk; omega), if_pos (Int.mul_neg_of_neg_of_pos h2 hk)]
    · have : i = 0 := by omega
      subst this
      simp
theorem sgn_num (p : Int) {q : Int} (hq : 0 < q) : sgn (Rat.divInt p q).num = sgn p := by
  have h := low_ok p q (by omega)
  have hs : shOf p q = ((Nat.gcd p.natAbs q.natAbs : Nat) : Int) := if_pos hq
  rw [hs] at h
  have hg : Nat.gcd p.natAbs q.natAbs ≠ 0 := by
    intro h
    have := Nat.eq_zero_of_gcd_eq_zero_right h
    omega
  obtain ⟨a, ha⟩ : ((Nat.gcd p.natAbs q.natAbs : Nat) : Int) ∣ p := Int.ofNat_dvd_left.mpr (Nat.gcd_dvd_left _ _)
  generalize Nat.gcd p.natAbs q.natAbs = g at *
  have e : p.fdiv g = a := by rw [ha, Int.mul_fdiv_cancel_left _ (by omega)]
  rw [← h.1, e]
  conv => rhs; rw [ha, Int.mul_comm]
  rw [sgn_mul _ (by omega)]
theorem den_pos (x : Rat) : (0 : Int) < x.den := by have := x.den_nz; omega
theorem nat_mul {a b n m : Nat} (h1 : a < 2 ^ n) (h2 : b < 2 ^ m) : a * b < 2 ^ (n + m) := by
  rw [Nat.pow_add]
  exact Nat.mul_lt_mul'' h1 h2
theorem pairs_body {x y : Rat} (hx : Sz x) (hy : Sz y) {dl : D} {s3 s4 s5 s6 : Sl} {R : D → Prop} {ES : Er → En → Prop} {N B C : En → Prop}
    (hN : ∀ s3 s4 s5 s6, N [.val dl, .val (rq x), .val (rq y), s3, s4, s5, s6]) :
    wpS (b__law_pairs_hold_1 [.val dl, .val (rq x), .val (rq y), s3, s4, s5, s6]) N R ES B C := by
  have a1 := mul_lt hx.1 hy.n
  have a2 := mul_lt hy.1 hx.n
  have a3 := mul_lt hx.n hy.n
  have a4 := mul_lt hx.1 hy.1
  have a5 := mul_lt hx.n hy.1
  have l1 := lowest_ok (x.num * y.den + y.num * x.den) (x.den * y.den) (den_mul_ne x y) (lt_up a3 (by decide)) (Nat.lt_of_lt_of_le (nat_mul (add_lt a1 a2) a3) (by decide))
  have l2 := lowest_ok (x.num * y.den - y.num * x.den) (x.den * y.den) (den_mul_ne x y) (lt_up a3 (by decide)) (Nat.lt_of_lt_of_le (nat_mul (sub_lt a1 a2) a3) (by decide))
  have l3 := lowest_ok (x.num * y.num) (x.den * y.den) (den_mul_ne x y) (lt_up a3 (by decide)) (Nat.lt_of_lt_of_le (nat_mul a4 a3) (by decide))
  rw [plus_eq] at l1
  rw [minus_eq] at l2
  rw [times_eq] at l3
  have l4 := order_ok x.num x.den y.num y.den (lt_up hx.1 (by decide)) (lt_up hx.n (by decide)) (lt_up hy.1 (by decide)) (lt_up hy.n (by decide))
  have l5 : sgn (x.num * y.den - y.num * x.den) = sgn (x - y).num := by rw [← minus_eq, sgn_num _ (Int.mul_pos (den_pos x) (den_pos y))]
  rw [l5] at l4
  have sm1 : Sm x.num := sm_of (lt_up hx.1 (by decide))
  have sm2 : Sm (x.den : Int) := sm_of (lt_up hx.n (by decide))
  have sm3 : Sm y.num := sm_of (lt_up hy.1 (by decide))
  have sm4 : Sm (y.den : Int) := sm_of (lt_up hy.n (by decide))
  by_cases h0 : y.num = 0
  · have s0 := same_ok 40 (.lst [rq (x + y), rq (x - y), rq (x * y), .int (sgn (x - y).num), .lst []]) rfl
    have l7 := lover_no x y hx.bd hy.bd h0
    simp only [b__law_pairs_hold_1, ↓wR_ok, ↓wR_err, ↓wR_bind, ↓wR_of, ↓wO_some, ↓wO_map, ↓wO_bind, ↓w_var0, ↓w_varS, ↓w_eC, ↓w_e1, ↓w_l1, ↓w_e2, ↓w_l2, ↓w_b1, ↓w_b2, ↓w_eB, ↓w_eF, ↓w_lF, ↓w_eCall, ↓w_eLst, ↓w_aNil, ↓w_aCons, ↓w_eTup, ↓w_lDisp, ↓w_eIf, ↓w_bAnd, ↓w_bOr, ↓w_bNot, ↓w_bYes, ↓w_bChain, ↓w_eAnd, ↓w_eOr, ↓w_iAny, ↓w_oNone, ↓w_oSomeC, ↓w_eSl, ↓w_lSlG, ↓w_lComp, ↓w_sSeq, ↓w_sNil, ↓w_sBreak, ↓w_sCont, ↓w_sSet, ↓w_sSetL, ↓w_sExpr, ↓w_sRet, ↓w_sRetN, ↓w_sIf, ↓w_own0, ↓w_ownS, ↓w_sRetO, ↓w_sApp, ↓w_sSetIx, ↓w_sFrz, ↓w_sThen, ↓w_sRaise, ↓w_sAsg, ↓w_sFor, ↓w_sTry, ↓t_name, ↓t_nil, ↓t_cons, ↓o_plus, ↓o_plusL, ↓o_lAdd, ↓o_sub, ↓o_neg, ↓o_mul, ↓o_fdiv, ↓o_mod, ↓o_pow, ↓o_lt, ↓o_le, ↓o_gt, ↓o_ge, ↓o_eq, ↓o_ne, ↓o_truthB, ↓o_truthI, ↓o_truthN, ↓o_truthL, ↓o_truthT, ↓o_truthS, ↓o_notB, ↓o_isNN, ↓o_isBT, ↓o_isBF, ↓o_isT, ↓o_isIB, ↓o_isSB, ↓o_isLB, ↓o_isTB, ↓o_isNB, ↓o_isNot, ↓o_lenL, ↓o_lenT, ↓o_lenS, ↓o_abs, ↓o_intI, ↓o_intB, ↓o_str, ↓o_gcd, ↓o_list, ↓o_listT, ↓o_tuple, ↓o_tupleT, ↓o_rev, ↓o_type, ↓o_isi, ↓o_isi2, ↓o_rg1, ↓o_rg2, ↓o_zip, ↓o_zipT, ↓o_itemsL, ↓o_itemsT, ↓o_ixL, ↓o_ixT, ↓o_at0, ↓o_at1, ↓o_at2, ↓o_at3, ↓o_at4, ↓o_at5, ↓o_at6, ↓o_at7, ↓o_at8, ↓o_at9, ↓o_at10, ↓o_at11, ↓o_at12, ↓o_at13, ↓o_at14, ↓o_at15, ↓w_eIxO, ↓t_tup1, ↓t_tup2, ↓t_tup3, ↓t_tup9, ↓w_okOnly, ↓w_compN, ↓w_compC, ↓o_all, ↓o_any, ↓bls_nil, ↓bls_cons, ↓o_minL, ↓o_maxL, ↓o_sumL, ↓ints_nil, ↓ints_cons, ↓o_min3, ↓o_max3, ↓o_slL, ↓o_slT, ↓w_eBor, ↓w_bBor, o_isN, w_runF, tyName, isSubTy, tyNames, List.getElem?_cons_zero, List.getElem?_cons_succ, List.set_cons_zero, List.set_cons_succ, List.map_cons, List.map_nil, List.replicate_succ, List.replicate_zero, List.length_cons, List.length_nil, List.cons_append, List.nil_append, Nat.reduceAdd, Nat.reduceSub, Nat.reduceLeDiff, Nat.reduceEqDiff, reduceIte, if_true, if_false, Bool.not_true, Bool.not_false, Bool.true_and, Bool.and_true, Bool.false_and, Bool.and_false, Bool.true_or, Bool.false_or, Bool.or_true, Bool.or_false, reduceCtorEq, decide_true, decide_false, beq_self_eq_true, List.mem_cons, true_or, or_true, true_and, and_true, false_and, and_false, or_false, false_or, String.reduceEq, String.reduceBEq, List.not_mem_nil, Bool.not_eq_true, Bool.false_eq_true, eq_self, not_true_eq_false, not_false_eq_true, Bool.not_eq_eq_eq_not, decide_eq_true_eq, decide_eq_false_iff_not, bne_iff_ne, ne_eq, Int.reduceLT, Int.reduceLE, Int.reduceMul, Int.reduceAdd, Int.reduceNeg, Int.reduceToNat, Int.reducePow, Nat.reduceLT, Int.reduceEq, Int.reduceSub, zipD, List.zipWith_cons_cons, List.zipWith_nil_left, List.zipWith_nil_right, List.all_cons, List.all_nil, id_eq, scalD, borE, wipeE, noOwn, sz_0, szl_0, sz_1, szl_1, sz_2, szl_2, sz_3, szl_3, sz_4, szl_4, sz_5, szl_5, sz_6, szl_6, sz_7, szl_7, sz_8, szl_8, sz_9, szl_9, sz_10, szl_10, sz_11, szl_11, sz_12, szl_12, sz_13, szl_13, sz_14, szl_14, sz_15, szl_15, sz_16, szl_16, sz_17, szl_17, sz_18, szl_18, sz_19, szl_19, sz_20, szl_20, sz_21, szl_21, sz_22, szl_22, sz_23, szl_23, sz_24, szl_24, sz_25, szl_25, sz_26, szl_26, sz_27, szl_27, sz_28, szl_28, sz_29, szl_29, sz_30, szl_30, sz_31, szl_31, sz_32, szl_32, frz, List.all_cons, List.all_nil, o_rq0, o_rq1, plus_ok x y hx.bd hy.bd, minus_ok x y hx.bd hy.bd, times_ok x y hx.bd hy.bd, compare_ok x y hx.bd hy.bd, l1, l2, l3, l4, l7, s0, sm1, sm2, sm3, sm4]
    rw [if_neg (fun h => h h0)]
    exact hN _ _ _ _
  · have l6 := lowest_ok (x.num * y.den) (x.den * y.num) (Int.mul_ne_zero (den_ne x) h0) (lt_up a5 (by decide)) (Nat.lt_of_lt_of_le (nat_mul a1 a5) (by decide))
    rw [over_eq] at l6
    have l7 := lover_ok x y hx.bd hy.bd h0
    have s0 := same_ok 40 (.lst [rq (x + y), rq (x - y), rq (x * y), .int (sgn (x - y).num), .lst [rq (x * y⁻¹)]]) rfl
    simp only [b__law_pairs_hold_1, ↓wR_ok, ↓wR_err, ↓wR_bind, ↓wR_of, ↓wO_some, ↓wO_map, ↓wO_bind, ↓w_var0, ↓w_varS, ↓w_eC, ↓w_e1, ↓w_l1, ↓w_e2, ↓w_l2, ↓w_b1, ↓w_b2, ↓w_eB, ↓w_eF, ↓w_lF, ↓w_eCall, ↓w_eLst, ↓w_aNil, ↓w_aCons, ↓w_eTup, ↓w_lDisp, ↓w_eIf, ↓w_bAnd, ↓w_bOr, ↓w_bNot, ↓w_bYes, ↓w_bChain, ↓w_eAnd, ↓w_eOr, ↓w_iAny, ↓w_oNone, ↓w_oSomeC, ↓w_eSl, ↓w_lSlG, ↓w_lComp, ↓w_sSeq, ↓w_sNil, ↓w_sBreak, ↓w_sCont, ↓w_sSet, ↓w_sSetL, ↓w_sExpr, ↓w_sRet, ↓w_sRetN, ↓w_sIf, ↓w_own0, ↓w_ownS, ↓w_sRetO, ↓w_sApp, ↓w_sSetIx, ↓w_sFrz, ↓w_sThen, ↓w_sRaise, ↓w_sAsg, ↓w_sFor, ↓w_sTry, ↓t_name, ↓t_nil, ↓t_cons, ↓o_plus, ↓o_plusL, ↓o_lAdd, ↓o_sub, ↓o_neg, ↓o_mul, ↓o_fdiv, ↓o_mod, ↓o_pow, ↓o_lt, ↓o_le, ↓o_gt, ↓o_ge, ↓o_eq, ↓o_ne, ↓o_truthB, ↓o_truthI, ↓o_truthN, ↓o_truthL, ↓o_truthT, ↓o_truthS, ↓o_notB, ↓o_isNN, ↓o_isBT, ↓o_isBF, ↓o_isT, ↓o_isIB, ↓o_isSB, ↓o_isLB, ↓o_isTB, ↓o_isNB, ↓o_isNot, ↓o_lenL, ↓o_lenT, ↓o_lenS, ↓o_abs, ↓o_intI, ↓o_intB, ↓o_str, ↓o_gcd, ↓o_list, ↓o_listT, ↓o_tuple, ↓o_tupleT, ↓o_rev, ↓o_type, ↓o_isi, ↓o_isi2, ↓o_rg1, ↓o_rg2, ↓o_zip, ↓o_zipT, ↓o_itemsL, ↓o_itemsT, ↓o_ixL, ↓o_ixT, ↓o_at0, ↓o_at1, ↓o_at2, ↓o_at3, ↓o_at4, ↓o_at5, ↓o_at6, ↓o_at7, ↓o_at8, ↓o_at9, ↓o_at10, ↓o_at11, ↓o_at12, ↓o_at13, ↓o_at14, ↓o_at15, ↓w_eIxO, ↓t_tup1, ↓t_tup2, ↓t_tup3, ↓t_tup9, ↓w_okOnly, ↓w_compN, ↓w_compC, ↓o_all, ↓o_any, ↓bls_nil, ↓bls_cons, ↓o_minL, ↓o_maxL, ↓o_sumL, ↓ints_nil, ↓ints_cons, ↓o_min3, ↓o_max3, ↓o_slL, ↓o_slT, ↓w_eBor, ↓w_bBor, o_isN, w_runF, tyName, isSubTy, tyNames, List.getElem?_cons_zero, List.getElem?_cons_succ, List.set_cons_zero, List.set_cons_succ, List.map_cons, List.map_nil, List.replicate_succ, List.replicate_zero, List.length_cons, List.length_nil, List.cons_append, List.nil_append, Nat.reduceAdd, Nat.reduceSub, Nat.reduceLeDiff, Nat.reduceEqDiff, reduceIte, if_true, if_false, Bool.not_true, Bool.not_false, Bool.true_and, Bool.and_true, Bool.false_and, Bool.and_false, Bool.true_or, Bool.false_or, Bool.or_true, Bool.or_false, reduceCtorEq, decide_true, decide_false, beq_self_eq_true, List.mem_cons, true_or, or_true, true_and, and_true, false_and, and_false, or_false, false_or, String.reduceEq, String.reduceBEq, List.not_mem_nil, Bool.not_eq_true, Bool.false_eq_true, eq_self, not_true_eq_false, not_false_eq_true, Bool.not_eq_eq_eq_not, decide_eq_true_eq, decide_eq_false_iff_not, bne_iff_ne, ne_eq, Int.reduceLT, Int.reduceLE, Int.reduceMul, Int.reduceAdd, Int.reduceNeg, Int.reduceToNat, Int.reducePow, Nat.reduceLT, Int.reduceEq, Int.reduceSub, zipD, List.zipWith_cons_cons, List.zipWith_nil_left, List.zipWith_nil_right, List.all_cons, List.all_nil, id_eq, scalD, borE, wipeE, noOwn, sz_0, szl_0, sz_1, szl_1, sz_2, szl_2, sz_3, szl_3, sz_4, szl_4, sz_5, szl_5, sz_6, szl_6, sz_7, szl_7, sz_8, szl_8, sz_9, szl_9, sz_10, szl_10, sz_11, szl_11, sz_12, szl_12, sz_13, szl_13, sz_14, szl_14, sz_15, szl_15, sz_16, szl_16, sz_17, szl_17, sz_18, szl_18, sz_19, szl_19, sz_20, szl_20, sz_21, szl_21, sz_22, szl_22, sz_23, szl_23, sz_24, szl_24, sz_25, szl_25, sz_26, szl_26, sz_27, szl_27, sz_28, szl_28, sz_29, szl_29, sz_30, szl_30, sz_31, szl_31, sz_32, szl_32, frz, List.all_cons, List.all_nil, o_rq0, o_rq1, plus_ok x y hx.bd hy.bd, minus_ok x y hx.bd hy.bd, times_ok x y hx.bd hy.bd, compare_ok x y hx.bd hy.bd, l1, l2, l3, l4, l6, l7, s0, sm1, sm2, sm3, sm4]
    rw [if_pos h0, show ixN 5 4 = some 4 from rfl]
    simp only [↓wR_ok, ↓wR_err, ↓wR_bind, ↓wR_of, ↓wO_some, ↓wO_map, ↓wO_bind, ↓w_var0, ↓w_varS, ↓w_eC, ↓w_e1, ↓w_l1, ↓w_e2, ↓w_l2, ↓w_b1, ↓w_b2, ↓w_eB, ↓w_eF, ↓w_lF, ↓w_eCall, ↓w_eLst, ↓w_aNil, ↓w_aCons, ↓w_eTup, ↓w_lDisp, ↓w_eIf, ↓w_bAnd, ↓w_bOr, ↓w_bNot, ↓w_bYes, ↓w_bChain, ↓w_eAnd, ↓w_eOr, ↓w_iAny, ↓w_oNone, ↓w_oSomeC, ↓w_eSl, ↓w_lSlG, ↓w_lComp, ↓w_sSeq, ↓w_sNil, ↓w_sBreak, ↓w_sCont, ↓w_sSet, ↓w_sSetL, ↓w_sExpr, ↓w_sRet, ↓w_sRetN, ↓w_sIf, ↓w_own0, ↓w_ownS, ↓w_sRetO, ↓w_sApp, ↓w_sSetIx, ↓w_sFrz, ↓w_sThen, ↓w_sRaise, ↓w_sAsg, ↓w_sFor, ↓w_sTry, ↓t_name, ↓t_nil, ↓t_cons, ↓o_plus, ↓o_plusL, ↓o_lAdd, ↓o_sub, ↓o_neg, ↓o_mul, ↓o_fdiv, ↓o_mod, ↓o_pow, ↓o_lt, ↓o_le, ↓o_gt, ↓o_ge, ↓o_eq, ↓o_ne, ↓o_truthB, ↓o_truthI, ↓o_truthN, ↓o_truthL, ↓o_truthT, ↓o_truthS, ↓o_notB, ↓o_isNN, ↓o_isBT, ↓o_isBF, ↓o_isT, ↓o_isIB, ↓o_isSB, ↓o_isLB, ↓o_isTB, ↓o_isNB, ↓o_isNot, ↓o_lenL, ↓o_lenT, ↓o_lenS, ↓o_abs, ↓o_intI, ↓o_intB, ↓o_str, ↓o_gcd, ↓o_list, ↓o_listT, ↓o_tuple, ↓o_tupleT, ↓o_rev, ↓o_type, ↓o_isi, ↓o_isi2, ↓o_rg1, ↓o_rg2, ↓o_zip, ↓o_zipT, ↓o_itemsL, ↓o_itemsT, ↓o_ixL, ↓o_ixT, ↓o_at0, ↓o_at1, ↓o_at2, ↓o_at3, ↓o_at4, ↓o_at5, ↓o_at6, ↓o_at7, ↓o_at8, ↓o_at9, ↓o_at10, ↓o_at11, ↓o_at12, ↓o_at13, ↓o_at14, ↓o_at15, ↓w_eIxO, ↓t_tup1, ↓t_tup2, ↓t_tup3, ↓t_tup9, ↓w_okOnly, ↓w_compN, ↓w_compC, ↓o_all, ↓o_any, ↓bls_nil, ↓bls_cons, ↓o_minL, ↓o_maxL, ↓o_sumL, ↓ints_nil, ↓ints_cons, ↓o_min3, ↓o_max3, ↓o_slL, ↓o_slT, ↓w_eBor, ↓w_bBor, o_isN, w_runF, tyName, isSubTy, tyNames, List.getElem?_cons_zero, List.getElem?_cons_succ, List.set_cons_zero, List.set_cons_succ, List.map_cons, List.map_nil, List.replicate_succ, List.replicate_zero, List.length_cons, List.length_nil, List.cons_append, List.nil_append, Nat.reduceAdd, Nat.reduceSub, Nat.reduceLeDiff, Nat.reduceEqDiff, reduceIte, if_true, if_false, Bool.not_true, Bool.not_false, Bool.true_and, Bool.and_true, Bool.false_and, Bool.and_false, Bool.true_or, Bool.false_or, Bool.or_true, Bool.or_false, reduceCtorEq, decide_true, decide_false, beq_self_eq_true, List.mem_cons, true_or, or_true, true_and, and_true, false_and, and_false, or_false, false_or, String.reduceEq, String.reduceBEq, List.not_mem_nil, Bool.not_eq_true, Bool.false_eq_true, eq_self, not_true_eq_false, not_false_eq_true, Bool.not_eq_eq_eq_not, decide_eq_true_eq, decide_eq_false_iff_not, bne_iff_ne, ne_eq, Int.reduceLT, Int.reduceLE, Int.reduceMul, Int.reduceAdd, Int.reduceNeg, Int.reduceToNat, Int.reducePow, Nat.reduceLT, Int.reduceEq, Int.reduceSub, zipD, List.zipWith_cons_cons, List.zipWith_nil_left, List.zipWith_nil_right, List.all_cons, List.all_nil, id_eq, scalD, borE, wipeE, noOwn, sz_0, szl_0, sz_1, szl_1, sz_2, szl_2, sz_3, szl_3, sz_4, szl_4, sz_5, szl_5, sz_6, szl_6, sz_7, szl_7, sz_8, szl_8, sz_9, szl_9, sz_10, szl_10, sz_11, szl_11, sz_12, szl_12, sz_13, szl_13, sz_14, szl_14, sz_15, szl_15, sz_16, szl_16, sz_17, szl_17, sz_18, szl_18, sz_19, szl_19, sz_20, szl_20, sz_21, szl_21, sz_22, szl_22, sz_23, szl_23, sz_24, szl_24, sz_25, szl_25, sz_26, szl_26, sz_27, szl_27, sz_28, szl_28, sz_29, szl_29, sz_30, szl_30, sz_31, szl_31, sz_32, szl_32, frz, List.all_cons, List.all_nil]
    rw [s0]
    simp only [↓wR_ok, ↓wR_err, ↓wR_bind, ↓wR_of, ↓wO_some, ↓wO_map, ↓wO_bind, ↓w_var0, ↓w_varS, ↓w_eC, ↓w_e1, ↓w_l1, ↓w_e2, ↓w_l2, ↓w_b1, ↓w_b2, ↓w_eB, ↓w_eF, ↓w_lF, ↓w_eCall, ↓w_eLst, ↓w_aNil, ↓w_aCons, ↓w_eTup, ↓w_lDisp, ↓w_eIf, ↓w_bAnd, ↓w_bOr, ↓w_bNot, ↓w_bYes, ↓w_bChain, ↓w_eAnd, ↓w_eOr, ↓w_iAny, ↓w_oNone, ↓w_oSomeC, ↓w_eSl, ↓w_lSlG, ↓w_lComp, ↓w_sSeq, ↓w_sNil, ↓w_sBreak, ↓w_sCont, ↓w_sSet, ↓w_sSetL, ↓w_sExpr, ↓w_sRet, ↓w_sRetN, ↓w_sIf, ↓w_own0, ↓w_ownS, ↓w_sRetO, ↓w_sApp, ↓w_sSetIx, ↓w_sFrz, ↓w_sThen, ↓w_sRaise, ↓w_sAsg, ↓w_sFor, ↓w_sTry, ↓t_name, ↓t_nil, ↓t_cons, ↓o_plus, ↓o_plusL, ↓o_lAdd, ↓o_sub, ↓o_neg, ↓o_mul, ↓o_fdiv, ↓o_mod, ↓o_pow, ↓o_lt, ↓o_le, ↓o_gt, ↓o_ge, ↓o_eq, ↓o_ne, ↓o_truthB, ↓o_truthI, ↓o_truthN, ↓o_truthL, ↓o_truthT, ↓o_truthS, ↓o_notB, ↓o_isNN, ↓o_isBT, ↓o_isBF, ↓o_isT, ↓o_isIB, ↓o_isSB, ↓o_isLB, ↓o_isTB, ↓o_isNB, ↓o_isNot, ↓o_lenL, ↓o_lenT, ↓o_lenS, ↓o_abs, ↓o_intI, ↓o_intB, ↓o_str, ↓o_gcd, ↓o_list, ↓o_listT, ↓o_tuple, ↓o_tupleT, ↓o_rev, ↓o_type, ↓o_isi, ↓o_isi2, ↓o_rg1, ↓o_rg2, ↓o_zip, ↓o_zipT, ↓o_itemsL, ↓o_itemsT, ↓o_ixL, ↓o_ixT, ↓o_at0, ↓o_at1, ↓o_at2, ↓o_at3, ↓o_at4, ↓o_at5, ↓o_at6, ↓o_at7, ↓o_at8, ↓o_at9, ↓o_at10, ↓o_at11, ↓o_at12, ↓o_at13, ↓o_at14, ↓o_at15, ↓w_eIxO, ↓t_tup1, ↓t_tup2, ↓t_tup3, ↓t_tup9, ↓w_okOnly, ↓w_compN, ↓w_compC, ↓o_all, ↓o_any, ↓bls_nil, ↓bls_cons, ↓o_minL, ↓o_maxL, ↓o_sumL, ↓ints_nil, ↓ints_cons, ↓o_min3, ↓o_max3, ↓o_slL, ↓o_slT, ↓w_eBor, ↓w_bBor, o_isN, w_runF, tyName, isSubTy, tyNames, List.getElem?_cons_zero, List.getElem?_cons_succ, List.set_cons_zero, List.set_cons_succ, List.map_cons, List.map_nil, List.replicate_succ, List.replicate_zero, List.length_cons, List.length_nil, List.cons_append, List.nil_append, Nat.reduceAdd, Nat.reduceSub, Nat.reduceLeDiff, Nat.reduceEqDiff, reduceIte, if_true, if_false, Bool.not_true, Bool.not_false, Bool.true_and, Bool.and_true, Bool.false_and, Bool.and_false, Bool.true_or, Bool.false_or, Bool.or_true, Bool.or_false, reduceCtorEq, decide_true, decide_false, beq_self_eq_true, List.mem_cons, true_or, or_true, true_and, and_true, false_and, and_false, or_false, false_or, String.reduceEq, String.reduceBEq, List.not_mem_nil, Bool.not_eq_true, Bool.false_eq_true, eq_self, not_true_eq_false, not_false_eq_true, Bool.not_eq_eq_eq_not, decide_eq_true_eq, decide_eq_false_iff_not, bne_iff_ne, ne_eq, Int.reduceLT, Int.reduceLE, Int.reduceMul, Int.reduceAdd, Int.reduceNeg, Int.reduceToNat, Int.reducePow, Nat.reduceLT, Int.reduceEq, Int.reduceSub, zipD, List.zipWith_cons_cons, List.zipWith_nil_left, List.zipWith_nil_right, List.all_cons, List.all_nil, id_eq, scalD, borE, wipeE, noOwn, sz_0, szl_0, sz_1, szl_1, sz_2, szl_2, sz_3, szl_3, sz_4, szl_4, sz_5, szl_5, sz_6, szl_6, sz_7, szl_7, sz_8, szl_8, sz_9, szl_9, sz_10, szl_10, sz_11, szl_11, sz_12, szl_12, sz_13, szl_13, sz_14, szl_14, sz_15, szl_15, sz_16, szl_16, sz_17, szl_17, sz_18, szl_18, sz_19, szl_19, sz_20, szl_20, sz_21, szl_21, sz_22, szl_22, sz_23, szl_23, sz_24, szl_24, sz_25, szl_25, sz_26, szl_26, sz_27, szl_27, sz_28, szl_28, sz_29, szl_29, sz_30, szl_30, sz_31, szl_31, sz_32, szl_32, frz, List.all_cons, List.all_nil]
    exact hN _ _ _ _
theorem pairs_ok (xs : List Rat) (h : ∀ x ∈ xs, Sz x) : m__law_pairs_hold [.lst (xs.map rq)] = .ok (.bl true) := by
  apply wR_eq
  simp only [m__law_pairs_hold, g__law_pairs_hold, ↓wR_ok, ↓wR_err, ↓wR_bind, ↓wR_of, ↓wO_some, ↓wO_map, ↓wO_bind, ↓w_var0, ↓w_varS, ↓w_eC, ↓w_e1, ↓w_l1, ↓w_e2, ↓w_l2, ↓w_b1, ↓w_b2, ↓w_eB, ↓w_eF, ↓w_lF, ↓w_eCall, ↓w_eLst, ↓w_aNil, ↓w_aCons, ↓w_eTup, ↓w_lDisp, ↓w_eIf, ↓w_bAnd, ↓w_bOr, ↓w_bNot, ↓w_bYes, ↓w_bChain, ↓w_eAnd, ↓w_eOr, ↓w_iAny, ↓w_oNone, ↓w_oSomeC, ↓w_eSl, ↓w_lSlG, ↓w_lComp, ↓w_sSeq, ↓w_sNil, ↓w_sBreak, ↓w_sCont, ↓w_sSet, ↓w_sSetL, ↓w_sExpr, ↓w_sRet, ↓w_sRetN, ↓w_sIf, ↓w_own0, ↓w_ownS, ↓w_sRetO, ↓w_sApp, ↓w_sSetIx, ↓w_sFrz, ↓w_sThen, ↓w_sRaise, ↓w_sAsg, ↓w_sFor, ↓w_sTry, ↓t_name, ↓t_nil, ↓t_cons, ↓o_plus, ↓o_plusL, ↓o_lAdd, ↓o_sub, ↓o_neg, ↓o_mul, ↓o_fdiv, ↓o_mod, ↓o_pow, ↓o_lt, ↓o_le, ↓o_gt, ↓o_ge, ↓o_eq, ↓o_ne, ↓o_truthB, ↓o_truthI, ↓o_truthN, ↓o_truthL, ↓o_truthT, ↓o_truthS, ↓o_notB, ↓o_isNN, ↓o_isBT, ↓o_isBF, ↓o_isT, ↓o_isIB, ↓o_isSB, ↓o_isLB, ↓o_isTB, ↓o_isNB, ↓o_isNot, ↓o_lenL, ↓o_lenT, ↓o_lenS, ↓o_abs, ↓o_intI, ↓o_intB, ↓o_str, ↓o_gcd, ↓o_list, ↓o_listT, ↓o_tuple, ↓o_tupleT, ↓o_rev, ↓o_type, ↓o_isi, ↓o_isi2, ↓o_rg1, ↓o_rg2, ↓o_zip, ↓o_zipT, ↓o_itemsL, ↓o_itemsT, ↓o_ixL, ↓o_ixT, ↓o_at0, ↓o_at1, ↓o_at2, ↓o_at3, ↓o_at4, ↓o_at5, ↓o_at6, ↓o_at7, ↓o_at8, ↓o_at9, ↓o_at10, ↓o_at11, ↓o_at12, ↓o_at13, ↓o_at14, ↓o_at15, ↓w_eIxO, ↓t_tup1, ↓t_tup2, ↓t_tup3, ↓t_tup9, ↓w_okOnly, ↓w_compN, ↓w_compC, ↓o_all, ↓o_any, ↓bls_nil, ↓bls_cons, ↓o_minL, ↓o_maxL, ↓o_sumL, ↓ints_nil, ↓ints_cons, ↓o_min3, ↓o_max3, ↓o_slL, ↓o_slT, ↓w_eBor, ↓w_bBor, o_isN, w_runF, tyName, isSubTy, tyNames, List.getElem?_cons_zero, List.getElem?_cons_succ, List.set_cons_zero, List.set_cons_succ, List.map_cons, List.map_nil, List.replicate_succ, List.replicate_zero, List.length_cons, List.length_nil, List.cons_append, List.nil_append, Nat.reduceAdd, Nat.reduceSub, Nat.reduceLeDiff, Nat.reduceEqDiff, reduceIte, if_true, if_false, Bool.not_true, Bool.not_false, Bool.true_and, Bool.and_true, Bool.false_and, Bool.and_false, Bool.true_or, Bool.false_or, Bool.or_true, Bool.or_false, reduceCtorEq, decide_true, decide_false, beq_self_eq_true, List.mem_cons, true_or, or_true, true_and, and_true, false_and, and_false, or_false, false_or, String.reduceEq, String.reduceBEq, List.not_mem_nil, Bool.not_eq_true, Bool.false_eq_true, eq_self, not_true_eq_false, not_false_eq_true, Bool.not_eq_eq_eq_not, decide_eq_true_eq, decide_eq_false_iff_not, bne_iff_ne, ne_eq, Int.reduceLT, Int.reduceLE, Int.reduceMul, Int.reduceAdd, Int.reduceNeg, Int.reduceToNat, Int.reducePow, Nat.reduceLT, Int.reduceEq, Int.reduceSub, zipD, List.zipWith_cons_cons, List.zipWith_nil_left, List.zipWith_nil_right, List.all_cons, List.all_nil, id_eq, scalD, borE, wipeE, noOwn, sz_0, szl_0, sz_1, szl_1, sz_2, szl_2, sz_3, szl_3, sz_4, szl_4, sz_5, szl_5, sz_6, szl_6, sz_7, szl_7, sz_8, szl_8, sz_9, szl_9, sz_10, szl_10, sz_11, szl_11, sz_12, szl_12, sz_13, szl_13, sz_14, szl_14, sz_15, szl_15, sz_16, szl_16, sz_17, szl_17, sz_18, szl_18, sz_19, szl_19, sz_20, szl_20, sz_21, szl_21, sz_22, szl_22, sz_23, szl_23, sz_24, szl_24, sz_25, szl_25, sz_26, szl_26, sz_27, szl_27, sz_28, szl_28, sz_29, szl_29, sz_30, szl_30, sz_31, szl_31, sz_32, szl_32, frz, List.all_cons, List.all_nil]
  refine w_forP (fun e => ∃ s1 s2 s3 s4 s5 s6, e = [.val (.lst (xs.map rq)), s1, s2, s3, s4, s5, s6]) ⟨_, _, _, _, _, _, rfl⟩ ?_ ?_
  · rintro d hd env ⟨s1, s2, s3, s4, s5, s6, rfl⟩
    obtain ⟨x, hx, rfl⟩ := List.mem_map.mp hd
    rw [t_name]
    simp only [b__law_pairs_hold_2, ↓wR_ok, ↓wR_err, ↓wR_bind, ↓wR_of, ↓wO_some, ↓wO_map, ↓wO_bind, ↓w_var0, ↓w_varS, ↓w_eC, ↓w_e1, ↓w_l1, ↓w_e2, ↓w_l2, ↓w_b1, ↓w_b2, ↓w_eB, ↓w_eF, ↓w_lF, ↓w_eCall, ↓w_eLst, ↓w_aNil, ↓w_aCons, ↓w_eTup, ↓w_lDisp, ↓w_eIf, ↓w_bAnd, ↓w_bOr, ↓w_bNot, ↓w_bYes, ↓w_bChain, ↓w_eAnd, ↓w_eOr, ↓w_iAny, ↓w_oNone, ↓w_oSomeC, ↓w_eSl, ↓w_lSlG, ↓w_lComp, ↓w_sSeq, ↓w_sNil, ↓w_sBreak, ↓w_sCont, ↓w_sSet, ↓w_sSetL, ↓w_sExpr, ↓w_sRet, ↓w_sRetN, ↓w_sIf, ↓w_own0, ↓w_ownS, ↓w_sRetO, ↓w_sApp, ↓w_sSetIx, ↓w_sFrz, ↓w_sThen, ↓w_sRaise, ↓w_sAsg, ↓w_sFor, ↓w_sTry, ↓t_name, ↓t_nil, ↓t_cons, ↓o_plus, ↓o_plusL, ↓o_lAdd, ↓o_sub, ↓o_neg, ↓o_mul, ↓o_fdiv, ↓o_mod, ↓o_pow, ↓o_lt, ↓o_le, ↓o_gt, ↓o_ge, ↓o_eq, ↓o_ne, ↓o_truthB, ↓o_truthI, ↓o_truthN, ↓o_truthL, ↓o_truthT, ↓o_truthS, ↓o_notB, ↓o_isNN, ↓o_isBT, ↓o_isBF, ↓o_isT, ↓o_isIB, ↓o_isSB, ↓o_isLB, ↓o_isTB, ↓o_isNB, ↓o_isNot, ↓o_lenL, ↓o_lenT, ↓o_lenS, ↓o_abs, ↓o_intI, ↓o_intB, ↓o_str, ↓o_gcd, ↓o_list, ↓o_listT, ↓o_tuple, ↓o_tupleT, ↓o_rev, ↓o_type, ↓o_isi, ↓o_isi2, ↓o_rg1, ↓o_rg2, ↓o_zip, ↓o_zipT, ↓o_itemsL, ↓o_itemsT, ↓o_ixL, ↓o_ixT, ↓o_at0, ↓o_at1, ↓o_at2, ↓o_at3, ↓o_at4, ↓o_at5, ↓o_at6, ↓o_at7, ↓o_at8, ↓o_at9, ↓o_at10, ↓o_at11, ↓o_at12, ↓o_at13, ↓o_at14, ↓o_at15, ↓w_eIxO, ↓t_tup1, ↓t_tup2, ↓t_tup3, ↓t_tup9, ↓w_okOnly, ↓w_compN, ↓w_compC, ↓o_all, ↓o_any, ↓bls_nil, ↓bls_cons, ↓o_minL, ↓o_maxL, ↓o_sumL, ↓ints_nil, ↓ints_cons, ↓o_min3, ↓o_max3, ↓o_slL, ↓o_slT, ↓w_eBor, ↓w_bBor, o_isN, w_runF, tyName, isSubTy, tyNames, List.getElem?_cons_zero, List.getElem?_cons_succ, List.set_cons_zero, List.set_cons_succ, List.map_cons, List.map_nil, List.replicate_succ, List.replicate_zero, List.length_cons, List.length_nil, List.cons_append, List.nil_append, Nat.reduceAdd, Nat.reduceSub, Nat.reduceLeDiff, Nat.reduceEqDiff, reduceIte, if_true, if_false, Bool.not_true, Bool.not_false, Bool.true_and, Bool.and_true, Bool.false_and, Bool.and_false, Bool.true_or, Bool.false_or, Bool.or_true, Bool.or_false, reduceCtorEq, decide_true, decide_false, beq_self_eq_true, List.mem_cons, true_or, or_true, true_and, and_true, false_and, and_false, or_false, false_or, String.reduceEq, String.reduceBEq, List.not_mem_nil, Bool.not_eq_true, Bool.false_eq_true, eq_self, not_true_eq_false, not_false_eq_true, Bool.not_eq_eq_eq_not, decide_eq_true_eq, decide_eq_false_iff_not, bne_iff_ne, ne_eq, Int.reduceLT, Int.reduceLE, Int.reduceMul, Int.reduceAdd, Int.reduceNeg, Int.reduceToNat, Int.reducePow, Nat.reduceLT, Int.reduceEq, Int.reduceSub, zipD, List.zipWith_cons_cons, List.zipWith_nil_left, List.zipWith_nil_right, List.all_cons, List.all_nil, id_eq, scalD, borE, wipeE, noOwn, sz_0, szl_0, sz_1, szl_1, sz_2, szl_2, sz_3, szl_3, sz_4, szl_4, sz_5, szl_5, sz_6, szl_6, sz_7, szl_7, sz_8, szl_8, sz_9, szl_9, sz_10, szl_10, sz_11, szl_11, sz_12, szl_12, sz_13, szl_13, sz_14, szl_14, sz_15, szl_15, sz_16, szl_16, sz_17, szl_17, sz_18, szl_18, sz_19, szl_19, sz_20, szl_20, sz_21, szl_21, sz_22, szl_22, sz_23, szl_23, sz_24, szl_24, sz_25, szl_25, sz_26, szl_26, sz_27, szl_27, sz_28, szl_28, sz_29, szl_29, sz_30, szl_30, sz_31, szl_31, sz_32, szl_32, frz, List.all_cons, List.all_nil]
    refine w_forP (fun e => ∃ s2 s3 s4 s5 s6, e = [.val (.lst (xs.map rq)), .val (rq x), s2, s3, s4, s5, s6]) ⟨_, _, _, _, _, rfl⟩ ?_ ?_
    · rintro d hd env ⟨s2, s3, s4, s5, s6, rfl⟩
      obtain ⟨y, hy, rfl⟩ := List.mem_map.mp hd
      rw [t_name]
      exact pairs_body (h x hx) (h y hy) fun a b c d => ⟨_, a, b, c, d, rfl⟩
    · rintro env ⟨s2, s3, s4, s5, s6, rfl⟩
      exact ⟨_, _, _, _, _, _, rfl⟩
  · rintro env ⟨s1, s2, s3, s4, s5, s6, rfl⟩
    simp only [r__law_pairs_hold_3, ↓wR_ok, ↓wR_err, ↓wR_bind, ↓wR_of, ↓wO_some, ↓wO_map, ↓wO_bind, ↓w_var0, ↓w_varS, ↓w_eC, ↓w_e1, ↓w_l1, ↓w_e2, ↓w_l2, ↓w_b1, ↓w_b2, ↓w_eB, ↓w_eF, ↓w_lF, ↓w_eCall, ↓w_eLst, ↓w_aNil, ↓w_aCons, ↓w_eTup, ↓w_lDisp, ↓w_eIf, ↓w_bAnd, ↓w_bOr, ↓w_bNot, ↓w_bYes, ↓w_bChain, ↓w_eAnd, ↓w_eOr, ↓w_iAny, ↓w_oNone, ↓w_oSomeC, ↓w_eSl, ↓w_lSlG, ↓w_lComp, ↓w_sSeq, ↓w_sNil, ↓w_sBreak, ↓w_sCont, ↓w_sSet, ↓w_sSetL, ↓w_sExpr, ↓w_sRet, ↓w_sRetN, ↓w_sIf, ↓w_own0, ↓w_ownS, ↓w_sRetO, ↓w_sApp, ↓w_sSetIx, ↓w_sFrz, ↓w_sThen, ↓w_sRaise, ↓w_sAsg, ↓w_sFor, ↓w_sTry, ↓t_name, ↓t_nil, ↓t_cons, ↓o_plus, ↓o_plusL, ↓o_lAdd, ↓o_sub, ↓o_neg, ↓o_mul, ↓o_fdiv, ↓o_mod, ↓o_pow, ↓o_lt, ↓o_le, ↓o_gt, ↓o_ge, ↓o_eq, ↓o_ne, ↓o_truthB, ↓o_truthI, ↓o_truthN, ↓o_truthL, ↓o_truthT, ↓o_truthS, ↓o_notB, ↓o_isNN, ↓o_isBT, ↓o_isBF, ↓o_isT, ↓o_isIB, ↓o_isSB, ↓o_isLB, ↓o_isTB, ↓o_isNB, ↓o_isNot, ↓o_lenL, ↓o_lenT, ↓o_lenS, ↓o_abs, ↓o_intI, ↓o_intB, ↓o_str, ↓o_gcd, ↓o_list, ↓o_listT, ↓o_tuple, ↓o_tupleT, ↓o_rev, ↓o_type, ↓o_isi, ↓o_isi2, ↓o_rg1, ↓o_rg2, ↓o_zip, ↓o_zipT, ↓o_itemsL, ↓o_itemsT, ↓o_ixL, ↓o_ixT, ↓o_at0, ↓o_at1, ↓o_at2, ↓o_at3, ↓o_at4, ↓o_at5, ↓o_at6, ↓o_at7, ↓o_at8, ↓o_at9, ↓o_at10, ↓o_at11, ↓o_at12, ↓o_at13, ↓o_at14, ↓o_at15, ↓w_eIxO, ↓t_tup1, ↓t_tup2, ↓t_tup3, ↓t_tup9, ↓w_okOnly, ↓w_compN, ↓w_compC, ↓o_all, ↓o_any, ↓bls_nil, ↓bls_cons, ↓o_minL, ↓o_maxL, ↓o_sumL, ↓ints_nil, ↓ints_cons, ↓o_min3, ↓o_max3, ↓o_slL, ↓o_slT, ↓w_eBor, ↓w_bBor, o_isN, w_runF, tyName, isSubTy, tyNames, List.getElem?_cons_zero, List.getElem?_cons_succ, List.set_cons_zero, List.set_cons_succ, List.map_cons, List.map_nil, List.replicate_succ, List.replicate_zero, List.length_cons, List.length_nil, List.cons_append, List.nil_append, Nat.reduceAdd, Nat.reduceSub, Nat.reduceLeDiff, Nat.reduceEqDiff, reduceIte, if_true, if_false, Bool.not_true, Bool.not_false, Bool.true_and, Bool.and_true, Bool.false_and, Bool.and_false, Bool.true_or, Bool.false_or, Bool.or_true, Bool.or_false, reduceCtorEq, decide_true, decide_false, beq_self_eq_true, List.mem_cons, true_or, or_true, true_and, and_true, false_and, and_false, or_false, false_or, String.reduceEq, String.reduceBEq, List.not_mem_nil, Bool.not_eq_true, Bool.false_eq_true, eq_self, not_true_eq_false, not_false_eq_true, Bool.not_eq_eq_eq_not, decide_eq_true_eq, decide_eq_false_iff_not, bne_iff_ne, ne_eq, Int.reduceLT, Int.reduceLE, Int.reduceMul, Int.reduceAdd, Int.reduceNeg, Int.reduceToNat, Int.reducePow, Nat.reduceLT, Int.reduceEq, Int.reduceSub, zipD, List.zipWith_cons_cons, List.zipWith_nil_left, List.zipWith_nil_right, List.all_cons, List.all_nil, id_eq, scalD, borE, wipeE, noOwn, sz_0, szl_0, sz_1, szl_1, sz_2, szl_2, sz_3, szl_3, sz_4, szl_4, sz_5, szl_5, sz_6, szl_6, sz_7, szl_7, sz_8, szl_8, sz_9, szl_9, sz_10, szl_10, sz_11, szl_11, sz_12, szl_12, sz_13, szl_13, sz_14, szl_14, sz_15, szl_15, sz_16, szl_16, sz_17, szl_17, sz_18, szl_18, sz_19, szl_19, sz_20, szl_20, sz_21, szl_21, sz_22, szl_22, sz_23, szl_23, sz_24, szl_24, sz_25, szl_25, sz_26, szl_26, sz_27, szl_27, sz_28, szl_28, sz_29, szl_29, sz_30, szl_30, sz_31, szl_31, sz_32, szl_32, frz, List.all_cons, List.all_nil]
end AF

namespace AF
open PySem PySem.Spec PyProof.Rows L2
/-! ### common bottoms -/
def lcL (a : Nat) (xs : List Rat) : Nat := xs.foldl (fun a x => Nat.lcm a x.den) a
theorem lcL_dvd : ∀ (xs : List Rat) (a m : Nat), lcL a xs ∣ m ↔ a ∣ m ∧ ∀ x ∈ xs, x.den ∣ m
  | [], a, m => by simp [lcL]
  | x :: xs, a, m => by
    show lcL (Nat.lcm a x.den) xs ∣ m ↔ _
    rw [lcL_dvd xs, Nat.lcm_dvd_iff]
    simp [and_assoc]
theorem lcL_eq {xs ys : List Rat} {a : Nat} (h : ∀ x, x ∈ xs ↔ x ∈ ys) : lcL a xs = lcL a ys := by
  apply Nat.dvd_antisymm
  · rw [lcL_dvd]
    have := (lcL_dvd ys a _).mp (Nat.dvd_refl _)
    exact ⟨this.1, fun x hx => this.2 x ((h x).mp hx)⟩
  · rw [lcL_dvd]
    have := (lcL_dvd xs a _).mp (Nat.dvd_refl _)
    exact ⟨this.1, fun x hx => this.2 x ((h x).mpr hx)⟩
theorem lcL_snoc (xs : List Rat) (a : Nat) (x : Rat) : lcL a (xs ++ [x]) = Nat.lcm (lcL a xs) x.den := by simp [lcL]
theorem fdiv_nat (a b : Nat) : (a : Int).fdiv (b : Int) = ((a / b : Nat) : Int) := by
  rw [Int.fdiv_eq_ediv_of_nonneg _ (by omega)]
  rfl
theorem take_snoc {α : Type} {xs : List α} {i : Nat} {x : α} (h : xs[i]? = some x) : xs.take (i + 1) = xs.take i ++ [x] := by rw [List.take_add_one, h, Option.toList_some]
theorem map_rq {xs : List Rat} {i : Nat} {d : D} (h : (xs.map rq)[i]? = some d) : ∃ x, xs[i]? = some x ∧ d = rq x := by
  rw [List.getElem?_map] at h
  cases e : xs[i]? with
  | none => rw [e] at h; cases h
  | some x => rw [e] at h; cases h; exact ⟨x, rfl, rfl⟩
theorem bottom_ok (xs : List Rat) {L : Nat} (hL : L ≠ 0) (hl : L < 2 ^ 130) (hx : ∀ x ∈ xs, x.den ∣ L) (hd : ∀ x ∈ xs, x.den < 2 ^ 25) : m_common_bottom [.lst (xs.map rq)] = .ok (.int (lcL 1 xs)) := by
  apply wR_eq
  simp only [m_common_bottom, g_common_bottom, ↓wR_ok, ↓wR_err, ↓wR_bind, ↓wR_of, ↓wO_some, ↓wO_map, ↓wO_bind, ↓w_var0, ↓w_varS, ↓w_eC, ↓w_e1, ↓w_l1, ↓w_e2, ↓w_l2, ↓w_b1, ↓w_b2, ↓w_eB, ↓w_eF, ↓w_lF, ↓w_eCall, ↓w_eLst, ↓w_aNil, ↓w_aCons, ↓w_eTup, ↓w_lDisp, ↓w_eIf, ↓w_bAnd, ↓w_bOr, ↓w_bNot, ↓w_bYes, ↓w_bChain, ↓w_eAnd, ↓w_eOr, ↓w_iAny, ↓w_oNone, ↓w_oSomeC, ↓w_eSl, ↓w_lSlG, ↓w_lComp, ↓w_sSeq, ↓w_sNil, ↓w_sBreak, ↓w_sCont, ↓w_sSet, ↓w_sSetL, ↓w_sExpr, ↓w_sRet, ↓w_sRetN, ↓w_sIf, ↓w_own0, ↓w_ownS, ↓w_sRetO, ↓w_sApp, ↓w_sSetIx, ↓w_sFrz, ↓w_sThen, ↓w_sRaise, ↓w_sAsg, ↓w_sFor, ↓w_sTry, ↓t_name, ↓t_nil, ↓t_cons, ↓o_plus, ↓o_plusL, ↓o_lAdd, ↓o_sub, ↓o_neg, ↓o_mul, ↓o_fdiv, ↓o_mod, ↓o_pow, ↓o_lt, ↓o_le, ↓o_gt, ↓o_ge, ↓o_eq, ↓o_ne, ↓o_truthB, ↓o_truthI, ↓o_truthN, ↓o_truthL, ↓o_truthT, ↓o_truthS, ↓o_notB, ↓o_isNN, ↓o_isBT, ↓o_isBF, ↓o_isT, ↓o_isIB, ↓o_isSB, ↓o_isLB, ↓o_isTB, ↓o_isNB, ↓o_isNot, ↓o_lenL, ↓o_lenT, ↓o_lenS, ↓o_abs, ↓o_intI, ↓o_intB, ↓o_str, ↓o_gcd, ↓o_list, ↓o_listT, ↓o_tuple, ↓o_tupleT, ↓o_rev, ↓o_type, ↓o_isi, ↓o_isi2, ↓o_rg1, ↓o_rg2, ↓o_zip, ↓o_zipT, ↓o_itemsL, ↓o_itemsT, ↓o_ixL, ↓o_ixT, ↓o_at0, ↓o_at1, ↓o_at2, ↓o_at3, ↓o_at4, ↓o_at5, ↓o_at6, ↓o_at7, ↓o_at8, ↓o_at9, ↓o_at10, ↓o_at11, ↓o_at12, ↓o_at13, ↓o_at14, ↓o_at15, ↓w_eIxO, ↓t_tup1, ↓t_tup2, ↓t_tup3, ↓t_tup9, ↓w_okOnly, ↓w_compN, ↓w_compC, ↓o_all, ↓o_any, ↓bls_nil, ↓bls_cons, ↓o_minL, ↓o_maxL, ↓o_sumL, ↓ints_nil, ↓ints_cons, ↓o_min3, ↓o_max3, ↓o_slL, ↓o_slT, ↓w_eBor, ↓w_bBor, o_isN, w_runF, tyName, isSubTy, tyNames, List.getElem?_cons_zero, List.getElem?_cons_succ, List.set_cons_zero, List.set_cons_succ, List.map_cons, List.map_nil, List.replicate_succ, List.replicate_zero, List.length_cons, List.length_nil, List.cons_append, List.nil_append, Nat.reduceAdd, Nat.reduceSub, Nat.reduceLeDiff, Nat.reduceEqDiff, reduceIte, if_true, if_false, Bool.not_true, Bool.not_false, Bool.true_and, Bool.and_true, Bool.false_and, Bool.and_false, Bool.true_or, Bool.false_or, Bool.or_true, Bool.or_false, reduceCtorEq, decide_true, decide_false, beq_self_eq_true, List.mem_cons, true_or, or_true, true_and, and_true, false_and, and_false, or_false, false_or, String.reduceEq, String.reduceBEq, List.not_mem_nil, Bool.not_eq_true, Bool.false_eq_true, eq_self, not_true_eq_false, not_false_eq_true, Bool.not_eq_eq_eq_not, decide_eq_true_eq, decide_eq_false_iff_not, bne_iff_ne, ne_eq, Int.reduceLT, Int.reduceLE, Int.reduceMul, Int.reduceAdd, Int.reduceNeg, Int.reduceToNat, Int.reducePow, Nat.reduceLT, Int.reduceEq, Int.reduceSub, zipD, List.zipWith_cons_cons, List.zipWith_nil_left, List.zipWith_nil_right, List.all_cons, List.all_nil, id_eq, scalD, borE, wipeE, noOwn, sz_0, szl_0, sz_1, szl_1, sz_2, szl_2, sz_3, szl_3, sz_4, szl_4, sz_5, szl_5, sz_6, szl_6, sz_7, szl_7, sz_8, szl_8, sz_9, szl_9, sz_10, szl_10, sz_11, szl_11, sz_12, szl_12, sz_13, szl_13, sz_14, szl_14, sz_15, szl_15, sz_16, szl_16, sz_17, szl_17, sz_18, szl_18, sz_19, szl_19, sz_20, szl_20, sz_21, szl_21, sz_22, szl_22, sz_23, szl_23, sz_24, szl_24, sz_25, szl_25, sz_26, szl_26, sz_27, szl_27, sz_28, szl_28, sz_29, szl_29, sz_30, szl_30, sz_31, szl_31, sz_32, szl_32, frz, List.all_cons, List.all_nil]
  refine w_forI (fun i e => ∃ s2 s3, e = [.val (.lst (xs.map rq)), .val (.int (lcL 1 (xs.take i) : Nat)), s2, s3]) ⟨.unk, .unk, rfl⟩ ?_ ?_
  · rintro i d env hdd ⟨s2, s3, rfl⟩
    obtain ⟨x, hi, rfl⟩ := map_rq hdd
    have hm := List.mem_of_getElem? hi
    have hle : lcL 1 (xs.take i) ≤ L := Nat.le_of_dvd (by omega) ((lcL_dvd _ _ _).mpr ⟨Nat.one_dvd _, fun y hy => hx y (List.mem_of_mem_take hy)⟩)
    have hg : Nat.gcd (lcL 1 (xs.take i)) x.den ≠ 0 := fun h => x.den_nz (Nat.eq_zero_of_gcd_eq_zero_right h)
    have hg2 : Nat.gcd (lcL 1 (xs.take i)) x.den ≤ x.den := Nat.le_of_dvd (Nat.pos_of_ne_zero x.den_nz) (Nat.gcd_dvd_right _ _)
    have hxd := hd x hm
    show wpO (tTup 2 _ (.tup [.int x.num, .int x.den]) _) _
    rw [t_tup (n := 2) (ds := [_, _]) rfl]
    simp only [b_common_bottom_1, ↓wR_ok, ↓wR_err, ↓wR_bind, ↓wR_of, ↓wO_some, ↓wO_map, ↓wO_bind, ↓w_var0, ↓w_varS, ↓w_eC, ↓w_e1, ↓w_l1, ↓w_e2, ↓w_l2, ↓w_b1, ↓w_b2, ↓w_eB, ↓w_eF, ↓w_lF, ↓w_eCall, ↓w_eLst, ↓w_aNil, ↓w_aCons, ↓w_eTup, ↓w_lDisp, ↓w_eIf, ↓w_bAnd, ↓w_bOr, ↓w_bNot, ↓w_bYes, ↓w_bChain, ↓w_eAnd, ↓w_eOr, ↓w_iAny, ↓w_oNone, ↓w_oSomeC, ↓w_eSl, ↓w_lSlG, ↓w_lComp, ↓w_sSeq, ↓w_sNil, ↓w_sBreak, ↓w_sCont, ↓w_sSet, ↓w_sSetL, ↓w_sExpr, ↓w_sRet, ↓w_sRetN, ↓w_sIf, ↓w_own0, ↓w_ownS, ↓w_sRetO, ↓w_sApp, ↓w_sSetIx, ↓w_sFrz, ↓w_sThen, ↓w_sRaise, ↓w_sAsg, ↓w_sFor, ↓w_sTry, ↓t_name, ↓t_nil, ↓t_cons, ↓o_plus, ↓o_plusL, ↓o_lAdd, ↓o_sub, ↓o_neg, ↓o_mul, ↓o_fdiv, ↓o_mod, ↓o_pow, ↓o_lt, ↓o_le, ↓o_gt, ↓o_ge, ↓o_eq, ↓o_ne, ↓o_truthB, ↓o_truthI, ↓o_truthN, ↓o_truthL, ↓o_truthT, ↓o_truthS, ↓o_notB, ↓o_isNN, ↓o_isBT, ↓o_isBF, ↓o_isT, ↓o_isIB, ↓o_isSB, ↓o_isLB, ↓o_isTB, ↓o_isNB, ↓o_isNot, ↓o_lenL, ↓o_lenT, ↓o_lenS, ↓o_abs, ↓o_intI, ↓o_intB, ↓o_str, ↓o_gcd, ↓o_list, ↓o_listT, ↓o_tuple, ↓o_tupleT, ↓o_rev, ↓o_type, ↓o_isi, ↓o_isi2, ↓o_rg1, ↓o_rg2, ↓o_zip, ↓o_zipT, ↓o_itemsL, ↓o_itemsT, ↓o_ixL, ↓o_ixT, ↓o_at0, ↓o_at1, ↓o_at2, ↓o_at3, ↓o_at4, ↓o_at5, ↓o_at6, ↓o_at7, ↓o_at8, ↓o_at9, ↓o_at10, ↓o_at11, ↓o_at12, ↓o_at13, ↓o_at14, ↓o_at15, ↓w_eIxO, ↓t_tup1, ↓t_tup2, ↓t_tup3, ↓t_tup9, ↓w_okOnly, ↓w_compN, ↓w_compC, ↓o_all, ↓o_any, ↓bls_nil, ↓bls_cons, ↓o_minL, ↓o_maxL, ↓o_sumL, ↓ints_nil, ↓ints_cons, ↓o_min3, ↓o_max3, ↓o_slL, ↓o_slT, ↓w_eBor, ↓w_bBor, o_isN, w_runF, tyName, isSubTy, tyNames, List.getElem?_cons_zero, List.getElem?_cons_succ, List.set_cons_zero, List.set_cons_succ, List.map_cons, List.map_nil, List.replicate_succ, List.replicate_zero, List.length_cons, List.length_nil, List.cons_append, List.nil_append, Nat.reduceAdd, Nat.reduceSub, Nat.reduceLeDiff, Nat.reduceEqDiff, reduceIte, if_true, if_false, Bool.not_true, Bool.not_false, Bool.true_and, Bool.and_true, Bool.false_and, Bool.and_false, Bool.true_or, Bool.false_or, Bool.or_true, Bool.or_false, reduceCtorEq, decide_true, decide_false, beq_self_eq_true, List.mem_cons, true_or, or_true, true_and, and_true, false_and, and_false, or_false, false_or, String.reduceEq, String.reduceBEq, List.not_mem_nil, Bool.not_eq_true, Bool.false_eq_true, eq_self, not_true_eq_false, not_false_eq_true, Bool.not_eq_eq_eq_not, decide_eq_true_eq, decide_eq_false_iff_not, bne_iff_ne, ne_eq, Int.reduceLT, Int.reduceLE, Int.reduceMul, Int.reduceAdd, Int.reduceNeg, Int.reduceToNat, Int.reducePow, Nat.reduceLT, Int.reduceEq, Int.reduceSub, zipD, List.zipWith_cons_cons, List.zipWith_nil_left, List.zipWith_nil_right, List.all_cons, List.all_nil, id_eq, scalD, borE, wipeE, noOwn, sz_0, szl_0, sz_1, szl_1, sz_2, szl_2, sz_3, szl_3, sz_4, szl_4, sz_5, szl_5, sz_6, szl_6, sz_7, szl_7, sz_8, szl_8, sz_9, szl_9, sz_10, szl_10, sz_11, szl_11, sz_12, szl_12, sz_13, szl_13, sz_14, szl_14, sz_15, szl_15, sz_16, szl_16, sz_17, szl_17, sz_18, szl_18, sz_19, szl_19, sz_20, szl_20, sz_21, szl_21, sz_22, szl_22, sz_23, szl_23, sz_24, szl_24, sz_25, szl_25, sz_26, szl_26, sz_27, szl_27, sz_28, szl_28, sz_29, szl_29, sz_30, szl_30, sz_31, szl_31, sz_32, szl_32, frz, List.all_cons, List.all_nil, Int.natAbs_natCast, fdiv_nat]
    refine ⟨S9.lt (by omega) (by omega) (by omega), ⟨?_, Sm.lt (by omega) (by omega)⟩, .val (.int x.num), .val (.int x.den), ?_⟩
    · have := Nat.div_le_self (lcL 1 (xs.take i)) (Nat.gcd (lcL 1 (xs.take i)) x.den)
      have hz : ∀ z : Nat, z ≤ L → Sm (z : Int) := fun z h => Sm.lt (by omega) (by omega)
      exact hz _ (Nat.le_trans this hle)
    · have e : lcL 1 (xs.take (i + 1)) = lcL 1 (xs.take i) / Nat.gcd (lcL 1 (xs.take i)) x.den * x.den := by
        rw [take_snoc hi, lcL_snoc, Nat.lcm]
        rw [Nat.div_mul_right_comm (Nat.gcd_dvd_left _ _)]
      rw [e]
      rfl
  · rintro env ⟨s2, s3, rfl⟩
    simp only [r_common_bottom_2, ↓wR_ok, ↓wR_err, ↓wR_bind, ↓wR_of, ↓wO_some, ↓wO_map, ↓wO_bind, ↓w_var0, ↓w_varS, ↓w_eC, ↓w_e1, ↓w_l1, ↓w_e2, ↓w_l2, ↓w_b1, ↓w_b2, ↓w_eB, ↓w_eF, ↓w_lF, ↓w_eCall, ↓w_eLst, ↓w_aNil, ↓w_aCons, ↓w_eTup, ↓w_lDisp, ↓w_eIf, ↓w_bAnd, ↓w_bOr, ↓w_bNot, ↓w_bYes, ↓w_bChain, ↓w_eAnd, ↓w_eOr, ↓w_iAny, ↓w_oNone, ↓w_oSomeC, ↓w_eSl, ↓w_lSlG, ↓w_lComp, ↓w_sSeq, ↓w_sNil, ↓w_sBreak, ↓w_sCont, ↓w_sSet, ↓w_sSetL, ↓w_sExpr, ↓w_sRet, ↓w_sRetN, ↓w_sIf, ↓w_own0, ↓w_ownS, ↓w_sRetO, ↓w_sApp, ↓w_sSetIx, ↓w_sFrz, ↓w_sThen, ↓w_sRaise, ↓w_sAsg, ↓w_sFor, ↓w_sTry, ↓t_name, ↓t_nil, ↓t_cons, ↓o_plus, ↓o_plusL, ↓o_lAdd, ↓o_sub, ↓o_neg, ↓o_mul, ↓o_fdiv, ↓o_mod, ↓o_pow, ↓o_lt, ↓o_le, ↓o_gt, ↓o_ge, ↓o_eq, ↓o_ne, ↓o_truthB, ↓o_truthI, ↓o_truthN, ↓o_truthL, ↓o_truthT, ↓o_truthS, ↓o_notB, ↓o_isNN, ↓o_isBT, ↓o_isBF, ↓o_isT, ↓o_isIB, ↓o_isSB, ↓o_isLB, ↓o_isTB, ↓o_isNB, ↓o_isNot, ↓o_lenL, ↓o_lenT, ↓o_lenS, ↓o_abs, ↓o_intI, ↓o_intB, ↓o_str, ↓o_gcd, ↓o_list, ↓o_listT, ↓o_tuple, ↓o_tupleT, ↓o_rev, ↓o_type, ↓o_isi, ↓o_isi2, ↓o_rg1, ↓o_rg2, ↓o_zip, ↓o_zipT, ↓o_itemsL, ↓o_itemsT, ↓o_ixL, ↓o_ixT, ↓o_at0, ↓o_at1, ↓o_at2, ↓o_at3, ↓o_at4, ↓o_at5, ↓o_at6, ↓o_at7, ↓o_at8, ↓o_at9, ↓o_at10, ↓o_at11, ↓o_at12, ↓o_at13, ↓o_at14, ↓o_at15, ↓w_eIxO, ↓t_tup1, ↓t_tup2, ↓t_tup3, ↓t_tup9, ↓w_okOnly, ↓w_compN, ↓w_compC, ↓o_all, ↓o_any, ↓bls_nil, ↓bls_cons, ↓o_minL, ↓o_maxL, ↓o_sumL, ↓ints_nil, ↓ints_cons, ↓o_min3, ↓o_max3, ↓o_slL, ↓o_slT, ↓w_eBor, ↓w_bBor, o_isN, w_runF, tyName, isSubTy, tyNames, List.getElem?_cons_zero, List.getElem?_cons_succ, List.set_cons_zero, List.set_cons_succ, List.map_cons, List.map_nil, List.replicate_succ, List.replicate_zero, List.length_cons, List.length_nil, List.cons_append, List.nil_append, Nat.reduceAdd, Nat.reduceSub, Nat.reduceLeDiff, Nat.reduceEqDiff, reduceIte, if_true, if_false, Bool.not_true, Bool.not_false, Bool.true_and, Bool.and_true, Bool.false_and, Bool.and_false, Bool.true_or, Bool.false_or, Bool.or_true, Bool.or_false, reduceCtorEq, decide_true, decide_false, beq_self_eq_true, List.mem_cons, true_or, or_true, true_and, and_true, false_and, and_false, or_false, false_or, String.reduceEq, String.reduceBEq, List.not_mem_nil, Bool.not_eq_true, Bool.false_eq_true, eq_self, not_true_eq_false, not_false_eq_true, Bool.not_eq_eq_eq_not, decide_eq_true_eq, decide_eq_false_iff_not, bne_iff_ne, ne_eq, Int.reduceLT, Int.reduceLE, Int.reduceMul, Int.reduceAdd, Int.reduceNeg, Int.reduceToNat, Int.reducePow, Nat.reduceLT, Int.reduceEq, Int.reduceSub, zipD, List.zipWith_cons_cons, List.zipWith_nil_left, List.zipWith_nil_right, List.all_cons, List.all_nil, id_eq, scalD, borE, wipeE, noOwn, sz_0, szl_0, sz_1, szl_1, sz_2, szl_2, sz_3, szl_3, sz_4, szl_4, sz_5, szl_5, sz_6, szl_6, sz_7, szl_7, sz_8, szl_8, sz_9, szl_9, sz_10, szl_10, sz_11, szl_11, sz_12, szl_12, sz_13, szl_13, sz_14, szl_14, sz_15, szl_15, sz_16, szl_16, sz_17, szl_17, sz_18, szl_18, sz_19, szl_19, sz_20, szl_20, sz_21, szl_21, sz_22, szl_22, sz_23, szl_23, sz_24, szl_24, sz_25, szl_25, sz_26, szl_26, sz_27, szl_27, sz_28, szl_28, sz_29, szl_29, sz_30, szl_30, sz_31, szl_31, sz_32, szl_32, frz, List.all_cons, List.all_nil]
    rw [List.length_map, List.take_length]
/-! ### sums -/
structure Li (L : Nat) (x : Rat) : Prop where
  n : x.num.natAbs < 2 ^ 35
  d : x.den < 2 ^ 25
  v : x.den ∣ L
theorem Li.bd {L : Nat} {x : Rat} (h : Li L x) : Bd x := ⟨lt_up h.n (by decide), Nat.lt_of_lt_of_le h.d (by decide)⟩
theorem sum_ov {L : Nat} (hL : L ≠ 0) : ∀ xs : List Rat, (∀ x ∈ xs, Li L x) → Ov L (xs.length * 2 ^ 35) xs.sum
  | [], _ => by simpa using Ov.zero
  | x :: xs, h => by
    have h1 := sum_ov hL xs fun y hy => h y (List.mem_cons_of_mem _ hy)
    have hx := h x List.mem_cons_self
    have h2 := (Ov.of hx.v hL).add hL h1
    have : (x :: xs).sum = x + xs.sum := rfl
    rw [this]
    refine h2.mono ?_
    have := hx.n
    rw [List.length_cons, Nat.add_mul]
    omega
theorem sum_bd {L : Nat} (hL : L ≠ 0) (hl : L < 2 ^ 130) {xs : List Rat} (hx : ∀ x ∈ xs, Li L x) (hn : xs.length ≤ 32) : xs.sum.num.natAbs < 2 ^ 170 ∧ xs.sum.den < 2 ^ 130 := by
  have h := sum_ov hL xs hx
  refine ⟨?_, Nat.lt_of_le_of_lt (h.den_le hL) hl⟩
  refine Nat.lt_of_le_of_lt (h.num_le hL) ?_
  have h1 : xs.length * 2 ^ 35 ≤ 32 * 2 ^ 35 := Nat.mul_le_mul_right _ hn
  have h2 : xs.length * 2 ^ 35 * L ≤ 32 * 2 ^ 35 * L := Nat.mul_le_mul_right _ h1
  omega
theorem sum_bd' {L : Nat} (hL : L ≠ 0) (hl : L < 2 ^ 130) {xs : List Rat} (hx : ∀ x ∈ xs, Li L x) (hn : xs.length ≤ 32) : Bd xs.sum := by
  have h := sum_bd hL hl hx hn
  exact ⟨lt_up h.1 (by decide), Nat.lt_of_lt_of_le h.2 (by decide)⟩
theorem total_li {L : Nat} (hL : L ≠ 0) (hl : L < 2 ^ 130) {xs : List Rat} (hx : ∀ x ∈ xs, Li L x) (hn : xs.length ≤ 32) : m_total [.lst (xs.map rq)] = .ok (rq xs.sum) :=
  total_ok xs (fun x h => (hx x h).bd) fun k => sum_bd' hL hl (fun x h => hx x (List.mem_of_mem_take h)) (by rw [List.length_take]; omega)
theorem sum_rev : ∀ xs : List Rat, xs.reverse.sum = xs.sum
  | [] => rfl
  | x :: xs => by
    rw [List.reverse_cons, List.sum_append, sum_rev xs]
    show xs.sum + (x + 0) = x + xs.sum
    rw [Rat.add_zero, Rat.add_comm]
theorem okS_rqs (xs : List Rat) (h : xs.length ≤ 1000000) : okS 40 (.lst (xs.map rq)) = true := by
  show (decide ((xs.map rq).length ≤ 1000000) && (xs.map rq).all (okS 39)) = true
  rw [Bool.and_eq_true]
  refine ⟨by simpa using h, List.all_eq_true.mpr fun d hd => ?_⟩
  obtain ⟨x, _, rfl⟩ := List.mem_map.mp hd
  rfl
end AF

namespace AF
open PySem PySem.Spec PyProof.Rows L2
theorem o_atX {xs : List Rat} {i : Nat} {x : Rat} (h : xs[i]? = some x) {Q : D → Prop} : wpO (atI (xs.map rq) (i : Int)) Q = Q (rq x) := o_at (by rw [List.getElem?_map, h]; rfl)
theorem list_ok {L : Nat} (hL : L ≠ 0) (hl : L < 2 ^ 130) {xs : List Rat} (hx : ∀ x ∈ xs, Li L x) (h4 : 4 ≤ xs.length) (hn : xs.length ≤ 14) : m__law_list_holds [.lst (xs.map rq)] = .ok (.bl true) := by
  apply wR_eq
  have hrev : ∀ x ∈ xs.reverse, Li L x := fun x h => hx x (List.mem_reverse.mp h)
  have happ : ∀ x ∈ xs ++ xs.reverse, Li L x := fun x h => by
    rcases List.mem_append.mp h with h | h
    · exact hx x h
    · exact hrev x h
  have hd : ∀ {ys : List Rat}, (∀ x ∈ ys, Li L x) → ∀ x ∈ ys, x.den < 2 ^ 25 := fun h x hm => (h x hm).d
  have hv : ∀ {ys : List Rat}, (∀ x ∈ ys, Li L x) → ∀ x ∈ ys, x.den ∣ L := fun h x hm => (h x hm).v
  have t1 := total_li hL hl hx (by omega)
  have t2 := total_li hL hl hrev (by rw [List.length_reverse]; omega)
  have t3 := total_li hL hl happ (by rw [List.length_append, List.length_reverse]; omega)
  have t4 : m_total [.lst []] = .ok (rq 0) := total_li (xs := []) hL hl (by simp) (by simp)
  have e2 : xs[2]? = some xs[2] := List.getElem?_eq_getElem (by omega)
  have e3 : xs[3]? = some xs[3] := List.getElem?_eq_getElem (by omega)
  have hx2 : Li L xs[2] := hx _ (List.getElem_mem _)
  have hx3 : Li L xs[3] := hx _ (List.getElem_mem _)
  have o2 : ∀ Q : D → Prop, wpO (atI (xs.map rq) 2) Q = Q (rq xs[2]) := fun Q => o_atX e2
  have o3 : ∀ Q : D → Prop, wpO (atI (xs.map rq) 3) Q = Q (rq xs[3]) := fun Q => o_atX e3
  have t5 : m_total [.lst [rq xs[2]]] = .ok (rq xs[2]) := by
    have h := total_li (xs := [xs[2]]) hL hl (by intro x h; rw [List.mem_singleton.mp h]; exact hx2) (by simp)
    have e : [xs[2]].sum = xs[2] := Rat.add_zero _
    rw [e] at h
    exact h
  have c1 := bottom_ok xs hL hl (hv hx) (hd hx)
  have c2 := bottom_ok xs.reverse hL hl (hv hrev) (hd hrev)
  have c3 := bottom_ok (xs ++ xs.reverse) hL hl (hv happ) (hd happ)
  have c4 : m_common_bottom [.lst []] = .ok (.int 1) := bottom_ok [] hL hl (by simp) (by simp)
  have c5 : m_common_bottom [.lst [rq xs[3]]] = .ok (.int xs[3].den) := by
    have h := bottom_ok [xs[3]] hL hl (by intro x h; rw [List.mem_singleton.mp h]; exact hx3.v) (by intro x h; rw [List.mem_singleton.mp h]; exact hx3.d)
    have e : lcL 1 [xs[3]] = xs[3].den := Nat.lcm_one_left _
    rw [e] at h
    exact h
  rw [sum_rev] at t2
  rw [List.sum_append, sum_rev] at t3
  have hb := sum_bd hL hl hx (by omega)
  have hdb : ((xs.sum.den : Int)).natAbs < 2 ^ 130 := by omega
  rw [lcL_eq (xs := xs.reverse) (ys := xs) (by simp)] at c2
  rw [lcL_eq (xs := xs ++ xs.reverse) (ys := xs) (by simp)] at c3
  have hlc : lcL 1 xs ≤ L := Nat.le_of_dvd (by omega) ((lcL_dvd _ _ _).mpr ⟨Nat.one_dvd _, hv hx⟩)
  have l2 := lowest_ok (2 * xs.sum.num) xs.sum.den (den_ne _) (lt_up hdb (by decide)) (Nat.lt_of_lt_of_le (nat_mul (mul_lt (x := 2) (a := 2) (by decide) hb.1) hdb) (by decide))
  have ed : Rat.divInt (2 * xs.sum.num) xs.sum.den = xs.sum + xs.sum := by
    rw [← plus_eq, show xs.sum.num * (xs.sum.den : Int) + xs.sum.num * (xs.sum.den : Int) = (2 * xs.sum.num) * (xs.sum.den : Int) from by rw [Int.mul_assoc, Int.two_mul], Rat.divInt_mul_right (den_ne _)]
  rw [ed] at l2
  simp only [m__law_list_holds, g__law_list_holds, ↓wR_ok, ↓wR_err, ↓wR_bind, ↓wR_of, ↓wO_some, ↓wO_map, ↓wO_bind, ↓w_var0, ↓w_varS, ↓w_eC, ↓w_e1, ↓w_l1, ↓w_e2, ↓w_l2, ↓w_b1, ↓w_b2, ↓w_eB, ↓w_eF, ↓w_lF, ↓w_eCall, ↓w_eLst, ↓w_aNil, ↓w_aCons, ↓w_eTup, ↓w_lDisp, ↓w_eIf, ↓w_bAnd, ↓w_bOr, ↓w_bNot, ↓w_bYes, ↓w_bChain, ↓w_eAnd, ↓w_eOr, ↓w_iAny, ↓w_oNone, ↓w_oSomeC, ↓w_eSl, ↓w_lSlG, ↓w_lComp, ↓w_sSeq, ↓w_sNil, ↓w_sBreak, ↓w_sCont, ↓w_sSet, ↓w_sSetL, ↓w_sExpr, ↓w_sRet, ↓w_sRetN, ↓w_sIf, ↓w_own0, ↓w_ownS, ↓w_sRetO, ↓w_sApp, ↓w_sSetIx, ↓w_sFrz, ↓w_sThen, ↓w_sRaise, ↓w_sAsg, ↓w_sFor, ↓w_sTry, ↓t_name, ↓t_nil, ↓t_cons, ↓o_plus, ↓o_plusL, ↓o_lAdd, ↓o_sub, ↓o_neg, ↓o_mul, ↓o_fdiv, ↓o_mod, ↓o_pow, ↓o_lt, ↓o_le, ↓o_gt, ↓o_ge, ↓o_eq, ↓o_ne, ↓o_truthB, ↓o_truthI, ↓o_truthN, ↓o_truthL, ↓o_truthT, ↓o_truthS, ↓o_notB, ↓o_isNN, ↓o_isBT, ↓o_isBF, ↓o_isT, ↓o_isIB, ↓o_isSB, ↓o_isLB, ↓o_isTB, ↓o_isNB, ↓o_isNot, ↓o_lenL, ↓o_lenT, ↓o_lenS, ↓o_abs, ↓o_intI, ↓o_intB, ↓o_str, ↓o_gcd, ↓o_list, ↓o_listT, ↓o_tuple, ↓o_tupleT, ↓o_rev, ↓o_type, ↓o_isi, ↓o_isi2, ↓o_rg1, ↓o_rg2, ↓o_zip, ↓o_zipT, ↓o_itemsL, ↓o_itemsT, ↓o_ixL, ↓o_ixT, ↓o_at0, ↓o_at1, ↓o_at2, ↓o_at3, ↓o_at4, ↓o_at5, ↓o_at6, ↓o_at7, ↓o_at8, ↓o_at9, ↓o_at10, ↓o_at11, ↓o_at12, ↓o_at13, ↓o_at14, ↓o_at15, ↓w_eIxO, ↓t_tup1, ↓t_tup2, ↓t_tup3, ↓t_tup9, ↓w_okOnly, ↓w_compN, ↓w_compC, ↓o_all, ↓o_any, ↓bls_nil, ↓bls_cons, ↓o_minL, ↓o_maxL, ↓o_sumL, ↓ints_nil, ↓ints_cons, ↓o_min3, ↓o_max3, ↓o_slL, ↓o_slT, ↓w_eBor, ↓w_bBor, o_isN, w_runF, tyName, isSubTy, tyNames, List.getElem?_cons_zero, List.getElem?_cons_succ, List.set_cons_zero, List.set_cons_succ, List.map_cons, List.map_nil, List.replicate_succ, List.replicate_zero, List.length_cons, List.length_nil, List.cons_append, List.nil_append, Nat.reduceAdd, Nat.reduceSub, Nat.reduceLeDiff, Nat.reduceEqDiff, reduceIte, if_true, if_false, Bool.not_true, Bool.not_false, Bool.true_and, Bool.and_true, Bool.false_and, Bool.and_false, Bool.true_or, Bool.false_or, Bool.or_true, Bool.or_false, reduceCtorEq, decide_true, decide_false, beq_self_eq_true, List.mem_cons, true_or, or_true, true_and, and_true, false_and, and_false, or_false, false_or, String.reduceEq, String.reduceBEq, List.not_mem_nil, Bool.not_eq_true, Bool.false_eq_true, eq_self, not_true_eq_false, not_false_eq_true, Bool.not_eq_eq_eq_not, decide_eq_true_eq, decide_eq_false_iff_not, bne_iff_ne, ne_eq, Int.reduceLT, Int.reduceLE, Int.reduceMul, Int.reduceAdd, Int.reduceNeg, Int.reduceToNat, Int.reducePow, Nat.reduceLT, Int.reduceEq, Int.reduceSub, zipD, List.zipWith_cons_cons, List.zipWith_nil_left, List.zipWith_nil_right, List.all_cons, List.all_nil, id_eq, scalD, borE, wipeE, noOwn, sz_0, szl_0, sz_1, szl_1, sz_2, szl_2, sz_3, szl_3, sz_4, szl_4, sz_5, szl_5, sz_6, szl_6, sz_7, szl_7, sz_8, szl_8, sz_9, szl_9, sz_10, szl_10, sz_11, szl_11, sz_12, szl_12, sz_13, szl_13, sz_14, szl_14, sz_15, szl_15, sz_16, szl_16, sz_17, szl_17, sz_18, szl_18, sz_19, szl_19, sz_20, szl_20, sz_21, szl_21, sz_22, szl_22, sz_23, szl_23, sz_24, szl_24, sz_25, szl_25, sz_26, szl_26, sz_27, szl_27, sz_28, szl_28, sz_29, szl_29, sz_30, szl_30, sz_31, szl_31, sz_32, szl_32, frz, List.all_cons, List.all_nil]
  refine w_forI (fun i e => ∃ s3, e = [.val (.lst (xs.map rq)), .val (rq (xs.take i).sum), .val (.int (lcL 1 (xs.take i) : Nat)), s3, .unk, .unk, .unk, .unk]) ⟨.unk, rfl⟩ ?_ ?_
  · rintro i d env hdd ⟨s3, rfl⟩
    obtain ⟨x, hi, rfl⟩ := map_rq hdd
    have hm := hx x (List.mem_of_getElem? hi)
    have htk : ∀ y ∈ xs.take i, Li L y := fun y hy => hx y (List.mem_of_mem_take hy)
    have hs := sum_bd hL hl htk (by rw [List.length_take]; omega)
    have hle : lcL 1 (xs.take i) ≤ L := Nat.le_of_dvd (by omega) ((lcL_dvd _ _ _).mpr ⟨Nat.one_dvd _, hv htk⟩)
    have hg : Nat.gcd (lcL 1 (xs.take i)) x.den ≠ 0 := fun h => x.den_nz (Nat.eq_zero_of_gcd_eq_zero_right h)
    have hg2 : Nat.gcd (lcL 1 (xs.take i)) x.den ≤ x.den := Nat.le_of_dvd (Nat.pos_of_ne_zero x.den_nz) (Nat.gcd_dvd_right _ _)
    have hxn := hm.n
    have hxd := hm.d
    have hxd' : ((x.den : Int)).natAbs < 2 ^ 25 := by omega
    have hsd' : (((xs.take i).sum.den : Int)).natAbs < 2 ^ 130 := by omega
    have hlc' : ((lcL 1 (xs.take i) : Nat) : Int).natAbs < 2 ^ 130 := by omega
    have q := mul_lt hsd' hxd'
    have l1 := lowest_ok ((xs.take i).sum.num * x.den + x.num * (xs.take i).sum.den) ((xs.take i).sum.den * x.den) (den_mul_ne _ _) (lt_up q (by decide)) (Nat.lt_of_lt_of_le (nat_mul (add_lt (lt_up (mul_lt hs.1 hxd') (by decide : 170 + 25 ≤ 195)) (lt_up (mul_lt hxn hsd') (by decide : 35 + 130 ≤ 195))) q) (by decide))
    rw [plus_eq] at l1
    have l3 := divisor_ok (lcL 1 (xs.take i) : Nat) x.den (Nat.lt_of_lt_of_le (nat_mul hlc' hxd') (by decide))
    rw [t_name]
    have sm1 : Sm (xs.take i).sum.num := sm_of (lt_up hs.1 (by decide))
    have sm2 : Sm ((xs.take i).sum.den : Int) := sm_of (lt_up hsd' (by decide))
    have sm3 : Sm x.num := sm_of (lt_up hxn (by decide))
    have sm4 : Sm (x.den : Int) := sm_of (lt_up hxd' (by decide))
    have sm5 : Sm ((lcL 1 (xs.take i) : Nat) : Int) := sm_of (lt_up hlc' (by decide))
    have hs9 : S9 ((Nat.gcd (lcL 1 (xs.take i)) x.den : Nat) : Int) := s9_of (by omega) (by omega)
    simp only [b__law_list_holds_1, ↓wR_ok, ↓wR_err, ↓wR_bind, ↓wR_of, ↓wO_some, ↓wO_map, ↓wO_bind, ↓w_var0, ↓w_varS, ↓w_eC, ↓w_e1, ↓w_l1, ↓w_e2, ↓w_l2, ↓w_b1, ↓w_b2, ↓w_eB, ↓w_eF, ↓w_lF, ↓w_eCall, ↓w_eLst, ↓w_aNil, ↓w_aCons, ↓w_eTup, ↓w_lDisp, ↓w_eIf, ↓w_bAnd, ↓w_bOr, ↓w_bNot, ↓w_bYes, ↓w_bChain, ↓w_eAnd, ↓w_eOr, ↓w_iAny, ↓w_oNone, ↓w_oSomeC, ↓w_eSl, ↓w_lSlG, ↓w_lComp, ↓w_sSeq, ↓w_sNil, ↓w_sBreak, ↓w_sCont, ↓w_sSet, ↓w_sSetL, ↓w_sExpr, ↓w_sRet, ↓w_sRetN, ↓w_sIf, ↓w_own0, ↓w_ownS, ↓w_sRetO, ↓w_sApp, ↓w_sSetIx, ↓w_sFrz, ↓w_sThen, ↓w_sRaise, ↓w_sAsg, ↓w_sFor, ↓w_sTry, ↓t_name, ↓t_nil, ↓t_cons, ↓o_plus, ↓o_plusL, ↓o_lAdd, ↓o_sub, ↓o_neg, ↓o_mul, ↓o_fdiv, ↓o_mod, ↓o_pow, ↓o_lt, ↓o_le, ↓o_gt, ↓o_ge, ↓o_eq, ↓o_ne, ↓o_truthB, ↓o_truthI, ↓o_truthN, ↓o_truthL, ↓o_truthT, ↓o_truthS, ↓o_notB, ↓o_isNN, ↓o_isBT, ↓o_isBF, ↓o_isT, ↓o_isIB, ↓o_isSB, ↓o_isLB, ↓o_isTB, ↓o_isNB, ↓o_isNot, ↓o_lenL, ↓o_lenT, ↓o_lenS, ↓o_abs, ↓o_intI, ↓o_intB, ↓o_str, ↓o_gcd, ↓o_list, ↓o_listT, ↓o_tuple, ↓o_tupleT, ↓o_rev, ↓o_type, ↓o_isi, ↓o_isi2, ↓o_rg1, ↓o_rg2, ↓o_zip, ↓o_zipT, ↓o_itemsL, ↓o_itemsT, ↓o_ixL, ↓o_ixT, ↓o_at0, ↓o_at1, ↓o_at2, ↓o_at3, ↓o_at4, ↓o_at5, ↓o_at6, ↓o_at7, ↓o_at8, ↓o_at9, ↓o_at10, ↓o_at11, ↓o_at12, ↓o_at13, ↓o_at14, ↓o_at15, ↓w_eIxO, ↓t_tup1, ↓t_tup2, ↓t_tup3, ↓t_tup9, ↓w_okOnly, ↓w_compN, ↓w_compC, ↓o_all, ↓o_any, ↓bls_nil, ↓bls_cons, ↓o_minL, ↓o_maxL, ↓o_sumL, ↓ints_nil, ↓ints_cons, ↓o_min3, ↓o_max3, ↓o_slL, ↓o_slT, ↓w_eBor, ↓w_bBor, o_isN, w_runF, tyName, isSubTy, tyNames, List.getElem?_cons_zero, List.getElem?_cons_succ, List.set_cons_zero, List.set_cons_succ, List.map_cons, List.map_nil, List.replicate_succ, List.replicate_zero, List.length_cons, List.length_nil, List.cons_append, List.nil_append, Nat.reduceAdd, Nat.reduceSub, Nat.reduceLeDiff, Nat.reduceEqDiff, reduceIte, if_true, if_false, Bool.not_true, Bool.not_false, Bool.true_and, Bool.and_true, Bool.false_and, Bool.and_false, Bool.true_or, Bool.false_or, Bool.or_true, Bool.or_false, reduceCtorEq, decide_true, decide_false, beq_self_eq_true, List.mem_cons, true_or, or_true, true_and, and_true, false_and, and_false, or_false, false_or, String.reduceEq, String.reduceBEq, List.not_mem_nil, Bool.not_eq_true, Bool.false_eq_true, eq_self, not_true_eq_false, not_false_eq_true, Bool.not_eq_eq_eq_not, decide_eq_true_eq, decide_eq_false_iff_not, bne_iff_ne, ne_eq, Int.reduceLT, Int.reduceLE, Int.reduceMul, Int.reduceAdd, Int.reduceNeg, Int.reduceToNat, Int.reducePow, Nat.reduceLT, Int.reduceEq, Int.reduceSub, zipD, List.zipWith_cons_cons, List.zipWith_nil_left, List.zipWith_nil_right, List.all_cons, List.all_nil, id_eq, scalD, borE, wipeE, noOwn, sz_0, szl_0, sz_1, szl_1, sz_2, szl_2, sz_3, szl_3, sz_4, szl_4, sz_5, szl_5, sz_6, szl_6, sz_7, szl_7, sz_8, szl_8, sz_9, szl_9, sz_10, szl_10, sz_11, szl_11, sz_12, szl_12, sz_13, szl_13, sz_14, szl_14, sz_15, szl_15, sz_16, szl_16, sz_17, szl_17, sz_18, szl_18, sz_19, szl_19, sz_20, szl_20, sz_21, szl_21, sz_22, szl_22, sz_23, szl_23, sz_24, szl_24, sz_25, szl_25, sz_26, szl_26, sz_27, szl_27, sz_28, szl_28, sz_29, szl_29, sz_30, szl_30, sz_31, szl_31, sz_32, szl_32, frz, List.all_cons, List.all_nil, o_rq0, o_rq1, l1, l3, sm1, sm2, sm3, sm4, sm5, Int.natAbs_natCast, hs9]
    refine ⟨.val (rq x), ?_⟩
    have e1 : (xs.take (i + 1)).sum = (xs.take i).sum + x := by
      rw [take_snoc hi, List.sum_append]
      show _ + (x + 0) = _
      rw [Rat.add_zero]
    have e5 : ((lcL 1 (xs.take i) : Nat) : Int) * (x.den : Int) = ((lcL 1 (xs.take i) * x.den : Nat) : Int) := by omega
    have e4 : lcL 1 (xs.take (i + 1)) = lcL 1 (xs.take i) * x.den / Nat.gcd (lcL 1 (xs.take i)) x.den := by rw [take_snoc hi, lcL_snoc, Nat.lcm]
    rw [e1, e4, e5, fdiv_nat]
  · rintro env ⟨s3, rfl⟩
    rw [List.length_map, List.take_length]
    have s1 := same_ok 40 (.lst [rq xs.sum, rq xs.sum, rq (xs.sum + xs.sum), rq 0, rq xs[2]]) rfl
    have s2 := same_ok 40 (.lst (xs.map rq)) (okS_rqs xs (by omega))
    have s3 := same_ok 40 (.lst (xs.reverse.map rq)) (okS_rqs xs.reverse (by rw [List.length_reverse]; omega))
    have s4 := same_ok 40 (.lst [.int (lcL 1 xs : Nat), .int (lcL 1 xs : Nat), .int xs[3].den, .int 1, .int (lcL 1 xs : Nat)]) rfl
    have r0 : D.tup [.int 0, .int 1] = rq 0 := rfl
    have sm1 : Sm xs.sum.num := sm_of (lt_up hb.1 (by decide))
    have sm0 : Sm 2 := sm_of (by decide)
    have szz : (xs.length + xs.length ≤ sizeLine) = True := eq_true (Nat.le_trans (show xs.length + xs.length ≤ 28 by omega) (by decide))
    simp only [r__law_list_holds_2, ↓wR_ok, ↓wR_err, ↓wR_bind, ↓wR_of, ↓wO_some, ↓wO_map, ↓wO_bind, ↓w_var0, ↓w_varS, ↓w_eC, ↓w_e1, ↓w_l1, ↓w_e2, ↓w_l2, ↓w_b1, ↓w_b2, ↓w_eB, ↓w_eF, ↓w_lF, ↓w_eCall, ↓w_eLst, ↓w_aNil, ↓w_aCons, ↓w_eTup, ↓w_lDisp, ↓w_eIf, ↓w_bAnd, ↓w_bOr, ↓w_bNot, ↓w_bYes, ↓w_bChain, ↓w_eAnd, ↓w_eOr, ↓w_iAny, ↓w_oNone, ↓w_oSomeC, ↓w_eSl, ↓w_lSlG, ↓w_lComp, ↓w_sSeq, ↓w_sNil, ↓w_sBreak, ↓w_sCont, ↓w_sSet, ↓w_sSetL, ↓w_sExpr, ↓w_sRet, ↓w_sRetN, ↓w_sIf, ↓w_own0, ↓w_ownS, ↓w_sRetO, ↓w_sApp, ↓w_sSetIx, ↓w_sFrz, ↓w_sThen, ↓w_sRaise, ↓w_sAsg, ↓w_sFor, ↓w_sTry, ↓t_name, ↓t_nil, ↓t_cons, ↓o_plus, ↓o_plusL, ↓o_lAdd, ↓o_sub, ↓o_neg, ↓o_mul, ↓o_fdiv, ↓o_mod, ↓o_pow, ↓o_lt, ↓o_le, ↓o_gt, ↓o_ge, ↓o_eq, ↓o_ne, ↓o_truthB, ↓o_truthI, ↓o_truthN, ↓o_truthL, ↓o_truthT, ↓o_truthS, ↓o_notB, ↓o_isNN, ↓o_isBT, ↓o_isBF, ↓o_isT, ↓o_isIB, ↓o_isSB, ↓o_isLB, ↓o_isTB, ↓o_isNB, ↓o_isNot, ↓o_lenL, ↓o_lenT, ↓o_lenS, ↓o_abs, ↓o_intI, ↓o_intB, ↓o_str, ↓o_gcd, ↓o_list, ↓o_listT, ↓o_tuple, ↓o_tupleT, ↓o_rev, ↓o_type, ↓o_isi, ↓o_isi2, ↓o_rg1, ↓o_rg2, ↓o_zip, ↓o_zipT, ↓o_itemsL, ↓o_itemsT, ↓o_ixL, ↓o_ixT, ↓o_at0, ↓o_at1, ↓o_at2, ↓o_at3, ↓o_at4, ↓o_at5, ↓o_at6, ↓o_at7, ↓o_at8, ↓o_at9, ↓o_at10, ↓o_at11, ↓o_at12, ↓o_at13, ↓o_at14, ↓o_at15, ↓w_eIxO, ↓t_tup1, ↓t_tup2, ↓t_tup3, ↓t_tup9, ↓w_okOnly, ↓w_compN, ↓w_compC, ↓o_all, ↓o_any, ↓bls_nil, ↓bls_cons, ↓o_minL, ↓o_maxL, ↓o_sumL, ↓ints_nil, ↓ints_cons, ↓o_min3, ↓o_max3, ↓o_slL, ↓o_slT, ↓w_eBor, ↓w_bBor, o_isN, w_runF, tyName, isSubTy, tyNames, List.getElem?_cons_zero, List.getElem?_cons_succ, List.set_cons_zero, List.set_cons_succ, List.map_cons, List.map_nil, List.replicate_succ, List.replicate_zero, List.length_cons, List.length_nil, List.cons_append, List.nil_append, Nat.reduceAdd, Nat.reduceSub, Nat.reduceLeDiff, Nat.reduceEqDiff, reduceIte, if_true, if_false, Bool.not_true, Bool.not_false, Bool.true_and, Bool.and_true, Bool.false_and, Bool.and_false, Bool.true_or, Bool.false_or, Bool.or_true, Bool.or_false, reduceCtorEq, decide_true, decide_false, beq_self_eq_true, List.mem_cons, true_or, or_true, true_and, and_true, false_and, and_false, or_false, false_or, String.reduceEq, String.reduceBEq, List.not_mem_nil, Bool.not_eq_true, Bool.false_eq_true, eq_self, not_true_eq_false, not_false_eq_true, Bool.not_eq_eq_eq_not, decide_eq_true_eq, decide_eq_false_iff_not, bne_iff_ne, ne_eq, Int.reduceLT, Int.reduceLE, Int.reduceMul, Int.reduceAdd, Int.reduceNeg, Int.reduceToNat, Int.reducePow, Nat.reduceLT, Int.reduceEq, Int.reduceSub, zipD, List.zipWith_cons_cons, List.zipWith_nil_left, List.zipWith_nil_right, List.all_cons, List.all_nil, id_eq, scalD, borE, wipeE, noOwn, sz_0, szl_0, sz_1, szl_1, sz_2, szl_2, sz_3, szl_3, sz_4, szl_4, sz_5, szl_5, sz_6, szl_6, sz_7, szl_7, sz_8, szl_8, sz_9, szl_9, sz_10, szl_10, sz_11, szl_11, sz_12, szl_12, sz_13, szl_13, sz_14, szl_14, sz_15, szl_15, sz_16, szl_16, sz_17, szl_17, sz_18, szl_18, sz_19, szl_19, sz_20, szl_20, sz_21, szl_21, sz_22, szl_22, sz_23, szl_23, sz_24, szl_24, sz_25, szl_25, sz_26, szl_26, sz_27, szl_27, sz_28, szl_28, sz_29, szl_29, sz_30, szl_30, sz_31, szl_31, sz_32, szl_32, frz, List.all_cons, List.all_nil, o_rq0, o_rq1, o2, o3, ← List.map_reverse, ← List.map_append, t1, t2, t3, t4, t5, c1, c2, c3, c4, c5, l2, r0, sm0, sm1, s1, s2, s3, s4, List.length_map, List.length_reverse, szz]
end AF

namespace AF
open PySem PySem.Spec PyProof.Rows L2
theorem cut_from {α : Type} (xs : List α) (k : Nat) : cutD xs (some (k : Int)) none = xs.drop k := by
  unfold cutD
  rw [HT.sIx_nat, HT.sIx_none]
  by_cases h : k ≤ xs.length
  · rw [Nat.min_eq_left h]
    exact List.take_of_length_le (by rw [List.length_drop]; omega)
  · rw [Nat.min_eq_right (by omega), List.drop_of_length_le (Nat.le_refl _), List.drop_of_length_le (by omega)]
    simp
theorem cut_to {α : Type} (xs : List α) (k : Nat) : cutD xs none (some (k : Int)) = xs.take k := by
  unfold cutD
  rw [HT.sIx_nat, HT.sIx_none]
  by_cases h : k ≤ xs.length
  · rw [Nat.min_eq_left h]
    rfl
  · rw [Nat.min_eq_right (by omega)]
    show xs.take (xs.length - 0) = _
    rw [List.take_of_length_le (by omega), List.take_of_length_le (by omega)]
theorem div_sz (p q : Int) (hq : q ≠ 0) : (Rat.divInt p q).num.natAbs ≤ p.natAbs ∧ ((Rat.divInt p q).den : Int) ∣ q := by
  obtain ⟨h1, h2⟩ := low_ok p q hq
  obtain ⟨a, ha⟩ : ((Nat.gcd p.natAbs q.natAbs : Nat) : Int) ∣ p := Int.ofNat_dvd_left.mpr (Nat.gcd_dvd_left _ _)
  obtain ⟨b, hb⟩ : ((Nat.gcd p.natAbs q.natAbs : Nat) : Int) ∣ q := Int.ofNat_dvd_left.mpr (Nat.gcd_dvd_right _ _)
  have hs := sh_ne (p := p) hq
  have e : ∃ c d : Int, p = shOf p q * c ∧ q = shOf p q * d := by
    unfold shOf
    split
    · exact ⟨a, b, ha, hb⟩
    · exact ⟨-a, -b, by rw [Int.neg_mul_neg]; exact ha, by rw [Int.neg_mul_neg]; exact hb⟩
  obtain ⟨c, d, hc, hd⟩ := e
  generalize shOf p q = s at *
  rw [← h1, ← h2]
  constructor
  · conv => lhs; rw [hc]
    rw [Int.mul_fdiv_cancel_left _ hs]
    rw [hc, Int.natAbs_mul]
    exact Nat.le_mul_of_pos_left _ (by omega)
  · conv => lhs; rw [hd]
    rw [Int.mul_fdiv_cancel_left _ hs]
    exact ⟨s, by rw [hd, Int.mul_comm]⟩
def longY (xs : List Rat) (k : Nat) : Rat := Rat.divInt (xs.getD k 0).num ((xs.getD k 0).den * (11 + 2 * (k : Int)))
theorem lists_ok {M : Nat} (hM : M ≠ 0) (hm : M < 2 ^ 100) {xs : List Rat} (h7 : xs.length = 7) (hS : ∀ x ∈ xs, Sz x) (hv : ∀ x ∈ xs, x.den ∣ M) : m__law_lists_hold [.lst (xs.map rq)] = .ok (.bl true) := by
  have hL : M * 334639305 ≠ 0 := by omega
  have hl : M * 334639305 < 2 ^ 130 := by omega
  have hx : ∀ x ∈ xs, Li (M * 334639305) x := fun x h => ⟨(hS x h).1, Nat.lt_of_lt_of_le (hS x h).2 (by decide), Nat.dvd_trans (hv x h) (Nat.dvd_mul_right _ _)⟩
  have hg : ∀ k : Nat, k < 7 → xs[k]? = some (xs.getD k 0) ∧ xs.getD k 0 ∈ xs := fun k hk => by
    have : k < xs.length := by omega
    rw [List.getD_eq_getElem?_getD, List.getElem?_eq_getElem this]
    exact ⟨rfl, List.getElem_mem _⟩
  have hy0 : ∀ k : Nat, k < 7 → Li (M * 334639305) (longY xs k) ∧ m__law_lowest [.int (xs.getD k 0).num, .int ((xs.getD k 0).den * (11 + 2 * (k : Int)))] = .ok (rq (longY xs k)) := fun k hk => by
    have hs := hS _ (hg k hk).2
    have hd0 := den_pos (xs.getD k 0)
    have hd1 := hs.2
    have hk0 : (0 : Int) < 11 + 2 * (k : Int) := by omega
    have hq : ((xs.getD k 0).den : Int) * (11 + 2 * (k : Int)) ≠ 0 := Int.mul_ne_zero (by omega) (by omega)
    have hz := div_sz (xs.getD k 0).num _ hq
    have hqb : (((xs.getD k 0).den : Int) * (11 + 2 * (k : Int))).natAbs < 2 ^ (20 + 5) := mul_lt hs.n (by omega)
    have hdn : (longY xs k).den ∣ (xs.getD k 0).den * (11 + 2 * k) := by
      have := Int.natAbs_dvd_natAbs.mpr hz.2
      rw [Int.natAbs_mul] at this
      exact this
    refine ⟨⟨Nat.lt_of_le_of_lt hz.1 hs.1, ?_, ?_⟩, lowest_ok _ _ hq (lt_up hqb (by decide)) (Nat.lt_of_lt_of_le (nat_mul hs.1 hqb) (by decide))⟩
    · refine Nat.lt_of_le_of_lt (Nat.le_of_dvd ?_ hdn) ?_
      · exact Nat.mul_pos (by omega) (by omega)
      · rw [Int.natAbs_mul] at hqb
        exact hqb
    · refine Nat.dvd_trans hdn (Nat.mul_dvd_mul (hv _ (hg k hk).2) ?_)
      have : ∀ k, k < 7 → 11 + 2 * k ∣ 334639305 := by decide
      exact this k hk
  have hyL : ∀ y ∈ (List.range 7).map (longY xs), Li (M * 334639305) y := fun y h => by
    obtain ⟨k, hk, rfl⟩ := List.mem_map.mp h
    exact (hy0 k (List.mem_range.mp hk)).1
  have hlong : ∀ y ∈ xs ++ (List.range 7).map (longY xs), Li (M * 334639305) y := fun y h => by
    rcases List.mem_append.mp h with h | h
    · exact hx y h
    · exact hyL y h
  have hll : (xs ++ (List.range 7).map (longY xs)).length = 14 := by simp [h7]
  apply wR_eq
  simp only [m__law_lists_hold, g__law_lists_hold, ↓wR_ok, ↓wR_err, ↓wR_bind, ↓wR_of, ↓wO_some, ↓wO_map, ↓wO_bind, ↓w_var0, ↓w_varS, ↓w_eC, ↓w_e1, ↓w_l1, ↓w_e2, ↓w_l2, ↓w_b1, ↓w_b2, ↓w_eB, ↓w_eF, ↓w_lF, ↓w_eCall, ↓w_eLst, ↓w_aNil, ↓w_aCons, ↓w_eTup, ↓w_lDisp, ↓w_eIf, ↓w_bAnd, ↓w_bOr, ↓w_bNot, ↓w_bYes, ↓w_bChain, ↓w_eAnd, ↓w_eOr, ↓w_iAny, ↓w_oNone, ↓w_oSomeC, ↓w_eSl, ↓w_lSlG, ↓w_lComp, ↓w_sSeq, ↓w_sNil, ↓w_sBreak, ↓w_sCont, ↓w_sSet, ↓w_sSetL, ↓w_sExpr, ↓w_sRet, ↓w_sRetN, ↓w_sIf, ↓w_own0, ↓w_ownS, ↓w_sRetO, ↓w_sApp, ↓w_sSetIx, ↓w_sFrz, ↓w_sThen, ↓w_sRaise, ↓w_sAsg, ↓w_sFor, ↓w_sTry, ↓t_name, ↓t_nil, ↓t_cons, ↓o_plus, ↓o_plusL, ↓o_lAdd, ↓o_sub, ↓o_neg, ↓o_mul, ↓o_fdiv, ↓o_mod, ↓o_pow, ↓o_lt, ↓o_le, ↓o_gt, ↓o_ge, ↓o_eq, ↓o_ne, ↓o_truthB, ↓o_truthI, ↓o_truthN, ↓o_truthL, ↓o_truthT, ↓o_truthS, ↓o_notB, ↓o_isNN, ↓o_isBT, ↓o_isBF, ↓o_isT, ↓o_isIB, ↓o_isSB, ↓o_isLB, ↓o_isTB, ↓o_isNB, ↓o_isNot, ↓o_lenL, ↓o_lenT, ↓o_lenS, ↓o_abs, ↓o_intI, ↓o_intB, ↓o_str, ↓o_gcd, ↓o_list, ↓o_listT, ↓o_tuple, ↓o_tupleT, ↓o_rev, ↓o_type, ↓o_isi, ↓o_isi2, ↓o_rg1, ↓o_rg2, ↓o_zip, ↓o_zipT, ↓o_itemsL, ↓o_itemsT, ↓o_ixL, ↓o_ixT, ↓o_at0, ↓o_at1, ↓o_at2, ↓o_at3, ↓o_at4, ↓o_at5, ↓o_at6, ↓o_at7, ↓o_at8, ↓o_at9, ↓o_at10, ↓o_at11, ↓o_at12, ↓o_at13, ↓o_at14, ↓o_at15, ↓w_eIxO, ↓t_tup1, ↓t_tup2, ↓t_tup3, ↓t_tup9, ↓w_okOnly, ↓w_compN, ↓w_compC, ↓o_all, ↓o_any, ↓bls_nil, ↓bls_cons, ↓o_minL, ↓o_maxL, ↓o_sumL, ↓ints_nil, ↓ints_cons, ↓o_min3, ↓o_max3, ↓o_slL, ↓o_slT, ↓w_eBor, ↓w_bBor, o_isN, w_runF, tyName, isSubTy, tyNames, List.getElem?_cons_zero, List.getElem?_cons_succ, List.set_cons_zero, List.set_cons_succ, List.map_cons, List.map_nil, List.replicate_succ, List.replicate_zero, List.length_cons, List.length_nil, List.cons_append, List.nil_append, Nat.reduceAdd, Nat.reduceSub, Nat.reduceLeDiff, Nat.reduceEqDiff, reduceIte, if_true, if_false, Bool.not_true, Bool.not_false, Bool.true_and, Bool.and_true, Bool.false_and, Bool.and_false, Bool.true_or, Bool.false_or, Bool.or_true, Bool.or_false, reduceCtorEq, decide_true, decide_false, beq_self_eq_true, List.mem_cons, true_or, or_true, true_and, and_true, false_and, and_false, or_false, false_or, String.reduceEq, String.reduceBEq, List.not_mem_nil, Bool.not_eq_true, Bool.false_eq_true, eq_self, not_true_eq_false, not_false_eq_true, Bool.not_eq_eq_eq_not, decide_eq_true_eq, decide_eq_false_iff_not, bne_iff_ne, ne_eq, Int.reduceLT, Int.reduceLE, Int.reduceMul, Int.reduceAdd, Int.reduceNeg, Int.reduceToNat, Int.reducePow, Nat.reduceLT, Int.reduceEq, Int.reduceSub, zipD, List.zipWith_cons_cons, List.zipWith_nil_left, List.zipWith_nil_right, List.all_cons, List.all_nil, id_eq, scalD, borE, wipeE, noOwn, sz_0, szl_0, sz_1, szl_1, sz_2, szl_2, sz_3, szl_3, sz_4, szl_4, sz_5, szl_5, sz_6, szl_6, sz_7, szl_7, sz_8, szl_8, sz_9, szl_9, sz_10, szl_10, sz_11, szl_11, sz_12, szl_12, sz_13, szl_13, sz_14, szl_14, sz_15, szl_15, sz_16, szl_16, sz_17, szl_17, sz_18, szl_18, sz_19, szl_19, sz_20, szl_20, sz_21, szl_21, sz_22, szl_22, sz_23, szl_23, sz_24, szl_24, sz_25, szl_25, sz_26, szl_26, sz_27, szl_27, sz_28, szl_28, sz_29, szl_29, sz_30, szl_30, sz_31, szl_31, sz_32, szl_32, frz, List.all_cons, List.all_nil, List.length_map, h7]
  refine ⟨by decide, by decide, ?_⟩
  refine w_compF (fun d => match d with | .int z => rq (longY xs z.toNat) | d => d) ?_ ?_
  · intro d hd
    obtain ⟨i, hi⟩ := List.getElem?_of_mem hd
    obtain ⟨rfl, hi7⟩ := rangeD_get hi
    have hi : i < 7 := hi7
    have hs := hS _ (hg i hi).2
    rw [t_name, show (0 : Int) + (i : Int) = (i : Int) from by omega]
    have oi : ∀ Q : D → Prop, wpO (atI (xs.map rq) (i : Int)) Q = Q (rq (xs.getD i 0)) := fun Q => o_atX (hg i hi).1
    have sm1 : Sm ((xs.getD i 0).den : Int) := sm_of (lt_up hs.n (by decide))
    have sm2 : Sm (11 + 2 * (i : Int)) := Sm.lt (by omega) (by omega)
    have sm3 : Sm (i : Int) := Sm.lt (by omega) (by omega)
    have sm4 : Sm 2 := Sm.lt (by decide) (by decide)
    simp only [↓wR_ok, ↓wR_err, ↓wR_bind, ↓wR_of, ↓wO_some, ↓wO_map, ↓wO_bind, ↓w_var0, ↓w_varS, ↓w_eC, ↓w_e1, ↓w_l1, ↓w_e2, ↓w_l2, ↓w_b1, ↓w_b2, ↓w_eB, ↓w_eF, ↓w_lF, ↓w_eCall, ↓w_eLst, ↓w_aNil, ↓w_aCons, ↓w_eTup, ↓w_lDisp, ↓w_eIf, ↓w_bAnd, ↓w_bOr, ↓w_bNot, ↓w_bYes, ↓w_bChain, ↓w_eAnd, ↓w_eOr, ↓w_iAny, ↓w_oNone, ↓w_oSomeC, ↓w_eSl, ↓w_lSlG, ↓w_lComp, ↓w_sSeq, ↓w_sNil, ↓w_sBreak, ↓w_sCont, ↓w_sSet, ↓w_sSetL, ↓w_sExpr, ↓w_sRet, ↓w_sRetN, ↓w_sIf, ↓w_own0, ↓w_ownS, ↓w_sRetO, ↓w_sApp, ↓w_sSetIx, ↓w_sFrz, ↓w_sThen, ↓w_sRaise, ↓w_sAsg, ↓w_sFor, ↓w_sTry, ↓t_name, ↓t_nil, ↓t_cons, ↓o_plus, ↓o_plusL, ↓o_lAdd, ↓o_sub, ↓o_neg, ↓o_mul, ↓o_fdiv, ↓o_mod, ↓o_pow, ↓o_lt, ↓o_le, ↓o_gt, ↓o_ge, ↓o_eq, ↓o_ne, ↓o_truthB, ↓o_truthI, ↓o_truthN, ↓o_truthL, ↓o_truthT, ↓o_truthS, ↓o_notB, ↓o_isNN, ↓o_isBT, ↓o_isBF, ↓o_isT, ↓o_isIB, ↓o_isSB, ↓o_isLB, ↓o_isTB, ↓o_isNB, ↓o_isNot, ↓o_lenL, ↓o_lenT, ↓o_lenS, ↓o_abs, ↓o_intI, ↓o_intB, ↓o_str, ↓o_gcd, ↓o_list, ↓o_listT, ↓o_tuple, ↓o_tupleT, ↓o_rev, ↓o_type, ↓o_isi, ↓o_isi2, ↓o_rg1, ↓o_rg2, ↓o_zip, ↓o_zipT, ↓o_itemsL, ↓o_itemsT, ↓o_ixL, ↓o_ixT, ↓o_at0, ↓o_at1, ↓o_at2, ↓o_at3, ↓o_at4, ↓o_at5, ↓o_at6, ↓o_at7, ↓o_at8, ↓o_at9, ↓o_at10, ↓o_at11, ↓o_at12, ↓o_at13, ↓o_at14, ↓o_at15, ↓w_eIxO, ↓t_tup1, ↓t_tup2, ↓t_tup3, ↓t_tup9, ↓w_okOnly, ↓w_compN, ↓w_compC, ↓o_all, ↓o_any, ↓bls_nil, ↓bls_cons, ↓o_minL, ↓o_maxL, ↓o_sumL, ↓ints_nil, ↓ints_cons, ↓o_min3, ↓o_max3, ↓o_slL, ↓o_slT, ↓w_eBor, ↓w_bBor, o_isN, w_runF, tyName, isSubTy, tyNames, List.getElem?_cons_zero, List.getElem?_cons_succ, List.set_cons_zero, List.set_cons_succ, List.map_cons, List.map_nil, List.replicate_succ, List.replicate_zero, List.length_cons, List.length_nil, List.cons_append, List.nil_append, Nat.reduceAdd, Nat.reduceSub, Nat.reduceLeDiff, Nat.reduceEqDiff, reduceIte, if_true, if_false, Bool.not_true, Bool.not_false, Bool.true_and, Bool.and_true, Bool.false_and, Bool.and_false, Bool.true_or, Bool.false_or, Bool.or_true, Bool.or_false, reduceCtorEq, decide_true, decide_false, beq_self_eq_true, List.mem_cons, true_or, or_true, true_and, and_true, false_and, and_false, or_false, false_or, String.reduceEq, String.reduceBEq, List.not_mem_nil, Bool.not_eq_true, Bool.false_eq_true, eq_self, not_true_eq_false, not_false_eq_true, Bool.not_eq_eq_eq_not, decide_eq_true_eq, decide_eq_false_iff_not, bne_iff_ne, ne_eq, Int.reduceLT, Int.reduceLE, Int.reduceMul, Int.reduceAdd, Int.reduceNeg, Int.reduceToNat, Int.reducePow, Nat.reduceLT, Int.reduceEq, Int.reduceSub, zipD, List.zipWith_cons_cons, List.zipWith_nil_left, List.zipWith_nil_right, List.all_cons, List.all_nil, id_eq, scalD, borE, wipeE, noOwn, sz_0, szl_0, sz_1, szl_1, sz_2, szl_2, sz_3, szl_3, sz_4, szl_4, sz_5, szl_5, sz_6, szl_6, sz_7, szl_7, sz_8, szl_8, sz_9, szl_9, sz_10, szl_10, sz_11, szl_11, sz_12, szl_12, sz_13, szl_13, sz_14, szl_14, sz_15, szl_15, sz_16, szl_16, sz_17, szl_17, sz_18, szl_18, sz_19, szl_19, sz_20, szl_20, sz_21, szl_21, sz_22, szl_22, sz_23, szl_23, sz_24, szl_24, sz_25, szl_25, sz_26, szl_26, sz_27, szl_27, sz_28, szl_28, sz_29, szl_29, sz_30, szl_30, sz_31, szl_31, sz_32, szl_32, frz, List.all_cons, List.all_nil, oi, o_rq0, o_rq1, (hy0 i hi).2, sm1, sm2, sm3, sm4, Int.toNat_natCast]
  · have e : ((rangeD 0 (7 : Int).toNat).map fun d => match d with | .int z => rq (longY xs z.toNat) | d => d) = ((List.range 7).map (longY xs)).map rq := rfl
    have e : ((rangeD 0 ((7 : Nat) : Int).toNat).map fun d => match d with | .int z => rq (longY xs z.toNat) | d => d) = ((List.range 7).map (longY xs)).map rq := e
    rw [e]
    generalize hY : (List.range 7).map (longY xs) = ys at *
    have f5 : ∀ zs : List D, cutD zs (some 5) none = zs.drop 5 := fun zs => cut_from zs 5
    have t5 : ∀ zs : List D, cutD zs none (some 5) = zs.take 5 := fun zs => cut_to zs 5
    have hy7 : ys.length = 7 := by rw [← hY]; simp
    have szz : (((xs ++ ys).drop 5).length + ((xs ++ ys).take 5).length ≤ sizeLine) = True := eq_true (Nat.le_trans (show ((xs ++ ys).drop 5).length + ((xs ++ ys).take 5).length ≤ 28 by rw [List.length_drop, List.length_take]; omega) (by decide))
    simp only [↓wR_ok, ↓wR_err, ↓wR_bind, ↓wR_of, ↓wO_some, ↓wO_map, ↓wO_bind, ↓w_var0, ↓w_varS, ↓w_eC, ↓w_e1, ↓w_l1, ↓w_e2, ↓w_l2, ↓w_b1, ↓w_b2, ↓w_eB, ↓w_eF, ↓w_lF, ↓w_eCall, ↓w_eLst, ↓w_aNil, ↓w_aCons, ↓w_eTup, ↓w_lDisp, ↓w_eIf, ↓w_bAnd, ↓w_bOr, ↓w_bNot, ↓w_bYes, ↓w_bChain, ↓w_eAnd, ↓w_eOr, ↓w_iAny, ↓w_oNone, ↓w_oSomeC, ↓w_eSl, ↓w_lSlG, ↓w_lComp, ↓w_sSeq, ↓w_sNil, ↓w_sBreak, ↓w_sCont, ↓w_sSet, ↓w_sSetL, ↓w_sExpr, ↓w_sRet, ↓w_sRetN, ↓w_sIf, ↓w_own0, ↓w_ownS, ↓w_sRetO, ↓w_sApp, ↓w_sSetIx, ↓w_sFrz, ↓w_sThen, ↓w_sRaise, ↓w_sAsg, ↓w_sFor, ↓w_sTry, ↓t_name, ↓t_nil, ↓t_cons, ↓o_plus, ↓o_plusL, ↓o_lAdd, ↓o_sub, ↓o_neg, ↓o_mul, ↓o_fdiv, ↓o_mod, ↓o_pow, ↓o_lt, ↓o_le, ↓o_gt, ↓o_ge, ↓o_eq, ↓o_ne, ↓o_truthB, ↓o_truthI, ↓o_truthN, ↓o_truthL, ↓o_truthT, ↓o_truthS, ↓o_notB, ↓o_isNN, ↓o_isBT, ↓o_isBF, ↓o_isT, ↓o_isIB, ↓o_isSB, ↓o_isLB, ↓o_isTB, ↓o_isNB, ↓o_isNot, ↓o_lenL, ↓o_lenT, ↓o_lenS, ↓o_abs, ↓o_intI, ↓o_intB, ↓o_str, ↓o_gcd, ↓o_list, ↓o_listT, ↓o_tuple, ↓o_tupleT, ↓o_rev, ↓o_type, ↓o_isi, ↓o_isi2, ↓o_rg1, ↓o_rg2, ↓o_zip, ↓o_zipT, ↓o_itemsL, ↓o_itemsT, ↓o_ixL, ↓o_ixT, ↓o_at0, ↓o_at1, ↓o_at2, ↓o_at3, ↓o_at4, ↓o_at5, ↓o_at6, ↓o_at7, ↓o_at8, ↓o_at9, ↓o_at10, ↓o_at11, ↓o_at12, ↓o_at13, ↓o_at14, ↓o_at15, ↓w_eIxO, ↓t_tup1, ↓t_tup2, ↓t_tup3, ↓t_tup9, ↓w_okOnly, ↓w_compN, ↓w_compC, ↓o_all, ↓o_any, ↓bls_nil, ↓bls_cons, ↓o_minL, ↓o_maxL, ↓o_sumL, ↓ints_nil, ↓ints_cons, ↓o_min3, ↓o_max3, ↓o_slL, ↓o_slT, ↓w_eBor, ↓w_bBor, o_isN, w_runF, tyName, isSubTy, tyNames, List.getElem?_cons_zero, List.getElem?_cons_succ, List.set_cons_zero, List.set_cons_succ, List.map_cons, List.map_nil, List.replicate_succ, List.replicate_zero, List.length_cons, List.length_nil, List.cons_append, List.nil_append, Nat.reduceAdd, Nat.reduceSub, Nat.reduceLeDiff, Nat.reduceEqDiff, reduceIte, if_true, if_false, Bool.not_true, Bool.not_false, Bool.true_and, Bool.and_true, Bool.false_and, Bool.and_false, Bool.true_or, Bool.false_or, Bool.or_true, Bool.or_false, reduceCtorEq, decide_true, decide_false, beq_self_eq_true, List.mem_cons, true_or, or_true, true_and, and_true, false_and, and_false, or_false, false_or, String.reduceEq, String.reduceBEq, List.not_mem_nil, Bool.not_eq_true, Bool.false_eq_true, eq_self, not_true_eq_false, not_false_eq_true, Bool.not_eq_eq_eq_not, decide_eq_true_eq, decide_eq_false_iff_not, bne_iff_ne, ne_eq, Int.reduceLT, Int.reduceLE, Int.reduceMul, Int.reduceAdd, Int.reduceNeg, Int.reduceToNat, Int.reducePow, Nat.reduceLT, Int.reduceEq, Int.reduceSub, zipD, List.zipWith_cons_cons, List.zipWith_nil_left, List.zipWith_nil_right, List.all_cons, List.all_nil, id_eq, scalD, borE, wipeE, noOwn, sz_0, szl_0, sz_1, szl_1, sz_2, szl_2, sz_3, szl_3, sz_4, szl_4, sz_5, szl_5, sz_6, szl_6, sz_7, szl_7, sz_8, szl_8, sz_9, szl_9, sz_10, szl_10, sz_11, szl_11, sz_12, szl_12, sz_13, szl_13, sz_14, szl_14, sz_15, szl_15, sz_16, szl_16, sz_17, szl_17, sz_18, szl_18, sz_19, szl_19, sz_20, szl_20, sz_21, szl_21, sz_22, szl_22, sz_23, szl_23, sz_24, szl_24, sz_25, szl_25, sz_26, szl_26, sz_27, szl_27, sz_28, szl_28, sz_29, szl_29, sz_30, szl_30, sz_31, szl_31, sz_32, szl_32, frz, List.all_cons, List.all_nil, List.length_map, hy7, o_slL, f5, t5, ← List.map_append, ← List.map_drop, ← List.map_take, szz]
    refine w_forP (fun e => ∃ s2 s3, e = [.val (.lst (xs.map rq)), .val (.lst ((xs ++ ys).map rq)), s2, s3]) ⟨_, _, rfl⟩ ?_ ?_
    · rintro d hd env ⟨s2, s3, rfl⟩
      have hz : ∃ zs : List Rat, d = .lst (zs.map rq) ∧ (∀ z ∈ zs, Li (M * 334639305) z) ∧ 4 ≤ zs.length ∧ zs.length ≤ 14 := by
        simp only [List.mem_cons, List.not_mem_nil, or_false] at hd
        rcases hd with rfl | rfl | rfl
        · exact ⟨xs, rfl, hx, by omega, by omega⟩
        · exact ⟨_, rfl, hlong, by omega, by omega⟩
        · refine ⟨_, rfl, fun z hz => hlong z ?_, ?_, ?_⟩
          · rcases List.mem_append.mp hz with h | h
            · exact List.mem_of_mem_drop h
            · exact List.mem_of_mem_take h
          · rw [List.length_append, List.length_drop, List.length_take]; omega
          · rw [List.length_append, List.length_drop, List.length_take]; omega
      obtain ⟨zs, rfl, h1, h2, h3⟩ := hz
      rw [t_name]
      simp only [b__law_lists_hold_1, ↓wR_ok, ↓wR_err, ↓wR_bind, ↓wR_of, ↓wO_some, ↓wO_map, ↓wO_bind, ↓w_var0, ↓w_varS, ↓w_eC, ↓w_e1, ↓w_l1, ↓w_e2, ↓w_l2, ↓w_b1, ↓w_b2, ↓w_eB, ↓w_eF, ↓w_lF, ↓w_eCall, ↓w_eLst, ↓w_aNil, ↓w_aCons, ↓w_eTup, ↓w_lDisp, ↓w_eIf, ↓w_bAnd, ↓w_bOr, ↓w_bNot, ↓w_bYes, ↓w_bChain, ↓w_eAnd, ↓w_eOr, ↓w_iAny, ↓w_oNone, ↓w_oSomeC, ↓w_eSl, ↓w_lSlG, ↓w_lComp, ↓w_sSeq, ↓w_sNil, ↓w_sBreak, ↓w_sCont, ↓w_sSet, ↓w_sSetL, ↓w_sExpr, ↓w_sRet, ↓w_sRetN, ↓w_sIf, ↓w_own0, ↓w_ownS, ↓w_sRetO, ↓w_sApp, ↓w_sSetIx, ↓w_sFrz, ↓w_sThen, ↓w_sRaise, ↓w_sAsg, ↓w_sFor, ↓w_sTry, ↓t_name, ↓t_nil, ↓t_cons, ↓o_plus, ↓o_plusL, ↓o_lAdd, ↓o_sub, ↓o_neg, ↓o_mul, ↓o_fdiv, ↓o_mod, ↓o_pow, ↓o_lt, ↓o_le, ↓o_gt, ↓o_ge, ↓o_eq, ↓o_ne, ↓o_truthB, ↓o_truthI, ↓o_truthN, ↓o_truthL, ↓o_truthT, ↓o_truthS, ↓o_notB, ↓o_isNN, ↓o_isBT, ↓o_isBF, ↓o_isT, ↓o_isIB, ↓o_isSB, ↓o_isLB, ↓o_isTB, ↓o_isNB, ↓o_isNot, ↓o_lenL, ↓o_lenT, ↓o_lenS, ↓o_abs, ↓o_intI, ↓o_intB, ↓o_str, ↓o_gcd, ↓o_list, ↓o_listT, ↓o_tuple, ↓o_tupleT, ↓o_rev, ↓o_type, ↓o_isi, ↓o_isi2, ↓o_rg1, ↓o_rg2, ↓o_zip, ↓o_zipT, ↓o_itemsL, ↓o_itemsT, ↓o_ixL, ↓o_ixT, ↓o_at0, ↓o_at1, ↓o_at2, ↓o_at3, ↓o_at4, ↓o_at5, ↓o_at6, ↓o_at7, ↓o_at8, ↓o_at9, ↓o_at10, ↓o_at11, ↓o_at12, ↓o_at13, ↓o_at14, ↓o_at15, ↓w_eIxO, ↓t_tup1, ↓t_tup2, ↓t_tup3, ↓t_tup9, ↓w_okOnly, ↓w_compN, ↓w_compC, ↓o_all, ↓o_any, ↓bls_nil, ↓bls_cons, ↓o_minL, ↓o_maxL, ↓o_sumL, ↓ints_nil, ↓ints_cons, ↓o_min3, ↓o_max3, ↓o_slL, ↓o_slT, ↓w_eBor, ↓w_bBor, o_isN, w_runF, tyName, isSubTy, tyNames, List.getElem?_cons_zero, List.getElem?_cons_succ, List.set_cons_zero, List.set_cons_succ, List.map_cons, List.map_nil, List.replicate_succ, List.replicate_zero, List.length_cons, List.length_nil, List.cons_append, List.nil_append, Nat.reduceAdd, Nat.reduceSub, Nat.reduceLeDiff, Nat.reduceEqDiff, reduceIte, if_true, if_false, Bool.not_true, Bool.not_false, Bool.true_and, Bool.and_true, Bool.false_and, Bool.and_false, Bool.true_or, Bool.false_or, Bool.or_true, Bool.or_false, reduceCtorEq, decide_true, decide_false, beq_self_eq_true, List.mem_cons, true_or, or_true, true_and, and_true, false_and, and_false, or_false, false_or, String.reduceEq, String.reduceBEq, List.not_mem_nil, Bool.not_eq_true, Bool.false_eq_true, eq_self, not_true_eq_false, not_false_eq_true, Bool.not_eq_eq_eq_not, decide_eq_true_eq, decide_eq_false_iff_not, bne_iff_ne, ne_eq, Int.reduceLT, Int.reduceLE, Int.reduceMul, Int.reduceAdd, Int.reduceNeg, Int.reduceToNat, Int.reducePow, Nat.reduceLT, Int.reduceEq, Int.reduceSub, zipD, List.zipWith_cons_cons, List.zipWith_nil_left, List.zipWith_nil_right, List.all_cons, List.all_nil, id_eq, scalD, borE, wipeE, noOwn, sz_0, szl_0, sz_1, szl_1, sz_2, szl_2, sz_3, szl_3, sz_4, szl_4, sz_5, szl_5, sz_6, szl_6, sz_7, szl_7, sz_8, szl_8, sz_9, szl_9, sz_10, szl_10, sz_11, szl_11, sz_12, szl_12, sz_13, szl_13, sz_14, szl_14, sz_15, szl_15, sz_16, szl_16, sz_17, szl_17, sz_18, szl_18, sz_19, szl_19, sz_20, szl_20, sz_21, szl_21, sz_22, szl_22, sz_23, szl_23, sz_24, szl_24, sz_25, szl_25, sz_26, szl_26, sz_27, szl_27, sz_28, szl_28, sz_29, szl_29, sz_30, szl_30, sz_31, szl_31, sz_32, szl_32, frz, List.all_cons, List.all_nil, list_ok hL hl h1 h2 h3]
      exact ⟨_, _, rfl⟩
    · rintro env ⟨s2, s3, rfl⟩
      simp only [r__law_lists_hold_2, ↓wR_ok, ↓wR_err, ↓wR_bind, ↓wR_of, ↓wO_some, ↓wO_map, ↓wO_bind, ↓w_var0, ↓w_varS, ↓w_eC, ↓w_e1, ↓w_l1, ↓w_e2, ↓w_l2, ↓w_b1, ↓w_b2, ↓w_eB, ↓w_eF, ↓w_lF, ↓w_eCall, ↓w_eLst, ↓w_aNil, ↓w_aCons, ↓w_eTup, ↓w_lDisp, ↓w_eIf, ↓w_bAnd, ↓w_bOr, ↓w_bNot, ↓w_bYes, ↓w_bChain, ↓w_eAnd, ↓w_eOr, ↓w_iAny, ↓w_oNone, ↓w_oSomeC, ↓w_eSl, ↓w_lSlG, ↓w_lComp, ↓w_sSeq, ↓w_sNil, ↓w_sBreak, ↓w_sCont, ↓w_sSet, ↓w_sSetL, ↓w_sExpr, ↓w_sRet, ↓w_sRetN, ↓w_sIf, ↓w_own0, ↓w_ownS, ↓w_sRetO, ↓w_sApp, ↓w_sSetIx, ↓w_sFrz, ↓w_sThen, ↓w_sRaise, ↓w_sAsg, ↓w_sFor, ↓w_sTry, ↓t_name, ↓t_nil, ↓t_cons, ↓o_plus, ↓o_plusL, ↓o_lAdd, ↓o_sub, ↓o_neg, ↓o_mul, ↓o_fdiv, ↓o_mod, ↓o_pow, ↓o_lt, ↓o_le, ↓o_gt, ↓o_ge, ↓o_eq, ↓o_ne, ↓o_truthB, ↓o_truthI, ↓o_truthN, ↓o_truthL, ↓o_truthT, ↓o_truthS, ↓o_notB, ↓o_isNN, ↓o_isBT, ↓o_isBF, ↓o_isT, ↓o_isIB, ↓o_isSB, ↓o_isLB, ↓o_isTB, ↓o_isNB, ↓o_isNot, ↓o_lenL, ↓o_lenT, ↓o_lenS, ↓o_abs, ↓o_intI, ↓o_intB, ↓o_str, ↓o_gcd, ↓o_list, ↓o_listT, ↓o_tuple, ↓o_tupleT, ↓o_rev, ↓o_type, ↓o_isi, ↓o_isi2, ↓o_rg1, ↓o_rg2, ↓o_zip, ↓o_zipT, ↓o_itemsL, ↓o_itemsT, ↓o_ixL, ↓o_ixT, ↓o_at0, ↓o_at1, ↓o_at2, ↓o_at3, ↓o_at4, ↓o_at5, ↓o_at6, ↓o_at7, ↓o_at8, ↓o_at9, ↓o_at10, ↓o_at11, ↓o_at12, ↓o_at13, ↓o_at14, ↓o_at15, ↓w_eIxO, ↓t_tup1, ↓t_tup2, ↓t_tup3, ↓t_tup9, ↓w_okOnly, ↓w_compN, ↓w_compC, ↓o_all, ↓o_any, ↓bls_nil, ↓bls_cons, ↓o_minL, ↓o_maxL, ↓o_sumL, ↓ints_nil, ↓ints_cons, ↓o_min3, ↓o_max3, ↓o_slL, ↓o_slT, ↓w_eBor, ↓w_bBor, o_isN, w_runF, tyName, isSubTy, tyNames, List.getElem?_cons_zero, List.getElem?_cons_succ, List.set_cons_zero, List.set_cons_succ, List.map_cons, List.map_nil, List.replicate_succ, List.replicate_zero, List.length_cons, List.length_nil, List.cons_append, List.nil_append, Nat.reduceAdd, Nat.reduceSub, Nat.reduceLeDiff, Nat.reduceEqDiff, reduceIte, if_true, if_false, Bool.not_true, Bool.not_false, Bool.true_and, Bool.and_true, Bool.false_and, Bool.and_false, Bool.true_or, Bool.false_or, Bool.or_true, Bool.or_false, reduceCtorEq, decide_true, decide_false, beq_self_eq_true, List.mem_cons, true_or, or_true, true_and, and_true, false_and, and_false, or_false, false_or, String.reduceEq, String.reduceBEq, List.not_mem_nil, Bool.not_eq_true, Bool.false_eq_true, eq_self, not_true_eq_false, not_false_eq_true, Bool.not_eq_eq_eq_not, decide_eq_true_eq, decide_eq_false_iff_not, bne_iff_ne, ne_eq, Int.reduceLT, Int.reduceLE, Int.reduceMul, Int.reduceAdd, Int.reduceNeg, Int.reduceToNat, Int.reducePow, Nat.reduceLT, Int.reduceEq, Int.reduceSub, zipD, List.zipWith_cons_cons, List.zipWith_nil_left, List.zipWith_nil_right, List.all_cons, List.all_nil, id_eq, scalD, borE, wipeE, noOwn, sz_0, szl_0, sz_1, szl_1, sz_2, szl_2, sz_3, szl_3, sz_4, szl_4, sz_5, szl_5, sz_6, szl_6, sz_7, szl_7, sz_8, szl_8, sz_9, szl_9, sz_10, szl_10, sz_11, szl_11, sz_12, szl_12, sz_13, szl_13, sz_14, szl_14, sz_15, szl_15, sz_16, szl_16, sz_17, szl_17, sz_18, szl_18, sz_19, szl_19, sz_20, szl_20, sz_21, szl_21, sz_22, szl_22, sz_23, szl_23, sz_24, szl_24, sz_25, szl_25, sz_26, szl_26, sz_27, szl_27, sz_28, szl_28, sz_29, szl_29, sz_30, szl_30, sz_31, szl_31, sz_32, szl_32, frz, List.all_cons, List.all_nil]
end AF

namespace AF
open PySem PySem.Spec PyProof.Rows L2
/-! ### kinds -/
theorem whole_int (i : Int) : m_is_whole [.int i] = .ok (.bl true) := by apply wR_eq; simp only [m_is_whole, g_is_whole, ↓wR_ok, ↓wR_err, ↓wR_bind, ↓wR_of, ↓wO_some, ↓wO_map, ↓wO_bind, ↓w_var0, ↓w_varS, ↓w_eC, ↓w_e1, ↓w_l1, ↓w_e2, ↓w_l2, ↓w_b1, ↓w_b2, ↓w_eB, ↓w_eF, ↓w_lF, ↓w_eCall, ↓w_eLst, ↓w_aNil, ↓w_aCons, ↓w_eTup, ↓w_lDisp, ↓w_eIf, ↓w_bAnd, ↓w_bOr, ↓w_bNot, ↓w_bYes, ↓w_bChain, ↓w_eAnd, ↓w_eOr, ↓w_iAny, ↓w_oNone, ↓w_oSomeC, ↓w_eSl, ↓w_lSlG, ↓w_lComp, ↓w_sSeq, ↓w_sNil, ↓w_sBreak, ↓w_sCont, ↓w_sSet, ↓w_sSetL, ↓w_sExpr, ↓w_sRet, ↓w_sRetN, ↓w_sIf, ↓w_own0, ↓w_ownS, ↓w_sRetO, ↓w_sApp, ↓w_sSetIx, ↓w_sFrz, ↓w_sThen, ↓w_sRaise, ↓w_sAsg, ↓w_sFor, ↓w_sTry, ↓t_name, ↓t_nil, ↓t_cons, ↓o_plus, ↓o_plusL, ↓o_lAdd, ↓o_sub, ↓o_neg, ↓o_mul, ↓o_fdiv, ↓o_mod, ↓o_pow, ↓o_lt, ↓o_le, ↓o_gt, ↓o_ge, ↓o_eq, ↓o_ne, ↓o_truthB, ↓o_truthI, ↓o_truthN, ↓o_truthL, ↓o_truthT, ↓o_truthS, ↓o_notB, ↓o_isNN, ↓o_isBT, ↓o_isBF, ↓o_isT, ↓o_isIB, ↓o_isSB, ↓o_isLB, ↓o_isTB, ↓o_isNB, ↓o_isNot, ↓o_lenL, ↓o_lenT, ↓o_lenS, ↓o_abs, ↓o_intI, ↓o_intB, ↓o_str, ↓o_gcd, ↓o_list, ↓o_listT, ↓o_tuple, ↓o_tupleT, ↓o_rev, ↓o_type, ↓o_isi, ↓o_isi2, ↓o_rg1, ↓o_rg2, ↓o_zip, ↓o_zipT, ↓o_itemsL, ↓o_itemsT, ↓o_ixL, ↓o_ixT, ↓o_at0, ↓o_at1, ↓o_at2, ↓o_at3, ↓o_at4, ↓o_at5, ↓o_at6, ↓o_at7, ↓o_at8, ↓o_at9, ↓o_at10, ↓o_at11, ↓o_at12, ↓o_at13, ↓o_at14, ↓o_at15, ↓w_eIxO, ↓t_tup1, ↓t_tup2, ↓t_tup3, ↓t_tup9, ↓w_okOnly, ↓w_compN, ↓w_compC, ↓o_all, ↓o_any, ↓bls_nil, ↓bls_cons, ↓o_minL, ↓o_maxL, ↓o_sumL, ↓ints_nil, ↓ints_cons, ↓o_min3, ↓o_max3, ↓o_slL, ↓o_slT, ↓w_eBor, ↓w_bBor, o_isN, w_runF, tyName, isSubTy, tyNames, List.getElem?_cons_zero, List.getElem?_cons_succ, List.set_cons_zero, List.set_cons_succ, List.map_cons, List.map_nil, List.replicate_succ, List.replicate_zero, List.length_cons, List.length_nil, List.cons_append, List.nil_append, Nat.reduceAdd, Nat.reduceSub, Nat.reduceLeDiff, Nat.reduceEqDiff, reduceIte, if_true, if_false, Bool.not_true, Bool.not_false, Bool.true_and, Bool.and_true, Bool.false_and, Bool.and_false, Bool.true_or, Bool.false_or, Bool.or_true, Bool.or_false, reduceCtorEq, decide_true, decide_false, beq_self_eq_true, List.mem_cons, true_or, or_true, true_and, and_true, false_and, and_false, or_false, false_or, String.reduceEq, String.reduceBEq, List.not_mem_nil, Bool.not_eq_true, Bool.false_eq_true, eq_self, not_true_eq_false, not_false_eq_true, Bool.not_eq_eq_eq_not, decide_eq_true_eq, decide_eq_false_iff_not, bne_iff_ne, ne_eq, Int.reduceLT, Int.reduceLE, Int.reduceMul, Int.reduceAdd, Int.reduceNeg, Int.reduceToNat, Int.reducePow, Nat.reduceLT, Int.reduceEq, Int.reduceSub, zipD, List.zipWith_cons_cons, List.zipWith_nil_left, List.zipWith_nil_right, List.all_cons, List.all_nil, id_eq, scalD, borE, wipeE, noOwn, sz_0, szl_0, sz_1, szl_1, sz_2, szl_2, sz_3, szl_3, sz_4, szl_4, sz_5, szl_5, sz_6, szl_6, sz_7, szl_7, sz_8, szl_8, sz_9, szl_9, sz_10, szl_10, sz_11, szl_11, sz_12, szl_12, sz_13, szl_13, sz_14, szl_14, sz_15, szl_15, sz_16, szl_16, sz_17, szl_17, sz_18, szl_18, sz_19, szl_19, sz_20, szl_20, sz_21, szl_21, sz_22, szl_22, sz_23, szl_23, sz_24, szl_24, sz_25, szl_25, sz_26, szl_26, sz_27, szl_27, sz_28, szl_28, sz_29, szl_29, sz_30, szl_30, sz_31, szl_31, sz_32, szl_32, frz, List.all_cons, List.all_nil]
theorem whole_bl (b : Bool) : m_is_whole [.bl b] = .ok (.bl false) := by apply wR_eq; simp only [m_is_whole, g_is_whole, ↓wR_ok, ↓wR_err, ↓wR_bind, ↓wR_of, ↓wO_some, ↓wO_map, ↓wO_bind, ↓w_var0, ↓w_varS, ↓w_eC, ↓w_e1, ↓w_l1, ↓w_e2, ↓w_l2, ↓w_b1, ↓w_b2, ↓w_eB, ↓w_eF, ↓w_lF, ↓w_eCall, ↓w_eLst, ↓w_aNil, ↓w_aCons, ↓w_eTup, ↓w_lDisp, ↓w_eIf, ↓w_bAnd, ↓w_bOr, ↓w_bNot, ↓w_bYes, ↓w_bChain, ↓w_eAnd, ↓w_eOr, ↓w_iAny, ↓w_oNone, ↓w_oSomeC, ↓w_eSl, ↓w_lSlG, ↓w_lComp, ↓w_sSeq, ↓w_sNil, ↓w_sBreak, ↓w_sCont, ↓w_sSet, ↓w_sSetL, ↓w_sExpr, ↓w_sRet, ↓w_sRetN, ↓w_sIf, ↓w_own0, ↓w_ownS, ↓w_sRetO, ↓w_sApp, ↓w_sSetIx, ↓w_sFrz, ↓w_sThen, ↓w_sRaise, ↓w_sAsg, ↓w_sFor, ↓w_sTry, ↓t_name, ↓t_nil, ↓t_cons, ↓o_plus, ↓o_plusL, ↓o_lAdd, ↓o_sub, ↓o_neg, ↓o_mul, ↓o_fdiv, ↓o_mod, ↓o_pow, ↓o_lt, ↓o_le, ↓o_gt, ↓o_ge, ↓o_eq, ↓o_ne, ↓o_truthB, ↓o_truthI, ↓o_truthN, ↓o_truthL, ↓o_truthT, ↓o_truthS, ↓o_notB, ↓o_isNN, ↓o_isBT, ↓o_isBF, ↓o_isT, ↓o_isIB, ↓o_isSB, ↓o_isLB, ↓o_isTB, ↓o_isNB, ↓o_isNot, ↓o_lenL, ↓o_lenT, ↓o_lenS, ↓o_abs, ↓o_intI, ↓o_intB, ↓o_str, ↓o_gcd, ↓o_list, ↓o_listT, ↓o_tuple, ↓o_tupleT, ↓o_rev, ↓o_type, ↓o_isi, ↓o_isi2, ↓o_rg1, ↓o_rg2, ↓o_zip, ↓o_zipT, ↓o_itemsL, ↓o_itemsT, ↓o_ixL, ↓o_ixT, ↓o_at0, ↓o_at1, ↓o_at2, ↓o_at3, ↓o_at4, ↓o_at5, ↓o_at6, ↓o_at7, ↓o_at8, ↓o_at9, ↓o_at10, ↓o_at11, ↓o_at12, ↓o_at13, ↓o_at14, ↓o_at15, ↓w_eIxO, ↓t_tup1, ↓t_tup2, ↓t_tup3, ↓t_tup9, ↓w_okOnly, ↓w_compN, ↓w_compC, ↓o_all, ↓o_any, ↓bls_nil, ↓bls_cons, ↓o_minL, ↓o_maxL, ↓o_sumL, ↓ints_nil, ↓ints_cons, ↓o_min3, ↓o_max3, ↓o_slL, ↓o_slT, ↓w_eBor, ↓w_bBor, o_isN, w_runF, tyName, isSubTy, tyNames, List.getElem?_cons_zero, List.getElem?_cons_succ, List.set_cons_zero, List.set_cons_succ, List.map_cons, List.map_nil, List.replicate_succ, List.replicate_zero, List.length_cons, List.length_nil, List.cons_append, List.nil_append, Nat.reduceAdd, Nat.reduceSub, Nat.reduceLeDiff, Nat.reduceEqDiff, reduceIte, if_true, if_false, Bool.not_true, Bool.not_false, Bool.true_and, Bool.and_true, Bool.false_and, Bool.and_false, Bool.true_or, Bool.false_or, Bool.or_true, Bool.or_false, reduceCtorEq, decide_true, decide_false, beq_self_eq_true, List.mem_cons, true_or, or_true, true_and, and_true, false_and, and_false, or_false, false_or, String.reduceEq, String.reduceBEq, List.not_mem_nil, Bool.not_eq_true, Bool.false_eq_true, eq_self, not_true_eq_false, not_false_eq_true, Bool.not_eq_eq_eq_not, decide_eq_true_eq, decide_eq_false_iff_not, bne_iff_ne, ne_eq, Int.reduceLT, Int.reduceLE, Int.reduceMul, Int.reduceAdd, Int.reduceNeg, Int.reduceToNat, Int.reducePow, Nat.reduceLT, Int.reduceEq, Int.reduceSub, zipD, List.zipWith_cons_cons, List.zipWith_nil_left, List.zipWith_nil_right, List.all_cons, List.all_nil, id_eq, scalD, borE, wipeE, noOwn, sz_0, szl_0, sz_1, szl_1, sz_2, szl_2, sz_3, szl_3, sz_4, szl_4, sz_5, szl_5, sz_6, szl_6, sz_7, szl_7, sz_8, szl_8, sz_9, szl_9, sz_10, szl_10, sz_11, szl_11, sz_12, szl_12, sz_13, szl_13, sz_14, szl_14, sz_15, szl_15, sz_16, szl_16, sz_17, szl_17, sz_18, szl_18, sz_19, szl_19, sz_20, szl_20, sz_21, szl_21, sz_22, szl_22, sz_23, szl_23, sz_24, szl_24, sz_25, szl_25, sz_26, szl_26, sz_27, szl_27, sz_28, szl_28, sz_29, szl_29, sz_30, szl_30, sz_31, szl_31, sz_32, szl_32, frz, List.all_cons, List.all_nil]
theorem whole_non : m_is_whole [.non] = .ok (.bl false) := by apply wR_eq; simp only [m_is_whole, g_is_whole, ↓wR_ok, ↓wR_err, ↓wR_bind, ↓wR_of, ↓wO_some, ↓wO_map, ↓wO_bind, ↓w_var0, ↓w_varS, ↓w_eC, ↓w_e1, ↓w_l1, ↓w_e2, ↓w_l2, ↓w_b1, ↓w_b2, ↓w_eB, ↓w_eF, ↓w_lF, ↓w_eCall, ↓w_eLst, ↓w_aNil, ↓w_aCons, ↓w_eTup, ↓w_lDisp, ↓w_eIf, ↓w_bAnd, ↓w_bOr, ↓w_bNot, ↓w_bYes, ↓w_bChain, ↓w_eAnd, ↓w_eOr, ↓w_iAny, ↓w_oNone, ↓w_oSomeC, ↓w_eSl, ↓w_lSlG, ↓w_lComp, ↓w_sSeq, ↓w_sNil, ↓w_sBreak, ↓w_sCont, ↓w_sSet, ↓w_sSetL, ↓w_sExpr, ↓w_sRet, ↓w_sRetN, ↓w_sIf, ↓w_own0, ↓w_ownS, ↓w_sRetO, ↓w_sApp, ↓w_sSetIx, ↓w_sFrz, ↓w_sThen, ↓w_sRaise, ↓w_sAsg, ↓w_sFor, ↓w_sTry, ↓t_name, ↓t_nil, ↓t_cons, ↓o_plus, ↓o_plusL, ↓o_lAdd, ↓o_sub, ↓o_neg, ↓o_mul, ↓o_fdiv, ↓o_mod, ↓o_pow, ↓o_lt, ↓o_le, ↓o_gt, ↓o_ge, ↓o_eq, ↓o_ne, ↓o_truthB, ↓o_truthI, ↓o_truthN, ↓o_truthL, ↓o_truthT, ↓o_truthS, ↓o_notB, ↓o_isNN, ↓o_isBT, ↓o_isBF, ↓o_isT, ↓o_isIB, ↓o_isSB, ↓o_isLB, ↓o_isTB, ↓o_isNB, ↓o_isNot, ↓o_lenL, ↓o_lenT, ↓o_lenS, ↓o_abs, ↓o_intI, ↓o_intB, ↓o_str, ↓o_gcd, ↓o_list, ↓o_listT, ↓o_tuple, ↓o_tupleT, ↓o_rev, ↓o_type, ↓o_isi, ↓o_isi2, ↓o_rg1, ↓o_rg2, ↓o_zip, ↓o_zipT, ↓o_itemsL, ↓o_itemsT, ↓o_ixL, ↓o_ixT, ↓o_at0, ↓o_at1, ↓o_at2, ↓o_at3, ↓o_at4, ↓o_at5, ↓o_at6, ↓o_at7, ↓o_at8, ↓o_at9, ↓o_at10, ↓o_at11, ↓o_at12, ↓o_at13, ↓o_at14, ↓o_at15, ↓w_eIxO, ↓t_tup1, ↓t_tup2, ↓t_tup3, ↓t_tup9, ↓w_okOnly, ↓w_compN, ↓w_compC, ↓o_all, ↓o_any, ↓bls_nil, ↓bls_cons, ↓o_minL, ↓o_maxL, ↓o_sumL, ↓ints_nil, ↓ints_cons, ↓o_min3, ↓o_max3, ↓o_slL, ↓o_slT, ↓w_eBor, ↓w_bBor, o_isN, w_runF, tyName, isSubTy, tyNames, List.getElem?_cons_zero, List.getElem?_cons_succ, List.set_cons_zero, List.set_cons_succ, List.map_cons, List.map_nil, List.replicate_succ, List.replicate_zero, List.length_cons, List.length_nil, List.cons_append, List.nil_append, Nat.reduceAdd, Nat.reduceSub, Nat.reduceLeDiff, Nat.reduceEqDiff, reduceIte, if_true, if_false, Bool.not_true, Bool.not_false, Bool.true_and, Bool.and_true, Bool.false_and, Bool.and_false, Bool.true_or, Bool.false_or, Bool.or_true, Bool.or_false, reduceCtorEq, decide_true, decide_false, beq_self_eq_true, List.mem_cons, true_or, or_true, true_and, and_true, false_and, and_false, or_false, false_or, String.reduceEq, String.reduceBEq, List.not_mem_nil, Bool.not_eq_true, Bool.false_eq_true, eq_self, not_true_eq_false, not_false_eq_true, Bool.not_eq_eq_eq_not, decide_eq_true_eq, decide_eq_false_iff_not, bne_iff_ne, ne_eq, Int.reduceLT, Int.reduceLE, Int.reduceMul, Int.reduceAdd, Int.reduceNeg, Int.reduceToNat, Int.reducePow, Nat.reduceLT, Int.reduceEq, Int.reduceSub, zipD, List.zipWith_cons_cons, List.zipWith_nil_left, List.zipWith_nil_right, List.all_cons, List.all_nil, id_eq, scalD, borE, wipeE, noOwn, sz_0, szl_0, sz_1, szl_1, sz_2, szl_2, sz_3, szl_3, sz_4, szl_4, sz_5, szl_5, sz_6, szl_6, sz_7, szl_7, sz_8, szl_8, sz_9, szl_9, sz_10, szl_10, sz_11, szl_11, sz_12, szl_12, sz_13, szl_13, sz_14, szl_14, sz_15, szl_15, sz_16, szl_16, sz_17, szl_17, sz_18, szl_18, sz_19, szl_19, sz_20, szl_20, sz_21, szl_21, sz_22, szl_22, sz_23, szl_23, sz_24, szl_24, sz_25, szl_25, sz_26, szl_26, sz_27, szl_27, sz_28, szl_28, sz_29, szl_29, sz_30, szl_30, sz_31, szl_31, sz_32, szl_32, frz, List.all_cons, List.all_nil]
theorem whole_str (s : List Nat) : m_is_whole [.str s] = .ok (.bl false) := by apply wR_eq; simp only [m_is_whole, g_is_whole, ↓wR_ok, ↓wR_err, ↓wR_bind, ↓wR_of, ↓wO_some, ↓wO_map, ↓wO_bind, ↓w_var0, ↓w_varS, ↓w_eC, ↓w_e1, ↓w_l1, ↓w_e2, ↓w_l2, ↓w_b1, ↓w_b2, ↓w_eB, ↓w_eF, ↓w_lF, ↓w_eCall, ↓w_eLst, ↓w_aNil, ↓w_aCons, ↓w_eTup, ↓w_lDisp, ↓w_eIf, ↓w_bAnd, ↓w_bOr, ↓w_bNot, ↓w_bYes, ↓w_bChain, ↓w_eAnd, ↓w_eOr, ↓w_iAny, ↓w_oNone, ↓w_oSomeC, ↓w_eSl, ↓w_lSlG, ↓w_lComp, ↓w_sSeq, ↓w_sNil, ↓w_sBreak, ↓w_sCont, ↓w_sSet, ↓w_sSetL, ↓w_sExpr, ↓w_sRet, ↓w_sRetN, ↓w_sIf, ↓w_own0, ↓w_ownS, ↓w_sRetO, ↓w_sApp, ↓w_sSetIx, ↓w_sFrz, ↓w_sThen, ↓w_sRaise, ↓w_sAsg, ↓w_sFor, ↓w_sTry, ↓t_name, ↓t_nil, ↓t_cons, ↓o_plus, ↓o_plusL, ↓o_lAdd, ↓o_sub, ↓o_neg, ↓o_mul, ↓o_fdiv, ↓o_mod, ↓o_pow, ↓o_lt, ↓o_le, ↓o_gt, ↓o_ge, ↓o_eq, ↓o_ne, ↓o_truthB, ↓o_truthI, ↓o_truthN, ↓o_truthL, ↓o_truthT, ↓o_truthS, ↓o_notB, ↓o_isNN, ↓o_isBT, ↓o_isBF, ↓o_isT, ↓o_isIB, ↓o_isSB, ↓o_isLB, ↓o_isTB, ↓o_isNB, ↓o_isNot, ↓o_lenL, ↓o_lenT, ↓o_lenS, ↓o_abs, ↓o_intI, ↓o_intB, ↓o_str, ↓o_gcd, ↓o_list, ↓o_listT, ↓o_tuple, ↓o_tupleT, ↓o_rev, ↓o_type, ↓o_isi, ↓o_isi2, ↓o_rg1, ↓o_rg2, ↓o_zip, ↓o_zipT, ↓o_itemsL, ↓o_itemsT, ↓o_ixL, ↓o_ixT, ↓o_at0, ↓o_at1, ↓o_at2, ↓o_at3, ↓o_at4, ↓o_at5, ↓o_at6, ↓o_at7, ↓o_at8, ↓o_at9, ↓o_at10, ↓o_at11, ↓o_at12, ↓o_at13, ↓o_at14, ↓o_at15, ↓w_eIxO, ↓t_tup1, ↓t_tup2, ↓t_tup3, ↓t_tup9, ↓w_okOnly, ↓w_compN, ↓w_compC, ↓o_all, ↓o_any, ↓bls_nil, ↓bls_cons, ↓o_minL, ↓o_maxL, ↓o_sumL, ↓ints_nil, ↓ints_cons, ↓o_min3, ↓o_max3, ↓o_slL, ↓o_slT, ↓w_eBor, ↓w_bBor, o_isN, w_runF, tyName, isSubTy, tyNames, List.getElem?_cons_zero, List.getElem?_cons_succ, List.set_cons_zero, List.set_cons_succ, List.map_cons, List.map_nil, List.replicate_succ, List.replicate_zero, List.length_cons, List.length_nil, List.cons_append, List.nil_append, Nat.reduceAdd, Nat.reduceSub, Nat.reduceLeDiff, Nat.reduceEqDiff, reduceIte, if_true, if_false, Bool.not_true, Bool.not_false, Bool.true_and, Bool.and_true, Bool.false_and, Bool.and_false, Bool.true_or, Bool.false_or, Bool.or_true, Bool.or_false, reduceCtorEq, decide_true, decide_false, beq_self_eq_true, List.mem_cons, true_or, or_true, true_and, and_true, false_and, and_false, or_false, false_or, String.reduceEq, String.reduceBEq, List.not_mem_nil, Bool.not_eq_true, Bool.false_eq_true, eq_self, not_true_eq_false, not_false_eq_true, Bool.not_eq_eq_eq_not, decide_eq_true_eq, decide_eq_false_iff_not, bne_iff_ne, ne_eq, Int.reduceLT, Int.reduceLE, Int.reduceMul, Int.reduceAdd, Int.reduceNeg, Int.reduceToNat, Int.reducePow, Nat.reduceLT, Int.reduceEq, Int.reduceSub, zipD, List.zipWith_cons_cons, List.zipWith_nil_left, List.zipWith_nil_right, List.all_cons, List.all_nil, id_eq, scalD, borE, wipeE, noOwn, sz_0, szl_0, sz_1, szl_1, sz_2, szl_2, sz_3, szl_3, sz_4, szl_4, sz_5, szl_5, sz_6, szl_6, sz_7, szl_7, sz_8, szl_8, sz_9, szl_9, sz_10, szl_10, sz_11, szl_11, sz_12, szl_12, sz_13, szl_13, sz_14, szl_14, sz_15, szl_15, sz_16, szl_16, sz_17, szl_17, sz_18, szl_18, sz_19, szl_19, sz_20, szl_20, sz_21, szl_21, sz_22, szl_22, sz_23, szl_23, sz_24, szl_24, sz_25, szl_25, sz_26, szl_26, sz_27, szl_27, sz_28, szl_28, sz_29, szl_29, sz_30, szl_30, sz_31, szl_31, sz_32, szl_32, frz, List.all_cons, List.all_nil]
theorem whole_tup (s : List D) : m_is_whole [.tup s] = .ok (.bl false) := by apply wR_eq; simp only [m_is_whole, g_is_whole, ↓wR_ok, ↓wR_err, ↓wR_bind, ↓wR_of, ↓wO_some, ↓wO_map, ↓wO_bind, ↓w_var0, ↓w_varS, ↓w_eC, ↓w_e1, ↓w_l1, ↓w_e2, ↓w_l2, ↓w_b1, ↓w_b2, ↓w_eB, ↓w_eF, ↓w_lF, ↓w_eCall, ↓w_eLst, ↓w_aNil, ↓w_aCons, ↓w_eTup, ↓w_lDisp, ↓w_eIf, ↓w_bAnd, ↓w_bOr, ↓w_bNot, ↓w_bYes, ↓w_bChain, ↓w_eAnd, ↓w_eOr, ↓w_iAny, ↓w_oNone, ↓w_oSomeC, ↓w_eSl, ↓w_lSlG, ↓w_lComp, ↓w_sSeq, ↓w_sNil, ↓w_sBreak, ↓w_sCont, ↓w_sSet, ↓w_sSetL, ↓w_sExpr, ↓w_sRet, ↓w_sRetN, ↓w_sIf, ↓w_own0, ↓w_ownS, ↓w_sRetO, ↓w_sApp, ↓w_sSetIx, ↓w_sFrz, ↓w_sThen, ↓w_sRaise, ↓w_sAsg, ↓w_sFor, ↓w_sTry, ↓t_name, ↓t_nil, ↓t_cons, ↓o_plus, ↓o_plusL, ↓o_lAdd, ↓o_sub, ↓o_neg, ↓o_mul, ↓o_fdiv, ↓o_mod, ↓o_pow, ↓o_lt, ↓o_le, ↓o_gt, ↓o_ge, ↓o_eq, ↓o_ne, ↓o_truthB, ↓o_truthI, ↓o_truthN, ↓o_truthL, ↓o_truthT, ↓o_truthS, ↓o_notB, ↓o_isNN, ↓o_isBT, ↓o_isBF, ↓o_isT, ↓o_isIB, ↓o_isSB, ↓o_isLB, ↓o_isTB, ↓o_isNB, ↓o_isNot, ↓o_lenL, ↓o_lenT, ↓o_lenS, ↓o_abs, ↓o_intI, ↓o_intB, ↓o_str, ↓o_gcd, ↓o_list, ↓o_listT, ↓o_tuple, ↓o_tupleT, ↓o_rev, ↓o_type, ↓o_isi, ↓o_isi2, ↓o_rg1, ↓o_rg2, ↓o_zip, ↓o_zipT, ↓o_itemsL, ↓o_itemsT, ↓o_ixL, ↓o_ixT, ↓o_at0, ↓o_at1, ↓o_at2, ↓o_at3, ↓o_at4, ↓o_at5, ↓o_at6, ↓o_at7, ↓o_at8, ↓o_at9, ↓o_at10, ↓o_at11, ↓o_at12, ↓o_at13, ↓o_at14, ↓o_at15, ↓w_eIxO, ↓t_tup1, ↓t_tup2, ↓t_tup3, ↓t_tup9, ↓w_okOnly, ↓w_compN, ↓w_compC, ↓o_all, ↓o_any, ↓bls_nil, ↓bls_cons, ↓o_minL, ↓o_maxL, ↓o_sumL, ↓ints_nil, ↓ints_cons, ↓o_min3, ↓o_max3, ↓o_slL, ↓o_slT, ↓w_eBor, ↓w_bBor, o_isN, w_runF, tyName, isSubTy, tyNames, List.getElem?_cons_zero, List.getElem?_cons_succ, List.set_cons_zero, List.set_cons_succ, List.map_cons, List.map_nil, List.replicate_succ, List.replicate_zero, List.length_cons, List.length_nil, List.cons_append, List.nil_append, Nat.reduceAdd, Nat.reduceSub, Nat.reduceLeDiff, Nat.reduceEqDiff, reduceIte, if_true, if_false, Bool.not_true, Bool.not_false, Bool.true_and, Bool.and_true, Bool.false_and, Bool.and_false, Bool.true_or, Bool.false_or, Bool.or_true, Bool.or_false, reduceCtorEq, decide_true, decide_false, beq_self_eq_true, List.mem_cons, true_or, or_true, true_and, and_true, false_and, and_false, or_false, false_or, String.reduceEq, String.reduceBEq, List.not_mem_nil, Bool.not_eq_true, Bool.false_eq_true, eq_self, not_true_eq_false, not_false_eq_true, Bool.not_eq_eq_eq_not, decide_eq_true_eq, decide_eq_false_iff_not, bne_iff_ne, ne_eq, Int.reduceLT, Int.reduceLE, Int.reduceMul, Int.reduceAdd, Int.reduceNeg, Int.reduceToNat, Int.reducePow, Nat.reduceLT, Int.reduceEq, Int.reduceSub, zipD, List.zipWith_cons_cons, List.zipWith_nil_left, List.zipWith_nil_right, List.all_cons, List.all_nil, id_eq, scalD, borE, wipeE, noOwn, sz_0, szl_0, sz_1, szl_1, sz_2, szl_2, sz_3, szl_3, sz_4, szl_4, sz_5, szl_5, sz_6, szl_6, sz_7, szl_7, sz_8, szl_8, sz_9, szl_9, sz_10, szl_10, sz_11, szl_11, sz_12, szl_12, sz_13, szl_13, sz_14, szl_14, sz_15, szl_15, sz_16, szl_16, sz_17, szl_17, sz_18, szl_18, sz_19, szl_19, sz_20, szl_20, sz_21, szl_21, sz_22, szl_22, sz_23, szl_23, sz_24, szl_24, sz_25, szl_25, sz_26, szl_26, sz_27, szl_27, sz_28, szl_28, sz_29, szl_29, sz_30, szl_30, sz_31, szl_31, sz_32, szl_32, frz, List.all_cons, List.all_nil]
theorem whole_lst (s : List D) : m_is_whole [.lst s] = .ok (.bl false) := by apply wR_eq; simp only [m_is_whole, g_is_whole, ↓wR_ok, ↓wR_err, ↓wR_bind, ↓wR_of, ↓wO_some, ↓wO_map, ↓wO_bind, ↓w_var0, ↓w_varS, ↓w_eC, ↓w_e1, ↓w_l1, ↓w_e2, ↓w_l2, ↓w_b1, ↓w_b2, ↓w_eB, ↓w_eF, ↓w_lF, ↓w_eCall, ↓w_eLst, ↓w_aNil, ↓w_aCons, ↓w_eTup, ↓w_lDisp, ↓w_eIf, ↓w_bAnd, ↓w_bOr, ↓w_bNot, ↓w_bYes, ↓w_bChain, ↓w_eAnd, ↓w_eOr, ↓w_iAny, ↓w_oNone, ↓w_oSomeC, ↓w_eSl, ↓w_lSlG, ↓w_lComp, ↓w_sSeq, ↓w_sNil, ↓w_sBreak, ↓w_sCont, ↓w_sSet, ↓w_sSetL, ↓w_sExpr, ↓w_sRet, ↓w_sRetN, ↓w_sIf, ↓w_own0, ↓w_ownS, ↓w_sRetO, ↓w_sApp, ↓w_sSetIx, ↓w_sFrz, ↓w_sThen, ↓w_sRaise, ↓w_sAsg, ↓w_sFor, ↓w_sTry, ↓t_name, ↓t_nil, ↓t_cons, ↓o_plus, ↓o_plusL, ↓o_lAdd, ↓o_sub, ↓o_neg, ↓o_mul, ↓o_fdiv, ↓o_mod, ↓o_pow, ↓o_lt, ↓o_le, ↓o_gt, ↓o_ge, ↓o_eq, ↓o_ne, ↓o_truthB, ↓o_truthI, ↓o_truthN, ↓o_truthL, ↓o_truthT, ↓o_truthS, ↓o_notB, ↓o_isNN, ↓o_isBT, ↓o_isBF, ↓o_isT, ↓o_isIB, ↓o_isSB, ↓o_isLB, ↓o_isTB, ↓o_isNB, ↓o_isNot, ↓o_lenL, ↓o_lenT, ↓o_lenS, ↓o_abs, ↓o_intI, ↓o_intB, ↓o_str, ↓o_gcd, ↓o_list, ↓o_listT, ↓o_tuple, ↓o_tupleT, ↓o_rev, ↓o_type, ↓o_isi, ↓o_isi2, ↓o_rg1, ↓o_rg2, ↓o_zip, ↓o_zipT, ↓o_itemsL, ↓o_itemsT, ↓o_ixL, ↓o_ixT, ↓o_at0, ↓o_at1, ↓o_at2, ↓o_at3, ↓o_at4, ↓o_at5, ↓o_at6, ↓o_at7, ↓o_at8, ↓o_at9, ↓o_at10, ↓o_at11, ↓o_at12, ↓o_at13, ↓o_at14, ↓o_at15, ↓w_eIxO, ↓t_tup1, ↓t_tup2, ↓t_tup3, ↓t_tup9, ↓w_okOnly, ↓w_compN, ↓w_compC, ↓o_all, ↓o_any, ↓bls_nil, ↓bls_cons, ↓o_minL, ↓o_maxL, ↓o_sumL, ↓ints_nil, ↓ints_cons, ↓o_min3, ↓o_max3, ↓o_slL, ↓o_slT, ↓w_eBor, ↓w_bBor, o_isN, w_runF, tyName, isSubTy, tyNames, List.getElem?_cons_zero, List.getElem?_cons_succ, List.set_cons_zero, List.set_cons_succ, List.map_cons, List.map_nil, List.replicate_succ, List.replicate_zero, List.length_cons, List.length_nil, List.cons_append, List.nil_append, Nat.reduceAdd, Nat.reduceSub, Nat.reduceLeDiff, Nat.reduceEqDiff, reduceIte, if_true, if_false, Bool.not_true, Bool.not_false, Bool.true_and, Bool.and_true, Bool.false_and, Bool.and_false, Bool.true_or, Bool.false_or, Bool.or_true, Bool.or_false, reduceCtorEq, decide_true, decide_false, beq_self_eq_true, List.mem_cons, true_or, or_true, true_and, and_true, false_and, and_false, or_false, false_or, String.reduceEq, String.reduceBEq, List.not_mem_nil, Bool.not_eq_true, Bool.false_eq_true, eq_self, not_true_eq_false, not_false_eq_true, Bool.not_eq_eq_eq_not, decide_eq_true_eq, decide_eq_false_iff_not, bne_iff_ne, ne_eq, Int.reduceLT, Int.reduceLE, Int.reduceMul, Int.reduceAdd, Int.reduceNeg, Int.reduceToNat, Int.reducePow, Nat.reduceLT, Int.reduceEq, Int.reduceSub, zipD, List.zipWith_cons_cons, List.zipWith_nil_left, List.zipWith_nil_right, List.all_cons, List.all_nil, id_eq, scalD, borE, wipeE, noOwn, sz_0, szl_0, sz_1, szl_1, sz_2, szl_2, sz_3, szl_3, sz_4, szl_4, sz_5, szl_5, sz_6, szl_6, sz_7, szl_7, sz_8, szl_8, sz_9, szl_9, sz_10, szl_10, sz_11, szl_11, sz_12, szl_12, sz_13, szl_13, sz_14, szl_14, sz_15, szl_15, sz_16, szl_16, sz_17, szl_17, sz_18, szl_18, sz_19, szl_19, sz_20, szl_20, sz_21, szl_21, sz_22, szl_22, sz_23, szl_23, sz_24, szl_24, sz_25, szl_25, sz_26, szl_26, sz_27, szl_27, sz_28, szl_28, sz_29, szl_29, sz_30, szl_30, sz_31, szl_31, sz_32, szl_32, frz, List.all_cons, List.all_nil]
theorem isr_lst (s : List D) : m_is_ratio [.lst s] = .ok (.bl false) := by apply wR_eq; simp only [m_is_ratio, g_is_ratio, ↓wR_ok, ↓wR_err, ↓wR_bind, ↓wR_of, ↓wO_some, ↓wO_map, ↓wO_bind, ↓w_var0, ↓w_varS, ↓w_eC, ↓w_e1, ↓w_l1, ↓w_e2, ↓w_l2, ↓w_b1, ↓w_b2, ↓w_eB, ↓w_eF, ↓w_lF, ↓w_eCall, ↓w_eLst, ↓w_aNil, ↓w_aCons, ↓w_eTup, ↓w_lDisp, ↓w_eIf, ↓w_bAnd, ↓w_bOr, ↓w_bNot, ↓w_bYes, ↓w_bChain, ↓w_eAnd, ↓w_eOr, ↓w_iAny, ↓w_oNone, ↓w_oSomeC, ↓w_eSl, ↓w_lSlG, ↓w_lComp, ↓w_sSeq, ↓w_sNil, ↓w_sBreak, ↓w_sCont, ↓w_sSet, ↓w_sSetL, ↓w_sExpr, ↓w_sRet, ↓w_sRetN, ↓w_sIf, ↓w_own0, ↓w_ownS, ↓w_sRetO, ↓w_sApp, ↓w_sSetIx, ↓w_sFrz, ↓w_sThen, ↓w_sRaise, ↓w_sAsg, ↓w_sFor, ↓w_sTry, ↓t_name, ↓t_nil, ↓t_cons, ↓o_plus, ↓o_plusL, ↓o_lAdd, ↓o_sub, ↓o_neg, ↓o_mul, ↓o_fdiv, ↓o_mod, ↓o_pow, ↓o_lt, ↓o_le, ↓o_gt, ↓o_ge, ↓o_eq, ↓o_ne, ↓o_truthB, ↓o_truthI, ↓o_truthN, ↓o_truthL, ↓o_truthT, ↓o_truthS, ↓o_notB, ↓o_isNN, ↓o_isBT, ↓o_isBF, ↓o_isT, ↓o_isIB, ↓o_isSB, ↓o_isLB, ↓o_isTB, ↓o_isNB, ↓o_isNot, ↓o_lenL, ↓o_lenT, ↓o_lenS, ↓o_abs, ↓o_intI, ↓o_intB, ↓o_str, ↓o_gcd, ↓o_list, ↓o_listT, ↓o_tuple, ↓o_tupleT, ↓o_rev, ↓o_type, ↓o_isi, ↓o_isi2, ↓o_rg1, ↓o_rg2, ↓o_zip, ↓o_zipT, ↓o_itemsL, ↓o_itemsT, ↓o_ixL, ↓o_ixT, ↓o_at0, ↓o_at1, ↓o_at2, ↓o_at3, ↓o_at4, ↓o_at5, ↓o_at6, ↓o_at7, ↓o_at8, ↓o_at9, ↓o_at10, ↓o_at11, ↓o_at12, ↓o_at13, ↓o_at14, ↓o_at15, ↓w_eIxO, ↓t_tup1, ↓t_tup2, ↓t_tup3, ↓t_tup9, ↓w_okOnly, ↓w_compN, ↓w_compC, ↓o_all, ↓o_any, ↓bls_nil, ↓bls_cons, ↓o_minL, ↓o_maxL, ↓o_sumL, ↓ints_nil, ↓ints_cons, ↓o_min3, ↓o_max3, ↓o_slL, ↓o_slT, ↓w_eBor, ↓w_bBor, o_isN, w_runF, tyName, isSubTy, tyNames, List.getElem?_cons_zero, List.getElem?_cons_succ, List.set_cons_zero, List.set_cons_succ, List.map_cons, List.map_nil, List.replicate_succ, List.replicate_zero, List.length_cons, List.length_nil, List.cons_append, List.nil_append, Nat.reduceAdd, Nat.reduceSub, Nat.reduceLeDiff, Nat.reduceEqDiff, reduceIte, if_true, if_false, Bool.not_true, Bool.not_false, Bool.true_and, Bool.and_true, Bool.false_and, Bool.and_false, Bool.true_or, Bool.false_or, Bool.or_true, Bool.or_false, reduceCtorEq, decide_true, decide_false, beq_self_eq_true, List.mem_cons, true_or, or_true, true_and, and_true, false_and, and_false, or_false, false_or, String.reduceEq, String.reduceBEq, List.not_mem_nil, Bool.not_eq_true, Bool.false_eq_true, eq_self, not_true_eq_false, not_false_eq_true, Bool.not_eq_eq_eq_not, decide_eq_true_eq, decide_eq_false_iff_not, bne_iff_ne, ne_eq, Int.reduceLT, Int.reduceLE, Int.reduceMul, Int.reduceAdd, Int.reduceNeg, Int.reduceToNat, Int.reducePow, Nat.reduceLT, Int.reduceEq, Int.reduceSub, zipD, List.zipWith_cons_cons, List.zipWith_nil_left, List.zipWith_nil_right, List.all_cons, List.all_nil, id_eq, scalD, borE, wipeE, noOwn, sz_0, szl_0, sz_1, szl_1, sz_2, szl_2, sz_3, szl_3, sz_4, szl_4, sz_5, szl_5, sz_6, szl_6, sz_7, szl_7, sz_8, szl_8, sz_9, szl_9, sz_10, szl_10, sz_11, szl_11, sz_12, szl_12, sz_13, szl_13, sz_14, szl_14, sz_15, szl_15, sz_16, szl_16, sz_17, szl_17, sz_18, szl_18, sz_19, szl_19, sz_20, szl_20, sz_21, szl_21, sz_22, szl_22, sz_23, szl_23, sz_24, szl_24, sz_25, szl_25, sz_26, szl_26, sz_27, szl_27, sz_28, szl_28, sz_29, szl_29, sz_30, szl_30, sz_31, szl_31, sz_32, szl_32, frz, List.all_cons, List.all_nil]
theorem isr_int (s : Int) : m_is_ratio [.int s] = .ok (.bl false) := by apply wR_eq; simp only [m_is_ratio, g_is_ratio, ↓wR_ok, ↓wR_err, ↓wR_bind, ↓wR_of, ↓wO_some, ↓wO_map, ↓wO_bind, ↓w_var0, ↓w_varS, ↓w_eC, ↓w_e1, ↓w_l1, ↓w_e2, ↓w_l2, ↓w_b1, ↓w_b2, ↓w_eB, ↓w_eF, ↓w_lF, ↓w_eCall, ↓w_eLst, ↓w_aNil, ↓w_aCons, ↓w_eTup, ↓w_lDisp, ↓w_eIf, ↓w_bAnd, ↓w_bOr, ↓w_bNot, ↓w_bYes, ↓w_bChain, ↓w_eAnd, ↓w_eOr, ↓w_iAny, ↓w_oNone, ↓w_oSomeC, ↓w_eSl, ↓w_lSlG, ↓w_lComp, ↓w_sSeq, ↓w_sNil, ↓w_sBreak, ↓w_sCont, ↓w_sSet, ↓w_sSetL, ↓w_sExpr, ↓w_sRet, ↓w_sRetN, ↓w_sIf, ↓w_own0, ↓w_ownS, ↓w_sRetO, ↓w_sApp, ↓w_sSetIx, ↓w_sFrz, ↓w_sThen, ↓w_sRaise, ↓w_sAsg, ↓w_sFor, ↓w_sTry, ↓t_name, ↓t_nil, ↓t_cons, ↓o_plus, ↓o_plusL, ↓o_lAdd, ↓o_sub, ↓o_neg, ↓o_mul, ↓o_fdiv, ↓o_mod, ↓o_pow, ↓o_lt, ↓o_le, ↓o_gt, ↓o_ge, ↓o_eq, ↓o_ne, ↓o_truthB, ↓o_truthI, ↓o_truthN, ↓o_truthL, ↓o_truthT, ↓o_truthS, ↓o_notB, ↓o_isNN, ↓o_isBT, ↓o_isBF, ↓o_isT, ↓o_isIB, ↓o_isSB, ↓o_isLB, ↓o_isTB, ↓o_isNB, ↓o_isNot, ↓o_lenL, ↓o_lenT, ↓o_lenS, ↓o_abs, ↓o_intI, ↓o_intB, ↓o_str, ↓o_gcd, ↓o_list, ↓o_listT, ↓o_tuple, ↓o_tupleT, ↓o_rev, ↓o_type, ↓o_isi, ↓o_isi2, ↓o_rg1, ↓o_rg2, ↓o_zip, ↓o_zipT, ↓o_itemsL, ↓o_itemsT, ↓o_ixL, ↓o_ixT, ↓o_at0, ↓o_at1, ↓o_at2, ↓o_at3, ↓o_at4, ↓o_at5, ↓o_at6, ↓o_at7, ↓o_at8, ↓o_at9, ↓o_at10, ↓o_at11, ↓o_at12, ↓o_at13, ↓o_at14, ↓o_at15, ↓w_eIxO, ↓t_tup1, ↓t_tup2, ↓t_tup3, ↓t_tup9, ↓w_okOnly, ↓w_compN, ↓w_compC, ↓o_all, ↓o_any, ↓bls_nil, ↓bls_cons, ↓o_minL, ↓o_maxL, ↓o_sumL, ↓ints_nil, ↓ints_cons, ↓o_min3, ↓o_max3, ↓o_slL, ↓o_slT, ↓w_eBor, ↓w_bBor, o_isN, w_runF, tyName, isSubTy, tyNames, List.getElem?_cons_zero, List.getElem?_cons_succ, List.set_cons_zero, List.set_cons_succ, List.map_cons, List.map_nil, List.replicate_succ, List.replicate_zero, List.length_cons, List.length_nil, List.cons_append, List.nil_append, Nat.reduceAdd, Nat.reduceSub, Nat.reduceLeDiff, Nat.reduceEqDiff, reduceIte, if_true, if_false, Bool.not_true, Bool.not_false, Bool.true_and, Bool.and_true, Bool.false_and, Bool.and_false, Bool.true_or, Bool.false_or, Bool.or_true, Bool.or_false, reduceCtorEq, decide_true, decide_false, beq_self_eq_true, List.mem_cons, true_or, or_true, true_and, and_true, false_and, and_false, or_false, false_or, String.reduceEq, String.reduceBEq, List.not_mem_nil, Bool.not_eq_true, Bool.false_eq_true, eq_self, not_true_eq_false, not_false_eq_true, Bool.not_eq_eq_eq_not, decide_eq_true_eq, decide_eq_false_iff_not, bne_iff_ne, ne_eq, Int.reduceLT, Int.reduceLE, Int.reduceMul, Int.reduceAdd, Int.reduceNeg, Int.reduceToNat, Int.reducePow, Nat.reduceLT, Int.reduceEq, Int.reduceSub, zipD, List.zipWith_cons_cons, List.zipWith_nil_left, List.zipWith_nil_right, List.all_cons, List.all_nil, id_eq, scalD, borE, wipeE, noOwn, sz_0, szl_0, sz_1, szl_1, sz_2, szl_2, sz_3, szl_3, sz_4, szl_4, sz_5, szl_5, sz_6, szl_6, sz_7, szl_7, sz_8, szl_8, sz_9, szl_9, sz_10, szl_10, sz_11, szl_11, sz_12, szl_12, sz_13, szl_13, sz_14, szl_14, sz_15, szl_15, sz_16, szl_16, sz_17, szl_17, sz_18, szl_18, sz_19, szl_19, sz_20, szl_20, sz_21, szl_21, sz_22, szl_22, sz_23, szl_23, sz_24, szl_24, sz_25, szl_25, sz_26, szl_26, sz_27, szl_27, sz_28, szl_28, sz_29, szl_29, sz_30, szl_30, sz_31, szl_31, sz_32, szl_32, frz, List.all_cons, List.all_nil]
theorem isr_str (s : List Nat) : m_is_ratio [.str s] = .ok (.bl false) := by apply wR_eq; simp only [m_is_ratio, g_is_ratio, ↓wR_ok, ↓wR_err, ↓wR_bind, ↓wR_of, ↓wO_some, ↓wO_map, ↓wO_bind, ↓w_var0, ↓w_varS, ↓w_eC, ↓w_e1, ↓w_l1, ↓w_e2, ↓w_l2, ↓w_b1, ↓w_b2, ↓w_eB, ↓w_eF, ↓w_lF, ↓w_eCall, ↓w_eLst, ↓w_aNil, ↓w_aCons, ↓w_eTup, ↓w_lDisp, ↓w_eIf, ↓w_bAnd, ↓w_bOr, ↓w_bNot, ↓w_bYes, ↓w_bChain, ↓w_eAnd, ↓w_eOr, ↓w_iAny, ↓w_oNone, ↓w_oSomeC, ↓w_eSl, ↓w_lSlG, ↓w_lComp, ↓w_sSeq, ↓w_sNil, ↓w_sBreak, ↓w_sCont, ↓w_sSet, ↓w_sSetL, ↓w_sExpr, ↓w_sRet, ↓w_sRetN, ↓w_sIf, ↓w_own0, ↓w_ownS, ↓w_sRetO, ↓w_sApp, ↓w_sSetIx, ↓w_sFrz, ↓w_sThen, ↓w_sRaise, ↓w_sAsg, ↓w_sFor, ↓w_sTry, ↓t_name, ↓t_nil, ↓t_cons, ↓o_plus, ↓o_plusL, ↓o_lAdd, ↓o_sub, ↓o_neg, ↓o_mul, ↓o_fdiv, ↓o_mod, ↓o_pow, ↓o_lt, ↓o_le, ↓o_gt, ↓o_ge, ↓o_eq, ↓o_ne, ↓o_truthB, ↓o_truthI, ↓o_truthN, ↓o_truthL, ↓o_truthT, ↓o_truthS, ↓o_notB, ↓o_isNN, ↓o_isBT, ↓o_isBF, ↓o_isT, ↓o_isIB, ↓o_isSB, ↓o_isLB, ↓o_isTB, ↓o_isNB, ↓o_isNot, ↓o_lenL, ↓o_lenT, ↓o_lenS, ↓o_abs, ↓o_intI, ↓o_intB, ↓o_str, ↓o_gcd, ↓o_list, ↓o_listT, ↓o_tuple, ↓o_tupleT, ↓o_rev, ↓o_type, ↓o_isi, ↓o_isi2, ↓o_rg1, ↓o_rg2, ↓o_zip, ↓o_zipT, ↓o_itemsL, ↓o_itemsT, ↓o_ixL, ↓o_ixT, ↓o_at0, ↓o_at1, ↓o_at2, ↓o_at3, ↓o_at4, ↓o_at5, ↓o_at6, ↓o_at7, ↓o_at8, ↓o_at9, ↓o_at10, ↓o_at11, ↓o_at12, ↓o_at13, ↓o_at14, ↓o_at15, ↓w_eIxO, ↓t_tup1, ↓t_tup2, ↓t_tup3, ↓t_tup9, ↓w_okOnly, ↓w_compN, ↓w_compC, ↓o_all, ↓o_any, ↓bls_nil, ↓bls_cons, ↓o_minL, ↓o_maxL, ↓o_sumL, ↓ints_nil, ↓ints_cons, ↓o_min3, ↓o_max3, ↓o_slL, ↓o_slT, ↓w_eBor, ↓w_bBor, o_isN, w_runF, tyName, isSubTy, tyNames, List.getElem?_cons_zero, List.getElem?_cons_succ, List.set_cons_zero, List.set_cons_succ, List.map_cons, List.map_nil, List.replicate_succ, List.replicate_zero, List.length_cons, List.length_nil, List.cons_append, List.nil_append, Nat.reduceAdd, Nat.reduceSub, Nat.reduceLeDiff, Nat.reduceEqDiff, reduceIte, if_true, if_false, Bool.not_true, Bool.not_false, Bool.true_and, Bool.and_true, Bool.false_and, Bool.and_false, Bool.true_or, Bool.false_or, Bool.or_true, Bool.or_false, reduceCtorEq, decide_true, decide_false, beq_self_eq_true, List.mem_cons, true_or, or_true, true_and, and_true, false_and, and_false, or_false, false_or, String.reduceEq, String.reduceBEq, List.not_mem_nil, Bool.not_eq_true, Bool.false_eq_true, eq_self, not_true_eq_false, not_false_eq_true, Bool.not_eq_eq_eq_not, decide_eq_true_eq, decide_eq_false_iff_not, bne_iff_ne, ne_eq, Int.reduceLT, Int.reduceLE, Int.reduceMul, Int.reduceAdd, Int.reduceNeg, Int.reduceToNat, Int.reducePow, Nat.reduceLT, Int.reduceEq, Int.reduceSub, zipD, List.zipWith_cons_cons, List.zipWith_nil_left, List.zipWith_nil_right, List.all_cons, List.all_nil, id_eq, scalD, borE, wipeE, noOwn, sz_0, szl_0, sz_1, szl_1, sz_2, szl_2, sz_3, szl_3, sz_4, szl_4, sz_5, szl_5, sz_6, szl_6, sz_7, szl_7, sz_8, szl_8, sz_9, szl_9, sz_10, szl_10, sz_11, szl_11, sz_12, szl_12, sz_13, szl_13, sz_14, szl_14, sz_15, szl_15, sz_16, szl_16, sz_17, szl_17, sz_18, szl_18, sz_19, szl_19, sz_20, szl_20, sz_21, szl_21, sz_22, szl_22, sz_23, szl_23, sz_24, szl_24, sz_25, szl_25, sz_26, szl_26, sz_27, szl_27, sz_28, szl_28, sz_29, szl_29, sz_30, szl_30, sz_31, szl_31, sz_32, szl_32, frz, List.all_cons, List.all_nil]
theorem isr_non : m_is_ratio [.non] = .ok (.bl false) := by apply wR_eq; simp only [m_is_ratio, g_is_ratio, ↓wR_ok, ↓wR_err, ↓wR_bind, ↓wR_of, ↓wO_some, ↓wO_map, ↓wO_bind, ↓w_var0, ↓w_varS, ↓w_eC, ↓w_e1, ↓w_l1, ↓w_e2, ↓w_l2, ↓w_b1, ↓w_b2, ↓w_eB, ↓w_eF, ↓w_lF, ↓w_eCall, ↓w_eLst, ↓w_aNil, ↓w_aCons, ↓w_eTup, ↓w_lDisp, ↓w_eIf, ↓w_bAnd, ↓w_bOr, ↓w_bNot, ↓w_bYes, ↓w_bChain, ↓w_eAnd, ↓w_eOr, ↓w_iAny, ↓w_oNone, ↓w_oSomeC, ↓w_eSl, ↓w_lSlG, ↓w_lComp, ↓w_sSeq, ↓w_sNil, ↓w_sBreak, ↓w_sCont, ↓w_sSet, ↓w_sSetL, ↓w_sExpr, ↓w_sRet, ↓w_sRetN, ↓w_sIf, ↓w_own0, ↓w_ownS, ↓w_sRetO, ↓w_sApp, ↓w_sSetIx, ↓w_sFrz, ↓w_sThen, ↓w_sRaise, ↓w_sAsg, ↓w_sFor, ↓w_sTry, ↓t_name, ↓t_nil, ↓t_cons, ↓o_plus, ↓o_plusL, ↓o_lAdd, ↓o_sub, ↓o_neg, ↓o_mul, ↓o_fdiv, ↓o_mod, ↓o_pow, ↓o_lt, ↓o_le, ↓o_gt, ↓o_ge, ↓o_eq, ↓o_ne, ↓o_truthB, ↓o_truthI, ↓o_truthN, ↓o_truthL, ↓o_truthT, ↓o_truthS, ↓o_notB, ↓o_isNN, ↓o_isBT, ↓o_isBF, ↓o_isT, ↓o_isIB, ↓o_isSB, ↓o_isLB, ↓o_isTB, ↓o_isNB, ↓o_isNot, ↓o_lenL, ↓o_lenT, ↓o_lenS, ↓o_abs, ↓o_intI, ↓o_intB, ↓o_str, ↓o_gcd, ↓o_list, ↓o_listT, ↓o_tuple, ↓o_tupleT, ↓o_rev, ↓o_type, ↓o_isi, ↓o_isi2, ↓o_rg1, ↓o_rg2, ↓o_zip, ↓o_zipT, ↓o_itemsL, ↓o_itemsT, ↓o_ixL, ↓o_ixT, ↓o_at0, ↓o_at1, ↓o_at2, ↓o_at3, ↓o_at4, ↓o_at5, ↓o_at6, ↓o_at7, ↓o_at8, ↓o_at9, ↓o_at10, ↓o_at11, ↓o_at12, ↓o_at13, ↓o_at14, ↓o_at15, ↓w_eIxO, ↓t_tup1, ↓t_tup2, ↓t_tup3, ↓t_tup9, ↓w_okOnly, ↓w_compN, ↓w_compC, ↓o_all, ↓o_any, ↓bls_nil, ↓bls_cons, ↓o_minL, ↓o_maxL, ↓o_sumL, ↓ints_nil, ↓ints_cons, ↓o_min3, ↓o_max3, ↓o_slL, ↓o_slT, ↓w_eBor, ↓w_bBor, o_isN, w_runF, tyName, isSubTy, tyNames, List.getElem?_cons_zero, List.getElem?_cons_succ, List.set_cons_zero, List.set_cons_succ, List.map_cons, List.map_nil, List.replicate_succ, List.replicate_zero, List.length_cons, List.length_nil, List.cons_append, List.nil_append, Nat.reduceAdd, Nat.reduceSub, Nat.reduceLeDiff, Nat.reduceEqDiff, reduceIte, if_true, if_false, Bool.not_true, Bool.not_false, Bool.true_and, Bool.and_true, Bool.false_and, Bool.and_false, Bool.true_or, Bool.false_or, Bool.or_true, Bool.or_false, reduceCtorEq, decide_true, decide_false, beq_self_eq_true, List.mem_cons, true_or, or_true, true_and, and_true, false_and, and_false, or_false, false_or, String.reduceEq, String.reduceBEq, List.not_mem_nil, Bool.not_eq_true, Bool.false_eq_true, eq_self, not_true_eq_false, not_false_eq_true, Bool.not_eq_eq_eq_not, decide_eq_true_eq, decide_eq_false_iff_not, bne_iff_ne, ne_eq, Int.reduceLT, Int.reduceLE, Int.reduceMul, Int.reduceAdd, Int.reduceNeg, Int.reduceToNat, Int.reducePow, Nat.reduceLT, Int.reduceEq, Int.reduceSub, zipD, List.zipWith_cons_cons, List.zipWith_nil_left, List.zipWith_nil_right, List.all_cons, List.all_nil, id_eq, scalD, borE, wipeE, noOwn, sz_0, szl_0, sz_1, szl_1, sz_2, szl_2, sz_3, szl_3, sz_4, szl_4, sz_5, szl_5, sz_6, szl_6, sz_7, szl_7, sz_8, szl_8, sz_9, szl_9, sz_10, szl_10, sz_11, szl_11, sz_12, szl_12, sz_13, szl_13, sz_14, szl_14, sz_15, szl_15, sz_16, szl_16, sz_17, szl_17, sz_18, szl_18, sz_19, szl_19, sz_20, szl_20, sz_21, szl_21, sz_22, szl_22, sz_23, szl_23, sz_24, szl_24, sz_25, szl_25, sz_26, szl_26, sz_27, szl_27, sz_28, szl_28, sz_29, szl_29, sz_30, szl_30, sz_31, szl_31, sz_32, szl_32, frz, List.all_cons, List.all_nil]
theorem isr_len (xs : List D) (hn : xs.length ≠ 2) : m_is_ratio [.tup xs] = .ok (.bl false) := by
  apply wR_eq
  have : ¬ (xs.length : Int) = 2 := by omega
  simp only [m_is_ratio, g_is_ratio, ↓wR_ok, ↓wR_err, ↓wR_bind, ↓wR_of, ↓wO_some, ↓wO_map, ↓wO_bind, ↓w_var0, ↓w_varS, ↓w_eC, ↓w_e1, ↓w_l1, ↓w_e2, ↓w_l2, ↓w_b1, ↓w_b2, ↓w_eB, ↓w_eF, ↓w_lF, ↓w_eCall, ↓w_eLst, ↓w_aNil, ↓w_aCons, ↓w_eTup, ↓w_lDisp, ↓w_eIf, ↓w_bAnd, ↓w_bOr, ↓w_bNot, ↓w_bYes, ↓w_bChain, ↓w_eAnd, ↓w_eOr, ↓w_iAny, ↓w_oNone, ↓w_oSomeC, ↓w_eSl, ↓w_lSlG, ↓w_lComp, ↓w_sSeq, ↓w_sNil, ↓w_sBreak, ↓w_sCont, ↓w_sSet, ↓w_sSetL, ↓w_sExpr, ↓w_sRet, ↓w_sRetN, ↓w_sIf, ↓w_own0, ↓w_ownS, ↓w_sRetO, ↓w_sApp, ↓w_sSetIx, ↓w_sFrz, ↓w_sThen, ↓w_sRaise, ↓w_sAsg, ↓w_sFor, ↓w_sTry, ↓t_name, ↓t_nil, ↓t_cons, ↓o_plus, ↓o_plusL, ↓o_lAdd, ↓o_sub, ↓o_neg, ↓o_mul, ↓o_fdiv, ↓o_mod, ↓o_pow, ↓o_lt, ↓o_le, ↓o_gt, ↓o_ge, ↓o_eq, ↓o_ne, ↓o_truthB, ↓o_truthI, ↓o_truthN, ↓o_truthL, ↓o_truthT, ↓o_truthS, ↓o_notB, ↓o_isNN, ↓o_isBT, ↓o_isBF, ↓o_isT, ↓o_isIB, ↓o_isSB, ↓o_isLB, ↓o_isTB, ↓o_isNB, ↓o_isNot, ↓o_lenL, ↓o_lenT, ↓o_lenS, ↓o_abs, ↓o_intI, ↓o_intB, ↓o_str, ↓o_gcd, ↓o_list, ↓o_listT, ↓o_tuple, ↓o_tupleT, ↓o_rev, ↓o_type, ↓o_isi, ↓o_isi2, ↓o_rg1, ↓o_rg2, ↓o_zip, ↓o_zipT, ↓o_itemsL, ↓o_itemsT, ↓o_ixL, ↓o_ixT, ↓o_at0, ↓o_at1, ↓o_at2, ↓o_at3, ↓o_at4, ↓o_at5, ↓o_at6, ↓o_at7, ↓o_at8, ↓o_at9, ↓o_at10, ↓o_at11, ↓o_at12, ↓o_at13, ↓o_at14, ↓o_at15, ↓w_eIxO, ↓t_tup1, ↓t_tup2, ↓t_tup3, ↓t_tup9, ↓w_okOnly, ↓w_compN, ↓w_compC, ↓o_all, ↓o_any, ↓bls_nil, ↓bls_cons, ↓o_minL, ↓o_maxL, ↓o_sumL, ↓ints_nil, ↓ints_cons, ↓o_min3, ↓o_max3, ↓o_slL, ↓o_slT, ↓w_eBor, ↓w_bBor, o_isN, w_runF, tyName, isSubTy, tyNames, List.getElem?_cons_zero, List.getElem?_cons_succ, List.set_cons_zero, List.set_cons_succ, List.map_cons, List.map_nil, List.replicate_succ, List.replicate_zero, List.length_cons, List.length_nil, List.cons_append, List.nil_append, Nat.reduceAdd, Nat.reduceSub, Nat.reduceLeDiff, Nat.reduceEqDiff, reduceIte, if_true, if_false, Bool.not_true, Bool.not_false, Bool.true_and, Bool.and_true, Bool.false_and, Bool.and_false, Bool.true_or, Bool.false_or, Bool.or_true, Bool.or_false, reduceCtorEq, decide_true, decide_false, beq_self_eq_true, List.mem_cons, true_or, or_true, true_and, and_true, false_and, and_false, or_false, false_or, String.reduceEq, String.reduceBEq, List.not_mem_nil, Bool.not_eq_true, Bool.false_eq_true, eq_self, not_true_eq_false, not_false_eq_true, Bool.not_eq_eq_eq_not, decide_eq_true_eq, decide_eq_false_iff_not, bne_iff_ne, ne_eq, Int.reduceLT, Int.reduceLE, Int.reduceMul, Int.reduceAdd, Int.reduceNeg, Int.reduceToNat, Int.reducePow, Nat.reduceLT, Int.reduceEq, Int.reduceSub, zipD, List.zipWith_cons_cons, List.zipWith_nil_left, List.zipWith_nil_right, List.all_cons, List.all_nil, id_eq, scalD, borE, wipeE, noOwn, sz_0, szl_0, sz_1, szl_1, sz_2, szl_2, sz_3, szl_3, sz_4, szl_4, sz_5, szl_5, sz_6, szl_6, sz_7, szl_7, sz_8, szl_8, sz_9, szl_9, sz_10, szl_10, sz_11, szl_11, sz_12, szl_12, sz_13, szl_13, sz_14, szl_14, sz_15, szl_15, sz_16, szl_16, sz_17, szl_17, sz_18, szl_18, sz_19, szl_19, sz_20, szl_20, sz_21, szl_21, sz_22, szl_22, sz_23, szl_23, sz_24, szl_24, sz_25, szl_25, sz_26, szl_26, sz_27, szl_27, sz_28, szl_28, sz_29, szl_29, sz_30, szl_30, sz_31, szl_31, sz_32, szl_32, frz, List.all_cons, List.all_nil, this]
theorem two2 : ((2 : Nat) : Int) = 2 := rfl
theorem isr_parts (a b : D) (wa wb : Bool) (ha : m_is_whole [a] = .ok (.bl wa)) (hb : m_is_whole [b] = .ok (.bl wb)) (h : (wa && wb) = false) : m_is_ratio [.tup [a, b]] = .ok (.bl false) := by
  apply wR_eq
  simp only [m_is_ratio, g_is_ratio, ↓wR_ok, ↓wR_err, ↓wR_bind, ↓wR_of, ↓wO_some, ↓wO_map, ↓wO_bind, ↓w_var0, ↓w_varS, ↓w_eC, ↓w_e1, ↓w_l1, ↓w_e2, ↓w_l2, ↓w_b1, ↓w_b2, ↓w_eB, ↓w_eF, ↓w_lF, ↓w_eCall, ↓w_eLst, ↓w_aNil, ↓w_aCons, ↓w_eTup, ↓w_lDisp, ↓w_eIf, ↓w_bAnd, ↓w_bOr, ↓w_bNot, ↓w_bYes, ↓w_bChain, ↓w_eAnd, ↓w_eOr, ↓w_iAny, ↓w_oNone, ↓w_oSomeC, ↓w_eSl, ↓w_lSlG, ↓w_lComp, ↓w_sSeq, ↓w_sNil, ↓w_sBreak, ↓w_sCont, ↓w_sSet, ↓w_sSetL, ↓w_sExpr, ↓w_sRet, ↓w_sRetN, ↓w_sIf, ↓w_own0, ↓w_ownS, ↓w_sRetO, ↓w_sApp, ↓w_sSetIx, ↓w_sFrz, ↓w_sThen, ↓w_sRaise, ↓w_sAsg, ↓w_sFor, ↓w_sTry, ↓t_name, ↓t_nil, ↓t_cons, ↓o_plus, ↓o_plusL, ↓o_lAdd, ↓o_sub, ↓o_neg, ↓o_mul, ↓o_fdiv, ↓o_mod, ↓o_pow, ↓o_lt, ↓o_le, ↓o_gt, ↓o_ge, ↓o_eq, ↓o_ne, ↓o_truthB, ↓o_truthI, ↓o_truthN, ↓o_truthL, ↓o_truthT, ↓o_truthS, ↓o_notB, ↓o_isNN, ↓o_isBT, ↓o_isBF, ↓o_isT, ↓o_isIB, ↓o_isSB, ↓o_isLB, ↓o_isTB, ↓o_isNB, ↓o_isNot, ↓o_lenL, ↓o_lenT, ↓o_lenS, ↓o_abs, ↓o_intI, ↓o_intB, ↓o_str, ↓o_gcd, ↓o_list, ↓o_listT, ↓o_tuple, ↓o_tupleT, ↓o_rev, ↓o_type, ↓o_isi, ↓o_isi2, ↓o_rg1, ↓o_rg2, ↓o_zip, ↓o_zipT, ↓o_itemsL, ↓o_itemsT, ↓o_ixL, ↓o_ixT, ↓o_at0, ↓o_at1, ↓o_at2, ↓o_at3, ↓o_at4, ↓o_at5, ↓o_at6, ↓o_at7, ↓o_at8, ↓o_at9, ↓o_at10, ↓o_at11, ↓o_at12, ↓o_at13, ↓o_at14, ↓o_at15, ↓w_eIxO, ↓t_tup1, ↓t_tup2, ↓t_tup3, ↓t_tup9, ↓w_okOnly, ↓w_compN, ↓w_compC, ↓o_all, ↓o_any, ↓bls_nil, ↓bls_cons, ↓o_minL, ↓o_maxL, ↓o_sumL, ↓ints_nil, ↓ints_cons, ↓o_min3, ↓o_max3, ↓o_slL, ↓o_slT, ↓w_eBor, ↓w_bBor, o_isN, w_runF, tyName, isSubTy, tyNames, List.getElem?_cons_zero, List.getElem?_cons_succ, List.set_cons_zero, List.set_cons_succ, List.map_cons, List.map_nil, List.replicate_succ, List.replicate_zero, List.length_cons, List.length_nil, List.cons_append, List.nil_append, Nat.reduceAdd, Nat.reduceSub, Nat.reduceLeDiff, Nat.reduceEqDiff, reduceIte, if_true, if_false, Bool.not_true, Bool.not_false, Bool.true_and, Bool.and_true, Bool.false_and, Bool.and_false, Bool.true_or, Bool.false_or, Bool.or_true, Bool.or_false, reduceCtorEq, decide_true, decide_false, beq_self_eq_true, List.mem_cons, true_or, or_true, true_and, and_true, false_and, and_false, or_false, false_or, String.reduceEq, String.reduceBEq, List.not_mem_nil, Bool.not_eq_true, Bool.false_eq_true, eq_self, not_true_eq_false, not_false_eq_true, Bool.not_eq_eq_eq_not, decide_eq_true_eq, decide_eq_false_iff_not, bne_iff_ne, ne_eq, Int.reduceLT, Int.reduceLE, Int.reduceMul, Int.reduceAdd, Int.reduceNeg, Int.reduceToNat, Int.reducePow, Nat.reduceLT, Int.reduceEq, Int.reduceSub, zipD, List.zipWith_cons_cons, List.zipWith_nil_left, List.zipWith_nil_right, List.all_cons, List.all_nil, id_eq, scalD, borE, wipeE, noOwn, sz_0, szl_0, sz_1, szl_1, sz_2, szl_2, sz_3, szl_3, sz_4, szl_4, sz_5, szl_5, sz_6, szl_6, sz_7, szl_7, sz_8, szl_8, sz_9, szl_9, sz_10, szl_10, sz_11, szl_11, sz_12, szl_12, sz_13, szl_13, sz_14, szl_14, sz_15, szl_15, sz_16, szl_16, sz_17, szl_17, sz_18, szl_18, sz_19, szl_19, sz_20, szl_20, sz_21, szl_21, sz_22, szl_22, sz_23, szl_23, sz_24, szl_24, sz_25, szl_25, sz_26, szl_26, sz_27, szl_27, sz_28, szl_28, sz_29, szl_29, sz_30, szl_30, sz_31, szl_31, sz_32, szl_32, frz, List.all_cons, List.all_nil, ha, hb, h, two2]
theorem isr_ints (p q : Int) (b : Bool) (h : b = (decide (1 ≤ q) && decide (Nat.gcd p.natAbs q.natAbs = 1))) : m_is_ratio [.tup [.int p, .int q]] = .ok (.bl b) := by
  apply wR_eq
  simp only [m_is_ratio, g_is_ratio, ↓wR_ok, ↓wR_err, ↓wR_bind, ↓wR_of, ↓wO_some, ↓wO_map, ↓wO_bind, ↓w_var0, ↓w_varS, ↓w_eC, ↓w_e1, ↓w_l1, ↓w_e2, ↓w_l2, ↓w_b1, ↓w_b2, ↓w_eB, ↓w_eF, ↓w_lF, ↓w_eCall, ↓w_eLst, ↓w_aNil, ↓w_aCons, ↓w_eTup, ↓w_lDisp, ↓w_eIf, ↓w_bAnd, ↓w_bOr, ↓w_bNot, ↓w_bYes, ↓w_bChain, ↓w_eAnd, ↓w_eOr, ↓w_iAny, ↓w_oNone, ↓w_oSomeC, ↓w_eSl, ↓w_lSlG, ↓w_lComp, ↓w_sSeq, ↓w_sNil, ↓w_sBreak, ↓w_sCont, ↓w_sSet, ↓w_sSetL, ↓w_sExpr, ↓w_sRet, ↓w_sRetN, ↓w_sIf, ↓w_own0, ↓w_ownS, ↓w_sRetO, ↓w_sApp, ↓w_sSetIx, ↓w_sFrz, ↓w_sThen, ↓w_sRaise, ↓w_sAsg, ↓w_sFor, ↓w_sTry, ↓t_name, ↓t_nil, ↓t_cons, ↓o_plus, ↓o_plusL, ↓o_lAdd, ↓o_sub, ↓o_neg, ↓o_mul, ↓o_fdiv, ↓o_mod, ↓o_pow, ↓o_lt, ↓o_le, ↓o_gt, ↓o_ge, ↓o_eq, ↓o_ne, ↓o_truthB, ↓o_truthI, ↓o_truthN, ↓o_truthL, ↓o_truthT, ↓o_truthS, ↓o_notB, ↓o_isNN, ↓o_isBT, ↓o_isBF, ↓o_isT, ↓o_isIB, ↓o_isSB, ↓o_isLB, ↓o_isTB, ↓o_isNB, ↓o_isNot, ↓o_lenL, ↓o_lenT, ↓o_lenS, ↓o_abs, ↓o_intI, ↓o_intB, ↓o_str, ↓o_gcd, ↓o_list, ↓o_listT, ↓o_tuple, ↓o_tupleT, ↓o_rev, ↓o_type, ↓o_isi, ↓o_isi2, ↓o_rg1, ↓o_rg2, ↓o_zip, ↓o_zipT, ↓o_itemsL, ↓o_itemsT, ↓o_ixL, ↓o_ixT, ↓o_at0, ↓o_at1, ↓o_at2, ↓o_at3, ↓o_at4, ↓o_at5, ↓o_at6, ↓o_at7, ↓o_at8, ↓o_at9, ↓o_at10, ↓o_at11, ↓o_at12, ↓o_at13, ↓o_at14, ↓o_at15, ↓w_eIxO, ↓t_tup1, ↓t_tup2, ↓t_tup3, ↓t_tup9, ↓w_okOnly, ↓w_compN, ↓w_compC, ↓o_all, ↓o_any, ↓bls_nil, ↓bls_cons, ↓o_minL, ↓o_maxL, ↓o_sumL, ↓ints_nil, ↓ints_cons, ↓o_min3, ↓o_max3, ↓o_slL, ↓o_slT, ↓w_eBor, ↓w_bBor, o_isN, w_runF, tyName, isSubTy, tyNames, List.getElem?_cons_zero, List.getElem?_cons_succ, List.set_cons_zero, List.set_cons_succ, List.map_cons, List.map_nil, List.replicate_succ, List.replicate_zero, List.length_cons, List.length_nil, List.cons_append, List.nil_append, Nat.reduceAdd, Nat.reduceSub, Nat.reduceLeDiff, Nat.reduceEqDiff, reduceIte, if_true, if_false, Bool.not_true, Bool.not_false, Bool.true_and, Bool.and_true, Bool.false_and, Bool.and_false, Bool.true_or, Bool.false_or, Bool.or_true, Bool.or_false, reduceCtorEq, decide_true, decide_false, beq_self_eq_true, List.mem_cons, true_or, or_true, true_and, and_true, false_and, and_false, or_false, false_or, String.reduceEq, String.reduceBEq, List.not_mem_nil, Bool.not_eq_true, Bool.false_eq_true, eq_self, not_true_eq_false, not_false_eq_true, Bool.not_eq_eq_eq_not, decide_eq_true_eq, decide_eq_false_iff_not, bne_iff_ne, ne_eq, Int.reduceLT, Int.reduceLE, Int.reduceMul, Int.reduceAdd, Int.reduceNeg, Int.reduceToNat, Int.reducePow, Nat.reduceLT, Int.reduceEq, Int.reduceSub, zipD, List.zipWith_cons_cons, List.zipWith_nil_left, List.zipWith_nil_right, List.all_cons, List.all_nil, id_eq, scalD, borE, wipeE, noOwn, sz_0, szl_0, sz_1, szl_1, sz_2, szl_2, sz_3, szl_3, sz_4, szl_4, sz_5, szl_5, sz_6, szl_6, sz_7, szl_7, sz_8, szl_8, sz_9, szl_9, sz_10, szl_10, sz_11, szl_11, sz_12, szl_12, sz_13, szl_13, sz_14, szl_14, sz_15, szl_15, sz_16, szl_16, sz_17, szl_17, sz_18, szl_18, sz_19, szl_19, sz_20, szl_20, sz_21, szl_21, sz_22, szl_22, sz_23, szl_23, sz_24, szl_24, sz_25, szl_25, sz_26, szl_26, sz_27, szl_27, sz_28, szl_28, sz_29, szl_29, sz_30, szl_30, sz_31, szl_31, sz_32, szl_32, frz, List.all_cons, List.all_nil, whole_int, two2]
  subst h
  have e : ((Nat.gcd p.natAbs q.natAbs : Nat) : Int) = 1 ↔ Nat.gcd p.natAbs q.natAbs = 1 := by omega
  by_cases h1 : 1 ≤ q <;> by_cases h2 : Nat.gcd p.natAbs q.natAbs = 1 <;> simp [h1, h2, e]
theorem same_types (k : Nat) (d e : D) (n m : String) (h1 : tyName d = some n) (h2 : tyName e = some m) (h : (n == m) = false) : m_is_same (k + 1) [d, e] = .ok (.bl false) := by
  apply wR_eq
  cases d <;> cases h1 <;> cases e <;> cases h2 <;> first | (cases h; done) | simp only [m_is_same, g_is_same, ↓wR_ok, ↓wR_err, ↓wR_bind, ↓wR_of, ↓wO_some, ↓wO_map, ↓wO_bind, ↓w_var0, ↓w_varS, ↓w_eC, ↓w_e1, ↓w_l1, ↓w_e2, ↓w_l2, ↓w_b1, ↓w_b2, ↓w_eB, ↓w_eF, ↓w_lF, ↓w_eCall, ↓w_eLst, ↓w_aNil, ↓w_aCons, ↓w_eTup, ↓w_lDisp, ↓w_eIf, ↓w_bAnd, ↓w_bOr, ↓w_bNot, ↓w_bYes, ↓w_bChain, ↓w_eAnd, ↓w_eOr, ↓w_iAny, ↓w_oNone, ↓w_oSomeC, ↓w_eSl, ↓w_lSlG, ↓w_lComp, ↓w_sSeq, ↓w_sNil, ↓w_sBreak, ↓w_sCont, ↓w_sSet, ↓w_sSetL, ↓w_sExpr, ↓w_sRet, ↓w_sRetN, ↓w_sIf, ↓w_own0, ↓w_ownS, ↓w_sRetO, ↓w_sApp, ↓w_sSetIx, ↓w_sFrz, ↓w_sThen, ↓w_sRaise, ↓w_sAsg, ↓w_sFor, ↓w_sTry, ↓t_name, ↓t_nil, ↓t_cons, ↓o_plus, ↓o_plusL, ↓o_lAdd, ↓o_sub, ↓o_neg, ↓o_mul, ↓o_fdiv, ↓o_mod, ↓o_pow, ↓o_lt, ↓o_le, ↓o_gt, ↓o_ge, ↓o_eq, ↓o_ne, ↓o_truthB, ↓o_truthI, ↓o_truthN, ↓o_truthL, ↓o_truthT, ↓o_truthS, ↓o_notB, ↓o_isNN, ↓o_isBT, ↓o_isBF, ↓o_isT, ↓o_isIB, ↓o_isSB, ↓o_isLB, ↓o_isTB, ↓o_isNB, ↓o_isNot, ↓o_lenL, ↓o_lenT, ↓o_lenS, ↓o_abs, ↓o_intI, ↓o_intB, ↓o_str, ↓o_gcd, ↓o_list, ↓o_listT, ↓o_tuple, ↓o_tupleT, ↓o_rev, ↓o_type, ↓o_isi, ↓o_isi2, ↓o_rg1, ↓o_rg2, ↓o_zip, ↓o_zipT, ↓o_itemsL, ↓o_itemsT, ↓o_ixL, ↓o_ixT, ↓o_at0, ↓o_at1, ↓o_at2, ↓o_at3, ↓o_at4, ↓o_at5, ↓o_at6, ↓o_at7, ↓o_at8, ↓o_at9, ↓o_at10, ↓o_at11, ↓o_at12, ↓o_at13, ↓o_at14, ↓o_at15, ↓w_eIxO, ↓t_tup1, ↓t_tup2, ↓t_tup3, ↓t_tup9, ↓w_okOnly, ↓w_compN, ↓w_compC, ↓o_all, ↓o_any, ↓bls_nil, ↓bls_cons, ↓o_minL, ↓o_maxL, ↓o_sumL, ↓ints_nil, ↓ints_cons, ↓o_min3, ↓o_max3, ↓o_slL, ↓o_slT, ↓w_eBor, ↓w_bBor, o_isN, w_runF, tyName, isSubTy, tyNames, List.getElem?_cons_zero, List.getElem?_cons_succ, List.set_cons_zero, List.set_cons_succ, List.map_cons, List.map_nil, List.replicate_succ, List.replicate_zero, List.length_cons, List.length_nil, List.cons_append, List.nil_append, Nat.reduceAdd, Nat.reduceSub, Nat.reduceLeDiff, Nat.reduceEqDiff, reduceIte, if_true, if_false, Bool.not_true, Bool.not_false, Bool.true_and, Bool.and_true, Bool.false_and, Bool.and_false, Bool.true_or, Bool.false_or, Bool.or_true, Bool.or_false, reduceCtorEq, decide_true, decide_false, beq_self_eq_true, List.mem_cons, true_or, or_true, true_and, and_true, false_and, and_false, or_false, false_or, String.reduceEq, String.reduceBEq, List.not_mem_nil, Bool.not_eq_true, Bool.false_eq_true, eq_self, not_true_eq_false, not_false_eq_true, Bool.not_eq_eq_eq_not, decide_eq_true_eq, decide_eq_false_iff_not, bne_iff_ne, ne_eq, Int.reduceLT, Int.reduceLE, Int.reduceMul, Int.reduceAdd, Int.reduceNeg, Int.reduceToNat, Int.reducePow, Nat.reduceLT, Int.reduceEq, Int.reduceSub, zipD, List.zipWith_cons_cons, List.zipWith_nil_left, List.zipWith_nil_right, List.all_cons, List.all_nil, id_eq, scalD, borE, wipeE, noOwn, sz_0, szl_0, sz_1, szl_1, sz_2, szl_2, sz_3, szl_3, sz_4, szl_4, sz_5, szl_5, sz_6, szl_6, sz_7, szl_7, sz_8, szl_8, sz_9, szl_9, sz_10, szl_10, sz_11, szl_11, sz_12, szl_12, sz_13, szl_13, sz_14, szl_14, sz_15, szl_15, sz_16, szl_16, sz_17, szl_17, sz_18, szl_18, sz_19, szl_19, sz_20, szl_20, sz_21, szl_21, sz_22, szl_22, sz_23, szl_23, sz_24, szl_24, sz_25, szl_25, sz_26, szl_26, sz_27, szl_27, sz_28, szl_28, sz_29, szl_29, sz_30, szl_30, sz_31, szl_31, sz_32, szl_32, frz, List.all_cons, List.all_nil]
theorem same_ints (k : Nat) (a b : Int) (x : Bool) (h : x = decide (a = b)) : m_is_same (k + 1) [.int a, .int b] = .ok (.bl x) := by
  apply wR_eq
  subst h
  simp only [m_is_same, g_is_same, ↓wR_ok, ↓wR_err, ↓wR_bind, ↓wR_of, ↓wO_some, ↓wO_map, ↓wO_bind, ↓w_var0, ↓w_varS, ↓w_eC, ↓w_e1, ↓w_l1, ↓w_e2, ↓w_l2, ↓w_b1, ↓w_b2, ↓w_eB, ↓w_eF, ↓w_lF, ↓w_eCall, ↓w_eLst, ↓w_aNil, ↓w_aCons, ↓w_eTup, ↓w_lDisp, ↓w_eIf, ↓w_bAnd, ↓w_bOr, ↓w_bNot, ↓w_bYes, ↓w_bChain, ↓w_eAnd, ↓w_eOr, ↓w_iAny, ↓w_oNone, ↓w_oSomeC, ↓w_eSl, ↓w_lSlG, ↓w_lComp, ↓w_sSeq, ↓w_sNil, ↓w_sBreak, ↓w_sCont, ↓w_sSet, ↓w_sSetL, ↓w_sExpr, ↓w_sRet, ↓w_sRetN, ↓w_sIf, ↓w_own0, ↓w_ownS, ↓w_sRetO, ↓w_sApp, ↓w_sSetIx, ↓w_sFrz, ↓w_sThen, ↓w_sRaise, ↓w_sAsg, ↓w_sFor, ↓w_sTry, ↓t_name, ↓t_nil, ↓t_cons, ↓o_plus, ↓o_plusL, ↓o_lAdd, ↓o_sub, ↓o_neg, ↓o_mul, ↓o_fdiv, ↓o_mod, ↓o_pow, ↓o_lt, ↓o_le, ↓o_gt, ↓o_ge, ↓o_eq, ↓o_ne, ↓o_truthB, ↓o_truthI, ↓o_truthN, ↓o_truthL, ↓o_truthT, ↓o_truthS, ↓o_notB, ↓o_isNN, ↓o_isBT, ↓o_isBF, ↓o_isT, ↓o_isIB, ↓o_isSB, ↓o_isLB, ↓o_isTB, ↓o_isNB, ↓o_isNot, ↓o_lenL, ↓o_lenT, ↓o_lenS, ↓o_abs, ↓o_intI, ↓o_intB, ↓o_str, ↓o_gcd, ↓o_list, ↓o_listT, ↓o_tuple, ↓o_tupleT, ↓o_rev, ↓o_type, ↓o_isi, ↓o_isi2, ↓o_rg1, ↓o_rg2, ↓o_zip, ↓o_zipT, ↓o_itemsL, ↓o_itemsT, ↓o_ixL, ↓o_ixT, ↓o_at0, ↓o_at1, ↓o_at2, ↓o_at3, ↓o_at4, ↓o_at5, ↓o_at6, ↓o_at7, ↓o_at8, ↓o_at9, ↓o_at10, ↓o_at11, ↓o_at12, ↓o_at13, ↓o_at14, ↓o_at15, ↓w_eIxO, ↓t_tup1, ↓t_tup2, ↓t_tup3, ↓t_tup9, ↓w_okOnly, ↓w_compN, ↓w_compC, ↓o_all, ↓o_any, ↓bls_nil, ↓bls_cons, ↓o_minL, ↓o_maxL, ↓o_sumL, ↓ints_nil, ↓ints_cons, ↓o_min3, ↓o_max3, ↓o_slL, ↓o_slT, ↓w_eBor, ↓w_bBor, o_isN, w_runF, tyName, isSubTy, tyNames, List.getElem?_cons_zero, List.getElem?_cons_succ, List.set_cons_zero, List.set_cons_succ, List.map_cons, List.map_nil, List.replicate_succ, List.replicate_zero, List.length_cons, List.length_nil, List.cons_append, List.nil_append, Nat.reduceAdd, Nat.reduceSub, Nat.reduceLeDiff, Nat.reduceEqDiff, reduceIte, if_true, if_false, Bool.not_true, Bool.not_false, Bool.true_and, Bool.and_true, Bool.false_and, Bool.and_false, Bool.true_or, Bool.false_or, Bool.or_true, Bool.or_false, reduceCtorEq, decide_true, decide_false, beq_self_eq_true, List.mem_cons, true_or, or_true, true_and, and_true, false_and, and_false, or_false, false_or, String.reduceEq, String.reduceBEq, List.not_mem_nil, Bool.not_eq_true, Bool.false_eq_true, eq_self, not_true_eq_false, not_false_eq_true, Bool.not_eq_eq_eq_not, decide_eq_true_eq, decide_eq_false_iff_not, bne_iff_ne, ne_eq, Int.reduceLT, Int.reduceLE, Int.reduceMul, Int.reduceAdd, Int.reduceNeg, Int.reduceToNat, Int.reducePow, Nat.reduceLT, Int.reduceEq, Int.reduceSub, zipD, List.zipWith_cons_cons, List.zipWith_nil_left, List.zipWith_nil_right, List.all_cons, List.all_nil, id_eq, scalD, borE, wipeE, noOwn, sz_0, szl_0, sz_1, szl_1, sz_2, szl_2, sz_3, szl_3, sz_4, szl_4, sz_5, szl_5, sz_6, szl_6, sz_7, szl_7, sz_8, szl_8, sz_9, szl_9, sz_10, szl_10, sz_11, szl_11, sz_12, szl_12, sz_13, szl_13, sz_14, szl_14, sz_15, szl_15, sz_16, szl_16, sz_17, szl_17, sz_18, szl_18, sz_19, szl_19, sz_20, szl_20, sz_21, szl_21, sz_22, szl_22, sz_23, szl_23, sz_24, szl_24, sz_25, szl_25, sz_26, szl_26, sz_27, szl_27, sz_28, szl_28, sz_29, szl_29, sz_30, szl_30, sz_31, szl_31, sz_32, szl_32, frz, List.all_cons, List.all_nil]
theorem same_str (k : Nat) (s : List Nat) : m_is_same (k + 1) [.str s, .str s] = .ok (.bl true) := by
  apply wR_eq
  simp only [m_is_same, g_is_same, ↓wR_ok, ↓wR_err, ↓wR_bind, ↓wR_of, ↓wO_some, ↓wO_map, ↓wO_bind, ↓w_var0, ↓w_varS, ↓w_eC, ↓w_e1, ↓w_l1, ↓w_e2, ↓w_l2, ↓w_b1, ↓w_b2, ↓w_eB, ↓w_eF, ↓w_lF, ↓w_eCall, ↓w_eLst, ↓w_aNil, ↓w_aCons, ↓w_eTup, ↓w_lDisp, ↓w_eIf, ↓w_bAnd, ↓w_bOr, ↓w_bNot, ↓w_bYes, ↓w_bChain, ↓w_eAnd, ↓w_eOr, ↓w_iAny, ↓w_oNone, ↓w_oSomeC, ↓w_eSl, ↓w_lSlG, ↓w_lComp, ↓w_sSeq, ↓w_sNil, ↓w_sBreak, ↓w_sCont, ↓w_sSet, ↓w_sSetL, ↓w_sExpr, ↓w_sRet, ↓w_sRetN, ↓w_sIf, ↓w_own0, ↓w_ownS, ↓w_sRetO, ↓w_sApp, ↓w_sSetIx, ↓w_sFrz, ↓w_sThen, ↓w_sRaise, ↓w_sAsg, ↓w_sFor, ↓w_sTry, ↓t_name, ↓t_nil, ↓t_cons, ↓o_plus, ↓o_plusL, ↓o_lAdd, ↓o_sub, ↓o_neg, ↓o_mul, ↓o_fdiv, ↓o_mod, ↓o_pow, ↓o_lt, ↓o_le, ↓o_gt, ↓o_ge, ↓o_eq, ↓o_ne, ↓o_truthB, ↓o_truthI, ↓o_truthN, ↓o_truthL, ↓o_truthT, ↓o_truthS, ↓o_notB, ↓o_isNN, ↓o_isBT, ↓o_isBF, ↓o_isT, ↓o_isIB, ↓o_isSB, ↓o_isLB, ↓o_isTB, ↓o_isNB, ↓o_isNot, ↓o_lenL, ↓o_lenT, ↓o_lenS, ↓o_abs, ↓o_intI, ↓o_intB, ↓o_str, ↓o_gcd, ↓o_list, ↓o_listT, ↓o_tuple, ↓o_tupleT, ↓o_rev, ↓o_type, ↓o_isi, ↓o_isi2, ↓o_rg1, ↓o_rg2, ↓o_zip, ↓o_zipT, ↓o_itemsL, ↓o_itemsT, ↓o_ixL, ↓o_ixT, ↓o_at0, ↓o_at1, ↓o_at2, ↓o_at3, ↓o_at4, ↓o_at5, ↓o_at6, ↓o_at7, ↓o_at8, ↓o_at9, ↓o_at10, ↓o_at11, ↓o_at12, ↓o_at13, ↓o_at14, ↓o_at15, ↓w_eIxO, ↓t_tup1, ↓t_tup2, ↓t_tup3, ↓t_tup9, ↓w_okOnly, ↓w_compN, ↓w_compC, ↓o_all, ↓o_any, ↓bls_nil, ↓bls_cons, ↓o_minL, ↓o_maxL, ↓o_sumL, ↓ints_nil, ↓ints_cons, ↓o_min3, ↓o_max3, ↓o_slL, ↓o_slT, ↓w_eBor, ↓w_bBor, o_isN, w_runF, tyName, isSubTy, tyNames, List.getElem?_cons_zero, List.getElem?_cons_succ, List.set_cons_zero, List.set_cons_succ, List.map_cons, List.map_nil, List.replicate_succ, List.replicate_zero, List.length_cons, List.length_nil, List.cons_append, List.nil_append, Nat.reduceAdd, Nat.reduceSub, Nat.reduceLeDiff, Nat.reduceEqDiff, reduceIte, if_true, if_false, Bool.not_true, Bool.not_false, Bool.true_and, Bool.and_true, Bool.false_and, Bool.and_false, Bool.true_or, Bool.false_or, Bool.or_true, Bool.or_false, reduceCtorEq, decide_true, decide_false, beq_self_eq_true, List.mem_cons, true_or, or_true, true_and, and_true, false_and, and_false, or_false, false_or, String.reduceEq, String.reduceBEq, List.not_mem_nil, Bool.not_eq_true, Bool.false_eq_true, eq_self, not_true_eq_false, not_false_eq_true, Bool.not_eq_eq_eq_not, decide_eq_true_eq, decide_eq_false_iff_not, bne_iff_ne, ne_eq, Int.reduceLT, Int.reduceLE, Int.reduceMul, Int.reduceAdd, Int.reduceNeg, Int.reduceToNat, Int.reducePow, Nat.reduceLT, Int.reduceEq, Int.reduceSub, zipD, List.zipWith_cons_cons, List.zipWith_nil_left, List.zipWith_nil_right, List.all_cons, List.all_nil, id_eq, scalD, borE, wipeE, noOwn, sz_0, szl_0, sz_1, szl_1, sz_2, szl_2, sz_3, szl_3, sz_4, szl_4, sz_5, szl_5, sz_6, szl_6, sz_7, szl_7, sz_8, szl_8, sz_9, szl_9, sz_10, szl_10, sz_11, szl_11, sz_12, szl_12, sz_13, szl_13, sz_14, szl_14, sz_15, szl_15, sz_16, szl_16, sz_17, szl_17, sz_18, szl_18, sz_19, szl_19, sz_20, szl_20, sz_21, szl_21, sz_22, szl_22, sz_23, szl_23, sz_24, szl_24, sz_25, szl_25, sz_26, szl_26, sz_27, szl_27, sz_28, szl_28, sz_29, szl_29, sz_30, szl_30, sz_31, szl_31, sz_32, szl_32, frz, List.all_cons, List.all_nil, cEq_str]
theorem same_non (k : Nat) : m_is_same (k + 1) [.non, .non] = .ok (.bl true) := by
  apply wR_eq
  have h : cEq .non .non = some true := by rfl
  simp only [m_is_same, g_is_same, ↓wR_ok, ↓wR_err, ↓wR_bind, ↓wR_of, ↓wO_some, ↓wO_map, ↓wO_bind, ↓w_var0, ↓w_varS, ↓w_eC, ↓w_e1, ↓w_l1, ↓w_e2, ↓w_l2, ↓w_b1, ↓w_b2, ↓w_eB, ↓w_eF, ↓w_lF, ↓w_eCall, ↓w_eLst, ↓w_aNil, ↓w_aCons, ↓w_eTup, ↓w_lDisp, ↓w_eIf, ↓w_bAnd, ↓w_bOr, ↓w_bNot, ↓w_bYes, ↓w_bChain, ↓w_eAnd, ↓w_eOr, ↓w_iAny, ↓w_oNone, ↓w_oSomeC, ↓w_eSl, ↓w_lSlG, ↓w_lComp, ↓w_sSeq, ↓w_sNil, ↓w_sBreak, ↓w_sCont, ↓w_sSet, ↓w_sSetL, ↓w_sExpr, ↓w_sRet, ↓w_sRetN, ↓w_sIf, ↓w_own0, ↓w_ownS, ↓w_sRetO, ↓w_sApp, ↓w_sSetIx, ↓w_sFrz, ↓w_sThen, ↓w_sRaise, ↓w_sAsg, ↓w_sFor, ↓w_sTry, ↓t_name, ↓t_nil, ↓t_cons, ↓o_plus, ↓o_plusL, ↓o_lAdd, ↓o_sub, ↓o_neg, ↓o_mul, ↓o_fdiv, ↓o_mod, ↓o_pow, ↓o_lt, ↓o_le, ↓o_gt, ↓o_ge, ↓o_eq, ↓o_ne, ↓o_truthB, ↓o_truthI, ↓o_truthN, ↓o_truthL, ↓o_truthT, ↓o_truthS, ↓o_notB, ↓o_isNN, ↓o_isBT, ↓o_isBF, ↓o_isT, ↓o_isIB, ↓o_isSB, ↓o_isLB, ↓o_isTB, ↓o_isNB, ↓o_isNot, ↓o_lenL, ↓o_lenT, ↓o_lenS, ↓o_abs, ↓o_intI, ↓o_intB, ↓o_str, ↓o_gcd, ↓o_list, ↓o_listT, ↓o_tuple, ↓o_tupleT, ↓o_rev, ↓o_type, ↓o_isi, ↓o_isi2, ↓o_rg1, ↓o_rg2, ↓o_zip, ↓o_zipT, ↓o_itemsL, ↓o_itemsT, ↓o_ixL, ↓o_ixT, ↓o_at0, ↓o_at1, ↓o_at2, ↓o_at3, ↓o_at4, ↓o_at5, ↓o_at6, ↓o_at7, ↓o_at8, ↓o_at9, ↓o_at10, ↓o_at11, ↓o_at12, ↓o_at13, ↓o_at14, ↓o_at15, ↓w_eIxO, ↓t_tup1, ↓t_tup2, ↓t_tup3, ↓t_tup9, ↓w_okOnly, ↓w_compN, ↓w_compC, ↓o_all, ↓o_any, ↓bls_nil, ↓bls_cons, ↓o_minL, ↓o_maxL, ↓o_sumL, ↓ints_nil, ↓ints_cons, ↓o_min3, ↓o_max3, ↓o_slL, ↓o_slT, ↓w_eBor, ↓w_bBor, o_isN, w_runF, tyName, isSubTy, tyNames, List.getElem?_cons_zero, List.getElem?_cons_succ, List.set_cons_zero, List.set_cons_succ, List.map_cons, List.map_nil, List.replicate_succ, List.replicate_zero, List.length_cons, List.length_nil, List.cons_append, List.nil_append, Nat.reduceAdd, Nat.reduceSub, Nat.reduceLeDiff, Nat.reduceEqDiff, reduceIte, if_true, if_false, Bool.not_true, Bool.not_false, Bool.true_and, Bool.and_true, Bool.false_and, Bool.and_false, Bool.true_or, Bool.false_or, Bool.or_true, Bool.or_false, reduceCtorEq, decide_true, decide_false, beq_self_eq_true, List.mem_cons, true_or, or_true, true_and, and_true, false_and, and_false, or_false, false_or, String.reduceEq, String.reduceBEq, List.not_mem_nil, Bool.not_eq_true, Bool.false_eq_true, eq_self, not_true_eq_false, not_false_eq_true, Bool.not_eq_eq_eq_not, decide_eq_true_eq, decide_eq_false_iff_not, bne_iff_ne, ne_eq, Int.reduceLT, Int.reduceLE, Int.reduceMul, Int.reduceAdd, Int.reduceNeg, Int.reduceToNat, Int.reducePow, Nat.reduceLT, Int.reduceEq, Int.reduceSub, zipD, List.zipWith_cons_cons, List.zipWith_nil_left, List.zipWith_nil_right, List.all_cons, List.all_nil, id_eq, scalD, borE, wipeE, noOwn, sz_0, szl_0, sz_1, szl_1, sz_2, szl_2, sz_3, szl_3, sz_4, szl_4, sz_5, szl_5, sz_6, szl_6, sz_7, szl_7, sz_8, szl_8, sz_9, szl_9, sz_10, szl_10, sz_11, szl_11, sz_12, szl_12, sz_13, szl_13, sz_14, szl_14, sz_15, szl_15, sz_16, szl_16, sz_17, szl_17, sz_18, szl_18, sz_19, szl_19, sz_20, szl_20, sz_21, szl_21, sz_22, szl_22, sz_23, szl_23, sz_24, szl_24, sz_25, szl_25, sz_26, szl_26, sz_27, szl_27, sz_28, szl_28, sz_29, szl_29, sz_30, szl_30, sz_31, szl_31, sz_32, szl_32, frz, List.all_cons, List.all_nil, h]
theorem same_tt (k : Nat) : m_is_same (k + 1) [.bl true, .bl true] = .ok (.bl true) := by
  apply wR_eq
  have h : cEq (.bl true) (.bl true) = some true := by rfl
  simp only [m_is_same, g_is_same, ↓wR_ok, ↓wR_err, ↓wR_bind, ↓wR_of, ↓wO_some, ↓wO_map, ↓wO_bind, ↓w_var0, ↓w_varS, ↓w_eC, ↓w_e1, ↓w_l1, ↓w_e2, ↓w_l2, ↓w_b1, ↓w_b2, ↓w_eB, ↓w_eF, ↓w_lF, ↓w_eCall, ↓w_eLst, ↓w_aNil, ↓w_aCons, ↓w_eTup, ↓w_lDisp, ↓w_eIf, ↓w_bAnd, ↓w_bOr, ↓w_bNot, ↓w_bYes, ↓w_bChain, ↓w_eAnd, ↓w_eOr, ↓w_iAny, ↓w_oNone, ↓w_oSomeC, ↓w_eSl, ↓w_lSlG, ↓w_lComp, ↓w_sSeq, ↓w_sNil, ↓w_sBreak, ↓w_sCont, ↓w_sSet, ↓w_sSetL, ↓w_sExpr, ↓w_sRet, ↓w_sRetN, ↓w_sIf, ↓w_own0, ↓w_ownS, ↓w_sRetO, ↓w_sApp, ↓w_sSetIx, ↓w_sFrz, ↓w_sThen, ↓w_sRaise, ↓w_sAsg, ↓w_sFor, ↓w_sTry, ↓t_name, ↓t_nil, ↓t_cons, ↓o_plus, ↓o_plusL, ↓o_lAdd, ↓o_sub, ↓o_neg, ↓o_mul, ↓o_fdiv, ↓o_mod, ↓o_pow, ↓o_lt, ↓o_le, ↓o_gt, ↓o_ge, ↓o_eq, ↓o_ne, ↓o_truthB, ↓o_truthI, ↓o_truthN, ↓o_truthL, ↓o_truthT, ↓o_truthS, ↓o_notB, ↓o_isNN, ↓o_isBT, ↓o_isBF, ↓o_isT, ↓o_isIB, ↓o_isSB, ↓o_isLB, ↓o_isTB, ↓o_isNB, ↓o_isNot, ↓o_lenL, ↓o_lenT, ↓o_lenS, ↓o_abs, ↓o_intI, ↓o_intB, ↓o_str, ↓o_gcd, ↓o_list, ↓o_listT, ↓o_tuple, ↓o_tupleT, ↓o_rev, ↓o_type, ↓o_isi, ↓o_isi2, ↓o_rg1, ↓o_rg2, ↓o_zip, ↓o_zipT, ↓o_itemsL, ↓o_itemsT, ↓o_ixL, ↓o_ixT, ↓o_at0, ↓o_at1, ↓o_at2, ↓o_at3, ↓o_at4, ↓o_at5, ↓o_at6, ↓o_at7, ↓o_at8, ↓o_at9, ↓o_at10, ↓o_at11, ↓o_at12, ↓o_at13, ↓o_at14, ↓o_at15, ↓w_eIxO, ↓t_tup1, ↓t_tup2, ↓t_tup3, ↓t_tup9, ↓w_okOnly, ↓w_compN, ↓w_compC, ↓o_all, ↓o_any, ↓bls_nil, ↓bls_cons, ↓o_minL, ↓o_maxL, ↓o_sumL, ↓ints_nil, ↓ints_cons, ↓o_min3, ↓o_max3, ↓o_slL, ↓o_slT, ↓w_eBor, ↓w_bBor, o_isN, w_runF, tyName, isSubTy, tyNames, List.getElem?_cons_zero, List.getElem?_cons_succ, List.set_cons_zero, List.set_cons_succ, List.map_cons, List.map_nil, List.replicate_succ, List.replicate_zero, List.length_cons, List.length_nil, List.cons_append, List.nil_append, Nat.reduceAdd, Nat.reduceSub, Nat.reduceLeDiff, Nat.reduceEqDiff, reduceIte, if_true, if_false, Bool.not_true, Bool.not_false, Bool.true_and, Bool.and_true, Bool.false_and, Bool.and_false, Bool.true_or, Bool.false_or, Bool.or_true, Bool.or_false, reduceCtorEq, decide_true, decide_false, beq_self_eq_true, List.mem_cons, true_or, or_true, true_and, and_true, false_and, and_false, or_false, false_or, String.reduceEq, String.reduceBEq, List.not_mem_nil, Bool.not_eq_true, Bool.false_eq_true, eq_self, not_true_eq_false, not_false_eq_true, Bool.not_eq_eq_eq_not, decide_eq_true_eq, decide_eq_false_iff_not, bne_iff_ne, ne_eq, Int.reduceLT, Int.reduceLE, Int.reduceMul, Int.reduceAdd, Int.reduceNeg, Int.reduceToNat, Int.reducePow, Nat.reduceLT, Int.reduceEq, Int.reduceSub, zipD, List.zipWith_cons_cons, List.zipWith_nil_left, List.zipWith_nil_right, List.all_cons, List.all_nil, id_eq, scalD, borE, wipeE, noOwn, sz_0, szl_0, sz_1, szl_1, sz_2, szl_2, sz_3, szl_3, sz_4, szl_4, sz_5, szl_5, sz_6, szl_6, sz_7, szl_7, sz_8, szl_8, sz_9, szl_9, sz_10, szl_10, sz_11, szl_11, sz_12, szl_12, sz_13, szl_13, sz_14, szl_14, sz_15, szl_15, sz_16, szl_16, sz_17, szl_17, sz_18, szl_18, sz_19, szl_19, sz_20, szl_20, sz_21, szl_21, sz_22, szl_22, sz_23, szl_23, sz_24, szl_24, sz_25, szl_25, sz_26, szl_26, sz_27, szl_27, sz_28, szl_28, sz_29, szl_29, sz_30, szl_30, sz_31, szl_31, sz_32, szl_32, frz, List.all_cons, List.all_nil, h]
theorem same_l0 (k : Nat) : m_is_same (k + 1) [.lst [], .lst []] = .ok (.bl true) := by apply wR_eq; simp only [m_is_same, g_is_same, ↓wR_ok, ↓wR_err, ↓wR_bind, ↓wR_of, ↓wO_some, ↓wO_map, ↓wO_bind, ↓w_var0, ↓w_varS, ↓w_eC, ↓w_e1, ↓w_l1, ↓w_e2, ↓w_l2, ↓w_b1, ↓w_b2, ↓w_eB, ↓w_eF, ↓w_lF, ↓w_eCall, ↓w_eLst, ↓w_aNil, ↓w_aCons, ↓w_eTup, ↓w_lDisp, ↓w_eIf, ↓w_bAnd, ↓w_bOr, ↓w_bNot, ↓w_bYes, ↓w_bChain, ↓w_eAnd, ↓w_eOr, ↓w_iAny, ↓w_oNone, ↓w_oSomeC, ↓w_eSl, ↓w_lSlG, ↓w_lComp, ↓w_sSeq, ↓w_sNil, ↓w_sBreak, ↓w_sCont, ↓w_sSet, ↓w_sSetL, ↓w_sExpr, ↓w_sRet, ↓w_sRetN, ↓w_sIf, ↓w_own0, ↓w_ownS, ↓w_sRetO, ↓w_sApp, ↓w_sSetIx, ↓w_sFrz, ↓w_sThen, ↓w_sRaise, ↓w_sAsg, ↓w_sFor, ↓w_sTry, ↓t_name, ↓t_nil, ↓t_cons, ↓o_plus, ↓o_plusL, ↓o_lAdd, ↓o_sub, ↓o_neg, ↓o_mul, ↓o_fdiv, ↓o_mod, ↓o_pow, ↓o_lt, ↓o_le, ↓o_gt, ↓o_ge, ↓o_eq, ↓o_ne, ↓o_truthB, ↓o_truthI, ↓o_truthN, ↓o_truthL, ↓o_truthT, ↓o_truthS, ↓o_notB, ↓o_isNN, ↓o_isBT, ↓o_isBF, ↓o_isT, ↓o_isIB, ↓o_isSB, ↓o_isLB, ↓o_isTB, ↓o_isNB, ↓o_isNot, ↓o_lenL, ↓o_lenT, ↓o_lenS, ↓o_abs, ↓o_intI, ↓o_intB, ↓o_str, ↓o_gcd, ↓o_list, ↓o_listT, ↓o_tuple, ↓o_tupleT, ↓o_rev, ↓o_type, ↓o_isi, ↓o_isi2, ↓o_rg1, ↓o_rg2, ↓o_zip, ↓o_zipT, ↓o_itemsL, ↓o_itemsT, ↓o_ixL, ↓o_ixT, ↓o_at0, ↓o_at1, ↓o_at2, ↓o_at3, ↓o_at4, ↓o_at5, ↓o_at6, ↓o_at7, ↓o_at8, ↓o_at9, ↓o_at10, ↓o_at11, ↓o_at12, ↓o_at13, ↓o_at14, ↓o_at15, ↓w_eIxO, ↓t_tup1, ↓t_tup2, ↓t_tup3, ↓t_tup9, ↓w_okOnly, ↓w_compN, ↓w_compC, ↓o_all, ↓o_any, ↓bls_nil, ↓bls_cons, ↓o_minL, ↓o_maxL, ↓o_sumL, ↓ints_nil, ↓ints_cons, ↓o_min3, ↓o_max3, ↓o_slL, ↓o_slT, ↓w_eBor, ↓w_bBor, o_isN, w_runF, tyName, isSubTy, tyNames, List.getElem?_cons_zero, List.getElem?_cons_succ, List.set_cons_zero, List.set_cons_succ, List.map_cons, List.map_nil, List.replicate_succ, List.replicate_zero, List.length_cons, List.length_nil, List.cons_append, List.nil_append, Nat.reduceAdd, Nat.reduceSub, Nat.reduceLeDiff, Nat.reduceEqDiff, reduceIte, if_true, if_false, Bool.not_true, Bool.not_false, Bool.true_and, Bool.and_true, Bool.false_and, Bool.and_false, Bool.true_or, Bool.false_or, Bool.or_true, Bool.or_false, reduceCtorEq, decide_true, decide_false, beq_self_eq_true, List.mem_cons, true_or, or_true, true_and, and_true, false_and, and_false, or_false, false_or, String.reduceEq, String.reduceBEq, List.not_mem_nil, Bool.not_eq_true, Bool.false_eq_true, eq_self, not_true_eq_false, not_false_eq_true, Bool.not_eq_eq_eq_not, decide_eq_true_eq, decide_eq_false_iff_not, bne_iff_ne, ne_eq, Int.reduceLT, Int.reduceLE, Int.reduceMul, Int.reduceAdd, Int.reduceNeg, Int.reduceToNat, Int.reducePow, Nat.reduceLT, Int.reduceEq, Int.reduceSub, zipD, List.zipWith_cons_cons, List.zipWith_nil_left, List.zipWith_nil_right, List.all_cons, List.all_nil, id_eq, scalD, borE, wipeE, noOwn, sz_0, szl_0, sz_1, szl_1, sz_2, szl_2, sz_3, szl_3, sz_4, szl_4, sz_5, szl_5, sz_6, szl_6, sz_7, szl_7, sz_8, szl_8, sz_9, szl_9, sz_10, szl_10, sz_11, szl_11, sz_12, szl_12, sz_13, szl_13, sz_14, szl_14, sz_15, szl_15, sz_16, szl_16, sz_17, szl_17, sz_18, szl_18, sz_19, szl_19, sz_20, szl_20, sz_21, szl_21, sz_22, szl_22, sz_23, szl_23, sz_24, szl_24, sz_25, szl_25, sz_26, szl_26, sz_27, szl_27, sz_28, szl_28, sz_29, szl_29, sz_30, szl_30, sz_31, szl_31, sz_32, szl_32, frz, List.all_cons, List.all_nil]
theorem same_t0 (k : Nat) : m_is_same (k + 1) [.tup [], .tup []] = .ok (.bl true) := by apply wR_eq; simp only [m_is_same, g_is_same, ↓wR_ok, ↓wR_err, ↓wR_bind, ↓wR_of, ↓wO_some, ↓wO_map, ↓wO_bind, ↓w_var0, ↓w_varS, ↓w_eC, ↓w_e1, ↓w_l1, ↓w_e2, ↓w_l2, ↓w_b1, ↓w_b2, ↓w_eB, ↓w_eF, ↓w_lF, ↓w_eCall, ↓w_eLst, ↓w_aNil, ↓w_aCons, ↓w_eTup, ↓w_lDisp, ↓w_eIf, ↓w_bAnd, ↓w_bOr, ↓w_bNot, ↓w_bYes, ↓w_bChain, ↓w_eAnd, ↓w_eOr, ↓w_iAny, ↓w_oNone, ↓w_oSomeC, ↓w_eSl, ↓w_lSlG, ↓w_lComp, ↓w_sSeq, ↓w_sNil, ↓w_sBreak, ↓w_sCont, ↓w_sSet, ↓w_sSetL, ↓w_sExpr, ↓w_sRet, ↓w_sRetN, ↓w_sIf, ↓w_own0, ↓w_ownS, ↓w_sRetO, ↓w_sApp, ↓w_sSetIx, ↓w_sFrz, ↓w_sThen, ↓w_sRaise, ↓w_sAsg, ↓w_sFor, ↓w_sTry, ↓t_name, ↓t_nil, ↓t_cons, ↓o_plus, ↓o_plusL, ↓o_lAdd, ↓o_sub, ↓o_neg, ↓o_mul, ↓o_fdiv, ↓o_mod, ↓o_pow, ↓o_lt, ↓o_le, ↓o_gt, ↓o_ge, ↓o_eq, ↓o_ne, ↓o_truthB, ↓o_truthI, ↓o_truthN, ↓o_truthL, ↓o_truthT, ↓o_truthS, ↓o_notB, ↓o_isNN, ↓o_isBT, ↓o_isBF, ↓o_isT, ↓o_isIB, ↓o_isSB, ↓o_isLB, ↓o_isTB, ↓o_isNB, ↓o_isNot, ↓o_lenL, ↓o_lenT, ↓o_lenS, ↓o_abs, ↓o_intI, ↓o_intB, ↓o_str, ↓o_gcd, ↓o_list, ↓o_listT, ↓o_tuple, ↓o_tupleT, ↓o_rev, ↓o_type, ↓o_isi, ↓o_isi2, ↓o_rg1, ↓o_rg2, ↓o_zip, ↓o_zipT, ↓o_itemsL, ↓o_itemsT, ↓o_ixL, ↓o_ixT, ↓o_at0, ↓o_at1, ↓o_at2, ↓o_at3, ↓o_at4, ↓o_at5, ↓o_at6, ↓o_at7, ↓o_at8, ↓o_at9, ↓o_at10, ↓o_at11, ↓o_at12, ↓o_at13, ↓o_at14, ↓o_at15, ↓w_eIxO, ↓t_tup1, ↓t_tup2, ↓t_tup3, ↓t_tup9, ↓w_okOnly, ↓w_compN, ↓w_compC, ↓o_all, ↓o_any, ↓bls_nil, ↓bls_cons, ↓o_minL, ↓o_maxL, ↓o_sumL, ↓ints_nil, ↓ints_cons, ↓o_min3, ↓o_max3, ↓o_slL, ↓o_slT, ↓w_eBor, ↓w_bBor, o_isN, w_runF, tyName, isSubTy, tyNames, List.getElem?_cons_zero, List.getElem?_cons_succ, List.set_cons_zero, List.set_cons_succ, List.map_cons, List.map_nil, List.replicate_succ, List.replicate_zero, List.length_cons, List.length_nil, List.cons_append, List.nil_append, Nat.reduceAdd, Nat.reduceSub, Nat.reduceLeDiff, Nat.reduceEqDiff, reduceIte, if_true, if_false, Bool.not_true, Bool.not_false, Bool.true_and, Bool.and_true, Bool.false_and, Bool.and_false, Bool.true_or, Bool.false_or, Bool.or_true, Bool.or_false, reduceCtorEq, decide_true, decide_false, beq_self_eq_true, List.mem_cons, true_or, or_true, true_and, and_true, false_and, and_false, or_false, false_or, String.reduceEq, String.reduceBEq, List.not_mem_nil, Bool.not_eq_true, Bool.false_eq_true, eq_self, not_true_eq_false, not_false_eq_true, Bool.not_eq_eq_eq_not, decide_eq_true_eq, decide_eq_false_iff_not, bne_iff_ne, ne_eq, Int.reduceLT, Int.reduceLE, Int.reduceMul, Int.reduceAdd, Int.reduceNeg, Int.reduceToNat, Int.reducePow, Nat.reduceLT, Int.reduceEq, Int.reduceSub, zipD, List.zipWith_cons_cons, List.zipWith_nil_left, List.zipWith_nil_right, List.all_cons, List.all_nil, id_eq, scalD, borE, wipeE, noOwn, sz_0, szl_0, sz_1, szl_1, sz_2, szl_2, sz_3, szl_3, sz_4, szl_4, sz_5, szl_5, sz_6, szl_6, sz_7, szl_7, sz_8, szl_8, sz_9, szl_9, sz_10, szl_10, sz_11, szl_11, sz_12, szl_12, sz_13, szl_13, sz_14, szl_14, sz_15, szl_15, sz_16, szl_16, sz_17, szl_17, sz_18, szl_18, sz_19, szl_19, sz_20, szl_20, sz_21, szl_21, sz_22, szl_22, sz_23, szl_23, sz_24, szl_24, sz_25, szl_25, sz_26, szl_26, sz_27, szl_27, sz_28, szl_28, sz_29, szl_29, sz_30, szl_30, sz_31, szl_31, sz_32, szl_32, frz, List.all_cons, List.all_nil]
theorem same_l1 {k : Nat} {a b : D} {x : Bool} (h : m_is_same k [a, b] = .ok (.bl x)) : m_is_same (k + 1) [.lst [a], .lst [b]] = .ok (.bl x) := by apply wR_eq; simp only [m_is_same, g_is_same, ↓wR_ok, ↓wR_err, ↓wR_bind, ↓wR_of, ↓wO_some, ↓wO_map, ↓wO_bind, ↓w_var0, ↓w_varS, ↓w_eC, ↓w_e1, ↓w_l1, ↓w_e2, ↓w_l2, ↓w_b1, ↓w_b2, ↓w_eB, ↓w_eF, ↓w_lF, ↓w_eCall, ↓w_eLst, ↓w_aNil, ↓w_aCons, ↓w_eTup, ↓w_lDisp, ↓w_eIf, ↓w_bAnd, ↓w_bOr, ↓w_bNot, ↓w_bYes, ↓w_bChain, ↓w_eAnd, ↓w_eOr, ↓w_iAny, ↓w_oNone, ↓w_oSomeC, ↓w_eSl, ↓w_lSlG, ↓w_lComp, ↓w_sSeq, ↓w_sNil, ↓w_sBreak, ↓w_sCont, ↓w_sSet, ↓w_sSetL, ↓w_sExpr, ↓w_sRet, ↓w_sRetN, ↓w_sIf, ↓w_own0, ↓w_ownS, ↓w_sRetO, ↓w_sApp, ↓w_sSetIx, ↓w_sFrz, ↓w_sThen, ↓w_sRaise, ↓w_sAsg, ↓w_sFor, ↓w_sTry, ↓t_name, ↓t_nil, ↓t_cons, ↓o_plus, ↓o_plusL, ↓o_lAdd, ↓o_sub, ↓o_neg, ↓o_mul, ↓o_fdiv, ↓o_mod, ↓o_pow, ↓o_lt, ↓o_le, ↓o_gt, ↓o_ge, ↓o_eq, ↓o_ne, ↓o_truthB, ↓o_truthI, ↓o_truthN, ↓o_truthL, ↓o_truthT, ↓o_truthS, ↓o_notB, ↓o_isNN, ↓o_isBT, ↓o_isBF, ↓o_isT, ↓o_isIB, ↓o_isSB, ↓o_isLB, ↓o_isTB, ↓o_isNB, ↓o_isNot, ↓o_lenL, ↓o_lenT, ↓o_lenS, ↓o_abs, ↓o_intI, ↓o_intB, ↓o_str, ↓o_gcd, ↓o_list, ↓o_listT, ↓o_tuple, ↓o_tupleT, ↓o_rev, ↓o_type, ↓o_isi, ↓o_isi2, ↓o_rg1, ↓o_rg2, ↓o_zip, ↓o_zipT, ↓o_itemsL, ↓o_itemsT, ↓o_ixL, ↓o_ixT, ↓o_at0, ↓o_at1, ↓o_at2, ↓o_at3, ↓o_at4, ↓o_at5, ↓o_at6, ↓o_at7, ↓o_at8, ↓o_at9, ↓o_at10, ↓o_at11, ↓o_at12, ↓o_at13, ↓o_at14, ↓o_at15, ↓w_eIxO, ↓t_tup1, ↓t_tup2, ↓t_tup3, ↓t_tup9, ↓w_okOnly, ↓w_compN, ↓w_compC, ↓o_all, ↓o_any, ↓bls_nil, ↓bls_cons, ↓o_minL, ↓o_maxL, ↓o_sumL, ↓ints_nil, ↓ints_cons, ↓o_min3, ↓o_max3, ↓o_slL, ↓o_slT, ↓w_eBor, ↓w_bBor, o_isN, w_runF, tyName, isSubTy, tyNames, List.getElem?_cons_zero, List.getElem?_cons_succ, List.set_cons_zero, List.set_cons_succ, List.map_cons, List.map_nil, List.replicate_succ, List.replicate_zero, List.length_cons, List.length_nil, List.cons_append, List.nil_append, Nat.reduceAdd, Nat.reduceSub, Nat.reduceLeDiff, Nat.reduceEqDiff, reduceIte, if_true, if_false, Bool.not_true, Bool.not_false, Bool.true_and, Bool.and_true, Bool.false_and, Bool.and_false, Bool.true_or, Bool.false_or, Bool.or_true, Bool.or_false, reduceCtorEq, decide_true, decide_false, beq_self_eq_true, List.mem_cons, true_or, or_true, true_and, and_true, false_and, and_false, or_false, false_or, String.reduceEq, String.reduceBEq, List.not_mem_nil, Bool.not_eq_true, Bool.false_eq_true, eq_self, not_true_eq_false, not_false_eq_true, Bool.not_eq_eq_eq_not, decide_eq_true_eq, decide_eq_false_iff_not, bne_iff_ne, ne_eq, Int.reduceLT, Int.reduceLE, Int.reduceMul, Int.reduceAdd, Int.reduceNeg, Int.reduceToNat, Int.reducePow, Nat.reduceLT, Int.reduceEq, Int.reduceSub, zipD, List.zipWith_cons_cons, List.zipWith_nil_left, List.zipWith_nil_right, List.all_cons, List.all_nil, id_eq, scalD, borE, wipeE, noOwn, sz_0, szl_0, sz_1, szl_1, sz_2, szl_2, sz_3, szl_3, sz_4, szl_4, sz_5, szl_5, sz_6, szl_6, sz_7, szl_7, sz_8, szl_8, sz_9, szl_9, sz_10, szl_10, sz_11, szl_11, sz_12, szl_12, sz_13, szl_13, sz_14, szl_14, sz_15, szl_15, sz_16, szl_16, sz_17, szl_17, sz_18, szl_18, sz_19, szl_19, sz_20, szl_20, sz_21, szl_21, sz_22, szl_22, sz_23, szl_23, sz_24, szl_24, sz_25, szl_25, sz_26, szl_26, sz_27, szl_27, sz_28, szl_28, sz_29, szl_29, sz_30, szl_30, sz_31, szl_31, sz_32, szl_32, frz, List.all_cons, List.all_nil, h]
theorem same_t1 {k : Nat} {a b : D} {x : Bool} (h : m_is_same k [a, b] = .ok (.bl x)) : m_is_same (k + 1) [.tup [a], .tup [b]] = .ok (.bl x) := by apply wR_eq; simp only [m_is_same, g_is_same, ↓wR_ok, ↓wR_err, ↓wR_bind, ↓wR_of, ↓wO_some, ↓wO_map, ↓wO_bind, ↓w_var0, ↓w_varS, ↓w_eC, ↓w_e1, ↓w_l1, ↓w_e2, ↓w_l2, ↓w_b1, ↓w_b2, ↓w_eB, ↓w_eF, ↓w_lF, ↓w_eCall, ↓w_eLst, ↓w_aNil, ↓w_aCons, ↓w_eTup, ↓w_lDisp, ↓w_eIf, ↓w_bAnd, ↓w_bOr, ↓w_bNot, ↓w_bYes, ↓w_bChain, ↓w_eAnd, ↓w_eOr, ↓w_iAny, ↓w_oNone, ↓w_oSomeC, ↓w_eSl, ↓w_lSlG, ↓w_lComp, ↓w_sSeq, ↓w_sNil, ↓w_sBreak, ↓w_sCont, ↓w_sSet, ↓w_sSetL, ↓w_sExpr, ↓w_sRet, ↓w_sRetN, ↓w_sIf, ↓w_own0, ↓w_ownS, ↓w_sRetO, ↓w_sApp, ↓w_sSetIx, ↓w_sFrz, ↓w_sThen, ↓w_sRaise, ↓w_sAsg, ↓w_sFor, ↓w_sTry, ↓t_name, ↓t_nil, ↓t_cons, ↓o_plus, ↓o_plusL, ↓o_lAdd, ↓o_sub, ↓o_neg, ↓o_mul, ↓o_fdiv, ↓o_mod, ↓o_pow, ↓o_lt, ↓o_le, ↓o_gt, ↓o_ge, ↓o_eq, ↓o_ne, ↓o_truthB, ↓o_truthI, ↓o_truthN, ↓o_truthL, ↓o_truthT, ↓o_truthS, ↓o_notB, ↓o_isNN, ↓o_isBT, ↓o_isBF, ↓o_isT, ↓o_isIB, ↓o_isSB, ↓o_isLB, ↓o_isTB, ↓o_isNB, ↓o_isNot, ↓o_lenL, ↓o_lenT, ↓o_lenS, ↓o_abs, ↓o_intI, ↓o_intB, ↓o_str, ↓o_gcd, ↓o_list, ↓o_listT, ↓o_tuple, ↓o_tupleT, ↓o_rev, ↓o_type, ↓o_isi, ↓o_isi2, ↓o_rg1, ↓o_rg2, ↓o_zip, ↓o_zipT, ↓o_itemsL, ↓o_itemsT, ↓o_ixL, ↓o_ixT, ↓o_at0, ↓o_at1, ↓o_at2, ↓o_at3, ↓o_at4, ↓o_at5, ↓o_at6, ↓o_at7, ↓o_at8, ↓o_at9, ↓o_at10, ↓o_at11, ↓o_at12, ↓o_at13, ↓o_at14, ↓o_at15, ↓w_eIxO, ↓t_tup1, ↓t_tup2, ↓t_tup3, ↓t_tup9, ↓w_okOnly, ↓w_compN, ↓w_compC, ↓o_all, ↓o_any, ↓bls_nil, ↓bls_cons, ↓o_minL, ↓o_maxL, ↓o_sumL, ↓ints_nil, ↓ints_cons, ↓o_min3, ↓o_max3, ↓o_slL, ↓o_slT, ↓w_eBor, ↓w_bBor, o_isN, w_runF, tyName, isSubTy, tyNames, List.getElem?_cons_zero, List.getElem?_cons_succ, List.set_cons_zero, List.set_cons_succ, List.map_cons, List.map_nil, List.replicate_succ, List.replicate_zero, List.length_cons, List.length_nil, List.cons_append, List.nil_append, Nat.reduceAdd, Nat.reduceSub, Nat.reduceLeDiff, Nat.reduceEqDiff, reduceIte, if_true, if_false, Bool.not_true, Bool.not_false, Bool.true_and, Bool.and_true, Bool.false_and, Bool.and_false, Bool.true_or, Bool.false_or, Bool.or_true, Bool.or_false, reduceCtorEq, decide_true, decide_false, beq_self_eq_true, List.mem_cons, true_or, or_true, true_and, and_true, false_and, and_false, or_false, false_or, String.reduceEq, String.reduceBEq, List.not_mem_nil, Bool.not_eq_true, Bool.false_eq_true, eq_self, not_true_eq_false, not_false_eq_true, Bool.not_eq_eq_eq_not, decide_eq_true_eq, decide_eq_false_iff_not, bne_iff_ne, ne_eq, Int.reduceLT, Int.reduceLE, Int.reduceMul, Int.reduceAdd, Int.reduceNeg, Int.reduceToNat, Int.reducePow, Nat.reduceLT, Int.reduceEq, Int.reduceSub, zipD, List.zipWith_cons_cons, List.zipWith_nil_left, List.zipWith_nil_right, List.all_cons, List.all_nil, id_eq, scalD, borE, wipeE, noOwn, sz_0, szl_0, sz_1, szl_1, sz_2, szl_2, sz_3, szl_3, sz_4, szl_4, sz_5, szl_5, sz_6, szl_6, sz_7, szl_7, sz_8, szl_8, sz_9, szl_9, sz_10, szl_10, sz_11, szl_11, sz_12, szl_12, sz_13, szl_13, sz_14, szl_14, sz_15, szl_15, sz_16, szl_16, sz_17, szl_17, sz_18, szl_18, sz_19, szl_19, sz_20, szl_20, sz_21, szl_21, sz_22, szl_22, sz_23, szl_23, sz_24, szl_24, sz_25, szl_25, sz_26, szl_26, sz_27, szl_27, sz_28, szl_28, sz_29, szl_29, sz_30, szl_30, sz_31, szl_31, sz_32, szl_32, frz, List.all_cons, List.all_nil, h]
theorem same_l2 {k : Nat} {a b c d : D} {x y z : Bool} (h : m_is_same k [a, b] = .ok (.bl x)) (h2 : m_is_same k [c, d] = .ok (.bl y)) (hz : z = (x && y)) : m_is_same (k + 1) [.lst [a, c], .lst [b, d]] = .ok (.bl z) := by apply wR_eq; simp only [m_is_same, g_is_same, ↓wR_ok, ↓wR_err, ↓wR_bind, ↓wR_of, ↓wO_some, ↓wO_map, ↓wO_bind, ↓w_var0, ↓w_varS, ↓w_eC, ↓w_e1, ↓w_l1, ↓w_e2, ↓w_l2, ↓w_b1, ↓w_b2, ↓w_eB, ↓w_eF, ↓w_lF, ↓w_eCall, ↓w_eLst, ↓w_aNil, ↓w_aCons, ↓w_eTup, ↓w_lDisp, ↓w_eIf, ↓w_bAnd, ↓w_bOr, ↓w_bNot, ↓w_bYes, ↓w_bChain, ↓w_eAnd, ↓w_eOr, ↓w_iAny, ↓w_oNone, ↓w_oSomeC, ↓w_eSl, ↓w_lSlG, ↓w_lComp, ↓w_sSeq, ↓w_sNil, ↓w_sBreak, ↓w_sCont, ↓w_sSet, ↓w_sSetL, ↓w_sExpr, ↓w_sRet, ↓w_sRetN, ↓w_sIf, ↓w_own0, ↓w_ownS, ↓w_sRetO, ↓w_sApp, ↓w_sSetIx, ↓w_sFrz, ↓w_sThen, ↓w_sRaise, ↓w_sAsg, ↓w_sFor, ↓w_sTry, ↓t_name, ↓t_nil, ↓t_cons, ↓o_plus, ↓o_plusL, ↓o_lAdd, ↓o_sub, ↓o_neg, ↓o_mul, ↓o_fdiv, ↓o_mod, ↓o_pow, ↓o_lt, ↓o_le, ↓o_gt, ↓o_ge, ↓o_eq, ↓o_ne, ↓o_truthB, ↓o_truthI, ↓o_truthN, ↓o_truthL, ↓o_truthT, ↓o_truthS, ↓o_notB, ↓o_isNN, ↓o_isBT, ↓o_isBF, ↓o_isT, ↓o_isIB, ↓o_isSB, ↓o_isLB, ↓o_isTB, ↓o_isNB, ↓o_isNot, ↓o_lenL, ↓o_lenT, ↓o_lenS, ↓o_abs, ↓o_intI, ↓o_intB, ↓o_str, ↓o_gcd, ↓o_list, ↓o_listT, ↓o_tuple, ↓o_tupleT, ↓o_rev, ↓o_type, ↓o_isi, ↓o_isi2, ↓o_rg1, ↓o_rg2, ↓o_zip, ↓o_zipT, ↓o_itemsL, ↓o_itemsT, ↓o_ixL, ↓o_ixT, ↓o_at0, ↓o_at1, ↓o_at2, ↓o_at3, ↓o_at4, ↓o_at5, ↓o_at6, ↓o_at7, ↓o_at8, ↓o_at9, ↓o_at10, ↓o_at11, ↓o_at12, ↓o_at13, ↓o_at14, ↓o_at15, ↓w_eIxO, ↓t_tup1, ↓t_tup2, ↓t_tup3, ↓t_tup9, ↓w_okOnly, ↓w_compN, ↓w_compC, ↓o_all, ↓o_any, ↓bls_nil, ↓bls_cons, ↓o_minL, ↓o_maxL, ↓o_sumL, ↓ints_nil, ↓ints_cons, ↓o_min3, ↓o_max3, ↓o_slL, ↓o_slT, ↓w_eBor, ↓w_bBor, o_isN, w_runF, tyName, isSubTy, tyNames, List.getElem?_cons_zero, List.getElem?_cons_succ, List.set_cons_zero, List.set_cons_succ, List.map_cons, List.map_nil, List.replicate_succ, List.replicate_zero, List.length_cons, List.length_nil, List.cons_append, List.nil_append, Nat.reduceAdd, Nat.reduceSub, Nat.reduceLeDiff, Nat.reduceEqDiff, reduceIte, if_true, if_false, Bool.not_true, Bool.not_false, Bool.true_and, Bool.and_true, Bool.false_and, Bool.and_false, Bool.true_or, Bool.false_or, Bool.or_true, Bool.or_false, reduceCtorEq, decide_true, decide_false, beq_self_eq_true, List.mem_cons, true_or, or_true, true_and, and_true, false_and, and_false, or_false, false_or, String.reduceEq, String.reduceBEq, List.not_mem_nil, Bool.not_eq_true, Bool.false_eq_true, eq_self, not_true_eq_false, not_false_eq_true, Bool.not_eq_eq_eq_not, decide_eq_true_eq, decide_eq_false_iff_not, bne_iff_ne, ne_eq, Int.reduceLT, Int.reduceLE, Int.reduceMul, Int.reduceAdd, Int.reduceNeg, Int.reduceToNat, Int.reducePow, Nat.reduceLT, Int.reduceEq, Int.reduceSub, zipD, List.zipWith_cons_cons, List.zipWith_nil_left, List.zipWith_nil_right, List.all_cons, List.all_nil, id_eq, scalD, borE, wipeE, noOwn, sz_0, szl_0, sz_1, szl_1, sz_2, szl_2, sz_3, szl_3, sz_4, szl_4, sz_5, szl_5, sz_6, szl_6, sz_7, szl_7, sz_8, szl_8, sz_9, szl_9, sz_10, szl_10, sz_11, szl_11, sz_12, szl_12, sz_13, szl_13, sz_14, szl_14, sz_15, szl_15, sz_16, szl_16, sz_17, szl_17, sz_18, szl_18, sz_19, szl_19, sz_20, szl_20, sz_21, szl_21, sz_22, szl_22, sz_23, szl_23, sz_24, szl_24, sz_25, szl_25, sz_26, szl_26, sz_27, szl_27, sz_28, szl_28, sz_29, szl_29, sz_30, szl_30, sz_31, szl_31, sz_32, szl_32, frz, List.all_cons, List.all_nil, h, h2, hz]
theorem same_t2 {k : Nat} {a b c d : D} {x y z : Bool} (h : m_is_same k [a, b] = .ok (.bl x)) (h2 : m_is_same k [c, d] = .ok (.bl y)) (hz : z = (x && y)) : m_is_same (k + 1) [.tup [a, c], .tup [b, d]] = .ok (.bl z) := by apply wR_eq; simp only [m_is_same, g_is_same, ↓wR_ok, ↓wR_err, ↓wR_bind, ↓wR_of, ↓wO_some, ↓wO_map, ↓wO_bind, ↓w_var0, ↓w_varS, ↓w_eC, ↓w_e1, ↓w_l1, ↓w_e2, ↓w_l2, ↓w_b1, ↓w_b2, ↓w_eB, ↓w_eF, ↓w_lF, ↓w_eCall, ↓w_eLst, ↓w_aNil, ↓w_aCons, ↓w_eTup, ↓w_lDisp, ↓w_eIf, ↓w_bAnd, ↓w_bOr, ↓w_bNot, ↓w_bYes, ↓w_bChain, ↓w_eAnd, ↓w_eOr, ↓w_iAny, ↓w_oNone, ↓w_oSomeC, ↓w_eSl, ↓w_lSlG, ↓w_lComp, ↓w_sSeq, ↓w_sNil, ↓w_sBreak, ↓w_sCont, ↓w_sSet, ↓w_sSetL, ↓w_sExpr, ↓w_sRet, ↓w_sRetN, ↓w_sIf, ↓w_own0, ↓w_ownS, ↓w_sRetO, ↓w_sApp, ↓w_sSetIx, ↓w_sFrz, ↓w_sThen, ↓w_sRaise, ↓w_sAsg, ↓w_sFor, ↓w_sTry, ↓t_name, ↓t_nil, ↓t_cons, ↓o_plus, ↓o_plusL, ↓o_lAdd, ↓o_sub, ↓o_neg, ↓o_mul, ↓o_fdiv, ↓o_mod, ↓o_pow, ↓o_lt, ↓o_le, ↓o_gt, ↓o_ge, ↓o_eq, ↓o_ne, ↓o_truthB, ↓o_truthI, ↓o_truthN, ↓o_truthL, ↓o_truthT, ↓o_truthS, ↓o_notB, ↓o_isNN, ↓o_isBT, ↓o_isBF, ↓o_isT, ↓o_isIB, ↓o_isSB, ↓o_isLB, ↓o_isTB, ↓o_isNB, ↓o_isNot, ↓o_lenL, ↓o_lenT, ↓o_lenS, ↓o_abs, ↓o_intI, ↓o_intB, ↓o_str, ↓o_gcd, ↓o_list, ↓o_listT, ↓o_tuple, ↓o_tupleT, ↓o_rev, ↓o_type, ↓o_isi, ↓o_isi2, ↓o_rg1, ↓o_rg2, ↓o_zip, ↓o_zipT, ↓o_itemsL, ↓o_itemsT, ↓o_ixL, ↓o_ixT, ↓o_at0, ↓o_at1, ↓o_at2, ↓o_at3, ↓o_at4, ↓o_at5, ↓o_at6, ↓o_at7, ↓o_at8, ↓o_at9, ↓o_at10, ↓o_at11, ↓o_at12, ↓o_at13, ↓o_at14, ↓o_at15, ↓w_eIxO, ↓t_tup1, ↓t_tup2, ↓t_tup3, ↓t_tup9, ↓w_okOnly, ↓w_compN, ↓w_compC, ↓o_all, ↓o_any, ↓bls_nil, ↓bls_cons, ↓o_minL, ↓o_maxL, ↓o_sumL, ↓ints_nil, ↓ints_cons, ↓o_min3, ↓o_max3, ↓o_slL, ↓o_slT, ↓w_eBor, ↓w_bBor, o_isN, w_runF, tyName, isSubTy, tyNames, List.getElem?_cons_zero, List.getElem?_cons_succ, List.set_cons_zero, List.set_cons_succ, List.map_cons, List.map_nil, List.replicate_succ, List.replicate_zero, List.length_cons, List.length_nil, List.cons_append, List.nil_append, Nat.reduceAdd, Nat.reduceSub, Nat.reduceLeDiff, Nat.reduceEqDiff, reduceIte, if_true, if_false, Bool.not_true, Bool.not_false, Bool.true_and, Bool.and_true, Bool.false_and, Bool.and_false, Bool.true_or, Bool.false_or, Bool.or_true, Bool.or_false, reduceCtorEq, decide_true, decide_false, beq_self_eq_true, List.mem_cons, true_or, or_true, true_and, and_true, false_and, and_false, or_false, false_or, String.reduceEq, String.reduceBEq, List.not_mem_nil, Bool.not_eq_true, Bool.false_eq_true, eq_self, not_true_eq_false, not_false_eq_true, Bool.not_eq_eq_eq_not, decide_eq_true_eq, decide_eq_false_iff_not, bne_iff_ne, ne_eq, Int.reduceLT, Int.reduceLE, Int.reduceMul, Int.reduceAdd, Int.reduceNeg, Int.reduceToNat, Int.reducePow, Nat.reduceLT, Int.reduceEq, Int.reduceSub, zipD, List.zipWith_cons_cons, List.zipWith_nil_left, List.zipWith_nil_right, List.all_cons, List.all_nil, id_eq, scalD, borE, wipeE, noOwn, sz_0, szl_0, sz_1, szl_1, sz_2, szl_2, sz_3, szl_3, sz_4, szl_4, sz_5, szl_5, sz_6, szl_6, sz_7, szl_7, sz_8, szl_8, sz_9, szl_9, sz_10, szl_10, sz_11, szl_11, sz_12, szl_12, sz_13, szl_13, sz_14, szl_14, sz_15, szl_15, sz_16, szl_16, sz_17, szl_17, sz_18, szl_18, sz_19, szl_19, sz_20, szl_20, sz_21, szl_21, sz_22, szl_22, sz_23, szl_23, sz_24, szl_24, sz_25, szl_25, sz_26, szl_26, sz_27, szl_27, sz_28, szl_28, sz_29, szl_29, sz_30, szl_30, sz_31, szl_31, sz_32, szl_32, frz, List.all_cons, List.all_nil, h, h2, hz]
theorem same_ll (k : Nat) (xs ys : List D) (h : xs.length ≠ ys.length) : m_is_same (k + 1) [.lst xs, .lst ys] = .ok (.bl false) := by
  apply wR_eq
  have : ¬ (xs.length : Int) = (ys.length : Int) := by omega
  simp only [m_is_same, g_is_same, ↓wR_ok, ↓wR_err, ↓wR_bind, ↓wR_of, ↓wO_some, ↓wO_map, ↓wO_bind, ↓w_var0, ↓w_varS, ↓w_eC, ↓w_e1, ↓w_l1, ↓w_e2, ↓w_l2, ↓w_b1, ↓w_b2, ↓w_eB, ↓w_eF, ↓w_lF, ↓w_eCall, ↓w_eLst, ↓w_aNil, ↓w_aCons, ↓w_eTup, ↓w_lDisp, ↓w_eIf, ↓w_bAnd, ↓w_bOr, ↓w_bNot, ↓w_bYes, ↓w_bChain, ↓w_eAnd, ↓w_eOr, ↓w_iAny, ↓w_oNone, ↓w_oSomeC, ↓w_eSl, ↓w_lSlG, ↓w_lComp, ↓w_sSeq, ↓w_sNil, ↓w_sBreak, ↓w_sCont, ↓w_sSet, ↓w_sSetL, ↓w_sExpr, ↓w_sRet, ↓w_sRetN, ↓w_sIf, ↓w_own0, ↓w_ownS, ↓w_sRetO, ↓w_sApp, ↓w_sSetIx, ↓w_sFrz, ↓w_sThen, ↓w_sRaise, ↓w_sAsg, ↓w_sFor, ↓w_sTry, ↓t_name, ↓t_nil, ↓t_cons, ↓o_plus, ↓o_plusL, ↓o_lAdd, ↓o_sub, ↓o_neg, ↓o_mul, ↓o_fdiv, ↓o_mod, ↓o_pow, ↓o_lt, ↓o_le, ↓o_gt, ↓o_ge, ↓o_eq, ↓o_ne, ↓o_truthB, ↓o_truthI, ↓o_truthN, ↓o_truthL, ↓o_truthT, ↓o_truthS, ↓o_notB, ↓o_isNN, ↓o_isBT, ↓o_isBF, ↓o_isT, ↓o_isIB, ↓o_isSB, ↓o_isLB, ↓o_isTB, ↓o_isNB, ↓o_isNot, ↓o_lenL, ↓o_lenT, ↓o_lenS, ↓o_abs, ↓o_intI, ↓o_intB, ↓o_str, ↓o_gcd, ↓o_list, ↓o_listT, ↓o_tuple, ↓o_tupleT, ↓o_rev, ↓o_type, ↓o_isi, ↓o_isi2, ↓o_rg1, ↓o_rg2, ↓o_zip, ↓o_zipT, ↓o_itemsL, ↓o_itemsT, ↓o_ixL, ↓o_ixT, ↓o_at0, ↓o_at1, ↓o_at2, ↓o_at3, ↓o_at4, ↓o_at5, ↓o_at6, ↓o_at7, ↓o_at8, ↓o_at9, ↓o_at10, ↓o_at11, ↓o_at12, ↓o_at13, ↓o_at14, ↓o_at15, ↓w_eIxO, ↓t_tup1, ↓t_tup2, ↓t_tup3, ↓t_tup9, ↓w_okOnly, ↓w_compN, ↓w_compC, ↓o_all, ↓o_any, ↓bls_nil, ↓bls_cons, ↓o_minL, ↓o_maxL, ↓o_sumL, ↓ints_nil, ↓ints_cons, ↓o_min3, ↓o_max3, ↓o_slL, ↓o_slT, ↓w_eBor, ↓w_bBor, o_isN, w_runF, tyName, isSubTy, tyNames, List.getElem?_cons_zero, List.getElem?_cons_succ, List.set_cons_zero, List.set_cons_succ, List.map_cons, List.map_nil, List.replicate_succ, List.replicate_zero, List.length_cons, List.length_nil, List.cons_append, List.nil_append, Nat.reduceAdd, Nat.reduceSub, Nat.reduceLeDiff, Nat.reduceEqDiff, reduceIte, if_true, if_false, Bool.not_true, Bool.not_false, Bool.true_and, Bool.and_true, Bool.false_and, Bool.and_false, Bool.true_or, Bool.false_or, Bool.or_true, Bool.or_false, reduceCtorEq, decide_true, decide_false, beq_self_eq_true, List.mem_cons, true_or, or_true, true_and, and_true, false_and, and_false, or_false, false_or, String.reduceEq, String.reduceBEq, List.not_mem_nil, Bool.not_eq_true, Bool.false_eq_true, eq_self, not_true_eq_false, not_false_eq_true, Bool.not_eq_eq_eq_not, decide_eq_true_eq, decide_eq_false_iff_not, bne_iff_ne, ne_eq, Int.reduceLT, Int.reduceLE, Int.reduceMul, Int.reduceAdd, Int.reduceNeg, Int.reduceToNat, Int.reducePow, Nat.reduceLT, Int.reduceEq, Int.reduceSub, zipD, List.zipWith_cons_cons, List.zipWith_nil_left, List.zipWith_nil_right, List.all_cons, List.all_nil, id_eq, scalD, borE, wipeE, noOwn, sz_0, szl_0, sz_1, szl_1, sz_2, szl_2, sz_3, szl_3, sz_4, szl_4, sz_5, szl_5, sz_6, szl_6, sz_7, szl_7, sz_8, szl_8, sz_9, szl_9, sz_10, szl_10, sz_11, szl_11, sz_12, szl_12, sz_13, szl_13, sz_14, szl_14, sz_15, szl_15, sz_16, szl_16, sz_17, szl_17, sz_18, szl_18, sz_19, szl_19, sz_20, szl_20, sz_21, szl_21, sz_22, szl_22, sz_23, szl_23, sz_24, szl_24, sz_25, szl_25, sz_26, szl_26, sz_27, szl_27, sz_28, szl_28, sz_29, szl_29, sz_30, szl_30, sz_31, szl_31, sz_32, szl_32, frz, List.all_cons, List.all_nil, this]
/-! ### lists of wholes -/
theorem wholes_no (d : D) (lo hi : Int) (n : String) (h : tyName d = some n) (hn : (n == "list") = false) : m_are_wholes [d, .int lo, .int hi] = .ok (.bl false) := by
  apply wR_eq
  cases d <;> cases h <;> first | (cases hn; done) | simp only [m_are_wholes, g_are_wholes, ↓wR_ok, ↓wR_err, ↓wR_bind, ↓wR_of, ↓wO_some, ↓wO_map, ↓wO_bind, ↓w_var0, ↓w_varS, ↓w_eC, ↓w_e1, ↓w_l1, ↓w_e2, ↓w_l2, ↓w_b1, ↓w_b2, ↓w_eB, ↓w_eF, ↓w_lF, ↓w_eCall, ↓w_eLst, ↓w_aNil, ↓w_aCons, ↓w_eTup, ↓w_lDisp, ↓w_eIf, ↓w_bAnd, ↓w_bOr, ↓w_bNot, ↓w_bYes, ↓w_bChain, ↓w_eAnd, ↓w_eOr, ↓w_iAny, ↓w_oNone, ↓w_oSomeC, ↓w_eSl, ↓w_lSlG, ↓w_lComp, ↓w_sSeq, ↓w_sNil, ↓w_sBreak, ↓w_sCont, ↓w_sSet, ↓w_sSetL, ↓w_sExpr, ↓w_sRet, ↓w_sRetN, ↓w_sIf, ↓w_own0, ↓w_ownS, ↓w_sRetO, ↓w_sApp, ↓w_sSetIx, ↓w_sFrz, ↓w_sThen, ↓w_sRaise, ↓w_sAsg, ↓w_sFor, ↓w_sTry, ↓t_name, ↓t_nil, ↓t_cons, ↓o_plus, ↓o_plusL, ↓o_lAdd, ↓o_sub, ↓o_neg, ↓o_mul, ↓o_fdiv, ↓o_mod, ↓o_pow, ↓o_lt, ↓o_le, ↓o_gt, ↓o_ge, ↓o_eq, ↓o_ne, ↓o_truthB, ↓o_truthI, ↓o_truthN, ↓o_truthL, ↓o_truthT, ↓o_truthS, ↓o_notB, ↓o_isNN, ↓o_isBT, ↓o_isBF, ↓o_isT, ↓o_isIB, ↓o_isSB, ↓o_isLB, ↓o_isTB, ↓o_isNB, ↓o_isNot, ↓o_lenL, ↓o_lenT, ↓o_lenS, ↓o_abs, ↓o_intI, ↓o_intB, ↓o_str, ↓o_gcd, ↓o_list, ↓o_listT, ↓o_tuple, ↓o_tupleT, ↓o_rev, ↓o_type, ↓o_isi, ↓o_isi2, ↓o_rg1, ↓o_rg2, ↓o_zip, ↓o_zipT, ↓o_itemsL, ↓o_itemsT, ↓o_ixL, ↓o_ixT, ↓o_at0, ↓o_at1, ↓o_at2, ↓o_at3, ↓o_at4, ↓o_at5, ↓o_at6, ↓o_at7, ↓o_at8, ↓o_at9, ↓o_at10, ↓o_at11, ↓o_at12, ↓o_at13, ↓o_at14, ↓o_at15, ↓w_eIxO, ↓t_tup1, ↓t_tup2, ↓t_tup3, ↓t_tup9, ↓w_okOnly, ↓w_compN, ↓w_compC, ↓o_all, ↓o_any, ↓bls_nil, ↓bls_cons, ↓o_minL, ↓o_maxL, ↓o_sumL, ↓ints_nil, ↓ints_cons, ↓o_min3, ↓o_max3, ↓o_slL, ↓o_slT, ↓w_eBor, ↓w_bBor, o_isN, w_runF, tyName, isSubTy, tyNames, List.getElem?_cons_zero, List.getElem?_cons_succ, List.set_cons_zero, List.set_cons_succ, List.map_cons, List.map_nil, List.replicate_succ, List.replicate_zero, List.length_cons, List.length_nil, List.cons_append, List.nil_append, Nat.reduceAdd, Nat.reduceSub, Nat.reduceLeDiff, Nat.reduceEqDiff, reduceIte, if_true, if_false, Bool.not_true, Bool.not_false, Bool.true_and, Bool.and_true, Bool.false_and, Bool.and_false, Bool.true_or, Bool.false_or, Bool.or_true, Bool.or_false, reduceCtorEq, decide_true, decide_false, beq_self_eq_true, List.mem_cons, true_or, or_true, true_and, and_true, false_and, and_false, or_false, false_or, String.reduceEq, String.reduceBEq, List.not_mem_nil, Bool.not_eq_true, Bool.false_eq_true, eq_self, not_true_eq_false, not_false_eq_true, Bool.not_eq_eq_eq_not, decide_eq_true_eq, decide_eq_false_iff_not, bne_iff_ne, ne_eq, Int.reduceLT, Int.reduceLE, Int.reduceMul, Int.reduceAdd, Int.reduceNeg, Int.reduceToNat, Int.reducePow, Nat.reduceLT, Int.reduceEq, Int.reduceSub, zipD, List.zipWith_cons_cons, List.zipWith_nil_left, List.zipWith_nil_right, List.all_cons, List.all_nil, id_eq, scalD, borE, wipeE, noOwn, sz_0, szl_0, sz_1, szl_1, sz_2, szl_2, sz_3, szl_3, sz_4, szl_4, sz_5, szl_5, sz_6, szl_6, sz_7, szl_7, sz_8, szl_8, sz_9, szl_9, sz_10, szl_10, sz_11, szl_11, sz_12, szl_12, sz_13, szl_13, sz_14, szl_14, sz_15, szl_15, sz_16, szl_16, sz_17, szl_17, sz_18, szl_18, sz_19, szl_19, sz_20, szl_20, sz_21, szl_21, sz_22, szl_22, sz_23, szl_23, sz_24, szl_24, sz_25, szl_25, sz_26, szl_26, sz_27, szl_27, sz_28, szl_28, sz_29, szl_29, sz_30, szl_30, sz_31, szl_31, sz_32, szl_32, frz, List.all_cons, List.all_nil]
theorem wholes_0 (lo hi : Int) : m_are_wholes [.lst [], .int lo, .int hi] = .ok (.bl true) := by
  apply wR_eq
  simp only [m_are_wholes, g_are_wholes, ↓wR_ok, ↓wR_err, ↓wR_bind, ↓wR_of, ↓wO_some, ↓wO_map, ↓wO_bind, ↓w_var0, ↓w_varS, ↓w_eC, ↓w_e1, ↓w_l1, ↓w_e2, ↓w_l2, ↓w_b1, ↓w_b2, ↓w_eB, ↓w_eF, ↓w_lF, ↓w_eCall, ↓w_eLst, ↓w_aNil, ↓w_aCons, ↓w_eTup, ↓w_lDisp, ↓w_eIf, ↓w_bAnd, ↓w_bOr, ↓w_bNot, ↓w_bYes, ↓w_bChain, ↓w_eAnd, ↓w_eOr, ↓w_iAny, ↓w_oNone, ↓w_oSomeC, ↓w_eSl, ↓w_lSlG, ↓w_lComp, ↓w_sSeq, ↓w_sNil, ↓w_sBreak, ↓w_sCont, ↓w_sSet, ↓w_sSetL, ↓w_sExpr, ↓w_sRet, ↓w_sRetN, ↓w_sIf, ↓w_own0, ↓w_ownS, ↓w_sRetO, ↓w_sApp, ↓w_sSetIx, ↓w_sFrz, ↓w_sThen, ↓w_sRaise, ↓w_sAsg, ↓w_sFor, ↓w_sTry, ↓t_name, ↓t_nil, ↓t_cons, ↓o_plus, ↓o_plusL, ↓o_lAdd, ↓o_sub, ↓o_neg, ↓o_mul, ↓o_fdiv, ↓o_mod, ↓o_pow, ↓o_lt, ↓o_le, ↓o_gt, ↓o_ge, ↓o_eq, ↓o_ne, ↓o_truthB, ↓o_truthI, ↓o_truthN, ↓o_truthL, ↓o_truthT, ↓o_truthS, ↓o_notB, ↓o_isNN, ↓o_isBT, ↓o_isBF, ↓o_isT, ↓o_isIB, ↓o_isSB, ↓o_isLB, ↓o_isTB, ↓o_isNB, ↓o_isNot, ↓o_lenL, ↓o_lenT, ↓o_lenS, ↓o_abs, ↓o_intI, ↓o_intB, ↓o_str, ↓o_gcd, ↓o_list, ↓o_listT, ↓o_tuple, ↓o_tupleT, ↓o_rev, ↓o_type, ↓o_isi, ↓o_isi2, ↓o_rg1, ↓o_rg2, ↓o_zip, ↓o_zipT, ↓o_itemsL, ↓o_itemsT, ↓o_ixL, ↓o_ixT, ↓o_at0, ↓o_at1, ↓o_at2, ↓o_at3, ↓o_at4, ↓o_at5, ↓o_at6, ↓o_at7, ↓o_at8, ↓o_at9, ↓o_at10, ↓o_at11, ↓o_at12, ↓o_at13, ↓o_at14, ↓o_at15, ↓w_eIxO, ↓t_tup1, ↓t_tup2, ↓t_tup3, ↓t_tup9, ↓w_okOnly, ↓w_compN, ↓w_compC, ↓o_all, ↓o_any, ↓bls_nil, ↓bls_cons, ↓o_minL, ↓o_maxL, ↓o_sumL, ↓ints_nil, ↓ints_cons, ↓o_min3, ↓o_max3, ↓o_slL, ↓o_slT, ↓w_eBor, ↓w_bBor, o_isN, w_runF, tyName, isSubTy, tyNames, List.getElem?_cons_zero, List.getElem?_cons_succ, List.set_cons_zero, List.set_cons_succ, List.map_cons, List.map_nil, List.replicate_succ, List.replicate_zero, List.length_cons, List.length_nil, List.cons_append, List.nil_append, Nat.reduceAdd, Nat.reduceSub, Nat.reduceLeDiff, Nat.reduceEqDiff, reduceIte, if_true, if_false, Bool.not_true, Bool.not_false, Bool.true_and, Bool.and_true, Bool.false_and, Bool.and_false, Bool.true_or, Bool.false_or, Bool.or_true, Bool.or_false, reduceCtorEq, decide_true, decide_false, beq_self_eq_true, List.mem_cons, true_or, or_true, true_and, and_true, false_and, and_false, or_false, false_or, String.reduceEq, String.reduceBEq, List.not_mem_nil, Bool.not_eq_true, Bool.false_eq_true, eq_self, not_true_eq_false, not_false_eq_true, Bool.not_eq_eq_eq_not, decide_eq_true_eq, decide_eq_false_iff_not, bne_iff_ne, ne_eq, Int.reduceLT, Int.reduceLE, Int.reduceMul, Int.reduceAdd, Int.reduceNeg, Int.reduceToNat, Int.reducePow, Nat.reduceLT, Int.reduceEq, Int.reduceSub, zipD, List.zipWith_cons_cons, List.zipWith_nil_left, List.zipWith_nil_right, List.all_cons, List.all_nil, id_eq, scalD, borE, wipeE, noOwn, sz_0, szl_0, sz_1, szl_1, sz_2, szl_2, sz_3, szl_3, sz_4, szl_4, sz_5, szl_5, sz_6, szl_6, sz_7, szl_7, sz_8, szl_8, sz_9, szl_9, sz_10, szl_10, sz_11, szl_11, sz_12, szl_12, sz_13, szl_13, sz_14, szl_14, sz_15, szl_15, sz_16, szl_16, sz_17, szl_17, sz_18, szl_18, sz_19, szl_19, sz_20, szl_20, sz_21, szl_21, sz_22, szl_22, sz_23, szl_23, sz_24, szl_24, sz_25, szl_25, sz_26, szl_26, sz_27, szl_27, sz_28, szl_28, sz_29, szl_29, sz_30, szl_30, sz_31, szl_31, sz_32, szl_32, frz, List.all_cons, List.all_nil]
theorem wholes_3 (a b c lo hi : Int) (h : (lo ≤ a ∧ a ≤ hi) ∧ (lo ≤ b ∧ b ≤ hi) ∧ (lo ≤ c ∧ c ≤ hi)) : m_are_wholes [.lst [.int a, .int b, .int c], .int lo, .int hi] = .ok (.bl true) := by
  apply wR_eq
  simp only [m_are_wholes, g_are_wholes, ↓wR_ok, ↓wR_err, ↓wR_bind, ↓wR_of, ↓wO_some, ↓wO_map, ↓wO_bind, ↓w_var0, ↓w_varS, ↓w_eC, ↓w_e1, ↓w_l1, ↓w_e2, ↓w_l2, ↓w_b1, ↓w_b2, ↓w_eB, ↓w_eF, ↓w_lF, ↓w_eCall, ↓w_eLst, ↓w_aNil, ↓w_aCons, ↓w_eTup, ↓w_lDisp, ↓w_eIf, ↓w_bAnd, ↓w_bOr, ↓w_bNot, ↓w_bYes, ↓w_bChain, ↓w_eAnd, ↓w_eOr, ↓w_iAny, ↓w_oNone, ↓w_oSomeC, ↓w_eSl, ↓w_lSlG, ↓w_lComp, ↓w_sSeq, ↓w_sNil, ↓w_sBreak, ↓w_sCont, ↓w_sSet, ↓w_sSetL, ↓w_sExpr, ↓w_sRet, ↓w_sRetN, ↓w_sIf, ↓w_own0, ↓w_ownS, ↓w_sRetO, ↓w_sApp, ↓w_sSetIx, ↓w_sFrz, ↓w_sThen, ↓w_sRaise, ↓w_sAsg, ↓w_sFor, ↓w_sTry, ↓t_name, ↓t_nil, ↓t_cons, ↓o_plus, ↓o_plusL, ↓o_lAdd, ↓o_sub, ↓o_neg, ↓o_mul, ↓o_fdiv, ↓o_mod, ↓o_pow, ↓o_lt, ↓o_le, ↓o_gt, ↓o_ge, ↓o_eq, ↓o_ne, ↓o_truthB, ↓o_truthI, ↓o_truthN, ↓o_truthL, ↓o_truthT, ↓o_truthS, ↓o_notB, ↓o_isNN, ↓o_isBT, ↓o_isBF, ↓o_isT, ↓o_isIB, ↓o_isSB, ↓o_isLB, ↓o_isTB, ↓o_isNB, ↓o_isNot, ↓o_lenL, ↓o_lenT, ↓o_lenS, ↓o_abs, ↓o_intI, ↓o_intB, ↓o_str, ↓o_gcd, ↓o_list, ↓o_listT, ↓o_tuple, ↓o_tupleT, ↓o_rev, ↓o_type, ↓o_isi, ↓o_isi2, ↓o_rg1, ↓o_rg2, ↓o_zip, ↓o_zipT, ↓o_itemsL, ↓o_itemsT, ↓o_ixL, ↓o_ixT, ↓o_at0, ↓o_at1, ↓o_at2, ↓o_at3, ↓o_at4, ↓o_at5, ↓o_at6, ↓o_at7, ↓o_at8, ↓o_at9, ↓o_at10, ↓o_at11, ↓o_at12, ↓o_at13, ↓o_at14, ↓o_at15, ↓w_eIxO, ↓t_tup1, ↓t_tup2, ↓t_tup3, ↓t_tup9, ↓w_okOnly, ↓w_compN, ↓w_compC, ↓o_all, ↓o_any, ↓bls_nil, ↓bls_cons, ↓o_minL, ↓o_maxL, ↓o_sumL, ↓ints_nil, ↓ints_cons, ↓o_min3, ↓o_max3, ↓o_slL, ↓o_slT, ↓w_eBor, ↓w_bBor, o_isN, w_runF, tyName, isSubTy, tyNames, List.getElem?_cons_zero, List.getElem?_cons_succ, List.set_cons_zero, List.set_cons_succ, List.map_cons, List.map_nil, List.replicate_succ, List.replicate_zero, List.length_cons, List.length_nil, List.cons_append, List.nil_append, Nat.reduceAdd, Nat.reduceSub, Nat.reduceLeDiff, Nat.reduceEqDiff, reduceIte, if_true, if_false, Bool.not_true, Bool.not_false, Bool.true_and, Bool.and_true, Bool.false_and, Bool.and_false, Bool.true_or, Bool.false_or, Bool.or_true, Bool.or_false, reduceCtorEq, decide_true, decide_false, beq_self_eq_true, List.mem_cons, true_or, or_true, true_and, and_true, false_and, and_false, or_false, false_or, String.reduceEq, String.reduceBEq, List.not_mem_nil, Bool.not_eq_true, Bool.false_eq_true, eq_self, not_true_eq_false, not_false_eq_true, Bool.not_eq_eq_eq_not, decide_eq_true_eq, decide_eq_false_iff_not, bne_iff_ne, ne_eq, Int.reduceLT, Int.reduceLE, Int.reduceMul, Int.reduceAdd, Int.reduceNeg, Int.reduceToNat, Int.reducePow, Nat.reduceLT, Int.reduceEq, Int.reduceSub, zipD, List.zipWith_cons_cons, List.zipWith_nil_left, List.zipWith_nil_right, List.all_cons, List.all_nil, id_eq, scalD, borE, wipeE, noOwn, sz_0, szl_0, sz_1, szl_1, sz_2, szl_2, sz_3, szl_3, sz_4, szl_4, sz_5, szl_5, sz_6, szl_6, sz_7, szl_7, sz_8, szl_8, sz_9, szl_9, sz_10, szl_10, sz_11, szl_11, sz_12, szl_12, sz_13, szl_13, sz_14, szl_14, sz_15, szl_15, sz_16, szl_16, sz_17, szl_17, sz_18, szl_18, sz_19, szl_19, sz_20, szl_20, sz_21, szl_21, sz_22, szl_22, sz_23, szl_23, sz_24, szl_24, sz_25, szl_25, sz_26, szl_26, sz_27, szl_27, sz_28, szl_28, sz_29, szl_29, sz_30, szl_30, sz_31, szl_31, sz_32, szl_32, frz, List.all_cons, List.all_nil, whole_int, h.1.1, h.1.2, h.2.1.1, h.2.1.2, h.2.2.1, h.2.2.2]
theorem wholes_3t (a b c lo hi : Int) : m_are_wholes [.lst [.int a, .int b, .int c, .bl true], .int lo, .int hi] = .ok (.bl false) := by
  apply wR_eq
  simp only [m_are_wholes, g_are_wholes, ↓wR_ok, ↓wR_err, ↓wR_bind, ↓wR_of, ↓wO_some, ↓wO_map, ↓wO_bind, ↓w_var0, ↓w_varS, ↓w_eC, ↓w_e1, ↓w_l1, ↓w_e2, ↓w_l2, ↓w_b1, ↓w_b2, ↓w_eB, ↓w_eF, ↓w_lF, ↓w_eCall, ↓w_eLst, ↓w_aNil, ↓w_aCons, ↓w_eTup, ↓w_lDisp, ↓w_eIf, ↓w_bAnd, ↓w_bOr, ↓w_bNot, ↓w_bYes, ↓w_bChain, ↓w_eAnd, ↓w_eOr, ↓w_iAny, ↓w_oNone, ↓w_oSomeC, ↓w_eSl, ↓w_lSlG, ↓w_lComp, ↓w_sSeq, ↓w_sNil, ↓w_sBreak, ↓w_sCont, ↓w_sSet, ↓w_sSetL, ↓w_sExpr, ↓w_sRet, ↓w_sRetN, ↓w_sIf, ↓w_own0, ↓w_ownS, ↓w_sRetO, ↓w_sApp, ↓w_sSetIx, ↓w_sFrz, ↓w_sThen, ↓w_sRaise, ↓w_sAsg, ↓w_sFor, ↓w_sTry, ↓t_name, ↓t_nil, ↓t_cons, ↓o_plus, ↓o_plusL, ↓o_lAdd, ↓o_sub, ↓o_neg, ↓o_mul, ↓o_fdiv, ↓o_mod, ↓o_pow, ↓o_lt, ↓o_le, ↓o_gt, ↓o_ge, ↓o_eq, ↓o_ne, ↓o_truthB, ↓o_truthI, ↓o_truthN, ↓o_truthL, ↓o_truthT, ↓o_truthS, ↓o_notB, ↓o_isNN, ↓o_isBT, ↓o_isBF, ↓o_isT, ↓o_isIB, ↓o_isSB, ↓o_isLB, ↓o_isTB, ↓o_isNB, ↓o_isNot, ↓o_lenL, ↓o_lenT, ↓o_lenS, ↓o_abs, ↓o_intI, ↓o_intB, ↓o_str, ↓o_gcd, ↓o_list, ↓o_listT, ↓o_tuple, ↓o_tupleT, ↓o_rev, ↓o_type, ↓o_isi, ↓o_isi2, ↓o_rg1, ↓o_rg2, ↓o_zip, ↓o_zipT, ↓o_itemsL, ↓o_itemsT, ↓o_ixL, ↓o_ixT, ↓o_at0, ↓o_at1, ↓o_at2, ↓o_at3, ↓o_at4, ↓o_at5, ↓o_at6, ↓o_at7, ↓o_at8, ↓o_at9, ↓o_at10, ↓o_at11, ↓o_at12, ↓o_at13, ↓o_at14, ↓o_at15, ↓w_eIxO, ↓t_tup1, ↓t_tup2, ↓t_tup3, ↓t_tup9, ↓w_okOnly, ↓w_compN, ↓w_compC, ↓o_all, ↓o_any, ↓bls_nil, ↓bls_cons, ↓o_minL, ↓o_maxL, ↓o_sumL, ↓ints_nil, ↓ints_cons, ↓o_min3, ↓o_max3, ↓o_slL, ↓o_slT, ↓w_eBor, ↓w_bBor, o_isN, w_runF, tyName, isSubTy, tyNames, List.getElem?_cons_zero, List.getElem?_cons_succ, List.set_cons_zero, List.set_cons_succ, List.map_cons, List.map_nil, List.replicate_succ, List.replicate_zero, List.length_cons, List.length_nil, List.cons_append, List.nil_append, Nat.reduceAdd, Nat.reduceSub, Nat.reduceLeDiff, Nat.reduceEqDiff, reduceIte, if_true, if_false, Bool.not_true, Bool.not_false, Bool.true_and, Bool.and_true, Bool.false_and, Bool.and_false, Bool.true_or, Bool.false_or, Bool.or_true, Bool.or_false, reduceCtorEq, decide_true, decide_false, beq_self_eq_true, List.mem_cons, true_or, or_true, true_and, and_true, false_and, and_false, or_false, false_or, String.reduceEq, String.reduceBEq, List.not_mem_nil, Bool.not_eq_true, Bool.false_eq_true, eq_self, not_true_eq_false, not_false_eq_true, Bool.not_eq_eq_eq_not, decide_eq_true_eq, decide_eq_false_iff_not, bne_iff_ne, ne_eq, Int.reduceLT, Int.reduceLE, Int.reduceMul, Int.reduceAdd, Int.reduceNeg, Int.reduceToNat, Int.reducePow, Nat.reduceLT, Int.reduceEq, Int.reduceSub, zipD, List.zipWith_cons_cons, List.zipWith_nil_left, List.zipWith_nil_right, List.all_cons, List.all_nil, id_eq, scalD, borE, wipeE, noOwn, sz_0, szl_0, sz_1, szl_1, sz_2, szl_2, sz_3, szl_3, sz_4, szl_4, sz_5, szl_5, sz_6, szl_6, sz_7, szl_7, sz_8, szl_8, sz_9, szl_9, sz_10, szl_10, sz_11, szl_11, sz_12, szl_12, sz_13, szl_13, sz_14, szl_14, sz_15, szl_15, sz_16, szl_16, sz_17, szl_17, sz_18, szl_18, sz_19, szl_19, sz_20, szl_20, sz_21, szl_21, sz_22, szl_22, sz_23, szl_23, sz_24, szl_24, sz_25, szl_25, sz_26, szl_26, sz_27, szl_27, sz_28, szl_28, sz_29, szl_29, sz_30, szl_30, sz_31, szl_31, sz_32, szl_32, frz, List.all_cons, List.all_nil, whole_int, whole_bl]
  repeat' split
  all_goals simp
theorem wholes_4l (a b c d lo hi : Int) (h : (lo ≤ a ∧ a ≤ hi) ∧ (lo ≤ b ∧ b ≤ hi) ∧ (lo ≤ c ∧ c ≤ hi)) (hd : ¬ lo ≤ d) : m_are_wholes [.lst [.int a, .int b, .int c, .int d], .int lo, .int hi] = .ok (.bl false) := by
  apply wR_eq
  simp only [m_are_wholes, g_are_wholes, ↓wR_ok, ↓wR_err, ↓wR_bind, ↓wR_of, ↓wO_some, ↓wO_map, ↓wO_bind, ↓w_var0, ↓w_varS, ↓w_eC, ↓w_e1, ↓w_l1, ↓w_e2, ↓w_l2, ↓w_b1, ↓w_b2, ↓w_eB, ↓w_eF, ↓w_lF, ↓w_eCall, ↓w_eLst, ↓w_aNil, ↓w_aCons, ↓w_eTup, ↓w_lDisp, ↓w_eIf, ↓w_bAnd, ↓w_bOr, ↓w_bNot, ↓w_bYes, ↓w_bChain, ↓w_eAnd, ↓w_eOr, ↓w_iAny, ↓w_oNone, ↓w_oSomeC, ↓w_eSl, ↓w_lSlG, ↓w_lComp, ↓w_sSeq, ↓w_sNil, ↓w_sBreak, ↓w_sCont, ↓w_sSet, ↓w_sSetL, ↓w_sExpr, ↓w_sRet, ↓w_sRetN, ↓w_sIf, ↓w_own0, ↓w_ownS, ↓w_sRetO, ↓w_sApp, ↓w_sSetIx, ↓w_sFrz, ↓w_sThen, ↓w_sRaise, ↓w_sAsg, ↓w_sFor, ↓w_sTry, ↓t_name, ↓t_nil, ↓t_cons, ↓o_plus, ↓o_plusL, ↓o_lAdd, ↓o_sub, ↓o_neg, ↓o_mul, ↓o_fdiv, ↓o_mod, ↓o_pow, ↓o_lt, ↓o_le, ↓o_gt, ↓o_ge, ↓o_eq, ↓o_ne, ↓o_truthB, ↓o_truthI, ↓o_truthN, ↓o_truthL, ↓o_truthT, ↓o_truthS, ↓o_notB, ↓o_isNN, ↓o_isBT, ↓o_isBF, ↓o_isT, ↓o_isIB, ↓o_isSB, ↓o_isLB, ↓o_isTB, ↓o_isNB, ↓o_isNot, ↓o_lenL, ↓o_lenT, ↓o_lenS, ↓o_abs, ↓o_intI, ↓o_intB, ↓o_str, ↓o_gcd, ↓o_list, ↓o_listT, ↓o_tuple, ↓o_tupleT, ↓o_rev, ↓o_type, ↓o_isi, ↓o_isi2, ↓o_rg1, ↓o_rg2, ↓o_zip, ↓o_zipT, ↓o_itemsL, ↓o_itemsT, ↓o_ixL, ↓o_ixT, ↓o_at0, ↓o_at1, ↓o_at2, ↓o_at3, ↓o_at4, ↓o_at5, ↓o_at6, ↓o_at7, ↓o_at8, ↓o_at9, ↓o_at10, ↓o_at11, ↓o_at12, ↓o_at13, ↓o_at14, ↓o_at15, ↓w_eIxO, ↓t_tup1, ↓t_tup2, ↓t_tup3, ↓t_tup9, ↓w_okOnly, ↓w_compN, ↓w_compC, ↓o_all, ↓o_any, ↓bls_nil, ↓bls_cons, ↓o_minL, ↓o_maxL, ↓o_sumL, ↓ints_nil, ↓ints_cons, ↓o_min3, ↓o_max3, ↓o_slL, ↓o_slT, ↓w_eBor, ↓w_bBor, o_isN, w_runF, tyName, isSubTy, tyNames, List.getElem?_cons_zero, List.getElem?_cons_succ, List.set_cons_zero, List.set_cons_succ, List.map_cons, List.map_nil, List.replicate_succ, List.replicate_zero, List.length_cons, List.length_nil, List.cons_append, List.nil_append, Nat.reduceAdd, Nat.reduceSub, Nat.reduceLeDiff, Nat.reduceEqDiff, reduceIte, if_true, if_false, Bool.not_true, Bool.not_false, Bool.true_and, Bool.and_true, Bool.false_and, Bool.and_false, Bool.true_or, Bool.false_or, Bool.or_true, Bool.or_false, reduceCtorEq, decide_true, decide_false, beq_self_eq_true, List.mem_cons, true_or, or_true, true_and, and_true, false_and, and_false, or_false, false_or, String.reduceEq, String.reduceBEq, List.not_mem_nil, Bool.not_eq_true, Bool.false_eq_true, eq_self, not_true_eq_false, not_false_eq_true, Bool.not_eq_eq_eq_not, decide_eq_true_eq, decide_eq_false_iff_not, bne_iff_ne, ne_eq, Int.reduceLT, Int.reduceLE, Int.reduceMul, Int.reduceAdd, Int.reduceNeg, Int.reduceToNat, Int.reducePow, Nat.reduceLT, Int.reduceEq, Int.reduceSub, zipD, List.zipWith_cons_cons, List.zipWith_nil_left, List.zipWith_nil_right, List.all_cons, List.all_nil, id_eq, scalD, borE, wipeE, noOwn, sz_0, szl_0, sz_1, szl_1, sz_2, szl_2, sz_3, szl_3, sz_4, szl_4, sz_5, szl_5, sz_6, szl_6, sz_7, szl_7, sz_8, szl_8, sz_9, szl_9, sz_10, szl_10, sz_11, szl_11, sz_12, szl_12, sz_13, szl_13, sz_14, szl_14, sz_15, szl_15, sz_16, szl_16, sz_17, szl_17, sz_18, szl_18, sz_19, szl_19, sz_20, szl_20, sz_21, szl_21, sz_22, szl_22, sz_23, szl_23, sz_24, szl_24, sz_25, szl_25, sz_26, szl_26, sz_27, szl_27, sz_28, szl_28, sz_29, szl_29, sz_30, szl_30, sz_31, szl_31, sz_32, szl_32, frz, List.all_cons, List.all_nil, whole_int, h.1.1, h.1.2, h.2.1.1, h.2.1.2, h.2.2.1, h.2.2.2, hd]
theorem wholes_4h (a b c d lo hi : Int) (h : (lo ≤ a ∧ a ≤ hi) ∧ (lo ≤ b ∧ b ≤ hi) ∧ (lo ≤ c ∧ c ≤ hi)) (hd : lo ≤ d) (hd2 : ¬ d ≤ hi) : m_are_wholes [.lst [.int d, .int a, .int b, .int c], .int lo, .int hi] = .ok (.bl false) := by
  apply wR_eq
  simp only [m_are_wholes, g_are_wholes, ↓wR_ok, ↓wR_err, ↓wR_bind, ↓wR_of, ↓wO_some, ↓wO_map, ↓wO_bind, ↓w_var0, ↓w_varS, ↓w_eC, ↓w_e1, ↓w_l1, ↓w_e2, ↓w_l2, ↓w_b1, ↓w_b2, ↓w_eB, ↓w_eF, ↓w_lF, ↓w_eCall, ↓w_eLst, ↓w_aNil, ↓w_aCons, ↓w_eTup, ↓w_lDisp, ↓w_eIf, ↓w_bAnd, ↓w_bOr, ↓w_bNot, ↓w_bYes, ↓w_bChain, ↓w_eAnd, ↓w_eOr, ↓w_iAny, ↓w_oNone, ↓w_oSomeC, ↓w_eSl, ↓w_lSlG, ↓w_lComp, ↓w_sSeq, ↓w_sNil, ↓w_sBreak, ↓w_sCont, ↓w_sSet, ↓w_sSetL, ↓w_sExpr, ↓w_sRet, ↓w_sRetN, ↓w_sIf, ↓w_own0, ↓w_ownS, ↓w_sRetO, ↓w_sApp, ↓w_sSetIx, ↓w_sFrz, ↓w_sThen, ↓w_sRaise, ↓w_sAsg, ↓w_sFor, ↓w_sTry, ↓t_name, ↓t_nil, ↓t_cons, ↓o_plus, ↓o_plusL, ↓o_lAdd, ↓o_sub, ↓o_neg, ↓o_mul, ↓o_fdiv, ↓o_mod, ↓o_pow, ↓o_lt, ↓o_le, ↓o_gt, ↓o_ge, ↓o_eq, ↓o_ne, ↓o_truthB, ↓o_truthI, ↓o_truthN, ↓o_truthL, ↓o_truthT, ↓o_truthS, ↓o_notB, ↓o_isNN, ↓o_isBT, ↓o_isBF, ↓o_isT, ↓o_isIB, ↓o_isSB, ↓o_isLB, ↓o_isTB, ↓o_isNB, ↓o_isNot, ↓o_lenL, ↓o_lenT, ↓o_lenS, ↓o_abs, ↓o_intI, ↓o_intB, ↓o_str, ↓o_gcd, ↓o_list, ↓o_listT, ↓o_tuple, ↓o_tupleT, ↓o_rev, ↓o_type, ↓o_isi, ↓o_isi2, ↓o_rg1, ↓o_rg2, ↓o_zip, ↓o_zipT, ↓o_itemsL, ↓o_itemsT, ↓o_ixL, ↓o_ixT, ↓o_at0, ↓o_at1, ↓o_at2, ↓o_at3, ↓o_at4, ↓o_at5, ↓o_at6, ↓o_at7, ↓o_at8, ↓o_at9, ↓o_at10, ↓o_at11, ↓o_at12, ↓o_at13, ↓o_at14, ↓o_at15, ↓w_eIxO, ↓t_tup1, ↓t_tup2, ↓t_tup3, ↓t_tup9, ↓w_okOnly, ↓w_compN, ↓w_compC, ↓o_all, ↓o_any, ↓bls_nil, ↓bls_cons, ↓o_minL, ↓o_maxL, ↓o_sumL, ↓ints_nil, ↓ints_cons, ↓o_min3, ↓o_max3, ↓o_slL, ↓o_slT, ↓w_eBor, ↓w_bBor, o_isN, w_runF, tyName, isSubTy, tyNames, List.getElem?_cons_zero, List.getElem?_cons_succ, List.set_cons_zero, List.set_cons_succ, List.map_cons, List.map_nil, List.replicate_succ, List.replicate_zero, List.length_cons, List.length_nil, List.cons_append, List.nil_append, Nat.reduceAdd, Nat.reduceSub, Nat.reduceLeDiff, Nat.reduceEqDiff, reduceIte, if_true, if_false, Bool.not_true, Bool.not_false, Bool.true_and, Bool.and_true, Bool.false_and, Bool.and_false, Bool.true_or, Bool.false_or, Bool.or_true, Bool.or_false, reduceCtorEq, decide_true, decide_false, beq_self_eq_true, List.mem_cons, true_or, or_true, true_and, and_true, false_and, and_false, or_false, false_or, String.reduceEq, String.reduceBEq, List.not_mem_nil, Bool.not_eq_true, Bool.false_eq_true, eq_self, not_true_eq_false, not_false_eq_true, Bool.not_eq_eq_eq_not, decide_eq_true_eq, decide_eq_false_iff_not, bne_iff_ne, ne_eq, Int.reduceLT, Int.reduceLE, Int.reduceMul, Int.reduceAdd, Int.reduceNeg, Int.reduceToNat, Int.reducePow, Nat.reduceLT, Int.reduceEq, Int.reduceSub, zipD, List.zipWith_cons_cons, List.zipWith_nil_left, List.zipWith_nil_right, List.all_cons, List.all_nil, id_eq, scalD, borE, wipeE, noOwn, sz_0, szl_0, sz_1, szl_1, sz_2, szl_2, sz_3, szl_3, sz_4, szl_4, sz_5, szl_5, sz_6, szl_6, sz_7, szl_7, sz_8, szl_8, sz_9, szl_9, sz_10, szl_10, sz_11, szl_11, sz_12, szl_12, sz_13, szl_13, sz_14, szl_14, sz_15, szl_15, sz_16, szl_16, sz_17, szl_17, sz_18, szl_18, sz_19, szl_19, sz_20, szl_20, sz_21, szl_21, sz_22, szl_22, sz_23, szl_23, sz_24, szl_24, sz_25, szl_25, sz_26, szl_26, sz_27, szl_27, sz_28, szl_28, sz_29, szl_29, sz_30, szl_30, sz_31, szl_31, sz_32, szl_32, frz, List.all_cons, List.all_nil, whole_int, h.1.1, h.1.2, h.2.1.1, h.2.1.2, h.2.2.1, h.2.2.2, hd, hd2]
theorem wholes_n (a b lo hi : Int) (h : (lo ≤ a ∧ a ≤ hi) ∧ (lo ≤ b ∧ b ≤ hi)) : m_are_wholes [.lst [.int a, .non, .int b], .int lo, .int hi] = .ok (.bl false) := by
  apply wR_eq
  simp only [m_are_wholes, g_are_wholes, ↓wR_ok, ↓wR_err, ↓wR_bind, ↓wR_of, ↓wO_some, ↓wO_map, ↓wO_bind, ↓w_var0, ↓w_varS, ↓w_eC, ↓w_e1, ↓w_l1, ↓w_e2, ↓w_l2, ↓w_b1, ↓w_b2, ↓w_eB, ↓w_eF, ↓w_lF, ↓w_eCall, ↓w_eLst, ↓w_aNil, ↓w_aCons, ↓w_eTup, ↓w_lDisp, ↓w_eIf, ↓w_bAnd, ↓w_bOr, ↓w_bNot, ↓w_bYes, ↓w_bChain, ↓w_eAnd, ↓w_eOr, ↓w_iAny, ↓w_oNone, ↓w_oSomeC, ↓w_eSl, ↓w_lSlG, ↓w_lComp, ↓w_sSeq, ↓w_sNil, ↓w_sBreak, ↓w_sCont, ↓w_sSet, ↓w_sSetL, ↓w_sExpr, ↓w_sRet, ↓w_sRetN, ↓w_sIf, ↓w_own0, ↓w_ownS, ↓w_sRetO, ↓w_sApp, ↓w_sSetIx, ↓w_sFrz, ↓w_sThen, ↓w_sRaise, ↓w_sAsg, ↓w_sFor, ↓w_sTry, ↓t_name, ↓t_nil, ↓t_cons, ↓o_plus, ↓o_plusL, ↓o_lAdd, ↓o_sub, ↓o_neg, ↓o_mul, ↓o_fdiv, ↓o_mod, ↓o_pow, ↓o_lt, ↓o_le, ↓o_gt, ↓o_ge, ↓o_eq, ↓o_ne, ↓o_truthB, ↓o_truthI, ↓o_truthN, ↓o_truthL, ↓o_truthT, ↓o_truthS, ↓o_notB, ↓o_isNN, ↓o_isBT, ↓o_isBF, ↓o_isT, ↓o_isIB, ↓o_isSB, ↓o_isLB, ↓o_isTB, ↓o_isNB, ↓o_isNot, ↓o_lenL, ↓o_lenT, ↓o_lenS, ↓o_abs, ↓o_intI, ↓o_intB, ↓o_str, ↓o_gcd, ↓o_list, ↓o_listT, ↓o_tuple, ↓o_tupleT, ↓o_rev, ↓o_type, ↓o_isi, ↓o_isi2, ↓o_rg1, ↓o_rg2, ↓o_zip, ↓o_zipT, ↓o_itemsL, ↓o_itemsT, ↓o_ixL, ↓o_ixT, ↓o_at0, ↓o_at1, ↓o_at2, ↓o_at3, ↓o_at4, ↓o_at5, ↓o_at6, ↓o_at7, ↓o_at8, ↓o_at9, ↓o_at10, ↓o_at11, ↓o_at12, ↓o_at13, ↓o_at14, ↓o_at15, ↓w_eIxO, ↓t_tup1, ↓t_tup2, ↓t_tup3, ↓t_tup9, ↓w_okOnly, ↓w_compN, ↓w_compC, ↓o_all, ↓o_any, ↓bls_nil, ↓bls_cons, ↓o_minL, ↓o_maxL, ↓o_sumL, ↓ints_nil, ↓ints_cons, ↓o_min3, ↓o_max3, ↓o_slL, ↓o_slT, ↓w_eBor, ↓w_bBor, o_isN, w_runF, tyName, isSubTy, tyNames, List.getElem?_cons_zero, List.getElem?_cons_succ, List.set_cons_zero, List.set_cons_succ, List.map_cons, List.map_nil, List.replicate_succ, List.replicate_zero, List.length_cons, List.length_nil, List.cons_append, List.nil_append, Nat.reduceAdd, Nat.reduceSub, Nat.reduceLeDiff, Nat.reduceEqDiff, reduceIte, if_true, if_false, Bool.not_true, Bool.not_false, Bool.true_and, Bool.and_true, Bool.false_and, Bool.and_false, Bool.true_or, Bool.false_or, Bool.or_true, Bool.or_false, reduceCtorEq, decide_true, decide_false, beq_self_eq_true, List.mem_cons, true_or, or_true, true_and, and_true, false_and, and_false, or_false, false_or, String.reduceEq, String.reduceBEq, List.not_mem_nil, Bool.not_eq_true, Bool.false_eq_true, eq_self, not_true_eq_false, not_false_eq_true, Bool.not_eq_eq_eq_not, decide_eq_true_eq, decide_eq_false_iff_not, bne_iff_ne, ne_eq, Int.reduceLT, Int.reduceLE, Int.reduceMul, Int.reduceAdd, Int.reduceNeg, Int.reduceToNat, Int.reducePow, Nat.reduceLT, Int.reduceEq, Int.reduceSub, zipD, List.zipWith_cons_cons, List.zipWith_nil_left, List.zipWith_nil_right, List.all_cons, List.all_nil, id_eq, scalD, borE, wipeE, noOwn, sz_0, szl_0, sz_1, szl_1, sz_2, szl_2, sz_3, szl_3, sz_4, szl_4, sz_5, szl_5, sz_6, szl_6, sz_7, szl_7, sz_8, szl_8, sz_9, szl_9, sz_10, szl_10, sz_11, szl_11, sz_12, szl_12, sz_13, szl_13, sz_14, szl_14, sz_15, szl_15, sz_16, szl_16, sz_17, szl_17, sz_18, szl_18, sz_19, szl_19, sz_20, szl_20, sz_21, szl_21, sz_22, szl_22, sz_23, szl_23, sz_24, szl_24, sz_25, szl_25, sz_26, szl_26, sz_27, szl_27, sz_28, szl_28, sz_29, szl_29, sz_30, szl_30, sz_31, szl_31, sz_32, szl_32, frz, List.all_cons, List.all_nil, whole_int, whole_non, h.1.1, h.1.2, h.2.1, h.2.2]
end AF

set_option maxHeartbeats 8000000
namespace AF
open PySem PySem.Spec PyProof.Rows L2
theorem strInt_len {p : Int} {k : Nat} (hk : 0 < k) (h : p.natAbs.log2 < k) : (strInt p).length ≤ k + 1 := by
  unfold strInt
  rw [List.length_map]
  exact PySem.int_text_length_le hk h
section
variable {p q m : Int} {N B C : En → Prop} {R : D → Prop} {ES : Er → En → Prop} {s0 s1 s2 s3 s4 s5 s6 s7 s8 s9 s10 s11 : Sl}
structure Kd (p q m : Int) : Prop where
  hp : p.natAbs < 2 ^ 35
  hq : q.natAbs < 2 ^ 20
  q0 : 0 < q
  g : Nat.gcd p.natAbs q.natAbs = 1
  m2 : 2 ≤ m
  m6 : m ≤ 6
theorem Kd.log (h : Kd p q m) : p.natAbs.log2 < 1920 := by
  by_cases h0 : p.natAbs = 0
  · rw [h0]; decide
  · exact (Nat.log2_lt h0).mpr (lt_up h.hp (by decide))
theorem Kd.len (h : Kd p q m) : (strInt p).length ≤ sizeLine := Nat.le_trans (strInt_len (by decide) h.log) (by decide)
theorem kd5 (h : Kd p q m) (hR : R (.bl true)) : wpS (r__law_kinds_hold_5 [.val (.tup [.int p, .int q]), .val (.int m), .val (.int p), .val (.int q), s4, s5, s6, s7, s8, s9, s10, s11]) N R ES B C := by
  have h2 := h.m2
  have fin := same_ok 40 (.lst [.bl true, .bl true, .bl false, .bl false, .bl false, .bl false, .bl false, .bl false]) rfl
  have hlo : ∀ lo hi : Int, lo = min (min p q) (p + m) - 1 → hi = max (max p q) (p + m) + 1 → (lo ≤ p ∧ p ≤ hi) ∧ (lo ≤ q ∧ q ≤ hi) ∧ (lo ≤ p + m ∧ p + m ≤ hi) := fun lo hi h1 h2 => by omega
  have H := hlo _ _ rfl rfl
  have w1 := wholes_3 p q (p + m) (min (min p q) (p + m) - 1) (max (max p q) (p + m) + 1) H
  have w2 := wholes_0 (min (min p q) (p + m) - 1) (max (max p q) (p + m) + 1)
  have w3 := wholes_3t p q (p + m) (-9 - (if p < 0 then -p else p)) (max (max p q) (p + m) + 1 + 9)
  have w4 := wholes_4l p q (p + m) (min (min p q) (p + m) - 1 - m) _ _ H (by omega)
  have w5 := wholes_4h p q (p + m) (max (max p q) (p + m) + 1 + m) _ _ H (by omega) (by omega)
  have w6 := wholes_no (.tup [.int p, .int q]) (min (min p q) (p + m) - 1) (max (max p q) (p + m) + 1) _ rfl rfl
  have w7 := wholes_no (.int p) (min (min p q) (p + m) - 1) (max (max p q) (p + m) + 1) _ rfl rfl
  have w8 := wholes_n p q _ _ ⟨H.1, H.2.1⟩
  simp only [r__law_kinds_hold_5, ↓wR_ok, ↓wR_err, ↓wR_bind, ↓wR_of, ↓wO_some, ↓wO_map, ↓wO_bind, ↓w_var0, ↓w_varS, ↓w_eC, ↓w_e1, ↓w_l1, ↓w_e2, ↓w_l2, ↓w_b1, ↓w_b2, ↓w_eB, ↓w_eF, ↓w_lF, ↓w_eCall, ↓w_eLst, ↓w_aNil, ↓w_aCons, ↓w_eTup, ↓w_lDisp, ↓w_eIf, ↓w_bAnd, ↓w_bOr, ↓w_bNot, ↓w_bYes, ↓w_bChain, ↓w_eAnd, ↓w_eOr, ↓w_iAny, ↓w_oNone, ↓w_oSomeC, ↓w_eSl, ↓w_lSlG, ↓w_lComp, ↓w_sSeq, ↓w_sNil, ↓w_sBreak, ↓w_sCont, ↓w_sSet, ↓w_sSetL, ↓w_sExpr, ↓w_sRet, ↓w_sRetN, ↓w_sIf, ↓w_own0, ↓w_ownS, ↓w_sRetO, ↓w_sApp, ↓w_sSetIx, ↓w_sFrz, ↓w_sThen, ↓w_sRaise, ↓w_sAsg, ↓w_sFor, ↓w_sTry, ↓t_name, ↓t_nil, ↓t_cons, ↓o_plus, ↓o_plusL, ↓o_lAdd, ↓o_sub, ↓o_neg, ↓o_mul, ↓o_fdiv, ↓o_mod, ↓o_pow, ↓o_lt, ↓o_le, ↓o_gt, ↓o_ge, ↓o_eq, ↓o_ne, ↓o_truthB, ↓o_truthI, ↓o_truthN, ↓o_truthL, ↓o_truthT, ↓o_truthS, ↓o_notB, ↓o_isNN, ↓o_isBT, ↓o_isBF, ↓o_isT, ↓o_isIB, ↓o_isSB, ↓o_isLB, ↓o_isTB, ↓o_isNB, ↓o_isNot, ↓o_lenL, ↓o_lenT, ↓o_lenS, ↓o_abs, ↓o_intI, ↓o_intB, ↓o_str, ↓o_gcd, ↓o_list, ↓o_listT, ↓o_tuple, ↓o_tupleT, ↓o_rev, ↓o_type, ↓o_isi, ↓o_isi2, ↓o_rg1, ↓o_rg2, ↓o_zip, ↓o_zipT, ↓o_itemsL, ↓o_itemsT, ↓o_ixL, ↓o_ixT, ↓o_at0, ↓o_at1, ↓o_at2, ↓o_at3, ↓o_at4, ↓o_at5, ↓o_at6, ↓o_at7, ↓o_at8, ↓o_at9, ↓o_at10, ↓o_at11, ↓o_at12, ↓o_at13, ↓o_at14, ↓o_at15, ↓w_eIxO, ↓t_tup1, ↓t_tup2, ↓t_tup3, ↓t_tup9, ↓w_okOnly, ↓w_compN, ↓w_compC, ↓o_all, ↓o_any, ↓bls_nil, ↓bls_cons, ↓o_minL, ↓o_maxL, ↓o_sumL, ↓ints_nil, ↓ints_cons, ↓o_min3, ↓o_max3, ↓o_slL, ↓o_slT, ↓w_eBor, ↓w_bBor, o_isN, w_runF, tyName, isSubTy, tyNames, List.getElem?_cons_zero, List.getElem?_cons_succ, List.set_cons_zero, List.set_cons_succ, List.map_cons, List.map_nil, List.replicate_succ, List.replicate_zero, List.length_cons, List.length_nil, List.cons_append, List.nil_append, Nat.reduceAdd, Nat.reduceSub, Nat.reduceLeDiff, Nat.reduceEqDiff, reduceIte, if_true, if_false, Bool.not_true, Bool.not_false, Bool.true_and, Bool.and_true, Bool.false_and, Bool.and_false, Bool.true_or, Bool.false_or, Bool.or_true, Bool.or_false, reduceCtorEq, decide_true, decide_false, beq_self_eq_true, List.mem_cons, true_or, or_true, true_and, and_true, false_and, and_false, or_false, false_or, String.reduceEq, String.reduceBEq, List.not_mem_nil, Bool.not_eq_true, Bool.false_eq_true, eq_self, not_true_eq_false, not_false_eq_true, Bool.not_eq_eq_eq_not, decide_eq_true_eq, decide_eq_false_iff_not, bne_iff_ne, ne_eq, Int.reduceLT, Int.reduceLE, Int.reduceMul, Int.reduceAdd, Int.reduceNeg, Int.reduceToNat, Int.reducePow, Nat.reduceLT, Int.reduceEq, Int.reduceSub, zipD, List.zipWith_cons_cons, List.zipWith_nil_left, List.zipWith_nil_right, List.all_cons, List.all_nil, id_eq, scalD, borE, wipeE, noOwn, sz_0, szl_0, sz_1, szl_1, sz_2, szl_2, sz_3, szl_3, sz_4, szl_4, sz_5, szl_5, sz_6, szl_6, sz_7, szl_7, sz_8, szl_8, sz_9, szl_9, sz_10, szl_10, sz_11, szl_11, sz_12, szl_12, sz_13, szl_13, sz_14, szl_14, sz_15, szl_15, sz_16, szl_16, sz_17, szl_17, sz_18, szl_18, sz_19, szl_19, sz_20, szl_20, sz_21, szl_21, sz_22, szl_22, sz_23, szl_23, sz_24, szl_24, sz_25, szl_25, sz_26, szl_26, sz_27, szl_27, sz_28, szl_28, sz_29, szl_29, sz_30, szl_30, sz_31, szl_31, sz_32, szl_32, frz, List.all_cons, List.all_nil, w1, w2, w3, w4, w5, w6, w7, w8, fin]
  exact hR
theorem kd6 (h : Kd p q m) (hR : R (.bl true)) : wpS (r__law_kinds_hold_6 [.val (.tup [.int p, .int q]), .val (.int m), .val (.int p), .val (.int q), s4, s5, s6, s7, s8, s9, s10, s11]) N R ES B C := by
  have hlog := h.log
  have hlen := h.len
  have h2 := h.m2
  simp only [r__law_kinds_hold_6, ↓wR_ok, ↓wR_err, ↓wR_bind, ↓wR_of, ↓wO_some, ↓wO_map, ↓wO_bind, ↓w_var0, ↓w_varS, ↓w_eC, ↓w_e1, ↓w_l1, ↓w_e2, ↓w_l2, ↓w_b1, ↓w_b2, ↓w_eB, ↓w_eF, ↓w_lF, ↓w_eCall, ↓w_eLst, ↓w_aNil, ↓w_aCons, ↓w_eTup, ↓w_lDisp, ↓w_eIf, ↓w_bAnd, ↓w_bOr, ↓w_bNot, ↓w_bYes, ↓w_bChain, ↓w_eAnd, ↓w_eOr, ↓w_iAny, ↓w_oNone, ↓w_oSomeC, ↓w_eSl, ↓w_lSlG, ↓w_lComp, ↓w_sSeq, ↓w_sNil, ↓w_sBreak, ↓w_sCont, ↓w_sSet, ↓w_sSetL, ↓w_sExpr, ↓w_sRet, ↓w_sRetN, ↓w_sIf, ↓w_own0, ↓w_ownS, ↓w_sRetO, ↓w_sApp, ↓w_sSetIx, ↓w_sFrz, ↓w_sThen, ↓w_sRaise, ↓w_sAsg, ↓w_sFor, ↓w_sTry, ↓t_name, ↓t_nil, ↓t_cons, ↓o_plus, ↓o_plusL, ↓o_lAdd, ↓o_sub, ↓o_neg, ↓o_mul, ↓o_fdiv, ↓o_mod, ↓o_pow, ↓o_lt, ↓o_le, ↓o_gt, ↓o_ge, ↓o_eq, ↓o_ne, ↓o_truthB, ↓o_truthI, ↓o_truthN, ↓o_truthL, ↓o_truthT, ↓o_truthS, ↓o_notB, ↓o_isNN, ↓o_isBT, ↓o_isBF, ↓o_isT, ↓o_isIB, ↓o_isSB, ↓o_isLB, ↓o_isTB, ↓o_isNB, ↓o_isNot, ↓o_lenL, ↓o_lenT, ↓o_lenS, ↓o_abs, ↓o_intI, ↓o_intB, ↓o_str, ↓o_gcd, ↓o_list, ↓o_listT, ↓o_tuple, ↓o_tupleT, ↓o_rev, ↓o_type, ↓o_isi, ↓o_isi2, ↓o_rg1, ↓o_rg2, ↓o_zip, ↓o_zipT, ↓o_itemsL, ↓o_itemsT, ↓o_ixL, ↓o_ixT, ↓o_at0, ↓o_at1, ↓o_at2, ↓o_at3, ↓o_at4, ↓o_at5, ↓o_at6, ↓o_at7, ↓o_at8, ↓o_at9, ↓o_at10, ↓o_at11, ↓o_at12, ↓o_at13, ↓o_at14, ↓o_at15, ↓w_eIxO, ↓t_tup1, ↓t_tup2, ↓t_tup3, ↓t_tup9, ↓w_okOnly, ↓w_compN, ↓w_compC, ↓o_all, ↓o_any, ↓bls_nil, ↓bls_cons, ↓o_minL, ↓o_maxL, ↓o_sumL, ↓ints_nil, ↓ints_cons, ↓o_min3, ↓o_max3, ↓o_slL, ↓o_slT, ↓w_eBor, ↓w_bBor, o_isN, w_runF, tyName, isSubTy, tyNames, List.getElem?_cons_zero, List.getElem?_cons_succ, List.set_cons_zero, List.set_cons_succ, List.map_cons, List.map_nil, List.replicate_succ, List.replicate_zero, List.length_cons, List.length_nil, List.cons_append, List.nil_append, Nat.reduceAdd, Nat.reduceSub, Nat.reduceLeDiff, Nat.reduceEqDiff, reduceIte, if_true, if_false, Bool.not_true, Bool.not_false, Bool.true_and, Bool.and_true, Bool.false_and, Bool.and_false, Bool.true_or, Bool.false_or, Bool.or_true, Bool.or_false, reduceCtorEq, decide_true, decide_false, beq_self_eq_true, List.mem_cons, true_or, or_true, true_and, and_true, false_and, and_false, or_false, false_or, String.reduceEq, String.reduceBEq, List.not_mem_nil, Bool.not_eq_true, Bool.false_eq_true, eq_self, not_true_eq_false, not_false_eq_true, Bool.not_eq_eq_eq_not, decide_eq_true_eq, decide_eq_false_iff_not, bne_iff_ne, ne_eq, Int.reduceLT, Int.reduceLE, Int.reduceMul, Int.reduceAdd, Int.reduceNeg, Int.reduceToNat, Int.reducePow, Nat.reduceLT, Int.reduceEq, Int.reduceSub, zipD, List.zipWith_cons_cons, List.zipWith_nil_left, List.zipWith_nil_right, List.all_cons, List.all_nil, id_eq, scalD, borE, wipeE, noOwn, sz_0, szl_0, sz_1, szl_1, sz_2, szl_2, sz_3, szl_3, sz_4, szl_4, sz_5, szl_5, sz_6, szl_6, sz_7, szl_7, sz_8, szl_8, sz_9, szl_9, sz_10, szl_10, sz_11, szl_11, sz_12, szl_12, sz_13, szl_13, sz_14, szl_14, sz_15, szl_15, sz_16, szl_16, sz_17, szl_17, sz_18, szl_18, sz_19, szl_19, sz_20, szl_20, sz_21, szl_21, sz_22, szl_22, sz_23, szl_23, sz_24, szl_24, sz_25, szl_25, sz_26, szl_26, sz_27, szl_27, sz_28, szl_28, sz_29, szl_29, sz_30, szl_30, sz_31, szl_31, sz_32, szl_32, frz, List.all_cons, List.all_nil, hlog, hlen]
  refine w_forP (fun e => ∃ s4 s7, e = [.val (.tup [.int p, .int q]), .val (.int m), .val (.int p), .val (.int q), s4, s5, s6, s7, s8, s9, s10, s11]) ⟨_, _, rfl⟩ ?_ ?_
  · rintro d hd env ⟨s4, s7, rfl⟩
    rw [t_name]
    have rr : ∀ k, m_is_same (k + 2) [.tup [.int p, .int q], .tup [.int p, .int q]] = .ok (.bl true) := fun k => same_t2 (same_ints k p p true (by simp)) (same_ints k q q true (by simp)) rfl
    have key : ∃ a b, d = .tup [a, b] ∧ m_is_same 40 [a, b] = .ok (.bl false) := by
      simp only [List.mem_cons, List.not_mem_nil, or_false] at hd
      rcases hd with rfl | rfl | rfl | rfl | rfl | rfl | rfl | rfl | rfl | rfl | rfl | rfl | rfl
      · exact ⟨_, _, rfl, same_types _ _ _ _ _ rfl rfl rfl⟩
      · exact ⟨_, _, rfl, same_types _ _ _ _ _ rfl rfl rfl⟩
      · exact ⟨_, _, rfl, same_types _ _ _ _ _ rfl rfl rfl⟩
      · exact ⟨_, _, rfl, same_types _ _ _ _ _ rfl rfl rfl⟩
      · exact ⟨_, _, rfl, same_l2 (rr 37) (same_l1 (same_types 37 _ _ _ _ rfl rfl rfl)) rfl⟩
      · exact ⟨_, _, rfl, same_ll _ _ _ (by simp)⟩
      · exact ⟨_, _, rfl, same_types _ _ _ _ _ rfl rfl rfl⟩
      · exact ⟨_, _, rfl, same_t2 (same_ints 38 1 1 true (by simp)) (same_t1 (same_types 37 _ _ _ _ rfl rfl rfl)) rfl⟩
      · exact ⟨_, _, rfl, same_ll _ _ _ (by simp)⟩
      · exact ⟨_, _, rfl, same_types _ _ _ _ _ rfl rfl rfl⟩
      · exact ⟨_, _, rfl, same_types _ _ _ _ _ rfl rfl rfl⟩
      · exact ⟨_, _, rfl, same_l2 (rr 37) (same_t2 (same_ints 37 p p true (by simp)) (same_ints 37 q (q + 1) false (by rw [decide_eq_false (by omega)])) rfl) rfl⟩
      · exact ⟨_, _, rfl, same_ints 39 _ _ _ (by simp; omega)⟩
    obtain ⟨a, b, rfl, key⟩ := key
    simp only [b__law_kinds_hold_4, ↓wR_ok, ↓wR_err, ↓wR_bind, ↓wR_of, ↓wO_some, ↓wO_map, ↓wO_bind, ↓w_var0, ↓w_varS, ↓w_eC, ↓w_e1, ↓w_l1, ↓w_e2, ↓w_l2, ↓w_b1, ↓w_b2, ↓w_eB, ↓w_eF, ↓w_lF, ↓w_eCall, ↓w_eLst, ↓w_aNil, ↓w_aCons, ↓w_eTup, ↓w_lDisp, ↓w_eIf, ↓w_bAnd, ↓w_bOr, ↓w_bNot, ↓w_bYes, ↓w_bChain, ↓w_eAnd, ↓w_eOr, ↓w_iAny, ↓w_oNone, ↓w_oSomeC, ↓w_eSl, ↓w_lSlG, ↓w_lComp, ↓w_sSeq, ↓w_sNil, ↓w_sBreak, ↓w_sCont, ↓w_sSet, ↓w_sSetL, ↓w_sExpr, ↓w_sRet, ↓w_sRetN, ↓w_sIf, ↓w_own0, ↓w_ownS, ↓w_sRetO, ↓w_sApp, ↓w_sSetIx, ↓w_sFrz, ↓w_sThen, ↓w_sRaise, ↓w_sAsg, ↓w_sFor, ↓w_sTry, ↓t_name, ↓t_nil, ↓t_cons, ↓o_plus, ↓o_plusL, ↓o_lAdd, ↓o_sub, ↓o_neg, ↓o_mul, ↓o_fdiv, ↓o_mod, ↓o_pow, ↓o_lt, ↓o_le, ↓o_gt, ↓o_ge, ↓o_eq, ↓o_ne, ↓o_truthB, ↓o_truthI, ↓o_truthN, ↓o_truthL, ↓o_truthT, ↓o_truthS, ↓o_notB, ↓o_isNN, ↓o_isBT, ↓o_isBF, ↓o_isT, ↓o_isIB, ↓o_isSB, ↓o_isLB, ↓o_isTB, ↓o_isNB, ↓o_isNot, ↓o_lenL, ↓o_lenT, ↓o_lenS, ↓o_abs, ↓o_intI, ↓o_intB, ↓o_str, ↓o_gcd, ↓o_list, ↓o_listT, ↓o_tuple, ↓o_tupleT, ↓o_rev, ↓o_type, ↓o_isi, ↓o_isi2, ↓o_rg1, ↓o_rg2, ↓o_zip, ↓o_zipT, ↓o_itemsL, ↓o_itemsT, ↓o_ixL, ↓o_ixT, ↓o_at0, ↓o_at1, ↓o_at2, ↓o_at3, ↓o_at4, ↓o_at5, ↓o_at6, ↓o_at7, ↓o_at8, ↓o_at9, ↓o_at10, ↓o_at11, ↓o_at12, ↓o_at13, ↓o_at14, ↓o_at15, ↓w_eIxO, ↓t_tup1, ↓t_tup2, ↓t_tup3, ↓t_tup9, ↓w_okOnly, ↓w_compN, ↓w_compC, ↓o_all, ↓o_any, ↓bls_nil, ↓bls_cons, ↓o_minL, ↓o_maxL, ↓o_sumL, ↓ints_nil, ↓ints_cons, ↓o_min3, ↓o_max3, ↓o_slL, ↓o_slT, ↓w_eBor, ↓w_bBor, o_isN, w_runF, tyName, isSubTy, tyNames, List.getElem?_cons_zero, List.getElem?_cons_succ, List.set_cons_zero, List.set_cons_succ, List.map_cons, List.map_nil, List.replicate_succ, List.replicate_zero, List.length_cons, List.length_nil, List.cons_append, List.nil_append, Nat.reduceAdd, Nat.reduceSub, Nat.reduceLeDiff, Nat.reduceEqDiff, reduceIte, if_true, if_false, Bool.not_true, Bool.not_false, Bool.true_and, Bool.and_true, Bool.false_and, Bool.and_false, Bool.true_or, Bool.false_or, Bool.or_true, Bool.or_false, reduceCtorEq, decide_true, decide_false, beq_self_eq_true, List.mem_cons, true_or, or_true, true_and, and_true, false_and, and_false, or_false, false_or, String.reduceEq, String.reduceBEq, List.not_mem_nil, Bool.not_eq_true, Bool.false_eq_true, eq_self, not_true_eq_false, not_false_eq_true, Bool.not_eq_eq_eq_not, decide_eq_true_eq, decide_eq_false_iff_not, bne_iff_ne, ne_eq, Int.reduceLT, Int.reduceLE, Int.reduceMul, Int.reduceAdd, Int.reduceNeg, Int.reduceToNat, Int.reducePow, Nat.reduceLT, Int.reduceEq, Int.reduceSub, zipD, List.zipWith_cons_cons, List.zipWith_nil_left, List.zipWith_nil_right, List.all_cons, List.all_nil, id_eq, scalD, borE, wipeE, noOwn, sz_0, szl_0, sz_1, szl_1, sz_2, szl_2, sz_3, szl_3, sz_4, szl_4, sz_5, szl_5, sz_6, szl_6, sz_7, szl_7, sz_8, szl_8, sz_9, szl_9, sz_10, szl_10, sz_11, szl_11, sz_12, szl_12, sz_13, szl_13, sz_14, szl_14, sz_15, szl_15, sz_16, szl_16, sz_17, szl_17, sz_18, szl_18, sz_19, szl_19, sz_20, szl_20, sz_21, szl_21, sz_22, szl_22, sz_23, szl_23, sz_24, szl_24, sz_25, szl_25, sz_26, szl_26, sz_27, szl_27, sz_28, szl_28, sz_29, szl_29, sz_30, szl_30, sz_31, szl_31, sz_32, szl_32, frz, List.all_cons, List.all_nil, key]
    exact ⟨_, _, rfl⟩
  · rintro env ⟨s4, s7, rfl⟩
    exact kd5 h hR
theorem kd7 (h : Kd p q m) (hR : R (.bl true)) : wpS (r__law_kinds_hold_7 [.val (.tup [.int p, .int q]), .val (.int m), .val (.int p), .val (.int q), s4, s5, s6, s7, s8, s9, s10, s11]) N R ES B C := by
  simp only [r__law_kinds_hold_7, ↓wR_ok, ↓wR_err, ↓wR_bind, ↓wR_of, ↓wO_some, ↓wO_map, ↓wO_bind, ↓w_var0, ↓w_varS, ↓w_eC, ↓w_e1, ↓w_l1, ↓w_e2, ↓w_l2, ↓w_b1, ↓w_b2, ↓w_eB, ↓w_eF, ↓w_lF, ↓w_eCall, ↓w_eLst, ↓w_aNil, ↓w_aCons, ↓w_eTup, ↓w_lDisp, ↓w_eIf, ↓w_bAnd, ↓w_bOr, ↓w_bNot, ↓w_bYes, ↓w_bChain, ↓w_eAnd, ↓w_eOr, ↓w_iAny, ↓w_oNone, ↓w_oSomeC, ↓w_eSl, ↓w_lSlG, ↓w_lComp, ↓w_sSeq, ↓w_sNil, ↓w_sBreak, ↓w_sCont, ↓w_sSet, ↓w_sSetL, ↓w_sExpr, ↓w_sRet, ↓w_sRetN, ↓w_sIf, ↓w_own0, ↓w_ownS, ↓w_sRetO, ↓w_sApp, ↓w_sSetIx, ↓w_sFrz, ↓w_sThen, ↓w_sRaise, ↓w_sAsg, ↓w_sFor, ↓w_sTry, ↓t_name, ↓t_nil, ↓t_cons, ↓o_plus, ↓o_plusL, ↓o_lAdd, ↓o_sub, ↓o_neg, ↓o_mul, ↓o_fdiv, ↓o_mod, ↓o_pow, ↓o_lt, ↓o_le, ↓o_gt, ↓o_ge, ↓o_eq, ↓o_ne, ↓o_truthB, ↓o_truthI, ↓o_truthN, ↓o_truthL, ↓o_truthT, ↓o_truthS, ↓o_notB, ↓o_isNN, ↓o_isBT, ↓o_isBF, ↓o_isT, ↓o_isIB, ↓o_isSB, ↓o_isLB, ↓o_isTB, ↓o_isNB, ↓o_isNot, ↓o_lenL, ↓o_lenT, ↓o_lenS, ↓o_abs, ↓o_intI, ↓o_intB, ↓o_str, ↓o_gcd, ↓o_list, ↓o_listT, ↓o_tuple, ↓o_tupleT, ↓o_rev, ↓o_type, ↓o_isi, ↓o_isi2, ↓o_rg1, ↓o_rg2, ↓o_zip, ↓o_zipT, ↓o_itemsL, ↓o_itemsT, ↓o_ixL, ↓o_ixT, ↓o_at0, ↓o_at1, ↓o_at2, ↓o_at3, ↓o_at4, ↓o_at5, ↓o_at6, ↓o_at7, ↓o_at8, ↓o_at9, ↓o_at10, ↓o_at11, ↓o_at12, ↓o_at13, ↓o_at14, ↓o_at15, ↓w_eIxO, ↓t_tup1, ↓t_tup2, ↓t_tup3, ↓t_tup9, ↓w_okOnly, ↓w_compN, ↓w_compC, ↓o_all, ↓o_any, ↓bls_nil, ↓bls_cons, ↓o_minL, ↓o_maxL, ↓o_sumL, ↓ints_nil, ↓ints_cons, ↓o_min3, ↓o_max3, ↓o_slL, ↓o_slT, ↓w_eBor, ↓w_bBor, o_isN, w_runF, tyName, isSubTy, tyNames, List.getElem?_cons_zero, List.getElem?_cons_succ, List.set_cons_zero, List.set_cons_succ, List.map_cons, List.map_nil, List.replicate_succ, List.replicate_zero, List.length_cons, List.length_nil, List.cons_append, List.nil_append, Nat.reduceAdd, Nat.reduceSub, Nat.reduceLeDiff, Nat.reduceEqDiff, reduceIte, if_true, if_false, Bool.not_true, Bool.not_false, Bool.true_and, Bool.and_true, Bool.false_and, Bool.and_false, Bool.true_or, Bool.false_or, Bool.or_true, Bool.or_false, reduceCtorEq, decide_true, decide_false, beq_self_eq_true, List.mem_cons, true_or, or_true, true_and, and_true, false_and, and_false, or_false, false_or, String.reduceEq, String.reduceBEq, List.not_mem_nil, Bool.not_eq_true, Bool.false_eq_true, eq_self, not_true_eq_false, not_false_eq_true, Bool.not_eq_eq_eq_not, decide_eq_true_eq, decide_eq_false_iff_not, bne_iff_ne, ne_eq, Int.reduceLT, Int.reduceLE, Int.reduceMul, Int.reduceAdd, Int.reduceNeg, Int.reduceToNat, Int.reducePow, Nat.reduceLT, Int.reduceEq, Int.reduceSub, zipD, List.zipWith_cons_cons, List.zipWith_nil_left, List.zipWith_nil_right, List.all_cons, List.all_nil, id_eq, scalD, borE, wipeE, noOwn, sz_0, szl_0, sz_1, szl_1, sz_2, szl_2, sz_3, szl_3, sz_4, szl_4, sz_5, szl_5, sz_6, szl_6, sz_7, szl_7, sz_8, szl_8, sz_9, szl_9, sz_10, szl_10, sz_11, szl_11, sz_12, szl_12, sz_13, szl_13, sz_14, szl_14, sz_15, szl_15, sz_16, szl_16, sz_17, szl_17, sz_18, szl_18, sz_19, szl_19, sz_20, szl_20, sz_21, szl_21, sz_22, szl_22, sz_23, szl_23, sz_24, szl_24, sz_25, szl_25, sz_26, szl_26, sz_27, szl_27, sz_28, szl_28, sz_29, szl_29, sz_30, szl_30, sz_31, szl_31, sz_32, szl_32, frz, List.all_cons, List.all_nil]
  refine w_forP (fun e => ∃ s6 s7, e = [.val (.tup [.int p, .int q]), .val (.int m), .val (.int p), .val (.int q), s4, s5, s6, s7, s8, s9, s10, s11]) ⟨_, _, rfl⟩ ?_ ?_
  · rintro d hd env ⟨s6, s7, rfl⟩
    rw [t_name]
    have rr : ∀ k, m_is_same (k + 2) [.tup [.int p, .int q], .tup [.int p, .int q]] = .ok (.bl true) := fun k => same_t2 (same_ints k p p true (by simp)) (same_ints k q q true (by simp)) rfl
    have key : ∃ a b, d = .tup [a, b] ∧ m_is_same 40 [a, b] = .ok (.bl true) := by
      simp only [List.mem_cons, List.not_mem_nil, or_false] at hd
      rcases hd with rfl | rfl | rfl | rfl | rfl | rfl | rfl
      · exact ⟨_, _, rfl, same_l2 (rr 37) (same_l1 (same_ints 37 p p true (by simp))) rfl⟩
      · exact ⟨_, _, rfl, same_str _ _⟩
      · exact ⟨_, _, rfl, same_non _⟩
      · exact ⟨_, _, rfl, same_tt _⟩
      · exact ⟨_, _, rfl, same_l0 _⟩
      · exact ⟨_, _, rfl, same_t0 _⟩
      · exact ⟨_, _, rfl, same_ints 39 _ _ _ (by simp)⟩
    obtain ⟨a, b, rfl, key⟩ := key
    simp only [b__law_kinds_hold_3, ↓wR_ok, ↓wR_err, ↓wR_bind, ↓wR_of, ↓wO_some, ↓wO_map, ↓wO_bind, ↓w_var0, ↓w_varS, ↓w_eC, ↓w_e1, ↓w_l1, ↓w_e2, ↓w_l2, ↓w_b1, ↓w_b2, ↓w_eB, ↓w_eF, ↓w_lF, ↓w_eCall, ↓w_eLst, ↓w_aNil, ↓w_aCons, ↓w_eTup, ↓w_lDisp, ↓w_eIf, ↓w_bAnd, ↓w_bOr, ↓w_bNot, ↓w_bYes, ↓w_bChain, ↓w_eAnd, ↓w_eOr, ↓w_iAny, ↓w_oNone, ↓w_oSomeC, ↓w_eSl, ↓w_lSlG, ↓w_lComp, ↓w_sSeq, ↓w_sNil, ↓w_sBreak, ↓w_sCont, ↓w_sSet, ↓w_sSetL, ↓w_sExpr, ↓w_sRet, ↓w_sRetN, ↓w_sIf, ↓w_own0, ↓w_ownS, ↓w_sRetO, ↓w_sApp, ↓w_sSetIx, ↓w_sFrz, ↓w_sThen, ↓w_sRaise, ↓w_sAsg, ↓w_sFor, ↓w_sTry, ↓t_name, ↓t_nil, ↓t_cons, ↓o_plus, ↓o_plusL, ↓o_lAdd, ↓o_sub, ↓o_neg, ↓o_mul, ↓o_fdiv, ↓o_mod, ↓o_pow, ↓o_lt, ↓o_le, ↓o_gt, ↓o_ge, ↓o_eq, ↓o_ne, ↓o_truthB, ↓o_truthI, ↓o_truthN, ↓o_truthL, ↓o_truthT, ↓o_truthS, ↓o_notB, ↓o_isNN, ↓o_isBT, ↓o_isBF, ↓o_isT, ↓o_isIB, ↓o_isSB, ↓o_isLB, ↓o_isTB, ↓o_isNB, ↓o_isNot, ↓o_lenL, ↓o_lenT, ↓o_lenS, ↓o_abs, ↓o_intI, ↓o_intB, ↓o_str, ↓o_gcd, ↓o_list, ↓o_listT, ↓o_tuple, ↓o_tupleT, ↓o_rev, ↓o_type, ↓o_isi, ↓o_isi2, ↓o_rg1, ↓o_rg2, ↓o_zip, ↓o_zipT, ↓o_itemsL, ↓o_itemsT, ↓o_ixL, ↓o_ixT, ↓o_at0, ↓o_at1, ↓o_at2, ↓o_at3, ↓o_at4, ↓o_at5, ↓o_at6, ↓o_at7, ↓o_at8, ↓o_at9, ↓o_at10, ↓o_at11, ↓o_at12, ↓o_at13, ↓o_at14, ↓o_at15, ↓w_eIxO, ↓t_tup1, ↓t_tup2, ↓t_tup3, ↓t_tup9, ↓w_okOnly, ↓w_compN, ↓w_compC, ↓o_all, ↓o_any, ↓bls_nil, ↓bls_cons, ↓o_minL, ↓o_maxL, ↓o_sumL, ↓ints_nil, ↓ints_cons, ↓o_min3, ↓o_max3, ↓o_slL, ↓o_slT, ↓w_eBor, ↓w_bBor, o_isN, w_runF, tyName, isSubTy, tyNames, List.getElem?_cons_zero, List.getElem?_cons_succ, List.set_cons_zero, List.set_cons_succ, List.map_cons, List.map_nil, List.replicate_succ, List.replicate_zero, List.length_cons, List.length_nil, List.cons_append, List.nil_append, Nat.reduceAdd, Nat.reduceSub, Nat.reduceLeDiff, Nat.reduceEqDiff, reduceIte, if_true, if_false, Bool.not_true, Bool.not_false, Bool.true_and, Bool.and_true, Bool.false_and, Bool.and_false, Bool.true_or, Bool.false_or, Bool.or_true, Bool.or_false, reduceCtorEq, decide_true, decide_false, beq_self_eq_true, List.mem_cons, true_or, or_true, true_and, and_true, false_and, and_false, or_false, false_or, String.reduceEq, String.reduceBEq, List.not_mem_nil, Bool.not_eq_true, Bool.false_eq_true, eq_self, not_true_eq_false, not_false_eq_true, Bool.not_eq_eq_eq_not, decide_eq_true_eq, decide_eq_false_iff_not, bne_iff_ne, ne_eq, Int.reduceLT, Int.reduceLE, Int.reduceMul, Int.reduceAdd, Int.reduceNeg, Int.reduceToNat, Int.reducePow, Nat.reduceLT, Int.reduceEq, Int.reduceSub, zipD, List.zipWith_cons_cons, List.zipWith_nil_left, List.zipWith_nil_right, List.all_cons, List.all_nil, id_eq, scalD, borE, wipeE, noOwn, sz_0, szl_0, sz_1, szl_1, sz_2, szl_2, sz_3, szl_3, sz_4, szl_4, sz_5, szl_5, sz_6, szl_6, sz_7, szl_7, sz_8, szl_8, sz_9, szl_9, sz_10, szl_10, sz_11, szl_11, sz_12, szl_12, sz_13, szl_13, sz_14, szl_14, sz_15, szl_15, sz_16, szl_16, sz_17, szl_17, sz_18, szl_18, sz_19, szl_19, sz_20, szl_20, sz_21, szl_21, sz_22, szl_22, sz_23, szl_23, sz_24, szl_24, sz_25, szl_25, sz_26, szl_26, sz_27, szl_27, sz_28, szl_28, sz_29, szl_29, sz_30, szl_30, sz_31, szl_31, sz_32, szl_32, frz, List.all_cons, List.all_nil, key]
    exact ⟨_, _, rfl⟩
  · rintro env ⟨s6, s7, rfl⟩
    exact kd6 h hR
theorem kd8 (h : Kd p q m) (hR : R (.bl true)) : wpS (r__law_kinds_hold_8 [.val (.tup [.int p, .int q]), .val (.int m), .val (.int p), .val (.int q), s4, s5, s6, s7, s8, s9, s10, s11]) N R ES B C := by
  have hlog := h.log
  have hlen := h.len
  have i0 : m_is_ratio [.tup [.int p, .int q]] = .ok (.bl true) := isr_ints _ _ _ (by
    have : 1 ≤ q := by have := h.q0; omega
    simp [this, h.g])
  simp only [r__law_kinds_hold_8, ↓wR_ok, ↓wR_err, ↓wR_bind, ↓wR_of, ↓wO_some, ↓wO_map, ↓wO_bind, ↓w_var0, ↓w_varS, ↓w_eC, ↓w_e1, ↓w_l1, ↓w_e2, ↓w_l2, ↓w_b1, ↓w_b2, ↓w_eB, ↓w_eF, ↓w_lF, ↓w_eCall, ↓w_eLst, ↓w_aNil, ↓w_aCons, ↓w_eTup, ↓w_lDisp, ↓w_eIf, ↓w_bAnd, ↓w_bOr, ↓w_bNot, ↓w_bYes, ↓w_bChain, ↓w_eAnd, ↓w_eOr, ↓w_iAny, ↓w_oNone, ↓w_oSomeC, ↓w_eSl, ↓w_lSlG, ↓w_lComp, ↓w_sSeq, ↓w_sNil, ↓w_sBreak, ↓w_sCont, ↓w_sSet, ↓w_sSetL, ↓w_sExpr, ↓w_sRet, ↓w_sRetN, ↓w_sIf, ↓w_own0, ↓w_ownS, ↓w_sRetO, ↓w_sApp, ↓w_sSetIx, ↓w_sFrz, ↓w_sThen, ↓w_sRaise, ↓w_sAsg, ↓w_sFor, ↓w_sTry, ↓t_name, ↓t_nil, ↓t_cons, ↓o_plus, ↓o_plusL, ↓o_lAdd, ↓o_sub, ↓o_neg, ↓o_mul, ↓o_fdiv, ↓o_mod, ↓o_pow, ↓o_lt, ↓o_le, ↓o_gt, ↓o_ge, ↓o_eq, ↓o_ne, ↓o_truthB, ↓o_truthI, ↓o_truthN, ↓o_truthL, ↓o_truthT, ↓o_truthS, ↓o_notB, ↓o_isNN, ↓o_isBT, ↓o_isBF, ↓o_isT, ↓o_isIB, ↓o_isSB, ↓o_isLB, ↓o_isTB, ↓o_isNB, ↓o_isNot, ↓o_lenL, ↓o_lenT, ↓o_lenS, ↓o_abs, ↓o_intI, ↓o_intB, ↓o_str, ↓o_gcd, ↓o_list, ↓o_listT, ↓o_tuple, ↓o_tupleT, ↓o_rev, ↓o_type, ↓o_isi, ↓o_isi2, ↓o_rg1, ↓o_rg2, ↓o_zip, ↓o_zipT, ↓o_itemsL, ↓o_itemsT, ↓o_ixL, ↓o_ixT, ↓o_at0, ↓o_at1, ↓o_at2, ↓o_at3, ↓o_at4, ↓o_at5, ↓o_at6, ↓o_at7, ↓o_at8, ↓o_at9, ↓o_at10, ↓o_at11, ↓o_at12, ↓o_at13, ↓o_at14, ↓o_at15, ↓w_eIxO, ↓t_tup1, ↓t_tup2, ↓t_tup3, ↓t_tup9, ↓w_okOnly, ↓w_compN, ↓w_compC, ↓o_all, ↓o_any, ↓bls_nil, ↓bls_cons, ↓o_minL, ↓o_maxL, ↓o_sumL, ↓ints_nil, ↓ints_cons, ↓o_min3, ↓o_max3, ↓o_slL, ↓o_slT, ↓w_eBor, ↓w_bBor, o_isN, w_runF, tyName, isSubTy, tyNames, List.getElem?_cons_zero, List.getElem?_cons_succ, List.set_cons_zero, List.set_cons_succ, List.map_cons, List.map_nil, List.replicate_succ, List.replicate_zero, List.length_cons, List.length_nil, List.cons_append, List.nil_append, Nat.reduceAdd, Nat.reduceSub, Nat.reduceLeDiff, Nat.reduceEqDiff, reduceIte, if_true, if_false, Bool.not_true, Bool.not_false, Bool.true_and, Bool.and_true, Bool.false_and, Bool.and_false, Bool.true_or, Bool.false_or, Bool.or_true, Bool.or_false, reduceCtorEq, decide_true, decide_false, beq_self_eq_true, List.mem_cons, true_or, or_true, true_and, and_true, false_and, and_false, or_false, false_or, String.reduceEq, String.reduceBEq, List.not_mem_nil, Bool.not_eq_true, Bool.false_eq_true, eq_self, not_true_eq_false, not_false_eq_true, Bool.not_eq_eq_eq_not, decide_eq_true_eq, decide_eq_false_iff_not, bne_iff_ne, ne_eq, Int.reduceLT, Int.reduceLE, Int.reduceMul, Int.reduceAdd, Int.reduceNeg, Int.reduceToNat, Int.reducePow, Nat.reduceLT, Int.reduceEq, Int.reduceSub, zipD, List.zipWith_cons_cons, List.zipWith_nil_left, List.zipWith_nil_right, List.all_cons, List.all_nil, id_eq, scalD, borE, wipeE, noOwn, sz_0, szl_0, sz_1, szl_1, sz_2, szl_2, sz_3, szl_3, sz_4, szl_4, sz_5, szl_5, sz_6, szl_6, sz_7, szl_7, sz_8, szl_8, sz_9, szl_9, sz_10, szl_10, sz_11, szl_11, sz_12, szl_12, sz_13, szl_13, sz_14, szl_14, sz_15, szl_15, sz_16, szl_16, sz_17, szl_17, sz_18, szl_18, sz_19, szl_19, sz_20, szl_20, sz_21, szl_21, sz_22, szl_22, sz_23, szl_23, sz_24, szl_24, sz_25, szl_25, sz_26, szl_26, sz_27, szl_27, sz_28, szl_28, sz_29, szl_29, sz_30, szl_30, sz_31, szl_31, sz_32, szl_32, frz, List.all_cons, List.all_nil, i0, whole_int, hlog, hlen]
  refine w_forP (fun e => ∃ s5, e = [.val (.tup [.int p, .int q]), .val (.int m), .val (.int p), .val (.int q), s4, s5, s6, s7, s8, s9, s10, s11]) ⟨_, rfl⟩ ?_ ?_
  · rintro d hd env ⟨s5, rfl⟩
    rw [t_name]
    have key : m_is_whole [d] = .ok (.bl false) := by
      simp only [List.mem_cons, List.not_mem_nil, or_false] at hd
      rcases hd with rfl | rfl | rfl | rfl | rfl | rfl
      · exact whole_bl _
      · exact whole_bl _
      · exact whole_non
      · exact whole_str _
      · exact whole_tup _
      · exact whole_lst _
    simp only [b__law_kinds_hold_2, ↓wR_ok, ↓wR_err, ↓wR_bind, ↓wR_of, ↓wO_some, ↓wO_map, ↓wO_bind, ↓w_var0, ↓w_varS, ↓w_eC, ↓w_e1, ↓w_l1, ↓w_e2, ↓w_l2, ↓w_b1, ↓w_b2, ↓w_eB, ↓w_eF, ↓w_lF, ↓w_eCall, ↓w_eLst, ↓w_aNil, ↓w_aCons, ↓w_eTup, ↓w_lDisp, ↓w_eIf, ↓w_bAnd, ↓w_bOr, ↓w_bNot, ↓w_bYes, ↓w_bChain, ↓w_eAnd, ↓w_eOr, ↓w_iAny, ↓w_oNone, ↓w_oSomeC, ↓w_eSl, ↓w_lSlG, ↓w_lComp, ↓w_sSeq, ↓w_sNil, ↓w_sBreak, ↓w_sCont, ↓w_sSet, ↓w_sSetL, ↓w_sExpr, ↓w_sRet, ↓w_sRetN, ↓w_sIf, ↓w_own0, ↓w_ownS, ↓w_sRetO, ↓w_sApp, ↓w_sSetIx, ↓w_sFrz, ↓w_sThen, ↓w_sRaise, ↓w_sAsg, ↓w_sFor, ↓w_sTry, ↓t_name, ↓t_nil, ↓t_cons, ↓o_plus, ↓o_plusL, ↓o_lAdd, ↓o_sub, ↓o_neg, ↓o_mul, ↓o_fdiv, ↓o_mod, ↓o_pow, ↓o_lt, ↓o_le, ↓o_gt, ↓o_ge, ↓o_eq, ↓o_ne, ↓o_truthB, ↓o_truthI, ↓o_truthN, ↓o_truthL, ↓o_truthT, ↓o_truthS, ↓o_notB, ↓o_isNN, ↓o_isBT, ↓o_isBF, ↓o_isT, ↓o_isIB, ↓o_isSB, ↓o_isLB, ↓o_isTB, ↓o_isNB, ↓o_isNot, ↓o_lenL, ↓o_lenT, ↓o_lenS, ↓o_abs, ↓o_intI, ↓o_intB, ↓o_str, ↓o_gcd, ↓o_list, ↓o_listT, ↓o_tuple, ↓o_tupleT, ↓o_rev, ↓o_type, ↓o_isi, ↓o_isi2, ↓o_rg1, ↓o_rg2, ↓o_zip, ↓o_zipT, ↓o_itemsL, ↓o_itemsT, ↓o_ixL, ↓o_ixT, ↓o_at0, ↓o_at1, ↓o_at2, ↓o_at3, ↓o_at4, ↓o_at5, ↓o_at6, ↓o_at7, ↓o_at8, ↓o_at9, ↓o_at10, ↓o_at11, ↓o_at12, ↓o_at13, ↓o_at14, ↓o_at15, ↓w_eIxO, ↓t_tup1, ↓t_tup2, ↓t_tup3, ↓t_tup9, ↓w_okOnly, ↓w_compN, ↓w_compC, ↓o_all, ↓o_any, ↓bls_nil, ↓bls_cons, ↓o_minL, ↓o_maxL, ↓o_sumL, ↓ints_nil, ↓ints_cons, ↓o_min3, ↓o_max3, ↓o_slL, ↓o_slT, ↓w_eBor, ↓w_bBor, o_isN, w_runF, tyName, isSubTy, tyNames, List.getElem?_cons_zero, List.getElem?_cons_succ, List.set_cons_zero, List.set_cons_succ, List.map_cons, List.map_nil, List.replicate_succ, List.replicate_zero, List.length_cons, List.length_nil, List.cons_append, List.nil_append, Nat.reduceAdd, Nat.reduceSub, Nat.reduceLeDiff, Nat.reduceEqDiff, reduceIte, if_true, if_false, Bool.not_true, Bool.not_false, Bool.true_and, Bool.and_true, Bool.false_and, Bool.and_false, Bool.true_or, Bool.false_or, Bool.or_true, Bool.or_false, reduceCtorEq, decide_true, decide_false, beq_self_eq_true, List.mem_cons, true_or, or_true, true_and, and_true, false_and, and_false, or_false, false_or, String.reduceEq, String.reduceBEq, List.not_mem_nil, Bool.not_eq_true, Bool.false_eq_true, eq_self, not_true_eq_false, not_false_eq_true, Bool.not_eq_eq_eq_not, decide_eq_true_eq, decide_eq_false_iff_not, bne_iff_ne, ne_eq, Int.reduceLT, Int.reduceLE, Int.reduceMul, Int.reduceAdd, Int.reduceNeg, Int.reduceToNat, Int.reducePow, Nat.reduceLT, Int.reduceEq, Int.reduceSub, zipD, List.zipWith_cons_cons, List.zipWith_nil_left, List.zipWith_nil_right, List.all_cons, List.all_nil, id_eq, scalD, borE, wipeE, noOwn, sz_0, szl_0, sz_1, szl_1, sz_2, szl_2, sz_3, szl_3, sz_4, szl_4, sz_5, szl_5, sz_6, szl_6, sz_7, szl_7, sz_8, szl_8, sz_9, szl_9, sz_10, szl_10, sz_11, szl_11, sz_12, szl_12, sz_13, szl_13, sz_14, szl_14, sz_15, szl_15, sz_16, szl_16, sz_17, szl_17, sz_18, szl_18, sz_19, szl_19, sz_20, szl_20, sz_21, szl_21, sz_22, szl_22, sz_23, szl_23, sz_24, szl_24, sz_25, szl_25, sz_26, szl_26, sz_27, szl_27, sz_28, szl_28, sz_29, szl_29, sz_30, szl_30, sz_31, szl_31, sz_32, szl_32, frz, List.all_cons, List.all_nil, key]
    exact ⟨_, rfl⟩
  · rintro env ⟨s5, rfl⟩
    exact kd7 h hR
theorem kd_ok (h : Kd p q m) : m__law_kinds_hold [.tup [.int p, .int q], .int m] = .ok (.bl true) := by
  have hlog := h.log
  have hlen := h.len
  have h2 := h.m2
  have h6 := h.m6
  have q0 := h.q0
  have sm : Sm m := Sm.lt (by omega) (by omega)
  have sp : Sm p := sm_of (lt_up h.hp (by decide))
  have sq : Sm q := sm_of (lt_up h.hq (by decide))
  apply wR_eq
  simp only [m__law_kinds_hold, g__law_kinds_hold, ↓wR_ok, ↓wR_err, ↓wR_bind, ↓wR_of, ↓wO_some, ↓wO_map, ↓wO_bind, ↓w_var0, ↓w_varS, ↓w_eC, ↓w_e1, ↓w_l1, ↓w_e2, ↓w_l2, ↓w_b1, ↓w_b2, ↓w_eB, ↓w_eF, ↓w_lF, ↓w_eCall, ↓w_eLst, ↓w_aNil, ↓w_aCons, ↓w_eTup, ↓w_lDisp, ↓w_eIf, ↓w_bAnd, ↓w_bOr, ↓w_bNot, ↓w_bYes, ↓w_bChain, ↓w_eAnd, ↓w_eOr, ↓w_iAny, ↓w_oNone, ↓w_oSomeC, ↓w_eSl, ↓w_lSlG, ↓w_lComp, ↓w_sSeq, ↓w_sNil, ↓w_sBreak, ↓w_sCont, ↓w_sSet, ↓w_sSetL, ↓w_sExpr, ↓w_sRet, ↓w_sRetN, ↓w_sIf, ↓w_own0, ↓w_ownS, ↓w_sRetO, ↓w_sApp, ↓w_sSetIx, ↓w_sFrz, ↓w_sThen, ↓w_sRaise, ↓w_sAsg, ↓w_sFor, ↓w_sTry, ↓t_name, ↓t_nil, ↓t_cons, ↓o_plus, ↓o_plusL, ↓o_lAdd, ↓o_sub, ↓o_neg, ↓o_mul, ↓o_fdiv, ↓o_mod, ↓o_pow, ↓o_lt, ↓o_le, ↓o_gt, ↓o_ge, ↓o_eq, ↓o_ne, ↓o_truthB, ↓o_truthI, ↓o_truthN, ↓o_truthL, ↓o_truthT, ↓o_truthS, ↓o_notB, ↓o_isNN, ↓o_isBT, ↓o_isBF, ↓o_isT, ↓o_isIB, ↓o_isSB, ↓o_isLB, ↓o_isTB, ↓o_isNB, ↓o_isNot, ↓o_lenL, ↓o_lenT, ↓o_lenS, ↓o_abs, ↓o_intI, ↓o_intB, ↓o_str, ↓o_gcd, ↓o_list, ↓o_listT, ↓o_tuple, ↓o_tupleT, ↓o_rev, ↓o_type, ↓o_isi, ↓o_isi2, ↓o_rg1, ↓o_rg2, ↓o_zip, ↓o_zipT, ↓o_itemsL, ↓o_itemsT, ↓o_ixL, ↓o_ixT, ↓o_at0, ↓o_at1, ↓o_at2, ↓o_at3, ↓o_at4, ↓o_at5, ↓o_at6, ↓o_at7, ↓o_at8, ↓o_at9, ↓o_at10, ↓o_at11, ↓o_at12, ↓o_at13, ↓o_at14, ↓o_at15, ↓w_eIxO, ↓t_tup1, ↓t_tup2, ↓t_tup3, ↓t_tup9, ↓w_okOnly, ↓w_compN, ↓w_compC, ↓o_all, ↓o_any, ↓bls_nil, ↓bls_cons, ↓o_minL, ↓o_maxL, ↓o_sumL, ↓ints_nil, ↓ints_cons, ↓o_min3, ↓o_max3, ↓o_slL, ↓o_slT, ↓w_eBor, ↓w_bBor, o_isN, w_runF, tyName, isSubTy, tyNames, List.getElem?_cons_zero, List.getElem?_cons_succ, List.set_cons_zero, List.set_cons_succ, List.map_cons, List.map_nil, List.replicate_succ, List.replicate_zero, List.length_cons, List.length_nil, List.cons_append, List.nil_append, Nat.reduceAdd, Nat.reduceSub, Nat.reduceLeDiff, Nat.reduceEqDiff, reduceIte, if_true, if_false, Bool.not_true, Bool.not_false, Bool.true_and, Bool.and_true, Bool.false_and, Bool.and_false, Bool.true_or, Bool.false_or, Bool.or_true, Bool.or_false, reduceCtorEq, decide_true, decide_false, beq_self_eq_true, List.mem_cons, true_or, or_true, true_and, and_true, false_and, and_false, or_false, false_or, String.reduceEq, String.reduceBEq, List.not_mem_nil, Bool.not_eq_true, Bool.false_eq_true, eq_self, not_true_eq_false, not_false_eq_true, Bool.not_eq_eq_eq_not, decide_eq_true_eq, decide_eq_false_iff_not, bne_iff_ne, ne_eq, Int.reduceLT, Int.reduceLE, Int.reduceMul, Int.reduceAdd, Int.reduceNeg, Int.reduceToNat, Int.reducePow, Nat.reduceLT, Int.reduceEq, Int.reduceSub, zipD, List.zipWith_cons_cons, List.zipWith_nil_left, List.zipWith_nil_right, List.all_cons, List.all_nil, id_eq, scalD, borE, wipeE, noOwn, sz_0, szl_0, sz_1, szl_1, sz_2, szl_2, sz_3, szl_3, sz_4, szl_4, sz_5, szl_5, sz_6, szl_6, sz_7, szl_7, sz_8, szl_8, sz_9, szl_9, sz_10, szl_10, sz_11, szl_11, sz_12, szl_12, sz_13, szl_13, sz_14, szl_14, sz_15, szl_15, sz_16, szl_16, sz_17, szl_17, sz_18, szl_18, sz_19, szl_19, sz_20, szl_20, sz_21, szl_21, sz_22, szl_22, sz_23, szl_23, sz_24, szl_24, sz_25, szl_25, sz_26, szl_26, sz_27, szl_27, sz_28, szl_28, sz_29, szl_29, sz_30, szl_30, sz_31, szl_31, sz_32, szl_32, frz, List.all_cons, List.all_nil, sm, sp, sq, hlog, hlen]
  refine w_forP (fun e => ∃ s4 s5, e = [.val (.tup [.int p, .int q]), .val (.int m), .val (.int p), .val (.int q), s4, s5, .unk, .unk, .unk, .unk, .unk, .unk]) ⟨_, _, rfl⟩ ?_ ?_
  · rintro d hd env ⟨s4, s5, rfl⟩
    rw [t_name]
    have key : m_is_ratio [d] = .ok (.bl false) := by
      simp only [List.mem_cons, List.not_mem_nil, or_false] at hd
      rcases hd with rfl | rfl | rfl | rfl | rfl | rfl | rfl | rfl | rfl | rfl | rfl | rfl
      · refine isr_ints _ _ _ ?_
        have e : Nat.gcd (m * p).natAbs (m * q).natAbs = m.natAbs := by rw [Int.natAbs_mul, Int.natAbs_mul, Nat.gcd_mul_left, h.g, Nat.mul_one]
        have : ¬ Nat.gcd (m * p).natAbs (m * q).natAbs = 1 := by rw [e]; omega
        rw [decide_eq_false this, Bool.and_false]
      · exact isr_lst _
      · refine isr_ints _ _ _ ?_
        have : ¬ 1 ≤ -q := by omega
        rw [decide_eq_false this, Bool.false_and]
      · exact isr_ints _ _ _ (by rw [decide_eq_false (by decide), Bool.false_and])
      · exact isr_len _ (by simp)
      · exact isr_len _ (by simp)
      · exact isr_parts _ _ _ _ (whole_bl _) (whole_int _) rfl
      · exact isr_parts _ _ _ _ (whole_int _) (whole_bl _) rfl
      · exact isr_int _
      · exact isr_non
      · exact isr_str _
      · exact isr_parts _ _ _ _ (whole_str _) (whole_int _) rfl
    simp only [b__law_kinds_hold_1, ↓wR_ok, ↓wR_err, ↓wR_bind, ↓wR_of, ↓wO_some, ↓wO_map, ↓wO_bind, ↓w_var0, ↓w_varS, ↓w_eC, ↓w_e1, ↓w_l1, ↓w_e2, ↓w_l2, ↓w_b1, ↓w_b2, ↓w_eB, ↓w_eF, ↓w_lF, ↓w_eCall, ↓w_eLst, ↓w_aNil, ↓w_aCons, ↓w_eTup, ↓w_lDisp, ↓w_eIf, ↓w_bAnd, ↓w_bOr, ↓w_bNot, ↓w_bYes, ↓w_bChain, ↓w_eAnd, ↓w_eOr, ↓w_iAny, ↓w_oNone, ↓w_oSomeC, ↓w_eSl, ↓w_lSlG, ↓w_lComp, ↓w_sSeq, ↓w_sNil, ↓w_sBreak, ↓w_sCont, ↓w_sSet, ↓w_sSetL, ↓w_sExpr, ↓w_sRet, ↓w_sRetN, ↓w_sIf, ↓w_own0, ↓w_ownS, ↓w_sRetO, ↓w_sApp, ↓w_sSetIx, ↓w_sFrz, ↓w_sThen, ↓w_sRaise, ↓w_sAsg, ↓w_sFor, ↓w_sTry, ↓t_name, ↓t_nil, ↓t_cons, ↓o_plus, ↓o_plusL, ↓o_lAdd, ↓o_sub, ↓o_neg, ↓o_mul, ↓o_fdiv, ↓o_mod, ↓o_pow, ↓o_lt, ↓o_le, ↓o_gt, ↓o_ge, ↓o_eq, ↓o_ne, ↓o_truthB, ↓o_truthI, ↓o_truthN, ↓o_truthL, ↓o_truthT, ↓o_truthS, ↓o_notB, ↓o_isNN, ↓o_isBT, ↓o_isBF, ↓o_isT, ↓o_isIB, ↓o_isSB, ↓o_isLB, ↓o_isTB, ↓o_isNB, ↓o_isNot, ↓o_lenL, ↓o_lenT, ↓o_lenS, ↓o_abs, ↓o_intI, ↓o_intB, ↓o_str, ↓o_gcd, ↓o_list, ↓o_listT, ↓o_tuple, ↓o_tupleT, ↓o_rev, ↓o_type, ↓o_isi, ↓o_isi2, ↓o_rg1, ↓o_rg2, ↓o_zip, ↓o_zipT, ↓o_itemsL, ↓o_itemsT, ↓o_ixL, ↓o_ixT, ↓o_at0, ↓o_at1, ↓o_at2, ↓o_at3, ↓o_at4, ↓o_at5, ↓o_at6, ↓o_at7, ↓o_at8, ↓o_at9, ↓o_at10, ↓o_at11, ↓o_at12, ↓o_at13, ↓o_at14, ↓o_at15, ↓w_eIxO, ↓t_tup1, ↓t_tup2, ↓t_tup3, ↓t_tup9, ↓w_okOnly, ↓w_compN, ↓w_compC, ↓o_all, ↓o_any, ↓bls_nil, ↓bls_cons, ↓o_minL, ↓o_maxL, ↓o_sumL, ↓ints_nil, ↓ints_cons, ↓o_min3, ↓o_max3, ↓o_slL, ↓o_slT, ↓w_eBor, ↓w_bBor, o_isN, w_runF, tyName, isSubTy, tyNames, List.getElem?_cons_zero, List.getElem?_cons_succ, List.set_cons_zero, List.set_cons_succ, List.map_cons, List.map_nil, List.replicate_succ, List.replicate_zero, List.length_cons, List.length_nil, List.cons_append, List.nil_append, Nat.reduceAdd, Nat.reduceSub, Nat.reduceLeDiff, Nat.reduceEqDiff, reduceIte, if_true, if_false, Bool.not_true, Bool.not_false, Bool.true_and, Bool.and_true, Bool.false_and, Bool.and_false, Bool.true_or, Bool.false_or, Bool.or_true, Bool.or_false, reduceCtorEq, decide_true, decide_false, beq_self_eq_true, List.mem_cons, true_or, or_true, true_and, and_true, false_and, and_false, or_false, false_or, String.reduceEq, String.reduceBEq, List.not_mem_nil, Bool.not_eq_true, Bool.false_eq_true, eq_self, not_true_eq_false, not_false_eq_true, Bool.not_eq_eq_eq_not, decide_eq_true_eq, decide_eq_false_iff_not, bne_iff_ne, ne_eq, Int.reduceLT, Int.reduceLE, Int.reduceMul, Int.reduceAdd, Int.reduceNeg, Int.reduceToNat, Int.reducePow, Nat.reduceLT, Int.reduceEq, Int.reduceSub, zipD, List.zipWith_cons_cons, List.zipWith_nil_left, List.zipWith_nil_right, List.all_cons, List.all_nil, id_eq, scalD, borE, wipeE, noOwn, sz_0, szl_0, sz_1, szl_1, sz_2, szl_2, sz_3, szl_3, sz_4, szl_4, sz_5, szl_5, sz_6, szl_6, sz_7, szl_7, sz_8, szl_8, sz_9, szl_9, sz_10, szl_10, sz_11, szl_11, sz_12, szl_12, sz_13, szl_13, sz_14, szl_14, sz_15, szl_15, sz_16, szl_16, sz_17, szl_17, sz_18, szl_18, sz_19, szl_19, sz_20, szl_20, sz_21, szl_21, sz_22, szl_22, sz_23, szl_23, sz_24, szl_24, sz_25, szl_25, sz_26, szl_26, sz_27, szl_27, sz_28, szl_28, sz_29, szl_29, sz_30, szl_30, sz_31, szl_31, sz_32, szl_32, frz, List.all_cons, List.all_nil, key]
    exact ⟨_, _, rfl⟩
  · rintro env ⟨s4, s5, rfl⟩
    exact kd8 h rfl
end
theorem kinds_ok (x : Rat) (hx : Sz x) (m : Int) (h2 : 2 ≤ m) (h6 : m ≤ 6) : m__law_kinds_hold [rq x, .int m] = .ok (.bl true) :=
  kd_ok ⟨hx.1, hx.n, den_pos x, by rw [Int.natAbs_natCast]; exact x.reduced, h2, h6⟩
end AF

namespace AF
open PySem PySem.Spec PyProof.Rows L2
theorem o_pD0 {r : Int × Int} {Q : D → Prop} : wpO (dIx (pD r) (.int 0)) Q = Q (.int r.1) := o_at0
theorem o_pD1 {r : Int × Int} {Q : D → Prop} : wpO (dIx (pD r) (.int 1)) Q = Q (.int r.2) := o_at1
def xr (r : Int × Int) : Rat := Rat.divInt r.1 r.2
structure Raw (r : Int × Int) : Prop where
  p : r.1.natAbs < 2 ^ 38
  q0 : r.2 ≠ 0
  q : r.2.natAbs < 2 ^ 23
  s : Sz (xr r)
theorem Rw.sz {r : Int × Int} (h : Rw r) : Sz (xr r) := by
  have := div_sz r.1 r.2 h.2.1
  refine ⟨Nat.lt_of_le_of_lt this.1 h.1, ?_⟩
  have h2 := Int.le_of_dvd (by have := h.2.1; omega : 0 < (r.2.natAbs : Int)) (Int.dvd_natAbs.mpr this.2)
  have := h.2.2
  have e : ((xr r).den : Int) = (Rat.divInt r.1 r.2).den := rfl
  omega
theorem Rw.raw {r : Int × Int} (h : Rw r) : Raw r := ⟨lt_up h.1 (by decide), h.2.1, lt_up h.2.2 (by decide), h.sz⟩
theorem Rw.raw3 {r : Int × Int} (h : Rw r) : Raw (-3 * r.1, 3 * r.2) ∧ xr (-3 * r.1, 3 * r.2) = -xr r := by
  have e : xr (-3 * r.1, 3 * r.2) = -xr r := by
    show Rat.divInt (-3 * r.1) (3 * r.2) = -Rat.divInt r.1 r.2
    rw [Rat.neg_divInt, ← Rat.divInt_mul_left (n := -r.1) (d := r.2) (show (3 : Int) ≠ 0 by decide)]
    congr 1
    omega
  refine ⟨⟨?_, ?_, ?_, ?_⟩, e⟩
  · exact lt_up (mul_lt (x := -3) (a := 2) (by decide) h.1) (by decide)
  · exact Int.mul_ne_zero (by decide) h.2.1
  · exact lt_up (mul_lt (x := 3) (a := 2) (by decide) h.2.2) (by decide)
  · rw [e]
    have := h.sz
    exact ⟨by rw [Rat.neg_num, Int.natAbs_neg]; exact this.1, by rw [Rat.neg_den]; exact this.2⟩
theorem Rw.rawm {r : Int × Int} (h : Rw r) {m : Int} (h2 : 2 ≤ m) (h4 : m ≤ 4) : Raw (-m * r.1, -m * r.2) ∧ xr (-m * r.1, -m * r.2) = xr r := by
  have e : xr (-m * r.1, -m * r.2) = xr r := Rat.divInt_mul_left (by omega)
  refine ⟨⟨?_, ?_, ?_, ?_⟩, e⟩
  · exact lt_up (mul_lt (x := -m) (a := 3) (by omega) h.1) (by decide)
  · exact Int.mul_ne_zero (by omega) h.2.1
  · exact lt_up (mul_lt (x := -m) (a := 3) (by omega) h.2.2) (by decide)
  · rw [e]; exact h.sz
theorem Raw.low {r : Int × Int} (h : Raw r) : m__law_lowest [.int r.1, .int r.2] = .ok (rq (xr r)) :=
  lowest_ok r.1 r.2 h.q0 (lt_up h.q (by decide)) (Nat.lt_of_lt_of_le (nat_mul h.p h.q) (by decide))
theorem sgn_xr {r : Int × Int} (h : r.2 ≠ 0) : sgn (xr r).num = sgn (r.1 * r.2) := by
  by_cases h0 : 0 < r.2
  · show sgn (Rat.divInt r.1 r.2).num = _
    rw [sgn_num _ h0, sgn_mul _ h0]
  · show sgn (Rat.divInt r.1 r.2).num = _
    rw [← Rat.neg_divInt_neg, sgn_num _ (by omega), show r.1 * r.2 = (-r.1) * (-r.2) from by rw [Int.neg_mul_neg], sgn_mul _ (by omega)]
theorem one_body {rs : List (Int × Int)} {k : Nat} {r : Int × Int} (hr : rs[k]? = some r) (h : Raw r) {s : List Int} (hs : Draw s) {d0 d1 : D} {s6 s7 s8 s9 s10 : Sl} {N B C : En → Prop} {R : D → Prop} {ES : Er → En → Prop}
    (hN : ∀ s6 s7 s8 s9, N [.val d0, .val d1, .val (.lst (s.map .int)), .val (.lst (rs.map pD)), .val (.lst (rs.map fun r => rq (xr r))), .val (.int k), s6, s7, s8, s9, s10]) :
    wpS (b_law_1 [.val d0, .val d1, .val (.lst (s.map .int)), .val (.lst (rs.map pD)), .val (.lst (rs.map fun r => rq (xr r))), .val (.int k), s6, s7, s8, s9, s10]) N R ES B C := by
  obtain ⟨a15, ha15, e15⟩ := draw_at hs (i := 15) (by omega)
  have e15 := e15 15 rfl
  have o1 : ∀ Q : D → Prop, wpO (atI (rs.map pD) (k : Int)) Q = Q (pD r) := fun Q => o_at (by rw [List.getElem?_map, hr]; rfl)
  have o2 : ∀ Q : D → Prop, wpO (atI (rs.map fun r => rq (xr r)) (k : Int)) Q = Q (rq (xr r)) := fun Q => o_at (by rw [List.getElem?_map, hr]; rfl)
  have l1 := lratio_ok r.1 r.2 h.q0 (lt_up h.q (by decide))
  have l2 := lratio_no r.1
  have l3 := lover_no (xr r) 0 h.s.bd ⟨by decide, by decide⟩ rfl
  have e0 : rq 0 = .tup [.int 0, .int 1] := rfl
  rw [e0] at l3
  have sm1 : Sm r.1 := sm_of (lt_up h.p (by decide))
  have sm2 : Sm r.2 := sm_of (lt_up h.q (by decide))
  have s9 : S9 ((xr r).den : Int) := s9_of (den_ne _) (lt_up h.s.n (by decide))
  have l4 := order_ok (r.1 * r.2) 1 0 1 (lt_up (mul_lt h.p h.q) (by decide)) (by decide) (by decide) (by decide)
  have e4 : sgn (r.1 * r.2 * 1 - 0 * 1) = sgn (xr r).num := by rw [sgn_xr h.q0]; congr 1; omega
  rw [e4] at l4
  have fin := same_ok 40 (.lst [.lst [rq (xr r)], .int (sgn (xr r).num), .int ((xr r).num.fdiv (xr r).den), .lst [], .lst []]) rfl
  have hm := fmod_pos a15 (show (0 : Int) < 5 from by decide)
  have kk := kinds_ok (xr r) h.s (2 + a15.fmod 5) (by omega) (by omega)
  have e1 : rq (Rat.divInt r.1 r.2) = rq (xr r) := rfl
  rw [e1] at l1
  simp only [b_law_1, ↓wR_ok, ↓wR_err, ↓wR_bind, ↓wR_of, ↓wO_some, ↓wO_map, ↓wO_bind, ↓w_var0, ↓w_varS, ↓w_eC, ↓w_e1, ↓w_l1, ↓w_e2, ↓w_l2, ↓w_b1, ↓w_b2, ↓w_eB, ↓w_eF, ↓w_lF, ↓w_eCall, ↓w_eLst, ↓w_aNil, ↓w_aCons, ↓w_eTup, ↓w_lDisp, ↓w_eIf, ↓w_bAnd, ↓w_bOr, ↓w_bNot, ↓w_bYes, ↓w_bChain, ↓w_eAnd, ↓w_eOr, ↓w_iAny, ↓w_oNone, ↓w_oSomeC, ↓w_eSl, ↓w_lSlG, ↓w_lComp, ↓w_sSeq, ↓w_sNil, ↓w_sBreak, ↓w_sCont, ↓w_sSet, ↓w_sSetL, ↓w_sExpr, ↓w_sRet, ↓w_sRetN, ↓w_sIf, ↓w_own0, ↓w_ownS, ↓w_sRetO, ↓w_sApp, ↓w_sSetIx, ↓w_sFrz, ↓w_sThen, ↓w_sRaise, ↓w_sAsg, ↓w_sFor, ↓w_sTry, ↓t_name, ↓t_nil, ↓t_cons, ↓o_plus, ↓o_plusL, ↓o_lAdd, ↓o_sub, ↓o_neg, ↓o_mul, ↓o_fdiv, ↓o_mod, ↓o_pow, ↓o_lt, ↓o_le, ↓o_gt, ↓o_ge, ↓o_eq, ↓o_ne, ↓o_truthB, ↓o_truthI, ↓o_truthN, ↓o_truthL, ↓o_truthT, ↓o_truthS, ↓o_notB, ↓o_isNN, ↓o_isBT, ↓o_isBF, ↓o_isT, ↓o_isIB, ↓o_isSB, ↓o_isLB, ↓o_isTB, ↓o_isNB, ↓o_isNot, ↓o_lenL, ↓o_lenT, ↓o_lenS, ↓o_abs, ↓o_intI, ↓o_intB, ↓o_str, ↓o_gcd, ↓o_list, ↓o_listT, ↓o_tuple, ↓o_tupleT, ↓o_rev, ↓o_type, ↓o_isi, ↓o_isi2, ↓o_rg1, ↓o_rg2, ↓o_zip, ↓o_zipT, ↓o_itemsL, ↓o_itemsT, ↓o_ixL, ↓o_ixT, ↓o_at0, ↓o_at1, ↓o_at2, ↓o_at3, ↓o_at4, ↓o_at5, ↓o_at6, ↓o_at7, ↓o_at8, ↓o_at9, ↓o_at10, ↓o_at11, ↓o_at12, ↓o_at13, ↓o_at14, ↓o_at15, ↓w_eIxO, ↓t_tup1, ↓t_tup2, ↓t_tup3, ↓t_tup9, ↓w_okOnly, ↓w_compN, ↓w_compC, ↓o_all, ↓o_any, ↓bls_nil, ↓bls_cons, ↓o_minL, ↓o_maxL, ↓o_sumL, ↓ints_nil, ↓ints_cons, ↓o_min3, ↓o_max3, ↓o_slL, ↓o_slT, ↓w_eBor, ↓w_bBor, o_isN, w_runF, tyName, isSubTy, tyNames, List.getElem?_cons_zero, List.getElem?_cons_succ, List.set_cons_zero, List.set_cons_succ, List.map_cons, List.map_nil, List.replicate_succ, List.replicate_zero, List.length_cons, List.length_nil, List.cons_append, List.nil_append, Nat.reduceAdd, Nat.reduceSub, Nat.reduceLeDiff, Nat.reduceEqDiff, reduceIte, if_true, if_false, Bool.not_true, Bool.not_false, Bool.true_and, Bool.and_true, Bool.false_and, Bool.and_false, Bool.true_or, Bool.false_or, Bool.or_true, Bool.or_false, reduceCtorEq, decide_true, decide_false, beq_self_eq_true, List.mem_cons, true_or, or_true, true_and, and_true, false_and, and_false, or_false, false_or, String.reduceEq, String.reduceBEq, List.not_mem_nil, Bool.not_eq_true, Bool.false_eq_true, eq_self, not_true_eq_false, not_false_eq_true, Bool.not_eq_eq_eq_not, decide_eq_true_eq, decide_eq_false_iff_not, bne_iff_ne, ne_eq, Int.reduceLT, Int.reduceLE, Int.reduceMul, Int.reduceAdd, Int.reduceNeg, Int.reduceToNat, Int.reducePow, Nat.reduceLT, Int.reduceEq, Int.reduceSub, zipD, List.zipWith_cons_cons, List.zipWith_nil_left, List.zipWith_nil_right, List.all_cons, List.all_nil, id_eq, scalD, borE, wipeE, noOwn, sz_0, szl_0, sz_1, szl_1, sz_2, szl_2, sz_3, szl_3, sz_4, szl_4, sz_5, szl_5, sz_6, szl_6, sz_7, szl_7, sz_8, szl_8, sz_9, szl_9, sz_10, szl_10, sz_11, szl_11, sz_12, szl_12, sz_13, szl_13, sz_14, szl_14, sz_15, szl_15, sz_16, szl_16, sz_17, szl_17, sz_18, szl_18, sz_19, szl_19, sz_20, szl_20, sz_21, szl_21, sz_22, szl_22, sz_23, szl_23, sz_24, szl_24, sz_25, szl_25, sz_26, szl_26, sz_27, szl_27, sz_28, szl_28, sz_29, szl_29, sz_30, szl_30, sz_31, szl_31, sz_32, szl_32, frz, List.all_cons, List.all_nil, o1, o2, o_pD0, o_pD1, o_rq0, o_rq1, l1, l2, l3, l4, sign_ok, floor_ok (xr r) h.s.bd, sm1, sm2, s9, fin, e15, kk]
  exact hN _ _ _ _
theorem keeps : Keeps m_law := by
  intro ns h63 hb
  obtain ⟨f, f1, f2, f3⟩ := numbers_ok ns hb 0 16 (by decide) (by decide)
  obtain ⟨s, s1, s2, s3⟩ := numbers_ok ns hb 1 16 (by decide) (by decide)
  have hf : Draw f := ⟨f1, f2⟩
  have hs : Draw s := ⟨s1, s2⟩
  obtain ⟨r0, r1, r2, r3, r4, m, h0, h1, h2, h3, h4, m2, m4, hraws⟩ := raws_ok hf hs
  have f3 : m__law_numbers [.lst (ns.map .int), .int 0, .int 16] = _ := f3
  have s3 : m__law_numbers [.lst (ns.map .int), .int 1, .int 16] = _ := s3
  obtain ⟨rs, hrs⟩ : ∃ rs : List (Int × Int), rs = [r0, r1, r2, r3, r4, (-3 * r0.1, 3 * r0.2), (-m * r1.1, -m * r1.2)] := ⟨_, rfl⟩
  have hraws : m__law_raws [.lst (f.map .int), .lst (s.map .int)] = .ok (.lst (rs.map pD)) := by rw [hraws, hrs]; rfl
  have hl : rs.length = 7 := by rw [hrs]; rfl
  have hR : ∀ r ∈ rs, Raw r := by
    intro r hr
    rw [hrs] at hr
    simp only [List.mem_cons, List.not_mem_nil, or_false] at hr
    rcases hr with rfl | rfl | rfl | rfl | rfl | rfl | rfl
    · exact h0.raw
    · exact h1.raw
    · exact h2.raw
    · exact h3.raw
    · exact h4.raw
    · exact h0.raw3.1
    · exact (h1.rawm m2 m4).1
  have hxs : (rs.map xr) = [xr r0, xr r1, xr r2, xr r3, xr r4, -xr r0, xr r1] := by
    rw [hrs]
    simp only [List.map_cons, List.map_nil, h0.raw3.2, (h1.rawm m2 m4).2]
  have hM0 : (xr r0).den * (xr r1).den * (xr r2).den * (xr r3).den * (xr r4).den ≠ 0 :=
    Nat.mul_ne_zero (Nat.mul_ne_zero (Nat.mul_ne_zero (Nat.mul_ne_zero (Rat.den_nz _) (Rat.den_nz _)) (Rat.den_nz _)) (Rat.den_nz _)) (Rat.den_nz _)
  have hM1 : (xr r0).den * (xr r1).den * (xr r2).den * (xr r3).den * (xr r4).den < 2 ^ 100 :=
    nat_mul (n := 80) (m := 20) (nat_mul (n := 60) (m := 20) (nat_mul (n := 40) (m := 20) (nat_mul (n := 20) (m := 20) h0.sz.2 h1.sz.2) h2.sz.2) h3.sz.2) h4.sz.2
  have hsz : ∀ x ∈ rs.map xr, Sz x := fun x hx => by
    obtain ⟨r, hr, rfl⟩ := List.mem_map.mp hx
    exact (hR r hr).s
  have hdv : ∀ x ∈ rs.map xr, x.den ∣ (xr r0).den * (xr r1).den * (xr r2).den * (xr r3).den * (xr r4).den := by
    intro x hx
    rw [hxs] at hx
    simp only [List.mem_cons, List.not_mem_nil, or_false] at hx
    have d0 : (xr r0).den ∣ (xr r0).den * (xr r1).den * (xr r2).den * (xr r3).den * (xr r4).den :=
      Nat.dvd_mul_right_of_dvd (Nat.dvd_mul_right_of_dvd (Nat.dvd_mul_right_of_dvd (Nat.dvd_mul_right _ _) _) _) _
    have d1 : (xr r1).den ∣ (xr r0).den * (xr r1).den * (xr r2).den * (xr r3).den * (xr r4).den :=
      Nat.dvd_mul_right_of_dvd (Nat.dvd_mul_right_of_dvd (Nat.dvd_mul_right_of_dvd (Nat.dvd_mul_left _ _) _) _) _
    rcases hx with rfl | rfl | rfl | rfl | rfl | rfl | rfl
    · exact d0
    · exact d1
    · exact Nat.dvd_mul_right_of_dvd (Nat.dvd_mul_right_of_dvd (Nat.dvd_mul_left _ _) _) _
    · exact Nat.dvd_mul_right_of_dvd (Nat.dvd_mul_left _ _) _
    · exact Nat.dvd_mul_left _ _
    · rw [Rat.neg_den]; exact d0
    · exact d1
  have hp := pairs_ok (rs.map xr) hsz
  have hls := lists_ok hM0 hM1 (xs := rs.map xr) (by rw [List.length_map]; exact hl) hsz hdv
  rw [List.map_map] at hp hls
  apply wR_eq
  simp only [m_law, g_law, ↓wR_ok, ↓wR_err, ↓wR_bind, ↓wR_of, ↓wO_some, ↓wO_map, ↓wO_bind, ↓w_var0, ↓w_varS, ↓w_eC, ↓w_e1, ↓w_l1, ↓w_e2, ↓w_l2, ↓w_b1, ↓w_b2, ↓w_eB, ↓w_eF, ↓w_lF, ↓w_eCall, ↓w_eLst, ↓w_aNil, ↓w_aCons, ↓w_eTup, ↓w_lDisp, ↓w_eIf, ↓w_bAnd, ↓w_bOr, ↓w_bNot, ↓w_bYes, ↓w_bChain, ↓w_eAnd, ↓w_eOr, ↓w_iAny, ↓w_oNone, ↓w_oSomeC, ↓w_eSl, ↓w_lSlG, ↓w_lComp, ↓w_sSeq, ↓w_sNil, ↓w_sBreak, ↓w_sCont, ↓w_sSet, ↓w_sSetL, ↓w_sExpr, ↓w_sRet, ↓w_sRetN, ↓w_sIf, ↓w_own0, ↓w_ownS, ↓w_sRetO, ↓w_sApp, ↓w_sSetIx, ↓w_sFrz, ↓w_sThen, ↓w_sRaise, ↓w_sAsg, ↓w_sFor, ↓w_sTry, ↓t_name, ↓t_nil, ↓t_cons, ↓o_plus, ↓o_plusL, ↓o_lAdd, ↓o_sub, ↓o_neg, ↓o_mul, ↓o_fdiv, ↓o_mod, ↓o_pow, ↓o_lt, ↓o_le, ↓o_gt, ↓o_ge, ↓o_eq, ↓o_ne, ↓o_truthB, ↓o_truthI, ↓o_truthN, ↓o_truthL, ↓o_truthT, ↓o_truthS, ↓o_notB, ↓o_isNN, ↓o_isBT, ↓o_isBF, ↓o_isT, ↓o_isIB, ↓o_isSB, ↓o_isLB, ↓o_isTB, ↓o_isNB, ↓o_isNot, ↓o_lenL, ↓o_lenT, ↓o_lenS, ↓o_abs, ↓o_intI, ↓o_intB, ↓o_str, ↓o_gcd, ↓o_list, ↓o_listT, ↓o_tuple, ↓o_tupleT, ↓o_rev, ↓o_type, ↓o_isi, ↓o_isi2, ↓o_rg1, ↓o_rg2, ↓o_zip, ↓o_zipT, ↓o_itemsL, ↓o_itemsT, ↓o_ixL, ↓o_ixT, ↓o_at0, ↓o_at1, ↓o_at2, ↓o_at3, ↓o_at4, ↓o_at5, ↓o_at6, ↓o_at7, ↓o_at8, ↓o_at9, ↓o_at10, ↓o_at11, ↓o_at12, ↓o_at13, ↓o_at14, ↓o_at15, ↓w_eIxO, ↓t_tup1, ↓t_tup2, ↓t_tup3, ↓t_tup9, ↓w_okOnly, ↓w_compN, ↓w_compC, ↓o_all, ↓o_any, ↓bls_nil, ↓bls_cons, ↓o_minL, ↓o_maxL, ↓o_sumL, ↓ints_nil, ↓ints_cons, ↓o_min3, ↓o_max3, ↓o_slL, ↓o_slT, ↓w_eBor, ↓w_bBor, o_isN, w_runF, tyName, isSubTy, tyNames, List.getElem?_cons_zero, List.getElem?_cons_succ, List.set_cons_zero, List.set_cons_succ, List.map_cons, List.map_nil, List.replicate_succ, List.replicate_zero, List.length_cons, List.length_nil, List.cons_append, List.nil_append, Nat.reduceAdd, Nat.reduceSub, Nat.reduceLeDiff, Nat.reduceEqDiff, reduceIte, if_true, if_false, Bool.not_true, Bool.not_false, Bool.true_and, Bool.and_true, Bool.false_and, Bool.and_false, Bool.true_or, Bool.false_or, Bool.or_true, Bool.or_false, reduceCtorEq, decide_true, decide_false, beq_self_eq_true, List.mem_cons, true_or, or_true, true_and, and_true, false_and, and_false, or_false, false_or, String.reduceEq, String.reduceBEq, List.not_mem_nil, Bool.not_eq_true, Bool.false_eq_true, eq_self, not_true_eq_false, not_false_eq_true, Bool.not_eq_eq_eq_not, decide_eq_true_eq, decide_eq_false_iff_not, bne_iff_ne, ne_eq, Int.reduceLT, Int.reduceLE, Int.reduceMul, Int.reduceAdd, Int.reduceNeg, Int.reduceToNat, Int.reducePow, Nat.reduceLT, Int.reduceEq, Int.reduceSub, zipD, List.zipWith_cons_cons, List.zipWith_nil_left, List.zipWith_nil_right, List.all_cons, List.all_nil, id_eq, scalD, borE, wipeE, noOwn, sz_0, szl_0, sz_1, szl_1, sz_2, szl_2, sz_3, szl_3, sz_4, szl_4, sz_5, szl_5, sz_6, szl_6, sz_7, szl_7, sz_8, szl_8, sz_9, szl_9, sz_10, szl_10, sz_11, szl_11, sz_12, szl_12, sz_13, szl_13, sz_14, szl_14, sz_15, szl_15, sz_16, szl_16, sz_17, szl_17, sz_18, szl_18, sz_19, szl_19, sz_20, szl_20, sz_21, szl_21, sz_22, szl_22, sz_23, szl_23, sz_24, szl_24, sz_25, szl_25, sz_26, szl_26, sz_27, szl_27, sz_28, szl_28, sz_29, szl_29, sz_30, szl_30, sz_31, szl_31, sz_32, szl_32, frz, List.all_cons, List.all_nil, f3, s3, hraws, List.length_map, hl]
  refine w_compF (fun d => match d with | .tup [.int p, .int q] => rq (xr (p, q)) | d => d) ?_ ?_
  · intro d hd
    obtain ⟨r, hr, rfl⟩ := List.mem_map.mp hd
    rw [t_name]
    simp only [↓wR_ok, ↓wR_err, ↓wR_bind, ↓wR_of, ↓wO_some, ↓wO_map, ↓wO_bind, ↓w_var0, ↓w_varS, ↓w_eC, ↓w_e1, ↓w_l1, ↓w_e2, ↓w_l2, ↓w_b1, ↓w_b2, ↓w_eB, ↓w_eF, ↓w_lF, ↓w_eCall, ↓w_eLst, ↓w_aNil, ↓w_aCons, ↓w_eTup, ↓w_lDisp, ↓w_eIf, ↓w_bAnd, ↓w_bOr, ↓w_bNot, ↓w_bYes, ↓w_bChain, ↓w_eAnd, ↓w_eOr, ↓w_iAny, ↓w_oNone, ↓w_oSomeC, ↓w_eSl, ↓w_lSlG, ↓w_lComp, ↓w_sSeq, ↓w_sNil, ↓w_sBreak, ↓w_sCont, ↓w_sSet, ↓w_sSetL, ↓w_sExpr, ↓w_sRet, ↓w_sRetN, ↓w_sIf, ↓w_own0, ↓w_ownS, ↓w_sRetO, ↓w_sApp, ↓w_sSetIx, ↓w_sFrz, ↓w_sThen, ↓w_sRaise, ↓w_sAsg, ↓w_sFor, ↓w_sTry, ↓t_name, ↓t_nil, ↓t_cons, ↓o_plus, ↓o_plusL, ↓o_lAdd, ↓o_sub, ↓o_neg, ↓o_mul, ↓o_fdiv, ↓o_mod, ↓o_pow, ↓o_lt, ↓o_le, ↓o_gt, ↓o_ge, ↓o_eq, ↓o_ne, ↓o_truthB, ↓o_truthI, ↓o_truthN, ↓o_truthL, ↓o_truthT, ↓o_truthS, ↓o_notB, ↓o_isNN, ↓o_isBT, ↓o_isBF, ↓o_isT, ↓o_isIB, ↓o_isSB, ↓o_isLB, ↓o_isTB, ↓o_isNB, ↓o_isNot, ↓o_lenL, ↓o_lenT, ↓o_lenS, ↓o_abs, ↓o_intI, ↓o_intB, ↓o_str, ↓o_gcd, ↓o_list, ↓o_listT, ↓o_tuple, ↓o_tupleT, ↓o_rev, ↓o_type, ↓o_isi, ↓o_isi2, ↓o_rg1, ↓o_rg2, ↓o_zip, ↓o_zipT, ↓o_itemsL, ↓o_itemsT, ↓o_ixL, ↓o_ixT, ↓o_at0, ↓o_at1, ↓o_at2, ↓o_at3, ↓o_at4, ↓o_at5, ↓o_at6, ↓o_at7, ↓o_at8, ↓o_at9, ↓o_at10, ↓o_at11, ↓o_at12, ↓o_at13, ↓o_at14, ↓o_at15, ↓w_eIxO, ↓t_tup1, ↓t_tup2, ↓t_tup3, ↓t_tup9, ↓w_okOnly, ↓w_compN, ↓w_compC, ↓o_all, ↓o_any, ↓bls_nil, ↓bls_cons, ↓o_minL, ↓o_maxL, ↓o_sumL, ↓ints_nil, ↓ints_cons, ↓o_min3, ↓o_max3, ↓o_slL, ↓o_slT, ↓w_eBor, ↓w_bBor, o_isN, w_runF, tyName, isSubTy, tyNames, List.getElem?_cons_zero, List.getElem?_cons_succ, List.set_cons_zero, List.set_cons_succ, List.map_cons, List.map_nil, List.replicate_succ, List.replicate_zero, List.length_cons, List.length_nil, List.cons_append, List.nil_append, Nat.reduceAdd, Nat.reduceSub, Nat.reduceLeDiff, Nat.reduceEqDiff, reduceIte, if_true, if_false, Bool.not_true, Bool.not_false, Bool.true_and, Bool.and_true, Bool.false_and, Bool.and_false, Bool.true_or, Bool.false_or, Bool.or_true, Bool.or_false, reduceCtorEq, decide_true, decide_false, beq_self_eq_true, List.mem_cons, true_or, or_true, true_and, and_true, false_and, and_false, or_false, false_or, String.reduceEq, String.reduceBEq, List.not_mem_nil, Bool.not_eq_true, Bool.false_eq_true, eq_self, not_true_eq_false, not_false_eq_true, Bool.not_eq_eq_eq_not, decide_eq_true_eq, decide_eq_false_iff_not, bne_iff_ne, ne_eq, Int.reduceLT, Int.reduceLE, Int.reduceMul, Int.reduceAdd, Int.reduceNeg, Int.reduceToNat, Int.reducePow, Nat.reduceLT, Int.reduceEq, Int.reduceSub, zipD, List.zipWith_cons_cons, List.zipWith_nil_left, List.zipWith_nil_right, List.all_cons, List.all_nil, id_eq, scalD, borE, wipeE, noOwn, sz_0, szl_0, sz_1, szl_1, sz_2, szl_2, sz_3, szl_3, sz_4, szl_4, sz_5, szl_5, sz_6, szl_6, sz_7, szl_7, sz_8, szl_8, sz_9, szl_9, sz_10, szl_10, sz_11, szl_11, sz_12, szl_12, sz_13, szl_13, sz_14, szl_14, sz_15, szl_15, sz_16, szl_16, sz_17, szl_17, sz_18, szl_18, sz_19, szl_19, sz_20, szl_20, sz_21, szl_21, sz_22, szl_22, sz_23, szl_23, sz_24, szl_24, sz_25, szl_25, sz_26, szl_26, sz_27, szl_27, sz_28, szl_28, sz_29, szl_29, sz_30, szl_30, sz_31, szl_31, sz_32, szl_32, frz, List.all_cons, List.all_nil, o_pD0, o_pD1, (hR r hr).low]
    rfl
  · rw [List.map_map]
    have e : ((fun d => match d with | .tup [.int p, .int q] => rq (xr (p, q)) | d => d) ∘ pD) = fun r => rq (xr r) := rfl
    rw [e]
    refine w_forI (fun i e => ∃ s5 s6 s7 s8 s9, e = [.val (.lst (ns.map .int)), .val (.lst (f.map .int)), .val (.lst (s.map .int)), .val (.lst (rs.map pD)), .val (.lst (rs.map fun r => rq (xr r))), s5, s6, s7, s8, s9, .unk]) ⟨_, _, _, _, _, rfl⟩ ?_ ?_
    · rintro i d env hd ⟨s5, s6, s7, s8, s9, rfl⟩
      obtain ⟨rfl, hi⟩ := rangeD_get hd
      have hi7 : i < 7 := hi
      rw [t_name, show (0 : Int) + (i : Int) = (i : Int) from by omega]
      have hr : rs[i]? = some rs[i] := List.getElem?_eq_getElem (by omega)
      exact one_body hr (hR _ (List.getElem_mem _)) hs fun a b c d => ⟨_, a, b, c, d, rfl⟩
    · rintro env ⟨s5, s6, s7, s8, s9, rfl⟩
      have hp : m__law_pairs_hold [.lst (rs.map fun r => rq (xr r))] = .ok (.bl true) := hp
      have hls : m__law_lists_hold [.lst (rs.map fun r => rq (xr r))] = .ok (.bl true) := hls
      simp only [r_law_2, ↓wR_ok, ↓wR_err, ↓wR_bind, ↓wR_of, ↓wO_some, ↓wO_map, ↓wO_bind, ↓w_var0, ↓w_varS, ↓w_eC, ↓w_e1, ↓w_l1, ↓w_e2, ↓w_l2, ↓w_b1, ↓w_b2, ↓w_eB, ↓w_eF, ↓w_lF, ↓w_eCall, ↓w_eLst, ↓w_aNil, ↓w_aCons, ↓w_eTup, ↓w_lDisp, ↓w_eIf, ↓w_bAnd, ↓w_bOr, ↓w_bNot, ↓w_bYes, ↓w_bChain, ↓w_eAnd, ↓w_eOr, ↓w_iAny, ↓w_oNone, ↓w_oSomeC, ↓w_eSl, ↓w_lSlG, ↓w_lComp, ↓w_sSeq, ↓w_sNil, ↓w_sBreak, ↓w_sCont, ↓w_sSet, ↓w_sSetL, ↓w_sExpr, ↓w_sRet, ↓w_sRetN, ↓w_sIf, ↓w_own0, ↓w_ownS, ↓w_sRetO, ↓w_sApp, ↓w_sSetIx, ↓w_sFrz, ↓w_sThen, ↓w_sRaise, ↓w_sAsg, ↓w_sFor, ↓w_sTry, ↓t_name, ↓t_nil, ↓t_cons, ↓o_plus, ↓o_plusL, ↓o_lAdd, ↓o_sub, ↓o_neg, ↓o_mul, ↓o_fdiv, ↓o_mod, ↓o_pow, ↓o_lt, ↓o_le, ↓o_gt, ↓o_ge, ↓o_eq, ↓o_ne, ↓o_truthB, ↓o_truthI, ↓o_truthN, ↓o_truthL, ↓o_truthT, ↓o_truthS, ↓o_notB, ↓o_isNN, ↓o_isBT, ↓o_isBF, ↓o_isT, ↓o_isIB, ↓o_isSB, ↓o_isLB, ↓o_isTB, ↓o_isNB, ↓o_isNot, ↓o_lenL, ↓o_lenT, ↓o_lenS, ↓o_abs, ↓o_intI, ↓o_intB, ↓o_str, ↓o_gcd, ↓o_list, ↓o_listT, ↓o_tuple, ↓o_tupleT, ↓o_rev, ↓o_type, ↓o_isi, ↓o_isi2, ↓o_rg1, ↓o_rg2, ↓o_zip, ↓o_zipT, ↓o_itemsL, ↓o_itemsT, ↓o_ixL, ↓o_ixT, ↓o_at0, ↓o_at1, ↓o_at2, ↓o_at3, ↓o_at4, ↓o_at5, ↓o_at6, ↓o_at7, ↓o_at8, ↓o_at9, ↓o_at10, ↓o_at11, ↓o_at12, ↓o_at13, ↓o_at14, ↓o_at15, ↓w_eIxO, ↓t_tup1, ↓t_tup2, ↓t_tup3, ↓t_tup9, ↓w_okOnly, ↓w_compN, ↓w_compC, ↓o_all, ↓o_any, ↓bls_nil, ↓bls_cons, ↓o_minL, ↓o_maxL, ↓o_sumL, ↓ints_nil, ↓ints_cons, ↓o_min3, ↓o_max3, ↓o_slL, ↓o_slT, ↓w_eBor, ↓w_bBor, o_isN, w_runF, tyName, isSubTy, tyNames, List.getElem?_cons_zero, List.getElem?_cons_succ, List.set_cons_zero, List.set_cons_succ, List.map_cons, List.map_nil, List.replicate_succ, List.replicate_zero, List.length_cons, List.length_nil, List.cons_append, List.nil_append, Nat.reduceAdd, Nat.reduceSub, Nat.reduceLeDiff, Nat.reduceEqDiff, reduceIte, if_true, if_false, Bool.not_true, Bool.not_false, Bool.true_and, Bool.and_true, Bool.false_and, Bool.and_false, Bool.true_or, Bool.false_or, Bool.or_true, Bool.or_false, reduceCtorEq, decide_true, decide_false, beq_self_eq_true, List.mem_cons, true_or, or_true, true_and, and_true, false_and, and_false, or_false, false_or, String.reduceEq, String.reduceBEq, List.not_mem_nil, Bool.not_eq_true, Bool.false_eq_true, eq_self, not_true_eq_false, not_false_eq_true, Bool.not_eq_eq_eq_not, decide_eq_true_eq, decide_eq_false_iff_not, bne_iff_ne, ne_eq, Int.reduceLT, Int.reduceLE, Int.reduceMul, Int.reduceAdd, Int.reduceNeg, Int.reduceToNat, Int.reducePow, Nat.reduceLT, Int.reduceEq, Int.reduceSub, zipD, List.zipWith_cons_cons, List.zipWith_nil_left, List.zipWith_nil_right, List.all_cons, List.all_nil, id_eq, scalD, borE, wipeE, noOwn, sz_0, szl_0, sz_1, szl_1, sz_2, szl_2, sz_3, szl_3, sz_4, szl_4, sz_5, szl_5, sz_6, szl_6, sz_7, szl_7, sz_8, szl_8, sz_9, szl_9, sz_10, szl_10, sz_11, szl_11, sz_12, szl_12, sz_13, szl_13, sz_14, szl_14, sz_15, szl_15, sz_16, szl_16, sz_17, szl_17, sz_18, szl_18, sz_19, szl_19, sz_20, szl_20, sz_21, szl_21, sz_22, szl_22, sz_23, szl_23, sz_24, szl_24, sz_25, szl_25, sz_26, szl_26, sz_27, szl_27, sz_28, szl_28, sz_29, szl_29, sz_30, szl_30, sz_31, szl_31, sz_32, szl_32, frz, List.all_cons, List.all_nil, hp, hls]
end AF

namespace AF
open PySem PySem.Spec PyProof.Rows L2
theorem all_mk {P : Program} {w : World} {K : PySem.W.Frag} {h : Heap} {mg : Str → Option Value} {fa : Addr} {f_is_whole : Addr} {od_is_whole an_is_whole : Option Addr} {sl_is_whole : Array (Option Value)} {oc_is_whole kV_is_whole dc_is_whole pm_is_whole cd_is_whole ct_is_whole : Value} {f_are_wholes : Addr} {od_are_wholes an_are_wholes : Option Addr} {sl_are_wholes : Array (Option Value)} {oc_are_wholes kV_are_wholes dc_are_wholes pm_are_wholes cd_are_wholes ct_are_wholes : Value} {f_is_same : Addr} {od_is_same an_is_same : Option Addr} {sl_is_same : Array (Option Value)} {oc_is_same kV_is_same dc_is_same pm_is_same cd_is_same ct_is_same : Value} {f_is_ratio : Addr} {od_is_ratio an_is_ratio : Option Addr} {sl_is_ratio : Array (Option Value)} {oc_is_ratio kV_is_ratio dc_is_ratio pm_is_ratio cd_is_ratio ct_is_ratio : Value} {f_ratio : Addr} {od_ratio an_ratio : Option Addr} {sl_ratio : Array (Option Value)} {oc_ratio kV_ratio dc_ratio pm_ratio cd_ratio ct_ratio : Value} {C_BadNumber : Addr} {f_plus : Addr} {od_plus an_plus : Option Addr} {sl_plus : Array (Option Value)} {oc_plus kV_plus dc_plus pm_plus cd_plus ct_plus : Value} {f_minus : Addr} {od_minus an_minus : Option Addr} {sl_minus : Array (Option Value)} {oc_minus kV_minus dc_minus pm_minus cd_minus ct_minus : Value} {f_times : Addr} {od_times an_times : Option Addr} {sl_times : Array (Option Value)} {oc_times kV_times dc_times pm_times cd_times ct_times : Value} {f_over : Addr} {od_over an_over : Option Addr} {sl_over : Array (Option Value)} {oc_over kV_over dc_over pm_over cd_over ct_over : Value} {f_sign : Addr} {od_sign an_sign : Option Addr} {sl_sign : Array (Option Value)} {oc_sign kV_sign dc_sign pm_sign cd_sign ct_sign : Value} {f_compare : Addr} {od_compare an_compare : Option Addr} {sl_compare : Array (Option Value)} {oc_compare kV_compare dc_compare pm_compare cd_compare ct_compare : Value} {f_floor_of : Addr} {od_floor_of an_floor_of : Option Addr} {sl_floor_of : Array (Option Value)} {oc_floor_of kV_floor_of dc_floor_of pm_floor_of cd_floor_of ct_floor_of : Value} {f_total : Addr} {od_total an_total : Option Addr} {sl_total : Array (Option Value)} {oc_total kV_total dc_total pm_total cd_total ct_total : Value} {a_NOUGHT_1 : Addr} {od_NOUGHT_1 : Option Addr} {it_NOUGHT_1 : Array Value} {sl_NOUGHT_1 : Array (Option Value)} {n_NOUGHT_1 : Nat} {f_common_bottom : Addr} {od_common_bottom an_common_bottom : Option Addr} {sl_common_bottom : Array (Option Value)} {oc_common_bottom kV_common_bottom dc_common_bottom pm_common_bottom cd_common_bottom ct_common_bottom : Value} {f__law_numbers : Addr} {od__law_numbers an__law_numbers : Option Addr} {sl__law_numbers : Array (Option Value)} {oc__law_numbers kV__law_numbers dc__law_numbers pm__law_numbers cd__law_numbers ct__law_numbers : Value} {f__law_same : Addr} {od__law_same an__law_same : Option Addr} {sl__law_same : Array (Option Value)} {oc__law_same kV__law_same dc__law_same pm__law_same cd__law_same ct__law_same : Value} {f__law_divisor : Addr} {od__law_divisor an__law_divisor : Option Addr} {sl__law_divisor : Array (Option Value)} {oc__law_divisor kV__law_divisor dc__law_divisor pm__law_divisor cd__law_divisor ct__law_divisor : Value} {f__law_lowest : Addr} {od__law_lowest an__law_lowest : Option Addr} {sl__law_lowest : Array (Option Value)} {oc__law_lowest kV__law_lowest dc__law_lowest pm__law_lowest cd__law_lowest ct__law_lowest : Value} {f__law_ratio : Addr} {od__law_ratio an__law_ratio : Option Addr} {sl__law_ratio : Array (Option Value)} {oc__law_ratio kV__law_ratio dc__law_ratio pm__law_ratio cd__law_ratio ct__law_ratio : Value} {C_AskewError : Addr} {f__law_over : Addr} {od__law_over an__law_over : Option Addr} {sl__law_over : Array (Option Value)} {oc__law_over kV__law_over dc__law_over pm__law_over cd__law_over ct__law_over : Value} {f__law_raws : Addr} {od__law_raws an__law_raws : Option Addr} {sl__law_raws : Array (Option Value)} {oc__law_raws kV__law_raws dc__law_raws pm__law_raws cd__law_raws ct__law_raws : Value} {f__law_order : Addr} {od__law_order an__law_order : Option Addr} {sl__law_order : Array (Option Value)} {oc__law_order kV__law_order dc__law_order pm__law_order cd__law_order ct__law_order : Value} {f__law_pairs_hold : Addr} {od__law_pairs_hold an__law_pairs_hold : Option Addr} {sl__law_pairs_hold : Array (Option Value)} {oc__law_pairs_hold kV__law_pairs_hold dc__law_pairs_hold pm__law_pairs_hold cd__law_pairs_hold ct__law_pairs_hold : Value} {f__law_list_holds : Addr} {od__law_list_holds an__law_list_holds : Option Addr} {sl__law_list_holds : Array (Option Value)} {oc__law_list_holds kV__law_list_holds dc__law_list_holds pm__law_list_holds cd__law_list_holds ct__law_list_holds : Value} {f__law_lists_hold : Addr} {od__law_lists_hold an__law_lists_hold : Option Addr} {sl__law_lists_hold : Array (Option Value)} {oc__law_lists_hold kV__law_lists_hold dc__law_lists_hold pm__law_lists_hold cd__law_lists_hold ct__law_lists_hold : Value} {f__law_kinds_hold : Addr} {od__law_kinds_hold an__law_kinds_hold : Option Addr} {sl__law_kinds_hold : Array (Option Value)} {oc__law_kinds_hold kV__law_kinds_hold dc__law_kinds_hold pm__law_kinds_hold cd__law_kinds_hold ct__law_kinds_hold : Value} {f_law : Addr} {od_law an_law : Option Addr} {sl_law : Array (Option Value)} {oc_law kV_law dc_law pm_law cd_law ct_law : Value} (X : K.In h) (G : h.Ns mainGlobals mg) (hfa : mg "law" = some (.ref fa))
    (aF_is_whole : PySem.W.nsIn K mainGlobals "is_whole" = some (some (.ref f_is_whole)))
    (lF_is_whole : K.lookup f_is_whole = some ⟨oc_is_whole, od_is_whole, .func (PySem.W.fnOf "is_whole" "is_whole" (defArgs s_is_whole) (defBody s_is_whole) (defScope s_is_whole) .none kV_is_whole dc_is_whole pm_is_whole an_is_whole cd_is_whole ct_is_whole), sl_is_whole⟩)
    (cF_is_whole : PySem.W.codeIn K cd_is_whole "is_whole" = true)
    (kF_is_whole : PySem.W.keepIn K (.ref f_is_whole) = true)
    (zB_int : PySem.W.nsIn K mainGlobals "int" = some none)
    (zB_isinstance : PySem.W.nsIn K mainGlobals "isinstance" = some none)
    (zB_bool : PySem.W.nsIn K mainGlobals "bool" = some none)
    (aF_are_wholes : PySem.W.nsIn K mainGlobals "are_wholes" = some (some (.ref f_are_wholes)))
    (lF_are_wholes : K.lookup f_are_wholes = some ⟨oc_are_wholes, od_are_wholes, .func (PySem.W.fnOf "are_wholes" "are_wholes" (defArgs s_are_wholes) (defBody s_are_wholes) (defScope s_are_wholes) .none kV_are_wholes dc_are_wholes pm_are_wholes an_are_wholes cd_are_wholes ct_are_wholes), sl_are_wholes⟩)
    (cF_are_wholes : PySem.W.codeIn K cd_are_wholes "are_wholes" = true)
    (kF_are_wholes : PySem.W.keepIn K (.ref f_are_wholes) = true)
    (zB_list : PySem.W.nsIn K mainGlobals "list" = some none)
    (zB_all : PySem.W.nsIn K mainGlobals "all" = some none)
    (aF_is_same : PySem.W.nsIn K mainGlobals "is_same" = some (some (.ref f_is_same)))
    (lF_is_same : K.lookup f_is_same = some ⟨oc_is_same, od_is_same, .func (PySem.W.fnOf "is_same" "is_same" (defArgs s_is_same) (defBody s_is_same) (defScope s_is_same) .none kV_is_same dc_is_same pm_is_same an_is_same cd_is_same ct_is_same), sl_is_same⟩)
    (cF_is_same : PySem.W.codeIn K cd_is_same "is_same" = true)
    (kF_is_same : PySem.W.keepIn K (.ref f_is_same) = true)
    (zB_type : PySem.W.nsIn K mainGlobals "type" = some none)
    (zB_tuple : PySem.W.nsIn K mainGlobals "tuple" = some none)
    (zB_len : PySem.W.nsIn K mainGlobals "len" = some none)
    (zB_zip : PySem.W.nsIn K mainGlobals "zip" = some none)
    (aF_is_ratio : PySem.W.nsIn K mainGlobals "is_ratio" = some (some (.ref f_is_ratio)))
    (lF_is_ratio : K.lookup f_is_ratio = some ⟨oc_is_ratio, od_is_ratio, .func (PySem.W.fnOf "is_ratio" "is_ratio" (defArgs s_is_ratio) (defBody s_is_ratio) (defScope s_is_ratio) .none kV_is_ratio dc_is_ratio pm_is_ratio an_is_ratio cd_is_ratio ct_is_ratio), sl_is_ratio⟩)
    (cF_is_ratio : PySem.W.codeIn K cd_is_ratio "is_ratio" = true)
    (kF_is_ratio : PySem.W.keepIn K (.ref f_is_ratio) = true)
    (zB_gcd : PySem.W.nsIn K mainGlobals "gcd" = some (some (.builtin "math.gcd")))
    (aF_ratio : PySem.W.nsIn K mainGlobals "ratio" = some (some (.ref f_ratio)))
    (lF_ratio : K.lookup f_ratio = some ⟨oc_ratio, od_ratio, .func (PySem.W.fnOf "ratio" "ratio" (defArgs s_ratio) (defBody s_ratio) (defScope s_ratio) .none kV_ratio dc_ratio pm_ratio an_ratio cd_ratio ct_ratio), sl_ratio⟩)
    (cF_ratio : PySem.W.codeIn K cd_ratio "ratio" = true)
    (kF_ratio : PySem.W.keepIn K (.ref f_ratio) = true)
    (aX_BadNumber : PySem.W.nsIn K mainGlobals "BadNumber" = some (some (.ref C_BadNumber)))
    (xX_BadNumber : PySem.W.excIn K C_BadNumber [.type "ValueError", .type "Exception", .type "BaseException", .type "object"] "ValueError.__new__" = true)
    (kX_BadNumber : PySem.W.keepIn K (.ref C_BadNumber) = true)
    (bX_BadNumber : PySem.W.subIn K (.ref C_BadNumber) (.type "BaseException") = some true)
    (tX_BadNumber : PySem.W.typeIn K (.ref C_BadNumber) = some (.type "type"))
    (aF_plus : PySem.W.nsIn K mainGlobals "plus" = some (some (.ref f_plus)))
    (lF_plus : K.lookup f_plus = some ⟨oc_plus, od_plus, .func (PySem.W.fnOf "plus" "plus" (defArgs s_plus) (defBody s_plus) (defScope s_plus) .none kV_plus dc_plus pm_plus an_plus cd_plus ct_plus), sl_plus⟩)
    (cF_plus : PySem.W.codeIn K cd_plus "plus" = true)
    (kF_plus : PySem.W.keepIn K (.ref f_plus) = true)
    (aF_minus : PySem.W.nsIn K mainGlobals "minus" = some (some (.ref f_minus)))
    (lF_minus : K.lookup f_minus = some ⟨oc_minus, od_minus, .func (PySem.W.fnOf "minus" "minus" (defArgs s_minus) (defBody s_minus) (defScope s_minus) .none kV_minus dc_minus pm_minus an_minus cd_minus ct_minus), sl_minus⟩)
    (cF_minus : PySem.W.codeIn K cd_minus "minus" = true)
    (kF_minus : PySem.W.keepIn K (.ref f_minus) = true)
    (aF_times : PySem.W.nsIn K mainGlobals "times" = some (some (.ref f_times)))
    (lF_times : K.lookup f_times = some ⟨oc_times, od_times, .func (PySem.W.fnOf "times" "times" (defArgs s_times) (defBody s_times) (defScope s_times) .none kV_times dc_times pm_times an_times cd_times ct_times), sl_times⟩)
    (cF_times : PySem.W.codeIn K cd_times "times" = true)
    (kF_times : PySem.W.keepIn K (.ref f_times) = true)
    (aF_over : PySem.W.nsIn K mainGlobals "over" = some (some (.ref f_over)))
    (lF_over : K.lookup f_over = some ⟨oc_over, od_over, .func (PySem.W.fnOf "over" "over" (defArgs s_over) (defBody s_over) (defScope s_over) .none kV_over dc_over pm_over an_over cd_over ct_over), sl_over⟩)
    (cF_over : PySem.W.codeIn K cd_over "over" = true)
    (kF_over : PySem.W.keepIn K (.ref f_over) = true)
    (aF_sign : PySem.W.nsIn K mainGlobals "sign" = some (some (.ref f_sign)))
    (lF_sign : K.lookup f_sign = some ⟨oc_sign, od_sign, .func (PySem.W.fnOf "sign" "sign" (defArgs s_sign) (defBody s_sign) (defScope s_sign) .none kV_sign dc_sign pm_sign an_sign cd_sign ct_sign), sl_sign⟩)
    (cF_sign : PySem.W.codeIn K cd_sign "sign" = true)
    (kF_sign : PySem.W.keepIn K (.ref f_sign) = true)
    (aF_compare : PySem.W.nsIn K mainGlobals "compare" = some (some (.ref f_compare)))
    (lF_compare : K.lookup f_compare = some ⟨oc_compare, od_compare, .func (PySem.W.fnOf "compare" "compare" (defArgs s_compare) (defBody s_compare) (defScope s_compare) .none kV_compare dc_compare pm_compare an_compare cd_compare ct_compare), sl_compare⟩)
    (cF_compare : PySem.W.codeIn K cd_compare "compare" = true)
    (kF_compare : PySem.W.keepIn K (.ref f_compare) = true)
    (aF_floor_of : PySem.W.nsIn K mainGlobals "floor_of" = some (some (.ref f_floor_of)))
    (lF_floor_of : K.lookup f_floor_of = some ⟨oc_floor_of, od_floor_of, .func (PySem.W.fnOf "floor_of" "floor_of" (defArgs s_floor_of) (defBody s_floor_of) (defScope s_floor_of) .none kV_floor_of dc_floor_of pm_floor_of an_floor_of cd_floor_of ct_floor_of), sl_floor_of⟩)
    (cF_floor_of : PySem.W.codeIn K cd_floor_of "floor_of" = true)
    (kF_floor_of : PySem.W.keepIn K (.ref f_floor_of) = true)
    (aF_total : PySem.W.nsIn K mainGlobals "total" = some (some (.ref f_total)))
    (lF_total : K.lookup f_total = some ⟨oc_total, od_total, .func (PySem.W.fnOf "total" "total" (defArgs s_total) (defBody s_total) (defScope s_total) .none kV_total dc_total pm_total an_total cd_total ct_total), sl_total⟩)
    (cF_total : PySem.W.codeIn K cd_total "total" = true)
    (kF_total : PySem.W.keepIn K (.ref f_total) = true)
    (aC_NOUGHT : PySem.W.nsIn K mainGlobals "NOUGHT" = some (some (.ref a_NOUGHT_1)))
    (lC_NOUGHT_1 : K.lookup a_NOUGHT_1 = some ⟨.type "tuple", od_NOUGHT_1, .seq it_NOUGHT_1 n_NOUGHT_1, sl_NOUGHT_1⟩)
    (zC_NOUGHT_1 : it_NOUGHT_1.size ≤ sizeLine)
    (vC_NOUGHT_1 : Vals [.int (0), .int (1)] it_NOUGHT_1.toList)
    (aF_common_bottom : PySem.W.nsIn K mainGlobals "common_bottom" = some (some (.ref f_common_bottom)))
    (lF_common_bottom : K.lookup f_common_bottom = some ⟨oc_common_bottom, od_common_bottom, .func (PySem.W.fnOf "common_bottom" "common_bottom" (defArgs s_common_bottom) (defBody s_common_bottom) (defScope s_common_bottom) .none kV_common_bottom dc_common_bottom pm_common_bottom an_common_bottom cd_common_bottom ct_common_bottom), sl_common_bottom⟩)
    (cF_common_bottom : PySem.W.codeIn K cd_common_bottom "common_bottom" = true)
    (kF_common_bottom : PySem.W.keepIn K (.ref f_common_bottom) = true)
    (aF__law_numbers : PySem.W.nsIn K mainGlobals "_law_numbers" = some (some (.ref f__law_numbers)))
    (lF__law_numbers : K.lookup f__law_numbers = some ⟨oc__law_numbers, od__law_numbers, .func (PySem.W.fnOf "_law_numbers" "_law_numbers" (defArgs s__law_numbers) (defBody s__law_numbers) (defScope s__law_numbers) .none kV__law_numbers dc__law_numbers pm__law_numbers an__law_numbers cd__law_numbers ct__law_numbers), sl__law_numbers⟩)
    (cF__law_numbers : PySem.W.codeIn K cd__law_numbers "_law_numbers" = true)
    (kF__law_numbers : PySem.W.keepIn K (.ref f__law_numbers) = true)
    (zB_range : PySem.W.nsIn K mainGlobals "range" = some none)
    (aF__law_same : PySem.W.nsIn K mainGlobals "_law_same" = some (some (.ref f__law_same)))
    (lF__law_same : K.lookup f__law_same = some ⟨oc__law_same, od__law_same, .func (PySem.W.fnOf "_law_same" "_law_same" (defArgs s__law_same) (defBody s__law_same) (defScope s__law_same) .none kV__law_same dc__law_same pm__law_same an__law_same cd__law_same ct__law_same), sl__law_same⟩)
    (cF__law_same : PySem.W.codeIn K cd__law_same "_law_same" = true)
    (kF__law_same : PySem.W.keepIn K (.ref f__law_same) = true)
    (zB_str : PySem.W.nsIn K mainGlobals "str" = some none)
    (aF__law_divisor : PySem.W.nsIn K mainGlobals "_law_divisor" = some (some (.ref f__law_divisor)))
    (lF__law_divisor : K.lookup f__law_divisor = some ⟨oc__law_divisor, od__law_divisor, .func (PySem.W.fnOf "_law_divisor" "_law_divisor" (defArgs s__law_divisor) (defBody s__law_divisor) (defScope s__law_divisor) .none kV__law_divisor dc__law_divisor pm__law_divisor an__law_divisor cd__law_divisor ct__law_divisor), sl__law_divisor⟩)
    (cF__law_divisor : PySem.W.codeIn K cd__law_divisor "_law_divisor" = true)
    (kF__law_divisor : PySem.W.keepIn K (.ref f__law_divisor) = true)
    (zB_abs : PySem.W.nsIn K mainGlobals "abs" = some none)
    (aF__law_lowest : PySem.W.nsIn K mainGlobals "_law_lowest" = some (some (.ref f__law_lowest)))
    (lF__law_lowest : K.lookup f__law_lowest = some ⟨oc__law_lowest, od__law_lowest, .func (PySem.W.fnOf "_law_lowest" "_law_lowest" (defArgs s__law_lowest) (defBody s__law_lowest) (defScope s__law_lowest) .none kV__law_lowest dc__law_lowest pm__law_lowest an__law_lowest cd__law_lowest ct__law_lowest), sl__law_lowest⟩)
    (cF__law_lowest : PySem.W.codeIn K cd__law_lowest "_law_lowest" = true)
    (kF__law_lowest : PySem.W.keepIn K (.ref f__law_lowest) = true)
    (aF__law_ratio : PySem.W.nsIn K mainGlobals "_law_ratio" = some (some (.ref f__law_ratio)))
    (lF__law_ratio : K.lookup f__law_ratio = some ⟨oc__law_ratio, od__law_ratio, .func (PySem.W.fnOf "_law_ratio" "_law_ratio" (defArgs s__law_ratio) (defBody s__law_ratio) (defScope s__law_ratio) .none kV__law_ratio dc__law_ratio pm__law_ratio an__law_ratio cd__law_ratio ct__law_ratio), sl__law_ratio⟩)
    (cF__law_ratio : PySem.W.codeIn K cd__law_ratio "_law_ratio" = true)
    (kF__law_ratio : PySem.W.keepIn K (.ref f__law_ratio) = true)
    (dX_BadNumber : PySem.W.hasDictIn K C_BadNumber = true)
    (sX_BadNumber_BadNumber : PySem.W.subIn K (.ref C_BadNumber) (.ref C_BadNumber) = some true)
    (aX_AskewError : PySem.W.nsIn K mainGlobals "AskewError" = some (some (.ref C_AskewError)))
    (sX_AskewError_BadNumber : PySem.W.subIn K (.ref C_AskewError) (.ref C_BadNumber) = some false)
    (aF__law_over : PySem.W.nsIn K mainGlobals "_law_over" = some (some (.ref f__law_over)))
    (lF__law_over : K.lookup f__law_over = some ⟨oc__law_over, od__law_over, .func (PySem.W.fnOf "_law_over" "_law_over" (defArgs s__law_over) (defBody s__law_over) (defScope s__law_over) .none kV__law_over dc__law_over pm__law_over an__law_over cd__law_over ct__law_over), sl__law_over⟩)
    (cF__law_over : PySem.W.codeIn K cd__law_over "_law_over" = true)
    (kF__law_over : PySem.W.keepIn K (.ref f__law_over) = true)
    (aF__law_raws : PySem.W.nsIn K mainGlobals "_law_raws" = some (some (.ref f__law_raws)))
    (lF__law_raws : K.lookup f__law_raws = some ⟨oc__law_raws, od__law_raws, .func (PySem.W.fnOf "_law_raws" "_law_raws" (defArgs s__law_raws) (defBody s__law_raws) (defScope s__law_raws) .none kV__law_raws dc__law_raws pm__law_raws an__law_raws cd__law_raws ct__law_raws), sl__law_raws⟩)
    (cF__law_raws : PySem.W.codeIn K cd__law_raws "_law_raws" = true)
    (kF__law_raws : PySem.W.keepIn K (.ref f__law_raws) = true)
    (aF__law_order : PySem.W.nsIn K mainGlobals "_law_order" = some (some (.ref f__law_order)))
    (lF__law_order : K.lookup f__law_order = some ⟨oc__law_order, od__law_order, .func (PySem.W.fnOf "_law_order" "_law_order" (defArgs s__law_order) (defBody s__law_order) (defScope s__law_order) .none kV__law_order dc__law_order pm__law_order an__law_order cd__law_order ct__law_order), sl__law_order⟩)
    (cF__law_order : PySem.W.codeIn K cd__law_order "_law_order" = true)
    (kF__law_order : PySem.W.keepIn K (.ref f__law_order) = true)
    (aF__law_pairs_hold : PySem.W.nsIn K mainGlobals "_law_pairs_hold" = some (some (.ref f__law_pairs_hold)))
    (lF__law_pairs_hold : K.lookup f__law_pairs_hold = some ⟨oc__law_pairs_hold, od__law_pairs_hold, .func (PySem.W.fnOf "_law_pairs_hold" "_law_pairs_hold" (defArgs s__law_pairs_hold) (defBody s__law_pairs_hold) (defScope s__law_pairs_hold) .none kV__law_pairs_hold dc__law_pairs_hold pm__law_pairs_hold an__law_pairs_hold cd__law_pairs_hold ct__law_pairs_hold), sl__law_pairs_hold⟩)
    (cF__law_pairs_hold : PySem.W.codeIn K cd__law_pairs_hold "_law_pairs_hold" = true)
    (kF__law_pairs_hold : PySem.W.keepIn K (.ref f__law_pairs_hold) = true)
    (aF__law_list_holds : PySem.W.nsIn K mainGlobals "_law_list_holds" = some (some (.ref f__law_list_holds)))
    (lF__law_list_holds : K.lookup f__law_list_holds = some ⟨oc__law_list_holds, od__law_list_holds, .func (PySem.W.fnOf "_law_list_holds" "_law_list_holds" (defArgs s__law_list_holds) (defBody s__law_list_holds) (defScope s__law_list_holds) .none kV__law_list_holds dc__law_list_holds pm__law_list_holds an__law_list_holds cd__law_list_holds ct__law_list_holds), sl__law_list_holds⟩)
    (cF__law_list_holds : PySem.W.codeIn K cd__law_list_holds "_law_list_holds" = true)
    (kF__law_list_holds : PySem.W.keepIn K (.ref f__law_list_holds) = true)
    (zB_reversed : PySem.W.nsIn K mainGlobals "reversed" = some none)
    (aF__law_lists_hold : PySem.W.nsIn K mainGlobals "_law_lists_hold" = some (some (.ref f__law_lists_hold)))
    (lF__law_lists_hold : K.lookup f__law_lists_hold = some ⟨oc__law_lists_hold, od__law_lists_hold, .func (PySem.W.fnOf "_law_lists_hold" "_law_lists_hold" (defArgs s__law_lists_hold) (defBody s__law_lists_hold) (defScope s__law_lists_hold) .none kV__law_lists_hold dc__law_lists_hold pm__law_lists_hold an__law_lists_hold cd__law_lists_hold ct__law_lists_hold), sl__law_lists_hold⟩)
    (cF__law_lists_hold : PySem.W.codeIn K cd__law_lists_hold "_law_lists_hold" = true)
    (kF__law_lists_hold : PySem.W.keepIn K (.ref f__law_lists_hold) = true)
    (aF__law_kinds_hold : PySem.W.nsIn K mainGlobals "_law_kinds_hold" = some (some (.ref f__law_kinds_hold)))
    (lF__law_kinds_hold : K.lookup f__law_kinds_hold = some ⟨oc__law_kinds_hold, od__law_kinds_hold, .func (PySem.W.fnOf "_law_kinds_hold" "_law_kinds_hold" (defArgs s__law_kinds_hold) (defBody s__law_kinds_hold) (defScope s__law_kinds_hold) .none kV__law_kinds_hold dc__law_kinds_hold pm__law_kinds_hold an__law_kinds_hold cd__law_kinds_hold ct__law_kinds_hold), sl__law_kinds_hold⟩)
    (cF__law_kinds_hold : PySem.W.codeIn K cd__law_kinds_hold "_law_kinds_hold" = true)
    (kF__law_kinds_hold : PySem.W.keepIn K (.ref f__law_kinds_hold) = true)
    (zB_min : PySem.W.nsIn K mainGlobals "min" = some none)
    (zB_max : PySem.W.nsIn K mainGlobals "max" = some none)
    (aF_law : PySem.W.nsIn K mainGlobals "law" = some (some (.ref f_law)))
    (lF_law : K.lookup f_law = some ⟨oc_law, od_law, .func (PySem.W.fnOf "law" "law" (defArgs s_law) (defBody s_law) (defScope s_law) .none kV_law dc_law pm_law an_law cd_law ct_law), sl_law⟩)
    (cF_law : PySem.W.codeIn K cd_law "law" = true)
    (kF_law : PySem.W.keepIn K (.ref f_law) = true)
    : ∃ fd : FuncData, (∀ (s : Shared) (v : Value), BindsTo s fd ⟨[v], []⟩ [("script", v)]) ∧ ∀ base : Heap, K.In base → base.Ns mainGlobals mg → FnOk P w K mg base (L2.CX P w) 44 fa fd ["script"] (spF K mg 1 m_law) := by
  have e := hfa.symm.trans (PySem.W.mg_of X G aF_law)
  cases e
  refine ⟨PySem.W.fnOf "law" "law" (defArgs s_law) (defBody s_law) (defScope s_law) .none kV_law dc_law pm_law an_law cd_law ct_law, fun s v => .of_eq rfl, fun base _ _ => ?_⟩
  have kk_is_whole : Fk P w K mg base 1 "is_whole" 1 m_is_whole := ok_is_whole (fun_mk (st := s_is_whole) lF_is_whole cF_is_whole kF_is_whole) (PySem.W.mg_of X G aF_is_whole) (PySem.W.mg_none_of X G zB_int) (PySem.W.mg_none_of X G zB_isinstance) (PySem.W.mg_none_of X G zB_bool)
  have kk_are_wholes : Fk P w K mg base 2 "are_wholes" 3 m_are_wholes := ok_are_wholes (fun_mk (st := s_are_wholes) lF_are_wholes cF_are_wholes kF_are_wholes) (PySem.W.mg_of X G aF_are_wholes) (PySem.W.mg_none_of X G zB_list) (PySem.W.mg_none_of X G zB_isinstance) kk_is_whole (PySem.W.mg_none_of X G zB_all)
  have kk_is_same : Fk P w K mg base 41 "is_same" 2 (m_is_same 40) := ok_is_same (fun_mk (st := s_is_same) lF_is_same cF_is_same kF_is_same) (PySem.W.mg_of X G aF_is_same) (PySem.W.mg_none_of X G zB_type) (PySem.W.mg_none_of X G zB_tuple) (PySem.W.mg_none_of X G zB_list) (PySem.W.mg_none_of X G zB_isinstance) (PySem.W.mg_none_of X G zB_len) (PySem.W.mg_none_of X G zB_zip) (PySem.W.mg_none_of X G zB_all) 40
  have kk_is_ratio : Fk P w K mg base 2 "is_ratio" 1 m_is_ratio := ok_is_ratio (fun_mk (st := s_is_ratio) lF_is_ratio cF_is_ratio kF_is_ratio) (PySem.W.mg_of X G aF_is_ratio) (PySem.W.mg_none_of X G zB_tuple) (PySem.W.mg_none_of X G zB_isinstance) (PySem.W.mg_none_of X G zB_len) kk_is_whole (PySem.W.mg_none_of X G zB_all) (PySem.W.mg_of X G zB_gcd)
  have kk_ratio : Fk P w K mg base 1 "ratio" 2 m_ratio := ok_ratio (fun_mk (st := s_ratio) lF_ratio cF_ratio kF_ratio) (PySem.W.mg_of X G aF_ratio) (exn_mk X G aX_BadNumber xX_BadNumber kX_BadNumber bX_BadNumber tX_BadNumber) (PySem.W.mg_of X G zB_gcd)
  have kk_plus : Fk P w K mg base 2 "plus" 2 m_plus := ok_plus (fun_mk (st := s_plus) lF_plus cF_plus kF_plus) (PySem.W.mg_of X G aF_plus) kk_ratio
  have kk_minus : Fk P w K mg base 2 "minus" 2 m_minus := ok_minus (fun_mk (st := s_minus) lF_minus cF_minus kF_minus) (PySem.W.mg_of X G aF_minus) kk_ratio
  have kk_times : Fk P w K mg base 2 "times" 2 m_times := ok_times (fun_mk (st := s_times) lF_times cF_times kF_times) (PySem.W.mg_of X G aF_times) kk_ratio
  have kk_over : Fk P w K mg base 2 "over" 2 m_over := ok_over (fun_mk (st := s_over) lF_over cF_over kF_over) (PySem.W.mg_of X G aF_over) kk_ratio
  have kk_sign : Fk P w K mg base 1 "sign" 1 m_sign := ok_sign (fun_mk (st := s_sign) lF_sign cF_sign kF_sign) (PySem.W.mg_of X G aF_sign) (PySem.W.mg_none_of X G zB_int)
  have kk_compare : Fk P w K mg base 3 "compare" 2 m_compare := ok_compare (fun_mk (st := s_compare) lF_compare cF_compare kF_compare) (PySem.W.mg_of X G aF_compare) kk_sign kk_minus
  have kk_floor_of : Fk P w K mg base 1 "floor_of" 1 m_floor_of := ok_floor_of (fun_mk (st := s_floor_of) lF_floor_of cF_floor_of kF_floor_of) (PySem.W.mg_of X G aF_floor_of) 
  have kk_total : Fk P w K mg base 3 "total" 1 m_total := ok_total (v_NOUGHT := .ref a_NOUGHT_1) (fun_mk (st := s_total) lF_total cF_total kF_total) (PySem.W.mg_of X G aF_total) ⟨_, PySem.W.mg_of X G aC_NOUGHT, rfl⟩ (rep_tup lC_NOUGHT_1 rfl rfl zC_NOUGHT_1 vC_NOUGHT_1 (reps_cons (fun _ => rfl) (reps_cons (fun _ => rfl) reps_nil))) kk_plus
  have kk_common_bottom : Fk P w K mg base 1 "common_bottom" 1 m_common_bottom := ok_common_bottom (fun_mk (st := s_common_bottom) lF_common_bottom cF_common_bottom kF_common_bottom) (PySem.W.mg_of X G aF_common_bottom) (PySem.W.mg_of X G zB_gcd)
  have kk__law_numbers : Fk P w K mg base 1 "_law_numbers" 3 m__law_numbers := ok__law_numbers (fun_mk (st := s__law_numbers) lF__law_numbers cF__law_numbers kF__law_numbers) (PySem.W.mg_of X G aF__law_numbers) (PySem.W.mg_none_of X G zB_len) (PySem.W.mg_none_of X G zB_int) (PySem.W.mg_none_of X G zB_range)
  have kk__law_same : Fk P w K mg base 41 "_law_same" 2 (m__law_same 40) := ok__law_same (fun_mk (st := s__law_same) lF__law_same cF__law_same kF__law_same) (PySem.W.mg_of X G aF__law_same) (PySem.W.mg_none_of X G zB_str) (PySem.W.mg_none_of X G zB_isinstance) (PySem.W.mg_none_of X G zB_int) (PySem.W.mg_none_of X G zB_bool) (PySem.W.mg_none_of X G zB_tuple) (PySem.W.mg_none_of X G zB_list) (PySem.W.mg_none_of X G zB_len) (PySem.W.mg_none_of X G zB_range) 40
  have kk__law_divisor : Fk P w K mg base 1 "_law_divisor" 2 m__law_divisor := ok__law_divisor (fun_mk (st := s__law_divisor) lF__law_divisor cF__law_divisor kF__law_divisor) (PySem.W.mg_of X G aF__law_divisor) (PySem.W.mg_none_of X G zB_abs) (PySem.W.mg_none_of X G zB_range)
  have kk__law_lowest : Fk P w K mg base 2 "_law_lowest" 2 m__law_lowest := ok__law_lowest (fun_mk (st := s__law_lowest) lF__law_lowest cF__law_lowest kF__law_lowest) (PySem.W.mg_of X G aF__law_lowest) kk__law_divisor
  have kk__law_ratio : Fk P w K mg base 2 "_law_ratio" 2 m__law_ratio := ok__law_ratio (fun_mk (st := s__law_ratio) lF__law_ratio cF__law_ratio kF__law_ratio) (PySem.W.mg_of X G aF__law_ratio) kk_ratio (PySem.W.mg_of X G aX_BadNumber) (cat_cons X G aX_AskewError bX_BadNumber dX_BadNumber tX_BadNumber sX_AskewError_BadNumber (cat_cons X G aX_BadNumber bX_BadNumber dX_BadNumber tX_BadNumber sX_BadNumber_BadNumber (fun _ h => nomatch h)))
  have kk__law_over : Fk P w K mg base 3 "_law_over" 2 m__law_over := ok__law_over (fun_mk (st := s__law_over) lF__law_over cF__law_over kF__law_over) (PySem.W.mg_of X G aF__law_over) kk_over (PySem.W.mg_of X G aX_BadNumber) (cat_cons X G aX_AskewError bX_BadNumber dX_BadNumber tX_BadNumber sX_AskewError_BadNumber (cat_cons X G aX_BadNumber bX_BadNumber dX_BadNumber tX_BadNumber sX_BadNumber_BadNumber (fun _ h => nomatch h)))
  have kk__law_raws : Fk P w K mg base 1 "_law_raws" 2 m__law_raws := ok__law_raws (fun_mk (st := s__law_raws) lF__law_raws cF__law_raws kF__law_raws) (PySem.W.mg_of X G aF__law_raws) (PySem.W.mg_none_of X G zB_range)
  have kk__law_order : Fk P w K mg base 1 "_law_order" 4 m__law_order := ok__law_order (fun_mk (st := s__law_order) lF__law_order cF__law_order kF__law_order) (PySem.W.mg_of X G aF__law_order) 
  have kk__law_pairs_hold : Fk P w K mg base 42 "_law_pairs_hold" 1 m__law_pairs_hold := ok__law_pairs_hold (fun_mk (st := s__law_pairs_hold) lF__law_pairs_hold cF__law_pairs_hold kF__law_pairs_hold) (PySem.W.mg_of X G aF__law_pairs_hold) kk__law_over kk_compare kk_times kk_minus kk_plus kk__law_lowest kk__law_order kk__law_same
  have kk__law_list_holds : Fk P w K mg base 42 "_law_list_holds" 1 m__law_list_holds := ok__law_list_holds (fun_mk (st := s__law_list_holds) lF__law_list_holds cF__law_list_holds kF__law_list_holds) (PySem.W.mg_of X G aF__law_list_holds) kk__law_lowest kk__law_divisor (PySem.W.mg_none_of X G zB_list) (PySem.W.mg_none_of X G zB_reversed) kk_total kk__law_same kk_common_bottom
  have kk__law_lists_hold : Fk P w K mg base 43 "_law_lists_hold" 1 m__law_lists_hold := ok__law_lists_hold (fun_mk (st := s__law_lists_hold) lF__law_lists_hold cF__law_lists_hold kF__law_lists_hold) (PySem.W.mg_of X G aF__law_lists_hold) (PySem.W.mg_none_of X G zB_len) (PySem.W.mg_none_of X G zB_range) kk__law_lowest kk__law_list_holds
  have kk__law_kinds_hold : Fk P w K mg base 42 "_law_kinds_hold" 2 m__law_kinds_hold := ok__law_kinds_hold (fun_mk (st := s__law_kinds_hold) lF__law_kinds_hold cF__law_kinds_hold kF__law_kinds_hold) (PySem.W.mg_of X G aF__law_kinds_hold) (PySem.W.mg_none_of X G zB_str) kk_is_ratio kk_is_whole kk_is_same (PySem.W.mg_none_of X G zB_min) (PySem.W.mg_none_of X G zB_max) kk_are_wholes (PySem.W.mg_none_of X G zB_abs) (PySem.W.mg_none_of X G zB_list) kk__law_same
  exact fn_law_ (fun_mk (st := s_law) lF_law cF_law kF_law) (PySem.W.mg_of X G aF_law) kk__law_numbers kk__law_raws kk__law_lowest (PySem.W.mg_none_of X G zB_range) kk__law_over kk__law_ratio kk_floor_of kk_sign kk__law_order kk__law_same kk__law_kinds_hold kk__law_pairs_hold kk__law_lists_hold
end AF
open PySem PySem.W PyProof.Rows AF
set_option maxHeartbeats 0 in
theorem PySem.Challenge.cw_askewread_k02_ratios_cut_and_joined_holds : PySem.Challenge.rw_askewread_k02_ratios_cut_and_joined.Holds := by
  w_on; o_law; k_head; (case hw => w_witness2)
  k_fill
  refine AF.law_end (l := PySem.Challenge.rw_askewread_k02_ratios_cut_and_joined) (k := 44) (x := "script") AF.keeps rfl rfl ⟨rfl, by decide, by decide⟩ (fun w h Y => PySem.W.kIn_of Y) ?F
  case F =>
    intro w mg fa h KX G hmg
    refine' AF.all_mk KX G hmg ?aF_is_whole ?lF_is_whole ?cF_is_whole ?kF_is_whole ?zB_int ?zB_isinstance ?zB_bool ?aF_are_wholes ?lF_are_wholes ?cF_are_wholes ?kF_are_wholes ?zB_list ?zB_all ?aF_is_same ?lF_is_same ?cF_is_same ?kF_is_same ?zB_type ?zB_tuple ?zB_len ?zB_zip ?aF_is_ratio ?lF_is_ratio ?cF_is_ratio ?kF_is_ratio ?zB_gcd ?aF_ratio ?lF_ratio ?cF_ratio ?kF_ratio ?aX_BadNumber ?xX_BadNumber ?kX_BadNumber ?bX_BadNumber ?tX_BadNumber ?aF_plus ?lF_plus ?cF_plus ?kF_plus ?aF_minus ?lF_minus ?cF_minus ?kF_minus ?aF_times ?lF_times ?cF_times ?kF_times ?aF_over ?lF_over ?cF_over ?kF_over ?aF_sign ?lF_sign ?cF_sign ?kF_sign ?aF_compare ?lF_compare ?cF_compare ?kF_compare ?aF_floor_of ?lF_floor_of ?cF_floor_of ?kF_floor_of ?aF_total ?lF_total ?cF_total ?kF_total ?aC_NOUGHT ?lC_NOUGHT_1 ?zC_NOUGHT_1 ?vC_NOUGHT_1 ?aF_common_bottom ?lF_common_bottom ?cF_common_bottom ?kF_common_bottom ?aF__law_numbers ?lF__law_numbers ?cF__law_numbers ?kF__law_numbers ?zB_range ?aF__law_same ?lF__law_same ?cF__law_same ?kF__law_same ?zB_str ?aF__law_divisor ?lF__law_divisor ?cF__law_divisor ?kF__law_divisor ?zB_abs ?aF__law_lowest ?lF__law_lowest ?cF__law_lowest ?kF__law_lowest ?aF__law_ratio ?lF__law_ratio ?cF__law_ratio ?kF__law_ratio ?dX_BadNumber ?sX_BadNumber_BadNumber ?aX_AskewError ?sX_AskewError_BadNumber ?aF__law_over ?lF__law_over ?cF__law_over ?kF__law_over ?aF__law_raws ?lF__law_raws ?cF__law_raws ?kF__law_raws ?aF__law_order ?lF__law_order ?cF__law_order ?kF__law_order ?aF__law_pairs_hold ?lF__law_pairs_hold ?cF__law_pairs_hold ?kF__law_pairs_hold ?aF__law_list_holds ?lF__law_list_holds ?cF__law_list_holds ?kF__law_list_holds ?zB_reversed ?aF__law_lists_hold ?lF__law_lists_hold ?cF__law_lists_hold ?kF__law_lists_hold ?aF__law_kinds_hold ?lF__law_kinds_hold ?cF__law_kinds_hold ?kF__law_kinds_hold ?zB_min ?zB_max ?aF_law ?lF_law ?cF_law ?kF_law
    (case aF_is_whole => k_is)
    (case lF_is_whole => k_is)
    (case cF_is_whole => k_is)
    (case kF_is_whole => k_is)
    (case zB_int => k_is)
    (case zB_isinstance => k_is)
    (case zB_bool => k_is)
    (case aF_are_wholes => k_is)
    (case lF_are_wholes => k_is)
    (case cF_are_wholes => k_is)
    (case kF_are_wholes => k_is)
    (case zB_list => k_is)
    (case zB_all => k_is)
    (case aF_is_same => k_is)
    (case lF_is_same => k_is)
    (case cF_is_same => k_is)
    (case kF_is_same => k_is)
    (case zB_type => k_is)
    (case zB_tuple => k_is)
    (case zB_len => k_is)
    (case zB_zip => k_is)
    (case aF_is_ratio => k_is)
    (case lF_is_ratio => k_is)
    (case cF_is_ratio => k_is)
    (case kF_is_ratio => k_is)
    (case zB_gcd => k_is)
    (case aF_ratio => k_is)
    (case lF_ratio => k_is)
    (case cF_ratio => k_is)
    (case kF_ratio => k_is)
    (case aX_BadNumber => k_is)
    (case xX_BadNumber => k_exc)
    (case kX_BadNumber => k_is)
    (case bX_BadNumber => k_is)
    (case tX_BadNumber => k_is)
    (case aF_plus => k_is)
    (case lF_plus => k_is)
    (case cF_plus => k_is)
    (case kF_plus => k_is)
    (case aF_minus => k_is)
    (case lF_minus => k_is)
    (case cF_minus => k_is)
    (case kF_minus => k_is)
    (case aF_times => k_is)
    (case lF_times => k_is)
    (case cF_times => k_is)
    (case kF_times => k_is)
    (case aF_over => k_is)
    (case lF_over => k_is)
    (case cF_over => k_is)
    (case kF_over => k_is)
    (case aF_sign => k_is)
    (case lF_sign => k_is)
    (case cF_sign => k_is)
    (case kF_sign => k_is)
    (case aF_compare => k_is)
    (case lF_compare => k_is)
    (case cF_compare => k_is)
    (case kF_compare => k_is)
    (case aF_floor_of => k_is)
    (case lF_floor_of => k_is)
    (case cF_floor_of => k_is)
    (case kF_floor_of => k_is)
    (case aF_total => k_is)
    (case lF_total => k_is)
    (case cF_total => k_is)
    (case kF_total => k_is)
    (case aC_NOUGHT => k_is)
    (case lC_NOUGHT_1 => k_is)
    (case zC_NOUGHT_1 => first | decide | decide +kernel)
    (case vC_NOUGHT_1 => (repeat' (first | exact .nil | refine .cons ?_ ?_ | exact ⟨_, rfl⟩ | exact rfl)))
    (case aF_common_bottom => k_is)
    (case lF_common_bottom => k_is)
    (case cF_common_bottom => k_is)
    (case kF_common_bottom => k_is)
    (case aF__law_numbers => k_is)
    (case lF__law_numbers => k_is)
    (case cF__law_numbers => k_is)
    (case kF__law_numbers => k_is)
    (case zB_range => k_is)
    (case aF__law_same => k_is)
    (case lF__law_same => k_is)
    (case cF__law_same => k_is)
    (case kF__law_same => k_is)
    (case zB_str => k_is)
    (case aF__law_divisor => k_is)
    (case lF__law_divisor => k_is)
    (case cF__law_divisor => k_is)
    (case kF__law_divisor => k_is)
    (case zB_abs => k_is)
    (case aF__law_lowest => k_is)
    (case lF__law_lowest => k_is)
    (case cF__law_lowest => k_is)
    (case kF__law_lowest => k_is)
    (case aF__law_ratio => k_is)
    (case lF__law_ratio => k_is)
    (case cF__law_ratio => k_is)
    (case kF__law_ratio => k_is)
    (case dX_BadNumber => k_is)
    (case sX_BadNumber_BadNumber => first | rfl | k_is)
    (case aX_AskewError => k_is)
    (case sX_AskewError_BadNumber => first | rfl | k_is)
    (case aF__law_over => k_is)
    (case lF__law_over => k_is)
    (case cF__law_over => k_is)
    (case kF__law_over => k_is)
    (case aF__law_raws => k_is)
    (case lF__law_raws => k_is)
    (case cF__law_raws => k_is)
    (case kF__law_raws => k_is)
    (case aF__law_order => k_is)
    (case lF__law_order => k_is)
    (case cF__law_order => k_is)
    (case kF__law_order => k_is)
    (case aF__law_pairs_hold => k_is)
    (case lF__law_pairs_hold => k_is)
    (case cF__law_pairs_hold => k_is)
    (case kF__law_pairs_hold => k_is)
    (case aF__law_list_holds => k_is)
    (case lF__law_list_holds => k_is)
    (case cF__law_list_holds => k_is)
    (case kF__law_list_holds => k_is)
    (case zB_reversed => k_is)
    (case aF__law_lists_hold => k_is)
    (case lF__law_lists_hold => k_is)
    (case cF__law_lists_hold => k_is)
    (case kF__law_lists_hold => k_is)
    (case aF__law_kinds_hold => k_is)
    (case lF__law_kinds_hold => k_is)
    (case cF__law_kinds_hold => k_is)
    (case kF__law_kinds_hold => k_is)
    (case zB_min => k_is)
    (case zB_max => k_is)
    (case aF_law => k_is)
    (case lF_law => k_is)
    (case cF_law => k_is)
    (case kF_law => k_is)

