import PyProof.Rows.All
import Wide.All
import OpenK.AllK
import Wide.FinOn
import HandS.ForMost
import HandS.Exc
import HandS.HeadHook4
import HandS.IsInst
import HandS.Wide
import HandS.WideBits
import HandS.Flow
import HandS.TupAny
import HandS.WordsDict
import HandS.HeadWalk
import HandS.Small
import HandS.Style
import HandS.Comp
import HandS.HeadEnd
import HandS.HeadHook2
import HandS.Head2
import HandS.EndBits
import KE.KStateDown
import Lean
import HandS.Words
import HandS.Defaults
import HandS.HeadHook1
import HandS.Head0
import HandS.Head1
import PySem.Challenge.RW_anyoutcome_k11_names_and_integers_judged
set_option Elab.async false
set_option linter.all false
set_option maxRecDepth 100000
set_option maxHeartbeats 0
/-! Vm1: virtual values, objects, stores; how they stand for the layer's values and abstract heap. -/
namespace Vm
open PySem PySem.Spec PyProof.Rows L2

/-- a value: addresses are places of the store; gl: what the module's name stands for (a def, a class) -/
inductive W where
  | non | bl (b : Bool) | int (i : Int) | str (x : Str) | ref (n : Nat) | gl (x : Str) | ty (n : String)
  deriving DecidableEq

/-- an object. cst: a list that is only read (the script); lck: a dict while it is walked; ins: an instance of the class of that name; xd: the own dict of an exception -/
inductive O where
  | lst (xs : List W) | cst (xs : List W) | tup (xs : List W) | dic (kvs : List (Key × W)) | lck (kvs : List (Key × W))
  | ins (c : Str) (fs : List (Str × W)) | xd (fs : List (Str × W))

abbrev Sto := List O

section
variable (K : PySem.W.Frag) (al : List Addr)
def RW : W → V → Prop
  | .non, v => v = .non
  | .bl b, v => v = .bl b
  | .int i, v => v = .int i
  | .str x, v => v = .str x
  | .ref n, v => ∃ a, al[n]? = some a ∧ v = .ref a
  | .gl x, v => v = .ref (He.ga K x)
  | .ty n, v => v = .ty n
inductive RWs : List W → List V → Prop
  | nil : RWs [] []
  | cons {w v ws vs} : RW K al w v → RWs ws vs → RWs (w :: ws) (v :: vs)
inductive RKs {κ : Type} : List (κ × W) → List (κ × V) → Prop
  | nil : RKs [] []
  | cons {k w v ws vs} : RW K al w v → RKs ws vs → RKs ((k, w) :: ws) ((k, v) :: vs)
/-- the local names' values: what is known on the left is so on the right -/
inductive RSt : List (Option W) → L2.St → Prop
  | nil : RSt [] []
  | no {v ws vs} : RSt ws vs → RSt (none :: ws) (v :: vs)
  | so {w v ws vs} : RW K al w v → RSt ws vs → RSt (some w :: ws) (some v :: vs)
def HAt (H : Hp) (a : Addr) : O → Prop
  | .lst xs => ∃ vs, RWs K al xs vs ∧ H a = some (.lst vs)
  | .cst xs => ∃ vs, RWs K al xs vs ∧ SqL K H a vs
  | .tup xs => ∃ vs, RWs K al xs vs ∧ SqT K H a vs
  | .dic kvs => ∃ vs, RKs K al kvs vs ∧ H a = some (.dK vs)
  | .lck kvs => ∃ o vs, RKs K al kvs vs ∧ H a = some (.frz o (.dK vs))
  | .ins c fs => ∃ dx vs, RKs K al fs vs ∧ H a = some (.ins (He.ga K c) dx vs)
  | .xd fs => ∃ vs, RKs K al fs vs ∧ H a = some (.xd vs)
/-- it stands so whatever the heap is: an object of the written part -/
def Fx (a : Addr) (o : O) : Prop := ∀ H : Hp, HAt K al H a o
structure Sim (s : Sto) (H : Hp) : Prop where
  len : al.length = s.length
  nd : ∀ (n m : Nat) (a : Addr) (o u : O), al[n]? = some a → al[m]? = some a → s[n]? = some o → s[m]? = some u → n ≠ m → Fx K al a o ∨ Fx K al a u
  at_ : ∀ (n : Nat) (o : O), s[n]? = some o → ∃ a, al[n]? = some a ∧ HAt K al H a o
end

variable {K : PySem.W.Frag} {al bl : List Addr}
theorem pre_get {n : Nat} {a : Addr} (p : al <+: bl) (h : al[n]? = some a) : bl[n]? = some a := by
  obtain ⟨t, rfl⟩ := p
  have hl : n < al.length := (List.getElem?_eq_some_iff.mp h).1
  rw [List.getElem?_append_left hl]; exact h
theorem RW.mono {w : W} {v : V} (p : al <+: bl) (r : RW K al w v) : RW K bl w v := by
  cases w with
  | ref n => obtain ⟨a, h, e⟩ := r; exact ⟨a, pre_get p h, e⟩
  | _ => exact r
theorem RWs.mono {ws : List W} {vs : List V} (p : al <+: bl) (r : RWs K al ws vs) : RWs K bl ws vs := by
  induction r with
  | nil => exact .nil
  | cons a _ ih => exact .cons (a.mono p) ih
theorem RKs.mono {κ : Type} {ws : List (κ × W)} {vs : List (κ × V)} (p : al <+: bl) (r : RKs K al ws vs) : RKs K bl ws vs := by
  induction r with
  | nil => exact .nil
  | cons a _ ih => exact .cons (a.mono p) ih
theorem RSt.mono {ws : List (Option W)} {vs : L2.St} (p : al <+: bl) (r : RSt K al ws vs) : RSt K bl ws vs := by
  induction r with
  | nil => exact .nil
  | no _ ih => exact .no ih
  | so a _ ih => exact .so (a.mono p) ih
theorem RWs.length {ws : List W} {vs : List V} (r : RWs K al ws vs) : ws.length = vs.length := by
  induction r with
  | nil => rfl
  | cons _ _ ih => simp [ih]
theorem RKs.length {κ : Type} {ws : List (κ × W)} {vs : List (κ × V)} (r : RKs K al ws vs) : ws.length = vs.length := by
  induction r with
  | nil => rfl
  | cons _ _ ih => simp [ih]
theorem RSt.length {ws : List (Option W)} {vs : L2.St} (r : RSt K al ws vs) : ws.length = vs.length := by
  induction r with
  | nil => rfl
  | no _ ih => simp [ih]
  | so _ _ ih => simp [ih]
theorem RWs.get {ws : List W} {vs : List V} (r : RWs K al ws vs) : ∀ {i : Nat} {w : W}, ws[i]? = some w → ∃ v, vs[i]? = some v ∧ RW K al w v := by
  induction r with
  | nil => intro i w h; simp at h
  | cons a _ ih =>
    intro i w h
    cases i with
    | zero => simp at h; subst h; exact ⟨_, rfl, a⟩
    | succ i => simpa using ih (by simpa using h)
theorem RSt.get {ws : List (Option W)} {vs : L2.St} (r : RSt K al ws vs) : ∀ {i : Nat} {w : W}, ws[i]? = some (some w) → ∃ v, vs[i]? = some (some v) ∧ RW K al w v := by
  induction r with
  | nil => intro i w h; simp at h
  | no _ ih =>
    intro i w h
    cases i with
    | zero => simp at h
    | succ i => simpa using ih (by simpa using h)
  | so a _ ih =>
    intro i w h
    cases i with
    | zero => simp at h; subst h; exact ⟨_, rfl, a⟩
    | succ i => simpa using ih (by simpa using h)
theorem RSt.set {ws : List (Option W)} {vs : L2.St} (r : RSt K al ws vs) {w : W} {v : V} (q : RW K al w v) : ∀ i : Nat, RSt K al (ws.set i (some w)) (vs.set i (some v)) := by
  induction r with
  | nil => intro i; exact .nil
  | no t ih =>
    intro i
    cases i with
    | zero => exact .so q t
    | succ i => exact .no (ih i)
  | so a t ih =>
    intro i
    cases i with
    | zero => exact .so q t
    | succ i => exact .so a (ih i)
theorem RSt.clear {ws : List (Option W)} {vs : L2.St} (r : RSt K al ws vs) : ∀ (i : Nat) (x : Option V), RSt K al (ws.set i none) (vs.set i x) := by
  induction r with
  | nil => intro i x; exact .nil
  | no t ih =>
    intro i x
    cases i with
    | zero => exact .no t
    | succ i => exact .no (ih i x)
  | so a t ih =>
    intro i x
    cases i with
    | zero => exact .no t
    | succ i => exact .so a (ih i x)
theorem RWs.set {ws : List W} {vs : List V} (r : RWs K al ws vs) {w : W} {v : V} (q : RW K al w v) : ∀ i : Nat, RWs K al (ws.set i w) (vs.set i v) := by
  induction r with
  | nil => intro i; exact .nil
  | cons a t ih =>
    intro i
    cases i with
    | zero => exact .cons q t
    | succ i => exact .cons a (ih i)
theorem RWs.append {ws ws' : List W} {vs vs' : List V} (r : RWs K al ws vs) (r' : RWs K al ws' vs') : RWs K al (ws ++ ws') (vs ++ vs') := by
  induction r with
  | nil => exact r'
  | cons a _ ih => exact .cons a ih
theorem RWs.inv1 {w : W} {vs : List V} (r : RWs K al [w] vs) : ∃ v, vs = [v] ∧ RW K al w v := by
  cases r with
  | cons a t => cases t; exact ⟨_, rfl, a⟩
theorem RWs.inv2 {w w' : W} {vs : List V} (r : RWs K al [w, w'] vs) : ∃ v v', vs = [v, v'] ∧ RW K al w v ∧ RW K al w' v' := by
  cases r with
  | cons a t =>
    obtain ⟨v', e, b⟩ := t.inv1
    subst e
    exact ⟨_, _, rfl, a, b⟩
theorem RWs.startSt {ws : List W} {vs : List V} (r : RWs K al ws vs) (n : Nat) : RSt K al (ws.map some ++ List.replicate n none) (vs.map some ++ List.replicate n none) := by
  induction r with
  | nil =>
    induction n with
    | zero => exact .nil
    | succ n ih => exact .no ih
  | cons a _ ih => exact .so a ih

/-! ### what stands at an address, under more addresses, other heaps -/
theorem SqL.stay {H H' : Hp} {a : Addr} {xs : List V} (h : SqL K H a xs) (e : H' a = H a) : SqL K H' a xs := by
  rcases h with (h | ⟨o, h⟩) | h
  · exact .inl (.inl (e.trans h))
  · exact .inl (.inr ⟨o, e.trans h⟩)
  · exact .inr h
theorem SqT.stay {H H' : Hp} {a : Addr} {xs : List V} (h : SqT K H a xs) (e : H' a = H a) : SqT K H' a xs := by
  rcases h with (h | ⟨o, h⟩) | h
  · exact .inl (.inl (e.trans h))
  · exact .inl (.inr ⟨o, e.trans h⟩)
  · exact .inr h
theorem HAt.stay {H H' : Hp} {a : Addr} {o : O} (h : HAt K al H a o) (p : al <+: bl) (e : H' a = H a) : HAt K bl H' a o := by
  cases o with
  | lst xs => obtain ⟨vs, r, q⟩ := h; exact ⟨vs, r.mono p, e.trans q⟩
  | cst xs => obtain ⟨vs, r, q⟩ := h; exact ⟨vs, r.mono p, SqL.stay q e⟩
  | tup xs => obtain ⟨vs, r, q⟩ := h; exact ⟨vs, r.mono p, SqT.stay q e⟩
  | dic kvs => obtain ⟨vs, r, q⟩ := h; exact ⟨vs, r.mono p, e.trans q⟩
  | lck kvs => obtain ⟨o, vs, r, q⟩ := h; exact ⟨o, vs, r.mono p, e.trans q⟩
  | ins c fs => obtain ⟨dx, vs, r, q⟩ := h; exact ⟨dx, vs, r.mono p, e.trans q⟩
  | xd fs => obtain ⟨vs, r, q⟩ := h; exact ⟨vs, r.mono p, e.trans q⟩
/-- an object that H tracks (a list that is only read, a tuple may stand in the written part instead) -/
def O.own : O → Bool
  | .cst _ => false
  | .tup _ => false
  | _ => true
theorem HAt.some {H : Hp} {a : Addr} {o : O} (h : HAt K al H a o) (p : o.own = true) : ∃ u, H a = some u := by
  cases o with
  | lst xs => obtain ⟨vs, r, q⟩ := h; exact ⟨_, q⟩
  | cst xs => cases p
  | tup xs => cases p
  | dic kvs => obtain ⟨vs, r, q⟩ := h; exact ⟨_, q⟩
  | lck kvs => obtain ⟨o, vs, r, q⟩ := h; exact ⟨_, q⟩
  | ins c fs => obtain ⟨dx, vs, r, q⟩ := h; exact ⟨_, q⟩
  | xd fs => obtain ⟨vs, r, q⟩ := h; exact ⟨_, q⟩
theorem Fx.mono {a : Addr} {o : O} (h : Fx K al a o) (p : al <+: bl) : Fx K bl a o := fun H => (h H).stay p rfl
theorem Fx.notOwn {a : Addr} {o : O} (h : Fx K al a o) : o.own = false := by
  cases e : o.own with
  | false => rfl
  | true =>
    obtain ⟨u, q⟩ := (h (fun _ => none)).some e
    cases q
theorem SqL.fx {H H' : Hp} {a : Addr} {xs : List V} (h : SqL K H a xs) (e : H a = none) : SqL K H' a xs := by
  rcases h with (h | ⟨o, h⟩) | h
  · rw [e] at h; cases h
  · rw [e] at h; cases h
  · exact .inr h
theorem SqT.fx {H H' : Hp} {a : Addr} {xs : List V} (h : SqT K H a xs) (e : H a = none) : SqT K H' a xs := by
  rcases h with (h | ⟨o, h⟩) | h
  · rw [e] at h; cases h
  · rw [e] at h; cases h
  · exact .inr h
/-- what H does not track stands in the written part -/
theorem HAt.fx {H : Hp} {a : Addr} {o : O} (h : HAt K al H a o) (e : H a = none) : Fx K al a o := by
  cases o with
  | cst xs => obtain ⟨vs, r, q⟩ := h; exact fun H' => ⟨vs, r, SqL.fx q e⟩
  | tup xs => obtain ⟨vs, r, q⟩ := h; exact fun H' => ⟨vs, r, SqT.fx q e⟩
  | _ => obtain ⟨u, q⟩ := h.some rfl; rw [e] at q; cases q

theorem Sim.get {s : Sto} {H : Hp} (S : Sim K al s H) {n : Nat} {o : O} (h : s[n]? = some o) : ∃ a, al[n]? = some a ∧ HAt K al H a o := S.at_ n o h
theorem pre_snoc (al : List Addr) (p : Addr) : al <+: al ++ [p] := ⟨[p], rfl⟩
theorem snoc_at {al : List Addr} {s : Sto} (h : al.length = s.length) (p : Addr) : (al ++ [p])[s.length]? = some p := by
  rw [← h]; simp
/-- a new object -/
theorem Sim.alloc {s : Sto} {H : Hp} (S : Sim K al s H) {p : Addr} {o : O} {u : HO} (hp : H p = none) (h : HAt K (al ++ [p]) (upd H p u) p o) : Sim K (al ++ [p]) (s ++ [o]) (upd H p u) := by
  have old : ∀ {n : Nat} {a : Addr} {o : O}, s[n]? = some o → al[n]? = some a → HAt K al H a o := fun {n a o} e1 e2 => by
    obtain ⟨a', e3, q⟩ := S.get e1
    rw [e2] at e3; cases e3; exact q
  have inv : ∀ {n : Nat} {x : O}, (s ++ [o])[n]? = some x → (n < s.length ∧ s[n]? = some x) ∨ (n = s.length ∧ x = o) := fun {n x} e => by
    by_cases hn : n < s.length
    · rw [List.getElem?_append_left hn] at e; exact .inl ⟨hn, e⟩
    · rw [List.getElem?_append_right (by omega)] at e
      have : n - s.length = 0 := by
        cases q : n - s.length with
        | zero => rfl
        | succ k => rw [q] at e; simp at e
      rw [this] at e
      simp at e
      exact .inr ⟨by omega, e.symm⟩
  have inva : ∀ {n : Nat} {a : Addr}, (al ++ [p])[n]? = some a → (n < s.length ∧ al[n]? = some a) ∨ (n = s.length ∧ a = p) := fun {n a} e => by
    by_cases hn : n < al.length
    · rw [List.getElem?_append_left hn] at e; exact .inl ⟨by rw [← S.len]; exact hn, e⟩
    · rw [List.getElem?_append_right (by omega)] at e
      have : n - al.length = 0 := by
        cases q : n - al.length with
        | zero => rfl
        | succ k => rw [q] at e; simp at e
      rw [this] at e
      simp at e
      exact .inr ⟨by have := S.len; omega, e.symm⟩
  refine ⟨by simp [S.len], fun n m a o1 o2 a1 a2 e1 e2 ne => ?_, fun n x e => ?_⟩
  · rcases inva a1 with ⟨h1, b1⟩ | ⟨h1, b1⟩ <;> rcases inva a2 with ⟨h2, b2⟩ | ⟨h2, b2⟩
    · rw [List.getElem?_append_left h1] at e1
      rw [List.getElem?_append_left h2] at e2
      exact (S.nd n m a o1 o2 b1 b2 e1 e2 ne).imp (fun z => z.mono (pre_snoc _ _)) fun z => z.mono (pre_snoc _ _)
    · subst b2
      rw [List.getElem?_append_left h1] at e1
      exact .inl (((old e1 b1).fx hp).mono (pre_snoc _ _))
    · subst b1
      rw [List.getElem?_append_left h2] at e2
      exact .inr (((old e2 b2).fx hp).mono (pre_snoc _ _))
    · omega
  · rcases inv e with ⟨hn, e⟩ | ⟨rfl, rfl⟩
    · obtain ⟨a, h1, h2⟩ := S.get e
      refine ⟨a, pre_get (pre_snoc _ _) h1, ?_⟩
      by_cases ha : a = p
      · subst ha
        exact ((h2.fx hp).mono (pre_snoc _ _)) _
      · exact h2.stay (pre_snoc _ _) (upd_ne ha)
    · exact ⟨p, snoc_at S.len p, h⟩
/-- an object is changed -/
theorem Sim.write {s : Sto} {H : Hp} (S : Sim K al s H) {n : Nat} {a : Addr} {o o' : O} {u : HO} (hn : s[n]? = some o) (ha : al[n]? = some a) (ow : o.own = true) (h : HAt K al (upd H a u) a o') (ow' : o'.own = true) : Sim K al (s.set n o') (upd H a u) := by
  have hl : n < s.length := (List.getElem?_eq_some_iff.mp hn).1
  have inv : ∀ {m : Nat} {x : O}, (s.set n o')[m]? = some x → (m = n ∧ x = o') ∨ (m ≠ n ∧ s[m]? = some x) := fun {m x} e => by
    by_cases hm : m = n
    · subst hm
      rw [List.getElem?_set_self hl] at e
      cases e
      exact .inl ⟨rfl, rfl⟩
    · rw [List.getElem?_set_ne (Ne.symm hm)] at e
      exact .inr ⟨hm, e⟩
  have fx : ∀ {m : Nat} {x : O}, m ≠ n → s[m]? = some x → al[m]? = some a → Fx K al a x := fun {m x} hm e q => by
    rcases S.nd m n a x o q ha e hn hm with z | z
    · exact z
    · have := z.notOwn; rw [ow] at this; cases this
  refine ⟨by simp [S.len], fun i j b o1 o2 a1 a2 e1 e2 ne => ?_, fun m x e => ?_⟩
  · rcases inv e1 with ⟨z1, y1⟩ | ⟨h1, f1⟩ <;> rcases inv e2 with ⟨z2, y2⟩ | ⟨h2, f2⟩
    · exact absurd (z1.trans z2.symm) ne
    · subst z1
      rw [ha] at a1; cases a1
      exact .inr (fx h2 f2 a2)
    · subst z2
      rw [ha] at a2; cases a2
      exact .inl (fx h1 f1 a1)
    · exact S.nd i j b o1 o2 a1 a2 f1 f2 ne
  · rcases inv e with ⟨rfl, rfl⟩ | ⟨hm, e⟩
    · exact ⟨a, ha, h⟩
    · obtain ⟨b, h1, h2⟩ := S.get e
      refine ⟨b, h1, ?_⟩
      by_cases hb : b = a
      · subst hb
        exact fx hm e h1 _
      · exact h2.stay (List.prefix_refl _) (upd_ne hb)
end Vm

/-! Vm2: results, what is to hold behind them, readings of functional meanings; the plain rules. -/
namespace Vm
open PySem PySem.Spec PyProof.Rows L2

/-- a result: a value and the store behind; an exception (its class's name, the place of its own dict); nothing is known -/
inductive R (B : Type) where
  | ok (b : B) (s : Sto) | er (c : Str) (d : Nat) (s : Sto) | no
def R.bind {B C : Type} (r : R B) (f : B → Sto → R C) : R C := match r with
  | .ok b s => f b s
  | .er c d s => .er c d s
  | .no => .no
def R.of {B : Type} : Option (B × Sto) → R B
  | some (b, s) => .ok b s
  | none => .no
abbrev Loc := List (Option W)
abbrev ME := Loc → Sto → R W
abbrev MA := Loc → Sto → R (List W)
abbrev MT := Loc → Sto → R Bool

section
variable (K : PySem.W.Frag) (Wx : WX)
def Post {B : Type} (al : List Addr) (sg : L2.St) (P : B → List Addr → Sto → Hp → Prop) : R B → Prop
  | .ok b s => ∀ (al' : List Addr) (H' : Hp), al <+: al' → Sim K al' s H' → P b al' s H'
  | .er c d s => ∀ (al' : List Addr) (H' : Hp) (a : Addr), al <+: al' → Sim K al' s H' → al'[d]? = some a → Wx (.ref (He.ga K c)) (some a) sg H'
  | .no => False
abbrev PW1 (Q : VK) : W → List Addr → Sto → Hp → Prop := fun w al' _ H' => ∀ v, RW K al' w v → Q v H'
abbrev PWs (Q : List V → Hp → Prop) : List W → List Addr → Sto → Hp → Prop := fun w al' _ H' => ∀ v, RWs K al' w v → Q v H'
def tM (m : ME) : TE := fun sg H Q => ∃ al s ws, Sim K al s H ∧ RSt K al ws sg ∧ Post K Wx al sg (PW1 K Q) (m ws s)
def tMs (m : MA) : TA := fun sg H Q => ∃ al s ws, Sim K al s H ∧ RSt K al ws sg ∧ Post K Wx al sg (PWs K Q) (m ws s)
def tMt (m : MT) : TT := fun sg H Q => ∃ al s ws, Sim K al s H ∧ RSt K al ws sg ∧ Post K Wx al sg (fun b _ _ H' => Q b H') (m ws s)
end
section
variable {K : PySem.W.Frag} {Wx : WX} {al al' : List Addr} {sg : L2.St} {B C : Type} {P P' : B → List Addr → Sto → Hp → Prop}
theorem Post.mono {r : R B} (h : Post K Wx al sg P r) (p : al <+: al') : Post K Wx al' sg P r := by
  cases r with
  | ok b s => exact fun al2 H2 q S => h al2 H2 (p.trans q) S
  | er c d s => exact fun al2 H2 a q S e => h al2 H2 a (p.trans q) S e
  | no => exact h
theorem Post.imp {r : R B} (h : Post K Wx al sg P r) (f : ∀ b al' s H', al <+: al' → Sim K al' s H' → P b al' s H' → P' b al' s H') : Post K Wx al sg P' r := by
  cases r with
  | ok b s => exact fun al2 H2 q S => f b al2 s H2 q S (h al2 H2 q S)
  | er c d s => exact h
  | no => exact h
theorem Post.bind {r : R B} {f : B → Sto → R C} {P : C → List Addr → Sto → Hp → Prop} (h : Post K Wx al sg P (r.bind f)) : Post K Wx al sg (fun b al' s' _ => Post K Wx al' sg P (f b s')) r := by
  cases r with
  | ok b s => exact fun al2 H2 q S => (show Post K Wx al sg P (f b s) from h).mono q
  | er c d s => exact h
  | no => exact h
/-- from an option: it is some, and what follows -/
theorem Post.of {o : Option (B × Sto)} (h : Post K Wx al sg P (R.of o)) : ∃ b s, o = some (b, s) ∧ ∀ (al' : List Addr) (H' : Hp), al <+: al' → Sim K al' s H' → P b al' s H' := by
  cases o with
  | none => exact h.elim
  | some q => exact ⟨q.1, q.2, rfl, h⟩
end

section
variable {X : Cx} {Wx : WX}
/-! ### names, constants -/
def mvar (i : Nat) : ME := fun ws s => match ws[i]? with
  | some (some w) => .ok w s
  | _ => .no
def mc (w : W) : ME := fun _ s => .ok w s
theorem pm_var {i : Nat} {x : Str} {pos : Pos} (hN : X.N[i]? = some x) (hv : Vis X.env.scope x) (hd : (x == ("__debug__" : Str)) = false) (hcd : (x == ("__classdict__" : Str)) = false) : PE X (.Name x pos) (tM X.K Wx (mvar i)) := by
  refine ⟨fun pins s sg H Q I ⟨al, sw, ws, S, r, h⟩ => ?_⟩
  refine (pe_var hN hv hd hcd).run pins s sg H Q I ?_
  unfold mvar at h
  split at h
  · rename_i w e
    obtain ⟨v, e', q⟩ := r.get e
    exact ⟨v, e', h al H (List.prefix_refl _) S v q⟩
  · exact h.elim
theorem pm_c {e : Expr} {w : W} {v : V} (he : PE X e (tC v)) (hv : ∀ al, RW X.K al w v) : PE X e (tM X.K Wx (mc w)) := by
  refine ⟨fun pins s sg H Q I ⟨al, sw, ws, S, r, h⟩ => ?_⟩
  exact he.run pins s sg H Q I (h al H (List.prefix_refl _) S v (hv al))

/-! ### operators by values -/
abbrev G1 := W → Sto → Option (W × Sto)
abbrev G2 := W → W → Sto → Option (W × Sto)
abbrev Gs := List W → Sto → Option (W × Sto)
def Back (K : PySem.W.Frag) (al : List Addr) (w : W) (s : Sto) (Q : VK) : Prop := ∀ (al' : List Addr) (H' : Hp), al <+: al' → Sim K al' s H' → ∀ v, RW K al' w v → Q v H'
def Lift2 (K : PySem.W.Frag) (r : R2) (g : G2) : Prop := ∀ (al : List Addr) (sw s' : Sto) (H : Hp) (w1 w2 w : W) (v1 v2 : V) (Q : VK), Sim K al sw H → RW K al w1 v1 → RW K al w2 v2 → g w1 w2 sw = some (w, s') → Back K al w s' Q → r v1 v2 H Q
def Lift1 (K : PySem.W.Frag) (r : V → Hp → VK → Prop) (g : G1) : Prop := ∀ (al : List Addr) (sw s' : Sto) (H : Hp) (w1 w : W) (v1 : V) (Q : VK), Sim K al sw H → RW K al w1 v1 → g w1 sw = some (w, s') → Back K al w s' Q → r v1 H Q
def Lifts (K : PySem.W.Frag) (r : List V → Hp → VK → Prop) (g : Gs) : Prop := ∀ (al : List Addr) (sw s' : Sto) (H : Hp) (ws : List W) (w : W) (vs : List V) (Q : VK), Sim K al sw H → RWs K al ws vs → g ws sw = some (w, s') → Back K al w s' Q → r vs H Q
def mbin (g : G2) (a b : ME) : ME := fun ws s => (a ws s).bind fun x s => (b ws s).bind fun y s => R.of (g x y s)
def mun (g : G1) (a : ME) : ME := fun ws s => (a ws s).bind fun x s => R.of (g x s)
def mnil : MA := fun _ s => .ok [] s
def mcons (a : ME) (b : MA) : MA := fun ws s => (a ws s).bind fun x s => (b ws s).bind fun xs s => .ok (x :: xs) s
def mfn (g : Gs) (a : MA) : ME := fun ws s => (a ws s).bind fun xs s => R.of (g xs s)
variable {a b : Expr} {ma mb : ME} {pos : Pos}
/-- two expressions in a row, then what the operator asks -/
theorem two_ok {r : R2} {g : G2} {al : List Addr} {sw : Sto} {ws : Loc} {sg : L2.St} {H : Hp} {Q : VK} (L : Lift2 X.K r g) (S : Sim X.K al sw H) (rs : RSt X.K al ws sg) (h : Post X.K Wx al sg (PW1 X.K Q) (mbin g ma mb ws sw)) :
    tOp r (tM X.K Wx ma) (tM X.K Wx mb) sg H Q := by
  refine ⟨al, sw, ws, S, rs, h.bind.imp fun x al1 s1 H1 p1 S1 h1 v rv => ?_⟩
  refine ⟨al1, s1, ws, S1, rs.mono p1, h1.bind.imp fun y al2 s2 H2 p2 S2 h2 u ru => ?_⟩
  obtain ⟨w, s', e, q⟩ := h2.of
  exact L al2 s2 s' H2 x y w v u Q S2 (rv.mono p2) ru e q
theorem pm_bin {op : Operator} {r : R2} {g : G2} (ho : OpR X (binaryOp op) r) (L : Lift2 X.K r g) (ha : PE X a (tM X.K Wx ma)) (hb : PE X b (tM X.K Wx mb)) : PE X (.BinOp a op b pos) (tM X.K Wx (mbin g ma mb)) :=
  ⟨fun pins s sg H Q I ⟨al, sw, ws, S, rs, h⟩ => (pe_op ho ha hb).run pins s sg H Q I (two_ok L S rs h)⟩
theorem pm_cmp {op : CmpOp} {r : R2} {g : G2} (ho : OpR X (compareOp op) r) (L : Lift2 X.K r g) (ha : PE X a (tM X.K Wx ma)) (hb : PE X b (tM X.K Wx mb)) (hm : behindInMarks op b = false) : PE X (.Compare a [op] [b] pos) (tM X.K Wx (mbin g ma mb)) :=
  ⟨fun pins s sg H Q I ⟨al, sw, ws, S, rs, h⟩ => (pe_cmpR ho ha hb hm).run pins s sg H Q I (two_ok L S rs h)⟩
theorem pm_un {op : UnaryOp} {r : V → Hp → VK → Prop} {g : G1} (ho : UnR X (unaryOp op) r) (L : Lift1 X.K r g) (ha : PE X a (tM X.K Wx ma)) : PE X (.UnaryOp op a pos) (tM X.K Wx (mun g ma)) := by
  refine ⟨fun pins s sg H Q I ⟨al, sw, ws, S, rs, h⟩ => (pe_un ho ha).run pins s sg H Q I ?_⟩
  refine ⟨al, sw, ws, S, rs, h.bind.imp fun x al1 s1 H1 p1 S1 h1 v rv => ?_⟩
  obtain ⟨w, s', e, q⟩ := h1.of
  exact L al1 s1 s' H1 x w v Q S1 rv e q
/-! ### argument lists -/
theorem pms_nil : PA X [] (tMs X.K Wx mnil) :=
  ⟨fun pos pins s sg H Q I ⟨al, sw, ws, S, rs, h⟩ => pa_nil.run pos pins s sg H Q I (h al H (List.prefix_refl _) S [] .nil)⟩
theorem pms_cons {e : Expr} {es : List Expr} {me : ME} {ms : MA} (ha : PE X e (tM X.K Wx me)) (hr : PA X es (tMs X.K Wx ms)) (hs : starEach (e :: es) X.env = (false, eval e X.env) :: starEach es X.env) : PA X (e :: es) (tMs X.K Wx (mcons me ms)) := by
  refine ⟨fun pos pins s sg H Q I ⟨al, sw, ws, S, rs, h⟩ => (pa_cons ha hr hs).run pos pins s sg H Q I ?_⟩
  refine ⟨al, sw, ws, S, rs, h.bind.imp fun x al1 s1 H1 p1 S1 h1 v rv => ?_⟩
  refine ⟨al1, s1, ws, S1, rs.mono p1, h1.bind.imp fun xs al2 s2 H2 p2 S2 h2 vs rvs => ?_⟩
  exact h2 al2 H2 (List.prefix_refl _) S2 (v :: vs) (.cons (rv.mono p2) rvs)
/-! ### displays -/
def mtup (a : MA) : ME := fun ws s => (a ws s).bind fun xs s => if xs.length ≤ 16777216 then .ok (.ref s.length) (s ++ [.tup xs]) else .no
def mlst (a : MA) : ME := fun ws s => (a ws s).bind fun xs s => if xs.length ≤ 16777216 then .ok (.ref s.length) (s ++ [.lst xs]) else .no
variable {es : List Expr} {ms : MA}
theorem line_eq : (sizeLine : Nat) = 16777216 := by decide
theorem pm_tup {x1} (h : PA X es (tMs X.K Wx ms)) : PE X (.Tuple es x1 pos) (tM X.K Wx (mtup ms)) := by
  refine ⟨fun pins s sg H Q I ⟨al, sw, ws, S, rs, h'⟩ => (pe_tup h).run pins s sg H Q I ?_⟩
  refine ⟨al, sw, ws, S, rs, h'.bind.imp fun xs al1 s1 H1 p1 S1 h1 vs rv => ?_⟩
  split at h1
  · rename_i hl
    refine ⟨by rw [← rv.length, line_eq]; exact hl, fun p hp => ?_⟩
    exact h1 (al1 ++ [p]) _ (pre_snoc _ _) (S1.alloc hp ⟨vs, rv.mono (pre_snoc _ _), SqT.of upd_same⟩) _ ⟨p, snoc_at S1.len p, rfl⟩
  · exact h1.elim
theorem pm_lst (h : PA X es (tMs X.K Wx ms)) : PE X (.List es pos) (tM X.K Wx (mlst ms)) := by
  refine ⟨fun pins s sg H Q I ⟨al, sw, ws, S, rs, h'⟩ => (pe_lst h).run pins s sg H Q I ?_⟩
  refine ⟨al, sw, ws, S, rs, h'.bind.imp fun xs al1 s1 H1 p1 S1 h1 vs rv => ?_⟩
  split at h1
  · rename_i hl
    refine ⟨by rw [← rv.length, line_eq]; exact hl, fun p hp => ?_⟩
    exact h1 (al1 ++ [p]) _ (pre_snoc _ _) (S1.alloc hp ⟨vs, rv.mono (pre_snoc _ _), upd_same⟩) _ ⟨p, snoc_at S1.len p, rfl⟩
  · exact h1.elim
/-! ### calls of built-ins -/
variable {x : Str} {id T : String} {p : Pos} {e : Expr}
theorem fn_ok {r : List V → Hp → VK → Prop} {g : Gs} {al : List Addr} {sw : Sto} {ws : Loc} {sg : L2.St} {H : Hp} {Q : VK} (L : Lifts X.K r g) (S : Sim X.K al sw H) (rs : RSt X.K al ws sg) (h : Post X.K Wx al sg (PW1 X.K Q) (mfn g ms ws sw)) :
    tCB r (tMs X.K Wx ms) sg H Q := by
  refine ⟨al, sw, ws, S, rs, h.bind.imp fun xs al1 s1 H1 p1 S1 h1 vs rv => ?_⟩
  obtain ⟨w, s', e, q⟩ := h1.of
  exact L al1 s1 s' H1 xs w vs Q S1 rv e q
theorem pm_callB {r : List V → Hp → VK → Prop} {g : Gs} (hc : CallR X (.builtin id) r) (L : Lifts X.K r g) (hg : Gl X x) (hm : X.mg x = none) (hv : bootBuiltins x = some (.builtin id)) (ha : PA X (e :: es) (tMs X.K Wx ms)) (hn : x ≠ "__name__") (hdb : (x == ("__debug__" : Str)) = false)
    (he : starEach (e :: es) X.env = (false, eval e X.env) :: starEach es X.env) (hpl : (backTo pos (starEach es X.env)).any (·.1) = false) : PE X (.Call (.Name x p) (e :: es) [] pos) (tM X.K Wx (mfn g ms)) :=
  ⟨fun pins s sg H Q I ⟨al, sw, ws, S, rs, h⟩ => (pe_callB hc hg hm hv ha hn hdb he hpl).run pins s sg H Q I (fn_ok L S rs h)⟩
theorem pm_callTy {r : List V → Hp → VK → Prop} {g : Gs} (hc : CallR X (.type T) r) (L : Lifts X.K r g) (hg : Gl X x) (hm : X.mg x = none) (hv : bootBuiltins x = some (.type T)) (ha : PA X (e :: es) (tMs X.K Wx ms)) (hn : x ≠ "__name__") (hdb : (x == ("__debug__" : Str)) = false)
    (he : starEach (e :: es) X.env = (false, eval e X.env) :: starEach es X.env) (hpl : (backTo pos (starEach es X.env)).any (·.1) = false) : PE X (.Call (.Name x p) (e :: es) [] pos) (tM X.K Wx (mfn g ms)) :=
  ⟨fun pins s sg H Q I ⟨al, sw, ws, S, rs, h⟩ => (pe_callTy hc hg hm hv ha hn hdb he hpl).run pins s sg H Q I (fn_ok L S rs h)⟩
/-! ### tests -/
def mtru (g : W → Sto → Option Bool) (a : ME) : MT := fun ws s => (a ws s).bind fun x s => match g x s with
  | some b => .ok b s
  | none => .no
def mand (a b : MT) : MT := fun ws s => (a ws s).bind fun c s => if c = true then b ws s else .ok false s
def mor (a b : MT) : MT := fun ws s => (a ws s).bind fun c s => if c = true then .ok true s else b ws s
def mnot (a : MT) : MT := fun ws s => (a ws s).bind fun c s => .ok (!c) s
/-- the truth of a value -/
def gtru : W → Sto → Option Bool
  | .non, _ => some false
  | .bl b, _ => some b
  | .int i, _ => some (i != 0)
  | .str x, _ => if x.length ≤ 16777216 then some (x.length != 0) else none
  | .ref n, s => match s[n]? with
    | some (.lst xs) => some (!xs.isEmpty)
    | some (.cst xs) => some (!xs.isEmpty)
    | some (.tup xs) => some (!xs.isEmpty)
    | some (.dic kvs) => some (!kvs.isEmpty)
    | _ => none
  | _, _ => none
end
end Vm

/-! Vm3: operators, comparisons, built-ins, by values. -/
namespace Vm
open PySem PySem.Spec PyProof.Rows L2
variable {K : PySem.W.Frag}
def ok1 (w : W) (s : Sto) : Option (W × Sto) := some (w, s)
/-- a new object -/
def nw (o : O) (s : Sto) : Option (W × Sto) := some (.ref s.length, s ++ [o])
theorem Back.now {al : List Addr} {w : W} {s : Sto} {H : Hp} {Q : VK} {v : V} (b : Back K al w s Q) (S : Sim K al s H) (r : RW K al w v) : Q v H := b al H (List.prefix_refl _) S v r
theorem Back.nw {al : List Addr} {s : Sto} {H : Hp} {Q : VK} {o : O} {u : HO} (b : Back K al (.ref s.length) (s ++ [o]) Q) (S : Sim K al s H) (h : ∀ p, HAt K (al ++ [p]) (upd H p u) p o) : ∀ p, H p = none → Q (.ref p) (upd H p u) := fun p hp =>
  b (al ++ [p]) _ (pre_snoc _ _) (S.alloc hp (h p)) _ ⟨p, snoc_at S.len p, rfl⟩
/-- the items of a list, of a tuple -/
def lstAt (s : Sto) (n : Nat) : Option (List W) := match s[n]? with
  | some (.lst xs) => some xs
  | some (.cst xs) => some xs
  | _ => none
def tupAt (s : Sto) (n : Nat) : Option (List W) := match s[n]? with
  | some (.tup xs) => some xs
  | _ => none
theorem lstAt_ok {al : List Addr} {s : Sto} {H : Hp} {n : Nat} {xs : List W} (S : Sim K al s H) (h : lstAt s n = some xs) : ∃ a vs, al[n]? = some a ∧ RWs K al xs vs ∧ SqL K H a vs := by
  unfold lstAt at h
  split at h
  · rename_i ys e
    cases h
    obtain ⟨a, ha, vs, r, q⟩ := S.get e
    exact ⟨a, vs, ha, r, SqL.of q⟩
  · rename_i ys e
    cases h
    obtain ⟨a, ha, vs, r, q⟩ := S.get e
    exact ⟨a, vs, ha, r, q⟩
  · cases h
theorem tupAt_ok {al : List Addr} {s : Sto} {H : Hp} {n : Nat} {xs : List W} (S : Sim K al s H) (h : tupAt s n = some xs) : ∃ a vs, al[n]? = some a ∧ RWs K al xs vs ∧ SqT K H a vs := by
  unfold tupAt at h
  split at h
  · rename_i ys e
    cases h
    obtain ⟨a, ha, vs, r, q⟩ := S.get e
    exact ⟨a, vs, ha, r, q⟩
  · cases h
def muAt (s : Sto) (n : Nat) : Option (List W) := match s[n]? with
  | some (.lst xs) => some xs
  | _ => none
theorem muAt_ok {al : List Addr} {s : Sto} {H : Hp} {n : Nat} {xs : List W} (S : Sim K al s H) (h : muAt s n = some xs) : s[n]? = some (.lst xs) ∧ ∃ a vs, al[n]? = some a ∧ RWs K al xs vs ∧ H a = some (.lst vs) := by
  unfold muAt at h
  split at h
  · rename_i ys e
    cases h
    obtain ⟨a, ha, vs, r, q⟩ := S.get e
    exact ⟨e, a, vs, ha, r, q⟩
  · cases h

/-! ### + - * // % ** -/
def gAdd : G2
  | .int i, .int j, s => ok1 (.int (i + j)) s
  | .int i, .bl k, s => ok1 (.int (i + b2i k)) s
  | .str x, .str y, s => if x.length + y.length ≤ 16777216 then ok1 (.str (x ++ y)) s else none
  | .ref m, .ref n, s => match muAt s m, muAt s n with
    | some xs, some ys => if xs.length + ys.length ≤ 16777216 then nw (.lst (xs ++ ys)) s else none
    | _, _ => match tupAt s m, tupAt s n with
      | some xs, some ys => if xs.length + ys.length ≤ 16777216 then (if xs = [] then none else if ys = [] then ok1 (.ref m) s else nw (.tup (xs ++ ys)) s) else none
      | _, _ => none
  | _, _, _ => none
abbrev rAddQ (K : PySem.W.Frag) : R2 := fun x y H Q => ((((rI0 fun i j => .int (i + j)) x y H Q ∨ (∃ i k, x = .int i ∧ y = .bl k ∧ Q (.int (i + b2i k)) H)) ∨ (∃ i j, x = .str i ∧ y = .str j ∧ i.length + j.length ≤ sizeLine ∧ Q (.str (i ++ j)) H)) ∨ rCat x y H Q) ∨ rCatT K x y H Q
theorem op_addQ {X : Cx} : OpR X (binaryOp .Add) (rAddQ X.K) := (((op_add.or op_add_ib).or op_add_str).or op_cat).or op_catT
theorem l_add : Lift2 K (rAddQ K) gAdd := by
  intro al sw s' H w1 w2 w v1 v2 Q S r1 r2 e b
  unfold gAdd at e
  split at e
  · cases e; cases r1; cases r2; exact .inl (.inl (.inl (.inl ⟨_, _, rfl, rfl, b.now S rfl⟩)))
  · cases e; cases r1; cases r2; exact .inl (.inl (.inl (.inr ⟨_, _, rfl, rfl, b.now S rfl⟩)))
  · split at e
    · rename_i hl
      cases e; cases r1; cases r2
      exact .inl (.inl (.inr ⟨_, _, rfl, rfl, by rw [line_eq]; exact hl, b.now S rfl⟩))
    · cases e
  · rename_i m n s
    obtain ⟨a1, h1, rfl⟩ := r1
    obtain ⟨a2, h2, rfl⟩ := r2
    split at e
    · rename_i xs ys e1 e2
      split at e
      · rename_i hl
        cases e
        obtain ⟨_, b1, vs1, g1, q1, z1⟩ := muAt_ok S e1
        obtain ⟨_, b2, vs2, g2, q2, z2⟩ := muAt_ok S e2
        rw [h1] at g1; cases g1
        rw [h2] at g2; cases g2
        exact .inl (.inr ⟨_, _, _, _, rfl, rfl, z1, z2, by rw [← q1.length, ← q2.length, line_eq]; exact hl, b.nw S fun p => ⟨_, (q1.append q2).mono (pre_snoc _ _), upd_same⟩⟩)
      · cases e
    · split at e
      · rename_i xs ys e1 e2
        split at e
        · rename_i hl
          obtain ⟨b1, vs1, g1, q1, z1⟩ := tupAt_ok S e1
          obtain ⟨b2, vs2, g2, q2, z2⟩ := tupAt_ok S e2
          rw [h1] at g1; cases g1
          rw [h2] at g2; cases g2
          split at e
          · cases e
          · rename_i hx
            have hx' : vs1 ≠ [] := fun z => hx (by have := q1.length; rw [z] at this; exact List.length_eq_zero_iff.mp this)
            refine .inr ⟨_, _, _, _, rfl, rfl, z1, z2, hx', by rw [← q1.length, ← q2.length, line_eq]; exact hl, fun hy => ?_, fun hy => ?_⟩
            · split at e
              · cases e
                exact b.now S ⟨_, h1, rfl⟩
              · rename_i hy'
                exact absurd (by have := q2.length; rw [hy] at this; exact List.length_eq_zero_iff.mp this) hy'
            · split at e
              · rename_i hy'
                subst hy'
                cases q2
                exact absurd rfl hy
              · cases e
                exact b.nw S fun p => ⟨_, (q1.append q2).mono (pre_snoc _ _), SqT.of upd_same⟩
        · cases e
      · cases e
  · cases e
def gI (C : Int → Int → Bool) (f : Int → Int → Int) : G2
  | .int i, .int j, s => if C i j then ok1 (.int (f i j)) s else none
  | _, _, _ => none
theorem l_int {C : Int → Int → Bool} {D : Int → Int → Prop} {f : Int → Int → Int} (h : ∀ i j, C i j = true → D i j) : Lift2 K (rI D fun i j => .int (f i j)) (gI C f) := by
  intro al sw s' H w1 w2 w v1 v2 Q S r1 r2 e b
  unfold gI at e
  split at e
  · split at e
    · rename_i hc
      cases e; cases r1; cases r2
      exact ⟨_, _, rfl, rfl, h _ _ hc, b.now S rfl⟩
    · cases e
  · cases e
theorem l_int0 {f : Int → Int → Int} : Lift2 K (rI0 fun i j => .int (f i j)) (gI (fun _ _ => true) f) := by
  intro al sw s' H w1 w2 w v1 v2 Q S r1 r2 e b
  unfold gI at e
  split at e
  · cases e; cases r1; cases r2
    exact ⟨_, _, rfl, rfl, b.now S rfl⟩
  · cases e
abbrev gSub : G2 := gI (fun _ _ => true) fun i j => i - j
theorem l_sub : Lift2 K (rI0 fun i j => .int (i - j)) gSub := l_int0
/-- below 2 ^ 64 in size -/
def small64 (i : Int) : Bool := decide (i.natAbs < 18446744073709551616)
theorem small64_ok {i : Int} (h : small64 i = true) : -(2 ^ 64) < i ∧ i < 2 ^ 64 := by
  have := of_decide_eq_true h
  omega
def gMul : G2
  | .int i, .int j, s => if small64 i || small64 j || decide (i.natAbs.log2 + j.natAbs.log2 < 1000000) then ok1 (.int (i * j)) s else none
  | .ref m, .int k, s => match muAt s m with
    | some xs => if 0 ≤ k ∧ k < 16777216 ∧ xs.length * k.toNat ≤ 16777216 then nw (.lst (List.replicate k.toNat xs).flatten) s else none
    | none => none
  | _, _, _ => none
abbrev rMulQ : R2 := fun x y H Q => ((rI CMul fun i j => .int (i * j)) x y H Q ∨ (rI CMulW fun i j => .int (i * j)) x y H Q) ∨ rRep x y H Q
theorem op_mulQ {X : Cx} : OpR X (binaryOp .Mult) rMulQ := (op_mul.or op_mulW).or op_rep
theorem RWs.flat {al : List Addr} {ws : List W} {vs : List V} (r : RWs K al ws vs) : ∀ n : Nat, RWs K al (List.replicate n ws).flatten (List.replicate n vs).flatten
  | 0 => .nil
  | n + 1 => by
    rw [List.replicate_succ, List.replicate_succ, List.flatten_cons, List.flatten_cons]
    exact r.append (r.flat n)
theorem l_mul : Lift2 K rMulQ gMul := by
  intro al sw s' H w1 w2 w v1 v2 Q S r1 r2 e b
  unfold gMul at e
  split at e
  · split at e
    · rename_i hc
      cases e; cases r1; cases r2
      simp only [Bool.or_eq_true, decide_eq_true_eq] at hc
      rcases hc with (hc | hc) | hc
      · exact .inl (.inl ⟨_, _, rfl, rfl, .inl (small64_ok hc), b.now S rfl⟩)
      · exact .inl (.inl ⟨_, _, rfl, rfl, .inr (small64_ok hc), b.now S rfl⟩)
      · exact .inl (.inr ⟨_, _, rfl, rfl, hc, b.now S rfl⟩)
    · cases e
  · rename_i m k s
    obtain ⟨a1, h1, rfl⟩ := r1
    cases r2
    split at e
    · rename_i xs e1
      split at e
      · rename_i hl
        cases e
        obtain ⟨_, b1, vs1, g1, q1, z1⟩ := muAt_ok S e1
        rw [h1] at g1; cases g1
        exact .inr ⟨_, _, _, rfl, rfl, z1, by omega, by omega, by rw [← q1.length, line_eq]; exact hl.2.2, b.nw S fun p => ⟨_, (q1.flat _).mono (pre_snoc _ _), upd_same⟩⟩
      · cases e
    · cases e
  · cases e
def cDiv (i j : Int) : Bool := decide (0 < j) && decide (j.natAbs.log2 < 9000)
theorem cDiv_ok (i j : Int) (h : cDiv i j = true) : CDivW i j := by
  simp only [cDiv, Bool.and_eq_true, decide_eq_true_eq] at h
  exact h
abbrev gFdiv : G2 := gI cDiv fun i j => i / j
theorem l_fdiv : Lift2 K (rI CDivW fun i j => .int (i / j)) gFdiv := l_int cDiv_ok
abbrev gMod : G2 := gI (fun _ j => decide (0 < j)) fun i j => i % j
theorem l_mod : Lift2 K (rI (fun _ j => 0 < j) fun i j => .int (i % j)) gMod := l_int fun _ _ h => of_decide_eq_true h
def cPow (i j : Int) : Bool := decide (0 ≤ j) && (decide (j ≤ 1000000) && small64 i)
theorem cPow_ok (i j : Int) (h : cPow i j = true) : CPow i j := by
  simp only [cPow, small64, Bool.and_eq_true, decide_eq_true_eq] at h
  exact ⟨h.1, h.2.1, by omega⟩
abbrev gPow : G2 := gI cPow fun i j => i ^ j.toNat
theorem l_pow : Lift2 K (rI CPow fun i j => .int (i ^ j.toNat)) gPow := l_int cPow_ok
abbrev gShl : G2 := gI cPow fun i j => i * 2 ^ j.toNat
theorem l_shl : Lift2 K (rI CPow fun i j => .int (i * 2 ^ j.toNat)) gShl := l_int cPow_ok
abbrev gShr : G2 := gI (fun _ j => decide (0 ≤ j)) fun i j => i / 2 ^ j.toNat
theorem l_shr : Lift2 K (rI (fun _ j => 0 ≤ j) fun i j => .int (i / 2 ^ j.toNat)) gShr := l_int fun _ _ h => of_decide_eq_true h
abbrev gBand : G2 := gI (fun _ _ => true) Builtin.bitAnd
theorem l_band : Lift2 K (rI0 fun i j => .int (Builtin.bitAnd i j)) gBand := l_int0
abbrev gBor : G2 := gI (fun _ _ => true) Builtin.bitOr
theorem l_bor : Lift2 K (rI0 fun i j => .int (Builtin.bitOr i j)) gBor := l_int0
def gNeg : G1
  | .int i, s => ok1 (.int (-i)) s
  | _, _ => none
theorem l_neg : Lift1 K (rU fun i => .int (-i)) gNeg := by
  intro al sw s' H w1 w v1 Q S r1 e b
  unfold gNeg at e
  split at e
  · cases e; cases r1; exact ⟨_, rfl, b.now S rfl⟩
  · cases e

/-! ### < <= > >= -/
def gCI (f : Int → Int → Bool) : G2
  | .int i, .int j, s => ok1 (.bl (f i j)) s
  | _, _, _ => none
theorem l_ci {f : Int → Int → Bool} : Lift2 K (rI0 fun i j => .bl (f i j)) (gCI f) := by
  intro al sw s' H w1 w2 w v1 v2 Q S r1 r2 e b
  unfold gCI at e
  split at e
  · cases e; cases r1; cases r2; exact ⟨_, _, rfl, rfl, b.now S rfl⟩
  · cases e
abbrev gLt : G2 := gCI fun i j => decide (i < j)
abbrev gLe : G2 := gCI fun i j => decide (i ≤ j)
abbrev gGt : G2 := gCI fun i j => decide (j < i)
abbrev gGe : G2 := gCI fun i j => decide (j ≤ i)

/-! ### data that is read as a whole -/
def rdL (f : W → Option PyData) : List W → Option (List PyData)
  | [] => some []
  | x :: xs => match f x, rdL f xs with
    | some d, some ds => some (d :: ds)
    | _, _ => none
def keyD : Key → PyData
  | .inl i => .int i
  | .inr z => .str z
def rdK (f : W → Option PyData) : List (Key × W) → Option (List (PyData × PyData))
  | [] => some []
  | x :: xs => match f x.2, rdK f xs with
    | some d, some ds => some ((keyD x.1, d) :: ds)
    | _, _ => none
def rdLeaf : W → Option PyData
  | .non => some .none
  | .bl b => some (.bool b)
  | .int i => some (.int i)
  | .str x => some (.str x)
  | _ => none
/-- what a value is, to the depth n -/
def rd (s : Sto) : Nat → W → Option PyData
  | 0 => rdLeaf
  | n + 1 => fun w => match w with
    | .ref p => match s[p]? with
      | some (.lst xs) => (rdL (rd s n) xs).map PyData.list
      | some (.cst xs) => (rdL (rd s n) xs).map PyData.list
      | some (.tup xs) => (rdL (rd s n) xs).map PyData.tuple
      | some (.dic kvs) => (rdK (rd s n) kvs).map PyData.dict
      | _ => none
    | w => rdLeaf w
section
variable {X : Cx} {pins : List (Addr × Obj)} {sg : L2.St} {H : Hp} {sh : Shared} {al : List Addr} {s : Sto}
theorem leaf_reads {w : W} {d : PyData} {v : V} {u : Value} (e : rdLeaf w = some d) (r : RW K al w v) (q : RelV v u) : Reads sh.heap u d [] := by
  unfold rdLeaf at e
  split at e <;> cases e <;> cases r
  · cases q; exact .none
  · cases q; exact .bool _
  · obtain ⟨t, rfl⟩ := q; exact .int _ t
  · obtain ⟨t, rfl⟩ := q; exact .str _ t
theorem rdL_reads {f : W → Option PyData} (hf : ∀ (w : W) (d : PyData) (v : V) (u : Value), f w = some d → RW K al w v → RelV v u → ∃ as, Reads sh.heap u d as ∧ sysModules ∉ as) :
    ∀ (ws : List W) (ds : List PyData) (vs : List V) (us : List Value), rdL f ws = some ds → RWs K al ws vs → Vals vs us → ∃ as, ReadsAll sh.heap us ds as ∧ sysModules ∉ as
  | [], ds, vs, us, e, r, q => by
    cases e
    cases r
    cases q
    exact ⟨_, .nil, by simp⟩
  | w :: ws, ds, vs, us, e, r, q => by
    unfold rdL at e
    cases r with
    | cons r1 r2 =>
      cases q with
      | cons q1 q2 =>
        split at e
        · rename_i d ds' e1 e2
          cases e
          obtain ⟨a1, h1, n1⟩ := hf _ _ _ _ e1 r1 q1
          obtain ⟨a2, h2, n2⟩ := rdL_reads hf ws ds' _ _ e2 r2 q2
          exact ⟨_, .cons h1 h2, by simp [n1, n2]⟩
        · cases e
theorem kv_reads {f : W → Option PyData} (hf : ∀ (w : W) (d : PyData) (v : V) (u : Value), f w = some d → RW K al w v → RelV v u → ∃ as, Reads sh.heap u d as ∧ sysModules ∉ as) :
    ∀ (ws : List (Key × W)) (ds : List (PyData × PyData)) (vs : List (Key × V)) (us : List (Key × Value)), rdK f ws = some ds → RKs K al ws vs → KV vs us → (∃ as, ReadsAll sh.heap (us.map (·.2)) (ds.map (·.2)) as ∧ sysModules ∉ as) ∧ ds.map (·.1) = us.map fun q => keyD q.1
  | [], ds, vs, us, e, r, q => by
    cases e
    cases r
    cases q
    exact ⟨⟨_, .nil, by simp⟩, rfl⟩
  | w :: ws, ds, vs, us, e, r, q => by
    unfold rdK at e
    cases r with
    | cons r1 r2 =>
      unfold KV at q
      cases q with
      | cons q1 q2 =>
        split at e
        · rename_i d ds' e1 e2
          cases e
          obtain ⟨a1, h1, n1⟩ := hf _ _ _ _ e1 r1 q1.2
          obtain ⟨⟨a2, h2, n2⟩, h3⟩ := kv_reads hf ws ds' _ _ e2 r2 q2
          refine ⟨⟨_, .cons h1 h2, by simp [n1, n2]⟩, ?_⟩
          simp only [List.map_cons, h3]
          have := q1.1
          simp only at this
          rw [← this]
        · cases e
theorem keys_reads {h : Heap} {P : Program} {w : World} {es : List DictEntry} {us : List (Key × Value)} (p : Pairs (mixKind P w) es us) : ReadsAll h (es.map (·.key)) (us.map fun q => keyD q.1) [] := by
  induction p with
  | nil => exact .nil
  | cons p1 p0 p2 ih =>
    rcases keyIs_shape p1 with ⟨i, t, e1, e2⟩ | ⟨x, t, e1, e2⟩
    · have r : Reads h _ (keyD (.inl i)) [] := .int i t
      have := ReadsAll.cons r ih
      simp only [List.map_cons, e1, e2]
      simpa using this
    · have r : Reads h _ (keyD (.inr x)) [] := .str x t
      have := ReadsAll.cons r ih
      simp only [List.map_cons, e1, e2]
      simpa using this
theorem vals_reads {P : Program} {w : World} {es : List DictEntry} {us : List (Key × Value)} (p : Pairs (mixKind P w) es us) : es.map (·.val) = us.map (·.2) := by
  induction p with
  | nil => rfl
  | cons p1 p0 p2 ih => simp_all
/-- the modules' table is an object of the base -/
def SysOk (X : Cx) : Prop := ∃ o, X.base.get? sysModules = some o ∧ o.cls = .type "dict"
theorem lst_ne (I : Inv X pins sg H sh) (hs : SysOk X) {a : Addr} {vs : List V} (q : SqL X.K H a vs) : a ≠ sysModules := by
  rintro rfl
  obtain ⟨o, h1, h2⟩ := hs
  have hn := (I.bs _ _ h1).2
  rcases q with (q | ⟨_, q⟩) | ⟨o', its, n, hk, hc, _⟩
  · rw [hn] at q; cases q
  · rw [hn] at q; cases q
  · have := I.mod.kin _ _ hk
    rw [h1] at this; cases this
    rw [h2] at hc
    exact absurd hc (by decide)
theorem tup_ne (I : Inv X pins sg H sh) (hs : SysOk X) {a : Addr} {vs : List V} (q : SqT X.K H a vs) : a ≠ sysModules := by
  rintro rfl
  obtain ⟨o, h1, h2⟩ := hs
  have hn := (I.bs _ _ h1).2
  rcases q with (q | ⟨_, q⟩) | ⟨o', its, n, hk, hc, _⟩
  · rw [hn] at q; cases q
  · rw [hn] at q; cases q
  · have := I.mod.kin _ _ hk
    rw [h1] at this; cases this
    rw [h2] at hc
    exact absurd hc (by decide)
theorem rd_reads (I : Inv X pins sg H sh) (hs : SysOk X) (S : Sim X.K al s H) : ∀ (n : Nat) (w : W) (d : PyData) (v : V) (u : Value), rd s n w = some d → RW X.K al w v → RelV v u → ∃ as, Reads sh.heap u d as ∧ sysModules ∉ as
  | 0, w, d, v, u, e, r, q => ⟨[], leaf_reads e r q, by simp⟩
  | n + 1, w, d, v, u, e, r, q => by
    have ih := rd_reads I hs S n
    unfold rd at e
    split at e
    · rename_i p
      obtain ⟨a, ha, rfl⟩ := r
      cases q
      split at e
      · rename_i xs e1
        obtain ⟨ds, e2, rfl⟩ := Option.map_eq_some_iff.mp e
        obtain ⟨b, hb, vs, rv, z⟩ := S.get e1
        rw [ha] at hb; cases hb
        obtain ⟨its, rv2, ⟨o, m, ho, hc, _, hd⟩, _⟩ := I.list (SqL.of z)
        obtain ⟨as, h1, h2⟩ := rdL_reads ih _ _ _ _ e2 rv rv2
        exact ⟨_, .list ho hc hd (by simpa using h1), by simp [h2, Ne.symm (lst_ne I hs (SqL.of z))]⟩
      · rename_i xs e1
        obtain ⟨ds, e2, rfl⟩ := Option.map_eq_some_iff.mp e
        obtain ⟨b, hb, vs, rv, z⟩ := S.get e1
        rw [ha] at hb; cases hb
        obtain ⟨its, rv2, ⟨o, m, ho, hc, _, hd⟩, _⟩ := I.list z
        obtain ⟨as, h1, h2⟩ := rdL_reads ih _ _ _ _ e2 rv rv2
        exact ⟨_, .list ho hc hd (by simpa using h1), by simp [h2, Ne.symm (lst_ne I hs z)]⟩
      · rename_i xs e1
        obtain ⟨ds, e2, rfl⟩ := Option.map_eq_some_iff.mp e
        obtain ⟨b, hb, vs, rv, z⟩ := S.get e1
        rw [ha] at hb; cases hb
        obtain ⟨its, rv2, ⟨o, ho, hc, m, hd⟩, _⟩ := I.tuple z
        obtain ⟨as, h1, h2⟩ := rdL_reads ih _ _ _ _ e2 rv rv2
        exact ⟨_, .tuple ho hc hd (by simpa using h1), h2⟩
      · rename_i kvs e1
        obtain ⟨ds, e2, rfl⟩ := Option.map_eq_some_iff.mp e
        obtain ⟨b, hb, vs, rv, z⟩ := S.get e1
        rw [ha] at hb; cases hb
        obtain ⟨_, hsys, us, rk, o, es, ep, ho, hx, hd, _, hp, _⟩ := dk_of I.hok z
        obtain ⟨⟨as, h1, h2⟩, h3⟩ := kv_reads ih _ _ _ _ e2 rv rk
        refine ⟨_, .dict ho hx.1 hd (by rw [h3]; exact keys_reads hp) (by rw [vals_reads hp]; exact h1), ?_⟩
        have hne : sysModules ≠ a := fun z => by rw [← z] at hsys; simp at hsys
        simp [h2, hne]
      · cases e
    · exact ⟨[], leaf_reads e r q, by simp⟩
end
/-- the depth to which data is read -/
abbrev deep : Nat := 40
/-! ### operators whose rule leans on the whole state -/
def rQ1 (K : PySem.W.Frag) (g : G1) : V → Hp → VK → Prop := fun x H Q => ∃ al s w1 w s', Sim K al s H ∧ RW K al w1 x ∧ g w1 s = some (w, s') ∧ Back K al w s' Q
def rQ2 (K : PySem.W.Frag) (g : G2) : R2 := fun x y H Q => ∃ al s w1 w2 w s', Sim K al s H ∧ RW K al w1 x ∧ RW K al w2 y ∧ g w1 w2 s = some (w, s') ∧ Back K al w s' Q
def rQs (K : PySem.W.Frag) (g : Gs) : List V → Hp → VK → Prop := fun xs H Q => ∃ al s ws w s', Sim K al s H ∧ RWs K al ws xs ∧ g ws s = some (w, s') ∧ Back K al w s' Q
theorem l_q1 {g : G1} : Lift1 K (rQ1 K g) g := fun al sw s' H w1 w v1 Q S r1 e b => ⟨al, sw, w1, w, s', S, r1, e, b⟩
theorem l_q2 {g : G2} : Lift2 K (rQ2 K g) g := fun al sw s' H w1 w2 w v1 v2 Q S r1 r2 e b => ⟨al, sw, w1, w2, w, s', S, r1, r2, e, b⟩
theorem l_qs {g : Gs} : Lifts K (rQs K g) g := fun al sw s' H ws w vs Q S r e b => ⟨al, sw, ws, w, s', S, r, e, b⟩
/-- by a rule over values -/
theorem q2_of {X : Cx} {f : Value → Value → Sem Value} {r : R2} {g : G2} (h : OpR X f r) (L : Lift2 X.K r g) : OpR X f (rQ2 X.K g) := fun pins s sg H x y v u Q I rx ry ⟨al, sw, w1, w2, w, s', S, r1, r2, e, b⟩ =>
  h pins s sg H x y v u Q I rx ry (L al sw s' H w1 w2 w x y Q S r1 r2 e b)
theorem qs_of {X : Cx} {f : Value} {r : List V → Hp → VK → Prop} {g : Gs} (h : CallR X f r) (L : Lifts X.K r g) : CallR X f (rQs X.K g) := fun pins s sg H xs us Q I r1 ⟨al, sw, ws, w, s', S, r2, e, b⟩ =>
  h pins s sg H xs us Q I r1 (L al sw s' H ws w xs Q S r2 e b)
/-! ### == != by data -/
def gEqB (a b : W) (s : Sto) : Option Bool := match a, b with
  | .str x, .str y => some (decide (x = y))
  | .int i, .int j => some (decide (i = j))
  | .bl i, .bl j => some (decide (i = j))
  | a, b => match rd s deep a, rd s deep b with
    | some d, some e => if SeqAt.shaped d && SeqAt.shaped e then some (PyData.eqv d e) else none
    | _, _ => none
def gEq : G2 := fun a b s => (gEqB a b s).map fun k => (.bl k, s)
def gNe : G2 := fun a b s => (gEqB a b s).map fun k => (.bl (!k), s)
theorem eqB_cases {a b : W} {s : Sto} {k : Bool} (h : gEqB a b s = some k) : (∃ x y, a = .str x ∧ b = .str y ∧ k = decide (x = y)) ∨ (∃ x y, a = .int x ∧ b = .int y ∧ k = decide (x = y)) ∨ (∃ x y, a = .bl x ∧ b = .bl y ∧ k = decide (x = y)) ∨
    ∃ d e, rd s deep a = some d ∧ rd s deep b = some e ∧ SeqAt.shaped d = true ∧ SeqAt.shaped e = true ∧ k = PyData.eqv d e := by
  unfold gEqB at h
  split at h
  · cases h; exact .inl ⟨_, _, rfl, rfl, rfl⟩
  · cases h; exact .inr (.inl ⟨_, _, rfl, rfl, rfl⟩)
  · cases h; exact .inr (.inr (.inl ⟨_, _, rfl, rfl, rfl⟩))
  · split at h
    · rename_i d e e1 e2
      split at h
      · rename_i hs
        cases h
        rw [Bool.and_eq_true] at hs
        exact .inr (.inr (.inr ⟨d, e, e1, e2, hs.1, hs.2, rfl⟩))
      · cases h
    · cases h
theorem op_eqQ {X : Cx} (hs : SysOk X) (hu : X.A.units + 64 < cLine) : OpR X (compareOp .Eq) (rQ2 X.K gEq) := by
  rintro pins sh sg H x y v u Q I rx ry ⟨al, s, w1, w2, w, s', S, r1, r2, e, b⟩
  obtain ⟨k, ek, e'⟩ := Option.map_eq_some_iff.mp e
  cases e'
  have fin : Q (.bl k) H := b.now S rfl
  rcases eqB_cases ek with ⟨p, q, rfl, rfl, rfl⟩ | ⟨p, q, rfl, rfl, rfl⟩ | ⟨p, q, rfl, rfl, rfl⟩ | ⟨d, e, h1, h2, h3, h4, rfl⟩
  · cases r1; cases r2
    exact op_eq pins sh sg H _ _ v u Q I rx ry ⟨rfl, by simpa using fin⟩
  · cases r1; cases r2
    exact op_eq pins sh sg H _ _ v u Q I rx ry ⟨rfl, by simpa using fin⟩
  · cases r1; cases r2
    exact op_eq pins sh sg H _ _ v u Q I rx ry ⟨rfl, by simpa using fin⟩
  · obtain ⟨as, c1, _⟩ := rd_reads I hs S _ _ _ _ _ h1 r1 rx
    obtain ⟨bs, c2, _⟩ := rd_reads I hs S _ _ _ _ _ h2 r2 ry
    exact SeqAt.compareEq_shaped c1 c2 h3 h4 hu ⟨.bl _, H, I, rfl, fin⟩
theorem op_neQ {X : Cx} (hs : SysOk X) (hu : X.A.units + 64 < cLine) : OpR X (compareOp .NotEq) (rQ2 X.K gNe) := by
  rintro pins sh sg H x y v u Q I rx ry ⟨al, s, w1, w2, w, s', S, r1, r2, e, b⟩
  obtain ⟨k, ek, e'⟩ := Option.map_eq_some_iff.mp e
  cases e'
  have fin : Q (.bl (!k)) H := b.now S rfl
  rcases eqB_cases ek with ⟨p, q, rfl, rfl, rfl⟩ | ⟨p, q, rfl, rfl, rfl⟩ | ⟨p, q, rfl, rfl, rfl⟩ | ⟨d, e, h1, h2, h3, h4, rfl⟩
  · cases r1; cases r2
    exact op_ne pins sh sg H _ _ v u Q I rx ry ⟨rfl, by simpa using fin⟩
  · cases r1; cases r2
    exact op_ne pins sh sg H _ _ v u Q I rx ry ⟨rfl, by simpa using fin⟩
  · cases r1; cases r2
    exact op_ne pins sh sg H _ _ v u Q I rx ry ⟨rfl, by simpa using fin⟩
  · obtain ⟨as, c1, _⟩ := rd_reads I hs S _ _ _ _ _ h1 r1 rx
    obtain ⟨bs, c2, _⟩ := rd_reads I hs S _ _ _ _ _ h2 r2 ry
    exact SeqAt.compareNe_shaped c1 c2 h3 h4 hu ⟨.bl _, H, I, rfl, fin⟩
/-! ### repr -/
def gRepr : Gs
  | [w], s => match rd s deep w with
    | some d => if d.showable && (decide (d.shown.length ≤ 16777216) && decide (d.depth ≤ 64)) then ok1 (.str d.shown) s else none
    | none => none
  | _, _ => none
theorem call_reprQ {X : Cx} (hs : SysOk X) (hu : X.A.units + 128 < cLine) (hg : X.A.guards = some []) : CallR X (.builtin "repr") (rQs X.K gRepr) := by
  rintro pins sh sg H xs us Q I r ⟨al, s, ws, w, s', S, r1, e, b⟩
  unfold gRepr at e
  split at e
  · rename_i w0 s0
    split at e
    · rename_i d ed
      split at e
      · rename_i hc
        simp only [Bool.and_eq_true, decide_eq_true_eq] at hc
        obtain ⟨hc1, hc2, hc3⟩ := hc
        cases e
        obtain ⟨v, rfl, rv⟩ := r1.inv1
        obtain ⟨u, rfl, ru⟩ := vals1 r
        obtain ⟨as, c1, c2⟩ := rd_reads I hs S _ _ _ _ _ ed rv ru
        have fin : Q (.str d.shown) H := b.now S rfl
        have hsz : d.shown.length ≤ sizeLine := by rw [line_eq]; exact hc2
        have leaf : ∀ (h' : Heap) (tk : Nat), (∀ b o, sh.heap.get? b = some o → h'.get? b = some o) → ∀ t, EP X pins sg Q (.str d.shown t) { sh with heap := h', toks := tk } := fun h' tk hk t => ⟨.str _, H, I.kept hk, ⟨t, rfl⟩, fin⟩
        cases c1 with
        | none => exact PySem.P.repr_of_none (leaf sh.heap _ (fun _ _ e => e) _)
        | bool b => exact PySem.P.repr_of_bool (by simpa [PyData.shown] using leaf sh.heap (sh.toks + 1) (fun _ _ e => e) sh.toks)
        | int i t => exact PySem.P.repr_of_int (by simpa [PyData.showable] using hc1) (leaf sh.heap _ (fun _ _ e => e) _)
        | str x t => exact PySem.P.repr_of_str (leaf sh.heap _ (fun _ _ e => e) _) hsz
        | list h1 h2 h3 h4 => exact repr_of_reads' (.list h1 h2 h3 h4) hc1 (fun _ => c2) hg (by omega) (fun _ _ e => e) (fun h' u tk hk => leaf h' tk hk u) hsz
        | tuple h1 h2 h3 h4 => exact repr_of_reads' (.tuple h1 h2 h3 h4) hc1 (fun _ => c2) hg (by omega) (fun _ _ e => e) (fun h' u tk hk => leaf h' tk hk u) hsz
        | dict h1 h2 h3 h4 h5 => exact repr_of_reads' (.dict h1 h2 h3 h4 h5) hc1 (fun _ => c2) hg (by omega) (fun _ _ e => e) (fun h' u tk hk => leaf h' tk hk u) hsz
      · cases e
    · cases e
  · cases e
end Vm

/-! Vm4: membership, identity, subscripts, slices, the built-ins, methods of built-in types, by values. -/
namespace Vm
open PySem PySem.Spec PyProof.Rows L2
variable {K : PySem.W.Frag}
/-! ### flat values -/
def flatW : W → Bool
  | .non => true
  | .bl _ => true
  | .int _ => true
  | .str _ => true
  | _ => false
def toV : W → V
  | .non => .non
  | .bl b => .bl b
  | .int i => .int i
  | .str x => .str x
  | _ => .ref 0
theorem flat_toV {al : List Addr} {w : W} {v : V} (f : flatW w = true) (r : RW K al w v) : v = toV w ∧ flatV v = true := by
  cases w <;> first | (cases f; done) | (cases r; exact ⟨rfl, rfl⟩)
theorem flats_toV {al : List Addr} {ws : List W} {vs : List V} (f : ws.all flatW = true) (r : RWs K al ws vs) : vs = ws.map toV ∧ vs.all flatV = true := by
  induction r with
  | nil => exact ⟨rfl, rfl⟩
  | cons a _ ih =>
    simp only [List.all_cons, Bool.and_eq_true] at f
    obtain ⟨e1, f1⟩ := flat_toV f.1 a
    obtain ⟨e2, f2⟩ := ih f.2
    exact ⟨by rw [List.map_cons, ← e1, ← e2], by simp [f1, f2]⟩
/-- == of flat values -/
def eqF : W → W → Bool
  | .non, .non => true
  | .bl a, .bl b => a == b
  | .bl a, .int b => (if a then 1 else 0) == b
  | .int a, .bl b => a == (if b then 1 else 0)
  | .int a, .int b => a == b
  | .str a, .str b => a == b
  | _, _ => false
theorem eqF_toV {a b : W} (f : flatW a = true) (g : flatW b = true) : eqV (toV a) (toV b) = eqF a b := by
  cases a <;> cases b <;> first | rfl | cases f | cases g
theorem inF_toV {x : W} (fx : flatW x = true) : ∀ {xs : List W}, xs.all flatW = true → inV (toV x) (xs.map toV) = xs.any fun y => eqF y x
  | [], _ => rfl
  | y :: ys, h => by
    simp only [List.all_cons, Bool.and_eq_true] at h
    have := inF_toV fx (xs := ys) h.2
    unfold inV at this ⊢
    simp only [List.map_cons, List.any_cons, eqF_toV h.1 fx, this]
/-- the key that a value is -/
def keyW : W → Option Key
  | .int i => some (.inl i)
  | .str x => some (.inr x)
  | _ => none
theorem keyW_ok {al : List Addr} {w : W} {v : V} {k : Key} (h : keyW w = some k) (r : RW K al w v) : v = kV k := by
  unfold keyW at h
  split at h <;> cases h <;> cases r <;> rfl
def valW (kvs : List (Key × W)) (k : Key) : Option W := (kvs.find? fun kv => decide (kv.1 = k)).map (·.2)
theorem valW_ok {al : List Addr} {kvs : List (Key × W)} {vs : List (Key × V)} (r : RKs K al kvs vs) (k : Key) : (∃ w v, valW kvs k = some w ∧ valV vs k = some v ∧ RW K al w v) ∨ (valW kvs k = none ∧ valV vs k = none) := by
  induction r with
  | nil => exact .inr ⟨rfl, rfl⟩
  | @cons k' w v ws vs a _ ih =>
    unfold valW valV at *
    simp only [List.find?_cons]
    by_cases e : k' = k
    · simp only [e, decide_true]
      exact .inl ⟨_, _, rfl, rfl, a⟩
    · simp only [e, decide_false]
      exact ih
/-- the pairs of a dict -/
def dicAt (s : Sto) (n : Nat) : Option (List (Key × W)) := match s[n]? with
  | some (.dic kvs) => some kvs
  | some (.lck kvs) => some kvs
  | _ => none
theorem dicAt_ok {al : List Addr} {s : Sto} {H : Hp} {n : Nat} {kvs : List (Key × W)} (S : Sim K al s H) (h : dicAt s n = some kvs) : ∃ a vs, al[n]? = some a ∧ RKs K al kvs vs ∧ Rd H a (.dK vs) := by
  unfold dicAt at h
  split at h
  · rename_i ys e
    cases h
    obtain ⟨a, ha, vs, r, q⟩ := S.get e
    exact ⟨a, vs, ha, r, .inl q⟩
  · rename_i ys e
    cases h
    obtain ⟨a, ha, o, vs, r, q⟩ := S.get e
    exact ⟨a, vs, ha, r, .inr ⟨o, q⟩⟩
  · cases h
theorem DGet.rd {H : Hp} {a : Addr} {kvs : List (Key × V)} {k : Key} (e : Rd H a (.dK kvs)) : DGet H a (kV k) (valV kvs k) := .inl ⟨kvs, k, e, rfl, rfl⟩

/-! ### in, not in -/
def gInB (x y : W) (s : Sto) : Option Bool := match y with
  | .str z => match x with
    | .str c => if c.length = 1 then some (decide ((c.cps.getD 0 0) ∈ z.cps.toList)) else some (!(Builtin.Str.occurrences z c 0 z.length 1).isEmpty)
    | _ => none
  | .ref n => match dicAt s n with
    | some kvs => match keyW x with
      | some k => some (valW kvs k).isSome
      | none => none
    | none => match (lstAt s n).or (tupAt s n) with
      | some xs => if flatW x && xs.all flatW then some (xs.any fun y => eqF y x) else none
      | none => none
  | _ => none
def gIn : G2 := fun x y s => (gInB x y s).map fun k => (.bl k, s)
def gNotIn : G2 := fun x y s => (gInB x y s).map fun k => (.bl (!k), s)
theorem sign1 {c : Str} (h : c.length = 1) : c = ⟨#[c.cps.getD 0 0]⟩ := by
  obtain ⟨⟨l⟩⟩ := c
  match l, h with
  | [a], _ => rfl
theorem seqAt_ok {al : List Addr} {s : Sto} {H : Hp} {n : Nat} {xs : List W} (S : Sim K al s H) (h : (lstAt s n).or (tupAt s n) = some xs) : ∃ a vs, al[n]? = some a ∧ RWs K al xs vs ∧ (SqL K H a vs ∨ SqT K H a vs) := by
  cases e : lstAt s n with
  | some ys =>
    rw [e] at h
    cases h
    obtain ⟨a, vs, h1, h2, h3⟩ := lstAt_ok S e
    exact ⟨a, vs, h1, h2, .inl h3⟩
  | none =>
    rw [e] at h
    obtain ⟨a, vs, h1, h2, h3⟩ := tupAt_ok S h
    exact ⟨a, vs, h1, h2, .inr h3⟩
theorem in_cases {X : Cx} (hu : X.A.units + 1 < cLine) {pins : List (Addr × Obj)} {sh : Shared} {sg : L2.St} {H : Hp} {x y : V} {v u : Value} (I : Inv X pins sg H sh) (rx : RelV x v) (ry : RelV y u)
    {al : List Addr} {s : Sto} {w1 w2 : W} {k : Bool} (S : Sim X.K al s H) (r1 : RW X.K al w1 x) (r2 : RW X.K al w2 y) (e : gInB w1 w2 s = some k) :
    (∀ Q : VK, Q (.bl k) H → wpAny (model X.prog X.w) X.A (compareOp .In v u) (EP X pins sg Q) X.xe sh) ∧ (∀ Q : VK, Q (.bl (!k)) H → wpAny (model X.prog X.w) X.A (compareOp .NotIn v u) (EP X pins sg Q) X.xe sh) := by
  unfold gInB at e
  split at e
  · rename_i z
    cases r2
    split at e
    · rename_i c
      cases r1
      split at e
      · rename_i hc
        cases e
        have ec := sign1 hc
        refine ⟨fun Q q => op_in_sign pins sh sg H _ _ v u Q I rx ry ⟨_, _, by rw [← ec], rfl, q⟩, fun Q q => op_notIn_sign pins sh sg H _ _ v u Q I rx ry ⟨_, _, by rw [← ec], rfl, q⟩⟩
      · cases e
        refine ⟨fun Q q => op_in_str pins sh sg H _ _ v u Q I rx ry ⟨_, _, rfl, rfl, q⟩, fun Q q => op_notIn_str pins sh sg H _ _ v u Q I rx ry ⟨_, _, rfl, rfl, q⟩⟩
    · cases e
  · rename_i n
    obtain ⟨a, ha, rfl⟩ := r2
    cases ry
    split at e
    · rename_i kvs ed
      obtain ⟨b, vs, hb, rk, rdd⟩ := dicAt_ok S ed
      rw [ha] at hb; cases hb
      split at e
      · rename_i kk ek
        cases e
        have ex := keyW_ok ek r1
        subst ex
        have key : (valW kvs kk).isSome = (valV vs kk).isSome := by
          rcases valW_ok rk kk with ⟨w, v, h1, h2, _⟩ | ⟨h1, h2⟩ <;> rw [h1, h2] <;> rfl
        rw [key]
        exact ⟨fun Q q => d_in hu I (DGet.rd rdd) rx fun s3 I3 => ⟨.bl _, H, I3, rfl, q⟩, fun Q q => d_notIn hu I (DGet.rd rdd) rx fun s3 I3 => ⟨.bl _, H, I3, rfl, q⟩⟩
      · cases e
    · split at e
      · rename_i xs es
        obtain ⟨b, vs, hb, rv, sq⟩ := seqAt_ok S es
        rw [ha] at hb; cases hb
        split at e
        · rename_i hf
          cases e
          rw [Bool.and_eq_true] at hf
          obtain ⟨e1, f1⟩ := flat_toV hf.1 r1
          obtain ⟨e2, f2⟩ := flats_toV hf.2 rv
          have key := inF_toV hf.1 hf.2
          rw [← e1, ← e2] at key
          rw [← key]
          exact ⟨fun Q q => op_in_seq pins sh sg H _ (.ref a) v _ Q I rx (show RelV (V.ref a) (Value.ref a) from rfl) ⟨a, vs, rfl, sq, f1, f2, q⟩, fun Q q => op_notIn_seq pins sh sg H _ (.ref a) v _ Q I rx (show RelV (V.ref a) (Value.ref a) from rfl) ⟨a, vs, rfl, sq, f1, f2, q⟩⟩
        · cases e
      · cases e
  · cases e
theorem op_inQ {X : Cx} (hu : X.A.units + 1 < cLine) : OpR X (compareOp .In) (rQ2 X.K gIn) := by
  rintro pins sh sg H x y v u Q I rx ry ⟨al, s, w1, w2, w, s', S, r1, r2, e, b⟩
  obtain ⟨k, ek, e'⟩ := Option.map_eq_some_iff.mp e
  cases e'
  exact (in_cases hu I rx ry S r1 r2 ek).1 Q (b.now S rfl)
theorem op_notInQ {X : Cx} (hu : X.A.units + 1 < cLine) : OpR X (compareOp .NotIn) (rQ2 X.K gNotIn) := by
  rintro pins sh sg H x y v u Q I rx ry ⟨al, s, w1, w2, w, s', S, r1, r2, e, b⟩
  obtain ⟨k, ek, e'⟩ := Option.map_eq_some_iff.mp e
  cases e'
  exact (in_cases hu I rx ry S r1 r2 ek).2 Q (b.now S rfl)

/-! ### is None, is not None -/
theorem RW.non_iff {al : List Addr} {w : W} {v : V} (r : RW K al w v) : decide (v = .non) = decide (w = .non) := by
  cases w with
  | non => cases r; rfl
  | ref n => obtain ⟨a, _, rfl⟩ := r; rfl
  | _ => cases r; rfl
def gIs : G2
  | x, .non, s => ok1 (.bl (decide (x = .non))) s
  | _, _, _ => none
def gIsNot : G2
  | x, .non, s => ok1 (.bl (!decide (x = .non))) s
  | _, _, _ => none
theorem op_isQ {X : Cx} : OpR X (compareOp .Is) (rQ2 X.K gIs) := by
  rintro pins sh sg H x y v u Q I rx ry ⟨al, s, w1, w2, w, s', S, r1, r2, e, b⟩
  unfold gIs at e
  split at e
  · cases e; cases r2
    exact op_isN pins sh sg H _ _ v u Q I rx ry ⟨rfl, by rw [r1.non_iff]; exact b.now S rfl⟩
  · cases e
theorem op_isNotQ {X : Cx} : OpR X (compareOp .IsNot) (rQ2 X.K gIsNot) := by
  rintro pins sh sg H x y v u Q I rx ry ⟨al, s, w1, w2, w, s', S, r1, r2, e, b⟩
  unfold gIsNot at e
  split at e
  · cases e; cases r2
    exact op_notN pins sh sg H _ _ v u Q I rx ry ⟨rfl, by rw [r1.non_iff]; exact b.now S rfl⟩
  · cases e

/-! ### subscripts -/
def gIx : G2 := fun x i s => match x with
  | .str z => match i with
    | .int k => if z.length ≤ 16777216 then (match atI z.cps.toList k with
      | some c => ok1 (.str ⟨#[c]⟩) s
      | none => none) else none
    | _ => none
  | .ref n => match dicAt s n with
    | some kvs => match keyW i with
      | some k => (match valW kvs k with
        | some w => ok1 w s
        | none => none)
      | none => none
    | none => match i with
      | .int k => match (lstAt s n).or (tupAt s n) with
        | some xs => (match atI xs k with
          | some w => ok1 w s
          | none => none)
        | none => none
      | _ => none
  | _ => none
theorem RWs.atI {al : List Addr} {ws : List W} {vs : List V} {k : Int} {w : W} (r : RWs K al ws vs) (h : atI ws k = some w) : ∃ v, L2.atI vs k = some v ∧ RW K al w v := by
  unfold L2.atI at *
  rw [← r.length]
  cases e : ixN ws.length k with
  | none => rw [e] at h; cases h
  | some j =>
    rw [e] at h
    obtain ⟨v, h1, h2⟩ := r.get (i := j) (w := w) h
    exact ⟨v, h1, h2⟩
theorem ix_Q {X : Cx} (hu : X.A.units + 1 < cLine) : IxR X (rQ2 X.K gIx) := by
  rintro value slice pins sh sg H x y v u Q I rx ry ⟨al, s, w1, w2, w, s', S, r1, r2, e, b⟩ hs
  unfold gIx at e
  split at e
  · rename_i z
    cases r1
    split at e
    · rename_i k
      cases r2
      split at e
      · rename_i hz
        split at e
        · rename_i c ec
          cases e
          exact ix_str value slice pins sh sg H _ _ v u Q I rx ry ⟨z, k, c, rfl, rfl, by rw [line_eq]; exact hz, ec, b.now S rfl⟩ hs
        · cases e
      · cases e
    · cases e
  · rename_i n
    obtain ⟨a, ha, rfl⟩ := r1
    split at e
    · rename_i kvs ed
      obtain ⟨c, vs, hc, rk, rdd⟩ := dicAt_ok S ed
      rw [ha] at hc; cases hc
      split at e
      · rename_i kk ek
        split at e
        · rename_i w0 ew
          cases e
          have ex := keyW_ok ek r2
          subst ex
          cases rx
          rcases valW_ok rk kk with ⟨w', v', h1, h2, h3⟩ | ⟨h1, _⟩
          · rw [ew] at h1; cases h1
            have g := DGet.rd (k := kk) rdd
            rw [h2] at g
            exact tail_any (dict_typeIs I g) PySem.F.slot_dict_getitem.lookup (d_getItem hu I g ry fun u' s3 I3 ru => ⟨v', H, I3, ru, b.now S h3⟩) hs
          · rw [ew] at h1; cases h1
        · cases e
      · cases e
    · split at e
      · rename_i k
        cases r2
        split at e
        · rename_i xs es
          obtain ⟨c, vs, hc, rv, sq⟩ := seqAt_ok S es
          rw [ha] at hc; cases hc
          split at e
          · rename_i w0 ew
            cases e
            obtain ⟨v', h1, h2⟩ := rv.atI ew
            rcases sq with sq | sq
            · exact ix_list value slice pins sh sg H _ _ v u Q I rx ry ⟨a, vs, k, v', rfl, rfl, sq, h1, b.now S h2⟩ hs
            · exact ix_tup value slice pins sh sg H _ _ v u Q I rx ry ⟨a, vs, k, v', rfl, rfl, sq, h1, b.now S h2⟩ hs
          · cases e
        · cases e
      · cases e
  · cases e
end Vm

/-! Vm5: built-ins called by their names, slices, methods of built-in types. -/
namespace Vm
open PySem PySem.Spec PyProof.Rows L2
variable {K : PySem.W.Frag}
def asI : List W → Option (List Int)
  | [] => some []
  | .int i :: r => (asI r).map (i :: ·)
  | _ => none
def asB : List W → Option (List Bool)
  | [] => some []
  | .bl i :: r => (asB r).map (i :: ·)
  | _ => none
def asS : List W → Option (List Str)
  | [] => some []
  | .str i :: r => (asS r).map (i :: ·)
  | _ => none
theorem asI_ok {al : List Addr} : ∀ {ws : List W} {vs : List V} {ns : List Int}, asI ws = some ns → RWs K al ws vs → vs = ns.map V.int
  | [], _, _, e, r => by cases e; cases r; rfl
  | .int i :: ws, _, _, e, r => by
    cases r with
    | cons r1 r2 =>
      obtain ⟨ms, e1, rfl⟩ := Option.map_eq_some_iff.mp e
      cases r1
      rw [asI_ok e1 r2]; rfl
  | .non :: _, _, _, e, _ => nomatch e
  | .bl _ :: _, _, _, e, _ => nomatch e
  | .str _ :: _, _, _, e, _ => nomatch e
  | .ref _ :: _, _, _, e, _ => nomatch e
  | .gl _ :: _, _, _, e, _ => nomatch e
  | .ty _ :: _, _, _, e, _ => nomatch e
theorem asB_ok {al : List Addr} : ∀ {ws : List W} {vs : List V} {ns : List Bool}, asB ws = some ns → RWs K al ws vs → vs = ns.map V.bl
  | [], _, _, e, r => by cases e; cases r; rfl
  | .bl i :: ws, _, _, e, r => by
    cases r with
    | cons r1 r2 =>
      obtain ⟨ms, e1, rfl⟩ := Option.map_eq_some_iff.mp e
      cases r1
      rw [asB_ok e1 r2]; rfl
  | .non :: _, _, _, e, _ => nomatch e
  | .int _ :: _, _, _, e, _ => nomatch e
  | .str _ :: _, _, _, e, _ => nomatch e
  | .ref _ :: _, _, _, e, _ => nomatch e
  | .gl _ :: _, _, _, e, _ => nomatch e
  | .ty _ :: _, _, _, e, _ => nomatch e
theorem asS_ok {al : List Addr} : ∀ {ws : List W} {vs : List V} {ns : List Str}, asS ws = some ns → RWs K al ws vs → vs = ns.map V.str
  | [], _, _, e, r => by cases e; cases r; rfl
  | .str i :: ws, _, _, e, r => by
    cases r with
    | cons r1 r2 =>
      obtain ⟨ms, e1, rfl⟩ := Option.map_eq_some_iff.mp e
      cases r1
      rw [asS_ok e1 r2]; rfl
  | .non :: _, _, _, e, _ => nomatch e
  | .bl _ :: _, _, _, e, _ => nomatch e
  | .int _ :: _, _, _, e, _ => nomatch e
  | .ref _ :: _, _, _, e, _ => nomatch e
  | .gl _ :: _, _, _, e, _ => nomatch e
  | .ty _ :: _, _, _, e, _ => nomatch e
def seqAt (s : Sto) (n : Nat) : Option (List W) := (lstAt s n).or (tupAt s n)
/-! ### len, abs, max, min, sum, all, any, list, tuple, divmod -/
def gLen : Gs
  | [.str x], s => if x.length ≤ 16777216 then ok1 (.int x.length) s else none
  | [.ref n], s => match seqAt s n with
    | some xs => ok1 (.int xs.length) s
    | none => match s[n]? with
      | some (.dic kvs) => ok1 (.int kvs.length) s
      | _ => none
  | _, _ => none
abbrev rLenQ (K : PySem.W.Frag) : List V → Hp → VK → Prop := fun xs H Q => (∃ x n, xs = [x] ∧ LenV K x H n ∧ Q (.int n) H) ∨ ∃ a kvs, xs = [V.ref a] ∧ H a = some (.dK kvs) ∧ Q (.int kvs.length) H
theorem CallR.or {X : Cx} {f : Value} {r r' : List V → Hp → VK → Prop} (h : CallR X f r) (h' : CallR X f r') : CallR X f (fun xs H Q => r xs H Q ∨ r' xs H Q) := fun pins s sg H xs us Q I rr q =>
  q.elim (h pins s sg H xs us Q I rr) (h' pins s sg H xs us Q I rr)
theorem call_lenQ {X : Cx} : CallR X (.builtin "len") (rLenQ X.K) := CallR.or call_len call_lenD
theorem l_len : Lifts K (rLenQ K) gLen := by
  intro al sw s' H ws w vs Q S r e b
  unfold gLen at e
  split at e
  · rename_i x s
    obtain ⟨v, rfl, rv⟩ := r.inv1
    split at e
    · rename_i hx
      cases e; cases rv
      exact .inl ⟨_, _, rfl, ⟨by rw [line_eq]; exact hx, rfl⟩, b.now S rfl⟩
    · cases e
  · rename_i n s
    obtain ⟨v, rfl, a, ha, rfl⟩ := r.inv1
    split at e
    · rename_i xs es
      cases e
      obtain ⟨c, us, hc, ru, sq⟩ := seqAt_ok S es
      rw [ha] at hc; cases hc
      refine .inl ⟨_, xs.length, rfl, ?_, b.now S rfl⟩
      rcases sq with sq | sq
      · exact .inl ⟨us, sq, ru.length⟩
      · exact .inr ⟨us, sq, ru.length⟩
    · split at e
      · rename_i kvs ek
        cases e
        obtain ⟨c, hc, us, ru, q⟩ := S.get ek
        rw [ha] at hc; cases hc
        refine .inr ⟨a, us, rfl, q, ?_⟩
        rw [← ru.length]
        exact b.now S rfl
      · cases e
  · cases e
def gAbs : Gs
  | [.int i], s => ok1 (.int (if i < 0 then -i else i)) s
  | _, _ => none
theorem l_abs : Lifts K (fun xs H Q => ∃ i, xs = [.int i] ∧ Q (.int (if i < 0 then -i else i)) H) gAbs := by
  intro al sw s' H ws w vs Q S r e b
  unfold gAbs at e
  split at e
  · cases e
    obtain ⟨v, rfl, rv⟩ := r.inv1
    cases rv
    exact ⟨_, rfl, b.now S rfl⟩
  · cases e
/-- the greatest, the least of a list of ints -/
def gMaxL : List Int → Option Int
  | [] => none
  | [x] => some x
  | x :: y :: r => match gMaxL (y :: r) with
    | some m => some (if m > x then m else x)
    | none => none
def gMinL : List Int → Option Int
  | [] => none
  | [x] => some x
  | x :: y :: r => match gMinL (y :: r) with
    | some m => some (if m < x then m else x)
    | none => none
theorem maxL_eq : ∀ {l : List Int} {m k : Int}, gMaxL l = some m → k ∈ l → (∀ y, y ∈ l → y ≤ k) → k = m
  | [], _, _, e, _, _ => nomatch e
  | [x], m, k, e, hk, _ => by cases e; simpa using hk
  | x :: y :: r, m, k, e, hk, h => by
    unfold gMaxL at e
    split at e
    · rename_i m' e'
      cases e
      have hx := h x (by simp)
      rcases List.mem_cons.mp hk with rfl | hk
      · by_cases z : m' > k
        · exfalso
          have key : ∀ {l : List Int} {m : Int}, gMaxL l = some m → m ∈ l := by
            intro l
            induction l with
            | nil => intro m e; cases e
            | cons a t ih =>
              intro m e
              cases t with
              | nil => cases e; simp
              | cons c t =>
                unfold gMaxL at e
                split at e
                · rename_i q eq
                  cases e
                  split
                  · exact List.mem_cons_of_mem _ (ih eq)
                  · simp
                · cases e
          have := h m' (List.mem_cons_of_mem _ (key e'))
          omega
        · rw [if_neg z]
      · have hm := maxL_eq e' hk fun y hy => h y (List.mem_cons_of_mem _ hy)
        subst hm
        split <;> omega
    · cases e
theorem minL_eq : ∀ {l : List Int} {m k : Int}, gMinL l = some m → k ∈ l → (∀ y, y ∈ l → k ≤ y) → k = m
  | [], _, _, e, _, _ => nomatch e
  | [x], m, k, e, hk, _ => by cases e; simpa using hk
  | x :: y :: r, m, k, e, hk, h => by
    unfold gMinL at e
    split at e
    · rename_i m' e'
      cases e
      have hx := h x (by simp)
      rcases List.mem_cons.mp hk with rfl | hk
      · by_cases z : m' < k
        · exfalso
          have key : ∀ {l : List Int} {m : Int}, gMinL l = some m → m ∈ l := by
            intro l
            induction l with
            | nil => intro m e; cases e
            | cons a t ih =>
              intro m e
              cases t with
              | nil => cases e; simp
              | cons c t =>
                unfold gMinL at e
                split at e
                · rename_i q eq
                  cases e
                  split
                  · exact List.mem_cons_of_mem _ (ih eq)
                  · simp
                · cases e
          have := h m' (List.mem_cons_of_mem _ (key e'))
          omega
        · rw [if_neg z]
      · have hm := minL_eq e' hk fun y hy => h y (List.mem_cons_of_mem _ hy)
        subst hm
        split <;> omega
    · cases e
def intsAt (s : Sto) (n : Nat) : Option (List Int) := (lstAt s n).bind asI
theorem intsAt_ok {al : List Addr} {s : Sto} {H : Hp} {n : Nat} {ns : List Int} (S : Sim K al s H) (h : intsAt s n = some ns) : ∃ a, al[n]? = some a ∧ SqL K H a (ns.map V.int) := by
  obtain ⟨xs, e1, e2⟩ := Option.bind_eq_some_iff.mp h
  obtain ⟨a, vs, h1, h2, h3⟩ := lstAt_ok S e1
  rw [asI_ok e2 h2] at h3
  exact ⟨a, h1, h3⟩
def gMax : Gs
  | [.int i, .int j], s => ok1 (.int (if j > i then j else i)) s
  | [.ref n], s => match (intsAt s n).bind gMaxL with
    | some m => ok1 (.int m) s
    | none => none
  | _, _ => none
def gMin : Gs
  | [.int i, .int j], s => ok1 (.int (if j < i then j else i)) s
  | [.ref n], s => match (intsAt s n).bind gMinL with
    | some m => ok1 (.int m) s
    | none => none
  | _, _ => none
theorem l_max : Lifts K (fun xs H Q => (∃ i j, xs = [.int i, .int j] ∧ Q (.int (if j > i then j else i)) H) ∨ rMax K xs H Q) gMax := by
  intro al sw s' H ws w vs Q S r e b
  unfold gMax at e
  split at e
  · cases e
    obtain ⟨v, u, rfl, rv, ru⟩ := r.inv2
    cases rv; cases ru
    exact .inl ⟨_, _, rfl, b.now S rfl⟩
  · rename_i n s
    obtain ⟨v, rfl, a, ha, rfl⟩ := r.inv1
    split at e
    · rename_i m em
      cases e
      obtain ⟨ns, e1, e2⟩ := Option.bind_eq_some_iff.mp em
      obtain ⟨c, hc, sq⟩ := intsAt_ok S e1
      rw [ha] at hc; cases hc
      refine .inr ⟨a, ns, rfl, sq, ?_, fun k hk hle => ?_⟩
      · cases ns with
        | nil => cases e2
        | cons _ _ => exact Nat.zero_lt_succ _
      · rw [maxL_eq e2 hk hle]
        exact b.now S rfl
    · cases e
  · cases e
theorem l_min : Lifts K (fun xs H Q => (∃ i j, xs = [.int i, .int j] ∧ Q (.int (if j < i then j else i)) H) ∨ rMin K xs H Q) gMin := by
  intro al sw s' H ws w vs Q S r e b
  unfold gMin at e
  split at e
  · cases e
    obtain ⟨v, u, rfl, rv, ru⟩ := r.inv2
    cases rv; cases ru
    exact .inl ⟨_, _, rfl, b.now S rfl⟩
  · rename_i n s
    obtain ⟨v, rfl, a, ha, rfl⟩ := r.inv1
    split at e
    · rename_i m em
      cases e
      obtain ⟨ns, e1, e2⟩ := Option.bind_eq_some_iff.mp em
      obtain ⟨c, hc, sq⟩ := intsAt_ok S e1
      rw [ha] at hc; cases hc
      refine .inr ⟨a, ns, rfl, sq, ?_, fun k hk hle => ?_⟩
      · cases ns with
        | nil => cases e2
        | cons _ _ => exact Nat.zero_lt_succ _
      · rw [minL_eq e2 hk hle]
        exact b.now S rfl
    · cases e
  · cases e
def gSum : Gs
  | [.ref n], s => match intsAt s n with
    | some ns => ok1 (.int ns.sum) s
    | none => none
  | _, _ => none
theorem l_sum : Lifts K (rSum K) gSum := by
  intro al sw s' H ws w vs Q S r e b
  unfold gSum at e
  split at e
  · obtain ⟨v, rfl, a, ha, rfl⟩ := r.inv1
    split at e
    · rename_i ns en
      cases e
      obtain ⟨c, hc, sq⟩ := intsAt_ok S en
      rw [ha] at hc; cases hc
      exact ⟨a, ns, rfl, sq, b.now S rfl⟩
    · cases e
  · cases e
def boolsAt (s : Sto) (n : Nat) : Option (List Bool) := (lstAt s n).bind asB
theorem boolsAt_ok {al : List Addr} {s : Sto} {H : Hp} {n : Nat} {ns : List Bool} (S : Sim K al s H) (h : boolsAt s n = some ns) : ∃ a, al[n]? = some a ∧ SqL K H a (ns.map V.bl) := by
  obtain ⟨xs, e1, e2⟩ := Option.bind_eq_some_iff.mp h
  obtain ⟨a, vs, h1, h2, h3⟩ := lstAt_ok S e1
  rw [asB_ok e2 h2] at h3
  exact ⟨a, h1, h3⟩
def gAll : Gs
  | [.ref n], s => match boolsAt s n with
    | some bs => ok1 (.bl (bs.all id)) s
    | none => none
  | _, _ => none
def gAny : Gs
  | [.ref n], s => match boolsAt s n with
    | some bs => ok1 (.bl (bs.any id)) s
    | none => none
  | _, _ => none
theorem l_all : Lifts K (rAll K) gAll := by
  intro al sw s' H ws w vs Q S r e b
  unfold gAll at e
  split at e
  · obtain ⟨v, rfl, a, ha, rfl⟩ := r.inv1
    split at e
    · rename_i ns en
      cases e
      obtain ⟨c, hc, sq⟩ := boolsAt_ok S en
      rw [ha] at hc; cases hc
      exact ⟨a, ns, rfl, sq, b.now S rfl⟩
    · cases e
  · cases e
theorem l_any : Lifts K (rAny K) gAny := by
  intro al sw s' H ws w vs Q S r e b
  unfold gAny at e
  split at e
  · obtain ⟨v, rfl, a, ha, rfl⟩ := r.inv1
    split at e
    · rename_i ns en
      cases e
      obtain ⟨c, hc, sq⟩ := boolsAt_ok S en
      rw [ha] at hc; cases hc
      exact ⟨a, ns, rfl, sq, b.now S rfl⟩
    · cases e
  · cases e
def gList : Gs
  | [.ref n], s => match seqAt s n with
    | some xs => nw (.lst xs) s
    | none => none
  | _, _ => none
theorem l_list : Lifts K (fun xs H Q => ∃ p ys, xs = [.ref p] ∧ (SqL K H p ys ∨ SqT K H p ys) ∧ ∀ l, H l = none → Q (.ref l) (upd H l (.lst ys))) gList := by
  intro al sw s' H ws w vs Q S r e b
  unfold gList at e
  split at e
  · obtain ⟨v, rfl, a, ha, rfl⟩ := r.inv1
    split at e
    · rename_i xs es
      cases e
      obtain ⟨c, us, hc, ru, sq⟩ := seqAt_ok S es
      rw [ha] at hc; cases hc
      exact ⟨a, us, rfl, sq, b.nw S fun p => ⟨us, ru.mono (pre_snoc _ _), upd_same⟩⟩
    · cases e
  · cases e
def gTuple : Gs
  | [.ref n], s => match lstAt s n with
    | some xs => nw (.tup xs) s
    | none => match tupAt s n with
      | some xs => ok1 (.ref n) s
      | none => none
  | _, _ => none
theorem l_tuple : Lifts K (fun xs H Q => ∃ p ys, xs = [.ref p] ∧ ((SqL K H p ys ∧ ∀ l, H l = none → Q (.ref l) (upd H l (.tup ys))) ∨ (SqT K H p ys ∧ Q (.ref p) H))) gTuple := by
  intro al sw s' H ws w vs Q S r e b
  unfold gTuple at e
  split at e
  · obtain ⟨v, rfl, a, ha, rfl⟩ := r.inv1
    split at e
    · rename_i xs es
      cases e
      obtain ⟨c, us, hc, ru, sq⟩ := lstAt_ok S es
      rw [ha] at hc; cases hc
      exact ⟨a, us, rfl, .inl ⟨sq, b.nw S fun p => ⟨us, ru.mono (pre_snoc _ _), SqT.of upd_same⟩⟩⟩
    · split at e
      · rename_i xs es
        cases e
        obtain ⟨c, us, hc, ru, sq⟩ := tupAt_ok S es
        rw [ha] at hc; cases hc
        exact ⟨a, us, rfl, .inr ⟨sq, b.now S ⟨a, ha, rfl⟩⟩⟩
      · cases e
  · cases e
def gDivmod : Gs
  | [.int i, .int j], s => if cDiv i j then nw (.tup [.int (i / j), .int (i % j)]) s else none
  | _, _ => none
theorem l_divmod : Lifts K (fun xs H Q => ∃ i j, xs = [.int i, .int j] ∧ CDivP i j ∧ ∀ p, H p = none → Q (.ref p) (upd H p (.tup [.int (i / j), .int (i % j)]))) gDivmod := by
  intro al sw s' H ws w vs Q S r e b
  unfold gDivmod at e
  split at e
  · obtain ⟨v, u, rfl, rv, ru⟩ := r.inv2
    split at e
    · rename_i hc
      cases e; cases rv; cases ru
      have := cDiv_ok _ _ hc
      exact ⟨_, _, rfl, ⟨this.1, PyProof.noPylong_of_log2 this.2⟩, b.nw S fun p => ⟨_, .cons rfl (.cons rfl .nil), SqT.of upd_same⟩⟩
    · cases e
  · cases e
/-! ### slices -/
abbrev GSl := W → Option Int → Option Int → Sto → Option (W × Sto)
def cutW (xs : List W) (lo hi : Option Int) : List W := (xs.drop (HT.sIx xs.length 0 lo)).take (HT.sIx xs.length xs.length hi - HT.sIx xs.length 0 lo)
theorem RWs.drop {al : List Addr} {ws : List W} {vs : List V} (r : RWs K al ws vs) : ∀ n : Nat, RWs K al (ws.drop n) (vs.drop n) := by
  induction r with
  | nil => intro n; simp; exact .nil
  | cons a t ih =>
    intro n
    cases n with
    | zero => exact .cons a t
    | succ n => exact ih n
theorem RWs.take {al : List Addr} {ws : List W} {vs : List V} (r : RWs K al ws vs) : ∀ n : Nat, RWs K al (ws.take n) (vs.take n) := by
  induction r with
  | nil => intro n; simp; exact .nil
  | cons a t ih =>
    intro n
    cases n with
    | zero => exact .nil
    | succ n => exact .cons a (ih n)
theorem RWs.cut {al : List Addr} {ws : List W} {vs : List V} (r : RWs K al ws vs) (lo hi : Option Int) : RWs K al (cutW ws lo hi) (cutV vs lo hi) := by
  unfold cutW cutV
  rw [r.length]
  exact (r.drop _).take _
def gSl : GSl := fun x lo hi s => match x with
  | .str z => if z.length ≤ 16777216 then ok1 (.str (cutS z lo hi)) s else none
  | .ref n => match lstAt s n with
    | some xs => nw (.lst (cutW xs lo hi)) s
    | none => match tupAt s n with
      | some xs => if HT.sIx xs.length 0 lo = 0 ∧ HT.sIx xs.length xs.length hi = xs.length then ok1 (.ref n) s else nw (.tup (cutW xs lo hi)) s
      | none => none
  | _ => none
abbrev rSlQ (K : PySem.W.Frag) : V → Option Int → Option Int → Hp → VK → Prop := fun x lo hi H Q => (rSlL K x lo hi H Q ∨ rSlS x lo hi H Q) ∨ rSlA K x lo hi H Q
theorem sl_Q {X : Cx} : SlR X (rSlQ X.K) := (sl_list.or sl_str).or sl_tupA
theorem l_sl {al : List Addr} {sw s' : Sto} {H : Hp} {w1 w : W} {v1 : V} {lo hi : Option Int} {Q : VK} (S : Sim K al sw H) (r1 : RW K al w1 v1) (e : gSl w1 lo hi sw = some (w, s')) (b : Back K al w s' Q) : rSlQ K v1 lo hi H Q := by
  unfold gSl at e
  split at e
  · split at e
    · rename_i hz
      cases e; cases r1
      exact .inl (.inr ⟨_, rfl, by rw [line_eq]; exact hz, b.now S rfl⟩)
    · cases e
  · rename_i n
    obtain ⟨a, ha, rfl⟩ := r1
    split at e
    · rename_i xs es
      cases e
      obtain ⟨c, us, hc, ru, sq⟩ := lstAt_ok S es
      rw [ha] at hc; cases hc
      exact .inl (.inl ⟨a, us, rfl, sq, b.nw S fun p => ⟨_, (ru.cut lo hi).mono (pre_snoc _ _), upd_same⟩⟩)
    · split at e
      · rename_i xs es
        obtain ⟨c, us, hc, ru, sq⟩ := tupAt_ok S es
        rw [ha] at hc; cases hc
        refine .inr ⟨a, us, rfl, sq, fun hw => ?_, fun hw => ?_⟩
        · rw [if_pos (by rw [ru.length]; exact hw)] at e
          cases e
          exact b.now S ⟨a, ha, rfl⟩
        · rw [if_neg (by rw [ru.length]; exact hw)] at e
          cases e
          exact b.nw S fun p => ⟨_, (ru.cut lo hi).mono (pre_snoc _ _), SqT.of upd_same⟩
      · cases e
  · cases e
/-- a part of a slice: left out, or an int -/
abbrev MO := Loc → Sto → R (Option Int)
def mnop : MO := fun _ s => .ok none s
def mpart (a : ME) : MO := fun ws s => (a ws s).bind fun x s => match x with
  | .int i => .ok (some i) s
  | _ => .no
def mslice (a : ME) (lo hi : MO) : ME := fun ws s => (a ws s).bind fun x s => (lo ws s).bind fun l s => (hi ws s).bind fun h s => R.of (gSl x l h s)
section
variable {X : Cx} {Wx : WX} {e : Expr} {me : ME} {lo hi : Option Expr} {ml mh : MO} {p2 pos : Pos}
def tMo (K : PySem.W.Frag) (Wx : WX) (m : MO) : TO := fun sg H Q => ∃ al s ws, Sim K al s H ∧ RSt K al ws sg ∧ Post K Wx al sg (fun o _ _ H' => Q o H') (m ws s)
theorem pmo_none : PO X none (tMo X.K Wx mnop) :=
  ⟨fun pins s sg H Q I ⟨al, sw, ws, S, rs, h⟩ => po_none.run pins s sg H Q I (h al H (List.prefix_refl _) S)⟩
theorem pmo_some (he : PE X e (tM X.K Wx me)) : PO X (some e) (tMo X.K Wx (mpart me)) := by
  refine ⟨fun pins s sg H Q I ⟨al, sw, ws, S, rs, h⟩ => (po_some he).run pins s sg H Q I ?_⟩
  refine ⟨al, sw, ws, S, rs, h.bind.imp fun x al1 s1 H1 p1 S1 h1 v rv => ?_⟩
  split at h1
  · cases rv
    exact ⟨_, rfl, h1 al1 H1 (List.prefix_refl _) S1⟩
  · exact h1.elim
theorem pm_slice (he : PE X e (tM X.K Wx me)) (hl : PO X lo (tMo X.K Wx ml)) (hh : PO X hi (tMo X.K Wx mh)) : PE X (.Subscript e (.Slice lo hi none p2) pos) (tM X.K Wx (mslice me ml mh)) := by
  refine ⟨fun pins s sg H Q I ⟨al, sw, ws, S, rs, h⟩ => (pe_slice sl_Q he hl hh).run pins s sg H Q I ?_⟩
  refine ⟨al, sw, ws, S, rs, h.bind.imp fun x al1 s1 H1 p1 S1 h1 v rv => ?_⟩
  refine ⟨al1, s1, ws, S1, rs.mono p1, h1.bind.imp fun l al2 s2 H2 p2 S2 h2 => ?_⟩
  refine ⟨al2, s2, ws, S2, rs.mono (p1.trans p2), h2.bind.imp fun u al3 s3 H3 p3 S3 h3 => ?_⟩
  obtain ⟨w, s', e', q⟩ := h3.of
  exact l_sl S3 (rv.mono (p2.trans p3)) e' q
end
end Vm

/-! Vm6: isinstance; a def's promise by its meaning; calls of defs and of methods. -/
namespace Vm
open PySem PySem.Spec PyProof.Rows L2
variable {K : PySem.W.Frag}
/-! ### isinstance -/
inductive Ty where
  | b (n : String) | c (x : Str)
  deriving DecidableEq
def Ty.v (K : PySem.W.Frag) : Ty → Value
  | .b n => .type n
  | .c x => .ref (He.ga K x)
def tyW (w : W) (s : Sto) : Option Ty := match w with
  | .non => some (.b "NoneType")
  | .bl _ => some (.b "bool")
  | .int _ => some (.b "int")
  | .str _ => some (.b "str")
  | .ref n => match s[n]? with
    | some (.lst _) => some (.b "list")
    | some (.cst _) => some (.b "list")
    | some (.tup _) => some (.b "tuple")
    | some (.dic _) => some (.b "dict")
    | some (.lck _) => some (.b "dict")
    | some (.ins c _) => some (.c c)
    | _ => none
  | _ => none
def clsW : W → Option Ty
  | .ty n => some (.b n)
  | .gl x => some (.c x)
  | _ => none
/-- what the text's classes must show for isinstance: a table of answers, and what an instance is -/
structure IsaOk (K : PySem.W.Frag) (tbl : List (Ty × Ty × Bool)) (cs : List Str) : Prop where
  ans : ∀ q ∈ tbl, PySem.W.kitOne K (q.1.v K) (q.2.1.v K) = some q.2.2
  own : ∀ x ∈ cs, Cls K (He.ga K x) ∧ PySem.W.findIn K (.ref (He.ga K x)) "__class__" = some (some (.builtin "object.__class__")) ∧ PySem.W.mroIn K (He.ga K x) (.type "object") = some true
  get : PySem.W.specialIn K (.builtin "object.__class__") "__get__" = some (some (.builtin "getset_descriptor.__get__"))
  tak : PySem.W.takesIn K (.builtin "object.__class__") = some true
def isaT (tbl : List (Ty × Ty × Bool)) (t c : Ty) : Option Bool := (tbl.find? fun q => decide (q.1 = t ∧ q.2.1 = c)).map (·.2.2)
theorem isaT_ok {tbl : List (Ty × Ty × Bool)} {cs : List Str} (h : IsaOk K tbl cs) {t c : Ty} {b : Bool} (e : isaT tbl t c = some b) : PySem.W.kitOne K (t.v K) (c.v K) = some b := by
  obtain ⟨q, e1, e2⟩ := Option.map_eq_some_iff.mp e
  have h1 := List.mem_of_find?_eq_some e1
  have h2 := List.find?_some e1
  simp only [decide_eq_true_eq] at h2
  have := h.ans q h1
  rw [h2.1, h2.2, e2] at this
  exact this
def isaAny (tbl : List (Ty × Ty × Bool)) (t : Ty) : List Ty → Option Bool
  | [] => some false
  | c :: r => match isaT tbl t c with
    | some true => some true
    | some false => isaAny tbl t r
    | none => none
theorem isaAny_ok {tbl : List (Ty × Ty × Bool)} {cs : List Str} (h : IsaOk K tbl cs) {t : Ty} : ∀ {l : List Ty} {b : Bool}, isaAny tbl t l = some b → PySem.W.kitAny K (t.v K) (l.map (Ty.v K)) = some b
  | [], _, e => e
  | c :: r, b, e => by
    unfold isaAny at e
    show (match PySem.W.kitOne K (t.v K) (c.v K) with
      | some true => some true
      | some false => PySem.W.kitAny K (t.v K) (r.map (Ty.v K))
      | none => none) = some b
    split at e
    · rename_i e1
      rw [isaT_ok h e1]; exact e
    · rename_i e1
      rw [isaT_ok h e1]; exact isaAny_ok h e
    · cases e
def clsWs : List W → Option (List Ty)
  | [] => some []
  | w :: r => match clsW w, clsWs r with
    | some t, some l => some (t :: l)
    | _, _ => none
def tyIn (cs : List Str) : Ty → Bool
  | .c y => cs.contains y
  | _ => true
def gIsi (tbl : List (Ty × Ty × Bool)) (cs : List Str) : Gs
  | [x, c], s => match tyW x s with
    | some t => if tyIn cs t then (match c with
        | .ref n => match (tupAt s n).bind clsWs with
          | some l => (match isaAny tbl t l with
            | some b => ok1 (.bl b) s
            | none => none)
          | none => none
        | c => match clsW c with
          | some u => (match isaT tbl t u with
            | some b => ok1 (.bl b) s
            | none => none)
          | none => none) else none
    | none => none
  | _, _ => none
theorem lst_tyX {H : Hp} {a : Addr} {vs : List V} (q : SqL K H a vs) : TyX K H (.ref a) (.type "list") := by
  rcases q with (q | ⟨o, q⟩) | ⟨o', its, n, hk, hc, _⟩
  · exact .base (.lst q)
  · exact .base (.frz q)
  · exact .kList hk hc
theorem tup_tyX {H : Hp} {a : Addr} {vs : List V} (q : SqT K H a vs) : TyX K H (.ref a) (.type "tuple") := by
  rcases q with (q | ⟨o, q⟩) | ⟨o', its, n, hk, hc, _⟩
  · exact .base (.tup q)
  · exact .fTuple q
  · exact .kTuple hk hc
theorem tyW_ok {tbl : List (Ty × Ty × Bool)} {cs : List Str} (h : IsaOk K tbl cs) {al : List Addr} {s : Sto} {H : Hp} {w : W} {v : V} {t : Ty} (S : Sim K al s H) (r : RW K al w v) (e : tyW w s = some t) (hc : ∀ y, t = .c y → y ∈ cs) : TyX K H v (t.v K) := by
  unfold tyW at e
  split at e
  · cases e; cases r; exact .base .non
  · cases e; cases r; exact .base (.bl _)
  · cases e; cases r; exact .base (.int _)
  · cases e; cases r; exact .base (.str _)
  · rename_i n
    obtain ⟨a, ha, rfl⟩ := r
    split at e
    · rename_i xs es
      cases e
      obtain ⟨c, h1, vs, _, q⟩ := S.get es
      rw [ha] at h1; cases h1
      exact .base (.lst q)
    · rename_i xs es
      cases e
      obtain ⟨c, h1, vs, _, q⟩ := S.get es
      rw [ha] at h1; cases h1
      exact lst_tyX q
    · rename_i xs es
      cases e
      obtain ⟨c, h1, vs, _, q⟩ := S.get es
      rw [ha] at h1; cases h1
      exact tup_tyX q
    · rename_i xs es
      cases e
      obtain ⟨c, h1, vs, _, q⟩ := S.get es
      rw [ha] at h1; cases h1
      exact .base (.dK q)
    · rename_i xs es
      cases e
      obtain ⟨c, h1, o, vs, _, q⟩ := S.get es
      rw [ha] at h1; cases h1
      exact .fDict q
    · rename_i c fs es
      cases e
      obtain ⟨d, h1, dx, vs, _, q⟩ := S.get es
      rw [ha] at h1; cases h1
      obtain ⟨k1, k2, k3⟩ := h.own c (hc c rfl)
      exact .base (.ins q k1 k2 h.get h.tak k3)
    · cases e
  · cases e
theorem clsW_ok {al : List Addr} {w : W} {v : V} {t : Ty} (r : RW K al w v) (e : clsW w = some t) : ClsV v (t.v K) := by
  unfold clsW at e
  split at e
  · cases e; cases r; exact .ty _
  · cases e; cases r; exact .own _
  · cases e
theorem clsWs_ok {al : List Addr} : ∀ {ws : List W} {vs : List V} {l : List Ty}, clsWs ws = some l → RWs K al ws vs → Paired ClsV vs (l.map (Ty.v K))
  | [], _, _, e, r => by cases e; cases r; exact .nil
  | w :: ws, _, _, e, r => by
    cases r with
    | cons r1 r2 =>
      unfold clsWs at e
      split at e
      · rename_i t l e1 e2
        cases e
        exact .cons (clsW_ok r1 e1) (clsWs_ok e2 r2)
      · cases e
theorem call_isiQ {X : Cx} {tbl : List (Ty × Ty × Bool)} {cs : List Str} (h : IsaOk X.K tbl cs) : CallR X (.builtin "isinstance") (rQs X.K (gIsi tbl cs)) := by
  rintro pins sh sg H xs us Q I r ⟨al, s, ws, w, s', S, r1, e, b⟩
  unfold gIsi at e
  split at e
  · rename_i s0 x c
    obtain ⟨v1, v2, rfl, q1, q2⟩ := r1.inv2
    obtain ⟨u1, u2, rfl, ru1, ru2⟩ := vals2 r
    split at e
    · rename_i t et
      split at e
      · rename_i hc
        have ty := tyW_ok h S q1 et (fun y ey => by subst ey; simpa [tyIn] using hc)
        split at e
        · rename_i n
          obtain ⟨a, ha, rfl⟩ := q2
          cases ru2
          split at e
          · rename_i l el
            split at e
            · rename_i k ek
              cases e
              obtain ⟨cs', e1, e2⟩ := Option.bind_eq_some_iff.mp el
              obtain ⟨c2, vs, hc2, rv, sq⟩ := tupAt_ok S e1
              rw [ha] at hc2; cases hc2
              obtain ⟨P, Z, p, hx⟩ := kit_of I ru1 ty
              obtain ⟨its, rv2, ⟨o, ho, hcl, m, hd⟩, _⟩ := I.tuple sq
              have ei := ClsV.all (clsWs_ok e2 rv) rv2
              subst ei
              obtain ⟨oc, od, dt, sl⟩ := o
              cases hcl
              cases hd
              exact PySem.W.kia_tup Z I.kIn p ho (isaAny_ok h ek) hx fun tk => ⟨.bl k, H, I.tok tk, rfl, b.now S rfl⟩
            · cases e
          · cases e
        · split at e
          · rename_i u eu
            split at e
            · rename_i k ek
              cases e
              exact call_isi pins sh sg H _ _ Q I (.cons ru1 (.cons ru2 .nil)) ⟨v1, v2, _, _, k, rfl, clsW_ok q2 eu, ty, isaT_ok h ek, b.now S rfl⟩
            · cases e
          · cases e
      · cases e
    · cases e
  · cases e

/-! ### what a def promises -/
/-- a table of meanings: by the def's name (its qualified name), the arguments, the store -/
abbrev Tab := Str → List W → Sto → R W
/-- behind a call: what is wanted of the value, of an exception -/
def PostC (K : PySem.W.Frag) (al : List Addr) (Q : VK) (E : XK) (r : R W) : Prop := Post K (fun c d _ H => E c d H) al [] (PW1 K Q) r
theorem PostC.at_ {Wx : WX} {al : List Addr} {sg : L2.St} {Q : VK} {r : R W} (h : Post K Wx al sg (PW1 K Q) r) : PostC K al Q (fun c d H => Wx c d sg H) r := by
  cases r with
  | ok b s => exact h
  | er c d s => exact h
  | no => exact h
theorem PostC.mono {al bl : List Addr} {Q : VK} {E : XK} {r : R W} (h : PostC K al Q E r) (p : al <+: bl) : PostC K bl Q E r := Post.mono h p
structure FnQ (P : Program) (w : World) (K : PySem.W.Frag) (mg : Str → Option Value) (base : Heap) (k : Nat) (f : Addr) (fd : FuncData) (ps : List Str) (m : List W → Sto → R W) : Prop where
  run : ∀ (A : Around) (outer : List Env) (sh : Shared) (H : Hp) (args : Args) (us : List Value) (vs : List V) (ws : List W) (al : List Addr) (s : Sto) (Q : VK) (E : XK), Room k A → A.guards = some [] → Env0 P w K mg base A outer sh H →
    BindsTo sh fd args (ps.zip us) → Vals vs us → ws.length = ps.length → Sim K al s H → RWs K al ws vs → PostC K al Q E (m ws s) → codeAny (model P w) A (.call (.ref f) args) (CR (L2.CX P w) outer P w H sh Q E) sh
section
variable {X : Cx} {Wx : WX} {k : Nat} {f : Addr} {fd : FuncData} {ps : List Str} {m : List W → Sto → R W} {ds : List Value} {dws : List W}
/-- the callee runs -/
theorem run_q {pins : List (Addr × Obj)} {sg : L2.St} {H : Hp} {sh : Shared} {Q : VK} {us : List Value} {vs : List V} {ws : List W} {al : List Addr} {s : Sto} (F : FnQ X.prog X.w X.K X.mg X.base k f fd ps m) (hr : Room k X.A) (hg : X.A.guards = some []) (tk : Takes X Wx)
    (I : Inv X pins sg H sh) {args : Args} (hb : BindsTo sh fd args (ps.zip us)) (r : Vals vs us) (hl : ws.length = ps.length) (S : Sim X.K al s H) (rw' : RWs X.K al ws vs) (h : Post X.K Wx al sg (PW1 X.K Q) (m ws s)) :
    codeAny (model X.prog X.w) X.A (.call (.ref f) args) (fun r s' => match r with
      | .ok (.ret v) => EP X pins sg Q v s'
      | .ok _ => False
      | .error e => X.xe e s') sh := by
  refine codeAny_mono (F.run X.A X.stack sh H args us vs ws al s Q (fun c d H' => Wx c d sg H') hr hg I.env0 hb r hl S rw' (PostC.at_ h)) fun r s' hq => ?_
  cases r with
  | error e => exact tk e s' (XE.of_call I (fun c d H' z => z) hq)
  | ok fl =>
    cases fl with
    | ret u => exact I.after hq
    | next => exact hq.elim
    | brk => exact hq.elim
    | cont => exact hq.elim
end
end Vm

/-! Vm7: statements by their meanings; a def's body. -/
namespace Vm
open PySem PySem.Spec PyProof.Rows L2
/-- a statement's result: it goes on, returns, breaks, continues, raises -/
inductive RS where
  | nx (ws : Loc) (s : Sto) | rt (w : W) (s : Sto) | bk (ws : Loc) (s : Sto) | ct (ws : Loc) (s : Sto) | er (c : Str) (d : Nat) (ws : Loc) (s : Sto) | no
abbrev MS := Loc → Sto → RS
def RS.andThen (r : RS) (f : MS) : RS := match r with
  | .nx ws s => f ws s
  | r => r
/-- from an expression's result -/
def R.toS {B : Type} (r : R B) (ws : Loc) (f : B → Sto → RS) : RS := match r with
  | .ok b s => f b s
  | .er c d s => .er c d ws s
  | .no => .no
section
variable (K : PySem.W.Frag) (Wx : WX)
def PostS (al : List Addr) (D : Ends) : RS → Prop
  | .nx ws s => ∀ (al' : List Addr) (H' : Hp) (sg' : L2.St), al <+: al' → Sim K al' s H' → RSt K al' ws sg' → D.nx sg' H'
  | .rt w s => ∀ (al' : List Addr) (H' : Hp) (v : V), al <+: al' → Sim K al' s H' → RW K al' w v → D.rt v H'
  | .bk ws s => ∀ (al' : List Addr) (H' : Hp) (sg' : L2.St), al <+: al' → Sim K al' s H' → RSt K al' ws sg' → D.bk sg' H'
  | .ct ws s => ∀ (al' : List Addr) (H' : Hp) (sg' : L2.St), al <+: al' → Sim K al' s H' → RSt K al' ws sg' → D.ct sg' H'
  | .er c d ws s => ∀ (al' : List Addr) (H' : Hp) (sg' : L2.St) (a : Addr), al <+: al' → Sim K al' s H' → RSt K al' ws sg' → al'[d]? = some a → Wx (.ref (He.ga K c)) (some a) sg' H'
  | .no => False
def tMS (m : MS) : TS := fun D sg H => ∃ al s ws, Sim K al s H ∧ RSt K al ws sg ∧ PostS K Wx al D (m ws s)
end
section
variable {K : PySem.W.Frag} {Wx : WX} {al al' : List Addr} {D D' : Ends}
theorem PostS.mono {r : RS} (h : PostS K Wx al D r) (p : al <+: al') : PostS K Wx al' D r := by
  cases r with
  | nx ws s => exact fun al2 H2 sg q => h al2 H2 sg (p.trans q)
  | rt w s => exact fun al2 H2 v q => h al2 H2 v (p.trans q)
  | bk ws s => exact fun al2 H2 sg q => h al2 H2 sg (p.trans q)
  | ct ws s => exact fun al2 H2 sg q => h al2 H2 sg (p.trans q)
  | er c d ws s => exact fun al2 H2 sg a q => h al2 H2 sg a (p.trans q)
  | no => exact h
/-- what follows is asked of the state behind -/
theorem PostS.then_ {r : RS} {f : MS} (h : PostS K Wx al D (r.andThen f)) : PostS K Wx al { D with nx := fun sg H => tMS K Wx f D sg H } r := by
  cases r with
  | nx ws s => exact fun al2 H2 sg q S rs => ⟨al2, s, ws, S, rs, (show PostS K Wx al D (f ws s) from h).mono q⟩
  | _ => exact h
/-- an expression's end inside a statement -/
theorem PostS.expr {B : Type} {r : R B} {ws : Loc} {sg : L2.St} {f : B → Sto → RS} (h : PostS K Wx al D (r.toS ws f)) (rs : RSt K al ws sg) : Post K Wx al sg (fun b al' s' _ => PostS K Wx al' D (f b s')) r := by
  cases r with
  | ok b s => exact fun al2 H2 q S => (show PostS K Wx al D (f b s) from h).mono q
  | er c d s => exact fun al2 H2 a q S e => h al2 H2 sg a q S (rs.mono q) e
  | no => exact h
end
section
variable {X : Cx} {Wx : WX} {st : Stmt} {rest : List Stmt} {m m' : MS} {e : Expr} {me : ME} {pos : Pos}
/-! ### blocks -/
def snil : MS := fun ws s => .nx ws s
def sseq (a b : MS) : MS := fun ws s => (a ws s).andThen b
theorem qs_nil : PSs X [] (tMS X.K Wx snil) :=
  ⟨fun pins sh sg H D I ⟨al, s, ws, S, rs, h⟩ => pss_nil.run pins sh sg H D I (h al H sg (List.prefix_refl _) S rs)⟩
theorem qs_cons (h1 : PS X st (tMS X.K Wx m)) (h2 : PSs X rest (tMS X.K Wx m')) : PSs X (st :: rest) (tMS X.K Wx (sseq m m')) :=
  ⟨fun pins sh sg H D I ⟨al, s, ws, S, rs, h⟩ => (pss_cons h1 h2).run pins sh sg H D I ⟨al, s, ws, S, rs, h.then_⟩⟩
/-! ### small statements -/
def spass : MS := fun ws s => .nx ws s
def sbreak : MS := fun ws s => .bk ws s
def scont : MS := fun ws s => .ct ws s
theorem q_pass : PS X (.Pass pos) (tMS X.K Wx spass) := ⟨fun pins sh sg H D I ⟨al, s, ws, S, rs, h⟩ => ps_pass.run pins sh sg H D I (h al H sg (List.prefix_refl _) S rs)⟩
theorem q_break : PS X (.Break pos) (tMS X.K Wx sbreak) := ⟨fun pins sh sg H D I ⟨al, s, ws, S, rs, h⟩ => ps_break.run pins sh sg H D I (h al H sg (List.prefix_refl _) S rs)⟩
theorem q_cont : PS X (.Continue pos) (tMS X.K Wx scont) := ⟨fun pins sh sg H D I ⟨al, s, ws, S, rs, h⟩ => ps_continue.run pins sh sg H D I (h al H sg (List.prefix_refl _) S rs)⟩
theorem q_doc {x j pos pos'} : PS X (.Expr (.Constant (.str x) j pos) pos') (tMS X.K Wx spass) := ⟨fun pins sh sg H D I ⟨al, s, ws, S, rs, h⟩ => ps_doc.run pins sh sg H D I (h al H sg (List.prefix_refl _) S rs)⟩
def sexpr (a : ME) : MS := fun ws s => (a ws s).toS ws fun _ s => .nx ws s
theorem q_expr (he : PE X e (tM X.K Wx me)) (hs : swapsWith e none pos.line X.env = pure false) : PS X (.Expr e pos) (tMS X.K Wx (sexpr me)) :=
  ⟨fun pins sh sg H D I ⟨al, s, ws, S, rs, h⟩ => (ps_expr he hs).run pins sh sg H D I ⟨al, s, ws, S, rs, (h.expr rs).imp fun w al1 s1 H1 p1 S1 h1 v rv => h1 al1 H1 sg (List.prefix_refl _) S1 (rs.mono p1)⟩⟩
def sret (a : ME) : MS := fun ws s => (a ws s).toS ws fun w s => .rt w s
theorem q_ret (he : PE X e (tM X.K Wx me)) : PS X (.Return (some e) pos) (tMS X.K Wx (sret me)) :=
  ⟨fun pins sh sg H D I ⟨al, s, ws, S, rs, h⟩ => (ps_ret he).run pins sh sg H D I ⟨al, s, ws, S, rs, (h.expr rs).imp fun w al1 s1 H1 p1 S1 h1 v rv => h1 al1 H1 v (List.prefix_refl _) S1 rv⟩⟩
def sretN : MS := fun _ s => .rt .non s
theorem q_retN : PS X (.Return none pos) (tMS X.K Wx sretN) := ⟨fun pins sh sg H D I ⟨al, s, ws, S, rs, h⟩ => ps_retN.run pins sh sg H D I (h al H .non (List.prefix_refl _) S rfl)⟩
/-! ### if -/
def sif (c : MT) (a b : MS) : MS := fun ws s => (c ws s).toS ws fun k s => if k = true then a ws s else b ws s
theorem q_if {c : Expr} {a b : List Stmt} {mt : MT} {ma mb : MS} (hc : PT X c (tMt X.K Wx mt)) (ha : PSs X a (tMS X.K Wx ma)) (hb : PSs X b (tMS X.K Wx mb)) : PS X (.If c a b pos) (tMS X.K Wx (sif mt ma mb)) := by
  refine ⟨fun pins sh sg H D I ⟨al, s, ws, S, rs, h⟩ => (ps_if hc ha hb).run pins sh sg H D I ?_⟩
  refine ⟨al, s, ws, S, rs, (h.expr rs).imp fun k al1 s1 H1 p1 S1 h1 => ?_⟩
  cases k with
  | true => exact iteT ⟨al1, s1, ws, S1, rs.mono p1, h1⟩
  | false => exact iteF ⟨al1, s1, ws, S1, rs.mono p1, h1⟩
/-! ### tests -/
variable {a b : Expr} {ma mb : ME} {ta tb : MT}
theorem gtru_ok {K : PySem.W.Frag} {al : List Addr} {s : Sto} {H : Hp} {w : W} {v : V} {k : Bool} (S : Sim K al s H) (r : RW K al w v) (e : gtru w s = some k) : TruV K v H k := by
  unfold gtru at e
  split at e
  · cases e; cases r; rfl
  · cases e; cases r; rfl
  · cases e; cases r; rfl
  · split at e
    · rename_i hx
      cases e; cases r
      refine ⟨by rw [line_eq]; exact hx, ?_⟩
      rw [Bool.eq_iff_iff]
      simp
    · cases e
  · obtain ⟨a, ha, rfl⟩ := r
    split at e
    · rename_i es
      cases e
      obtain ⟨c, hc, vs, ru, q⟩ := S.get es
      rw [ha] at hc; cases hc
      exact .inl ⟨vs, SqL.of q, by cases ru <;> rfl⟩
    · rename_i es
      cases e
      obtain ⟨c, hc, vs, ru, q⟩ := S.get es
      rw [ha] at hc; cases hc
      exact .inl ⟨vs, q, by cases ru <;> rfl⟩
    · rename_i es
      cases e
      obtain ⟨c, hc, vs, ru, q⟩ := S.get es
      rw [ha] at hc; cases hc
      exact .inr (.inl ⟨vs, q, by cases ru <;> rfl⟩)
    · rename_i es
      cases e
      obtain ⟨c, hc, vs, ru, q⟩ := S.get es
      rw [ha] at hc; cases hc
      exact .inr (.inr ⟨vs, q, by cases ru <;> rfl⟩)
    · cases e
  · cases e
/-- any expression by its value's truth -/
theorem pmt_truth (ha : PE X a (tM X.K Wx ma)) (he : ∀ whole, isTrue a X.env whole = (do let v ← whole; standAt a.pos; holding [v] (truthy v))) : PT X a (tMt X.K Wx (mtru gtru ma)) := by
  refine ⟨fun pins sh sg H Q I ⟨al, s, ws, S, rs, h⟩ => (pt_truth ha he).run pins sh sg H Q I ?_⟩
  refine ⟨al, s, ws, S, rs, h.bind.imp fun w al1 s1 H1 p1 S1 h1 v rv => ?_⟩
  split at h1
  · rename_i k ek
    exact ⟨k, gtru_ok S1 rv ek, h1 al1 H1 (List.prefix_refl _) S1⟩
  · exact h1.elim
def asBl : W → Option Bool
  | .bl b => some b
  | _ => none
/-- a comparison, as a test -/
def mtb (a : ME) : MT := fun ws s => (a ws s).bind fun x s => match x with
  | .bl b => .ok b s
  | _ => .no
theorem mtb_ok {te : TE} {al : List Addr} {s : Sto} {ws : Loc} {sg : L2.St} {H : Hp} {Q : Bool → Hp → Prop} (hte : ∀ Q : VK, tM X.K Wx ma sg H Q → te sg H Q) (S : Sim X.K al s H) (rs : RSt X.K al ws sg) (h : Post X.K Wx al sg (fun b _ _ H' => Q b H') (mtb ma ws s)) :
    tTest te sg H Q := by
  refine hte _ ⟨al, s, ws, S, rs, h.bind.imp fun w al1 s1 H1 p1 S1 h1 v rv => ?_⟩
  split at h1
  · cases rv
    exact ⟨_, rfl, h1 al1 H1 (List.prefix_refl _) S1⟩
  · exact h1.elim
theorem pmt_cmp {op : CmpOp} {r : R2} {g : G2} (ho : OpR X (compareOp op) r) (L : Lift2 X.K r g) (ha : PE X a (tM X.K Wx ma)) (hb : PE X b (tM X.K Wx mb)) (hm : behindInMarks op b = false) : PT X (.Compare a [op] [b] pos) (tMt X.K Wx (mtb (mbin g ma mb))) :=
  ⟨fun pins sh sg H Q I ⟨al, s, ws, S, rs, h⟩ => (pt_cmpR ho ha hb hm).run pins sh sg H Q I (mtb_ok (fun Q ⟨al, s, ws, S, rs, h⟩ => two_ok L S rs h) S rs h)⟩
/-- a op b op' c -/
def mchain (g g' : G2) (a b c : ME) : ME := fun ws s => (a ws s).bind fun x s => (b ws s).bind fun y s => (R.of (g x y s)).bind fun z s => match z with
  | .bl k => if k = true then (c ws s).bind fun u s => R.of (g' y u s) else .ok (.bl false) s
  | _ => .no
variable {c : Expr} {mc' : ME}
theorem chain_ok {r r' : R2} {g g' : G2} (L : Lift2 X.K r g) (L' : Lift2 X.K r' g') {al : List Addr} {s : Sto} {ws : Loc} {sg : L2.St} {H : Hp} {Q : VK} (S : Sim X.K al s H) (rs : RSt X.K al ws sg) (h : Post X.K Wx al sg (PW1 X.K Q) (mchain g g' ma mb mc' ws s)) :
    tChain r r' (tM X.K Wx ma) (tM X.K Wx mb) (tM X.K Wx mc') sg H Q := by
  refine ⟨al, s, ws, S, rs, h.bind.imp fun x al1 s1 H1 p1 S1 h1 v rv => ?_⟩
  refine ⟨al1, s1, ws, S1, rs.mono p1, h1.bind.imp fun y al2 s2 H2 p2 S2 h2 u ru => ?_⟩
  obtain ⟨z, s3, e, h3⟩ := h2.bind.of
  refine L al2 s2 s3 H2 x y z v u _ S2 (rv.mono p2) ru e fun al3 H3 p3 S3 v3 rv3 => ?_
  have h4 := h3 al3 H3 p3 S3
  split at h4
  · rename_i k
    cases rv3
    refine ⟨k, rfl, ?_⟩
    cases k with
    | true =>
      refine iteT ⟨al3, s3, ws, S3, rs.mono (p1.trans (p2.trans p3)), ?_⟩
      rw [if_pos rfl] at h4
      refine h4.bind.imp fun u' al4 s4 H4 p4 S4 h5 v5 rv5 => ?_
      obtain ⟨w, s5, e5, q5⟩ := h5.of
      exact L' al4 s4 s5 H4 y u' w _ _ Q S4 (ru.mono (p3.trans p4)) rv5 e5 q5
    | false =>
      rw [if_neg Bool.false_ne_true] at h4
      exact iteF (h4 al3 H3 (List.prefix_refl _) S3 _ rfl)
  · exact h4.elim
theorem pm_chain {op op' : CmpOp} {r r' : R2} {g g' : G2} (ho : OpR X (compareOp op) r) (L : Lift2 X.K r g) (ho' : OpR X (compareOp op') r') (L' : Lift2 X.K r' g') (ha : PE X a (tM X.K Wx ma)) (hb : PE X b (tM X.K Wx mb)) (hc : PE X c (tM X.K Wx mc'))
    (hm : lastMarks [op, op'] [b, c] = false) : PE X (.Compare a [op, op'] [b, c] pos) (tM X.K Wx (mchain g g' ma mb mc')) :=
  ⟨fun pins sh sg H Q I ⟨al, s, ws, S, rs, h⟩ => (pe_chain ho ho' ha hb hc hm).run pins sh sg H Q I (chain_ok L L' S rs h)⟩
theorem pmt_chain {op op' : CmpOp} {r r' : R2} {g g' : G2} (ho : OpR X (compareOp op) r) (L : Lift2 X.K r g) (ho' : OpR X (compareOp op') r') (L' : Lift2 X.K r' g') (ha : PE X a (tM X.K Wx ma)) (hb : PE X b (tM X.K Wx mb)) (hc : PE X c (tM X.K Wx mc'))
    (hm : lastMarks [op, op'] [b, c] = false) : PT X (.Compare a [op, op'] [b, c] pos) (tMt X.K Wx (mtb (mchain g g' ma mb mc'))) :=
  ⟨fun pins sh sg H Q I ⟨al, s, ws, S, rs, h⟩ => (pt_chain ho ho' ha hb hc hm).run pins sh sg H Q I (mtb_ok (fun Q ⟨al, s, ws, S, rs, h⟩ => chain_ok L L' S rs h) S rs h)⟩
/-- and, or, not, as tests -/
theorem pmw_and1 (ha : PT X a (tMt X.K Wx ta)) : PW X (.BoolOp .And [a] pos) (tMt X.K Wx ta) := pw_and1 ha
theorem pmw_or1 (ha : PT X a (tMt X.K Wx ta)) : PW X (.BoolOp .Or [a] pos) (tMt X.K Wx ta) := pw_or1 ha
theorem pmw_and {rs' : List Expr} (ha : PT X a (tMt X.K Wx ta)) (hb : PW X (.BoolOp .And (b :: rs') pos) (tMt X.K Wx tb)) : PW X (.BoolOp .And (a :: b :: rs') pos) (tMt X.K Wx (mand ta tb)) := by
  refine ⟨fun wh pins sh sg H Q I ⟨al, s, ws, S, rs, h⟩ => (pw_and ha hb).run wh pins sh sg H Q I ?_⟩
  refine ⟨al, s, ws, S, rs, h.bind.imp fun k al1 s1 H1 p1 S1 h1 => ?_⟩
  cases k with
  | true => exact iteT ⟨al1, s1, ws, S1, rs.mono p1, h1⟩
  | false => exact iteF (h1 al1 H1 (List.prefix_refl _) S1)
theorem pmw_or {rs' : List Expr} (ha : PT X a (tMt X.K Wx ta)) (hb : PW X (.BoolOp .Or (b :: rs') pos) (tMt X.K Wx tb)) : PW X (.BoolOp .Or (a :: b :: rs') pos) (tMt X.K Wx (mor ta tb)) := by
  refine ⟨fun wh pins sh sg H Q I ⟨al, s, ws, S, rs, h⟩ => (pw_or ha hb).run wh pins sh sg H Q I ?_⟩
  refine ⟨al, s, ws, S, rs, h.bind.imp fun k al1 s1 H1 p1 S1 h1 => ?_⟩
  cases k with
  | true => exact iteT (h1 al1 H1 (List.prefix_refl _) S1)
  | false => exact iteF ⟨al1, s1, ws, S1, rs.mono p1, h1⟩
theorem pmt_not (ha : PT X a (tMt X.K Wx ta)) : PT X (.UnaryOp .Not a pos) (tMt X.K Wx (mnot ta)) := by
  refine ⟨fun pins sh sg H Q I ⟨al, s, ws, S, rs, h⟩ => (pt_not ha).run pins sh sg H Q I ?_⟩
  exact ⟨al, s, ws, S, rs, h.bind.imp fun k al1 s1 H1 p1 S1 h1 => h1 al1 H1 (List.prefix_refl _) S1⟩
/-! ### and, or, not, if .. else, as values -/
/-- a and b, a a bool -/
def mandV (a b : ME) : ME := fun ws s => (a ws s).bind fun x s => match x with
  | .bl k => if k = true then b ws s else .ok (.bl false) s
  | _ => .no
def morV (a b : ME) : ME := fun ws s => (a ws s).bind fun x s => match x with
  | .bl k => if k = true then .ok (.bl true) s else b ws s
  | _ => .no
def mnotV (a : ME) : ME := fun ws s => (a ws s).bind fun x s => match x with
  | .bl k => .ok (.bl (!k)) s
  | _ => .no
def mif (c : MT) (a b : ME) : ME := fun ws s => (c ws s).bind fun k s => if k = true then a ws s else b ws s
theorem pm_one {op} (h : PE X a (tM X.K Wx ma)) : PE X (.BoolOp op [a] pos) (tM X.K Wx ma) := pe_one h
theorem pm_andV {rs' : List Expr} (ha : PE X a (tM X.K Wx ma)) (hb : PE X (.BoolOp .And (b :: rs') pos) (tM X.K Wx mb)) : PE X (.BoolOp .And (a :: b :: rs') pos) (tM X.K Wx (mandV ma mb)) := by
  refine ⟨fun pins sh sg H Q I ⟨al, s, ws, S, rs, h⟩ => (pe_and ha hb).run pins sh sg H Q I ?_⟩
  refine ⟨al, s, ws, S, rs, h.bind.imp fun x al1 s1 H1 p1 S1 h1 v rv => ?_⟩
  split at h1
  · rename_i k
    cases rv
    refine ⟨k, rfl, ?_⟩
    cases k with
    | true => exact iteT ⟨al1, s1, ws, S1, rs.mono p1, h1⟩
    | false => exact iteF (h1 al1 H1 (List.prefix_refl _) S1 _ rfl)
  · exact h1.elim
theorem pm_orV {rs' : List Expr} (ha : PE X a (tM X.K Wx ma)) (hb : PE X (.BoolOp .Or (b :: rs') pos) (tM X.K Wx mb)) : PE X (.BoolOp .Or (a :: b :: rs') pos) (tM X.K Wx (morV ma mb)) := by
  refine ⟨fun pins sh sg H Q I ⟨al, s, ws, S, rs, h⟩ => (pe_or ha hb).run pins sh sg H Q I ?_⟩
  refine ⟨al, s, ws, S, rs, h.bind.imp fun x al1 s1 H1 p1 S1 h1 v rv => ?_⟩
  split at h1
  · rename_i k
    cases rv
    refine ⟨k, rfl, ?_⟩
    cases k with
    | true => exact iteT (h1 al1 H1 (List.prefix_refl _) S1 _ rfl)
    | false => exact iteF ⟨al1, s1, ws, S1, rs.mono p1, h1⟩
  · exact h1.elim
theorem pm_notV (ha : PE X a (tM X.K Wx ma)) : PE X (.UnaryOp .Not a pos) (tM X.K Wx (mnotV ma)) := by
  refine ⟨fun pins sh sg H Q I ⟨al, s, ws, S, rs, h⟩ => (pe_not ha).run pins sh sg H Q I ?_⟩
  refine ⟨al, s, ws, S, rs, h.bind.imp fun x al1 s1 H1 p1 S1 h1 v rv => ?_⟩
  split at h1
  · cases rv
    exact ⟨_, rfl, h1 al1 H1 (List.prefix_refl _) S1 _ rfl⟩
  · exact h1.elim
theorem pm_if {t : Expr} {mt : MT} (hc : PT X t (tMt X.K Wx mt)) (ha : PE X a (tM X.K Wx ma)) (hb : PE X b (tM X.K Wx mb)) : PE X (.IfExp t a b pos) (tM X.K Wx (mif mt ma mb)) := by
  refine ⟨fun pins sh sg H Q I ⟨al, s, ws, S, rs, h⟩ => (pe_ifExp hc ha hb).run pins sh sg H Q I ?_⟩
  refine ⟨al, s, ws, S, rs, h.bind.imp fun k al1 s1 H1 p1 S1 h1 => ?_⟩
  cases k with
  | true => exact iteT ⟨al1, s1, ws, S1, rs.mono p1, h1⟩
  | false => exact iteF ⟨al1, s1, ws, S1, rs.mono p1, h1⟩
end
end Vm

/-! Vm8: a def's body keeps its promise; calls of defs by their names. -/
namespace Vm
open PySem PySem.Spec PyProof.Rows L2
/-- a body's meaning as a def's: n slots, the parameters first -/
def runB (n : Nat) (m : MS) (ws : List W) (s : Sto) : R W := match m (ws.map some ++ List.replicate (n - ws.length) none) s with
  | .nx _ s' => .ok .non s'
  | .rt w s' => .ok w s'
  | .er c d _ s' => .er c d s'
  | _ => .no
/-- the context that a def's body stands in, at its entry -/
abbrev cxQ (P : Program) (w : World) (K : PySem.W.Frag) (mg : Str → Option Value) (base : Heap) (N : List Str) (qual : Str) (scope : Scope) (f : Addr) (cd : Value) (A : Around) (outer : List Env) (sh : Shared) (H : Hp) (E : XK) : Cx := cxOf (L2.CX P w) P w K mg base N qual scope f cd A outer sh H E
theorem fnq_of {P : Program} {w : World} {K : PySem.W.Frag} {mg : Str → Option Value} {base : Heap} {k : Nat} {f : Addr} {x qual : Str} {params : Arguments} {body : List Stmt} {scope : Scope} {dvs : List V} {kws : List (Str × V)} {fd : FuncData} {N ps : List Str} {m : MS}
    (F : FunD K x qual params body scope dvs kws f fd) (S : FnScope N ps scope)
    (hb : ∀ (cdv : Value) (A : Around) (outer : List Env) (sh : Shared) (H : Hp) (E : XK), Room k (A.deeper (envOfC qual scope sh.heap.objs.size f cdv)) → A.guards = some [] →
      PSs (cxQ P w K mg base N qual scope f cdv A outer sh H E) body (tMS K (fun c d _ H' => E c d H') m)) :
    FnQ P w K mg base (k + 1) f fd ps (runB N.length m) := by
  obtain ⟨oc, od, dV, kV, doc, pm, an, cdv, ct, osl, rfl, lk, hcd, _, _⟩ := F.ex
  refine ⟨fun A outer sh H args us vs ws al s Q E hr hg e0 hbi rv hl Sm rW hP => ?_⟩
  have KX : K.In sh.heap := e0.mod.kin.keeps fun b o e => (e0.bs b o e).1
  have lim : sh.heap.NoLimit := e0.mod.nolimit.keeps fun b o e => (e0.bs b o e).1
  have hvl : vs.length = ps.length := by rw [← rW.length]; exact hl
  refine codeAny_call_function hr.depth (KX _ _ lk) rfl S.co S.gen rfl (PySem.W.codeRec_of KX hcd) (hbi _ _ _ _ ?_)
  refine wpAny_newFunctionEnv_cells S.kind (fun y hy => ?_) fun env he s1 q => ?_
  · rcases S.par y.1 (List.of_mem_zip (show (y.1, y.2) ∈ ps.zip us from hy)).1 with z | z
    · exact .inl z
    · exact .inr ⟨z, PySem.W.cellsFrom_some _ _ _ (.inl z)⟩
  · subst he
    refine ⟨lim.keeps q.toInCall.keep, codeAny_func ?_⟩
    have I := inv_start (CX := L2.CX P w) (E := E) S hr.hd e0 hvl rv q
    have hd : wpAny (model P w) (A.deeper (envOfC qual scope sh.heap.objs.size f cdv)) (execs body (envOfC qual scope sh.heap.objs.size f cdv))
        (SP (cxQ P w K mg base N qual scope f cdv A outer sh H E) [] { nx := fun _ H' => Q .non H', rt := Q }) (cxQ P w K mg base N qual scope f cdv A outer sh H E).xe s1 := by
      refine (hb cdv A outer sh H E (hr.deeper _) hg).run [] s1 (L2.start N vs) H { nx := fun _ H' => Q .non H', rt := Q } I ⟨al, s, ws.map some ++ List.replicate (N.length - ws.length) none, Sm, ?_, ?_⟩
      · unfold L2.start
        rw [show vs.length = ws.length from rW.length.symm]
        exact rW.startSt _
      · unfold runB PostC at hP
        cases e : m (ws.map some ++ List.replicate (N.length - ws.length) none) s with
        | nx ws' s' => rw [e] at hP; exact fun al' H' sg' p S' _ => hP al' H' p S' .non rfl
        | rt w' s' => rw [e] at hP; exact fun al' H' v p S' r => hP al' H' p S' v r
        | er c d ws' s' => rw [e] at hP; exact fun al' H' sg' a p S' _ ea => hP al' H' a p S' ea
        | bk _ _ => rw [e] at hP; exact hP.elim
        | ct _ _ => rw [e] at hP; exact hP.elim
        | no => rw [e] at hP; exact hP.elim
    refine wpAny_mono hd (fun fl s' hs => ?_) fun _ _ z => z
    have fin : ∀ {sg' : L2.St} {H' : Hp} {v : V} {u : Value}, Inv (cxQ P w K mg base N qual scope f cdv A outer sh H E) [] sg' H' s' → RelV v u → Q v H' → CE outer P w H sh Q u s' := fun J r z => ⟨_, _, J.os, J.bare, J.base, J.hok, r, z⟩
    cases fl with
    | ret u => obtain ⟨v, sg', H', J, r, z⟩ := hs; exact fin J r z
    | next => obtain ⟨sg', H', J, z⟩ := hs; exact fin (v := V.non) J rfl z
    | brk => obtain ⟨_, _, _, z⟩ := hs; exact z.elim
    | cont => obtain ⟨_, _, _, z⟩ := hs; exact z.elim
/-- in a def's body: what is raised is taken as the def's promise says -/
theorem takesQ {P : Program} {w : World} {K : PySem.W.Frag} {mg : Str → Option Value} {base : Heap} {N : List Str} {qual : Str} {scope : Scope} {f : Addr} {cd : Value} {A : Around} {outer : List Env} {sh : Shared} {H : Hp} {E : XK} :
    Takes (cxQ P w K mg base N qual scope f cd A outer sh H E) (fun c d _ H' => E c d H') := takes_of rfl rfl rfl rfl
theorem ownQ {P : Program} {w : World} {K : PySem.W.Frag} {mg : Str → Option Value} {base : Heap} {N : List Str} {qual : Str} {scope : Scope} {f : Addr} {cd : Value} {A : Around} {outer : List Env} {sh : Shared} {H : Hp} {E : XK} :
    PassesOwn (model P w) (cxQ P w K mg base N qual scope f cd A outer sh H E).A (cxQ P w K mg base N qual scope f cd A outer sh H E).env (cxQ P w K mg base N qual scope f cd A outer sh H E).xe := passes_of rfl

/-! ### f(e, ..) -/
/-- a def as the text's other defs may call it -/
structure DefAt (X : Cx) (k : Nat) (f : Addr) (n : Nat) (m : List W → Sto → R W) : Prop where
  ex : ∃ fd ps, PySem.W.keepIn X.K (.ref f) = true ∧ ps.length = n ∧ FnQ X.prog X.w X.K X.mg X.base k f fd ps m ∧ Binds X.K fd ps []
def mcall (n : Nat) (t : List W → Sto → R W) (a : MA) : ME := fun ws s => (a ws s).bind fun xs s => if xs.length = n then t xs s else .no
section
variable {X : Cx} {Wx : WX} {k n : Nat} {f : Addr} {x : Str} {m : List W → Sto → R W} {e : Expr} {es : List Expr} {ms : MA} {p pos : Pos}
theorem call_q {pins : List (Addr × Obj)} {sg : L2.St} {H : Hp} {sh : Shared} {Q : VK} {us : List Value} {vs : List V} {ws : List W} {al : List Addr} {s : Sto} (F : DefAt X k f n m) (hr : Room k X.A) (hg : X.A.guards = some []) (tk : Takes X Wx)
    (I : Inv X pins sg H sh) (r : Vals vs us) (S : Sim X.K al s H) (rw' : RWs X.K al ws vs) (h : Post X.K Wx al sg (PW1 X.K Q) (if ws.length = n then m ws s else .no)) : wpAny (model X.prog X.w) X.A (call (.ref f) us) (EP X pins sg Q) X.xe sh := by
  obtain ⟨fd, ps, hk, hl, FQ, hb⟩ := F.ex
  by_cases hn : ws.length = n
  · rw [if_pos hn] at h
    have hus : us.length = ps.length := by rw [← r.length, ← rw'.length, hn, hl]
    have := hb sh us I.kIn (by simpa using hus)
    rw [List.append_nil] at this
    refine wpAny_call (codeAny_mono (run_q FQ hr hg tk I this r (by rw [hn, hl]) S rw' h) fun r s' hq => ?_)
    cases r with
    | error e => exact hq
    | ok fl => cases fl <;> first | exact hq | exact hq.elim
  · rw [if_neg hn] at h
    exact h.elim
theorem pm_call (F : DefAt X k f n m) (hr : Room k X.A) (hgu : X.A.guards = some []) (tk : Takes X Wx) (hg : Gl X x) (hm : X.mg x = some (.ref f)) (ha : PA X (e :: es) (tMs X.K Wx ms)) (hdb : (x == ("__debug__" : Str)) = false)
    (he : starEach (e :: es) X.env = (false, eval e X.env) :: starEach es X.env) (hpl : (backTo pos (starEach es X.env)).any (·.1) = false) : PE X (.Call (.Name x p) (e :: es) [] pos) (tM X.K Wx (mcall n m ms)) := by
  refine ⟨fun pins sh sg H Q I ⟨al, s, ws, S, rs, h⟩ => ?_⟩
  obtain ⟨fd, ps, hk, _⟩ := F.ex
  refine wpAny_Call_Name_kw (ld_glob I hg hm ?_ hdb)
  refine PySem.W.callWith_K (h₀ := X.base) I.ok.mod.kin hk ?_ he hpl
  have ht : tMs X.K Wx ms sg H fun vs H1 => ∃ al1 s1 xs, Sim X.K al1 s1 H1 ∧ RWs X.K al1 xs vs ∧ Post X.K Wx al1 sg (PW1 X.K Q) (if xs.length = n then m xs s1 else .no) :=
    ⟨al, s, ws, S, rs, h.bind.imp fun xs al1 s1 H1 p1 S1 h1 vs rv => ⟨al1, s1, xs, S1, rv, h1⟩⟩
  refine thn (ha.run pos pins sh sg H _ I ht) fun us s1 ⟨vs, H1, I1, r, al1, st1, xs, S1, rv, q⟩ => ⟨I1.kIn, ?_⟩
  exact call_q F hr hgu tk I1 r S1 rv q
theorem pm_call0 (F : DefAt X k f n m) (hr : Room k X.A) (hgu : X.A.guards = some []) (tk : Takes X Wx) (hg : Gl X x) (hm : X.mg x = some (.ref f)) (hdb : (x == ("__debug__" : Str)) = false) : PE X (.Call (.Name x p) [] [] pos) (tM X.K Wx (mcall n m mnil)) := by
  refine ⟨fun pins sh sg H Q I ⟨al, s, ws, S, rs, h⟩ => ?_⟩
  obtain ⟨fd, ps, hk, _⟩ := F.ex
  refine wpAny_Call_Name_kw (ld_glob I hg hm ?_ hdb)
  exact PySem.W.callWith_K0 I.kIn hk (call_q (us := []) F hr hgu tk I .nil S .nil h)
end
end Vm

/-! Vm9: assignments; targets; what is walked; for and while. -/
namespace Vm
open PySem PySem.Spec PyProof.Rows L2
/-- a target's meaning: the value, the local names, the store -/
abbrev MG := W → Loc → Sto → R Loc
abbrev MGs := List W → Loc → Sto → R Loc
section
variable (K : PySem.W.Frag) (Wx : WX)
abbrev PL (Q : L2.St → Hp → Prop) : Loc → List Addr → Sto → Hp → Prop := fun ws' al' _ H' => ∀ sg', RSt K al' ws' sg' → Q sg' H'
def tMG (g : MG) : TG := fun v sg H Q => ∃ al s ws w, Sim K al s H ∧ RSt K al ws sg ∧ RW K al w v ∧ Post K Wx al sg (PL K Q) (g w ws s)
def tMGs (g : MGs) : TGs := fun vs sg H Q => ∃ al s ws xs, Sim K al s H ∧ RSt K al ws sg ∧ RWs K al xs vs ∧ Post K Wx al sg (PL K Q) (g xs ws s)
end
section
variable {X : Cx} {Wx : WX} {pos : Pos} {me : ME} {e : Expr} {g : MG} {tg : Expr}
def gname (i : Nat) : MG := fun w ws s => .ok (ws.set i (some w)) s
theorem qg_name {i : Nat} {x : Str} (hN : X.N.Nodup) (hi : X.N[i]? = some x) (hx : L2.Loc X.env.scope x) (hf : X.fn x = true ∨ X.env.scope.names.lookup x = some .local) : PG X (.Name x pos) (tMG X.K Wx (gname i)) := by
  refine ⟨fun pins sh sg H v u Q I r ⟨al, s, ws, w, S, rs, rw', h⟩ => (pg_name hN hi hx hf).run pins sh sg H v u Q I r ?_⟩
  exact h al H (List.prefix_refl _) S _ (rs.set rw' i)
def gnil : MGs := fun xs ws s => match xs with
  | [] => .ok ws s
  | _ => .no
/-- Post's local names at an exception do not matter to a target that keeps promises with any -/
theorem qgs_nil : PGs X [] (tMGs X.K Wx gnil) := by
  refine ⟨fun pins sh sg H vs us Q I r ⟨al, s, ws, xs, S, rs, rw', h⟩ => pgs_nil.run pins sh sg H vs us Q I r ?_⟩
  cases rw' with
  | nil => exact ⟨rfl, h al H (List.prefix_refl _) S _ rs⟩
  | cons _ _ => exact h.elim
end
section
variable {X : Cx} {Wx : WX} {pos : Pos} {me : ME} {e : Expr} {g : MG} {tg : Expr} {gs : MGs} {es : List Expr}
/-- a target in a tuple raises nothing (its own exceptions are not followed) -/
def R.cl {B : Type} (r : R B) : R B := match r with
  | .er _ _ _ => .no
  | r => r
abbrev WxF : WX := fun _ _ _ _ => False
theorem Post.cl {K : PySem.W.Frag} {al : List Addr} {sg sg' : L2.St} {B C : Type} {P : C → List Addr → Sto → Hp → Prop} {r : R B} {f : B → Sto → R C} (h : Post K Wx al sg P (r.cl.bind f)) : Post K WxF al sg' (fun b al' s' _ => Post K Wx al' sg P (f b s')) r := by
  cases r with
  | ok b s => exact fun al2 H2 q S => (show Post K Wx al sg P (f b s) from h).mono q
  | er c d s => exact h.elim
  | no => exact h
def gcons (a : MG) (b : MGs) : MGs := fun xs ws s => match xs with
  | x :: r => (a x ws s).cl.bind fun ws' s' => (b r ws' s').cl
  | [] => .no
theorem Post.cl1 {K : PySem.W.Frag} {al : List Addr} {sg sg' : L2.St} {B : Type} {P : B → List Addr → Sto → Hp → Prop} {r : R B} (h : Post K Wx al sg P r.cl) : Post K Wx al sg' P r := by
  cases r with
  | ok b s => exact h
  | er c d s => exact h.elim
  | no => exact h
theorem qgs_cons (h1 : PG X tg (tMG X.K WxF g)) (h2 : PGs X es (tMGs X.K Wx gs))
    (hs : (assignEach (tg :: es) X.env).map (·.2) = assign tg X.env :: (assignEach es X.env).map (·.2)) : PGs X (tg :: es) (tMGs X.K Wx (gcons g gs)) := by
  refine ⟨fun pins sh sg H vs us Q I r ⟨al, s, ws, xs, S, rs, rw', h⟩ => (pgs_cons h1 h2 hs).run pins sh sg H vs us Q I r ?_⟩
  cases rw' with
  | nil => exact h.elim
  | @cons w v ws' vs' r1 r2 =>
    refine ⟨v, vs', rfl, al, s, ws, w, S, rs, r1, (show Post X.K Wx al sg (PL X.K Q) ((g w ws s).cl.bind fun wz sz => (gs ws' wz sz).cl) from h).cl.imp fun wz al1 s1 H1 p1 S1 h1 sg1 rs1 => ?_⟩
    exact ⟨al1, s1, wz, ws', S1, rs1, r2.mono p1, h1.cl1⟩
def gtup (n : Nat) (gs : MGs) : MG := fun w ws s => match w with
  | .ref k => match s[k]? with
    | some (.tup xs) => if xs.length = n then gs xs ws s else .no
    | _ => .no
  | _ => .no
theorem qg_tup {k n : Nat} (hc : X.calm = true) (h : PGs X es (tMGs X.K Wx gs)) (hn : (assignEach es X.env).length = n) (hst : (assignEach es X.env).findIdx? (·.1) = none) : PG X (.Tuple es k pos) (tMG X.K Wx (gtup n gs)) := by
  refine ⟨fun pins sh sg H v u Q I r ⟨al, s, ws, w, S, rs, rw', h'⟩ => (pg_tup hc h hn hst).run pins sh sg H v u Q I r ?_⟩
  unfold gtup at h'
  split at h'
  · split at h'
    · rename_i m k xs e
      split at h'
      · rename_i hl
        obtain ⟨a, ha, rfl⟩ := rw'
        obtain ⟨c, h1, vs, rv, q⟩ := S.get e
        rw [ha] at h1; cases h1
        exact ⟨a, vs, rfl, q, by rw [← rv.length]; exact hl, al, s, ws, xs, S, rs, rv, h'⟩
      · exact h'.elim
    · exact h'.elim
  · exact h'.elim
/-- name = value -/
def sset (i : Nat) (m : ME) : MS := fun ws s => (m ws s).toS ws fun w s' => .nx (ws.set i (some w)) s'
theorem q_set {i : Nat} {x : Str} {p : Pos} (hN : X.N.Nodup) (hi : X.N[i]? = some x) (hx : L2.Loc X.env.scope x) (he : PE X e (tM X.K Wx me)) (hs : swapsWith e (some (.Name x p)) pos.line X.env = pure false) (hf : X.fn x = true ∨ X.env.scope.names.lookup x = some .local) :
    PS X (.Assign [.Name x p] e pos) (tMS X.K Wx (sset i me)) := by
  refine ⟨fun pins sh sg H D I ⟨al, s, ws, S, rs, h⟩ => (ps_set hN hi hx he hs hf).run pins sh sg H D I ?_⟩
  exact ⟨al, s, ws, S, rs, (PostS.expr h rs).imp fun w al1 s1 H1 p1 S1 h1 v rv => h1 al1 H1 _ (List.prefix_refl _) S1 ((rs.mono p1).set rv i)⟩
/-- target = value -/
def sasg (m : ME) (g : MG) : MS := fun ws s => (m ws s).toS ws fun w s' => (g w ws s').toS ws fun ws' s'' => .nx ws' s''
theorem q_asg (he : PE X e (tM X.K Wx me)) (hg : PG X tg (tMG X.K Wx g)) (hs : swapsWithSole [tg] e pos.line X.env = pure false) (hw : swappedStores [tg] e X.env = pure none)
    (h1 : (assignEach [tg] X.env).map (·.2) = [assign tg X.env]) : PS X (.Assign [tg] e pos) (tMS X.K Wx (sasg me g)) := by
  refine ⟨fun pins sh sg H D I ⟨al, s, ws, S, rs, h⟩ => (ps_asg he hg hs hw h1).run pins sh sg H D I ?_⟩
  refine ⟨al, s, ws, S, rs, (PostS.expr h rs).imp fun w al1 s1 H1 p1 S1 h1 v rv => ?_⟩
  exact ⟨al1, s1, ws, w, S1, rs.mono p1, rv, (PostS.expr h1 (rs.mono p1)).imp fun ws' al2 s2 H2 p2 S2 h2 sg' rs' => h2 al2 H2 sg' (List.prefix_refl _) S2 rs'⟩
/-- a, b = x, y -/
def spar (is : List Nat) (m : MA) : MS := fun ws s => (m ws s).toS ws fun xs s' => if xs.length = is.length then .nx ((is.zip xs).foldl (fun z p => z.set p.1 (some p.2)) ws) s' else .no
theorem q_par {i j : Nat} {x y : Str} {a b : Expr} {ma : MA} {px py pt : Pos} {kt k2 pt2} (hc : X.calm = true) (hN : X.N.Nodup) (hi : X.N[i]? = some x) (hj : X.N[j]? = some y) (hij : i ≠ j)
    (hx : X.env.scope.names.lookup x = some .local) (hy : X.env.scope.names.lookup y = some .local) (ha : PA X [a, b] (tMs X.K Wx ma))
    (hw : swappedStores [.Tuple [.Name x px, .Name y py] kt pt] (.Tuple [a, b] k2 pt2) X.env = pure (some [x, y]))
    (hs : swapsWithSole [.Tuple [.Name x px, .Name y py] kt pt] (.Tuple [a, b] k2 pt2) pos.line X.env = pure false) :
    PS X (.Assign [.Tuple [.Name x px, .Name y py] kt pt] (.Tuple [a, b] k2 pt2) pos) (tMS X.K Wx (spar [i, j] ma)) := by
  refine ⟨fun pins sh sg H D I ⟨al, s, ws, S, rs, h⟩ => (ps_par hc hN hi hj hij hx hy ha hw hs).run pins sh sg H D I ?_⟩
  refine ⟨al, s, ws, S, rs, (PostS.expr h rs).imp fun xs al1 s1 H1 p1 S1 h1 vs rv => ?_⟩
  split at h1
  · rename_i hl
    obtain ⟨w1, w2, rfl⟩ : ∃ w1 w2, xs = [w1, w2] := by
      match xs, hl with
      | [p, q], _ => exact ⟨p, q, rfl⟩
    obtain ⟨v, u, rfl, r1, r2⟩ := rv.inv2
    exact ⟨v, u, rfl, h1 al1 H1 _ (List.prefix_refl _) S1 (((rs.mono p1).set r1 i).set r2 j)⟩
  · exact h1.elim
theorem RWs.inv3 {K : PySem.W.Frag} {al : List Addr} {w w' w'' : W} {vs : List V} (r : RWs K al [w, w', w''] vs) : ∃ v v' v'', vs = [v, v', v''] ∧ RW K al w v ∧ RW K al w' v' ∧ RW K al w'' v'' := by
  cases r with
  | cons a t =>
    obtain ⟨v', v'', e, b, c⟩ := t.inv2
    subst e
    exact ⟨_, _, _, rfl, a, b, c⟩
theorem q_par3 {i j l : Nat} {x y z : Str} {a b c : Expr} {ma : MA} {px py pz pt pos : Pos} {kt k2 pt2} (hc : X.calm = true) (hN : X.N.Nodup) (hi : X.N[i]? = some x) (hj : X.N[j]? = some y) (hl : X.N[l]? = some z) (hij : i ≠ j) (hil : i ≠ l) (hjl : j ≠ l)
    (hx : X.env.scope.names.lookup x = some .local) (hy : X.env.scope.names.lookup y = some .local) (hz : X.env.scope.names.lookup z = some .local) (ha : PA X [a, b, c] (tMs X.K Wx ma))
    (hw : swappedStores [.Tuple [.Name x px, .Name y py, .Name z pz] kt pt] (.Tuple [a, b, c] k2 pt2) X.env = pure (some [x, y, z]))
    (hs : swapsWithSole [.Tuple [.Name x px, .Name y py, .Name z pz] kt pt] (.Tuple [a, b, c] k2 pt2) pos.line X.env = pure false) :
    PS X (.Assign [.Tuple [.Name x px, .Name y py, .Name z pz] kt pt] (.Tuple [a, b, c] k2 pt2) pos) (tMS X.K Wx (spar [i, j, l] ma)) := by
  refine ⟨fun pins sh sg H D I ⟨al, s, ws, S, rs, h⟩ => (ps_par3 hc hN hi hj hl hij hil hjl hx hy hz ha hw hs).run pins sh sg H D I ?_⟩
  refine ⟨al, s, ws, S, rs, (PostS.expr h rs).imp fun xs al1 s1 H1 p1 S1 h1 vs rv => ?_⟩
  split at h1
  · rename_i hl
    obtain ⟨w1, w2, w3, rfl⟩ : ∃ w1 w2 w3, xs = [w1, w2, w3] := by
      match xs, hl with
      | [p, q, r], _ => exact ⟨p, q, r, rfl⟩
    obtain ⟨v, u, t, rfl, r1, r2, r3⟩ := rv.inv3
    exact ⟨v, u, t, rfl, h1 al1 H1 _ (List.prefix_refl _) S1 ((((rs.mono p1).set r1 i).set r2 j).set r3 l)⟩
  · exact h1.elim
end

/-! ### what is walked -/
/-- at turn i: nothing is known; it stops; it yields -/
abbrev Nx := Nat → Sto → Option (Option (W × Sto))
structure ItR (K : PySem.W.Frag) (al : List Addr) (nx : Nx) (J : It) : Prop where
  stop : ∀ (i : Nat) (s : Sto) (H : Hp) (al' : List Addr), al <+: al' → Sim K al' s H → nx i s = some none → J.stop i H
  go : ∀ (i : Nat) (s s' : Sto) (H : Hp) (al' : List Addr) (w : W), al <+: al' → Sim K al' s H → nx i s = some (some (w, s')) → J.go i H ∧ ∀ x H', J.yld i H x H' → ∃ al2, al' <+: al2 ∧ Sim K al2 s' H' ∧ RW K al2 w x
abbrev MI := Loc → Sto → R Nx
def tMI (K : PySem.W.Frag) (Wx : WX) (mi : MI) : TI := fun sg H Rr => ∃ al s ws, Sim K al s H ∧ RSt K al ws sg ∧ Post K Wx al sg (fun nx al' _ H' => ∀ J, ItR K al' nx J → Rr J H') (mi ws s)
/-- a list, a tuple (as they stand at each turn); a text; a range -/
def nxL (k : Nat) : Nx := fun i s => match s[k]? with
  | some (.lst xs) => some (xs[i]?.map fun w => (w, s))
  | some (.cst xs) => some (xs[i]?.map fun w => (w, s))
  | _ => none
def nxT (k : Nat) : Nx := fun i s => match s[k]? with
  | some (.tup xs) => some (xs[i]?.map fun w => (w, s))
  | _ => none
def nxStr (x : Str) : Nx := fun i s => some (x.cps[i]?.map fun c => (.str ⟨#[c]⟩, s))
def nxRng (lo c : Int) (n : Nat) : Nx := fun i s => if i < n then some (some (.int (lo + i * c), s)) else some none
def nxOf : W → Sto → Option Nx
  | .ref k, s => match s[k]? with
    | some (.lst _) => some (nxL k)
    | some (.cst _) => some (nxL k)
    | some (.tup _) => some (nxT k)
    | _ => none
  | .str x, _ => some (nxStr x)
  | _, _ => none
/-- for .. in a value -/
def mival (m : ME) : MI := fun ws s => (m ws s).bind fun w s => match nxOf w s with
  | some nx => .ok nx s
  | none => .no
section
variable {K : PySem.W.Frag} {al : List Addr}
theorem lstAt_sq {k : Nat} {s : Sto} {H : Hp} {o : O} {xs : List W} {a : Addr} (S : Sim K al s H) (e : s[k]? = some o) (ho : o = .lst xs ∨ o = .cst xs) (ha : al[k]? = some a) : ∃ vs, RWs K al xs vs ∧ SqL K H a vs := by
  obtain ⟨c, h1, q⟩ := S.get e
  rw [ha] at h1; cases h1
  rcases ho with rfl | rfl
  · obtain ⟨vs, rv, q⟩ := q; exact ⟨vs, rv, .inl (.inl q)⟩
  · obtain ⟨vs, rv, q⟩ := q; exact ⟨vs, rv, q⟩
theorem RWs.none_of {ws : List W} {vs : List V} (r : RWs K al ws vs) {i : Nat} (e : ws[i]? = none) : vs.length ≤ i := by
  rw [← r.length]; exact List.getElem?_eq_none_iff.mp e
end
section
variable {K : PySem.W.Frag} {al : List Addr}
theorem nxL_inv {k i : Nat} {s : Sto} {r : Option (W × Sto)} (e : nxL k i s = some r) : ∃ o xs, s[k]? = some o ∧ (o = .lst xs ∨ o = .cst xs) ∧ r = xs[i]?.map fun w => (w, s) := by
  unfold nxL at e
  split at e
  · rename_i xs h; exact ⟨_, xs, h, .inl rfl, (Option.some.inj e).symm⟩
  · rename_i xs h; exact ⟨_, xs, h, .inr rfl, (Option.some.inj e).symm⟩
  · cases e
theorem nxT_inv {k i : Nat} {s : Sto} {r : Option (W × Sto)} (e : nxT k i s = some r) : ∃ xs, s[k]? = some (.tup xs) ∧ r = xs[i]?.map fun w => (w, s) := by
  unfold nxT at e
  split at e
  · rename_i xs h; exact ⟨xs, h, (Option.some.inj e).symm⟩
  · cases e
theorem itr_L {k : Nat} {a : Addr} (ha : al[k]? = some a) : ItR K al (nxL k) (Itl K a) where
  stop := fun i s H al' p S e => by
    obtain ⟨o, xs, h, ho, er⟩ := nxL_inv e
    obtain ⟨vs, rv, q⟩ := lstAt_sq S h ho (pre_get p ha)
    exact ⟨vs, q, rv.none_of (by cases hx : xs[i]? <;> simp [hx] at er ⊢)⟩
  go := fun i s s' H al' w p S e => by
    obtain ⟨o, xs, h, ho, er⟩ := nxL_inv e
    obtain ⟨vs, rv, q⟩ := lstAt_sq S h ho (pre_get p ha)
    cases hx : xs[i]? with
    | none => rw [hx] at er; cases er
    | some w' =>
      rw [hx] at er
      simp only [Option.map_some, Option.some.injEq, Prod.mk.injEq] at er
      obtain ⟨rfl, rfl⟩ := er
      obtain ⟨v, hv, r⟩ := rv.get hx
      refine ⟨⟨vs, v, q, hv⟩, fun x H' ⟨e1, y⟩ => ?_⟩
      subst e1
      have := y vs q
      rw [hv] at this; cases this
      exact ⟨al', List.prefix_refl _, S, r⟩
theorem itr_T {k : Nat} {a : Addr} (ha : al[k]? = some a) : ItR K al (nxT k) (Itt K a) where
  stop := fun i s H al' p S e => by
    obtain ⟨xs, h, er⟩ := nxT_inv e
    obtain ⟨c, h1, vs, rv, q⟩ := S.get h
    rw [pre_get p ha] at h1; cases h1
    exact ⟨vs, q, rv.none_of (by cases hx : xs[i]? <;> simp [hx] at er ⊢)⟩
  go := fun i s s' H al' w p S e => by
    obtain ⟨xs, h, er⟩ := nxT_inv e
    obtain ⟨c, h1, vs, rv, q⟩ := S.get h
    rw [pre_get p ha] at h1; cases h1
    cases hx : xs[i]? with
    | none => rw [hx] at er; cases er
    | some w' =>
      rw [hx] at er
      simp only [Option.map_some, Option.some.injEq, Prod.mk.injEq] at er
      obtain ⟨rfl, rfl⟩ := er
      obtain ⟨v, hv, r⟩ := rv.get hx
      refine ⟨⟨vs, v, q, hv⟩, fun x H' ⟨e1, y⟩ => ?_⟩
      subst e1
      have := y vs q
      rw [hv] at this; cases this
      exact ⟨al', List.prefix_refl _, S, r⟩
theorem itr_S {x : Str} : ItR K al (nxStr x) (Its x) where
  stop := fun i s H al' p S e => by
    unfold nxStr at e
    cases hx : x.cps[i]? with
    | none => exact Array.getElem?_eq_none_iff.mp hx
    | some c => rw [hx] at e; cases e
  go := fun i s s' H al' w p S e => by
    unfold nxStr at e
    cases hx : x.cps[i]? with
    | none => rw [hx] at e; cases e
    | some c =>
      rw [hx] at e
      simp only [Option.map_some, Option.some.injEq, Prod.mk.injEq] at e
      obtain ⟨rfl, rfl⟩ := e
      refine ⟨(Array.getElem?_eq_some_iff.mp hx).1, fun y H' ⟨e1, c', hc, ey⟩ => ?_⟩
      subst e1
      rw [hx] at hc; cases hc
      exact ⟨al', List.prefix_refl _, S, ey⟩
theorem itr_R {lo : Int} {n : Nat} : ItR K al (nxRng lo 1 n) (Itr lo n) where
  stop := fun i s H al' p S e => by
    unfold nxRng at e
    split at e
    · cases e
    · show n ≤ i; omega
  go := fun i s s' H al' w p S e => by
    unfold nxRng at e
    split at e
    · rename_i hi
      cases e
      refine ⟨hi, fun y H' ⟨e1, ey⟩ => ?_⟩
      subst e1
      exact ⟨al', List.prefix_refl _, S, by rw [ey, Int.mul_one]; rfl⟩
    · cases e
theorem itr_C {lo c : Int} {n : Nat} : ItR K al (nxRng lo c n) (Itc lo c n) where
  stop := fun i s H al' p S e => by
    unfold nxRng at e
    split at e
    · cases e
    · show n ≤ i; omega
  go := fun i s s' H al' w p S e => by
    unfold nxRng at e
    split at e
    · rename_i hi
      cases e
      refine ⟨hi, fun y H' ⟨e1, ey⟩ => ?_⟩
      subst e1
      exact ⟨al', List.prefix_refl _, S, ey⟩
    · cases e
end

section
variable {X : Cx} {Wx : WX} {pos p : Pos} {me : ME} {e tg : Expr} {ms : MA}
theorem qi_val (he : PE X e (tM X.K Wx me)) : PI X tg e (tMI X.K Wx (mival me)) := by
  refine ⟨fun pins sh sg H Q I ⟨al, s, ws, S, rs, h⟩ => ?_⟩
  unfold mival at h
  cases hm : me ws s with
  | no => rw [hm] at h; exact h.elim
  | er c d s1 =>
    rw [hm] at h
    exact (pi_list he).run pins sh sg H Q I ⟨al, s, ws, S, rs, by rw [hm]; exact h⟩
  | ok w s1 =>
    rw [hm] at h
    replace h : Post X.K Wx al sg _ (match nxOf w s1 with | some nx => R.ok nx s1 | none => .no) := h
    cases hn : nxOf w s1 with
    | none => rw [hn] at h; exact h.elim
    | some nx =>
      rw [hn] at h
      replace h : ∀ (al' : List Addr) (H' : Hp), al <+: al' → Sim X.K al' s1 H' → ∀ J, ItR X.K al' nx J → Q J H' := h
      unfold nxOf at hn
      split at hn
      · rename_i k s2
        split at hn
        · rename_i xs es
          cases hn
          refine (pi_list he).run pins sh sg H Q I ⟨al, s, ws, S, rs, ?_⟩
          rw [hm]
          intro al' H' q S' v ⟨a, ha, ev⟩
          obtain ⟨vs, rv, sq⟩ := lstAt_sq S' es (.inl rfl) ha
          exact ⟨a, ev, ⟨vs, sq⟩, h al' H' q S' _ (itr_L ha)⟩
        · rename_i xs es
          cases hn
          refine (pi_list he).run pins sh sg H Q I ⟨al, s, ws, S, rs, ?_⟩
          rw [hm]
          intro al' H' q S' v ⟨a, ha, ev⟩
          obtain ⟨vs, rv, sq⟩ := lstAt_sq S' es (.inr rfl) ha
          exact ⟨a, ev, ⟨vs, sq⟩, h al' H' q S' _ (itr_L ha)⟩
        · rename_i xs es
          cases hn
          refine (pi_tup he).run pins sh sg H Q I ⟨al, s, ws, S, rs, ?_⟩
          rw [hm]
          intro al' H' q S' v ⟨a, ha, ev⟩
          obtain ⟨c, h1, vs, rv, sq⟩ := S'.get es
          rw [ha] at h1; cases h1
          exact ⟨a, ev, ⟨vs, sq⟩, h al' H' q S' _ (itr_T ha)⟩
        · cases hn
      · rename_i s2 x
        cases hn
        refine (pi_str he).run pins sh sg H Q I ⟨al, s, ws, S, rs, ?_⟩
        rw [hm]
        intro al' H' q S' v rv
        exact ⟨x, rv, h al' H' q S' _ itr_S⟩
      · cases hn
/-- range(..) -/
def sml (i : Int) : Prop := -4611686018427387904 ≤ i ∧ i < 4611686018427387904
instance (i : Int) : Decidable (sml i) := inferInstanceAs (Decidable (_ ∧ _))
def mirng1 (m : MA) : MI := fun ws s => (m ws s).bind fun xs s => match xs with
  | [.int j] => if sml j then .ok (nxRng 0 1 j.toNat) s else .no
  | _ => .no
def mirng2 (m : MA) : MI := fun ws s => (m ws s).bind fun xs s => match xs with
  | [.int i, .int j] => if sml i ∧ sml j then .ok (nxRng i 1 (j - i).toNat) s else .no
  | _ => .no
def mirng3 (m : MA) : MI := fun ws s => (m ws s).bind fun xs s => match xs with
  | [.int i, .int j, .int c] => if sml i ∧ sml j ∧ c = -1 then .ok (nxRng i (-1) (i - j).toNat) s else .no
  | _ => .no
theorem qi_range1 {a : Expr} (hg : Gl X "range") (hm : X.mg "range" = none) (ha : PA X [a] (tMs X.K Wx ms)) (hs : starEach [a] X.env = [(false, eval a X.env)]) : PI X tg (.Call (.Name "range" p) [a] [] pos) (tMI X.K Wx (mirng1 ms)) := by
  refine ⟨fun pins sh sg H Q I ⟨al, s, ws, S, rs, h⟩ => (pi_range1 hg hm ha hs).run pins sh sg H Q I ⟨al, s, ws, S, rs, h.bind.imp fun xs al1 s1 H1 p1 S1 h1 vs rv => ?_⟩⟩
  split at h1
  · rename_i j
    split at h1
    · rename_i hj
      obtain ⟨v, rfl, r⟩ := rv.inv1
      cases r
      exact ⟨j, rfl, by have := hj.1; omega, by have := hj.2; omega, h1 al1 H1 (List.prefix_refl _) S1 _ itr_R⟩
    · exact h1.elim
  · exact h1.elim
theorem qi_range2 {a b : Expr} (hg : Gl X "range") (hm : X.mg "range" = none) (ha : PA X [a, b] (tMs X.K Wx ms)) (hs : starEach [a, b] X.env = [(false, eval a X.env), (false, eval b X.env)]) (hs2 : starEach [b] X.env = [(false, eval b X.env)]) : PI X tg (.Call (.Name "range" p) [a, b] [] pos) (tMI X.K Wx (mirng2 ms)) := by
  refine ⟨fun pins sh sg H Q I ⟨al, s, ws, S, rs, h⟩ => (pi_range2 hg hm ha hs hs2).run pins sh sg H Q I ⟨al, s, ws, S, rs, h.bind.imp fun xs al1 s1 H1 p1 S1 h1 vs rv => ?_⟩⟩
  split at h1
  · rename_i i j
    split at h1
    · rename_i hj
      obtain ⟨v, u, rfl, r, r'⟩ := rv.inv2
      cases r
      cases r'
      exact ⟨i, j, rfl, by have := hj.1.1; have := hj.1.2; have := hj.2.1; have := hj.2.2; omega, h1 al1 H1 (List.prefix_refl _) S1 _ itr_R⟩
    · exact h1.elim
  · exact h1.elim
theorem qi_range3 {a b c : Expr} (hg : Gl X "range") (hm : X.mg "range" = none) (ha : PA X [a, b, c] (tMs X.K Wx ms)) (hs : starEach [a, b, c] X.env = (false, eval a X.env) :: starEach [b, c] X.env) (hpl : (backTo pos (starEach [b, c] X.env)).any (·.1) = false) :
    PI X tg (.Call (.Name "range" p) [a, b, c] [] pos) (tMI X.K Wx (mirng3 ms)) := by
  refine ⟨fun pins sh sg H Q I ⟨al, s, ws, S, rs, h⟩ => (pi_range3 hg hm ha hs hpl).run pins sh sg H Q I ⟨al, s, ws, S, rs, h.bind.imp fun xs al1 s1 H1 p1 S1 h1 vs rv => ?_⟩⟩
  split at h1
  · rename_i i j c
    split at h1
    · rename_i hj
      obtain ⟨⟨h2, h3⟩, ⟨h4, h5⟩, rfl⟩ := hj
      obtain ⟨v, u, t, rfl, r, r', r''⟩ := rv.inv3
      cases r
      cases r'
      cases r''
      exact ⟨i, j, -1, _, rfl, RgC.neg (by omega) (by omega) (by omega) (by omega), h1 al1 H1 (List.prefix_refl _) S1 _ itr_C⟩
    · exact h1.elim
  · exact h1.elim
end

/-! ### for, while -/
/-- the turns that a loop may take; more than any loop of a program takes -/
@[irreducible] def fuelN : Nat := 2 ^ 200
/-- behind a turn's body -/
def RS.turn (r : RS) (again : MS) : RS := match r with
  | .nx ws s => again ws s
  | .ct ws s => again ws s
  | .bk ws s => .nx ws s
  | r => r
def loopF (nx : Nx) (g : MG) (b : MS) : Nat → Nat → MS
  | 0, _ => fun _ _ => .no
  | f + 1, i => fun ws s => match nx i s with
    | none => .no
    | some none => .nx ws s
    | some (some (w, s1)) => (g w ws s1).toS ws fun ws2 s2 => (b ws2 s2).turn (loopF nx g b f (i + 1))
def sfor (mi : MI) (g : MG) (b : MS) : MS := fun ws s => (mi ws s).toS ws fun nx s1 => loopF nx g b fuelN 0 ws s1
def loopW (c : MT) (b : MS) : Nat → MS
  | 0 => fun _ _ => .no
  | f + 1 => fun ws s => (c ws s).toS ws fun k s1 => if k = true then (b ws s1).turn (loopW c b f) else .nx ws s1
def swhile (c : MT) (b : MS) : MS := loopW c b fuelN
section
variable {K : PySem.W.Frag} {Wx : WX} {al : List Addr} {D : Ends}
theorem PostS.turn {r : RS} {again : MS} (h : PostS K Wx al D (r.turn again)) (N : L2.St → Hp → Prop) (hN : ∀ al' s ws sg H, al <+: al' → Sim K al' s H → RSt K al' ws sg → PostS K Wx al' D (again ws s) → N sg H) :
    PostS K Wx al { D with nx := N, ct := N, bk := D.nx } r := by
  cases r with
  | nx ws s => exact fun al2 H2 sg q S rs => hN al2 s ws sg H2 q S rs ((show PostS K Wx al D (again ws s) from h).mono q)
  | ct ws s => exact fun al2 H2 sg q S rs => hN al2 s ws sg H2 q S rs ((show PostS K Wx al D (again ws s) from h).mono q)
  | _ => exact h
end
section
variable {X : Cx} {Wx : WX} {pos : Pos} {tg iter c : Expr} {body : List Stmt} {mi : MI} {g : MG} {b : MS} {mt : MT}
theorem q_for (hp : PassesOwn (model X.prog X.w) X.A X.env X.xe) (hc : X.calm = true) (hi : PI X tg iter (tMI X.K Wx mi)) (hg : PG X tg (tMG X.K Wx g)) (hb : PSs X body (tMS X.K Wx b)) (hs : ∀ x, foldedSetIterable iter X.env x = pure x) :
    PS X (.For tg iter body [] pos) (tMS X.K Wx (sfor mi g b)) := by
  refine ⟨fun pins sh sg H D I ⟨al, s, ws, S, rs, h⟩ => (ps_for hp hc hi hg hb hs).run pins sh sg H D I ?_⟩
  refine ⟨al, s, ws, S, rs, (PostS.expr h rs).imp fun nx al1 s1 H1 p1 S1 h1 J hJ => ?_⟩
  refine ⟨fun i m sg' H' => ∃ al' s' ws', al1 <+: al' ∧ Sim X.K al' s' H' ∧ RSt X.K al' ws' sg' ∧ PostS X.K Wx al' D (loopF nx g b m i ws' s'), ⟨fuelN, al1, s1, ws, List.prefix_refl _, S1, rs.mono p1, h1⟩, ?_⟩
  rintro i m sg' H' ⟨al', s', ws', p, S', rs', q⟩
  cases m with
  | zero => exact q.elim
  | succ m =>
    unfold loopF at q
    split at q
    · exact q.elim
    · rename_i e
      exact .inl ⟨hJ.stop i s' H' al' p S' e, q al' H' sg' (List.prefix_refl _) S' rs'⟩
    · rename_i w s2 e
      obtain ⟨go, yl⟩ := hJ.go i s' s2 H' al' w p S' e
      refine .inr ⟨go, fun sg2 H2 => ∃ al2 s2 ws2, al1 <+: al2 ∧ Sim X.K al2 s2 H2 ∧ RSt X.K al2 ws2 sg2 ∧ PostS X.K Wx al2 D (loopF nx g b m (i + 1) ws2 s2), fun sg2 H2 z => ⟨m, Nat.lt_succ_self m, z⟩, fun x H2 y => ?_⟩
      obtain ⟨al2, p2, S2, rx⟩ := yl x H2 y
      refine ⟨al2, s2, ws', w, S2, rs'.mono p2, rx, (PostS.expr (q.mono p2) (rs'.mono p2)).imp fun ws3 al3 s3 H3 p3 S3 h3 sg3 rs3 => ?_⟩
      exact ⟨al3, s3, ws3, S3, rs3, h3.turn _ fun al4 s4 ws4 sg4 H4 p4 S4 rs4 h4 => ⟨al4, s4, ws4, p.trans (p2.trans (p3.trans p4)), S4, rs4, h4⟩⟩
theorem q_while (hp : PassesOwn (model X.prog X.w) X.A X.env X.xe) (hc : PT X c (tMt X.K Wx mt)) (hb : PSs X body (tMS X.K Wx b)) : PS X (.While c body [] pos) (tMS X.K Wx (swhile mt b)) := by
  refine ⟨fun pins sh sg H D I ⟨al, s, ws, S, rs, h⟩ => (ps_while hp hc hb).run pins sh sg H D I ?_⟩
  refine ⟨fun m sg' H' => ∃ al' s' ws', al <+: al' ∧ Sim X.K al' s' H' ∧ RSt X.K al' ws' sg' ∧ PostS X.K Wx al' D (loopW mt b m ws' s'), ⟨fuelN, al, s, ws, List.prefix_refl _, S, rs, h⟩, ?_⟩
  rintro m sg' H' ⟨al', s', ws', p, S', rs', q⟩
  cases m with
  | zero => exact q.elim
  | succ m =>
    unfold loopW at q
    refine ⟨al', s', ws', S', rs', (PostS.expr q rs').imp fun k al2 s2 H2 p2 S2 h2 => ?_⟩
    cases k with
    | true =>
      rw [if_pos rfl] at h2 ⊢
      refine ⟨fun sg3 H3 => ∃ al3 s3 ws3, al <+: al3 ∧ Sim X.K al3 s3 H3 ∧ RSt X.K al3 ws3 sg3 ∧ PostS X.K Wx al3 D (loopW mt b m ws3 s3), fun sg3 H3 z => ⟨m, Nat.lt_succ_self m, z⟩, ?_⟩
      exact ⟨al2, s2, ws', S2, rs'.mono p2, h2.turn _ fun al3 s3 ws3 sg3 H3 p3 S3 rs3 h3 => ⟨al3, s3, ws3, p.trans (p2.trans p3), S3, rs3, h3⟩⟩
    | false =>
      rw [if_neg Bool.false_ne_true] at h2 ⊢
      exact h2 al2 H2 sg' (List.prefix_refl _) S2 (rs'.mono p2)
end
end Vm

/-! Vm10: list comprehensions. -/
namespace Vm
open PySem PySem.Spec PyProof.Rows L2
/-- a comprehension's target: a name, a tuple of names, by their slots -/
inductive Tgt where
  | nm (i : Nat) | tp (is : List Nat)
def gNames : List Nat → TGs
  | [] => gNil
  | i :: r => gCons (gName i) (gNames r)
def Tgt.g (K : PySem.W.Frag) : Tgt → TG
  | .nm i => gName i
  | .tp is => gTup K is.length (gNames is)
def Tgt.sub (vs : List Nat) : Tgt → Bool
  | .nm i => vs.contains i
  | .tp is => is.all vs.contains
def wipeW (ws : Loc) : List Nat → Loc
  | [] => ws
  | v :: vs => (wipeW ws vs).set v none
def setN : List Nat → List W → Loc → Loc
  | i :: is, x :: xs, ws => setN is xs (ws.set i (some x))
  | _, _, ws => ws
def Tgt.put (t : Tgt) (w : W) (ws : Loc) (s : Sto) : Option Loc := match t with
  | .nm i => some (ws.set i (some w))
  | .tp is => match tupAt' w s with
    | some xs => if xs.length = is.length then some (setN is xs ws) else none
    | none => none
where tupAt' (w : W) (s : Sto) : Option (List W) := match w with
  | .ref k => match s[k]? with
    | some (.tup xs) => some xs
    | _ => none
  | _ => none
section
variable {K : PySem.W.Frag} {al : List Addr}
theorem wipe_at (σ : L2.St) (i : Nat) : ∀ vs : List Nat, (L2.wipe σ vs)[i]? = if i ∈ vs then σ[i]?.map (fun _ => none) else σ[i]?
  | [] => by simp [L2.wipe]
  | v :: vs => by
    have ih := wipe_at σ i vs
    have hl := L2.wipe_length σ vs
    unfold L2.wipe
    by_cases hv : v = i
    · subst hv
      by_cases h : v < σ.length
      · rw [List.getElem?_set_self (by omega)]; simp [h]
      · rw [List.getElem?_eq_none (by simp; omega)]; simp [List.getElem?_eq_none (by omega : σ.length ≤ v)]
    · rw [List.getElem?_set_ne hv, ih]
      have : ¬ i = v := fun e => hv e.symm
      simp [this]
theorem wipe_setv {σ : L2.St} {vs : List Nat} {i : Nat} {x : Option V} (h : i ∈ vs) (σ2 : L2.St) (e : L2.wipe σ2 vs = L2.wipe σ vs) : L2.wipe (σ2.set i x) vs = L2.wipe σ vs := by
  rw [← e]
  apply List.ext_getElem?
  intro j
  rw [wipe_at, wipe_at]
  by_cases hj : j ∈ vs
  · rw [if_pos hj, if_pos hj]
    by_cases hij : i = j
    · subst hij
      by_cases hl : i < σ2.length
      · rw [List.getElem?_set_self hl, List.getElem?_eq_getElem hl]; rfl
      · rw [List.getElem?_eq_none (by simp; omega), List.getElem?_eq_none (by omega)]
    · rw [List.getElem?_set_ne hij]
  · rw [if_neg hj, if_neg hj, List.getElem?_set_ne (by intro e; subst e; exact hj h)]
theorem wipe_idem (σ : L2.St) (vs : List Nat) : L2.wipe (L2.wipe σ vs) vs = L2.wipe σ vs := by
  apply List.ext_getElem?
  intro j
  rw [wipe_at, wipe_at]
  by_cases hj : j ∈ vs
  · rw [if_pos hj, if_pos hj]; cases σ[j]? <;> rfl
  · rw [if_neg hj, if_neg hj]
theorem RSt.wipe {ws : Loc} {σ : L2.St} (r : RSt K al ws σ) : ∀ vs : List Nat, RSt K al (wipeW ws vs) (L2.wipe σ vs)
  | [] => r
  | v :: vs => (RSt.wipe r vs).clear v none
theorem gNames_ok {Q : L2.St → Hp → Prop} {σ0 : L2.St} {vs : List Nat} {H : Hp} : ∀ {is : List Nat} {xs : List W} {us : List V} {ws : Loc} {σ2 : L2.St}, is.all vs.contains = true → xs.length = is.length → RWs K al xs us → RSt K al ws σ2 → L2.wipe σ2 vs = L2.wipe σ0 vs →
    (∀ σ3, RSt K al (setN is xs ws) σ3 → L2.wipe σ3 vs = L2.wipe σ0 vs → Q σ3 H) → gNames is us σ2 H Q
  | [], [], _, ws, σ2, _, _, r, rs, e, h => by
    cases r
    exact ⟨rfl, h σ2 rs e⟩
  | i :: is, x :: xs, _, ws, σ2, hs, hl, r, rs, e, h => by
    cases r with
    | @cons _ v _ us' r1 r2 =>
      simp only [List.all_cons, Bool.and_eq_true, List.contains_iff_mem] at hs
      refine ⟨v, us', rfl, ?_⟩
      exact gNames_ok (by simpa using hs.2) (by simpa using hl) r2 (rs.set r1 i) (wipe_setv hs.1 σ2 e) h
  | [], x :: xs, _, _, _, _, hl, _, _, _, _ => by simp at hl
  | i :: is, [], _, _, _, _, hl, _, _, _, _ => by simp at hl
theorem Tgt.put_ok {t : Tgt} {Q : L2.St → Hp → Prop} {σ0 : L2.St} {vs : List Nat} {s : Sto} {H : Hp} {w : W} {x : V} {ws ws2 : Loc} {σ : L2.St} (hs : t.sub vs = true) (S : Sim K al s H) (r : RW K al w x) (rs : RSt K al ws σ) (e : L2.wipe σ vs = L2.wipe σ0 vs) (hp : t.put w ws s = some ws2)
    (h : ∀ σ3, RSt K al ws2 σ3 → L2.wipe σ3 vs = L2.wipe σ0 vs → Q σ3 H) : t.g K x σ H Q := by
  cases t with
  | nm i =>
    cases hp
    have hs' : i ∈ vs := by simpa [Tgt.sub] using hs
    exact h _ (rs.set r i) (wipe_setv hs' σ e)
  | tp is =>
    unfold Tgt.put at hp
    split at hp
    · rename_i _ is' ei
      cases ei
    · rename_i is' ei
      cases ei
      split at hp
      · rename_i xs ex
        split at hp
        · rename_i hl
          cases hp
          unfold Tgt.put.tupAt' at ex
          split at ex
          · rename_i k
            split at ex
            · rename_i ys ek
              cases ex
              obtain ⟨a, ha, rfl⟩ := r
              obtain ⟨c, h1, us, rv, q⟩ := S.get ek
              rw [ha] at h1; cases h1
              exact ⟨a, us, rfl, q, by rw [← rv.length]; exact hl, gNames_ok hs hl rv rs e h⟩
            · cases ex
          · cases ex
        · cases hp
      · cases hp
end

/-! ### [e for t in it if c] -/
def loopC (nx : Nx) (t : Tgt) (c : MT) (e : ME) (ws : Loc) (d : Nat) : Nat → Nat → Sto → R W
  | 0, _ => fun _ => .no
  | f + 1, i => fun s => match nx i s with
    | none => .no
    | some none => .ok (.ref d) s
    | some (some (w, s1)) => match t.put w ws s1 with
      | none => .no
      | some ws2 => (c ws2 s1).cl.bind fun k s2 => if k = true then (e ws2 s2).cl.bind fun y s3 => (match s3[d]? with
          | some (.lst acc) => if acc.length < 16777216 then loopC nx t c e ws d f (i + 1) (s3.set d (.lst (acc ++ [y]))) else .no
          | _ => .no) else loopC nx t c e ws d f (i + 1) s2
def mlc (mi : MI) (t : Tgt) (c : MT) (e : ME) (vs : List Nat) : ME := fun ws s => (mi ws s).bind fun nx s1 => loopC nx t c e (wipeW ws vs) s1.length fuelN 0 (s1 ++ [.lst []])
def myes : MT := fun _ s => .ok true s
section
variable {X : Cx} {Wx : WX} {elt tg iter : Expr} {ifs : List Expr} {scope : Scope} {own : List (Str × Nat)} {pos : Pos} {mi : MI} {t : Tgt} {c : MT} {e : ME}
theorem tLc_ok {sg : L2.St} {H : Hp} {Q : VK} {al : List Addr} {s : Sto} {ws : Loc} {vs : List Nat} (hv : t.sub vs = true) (S : Sim X.K al s H) (rs : RSt X.K al ws sg) (h : Post X.K Wx al sg (PW1 X.K Q) (mlc mi t c e vs ws s)) :
    tLc (tMI X.K Wx mi) (t.g X.K) (tMt X.K WxF c) (tM X.K WxF e) vs sg H Q := by
  refine ⟨al, s, ws, S, rs, h.bind.imp fun nx al1 s1 H1 p1 S1 h1 J hJ D hD => ?_⟩
  have S2 : Sim X.K (al1 ++ [D]) (s1 ++ [.lst []]) (upd H1 D (.lst [])) := S1.alloc hD ⟨[], .nil, upd_same⟩
  refine ⟨fun i m H' => ∃ al' s', al1 ++ [D] <+: al' ∧ Sim X.K al' s' H' ∧ Post X.K Wx al' sg (PW1 X.K Q) (loopC nx t c e (wipeW ws vs) s1.length m i s'), ⟨fuelN, al1 ++ [D], _, List.prefix_refl _, S2, h1.mono (pre_snoc _ _)⟩, ?_⟩
  rintro i m H' ⟨al', s', p, S', q⟩
  have p' : al1 <+: al' := (pre_snoc _ _).trans p
  have hd : al'[s1.length]? = some D := pre_get p (snoc_at S1.len D)
  cases m with
  | zero => exact q.elim
  | succ m =>
    unfold loopC at q
    split at q
    · exact q.elim
    · rename_i en
      exact .inl ⟨hJ.stop i s' H' al' p' S' en, q al' H' (List.prefix_refl _) S' _ ⟨D, hd, rfl⟩⟩
    · rename_i w s2 en
      obtain ⟨go, yl⟩ := hJ.go i s' s2 H' al' w p' S' en
      refine .inr ⟨go, fun H2 => ∃ al2 s2, al1 ++ [D] <+: al2 ∧ Sim X.K al2 s2 H2 ∧ Post X.K Wx al2 sg (PW1 X.K Q) (loopC nx t c e (wipeW ws vs) s1.length m (i + 1) s2), fun H2 z => ⟨m, Nat.lt_succ_self m, z⟩, fun x H2 y => ?_⟩
      obtain ⟨al2, p2, S2, rx⟩ := yl x H2 y
      split at q
      · exact q.elim
      · rename_i ws2 ep
        refine Tgt.put_ok hv S2 rx ((rs.mono (p1.trans (p'.trans p2))).wipe vs) (wipe_idem sg vs) ep fun σ3 rs3 ew => ⟨ew, ?_⟩
        refine ⟨al2, s2, ws2, S2, rs3, (q.mono p2).cl.imp fun k al3 s3 H3 p3 S3 h3 => ?_⟩
        cases k with
        | false =>
          rw [if_neg Bool.false_ne_true] at h3
          exact iteF ⟨al3, s3, p.trans (p2.trans p3), S3, h3⟩
        | true =>
          rw [if_pos rfl] at h3
          refine iteT ⟨al3, s3, ws2, S3, rs3.mono p3, h3.cl.imp fun yw al4 s4 H4 p4 S4 h4 v rv => ?_⟩
          split at h4
          · rename_i acc ea
            split at h4
            · rename_i hl
              have hd4 : al4[s1.length]? = some D := pre_get (p2.trans (p3.trans p4)) hd
              obtain ⟨cc, h5, vs5, rv5, q5⟩ := S4.get ea
              rw [hd4] at h5; cases h5
              refine ⟨vs5, q5, by rw [← rv5.length, line_eq]; exact hl, al4, _, p.trans (p2.trans (p3.trans p4)), ?_, h4⟩
              exact S4.write ea hd4 rfl ⟨vs5 ++ [v], rv5.append (.cons rv .nil), upd_same⟩ rfl
            · exact h4.elim
          · exact h4.elim
theorem pm_lc (hc : X.calm = true) (hN : X.N.Nodup) (hi : PI X tg iter (tMI X.K Wx mi)) (ok : BlkOk X.N X.env.scope scope own) (hv : t.sub (own.map (·.2)) = true)
    (hg : ∀ (s : Shared) (H : Hp) (C : Addr) (cl : List (Str × Addr)) (fp : List Addr), PG (X.blk s H scope (compEnvC scope cl C X.env) fp) tg (t.g X.K)) (ht : ∀ (s : Shared) (H : Hp) (C : Addr) (cl : List (Str × Addr)) (fp : List Addr), PTs (X.blk s H scope (compEnvC scope cl C X.env) fp) ifs (tMt X.K WxF c))
    (he : ∀ (s : Shared) (H : Hp) (C : Addr) (cl : List (Str × Addr)) (fp : List Addr), PE (X.blk s H scope (compEnvC scope cl C X.env) fp) elt (tM X.K WxF e)) (hs : ∀ x, foldedSetIterable iter X.env x = pure x) :
    PE X (.ListComp elt [⟨tg, iter, ifs, 0⟩] scope pos) (tM X.K Wx (mlc mi t c e (own.map (·.2)))) :=
  ⟨fun pins sh sg H Q I ⟨al, s, ws, S, rs, h⟩ => (pe_lc hc hN hi ok hg ht he hs).run pins sh sg H Q I (tLc_ok hv S rs h)⟩
theorem q_setLc {i : Nat} {y : Str} {py spos : Pos} (hc : X.calm = true) (hN : X.N.Nodup) (hy : X.N[i]? = some y) (hyl : X.env.scope.names.lookup y = some .local)
    (hsw : swapsWith (.ListComp elt [⟨tg, iter, ifs, 0⟩] scope pos) (some (.Name y py)) spos.line X.env = pure true) (hi : PI X tg iter (tMI X.K Wx mi)) (ok : BlkOk X.N X.env.scope scope own) (hv : t.sub (own.map (·.2)) = true)
    (hg : ∀ (s : Shared) (H : Hp) (C : Addr) (cl : List (Str × Addr)) (fp : List Addr), PG (X.blk s H scope (compEnvC scope cl C X.env) fp) tg (t.g X.K)) (ht : ∀ (s : Shared) (H : Hp) (C : Addr) (cl : List (Str × Addr)) (fp : List Addr), PTs (X.blk s H scope (compEnvC scope cl C X.env) fp) ifs (tMt X.K WxF c))
    (he : ∀ (s : Shared) (H : Hp) (C : Addr) (cl : List (Str × Addr)) (fp : List Addr), PE (X.blk s H scope (compEnvC scope cl C X.env) fp) elt (tM X.K WxF e)) (hs : ∀ x, foldedSetIterable iter X.env x = pure x) :
    PS X (.Assign [.Name y py] (.ListComp elt [⟨tg, iter, ifs, 0⟩] scope pos) spos) (tMS X.K Wx (sset i (mlc mi t c e (own.map (·.2))))) := by
  refine ⟨fun pins sh sg H D I ⟨al, s, ws, S, rs, h⟩ => (ps_setLc hc hN hy hyl hsw hi ok hg ht he hs).run pins sh sg H D I ?_⟩
  refine tLc_ok (Wx := Wx) (s := s) (al := al) (ws := ws) hv S rs ((PostS.expr h rs).imp fun w al1 s1 H1 p1 S1 h1 v rv => ?_)
  exact h1 al1 H1 _ (List.prefix_refl _) S1 ((rs.mono p1).set rv i)
theorem pts_yes : PTs X [] (tMt X.K Wx myes) := ⟨fun pins sh sg H Q I ⟨al, s, ws, S, rs, h⟩ => pts_nil.run pins sh sg H Q I (h al H (List.prefix_refl _) S)⟩
/-- the targets in a block -/
theorem pg_tgtNm {Y : Cx} {i : Nat} {x : Str} {p : Pos} (hN : Y.N.Nodup) (hi : Y.N[i]? = some x) (hx : L2.Loc Y.env.scope x) (hf : Y.fn x = true ∨ Y.env.scope.names.lookup x = some .local) : PG Y (.Name x p) ((Tgt.nm i).g Y.K) := pg_name hN hi hx hf
end
end Vm

/-! Vm11: subscripts, stores into lists and dicts, dict displays, methods of built-in types. -/
namespace Vm
open PySem PySem.Spec PyProof.Rows L2
variable {K : PySem.W.Frag}
section
variable {X : Cx} {Wx : WX} {a b e o : Expr} {ma mb me mo : ME} {pos : Pos}
theorem pm_ix {r : R2} {g : G2} (hr : IxR X r) (L : Lift2 X.K r g) (ha : PE X a (tM X.K Wx ma)) (hb : PE X b (tM X.K Wx mb)) (hs : PlainIx b) : PE X (.Subscript a b pos) (tM X.K Wx (mbin g ma mb)) :=
  ⟨fun pins s sg H Q I ⟨al, sw, ws, S, rs, h⟩ => (pe_ix hr ha hb hs).run pins s sg H Q I (two_ok L S rs h)⟩
end
/-! ### o[i] = v -/
def putW (kvs : List (Key × W)) (k : Key) (w : W) : List (Key × W) :=
  if (kvs.any fun kv => decide (kv.1 = k)) = true then kvs.map (fun kv => if kv.1 = k then (kv.1, w) else kv) else kvs ++ [(k, w)]
theorem putW_ok {al : List Addr} {kvs : List (Key × W)} {vs : List (Key × V)} (r : RKs K al kvs vs) {k : Key} {w : W} {v : V} (q : RW K al w v) : RKs K al (putW kvs k w) (putK vs k v) := by
  have h1 : (kvs.any fun kv => decide (kv.1 = k)) = (vs.any fun kv => decide (kv.1 = k)) := by
    induction r with
    | nil => rfl
    | cons _ _ ih => simp only [List.any_cons, ih]
  have h2 : RKs K al (kvs.map fun kv => if kv.1 = k then (kv.1, w) else kv) (vs.map fun kv => if kv.1 = k then (kv.1, v) else kv) := by
    clear h1
    induction r with
    | nil => exact .nil
    | @cons k' w' v' ws vs' a t ih =>
      simp only [List.map_cons]
      by_cases e : k' = k
      · rw [if_pos e, if_pos e]; exact .cons q ih
      · rw [if_neg e, if_neg e]; exact .cons a ih
  have h3 : RKs K al (kvs ++ [(k, w)]) (vs ++ [(k, v)]) := by
    clear h1 h2
    induction r with
    | nil => exact .cons q .nil
    | cons a t ih => exact .cons a ih
  unfold putW putK
  rw [h1]
  split
  · exact h2
  · exact h3
theorem putW_len (kvs : List (Key × W)) (k : Key) (w : W) : (putW kvs k w).length ≤ kvs.length + 1 := by
  unfold putW
  split
  · simp
  · simp
abbrev G3 := W → W → W → Sto → Option Sto
def gSetI : G3 := fun o i w s => match o with
  | .ref n => match s[n]? with
    | some (.lst xs) => (match i with
      | .int k => (match ixN xs.length k with
        | some j => some (s.set n (.lst (xs.set j w)))
        | none => none)
      | _ => none)
    | some (.dic kvs) => (match keyW i with
      | some k => if kvs.length < 16777216 then some (s.set n (.dic (putW kvs k w))) else none
      | none => none)
    | _ => none
  | _ => none
def tSetQ (K : PySem.W.Frag) (g : G3) : TSet := fun o i v H Q => ∃ al s w1 w2 w3 s', Sim K al s H ∧ RW K al w1 o ∧ RW K al w2 i ∧ RW K al w3 v ∧ g w1 w2 w3 s = some s' ∧ ∀ (al' : List Addr) (H' : Hp), al <+: al' → Sim K al' s' H' → Q H'
theorem set_Q {X : Cx} (hu : X.A.units + 1 < cLine) : PSet X (tSetQ X.K gSetI) := by
  rintro pins sh sg H o i v ov iv u Q I ro ri rv ⟨al, s, w1, w2, w3, s', S, r1, r2, r3, e, q⟩
  unfold gSetI at e
  split at e
  · rename_i n
    obtain ⟨a, ha, rfl⟩ := r1
    split at e
    · rename_i xs es
      obtain ⟨c, hc, vs, rvs, hH⟩ := S.get es
      rw [ha] at hc; cases hc
      split at e
      · rename_i k
        cases r2
        split at e
        · rename_i j ej
          cases e
          refine set_list pins sh sg H _ _ v ov iv u Q I ro ri rv ⟨a, vs, k, j, rfl, rfl, hH, by rw [← rvs.length]; exact ej, q al _ (List.prefix_refl _) ?_⟩
          exact S.write es ha rfl ⟨_, rvs.set r3 j, upd_same⟩ rfl
        · cases e
      · cases e
    · rename_i kvs es
      obtain ⟨c, hc, vs, rvs, hH⟩ := S.get es
      rw [ha] at hc; cases hc
      split at e
      · rename_i k ek
        split at e
        · rename_i hl
          cases e
          have ei := keyW_ok ek r2
          subst ei
          refine set_dict hu pins sh sg H _ _ v ov iv u Q I ro ri rv ⟨a, _, rfl, DPut.k hH (by rw [← rvs.length, line_eq]; exact hl), q al _ (List.prefix_refl _) ?_⟩
          exact S.write es ha rfl ⟨_, putW_ok rvs r3, upd_same⟩ rfl
        · cases e
      · cases e
    · cases e
  · cases e
def gsub (mo mi : ME) (g : G3) : MG := fun w ws s => (mo ws s).bind fun o s1 => (mi ws s1).bind fun i s2 => match g o i w s2 with
  | some s3 => .ok ws s3
  | none => .no
section
variable {X : Cx} {Wx : WX} {a b e o i : Expr} {ma mb me mo mi : ME} {pos tpos : Pos}
theorem qg_sub {g : G3} (ho : PE X o (tM X.K Wx mo)) (hi : PE X i (tM X.K Wx mi)) (hs : PSet X (tSetQ X.K g))
    (ha : ∀ v, assign (.Subscript o i pos) X.env v = (do
      let ov ← holding [v] (eval o X.env)
      let iv ← holding [v, ov] (eval i X.env)
      standAt pos
      holding [v, ov, iv] (setItem ov iv v)
      release [v, ov, iv] [])) : PG X (.Subscript o i pos) (tMG X.K Wx (gsub mo mi g)) := by
  refine ⟨fun pins sh sg H v u Q I r ⟨al, s, ws, w, S, rs, rw', h⟩ => (pg_sub ho hi hs ha).run pins sh sg H v u Q I r ?_⟩
  refine ⟨al, s, ws, S, rs, h.bind.imp fun ow al1 s1 H1 p1 S1 h1 ov rov => ?_⟩
  refine ⟨al1, s1, ws, S1, rs.mono p1, h1.bind.imp fun iw al2 s2 H2 p2 S2 h2 iv riv => ?_⟩
  split at h2
  · rename_i s3 e3
    exact ⟨al2, s2, ow, iw, w, s3, S2, rov.mono p2, riv, rw'.mono (p1.trans p2), e3, fun al' H' q S' => h2 al' H' q S' _ (rs.mono (p1.trans (p2.trans q)))⟩
  · exact h2.elim
/-! ### x += e, o[i] += e, by ints -/
def tIpQ (K : PySem.W.Frag) (g : G2) : TIp := fun x y H Q => ∃ al s w1 w2 w s', Sim K al s H ∧ RW K al w1 x ∧ RW K al w2 y ∧ g w1 w2 s = some (w, s') ∧ Back K al w s' Q
def gIpI (f : Int → Int → Int) : G2
  | .int i, .int j, s => ok1 (.int (f i j)) s
  | _, _, _ => none
theorem ipQ_of {op : Operator} {f : Int → Int → Int} (h : PIp X op (ipI f)) : PIp X op (tIpQ X.K (gIpI f)) := by
  rintro pins sh sg H x y v u Q I rx ry ⟨al, s, w1, w2, w, s', S, r1, r2, e, b⟩
  unfold gIpI at e
  split at e
  · cases r1; cases r2; cases e
    exact h pins sh sg H _ _ v u Q I rx ry ⟨_, _, rfl, rfl, b.now S rfl⟩
  · cases e
def saug (i : Nat) (g : G2) (m : ME) : MS := fun ws s => match ws[i]? with
  | some (some x) => (m ws s).toS ws fun y s1 => (match g x y s1 with
    | some (w, s2) => .nx (ws.set i (some w)) s2
    | none => .no)
  | _ => .no
theorem q_aug {i : Nat} {x : Str} {op : Operator} {g : G2} {p : Pos} (hN : X.N.Nodup) (hi : X.N[i]? = some x) (hx : L2.Loc X.env.scope x) (he : PE X e (tM X.K Wx me)) (ho : PIp X op (tIpQ X.K g)) (hf : X.fn x = true ∨ X.env.scope.names.lookup x = some .local) :
    PS X (.AugAssign (.Name x p) op e pos) (tMS X.K Wx (saug i g me)) := by
  refine ⟨fun pins sh sg H D I ⟨al, s, ws, S, rs, h⟩ => (ps_aug hN hi hx he ho hf).run pins sh sg H D I ?_⟩
  unfold saug at h
  split at h
  · rename_i xw ex
    obtain ⟨xv, hx1, rx⟩ := rs.get ex
    refine ⟨xv, hx1, al, s, ws, S, rs, (PostS.expr h rs).imp fun yw al1 s1 H1 p1 S1 h1 yv ry => ?_⟩
    split at h1
    · rename_i w s2 eg
      exact ⟨al1, s1, xw, yw, w, s2, S1, rx.mono p1, ry, eg, fun al' H' q S' v rv => h1 al' H' _ q S' ((rs.mono (p1.trans q)).set rv i)⟩
    · exact h1.elim
  · exact h.elim
def tGetQ (K : PySem.W.Frag) (g : G2) : V → V → Hp → VK → Prop := fun x y H Q => ∃ al s w1 w2 w s', Sim K al s H ∧ RW K al w1 x ∧ RW K al w2 y ∧ g w1 w2 s = some (w, s') ∧ Back K al w s' Q
def saugS (mo mi : ME) (gg : G2) (g : G2) (gs : G3) (m : ME) : MS := fun ws s => (mo ws s).toS ws fun o s1 => (mi ws s1).toS ws fun i s2 => match gg o i s2 with
  | some (x, s3) => (m ws s3).toS ws fun y s4 => (match g x y s4 with
    | some (z, s5) => (match gs o i z s5 with
      | some s6 => .nx ws s6
      | none => .no)
    | none => .no)
  | none => .no
theorem q_augS {op : Operator} {gg g : G2} {gs : G3} (ho : PE X o (tM X.K Wx mo)) (hi : PE X i (tM X.K Wx mi)) (hg : PGet X (tGetQ X.K gg)) (he : PE X e (tM X.K Wx me)) (hp : PIp X op (tIpQ X.K g)) (hs : PSet X (tSetQ X.K gs))
    (ha : ∀ ov iv new, augStore i ov iv new = (do holding [new, ov, iv] (setItem ov iv new); release [new, ov, iv] []; pure .next)) : PS X (.AugAssign (.Subscript o i tpos) op e pos) (tMS X.K Wx (saugS mo mi gg g gs me)) := by
  refine ⟨fun pins sh sg H D I ⟨al, s, ws, S, rs, h⟩ => (ps_augS ho hi hg he hp hs ha).run pins sh sg H D I ?_⟩
  refine ⟨al, s, ws, S, rs, (PostS.expr h rs).imp fun ow al1 s1 H1 p1 S1 h1 ov rov => ?_⟩
  refine ⟨al1, s1, ws, S1, rs.mono p1, (PostS.expr h1 (rs.mono p1)).imp fun iw al2 s2 H2 p2 S2 h2 iv riv => ?_⟩
  split at h2
  · rename_i xw s3 eg
    refine ⟨al2, s2, ow, iw, xw, s3, S2, rov.mono p2, riv, eg, fun al3 H3 p3 S3 xv rx => ?_⟩
    refine ⟨al3, s3, ws, S3, rs.mono (p1.trans (p2.trans p3)), (PostS.expr (h2.mono p3) (rs.mono (p1.trans (p2.trans p3)))).imp fun yw al4 s4 H4 p4 S4 h4 yv ry => ?_⟩
    split at h4
    · rename_i zw s5 ez
      refine ⟨al4, s4, xw, yw, zw, s5, S4, rx.mono p4, ry, ez, fun al5 H5 p5 S5 zv rz => ?_⟩
      split at h4
      · rename_i s6 e6
        exact ⟨al5, s5, ow, iw, zw, s6, S5, rov.mono (p2.trans (p3.trans (p4.trans p5))), riv.mono (p3.trans (p4.trans p5)), rz, e6, fun al6 H6 q S6 => h4 al6 H6 sg (p5.trans q) S6 (rs.mono (p1.trans (p2.trans (p3.trans (p4.trans (p5.trans q))))))⟩
      · exact h4.elim
    · exact h4.elim
  · exact h2.elim
end
end Vm

/-! Vm12: dict displays; methods of built-in types. -/
namespace Vm
open PySem PySem.Spec PyProof.Rows L2
section
variable {K : PySem.W.Frag} {Wx : WX}
/-! ### {k: v, ..} -/
abbrev MPs := Loc → Sto → R (List (W × W))
def pnil : MPs := fun _ s => .ok [] s
def pcons (mk mv : ME) (r : MPs) : MPs := fun ws s => (mk ws s).bind fun k s1 => (mv ws s1).bind fun v s2 => (r ws s2).bind fun ps s3 => .ok ((k, v) :: ps) s3
def keysW : List (W × W) → Option (List (Key × W))
  | [] => some []
  | (k, v) :: r => match keyW k, keysW r with
    | some k, some r => some ((k, v) :: r)
    | _, _ => none
def mergeW (kvs more : List (Key × W)) : List (Key × W) := more.foldl (fun acc kv => putW acc kv.1 kv.2) kvs
def mdisp (ps : MPs) : ME := fun ws s => (ps ws (s ++ [.dic []])).bind fun kvs s1 => match s1[s.length]?, keysW kvs with
  | some (.dic []), some l => if l.length ≤ 15 then .ok (.ref s.length) (s1.set s.length (.dic (mergeW [] l))) else .no
  | _, _ => .no
abbrev RPs (K : PySem.W.Frag) (al : List Addr) : List (W × W) → List (V × V) → Prop := Paired fun p q => RW K al p.1 q.1 ∧ RW K al p.2 q.2
/-- the pairs' readings serve their meaning -/
structure PPm (K : PySem.W.Frag) (Wx : WX) (trs : List (TE × TE)) (m : MPs) : Prop where
  run : ∀ (sg : L2.St) (H : Hp) (Q : List (V × V) → Hp → Prop) (al : List Addr) (s : Sto) (ws : Loc), Sim K al s H → RSt K al ws sg → Post K Wx al sg (fun ps al' _ H' => ∀ qs, RPs K al' ps qs → Q qs H') (m ws s) → tPairs trs sg H Q
theorem ppm_nil : PPm K Wx [] pnil := ⟨fun sg H Q al s ws S rs h => h al H (List.prefix_refl _) S [] .nil⟩
theorem ppm_cons {mk mv : ME} {trs : List (TE × TE)} {m : MPs} (h : PPm K Wx trs m) : PPm K Wx ((tM K Wx mk, tM K Wx mv) :: trs) (pcons mk mv m) := by
  refine ⟨fun sg H Q al s ws S rs hp => ?_⟩
  refine ⟨al, s, ws, S, rs, hp.bind.imp fun kw al1 s1 H1 p1 S1 h1 kv rk => ?_⟩
  refine ⟨al1, s1, ws, S1, rs.mono p1, h1.bind.imp fun vw al2 s2 H2 p2 S2 h2 vv rv => ?_⟩
  refine h.run sg H2 _ al2 s2 ws S2 (rs.mono (p1.trans p2)) (h2.bind.imp fun ps al3 s3 H3 p3 S3 h3 qs rq => ?_)
  exact h3 al3 H3 (List.prefix_refl _) S3 _ (.cons ⟨rk.mono (p2.trans p3), rv.mono p3⟩ rq)
theorem keysW_ok {al : List Addr} : ∀ {ps : List (W × W)} {qs : List (V × V)} {l : List (Key × W)}, keysW ps = some l → RPs K al ps qs → ∃ vs : List (Key × V), RKs K al l vs ∧ qs = vs.map (fun kv => (kV kv.1, kv.2))
  | [], _, _, e, r => by cases e; cases r; exact ⟨[], .nil, rfl⟩
  | (k, v) :: ps, _, _, e, r => by
    cases r with
    | @cons _ q _ qs r1 r2 =>
      unfold keysW at e
      split at e
      · rename_i k' l' ek el
        cases e
        obtain ⟨vs, h1, h2⟩ := keysW_ok el r2
        have e1 := keyW_ok ek r1.1
        exact ⟨(k', q.2) :: vs, .cons r1.2 h1, by rw [List.map_cons, ← h2, ← e1]⟩
      · cases e
theorem mergeW_ok {al : List Addr} : ∀ {more : List (Key × W)} {mvs : List (Key × V)} {kvs : List (Key × W)} {vs : List (Key × V)}, RKs K al more mvs → RKs K al kvs vs → RKs K al (mergeW kvs more) (mergeK vs mvs)
  | _, _, _, _, .nil, r => r
  | _, _, _, _, .cons (k := k) (w := w) (v := v) (ws := ws) (vs := vs') a t, r => (show RKs K al (mergeW (putW _ k w) ws) (mergeK (putK _ k v) vs') from mergeW_ok t (putW_ok r a))
end
section
variable {X : Cx} {Wx : WX} {pos : Pos} {keys : List (Option Expr)} {values : List Expr} {trs : List (TE × TE)} {m : MPs}
theorem pm_disp (h : PPs X pos keys values trs) (hm : PPm X.K Wx trs m) (hall : keys.all (·.isSome) = true) (hl : keys.length = values.length) (h0 : keys ≠ []) (h15 : keys.length ≤ 15) : PE X (.Dict keys values pos) (tM X.K Wx (mdisp m)) := by
  refine ⟨fun pins sh sg H Q I ⟨al, s, ws, S, rs, hp⟩ => (pe_disp h hall hl h0 h15).run pins sh sg H Q I fun p hp0 => ?_⟩
  have S1 : Sim X.K (al ++ [p]) (s ++ [.dic []]) (upd H p (.dK [])) := S.alloc hp0 ⟨[], .nil, upd_same⟩
  refine hm.run sg _ _ (al ++ [p]) _ ws S1 (rs.mono (pre_snoc _ _)) ((hp.mono (pre_snoc al p)).bind.imp fun ps al1 s1 H1 p1 S1' h1 qs rq => ?_)
  split at h1
  · rename_i l e1 ek
    split at h1
    · rename_i hl15
      have hd : al1[s.length]? = some p := pre_get p1 (snoc_at S.len p)
      obtain ⟨c, hc, vs0, r0, hH⟩ := S1'.get e1
      rw [hd] at hc; cases hc
      cases r0
      obtain ⟨vs, rv, eq⟩ := keysW_ok ek rq
      refine ⟨hH, vs, eq, by rw [← rv.length]; exact hl15, h1 al1 _ (List.prefix_refl _) (S1'.write e1 hd rfl ⟨_, mergeW_ok rv .nil, upd_same⟩ rfl) _ ⟨p, by exact hd, rfl⟩⟩
    · exact h1.elim
  · exact h1.elim
def mdnew : ME := fun _ s => .ok (.ref s.length) (s ++ [.dic []])
theorem pm_dnew : PE X (.Dict [] [] pos) (tM X.K Wx mdnew) :=
  ⟨fun pins sh sg H Q I ⟨al, s, ws, S, rs, hp⟩ => pe_dnewK.run pins sh sg H Q I fun p hp0 => hp (al ++ [p]) _ (pre_snoc _ _) (S.alloc hp0 ⟨[], .nil, upd_same⟩) _ ⟨p, snoc_at S.len p, rfl⟩⟩
end
/-! ### methods of built-in types, by values -/
abbrev GM := W → List W → Sto → Option (W × Sto)
def rQm (K : PySem.W.Frag) (g : GM) : V → List V → Hp → VK → Prop := fun x xs H Q => ∃ al s w1 ws w s', Sim K al s H ∧ RW K al w1 x ∧ RWs K al ws xs ∧ g w1 ws s = some (w, s') ∧ Back K al w s' Q
/-- the built-in type of a receiver -/
def tyM (w : W) (s : Sto) : String := match w with
  | .str _ => "str"
  | .ref n => match s[n]? with
    | some (.lst _) => "list"
    | some (.cst _) => "list"
    | some (.dic _) => "dict"
    | _ => ""
  | _ => ""
theorem tyM_ok {K : PySem.W.Frag} {al : List Addr} {s : Sto} {H : Hp} {w : W} {v : V} {T : String} (S : Sim K al s H) (r : RW K al w v) (e : tyM w s = T) (ne : T ≠ "") : tyV K T v H := by
  unfold tyM at e
  split at e
  · cases r; exact e.symm
  · obtain ⟨a, ha, rfl⟩ := r
    split at e
    · rename_i n xs es
      obtain ⟨c, hc, vs, rv, q⟩ := S.get es
      rw [ha] at hc; cases hc
      exact .inl ⟨e.symm, vs, .inl (.inl q)⟩
    · rename_i n xs es
      obtain ⟨c, hc, vs, rv, q⟩ := S.get es
      rw [ha] at hc; cases hc
      exact .inl ⟨e.symm, vs, q⟩
    · rename_i n kvs es
      obtain ⟨c, hc, vs, rv, q⟩ := S.get es
      rw [ha] at hc; cases hc
      exact .inr (.inr (.inl ⟨e.symm, .inl ⟨vs, q⟩⟩))
    · exact absurd e.symm ne
  · exact absurd e.symm ne
/-- o.m(..) of a receiver of type T -/
def mbm (T : String) (g : GM) (mo : ME) (ma : MA) : ME := fun ws s => (mo ws s).bind fun x s1 => if tyM x s1 = T then (ma ws s1).bind fun xs s2 => R.of (g x xs s2) else .no
section
variable {X : Cx} {Wx : WX} {o e : Expr} {es : List Expr} {mo : ME} {ma : MA} {name : Str} {apos cpos : Pos} {T id : String} {g : GM}
theorem pm_bm (ne : T ≠ "") (pa : PlainAttrs T) (slot : Slot T name id) (hty : typeOf (.builtin id) = pure (.type "method_descriptor")) (hm : MtR X id (rQm X.K g)) (ho : PE X o (tM X.K Wx mo)) (ha : PA X (e :: es) (tMs X.K Wx ma))
    (hbase : attributeBase o name X.env (eval o X.env) = eval o X.env)
    (hfew : ((backTo cpos (starEach (e :: es) X.env)).all (fun x => !x.1) && (backToKw cpos (keywordEach [] X.env)).all (fun x => x.1.isSome)
      && decide ((e :: es).length + ([] : List Keyword).length + (if ([] : List Keyword).isEmpty then 0 else 1) < 30)) = true)
    (hline : (apos.endLine == cpos.line) = true) (hs : starEach (e :: es) X.env = (false, eval e X.env) :: starEach es X.env) (hplain : (backTo cpos (starEach es X.env)).any (·.1) = false) :
    PE X (.Call (.Attribute o name apos) (e :: es) [] cpos) (tM X.K Wx (mbm T g mo ma)) := by
  refine ⟨fun pins sh sg H Q I ⟨al, s, ws, S, rs, h⟩ => (pe_bm pa slot hty hm ho ha hbase hfew hline hs hplain).run pins sh sg H Q I ?_⟩
  refine ⟨al, s, ws, S, rs, h.bind.imp fun x al1 s1 H1 p1 S1 h1 v rv => ?_⟩
  split at h1
  · rename_i et
    refine ⟨tyM_ok S1 rv et ne, al1, s1, ws, S1, rs.mono p1, h1.bind.imp fun xs al2 s2 H2 p2 S2 h2 vs rvs => ?_⟩
    obtain ⟨w, s', eg, q⟩ := h2.of
    exact ⟨al2, s2, x, xs, w, s', S2, rv.mono p2, rvs, eg, q⟩
  · exact h1.elim
theorem pm_bm0 (ne : T ≠ "") (pa : PlainAttrs T) (slot : Slot T name id) (hty : typeOf (.builtin id) = pure (.type "method_descriptor")) (hm : MtR X id (rQm X.K g)) (ho : PE X o (tM X.K Wx mo))
    (hbase : attributeBase o name X.env (eval o X.env) = eval o X.env) (hline : (apos.endLine == cpos.line) = true) : PE X (.Call (.Attribute o name apos) [] [] cpos) (tM X.K Wx (mbm T g mo mnil)) := by
  refine ⟨fun pins sh sg H Q I ⟨al, s, ws, S, rs, h⟩ => (pe_bm0 pa slot hty hm ho hbase hline).run pins sh sg H Q I ?_⟩
  refine ⟨al, s, ws, S, rs, h.bind.imp fun x al1 s1 H1 p1 S1 h1 v rv => ?_⟩
  split at h1
  · rename_i et
    refine ⟨tyM_ok S1 rv et ne, ?_⟩
    obtain ⟨w, s', eg, q⟩ := Post.of (h1 : Post X.K Wx al1 sg _ (R.of (g x [] s1)))
    exact ⟨al1, s1, x, [], w, s', S1, rv, .nil, eg, q⟩
  · exact h1.elim
end
/-! #### str.join -/
def strsW : List W → Option (List Str)
  | [] => some []
  | .str x :: r => (strsW r).map (x :: ·)
  | _ => none
theorem strsW_ok {K : PySem.W.Frag} {al : List Addr} : ∀ {ws : List W} {vs : List V} {ys : List Str}, strsW ws = some ys → RWs K al ws vs → vs = ys.map V.str
  | [], _, _, e, r => by cases e; cases r; rfl
  | w :: ws, _, _, e, r => by
    cases r with
    | cons a t =>
      unfold strsW at e
      split at e
      · cases ‹_ :: _ = []›
      · rename_i x r' e0
        cases e0
        obtain ⟨l, el, rfl⟩ := Option.map_eq_some_iff.mp e
        cases a
        rw [List.map_cons, ← strsW_ok el t]
      · cases e
def gJoin : GM := fun x xs s => match x, xs with
  | .str a, [.ref p] => match (lstAt s p).or (tupAt s p) with
    | some l => (match strsW l with
      | some ys => if (ys.map (·.length)).sum + ys.length * a.length ≤ 16777216 then ok1 (.str (Txt.join a ys)) s else none
      | none => none)
    | none => none
  | _, _ => none
theorem mt_joinQ {X : Cx} : MtR X "str.join" (rQm X.K gJoin) := by
  rintro pins sh sg H x xs v us Q I rx rs ⟨al, s, w1, ws, w, s', S, r1, r2, e, b⟩
  unfold gJoin at e
  split at e
  · rename_i a p
    cases r1
    obtain ⟨v1, rfl, q1⟩ := r2.inv1
    obtain ⟨ad, ha, rfl⟩ := q1
    split at e
    · rename_i l el
      obtain ⟨c, vs, hc, rv, sq⟩ := seqAt_ok S el
      rw [ha] at hc; cases hc
      split at e
      · rename_i ys ey
        split at e
        · rename_i hz
          cases e
          have ev := strsW_ok ey rv
          subst ev
          exact mt_join pins sh sg H _ _ v us Q I rx rs ⟨a, ad, ys, rfl, rfl, sq, hz, b.now S rfl⟩
        · cases e
      · cases e
    · cases e
  · cases e
/-! #### list.append, list.pop, list.extend -/
def gAppend : GM := fun x xs s => match x, xs with
  | .ref n, [y] => match s[n]? with
    | some (.lst l) => if l.length < 16777216 then ok1 .non (s.set n (.lst (l ++ [y]))) else none
    | _ => none
  | _, _ => none
theorem mt_appendQ {X : Cx} : MtR X "list.append" (rQm X.K gAppend) := by
  rintro pins sh sg H x xs v us Q I rx rs ⟨al, s, w1, ws, w, s', S, r1, r2, e, b⟩
  unfold gAppend at e
  split at e
  · rename_i n y
    obtain ⟨a, ha, rfl⟩ := r1
    obtain ⟨v1, rfl, q1⟩ := r2.inv1
    split at e
    · rename_i l el
      obtain ⟨c, hc, vs, rv, hH⟩ := S.get el
      rw [ha] at hc; cases hc
      split at e
      · rename_i hz
        cases e
        refine mt_append pins sh sg H _ _ v us Q I rx rs ⟨a, vs, v1, rfl, rfl, hH, by rw [← rv.length, line_eq]; exact hz, b al _ (List.prefix_refl _) ?_ _ rfl⟩
        exact S.write el ha rfl ⟨_, rv.append (.cons q1 .nil), upd_same⟩ rfl
      · cases e
    · cases e
  · cases e
theorem RWs.dropLast {K : PySem.W.Frag} {al : List Addr} {ws : List W} {vs : List V} (r : RWs K al ws vs) : RWs K al ws.dropLast vs.dropLast := by
  induction r with
  | nil => exact .nil
  | cons a t ih =>
    cases t with
    | nil => exact .nil
    | cons b t' => exact .cons a ih
theorem RWs.eraseIdx {K : PySem.W.Frag} {al : List Addr} : ∀ {ws : List W} {vs : List V} (i : Nat), RWs K al ws vs → RWs K al (ws.eraseIdx i) (vs.eraseIdx i)
  | _, _, _, .nil => .nil
  | _, _, 0, .cons _ t => t
  | _, _, i + 1, .cons a t => .cons a (RWs.eraseIdx i t)
def gPop : GM := fun x xs s => match x, xs with
  | .ref n, [] => match s[n]? with
    | some (.lst l) => (match l[l.length - 1]? with
      | some y => ok1 y (s.set n (.lst l.dropLast))
      | none => none)
    | _ => none
  | _, _ => none
theorem mt_popQ {X : Cx} : MtR X "list.pop" (rQm X.K gPop) := by
  rintro pins sh sg H x xs v us Q I rx rs ⟨al, s, w1, ws, w, s', S, r1, r2, e, b⟩
  unfold gPop at e
  split at e
  · rename_i n
    obtain ⟨a, ha, rfl⟩ := r1
    cases r2
    split at e
    · rename_i l el
      obtain ⟨c, hc, vs, rv, hH⟩ := S.get el
      rw [ha] at hc; cases hc
      split at e
      · rename_i y ey
        cases e
        obtain ⟨y', h1, h2⟩ := rv.get ey
        refine mt_pop pins sh sg H _ _ v us Q I rx rs ⟨a, vs, y', rfl, rfl, hH, by rw [← rv.length]; exact h1, b al _ (List.prefix_refl _) ?_ _ h2⟩
        exact S.write el ha rfl ⟨_, rv.dropLast, upd_same⟩ rfl
      · cases e
    · cases e
  · cases e
end Vm

/-! Vm13: what a text means (expressions), and that it is so. -/
namespace Vm
open PySem PySem.Spec PyProof.Rows L2
/-- what is known where an expression stands -/
structure Gam where
  N : List Str
  sc : Scope
  fn : Str → Bool
  defs : List (Str × Nat × (List W → Sto → R W))
  con : List (Str × W)
  free : List Str
  tbl : List (Ty × Ty × Bool)
  cs : List Str
  k : Nat
structure Ctx (Γ : Gam) (X : Cx) (Wx : WX) : Prop where
  N : X.N = Γ.N
  nd : X.N.Nodup
  sc : X.env.scope = Γ.sc
  kind : Γ.sc.kind = .function
  fn : X.fn = Γ.fn
  calm : X.calm = true
  tk : Takes X Wx
  hu : X.A.units + 200 < cLine
  gu : X.A.guards = some []
  room : Room Γ.k X.A
  sys : SysOk X
  fr : ∀ x ∈ Γ.free, X.mg x = none
  con : ∀ p ∈ Γ.con, ∃ u v, X.mg p.1 = some u ∧ RelV v u ∧ ∀ al, RW X.K al p.2 v
  df : ∀ d ∈ Γ.defs, ∃ f, X.mg d.1 = some (.ref f) ∧ DefAt X Γ.k f d.2.1 d.2.2
  isa : IsaOk X.K Γ.tbl Γ.cs
theorem takesF {X : Cx} : Takes X WxF := fun u s' ⟨_, _, _, _, _, _, _, _, _, _, _, _, _, _, _, _, w⟩ => w.elim
theorem Ctx.noraise {Γ : Gam} {X : Cx} {Wx : WX} (c : Ctx Γ X Wx) : Ctx Γ X WxF := { c with tk := takesF }
/-! ### side conditions -/
def notStar : Expr → Bool
  | .Starred _ _ => false
  | _ => true
theorem starEach_cons {e : Expr} {es : List Expr} {env : Env} (h : notStar e = true) : starEach (e :: es) env = (false, eval e env) :: starEach es env := by
  cases e <;> first | rfl | cases h
theorem starEach_no {es : List Expr} {env : Env} (h : es.all notStar = true) : (starEach es env).all (fun x => !x.1) = true := by
  induction es with
  | nil => rfl
  | cons e es ih =>
    simp only [List.all_cons, Bool.and_eq_true] at h
    rw [starEach_cons h.1]
    simp only [List.all_cons, Bool.not_false, Bool.true_and]
    exact ih h.2
theorem backTo_no {es : List Expr} {env : Env} {pos : Pos} (h : es.all notStar = true) : (backTo pos (starEach es env)).any (·.1) = false := by
  induction es with
  | nil => rfl
  | cons e es ih =>
    simp only [List.all_cons, Bool.and_eq_true] at h
    rw [starEach_cons h.1]
    show (false || (backTo pos (starEach es env)).any (·.1)) = false
    rw [ih h.2] <;> rfl
theorem backTo_all {es : List Expr} {env : Env} {pos : Pos} (h : es.all notStar = true) : (backTo pos (starEach es env)).all (fun x => !x.1) = true := by
  induction es with
  | nil => rfl
  | cons e es ih =>
    simp only [List.all_cons, Bool.and_eq_true] at h
    rw [starEach_cons h.1]
    show (!false && (backTo pos (starEach es env)).all (fun x => !x.1)) = true
    rw [ih h.2] <;> rfl
def notSlice : Expr → Bool
  | .Slice _ _ _ _ => false
  | _ => true
theorem plainIx_of {b : Expr} (h : notSlice b = true) : PlainIx b := by
  intro o i
  cases b <;> first | rfl | cases h
def notSet : Expr → Bool
  | .Set _ _ _ => false
  | _ => true
theorem behind_of {b : Expr} {op : CmpOp} (h : notSet b = true) : behindInMarks op b = false := by
  cases b <;> first | rfl | cases h
theorem folded_of {e : Expr} {env : Env} (h : notSet e = true) : ∀ x, foldedSetIterable e env x = pure x := by
  intro x
  cases e <;> first | rfl | cases h
def notComp : Expr → Bool
  | .ListComp _ _ _ _ => false
  | .SetComp _ _ _ _ => false
  | .DictComp _ _ _ _ _ => false
  | _ => true
theorem swaps_of {e : Expr} {t : Option Expr} {l : Nat} {env : Env} (h : notComp e = true) : swapsWith e t l env = pure false := by
  cases e <;> first | rfl | cases h
/-- a value whose test is its truth -/
def plainT : Expr → Bool
  | .UnaryOp .Not _ _ => false
  | .BoolOp _ _ _ => false
  | .IfExp _ _ _ _ => false
  | .Compare _ _ _ _ => false
  | _ => true
theorem isTrue_of {e : Expr} {env : Env} (h : plainT e = true) : ∀ whole, isTrue e env whole = (do let v ← whole; standAt e.pos; holding [v] (truthy v)) := by
  intro whole
  cases e with
  | UnaryOp op a p => cases op <;> first | rfl | cases h
  | BoolOp _ _ _ => cases h
  | IfExp _ _ _ _ => cases h
  | Compare _ _ _ _ => cases h
  | _ => rfl
def notSuper : Expr → Bool
  | .Call (.Name _ _) [] [] _ => false
  | _ => true
theorem base_of {o : Expr} {m : Str} {env : Env} {w : Sem Value} (h : notSuper o = true) : attributeBase o m env w = w := by
  unfold attributeBase
  split
  · cases h
  · rfl

/-! ### what cannot be said -/
def mno : ME := fun _ _ => .no
def mano : MA := fun _ _ => .no
def mtno : MT := fun _ _ => .no
def mino : MI := fun _ _ => .no
def mgno : MG := fun _ _ _ => .no
def mgsno : MGs := fun _ _ _ => .no
def mpno : MPs := fun _ _ => .no
def mono : MO := fun _ _ => .no
def sno : MS := fun _ _ => .no
section
variable {X : Cx} {Wx : WX}
theorem pm_no {e : Expr} : PE X e (tM X.K Wx mno) := ⟨fun _ _ _ _ _ _ ⟨_, _, _, _, _, h⟩ => h.elim⟩
theorem pms_no {es : List Expr} : PA X es (tMs X.K Wx mano) := ⟨fun _ _ _ _ _ _ _ ⟨_, _, _, _, _, h⟩ => h.elim⟩
theorem pmt_no {e : Expr} : PT X e (tMt X.K Wx mtno) := ⟨fun _ _ _ _ _ _ ⟨_, _, _, _, _, h⟩ => h.elim⟩
theorem pmw_no {e : Expr} : PW X e (tMt X.K Wx mtno) := ⟨fun _ _ _ _ _ _ _ ⟨_, _, _, _, _, h⟩ => h.elim⟩
theorem qi_no {tg e : Expr} : PI X tg e (tMI X.K Wx mino) := ⟨fun _ _ _ _ _ _ ⟨_, _, _, _, _, h⟩ => h.elim⟩
theorem qg_no {e : Expr} : PG X e (tMG X.K Wx mgno) := ⟨fun _ _ _ _ _ _ _ _ _ ⟨_, _, _, _, _, _, _, h⟩ => h.elim⟩
theorem qgs_no {es : List Expr} : PGs X es (tMGs X.K Wx mgsno) := ⟨fun _ _ _ _ _ _ _ _ _ ⟨_, _, _, _, _, _, _, h⟩ => h.elim⟩
theorem pmo_no {e : Option Expr} : PO X e (tMo X.K Wx mono) := ⟨fun _ _ _ _ _ _ ⟨_, _, _, _, _, h⟩ => h.elim⟩
theorem q_no {st : Stmt} : PS X st (tMS X.K Wx sno) := ⟨fun _ _ _ _ _ _ ⟨_, _, _, _, _, h⟩ => h.elim⟩
theorem qs_no {st : List Stmt} : PSs X st (tMS X.K Wx sno) := ⟨fun _ _ _ _ _ _ ⟨_, _, _, _, _, h⟩ => h.elim⟩
end

/-! ### names, constants, operators -/
def slotOf (N : List Str) (x : Str) : Option Nat := match N.findIdx? (fun y => decide (y = x)) with
  | some i => if N[i]? = some x then some i else none
  | none => none
theorem slotOf_ok {N : List Str} {x : Str} {i : Nat} (h : slotOf N x = some i) : N[i]? = some x := by
  unfold slotOf at h
  split at h
  · split at h
    · cases h; assumption
    · cases h
  · cases h
def odd (x : Str) : Bool := x == ("__debug__" : Str) || x == ("__classdict__" : Str) || x == ("__name__" : Str)
/-- the built-in types that stand as values -/
def tyName (x : Str) : Option String :=
  if x = ("int" : Str) then some "int" else if x = ("bool" : Str) then some "bool" else if x = ("str" : Str) then some "str" else if x = ("list" : Str) then some "list" else
  if x = ("tuple" : Str) then some "tuple" else if x = ("dict" : Str) then some "dict" else none
theorem tyName_ok {x : Str} {n : String} (h : tyName x = some n) : bootBuiltins x = some (.type n) := by
  unfold tyName at h
  split at h
  · cases h; subst x; kernel_rfl
  split at h
  · cases h; subst x; kernel_rfl
  split at h
  · cases h; subst x; kernel_rfl
  split at h
  · cases h; subst x; kernel_rfl
  split at h
  · cases h; subst x; kernel_rfl
  split at h
  · cases h; subst x; kernel_rfl
  · cases h
def assocS {α : Type} (l : List (Str × α)) (x : Str) : Option α := (l.find? fun p => decide (p.1 = x)).map (·.2)
theorem assocS_ok {α : Type} {l : List (Str × α)} {x : Str} {a : α} (h : assocS l x = some a) : (x, a) ∈ l := by
  obtain ⟨p, h1, h2⟩ := Option.map_eq_some_iff.mp h
  have h3 := List.mem_of_find?_eq_some h1
  have h4 := List.find?_some h1
  simp only [decide_eq_true_eq] at h4
  obtain ⟨y, b⟩ := p
  cases h2; cases h4
  exact h3
def nameE (Γ : Gam) (x : Str) : ME := match Γ.sc.names.lookup x, odd x with
  | some .globalImplicit, false => (match assocS Γ.con x with
    | some w => mc w
    | none => if Γ.free.contains x then (match tyName x with
      | some n => mc (.ty n)
      | none => mno) else mno)
  | some .globalExplicit, _ => mno
  | some _, false => (match slotOf Γ.N x with
    | some i => mvar i
    | none => mno)
  | _, _ => mno
def constE : Const → ME
  | .none => mc .non
  | .bool b => mc (.bl b)
  | .int i => mc (.int i)
  | .str x => mc (.str x)
  | _ => mno
def binE (op : Operator) (a b : ME) : ME := match op with
  | .Add => mbin gAdd a b
  | .Sub => mbin gSub a b
  | .Mult => mbin gMul a b
  | .FloorDiv => mbin gFdiv a b
  | .Mod => mbin gMod a b
  | .Pow => mbin gPow a b
  | .LShift => mbin gShl a b
  | .RShift => mbin gShr a b
  | .BitAnd => mbin gBand a b
  | .BitOr => mbin gBor a b
  | _ => mno
def cmpG : CmpOp → Option G2
  | .Eq => some gEq
  | .NotEq => some gNe
  | .Lt => some gLt
  | .LtE => some gLe
  | .Gt => some gGt
  | .GtE => some gGe
  | .In => some gIn
  | .NotIn => some gNotIn
  | .Is => some gIs
  | .IsNot => some gIsNot
def evA (E : Expr → ME) : List Expr → MA
  | [] => mnil
  | e :: es => if notStar e then mcons (E e) (evA E es) else mano
section
variable {Γ : Gam} {X : Cx} {Wx : WX}
theorem odd_ok {x : Str} (h : odd x = false) : (x == ("__debug__" : Str)) = false ∧ (x == ("__classdict__" : Str)) = false ∧ x ≠ ("__name__" : Str) := by
  unfold odd at h
  simp only [Bool.or_eq_false_iff] at h
  exact ⟨h.1.1, h.1.2, by simpa using h.2⟩
theorem Ctx.gl (c : Ctx Γ X Wx) {x : Str} (h : Γ.sc.names.lookup x = some .globalImplicit) : Gl X x := by
  show X.env.scope.names.lookup x = _
  rw [c.sc]; exact h
theorem Ctx.frm (c : Ctx Γ X Wx) {x : Str} (h : Γ.free.contains x = true) : X.mg x = none := c.fr x (by simpa using h)
theorem nameE_ok (c : Ctx Γ X Wx) (x : Str) (pos : Pos) : PE X (.Name x pos) (tM X.K Wx (nameE Γ x)) := by
  unfold nameE
  split
  · rename_i hk ho
    obtain ⟨o1, o2, o3⟩ := odd_ok ho
    split
    · rename_i w ew
      obtain ⟨u, v, h1, h2, h3⟩ := c.con _ (assocS_ok ew)
      exact pm_c (pe_glob (c.gl hk) h1 h2 o1) h3
    · split
      · rename_i hf
        split
        · rename_i n en
          refine pm_c (w := .ty n) (v := .ty n) ⟨fun pins sh sg H Q I h => ?_⟩ fun al => rfl
          exact ld_blt I (c.gl hk) (c.frm hf) (tyName_ok en) ⟨.ty n, H, I, rfl, h⟩ o3 o1
        · exact pm_no
      · exact pm_no
  · exact pm_no
  · rename_i k ne1 ne2 hk ho
    obtain ⟨o1, o2, o3⟩ := odd_ok ho
    split
    · rename_i i ei
      refine pm_var (by rw [c.N]; exact slotOf_ok ei) ?_ o1 o2
      rw [Vis, c.sc]
      cases k with
      | «local» => exact .inl hk
      | cell => exact .inr (.inl hk)
      | free => exact .inr (.inr hk)
      | globalImplicit => exact absurd rfl ne1
      | globalExplicit => exact absurd rfl ne2
    · exact pm_no
  · exact pm_no
end
end Vm

/-! Vm14: what an expression means; it is so. -/
namespace Vm
open PySem PySem.Spec PyProof.Rows L2
section
variable {Γ : Gam} {X : Cx} {Wx : WX}
theorem constE_ok (c : Const) (j : Nat) (pos : Pos) : PE X (.Constant c j pos) (tM X.K Wx (constE c)) := by
  cases c with
  | none => exact pm_c (pe_non) fun _ => rfl
  | bool b => exact pm_c (v := .bl b) pe_bl fun _ => rfl
  | int i => exact pm_c pe_int fun _ => rfl
  | str x => exact pm_c pe_str fun _ => rfl
  | _ => exact pm_no
theorem Ctx.u1 (c : Ctx Γ X Wx) : X.A.units + 1 < cLine := by have := c.hu; omega
theorem Ctx.u64 (c : Ctx Γ X Wx) : X.A.units + 64 < cLine := by have := c.hu; omega
theorem Ctx.u128 (c : Ctx Γ X Wx) : X.A.units + 128 < cLine := by have := c.hu; omega
theorem binE_ok {a b : Expr} {ma mb : ME} (op : Operator) (pos : Pos) (ha : PE X a (tM X.K Wx ma)) (hb : PE X b (tM X.K Wx mb)) : PE X (.BinOp a op b pos) (tM X.K Wx (binE op ma mb)) := by
  cases op with
  | Add => exact pm_bin op_addQ l_add ha hb
  | Sub => exact pm_bin op_sub l_sub ha hb
  | Mult => exact pm_bin op_mulQ l_mul ha hb
  | FloorDiv => exact pm_bin op_fdivW l_fdiv ha hb
  | Mod => exact pm_bin op_mod l_mod ha hb
  | Pow => exact pm_bin op_pow l_pow ha hb
  | LShift => exact pm_bin op_shl l_shl ha hb
  | RShift => exact pm_bin op_shr l_shr ha hb
  | BitAnd => exact pm_bin op_and l_band ha hb
  | BitOr => exact pm_bin op_or l_bor ha hb
  | _ => exact pm_no
theorem cmpG_ok (c : Ctx Γ X Wx) {op : CmpOp} {g : G2} (h : cmpG op = some g) : ∃ r, OpR X (compareOp op) r ∧ Lift2 X.K r g := by
  cases op <;> cases h
  · exact ⟨_, op_eqQ c.sys c.u64, l_q2⟩
  · exact ⟨_, op_neQ c.sys c.u64, l_q2⟩
  · exact ⟨_, op_lt, l_ci⟩
  · exact ⟨_, op_le, l_ci⟩
  · exact ⟨_, op_gt, l_ci⟩
  · exact ⟨_, op_ge, l_ci⟩
  · exact ⟨_, op_isQ, l_q2⟩
  · exact ⟨_, op_isNotQ, l_q2⟩
  · exact ⟨_, op_inQ c.u1, l_q2⟩
  · exact ⟨_, op_notInQ c.u1, l_q2⟩
theorem evA_ok {E : Expr → ME} (h : ∀ e, PE X e (tM X.K Wx (E e))) : ∀ es : List Expr, PA X es (tMs X.K Wx (evA E es))
  | [] => pms_nil
  | e :: es => by
    unfold evA
    split
    · rename_i hs
      exact pms_cons (h e) (evA_ok h es) (starEach_cons hs)
    · exact pms_no
/-! ### calls by a name -/
/-- a built-in's promise, by its name -/
def BltOk (X : Cx) (x : Str) (g : Gs) : Prop := (∃ id r, bootBuiltins x = some (.builtin id) ∧ CallR X (.builtin id) r ∧ Lifts X.K r g) ∨ (∃ T r, bootBuiltins x = some (.type T) ∧ CallR X (.type T) r ∧ Lifts X.K r g)
theorem boot_len : bootBuiltins ("len" : Str) = some (.builtin "len") := by kernel_rfl
theorem blt_len (c : Ctx Γ X Wx) : BltOk X ("len" : Str) gLen := .inl ⟨"len", _, boot_len, call_lenQ, l_len⟩
theorem boot_isinstance : bootBuiltins ("isinstance" : Str) = some (.builtin "isinstance") := by kernel_rfl
theorem blt_isinstance (c : Ctx Γ X Wx) : BltOk X ("isinstance" : Str) (gIsi Γ.tbl Γ.cs) := .inl ⟨"isinstance", _, boot_isinstance, (call_isiQ c.isa), l_qs⟩
theorem boot_abs : bootBuiltins ("abs" : Str) = some (.builtin "abs") := by kernel_rfl
theorem blt_abs (c : Ctx Γ X Wx) : BltOk X ("abs" : Str) gAbs := .inl ⟨"abs", _, boot_abs, call_abs, l_abs⟩
theorem boot_max : bootBuiltins ("max" : Str) = some (.builtin "max") := by kernel_rfl
theorem blt_max (c : Ctx Γ X Wx) : BltOk X ("max" : Str) gMax := .inl ⟨"max", _, boot_max, (CallR.or (call_max2 c.calm) (cr_max c.calm)), l_max⟩
theorem boot_min : bootBuiltins ("min" : Str) = some (.builtin "min") := by kernel_rfl
theorem blt_min (c : Ctx Γ X Wx) : BltOk X ("min" : Str) gMin := .inl ⟨"min", _, boot_min, (CallR.or (call_min2 c.calm) (cr_min c.calm)), l_min⟩
theorem boot_sum : bootBuiltins ("sum" : Str) = some (.builtin "sum") := by kernel_rfl
theorem blt_sum (c : Ctx Γ X Wx) : BltOk X ("sum" : Str) gSum := .inl ⟨"sum", _, boot_sum, (cr_sum c.calm), l_sum⟩
theorem boot_all : bootBuiltins ("all" : Str) = some (.builtin "all") := by kernel_rfl
theorem blt_all (c : Ctx Γ X Wx) : BltOk X ("all" : Str) gAll := .inl ⟨"all", _, boot_all, (cr_all c.calm), l_all⟩
theorem boot_any : bootBuiltins ("any" : Str) = some (.builtin "any") := by kernel_rfl
theorem blt_any (c : Ctx Γ X Wx) : BltOk X ("any" : Str) gAny := .inl ⟨"any", _, boot_any, (cr_any c.calm), l_any⟩
theorem boot_list : bootBuiltins ("list" : Str) = some (.type "list") := by kernel_rfl
theorem blt_list (c : Ctx Γ X Wx) : BltOk X ("list" : Str) gList := .inr ⟨"list", _, boot_list, call_list_of, l_list⟩
theorem boot_tuple : bootBuiltins ("tuple" : Str) = some (.type "tuple") := by kernel_rfl
theorem blt_tuple (c : Ctx Γ X Wx) : BltOk X ("tuple" : Str) gTuple := .inr ⟨"tuple", _, boot_tuple, call_tuple_of, l_tuple⟩
theorem boot_divmod : bootBuiltins ("divmod" : Str) = some (.builtin "divmod") := by kernel_rfl
theorem blt_divmod (c : Ctx Γ X Wx) : BltOk X ("divmod" : Str) gDivmod := .inl ⟨"divmod", _, boot_divmod, call_divmodW, l_divmod⟩
theorem boot_repr : bootBuiltins ("repr" : Str) = some (.builtin "repr") := by kernel_rfl
theorem blt_repr (c : Ctx Γ X Wx) : BltOk X ("repr" : Str) gRepr := .inl ⟨"repr", _, boot_repr, (call_reprQ c.sys c.u128 c.gu), l_qs⟩
def bltL (Γ : Gam) : List (Str × Gs) := [("len", gLen), ("isinstance", (gIsi Γ.tbl Γ.cs)), ("abs", gAbs), ("max", gMax), ("min", gMin), ("sum", gSum), ("all", gAll), ("any", gAny), ("list", gList), ("tuple", gTuple), ("divmod", gDivmod), ("repr", gRepr)]
def bltG (Γ : Gam) (x : Str) : Option Gs := assocS (bltL Γ) x
theorem bltG_ok (c : Ctx Γ X Wx) {x : Str} {g : Gs} (h : bltG Γ x = some g) : BltOk X x g := by
  have m := assocS_ok h
  unfold bltL at m
  rcases List.mem_cons.mp m with e | m
  · obtain ⟨rfl, rfl⟩ := Prod.mk.inj e; exact blt_len c
  rcases List.mem_cons.mp m with e | m
  · obtain ⟨rfl, rfl⟩ := Prod.mk.inj e; exact blt_isinstance c
  rcases List.mem_cons.mp m with e | m
  · obtain ⟨rfl, rfl⟩ := Prod.mk.inj e; exact blt_abs c
  rcases List.mem_cons.mp m with e | m
  · obtain ⟨rfl, rfl⟩ := Prod.mk.inj e; exact blt_max c
  rcases List.mem_cons.mp m with e | m
  · obtain ⟨rfl, rfl⟩ := Prod.mk.inj e; exact blt_min c
  rcases List.mem_cons.mp m with e | m
  · obtain ⟨rfl, rfl⟩ := Prod.mk.inj e; exact blt_sum c
  rcases List.mem_cons.mp m with e | m
  · obtain ⟨rfl, rfl⟩ := Prod.mk.inj e; exact blt_all c
  rcases List.mem_cons.mp m with e | m
  · obtain ⟨rfl, rfl⟩ := Prod.mk.inj e; exact blt_any c
  rcases List.mem_cons.mp m with e | m
  · obtain ⟨rfl, rfl⟩ := Prod.mk.inj e; exact blt_list c
  rcases List.mem_cons.mp m with e | m
  · obtain ⟨rfl, rfl⟩ := Prod.mk.inj e; exact blt_tuple c
  rcases List.mem_cons.mp m with e | m
  · obtain ⟨rfl, rfl⟩ := Prod.mk.inj e; exact blt_divmod c
  rcases List.mem_cons.mp m with e | m
  · obtain ⟨rfl, rfl⟩ := Prod.mk.inj e; exact blt_repr c
  cases m
def callE (Γ : Gam) (E : Expr → ME) (x : Str) (args : List Expr) : ME :=
  if args.all notStar && !odd x && decide (Γ.sc.names.lookup x = some .globalImplicit) then (match assocS Γ.defs x with
    | some (n, t) => mcall n t (evA E args)
    | none => if Γ.free.contains x then (match args, bltG Γ x with
      | _ :: _, some g => mfn g (evA E args)
      | _, _ => mno) else mno) else mno
theorem callE_ok (c : Ctx Γ X Wx) {E : Expr → ME} (h : ∀ e, PE X e (tM X.K Wx (E e))) (x : Str) (p : Pos) (args : List Expr) (pos : Pos) : PE X (.Call (.Name x p) args [] pos) (tM X.K Wx (callE Γ E x args)) := by
  unfold callE
  split
  · rename_i hc
    simp only [Bool.and_eq_true, Bool.not_eq_true', decide_eq_true_eq] at hc
    obtain ⟨⟨hs, ho⟩, hk⟩ := hc
    obtain ⟨o1, o2, o3⟩ := odd_ok ho
    split
    · rename_i n t ed
      obtain ⟨f, h1, h2⟩ := c.df _ (assocS_ok ed)
      cases args with
      | nil => exact pm_call0 h2 c.room c.gu c.tk (c.gl hk) h1 o1
      | cons e es =>
        simp only [List.all_cons, Bool.and_eq_true] at hs
        exact pm_call h2 c.room c.gu c.tk (c.gl hk) h1 (evA_ok h _) o1 (starEach_cons hs.1) (backTo_no hs.2)
    · split
      · rename_i hf
        split
        · rename_i e es g eg
          simp only [List.all_cons, Bool.and_eq_true] at hs
          rcases bltG_ok c eg with ⟨id, r, b1, b2, b3⟩ | ⟨T, r, b1, b2, b3⟩
          · exact pm_callB b2 b3 (c.gl hk) (c.frm hf) b1 (evA_ok h _) o3 o1 (starEach_cons hs.1) (backTo_no hs.2)
          · exact pm_callTy b2 b3 (c.gl hk) (c.frm hf) b1 (evA_ok h _) o3 o1 (starEach_cons hs.1) (backTo_no hs.2)
        · exact pm_no
      · exact pm_no
  · exact pm_no
/-! ### methods of built-in types -/
def MthOk (X : Cx) (m : Str) (T : String) (g : GM) : Prop := ∃ id, T ≠ "" ∧ PlainAttrs T ∧ Slot T m id ∧ typeOf (.builtin id) = pure (.type "method_descriptor") ∧ MtR X id (rQm X.K g)
/-- methods without arguments, with -/
def methL0 : List (Str × String × GM) := [("pop", "list", gPop)]
def methL1 : List (Str × String × GM) := [("append", "list", gAppend), ("join", "str", gJoin)]
theorem methL0_ok {m : Str} {q : String × GM} (h : assocS methL0 m = some q) : MthOk X m q.1 q.2 := by
  have z := assocS_ok h
  unfold methL0 at z
  rcases List.mem_cons.mp z with e | z
  · obtain ⟨rfl, rfl⟩ := Prod.mk.inj e; exact ⟨_, by decide, PySem.F.plainAttrs_list, PySem.F.slot_list_pop, PySem.F.type_list_pop, mt_popQ⟩
  cases z
theorem methL1_ok {m : Str} {q : String × GM} (h : assocS methL1 m = some q) : MthOk X m q.1 q.2 := by
  have z := assocS_ok h
  unfold methL1 at z
  rcases List.mem_cons.mp z with e | z
  · obtain ⟨rfl, rfl⟩ := Prod.mk.inj e; exact ⟨_, by decide, PySem.F.plainAttrs_list, PySem.F.slot_list_append, PySem.F.type_list_append, mt_appendQ⟩
  rcases List.mem_cons.mp z with e | z
  · obtain ⟨rfl, rfl⟩ := Prod.mk.inj e; exact ⟨_, by decide, PySem.F.plainAttrs_str, PySem.F.slot_str_join, PySem.F.type_str_join, mt_joinQ⟩
  cases z
def methE (E : Expr → ME) (o : Expr) (m : Str) (ap : Pos) (args : List Expr) (pos : Pos) : ME :=
  if args.all notStar && notSuper o && (ap.endLine == pos.line) && decide (args.length < 30) then (match args with
    | [] => (match assocS methL0 m with
      | some q => mbm q.1 q.2 (E o) mnil
      | none => mno)
    | e :: es => (match assocS methL1 m with
      | some q => mbm q.1 q.2 (E o) (evA E (e :: es))
      | none => mno)) else mno
theorem methE_ok {E : Expr → ME} (h : ∀ e, PE X e (tM X.K Wx (E e))) (o : Expr) (m : Str) (ap : Pos) (args : List Expr) (pos : Pos) : PE X (.Call (.Attribute o m ap) args [] pos) (tM X.K Wx (methE E o m ap args pos)) := by
  unfold methE
  split
  · rename_i hc
    simp only [Bool.and_eq_true, decide_eq_true_eq] at hc
    obtain ⟨⟨⟨hs, ho⟩, hl⟩, hn⟩ := hc
    cases args with
    | nil =>
      dsimp only
      split
      · rename_i q eq
        obtain ⟨id, m1, m2, m3, m4, m5⟩ := methL0_ok eq
        exact pm_bm0 m1 m2 m3 m4 m5 (h o) (base_of ho) hl
      · exact pm_no
    | cons e es =>
      dsimp only
      split
      · rename_i q eq
        obtain ⟨id, m1, m2, m3, m4, m5⟩ := methL1_ok eq
        have few : ((backTo pos (starEach (e :: es) X.env)).all (fun x => !x.1) && (backToKw pos (keywordEach [] X.env)).all (fun x => x.1.isSome) && decide ((e :: es).length + ([] : List Keyword).length + (if ([] : List Keyword).isEmpty then 0 else 1) < 30)) = true := by
          rw [backTo_all hs]
          show (true && true && decide ((e :: es).length + 0 + 0 < 30)) = true
          rw [decide_eq_true (by simpa using hn)] <;> rfl
        simp only [List.all_cons, Bool.and_eq_true] at hs
        exact pm_bm m1 m2 m3 m4 m5 (h o) (evA_ok h _) (base_of ho) few hl (starEach_cons hs.1) (backTo_no hs.2)
      · exact pm_no
  · exact pm_no
end
end Vm

/-! Vm15: iterators, comprehensions, expressions, tests. -/
namespace Vm
open PySem PySem.Spec PyProof.Rows L2
section
variable {Γ : Gam} {X : Cx} {Wx : WX}
/-! ### what is walked -/
def evI (Γ : Gam) (E : Expr → ME) (iter : Expr) : MI := match iter with
  | .Call (.Name x p) args [] pos => if x = ("range" : Str) then
      (if args.all notStar && decide (Γ.sc.names.lookup x = some .globalImplicit) && Γ.free.contains x then (match args with
        | [_] => mirng1 (evA E args)
        | [_, _] => mirng2 (evA E args)
        | [_, _, _] => mirng3 (evA E args)
        | _ => mino) else mino) else mival (E iter)
  | _ => mival (E iter)
theorem evI_ok (c : Ctx Γ X Wx) {E : Expr → ME} (h : ∀ e, PE X e (tM X.K Wx (E e))) (tg iter : Expr) : PI X tg iter (tMI X.K Wx (evI Γ E iter)) := by
  unfold evI
  split
  · rename_i x p args pos
    split
    · rename_i ex
      subst ex
      split
      · rename_i hc
        simp only [Bool.and_eq_true, decide_eq_true_eq] at hc
        obtain ⟨⟨hs, hk⟩, hf⟩ := hc
        split
        · rename_i a
          simp only [List.all_cons, Bool.and_eq_true] at hs
          exact qi_range1 (c.gl hk) (c.frm hf) (evA_ok h _) (starEach_cons hs.1)
        · rename_i a b
          simp only [List.all_cons, Bool.and_eq_true] at hs
          exact qi_range2 (c.gl hk) (c.frm hf) (evA_ok h _) (by rw [starEach_cons hs.1, starEach_cons hs.2.1]; rfl) (starEach_cons hs.2.1)
        · rename_i a b d
          simp only [List.all_cons, Bool.and_eq_true] at hs
          exact qi_range3 (c.gl hk) (c.frm hf) (evA_ok h _) (starEach_cons hs.1) (backTo_no (by simp only [List.all_cons, Bool.and_eq_true]; exact hs.2))
        · exact qi_no
      · exact qi_no
    · exact qi_val (h _)
  · exact qi_val (h _)
/-! ### comprehensions -/
def okN (Γ : Gam) (x : Str) : Bool := (decide (Γ.sc.names.lookup x = some .local) || decide (Γ.sc.names.lookup x = some .cell)) && (Γ.fn x || decide (Γ.sc.names.lookup x = some .local))
theorem okN_ok (c : Ctx Γ X Wx) {x : Str} (h : okN Γ x = true) : L2.Loc X.env.scope x ∧ (X.fn x = true ∨ X.env.scope.names.lookup x = some .local) := by
  unfold okN at h
  simp only [Bool.and_eq_true, Bool.or_eq_true, decide_eq_true_eq] at h
  rw [L2.Loc, c.sc, c.fn]
  exact h
def nmsOf (Γ : Gam) : List Expr → Option (List Nat)
  | [] => some []
  | .Name x _ :: es => if okN Γ x then (match slotOf Γ.N x, nmsOf Γ es with
    | some i, some is => some (i :: is)
    | _, _ => none) else none
  | _ :: _ => none
def tgtOf (Γ : Gam) : Expr → Option Tgt
  | .Name x _ => if okN Γ x then (slotOf Γ.N x).map .nm else none
  | .Tuple es _ _ => (nmsOf Γ es).map .tp
  | _ => none
theorem nmsOf_ok (c : Ctx Γ X Wx) : ∀ {es : List Expr} {is : List Nat}, nmsOf Γ es = some is → PGs X es (gNames is) ∧ (assignEach es X.env).length = is.length ∧ (assignEach es X.env).findIdx? (·.1) = none
  | [], _, h => by cases h; exact ⟨pgs_nil, rfl, rfl⟩
  | e :: es, is, h => by
    unfold nmsOf at h
    split at h
    · rename_i e0; cases e0
    · rename_i _ x p es' e0
      cases e0
      split at h
      · rename_i ho
        split at h
        · rename_i i js ei ej
          cases h
          obtain ⟨h1, h2, h3⟩ := nmsOf_ok c ej
          obtain ⟨o1, o2⟩ := okN_ok c ho
          refine ⟨pgs_cons (pg_name c.nd (by rw [c.N]; exact slotOf_ok ei) o1 o2) h1 rfl, ?_, ?_⟩
          · show (assignEach es X.env).length + 1 = js.length + 1
            rw [h2]
          · show List.findIdx? (·.1) ((false, assign (.Name x p) X.env) :: assignEach es X.env) = none
            rw [List.findIdx?_cons, h3]; rfl
        · cases h
      · cases h
    · cases h
theorem tgtOf_ok (c : Ctx Γ X Wx) {tg : Expr} {t : Tgt} (h : tgtOf Γ tg = some t) : PG X tg (t.g X.K) := by
  unfold tgtOf at h
  split at h
  · rename_i x p
    split at h
    · rename_i ho
      obtain ⟨i, ei, rfl⟩ := Option.map_eq_some_iff.mp h
      obtain ⟨o1, o2⟩ := okN_ok c ho
      exact pg_name c.nd (by rw [c.N]; exact slotOf_ok ei) o1 o2
    · cases h
  · rename_i es k p
    obtain ⟨is, ei, rfl⟩ := Option.map_eq_some_iff.mp h
    obtain ⟨h1, h2, h3⟩ := nmsOf_ok c ei
    exact pg_tup c.calm h1 h2 h3
  · cases h
def ownOf (N : List Str) (sc : Scope) : List (Str × Nat) := sc.names.filterMap fun p => if p.2 == .local || p.2 == .cell then (slotOf N p.1).map (p.1, ·) else none
def blkG (Γ : Gam) (sc : Scope) : Gam :=
  { Γ with sc := { sc with names := sc.names.map fun (n, k) => if (k == .free && Γ.sc.kind == .function && Γ.sc.names.lookup n == some .cell) then (n, .cell) else (n, k) }, fn := fun x => sc.names.lookup x == some .cell }
theorem blkG_ok (c : Ctx Γ X Wx) {sc : Scope} (hk : sc.kind = .function) (s : Shared) (H : Hp) (C : Addr) (cl : List (Str × Addr)) (fp : List Addr) : Ctx (blkG Γ sc) (X.blk s H sc (compEnvC sc cl C X.env) fp) WxF where
  N := c.N
  nd := c.nd
  sc := by
    show relabel sc X.env = _
    unfold relabel Env.kindOf
    rw [c.sc]; rfl
  kind := hk
  fn := rfl
  calm := c.calm
  tk := takesF
  hu := c.hu
  gu := c.gu
  room := c.room
  sys := c.sys
  fr := c.fr
  con := c.con
  df := fun d hd => by
    obtain ⟨f, h1, h2⟩ := c.df d hd
    exact ⟨f, h1, ⟨h2.ex⟩⟩
  isa := c.isa
def evIfs (T : Expr → MT) : List Expr → MT
  | [] => myes
  | [c] => T c
  | _ => mtno
def compE (E : Gam → Expr → ME) (T : Gam → Expr → MT) (Γ : Gam) (elt : Expr) (gs : List Comprehension) (sc : Scope) : ME := match gs with
  | [⟨tg, iter, ifs, 0⟩] => if blkC Γ.N Γ.sc sc (ownOf Γ.N sc) && notSet iter && decide (sc.kind = .function) then (match tgtOf (blkG Γ sc) tg with
    | some t => if t.sub ((ownOf Γ.N sc).map (·.2)) then mlc (evI Γ (E Γ) iter) t (evIfs (T (blkG Γ sc)) ifs) (E (blkG Γ sc) elt) ((ownOf Γ.N sc).map (·.2)) else mno
    | none => mno) else mno
  | _ => mno
/-- a family of meanings serves -/
structure EOk (E : Gam → Expr → ME) (T : Gam → Expr → MT) : Prop where
  E : ∀ (Γ : Gam) (X : Cx) (Wx : WX), Ctx Γ X Wx → ∀ e, PE X e (tM X.K Wx (E Γ e))
  T : ∀ (Γ : Gam) (X : Cx) (Wx : WX), Ctx Γ X Wx → ∀ e, PT X e (tMt X.K Wx (T Γ e))
theorem evIfs_ok {Y : Cx} {T : Expr → MT} (h : ∀ e, PT Y e (tMt Y.K WxF (T e))) (ifs : List Expr) : PTs Y ifs (tMt Y.K WxF (evIfs T ifs)) := by
  unfold evIfs
  split
  · exact pts_yes
  · exact pts_one (h _)
  · exact ⟨fun _ _ _ _ _ _ ⟨_, _, _, _, _, h⟩ => h.elim⟩
theorem compE_ok {E : Gam → Expr → ME} {T : Gam → Expr → MT} (ok : EOk E T) (c : Ctx Γ X Wx) (elt : Expr) (gs : List Comprehension) (sc : Scope) (pos : Pos) : PE X (.ListComp elt gs sc pos) (tM X.K Wx (compE E T Γ elt gs sc)) := by
  unfold compE
  split
  · rename_i tg iter ifs
    split
    · rename_i hc
      simp only [Bool.and_eq_true, decide_eq_true_eq] at hc
      obtain ⟨⟨hb, hn⟩, hk⟩ := hc
      split
      · rename_i t et
        split
        · rename_i hv
          have cb := fun s H C cl fp => blkG_ok c hk s H C cl fp
          refine pm_lc c.calm c.nd (evI_ok c (ok.E _ _ _ c) tg iter) (by rw [c.N, c.sc]; exact blkOk_by hb) hv (fun s H C cl fp => tgtOf_ok (cb s H C cl fp) et) (fun s H C cl fp => ?_) (fun s H C cl fp => ok.E _ _ _ (cb s H C cl fp) elt) (folded_of hn)
          exact evIfs_ok (ok.T _ _ _ (cb s H C cl fp)) ifs
        · exact pm_no
      · exact pm_no
    · exact pm_no
  · exact pm_no
/-- the comprehension is the value of that name's store, on its line -/
def swB (Γ : Gam) (y : Str) (py : Pos) (sc : Scope) (pos : Pos) : Bool := decide (Γ.sc.names.lookup y = some .local) && py.line == pos.line && !(sc.names.any fun (n, k) => n == y && (k == .local || k == .cell))
theorem swB_ok (c : Ctx Γ X Wx) {elt : Expr} {gs : List Comprehension} {sc : Scope} {pos py : Pos} {y : Str} {l : Nat} : swapsWith (.ListComp elt gs sc pos) (some (.Name y py)) l X.env = pure (swB Γ y py sc pos) := by
  have hb : X.env.blockKind = .function := by unfold Env.blockKind; rw [c.sc, c.kind]; rfl
  unfold swapsWith swB
  have hk : X.env.kindOf y = Γ.sc.names.lookup y := by unfold Env.kindOf; rw [c.sc]
  simp only [hb, hk, Expr.pos]
  have e1 : (ScopeKind.function == ScopeKind.function) = true := rfl
  rw [e1, Bool.true_and]
  by_cases h : Γ.sc.names.lookup y = some .local
  · rw [h]; rfl
  · have : (Γ.sc.names.lookup y == some NameKind.local) = false := by simpa using h
    rw [this, decide_eq_false h]
theorem compS_ok {E : Gam → Expr → ME} {T : Gam → Expr → MT} (ok : EOk E T) (c : Ctx Γ X Wx) {i : Nat} {y : Str} (hi : Γ.N[i]? = some y) (ho : okN Γ y = true) (py : Pos) (elt : Expr) (gs : List Comprehension) (sc : Scope) (pos spos : Pos) :
    PS X (.Assign [.Name y py] (.ListComp elt gs sc pos) spos) (tMS X.K Wx (sset i (compE E T Γ elt gs sc))) := by
  obtain ⟨o1, o2⟩ := okN_ok c ho
  cases hsw : swB Γ y py sc pos with
  | false => exact q_set c.nd (by rw [c.N]; exact hi) o1 (compE_ok ok c elt gs sc pos) (by rw [swB_ok c, hsw]) o2
  | true =>
    have hyl : X.env.scope.names.lookup y = some .local := by
      unfold swB at hsw
      simp only [Bool.and_eq_true, decide_eq_true_eq] at hsw
      rw [c.sc]; exact hsw.1.1
    have no : PS X (.Assign [.Name y py] (.ListComp elt gs sc pos) spos) (tMS X.K Wx (sset i mno)) := ⟨fun _ _ _ _ _ _ ⟨_, _, _, _, _, h⟩ => h.elim⟩
    unfold compE
    split
    · rename_i tg iter ifs
      split
      · rename_i hc
        simp only [Bool.and_eq_true, decide_eq_true_eq] at hc
        obtain ⟨⟨hb, hn⟩, hk⟩ := hc
        split
        · rename_i t et
          split
          · rename_i hv
            have cb := fun s H C cl fp => blkG_ok c hk s H C cl fp
            refine q_setLc c.calm c.nd (by rw [c.N]; exact hi) hyl (by rw [swB_ok c, hsw]) (evI_ok c (ok.E _ _ _ c) tg iter) (by rw [c.N, c.sc]; exact blkOk_by hb) hv (fun s H C cl fp => tgtOf_ok (cb s H C cl fp) et) (fun s H C cl fp => ?_) (fun s H C cl fp => ok.E _ _ _ (cb s H C cl fp) elt) (folded_of hn)
            exact evIfs_ok (ok.T _ _ _ (cb s H C cl fp)) ifs
          · exact no
        · exact no
      · exact no
    · exact no
end
end Vm

/-! Vm16: the meanings of expressions and tests, by depth. -/
namespace Vm
open PySem PySem.Spec PyProof.Rows L2
section
variable {Γ : Gam} {X : Cx} {Wx : WX}
def evBV (op : BoolOp) (E : Expr → ME) : List Expr → ME
  | [] => mno
  | [a] => E a
  | a :: b :: r => match op with
    | .And => mandV (E a) (evBV op E (b :: r))
    | .Or => morV (E a) (evBV op E (b :: r))
theorem evBV_ok {E : Expr → ME} (h : ∀ e, PE X e (tM X.K Wx (E e))) (op : BoolOp) (pos : Pos) : ∀ vs : List Expr, PE X (.BoolOp op vs pos) (tM X.K Wx (evBV op E vs))
  | [] => pm_no
  | [a] => pm_one (h a)
  | a :: b :: r => by
    cases op with
    | And => exact pm_andV (h a) (evBV_ok h .And pos (b :: r))
    | Or => exact pm_orV (h a) (evBV_ok h .Or pos (b :: r))
def evBT (op : BoolOp) (T : Expr → MT) : List Expr → MT
  | [] => mtno
  | [a] => T a
  | a :: b :: r => match op with
    | .And => mand (T a) (evBT op T (b :: r))
    | .Or => mor (T a) (evBT op T (b :: r))
theorem evBT_ok {T : Expr → MT} (h : ∀ e, PT X e (tMt X.K Wx (T e))) (op : BoolOp) (pos : Pos) : ∀ vs : List Expr, PW X (.BoolOp op vs pos) (tMt X.K Wx (evBT op T vs))
  | [] => pmw_no
  | [a] => by
    cases op with
    | And => exact pmw_and1 (h a)
    | Or => exact pmw_or1 (h a)
  | a :: b :: r => by
    cases op with
    | And => exact pmw_and (h a) (evBT_ok h .And pos (b :: r))
    | Or => exact pmw_or (h a) (evBT_ok h .Or pos (b :: r))
def evP (E : Expr → ME) : List (Option Expr) → List Expr → MPs
  | [], [] => pnil
  | some k :: ks, v :: vs => pcons (E k) (E v) (evP E ks vs)
  | _, _ => mpno
theorem evP_ok {E : Expr → ME} (h : ∀ e, PE X e (tM X.K Wx (E e))) (pos : Pos) : ∀ (ks : List (Option Expr)) (vs : List Expr), ∃ trs, PPs X pos ks vs trs ∧ PPm X.K Wx trs (evP E ks vs)
  | [], [] => ⟨[], pps_nil, ppm_nil⟩
  | some k :: ks, v :: vs => by
    obtain ⟨trs, h1, h2⟩ := evP_ok h pos ks vs
    exact ⟨_, pps_cons (h k) (h v) h1, ppm_cons h2⟩
  | [], v :: vs => ⟨[(fun _ _ _ => False, fun _ _ _ => False)], ⟨fun _ _ _ _ _ _ q => q.elim⟩, ⟨fun _ _ _ _ _ _ _ _ q => q.elim⟩⟩
  | k :: ks, [] => ⟨[(fun _ _ _ => False, fun _ _ _ => False)], ⟨fun _ _ _ _ _ _ q => q.elim⟩, ⟨fun _ _ _ _ _ _ _ _ q => by cases k <;> exact q.elim⟩⟩
  | none :: ks, v :: vs => ⟨[(fun _ _ _ => False, fun _ _ _ => False)], ⟨fun _ _ _ _ _ _ q => q.elim⟩, ⟨fun _ _ _ _ _ _ _ _ q => q.elim⟩⟩
def evO (E : Expr → ME) : Option Expr → MO
  | none => mnop
  | some e => mpart (E e)
theorem evO_ok {E : Expr → ME} (h : ∀ e, PE X e (tM X.K Wx (E e))) : ∀ o : Option Expr, PO X o (tMo X.K Wx (evO E o))
  | none => pmo_none
  | some e => pmo_some (h e)
/-! the constructors one by one -/
def unE (op : UnaryOp) (a : ME) : ME := match op with
  | .USub => mun gNeg a
  | .Not => mnotV a
  | _ => mno
theorem unE_ok {a : Expr} {ma : ME} (op : UnaryOp) (pos : Pos) (h : PE X a (tM X.K Wx ma)) : PE X (.UnaryOp op a pos) (tM X.K Wx (unE op ma)) := by
  cases op with
  | USub => exact pm_un un_neg l_neg h
  | Not => exact pm_notV h
  | _ => exact pm_no
def cmp1 (op : CmpOp) (a : ME) (e : Expr) (b : ME) : ME := if notSet e then (match cmpG op with
    | some g => mbin g a b
    | none => mno) else mno
def cmp2 (op op' : CmpOp) (a b : ME) (e : Expr) (c : ME) : ME := if notSet e then (match cmpG op, cmpG op' with
    | some g, some g' => mchain g g' a b c
    | _, _ => mno) else mno
def cmpE (E : Expr → ME) (a : Expr) : List CmpOp → List Expr → ME
  | [op], [b] => cmp1 op (E a) b (E b)
  | [op, op'], [b, c] => cmp2 op op' (E a) (E b) c (E c)
  | _, _ => mno
theorem cmpE_ok (c : Ctx Γ X Wx) {E : Expr → ME} (h : ∀ e, PE X e (tM X.K Wx (E e))) (a : Expr) (pos : Pos) : ∀ (ops : List CmpOp) (cs : List Expr), PE X (.Compare a ops cs pos) (tM X.K Wx (cmpE E a ops cs))
  | [op], [b] => by
    show PE X _ (tM X.K Wx (cmp1 op (E a) b (E b)))
    unfold cmp1
    split
    · rename_i hs
      split
      · rename_i g eg
        obtain ⟨r, h1, h2⟩ := cmpG_ok c eg
        exact pm_cmp h1 h2 (h _) (h _) (behind_of hs)
      · exact pm_no
    · exact pm_no
  | [op, op'], [b, d] => by
    show PE X _ (tM X.K Wx (cmp2 op op' (E a) (E b) d (E d)))
    unfold cmp2
    split
    · rename_i hs
      split
      · rename_i g g' eg eg'
        obtain ⟨r, h1, h2⟩ := cmpG_ok c eg
        obtain ⟨r', h1', h2'⟩ := cmpG_ok c eg'
        exact pm_chain h1 h2 h1' h2' (h _) (h _) (h _) (behind_of hs)
      · exact pm_no
    · exact pm_no
  | [], _ => pm_no
  | [_], [] => pm_no
  | [_], _ :: _ :: _ => pm_no
  | [_, _], [] => pm_no
  | [_, _], [_] => pm_no
  | [_, _], _ :: _ :: _ :: _ => pm_no
  | _ :: _ :: _ :: _, _ => pm_no
def dictE (E : Expr → ME) (ks : List (Option Expr)) (vs : List Expr) : ME :=
  if ks.isEmpty && vs.isEmpty then mdnew else if ks.all (·.isSome) && decide (ks.length = vs.length) && decide (ks.length ≤ 15) && !ks.isEmpty then mdisp (evP E ks vs) else mno
theorem dictE_ok {E : Expr → ME} (h : ∀ e, PE X e (tM X.K Wx (E e))) (ks : List (Option Expr)) (vs : List Expr) (pos : Pos) : PE X (.Dict ks vs pos) (tM X.K Wx (dictE E ks vs)) := by
  unfold dictE
  split
  · rename_i hc
    cases ks with
    | nil => cases vs with
      | nil => exact pm_dnew
      | cons _ _ => cases hc
    | cons _ _ => cases hc
  · split
    · rename_i hc
      simp only [Bool.and_eq_true, decide_eq_true_eq] at hc
      obtain ⟨trs, h1, h2⟩ := evP_ok h pos ks vs
      refine pm_disp h1 h2 hc.1.1.1 hc.1.1.2 (fun e => ?_) hc.1.2
      subst e
      cases hc.2
    · exact pm_no
def subE (E : Expr → ME) (a b : Expr) : ME := match b with
  | .Slice lo hi st _ => (match st with
    | none => mslice (E a) (evO E lo) (evO E hi)
    | some _ => mno)
  | b => mbin gIx (E a) (E b)
theorem subE_ok (c : Ctx Γ X Wx) {E : Expr → ME} (h : ∀ e, PE X e (tM X.K Wx (E e))) (a b : Expr) (pos : Pos) : PE X (.Subscript a b pos) (tM X.K Wx (subE E a b)) := by
  have go : notSlice b = true → PE X (.Subscript a b pos) (tM X.K Wx (mbin gIx (E a) (E b))) := fun hb => pm_ix (ix_Q c.u1) l_q2 (h _) (h _) (plainIx_of hb)
  cases b with
  | Slice lo hi st p =>
    cases st with
    | none => exact pm_slice (h _) (evO_ok h _) (evO_ok h _)
    | some _ => exact pm_no
  | _ => exact go rfl
def callX (Γ : Gam) (E : Expr → ME) (f : Expr) (args : List Expr) (kws : List Keyword) (pos : Pos) : ME := match kws with
  | [] => (match f with
    | .Name x _ => callE Γ E x args
    | .Attribute o m ap => methE E o m ap args pos
    | _ => mno)
  | _ :: _ => mno
theorem callX_ok (c : Ctx Γ X Wx) {E : Expr → ME} (h : ∀ e, PE X e (tM X.K Wx (E e))) (f : Expr) (args : List Expr) (kws : List Keyword) (pos : Pos) : PE X (.Call f args kws pos) (tM X.K Wx (callX Γ E f args kws pos)) := by
  cases kws with
  | cons _ _ => exact pm_no
  | nil =>
    cases f with
    | Name x p => exact callE_ok c h x p args pos
    | Attribute o m ap => exact methE_ok h o m ap args pos
    | _ => exact pm_no
def stepE (E : Gam → Expr → ME) (T : Gam → Expr → MT) (Γ : Gam) (e : Expr) : ME := match e with
  | .Name x _ => nameE Γ x
  | .Constant c _ _ => constE c
  | .BinOp a op b _ => binE op (E Γ a) (E Γ b)
  | .UnaryOp op a _ => unE op (E Γ a)
  | .BoolOp op vs _ => evBV op (E Γ) vs
  | .Compare a ops cs _ => cmpE (E Γ) a ops cs
  | .IfExp t a b _ => mif (T Γ t) (E Γ a) (E Γ b)
  | .Tuple es _ _ => mtup (evA (E Γ) es)
  | .List es _ => mlst (evA (E Γ) es)
  | .Dict ks vs _ => dictE (E Γ) ks vs
  | .Subscript a b _ => subE (E Γ) a b
  | .Call f args kws pos => callX Γ (E Γ) f args kws pos
  | .ListComp elt gs sc _ => compE E T Γ elt gs sc
  | _ => mno
def cmp1T (op : CmpOp) (a : ME) (e : Expr) (b : ME) : MT := if notSet e then (match cmpG op with
    | some g => mtb (mbin g a b)
    | none => mtno) else mtno
def cmp2T (op op' : CmpOp) (a b : ME) (e : Expr) (c : ME) : MT := if notSet e then (match cmpG op, cmpG op' with
    | some g, some g' => mtb (mchain g g' a b c)
    | _, _ => mtno) else mtno
def cmpT (E : Expr → ME) (a : Expr) : List CmpOp → List Expr → MT
  | [op], [b] => cmp1T op (E a) b (E b)
  | [op, op'], [b, c] => cmp2T op op' (E a) (E b) c (E c)
  | _, _ => mtno
theorem cmpT_ok (c : Ctx Γ X Wx) {E : Expr → ME} (h : ∀ e, PE X e (tM X.K Wx (E e))) (a : Expr) (pos : Pos) : ∀ (ops : List CmpOp) (cs : List Expr), PT X (.Compare a ops cs pos) (tMt X.K Wx (cmpT E a ops cs))
  | [op], [b] => by
    show PT X _ (tMt X.K Wx (cmp1T op (E a) b (E b)))
    unfold cmp1T
    split
    · rename_i hs
      split
      · rename_i g eg
        obtain ⟨r, h1, h2⟩ := cmpG_ok c eg
        exact pmt_cmp h1 h2 (h _) (h _) (behind_of hs)
      · exact pmt_no
    · exact pmt_no
  | [op, op'], [b, d] => by
    show PT X _ (tMt X.K Wx (cmp2T op op' (E a) (E b) d (E d)))
    unfold cmp2T
    split
    · rename_i hs
      split
      · rename_i g g' eg eg'
        obtain ⟨r, h1, h2⟩ := cmpG_ok c eg
        obtain ⟨r', h1', h2'⟩ := cmpG_ok c eg'
        exact pmt_chain h1 h2 h1' h2' (h _) (h _) (h _) (behind_of hs)
      · exact pmt_no
    · exact pmt_no
  | [], _ => pmt_no
  | [_], [] => pmt_no
  | [_], _ :: _ :: _ => pmt_no
  | [_, _], [] => pmt_no
  | [_, _], [_] => pmt_no
  | [_, _], _ :: _ :: _ :: _ => pmt_no
  | _ :: _ :: _ :: _, _ => pmt_no
def unT (E : Expr → ME) (T : Expr → MT) (op : UnaryOp) (a : Expr) (e : Expr) : MT := match op with
  | .Not => mnot (T a)
  | _ => mtru gtru (E e)
def stepT (E : Gam → Expr → ME) (T : Gam → Expr → MT) (Γ : Gam) (e : Expr) : MT := match e with
  | .UnaryOp op a p => unT (E Γ) (T Γ) op a (.UnaryOp op a p)
  | .BoolOp op vs _ => evBT op (T Γ) vs
  | .Compare a ops cs _ => cmpT (E Γ) a ops cs
  | .IfExp _ _ _ _ => mtno
  | e => mtru gtru (E Γ e)
theorem stepE_ok {E : Gam → Expr → ME} {T : Gam → Expr → MT} (ok : EOk E T) (c : Ctx Γ X Wx) (e : Expr) : PE X e (tM X.K Wx (stepE E T Γ e)) := by
  have hE := ok.E Γ X Wx c
  have hT := ok.T Γ X Wx c
  cases e with
  | Name x p => exact nameE_ok c _ _
  | Constant k j p => exact constE_ok _ _ _
  | BinOp a op b p => exact binE_ok _ _ (hE _) (hE _)
  | UnaryOp op a p => exact unE_ok _ _ (hE _)
  | BoolOp op vs p => exact evBV_ok hE _ _ _
  | Compare a ops cs p => exact cmpE_ok c hE _ _ _ _
  | IfExp t a b p => exact pm_if (hT _) (hE _) (hE _)
  | Tuple es k p => exact pm_tup (evA_ok hE _)
  | List es p => exact pm_lst (evA_ok hE _)
  | Dict ks vs p => exact dictE_ok hE _ _ _
  | Subscript a b p => exact subE_ok c hE _ _ _
  | Call f args kws p => exact callX_ok c hE _ _ _ _
  | ListComp elt gs sc p => exact compE_ok ok c _ _ _ _
  | _ => exact pm_no
theorem stepT_ok {E : Gam → Expr → ME} {T : Gam → Expr → MT} (ok : EOk E T) (c : Ctx Γ X Wx) (e : Expr) : PT X e (tMt X.K Wx (stepT E T Γ e)) := by
  have hE := ok.E Γ X Wx c
  have hT := ok.T Γ X Wx c
  cases e with
  | UnaryOp op a p =>
    cases op with
    | Not => exact pmt_not (hT _)
    | _ => exact pmt_truth (hE _) (isTrue_of rfl)
  | BoolOp op vs p => exact (evBT_ok hT _ _ _).pt
  | Compare a ops cs p => exact cmpT_ok c hE _ _ _ _
  | IfExp _ _ _ _ => exact pmt_no
  | _ => exact pmt_truth (hE _) (isTrue_of rfl)
structure Sm where
  E : Gam → Expr → ME
  T : Gam → Expr → MT
def sem : Nat → Sm
  | 0 => ⟨fun _ _ => mno, fun _ _ => mtno⟩
  | n + 1 => ⟨stepE (sem n).E (sem n).T, stepT (sem n).E (sem n).T⟩
theorem sem_ok : ∀ n : Nat, EOk (sem n).E (sem n).T
  | 0 => ⟨fun _ _ _ _ _ => pm_no, fun _ _ _ _ _ => pmt_no⟩
  | n + 1 => ⟨fun _ _ _ c e => stepE_ok (sem_ok n) c e, fun _ _ _ c e => stepT_ok (sem_ok n) c e⟩
end
end Vm

/-! Vm17: the meanings of statements. -/
namespace Vm
open PySem PySem.Spec PyProof.Rows L2
section
variable {Γ : Gam} {X : Cx} {Wx : WX}
/-! ### targets -/
def evG1 (Γ : Gam) (E : Expr → ME) (tg : Expr) : MG := match tg with
  | .Name x _ => if okN Γ x then (match slotOf Γ.N x with
    | some i => gname i
    | none => mgno) else mgno
  | .Subscript o i _ => if notSlice i then gsub (E o) (E i) gSetI else mgno
  | _ => mgno
theorem evG1_ok (c : Ctx Γ X Wx) {E : Expr → ME} (h : ∀ e, PE X e (tM X.K Wx (E e))) (tg : Expr) : PG X tg (tMG X.K Wx (evG1 Γ E tg)) := by
  cases tg with
  | Name x p =>
    show PG X _ (tMG X.K Wx (if okN Γ x then _ else _))
    split
    · rename_i ho
      obtain ⟨o1, o2⟩ := okN_ok c ho
      split
      · rename_i i ei
        exact qg_name c.nd (by rw [c.N]; exact slotOf_ok ei) o1 o2
      · exact qg_no
    · exact qg_no
  | Subscript o i p =>
    show PG X _ (tMG X.K Wx (if notSlice i then _ else _))
    split
    · rename_i hi
      refine qg_sub (h o) (h i) (set_Q c.u1) fun v => ?_
      cases i <;> first | rfl | cases hi
    · exact qg_no
  | _ => exact qg_no
def evGs (Γ : Gam) (E : Expr → ME) : List Expr → MGs
  | [] => gnil
  | t :: ts => if notStar t then gcons (evG1 Γ E t) (evGs Γ E ts) else mgsno
theorem assignEach_cons {e : Expr} {es : List Expr} {env : Env} (h : notStar e = true) : assignEach (e :: es) env = (false, assign e env) :: assignEach es env := by
  cases e <;> first | rfl | cases h
theorem evGs_ok (c : Ctx Γ X Wx) {E : Expr → ME} (h : ∀ Wx, Ctx Γ X Wx → ∀ e, PE X e (tM X.K Wx (E e))) : ∀ ts : List Expr, PGs X ts (tMGs X.K Wx (evGs Γ E ts))
  | [] => qgs_nil
  | t :: ts => by
    unfold evGs
    split
    · rename_i hs
      exact qgs_cons (evG1_ok c.noraise (h _ c.noraise) t) (evGs_ok c h ts) (by rw [assignEach_cons hs]; rfl)
    · exact qgs_no
theorem assignEach_all {env : Env} : ∀ {ts : List Expr}, ts.all notStar = true → (assignEach ts env).length = ts.length ∧ (assignEach ts env).findIdx? (·.1) = none
  | [], _ => ⟨rfl, rfl⟩
  | t :: ts, h => by
    simp only [List.all_cons, Bool.and_eq_true] at h
    obtain ⟨h1, h2⟩ := assignEach_all (env := env) h.2
    rw [assignEach_cons h.1]
    refine ⟨by simp [h1], ?_⟩
    rw [List.findIdx?_cons, h2]; rfl
def evG (Γ : Gam) (E : Expr → ME) (tg : Expr) : MG := match tg with
  | .Tuple ts _ _ => if ts.all notStar then gtup ts.length (evGs Γ E ts) else mgno
  | tg => evG1 Γ E tg
theorem evG_ok (c : Ctx Γ X Wx) {E : Expr → ME} (h : ∀ Wx, Ctx Γ X Wx → ∀ e, PE X e (tM X.K Wx (E e))) (tg : Expr) : PG X tg (tMG X.K Wx (evG Γ E tg)) := by
  cases tg with
  | Tuple ts k p =>
    show PG X _ (tMG X.K Wx (if ts.all notStar then _ else _))
    split
    · rename_i hs
      obtain ⟨h1, h2⟩ := assignEach_all (env := X.env) hs
      exact qg_tup c.calm (evGs_ok c h ts) h1 h2
    · exact qg_no
  | _ => exact evG1_ok c (h _ c) _
/-! ### assignments -/
def isStarred : Expr → Bool
  | .Starred _ _ => true
  | _ => false
def swN (Γ : Gam) (ts vs : List Expr) : Option (Option (List Str)) :=
  if !(ts.length == 2 || ts.length == 3) || vs.length != ts.length then some none else
  if vs.any isStarred then some none else
  let line := (ts.head?.map (·.pos.line)).getD 0
  let names := ts.filterMap fun
    | .Name id pos => if Γ.sc.names.lookup id == some .local && pos.line == line then some id else none
    | _ => none
  if names.length != ts.length || names.eraseDups.length != names.length then some none else
  if vs.all (foldedForSure 8) then some none else
  if vs.all (constantsAlone 8) then none else some (some names)
theorem Ctx.bk (c : Ctx Γ X Wx) : X.env.blockKind = .function := by unfold Env.blockKind; rw [c.sc, c.kind]; rfl
theorem swN_ok (c : Ctx Γ X Wx) {ts vs : List Expr} {k k' : Nat} {p p' : Pos} {r : Option (List Str)} (h : swN Γ ts vs = some r) : swappedStores [.Tuple ts k p] (.Tuple vs k' p') X.env = pure r := by
  have hk : ∀ y, X.env.kindOf y = Γ.sc.names.lookup y := fun y => by unfold Env.kindOf; rw [c.sc]
  unfold swN at h
  unfold swappedStores
  simp only [c.bk, hk]
  have e1 : (ScopeKind.function != ScopeKind.function) = false := rfl
  rw [e1, Bool.or_false]
  split at h
  · rename_i h1
    cases h
    exact if_pos h1
  · rename_i h1
    refine (if_neg h1).trans ?_
    split at h
    · rename_i h2
      cases h
      exact if_pos h2
    · rename_i h2
      refine (if_neg h2).trans ?_
      dsimp only at h
      split at h
      · rename_i h3
        cases h
        exact if_pos h3
      · rename_i h3
        refine (if_neg h3).trans ?_
        split at h
        · rename_i h4
          cases h
          exact if_pos h4
        · rename_i h4
          refine (if_neg h4).trans ?_
          split at h
          · cases h
          · rename_i h5
            cases h
            exact if_neg h5
end
end Vm

/-! Vm18: the meanings of statements, by depth; a def keeps what its text means. -/
namespace Vm
open PySem PySem.Spec PyProof.Rows L2
section
variable {Γ : Gam} {X : Cx} {Wx : WX}
def lcl (Γ : Gam) (x : Str) : Bool := decide (Γ.sc.names.lookup x = some .local)
def parE (Γ : Gam) (E : Expr → ME) (names : List Str) (ts vs : List Expr) : MS := match ts, vs with
  | [.Name x _, .Name y _], [a, b] => if decide (names = [x, y]) && lcl Γ x && lcl Γ y then (match slotOf Γ.N x, slotOf Γ.N y with
    | some i, some j => if i ≠ j then spar [i, j] (evA E [a, b]) else sno
    | _, _ => sno) else sno
  | [.Name x _, .Name y _, .Name z _], [a, b, d] => if decide (names = [x, y, z]) && lcl Γ x && lcl Γ y && lcl Γ z then (match slotOf Γ.N x, slotOf Γ.N y, slotOf Γ.N z with
    | some i, some j, some l => if i ≠ j ∧ i ≠ l ∧ j ≠ l then spar [i, j, l] (evA E [a, b, d]) else sno
    | _, _, _ => sno) else sno
  | _, _ => sno
theorem lcl_ok (c : Ctx Γ X Wx) {x : Str} (h : lcl Γ x = true) : X.env.scope.names.lookup x = some .local := by
  rw [c.sc]; exact of_decide_eq_true h
theorem parE_ok (c : Ctx Γ X Wx) {E : Expr → ME} (h : ∀ e, PE X e (tM X.K Wx (E e))) {names : List Str} {ts vs : List Expr} {k k' : Nat} {p p' pos : Pos} (hw : swappedStores [.Tuple ts k p] (.Tuple vs k' p') X.env = pure (some names)) :
    PS X (.Assign [.Tuple ts k p] (.Tuple vs k' p') pos) (tMS X.K Wx (parE Γ E names ts vs)) := by
  unfold parE
  split
  · rename_i x px y py a b
    split
    · rename_i hc
      simp only [Bool.and_eq_true, decide_eq_true_eq] at hc
      obtain ⟨⟨en, hx⟩, hy⟩ := hc
      subst en
      split
      · rename_i i j ei ej
        split
        · rename_i hij
          exact q_par c.calm c.nd (by rw [c.N]; exact slotOf_ok ei) (by rw [c.N]; exact slotOf_ok ej) hij (lcl_ok c hx) (lcl_ok c hy) (evA_ok h _) hw rfl
        · exact q_no
      · exact q_no
    · exact q_no
  · rename_i x px y py z pz a b d
    split
    · rename_i hc
      simp only [Bool.and_eq_true, decide_eq_true_eq] at hc
      obtain ⟨⟨⟨en, hx⟩, hy⟩, hz⟩ := hc
      subst en
      split
      · rename_i i j l ei ej el
        split
        · rename_i hij
          exact q_par3 c.calm c.nd (by rw [c.N]; exact slotOf_ok ei) (by rw [c.N]; exact slotOf_ok ej) (by rw [c.N]; exact slotOf_ok el) hij.1 hij.2.1 hij.2.2 (lcl_ok c hx) (lcl_ok c hy) (lcl_ok c hz) (evA_ok h _) hw rfl
        · exact q_no
      · exact q_no
    · exact q_no
  · exact q_no
/-- target = value -/
def tupS (Γ : Gam) (E : Expr → ME) (ts : List Expr) (e tg : Expr) : MS := match e with
  | .Tuple vs _ _ => (match swN Γ ts vs with
    | some (some names) => parE Γ E names ts vs
    | some none => sasg (E e) (evG Γ E tg)
    | none => sno)
  | _ => if notComp e then sasg (E e) (evG Γ E tg) else sno
def nmS (E : Gam → Expr → ME) (T : Gam → Expr → MT) (Γ : Gam) (x : Str) (e : Expr) : MS := if okN Γ x then (match slotOf Γ.N x with
  | some i => (match e with
    | .ListComp elt gs sc _ => sset i (compE E T Γ elt gs sc)
    | _ => if notComp e then sset i (E Γ e) else sno)
  | none => sno) else sno
def asgS (E : Gam → Expr → ME) (T : Gam → Expr → MT) (Γ : Gam) (tg e : Expr) : MS := match tg with
  | .Name x _ => nmS E T Γ x e
  | .Tuple ts _ _ => tupS Γ (E Γ) ts e tg
  | .Subscript _ _ _ => if notComp e then sasg (E Γ e) (evG Γ (E Γ) tg) else sno
  | _ => sno
theorem swapsSole_of {t e : Expr} {l : Nat} {env : Env} (h : notComp e = true) : swapsWithSole [t] e l env = pure false := by
  unfold swapsWithSole
  exact swaps_of h
def notTup : Expr → Bool
  | .Tuple _ _ _ => false
  | _ => true
theorem swapN {tg e : Expr} {env : Env} (h : notTup e = true) : swappedStores [tg] e env = pure none := by
  unfold swappedStores
  cases tg <;> cases e <;> first | rfl | cases h
theorem asgS_ok {E : Gam → Expr → ME} {T : Gam → Expr → MT} (ok : EOk E T) (c : Ctx Γ X Wx) (tg e : Expr) (pos : Pos) : PS X (.Assign [tg] e pos) (tMS X.K Wx (asgS E T Γ tg e)) := by
  have hE : ∀ Wx, Ctx Γ X Wx → ∀ e, PE X e (tM X.K Wx (E Γ e)) := fun Wx c => ok.E Γ X Wx c
  cases tg with
  | Name x p =>
    show PS X _ (tMS X.K Wx (nmS E T Γ x e))
    unfold nmS
    split
    · rename_i ho
      obtain ⟨o1, o2⟩ := okN_ok c ho
      split
      · rename_i i ei
        have gen : notComp e = true → PS X (.Assign [.Name x p] e pos) (tMS X.K Wx (sset i (E Γ e))) := fun hn => q_set c.nd (by rw [c.N]; exact slotOf_ok ei) o1 (hE _ c e) (swaps_of hn) o2
        have gen' : PS X (.Assign [.Name x p] e pos) (tMS X.K Wx (if notComp e then sset i (E Γ e) else sno)) := by
          split
          · exact gen ‹_›
          · exact q_no
        cases e with
        | ListComp elt gs sc lp => exact compS_ok ok c (slotOf_ok ei) ho p elt gs sc lp pos
        | _ => exact gen'
      · exact q_no
    · exact q_no
  | Tuple ts k p =>
    show PS X _ (tMS X.K Wx (tupS Γ (E Γ) ts e (.Tuple ts k p)))
    have gen : notComp e = true → swappedStores [.Tuple ts k p] e X.env = pure none → PS X (.Assign [.Tuple ts k p] e pos) (tMS X.K Wx (sasg (E Γ e) (evG Γ (E Γ) (.Tuple ts k p)))) := fun hn hw =>
      q_asg (hE _ c e) (evG_ok c hE _) (swapsSole_of hn) hw rfl
    have gen' : notTup e = true → PS X (.Assign [.Tuple ts k p] e pos) (tMS X.K Wx (if notComp e then sasg (E Γ e) (evG Γ (E Γ) (.Tuple ts k p)) else sno)) := fun h => by
      split
      · exact gen ‹_› (swapN h)
      · exact q_no
    cases e with
    | Tuple vs k' p' =>
      show PS X _ (tMS X.K Wx (match swN Γ ts vs with
        | some (some names) => parE Γ (E Γ) names ts vs
        | some none => sasg (E Γ (.Tuple vs k' p')) (evG Γ (E Γ) (.Tuple ts k p))
        | none => sno))
      split
      · rename_i names en
        exact parE_ok c (hE _ c) (swN_ok c en)
      · rename_i en
        exact gen rfl (swN_ok c en)
      · exact q_no
    | _ => exact gen' rfl
  | Subscript o i p =>
    show PS X _ (tMS X.K Wx (if notComp e then sasg (E Γ e) (evG Γ (E Γ) (.Subscript o i p)) else sno))
    split
    · rename_i hn
      refine q_asg (hE _ c e) (evG_ok c hE _) (swapsSole_of hn) ?_ rfl
      unfold swappedStores
      cases e <;> rfl
    · exact q_no
  | _ => exact q_no
def augG : Operator → Option G2
  | .Add => some (gIpI fun i j => i + j)
  | .Sub => some (gIpI fun i j => i - j)
  | _ => none
theorem augG_ok {op : Operator} {g : G2} (h : augG op = some g) : PIp X op (tIpQ X.K g) := by
  cases op <;> cases h
  · exact ipQ_of ip_add
  · exact ipQ_of ip_sub
def augS (E : Expr → ME) (Γ : Gam) (tg : Expr) (op : Operator) (e : Expr) : MS := match tg with
  | .Name x _ => if okN Γ x then (match slotOf Γ.N x, augG op with
    | some i, some g => saug i g (E e)
    | _, _ => sno) else sno
  | _ => sno
theorem augS_ok (c : Ctx Γ X Wx) {E : Expr → ME} (h : ∀ e, PE X e (tM X.K Wx (E e))) (tg : Expr) (op : Operator) (e : Expr) (pos : Pos) : PS X (.AugAssign tg op e pos) (tMS X.K Wx (augS E Γ tg op e)) := by
  cases tg with
  | Name x p =>
    show PS X _ (tMS X.K Wx (if okN Γ x then _ else _))
    split
    · rename_i ho
      obtain ⟨o1, o2⟩ := okN_ok c ho
      split
      · rename_i i g ei eg
        exact q_aug c.nd (by rw [c.N]; exact slotOf_ok ei) o1 (h e) (augG_ok eg) o2
      · exact q_no
    · exact q_no
  | _ => exact q_no
/-! ### statements -/
structure SCtx (Γ : Gam) (X : Cx) (Wx : WX) : Prop extends Ctx Γ X Wx where
  hp : PassesOwn (model X.prog X.w) X.A X.env X.xe
def evSs (S : Stmt → MS) : List Stmt → MS
  | [] => snil
  | st :: r => sseq (S st) (evSs S r)
theorem evSs_ok {S : Stmt → MS} (h : ∀ st, PS X st (tMS X.K Wx (S st))) : ∀ l : List Stmt, PSs X l (tMS X.K Wx (evSs S l))
  | [] => qs_nil
  | st :: r => qs_cons (h st) (evSs_ok h r)
def exprS (E : Expr → ME) (e : Expr) : MS := match e with
  | .Constant (.str _) _ _ => spass
  | e => if notComp e then sexpr (E e) else sno
theorem exprS_ok {E : Expr → ME} (h : ∀ e, PE X e (tM X.K Wx (E e))) (e : Expr) (pos : Pos) : PS X (.Expr e pos) (tMS X.K Wx (exprS E e)) := by
  have gen : PS X (.Expr e pos) (tMS X.K Wx (if notComp e then sexpr (E e) else sno)) := by
    split
    · exact q_expr (h e) (swaps_of ‹_›)
    · exact q_no
  cases e with
  | Constant k j p =>
    cases k with
    | str x => exact q_doc
    | _ => exact gen
  | _ => exact gen
def retS (E : Expr → ME) : Option Expr → MS
  | none => sretN
  | some e => sret (E e)
def ifEmpty (l : List Stmt) (m : MS) : MS := match l with
  | [] => m
  | _ :: _ => sno
def asg1 (E : Gam → Expr → ME) (T : Gam → Expr → MT) (Γ : Gam) (ts : List Expr) (e : Expr) : MS := match ts with
  | [tg] => asgS E T Γ tg e
  | _ => sno
def stepS (E : Gam → Expr → ME) (T : Gam → Expr → MT) (S : Gam → Stmt → MS) (Γ : Gam) (st : Stmt) : MS := match st with
  | .Return v _ => retS (E Γ) v
  | .Assign ts e _ => asg1 E T Γ ts e
  | .AugAssign tg op e _ => augS (E Γ) Γ tg op e
  | .For tg iter body orelse _ => ifEmpty orelse (if notSet iter then sfor (evI Γ (E Γ) iter) (evG Γ (E Γ) tg) (evSs (S Γ) body) else sno)
  | .While c body orelse _ => ifEmpty orelse (swhile (T Γ c) (evSs (S Γ) body))
  | .If c a b _ => sif (T Γ c) (evSs (S Γ) a) (evSs (S Γ) b)
  | .Expr e _ => exprS (E Γ) e
  | .Pass _ => spass
  | .Break _ => sbreak
  | .Continue _ => scont
  | _ => sno
theorem stepS_ok {E : Gam → Expr → ME} {T : Gam → Expr → MT} {S : Gam → Stmt → MS} (ok : EOk E T) (c : SCtx Γ X Wx) (hS : ∀ st, PS X st (tMS X.K Wx (S Γ st))) (st : Stmt) : PS X st (tMS X.K Wx (stepS E T S Γ st)) := by
  have hE : ∀ Wx, Ctx Γ X Wx → ∀ e, PE X e (tM X.K Wx (E Γ e)) := fun Wx c => ok.E Γ X Wx c
  have hE0 := hE _ c.toCtx
  have hT := ok.T Γ X Wx c.toCtx
  cases st with
  | Return v p => cases v with
    | none => exact q_retN
    | some e => exact q_ret (hE0 e)
  | Assign ts e p =>
    match ts with
    | [] => exact q_no
    | [tg] => exact asgS_ok ok c.toCtx tg e p
    | _ :: _ :: _ => exact q_no
  | AugAssign tg op e p => exact augS_ok c.toCtx hE0 tg op e p
  | For tg iter body orelse p => cases orelse with
    | cons _ _ => exact q_no
    | nil =>
      show PS X _ (tMS X.K Wx (if notSet iter then _ else _))
      split
      · rename_i hn
        exact q_for c.hp c.calm (evI_ok c.toCtx hE0 tg iter) (evG_ok c.toCtx hE tg) (evSs_ok hS body) (folded_of hn)
      · exact q_no
  | While t body orelse p => cases orelse with
    | cons _ _ => exact q_no
    | nil => exact q_while c.hp (hT t) (evSs_ok hS body)
  | If t a b p => exact q_if (hT t) (evSs_ok hS a) (evSs_ok hS b)
  | Expr e p => exact exprS_ok hE0 e p
  | Pass p => exact q_pass
  | Break p => exact q_break
  | Continue p => exact q_cont
  | _ => exact q_no
def semS (E : Gam → Expr → ME) (T : Gam → Expr → MT) : Nat → Gam → Stmt → MS
  | 0 => fun _ _ => sno
  | n + 1 => stepS E T (semS E T n)
theorem semS_ok {E : Gam → Expr → ME} {T : Gam → Expr → MT} (ok : EOk E T) (c : SCtx Γ X Wx) : ∀ (n : Nat) (st : Stmt), PS X st (tMS X.K Wx (semS E T n Γ st))
  | 0, _ => q_no
  | n + 1, st => stepS_ok ok c (semS_ok ok c n) st
/-- a def's body's meaning -/
def semB (Γ : Gam) (body : List Stmt) : MS := evSs (semS (sem 30).E (sem 30).T 12 Γ) body
theorem semB_ok (c : SCtx Γ X Wx) (body : List Stmt) : PSs X body (tMS X.K Wx (semB Γ body)) := evSs_ok (semS_ok (sem_ok 30) c 12) body
end
end Vm

/-! Vm19: the law is called by the caller; the head's facts. -/
namespace Vm
open PySem PySem.Spec PyProof.Rows L2
/-- a def at a higher level -/
theorem FnQ.up {P : Program} {w : World} {K : PySem.W.Frag} {mg : Str → Option Value} {base : Heap} {j k : Nat} {f : Addr} {fd : FuncData} {ps : List Str} {m : List W → Sto → R W} (F : FnQ P w K mg base j f fd ps m) (h : j ≤ k) : FnQ P w K mg base k f fd ps m :=
  ⟨fun A outer sh H args us vs ws al s Q E hr => F.run A outer sh H args us vs ws al s Q E (hr.mono h)⟩
section
variable {P : Program} {w : World} {K : PySem.W.Frag} {mg mb : Str → Option Value} {k : Nat} {fa a : Addr} {fd : FuncData} {x : Str} {m : List W → Sto → R W} {s₁ : Shared} {vs : List Value} {ns : List Int}
/-- the law runs on a script that is only read -/
theorem law_at (H : Hp) (KX : K.In s₁.heap) (hns : s₁.heap.Ns mainGlobals mg) (hb : s₁.heap.Ns builtinsNs mb) (hbb : ∀ x : Str, x ≠ "__name__" → mb x = bootBuiltins x) (hlim : s₁.heap.NoLimit) (hg : s₁.gens = #[])
    (ha : s₁.heap.get? a = some { cls := .type "list", data := .seq vs.toArray }) (hr : Room k callerA)
    (F : ∀ base : Heap, K.In base → base.Ns mainGlobals mg → FnQ P w K mg base k fa fd [x] m) (hbind : ∀ (s : Shared) (u : Value), BindsTo s fd ⟨[u], []⟩ [(x, u)]) (hm : ∃ s', m [.ref 0] [.cst (ns.map .int)] = .ok (.bl true) s')
    (only : ∀ b u, H b = some u → b = a ∧ K.lookup a = none ∧ ∃ o xs, u = .frz o (.lst xs)) (hS : SqL K H a (ns.map V.int)) (ok : HOk P w H s₁.heap) :
    codeAny (model P w) callerA (.call (.ref fa) ⟨[.ref a], []⟩) (fun r s' => r = .ok (.ret (.bool true)) ∧ OldK s₁.heap s'.heap ∧ s'.os = s₁.os ∧ AllBare s'.gens) s₁ := by
  have free : ∀ {b : Addr} {o : Obj}, s₁.heap.get? b = some o → (b = a → K.lookup a = none → False) → H b = none := fun {b o} e no => by
    cases q : H b with
    | none => rfl
    | some u => exact (no (only b u q).1 (only b u q).2.1).elim
  have keep : ∀ {b : Addr} {o : Obj}, s₁.heap.get? b = some o → (b = a → K.lookup a = none → False) → (hidT s₁.heap H).get? b = some o := fun e no => hidT_get e (free e no)
  have dictNs : ∀ {b : Addr} {g : Str → Option Value}, s₁.heap.Ns b g → (hidT s₁.heap H).Ns b g := by
    rintro b g ⟨o, es, ep, e, d, r⟩
    refine ⟨o, es, ep, keep e fun eb _ => ?_, d, r⟩
    rw [eb, ha] at e
    cases e
    exact absurd d (fun z => nomatch z)
  have part : K.In (hidT s₁.heap H) := fun b o e => keep (KX b o e) fun eb hn => by
    rw [← eb, e] at hn
    cases hn
  have md : Mod K mg (hidT s₁.heap H) := by
    obtain ⟨mc, l1, l2⟩ := hlim
    exact ⟨part, dictNs hns, ⟨mb, dictNs hb, hbb⟩, ⟨mc, dictNs l1, l2⟩⟩
  have env : Env0 P w K mg (hidT s₁.heap H) callerA [] s₁ H := by
    refine ⟨rfl, md, fun b o => of_hidT, Nat.le_of_eq (hidT_size _ _), trivial, fun b hb => ?_, ok, AllBare.of_eq hg⟩
    exact absurd hb List.not_mem_nil
  have sim : Sim K [a] [.cst (ns.map W.int)] H := by
    refine ⟨rfl, fun i j b o u h1 h2 h3 h4 ne => ?_, fun i o e => ?_⟩
    · have i0 := (List.getElem?_eq_some_iff.mp h1).1
      have j0 := (List.getElem?_eq_some_iff.mp h2).1
      simp at i0 j0
      omega
    · cases i with
      | succ i => simp at e
      | zero =>
        simp at e
        subst e
        refine ⟨a, rfl, ns.map V.int, ?_, hS⟩
        clear hm hS
        induction ns with
        | nil => exact .nil
        | cons n ns ih => exact .cons rfl ih
  obtain ⟨sz, em⟩ := hm
  have post : PostC K [a] (fun v _ => v = .bl true) (fun _ _ _ => False) (m [.ref 0] [.cst (ns.map .int)]) := by
    rw [em]
    exact fun al' H' p S v r => r
  refine codeAny_mono ((F _ part (dictNs hns)).run callerA [] s₁ H ⟨[.ref a], []⟩ [.ref a] [.ref a] [.ref 0] [a] [.cst (ns.map W.int)] (fun v _ => v = .bl true) (fun _ _ _ => False) hr rfl env (hbind s₁ (.ref a)) (.cons rfl .nil) rfl sim (.cons ⟨a, rfl, rfl⟩ .nil) post) fun r s' h => ?_
  cases r with
  | error e =>
    obtain ⟨_, _, _, _, _, _, _, _, _, _, _, _, z⟩ := h
    exact z.elim
  | ok fl =>
    cases fl with
    | ret u =>
      obtain ⟨v, H', os, bare, un, ok', r', q⟩ := h
      cases (show v = .bl true from q)
      cases (show u = Value.bool true from r')
      refine ⟨rfl, OldK.of_keep fun b o e => ?_, os, bare⟩
      cases q : H b with
      | none => exact un.keep b o e q (fun z => absurd z List.not_mem_nil) List.not_mem_nil
      | some u =>
        obtain ⟨_, _, ob, xs, eu⟩ := only b u q
        rw [eu] at q
        have at1 := (ok b _ q).1
        have at2 := (ok' b _ (un.frzs b ob _ q)).1
        rw [e] at at1
        cases at1
        exact at2
    | next => exact h.elim
    | brk => exact h.elim
    | cont => exact h.elim
/-- nothing but the script is tracked -/
def scr (a : Addr) (vs : List Value) (ns : List Int) : Hp := fun b => if b = a then some (.frz { cls := .type "list", data := .seq vs.toArray } (.lst (ns.map V.int))) else none
theorem law_q (KX : K.In s₁.heap) (hns : s₁.heap.Ns mainGlobals mg) (hb : s₁.heap.Ns builtinsNs mb) (hbb : ∀ x : Str, x ≠ "__name__" → mb x = bootBuiltins x) (hlim : s₁.heap.NoLimit) (hg : s₁.gens = #[])
    (ha : s₁.heap.get? a = some { cls := .type "list", data := .seq vs.toArray }) (hi : IntsAre vs ns) (hl : ns.length ≤ sizeLine) (hr : Room k callerA)
    (F : ∀ base : Heap, K.In base → base.Ns mainGlobals mg → FnQ P w K mg base k fa fd [x] m) (hbind : ∀ (s : Shared) (u : Value), BindsTo s fd ⟨[u], []⟩ [(x, u)]) (hm : ∃ s', m [.ref 0] [.cst (ns.map .int)] = .ok (.bl true) s') :
    codeAny (model P w) callerA (.call (.ref fa) ⟨[.ref a], []⟩) (fun r s' => r = .ok (.ret (.bool true)) ∧ OldK s₁.heap s'.heap ∧ s'.os = s₁.os ∧ AllBare s'.gens) s₁ := by
  have rv := vals_ints hi
  have len := hi.length
  cases hk : K.lookup a with
  | some o =>
    have e := KX a o hk
    rw [ha] at e
    cases e
    refine law_at (fun _ => none) KX hns hb hbb hlim hg ha hr F hbind hm (fun b u z => nomatch z) (.inr ⟨_, vs.toArray, 0, hk, rfl, rfl, rfl, ?_, ?_⟩) fun b u z => nomatch z
    · rw [List.size_toArray, len]; exact hl
    · simpa using rv
  | none =>
    have inv : ∀ b u, scr a vs ns b = some u → b = a ∧ u = .frz { cls := .type "list", data := .seq vs.toArray } (.lst (ns.map V.int)) := fun b u z => by
      unfold scr at z
      by_cases h : b = a
      · rw [if_pos h] at z; exact ⟨h, (Option.some.inj z).symm⟩
      · rw [if_neg h] at z; cases z
    refine law_at (scr a vs ns) KX hns hb hbb hlim hg ha hr F hbind hm (fun b u z => ?_) (.inl (.inr ⟨_, if_pos rfl⟩)) fun b u z => ?_
    · exact ⟨(inv b u z).1, hk, _, _, (inv b u z).2⟩
    · obtain ⟨rfl, rfl⟩ := inv b u z
      refine ⟨ha, ?_, vs, 0, rv, ha⟩
      rw [List.length_map]; exact hl
end
end Vm

/-! Vm20: the head's facts by names; the defs one after another; the law's claim. -/
namespace Vm
open PySem PySem.Spec PyProof.Rows L2
/-! ### the Hook: He's facts, sys.modules, any further look -/
abbrev AlV : Type := He.AlD × Bool
def sysB (K : PySem.W.Frag) : Bool := match K.lookup sysModules with
  | some o => decide (o.cls = .type "dict")
  | none => false
def obsV (fa : List He.Fa) (fn : List He.DefD) (ex : PySem.W.Frag → Bool) (K : PySem.W.Frag) : AlV := (He.obsD fa fn K, sysB K && ex K)
def valV' (fn : List He.DefD) : AlV := (He.valD fn, true)
def asV (g : Addr → Option Obj) (n : Nat) : List Addr := sysModules :: He.asD g n
def obsVG (n : Nat) (fa : List He.Fa) (fn : List He.DefD) (ex : PySem.W.Frag → Bool) (g : Addr → Option Obj) : AlV := obsV fa fn ex (He.frG g (asV g n))
def hookV (n : Nat) (fa : List He.Fa) (fn : List He.DefD) (ex : PySem.W.Frag → Bool) : PySem.W.Hook where
  α := AlV
  obs := fun s => obsVG n fa fn ex s.heap.get?
  val := fun _ => valV' fn
  says := fun _ h => ∃ K : PySem.W.Frag, K.In h ∧ obsV fa fn ex K = valV' fn
  of := fun _ _ e => ⟨_, He.frG_in, e⟩
  keeps := fun _ _ _ ⟨K, hK, c⟩ k => ⟨K, PySem.W.Frag.In.keeps hK k, c⟩
theorem obsVG_eq {n : Nat} {fa : List He.Fa} {fn : List He.DefD} {ex : PySem.W.Frag → Bool} {g : Addr → Option Obj} {s : Shared} (h : ∀ a, g a = s.heap.get? a) : obsVG n fa fn ex g = (hookV n fa fn ex).obs s := by
  have e : g = s.heap.get? := funext h
  rw [e]
  rfl
structure SaysV (fa : List He.Fa) (fn : List He.DefD) (ex : PySem.W.Frag → Bool) (K : PySem.W.Frag) : Prop where
  fact : ∀ f ∈ fa, f.ok K = true
  def_ : ∀ (i : Nat) (d : He.DefD), fn[i]? = some d → ∃ fd, FunD K d.name d.qual d.params d.body d.scope (d.dvs K) (d.kws K) (He.fAd K d.at_) fd
  sys : ∃ o, K.lookup sysModules = some o ∧ o.cls = .type "dict"
  ex : ex K = true
theorem saysV_of {fa : List He.Fa} {fn : List He.DefD} {ex : PySem.W.Frag → Bool} {K : PySem.W.Frag} (c : obsV fa fn ex K = valV' fn) : SaysV fa fn ex K := by
  have c1 : He.SaysD fa fn K := congrArg (fun z : AlV => z.1) c
  have c2 : (sysB K && ex K) = true := congrArg (fun z : AlV => z.2) c
  obtain ⟨c3, c4⟩ := He.ba c2
  refine ⟨fun f hf => ?_, fun i d h => c1.def_ i h, ?_, c4⟩
  · obtain ⟨i, hi⟩ := List.getElem?_of_mem hf
    exact c1.fact i hi
  · unfold sysB at c3
    cases e : K.lookup sysModules with
    | none => rw [e] at c3; cases c3
    | some o => rw [e] at c3; exact ⟨o, rfl, of_decide_eq_true c3⟩

/-! ### what the text's names stand for -/
structure Gam0 where
  con : List (Str × W)
  free : List Str
  tbl : List (Ty × Ty × Bool)
  cs : List Str
def conFa (p : Str × W) : He.Fa := match p.2 with
  | .str z => .str p.1 z
  | .int i => .int p.1 i
  | _ => .glo p.1
/-- the constants are texts, ints, classes -/
def conOk (p : Str × W) : Bool := match p.2 with
  | .str _ => true
  | .int _ => true
  | .gl y => decide (y = p.1)
  | _ => false
def Gam0.fa (g : Gam0) (ds : List Str) : List He.Fa := ds.map .glo ++ (g.free.map .free ++ g.con.map conFa)
structure G0Ok (g : Gam0) (K : PySem.W.Frag) (mg : Str → Option Value) : Prop where
  fr : ∀ x ∈ g.free, mg x = none
  con : ∀ p ∈ g.con, ∃ u v, mg p.1 = some u ∧ RelV v u ∧ ∀ al, RW K al p.2 v
  isa : IsaOk K g.tbl g.cs
  sys : ∃ o, K.lookup sysModules = some o ∧ o.cls = .type "dict"
/-- the further look: isinstance's table -/
def isaB (g : Gam0) (K : PySem.W.Frag) : Bool :=
  (g.tbl.all fun q => decide (PySem.W.kitOne K (q.1.v K) (q.2.1.v K) = some q.2.2)) &&
  ((g.cs.all fun x => (He.Fa.cls x).ok K && (decide (PySem.W.findIn K (.ref (He.ga K x)) "__class__" = some (some (.builtin "object.__class__"))) && decide (PySem.W.mroIn K (He.ga K x) (.type "object") = some true))) &&
  (decide (PySem.W.specialIn K (.builtin "object.__class__") "__get__" = some (some (.builtin "getset_descriptor.__get__"))) && decide (PySem.W.takesIn K (.builtin "object.__class__") = some true)))
theorem isaB_ok {g : Gam0} {K : PySem.W.Frag} (h : isaB g K = true) : IsaOk K g.tbl g.cs := by
  unfold isaB at h
  obtain ⟨h1, h⟩ := He.ba h
  obtain ⟨h2, h⟩ := He.ba h
  obtain ⟨h3, h4⟩ := He.ba h
  refine ⟨fun q hq => of_decide_eq_true (List.all_eq_true.mp h1 q hq), fun x hx => ?_, of_decide_eq_true h3, of_decide_eq_true h4⟩
  obtain ⟨a1, a⟩ := He.ba (List.all_eq_true.mp h2 x hx)
  obtain ⟨a2, a3⟩ := He.ba a
  exact ⟨He.cls_ok a1, of_decide_eq_true a2, of_decide_eq_true a3⟩
theorem g0_of {g : Gam0} {ds : List Str} {fn : List He.DefD} {ex : PySem.W.Frag → Bool} {K : PySem.W.Frag} {h : Heap} {mg : Str → Option Value} (c : SaysV (g.fa ds) fn ex K) (hi : isaB g K = true) (hc : g.con.all conOk = true) (X : K.In h) (G : h.Ns mainGlobals mg) : G0Ok g K mg := by
  refine ⟨fun x hx => He.free_ok X G (c.fact _ ?_), fun p hp => ?_, isaB_ok hi, c.sys⟩
  · exact List.mem_append_right _ (List.mem_append_left _ (List.mem_map_of_mem hx))
  · have f := c.fact (conFa p) (List.mem_append_right _ (List.mem_append_right _ (List.mem_map_of_mem hp)))
    have k := List.all_eq_true.mp hc p hp
    obtain ⟨x, w⟩ := p
    cases w with
    | str z =>
      obtain ⟨t, e⟩ := He.str_ok X G f
      exact ⟨_, .str z, e, ⟨t, rfl⟩, fun al => rfl⟩
    | int i =>
      obtain ⟨t, e⟩ := He.int_ok X G f
      exact ⟨_, .int i, e, ⟨t, rfl⟩, fun al => rfl⟩
    | gl y =>
      have e : y = x := of_decide_eq_true k
      subst e
      exact ⟨_, .ref (He.ga K y), He.glo_ok X G f, rfl, fun al => rfl⟩
    | _ => cases k

/-! ### the defs one after another -/
structure DefB (P : Program) (w : World) (K : PySem.W.Frag) (mg : Str → Option Value) (base : Heap) (k : Nat) (f : Addr) (n : Nat) (m : List W → Sto → R W) : Prop where
  ex : ∃ fd ps, PySem.W.keepIn K (.ref f) = true ∧ ps.length = n ∧ FnQ P w K mg base k f fd ps m ∧ Binds K fd ps []
abbrev Tbl := List (Str × Nat × (List W → Sto → R W))
def TabOk (P : Program) (w : World) (K : PySem.W.Frag) (mg : Str → Option Value) (base : Heap) (k : Nat) (T : Tbl) : Prop := ∀ d ∈ T, ∃ f, mg d.1 = some (.ref f) ∧ DefB P w K mg base k f d.2.1 d.2.2
def gam (g : Gam0) (T : Tbl) (k : Nat) (N : List Str) (sc : Scope) : Gam := ⟨N, sc, fun _ => true, T, g.con, g.free, g.tbl, g.cs, k⟩
section
variable {P : Program} {w : World} {K : PySem.W.Frag} {mg : Str → Option Value} {base : Heap} {k : Nat} {g : Gam0} {T : Tbl} {N ps : List Str} {m : MS} {f : Addr} {fd : FuncData} {x qual : Str} {params : Arguments} {body : List Stmt} {scope : Scope} {dvs : List V} {kws : List (Str × V)}
theorem ctx_of (G : G0Ok g K mg) (hT : TabOk P w K mg base k T) (KB : K.In base) (S : FnScope N ps scope) (cdv : Value) (A : Around) (outer : List Env) (sh : Shared) (H : Hp) (E : XK) (hr : Room k (A.deeper (envOfC qual scope sh.heap.objs.size f cdv))) (hg : A.guards = some []) :
    SCtx (gam g T k N scope) (cxQ P w K mg base N qual scope f cdv A outer sh H E) (fun c d _ H' => E c d H') where
  N := rfl
  nd := S.nd
  sc := rfl
  kind := S.kind
  fn := rfl
  calm := rfl
  tk := takesQ
  hu := by have := hr.un; show (A.deeper (envOfC qual scope sh.heap.objs.size f cdv)).units + 200 < cLine; omega
  gu := hg
  room := hr
  sys := let ⟨o, h1, h2⟩ := G.sys; ⟨o, KB _ _ h1, h2⟩
  fr := G.fr
  con := G.con
  df := fun d hd => let ⟨f', h1, h2⟩ := hT d hd; ⟨f', h1, ⟨h2.ex⟩⟩
  isa := G.isa
  hp := ownQ
theorem step_fn (G : G0Ok g K mg) (hT : TabOk P w K mg base k T) (KB : K.In base) (F : FunD K x qual params body scope dvs kws f fd) (S : FnScope N ps scope) (hm : semB (gam g T k N scope) body = m) : FnQ P w K mg base (k + 1) f fd ps (runB N.length m) :=
  fnq_of F S fun cdv A outer sh H E hr hg => by
    subst hm
    exact semB_ok (ctx_of G hT KB S cdv A outer sh H E hr hg) body
theorem step_tab (G : G0Ok g K mg) (hT : TabOk P w K mg base k T) (KB : K.In base) (F : FunD K x qual params body scope [] kws f fd) (S : FnScope N ps scope) (hm : semB (gam g T k N scope) body = m) (hmg : mg x = some (.ref f))
    (hb : ∀ (kV doc pm : Value) (an : Option Addr) (cdv ct : Value) (us : List Value), us.length = ps.length → bindArgs (PySem.W.fnOf x qual params body scope .none kV doc pm an cdv ct) ⟨us, []⟩ = pure (ps.zip us)) :
    TabOk P w K mg base (k + 1) ((x, ps.length, runB N.length m) :: T) := by
  intro d hd
  rcases List.mem_cons.mp hd with rfl | hd
  · exact ⟨f, hmg, ⟨⟨fd, ps, F.kp, rfl, step_fn G hT KB F S hm, F.bindsN hb⟩⟩⟩
  · obtain ⟨f', h1, h2⟩ := hT d hd
    obtain ⟨fd', ps', a1, a2, a3, a4⟩ := h2.ex
    exact ⟨f', h1, ⟨⟨fd', ps', a1, a2, a3.up (Nat.le_succ k), a4⟩⟩⟩
theorem tab_nil : TabOk P w K mg base k [] := fun _ h => nomatch h
end
/-! ### the law -/
theorem walk_q {l : PySem.W.OpenLaw} {n k : Nat} {q : Program} {loose : List Str} {XP : (Str → Option Value) → Heap → Prop} {YP : World → Heap → Prop} {d : DefRec} {x : Str} (hn : l.most = some n) (hn2 : n ≤ sizeLine) (hdf : d.params.defaults = []) (hr : Room k callerA)
    (F : ∀ (w : World) (mg : Str → Option Value) (fa : Addr) (h : Heap), YP w h → h.Ns mainGlobals mg → mg d.name = some (.ref fa) →
      ∃ (K : PySem.W.Frag) (fd : FuncData) (m : List W → Sto → R W), K.In h ∧ (∀ (s : Shared) (u : Value), BindsTo s fd ⟨[u], []⟩ [(x, u)]) ∧
        (∀ ns : List Int, ns.length ≤ n → (∀ k ∈ ns, Builtin.Int.intBits k ≤ 1048576) → ∃ s', m [.ref 0] [.cst (ns.map .int)] = .ok (.bl true) s') ∧
        ∀ base : Heap, K.In base → base.Ns mainGlobals mg → FnQ l.prog w K mg base k fa fd [x] m) :
    PySem.W.WalkO q loose XP YP l.row.toRowW d [] (fun f vs => PySem.call f vs) := by
  refine Att.attach_callB hn hdf fun w s₀ s₁ mg mb fa o pm cd doc a vs ns G Y ho hd hcd hmg hobj hints hlen hbits hg => ?_
  obtain ⟨K, fd, m, KX, hb, hm, hF⟩ := F w mg fa _ Y G.T.g hmg
  exact law_q KX G.T.g G.T.b G.T.builtins G.T.nolimit hg hobj hints (Nat.le_trans hlen hn2) hr hF hb (hm ns hlen hbits)
end Vm

/-! Vp1: reckoning with meanings. -/
namespace Vm
open PySem PySem.Spec PyProof.Rows L2
/-! ### rewriting rules -/
@[simp] theorem R.bind_ok {B C : Type} (b : B) (s : Sto) (f : B → Sto → R C) : (R.ok b s).bind f = f b s := rfl
@[simp] theorem R.bind_er {B C : Type} (c : Str) (d : Nat) (s : Sto) (f : B → Sto → R C) : (R.er c d s : R B).bind f = .er c d s := rfl
@[simp] theorem R.of_some {B : Type} (b : B) (s : Sto) : R.of (some (b, s)) = .ok b s := rfl
@[simp] theorem R.toS_ok {B : Type} (b : B) (s : Sto) (ws : Loc) (f : B → Sto → RS) : (R.ok b s).toS ws f = f b s := rfl
@[simp] theorem R.toS_er {B : Type} (c : Str) (d : Nat) (s : Sto) (ws : Loc) (f : B → Sto → RS) : (R.er c d s : R B).toS ws f = .er c d ws s := rfl
@[simp] theorem R.cl_ok {B : Type} (b : B) (s : Sto) : (R.ok b s).cl = .ok b s := rfl
@[simp] theorem RS.then_nx (ws : Loc) (s : Sto) (f : MS) : (RS.nx ws s).andThen f = f ws s := rfl
@[simp] theorem RS.then_rt (w : W) (s : Sto) (f : MS) : (RS.rt w s).andThen f = .rt w s := rfl
@[simp] theorem RS.then_bk (ws : Loc) (s : Sto) (f : MS) : (RS.bk ws s).andThen f = .bk ws s := rfl
@[simp] theorem RS.then_ct (ws : Loc) (s : Sto) (f : MS) : (RS.ct ws s).andThen f = .ct ws s := rfl
@[simp] theorem RS.turn_nx (ws : Loc) (s : Sto) (f : MS) : (RS.nx ws s).turn f = f ws s := rfl
@[simp] theorem RS.turn_rt (w : W) (s : Sto) (f : MS) : (RS.rt w s).turn f = .rt w s := rfl
@[simp] theorem RS.turn_bk (ws : Loc) (s : Sto) (f : MS) : (RS.bk ws s).turn f = .nx ws s := rfl
@[simp] theorem RS.turn_ct (ws : Loc) (s : Sto) (f : MS) : (RS.ct ws s).turn f = f ws s := rfl
@[simp] theorem mc_eq (w : W) (ws : Loc) (s : Sto) : mc w ws s = .ok w s := rfl
theorem mvar_at {i : Nat} {ws : Loc} {w : W} (h : ws[i]? = some (some w)) (s : Sto) : mvar i ws s = .ok w s := by unfold mvar; rw [h]
@[simp] theorem mvar_0 (w : W) (ws : Loc) (s : Sto) : mvar 0 (some w :: ws) s = .ok w s := rfl
@[simp] theorem mvar_s (i : Nat) (a : Option W) (ws : Loc) (s : Sto) : mvar (i + 1) (a :: ws) s = mvar i ws s := rfl
@[simp] theorem mbin_eq (g : G2) (a b : ME) (ws : Loc) (s : Sto) : mbin g a b ws s = (a ws s).bind fun x s => (b ws s).bind fun y s => R.of (g x y s) := rfl
@[simp] theorem mun_eq (g : G1) (a : ME) (ws : Loc) (s : Sto) : mun g a ws s = (a ws s).bind fun x s => R.of (g x s) := rfl
@[simp] theorem mnil_eq (ws : Loc) (s : Sto) : mnil ws s = .ok [] s := rfl
@[simp] theorem mcons_eq (a : ME) (b : MA) (ws : Loc) (s : Sto) : mcons a b ws s = (a ws s).bind fun x s => (b ws s).bind fun xs s => .ok (x :: xs) s := rfl
@[simp] theorem mfn_eq (g : Gs) (a : MA) (ws : Loc) (s : Sto) : mfn g a ws s = (a ws s).bind fun xs s => R.of (g xs s) := rfl
@[simp] theorem mcall_eq (n : Nat) (t : List W → Sto → R W) (a : MA) (ws : Loc) (s : Sto) : mcall n t a ws s = (a ws s).bind fun xs s => if xs.length = n then t xs s else .no := rfl
@[simp] theorem mtup_eq (a : MA) (ws : Loc) (s : Sto) : mtup a ws s = (a ws s).bind fun xs s => if xs.length ≤ 16777216 then .ok (.ref s.length) (s ++ [.tup xs]) else .no := rfl
@[simp] theorem mlst_eq (a : MA) (ws : Loc) (s : Sto) : mlst a ws s = (a ws s).bind fun xs s => if xs.length ≤ 16777216 then .ok (.ref s.length) (s ++ [.lst xs]) else .no := rfl
@[simp] theorem mif_eq (c : MT) (a b : ME) (ws : Loc) (s : Sto) : mif c a b ws s = (c ws s).bind fun k s => if k = true then a ws s else b ws s := rfl
@[simp] theorem mtru_eq (g : W → Sto → Option Bool) (a : ME) (ws : Loc) (s : Sto) : mtru g a ws s = (a ws s).bind fun x s => match g x s with
  | some b => .ok b s
  | none => .no := rfl
@[simp] theorem mand_eq (a b : MT) (ws : Loc) (s : Sto) : mand a b ws s = (a ws s).bind fun c s => if c = true then b ws s else .ok false s := rfl
@[simp] theorem mor_eq (a b : MT) (ws : Loc) (s : Sto) : mor a b ws s = (a ws s).bind fun c s => if c = true then .ok true s else b ws s := rfl
@[simp] theorem mnot_eq (a : MT) (ws : Loc) (s : Sto) : mnot a ws s = (a ws s).bind fun c s => .ok (!c) s := rfl
@[simp] theorem mtb_eq (a : ME) (ws : Loc) (s : Sto) : mtb a ws s = (a ws s).bind fun x s => match x with
  | .bl b => .ok b s
  | _ => .no := rfl
@[simp] theorem mandV_eq (a b : ME) (ws : Loc) (s : Sto) : mandV a b ws s = (a ws s).bind fun x s => match x with
  | .bl k => if k = true then b ws s else .ok (.bl false) s
  | _ => .no := rfl
@[simp] theorem morV_eq (a b : ME) (ws : Loc) (s : Sto) : morV a b ws s = (a ws s).bind fun x s => match x with
  | .bl k => if k = true then .ok (.bl true) s else b ws s
  | _ => .no := rfl
@[simp] theorem mnotV_eq (a : ME) (ws : Loc) (s : Sto) : mnotV a ws s = (a ws s).bind fun x s => match x with
  | .bl k => .ok (.bl (!k)) s
  | _ => .no := rfl
@[simp] theorem mchain_eq (g g' : G2) (a b c : ME) (ws : Loc) (s : Sto) : mchain g g' a b c ws s = (a ws s).bind fun x s => (b ws s).bind fun y s => (R.of (g x y s)).bind fun z s => match z with
  | .bl k => if k = true then (c ws s).bind fun u s => R.of (g' y u s) else .ok (.bl false) s
  | _ => .no := rfl
@[simp] theorem mslice_eq (a : ME) (lo hi : MO) (ws : Loc) (s : Sto) : mslice a lo hi ws s = (a ws s).bind fun x s => (lo ws s).bind fun l s => (hi ws s).bind fun h s => R.of (gSl x l h s) := rfl
@[simp] theorem mnop_eq (ws : Loc) (s : Sto) : mnop ws s = .ok none s := rfl
@[simp] theorem mbm_eq (T : String) (g : GM) (mo : ME) (ma : MA) (ws : Loc) (s : Sto) : mbm T g mo ma ws s = (mo ws s).bind fun x s1 => if tyM x s1 = T then (ma ws s1).bind fun xs s2 => R.of (g x xs s2) else .no := rfl
@[simp] theorem sseq_eq (a b : MS) (ws : Loc) (s : Sto) : sseq a b ws s = (a ws s).andThen b := rfl
@[simp] theorem snil_eq (ws : Loc) (s : Sto) : snil ws s = .nx ws s := rfl
@[simp] theorem sret_eq (a : ME) (ws : Loc) (s : Sto) : sret a ws s = (a ws s).toS ws fun w s => .rt w s := rfl
@[simp] theorem sretN_eq (ws : Loc) (s : Sto) : sretN ws s = .rt .non s := rfl
@[simp] theorem sexpr_eq (a : ME) (ws : Loc) (s : Sto) : sexpr a ws s = (a ws s).toS ws fun _ s => .nx ws s := rfl
@[simp] theorem spass_eq (ws : Loc) (s : Sto) : spass ws s = .nx ws s := rfl
@[simp] theorem sset_eq (i : Nat) (m : ME) (ws : Loc) (s : Sto) : sset i m ws s = (m ws s).toS ws fun w s' => .nx (ws.set i (some w)) s' := rfl
@[simp] theorem sasg_eq (m : ME) (g : MG) (ws : Loc) (s : Sto) : sasg m g ws s = (m ws s).toS ws fun w s' => (g w ws s').toS ws fun ws' s'' => .nx ws' s'' := rfl
@[simp] theorem spar_eq (is : List Nat) (m : MA) (ws : Loc) (s : Sto) : spar is m ws s = (m ws s).toS ws fun xs s' => if xs.length = is.length then .nx ((is.zip xs).foldl (fun z p => z.set p.1 (some p.2)) ws) s' else .no := rfl
@[simp] theorem sif_eq (c : MT) (a b : MS) (ws : Loc) (s : Sto) : sif c a b ws s = (c ws s).toS ws fun k s => if k = true then a ws s else b ws s := rfl
@[simp] theorem gname_eq (i : Nat) (w : W) (ws : Loc) (s : Sto) : gname i w ws s = .ok (ws.set i (some w)) s := rfl
@[simp] theorem gsub_eq (mo mi : ME) (g : G3) (w : W) (ws : Loc) (s : Sto) : gsub mo mi g w ws s = (mo ws s).bind fun o s1 => (mi ws s1).bind fun i s2 => match g o i w s2 with
  | some s3 => .ok ws s3
  | none => .no := rfl
@[simp] theorem gtup_eq (n : Nat) (gs : MGs) (k : Nat) (ws : Loc) (s : Sto) : gtup n gs (.ref k) ws s = match s[k]? with
    | some (.tup xs) => if xs.length = n then gs xs ws s else .no
    | _ => .no := rfl
@[simp] theorem gnil_eq (ws : Loc) (s : Sto) : gnil [] ws s = .ok ws s := rfl
@[simp] theorem gcons_eq (a : MG) (b : MGs) (x : W) (r : List W) (ws : Loc) (s : Sto) : gcons a b (x :: r) ws s = (a x ws s).cl.bind fun ws' s' => (b r ws' s').cl := rfl
@[simp] theorem ok1_eq (w : W) (s : Sto) : ok1 w s = some (w, s) := rfl
@[simp] theorem nw_eq (o : O) (s : Sto) : nw o s = some (.ref s.length, s ++ [o]) := rfl
theorem runB_rt {n : Nat} {m : MS} {ws : List W} {s s' : Sto} {w : W} (h : m (ws.map some ++ List.replicate (n - ws.length) none) s = .rt w s') : runB n m ws s = .ok w s' := by unfold runB; rw [h]
theorem runB_nx {n : Nat} {m : MS} {ws : List W} {s s' : Sto} {l : Loc} (h : m (ws.map some ++ List.replicate (n - ws.length) none) s = .nx l s') : runB n m ws s = .ok .non s' := by unfold runB; rw [h]
/-! ### places -/
@[simp] theorem at_new (s : Sto) (o : O) : (s ++ [o])[s.length]? = some o := by simp
theorem lt_of_at {s : Sto} {p : Nat} {o : O} (h : s[p]? = some o) : p < s.length := (List.getElem?_eq_some_iff.mp h).1
theorem at_app {s t : Sto} {p : Nat} {o : O} (h : s[p]? = some o) : (s ++ t)[p]? = some o := by rw [List.getElem?_append_left (lt_of_at h)]; exact h
theorem at_set {s : Sto} {p : Nat} {o : O} (u : O) (h : s[p]? = some o) : (s.set p u)[p]? = some u := List.getElem?_set_self (lt_of_at h)
theorem dicAt_lst {s : Sto} {p : Nat} {xs : List W} (h : s[p]? = some (.lst xs)) : dicAt s p = none := by unfold dicAt; rw [h]
theorem lstAt_lst {s : Sto} {p : Nat} {xs : List W} (h : s[p]? = some (.lst xs)) : lstAt s p = some xs := by unfold lstAt; rw [h]
theorem dicAt_cst {s : Sto} {p : Nat} {xs : List W} (h : s[p]? = some (.cst xs)) : dicAt s p = none := by unfold dicAt; rw [h]
theorem lstAt_cst {s : Sto} {p : Nat} {xs : List W} (h : s[p]? = some (.cst xs)) : lstAt s p = some xs := by unfold lstAt; rw [h]
theorem dicAt_tup {s : Sto} {p : Nat} {xs : List W} (h : s[p]? = some (.tup xs)) : dicAt s p = none := by unfold dicAt; rw [h]
theorem lstAt_tup {s : Sto} {p : Nat} {xs : List W} (h : s[p]? = some (.tup xs)) : lstAt s p = none := by unfold lstAt; rw [h]
theorem tupAt_tup {s : Sto} {p : Nat} {xs : List W} (h : s[p]? = some (.tup xs)) : tupAt s p = some xs := by unfold tupAt; rw [h]
theorem gIx_lst {s : Sto} {p : Nat} {xs : List W} {k : Int} {w : W} (h : s[p]? = some (.lst xs)) (e : L2.atI xs k = some w) : gIx (.ref p) (.int k) s = some (w, s) := by
  unfold gIx
  simp only [dicAt_lst h, lstAt_lst h, Option.some_or, e, ok1_eq]
theorem gIx_cst {s : Sto} {p : Nat} {xs : List W} {k : Int} {w : W} (h : s[p]? = some (.cst xs)) (e : L2.atI xs k = some w) : gIx (.ref p) (.int k) s = some (w, s) := by
  unfold gIx
  simp only [dicAt_cst h, lstAt_cst h, Option.some_or, e, ok1_eq]
theorem gIx_tup {s : Sto} {p : Nat} {xs : List W} {k : Int} {w : W} (h : s[p]? = some (.tup xs)) (e : L2.atI xs k = some w) : gIx (.ref p) (.int k) s = some (w, s) := by
  unfold gIx
  simp only [dicAt_tup h, lstAt_tup h, tupAt_tup h, Option.none_or, e, ok1_eq]
theorem atI_nat {α : Type} {xs : List α} {k : Nat} {w : α} (h : xs[k]? = some w) : L2.atI xs (k : Int) = some w := by
  have hl := (List.getElem?_eq_some_iff.mp h).1
  unfold L2.atI L2.ixN
  rw [if_pos (by omega), if_pos (by omega)]
  simpa using h
theorem atI_of {α : Type} {xs : List α} {k : Int} (h0 : 0 ≤ k) (h1 : k < xs.length) : ∃ w, L2.atI xs k = some w ∧ xs[k.toNat]? = some w := by
  have hl : k.toNat < xs.length := by omega
  refine ⟨xs[k.toNat], ?_, List.getElem?_eq_getElem hl⟩
  have := atI_nat (List.getElem?_eq_getElem hl)
  rwa [Int.toNat_of_nonneg h0] at this
/-! ### stores that grow -/
theorem pre_at {s s' : Sto} {p : Nat} {o : O} (h : s <+: s') (e : s[p]? = some o) : s'[p]? = some o := by
  obtain ⟨t, rfl⟩ := h
  exact at_app e
theorem set_pre {s s' : Sto} {p : Nat} (o : O) (hp : p < s.length) (h : s <+: s') : s.set p o <+: s'.set p o := by
  obtain ⟨t, rfl⟩ := h
  rw [List.set_append_left _ _ hp]
  exact List.prefix_append _ _
@[simp] theorem gI_int (C : Int → Int → Bool) (f : Int → Int → Int) (i j : Int) (s : Sto) : gI C f (.int i) (.int j) s = if C i j = true then some (.int (f i j), s) else none := rfl
@[simp] theorem gCI_int (f : Int → Int → Bool) (i j : Int) (s : Sto) : gCI f (.int i) (.int j) s = some (.bl (f i j), s) := rfl
@[simp] theorem gAdd_int (i j : Int) (s : Sto) : gAdd (.int i) (.int j) s = some (.int (i + j), s) := rfl
@[simp] theorem gEq_int (i j : Int) (s : Sto) : gEq (.int i) (.int j) s = some (.bl (decide (i = j)), s) := rfl
@[simp] theorem gNe_int (i j : Int) (s : Sto) : gNe (.int i) (.int j) s = some (.bl (!decide (i = j)), s) := rfl
@[simp] theorem gEq_str (i j : Str) (s : Sto) : gEq (.str i) (.str j) s = some (.bl (decide (i = j)), s) := rfl
@[simp] theorem gNe_str (i j : Str) (s : Sto) : gNe (.str i) (.str j) s = some (.bl (!decide (i = j)), s) := rfl
@[simp] theorem gNeg_int (i : Int) (s : Sto) : gNeg (.int i) s = some (.int (-i), s) := rfl
@[simp] theorem gtru_bl (b : Bool) (s : Sto) : gtru (.bl b) s = some b := rfl
theorem gMul_int (i j : Int) (s : Sto) (h : (small64 i || small64 j || decide (i.natAbs.log2 + j.natAbs.log2 < 1000000)) = true) : gMul (.int i) (.int j) s = some (.int (i * j), s) := by
  exact if_pos h
@[simp] theorem gMax2 (i j : Int) (s : Sto) : gMax [.int i, .int j] s = some (.int (if j > i then j else i), s) := rfl
@[simp] theorem gMin2 (i j : Int) (s : Sto) : gMin [.int i, .int j] s = some (.int (if j < i then j else i), s) := rfl
theorem gLen_str {x : Str} (s : Sto) (h : x.length ≤ 16777216) : gLen [.str x] s = some (.int x.length, s) := if_pos h
theorem gAdd_str {x y : Str} (s : Sto) (h : x.length + y.length ≤ 16777216) : gAdd (.str x) (.str y) s = some (.str (x ++ y), s) := if_pos h
theorem gSl_str {x : Str} (lo hi : Option Int) (s : Sto) (h : x.length ≤ 16777216) : gSl (.str x) lo hi s = some (.str (cutS x lo hi), s) := if_pos h
theorem gLen_lst {s : Sto} {p : Nat} {xs : List W} (h : s[p]? = some (.lst xs)) : gLen [.ref p] s = some (.int xs.length, s) := by
  unfold gLen seqAt
  simp [lstAt_lst h]
theorem gLen_cst {s : Sto} {p : Nat} {xs : List W} (h : s[p]? = some (.cst xs)) : gLen [.ref p] s = some (.int xs.length, s) := by
  unfold gLen seqAt
  simp [lstAt_cst h]
theorem gLen_tup {s : Sto} {p : Nat} {xs : List W} (h : s[p]? = some (.tup xs)) : gLen [.ref p] s = some (.int xs.length, s) := by
  unfold gLen seqAt
  simp [lstAt_tup h, tupAt_tup h]
theorem gLen_dic {s : Sto} {p : Nat} {xs : List (Key × W)} (h : s[p]? = some (.dic xs)) : gLen [.ref p] s = some (.int xs.length, s) := by
  unfold gLen seqAt lstAt tupAt
  simp [h]
theorem gAdd_lst {s : Sto} {p q : Nat} {xs ys : List W} (h : s[p]? = some (.lst xs)) (k : s[q]? = some (.lst ys)) (l : xs.length + ys.length ≤ 16777216) : gAdd (.ref p) (.ref q) s = some (.ref s.length, s ++ [.lst (xs ++ ys)]) := by
  unfold gAdd muAt
  simp only [h, k]
  exact if_pos l
end Vm

/-! Vp2: drawing from pots; what stays. -/
namespace Vm
open PySem PySem.Spec PyProof.Rows L2
/-! ### the laws' pots -/
def mPot : MS := (sseq (sset 2 (mif (mtb (mbin gLt (mvar 1) (mfn gLen (mcons (mvar 0) mnil)))) (mfn gAbs (mcons (mbin gIx (mvar 0) (mvar 1)) mnil)) (mc (.int 0))))
    (sseq (sret (mlst (mcons (mfn gMax (mcons (mc (.int 0)) (mcons (mbin gSub (mvar 2) (mbin gPow (mc (.int 10)) (mc (.int 18)))) mnil))) (mcons (mbin gMod (mbin gAdd (mbin gAdd (mbin gMul (mbin gMod (mvar 2) (mc (.int 2147483587))) (mc (.int 48271))) (mbin gMul (mc (.int 60013)) (mvar 1))) (mc (.int 53))) (mc (.int 2147483647))) mnil))))
    snil))
def rPot : List W → Sto → R W := runB 3 mPot
def mDigit : MS := (sseq (sif (mtb (mbin gGt (mbin gIx (mvar 0) (mc (.int 0))) (mc (.int 0))))
    (sseq (sasg (mfn gDivmod (mcons (mbin gIx (mvar 0) (mc (.int 0))) (mcons (mvar 1) mnil))) (gtup 2 (gcons (gsub (mvar 0) (mc (.int 0)) gSetI) (gcons (gname 2) gnil))))
    (sseq (sret (mvar 2))
    snil))
    snil)
    (sseq (sasg (mbin gMod (mbin gAdd (mbin gMul (mbin gIx (mvar 0) (mc (.int 1))) (mc (.int 39373))) (mc (.int 12227))) (mc (.int 2147483629))) (gsub (mvar 0) (mc (.int 1)) gSetI))
    (sseq (sret (mbin gMod (mbin gFdiv (mbin gMod (mbin gMul (mbin gIx (mvar 0) (mc (.int 1))) (mbin gIx (mvar 0) (mc (.int 1)))) (mc (.int 2147483563))) (mc (.int 13))) (mvar 1)))
    snil)))
def rDigit : List W → Sto → R W := runB 3 mDigit
def mPick : MS := (sseq (sret (mbin gIx (mvar 1) (mcall 2 rDigit (mcons (mvar 0) (mcons (mfn gLen (mcons (mvar 1) mnil)) mnil)))))
    snil)
def rPick : List W → Sto → R W := runB 2 mPick
/-- a pot's numbers -/
def Pot (o : O) : Prop := ∃ a b : Int, o = .lst [.int a, .int b] ∧ 0 ≤ a ∧ 0 ≤ b ∧ b < 2147483648
/-- the pot at p was drawn from; else there are only new objects -/
def Mv (p : Nat) (s s' : Sto) : Prop := ∃ o, Pot o ∧ s.set p o <+: s'
def PotAt (p : Nat) (s : Sto) : Prop := ∃ o, s[p]? = some o ∧ Pot o
theorem Mv.pot {p : Nat} {s s' : Sto} (h : Mv p s s') (hp : p < s.length) : PotAt p s' := by
  obtain ⟨o, ho, q⟩ := h
  exact ⟨o, pre_at q (List.getElem?_set_self hp), ho⟩
theorem PotAt.lt {p : Nat} {s : Sto} (h : PotAt p s) : p < s.length := let ⟨_, e, _⟩ := h; lt_of_at e
theorem Mv.of_pre {p : Nat} {s s' : Sto} (h : PotAt p s) (q : s <+: s') : Mv p s s' := by
  obtain ⟨o, e, ho⟩ := h
  refine ⟨o, ho, ?_⟩
  have : s.set p o = s := by
    have hl := lt_of_at e
    apply List.ext_getElem?
    intro i
    by_cases hi : p = i
    · subst hi; rw [List.getElem?_set_self hl, e]
    · rw [List.getElem?_set_ne hi]
  rw [this]; exact q
theorem Mv.len {p : Nat} {s s' : Sto} (h : Mv p s s') : s.length ≤ s'.length := by
  obtain ⟨o, _, q⟩ := h
  have := q.length_le
  simpa using this
theorem Mv.trans {p : Nat} {s s1 s2 : Sto} (h : Mv p s s1) (h' : Mv p s1 s2) (hp : p < s.length) : Mv p s s2 := by
  obtain ⟨o, _, q⟩ := h
  obtain ⟨o', ho', q'⟩ := h'
  refine ⟨o', ho', ?_⟩
  have := set_pre o' (by simpa using hp) q
  rw [List.set_set] at this
  exact this.trans q'
theorem Mv.at {p n : Nat} {s s' : Sto} {o : O} (h : Mv p s s') (e : s[n]? = some o) (hn : n ≠ p) : s'[n]? = some o := by
  obtain ⟨u, _, q⟩ := h
  exact pre_at q (by rw [List.getElem?_set_ne (Ne.symm hn)]; exact e)
theorem digit_ok {s : Sto} {p : Nat} {n : Int} (hp' : PotAt p s) (hn : 0 < n) (hn2 : n.natAbs.log2 < 9000) : ∃ d s', rDigit [.ref p, .int n] s = .ok (.int d) s' ∧ 0 ≤ d ∧ d < n ∧ Mv p s s' := by
  obtain ⟨o, hp, a, b, rfl, ha, hb, hb2⟩ := hp'
  have h0 : gIx (.ref p) (.int 0) s = some (.int a, s) := gIx_lst hp rfl
  have h1 : gIx (.ref p) (.int 1) s = some (.int b, s) := gIx_lst hp rfl
  by_cases hpos : 0 < a
  · refine ⟨a % n, _, runB_rt (s' := (s ++ [O.tup [.int (a / n), .int (a % n)]]).set p (.lst [.int (a / n), .int b])) ?_, Int.emod_nonneg _ (by omega), Int.emod_lt_of_pos _ hn, .lst [.int (a / n), .int b], ⟨_, _, rfl, Int.ediv_nonneg ha (by omega), hb, hb2⟩, ?_⟩
    · have hd : gDivmod [.int a, .int n] s = some (.ref s.length, s ++ [O.tup [.int (a / n), .int (a % n)]]) := by
        unfold gDivmod cDiv
        simp [hn, hn2]
      have hs : gSetI (.ref p) (.int 0) (.int (a / n)) (s ++ [O.tup [.int (a / n), .int (a % n)]]) = some ((s ++ [O.tup [.int (a / n), .int (a % n)]]).set p (.lst [.int (a / n), .int b])) := by
        unfold gSetI
        simp only [at_app hp]
        rfl
      simp [mDigit, h0, gCI, hpos, hd, hs]
    · rw [List.set_append_left _ _ (lt_of_at hp)]
      exact List.prefix_append _ _
  · generalize hc : (b * 39373 + 12227) % 2147483629 = c
    have hc0 : 0 ≤ c := by omega
    have hc1 : c < 2147483629 := by omega
    have hs : gSetI (.ref p) (.int 1) (.int c) s = some (s.set p (.lst [.int a, .int c])) := by
      unfold gSetI
      simp only [hp]
      rfl
    have h2 : gIx (.ref p) (.int 1) (s.set p (.lst [.int a, .int c])) = some (.int c, s.set p (.lst [.int a, .int c])) := gIx_lst (at_set _ hp) rfl
    have hm : gMul (.int b) (.int 39373) s = some (.int (b * 39373), s) := by
      have : small64 39373 = true := by decide
      unfold gMul
      simp [this]
    have hm2 : gMul (.int c) (.int c) (s.set p (.lst [.int a, .int c])) = some (.int (c * c), s.set p (.lst [.int a, .int c])) := by
      have : small64 c = true := by unfold small64; simp; omega
      unfold gMul
      simp [this]
    refine ⟨c * c % 2147483563 / 13 % n, _, runB_rt (s' := s.set p (.lst [.int a, .int c])) ?_, Int.emod_nonneg _ (by omega), Int.emod_lt_of_pos _ hn, .lst [.int a, .int c], ⟨_, _, rfl, ha, hc0, by omega⟩, List.prefix_refl _⟩
    have hl : (Nat.log2 13 < 9000) := by decide
    simp [mDigit, h0, h1, gCI, hpos, hm, gAdd, gI, hc, hs, h2, hm2, cDiv, hn, hl]

/-! ### a pot from the script -/
theorem pot_ok {s : Sto} {n : Nat} {ns : List Int} {k : Int} (hs : s[n]? = some (.cst (ns.map .int))) (h0 : 0 ≤ k) (h1 : k < 1000) : ∃ o, rPot [.ref n, .int k] s = .ok (.ref s.length) (s ++ [o]) ∧ Pot o := by
  have hl : gLen [.ref n] s = some (.int ns.length, s) := by
    unfold gLen seqAt
    simp [lstAt_cst hs]
  have hp : gPow (.int 10) (.int 18) s = some (.int (10 ^ 18), s) := by
    have : cPow 10 18 = true := by decide
    simp [gI, this]
  have core : ∀ c : Int, 0 ≤ c → ∃ o, ((mlst (mcons (mfn gMax (mcons (mc (.int 0)) (mcons (mbin gSub (mvar 2) (mbin gPow (mc (.int 10)) (mc (.int 18)))) mnil))) (mcons (mbin gMod (mbin gAdd (mbin gAdd (mbin gMul (mbin gMod (mvar 2) (mc (.int 2147483587))) (mc (.int 48271))) (mbin gMul (mc (.int 60013)) (mvar 1))) (mc (.int 53))) (mc (.int 2147483647))) mnil))) [some (.ref n), some (.int k), some (.int c)] s) = .ok (.ref s.length) (s ++ [o]) ∧ Pot o := by
    intro c hc
    have m1 : gMul (.int (c % 2147483587)) (.int 48271) s = some (.int (c % 2147483587 * 48271), s) := by
      have : small64 48271 = true := by decide
      unfold gMul
      simp [this]
    have m2 : gMul (.int 60013) (.int k) s = some (.int (60013 * k), s) := by
      have : small64 60013 = true := by decide
      unfold gMul
      simp [this]
    refine ⟨.lst [.int (if c - 10 ^ 18 > 0 then c - 10 ^ 18 else 0), .int ((c % 2147483587 * 48271 + 60013 * k + 53) % 2147483647)], ?_, _, _, rfl, ?_, by omega, by omega⟩
    · simp [gI, hp, m1, m2, gMax, gAdd, show cPow 10 18 = true from by decide]
    · split <;> omega
  by_cases hk : k < ns.length
  · obtain ⟨w, e1, e2⟩ := atI_of (xs := ns.map W.int) h0 (by simpa using hk)
    rw [List.getElem?_map] at e2
    obtain ⟨z, e3, rfl⟩ := Option.map_eq_some_iff.mp e2
    have hi : gIx (.ref n) (.int k) s = some (.int z, s) := gIx_cst hs e1
    obtain ⟨o, c1, c2⟩ := core (if z < 0 then -z else z) (by split <;> omega)
    refine ⟨o, runB_rt ?_, c2⟩
    simp only [List.map, List.length, List.replicate, mPot]
    have : (sset 2 (mif (mtb (mbin gLt (mvar 1) (mfn gLen (mcons (mvar 0) mnil)))) (mfn gAbs (mcons (mbin gIx (mvar 0) (mvar 1)) mnil)) (mc (.int 0)))) [some (W.ref n), some (.int k), none] s = .nx [some (.ref n), some (.int k), some (.int (if z < 0 then -z else z))] s := by
      simp [hl, gCI, hk, hi, gAbs]
    simp only [sseq_eq, List.nil_append, List.cons_append]
    show (RS.andThen (sset 2 _ [some (W.ref n), some (.int k), none] s) _) = _
    rw [this]
    simp only [RS.then_nx, sseq_eq, sret_eq]
    rw [c1]
    rfl
  · obtain ⟨o, c1, c2⟩ := core 0 (Int.le_refl _)
    refine ⟨o, runB_rt ?_, c2⟩
    simp only [List.map, List.length, List.replicate, mPot]
    have : (sset 2 (mif (mtb (mbin gLt (mvar 1) (mfn gLen (mcons (mvar 0) mnil)))) (mfn gAbs (mcons (mbin gIx (mvar 0) (mvar 1)) mnil)) (mc (.int 0)))) [some (W.ref n), some (.int k), none] s = .nx [some (.ref n), some (.int k), some (.int 0)] s := by
      simp [hl, gCI, hk]
    simp only [sseq_eq, List.nil_append, List.cons_append]
    show (RS.andThen (sset 2 _ [some (W.ref n), some (.int k), none] s) _) = _
    rw [this]
    simp only [RS.then_nx, sseq_eq, sret_eq]
    rw [c1]
    rfl
/-! ### picks -/
theorem log2_lt {n : Nat} (h : n < 2 ^ 200) : n.log2 < 9000 := by
  by_cases h0 : n = 0
  · subst h0; decide
  · have : n.log2 < 200 := (Nat.log2_lt h0).mpr h
    omega
theorem log2_small {n : Int} (h : n.natAbs < 1000000001) : n.natAbs.log2 < 9000 := log2_lt (Nat.lt_trans h (by decide))
theorem pick_seq {s : Sto} {p q : Nat} {xs : List W} {o : O} (hp : PotAt p s) (hq : s[q]? = some o) (ho : o = .lst xs ∨ o = .tup xs) (ne : q ≠ p) (h0 : xs ≠ []) (h1 : xs.length < 1000000000) : ∃ w s', rPick [.ref p, .ref q] s = .ok w s' ∧ w ∈ xs ∧ Mv p s s' := by
  have hlen : 0 < xs.length := by cases xs with
    | nil => exact absurd rfl h0
    | cons _ _ => simp
  have hl : gLen [.ref q] s = some (.int xs.length, s) := by
    unfold gLen seqAt
    rcases ho with rfl | rfl
    · simp [lstAt_lst hq]
    · simp [lstAt_tup hq, tupAt_tup hq]
  obtain ⟨d, s', e, d0, d1, mv⟩ := digit_ok (n := xs.length) hp (by omega) (log2_small (by omega))
  obtain ⟨w, e1, e2⟩ := atI_of (xs := xs) d0 d1
  have hi : gIx (.ref q) (.int d) s' = some (w, s') := by
    have := mv.at hq ne
    rcases ho with rfl | rfl
    · exact gIx_lst this e1
    · exact gIx_tup this e1
  refine ⟨w, s', runB_rt ?_, List.mem_of_getElem? e2, mv⟩
  simp [mPick, hl, e, hi]
theorem pick_str {s : Sto} {p : Nat} {x : Str} (hp : PotAt p s) (h0 : 0 < x.cps.size) (h1 : x.length ≤ 16777216) : ∃ c s', rPick [.ref p, .str x] s = .ok (.str ⟨#[c]⟩) s' ∧ c ∈ x.cps.toList ∧ Mv p s s' := by
  have e0 : x.length = x.cps.size := rfl
  have hl : gLen [.str x] s = some (.int x.length, s) := by
    unfold gLen
    simp [h1]
  obtain ⟨d, s', e, d0, d1, mv⟩ := digit_ok (n := x.length) hp (by omega) (log2_small (by omega))
  obtain ⟨c, e1, e2⟩ := atI_of (xs := x.cps.toList) d0 (by rw [Array.length_toList, ← e0]; exact d1)
  have hi : gIx (.str x) (.int d) s' = some (.str ⟨#[c]⟩, s') := by
    unfold gIx
    simp [h1, e1]
  refine ⟨c, s', runB_rt ?_, List.mem_of_getElem? e2, mv⟩
  simp [mPick, hl, e, hi]

/-! ### ints, small ones and of forty digits -/
def mInteger : MS := (sseq (sset 1 (mcall 2 rDigit (mcons (mvar 0) (mcons (mc (.int 8)) mnil))))
    (sseq (sif (mtb (mbin gLt (mvar 1) (mc (.int 5))))
    (sseq (sret (mbin gIx (mlst (mcons (mc (.int 0)) (mcons (mc (.int 1)) (mcons (mun gNeg (mc (.int 1))) (mcons (mc (.int 2)) (mcons (mun gNeg (mc (.int 3))) mnil)))))) (mvar 1)))
    snil)
    snil)
    (sseq (sif (mtb (mbin gEq (mvar 1) (mc (.int 5))))
    (sseq (sret (mbin gSub (mcall 2 rDigit (mcons (mvar 0) (mcons (mc (.int 41)) mnil))) (mc (.int 20))))
    snil)
    snil)
    (sseq (sret (mbin gIx (mlst (mcons (mbin gSub (mcall 2 rDigit (mcons (mvar 0) (mcons (mbin gPow (mc (.int 10)) (mc (.int 12))) mnil))) (mbin gMul (mc (.int 5)) (mbin gPow (mc (.int 10)) (mc (.int 11))))) (mcons (mbin gAdd (mbin gSub (mcall 2 rDigit (mcons (mvar 0) (mcons (mbin gSub (mbin gMul (mc (.int 2)) (mbin gPow (mc (.int 10)) (mc (.int 40)))) (mc (.int 1))) mnil))) (mbin gPow (mc (.int 10)) (mc (.int 40)))) (mc (.int 1))) mnil))) (mbin gSub (mvar 1) (mc (.int 6)))))
    snil))))
def rInteger : List W → Sto → R W := runB 2 mInteger
theorem integer_ok {s : Sto} {p : Nat} (hp : PotAt p s) : ∃ i s', rInteger [.ref p] s = .ok (.int i) s' ∧ i.natAbs ≤ 10 ^ 40 ∧ Mv p s s' := by
  obtain ⟨d, s1, e1, d0, d1, mv1⟩ := digit_ok (n := 8) hp (by decide) (by decide)
  have hp1 : PotAt p s1 := mv1.pot hp.lt
  by_cases h5 : d < 5
  · obtain ⟨w, a1, a2⟩ := atI_of (xs := [W.int 0, .int 1, .int (-1), .int 2, .int (-3)]) (k := d) d0 (by simpa using h5)
    have hw : ∃ i : Int, w = .int i ∧ i.natAbs ≤ 10 ^ 40 := by
      have := List.mem_of_getElem? a2
      simp at this
      rcases this with rfl | rfl | rfl | rfl | rfl <;> exact ⟨_, rfl, by decide⟩
    obtain ⟨i, rfl, hi⟩ := hw
    refine ⟨i, _, runB_rt (s' := s1 ++ [.lst [W.int 0, .int 1, .int (-1), .int 2, .int (-3)]]) ?_, hi, mv1.trans (Mv.of_pre hp1 (List.prefix_append _ _)) hp.lt⟩
    have hi := gIx_lst (at_new s1 (.lst [W.int 0, .int 1, .int (-1), .int 2, .int (-3)])) a1
    simp [mInteger, e1, h5, hi]
  · by_cases h6 : d = 5
    · subst h6
      obtain ⟨d2, s2, e2, f0, f1, mv2⟩ := digit_ok (n := 41) hp1 (by decide) (by decide)
      refine ⟨d2 - 20, _, runB_rt (s' := s2) ?_, ?_, mv1.trans mv2 hp.lt⟩
      · simp [mInteger, e1, e2]
      · have : (10 : Nat) ^ 40 > 1000 := by decide
        omega
    · obtain ⟨d2, s2, e2, f0, f1, mv2⟩ := digit_ok (n := 10 ^ 12) hp1 (by decide) (by decide)
      have hp2 : PotAt p s2 := mv2.pot hp1.lt
      obtain ⟨d3, s3, e3, g0, g1, mv3⟩ := digit_ok (n := 2 * 10 ^ 40 - 1) hp2 (by decide) (by decide +kernel)
      have hp3 : PotAt p s3 := mv3.pot hp2.lt
      obtain ⟨w, a1, a2⟩ := atI_of (xs := [W.int (d2 - 5 * 10 ^ 11), .int (d3 - 10 ^ 40 + 1)]) (k := d - 6) (by omega) (by simp; omega)
      have hw : ∃ i : Int, w = .int i ∧ i.natAbs ≤ 10 ^ 40 := by
        have := List.mem_of_getElem? a2
        simp at this
        rcases this with rfl | rfl
        · exact ⟨_, rfl, by omega⟩
        · exact ⟨_, rfl, by omega⟩
      obtain ⟨i, rfl, hi⟩ := hw
      refine ⟨i, _, runB_rt (s' := s3 ++ [.lst [W.int (d2 - 5 * 10 ^ 11), .int (d3 - 10 ^ 40 + 1)]]) ?_, hi, (mv1.trans (mv2.trans mv3 hp1.lt) hp.lt).trans (Mv.of_pre hp3 (List.prefix_append _ _)) hp.lt⟩
      have hi := gIx_lst (at_new s3 (.lst [W.int (d2 - 5 * 10 ^ 11), .int (d3 - 10 ^ 40 + 1)])) a1
      have c12 : cPow 10 12 = true := by decide
      have c11 : cPow 10 11 = true := by decide
      have c40 : cPow 10 40 = true := by decide
      have m5 : gMul (.int 5) (.int (10 ^ 11)) s2 = some (.int (5 * 10 ^ 11), s2) := gMul_int _ _ _ (by decide)
      have m2 : gMul (.int 2) (.int (10 ^ 40)) s2 = some (.int (2 * 10 ^ 40), s2) := gMul_int _ _ _ (by decide)
      simp only [Int.reducePow, Int.reduceMul, Int.reduceSub] at *
      simp [mInteger, e1, h5, h6, c12, e2, c11, m5, c40, m2, e3, hi]
end Vm

/-! Vp3: loops; data read off the store; repr. -/
namespace Vm
open PySem PySem.Spec PyProof.Rows L2
/-! ### loops -/
theorem fuel_big {n : Nat} (h : n < 2 ^ 64) : n < fuelN := by
  unfold fuelN
  have : (2 : Nat) ^ 64 < 2 ^ 200 := by decide
  omega
/-- a comprehension by an invariant of the turn, the store, the list so far -/
theorem loopC_inv {nx : Nx} {t : Tgt} {c : MT} {e : ME} {ws : Loc} {d n : Nat} (Inv : Nat → Sto → List W → Prop)
    (step : ∀ i s acc, i < n → s[d]? = some (.lst acc) → Inv i s acc → ∃ w s1 ws2, nx i s = some (some (w, s1)) ∧ t.put w ws s1 = some ws2 ∧
      ((∃ s2, c ws2 s1 = .ok false s2 ∧ s2[d]? = some (.lst acc) ∧ Inv (i + 1) s2 acc) ∨
       (∃ s2 y s3, c ws2 s1 = .ok true s2 ∧ e ws2 s2 = .ok y s3 ∧ s3[d]? = some (.lst acc) ∧ acc.length < 16777216 ∧ Inv (i + 1) (s3.set d (.lst (acc ++ [y]))) (acc ++ [y]))))
    (stop : ∀ s acc, s[d]? = some (.lst acc) → Inv n s acc → nx n s = some none) :
    ∀ (f i : Nat) (s : Sto) (acc : List W), i ≤ n → n - i < f → s[d]? = some (.lst acc) → Inv i s acc → ∃ s' acc', loopC nx t c e ws d f i s = .ok (.ref d) s' ∧ s'[d]? = some (.lst acc') ∧ Inv n s' acc'
  | 0, i, s, acc, _, hf, _, _ => by omega
  | f + 1, i, s, acc, hi, hf, hd, inv => by
    unfold loopC
    by_cases h : i = n
    · subst h
      rw [stop s acc hd inv]
      exact ⟨s, acc, rfl, hd, inv⟩
    · obtain ⟨w, s1, ws2, e1, e2, q⟩ := step i s acc (by omega) hd inv
      rw [e1]
      simp only [e2]
      rcases q with ⟨s2, q1, q2, q3⟩ | ⟨s2, y, s3, q1, q2, q3, q4, q5⟩
      · simp only [q1, R.cl_ok, R.bind_ok, Bool.false_eq_true, if_false]
        exact loopC_inv Inv step stop f (i + 1) s2 acc (by omega) (by omega) q2 q3
      · simp only [q1, R.cl_ok, R.bind_ok, if_true, q2, q3, if_pos q4]
        exact loopC_inv Inv step stop f (i + 1) _ _ (by omega) (by omega) (at_set _ q3) q5
theorem mlc_inv {mi : MI} {nx : Nx} {t : Tgt} {c : MT} {e : ME} {vs : List Nat} {ws : Loc} {s s0 : Sto} {n : Nat} (hm : mi ws s = .ok nx s0) (hn : n < 2 ^ 64) (Inv : Nat → Sto → List W → Prop) (h0 : Inv 0 (s0 ++ [.lst []]) [])
    (step : ∀ i s acc, i < n → s[s0.length]? = some (.lst acc) → Inv i s acc → ∃ w s1 ws2, nx i s = some (some (w, s1)) ∧ t.put w (wipeW ws vs) s1 = some ws2 ∧
      ((∃ s2, c ws2 s1 = .ok false s2 ∧ s2[s0.length]? = some (.lst acc) ∧ Inv (i + 1) s2 acc) ∨
       (∃ s2 y s3, c ws2 s1 = .ok true s2 ∧ e ws2 s2 = .ok y s3 ∧ s3[s0.length]? = some (.lst acc) ∧ acc.length < 16777216 ∧ Inv (i + 1) (s3.set s0.length (.lst (acc ++ [y]))) (acc ++ [y]))))
    (stop : ∀ s acc, s[s0.length]? = some (.lst acc) → Inv n s acc → nx n s = some none) :
    ∃ s' acc', mlc mi t c e vs ws s = .ok (.ref s0.length) s' ∧ s'[s0.length]? = some (.lst acc') ∧ Inv n s' acc' := by
  unfold mlc
  rw [hm]
  exact loopC_inv Inv step stop fuelN 0 _ [] (Nat.zero_le _) (fuel_big hn) (at_new _ _) h0
/-- a comprehension whose elements change nothing -/
theorem mlc_pure {mi : MI} {nx : Nx} {t : Tgt} {c : MT} {e : ME} {vs : List Nat} {ws : Loc} {s s0 : Sto} {n : Nat} (hm : mi ws s = .ok nx s0) (hn : n < 16777216) (f : Nat → Option W)
    (step : ∀ i s, i < n → s0 <+: s → ∃ w ws2, nx i s = some (some (w, s)) ∧ t.put w (wipeW ws vs) s = some ws2 ∧ ((f i = none ∧ c ws2 s = .ok false s) ∨ (∃ y, f i = some y ∧ c ws2 s = .ok true s ∧ e ws2 s = .ok y s)))
    (stop : ∀ s, s0 <+: s → nx n s = some none) :
    mlc mi t c e vs ws s = .ok (.ref s0.length) (s0 ++ [.lst ((List.range n).filterMap f)]) := by
  obtain ⟨s', acc', h1, h2, h3⟩ := mlc_inv (t := t) (c := c) (e := e) (vs := vs) hm (Nat.lt_trans hn (by decide)) (fun i s acc => s = s0 ++ [.lst acc] ∧ acc = (List.range i).filterMap f) ⟨rfl, rfl⟩ (fun i s acc hi hd ⟨es, ea⟩ => by
    subst es
    obtain ⟨w, ws2, e1, e2, q⟩ := step i (s0 ++ [.lst acc]) hi (List.prefix_append _ _)
    refine ⟨w, _, ws2, e1, e2, ?_⟩
    rcases q with ⟨fi, q1⟩ | ⟨y, fi, q1, q2⟩
    · refine .inl ⟨_, q1, hd, rfl, ?_⟩
      rw [List.range_succ, List.filterMap_append, ← ea]
      simp [fi]
    · refine .inr ⟨_, y, _, q1, q2, hd, ?_, ?_, ?_⟩
      · have := List.length_filterMap_le f (List.range i)
        rw [← ea, List.length_range] at this
        omega
      · rw [List.set_append_right _ _ (Nat.le_refl _)]
        simp
      · rw [List.range_succ, List.filterMap_append, ← ea]
        simp [fi]) (fun s acc hd ⟨es, ea⟩ => by subst es; exact stop _ (List.prefix_append _ _))
  rw [h1, h3.1, h3.2]
/-- a for loop by an invariant; it may end ahead with a result -/
theorem loopF_inv {nx : Nx} {g : MG} {b : MS} {n : Nat} (Inv : Nat → Loc → Sto → Prop) (Out : RS → Prop)
    (step : ∀ i ws s, i < n → Inv i ws s → ∃ w s1 ws2 s2, nx i s = some (some (w, s1)) ∧ g w ws s1 = .ok ws2 s2 ∧
      ((∃ ws3 s3, (b ws2 s2 = .nx ws3 s3 ∨ b ws2 s2 = .ct ws3 s3) ∧ Inv (i + 1) ws3 s3) ∨ (∃ ws3 s3, b ws2 s2 = .bk ws3 s3 ∧ Out (.nx ws3 s3)) ∨ (∃ w' s3, b ws2 s2 = .rt w' s3 ∧ Out (.rt w' s3)) ∨ (∃ k d ws3 s3, b ws2 s2 = .er k d ws3 s3 ∧ Out (.er k d ws3 s3))))
    (stop : ∀ ws s, Inv n ws s → nx n s = some none ∧ Out (.nx ws s)) :
    ∀ (f i : Nat) (ws : Loc) (s : Sto), i ≤ n → n - i < f → Inv i ws s → Out (loopF nx g b f i ws s)
  | 0, i, ws, s, _, hf, _ => by omega
  | f + 1, i, ws, s, hi, hf, inv => by
    unfold loopF
    by_cases h : i = n
    · subst h
      rw [(stop ws s inv).1]
      exact (stop ws s inv).2
    · obtain ⟨w, s1, ws2, s2, e1, e2, q⟩ := step i ws s (by omega) inv
      rw [e1]
      simp only [e2, R.toS_ok]
      rcases q with ⟨ws3, s3, q1 | q1, q2⟩ | ⟨ws3, s3, q1, q2⟩ | ⟨w', s3, q1, q2⟩ | ⟨k, d, ws3, s3, q1, q2⟩
      · simp only [q1, RS.turn_nx]
        exact loopF_inv Inv Out step stop f (i + 1) ws3 s3 (by omega) (by omega) q2
      · simp only [q1, RS.turn_ct]
        exact loopF_inv Inv Out step stop f (i + 1) ws3 s3 (by omega) (by omega) q2
      · simp only [q1, RS.turn_bk]; exact q2
      · simp only [q1, RS.turn_rt]; exact q2
      · simp only [q1]; exact q2
theorem sfor_inv {mi : MI} {nx : Nx} {g : MG} {b : MS} {ws : Loc} {s s0 : Sto} {n : Nat} (hm : mi ws s = .ok nx s0) (hn : n < 2 ^ 64) (Inv : Nat → Loc → Sto → Prop) (Out : RS → Prop) (h0 : Inv 0 ws s0)
    (step : ∀ i ws s, i < n → Inv i ws s → ∃ w s1 ws2 s2, nx i s = some (some (w, s1)) ∧ g w ws s1 = .ok ws2 s2 ∧
      ((∃ ws3 s3, (b ws2 s2 = .nx ws3 s3 ∨ b ws2 s2 = .ct ws3 s3) ∧ Inv (i + 1) ws3 s3) ∨ (∃ ws3 s3, b ws2 s2 = .bk ws3 s3 ∧ Out (.nx ws3 s3)) ∨ (∃ w' s3, b ws2 s2 = .rt w' s3 ∧ Out (.rt w' s3)) ∨ (∃ k d ws3 s3, b ws2 s2 = .er k d ws3 s3 ∧ Out (.er k d ws3 s3))))
    (stop : ∀ ws s, Inv n ws s → nx n s = some none ∧ Out (.nx ws s)) : Out (sfor mi g b ws s) := by
  unfold sfor
  rw [hm]
  exact loopF_inv Inv Out step stop fuelN 0 ws s0 (Nat.zero_le _) (fuel_big hn) h0
/-! #### the turns -/
theorem nxRng_go {lo c : Int} {n i : Nat} {s : Sto} (h : i < n) : nxRng lo c n i s = some (some (.int (lo + i * c), s)) := if_pos h
theorem nxRng_stop {lo c : Int} {n : Nat} {s : Sto} : nxRng lo c n n s = some none := if_neg (Nat.lt_irrefl _)
theorem nxL_go {k i : Nat} {s : Sto} {xs : List W} {w : W} (h : s[k]? = some (.lst xs)) (e : xs[i]? = some w) : nxL k i s = some (some (w, s)) := by unfold nxL; rw [h]; simp [e]
theorem nxL_stop {k : Nat} {s : Sto} {xs : List W} (h : s[k]? = some (.lst xs)) : nxL k xs.length s = some none := by unfold nxL; rw [h]; simp
theorem nxT_go {k i : Nat} {s : Sto} {xs : List W} {w : W} (h : s[k]? = some (.tup xs)) (e : xs[i]? = some w) : nxT k i s = some (some (w, s)) := by unfold nxT; rw [h]; simp [e]
theorem nxT_stop {k : Nat} {s : Sto} {xs : List W} (h : s[k]? = some (.tup xs)) : nxT k xs.length s = some none := by unfold nxT; rw [h]; simp
theorem nxStr_go {x : Str} {i : Nat} {s : Sto} (h : i < x.cps.size) : nxStr x i s = some (some (.str ⟨#[x.cps[i]]⟩, s)) := by unfold nxStr; simp [h]
theorem nxStr_stop {x : Str} {s : Sto} : nxStr x x.cps.size s = some none := by unfold nxStr; simp
theorem mirng1_ok {m : MA} {ws : Loc} {s s' : Sto} {j : Int} (h : m ws s = .ok [.int j] s') (hj : sml j) : mirng1 m ws s = .ok (nxRng 0 1 j.toNat) s' := by unfold mirng1; rw [h]; simp [hj]
theorem mirng2_ok {m : MA} {ws : Loc} {s s' : Sto} {i j : Int} (h : m ws s = .ok [.int i, .int j] s') (hi : sml i) (hj : sml j) : mirng2 m ws s = .ok (nxRng i 1 (j - i).toNat) s' := by unfold mirng2; rw [h]; simp [hi, hj]
theorem mival_lst {m : ME} {ws : Loc} {s s' : Sto} {k : Nat} {xs : List W} (h : m ws s = .ok (.ref k) s') (e : s'[k]? = some (.lst xs)) : mival m ws s = .ok (nxL k) s' := by unfold mival nxOf; rw [h]; simp [e]
theorem mival_tup {m : ME} {ws : Loc} {s s' : Sto} {k : Nat} {xs : List W} (h : m ws s = .ok (.ref k) s') (e : s'[k]? = some (.tup xs)) : mival m ws s = .ok (nxT k) s' := by unfold mival nxOf; rw [h]; simp [e]
theorem mival_str {m : ME} {ws : Loc} {s s' : Sto} {x : Str} (h : m ws s = .ok (.str x) s') : mival m ws s = .ok (nxStr x) s' := by unfold mival nxOf; rw [h]; simp
/-! ### data -/
theorem rdL_imp {f f' : W → Option PyData} : ∀ {xs : List W} {ds : List PyData}, (∀ w d, f w = some d → f' w = some d) → rdL f xs = some ds → rdL f' xs = some ds
  | [], _, _, h => h
  | x :: xs, ds, hf, h => by
    unfold rdL at h ⊢
    split at h
    · rename_i d ds' e1 e2
      rw [hf _ _ e1, rdL_imp hf e2]; exact h
    · cases h
theorem rdK_imp {f f' : W → Option PyData} : ∀ {xs : List (Key × W)} {ds : List (PyData × PyData)}, (∀ w d, f w = some d → f' w = some d) → rdK f xs = some ds → rdK f' xs = some ds
  | [], _, _, h => h
  | x :: xs, ds, hf, h => by
    unfold rdK at h ⊢
    split at h
    · rename_i d ds' e1 e2
      rw [hf _ _ e1, rdK_imp hf e2]; exact h
    · cases h
/-- what is read stays, where the places that are read stay -/
theorem rd_imp {s s' : Sto} (h : ∀ (p : Nat) (o : O), s[p]? = some o → (∀ fs, o ≠ O.xd fs) → s'[p]? = some o) : ∀ (n : Nat) (w : W) (d : PyData), rd s n w = some d → rd s' n w = some d
  | 0, w, d, e => e
  | n + 1, w, d, e => by
    have ih := rd_imp h n
    unfold rd at e ⊢
    split at e
    · rename_i p
      split at e
      · rename_i xs ep
        rw [h p _ ep (fun _ z => nomatch z)]
        obtain ⟨l, el, rfl⟩ := Option.map_eq_some_iff.mp e
        simp only [rdL_imp ih el]; rfl
      · rename_i xs ep
        rw [h p _ ep (fun _ z => nomatch z)]
        obtain ⟨l, el, rfl⟩ := Option.map_eq_some_iff.mp e
        simp only [rdL_imp ih el]; rfl
      · rename_i xs ep
        rw [h p _ ep (fun _ z => nomatch z)]
        obtain ⟨l, el, rfl⟩ := Option.map_eq_some_iff.mp e
        simp only [rdL_imp ih el]; rfl
      · rename_i xs ep
        rw [h p _ ep (fun _ z => nomatch z)]
        obtain ⟨l, el, rfl⟩ := Option.map_eq_some_iff.mp e
        simp only [rdK_imp ih el]; rfl
      · cases e
    · exact e
theorem rd_pre {s s' : Sto} (h : s <+: s') {n : Nat} {w : W} {d : PyData} (e : rd s n w = some d) : rd s' n w = some d := rd_imp (fun p o q _ => pre_at h q) n w d e
/-- w is that datum, the place p out of sight -/
def RdX (p : Nat) (s : Sto) (w : W) (d : PyData) : Prop := rd (s.set p (.xd [])) deep w = some d
theorem RdX.rd {p : Nat} {s : Sto} {w : W} {d : PyData} (h : RdX p s w d) : Vm.rd s deep w = some d := by
  refine rd_imp (fun q o e ne => ?_) deep w d h
  by_cases hq : p = q
  · subst hq
    by_cases hl : p < s.length
    · rw [List.getElem?_set_self hl] at e
      cases e
      exact absurd rfl (ne [])
    · rw [List.set_eq_of_length_le (by omega)] at e; exact e
  · rwa [List.getElem?_set_ne hq] at e
theorem RdX.mv {p : Nat} {s s' : Sto} {w : W} {d : PyData} (h : RdX p s w d) (m : Mv p s s') (hp : p < s.length) : RdX p s' w d := by
  obtain ⟨o, _, q⟩ := m
  refine rd_pre ?_ h
  have := set_pre (.xd []) (by simpa using hp) q
  rwa [List.set_set] at this
/-! ### repr -/
/-- small data -/
structure Sml (d : PyData) (n : Nat) : Prop where
  sh : d.showable = true
  dp : d.depth ≤ 64
  lv : d.leavesShort 100 = true
  wt : d.weight ≤ n
theorem repr_ok {s : Sto} {w : W} {d : PyData} {n : Nat} (h : rd s deep w = some d) (q : Sml d n) (hn : n ≤ 160000) : gRepr [w] s = some (.str d.shown, s) := by
  have h2 := PyData.shown_le 100 (by decide) d q.lv
  have := q.wt
  unfold gRepr
  simp only [h]
  rw [if_pos]
  · rfl
  · simp only [q.sh, Bool.true_and, Bool.and_eq_true, decide_eq_true_eq]
    exact ⟨by omega, q.dp⟩
theorem Sml.up {d : PyData} {m n : Nat} (h : Sml d m) (l : m ≤ n) : Sml d n := ⟨h.sh, h.dp, h.lv, Nat.le_trans h.wt l⟩
theorem sml_int {i : Int} (h : i.natAbs < 10 ^ 60) : Sml (.int i) 250 := by
  have hl : i.natAbs.log2 < 200 := by
    by_cases h0 : i.natAbs = 0
    · rw [h0]; decide
    · refine (Nat.log2_lt h0).mpr (Nat.lt_trans h (by decide))
  refine ⟨?_, Nat.zero_le _, ?_, ?_⟩
  · show decide (i.natAbs.log2 < 1920) = true
    rw [decide_eq_true (by omega)]
  · show decide ((PyData.shown (.int i)).length ≤ 100) = true
    have e := int_text_length_le10 (a := i) (k := 60) (by decide) h
    have e2 : (PyData.shown (.int i)).length = (toString i).length := by
      show (Str.ofString (toString i)).length = _
      rw [PySem.ofString_length]
    rw [decide_eq_true (by omega)]
  · show (if i == 0 then 0 else i.natAbs.log2 + 1) ≤ 250
    split <;> omega
theorem rdx_leaf {p : Nat} {s : Sto} {w : W} {d : PyData} (h : rdLeaf w = some d) : RdX p s w d := by
  unfold RdX deep rd
  cases w with
  | ref n => cases h
  | _ => exact h
theorem gAll_lst {s : Sto} {p : Nat} {xs : List W} {bs : List Bool} (h : s[p]? = some (.lst xs)) (e : asB xs = some bs) : gAll [.ref p] s = some (.bl (bs.all id), s) := by
  unfold gAll boolsAt
  simp [lstAt_lst h, e]
end Vm

namespace K11
open PySem PySem.Spec PyProof.Rows L2 Vm
def top (i : Nat) : Stmt := PySem.Challenge.pw_anyoutcome_k11_names_and_integers_judged.main.body.getD i (.Pass ⟨0, 0, 0, 0⟩)
def tbl : List (Ty × Ty × Bool) := [(.b "NoneType", .b "bool", false), (.b "NoneType", .b "int", false), (.b "NoneType", .b "str", false), (.b "bool", .b "bool", true), (.b "bool", .b "int", true), (.b "bool", .b "str", false), (.b "int", .b "bool", false), (.b "int", .b "int", true), (.b "int", .b "str", false), (.b "str", .b "bool", false), (.b "str", .b "int", false), (.b "str", .b "str", true), (.b "list", .b "bool", false), (.b "list", .b "int", false), (.b "list", .b "str", false), (.b "tuple", .b "bool", false), (.b "tuple", .b "int", false), (.b "tuple", .b "str", false), (.b "dict", .b "bool", false), (.b "dict", .b "int", false), (.b "dict", .b "str", false)]
def cs : List Str := []
def g : Gam0 := ⟨[(("LETTERS" : Str), (.str "abcdefghijklmnopqrstuvwxyz")), (("MOST_LETTERS" : Str), (.int 8))], [("abs" : Str), ("all" : Str), ("bool" : Str), ("divmod" : Str), ("int" : Str), ("isinstance" : Str), ("len" : Str), ("max" : Str), ("min" : Str), ("range" : Str), ("repr" : Str), ("str" : Str)], tbl, cs⟩
def m_is_integer : MS := (sseq (sret (mandV (mfn (gIsi tbl cs) (mcons (mvar 0) (mcons (mc (.ty "int")) mnil))) (mnotV (mfn (gIsi tbl cs) (mcons (mvar 0) (mcons (mc (.ty "bool")) mnil))))))
    snil)
def r_is_integer : List W → Sto → R W := runB 1 m_is_integer
def m_is_name : MS := (sseq (sif (mor (mnot (mtru gtru (mfn (gIsi tbl cs) (mcons (mvar 0) (mcons (mc (.ty "str")) mnil))))) (mnot (mtb (mchain gLe gLe (mc (.int 1)) (mfn gLen (mcons (mvar 0) mnil)) (mc (.int 8))))))
    (sseq (sret (mc (.bl false)))
    snil)
    snil)
    (sseq (sret (mfn gAll (mcons (mlc (mival (mvar 0)) (.nm 1) myes (mbin gIn (mvar 1) (mc (.str "abcdefghijklmnopqrstuvwxyz"))) [1]) mnil)))
    snil))
def r_is_name : List W → Sto → R W := runB 2 m_is_name
def m_law_pot : MS := (sseq (sset 2 (mif (mtb (mbin gLt (mvar 1) (mfn gLen (mcons (mvar 0) mnil)))) (mfn gAbs (mcons (mbin gIx (mvar 0) (mvar 1)) mnil)) (mc (.int 0))))
    (sseq (sret (mlst (mcons (mfn gMax (mcons (mc (.int 0)) (mcons (mbin gSub (mvar 2) (mbin gPow (mc (.int 10)) (mc (.int 18)))) mnil))) (mcons (mbin gMod (mbin gAdd (mbin gAdd (mbin gMul (mbin gMod (mvar 2) (mc (.int 2147483587))) (mc (.int 48271))) (mbin gMul (mc (.int 60013)) (mvar 1))) (mc (.int 53))) (mc (.int 2147483647))) mnil))))
    snil))
def r_law_pot : List W → Sto → R W := runB 3 m_law_pot
def m_law_digit : MS := (sseq (sif (mtb (mbin gGt (mbin gIx (mvar 0) (mc (.int 0))) (mc (.int 0))))
    (sseq (sasg (mfn gDivmod (mcons (mbin gIx (mvar 0) (mc (.int 0))) (mcons (mvar 1) mnil))) (gtup 2 (gcons (gsub (mvar 0) (mc (.int 0)) gSetI) (gcons (gname 2) gnil))))
    (sseq (sret (mvar 2))
    snil))
    snil)
    (sseq (sasg (mbin gMod (mbin gAdd (mbin gMul (mbin gIx (mvar 0) (mc (.int 1))) (mc (.int 39373))) (mc (.int 12227))) (mc (.int 2147483629))) (gsub (mvar 0) (mc (.int 1)) gSetI))
    (sseq (sret (mbin gMod (mbin gFdiv (mbin gMod (mbin gMul (mbin gIx (mvar 0) (mc (.int 1))) (mbin gIx (mvar 0) (mc (.int 1)))) (mc (.int 2147483563))) (mc (.int 13))) (mvar 1)))
    snil)))
def r_law_digit : List W → Sto → R W := runB 3 m_law_digit
def m_law_pick : MS := (sseq (sret (mbin gIx (mvar 1) (mcall 2 r_law_digit (mcons (mvar 0) (mcons (mfn gLen (mcons (mvar 1) mnil)) mnil)))))
    snil)
def r_law_pick : List W → Sto → R W := runB 2 m_law_pick
def m_law_integer : MS := (sseq (sset 1 (mcall 2 r_law_digit (mcons (mvar 0) (mcons (mc (.int 8)) mnil))))
    (sseq (sif (mtb (mbin gLt (mvar 1) (mc (.int 5))))
    (sseq (sret (mbin gIx (mlst (mcons (mc (.int 0)) (mcons (mc (.int 1)) (mcons (mun gNeg (mc (.int 1))) (mcons (mc (.int 2)) (mcons (mun gNeg (mc (.int 3))) mnil)))))) (mvar 1)))
    snil)
    snil)
    (sseq (sif (mtb (mbin gEq (mvar 1) (mc (.int 5))))
    (sseq (sret (mbin gSub (mcall 2 r_law_digit (mcons (mvar 0) (mcons (mc (.int 41)) mnil))) (mc (.int 20))))
    snil)
    snil)
    (sseq (sret (mbin gIx (mlst (mcons (mbin gSub (mcall 2 r_law_digit (mcons (mvar 0) (mcons (mbin gPow (mc (.int 10)) (mc (.int 12))) mnil))) (mbin gMul (mc (.int 5)) (mbin gPow (mc (.int 10)) (mc (.int 11))))) (mcons (mbin gAdd (mbin gSub (mcall 2 r_law_digit (mcons (mvar 0) (mcons (mbin gSub (mbin gMul (mc (.int 2)) (mbin gPow (mc (.int 10)) (mc (.int 40)))) (mc (.int 1))) mnil))) (mbin gPow (mc (.int 10)) (mc (.int 40)))) (mc (.int 1))) mnil))) (mbin gSub (mvar 1) (mc (.int 6)))))
    snil))))
def r_law_integer : List W → Sto → R W := runB 2 m_law_integer
def m_law_is_word : MS := (sseq (sif (mor (mnot (mtru gtru (mfn (gIsi tbl cs) (mcons (mvar 0) (mcons (mc (.ty "str")) mnil))))) (mnot (mtb (mchain gLe gLe (mc (.int 1)) (mfn gLen (mcons (mvar 0) mnil)) (mc (.int 8))))))
    (sseq (sret (mc (.bl false)))
    snil)
    snil)
    (sseq (sret (mbin gEq (mlc (mival (mvar 0)) (.nm 1) (mtb (mbin gNotIn (mvar 1) (mc (.str "abcdefghijklmnopqrstuvwxyz")))) (mvar 1) [1]) (mlst mnil)))
    snil))
def r_law_is_word : List W → Sto → R W := runB 2 m_law_is_word
def m_law_is_whole : MS := (sseq (sret (mandV (mfn (gIsi tbl cs) (mcons (mvar 0) (mcons (mc (.ty "int")) mnil))) (mnotV (mfn (gIsi tbl cs) (mcons (mvar 0) (mcons (mc (.ty "bool")) mnil))))))
    snil)
def r_law_is_whole : List W → Sto → R W := runB 1 m_law_is_whole
def m_law_string : MS := (sseq (sset 1 (mc (.str "abcdefghijklmnopqrstuvwxyz")))
    (sseq (sset 2 (mbm "str" gJoin (mc (.str "")) (mcons (mlc (mirng1 (mcons (mcall 2 r_law_digit (mcons (mvar 0) (mcons (mc (.int 11)) mnil))) mnil)) (.nm 3) myes (mcall 2 r_law_pick (mcons (mvar 0) (mcons (mvar 1) mnil))) [3]) mnil)))
    (sseq (sif (mtb (mbin gGt (mcall 2 r_law_digit (mcons (mvar 0) (mcons (mc (.int 3)) mnil))) (mc (.int 0))))
    (sseq (sret (mvar 2))
    snil)
    snil)
    (sseq (spar [4, 5] (mcons (mcall 2 r_law_digit (mcons (mvar 0) (mcons (mbin gAdd (mfn gLen (mcons (mvar 2) mnil)) (mc (.int 1))) mnil))) (mcons (mcall 2 r_law_pick (mcons (mvar 0) (mcons (mc (.str "AZ09_- .:,=\n{~")) mnil))) mnil)))
    (sseq (sret (mbin gAdd (mbin gAdd (mslice (mvar 2) mnop (mpart (mvar 4))) (mvar 5)) (mslice (mvar 2) (mpart (mbin gAdd (mvar 4) (mcall 2 r_law_digit (mcons (mvar 0) (mcons (mc (.int 2)) mnil))))) mnop)))
    snil)))))
def r_law_string : List W → Sto → R W := runB 6 m_law_string
def m_law_other : MS := (sseq (sset 1 (mlst (mcons (mc .non) (mcons (mc (.bl true)) (mcons (mc (.bl false)) (mcons (mc (.str "")) (mcons (mlst mnil) (mcons (mtup mnil) (mcons mdnew (mcons (mlst (mcons (mc (.int 0)) mnil)) (mcons (mtup (mcons (mc (.int 0)) mnil)) (mcons (mdisp (pcons (mc (.int 0)) (mc (.int 0)) pnil)) (mcons (mlst (mcons (mc (.str "a")) mnil)) (mcons (mtup (mcons (mc (.str "a")) mnil)) (mcons (mdisp (pcons (mc (.str "a")) (mc (.int 1)) pnil)) (mcons (mlst (mcons (mlst mnil) mnil)) (mcons (mtup (mcons (mtup mnil) mnil)) (mcons (mlst (mcons (mc .non) mnil)) (mcons (mc (.str "1")) mnil)))))))))))))))))))
    (sseq (sret (mcall 2 r_law_pick (mcons (mvar 0) (mcons (mbin gAdd (mvar 1) (mlst (mcons (mc (.str "0")) (mcons (mc (.str " a")) (mcons (mc (.str "a ")) (mcons (mtup (mcons (mc (.str "a")) (mcons (mc (.int 1)) mnil))) (mcons (mlst (mcons (mc (.bl true)) mnil)) (mcons (mtup (mcons (mc .non) mnil)) (mcons (mc (.str "a\n")) (mcons (mc (.str "\n")) (mcons (mc (.str "ninechars")) (mcons (mc (.str "eightchr")) mnil)))))))))))) mnil))))
    snil))
def r_law_other : List W → Sto → R W := runB 2 m_law_other
def m_law_right : MS := (sseq (spar [1, 2] (mcons (mfn gRepr (mcons (mvar 0) mnil)) (mcons (mfn gRepr (mcons (mlst (mcons (mcall 1 r_law_is_word (mcons (mvar 0) mnil)) (mcons (mcall 1 r_law_is_whole (mcons (mvar 0) mnil)) mnil))) mnil)) mnil)))
    (sseq (sfor (mirng1 (mcons (mc (.int 2)) mnil)) (gname 3)
    (sseq (sif (mtb (mbin gNe (mfn gRepr (mcons (mlst (mcons (mcall 1 r_is_name (mcons (mvar 0) mnil)) (mcons (mcall 1 r_is_integer (mcons (mvar 0) mnil)) mnil))) mnil)) (mvar 2)))
    (sseq (sret (mc (.bl false)))
    snil)
    snil)
    snil))
    (sseq (sret (mbin gEq (mfn gRepr (mcons (mvar 0) mnil)) (mvar 1)))
    snil)))
def r_law_right : List W → Sto → R W := runB 4 m_law_right
def m_law : MS := (sseq (sfor (mirng1 (mcons (mfn gMax (mcons (mc (.int 3)) (mcons (mfn gMin (mcons (mfn gLen (mcons (mvar 0) mnil)) (mcons (mc (.int 10)) mnil))) mnil))) mnil)) (gname 1)
    (sseq (sset 2 (mcall 2 r_law_pot (mcons (mvar 0) (mcons (mvar 1) mnil))))
    (sseq (sfor (mirng1 (mcons (mc (.int 3)) mnil)) (gname 3)
    (sseq (sset 4 (mlst (mcons (mcall 1 r_law_string (mcons (mvar 2) mnil)) (mcons (mcall 1 r_law_integer (mcons (mvar 2) mnil)) (mcons (mcall 1 r_law_other (mcons (mvar 2) mnil)) mnil)))))
    (sseq (sif (mnot (mtru gtru (mfn gAll (mcons (mlc (mival (mvar 4)) (.nm 5) myes (mcall 1 r_law_right (mcons (mvar 5) mnil)) [5]) mnil))))
    (sseq (sret (mc (.bl false)))
    snil)
    snil)
    snil)))
    snil)))
    (sseq (sret (mc (.bl true)))
    snil))
def r_law : List W → Sto → R W := runB 6 m_law
def T0 : Tbl := []
def T1 : Tbl := (("is_integer" : Str), 1, r_is_integer) :: T0
def T2 : Tbl := (("is_name" : Str), 1, r_is_name) :: T1
def T3 : Tbl := (("_law_pot" : Str), 2, r_law_pot) :: T2
def T4 : Tbl := (("_law_digit" : Str), 2, r_law_digit) :: T3
def T5 : Tbl := (("_law_pick" : Str), 2, r_law_pick) :: T4
def T6 : Tbl := (("_law_integer" : Str), 1, r_law_integer) :: T5
def T7 : Tbl := (("_law_is_word" : Str), 1, r_law_is_word) :: T6
def T8 : Tbl := (("_law_is_whole" : Str), 1, r_law_is_whole) :: T7
def T9 : Tbl := (("_law_string" : Str), 1, r_law_string) :: T8
def T10 : Tbl := (("_law_other" : Str), 1, r_law_other) :: T9
def T11 : Tbl := (("_law_right" : Str), 1, r_law_right) :: T10
def N_is_integer : List Str := [("value" : Str)]
theorem sem_is_integer : semB (gam g T0 0 N_is_integer (defScope (top 3))) (defBody (top 3)) = m_is_integer := by kernel_rfl
theorem sc_is_integer : FnScope N_is_integer [("value" : Str)] (defScope (top 3)) := ⟨rfl, rfl, rfl, by decide +kernel, rfl, by decide +kernel, by decide +kernel⟩
def d_is_integer : He.DefD := ⟨("is_integer", none), "is_integer", "is_integer", defArgs (top 3), defBody (top 3), defScope (top 3), [], []⟩
def N_is_name : List Str := [("value" : Str), ("letter" : Str)]
theorem sem_is_name : semB (gam g T1 1 N_is_name (defScope (top 4))) (defBody (top 4)) = m_is_name := by kernel_rfl
theorem sc_is_name : FnScope N_is_name [("value" : Str)] (defScope (top 4)) := ⟨rfl, rfl, rfl, by decide +kernel, rfl, by decide +kernel, by decide +kernel⟩
def d_is_name : He.DefD := ⟨("is_name", none), "is_name", "is_name", defArgs (top 4), defBody (top 4), defScope (top 4), [], []⟩
def N_law_pot : List Str := [("_law_script" : Str), ("_law_k" : Str), ("_law_cell" : Str)]
theorem sem_law_pot : semB (gam g T2 2 N_law_pot (defScope (top 6))) (defBody (top 6)) = m_law_pot := by kernel_rfl
theorem sc_law_pot : FnScope N_law_pot [("_law_script" : Str), ("_law_k" : Str)] (defScope (top 6)) := ⟨rfl, rfl, rfl, by decide +kernel, rfl, by decide +kernel, by decide +kernel⟩
def d_law_pot : He.DefD := ⟨("_law_pot", none), "_law_pot", "_law_pot", defArgs (top 6), defBody (top 6), defScope (top 6), [], []⟩
def N_law_digit : List Str := [("_law_pot_here" : Str), ("_law_many" : Str), ("_law_digit_here" : Str)]
theorem sem_law_digit : semB (gam g T3 3 N_law_digit (defScope (top 7))) (defBody (top 7)) = m_law_digit := by kernel_rfl
theorem sc_law_digit : FnScope N_law_digit [("_law_pot_here" : Str), ("_law_many" : Str)] (defScope (top 7)) := ⟨rfl, rfl, rfl, by decide +kernel, rfl, by decide +kernel, by decide +kernel⟩
def d_law_digit : He.DefD := ⟨("_law_digit", none), "_law_digit", "_law_digit", defArgs (top 7), defBody (top 7), defScope (top 7), [], []⟩
def N_law_pick : List Str := [("_law_pot_here" : Str), ("_law_some" : Str)]
theorem sem_law_pick : semB (gam g T4 4 N_law_pick (defScope (top 8))) (defBody (top 8)) = m_law_pick := by kernel_rfl
theorem sc_law_pick : FnScope N_law_pick [("_law_pot_here" : Str), ("_law_some" : Str)] (defScope (top 8)) := ⟨rfl, rfl, rfl, by decide +kernel, rfl, by decide +kernel, by decide +kernel⟩
def d_law_pick : He.DefD := ⟨("_law_pick", none), "_law_pick", "_law_pick", defArgs (top 8), defBody (top 8), defScope (top 8), [], []⟩
def N_law_integer : List Str := [("_law_pot_here" : Str), ("_law_way" : Str)]
theorem sem_law_integer : semB (gam g T5 5 N_law_integer (defScope (top 9))) (defBody (top 9)) = m_law_integer := by kernel_rfl
theorem sc_law_integer : FnScope N_law_integer [("_law_pot_here" : Str)] (defScope (top 9)) := ⟨rfl, rfl, rfl, by decide +kernel, rfl, by decide +kernel, by decide +kernel⟩
def d_law_integer : He.DefD := ⟨("_law_integer", none), "_law_integer", "_law_integer", defArgs (top 9), defBody (top 9), defScope (top 9), [], []⟩
def N_law_is_word : List Str := [("_law_thing" : Str), ("_law_sign" : Str)]
theorem sem_law_is_word : semB (gam g T6 6 N_law_is_word (defScope (top 10))) (defBody (top 10)) = m_law_is_word := by kernel_rfl
theorem sc_law_is_word : FnScope N_law_is_word [("_law_thing" : Str)] (defScope (top 10)) := ⟨rfl, rfl, rfl, by decide +kernel, rfl, by decide +kernel, by decide +kernel⟩
def d_law_is_word : He.DefD := ⟨("_law_is_word", none), "_law_is_word", "_law_is_word", defArgs (top 10), defBody (top 10), defScope (top 10), [], []⟩
def N_law_is_whole : List Str := [("_law_thing" : Str)]
theorem sem_law_is_whole : semB (gam g T7 7 N_law_is_whole (defScope (top 11))) (defBody (top 11)) = m_law_is_whole := by kernel_rfl
theorem sc_law_is_whole : FnScope N_law_is_whole [("_law_thing" : Str)] (defScope (top 11)) := ⟨rfl, rfl, rfl, by decide +kernel, rfl, by decide +kernel, by decide +kernel⟩
def d_law_is_whole : He.DefD := ⟨("_law_is_whole", none), "_law_is_whole", "_law_is_whole", defArgs (top 11), defBody (top 11), defScope (top 11), [], []⟩
def N_law_string : List Str := [("_law_pot_here" : Str), ("_law_letters" : Str), ("_law_found" : Str), ("_law_k" : Str), ("_law_at" : Str), ("_law_sign" : Str)]
theorem sem_law_string : semB (gam g T8 8 N_law_string (defScope (top 12))) (defBody (top 12)) = m_law_string := by kernel_rfl
theorem sc_law_string : FnScope N_law_string [("_law_pot_here" : Str)] (defScope (top 12)) := ⟨rfl, rfl, rfl, by decide +kernel, rfl, by decide +kernel, by decide +kernel⟩
def d_law_string : He.DefD := ⟨("_law_string", none), "_law_string", "_law_string", defArgs (top 12), defBody (top 12), defScope (top 12), [], []⟩
def N_law_other : List Str := [("_law_pot_here" : Str), ("_law_some" : Str)]
theorem sem_law_other : semB (gam g T9 9 N_law_other (defScope (top 13))) (defBody (top 13)) = m_law_other := by kernel_rfl
theorem sc_law_other : FnScope N_law_other [("_law_pot_here" : Str)] (defScope (top 13)) := ⟨rfl, rfl, rfl, by decide +kernel, rfl, by decide +kernel, by decide +kernel⟩
def d_law_other : He.DefD := ⟨("_law_other", none), "_law_other", "_law_other", defArgs (top 13), defBody (top 13), defScope (top 13), [], []⟩
def N_law_right : List Str := [("_law_thing" : Str), ("_law_kept" : Str), ("_law_due" : Str), ("_law_turn" : Str)]
theorem sem_law_right : semB (gam g T10 10 N_law_right (defScope (top 14))) (defBody (top 14)) = m_law_right := by kernel_rfl
theorem sc_law_right : FnScope N_law_right [("_law_thing" : Str)] (defScope (top 14)) := ⟨rfl, rfl, rfl, by decide +kernel, rfl, by decide +kernel, by decide +kernel⟩
def d_law_right : He.DefD := ⟨("_law_right", none), "_law_right", "_law_right", defArgs (top 14), defBody (top 14), defScope (top 14), [], []⟩
def N_law : List Str := [("_law_script" : Str), ("_law_k" : Str), ("_law_pot_here" : Str), ("_law_turn" : Str), ("_law_some" : Str), ("_law_thing" : Str)]
theorem sem_law : semB (gam g T11 11 N_law (defScope (top 15))) (defBody (top 15)) = m_law := by kernel_rfl
theorem sc_law : FnScope N_law [("_law_script" : Str)] (defScope (top 15)) := ⟨rfl, rfl, rfl, by decide +kernel, rfl, by decide +kernel, by decide +kernel⟩
def d_law : He.DefD := ⟨("law", none), "law", "law", defArgs (top 15), defBody (top 15), defScope (top 15), [], []⟩
def fn : List He.DefD := [d_is_integer, d_is_name, d_law_pot, d_law_digit, d_law_pick, d_law_integer, d_law_is_word, d_law_is_whole, d_law_string, d_law_other, d_law_right, d_law]
def fnames : List Str := [("is_integer" : Str), ("is_name" : Str), ("_law_pot" : Str), ("_law_digit" : Str), ("_law_pick" : Str), ("_law_integer" : Str), ("_law_is_word" : Str), ("_law_is_whole" : Str), ("_law_string" : Str), ("_law_other" : Str), ("_law_right" : Str), ("law" : Str)]
def fa : List He.Fa := g.fa fnames
abbrev Rw : PySem.W.OpenRow := PySem.W.OpenLaw.row PySem.Challenge.rw_anyoutcome_k11_names_and_integers_judged
abbrev hk : PySem.W.Hook := hookV 4 fa fn (isaB g)
def ob (s : PySem.W.SharedT) : AlV := obsVG 4 fa fn (isaB g) (HandSHeadRun.getT s)
theorem ob_eq (s : PySem.W.SharedT) : ob s = hk.obs s.abs := obsVG_eq (HandSHeadRun.getT_eq s)
def loose : List Str := [("LETTERS" : Str), ("MOST_LETTERS" : Str), ("is_integer" : Str), ("is_name" : Str), ("_law_pot" : Str), ("_law_digit" : Str), ("_law_pick" : Str), ("_law_integer" : Str), ("_law_is_word" : Str), ("_law_is_whole" : Str), ("_law_string" : Str), ("_law_other" : Str), ("_law_right" : Str)]
theorem run (w : World) : HandSHeadRun.RunEq Rw (PySem.W.view Rw.prog [15]) hk ob 2000 loose w := by
  intro os
  kernel_rfl
theorem bind0 {x qual : Str} {params : Arguments} {body : List Stmt} {scope : Scope} : True := trivial
theorem facts {w : World} {K : PySem.W.Frag} {h : Heap} {mg : Str → Option Value} {f : Addr} (X : K.In h) (G : h.Ns mainGlobals mg) (hfa : mg ("law" : Str) = some (.ref f)) (c : SaysV fa fn (isaB g) K) :
    ∃ fd : FuncData, (∀ (s : Shared) (v : Value), BindsTo s fd ⟨[v], []⟩ [("_law_script", v)]) ∧ ∀ base : Heap, K.In base → base.Ns mainGlobals mg → FnQ PySem.Challenge.pw_anyoutcome_k11_names_and_integers_judged w K mg base 12 f fd ["_law_script"] r_law := by
  have G0 : G0Ok g K mg := g0_of c c.ex (by decide +kernel) X G
  have gl : ∀ x ∈ fnames, mg x = some (.ref (He.ga K x)) := fun x hx => He.glo_ok X G (c.fact _ (List.mem_append_left _ (List.mem_map_of_mem hx)))
  obtain ⟨fd0, F0⟩ := c.def_ 0 d_is_integer rfl
  obtain ⟨fd1, F1⟩ := c.def_ 1 d_is_name rfl
  obtain ⟨fd2, F2⟩ := c.def_ 2 d_law_pot rfl
  obtain ⟨fd3, F3⟩ := c.def_ 3 d_law_digit rfl
  obtain ⟨fd4, F4⟩ := c.def_ 4 d_law_pick rfl
  obtain ⟨fd5, F5⟩ := c.def_ 5 d_law_integer rfl
  obtain ⟨fd6, F6⟩ := c.def_ 6 d_law_is_word rfl
  obtain ⟨fd7, F7⟩ := c.def_ 7 d_law_is_whole rfl
  obtain ⟨fd8, F8⟩ := c.def_ 8 d_law_string rfl
  obtain ⟨fd9, F9⟩ := c.def_ 9 d_law_other rfl
  obtain ⟨fd10, F10⟩ := c.def_ 10 d_law_right rfl
  obtain ⟨fd11, F11⟩ := c.def_ 11 d_law rfl
  have e := hfa.symm.trans (gl _ (by decide +kernel))
  cases e
  refine ⟨fd11, fun s v => FunD.bindsA (ps := ["_law_script"]) F11 (fun _ _ _ _ _ _ us hl => match us, hl with | [_], _ => rfl) s [v] rfl, fun base KB _ => ?_⟩
  have t0 : TabOk PySem.Challenge.pw_anyoutcome_k11_names_and_integers_judged w K mg base 0 T0 := tab_nil
  have t1 : TabOk PySem.Challenge.pw_anyoutcome_k11_names_and_integers_judged w K mg base 1 T1 := step_tab G0 t0 KB F0 sc_is_integer sem_is_integer (gl _ (by decide +kernel)) fun _ _ _ _ _ _ us hl => match us, hl with | [_], _ => rfl
  have t2 : TabOk PySem.Challenge.pw_anyoutcome_k11_names_and_integers_judged w K mg base 2 T2 := step_tab G0 t1 KB F1 sc_is_name sem_is_name (gl _ (by decide +kernel)) fun _ _ _ _ _ _ us hl => match us, hl with | [_], _ => rfl
  have t3 : TabOk PySem.Challenge.pw_anyoutcome_k11_names_and_integers_judged w K mg base 3 T3 := step_tab G0 t2 KB F2 sc_law_pot sem_law_pot (gl _ (by decide +kernel)) fun _ _ _ _ _ _ us hl => match us, hl with | [_, _], _ => rfl
  have t4 : TabOk PySem.Challenge.pw_anyoutcome_k11_names_and_integers_judged w K mg base 4 T4 := step_tab G0 t3 KB F3 sc_law_digit sem_law_digit (gl _ (by decide +kernel)) fun _ _ _ _ _ _ us hl => match us, hl with | [_, _], _ => rfl
  have t5 : TabOk PySem.Challenge.pw_anyoutcome_k11_names_and_integers_judged w K mg base 5 T5 := step_tab G0 t4 KB F4 sc_law_pick sem_law_pick (gl _ (by decide +kernel)) fun _ _ _ _ _ _ us hl => match us, hl with | [_, _], _ => rfl
  have t6 : TabOk PySem.Challenge.pw_anyoutcome_k11_names_and_integers_judged w K mg base 6 T6 := step_tab G0 t5 KB F5 sc_law_integer sem_law_integer (gl _ (by decide +kernel)) fun _ _ _ _ _ _ us hl => match us, hl with | [_], _ => rfl
  have t7 : TabOk PySem.Challenge.pw_anyoutcome_k11_names_and_integers_judged w K mg base 7 T7 := step_tab G0 t6 KB F6 sc_law_is_word sem_law_is_word (gl _ (by decide +kernel)) fun _ _ _ _ _ _ us hl => match us, hl with | [_], _ => rfl
  have t8 : TabOk PySem.Challenge.pw_anyoutcome_k11_names_and_integers_judged w K mg base 8 T8 := step_tab G0 t7 KB F7 sc_law_is_whole sem_law_is_whole (gl _ (by decide +kernel)) fun _ _ _ _ _ _ us hl => match us, hl with | [_], _ => rfl
  have t9 : TabOk PySem.Challenge.pw_anyoutcome_k11_names_and_integers_judged w K mg base 9 T9 := step_tab G0 t8 KB F8 sc_law_string sem_law_string (gl _ (by decide +kernel)) fun _ _ _ _ _ _ us hl => match us, hl with | [_], _ => rfl
  have t10 : TabOk PySem.Challenge.pw_anyoutcome_k11_names_and_integers_judged w K mg base 10 T10 := step_tab G0 t9 KB F9 sc_law_other sem_law_other (gl _ (by decide +kernel)) fun _ _ _ _ _ _ us hl => match us, hl with | [_], _ => rfl
  have t11 : TabOk PySem.Challenge.pw_anyoutcome_k11_names_and_integers_judged w K mg base 11 T11 := step_tab G0 t10 KB F10 sc_law_right sem_law_right (gl _ (by decide +kernel)) fun _ _ _ _ _ _ us hl => match us, hl with | [_], _ => rfl
  exact step_fn G0 t11 KB F11 sc_law sem_law
end K11

namespace K11
open PySem PySem.Spec PyProof.Rows L2 Vm
theorem eD : r_law_digit = rDigit := rfl
theorem eP : r_law_pick = rPick := rfl
theorem eI : r_law_integer = rInteger := rfl
theorem ePot : r_law_pot = rPot := rfl
theorem Mv.set_out {p d : Nat} {s s' : Sto} {o : O} (h : Mv p s s') (hd : s.length ≤ d) : Mv p s (s'.set d o) := by
  obtain ⟨u, hu, t, rfl⟩ := h
  refine ⟨u, hu, ?_⟩
  rw [List.set_append_right _ _ (by simpa using hd)]
  exact List.prefix_append _ _
/-- short texts of plain signs -/
def Pl (x : Str) (n : Nat) : Prop := x.cps.size ≤ n ∧ ∀ c ∈ x.cps.toList, c < 1000
theorem Pl.mono {x : Str} {m n : Nat} (h : Pl x m) (l : m ≤ n) : Pl x n := ⟨by have := h.1; omega, h.2⟩
theorem pl_append {x y : Str} {m n : Nat} (h : Pl x m) (k : Pl y n) : Pl (x ++ y) (m + n) := by
  refine ⟨?_, fun c hc => ?_⟩
  · rw [Str.cps_append, Array.size_append]
    have := h.1
    have := k.1
    omega
  · rw [Str.cps_append, Array.toList_append] at hc
    rcases List.mem_append.mp hc with z | z
    · exact h.2 c z
    · exact k.2 c z
theorem pl_join : ∀ {ys : List Str} {n : Nat}, (∀ y ∈ ys, Pl y 1) → ys.length ≤ n → Pl (Str.join Str.empty ys) n
  | [], n, _, _ => ⟨Nat.zero_le _, fun c hc => absurd hc (by simp [Str.join, Str.empty])⟩
  | [y], n, h, hn => (h y (by simp)).mono (by simpa using hn)
  | y :: z :: r, n, h, hn => by
    show Pl (y ++ Str.empty ++ Str.join Str.empty (z :: r)) n
    have h1 := h y (by simp)
    have h2 := pl_join (ys := z :: r) (n := n - 1) (fun u hu => h u (by simp [hu])) (by simp at hn ⊢; omega)
    have e : Pl Str.empty 0 := ⟨Nat.le_refl _, fun c hc => absurd hc (by simp [Str.empty])⟩
    refine (pl_append (pl_append h1 e) h2).mono ?_
    simp at hn
    omega
theorem pl_cut {x : Str} {n : Nat} (h : Pl x n) (lo hi : Option Int) : Pl (cutS x lo hi) n := by
  refine ⟨?_, fun c hc => ?_⟩
  · have := h.1
    unfold cutS
    simp
    omega
  · unfold cutS at hc
    simp at hc
    exact h.2 c (by simpa using List.mem_of_mem_drop (List.mem_of_mem_take hc))
theorem strsW_of {acc : List W} {ys : List Str} (h : acc = ys.map W.str) : strsW acc = some ys := by
  subst h
  induction ys with
  | nil => rfl
  | cons y ys ih =>
    show (strsW (ys.map W.str)).map (y :: ·) = _
    rw [ih]; rfl
theorem string_ok {s : Sto} {p : Nat} (hp : PotAt p s) : ∃ x s', r_law_string [.ref p] s = .ok (.str x) s' ∧ Pl x 30 ∧ Mv p s s' := by
  obtain ⟨d, s1, e1, d0, d1, mv1⟩ := digit_ok (n := 11) hp (by decide) (by decide)
  have hp1 := mv1.pot hp.lt
  have hA : Pl ("abcdefghijklmnopqrstuvwxyz" : Str) 26 := ⟨by decide +kernel, by decide +kernel⟩
  have hB : Pl ("AZ09_- .:,=\n{~" : Str) 14 := ⟨by decide +kernel, by decide +kernel⟩
  -- the letters
  have hmi : mirng1 (mcons (mcall 2 r_law_digit (mcons (mvar 0) (mcons (mc (.int 11)) mnil))) mnil) [some (.ref p), some (.str "abcdefghijklmnopqrstuvwxyz"), none, none, none, none] s = .ok (nxRng 0 1 d.toNat) s1 := by
    refine mirng1_ok ?_ (by unfold sml; omega)
    simp [eD, e1]
  obtain ⟨s2, acc, f1, f2, mv2, ys, rfl, hys, hyl⟩ := mlc_inv (t := .nm 3) (c := myes) (e := mcall 2 r_law_pick (mcons (mvar 0) (mcons (mvar 1) mnil))) (vs := [3]) hmi (by omega)
    (fun i s acc => Mv p s1 s ∧ ∃ ys : List Str, acc = ys.map W.str ∧ (∀ y ∈ ys, Pl y 1) ∧ ys.length = i) ⟨Mv.of_pre hp1 (List.prefix_append _ _), [], rfl, by simp, rfl⟩
    (fun i s acc hi hd ⟨mv, ys, ea, hy, hl⟩ => by
      obtain ⟨c, s3, g1, g2, g3⟩ := pick_str (x := ("abcdefghijklmnopqrstuvwxyz" : Str)) (mv.pot hp1.lt) (by decide +kernel) (by decide +kernel)
      have hne : s1.length ≠ p := Nat.ne_of_gt hp1.lt
      refine ⟨_, _, _, nxRng_go hi, rfl, .inr ⟨s, .str ⟨#[c]⟩, s3, rfl, ?_, g3.at hd hne, ?_, Mv.set_out (mv.trans g3 hp1.lt) (Nat.le_refl _), ys ++ [⟨#[c]⟩], ?_, ?_, ?_⟩⟩
      · show mcall 2 r_law_pick (mcons (mvar 0) (mcons (mvar 1) mnil)) [some (.ref p), some (.str "abcdefghijklmnopqrstuvwxyz"), none, some (.int (0 + i * 1)), none, none] s = _
        simp [eP, g1]
      · rw [ea, List.length_map]; omega
      · rw [ea]; simp
      · intro y hy'
        rcases List.mem_append.mp hy' with z | z
        · exact hy y z
        · simp at z
          subst z
          exact ⟨Nat.le_refl _, fun c' hc => by simp at hc; subst hc; exact hA.2 _ g2⟩
      · simp [hl])
    (fun s acc hd _ => nxRng_stop)
  have hp2 := mv2.pot hp1.lt
  have mv02 := mv1.trans mv2 hp.lt
  have hf : Pl (Str.join Str.empty ys) 10 := pl_join hys (by omega)
  have hsum : (ys.map (·.length)).sum ≤ ys.length := by
    clear f1 f2 mv2 hyl hf
    induction ys with
    | nil => simp
    | cons y ys ih =>
      have h1 := (hys y (by simp)).1
      have h2 := ih (fun z hz => hys z (by simp [hz]))
      have e1 : y.length = y.cps.size := rfl
      simp
      omega
  have hj : gJoin (.str "") [.ref s1.length] s2 = some (.str (Str.join Str.empty ys), s2) := by
    unfold gJoin
    have e0 : (Str.ofString "").length = 0 := by decide +kernel
    have e1 : Txt.join "" ys = Str.join Str.empty ys := (TL.join_eq _ _).trans rfl
    simp only [lstAt_lst f2, Option.some_or, strsW_of rfl, e0]
    rw [if_pos (by omega), e1]
    rfl
  generalize Str.join Str.empty ys = x at hf hj
  obtain ⟨d2, s3, e3, g0, g1, mv3⟩ := digit_ok (n := 3) hp2 (by decide) (by decide)
  have hp3 := mv3.pot hp2.lt
  have mv03 := mv02.trans mv3 hp.lt
  have pre : ∀ (k : MS), (sseq (sset 1 (mc (.str "abcdefghijklmnopqrstuvwxyz"))) (sseq (sset 2 (mbm "str" gJoin (mc (.str "")) (mcons (mlc (mirng1 (mcons (mcall 2 r_law_digit (mcons (mvar 0) (mcons (mc (.int 11)) mnil))) mnil)) (.nm 3) myes (mcall 2 r_law_pick (mcons (mvar 0) (mcons (mvar 1) mnil))) [3]) mnil))) k))
      [some (.ref p), none, none, none, none, none] s = k [some (.ref p), some (.str "abcdefghijklmnopqrstuvwxyz"), some (.str x), none, none, none] s2 := by
    intro k
    have ty : tyM (.str "") s = "str" := rfl
    simp [ty, f1, hj]
  by_cases h2 : 0 < d2
  · refine ⟨x, s3, runB_rt ?_, hf.mono (by decide), mv03⟩
    show m_law_string [some (.ref p), none, none, none, none, none] s = _
    unfold m_law_string
    rw [pre]
    simp [eD, e3, h2]
  · have hx := hf.1
    have ex : x.length = x.cps.size := rfl
    obtain ⟨d3, s4, e4, i0, i1, mv4⟩ := digit_ok (n := x.length + 1) hp3 (by omega) (log2_small (by omega))
    have hp4 := mv4.pot hp3.lt
    obtain ⟨c, s5, e5, hc, mv5⟩ := pick_str (x := ("AZ09_- .:,=\n{~" : Str)) hp4 (by decide +kernel) (by decide +kernel)
    have hp5 := mv5.pot hp4.lt
    obtain ⟨d4, s6, e6, j0, j1, mv6⟩ := digit_ok (n := 2) hp5 (by decide) (by decide)
    have hl : gLen [.str x] s3 = some (.int x.length, s3) := gLen_str _ (by omega)
    have sl : ∀ (lo hi : Option Int) (s : Sto), gSl (.str x) lo hi s = some (.str (cutS x lo hi), s) := fun lo hi s => gSl_str lo hi s (by omega)
    have hy1 : Pl (cutS x none (some d3)) 10 := pl_cut hf _ _
    have hy2 : Pl ⟨#[c]⟩ 1 := ⟨Nat.le_refl _, fun c' hc' => by simp at hc'; subst hc'; exact hB.2 _ hc⟩
    have hy3 : Pl (cutS x (some (d3 + d4)) none) 10 := pl_cut hf _ _
    have hy4 := pl_append hy1 hy2
    refine ⟨_, s6, runB_rt ?_, (pl_append hy4 hy3).mono (by decide), mv03.trans (mv4.trans (mv5.trans mv6 hp4.lt) hp3.lt) hp.lt⟩
    show m_law_string [some (.ref p), none, none, none, none, none] s = _
    unfold m_law_string
    rw [pre]
    have ad : ∀ (a b : Str) (s : Sto), Pl a 20 → Pl b 20 → gAdd (.str a) (.str b) s = some (.str (a ++ b), s) := fun a b s ha hb => by
      have z1 : a.length = a.cps.size := rfl
      have z2 : b.length = b.cps.size := rfl
      have := ha.1
      have := hb.1
      exact gAdd_str s (by omega)
    have a1 := ad _ _ s5 (hy1.mono (by decide)) (hy2.mono (by decide))
    have a2 := ad _ _ s6 (hy4.mono (by decide)) (hy3.mono (by decide))
    simp [eD, eP, e3, h2, hl, e4, e5, sl, mpart, e6, a1, a2]

theorem at_app2 {s : Sto} (l : List O) (k : Nat) : (s ++ l)[s.length + k]? = l[k]? := by
  rw [List.getElem?_append_right (by omega)]
  congr 1
  omega
def os1 (n : Nat) : List O := [.lst [], .tup [], .dic [], .lst [.int 0], .tup [.int 0], .dic [(.inl 0, .int 0)], .lst [.str "a"], .tup [.str "a"], .dic [(.inr "a", .int 1)], .lst [], .lst [.ref (n + 9)], .tup [], .tup [.ref (n + 11)], .lst [.non]]
def xs1 (n : Nat) : List W := [.non, .bl true, .bl false, .str "", .ref n, .ref (n + 1), .ref (n + 2), .ref (n + 3), .ref (n + 4), .ref (n + 5), .ref (n + 6), .ref (n + 7), .ref (n + 8), .ref (n + 10), .ref (n + 12), .ref (n + 13), .str "1"]
theorem mlst_ok {a : MA} {ws : List (Option W)} {s s' : Sto} {xs : List W} (h : a ws s = .ok xs s') (hl : xs.length ≤ 16777216) : mlst a ws s = .ok (.ref s'.length) (s' ++ [.lst xs]) := by
  rw [mlst_eq, h]
  exact if_pos hl
theorem mdisp_ok {ps : MPs} {ws : List (Option W)} {s : Sto} {kvs : List (W × W)} {l : List (Key × W)} (h : ps ws (s ++ [.dic []]) = .ok kvs (s ++ [.dic []])) (hk : keysW kvs = some l) (hl : l.length ≤ 15) : mdisp ps ws s = .ok (.ref s.length) (s ++ [.dic (mergeW [] l)]) := by
  unfold mdisp
  rw [h]
  simp [hk, hl]
theorem first_list (ws : List (Option W)) (s : Sto) : (mcons (mc .non) (mcons (mc (.bl true)) (mcons (mc (.bl false)) (mcons (mc (.str "")) (mcons (mlst mnil) (mcons (mtup mnil) (mcons mdnew (mcons (mlst (mcons (mc (.int 0)) mnil)) (mcons (mtup (mcons (mc (.int 0)) mnil)) (mcons (mdisp (pcons (mc (.int 0)) (mc (.int 0)) pnil)) (mcons (mlst (mcons (mc (.str "a")) mnil)) (mcons (mtup (mcons (mc (.str "a")) mnil)) (mcons (mdisp (pcons (mc (.str "a")) (mc (.int 1)) pnil)) (mcons (mlst (mcons (mlst mnil) mnil)) (mcons (mtup (mcons (mtup mnil) mnil)) (mcons (mlst (mcons (mc .non) mnil)) (mcons (mc (.str "1")) mnil))))))))))))))))) ws s = .ok (xs1 s.length) (s ++ os1 s.length) := by
  have d1 : ∀ s : Sto, mdisp (pcons (mc (.int 0)) (mc (.int 0)) pnil) ws s = .ok (.ref s.length) (s ++ [.dic [(.inl 0, .int 0)]]) := fun s => mdisp_ok (l := [(.inl 0, .int 0)]) rfl rfl (by decide)
  have d2 : ∀ s : Sto, mdisp (pcons (mc (.str "a")) (mc (.int 1)) pnil) ws s = .ok (.ref s.length) (s ++ [.dic [(.inr "a", .int 1)]]) := fun s => mdisp_ok (l := [(.inr "a", .int 1)]) rfl rfl (by decide)
  have dn : ∀ s : Sto, mdnew ws s = .ok (.ref s.length) (s ++ [.dic []]) := fun s => rfl
  simp [d1, d2, dn, os1, xs1]
def os2 (n : Nat) : List O := [.tup [.str "a", .int 1], .lst [.bl true], .tup [.non]]
def xs2 (n : Nat) : List W := [.str "0", .str " a", .str "a ", .ref n, .ref (n + 1), .ref (n + 2), .str "a\n", .str "\n", .str "ninechars", .str "eightchr"]
theorem second_list (ws : List (Option W)) (s : Sto) : (mcons (mc (.str "0")) (mcons (mc (.str " a")) (mcons (mc (.str "a ")) (mcons (mtup (mcons (mc (.str "a")) (mcons (mc (.int 1)) mnil))) (mcons (mlst (mcons (mc (.bl true)) mnil)) (mcons (mtup (mcons (mc .non) mnil)) (mcons (mc (.str "a\n")) (mcons (mc (.str "\n")) (mcons (mc (.str "ninechars")) (mcons (mc (.str "eightchr")) mnil)))))))))) ws s = .ok (xs2 s.length) (s ++ os2 s.length) := by
  simp [os2, xs2]

theorem data_of (s : Sto) (x1 : O) (rest : List O) (w : W) (hw : w ∈ xs1 s.length ++ xs2 (s.length + 15)) : ∃ d, rd (s ++ (os1 s.length ++ (x1 :: (os2 (s.length + 15) ++ rest)))) deep w = some d ∧ Sml d 100 := by
  have at_ : ∀ k : Nat, (s ++ (os1 s.length ++ (x1 :: (os2 (s.length + 15) ++ rest))))[s.length + k]? = (os1 s.length ++ (x1 :: (os2 (s.length + 15) ++ rest)))[k]? := at_app2 _
  have at0 : (s ++ (os1 s.length ++ (x1 :: (os2 (s.length + 15) ++ rest))))[s.length]? = some (.lst []) := at_ 0
  generalize s ++ (os1 s.length ++ (x1 :: (os2 (s.length + 15) ++ rest))) = t at at_ at0
  simp only [xs1, xs2, List.mem_append, List.mem_cons, List.not_mem_nil, or_false, Nat.add_assoc] at hw
  rcases hw with (rfl | rfl | rfl | rfl | rfl | rfl | rfl | rfl | rfl | rfl | rfl | rfl | rfl | rfl | rfl | rfl | rfl) | (rfl | rfl | rfl | rfl | rfl | rfl | rfl | rfl | rfl | rfl) <;>
    exact ⟨_, by simp [rd, deep, rdL, rdK, rdLeaf, at_, at0, os1, os2, keyD] <;> rfl, by decide +kernel, by decide +kernel, by decide +kernel, by decide +kernel⟩

theorem pl_of_mem (m n : Nat) (w : W) (hw : w ∈ xs1 m ++ xs2 n) : ∀ x, w = .str x → Pl x 100 := by
  simp only [xs1, xs2, List.mem_append, List.mem_cons, List.not_mem_nil, or_false] at hw
  rcases hw with (rfl | rfl | rfl | rfl | rfl | rfl | rfl | rfl | rfl | rfl | rfl | rfl | rfl | rfl | rfl | rfl | rfl) | (rfl | rfl | rfl | rfl | rfl | rfl | rfl | rfl | rfl | rfl) <;>
    first
    | (intro x e; cases e; done)
    | (intro x e; cases e; exact ⟨by decide +kernel, by decide +kernel⟩)
theorem other_ok {s : Sto} {p : Nat} (hp : PotAt p s) : ∃ w d s', r_law_other [.ref p] s = .ok w s' ∧ RdX p s' w d ∧ Sml d 100 ∧ (∀ x, w = .str x → Pl x 100) ∧ Mv p s s' := by
  have hl := hp.lt
  obtain ⟨s1, e1⟩ : ∃ s1, s1 = s ++ os1 s.length ++ [O.lst (xs1 s.length)] := ⟨_, rfl⟩
  obtain ⟨s2, e2⟩ : ∃ s2, s2 = s1 ++ os2 s1.length ++ [O.lst (xs2 s1.length)] := ⟨_, rfl⟩
  have l1 : s1.length = s.length + 15 := by rw [e1]; simp [os1]
  have q1 : s1[s.length + 14]? = some (.lst (xs1 s.length)) := by
    rw [e1, List.append_assoc, at_app2]; rfl
  have q2 : s2[s.length + 14]? = some (.lst (xs1 s.length)) := by rw [e2, List.append_assoc]; exact at_app q1
  have q3 : s2[s.length + 18]? = some (.lst (xs2 s1.length)) := by
    rw [e2, List.append_assoc, show s.length + 18 = s1.length + 3 from by omega, at_app2]; rfl
  have l2 : s2.length = s.length + 19 := by rw [e2]; simp [os2]; omega
  have ga := gAdd_lst q2 q3 (by simp [xs1, xs2])
  obtain ⟨s3, e3⟩ : ∃ s3, s3 = s2 ++ [O.lst (xs1 s.length ++ xs2 s1.length)] := ⟨_, rfl⟩
  have pre : s <+: s3 := by
    rw [e3, e2, e1]
    simp only [List.append_assoc]
    exact List.prefix_append _ _
  have m3 : Mv p s s3 := Mv.of_pre hp pre
  have hp3 := m3.pot hl
  have q4 : s3[s2.length]? = some (.lst (xs1 s.length ++ xs2 s1.length)) := by rw [e3]; exact at_new _ _
  obtain ⟨w, s4, e4, hw, mv⟩ := pick_seq hp3 q4 (.inl rfl) (by omega) (by simp [xs1]) (by simp [xs1, xs2])
  rw [l1] at hw
  have hs' : (s.set p (.xd [])).length = s.length := by simp
  obtain ⟨d, hd, sm⟩ := data_of (s.set p (.xd [])) (.lst (xs1 s.length)) [.lst (xs2 s1.length), .lst (xs1 s.length ++ xs2 s1.length)] w (by rw [hs']; exact hw)
  have e5 : s3.set p (.xd []) = s.set p (.xd []) ++ (os1 (s.set p (.xd [])).length ++ (O.lst (xs1 s.length) :: (os2 ((s.set p (.xd [])).length + 15) ++ [.lst (xs2 s1.length), .lst (xs1 s.length ++ xs2 s1.length)]))) := by
    rw [hs', e3, e2, l1, e1]
    simp only [List.append_assoc, List.set_append_left _ _ hl, List.cons_append, List.nil_append]
  have rx : RdX p s3 w d := by
    unfold RdX
    rw [e5]; exact hd
  refine ⟨w, d, s4, runB_rt ?_, rx.mv mv hp3.lt, sm, pl_of_mem _ _ w hw, m3.trans mv hl⟩
  show m_law_other [some (.ref p), none] s = _
  unfold m_law_other
  have f1 := mlst_ok (first_list [some (.ref p), none] s) (by simp [xs1])
  rw [← e1] at f1
  have l1' : (s ++ os1 s.length).length = s.length + 14 := by simp [os1]
  rw [l1'] at f1
  have f2 := mlst_ok (second_list [some (.ref p), some (.ref (s.length + 14))] s1) (by simp [xs2])
  rw [← e2] at f2
  have l2' : (s1 ++ os2 s1.length).length = s.length + 18 := by rw [List.length_append, l1]; rfl
  rw [l2'] at f2
  rw [← e3] at ga
  simp only [sseq_eq, sset_eq, f1, R.toS_ok, RS.then_nx, sret_eq, mcall_eq, mcons_eq, mbin_eq]
  simp [-mlst_eq, f2, ga, eP, e4]

/-! ### what is looked at -/
def VT : List String := ["NoneType", "bool", "int", "str", "list", "tuple", "dict"]
theorem ty_of_rd {s : Sto} {n : Nat} {w : W} {d : PyData} (h : rd s (n + 1) w = some d) : ∃ t, tyW w s = some (.b t) ∧ t ∈ VT ∧ (t = "str" → ∃ x, w = .str x) := by
  unfold rd at h
  split at h
  · rename_i p
    unfold tyW
    split at h <;> rename_i q <;> first
      | (simp only [q]; exact ⟨_, rfl, by decide, fun z => absurd z (by decide)⟩)
      | cases h
  · unfold rdLeaf at h
    split at h
    · exact ⟨_, rfl, by decide, fun z => absurd z (by decide)⟩
    · exact ⟨_, rfl, by decide, fun z => absurd z (by decide)⟩
    · exact ⟨_, rfl, by decide, fun z => absurd z (by decide)⟩
    · exact ⟨_, rfl, by decide, fun _ => ⟨_, rfl⟩⟩
    · cases h
theorem isi {s : Sto} {w : W} {t : String} (h : tyW w s = some (.b t)) (ht : t ∈ VT) {c : String} (hc : c ∈ ["bool", "int", "str"]) : gIsi tbl cs [w, .ty c] s = some (.bl (t == c || (t == "bool" && c == "int")), s) := by
  have e : isaT tbl (.b t) (.b c) = some (t == c || (t == "bool" && c == "int")) := by
    have : ∀ t ∈ VT, ∀ c ∈ ["bool", "int", "str"], isaT tbl (.b t) (.b c) = some (t == c || (t == "bool" && c == "int")) := by decide +kernel
    exact this t ht c hc
  unfold gIsi
  simp [h, tyIn, clsW, e]
def intB (t : String) : Bool := t == "int"
theorem integer_same (w : W) (s : Sto) {t : String} (h : tyW w s = some (.b t)) (ht : t ∈ VT) : r_is_integer [w] s = .ok (.bl (intB t)) s := by
  have h1 := isi h ht (c := "int") (by simp)
  have h2 := isi h ht (c := "bool") (by simp)
  have key : ∀ t ∈ VT, (t == "int" || (t == "bool" && "int" == "int")) = false ∧ intB t = false ∨ (t == "int" || (t == "bool" && "int" == "int")) = true ∧ intB t = !(t == "bool" || (t == "bool" && "bool" == "int")) := by decide +kernel
  rcases key t ht with ⟨k1, k2⟩ | ⟨k1, k2⟩
  · rw [k1] at h1
    rw [k2]
    exact runB_rt (by simp [m_is_integer, h1])
  · rw [k1] at h1
    rw [k2]
    exact runB_rt (by simp [m_is_integer, h1, h2])
abbrev LS : Str := "abcdefghijklmnopqrstuvwxyz"
/-- a letter -/
def inL (c : Nat) : Bool := decide (c ∈ LS.cps.toList)
theorem filterMap_range {α β : Type} (l : List α) (f : α → Option β) : (List.range l.length).filterMap (fun i => l[i]?.bind f) = l.filterMap f := by
  induction l with
  | nil => rfl
  | cons x l ih =>
    rw [List.length_cons, List.range_succ_eq_map, List.filterMap_cons, List.filterMap_map]
    have e : ((fun i => (x :: l)[i]?.bind f) ∘ Nat.succ) = fun i => l[i]?.bind f := by funext i; simp
    rw [e, ih]
    simp [List.filterMap_cons]
theorem in_sign (c : Nat) (s : Sto) : gIn (.str ⟨#[c]⟩) (.str LS) s = some (.bl (inL c), s) := rfl
theorem notin_sign (c : Nat) (s : Sto) : gNotIn (.str ⟨#[c]⟩) (.str LS) s = some (.bl (!inL c), s) := rfl
theorem bools_all (l : List Nat) : asB (l.map fun c => W.bl (inL c)) = some (l.map fun c => inL c) := by
  induction l with
  | nil => rfl
  | cons c l ih =>
    simp only [List.map_cons, asB, ih]
    rfl
theorem rd_strs (s : Sto) (n : Nat) (l : List Str) : rdL (rd s n) (l.map W.str) = some (l.map PyData.str) := by
  induction l with
  | nil => rfl
  | cons c l ih =>
    have e : rd s n (.str c) = some (.str c) := by cases n <;> rfl
    simp only [List.map_cons, rdL, e, ih]
theorem layStrs (l : List Str) (h : ∀ x ∈ l, PyData.strOk x = true) : SeqAt.shaped (.list (l.map PyData.str)) = true := by
  unfold SeqAt.shaped
  have h1 : PyData.canLay0 (.list (l.map PyData.str)) = true := by
    unfold PyData.canLay0
    induction l with
    | nil => rfl
    | cons c l ih => simp only [List.map_cons, PyData.canLayAll0, ih (fun x hx => h x (by simp [hx])), PyData.canLay0, h c (by simp), Bool.and_self]
  have h2 : PyData.depth (.list (l.map PyData.str)) ≤ 64 := by
    have : PyData.depthAll (l.map PyData.str) = 0 := by
      clear h1 h
      induction l with
      | nil => rfl
      | cons c l ih => simp [PyData.depthAll, PyData.depth, ih]
    unfold PyData.depth
    omega
  rw [h1, decide_eq_true h2]; rfl
theorem strOk_sign {c : Nat} (h : c < 1000) : PyData.strOk ⟨#[c]⟩ = true := by
  simp [PyData.strOk]
  omega
theorem Pl.lt {x : Str} {n : Nat} (h : Pl x n) {c : Nat} (hc : c ∈ x.cps.toList) : c < 1000 := h.2 c hc
theorem eqv_nil (l : List Str) : PyData.eqv (.list (l.map PyData.str)) (.list []) = l.isEmpty := by
  cases l with
  | nil => simp [PyData.eqv, PyData.eqvAll]
  | cons c l => simp [PyData.eqv, PyData.eqvAll]
def nameB : W → Bool
  | .str x => decide (1 ≤ x.length ∧ x.length ≤ 8) && x.cps.toList.all inL
  | _ => false
theorem name_text (x : Str) (hx : Pl x 100) (s : Sto) : ∃ s1 s2, r_is_name [.str x] s = .ok (.bl (nameB (.str x))) s1 ∧ s <+: s1 ∧ r_law_is_word [.str x] s = .ok (.bl (nameB (.str x))) s2 ∧ s <+: s2 := by
  have ht : tyW (.str x) s = some (.b "str") := rfl
  have hi := isi ht (by decide) (c := "str") (by simp)
  have el : x.length = x.cps.size := rfl
  have hxs := hx.1
  have hl := gLen_str (x := x) s (by omega)
  by_cases h1 : 1 ≤ x.length ∧ x.length ≤ 8
  · -- the signs
    obtain ⟨l, hl0⟩ : ∃ l, l = x.cps.toList := ⟨_, rfl⟩
    have hn : l.length = x.cps.size := by rw [hl0]; exact Array.length_toList
    have at_ : ∀ i (hi : i < x.cps.size), l[i]? = some x.cps[i] := fun i hi => by rw [hl0]; simp [hi]
    have m1 := mlc_pure (mi := mival (mvar 0)) (nx := nxStr x) (t := .nm 1) (c := myes) (e := mbin gIn (mvar 1) (mc (.str LS))) (vs := [1]) (ws := [some (.str x), none]) (s := s) (s0 := s) (n := l.length) (mival_str rfl) (by omega) (fun i => l[i]?.bind fun c => some (W.bl (inL c)))
      (fun i s' hi _ => by
        have hi' : i < x.cps.size := by omega
        refine ⟨_, _, nxStr_go hi', rfl, .inr ⟨W.bl (inL x.cps[i]), by rw [at_ i hi']; rfl, rfl, ?_⟩⟩
        show mbin gIn (mvar 1) (mc (.str LS)) [some (.str x), some (.str ⟨#[x.cps[i]]⟩)] s' = _
        simp [in_sign])
      (fun s' _ => by rw [hn]; exact nxStr_stop)
    have m2 := mlc_pure (mi := mival (mvar 0)) (nx := nxStr x) (t := .nm 1) (c := mtb (mbin gNotIn (mvar 1) (mc (.str LS)))) (e := mvar 1) (vs := [1]) (ws := [some (.str x), none]) (s := s) (s0 := s) (n := l.length) (mival_str rfl) (by omega) (fun i => l[i]?.bind fun c => if inL c = true then none else some (W.str ⟨#[c]⟩))
      (fun i s' hi _ => by
        have hi' : i < x.cps.size := by omega
        refine ⟨_, _, nxStr_go hi', rfl, ?_⟩
        by_cases hc : inL x.cps[i] = true
        · refine .inl ⟨by rw [at_ i hi']; exact if_pos hc, ?_⟩
          show mtb (mbin gNotIn (mvar 1) (mc (.str LS))) [some (.str x), some (.str ⟨#[x.cps[i]]⟩)] s' = _
          simp [notin_sign, hc]
        · refine .inr ⟨W.str ⟨#[x.cps[i]]⟩, by rw [at_ i hi']; exact if_neg hc, ?_, rfl⟩
          show mtb (mbin gNotIn (mvar 1) (mc (.str LS))) [some (.str x), some (.str ⟨#[x.cps[i]]⟩)] s' = _
          simp [notin_sign, hc])
      (fun s' _ => by rw [hn]; exact nxStr_stop)
    rw [filterMap_range] at m1 m2
    have e1 : ∀ k : List Nat, k.filterMap (fun c => some (W.bl (inL c))) = k.map fun c => W.bl (inL c) := fun k => by rw [← List.filterMap_eq_map]; rfl
    have e2 : ∀ k : List Nat, k.filterMap (fun c => if inL c = true then none else some (W.str ⟨#[c]⟩)) = ((k.filter fun c => !inL c).map fun c => (⟨#[c]⟩ : Str)).map W.str := by
      intro k
      induction k with
      | nil => rfl
      | cons c k ih =>
        by_cases hc : inL c = true
        · simp [List.filterMap_cons, List.filter_cons, hc, ih]
        · simp [List.filterMap_cons, List.filter_cons, hc, ih]
    rw [e1] at m1
    rw [e2] at m2
    have hlt : ∀ c ∈ l, c < 1000 := fun c hc => hx.2 c (hl0 ▸ hc)
    obtain ⟨ys, hys⟩ : ∃ ys, ys = (l.filter fun c => !inL c).map fun c => (⟨#[c]⟩ : Str) := ⟨_, rfl⟩
    rw [← hys] at m2
    have hok : ∀ y ∈ ys, PyData.strOk y = true := by
      intro y hy
      rw [hys] at hy
      obtain ⟨c, hc, rfl⟩ := List.mem_map.mp hy
      exact strOk_sign (hlt c (List.mem_filter.mp hc).1)
    have hall : l.all inL = ys.isEmpty := by
      rw [hys]
      clear hys m2 m1 hok at_ hn hl0 hlt
      induction l with
      | nil => rfl
      | cons c k ih =>
        by_cases hc : inL c = true
        · simp [hc, List.filter_cons] at ih ⊢
          exact ih
        · simp [hc, List.filter_cons]
    have h2 : (1 : Int) ≤ x.length := by omega
    have h3 : (x.length : Int) ≤ 8 := by omega
    have n2 : r_law_is_word [.str x] s = .ok (.bl (l.all inL)) (s ++ [.lst (ys.map W.str)] ++ [.lst []]) := by
      refine runB_rt ?_
      have g1 : (s ++ [O.lst (ys.map W.str)] ++ [.lst []])[s.length]? = some (.lst (ys.map W.str)) := at_app (at_new _ _)
      have g2 : (s ++ [O.lst (ys.map W.str)] ++ [.lst []])[s.length + 1]? = some (.lst []) := by
        have : s.length + 1 = (s ++ [O.lst (ys.map W.str)]).length := by simp
        rw [this]; exact at_new _ _
      have ge : gEq (.ref s.length) (.ref (s.length + 1)) (s ++ [.lst (ys.map W.str)] ++ [.lst []]) = some (.bl (l.all inL), s ++ [.lst (ys.map W.str)] ++ [.lst []]) := by
        have r1 : rd (s ++ [O.lst (ys.map W.str)] ++ [.lst []]) deep (.ref s.length) = some (.list (ys.map PyData.str)) := by
          unfold deep rd
          simp only [g1, rd_strs]; rfl
        have r2 : rd (s ++ [O.lst (ys.map W.str)] ++ [.lst []]) deep (.ref (s.length + 1)) = some (.list []) := by
          unfold deep rd
          simp only [g2]; rfl
        have sh2 : SeqAt.shaped (.list []) = true := by decide +kernel
        unfold gEq gEqB
        simp only [r1, r2, layStrs ys hok, sh2, eqv_nil, hall]; rfl
      simp [m_law_is_word, hi, hl, h2, h3, m2, -List.append_assoc, ge]
    have enb : nameB (.str x) = l.all inL := by
      show (decide (1 ≤ x.length ∧ x.length ≤ 8) && x.cps.toList.all inL) = _
      rw [decide_eq_true h1, ← hl0]; rfl
    rw [enb]
    refine ⟨_, _, runB_rt (s' := s ++ [.lst (l.map fun c => W.bl (inL c))]) ?_, List.prefix_append _ _, n2, by rw [List.append_assoc]; exact List.prefix_append _ _⟩
    have ga : gAll [.ref s.length] (s ++ [.lst (l.map fun c => W.bl (inL c))]) = some (.bl (l.all inL), s ++ [.lst (l.map fun c => W.bl (inL c))]) := by
      unfold gAll boolsAt
      simp only [lstAt_lst (at_new _ _), Option.bind_some, bools_all]
      simp [List.all_map, Function.comp_def]
    simp [m_is_name, hi, hl, h2, h3, m1, ga]
  · have hfalse : ¬ ((1 : Int) ≤ x.length ∧ (x.length : Int) ≤ 8) := by omega
    have enb : nameB (.str x) = false := by
      show (decide (1 ≤ x.length ∧ x.length ≤ 8) && x.cps.toList.all inL) = _
      rw [decide_eq_false h1]; rfl
    rw [enb]
    refine ⟨s, s, runB_rt ?_, List.prefix_refl _, runB_rt ?_, List.prefix_refl _⟩
    · by_cases h2 : (1 : Int) ≤ x.length
      · have h3 : ¬ (x.length : Int) ≤ 8 := fun z => hfalse ⟨h2, z⟩
        simp [m_is_name, hi, hl, h2, h3]
      · simp [m_is_name, hi, hl, h2]
    · by_cases h2 : (1 : Int) ≤ x.length
      · have h3 : ¬ (x.length : Int) ≤ 8 := fun z => hfalse ⟨h2, z⟩
        simp [m_law_is_word, hi, hl, h2, h3]
      · simp [m_law_is_word, hi, hl, h2]

theorem name_same (w : W) (s : Sto) {t : String} (h : tyW w s = some (.b t)) (ht : t ∈ VT) (hs : t = "str" → ∃ x, w = .str x) (hx : ∀ x, w = .str x → Pl x 100) : ∃ s1 s2, r_is_name [w] s = .ok (.bl (nameB w)) s1 ∧ s <+: s1 ∧ r_law_is_word [w] s = .ok (.bl (nameB w)) s2 ∧ s <+: s2 := by
  by_cases he : t = "str"
  · obtain ⟨x, rfl⟩ := hs he
    exact name_text x (hx x rfl) s
  · have hi := isi h ht (c := "str") (by simp)
    have e1 : (t == "str" || (t == "bool" && "str" == "int")) = false := by simp [he]
    rw [e1] at hi
    have enb : nameB w = false := by
      cases w with
      | str x => cases h; exact absurd rfl he
      | _ => rfl
    rw [enb]
    exact ⟨s, s, runB_rt (by simp [m_is_name, hi]), List.prefix_refl _, runB_rt (by simp [m_law_is_word, hi]), List.prefix_refl _⟩
theorem tyW_pre {s s' : Sto} {w : W} {t : Ty} (h : tyW w s = some t) (q : s <+: s') : tyW w s' = some t := by
  unfold tyW at h ⊢
  cases w with
  | ref n =>
    simp only at h ⊢
    cases e : s[n]? with
    | none => rw [e] at h; cases h
    | some o => rw [pre_at q e]; rw [e] at h; exact h
  | _ => exact h
theorem repr2 (a b : Bool) (s : Sto) {k : Nat} (h : s[k]? = some (.lst [.bl a, .bl b])) : gRepr [.ref k] s = some (.str (PyData.list [.bool a, .bool b]).shown, s) := by
  refine repr_ok (n := 10) ?_ ?_ (by decide)
  · unfold deep rd
    simp only [h]
    rfl
  · cases a <;> cases b <;> exact ⟨by decide +kernel, by decide +kernel, by decide +kernel, by decide +kernel⟩
theorem right_ok (w : W) (d : PyData) (s : Sto) (h : rd s deep w = some d) (sm : Sml d 1000) (hx : ∀ x, w = .str x → Pl x 100) : ∃ s', r_law_right [w] s = .ok (.bl true) s' ∧ s <+: s' := by
  obtain ⟨t, ht, hv, hs⟩ := ty_of_rd h
  have hr : ∀ s', s <+: s' → gRepr [w] s' = some (.str d.shown, s') := fun s' q => repr_ok (rd_pre q h) sm (by decide)
  have nm : ∀ s', s <+: s' → ∃ s1 s2, r_is_name [w] s' = .ok (.bl (nameB w)) s1 ∧ s' <+: s1 ∧ r_law_is_word [w] s' = .ok (.bl (nameB w)) s2 ∧ s' <+: s2 := fun s' q => name_same w s' (tyW_pre ht q) hv hs hx
  have int : ∀ s', s <+: s' → r_is_integer [w] s' = .ok (.bl (intB t)) s' := fun s' q => integer_same w s' (tyW_pre ht q) hv
  have int2 : ∀ s', s <+: s' → r_law_is_whole [w] s' = .ok (.bl (intB t)) s' := int
  obtain ⟨T, hT⟩ : ∃ T, T = (PyData.list [.bool (nameB w), .bool (intB t)]).shown := ⟨_, rfl⟩
  -- the answers that are due
  obtain ⟨_, s2, _, _, n3, n4⟩ := nm s (List.prefix_refl _)
  have r0 := hr s (List.prefix_refl _)
  have i2 := int2 s2 n4
  have r2 := repr2 (nameB w) (intB t) (s2 ++ [.lst [.bl (nameB w), .bl (intB t)]]) (at_new _ _)
  rw [← hT] at r2
  have first : (spar [1, 2] (mcons (mfn gRepr (mcons (mvar 0) mnil)) (mcons (mfn gRepr (mcons (mlst (mcons (mcall 1 r_law_is_word (mcons (mvar 0) mnil)) (mcons (mcall 1 r_law_is_whole (mcons (mvar 0) mnil)) mnil))) mnil)) mnil))) [some w, none, none, none] s =
      .nx [some w, some (.str d.shown), some (.str T), none] (s2 ++ [.lst [.bl (nameB w), .bl (intB t)]]) := by
    simp [r0, n3, i2, r2]
  have pre2 : s <+: s2 ++ [.lst [.bl (nameB w), .bl (intB t)]] := n4.trans (List.prefix_append _ _)
  have loop : ∃ x s3, (sfor (mirng1 (mcons (mc (.int 2)) mnil)) (gname 3)
    (sseq (sif (mtb (mbin gNe (mfn gRepr (mcons (mlst (mcons (mcall 1 r_is_name (mcons (mvar 0) mnil)) (mcons (mcall 1 r_is_integer (mcons (mvar 0) mnil)) mnil))) mnil)) (mvar 2)))
    (sseq (sret (mc (.bl false)))
    snil)
    snil)
    snil)) [some w, some (.str d.shown), some (.str T), none] (s2 ++ [.lst [.bl (nameB w), .bl (intB t)]]) = .nx [some w, some (.str d.shown), some (.str T), x] s3 ∧ s <+: s3 := by
    refine sfor_inv (n := 2) (nx := nxRng 0 1 2) (s0 := s2 ++ [.lst [.bl (nameB w), .bl (intB t)]]) rfl (by decide) (fun i ws s' => ∃ x, ws = [some w, some (.str d.shown), some (.str T), x] ∧ s <+: s') (fun r => ∃ x s3, r = .nx [some w, some (.str d.shown), some (.str T), x] s3 ∧ s <+: s3) ⟨none, rfl, pre2⟩ ?_ ?_
    · rintro i ws s' hi ⟨x, rfl, q⟩
      obtain ⟨s3, _, n1, n2, _, _⟩ := nm s' q
      have i1 := int s3 (q.trans n2)
      have r3 := repr2 (nameB w) (intB t) (s3 ++ [.lst [.bl (nameB w), .bl (intB t)]]) (at_new _ _)
      rw [← hT] at r3
      refine ⟨_, _, _, _, nxRng_go hi, rfl, .inl ⟨[some w, some (.str d.shown), some (.str T), some (.int (0 + i * 1))], s3 ++ [.lst [.bl (nameB w), .bl (intB t)]], .inl ?_, _, rfl, q.trans (n2.trans (List.prefix_append _ _))⟩⟩
      simp [n1, i1, r3]
    · rintro ws s' ⟨x, rfl, q⟩
      exact ⟨nxRng_stop, x, s', rfl, q⟩
  obtain ⟨x, s3, l1, l2⟩ := loop
  refine ⟨s3, runB_rt ?_, l2⟩
  show m_law_right [some w, none, none, none] s = _
  unfold m_law_right
  have r3 := hr s3 l2
  simp only [sseq_eq, first, RS.then_nx, l1]
  simp [r3]

theorem sml_str {x : Str} {n : Nat} (h : Pl x n) (hn : n ≤ 1000) : Sml (.str x) 1000 := by
  refine ⟨rfl, Nat.zero_le _, ?_, ?_⟩
  · unfold PyData.leavesShort
    rw [List.all_eq_true]
    intro c hc
    have := h.2 c hc
    simp
    omega
  · have := h.1
    show x.cps.size ≤ 1000
    omega
/-- what is judged right -/
def Fine (w : W) (s : Sto) : Prop := ∃ d, rd s deep w = some d ∧ Sml d 1000 ∧ ∀ x, w = .str x → Pl x 100
theorem Fine.pre {w : W} {s s' : Sto} (h : Fine w s) (q : s <+: s') : Fine w s' := let ⟨d, a, b, c⟩ := h; ⟨d, rd_pre q a, b, c⟩
theorem all_right {xs : List W} {s : Sto} {k : Nat} (hk : s[k]? = some (.lst xs)) (hx : ∀ w ∈ xs, Fine w s) (hl : xs.length < 1000) (ws : List (Option W)) (hw : ws[4]? = some (some (.ref k))) (h5 : ws.length = 6) :
    ∃ s' q, mlc (mival (mvar 4)) (.nm 5) myes (mcall 1 r_law_right (mcons (mvar 5) mnil)) [5] ws s = .ok (.ref q) s' ∧ s <+: s' ∧ s'[q]? = some (.lst (xs.map fun _ => .bl true)) := by
  obtain ⟨s', acc, h1, h2, h3, h4⟩ := mlc_inv (mi := mival (mvar 4)) (nx := nxL k) (t := .nm 5) (c := myes) (e := mcall 1 r_law_right (mcons (mvar 5) mnil)) (vs := [5]) (ws := ws) (s := s) (s0 := s) (n := xs.length) (mival_lst (mvar_at hw s) hk) (by omega)
    (fun i s' acc => s <+: s' ∧ acc = (xs.take i).map fun _ => .bl true) ⟨List.prefix_append _ _, rfl⟩
    (fun i s' acc hi hd ⟨q, ea⟩ => by
      obtain ⟨d, f1, f2, f3⟩ := (hx xs[i] (List.getElem_mem hi)).pre q
      obtain ⟨s3, g1, g2⟩ := right_ok _ d s' f1 f2 f3
      refine ⟨_, _, _, nxL_go (pre_at q hk) (List.getElem?_eq_getElem hi), rfl, .inr ⟨s', .bl true, s3, rfl, ?_, pre_at g2 hd, ?_, ?_, ?_⟩⟩
      · have : ((wipeW ws [5]).set 5 (some xs[i]))[5]? = some (some xs[i]) := by
          rw [List.getElem?_set_self]
          simp [wipeW, h5]
        rw [mcall_eq, mcons_eq, mvar_at this]
        simp [g1]
      · rw [ea, List.length_map, List.length_take]; omega
      · obtain ⟨t, rfl⟩ := q.trans g2
        have hlt : s.length < (s ++ t).length := lt_of_at (pre_at g2 hd)
        rw [List.set_append_right _ _ (Nat.le_refl _)]
        exact List.prefix_append _ _
      · rw [ea, List.take_add_one, List.map_append, List.getElem?_eq_getElem hi]; rfl)
    (fun s' acc _ ⟨q, _⟩ => nxL_stop (pre_at q hk))
  refine ⟨s', s.length, h1, h3, ?_⟩
  rw [h2, h4, List.take_length]
theorem turn_ok {s : Sto} {p : Nat} (hp : PotAt p s) (a b c x y : Option W) : ∃ q s', (sseq (sset 4 (mlst (mcons (mcall 1 r_law_string (mcons (mvar 2) mnil)) (mcons (mcall 1 r_law_integer (mcons (mvar 2) mnil)) (mcons (mcall 1 r_law_other (mcons (mvar 2) mnil)) mnil)))))
    (sseq (sif (mnot (mtru gtru (mfn gAll (mcons (mlc (mival (mvar 4)) (.nm 5) myes (mcall 1 r_law_right (mcons (mvar 5) mnil)) [5]) mnil))))
    (sseq (sret (mc (.bl false)))
    snil)
    snil)
    snil)) [a, b, some (.ref p), c, x, y] s = .nx [a, b, some (.ref p), c, some (.ref q), y] s' ∧ Mv p s s' := by
  obtain ⟨z, s1, e1, pz, mv1⟩ := string_ok hp
  have hp1 := mv1.pot hp.lt
  obtain ⟨i, s2, e2, hi, mv2⟩ := integer_ok hp1
  have hp2 := mv2.pot hp1.lt
  obtain ⟨w, d, s3, e3, rx, sm, px, mv3⟩ := other_ok hp2
  have hp3 := mv3.pot hp2.lt
  obtain ⟨s4, es4⟩ : ∃ s4, s4 = s3 ++ [O.lst [.str z, .int i, w]] := ⟨_, rfl⟩
  have at4 : s4[s3.length]? = some (.lst [.str z, .int i, w]) := by rw [es4]; exact at_new _ _
  have pre4 : s3 <+: s4 := by rw [es4]; exact List.prefix_append _ _
  have fine : ∀ u ∈ [W.str z, .int i, w], Fine u s4 := by
    intro u hu
    simp only [List.mem_cons, List.not_mem_nil, or_false] at hu
    rcases hu with rfl | rfl | rfl
    · exact ⟨.str z, rfl, sml_str pz (by decide), fun x e => by cases e; exact pz.mono (by decide)⟩
    · exact ⟨.int i, rfl, (sml_int (Nat.lt_of_le_of_lt hi (by decide))).up (by decide), fun x e => nomatch e⟩
    · exact ⟨d, rd_pre pre4 rx.rd, sm.up (by decide), px⟩
  obtain ⟨s5, q, f1, f2, f3⟩ := all_right at4 fine (by simp) [a, b, some (.ref p), c, some (.ref s3.length), y] rfl rfl
  refine ⟨s3.length, s5, ?_, (mv1.trans (mv2.trans mv3 hp1.lt) hp.lt).trans (Mv.of_pre hp3 (pre4.trans f2)) hp.lt⟩
  have ga : gAll [.ref q] s5 = some (.bl true, s5) := gAll_lst (bs := [true, true, true]) f3 rfl
  have m2 : ∀ s : Sto, mvar 2 [a, b, some (.ref p), c, x, y] s = .ok (.ref p) s := fun s => rfl
  rw [es4] at f1
  simp [m2, e1, eI, e2, e3, f1, ga]

theorem Mv.far {p n : Nat} {s s' : Sto} {o : O} (h : Mv p s s') (e : s[n]? = some o) (hn : n ≠ p) : s'[n]? = some o := h.at e hn
theorem law_true (ns : List Int) (hl : ns.length ≤ 63) (hb : ∀ k ∈ ns, Builtin.Int.intBits k ≤ 1048576) : ∃ s', r_law [.ref 0] [.cst (ns.map .int)] = .ok (.bl true) s' := by
  obtain ⟨s0, h0⟩ : ∃ s0 : Sto, s0 = [.cst (ns.map .int)] := ⟨_, rfl⟩
  have at0 : s0[0]? = some (.cst (ns.map .int)) := by rw [h0]; rfl
  rw [← h0]
  have hlen := gLen_cst at0
  rw [List.length_map] at hlen
  obtain ⟨n, hn, hn2⟩ : ∃ n : Nat, (if (if (10 : Int) < ns.length then 10 else (ns.length : Int)) > 3 then (if (10 : Int) < ns.length then 10 else (ns.length : Int)) else 3) = n ∧ n ≤ 10 := by
    refine ⟨(if (if (10 : Int) < ns.length then 10 else (ns.length : Int)) > 3 then (if (10 : Int) < ns.length then 10 else (ns.length : Int)) else 3).toNat, ?_, ?_⟩
    · rw [Int.toNat_of_nonneg]
      split <;> split <;> omega
    · split <;> split <;> omega
  have hm : mirng1 (mcons (mfn gMax (mcons (mc (.int 3)) (mcons (mfn gMin (mcons (mfn gLen (mcons (mvar 0) mnil)) (mcons (mc (.int 10)) mnil))) mnil))) mnil) [some (.ref 0), none, none, none, none, none] s0 = .ok (nxRng 0 1 n) s0 := by
    have := mirng1_ok (m := mcons (mfn gMax (mcons (mc (.int 3)) (mcons (mfn gMin (mcons (mfn gLen (mcons (mvar 0) mnil)) (mcons (mc (.int 10)) mnil))) mnil))) mnil) (ws := [some (.ref 0), none, none, none, none, none]) (s := s0) (s' := s0) (j := n) (by simp [hlen, hn]) (by unfold sml; omega)
    simpa using this
  have loop : ∃ l s', (sfor (mirng1 (mcons (mfn gMax (mcons (mc (.int 3)) (mcons (mfn gMin (mcons (mfn gLen (mcons (mvar 0) mnil)) (mcons (mc (.int 10)) mnil))) mnil))) mnil)) (gname 1)
    (sseq (sset 2 (mcall 2 r_law_pot (mcons (mvar 0) (mcons (mvar 1) mnil))))
    (sseq (sfor (mirng1 (mcons (mc (.int 3)) mnil)) (gname 3)
    (sseq (sset 4 (mlst (mcons (mcall 1 r_law_string (mcons (mvar 2) mnil)) (mcons (mcall 1 r_law_integer (mcons (mvar 2) mnil)) (mcons (mcall 1 r_law_other (mcons (mvar 2) mnil)) mnil)))))
    (sseq (sif (mnot (mtru gtru (mfn gAll (mcons (mlc (mival (mvar 4)) (.nm 5) myes (mcall 1 r_law_right (mcons (mvar 5) mnil)) [5]) mnil))))
    (sseq (sret (mc (.bl false)))
    snil)
    snil)
    snil)))
    snil))) [some (.ref 0), none, none, none, none, none] s0 = .nx l s' := by
    refine sfor_inv (n := n) (nx := nxRng 0 1 n) (s0 := s0) hm (by omega) (fun i ws s => (∃ a b c d e, ws = [some (.ref 0), a, b, c, d, e]) ∧ s[0]? = some (.cst (ns.map .int))) (fun r => ∃ l s', r = .nx l s') ⟨⟨_, _, _, _, _, rfl⟩, at0⟩ ?_ ?_
    · rintro i ws s hi ⟨⟨a, b, c, d, e, rfl⟩, hs⟩
      obtain ⟨o, p1, p2⟩ := pot_ok (k := 0 + (i : Int) * 1) hs (by omega) (by omega)
      have hpos : 0 < s.length := lt_of_at hs
      have hp : PotAt s.length (s ++ [o]) := ⟨o, at_new _ _, p2⟩
      have inner : ∃ l s', (sfor (mirng1 (mcons (mc (.int 3)) mnil)) (gname 3)
    (sseq (sset 4 (mlst (mcons (mcall 1 r_law_string (mcons (mvar 2) mnil)) (mcons (mcall 1 r_law_integer (mcons (mvar 2) mnil)) (mcons (mcall 1 r_law_other (mcons (mvar 2) mnil)) mnil)))))
    (sseq (sif (mnot (mtru gtru (mfn gAll (mcons (mlc (mival (mvar 4)) (.nm 5) myes (mcall 1 r_law_right (mcons (mvar 5) mnil)) [5]) mnil))))
    (sseq (sret (mc (.bl false)))
    snil)
    snil)
    snil))) [some (.ref 0), some (.int (0 + i * 1)), some (.ref s.length), c, d, e] (s ++ [o]) = .nx l s' ∧ (∃ a b c d e, l = [some (.ref 0), a, b, c, d, e]) ∧ s'[0]? = some (.cst (ns.map .int)) := by
        have hm3 : mirng1 (mcons (mc (.int 3)) mnil) [some (.ref 0), some (.int (0 + i * 1)), some (.ref s.length), c, d, e] (s ++ [o]) = .ok (nxRng 0 1 3) (s ++ [o]) := rfl
        refine sfor_inv (n := 3) (nx := nxRng 0 1 3) (s0 := s ++ [o]) hm3 (by decide) (fun j ws s' => (∃ c d e, ws = [some (.ref 0), some (.int (0 + i * 1)), some (.ref s.length), c, d, e]) ∧ Mv s.length (s ++ [o]) s') (fun r => ∃ l s', r = .nx l s' ∧ (∃ a b c d e, l = [some (.ref 0), a, b, c, d, e]) ∧ s'[0]? = some (.cst (ns.map .int))) ⟨⟨_, _, _, rfl⟩, Mv.of_pre hp (List.prefix_refl _)⟩ ?_ ?_
        · rintro j ws s' hj ⟨⟨c, d, e, rfl⟩, mv⟩
          obtain ⟨q, s2, t1, t2⟩ := turn_ok (mv.pot hp.lt) (some (.ref 0)) (some (.int (0 + i * 1))) (some (.int (0 + j * 1))) d e
          exact ⟨_, _, _, _, nxRng_go hj, rfl, .inl ⟨_, _, .inl t1, ⟨_, _, _, rfl⟩, mv.trans t2 hp.lt⟩⟩
        · rintro ws s' ⟨⟨c, d, e, rfl⟩, mv⟩
          exact ⟨nxRng_stop, _, _, rfl, ⟨_, _, _, _, _, rfl⟩, mv.at (at_app hs) (by omega)⟩
      obtain ⟨l, s', i1, i2, i3⟩ := inner
      refine ⟨_, _, _, _, nxRng_go hi, rfl, .inl ⟨l, s', .inl ?_, i2, i3⟩⟩
      have m1 : ∀ s : Sto, mvar 0 [some (.ref 0), some (.int (0 + i * 1)), b, c, d, e] s = .ok (.ref 0) s := fun s => rfl
      have m2 : ∀ s : Sto, mvar 1 [some (.ref 0), some (.int (0 + i * 1)), b, c, d, e] s = .ok (.int (0 + i * 1)) s := fun s => rfl
      show (sseq (sset 2 (mcall 2 r_law_pot (mcons (mvar 0) (mcons (mvar 1) mnil)))) _) [some (.ref 0), some (.int (0 + i * 1)), b, c, d, e] s = _
      rw [sseq_eq, sset_eq, mcall_eq, mcons_eq, m1, R.bind_ok, mcons_eq, m2]
      simp only [R.bind_ok, mnil_eq, List.length_cons, List.length_nil, if_true, ePot, p1, R.toS_ok, RS.then_nx]
      show (sseq (sfor _ _ _) snil) [some (.ref 0), some (.int (0 + i * 1)), some (.ref s.length), c, d, e] (s ++ [o]) = _
      rw [sseq_eq, i1]
      rfl
    · rintro ws s ⟨⟨a, b, c, d, e, rfl⟩, hs⟩
      exact ⟨nxRng_stop, _, _, rfl⟩
  obtain ⟨l, s', e⟩ := loop
  refine ⟨s', runB_rt ?_⟩
  show m_law [some (.ref 0), none, none, none, none, none] s0 = _
  unfold m_law
  rw [sseq_eq, e]
  rfl
end K11


open PySem PySem.W PySem.Calls PyProof.Rows in
theorem PySem.Challenge.cw_anyoutcome_k11_names_and_integers_judged_holds : PySem.Challenge.rw_anyoutcome_k11_names_and_integers_judged.Holds := by
  w_on; o_law
  refine HandSHeadRun.head_any (r := OpenLaw.row PySem.Challenge.rw_anyoutcome_k11_names_and_integers_judged) (q := view (OpenLaw.row PySem.Challenge.rw_anyoutcome_k11_names_and_integers_judged).prog [15]) (H := K11.hk) (ob := K11.ob) (M := 2000) (loose := K11.loose) (d := HandSHeadRun.topDef (OpenLaw.row PySem.Challenge.rw_anyoutcome_k11_names_and_integers_judged).prog 15) (kwd := []) K11.ob_eq
    (by kernel_rfl) (fun s => by kernel_rfl) K11.run (by kernel_rfl) (by kernel_rfl) (by kernel_rfl) (by rfl) (by first | assumption | decide +kernel) (by decide +kernel) ⟨rfl, rfl, rfl, rfl, rfl, by decide +kernel⟩ ?hw ?hc
  case hw => w_witness2
  case hc =>
    refine Vm.walk_q (l := PySem.Challenge.rw_anyoutcome_k11_names_and_integers_judged) (n := 63) (k := 12) (x := "_law_script") rfl (by decide) (by kernel_rfl) ⟨rfl, by decide, by decide⟩ ?F
    intro w mg fa h Y G hmg0
    obtain ⟨K, KX, c⟩ := Y
    have e : (HandSHeadRun.topDef (OpenLaw.row PySem.Challenge.rw_anyoutcome_k11_names_and_integers_judged).prog 15).name = ("law" : PySem.Str) := by kernel_rfl
    rw [e] at hmg0
    obtain ⟨fd, hb, hF⟩ := K11.facts (w := w) KX G hmg0 (Vm.saysV_of c)
    exact ⟨K, fd, K11.r_law, KX, hb, fun ns hl hbits => K11.law_true ns hl hbits, hF⟩
