import PyProof.Rows.All
import Wide.All
import OpenK.AllK
import Wide.FinOn
import HandS.ForMost
import HandS.Exc
import HandS.HeadHook4
import HandS.IsInst
import HandS.Wide
import HandS.WideBits
import HandS.Flow
import HandS.TupAny
import HandS.WordsDict
import HandS.HeadWalk
import HandS.Star
import HandS.Defaults
import HandS.MakeKwOnly
import HandS.MethStar
import HandS.Iter
import HandS.Small
import HandS.Style
import HandS.Zip
import KE.GoesNew
import KE.GoesMore
import HandS.Comp
import HandS.Finally
import HandS.HeadHook2
import HandS.Head2
import HandS.ExcInit
import KE.KExcInit
import HandS.Codes
import HandS.TryMany
import HandS.ExcField
import HandS.Property
import HandS.ClsMeth
import HandS.DictComp
import HandS.Text
import HandS.HeadEnd
import HandS.EndBits
import KE.KStateDown
import Lean
import HandS.Words
import HandS.HeadHook1
import HandS.Head0
import HandS.Head1
import PySem.Challenge.RW_anyoutcome_k21_whole_closures_and_groups
set_option Elab.async false
set_option linter.all false
set_option maxRecDepth 100000
set_option maxHeartbeats 0
/-! Va1: values (trees; places of the store for what may change), objects, the ghost record, the relation. -/
namespace Va
open PySem PySem.Spec PyProof.Rows L2

inductive Tg where
  | lst | cst | tup | dic (ks : List Key) | ins (c : Str) (ks : List Str)
  deriving DecidableEq
/-- a value. nd: an object that is not changed any more, as a tree; ref: an object that may change, its place in the store -/
inductive W where
  | non | bl (b : Bool) | int (i : Int) | str (x : Str) | ref (n : Nat) | gl (x : Str) | ty (n : String) | nd (t : Tg) (xs : List W)
mutual
def W.beq : W → W → Bool
  | .non, .non => true
  | .bl a, .bl b => decide (a = b)
  | .int a, .int b => decide (a = b)
  | .str a, .str b => decide (a = b)
  | .ref a, .ref b => decide (a = b)
  | .gl a, .gl b => decide (a = b)
  | .ty a, .ty b => decide (a = b)
  | .nd t xs, .nd u ys => decide (t = u) && W.beqs xs ys
  | _, _ => false
def W.beqs : List W → List W → Bool
  | [], [] => true
  | x :: xs, y :: ys => x.beq y && W.beqs xs ys
  | _, _ => false
end
mutual
theorem W.beq_ok : ∀ a b : W, a.beq b = true ↔ a = b
  | .non, b => by cases b <;> simp [W.beq]
  | .bl a, b => by cases b <;> simp [W.beq]
  | .int a, b => by cases b <;> simp [W.beq]
  | .str a, b => by cases b <;> simp [W.beq]
  | .ref a, b => by cases b <;> simp [W.beq]
  | .gl a, b => by cases b <;> simp [W.beq]
  | .ty a, b => by cases b <;> simp [W.beq]
  | .nd t xs, b => by
    cases b with
    | nd u ys => simp [W.beq, W.beqs_ok xs ys]
    | _ => simp [W.beq]
theorem W.beqs_ok : ∀ a b : List W, W.beqs a b = true ↔ a = b
  | [], b => by cases b <;> simp [W.beqs]
  | x :: xs, b => by
    cases b with
    | nil => simp [W.beqs]
    | cons y ys => simp [W.beqs, W.beq_ok x y, W.beqs_ok xs ys]
end
instance : DecidableEq W := fun a b => decidable_of_iff (a.beq b = true) (W.beq_ok a b)
abbrev W.lst (xs : List W) : W := .nd .lst xs
abbrev W.cst (xs : List W) : W := .nd .cst xs
abbrev W.tup (xs : List W) : W := .nd .tup xs
abbrev W.dic (kvs : List (Key × W)) : W := .nd (.dic (kvs.map (·.1))) (kvs.map (·.2))
abbrev W.ins (c : Str) (fs : List (Str × W)) : W := .nd (.ins c (fs.map (·.1))) (fs.map (·.2))

/-- an object that may change. lck: a dict while it is walked; exn: the caught exception, its fields; dead: nothing is known of it -/
inductive O where
  | lst (xs : List W) | dic (kvs : List (Key × W)) | lck (kvs : List (Key × W)) | ins (c : Str) (fs : List (Str × W)) | exn (c : Str) (fs : List (Str × W)) | dead
  deriving DecidableEq
abbrev Sto := List O
/-- the objects that do not change any more -/
structure Gh where
  al : List Addr
  hf : Hp
/-- what is locked; the objects that a rule keeps to itself; the caught exception: its place in the store, its address, class, own dict -/
structure Gz where
  lk : Addr → Option (Obj × List (Key × V))
  pv : Addr → Option HO
  ex : Option (Nat × Addr × Value × Option Addr)
abbrev Kz := PySem.W.Frag × Gz
structure Le (g g' : Gh) : Prop where
  al : g.al <+: g'.al
  hf : ∀ a o, g.hf a = some o → g'.hf a = some o
theorem Le.rfl {g : Gh} : Le g g := ⟨List.prefix_refl _, fun _ _ h => h⟩
theorem Le.trans {g g' g'' : Gh} (a : Le g g') (b : Le g' g'') : Le g g'' := ⟨a.al.trans b.al, fun x o h => b.hf x o (a.hf x o h)⟩

/-- what stands at a of the objects that do not change any more -/
def FrT (K : PySem.W.Frag) (hf : Hp) (a : Addr) : Tg → List V → Prop
  | .lst, vs => hf a = some (.lst vs)
  | .cst, vs => SqL K hf a vs
  | .tup, vs => SqT K hf a vs
  | .dic ks, vs => ks.length = vs.length ∧ hf a = some (.dK (ks.zip vs))
  | .ins c ks, vs => ks.length = vs.length ∧ ∃ dx, hf a = some (.ins (He.ga K c) dx (ks.zip vs))
mutual
inductive RW (K : Kz) (g : Gh) : W → V → Prop
  | non : RW K g .non .non
  | bl {b} : RW K g (.bl b) (.bl b)
  | int {i} : RW K g (.int i) (.int i)
  | str {x} : RW K g (.str x) (.str x)
  | ref {n a} : g.al[n]? = some a → RW K g (.ref n) (.ref a)
  | gl {x} : RW K g (.gl x) (.ref (He.ga K.1 x))
  | ty {n} : RW K g (.ty n) (.ty n)
  | nd {t ws a vs} : RWs K g ws vs → FrT K.1 g.hf a t vs → RW K g (.nd t ws) (.ref a)
inductive RWs (K : Kz) (g : Gh) : List W → List V → Prop
  | nil : RWs K g [] []
  | cons {w v ws vs} : RW K g w v → RWs K g ws vs → RWs K g (w :: ws) (v :: vs)
end
section
variable (K : Kz) (g : Gh)
inductive RKs {κ : Type} : List (κ × W) → List (κ × V) → Prop
  | nil : RKs [] []
  | cons {k w v ws vs} : RW K g w v → RKs ws vs → RKs ((k, w) :: ws) ((k, v) :: vs)
/-- the local names' values: what is known on the left is so on the right -/
inductive RSt : List (Option W) → L2.St → Prop
  | nil : RSt [] []
  | no {v ws vs} : RSt ws vs → RSt (none :: ws) (v :: vs)
  | so {w v ws vs} : RW K g w v → RSt ws vs → RSt (some w :: ws) (some v :: vs)
def HAt (H : Hp) (a : Addr) : O → Prop
  | .lst xs => ∃ vs, RWs K g xs vs ∧ H a = some (.lst vs)
  | .dic kvs => ∃ vs, RKs K g kvs vs ∧ H a = some (.dK vs) ∧ K.2.lk a = none
  | .lck kvs => ∃ vs ob, RKs K g kvs vs ∧ K.2.lk a = some (ob, vs) ∧ H a = some (.frz ob (.dK vs))
  | .ins c fs => ∃ dx vs, RKs K g fs vs ∧ H a = some (.ins (He.ga K.1 c) dx vs)
  | .exn c fs => ∃ n d vs, K.2.ex = some (n, a, .ref (He.ga K.1 c), some d) ∧ RKs K g fs vs ∧ g.hf d = some (.xd vs)
  | .dead => True
end
/-- an object that H tracks -/
def O.own : O → Bool
  | .exn _ _ => false
  | .dead => false
  | _ => true
def O.isX : O → Bool
  | .exn _ _ => true
  | _ => false
def lockd (fz : Gz) (a : Addr) (u : HO) : HO := match u, fz.lk a with
  | .dK l, some (ob, _) => .frz ob (.dK l)
  | u, _ => u
structure Sim (K : Kz) (g : Gh) (s : Sto) (H : Hp) : Prop where
  len : g.al.length = s.length
  at_ : ∀ (n : Nat) (o : O) (a : Addr), s[n]? = some o → g.al[n]? = some a → HAt K g H a o
  nd : ∀ (n m : Nat) (a : Addr) (o u : O), g.al[n]? = some a → g.al[m]? = some a → s[n]? = some o → s[m]? = some u → o.own = true → u.own = true → n = m
  nf : ∀ (n : Nat) (a : Addr) (o : O), g.al[n]? = some a → s[n]? = some o → o.own = true → g.hf a = none
  fr : ∀ a u, g.hf a = some u → H a = some (lockd K.2 a u)
  lkd : ∀ a ob, K.2.lk a = some ob → H a ≠ none
  pv : ∀ a u, K.2.pv a = some u → H a = some u ∧ g.hf a = none ∧ ∀ (n : Nat) (o : O), g.al[n]? = some a → s[n]? = some o → o.own = false
  ex : ∀ (n : Nat) (c : Str) (fs : List (Str × W)), s[n]? = some (.exn c fs) → ∃ r, K.2.ex = some (n, r)

variable {K : Kz} {g g' : Gh}
theorem pre_get {α : Type} {al bl : List α} {n : Nat} {a : α} (p : al <+: bl) (h : al[n]? = some a) : bl[n]? = some a := by
  obtain ⟨t, rfl⟩ := p
  have hl : n < al.length := (List.getElem?_eq_some_iff.mp h).1
  rw [List.getElem?_append_left hl]; exact h
theorem SqL.up {H H' : Hp} {a : Addr} {xs : List V} {k : PySem.W.Frag} (h : SqL k H a xs) (e : ∀ o, H a = some o → (∀ l, o ≠ .dK l) → H' a = some o) : SqL k H' a xs := by
  rcases h with (h | ⟨o, h⟩) | h
  · exact .inl (.inl (e _ h (fun _ z => nomatch z)))
  · exact .inl (.inr ⟨o, e _ h (fun _ z => nomatch z)⟩)
  · exact .inr h
theorem SqT.up {H H' : Hp} {a : Addr} {xs : List V} {k : PySem.W.Frag} (h : SqT k H a xs) (e : ∀ o, H a = some o → (∀ l, o ≠ .dK l) → H' a = some o) : SqT k H' a xs := by
  rcases h with (h | ⟨o, h⟩) | h
  · exact .inl (.inl (e _ h (fun _ z => nomatch z)))
  · exact .inl (.inr ⟨o, e _ h (fun _ z => nomatch z)⟩)
  · exact .inr h
theorem FrT.up {hf hf' : Hp} {a : Addr} {t : Tg} {vs : List V} {k : PySem.W.Frag} (h : FrT k hf a t vs) (e : ∀ o, hf a = some o → hf' a = some o) : FrT k hf' a t vs := by
  cases t with
  | lst => exact e _ h
  | cst => exact SqL.up h fun o q _ => e o q
  | tup => exact SqT.up h fun o q _ => e o q
  | dic ks => exact ⟨h.1, e _ h.2⟩
  | ins c ks => obtain ⟨h1, dx, h2⟩ := h; exact ⟨h1, dx, e _ h2⟩
mutual
theorem RW.mono {w : W} {v : V} (p : Le g g') : RW K g w v → RW K g' w v
  | .non => .non
  | .bl => .bl
  | .int => .int
  | .str => .str
  | .ref h => .ref (pre_get p.al h)
  | .gl => .gl
  | .ty => .ty
  | .nd h f => .nd (h.mono p) (f.up (p.hf _))
theorem RWs.mono {ws : List W} {vs : List V} (p : Le g g') : RWs K g ws vs → RWs K g' ws vs
  | .nil => .nil
  | .cons a b => .cons (a.mono p) (b.mono p)
end
mutual
theorem RW.fz {k : PySem.W.Frag} {f f' : Gz} {w : W} {v : V} : RW (k, f) g w v → RW (k, f') g w v
  | .non => .non
  | .bl => .bl
  | .int => .int
  | .str => .str
  | .ref h => .ref h
  | .gl => .gl
  | .ty => .ty
  | .nd h f => .nd (h.fz) f
theorem RWs.fz {k : PySem.W.Frag} {f f' : Gz} {ws : List W} {vs : List V} : RWs (k, f) g ws vs → RWs (k, f') g ws vs
  | .nil => .nil
  | .cons a b => .cons (a.fz) (b.fz)
end
theorem RKs.fz {κ : Type} {k : PySem.W.Frag} {f f' : Gz} {ws : List (κ × W)} {vs : List (κ × V)} (r : RKs (k, f) g ws vs) : RKs (k, f') g ws vs := by
  induction r with
  | nil => exact .nil
  | cons a _ ih => exact .cons a.fz ih
theorem RSt.fz {k : PySem.W.Frag} {f f' : Gz} {ws : List (Option W)} {vs : L2.St} (r : RSt (k, f) g ws vs) : RSt (k, f') g ws vs := by
  induction r with
  | nil => exact .nil
  | no _ ih => exact .no ih
  | so a _ ih => exact .so a.fz ih
theorem RKs.mono {κ : Type} {ws : List (κ × W)} {vs : List (κ × V)} (p : Le g g') (r : RKs K g ws vs) : RKs K g' ws vs := by
  induction r with
  | nil => exact .nil
  | cons a _ ih => exact .cons (a.mono p) ih
theorem RSt.mono {ws : List (Option W)} {vs : L2.St} (p : Le g g') (r : RSt K g ws vs) : RSt K g' ws vs := by
  induction r with
  | nil => exact .nil
  | no _ ih => exact .no ih
  | so a _ ih => exact .so (a.mono p) ih
theorem RWs.length {ws : List W} {vs : List V} (r : RWs K g ws vs) : ws.length = vs.length := by
  induction ws generalizing vs with
  | nil => cases r; rfl
  | cons w ws ih => cases r with | cons a b => simp [ih b]
theorem RKs.length {κ : Type} {ws : List (κ × W)} {vs : List (κ × V)} (r : RKs K g ws vs) : ws.length = vs.length := by
  induction r with
  | nil => rfl
  | cons _ _ ih => simp [ih]
theorem RSt.length {ws : List (Option W)} {vs : L2.St} (r : RSt K g ws vs) : ws.length = vs.length := by
  induction r with
  | nil => rfl
  | no _ ih => simp [ih]
  | so _ _ ih => simp [ih]
theorem RWs.get {ws : List W} {vs : List V} (r : RWs K g ws vs) : ∀ {i : Nat} {w : W}, ws[i]? = some w → ∃ v, vs[i]? = some v ∧ RW K g w v := by
  induction ws generalizing vs with
  | nil => intro i w h; simp at h
  | cons w0 ws ih =>
    cases r with
    | cons a b =>
      intro i w h
      cases i with
      | zero => simp at h; subst h; exact ⟨_, rfl, a⟩
      | succ i => simpa using ih b (by simpa using h)
theorem RWs.app {ws ws' : List W} {vs vs' : List V} (r : RWs K g ws vs) (r' : RWs K g ws' vs') : RWs K g (ws ++ ws') (vs ++ vs') := by
  induction ws generalizing vs with
  | nil => cases r; exact r'
  | cons w0 ws ih => cases r with | cons a b => exact .cons a (ih b)
theorem RWs.set {ws : List W} {vs : List V} {w : W} {v : V} (q : RW K g w v) (r : RWs K g ws vs) : ∀ i : Nat, RWs K g (ws.set i w) (vs.set i v) := by
  induction ws generalizing vs with
  | nil => cases r; intro i; exact .nil
  | cons w0 ws ih =>
    cases r with
    | cons a b =>
      intro i
      cases i with
      | zero => exact .cons q b
      | succ i => exact .cons a (ih b i)
theorem RWs.take {ws : List W} {vs : List V} (r : RWs K g ws vs) : ∀ n : Nat, RWs K g (ws.take n) (vs.take n) := by
  induction ws generalizing vs with
  | nil => cases r; intro n; simp; exact .nil
  | cons w0 ws ih =>
    cases r with
    | cons a b =>
      intro n
      cases n with
      | zero => exact .nil
      | succ n => exact .cons a (ih b n)
theorem RWs.drop {ws : List W} {vs : List V} (r : RWs K g ws vs) : ∀ n : Nat, RWs K g (ws.drop n) (vs.drop n) := by
  induction ws generalizing vs with
  | nil => cases r; intro n; simp; exact .nil
  | cons w0 ws ih =>
    cases r with
    | cons a b =>
      intro n
      cases n with
      | zero => exact .cons a b
      | succ n => exact ih b n
theorem RWs.rev {ws : List W} {vs : List V} (r : RWs K g ws vs) : RWs K g ws.reverse vs.reverse := by
  induction ws generalizing vs with
  | nil => cases r; exact .nil
  | cons w0 ws ih => cases r with | cons a b => simp only [List.reverse_cons]; exact (ih b).app (.cons a .nil)
theorem RWs.inv1 {w : W} {vs : List V} (r : RWs K g [w] vs) : ∃ v, vs = [v] ∧ RW K g w v := by
  cases r with
  | cons a t => cases t; exact ⟨_, rfl, a⟩
theorem RWs.inv2 {w w' : W} {vs : List V} (r : RWs K g [w, w'] vs) : ∃ v v', vs = [v, v'] ∧ RW K g w v ∧ RW K g w' v' := by
  cases r with
  | cons a t =>
    obtain ⟨v', e, b⟩ := t.inv1
    subst e
    exact ⟨_, _, rfl, a, b⟩
theorem RSt.get {ws : List (Option W)} {vs : L2.St} (r : RSt K g ws vs) : ∀ {i : Nat} {w : W}, ws[i]? = some (some w) → ∃ v, vs[i]? = some (some v) ∧ RW K g w v := by
  induction r with
  | nil => intro i w h; simp at h
  | no _ ih =>
    intro i w h
    cases i with
    | zero => simp at h
    | succ i => simpa using ih (by simpa using h)
  | so a _ ih =>
    intro i w h
    cases i with
    | zero => simp at h; subst h; exact ⟨_, rfl, a⟩
    | succ i => simpa using ih (by simpa using h)
theorem RSt.set {ws : List (Option W)} {vs : L2.St} (r : RSt K g ws vs) {w : W} {v : V} (q : RW K g w v) : ∀ i : Nat, RSt K g (ws.set i (some w)) (vs.set i (some v)) := by
  induction r with
  | nil => intro i; exact .nil
  | no t ih =>
    intro i
    cases i with
    | zero => exact .so q t
    | succ i => exact .no (ih i)
  | so a t ih =>
    intro i
    cases i with
    | zero => exact .so q t
    | succ i => exact .so a (ih i)
theorem RSt.clear {ws : List (Option W)} {vs : L2.St} (r : RSt K g ws vs) : ∀ (i : Nat) (x : Option V), RSt K g (ws.set i none) (vs.set i x) := by
  induction r with
  | nil => intro i x; exact .nil
  | no t ih =>
    intro i x
    cases i with
    | zero => exact .no t
    | succ i => exact .no (ih i x)
  | so a t ih =>
    intro i x
    cases i with
    | zero => exact .no t
    | succ i => exact .so a (ih i x)
theorem RWs.startSt {ws : List W} {vs : List V} (r : RWs K g ws vs) (n : Nat) : RSt K g (ws.map some ++ List.replicate n none) (vs.map some ++ List.replicate n none) := by
  induction ws generalizing vs with
  | nil =>
    cases r
    induction n with
    | zero => exact .nil
    | succ n ih => exact .no ih
  | cons w0 ws ih => cases r with | cons a b => exact .so a (ih b)
/-! ### keyed lists and pairs of lists -/
theorem RKs.split {κ : Type} {kws : List (κ × W)} {kvs : List (κ × V)} (r : RKs K g kws kvs) : kws.map (·.1) = kvs.map (·.1) ∧ RWs K g (kws.map (·.2)) (kvs.map (·.2)) := by
  induction r with
  | nil => exact ⟨rfl, .nil⟩
  | cons a _ ih => exact ⟨by simp [ih.1], .cons a ih.2⟩
theorem zip_maps {κ α : Type} : ∀ l : List (κ × α), (l.map (·.1)).zip (l.map (·.2)) = l
  | [] => rfl
  | (a, b) :: l => by simp [zip_maps l]
theorem RKs.zip {κ : Type} : ∀ {ks : List κ} {ws : List W} {vs : List V}, ks.length = vs.length → RWs K g ws vs → RKs K g (ks.zip ws) (ks.zip vs)
  | [], ws, vs, h, r => by simp; exact .nil
  | k :: ks, _, _, h, .cons a b => .cons a (RKs.zip (by simpa using h) b)
  | k :: ks, _, _, h, .nil => by simp at h
theorem RKs.app {κ : Type} {ws ws' : List (κ × W)} {vs vs' : List (κ × V)} (r : RKs K g ws vs) (r' : RKs K g ws' vs') : RKs K g (ws ++ ws') (vs ++ vs') := by
  induction r with
  | nil => exact r'
  | cons a _ ih => exact .cons a ih
/-! ### what stands at an address, under more addresses, other heaps -/
theorem HAt.stay {H H' : Hp} {a : Addr} {o : O} (h : HAt K g H a o) (p : Le g g') (e : H' a = H a) : HAt K g' H' a o := by
  cases o with
  | lst xs => obtain ⟨vs, r, q⟩ := h; exact ⟨vs, r.mono p, e.trans q⟩
  | dic kvs => obtain ⟨vs, r, q, l⟩ := h; exact ⟨vs, r.mono p, e.trans q, l⟩
  | lck kvs => obtain ⟨vs, ob, r, l, q⟩ := h; exact ⟨vs, ob, r.mono p, l, e.trans q⟩
  | ins c fs => obtain ⟨dx, vs, r, q⟩ := h; exact ⟨dx, vs, r.mono p, e.trans q⟩
  | exn c fs => obtain ⟨n, d, vs, h1, r, q⟩ := h; exact ⟨n, d, vs, h1, r.mono p, p.hf _ _ q⟩
  | dead => trivial
theorem HAt.some {H : Hp} {a : Addr} {o : O} (h : HAt K g H a o) (p : o.own = true) : ∃ u, H a = some u := by
  cases o with
  | lst xs => obtain ⟨vs, r, q⟩ := h; exact ⟨_, q⟩
  | dic kvs => obtain ⟨vs, r, q, l⟩ := h; exact ⟨_, q⟩
  | lck kvs => obtain ⟨vs, ob, r, l, q⟩ := h; exact ⟨_, q⟩
  | ins c fs => obtain ⟨dx, vs, r, q⟩ := h; exact ⟨_, q⟩
  | exn c fs => cases p
  | dead => cases p
theorem HAt.noOwn {H H' : Hp} {a : Addr} {o : O} (h : HAt K g H a o) (p : o.own = false) (q : Le g g') : HAt K g' H' a o := by
  cases o with
  | exn c fs => obtain ⟨n, d, vs, h1, r, z⟩ := h; exact ⟨n, d, vs, h1, r.mono q, q.hf _ _ z⟩
  | dead => trivial
  | _ => cases p
theorem Sim.get {s : Sto} {H : Hp} (S : Sim K g s H) {n : Nat} {o : O} (h : s[n]? = some o) : ∃ a, g.al[n]? = some a ∧ HAt K g H a o := by
  have hl : n < g.al.length := by rw [S.len]; exact (List.getElem?_eq_some_iff.mp h).1
  exact ⟨_, List.getElem?_eq_getElem hl, S.at_ n o _ h (List.getElem?_eq_getElem hl)⟩
theorem Sim.hfn {s : Sto} {H : Hp} (S : Sim K g s H) {p : Addr} (hp : H p = none) : g.hf p = none := by
  cases e : g.hf p with
  | none => rfl
  | some u => rw [S.fr p u e] at hp; cases hp
theorem Sim.lkn {s : Sto} {H : Hp} (S : Sim K g s H) {p : Addr} (hp : H p = none) : K.2.lk p = none := by
  cases e : K.2.lk p with
  | none => rfl
  | some u => exact absurd hp (S.lkd p u e)
/-- one more object that may change -/
def Gh.snoc (g : Gh) (p : Addr) : Gh := ⟨g.al ++ [p], g.hf⟩
/-- one more that does not -/
def Gh.fix (g : Gh) (p : Addr) (u : HO) : Gh := ⟨g.al, upd g.hf p u⟩
theorem le_snoc (g : Gh) (p : Addr) : Le g (g.snoc p) := ⟨⟨[p], rfl⟩, fun _ _ h => h⟩
theorem le_fix {p : Addr} {u : HO} (h : g.hf p = none) : Le g (g.fix p u) := ⟨List.prefix_refl _, fun a o e => by
  show upd g.hf p u a = some o
  rw [upd_ne (fun z => by rw [z, h] at e; cases e)]; exact e⟩
theorem snoc_at {s : Sto} (h : g.al.length = s.length) (p : Addr) : (g.snoc p).al[s.length]? = some p := by
  rw [← h]; simp [Gh.snoc]
/-- a new object that may change -/
theorem Sim.alloc {s : Sto} {H : Hp} (S : Sim K g s H) {p : Addr} {o : O} {u : HO} (hp : H p = none) (h : HAt K (g.snoc p) (upd H p u) p o) (hx : o.isX = false := by rfl) : Sim K (g.snoc p) (s ++ [o]) (upd H p u) := by
  have inv : ∀ {n : Nat} {x : O} {a : Addr}, (s ++ [o])[n]? = some x → (g.snoc p).al[n]? = some a → (n < s.length ∧ s[n]? = some x ∧ g.al[n]? = some a) ∨ (n = s.length ∧ x = o ∧ a = p) := fun {n x a} e ea => by
    by_cases hn : n < s.length
    · rw [List.getElem?_append_left hn] at e
      have : (g.al ++ [p])[n]? = some a := ea
      rw [List.getElem?_append_left (by rw [S.len]; exact hn)] at this
      exact .inl ⟨hn, e, this⟩
    · have hl : n < (s ++ [o]).length := (List.getElem?_eq_some_iff.mp e).1
      have hn' : n = s.length := by simp at hl; omega
      subst hn'
      rw [snoc_at S.len] at ea
      simp at e
      exact .inr ⟨rfl, e.symm, (Option.some.inj ea).symm⟩
  have ne_of : ∀ {n : Nat} {x : O} {a : Addr}, s[n]? = some x → g.al[n]? = some a → x.own = true → a ≠ p := fun {n x a} e ea ow z => by
    subst z
    obtain ⟨v, hv⟩ := (S.at_ n x _ e ea).some ow
    rw [hp] at hv; cases hv
  refine ⟨by simp [Gh.snoc, S.len], fun n x a e ea => ?_, fun n m a o1 o2 a1 a2 e1 e2 w1 w2 => ?_, fun n a x ea e ow => ?_, fun a v e => ?_, fun a ob e => ?_, fun a v e => ?_, fun n c fs e => ?_⟩
  · rcases inv e ea with ⟨hn, e, ea⟩ | ⟨rfl, rfl, rfl⟩
    · have q := S.at_ n x a e ea
      cases ow : x.own with
      | true => exact q.stay (le_snoc _ _) (upd_ne (ne_of e ea ow))
      | false => exact q.noOwn ow (le_snoc _ _)
    · exact h
  · rcases inv e1 a1 with ⟨h1, e1, a1⟩ | ⟨h1, x1, b1⟩ <;> rcases inv e2 a2 with ⟨h2, e2, a2⟩ | ⟨h2, x2, b2⟩
    · exact S.nd n m a o1 o2 a1 a2 e1 e2 w1 w2
    · exact absurd b2 (ne_of e1 a1 w1)
    · exact absurd b1 (ne_of e2 a2 w2)
    · omega
  · rcases inv e ea with ⟨hn, e, ea⟩ | ⟨rfl, rfl, rfl⟩
    · exact S.nf n a x ea e ow
    · exact S.hfn hp
  · have e' : g.hf a = some v := e
    rw [upd_ne (fun z => by rw [z, S.hfn hp] at e'; cases e')]
    exact S.fr a v e'
  · by_cases z : a = p
    · subst z; rw [upd_same]; exact fun q => nomatch q
    · rw [upd_ne z]; exact S.lkd a ob e
  · obtain ⟨h1, h2, h3⟩ := S.pv a v e
    have ne : a ≠ p := fun z => by rw [z, hp] at h1; cases h1
    refine ⟨by rw [upd_ne ne]; exact h1, h2, fun n x ea e => ?_⟩
    rcases inv e ea with ⟨hn, e, ea⟩ | ⟨_, _, z⟩
    · exact h3 n x ea e
    · exact absurd z ne
  · by_cases hn : n < s.length
    · rw [List.getElem?_append_left hn] at e; exact S.ex n c fs e
    · have hl : n < (s ++ [o]).length := (List.getElem?_eq_some_iff.mp e).1
      have hn' : n = s.length := by simp at hl; omega
      subst hn'
      simp at e
      subst e; cases hx
theorem lockd_none {fz : Gz} {a : Addr} {u : HO} (h : fz.lk a = none) : lockd fz a u = u := by
  unfold lockd
  rw [h]
  cases u <;> rfl
theorem lockd_other {fz : Gz} {a : Addr} {u : HO} (h : ∀ l, u ≠ .dK l) : lockd fz a u = u := by
  unfold lockd
  split
  · exact absurd rfl (h _)
  · rfl
/-- a new object that does not change -/
theorem Sim.fix {s : Sto} {H : Hp} (S : Sim K g s H) {p : Addr} {u : HO} (hp : H p = none) : Sim K (g.fix p u) s (upd H p u) := by
  have ne_of : ∀ {n : Nat} {x : O} {a : Addr}, s[n]? = some x → g.al[n]? = some a → x.own = true → a ≠ p := fun {n x a} e ea ow z => by
    subst z
    obtain ⟨v, hv⟩ := (S.at_ n x _ e ea).some ow
    rw [hp] at hv; cases hv
  have le : Le g (g.fix p u) := le_fix (S.hfn hp)
  refine ⟨S.len, fun n x a e ea => ?_, S.nd, fun n a x ea e ow => ?_, fun a v e => ?_, fun a ob e => ?_, fun a v e => ?_, S.ex⟩
  · have q := S.at_ n x a e ea
    cases ow : x.own with
    | true => exact q.stay le (upd_ne (ne_of e ea ow))
    | false => exact q.noOwn ow le
  · show upd g.hf p u a = none
    rw [upd_ne (ne_of e ea ow)]; exact S.nf n a x ea e ow
  · have e' : upd g.hf p u a = some v := e
    by_cases z : a = p
    · subst z
      rw [upd_same] at e' ⊢
      cases e'
      rw [lockd_none (S.lkn hp)]
    · rw [upd_ne z] at e' ⊢
      exact S.fr a v e'
  · by_cases z : a = p
    · subst z; rw [upd_same]; exact fun q => nomatch q
    · rw [upd_ne z]; exact S.lkd a ob e
  · obtain ⟨h1, h2, h3⟩ := S.pv a v e
    have ne : a ≠ p := fun z => by rw [z, hp] at h1; cases h1
    refine ⟨by rw [upd_ne ne]; exact h1, ?_, h3⟩
    show upd g.hf p u a = none
    rw [upd_ne ne]; exact h2
/-- an object is changed -/
theorem Sim.write {s : Sto} {H : Hp} (S : Sim K g s H) {n : Nat} {a : Addr} {o o' : O} {u : HO} (hn : s[n]? = some o) (ha : g.al[n]? = some a) (ow : o.own = true) (h : HAt K g (upd H a u) a o') (ow' : o'.own = true) : Sim K g (s.set n o') (upd H a u) := by
  have hl : n < s.length := (List.getElem?_eq_some_iff.mp hn).1
  have inv : ∀ {m : Nat} {x : O}, (s.set n o')[m]? = some x → (m = n ∧ x = o') ∨ (m ≠ n ∧ s[m]? = some x) := fun {m x} e => by
    by_cases hm : m = n
    · subst hm
      rw [List.getElem?_set_self hl] at e
      cases e
      exact .inl ⟨rfl, rfl⟩
    · rw [List.getElem?_set_ne (Ne.symm hm)] at e
      exact .inr ⟨hm, e⟩
  refine ⟨by simp [S.len], fun m x b e eb => ?_, fun i j b o1 o2 a1 a2 e1 e2 w1 w2 => ?_, fun m b x eb e w => ?_, fun b v e => ?_, fun b ob e => ?_, fun b v e => ?_, fun m c fs e => ?_⟩
  · rcases inv e with ⟨rfl, rfl⟩ | ⟨hm, e⟩
    · rw [ha] at eb; cases eb; exact h
    · have q := S.at_ m x b e eb
      cases w : x.own with
      | true => exact q.stay Le.rfl (upd_ne (fun z => by subst z; exact hm (S.nd m n _ x o eb ha e hn w ow)))
      | false => exact q.noOwn w Le.rfl
  · rcases inv e1 with ⟨z1, y1⟩ | ⟨h1, f1⟩ <;> rcases inv e2 with ⟨z2, y2⟩ | ⟨h2, f2⟩
    · exact z1.trans z2.symm
    · subst z1
      exact S.nd _ _ b o o2 a1 a2 hn f2 ow w2
    · subst z2
      exact S.nd _ _ b o1 o a1 a2 f1 hn w1 ow
    · exact S.nd i j b o1 o2 a1 a2 f1 f2 w1 w2
  · rcases inv e with ⟨rfl, rfl⟩ | ⟨hm, e⟩
    · exact S.nf _ b o eb hn ow
    · exact S.nf m b x eb e w
  · have ne : b ≠ a := fun z => by subst z; rw [S.nf n _ o ha hn ow] at e; cases e
    rw [upd_ne ne]; exact S.fr b v e
  · by_cases z : b = a
    · subst z; rw [upd_same]; exact fun q => nomatch q
    · rw [upd_ne z]; exact S.lkd b ob e
  · obtain ⟨h1, h2, h3⟩ := S.pv b v e
    have ne : b ≠ a := fun z => by subst z; rw [h3 n o ha hn] at ow; cases ow
    refine ⟨by rw [upd_ne ne]; exact h1, h2, fun m x eb e => ?_⟩
    rcases inv e with ⟨rfl, rfl⟩ | ⟨hm, e⟩
    · rw [ha] at eb; cases eb; exact absurd rfl ne
    · exact h3 m x eb e
  · rcases inv e with ⟨_, e⟩ | ⟨_, e⟩
    · subst e; cases ow'
    · exact S.ex m c fs e
/-- what is known of it is given up -/
theorem Sim.drop {s : Sto} {H : Hp} (S : Sim K g s H) (n : Nat) : Sim K g (s.set n .dead) H := by
  have inv : ∀ {m : Nat} {x : O}, (s.set n .dead)[m]? = some x → x = .dead ∨ s[m]? = some x := fun {m x} e => by
    by_cases hm : m = n
    · subst hm
      have hl : m < (s.set m .dead).length := (List.getElem?_eq_some_iff.mp e).1
      rw [List.getElem?_set_self (by simpa using hl)] at e
      cases e; exact .inl rfl
    · rw [List.getElem?_set_ne (Ne.symm hm)] at e
      exact .inr e
  refine ⟨by simp [S.len], fun m x b e eb => ?_, fun i j b o1 o2 a1 a2 e1 e2 w1 w2 => ?_, fun m b x eb e w => ?_, S.fr, S.lkd, fun b v e => ?_, fun m c fs e => ?_⟩
  · rcases inv e with rfl | e
    · trivial
    · exact S.at_ m x b e eb
  · rcases inv e1 with rfl | e1
    · cases w1
    · rcases inv e2 with rfl | e2
      · cases w2
      · exact S.nd i j b o1 o2 a1 a2 e1 e2 w1 w2
  · rcases inv e with rfl | e
    · cases w
    · exact S.nf m b x eb e w
  · obtain ⟨h1, h2, h3⟩ := S.pv b v e
    refine ⟨h1, h2, fun m x eb e => ?_⟩
    rcases inv e with rfl | e
    · rfl
    · exact h3 m x eb e
  · rcases inv e with e | e
    · cases e
    · exact S.ex m c fs e
/-! ### an object that a rule keeps to itself -/
def Gz.own (f : Gz) (p : Addr) (u : HO) : Gz := ⟨f.lk, upd f.pv p u, f.ex⟩
theorem Sim.hide {k : PySem.W.Frag} {f : Gz} {s : Sto} {H : Hp} (S : Sim (k, f) g s H) {p : Addr} {u : HO} (hp : H p = none) : Sim (k, f.own p u) g s (upd H p u) := by
  have ne_of : ∀ {n : Nat} {x : O} {a : Addr}, s[n]? = some x → g.al[n]? = some a → x.own = true → a ≠ p := fun {n x a} e ea ow z => by
    subst z
    obtain ⟨v, hv⟩ := (S.at_ n x _ e ea).some ow
    rw [hp] at hv; cases hv
  refine ⟨S.len, fun n x a e ea => ?_, S.nd, S.nf, fun a v e => ?_, fun a ob e => ?_, fun a v e => ?_, S.ex⟩
  · have q := S.at_ n x a e ea
    cases ow : x.own with
    | true =>
      have q := q.stay Le.rfl (upd_ne (o := u) (ne_of e ea ow))
      cases x with
      | lst xs => obtain ⟨vs, r, q⟩ := q; exact ⟨vs, r.fz, q⟩
      | dic xs => obtain ⟨vs, r, q⟩ := q; exact ⟨vs, r.fz, q⟩
      | lck xs => obtain ⟨vs, ob, r, q⟩ := q; exact ⟨vs, ob, r.fz, q⟩
      | ins c xs => obtain ⟨dx, vs, r, q⟩ := q; exact ⟨dx, vs, r.fz, q⟩
      | exn c xs => cases ow
      | dead => cases ow
    | false =>
      cases x with
      | exn c fs => obtain ⟨n, d, vs, h1, r, z⟩ := q; exact ⟨n, d, vs, h1, r.fz, z⟩
      | dead => trivial
      | _ => cases ow
  · have ne : a ≠ p := fun z => by rw [z, S.hfn hp] at e; cases e
    rw [upd_ne ne]; exact S.fr a v e
  · by_cases z : a = p
    · subst z; rw [upd_same]; exact fun q => nomatch q
    · rw [upd_ne z]; exact S.lkd a ob e
  · by_cases z : a = p
    · subst z
      have e' : upd f.pv a u a = some v := e
      rw [upd_same] at e'; cases e'
      exact ⟨upd_same, S.hfn hp, fun n o ea e => by
        cases ow : o.own with
        | false => rfl
        | true => exact absurd rfl (ne_of e ea ow)⟩
    · have e' : upd f.pv p u a = some v := e
      rw [upd_ne z] at e' ⊢
      exact S.pv a v e'
/-- its owner changes it -/
theorem Sim.rehide {k : PySem.W.Frag} {f : Gz} {s : Sto} {H : Hp} {p : Addr} {u u' : HO} (S : Sim (k, f.own p u) g s H) : Sim (k, f.own p u') g s (upd H p u') := by
  obtain ⟨h1, h2, h3⟩ := S.pv p u upd_same
  have ne_of : ∀ {n : Nat} {x : O} {a : Addr}, s[n]? = some x → g.al[n]? = some a → x.own = true → a ≠ p := fun {n x a} e ea ow z => by
    subst z
    rw [h3 n x ea e] at ow; cases ow
  refine ⟨S.len, fun n x a e ea => ?_, S.nd, S.nf, fun a v e => ?_, fun a ob e => ?_, fun a v e => ?_, S.ex⟩
  · have q := S.at_ n x a e ea
    cases ow : x.own with
    | true =>
      have q := q.stay Le.rfl (upd_ne (o := u') (ne_of e ea ow))
      cases x with
      | lst xs => obtain ⟨vs, r, q⟩ := q; exact ⟨vs, r.fz, q⟩
      | dic xs => obtain ⟨vs, r, q⟩ := q; exact ⟨vs, r.fz, q⟩
      | lck xs => obtain ⟨vs, ob, r, q⟩ := q; exact ⟨vs, ob, r.fz, q⟩
      | ins c xs => obtain ⟨dx, vs, r, q⟩ := q; exact ⟨dx, vs, r.fz, q⟩
      | exn c xs => cases ow
      | dead => cases ow
    | false =>
      cases x with
      | exn c fs => obtain ⟨n, d, vs, h1, r, z⟩ := q; exact ⟨n, d, vs, h1, r.fz, z⟩
      | dead => trivial
      | _ => cases ow
  · have ne : a ≠ p := fun z => by rw [z, h2] at e; cases e
    rw [upd_ne ne]; exact S.fr a v e
  · by_cases z : a = p
    · subst z; rw [upd_same]; exact fun q => nomatch q
    · rw [upd_ne z]; exact S.lkd a ob e
  · by_cases z : a = p
    · subst z
      have e' : upd f.pv a u' a = some v := e
      rw [upd_same] at e'; cases e'
      exact ⟨upd_same, h2, h3⟩
    · have e' : upd f.pv p u' a = some v := e
      rw [upd_ne z] at e' ⊢
      have := S.pv a v (show upd f.pv p u a = some v by rw [upd_ne z]; exact e')
      exact this
/-- its owner forgets that it is his own -/
theorem Sim.unhide {k : PySem.W.Frag} {f : Gz} {s : Sto} {H : Hp} {p : Addr} {u : HO} (S : Sim (k, f.own p u) g s H) (hf : f.pv p = none) : Sim (k, f) g s H ∧ H p = some u ∧ g.hf p = none ∧ (∀ (n : Nat) (o : O), g.al[n]? = some p → s[n]? = some o → o.own = false) := by
  obtain ⟨h1, h2, h3⟩ := S.pv p u upd_same
  refine ⟨⟨S.len, fun n x a e ea => ?_, S.nd, S.nf, S.fr, S.lkd, fun a v e => ?_, S.ex⟩, h1, h2, h3⟩
  · have q := S.at_ n x a e ea
    cases x with
    | lst xs => obtain ⟨vs, r, q⟩ := q; exact ⟨vs, r.fz, q⟩
    | dic xs => obtain ⟨vs, r, q⟩ := q; exact ⟨vs, r.fz, q⟩
    | lck xs => obtain ⟨vs, ob, r, q⟩ := q; exact ⟨vs, ob, r.fz, q⟩
    | ins c xs => obtain ⟨dx, vs, r, q⟩ := q; exact ⟨dx, vs, r.fz, q⟩
    | exn c fs => obtain ⟨n, d, vs, h1, r, z⟩ := q; exact ⟨n, d, vs, h1, r.fz, z⟩
    | dead => trivial
  · have ne : a ≠ p := fun z => by rw [z, hf] at e; cases e
    exact S.pv a v (show upd f.pv p u a = some v by rw [upd_ne ne]; exact e)
/-- an object that nobody knows of is fixed; becomes one that may change -/
theorem Sim.adopt {s : Sto} {H : Hp} (S : Sim K g s H) {p : Addr} {u : HO} (h1 : H p = some u) (h2 : g.hf p = none) (h3 : ∀ (n : Nat) (o : O), g.al[n]? = some p → s[n]? = some o → o.own = false) (h4 : K.2.pv p = none) (h5 : lockd K.2 p u = u) : Sim K (g.fix p u) s H := by
  have le : Le g (g.fix p u) := le_fix h2
  refine ⟨S.len, fun n x a e ea => ?_, S.nd, fun n a x ea e ow => ?_, fun a v e => ?_, S.lkd, fun a v e => ?_, S.ex⟩
  · have q := S.at_ n x a e ea
    exact q.stay le rfl
  · show upd g.hf p u a = none
    rw [upd_ne (fun z => by subst z; rw [h3 n x ea e] at ow; cases ow)]; exact S.nf n a x ea e ow
  · have e' : upd g.hf p u a = some v := e
    by_cases z : a = p
    · subst z
      rw [upd_same] at e'
      cases e'
      rw [h5]; exact h1
    · rw [upd_ne z] at e'
      exact S.fr a v e'
  · obtain ⟨q1, q2, q3⟩ := S.pv a v e
    refine ⟨q1, ?_, q3⟩
    show upd g.hf p u a = none
    rw [upd_ne (fun z => by rw [z, h4] at e; cases e)]; exact q2
theorem Sim.enter {s : Sto} {H : Hp} (S : Sim K g s H) {p : Addr} {o : O} (h : HAt K (g.snoc p) H p o) (h2 : g.hf p = none) (h3 : ∀ (n : Nat) (o : O), g.al[n]? = some p → s[n]? = some o → o.own = false) (h4 : K.2.pv p = none) (hx : o.isX = false := by rfl) : Sim K (g.snoc p) (s ++ [o]) H := by
  have inv : ∀ {n : Nat} {x : O} {a : Addr}, (s ++ [o])[n]? = some x → (g.snoc p).al[n]? = some a → (n < s.length ∧ s[n]? = some x ∧ g.al[n]? = some a) ∨ (n = s.length ∧ x = o ∧ a = p) := fun {n x a} e ea => by
    by_cases hn : n < s.length
    · rw [List.getElem?_append_left hn] at e
      have : (g.al ++ [p])[n]? = some a := ea
      rw [List.getElem?_append_left (by rw [S.len]; exact hn)] at this
      exact .inl ⟨hn, e, this⟩
    · have hl : n < (s ++ [o]).length := (List.getElem?_eq_some_iff.mp e).1
      have hn' : n = s.length := by simp at hl; omega
      subst hn'
      rw [snoc_at S.len] at ea
      simp at e
      exact .inr ⟨rfl, e.symm, (Option.some.inj ea).symm⟩
  refine ⟨by simp [Gh.snoc, S.len], fun n x a e ea => ?_, fun n m a o1 o2 a1 a2 e1 e2 w1 w2 => ?_, fun n a x ea e ow => ?_, S.fr, S.lkd, fun a v e => ?_, fun n c fs e => ?_⟩
  · rcases inv e ea with ⟨hn, e, ea⟩ | ⟨rfl, rfl, rfl⟩
    · exact (S.at_ n x a e ea).stay (le_snoc _ _) rfl
    · exact h
  · rcases inv e1 a1 with ⟨l1, f1, k1⟩ | ⟨l1, x1, b1⟩ <;> rcases inv e2 a2 with ⟨l2, f2, k2⟩ | ⟨l2, x2, b2⟩
    · exact S.nd n m a o1 o2 k1 k2 f1 f2 w1 w2
    · subst b2; rw [h3 n o1 k1 f1] at w1; cases w1
    · subst b1; rw [h3 m o2 k2 f2] at w2; cases w2
    · omega
  · rcases inv e ea with ⟨hn, e, ea⟩ | ⟨rfl, rfl, rfl⟩
    · exact S.nf n a x ea e ow
    · exact h2
  · obtain ⟨q1, q2, q3⟩ := S.pv a v e
    refine ⟨q1, q2, fun n x ea e' => ?_⟩
    rcases inv e' ea with ⟨hn, e', ea⟩ | ⟨_, _, z⟩
    · exact q3 n x ea e'
    · subst z; rw [h4] at e; cases e
  · by_cases hn : n < s.length
    · rw [List.getElem?_append_left hn] at e; exact S.ex n c fs e
    · have hl : n < (s ++ [o]).length := (List.getElem?_eq_some_iff.mp e).1
      have hn' : n = s.length := by simp at hl; omega
      subst hn'
      simp at e
      subst e; cases hx
/-! ### reading the objects that do not change -/
theorem Sim.sqL {s : Sto} {H : Hp} (S : Sim K g s H) {a : Addr} {vs : List V} {k : PySem.W.Frag} (h : SqL k g.hf a vs) : SqL k H a vs :=
  SqL.up h fun o e n => by rw [S.fr a o e, lockd_other n]
theorem Sim.lstF {s : Sto} {H : Hp} (S : Sim K g s H) {a : Addr} {l : List V} (h : g.hf a = some (.lst l)) : H a = some (.lst l) := by
  rw [S.fr a _ h]
  rfl
theorem Sim.sqT {s : Sto} {H : Hp} (S : Sim K g s H) {a : Addr} {vs : List V} {k : PySem.W.Frag} (h : SqT k g.hf a vs) : SqT k H a vs :=
  SqT.up h fun o e n => by rw [S.fr a o e, lockd_other n]
theorem Sim.rdD {s : Sto} {H : Hp} (S : Sim K g s H) {a : Addr} {l : List (Key × V)} (h : g.hf a = some (.dK l)) : Rd H a (.dK l) := by
  have e := S.fr a _ h
  unfold lockd at e
  split at e
  · rename_i l' ob e1 e2
    cases e1
    exact .inr ⟨_, e⟩
  · exact .inl e
theorem Sim.insF {s : Sto} {H : Hp} (S : Sim K g s H) {a C dx : Addr} {l : List (Str × V)} (h : g.hf a = some (.ins C dx l)) : H a = some (.ins C dx l) := by
  rw [S.fr a _ h]
  rfl
theorem Sim.xdF {s : Sto} {H : Hp} (S : Sim K g s H) {a : Addr} {l : List (Str × V)} (h : g.hf a = some (.xd l)) : H a = some (.xd l) := by
  rw [S.fr a _ h]
  rfl
end Va

/-! Va2: results, what is to hold behind them, readings of functional meanings; the plain rules. -/
namespace Va
open PySem PySem.Spec PyProof.Rows L2

/-- a result: a value and the store behind; an exception (its class's name, its fields); nothing is known -/
inductive R (B : Type) where
  | ok (b : B) (s : Sto) | er (c : Str) (fs : List (Str × W)) (s : Sto) | no
def R.bind {B C : Type} (r : R B) (f : B → Sto → R C) : R C := match r with
  | .ok b s => f b s
  | .er c d s => .er c d s
  | .no => .no
def R.of {B : Type} : Option (B × Sto) → R B
  | some (b, s) => .ok b s
  | none => .no
abbrev Loc := List (Option W)
abbrev ME := Loc → Sto → R W
abbrev MA := Loc → Sto → R (List W)
abbrev MT := Loc → Sto → R Bool

section
variable (K : Kz) (Wx : WX)
def Post {B : Type} (g : Gh) (sg : L2.St) (P : B → Gh → Sto → Hp → Prop) : R B → Prop
  | .ok b s => ∀ (g' : Gh) (H' : Hp), Le g g' → Sim K g' s H' → P b g' s H'
  | .er c fs s => ∀ (g' : Gh) (H' : Hp) (a : Addr) (vs : List (Str × V)), Le g g' → Sim K g' s H' → g'.hf a = some (.xd vs) → RKs K g' fs vs → Wx (.ref (He.ga K.1 c)) (some a) sg H'
  | .no => False
abbrev PW1 (Q : VK) : W → Gh → Sto → Hp → Prop := fun w g' _ H' => ∀ v, RW K g' w v → Q v H'
abbrev PWs (Q : List V → Hp → Prop) : List W → Gh → Sto → Hp → Prop := fun w g' _ H' => ∀ v, RWs K g' w v → Q v H'
def tM (m : ME) : TE := fun sg H Q => ∃ g s ws, Sim K g s H ∧ RSt K g ws sg ∧ Post K Wx g sg (PW1 K Q) (m ws s)
def tMs (m : MA) : TA := fun sg H Q => ∃ g s ws, Sim K g s H ∧ RSt K g ws sg ∧ Post K Wx g sg (PWs K Q) (m ws s)
def tMt (m : MT) : TT := fun sg H Q => ∃ g s ws, Sim K g s H ∧ RSt K g ws sg ∧ Post K Wx g sg (fun b _ _ H' => Q b H') (m ws s)
end
section
variable {K : Kz} {Wx : WX} {g g' : Gh} {sg : L2.St} {B C : Type} {P P' : B → Gh → Sto → Hp → Prop}
theorem Post.mono {r : R B} (h : Post K Wx g sg P r) (p : Le g g') : Post K Wx g' sg P r := by
  cases r with
  | ok b s => exact fun g2 H2 q S => h g2 H2 (p.trans q) S
  | er c fs s => exact fun g2 H2 a vs q S e r => h g2 H2 a vs (p.trans q) S e r
  | no => exact h
theorem Post.imp {r : R B} (h : Post K Wx g sg P r) (f : ∀ b g' s H', Le g g' → Sim K g' s H' → P b g' s H' → P' b g' s H') : Post K Wx g sg P' r := by
  cases r with
  | ok b s => exact fun g2 H2 q S => f b g2 s H2 q S (h g2 H2 q S)
  | er c d s => exact h
  | no => exact h
theorem Post.bind {r : R B} {f : B → Sto → R C} {P : C → Gh → Sto → Hp → Prop} (h : Post K Wx g sg P (r.bind f)) : Post K Wx g sg (fun b g' s' _ => Post K Wx g' sg P (f b s')) r := by
  cases r with
  | ok b s => exact fun g2 H2 q S => (show Post K Wx g sg P (f b s) from h).mono q
  | er c d s => exact h
  | no => exact h
/-- from an option: it is some, and what follows -/
theorem Post.of {o : Option (B × Sto)} (h : Post K Wx g sg P (R.of o)) : ∃ b s, o = some (b, s) ∧ ∀ (g' : Gh) (H' : Hp), Le g g' → Sim K g' s H' → P b g' s H' := by
  cases o with
  | none => exact h.elim
  | some q => exact ⟨q.1, q.2, rfl, h⟩
end

section
variable {X : Cx} {fz : Gz} {Wx : WX}
/-! ### names, constants -/
def mvar (i : Nat) : ME := fun ws s => match ws[i]? with
  | some (some w) => .ok w s
  | _ => .no
def mc (w : W) : ME := fun _ s => .ok w s
theorem pm_var {i : Nat} {x : Str} {pos : Pos} (hN : X.N[i]? = some x) (hv : Vis X.env.scope x) (hd : (x == ("__debug__" : Str)) = false) (hcd : (x == ("__classdict__" : Str)) = false) : PE X (.Name x pos) (tM (X.K, fz) Wx (mvar i)) := by
  refine ⟨fun pins s sg H Q I ⟨g, sw, ws, S, r, h⟩ => ?_⟩
  refine (pe_var hN hv hd hcd).run pins s sg H Q I ?_
  unfold mvar at h
  split at h
  · rename_i w e
    obtain ⟨v, e', q⟩ := r.get e
    exact ⟨v, e', h g H Le.rfl S v q⟩
  · exact h.elim
theorem pm_c {e : Expr} {w : W} {v : V} (he : PE X e (tC v)) (hv : ∀ g, RW (X.K, fz) g w v) : PE X e (tM (X.K, fz) Wx (mc w)) := by
  refine ⟨fun pins s sg H Q I ⟨g, sw, ws, S, r, h⟩ => ?_⟩
  exact he.run pins s sg H Q I (h g H Le.rfl S v (hv g))

/-! ### operators by values -/
abbrev G1 := W → Sto → Option (W × Sto)
abbrev G2 := W → W → Sto → Option (W × Sto)
abbrev Gs := List W → Sto → Option (W × Sto)
def Back (K : Kz) (g : Gh) (w : W) (s : Sto) (Q : VK) : Prop := ∀ (g' : Gh) (H' : Hp), Le g g' → Sim K g' s H' → ∀ v, RW K g' w v → Q v H'
def Lift2 (K : Kz) (r : R2) (f : G2) : Prop := ∀ (g : Gh) (sw s' : Sto) (H : Hp) (w1 w2 w : W) (v1 v2 : V) (Q : VK), Sim K g sw H → RW K g w1 v1 → RW K g w2 v2 → f w1 w2 sw = some (w, s') → Back K g w s' Q → r v1 v2 H Q
def Lift1 (K : Kz) (r : V → Hp → VK → Prop) (f : G1) : Prop := ∀ (g : Gh) (sw s' : Sto) (H : Hp) (w1 w : W) (v1 : V) (Q : VK), Sim K g sw H → RW K g w1 v1 → f w1 sw = some (w, s') → Back K g w s' Q → r v1 H Q
def Lifts (K : Kz) (r : List V → Hp → VK → Prop) (f : Gs) : Prop := ∀ (g : Gh) (sw s' : Sto) (H : Hp) (ws : List W) (w : W) (vs : List V) (Q : VK), Sim K g sw H → RWs K g ws vs → f ws sw = some (w, s') → Back K g w s' Q → r vs H Q
def mbin (f : G2) (a b : ME) : ME := fun ws s => (a ws s).bind fun x s => (b ws s).bind fun y s => R.of (f x y s)
def mun (f : G1) (a : ME) : ME := fun ws s => (a ws s).bind fun x s => R.of (f x s)
def mnil : MA := fun _ s => .ok [] s
def mcons (a : ME) (b : MA) : MA := fun ws s => (a ws s).bind fun x s => (b ws s).bind fun xs s => .ok (x :: xs) s
def mfn (f : Gs) (a : MA) : ME := fun ws s => (a ws s).bind fun xs s => R.of (f xs s)
variable {a b : Expr} {ma mb : ME} {pos : Pos}
/-- two expressions in a row, then what the operator asks -/
theorem two_ok {r : R2} {f : G2} {g : Gh} {sw : Sto} {ws : Loc} {sg : L2.St} {H : Hp} {Q : VK} (L : Lift2 (X.K, fz) r f) (S : Sim (X.K, fz) g sw H) (rs : RSt (X.K, fz) g ws sg) (h : Post (X.K, fz) Wx g sg (PW1 (X.K, fz) Q) (mbin f ma mb ws sw)) :
    tOp r (tM (X.K, fz) Wx ma) (tM (X.K, fz) Wx mb) sg H Q := by
  refine ⟨g, sw, ws, S, rs, h.bind.imp fun x g1 s1 H1 p1 S1 h1 v rv => ?_⟩
  refine ⟨g1, s1, ws, S1, rs.mono p1, h1.bind.imp fun y g2 s2 H2 p2 S2 h2 u ru => ?_⟩
  obtain ⟨w, s', e, q⟩ := h2.of
  exact L g2 s2 s' H2 x y w v u Q S2 (rv.mono p2) ru e q
theorem pm_bin {op : Operator} {r : R2} {f : G2} (ho : OpR X (binaryOp op) r) (L : Lift2 (X.K, fz) r f) (ha : PE X a (tM (X.K, fz) Wx ma)) (hb : PE X b (tM (X.K, fz) Wx mb)) : PE X (.BinOp a op b pos) (tM (X.K, fz) Wx (mbin f ma mb)) :=
  ⟨fun pins s sg H Q I ⟨g, sw, ws, S, rs, h⟩ => (pe_op ho ha hb).run pins s sg H Q I (two_ok L S rs h)⟩
theorem pm_cmp {op : CmpOp} {r : R2} {f : G2} (ho : OpR X (compareOp op) r) (L : Lift2 (X.K, fz) r f) (ha : PE X a (tM (X.K, fz) Wx ma)) (hb : PE X b (tM (X.K, fz) Wx mb)) (hm : behindInMarks op b = false) : PE X (.Compare a [op] [b] pos) (tM (X.K, fz) Wx (mbin f ma mb)) :=
  ⟨fun pins s sg H Q I ⟨g, sw, ws, S, rs, h⟩ => (pe_cmpR ho ha hb hm).run pins s sg H Q I (two_ok L S rs h)⟩
theorem pm_un {op : UnaryOp} {r : V → Hp → VK → Prop} {f : G1} (ho : UnR X (unaryOp op) r) (L : Lift1 (X.K, fz) r f) (ha : PE X a (tM (X.K, fz) Wx ma)) : PE X (.UnaryOp op a pos) (tM (X.K, fz) Wx (mun f ma)) := by
  refine ⟨fun pins s sg H Q I ⟨g, sw, ws, S, rs, h⟩ => (pe_un ho ha).run pins s sg H Q I ?_⟩
  refine ⟨g, sw, ws, S, rs, h.bind.imp fun x g1 s1 H1 p1 S1 h1 v rv => ?_⟩
  obtain ⟨w, s', e, q⟩ := h1.of
  exact L g1 s1 s' H1 x w v Q S1 rv e q
/-! ### argument lists -/
theorem pms_nil : PA X [] (tMs (X.K, fz) Wx mnil) :=
  ⟨fun pos pins s sg H Q I ⟨g, sw, ws, S, rs, h⟩ => pa_nil.run pos pins s sg H Q I (h g H Le.rfl S [] .nil)⟩
theorem pms_cons {e : Expr} {es : List Expr} {me : ME} {ms : MA} (ha : PE X e (tM (X.K, fz) Wx me)) (hr : PA X es (tMs (X.K, fz) Wx ms)) (hs : starEach (e :: es) X.env = (false, eval e X.env) :: starEach es X.env) : PA X (e :: es) (tMs (X.K, fz) Wx (mcons me ms)) := by
  refine ⟨fun pos pins s sg H Q I ⟨g, sw, ws, S, rs, h⟩ => (pa_cons ha hr hs).run pos pins s sg H Q I ?_⟩
  refine ⟨g, sw, ws, S, rs, h.bind.imp fun x g1 s1 H1 p1 S1 h1 v rv => ?_⟩
  refine ⟨g1, s1, ws, S1, rs.mono p1, h1.bind.imp fun xs g2 s2 H2 p2 S2 h2 vs rvs => ?_⟩
  exact h2 g2 H2 Le.rfl S2 (v :: vs) (.cons (rv.mono p2) rvs)
/-! ### new objects, by modes -/
def ok1 (w : W) (s : Sto) : Option (W × Sto) := some (w, s)
/-- a new object that may change -/
def nw (o : O) (s : Sto) : Option (W × Sto) := some (.ref s.length, s ++ [o])
def newL (mu : Bool) (xs : List W) (s : Sto) : Option (W × Sto) := if mu then nw (.lst xs) s else ok1 (.lst xs) s
def newD (mu : Bool) (kvs : List (Key × W)) (s : Sto) : Option (W × Sto) := if mu then nw (.dic kvs) s else ok1 (.dic kvs) s
theorem Back.now {K : Kz} {g : Gh} {w : W} {s : Sto} {H : Hp} {Q : VK} {v : V} (b : Back K g w s Q) (S : Sim K g s H) (r : RW K g w v) : Q v H := b g H Le.rfl S v r
theorem Back.tup {K : Kz} {g : Gh} {xs : List W} {s : Sto} {H : Hp} {Q : VK} {vs : List V} (b : Back K g (.tup xs) s Q) (S : Sim K g s H) (r : RWs K g xs vs) : ∀ p, H p = none → Q (.ref p) (upd H p (.tup vs)) := fun p hp =>
  b (g.fix p (.tup vs)) _ (le_fix (S.hfn hp)) (S.fix hp) _ (.nd (r.mono (le_fix (S.hfn hp))) (SqT.of upd_same))
theorem Back.lst {K : Kz} {g : Gh} {w : W} {xs : List W} {s s' : Sto} {H : Hp} {Q : VK} {vs : List V} {mu : Bool} (b : Back K g w s' Q) (e : newL mu xs s = some (w, s')) (S : Sim K g s H) (r : RWs K g xs vs) : ∀ p, H p = none → Q (.ref p) (upd H p (.lst vs)) := fun p hp => by
  unfold newL at e
  split at e
  · cases e
    exact b (g.snoc p) _ (le_snoc _ _) (S.alloc hp ⟨vs, r.mono (le_snoc _ _), upd_same⟩) _ (.ref (snoc_at S.len p))
  · cases e
    exact b (g.fix p (.lst vs)) _ (le_fix (S.hfn hp)) (S.fix hp) _ (.nd (r.mono (le_fix (S.hfn hp))) upd_same)
theorem Back.dic {K : Kz} {g : Gh} {w : W} {xs : List (Key × W)} {s s' : Sto} {H : Hp} {Q : VK} {vs : List (Key × V)} {mu : Bool} (b : Back K g w s' Q) (e : newD mu xs s = some (w, s')) (S : Sim K g s H) (r : RKs K g xs vs) : ∀ p, H p = none → Q (.ref p) (upd H p (.dK vs)) := fun p hp => by
  unfold newD at e
  split at e
  · cases e
    exact b (g.snoc p) _ (le_snoc _ _) (S.alloc hp ⟨vs, r.mono (le_snoc _ _), upd_same, S.lkn hp⟩) _ (.ref (snoc_at S.len p))
  · cases e
    refine b (g.fix p (.dK vs)) _ (le_fix (S.hfn hp)) (S.fix hp) _ (.nd ((r.split.2).mono (le_fix (S.hfn hp))) ⟨by simp [r.length], ?_⟩)
    rw [r.split.1, zip_maps]
    exact upd_same
/-! ### displays -/
def mtup (a : MA) : ME := fun ws s => (a ws s).bind fun xs s => if xs.length ≤ 16777216 then .ok (.tup xs) s else .no
def mlst (mu : Bool) (a : MA) : ME := fun ws s => (a ws s).bind fun xs s => if xs.length ≤ 16777216 then R.of (newL mu xs s) else .no
variable {es : List Expr} {ms : MA}
theorem line_eq : (sizeLine : Nat) = 16777216 := by decide
theorem pm_tup {x1} (h : PA X es (tMs (X.K, fz) Wx ms)) : PE X (.Tuple es x1 pos) (tM (X.K, fz) Wx (mtup ms)) := by
  refine ⟨fun pins s sg H Q I ⟨g, sw, ws, S, rs, h'⟩ => (pe_tup h).run pins s sg H Q I ?_⟩
  refine ⟨g, sw, ws, S, rs, h'.bind.imp fun xs g1 s1 H1 p1 S1 h1 vs rv => ?_⟩
  split at h1
  · rename_i hl
    exact ⟨by rw [← rv.length, line_eq]; exact hl, Back.tup (s := s1) h1 S1 rv⟩
  · exact h1.elim
theorem pm_lst {mu : Bool} (h : PA X es (tMs (X.K, fz) Wx ms)) : PE X (.List es pos) (tM (X.K, fz) Wx (mlst mu ms)) := by
  refine ⟨fun pins s sg H Q I ⟨g, sw, ws, S, rs, h'⟩ => (pe_lst h).run pins s sg H Q I ?_⟩
  refine ⟨g, sw, ws, S, rs, h'.bind.imp fun xs g1 s1 H1 p1 S1 h1 vs rv => ?_⟩
  split at h1
  · rename_i hl
    obtain ⟨w, s', e, q⟩ := h1.of
    exact ⟨by rw [← rv.length, line_eq]; exact hl, Back.lst q e S1 rv⟩
  · exact h1.elim
/-! ### calls of built-ins -/
variable {x : Str} {id T : String} {p : Pos} {e : Expr}
theorem fn_ok {r : List V → Hp → VK → Prop} {f : Gs} {g : Gh} {sw : Sto} {ws : Loc} {sg : L2.St} {H : Hp} {Q : VK} (L : Lifts (X.K, fz) r f) (S : Sim (X.K, fz) g sw H) (rs : RSt (X.K, fz) g ws sg) (h : Post (X.K, fz) Wx g sg (PW1 (X.K, fz) Q) (mfn f ms ws sw)) :
    tCB r (tMs (X.K, fz) Wx ms) sg H Q := by
  refine ⟨g, sw, ws, S, rs, h.bind.imp fun xs g1 s1 H1 p1 S1 h1 vs rv => ?_⟩
  obtain ⟨w, s', e, q⟩ := h1.of
  exact L g1 s1 s' H1 xs w vs Q S1 rv e q
theorem pm_callB {r : List V → Hp → VK → Prop} {f : Gs} (hc : CallR X (.builtin id) r) (L : Lifts (X.K, fz) r f) (hg : Gl X x) (hm : X.mg x = none) (hv : bootBuiltins x = some (.builtin id)) (ha : PA X (e :: es) (tMs (X.K, fz) Wx ms)) (hn : x ≠ "__name__") (hdb : (x == ("__debug__" : Str)) = false)
    (he : starEach (e :: es) X.env = (false, eval e X.env) :: starEach es X.env) (hpl : (backTo pos (starEach es X.env)).any (·.1) = false) : PE X (.Call (.Name x p) (e :: es) [] pos) (tM (X.K, fz) Wx (mfn f ms)) :=
  ⟨fun pins s sg H Q I ⟨g, sw, ws, S, rs, h⟩ => (pe_callB hc hg hm hv ha hn hdb he hpl).run pins s sg H Q I (fn_ok L S rs h)⟩
theorem pm_callTy {r : List V → Hp → VK → Prop} {f : Gs} (hc : CallR X (.type T) r) (L : Lifts (X.K, fz) r f) (hg : Gl X x) (hm : X.mg x = none) (hv : bootBuiltins x = some (.type T)) (ha : PA X (e :: es) (tMs (X.K, fz) Wx ms)) (hn : x ≠ "__name__") (hdb : (x == ("__debug__" : Str)) = false)
    (he : starEach (e :: es) X.env = (false, eval e X.env) :: starEach es X.env) (hpl : (backTo pos (starEach es X.env)).any (·.1) = false) : PE X (.Call (.Name x p) (e :: es) [] pos) (tM (X.K, fz) Wx (mfn f ms)) :=
  ⟨fun pins s sg H Q I ⟨g, sw, ws, S, rs, h⟩ => (pe_callTy hc hg hm hv ha hn hdb he hpl).run pins s sg H Q I (fn_ok L S rs h)⟩
/-! ### tests -/
def mtru (f : W → Sto → Option Bool) (a : ME) : MT := fun ws s => (a ws s).bind fun x s => match f x s with
  | some b => .ok b s
  | none => .no
def mand (a b : MT) : MT := fun ws s => (a ws s).bind fun c s => if c = true then b ws s else .ok false s
def mor (a b : MT) : MT := fun ws s => (a ws s).bind fun c s => if c = true then .ok true s else b ws s
def mnot (a : MT) : MT := fun ws s => (a ws s).bind fun c s => .ok (!c) s
end
/-! ### what a value shows -/
/-- the items of a list, of a tuple; the pairs of a dict; the class and the fields of an instance -/
def lstAt (s : Sto) : W → Option (List W)
  | .nd .lst xs => some xs
  | .nd .cst xs => some xs
  | .ref n => match s[n]? with
    | some (.lst xs) => some xs
    | _ => none
  | _ => none
/-- a list of one's own -/
def trAt (s : Sto) : W → Option (List W)
  | .nd .lst xs => some xs
  | .ref n => match s[n]? with
    | some (.lst xs) => some xs
    | _ => none
  | _ => none
def tupAt : W → Option (List W)
  | .nd .tup xs => some xs
  | _ => none
def seqAt (s : Sto) (w : W) : Option (List W) := (lstAt s w).or (tupAt w)
def dicAt (s : Sto) : W → Option (List (Key × W))
  | .nd (.dic ks) vs => some (ks.zip vs)
  | .ref n => match s[n]? with
    | some (.dic kvs) => some kvs
    | some (.lck kvs) => some kvs
    | _ => none
  | _ => none
def insAt (s : Sto) : W → Option (Str × List (Str × W))
  | .nd (.ins c ks) vs => some (c, ks.zip vs)
  | .ref n => match s[n]? with
    | some (.ins c fs) => some (c, fs)
    | _ => none
  | _ => none
section
variable {K : Kz} {g : Gh} {s : Sto} {H : Hp}
theorem lstAt_ok {w : W} {v : V} {xs : List W} (S : Sim K g s H) (r : RW K g w v) (h : lstAt s w = some xs) : ∃ a vs, v = .ref a ∧ RWs K g xs vs ∧ SqL K.1 H a vs := by
  unfold lstAt at h
  split at h
  · cases h
    cases r with
    | nd rs f => exact ⟨_, _, rfl, rs, SqL.of (S.lstF f)⟩
  · cases h
    cases r with
    | nd rs f => exact ⟨_, _, rfl, rs, S.sqL f⟩
  · rename_i n
    split at h
    · rename_i ys e
      cases h
      cases r with
      | ref ea =>
        obtain ⟨vs, rs, q⟩ := S.at_ n _ _ e ea
        exact ⟨_, vs, rfl, rs, SqL.of q⟩
    · cases h
  · cases h
theorem trAt_ok {w : W} {v : V} {xs : List W} (S : Sim K g s H) (r : RW K g w v) (h : trAt s w = some xs) : ∃ a vs, v = .ref a ∧ RWs K g xs vs ∧ H a = some (.lst vs) := by
  unfold trAt at h
  split at h
  · cases h
    cases r with
    | nd rs f => exact ⟨_, _, rfl, rs, S.lstF f⟩
  · rename_i n
    split at h
    · rename_i ys e
      cases h
      cases r with
      | ref ea =>
        obtain ⟨vs, rs, q⟩ := S.at_ n _ _ e ea
        exact ⟨_, vs, rfl, rs, q⟩
    · cases h
  · cases h
theorem tupAt_ok {w : W} {v : V} {xs : List W} (S : Sim K g s H) (r : RW K g w v) (h : tupAt w = some xs) : ∃ a vs, v = .ref a ∧ RWs K g xs vs ∧ SqT K.1 H a vs := by
  unfold tupAt at h
  split at h
  · cases h
    cases r with
    | nd rs f => exact ⟨_, _, rfl, rs, S.sqT f⟩
  · cases h
theorem seqAt_ok {w : W} {v : V} {xs : List W} (S : Sim K g s H) (r : RW K g w v) (h : seqAt s w = some xs) : ∃ a vs, v = .ref a ∧ RWs K g xs vs ∧ (SqL K.1 H a vs ∨ SqT K.1 H a vs) := by
  unfold seqAt at h
  cases e : lstAt s w with
  | some ys =>
    rw [e] at h
    cases h
    obtain ⟨a, vs, h1, h2, h3⟩ := lstAt_ok S r e
    exact ⟨a, vs, h1, h2, .inl h3⟩
  | none =>
    rw [e] at h
    obtain ⟨a, vs, h1, h2, h3⟩ := tupAt_ok S r h
    exact ⟨a, vs, h1, h2, .inr h3⟩
theorem dicAt_ok {w : W} {v : V} {kvs : List (Key × W)} (S : Sim K g s H) (r : RW K g w v) (h : dicAt s w = some kvs) : ∃ a vs, v = .ref a ∧ RKs K g kvs vs ∧ Rd H a (.dK vs) := by
  unfold dicAt at h
  split at h
  · cases h
    cases r with
    | nd rs f =>
      obtain ⟨hl, f⟩ := f
      exact ⟨_, _, rfl, RKs.zip hl rs, S.rdD f⟩
  · rename_i n
    split at h
    · rename_i ys e
      cases h
      cases r with
      | ref ea =>
        obtain ⟨vs, rs, q, _⟩ := S.at_ n _ _ e ea
        exact ⟨_, vs, rfl, rs, .inl q⟩
    · rename_i ys e
      cases h
      cases r with
      | ref ea =>
        obtain ⟨vs, ob, rs, _, q⟩ := S.at_ n _ _ e ea
        exact ⟨_, vs, rfl, rs, .inr ⟨_, q⟩⟩
    · cases h
  · cases h
theorem insAt_ok {w : W} {v : V} {c : Str} {fs : List (Str × W)} (S : Sim K g s H) (r : RW K g w v) (h : insAt s w = some (c, fs)) : ∃ a dx vs, v = .ref a ∧ RKs K g fs vs ∧ H a = some (.ins (He.ga K.1 c) dx vs) := by
  unfold insAt at h
  split at h
  · cases h
    cases r with
    | nd rs f =>
      obtain ⟨hl, dx, f⟩ := f
      exact ⟨_, dx, _, rfl, RKs.zip hl rs, S.insF f⟩
  · rename_i n
    split at h
    · rename_i c' fs' e
      cases h
      cases r with
      | ref ea =>
        obtain ⟨dx, vs, rs, q⟩ := S.at_ n _ _ e ea
        exact ⟨_, dx, vs, rfl, rs, q⟩
    · cases h
  · cases h
/-- a list that may change -/
def muAt (s : Sto) : W → Option (Nat × List W)
  | .ref n => match s[n]? with
    | some (.lst xs) => some (n, xs)
    | _ => none
  | _ => none
def muDic (s : Sto) : W → Option (Nat × List (Key × W))
  | .ref n => match s[n]? with
    | some (.dic xs) => some (n, xs)
    | _ => none
  | _ => none
theorem muAt_ok {w : W} {v : V} {n : Nat} {xs : List W} (S : Sim K g s H) (r : RW K g w v) (h : muAt s w = some (n, xs)) : w = .ref n ∧ s[n]? = some (.lst xs) ∧ ∃ a vs, v = .ref a ∧ g.al[n]? = some a ∧ RWs K g xs vs ∧ H a = some (.lst vs) := by
  unfold muAt at h
  split at h
  · split at h
    · rename_i e
      cases h
      cases r with
      | ref ea =>
        obtain ⟨vs, rs, q⟩ := S.at_ n _ _ e ea
        exact ⟨rfl, e, _, vs, rfl, ea, rs, q⟩
    · cases h
  · cases h
theorem muDic_ok {w : W} {v : V} {n : Nat} {xs : List (Key × W)} (S : Sim K g s H) (r : RW K g w v) (h : muDic s w = some (n, xs)) : w = .ref n ∧ s[n]? = some (.dic xs) ∧ ∃ a vs, v = .ref a ∧ g.al[n]? = some a ∧ RKs K g xs vs ∧ H a = some (.dK vs) ∧ K.2.lk a = none := by
  unfold muDic at h
  split at h
  · split at h
    · rename_i e
      cases h
      cases r with
      | ref ea =>
        obtain ⟨vs, rs, q⟩ := S.at_ n _ _ e ea
        exact ⟨rfl, e, _, vs, rfl, ea, rs, q⟩
    · cases h
  · cases h
/-- the truth of a value -/
def gtru : W → Sto → Option Bool
  | .non, _ => some false
  | .bl b, _ => some b
  | .int i, _ => some (i != 0)
  | .str x, _ => if x.length ≤ 16777216 then some (x.length != 0) else none
  | w, s => match seqAt s w with
    | some xs => some (!xs.isEmpty)
    | none => none
end
end Va

/-! Vat: what was made meanwhile does not change any more (but what is kept): it becomes a tree, its places are given back. -/
namespace Va
open PySem PySem.Spec PyProof.Rows L2
mutual
def fzT (n0 : Nat) (f : Nat → Option W) : W → Option W
  | .ref n => if n < n0 then some (.ref n) else f n
  | .nd t xs => (fzTs n0 f xs).map (W.nd t)
  | w => some w
def fzTs (n0 : Nat) (f : Nat → Option W) : List W → Option (List W)
  | [] => some []
  | x :: xs => match fzT n0 f x, fzTs n0 f xs with
    | some y, some ys => some (y :: ys)
    | _, _ => none
end
def placeIn : List Nat → Nat → Option Nat
  | [], _ => none
  | a :: r, n => if a = n then some 0 else (placeIn r n).map (· + 1)
def fzN (s : Sto) (n0 : Nat) (kept : List Nat) : Nat → Nat → Option W
  | 0, _ => none
  | k + 1, n => match placeIn kept n with
    | some j => some (.ref (n0 + j))
    | none => match s[n]? with
      | some (.lst xs) => (fzTs n0 (fzN s n0 kept k) xs).map W.lst
      | some (.dic kvs) => (fzTs n0 (fzN s n0 kept k) (kvs.map (·.2))).map (W.nd (.dic (kvs.map (·.1))))
      | some (.ins c fs) => (fzTs n0 (fzN s n0 kept k) (fs.map (·.2))).map (W.nd (.ins c (fs.map (·.1))))
      | _ => none
def fzK {κ : Type} (n0 : Nat) (f : Nat → Option W) (kvs : List (κ × W)) : Option (List (κ × W)) := (fzTs n0 f (kvs.map (·.2))).map fun ys => (kvs.map (·.1)).zip ys
def fzO (n0 : Nat) (f : Nat → Option W) : O → Option O
  | .lst xs => (fzTs n0 f xs).map O.lst
  | .dic kvs => (fzK n0 f kvs).map O.dic
  | .lck kvs => (fzK n0 f kvs).map O.lck
  | .ins c fs => (fzK n0 f fs).map (O.ins c)
  | .exn c fs => (fzK n0 f fs).map (O.exn c)
  | .dead => some .dead
def trimO (s s' : Sto) (f : Nat → Option W) (i : Nat) : Option O := if s'[i]? = s[i]? then s[i]? else (s'[i]?).bind (fzO s.length f)
def seqO {α : Type} : List (Option α) → Option (List α)
  | [] => some []
  | some x :: r => (seqO r).map (x :: ·)
  | none :: _ => none
def ownAt (s : Sto) (n : Nat) : Bool := match s[n]? with
  | some o => o.own
  | none => false
/-- the store and the values behind: kept stays as objects that may change -/
def trimL (s s' : Sto) (kept : List Nat) (ws : List W) : Option (List W × Sto) :=
  let f := fzN s' s.length kept 24
  if kept.Nodup ∧ (∀ n ∈ kept, s.length ≤ n ∧ ownAt s' n = true) then
    match fzTs s.length f ws, seqO ((List.range s.length).map (trimO s s' f)), seqO (kept.map fun n => (s'[n]?).bind (fzO s.length f)) with
    | some ys, some u, some os => some (ys, u ++ os)
    | _, _, _ => none
  else none
mutual
def kpT (s : Sto) (n0 : Nat) (f : Nat → List Nat) : W → List Nat
  | .ref n => if n < n0 then [] else f n
  | .nd _ xs => kpTs s n0 f xs
  | _ => []
def kpTs (s : Sto) (n0 : Nat) (f : Nat → List Nat) : List W → List Nat
  | [] => []
  | x :: xs => kpT s n0 f x ++ kpTs s n0 f xs
end
/-- the objects to the depth d, the inner ones first -/
def kpN (s : Sto) (n0 : Nat) : Nat → Nat → List Nat
  | 0, _ => []
  | d + 1, n => match s[n]? with
    | some (.lst xs) => kpTs s n0 (kpN s n0 d) xs ++ [n]
    | some (.dic kvs) => kpTs s n0 (kpN s n0 d) (kvs.map (·.2)) ++ [n]
    | some (.ins _ fs) => kpTs s n0 (kpN s n0 d) (fs.map (·.2)) ++ [n]
    | _ => []
def okOf : Option (List W × Sto) → R W
  | some ([y], u) => .ok y u
  | _ => .no
def erOf (c : Str) (ks : List Str) : Option (List W × Sto) → R W
  | some (ys, u) => .er c (ks.zip ys) u
  | none => .no
def R.trim (d : Nat) (s : Sto) : R W → R W
  | .ok w s' => okOf (trimL s s' (kpT s' s.length (kpN s' s.length d) w) [w])
  | .er c fs s' => erOf c (fs.map (·.1)) (trimL s s' [] (fs.map (·.2)))
  | .no => .no
def mtrim (d : Nat) (m : ME) : ME := fun ws s => (m ws s).trim d s

section
theorem fzTs_len {n0 : Nat} {f : Nat → Option W} : ∀ {xs ys : List W}, fzTs n0 f xs = some ys → ys.length = xs.length
  | [], _, e => by rw [fzTs] at e; cases e; rfl
  | x :: xs, _, e => by
    rw [fzTs] at e
    split at e
    · rename_i y ys e1 e2
      cases e
      simp [fzTs_len e2]
    · cases e
theorem placeIn_get : ∀ {l : List Nat} {n j : Nat}, placeIn l n = some j → l[j]? = some n
  | [], _, _, e => nomatch e
  | a :: r, n, j, e => by
    unfold placeIn at e
    split at e
    · rename_i h; cases e; simp [h]
    · obtain ⟨k, e1, e2⟩ := Option.map_eq_some_iff.mp e
      subst e2
      simpa using placeIn_get e1
theorem placeIn_none : ∀ {l : List Nat} {n : Nat}, placeIn l n = none → n ∉ l
  | [], _, _ => by simp
  | a :: r, n, e => by
    unfold placeIn at e
    split at e
    · cases e
    · rename_i h
      have := placeIn_none (l := r) (n := n) (by simpa using e)
      simp [Ne.symm h, this]
theorem seqO_get {α : Type} : ∀ {l : List (Option α)} {r : List α}, seqO l = some r → r.length = l.length ∧ ∀ (i : Nat) (x : α), r[i]? = some x → l[i]? = some (some x)
  | [], _, e => by cases e; exact ⟨rfl, fun i x h => by simp at h⟩
  | some y :: l, r, e => by
    unfold seqO at e
    obtain ⟨t, e1, rfl⟩ := Option.map_eq_some_iff.mp e
    obtain ⟨h1, h2⟩ := seqO_get e1
    refine ⟨by simp [h1], fun i x h => ?_⟩
    cases i with
    | zero => simp at h; subst h; rfl
    | succ i => simpa using h2 i x (by simpa using h)
  | none :: l, _, e => nomatch e
variable {K : Kz} {g0 g1 g2 : Gh} {H H' : Hp} {s s' : Sto} {f : Nat → Option W} {n0 : Nat}
mutual
/-- a value of before has only places of before -/
theorem fzT_id {w : W} {v : V} (hl : g0.al.length = n0) : RW K g0 w v → fzT n0 f w = some w
  | .non => by simp [fzT]
  | .bl => by simp [fzT]
  | .int => by simp [fzT]
  | .str => by simp [fzT]
  | .ref h => by
    rw [fzT, if_pos]
    rw [← hl]; exact (List.getElem?_eq_some_iff.mp h).1
  | .gl => by simp [fzT]
  | .ty => by simp [fzT]
  | .nd h _ => by rw [fzT, fzTs_id hl h]; rfl
theorem fzTs_id {ws : List W} {vs : List V} (hl : g0.al.length = n0) : RWs K g0 ws vs → fzTs n0 f ws = some ws
  | .nil => by rw [fzTs]
  | .cons a b => by rw [fzTs, fzT_id hl a, fzTs_id hl b]
end
theorem fzK_id {κ : Type} {kvs : List (κ × W)} {vs : List (κ × V)} (hl : g0.al.length = n0) (r : RKs K g0 kvs vs) : fzK n0 f kvs = some kvs := by
  unfold fzK
  rw [fzTs_id hl r.split.2]
  simp [zip_maps]
theorem fzO_id {o : O} {a : Addr} (hl : g0.al.length = n0) (h : HAt K g0 H a o) : fzO n0 f o = some o := by
  cases o with
  | lst xs => obtain ⟨vs, r, _⟩ := h; show (fzTs n0 f xs).map O.lst = _; rw [fzTs_id hl r]; rfl
  | dic xs => obtain ⟨vs, r, _⟩ := h; show (fzK n0 f xs).map O.dic = _; rw [fzK_id hl r]; rfl
  | lck xs => obtain ⟨vs, ob, r, _⟩ := h; show (fzK n0 f xs).map O.lck = _; rw [fzK_id hl r]; rfl
  | ins c xs => obtain ⟨dx, vs, r, _⟩ := h; show (fzK n0 f xs).map (O.ins c) = _; rw [fzK_id hl r]; rfl
  | exn c xs => obtain ⟨n, d, vs, _, r, _⟩ := h; show (fzK n0 f xs).map (O.exn c) = _; rw [fzK_id hl r]; rfl
  | dead => rfl
/-- how the places of before stand in the two records -/
structure Two (K : Kz) (g1 g2 : Gh) (n0 : Nat) : Prop where
  lo : ∀ (n : Nat) (a : Addr), n < n0 → g1.al[n]? = some a → g2.al[n]? = some a
  hf : ∀ a o, g1.hf a = some o → g2.hf a = some o
mutual
theorem fzT_ok (T : Two K g1 g2 n0) (hf : ∀ n y, n0 ≤ n → f n = some y → ∀ v, RW K g1 (.ref n) v → RW K g2 y v) {w y : W} {v : V} (e : fzT n0 f w = some y) : RW K g1 w v → RW K g2 y v
  | .non => by simp [fzT] at e; subst e; exact .non
  | .bl => by simp [fzT] at e; subst e; exact .bl
  | .int => by simp [fzT] at e; subst e; exact .int
  | .str => by simp [fzT] at e; subst e; exact .str
  | .gl => by simp [fzT] at e; subst e; exact .gl
  | .ty => by simp [fzT] at e; subst e; exact .ty
  | .ref h => by
    rw [fzT] at e
    split at e
    · rename_i hn; cases e; exact .ref (T.lo _ _ hn h)
    · rename_i hn; exact hf _ _ (Nat.le_of_not_lt hn) e _ (.ref h)
  | .nd h fr => by
    rw [fzT] at e
    obtain ⟨ys, e1, rfl⟩ := Option.map_eq_some_iff.mp e
    exact .nd (fzTs_ok T hf e1 h) (fr.up (T.hf _))
theorem fzTs_ok (T : Two K g1 g2 n0) (hf : ∀ n y, n0 ≤ n → f n = some y → ∀ v, RW K g1 (.ref n) v → RW K g2 y v) {ws ys : List W} {vs : List V} (e : fzTs n0 f ws = some ys) : RWs K g1 ws vs → RWs K g2 ys vs
  | .nil => by rw [fzTs] at e; cases e; exact .nil
  | .cons a b => by
    rw [fzTs] at e
    split at e
    · rename_i y ys' e1 e2
      cases e
      exact .cons (fzT_ok T hf e1 a) (fzTs_ok T hf e2 b)
    · cases e
end
theorem RKs.of_split {κ : Type} : ∀ {kws : List (κ × W)} {kvs : List (κ × V)}, kws.map (·.1) = kvs.map (·.1) → RWs K g1 (kws.map (·.2)) (kvs.map (·.2)) → RKs K g1 kws kvs
  | [], [], _, _ => .nil
  | [], _ :: _, h, _ => by simp at h
  | _ :: _, [], h, _ => by simp at h
  | (k, w) :: kws, (k', v) :: kvs, h, r => by
    simp at h
    obtain ⟨h1, h2⟩ := h
    subst h1
    cases r with
    | cons a b => exact .cons a (RKs.of_split h2 b)
theorem fzK_ok {κ : Type} (T : Two K g1 g2 n0) (hf : ∀ n y, n0 ≤ n → f n = some y → ∀ v, RW K g1 (.ref n) v → RW K g2 y v) {kws kys : List (κ × W)} {kvs : List (κ × V)} (e : fzK n0 f kws = some kys) (r : RKs K g1 kws kvs) : RKs K g2 kys kvs := by
  unfold fzK at e
  obtain ⟨ys, e1, rfl⟩ := Option.map_eq_some_iff.mp e
  have hl := fzTs_len e1
  have q := fzTs_ok T hf e1 r.split.2
  rw [List.length_map] at hl
  refine RKs.of_split ?_ ?_
  · rw [List.map_fst_zip (by rw [List.length_map]; omega)]; exact r.split.1
  · rw [List.map_snd_zip (by rw [List.length_map]; omega)]; exact q
theorem fzO_ok (T : Two K g1 g2 n0) (hf : ∀ n y, n0 ≤ n → f n = some y → ∀ v, RW K g1 (.ref n) v → RW K g2 y v) {o o' : O} {a : Addr} (e : fzO n0 f o = some o') (h : HAt K g1 H a o) : HAt K g2 H a o' ∧ o'.own = o.own ∧ (∀ c fs, o' = .exn c fs → ∃ fs', o = .exn c fs') := by
  cases o with
  | lst xs => obtain ⟨vs, r, q⟩ := h; obtain ⟨ys, e1, rfl⟩ := Option.map_eq_some_iff.mp e; exact ⟨⟨vs, fzTs_ok T hf e1 r, q⟩, rfl, fun _ _ z => nomatch z⟩
  | dic xs => obtain ⟨vs, r, q⟩ := h; obtain ⟨ys, e1, rfl⟩ := Option.map_eq_some_iff.mp e; exact ⟨⟨vs, fzK_ok T hf e1 r, q⟩, rfl, fun _ _ z => nomatch z⟩
  | lck xs => obtain ⟨vs, ob, r, q⟩ := h; obtain ⟨ys, e1, rfl⟩ := Option.map_eq_some_iff.mp e; exact ⟨⟨vs, ob, fzK_ok T hf e1 r, q⟩, rfl, fun _ _ z => nomatch z⟩
  | ins c xs => obtain ⟨dx, vs, r, q⟩ := h; obtain ⟨ys, e1, rfl⟩ := Option.map_eq_some_iff.mp e; exact ⟨⟨dx, vs, fzK_ok T hf e1 r, q⟩, rfl, fun _ _ z => nomatch z⟩
  | exn c xs => obtain ⟨n, d, vs, q, r, q2⟩ := h; obtain ⟨ys, e1, rfl⟩ := Option.map_eq_some_iff.mp e; exact ⟨⟨n, d, vs, q, fzK_ok T hf e1 r, T.hf _ _ q2⟩, rfl, fun c' fs z => by cases z; exact ⟨_, rfl⟩⟩
  | dead => cases e; exact ⟨trivial, rfl, fun _ _ z => nomatch z⟩
/-- what becomes fixed: the objects made meanwhile that are not kept -/
def Freed (g1 : Gh) (s' : Sto) (n0 : Nat) (kept : List Nat) (a : Addr) : Prop := ∃ n o, n0 ≤ n ∧ n ∉ kept ∧ g1.al[n]? = some a ∧ s'[n]? = some o ∧ o.own = true ∧ (∀ l, o ≠ .lck l)
open Classical in
noncomputable def hfOf (g1 : Gh) (s' : Sto) (n0 : Nat) (kept : List Nat) (H' : Hp) : Hp := fun a => match g1.hf a with
  | some u => some u
  | none => if Freed g1 s' n0 kept a then H' a else none
noncomputable def ghOf (g0 g1 : Gh) (s' : Sto) (n0 : Nat) (kept : List Nat) (H' : Hp) : Gh := ⟨g0.al ++ kept.map fun n => (g1.al[n]?).getD (0 : Nat), hfOf g1 s' n0 kept H'⟩
theorem hfOf_old {kept : List Nat} {a : Addr} {u : HO} (h : g1.hf a = some u) : hfOf g1 s' n0 kept H' a = some u := by
  unfold hfOf; rw [h]
theorem hfOf_new {kept : List Nat} {a : Addr} (h : g1.hf a = none) (f : Freed g1 s' n0 kept a) : hfOf g1 s' n0 kept H' a = H' a := by
  unfold hfOf; rw [h]; exact if_pos f
theorem trim_ok {kept : List Nat} {ws ys : List W} {u : Sto} (S0 : Sim K g0 s H) (le : Le g0 g1) (S1 : Sim K g1 s' H') (e : trimL s s' kept ws = some (ys, u)) :
    ∃ g2, Le g0 g2 ∧ Sim K g2 u H' ∧ (∀ a o, g1.hf a = some o → g2.hf a = some o) ∧ ∀ vs, RWs K g1 ws vs → RWs K g2 ys vs := by
  unfold trimL at e
  simp only at e
  split at e
  · rename_i hk
    obtain ⟨hnd, hkept⟩ := hk
    split at e
    · rename_i ys' u0 os e1 e2 e3
      cases e
      have l0 : g0.al.length = s.length := S0.len
      obtain ⟨t, ht⟩ := le.al
      have al_lo : ∀ (n : Nat) (a : Addr), n < s.length → g1.al[n]? = some a → g0.al[n]? = some a := fun n a hn h => by
        rw [← ht, List.getElem?_append_left (by rw [l0]; exact hn)] at h; exact h
      have kal : ∀ n ∈ kept, ∃ a o, g1.al[n]? = some a ∧ s'[n]? = some o ∧ o.own = true := fun n hn => by
        have := (hkept n hn).2
        unfold ownAt at this
        split at this
        · rename_i o eo
          obtain ⟨a, ha, _⟩ := S1.get eo
          exact ⟨a, o, ha, eo, this⟩
        · cases this
      generalize hg2 : ghOf g0 g1 s' s.length kept H' = g2
      have at_kept : ∀ (j n : Nat) (a : Addr), kept[j]? = some n → g1.al[n]? = some a → g2.al[s.length + j]? = some a := fun j n a hj ha => by
        rw [← hg2]
        show (g0.al ++ kept.map fun n => (g1.al[n]?).getD (0 : Nat))[s.length + j]? = some a
        rw [List.getElem?_append_right (by omega), l0, Nat.add_sub_cancel_left, List.getElem?_map, hj]
        simp [ha]
      have T : Two K g1 g2 s.length := by
        refine ⟨fun n a hn h => ?_, fun a o h => ?_⟩
        · rw [← hg2]
          show (g0.al ++ _)[n]? = some a
          rw [List.getElem?_append_left (by rw [l0]; exact hn)]
          exact al_lo n a hn h
        · rw [← hg2]; exact hfOf_old h
      have fixed : ∀ {n : Nat} {a : Addr} {o : O}, s.length ≤ n → n ∉ kept → g1.al[n]? = some a → s'[n]? = some o → o.own = true → (∀ l, o ≠ .lck l) → g2.hf a = H' a := fun {n a o} h1 h2 h3 h4 h5 h6 => by
        rw [← hg2]
        exact hfOf_new (S1.nf n a o h3 h4 h5) ⟨n, o, h1, h2, h3, h4, h5, h6⟩
      have hN : ∀ (k n : Nat) (y : W), s.length ≤ n → fzN s' s.length kept k n = some y → ∀ v, RW K g1 (.ref n) v → RW K g2 y v := by
        intro k
        induction k with
        | zero => intro n y _ e; cases e
        | succ k ih =>
          intro n y hn e v r
          cases r with
          | ref ea =>
            unfold fzN at e
            split at e
            · rename_i j ej
              cases e
              exact .ref (at_kept _ _ _ (placeIn_get ej) ea)
            · rename_i en
              have nk := placeIn_none en
              split at e
              · rename_i xs eo
                obtain ⟨zs, e5, rfl⟩ := Option.map_eq_some_iff.mp e
                obtain ⟨vs, rv, q⟩ := S1.at_ n _ _ eo ea
                exact .nd (fzTs_ok T (fun n y h e v r => ih n y h e v r) e5 rv) ((fixed hn nk ea eo rfl (fun _ z => nomatch z)).trans q)
              · rename_i kvs eo
                obtain ⟨zs, e5, rfl⟩ := Option.map_eq_some_iff.mp e
                obtain ⟨vs, rv, q, _⟩ := S1.at_ n _ _ eo ea
                refine .nd (fzTs_ok T (fun n y h e v r => ih n y h e v r) e5 rv.split.2) ⟨by simp [rv.length], ?_⟩
                rw [rv.split.1, zip_maps]
                exact (fixed hn nk ea eo rfl (fun _ z => nomatch z)).trans q
              · rename_i c fs eo
                obtain ⟨zs, e5, rfl⟩ := Option.map_eq_some_iff.mp e
                obtain ⟨dx, vs, rv, q⟩ := S1.at_ n _ _ eo ea
                refine .nd (fzTs_ok T (fun n y h e v r => ih n y h e v r) e5 rv.split.2) ⟨by simp [rv.length], dx, ?_⟩
                rw [rv.split.1, zip_maps]
                exact (fixed hn nk ea eo rfl (fun _ z => nomatch z)).trans q
              · cases e
      have hN24 := hN 24
      obtain ⟨lu, gu⟩ := seqO_get e2
      obtain ⟨lo, go⟩ := seqO_get e3
      have lu' : u0.length = s.length := by rw [lu]; simp
      have lo' : os.length = kept.length := by rw [lo]; simp
      -- where an object of the new store stood
      have where_ : ∀ (i : Nat) (o : O), (u0 ++ os)[i]? = some o → ∃ m o1, s'[m]? = some o1 ∧ fzO s.length (fzN s' s.length kept 24) o1 = some o ∧ ((i < s.length ∧ m = i) ∨ (s.length ≤ i ∧ kept[i - s.length]? = some m)) := fun i o h => by
        by_cases hi : i < s.length
        · rw [List.getElem?_append_left (by rw [lu']; exact hi)] at h
          have q := gu i o h
          rw [List.getElem?_map, List.getElem?_range hi] at q
          simp only [Option.map_some, Option.some.injEq] at q
          unfold trimO at q
          split at q
          · rename_i hs
            refine ⟨i, o, hs.trans q, ?_, .inl ⟨hi, rfl⟩⟩
            obtain ⟨a, ha, hat⟩ := S0.get q
            exact fzO_id l0 hat
          · obtain ⟨o1, h1, h2⟩ := Option.bind_eq_some_iff.mp q
            exact ⟨i, o1, h1, h2, .inl ⟨hi, rfl⟩⟩
        · rw [List.getElem?_append_right (by omega), lu'] at h
          have q := go _ o h
          rw [List.getElem?_map] at q
          obtain ⟨m, hm, q⟩ := Option.map_eq_some_iff.mp q
          obtain ⟨o1, h1, h2⟩ := Option.bind_eq_some_iff.mp q
          exact ⟨m, o1, h1, h2, .inr ⟨by omega, hm⟩⟩
      have addr_ : ∀ (i m : Nat) (a : Addr) (o1 : O), g2.al[i]? = some a → s'[m]? = some o1 → ((i < s.length ∧ m = i) ∨ (s.length ≤ i ∧ kept[i - s.length]? = some m)) → g1.al[m]? = some a := fun i m a o1 ha ho w => by
        obtain ⟨b, hb, _⟩ := S1.get ho
        rcases w with ⟨hi, rfl⟩ | ⟨hi, hm⟩
        · have := T.lo _ _ hi hb
          rw [ha] at this; cases this; exact hb
        · have := at_kept _ _ _ hm hb
          rw [Nat.add_sub_cancel' hi, ha] at this; cases this; exact hb
      refine ⟨g2, ⟨?_, fun a o h => T.hf a o (le.hf a o h)⟩, ?_, T.hf, fun vs r => fzTs_ok T (fun n y h e v r => hN24 n y h e v r) e1 r⟩
      · rw [← hg2]; exact ⟨_, rfl⟩
      · refine ⟨?_, fun i o a h ha => ?_, fun i j a o1 o2 a1 a2 h1 h2 w1 w2 => ?_, fun i a o ha h w => ?_, fun a v h => ?_, S1.lkd, fun a v h => ?_, fun i c fs h => ?_⟩
        · rw [← hg2]
          show (g0.al ++ _).length = _
          simp [l0, lu', lo']
        · obtain ⟨m, o1, h1, h2, w⟩ := where_ i o h
          exact (fzO_ok T (fun n y h e v r => hN24 n y h e v r) h2 (S1.at_ m o1 a h1 (addr_ i m a o1 ha h1 w))).1
        · obtain ⟨m1, p1, b1, c1, d1⟩ := where_ i o1 h1
          obtain ⟨m2, p2, b2, c2, d2⟩ := where_ j o2 h2
          have x1 := addr_ i m1 a p1 a1 b1 d1
          have x2 := addr_ j m2 a p2 a2 b2 d2
          have y1 := (fzO_ok T (fun n y h e v r => hN24 n y h e v r) c1 (S1.at_ m1 p1 a b1 x1)).2.1
          have y2 := (fzO_ok T (fun n y h e v r => hN24 n y h e v r) c2 (S1.at_ m2 p2 a b2 x2)).2.1
          have em := S1.nd m1 m2 a p1 p2 x1 x2 b1 b2 (by rw [← y1]; exact w1) (by rw [← y2]; exact w2)
          subst em
          rcases d1 with ⟨hi, rfl⟩ | ⟨hi, k1⟩ <;> rcases d2 with ⟨hj, z2⟩ | ⟨hj, k2⟩
          · exact z2
          · have := (hkept _ (List.mem_of_getElem? k2)).1
            omega
          · have := (hkept _ (List.mem_of_getElem? k1)).1
            omega
          · have i1 := (List.getElem?_eq_some_iff.mp k1).1
            have := (List.getElem?_inj i1 hnd).mp (k1.trans k2.symm)
            omega
        · obtain ⟨m, o1, b1, c1, d1⟩ := where_ i o h
          have x1 := addr_ i m a o1 ha b1 d1
          have y1 := (fzO_ok T (fun n y h e v r => hN24 n y h e v r) c1 (S1.at_ m o1 a b1 x1)).2.1
          have ow : o1.own = true := by rw [← y1]; exact w
          rw [← hg2]
          show hfOf g1 s' s.length kept H' a = none
          unfold hfOf
          rw [S1.nf m a o1 x1 b1 ow]
          refine if_neg ?_
          rintro ⟨n, o2, hn, nk, ha2, ho2, w2, _⟩
          have em := S1.nd n m a o2 o1 ha2 x1 ho2 b1 w2 ow
          subst em
          rcases d1 with ⟨hi, rfl⟩ | ⟨hi, k1⟩
          · omega
          · exact nk (List.mem_of_getElem? k1)
        · rw [← hg2] at h
          have h : hfOf g1 s' s.length kept H' a = some v := h
          unfold hfOf at h
          split at h
          · rename_i u' eu
            cases h
            exact S1.fr a _ eu
          · split at h
            · rename_i hf
              obtain ⟨n, o2, hn, nk, ha2, ho2, w2, nl⟩ := hf
              rw [h]
              have q := S1.at_ n o2 a ho2 ha2
              cases o2 with
              | dic l => obtain ⟨vs, r, q, l⟩ := q; rw [lockd_none l]
              | lst l => obtain ⟨vs, r, q⟩ := q; rw [h] at q; cases q; rfl
              | ins c l => obtain ⟨dx, vs, r, q⟩ := q; rw [h] at q; cases q; rfl
              | lck l => exact absurd rfl (nl l)
              | exn c l => cases w2
              | dead => cases w2
            · cases h
        · obtain ⟨q1, q2, q3⟩ := S1.pv a v h
          refine ⟨q1, ?_, fun i o ha h => ?_⟩
          · rw [← hg2]
            show hfOf g1 s' s.length kept H' a = none
            unfold hfOf
            rw [q2]
            refine if_neg ?_
            rintro ⟨n, o2, hn, nk, ha2, ho2, w2, _⟩
            rw [q3 n o2 ha2 ho2] at w2; cases w2
          · obtain ⟨m, o1, b1, c1, d1⟩ := where_ i o h
            have x1 := addr_ i m a o1 ha b1 d1
            have y1 := (fzO_ok T (fun n y h e v r => hN24 n y h e v r) c1 (S1.at_ m o1 a b1 x1)).2.1
            rw [y1]; exact q3 m o1 x1 b1
        · obtain ⟨m, o1, b1, c1, d1⟩ := where_ i _ h
          obtain ⟨a, ha, _⟩ := S1.get b1
          obtain ⟨_, z1, z2⟩ := fzO_ok T (fun n y h e v r => hN24 n y h e v r) c1 (S1.at_ m o1 a b1 ha)
          obtain ⟨fs', rfl⟩ := z2 c fs rfl
          rcases d1 with ⟨hi, rfl⟩ | ⟨hi, k1⟩
          · exact S1.ex _ c fs' b1
          · have := (hkept _ (List.mem_of_getElem? k1)).2
            unfold ownAt at this
            rw [b1] at this
            cases this
    · cases e
  · cases e
/-- it may be said of any expression -/
theorem Post.trim {Wx : WX} {sg : L2.St} {Q : VK} {d : Nat} {r : R W} (S0 : Sim K g0 s H) (h : Post K Wx g0 sg (PW1 K Q) (r.trim d s)) : Post K Wx g0 sg (PW1 K Q) r := by
  cases r with
  | ok w s' =>
    intro g1 H1 le S1 v rv
    have h : Post K Wx g0 sg (PW1 K Q) (okOf (trimL s s' (kpT s' s.length (kpN s' s.length d) w) [w])) := h
    unfold okOf at h
    split at h
    · rename_i y u e
      obtain ⟨g2, l2, S2, _, q⟩ := trim_ok S0 le S1 e
      obtain ⟨v', ev, rv'⟩ := (q [v] (.cons rv .nil)).inv1
      cases ev
      exact h g2 H1 l2 S2 v rv'
    · exact h.elim
  | er c fs s' =>
    intro g1 H1 a vs le S1 ha rk
    have h : Post K Wx g0 sg (PW1 K Q) (erOf c (fs.map (·.1)) (trimL s s' [] (fs.map (·.2)))) := h
    unfold erOf at h
    split at h
    · rename_i ys u e
      obtain ⟨g2, l2, S2, hf, q⟩ := trim_ok S0 le S1 e
      have hl : ys.length = fs.length := by
        unfold trimL at e
        simp only at e
        split at e
        · split at e
          · rename_i e1 _ _
            cases e
            simpa using fzTs_len e1
          · cases e
        · cases e
      refine h g2 H1 a vs l2 S2 (hf _ _ ha) (RKs.of_split ?_ ?_)
      · rw [List.map_fst_zip (by rw [List.length_map]; omega)]; exact rk.split.1
      · rw [List.map_snd_zip (by rw [List.length_map]; omega)]; exact q _ rk.split.2
    · exact h.elim
  | no => exact h
end
section
variable {X : Cx} {fz : Gz} {Wx : WX} {e : Expr} {me : ME}
theorem pm_trim {d : Nat} (h : PE X e (tM (X.K, fz) Wx me)) : PE X e (tM (X.K, fz) Wx (mtrim d me)) :=
  ⟨fun pins sh sg H Q I ⟨g, s, ws, S, rs, hp⟩ => h.run pins sh sg H Q I ⟨g, s, ws, S, rs, Post.trim (d := d) S hp⟩⟩
end
end Va

/-! Va3: operators, comparisons, data as a whole, by values. -/
namespace Va
open PySem PySem.Spec PyProof.Rows L2
variable {K : Kz}
/-! ### + - * // % ** -/
def gAdd (mu : Bool) : G2
  | .int i, .int j, s => ok1 (.int (i + j)) s
  | .int i, .bl k, s => ok1 (.int (i + b2i k)) s
  | .str x, .str y, s => if x.length + y.length ≤ 16777216 then ok1 (.str (x ++ y)) s else none
  | a, b, s => match trAt s a, trAt s b with
    | some xs, some ys => if xs.length + ys.length ≤ 16777216 then newL mu (xs ++ ys) s else none
    | _, _ => match tupAt a, tupAt b with
      | some xs, some ys => if xs.length + ys.length ≤ 16777216 then (if xs = [] then none else ok1 (.tup (xs ++ ys)) s) else none
      | _, _ => none
abbrev rAddQ (K : PySem.W.Frag) : R2 := fun x y H Q => ((((rI0 fun i j => .int (i + j)) x y H Q ∨ (∃ i k, x = .int i ∧ y = .bl k ∧ Q (.int (i + b2i k)) H)) ∨ (∃ i j, x = .str i ∧ y = .str j ∧ i.length + j.length ≤ sizeLine ∧ Q (.str (i ++ j)) H)) ∨ rCat x y H Q) ∨ rCatT K x y H Q
theorem op_addQ {X : Cx} : OpR X (binaryOp .Add) (rAddQ X.K) := (((op_add.or op_add_ib).or op_add_str).or op_cat).or op_catT
theorem l_add {mu : Bool} : Lift2 K (rAddQ K.1) (gAdd mu) := by
  intro g sw s' H w1 w2 w v1 v2 Q S r1 r2 e b
  unfold gAdd at e
  split at e
  · cases e; cases r1; cases r2; exact .inl (.inl (.inl (.inl ⟨_, _, rfl, rfl, b.now S .int⟩)))
  · cases e; cases r1; cases r2; exact .inl (.inl (.inl (.inr ⟨_, _, rfl, rfl, b.now S .int⟩)))
  · split at e
    · rename_i hl
      cases e; cases r1; cases r2
      exact .inl (.inl (.inr ⟨_, _, rfl, rfl, by rw [line_eq]; exact hl, b.now S .str⟩))
    · cases e
  · rename_i m n s n1 n2 n3
    split at e
    · rename_i xs ys e1 e2
      split at e
      · rename_i hl
        obtain ⟨b1, vs1, rfl, q1, z1⟩ := trAt_ok S r1 e1
        obtain ⟨b2, vs2, rfl, q2, z2⟩ := trAt_ok S r2 e2
        exact .inl (.inr ⟨_, _, _, _, rfl, rfl, z1, z2, by rw [← q1.length, ← q2.length, line_eq]; exact hl, b.lst e S (q1.app q2)⟩)
      · cases e
    · split at e
      · rename_i xs ys e1 e2
        split at e
        · rename_i hl
          obtain ⟨b1, vs1, rfl, q1, z1⟩ := tupAt_ok S r1 e1
          obtain ⟨b2, vs2, rfl, q2, z2⟩ := tupAt_ok S r2 e2
          split at e
          · cases e
          · rename_i hx
            have hx' : vs1 ≠ [] := fun z => hx (by have := q1.length; rw [z] at this; exact List.length_eq_zero_iff.mp this)
            cases e
            refine .inr ⟨_, _, _, _, rfl, rfl, z1, z2, hx', by rw [← q1.length, ← q2.length, line_eq]; exact hl, fun hy => ?_, fun hy => b.tup S (q1.app q2)⟩
            subst hy
            have hy' : ys = [] := List.length_eq_zero_iff.mp q2.length
            subst hy'
            rw [List.append_nil] at b
            unfold tupAt at e1
            split at e1
            · cases e1; exact b.now S r1
            · cases e1
        · cases e
      · cases e
def gI (C : Int → Int → Bool) (f : Int → Int → Int) : G2
  | .int i, .int j, s => if C i j then ok1 (.int (f i j)) s else none
  | _, _, _ => none
theorem l_int {C : Int → Int → Bool} {D : Int → Int → Prop} {f : Int → Int → Int} (h : ∀ i j, C i j = true → D i j) : Lift2 K (rI D fun i j => .int (f i j)) (gI C f) := by
  intro g sw s' H w1 w2 w v1 v2 Q S r1 r2 e b
  unfold gI at e
  split at e
  · split at e
    · rename_i hc
      cases e; cases r1; cases r2
      exact ⟨_, _, rfl, rfl, h _ _ hc, b.now S (by first | exact .int | exact .bl | exact .str | exact .non)⟩
    · cases e
  · cases e
theorem l_int0 {f : Int → Int → Int} : Lift2 K (rI0 fun i j => .int (f i j)) (gI (fun _ _ => true) f) := by
  intro g sw s' H w1 w2 w v1 v2 Q S r1 r2 e b
  unfold gI at e
  split at e
  · cases e; cases r1; cases r2
    exact ⟨_, _, rfl, rfl, b.now S (by first | exact .int | exact .bl | exact .str | exact .non)⟩
  · cases e
abbrev gSub : G2 := gI (fun _ _ => true) fun i j => i - j
theorem l_sub : Lift2 K (rI0 fun i j => .int (i - j)) gSub := l_int0
/-- below 2 ^ 64 in size -/
def small64 (i : Int) : Bool := decide (i.natAbs < 18446744073709551616)
theorem small64_ok {i : Int} (h : small64 i = true) : -(2 ^ 64) < i ∧ i < 2 ^ 64 := by
  have := of_decide_eq_true h
  omega
def op_mulStr_r : R2 := fun x y H Q => ∃ z n, x = .str z ∧ y = .int n ∧ MulOk z n ∧ Q (.str (Txt.mul z n)) H
theorem op_mulStr {X : Cx} : OpR X (binaryOp .Mult) op_mulStr_r := by
  rintro pins s sg H x y v u Q I rx ry ⟨z, n, rfl, rfl, ok, q⟩
  obtain ⟨t, rfl⟩ := rx
  obtain ⟨t', rfl⟩ := ry
  exact SB.mul ok fun t2 k => ⟨.str _, H, I.tok _, ⟨_, rfl⟩, q⟩
/-- n times the text, 1 < n -/
def mulS (x : Str) (n : Nat) : Str := ⟨(List.replicate n x.cps.toList).flatten.toArray⟩
theorem foldl_app (a : Array Nat) : ∀ (n : Nat) (b : Array Nat), (List.replicate n a).foldl (· ++ ·) b = b ++ (List.replicate n a.toList).flatten.toArray
  | 0, b => by simp
  | n + 1, b => by
    rw [List.replicate_succ, List.foldl_cons, foldl_app a n]
    apply Array.toList_inj.mp
    simp [List.replicate_succ]
theorem mulS_eq {x : Str} {n : Nat} (h : 1 < n) (hx : x.length ≠ 0) : Txt.mul x n = mulS x n := by
  unfold Txt.mul mulS
  rw [if_neg (by omega), if_neg (by simp only [Bool.or_eq_true, beq_iff_eq, not_or]; exact ⟨by omega, hx⟩), foldl_app]
  simp
def gMul (mu : Bool) : G2
  | .int i, .int j, s => if small64 i || small64 j || decide (i.natAbs.log2 + j.natAbs.log2 < 1000000) then ok1 (.int (i * j)) s else none
  | .str x, .int k, s => if 1 < k ∧ x.length ≠ 0 ∧ x.length ≤ 4096 ∧ k ≤ 4096 then ok1 (.str (mulS x k.toNat)) s else none
  | a, .int k, s => match trAt s a with
    | some xs => if 0 ≤ k ∧ k < 16777216 ∧ xs.length * k.toNat ≤ 16777216 then newL mu (List.replicate k.toNat xs).flatten s else none
    | none => none
  | _, _, _ => none
abbrev rMulQ : R2 := fun x y H Q => (((rI CMul fun i j => .int (i * j)) x y H Q ∨ (rI CMulW fun i j => .int (i * j)) x y H Q) ∨ rRep x y H Q) ∨ op_mulStr_r x y H Q
theorem op_mulQ {X : Cx} : OpR X (binaryOp .Mult) rMulQ := ((op_mul.or op_mulW).or op_rep).or op_mulStr
theorem RWs.flat {g : Gh} {ws : List W} {vs : List V} (r : RWs K g ws vs) : ∀ n : Nat, RWs K g (List.replicate n ws).flatten (List.replicate n vs).flatten
  | 0 => .nil
  | n + 1 => by
    rw [List.replicate_succ, List.replicate_succ, List.flatten_cons, List.flatten_cons]
    exact r.app (r.flat n)
theorem mulOk {x : Str} {k : Int} (h : 1 < k ∧ x.length ≠ 0 ∧ x.length ≤ 4096 ∧ k ≤ 4096) : MulOk x k := by
  have e : k.toNat ≤ 4096 := by omega
  have m : x.length * k.toNat ≤ 4096 * 4096 := Nat.mul_le_mul h.2.2.1 e
  refine ⟨?_, fun _ _ => ?_, fun _ _ => ?_⟩
  · simp only [Bool.or_eq_false_iff, decide_eq_false_iff_not]; omega
  · have h1 : (x.length : Int) ≤ (2 ^ 63 - 1) / k := by
      refine Int.le_ediv_of_mul_le (by omega) ?_
      have : (x.length : Int) * k ≤ 4096 * 4096 := Int.mul_le_mul (by omega) (by omega) (by omega) (by omega)
      omega
    omega
  · unfold Builtin.Str.tooLong
    have : sizeLine = 16777216 := line_eq
    simp only [decide_eq_false_iff_not]
    omega
theorem l_mul {mu : Bool} : Lift2 K rMulQ (gMul mu) := by
  intro g sw s' H w1 w2 w v1 v2 Q S r1 r2 e b
  unfold gMul at e
  split at e
  · split at e
    · rename_i hc
      cases e; cases r1; cases r2
      simp only [Bool.or_eq_true, decide_eq_true_eq] at hc
      rcases hc with (hc | hc) | hc
      · exact .inl (.inl (.inl ⟨_, _, rfl, rfl, .inl (small64_ok hc), b.now S .int⟩))
      · exact .inl (.inl (.inl ⟨_, _, rfl, rfl, .inr (small64_ok hc), b.now S .int⟩))
      · exact .inl (.inl (.inr ⟨_, _, rfl, rfl, hc, b.now S .int⟩))
    · cases e
  · rename_i s x k
    split at e
    · rename_i hc
      cases e; cases r1; cases r2
      refine .inr ⟨_, _, rfl, rfl, mulOk hc, ?_⟩
      have ek : k = (k.toNat : Int) := by omega
      rw [ek, mulS_eq (by omega) hc.2.1]
      exact b.now S .str
    · cases e
  · rename_i m k s _ _
    cases r2
    split at e
    · rename_i xs e1
      split at e
      · rename_i hl
        obtain ⟨b1, vs1, rfl, q1, z1⟩ := trAt_ok S r1 e1
        exact .inl (.inr ⟨_, _, _, rfl, rfl, z1, by omega, by omega, by rw [← q1.length, line_eq]; exact hl.2.2, b.lst e S (q1.flat _)⟩)
      · cases e
    · cases e
  · cases e
def cDiv (i j : Int) : Bool := decide (0 < j) && decide (j.natAbs.log2 < 9000)
theorem cDiv_ok (i j : Int) (h : cDiv i j = true) : CDivW i j := by
  simp only [cDiv, Bool.and_eq_true, decide_eq_true_eq] at h
  exact h
abbrev gFdiv : G2 := gI cDiv fun i j => i / j
theorem l_fdiv : Lift2 K (rI CDivW fun i j => .int (i / j)) gFdiv := l_int cDiv_ok
abbrev gMod : G2 := gI (fun _ j => decide (0 < j)) fun i j => i % j
theorem l_mod : Lift2 K (rI (fun _ j => 0 < j) fun i j => .int (i % j)) gMod := l_int fun _ _ h => of_decide_eq_true h
def cPow (i j : Int) : Bool := decide (0 ≤ j) && (decide (j ≤ 1000000) && small64 i)
theorem cPow_ok (i j : Int) (h : cPow i j = true) : CPow i j := by
  simp only [cPow, small64, Bool.and_eq_true, decide_eq_true_eq] at h
  exact ⟨h.1, h.2.1, by omega⟩
abbrev gPow : G2 := gI cPow fun i j => i ^ j.toNat
theorem l_pow : Lift2 K (rI CPow fun i j => .int (i ^ j.toNat)) gPow := l_int cPow_ok
abbrev gShl : G2 := gI cPow fun i j => i * 2 ^ j.toNat
theorem l_shl : Lift2 K (rI CPow fun i j => .int (i * 2 ^ j.toNat)) gShl := l_int cPow_ok
abbrev gShr : G2 := gI (fun _ j => decide (0 ≤ j)) fun i j => i / 2 ^ j.toNat
theorem l_shr : Lift2 K (rI (fun _ j => 0 ≤ j) fun i j => .int (i / 2 ^ j.toNat)) gShr := l_int fun _ _ h => of_decide_eq_true h
abbrev gBand : G2 := gI (fun _ _ => true) Builtin.bitAnd
theorem l_band : Lift2 K (rI0 fun i j => .int (Builtin.bitAnd i j)) gBand := l_int0
abbrev gBor : G2 := gI (fun _ _ => true) Builtin.bitOr
theorem l_bor : Lift2 K (rI0 fun i j => .int (Builtin.bitOr i j)) gBor := l_int0
def gNeg : G1
  | .int i, s => ok1 (.int (-i)) s
  | _, _ => none
theorem l_neg : Lift1 K (rU fun i => .int (-i)) gNeg := by
  intro g sw s' H w1 w v1 Q S r1 e b
  unfold gNeg at e
  split at e
  · cases e; cases r1; exact ⟨_, rfl, b.now S (by first | exact .int | exact .bl | exact .str | exact .non)⟩
  · cases e

/-! ### < <= > >= -/
def gCI (f : Int → Int → Bool) : G2
  | .int i, .int j, s => ok1 (.bl (f i j)) s
  | _, _, _ => none
theorem l_ci {f : Int → Int → Bool} : Lift2 K (rI0 fun i j => .bl (f i j)) (gCI f) := by
  intro g sw s' H w1 w2 w v1 v2 Q S r1 r2 e b
  unfold gCI at e
  split at e
  · cases e; cases r1; cases r2; exact ⟨_, _, rfl, rfl, b.now S (by first | exact .int | exact .bl | exact .str | exact .non)⟩
  · cases e
abbrev gLt : G2 := gCI fun i j => decide (i < j)
abbrev gLe : G2 := gCI fun i j => decide (i ≤ j)
abbrev gGt : G2 := gCI fun i j => decide (j < i)
abbrev gGe : G2 := gCI fun i j => decide (j ≤ i)

/-! ### data that is read as a whole -/
def keyD : Key → PyData
  | .inl i => .int i
  | .inr z => .str z
def pkD : Tg → List PyData → Option PyData
  | .lst, ds => some (.list ds)
  | .cst, ds => some (.list ds)
  | .tup, ds => some (.tuple ds)
  | .dic ks, ds => if ks.length = ds.length then some (.dict ((ks.map keyD).zip ds)) else none
  | _, _ => none
mutual
def rdT (f : Nat → Option PyData) : W → Option PyData
  | .non => some .none
  | .bl b => some (.bool b)
  | .int i => some (.int i)
  | .str x => some (.str x)
  | .ref n => f n
  | .nd t xs => (rdTs f xs).bind (pkD t)
  | _ => none
def rdTs (f : Nat → Option PyData) : List W → Option (List PyData)
  | [] => some []
  | x :: xs => match rdT f x, rdTs f xs with
    | some d, some ds => some (d :: ds)
    | _, _ => none
end
/-- what the object at a place is, to the depth k -/
def rdN (s : Sto) : Nat → Nat → Option PyData
  | 0, _ => none
  | k + 1, n => match s[n]? with
    | some (.lst xs) => (rdTs (rdN s k) xs).map PyData.list
    | some (.dic kvs) => (rdTs (rdN s k) (kvs.map (·.2))).bind (pkD (.dic (kvs.map (·.1))))
    | _ => none
def rd (s : Sto) (w : W) : Option PyData := rdT (rdN s 24) w
section
variable {X : Cx} {fz : Gz} {pins : List (Addr × Obj)} {sg : L2.St} {H : Hp} {sh : Shared} {g : Gh} {s : Sto}
theorem keys_reads {h : Heap} {P : Program} {w : World} {es : List DictEntry} {us : List (Key × Value)} (p : Pairs (mixKind P w) es us) : ReadsAll h (es.map (·.key)) (us.map fun q => keyD q.1) [] := by
  induction p with
  | nil => exact .nil
  | cons p1 p0 p2 ih =>
    rcases keyIs_shape p1 with ⟨i, t, e1, e2⟩ | ⟨x, t, e1, e2⟩
    · have r : Reads h _ (keyD (.inl i)) [] := .int i t
      have := ReadsAll.cons r ih
      simp only [List.map_cons, e1, e2]
      simpa using this
    · have r : Reads h _ (keyD (.inr x)) [] := .str x t
      have := ReadsAll.cons r ih
      simp only [List.map_cons, e1, e2]
      simpa using this
theorem vals_reads {P : Program} {w : World} {es : List DictEntry} {us : List (Key × Value)} (p : Pairs (mixKind P w) es us) : es.map (·.val) = us.map (·.2) := by
  induction p with
  | nil => rfl
  | cons p1 p0 p2 ih => simp_all
/-- the modules' table is an object of the base -/
def SysOk (X : Cx) : Prop := ∃ o, X.base.get? sysModules = some o ∧ o.cls = .type "dict"
theorem lst_ne (I : Inv X pins sg H sh) (hs : SysOk X) {a : Addr} {vs : List V} (q : SqL X.K H a vs) : a ≠ sysModules := by
  rintro rfl
  obtain ⟨o, h1, h2⟩ := hs
  have hn := (I.bs _ _ h1).2
  rcases q with (q | ⟨_, q⟩) | ⟨o', its, n, hk, hc, _⟩
  · rw [hn] at q; cases q
  · rw [hn] at q; cases q
  · have := I.mod.kin _ _ hk
    rw [h1] at this; cases this
    rw [h2] at hc
    exact absurd hc (by decide)
theorem tup_ne (I : Inv X pins sg H sh) (hs : SysOk X) {a : Addr} {vs : List V} (q : SqT X.K H a vs) : a ≠ sysModules := by
  rintro rfl
  obtain ⟨o, h1, h2⟩ := hs
  have hn := (I.bs _ _ h1).2
  rcases q with (q | ⟨_, q⟩) | ⟨o', its, n, hk, hc, _⟩
  · rw [hn] at q; cases q
  · rw [hn] at q; cases q
  · have := I.mod.kin _ _ hk
    rw [h1] at this; cases this
    rw [h2] at hc
    exact absurd hc (by decide)
/-- how a value is read -/
def RdOk (K : Kz) (g : Gh) (h : Heap) (w : W) (d : PyData) : Prop := ∀ (v : V) (u : Value), RW K g w v → RelV v u → ∃ as, Reads h u d as ∧ sysModules ∉ as
def RdsOk (K : Kz) (g : Gh) (h : Heap) (ws : List W) (ds : List PyData) : Prop := ∀ (vs : List V) (us : List Value), RWs K g ws vs → Vals vs us → ∃ as, ReadsAll h us ds as ∧ sysModules ∉ as
theorem KV.unzip {κ : Type} : ∀ {l : List (κ × V)} {m : List (κ × Value)}, KV l m → l.map (·.1) = m.map (·.1) ∧ Vals (l.map (·.2)) (m.map (·.2))
  | [], _, q => by cases q; exact ⟨rfl, .nil⟩
  | a :: l, _, q => by
    unfold KV at q
    cases q with
    | cons q1 q2 =>
      obtain ⟨h1, h2⟩ := KV.unzip q2
      exact ⟨by simp [h1, q1.1], .cons q1.2 h2⟩
theorem pkD_reads (I : Inv X pins sg H sh) (hs : SysOk X) {t : Tg} {a : Addr} {ws : List W} {vs : List V} {ds : List PyData} {d : PyData} (S : Sim (X.K, fz) g s H) (e : pkD t ds = some d) (ih : RdsOk (X.K, fz) g sh.heap ws ds) (rv : RWs (X.K, fz) g ws vs)
    (z : match t with
      | .lst => SqL X.K H a vs
      | .cst => SqL X.K H a vs
      | .tup => SqT X.K H a vs
      | .dic ks => ks.length = vs.length ∧ Rd H a (.dK (ks.zip vs))
      | _ => True) : ∃ as, Reads sh.heap (.ref a) d as ∧ sysModules ∉ as := by
  cases t with
  | lst =>
    cases e
    obtain ⟨its, rv2, ⟨o, m, ho, hc, _, hd⟩, _⟩ := I.list z
    obtain ⟨as, h1, h2⟩ := ih _ _ rv rv2
    exact ⟨_, .list ho hc hd (by simpa using h1), by simp [h2, Ne.symm (lst_ne I hs z)]⟩
  | cst =>
    cases e
    obtain ⟨its, rv2, ⟨o, m, ho, hc, _, hd⟩, _⟩ := I.list z
    obtain ⟨as, h1, h2⟩ := ih _ _ rv rv2
    exact ⟨_, .list ho hc hd (by simpa using h1), by simp [h2, Ne.symm (lst_ne I hs z)]⟩
  | tup =>
    cases e
    obtain ⟨its, rv2, ⟨o, ho, hc, m, hd⟩, _⟩ := I.tuple z
    obtain ⟨as, h1, h2⟩ := ih _ _ rv rv2
    exact ⟨_, .tuple ho hc hd (by simpa using h1), h2⟩
  | dic ks =>
    have e : (if ks.length = ds.length then some (PyData.dict ((ks.map keyD).zip ds)) else none) = some d := e
    split at e
    · rename_i hl
      cases e
      obtain ⟨hv, z⟩ := z
      obtain ⟨_, hsys, us, rk, o, es, ep, ho, hx, hd, _, hp, _⟩ := z.ok I.hok
      obtain ⟨k1, k2⟩ := KV.unzip rk
      rw [List.map_fst_zip (by omega)] at k1
      rw [List.map_snd_zip (by omega)] at k2
      obtain ⟨as, h1, h2⟩ := ih _ _ rv k2
      have hne : sysModules ≠ a := fun z => by rw [← z] at hsys; simp at hsys
      refine ⟨_, .dict ho hx.1 hd (by
        rw [List.map_fst_zip (by rw [List.length_map]; omega), k1, List.map_map]
        exact keys_reads hp) (by
        rw [List.map_snd_zip (by rw [List.length_map]; omega), vals_reads hp]
        exact h1), ?_⟩
      simp [h2, hne]
    · cases e
  | ins c ks => cases e
mutual
theorem rdT_ok (I : Inv X pins sg H sh) (hs : SysOk X) (S : Sim (X.K, fz) g s H) {f : Nat → Option PyData} (hf : ∀ n d, f n = some d → RdOk (X.K, fz) g sh.heap (.ref n) d) : ∀ (w : W) (d : PyData), rdT f w = some d → RdOk (X.K, fz) g sh.heap w d
  | .non, d, e => fun v u r q => by rw [rdT] at e; cases e; cases r; cases q; exact ⟨_, .none, by simp⟩
  | .bl b, d, e => fun v u r q => by rw [rdT] at e; cases e; cases r; cases q; exact ⟨_, .bool _, by simp⟩
  | .int i, d, e => fun v u r q => by rw [rdT] at e; cases e; cases r; obtain ⟨t, rfl⟩ := q; exact ⟨_, .int _ t, by simp⟩
  | .str x, d, e => fun v u r q => by rw [rdT] at e; cases e; cases r; obtain ⟨t, rfl⟩ := q; exact ⟨_, .str _ t, by simp⟩
  | .ref n, d, e => by rw [rdT] at e; exact hf n d e
  | .gl x, d, e => by rw [rdT] at e <;> first | cases e | exact fun _ z => nomatch z
  | .ty x, d, e => by rw [rdT] at e <;> first | cases e | exact fun _ z => nomatch z
  | .nd t xs, d, e => fun v u r q => by
    rw [rdT] at e
    obtain ⟨ds, e1, e2⟩ := Option.bind_eq_some_iff.mp e
    have ih := rdTs_ok I hs S hf xs ds e1
    cases r with
    | nd rs f =>
      cases q
      refine pkD_reads I hs S e2 ih rs ?_
      cases t with
      | lst => exact SqL.of (S.lstF f)
      | cst => exact S.sqL f
      | tup => exact S.sqT f
      | dic ks => exact ⟨f.1, S.rdD f.2⟩
      | ins c ks => trivial
theorem rdTs_ok (I : Inv X pins sg H sh) (hs : SysOk X) (S : Sim (X.K, fz) g s H) {f : Nat → Option PyData} (hf : ∀ n d, f n = some d → RdOk (X.K, fz) g sh.heap (.ref n) d) : ∀ (ws : List W) (ds : List PyData), rdTs f ws = some ds → RdsOk (X.K, fz) g sh.heap ws ds
  | [], ds, e => fun vs us r q => by rw [rdTs] at e; cases e; cases r; cases q; exact ⟨_, .nil, by simp⟩
  | w :: ws, ds, e => fun vs us r q => by
    rw [rdTs] at e
    split at e
    · rename_i d ds' e1 e2
      cases e
      cases r with
      | cons r1 r2 =>
        cases q with
        | cons q1 q2 =>
          obtain ⟨a1, h1, n1⟩ := rdT_ok I hs S hf w d e1 _ _ r1 q1
          obtain ⟨a2, h2, n2⟩ := rdTs_ok I hs S hf ws ds' e2 _ _ r2 q2
          exact ⟨_, .cons h1 h2, by simp [n1, n2]⟩
    · cases e
end
theorem rdN_ok (I : Inv X pins sg H sh) (hs : SysOk X) (S : Sim (X.K, fz) g s H) : ∀ (k n : Nat) (d : PyData), rdN s k n = some d → RdOk (X.K, fz) g sh.heap (.ref n) d
  | 0, n, d, e => nomatch e
  | k + 1, n, d, e => fun v u r q => by
    have ih := fun ws ds => rdTs_ok I hs S (rdN_ok I hs S k) ws ds
    rw [rdN] at e
    cases r with
    | ref ea =>
      cases q
      split at e
      · rename_i xs e1
        obtain ⟨ds, e2, rfl⟩ := Option.map_eq_some_iff.mp e
        obtain ⟨vs, rv, z⟩ := S.at_ n _ _ e1 ea
        exact pkD_reads (t := .lst) I hs S (show pkD .lst ds = some (.list ds) from Eq.refl _) (ih xs ds e2) rv (SqL.of z)
      · rename_i kvs e1
        obtain ⟨ds, e2, e3⟩ := Option.bind_eq_some_iff.mp e
        obtain ⟨vs, rv, z, _⟩ := S.at_ n _ _ e1 ea
        refine pkD_reads (t := .dic (kvs.map (·.1))) I hs S e3 (ih _ ds e2) rv.split.2 ⟨by simp [rv.length], ?_⟩
        rw [rv.split.1, zip_maps]
        exact .inl z
      · cases e
theorem rd_reads (I : Inv X pins sg H sh) (hs : SysOk X) (S : Sim (X.K, fz) g s H) {w : W} {d : PyData} {v : V} {u : Value} (e : rd s w = some d) (r : RW (X.K, fz) g w v) (q : RelV v u) : ∃ as, Reads sh.heap u d as ∧ sysModules ∉ as :=
  rdT_ok I hs S (rdN_ok I hs S 24) w d e v u r q
end
/-! ### operators whose rule leans on the whole state -/
def rQ1 (K : Kz) (f : G1) : V → Hp → VK → Prop := fun x H Q => ∃ g s w1 w s', Sim K g s H ∧ RW K g w1 x ∧ f w1 s = some (w, s') ∧ Back K g w s' Q
def rQ2 (K : Kz) (f : G2) : R2 := fun x y H Q => ∃ g s w1 w2 w s', Sim K g s H ∧ RW K g w1 x ∧ RW K g w2 y ∧ f w1 w2 s = some (w, s') ∧ Back K g w s' Q
def rQs (K : Kz) (f : Gs) : List V → Hp → VK → Prop := fun xs H Q => ∃ g s ws w s', Sim K g s H ∧ RWs K g ws xs ∧ f ws s = some (w, s') ∧ Back K g w s' Q
theorem l_q1 {f : G1} : Lift1 K (rQ1 K f) f := fun g sw s' H w1 w v1 Q S r1 e b => ⟨g, sw, w1, w, s', S, r1, e, b⟩
theorem l_q2 {f : G2} : Lift2 K (rQ2 K f) f := fun g sw s' H w1 w2 w v1 v2 Q S r1 r2 e b => ⟨g, sw, w1, w2, w, s', S, r1, r2, e, b⟩
theorem l_qs {f : Gs} : Lifts K (rQs K f) f := fun g sw s' H ws w vs Q S r e b => ⟨g, sw, ws, w, s', S, r, e, b⟩
/-- by a rule over values -/
theorem q2_of {X : Cx} {fz : Gz} {f : Value → Value → Sem Value} {r : R2} {k : G2} (h : OpR X f r) (L : Lift2 (X.K, fz) r k) : OpR X f (rQ2 (X.K, fz) k) := fun pins s sg H x y v u Q I rx ry ⟨g, sw, w1, w2, w, s', S, r1, r2, e, b⟩ =>
  h pins s sg H x y v u Q I rx ry (L g sw s' H w1 w2 w x y Q S r1 r2 e b)
theorem qs_of {X : Cx} {fz : Gz} {f : Value} {r : List V → Hp → VK → Prop} {k : Gs} (h : CallR X f r) (L : Lifts (X.K, fz) r k) : CallR X f (rQs (X.K, fz) k) := fun pins s sg H xs us Q I r1 ⟨g, sw, ws, w, s', S, r2, e, b⟩ =>
  h pins s sg H xs us Q I r1 (L g sw s' H ws w xs Q S r2 e b)
/-! ### == != by data -/
def gEqB0 (a b : W) (s : Sto) : Option Bool := match a, b with
  | .str x, .str y => some (decide (x = y))
  | .int i, .int j => some (decide (i = j))
  | .bl i, .bl j => some (decide (i = j))
  | a, b => match rd s a, rd s b with
    | some d, some e => if SeqAt.shaped d && SeqAt.shaped e then some (PyData.eqv d e) else none
    | _, _ => none
def gEq0 : G2 := fun a b s => (gEqB0 a b s).map fun k => (.bl k, s)
def gNe0 : G2 := fun a b s => (gEqB0 a b s).map fun k => (.bl (!k), s)
theorem eqB_cases0 {a b : W} {s : Sto} {k : Bool} (h : gEqB0 a b s = some k) : (∃ x y, a = .str x ∧ b = .str y ∧ k = decide (x = y)) ∨ (∃ x y, a = .int x ∧ b = .int y ∧ k = decide (x = y)) ∨ (∃ x y, a = .bl x ∧ b = .bl y ∧ k = decide (x = y)) ∨
    ∃ d e, rd s a = some d ∧ rd s b = some e ∧ SeqAt.shaped d = true ∧ SeqAt.shaped e = true ∧ k = PyData.eqv d e := by
  unfold gEqB0 at h
  split at h
  · cases h; exact .inl ⟨_, _, rfl, rfl, rfl⟩
  · cases h; exact .inr (.inl ⟨_, _, rfl, rfl, rfl⟩)
  · cases h; exact .inr (.inr (.inl ⟨_, _, rfl, rfl, rfl⟩))
  · split at h
    · rename_i d e e1 e2
      split at h
      · rename_i hs
        cases h
        rw [Bool.and_eq_true] at hs
        exact .inr (.inr (.inr ⟨d, e, e1, e2, hs.1, hs.2, rfl⟩))
      · cases h
    · cases h
theorem op_eqQ0 {X : Cx} {fz : Gz} (hs : SysOk X) (hu : X.A.units + 64 < cLine) : OpR X (compareOp .Eq) (rQ2 (X.K, fz) gEq0) := by
  rintro pins sh sg H x y v u Q I rx ry ⟨g, s, w1, w2, w, s', S, r1, r2, e, b⟩
  obtain ⟨k, ek, e'⟩ := Option.map_eq_some_iff.mp e
  cases e'
  have fin : Q (.bl k) H := b.now S (by first | exact .int | exact .bl | exact .str | exact .non)
  rcases eqB_cases0 ek with ⟨p, q, rfl, rfl, rfl⟩ | ⟨p, q, rfl, rfl, rfl⟩ | ⟨p, q, rfl, rfl, rfl⟩ | ⟨d, e, h1, h2, h3, h4, rfl⟩
  · cases r1; cases r2
    exact op_eq pins sh sg H _ _ v u Q I rx ry ⟨rfl, by simpa using fin⟩
  · cases r1; cases r2
    exact op_eq pins sh sg H _ _ v u Q I rx ry ⟨rfl, by simpa using fin⟩
  · cases r1; cases r2
    exact op_eq pins sh sg H _ _ v u Q I rx ry ⟨rfl, by simpa using fin⟩
  · obtain ⟨as, c1, _⟩ := rd_reads I hs S h1 r1 rx
    obtain ⟨bs, c2, _⟩ := rd_reads I hs S h2 r2 ry
    exact SeqAt.compareEq_shaped c1 c2 h3 h4 hu ⟨.bl _, H, I, rfl, fin⟩
theorem op_neQ0 {X : Cx} {fz : Gz} (hs : SysOk X) (hu : X.A.units + 64 < cLine) : OpR X (compareOp .NotEq) (rQ2 (X.K, fz) gNe0) := by
  rintro pins sh sg H x y v u Q I rx ry ⟨g, s, w1, w2, w, s', S, r1, r2, e, b⟩
  obtain ⟨k, ek, e'⟩ := Option.map_eq_some_iff.mp e
  cases e'
  have fin : Q (.bl (!k)) H := b.now S (by first | exact .int | exact .bl | exact .str | exact .non)
  rcases eqB_cases0 ek with ⟨p, q, rfl, rfl, rfl⟩ | ⟨p, q, rfl, rfl, rfl⟩ | ⟨p, q, rfl, rfl, rfl⟩ | ⟨d, e, h1, h2, h3, h4, rfl⟩
  · cases r1; cases r2
    exact op_ne pins sh sg H _ _ v u Q I rx ry ⟨rfl, by simpa using fin⟩
  · cases r1; cases r2
    exact op_ne pins sh sg H _ _ v u Q I rx ry ⟨rfl, by simpa using fin⟩
  · cases r1; cases r2
    exact op_ne pins sh sg H _ _ v u Q I rx ry ⟨rfl, by simpa using fin⟩
  · obtain ⟨as, c1, _⟩ := rd_reads I hs S h1 r1 rx
    obtain ⟨bs, c2, _⟩ := rd_reads I hs S h2 r2 ry
    exact SeqAt.compareNe_shaped c1 c2 h3 h4 hu ⟨.bl _, H, I, rfl, fin⟩
/-! ### repr -/
def gRepr : Gs
  | [w], s => match rd s w with
    | some d => if d.showable && (decide (d.shown.length ≤ 16777216) && decide (d.depth ≤ 64)) then ok1 (.str d.shown) s else none
    | none => none
  | _, _ => none
theorem call_reprQ {X : Cx} {fz : Gz} (hs : SysOk X) (hu : X.A.units + 128 < cLine) (hg : X.A.guards = some []) : CallR X (.builtin "repr") (rQs (X.K, fz) gRepr) := by
  rintro pins sh sg H xs us Q I r ⟨g, s, ws, w, s', S, r1, e, b⟩
  unfold gRepr at e
  split at e
  · rename_i w0 s0
    split at e
    · rename_i d ed
      split at e
      · rename_i hc
        simp only [Bool.and_eq_true, decide_eq_true_eq] at hc
        obtain ⟨hc1, hc2, hc3⟩ := hc
        cases e
        obtain ⟨v, rfl, rv⟩ := r1.inv1
        obtain ⟨u, rfl, ru⟩ := vals1 r
        obtain ⟨as, c1, c2⟩ := rd_reads I hs S ed rv ru
        have fin : Q (.str d.shown) H := b.now S (by first | exact .int | exact .bl | exact .str | exact .non)
        have hsz : d.shown.length ≤ sizeLine := by rw [line_eq]; exact hc2
        have leaf : ∀ (h' : Heap) (tk : Nat), (∀ b o, sh.heap.get? b = some o → h'.get? b = some o) → ∀ t, EP X pins sg Q (.str d.shown t) { sh with heap := h', toks := tk } := fun h' tk hk t => ⟨.str _, H, I.kept hk, ⟨t, rfl⟩, fin⟩
        cases c1 with
        | none => exact PySem.P.repr_of_none (leaf sh.heap _ (fun _ _ e => e) _)
        | bool b => exact PySem.P.repr_of_bool (by simpa [PyData.shown] using leaf sh.heap (sh.toks + 1) (fun _ _ e => e) sh.toks)
        | int i t => exact PySem.P.repr_of_int (by simpa [PyData.showable] using hc1) (leaf sh.heap _ (fun _ _ e => e) _)
        | str x t => exact PySem.P.repr_of_str (leaf sh.heap _ (fun _ _ e => e) _) hsz
        | list h1 h2 h3 h4 => exact repr_of_reads' (.list h1 h2 h3 h4) hc1 (fun _ => c2) hg (by omega) (fun _ _ e => e) (fun h' u tk hk => leaf h' tk hk u) hsz
        | tuple h1 h2 h3 h4 => exact repr_of_reads' (.tuple h1 h2 h3 h4) hc1 (fun _ => c2) hg (by omega) (fun _ _ e => e) (fun h' u tk hk => leaf h' tk hk u) hsz
        | dict h1 h2 h3 h4 h5 => exact repr_of_reads' (.dict h1 h2 h3 h4 h5) hc1 (fun _ => c2) hg (by omega) (fun _ _ e => e) (fun h' u tk hk => leaf h' tk hk u) hsz
      · cases e
    · cases e
  · cases e
end Va

/-! Va4: membership, identity, subscripts, slices, the built-ins, methods of built-in types, by values. -/
namespace Va
open PySem PySem.Spec PyProof.Rows L2
variable {K : Kz}
/-! ### flat values -/
def flatW : W → Bool
  | .non => true
  | .bl _ => true
  | .int _ => true
  | .str _ => true
  | _ => false
def toV : W → V
  | .non => .non
  | .bl b => .bl b
  | .int i => .int i
  | .str x => .str x
  | _ => .ref 0
theorem flat_toV {g : Gh} {w : W} {v : V} (f : flatW w = true) (r : RW K g w v) : v = toV w ∧ flatV v = true := by
  cases w <;> first | (cases r; exact ⟨rfl, rfl⟩) | (cases f; done)
theorem flats_toV {g : Gh} {ws : List W} {vs : List V} (f : ws.all flatW = true) (r : RWs K g ws vs) : vs = ws.map toV ∧ vs.all flatV = true := by
  induction ws generalizing vs with
  | nil => cases r; exact ⟨rfl, rfl⟩
  | cons w0 ws ih =>
    cases r with
    | cons a r2 =>
    simp only [List.all_cons, Bool.and_eq_true] at f
    obtain ⟨e1, f1⟩ := flat_toV f.1 a
    obtain ⟨e2, f2⟩ := ih f.2 r2
    exact ⟨by rw [List.map_cons, ← e1, ← e2], by simp [f1, f2]⟩
/-- == of flat values -/
def eqF : W → W → Bool
  | .non, .non => true
  | .bl a, .bl b => a == b
  | .bl a, .int b => (if a then 1 else 0) == b
  | .int a, .bl b => a == (if b then 1 else 0)
  | .int a, .int b => a == b
  | .str a, .str b => a == b
  | _, _ => false
theorem eqF_toV {a b : W} (f : flatW a = true) (g : flatW b = true) : eqV (toV a) (toV b) = eqF a b := by
  cases a <;> cases b <;> first | rfl | cases f | cases g
theorem inF_toV {x : W} (fx : flatW x = true) : ∀ {xs : List W}, xs.all flatW = true → inV (toV x) (xs.map toV) = xs.any fun y => eqF y x
  | [], _ => rfl
  | y :: ys, h => by
    simp only [List.all_cons, Bool.and_eq_true] at h
    have := inF_toV fx (xs := ys) h.2
    unfold inV at this ⊢
    simp only [List.map_cons, List.any_cons, eqF_toV h.1 fx, this]
/-- the key that a value is -/
def keyW : W → Option Key
  | .int i => some (.inl i)
  | .str x => some (.inr x)
  | _ => none
theorem keyW_ok {g : Gh} {w : W} {v : V} {k : Key} (h : keyW w = some k) (r : RW K g w v) : v = kV k := by
  unfold keyW at h
  split at h <;> cases h <;> cases r <;> rfl
def valW (kvs : List (Key × W)) (k : Key) : Option W := (kvs.find? fun kv => decide (kv.1 = k)).map (·.2)
theorem valW_ok {g : Gh} {kvs : List (Key × W)} {vs : List (Key × V)} (r : RKs K g kvs vs) (k : Key) : (∃ w v, valW kvs k = some w ∧ valV vs k = some v ∧ RW K g w v) ∨ (valW kvs k = none ∧ valV vs k = none) := by
  induction r with
  | nil => exact .inr ⟨rfl, rfl⟩
  | @cons k' w v ws vs a _ ih =>
    unfold valW valV at *
    simp only [List.find?_cons]
    by_cases e : k' = k
    · simp only [e, decide_true]
      exact .inl ⟨_, _, rfl, rfl, a⟩
    · simp only [e, decide_false]
      exact ih
/-! ### == != : dicts by their flat values, else by data -/
def dEqB (ks ls : List (Key × W)) : Option Bool := if ks.length = ls.length then (if (ks.all fun p => decide (valW ls p.1 = some p.2) && flatW p.2) = true then some true else none) else some false
def gEqB (a b : W) (s : Sto) : Option Bool := match dicAt s a, dicAt s b with
  | some ks, some ls => dEqB ks ls
  | _, _ => gEqB0 a b s
def gEq : G2 := fun a b s => (gEqB a b s).map fun k => (.bl k, s)
def gNe : G2 := fun a b s => (gEqB a b s).map fun k => (.bl (!k), s)
theorem toV_flatB {w : W} (f : flatW w = true) : flatB (toV w) = true := by
  cases w <;> first | rfl | cases f
theorem dEq_hits {A : Around} {sh : Shared} {X : Cx} {g : Gh} {ks ls : List (Key × W)} {vs us : List (Key × V)} {k : Bool} {va vb : List (Key × Value)} (e : dEqB ks ls = some k) (r1 : RKs K g ks vs) (r2 : RKs K g ls us) (ra : KV vs va) (rb : KV us vb) :
    (va.length = vb.length → PySem.W.KeqHits A sh vb va true) ∧ k = (va.length == vb.length && true) := by
  have l1 : va.length = ks.length := by rw [← ra.length, r1.length]
  have l2 : vb.length = ls.length := by rw [← rb.length, r2.length]
  unfold dEqB at e
  split at e
  · rename_i hl
    split at e
    · rename_i ha
      cases e
      refine ⟨fun _ => hits_all rb ra fun p hp => ?_, by rw [l1, l2, hl]; simp⟩
      obtain ⟨q, hq, e1, e2⟩ : ∃ q ∈ ks, q.1 = p.1 ∧ RW K g q.2 p.2 := by
        clear ra l1 ha hl
        induction r1 with
        | nil => exact absurd hp List.not_mem_nil
        | cons a _ ih =>
          rcases List.mem_cons.mp hp with rfl | hp
          · exact ⟨_, List.mem_cons_self, rfl, a⟩
          · obtain ⟨q, hq, z⟩ := ih hp
            exact ⟨q, List.mem_cons_of_mem _ hq, z⟩
      have := List.all_eq_true.mp ha q hq
      rw [Bool.and_eq_true, decide_eq_true_eq] at this
      obtain ⟨h1, h2⟩ := this
      rw [e1] at h1
      rcases valW_ok r2 p.1 with ⟨w1, v1, z1, z2, z3⟩ | ⟨z1, _⟩
      · rw [h1] at z1; cases z1
        have f1 := (flat_toV h2 e2).1
        have f2 := (flat_toV h2 z3).1
        exact ⟨by rw [z2, f1, f2], by rw [f1]; exact toV_flatB h2⟩
      · rw [h1] at z1; cases z1
    · cases e
  · rename_i hl
    cases e
    refine ⟨fun z => absurd (by rw [← l1, ← l2, z]) hl, ?_⟩
    have : (va.length == vb.length) = false := by rw [l1, l2]; simpa using hl
    rw [this]; rfl
theorem op_eqQ {X : Cx} {fz : Gz} (hs : SysOk X) (hu : X.A.units + 64 < cLine) : OpR X (compareOp .Eq) (rQ2 (X.K, fz) gEq) := by
  rintro pins sh sg H x y v u Q I rx ry ⟨g, s, w1, w2, w, s', S, r1, r2, e, b⟩
  obtain ⟨k, ek, e'⟩ := Option.map_eq_some_iff.mp e
  cases e'
  unfold gEqB at ek
  split at ek
  · rename_i ks ls d1 d2
    obtain ⟨a1, vs, rfl, q1, z1⟩ := dicAt_ok S r1 d1
    obtain ⟨a2, us, rfl, q2, z2⟩ := dicAt_ok S r2 d2
    obtain rfl : v = Value.ref a1 := rx
    obtain rfl : u = Value.ref a2 := ry
    obtain ⟨_, ya, va, ra, da⟩ := z1.ok I.hok
    obtain ⟨_, yb, vb, rb, db⟩ := z2.ok I.hok
    obtain ⟨h1, h2⟩ := dEq_hits (A := X.A.in1) (sh := sh) (X := X) ek q1 q2 ra rb
    exact PySem.W.keq_eq (knd := mixKind X.prog X.w) (r := true) ya yb da db (by omega) h1 (fin_bl I (b.now S .bl) h2)
  · exact op_eqQ0 hs hu pins sh sg H x y v u Q I rx ry ⟨g, s, w1, w2, _, _, S, r1, r2, by unfold gEq0; rw [ek]; rfl, b⟩
theorem op_neQ {X : Cx} {fz : Gz} (hs : SysOk X) (hu : X.A.units + 64 < cLine) : OpR X (compareOp .NotEq) (rQ2 (X.K, fz) gNe) := by
  rintro pins sh sg H x y v u Q I rx ry ⟨g, s, w1, w2, w, s', S, r1, r2, e, b⟩
  obtain ⟨k, ek, e'⟩ := Option.map_eq_some_iff.mp e
  cases e'
  unfold gEqB at ek
  split at ek
  · rename_i ks ls d1 d2
    obtain ⟨a1, vs, rfl, q1, z1⟩ := dicAt_ok S r1 d1
    obtain ⟨a2, us, rfl, q2, z2⟩ := dicAt_ok S r2 d2
    obtain rfl : v = Value.ref a1 := rx
    obtain rfl : u = Value.ref a2 := ry
    obtain ⟨_, ya, va, ra, da⟩ := z1.ok I.hok
    obtain ⟨_, yb, vb, rb, db⟩ := z2.ok I.hok
    obtain ⟨h1, h2⟩ := dEq_hits (A := X.A.in1) (sh := sh) (X := X) ek q1 q2 ra rb
    exact PySem.W.keq_ne (knd := mixKind X.prog X.w) (r := true) ya yb da db (by omega) h1 (fin_bl I (b.now S .bl) (by rw [h2]))
  · exact op_neQ0 hs hu pins sh sg H x y v u Q I rx ry ⟨g, s, w1, w2, _, _, S, r1, r2, by unfold gNe0; rw [ek]; rfl, b⟩
theorem DGet.rd {H : Hp} {a : Addr} {kvs : List (Key × V)} {k : Key} (e : Rd H a (.dK kvs)) : DGet H a (kV k) (valV kvs k) := .inl ⟨kvs, k, e, rfl, rfl⟩

/-! ### in, not in -/
def gInB (x y : W) (s : Sto) : Option Bool := match y with
  | .str z => match x with
    | .str c => if c.length = 1 then some (decide ((c.cps.getD 0 0) ∈ z.cps.toList)) else some (!(Builtin.Str.occurrences z c 0 z.length 1).isEmpty)
    | _ => none
  | y => match dicAt s y with
    | some kvs => match keyW x with
      | some k => some (valW kvs k).isSome
      | none => none
    | none => match seqAt s y with
      | some xs => if flatW x && xs.all flatW then some (xs.any fun y => eqF y x) else none
      | none => none
def gIn : G2 := fun x y s => (gInB x y s).map fun k => (.bl k, s)
def gNotIn : G2 := fun x y s => (gInB x y s).map fun k => (.bl (!k), s)
theorem sign1 {c : Str} (h : c.length = 1) : c = ⟨#[c.cps.getD 0 0]⟩ := by
  obtain ⟨⟨l⟩⟩ := c
  match l, h with
  | [a], _ => rfl
theorem in_cases {X : Cx} (hu : X.A.units + 1 < cLine) {pins : List (Addr × Obj)} {sh : Shared} {sg : L2.St} {H : Hp} {x y : V} {v u : Value} (I : Inv X pins sg H sh) (rx : RelV x v) (ry : RelV y u)
    {g : Gh} {s : Sto} {w1 w2 : W} {k : Bool} (S : Sim (X.K, fz) g s H) (r1 : RW (X.K, fz) g w1 x) (r2 : RW (X.K, fz) g w2 y) (e : gInB w1 w2 s = some k) :
    (∀ Q : VK, Q (.bl k) H → wpAny (model X.prog X.w) X.A (compareOp .In v u) (EP X pins sg Q) X.xe sh) ∧ (∀ Q : VK, Q (.bl (!k)) H → wpAny (model X.prog X.w) X.A (compareOp .NotIn v u) (EP X pins sg Q) X.xe sh) := by
  unfold gInB at e
  split at e
  · rename_i z
    cases r2
    split at e
    · rename_i c
      cases r1
      split at e
      · rename_i hc
        cases e
        have ec := sign1 hc
        refine ⟨fun Q q => op_in_sign pins sh sg H _ _ v u Q I rx ry ⟨_, _, by rw [← ec], rfl, q⟩, fun Q q => op_notIn_sign pins sh sg H _ _ v u Q I rx ry ⟨_, _, by rw [← ec], rfl, q⟩⟩
      · cases e
        refine ⟨fun Q q => op_in_str pins sh sg H _ _ v u Q I rx ry ⟨_, _, rfl, rfl, q⟩, fun Q q => op_notIn_str pins sh sg H _ _ v u Q I rx ry ⟨_, _, rfl, rfl, q⟩⟩
    · cases e
  · split at e
    · rename_i kvs ed
      obtain ⟨a, vs, rfl, rk, rdd⟩ := dicAt_ok S r2 ed
      cases ry
      split at e
      · rename_i kk ek
        cases e
        have ex := keyW_ok ek r1
        subst ex
        have key : (valW kvs kk).isSome = (valV vs kk).isSome := by
          rcases valW_ok rk kk with ⟨w, v, h1, h2, _⟩ | ⟨h1, h2⟩ <;> rw [h1, h2] <;> rfl
        rw [key]
        exact ⟨fun Q q => d_in hu I (DGet.rd rdd) rx fun s3 I3 => ⟨.bl _, H, I3, rfl, q⟩, fun Q q => d_notIn hu I (DGet.rd rdd) rx fun s3 I3 => ⟨.bl _, H, I3, rfl, q⟩⟩
      · cases e
    · split at e
      · rename_i xs es
        obtain ⟨a, vs, rfl, rv, sq⟩ := seqAt_ok S r2 es
        cases ry
        split at e
        · rename_i hf
          cases e
          rw [Bool.and_eq_true] at hf
          obtain ⟨e1, f1⟩ := flat_toV hf.1 r1
          obtain ⟨e2, f2⟩ := flats_toV hf.2 rv
          have key := inF_toV hf.1 hf.2
          rw [← e1, ← e2] at key
          rw [← key]
          exact ⟨fun Q q => op_in_seq pins sh sg H _ (.ref a) v _ Q I rx (show RelV (V.ref a) (Value.ref a) from rfl) ⟨a, vs, rfl, sq, f1, f2, q⟩, fun Q q => op_notIn_seq pins sh sg H _ (.ref a) v _ Q I rx (show RelV (V.ref a) (Value.ref a) from rfl) ⟨a, vs, rfl, sq, f1, f2, q⟩⟩
        · cases e
      · cases e
theorem op_inQ {X : Cx} {fz : Gz} (hu : X.A.units + 1 < cLine) : OpR X (compareOp .In) (rQ2 (X.K, fz) gIn) := by
  rintro pins sh sg H x y v u Q I rx ry ⟨g, s, w1, w2, w, s', S, r1, r2, e, b⟩
  obtain ⟨k, ek, e'⟩ := Option.map_eq_some_iff.mp e
  cases e'
  exact (in_cases hu I rx ry S r1 r2 ek).1 Q (b.now S (by first | exact .bl | exact .str | exact .int))
theorem op_notInQ {X : Cx} {fz : Gz} (hu : X.A.units + 1 < cLine) : OpR X (compareOp .NotIn) (rQ2 (X.K, fz) gNotIn) := by
  rintro pins sh sg H x y v u Q I rx ry ⟨g, s, w1, w2, w, s', S, r1, r2, e, b⟩
  obtain ⟨k, ek, e'⟩ := Option.map_eq_some_iff.mp e
  cases e'
  exact (in_cases hu I rx ry S r1 r2 ek).2 Q (b.now S (by first | exact .bl | exact .str | exact .int))

/-! ### is None, is not None -/
theorem RW.non_iff {g : Gh} {w : W} {v : V} (r : RW K g w v) : decide (v = .non) = decide (w = .non) := by
  cases r <;> rfl
def gIs : G2
  | x, .non, s => ok1 (.bl (decide (x = .non))) s
  | _, _, _ => none
def gIsNot : G2
  | x, .non, s => ok1 (.bl (!decide (x = .non))) s
  | _, _, _ => none
theorem op_isQ {X : Cx} {fz : Gz} : OpR X (compareOp .Is) (rQ2 (X.K, fz) gIs) := by
  rintro pins sh sg H x y v u Q I rx ry ⟨g, s, w1, w2, w, s', S, r1, r2, e, b⟩
  unfold gIs at e
  split at e
  · cases e; cases r2
    exact op_isN pins sh sg H _ _ v u Q I rx ry ⟨rfl, by rw [r1.non_iff]; exact b.now S (by first | exact .bl | exact .str | exact .int)⟩
  · cases e
theorem op_isNotQ {X : Cx} {fz : Gz} : OpR X (compareOp .IsNot) (rQ2 (X.K, fz) gIsNot) := by
  rintro pins sh sg H x y v u Q I rx ry ⟨g, s, w1, w2, w, s', S, r1, r2, e, b⟩
  unfold gIsNot at e
  split at e
  · cases e; cases r2
    exact op_notN pins sh sg H _ _ v u Q I rx ry ⟨rfl, by rw [r1.non_iff]; exact b.now S (by first | exact .bl | exact .str | exact .int)⟩
  · cases e

/-! ### subscripts -/
def gIx : G2 := fun x i s => match x with
  | .str z => match i with
    | .int k => if z.length ≤ 16777216 then (match atI z.cps.toList k with
      | some c => ok1 (.str ⟨#[c]⟩) s
      | none => none) else none
    | _ => none
  | x => match dicAt s x with
    | some kvs => match keyW i with
      | some k => (match valW kvs k with
        | some w => ok1 w s
        | none => none)
      | none => none
    | none => match i with
      | .int k => match seqAt s x with
        | some xs => (match atI xs k with
          | some w => ok1 w s
          | none => none)
        | none => none
      | _ => none
theorem RWs.atI {g : Gh} {ws : List W} {vs : List V} {k : Int} {w : W} (r : RWs K g ws vs) (h : atI ws k = some w) : ∃ v, L2.atI vs k = some v ∧ RW K g w v := by
  unfold L2.atI at *
  rw [← r.length]
  cases e : ixN ws.length k with
  | none => rw [e] at h; cases h
  | some j =>
    rw [e] at h
    obtain ⟨v, h1, h2⟩ := r.get (i := j) (w := w) h
    exact ⟨v, h1, h2⟩
theorem ix_Q {X : Cx} {fz : Gz} (hu : X.A.units + 1 < cLine) : IxR X (rQ2 (X.K, fz) gIx) := by
  rintro value slice pins sh sg H x y v u Q I rx ry ⟨g, s, w1, w2, w, s', S, r1, r2, e, b⟩ hs
  unfold gIx at e
  split at e
  · rename_i z
    cases r1
    split at e
    · rename_i k
      cases r2
      split at e
      · rename_i hz
        split at e
        · rename_i c ec
          cases e
          exact ix_str value slice pins sh sg H _ _ v u Q I rx ry ⟨z, k, c, rfl, rfl, by rw [line_eq]; exact hz, ec, b.now S (by first | exact .bl | exact .str | exact .int)⟩ hs
        · cases e
      · cases e
    · cases e
  · split at e
    · rename_i kvs ed
      obtain ⟨a, vs, rfl, rk, rdd⟩ := dicAt_ok S r1 ed
      split at e
      · rename_i kk ek
        split at e
        · rename_i w0 ew
          cases e
          have ex := keyW_ok ek r2
          subst ex
          cases rx
          rcases valW_ok rk kk with ⟨w', v', h1, h2, h3⟩ | ⟨h1, _⟩
          · rw [ew] at h1; cases h1
            have g := DGet.rd (k := kk) rdd
            rw [h2] at g
            exact tail_any (dict_typeIs I g) PySem.F.slot_dict_getitem.lookup (d_getItem hu I g ry fun u' s3 I3 ru => ⟨v', H, I3, ru, b.now S h3⟩) hs
          · rw [ew] at h1; cases h1
        · cases e
      · cases e
    · split at e
      · rename_i k
        cases r2
        split at e
        · rename_i xs es
          obtain ⟨a, vs, rfl, rv, sq⟩ := seqAt_ok S r1 es
          split at e
          · rename_i w0 ew
            cases e
            obtain ⟨v', h1, h2⟩ := rv.atI ew
            rcases sq with sq | sq
            · exact ix_list value slice pins sh sg H _ _ v u Q I rx ry ⟨a, vs, k, v', rfl, rfl, sq, h1, b.now S h2⟩ hs
            · exact ix_tup value slice pins sh sg H _ _ v u Q I rx ry ⟨a, vs, k, v', rfl, rfl, sq, h1, b.now S h2⟩ hs
          · cases e
        · cases e
      · cases e
end Va

/-! Va5: built-ins called by their names, slices, methods of built-in types. -/
namespace Va
open PySem PySem.Spec PyProof.Rows L2
variable {K : Kz}
def asI : List W → Option (List Int)
  | [] => some []
  | .int i :: r => (asI r).map (i :: ·)
  | _ => none
def asB : List W → Option (List Bool)
  | [] => some []
  | .bl i :: r => (asB r).map (i :: ·)
  | _ => none
def asS : List W → Option (List Str)
  | [] => some []
  | .str i :: r => (asS r).map (i :: ·)
  | _ => none
theorem asI_ok {g : Gh} : ∀ {ws : List W} {vs : List V} {ns : List Int}, asI ws = some ns → RWs K g ws vs → vs = ns.map V.int
  | [], _, _, e, r => by cases e; cases r; rfl
  | w :: ws, _, _, e, r => by
    cases r with
    | cons r1 r2 =>
      cases w <;> first | cases e; done | skip
      obtain ⟨ms, e1, rfl⟩ := Option.map_eq_some_iff.mp e
      cases r1
      rw [asI_ok e1 r2]; rfl
theorem asB_ok {g : Gh} : ∀ {ws : List W} {vs : List V} {ns : List Bool}, asB ws = some ns → RWs K g ws vs → vs = ns.map V.bl
  | [], _, _, e, r => by cases e; cases r; rfl
  | w :: ws, _, _, e, r => by
    cases r with
    | cons r1 r2 =>
      cases w <;> first | cases e; done | skip
      obtain ⟨ms, e1, rfl⟩ := Option.map_eq_some_iff.mp e
      cases r1
      rw [asB_ok e1 r2]; rfl
theorem asS_ok {g : Gh} : ∀ {ws : List W} {vs : List V} {ns : List Str}, asS ws = some ns → RWs K g ws vs → vs = ns.map V.str
  | [], _, _, e, r => by cases e; cases r; rfl
  | w :: ws, _, _, e, r => by
    cases r with
    | cons r1 r2 =>
      cases w <;> first | cases e; done | skip
      obtain ⟨ms, e1, rfl⟩ := Option.map_eq_some_iff.mp e
      cases r1
      rw [asS_ok e1 r2]; rfl
/-! ### len, abs, max, min, sum, all, any, list, tuple, divmod -/
def gLen : Gs
  | [.str x], s => if x.length ≤ 16777216 then ok1 (.int x.length) s else none
  | [w], s => match seqAt s w with
    | some xs => ok1 (.int xs.length) s
    | none => match dicAt s w with
      | some kvs => ok1 (.int kvs.length) s
      | none => none
  | _, _ => none
abbrev rLenQ (K : PySem.W.Frag) : List V → Hp → VK → Prop := fun xs H Q => (∃ x n, xs = [x] ∧ LenV K x H n ∧ Q (.int n) H) ∨ ∃ a kvs, xs = [V.ref a] ∧ Rd H a (.dK kvs) ∧ Q (.int kvs.length) H
theorem CallR.or {X : Cx} {f : Value} {r r' : List V → Hp → VK → Prop} (h : CallR X f r) (h' : CallR X f r') : CallR X f (fun xs H Q => r xs H Q ∨ r' xs H Q) := fun pins s sg H xs us Q I rr q =>
  q.elim (h pins s sg H xs us Q I rr) (h' pins s sg H xs us Q I rr)
theorem call_lenDR {X : Cx} : CallR X (.builtin "len") (fun xs H Q => ∃ a kvs, xs = [V.ref a] ∧ Rd H a (.dK kvs) ∧ Q (.int kvs.length) H) := by
  intro pins s σ H xs us Q I r h
  obtain ⟨a, kvs, rfl, ha, q⟩ := h
  obtain ⟨u, rfl, ru⟩ := vals1 r
  cases ru
  exact d_len I ha fun t s' I' => ⟨.int kvs.length, H, I', ⟨t, rfl⟩, q⟩
theorem call_lenQ {X : Cx} : CallR X (.builtin "len") (rLenQ X.K) := CallR.or call_len call_lenDR
theorem l_len : Lifts K (rLenQ K.1) gLen := by
  intro g sw s' H ws w vs Q S r e b
  unfold gLen at e
  split at e
  · rename_i x s
    obtain ⟨v, rfl, rv⟩ := r.inv1
    split at e
    · rename_i hx
      cases e; cases rv
      exact .inl ⟨_, _, rfl, ⟨by rw [line_eq]; exact hx, rfl⟩, b.now S .int⟩
    · cases e
  · obtain ⟨v, rfl, rv⟩ := r.inv1
    split at e
    · rename_i xs es
      cases e
      obtain ⟨a, us, rfl, ru, sq⟩ := seqAt_ok S rv es
      refine .inl ⟨_, xs.length, rfl, ?_, b.now S .int⟩
      rcases sq with sq | sq
      · exact .inl ⟨us, sq, ru.length⟩
      · exact .inr ⟨us, sq, ru.length⟩
    · split at e
      · rename_i kvs ek
        cases e
        obtain ⟨a, us, rfl, ru, q⟩ := dicAt_ok S rv ek
        refine .inr ⟨a, us, rfl, q, ?_⟩
        rw [← ru.length]
        exact b.now S .int
      · cases e
  · cases e
def gAbs : Gs
  | [.int i], s => ok1 (.int (if i < 0 then -i else i)) s
  | _, _ => none
theorem l_abs : Lifts K (fun xs H Q => ∃ i, xs = [.int i] ∧ Q (.int (if i < 0 then -i else i)) H) gAbs := by
  intro g sw s' H ws w vs Q S r e b
  unfold gAbs at e
  split at e
  · cases e
    obtain ⟨v, rfl, rv⟩ := r.inv1
    cases rv
    exact ⟨_, rfl, b.now S (by first | exact .int | exact .bl | exact .str)⟩
  · cases e
/-- the greatest, the least of a list of ints -/
def gMaxL : List Int → Option Int
  | [] => none
  | [x] => some x
  | x :: y :: r => match gMaxL (y :: r) with
    | some m => some (if m > x then m else x)
    | none => none
def gMinL : List Int → Option Int
  | [] => none
  | [x] => some x
  | x :: y :: r => match gMinL (y :: r) with
    | some m => some (if m < x then m else x)
    | none => none
theorem maxL_eq : ∀ {l : List Int} {m k : Int}, gMaxL l = some m → k ∈ l → (∀ y, y ∈ l → y ≤ k) → k = m
  | [], _, _, e, _, _ => nomatch e
  | [x], m, k, e, hk, _ => by cases e; simpa using hk
  | x :: y :: r, m, k, e, hk, h => by
    unfold gMaxL at e
    split at e
    · rename_i m' e'
      cases e
      have hx := h x (by simp)
      rcases List.mem_cons.mp hk with rfl | hk
      · by_cases z : m' > k
        · exfalso
          have key : ∀ {l : List Int} {m : Int}, gMaxL l = some m → m ∈ l := by
            intro l
            induction l with
            | nil => intro m e; cases e
            | cons a t ih =>
              intro m e
              cases t with
              | nil => cases e; simp
              | cons c t =>
                unfold gMaxL at e
                split at e
                · rename_i q eq
                  cases e
                  split
                  · exact List.mem_cons_of_mem _ (ih eq)
                  · simp
                · cases e
          have := h m' (List.mem_cons_of_mem _ (key e'))
          omega
        · rw [if_neg z]
      · have hm := maxL_eq e' hk fun y hy => h y (List.mem_cons_of_mem _ hy)
        subst hm
        split <;> omega
    · cases e
theorem minL_eq : ∀ {l : List Int} {m k : Int}, gMinL l = some m → k ∈ l → (∀ y, y ∈ l → k ≤ y) → k = m
  | [], _, _, e, _, _ => nomatch e
  | [x], m, k, e, hk, _ => by cases e; simpa using hk
  | x :: y :: r, m, k, e, hk, h => by
    unfold gMinL at e
    split at e
    · rename_i m' e'
      cases e
      have hx := h x (by simp)
      rcases List.mem_cons.mp hk with rfl | hk
      · by_cases z : m' < k
        · exfalso
          have key : ∀ {l : List Int} {m : Int}, gMinL l = some m → m ∈ l := by
            intro l
            induction l with
            | nil => intro m e; cases e
            | cons a t ih =>
              intro m e
              cases t with
              | nil => cases e; simp
              | cons c t =>
                unfold gMinL at e
                split at e
                · rename_i q eq
                  cases e
                  split
                  · exact List.mem_cons_of_mem _ (ih eq)
                  · simp
                · cases e
          have := h m' (List.mem_cons_of_mem _ (key e'))
          omega
        · rw [if_neg z]
      · have hm := minL_eq e' hk fun y hy => h y (List.mem_cons_of_mem _ hy)
        subst hm
        split <;> omega
    · cases e
def intsAt (s : Sto) (w : W) : Option (List Int) := (lstAt s w).bind asI
theorem intsAt_ok {g : Gh} {s : Sto} {H : Hp} {w : W} {v : V} {ns : List Int} (S : Sim K g s H) (r : RW K g w v) (h : intsAt s w = some ns) : ∃ a, v = .ref a ∧ SqL K.1 H a (ns.map V.int) := by
  obtain ⟨xs, e1, e2⟩ := Option.bind_eq_some_iff.mp h
  obtain ⟨a, vs, h1, h2, h3⟩ := lstAt_ok S r e1
  rw [asI_ok e2 h2] at h3
  exact ⟨a, h1, h3⟩
def gMax : Gs
  | [.int i, .int j], s => ok1 (.int (if j > i then j else i)) s
  | [w], s => match (intsAt s w).bind gMaxL with
    | some m => ok1 (.int m) s
    | none => none
  | _, _ => none
def gMin : Gs
  | [.int i, .int j], s => ok1 (.int (if j < i then j else i)) s
  | [w], s => match (intsAt s w).bind gMinL with
    | some m => ok1 (.int m) s
    | none => none
  | _, _ => none
theorem l_max : Lifts K (fun xs H Q => (∃ i j, xs = [.int i, .int j] ∧ Q (.int (if j > i then j else i)) H) ∨ rMax K.1 xs H Q) gMax := by
  intro g sw s' H ws w vs Q S r e b
  unfold gMax at e
  split at e
  · cases e
    obtain ⟨v, u, rfl, rv, ru⟩ := r.inv2
    cases rv; cases ru
    exact .inl ⟨_, _, rfl, b.now S (by first | exact .int | exact .bl | exact .str)⟩
  · obtain ⟨v, rfl, rv⟩ := r.inv1
    split at e
    · rename_i m em
      cases e
      obtain ⟨ns, e1, e2⟩ := Option.bind_eq_some_iff.mp em
      obtain ⟨a, rfl, sq⟩ := intsAt_ok S rv e1
      refine .inr ⟨a, ns, rfl, sq, ?_, fun k hk hle => ?_⟩
      · cases ns with
        | nil => cases e2
        | cons _ _ => exact Nat.zero_lt_succ _
      · rw [maxL_eq e2 hk hle]
        exact b.now S (by first | exact .int | exact .bl | exact .str)
    · cases e
  · cases e
theorem l_min : Lifts K (fun xs H Q => (∃ i j, xs = [.int i, .int j] ∧ Q (.int (if j < i then j else i)) H) ∨ rMin K.1 xs H Q) gMin := by
  intro g sw s' H ws w vs Q S r e b
  unfold gMin at e
  split at e
  · cases e
    obtain ⟨v, u, rfl, rv, ru⟩ := r.inv2
    cases rv; cases ru
    exact .inl ⟨_, _, rfl, b.now S (by first | exact .int | exact .bl | exact .str)⟩
  · obtain ⟨v, rfl, rv⟩ := r.inv1
    split at e
    · rename_i m em
      cases e
      obtain ⟨ns, e1, e2⟩ := Option.bind_eq_some_iff.mp em
      obtain ⟨a, rfl, sq⟩ := intsAt_ok S rv e1
      refine .inr ⟨a, ns, rfl, sq, ?_, fun k hk hle => ?_⟩
      · cases ns with
        | nil => cases e2
        | cons _ _ => exact Nat.zero_lt_succ _
      · rw [minL_eq e2 hk hle]
        exact b.now S (by first | exact .int | exact .bl | exact .str)
    · cases e
  · cases e
def gSum : Gs
  | [w], s => match intsAt s w with
    | some ns => ok1 (.int ns.sum) s
    | none => none
  | _, _ => none
theorem l_sum : Lifts K (rSum K.1) gSum := by
  intro g sw s' H ws w vs Q S r e b
  unfold gSum at e
  split at e
  · obtain ⟨v, rfl, rv⟩ := r.inv1
    split at e
    · rename_i ns en
      cases e
      obtain ⟨a, rfl, sq⟩ := intsAt_ok S rv en
      exact ⟨a, ns, rfl, sq, b.now S (by first | exact .int | exact .bl | exact .str)⟩
    · cases e
  · cases e
def boolsAt (s : Sto) (w : W) : Option (List Bool) := (lstAt s w).bind asB
theorem boolsAt_ok {g : Gh} {s : Sto} {H : Hp} {w : W} {v : V} {ns : List Bool} (S : Sim K g s H) (r : RW K g w v) (h : boolsAt s w = some ns) : ∃ a, v = .ref a ∧ SqL K.1 H a (ns.map V.bl) := by
  obtain ⟨xs, e1, e2⟩ := Option.bind_eq_some_iff.mp h
  obtain ⟨a, vs, h1, h2, h3⟩ := lstAt_ok S r e1
  rw [asB_ok e2 h2] at h3
  exact ⟨a, h1, h3⟩
def gAll : Gs
  | [w], s => match boolsAt s w with
    | some bs => ok1 (.bl (bs.all id)) s
    | none => none
  | _, _ => none
def gAny : Gs
  | [w], s => match boolsAt s w with
    | some bs => ok1 (.bl (bs.any id)) s
    | none => none
  | _, _ => none
theorem l_all : Lifts K (rAll K.1) gAll := by
  intro g sw s' H ws w vs Q S r e b
  unfold gAll at e
  split at e
  · obtain ⟨v, rfl, rv⟩ := r.inv1
    split at e
    · rename_i ns en
      cases e
      obtain ⟨a, rfl, sq⟩ := boolsAt_ok S rv en
      exact ⟨a, ns, rfl, sq, b.now S (by first | exact .int | exact .bl | exact .str)⟩
    · cases e
  · cases e
theorem l_any : Lifts K (rAny K.1) gAny := by
  intro g sw s' H ws w vs Q S r e b
  unfold gAny at e
  split at e
  · obtain ⟨v, rfl, rv⟩ := r.inv1
    split at e
    · rename_i ns en
      cases e
      obtain ⟨a, rfl, sq⟩ := boolsAt_ok S rv en
      exact ⟨a, ns, rfl, sq, b.now S (by first | exact .int | exact .bl | exact .str)⟩
    · cases e
  · cases e
def gList (mu : Bool) : Gs
  | [w], s => match seqAt s w with
    | some xs => newL mu xs s
    | none => none
  | _, _ => none
theorem l_list {mu : Bool} : Lifts K (fun xs H Q => ∃ p ys, xs = [.ref p] ∧ (SqL K.1 H p ys ∨ SqT K.1 H p ys) ∧ ∀ l, H l = none → Q (.ref l) (upd H l (.lst ys))) (gList mu) := by
  intro g sw s' H ws w vs Q S r e b
  unfold gList at e
  split at e
  · obtain ⟨v, rfl, rv⟩ := r.inv1
    split at e
    · rename_i xs es
      obtain ⟨a, us, rfl, ru, sq⟩ := seqAt_ok S rv es
      exact ⟨a, us, rfl, sq, b.lst e S ru⟩
    · cases e
  · cases e
def gTuple : Gs
  | [w], s => match lstAt s w with
    | some xs => ok1 (.tup xs) s
    | none => match tupAt w with
      | some xs => ok1 w s
      | none => none
  | _, _ => none
theorem l_tuple : Lifts K (fun xs H Q => ∃ p ys, xs = [.ref p] ∧ ((SqL K.1 H p ys ∧ ∀ l, H l = none → Q (.ref l) (upd H l (.tup ys))) ∨ (SqT K.1 H p ys ∧ Q (.ref p) H))) gTuple := by
  intro g sw s' H ws w vs Q S r e b
  unfold gTuple at e
  split at e
  · obtain ⟨v, rfl, rv⟩ := r.inv1
    split at e
    · rename_i xs es
      cases e
      obtain ⟨a, us, rfl, ru, sq⟩ := lstAt_ok S rv es
      exact ⟨a, us, rfl, .inl ⟨sq, b.tup S ru⟩⟩
    · split at e
      · rename_i xs es
        cases e
        obtain ⟨a, us, rfl, ru, sq⟩ := tupAt_ok S rv es
        exact ⟨a, us, rfl, .inr ⟨sq, b.now S rv⟩⟩
      · cases e
  · cases e
def gDivmod : Gs
  | [.int i, .int j], s => if cDiv i j then ok1 (.tup [.int (i / j), .int (i % j)]) s else none
  | _, _ => none
theorem l_divmod : Lifts K (fun xs H Q => ∃ i j, xs = [.int i, .int j] ∧ CDivP i j ∧ ∀ p, H p = none → Q (.ref p) (upd H p (.tup [.int (i / j), .int (i % j)]))) gDivmod := by
  intro g sw s' H ws w vs Q S r e b
  unfold gDivmod at e
  split at e
  · obtain ⟨v, u, rfl, rv, ru⟩ := r.inv2
    split at e
    · rename_i hc
      cases e; cases rv; cases ru
      have := cDiv_ok _ _ hc
      exact ⟨_, _, rfl, ⟨this.1, PyProof.noPylong_of_log2 this.2⟩, b.tup S (.cons .int (.cons .int .nil))⟩
    · cases e
  · cases e
/-! ### slices -/
abbrev GSl := W → Option Int → Option Int → Sto → Option (W × Sto)
def cutW (xs : List W) (lo hi : Option Int) : List W := (xs.drop (HT.sIx xs.length 0 lo)).take (HT.sIx xs.length xs.length hi - HT.sIx xs.length 0 lo)
theorem RWs.cut {g : Gh} {ws : List W} {vs : List V} (r : RWs K g ws vs) (lo hi : Option Int) : RWs K g (cutW ws lo hi) (cutV vs lo hi) := by
  unfold cutW cutV
  rw [r.length]
  exact (r.drop _).take _
def gSl (mu : Bool) : GSl := fun x lo hi s => match x with
  | .str z => if z.length ≤ 16777216 then ok1 (.str (cutS z lo hi)) s else none
  | x => match lstAt s x with
    | some xs => newL mu (cutW xs lo hi) s
    | none => match tupAt x with
      | some xs => ok1 (.tup (cutW xs lo hi)) s
      | none => none
abbrev rSlQ (K : PySem.W.Frag) : V → Option Int → Option Int → Hp → VK → Prop := fun x lo hi H Q => (rSlL K x lo hi H Q ∨ rSlS x lo hi H Q) ∨ rSlA K x lo hi H Q
theorem sl_Q {X : Cx} : SlR X (rSlQ X.K) := (sl_list.or sl_str).or sl_tupA
theorem cutW_whole {xs : List W} {lo hi : Option Int} (h : HT.sIx xs.length 0 lo = 0 ∧ HT.sIx xs.length xs.length hi = xs.length) : cutW xs lo hi = xs := by
  unfold cutW
  rw [h.1, h.2]
  simp
theorem l_sl {mu : Bool} {g : Gh} {sw s' : Sto} {H : Hp} {w1 w : W} {v1 : V} {lo hi : Option Int} {Q : VK} (S : Sim K g sw H) (r1 : RW K g w1 v1) (e : gSl mu w1 lo hi sw = some (w, s')) (b : Back K g w s' Q) : rSlQ K.1 v1 lo hi H Q := by
  unfold gSl at e
  split at e
  · split at e
    · rename_i hz
      cases e; cases r1
      exact .inl (.inr ⟨_, rfl, by rw [line_eq]; exact hz, b.now S .str⟩)
    · cases e
  · split at e
    · rename_i xs es
      obtain ⟨a, us, rfl, ru, sq⟩ := lstAt_ok S r1 es
      exact .inl (.inl ⟨a, us, rfl, sq, b.lst e S (ru.cut lo hi)⟩)
    · split at e
      · rename_i xs es
        obtain ⟨a, us, rfl, ru, sq⟩ := tupAt_ok S r1 es
        cases e
        refine .inr ⟨a, us, rfl, sq, fun hw => ?_, fun hw => b.tup S (ru.cut lo hi)⟩
        rw [cutW_whole (by rw [ru.length]; exact hw)] at b
        unfold tupAt at es
        split at es
        · cases es; exact b.now S r1
        · cases es
      · cases e
/-- a part of a slice: left out, or an int -/
abbrev MO := Loc → Sto → R (Option Int)
def mnop : MO := fun _ s => .ok none s
def mpart (a : ME) : MO := fun ws s => (a ws s).bind fun x s => match x with
  | .int i => .ok (some i) s
  | _ => .no
def mslice (mu : Bool) (a : ME) (lo hi : MO) : ME := fun ws s => (a ws s).bind fun x s => (lo ws s).bind fun l s => (hi ws s).bind fun h s => R.of (gSl mu x l h s)
section
variable {X : Cx} {fz : Gz} {Wx : WX} {e : Expr} {me : ME} {lo hi : Option Expr} {ml mh : MO} {p2 pos : Pos}
def tMo (K : Kz) (Wx : WX) (m : MO) : TO := fun sg H Q => ∃ g s ws, Sim K g s H ∧ RSt K g ws sg ∧ Post K Wx g sg (fun o _ _ H' => Q o H') (m ws s)
theorem pmo_none : PO X none (tMo (X.K, fz) Wx mnop) :=
  ⟨fun pins s sg H Q I ⟨g, sw, ws, S, rs, h⟩ => po_none.run pins s sg H Q I (h g H Le.rfl S)⟩
theorem pmo_some (he : PE X e (tM (X.K, fz) Wx me)) : PO X (some e) (tMo (X.K, fz) Wx (mpart me)) := by
  refine ⟨fun pins s sg H Q I ⟨g, sw, ws, S, rs, h⟩ => (po_some he).run pins s sg H Q I ?_⟩
  refine ⟨g, sw, ws, S, rs, h.bind.imp fun x g1 s1 H1 p1 S1 h1 v rv => ?_⟩
  split at h1
  · cases rv
    exact ⟨_, rfl, h1 g1 H1 Le.rfl S1⟩
  · exact h1.elim
theorem pm_slice {mu : Bool} (he : PE X e (tM (X.K, fz) Wx me)) (hl : PO X lo (tMo (X.K, fz) Wx ml)) (hh : PO X hi (tMo (X.K, fz) Wx mh)) : PE X (.Subscript e (.Slice lo hi none p2) pos) (tM (X.K, fz) Wx (mslice mu me ml mh)) := by
  refine ⟨fun pins s sg H Q I ⟨g, sw, ws, S, rs, h⟩ => (pe_slice sl_Q he hl hh).run pins s sg H Q I ?_⟩
  refine ⟨g, sw, ws, S, rs, h.bind.imp fun x g1 s1 H1 p1 S1 h1 v rv => ?_⟩
  refine ⟨g1, s1, ws, S1, rs.mono p1, h1.bind.imp fun l g2 s2 H2 p2 S2 h2 => ?_⟩
  refine ⟨g2, s2, ws, S2, rs.mono (p1.trans p2), h2.bind.imp fun u g3 s3 H3 p3 S3 h3 => ?_⟩
  obtain ⟨w, s', e', q⟩ := h3.of
  exact l_sl S3 (rv.mono (p2.trans p3)) e' q
end
end Va

/-! Va6: isinstance; a def's promise by its meaning; calls of defs and of methods. -/
namespace Va
open PySem PySem.Spec PyProof.Rows L2
variable {K : PySem.W.Frag}
/-! ### isinstance -/
inductive Ty where
  | b (n : String) | c (x : Str)
  deriving DecidableEq
def Ty.v (K : PySem.W.Frag) : Ty → Value
  | .b n => .type n
  | .c x => .ref (He.ga K x)
def tyW (w : W) (s : Sto) : Option Ty := match w with
  | .non => some (.b "NoneType")
  | .bl _ => some (.b "bool")
  | .int _ => some (.b "int")
  | .str _ => some (.b "str")
  | w => match lstAt s w with
    | some _ => some (.b "list")
    | none => match tupAt w with
      | some _ => some (.b "tuple")
      | none => match dicAt s w with
        | some _ => some (.b "dict")
        | none => match insAt s w with
          | some (c, _) => some (.c c)
          | none => none
def clsW : W → Option Ty
  | .ty n => some (.b n)
  | .gl x => some (.c x)
  | _ => none
/-- what the text's classes must show for isinstance: a table of answers, and what an instance is -/
structure IsaOk (K : PySem.W.Frag) (tbl : List (Ty × Ty × Bool)) (cs : List Str) : Prop where
  ans : ∀ q ∈ tbl, PySem.W.kitOne K (q.1.v K) (q.2.1.v K) = some q.2.2
  own : ∀ x ∈ cs, Cls K (He.ga K x) ∧ PySem.W.findIn K (.ref (He.ga K x)) "__class__" = some (some (.builtin "object.__class__")) ∧ PySem.W.mroIn K (He.ga K x) (.type "object") = some true
  get : PySem.W.specialIn K (.builtin "object.__class__") "__get__" = some (some (.builtin "getset_descriptor.__get__"))
  tak : PySem.W.takesIn K (.builtin "object.__class__") = some true
def isaT (tbl : List (Ty × Ty × Bool)) (t c : Ty) : Option Bool := (tbl.find? fun q => decide (q.1 = t ∧ q.2.1 = c)).map (·.2.2)
theorem isaT_ok {tbl : List (Ty × Ty × Bool)} {cs : List Str} (h : IsaOk K tbl cs) {t c : Ty} {b : Bool} (e : isaT tbl t c = some b) : PySem.W.kitOne K (t.v K) (c.v K) = some b := by
  obtain ⟨q, e1, e2⟩ := Option.map_eq_some_iff.mp e
  have h1 := List.mem_of_find?_eq_some e1
  have h2 := List.find?_some e1
  simp only [decide_eq_true_eq] at h2
  have := h.ans q h1
  rw [h2.1, h2.2, e2] at this
  exact this
def isaAny (tbl : List (Ty × Ty × Bool)) (t : Ty) : List Ty → Option Bool
  | [] => some false
  | c :: r => match isaT tbl t c with
    | some true => some true
    | some false => isaAny tbl t r
    | none => none
theorem isaAny_ok {tbl : List (Ty × Ty × Bool)} {cs : List Str} (h : IsaOk K tbl cs) {t : Ty} : ∀ {l : List Ty} {b : Bool}, isaAny tbl t l = some b → PySem.W.kitAny K (t.v K) (l.map (Ty.v K)) = some b
  | [], _, e => e
  | c :: r, b, e => by
    unfold isaAny at e
    show (match PySem.W.kitOne K (t.v K) (c.v K) with
      | some true => some true
      | some false => PySem.W.kitAny K (t.v K) (r.map (Ty.v K))
      | none => none) = some b
    split at e
    · rename_i e1
      rw [isaT_ok h e1]; exact e
    · rename_i e1
      rw [isaT_ok h e1]; exact isaAny_ok h e
    · cases e
def clsWs : List W → Option (List Ty)
  | [] => some []
  | w :: r => match clsW w, clsWs r with
    | some t, some l => some (t :: l)
    | _, _ => none
def tyIn (cs : List Str) : Ty → Bool
  | .c y => cs.contains y
  | _ => true
def gIsi (tbl : List (Ty × Ty × Bool)) (cs : List Str) : Gs
  | [x, c], s => match tyW x s with
    | some t => if tyIn cs t then (match c with
        | .nd tg ws => match (tupAt (.nd tg ws)).bind clsWs with
          | some l => (match isaAny tbl t l with
            | some b => ok1 (.bl b) s
            | none => none)
          | none => none
        | c => match clsW c with
          | some u => (match isaT tbl t u with
            | some b => ok1 (.bl b) s
            | none => none)
          | none => none) else none
    | none => none
  | _, _ => none
end Va
namespace Va
open PySem PySem.Spec PyProof.Rows L2
variable {K : Kz}
theorem lst_tyX {H : Hp} {a : Addr} {vs : List V} (q : SqL K.1 H a vs) : TyX K.1 H (.ref a) (.type "list") := by
  rcases q with (q | ⟨o, q⟩) | ⟨o', its, n, hk, hc, _⟩
  · exact .base (.lst q)
  · exact .base (.frz q)
  · exact .kList hk hc
theorem tup_tyX {H : Hp} {a : Addr} {vs : List V} (q : SqT K.1 H a vs) : TyX K.1 H (.ref a) (.type "tuple") := by
  rcases q with (q | ⟨o, q⟩) | ⟨o', its, n, hk, hc, _⟩
  · exact .base (.tup q)
  · exact .fTuple q
  · exact .kTuple hk hc
theorem dic_tyX {H : Hp} {a : Addr} {vs : List (Key × V)} (q : Rd H a (.dK vs)) : TyX K.1 H (.ref a) (.type "dict") := by
  rcases q with q | ⟨o, q⟩
  · exact .base (.dK q)
  · exact .fDict q
theorem tyW_ok {tbl : List (Ty × Ty × Bool)} {cs : List Str} (h : IsaOk K.1 tbl cs) {al : Gh} {s : Sto} {H : Hp} {w : W} {v : V} {t : Ty} (S : Sim K al s H) (r : RW K al w v) (e : tyW w s = some t) (hc : ∀ y, t = .c y → y ∈ cs) : TyX K.1 H v (t.v K.1) := by
  unfold tyW at e
  split at e
  · cases e; cases r; exact .base .non
  · cases e; cases r; exact .base (.bl _)
  · cases e; cases r; exact .base (.int _)
  · cases e; cases r; exact .base (.str _)
  · split at e
    · rename_i xs es
      cases e
      obtain ⟨a, vs, rfl, _, q⟩ := lstAt_ok S r es
      exact lst_tyX q
    · split at e
      · rename_i xs es
        cases e
        obtain ⟨a, vs, rfl, _, q⟩ := tupAt_ok S r es
        exact tup_tyX q
      · split at e
        · rename_i xs es
          cases e
          obtain ⟨a, vs, rfl, _, q⟩ := dicAt_ok S r es
          exact dic_tyX q
        · split at e
          · rename_i c fs es
            cases e
            obtain ⟨a, dx, vs, rfl, _, q⟩ := insAt_ok S r es
            obtain ⟨k1, k2, k3⟩ := h.own c (hc c rfl)
            exact .base (.ins q k1 k2 h.get h.tak k3)
          · cases e
theorem clsW_ok {al : Gh} {w : W} {v : V} {t : Ty} (r : RW K al w v) (e : clsW w = some t) : ClsV v (t.v K.1) := by
  unfold clsW at e
  split at e
  · cases e; cases r; exact .ty _
  · cases e; cases r; exact .own _
  · cases e
theorem clsWs_ok {al : Gh} : ∀ {ws : List W} {vs : List V} {l : List Ty}, clsWs ws = some l → RWs K al ws vs → Paired ClsV vs (l.map (Ty.v K.1))
  | [], _, _, e, r => by cases e; cases r; exact .nil
  | w :: ws, _, _, e, r => by
    cases r with
    | cons r1 r2 =>
      unfold clsWs at e
      split at e
      · rename_i t l e1 e2
        cases e
        exact .cons (clsW_ok r1 e1) (clsWs_ok e2 r2)
      · cases e
theorem call_isiQ {X : Cx} {fz : Gz} {tbl : List (Ty × Ty × Bool)} {cs : List Str} (h : IsaOk X.K tbl cs) : CallR X (.builtin "isinstance") (rQs (X.K, fz) (gIsi tbl cs)) := by
  rintro pins sh sg H xs us Q I r ⟨al, s, ws, w, s', S, r1, e, b⟩
  unfold gIsi at e
  split at e
  · rename_i s0 x c
    obtain ⟨v1, v2, rfl, q1, q2⟩ := r1.inv2
    obtain ⟨u1, u2, rfl, ru1, ru2⟩ := vals2 r
    split at e
    · rename_i t et
      split at e
      · rename_i hc
        have ty := tyW_ok h S q1 et (fun y ey => by subst ey; simpa [tyIn] using hc)
        split at e
        · rename_i n
          split at e
          · rename_i l el
            split at e
            · rename_i k ek
              cases e
              obtain ⟨cs', e1, e2⟩ := Option.bind_eq_some_iff.mp el
              obtain ⟨a, vs, rfl, rv, sq⟩ := tupAt_ok S q2 e1
              cases ru2
              obtain ⟨P, Z, p, hx⟩ := kit_of I ru1 ty
              obtain ⟨its, rv2, ⟨o, ho, hcl, m, hd⟩, _⟩ := I.tuple sq
              have ei := ClsV.all (clsWs_ok e2 rv) rv2
              subst ei
              obtain ⟨oc, od, dt, sl⟩ := o
              cases hcl
              cases hd
              exact PySem.W.kia_tup Z I.kIn p ho (isaAny_ok h ek) hx fun tk => ⟨.bl k, H, I.tok tk, rfl, b.now S .bl⟩
            · cases e
          · cases e
        · split at e
          · rename_i u eu
            split at e
            · rename_i k ek
              cases e
              exact call_isi pins sh sg H _ _ Q I (.cons ru1 (.cons ru2 .nil)) ⟨v1, v2, _, _, k, rfl, clsW_ok q2 eu, ty, isaT_ok h ek, b.now S .bl⟩
            · cases e
          · cases e
      · cases e
    · cases e
  · cases e

/-! ### what a def promises -/
/-- a table of meanings: by the def's name (its qualified name), the arguments, the store -/
abbrev Tab := Str → List W → Sto → R W
/-- behind a call: what is wanted of the value, of an exception -/
def PostC (K : Kz) (al : Gh) (Q : VK) (E : XK) (r : R W) : Prop := Post K (fun c d _ H => E c d H) al [] (PW1 K Q) r
theorem PostC.at_ {Wx : WX} {al : Gh} {sg : L2.St} {Q : VK} {r : R W} (h : Post K Wx al sg (PW1 K Q) r) : PostC K al Q (fun c d H => Wx c d sg H) r := by
  cases r with
  | ok b s => exact h
  | er c d s => exact h
  | no => exact h
theorem PostC.mono {al bl : Gh} {Q : VK} {E : XK} {r : R W} (h : PostC K al Q E r) (p : Le al bl) : PostC K bl Q E r := Post.mono h p
structure FnQ (P : Program) (w : World) (K : PySem.W.Frag) (mg : Str → Option Value) (base : Heap) (k : Nat) (f : Addr) (fd : FuncData) (ps : List Str) (m : List W → Sto → R W) : Prop where
  run : ∀ (fz : Gz), fz.ex = none → ∀ (A : Around) (outer : List Env) (sh : Shared) (H : Hp) (args : Args) (us : List Value) (vs : List V) (ws : List W) (al : Gh) (s : Sto) (Q : VK) (E : XK), Room k A → A.guards = some [] → Env0 P w K mg base A outer sh H →
    BindsTo sh fd args (ps.zip us) → Vals vs us → ws.length = ps.length → Sim (K, fz) al s H → RWs (K, fz) al ws vs → PostC (K, fz) al Q E (m ws s) → codeAny (model P w) A (.call (.ref f) args) (CR (L2.CX P w) outer P w H sh Q E) sh
section
variable {X : Cx} {fz : Gz} {Wx : WX} {k : Nat} {f : Addr} {fd : FuncData} {ps : List Str} {m : List W → Sto → R W} {ds : List Value} {dws : List W}
/-- the callee runs -/
theorem run_q {pins : List (Addr × Obj)} {sg : L2.St} {H : Hp} {sh : Shared} {Q : VK} {us : List Value} {vs : List V} {ws : List W} {al : Gh} {s : Sto} (F : FnQ X.prog X.w X.K X.mg X.base k f fd ps m) (he : fz.ex = none) (hr : Room k X.A) (hg : X.A.guards = some []) (tk : Takes X Wx)
    (I : Inv X pins sg H sh) {args : Args} (hb : BindsTo sh fd args (ps.zip us)) (r : Vals vs us) (hl : ws.length = ps.length) (S : Sim (X.K, fz) al s H) (rw' : RWs (X.K, fz) al ws vs) (h : Post (X.K, fz) Wx al sg (PW1 (X.K, fz) Q) (m ws s)) :
    codeAny (model X.prog X.w) X.A (.call (.ref f) args) (fun r s' => match r with
      | .ok (.ret v) => EP X pins sg Q v s'
      | .ok _ => False
      | .error e => X.xe e s') sh := by
  refine codeAny_mono (F.run fz he X.A X.stack sh H args us vs ws al s Q (fun c d H' => Wx c d sg H') hr hg I.env0 hb r hl S rw' (PostC.at_ h)) fun r s' hq => ?_
  cases r with
  | error e => exact tk e s' (XE.of_call I (fun c d H' z => z) hq)
  | ok fl =>
    cases fl with
    | ret u => exact I.after hq
    | next => exact hq.elim
    | brk => exact hq.elim
    | cont => exact hq.elim
end
end Va

/-! Va7: statements by their meanings; a def's body. -/
namespace Va
open PySem PySem.Spec PyProof.Rows L2
/-- a statement's result: it goes on, returns, breaks, continues, raises -/
inductive RS where
  | nx (ws : Loc) (s : Sto) | rt (w : W) (s : Sto) | bk (ws : Loc) (s : Sto) | ct (ws : Loc) (s : Sto) | er (c : Str) (fs : List (Str × W)) (ws : Loc) (s : Sto) | no
abbrev MS := Loc → Sto → RS
def RS.andThen (r : RS) (f : MS) : RS := match r with
  | .nx ws s => f ws s
  | r => r
/-- from an expression's result -/
def R.toS {B : Type} (r : R B) (ws : Loc) (f : B → Sto → RS) : RS := match r with
  | .ok b s => f b s
  | .er c d s => .er c d ws s
  | .no => .no
section
variable (K : Kz) (Wx : WX)
def PostS (al : Gh) (D : Ends) : RS → Prop
  | .nx ws s => ∀ (al' : Gh) (H' : Hp) (sg' : L2.St), Le al al' → Sim K al' s H' → RSt K al' ws sg' → D.nx sg' H'
  | .rt w s => ∀ (al' : Gh) (H' : Hp) (v : V), Le al al' → Sim K al' s H' → RW K al' w v → D.rt v H'
  | .bk ws s => ∀ (al' : Gh) (H' : Hp) (sg' : L2.St), Le al al' → Sim K al' s H' → RSt K al' ws sg' → D.bk sg' H'
  | .ct ws s => ∀ (al' : Gh) (H' : Hp) (sg' : L2.St), Le al al' → Sim K al' s H' → RSt K al' ws sg' → D.ct sg' H'
  | .er c fs ws s => ∀ (al' : Gh) (H' : Hp) (sg' : L2.St) (a : Addr) (vs : List (Str × V)), Le al al' → Sim K al' s H' → RSt K al' ws sg' → al'.hf a = some (.xd vs) → RKs K al' fs vs → Wx (.ref (He.ga K.1 c)) (some a) sg' H'
  | .no => False
def tMS (m : MS) : TS := fun D sg H => ∃ al s ws, Sim K al s H ∧ RSt K al ws sg ∧ PostS K Wx al D (m ws s)
end
section
variable {K : Kz} {Wx : WX} {al al' : Gh} {D D' : Ends}
theorem PostS.mono {r : RS} (h : PostS K Wx al D r) (p : Le al al') : PostS K Wx al' D r := by
  cases r with
  | nx ws s => exact fun al2 H2 sg q => h al2 H2 sg (p.trans q)
  | rt w s => exact fun al2 H2 v q => h al2 H2 v (p.trans q)
  | bk ws s => exact fun al2 H2 sg q => h al2 H2 sg (p.trans q)
  | ct ws s => exact fun al2 H2 sg q => h al2 H2 sg (p.trans q)
  | er c d ws s => exact fun al2 H2 sg a vs q => h al2 H2 sg a vs (p.trans q)
  | no => exact h
/-- what follows is asked of the state behind -/
theorem PostS.then_ {r : RS} {f : MS} (h : PostS K Wx al D (r.andThen f)) : PostS K Wx al { D with nx := fun sg H => tMS K Wx f D sg H } r := by
  cases r with
  | nx ws s => exact fun al2 H2 sg q S rs => ⟨al2, s, ws, S, rs, (show PostS K Wx al D (f ws s) from h).mono q⟩
  | _ => exact h
/-- an expression's end inside a statement -/
theorem PostS.expr {B : Type} {r : R B} {ws : Loc} {sg : L2.St} {f : B → Sto → RS} (h : PostS K Wx al D (r.toS ws f)) (rs : RSt K al ws sg) : Post K Wx al sg (fun b al' s' _ => PostS K Wx al' D (f b s')) r := by
  cases r with
  | ok b s => exact fun al2 H2 q S => (show PostS K Wx al D (f b s) from h).mono q
  | er c d s => exact fun al2 H2 a vs q S e r => h al2 H2 sg a vs q S (rs.mono q) e r
  | no => exact h
end
section
variable {X : Cx} {fz : Gz} {Wx : WX} {st : Stmt} {rest : List Stmt} {m m' : MS} {e : Expr} {me : ME} {pos : Pos}
/-! ### blocks -/
def snil : MS := fun ws s => .nx ws s
def sseq (a b : MS) : MS := fun ws s => (a ws s).andThen b
theorem qs_nil : PSs X [] (tMS (X.K, fz) Wx snil) :=
  ⟨fun pins sh sg H D I ⟨al, s, ws, S, rs, h⟩ => pss_nil.run pins sh sg H D I (h al H sg Le.rfl S rs)⟩
theorem qs_cons (h1 : PS X st (tMS (X.K, fz) Wx m)) (h2 : PSs X rest (tMS (X.K, fz) Wx m')) : PSs X (st :: rest) (tMS (X.K, fz) Wx (sseq m m')) :=
  ⟨fun pins sh sg H D I ⟨al, s, ws, S, rs, h⟩ => (pss_cons h1 h2).run pins sh sg H D I ⟨al, s, ws, S, rs, h.then_⟩⟩
/-! ### small statements -/
def spass : MS := fun ws s => .nx ws s
def sbreak : MS := fun ws s => .bk ws s
def scont : MS := fun ws s => .ct ws s
theorem q_pass : PS X (.Pass pos) (tMS (X.K, fz) Wx spass) := ⟨fun pins sh sg H D I ⟨al, s, ws, S, rs, h⟩ => ps_pass.run pins sh sg H D I (h al H sg Le.rfl S rs)⟩
theorem q_break : PS X (.Break pos) (tMS (X.K, fz) Wx sbreak) := ⟨fun pins sh sg H D I ⟨al, s, ws, S, rs, h⟩ => ps_break.run pins sh sg H D I (h al H sg Le.rfl S rs)⟩
theorem q_cont : PS X (.Continue pos) (tMS (X.K, fz) Wx scont) := ⟨fun pins sh sg H D I ⟨al, s, ws, S, rs, h⟩ => ps_continue.run pins sh sg H D I (h al H sg Le.rfl S rs)⟩
theorem q_doc {x j pos pos'} : PS X (.Expr (.Constant (.str x) j pos) pos') (tMS (X.K, fz) Wx spass) := ⟨fun pins sh sg H D I ⟨al, s, ws, S, rs, h⟩ => ps_doc.run pins sh sg H D I (h al H sg Le.rfl S rs)⟩
def sexpr (a : ME) : MS := fun ws s => (a ws s).toS ws fun _ s => .nx ws s
theorem q_expr (he : PE X e (tM (X.K, fz) Wx me)) (hs : swapsWith e none pos.line X.env = pure false) : PS X (.Expr e pos) (tMS (X.K, fz) Wx (sexpr me)) :=
  ⟨fun pins sh sg H D I ⟨al, s, ws, S, rs, h⟩ => (ps_expr he hs).run pins sh sg H D I ⟨al, s, ws, S, rs, (h.expr rs).imp fun w al1 s1 H1 p1 S1 h1 v rv => h1 al1 H1 sg Le.rfl S1 (rs.mono p1)⟩⟩
def sret (a : ME) : MS := fun ws s => (a ws s).toS ws fun w s => .rt w s
theorem q_ret (he : PE X e (tM (X.K, fz) Wx me)) : PS X (.Return (some e) pos) (tMS (X.K, fz) Wx (sret me)) :=
  ⟨fun pins sh sg H D I ⟨al, s, ws, S, rs, h⟩ => (ps_ret he).run pins sh sg H D I ⟨al, s, ws, S, rs, (h.expr rs).imp fun w al1 s1 H1 p1 S1 h1 v rv => h1 al1 H1 v Le.rfl S1 rv⟩⟩
def sretN : MS := fun _ s => .rt .non s
theorem q_retN : PS X (.Return none pos) (tMS (X.K, fz) Wx sretN) := ⟨fun pins sh sg H D I ⟨al, s, ws, S, rs, h⟩ => ps_retN.run pins sh sg H D I (h al H .non Le.rfl S .non)⟩
/-! ### if -/
def sif (c : MT) (a b : MS) : MS := fun ws s => (c ws s).toS ws fun k s => if k = true then a ws s else b ws s
theorem q_if {c : Expr} {a b : List Stmt} {mt : MT} {ma mb : MS} (hc : PT X c (tMt (X.K, fz) Wx mt)) (ha : PSs X a (tMS (X.K, fz) Wx ma)) (hb : PSs X b (tMS (X.K, fz) Wx mb)) : PS X (.If c a b pos) (tMS (X.K, fz) Wx (sif mt ma mb)) := by
  refine ⟨fun pins sh sg H D I ⟨al, s, ws, S, rs, h⟩ => (ps_if hc ha hb).run pins sh sg H D I ?_⟩
  refine ⟨al, s, ws, S, rs, (h.expr rs).imp fun k al1 s1 H1 p1 S1 h1 => ?_⟩
  cases k with
  | true => exact iteT ⟨al1, s1, ws, S1, rs.mono p1, h1⟩
  | false => exact iteF ⟨al1, s1, ws, S1, rs.mono p1, h1⟩
/-! ### tests -/
variable {a b : Expr} {ma mb : ME} {ta tb : MT}
theorem TruV.dic {K : PySem.W.Frag} {H : Hp} {a : Addr} {vs : List (Key × V)} {k : Bool} (q : H a = some (.dK vs)) (hk : k = !vs.isEmpty) : TruV K (.ref a) H k := .inr (.inr ⟨vs, q, hk⟩)
theorem gtru_ok {K : Kz} {al : Gh} {s : Sto} {H : Hp} {w : W} {v : V} {k : Bool} (S : Sim K al s H) (r : RW K al w v) (e : gtru w s = some k) : TruV K.1 v H k := by
  unfold gtru at e
  split at e
  · cases e; cases r; rfl
  · cases e; cases r; rfl
  · cases e; cases r; rfl
  · split at e
    · rename_i hx
      cases e; cases r
      refine ⟨by rw [line_eq]; exact hx, ?_⟩
      rw [Bool.eq_iff_iff]
      simp
    · cases e
  · split at e
    · rename_i xs es
      cases e
      obtain ⟨a, vs, rfl, ru, q⟩ := seqAt_ok S r es
      rcases q with q | q
      · exact .inl ⟨vs, q, by cases ru <;> rfl⟩
      · exact .inr (.inl ⟨vs, q, by cases ru <;> rfl⟩)
    · cases e
/-- any expression by its value's truth -/
theorem pmt_truth (ha : PE X a (tM (X.K, fz) Wx ma)) (he : ∀ whole, isTrue a X.env whole = (do let v ← whole; standAt a.pos; holding [v] (truthy v))) : PT X a (tMt (X.K, fz) Wx (mtru gtru ma)) := by
  refine ⟨fun pins sh sg H Q I ⟨al, s, ws, S, rs, h⟩ => (pt_truth ha he).run pins sh sg H Q I ?_⟩
  refine ⟨al, s, ws, S, rs, h.bind.imp fun w al1 s1 H1 p1 S1 h1 v rv => ?_⟩
  split at h1
  · rename_i k ek
    exact ⟨k, gtru_ok S1 rv ek, h1 al1 H1 Le.rfl S1⟩
  · exact h1.elim
def asBl : W → Option Bool
  | .bl b => some b
  | _ => none
/-- a comparison, as a test -/
def mtb (a : ME) : MT := fun ws s => (a ws s).bind fun x s => match x with
  | .bl b => .ok b s
  | _ => .no
theorem mtb_ok {te : TE} {al : Gh} {s : Sto} {ws : Loc} {sg : L2.St} {H : Hp} {Q : Bool → Hp → Prop} (hte : ∀ Q : VK, tM (X.K, fz) Wx ma sg H Q → te sg H Q) (S : Sim (X.K, fz) al s H) (rs : RSt (X.K, fz) al ws sg) (h : Post (X.K, fz) Wx al sg (fun b _ _ H' => Q b H') (mtb ma ws s)) :
    tTest te sg H Q := by
  refine hte _ ⟨al, s, ws, S, rs, h.bind.imp fun w al1 s1 H1 p1 S1 h1 v rv => ?_⟩
  split at h1
  · cases rv
    exact ⟨_, rfl, h1 al1 H1 Le.rfl S1⟩
  · exact h1.elim
theorem pmt_cmp {op : CmpOp} {r : R2} {g : G2} (ho : OpR X (compareOp op) r) (L : Lift2 (X.K, fz) r g) (ha : PE X a (tM (X.K, fz) Wx ma)) (hb : PE X b (tM (X.K, fz) Wx mb)) (hm : behindInMarks op b = false) : PT X (.Compare a [op] [b] pos) (tMt (X.K, fz) Wx (mtb (mbin g ma mb))) :=
  ⟨fun pins sh sg H Q I ⟨al, s, ws, S, rs, h⟩ => (pt_cmpR ho ha hb hm).run pins sh sg H Q I (mtb_ok (fun Q ⟨al, s, ws, S, rs, h⟩ => two_ok L S rs h) S rs h)⟩
/-- a op b op' c -/
def mchain (g g' : G2) (a b c : ME) : ME := fun ws s => (a ws s).bind fun x s => (b ws s).bind fun y s => (R.of (g x y s)).bind fun z s => match z with
  | .bl k => if k = true then (c ws s).bind fun u s => R.of (g' y u s) else .ok (.bl false) s
  | _ => .no
variable {c : Expr} {mc' : ME}
theorem chain_ok {r r' : R2} {g g' : G2} (L : Lift2 (X.K, fz) r g) (L' : Lift2 (X.K, fz) r' g') {al : Gh} {s : Sto} {ws : Loc} {sg : L2.St} {H : Hp} {Q : VK} (S : Sim (X.K, fz) al s H) (rs : RSt (X.K, fz) al ws sg) (h : Post (X.K, fz) Wx al sg (PW1 (X.K, fz) Q) (mchain g g' ma mb mc' ws s)) :
    tChain r r' (tM (X.K, fz) Wx ma) (tM (X.K, fz) Wx mb) (tM (X.K, fz) Wx mc') sg H Q := by
  refine ⟨al, s, ws, S, rs, h.bind.imp fun x al1 s1 H1 p1 S1 h1 v rv => ?_⟩
  refine ⟨al1, s1, ws, S1, rs.mono p1, h1.bind.imp fun y al2 s2 H2 p2 S2 h2 u ru => ?_⟩
  obtain ⟨z, s3, e, h3⟩ := h2.bind.of
  refine L al2 s2 s3 H2 x y z v u _ S2 (rv.mono p2) ru e fun al3 H3 p3 S3 v3 rv3 => ?_
  have h4 := h3 al3 H3 p3 S3
  split at h4
  · rename_i k
    cases rv3
    refine ⟨k, rfl, ?_⟩
    cases k with
    | true =>
      refine iteT ⟨al3, s3, ws, S3, rs.mono (p1.trans (p2.trans p3)), ?_⟩
      rw [if_pos rfl] at h4
      refine h4.bind.imp fun u' al4 s4 H4 p4 S4 h5 v5 rv5 => ?_
      obtain ⟨w, s5, e5, q5⟩ := h5.of
      exact L' al4 s4 s5 H4 y u' w _ _ Q S4 (ru.mono (p3.trans p4)) rv5 e5 q5
    | false =>
      rw [if_neg Bool.false_ne_true] at h4
      exact iteF (h4 al3 H3 Le.rfl S3 _ .bl)
  · exact h4.elim
theorem pm_chain {op op' : CmpOp} {r r' : R2} {g g' : G2} (ho : OpR X (compareOp op) r) (L : Lift2 (X.K, fz) r g) (ho' : OpR X (compareOp op') r') (L' : Lift2 (X.K, fz) r' g') (ha : PE X a (tM (X.K, fz) Wx ma)) (hb : PE X b (tM (X.K, fz) Wx mb)) (hc : PE X c (tM (X.K, fz) Wx mc'))
    (hm : lastMarks [op, op'] [b, c] = false) : PE X (.Compare a [op, op'] [b, c] pos) (tM (X.K, fz) Wx (mchain g g' ma mb mc')) :=
  ⟨fun pins sh sg H Q I ⟨al, s, ws, S, rs, h⟩ => (pe_chain ho ho' ha hb hc hm).run pins sh sg H Q I (chain_ok L L' S rs h)⟩
theorem pmt_chain {op op' : CmpOp} {r r' : R2} {g g' : G2} (ho : OpR X (compareOp op) r) (L : Lift2 (X.K, fz) r g) (ho' : OpR X (compareOp op') r') (L' : Lift2 (X.K, fz) r' g') (ha : PE X a (tM (X.K, fz) Wx ma)) (hb : PE X b (tM (X.K, fz) Wx mb)) (hc : PE X c (tM (X.K, fz) Wx mc'))
    (hm : lastMarks [op, op'] [b, c] = false) : PT X (.Compare a [op, op'] [b, c] pos) (tMt (X.K, fz) Wx (mtb (mchain g g' ma mb mc'))) :=
  ⟨fun pins sh sg H Q I ⟨al, s, ws, S, rs, h⟩ => (pt_chain ho ho' ha hb hc hm).run pins sh sg H Q I (mtb_ok (fun Q ⟨al, s, ws, S, rs, h⟩ => chain_ok L L' S rs h) S rs h)⟩
/-- and, or, not, as tests -/
theorem pmw_and1 (ha : PT X a (tMt (X.K, fz) Wx ta)) : PW X (.BoolOp .And [a] pos) (tMt (X.K, fz) Wx ta) := pw_and1 ha
theorem pmw_or1 (ha : PT X a (tMt (X.K, fz) Wx ta)) : PW X (.BoolOp .Or [a] pos) (tMt (X.K, fz) Wx ta) := pw_or1 ha
theorem pmw_and {rs' : List Expr} (ha : PT X a (tMt (X.K, fz) Wx ta)) (hb : PW X (.BoolOp .And (b :: rs') pos) (tMt (X.K, fz) Wx tb)) : PW X (.BoolOp .And (a :: b :: rs') pos) (tMt (X.K, fz) Wx (mand ta tb)) := by
  refine ⟨fun wh pins sh sg H Q I ⟨al, s, ws, S, rs, h⟩ => (pw_and ha hb).run wh pins sh sg H Q I ?_⟩
  refine ⟨al, s, ws, S, rs, h.bind.imp fun k al1 s1 H1 p1 S1 h1 => ?_⟩
  cases k with
  | true => exact iteT ⟨al1, s1, ws, S1, rs.mono p1, h1⟩
  | false => exact iteF (h1 al1 H1 Le.rfl S1)
theorem pmw_or {rs' : List Expr} (ha : PT X a (tMt (X.K, fz) Wx ta)) (hb : PW X (.BoolOp .Or (b :: rs') pos) (tMt (X.K, fz) Wx tb)) : PW X (.BoolOp .Or (a :: b :: rs') pos) (tMt (X.K, fz) Wx (mor ta tb)) := by
  refine ⟨fun wh pins sh sg H Q I ⟨al, s, ws, S, rs, h⟩ => (pw_or ha hb).run wh pins sh sg H Q I ?_⟩
  refine ⟨al, s, ws, S, rs, h.bind.imp fun k al1 s1 H1 p1 S1 h1 => ?_⟩
  cases k with
  | true => exact iteT (h1 al1 H1 Le.rfl S1)
  | false => exact iteF ⟨al1, s1, ws, S1, rs.mono p1, h1⟩
theorem pmt_not (ha : PT X a (tMt (X.K, fz) Wx ta)) : PT X (.UnaryOp .Not a pos) (tMt (X.K, fz) Wx (mnot ta)) := by
  refine ⟨fun pins sh sg H Q I ⟨al, s, ws, S, rs, h⟩ => (pt_not ha).run pins sh sg H Q I ?_⟩
  exact ⟨al, s, ws, S, rs, h.bind.imp fun k al1 s1 H1 p1 S1 h1 => h1 al1 H1 Le.rfl S1⟩
/-! ### and, or, not, if .. else, as values -/
/-- a and b, a a bool -/
def mandV (a b : ME) : ME := fun ws s => (a ws s).bind fun x s => match x with
  | .bl k => if k = true then b ws s else .ok (.bl false) s
  | _ => .no
def morV (a b : ME) : ME := fun ws s => (a ws s).bind fun x s => match x with
  | .bl k => if k = true then .ok (.bl true) s else b ws s
  | _ => .no
def mnotV (a : ME) : ME := fun ws s => (a ws s).bind fun x s => match x with
  | .bl k => .ok (.bl (!k)) s
  | _ => .no
def mif (c : MT) (a b : ME) : ME := fun ws s => (c ws s).bind fun k s => if k = true then a ws s else b ws s
theorem pm_one {op} (h : PE X a (tM (X.K, fz) Wx ma)) : PE X (.BoolOp op [a] pos) (tM (X.K, fz) Wx ma) := pe_one h
theorem pm_andV {rs' : List Expr} (ha : PE X a (tM (X.K, fz) Wx ma)) (hb : PE X (.BoolOp .And (b :: rs') pos) (tM (X.K, fz) Wx mb)) : PE X (.BoolOp .And (a :: b :: rs') pos) (tM (X.K, fz) Wx (mandV ma mb)) := by
  refine ⟨fun pins sh sg H Q I ⟨al, s, ws, S, rs, h⟩ => (pe_and ha hb).run pins sh sg H Q I ?_⟩
  refine ⟨al, s, ws, S, rs, h.bind.imp fun x al1 s1 H1 p1 S1 h1 v rv => ?_⟩
  split at h1
  · rename_i k
    cases rv
    refine ⟨k, rfl, ?_⟩
    cases k with
    | true => exact iteT ⟨al1, s1, ws, S1, rs.mono p1, h1⟩
    | false => exact iteF (h1 al1 H1 Le.rfl S1 _ .bl)
  · exact h1.elim
theorem pm_orV {rs' : List Expr} (ha : PE X a (tM (X.K, fz) Wx ma)) (hb : PE X (.BoolOp .Or (b :: rs') pos) (tM (X.K, fz) Wx mb)) : PE X (.BoolOp .Or (a :: b :: rs') pos) (tM (X.K, fz) Wx (morV ma mb)) := by
  refine ⟨fun pins sh sg H Q I ⟨al, s, ws, S, rs, h⟩ => (pe_or ha hb).run pins sh sg H Q I ?_⟩
  refine ⟨al, s, ws, S, rs, h.bind.imp fun x al1 s1 H1 p1 S1 h1 v rv => ?_⟩
  split at h1
  · rename_i k
    cases rv
    refine ⟨k, rfl, ?_⟩
    cases k with
    | true => exact iteT (h1 al1 H1 Le.rfl S1 _ .bl)
    | false => exact iteF ⟨al1, s1, ws, S1, rs.mono p1, h1⟩
  · exact h1.elim
theorem pm_notV (ha : PE X a (tM (X.K, fz) Wx ma)) : PE X (.UnaryOp .Not a pos) (tM (X.K, fz) Wx (mnotV ma)) := by
  refine ⟨fun pins sh sg H Q I ⟨al, s, ws, S, rs, h⟩ => (pe_not ha).run pins sh sg H Q I ?_⟩
  refine ⟨al, s, ws, S, rs, h.bind.imp fun x al1 s1 H1 p1 S1 h1 v rv => ?_⟩
  split at h1
  · cases rv
    exact ⟨_, rfl, h1 al1 H1 Le.rfl S1 _ .bl⟩
  · exact h1.elim
theorem pm_if {t : Expr} {mt : MT} (hc : PT X t (tMt (X.K, fz) Wx mt)) (ha : PE X a (tM (X.K, fz) Wx ma)) (hb : PE X b (tM (X.K, fz) Wx mb)) : PE X (.IfExp t a b pos) (tM (X.K, fz) Wx (mif mt ma mb)) := by
  refine ⟨fun pins sh sg H Q I ⟨al, s, ws, S, rs, h⟩ => (pe_ifExp hc ha hb).run pins sh sg H Q I ?_⟩
  refine ⟨al, s, ws, S, rs, h.bind.imp fun k al1 s1 H1 p1 S1 h1 => ?_⟩
  cases k with
  | true => exact iteT ⟨al1, s1, ws, S1, rs.mono p1, h1⟩
  | false => exact iteF ⟨al1, s1, ws, S1, rs.mono p1, h1⟩
end
end Va

/-! Va8: a def's body keeps its promise; what may be called: defs, classes, methods; all forms of calls. -/
namespace Va
open PySem PySem.Spec PyProof.Rows L2
/-- a body's meaning as a def's: n slots, the parameters first -/
def runB (n : Nat) (m : MS) (ws : List W) (s : Sto) : R W := match m (ws.map some ++ List.replicate (n - ws.length) none) s with
  | .nx _ s' => .ok .non s'
  | .rt w s' => .ok w s'
  | .er c d _ s' => .er c d s'
  | _ => .no
/-- what was made meanwhile becomes a tree, but for the result's objects to the depth d -/
def runT (d : Nat) (n : Nat) (m : MS) (ws : List W) (s : Sto) : R W := (runB n m ws s).trim d s
/-- the context that a def's body stands in, at its entry -/
abbrev cxQ (P : Program) (w : World) (K : PySem.W.Frag) (mg : Str → Option Value) (base : Heap) (N : List Str) (qual : Str) (scope : Scope) (f : Addr) (cd : Value) (A : Around) (outer : List Env) (sh : Shared) (H : Hp) (E : XK) : Cx := cxOf (L2.CX P w) P w K mg base N qual scope f cd A outer sh H E
theorem fnq_of {P : Program} {w : World} {K : PySem.W.Frag} {mg : Str → Option Value} {base : Heap} {k : Nat} {f : Addr} {x qual : Str} {params : Arguments} {body : List Stmt} {scope : Scope} {dvs : List V} {kws : List (Str × V)} {fd : FuncData} {N ps : List Str} {m : MS}
    (F : FunD K x qual params body scope dvs kws f fd) (S : FnScope N ps scope)
    (hb : ∀ (fz : Gz), fz.ex = none → ∀ (cdv : Value) (A : Around) (outer : List Env) (sh : Shared) (H : Hp) (E : XK), Room k (A.deeper (envOfC qual scope sh.heap.objs.size f cdv)) → A.guards = some [] →
      PSs (cxQ P w K mg base N qual scope f cdv A outer sh H E) body (tMS (K, fz) (fun c d _ H' => E c d H') m)) :
    FnQ P w K mg base (k + 1) f fd ps (runB N.length m) := by
  obtain ⟨oc, od, dV, kV, doc, pm, an, cdv, ct, osl, rfl, lk, hcd, _, _⟩ := F.ex
  refine ⟨fun fz he A outer sh H args us vs ws al s Q E hr hg e0 hbi rv hl Sm rW hP => ?_⟩
  have KX : K.In sh.heap := e0.mod.kin.keeps fun b o e => (e0.bs b o e).1
  have lim : sh.heap.NoLimit := e0.mod.nolimit.keeps fun b o e => (e0.bs b o e).1
  have hvl : vs.length = ps.length := by rw [← rW.length]; exact hl
  refine codeAny_call_function hr.depth (KX _ _ lk) rfl S.co S.gen rfl (PySem.W.codeRec_of KX hcd) (hbi _ _ _ _ ?_)
  refine wpAny_newFunctionEnv_cells S.kind (fun y hy => ?_) fun env he s1 q => ?_
  · rcases S.par y.1 (List.of_mem_zip (show (y.1, y.2) ∈ ps.zip us from hy)).1 with z | z
    · exact .inl z
    · exact .inr ⟨z, PySem.W.cellsFrom_some _ _ _ (.inl z)⟩
  · subst he
    refine ⟨lim.keeps q.toInCall.keep, codeAny_func ?_⟩
    have I := inv_start (CX := L2.CX P w) (E := E) S hr.hd e0 hvl rv q
    have hd : wpAny (model P w) (A.deeper (envOfC qual scope sh.heap.objs.size f cdv)) (execs body (envOfC qual scope sh.heap.objs.size f cdv))
        (SP (cxQ P w K mg base N qual scope f cdv A outer sh H E) [] { nx := fun _ H' => Q .non H', rt := Q }) (cxQ P w K mg base N qual scope f cdv A outer sh H E).xe s1 := by
      refine (hb fz he cdv A outer sh H E (hr.deeper _) hg).run [] s1 (L2.start N vs) H { nx := fun _ H' => Q .non H', rt := Q } I ⟨al, s, ws.map some ++ List.replicate (N.length - ws.length) none, Sm, ?_, ?_⟩
      · unfold L2.start
        rw [show vs.length = ws.length from rW.length.symm]
        exact rW.startSt _
      · unfold runB PostC at hP
        cases e : m (ws.map some ++ List.replicate (N.length - ws.length) none) s with
        | nx ws' s' => rw [e] at hP; exact fun al' H' sg' p S' _ => hP al' H' p S' .non .non
        | rt w' s' => rw [e] at hP; exact fun al' H' v p S' r => hP al' H' p S' v r
        | er c d ws' s' => rw [e] at hP; exact fun al' H' sg' a vs p S' _ ea rk => hP al' H' a vs p S' ea rk
        | bk _ _ => rw [e] at hP; exact hP.elim
        | ct _ _ => rw [e] at hP; exact hP.elim
        | no => rw [e] at hP; exact hP.elim
    refine wpAny_mono hd (fun fl s' hs => ?_) fun _ _ z => z
    have fin : ∀ {sg' : L2.St} {H' : Hp} {v : V} {u : Value}, Inv (cxQ P w K mg base N qual scope f cdv A outer sh H E) [] sg' H' s' → RelV v u → Q v H' → CE outer P w H sh Q u s' := fun J r z => ⟨_, _, J.os, J.bare, J.base, J.hok, r, z⟩
    cases fl with
    | ret u => obtain ⟨v, sg', H', J, r, z⟩ := hs; exact fin J r z
    | next => obtain ⟨sg', H', J, z⟩ := hs; exact fin (v := V.non) J rfl z
    | brk => obtain ⟨_, _, _, z⟩ := hs; exact z.elim
    | cont => obtain ⟨_, _, _, z⟩ := hs; exact z.elim
/-- in a def's body: what is raised is taken as the def's promise says -/
theorem takesQ {P : Program} {w : World} {K : PySem.W.Frag} {mg : Str → Option Value} {base : Heap} {N : List Str} {qual : Str} {scope : Scope} {f : Addr} {cd : Value} {A : Around} {outer : List Env} {sh : Shared} {H : Hp} {E : XK} :
    Takes (cxQ P w K mg base N qual scope f cd A outer sh H E) (fun c d _ H' => E c d H') := takes_of rfl rfl rfl rfl
theorem ownQ {P : Program} {w : World} {K : PySem.W.Frag} {mg : Str → Option Value} {base : Heap} {N : List Str} {qual : Str} {scope : Scope} {f : Addr} {cd : Value} {A : Around} {outer : List Env} {sh : Shared} {H : Hp} {E : XK} :
    PassesOwn (model P w) (cxQ P w K mg base N qual scope f cd A outer sh H E).A (cxQ P w K mg base N qual scope f cd A outer sh H E).env (cxQ P w K mg base N qual scope f cd A outer sh H E).xe := passes_of rfl


theorem FnQ.trim {P : Program} {w : World} {K : PySem.W.Frag} {mg : Str → Option Value} {base : Heap} {k : Nat} {f : Addr} {fd : FuncData} {ps : List Str} {m : List W → Sto → R W} (F : FnQ P w K mg base k f fd ps m) (d : Nat) : FnQ P w K mg base k f fd ps fun ws s => (m ws s).trim d s :=
  ⟨fun fz he A outer sh H args us vs ws al s Q E hr hg e0 hb r hl S rw' h => F.run fz he A outer sh H args us vs ws al s Q E hr hg e0 hb r hl S rw' (Post.trim S h)⟩
/-! ### what may be called -/
abbrev MF := List W → List (Str × W) → Sto → R W
/-- the def at f, called by any arguments -/
structure FnA (P : Program) (w : World) (K : PySem.W.Frag) (mg : Str → Option Value) (base : Heap) (k : Nat) (f : Addr) (m : MF) : Prop where
  run : ∀ (fz : Gz), fz.ex = none → ∀ (A : Around) (outer : List Env) (sh : Shared) (H : Hp) (us : List Value) (kus : List (Str × Value)) (vs : List V) (kvs : List (Str × V)) (ws : List W) (kws : List (Str × W)) (g : Gh) (s : Sto) (Q : VK) (E : XK), Room k A → A.guards = some [] → Env0 P w K mg base A outer sh H →
    Vals vs us → KV kvs kus → Sim (K, fz) g s H → RWs (K, fz) g ws vs → RKs (K, fz) g kws kvs → PostC (K, fz) g Q E (m ws kws s) → codeAny (model P w) A (.call (.ref f) ⟨us, kus⟩) (CR (L2.CX P w) outer P w H sh Q E) sh
theorem FnA.up {P : Program} {w : World} {K : PySem.W.Frag} {mg : Str → Option Value} {base : Heap} {j k : Nat} {f : Addr} {m : MF} (F : FnA P w K mg base j f m) (h : j ≤ k) : FnA P w K mg base k f m :=
  ⟨fun fz he A outer sh H us kus vs kvs ws kws g s Q E hr => F.run fz he A outer sh H us kus vs kvs ws kws g s Q E (hr.mono h)⟩
/-- where a parameter's value comes from: a positional argument, a keyword's, the default -/
inductive Src where
  | p (i : Nat) | k (j : Nat) | d (w : W)
structure Shp where
  n : Nat
  ks : List Str
  arr : List Src
def Src.w (ws kws : List W) : Src → Option W
  | .p i => ws[i]?
  | .k j => kws[j]?
  | .d w => some w
def arrW (ws kws : List W) : List Src → Option (List W)
  | [] => some []
  | x :: r => match x.w ws kws, arrW ws kws r with
    | some y, some ys => some (y :: ys)
    | _, _ => none
def shpA (l : List Shp) (m : List W → Sto → R W) : MF := fun ws kws s => match l.find? fun q => decide (q.n = ws.length ∧ q.ks = kws.map (·.1)) with
  | some q => (match arrW ws (kws.map (·.2)) q.arr with
    | some xs => m xs s
    | none => .no)
  | none => .no
def CstV (K : PySem.W.Frag) (w : W) (u : Value) : Prop := ∃ v, RelV v u ∧ ∀ fz g, RW (K, fz) g w v
/-- the values stand at the parameters -/
inductive ArrV (K : PySem.W.Frag) (us kus : List Value) : List Src → List Value → Prop
  | nil : ArrV K us kus [] []
  | p {i u r xs} : us[i]? = some u → ArrV K us kus r xs → ArrV K us kus (.p i :: r) (u :: xs)
  | k {i u r xs} : kus[i]? = some u → ArrV K us kus r xs → ArrV K us kus (.k i :: r) (u :: xs)
  | d {w u r xs} : CstV K w u → ArrV K us kus r xs → ArrV K us kus (.d w :: r) (u :: xs)
def ShOk (K : PySem.W.Frag) (fd : FuncData) (ps : List Str) (q : Shp) : Prop := ∀ (s : Shared) (us kus : List Value), K.In s.heap → us.length = q.n → kus.length = q.ks.length → ∃ xs, xs.length = ps.length ∧ BindsTo s fd ⟨us, q.ks.zip kus⟩ (ps.zip xs) ∧ ArrV K us kus q.arr xs
theorem arr_ok {K : Kz} {g : Gh} {us kus xs : List Value} {vs kvs : List V} {ws kws ys : List W} {arr : List Src} (a : ArrV K.1 us kus arr xs) (r : Vals vs us) (kr : Vals kvs kus) (rw1 : RWs K g ws vs) (rw2 : RWs K g kws kvs) (e : arrW ws kws arr = some ys) : ∃ zs, Vals zs xs ∧ RWs K g ys zs := by
  induction a generalizing ys with
  | nil => cases e; exact ⟨[], .nil, .nil⟩
  | @p i u r' xs' h _ ih =>
    unfold arrW at e
    split at e
    · rename_i y ys' e1 e2
      cases e
      obtain ⟨zs, z1, z2⟩ := ih e2
      obtain ⟨v, hv, q⟩ := rw1.get (show ws[i]? = some y from e1)
      obtain ⟨u', hu, q'⟩ := r.get hv
      rw [h] at hu; cases hu
      exact ⟨v :: zs, .cons q' z1, .cons q z2⟩
    · cases e
  | @k i u r' xs' h _ ih =>
    unfold arrW at e
    split at e
    · rename_i y ys' e1 e2
      cases e
      obtain ⟨zs, z1, z2⟩ := ih e2
      obtain ⟨v, hv, q⟩ := rw2.get (show kws[i]? = some y from e1)
      obtain ⟨u', hu, q'⟩ := kr.get hv
      rw [h] at hu; cases hu
      exact ⟨v :: zs, .cons q' z1, .cons q z2⟩
    · cases e
  | @d w u r' xs' h _ ih =>
    unfold arrW at e
    split at e
    · rename_i y ys' e1 e2
      cases e
      obtain ⟨zs, z1, z2⟩ := ih e2
      obtain ⟨v, q', q⟩ := h
      have e1 : some w = some y := e1
      cases e1
      exact ⟨v :: zs, .cons q' z1, .cons (q _ _) z2⟩
    · cases e
theorem FnA.shp {P : Program} {w : World} {K : PySem.W.Frag} {mg : Str → Option Value} {base : Heap} {k : Nat} {f : Addr} {fd : FuncData} {ps : List Str} {m : List W → Sto → R W} (F : FnQ P w K mg base k f fd ps m) {l : List Shp} (hl : ∀ q ∈ l, ShOk K fd ps q) : FnA P w K mg base k f (shpA l m) := by
  refine ⟨fun fz he A outer sh H us kus vs kvs ws kws g s Q E hr hg e0 r kr S rw1 rw2 h => ?_⟩
  unfold shpA at h
  split at h
  · rename_i q eq
    have hq := List.mem_of_find?_eq_some eq
    have hc : q.n = ws.length ∧ q.ks = kws.map (·.1) := by have := List.find?_some eq; simpa using this
    split at h
    · rename_i ys ey
      have KX : K.In sh.heap := e0.mod.kin.keeps fun b o e => (e0.bs b o e).1
      obtain ⟨k1, k2⟩ := KV.unzip kr
      have sp := rw2.split
      obtain ⟨xs, x1, x2, x3⟩ := hl q hq sh us (kus.map (·.2)) KX (by rw [← r.length, ← rw1.length]; exact hc.1.symm) (by rw [hc.2, List.length_map, List.length_map, rw2.length]; have := congrArg List.length k1; simpa using this.symm)
      obtain ⟨zs, z1, z2⟩ := arr_ok (K := (K, fz)) x3 r k2 rw1 sp.2 ey
      have eks : q.ks.zip (kus.map (·.2)) = kus := by rw [hc.2, sp.1, k1, zip_maps]
      rw [eks] at x2
      exact F.run fz he A outer sh H ⟨us, kus⟩ xs zs ys g s Q E hr hg e0 x2 z1 (by rw [z2.length, z1.length, x1]) S z2 h
    · exact h.elim
  · exact h.elim
/-- def f(a, .., *v) -/
def varA (n : Nat) (m : List W → Sto → R W) : MF := fun ws kws s => if kws = [] ∧ n ≤ ws.length ∧ ws.length ≤ 16777216 then m (ws.take n ++ [.tup (ws.drop n)]) s else .no
theorem FnA.var {P : Program} {w : World} {K : PySem.W.Frag} {mg : Str → Option Value} {base : Heap} {k : Nat} {f : Addr} {x qual : Str} {params : Arguments} {body : List Stmt} {scope : Scope} {dvs : List V} {dws : List (Str × V)} {fd : FuncData} {N ps : List Str} {pv : Str} {m : MS}
    (F : FunD K x qual params body scope dvs dws f fd) (S : FnScope N (ps ++ [pv]) scope)
    (hB : ∀ us rest : List Value, us.length = ps.length → bindArgs fd ⟨us ++ rest, []⟩ = (newTuple rest >>= fun t => pure (ps.zip us ++ [(pv, t)])))
    (hb : ∀ (fz : Gz), fz.ex = none → ∀ (cdv : Value) (A : Around) (outer : List Env) (sh : Shared) (H : Hp) (E : XK), Room k (A.deeper (envOfC qual scope sh.heap.objs.size f cdv)) → A.guards = some [] →
      PSs (cxQ P w K mg base N qual scope f cdv A outer sh H E) body (tMS (K, fz) (fun c d _ H' => E c d H') m)) :
    FnA P w K mg base (k + 1) f (varA ps.length (runB N.length m)) := by
  obtain ⟨oc, od, dV, kV, doc, pm, an, cdv, ct, osl, rfl, lk, hcd, _, _⟩ := F.ex
  refine ⟨fun fz he A outer sh H us kus vs kvs ws kws g s Q E hr hg e0 r kr Sm rw1 rw2 h => ?_⟩
  unfold varA at h
  split at h
  · rename_i hc
    obtain ⟨hk, hn, hz⟩ := hc
    subst hk
    cases rw2
    unfold KV at kr
    cases kr
    have l1 : ws.length = us.length := by rw [rw1.length, r.length]
    have lv : ws.length = vs.length := rw1.length
    have sp1 := r.take ps.length
    have sp2 := r.drop ps.length
    have hlu : (us.take ps.length).length = ps.length := by rw [List.length_take]; omega
    have hlr : (us.drop ps.length).length ≤ sizeLine := by rw [List.length_drop, line_eq]; omega
    have hlr' : (vs.drop ps.length).length ≤ sizeLine := by rw [List.length_drop, line_eq]; omega
    have hnone : H sh.heap.objs.size = none := e0.hok.fresh (Nat.le_refl _)
    have key := StX.run_bnd (CX := L2.CX P w) (E := E) (Q := Q) (args := ⟨us, []⟩) lk hcd S hr e0 (G := fun xs H2 => ∃ p, H p = none ∧ xs = vs.take ps.length ++ [V.ref p] ∧ H2 = upd H p (.tup (vs.drop ps.length))) (fun A' Ex Q' hq => ?_) fun s2 H2 xs ⟨p, hp, ex, eH⟩ hr' => ?_
    · exact key
    · have hb' := hB (us.take ps.length) (us.drop ps.length) hlu
      rw [List.take_append_drop] at hb'
      rw [hb']
      refine wpAny_bind (wpAny_newTuple (wpAny_pure ?_) hlr)
      have new : ObjOk P w (upd H sh.heap.objs.size (.tup (vs.drop ps.length))) (sh.heap.push ({ cls := .type "tuple", data := .seq (us.drop ps.length).toArray } : Obj)) sh.heap.objs.size (.tup (vs.drop ps.length)) := ⟨hlr', us.drop ps.length, sp2, ⟨_, Heap.get?_push_size _ rfl, rfl, _, rfl⟩⟩
      have un := StX.un_laid (fs := frs outer) (s := sh) (o := ({ cls := .type "tuple", data := .seq (us.drop ps.length).toArray } : Obj)) (u := .tup (vs.drop ps.length)) hnone
      have z := hq _ _ (vs.take ps.length ++ [V.ref sh.heap.objs.size]) (us.take ps.length ++ [Value.ref sh.heap.objs.size]) (StX.env0_laid e0 new) un rfl (fun e s' => StX.cxUp outer sh H _ _ E e s' un (fun b o q => Heap.get?_push_of_some _ q) rfl) (sp1.append (.cons rfl .nil))
        (by rw [List.length_append, List.length_append, List.length_take]; simp; omega) ⟨_, hnone, rfl, rfl⟩
      rw [List.zip_append hlu.symm] at z
      exact z
    · subst ex eH
      refine ⟨_, hb fz he cdv A outer s2 _ E hr' hg, g.fix p (.tup (vs.drop ps.length)), s, (ws.take ps.length ++ [W.tup (ws.drop ps.length)]).map some ++ List.replicate (N.length - (ws.take ps.length ++ [W.tup (ws.drop ps.length)]).length) none, Sm.fix hp, ?_, ?_⟩
      · unfold L2.start
        have le := le_fix (u := .tup (vs.drop ps.length)) (Sm.hfn hp)
        have rr : RWs (K, fz) (g.fix p (.tup (vs.drop ps.length))) (ws.take ps.length ++ [.tup (ws.drop ps.length)]) (vs.take ps.length ++ [V.ref p]) :=
          ((rw1.take _).mono le).app (.cons (.nd ((rw1.drop _).mono le) (SqT.of upd_same)) .nil)
        rw [show (vs.take ps.length ++ [V.ref p]).length = (ws.take ps.length ++ [W.tup (ws.drop ps.length)]).length from rr.length.symm]
        exact rr.startSt _
      · have le := le_fix (u := .tup (vs.drop ps.length)) (Sm.hfn hp)
        unfold runB PostC at h
        cases e : m ((ws.take ps.length ++ [W.tup (ws.drop ps.length)]).map some ++ List.replicate (N.length - (ws.take ps.length ++ [W.tup (ws.drop ps.length)]).length) none) s with
        | nx ws' s' => rw [e] at h; exact fun al' H' sg' p S' _ => h al' H' (le.trans p) S' .non .non
        | rt w s' => rw [e] at h; exact fun al' H' v p S' r => h al' H' (le.trans p) S' v r
        | er c d ws' s' => rw [e] at h; exact fun al' H' sg' a vs p S' _ ea rk => h al' H' a vs (le.trans p) S' ea rk
        | bk _ _ => rw [e] at h; exact h.elim
        | ct _ _ => rw [e] at h; exact h.elim
        | no => rw [e] at h; exact h.elim
  · exact h.elim
/-- what was made meanwhile becomes a tree -/
def trimA (d : Nat) (m : MF) : MF := fun ws kws s => (m ws kws s).trim d s
theorem FnA.trim {P : Program} {w : World} {K : PySem.W.Frag} {mg : Str → Option Value} {base : Heap} {k : Nat} {f : Addr} {m : MF} (F : FnA P w K mg base k f m) (d : Nat) : FnA P w K mg base k f (trimA d m) :=
  ⟨fun fz he A outer sh H us kus vs kvs ws kws g s Q E hr hg e0 r kr S rw1 rw2 h => F.run fz he A outer sh H us kus vs kvs ws kws g s Q E hr hg e0 r kr S rw1 rw2 (Post.trim S h)⟩

/-! ### a value is called -/
section
variable {X : Cx} {fz : Gz} {Wx : WX} {k : Nat} {f : Addr} {m : MF}
/-- the value fv is called with arguments (first ahead of them) -/
def RunC (X : Cx) (fz : Gz) (Wx : WX) (fv : Value) (m : MF) : Prop := ∀ (pins : List (Addr × Obj)) (sg : L2.St) (H : Hp) (sh : Shared) (Q : VK) (us : List Value) (kus : List (Str × Value)) (vs : List V) (kvs : List (Str × V)) (ws : List W) (kws : List (Str × W)) (g : Gh) (s : Sto),
  Inv X pins sg H sh → Vals vs us → KV kvs kus → Sim (X.K, fz) g s H → RWs (X.K, fz) g ws vs → RKs (X.K, fz) g kws kvs → Post (X.K, fz) Wx g sg (PW1 (X.K, fz) Q) (m ws kws s) → wpAny (model X.prog X.w) X.A (call fv us kus) (EP X pins sg Q) X.xe sh
theorem runC_fn (F : FnA X.prog X.w X.K X.mg X.base k f m) (he : fz.ex = none) (hr : Room k X.A) (hg : X.A.guards = some []) (tk : Takes X Wx) : RunC X fz Wx (.ref f) m := by
  intro pins sg H sh Q us kus vs kvs ws kws g s I r kr S rw1 rw2 h
  refine wpAny_call (codeAny_mono (F.run fz he X.A X.stack sh H us kus vs kvs ws kws g s Q (fun c d H' => Wx c d sg H') hr hg I.env0 r kr S rw1 rw2 (PostC.at_ h)) fun r s' hq => ?_)
  cases r with
  | error e => exact tk e s' (XE.of_call I (fun c d H' z => z) hq)
  | ok fl =>
    cases fl with
    | ret u => exact I.after hq
    | next => exact hq.elim
    | brk => exact hq.elim
    | cont => exact hq.elim
/-- C(..): a new instance, its __init__, which hands back None -/
def mkA (c : Str) (m : MF) : MF := fun ws kws s => (m (.ref s.length :: ws) kws (s ++ [.ins c []])).bind fun w s' => match w with
  | .non => .ok (.ref s.length) s'
  | _ => .no
theorem runC_cls {c : Str} (M : Mk X.K (He.ga X.K c) f) (F : FnA X.prog X.w X.K X.mg X.base k f m) (he : fz.ex = none) (hr : Room (k + 1) X.A) (hg : X.A.guards = some []) (tk : Takes X Wx) : RunC X fz Wx (.ref (He.ga X.K c)) (mkA c m) := by
  intro pins sg H sh Q us kus vs kvs ws kws g s I r kr S rw1 rw2 h
  have hx : H (sh.heap.objs.size + 1) = none := I.hok.fresh (Nat.le_succ _)
  have hdx : H sh.heap.objs.size = none := I.hok.fresh (Nat.le_refl _)
  have ne : sh.heap.objs.size ≠ sh.heap.objs.size + 1 := Nat.ne_of_lt (Nat.lt_succ_self _)
  have I2 := Inv.made (C := He.ga X.K c) I
  have hx2 : upd H sh.heap.objs.size (.own (sh.heap.objs.size + 1)) (sh.heap.objs.size + 1) = none := by rw [upd_ne (Ne.symm ne)]; exact hx
  have S2 : Sim (X.K, fz) (g.fix sh.heap.objs.size (.own (sh.heap.objs.size + 1))) s (upd H sh.heap.objs.size (.own (sh.heap.objs.size + 1))) := S.fix hdx
  have le2 := le_fix (g := g) (u := .own (sh.heap.objs.size + 1)) (S.hfn hdx)
  have S3 := S2.alloc (o := .ins c []) (u := .ins (He.ga X.K c) sh.heap.objs.size []) hx2 ⟨_, [], .nil, upd_same⟩
  have le3 := le2.trans (le_snoc (g.fix sh.heap.objs.size (.own (sh.heap.objs.size + 1))) (sh.heap.objs.size + 1))
  have rself : RW (X.K, fz) _ (.ref s.length) (.ref (sh.heap.objs.size + 1)) := .ref (snoc_at S2.len (sh.heap.objs.size + 1))
  have post : PostC (X.K, fz) ((g.fix sh.heap.objs.size (.own (sh.heap.objs.size + 1))).snoc (sh.heap.objs.size + 1)) (fun v H' => v = .non ∧ Q (.ref (sh.heap.objs.size + 1)) H') (fun c d H' => Wx c d sg H') (m (.ref s.length :: ws) kws (s ++ [.ins c []])) := by
    refine PostC.at_ ((Post.bind (h.mono le3)).imp fun w g' s' H' p S' hq v rv => ?_)
    split at hq
    · cases rv
      exact ⟨rfl, hq g' H' Le.rfl S' _ (rself.mono p)⟩
    · exact hq.elim
  refine wpAny_call (make_map (f := f) I.kIn M.makes M.init (beq_iff_eq.mp M.fn) (codeAny_mono (F.run fz he _ X.stack _ _ (Value.ref (sh.heap.objs.size + 1) :: us) kus (V.ref (sh.heap.objs.size + 1) :: vs) kvs (.ref s.length :: ws) kws _ _ _ _ (hr.make _ us kus) hg
    (I2.env0.make _ us kus) (.cons rfl r) kr S3 (.cons rself (rw1.mono le3)) (rw2.mono le3) post) fun r s' hq' => ?_))
  cases r with
  | error e => exact tk e s' (XE.of_call I2 (fun c d H' z => z) hq')
  | ok fl =>
    cases fl with
    | ret u =>
      obtain ⟨v, H', I3, rv, ev, q3⟩ := I2.after hq'
      subst ev
      exact ⟨rv, ⟨V.ref (sh.heap.objs.size + 1), H', I3, rfl, q3⟩⟩
    | next => exact hq'.elim
    | brk => exact hq'.elim
    | cont => exact hq'.elim
end
/-! ### the forms of calls -/
section
variable {X : Cx} {fz : Gz} {Wx : WX} {f : Addr} {x : Str} {m : MF} {e : Expr} {es : List Expr} {ms mk : MA} {p pos : Pos} {kws : List Keyword} {ks : List Str}
def mcall (t : MF) (a : MA) : ME := fun ws s => (a ws s).bind fun xs s => t xs [] s
def mcallK (t : MF) (ks : List Str) (a b : MA) : ME := fun ws s => (a ws s).bind fun xs s => (b ws s).bind fun zs s => if zs.length = ks.length then t xs (ks.zip zs) s else .no
theorem kv_zip {ks : List Str} {vs : List V} {us : List Value} (r : Vals vs us) : KV (ks.zip vs) (ks.zip us) := by
  unfold KV
  induction r generalizing ks with
  | nil => simp; exact .nil
  | cons a _ ih =>
    cases ks with
    | nil => exact .nil
    | cons k ks => exact .cons ⟨rfl, a⟩ ih
/-- the arguments, then the call -/
theorem call_args {fv : Value} (R : RunC X fz Wx fv m) {pins : List (Addr × Obj)} {sg : L2.St} {H : Hp} {Q : VK} {g : Gh} {s : Sto} {ws : Loc} (S : Sim (X.K, fz) g s H) (rs : RSt (X.K, fz) g ws sg) (h : Post (X.K, fz) Wx g sg (PW1 (X.K, fz) Q) (mcall m ms ws s)) :
    tMs (X.K, fz) Wx ms sg H fun vs H1 => ∀ us sh, Inv X pins sg H1 sh → Vals vs us → wpAny (model X.prog X.w) X.A (call fv us) (EP X pins sg Q) X.xe sh :=
  ⟨g, s, ws, S, rs, h.bind.imp fun xs g1 s1 H1 p1 S1 h1 vs rv us sh I r => R pins sg H1 sh Q us [] vs [] xs [] g1 s1 I r .nil S1 rv .nil h1⟩
theorem pm_call (R : RunC X fz Wx (.ref f) m) (hk : PySem.W.keepIn X.K (.ref f) = true) (hg : Gl X x) (hm : X.mg x = some (.ref f)) (ha : PA X (e :: es) (tMs (X.K, fz) Wx ms)) (hdb : (x == ("__debug__" : Str)) = false)
    (he : starEach (e :: es) X.env = (false, eval e X.env) :: starEach es X.env) (hpl : (backTo pos (starEach es X.env)).any (·.1) = false) : PE X (.Call (.Name x p) (e :: es) [] pos) (tM (X.K, fz) Wx (mcall m ms)) := by
  refine ⟨fun pins sh sg H Q I ⟨g, s, ws, S, rs, h⟩ => ?_⟩
  refine wpAny_Call_Name_kw (ld_glob I hg hm ?_ hdb)
  refine PySem.W.callWith_K (h₀ := X.base) I.ok.mod.kin hk ?_ he hpl
  exact thn (ha.run pos pins sh sg H _ I (call_args (pins := pins) R S rs h)) fun us s1 ⟨vs, H1, I1, r, q⟩ => ⟨I1.kIn, q us s1 I1 r⟩
theorem pm_call0 (R : RunC X fz Wx (.ref f) m) (hk : PySem.W.keepIn X.K (.ref f) = true) (hg : Gl X x) (hm : X.mg x = some (.ref f)) (hdb : (x == ("__debug__" : Str)) = false) : PE X (.Call (.Name x p) [] [] pos) (tM (X.K, fz) Wx (mcall m mnil)) := by
  refine ⟨fun pins sh sg H Q I ⟨g, s, ws, S, rs, h⟩ => ?_⟩
  refine wpAny_Call_Name_kw (ld_glob I hg hm ?_ hdb)
  exact PySem.W.callWith_K0 I.kIn hk (R pins sg H sh Q [] [] [] [] [] [] g s I .nil .nil S .nil .nil h)
/-- f(e, .., *y) -/
theorem pm_callS2 (R : RunC X fz Wx (.ref f) m) (hk : PySem.W.keepIn X.K (.ref f) = true) (hg : Gl X x) (hm : X.mg x = some (.ref f)) (ha : PA X (e :: es) (tMs (X.K, fz) Wx ms)) (hdb : (x == ("__debug__" : Str)) = false)
    (he : starEach (e :: es) X.env = (false, eval e X.env) :: starEach es X.env) (hst : (backTo pos (starEach es X.env)).any (·.1) = true) : PE X (.Call (.Name x p) (e :: es) [] pos) (tM (X.K, fz) Wx (mcall m ms)) := by
  refine ⟨fun pins sh sg H Q I ⟨g, s, ws, S, rs, h⟩ => ?_⟩
  refine wpAny_Call_Name_kw (ld_glob I hg hm ?_ hdb)
  refine PySem.W.callWith_S2 (h₀ := X.base) I.ok.mod.kin hk ?_ he hst
  exact thn (ha.run pos pins sh sg H _ I (call_args (pins := pins) R S rs h)) fun us s1 ⟨vs, H1, I1, r, q⟩ => ⟨I1.kIn, q us s1 I1 r⟩
/-- *e in an argument list -/
def mstar (a : ME) (b : MA) : MA := fun ws s => (a ws s).bind fun x s => match seqAt s x with
  | some ys => (b ws s).bind fun xs s => .ok (ys ++ xs) s
  | none => .no
theorem pms_star {me : ME} {sp_ : Pos} (he : PE X e (tM (X.K, fz) Wx me)) (hr : PA X es (tMs (X.K, fz) Wx ms)) (hs : starEach (.Starred e sp_ :: es) X.env = (true, eval e X.env) :: starEach es X.env) : PA X (.Starred e sp_ :: es) (tMs (X.K, fz) Wx (mstar me ms)) := by
  refine ⟨fun pos pins s sg H Q I ⟨g, sw, ws, S, rs, h⟩ => (StX.pa_star he hr hs).run pos pins s sg H Q I ?_⟩
  refine ⟨g, sw, ws, S, rs, h.bind.imp fun x g1 s1 H1 p1 S1 h1 v rv => ?_⟩
  split at h1
  · rename_i ys ey
    obtain ⟨a, vs, rfl, rvs, q⟩ := seqAt_ok S1 rv ey
    refine ⟨a, vs, rfl, q.symm, g1, s1, ws, S1, rs.mono p1, h1.bind.imp fun xs g2 s2 H2 p2 S2 h2 us ru => ?_⟩
    exact h2 g2 H2 Le.rfl S2 _ ((rvs.mono p2).app ru)
  · exact h1.elim
/-- f(*y) -/
theorem pm_callS1 {me : ME} {sp_ : Pos} (RC : RunC X fz Wx (.ref f) m) (hk : PySem.W.keepIn X.K (.ref f) = true) (hg : Gl X x) (hm : X.mg x = some (.ref f)) (he : PE X e (tM (X.K, fz) Wx me)) (hdb : (x == ("__debug__" : Str)) = false)
    (hst : starEach [.Starred e sp_] X.env = [(true, eval e X.env)]) : PE X (.Call (.Name x p) [.Starred e sp_] [] pos) (tM (X.K, fz) Wx (mcall m (mstar me mnil))) := by
  refine ⟨fun pins sh sg H Q I ⟨g, s, ws, S, rs, h⟩ => ?_⟩
  refine wpAny_Call_Name_kw (ld_glob I hg hm ?_ hdb)
  have h' : Post (X.K, fz) Wx g sg (fun w g' s' H' => ∀ v, RW (X.K, fz) g' w v → ∃ a xs, v = V.ref a ∧ (SqT X.K H' a xs ∨ SqL X.K H' a xs) ∧ ∀ us sh, Inv X pins sg H' sh → Vals xs us → wpAny (model X.prog X.w) X.A (call (.ref f) us) (EP X pins sg Q) X.xe sh) (me ws s) := by
    have h2 : Post (X.K, fz) Wx g sg (PW1 (X.K, fz) Q) (((me ws s).bind fun x s => match seqAt s x with
      | some ys => (Va.R.ok (B := List W) [] s).bind fun xs s => .ok (ys ++ xs) s
      | none => .no).bind fun xs s => m xs [] s) := h
    cases em : me ws s with
    | ok b s0 =>
      rw [em] at h2
      intro g1 H1 p1 S1 v rv
      have h3 : Post (X.K, fz) Wx g sg (PW1 (X.K, fz) Q) ((match seqAt s0 b with
        | some ys => (Va.R.ok (B := List W) [] s0).bind fun xs s => .ok (ys ++ xs) s
        | none => .no).bind fun xs s => m xs [] s) := h2
      cases ey : seqAt s0 b with
      | none => rw [ey] at h3; exact h3.elim
      | some ys =>
        rw [ey] at h3
        obtain ⟨a, vs, rfl, rvs, q⟩ := seqAt_ok S1 rv ey
        have h4 : Post (X.K, fz) Wx g sg (PW1 (X.K, fz) Q) (m (ys ++ []) [] s0) := h3
        rw [List.append_nil] at h4
        exact ⟨a, vs, rfl, q.symm, fun us sh I r => RC pins sg H1 sh Q us [] vs [] ys [] g1 s0 I r .nil S1 rvs .nil (h4.mono p1)⟩
    | er c d s0 => rw [em] at h2; exact h2
    | no => rw [em] at h2; exact h2
  refine PySem.W.callWith_S (h₀ := X.base) I.ok.mod.kin hk (thn (he.run pins sh sg H _ I ⟨g, s, ws, S, rs, h'⟩) fun v s1 ⟨y, H1, I1, ry, a, xs, ey, hxs, q⟩ => ?_) hst
  subst ey
  obtain rfl : v = Value.ref a := ry
  exact StX.star_any I1 hxs fun us s2 I2 rv => ⟨I2.kIn, q us s2 I2 rv⟩
/-! keywords -/
theorem pmk_nil : PK X [] (tMs (X.K, fz) Wx mnil) :=
  ⟨fun pos pins s sg H Q I ⟨g, sw, ws, S, rs, h⟩ => pk_nil.run pos pins s sg H Q I (h g H Le.rfl S [] .nil)⟩
theorem pmk_cons {nm : Option Str} {kpos : Pos} {me : ME} (ha : PE X e (tM (X.K, fz) Wx me)) (hr : PK X kws (tMs (X.K, fz) Wx ms)) : PK X (⟨nm, e, kpos⟩ :: kws) (tMs (X.K, fz) Wx (mcons me ms)) := by
  refine ⟨fun pos pins s sg H Q I ⟨g, sw, ws, S, rs, h⟩ => (pk_cons ha hr).run pos pins s sg H Q I ?_⟩
  refine ⟨g, sw, ws, S, rs, h.bind.imp fun x g1 s1 H1 p1 S1 h1 v rv => ?_⟩
  refine ⟨g1, s1, ws, S1, rs.mono p1, h1.bind.imp fun xs g2 s2 H2 p2 S2 h2 vs rvs => ?_⟩
  exact h2 g2 H2 Le.rfl S2 (v :: vs) (.cons (rv.mono p2) rvs)
theorem kw_args {fv : Value} (R : RunC X fz Wx fv m) {pins : List (Addr × Obj)} {sg : L2.St} {H : Hp} {Q : VK} {g : Gh} {s : Sto} {ws : Loc} (S : Sim (X.K, fz) g s H) (rs : RSt (X.K, fz) g ws sg) (h : Post (X.K, fz) Wx g sg (PW1 (X.K, fz) Q) (mcallK m ks ms mk ws s)) :
    tMs (X.K, fz) Wx ms sg H fun vs H1 => ∀ us, Vals vs us → tMs (X.K, fz) Wx mk sg H1 fun zs H2 => ∀ kus sh, Inv X pins sg H2 sh → Vals zs kus → wpAny (model X.prog X.w) X.A (call fv us (ks.zip kus)) (EP X pins sg Q) X.xe sh := by
  refine ⟨g, s, ws, S, rs, h.bind.imp fun xs g1 s1 H1 p1 S1 h1 vs rv us r => ?_⟩
  refine ⟨g1, s1, ws, S1, rs.mono p1, h1.bind.imp fun zs g2 s2 H2 p2 S2 h2 vz rz kus sh I rk => ?_⟩
  split at h2
  · rename_i hl
    exact R pins sg H2 sh Q us _ vs _ xs _ g2 s2 I r (kv_zip rk) S2 (rv.mono p2) (RKs.zip (by rw [← rz.length]; exact hl.symm) rz) h2
  · exact h2.elim
theorem pm_callK (R : RunC X fz Wx (.ref f) m) (hk : PySem.W.keepIn X.K (.ref f) = true) (hg : Gl X x) (hm : X.mg x = some (.ref f)) (ha : PA X (e :: es) (tMs (X.K, fz) Wx ms)) (hkw : PK X kws (tMs (X.K, fz) Wx mk))
    (hall : (backToKw pos (keywordEach kws X.env)).all (·.1.isSome) = true) (hks : (backToKw pos (keywordEach kws X.env)).filterMap (·.1) = ks) (hdb : (x == ("__debug__" : Str)) = false)
    (he : starEach (e :: es) X.env = (false, eval e X.env) :: starEach es X.env) (hpl : ((backTo pos (starEach (e :: es) X.env)).any (·.1) || (backToKw pos (keywordEach kws X.env)).any (·.1.isNone)) = false) :
    PE X (.Call (.Name x p) (e :: es) kws pos) (tM (X.K, fz) Wx (mcallK m ks ms mk)) := by
  refine ⟨fun pins sh sg H Q I ⟨g, s, ws, S, rs, h⟩ => ?_⟩
  refine wpAny_Call_Name_kw (ld_glob I hg hm ?_ hdb)
  refine PySem.W.callWith_KW (h₀ := X.base) I.ok.mod.kin hk hall (thn (ha.run pos pins sh sg H _ I (kw_args (pins := pins) R S rs h)) fun us s1 ⟨vs, H1, I1, r, q⟩ => ?_) hpl he
  refine thn (hkw.run pos pins s1 sg H1 _ I1 (q us r)) fun kus s2 ⟨zs, H2, I2, rz, q2⟩ => ⟨I2.kIn, ?_⟩
  rw [hks]
  exact q2 kus s2 I2 rz
theorem pm_callK0 (R : RunC X fz Wx (.ref f) m) (hk : PySem.W.keepIn X.K (.ref f) = true) (hg : Gl X x) (hm : X.mg x = some (.ref f)) (hkw : PK X kws (tMs (X.K, fz) Wx mk))
    (hall : (backToKw pos (keywordEach kws X.env)).all (·.1.isSome) = true) (hks : (backToKw pos (keywordEach kws X.env)).filterMap (·.1) = ks) (hdb : (x == ("__debug__" : Str)) = false)
    (hpl : ((backTo pos (starEach [] X.env)).any (·.1) || (backToKw pos (keywordEach kws X.env)).any (·.1.isNone)) = false) :
    PE X (.Call (.Name x p) [] kws pos) (tM (X.K, fz) Wx (mcallK m ks mnil mk)) := by
  refine ⟨fun pins sh sg H Q I ⟨g, s, ws, S, rs, h⟩ => ?_⟩
  refine wpAny_Call_Name_kw (ld_glob I hg hm ?_ hdb)
  have q := pms_nil.run pos pins sh sg H _ I (kw_args (pins := pins) R S rs h)
  refine PySem.W.callWith_KW0 (h₀ := X.base) I.ok.mod.kin hk hall ?_ hpl
  have key : tMs (X.K, fz) Wx mk sg H fun zs H2 => ∀ kus sh, Inv X pins sg H2 sh → Vals zs kus → wpAny (model X.prog X.w) X.A (call (.ref f) [] (ks.zip kus)) (EP X pins sg Q) X.xe sh := by
    have h' : Post (X.K, fz) Wx g sg (PW1 (X.K, fz) Q) ((mk ws s).bind fun zs s => if zs.length = ks.length then m [] (ks.zip zs) s else .no) := h
    refine ⟨g, s, ws, S, rs, h'.bind.imp fun zs g2 s2 H2 p2 S2 h2 vz rz kus sh I rk => ?_⟩
    split at h2
    · rename_i hl
      exact R pins sg H2 sh Q [] _ [] _ [] _ g2 s2 I .nil (kv_zip rk) S2 .nil (RKs.zip (by rw [← rz.length]; exact hl.symm) rz) h2
    · exact h2.elim
  refine thn (hkw.run pos pins sh sg H _ I key) fun kus s2 ⟨zs, H2, I2, rz, q2⟩ => ⟨I2.kIn, ?_⟩
  rw [hks]
  exact q2 kus s2 I2 rz
end
end Va

/-! Vak: dicts that are walked are locked meanwhile. -/
namespace Va
open PySem PySem.Spec PyProof.Rows L2
section
variable {k : PySem.W.Frag} {f f2 : Gz} {g : Gh} {s : Sto} {H : Hp} {a : Addr}
structure Off (a : Addr) (f f2 : Gz) : Prop where
  lk : ∀ b, b ≠ a → f2.lk b = f.lk b
  pv : f2.pv = f.pv
  ex : f2.ex = f.ex
theorem HAt.off {b : Addr} {o : O} (h : HAt (k, f) g H b o) (hf : Off a f f2) (ne : b ≠ a ∨ o.own = false) : HAt (k, f2) g H b o := by
  cases o with
  | lst xs => obtain ⟨vs, r, q⟩ := h; exact ⟨vs, r.fz, q⟩
  | dic xs =>
    obtain ⟨vs, r, q, l⟩ := h
    refine ⟨vs, r.fz, q, ?_⟩
    rcases ne with ne | ne
    · exact (hf.lk b ne).trans l
    · cases ne
  | lck xs =>
    obtain ⟨vs, ob, r, l, q⟩ := h
    refine ⟨vs, ob, r.fz, ?_, q⟩
    rcases ne with ne | ne
    · exact (hf.lk b ne).trans l
    · cases ne
  | ins c xs => obtain ⟨dx, vs, r, q⟩ := h; exact ⟨dx, vs, r.fz, q⟩
  | exn c fs => obtain ⟨n, d, vs, h1, r, z⟩ := h; exact ⟨n, d, vs, hf.ex.trans h1, r.fz, z⟩
  | dead => trivial
theorem lockd_off {b : Addr} {u : HO} (hf : Off a f f2) (ne : b ≠ a) : lockd f2 b u = lockd f b u := by
  unfold lockd; rw [hf.lk b ne]
/-- the record of a dict that does not change -/
theorem Sim.relkF {l : List (Key × V)} (S : Sim (k, f) g s H) (ha : g.hf a = some (.dK l)) (hf : Off a f f2) : Sim (k, f2) g s (upd H a (lockd f2 a (.dK l))) := by
  have ne_of : ∀ {n : Nat} {x : O} {b : Addr}, s[n]? = some x → g.al[n]? = some b → x.own = true → b ≠ a := fun {n x b} e eb ow z => by
    subst z
    rw [S.nf n _ x eb e ow] at ha; cases ha
  refine ⟨S.len, fun n x b e eb => ?_, S.nd, S.nf, fun b v e => ?_, fun b ob e => ?_, fun b v e => ?_, fun n c fs e => ?_⟩
  · have q := S.at_ n x b e eb
    cases ow : x.own with
    | true => exact (q.stay Le.rfl (upd_ne (ne_of e eb ow))).off hf (.inl (ne_of e eb ow))
    | false => exact (q.noOwn ow Le.rfl).off hf (.inr ow)
  · by_cases z : b = a
    · subst z
      rw [ha] at e; cases e
      exact upd_same
    · rw [upd_ne z, lockd_off hf z]; exact S.fr b v e
  · by_cases z : b = a
    · subst z; rw [upd_same]; exact fun q => nomatch q
    · rw [upd_ne z]; exact S.lkd b ob ((hf.lk b z).symm.trans e)
  · have e' : f.pv b = some v := by rw [← hf.pv]; exact e
    obtain ⟨h1, h2, h3⟩ := S.pv b v e'
    have ne : b ≠ a := fun z => by rw [z, ha] at h2; cases h2
    exact ⟨by rw [upd_ne ne]; exact h1, h2, h3⟩
  · obtain ⟨r, er⟩ := S.ex n c fs e
    exact ⟨r, hf.ex.trans er⟩
/-- the record of one that may -/
theorem Sim.relkM {n : Nat} {o o' : O} {u : HO} (S : Sim (k, f) g s H) (hn : s[n]? = some o) (ha : g.al[n]? = some a) (ow : o.own = true) (hf : Off a f f2) (h : HAt (k, f2) g (upd H a u) a o') (ow' : o'.own = true) : Sim (k, f2) g (s.set n o') (upd H a u) := by
  have hl : n < s.length := (List.getElem?_eq_some_iff.mp hn).1
  have inv : ∀ {m : Nat} {x : O}, (s.set n o')[m]? = some x → (m = n ∧ x = o') ∨ (m ≠ n ∧ s[m]? = some x) := fun {m x} e => by
    by_cases hm : m = n
    · subst hm
      rw [List.getElem?_set_self hl] at e
      cases e
      exact .inl ⟨rfl, rfl⟩
    · rw [List.getElem?_set_ne (Ne.symm hm)] at e
      exact .inr ⟨hm, e⟩
  have hnf := S.nf n a o ha hn ow
  refine ⟨by simp [S.len], fun m x b e eb => ?_, fun i j b o1 o2 a1 a2 e1 e2 w1 w2 => ?_, fun m b x eb e w => ?_, fun b v e => ?_, fun b ob e => ?_, fun b v e => ?_, fun m c fs e => ?_⟩
  · rcases inv e with ⟨rfl, rfl⟩ | ⟨hm, e⟩
    · rw [ha] at eb; cases eb; exact h
    · have q := S.at_ m x b e eb
      cases w : x.own with
      | true =>
        have ne : b ≠ a := fun z => by subst z; exact hm (S.nd m n _ x o eb ha e hn w ow)
        exact (q.stay Le.rfl (upd_ne ne)).off hf (.inl ne)
      | false => exact (q.noOwn w Le.rfl).off hf (.inr w)
  · rcases inv e1 with ⟨z1, y1⟩ | ⟨h1, f1⟩ <;> rcases inv e2 with ⟨z2, y2⟩ | ⟨h2, f2⟩
    · exact z1.trans z2.symm
    · subst z1
      exact S.nd _ _ b o o2 a1 a2 hn f2 ow w2
    · subst z2
      exact S.nd _ _ b o1 o a1 a2 f1 hn w1 ow
    · exact S.nd i j b o1 o2 a1 a2 f1 f2 w1 w2
  · rcases inv e with ⟨rfl, rfl⟩ | ⟨hm, e⟩
    · exact S.nf _ b o eb hn ow
    · exact S.nf m b x eb e w
  · have ne : b ≠ a := fun z => by subst z; rw [hnf] at e; cases e
    rw [upd_ne ne, lockd_off hf ne]; exact S.fr b v e
  · by_cases z : b = a
    · subst z; rw [upd_same]; exact fun q => nomatch q
    · rw [upd_ne z]; exact S.lkd b ob ((hf.lk b z).symm.trans e)
  · have e' : f.pv b = some v := by rw [← hf.pv]; exact e
    obtain ⟨h1, h2, h3⟩ := S.pv b v e'
    have ne : b ≠ a := fun z => by subst z; rw [h3 n o ha hn] at ow; cases ow
    refine ⟨by rw [upd_ne ne]; exact h1, h2, fun m x eb e => ?_⟩
    rcases inv e with ⟨rfl, rfl⟩ | ⟨hm, e⟩
    · rw [ha] at eb; cases eb; exact absurd rfl ne
    · exact h3 m x eb e
  · rcases inv e with ⟨_, e⟩ | ⟨_, e⟩
    · subst e; cases ow'
    · obtain ⟨r, er⟩ := S.ex m c fs e
      exact ⟨r, hf.ex.trans er⟩
def Gz.lock (f : Gz) (a : Addr) (od : Obj) (vs : List (Key × V)) : Gz := ⟨fun b => if b = a then some (od, vs) else f.lk b, f.pv, f.ex⟩
theorem off_lock {od : Obj} {vs : List (Key × V)} : Off a f (f.lock a od vs) := ⟨fun b h => by unfold Gz.lock; dsimp only; rw [if_neg h], rfl, rfl⟩
theorem off_unlock {od : Obj} {vs : List (Key × V)} : Off a (f.lock a od vs) f := ⟨fun b h => by unfold Gz.lock; dsimp only; rw [if_neg h], rfl, rfl⟩
theorem lock_at {od : Obj} {vs : List (Key × V)} : (f.lock a od vs).lk a = some (od, vs) := by unfold Gz.lock; dsimp only; rw [if_pos rfl]
end
/-! ### a statement, an expression at whose ends what was locked is let go -/
def NF (X : Cx) (d : Addr) : Prop := ∀ o' u', X.H_0 d ≠ some (.frz o' u')
def Ul (X : Cx) (P : Hp → Prop) (H : Hp) : Prop := P H ∨ ∃ d od u, H d = some (.frz od u) ∧ NF X d ∧ P (upd H d u)
def EndsU (X : Cx) (D : Ends) : Ends := ⟨fun σ H => Ul X (D.nx σ) H, fun v H => Ul X (D.rt v) H, fun σ H => Ul X (D.bk σ) H, fun σ H => Ul X (D.ct σ) H⟩
def WxU (X : Cx) (Wx : WX) : WX := fun c d σ H => Ul X (Wx c d σ) H
section
variable {X : Cx} {Wx : WX}
theorem ps_unl {st : Stmt} {t : TS} (h : PS X st t) : PS X st (fun D σ H => t (EndsU X D) σ H) := by
  refine ⟨fun pins s σ H D I hw => thn (h.run pins s σ H _ I hw) fun f s1 q => ?_⟩
  cases f with
  | next =>
    obtain ⟨σ', H', I2, q⟩ := q
    rcases q with q | ⟨d, od, u, e, n, q⟩
    · exact ⟨σ', H', I2, q⟩
    · exact ⟨σ', _, I2.unlock e n, q⟩
  | brk =>
    obtain ⟨σ', H', I2, q⟩ := q
    rcases q with q | ⟨d, od, u, e, n, q⟩
    · exact ⟨σ', H', I2, q⟩
    · exact ⟨σ', _, I2.unlock e n, q⟩
  | cont =>
    obtain ⟨σ', H', I2, q⟩ := q
    rcases q with q | ⟨d, od, u, e, n, q⟩
    · exact ⟨σ', H', I2, q⟩
    · exact ⟨σ', _, I2.unlock e n, q⟩
  | ret v =>
    obtain ⟨x, σ', H', I2, r, q⟩ := q
    rcases q with q | ⟨d, od, u, e, n, q⟩
    · exact ⟨x, σ', H', I2, r, q⟩
    · exact ⟨x, σ', _, I2.unlock e n, r, q⟩
theorem pe_unl {e : Expr} {t : TE} (h : PE X e t) : PE X e (fun σ H Q => t σ H fun v H' => Ul X (Q v) H') := by
  refine ⟨fun pins s σ H Q I hw => thn (h.run pins s σ H _ I hw) fun f s1 ⟨x, H', I2, r, q⟩ => ?_⟩
  rcases q with q | ⟨d, od, u, e, n, q⟩
  · exact ⟨x, H', I2, r, q⟩
  · exact ⟨x, _, I2.unlock e n, r, q⟩
theorem takesU (tk : Takes X Wx) : Takes X (WxU X Wx) := by
  rintro v s' ⟨x, B, sI, pins, σ, H, cls, d, e, I, nb, up, sky, na, os, ag, w⟩
  rcases w with w | ⟨b, od, u, hf, hn, w⟩
  · exact tk v s' ⟨x, B, sI, pins, σ, H, cls, d, e, I, nb, up, sky, na, os, ag, w⟩
  · refine tk v s' ⟨x, B, sI, pins, σ, _, cls, d, e, I.unlock hf hn, nb, up, sky, ?_, os, ag, w⟩
    rw [upd_ne (fun z => by rw [z, hf] at na; cases na)]
    exact na
/-- the dict that e hands back is locked from then on (or it is so already) -/
theorem pe_lockD {e : Expr} {te : TE} (h : PE X e te) : PE X e (fun σ H Q => te σ H fun x H1 => ∃ d kvs, x = .ref d ∧ ((H1 d = some (.dK kvs) ∧ ∀ od, NF X d → Q x (upd H1 d (.frz od (.dK kvs)))) ∨ ∃ od, H1 d = some (.frz od (.dK kvs)) ∧ Q x H1)) := by
  refine ⟨fun pins s σ H Q I hw => thn (h.run pins s σ H _ I hw) fun f s1 ⟨x, H', I2, r, d, kvs, ex, q⟩ => ?_⟩
  rcases q with ⟨e1, q⟩ | ⟨od, e1, q⟩
  · obtain ⟨od, I3⟩ := I2.lock e1 True.intro
    exact ⟨x, _, I3, r, q od (I2.nofrz e1 True.intro)⟩
  · exact ⟨x, H', I2, r, q⟩
end
end Va

/-! Va9: assignments; targets; what is walked; for and while. -/
namespace Va
open PySem PySem.Spec PyProof.Rows L2
/-- a target's meaning: the value, the local names, the store -/
abbrev MG := W → Loc → Sto → R Loc
abbrev MGs := List W → Loc → Sto → R Loc
section
variable (K : Kz) (Wx : WX)
abbrev PL (Q : L2.St → Hp → Prop) : Loc → Gh → Sto → Hp → Prop := fun ws' al' _ H' => ∀ sg', RSt K al' ws' sg' → Q sg' H'
def tMG (g : MG) : TG := fun v sg H Q => ∃ al s ws w, Sim K al s H ∧ RSt K al ws sg ∧ RW K al w v ∧ Post K Wx al sg (PL K Q) (g w ws s)
def tMGs (g : MGs) : TGs := fun vs sg H Q => ∃ al s ws xs, Sim K al s H ∧ RSt K al ws sg ∧ RWs K al xs vs ∧ Post K Wx al sg (PL K Q) (g xs ws s)
end
section
variable {X : Cx} {fz : Gz} {Wx : WX} {pos : Pos} {me : ME} {e : Expr} {g : MG} {tg : Expr}
def gname (i : Nat) : MG := fun w ws s => .ok (ws.set i (some w)) s
theorem qg_name {i : Nat} {x : Str} (hN : X.N.Nodup) (hi : X.N[i]? = some x) (hx : L2.Loc X.env.scope x) (hf : X.fn x = true ∨ X.env.scope.names.lookup x = some .local) : PG X (.Name x pos) (tMG (X.K, fz) Wx (gname i)) := by
  refine ⟨fun pins sh sg H v u Q I r ⟨al, s, ws, w, S, rs, rw', h⟩ => (pg_name hN hi hx hf).run pins sh sg H v u Q I r ?_⟩
  exact h al H Le.rfl S _ (rs.set rw' i)
def gnil : MGs := fun xs ws s => match xs with
  | [] => .ok ws s
  | _ => .no
/-- Post's local names at an exception do not matter to a target that keeps promises with any -/
theorem qgs_nil : PGs X [] (tMGs (X.K, fz) Wx gnil) := by
  refine ⟨fun pins sh sg H vs us Q I r ⟨al, s, ws, xs, S, rs, rw', h⟩ => pgs_nil.run pins sh sg H vs us Q I r ?_⟩
  cases rw' with
  | nil => exact ⟨rfl, h al H Le.rfl S _ rs⟩
  | cons _ _ => exact h.elim
end
section
variable {X : Cx} {fz : Gz} {Wx : WX} {pos : Pos} {me : ME} {e : Expr} {g : MG} {tg : Expr} {gs : MGs} {es : List Expr}
/-- a target in a tuple raises nothing (its own exceptions are not followed) -/
def R.cl {B : Type} (r : R B) : R B := match r with
  | .er _ _ _ => .no
  | r => r
abbrev WxF : WX := fun _ _ _ _ => False
theorem Post.cl {K : Kz} {al : Gh} {sg sg' : L2.St} {B C : Type} {P : C → Gh → Sto → Hp → Prop} {r : R B} {f : B → Sto → R C} (h : Post K Wx al sg P (r.cl.bind f)) : Post K WxF al sg' (fun b al' s' _ => Post K Wx al' sg P (f b s')) r := by
  cases r with
  | ok b s => exact fun al2 H2 q S => (show Post K Wx al sg P (f b s) from h).mono q
  | er c d s => exact h.elim
  | no => exact h
def gcons (a : MG) (b : MGs) : MGs := fun xs ws s => match xs with
  | x :: r => (a x ws s).cl.bind fun ws' s' => (b r ws' s').cl
  | [] => .no
theorem Post.cl1 {K : Kz} {al : Gh} {sg sg' : L2.St} {B : Type} {P : B → Gh → Sto → Hp → Prop} {r : R B} (h : Post K Wx al sg P r.cl) : Post K Wx al sg' P r := by
  cases r with
  | ok b s => exact h
  | er c d s => exact h.elim
  | no => exact h
theorem qgs_cons (h1 : PG X tg (tMG (X.K, fz) WxF g)) (h2 : PGs X es (tMGs (X.K, fz) Wx gs))
    (hs : (assignEach (tg :: es) X.env).map (·.2) = assign tg X.env :: (assignEach es X.env).map (·.2)) : PGs X (tg :: es) (tMGs (X.K, fz) Wx (gcons g gs)) := by
  refine ⟨fun pins sh sg H vs us Q I r ⟨al, s, ws, xs, S, rs, rw', h⟩ => (pgs_cons h1 h2 hs).run pins sh sg H vs us Q I r ?_⟩
  cases rw' with
  | nil => exact h.elim
  | @cons w v ws' vs' r1 r2 =>
    refine ⟨v, vs', rfl, al, s, ws, w, S, rs, r1, (show Post (X.K, fz) Wx al sg (PL (X.K, fz) Q) ((g w ws s).cl.bind fun wz sz => (gs ws' wz sz).cl) from h).cl.imp fun wz al1 s1 H1 p1 S1 h1 sg1 rs1 => ?_⟩
    exact ⟨al1, s1, wz, ws', S1, rs1, r2.mono p1, h1.cl1⟩
def gtup (n : Nat) (gs : MGs) : MG := fun w ws s => match tupAt w with
  | some xs => if xs.length = n then gs xs ws s else .no
  | none => .no
theorem qg_tup {k n : Nat} (hc : X.calm = true) (h : PGs X es (tMGs (X.K, fz) Wx gs)) (hn : (assignEach es X.env).length = n) (hst : (assignEach es X.env).findIdx? (·.1) = none) : PG X (.Tuple es k pos) (tMG (X.K, fz) Wx (gtup n gs)) := by
  refine ⟨fun pins sh sg H v u Q I r ⟨al, s, ws, w, S, rs, rw', h'⟩ => (pg_tup hc h hn hst).run pins sh sg H v u Q I r ?_⟩
  unfold gtup at h'
  split at h'
  · rename_i xs e
    split at h'
    · rename_i hl
      obtain ⟨a, vs, rfl, rv, q⟩ := tupAt_ok S rw' e
      exact ⟨a, vs, rfl, q, by rw [← rv.length]; exact hl, al, s, ws, xs, S, rs, rv, h'⟩
    · exact h'.elim
  · exact h'.elim
/-- name = value -/
def sset (i : Nat) (m : ME) : MS := fun ws s => (m ws s).toS ws fun w s' => .nx (ws.set i (some w)) s'
theorem q_set {i : Nat} {x : Str} {p : Pos} (hN : X.N.Nodup) (hi : X.N[i]? = some x) (hx : L2.Loc X.env.scope x) (he : PE X e (tM (X.K, fz) Wx me)) (hs : swapsWith e (some (.Name x p)) pos.line X.env = pure false) (hf : X.fn x = true ∨ X.env.scope.names.lookup x = some .local) :
    PS X (.Assign [.Name x p] e pos) (tMS (X.K, fz) Wx (sset i me)) := by
  refine ⟨fun pins sh sg H D I ⟨al, s, ws, S, rs, h⟩ => (ps_set hN hi hx he hs hf).run pins sh sg H D I ?_⟩
  exact ⟨al, s, ws, S, rs, (PostS.expr h rs).imp fun w al1 s1 H1 p1 S1 h1 v rv => h1 al1 H1 _ Le.rfl S1 ((rs.mono p1).set rv i)⟩
/-- target = value -/
def sasg (m : ME) (g : MG) : MS := fun ws s => (m ws s).toS ws fun w s' => (g w ws s').toS ws fun ws' s'' => .nx ws' s''
theorem q_asg (he : PE X e (tM (X.K, fz) Wx me)) (hg : PG X tg (tMG (X.K, fz) Wx g)) (hs : swapsWithSole [tg] e pos.line X.env = pure false) (hw : swappedStores [tg] e X.env = pure none)
    (h1 : (assignEach [tg] X.env).map (·.2) = [assign tg X.env]) : PS X (.Assign [tg] e pos) (tMS (X.K, fz) Wx (sasg me g)) := by
  refine ⟨fun pins sh sg H D I ⟨al, s, ws, S, rs, h⟩ => (ps_asg he hg hs hw h1).run pins sh sg H D I ?_⟩
  refine ⟨al, s, ws, S, rs, (PostS.expr h rs).imp fun w al1 s1 H1 p1 S1 h1 v rv => ?_⟩
  exact ⟨al1, s1, ws, w, S1, rs.mono p1, rv, (PostS.expr h1 (rs.mono p1)).imp fun ws' al2 s2 H2 p2 S2 h2 sg' rs' => h2 al2 H2 sg' Le.rfl S2 rs'⟩
/-- a, b = x, y -/
def spar (is : List Nat) (m : MA) : MS := fun ws s => (m ws s).toS ws fun xs s' => if xs.length = is.length then .nx ((is.zip xs).foldl (fun z p => z.set p.1 (some p.2)) ws) s' else .no
theorem q_par {i j : Nat} {x y : Str} {a b : Expr} {ma : MA} {px py pt : Pos} {kt k2 pt2} (hc : X.calm = true) (hN : X.N.Nodup) (hi : X.N[i]? = some x) (hj : X.N[j]? = some y) (hij : i ≠ j)
    (hx : X.env.scope.names.lookup x = some .local) (hy : X.env.scope.names.lookup y = some .local) (ha : PA X [a, b] (tMs (X.K, fz) Wx ma))
    (hw : swappedStores [.Tuple [.Name x px, .Name y py] kt pt] (.Tuple [a, b] k2 pt2) X.env = pure (some [x, y]))
    (hs : swapsWithSole [.Tuple [.Name x px, .Name y py] kt pt] (.Tuple [a, b] k2 pt2) pos.line X.env = pure false) :
    PS X (.Assign [.Tuple [.Name x px, .Name y py] kt pt] (.Tuple [a, b] k2 pt2) pos) (tMS (X.K, fz) Wx (spar [i, j] ma)) := by
  refine ⟨fun pins sh sg H D I ⟨al, s, ws, S, rs, h⟩ => (ps_par hc hN hi hj hij hx hy ha hw hs).run pins sh sg H D I ?_⟩
  refine ⟨al, s, ws, S, rs, (PostS.expr h rs).imp fun xs al1 s1 H1 p1 S1 h1 vs rv => ?_⟩
  split at h1
  · rename_i hl
    obtain ⟨w1, w2, rfl⟩ : ∃ w1 w2, xs = [w1, w2] := by
      match xs, hl with
      | [p, q], _ => exact ⟨p, q, rfl⟩
    obtain ⟨v, u, rfl, r1, r2⟩ := rv.inv2
    exact ⟨v, u, rfl, h1 al1 H1 _ Le.rfl S1 (((rs.mono p1).set r1 i).set r2 j)⟩
  · exact h1.elim
theorem RWs.inv3 {K : Kz} {al : Gh} {w w' w'' : W} {vs : List V} (r : RWs K al [w, w', w''] vs) : ∃ v v' v'', vs = [v, v', v''] ∧ RW K al w v ∧ RW K al w' v' ∧ RW K al w'' v'' := by
  cases r with
  | cons a t =>
    obtain ⟨v', v'', e, b, c⟩ := t.inv2
    subst e
    exact ⟨_, _, _, rfl, a, b, c⟩
theorem q_par3 {i j l : Nat} {x y z : Str} {a b c : Expr} {ma : MA} {px py pz pt pos : Pos} {kt k2 pt2} (hc : X.calm = true) (hN : X.N.Nodup) (hi : X.N[i]? = some x) (hj : X.N[j]? = some y) (hl : X.N[l]? = some z) (hij : i ≠ j) (hil : i ≠ l) (hjl : j ≠ l)
    (hx : X.env.scope.names.lookup x = some .local) (hy : X.env.scope.names.lookup y = some .local) (hz : X.env.scope.names.lookup z = some .local) (ha : PA X [a, b, c] (tMs (X.K, fz) Wx ma))
    (hw : swappedStores [.Tuple [.Name x px, .Name y py, .Name z pz] kt pt] (.Tuple [a, b, c] k2 pt2) X.env = pure (some [x, y, z]))
    (hs : swapsWithSole [.Tuple [.Name x px, .Name y py, .Name z pz] kt pt] (.Tuple [a, b, c] k2 pt2) pos.line X.env = pure false) :
    PS X (.Assign [.Tuple [.Name x px, .Name y py, .Name z pz] kt pt] (.Tuple [a, b, c] k2 pt2) pos) (tMS (X.K, fz) Wx (spar [i, j, l] ma)) := by
  refine ⟨fun pins sh sg H D I ⟨al, s, ws, S, rs, h⟩ => (ps_par3 hc hN hi hj hl hij hil hjl hx hy hz ha hw hs).run pins sh sg H D I ?_⟩
  refine ⟨al, s, ws, S, rs, (PostS.expr h rs).imp fun xs al1 s1 H1 p1 S1 h1 vs rv => ?_⟩
  split at h1
  · rename_i hl
    obtain ⟨w1, w2, w3, rfl⟩ : ∃ w1 w2 w3, xs = [w1, w2, w3] := by
      match xs, hl with
      | [p, q, r], _ => exact ⟨p, q, r, rfl⟩
    obtain ⟨v, u, t, rfl, r1, r2, r3⟩ := rv.inv3
    exact ⟨v, u, t, rfl, h1 al1 H1 _ Le.rfl S1 ((((rs.mono p1).set r1 i).set r2 j).set r3 l)⟩
  · exact h1.elim
end


/-! ### what is walked -/
structure Wk where
  xs : List W
  gd : List (Nat × O)
  lo : Option (Nat × List (Key × W))
def gdOk (gd : List (Nat × O)) (s : Sto) : Bool := gd.all fun q => decide (s[q.1]? = some q.2)
def Wk.op (k : Wk) (s : Sto) : Sto := match k.lo with
  | some (n, l) => s.set n (.lck l)
  | none => s
def unlk (n : Nat) (l : List (Key × W)) (s : Sto) : Option Sto := if s[n]? = some (.lck l) then some (s.set n (.dic l)) else none
def Wk.cl (k : Wk) (s : Sto) : Option Sto := match k.lo with
  | some (n, l) => unlk n l s
  | none => some s
structure ItR (K : Kz) (g : Gh) (xs : List W) (gd : List (Nat × O)) (J : It) : Prop where
  stop : ∀ (i : Nat) (s : Sto) (H : Hp) (g' : Gh), Le g g' → Sim K g' s H → gdOk gd s = true → xs.length ≤ i → J.stop i H
  go : ∀ (i : Nat) (s : Sto) (H : Hp) (g' : Gh) (w : W), Le g g' → Sim K g' s H → gdOk gd s = true → xs[i]? = some w → J.go i H ∧ ∀ x H', J.yld i H x H' → ∃ g2, Le g' g2 ∧ Sim K g2 s H' ∧ RW K g2 w x
abbrev MI := Loc → Sto → R Wk
structure Opn (X : Cx) (fz : Gz) (g : Gh) (k : Wk) (s : Sto) (J : It) (fz2 : Gz) (H : Hp) : Prop where
  ex : fz2.ex = fz.ex
  sim : Sim (X.K, fz2) g (k.op s) H
  it : ∀ pv, ItR (X.K, ⟨fz2.lk, pv, fz2.ex⟩) g k.xs k.gd J
  pv : fz2.pv = fz.pv
  cl : ∀ (pv : Addr → Option HO) (g2 : Gh) (s2 s3 : Sto) (H3 : Hp), Le g g2 → Sim (X.K, ⟨fz2.lk, pv, fz2.ex⟩) g2 s2 H3 → k.cl s2 = some s3 → Ul X (fun H => Sim (X.K, ⟨fz.lk, pv, fz.ex⟩) g2 s3 H) H3
  ln : ∀ b, H b = none → fz.lk b = none
def tMI (X : Cx) (fz : Gz) (Wx : WX) (mi : MI) : TI := fun sg H Rr => ∃ g s ws, Sim (X.K, fz) g s H ∧ RSt (X.K, fz) g ws sg ∧ Post (X.K, fz) Wx g sg (fun k g' s' H' => ∀ J fz2 H2, Opn X fz g' k s' J fz2 H2 → Rr J H2) (mi ws s)
theorem none_upd {H : Hp} {a b : Addr} {u : HO} (e : upd H a u b = none) : H b = none := by
  by_cases z : b = a
  · rw [z, upd_same] at e; cases e
  · rwa [upd_ne z] at e
/-- nothing is locked -/
theorem Opn.plain {X : Cx} {fz : Gz} {g : Gh} {xs : List W} {gd : List (Nat × O)} {s : Sto} {J : It} {H : Hp} (S : Sim (X.K, fz) g s H) (h : ∀ pv, ItR (X.K, ⟨fz.lk, pv, fz.ex⟩) g xs gd J) : Opn X fz g ⟨xs, gd, none⟩ s J fz H :=
  ⟨rfl, S, h, rfl, fun pv g2 s2 s3 H3 _ S2 e => by cases e; exact .inl S2, fun b e => S.lkn e⟩
def wKey : Key → W
  | .inl i => .int i
  | .inr x => .str x
/-- the list that a value is, its guard -/
def lsG (s : Sto) : W → Option (List W × List (Nat × O))
  | .nd .lst xs => some (xs, [])
  | .nd .cst xs => some (xs, [])
  | .ref n => match s[n]? with
    | some (.lst xs) => some (xs, [(n, .lst xs)])
    | _ => none
  | _ => none
def rngW (lo c : Int) : Nat → List W
  | 0 => []
  | n + 1 => .int lo :: rngW (lo + c) c n
theorem rngW_len (c : Int) : ∀ (n : Nat) (lo : Int), (rngW lo c n).length = n
  | 0, _ => rfl
  | n + 1, lo => by simp [rngW, rngW_len c n]
theorem rngW_get (c : Int) : ∀ (n : Nat) (lo : Int) (i : Nat), i < n → (rngW lo c n)[i]? = some (.int (lo + i * c))
  | n + 1, lo, 0, _ => by simp [rngW]
  | n + 1, lo, i + 1, h => by
    rw [rngW, List.getElem?_cons_succ, rngW_get c n (lo + c) i (by omega)]
    congr 2
    rw [Int.natCast_succ, Int.add_mul]; omega
def strW (x : Str) : List W := x.cps.toList.map fun c => .str ⟨#[c]⟩
section
variable {K : Kz} {g g' : Gh} {s : Sto} {H : Hp}
theorem lsG_lst {w : W} {xs : List W} {gd : List (Nat × O)} (h : lsG s w = some (xs, gd)) : lstAt s w = some xs := by
  unfold lsG at h
  unfold lstAt
  split at h
  · cases h; rfl
  · cases h; rfl
  · split at h
    · rename_i e; cases h; simp [e]
    · cases h
  · cases h
/-- it stands so as long as the guard says -/
theorem lsG_at {w : W} {v : V} {xs : List W} {gd : List (Nat × O)} {s0 : Sto} (h : lsG s0 w = some (xs, gd)) (r : RW K g w v) (p : Le g g') (S : Sim K g' s H) (e : gdOk gd s = true) : ∃ a vs, v = .ref a ∧ RWs K g' xs vs ∧ SqL K.1 H a vs := by
  refine lstAt_ok S (r.mono p) ?_
  unfold lsG at h
  unfold lstAt
  split at h
  · cases h; rfl
  · cases h; rfl
  · split at h
    · cases h
      rename_i n _ _
      have : s[n]? = some (.lst xs) := by simpa [gdOk] using e
      simp [this]
    · cases h
  · cases h
theorem tup_at {w : W} {v : V} {xs : List W} (h : tupAt w = some xs) (r : RW K g w v) (p : Le g g') (S : Sim K g' s H) : ∃ a vs, v = .ref a ∧ RWs K g' xs vs ∧ SqT K.1 H a vs := tupAt_ok S (r.mono p) h
theorem RWs.none_of {ws : List W} {vs : List V} (r : RWs K g ws vs) {i : Nat} (e : ws.length ≤ i) : vs.length ≤ i := by
  rw [← r.length]; exact e
theorem it_L {w : W} {a : Addr} {xs : List W} {gd : List (Nat × O)} {s0 : Sto} (h : lsG s0 w = some (xs, gd)) (r : RW K g w (.ref a)) : ItR K g xs gd (Itl K.1 a) where
  stop := fun i s H g' p S e hi => by
    obtain ⟨b, vs, eb, rv, q⟩ := lsG_at h r p S e
    cases eb
    exact ⟨vs, q, rv.none_of hi⟩
  go := fun i s H g' w' p S e hx => by
    obtain ⟨b, vs, eb, rv, q⟩ := lsG_at h r p S e
    cases eb
    obtain ⟨v, hv, r'⟩ := rv.get hx
    refine ⟨⟨vs, v, q, hv⟩, fun x H' ⟨e1, y⟩ => ?_⟩
    subst e1
    have := y vs q
    rw [hv] at this; cases this
    exact ⟨g', Le.rfl, S, r'⟩
theorem it_T {w : W} {a : Addr} {xs : List W} (h : tupAt w = some xs) (r : RW K g w (.ref a)) : ItR K g xs [] (Itt K.1 a) where
  stop := fun i s H g' p S e hi => by
    obtain ⟨b, vs, eb, rv, q⟩ := tup_at h r p S
    cases eb
    exact ⟨vs, q, rv.none_of hi⟩
  go := fun i s H g' w' p S e hx => by
    obtain ⟨b, vs, eb, rv, q⟩ := tup_at h r p S
    cases eb
    obtain ⟨v, hv, r'⟩ := rv.get hx
    refine ⟨⟨vs, v, q, hv⟩, fun x H' ⟨e1, y⟩ => ?_⟩
    subst e1
    have := y vs q
    rw [hv] at this; cases this
    exact ⟨g', Le.rfl, S, r'⟩
theorem it_S {x : Str} : ItR K g (strW x) [] (Its x) where
  stop := fun i s H g' p S e hi => by
    show x.cps.size ≤ i
    simpa [strW] using hi
  go := fun i s H g' w p S e hx => by
    simp only [strW, List.getElem?_map, Option.map_eq_some_iff] at hx
    obtain ⟨c, hc, rfl⟩ := hx
    have hc' : x.cps[i]? = some c := by rw [← Array.getElem?_toList]; exact hc
    refine ⟨(Array.getElem?_eq_some_iff.mp hc').1, fun y H' ⟨e1, c', hc2, ey⟩ => ?_⟩
    subst e1
    rw [hc'] at hc2; cases hc2
    rw [ey]
    exact ⟨g', Le.rfl, S, .str⟩
theorem it_R {lo : Int} {n : Nat} : ItR K g (rngW lo 1 n) [] (Itr lo n) where
  stop := fun i s H g' p S e hi => by rw [rngW_len] at hi; exact hi
  go := fun i s H g' w p S e hx => by
    have hi : i < n := by have := (List.getElem?_eq_some_iff.mp hx).1; rwa [rngW_len] at this
    rw [rngW_get _ _ _ _ hi] at hx
    cases hx
    refine ⟨hi, fun y H' ⟨e1, ey⟩ => ?_⟩
    subst e1
    rw [ey, Int.mul_one]
    exact ⟨g', Le.rfl, S, .int⟩
theorem it_C {lo c : Int} {n : Nat} : ItR K g (rngW lo c n) [] (Itc lo c n) where
  stop := fun i s H g' p S e hi => by rw [rngW_len] at hi; exact hi
  go := fun i s H g' w p S e hx => by
    have hi : i < n := by have := (List.getElem?_eq_some_iff.mp hx).1; rwa [rngW_len] at this
    rw [rngW_get _ _ _ _ hi] at hx
    cases hx
    refine ⟨hi, fun y H' ⟨e1, ey⟩ => ?_⟩
    subst e1
    rw [ey]
    exact ⟨g', Le.rfl, S, .int⟩
/-! dicts -/
theorem wKey_ok {k : Key} : RW K g (wKey k) (kV k) := by cases k <;> constructor
theorem RKs.get {κ : Type} {ws : List (κ × W)} {vs : List (κ × V)} (r : RKs K g ws vs) : ∀ {i : Nat} {k : κ} {w : W}, ws[i]? = some (k, w) → ∃ v, vs[i]? = some (k, v) ∧ RW K g w v := by
  induction r with
  | nil => intro i k w h; simp at h
  | cons a _ ih =>
    intro i k w h
    cases i with
    | zero => simp at h; obtain ⟨rfl, rfl⟩ := h; exact ⟨_, rfl, a⟩
    | succ i => simpa using ih (by simpa using h)
def keysW' (l : List (Key × W)) : List W := l.map fun p => wKey p.1
def valsW' (l : List (Key × W)) : List W := l.map (·.2)
def itmsW (l : List (Key × W)) : List W := l.map fun p => .tup [wKey p.1, p.2]
/-- what holds of a dict that is locked -/
def Lkd (K : Kz) (g : Gh) (gd : List (Nat × O)) (a : Addr) (od : Obj) (vs : List (Key × V)) : Prop := ∀ (s : Sto) (H : Hp) (g' : Gh), Le g g' → Sim K g' s H → gdOk gd s = true → H a = some (.frz od (.dK vs))
theorem it_key {a : Addr} {od : Obj} {kvs : List (Key × W)} {vs : List (Key × V)} {gd : List (Nat × O)} (L : Lkd K g gd a od vs) (rk : RKs K g kvs vs) : ItR K g (keysW' kvs) gd (Itk a od vs) where
  stop := fun i s H g' p S e hi => ⟨L s H g' p S e, by rw [← rk.length]; simpa [keysW'] using hi⟩
  go := fun i s H g' w p S e hx => by
    simp only [keysW', List.getElem?_map, Option.map_eq_some_iff] at hx
    obtain ⟨q, hq, rfl⟩ := hx
    obtain ⟨v, hv, r⟩ := rk.get (k := q.1) (w := q.2) hq
    refine ⟨⟨L s H g' p S e, (List.getElem?_eq_some_iff.mp hv).1⟩, fun x H' ⟨e1, k', v', hk, ex⟩ => ?_⟩
    subst e1 ex
    rw [hv] at hk; cases hk
    exact ⟨g', Le.rfl, S, wKey_ok⟩
theorem it_val {a : Addr} {od : Obj} {kvs : List (Key × W)} {vs : List (Key × V)} {gd : List (Nat × O)} (L : Lkd K g gd a od vs) (rk : RKs K g kvs vs) : ItR K g (valsW' kvs) gd (Itd a od vs) where
  stop := fun i s H g' p S e hi => ⟨L s H g' p S e, by rw [← rk.length]; simpa [valsW'] using hi⟩
  go := fun i s H g' w p S e hx => by
    simp only [valsW', List.getElem?_map, Option.map_eq_some_iff] at hx
    obtain ⟨q, hq, rfl⟩ := hx
    obtain ⟨v, hv, r⟩ := rk.get (k := q.1) (w := q.2) hq
    refine ⟨⟨L s H g' p S e, (List.getElem?_eq_some_iff.mp hv).1⟩, fun x H' ⟨e1, k', hk⟩ => ?_⟩
    subst e1
    rw [hv] at hk; cases hk
    exact ⟨g', Le.rfl, S, r.mono p⟩
theorem tup2 {S : Sim K g s H} {T : Addr} {w1 w2 : W} {v1 v2 : V} (hT : H T = none) (r1 : RW K g w1 v1) (r2 : RW K g w2 v2) : ∃ g2, Le g g2 ∧ Sim K g2 s (upd H T (.tup [v1, v2])) ∧ RW K g2 (.tup [w1, w2]) (.ref T) := by
  have le := le_fix (u := .tup [v1, v2]) (S.hfn hT)
  exact ⟨_, le, S.fix hT, .nd (.cons (r1.mono le) (.cons (r2.mono le) .nil)) (SqT.of upd_same)⟩
theorem it_itm {a : Addr} {od : Obj} {kvs : List (Key × W)} {vs : List (Key × V)} {gd : List (Nat × O)} (L : Lkd K g gd a od vs) (rk : RKs K g kvs vs) : ItR K g (itmsW kvs) gd (Iti a od vs) where
  stop := fun i s H g' p S e hi => ⟨L s H g' p S e, by rw [← rk.length]; simpa [itmsW] using hi⟩
  go := fun i s H g' w p S e hx => by
    simp only [itmsW, List.getElem?_map, Option.map_eq_some_iff] at hx
    obtain ⟨q, hq, rfl⟩ := hx
    obtain ⟨v, hv, r⟩ := rk.get (k := q.1) (w := q.2) hq
    refine ⟨⟨L s H g' p S e, (List.getElem?_eq_some_iff.mp hv).1⟩, fun x H' ⟨T, k', v', hk, ex, hT, eH⟩ => ?_⟩
    subst eH ex
    rw [hv] at hk; cases hk
    exact tup2 (S := S) hT wKey_ok (r.mono p)
/-! enumerate, zip -/
def enumW : Nat → List W → List W
  | _, [] => []
  | n, x :: xs => .tup [.int n, x] :: enumW (n + 1) xs
theorem enumW_get : ∀ (xs : List W) (n i : Nat), (enumW n xs)[i]? = xs[i]?.map fun x => .tup [.int ((n + i : Nat) : Int), x]
  | [], n, i => by simp [enumW]
  | x :: xs, n, 0 => by simp [enumW]
  | x :: xs, n, i + 1 => by
    rw [enumW, List.getElem?_cons_succ, List.getElem?_cons_succ, enumW_get xs (n + 1) i]
    congr 2
    funext x
    congr 4
    omega
theorem enumW_len : ∀ (xs : List W) (n : Nat), (enumW n xs).length = xs.length
  | [], _ => rfl
  | x :: xs, n => by simp [enumW, enumW_len xs]
theorem it_enum {w : W} {a : Addr} {xs : List W} {gd : List (Nat × O)} {s0 : Sto} (h : lsG s0 w = some (xs, gd)) (r : RW K g w (.ref a)) : ItR K g (enumW 0 xs) gd (Ite K.1 a) where
  stop := fun i s H g' p S e hi => by
    obtain ⟨b, vs, eb, rv, q⟩ := lsG_at h r p S e
    cases eb
    rw [enumW_len] at hi
    exact ⟨vs, q, rv.none_of hi⟩
  go := fun i s H g' w' p S e hx => by
    obtain ⟨b, vs, eb, rv, q⟩ := lsG_at h r p S e
    cases eb
    rw [enumW_get] at hx
    obtain ⟨x0, hx0, rfl⟩ := Option.map_eq_some_iff.mp hx
    obtain ⟨v, hv, r'⟩ := rv.get hx0
    refine ⟨⟨vs, v, q, hv⟩, fun x H' ⟨T, x', ex, hT, eH, y⟩ => ?_⟩
    subst eH ex
    have := y vs q
    rw [hv] at this; cases this
    refine tup2 (S := S) hT ?_ r'
    rw [Nat.zero_add]; exact .int
def zipW (xs ys : List W) : List W := (xs.zip ys).map fun p => .tup [p.1, p.2]
theorem zipW_get {xs ys : List W} {i : Nat} {w : W} (h : (zipW xs ys)[i]? = some w) : ∃ x y, xs[i]? = some x ∧ ys[i]? = some y ∧ w = .tup [x, y] := by
  unfold zipW at h
  rw [List.getElem?_map] at h
  obtain ⟨⟨x, y⟩, h1, rfl⟩ := Option.map_eq_some_iff.mp h
  obtain ⟨h2, h3⟩ := List.getElem?_zip_eq_some.mp h1
  exact ⟨x, y, h2, h3, rfl⟩
theorem zipW_len {xs ys : List W} {i : Nat} (h : (zipW xs ys).length ≤ i) : xs.length ≤ i ∨ ys.length ≤ i := by
  simp [zipW] at h
  omega
theorem gdOk_app {a b : List (Nat × O)} (h : gdOk (a ++ b) s = true) : gdOk a s = true ∧ gdOk b s = true := by
  unfold gdOk at *
  rw [List.all_append, Bool.and_eq_true] at h
  exact h
theorem it_zip {w w' : W} {a b : Addr} {xs ys : List W} {gd gd' : List (Nat × O)} {s0 : Sto} (h : lsG s0 w = some (xs, gd)) (h' : lsG s0 w' = some (ys, gd')) (r : RW K g w (.ref a)) (r' : RW K g w' (.ref b)) : ItR K g (zipW xs ys) (gd ++ gd') (Itz K.1 a b) where
  stop := fun i s H g' p S e hi => by
    obtain ⟨e1, e2⟩ := gdOk_app e
    obtain ⟨_, vs, eb, rv, q⟩ := lsG_at h r p S e1
    cases eb
    obtain ⟨_, vs', eb, rv', q'⟩ := lsG_at h' r' p S e2
    cases eb
    exact ⟨vs, vs', q, q', (zipW_len hi).imp rv.none_of rv'.none_of⟩
  go := fun i s H g' w0 p S e hx => by
    obtain ⟨e1, e2⟩ := gdOk_app e
    obtain ⟨_, vs, eb, rv, q⟩ := lsG_at h r p S e1
    cases eb
    obtain ⟨_, vs', eb, rv', q'⟩ := lsG_at h' r' p S e2
    cases eb
    obtain ⟨x, y, h1, h2, rfl⟩ := zipW_get hx
    obtain ⟨v, hv, r1⟩ := rv.get h1
    obtain ⟨v', hv', r2⟩ := rv'.get h2
    refine ⟨⟨vs, vs', v, v', q, q', hv, hv'⟩, fun z H' ⟨T, x1, y1, ex, hT, eH, y2, y3⟩ => ?_⟩
    subst eH ex
    have := y2 vs q
    rw [hv] at this; cases this
    have := y3 vs' q'
    rw [hv'] at this; cases this
    exact tup2 (S := S) hT r1 r2
theorem it_zipT {w w' : W} {a b : Addr} {xs ys : List W} (h : tupAt w = some xs) (h' : tupAt w' = some ys) (r : RW K g w (.ref a)) (r' : RW K g w' (.ref b)) : ItR K g (zipW xs ys) [] (RZ.ItzT K.1 a b) where
  stop := fun i s H g' p S e hi => by
    obtain ⟨_, vs, eb, rv, q⟩ := tup_at h r p S
    cases eb
    obtain ⟨_, vs', eb, rv', q'⟩ := tup_at h' r' p S
    cases eb
    exact ⟨vs, vs', q, q', (zipW_len hi).imp rv.none_of rv'.none_of⟩
  go := fun i s H g' w0 p S e hx => by
    obtain ⟨_, vs, eb, rv, q⟩ := tup_at h r p S
    cases eb
    obtain ⟨_, vs', eb, rv', q'⟩ := tup_at h' r' p S
    cases eb
    obtain ⟨x, y, h1, h2, rfl⟩ := zipW_get hx
    obtain ⟨v, hv, r1⟩ := rv.get h1
    obtain ⟨v', hv', r2⟩ := rv'.get h2
    refine ⟨⟨vs, vs', v, v', q, q', hv, hv'⟩, fun z H' ⟨T, x1, y1, ex, hT, eH, y2, y3⟩ => ?_⟩
    subst eH ex
    have := y2 vs q
    rw [hv] at this; cases this
    have := y3 vs' q'
    rw [hv'] at this; cases this
    exact tup2 (S := S) hT r1 r2
end
/-- two texts sign by sign, the signs in new pairs -/
def Itzs (x y : Str) : It :=
  ⟨fun i _ => i < min x.cps.size y.cps.size, fun i H v H' => ∃ T c d, v = .ref T ∧ H T = none ∧ H' = upd H T (.tup [.str ⟨#[c]⟩, .str ⟨#[d]⟩]) ∧ x.cps[i]? = some c ∧ y.cps[i]? = some d, fun i _ => min x.cps.size y.cps.size ≤ i⟩
/-- how the iterators stand -/
def zsSt (x y : Str) (t u : Tok) (N : Nat) (i : Nat) (h : Heap) : Prop :=
  IsZip h (N + 4) (N + 2) (N + 3) .none ∧ IsTupOf2 h (N + 2) (.ref N) (.ref (N + 1)) ∧ (∃ a1 a2, IsTupOf2 h (N + 3) a1 a2) ∧ h.IsStrIter N (strIterType x) x t i ∧ h.IsStrIter (N + 1) (strIterType y) y u i
abbrev zsFp (N : Nat) : List Addr := (N + 4) :: (N + 2) :: (N + 3) :: ([N] ++ [N + 1])
theorem zs_goes {P : Program} {w : World} {A : Around} {elts : List Expr} {kk : Nat} {tpos : Pos} {x y : Str} {t u : Tok} {N : Nat} (hh : A.handled = none) :
    GoesN P w A (.Tuple elts kk tpos) (N + 4) (zsFp N) [N + 4, N + 3, N, N + 1] (min x.cps.size y.cps.size)
      (fun i h₀ v h => ∃ T a b, v = .ref T ∧ h₀.objs.size ≤ T ∧ (∃ c z, x.cps[i]? = some c ∧ a = .str ⟨#[c]⟩ z) ∧ (∃ c z, y.cps[i]? = some c ∧ b = .str ⟨#[c]⟩ z) ∧ h.IsTuple T #[a, b]) (zsSt x y t u N) :=
  GoesN.zip2 (zip_sep2 (N := N) (fp1 := []) (fp2 := []) (fun _ h => nomatch h) fun _ h => nomatch h) (Draws.text (A := A.in1) hh N x t) (Draws.text (A := A.in1) hh (N + 1) y u)
theorem turn_zs {P : Program} {w : World} {K : PySem.W.Frag} {elts : List Expr} {kk : Nat} {tpos : Pos} {x y : Str} {t u : Tok} {N : Nat} :
    Turn P w K (.Tuple elts kk tpos) (Itzs x y) (zsFp N) (N + 4) (fun i h => i ≤ min x.cps.size y.cps.size ∧ zsSt x y t u N i h) where
  mem := by simp
  obj := fun i h ⟨_, st⟩ b hb => by
    obtain ⟨hz, hTI, ⟨a1, a2, hTO⟩, ⟨o1, e1, _, d1⟩, ⟨o2, e2, _, d2⟩⟩ := st
    have e' : b = N + 4 ∨ b = N + 2 ∨ b = N + 3 ∨ b = N ∨ b = N + 1 := by simpa [zsFp] using hb
    rcases e' with rfl | rfl | rfl | rfl | rfl
    · exact ⟨_, hz, fun v q => nomatch q⟩
    · exact ⟨_, hTI, fun v q => nomatch q⟩
    · exact ⟨_, hTO, fun v q => nomatch q⟩
    · exact ⟨o1, e1, fun v q => by rw [d1] at q; cases q⟩
    · exact ⟨o2, e2, fun v q => by rw [d2] at q; cases q⟩
  keep := fun i h h' st k => ⟨st.1, (zs_goes (P := P) (w := w) (A := callerA) (elts := []) (kk := 0) (tpos := ⟨0, 0, 0, 0⟩) (x := x) (y := y) (t := t) (u := u) (N := N) rfl).frame i h h' st.2 k⟩
  item := by
    intro X hP hw hK hc i pins s σ H E I hf st hg
    subst hP hw hK
    refine (zs_goes (I.ok.hd hc)).goes i s _ E hg st.2 fun v h' tk hY st' hk htk => ?_
    obtain ⟨T, a, b, ev, hT, ⟨c, z, hcx, ea⟩, ⟨d, z', hdy, eb⟩, hp⟩ := hY
    subst ev ea eb
    have new : ObjOk X.prog X.w (upd H T (.tup [.str ⟨#[c]⟩, .str ⟨#[d]⟩])) h' T (.tup [.str ⟨#[c]⟩, .str ⟨#[d]⟩]) :=
      ⟨by show 2 ≤ sizeLine; decide, [_, _], .cons ⟨z, rfl⟩ (.cons ⟨z', rfl⟩ .nil), hp⟩
    have I1 : Inv X pins σ (upd H T (.tup [.str ⟨#[c]⟩, .str ⟨#[d]⟩])) { s with heap := h', toks := tk } :=
      I.turnedNew (ch := [N + 4, N + 3, N, N + 1]) hk (fun b hb => hf b ((zs_goes (P := X.prog) (w := X.w) (A := X.A) (elts := elts) (kk := kk) (tpos := tpos) (x := x) (y := y) (t := t) (u := u) (N := N) (I.ok.hd hc)).sub b hb)) hT new
    refine ⟨.ref T, _, I1, rfl, ⟨T, c, d, rfl, I.hok.fresh hT, rfl, hcx, hdy⟩, ⟨hg, st'⟩, fun b hb => ?_⟩
    have lt : b < s.heap.objs.size := by
      obtain ⟨hz, hTI, ⟨a1, a2, hTO⟩, ⟨o1, e1, _⟩, ⟨o2, e2, _⟩⟩ := st.2
      have e' : b = N + 4 ∨ b = N + 2 ∨ b = N + 3 ∨ b = N ∨ b = N + 1 := by simpa [zsFp] using hb
      rcases e' with rfl | rfl | rfl | rfl | rfl
      · exact Heap.lt_size hz
      · exact Heap.lt_size hTI
      · exact Heap.lt_size hTO
      · exact Heap.lt_size e1
      · exact Heap.lt_size e2
    rw [upd_ne (Nat.ne_of_lt (Nat.lt_of_lt_of_le lt hT))]
    exact (hf b hb).1
  done := by
    intro X hP hw hK hc i pins s σ H E I hf st hg
    subst hP hw hK
    have ei : i = min x.cps.size y.cps.size := Nat.le_antisymm st.1 hg
    subst ei
    exact (zs_goes (I.ok.hd hc) (elts := elts) (kk := kk) (tpos := tpos)).stops s _ E st.2 fun h' tk hk htk => I.turnedL (ch := [N + 4, N + 3, N, N + 1]) hk (fun b hb => hf b ((zs_goes (P := X.prog) (w := X.w) (A := X.A) (elts := elts) (kk := kk) (tpos := tpos) (x := x) (y := y) (t := t) (u := u) (N := N) (I.ok.hd hc)).sub b hb))
  self := fun A i s Q E st h => wpAny_pyIter_zip st.2.1 h
section
variable {K : Kz} {g g' : Gh} {s : Sto} {H : Hp}
theorem it_zipS {x y : Str} : ItR K g (zipW (strW x) (strW y)) [] (Itzs x y) where
  stop := fun i s H g' p S e hi => by
    show min x.cps.size y.cps.size ≤ i
    rcases zipW_len hi with h | h <;> simp [strW] at h <;> omega
  go := fun i s H g' w0 p S e hx => by
    obtain ⟨u, v, h1, h2, rfl⟩ := zipW_get hx
    simp only [strW, List.getElem?_map, Option.map_eq_some_iff] at h1 h2
    obtain ⟨c, hc, rfl⟩ := h1
    obtain ⟨d, hd, rfl⟩ := h2
    have hc' : x.cps[i]? = some c := by rw [← Array.getElem?_toList]; exact hc
    have hd' : y.cps[i]? = some d := by rw [← Array.getElem?_toList]; exact hd
    refine ⟨?_, fun z H' ⟨T, c1, d1, ex, hT, eH, y2, y3⟩ => ?_⟩
    · have h1 := (Array.getElem?_eq_some_iff.mp hc').1
      have h2 := (Array.getElem?_eq_some_iff.mp hd').1
      show i < min x.cps.size y.cps.size
      omega
    · subst eH ex
      rw [hc'] at y2; cases y2
      rw [hd'] at y3; cases y3
      exact tup2 (S := S) hT .str .str
end
/-- for .. in a value: its items, what is locked meanwhile -/
def dcG (f : List (Key × W) → List W) (s : Sto) : W → Option Wk
  | .nd (.dic ks) vs => some ⟨f (ks.zip vs), [], none⟩
  | .ref n => match s[n]? with
    | some (.dic l) => some ⟨f l, [(n, .lck l)], some (n, l)⟩
    | some (.lck l) => some ⟨f l, [(n, .lck l)], none⟩
    | _ => none
  | _ => none
def wkOf (s : Sto) (w : W) : Option Wk := match lsG s w with
  | some (xs, gd) => some ⟨xs, gd, none⟩
  | none => match tupAt w with
    | some xs => some ⟨xs, [], none⟩
    | none => match w with
      | .str x => some ⟨strW x, [], none⟩
      | _ => none
def R.ofK {B : Type} (s : Sto) : Option B → R B
  | some k => .ok k s
  | none => .no
def mival (m : ME) : MI := fun ws s => (m ws s).bind fun w s => R.ofK s (wkOf s w)
def midic (f : List (Key × W) → List W) (m : ME) : MI := fun ws s => (m ws s).bind fun w s => R.ofK s (dcG f s w)
def mienum (m : MA) : MI := fun ws s => (m ws s).bind fun xs s => match xs with
  | [w] => (match lsG s w with
    | some (ys, gd) => .ok ⟨enumW 0 ys, gd, none⟩ s
    | none => .no)
  | _ => .no
def mizipA : List W → Sto → R Wk := fun xs s => match xs with
  | [.str x, .str y] => .ok ⟨zipW (strW x) (strW y), [], none⟩ s
  | [a, b] => (match lsG s a, lsG s b with
    | some (xs, gd), some (ys, gd') => .ok ⟨zipW xs ys, gd ++ gd', none⟩ s
    | _, _ => match tupAt a, tupAt b with
      | some xs, some ys => .ok ⟨zipW xs ys, [], none⟩ s
      | _, _ => .no)
  | _ => .no
def mizip (m : MA) : MI := fun ws s => (m ws s).bind mizipA
section
variable {X : Cx} {fz : Gz} {Wx : WX} {pos p : Pos} {me : ME} {e tg : Expr} {ms : MA}
theorem R.ofK_some {B : Type} {s : Sto} {o : Option B} {K : Kz} {g : Gh} {sg : L2.St} {P : B → Gh → Sto → Hp → Prop} (h : Post K Wx g sg P (R.ofK s o)) : ∃ b, o = some b ∧ ∀ g' H', Le g g' → Sim K g' s H' → P b g' s H' := by
  cases o with
  | some b => exact ⟨b, rfl, h⟩
  | none => exact h.elim
theorem qi_val (he : PE X e (tM (X.K, fz) Wx me)) : PI X tg e (tMI X fz Wx (mival me)) := by
  refine ⟨fun pins sh sg H Q I ⟨g, s, ws, S, rs, h⟩ => ?_⟩
  unfold mival at h
  cases hm : me ws s with
  | no => rw [hm] at h; exact h.elim
  | er c d s1 =>
    rw [hm] at h
    exact (pi_list he).run pins sh sg H Q I ⟨g, s, ws, S, rs, by rw [hm]; exact h⟩
  | ok w s1 =>
    rw [hm] at h
    obtain ⟨k, ek, h⟩ := R.ofK_some (o := wkOf s1 w) (show Post _ _ _ _ _ (R.ofK s1 (wkOf s1 w)) from h)
    unfold wkOf at ek
    split at ek
    · rename_i xs gd el
      cases ek
      refine (pi_list he).run pins sh sg H Q I ⟨g, s, ws, S, rs, ?_⟩
      rw [hm]
      intro g' H' q S' v rv
      obtain ⟨a, vs, rfl, rvs, sq⟩ := lstAt_ok S' rv (lsG_lst el)
      exact ⟨a, rfl, ⟨vs, sq⟩, h g' H' q S' _ _ _ (Opn.plain S' fun pv => it_L el rv.fz)⟩
    · split at ek
      · rename_i xs el
        cases ek
        refine (pi_tup he).run pins sh sg H Q I ⟨g, s, ws, S, rs, ?_⟩
        rw [hm]
        intro g' H' q S' v rv
        obtain ⟨a, vs, rfl, rvs, sq⟩ := tupAt_ok S' rv el
        exact ⟨a, rfl, ⟨vs, sq⟩, h g' H' q S' _ _ _ (Opn.plain S' fun pv => it_T el rv.fz)⟩
      · split at ek
        · rename_i x _
          cases ek
          refine (pi_str he).run pins sh sg H Q I ⟨g, s, ws, S, rs, ?_⟩
          rw [hm]
          intro g' H' q S' v rv
          cases rv
          exact ⟨_, rfl, h g' H' q S' _ _ _ (Opn.plain S' fun pv => it_S)⟩
        · cases ek
/-- a dict is locked -/
theorem dc_open {f : List (Key × W) → List W} {JF : Addr → Obj → List (Key × V) → It} (hJ : ∀ {K : Kz} {g : Gh} {a : Addr} {od : Obj} {kvs : List (Key × W)} {vs : List (Key × V)} {gd : List (Nat × O)}, Lkd K g gd a od vs → RKs K g kvs vs → ItR K g (f kvs) gd (JF a od vs))
    {g : Gh} {s : Sto} {H : Hp} {w : W} {v : V} {k : Wk} {Q : It → Hp → Prop} (S : Sim (X.K, fz) g s H) (r : RW (X.K, fz) g w v) (e : dcG f s w = some k) (h : ∀ J fz2 H2, Opn X fz g k s J fz2 H2 → Q J H2) :
    ∃ d vs, v = .ref d ∧ ((H d = some (.dK vs) ∧ ∀ od, NF X d → Q (JF d od vs) (upd H d (.frz od (.dK vs)))) ∨ ∃ od, H d = some (.frz od (.dK vs)) ∧ Q (JF d od vs) H) := by
  have lk1 : ∀ (lk : Addr → Option (Obj × List (Key × V))) (pv : Addr → Option HO) (ex : Option (Nat × Addr × Value × Option Addr)) (a : Addr) (od : Obj) (l vs : List (Key × V)), lk a = some (od, l) → lockd ⟨lk, pv, ex⟩ a (.dK vs) = .frz od (.dK vs) := fun lk pv ex a od l vs e => by
    unfold lockd
    rw [show (⟨lk, pv, ex⟩ : Gz).lk a = some (od, l) from e]
  unfold dcG at e
  split at e
  · rename_i ks ws'
    cases e
    cases r with
    | @nd _ _ a vs rs fr =>
      obtain ⟨hl, fr⟩ := fr
      have rk := RKs.zip hl rs
      have eH := S.fr a _ fr
      cases hlk : fz.lk a with
      | none =>
        refine ⟨a, _, rfl, .inl ⟨by rw [eH, lockd_none hlk], fun od nf => h _ (fz.lock a od (ks.zip vs)) _ ⟨rfl, ?_, fun pv => hJ (fun s' H' g' p S' _ => ?_) rk.fz, rfl, fun pv g2 s2 s3 H3 p S2 ec => ?_, fun b e => S.lkn (none_upd e)⟩⟩⟩
        · have := S.relkF fr (off_lock (od := od) (vs := ks.zip vs))
          rw [show lockd (fz.lock a od (ks.zip vs)) a (.dK (ks.zip vs)) = .frz od (.dK (ks.zip vs)) from lk1 _ _ _ _ _ _ _ lock_at] at this
          exact this
        · exact (S'.fr a _ (p.hf _ _ fr)).trans (congrArg some (lk1 _ _ _ _ _ _ _ lock_at))
        · cases ec
          refine .inr ⟨a, od, .dK (ks.zip vs), (S2.fr a _ (p.hf _ _ fr)).trans (congrArg some (lk1 _ _ _ _ _ _ _ lock_at)), nf, ?_⟩
          have := S2.relkF (f2 := ⟨fz.lk, pv, fz.ex⟩) (p.hf _ _ fr) ⟨fun b hb => by show fz.lk b = (fz.lock a od (ks.zip vs)).lk b; unfold Gz.lock; dsimp only; rw [if_neg hb], rfl, rfl⟩
          rw [lockd_none (show (⟨fz.lk, pv, fz.ex⟩ : Gz).lk a = none from hlk)] at this
          exact this
      | some q =>
        obtain ⟨od, l⟩ := q
        refine ⟨a, _, rfl, .inr ⟨od, eH.trans (congrArg some (lk1 fz.lk fz.pv fz.ex a od l _ hlk)), h _ fz _ (Opn.plain S fun pv => hJ (fun s' H' g' p S' _ => ?_) rk.fz)⟩⟩
        exact (S'.fr a _ (p.hf _ _ fr)).trans (congrArg some (lk1 _ _ _ _ _ _ _ hlk))
  · rename_i n
    cases r with
    | @ref _ a ea =>
      split at e
      · rename_i l es
        cases e
        obtain ⟨vs, rk, eH, hlk⟩ := S.at_ n _ _ es ea
        refine ⟨a, vs, rfl, .inl ⟨eH, fun od nf => h _ (fz.lock a od vs) _ ⟨rfl, ?_, fun pv => hJ (fun s' H' g' p S' eg => ?_) rk.fz, rfl, fun pv g2 s2 s3 H3 p S2 ec => ?_, fun b e => S.lkn (none_upd e)⟩⟩⟩
        · exact S.relkM (o' := .lck l) es ea rfl off_lock ⟨vs, od, rk.fz, lock_at, upd_same⟩ rfl
        · have es' : s'[n]? = some (.lck l) := by simpa [gdOk] using eg
          obtain ⟨vs', ob, rk', l1, q⟩ := S'.at_ n _ _ es' (pre_get p.al ea)
          have l2 : (fz.lock a od vs).lk a = some (ob, vs') := l1
          rw [lock_at] at l2; cases l2
          exact q
        · have ec : unlk n l s2 = some s3 := ec
          unfold unlk at ec
          split at ec
          · rename_i es'
            cases ec
            obtain ⟨vs', ob, rk', l1, q⟩ := S2.at_ n _ _ es' (pre_get p.al ea)
            refine .inr ⟨a, ob, _, q, nf, ?_⟩
            exact S2.relkM (f2 := ⟨fz.lk, pv, fz.ex⟩) (o' := .dic l) es' (pre_get p.al ea) rfl ⟨fun b hb => by show fz.lk b = (fz.lock a od vs).lk b; unfold Gz.lock; dsimp only; rw [if_neg hb], rfl, rfl⟩ ⟨vs', rk'.fz, upd_same, hlk⟩ rfl
          · cases ec
      · rename_i l es
        cases e
        obtain ⟨vs, ob, rk, hlk, eH⟩ := S.at_ n _ _ es ea
        refine ⟨a, vs, rfl, .inr ⟨ob, eH, h _ fz _ (Opn.plain S fun pv => hJ (fun s' H' g' p S' eg => ?_) rk.fz)⟩⟩
        have es' : s'[n]? = some (.lck l) := by simpa [gdOk] using eg
        obtain ⟨vs', ob', rk', l1, q⟩ := S'.at_ n _ _ es' (pre_get p.al ea)
        have l2 : fz.lk a = some (ob', vs') := l1
        have l3 : fz.lk a = some (ob, vs) := hlk
        rw [l3] at l2; cases l2
        exact q
      · cases e
  · cases e
section
variable {apos : Pos}
/-- the reading of the dict that is walked -/
theorem dc_te {f : List (Key × W) → List W} {JF : Addr → Obj → List (Key × V) → It} (hJ : ∀ {K : Kz} {g : Gh} {a : Addr} {od : Obj} {kvs : List (Key × W)} {vs : List (Key × V)} {gd : List (Nat × O)}, Lkd K g gd a od vs → RKs K g kvs vs → ItR K g (f kvs) gd (JF a od vs)) {sg : L2.St} {H : Hp} {Q : It → Hp → Prop} (h : tMI X fz Wx (midic f me) sg H Q) :
    tM (X.K, fz) Wx me sg H fun x H1 => ∃ d kvs, x = .ref d ∧ ((H1 d = some (.dK kvs) ∧ ∀ od, NF X d → Q (JF d od kvs) (upd H1 d (.frz od (.dK kvs)))) ∨ ∃ od, H1 d = some (.frz od (.dK kvs)) ∧ Q (JF d od kvs) H1) := by
  obtain ⟨g, s, ws, S, rs, h⟩ := h
  refine ⟨g, s, ws, S, rs, h.bind.imp fun w g1 s1 H1 p1 S1 h1 v rv => ?_⟩
  obtain ⟨k, ek, h2⟩ := R.ofK_some h1
  exact dc_open hJ S1 rv ek (h2 g1 H1 Le.rfl S1)
theorem qi_vals (he : PE X e (tM (X.K, fz) Wx me)) (hbase : attributeBase e "values" X.env (eval e X.env) = eval e X.env) (hline : (apos.endLine == p.line) = true) : PI X tg (.Call (.Attribute e "values" apos) [] [] p) (tMI X fz Wx (midic valsW' me)) := by
  refine ⟨fun pins sh sg H Q I h => (pi_values (pe_lockD he) hbase hline).run pins sh sg H Q I ?_⟩
  obtain ⟨g, s, ws, S, rs, h⟩ := dc_te (JF := fun a od vs => Itd a od vs) it_val h
  refine ⟨g, s, ws, S, rs, h.imp fun w g1 s1 H1 p1 S1 h1 v rv => ?_⟩
  obtain ⟨d, kvs, ev, h2⟩ := h1 v rv
  refine ⟨d, kvs, ev, h2.imp (fun ⟨a, b⟩ => ⟨a, fun od nf => ⟨d, od, kvs, ev, upd_same, b od nf⟩⟩) fun ⟨od, a, b⟩ => ⟨od, a, d, od, kvs, ev, a, b⟩⟩
theorem qi_keysM (he : PE X e (tM (X.K, fz) Wx me)) (hbase : attributeBase e "keys" X.env (eval e X.env) = eval e X.env) (hline : (apos.endLine == p.line) = true) : PI X tg (.Call (.Attribute e "keys" apos) [] [] p) (tMI X fz Wx (midic keysW' me)) := by
  refine ⟨fun pins sh sg H Q I h => (pi_keysM (pe_lockD he) hbase hline).run pins sh sg H Q I ?_⟩
  obtain ⟨g, s, ws, S, rs, h⟩ := dc_te (JF := fun a od vs => Itk a od vs) it_key h
  refine ⟨g, s, ws, S, rs, h.imp fun w g1 s1 H1 p1 S1 h1 v rv => ?_⟩
  obtain ⟨d, kvs, ev, h2⟩ := h1 v rv
  refine ⟨d, kvs, ev, h2.imp (fun ⟨a, b⟩ => ⟨a, fun od nf => ⟨d, od, kvs, ev, upd_same, b od nf⟩⟩) fun ⟨od, a, b⟩ => ⟨od, a, d, od, kvs, ev, a, b⟩⟩
theorem qi_items {elts : List Expr} {kk : Nat} {tpos : Pos} (he : PE X e (tM (X.K, fz) Wx me)) (hbase : attributeBase e "items" X.env (eval e X.env) = eval e X.env) (hline : (apos.endLine == p.line) = true) : PI X (.Tuple elts kk tpos) (.Call (.Attribute e "items" apos) [] [] p) (tMI X fz Wx (midic itmsW me)) := by
  refine ⟨fun pins sh sg H Q I h => (pi_items (pe_lockD he) hbase hline).run pins sh sg H Q I ?_⟩
  obtain ⟨g, s, ws, S, rs, h⟩ := dc_te (JF := fun a od vs => Iti a od vs) it_itm h
  refine ⟨g, s, ws, S, rs, h.imp fun w g1 s1 H1 p1 S1 h1 v rv => ?_⟩
  obtain ⟨d, kvs, ev, h2⟩ := h1 v rv
  refine ⟨d, kvs, ev, h2.imp (fun ⟨a, b⟩ => ⟨a, fun od nf => ⟨d, od, kvs, ev, upd_same, b od nf⟩⟩) fun ⟨od, a, b⟩ => ⟨od, a, d, od, kvs, ev, a, b⟩⟩
/-- for k in d -/
theorem qi_keys (he : PE X e (tM (X.K, fz) Wx me)) : PI X tg e (tMI X fz Wx (midic keysW' me)) := by
  refine ⟨fun pins sh sg H Q I h => (pi_keys (pe_lockD he)).run pins sh sg H Q I ?_⟩
  obtain ⟨g, s, ws, S, rs, h⟩ := dc_te (JF := fun a od vs => Itk a od vs) it_key h
  refine ⟨g, s, ws, S, rs, h.imp fun w g1 s1 H1 p1 S1 h1 v rv => ?_⟩
  obtain ⟨d, kvs, ev, h2⟩ := h1 v rv
  refine ⟨d, kvs, ev, h2.imp (fun ⟨a, b⟩ => ⟨a, fun od nf => ⟨d, od, ev, .inl ⟨kvs, upd_same, b od nf⟩⟩⟩) fun ⟨od, a, b⟩ => ⟨od, a, d, od, ev, .inl ⟨kvs, a, b⟩⟩⟩
/-- for .. in e: a list, a tuple, a text; a dict -/
def miany (m : ME) : MI := fun ws s => (m ws s).bind fun w s => match dicAt s w with
  | some _ => R.ofK s (dcG keysW' s w)
  | none => R.ofK s (wkOf s w)
theorem qi_any (he : PE X e (tM (X.K, fz) Wx me)) : PI X tg e (tMI X fz Wx (miany me)) := by
  refine ⟨fun pins sh sg H Q I ⟨g, s, ws, S, rs, h⟩ => ?_⟩
  cases hm : me ws s with
  | no => unfold miany at h; rw [hm] at h; exact h.elim
  | er c d s1 =>
    refine (qi_val he).run pins sh sg H Q I ⟨g, s, ws, S, rs, ?_⟩
    unfold miany at h; unfold mival; rw [hm] at h ⊢; exact h
  | ok w s1 =>
    unfold miany at h; rw [hm] at h
    have h : Post (X.K, fz) Wx g sg _ (match dicAt s1 w with
      | some _ => R.ofK s1 (dcG keysW' s1 w)
      | none => R.ofK s1 (wkOf s1 w)) := h
    cases ed : dicAt s1 w with
    | some kvs =>
      rw [ed] at h
      refine (qi_keys he).run pins sh sg H Q I ⟨g, s, ws, S, rs, ?_⟩
      unfold midic; rw [hm]; exact h
    | none =>
      rw [ed] at h
      refine (qi_val he).run pins sh sg H Q I ⟨g, s, ws, S, rs, ?_⟩
      unfold mival; rw [hm]; exact h
theorem qi_enum {elts : List Expr} {kk : Nat} {tpos : Pos} (hg : Gl X "enumerate") (hm : X.mg "enumerate" = none) (ha : PA X [e] (tMs (X.K, fz) Wx ms)) (hs : starEach [e] X.env = [(false, eval e X.env)]) : PI X (.Tuple elts kk tpos) (.Call (.Name "enumerate" p) [e] [] pos) (tMI X fz Wx (mienum ms)) := by
  refine ⟨fun pins sh sg H Q I ⟨al, s, ws, S, rs, h⟩ => (pi_enum hg hm ha hs).run pins sh sg H Q I ⟨al, s, ws, S, rs, h.bind.imp fun xs al1 s1 H1 p1 S1 h1 vs rv => ?_⟩⟩
  split at h1
  · split at h1
    · rename_i ys gd hy
      obtain ⟨v, rfl, r⟩ := rv.inv1
      obtain ⟨a, us, rfl, ru, q⟩ := lstAt_ok S1 r (lsG_lst hy)
      exact ⟨a, us, rfl, q, h1 al1 H1 Le.rfl S1 _ _ _ (Opn.plain S1 fun pv => it_enum hy r.fz)⟩
    · exact h1.elim
  · exact h1.elim
end
def iZipS (ta : TA) : TI := fun σ H Rr => ta σ H fun vs H1 => ∃ x y, vs = [.str x, .str y] ∧ Rr (Itzs x y) H1
theorem pi_zipS {X : Cx} {e e2 : Expr} {ta : TA} {p pos tpos : Pos} {elts : List Expr} {kk : Nat} (hg : Gl X "zip") (hm : X.mg "zip" = none) (ha : PA X [e, e2] ta)
    (hs : starEach [e, e2] X.env = (false, eval e X.env) :: starEach [e2] X.env) (hpl : (backTo pos (starEach [e2] X.env)).any (·.1) = false) :
    PI X (.Tuple elts kk tpos) (.Call (.Name "zip" p) [e, e2] [] pos) (iZipS ta) := by
  refine ⟨fun pins s σ H Rr I h => Call_ (ld_blt I hg hm PyProof.Rows.boot_zip (PyProof.Rows.callWith_type1 (thn (ha.run pos pins s σ H _ I h) fun us s1 hh => ?_) hs hpl))⟩
  obtain ⟨vs, H1, I1, r1, x, y, ev, q⟩ := hh
  subst ev
  cases r1 with
  | cons r rr => cases rr with
    | cons r' rr => cases rr with
      | nil =>
        obtain ⟨t, rfl⟩ := r
        obtain ⟨u, rfl⟩ := r'
        refine zip_begins2 (begins_text x t) (begins_text y u) trivial trivial fun h' hz hTI hTO h1 h2 hsz hk => wpAny_pyIter_zip hz ?_
        have I2 : Inv X pins σ H1 { s1 with heap := h' } := I1.kept (t' := s1.toks) hk
        refine ⟨s1.heap.objs.size + 4, zsFp s1.heap.objs.size, _, _, H1, rfl, I2, turn_zs (x := x) (y := y) (t := t) (u := u) (N := s1.heap.objs.size), ⟨Nat.zero_le _, hz, hTI, ⟨_, _, hTO⟩, ⟨_, h1, rfl, rfl⟩, ⟨_, h2, rfl, rfl⟩⟩, fun b hb => ?_, q⟩
        have hle : s1.heap.objs.size ≤ b := by
          have e' : b = s1.heap.objs.size + 4 ∨ b = s1.heap.objs.size + 2 ∨ b = s1.heap.objs.size + 3 ∨ b = s1.heap.objs.size ∨ b = s1.heap.objs.size + 1 := by simpa [zsFp] using hb
          rcases e' with z | z | z | z | z <;> rw [z]
          · exact Nat.le_add_right _ _
          · exact Nat.le_add_right _ _
          · exact Nat.le_add_right _ _
          · exact Nat.le_refl _
          · exact Nat.le_add_right _ _
        exact I1.fpOk hle (I1.hok.fresh hle)
theorem qi_zip {e2 : Expr} {elts : List Expr} {kk : Nat} {tpos : Pos} (hg : Gl X "zip") (hm : X.mg "zip" = none) (ha : PA X [e, e2] (tMs (X.K, fz) Wx ms))
    (hs : starEach [e, e2] X.env = (false, eval e X.env) :: starEach [e2] X.env) (hpl : (backTo pos (starEach [e2] X.env)).any (·.1) = false) : PI X (.Tuple elts kk tpos) (.Call (.Name "zip" p) [e, e2] [] pos) (tMI X fz Wx (mizip ms)) := by
  refine ⟨fun pins sh sg H Q I ⟨al, s, ws, S, rs, h⟩ => ?_⟩
  unfold mizip at h
  cases hz : ms ws s with
  | no => rw [hz] at h; exact h.elim
  | er c d s1 =>
    rw [hz] at h
    exact (RZ.pi_zipA hg hm ha hs hpl).run pins sh sg H Q I ⟨al, s, ws, S, rs, by rw [hz]; exact h⟩
  | ok xs s1 =>
    rw [hz] at h
    have h : Post (X.K, fz) Wx al sg (fun k g' s' H' => ∀ J fz2 H2, Opn X fz g' k s' J fz2 H2 → Q J H2) (mizipA xs s1) := h
    unfold mizipA at h
    split at h
    · refine (pi_zipS hg hm ha hs hpl).run pins sh sg H Q I ⟨al, s, ws, S, rs, ?_⟩
      rw [hz]
      intro g' H' q S' vs rv
      obtain ⟨v, u, rfl, r, r'⟩ := rv.inv2
      cases r
      cases r'
      exact ⟨_, _, rfl, h g' H' q S' _ _ _ (Opn.plain S' fun pv => it_zipS)⟩
    · refine (RZ.pi_zipA hg hm ha hs hpl).run pins sh sg H Q I ⟨al, s, ws, S, rs, ?_⟩
      rw [hz]
      intro g' H' q S' vs rv
      obtain ⟨v, u, rfl, r, r'⟩ := rv.inv2
      split at h
      · rename_i x1 g1 x2 g2 e1 e2
        obtain ⟨a, us, rfl, ru, q1⟩ := lstAt_ok S' r (lsG_lst e1)
        obtain ⟨b, us', rfl, ru', q2⟩ := lstAt_ok S' r' (lsG_lst e2)
        exact ⟨a, b, us, us', rfl, .inl ⟨q1, q2, h g' H' q S' _ _ _ (Opn.plain S' fun pv => it_zip e1 e2 r.fz r'.fz)⟩⟩
      · split at h
        · rename_i e1 e2
          obtain ⟨a, us, rfl, ru, q1⟩ := tupAt_ok S' r e1
          obtain ⟨b, us', rfl, ru', q2⟩ := tupAt_ok S' r' e2
          exact ⟨a, b, us, us', rfl, .inr ⟨q1, q2, h g' H' q S' _ _ _ (Opn.plain S' fun pv => it_zipT e1 e2 r.fz r'.fz)⟩⟩
        · exact h.elim
    · exact h.elim

/-- range(..) -/
def sml (i : Int) : Prop := -4611686018427387904 ≤ i ∧ i < 4611686018427387904
instance (i : Int) : Decidable (sml i) := inferInstanceAs (Decidable (_ ∧ _))
def mirng1 (m : MA) : MI := fun ws s => (m ws s).bind fun xs s => match xs with
  | [.int j] => if sml j then .ok ⟨rngW 0 1 j.toNat, [], none⟩ s else .no
  | _ => .no
def mirng2 (m : MA) : MI := fun ws s => (m ws s).bind fun xs s => match xs with
  | [.int i, .int j] => if sml i ∧ sml j then .ok ⟨rngW i 1 (j - i).toNat, [], none⟩ s else .no
  | _ => .no
def mirng3 (m : MA) : MI := fun ws s => (m ws s).bind fun xs s => match xs with
  | [.int i, .int j, .int c] => if sml i ∧ sml j ∧ c = -1 then .ok ⟨rngW i (-1) (i - j).toNat, [], none⟩ s else .no
  | _ => .no
theorem qi_range1 {a : Expr} (hg : Gl X "range") (hm : X.mg "range" = none) (ha : PA X [a] (tMs (X.K, fz) Wx ms)) (hs : starEach [a] X.env = [(false, eval a X.env)]) : PI X tg (.Call (.Name "range" p) [a] [] pos) (tMI X fz Wx (mirng1 ms)) := by
  refine ⟨fun pins sh sg H Q I ⟨al, s, ws, S, rs, h⟩ => (pi_range1 hg hm ha hs).run pins sh sg H Q I ⟨al, s, ws, S, rs, h.bind.imp fun xs al1 s1 H1 p1 S1 h1 vs rv => ?_⟩⟩
  split at h1
  · rename_i j
    split at h1
    · rename_i hj
      obtain ⟨v, rfl, r⟩ := rv.inv1
      cases r
      exact ⟨j, rfl, by have := hj.1; omega, by have := hj.2; omega, h1 al1 H1 Le.rfl S1 _ _ _ (Opn.plain S1 fun pv => it_R)⟩
    · exact h1.elim
  · exact h1.elim
theorem qi_range2 {a b : Expr} (hg : Gl X "range") (hm : X.mg "range" = none) (ha : PA X [a, b] (tMs (X.K, fz) Wx ms)) (hs : starEach [a, b] X.env = [(false, eval a X.env), (false, eval b X.env)]) (hs2 : starEach [b] X.env = [(false, eval b X.env)]) : PI X tg (.Call (.Name "range" p) [a, b] [] pos) (tMI X fz Wx (mirng2 ms)) := by
  refine ⟨fun pins sh sg H Q I ⟨al, s, ws, S, rs, h⟩ => (pi_range2 hg hm ha hs hs2).run pins sh sg H Q I ⟨al, s, ws, S, rs, h.bind.imp fun xs al1 s1 H1 p1 S1 h1 vs rv => ?_⟩⟩
  split at h1
  · rename_i i j
    split at h1
    · rename_i hj
      obtain ⟨v, u, rfl, r, r'⟩ := rv.inv2
      cases r
      cases r'
      exact ⟨i, j, rfl, by have := hj.1.1; have := hj.1.2; have := hj.2.1; have := hj.2.2; omega, h1 al1 H1 Le.rfl S1 _ _ _ (Opn.plain S1 fun pv => it_R)⟩
    · exact h1.elim
  · exact h1.elim
theorem qi_range3 {a b c : Expr} (hg : Gl X "range") (hm : X.mg "range" = none) (ha : PA X [a, b, c] (tMs (X.K, fz) Wx ms)) (hs : starEach [a, b, c] X.env = (false, eval a X.env) :: starEach [b, c] X.env) (hpl : (backTo pos (starEach [b, c] X.env)).any (·.1) = false) :
    PI X tg (.Call (.Name "range" p) [a, b, c] [] pos) (tMI X fz Wx (mirng3 ms)) := by
  refine ⟨fun pins sh sg H Q I ⟨al, s, ws, S, rs, h⟩ => (pi_range3 hg hm ha hs hpl).run pins sh sg H Q I ⟨al, s, ws, S, rs, h.bind.imp fun xs al1 s1 H1 p1 S1 h1 vs rv => ?_⟩⟩
  split at h1
  · rename_i i j c
    split at h1
    · rename_i hj
      obtain ⟨⟨h2, h3⟩, ⟨h4, h5⟩, rfl⟩ := hj
      obtain ⟨v, u, t, rfl, r, r', r''⟩ := rv.inv3
      cases r
      cases r'
      cases r''
      exact ⟨i, j, -1, _, rfl, RgC.neg (by omega) (by omega) (by omega) (by omega), h1 al1 H1 Le.rfl S1 _ _ _ (Opn.plain S1 fun pv => it_C)⟩
    · exact h1.elim
  · exact h1.elim
end

/-! ### for, while -/
/-- the turns that a loop may take; more than any loop of a program takes -/
theorem fuel_ex : ∃ n : Nat, n = 2 ^ 200 := ⟨_, rfl⟩
/-- so many turns at most; the kernel is not to see the number -/
noncomputable def fuelN : Nat := Classical.choose fuel_ex
theorem fuelN_eq : fuelN = 2 ^ 200 := Classical.choose_spec fuel_ex
/-- behind a turn's body -/
def RS.turn (r : RS) (again : MS) : RS := match r with
  | .nx ws s => again ws s
  | .ct ws s => again ws s
  | .bk ws s => .nx ws s
  | r => r
def forL (gd : List (Nat × O)) (g : MG) (b : MS) : List W → MS
  | [] => fun ws s => if gdOk gd s then .nx ws s else .no
  | x :: xs => fun ws s => if gdOk gd s then (g x ws s).toS ws fun ws2 s2 => (b ws2 s2).turn (forL gd g b xs) else .no
/-- at a loop's end: what was locked is let go -/
def RS.fin (k : Wk) (r : RS) : RS := match r with
  | .nx ws s => (match k.cl s with
    | some s' => .nx ws s'
    | none => .no)
  | .rt w s => (match k.cl s with
    | some s' => .rt w s'
    | none => .no)
  | .bk ws s => (match k.cl s with
    | some s' => .bk ws s'
    | none => .no)
  | .ct ws s => (match k.cl s with
    | some s' => .ct ws s'
    | none => .no)
  | .er c d ws s => (match k.cl s with
    | some s' => .er c d ws s'
    | none => .no)
  | .no => .no
def sfor (mi : MI) (g : MG) (b : MS) : MS := fun ws s => (mi ws s).toS ws fun k s1 => (forL k.gd g b k.xs ws (k.op s1)).fin k
def loopW (c : MT) (b : MS) : Nat → MS
  | 0 => fun _ _ => .no
  | f + 1 => fun ws s => (c ws s).toS ws fun k s1 => if k = true then (b ws s1).turn (loopW c b f) else .nx ws s1
noncomputable def swhile (c : MT) (b : MS) : MS := loopW c b fuelN
section
variable {K : Kz} {Wx : WX} {al : Gh} {D : Ends}
theorem PostS.turn {r : RS} {again : MS} (h : PostS K Wx al D (r.turn again)) (N : L2.St → Hp → Prop) (hN : ∀ al' s ws sg H, Le al al' → Sim K al' s H → RSt K al' ws sg → PostS K Wx al' D (again ws s) → N sg H) :
    PostS K Wx al { D with nx := N, ct := N, bk := D.nx } r := by
  cases r with
  | nx ws s => exact fun al2 H2 sg q S rs => hN al2 s ws sg H2 q S rs ((show PostS K Wx al D (again ws s) from h).mono q)
  | ct ws s => exact fun al2 H2 sg q S rs => hN al2 s ws sg H2 q S rs ((show PostS K Wx al D (again ws s) from h).mono q)
  | _ => exact h
end
theorem PostS.fin {X : Cx} {fz fz2 : Gz} {Wx : WX} {g : Gh} {k : Wk} {s0 : Sto} {J : It} {H0 : Hp} {D : Ends} {r : RS} (O : Opn X fz g k s0 J fz2 H0) (h : PostS (X.K, fz) Wx g D (r.fin k)) : PostS (X.K, fz2) (WxU X Wx) g (EndsU X D) r := by
  have e2 : (⟨fz2.lk, fz.pv, fz2.ex⟩ : Gz) = fz2 := by cases fz2; have := O.pv; simp at this; simp [this]
  have e1 : (⟨fz.lk, fz.pv, fz.ex⟩ : Gz) = fz := rfl
  have key : ∀ {s : Sto} {f : Sto → RS} {g' : Gh} {H' : Hp} {P : Hp → Prop}, Le g g' → Sim (X.K, fz2) g' s H' → PostS (X.K, fz) Wx g D (match k.cl s with | some s' => f s' | none => .no) → (∀ s' H2, k.cl s = some s' → Sim (X.K, fz) g' s' H2 → PostS (X.K, fz) Wx g D (f s') → P H2) → Ul X P H' := by
    intro s f g' H' P p S q hP
    cases e : k.cl s with
    | none => rw [e] at q; exact q.elim
    | some s' =>
      rw [e] at q
      have u := O.cl fz.pv g' s s' H' p (by rw [e2]; exact S) e
      rcases u with u | ⟨d, od, v, a, b, u⟩
      · exact .inl (hP s' _ e u q)
      · exact .inr ⟨d, od, v, a, b, hP s' _ e u q⟩
  cases r with
  | nx ws s => exact fun g' H' sg p S rs => key (f := fun s' => .nx ws s') (P := D.nx sg) p S h fun s' H2 _ S2 q => q g' H2 sg p S2 rs.fz
  | rt w s => exact fun g' H' v p S rw' => key (f := fun s' => .rt w s') (P := D.rt v) p S h fun s' H2 _ S2 q => q g' H2 v p S2 rw'.fz
  | bk ws s => exact fun g' H' sg p S rs => key (f := fun s' => .bk ws s') (P := D.bk sg) p S h fun s' H2 _ S2 q => q g' H2 sg p S2 rs.fz
  | ct ws s => exact fun g' H' sg p S rs => key (f := fun s' => .ct ws s') (P := D.ct sg) p S h fun s' H2 _ S2 q => q g' H2 sg p S2 rs.fz
  | er c d ws s => exact fun g' H' sg b vs p S rs hb rk => key (f := fun s' => .er c d ws s') (P := Wx _ _ sg) p S h fun s' H2 _ S2 q => q g' H2 sg b vs p S2 rs.fz hb rk.fz
  | no => exact h
section
variable {X : Cx} {fz : Gz} {Wx : WX} {pos : Pos} {tg iter c : Expr} {body : List Stmt} {mi : MI} {g : MG} {b : MS} {mt : MT}
theorem q_for (hp : PassesOwn (model X.prog X.w) X.A X.env X.xe) (hc : X.calm = true) (hi : PI X tg iter (tMI X fz Wx mi)) (tk : Takes X Wx)
    (hg : ∀ W fz2, Takes X W → fz2.ex = fz.ex → PG X tg (tMG (X.K, fz2) W g)) (hb : ∀ W fz2, Takes X W → fz2.ex = fz.ex → PSs X body (tMS (X.K, fz2) W b)) (hs : ∀ x, foldedSetIterable iter X.env x = pure x) :
    PS X (.For tg iter body [] pos) (tMS (X.K, fz) Wx (sfor mi g b)) := by
  have hg' : PG X tg (fun v sg H Q => ∃ fz2, fz2.ex = fz.ex ∧ tMG (X.K, fz2) (WxU X Wx) g v sg H Q) := ⟨fun pins sh sg H v u Q I r ⟨fz2, e, h⟩ => (hg _ fz2 (takesU tk) e).run pins sh sg H v u Q I r h⟩
  have hb' : PSs X body (fun D sg H => ∃ fz2, fz2.ex = fz.ex ∧ tMS (X.K, fz2) (WxU X Wx) b D sg H) := ⟨fun pins sh sg H D I ⟨fz2, e, h⟩ => (hb _ fz2 (takesU tk) e).run pins sh sg H D I h⟩
  refine ⟨fun pins sh sg H D I ⟨al, s, ws, S, rs, h⟩ => (ps_unl (ps_for hp hc hi hg' hb' hs)).run pins sh sg H D I ?_⟩
  refine ⟨al, s, ws, S, rs, (PostS.expr h rs).imp fun k al1 s1 H1 p1 S1 h1 J fz2 H2 O => ?_⟩
  have h2 := PostS.fin O h1
  have e2 : (⟨fz2.lk, fz2.pv, fz2.ex⟩ : Gz) = fz2 := rfl
  have IT := O.it fz2.pv
  rw [e2] at IT
  refine ⟨fun i m sg' H' => ∃ al' s' ws', Le al1 al' ∧ Sim (X.K, fz2) al' s' H' ∧ RSt (X.K, fz2) al' ws' sg' ∧ (m = k.xs.length - i) ∧ PostS (X.K, fz2) (WxU X Wx) al' (EndsU X D) (forL k.gd g b (k.xs.drop i) ws' s'), ⟨_, al1, _, ws, Le.rfl, O.sim, (rs.mono p1).fz, rfl, h2⟩, ?_⟩
  rintro i m sg' H' ⟨al', s', ws', p, S', rs', em, q⟩
  cases hd : k.xs.drop i with
  | nil =>
    rw [hd] at q
    unfold forL at q
    split at q
    · rename_i eg
      exact .inl ⟨IT.stop i s' H' al' p S' eg (List.drop_eq_nil_iff.mp hd), q al' H' sg' Le.rfl S' rs'⟩
    · exact q.elim
  | cons x xs =>
    have hx : k.xs[i]? = some x := by rw [← List.head?_drop, hd]; rfl
    have hlt : i < k.xs.length := (List.getElem?_eq_some_iff.mp hx).1
    have hd' : k.xs.drop (i + 1) = xs := by rw [← List.tail_drop, hd]; rfl
    rw [hd] at q
    unfold forL at q
    split at q
    · rename_i eg
      obtain ⟨go, yl⟩ := IT.go i s' H' al' x p S' eg hx
      refine .inr ⟨go, fun sg2 H2 => ∃ al2 s2 ws2, Le al1 al2 ∧ Sim (X.K, fz2) al2 s2 H2 ∧ RSt (X.K, fz2) al2 ws2 sg2 ∧ PostS (X.K, fz2) (WxU X Wx) al2 (EndsU X D) (forL k.gd g b xs ws2 s2), fun sg2 H2 ⟨a2, b2, c2, d2, e2, f2, g2⟩ => ⟨k.xs.length - (i + 1), by omega, a2, b2, c2, d2, e2, f2, rfl, by rw [hd']; exact g2⟩, fun y H2 hy => ?_⟩
      obtain ⟨al2, p2, S2, rx⟩ := yl y H2 hy
      refine ⟨fz2, O.ex, al2, s', ws', x, S2, rs'.mono p2, rx, (PostS.expr (q.mono p2) (rs'.mono p2)).imp fun ws3 al3 s3 H3 p3 S3 h3 sg3 rs3 => ?_⟩
      exact ⟨fz2, O.ex, al3, s3, ws3, S3, rs3, h3.turn _ fun al4 s4 ws4 sg4 H4 p4 S4 rs4 h4 => ⟨al4, s4, ws4, p.trans (p2.trans (p3.trans p4)), S4, rs4, h4⟩⟩
    · exact q.elim
theorem q_while (hp : PassesOwn (model X.prog X.w) X.A X.env X.xe) (hc : PT X c (tMt (X.K, fz) Wx mt)) (hb : PSs X body (tMS (X.K, fz) Wx b)) : PS X (.While c body [] pos) (tMS (X.K, fz) Wx (swhile mt b)) := by
  refine ⟨fun pins sh sg H D I ⟨al, s, ws, S, rs, h⟩ => (ps_while hp hc hb).run pins sh sg H D I ?_⟩
  refine ⟨fun m sg' H' => ∃ al' s' ws', Le al al' ∧ Sim (X.K, fz) al' s' H' ∧ RSt (X.K, fz) al' ws' sg' ∧ PostS (X.K, fz) Wx al' D (loopW mt b m ws' s'), ⟨fuelN, al, s, ws, Le.rfl, S, rs, h⟩, ?_⟩
  rintro m sg' H' ⟨al', s', ws', p, S', rs', q⟩
  cases m with
  | zero => exact q.elim
  | succ m =>
    unfold loopW at q
    refine ⟨al', s', ws', S', rs', (PostS.expr q rs').imp fun k al2 s2 H2 p2 S2 h2 => ?_⟩
    cases k with
    | true =>
      rw [if_pos rfl] at h2 ⊢
      refine ⟨fun sg3 H3 => ∃ al3 s3 ws3, Le al al3 ∧ Sim (X.K, fz) al3 s3 H3 ∧ RSt (X.K, fz) al3 ws3 sg3 ∧ PostS (X.K, fz) Wx al3 D (loopW mt b m ws3 s3), fun sg3 H3 z => ⟨m, Nat.lt_succ_self m, z⟩, ?_⟩
      exact ⟨al2, s2, ws', S2, rs'.mono p2, h2.turn _ fun al3 s3 ws3 sg3 H3 p3 S3 rs3 h3 => ⟨al3, s3, ws3, p.trans (p2.trans p3), S3, rs3, h3⟩⟩
    | false =>
      rw [if_neg Bool.false_ne_true] at h2 ⊢
      exact h2 al2 H2 sg' Le.rfl S2 (rs'.mono p2)
end
end Va

/-! Va10: list comprehensions. -/
namespace Va
open PySem PySem.Spec PyProof.Rows L2
/-- a comprehension's target: a name, a tuple of names, by their slots -/
inductive Tgt where
  | nm (i : Nat) | tp (is : List Nat)
def gNames : List Nat → TGs
  | [] => gNil
  | i :: r => gCons (gName i) (gNames r)
def Tgt.g (K : Kz) : Tgt → TG
  | .nm i => gName i
  | .tp is => gTup K.1 is.length (gNames is)
def Tgt.sub (vs : List Nat) : Tgt → Bool
  | .nm i => vs.contains i
  | .tp is => is.all vs.contains
def wipeW (ws : Loc) : List Nat → Loc
  | [] => ws
  | v :: vs => (wipeW ws vs).set v none
def setN : List Nat → List W → Loc → Loc
  | i :: is, x :: xs, ws => setN is xs (ws.set i (some x))
  | _, _, ws => ws
def Tgt.put (t : Tgt) (w : W) (ws : Loc) : Option Loc := match t with
  | .nm i => some (ws.set i (some w))
  | .tp is => match tupAt w with
    | some xs => if xs.length = is.length then some (setN is xs ws) else none
    | none => none
section
variable {K : Kz} {al : Gh}
theorem wipe_at (σ : L2.St) (i : Nat) : ∀ vs : List Nat, (L2.wipe σ vs)[i]? = if i ∈ vs then σ[i]?.map (fun _ => none) else σ[i]?
  | [] => by simp [L2.wipe]
  | v :: vs => by
    have ih := wipe_at σ i vs
    have hl := L2.wipe_length σ vs
    unfold L2.wipe
    by_cases hv : v = i
    · subst hv
      by_cases h : v < σ.length
      · rw [List.getElem?_set_self (by omega)]; simp [h]
      · rw [List.getElem?_eq_none (by simp; omega)]; simp [List.getElem?_eq_none (by omega : σ.length ≤ v)]
    · rw [List.getElem?_set_ne hv, ih]
      have : ¬ i = v := fun e => hv e.symm
      simp [this]
theorem wipe_setv {σ : L2.St} {vs : List Nat} {i : Nat} {x : Option V} (h : i ∈ vs) (σ2 : L2.St) (e : L2.wipe σ2 vs = L2.wipe σ vs) : L2.wipe (σ2.set i x) vs = L2.wipe σ vs := by
  rw [← e]
  apply List.ext_getElem?
  intro j
  rw [wipe_at, wipe_at]
  by_cases hj : j ∈ vs
  · rw [if_pos hj, if_pos hj]
    by_cases hij : i = j
    · subst hij
      by_cases hl : i < σ2.length
      · rw [List.getElem?_set_self hl, List.getElem?_eq_getElem hl]; rfl
      · rw [List.getElem?_eq_none (by simp; omega), List.getElem?_eq_none (by omega)]
    · rw [List.getElem?_set_ne hij]
  · rw [if_neg hj, if_neg hj, List.getElem?_set_ne (by intro e; subst e; exact hj h)]
theorem wipe_idem (σ : L2.St) (vs : List Nat) : L2.wipe (L2.wipe σ vs) vs = L2.wipe σ vs := by
  apply List.ext_getElem?
  intro j
  rw [wipe_at, wipe_at]
  by_cases hj : j ∈ vs
  · rw [if_pos hj, if_pos hj]; cases σ[j]? <;> rfl
  · rw [if_neg hj, if_neg hj]
theorem RSt.wipe {ws : Loc} {σ : L2.St} (r : RSt K al ws σ) : ∀ vs : List Nat, RSt K al (wipeW ws vs) (L2.wipe σ vs)
  | [] => r
  | v :: vs => (RSt.wipe r vs).clear v none
theorem gNames_ok {Q : L2.St → Hp → Prop} {σ0 : L2.St} {vs : List Nat} {H : Hp} : ∀ {is : List Nat} {xs : List W} {us : List V} {ws : Loc} {σ2 : L2.St}, is.all vs.contains = true → xs.length = is.length → RWs K al xs us → RSt K al ws σ2 → L2.wipe σ2 vs = L2.wipe σ0 vs →
    (∀ σ3, RSt K al (setN is xs ws) σ3 → L2.wipe σ3 vs = L2.wipe σ0 vs → Q σ3 H) → gNames is us σ2 H Q
  | [], [], _, ws, σ2, _, _, r, rs, e, h => by
    cases r
    exact ⟨rfl, h σ2 rs e⟩
  | i :: is, x :: xs, _, ws, σ2, hs, hl, r, rs, e, h => by
    cases r with
    | @cons _ v _ us' r1 r2 =>
      simp only [List.all_cons, Bool.and_eq_true, List.contains_iff_mem] at hs
      refine ⟨v, us', rfl, ?_⟩
      exact gNames_ok (by simpa using hs.2) (by simpa using hl) r2 (rs.set r1 i) (wipe_setv hs.1 σ2 e) h
  | [], x :: xs, _, _, _, _, hl, _, _, _, _ => by simp at hl
  | i :: is, [], _, _, _, _, hl, _, _, _, _ => by simp at hl
theorem Tgt.put_ok {t : Tgt} {Q : L2.St → Hp → Prop} {σ0 : L2.St} {vs : List Nat} {s : Sto} {H : Hp} {w : W} {x : V} {ws ws2 : Loc} {σ : L2.St} (hs : t.sub vs = true) (S : Sim K al s H) (r : RW K al w x) (rs : RSt K al ws σ) (e : L2.wipe σ vs = L2.wipe σ0 vs) (hp : t.put w ws = some ws2)
    (h : ∀ σ3, RSt K al ws2 σ3 → L2.wipe σ3 vs = L2.wipe σ0 vs → Q σ3 H) : t.g K x σ H Q := by
  cases t with
  | nm i =>
    cases hp
    have hs' : i ∈ vs := by simpa [Tgt.sub] using hs
    exact h _ (rs.set r i) (wipe_setv hs' σ e)
  | tp is =>
    have hp : (match tupAt w with
      | some xs => if xs.length = is.length then some (setN is xs ws) else none
      | none => none) = some ws2 := hp
    split at hp
    · rename_i xs ex
      split at hp
      · rename_i hl
        cases hp
        obtain ⟨a, us, rfl, rv, q⟩ := tupAt_ok S r ex
        exact ⟨a, us, rfl, q, by rw [← rv.length]; exact hl, gNames_ok hs hl rv rs e h⟩
      · cases hp
    · cases hp
end

/-! ### [e for t in it if c] -/
def loopC (gd : List (Nat × O)) (t : Tgt) (c : MT) (e : ME) (ws : Loc) : List W → List W → Sto → R (List W)
  | [], acc => fun s => if gdOk gd s then .ok acc s else .no
  | x :: xs, acc => fun s => if gdOk gd s then (match t.put x ws with
      | none => .no
      | some ws2 => (c ws2 s).cl.bind fun k s2 => if k = true then (e ws2 s2).cl.bind fun y s3 => (if acc.length < 16777216 then loopC gd t c e ws xs (acc ++ [y]) s3 else .no) else loopC gd t c e ws xs acc s2) else .no
def R.fin {B : Type} (k : Wk) (r : R B) : R B := match r with
  | .ok b s => (match k.cl s with
    | some s' => .ok b s'
    | none => .no)
  | .er c d s => (match k.cl s with
    | some s' => .er c d s'
    | none => .no)
  | .no => .no
/-- the items of a comprehension -/
def mcomp (mi : MI) (t : Tgt) (c : MT) (e : ME) (vs : List Nat) : MA := fun ws s => (mi ws s).bind fun k s1 => (loopC k.gd t c e (wipeW ws vs) k.xs [] (k.op s1)).fin k
def mlc (mu : Bool) (mi : MI) (t : Tgt) (c : MT) (e : ME) (vs : List Nat) : ME := fun ws s => (mcomp mi t c e vs ws s).bind fun ys s => R.of (newL mu ys s)
def myes : MT := fun _ s => .ok true s
/-- what a rule has kept to itself is let go as a list -/
theorem list_out {X : Cx} {fz fz2 : Gz} {g0 g : Gh} {s0 s s' : Sto} {H0 H : Hp} {J : It} {k : Wk} {D : Addr} {acc : List W} {vs : List V} {mu : Bool} {w : W} {s3 : Sto} (O : Opn X fz g0 k s0 J fz2 H0) (hD : H0 D = none) (le : Le g0 g) (S : Sim (X.K, fz2.own D (.lst vs)) g s H) (rv : RWs (X.K, fz) g acc vs) (hc : k.cl s = some s') (hn : newL mu acc s' = some (w, s3)) {P : Hp → Prop}
    (h : ∀ g2 H2, Le g g2 → Sim (X.K, fz) g2 s3 H2 → RW (X.K, fz) g2 w (.ref D) → P H2) : Ul X P H := by
  have hpv : fz2.pv D = none := by
    cases e : fz2.pv D with
    | none => rfl
    | some u => have := (O.sim.pv D u e).1; rw [hD] at this; cases this
  have hpv' : fz.pv D = none := by rw [← O.pv]; exact hpv
  have e2 : (⟨fz2.lk, (fz2.own D (.lst vs)).pv, fz2.ex⟩ : Gz) = fz2.own D (.lst vs) := rfl
  have e1 : (⟨fz.lk, (fz2.own D (.lst vs)).pv, fz.ex⟩ : Gz) = fz.own D (.lst vs) := by unfold Gz.own; rw [O.pv]
  have u := O.cl (fz2.own D (.lst vs)).pv g s s' H le (by rw [e2]; exact S) hc
  rw [e1] at u
  have fin : ∀ {H2 : Hp}, Sim (X.K, fz.own D (.lst vs)) g s' H2 → P H2 := fun {H2} S2 => by
    obtain ⟨S3, h1, h2, h3⟩ := S2.unhide hpv'
    unfold newL at hn
    split at hn
    · cases hn
      have S4 := S3.enter (o := .lst acc) ⟨vs, rv.mono (le_snoc _ _), h1⟩ h2 h3 hpv'
      exact h _ _ (le_snoc _ _) S4 (.ref (snoc_at S3.len D))
    · cases hn
      have S4 := S3.adopt h1 h2 h3 hpv' (by unfold lockd; rfl)
      exact h _ _ (le_fix h2) S4 (.nd (rv.mono (le_fix h2)) upd_same)
  exact u.imp fin fun ⟨d, od, v, a, b, u⟩ => ⟨d, od, v, a, b, fin u⟩
section
variable {X : Cx} {fz : Gz} {Wx : WX} {elt tg iter : Expr} {ifs : List Expr} {scope : Scope} {own : List (Str × Nat)} {pos : Pos} {mi : MI} {t : Tgt} {c : MT} {e : ME} {mu : Bool}
def tMtx (X : Cx) (fz : Gz) (c : MT) : TT := fun sg H Q => ∃ fz2, fz2.ex = fz.ex ∧ tMt (X.K, fz2) WxF c sg H Q
def tMx (X : Cx) (fz : Gz) (c : ME) : TE := fun sg H Q => ∃ fz2, fz2.ex = fz.ex ∧ tM (X.K, fz2) WxF c sg H Q
theorem Post.clX {K K' : Kz} {g : Gh} {sg sg' : L2.St} {B C E : Type} {P : E → Gh → Sto → Hp → Prop} {r : R B} {f : B → Sto → R C} (Φ : R C → R E) (hΦ : Φ .no = .no) (h : Post K Wx g sg P (Φ (r.cl.bind f))) : Post K' WxF g sg' (fun b g' s' _ => Post K Wx g' sg P (Φ (f b s'))) r := by
  cases r with
  | ok b s => exact fun al2 H2 q S => (show Post K Wx g sg P (Φ (f b s)) from h).mono q
  | er c d s =>
    have h : Post K Wx g sg P (Φ .no) := h
    rw [hΦ] at h; exact h.elim
  | no =>
    have h : Post K Wx g sg P (Φ .no) := h
    rw [hΦ] at h; exact h
theorem tLc_ok {sg : L2.St} {H : Hp} {Q : VK} {al : Gh} {s : Sto} {ws : Loc} {vs : List Nat} (hv : t.sub vs = true) (S : Sim (X.K, fz) al s H) (rs : RSt (X.K, fz) al ws sg) (h : Post (X.K, fz) Wx al sg (PW1 (X.K, fz) Q) (mlc mu mi t c e vs ws s)) :
    tLc (tMI X fz Wx mi) (t.g (X.K, fz)) (tMtx X fz c) (tMx X fz e) vs sg H (fun v H' => Ul X (Q v) H') := by
  have h0 : Post (X.K, fz) Wx al sg (PW1 (X.K, fz) Q) ((mi ws s).bind fun k s1 => ((loopC k.gd t c e (wipeW ws vs) k.xs [] (k.op s1)).fin k).bind fun ys s => R.of (newL mu ys s)) := by
    unfold mlc mcomp at h
    cases em : mi ws s with
    | ok k s1 => rw [em] at h; exact h
    | er c d s1 => rw [em] at h; exact h
    | no => rw [em] at h; exact h
  refine ⟨al, s, ws, S, rs, h0.bind.imp fun k al1 s1 H1 p1 S1 h1 J fz2 H2 O D hD => ?_⟩
  refine ⟨fun i m H' => ∃ al' s' acc us, Le al1 al' ∧ Sim (X.K, fz2.own D (.lst us)) al' s' H' ∧ RWs (X.K, fz) al' acc us ∧ m = k.xs.length - i ∧ Post (X.K, fz) Wx al' sg (PW1 (X.K, fz) Q) (((loopC k.gd t c e (wipeW ws vs) (k.xs.drop i) acc s').fin k).bind fun ys s => R.of (newL mu ys s)), ⟨_, al1, _, [], [], Le.rfl, O.sim.hide hD, .nil, rfl, h1⟩, ?_⟩
  rintro i m H' ⟨al', s', acc, us, p, S', ra, em, q⟩
  cases hd : k.xs.drop i with
  | nil =>
    rw [hd] at q
    unfold loopC at q
    split at q
    · rename_i eg
      refine .inl ⟨(O.it _).stop i s' H' al' p S' eg (List.drop_eq_nil_iff.mp hd), ?_⟩
      have q : Post (X.K, fz) Wx al' sg (PW1 (X.K, fz) Q) ((match k.cl s' with
        | some s' => R.ok acc s'
        | none => .no).bind fun ys s => R.of (newL mu ys s)) := q
      cases ec : k.cl s' with
      | none => rw [ec] at q; exact q.elim
      | some s3 =>
        rw [ec] at q
        obtain ⟨w, s4, en, q⟩ := (show Post (X.K, fz) Wx al' sg (PW1 (X.K, fz) Q) (R.of (newL mu acc s3)) from q).of
        exact list_out O hD p S' ra ec en fun g2 H2 le S2 rw' => q g2 H2 le S2 _ rw'
    · exact q.elim
  | cons x xs =>
    have hx : k.xs[i]? = some x := by rw [← List.head?_drop, hd]; rfl
    have hlt : i < k.xs.length := (List.getElem?_eq_some_iff.mp hx).1
    have hd' : k.xs.drop (i + 1) = xs := by rw [← List.tail_drop, hd]; rfl
    rw [hd] at q
    unfold loopC at q
    split at q
    · rename_i eg
      obtain ⟨go, yl⟩ := (O.it _).go i s' H' al' x p S' eg hx
      refine .inr ⟨go, fun H2 => ∃ al2 s2 acc2 us2, Le al1 al2 ∧ Sim (X.K, fz2.own D (.lst us2)) al2 s2 H2 ∧ RWs (X.K, fz) al2 acc2 us2 ∧ Post (X.K, fz) Wx al2 sg (PW1 (X.K, fz) Q) (((loopC k.gd t c e (wipeW ws vs) xs acc2 s2).fin k).bind fun ys s => R.of (newL mu ys s)), fun H2 ⟨a2, b2, c2, d2, e2, f2, g2, h2⟩ => ⟨k.xs.length - (i + 1), by omega, a2, b2, c2, d2, e2, f2, g2, rfl, by rw [hd']; exact h2⟩, fun y H2 hy => ?_⟩
      obtain ⟨al2, p2, S2, rx⟩ := yl y H2 hy
      cases ep : t.put x (wipeW ws vs) with
      | none => rw [ep] at q; exact q.elim
      | some ws2 =>
        rw [ep] at q
        have q := Post.clX (K' := (X.K, fz2.own D (.lst us))) (sg' := sg) (Wx := Wx) (fun r => (r.fin k).bind fun ys s => R.of (newL mu ys s)) rfl (q.mono p2)
        have rs2 : RSt (X.K, fz2.own D (.lst us)) al2 (wipeW ws vs) (L2.wipe sg vs) := ((rs.mono (p1.trans (p.trans p2))).wipe vs).fz
        refine Tgt.put_ok (K := (X.K, fz2.own D (.lst us))) hv S2 rx rs2 (wipe_idem sg vs) ep fun σ3 rs3 ew => ⟨ew, ?_⟩
        refine ⟨fz2.own D (.lst us), O.ex, al2, s', ws2, S2, rs3, q.imp fun kk al3 s3 H3 p3 S3 h3 => ?_⟩
        cases kk with
        | false =>
          rw [if_neg Bool.false_ne_true] at h3
          exact iteF ⟨al3, s3, acc, us, p.trans (p2.trans p3), S3, ra.mono (p2.trans p3), h3⟩
        | true =>
          rw [if_pos rfl] at h3
          refine iteT ⟨fz2.own D (.lst us), O.ex, al3, s3, ws2, S3, rs3.mono p3, (Post.clX (K' := (X.K, fz2.own D (.lst us))) (sg' := sg) (fun r => (r.fin k).bind fun ys s => R.of (newL mu ys s)) rfl h3).imp fun yw al4 s4 H4 p4 S4 h4 v rv => ?_⟩
          have hH := (S4.pv D _ upd_same).1
          split at h4
          · rename_i hl
            have ra4 := ra.mono (p2.trans (p3.trans p4))
            exact ⟨us, hH, by rw [← ra.length, line_eq]; exact hl, al4, s4, acc ++ [yw], us ++ [v], p.trans (p2.trans (p3.trans p4)), S4.rehide, ra4.app (.cons rv.fz .nil), h4⟩
          · exact h4.elim
    · exact q.elim
theorem pm_lc (hc : X.calm = true) (hN : X.N.Nodup) (hi : PI X tg iter (tMI X fz Wx mi)) (ok : BlkOk X.N X.env.scope scope own) (hv : t.sub (own.map (·.2)) = true)
    (hg : ∀ (s : Shared) (H : Hp) (C : Addr) (cl : List (Str × Addr)) (fp : List Addr), PG (X.blk s H scope (compEnvC scope cl C X.env) fp) tg (t.g (X.K, fz))) (ht : ∀ (fz2 : Gz), fz2.ex = fz.ex → ∀ (s : Shared) (H : Hp) (C : Addr) (cl : List (Str × Addr)) (fp : List Addr), PTs (X.blk s H scope (compEnvC scope cl C X.env) fp) ifs (tMt (X.K, fz2) WxF c))
    (he : ∀ (fz2 : Gz), fz2.ex = fz.ex → ∀ (s : Shared) (H : Hp) (C : Addr) (cl : List (Str × Addr)) (fp : List Addr), PE (X.blk s H scope (compEnvC scope cl C X.env) fp) elt (tM (X.K, fz2) WxF e)) (hs : ∀ x, foldedSetIterable iter X.env x = pure x) :
    PE X (.ListComp elt [⟨tg, iter, ifs, 0⟩] scope pos) (tM (X.K, fz) Wx (mlc mu mi t c e (own.map (·.2)))) :=
  ⟨fun pins sh sg H Q I ⟨al, s, ws, S, rs, h⟩ => (pe_unl (pe_lc hc hN hi ok hg (fun s H C cl fp => (⟨fun pins sh sg H Q I ⟨fz2, e, h⟩ => (ht fz2 e s _ C cl fp).run pins sh sg H Q I h⟩ : PTs _ _ (tMtx X fz c))) (fun s H C cl fp => (⟨fun pins sh sg H Q I ⟨fz2, e, h⟩ => (he fz2 e s _ C cl fp).run pins sh sg H Q I h⟩ : PE _ _ (tMx X fz _))) hs)).run pins sh sg H Q I (tLc_ok hv S rs h)⟩
theorem q_setLc {i : Nat} {y : Str} {py spos : Pos} (hc : X.calm = true) (hN : X.N.Nodup) (hy : X.N[i]? = some y) (hyl : X.env.scope.names.lookup y = some .local)
    (hsw : swapsWith (.ListComp elt [⟨tg, iter, ifs, 0⟩] scope pos) (some (.Name y py)) spos.line X.env = pure true) (hi : PI X tg iter (tMI X fz Wx mi)) (ok : BlkOk X.N X.env.scope scope own) (hv : t.sub (own.map (·.2)) = true)
    (hg : ∀ (s : Shared) (H : Hp) (C : Addr) (cl : List (Str × Addr)) (fp : List Addr), PG (X.blk s H scope (compEnvC scope cl C X.env) fp) tg (t.g (X.K, fz))) (ht : ∀ (fz2 : Gz), fz2.ex = fz.ex → ∀ (s : Shared) (H : Hp) (C : Addr) (cl : List (Str × Addr)) (fp : List Addr), PTs (X.blk s H scope (compEnvC scope cl C X.env) fp) ifs (tMt (X.K, fz2) WxF c))
    (he : ∀ (fz2 : Gz), fz2.ex = fz.ex → ∀ (s : Shared) (H : Hp) (C : Addr) (cl : List (Str × Addr)) (fp : List Addr), PE (X.blk s H scope (compEnvC scope cl C X.env) fp) elt (tM (X.K, fz2) WxF e)) (hs : ∀ x, foldedSetIterable iter X.env x = pure x) :
    PS X (.Assign [.Name y py] (.ListComp elt [⟨tg, iter, ifs, 0⟩] scope pos) spos) (tMS (X.K, fz) Wx (sset i (mlc mu mi t c e (own.map (·.2))))) := by
  refine ⟨fun pins sh sg H D I ⟨al, s, ws, S, rs, h⟩ => (ps_unl (ps_setLc hc hN hy hyl hsw hi ok hg (tt := tMtx X fz c) (te := tMx X fz e) (fun s H C cl fp => ⟨fun pins sh sg H Q I ⟨fz2, e, h⟩ => (ht fz2 e s _ C cl fp).run pins sh sg H Q I h⟩) (fun s H C cl fp => ⟨fun pins sh sg H Q I ⟨fz2, e, h⟩ => (he fz2 e s _ C cl fp).run pins sh sg H Q I h⟩) hs)).run pins sh sg H D I ?_⟩
  refine tLc_ok (Q := fun v H' => D.nx (sg.set i (some v)) H') (Wx := Wx) (s := s) (al := al) (ws := ws) hv S rs ((PostS.expr h rs).imp fun w al1 s1 H1 p1 S1 h1 v rv => ?_)
  exact h1 al1 H1 _ Le.rfl S1 ((rs.mono p1).set rv i)
theorem pts_yes : PTs X [] (tMt (X.K, fz) Wx myes) := ⟨fun pins sh sg H Q I ⟨al, s, ws, S, rs, h⟩ => pts_nil.run pins sh sg H Q I (h al H Le.rfl S)⟩
/-- the targets in a block -/
theorem pg_tgtNm {Y : Cx} {i : Nat} {x : Str} {p : Pos} (hN : Y.N.Nodup) (hi : Y.N[i]? = some x) (hx : L2.Loc Y.env.scope x) (hf : Y.fn x = true ∨ Y.env.scope.names.lookup x = some .local) : PG Y (.Name x p) ((Tgt.nm i).g (Y.K, fz)) := pg_name hN hi hx hf
end
end Va

/-! Va11: subscripts, stores into lists and dicts, dict displays, methods of built-in types. -/
namespace Va
open PySem PySem.Spec PyProof.Rows L2
variable {K : Kz}
section
variable {X : Cx} {fz : Gz} {Wx : WX} {a b e o : Expr} {ma mb me mo : ME} {pos : Pos}
theorem pm_ix {r : R2} {g : G2} (hr : IxR X r) (L : Lift2 (X.K, fz) r g) (ha : PE X a (tM (X.K, fz) Wx ma)) (hb : PE X b (tM (X.K, fz) Wx mb)) (hs : PlainIx b) : PE X (.Subscript a b pos) (tM (X.K, fz) Wx (mbin g ma mb)) :=
  ⟨fun pins s sg H Q I ⟨al, sw, ws, S, rs, h⟩ => (pe_ix hr ha hb hs).run pins s sg H Q I (two_ok L S rs h)⟩
end
/-! ### o[i] = v -/
def putW (kvs : List (Key × W)) (k : Key) (w : W) : List (Key × W) :=
  if (kvs.any fun kv => decide (kv.1 = k)) = true then kvs.map (fun kv => if kv.1 = k then (kv.1, w) else kv) else kvs ++ [(k, w)]
theorem putW_ok {al : Gh} {kvs : List (Key × W)} {vs : List (Key × V)} (r : RKs K al kvs vs) {k : Key} {w : W} {v : V} (q : RW K al w v) : RKs K al (putW kvs k w) (putK vs k v) := by
  have h1 : (kvs.any fun kv => decide (kv.1 = k)) = (vs.any fun kv => decide (kv.1 = k)) := by
    induction r with
    | nil => rfl
    | cons _ _ ih => simp only [List.any_cons, ih]
  have h2 : RKs K al (kvs.map fun kv => if kv.1 = k then (kv.1, w) else kv) (vs.map fun kv => if kv.1 = k then (kv.1, v) else kv) := by
    clear h1
    induction r with
    | nil => exact .nil
    | @cons k' w' v' ws vs' a t ih =>
      simp only [List.map_cons]
      by_cases e : k' = k
      · rw [if_pos e, if_pos e]; exact .cons q ih
      · rw [if_neg e, if_neg e]; exact .cons a ih
  have h3 : RKs K al (kvs ++ [(k, w)]) (vs ++ [(k, v)]) := by
    clear h1 h2
    induction r with
    | nil => exact .cons q .nil
    | cons a t ih => exact .cons a ih
  unfold putW putK
  rw [h1]
  split
  · exact h2
  · exact h3
theorem putW_len (kvs : List (Key × W)) (k : Key) (w : W) : (putW kvs k w).length ≤ kvs.length + 1 := by
  unfold putW
  split
  · simp
  · simp
abbrev G3 := W → W → W → Sto → Option Sto
def gSetI : G3 := fun o i w s => match muAt s o with
  | some (n, xs) => (match i with
    | .int k => (match ixN xs.length k with
      | some j => some (s.set n (.lst (xs.set j w)))
      | none => none)
    | _ => none)
  | none => match muDic s o with
    | some (n, kvs) => (match keyW i with
      | some k => if kvs.length < 16777216 then some (s.set n (.dic (putW kvs k w))) else none
      | none => none)
    | none => none
def tSetQ (K : Kz) (g : G3) : TSet := fun o i v H Q => ∃ al s w1 w2 w3 s', Sim K al s H ∧ RW K al w1 o ∧ RW K al w2 i ∧ RW K al w3 v ∧ g w1 w2 w3 s = some s' ∧ ∀ (al' : Gh) (H' : Hp), Le al al' → Sim K al' s' H' → Q H'
theorem set_Q {X : Cx} {fz : Gz} (hu : X.A.units + 1 < cLine) : PSet X (tSetQ (X.K, fz) gSetI) := by
  rintro pins sh sg H o i v ov iv u Q I ro ri rv ⟨al, s, w1, w2, w3, s', S, r1, r2, r3, e, q⟩
  unfold gSetI at e
  split at e
  · rename_i n xs es
    obtain ⟨_, es', a, vs, rfl, ha, rvs, hH⟩ := muAt_ok S r1 es
    split at e
    · rename_i k
      cases r2
      split at e
      · rename_i j ej
        cases e
        refine set_list pins sh sg H _ _ v ov iv u Q I ro ri rv ⟨a, vs, k, j, rfl, rfl, hH, by rw [← rvs.length]; exact ej, q al _ Le.rfl ?_⟩
        exact S.write es' ha rfl ⟨_, RWs.set r3 rvs j, upd_same⟩ rfl
      · cases e
    · cases e
  · split at e
    · rename_i n kvs es
      obtain ⟨_, es', a, vs, rfl, ha, rvs, hH, hl⟩ := muDic_ok S r1 es
      split at e
      · rename_i k ek
        split at e
        · rename_i hl'
          cases e
          have ei := keyW_ok ek r2
          subst ei
          refine set_dict hu pins sh sg H _ _ v ov iv u Q I ro ri rv ⟨a, _, rfl, DPut.k hH (by rw [← rvs.length, line_eq]; exact hl'), q al _ Le.rfl ?_⟩
          exact S.write es' ha rfl ⟨_, putW_ok rvs r3, upd_same, hl⟩ rfl
        · cases e
      · cases e
    · cases e
def gsub (mo mi : ME) (g : G3) : MG := fun w ws s => (mo ws s).bind fun o s1 => (mi ws s1).bind fun i s2 => match g o i w s2 with
  | some s3 => .ok ws s3
  | none => .no
section
variable {X : Cx} {fz : Gz} {Wx : WX} {a b e o i : Expr} {ma mb me mo mi : ME} {pos tpos : Pos}
theorem qg_sub {g : G3} (ho : PE X o (tM (X.K, fz) Wx mo)) (hi : PE X i (tM (X.K, fz) Wx mi)) (hs : PSet X (tSetQ (X.K, fz) g))
    (ha : ∀ v, assign (.Subscript o i pos) X.env v = (do
      let ov ← holding [v] (eval o X.env)
      let iv ← holding [v, ov] (eval i X.env)
      standAt pos
      holding [v, ov, iv] (setItem ov iv v)
      release [v, ov, iv] [])) : PG X (.Subscript o i pos) (tMG (X.K, fz) Wx (gsub mo mi g)) := by
  refine ⟨fun pins sh sg H v u Q I r ⟨al, s, ws, w, S, rs, rw', h⟩ => (pg_sub ho hi hs ha).run pins sh sg H v u Q I r ?_⟩
  refine ⟨al, s, ws, S, rs, h.bind.imp fun ow al1 s1 H1 p1 S1 h1 ov rov => ?_⟩
  refine ⟨al1, s1, ws, S1, rs.mono p1, h1.bind.imp fun iw al2 s2 H2 p2 S2 h2 iv riv => ?_⟩
  split at h2
  · rename_i s3 e3
    exact ⟨al2, s2, ow, iw, w, s3, S2, rov.mono p2, riv, rw'.mono (p1.trans p2), e3, fun al' H' q S' => h2 al' H' q S' _ (rs.mono (p1.trans (p2.trans q)))⟩
  · exact h2.elim
/-! ### x += e, o[i] += e, by ints -/
def tIpQ (K : Kz) (g : G2) : TIp := fun x y H Q => ∃ al s w1 w2 w s', Sim K al s H ∧ RW K al w1 x ∧ RW K al w2 y ∧ g w1 w2 s = some (w, s') ∧ Back K al w s' Q
def gIpI (f : Int → Int → Int) : G2
  | .int i, .int j, s => ok1 (.int (f i j)) s
  | _, _, _ => none
theorem ipQ_of {op : Operator} {f : Int → Int → Int} (h : PIp X op (ipI f)) : PIp X op (tIpQ (X.K, fz) (gIpI f)) := by
  rintro pins sh sg H x y v u Q I rx ry ⟨al, s, w1, w2, w, s', S, r1, r2, e, b⟩
  unfold gIpI at e
  split at e
  · cases r1; cases r2; cases e
    exact h pins sh sg H _ _ v u Q I rx ry ⟨_, _, rfl, rfl, b.now S .int⟩
  · cases e
def saug (i : Nat) (g : G2) (m : ME) : MS := fun ws s => match ws[i]? with
  | some (some x) => (m ws s).toS ws fun y s1 => (match g x y s1 with
    | some (w, s2) => .nx (ws.set i (some w)) s2
    | none => .no)
  | _ => .no
theorem q_aug {i : Nat} {x : Str} {op : Operator} {g : G2} {p : Pos} (hN : X.N.Nodup) (hi : X.N[i]? = some x) (hx : L2.Loc X.env.scope x) (he : PE X e (tM (X.K, fz) Wx me)) (ho : PIp X op (tIpQ (X.K, fz) g)) (hf : X.fn x = true ∨ X.env.scope.names.lookup x = some .local) :
    PS X (.AugAssign (.Name x p) op e pos) (tMS (X.K, fz) Wx (saug i g me)) := by
  refine ⟨fun pins sh sg H D I ⟨al, s, ws, S, rs, h⟩ => (ps_aug hN hi hx he ho hf).run pins sh sg H D I ?_⟩
  unfold saug at h
  split at h
  · rename_i xw ex
    obtain ⟨xv, hx1, rx⟩ := rs.get ex
    refine ⟨xv, hx1, al, s, ws, S, rs, (PostS.expr h rs).imp fun yw al1 s1 H1 p1 S1 h1 yv ry => ?_⟩
    split at h1
    · rename_i w s2 eg
      exact ⟨al1, s1, xw, yw, w, s2, S1, rx.mono p1, ry, eg, fun al' H' q S' v rv => h1 al' H' _ q S' ((rs.mono (p1.trans q)).set rv i)⟩
    · exact h1.elim
  · exact h.elim
def tGetQ (K : Kz) (g : G2) : V → V → Hp → VK → Prop := fun x y H Q => ∃ al s w1 w2 w s', Sim K al s H ∧ RW K al w1 x ∧ RW K al w2 y ∧ g w1 w2 s = some (w, s') ∧ Back K al w s' Q
def saugS (mo mi : ME) (gg : G2) (g : G2) (gs : G3) (m : ME) : MS := fun ws s => (mo ws s).toS ws fun o s1 => (mi ws s1).toS ws fun i s2 => match gg o i s2 with
  | some (x, s3) => (m ws s3).toS ws fun y s4 => (match g x y s4 with
    | some (z, s5) => (match gs o i z s5 with
      | some s6 => .nx ws s6
      | none => .no)
    | none => .no)
  | none => .no
theorem q_augS {op : Operator} {gg g : G2} {gs : G3} (ho : PE X o (tM (X.K, fz) Wx mo)) (hi : PE X i (tM (X.K, fz) Wx mi)) (hg : PGet X (tGetQ (X.K, fz) gg)) (he : PE X e (tM (X.K, fz) Wx me)) (hp : PIp X op (tIpQ (X.K, fz) g)) (hs : PSet X (tSetQ (X.K, fz) gs))
    (ha : ∀ ov iv new, augStore i ov iv new = (do holding [new, ov, iv] (setItem ov iv new); release [new, ov, iv] []; pure .next)) : PS X (.AugAssign (.Subscript o i tpos) op e pos) (tMS (X.K, fz) Wx (saugS mo mi gg g gs me)) := by
  refine ⟨fun pins sh sg H D I ⟨al, s, ws, S, rs, h⟩ => (ps_augS ho hi hg he hp hs ha).run pins sh sg H D I ?_⟩
  refine ⟨al, s, ws, S, rs, (PostS.expr h rs).imp fun ow al1 s1 H1 p1 S1 h1 ov rov => ?_⟩
  refine ⟨al1, s1, ws, S1, rs.mono p1, (PostS.expr h1 (rs.mono p1)).imp fun iw al2 s2 H2 p2 S2 h2 iv riv => ?_⟩
  split at h2
  · rename_i xw s3 eg
    refine ⟨al2, s2, ow, iw, xw, s3, S2, rov.mono p2, riv, eg, fun al3 H3 p3 S3 xv rx => ?_⟩
    refine ⟨al3, s3, ws, S3, rs.mono (p1.trans (p2.trans p3)), (PostS.expr (h2.mono p3) (rs.mono (p1.trans (p2.trans p3)))).imp fun yw al4 s4 H4 p4 S4 h4 yv ry => ?_⟩
    split at h4
    · rename_i zw s5 ez
      refine ⟨al4, s4, xw, yw, zw, s5, S4, rx.mono p4, ry, ez, fun al5 H5 p5 S5 zv rz => ?_⟩
      split at h4
      · rename_i s6 e6
        exact ⟨al5, s5, ow, iw, zw, s6, S5, rov.mono (p2.trans (p3.trans (p4.trans p5))), riv.mono (p3.trans (p4.trans p5)), rz, e6, fun al6 H6 q S6 => h4 al6 H6 sg (p5.trans q) S6 (rs.mono (p1.trans (p2.trans (p3.trans (p4.trans (p5.trans q))))))⟩
      · exact h4.elim
    · exact h4.elim
  · exact h2.elim
end
end Va

/-! Va12: dict displays; methods of built-in types. -/
namespace Va
open PySem PySem.Spec PyProof.Rows L2
section
variable {K : Kz} {Wx : WX}
/-! ### {k: v, ..} -/
abbrev MPs := Loc → Sto → R (List (W × W))
def pnil : MPs := fun _ s => .ok [] s
def pcons (mk mv : ME) (r : MPs) : MPs := fun ws s => (mk ws s).bind fun k s1 => (mv ws s1).bind fun v s2 => (r ws s2).bind fun ps s3 => .ok ((k, v) :: ps) s3
def keysW : List (W × W) → Option (List (Key × W))
  | [] => some []
  | (k, v) :: r => match keyW k, keysW r with
    | some k, some r => some ((k, v) :: r)
    | _, _ => none
def mergeW (kvs more : List (Key × W)) : List (Key × W) := more.foldl (fun acc kv => putW acc kv.1 kv.2) kvs
def mdisp (mu : Bool) (ps : MPs) : ME := fun ws s => (ps ws s).bind fun kvs s1 => match keysW kvs with
  | some l => if l.length ≤ 15 then R.of (newD mu (mergeW [] l) s1) else .no
  | _ => .no
abbrev RPs (K : Kz) (al : Gh) : List (W × W) → List (V × V) → Prop := Paired fun p q => RW K al p.1 q.1 ∧ RW K al p.2 q.2
def tMz (k : PySem.W.Frag) (f : Gz) (Wx : WX) (m : ME) : TE := fun sg H Q => ∃ fz2, fz2.ex = f.ex ∧ tM (k, fz2) Wx m sg H Q
/-- the pairs' readings serve their meaning -/
structure PPm (k : PySem.W.Frag) (f : Gz) (Wx : WX) (trs : List (TE × TE)) (m : MPs) : Prop where
  run : ∀ (fz2 : Gz), fz2.ex = f.ex → ∀ (sg : L2.St) (H : Hp) (Q : List (V × V) → Hp → Prop) (al : Gh) (s : Sto) (ws : Loc), Sim (k, fz2) al s H → RSt (k, fz2) al ws sg → Post (k, fz2) Wx al sg (fun ps al' s' H' => Sim (k, fz2) al' s' H' → ∀ qs, RPs (k, fz2) al' ps qs → Q qs H') (m ws s) → tPairs trs sg H Q
theorem ppm_nil {k : PySem.W.Frag} {f : Gz} : PPm k f Wx [] pnil := ⟨fun fz2 _ sg H Q al s ws S rs h => h al H Le.rfl S S [] .nil⟩
theorem ppm_cons {k : PySem.W.Frag} {f : Gz} {mk mv : ME} {trs : List (TE × TE)} {m : MPs} (h : PPm k f Wx trs m) : PPm k f Wx ((tMz k f Wx mk, tMz k f Wx mv) :: trs) (pcons mk mv m) := by
  refine ⟨fun fz2 e sg H Q al s ws S rs hp => ?_⟩
  refine ⟨fz2, e, al, s, ws, S, rs, hp.bind.imp fun kw al1 s1 H1 p1 S1 h1 kv rk => ?_⟩
  refine ⟨fz2, e, al1, s1, ws, S1, rs.mono p1, h1.bind.imp fun vw al2 s2 H2 p2 S2 h2 vv rv => ?_⟩
  refine h.run fz2 e sg H2 _ al2 s2 ws S2 (rs.mono (p1.trans p2)) (h2.bind.imp fun ps al3 s3 H3 p3 S3 h3 S4 qs rq => ?_)
  exact h3 al3 H3 Le.rfl S3 S3 _ (.cons ⟨rk.mono (p2.trans p3), rv.mono p3⟩ rq)
theorem keysW_ok {al : Gh} : ∀ {ps : List (W × W)} {qs : List (V × V)} {l : List (Key × W)}, keysW ps = some l → RPs K al ps qs → ∃ vs : List (Key × V), RKs K al l vs ∧ qs = vs.map (fun kv => (kV kv.1, kv.2))
  | [], _, _, e, r => by cases e; cases r; exact ⟨[], .nil, rfl⟩
  | (k, v) :: ps, _, _, e, r => by
    cases r with
    | @cons _ q _ qs r1 r2 =>
      unfold keysW at e
      split at e
      · rename_i k' l' ek el
        cases e
        obtain ⟨vs, h1, h2⟩ := keysW_ok el r2
        have e1 := keyW_ok ek r1.1
        exact ⟨(k', q.2) :: vs, .cons r1.2 h1, by rw [List.map_cons, ← h2, ← e1]⟩
      · cases e
theorem mergeW_ok {al : Gh} : ∀ {more : List (Key × W)} {mvs : List (Key × V)} {kvs : List (Key × W)} {vs : List (Key × V)}, RKs K al more mvs → RKs K al kvs vs → RKs K al (mergeW kvs more) (mergeK vs mvs)
  | _, _, _, _, .nil, r => r
  | _, _, _, _, .cons (k := k) (w := w) (v := v) (ws := ws) (vs := vs') a t, r => (show RKs K al (mergeW (putW _ k w) ws) (mergeK (putK _ k v) vs') from mergeW_ok t (putW_ok r a))
end
section
variable {X : Cx} {fz : Gz} {Wx : WX} {pos : Pos} {keys : List (Option Expr)} {values : List Expr} {trs : List (TE × TE)} {m : MPs}
theorem Post.swp {B : Type} {k : PySem.W.Frag} {f f2 : Gz} {g : Gh} {sg : L2.St} {P : B → Gh → Sto → Hp → Prop} {r : R B} (hs : ∀ g' s H, Le g g' → Sim (k, f2) g' s H → Sim (k, f) g' s H) (h : Post (k, f) Wx g sg P r) : Post (k, f2) Wx g sg P r := by
  cases r with
  | ok b s => exact fun g' H' q S => h g' H' q (hs g' s H' q S)
  | er c fs s => exact fun g' H' a vs q S e rk => h g' H' a vs q (hs g' s H' q S) e rk.fz
  | no => exact h
theorem pm_disp {mu : Bool} (h : PPs X pos keys values trs) (hm : PPm X.K fz Wx trs m) (hall : keys.all (·.isSome) = true) (hl : keys.length = values.length) (h0 : keys ≠ []) (h15 : keys.length ≤ 15) : PE X (.Dict keys values pos) (tM (X.K, fz) Wx (mdisp mu m)) := by
  refine ⟨fun pins sh sg H Q I ⟨al, s, ws, S, rs, hp⟩ => (pe_disp h hall hl h0 h15).run pins sh sg H Q I fun p hp0 => ?_⟩
  have hpv : fz.pv p = none := by
    cases e : fz.pv p with
    | none => rfl
    | some u => have := (S.pv p u e).1; rw [hp0] at this; cases this
  have S1 : Sim (X.K, fz.own p (.dK [])) al s (upd H p (.dK [])) := S.hide hp0
  have hlk := S.lkn hp0
  refine hm.run (fz.own p (.dK [])) rfl sg _ _ al _ ws S1 rs.fz ((Post.swp (fun g' s H q S => (S.unhide hpv).1) hp.bind).imp fun ps al1 s1 H1 p1 S1' h1 S2 qs rq => ?_)
  obtain ⟨S3, q1, q2, q3⟩ := S2.unhide hpv
  split at h1
  · rename_i l ek
    split at h1
    · rename_i hl15
      obtain ⟨vs, rv, eq⟩ := keysW_ok ek rq
      refine ⟨q1, vs, eq, by rw [← rv.length]; exact hl15, ?_⟩
      obtain ⟨w, s4, en, q⟩ := h1.of
      have S4 : Sim (X.K, fz.own p (.dK (mergeK [] vs))) al1 s1 (upd H1 p (.dK (mergeK [] vs))) := S2.rehide
      obtain ⟨S5, r1, r2, r3⟩ := S4.unhide hpv
      have rm : RKs (X.K, fz) al1 (mergeW [] l) (mergeK [] vs) := mergeW_ok rv.fz .nil
      unfold newD at en
      split at en
      · cases en
        exact q _ _ (le_snoc _ _) (S5.enter (o := .dic (mergeW [] l)) ⟨_, rm.mono (le_snoc _ _), r1, hlk⟩ r2 r3 hpv) _ (.ref (snoc_at S5.len p))
      · cases en
        refine q _ _ (le_fix r2) (S5.adopt r1 r2 r3 hpv (lockd_none hlk)) _ (.nd (rm.split.2.mono (le_fix r2)) ⟨by simp [rm.length], ?_⟩)
        rw [rm.split.1, zip_maps]
        exact upd_same
    · exact h1.elim
  · exact h1.elim
def mdnew (mu : Bool) : ME := fun _ s => R.of (newD mu [] s)
theorem pm_dnew {mu : Bool} : PE X (.Dict [] [] pos) (tM (X.K, fz) Wx (mdnew mu)) :=
  ⟨fun pins sh sg H Q I ⟨al, s, ws, S, rs, hp⟩ => pe_dnewK.run pins sh sg H Q I fun p hp0 => by
    obtain ⟨w, s', en, q⟩ := (show Post (X.K, fz) Wx al sg (PW1 (X.K, fz) Q) (R.of (newD mu [] s)) from hp).of
    exact Back.dic q en S .nil p hp0⟩
end
/-! ### methods of built-in types, by values -/
abbrev GM := W → List W → Sto → Option (W × Sto)
def rQm (K : Kz) (g : GM) : V → List V → Hp → VK → Prop := fun x xs H Q => ∃ al s w1 ws w s', Sim K al s H ∧ RW K al w1 x ∧ RWs K al ws xs ∧ g w1 ws s = some (w, s') ∧ Back K al w s' Q
/-- the built-in type of a receiver -/
def tyM (w : W) (s : Sto) : String := match w with
  | .str _ => "str"
  | w => match lstAt s w with
    | some _ => "list"
    | none => match muDic s w with
      | some _ => "dict"
      | none => ""
theorem tyM_ok {K : Kz} {al : Gh} {s : Sto} {H : Hp} {w : W} {v : V} {T : String} (S : Sim K al s H) (r : RW K al w v) (e : tyM w s = T) (ne : T ≠ "") : tyV K.1 T v H := by
  unfold tyM at e
  split at e
  · cases r; exact e.symm
  · split at e
    · rename_i xs es
      obtain ⟨a, vs, rfl, rv, q⟩ := lstAt_ok S r es
      exact .inl ⟨e.symm, vs, q⟩
    · split at e
      · rename_i kvs es
        obtain ⟨_, _, a, vs, rfl, _, rv, q, _⟩ := muDic_ok S r es
        exact .inr (.inr (.inl ⟨e.symm, .inl ⟨vs, q⟩⟩))
      · exact absurd e.symm ne
/-- o.m(..) of a receiver of type T -/
def mbm (T : String) (g : GM) (mo : ME) (ma : MA) : ME := fun ws s => (mo ws s).bind fun x s1 => if tyM x s1 = T then (ma ws s1).bind fun xs s2 => R.of (g x xs s2) else .no
section
variable {X : Cx} {fz : Gz} {Wx : WX} {o e : Expr} {es : List Expr} {mo : ME} {ma : MA} {name : Str} {apos cpos : Pos} {T id : String} {g : GM}
theorem pm_bm (ne : T ≠ "") (pa : PlainAttrs T) (slot : Slot T name id) (hty : typeOf (.builtin id) = pure (.type "method_descriptor")) (hm : MtR X id (rQm (X.K, fz) g)) (ho : PE X o (tM (X.K, fz) Wx mo)) (ha : PA X (e :: es) (tMs (X.K, fz) Wx ma))
    (hbase : attributeBase o name X.env (eval o X.env) = eval o X.env)
    (hfew : ((backTo cpos (starEach (e :: es) X.env)).all (fun x => !x.1) && (backToKw cpos (keywordEach [] X.env)).all (fun x => x.1.isSome)
      && decide ((e :: es).length + ([] : List Keyword).length + (if ([] : List Keyword).isEmpty then 0 else 1) < 30)) = true)
    (hline : (apos.endLine == cpos.line) = true) (hs : starEach (e :: es) X.env = (false, eval e X.env) :: starEach es X.env) (hplain : (backTo cpos (starEach es X.env)).any (·.1) = false) :
    PE X (.Call (.Attribute o name apos) (e :: es) [] cpos) (tM (X.K, fz) Wx (mbm T g mo ma)) := by
  refine ⟨fun pins sh sg H Q I ⟨al, s, ws, S, rs, h⟩ => (pe_bm pa slot hty hm ho ha hbase hfew hline hs hplain).run pins sh sg H Q I ?_⟩
  refine ⟨al, s, ws, S, rs, h.bind.imp fun x al1 s1 H1 p1 S1 h1 v rv => ?_⟩
  split at h1
  · rename_i et
    refine ⟨tyM_ok S1 rv et ne, al1, s1, ws, S1, rs.mono p1, h1.bind.imp fun xs al2 s2 H2 p2 S2 h2 vs rvs => ?_⟩
    obtain ⟨w, s', eg, q⟩ := h2.of
    exact ⟨al2, s2, x, xs, w, s', S2, rv.mono p2, rvs, eg, q⟩
  · exact h1.elim
theorem pm_bm0 (ne : T ≠ "") (pa : PlainAttrs T) (slot : Slot T name id) (hty : typeOf (.builtin id) = pure (.type "method_descriptor")) (hm : MtR X id (rQm (X.K, fz) g)) (ho : PE X o (tM (X.K, fz) Wx mo))
    (hbase : attributeBase o name X.env (eval o X.env) = eval o X.env) (hline : (apos.endLine == cpos.line) = true) : PE X (.Call (.Attribute o name apos) [] [] cpos) (tM (X.K, fz) Wx (mbm T g mo mnil)) := by
  refine ⟨fun pins sh sg H Q I ⟨al, s, ws, S, rs, h⟩ => (pe_bm0 pa slot hty hm ho hbase hline).run pins sh sg H Q I ?_⟩
  refine ⟨al, s, ws, S, rs, h.bind.imp fun x al1 s1 H1 p1 S1 h1 v rv => ?_⟩
  split at h1
  · rename_i et
    refine ⟨tyM_ok S1 rv et ne, ?_⟩
    obtain ⟨w, s', eg, q⟩ := Post.of (h1 : Post (X.K, fz) Wx al1 sg _ (R.of (g x [] s1)))
    exact ⟨al1, s1, x, [], w, s', S1, rv, .nil, eg, q⟩
  · exact h1.elim
end
/-! #### str.join -/
def strsW : List W → Option (List Str)
  | [] => some []
  | .str x :: r => (strsW r).map (x :: ·)
  | _ => none
theorem strsW_ok {K : Kz} {al : Gh} : ∀ {ws : List W} {vs : List V} {ys : List Str}, strsW ws = some ys → RWs K al ws vs → vs = ys.map V.str
  | [], _, _, e, r => by cases e; cases r; rfl
  | w :: ws, _, _, e, r => by
    cases r with
    | cons a t =>
      unfold strsW at e
      split at e
      · cases ‹_ :: _ = []›
      · rename_i x r' e0
        cases e0
        obtain ⟨l, el, rfl⟩ := Option.map_eq_some_iff.mp e
        cases a
        rw [List.map_cons, ← strsW_ok el t]
      · cases e
def gJoin : GM := fun x xs s => match x, xs with
  | .str a, [p] => match seqAt s p with
    | some l => (match strsW l with
      | some ys => if (ys.map (·.length)).sum + ys.length * a.length ≤ 16777216 then ok1 (.str (Txt.join a ys)) s else none
      | none => none)
    | none => none
  | _, _ => none
theorem mt_joinQ {X : Cx} {fz : Gz} : MtR X "str.join" (rQm (X.K, fz) gJoin) := by
  rintro pins sh sg H x xs v us Q I rx rs ⟨al, s, w1, ws, w, s', S, r1, r2, e, b⟩
  unfold gJoin at e
  split at e
  · rename_i a p
    cases r1
    obtain ⟨v1, rfl, q1⟩ := r2.inv1
    split at e
    · rename_i l el
      obtain ⟨ad, vs, rfl, rv, sq⟩ := seqAt_ok S q1 el
      split at e
      · rename_i ys ey
        split at e
        · rename_i hz
          cases e
          have ev := strsW_ok ey rv
          subst ev
          exact mt_join pins sh sg H _ _ v us Q I rx rs ⟨a, ad, ys, rfl, rfl, sq, hz, b.now S .str⟩
        · cases e
      · cases e
    · cases e
  · cases e
/-! #### list.append, list.pop, list.extend, list.clear -/
def gAppend : GM := fun x xs s => match xs with
  | [y] => match muAt s x with
    | some (n, l) => if l.length < 16777216 then ok1 .non (s.set n (.lst (l ++ [y]))) else none
    | none => none
  | _ => none
theorem mt_appendQ {X : Cx} {fz : Gz} : MtR X "list.append" (rQm (X.K, fz) gAppend) := by
  rintro pins sh sg H x xs v us Q I rx rs ⟨al, s, w1, ws, w, s', S, r1, r2, e, b⟩
  unfold gAppend at e
  split at e
  · rename_i y
    obtain ⟨v1, rfl, q1⟩ := r2.inv1
    split at e
    · rename_i n l el
      obtain ⟨_, es, a, vs, rfl, ha, rv, hH⟩ := muAt_ok S r1 el
      split at e
      · rename_i hz
        cases e
        refine mt_append pins sh sg H _ _ v us Q I rx rs ⟨a, vs, v1, rfl, rfl, hH, by rw [← rv.length, line_eq]; exact hz, b al _ Le.rfl ?_ _ .non⟩
        exact S.write es ha rfl ⟨_, rv.app (.cons q1 .nil), upd_same⟩ rfl
      · cases e
    · cases e
  · cases e
theorem RWs.dropLast {K : Kz} {al : Gh} {ws : List W} {vs : List V} (r : RWs K al ws vs) : RWs K al ws.dropLast vs.dropLast := by
  rw [List.dropLast_eq_take, List.dropLast_eq_take, r.length]
  exact r.take _
theorem RWs.eraseIdx {K : Kz} {al : Gh} {ws : List W} {vs : List V} (i : Nat) (r : RWs K al ws vs) : RWs K al (ws.eraseIdx i) (vs.eraseIdx i) := by
  rw [List.eraseIdx_eq_take_drop_succ, List.eraseIdx_eq_take_drop_succ]
  exact (r.take i).app (r.drop (i + 1))
def gPop : GM := fun x xs s => match xs with
  | [] => match muAt s x with
    | some (n, l) => (match l[l.length - 1]? with
      | some y => ok1 y (s.set n (.lst l.dropLast))
      | none => none)
    | none => none
  | [.int k] => match muAt s x with
    | some (n, l) => (match ixN l.length k with
      | some j => (match l[j]? with
        | some y => ok1 y (s.set n (.lst (l.eraseIdx j)))
        | none => none)
      | none => none)
    | none => none
  | _ => none
theorem mt_popQ {X : Cx} {fz : Gz} : MtR X "list.pop" (rQm (X.K, fz) gPop) := by
  rintro pins sh sg H x xs v us Q I rx rs ⟨al, s, w1, ws, w, s', S, r1, r2, e, b⟩
  unfold gPop at e
  split at e
  · cases r2
    split at e
    · rename_i n l el
      obtain ⟨_, es, a, vs, rfl, ha, rv, hH⟩ := muAt_ok S r1 el
      split at e
      · rename_i y ey
        cases e
        obtain ⟨y', h1, h2⟩ := rv.get ey
        refine mt_pop pins sh sg H _ _ v us Q I rx rs ⟨a, vs, y', rfl, rfl, hH, by rw [← rv.length]; exact h1, b al _ Le.rfl ?_ _ h2⟩
        exact S.write es ha rfl ⟨_, rv.dropLast, upd_same⟩ rfl
      · cases e
    · cases e
  · rename_i k
    obtain ⟨v1, rfl, q1⟩ := r2.inv1
    cases q1
    split at e
    · rename_i n l el
      obtain ⟨_, es, a, vs, rfl, ha, rv, hH⟩ := muAt_ok S r1 el
      split at e
      · rename_i j ej
        split at e
        · rename_i y ey
          cases e
          obtain ⟨y', h1, h2⟩ := rv.get ey
          have hq := ixN_seq ej
          have hlen := S.at_ n _ a es ha
          refine mt_popAt pins sh sg H _ _ v us Q I rx rs ⟨a, vs, k, j, y', rfl, rfl, hH, ?_, ?_, by rw [← rv.length]; exact hq.1, h1, b al _ Le.rfl ?_ _ h2⟩
          · have := (I.lstM hH).1
            have e1 := rv.length
            have : sizeLine = 16777216 := line_eq
            omega
          · have := (I.lstM hH).1
            have e1 := rv.length
            have : sizeLine = 16777216 := line_eq
            omega
          · exact S.write es ha rfl ⟨_, RWs.eraseIdx j rv, upd_same⟩ rfl
        · cases e
      · cases e
    · cases e
  · cases e

def gExtend : GM := fun x xs s => match xs with
  | [y] => match muAt s x, trAt s y with
    | some (n, l), some r => if l.length + r.length ≤ 16777216 then ok1 .non (s.set n (.lst (l ++ r))) else none
    | _, _ => none
  | _ => none
theorem mt_extendQ {X : Cx} {fz : Gz} : MtR X "list.extend" (rQm (X.K, fz) gExtend) := by
  rintro pins sh sg H x xs v us Q I rx rs ⟨al, s, w1, ws, w, s', S, r1, r2, e, b⟩
  unfold gExtend at e
  split at e
  · rename_i y
    obtain ⟨v1, rfl, q1⟩ := r2.inv1
    split at e
    · rename_i n l r el er
      obtain ⟨_, es, a, vs, rfl, ha, rv, hH⟩ := muAt_ok S r1 el
      obtain ⟨a2, vs2, rfl, rv2, hH2⟩ := trAt_ok S q1 er
      split at e
      · rename_i hz
        cases e
        refine mt_extend pins sh sg H _ _ v us Q I rx rs ⟨a, a2, vs, vs2, rfl, rfl, hH, hH2, by rw [← rv.length, ← rv2.length, line_eq]; exact hz, b al _ Le.rfl ?_ _ .non⟩
        exact S.write es ha rfl ⟨_, rv.app rv2, upd_same⟩ rfl
      · cases e
    · cases e
  · cases e
def gClear : GM := fun x xs s => match xs with
  | [] => match muAt s x with
    | some (n, l) => ok1 .non (s.set n (.lst []))
    | none => none
  | _ => none
theorem mt_clearQ {X : Cx} {fz : Gz} : MtR X "list.clear" (rQm (X.K, fz) gClear) := by
  rintro pins sh sg H x xs v us Q I rx rs ⟨al, s, w1, ws, w, s', S, r1, r2, e, b⟩
  unfold gClear at e
  split at e
  · cases r2
    split at e
    · rename_i n l el
      obtain ⟨_, es, a, vs, rfl, ha, rv, hH⟩ := muAt_ok S r1 el
      cases e
      exact mt_clear pins sh sg H _ _ v us Q I rx rs ⟨a, vs, rfl, rfl, hH, b al _ Le.rfl (S.write es ha rfl ⟨[], .nil, upd_same⟩ rfl) _ .non⟩
    · cases e
  · cases e
def gDClear : GM := fun x xs s => match xs with
  | [] => match muDic s x with
    | some (n, l) => ok1 .non (s.set n (.dic []))
    | none => none
  | _ => none
theorem mt_dclearQ {X : Cx} {fz : Gz} : MtR X "dict.clear" (rQm (X.K, fz) gDClear) := by
  rintro pins sh sg H x xs v us Q I rx rs ⟨al, s, w1, ws, w, s', S, r1, r2, e, b⟩
  unfold gDClear at e
  split at e
  · cases r2
    split at e
    · rename_i n l el
      obtain ⟨_, es, a, vs, rfl, ha, rv, hH, hl⟩ := muDic_ok S r1 el
      cases e
      exact mtd_clear pins sh sg H _ _ v us Q I rx rs ⟨a, vs, rfl, rfl, hH, b al _ Le.rfl (S.write es ha rfl ⟨[], .nil, upd_same, hl⟩ rfl) _ .non⟩
    · cases e
  · cases e
/-- list.index by flat values -/
def firstEq (y : W) : List W → Option Nat
  | [] => none
  | x :: r => if eqF x y then some 0 else (firstEq y r).map (· + 1)
theorem firstEq_ok {y : W} : ∀ {l : List W} {j : Nat}, firstEq y l = some j → ∃ z, l[j]? = some z ∧ eqF z y = true ∧ ∀ m z', m < j → l[m]? = some z' → eqF z' y = false
  | [], _, e => nomatch e
  | x :: r, j, e => by
    unfold firstEq at e
    split at e
    · rename_i h
      cases e
      exact ⟨x, rfl, h, fun m z' hm => by omega⟩
    · rename_i h
      obtain ⟨k, e1, e2⟩ := Option.map_eq_some_iff.mp e
      have e2 : k + 1 = j := e2
      subst e2
      obtain ⟨z, h1, h2, h3⟩ := firstEq_ok e1
      refine ⟨z, h1, h2, fun m z' hm hz => ?_⟩
      cases m with
      | zero => simp at hz; subst hz; simpa using h
      | succ m => exact h3 m z' (by omega) (by simpa using hz)
def gIndex : GM := fun x xs s => match xs with
  | [y] => match lstAt s x with
    | some l => if flatW y && l.all flatW then (match firstEq y l with
      | some j => ok1 (.int (j : Nat)) s
      | none => none) else none
    | none => none
  | _ => none
theorem mt_indexQ {X : Cx} {fz : Gz} : MtR X "list.index" (rQm (X.K, fz) gIndex) := by
  rintro pins sh sg H x xs v us Q I rx rs ⟨al, s, w1, ws, w, s', S, r1, r2, e, b⟩
  unfold gIndex at e
  split at e
  · rename_i y
    obtain ⟨v1, rfl, q1⟩ := r2.inv1
    split at e
    · rename_i l el
      obtain ⟨a, vs, rfl, rv, q⟩ := lstAt_ok S r1 el
      split at e
      · rename_i hf
        rw [Bool.and_eq_true] at hf
        split at e
        · rename_i j ej
          cases e
          obtain ⟨z, h1, h2, h3⟩ := firstEq_ok ej
          obtain ⟨e1, f1⟩ := flat_toV hf.1 q1
          obtain ⟨e2, f2⟩ := flats_toV hf.2 rv
          have fl : ∀ m z', l[m]? = some z' → flatW z' = true := fun m z' hm => List.all_eq_true.mp hf.2 z' (List.mem_of_getElem? hm)
          refine mt_index pins sh sg H _ _ v us Q I rx rs ⟨a, vs, v1, j, toV z, rfl, rfl, q, f1, f2, ?_, ?_, fun m z' hm hz => ?_, b.now S .int⟩
          · rw [e2, List.getElem?_map, h1]; rfl
          · rw [e1, eqF_toV (fl j z h1) hf.1]; exact h2
          · rw [e2, List.getElem?_map] at hz
            obtain ⟨z0, hz0, rfl⟩ := Option.map_eq_some_iff.mp hz
            rw [e1, eqF_toV (fl m z0 hz0) hf.1]; exact h3 m z0 hm hz0
        · cases e
      · cases e
    · cases e
  · cases e
end Va

/-! Vas: side conditions. -/
namespace Va
open PySem PySem.Spec PyProof.Rows L2
theorem takesF {X : Cx} : Takes X WxF := fun u s' ⟨_, _, _, _, _, _, _, _, _, _, _, _, _, _, _, _, w⟩ => w.elim
/-! ### side conditions -/
def notStar : Expr → Bool
  | .Starred _ _ => false
  | _ => true
theorem starEach_cons {e : Expr} {es : List Expr} {env : Env} (h : notStar e = true) : starEach (e :: es) env = (false, eval e env) :: starEach es env := by
  cases e <;> first | rfl | cases h
theorem starEach_no {es : List Expr} {env : Env} (h : es.all notStar = true) : (starEach es env).all (fun x => !x.1) = true := by
  induction es with
  | nil => rfl
  | cons e es ih =>
    simp only [List.all_cons, Bool.and_eq_true] at h
    rw [starEach_cons h.1]
    simp only [List.all_cons, Bool.not_false, Bool.true_and]
    exact ih h.2
theorem backTo_no {es : List Expr} {env : Env} {pos : Pos} (h : es.all notStar = true) : (backTo pos (starEach es env)).any (·.1) = false := by
  induction es with
  | nil => rfl
  | cons e es ih =>
    simp only [List.all_cons, Bool.and_eq_true] at h
    rw [starEach_cons h.1]
    show (false || (backTo pos (starEach es env)).any (·.1)) = false
    rw [ih h.2] <;> rfl
theorem backTo_all {es : List Expr} {env : Env} {pos : Pos} (h : es.all notStar = true) : (backTo pos (starEach es env)).all (fun x => !x.1) = true := by
  induction es with
  | nil => rfl
  | cons e es ih =>
    simp only [List.all_cons, Bool.and_eq_true] at h
    rw [starEach_cons h.1]
    show (!false && (backTo pos (starEach es env)).all (fun x => !x.1)) = true
    rw [ih h.2] <;> rfl
def notSlice : Expr → Bool
  | .Slice _ _ _ _ => false
  | _ => true
theorem plainIx_of {b : Expr} (h : notSlice b = true) : PlainIx b := by
  intro o i
  cases b <;> first | rfl | cases h
def notSet : Expr → Bool
  | .Set _ _ _ => false
  | _ => true
theorem behind_of {b : Expr} {op : CmpOp} (h : notSet b = true) : behindInMarks op b = false := by
  cases b <;> first | rfl | cases h
theorem folded_of {e : Expr} {env : Env} (h : notSet e = true) : ∀ x, foldedSetIterable e env x = pure x := by
  intro x
  cases e <;> first | rfl | cases h
def notComp : Expr → Bool
  | .ListComp _ _ _ _ => false
  | .SetComp _ _ _ _ => false
  | .DictComp _ _ _ _ _ => false
  | _ => true
theorem swaps_of {e : Expr} {t : Option Expr} {l : Nat} {env : Env} (h : notComp e = true) : swapsWith e t l env = pure false := by
  cases e <;> first | rfl | cases h
/-- a value whose test is its truth -/
def plainT : Expr → Bool
  | .UnaryOp .Not _ _ => false
  | .BoolOp _ _ _ => false
  | .IfExp _ _ _ _ => false
  | .Compare _ _ _ _ => false
  | _ => true
theorem isTrue_of {e : Expr} {env : Env} (h : plainT e = true) : ∀ whole, isTrue e env whole = (do let v ← whole; standAt e.pos; holding [v] (truthy v)) := by
  intro whole
  cases e with
  | UnaryOp op a p => cases op <;> first | rfl | cases h
  | BoolOp _ _ _ => cases h
  | IfExp _ _ _ _ => cases h
  | Compare _ _ _ _ => cases h
  | _ => rfl
def notSuper : Expr → Bool
  | .Call (.Name _ _) [] [] _ => false
  | _ => true
theorem base_of {o : Expr} {m : Str} {env : Env} {w : Sem Value} (h : notSuper o = true) : attributeBase o m env w = w := by
  unfold attributeBase
  split
  · cases h
  · rfl

/-! ### what cannot be said -/
def mno : ME := fun _ _ => .no
def mano : MA := fun _ _ => .no
def mtno : MT := fun _ _ => .no
def mino : MI := fun _ _ => .no
def mgno : MG := fun _ _ _ => .no
def mgsno : MGs := fun _ _ _ => .no
def mpno : MPs := fun _ _ => .no
def mono : MO := fun _ _ => .no
def sno : MS := fun _ _ => .no
section
variable {X : Cx} {Wx : WX}
theorem pm_no {e : Expr} : PE X e (tM (X.K, fz) Wx mno) := ⟨fun _ _ _ _ _ _ ⟨_, _, _, _, _, h⟩ => h.elim⟩
theorem pms_no {es : List Expr} : PA X es (tMs (X.K, fz) Wx mano) := ⟨fun _ _ _ _ _ _ _ ⟨_, _, _, _, _, h⟩ => h.elim⟩
theorem pmt_no {e : Expr} : PT X e (tMt (X.K, fz) Wx mtno) := ⟨fun _ _ _ _ _ _ ⟨_, _, _, _, _, h⟩ => h.elim⟩
theorem pmw_no {e : Expr} : PW X e (tMt (X.K, fz) Wx mtno) := ⟨fun _ _ _ _ _ _ _ ⟨_, _, _, _, _, h⟩ => h.elim⟩
theorem qi_no {tg e : Expr} : PI X tg e (tMI X fz Wx mino) := ⟨fun _ _ _ _ _ _ ⟨_, _, _, _, _, h⟩ => h.elim⟩
theorem qg_no {e : Expr} : PG X e (tMG (X.K, fz) Wx mgno) := ⟨fun _ _ _ _ _ _ _ _ _ ⟨_, _, _, _, _, _, _, h⟩ => h.elim⟩
theorem qgs_no {es : List Expr} : PGs X es (tMGs (X.K, fz) Wx mgsno) := ⟨fun _ _ _ _ _ _ _ _ _ ⟨_, _, _, _, _, _, _, h⟩ => h.elim⟩
theorem pmo_no {e : Option Expr} : PO X e (tMo (X.K, fz) Wx mono) := ⟨fun _ _ _ _ _ _ ⟨_, _, _, _, _, h⟩ => h.elim⟩
theorem q_no {st : Stmt} : PS X st (tMS (X.K, fz) Wx sno) := ⟨fun _ _ _ _ _ _ ⟨_, _, _, _, _, h⟩ => h.elim⟩
theorem qs_no {st : List Stmt} : PSs X st (tMS (X.K, fz) Wx sno) := ⟨fun _ _ _ _ _ _ ⟨_, _, _, _, _, h⟩ => h.elim⟩
end
/-! ### names, constants, operators -/
def slotOf (N : List Str) (x : Str) : Option Nat := match N.findIdx? (fun y => decide (y = x)) with
  | some i => if N[i]? = some x then some i else none
  | none => none
theorem slotOf_ok {N : List Str} {x : Str} {i : Nat} (h : slotOf N x = some i) : N[i]? = some x := by
  unfold slotOf at h
  split at h
  · split at h
    · cases h; assumption
    · cases h
  · cases h
def odd (x : Str) : Bool := x == ("__debug__" : Str) || x == ("__classdict__" : Str) || x == ("__name__" : Str)
/-- the built-in types that stand as values -/
def tyName (x : Str) : Option String :=
  if x = ("int" : Str) then some "int" else if x = ("bool" : Str) then some "bool" else if x = ("str" : Str) then some "str" else if x = ("list" : Str) then some "list" else
  if x = ("tuple" : Str) then some "tuple" else if x = ("dict" : Str) then some "dict" else none
theorem tyName_ok {x : Str} {n : String} (h : tyName x = some n) : bootBuiltins x = some (.type n) := by
  unfold tyName at h
  split at h
  · cases h; subst x; kernel_rfl
  split at h
  · cases h; subst x; kernel_rfl
  split at h
  · cases h; subst x; kernel_rfl
  split at h
  · cases h; subst x; kernel_rfl
  split at h
  · cases h; subst x; kernel_rfl
  split at h
  · cases h; subst x; kernel_rfl
  · cases h
def assocS {α : Type} (l : List (Str × α)) (x : Str) : Option α := (l.find? fun p => decide (p.1 = x)).map (·.2)
theorem assocS_ok {α : Type} {l : List (Str × α)} {x : Str} {a : α} (h : assocS l x = some a) : (x, a) ∈ l := by
  obtain ⟨p, h1, h2⟩ := Option.map_eq_some_iff.mp h
  have h3 := List.mem_of_find?_eq_some h1
  have h4 := List.find?_some h1
  simp only [decide_eq_true_eq] at h4
  obtain ⟨y, b⟩ := p
  cases h2; cases h4
  exact h3
theorem odd_ok {x : Str} (h : odd x = false) : (x == ("__debug__" : Str)) = false ∧ (x == ("__classdict__" : Str)) = false ∧ x ≠ ("__name__" : Str) := by
  unfold odd at h
  simp only [Bool.or_eq_false_iff] at h
  exact ⟨h.1.1, h.1.2, by simpa using h.2⟩
end Va

/-! Vaw: own exceptions over any of the built-in bases: made by an __init__ that calls the base's and stores fields. -/
namespace Va
open PySem PySem.Spec PyProof.Rows L2
/-- a built-in base of own exceptions -/
structure EB where
  B : String
  newId : String
  initId : String
  bmB : List Value
structure EBOk (e : EB) : Prop where
  F : ExcBaseFacts e.B e.newId e.initId e.bmB
  S : StoreFacts e.B e.bmB "object.__setattr__" "object"
def ebV : EB := ⟨"ValueError", "ValueError.__new__", "ValueError.__init__", [.type "ValueError", .type "Exception", .type "BaseException", .type "object"]⟩
def ebL : EB := ⟨"LookupError", "LookupError.__new__", "LookupError.__init__", [.type "LookupError", .type "Exception", .type "BaseException", .type "object"]⟩
def ebR : EB := ⟨"RuntimeError", "RuntimeError.__new__", "RuntimeError.__init__", [.type "RuntimeError", .type "Exception", .type "BaseException", .type "object"]⟩
def ebA : EB := ⟨"ArithmeticError", "ArithmeticError.__new__", "ArithmeticError.__init__", [.type "ArithmeticError", .type "Exception", .type "BaseException", .type "object"]⟩
theorem ebV_ok : EBOk ebV := ⟨PySem.F.excBase_ValueError, PySem.F.store_ValueError⟩
theorem ebL_ok : EBOk ebL := ⟨PySem.F.excBase_LookupError, PySem.F.store_LookupError⟩
theorem ebR_ok : EBOk ebR := ⟨PySem.F.excBase_RuntimeError, PySem.F.store_RuntimeError⟩
theorem ebA_ok : EBOk ebA := ⟨PySem.F.excBase_ArithmeticError, PySem.F.store_ArithmeticError⟩
/-- what the written part says of the class -/
structure XCls (K : PySem.W.Frag) (e : EB) (C : Addr) : Prop where
  eb : EBOk e
  ini : PySem.W.excInitIn K C e.bmB e.newId = true
  ovr : PySem.W.excOver K C e.bmB = true
  hd : PySem.W.hasDictIn K C = true
  sa : PySem.W.findIn K (.ref C) "__setattr__" = some (some (.builtin "object.__setattr__"))
  exC : PySem.W.subIn K (.ref C) (.type "BaseException") = some true
  tyC : PySem.W.typeIn K (.ref C) = some (.type "type")
  kC : PySem.W.keepIn K (.ref C) = true
section
variable {X : Cx} {pins : List (Addr × Obj)} {σ : L2.St} {H : Hp} {s : Shared} {a C dx : Addr} {f : Str} {y : V} {u : Value} {fs : List (Str × V)} {Q : Unit → Shared → Prop} {E : Value → Shared → Prop} {A : Around} {e : EB}
theorem XCls.cd {K : PySem.W.Frag} (T : XCls K e C) : ∃ cd, PySem.W.clsIn K C = some cd ∧ cd.hasDict = true := by
  have h := T.hd
  unfold PySem.W.hasDictIn at h
  cases q : PySem.W.clsIn K C with
  | none => rw [q] at h; cases h
  | some cd => rw [q] at h; exact ⟨cd, rfl, h⟩
theorem xtaker (hno : PySem.W.findIn X.K (.ref C) f = some none) : PySem.W.takerIn X.K C f = some none := by
  unfold PySem.W.takerIn
  rw [hno]
  rfl
/-- the base's __init__: nothing of it is told -/
theorem xinit_ok {us : List Value} {Q : Value → Shared → Prop} (T : XCls X.K e C) (I : Inv X pins σ H s) (ea : H a = some (exo a C none)) (hl : us.length ≤ sizeLine) (h : ∀ s', Inv X pins σ H s' → Q .none s') :
    wpAny (model X.prog X.w) A (call (.builtin e.initId) (.ref a :: us)) Q E s := by
  obtain ⟨nm, N, qn, bs, bm, hdct, sn, sub, ab, col, dd, k0, k1, k2, k3, k5, hC, hT⟩ := PySem.W.excInit_of I.kIn T.ini
  obtain ⟨t1, ho⟩ := exo_at I.hok ea
  obtain ⟨hp, g, d, t, os⟩ := s
  refine wpAny_call (PySem.HandSPX.init_base T.eb.F hT hC ho hl fun h' t2 k hx => ?_)
  have same : upd H a (exo a C none) = H := by
    funext b
    by_cases hb : b = a
    · rw [hb, upd_same, ea]
    · rw [upd_ne hb]
  have J := I.write (t' := t) (x := a) (e := a) (o := exo a C none) (by rw [ea]; exact True.intro) (.inl rfl) k ⟨_, hx⟩ (exo_ok hx)
  rw [same] at J
  exact h _ J
/-- self.f = y, the first one -/
theorem xst_new (T : XCls X.K e C) (I : Inv X pins σ H s) (ea : H a = some (exo a C none)) (hno : PySem.W.findIn X.K (.ref C) f = some none) (ry : RelV y u)
    (h : ∀ dx s', H dx = none → dx ≠ a → Inv X pins σ (upd (upd H dx (exd dx [(f, y)])) a (exo a C (some dx))) s' → Q () s') : wpAny (model X.prog X.w) A (setAttr (.ref a) f u) Q E s := by
  obtain ⟨cd, hcl, hcd⟩ := T.cd
  obtain ⟨t1, ho⟩ := exo_at I.hok ea
  obtain ⟨hp, g, d, t, os⟩ := s
  have inst : PySem.W.InstAt hp a { cls := .ref C, dict := none, data := .fields #[.ref t1, .none, .none, .none, .bool false, .none] } C none := ⟨ho, rfl, rfl, trivial⟩
  refine PySem.W.set_plain I.kIn inst T.sa ?_
  refine PySem.W.osa_openX (s := ⟨hp, g, d, t + 1, os⟩) T.eb.S I.kIn inst T.ovr (xtaker hno) fun onT => ?_
  have hxs : a ≠ hp.objs.size := Nat.ne_of_lt (Heap.lt_size ho)
  have at2 : (hp.push { cls := .type "dict", data := .dict #[] }).get? a = some ({ cls := .ref C, dict := none, data := .fields #[.ref t1, .none, .none, .none, .bool false, .none] } : Obj) := Heap.get?_push_of_some _ ho
  have go : ∀ h' tk', h'.Ns1 hp.objs.size (fun y' => if y' = f then some u else none) → Heap.SameBut hp.objs.size ((hp.push { cls := .type "dict", data := .dict #[] }).update a fun o => { o with dict := some hp.objs.size }) h' → Q () ⟨h', g, d, tk', os⟩ := by
    intro h' tk' hn hs
    have hx : h'.get? a = some ({ cls := .ref C, dict := some hp.objs.size, data := .fields #[.ref t1, .none, .none, .none, .bool false, .none] } : Obj) := (hs.2 a hxs).trans (Heap.get?_update_self _ at2 rfl)
    have k : ∀ b o, b ≠ a → hp.get? b = some o → h'.get? b = some o := fun b o hb q => (hs.2 b (Nat.ne_of_lt (Heap.lt_size q))).trans ((Heap.get?_update_ne _ _ _ _ hb).trans (Heap.get?_push_of_some _ q))
    have hnd : H hp.objs.size = none := I.hok.fresh (Nat.le_refl _)
    have nd : ∀ {b : Addr} {o : Obj}, hp.get? b = some o → b ≠ hp.objs.size := fun q => Nat.ne_of_lt (Heap.lt_size q)
    have na : ∀ {b : Addr}, H b = none → b ≠ a := fun {b} n z => by rw [z, ea] at n; cases n
    have U : Un X.fs [] H (upd (upd H hp.objs.size (exd hp.objs.size [(f, y)])) a (exo a C (some hp.objs.size))) hp h' := by
      refine ⟨fun b o q n _ _ => k b o (na n) q, fun b o q n _ _ => ⟨o.slots, k b o (na n) q⟩, fun b o q n _ => ?_, fun b o q _ => ?_, fun b xs q => ?_, fun b o v q => ?_, fun b ps q => ⟨#[], ?_⟩⟩
      · rw [upd_ne (na n), upd_ne (nd q)]; exact n
      · by_cases hb : b = a
        · rw [hb]; exact ⟨_, hx⟩
        · exact ⟨o, k b o hb q⟩
      · rw [upd_ne (at_ne ea q exo_tup), upd_ne (ne_of_none q hnd)]; exact q
      · rw [upd_ne (at_ne ea q exo_frz), upd_ne (ne_of_none q hnd)]; exact q
      · rw [upd_ne (at_ne ea q exo_tbl), upd_ne (ne_of_none q hnd), q]; simp
    refine h _ _ hnd hxs.symm (I.un (t' := tk') U fun b o q => ?_)
    by_cases hb : b = a
    · rw [hb, upd_same] at q
      cases q
      rw [hb]; exact exo_ok hx
    · rw [upd_ne hb] at q
      by_cases hd : b = hp.objs.size
      · rw [hd, upd_same] at q
        cases q
        rw [hd]; exact exd_ok hn (relO_put (fs := []) ry fun g => True.intro)
      · rw [upd_ne hd] at q
        refine (I.hok b o q).stay (fun c v hc z => k c v ?_ z) (fun c hc => ?_) fun c xs hc => ?_
        · rcases hc with rfl | hc
          · exact hb
          · exact at_ne ea hc exo_own
        · rw [upd_ne (at_ne ea hc exo_own), upd_ne (ne_of_none hc hnd)]; exact hc
        · rw [upd_ne (at_ne ea hc exo_tup), upd_ne (ne_of_none hc hnd)]; exact hc
  have hcls : PySem.W.Looks (model X.prog X.w) hp (classData C) cd := PySem.W.looks_clsIn I.kIn hcl
  obtain ⟨nm, bs, mro, ns, qn, hdt, sn, sb, ab, col, del⟩ := cd
  dsimp only at hcd
  subst hcd
  show wpAny _ _ (Builtin.ObjectAttr.storeInOwnDict (.ref a) (.ref C) (.str f t) f u onT) _ _ _
  unfold Builtin.ObjectAttr.storeInOwnDict Builtin.ObjectAttr.ownDictForStores
  repeat (first | with_reducible refine HandSPX.store_in_new ?_ ?_
                | with_reducible refine wpAny_loadPart_at ho ?_
                | with_reducible refine hcls.at ?_
                | wp_step)
  · exact ⟨_, #[], _, (Heap.get?_update_ne _ _ _ _ hxs.symm).trans (Heap.get?_push_at rfl rfl), rfl, fun e he => absurd he (by simp), fun _ => rfl⟩
  · exact fun h' tk' hn hs => go h' tk' hn hs
/-- self.f = y, a further one -/
theorem xst_old (T : XCls X.K e C) (I : Inv X pins σ H s) (ea : H a = some (exo a C (some dx))) (ed : H dx = some (exd dx fs)) (hl : fs.length ≤ 900) (hno : PySem.W.findIn X.K (.ref C) f = some none) (ry : RelV y u)
    (h : ∀ s', Inv X pins σ (upd H dx (exd dx ((f, y) :: fs))) s' → Q () s') : wpAny (model X.prog X.w) A (setAttr (.ref a) f u) Q E s := by
  obtain ⟨cd, hcl, hcd⟩ := T.cd
  obtain ⟨t1, ho⟩ := exo_at I.hok ea
  obtain ⟨mA, hns, rel⟩ := exd_at I.hok ed
  have hw := within_of rel
  obtain ⟨hp, g, d, t, os⟩ := s
  obtain ⟨oD, _, _, hoD, _, _⟩ := hns.count hw
  have inst : PySem.W.InstAt hp a { cls := .ref C, dict := some dx, data := .fields #[.ref t1, .none, .none, .none, .bool false, .none] } C (some oD) := ⟨ho, rfl, rfl, hoD⟩
  refine PySem.W.set_plain I.kIn inst T.sa ?_
  refine PySem.W.osa_openX (s := ⟨hp, g, d, t + 1, os⟩) T.eb.S I.kIn inst T.ovr (xtaker hno) fun onT => ?_
  have go : ∀ h' tk', h'.Ns1 dx (fun y' => if y' = f then some u else mA y') → Heap.SameBut dx hp h' → Q () ⟨h', g, d, tk', os⟩ := by
    intro h' tk' hn hs
    have there : ∃ o, h'.get? dx = some o := let ⟨o, _, _, e', _⟩ := hn; ⟨o, e'⟩
    exact h _ (I.write (t' := tk') (x := dx) (e := dx) (o := exd dx ((f, y) :: fs)) (by rw [ed]; exact True.intro) (.inl rfl) (fun b o hb q => (hs.2 b hb).trans q) there (exd_ok hn (relO_put ry rel)))
  have hcls : PySem.W.Looks (model X.prog X.w) hp (classData C) cd := PySem.W.looks_clsIn I.kIn hcl
  obtain ⟨nm, bs, mro, ns, qn, hdt, sn, sb, ab, col, del⟩ := cd
  dsimp only at hcd
  subst hcd
  show wpAny _ _ (Builtin.ObjectAttr.storeInOwnDict (.ref a) (.ref C) (.str f t) f u onT) _ _ _
  unfold Builtin.ObjectAttr.storeInOwnDict Builtin.ObjectAttr.ownDictForStores
  have hz : (fs.map (·.1)).length ≤ 1000 := by rw [List.length_map]; omega
  repeat (first | with_reducible refine OEX.store_in_old hns hw hz ?_
                | with_reducible refine wpAny_loadPart_at ho ?_
                | with_reducible refine hcls.at ?_
                | wp_step)
  exact fun h' tk' hn hs => go h' tk' hn hs
end
/-! ### the text of an exception's __init__ -/
section
variable {X : Cx} {e : EB} {C : Addr}
/-- an exception that is being made, its fields so far -/
def mkAt (H : Hp) (a C : Addr) (fs : List (Str × V)) : Prop := (fs = [] ∧ H a = some (exo a C none)) ∨ ∃ dx, dx ≠ a ∧ H a = some (exo a C (some dx)) ∧ H dx = some (exd dx fs)
/-- how the heap stands, the exception at a with those fields -/
def mkH (H : Hp) (a C : Addr) : List (Str × V) → Hp → Prop
  | [], H' => H' = upd H a (exo a C none)
  | f :: fs, H' => ∃ dx, dx ≠ a ∧ H dx = none ∧ H' = upd (upd H dx (exd dx (f :: fs))) a (exo a C (some dx))
/-- self.f = y on it -/
theorem mk_store {pins : List (Addr × Obj)} {σ : L2.St} {H H1 : Hp} {s : Shared} {a : Addr} {f : Str} {y : V} {u : Value} {fs : List (Str × V)} {Q : Unit → Shared → Prop} {E : Value → Shared → Prop} {A : Around} (T : XCls X.K e C) (I : Inv X pins σ H1 s) (hH : mkH H a C fs H1) (hl : fs.length ≤ 900)
    (hno : PySem.W.findIn X.K (.ref C) f = some none) (ry : RelV y u) (h : ∀ H2 s', mkH H a C ((f, y) :: fs) H2 → Inv X pins σ H2 s' → Q () s') (hn : H a = none) : wpAny (model X.prog X.w) A (setAttr (.ref a) f u) Q E s := by
  cases fs with
  | nil =>
    subst hH
    refine xst_new T I upd_same hno ry fun dx s' n ne J => ?_
    rw [upd_ne ne] at n
    refine h _ s' ⟨dx, ne, n, rfl⟩ ?_
    have e1 : upd (upd (upd H a (exo a C none)) dx (exd dx [(f, y)])) a (exo a C (some dx)) = upd (upd H dx (exd dx [(f, y)])) a (exo a C (some dx)) := by
      funext b
      by_cases hb : b = a
      · rw [hb, upd_same, upd_same]
      · rw [upd_ne hb, upd_ne hb]
        by_cases hd : b = dx
        · rw [hd, upd_same, upd_same]
        · rw [upd_ne hd, upd_ne hd, upd_ne hb]
    rwa [e1] at J
  | cons g fs =>
    obtain ⟨dx, ne, n, rfl⟩ := hH
    refine xst_old T I upd_same (by rw [upd_ne ne]; exact upd_same) hl hno ry fun s' J => h _ s' ⟨dx, ne, n, rfl⟩ ?_
    have e1 : upd (upd (upd H dx (exd dx (g :: fs))) a (exo a C (some dx))) dx (exd dx ((f, y) :: g :: fs)) = upd (upd H dx (exd dx ((f, y) :: g :: fs))) a (exo a C (some dx)) := by
      funext b
      by_cases hd : b = dx
      · rw [hd, upd_same, upd_ne ne, upd_same]
      · rw [upd_ne hd]
        by_cases hb : b = a
        · rw [hb, upd_same, upd_same]
        · rw [upd_ne hb, upd_ne hb, upd_ne hd, upd_ne hd]
    rwa [e1] at J
/-- the stores of an __init__: the field, the parameter's slot -/
def inits (fs : List (Str × Nat)) (vs : List V) (acc : List (Str × V)) : List (Str × V) := fs.foldl (fun acc p => (p.1, vs.getD p.2 .non) :: acc) acc
/-- Base.__init__(self, "text"); self.f = p; .. -/
structure InitAt (X : Cx) (body : List Stmt) (fs : List (Str × Nat)) (e : EB) (C : Addr) : Prop where
  run : ∀ (pins : List (Addr × Obj)) (s : Shared) (σ : L2.St) (H H1 : Hp) (a : Addr) (vs : List V) (D : Ends), Inv X pins σ H1 s → σ[0]? = some (some (.ref a)) → (∀ i v, vs[i]? = some v → σ[i + 1]? = some (some v)) → H a = none → mkH H a C [] H1 →
    (∀ H2, mkH H a C (inits fs vs []) H2 → D.nx σ H2) → wpAny (model X.prog X.w) X.A (execs body X.env) (SP X pins D) X.xe s
end
/-- a method's call on one line, as the tree has it -/
theorem eval_meth {o : Expr} {m : Str} {ap pos : Pos} {args : List Expr} {kws : List Keyword} {env : Env} (hb : notSuper o = true) (hf : methodCallForm (args.length + kws.length) (backTo pos (starEach args env)) (backToKw pos (keywordEach kws env)) = true) (hl : (ap.endLine == pos.line) = true) :
    eval (.Call (.Attribute o m ap) args kws pos) env = (do
      let ov ← eval o env
      standAt ap.atName
      let (f, first) ← holding [ov] (getMethod ov m (plainOf o env))
      callWith pos f first (backTo pos (starEach args env)) (backToKw pos (keywordEach kws env))) := by
  rw [arm_eval_Call, base_of hb]
  simp only [mcall_line hf hl]
theorem form_few {args : List Expr} {pos : Pos} {env : Env} (h : args.all notStar = true) (hn : args.length < 30) : methodCallForm (args.length + ([] : List Keyword).length) (backTo pos (starEach args env)) (backToKw pos (keywordEach [] env)) = true := by
  unfold methodCallForm
  rw [backTo_all h]
  show (true && true && decide (args.length + 0 + 0 < 30)) = true
  rw [decide_eq_true (by omega)]; rfl
/-! ### Base.__init__(self, "text") -/
/-- the name of a base whose __init__ is that built-in -/
def BaseAt (X : Cx) (b : Str) (e : EB) : Prop := PySem.W.handedIn (.builtin e.initId) = true ∧ (
  (∃ T, Gl X b ∧ X.mg b = none ∧ odd b = false ∧ bootBuiltins b = some (.type T) ∧ typeOf (.type T) = pure (.type "type") ∧ Manifest.isStub T = false ∧ PySem.W.findCls X.K (.type T) (.type "type") "__init__" = some (.val (.builtin e.initId))) ∨
  (∃ C0, Gl X b ∧ X.mg b = some (.ref C0) ∧ odd b = false ∧ PySem.W.specialIn X.K (.ref C0) "__getattribute__" = some (some (.builtin "type.__getattribute__")) ∧ PySem.W.readsIn X.K C0 (.type "type") = true ∧ PySem.W.findCls X.K (.ref C0) (.type "type") "__init__" = some (.val (.builtin e.initId))))
section
variable {X : Cx} {e : EB} {C : Addr} {b : Str} {args : List Expr} {ta : TA} {p1 p2 pos : Pos}
def tXI (K : PySem.W.Frag) (e : EB) (ta : TA) : TE := fun σ H Q => ta σ H fun vs H1 => ∃ (a C : Addr) (ws : List V), vs = .ref a :: ws ∧ ws.length ≤ 1000 ∧ XCls K e C ∧ H1 a = some (exo a C none) ∧ Q .non H1
theorem pe_xinit (hB : BaseAt X b e) (hs : args.all notStar = true) (hn : args.length < 30) (ne : args ≠ []) (hl : (p2.endLine == pos.line) = true) (ha : PA X args ta) : PE X (.Call (.Attribute (.Name b p1) "__init__" p2) args [] pos) (tXI X.K e ta) := by
  refine ⟨fun pins s σ H Q I h => ?_⟩
  have tail : ∀ s1, Inv X pins σ H s1 → wpAny (model X.prog X.w) X.A (callWith pos (.builtin e.initId) [] (backTo pos (starEach args X.env)) []) (EP X pins σ Q) X.xe s1 := by
    intro s1 I0
    cases args with
    | nil => exact absurd rfl ne
    | cons e0 es =>
      simp only [List.all_cons, Bool.and_eq_true] at hs
      refine PyProof.Rows.callWith_method1 (thn (ha.run pos pins _ σ H _ I0 h) fun us s2 ⟨vs, H1, I1, r1, a, C, ws, ev, hz, T, ea, q⟩ => ?_) (starEach_cons hs.1) (backTo_no hs.2)
      subst ev
      cases r1 with
      | @cons _ u0 _ ur ra rw' =>
        obtain rfl : u0 = Value.ref a := ra
        have hlen : ur.length ≤ sizeLine := by
          rw [← Paired.length rw', sizeLine_eq]
          omega
        exact xinit_ok T I1 ea hlen fun s' J => ⟨.non, H1, J, rfl, q⟩
  have hc := eval_meth (o := .Name b p1) (m := "__init__") (ap := p2) (pos := pos) (args := args) (kws := []) (env := X.env) rfl (form_few hs hn) hl
  obtain ⟨hh, hB⟩ := hB
  rcases hB with ⟨T, hg, hm, ho, hv, h1, h2, h3⟩ | ⟨C0, hg, hm, ho, h1, h2, h3⟩
  · obtain ⟨o1, o2, o3⟩ := odd_ok ho
    refine PySem.W.methodCall_KW (ld_blt I hg hm hv ?_ o3 o1) hc
    obtain ⟨m, fr⟩ := I.fr
    exact PySem.W.method_type fr I.ok.mod.kin h1 h2 h3 hh (tail _ (I.tok _))
  · obtain ⟨o1, o2, o3⟩ := odd_ok ho
    refine PySem.W.methodCall_KW (ld_glob I hg hm ?_ o1) hc
    refine PySem.W.method_cls I.kIn h1 (PySem.W.cls_value I.kIn h2 h3 hh ?_)
    exact tail _ (I.tok _)
end
/-! ### the whole __init__ -/
def sets (N : List Str) (self : Str) : List Stmt → Option (List (Str × Nat))
  | [] => some []
  | .Assign [.Attribute (.Name y _) f _] (.Name p _) _ :: r => if y = self then (match slotOf N p, sets N self r with
    | some (i + 1), some l => some ((f, i) :: l)
    | _, _ => none) else none
  | _ :: _ => none
def initOf (N : List Str) : List Stmt → Option (Str × List (Str × Nat))
  | .Expr (.Call (.Attribute (.Name b _) m ap) [.Name y _, .Constant (.str _) _ _] [] pos) _ :: r => if m = ("__init__" : Str) ∧ N[0]? = some y ∧ (ap.endLine == pos.line) = true then (sets N y r).map fun l => (b, l) else none
  | _ => none

section
variable {X : Cx} {e : EB} {C : Addr} {N : List Str} {self : Str}
/-- self.f = p in an __init__ -/
def tSt (X : Cx) (e : EB) (C : Addr) (f : Str) (i : Nat) : TS := fun D σ H => ∃ (a : Addr) (v : V) (H0 : Hp) (acc : List (Str × V)), σ[0]? = some (some (.ref a)) ∧ σ[i + 1]? = some (some v) ∧ H0 a = none ∧ acc.length ≤ 900 ∧ mkH H0 a C acc H ∧ ∀ H2, mkH H0 a C ((f, v) :: acc) H2 → D.nx σ H2
def tSts (X : Cx) (e : EB) (C : Addr) : List (Str × Nat) → TS
  | [] => tNext
  | p :: r => tSeq (tSt X e C p.1 p.2) (tSts X e C r)
theorem tSts_ok {D : Ends} {σ : L2.St} {H0 : Hp} {a : Addr} {vs : List V} (h0 : σ[0]? = some (some (.ref a))) (hv : ∀ i v, vs[i]? = some v → σ[i + 1]? = some (some v)) (hn : H0 a = none) : ∀ {fs : List (Str × Nat)} {acc : List (Str × V)} {H : Hp}, (∀ p ∈ fs, p.2 < vs.length) → acc.length + fs.length ≤ 900 → mkH H0 a C acc H →
    (∀ H2, mkH H0 a C (inits fs vs acc) H2 → D.nx σ H2) → tSts X e C fs D σ H
  | [], acc, H, _, _, hm, h => h H hm
  | p :: r, acc, H, hb, hl, hm, h => by
    have hp := hb p (by simp)
    have e1 : vs[p.2]? = some (vs.getD p.2 .non) := by
      rw [List.getD_eq_getElem?_getD, List.getElem?_eq_getElem hp]; rfl
    refine ⟨a, vs.getD p.2 .non, H0, acc, h0, hv _ _ e1, hn, by simp at hl; omega, hm, fun H2 hm2 => ?_⟩
    exact tSts_ok h0 hv hn (fun q hq => hb q (by simp [hq])) (by simp at hl ⊢; omega) hm2 h
theorem sets_ok (T : XCls X.K e C) (nd : X.N.Nodup) (vis : ∀ (x : Str) (i : Nat), X.N[i]? = some x → Vis X.env.scope x ∧ odd x = false) (h0 : X.N[0]? = some self) : ∀ {body : List Stmt} {fs : List (Str × Nat)}, sets X.N self body = some fs → (∀ p ∈ fs, PySem.W.findIn X.K (.ref C) p.1 = some none) → PSs X body (tSts X e C fs)
  | [], _, h, _ => by cases h; exact pss_nil
  | st :: r, fs, h, hno => by
    unfold sets at h
    split at h
    · rename_i e0; cases e0
    · rename_i y p1 f p2 p p3 p4 r' e0
      cases e0
      split at h
      · rename_i ey
        have h0y : X.N[0]? = some y := by rw [ey]; exact h0
        split at h
        · rename_i i l ei el
          cases h
          have hno1 : PySem.W.findIn X.K (.ref C) f = some none := hno (f, i) (by simp)
          refine pss_cons ⟨fun pins s σ H D I ⟨a, v, H0, acc, q0, qi, hn, hl, hm, hk⟩ => ?_⟩ (sets_ok T nd vis h0 el fun q hq => hno q (by simp [hq]))
          have hi := slotOf_ok ei
          obtain ⟨v1, v2⟩ := vis _ _ hi
          obtain ⟨w1, w2⟩ := vis _ _ h0y
          obtain ⟨o1, o2, o3⟩ := odd_ok v2
          obtain ⟨n1, n2, n3⟩ := odd_ok w2
          refine plainObj_wpAny_Assign_Attribute (thn ((pe_var hi v1 o1 o2).run pins s σ H (fun x H1 => x = v ∧ H1 = H) I ⟨v, qi, rfl, rfl⟩) fun u s1 ⟨x, H1, I1, r1, ex, eH⟩ =>
            thn ((pe_var h0y w1 n1 n2).run pins s1 σ H1 (fun x' H2 => x' = .ref a ∧ H2 = H) I1 ⟨.ref a, q0, rfl, eH⟩) fun u2 s2 ⟨x2, H2, I2, r2, ex2, eH2⟩ => ?_) rfl
          subst ex eH ex2
          subst eH2
          obtain rfl : u2 = Value.ref a := r2
          exact mk_store T I2 hm hl hno1 r1 (fun H3 s3 hm3 J => ⟨σ, H3, J, hk H3 hm3⟩) hn
        · cases h
      · cases h
    · cases h
theorem init_ok {b : Str} {body : List Stmt} {fs : List (Str × Nat)} (T : XCls X.K e C) (hB : BaseAt X b e) (nd : X.N.Nodup) (vis : ∀ (x : Str) (i : Nat), X.N[i]? = some x → Vis X.env.scope x ∧ odd x = false) (h : initOf X.N body = some (b, fs)) (hno : ∀ p ∈ fs, PySem.W.findIn X.K (.ref C) p.1 = some none) :
    ∃ t : TS, PSs X body t ∧ ∀ (D : Ends) (σ : L2.St) (H0 H : Hp) (a : Addr) (vs : List V), σ[0]? = some (some (.ref a)) → (∀ i v, vs[i]? = some v → σ[i + 1]? = some (some v)) → H0 a = none → (∀ p ∈ fs, p.2 < vs.length) → fs.length ≤ 900 → mkH H0 a C [] H → (∀ H2, mkH H0 a C (inits fs vs []) H2 → D.nx σ H2) → t D σ H := by
  unfold initOf at h
  split at h
  · rename_i b' p1 m ap y p2 x j p3 pos p4 r
    split at h
    · rename_i hc
      obtain ⟨rfl, h0, hl⟩ := hc
      obtain ⟨l, el, e2⟩ := Option.map_eq_some_iff.mp h
      cases e2
      obtain ⟨w1, w2⟩ := vis _ _ h0
      obtain ⟨n1, n2, n3⟩ := odd_ok w2
      have ha : PA X [.Name y p2, .Constant (.str x) j p3] (tCons (tVar 0) (tCons (tC (.str x)) tNil)) := pa_cons (pe_var h0 w1 n1 n2) (pa_cons pe_str pa_nil rfl) rfl
      refine ⟨_, pss_cons (ps_expr (pe_xinit hB rfl (by simp) (by simp) hl ha) rfl) (sets_ok T nd vis h0 el hno), fun D σ H0 H a vs q0 hv hn hb hz hm hk => ?_⟩
      refine ⟨.ref a, q0, a, C, [.str x], rfl, by simp, T, ?_, ?_⟩
      · have hm' : H = upd H0 a (exo a C none) := hm
        rw [hm', upd_same]
      · exact tSts_ok q0 hv hn hb (by simpa using hz) hm hk
    · cases h
  · cases h
end
end Va

/-! Vax: C(e, ..) of an own exception; raise. -/
namespace Va
open PySem PySem.Spec PyProof.Rows L2
/-- an __init__'s promise: the fields are stored -/
def spI (C : Addr) (fs : List (Str × Nat)) (n : Nat) : Sp := fun vs H Q E => ∃ (a : Addr) (ys : List V) (H0 : Hp), vs = .ref a :: ys ∧ ys.length = n ∧ H0 a = none ∧ mkH H0 a C [] H ∧ ∀ H2, mkH H0 a C (inits fs ys []) H2 → Q .non H2
theorem start_at {N : List Str} {vs : List V} {i : Nat} {v : V} (h : vs[i]? = some v) : (L2.start N vs)[i]? = some (some v) := by
  unfold L2.start
  have hl := (List.getElem?_eq_some_iff.mp h).1
  rw [List.getElem?_append_left (by simpa using hl), List.getElem?_map, h]; rfl
section
variable {P : Program} {w : World} {K : PySem.W.Frag} {mg : Str → Option Value} {base : Heap} {k : Nat} {N ps : List Str} {fI C : Addr} {fd : FuncData} {x qual b : Str} {params : Arguments} {body : List Stmt} {scope : Scope} {dvs : List V} {kws : List (Str × V)} {fs : List (Str × Nat)} {e : EB}
theorem init_fn (F : FunD K x qual params body scope dvs kws fI fd) (S : FnScope N ps scope) (T : XCls K e C) (hB : ∀ X : Cx, X.K = K → X.mg = mg → X.env.scope = scope → BaseAt X b e) (hp : ps.length = ps.length) (h0 : 0 < ps.length) (hi : initOf N body = some (b, fs))
    (vis : ∀ (y : Str) (i : Nat), N[i]? = some y → Vis scope y ∧ odd y = false) (hno : ∀ p ∈ fs, PySem.W.findIn K (.ref C) p.1 = some none) (hb : ∀ p ∈ fs, p.2 < ps.length - 1) (hz : fs.length ≤ 900) : FnOk P w K mg base CX0 (k + 1) fI fd ps (spI C fs (ps.length - 1)) := by
  refine F.ok S (fun vs H Q E ⟨a, ys, H0, e1, e2, _⟩ => by rw [e1, List.length_cons, e2]; omega) (fun cdv A outer s H vs Q E hr ⟨a, ys, H0, e1, e2, n0, hm, hq⟩ => ?_)
  obtain ⟨t, h1, h2⟩ := init_ok (X := cxOf CX0 P w K mg base N qual scope fI cdv A outer s H E) (C := C) (body := body) (fs := fs) T (hB _ rfl rfl rfl) S.nd vis hi hno
  refine ⟨t, h1, h2 _ _ H0 H a ys ?_ (fun i v hv => ?_) n0 (fun p hp => by rw [e2]; exact hb p hp) hz hm fun H2 hm2 => hq H2 hm2⟩
  · exact start_at (by rw [e1]; rfl)
  · exact start_at (by rw [e1]; exact hv)
end
section
variable {X : Cx} {e : EB} {C fI : Addr} {x : Str} {p pos : Pos} {args : List Expr} {ta : TA} {fs : List (Str × Nat)} {n k : Nat} {fd : FuncData} {ps : List Str}
/-- the made exception: its class, its fields -/
def tMkX (C : Addr) (fs : List (Str × Nat)) (n : Nat) (ta : TA) : L2.St → Hp → XK → Prop := fun σ H Q => ta σ H fun vs H1 => vs.length = n ∧ ∀ d, H1 d = none → Q (.ref C) (some d) (upd H1 d (.xd (inits fs vs [])))
theorem inits_ne : ∀ {fs : List (Str × Nat)} {vs : List V} {acc : List (Str × V)}, (fs ≠ [] ∨ acc ≠ []) → inits fs vs acc ≠ []
  | [], _, _, h => by
    rcases h with h | h
    · exact absurd rfl h
    · exact h
  | p :: r, vs, acc, _ => inits_ne (fs := r) (acc := (p.1, vs.getD p.2 .non) :: acc) (.inr (by simp))
theorem pmk_x (T : XCls X.K e C) (iC : PySem.W.findIn X.K (.ref C) "__init__" = some (some (.ref fI))) (tI : PySem.W.typeIn X.K (.ref fI) = some (.type "function")) (hn : ps.length = n + 1) (F1 : FnOk X.prog X.w X.K X.mg X.base CX0 k fI fd ps (spI C fs n)) (hr : Room (k + 1) X.A) (hb : Binds X.K fd ps []) (hf : fs ≠ [])
    (hg : Gl X x) (hm : X.mg x = some (.ref C)) (hs : args.all notStar = true) (ne : args ≠ []) (ho : odd x = false) (hz : n ≤ 900) (ha : PA X args ta) : PMk X (.Call (.Name x p) args [] pos) (tMkX C fs n ta) := by
  intro pins s σ H Q I h
  obtain ⟨o1, o2, o3⟩ := odd_ok ho
  obtain ⟨nm, N, qn, bs, bm, hdct, sn, sub, ab, col, dd, k0, k1, k2, k3, k5, _, _⟩ := PySem.W.excInit_of I.kIn T.ini
  cases args with
  | nil => exact absurd rfl ne
  | cons e0 es =>
    simp only [List.all_cons, Bool.and_eq_true] at hs
    refine wpAny_Call_Name_kw (ld_glob I hg hm ?_ o1)
    refine PySem.W.callWith_K (h₀ := X.base) I.ok.mod.kin T.kC (thn (ha.run pos pins s σ H _ I h) fun us s1 ⟨vs, H1, I1, r1, hl, q1⟩ => ⟨I1.kIn, ?_⟩) (starEach_cons hs.1) (backTo_no hs.2)
    show wpAny _ _ (call (.ref C) us) _ _ _
    obtain ⟨nm, N, qn, bs, bm, hdct, sn, sub, ab, col, dd, k0, k1, k2, k3, k5, hC, hT⟩ := PySem.W.excInit_of I1.kIn T.ini
    obtain ⟨hp, g, dr, tk, os⟩ := s1
    have up : hp.objs.size ≤ hp.objs.size + 1 := Nat.le_succ _
    have fresh : H1 (hp.objs.size + 1) = none := I1.hok.fresh up
    have keep : ∀ b o, hp.get? b = some o → ((hp.push (PySem.W.kdv_tup us)).push (PySem.HandSPX.excO C hp.objs.size)).get? b = some o := fun b o q => Heap.get?_push_of_some _ (Heap.get?_push_of_some _ q)
    have self : ((hp.push (PySem.W.kdv_tup us)).push (PySem.HandSPX.excO C hp.objs.size)).get? (hp.objs.size + 1) = some (PySem.HandSPX.excO C hp.objs.size) := by heap_get
    have I2 : Inv X pins σ (upd H1 (hp.objs.size + 1) (exo (hp.objs.size + 1) C none)) ⟨(hp.push (PySem.W.kdv_tup us)).push (PySem.HandSPX.excO C hp.objs.size), g, dr, tk, os⟩ :=
      I1.laid (t' := tk) keep up (exo_ok self)
    have r2 : Vals (V.ref (hp.objs.size + 1) :: vs) (Value.ref (hp.objs.size + 1) :: us) := .cons rfl r1
    have hus : us.length = n := by rw [← Paired.length r1]; exact hl
    have b1 := hb _ (Value.ref (hp.objs.size + 1) :: us) I2.kIn (by simp [hus, hn])
    rw [List.append_nil] at b1
    have promise : spI C fs n (V.ref (hp.objs.size + 1) :: vs) (upd H1 (hp.objs.size + 1) (exo (hp.objs.size + 1) C none)) (fun v H2 => v = .non ∧ mkH H1 (hp.objs.size + 1) C (inits fs vs []) H2) (fun _ _ _ => False) :=
      ⟨_, vs, H1, rfl, hl, fresh, rfl, fun H2 hm2 => ⟨rfl, hm2⟩⟩
    refine wpAny_call (PySem.HandSPX.call_own T.eb.F hT hC (PySem.W.looks_findIn I1.kIn iC) (fun sf => PySem.W.bind_fn I1.kIn sf tI) (by rw [hus, sizeLine_eq]; omega)
      (codeAny_mono (F1.run _ X.stack _ _ ⟨Value.ref (hp.objs.size + 1) :: us, []⟩ (Value.ref (hp.objs.size + 1) :: us) _ _ (fun _ _ _ => False) (hr.make C us []) (I2.env0.make C us []) b1 r2 promise) fun r s' back => ?_))
    cases r with
    | error er => exact (show False from back).elim
    | ok fl =>
      cases fl with
      | ret u =>
        obtain ⟨v, H2, os2, bare2, un2, hok2, rv, ev, hm2⟩ := back
        subst ev
        have hne : inits fs vs [] ≠ [] := inits_ne (.inl hf)
        cases hin : inits fs vs [] with
        | nil => exact absurd hin hne
        | cons f0 fr =>
          rw [hin] at hm2
          obtain ⟨d, nd, hd, eH⟩ := hm2
          obtain ⟨h2, g2, d2, t2, os'⟩ := s'
          have ea : H2 (hp.objs.size + 1) = some (exo (hp.objs.size + 1) C (some d)) := by rw [eH, upd_same]
          have ed : H2 d = some (exd d (f0 :: fr)) := by rw [eH, upd_ne nd, upd_same]
          have eq : upd (del H2 (hp.objs.size + 1)) d (.xd (f0 :: fr)) = upd H1 d (.xd (inits fs vs [])) := by
            rw [hin]
            funext b
            by_cases hbd : b = d
            · rw [hbd, upd_same, upd_same]
            · rw [upd_ne hbd, upd_ne hbd]
              by_cases hba : b = hp.objs.size + 1
              · rw [hba, del_same, fresh]
              · rw [del_ne hba, eH, upd_ne hba, upd_ne hbd]
          exact ⟨rv, mk_end (raises_own T.exC T.tyC) I1 up keep un2 hok2 os2 bare2 ea ed hd (by rw [eq]; exact q1 d hd)⟩
      | next => exact (show False from back).elim
      | brk => exact (show False from back).elim
      | cont => exact (show False from back).elim
end
/-! ### raise C(e, ..) -/
def initsW (fs : List (Str × Nat)) (ws : List W) : List (Str × W) := fs.foldl (fun acc p => (p.1, ws.getD p.2 .non) :: acc) []
/-- the class, its fields, how many arguments -/
def sraise (c : Str) (fs : List (Str × Nat)) (n : Nat) (a : MA) : MS := fun ws s => (a ws s).toS ws fun xs s1 => if xs.length = n then .er c (initsW fs xs) ws s1 else .no
section
variable {X : Cx} {fz : Gz} {Wx : WX} {c : Str} {fs : List (Str × Nat)} {n : Nat} {ma : MA} {ex : Expr} {pos : Pos}
theorem RWs.getD {K : Kz} {g : Gh} {ws : List W} {vs : List V} (r : RWs K g ws vs) (i : Nat) : RW K g (ws.getD i .non) (vs.getD i .non) := by
  rw [List.getD_eq_getElem?_getD, List.getD_eq_getElem?_getD]
  cases h : ws[i]? with
  | none =>
    have : vs[i]? = none := by rw [List.getElem?_eq_none_iff] at h ⊢; rw [← r.length]; exact h
    rw [this]; exact .non
  | some w =>
    obtain ⟨v, h1, h2⟩ := r.get h
    rw [h1]; exact h2
theorem inits_rel {K : Kz} {g : Gh} {ws : List W} {vs : List V} (r : RWs K g ws vs) : ∀ (fs : List (Str × Nat)) {accw : List (Str × W)} {accv : List (Str × V)}, RKs K g accw accv → RKs K g (fs.foldl (fun acc p => (p.1, ws.getD p.2 .non) :: acc) accw) (fs.foldl (fun acc p => (p.1, vs.getD p.2 .non) :: acc) accv)
  | [], _, _, h => h
  | p :: fs, _, _, h => inits_rel r fs (.cons (r.getD p.2) h)
theorem q_raise (tk : Takes X Wx) (hc : X.calm = true) (h : PMk X ex (tMkX (He.ga X.K c) fs n (tMs (X.K, fz) Wx ma))) : PS X (.Raise (some ex) none pos) (tMS (X.K, fz) Wx (sraise c fs n ma)) := by
  refine ⟨fun pins sh sg H D I ⟨g, s, ws, S, rs, hp⟩ => (ps_raise hc tk h).run pins sh sg H D I ?_⟩
  refine ⟨g, s, ws, S, rs, (PostS.expr hp rs).imp fun xs g1 s1 H1 p1 S1 h1 vs rv => ?_⟩
  split at h1
  · rename_i hl
    refine ⟨by rw [← rv.length]; exact hl, fun d hd => ?_⟩
    have le := le_fix (g := g1) (u := .xd (inits fs vs [])) (S1.hfn hd)
    exact h1 (g1.fix d (.xd (inits fs vs []))) _ sg d _ le (S1.fix hd) (rs.mono (p1.trans le)) upd_same ((inits_rel rv fs .nil).mono le)
  · exact h1.elim
end
end Va

/-! Vay: try with except: the caught exception stands in the store while its suite runs. -/
namespace Va
open PySem PySem.Spec PyProof.Rows L2
/-- the suite is left: the exception is dead, its name is gone -/
def clrW (o : Option Nat) (ws : Loc) : Loc := match o with
  | some i => ws.set i none
  | none => ws
def setW (o : Option Nat) (w : W) (ws : Loc) : Loc := match o with
  | some i => ws.set i (some w)
  | none => ws
def RS.lv (k : Nat) (o : Option Nat) (r : RS) : RS := match r with
  | .nx ws s => .nx (clrW o ws) (s.set k .dead)
  | .rt w s => .rt w (s.set k .dead)
  | .bk ws s => .bk (clrW o ws) (s.set k .dead)
  | .ct ws s => .ct (clrW o ws) (s.set k .dead)
  | _ => .no
def Gz.withX (f : Gz) (e : Option (Nat × Addr × Value × Option Addr)) : Gz := ⟨f.lk, f.pv, e⟩
section
variable {k : PySem.W.Frag} {f : Gz} {g : Gh}
theorem HAt.ex {H : Hp} {a : Addr} {o : O} {e : Option (Nat × Addr × Value × Option Addr)} (hx : o.isX = false) (r : HAt (k, f) g H a o) : HAt (k, f.withX e) g H a o := by
  cases o with
  | lck l => obtain ⟨vs, ob, h1, h2, h3⟩ := r; exact ⟨vs, ob, h1.fz, h2, h3⟩
  | ins c fs => obtain ⟨dx, vs, h1, h2⟩ := r; exact ⟨dx, vs, h1.fz, h2⟩
  | lst xs => obtain ⟨vs, h1, h2⟩ := r; exact ⟨vs, h1.fz, h2⟩
  | dic xs => obtain ⟨vs, h1, h2, h3⟩ := r; exact ⟨vs, h1.fz, h2, h3⟩
  | exn c d => cases hx
  | dead => trivial
theorem isX_of {o : O} (h : ∀ c d, o ≠ .exn c d) : o.isX = false := by cases o <;> first | rfl | exact absurd rfl (h _ _)
/-- an exception is caught -/
theorem Sim.catch_ {s : Sto} {H : Hp} {a b : Addr} {c : Str} {fs : List (Str × W)} {vs : List (Str × V)} (S : Sim (k, f) g s H) (he : f.ex = none) (hd : g.hf b = some (.xd vs)) (rk : RKs (k, f) g fs vs) :
    Sim (k, f.withX (some (s.length, a, .ref (He.ga k c), some b))) (g.snoc a) (s ++ [.exn c fs]) H := by
  have no : ∀ {n : Nat} {o : O}, s[n]? = some o → o.isX = false := fun {n o} e => isX_of fun c' d' z => by
    subst z; obtain ⟨r, q⟩ := S.ex n c' d' e; rw [show (k, f).2.ex = none from he] at q; cases q
  have inv : ∀ {n : Nat} {x : O}, (s ++ [.exn c fs])[n]? = some x → (n < s.length ∧ s[n]? = some x) ∨ (n = s.length ∧ x = .exn c fs) := fun {n x} e => by
    by_cases hn : n < s.length
    · rw [List.getElem?_append_left hn] at e; exact .inl ⟨hn, e⟩
    · rw [List.getElem?_append_right (by omega)] at e
      have z : n - s.length = 0 := by
        cases q : n - s.length with
        | zero => rfl
        | succ k => rw [q] at e; simp at e
      rw [z] at e
      simp at e
      exact .inr ⟨by omega, e.symm⟩
  have low : ∀ {n : Nat} {x : Addr}, n < s.length → (g.snoc a).al[n]? = some x → g.al[n]? = some x := fun {n x} hn h => by
    have : (g.al ++ [a])[n]? = some x := h
    rwa [List.getElem?_append_left (by rw [S.len]; exact hn)] at this
  refine ⟨by simp [Gh.snoc, S.len], fun n x b' e ea => ?_, fun i j x o u h1 h2 h3 h4 w1 w2 => ?_, fun n x o ea e ow => ?_, S.fr, S.lkd, fun b' v e => ?_, fun n c' d' e => ?_⟩
  · rcases inv e with ⟨l, e⟩ | ⟨rfl, rfl⟩
    · exact ((S.at_ n x b' e (low l ea)).ex (no e)).stay (le_snoc _ _) rfl
    · rw [snoc_at S.len a] at ea; cases ea
      exact ⟨s.length, b, vs, rfl, (rk.mono (le_snoc g a)).fz, hd⟩
  · rcases inv h3 with ⟨l3, e3⟩ | ⟨l3, rfl⟩
    · rcases inv h4 with ⟨l4, e4⟩ | ⟨l4, rfl⟩
      · exact S.nd i j x o u (low l3 h1) (low l4 h2) e3 e4 w1 w2
      · cases w2
    · cases w1
  · rcases inv e with ⟨l, e⟩ | ⟨rfl, rfl⟩
    · exact S.nf n x o (low l ea) e ow
    · cases ow
  · obtain ⟨q1, q2, q3⟩ := S.pv b' v e
    refine ⟨q1, q2, fun n o ea e => ?_⟩
    rcases inv e with ⟨l, e⟩ | ⟨rfl, rfl⟩
    · exact q3 n o (low l ea) e
    · rfl
  · rcases inv e with ⟨l, e⟩ | ⟨rfl, _⟩
    · obtain ⟨r, q⟩ := S.ex n c' d' e; rw [show (k, f).2.ex = none from he] at q; cases q
    · exact ⟨_, rfl⟩
/-- its suite is left -/
theorem Sim.leave {s : Sto} {H : Hp} {n : Nat} {r : Addr × Value × Option Addr} (S : Sim (k, f.withX (some (n, r))) g s H) (he : f.ex = none) : Sim (k, f) g (s.set n .dead) H := by
  have ef : f = (f.withX (some (n, r))).withX none := by
    obtain ⟨l, p, e⟩ := f
    obtain rfl : e = none := he
    rfl
  have inv : ∀ {m : Nat} {x : O}, (s.set n .dead)[m]? = some x → x = .dead ∨ (s[m]? = some x ∧ x.isX = false) := fun {m x} e => by
    by_cases hm : m = n
    · subst hm
      have hl : m < s.length := by simpa using (List.getElem?_eq_some_iff.mp e).1
      rw [List.getElem?_set_self hl] at e
      cases e
      exact .inl rfl
    · rw [List.getElem?_set_ne (Ne.symm hm)] at e
      refine .inr ⟨e, isX_of fun c d z => ?_⟩
      subst z
      obtain ⟨r', q⟩ := S.ex m c d e
      cases q
      exact hm rfl
  refine ⟨by simp [S.len], fun m x b e eb => ?_, fun i j x o u h1 h2 h3 h4 w1 w2 => ?_, fun m x o eb e ow => ?_, S.fr, S.lkd, fun b v e => ?_, fun m c d e => ?_⟩
  · rcases inv e with rfl | ⟨e, kx⟩
    · trivial
    · have q := (S.at_ m x b e eb).ex (e := none) kx
      rw [← ef] at q
      exact q
  · rcases inv h3 with rfl | ⟨e3, k3⟩
    · cases w1
    · rcases inv h4 with rfl | ⟨e4, k4⟩
      · cases w2
      · exact S.nd i j x o u h1 h2 e3 e4 w1 w2
  · rcases inv e with rfl | ⟨e, kx⟩
    · cases ow
    · exact S.nf m x o eb e ow
  · obtain ⟨q1, q2, q3⟩ := S.pv b v e
    refine ⟨q1, q2, fun m o eb e => ?_⟩
    rcases inv e with rfl | ⟨e, kx⟩
    · rfl
    · exact q3 m o eb e
  · rcases inv e with h | ⟨_, kx⟩
    · cases h
    · cases kx
end
section
variable {X : Cx} {fz : Gz} {Wx : WX}
def EndsC (o : Option Nat) (D : Ends) : Ends := match o with
  | some i => { nx := fun σ' H' => D.nx (List.set σ' i none) H', rt := D.rt, bk := fun σ' H' => D.bk (List.set σ' i none) H', ct := fun σ' H' => D.ct (List.set σ' i none) H' }
  | none => D
theorem RSt.clr {K : Kz} {g : Gh} {ws : Loc} {sg : L2.St} (r : RSt K g ws sg) (i : Nat) : RSt K g (ws.set i none) (sg.set i none) := r.clear i none
/-- a suite's end, seen from outside -/
theorem PostS.lv {k : PySem.W.Frag} {f : Gz} {r0 : Addr × Value × Option Addr} {g g' : Gh} {n : Nat} {o : Option Nat} {D : Ends} {r : RS} (he : f.ex = none) (p : Le g g') (h : PostS (k, f) Wx g D (r.lv n o)) : PostS (k, f.withX (some (n, r0))) WxF g' (EndsC o D) r := by
  cases r with
  | nx ws s =>
    intro g2 H2 sg q S rs
    cases o with
    | none => exact h g2 H2 sg (p.trans q) (S.leave he) rs.fz
    | some i => exact h g2 H2 _ (p.trans q) (S.leave he) (rs.clr i).fz
  | rt w s =>
    intro g2 H2 v q S rw'
    cases o with
    | none => exact h g2 H2 v (p.trans q) (S.leave he) rw'.fz
    | some i => exact h g2 H2 v (p.trans q) (S.leave he) rw'.fz
  | bk ws s =>
    intro g2 H2 sg q S rs
    cases o with
    | none => exact h g2 H2 sg (p.trans q) (S.leave he) rs.fz
    | some i => exact h g2 H2 _ (p.trans q) (S.leave he) (rs.clr i).fz
  | ct ws s =>
    intro g2 H2 sg q S rs
    cases o with
    | none => exact h g2 H2 sg (p.trans q) (S.leave he) rs.fz
    | some i => exact h g2 H2 _ (p.trans q) (S.leave he) (rs.clr i).fz
  | er c d ws s => exact h.elim
  | no => exact h.elim
/-- a clause: the classes' names, the slot of `as`, the suite's meaning -/
structure Clz where
  cs : List Str
  o : Option Nat
  m : MS
def exAny (exm : Str → Str → Option Bool) (c : Str) : List Str → Option Bool
  | [] => some false
  | x :: r => match exm c x with
    | some true => some true
    | some false => exAny exm c r
    | none => none
def shand (exm : Str → Str → Option Bool) (c : Str) (fs : List (Str × W)) (ws : Loc) (s : Sto) : List Clz → RS
  | [] => .er c fs ws s
  | q :: r => match exAny exm c q.cs with
    | some true => (q.m (setW q.o (.ref s.length) ws) (s ++ [.exn c fs])).lv s.length q.o
    | some false => shand exm c fs ws s r
    | none => .no
def stry (exm : Str → Str → Option Bool) (body : MS) (hs : List Clz) : MS := fun ws s => match body ws s with
  | .er c fs ws1 s1 => shand exm c fs ws1 s1 hs
  | r => r
/-- what a clause's suite is asked -/
def tsu (K : PySem.W.Frag) (m : MS) (a : Addr) (cls : Value) (d : Option Addr) : TS := fun D σ H => ∃ (f : Gz) (n : Nat), f.ex = none ∧ tMS (K, f.withX (some (n, a, cls, d))) WxF m D σ H
/-- what the clauses ask, in their order -/
def wClz (K : PySem.W.Frag) (Wout : WX) (D : Ends) : List (List Value × Option Nat × (Addr → Value → Option Addr → TS)) → WX
  | [] => Wout
  | (cs, o, ts) :: r => fun cls d σ H => ∃ b, exAnyV K cls cs = some b ∧
      (b = true → ∀ a : Addr, H a = none → ts a cls d (EndsC o D) (match o with | some i => List.set σ i (some (V.ref a)) | none => σ) H) ∧
      (b = false → wClz K Wout D r cls d σ H)
where
  exAnyV (K : PySem.W.Frag) (cls : Value) : List Value → Option Bool
    | [] => some false
    | c :: r => match PySem.W.exmOne K cls c with
      | some true => some true
      | some false => exAnyV K cls r
      | none => none
theorem exAny_ok {exm : Str → Str → Option Bool} {K : PySem.W.Frag} (hx : ∀ c x b, exm c x = some b → PySem.W.exmOne K (.ref (He.ga K c)) (.ref (He.ga K x)) = some b) {c : Str} : ∀ {l : List Str} {b : Bool}, exAny exm c l = some b → wClz.exAnyV K (.ref (He.ga K c)) (l.map fun x => .ref (He.ga K x)) = some b
  | [], _, e => by cases e; rfl
  | x :: r, b, e => by
    unfold exAny at e
    show (match PySem.W.exmOne K (.ref (He.ga K c)) (.ref (He.ga K x)) with
      | some true => some true
      | some false => wClz.exAnyV K (.ref (He.ga K c)) (r.map fun x => .ref (He.ga K x))
      | none => none) = some b
    split at e
    · rename_i q; rw [hx _ _ _ q]; exact e
    · rename_i q; rw [hx _ _ _ q]; exact exAny_ok hx e
    · cases e
def clzV (K : PySem.W.Frag) (hs : List Clz) : List (List Value × Option Nat × (Addr → Value → Option Addr → TS)) := hs.map fun q => (q.cs.map fun x => .ref (He.ga K x), q.o, tsu K q.m)
theorem shand_ok {exm : Str → Str → Option Bool} {k : PySem.W.Frag} {f : Gz} {D : Ends} (he : f.ex = none) (hx : ∀ c x b, exm c x = some b → PySem.W.exmOne k (.ref (He.ga k c)) (.ref (He.ga k x)) = some b) {c : Str} {fs : List (Str × W)} {vs : List (Str × V)} {ws : Loc} {s : Sto} {g : Gh} {H : Hp} {sg : L2.St} {b : Addr}
    (S : Sim (k, f) g s H) (rs : RSt (k, f) g ws sg) (hd : g.hf b = some (.xd vs)) (rk : RKs (k, f) g fs vs) :
    ∀ hs : List Clz, PostS (k, f) Wx g D (shand exm c fs ws s hs) → wClz k Wx D (clzV k hs) (.ref (He.ga k c)) (some b) sg H
  | [], h => h g H sg b vs Le.rfl S rs hd rk
  | q :: r, h => by
    unfold shand at h
    split at h
    · rename_i e
      refine ⟨true, exAny_ok hx e, fun _ a na => ⟨f, s.length, he, g.snoc a, s ++ [.exn c fs], setW q.o (.ref s.length) ws, S.catch_ he hd rk, ?_, h.lv he (le_snoc _ _)⟩, fun z => Bool.noConfusion z⟩
      have r2 := (rs.mono (le_snoc g a)).fz (f' := f.withX (some (s.length, a, .ref (He.ga k c), some b)))
      cases ho : q.o with
      | none => exact r2
      | some i => exact r2.set (.ref (snoc_at S.len a)) i
    · rename_i e
      exact ⟨false, exAny_ok hx e, fun z => Bool.noConfusion z, fun _ => shand_ok he hx S rs hd rk r h⟩
    · exact h.elim
theorem PostS.tried {exm : Str → Str → Option Bool} {k : PySem.W.Frag} {f : Gz} {D : Ends} (he : f.ex = none) (hx : ∀ c x b, exm c x = some b → PySem.W.exmOne k (.ref (He.ga k c)) (.ref (He.ga k x)) = some b) {g : Gh} {hs : List Clz} {r : RS}
    (h : PostS (k, f) Wx g D (match r with | .er c fs ws1 s1 => shand exm c fs ws1 s1 hs | r => r)) : PostS (k, f) (wClz k Wx D (clzV k hs)) g D r := by
  cases r with
  | er c d ws s => exact fun g2 H2 sg b vs q S rs hd rk => shand_ok he hx S rs hd rk hs (PostS.mono h q)
  | _ => exact h
theorem PostS.wimp {K : Kz} {W1 W2 : WX} {g : Gh} {D : Ends} {r : RS} (f : ∀ c d σ H, W1 c d σ H → W2 c d σ H) (h : PostS K W1 g D r) : PostS K W2 g D r := by
  cases r with
  | er c fs ws s => exact fun g2 H2 sg a vs q S rs e rk => f _ _ _ _ (h g2 H2 sg a vs q S rs e rk)
  | nx ws s => exact h
  | rt w s => exact h
  | bk ws s => exact h
  | ct ws s => exact h
  | no => exact h
theorem exV1 {K : PySem.W.Frag} {cls c : Value} {b : Bool} (h : wClz.exAnyV K cls [c] = some b) : PySem.W.exmOne K cls c = some b := by
  unfold wClz.exAnyV at h
  split at h
  · rename_i e; rw [e]; exact h
  · rename_i e
    unfold wClz.exAnyV at h
    rw [e]; exact h
  · cases h
/-- clauses of one class each, without a name -/
theorem wClz_many {K : PySem.W.Frag} {D : Ends} : ∀ (hs : List (Str × MS)) {cls : Value} {d : Option Addr} {σ : L2.St} {H : Hp}, wClz K Wx D (clzV K (hs.map fun q => ⟨[q.1], none, q.2⟩)) cls d σ H → wMany K Wx D (hs.map fun q => (Value.ref (He.ga K q.1), tsu K q.2)) cls d σ H
  | [], _, _, _, _, h => h
  | q :: r, _, _, _, _, ⟨b, e, h1, h2⟩ => ⟨b, exV1 e, h1, fun z => wClz_many r (h2 z)⟩
theorem q_tryM {exm : Str → Str → Option Bool} {body : List Stmt} {h₀ : ExceptHandler} {hds : List ExceptHandler} {pos : Pos} {mb : MS} {hs : List (Str × MS)} (he : fz.ex = none) (hk : X.stack = X.env :: X.outer) (hf : X.env.frame = some X.env.locals) (tk : Takes X Wx)
    (hx : ∀ c x b, exm c x = some b → PySem.W.exmOne X.K (.ref (He.ga X.K c)) (.ref (He.ga X.K x)) = some b)
    (hb : ∀ (W : WX) (pn : List (Addr × Obj)) (xe : Value → Shared → Prop), Takes (X.tr pn xe) W → PassesOwn (model X.prog X.w) X.A X.env xe → PSs (X.tr pn xe) body (tMS (X.K, fz) W mb))
    (hh : HdsOk X (h₀ :: hds) (hs.map fun q => (Value.ref (He.ga X.K q.1), tsu X.K q.2))) : PS X (.Try body (h₀ :: hds) [] [] pos) (tMS (X.K, fz) Wx (stry exm mb (hs.map fun q => ⟨[q.1], none, q.2⟩))) :=
  ⟨fun pins sh sg H D I ⟨g, s, ws, S, rs, h⟩ => (ps_try_many (tb := fun W => tMS (X.K, fz) W mb) hk hf tk hb hh).run pins sh sg H D I ⟨g, s, ws, S, rs, (PostS.tried he hx h).wimp fun _ _ _ _ q => wClz_many hs q⟩⟩
theorem wClz_as {K : PySem.W.Frag} {D : Ends} {x : Str} {i : Nat} {m : MS} {cls : Value} {d : Option Addr} {σ : L2.St} {H : Hp} : wClz K Wx D (clzV K [⟨[x], some i, m⟩]) cls d σ H → wAs K (.ref (He.ga K x)) i (tsu K m) Wx D cls d σ H
  | ⟨b, e, h1, h2⟩ => ⟨b, exV1 e, h1, h2⟩
theorem q_tryA {exm : Str → Str → Option Bool} {x n : Str} {i : Nat} {body suite : List Stmt} {b₀ : Stmt} {np pos pos' : Pos} {mb m : MS} (he : fz.ex = none) (hk : X.stack = X.env :: X.outer) (hf : X.env.frame = some X.env.locals) (hN : X.N.Nodup) (hi : X.N[i]? = some n) (hl : X.env.kindOf n = some NameKind.local) (hx' : Names X x (.ref (He.ga X.K x))) (tk : Takes X Wx)
    (hx : ∀ c x b, exm c x = some b → PySem.W.exmOne X.K (.ref (He.ga X.K c)) (.ref (He.ga X.K x)) = some b)
    (hb : ∀ (W : WX) (pn : List (Addr × Obj)) (xe : Value → Shared → Prop), Takes (X.tr pn xe) W → PassesOwn (model X.prog X.w) X.A X.env xe → PSs (X.tr pn xe) body (tMS (X.K, fz) W mb))
    (hh : ∀ (a : Addr) (oe : Obj) (cls : Value) (d : Option Addr) (pn : List (Addr × Obj)), Zc cls d oe → (∃ vs, oe.data = Data.fields vs) → PSs (X.suite a ((a, oe) :: pn)) (b₀ :: suite) (tsu X.K m a cls d)) :
    PS X (.Try body [.ExceptHandler (some (.Name x np)) (some n) (b₀ :: suite) pos'] [] [] pos) (tMS (X.K, fz) Wx (stry exm mb [⟨[x], some i, m⟩])) :=
  ⟨fun pins sh sg H D I ⟨g, s, ws, S, rs, h⟩ => (ps_try_as (tb := fun W => tMS (X.K, fz) W mb) hk hf hN hi hl hx' tk hb hh).run pins sh sg H D I ⟨g, s, ws, S, rs, (PostS.tried he hx h).wimp fun _ _ _ _ q => wClz_as q⟩⟩
/-! ### e.f of the caught exception -/
theorem RKs.lookup {K : Kz} {g : Gh} {ws : List (Str × W)} {vs : List (Str × V)} (r : RKs K g ws vs) {f : Str} {w : W} (h : ws.lookup f = some w) : ∃ v, vs.lookup f = some v ∧ RW K g w v := by
  induction r with
  | nil => cases h
  | @cons k' w' v' ws' vs' a t ih =>
    simp only [List.lookup_cons] at h ⊢
    cases e : f == k' with
    | true => rw [e] at h; cases h; exact ⟨_, rfl, a⟩
    | false => rw [e] at h; exact ih h
/-- the fields of the caught exception, its class one of those -/
def xfAt (xcs : List Str) (f : Str) (s : Sto) : W → Option W
  | .ref m => match s[m]? with
    | some (.exn c fs) => if xcs.contains c then fs.lookup f else none
    | _ => none
  | _ => none
def mxf (xcs : List Str) (f : Str) (a : ME) : ME := fun ws s => (a ws s).bind fun x s => match xfAt xcs f s x with
  | some w => .ok w s
  | none => .no
theorem xfAt_ok {K : Kz} {g : Gh} {s : Sto} {H : Hp} {w y : W} {v : V} {xcs : List Str} {f : Str} {n : Nat} {a : Addr} {cls : Value} {d : Option Addr} (he : K.2.ex = some (n, a, cls, d)) (S : Sim K g s H) (r : RW K g w v) (e : xfAt xcs f s w = some y) :
    ∃ c dd fs u, c ∈ xcs ∧ v = .ref a ∧ cls = .ref (He.ga K.1 c) ∧ d = some dd ∧ H dd = some (.xd fs) ∧ fs.lookup f = some u ∧ RW K g y u := by
  unfold xfAt at e
  split at e
  · split at e
    · rename_i m _ c fs em
      split at e
      · rename_i hc
        cases r with
        | ref ea =>
          obtain ⟨n', d', vs, q1, q2, q3⟩ := S.at_ _ _ _ em ea
          rw [he] at q1
          cases q1
          obtain ⟨u, h1, h2⟩ := q2.lookup e
          exact ⟨c, d', vs, u, by simpa using hc, rfl, rfl, rfl, S.xdF q3, h1, h2⟩
      · cases e
    · cases e
  · cases e
end
section
variable {X : Cx} {f : Gz} {n : Nat} {a C : Addr} {c : Str} {oe : Obj} {cls : Value} {d : Option Addr} {pn : List (Addr × Obj)} {e : Expr} {me : ME} {pos : Pos} {fl : Str} {Wx : WX}
theorem pm_xf {xcs : List Str} (hne : xcs ≠ []) (hC : ∀ c ∈ xcs, XfC X.K (He.ga X.K c) ∧ PySem.W.findIn X.K (.ref (He.ga X.K c)) fl = some none) (hz : Zc cls d oe) (hv : ∃ vs, oe.data = Data.fields vs)
    (he : PE (X.suite a ((a, oe) :: pn)) e (tM (X.K, f.withX (some (n, a, cls, d))) Wx me)) (hb : attributeBase e fl X.env (eval e X.env) = eval e X.env) :
    PE (X.suite a ((a, oe) :: pn)) (.Attribute e fl pos) (tM (X.K, f.withX (some (n, a, cls, d))) Wx (mxf xcs fl me)) := by
  refine ⟨fun pins sh sg H Q I ⟨g, s, ws, S, rs, h⟩ => ?_⟩
  have key : ∀ C : Addr, (∀ c ∈ xcs, cls = .ref (He.ga X.K c) → C = He.ga X.K c) → XfC X.K C → PySem.W.findIn X.K (.ref C) fl = some none → wpAny (model (X.suite a ((a, oe) :: pn)).prog (X.suite a ((a, oe) :: pn)).w) (X.suite a ((a, oe) :: pn)).A (eval (.Attribute e fl pos) (X.suite a ((a, oe) :: pn)).env) (EP (X.suite a ((a, oe) :: pn)) pins sg Q) (X.suite a ((a, oe) :: pn)).xe sh := by
    intro C hcl hx hn
    refine (pe_xf hx hn hz hv he hb).run pins sh sg H Q I ?_
    refine ⟨g, s, ws, S, rs, h.bind.imp fun x g1 s1 H1 p1 S1 h1 v rv => ?_⟩
    split at h1
    · rename_i y ey
      obtain ⟨c, dd, fs, u, q0, q1, q2, q3, q4, q5, q6⟩ := xfAt_ok (K := (X.K, f.withX (some (n, a, cls, d)))) rfl S1 rv ey
      exact ⟨q1, by rw [hcl c q0 q2]; exact q2, dd, fs, u, q3, q4, q5, h1 g1 H1 Le.rfl S1 u q6⟩
    · exact h1.elim
  by_cases hc : ∃ c ∈ xcs, cls = .ref (He.ga X.K c)
  · obtain ⟨c, h1, h2⟩ := hc
    exact key (He.ga X.K c) (fun c' _ h3 => by rw [h2] at h3; exact Value.ref.inj h3) (hC c h1).1 (hC c h1).2
  · cases xcs with
    | nil => exact absurd rfl hne
    | cons c0 r => exact key (He.ga X.K c0) (fun c' h1 h2 => absurd ⟨c', h1, h2⟩ hc) (hC c0 (by simp)).1 (hC c0 (by simp)).2
end
end Va

/-! Vac: fields read and stored, constants of classes, methods. -/
namespace Va
open PySem PySem.Spec PyProof.Rows L2
section
variable {X : Cx} {fz : Gz} {Wx : WX} {o e : Expr} {mo me : ME} {ms mk : MA} {f : Str} {pos pos' ap : Pos} {cs : List Str}
/-- o.f, a field -/
def fldAt (cs : List Str) (f : Str) (s : Sto) (w : W) : Option W := match insAt s w with
  | some (c, fs) => if cs.contains c then fs.lookup f else none
  | none => none
def mfld (cs : List Str) (f : Str) (a : ME) : ME := fun ws s => (a ws s).bind fun x s => match fldAt cs f s x with
  | some w => .ok w s
  | none => .no
def FldOk (K : PySem.W.Frag) (cs : List Str) (f : Str) : Prop := ∀ c ∈ cs, Cls K (He.ga K c) ∧ NoAttr K (He.ga K c) f
theorem pm_fld (hc : FldOk X.K cs f) (ho : PE X o (tM (X.K, fz) Wx mo)) (hb : attributeBase o f X.env (eval o X.env) = eval o X.env) : PE X (.Attribute o f pos) (tM (X.K, fz) Wx (mfld cs f mo)) := by
  refine ⟨fun pins sh sg H Q I ⟨g, s, ws, S, rs, h⟩ => (pe_fld ho hb).run pins sh sg H Q I ?_⟩
  refine ⟨g, s, ws, S, rs, h.bind.imp fun x g1 s1 H1 p1 S1 h1 v rv => ?_⟩
  split at h1
  · rename_i w ew
    unfold fldAt at ew
    split at ew
    · rename_i c fs ei
      split at ew
      · rename_i hcc
        obtain ⟨a, dx, vs, rfl, rk, hH⟩ := insAt_ok S1 rv ei
        obtain ⟨u, hu, ru⟩ := rk.lookup ew
        obtain ⟨k1, k2⟩ := hc c (by simpa using hcc)
        exact ⟨a, _, dx, vs, u, rfl, hH, k1, k2, hu, h1 g1 H1 Le.rfl S1 u ru⟩
      · cases ew
    · cases ew
  · exact h1.elim
/-- o.f, a constant of the class -/
def conAt (tb : List (Str × W)) (f : Str) (s : Sto) (w : W) : Option W := match insAt s w with
  | some (c, fs) => (match fs.lookup f with
    | none => tb.lookup c
    | some _ => none)
  | none => none
def mcon (tb : List (Str × W)) (f : Str) (a : ME) : ME := fun ws s => (a ws s).bind fun x s => match conAt tb f s x with
  | some w => .ok w s
  | none => .no
def ConOk (K : PySem.W.Frag) (tb : List (Str × W)) (f : Str) : Prop := ∀ q ∈ tb, Cls K (He.ga K q.1) ∧ ∃ v u, Con K (He.ga K q.1) f v u ∧ ∀ fz g, RW (K, fz) g q.2 v
theorem lookup_mem {κ α : Type} [BEq κ] [LawfulBEq κ] {l : List (κ × α)} {k : κ} {a : α} (h : l.lookup k = some a) : (k, a) ∈ l := by
  induction l with
  | nil => cases h
  | cons q l ih =>
    obtain ⟨k', a'⟩ := q
    simp only [List.lookup_cons] at h
    cases e : k == k' with
    | true =>
      rw [e] at h; cases h
      rw [eq_of_beq e]; exact List.mem_cons_self
    | false => rw [e] at h; exact List.mem_cons_of_mem _ (ih h)
theorem RKs.lookup_none {K : Kz} {g : Gh} {ws : List (Str × W)} {vs : List (Str × V)} (r : RKs K g ws vs) {f : Str} (h : ws.lookup f = none) : vs.lookup f = none := by
  induction r with
  | nil => rfl
  | @cons k' w' v' ws' vs' a t ih =>
    simp only [List.lookup_cons] at h ⊢
    cases e : f == k' with
    | true => rw [e] at h; cases h
    | false => rw [e] at h; exact ih h
theorem pm_con {tb : List (Str × W)} (hc : ConOk X.K tb f) (ho : PE X o (tM (X.K, fz) Wx mo)) (hb : attributeBase o f X.env (eval o X.env) = eval o X.env) : PE X (.Attribute o f pos) (tM (X.K, fz) Wx (mcon tb f mo)) := by
  refine ⟨fun pins sh sg H Q I ⟨g, s, ws, S, rs, h⟩ => (pe_con ho hb).run pins sh sg H Q I ?_⟩
  refine ⟨g, s, ws, S, rs, h.bind.imp fun x g1 s1 H1 p1 S1 h1 v rv => ?_⟩
  split at h1
  · rename_i w ew
    unfold conAt at ew
    split at ew
    · rename_i c fs ei
      split at ew
      · rename_i en
        obtain ⟨a, dx, vs, rfl, rk, hH⟩ := insAt_ok S1 rv ei
        obtain ⟨k1, v, u, k2, k3⟩ := hc _ (lookup_mem ew)
        exact ⟨a, _, dx, vs, v, u, rfl, hH, k1, k2, rk.lookup_none en, h1 g1 H1 Le.rfl S1 v (k3 _ _)⟩
      · cases ew
    · cases ew
  · exact h1.elim
/-- o.f = e -/
def putFw (f : Str) (w : W) : List (Str × W) → List (Str × W)
  | [] => [(f, w)]
  | (k, x) :: r => if k = f then (k, w) :: r else (k, x) :: putFw f w r
def setFld (cs : List Str) (f : Str) (x y : W) (s : Sto) : Option Sto := match x with
  | .ref n => (match s[n]? with
    | some (.ins c fs) => if cs.contains c ∧ fs.length < 1000 then some (s.set n (.ins c (putFw f y fs))) else none
    | _ => none)
  | _ => none
def sfld (cs : List Str) (f : Str) (mo mv : ME) : MS := fun ws s => (mv ws s).toS ws fun y s1 => (mo ws s1).toS ws fun x s2 => match setFld cs f x y s2 with
  | some s3 => .nx ws s3
  | none => .no
theorem putFw_ok {K : Kz} {g : Gh} {ws : List (Str × W)} {vs : List (Str × V)} (r : RKs K g ws vs) {f : Str} {w : W} {v : V} (q : RW K g w v) : RKs K g (putFw f w ws) (putF f v vs) := by
  induction r with
  | nil => exact .cons q .nil
  | @cons k' w' v' ws' vs' a t ih =>
    show RKs K g (if k' = f then (k', w) :: ws' else (k', w') :: putFw f w ws') (if k' = f then (k', v) :: vs' else (k', v') :: putF f v vs')
    split
    · exact .cons q t
    · exact .cons a ih
/-- the heap and the store behind o.f = e -/
theorem setFld_ok {K : Kz} {g : Gh} {s s' : Sto} {H : Hp} {x y : W} {xv yv : V} (hc : FldOk K.1 cs f) (S : Sim K g s H) (rx : RW K g x xv) (ry : RW K g y yv) (e : setFld cs f x y s = some s') :
    ∃ a C dx fs, xv = .ref a ∧ H a = some (.ins C dx fs) ∧ Cls K.1 C ∧ NoAttr K.1 C f ∧ fs.length < 1000 ∧ Sim K g s' (upd H a (.ins C dx (putF f yv fs))) := by
  unfold setFld at e
  split at e
  · rename_i n
    split at e
    · rename_i c fs en
      split at e
      · rename_i hcc
        cases e
        cases rx with
        | ref ea =>
          obtain ⟨dx, vs, rk, hH⟩ := S.at_ _ _ _ en ea
          obtain ⟨k1, k2⟩ := hc c (by simpa using hcc.1)
          exact ⟨_, _, dx, vs, rfl, hH, k1, k2, by rw [← rk.length]; exact hcc.2, S.write en ea rfl ⟨dx, _, putFw_ok rk ry, upd_same⟩ rfl⟩
      · cases e
    · cases e
  · cases e
theorem q_fld {mv : ME} (hc : FldOk X.K cs f) (ho : PE X o (tM (X.K, fz) Wx mo)) (he : PE X e (tM (X.K, fz) Wx mv)) (hs : swapsWith e (some (.Attribute o f pos')) pos.line X.env = pure false) : PS X (.Assign [.Attribute o f pos'] e pos) (tMS (X.K, fz) Wx (sfld cs f mo mv)) := by
  refine ⟨fun pins sh sg H D I ⟨g, s, ws, S, rs, h⟩ => (ps_fld ho he hs).run pins sh sg H D I ?_⟩
  refine ⟨g, s, ws, S, rs, (PostS.expr h rs).imp fun y g1 s1 H1 p1 S1 h1 yv ry => ?_⟩
  refine ⟨g1, s1, ws, S1, rs.mono p1, (PostS.expr h1 (rs.mono p1)).imp fun x g2 s2 H2 p2 S2 h2 xv rx => ?_⟩
  split at h2
  · rename_i s3 e3
    obtain ⟨a, C, dx, fs, q1, q2, q3, q4, q5, S3⟩ := setFld_ok hc S2 rx (ry.mono p2) e3
    exact ⟨a, C, dx, fs, q1, q2, q3, q4, q5, h2 g2 _ sg Le.rfl S3 (rs.mono (p1.trans p2))⟩
  · exact h2.elim
/-- o.f op= e -/
def fldC (cs : List Str) (f : Str) (s : Sto) (w : W) : Option (Str × W) := match insAt s w with
  | some (c, fs) => if cs.contains c then (fs.lookup f).map fun u => (c, u) else none
  | none => none
def sfldaug (cs : List Str) (f : Str) (gop : G2) (mo mv : ME) : MS := fun ws s => (mo ws s).toS ws fun x s1 => match fldC cs f s1 x with
  | some (c, u) => (mv ws s1).toS ws fun y s2 => (match gop u y s2 with
    | some (z, s3) => (match setFld [c] f x z s3 with
      | some s4 => .nx ws s4
      | none => .no)
    | none => .no)
  | none => .no
theorem setFld_c {K : Kz} {g : Gh} {s s' : Sto} {H : Hp} {x y : W} {xv yv : V} {c : Str} (hc : FldOk K.1 [c] f) (S : Sim K g s H) (rx : RW K g x xv) (ry : RW K g y yv) (e : setFld [c] f x y s = some s') :
    ∃ a dx fs, xv = .ref a ∧ H a = some (.ins (He.ga K.1 c) dx fs) ∧ fs.length < 1000 ∧ Sim K g s' (upd H a (.ins (He.ga K.1 c) dx (putF f yv fs))) := by
  unfold setFld at e
  split at e
  · rename_i n
    split at e
    · rename_i c' fs en
      split at e
      · rename_i hcc
        cases e
        have ec : c' = c := by simpa using hcc.1
        subst ec
        cases rx with
        | ref ea =>
          obtain ⟨dx, vs, rk, hH⟩ := S.at_ _ _ _ en ea
          exact ⟨_, dx, vs, rfl, hH, by rw [← rk.length]; exact hcc.2, S.write en ea rfl ⟨dx, _, putFw_ok rk ry, upd_same⟩ rfl⟩
      · cases e
    · cases e
  · cases e
theorem q_fldaug {mv : ME} {op : Operator} {rd : V → V → Hp → VK → Prop} {gop : G2} {tpos : Pos} (hc : FldOk X.K cs f) (hop : InOp X op rd) (L : Lift2 (X.K, fz) rd gop) (ho : PE X o (tM (X.K, fz) Wx mo)) (he : PE X e (tM (X.K, fz) Wx mv)) : PS X (.AugAssign (.Attribute o f tpos) op e pos) (tMS (X.K, fz) Wx (sfldaug cs f gop mo mv)) := by
  refine ⟨fun pins sh sg H D I ⟨g, s, ws, S, rs, h⟩ => (ps_fldaug ho he hop).run pins sh sg H D I ?_⟩
  refine ⟨g, s, ws, S, rs, (PostS.expr h rs).imp fun x g1 s1 H1 p1 S1 h1 xv rx => ?_⟩
  split at h1
  · rename_i c u eu
    unfold fldC at eu
    split at eu
    · rename_i c' fs ei
      split at eu
      · rename_i hcc
        obtain ⟨u', eu', e2⟩ := Option.map_eq_some_iff.mp eu
        cases e2
        obtain ⟨a, dx, vs, rfl, rk, hH⟩ := insAt_ok S1 rx ei
        obtain ⟨uv, hu, ru⟩ := rk.lookup eu'
        obtain ⟨k1, k2⟩ := hc c (by simpa using hcc)
        refine ⟨a, _, dx, vs, uv, rfl, hH, k1, k2, hu, g1, s1, ws, S1, rs.mono p1, (PostS.expr h1 (rs.mono p1)).imp fun y g2 s2 H2 p2 S2 h2 yv ry => ?_⟩
        split at h2
        · rename_i z s3 ez
          refine L g2 s2 s3 H2 u y z uv yv _ S2 (ru.mono p2) ry ez fun g3 H3 p3 S3 zv rz => ?_
          split at h2
          · rename_i s4 e4
            obtain ⟨a', dx', fs', r1, r2, r5, S4⟩ := setFld_c (fun c' h' => by rw [List.mem_singleton.mp h']; exact ⟨k1, k2⟩) S3 (rx.mono (p2.trans p3)) rz e4
            cases r1
            exact ⟨dx', fs', r2, r5, h2 g3 _ sg p3 S4 (rs.mono (p1.trans (p2.trans p3)))⟩
          · exact h2.elim
        · exact h2.elim
      · cases eu
    · cases eu
  · exact h1.elim
end
/-! ### methods -/
section
variable {X : Cx} {fz : Gz} {Wx : WX} {o e : Expr} {es : List Expr} {kws : List Keyword} {mo me : ME} {ms mk : MA} {m : Str} {pos ap : Pos}
/-- the method m of the value's class -/
def metAt (tb : List (Str × MF)) (m : Str) (s : Sto) (w : W) : Option MF := match insAt s w with
  | some (c, fs) => (match fs.lookup m with
    | none => tb.lookup c
    | some _ => none)
  | none => none
/-- o.m(..) -/
def mmeth (tb : List (Str × MF)) (m : Str) (mo : ME) (a : MA) : ME := fun ws s => (mo ws s).bind fun x s1 => match metAt tb m s1 x with
  | some t => (a ws s1).bind fun xs s2 => t (x :: xs) [] s2
  | none => .no
def mmethK (tb : List (Str × MF)) (m : Str) (ks : List Str) (mo : ME) (a b : MA) : ME := fun ws s => (mo ws s).bind fun x s1 => match metAt tb m s1 x with
  | some t => (a ws s1).bind fun xs s2 => (b ws s2).bind fun zs s3 => if zs.length = ks.length then t (x :: xs) (ks.zip zs) s3 else .no
  | none => .no
def MetOk (X : Cx) (fz : Gz) (Wx : WX) (tb : List (Str × MF)) (m : Str) : Prop := ∀ q ∈ tb, Cls X.K (He.ga X.K q.1) ∧ ∃ f, Meth X.K (He.ga X.K q.1) m f ∧ RunC X fz Wx (.ref f) q.2
theorem metAt_ok {K : Kz} {g : Gh} {s : Sto} {H : Hp} {x : W} {v : V} {t : MF} {tb : List (Str × MF)} (S : Sim K g s H) (rv : RW K g x v) (e : metAt tb m s x = some t) : ∃ a c dx fs, v = .ref a ∧ H a = some (.ins (He.ga K.1 c) dx fs) ∧ (c, t) ∈ tb ∧ fs.lookup m = none := by
  unfold metAt at e
  split at e
  · rename_i c fs ei
    split at e
    · rename_i en
      obtain ⟨a, dx, vs, rfl, rk, hH⟩ := insAt_ok S rv ei
      exact ⟨a, c, dx, vs, rfl, hH, lookup_mem e, rk.lookup_none en⟩
    · cases e
  · cases e
/-- the receiver, its method, then what is to hold of the arguments -/
theorem meth_recv {tb : List (Str × MF)} (hm : MetOk X fz Wx tb m) (ho : PE X o (tM (X.K, fz) Wx mo)) {pins : List (Addr × Obj)} {sg : L2.St} {H : Hp} {sh : Shared} {Q : VK} {g : Gh} {s : Sto} {ws : Loc} (S : Sim (X.K, fz) g s H) (rs : RSt (X.K, fz) g ws sg) (I : Inv X pins sg H sh) {cont : MF → W → Sto → R W}
    (h : Post (X.K, fz) Wx g sg (PW1 (X.K, fz) Q) ((mo ws s).bind fun x s1 => match metAt tb m s1 x with
      | some t => cont t x s1
      | none => .no)) {args : List Expr}
    (hc : eval (.Call (.Attribute o m ap) args kws pos) X.env = (do
      let ov ← eval o X.env
      standAt ap.atName
      let (f, first) ← holding [ov] (getMethod ov m (plainOf o X.env))
      callWith pos f first (backTo pos (starEach args X.env)) (backToKw pos (keywordEach kws X.env))))
    (go : ∀ (g1 : Gh) (s1 : Sto) (H1 : Hp) (sh1 : Shared) (x : W) (a : Addr) (t : MF) (f : Addr), Le g g1 → Sim (X.K, fz) g1 s1 H1 → Inv X pins sg H1 sh1 → RW (X.K, fz) g1 x (.ref a) → PySem.W.keepIn X.K (.ref f) = true → RunC X fz Wx (.ref f) t → Post (X.K, fz) Wx g1 sg (PW1 (X.K, fz) Q) (cont t x s1) →
      wpAny (model X.prog X.w) X.A (callWith pos (.ref f) [.ref a] (backTo pos (starEach args X.env)) (backToKw pos (keywordEach kws X.env))) (EP X pins sg Q) X.xe sh1) :
    wpAny (model X.prog X.w) X.A (eval (.Call (.Attribute o m ap) args kws pos) X.env) (EP X pins sg Q) X.xe sh := by
  refine PySem.W.methodCall_KW (thn (ho.run pins sh sg H (fun v H1 => ∃ g1 s1 x t, Le g g1 ∧ Sim (X.K, fz) g1 s1 H1 ∧ RW (X.K, fz) g1 x v ∧ metAt tb m s1 x = some t ∧ Post (X.K, fz) Wx g1 sg (PW1 (X.K, fz) Q) (cont t x s1)) I ⟨g, s, ws, S, rs, h.bind.imp fun x g1 s1 H1 p1 S1 h1 v rv => ?_⟩)
    fun ov sh1 ⟨v, H1, I1, rv, g1, s1, x, t, p1, S1, rx, et, h1⟩ => ?_) hc
  · split at h1
    · rename_i t et
      exact ⟨g1, s1, x, t, p1, S1, rv, et, h1⟩
    · exact h1.elim
  · obtain ⟨a, c, dx, fs, rfl, hH, hmem, hlk⟩ := metAt_ok S1 rx et
    obtain ⟨k1, f, k2, k3⟩ := hm _ hmem
    obtain rfl : ov = Value.ref a := rv
    exact getmeth_ok I1 hH k1 k2 hlk (go g1 s1 H1 sh1 x a t f p1 S1 I1 rx k2.kp k3 h1)
theorem pm_meth {tb : List (Str × MF)} (hm : MetOk X fz Wx tb m) (ho : PE X o (tM (X.K, fz) Wx mo)) (ha : PA X (e :: es) (tMs (X.K, fz) Wx ms))
    (hc : eval (.Call (.Attribute o m ap) (e :: es) [] pos) X.env = (do
      let ov ← eval o X.env
      standAt ap.atName
      let (f, first) ← holding [ov] (getMethod ov m (plainOf o X.env))
      callWith pos f first (backTo pos (starEach (e :: es) X.env)) (backToKw pos (keywordEach [] X.env))))
    (he : starEach (e :: es) X.env = (false, eval e X.env) :: starEach es X.env) (hpl : (backTo pos (starEach es X.env)).any (·.1) = false) : PE X (.Call (.Attribute o m ap) (e :: es) [] pos) (tM (X.K, fz) Wx (mmeth tb m mo ms)) := by
  refine ⟨fun pins sh sg H Q I ⟨g, s, ws, S, rs, h⟩ => ?_⟩
  refine meth_recv hm ho S rs I (cont := fun t x s1 => (ms ws s1).bind fun xs s2 => t (x :: xs) [] s2) h hc fun g1 s1 H1 sh1 x a t f p1 S1 I1 rx hk R h1 => ?_
  refine PySem.W.callWith_K (h₀ := X.base) I.ok.mod.kin hk ?_ he hpl
  exact thn (ha.run pos pins sh1 sg H1 (fun vs H2 => ∀ us sh, Inv X pins sg H2 sh → Vals vs us → wpAny (model X.prog X.w) X.A (call (.ref f) (Value.ref a :: us)) (EP X pins sg Q) X.xe sh) I1
    ⟨g1, s1, ws, S1, rs.mono p1, h1.bind.imp fun xs g2 s2 H2 p2 S2 h2 vs rv us sh I r => R pins sg H2 sh Q (Value.ref a :: us) [] (V.ref a :: vs) [] (x :: xs) [] g2 s2 I (.cons rfl r) .nil S2 (.cons (rx.mono p2) rv) .nil h2⟩)
    fun us s2 ⟨vs, H2, I2, r, q⟩ => ⟨I2.kIn, q us s2 I2 r⟩
theorem pm_meth0 {tb : List (Str × MF)} (hm : MetOk X fz Wx tb m) (ho : PE X o (tM (X.K, fz) Wx mo))
    (hc : eval (.Call (.Attribute o m ap) [] [] pos) X.env = (do
      let ov ← eval o X.env
      standAt ap.atName
      let (f, first) ← holding [ov] (getMethod ov m (plainOf o X.env))
      callWith pos f first (backTo pos (starEach [] X.env)) (backToKw pos (keywordEach [] X.env)))) : PE X (.Call (.Attribute o m ap) [] [] pos) (tM (X.K, fz) Wx (mmeth tb m mo mnil)) := by
  refine ⟨fun pins sh sg H Q I ⟨g, s, ws, S, rs, h⟩ => ?_⟩
  refine meth_recv hm ho S rs I (cont := fun t x s1 => (mnil ws s1).bind fun xs s2 => t (x :: xs) [] s2) h hc fun g1 s1 H1 sh1 x a t f p1 S1 I1 rx hk R h1 => ?_
  exact PySem.W.callWith_K0 I1.kIn hk (R pins sg H1 sh1 Q [Value.ref a] [] [V.ref a] [] [x] [] g1 s1 I1 (.cons rfl .nil) .nil S1 (.cons rx .nil) .nil h1)
theorem pm_methK {tb : List (Str × MF)} {ks : List Str} (hm : MetOk X fz Wx tb m) (ho : PE X o (tM (X.K, fz) Wx mo)) (ha : PA X (e :: es) (tMs (X.K, fz) Wx ms)) (hkw : PK X kws (tMs (X.K, fz) Wx mk))
    (hc : eval (.Call (.Attribute o m ap) (e :: es) kws pos) X.env = (do
      let ov ← eval o X.env
      standAt ap.atName
      let (f, first) ← holding [ov] (getMethod ov m (plainOf o X.env))
      callWith pos f first (backTo pos (starEach (e :: es) X.env)) (backToKw pos (keywordEach kws X.env))))
    (hall : (backToKw pos (keywordEach kws X.env)).all (·.1.isSome) = true) (hks : (backToKw pos (keywordEach kws X.env)).filterMap (·.1) = ks)
    (he : starEach (e :: es) X.env = (false, eval e X.env) :: starEach es X.env) (hpl : ((backTo pos (starEach (e :: es) X.env)).any (·.1) || (backToKw pos (keywordEach kws X.env)).any (·.1.isNone)) = false) :
    PE X (.Call (.Attribute o m ap) (e :: es) kws pos) (tM (X.K, fz) Wx (mmethK tb m ks mo ms mk)) := by
  refine ⟨fun pins sh sg H Q I ⟨g, s, ws, S, rs, h⟩ => ?_⟩
  refine meth_recv hm ho S rs I (cont := fun t x s1 => (ms ws s1).bind fun xs s2 => (mk ws s2).bind fun zs s3 => if zs.length = ks.length then t (x :: xs) (ks.zip zs) s3 else .no) h hc fun g1 s1 H1 sh1 x a t f p1 S1 I1 rx hk R h1 => ?_
  refine PySem.W.callWith_KW (h₀ := X.base) I.ok.mod.kin hk hall (thn (ha.run pos pins sh1 sg H1 (fun vs H2 => ∀ us, Vals vs us → tMs (X.K, fz) Wx mk sg H2 fun zs H3 => ∀ kus sh, Inv X pins sg H3 sh → Vals zs kus → wpAny (model X.prog X.w) X.A (call (.ref f) (Value.ref a :: us) (ks.zip kus)) (EP X pins sg Q) X.xe sh) I1
    ⟨g1, s1, ws, S1, rs.mono p1, h1.bind.imp fun xs g2 s2 H2 p2 S2 h2 vs rv us r => ⟨g2, s2, ws, S2, rs.mono (p1.trans p2), h2.bind.imp fun zs g3 s3 H3 p3 S3 h3 vz rz kus sh I rk => ?_⟩⟩) fun us s2 ⟨vs, H2, I2, r, q⟩ => ?_) hpl he
  · split at h3
    · rename_i hl
      exact R pins sg H3 sh Q (Value.ref a :: us) _ (V.ref a :: vs) _ (x :: xs) _ g3 s3 I (.cons rfl r) (kv_zip rk) S3 (.cons (rx.mono (p2.trans p3)) (rv.mono p3)) (RKs.zip (by rw [← rz.length]; exact hl.symm) rz) h3
    · exact h3.elim
  · refine thn (hkw.run pos pins s2 sg H2 _ I2 (q us r)) fun kus s3 ⟨zs, H3, I3, rz, q2⟩ => ⟨I3.kIn, ?_⟩
    rw [hks]
    exact q2 kus s3 I3 rz
theorem pm_methK0 {tb : List (Str × MF)} {ks : List Str} (hm : MetOk X fz Wx tb m) (ho : PE X o (tM (X.K, fz) Wx mo)) (hkw : PK X kws (tMs (X.K, fz) Wx mk))
    (hc : eval (.Call (.Attribute o m ap) [] kws pos) X.env = (do
      let ov ← eval o X.env
      standAt ap.atName
      let (f, first) ← holding [ov] (getMethod ov m (plainOf o X.env))
      callWith pos f first (backTo pos (starEach [] X.env)) (backToKw pos (keywordEach kws X.env))))
    (hall : (backToKw pos (keywordEach kws X.env)).all (·.1.isSome) = true) (hks : (backToKw pos (keywordEach kws X.env)).filterMap (·.1) = ks)
    (hpl : ((backTo pos (starEach [] X.env)).any (·.1) || (backToKw pos (keywordEach kws X.env)).any (·.1.isNone)) = false) :
    PE X (.Call (.Attribute o m ap) [] kws pos) (tM (X.K, fz) Wx (mmethK tb m ks mo mnil mk)) := by
  refine ⟨fun pins sh sg H Q I ⟨g, s, ws, S, rs, h⟩ => ?_⟩
  refine meth_recv hm ho S rs I (cont := fun t x s1 => (mnil ws s1).bind fun xs s2 => (mk ws s2).bind fun zs s3 => if zs.length = ks.length then t (x :: xs) (ks.zip zs) s3 else .no) h hc fun g1 s1 H1 sh1 x a t f p1 S1 I1 rx hk R h1 => ?_
  have h2 : Post (X.K, fz) Wx g1 sg (PW1 (X.K, fz) Q) ((mk ws s1).bind fun zs s3 => if zs.length = ks.length then t [x] (ks.zip zs) s3 else .no) := h1
  refine PySem.W.callWith_KW0 (h₀ := X.base) I.ok.mod.kin hk hall (thn (hkw.run pos pins sh1 sg H1 (fun zs H3 => ∀ kus sh, Inv X pins sg H3 sh → Vals zs kus → wpAny (model X.prog X.w) X.A (call (.ref f) [Value.ref a] (ks.zip kus)) (EP X pins sg Q) X.xe sh) I1
    ⟨g1, s1, ws, S1, rs.mono p1, h2.bind.imp fun zs g3 s3 H3 p3 S3 h3 vz rz kus sh I rk => ?_⟩) fun kus s3 ⟨zs, H3, I3, rz, q2⟩ => ⟨I3.kIn, ?_⟩) hpl
  · split at h3
    · rename_i hl
      exact R pins sg H3 sh Q [Value.ref a] _ [V.ref a] _ [x] _ g3 s3 I (.cons rfl .nil) (kv_zip rk) S3 (.cons (rx.mono p3) .nil) (RKs.zip (by rw [← rz.length]; exact hl.symm) rz) h3
    · exact h3.elim
  · rw [hks]
    exact q2 kus s3 I3 rz
end
end Va

/-! Vad: dict comprehensions. -/
namespace Va
open PySem PySem.Spec PyProof.Rows L2
/-! ### {k: v for t in it if c} -/
def loopD (gd : List (Nat × O)) (t : Tgt) (c : MT) (ek ev : ME) (ws : Loc) : List W → List (Key × W) → Sto → R (List (Key × W))
  | [], acc => fun s => if gdOk gd s then .ok acc s else .no
  | x :: xs, acc => fun s => if gdOk gd s then (match t.put x ws with
      | none => .no
      | some ws2 => (c ws2 s).cl.bind fun k s2 => if k = true then (ek ws2 s2).cl.bind fun y s3 => (ev ws2 s3).cl.bind fun z s4 => (match keyW y with
        | some q => if acc.length < 16777216 then loopD gd t c ek ev ws xs (putW acc q z) s4 else .no
        | none => .no) else loopD gd t c ek ev ws xs acc s2) else .no
def mdc (mu : Bool) (mi : MI) (t : Tgt) (c : MT) (ek ev : ME) (vs : List Nat) : ME := fun ws s => (mi ws s).bind fun k s1 => ((loopD k.gd t c ek ev (wipeW ws vs) k.xs [] (k.op s1)).fin k).bind fun ys s => R.of (newD mu ys s)
theorem dict_out {X : Cx} {fz fz2 : Gz} {g0 g : Gh} {s0 s s' : Sto} {H0 H : Hp} {J : It} {k : Wk} {D : Addr} {acc : List (Key × W)} {vs : List (Key × V)} {mu : Bool} {w : W} {s3 : Sto} (O : Opn X fz g0 k s0 J fz2 H0) (hD : H0 D = none) (le : Le g0 g) (S : Sim (X.K, fz2.own D (.dK vs)) g s H) (rv : RKs (X.K, fz) g acc vs) (hc : k.cl s = some s') (hn : newD mu acc s' = some (w, s3)) {P : Hp → Prop}
    (h : ∀ g2 H2, Le g g2 → Sim (X.K, fz) g2 s3 H2 → RW (X.K, fz) g2 w (.ref D) → P H2) : Ul X P H := by
  have hpv : fz2.pv D = none := by
    cases e : fz2.pv D with
    | none => rfl
    | some u => have := (O.sim.pv D u e).1; rw [hD] at this; cases this
  have hpv' : fz.pv D = none := by rw [← O.pv]; exact hpv
  have hlk : fz.lk D = none := O.ln D hD
  have e2 : (⟨fz2.lk, (fz2.own D (.dK vs)).pv, fz2.ex⟩ : Gz) = fz2.own D (.dK vs) := rfl
  have e1 : (⟨fz.lk, (fz2.own D (.dK vs)).pv, fz.ex⟩ : Gz) = fz.own D (.dK vs) := by unfold Gz.own; rw [O.pv]
  have u := O.cl (fz2.own D (.dK vs)).pv g s s' H le (by rw [e2]; exact S) hc
  rw [e1] at u
  have fin : ∀ {H2 : Hp}, Sim (X.K, fz.own D (.dK vs)) g s' H2 → P H2 := fun {H2} S2 => by
    obtain ⟨S3, h1, h2, h3⟩ := S2.unhide hpv'
    unfold newD at hn
    split at hn
    · cases hn
      have S4 := S3.enter (o := .dic acc) ⟨vs, rv.mono (le_snoc _ _), h1, hlk⟩ h2 h3 hpv'
      exact h _ _ (le_snoc _ _) S4 (.ref (snoc_at S3.len D))
    · cases hn
      have S4 := S3.adopt h1 h2 h3 hpv' (lockd_none hlk)
      refine h _ _ (le_fix h2) S4 (.nd ((rv.split.2).mono (le_fix h2)) ⟨by simp [rv.length], ?_⟩)
      rw [rv.split.1, zip_maps]
      exact upd_same
  exact u.imp fin fun ⟨d, od, v, a, b, u⟩ => ⟨d, od, v, a, b, fin u⟩
section
variable {X : Cx} {fz : Gz} {Wx : WX} {kx vx tg iter : Expr} {ifs : List Expr} {scope : Scope} {own : List (Str × Nat)} {pos : Pos} {mi : MI} {t : Tgt} {c : MT} {ek ev : ME} {mu : Bool}
theorem tDc_ok {sg : L2.St} {H : Hp} {Q : VK} {al : Gh} {s : Sto} {ws : Loc} {vs : List Nat} (hv : t.sub vs = true) (S : Sim (X.K, fz) al s H) (rs : RSt (X.K, fz) al ws sg) (h : Post (X.K, fz) Wx al sg (PW1 (X.K, fz) Q) (mdc mu mi t c ek ev vs ws s)) :
    tDc (tMI X fz Wx mi) (t.g (X.K, fz)) (tMtx X fz c) (tMx X fz ek) (tMx X fz ev) vs sg H (fun v H' => Ul X (Q v) H') := by
  refine ⟨al, s, ws, S, rs, (Post.bind h).imp fun k al1 s1 H1 p1 S1 h1 J fz2 H2 O D hD => ?_⟩
  refine ⟨fun i m H' => ∃ al' s' acc us, Le al1 al' ∧ Sim (X.K, fz2.own D (.dK us)) al' s' H' ∧ RKs (X.K, fz) al' acc us ∧ m = k.xs.length - i ∧ Post (X.K, fz) Wx al' sg (PW1 (X.K, fz) Q) (((loopD k.gd t c ek ev (wipeW ws vs) (k.xs.drop i) acc s').fin k).bind fun ys s => R.of (newD mu ys s)), ⟨_, al1, _, [], [], Le.rfl, O.sim.hide hD, .nil, rfl, h1⟩, ?_⟩
  rintro i m H' ⟨al', s', acc, us, p, S', ra, em, q⟩
  cases hd : k.xs.drop i with
  | nil =>
    rw [hd] at q
    unfold loopD at q
    split at q
    · rename_i eg
      refine .inl ⟨(O.it _).stop i s' H' al' p S' eg (List.drop_eq_nil_iff.mp hd), ?_⟩
      have q : Post (X.K, fz) Wx al' sg (PW1 (X.K, fz) Q) ((match k.cl s' with
        | some s' => R.ok acc s'
        | none => .no).bind fun ys s => R.of (newD mu ys s)) := q
      cases ec : k.cl s' with
      | none => rw [ec] at q; exact q.elim
      | some s3 =>
        rw [ec] at q
        obtain ⟨w, s4, en, q⟩ := (show Post (X.K, fz) Wx al' sg (PW1 (X.K, fz) Q) (R.of (newD mu acc s3)) from q).of
        exact dict_out O hD p S' ra ec en fun g2 H2 le S2 rw' => q g2 H2 le S2 _ rw'
    · exact q.elim
  | cons x xs =>
    have hx : k.xs[i]? = some x := by rw [← List.head?_drop, hd]; rfl
    have hlt : i < k.xs.length := (List.getElem?_eq_some_iff.mp hx).1
    have hd' : k.xs.drop (i + 1) = xs := by rw [← List.tail_drop, hd]; rfl
    rw [hd] at q
    unfold loopD at q
    split at q
    · rename_i eg
      obtain ⟨go, yl⟩ := (O.it _).go i s' H' al' x p S' eg hx
      refine .inr ⟨go, fun H2 => ∃ al2 s2 acc2 us2, Le al1 al2 ∧ Sim (X.K, fz2.own D (.dK us2)) al2 s2 H2 ∧ RKs (X.K, fz) al2 acc2 us2 ∧ Post (X.K, fz) Wx al2 sg (PW1 (X.K, fz) Q) (((loopD k.gd t c ek ev (wipeW ws vs) xs acc2 s2).fin k).bind fun ys s => R.of (newD mu ys s)), fun H2 ⟨a2, b2, c2, d2, e2, f2, g2, h2⟩ => ⟨k.xs.length - (i + 1), by omega, a2, b2, c2, d2, e2, f2, g2, rfl, by rw [hd']; exact h2⟩, fun y H2 hy => ?_⟩
      obtain ⟨al2, p2, S2, rx⟩ := yl y H2 hy
      cases ep : t.put x (wipeW ws vs) with
      | none => rw [ep] at q; exact q.elim
      | some ws2 =>
        rw [ep] at q
        have q := Post.clX (K' := (X.K, fz2.own D (.dK us))) (sg' := sg) (Wx := Wx) (fun r => (r.fin k).bind fun ys s => R.of (newD mu ys s)) rfl (q.mono p2)
        have rs2 : RSt (X.K, fz2.own D (.dK us)) al2 (wipeW ws vs) (L2.wipe sg vs) := ((rs.mono (p1.trans (p.trans p2))).wipe vs).fz
        refine Tgt.put_ok (K := (X.K, fz2.own D (.dK us))) hv S2 rx rs2 (wipe_idem sg vs) ep fun σ3 rs3 ew => ⟨ew, ?_⟩
        refine ⟨fz2.own D (.dK us), O.ex, al2, s', ws2, S2, rs3, q.imp fun kk al3 s3 H3 p3 S3 h3 => ?_⟩
        cases kk with
        | false =>
          rw [if_neg Bool.false_ne_true] at h3
          exact iteF ⟨al3, s3, acc, us, p.trans (p2.trans p3), S3, ra.mono (p2.trans p3), h3⟩
        | true =>
          rw [if_pos rfl] at h3
          refine iteT ⟨fz2.own D (.dK us), O.ex, al3, s3, ws2, S3, rs3.mono p3, (Post.clX (K' := (X.K, fz2.own D (.dK us))) (sg' := sg) (fun r => (r.fin k).bind fun ys s => R.of (newD mu ys s)) rfl h3).imp fun kw al4 s4 H4 p4 S4 h4 kv rk => ?_⟩
          refine ⟨fz2.own D (.dK us), O.ex, al4, s4, ws2, S4, rs3.mono (p3.trans p4), (Post.clX (K' := (X.K, fz2.own D (.dK us))) (sg' := sg) (fun r => (r.fin k).bind fun ys s => R.of (newD mu ys s)) rfl h4).imp fun yw al5 s5 H5 p5 S5 h5 v rv => ?_⟩
          have hH := (S5.pv D _ upd_same).1
          split at h5
          · rename_i qk eq
            split at h5
            · rename_i hl
              have ra5 := ra.mono (p2.trans (p3.trans (p4.trans p5)))
              have ek := keyW_ok eq rk
              exact ⟨us, qk, ek, hH, by rw [← ra.length, line_eq]; exact hl, al5, s5, putW acc qk yw, putK us qk v, p.trans (p2.trans (p3.trans (p4.trans p5))), S5.rehide, putW_ok ra5 rv.fz, h5⟩
            · exact h5.elim
          · exact h5.elim
    · exact q.elim
theorem pm_dc (hc : X.calm = true) (hN : X.N.Nodup) (hi : PI X tg iter (tMI X fz Wx mi)) (ok : BlkOk X.N X.env.scope scope own) (hv : t.sub (own.map (·.2)) = true)
    (hg : ∀ (s : Shared) (H : Hp) (C : Addr) (cl : List (Str × Addr)) (fp : List Addr), PG (X.blk s H scope (compEnvC scope cl C X.env) fp) tg (t.g (X.K, fz))) (ht : ∀ (fz2 : Gz), fz2.ex = fz.ex → ∀ (s : Shared) (H : Hp) (C : Addr) (cl : List (Str × Addr)) (fp : List Addr), PTs (X.blk s H scope (compEnvC scope cl C X.env) fp) ifs (tMt (X.K, fz2) WxF c))
    (hk : ∀ (fz2 : Gz), fz2.ex = fz.ex → ∀ (s : Shared) (H : Hp) (C : Addr) (cl : List (Str × Addr)) (fp : List Addr), PE (X.blk s H scope (compEnvC scope cl C X.env) fp) kx (tM (X.K, fz2) WxF ek))
    (he : ∀ (fz2 : Gz), fz2.ex = fz.ex → ∀ (s : Shared) (H : Hp) (C : Addr) (cl : List (Str × Addr)) (fp : List Addr), PE (X.blk s H scope (compEnvC scope cl C X.env) fp) vx (tM (X.K, fz2) WxF ev)) (hs : ∀ x, foldedSetIterable iter X.env x = pure x) :
    PE X (.DictComp kx vx [⟨tg, iter, ifs, 0⟩] scope pos) (tM (X.K, fz) Wx (mdc mu mi t c ek ev (own.map (·.2)))) :=
  ⟨fun pins sh sg H Q I ⟨al, s, ws, S, rs, h⟩ => (pe_unl (pe_dc hc hN hi ok hg (fun s H C cl fp => (⟨fun pins sh sg H Q I ⟨fz2, e, h⟩ => (ht fz2 e s _ C cl fp).run pins sh sg H Q I h⟩ : PTs _ _ (tMtx X fz c))) (fun s H C cl fp => (⟨fun pins sh sg H Q I ⟨fz2, e, h⟩ => (hk fz2 e s _ C cl fp).run pins sh sg H Q I h⟩ : PE _ _ (tMx X fz _))) (fun s H C cl fp => (⟨fun pins sh sg H Q I ⟨fz2, e, h⟩ => (he fz2 e s _ C cl fp).run pins sh sg H Q I h⟩ : PE _ _ (tMx X fz _))) hs)).run pins sh sg H Q I (tDc_ok hv S rs h)⟩
theorem ps_setDc {wi : TI} {g : TG} {tt : TT} {tk tv : TE} {i : Nat} {y : Str} {py spos : Pos} (hc : X.calm = true) (hN : X.N.Nodup) (hy : X.N[i]? = some y) (hyl : X.env.scope.names.lookup y = some .local)
    (hsw : swapsWith (.DictComp kx vx [⟨tg, iter, ifs, 0⟩] scope pos) (some (.Name y py)) spos.line X.env = pure true) (hi : PI X tg iter wi) (ok : BlkOk X.N X.env.scope scope own)
    (hg : ∀ (s : Shared) (H : Hp) (C : Addr) (cl : List (Str × Addr)) (fp : List Addr), PG (X.blk s H scope (compEnvC scope cl C X.env) fp) tg g) (ht : ∀ (s : Shared) (H : Hp) (C : Addr) (cl : List (Str × Addr)) (fp : List Addr), PTs (X.blk s H scope (compEnvC scope cl C X.env) fp) ifs tt)
    (hk : ∀ (s : Shared) (H : Hp) (C : Addr) (cl : List (Str × Addr)) (fp : List Addr), PE (X.blk s H scope (compEnvC scope cl C X.env) fp) kx tk) (he : ∀ (s : Shared) (H : Hp) (C : Addr) (cl : List (Str × Addr)) (fp : List Addr), PE (X.blk s H scope (compEnvC scope cl C X.env) fp) vx tv) (hs : ∀ x, foldedSetIterable iter X.env x = pure x) :
    PS X (.Assign [.Name y py] (.DictComp kx vx [⟨tg, iter, ifs, 0⟩] scope pos) spos) (tAsg (tDc wi g tt tk tv (own.map (·.2))) (gName i)) := by
  refine ⟨fun pins s σ H D I h => ?_⟩
  rw [exec_Assign_Name_used y py _ spos hsw]
  refine wpAny_bind (wpAny_standAt ?_)
  refine wpAny_bind (wpAny_bind (thn (dc_core (Q := fun v H' => D.nx (σ.set i (some v)) H') (use := some (assign (.Name y py) X.env)) (Qf := fun _ s1 => SP X pins D .next s1) (pos := pos) (pos' := firstIterPos [⟨tg, iter, ifs, 0⟩] pos) hc hN I hi ok hg ht hk he hs h fun Da C s' m H' I' q hns fp => ?_) fun _ s1 q => wpAny_pure (wpAny_pure q)))
  obtain ⟨f1, f2, f3, f4, f5, f6⟩ := fp
  refine wpAny_assign_Name (store_ok2 (v := .ref Da) I' hN hy (.inl hyl) rfl (fun s2 I2 ⟨a, sb, ha⟩ => ⟨m, hns.sameBut sb ?_, fun h' hb => ⟨_, H', I2.turned (fun b o hne e => (hb.2 b hne).trans e) f1 f2 f4 f5 f6, q⟩⟩) (.inr hyl))
  rcases ha with rfl | ha
  · exact f2
  · exact (f5 _ _ ha).symm
theorem q_setDc {i : Nat} {y : Str} {py spos : Pos} (hc : X.calm = true) (hN : X.N.Nodup) (hy : X.N[i]? = some y) (hyl : X.env.scope.names.lookup y = some .local)
    (hsw : swapsWith (.DictComp kx vx [⟨tg, iter, ifs, 0⟩] scope pos) (some (.Name y py)) spos.line X.env = pure true) (hi : PI X tg iter (tMI X fz Wx mi)) (ok : BlkOk X.N X.env.scope scope own) (hv : t.sub (own.map (·.2)) = true)
    (hg : ∀ (s : Shared) (H : Hp) (C : Addr) (cl : List (Str × Addr)) (fp : List Addr), PG (X.blk s H scope (compEnvC scope cl C X.env) fp) tg (t.g (X.K, fz))) (ht : ∀ (fz2 : Gz), fz2.ex = fz.ex → ∀ (s : Shared) (H : Hp) (C : Addr) (cl : List (Str × Addr)) (fp : List Addr), PTs (X.blk s H scope (compEnvC scope cl C X.env) fp) ifs (tMt (X.K, fz2) WxF c))
    (hk : ∀ (fz2 : Gz), fz2.ex = fz.ex → ∀ (s : Shared) (H : Hp) (C : Addr) (cl : List (Str × Addr)) (fp : List Addr), PE (X.blk s H scope (compEnvC scope cl C X.env) fp) kx (tM (X.K, fz2) WxF ek))
    (he : ∀ (fz2 : Gz), fz2.ex = fz.ex → ∀ (s : Shared) (H : Hp) (C : Addr) (cl : List (Str × Addr)) (fp : List Addr), PE (X.blk s H scope (compEnvC scope cl C X.env) fp) vx (tM (X.K, fz2) WxF ev)) (hs : ∀ x, foldedSetIterable iter X.env x = pure x) :
    PS X (.Assign [.Name y py] (.DictComp kx vx [⟨tg, iter, ifs, 0⟩] scope pos) spos) (tMS (X.K, fz) Wx (sset i (mdc mu mi t c ek ev (own.map (·.2))))) := by
  refine ⟨fun pins sh sg H D I ⟨al, s, ws, S, rs, h⟩ => (ps_unl (ps_setDc hc hN hy hyl hsw hi ok hg (tt := tMtx X fz c) (tk := tMx X fz ek) (tv := tMx X fz ev) (fun s H C cl fp => ⟨fun pins sh sg H Q I ⟨fz2, e, h⟩ => (ht fz2 e s _ C cl fp).run pins sh sg H Q I h⟩) (fun s H C cl fp => ⟨fun pins sh sg H Q I ⟨fz2, e, h⟩ => (hk fz2 e s _ C cl fp).run pins sh sg H Q I h⟩) (fun s H C cl fp => ⟨fun pins sh sg H Q I ⟨fz2, e, h⟩ => (he fz2 e s _ C cl fp).run pins sh sg H Q I h⟩) hs)).run pins sh sg H D I ?_⟩
  refine tDc_ok (Q := fun v H' => D.nx (sg.set i (some v)) H') (Wx := Wx) (s := s) (al := al) (ws := ws) hv S rs ((PostS.expr h rs).imp fun w al1 s1 H1 p1 S1 h1 v rv => ?_)
  exact h1 al1 H1 _ Le.rfl S1 ((rs.mono p1).set rv i)
end
end Va

/-! Vae: len of own instances; dict.update; dict(..); list(d.items()). -/
namespace Va
open PySem PySem.Spec PyProof.Rows L2
section
variable {X : Cx} {fz : Gz} {Wx : WX} {k : Nat}
/-- the methods of that name, by classes -/
def OwnMs (X : Cx) (k : Nat) (tb : List (Str × MF)) (m : Str) : Prop := ∀ q ∈ tb, Cls X.K (He.ga X.K q.1) ∧ ∃ f, Meth X.K (He.ga X.K q.1) m f ∧ FnA X.prog X.w X.K X.mg X.base k f q.2
def rLenO (X : Cx) (fz : Gz) (tb : List (Str × MF)) : List V → Hp → VK → Prop := fun vs H Q => ∃ g s x v t, vs = [v] ∧ Sim (X.K, fz) g s H ∧ RW (X.K, fz) g x v ∧ metAt tb "__len__" s x = some t ∧ PostC (X.K, fz) g (fun v' H' => ∃ n, v' = .int n ∧ 0 ≤ n ∧ n < 2 ^ 63 ∧ Q v' H') (fun _ _ _ => False) (t [x] [] s)
theorem call_lenO {tb : List (Str × MF)} (M : OwnMs X k tb "__len__") (he : fz.ex = none) (hr : Room (k + 1) X.A) (hg : X.A.guards = some []) : CallR X (.builtin "len") (rLenO X fz tb) := by
  rintro pins s σ H xs us Q I r ⟨g, st, x, v, t, rfl, S, rx, et, hp⟩
  obtain ⟨u, rfl, ru⟩ := vals1 r
  obtain ⟨a, c, dx, fs, rfl, hH, hmem, hlk⟩ := metAt_ok S rx et
  obtain ⟨k1, f, k2, F⟩ := M _ hmem
  obtain rfl : u = Value.ref a := ru
  obtain ⟨mA, om, _, _, _, _⟩ := ins_get I.hok hH
  obtain ⟨od, inst, _⟩ := om.look
  obtain ⟨m, fr⟩ := I.fr
  refine PySem.W.len_K fr I.ok.mod.kin inst k2.at_ k2.fn ?_
  refine wpAny_call (codeAny_mono (F.run fz he X.A.in1 X.stack s H [.ref a] [] [.ref a] [] [x] [] g st _ _ hr.in1 hg ?_ (.cons rfl .nil) .nil S (.cons rx .nil) .nil hp) fun r s' hq => ?_)
  · have e0 := I.env0
    exact { e0 with }
  · cases r with
    | error e => exact takesF e s' (XE.of_call I (fun c d H' z => z) hq)
    | ok fl =>
      cases fl with
      | ret u =>
        obtain ⟨v, H', I2, rv, n, rfl, h1, h2, q⟩ := I.after hq
        obtain ⟨tok, rfl⟩ := rv
        exact ⟨⟨h1, h2⟩, .int n, H', I2.tok _, ⟨_, rfl⟩, q⟩
      | next => exact hq.elim
      | brk => exact hq.elim
      | cont => exact hq.elim
def i63 (n : Int) : Bool := decide (0 ≤ n) && decide (n < 9223372036854775808)
/-- len(e), of an own instance too -/
def lenG (tb : List (Str × MF)) (x : W) (s : Sto) : R W := match metAt tb "__len__" s x with
  | some t => (t [x] [] s).cl.bind fun y s2 => (match y with
    | .int n => if i63 n then .ok (.int n) s2 else .no
    | _ => .no)
  | none => R.of (gLen [x] s)
def mlenO (tb : List (Str × MF)) (a : ME) : ME := fun ws s => (a ws s).bind (lenG tb)
theorem pm_lenO {tb : List (Str × MF)} {e : Expr} {me : ME} {p pos : Pos} (M : OwnMs X k tb "__len__") (he : fz.ex = none) (hr : Room (k + 1) X.A) (hgu : X.A.guards = some []) (hg : Gl X "len") (hm : X.mg "len" = none) (ha : PE X e (tM (X.K, fz) Wx me)) (hs : notStar e = true) : PE X (.Call (.Name "len" p) [e] [] pos) (tM (X.K, fz) Wx (mlenO tb me)) := by
  refine ⟨fun pins sh sg H Q I ⟨g, s, ws, S, rs, h⟩ => (pe_callB (CallR.or call_lenQ (call_lenO M he hr hgu)) hg hm (by kernel_rfl) (pms_cons ha pms_nil (starEach_cons hs)) (by decide) (by decide) (starEach_cons hs) rfl).run pins sh sg H Q I ?_⟩
  have h' : Post (X.K, fz) Wx g sg (PW1 (X.K, fz) Q) (((mcons me mnil) ws s).bind fun xs s => match xs with
    | [x] => lenG tb x s
    | _ => .no) := by
    have h2 : Post (X.K, fz) Wx g sg (PW1 (X.K, fz) Q) ((me ws s).bind (lenG tb)) := h
    unfold mcons
    cases em : me ws s with
    | ok x s1 => rw [em] at h2; exact h2
    | er c d s1 => rw [em] at h2; exact h2
    | no => rw [em] at h2; exact h2
  refine ⟨g, s, ws, S, rs, h'.bind.imp fun xs g1 s1 H1 p1 S1 h1 vs rv => ?_⟩
  split at h1
  · rename_i x
    obtain ⟨v, rfl, rx⟩ := rv.inv1
    unfold lenG at h1
    split at h1
    · rename_i t et
      refine .inr ⟨g1, s1, x, v, t, rfl, S1, rx, et, ?_⟩
      refine (Post.cl (sg' := []) h1).imp fun y g2 s2 H2 p2 S2 h2 v2 rv2 => ?_
      split at h2
      · rename_i n
        cases rv2
        split at h2
        · rename_i hn
          unfold i63 at hn
          simp only [Bool.and_eq_true, decide_eq_true_eq] at hn
          exact ⟨n, rfl, hn.1, by omega, h2 g2 H2 Le.rfl S2 _ .int⟩
        · exact h2.elim
      · exact h2.elim
    · obtain ⟨w, s', e, q⟩ := h1.of
      exact .inl (l_len g1 s1 s' H1 [x] w [v] Q S1 (.cons rx .nil) e q)
  · exact h1.elim
/-! ### d.update(d2) -/
def rDUp : V → List V → Hp → VK → Prop := fun x xs H Q => ∃ (a b : Addr) (kvs more : List (Key × V)), x = .ref a ∧ xs = [.ref b] ∧ a ≠ b ∧ H a = some (.dK kvs) ∧ Rd H b (.dK more) ∧ kvs.length + more.length ≤ sizeLine ∧ Q .non (upd H a (.dK (mergeK kvs more)))
theorem mt_dupdate : MtR X "dict.update" rDUp := by
  rintro pins s σ H x xs v us Q I rx rs ⟨a, b, kvs, more, rfl, rfl, ne, hA, hB, hl, q⟩
  obtain rfl : v = Value.ref a := rx
  obtain ⟨u, rfl, ru⟩ := vals1 rs
  obtain rfl : u = Value.ref b := ru
  obtain ⟨l1, n1, vs, kv, d1⟩ := dk_of I.hok hA
  obtain ⟨l2, n2, ms, km, d2⟩ := dk_rd I.hok hB
  refine call_meetsIn PySem.F.slot_dict_update d1.typeIs PySem.F.entry_dict_update (PySem.F.args_dict_update_2 _ _) (meets_dict_update (mixKind X.prog X.w) a b ne n2) ⟨vs, ms, d1, d2, by rw [← kv.length, ← km.length]; exact hl, fun h' e1 e2 sb => ?_⟩
  have hlen := length_mergeK more kvs
  obtain ⟨o, _, _, ho, _⟩ := id e1
  have J := d_write (t' := s.toks) (ob := .dK (mergeK kvs more)) I (by rw [hA]; exact True.intro) sb ⟨o, ho⟩ (dk_new (Nat.le_trans hlen hl) n1 (KV.merge km kv) e1)
  exact ⟨.non, _, J, rfl, q⟩
def gDUp : GM := fun x xs s => match xs with
  | [y] => match muDic s x, dicAt s y with
    | some (n, kvs), some more => if x ≠ y ∧ kvs.length + more.length ≤ 16777216 then ok1 .non (s.set n (.dic (mergeW kvs more))) else none
    | _, _ => none
  | _ => none
theorem dic_ne {K : Kz} {g : Gh} {s : Sto} {H : Hp} {x y : W} {n : Nat} {kvs more : List (Key × W)} {a b : Addr} (S : Sim K g s H) (r1 : RW K g x (.ref a)) (r2 : RW K g y (.ref b)) (e1 : muDic s x = some (n, kvs)) (e2 : dicAt s y = some more) (ne : x ≠ y) : a ≠ b := by
  rintro rfl
  obtain ⟨rfl, es, a', vs, ea, ha, _⟩ := muDic_ok S r1 e1
  cases ea
  unfold dicAt at e2
  split at e2
  · rename_i ks ws
    cases r2 with
    | nd rs fr =>
      have := S.nf n _ _ ha es rfl
      rw [fr.2] at this; cases this
  · rename_i m
    cases r2 with
    | ref hm =>
      split at e2
      · rename_i l em
        exact ne (congrArg W.ref (S.nd n m _ _ _ ha hm es em rfl rfl))
      · rename_i l em
        exact ne (congrArg W.ref (S.nd n m _ _ _ ha hm es em rfl rfl))
      · cases e2
  · cases e2
theorem mt_dupQ : MtR X "dict.update" (rQm (X.K, fz) gDUp) := by
  rintro pins sh sg H x xs v us Q I rx rs ⟨al, s, w1, ws, w, s', S, r1, r2, e, b⟩
  unfold gDUp at e
  split at e
  · rename_i y
    obtain ⟨v1, rfl, q1⟩ := r2.inv1
    split at e
    · rename_i n kvs more e1 e2
      split at e
      · rename_i hc
        cases e
        obtain ⟨_, es, a, vs, rfl, ha, rk, hH, hlk⟩ := muDic_ok S r1 e1
        obtain ⟨a2, ms, rfl, rm, hR⟩ := dicAt_ok S q1 e2
        refine mt_dupdate pins sh sg H _ _ v us Q I rx rs ⟨a, a2, vs, ms, rfl, rfl, dic_ne S r1 q1 e1 e2 hc.1, hH, hR, by rw [← rk.length, ← rm.length, line_eq]; exact hc.2, b al _ Le.rfl ?_ _ .non⟩
        exact S.write es ha rfl ⟨_, mergeW_ok rm rk, upd_same, hlk⟩ rfl
      · cases e
    · cases e
  · cases e
/-! ### dict(..), of pairs, of a dict -/
def pairKW (s : Sto) (w : W) : Option (Key × W) := match tupAt w with
  | some [k, v] => (keyW k).map fun q => (q, v)
  | _ => none
def pairsKW (s : Sto) : List W → Option (List (Key × W))
  | [] => some []
  | w :: r => match pairKW s w, pairsKW s r with
    | some p, some q => some (p :: q)
    | _, _ => none
def gDict (mu : Bool) : Gs := fun xs s => match xs with
  | [w] => (match dicAt s w with
    | some kvs => newD mu kvs s
    | none => (match lstAt s w with
      | some ys => (match pairsKW s ys with
        | some l => if l.length ≤ 16777216 then newD mu (mergeW [] l) s else none
        | none => none)
      | none => none))
  | _ => none
def rDict (K : PySem.W.Frag) : List V → Hp → VK → Prop := fun xs H Q => (∃ (a : Addr) (kvs : List (Key × V)), xs = [.ref a] ∧ Rd H a (.dK kvs) ∧ ∀ p, H p = none → Q (.ref p) (upd H p (.dK kvs))) ∨
  (∃ (a : Addr) (ps : List Addr) (kvs : List (Key × V)), xs = [.ref a] ∧ SqL K H a (ps.map V.ref) ∧ Paired (fun p kv => SqT K H p [kV kv.1, kv.2]) ps kvs ∧ ∀ p, H p = none → Q (.ref p) (upd H p (.dK (mergeK [] kvs))))
theorem call_dictQ (hc : X.calm = true) : CallR X (.type "dict") (rDict X.K) := CallR.or call_dictD (call_dictP hc)
theorem pairsKW_ok {K : Kz} {g : Gh} {s : Sto} {H : Hp} (S : Sim K g s H) : ∀ {ys : List W} {vs : List V} {l : List (Key × W)}, RWs K g ys vs → pairsKW s ys = some l → ∃ (ps : List Addr) (kvs : List (Key × V)), vs = ps.map V.ref ∧ RKs K g l kvs ∧ Paired (fun p kv => SqT K.1 H p [kV kv.1, kv.2]) ps kvs
  | [], _, _, .nil, e => by cases e; exact ⟨[], [], rfl, .nil, .nil⟩
  | y :: ys, _, l, .cons (v := v) (vs := vs) r rs, e => by
    unfold pairsKW at e
    split at e
    · rename_i p q e1 e2
      cases e
      obtain ⟨ps, kvs, rfl, rk, pr⟩ := pairsKW_ok S rs e2
      unfold pairKW at e1
      split at e1
      · rename_i k w et
        obtain ⟨a, us, rfl, ru, hT⟩ := tupAt_ok S r et
        obtain ⟨u1, u2, rfl, r1, r2⟩ := ru.inv2
        obtain ⟨q', eq, rfl⟩ := Option.map_eq_some_iff.mp e1
        have ek := keyW_ok eq r1
        subst ek
        exact ⟨a :: ps, (q', u2) :: kvs, rfl, .cons r2 rk, .cons hT pr⟩
      · cases e1
    · cases e
theorem l_dict {K : Kz} {mu : Bool} : Lifts K (rDict K.1) (gDict mu) := by
  intro g sw s' H ws w vs Q S r e b
  unfold gDict at e
  split at e
  · rename_i x
    obtain ⟨v, rfl, rv⟩ := r.inv1
    split at e
    · rename_i kvs ed
      obtain ⟨a, ks, rfl, rk, hR⟩ := dicAt_ok S rv ed
      exact .inl ⟨a, ks, rfl, hR, Back.dic b e S rk⟩
    · split at e
      · rename_i ys ey
        split at e
        · rename_i l el
          split at e
          · obtain ⟨a, us, rfl, ru, hL⟩ := lstAt_ok S rv ey
            obtain ⟨ps, kvs, rfl, rk, pr⟩ := pairsKW_ok S ru el
            exact .inr ⟨a, ps, kvs, rfl, hL, pr, Back.dic b e S (mergeW_ok rk .nil)⟩
          · cases e
        · cases e
      · cases e
  · cases e
/-! ### list(..) of dicts too -/
def gListA (mu : Bool) : Gs := fun xs s => match xs with
  | [w] => (match dicAt s w with
    | some kvs => newL mu (kvs.map fun kv => wKey kv.1) s
    | none => gList mu [w] s)
  | _ => none
def rListA (K : PySem.W.Frag) : List V → Hp → VK → Prop := fun xs H Q => (∃ (a : Addr) (kvs : List (Key × V)), xs = [.ref a] ∧ Rd H a (.dK kvs) ∧ ∀ p, H p = none → Q (.ref p) (upd H p (.lst (kvs.map fun kv => kV kv.1)))) ∨
  (∃ p ys, xs = [.ref p] ∧ (SqL K H p ys ∨ SqT K H p ys) ∧ ∀ l, H l = none → Q (.ref l) (upd H l (.lst ys)))
theorem call_listA (hc : X.calm = true) : CallR X (.type "list") (rListA X.K) := CallR.or (call_listD hc) call_list_of
theorem keysW_rel {K : Kz} {g : Gh} {kvs : List (Key × W)} {vs : List (Key × V)} (r : RKs K g kvs vs) : RWs K g (kvs.map fun kv => wKey kv.1) (vs.map fun kv => kV kv.1) := by
  induction r with
  | nil => exact .nil
  | cons a _ ih => exact .cons wKey_ok ih
theorem l_listA {K : Kz} {mu : Bool} : Lifts K (rListA K.1) (gListA mu) := by
  intro g sw s' H ws w vs Q S r e b
  unfold gListA at e
  split at e
  · rename_i x
    obtain ⟨v, rfl, rv⟩ := r.inv1
    split at e
    · rename_i kvs ed
      obtain ⟨a, ks, rfl, rk, hR⟩ := dicAt_ok S rv ed
      exact .inl ⟨a, ks, rfl, hR, Back.lst b e S (keysW_rel rk)⟩
    · exact .inr (l_list g sw s' H [x] w [v] Q S (.cons rv .nil) e b)
  · cases e
end
end Va

/-! Vaf: text[::-1]. -/
namespace Va
open PySem PySem.Spec PyProof.Rows L2
def revS (x : Str) : Str := ⟨x.cps.toList.reverse.toArray⟩
theorem picked_rev (x : Str) (tk : Tok) : (List.filterMap (fun i => x.cps[i]?) (slicePicked x none none (some (-1, tk)))).toArray = (revS x).cps := by
  have e : slicePicked x none none (some (-1, tk)) = (List.range x.cps.size).reverse := by
    show Builtin.Str.strSliceIndices none none (-1) x.length = _
    unfold Builtin.Str.strSliceIndices
    show sliceRange ((x.cps.size : Int) - 1) (-1) (-1) = _
    rw [PySem.W.krv_sliceRange, PySem.W.krv_range]
  rw [e, List.filterMap_reverse, PySem.W.krv_all]
  rfl
def gRevS : G1 := fun x s => match x with
  | .str z => if z.length ≤ 16777216 then ok1 (.str (revS z)) s else none
  | _ => none
section
variable {X : Cx} {fz : Gz} {Wx : WX} {e : Expr} {me : ME} {k : Nat} {p1 p2 p3 pos : Pos}
theorem pm_revS (he : PE X e (tM (X.K, fz) Wx me)) : PE X (.Subscript e (.Slice none none (some (.UnaryOp .USub (.Constant (.int 1) k p1) p2)) p3) pos) (tM (X.K, fz) Wx (mun gRevS me)) := by
  refine ⟨fun pins sh sg H Q I ⟨g, s, ws, S, rs, h⟩ => ?_⟩
  refine PyProof.Rows.Subscript_ (thn (he.run pins sh sg H (fun v H1 => ∃ z, v = .str z ∧ z.length ≤ 16777216 ∧ Q (.str (revS z)) H1) I ⟨g, s, ws, S, rs, h.bind.imp fun x g1 s1 H1 p1 S1 h1 v rv => ?_⟩) fun u s1 ⟨v, H1, I1, ru, z, ev, hz, q⟩ => ?_)
  · obtain ⟨w, s', ee, q⟩ := h1.of
    unfold gRevS at ee
    split at ee
    · cases rv
      split at ee
      · rename_i hz
        cases ee
        exact ⟨_, rfl, hz, q g1 H1 Le.rfl S1 _ .str⟩
      · cases ee
    · cases ee
  · subst ev
    obtain ⟨t, rfl⟩ := ru
    refine wpAny_Slice (thn (po_none.run pins s1 sg H1 (fun o H2 => o = none ∧ H2 = H1) I1 ⟨rfl, rfl⟩) fun ul s2 ⟨o, H2, I2, hp, eo, eH⟩ => thn (po_none.run pins s2 sg H2 (fun o H3 => o = none ∧ H3 = H1) I2 ⟨rfl, eH⟩) fun uu s3 ⟨o3, H3, I3, hp3, eo3, eH3⟩ =>
      thn ((po_some (pe_un un_neg pe_int)).run pins s3 sg H3 (fun o H4 => o = some (-1) ∧ H4 = H1) I3 ?_) fun us s4 ⟨o4, H4, I4, hp4, eo4, eH4⟩ => ?_)
    · exact ⟨1, rfl, -1, rfl, rfl, eH3⟩
    · subst eo eo3 eo4
      subst eH4
      cases hp; cases hp3
      cases hp4 with
      | int _ tk =>
        have em : sliceMade z t none none (some (-1, tk)) = Made.str (revS z) := by
          unfold sliceMade
          rw [picked_rev]
          rfl
        refine PyProof.Rows.tail_any (ops := [.str z t, .ref s4.heap.objs.size]) (typeIs_str _ z t) PySem.F.slot_str_getitem.lookup (wpAny_getItem_str_slice (l := none) (u := none) (st := some (-1, tk)) ⟨_, Heap.get?_push_size _ rfl, rfl, rfl⟩ rfl ?_) rfl
        rw [em]
        have I5 := I4.kept (h' := s4.heap.push { cls := .type "slice", data := .fields #[.none, .none, .int (-1) tk] }) (t' := s4.toks + 1) fun b o q => Heap.get?_push_of_some _ q
        refine ⟨?_, .str (revS z), H4, I5, ⟨_, rfl⟩, q⟩
        show (revS z).cps.size ≤ sizeLine
        unfold revS
        rw [List.size_toArray, List.length_reverse, Array.length_toList, line_eq]
        exact hz
end
end Va

/-! Vb1: what is known where an expression stands; names, constants, operators. -/
namespace Va
open PySem PySem.Spec PyProof.Rows L2
/-- hot: in an except suite. md: displays that may change (1), trims of calls (depth + 1) -/
structure Gam where
  N : List Str
  sc : Scope
  fn : Str → Bool
  fns : List (Str × MF)
  con : List (Str × W)
  free : List Str
  tbl : List (Ty × Ty × Bool)
  cs : List Str
  k : Nat
  xcs : List (Str × List (Str × Nat) × Nat)
  exm : List (Str × Str × Bool)
  mets : List (Str × List (Str × MF))
  flds : List (Str × List Str)
  cons : List (Str × List (Str × W))
  md : List (Pos × Nat)
  spe : List (Str × List (Str × MF))
  hot : Bool
/-- an own exception class: its instances are made, their fields read -/
structure XRz (X : Cx) (k : Nat) (c : Str) (fs : List (Str × Nat)) (n : Nat) : Prop where
  mg : X.mg c = some (.ref (He.ga X.K c))
  ex : ∃ e j fI fd ps, XCls X.K e (He.ga X.K c) ∧ PySem.W.findIn X.K (.ref (He.ga X.K c)) "__init__" = some (some (.ref fI)) ∧ PySem.W.typeIn X.K (.ref fI) = some (.type "function") ∧ ps.length = n + 1 ∧ FnOk X.prog X.w X.K X.mg X.base CX0 j fI fd ps (spI (He.ga X.K c) fs n) ∧ j + 1 ≤ k ∧ Binds X.K fd ps []
  ne : fs ≠ [] ∧ n ≤ 900
  xf : XfC X.K (He.ga X.K c)
  no : ∀ p ∈ fs, PySem.W.findIn X.K (.ref (He.ga X.K c)) p.1 = some none
/-- a def, a class: what its call means -/
structure Cal (P : Program) (w : World) (K : PySem.W.Frag) (mg : Str → Option Value) (base : Heap) (k : Nat) (f : Addr) (m : MF) : Prop where
  kp : PySem.W.keepIn K (.ref f) = true
  ex : FnA P w K mg base k f m ∨ ∃ c fi m' j, f = He.ga K c ∧ Mk K f fi ∧ j + 1 ≤ k ∧ FnA P w K mg base j fi m' ∧ m = mkA c m'
structure MetB (P : Program) (w : World) (K : PySem.W.Frag) (mg : Str → Option Value) (base : Heap) (k : Nat) (m : Str) (c : Str) (t : MF) : Prop where
  cl : Cls K (He.ga K c)
  ex : ∃ f, Meth K (He.ga K c) m f ∧ FnA P w K mg base k f t
structure Ctx (Γ : Gam) (X : Cx) (Wx : WX) (fz : Gz) : Prop where
  N : X.N = Γ.N
  nd : X.N.Nodup
  sc : X.env.scope = Γ.sc
  kind : Γ.sc.kind = .function
  fn : X.fn = Γ.fn
  calm : Γ.hot = false → X.calm = true
  tk : Takes X Wx
  hu : X.A.units + 200 < cLine
  gu : X.A.guards = some []
  room : Γ.hot = false → Room Γ.k X.A
  ex0 : Γ.hot = false → fz.ex = none
  xi : Γ.hot = true → ∃ (X0 : Cx) (a : Addr) (oe : Obj) (cls : Value) (d : Option Addr) (pn : List (Addr × Obj)) (n : Nat), X = X0.suite a ((a, oe) :: pn) ∧ Zc cls d oe ∧ (∃ vs, oe.data = .fields vs) ∧ fz.ex = some (n, a, cls, d)
  sys : SysOk X
  fr : ∀ x ∈ Γ.free, X.mg x = none
  con : ∀ p ∈ Γ.con, ∃ u v, X.mg p.1 = some u ∧ RelV v u ∧ ∀ fz g, RW (X.K, fz) g p.2 v
  fns : ∀ q ∈ Γ.fns, ∃ f, X.mg q.1 = some (.ref f) ∧ Cal X.prog X.w X.K X.mg X.base Γ.k f q.2
  mets : ∀ q ∈ Γ.mets, ∀ p ∈ q.2, MetB X.prog X.w X.K X.mg X.base Γ.k q.1 p.1 p.2
  flds : ∀ q ∈ Γ.flds, FldOk X.K q.2 q.1
  cons : ∀ q ∈ Γ.cons, ConOk X.K q.2 q.1
  spe : ∀ q ∈ Γ.spe, ∀ p ∈ q.2, ∃ j, j + 2 ≤ Γ.k ∧ MetB X.prog X.w X.K X.mg X.base j q.1 p.1 p.2
  isa : IsaOk X.K Γ.tbl Γ.cs
  xcs : ∀ q ∈ Γ.xcs, XRz X Γ.k q.1 q.2.1 q.2.2
  exm : ∀ q ∈ Γ.exm, PySem.W.exmOne X.K (.ref (He.ga X.K q.1)) (.ref (He.ga X.K q.2.1)) = some q.2.2
theorem Ctx.noraise {Γ : Gam} {X : Cx} {Wx : WX} {fz : Gz} (c : Ctx Γ X Wx fz) : Ctx Γ X WxF fz := { c with tk := takesF }
theorem Ctx.at_ {Γ : Gam} {X : Cx} {Wx Wx' : WX} {fz fz' : Gz} (c : Ctx Γ X Wx fz) (e : fz'.ex = fz.ex) (tk : Takes X Wx') : Ctx Γ X Wx' fz' := { c with tk := tk, ex0 := fun h => e.trans (c.ex0 h), xi := fun h => by rw [e]; exact c.xi h }
theorem Ctx.own {Γ : Gam} {X : Cx} {Wx : WX} {fz : Gz} (c : Ctx Γ X Wx fz) {m : Str} {tb : List (Str × MF)} (h : (m, tb) ∈ Γ.spe) : OwnMs X (Γ.k - 2) tb m := fun q hq => by
  obtain ⟨j, hj, h1, f, h2, h3⟩ := c.spe _ h q hq
  exact ⟨h1, f, h2, h3.up (by omega)⟩
theorem Ctx.k2 {Γ : Gam} {X : Cx} {Wx : WX} {fz : Gz} (c : Ctx Γ X Wx fz) {m : Str} {tb : List (Str × MF)} (h : (m, tb) ∈ Γ.spe) (ne : tb ≠ []) : 2 ≤ Γ.k := by
  cases tb with
  | nil => exact absurd rfl ne
  | cons p r =>
    obtain ⟨j, hj, _⟩ := c.spe _ h p List.mem_cons_self
    omega
theorem Cal.run {X : Cx} {fz : Gz} {Wx : WX} {k : Nat} {f : Addr} {m : MF} (C : Cal X.prog X.w X.K X.mg X.base k f m) (he : fz.ex = none) (hr : Room k X.A) (hg : X.A.guards = some []) (tk : Takes X Wx) : RunC X fz Wx (.ref f) m := by
  rcases C.ex with F | ⟨c, fi, m', j, e1, M, hj, F, rfl⟩
  · exact runC_fn F he hr hg tk
  · subst e1
    exact runC_cls M F he (hr.mono hj) hg tk
theorem Ctx.met {Γ : Gam} {X : Cx} {Wx : WX} {fz : Gz} (c : Ctx Γ X Wx fz) (hh : Γ.hot = false) {m : Str} {tb : List (Str × MF)} (h : (m, tb) ∈ Γ.mets) : MetOk X fz Wx tb m := fun q hq => by
  obtain ⟨h1, f, h2, h3⟩ := c.mets _ h q hq
  exact ⟨h1, f, h2, runC_fn h3 (c.ex0 hh) (c.room hh) c.gu c.tk⟩
def mdAt (Γ : Gam) (p : Pos) : Nat := match Γ.md.find? fun q => decide (q.1 = p) with
  | some q => q.2
  | none => 0
def muAtP (Γ : Gam) (p : Pos) : Bool := mdAt Γ p != 0
def tmd (d : Nat) (m : ME) : ME := match d with
  | 0 => m
  | n + 1 => mtrim n m
theorem tmd_ok {X : Cx} {fz : Gz} {Wx : WX} {e : Expr} {m : ME} (d : Nat) (h : PE X e (tM (X.K, fz) Wx m)) : PE X e (tM (X.K, fz) Wx (tmd d m)) := by
  cases d with
  | zero => exact h
  | succ n => exact pm_trim h
def nameE (Γ : Gam) (x : Str) : ME := match Γ.sc.names.lookup x, odd x with
  | some .globalImplicit, false => (match assocS Γ.con x with
    | some w => mc w
    | none => if Γ.free.contains x then (match tyName x with
      | some n => mc (.ty n)
      | none => mno) else mno)
  | some .globalExplicit, _ => mno
  | some _, false => (match slotOf Γ.N x with
    | some i => mvar i
    | none => mno)
  | _, _ => mno
def constE : Const → ME
  | .none => mc .non
  | .bool b => mc (.bl b)
  | .int i => mc (.int i)
  | .str x => mc (.str x)
  | _ => mno
def binE (mu : Bool) (op : Operator) (a b : ME) : ME := match op with
  | .Add => mbin (gAdd mu) a b
  | .Sub => mbin gSub a b
  | .Mult => mbin (gMul mu) a b
  | .FloorDiv => mbin gFdiv a b
  | .Mod => mbin gMod a b
  | .Pow => mbin gPow a b
  | .LShift => mbin gShl a b
  | .RShift => mbin gShr a b
  | .BitAnd => mbin gBand a b
  | .BitOr => mbin gBor a b
  | _ => mno
def cmpG : CmpOp → Option G2
  | .Eq => some gEq
  | .NotEq => some gNe
  | .Lt => some gLt
  | .LtE => some gLe
  | .Gt => some gGt
  | .GtE => some gGe
  | .In => some gIn
  | .NotIn => some gNotIn
  | .Is => some gIs
  | .IsNot => some gIsNot
def evA (E : Expr → ME) : List Expr → MA
  | [] => mnil
  | .Starred e _ :: es => mstar (E e) (evA E es)
  | e :: es => mcons (E e) (evA E es)
section
variable {Γ : Gam} {X : Cx} {Wx : WX} {fz : Gz}
theorem Ctx.gl (c : Ctx Γ X Wx fz) {x : Str} (h : Γ.sc.names.lookup x = some .globalImplicit) : Gl X x := by
  show X.env.scope.names.lookup x = _
  rw [c.sc]; exact h
theorem Ctx.frm (c : Ctx Γ X Wx fz) {x : Str} (h : Γ.free.contains x = true) : X.mg x = none := c.fr x (by simpa using h)
theorem nameE_ok (c : Ctx Γ X Wx fz) (x : Str) (pos : Pos) : PE X (.Name x pos) (tM (X.K, fz) Wx (nameE Γ x)) := by
  unfold nameE
  split
  · rename_i hk ho
    obtain ⟨o1, o2, o3⟩ := odd_ok ho
    split
    · rename_i w ew
      obtain ⟨u, v, h1, h2, h3⟩ := c.con _ (assocS_ok ew)
      exact pm_c (pe_glob (c.gl hk) h1 h2 o1) (h3 fz)
    · split
      · rename_i hf
        split
        · rename_i n en
          refine pm_c (w := .ty n) (v := .ty n) ⟨fun pins sh sg H Q I h => ?_⟩ fun g => .ty
          exact ld_blt I (c.gl hk) (c.frm hf) (tyName_ok en) ⟨.ty n, H, I, rfl, h⟩ o3 o1
        · exact pm_no
      · exact pm_no
  · exact pm_no
  · rename_i k ne1 ne2 hk ho
    obtain ⟨o1, o2, o3⟩ := odd_ok ho
    split
    · rename_i i ei
      refine pm_var (by rw [c.N]; exact slotOf_ok ei) ?_ o1 o2
      rw [Vis, c.sc]
      cases k with
      | «local» => exact .inl hk
      | cell => exact .inr (.inl hk)
      | free => exact .inr (.inr hk)
      | globalImplicit => exact absurd rfl ne1
      | globalExplicit => exact absurd rfl ne2
    · exact pm_no
  · exact pm_no
theorem constE_ok (c : Const) (j : Nat) (pos : Pos) : PE X (.Constant c j pos) (tM (X.K, fz) Wx (constE c)) := by
  cases c with
  | none => exact pm_c (pe_non) fun _ => .non
  | bool b => exact pm_c (v := .bl b) pe_bl fun _ => .bl
  | int i => exact pm_c pe_int fun _ => .int
  | str x => exact pm_c pe_str fun _ => .str
  | _ => exact pm_no
theorem Ctx.u1 (c : Ctx Γ X Wx fz) : X.A.units + 1 < cLine := by have := c.hu; omega
theorem Ctx.u64 (c : Ctx Γ X Wx fz) : X.A.units + 64 < cLine := by have := c.hu; omega
theorem Ctx.u128 (c : Ctx Γ X Wx fz) : X.A.units + 128 < cLine := by have := c.hu; omega
theorem binE_ok {a b : Expr} {ma mb : ME} (mu : Bool) (op : Operator) (pos : Pos) (ha : PE X a (tM (X.K, fz) Wx ma)) (hb : PE X b (tM (X.K, fz) Wx mb)) : PE X (.BinOp a op b pos) (tM (X.K, fz) Wx (binE mu op ma mb)) := by
  cases op with
  | Add => exact pm_bin op_addQ l_add ha hb
  | Sub => exact pm_bin op_sub l_sub ha hb
  | Mult => exact pm_bin op_mulQ l_mul ha hb
  | FloorDiv => exact pm_bin op_fdivW l_fdiv ha hb
  | Mod => exact pm_bin op_mod l_mod ha hb
  | Pow => exact pm_bin op_pow l_pow ha hb
  | LShift => exact pm_bin op_shl l_shl ha hb
  | RShift => exact pm_bin op_shr l_shr ha hb
  | BitAnd => exact pm_bin op_and l_band ha hb
  | BitOr => exact pm_bin op_or l_bor ha hb
  | _ => exact pm_no
theorem cmpG_ok (c : Ctx Γ X Wx fz) {op : CmpOp} {g : G2} (h : cmpG op = some g) : ∃ r, OpR X (compareOp op) r ∧ Lift2 (X.K, fz) r g := by
  cases op <;> cases h
  · exact ⟨_, op_eqQ c.sys c.u64, l_q2⟩
  · exact ⟨_, op_neQ c.sys c.u64, l_q2⟩
  · exact ⟨_, op_lt, l_ci⟩
  · exact ⟨_, op_le, l_ci⟩
  · exact ⟨_, op_gt, l_ci⟩
  · exact ⟨_, op_ge, l_ci⟩
  · exact ⟨_, op_isQ, l_q2⟩
  · exact ⟨_, op_isNotQ, l_q2⟩
  · exact ⟨_, op_inQ c.u1, l_q2⟩
  · exact ⟨_, op_notInQ c.u1, l_q2⟩
theorem starEach_star {e : Expr} {es : List Expr} {p : Pos} {env : Env} : starEach (.Starred e p :: es) env = (true, eval e env) :: starEach es env := rfl
theorem evA_ok {E : Expr → ME} (h : ∀ e, PE X e (tM (X.K, fz) Wx (E e))) : ∀ es : List Expr, PA X es (tMs (X.K, fz) Wx (evA E es))
  | [] => pms_nil
  | e :: es => by
    cases e with
    | Starred e p => exact pms_star (h e) (evA_ok h es) starEach_star
    | _ => exact pms_cons (h _) (evA_ok h es) (starEach_cons rfl)
end
end Va

/-! Vb2: calls of built-ins, defs, classes; methods. (printed by gen_vb2.py) -/
namespace Va
open PySem PySem.Spec PyProof.Rows L2
section
variable {Γ : Gam} {X : Cx} {Wx : WX} {fz : Gz}
/-- a built-in's promise, by its name -/
def BltOk (X : Cx) (fz : Gz) (x : Str) (g : Gs) : Prop := (∃ id r, bootBuiltins x = some (.builtin id) ∧ CallR X (.builtin id) r ∧ Lifts (X.K, fz) r g) ∨ (∃ T r, bootBuiltins x = some (.type T) ∧ CallR X (.type T) r ∧ Lifts (X.K, fz) r g)
theorem boot_len : bootBuiltins ("len" : Str) = some (.builtin "len") := by kernel_rfl
theorem blt_len (c : Ctx Γ X Wx fz) : BltOk X fz ("len" : Str) gLen := .inl ⟨"len", _, boot_len, call_lenQ, l_len⟩
theorem boot_isinstance : bootBuiltins ("isinstance" : Str) = some (.builtin "isinstance") := by kernel_rfl
theorem blt_isinstance (c : Ctx Γ X Wx fz) : BltOk X fz ("isinstance" : Str) (gIsi Γ.tbl Γ.cs) := .inl ⟨"isinstance", _, boot_isinstance, (call_isiQ c.isa), l_qs⟩
theorem boot_abs : bootBuiltins ("abs" : Str) = some (.builtin "abs") := by kernel_rfl
theorem blt_abs (c : Ctx Γ X Wx fz) : BltOk X fz ("abs" : Str) gAbs := .inl ⟨"abs", _, boot_abs, call_abs, l_abs⟩
theorem boot_max : bootBuiltins ("max" : Str) = some (.builtin "max") := by kernel_rfl
theorem blt_max (c : Ctx Γ X Wx fz) (hh : Γ.hot = false) : BltOk X fz ("max" : Str) gMax := .inl ⟨"max", _, boot_max, (CallR.or (call_max2 (c.calm hh)) (cr_max (c.calm hh))), l_max⟩
theorem boot_min : bootBuiltins ("min" : Str) = some (.builtin "min") := by kernel_rfl
theorem blt_min (c : Ctx Γ X Wx fz) (hh : Γ.hot = false) : BltOk X fz ("min" : Str) gMin := .inl ⟨"min", _, boot_min, (CallR.or (call_min2 (c.calm hh)) (cr_min (c.calm hh))), l_min⟩
theorem boot_sum : bootBuiltins ("sum" : Str) = some (.builtin "sum") := by kernel_rfl
theorem blt_sum (c : Ctx Γ X Wx fz) (hh : Γ.hot = false) : BltOk X fz ("sum" : Str) gSum := .inl ⟨"sum", _, boot_sum, (cr_sum (c.calm hh)), l_sum⟩
theorem boot_all : bootBuiltins ("all" : Str) = some (.builtin "all") := by kernel_rfl
theorem blt_all (c : Ctx Γ X Wx fz) (hh : Γ.hot = false) : BltOk X fz ("all" : Str) gAll := .inl ⟨"all", _, boot_all, (cr_all (c.calm hh)), l_all⟩
theorem boot_any : bootBuiltins ("any" : Str) = some (.builtin "any") := by kernel_rfl
theorem blt_any (c : Ctx Γ X Wx fz) (hh : Γ.hot = false) : BltOk X fz ("any" : Str) gAny := .inl ⟨"any", _, boot_any, (cr_any (c.calm hh)), l_any⟩
theorem boot_list : bootBuiltins ("list" : Str) = some (.type "list") := by kernel_rfl
theorem blt_list (c : Ctx Γ X Wx fz) (mu : Bool) : BltOk X fz ("list" : Str) (gList mu) := .inr ⟨"list", _, boot_list, call_list_of, l_list⟩
theorem blt_listA (c : Ctx Γ X Wx fz) (hh : Γ.hot = false) (mu : Bool) : BltOk X fz ("list" : Str) (gListA mu) := .inr ⟨"list", _, boot_list, (call_listA (c.calm hh)), l_listA⟩
theorem boot_dict : bootBuiltins ("dict" : Str) = some (.type "dict") := by kernel_rfl
theorem blt_dict (c : Ctx Γ X Wx fz) (hh : Γ.hot = false) (mu : Bool) : BltOk X fz ("dict" : Str) (gDict mu) := .inr ⟨"dict", _, boot_dict, (call_dictQ (c.calm hh)), l_dict⟩
theorem boot_tuple : bootBuiltins ("tuple" : Str) = some (.type "tuple") := by kernel_rfl
theorem blt_tuple (c : Ctx Γ X Wx fz) : BltOk X fz ("tuple" : Str) gTuple := .inr ⟨"tuple", _, boot_tuple, call_tuple_of, l_tuple⟩
theorem boot_divmod : bootBuiltins ("divmod" : Str) = some (.builtin "divmod") := by kernel_rfl
theorem blt_divmod (c : Ctx Γ X Wx fz) : BltOk X fz ("divmod" : Str) gDivmod := .inl ⟨"divmod", _, boot_divmod, call_divmodW, l_divmod⟩
theorem boot_repr : bootBuiltins ("repr" : Str) = some (.builtin "repr") := by kernel_rfl
theorem blt_repr (c : Ctx Γ X Wx fz) : BltOk X fz ("repr" : Str) gRepr := .inl ⟨"repr", _, boot_repr, (call_reprQ c.sys c.u128 c.gu), l_qs⟩
def bltL (Γ : Gam) (mu : Bool) : List (Str × Gs) := [("len", gLen), ("isinstance", (gIsi Γ.tbl Γ.cs)), ("abs", gAbs), ("list", (gList mu)), ("tuple", gTuple), ("divmod", gDivmod), ("repr", gRepr)]
theorem bltL_ok (c : Ctx Γ X Wx fz) {x : Str} {g : Gs} {mu : Bool} (h : assocS (bltL Γ mu) x = some g) : BltOk X fz x g := by
  have m := assocS_ok h
  unfold bltL at m
  rcases List.mem_cons.mp m with e | m
  · obtain ⟨rfl, rfl⟩ := Prod.mk.inj e; exact blt_len c
  rcases List.mem_cons.mp m with e | m
  · obtain ⟨rfl, rfl⟩ := Prod.mk.inj e; exact blt_isinstance c
  rcases List.mem_cons.mp m with e | m
  · obtain ⟨rfl, rfl⟩ := Prod.mk.inj e; exact blt_abs c
  rcases List.mem_cons.mp m with e | m
  · obtain ⟨rfl, rfl⟩ := Prod.mk.inj e; exact blt_list c mu
  rcases List.mem_cons.mp m with e | m
  · obtain ⟨rfl, rfl⟩ := Prod.mk.inj e; exact blt_tuple c
  rcases List.mem_cons.mp m with e | m
  · obtain ⟨rfl, rfl⟩ := Prod.mk.inj e; exact blt_divmod c
  rcases List.mem_cons.mp m with e | m
  · obtain ⟨rfl, rfl⟩ := Prod.mk.inj e; exact blt_repr c
  cases m
def bltC (Γ : Gam) (mu : Bool) : List (Str × Gs) := [("max", gMax), ("min", gMin), ("sum", gSum), ("all", gAll), ("any", gAny), ("list", (gListA mu)), ("dict", (gDict mu))]
theorem bltC_ok (c : Ctx Γ X Wx fz) (hh : Γ.hot = false) {x : Str} {g : Gs} {mu : Bool} (h : assocS (bltC Γ mu) x = some g) : BltOk X fz x g := by
  have m := assocS_ok h
  unfold bltC at m
  rcases List.mem_cons.mp m with e | m
  · obtain ⟨rfl, rfl⟩ := Prod.mk.inj e; exact blt_max c hh
  rcases List.mem_cons.mp m with e | m
  · obtain ⟨rfl, rfl⟩ := Prod.mk.inj e; exact blt_min c hh
  rcases List.mem_cons.mp m with e | m
  · obtain ⟨rfl, rfl⟩ := Prod.mk.inj e; exact blt_sum c hh
  rcases List.mem_cons.mp m with e | m
  · obtain ⟨rfl, rfl⟩ := Prod.mk.inj e; exact blt_all c hh
  rcases List.mem_cons.mp m with e | m
  · obtain ⟨rfl, rfl⟩ := Prod.mk.inj e; exact blt_any c hh
  rcases List.mem_cons.mp m with e | m
  · obtain ⟨rfl, rfl⟩ := Prod.mk.inj e; exact blt_listA c hh mu
  rcases List.mem_cons.mp m with e | m
  · obtain ⟨rfl, rfl⟩ := Prod.mk.inj e; exact blt_dict c hh mu
  cases m
/-- in an except suite: only what needs no calm -/
def bltG (Γ : Gam) (mu : Bool) (x : Str) : Option Gs := if Γ.hot then assocS (bltL Γ mu) x else match assocS (bltC Γ mu) x with
  | some g => some g
  | none => assocS (bltL Γ mu) x
theorem bltG_ok (c : Ctx Γ X Wx fz) {mu : Bool} {x : Str} {g : Gs} (h : bltG Γ mu x = some g) : BltOk X fz x g := by
  unfold bltG at h
  split at h
  · exact bltL_ok c h
  · rename_i hh
    split at h
    · rename_i g' e; cases h; exact bltC_ok c (by simpa using hh) e
    · exact bltL_ok c h
/-! ### keywords -/
def kwAll (kws : List Keyword) : Bool := kws.all fun k => k.arg.isSome
def kwNames : List Keyword → List Str
  | [] => []
  | k :: r => match k.arg with
    | some x => x :: kwNames r
    | none => kwNames r
def evK (E : Expr → ME) : List Keyword → MA
  | [] => mnil
  | k :: r => mcons (E k.value) (evK E r)
theorem evK_ok {E : Expr → ME} (h : ∀ e, PE X e (tM (X.K, fz) Wx (E e))) : ∀ kws : List Keyword, PK X kws (tMs (X.K, fz) Wx (evK E kws))
  | [] => pmk_nil
  | ⟨a, v, p⟩ :: r => pmk_cons (h v) (evK_ok h r)
theorem keywordEach_cons {k : Keyword} {r : List Keyword} {env : Env} : keywordEach (k :: r) env = (k.arg, eval k.value env) :: keywordEach r env := by cases k; rfl
theorem kw_all {kws : List Keyword} {env : Env} {pos : Pos} (h : kwAll kws = true) : (backToKw pos (keywordEach kws env)).all (·.1.isSome) = true := by
  induction kws with
  | nil => rfl
  | cons k r ih =>
    have h : (k.arg.isSome && kwAll r) = true := h
    simp only [Bool.and_eq_true] at h
    rw [keywordEach_cons]
    show (k.arg.isSome && (backToKw pos (keywordEach r env)).all (·.1.isSome)) = true
    rw [ih h.2, h.1] <;> rfl
theorem kw_none {kws : List Keyword} {env : Env} {pos : Pos} (h : kwAll kws = true) : (backToKw pos (keywordEach kws env)).any (·.1.isNone) = false := by
  induction kws with
  | nil => rfl
  | cons k r ih =>
    have h : (k.arg.isSome && kwAll r) = true := h
    simp only [Bool.and_eq_true] at h
    rw [keywordEach_cons]
    show (k.arg.isNone || (backToKw pos (keywordEach r env)).any (·.1.isNone)) = false
    rw [ih h.2]
    cases e : k.arg with
    | none => rw [e] at h; cases h.1
    | some x => rfl
theorem kw_names {kws : List Keyword} {env : Env} {pos : Pos} : (backToKw pos (keywordEach kws env)).filterMap (·.1) = kwNames kws := by
  induction kws with
  | nil => rfl
  | cons k r ih =>
    rw [keywordEach_cons]
    unfold kwNames
    obtain ⟨a, v, p⟩ := k
    cases a with
    | none => exact ih
    | some x => exact congrArg (x :: ·) ih
/-! ### calls by a name -/
def gblOk (Γ : Gam) (x : Str) : Bool := !odd x && decide (Γ.sc.names.lookup x = some .globalImplicit)
theorem backTo_some {es : List Expr} {env : Env} {pos : Pos} (h : es.all notStar = false) : (backTo pos (starEach es env)).any (·.1) = true := by
  induction es with
  | nil => cases h
  | cons e es ih =>
    simp only [List.all_cons, Bool.and_eq_false_iff] at h
    cases hs : notStar e with
    | true =>
      rw [starEach_cons hs]
      show (false || (backTo pos (starEach es env)).any (·.1)) = true
      rw [ih (h.resolve_left (by rw [hs]; simp))]; rfl
    | false =>
      cases e with
      | Starred y p => rw [starEach_star]; rfl
      | _ => cases hs
/-- a def's, a class's call -/
def callF (t : MF) (E : Expr → ME) (args : List Expr) (kws : List Keyword) : ME := match kws with
  | [] => (match args with
    | [] => mcall t mnil
    | .Starred e _ :: es => (match es with
      | [] => mcall t (mstar (E e) mnil)
      | _ :: _ => mno)
    | e :: es => mcall t (evA E (e :: es)))
  | k :: r => if kwAll (k :: r) && args.all notStar then mcallK t (kwNames (k :: r)) (evA E args) (evK E (k :: r)) else mno
theorem callF_ok (c : Ctx Γ X Wx fz) (hh : Γ.hot = false) {x : Str} {f : Addr} {t : MF} (hf : X.mg x = some (.ref f)) (C : Cal X.prog X.w X.K X.mg X.base Γ.k f t) (hg : gblOk Γ x = true) {E : Expr → ME} (h : ∀ e, PE X e (tM (X.K, fz) Wx (E e))) (p : Pos) (args : List Expr) (kws : List Keyword) (pos : Pos) : PE X (.Call (.Name x p) args kws pos) (tM (X.K, fz) Wx (callF t E args kws)) := by
  unfold gblOk at hg
  simp only [Bool.and_eq_true, Bool.not_eq_true', decide_eq_true_eq] at hg
  obtain ⟨ho, hk⟩ := hg
  obtain ⟨o1, o2, o3⟩ := odd_ok ho
  have R := C.run (fz := fz) (Wx := Wx) (c.ex0 hh) (c.room hh) c.gu c.tk
  unfold callF
  split
  · split
    · exact pm_call0 R C.kp (c.gl hk) hf o1
    · rename_i e q es
      split
      · exact pm_callS1 R C.kp (c.gl hk) hf (h e) o1 rfl
      · exact pm_no
    · rename_i e es hns
      have he : notStar e = true := by cases e <;> first | rfl | exact (hns _ _ rfl).elim
      cases hs : es.all notStar with
      | true => exact pm_call R C.kp (c.gl hk) hf (evA_ok h _) o1 (starEach_cons he) (backTo_no hs)
      | false => exact pm_callS2 R C.kp (c.gl hk) hf (evA_ok h _) o1 (starEach_cons he) (backTo_some hs)
  · rename_i k r
    split
    · rename_i hc
      simp only [Bool.and_eq_true] at hc
      obtain ⟨h1, h2⟩ := hc
      cases args with
      | nil =>
        refine pm_callK0 R C.kp (c.gl hk) hf (evK_ok h _) (kw_all h1) kw_names o1 ?_
        rw [kw_none h1]; rfl
      | cons e es =>
        have hs := h2
        simp only [List.all_cons, Bool.and_eq_true] at hs
        refine pm_callK R C.kp (c.gl hk) hf (evA_ok h _) (evK_ok h _) (kw_all h1) kw_names o1 (starEach_cons hs.1) ?_
        rw [kw_none h1, backTo_no h2]; rfl
    · exact pm_no
/-- built-ins over own instances -/
def bltO (Γ : Gam) (E : Expr → ME) (x : Str) (args : List Expr) : Option ME := if Γ.hot then none else if x = ("len" : Str) then (match args, assocS Γ.spe "__len__" with
  | [e], some (p :: r) => some (mlenO (p :: r) (E e))
  | _, _ => none) else none
theorem bltO_ok (c : Ctx Γ X Wx fz) {E : Expr → ME} (h : ∀ e, PE X e (tM (X.K, fz) Wx (E e))) {x : Str} {args : List Expr} {m : ME} (hm : bltO Γ E x args = some m) (hg : Gl X x) (hf : X.mg x = none) (hs : args.all notStar = true) (p pos : Pos) : PE X (.Call (.Name x p) args [] pos) (tM (X.K, fz) Wx m) := by
  unfold bltO at hm
  split at hm
  · cases hm
  · rename_i hh
    have hh : Γ.hot = false := by simpa using hh
    split at hm
    · rename_i ex
      subst ex
      split at hm
      · rename_i e q r es
        cases hm
        have hk := c.k2 (assocS_ok es) (List.cons_ne_nil _ _)
        simp only [List.all_cons, Bool.and_eq_true] at hs
        exact pm_lenO (c.own (assocS_ok es)) (c.ex0 hh) ((c.room hh).mono (by omega)) c.gu hg hf (h e) hs.1
      · cases hm
    · cases hm
def callE (Γ : Gam) (E : Expr → ME) (x : Str) (args : List Expr) (kws : List Keyword) (pos : Pos) : ME :=
  if gblOk Γ x then (match assocS Γ.fns x with
    | some t => if Γ.hot then mno else tmd (mdAt Γ pos) (callF t E args kws)
    | none => if Γ.free.contains x && args.all notStar && kws.isEmpty then (match bltO Γ E x args with
      | some m => m
      | none => (match args, bltG Γ (muAtP Γ pos) x with
        | _ :: _, some g => mfn g (evA E args)
        | _, _ => mno)) else mno) else mno
theorem callE_ok (c : Ctx Γ X Wx fz) {E : Expr → ME} (h : ∀ e, PE X e (tM (X.K, fz) Wx (E e))) (x : Str) (p : Pos) (args : List Expr) (kws : List Keyword) (pos : Pos) : PE X (.Call (.Name x p) args kws pos) (tM (X.K, fz) Wx (callE Γ E x args kws pos)) := by
  unfold callE
  split
  · rename_i hg
    split
    · rename_i t ed
      obtain ⟨f, h1, h2⟩ := c.fns _ (assocS_ok ed)
      split
      · exact pm_no
      · rename_i hh
        exact tmd_ok _ (callF_ok c (by simpa using hh) h1 h2 hg h p args kws pos)
    · split
      · rename_i hf
        unfold gblOk at hg
        simp only [Bool.and_eq_true, Bool.not_eq_true', decide_eq_true_eq] at hg hf
        obtain ⟨ho, hk⟩ := hg
        obtain ⟨o1, o2, o3⟩ := odd_ok ho
        obtain ⟨⟨hf, hs⟩, hw⟩ := hf
        cases kws with
        | cons _ _ => cases hw
        | nil =>
          split
          · rename_i m em
            exact bltO_ok c h em (c.gl hk) (c.frm hf) hs p pos
          rename_i en
          clear en
          split
          · rename_i e es g eg
            simp only [List.all_cons, Bool.and_eq_true] at hs
            rcases bltG_ok c eg with ⟨id, r, b1, b2, b3⟩ | ⟨T, r, b1, b2, b3⟩
            · exact pm_callB b2 b3 (c.gl hk) (c.frm hf) b1 (evA_ok h _) o3 o1 (starEach_cons hs.1) (backTo_no hs.2)
            · exact pm_callTy b2 b3 (c.gl hk) (c.frm hf) b1 (evA_ok h _) o3 o1 (starEach_cons hs.1) (backTo_no hs.2)
          · exact pm_no
      · exact pm_no
  · exact pm_no
/-! ### methods of built-in types -/
def MthOk (X : Cx) (fz : Gz) (m : Str) (T : String) (g : GM) : Prop := ∃ id, T ≠ "" ∧ PlainAttrs T ∧ Slot T m id ∧ typeOf (.builtin id) = pure (.type "method_descriptor") ∧ MtR X id (rQm (X.K, fz) g)
def methL0 : List (Str × String × GM) := [("pop", "list", gPop), ("clear", "list", gClear)]
theorem methL0_ok {m : Str} {q : String × GM} (h : assocS methL0 m = some q) : MthOk X fz m q.1 q.2 := by
  have z := assocS_ok h
  unfold methL0 at z
  rcases List.mem_cons.mp z with e | z
  · obtain ⟨rfl, rfl⟩ := Prod.mk.inj e; exact ⟨_, by decide, PySem.F.plainAttrs_list, PySem.F.slot_list_pop, PySem.F.type_list_pop, mt_popQ⟩
  rcases List.mem_cons.mp z with e | z
  · obtain ⟨rfl, rfl⟩ := Prod.mk.inj e; exact ⟨_, by decide, PySem.F.plainAttrs_list, PySem.F.slot_list_clear, PySem.F.type_list_clear, mt_clearQ⟩
  cases z
def methL0d : List (Str × String × GM) := [("clear", "dict", gDClear)]
theorem methL0d_ok {m : Str} {q : String × GM} (h : assocS methL0d m = some q) : MthOk X fz m q.1 q.2 := by
  have z := assocS_ok h
  unfold methL0d at z
  rcases List.mem_cons.mp z with e | z
  · obtain ⟨rfl, rfl⟩ := Prod.mk.inj e; exact ⟨_, by decide, PySem.F.plainAttrs_dict, PySem.F.slot_dict_clear, PySem.F.type_dict_clear, mt_dclearQ⟩
  cases z
def methL1 : List (Str × String × GM) := [("append", "list", gAppend), ("join", "str", gJoin), ("pop", "list", gPop), ("extend", "list", gExtend), ("index", "list", gIndex), ("update", "dict", gDUp)]
theorem methL1_ok {m : Str} {q : String × GM} (h : assocS methL1 m = some q) : MthOk X fz m q.1 q.2 := by
  have z := assocS_ok h
  unfold methL1 at z
  rcases List.mem_cons.mp z with e | z
  · obtain ⟨rfl, rfl⟩ := Prod.mk.inj e; exact ⟨_, by decide, PySem.F.plainAttrs_list, PySem.F.slot_list_append, PySem.F.type_list_append, mt_appendQ⟩
  rcases List.mem_cons.mp z with e | z
  · obtain ⟨rfl, rfl⟩ := Prod.mk.inj e; exact ⟨_, by decide, PySem.F.plainAttrs_str, PySem.F.slot_str_join, PySem.F.type_str_join, mt_joinQ⟩
  rcases List.mem_cons.mp z with e | z
  · obtain ⟨rfl, rfl⟩ := Prod.mk.inj e; exact ⟨_, by decide, PySem.F.plainAttrs_list, PySem.F.slot_list_pop, PySem.F.type_list_pop, mt_popQ⟩
  rcases List.mem_cons.mp z with e | z
  · obtain ⟨rfl, rfl⟩ := Prod.mk.inj e; exact ⟨_, by decide, PySem.F.plainAttrs_list, PySem.F.slot_list_extend, PySem.F.type_list_extend, mt_extendQ⟩
  rcases List.mem_cons.mp z with e | z
  · obtain ⟨rfl, rfl⟩ := Prod.mk.inj e; exact ⟨_, by decide, PySem.F.plainAttrs_list, PySem.F.slot_list_index, PySem.F.type_list_index, mt_indexQ⟩
  rcases List.mem_cons.mp z with e | z
  · obtain ⟨rfl, rfl⟩ := Prod.mk.inj e; exact ⟨_, by decide, PySem.F.plainAttrs_dict, PySem.F.slot_dict_update, PySem.F.type_dict_update, mt_dupQ⟩
  cases z
def methT (d : Bool) : List (Str × String × GM) := if d then methL0d else methL0
theorem methT_ok {d : Bool} {m : Str} {q : String × GM} (h : assocS (methT d) m = some q) : MthOk X fz m q.1 q.2 := by
  cases d with
  | true => exact methL0d_ok h
  | false => exact methL0_ok h
def methE (E : Expr → ME) (d : Bool) (o : Expr) (m : Str) (ap : Pos) (args : List Expr) (pos : Pos) : ME :=
  if args.all notStar && notSuper o && (ap.endLine == pos.line) && decide (args.length < 30) then (match args with
    | [] => (match assocS (methT d) m with
      | some q => mbm q.1 q.2 (E o) mnil
      | none => mno)
    | e :: es => (match assocS methL1 m with
      | some q => mbm q.1 q.2 (E o) (evA E (e :: es))
      | none => mno)) else mno
theorem methE_ok {E : Expr → ME} (h : ∀ e, PE X e (tM (X.K, fz) Wx (E e))) (d : Bool) (o : Expr) (m : Str) (ap : Pos) (args : List Expr) (pos : Pos) : PE X (.Call (.Attribute o m ap) args [] pos) (tM (X.K, fz) Wx (methE E d o m ap args pos)) := by
  unfold methE
  split
  · rename_i hc
    simp only [Bool.and_eq_true, decide_eq_true_eq] at hc
    obtain ⟨⟨⟨hs, ho⟩, hl⟩, hn⟩ := hc
    cases args with
    | nil =>
      dsimp only
      split
      · rename_i q eq
        obtain ⟨id, m1, m2, m3, m4, m5⟩ := methT_ok eq
        exact pm_bm0 m1 m2 m3 m4 m5 (h o) (base_of ho) hl
      · exact pm_no
    | cons e es =>
      dsimp only
      split
      · rename_i q eq
        obtain ⟨id, m1, m2, m3, m4, m5⟩ := methL1_ok eq
        have few : ((backTo pos (starEach (e :: es) X.env)).all (fun x => !x.1) && (backToKw pos (keywordEach [] X.env)).all (fun x => x.1.isSome) && decide ((e :: es).length + ([] : List Keyword).length + (if ([] : List Keyword).isEmpty then 0 else 1) < 30)) = true := by
          rw [backTo_all hs]
          show (true && true && decide ((e :: es).length + 0 + 0 < 30)) = true
          rw [decide_eq_true (by simpa using hn)] <;> rfl
        simp only [List.all_cons, Bool.and_eq_true] at hs
        exact pm_bm m1 m2 m3 m4 m5 (h o) (evA_ok h _) (base_of ho) few hl (starEach_cons hs.1) (backTo_no hs.2)
      · exact pm_no
  · exact pm_no
/-! ### methods of own classes -/
theorem form_kw {args : List Expr} {kws : List Keyword} {pos : Pos} {env : Env} (h : args.all notStar = true) (hk : kwAll kws = true) (hn : args.length + kws.length + 1 < 30) : methodCallForm (args.length + kws.length) (backTo pos (starEach args env)) (backToKw pos (keywordEach kws env)) = true := by
  unfold methodCallForm
  rw [backTo_all h, kw_all hk]
  have : (if (backToKw pos (keywordEach kws env)).isEmpty = true then 0 else 1) ≤ 1 := by split <;> omega
  rw [decide_eq_true (by omega)]; rfl
def ownE (tb : List (Str × MF)) (E : Expr → ME) (o : Expr) (m : Str) (ap : Pos) (args : List Expr) (kws : List Keyword) (pos : Pos) : ME :=
  if args.all notStar && notSuper o && (ap.endLine == pos.line) && decide (args.length + kws.length + 1 < 30) && kwAll kws then (match kws with
    | [] => mmeth tb m (E o) (evA E args)
    | k :: r => mmethK tb m (kwNames (k :: r)) (E o) (evA E args) (evK E (k :: r))) else mno
theorem ownE_ok (c : Ctx Γ X Wx fz) (hh : Γ.hot = false) {m : Str} {tb : List (Str × MF)} (hm : (m, tb) ∈ Γ.mets) {E : Expr → ME} (h : ∀ e, PE X e (tM (X.K, fz) Wx (E e))) (o : Expr) (ap : Pos) (args : List Expr) (kws : List Keyword) (pos : Pos) : PE X (.Call (.Attribute o m ap) args kws pos) (tM (X.K, fz) Wx (ownE tb E o m ap args kws pos)) := by
  have M := c.met hh hm
  unfold ownE
  split
  · rename_i hc
    simp only [Bool.and_eq_true, decide_eq_true_eq] at hc
    obtain ⟨⟨⟨⟨hs, ho⟩, hl⟩, hn⟩, hk⟩ := hc
    have ev := eval_meth (o := o) (m := m) (ap := ap) (pos := pos) (args := args) (kws := kws) (env := X.env) ho (form_kw hs hk hn) hl
    cases kws with
    | nil =>
      cases args with
      | nil => exact pm_meth0 M (h o) ev
      | cons e es =>
        simp only [List.all_cons, Bool.and_eq_true] at hs
        exact pm_meth M (h o) (evA_ok h _) ev (starEach_cons hs.1) (backTo_no hs.2)
    | cons k r =>
      cases args with
      | nil =>
        refine pm_methK0 M (h o) (evK_ok h _) ev (kw_all hk) kw_names ?_
        rw [kw_none hk]; rfl
      | cons e es =>
        have hs2 := hs
        simp only [List.all_cons, Bool.and_eq_true] at hs2
        refine pm_methK M (h o) (evA_ok h _) (evK_ok h _) ev (kw_all hk) kw_names (starEach_cons hs2.1) ?_
        rw [kw_none hk, backTo_no hs]; rfl
  · exact pm_no
def attrC (Γ : Gam) (E : Expr → ME) (o : Expr) (m : Str) (ap : Pos) (args : List Expr) (kws : List Keyword) (pos : Pos) : ME := match assocS Γ.mets m with
  | some tb => if Γ.hot then mno else tmd (mdAt Γ pos) (ownE tb E o m ap args kws pos)
  | none => if kws.isEmpty then methE E (muAtP Γ pos) o m ap args pos else mno
theorem attrC_ok (c : Ctx Γ X Wx fz) {E : Expr → ME} (h : ∀ e, PE X e (tM (X.K, fz) Wx (E e))) (o : Expr) (m : Str) (ap : Pos) (args : List Expr) (kws : List Keyword) (pos : Pos) : PE X (.Call (.Attribute o m ap) args kws pos) (tM (X.K, fz) Wx (attrC Γ E o m ap args kws pos)) := by
  unfold attrC
  split
  · rename_i tb et
    split
    · exact pm_no
    · rename_i hh
      exact tmd_ok _ (ownE_ok c (by simpa using hh) (assocS_ok et) h o ap args kws pos)
  · split
    · rename_i hk
      cases kws with
      | nil => exact methE_ok h _ o m ap args pos
      | cons _ _ => cases hk
    · exact pm_no
/-! ### e.f -/
def attrE (Γ : Gam) (E : Expr → ME) (o : Expr) (f : Str) : ME :=
  if notSuper o then (match assocS Γ.cons f with
    | some tb => mcon tb f (E o)
    | none => (match assocS Γ.flds f with
      | some cs => mfld cs f (E o)
      | none => if Γ.hot then (match xclsOf Γ.xcs f with
        | [] => mno
        | c :: r => mxf (c :: r) f (E o)) else mno)) else mno
where
  xclsOf : List (Str × List (Str × Nat) × Nat) → Str → List Str
    | [], _ => []
    | (c, fs, _) :: r, f => if fs.any (fun p => decide (p.1 = f)) then c :: xclsOf r f else xclsOf r f
theorem xclsOf_ok {f : Str} : ∀ {l : List (Str × List (Str × Nat) × Nat)} {c : Str}, c ∈ attrE.xclsOf l f → ∃ q ∈ l, q.1 = c ∧ ∃ p ∈ q.2.1, p.1 = f
  | [], _, h => nomatch h
  | (c', fs, n) :: r, c, h => by
    unfold attrE.xclsOf at h
    split at h
    · rename_i hf
      rcases List.mem_cons.mp h with rfl | h
      · obtain ⟨p, h1, h2⟩ := List.any_eq_true.mp hf
        exact ⟨_, List.mem_cons_self, rfl, p, h1, by simpa using h2⟩
      · obtain ⟨q, h1, h2⟩ := xclsOf_ok h
        exact ⟨q, List.mem_cons_of_mem _ h1, h2⟩
    · obtain ⟨q, h1, h2⟩ := xclsOf_ok h
      exact ⟨q, List.mem_cons_of_mem _ h1, h2⟩
theorem attrE_ok (c : Ctx Γ X Wx fz) {E : Expr → ME} (h : ∀ e, PE X e (tM (X.K, fz) Wx (E e))) (o : Expr) (f : Str) (pos : Pos) : PE X (.Attribute o f pos) (tM (X.K, fz) Wx (attrE Γ E o f)) := by
  unfold attrE
  split
  · rename_i ho
    split
    · rename_i tb et
      exact pm_con (c.cons _ (assocS_ok et)) (h o) (base_of ho)
    · split
      · rename_i cs ec
        exact pm_fld (c.flds _ (assocS_ok ec)) (h o) (base_of ho)
      · split
        · rename_i hh
          split
          · exact pm_no
          · rename_i c0 r ex
            obtain ⟨X0, a, oe, cls, d, pn, n, eX, hz, hv, ef⟩ := c.xi hh
            subst eX
            have ez : fz = fz.withX (some (n, a, cls, d)) := by
              obtain ⟨l, p, e⟩ := fz
              have : e = some (n, a, cls, d) := ef
              subst this; rfl
            have h' := h o
            rw [ez] at h' ⊢
            refine pm_xf (List.cons_ne_nil _ _) (fun c' hc => ?_) hz hv h' (base_of ho)
            rw [← ex] at hc
            obtain ⟨q, h1, rfl, p, h2, rfl⟩ := xclsOf_ok hc
            have r := c.xcs q h1
            exact ⟨r.xf, r.no p h2⟩
        · exact pm_no
  · exact pm_no
end
end Va

/-! Vb3: iterators, comprehensions, expressions, tests. -/
namespace Va
open PySem PySem.Spec PyProof.Rows L2
section
variable {Γ : Gam} {X : Cx} {Wx : WX} {fz : Gz}
/-! ### what is walked -/
def isTupE : Expr → Bool
  | .Tuple _ _ _ => true
  | _ => false
theorem isTupE_ok {e : Expr} (h : isTupE e = true) : ∃ es k p, e = .Tuple es k p := by cases e <;> first | exact ⟨_, _, _, rfl⟩ | cases h
def evIn (Γ : Gam) (E : Expr → ME) (tg : Expr) (x : Str) (args : List Expr) : MI :=
  if args.all notStar && decide (Γ.sc.names.lookup x = some .globalImplicit) && Γ.free.contains x then (
    if x = ("range" : Str) then (match args with
      | [_] => mirng1 (evA E args)
      | [_, _] => mirng2 (evA E args)
      | [_, _, _] => mirng3 (evA E args)
      | _ => mino)
    else if x = ("enumerate" : Str) then (if isTupE tg then (match args with
      | [_] => mienum (evA E args)
      | _ => mino) else mino)
    else if x = ("zip" : Str) then (if isTupE tg then (match args with
      | [_, _] => mizip (evA E args)
      | _ => mino) else mino)
    else mino) else mino
def isItF (x : Str) : Bool := decide (x = ("range" : Str)) || (decide (x = ("enumerate" : Str)) || decide (x = ("zip" : Str)))
def evIm (E : Expr → ME) (tg e : Expr) (m : Str) (l : Bool) : MI :=
  if l && notSuper e then (
    if m = ("items" : Str) then (if isTupE tg then midic itmsW (E e) else mino)
    else if m = ("values" : Str) then midic valsW' (E e)
    else if m = ("keys" : Str) then midic keysW' (E e)
    else mino) else mino
def isItM (x : Str) : Bool := decide (x = ("items" : Str)) || (decide (x = ("values" : Str)) || decide (x = ("keys" : Str)))
def evI (Γ : Gam) (E : Expr → ME) (tg iter : Expr) : MI := match iter with
  | .Call (.Name x p) args [] pos => if isItF x then evIn Γ E tg x args else miany (E iter)
  | .Call (.Attribute e m ap) [] [] pos => if isItM m then evIm E tg e m (ap.endLine == pos.line) else miany (E iter)
  | _ => miany (E iter)
theorem evIn_ok (c : Ctx Γ X Wx fz) {E : Expr → ME} (h : ∀ e, PE X e (tM (X.K, fz) Wx (E e))) (tg : Expr) (x : Str) (p : Pos) (args : List Expr) (pos : Pos) : PI X tg (.Call (.Name x p) args [] pos) (tMI X fz Wx (evIn Γ E tg x args)) := by
  unfold evIn
  split
  · rename_i hc
    simp only [Bool.and_eq_true, decide_eq_true_eq] at hc
    obtain ⟨⟨hs, hk⟩, hf⟩ := hc
    split
    · rename_i ex
      subst ex
      split
      · rename_i a
        simp only [List.all_cons, Bool.and_eq_true] at hs
        exact qi_range1 (c.gl hk) (c.frm hf) (evA_ok h _) (starEach_cons hs.1)
      · rename_i a b
        simp only [List.all_cons, Bool.and_eq_true] at hs
        exact qi_range2 (c.gl hk) (c.frm hf) (evA_ok h _) (by rw [starEach_cons hs.1, starEach_cons hs.2.1]; rfl) (starEach_cons hs.2.1)
      · rename_i a b d
        simp only [List.all_cons, Bool.and_eq_true] at hs
        exact qi_range3 (c.gl hk) (c.frm hf) (evA_ok h _) (starEach_cons hs.1) (backTo_no (by simp only [List.all_cons, Bool.and_eq_true]; exact hs.2))
      · exact qi_no
    · split
      · rename_i ex
        subst ex
        split
        · rename_i ht
          obtain ⟨es, k, q, rfl⟩ := isTupE_ok ht
          split
          · rename_i a
            simp only [List.all_cons, Bool.and_eq_true] at hs
            exact qi_enum (c.gl hk) (c.frm hf) (evA_ok h _) (starEach_cons hs.1)
          · exact qi_no
        · exact qi_no
      · split
        · rename_i ex
          subst ex
          split
          · rename_i ht
            obtain ⟨es, k, q, rfl⟩ := isTupE_ok ht
            split
            · rename_i a b
              simp only [List.all_cons, Bool.and_eq_true] at hs
              exact qi_zip (c.gl hk) (c.frm hf) (evA_ok h _) (starEach_cons hs.1) (backTo_no (by simp only [List.all_cons, Bool.and_eq_true]; exact hs.2))
            · exact qi_no
          · exact qi_no
        · exact qi_no
  · exact qi_no
theorem evIm_ok {E : Expr → ME} (h : ∀ e, PE X e (tM (X.K, fz) Wx (E e))) (tg e : Expr) (m : Str) (ap pos : Pos) : PI X tg (.Call (.Attribute e m ap) [] [] pos) (tMI X fz Wx (evIm E tg e m (ap.endLine == pos.line))) := by
  unfold evIm
  split
  · rename_i hc
    simp only [Bool.and_eq_true] at hc
    obtain ⟨hl, hs⟩ := hc
    split
    · rename_i ex
      subst ex
      split
      · rename_i ht
        obtain ⟨es, k, q, rfl⟩ := isTupE_ok ht
        exact qi_items (h _) (base_of hs) hl
      · exact qi_no
    · split
      · rename_i ex
        subst ex
        exact qi_vals (h _) (base_of hs) hl
      · split
        · rename_i ex
          subst ex
          exact qi_keysM (h _) (base_of hs) hl
        · exact qi_no
  · exact qi_no
theorem evI_ok (c : Ctx Γ X Wx fz) {E : Expr → ME} (h : ∀ e, PE X e (tM (X.K, fz) Wx (E e))) (tg iter : Expr) : PI X tg iter (tMI X fz Wx (evI Γ E tg iter)) := by
  unfold evI
  split
  · rename_i x p args pos
    split
    · exact evIn_ok c h tg x p args pos
    · exact qi_any (h _)
  · rename_i e m ap pos
    split
    · exact evIm_ok h tg e m ap pos
    · exact qi_any (h _)
  · exact qi_any (h _)
/-! ### comprehensions -/
def okN (Γ : Gam) (x : Str) : Bool := (decide (Γ.sc.names.lookup x = some .local) || decide (Γ.sc.names.lookup x = some .cell)) && (Γ.fn x || decide (Γ.sc.names.lookup x = some .local))
theorem okN_ok (c : Ctx Γ X Wx fz) {x : Str} (h : okN Γ x = true) : L2.Loc X.env.scope x ∧ (X.fn x = true ∨ X.env.scope.names.lookup x = some .local) := by
  unfold okN at h
  simp only [Bool.and_eq_true, Bool.or_eq_true, decide_eq_true_eq] at h
  rw [L2.Loc, c.sc, c.fn]
  exact h
def nmsOf (Γ : Gam) : List Expr → Option (List Nat)
  | [] => some []
  | .Name x _ :: es => if okN Γ x then (match slotOf Γ.N x, nmsOf Γ es with
    | some i, some is => some (i :: is)
    | _, _ => none) else none
  | _ :: _ => none
def tgtOf (Γ : Gam) : Expr → Option Tgt
  | .Name x _ => if okN Γ x then (slotOf Γ.N x).map .nm else none
  | .Tuple es _ _ => if Γ.hot then none else (nmsOf Γ es).map .tp
  | _ => none
theorem nmsOf_ok (c : Ctx Γ X Wx fz) : ∀ {es : List Expr} {is : List Nat}, nmsOf Γ es = some is → PGs X es (gNames is) ∧ (assignEach es X.env).length = is.length ∧ (assignEach es X.env).findIdx? (·.1) = none
  | [], _, h => by cases h; exact ⟨pgs_nil, rfl, rfl⟩
  | e :: es, is, h => by
    unfold nmsOf at h
    split at h
    · rename_i e0; cases e0
    · rename_i _ x p es' e0
      cases e0
      split at h
      · rename_i ho
        split at h
        · rename_i i js ei ej
          cases h
          obtain ⟨h1, h2, h3⟩ := nmsOf_ok c ej
          obtain ⟨o1, o2⟩ := okN_ok c ho
          refine ⟨pgs_cons (pg_name c.nd (by rw [c.N]; exact slotOf_ok ei) o1 o2) h1 rfl, ?_, ?_⟩
          · show (assignEach es X.env).length + 1 = js.length + 1
            rw [h2]
          · show List.findIdx? (·.1) ((false, assign (.Name x p) X.env) :: assignEach es X.env) = none
            rw [List.findIdx?_cons, h3]; rfl
        · cases h
      · cases h
    · cases h
theorem tgtOf_ok (c : Ctx Γ X Wx fz) {tg : Expr} {t : Tgt} (h : tgtOf Γ tg = some t) : PG X tg (t.g (X.K, fz)) := by
  unfold tgtOf at h
  split at h
  · rename_i x p
    split at h
    · rename_i ho
      obtain ⟨i, ei, rfl⟩ := Option.map_eq_some_iff.mp h
      obtain ⟨o1, o2⟩ := okN_ok c ho
      exact pg_name c.nd (by rw [c.N]; exact slotOf_ok ei) o1 o2
    · cases h
  · rename_i es k p
    split at h
    · cases h
    rename_i hh
    obtain ⟨is, ei, rfl⟩ := Option.map_eq_some_iff.mp h
    obtain ⟨h1, h2, h3⟩ := nmsOf_ok c ei
    exact pg_tup (c.calm (by simpa using hh)) h1 h2 h3
  · cases h
def ownOf (N : List Str) (sc : Scope) : List (Str × Nat) := sc.names.filterMap fun p => if p.2 == .local || p.2 == .cell then (slotOf N p.1).map (p.1, ·) else none
def blkG (Γ : Gam) (sc : Scope) : Gam :=
  { Γ with sc := { sc with names := sc.names.map fun (n, k) => if (k == .free && Γ.sc.kind == .function && Γ.sc.names.lookup n == some .cell) then (n, .cell) else (n, k) }, fn := fun x => sc.names.lookup x == some .cell }
theorem XRz.to {X Y : Cx} {k : Nat} {c : Str} {fs : List (Str × Nat)} {n : Nat} (r : XRz X k c fs n) (h : Y.prog = X.prog ∧ Y.w = X.w ∧ Y.K = X.K ∧ Y.mg = X.mg ∧ Y.base = X.base) : XRz Y k c fs n := by
  obtain ⟨h1, h2, h3, h4, h5⟩ := h
  exact ⟨by rw [h4, h3]; exact r.mg, by rw [h1, h2, h3, h4, h5]; exact r.ex, r.ne, by rw [h3]; exact r.xf, by rw [h3]; exact r.no⟩
theorem blkG_ok (c : Ctx Γ X Wx fz) {sc : Scope} (hh : Γ.hot = false) (hk : sc.kind = .function) (s : Shared) (H : Hp) (C : Addr) (cl : List (Str × Addr)) (fp : List Addr) : Ctx (blkG Γ sc) (X.blk s H sc (compEnvC sc cl C X.env) fp) WxF fz where
  N := c.N
  nd := c.nd
  sc := by
    show relabel sc X.env = _
    unfold relabel Env.kindOf
    rw [c.sc]; rfl
  kind := hk
  fn := rfl
  calm := c.calm
  tk := takesF
  hu := c.hu
  gu := c.gu
  room := c.room
  ex0 := c.ex0
  xi := fun h => by have h : Γ.hot = true := h; rw [hh] at h; cases h
  sys := c.sys
  fr := c.fr
  con := c.con
  fns := c.fns
  mets := c.mets
  flds := c.flds
  cons := c.cons
  spe := c.spe
  isa := c.isa
  xcs := fun q hq => (c.xcs q hq).to ⟨rfl, rfl, rfl, rfl, rfl⟩
  exm := c.exm
def evIfs (T : Expr → MT) : List Expr → MT
  | [] => myes
  | [c] => T c
  | _ => mtno
def compE (E : Gam → Expr → ME) (T : Gam → Expr → MT) (Γ : Gam) (elt : Expr) (gs : List Comprehension) (sc : Scope) (pos : Pos) : ME := match gs with
  | [⟨tg, iter, ifs, 0⟩] => if blkC Γ.N Γ.sc sc (ownOf Γ.N sc) && notSet iter && decide (sc.kind = .function) && !Γ.hot then (match tgtOf (blkG Γ sc) tg with
    | some t => if t.sub ((ownOf Γ.N sc).map (·.2)) then mlc (muAtP Γ pos) (evI Γ (E Γ) tg iter) t (evIfs (T (blkG Γ sc)) ifs) (E (blkG Γ sc) elt) ((ownOf Γ.N sc).map (·.2)) else mno
    | none => mno) else mno
  | _ => mno
/-- a family of meanings serves -/
structure EOk (E : Gam → Expr → ME) (T : Gam → Expr → MT) : Prop where
  E : ∀ {fz : Gz} (Γ : Gam) (X : Cx) (Wx : WX), Ctx Γ X Wx fz → ∀ e, PE X e (tM (X.K, fz) Wx (E Γ e))
  T : ∀ {fz : Gz} (Γ : Gam) (X : Cx) (Wx : WX), Ctx Γ X Wx fz → ∀ e, PT X e (tMt (X.K, fz) Wx (T Γ e))
theorem evIfs_ok {Y : Cx} {T : Expr → MT} (h : ∀ e, PT Y e (tMt (Y.K, fz) WxF (T e))) (ifs : List Expr) : PTs Y ifs (tMt (Y.K, fz) WxF (evIfs T ifs)) := by
  unfold evIfs
  split
  · exact pts_yes
  · exact pts_one (h _)
  · exact ⟨fun _ _ _ _ _ _ ⟨_, _, _, _, _, h⟩ => h.elim⟩
theorem compE_ok {E : Gam → Expr → ME} {T : Gam → Expr → MT} (ok : EOk E T) (c : Ctx Γ X Wx fz) (elt : Expr) (gs : List Comprehension) (sc : Scope) (pos : Pos) : PE X (.ListComp elt gs sc pos) (tM (X.K, fz) Wx (compE E T Γ elt gs sc pos)) := by
  unfold compE
  split
  · rename_i tg iter ifs
    split
    · rename_i hc
      simp only [Bool.and_eq_true, Bool.not_eq_true', decide_eq_true_eq] at hc
      obtain ⟨⟨⟨hb, hn⟩, hk⟩, hh⟩ := hc
      split
      · rename_i t et
        split
        · rename_i hv
          have cb := fun fz2 (e : fz2.ex = fz.ex) s H C cl fp => blkG_ok (c.at_ (fz' := fz2) e c.tk) hh hk s H C cl fp
          refine pm_lc (c.calm hh) c.nd (evI_ok c (ok.E _ _ _ c) tg iter) (by rw [c.N, c.sc]; exact blkOk_by hb) hv (fun s H C cl fp => tgtOf_ok (cb fz rfl s H C cl fp) et) (fun fz2 e s H C cl fp => ?_) (fun fz2 e s H C cl fp => ok.E _ _ _ (cb fz2 e s H C cl fp) elt) (folded_of hn)
          exact evIfs_ok (ok.T _ _ _ (cb fz2 e s H C cl fp)) ifs
        · exact pm_no
      · exact pm_no
    · exact pm_no
  · exact pm_no
/-- the comprehension is the value of that name's store, on its line -/
def swB (Γ : Gam) (y : Str) (py : Pos) (sc : Scope) (pos : Pos) : Bool := decide (Γ.sc.names.lookup y = some .local) && py.line == pos.line && !(sc.names.any fun (n, k) => n == y && (k == .local || k == .cell))
theorem swB_ok (c : Ctx Γ X Wx fz) {elt : Expr} {gs : List Comprehension} {sc : Scope} {pos py : Pos} {y : Str} {l : Nat} : swapsWith (.ListComp elt gs sc pos) (some (.Name y py)) l X.env = pure (swB Γ y py sc pos) := by
  have hb : X.env.blockKind = .function := by unfold Env.blockKind; rw [c.sc, c.kind]; rfl
  unfold swapsWith swB
  have hk : X.env.kindOf y = Γ.sc.names.lookup y := by unfold Env.kindOf; rw [c.sc]
  simp only [hb, hk, Expr.pos]
  have e1 : (ScopeKind.function == ScopeKind.function) = true := rfl
  rw [e1, Bool.true_and]
  by_cases h : Γ.sc.names.lookup y = some .local
  · rw [h]; rfl
  · have : (Γ.sc.names.lookup y == some NameKind.local) = false := by simpa using h
    rw [this, decide_eq_false h]
theorem compS_ok {E : Gam → Expr → ME} {T : Gam → Expr → MT} (ok : EOk E T) (c : Ctx Γ X Wx fz) {i : Nat} {y : Str} (hi : Γ.N[i]? = some y) (ho : okN Γ y = true) (py : Pos) (elt : Expr) (gs : List Comprehension) (sc : Scope) (pos spos : Pos) :
    PS X (.Assign [.Name y py] (.ListComp elt gs sc pos) spos) (tMS (X.K, fz) Wx (sset i (compE E T Γ elt gs sc pos))) := by
  obtain ⟨o1, o2⟩ := okN_ok c ho
  cases hsw : swB Γ y py sc pos with
  | false => exact q_set c.nd (by rw [c.N]; exact hi) o1 (compE_ok ok c elt gs sc pos) (by rw [swB_ok c, hsw]) o2
  | true =>
    have hyl : X.env.scope.names.lookup y = some .local := by
      unfold swB at hsw
      simp only [Bool.and_eq_true, decide_eq_true_eq] at hsw
      rw [c.sc]; exact hsw.1.1
    have no : PS X (.Assign [.Name y py] (.ListComp elt gs sc pos) spos) (tMS (X.K, fz) Wx (sset i mno)) := ⟨fun _ _ _ _ _ _ ⟨_, _, _, _, _, h⟩ => h.elim⟩
    unfold compE
    split
    · rename_i tg iter ifs
      split
      · rename_i hc
        simp only [Bool.and_eq_true, Bool.not_eq_true', decide_eq_true_eq] at hc
        obtain ⟨⟨⟨hb, hn⟩, hk⟩, hh⟩ := hc
        split
        · rename_i t et
          split
          · rename_i hv
            have cb := fun fz2 (e : fz2.ex = fz.ex) s H C cl fp => blkG_ok (c.at_ (fz' := fz2) e c.tk) hh hk s H C cl fp
            refine q_setLc (c.calm hh) c.nd (by rw [c.N]; exact hi) hyl (by rw [swB_ok c, hsw]) (evI_ok c (ok.E _ _ _ c) tg iter) (by rw [c.N, c.sc]; exact blkOk_by hb) hv (fun s H C cl fp => tgtOf_ok (cb fz rfl s H C cl fp) et) (fun fz2 e s H C cl fp => ?_) (fun fz2 e s H C cl fp => ok.E _ _ _ (cb fz2 e s H C cl fp) elt) (folded_of hn)
            exact evIfs_ok (ok.T _ _ _ (cb fz2 e s H C cl fp)) ifs
          · exact no
        · exact no
      · exact no
    · exact no
/-! ### dict comprehensions -/
def dcE (E : Gam → Expr → ME) (T : Gam → Expr → MT) (Γ : Gam) (kx vx : Expr) (gs : List Comprehension) (sc : Scope) (pos : Pos) : ME := match gs with
  | [⟨tg, iter, ifs, 0⟩] => if blkC Γ.N Γ.sc sc (ownOf Γ.N sc) && notSet iter && decide (sc.kind = .function) && !Γ.hot then (match tgtOf (blkG Γ sc) tg with
    | some t => if t.sub ((ownOf Γ.N sc).map (·.2)) then mdc (muAtP Γ pos) (evI Γ (E Γ) tg iter) t (evIfs (T (blkG Γ sc)) ifs) (E (blkG Γ sc) kx) (E (blkG Γ sc) vx) ((ownOf Γ.N sc).map (·.2)) else mno
    | none => mno) else mno
  | _ => mno
theorem dcE_ok {E : Gam → Expr → ME} {T : Gam → Expr → MT} (ok : EOk E T) (c : Ctx Γ X Wx fz) (kx vx : Expr) (gs : List Comprehension) (sc : Scope) (pos : Pos) : PE X (.DictComp kx vx gs sc pos) (tM (X.K, fz) Wx (dcE E T Γ kx vx gs sc pos)) := by
  unfold dcE
  split
  · rename_i tg iter ifs
    split
    · rename_i hc
      simp only [Bool.and_eq_true, Bool.not_eq_true', decide_eq_true_eq] at hc
      obtain ⟨⟨⟨hb, hn⟩, hk⟩, hh⟩ := hc
      split
      · rename_i t et
        split
        · rename_i hv
          have cb := fun fz2 (e : fz2.ex = fz.ex) s H C cl fp => blkG_ok (c.at_ (fz' := fz2) e c.tk) hh hk s H C cl fp
          refine pm_dc (c.calm hh) c.nd (evI_ok c (ok.E _ _ _ c) tg iter) (by rw [c.N, c.sc]; exact blkOk_by hb) hv (fun s H C cl fp => tgtOf_ok (cb fz rfl s H C cl fp) et) (fun fz2 e s H C cl fp => ?_) (fun fz2 e s H C cl fp => ok.E _ _ _ (cb fz2 e s H C cl fp) kx) (fun fz2 e s H C cl fp => ok.E _ _ _ (cb fz2 e s H C cl fp) vx) (folded_of hn)
          exact evIfs_ok (ok.T _ _ _ (cb fz2 e s H C cl fp)) ifs
        · exact pm_no
      · exact pm_no
    · exact pm_no
  · exact pm_no
theorem swD_ok (c : Ctx Γ X Wx fz) {kx vx : Expr} {gs : List Comprehension} {sc : Scope} {pos py : Pos} {y : Str} {l : Nat} : swapsWith (.DictComp kx vx gs sc pos) (some (.Name y py)) l X.env = pure (swB Γ y py sc pos) := by
  have hb : X.env.blockKind = .function := by unfold Env.blockKind; rw [c.sc, c.kind]; rfl
  unfold swapsWith swB
  have hk : X.env.kindOf y = Γ.sc.names.lookup y := by unfold Env.kindOf; rw [c.sc]
  simp only [hb, hk, Expr.pos]
  have e1 : (ScopeKind.function == ScopeKind.function) = true := rfl
  rw [e1, Bool.true_and]
  by_cases h : Γ.sc.names.lookup y = some .local
  · rw [h]; rfl
  · have : (Γ.sc.names.lookup y == some NameKind.local) = false := by simpa using h
    rw [this, decide_eq_false h]
theorem dcS_ok {E : Gam → Expr → ME} {T : Gam → Expr → MT} (ok : EOk E T) (c : Ctx Γ X Wx fz) {i : Nat} {y : Str} (hi : Γ.N[i]? = some y) (ho : okN Γ y = true) (py : Pos) (kx vx : Expr) (gs : List Comprehension) (sc : Scope) (pos spos : Pos) :
    PS X (.Assign [.Name y py] (.DictComp kx vx gs sc pos) spos) (tMS (X.K, fz) Wx (sset i (dcE E T Γ kx vx gs sc pos))) := by
  obtain ⟨o1, o2⟩ := okN_ok c ho
  cases hsw : swB Γ y py sc pos with
  | false => exact q_set c.nd (by rw [c.N]; exact hi) o1 (dcE_ok ok c kx vx gs sc pos) (by rw [swD_ok c, hsw]) o2
  | true =>
    have hyl : X.env.scope.names.lookup y = some .local := by
      unfold swB at hsw
      simp only [Bool.and_eq_true, decide_eq_true_eq] at hsw
      rw [c.sc]; exact hsw.1.1
    have no : PS X (.Assign [.Name y py] (.DictComp kx vx gs sc pos) spos) (tMS (X.K, fz) Wx (sset i mno)) := ⟨fun _ _ _ _ _ _ ⟨_, _, _, _, _, h⟩ => h.elim⟩
    unfold dcE
    split
    · rename_i tg iter ifs
      split
      · rename_i hc
        simp only [Bool.and_eq_true, Bool.not_eq_true', decide_eq_true_eq] at hc
        obtain ⟨⟨⟨hb, hn⟩, hk⟩, hh⟩ := hc
        split
        · rename_i t et
          split
          · rename_i hv
            have cb := fun fz2 (e : fz2.ex = fz.ex) s H C cl fp => blkG_ok (c.at_ (fz' := fz2) e c.tk) hh hk s H C cl fp
            refine q_setDc (c.calm hh) c.nd (by rw [c.N]; exact hi) hyl (by rw [swD_ok c, hsw]) (evI_ok c (ok.E _ _ _ c) tg iter) (by rw [c.N, c.sc]; exact blkOk_by hb) hv (fun s H C cl fp => tgtOf_ok (cb fz rfl s H C cl fp) et) (fun fz2 e s H C cl fp => ?_) (fun fz2 e s H C cl fp => ok.E _ _ _ (cb fz2 e s H C cl fp) kx) (fun fz2 e s H C cl fp => ok.E _ _ _ (cb fz2 e s H C cl fp) vx) (folded_of hn)
            exact evIfs_ok (ok.T _ _ _ (cb fz2 e s H C cl fp)) ifs
          · exact no
        · exact no
      · exact no
    · exact no
end
end Va

/-! Vb4: the meanings of expressions and tests, by depth. -/
namespace Va
open PySem PySem.Spec PyProof.Rows L2
section
variable {Γ : Gam} {X : Cx} {Wx : WX} {fz : Gz}
def evBV (op : BoolOp) (E : Expr → ME) : List Expr → ME
  | [] => mno
  | [a] => E a
  | a :: b :: r => match op with
    | .And => mandV (E a) (evBV op E (b :: r))
    | .Or => morV (E a) (evBV op E (b :: r))
theorem evBV_ok {E : Expr → ME} (h : ∀ e, PE X e (tM (X.K, fz) Wx (E e))) (op : BoolOp) (pos : Pos) : ∀ vs : List Expr, PE X (.BoolOp op vs pos) (tM (X.K, fz) Wx (evBV op E vs))
  | [] => pm_no
  | [a] => pm_one (h a)
  | a :: b :: r => by
    cases op with
    | And => exact pm_andV (h a) (evBV_ok h .And pos (b :: r))
    | Or => exact pm_orV (h a) (evBV_ok h .Or pos (b :: r))
def evBT (op : BoolOp) (T : Expr → MT) : List Expr → MT
  | [] => mtno
  | [a] => T a
  | a :: b :: r => match op with
    | .And => mand (T a) (evBT op T (b :: r))
    | .Or => mor (T a) (evBT op T (b :: r))
theorem evBT_ok {T : Expr → MT} (h : ∀ e, PT X e (tMt (X.K, fz) Wx (T e))) (op : BoolOp) (pos : Pos) : ∀ vs : List Expr, PW X (.BoolOp op vs pos) (tMt (X.K, fz) Wx (evBT op T vs))
  | [] => pmw_no
  | [a] => by
    cases op with
    | And => exact pmw_and1 (h a)
    | Or => exact pmw_or1 (h a)
  | a :: b :: r => by
    cases op with
    | And => exact pmw_and (h a) (evBT_ok h .And pos (b :: r))
    | Or => exact pmw_or (h a) (evBT_ok h .Or pos (b :: r))
def evP (E : Expr → ME) : List (Option Expr) → List Expr → MPs
  | [], [] => pnil
  | some k :: ks, v :: vs => pcons (E k) (E v) (evP E ks vs)
  | _, _ => mpno
theorem pe_z {E : Expr → ME} (h : ∀ fz2 : Gz, fz2.ex = fz.ex → ∀ e, PE X e (tM (X.K, fz2) Wx (E e))) (e : Expr) : PE X e (tMz X.K fz Wx (E e)) := ⟨fun pins sh sg H Q I ⟨fz2, ez, q⟩ => (h fz2 ez e).run pins sh sg H Q I q⟩
theorem evP_ok {E : Expr → ME} (h : ∀ fz2 : Gz, fz2.ex = fz.ex → ∀ e, PE X e (tM (X.K, fz2) Wx (E e))) (pos : Pos) : ∀ (ks : List (Option Expr)) (vs : List Expr), ∃ trs, PPs X pos ks vs trs ∧ PPm X.K fz Wx trs (evP E ks vs)
  | [], [] => ⟨[], pps_nil, ppm_nil⟩
  | some k :: ks, v :: vs => by
    obtain ⟨trs, h1, h2⟩ := evP_ok h pos ks vs
    exact ⟨_, pps_cons (pe_z h k) (pe_z h v) h1, ppm_cons h2⟩
  | [], v :: vs => ⟨[(fun _ _ _ => False, fun _ _ _ => False)], ⟨fun _ _ _ _ _ _ q => q.elim⟩, ⟨fun _ _ _ _ _ _ _ _ _ _ q => q.elim⟩⟩
  | k :: ks, [] => ⟨[(fun _ _ _ => False, fun _ _ _ => False)], ⟨fun _ _ _ _ _ _ q => q.elim⟩, ⟨fun _ _ _ _ _ _ _ _ _ _ q => by cases k <;> exact q.elim⟩⟩
  | none :: ks, v :: vs => ⟨[(fun _ _ _ => False, fun _ _ _ => False)], ⟨fun _ _ _ _ _ _ q => q.elim⟩, ⟨fun _ _ _ _ _ _ _ _ _ _ q => q.elim⟩⟩
def evO (E : Expr → ME) : Option Expr → MO
  | none => mnop
  | some e => mpart (E e)
theorem evO_ok {E : Expr → ME} (h : ∀ e, PE X e (tM (X.K, fz) Wx (E e))) : ∀ o : Option Expr, PO X o (tMo (X.K, fz) Wx (evO E o))
  | none => pmo_none
  | some e => pmo_some (h e)
/-! the constructors one by one -/
def unE (op : UnaryOp) (a : ME) : ME := match op with
  | .USub => mun gNeg a
  | .Not => mnotV a
  | _ => mno
theorem unE_ok {a : Expr} {ma : ME} (op : UnaryOp) (pos : Pos) (h : PE X a (tM (X.K, fz) Wx ma)) : PE X (.UnaryOp op a pos) (tM (X.K, fz) Wx (unE op ma)) := by
  cases op with
  | USub => exact pm_un un_neg l_neg h
  | Not => exact pm_notV h
  | _ => exact pm_no
def cmp1 (op : CmpOp) (a : ME) (e : Expr) (b : ME) : ME := if notSet e then (match cmpG op with
    | some g => mbin g a b
    | none => mno) else mno
def cmp2 (op op' : CmpOp) (a b : ME) (e : Expr) (c : ME) : ME := if notSet e then (match cmpG op, cmpG op' with
    | some g, some g' => mchain g g' a b c
    | _, _ => mno) else mno
def cmpE (E : Expr → ME) (a : Expr) : List CmpOp → List Expr → ME
  | [op], [b] => cmp1 op (E a) b (E b)
  | [op, op'], [b, c] => cmp2 op op' (E a) (E b) c (E c)
  | _, _ => mno
theorem cmpE_ok (c : Ctx Γ X Wx fz) {E : Expr → ME} (h : ∀ e, PE X e (tM (X.K, fz) Wx (E e))) (a : Expr) (pos : Pos) : ∀ (ops : List CmpOp) (cs : List Expr), PE X (.Compare a ops cs pos) (tM (X.K, fz) Wx (cmpE E a ops cs))
  | [op], [b] => by
    show PE X _ (tM (X.K, fz) Wx (cmp1 op (E a) b (E b)))
    unfold cmp1
    split
    · rename_i hs
      split
      · rename_i g eg
        obtain ⟨r, h1, h2⟩ := cmpG_ok c eg
        exact pm_cmp h1 h2 (h _) (h _) (behind_of hs)
      · exact pm_no
    · exact pm_no
  | [op, op'], [b, d] => by
    show PE X _ (tM (X.K, fz) Wx (cmp2 op op' (E a) (E b) d (E d)))
    unfold cmp2
    split
    · rename_i hs
      split
      · rename_i g g' eg eg'
        obtain ⟨r, h1, h2⟩ := cmpG_ok c eg
        obtain ⟨r', h1', h2'⟩ := cmpG_ok c eg'
        exact pm_chain h1 h2 h1' h2' (h _) (h _) (h _) (behind_of hs)
      · exact pm_no
    · exact pm_no
  | [], _ => pm_no
  | [_], [] => pm_no
  | [_], _ :: _ :: _ => pm_no
  | [_, _], [] => pm_no
  | [_, _], [_] => pm_no
  | [_, _], _ :: _ :: _ :: _ => pm_no
  | _ :: _ :: _ :: _, _ => pm_no
def dictE (mu : Bool) (E : Expr → ME) (ks : List (Option Expr)) (vs : List Expr) : ME :=
  if ks.isEmpty && vs.isEmpty then mdnew mu else if ks.all (·.isSome) && decide (ks.length = vs.length) && decide (ks.length ≤ 15) && !ks.isEmpty then mdisp mu (evP E ks vs) else mno
theorem dictE_ok {E : Expr → ME} (h : ∀ fz2 : Gz, fz2.ex = fz.ex → ∀ e, PE X e (tM (X.K, fz2) Wx (E e))) (mu : Bool) (ks : List (Option Expr)) (vs : List Expr) (pos : Pos) : PE X (.Dict ks vs pos) (tM (X.K, fz) Wx (dictE mu E ks vs)) := by
  unfold dictE
  split
  · rename_i hc
    cases ks with
    | nil => cases vs with
      | nil => exact pm_dnew
      | cons _ _ => cases hc
    | cons _ _ => cases hc
  · split
    · rename_i hc
      simp only [Bool.and_eq_true, decide_eq_true_eq] at hc
      obtain ⟨trs, h1, h2⟩ := evP_ok h pos ks vs
      refine pm_disp h1 h2 hc.1.1.1 hc.1.1.2 (fun e => ?_) hc.1.2
      subst e
      cases hc.2
    · exact pm_no
def stpE (E : Expr → ME) (a : Expr) : Option Expr → Option Expr → Expr → ME
  | none, none, .UnaryOp .USub (.Constant (.int 1) _ _) _ => mun gRevS (E a)
  | _, _, _ => mno
def subE (mu : Bool) (E : Expr → ME) (a b : Expr) : ME := match b with
  | .Slice lo hi st _ => (match st with
    | none => mslice mu (E a) (evO E lo) (evO E hi)
    | some e => stpE E a lo hi e)
  | b => mbin gIx (E a) (E b)
theorem stpE_ok {E : Expr → ME} (h : ∀ e, PE X e (tM (X.K, fz) Wx (E e))) (a : Expr) (lo hi : Option Expr) (e : Expr) (p pos : Pos) : PE X (.Subscript a (.Slice lo hi (some e) p) pos) (tM (X.K, fz) Wx (stpE E a lo hi e)) := by
  unfold stpE
  split
  · exact pm_revS (h a)
  · exact pm_no
theorem subE_ok (c : Ctx Γ X Wx fz) {E : Expr → ME} (h : ∀ e, PE X e (tM (X.K, fz) Wx (E e))) (mu : Bool) (a b : Expr) (pos : Pos) : PE X (.Subscript a b pos) (tM (X.K, fz) Wx (subE mu E a b)) := by
  have go : notSlice b = true → PE X (.Subscript a b pos) (tM (X.K, fz) Wx (mbin gIx (E a) (E b))) := fun hb => pm_ix (ix_Q c.u1) l_q2 (h _) (h _) (plainIx_of hb)
  cases b with
  | Slice lo hi st p =>
    cases st with
    | none => exact pm_slice (h _) (evO_ok h _) (evO_ok h _)
    | some e => exact stpE_ok h a lo hi e p pos
  | _ => exact go rfl
def callX (Γ : Gam) (E : Expr → ME) (f : Expr) (args : List Expr) (kws : List Keyword) (pos : Pos) : ME := match f with
  | .Name x _ => callE Γ E x args kws pos
  | .Attribute o m ap => attrC Γ E o m ap args kws pos
  | _ => mno
theorem callX_ok (c : Ctx Γ X Wx fz) {E : Expr → ME} (h : ∀ e, PE X e (tM (X.K, fz) Wx (E e))) (f : Expr) (args : List Expr) (kws : List Keyword) (pos : Pos) : PE X (.Call f args kws pos) (tM (X.K, fz) Wx (callX Γ E f args kws pos)) := by
  cases f with
  | Name x p => exact callE_ok c h x p args kws pos
  | Attribute o m ap => exact attrC_ok c h o m ap args kws pos
  | _ => exact pm_no
def stepE (E : Gam → Expr → ME) (T : Gam → Expr → MT) (Γ : Gam) (e : Expr) : ME := match e with
  | .Name x _ => nameE Γ x
  | .Constant c _ _ => constE c
  | .BinOp a op b p => binE (muAtP Γ p) op (E Γ a) (E Γ b)
  | .UnaryOp op a _ => unE op (E Γ a)
  | .BoolOp op vs _ => evBV op (E Γ) vs
  | .Compare a ops cs _ => cmpE (E Γ) a ops cs
  | .IfExp t a b _ => mif (T Γ t) (E Γ a) (E Γ b)
  | .Tuple es _ _ => mtup (evA (E Γ) es)
  | .List es p => mlst (muAtP Γ p) (evA (E Γ) es)
  | .Dict ks vs p => dictE (muAtP Γ p) (E Γ) ks vs
  | .Subscript a b p => subE (muAtP Γ p) (E Γ) a b
  | .Attribute o f _ => attrE Γ (E Γ) o f
  | .Call f args kws pos => callX Γ (E Γ) f args kws pos
  | .ListComp elt gs sc p => compE E T Γ elt gs sc p
  | .DictComp kx vx gs sc p => dcE E T Γ kx vx gs sc p
  | _ => mno
def cmp1T (op : CmpOp) (a : ME) (e : Expr) (b : ME) : MT := if notSet e then (match cmpG op with
    | some g => mtb (mbin g a b)
    | none => mtno) else mtno
def cmp2T (op op' : CmpOp) (a b : ME) (e : Expr) (c : ME) : MT := if notSet e then (match cmpG op, cmpG op' with
    | some g, some g' => mtb (mchain g g' a b c)
    | _, _ => mtno) else mtno
def cmpT (E : Expr → ME) (a : Expr) : List CmpOp → List Expr → MT
  | [op], [b] => cmp1T op (E a) b (E b)
  | [op, op'], [b, c] => cmp2T op op' (E a) (E b) c (E c)
  | _, _ => mtno
theorem cmpT_ok (c : Ctx Γ X Wx fz) {E : Expr → ME} (h : ∀ e, PE X e (tM (X.K, fz) Wx (E e))) (a : Expr) (pos : Pos) : ∀ (ops : List CmpOp) (cs : List Expr), PT X (.Compare a ops cs pos) (tMt (X.K, fz) Wx (cmpT E a ops cs))
  | [op], [b] => by
    show PT X _ (tMt (X.K, fz) Wx (cmp1T op (E a) b (E b)))
    unfold cmp1T
    split
    · rename_i hs
      split
      · rename_i g eg
        obtain ⟨r, h1, h2⟩ := cmpG_ok c eg
        exact pmt_cmp h1 h2 (h _) (h _) (behind_of hs)
      · exact pmt_no
    · exact pmt_no
  | [op, op'], [b, d] => by
    show PT X _ (tMt (X.K, fz) Wx (cmp2T op op' (E a) (E b) d (E d)))
    unfold cmp2T
    split
    · rename_i hs
      split
      · rename_i g g' eg eg'
        obtain ⟨r, h1, h2⟩ := cmpG_ok c eg
        obtain ⟨r', h1', h2'⟩ := cmpG_ok c eg'
        exact pmt_chain h1 h2 h1' h2' (h _) (h _) (h _) (behind_of hs)
      · exact pmt_no
    · exact pmt_no
  | [], _ => pmt_no
  | [_], [] => pmt_no
  | [_], _ :: _ :: _ => pmt_no
  | [_, _], [] => pmt_no
  | [_, _], [_] => pmt_no
  | [_, _], _ :: _ :: _ :: _ => pmt_no
  | _ :: _ :: _ :: _, _ => pmt_no
def unT (E : Expr → ME) (T : Expr → MT) (op : UnaryOp) (a : Expr) (e : Expr) : MT := match op with
  | .Not => mnot (T a)
  | _ => mtru gtru (E e)
def stepT (E : Gam → Expr → ME) (T : Gam → Expr → MT) (Γ : Gam) (e : Expr) : MT := match e with
  | .UnaryOp op a p => unT (E Γ) (T Γ) op a (.UnaryOp op a p)
  | .BoolOp op vs _ => evBT op (T Γ) vs
  | .Compare a ops cs _ => cmpT (E Γ) a ops cs
  | .IfExp _ _ _ _ => mtno
  | e => mtru gtru (E Γ e)
theorem stepE_ok {E : Gam → Expr → ME} {T : Gam → Expr → MT} (ok : EOk E T) (c : Ctx Γ X Wx fz) (e : Expr) : PE X e (tM (X.K, fz) Wx (stepE E T Γ e)) := by
  have hE := ok.E (fz := fz) Γ X Wx c
  have hT := ok.T (fz := fz) Γ X Wx c
  cases e with
  | Name x p => exact nameE_ok c _ _
  | Constant k j p => exact constE_ok _ _ _
  | BinOp a op b p => exact binE_ok _ _ _ (hE _) (hE _)
  | UnaryOp op a p => exact unE_ok _ _ (hE _)
  | BoolOp op vs p => exact evBV_ok hE _ _ _
  | Compare a ops cs p => exact cmpE_ok c hE _ _ _ _
  | IfExp t a b p => exact pm_if (hT _) (hE _) (hE _)
  | Tuple es k p => exact pm_tup (evA_ok hE _)
  | List es p => exact pm_lst (evA_ok hE _)
  | Dict ks vs p => exact dictE_ok (fun fz2 ez => ok.E (fz := fz2) Γ X Wx (c.at_ ez c.tk)) _ _ _ _
  | Subscript a b p => exact subE_ok c hE _ _ _ _
  | Attribute o f p => exact attrE_ok c hE _ _ _
  | Call f args kws p => exact callX_ok c hE _ _ _ _
  | ListComp elt gs sc p => exact compE_ok ok c _ _ _ _
  | DictComp kx vx gs sc p => exact dcE_ok ok c _ _ _ _ _
  | _ => exact pm_no
theorem stepT_ok {E : Gam → Expr → ME} {T : Gam → Expr → MT} (ok : EOk E T) (c : Ctx Γ X Wx fz) (e : Expr) : PT X e (tMt (X.K, fz) Wx (stepT E T Γ e)) := by
  have hE := ok.E (fz := fz) Γ X Wx c
  have hT := ok.T (fz := fz) Γ X Wx c
  cases e with
  | UnaryOp op a p =>
    cases op with
    | Not => exact pmt_not (hT _)
    | _ => exact pmt_truth (hE _) (isTrue_of rfl)
  | BoolOp op vs p => exact (evBT_ok hT _ _ _).pt
  | Compare a ops cs p => exact cmpT_ok c hE _ _ _ _
  | IfExp _ _ _ _ => exact pmt_no
  | _ => exact pmt_truth (hE _) (isTrue_of rfl)
structure Sm where
  E : Gam → Expr → ME
  T : Gam → Expr → MT
def sem : Nat → Sm
  | 0 => ⟨fun _ _ => mno, fun _ _ => mtno⟩
  | n + 1 => ⟨stepE (sem n).E (sem n).T, stepT (sem n).E (sem n).T⟩
theorem sem_ok : ∀ n : Nat, EOk (sem n).E (sem n).T
  | 0 => ⟨fun _ _ _ _ _ => pm_no, fun _ _ _ _ _ => pmt_no⟩
  | n + 1 => ⟨fun _ _ _ c e => stepE_ok (sem_ok n) c e, fun _ _ _ c e => stepT_ok (sem_ok n) c e⟩
end
end Va

/-! Vb5: the meanings of statements. -/
namespace Va
open PySem PySem.Spec PyProof.Rows L2
section
variable {Γ : Gam} {X : Cx} {Wx : WX} {fz : Gz}
/-! ### targets -/
def evG1 (Γ : Gam) (E : Expr → ME) (tg : Expr) : MG := match tg with
  | .Name x _ => if okN Γ x then (match slotOf Γ.N x with
    | some i => gname i
    | none => mgno) else mgno
  | .Subscript o i _ => if notSlice i then gsub (E o) (E i) gSetI else mgno
  | _ => mgno
theorem evG1_ok (c : Ctx Γ X Wx fz) {E : Expr → ME} (h : ∀ e, PE X e (tM (X.K, fz) Wx (E e))) (tg : Expr) : PG X tg (tMG (X.K, fz) Wx (evG1 Γ E tg)) := by
  cases tg with
  | Name x p =>
    show PG X _ (tMG (X.K, fz) Wx (if okN Γ x then _ else _))
    split
    · rename_i ho
      obtain ⟨o1, o2⟩ := okN_ok c ho
      split
      · rename_i i ei
        exact qg_name c.nd (by rw [c.N]; exact slotOf_ok ei) o1 o2
      · exact qg_no
    · exact qg_no
  | Subscript o i p =>
    show PG X _ (tMG (X.K, fz) Wx (if notSlice i then _ else _))
    split
    · rename_i hi
      refine qg_sub (h o) (h i) (set_Q c.u1) fun v => ?_
      cases i <;> first | rfl | cases hi
    · exact qg_no
  | _ => exact qg_no
def evGs (Γ : Gam) (E : Expr → ME) : List Expr → MGs
  | [] => gnil
  | t :: ts => if notStar t then gcons (evG1 Γ E t) (evGs Γ E ts) else mgsno
theorem assignEach_cons {e : Expr} {es : List Expr} {env : Env} (h : notStar e = true) : assignEach (e :: es) env = (false, assign e env) :: assignEach es env := by
  cases e <;> first | rfl | cases h
theorem evGs_ok (c : Ctx Γ X Wx fz) {E : Expr → ME} (h : ∀ Wx, Ctx Γ X Wx fz → ∀ e, PE X e (tM (X.K, fz) Wx (E e))) : ∀ ts : List Expr, PGs X ts (tMGs (X.K, fz) Wx (evGs Γ E ts))
  | [] => qgs_nil
  | t :: ts => by
    unfold evGs
    split
    · rename_i hs
      exact qgs_cons (evG1_ok c.noraise (h _ c.noraise) t) (evGs_ok c h ts) (by rw [assignEach_cons hs]; rfl)
    · exact qgs_no
theorem assignEach_all {env : Env} : ∀ {ts : List Expr}, ts.all notStar = true → (assignEach ts env).length = ts.length ∧ (assignEach ts env).findIdx? (·.1) = none
  | [], _ => ⟨rfl, rfl⟩
  | t :: ts, h => by
    simp only [List.all_cons, Bool.and_eq_true] at h
    obtain ⟨h1, h2⟩ := assignEach_all (env := env) h.2
    rw [assignEach_cons h.1]
    refine ⟨by simp [h1], ?_⟩
    rw [List.findIdx?_cons, h2]; rfl
def evG (Γ : Gam) (E : Expr → ME) (tg : Expr) : MG := match tg with
  | .Tuple ts _ _ => if ts.all notStar && !Γ.hot then gtup ts.length (evGs Γ E ts) else mgno
  | tg => evG1 Γ E tg
theorem evG_ok (c : Ctx Γ X Wx fz) {E : Expr → ME} (h : ∀ Wx, Ctx Γ X Wx fz → ∀ e, PE X e (tM (X.K, fz) Wx (E e))) (tg : Expr) : PG X tg (tMG (X.K, fz) Wx (evG Γ E tg)) := by
  cases tg with
  | Tuple ts k p =>
    show PG X _ (tMG (X.K, fz) Wx (if ts.all notStar && !Γ.hot then _ else _))
    split
    · rename_i hs
      simp only [Bool.and_eq_true, Bool.not_eq_true'] at hs
      obtain ⟨hs, hh⟩ := hs
      obtain ⟨h1, h2⟩ := assignEach_all (env := X.env) hs
      exact qg_tup (c.calm hh) (evGs_ok c h ts) h1 h2
    · exact qg_no
  | _ => exact evG1_ok c (h _ c) _
/-! ### assignments -/
def isStarred : Expr → Bool
  | .Starred _ _ => true
  | _ => false
def swN (Γ : Gam) (ts vs : List Expr) : Option (Option (List Str)) :=
  if !(ts.length == 2 || ts.length == 3) || vs.length != ts.length then some none else
  if vs.any isStarred then some none else
  let line := (ts.head?.map (·.pos.line)).getD 0
  let names := ts.filterMap fun
    | .Name id pos => if Γ.sc.names.lookup id == some .local && pos.line == line then some id else none
    | _ => none
  if names.length != ts.length || names.eraseDups.length != names.length then some none else
  if vs.all (foldedForSure 8) then some none else
  if vs.all (constantsAlone 8) then none else some (some names)
theorem Ctx.bk (c : Ctx Γ X Wx fz) : X.env.blockKind = .function := by unfold Env.blockKind; rw [c.sc, c.kind]; rfl
theorem swN_ok (c : Ctx Γ X Wx fz) {ts vs : List Expr} {k k' : Nat} {p p' : Pos} {r : Option (List Str)} (h : swN Γ ts vs = some r) : swappedStores [.Tuple ts k p] (.Tuple vs k' p') X.env = pure r := by
  have hk : ∀ y, X.env.kindOf y = Γ.sc.names.lookup y := fun y => by unfold Env.kindOf; rw [c.sc]
  unfold swN at h
  unfold swappedStores
  simp only [c.bk, hk]
  have e1 : (ScopeKind.function != ScopeKind.function) = false := rfl
  rw [e1, Bool.or_false]
  split at h
  · rename_i h1
    cases h
    exact if_pos h1
  · rename_i h1
    refine (if_neg h1).trans ?_
    split at h
    · rename_i h2
      cases h
      exact if_pos h2
    · rename_i h2
      refine (if_neg h2).trans ?_
      dsimp only at h
      split at h
      · rename_i h3
        cases h
        exact if_pos h3
      · rename_i h3
        refine (if_neg h3).trans ?_
        split at h
        · rename_i h4
          cases h
          exact if_pos h4
        · rename_i h4
          refine (if_neg h4).trans ?_
          split at h
          · cases h
          · rename_i h5
            cases h
            exact if_neg h5
def lcl (Γ : Gam) (x : Str) : Bool := decide (Γ.sc.names.lookup x = some .local)
def parE (Γ : Gam) (E : Expr → ME) (names : List Str) (ts vs : List Expr) : MS := match ts, vs with
  | [.Name x _, .Name y _], [a, b] => if !Γ.hot && decide (names = [x, y]) && lcl Γ x && lcl Γ y then (match slotOf Γ.N x, slotOf Γ.N y with
    | some i, some j => if i ≠ j then spar [i, j] (evA E [a, b]) else sno
    | _, _ => sno) else sno
  | [.Name x _, .Name y _, .Name z _], [a, b, d] => if !Γ.hot && decide (names = [x, y, z]) && lcl Γ x && lcl Γ y && lcl Γ z then (match slotOf Γ.N x, slotOf Γ.N y, slotOf Γ.N z with
    | some i, some j, some l => if i ≠ j ∧ i ≠ l ∧ j ≠ l then spar [i, j, l] (evA E [a, b, d]) else sno
    | _, _, _ => sno) else sno
  | _, _ => sno
theorem lcl_ok (c : Ctx Γ X Wx fz) {x : Str} (h : lcl Γ x = true) : X.env.scope.names.lookup x = some .local := by
  rw [c.sc]; exact of_decide_eq_true h
theorem parE_ok (c : Ctx Γ X Wx fz) {E : Expr → ME} (h : ∀ e, PE X e (tM (X.K, fz) Wx (E e))) {names : List Str} {ts vs : List Expr} {k k' : Nat} {p p' pos : Pos} (hw : swappedStores [.Tuple ts k p] (.Tuple vs k' p') X.env = pure (some names)) :
    PS X (.Assign [.Tuple ts k p] (.Tuple vs k' p') pos) (tMS (X.K, fz) Wx (parE Γ E names ts vs)) := by
  unfold parE
  split
  · rename_i x px y py a b
    split
    · rename_i hc
      simp only [Bool.and_eq_true, Bool.not_eq_true', decide_eq_true_eq] at hc
      obtain ⟨⟨⟨hh, en⟩, hx⟩, hy⟩ := hc
      subst en
      split
      · rename_i i j ei ej
        split
        · rename_i hij
          exact q_par (c.calm hh) c.nd (by rw [c.N]; exact slotOf_ok ei) (by rw [c.N]; exact slotOf_ok ej) hij (lcl_ok c hx) (lcl_ok c hy) (evA_ok h _) hw rfl
        · exact q_no
      · exact q_no
    · exact q_no
  · rename_i x px y py z pz a b d
    split
    · rename_i hc
      simp only [Bool.and_eq_true, Bool.not_eq_true', decide_eq_true_eq] at hc
      obtain ⟨⟨⟨⟨hh, en⟩, hx⟩, hy⟩, hz⟩ := hc
      subst en
      split
      · rename_i i j l ei ej el
        split
        · rename_i hij
          exact q_par3 (c.calm hh) c.nd (by rw [c.N]; exact slotOf_ok ei) (by rw [c.N]; exact slotOf_ok ej) (by rw [c.N]; exact slotOf_ok el) hij.1 hij.2.1 hij.2.2 (lcl_ok c hx) (lcl_ok c hy) (lcl_ok c hz) (evA_ok h _) hw rfl
        · exact q_no
      · exact q_no
    · exact q_no
  · exact q_no
/-- target = value -/
def tupS (Γ : Gam) (E : Expr → ME) (ts : List Expr) (e tg : Expr) : MS := match e with
  | .Tuple vs _ _ => (match swN Γ ts vs with
    | some (some names) => parE Γ E names ts vs
    | some none => sasg (E e) (evG Γ E tg)
    | none => sno)
  | _ => if notComp e then sasg (E e) (evG Γ E tg) else sno
def nmS (E : Gam → Expr → ME) (T : Gam → Expr → MT) (Γ : Gam) (x : Str) (e : Expr) : MS := if okN Γ x then (match slotOf Γ.N x with
  | some i => (match e with
    | .ListComp elt gs sc p => sset i (compE E T Γ elt gs sc p)
    | .DictComp kx vx gs sc p => sset i (dcE E T Γ kx vx gs sc p)
    | _ => if notComp e then sset i (E Γ e) else sno)
  | none => sno) else sno
def asgS (E : Gam → Expr → ME) (T : Gam → Expr → MT) (Γ : Gam) (tg e : Expr) : MS := match tg with
  | .Name x _ => nmS E T Γ x e
  | .Tuple ts _ _ => tupS Γ (E Γ) ts e tg
  | .Subscript _ _ _ => if notComp e then sasg (E Γ e) (evG Γ (E Γ) tg) else sno
  | .Attribute o f _ => (match assocS Γ.flds f with
    | some cs => if notSuper o then sfld cs f (E Γ o) (E Γ e) else sno
    | none => sno)
  | _ => sno
theorem swapsA {o e : Expr} {f : Str} {p : Pos} {l : Nat} {env : Env} : swapsWith e (some (.Attribute o f p)) l env = pure false := by
  cases e <;> rfl
theorem swapsSole_of {t e : Expr} {l : Nat} {env : Env} (h : notComp e = true) : swapsWithSole [t] e l env = pure false := by
  unfold swapsWithSole
  exact swaps_of h
def notTup : Expr → Bool
  | .Tuple _ _ _ => false
  | _ => true
theorem swapN {tg e : Expr} {env : Env} (h : notTup e = true) : swappedStores [tg] e env = pure none := by
  unfold swappedStores
  cases tg <;> cases e <;> first | rfl | cases h
theorem asgS_ok {E : Gam → Expr → ME} {T : Gam → Expr → MT} (ok : EOk E T) (c : Ctx Γ X Wx fz) (tg e : Expr) (pos : Pos) : PS X (.Assign [tg] e pos) (tMS (X.K, fz) Wx (asgS E T Γ tg e)) := by
  have hE : ∀ Wx, Ctx Γ X Wx fz → ∀ e, PE X e (tM (X.K, fz) Wx (E Γ e)) := fun Wx c => ok.E (fz := fz) Γ X Wx c
  cases tg with
  | Name x p =>
    show PS X _ (tMS (X.K, fz) Wx (nmS E T Γ x e))
    unfold nmS
    split
    · rename_i ho
      obtain ⟨o1, o2⟩ := okN_ok c ho
      split
      · rename_i i ei
        have gen : notComp e = true → PS X (.Assign [.Name x p] e pos) (tMS (X.K, fz) Wx (sset i (E Γ e))) := fun hn => q_set c.nd (by rw [c.N]; exact slotOf_ok ei) o1 (hE _ c e) (swaps_of hn) o2
        have gen' : PS X (.Assign [.Name x p] e pos) (tMS (X.K, fz) Wx (if notComp e then sset i (E Γ e) else sno)) := by
          split
          · exact gen ‹_›
          · exact q_no
        cases e with
        | ListComp elt gs sc lp => exact compS_ok ok c (slotOf_ok ei) ho p elt gs sc lp pos
        | DictComp kx vx gs sc lp => exact dcS_ok ok c (slotOf_ok ei) ho p kx vx gs sc lp pos
        | _ => exact gen'
      · exact q_no
    · exact q_no
  | Tuple ts k p =>
    show PS X _ (tMS (X.K, fz) Wx (tupS Γ (E Γ) ts e (.Tuple ts k p)))
    have gen : notComp e = true → swappedStores [.Tuple ts k p] e X.env = pure none → PS X (.Assign [.Tuple ts k p] e pos) (tMS (X.K, fz) Wx (sasg (E Γ e) (evG Γ (E Γ) (.Tuple ts k p)))) := fun hn hw =>
      q_asg (hE _ c e) (evG_ok c hE _) (swapsSole_of hn) hw rfl
    have gen' : notTup e = true → PS X (.Assign [.Tuple ts k p] e pos) (tMS (X.K, fz) Wx (if notComp e then sasg (E Γ e) (evG Γ (E Γ) (.Tuple ts k p)) else sno)) := fun h => by
      split
      · exact gen ‹_› (swapN h)
      · exact q_no
    cases e with
    | Tuple vs k' p' =>
      show PS X _ (tMS (X.K, fz) Wx (match swN Γ ts vs with
        | some (some names) => parE Γ (E Γ) names ts vs
        | some none => sasg (E Γ (.Tuple vs k' p')) (evG Γ (E Γ) (.Tuple ts k p))
        | none => sno))
      split
      · rename_i names en
        exact parE_ok c (hE _ c) (swN_ok c en)
      · rename_i en
        exact gen rfl (swN_ok c en)
      · exact q_no
    | _ => exact gen' rfl
  | Subscript o i p =>
    show PS X _ (tMS (X.K, fz) Wx (if notComp e then sasg (E Γ e) (evG Γ (E Γ) (.Subscript o i p)) else sno))
    split
    · rename_i hn
      refine q_asg (hE _ c e) (evG_ok c hE _) (swapsSole_of hn) ?_ rfl
      unfold swappedStores
      cases e <;> rfl
    · exact q_no
  | Attribute o f p =>
    show PS X _ (tMS (X.K, fz) Wx (match assocS Γ.flds f with
      | some cs => if notSuper o then sfld cs f (E Γ o) (E Γ e) else sno
      | none => sno))
    split
    · rename_i cs ec
      split
      · exact q_fld (c.flds _ (assocS_ok ec)) (hE _ c o) (hE _ c e) swapsA
      · exact q_no
    · exact q_no
  | _ => exact q_no
def augG : Operator → Option G2
  | .Add => some (gIpI fun i j => i + j)
  | .Sub => some (gIpI fun i j => i - j)
  | _ => none
theorem augG_ok {op : Operator} {g : G2} (h : augG op = some g) : PIp X op (tIpQ (X.K, fz) g) := by
  cases op <;> cases h
  · exact ipQ_of ip_add
  · exact ipQ_of ip_sub
def augS (E : Expr → ME) (Γ : Gam) (tg : Expr) (op : Operator) (e : Expr) : MS := match tg with
  | .Name x _ => if okN Γ x then (match slotOf Γ.N x, augG op with
    | some i, some g => saug i g (E e)
    | _, _ => sno) else sno
  | _ => sno
theorem augS_ok (c : Ctx Γ X Wx fz) {E : Expr → ME} (h : ∀ e, PE X e (tM (X.K, fz) Wx (E e))) (tg : Expr) (op : Operator) (e : Expr) (pos : Pos) : PS X (.AugAssign tg op e pos) (tMS (X.K, fz) Wx (augS E Γ tg op e)) := by
  cases tg with
  | Name x p =>
    show PS X _ (tMS (X.K, fz) Wx (if okN Γ x then _ else _))
    split
    · rename_i ho
      obtain ⟨o1, o2⟩ := okN_ok c ho
      split
      · rename_i i g ei eg
        exact q_aug c.nd (by rw [c.N]; exact slotOf_ok ei) o1 (h e) (augG_ok eg) o2
      · exact q_no
    · exact q_no
  | _ => exact q_no
/-! ### statements -/
structure SCtx (Γ : Gam) (X : Cx) (Wx : WX) (fz : Gz) : Prop extends Ctx Γ X Wx fz where
  hp : Γ.hot = false → PassesOwn (model X.prog X.w) X.A X.env X.xe
  stk : Γ.hot = false → X.stack = X.env :: X.outer
  frm_ : Γ.hot = false → X.env.frame = some X.env.locals
def hotG (Γ : Gam) : Gam := { Γ with hot := true }
theorem suite_ctx (c : Ctx Γ X Wx fz) {a : Addr} {oe : Obj} {cls : Value} {d : Option Addr} {pn : List (Addr × Obj)} {f : Gz} {n : Nat} (hz : Zc cls d oe) (hv : ∃ vs, oe.data = .fields vs) : SCtx (hotG Γ) (X.suite a ((a, oe) :: pn)) WxF (f.withX (some (n, a, cls, d))) where
  N := c.N
  nd := c.nd
  sc := c.sc
  kind := c.kind
  fn := c.fn
  calm := fun h => nomatch (show true = false from h)
  tk := takesF
  hu := c.hu
  gu := c.gu
  room := fun h => nomatch (show true = false from h)
  ex0 := fun h => nomatch (show true = false from h)
  xi := fun _ => ⟨X, a, oe, cls, d, pn, n, rfl, hz, hv, rfl⟩
  sys := c.sys
  fr := c.fr
  con := c.con
  fns := c.fns
  mets := c.mets
  flds := c.flds
  cons := c.cons
  spe := c.spe
  isa := c.isa
  xcs := fun q hq => (c.xcs q hq).to ⟨rfl, rfl, rfl, rfl, rfl⟩
  exm := c.exm
  hp := fun h => nomatch (show true = false from h)
  stk := fun h => nomatch (show true = false from h)
  frm_ := fun h => nomatch (show true = false from h)
theorem tr_ctx (c : SCtx Γ X Wx fz) {W : WX} {pn : List (Addr × Obj)} {xe : Value → Shared → Prop} (tk : Takes (X.tr pn xe) W) (hp : PassesOwn (model X.prog X.w) X.A X.env xe) (hh : Γ.hot = false) : SCtx Γ (X.tr pn xe) W fz where
  N := c.N
  nd := c.nd
  sc := c.sc
  kind := c.kind
  fn := c.fn
  calm := c.calm
  tk := tk
  hu := c.hu
  gu := c.gu
  room := c.room
  ex0 := c.ex0
  xi := fun h => by rw [hh] at h; cases h
  sys := c.sys
  fr := c.fr
  con := c.con
  fns := c.fns
  mets := c.mets
  flds := c.flds
  cons := c.cons
  spe := c.spe
  isa := c.isa
  xcs := fun q hq => (c.xcs q hq).to ⟨rfl, rfl, rfl, rfl, rfl⟩
  exm := c.exm
  hp := fun _ => hp
  stk := c.stk
  frm_ := c.frm_
/-- the table of which clause takes which class -/
def exmL (l : List (Str × Str × Bool)) (c x : Str) : Option Bool := match l with
  | [] => none
  | (a, b, v) :: r => if a = c ∧ b = x then some v else exmL r c x
theorem exmL_ok {c x : Str} {b : Bool} : ∀ {l : List (Str × Str × Bool)}, exmL l c x = some b → (c, x, b) ∈ l
  | [], h => nomatch h
  | (a, y, v) :: r, h => by
    unfold exmL at h
    split at h
    · rename_i e; obtain ⟨rfl, rfl⟩ := e; cases h; exact List.mem_cons_self
    · exact List.mem_cons_of_mem _ (exmL_ok h)
def clsOk (Γ : Gam) (x : Str) : Bool := decide (Γ.sc.names.lookup x = some .globalImplicit) && !odd x && decide (assocS Γ.con x = some (.gl x))
theorem clsOk_ok (c : Ctx Γ X Wx fz) {x : Str} (h : clsOk Γ x = true) : Names X x (.ref (He.ga X.K x)) := by
  unfold clsOk at h
  simp only [Bool.and_eq_true, Bool.not_eq_true', decide_eq_true_eq] at h
  obtain ⟨⟨h1, h2⟩, h3⟩ := h
  obtain ⟨u, v, m1, m2, m3⟩ := c.con _ (assocS_ok h3)
  have ev := m3 fz ⟨[], fun _ => none⟩
  cases ev
  obtain rfl : u = Value.ref (He.ga X.K x) := m2
  exact ⟨c.gl h1, (odd_ok h2).1, .inl m1⟩
def evSs (S : Stmt → MS) : List Stmt → MS
  | [] => snil
  | st :: r => sseq (S st) (evSs S r)
theorem evSs_ok {S : Stmt → MS} (h : ∀ st, PS X st (tMS (X.K, fz) Wx (S st))) : ∀ l : List Stmt, PSs X l (tMS (X.K, fz) Wx (evSs S l))
  | [] => qs_nil
  | st :: r => qs_cons (h st) (evSs_ok h r)
def exprS (E : Expr → ME) (e : Expr) : MS := match e with
  | .Constant (.str _) _ _ => spass
  | e => if notComp e then sexpr (E e) else sno
theorem exprS_ok {E : Expr → ME} (h : ∀ e, PE X e (tM (X.K, fz) Wx (E e))) (e : Expr) (pos : Pos) : PS X (.Expr e pos) (tMS (X.K, fz) Wx (exprS E e)) := by
  have gen : PS X (.Expr e pos) (tMS (X.K, fz) Wx (if notComp e then sexpr (E e) else sno)) := by
    split
    · exact q_expr (h e) (swaps_of ‹_›)
    · exact q_no
  cases e with
  | Constant k j p =>
    cases k with
    | str x => exact q_doc
    | _ => exact gen
  | _ => exact gen
def hdsOf (S : Gam → Stmt → MS) (Γ : Gam) : List ExceptHandler → Option (List (Str × MS))
  | [] => some []
  | .ExceptHandler (some (.Name x _)) none (b :: suite) _ :: r => if clsOk Γ x then (match hdsOf S Γ r with
    | some l => some ((x, evSs (S (hotG Γ)) (b :: suite)) :: l)
    | none => none) else none
  | _ :: _ => none
abbrev SOk (S : Gam → Stmt → MS) : Prop := ∀ (Γ : Gam) (X : Cx) (Wx : WX) (fz : Gz), SCtx Γ X Wx fz → ∀ (st : Stmt), PS X st (tMS (X.K, fz) Wx (S Γ st))
theorem suite_ok (c : Ctx Γ X Wx fz) {S : Gam → Stmt → MS} (hSz : SOk S) (body : List Stmt) {a : Addr} {oe : Obj} {cls : Value} {d : Option Addr} {pn : List (Addr × Obj)} (hz : Zc cls d oe) (hv : ∃ vs, oe.data = .fields vs) : PSs (X.suite a ((a, oe) :: pn)) body (tsu X.K (evSs (S (hotG Γ)) body) a cls d) :=
  ⟨fun pins s σ H D I ⟨f, n, _, h⟩ => (evSs_ok (hSz _ _ _ _ (suite_ctx (f := f) (n := n) c hz hv)) body).run pins s σ H D I h⟩
theorem hdsOf_ok (c : Ctx Γ X Wx fz) {S : Gam → Stmt → MS} (hSz : SOk S) : ∀ {hds : List ExceptHandler} {l : List (Str × MS)}, hdsOf S Γ hds = some l → HdsOk X hds (l.map fun q => (Value.ref (He.ga X.K q.1), tsu X.K q.2))
  | [], _, h => by cases h; exact .nil
  | hd :: r, l, h => by
    unfold hdsOf at h
    split at h
    · rename_i e; cases e
    · rename_i x p b suite pos' r' e
      cases e
      split at h
      · rename_i hc
        split at h
        · rename_i l' el
          cases h
          exact .cons (clsOk_ok c hc) (fun a oe cls d pn hz hv => suite_ok c hSz _ hz hv) (hdsOf_ok c hSz el)
        · cases h
      · cases h
    · cases h
def tryM (S : Gam → Stmt → MS) (Γ : Gam) (body : List Stmt) (hds : List ExceptHandler) : MS := match hds, hdsOf S Γ hds with
  | _ :: _, some l => stry (exmL Γ.exm) (evSs (S Γ) body) (l.map fun q => ⟨[q.1], none, q.2⟩)
  | _, _ => sno
def tryS (S : Gam → Stmt → MS) (Γ : Gam) (body : List Stmt) (hds : List ExceptHandler) : MS := if !Γ.hot then (match hds with
  | [.ExceptHandler (some (.Name x _)) (some n) (b :: suite) _] => if clsOk Γ x && lcl Γ n then (match slotOf Γ.N n with
    | some i => stry (exmL Γ.exm) (evSs (S Γ) body) [⟨[x], some i, evSs (S (hotG Γ)) (b :: suite)⟩]
    | none => sno) else sno
  | hds => tryM S Γ body hds) else sno
theorem tryM_ok (c : SCtx Γ X Wx fz) (hh : Γ.hot = false) {S : Gam → Stmt → MS} (hSz : SOk S) (body : List Stmt) (hds : List ExceptHandler) (pos : Pos) : PS X (.Try body hds [] [] pos) (tMS (X.K, fz) Wx (tryM S Γ body hds)) := by
  unfold tryM
  split
  · rename_i h0 hr l el
    refine q_tryM (c.ex0 hh) (c.stk hh) (c.frm_ hh) c.tk (fun c' x b e => c.exm _ (exmL_ok e)) (fun W pn xe tk hp => ?_) (hdsOf_ok c.toCtx hSz el)
    exact evSs_ok (hSz _ _ _ _ (tr_ctx c tk hp hh)) body
  · exact q_no
theorem tryS_ok (c : SCtx Γ X Wx fz) {S : Gam → Stmt → MS} (hSz : SOk S) (body : List Stmt) (hds : List ExceptHandler) (pos : Pos) : PS X (.Try body hds [] [] pos) (tMS (X.K, fz) Wx (tryS S Γ body hds)) := by
  unfold tryS
  split
  · rename_i hh
    have hh : Γ.hot = false := by simpa using hh
    split
    · rename_i x np n b suite pos'
      split
      · rename_i hc
        simp only [Bool.and_eq_true] at hc
        split
        · rename_i i ei
          refine q_tryA (c.ex0 hh) (c.stk hh) (c.frm_ hh) c.nd (by rw [c.N]; exact slotOf_ok ei) (lcl_ok c.toCtx hc.2) (clsOk_ok c.toCtx hc.1) c.tk (fun c' x b e => c.exm _ (exmL_ok e)) (fun W pn xe tk hp => ?_) (fun a oe cls d pn hz hv => suite_ok c.toCtx hSz _ hz hv)
          exact evSs_ok (hSz _ _ _ _ (tr_ctx c tk hp hh)) body
        · exact q_no
      · exact q_no
    · exact tryM_ok c hh hSz body _ pos
  · exact q_no
def raiseS (E : Expr → ME) (Γ : Gam) (x : Str) (args : List Expr) : MS :=
  if !Γ.hot && args.all notStar && !odd x && decide (Γ.sc.names.lookup x = some .globalImplicit) then (match args, assocS Γ.xcs x with
    | _ :: _, some (fs, n) => sraise x fs n (evA E args)
    | _, _ => sno) else sno
theorem raiseS_ok (c : Ctx Γ X Wx fz) {E : Expr → ME} (h : ∀ e, PE X e (tM (X.K, fz) Wx (E e))) (x : Str) (p : Pos) (args : List Expr) (pos cpos : Pos) : PS X (.Raise (some (.Call (.Name x p) args [] cpos)) none pos) (tMS (X.K, fz) Wx (raiseS E Γ x args)) := by
  unfold raiseS
  split
  · rename_i hc
    simp only [Bool.and_eq_true, Bool.not_eq_true', decide_eq_true_eq] at hc
    obtain ⟨⟨⟨hh, hs⟩, ho⟩, hk⟩ := hc
    split
    · rename_i e0 es fs n ex
      have r := c.xcs _ (assocS_ok ex)
      obtain ⟨e, j, fI, fd, ps, h1, h2, h3, h4, h5, h6, h7⟩ := r.ex
      exact q_raise c.tk (c.calm hh) (pmk_x h1 h2 h3 h4 h5 ((c.room hh).mono h6) h7 r.ne.1 (c.gl hk) r.mg hs (List.cons_ne_nil _ _) ho r.ne.2 (evA_ok h _))
    · exact q_no
  · exact q_no
def raiseG (E : Expr → ME) (Γ : Gam) : Option Expr → Option Expr → MS
  | some (.Call (.Name x _) args [] _), none => raiseS E Γ x args
  | _, _ => sno
theorem raiseG_ok (c : Ctx Γ X Wx fz) {E : Expr → ME} (h : ∀ e, PE X e (tM (X.K, fz) Wx (E e))) (a b : Option Expr) (pos : Pos) : PS X (.Raise a b pos) (tMS (X.K, fz) Wx (raiseG E Γ a b)) := by
  unfold raiseG
  split
  · exact raiseS_ok c h _ _ _ _ _
  · exact q_no
def retS (E : Expr → ME) : Option Expr → MS
  | none => sretN
  | some e => sret (E e)
def ifEmpty (l : List Stmt) (m : MS) : MS := match l with
  | [] => m
  | _ :: _ => sno
def asg1 (E : Gam → Expr → ME) (T : Gam → Expr → MT) (Γ : Gam) (ts : List Expr) (e : Expr) : MS := match ts with
  | [tg] => asgS E T Γ tg e
  | _ => sno
noncomputable def stepS (E : Gam → Expr → ME) (T : Gam → Expr → MT) (S : Gam → Stmt → MS) (Γ : Gam) (st : Stmt) : MS := match st with
  | .Return v _ => retS (E Γ) v
  | .Assign ts e _ => asg1 E T Γ ts e
  | .AugAssign tg op e _ => augS (E Γ) Γ tg op e
  | .For tg iter body orelse _ => ifEmpty orelse (if notSet iter && !Γ.hot then sfor (evI Γ (E Γ) tg iter) (evG Γ (E Γ) tg) (evSs (S Γ) body) else sno)
  | .While c body orelse _ => ifEmpty orelse (if Γ.hot then sno else swhile (T Γ c) (evSs (S Γ) body))
  | .If c a b _ => sif (T Γ c) (evSs (S Γ) a) (evSs (S Γ) b)
  | .Expr e _ => exprS (E Γ) e
  | .Pass _ => spass
  | .Raise a b _ => raiseG (E Γ) Γ a b
  | .Try body hds orelse fin _ => ifEmpty orelse (ifEmpty fin (tryS S Γ body hds))
  | .Break _ => sbreak
  | .Continue _ => scont
  | _ => sno
theorem stepS_ok {E : Gam → Expr → ME} {T : Gam → Expr → MT} {S : Gam → Stmt → MS} (ok : EOk E T) (c : SCtx Γ X Wx fz) (hSz : SOk S) (st : Stmt) : PS X st (tMS (X.K, fz) Wx (stepS E T S Γ st)) := by
  have hE : ∀ Wx, Ctx Γ X Wx fz → ∀ e, PE X e (tM (X.K, fz) Wx (E Γ e)) := fun Wx c => ok.E (fz := fz) Γ X Wx c
  have hE0 := hE _ c.toCtx
  have hT := ok.T (fz := fz) Γ X Wx c.toCtx
  have hS := hSz Γ X Wx fz c
  cases st with
  | Return v p => cases v with
    | none => exact q_retN
    | some e => exact q_ret (hE0 e)
  | Assign ts e p =>
    match ts with
    | [] => exact q_no
    | [tg] => exact asgS_ok ok c.toCtx tg e p
    | _ :: _ :: _ => exact q_no
  | AugAssign tg op e p => exact augS_ok c.toCtx hE0 tg op e p
  | For tg iter body orelse p => cases orelse with
    | cons _ _ => exact q_no
    | nil =>
      show PS X _ (tMS (X.K, fz) Wx (if notSet iter && !Γ.hot then _ else _))
      split
      · rename_i hn
        simp only [Bool.and_eq_true, Bool.not_eq_true'] at hn
        obtain ⟨hn, hh⟩ := hn
        have cw := fun W fz2 (tk : Takes X W) (ez : fz2.ex = fz.ex) => ({ c.toCtx.at_ ez tk with hp := c.hp, stk := c.stk, frm_ := c.frm_ } : SCtx Γ X W fz2)
        exact q_for (c.hp hh) (c.calm hh) (evI_ok c.toCtx hE0 tg iter) c.tk (fun W fz2 tk ez => evG_ok (cw W fz2 tk ez).toCtx (fun Wx c => ok.E (fz := fz2) Γ X Wx c) tg) (fun W fz2 tk ez => evSs_ok (hSz Γ X W fz2 (cw W fz2 tk ez)) body) (folded_of hn)
      · exact q_no
  | While t body orelse p => cases orelse with
    | cons _ _ => exact q_no
    | nil =>
      show PS X _ (tMS (X.K, fz) Wx (if Γ.hot then _ else _))
      split
      · exact q_no
      · rename_i hh; exact q_while (c.hp (by simpa using hh)) (hT t) (evSs_ok hS body)
  | If t a b p => exact q_if (hT t) (evSs_ok hS a) (evSs_ok hS b)
  | Expr e p => exact exprS_ok hE0 e p
  | Pass p => exact q_pass
  | Raise a b p => exact raiseG_ok c.toCtx hE0 a b p
  | Try body hds orelse fin p => cases orelse with
    | cons _ _ => exact q_no
    | nil => cases fin with
      | cons _ _ => exact q_no
      | nil => exact tryS_ok c hSz body hds p
  | Break p => exact q_break
  | Continue p => exact q_cont
  | _ => exact q_no
noncomputable def semS (E : Gam → Expr → ME) (T : Gam → Expr → MT) : Nat → Gam → Stmt → MS
  | 0 => fun _ _ => sno
  | n + 1 => stepS E T (semS E T n)
theorem semS_ok {E : Gam → Expr → ME} {T : Gam → Expr → MT} (ok : EOk E T) : ∀ (n : Nat) (Γ : Gam) (X : Cx) (Wx : WX) (fz : Gz), SCtx Γ X Wx fz → ∀ (st : Stmt), PS X st (tMS (X.K, fz) Wx (semS E T n Γ st))
  | 0, _, _, _, _, _, _ => q_no
  | n + 1, _, _, _, _, c, st => stepS_ok ok c (semS_ok ok n) st
/-- a def's body's meaning -/
noncomputable def semB (Γ : Gam) (body : List Stmt) : MS := evSs (semS (sem 30).E (sem 30).T 12 Γ) body
theorem semB_ok (c : SCtx Γ X Wx fz) (body : List Stmt) : PSs X body (tMS (X.K, fz) Wx (semB Γ body)) := evSs_ok (semS_ok (sem_ok 30) 12 _ _ _ _ c) body
end
end Va

/-! Vb6: the law is called by the caller; the head's facts; the defs one after another. -/
namespace Va
open PySem PySem.Spec PyProof.Rows L2
section
variable {P : Program} {w : World} {K : PySem.W.Frag} {mg mb : Str → Option Value} {k : Nat} {fa a : Addr} {fd : FuncData} {x : Str} {m : MF} {s₁ : Shared} {vs : List Value} {ns : List Int}
/-- the law runs on a script that is only read -/
theorem law_at (H : Hp) (KX : K.In s₁.heap) (hns : s₁.heap.Ns mainGlobals mg) (hb : s₁.heap.Ns builtinsNs mb) (hbb : ∀ x : Str, x ≠ "__name__" → mb x = bootBuiltins x) (hlim : s₁.heap.NoLimit) (hg : s₁.gens = #[])
    (ha : s₁.heap.get? a = some { cls := .type "list", data := .seq vs.toArray }) (hr : Room k callerA)
    (F : ∀ base : Heap, K.In base → base.Ns mainGlobals mg → FnA P w K mg base k fa m) (hm : ∃ s', m [.cst (ns.map .int)] [] [] = .ok (.bl true) s')
    (only : ∀ b u, H b = some u → b = a ∧ K.lookup a = none ∧ ∃ o xs, u = .frz o (.lst xs)) (hS : SqL K H a (ns.map V.int)) (ok : HOk P w H s₁.heap) :
    codeAny (model P w) callerA (.call (.ref fa) ⟨[.ref a], []⟩) (fun r s' => r = .ok (.ret (.bool true)) ∧ OldK s₁.heap s'.heap ∧ s'.os = s₁.os ∧ AllBare s'.gens) s₁ := by
  have free : ∀ {b : Addr} {o : Obj}, s₁.heap.get? b = some o → (b = a → K.lookup a = none → False) → H b = none := fun {b o} e no => by
    cases q : H b with
    | none => rfl
    | some u => exact (no (only b u q).1 (only b u q).2.1).elim
  have keep : ∀ {b : Addr} {o : Obj}, s₁.heap.get? b = some o → (b = a → K.lookup a = none → False) → (hidT s₁.heap H).get? b = some o := fun e no => hidT_get e (free e no)
  have dictNs : ∀ {b : Addr} {g : Str → Option Value}, s₁.heap.Ns b g → (hidT s₁.heap H).Ns b g := by
    rintro b g ⟨o, es, ep, e, d, r⟩
    refine ⟨o, es, ep, keep e fun eb _ => ?_, d, r⟩
    rw [eb, ha] at e
    cases e
    exact absurd d (fun z => nomatch z)
  have part : K.In (hidT s₁.heap H) := fun b o e => keep (KX b o e) fun eb hn => by
    rw [← eb, e] at hn
    cases hn
  have md : Mod K mg (hidT s₁.heap H) := by
    obtain ⟨mc, l1, l2⟩ := hlim
    exact ⟨part, dictNs hns, ⟨mb, dictNs hb, hbb⟩, ⟨mc, dictNs l1, l2⟩⟩
  have env : Env0 P w K mg (hidT s₁.heap H) callerA [] s₁ H := by
    refine ⟨rfl, md, fun b o => of_hidT, Nat.le_of_eq (hidT_size _ _), trivial, fun b hb => ?_, ok, AllBare.of_eq hg⟩
    exact absurd hb List.not_mem_nil
  have sim : Sim (K, (⟨fun _ => none, fun _ => none, none⟩ : Gz)) ⟨[], H⟩ [] H := by
    have no : ∀ (i : Nat) (o : O), ([] : Sto)[i]? = some o → False := fun i o e => by simp at e
    refine ⟨rfl, fun i o b e => (no _ _ e).elim, fun i j b o u _ _ e => (no _ _ e).elim, fun i b o _ e => (no _ _ e).elim, fun b u e => ?_, fun b ob e => (nomatch e), fun b u e => (nomatch e), fun i c d e => (no _ _ e).elim⟩
    rw [lockd_none rfl]; exact e
  have rints : ∀ (g : Gh) (ns : List Int), RWs (K, (⟨fun _ => none, fun _ => none, none⟩ : Gz)) g (ns.map .int) (ns.map V.int) := fun g ns => by
    induction ns with
    | nil => exact .nil
    | cons n ns ih => exact .cons .int ih
  have rscr : RW (K, (⟨fun _ => none, fun _ => none, none⟩ : Gz)) ⟨[], H⟩ (.cst (ns.map .int)) (.ref a) := .nd (rints _ ns) hS
  obtain ⟨sz, em⟩ := hm
  have post : PostC (K, (⟨fun _ => none, fun _ => none, none⟩ : Gz)) ⟨[], H⟩ (fun v _ => v = .bl true) (fun _ _ _ => False) (m [.cst (ns.map .int)] [] []) := by
    rw [em]
    exact fun al' H' p S v r => by cases r; rfl
  refine codeAny_mono ((F _ part (dictNs hns)).run (⟨fun _ => none, fun _ => none, none⟩ : Gz) rfl callerA [] s₁ H [.ref a] [] [.ref a] [] [.cst (ns.map .int)] [] ⟨[], H⟩ [] (fun v _ => v = .bl true) (fun _ _ _ => False) hr rfl env (.cons rfl .nil) .nil sim (.cons rscr .nil) .nil post) fun r s' h => ?_
  cases r with
  | error e =>
    obtain ⟨_, _, _, _, _, _, _, _, _, _, _, _, z⟩ := h
    exact z.elim
  | ok fl =>
    cases fl with
    | ret u =>
      obtain ⟨v, H', os, bare, un, ok', r', q⟩ := h
      cases (show v = .bl true from q)
      cases (show u = Value.bool true from r')
      refine ⟨rfl, OldK.of_keep fun b o e => ?_, os, bare⟩
      cases q : H b with
      | none => exact un.keep b o e q (fun z => absurd z List.not_mem_nil) List.not_mem_nil
      | some u =>
        obtain ⟨_, _, ob, xs, eu⟩ := only b u q
        rw [eu] at q
        have at1 := (ok b _ q).1
        have at2 := (ok' b _ (un.frzs b ob _ q)).1
        rw [e] at at1
        cases at1
        exact at2
    | next => exact h.elim
    | brk => exact h.elim
    | cont => exact h.elim
/-- nothing but the script is tracked -/
def scr (a : Addr) (vs : List Value) (ns : List Int) : Hp := fun b => if b = a then some (.frz { cls := .type "list", data := .seq vs.toArray } (.lst (ns.map V.int))) else none
theorem law_q (KX : K.In s₁.heap) (hns : s₁.heap.Ns mainGlobals mg) (hb : s₁.heap.Ns builtinsNs mb) (hbb : ∀ x : Str, x ≠ "__name__" → mb x = bootBuiltins x) (hlim : s₁.heap.NoLimit) (hg : s₁.gens = #[])
    (ha : s₁.heap.get? a = some { cls := .type "list", data := .seq vs.toArray }) (hi : IntsAre vs ns) (hl : ns.length ≤ sizeLine) (hr : Room k callerA)
    (F : ∀ base : Heap, K.In base → base.Ns mainGlobals mg → FnA P w K mg base k fa m) (hm : ∃ s', m [.cst (ns.map .int)] [] [] = .ok (.bl true) s') :
    codeAny (model P w) callerA (.call (.ref fa) ⟨[.ref a], []⟩) (fun r s' => r = .ok (.ret (.bool true)) ∧ OldK s₁.heap s'.heap ∧ s'.os = s₁.os ∧ AllBare s'.gens) s₁ := by
  have rv := vals_ints hi
  have len := hi.length
  cases hk : K.lookup a with
  | some o =>
    have e := KX a o hk
    rw [ha] at e
    cases e
    refine law_at (fun _ => none) KX hns hb hbb hlim hg ha hr F hm (fun b u z => nomatch z) (.inr ⟨_, vs.toArray, 0, hk, rfl, rfl, rfl, ?_, ?_⟩) fun b u z => nomatch z
    · rw [List.size_toArray, len]; exact hl
    · simpa using rv
  | none =>
    have inv : ∀ b u, scr a vs ns b = some u → b = a ∧ u = .frz { cls := .type "list", data := .seq vs.toArray } (.lst (ns.map V.int)) := fun b u z => by
      unfold scr at z
      by_cases h : b = a
      · rw [if_pos h] at z; exact ⟨h, (Option.some.inj z).symm⟩
      · rw [if_neg h] at z; cases z
    refine law_at (scr a vs ns) KX hns hb hbb hlim hg ha hr F hm (fun b u z => ?_) (.inl (.inr ⟨_, if_pos rfl⟩)) fun b u z => ?_
    · exact ⟨(inv b u z).1, hk, _, _, (inv b u z).2⟩
    · obtain ⟨rfl, rfl⟩ := inv b u z
      refine ⟨ha, ?_, vs, 0, rv, ha⟩
      rw [List.length_map]; exact hl
end
/-! ### the Hook: He's facts, sys.modules, any further look -/
abbrev AlV : Type := He.AlD × Bool
def sysB (K : PySem.W.Frag) : Bool := match K.lookup sysModules with
  | some o => decide (o.cls = .type "dict")
  | none => false
def obsV (fa : List He.Fa) (fn : List He.DefD) (ex : PySem.W.Frag → Bool) (K : PySem.W.Frag) : AlV := (He.obsD fa fn K, sysB K && ex K)
def valV' (fn : List He.DefD) : AlV := (He.valD fn, true)
def asV (g : Addr → Option Obj) (n : Nat) : List Addr := sysModules :: cStatics :: He.asD g n
def obsVG (n : Nat) (fa : List He.Fa) (fn : List He.DefD) (ex : PySem.W.Frag → Bool) (g : Addr → Option Obj) : AlV := obsV fa fn ex (He.frG g (asV g n))
def hookV (n : Nat) (fa : List He.Fa) (fn : List He.DefD) (ex : PySem.W.Frag → Bool) : PySem.W.Hook where
  α := AlV
  obs := fun s => obsVG n fa fn ex s.heap.get?
  val := fun _ => valV' fn
  says := fun _ h => ∃ K : PySem.W.Frag, K.In h ∧ obsV fa fn ex K = valV' fn
  of := fun _ _ e => ⟨_, He.frG_in, e⟩
  keeps := fun _ _ _ ⟨K, hK, c⟩ k => ⟨K, PySem.W.Frag.In.keeps hK k, c⟩
theorem obsVG_eq {n : Nat} {fa : List He.Fa} {fn : List He.DefD} {ex : PySem.W.Frag → Bool} {g : Addr → Option Obj} {s : Shared} (h : ∀ a, g a = s.heap.get? a) : obsVG n fa fn ex g = (hookV n fa fn ex).obs s := by
  have e : g = s.heap.get? := funext h
  rw [e]
  rfl
structure SaysV (fa : List He.Fa) (fn : List He.DefD) (ex : PySem.W.Frag → Bool) (K : PySem.W.Frag) : Prop where
  fact : ∀ f ∈ fa, f.ok K = true
  def_ : ∀ (i : Nat) (d : He.DefD), fn[i]? = some d → ∃ fd, FunD K d.name d.qual d.params d.body d.scope (d.dvs K) (d.kws K) (He.fAd K d.at_) fd
  sys : ∃ o, K.lookup sysModules = some o ∧ o.cls = .type "dict"
  ex : ex K = true
theorem saysV_of {fa : List He.Fa} {fn : List He.DefD} {ex : PySem.W.Frag → Bool} {K : PySem.W.Frag} (c : obsV fa fn ex K = valV' fn) : SaysV fa fn ex K := by
  have c1 : He.SaysD fa fn K := congrArg (fun z : AlV => z.1) c
  have c2 : (sysB K && ex K) = true := congrArg (fun z : AlV => z.2) c
  obtain ⟨c3, c4⟩ := He.ba c2
  refine ⟨fun f hf => ?_, fun i d h => c1.def_ i h, ?_, c4⟩
  · obtain ⟨i, hi⟩ := List.getElem?_of_mem hf
    exact c1.fact i hi
  · unfold sysB at c3
    cases e : K.lookup sysModules with
    | none => rw [e] at c3; cases c3
    | some o => rw [e] at c3; exact ⟨o, rfl, of_decide_eq_true c3⟩


/-! ### what the text's names stand for -/
structure Gam0 where
  con : List (Str × W)
  free : List Str
  tbl : List (Ty × Ty × Bool)
  cs : List Str
  xcs : List (Str × List (Str × Nat) × Nat)
  exm : List (Str × Str × Bool)
  flds : List (Str × List Str)
  cons : List (Str × List (Str × W))
  md : List (Pos × Nat)
def conFa (p : Str × W) : He.Fa := match p.2 with
  | .str z => .str p.1 z
  | .int i => .int p.1 i
  | _ => .glo p.1
/-- the constants are texts, ints, classes -/
def conOk (p : Str × W) : Bool := match p.2 with
  | .str _ => true
  | .int _ => true
  | .gl y => decide (y = p.1)
  | _ => false
/-- the classes of a text: made by an __init__, and their methods -/
structure ClsT where
  c : Str
  ms : List Str
  deriving DecidableEq
def ClsT.fa (t : ClsT) : List He.Fa := .cls t.c :: .mkr t.c :: t.ms.map fun m => .meth t.c m
def fldFa (q : Str × List Str) : List He.Fa := q.2.map fun c => .noat c q.1
def Gam0.fa (g : Gam0) (ds : List Str) (cl : List ClsT) : List He.Fa := ds.map .glo ++ (g.free.map .free ++ (g.con.map conFa ++ (cl.flatMap ClsT.fa ++ g.flds.flatMap fldFa)))
structure G0Ok (g : Gam0) (cl : List ClsT) (K : PySem.W.Frag) (mg : Str → Option Value) : Prop where
  fr : ∀ x ∈ g.free, mg x = none
  con : ∀ p ∈ g.con, ∃ u v, mg p.1 = some u ∧ RelV v u ∧ ∀ fz g, RW (K, fz) g p.2 v
  isa : IsaOk K g.tbl g.cs
  sys : ∃ o, K.lookup sysModules = some o ∧ o.cls = .type "dict"
  exm : ∀ q ∈ g.exm, PySem.W.exmOne K (.ref (He.ga K q.1)) (.ref (He.ga K q.2.1)) = some q.2.2
  cls : ∀ t ∈ cl, Cls K (He.ga K t.c) ∧ Mk K (He.ga K t.c) (He.ma K (He.ga K t.c) "__init__") ∧ ∀ m ∈ t.ms, Meth K (He.ga K t.c) m (He.ma K (He.ga K t.c) m)
  flds : ∀ q ∈ g.flds, FldOk K q.2 q.1
  cons : ∀ q ∈ g.cons, ConOk K q.2 q.1
/-- the own exception classes of the text -/
structure XRb (P : Program) (w : World) (K : PySem.W.Frag) (mg : Str → Option Value) (base : Heap) (c : Str) (fs : List (Str × Nat)) (n : Nat) : Prop where
  at_ : mg c = some (.ref (He.ga K c))
  ex : ∃ e fI fd ps, XCls K e (He.ga K c) ∧ PySem.W.findIn K (.ref (He.ga K c)) "__init__" = some (some (.ref fI)) ∧ PySem.W.typeIn K (.ref fI) = some (.type "function") ∧ ps.length = n + 1 ∧ FnOk P w K mg base CX0 1 fI fd ps (spI (He.ga K c) fs n) ∧ Binds K fd ps []
  ne : fs ≠ [] ∧ n ≤ 900
  xf : XfC K (He.ga K c)
  no : ∀ p ∈ fs, PySem.W.findIn K (.ref (He.ga K c)) p.1 = some none
def XTabOk (P : Program) (w : World) (K : PySem.W.Frag) (mg : Str → Option Value) (base : Heap) (k : Nat) (l : List (Str × List (Str × Nat) × Nat)) : Prop := ∀ q ∈ l, 2 ≤ k ∧ XRb P w K mg base q.1 q.2.1 q.2.2
theorem xtab_nil {P : Program} {w : World} {K : PySem.W.Frag} {mg : Str → Option Value} {base : Heap} {k : Nat} : XTabOk P w K mg base k [] := fun _ h => nomatch h
theorem xtab_cons {P : Program} {w : World} {K : PySem.W.Frag} {mg : Str → Option Value} {base : Heap} {k : Nat} {c : Str} {fs : List (Str × Nat)} {n : Nat} {l : List (Str × List (Str × Nat) × Nat)} (hk : 2 ≤ k) (h : XRb P w K mg base c fs n) (r : XTabOk P w K mg base k l) : XTabOk P w K mg base k ((c, fs, n) :: l) := fun q hq => by
  rcases List.mem_cons.mp hq with rfl | hq
  · exact ⟨hk, h⟩
  · exact r q hq
theorem XTabOk.up {P : Program} {w : World} {K : PySem.W.Frag} {mg : Str → Option Value} {base : Heap} {j k : Nat} {l : List (Str × List (Str × Nat) × Nat)} (h : XTabOk P w K mg base j l) (hk : j ≤ k) : XTabOk P w K mg base k l := fun q hq => ⟨Nat.le_trans (h q hq).1 hk, (h q hq).2⟩
/-- the further look: isinstance's table -/
def exmB (g : Gam0) (K : PySem.W.Frag) : Bool := g.exm.all fun q => decide (PySem.W.exmOne K (.ref (He.ga K q.1)) (.ref (He.ga K q.2.1)) = some q.2.2)
def isaB (g : Gam0) (K : PySem.W.Frag) : Bool :=
  (g.tbl.all fun q => decide (PySem.W.kitOne K (q.1.v K) (q.2.1.v K) = some q.2.2)) &&
  ((g.cs.all fun x => (He.Fa.cls x).ok K && (decide (PySem.W.findIn K (.ref (He.ga K x)) "__class__" = some (some (.builtin "object.__class__"))) && decide (PySem.W.mroIn K (He.ga K x) (.type "object") = some true))) &&
  (decide (PySem.W.specialIn K (.builtin "object.__class__") "__get__" = some (some (.builtin "getset_descriptor.__get__"))) && decide (PySem.W.takesIn K (.builtin "object.__class__") = some true)))
theorem isaB_ok {g : Gam0} {K : PySem.W.Frag} (h : isaB g K = true) : IsaOk K g.tbl g.cs := by
  unfold isaB at h
  obtain ⟨h1, h⟩ := He.ba h
  obtain ⟨h2, h⟩ := He.ba h
  obtain ⟨h3, h4⟩ := He.ba h
  refine ⟨fun q hq => of_decide_eq_true (List.all_eq_true.mp h1 q hq), fun x hx => ?_, of_decide_eq_true h3, of_decide_eq_true h4⟩
  obtain ⟨a1, a⟩ := He.ba (List.all_eq_true.mp h2 x hx)
  obtain ⟨a2, a3⟩ := He.ba a
  exact ⟨He.cls_ok a1, of_decide_eq_true a2, of_decide_eq_true a3⟩
/-- the constants of the classes -/
def dvOf : W → Option He.Dv
  | .int i => some (.int i)
  | .str x => some (.str x)
  | .bl b => some (.bl b)
  | .non => some .non
  | _ => none
def consB (g : Gam0) (K : PySem.W.Frag) : Bool := g.cons.all fun q => !(PySem.W.copiedNames.contains q.1) && q.2.all fun p => match dvOf p.2 with
  | some d => (He.Fa.cls p.1).ok K && He.conB K p.1 q.1 d
  | none => false
theorem dvOf_ok {K : PySem.W.Frag} {w : W} {d : He.Dv} (h : dvOf w = some d) : ∀ fz g, RW (K, fz) g w (d.v K) := by
  intro fz g
  unfold dvOf at h
  split at h <;> cases h
  · exact .int
  · exact .str
  · exact .bl
  · exact .non
theorem consB_ok {g : Gam0} {K : PySem.W.Frag} (h : consB g K = true) : ∀ q ∈ g.cons, ConOk K q.2 q.1 := by
  intro q hq p hp
  unfold consB at h
  obtain ⟨h1, h2⟩ := He.ba (List.all_eq_true.mp h q hq)
  have h3 := List.all_eq_true.mp h2 p hp
  cases ed : dvOf p.2 with
  | none => rw [ed] at h3; cases h3
  | some d =>
    rw [ed] at h3
    obtain ⟨h4, h5⟩ := He.ba h3
    obtain ⟨u, hu⟩ := He.conB_ok h5 (by simpa using h1)
    exact ⟨He.cls_ok h4, _, u, hu, dvOf_ok ed⟩
def lookB (g : Gam0) (K : PySem.W.Frag) : Bool := isaB g K && (exmB g K && consB g K)
theorem g0_of {g : Gam0} {ds : List Str} {cl : List ClsT} {fn : List He.DefD} {ex : PySem.W.Frag → Bool} {K : PySem.W.Frag} {h : Heap} {mg : Str → Option Value} (c : SaysV (g.fa ds cl) fn ex K) (hi : lookB g K = true) (hc : g.con.all conOk = true) (hf : (g.flds.all fun q => q.2.all fun x => cl.any fun t => decide (t.c = x)) = true) (X : K.In h) (G : h.Ns mainGlobals mg) : G0Ok g cl K mg := by
  obtain ⟨hi, hx⟩ := He.ba hi
  obtain ⟨hx, hk⟩ := He.ba hx
  have f1 : ∀ f ∈ g.free.map He.Fa.free, f.ok K = true := fun f hf => c.fact _ (List.mem_append_right _ (List.mem_append_left _ hf))
  have f2 : ∀ f ∈ g.con.map conFa, f.ok K = true := fun f hf => c.fact _ (List.mem_append_right _ (List.mem_append_right _ (List.mem_append_left _ hf)))
  have f3 : ∀ f ∈ cl.flatMap ClsT.fa, f.ok K = true := fun f hf => c.fact _ (List.mem_append_right _ (List.mem_append_right _ (List.mem_append_right _ (List.mem_append_left _ hf))))
  have f4 : ∀ f ∈ g.flds.flatMap fldFa, f.ok K = true := fun f hf => c.fact _ (List.mem_append_right _ (List.mem_append_right _ (List.mem_append_right _ (List.mem_append_right _ hf))))
  have hcl : ∀ t ∈ cl, Cls K (He.ga K t.c) := fun t ht => He.cls_ok (f3 (.cls t.c) (List.mem_flatMap.mpr ⟨t, ht, List.mem_cons_self⟩))
  refine ⟨fun x hx => He.free_ok X G (f1 _ (List.mem_map_of_mem hx)), fun p hp => ?_, isaB_ok hi, c.sys, fun q hq => of_decide_eq_true (List.all_eq_true.mp hx q hq), fun t ht => ⟨hcl t ht, He.mkr_ok (f3 (.mkr t.c) (List.mem_flatMap.mpr ⟨t, ht, List.mem_cons_of_mem _ List.mem_cons_self⟩)), fun m hm => He.meth_ok (f3 (.meth t.c m) (List.mem_flatMap.mpr ⟨t, ht, List.mem_cons_of_mem _ (List.mem_cons_of_mem _ (List.mem_map_of_mem hm))⟩))⟩, fun q hq x hx => ?_, consB_ok hk⟩
  · have f := f2 (conFa p) (List.mem_map_of_mem hp)
    have k := List.all_eq_true.mp hc p hp
    obtain ⟨x, w⟩ := p
    cases w with
    | str z =>
      obtain ⟨t, e⟩ := He.str_ok X G f
      exact ⟨_, .str z, e, ⟨t, rfl⟩, fun _ g => .str⟩
    | int i =>
      obtain ⟨t, e⟩ := He.int_ok X G f
      exact ⟨_, .int i, e, ⟨t, rfl⟩, fun _ g => .int⟩
    | gl y =>
      have e : y = x := of_decide_eq_true k
      subst e
      exact ⟨_, .ref (He.ga K y), He.glo_ok X G f, rfl, fun _ g => .gl⟩
    | _ => cases k
  · obtain ⟨t, ht, e⟩ := List.any_eq_true.mp (List.all_eq_true.mp (List.all_eq_true.mp hf q hq) x hx)
    have e : t.c = x := of_decide_eq_true e
    subst e
    exact ⟨hcl t ht, He.noat_ok (f4 (.noat t.c q.1) (List.mem_flatMap.mpr ⟨q, hq, List.mem_map_of_mem hx⟩))⟩
/-! ### calls by positions -/
def posA (n : Nat) (m : List W → Sto → R W) : MF := fun ws kws s => if ws.length = n ∧ kws = [] then m ws s else .no
theorem FnA.pos {P : Program} {w : World} {K : PySem.W.Frag} {mg : Str → Option Value} {base : Heap} {k : Nat} {f : Addr} {fd : FuncData} {ps : List Str} {m : List W → Sto → R W} (F : FnQ P w K mg base k f fd ps m) (hb : Binds K fd ps []) : FnA P w K mg base k f (posA ps.length m) := by
  refine ⟨fun fz he A outer sh H us kus vs kvs ws kws g s Q E hr hg e0 r kr S rw1 rw2 h => ?_⟩
  unfold posA at h
  split at h
  · rename_i hc
    obtain ⟨hn, hk⟩ := hc
    subst hk
    cases rw2
    unfold KV at kr
    cases kr
    have KX : K.In sh.heap := e0.mod.kin.keeps fun b o e => (e0.bs b o e).1
    have b := hb sh us KX (by rw [List.append_nil, ← r.length, ← rw1.length, hn])
    rw [List.append_nil] at b
    exact F.run fz he A outer sh H ⟨us, []⟩ us vs ws g s Q E hr hg e0 b r (by rw [hn]) S rw1 h
  · exact h.elim
/-! ### the defs one after another -/
def FnsOk (P : Program) (w : World) (K : PySem.W.Frag) (mg : Str → Option Value) (base : Heap) (k : Nat) (T : List (Str × MF)) : Prop := ∀ q ∈ T, ∃ f, mg q.1 = some (.ref f) ∧ Cal P w K mg base k f q.2
def MetsOk (P : Program) (w : World) (K : PySem.W.Frag) (mg : Str → Option Value) (base : Heap) (k : Nat) (T : List (Str × List (Str × MF))) : Prop := ∀ q ∈ T, ∀ p ∈ q.2, MetB P w K mg base k q.1 p.1 p.2
section
variable {P : Program} {w : World} {K : PySem.W.Frag} {mg : Str → Option Value} {base : Heap} {k j : Nat}
theorem Cal.up {f : Addr} {m : MF} (C : Cal P w K mg base j f m) (h : j ≤ k) : Cal P w K mg base k f m := by
  refine ⟨C.kp, ?_⟩
  rcases C.ex with F | ⟨c, fi, m', i, e1, M, hi, F, e2⟩
  · exact .inl (F.up h)
  · exact .inr ⟨c, fi, m', i, e1, M, Nat.le_trans hi h, F, e2⟩
theorem MetB.up {m c : Str} {t : MF} (C : MetB P w K mg base j m c t) (h : j ≤ k) : MetB P w K mg base k m c t := by
  obtain ⟨f, h1, h2⟩ := C.ex
  exact ⟨C.cl, f, h1, h2.up h⟩
theorem fns_nil : FnsOk P w K mg base k [] := fun _ h => nomatch h
theorem fns_cons {x : Str} {f : Addr} {m : MF} {T : List (Str × MF)} (hmg : mg x = some (.ref f)) (C : Cal P w K mg base j f m) (h : j ≤ k) (r : FnsOk P w K mg base k T) : FnsOk P w K mg base k ((x, m) :: T) := fun q hq => by
  rcases List.mem_cons.mp hq with rfl | hq
  · exact ⟨f, hmg, C.up h⟩
  · exact r q hq
theorem mets_nil : MetsOk P w K mg base k [] := fun _ h => nomatch h
def MetOk1 (P : Program) (w : World) (K : PySem.W.Frag) (mg : Str → Option Value) (base : Heap) (k : Nat) (m : Str) (l : List (Str × MF)) : Prop := ∀ p ∈ l, MetB P w K mg base k m p.1 p.2
theorem met_nil {m : Str} : MetOk1 P w K mg base k m [] := fun _ h => nomatch h
theorem met_cons {m c : Str} {t : MF} {l : List (Str × MF)} (C : MetB P w K mg base j m c t) (h : j ≤ k) (r : MetOk1 P w K mg base k m l) : MetOk1 P w K mg base k m ((c, t) :: l) := fun q hq => by
  rcases List.mem_cons.mp hq with rfl | hq
  · exact C.up h
  · exact r q hq
theorem mets_cons {m : Str} {l : List (Str × MF)} {T : List (Str × List (Str × MF))} (h : MetOk1 P w K mg base k m l) (r : MetsOk P w K mg base k T) : MetsOk P w K mg base k ((m, l) :: T) := fun q hq => by
  rcases List.mem_cons.mp hq with rfl | hq
  · exact h
  · exact r q hq
end
def SpeOk (P : Program) (w : World) (K : PySem.W.Frag) (mg : Str → Option Value) (base : Heap) (k : Nat) (T : List (Str × List (Str × MF))) : Prop := ∀ q ∈ T, ∀ p ∈ q.2, ∃ j, j + 2 ≤ k ∧ MetB P w K mg base j q.1 p.1 p.2
/-- what a def's text calls: defs and classes, methods, special methods -/
structure Env1 where
  T : List (Str × MF)
  M : List (Str × List (Str × MF))
  Z : List (Str × List (Str × MF))
def gam (g : Gam0) (e : Env1) (k : Nat) (N : List Str) (sc : Scope) : Gam := ⟨N, sc, fun _ => true, e.T, g.con, g.free, g.tbl, g.cs, k, g.xcs, g.exm, e.M, g.flds, g.cons, g.md, e.Z, false⟩
structure EnvOk (P : Program) (w : World) (K : PySem.W.Frag) (mg : Str → Option Value) (base : Heap) (k : Nat) (e : Env1) : Prop where
  T : FnsOk P w K mg base k e.T
  M : MetsOk P w K mg base k e.M
  Z : SpeOk P w K mg base k e.Z
theorem spe_nil {P : Program} {w : World} {K : PySem.W.Frag} {mg : Str → Option Value} {base : Heap} {k : Nat} : SpeOk P w K mg base k [] := fun _ h => nomatch h
theorem spe_one {P : Program} {w : World} {K : PySem.W.Frag} {mg : Str → Option Value} {base : Heap} {k j : Nat} {m c : Str} {t : MF} {T : List (Str × List (Str × MF))} (C : MetB P w K mg base j m c t) (h : j + 2 ≤ k) (r : SpeOk P w K mg base k T) : SpeOk P w K mg base k ((m, [(c, t)]) :: T) := fun q hq p hp => by
  rcases List.mem_cons.mp hq with rfl | hq
  · rw [List.mem_singleton.mp hp]; exact ⟨j, h, C⟩
  · exact r q hq p hp
section
variable {P : Program} {w : World} {K : PySem.W.Frag} {mg : Str → Option Value} {base : Heap} {k : Nat} {g : Gam0} {cl : List ClsT} {e : Env1} {N ps : List Str} {m : MS} {f : Addr} {fd : FuncData} {x qual : Str} {params : Arguments} {body : List Stmt} {scope : Scope} {dvs : List V} {kws : List (Str × V)}
theorem ctx_of (G : G0Ok g cl K mg) (hE : EnvOk P w K mg base k e) (hX : XTabOk P w K mg base k g.xcs) (KB : K.In base) (S : FnScope N ps scope) (cdv : Value) (A : Around) (outer : List Env) (sh : Shared) (H : Hp) (E : XK) (fz : Gz) (hz : fz.ex = none) (hr : Room k (A.deeper (envOfC qual scope sh.heap.objs.size f cdv))) (hg : A.guards = some []) :
    SCtx (gam g e k N scope) (cxQ P w K mg base N qual scope f cdv A outer sh H E) (fun c d _ H' => E c d H') fz where
  N := rfl
  nd := S.nd
  sc := rfl
  kind := S.kind
  fn := rfl
  calm := fun _ => rfl
  tk := takesQ
  hu := by have := hr.un; show (A.deeper (envOfC qual scope sh.heap.objs.size f cdv)).units + 200 < cLine; omega
  gu := hg
  room := fun _ => hr
  ex0 := fun _ => hz
  xi := fun h => nomatch (show false = true from h)
  sys := let ⟨o, h1, h2⟩ := G.sys; ⟨o, KB _ _ h1, h2⟩
  fr := G.fr
  con := G.con
  fns := hE.T
  mets := hE.M
  spe := hE.Z
  flds := G.flds
  cons := G.cons
  isa := G.isa
  xcs := fun q hq => by
    obtain ⟨hk, r⟩ := hX q hq
    obtain ⟨e, fI, fd, ps, h1, h2, h3, h4, h5, h6⟩ := r.ex
    exact ⟨r.at_, ⟨e, 1, fI, fd, ps, h1, h2, h3, h4, h5, hk, h6⟩, r.ne, r.xf, r.no⟩
  exm := G.exm
  hp := fun _ => ownQ
  stk := fun _ => rfl
  frm_ := fun _ => rfl
theorem step_fn (d : Nat) (G : G0Ok g cl K mg) (hE : EnvOk P w K mg base k e) (hX : XTabOk P w K mg base k g.xcs) (KB : K.In base) (F : FunD K x qual params body scope dvs kws f fd) (S : FnScope N ps scope) (hm : semB (gam g e k N scope) body = m) : FnQ P w K mg base (k + 1) f fd ps (runT d N.length m) :=
  (fnq_of F S fun fz hz cdv A outer sh H E hr hg => by
    subst hm
    exact semB_ok (ctx_of G hE hX KB S cdv A outer sh H E fz hz hr hg) body).trim d
/-- a def called by positions -/
theorem step_pos (d : Nat) (G : G0Ok g cl K mg) (hE : EnvOk P w K mg base k e) (hX : XTabOk P w K mg base k g.xcs) (KB : K.In base) (F : FunD K x qual params body scope [] kws f fd) (S : FnScope N ps scope) (hm : semB (gam g e k N scope) body = m)
    (hb : ∀ (kV doc pm : Value) (an : Option Addr) (cdv ct : Value) (us : List Value), us.length = ps.length → bindArgs (PySem.W.fnOf x qual params body scope .none kV doc pm an cdv ct) ⟨us, []⟩ = pure (ps.zip us)) : FnA P w K mg base (k + 1) f (posA ps.length (runT d N.length m)) :=
  FnA.pos (step_fn d G hE hX KB F S hm) (F.bindsN hb)
/-- def f(a, .., *v) -/
theorem step_var (d : Nat) {pvn : Str} (G : G0Ok g cl K mg) (hE : EnvOk P w K mg base k e) (hX : XTabOk P w K mg base k g.xcs) (KB : K.In base) (F : FunD K x qual params body scope [] kws f fd) (S : FnScope N (ps ++ [pvn]) scope) (hm : semB (gam g e k N scope) body = m)
    (hb : ∀ (kV doc pm : Value) (an : Option Addr) (cdv ct : Value) (us rest : List Value), us.length = ps.length → bindArgs (PySem.W.fnOf x qual params body scope .none kV doc pm an cdv ct) ⟨us ++ rest, []⟩ = (newTuple rest >>= fun t => pure (ps.zip us ++ [(pvn, t)]))) : FnA P w K mg base (k + 1) f (trimA d (varA ps.length (runB N.length m))) := by
  refine FnA.trim (FnA.var F S (fun us rest hl => ?_) fun fz hz cdv A outer sh H E hr hg => by
    subst hm
    exact semB_ok (ctx_of G hE hX KB S cdv A outer sh H E fz hz hr hg) body) d
  obtain ⟨oc, od, dV, kV, doc, pm, an, cdv, ct, osl, rfl, _, _, hd, _⟩ := F.ex
  rcases hd with ⟨_, rfl⟩ | ⟨h, _⟩
  · exact hb kV doc pm an cdv ct us rest hl
  · exact absurd rfl h
end
section
variable {P : Program} {w : World} {K : PySem.W.Frag} {mg : Str → Option Value} {base : Heap} {k : Nat} {g : Gam0} {cl : List ClsT} {e : Env1} {N ps : List Str} {m : MS} {f : Addr} {fd : FuncData} {x qual : Str} {params : Arguments} {body : List Stmt} {scope : Scope} {dvs : List V} {kws : List (Str × V)}
/-- the same, nothing trimmed -/
theorem step_pos0 (G : G0Ok g cl K mg) (hE : EnvOk P w K mg base k e) (hX : XTabOk P w K mg base k g.xcs) (KB : K.In base) (F : FunD K x qual params body scope [] kws f fd) (S : FnScope N ps scope) (hm : semB (gam g e k N scope) body = m)
    (hb : ∀ (kV doc pm : Value) (an : Option Addr) (cdv ct : Value) (us : List Value), us.length = ps.length → bindArgs (PySem.W.fnOf x qual params body scope .none kV doc pm an cdv ct) ⟨us, []⟩ = pure (ps.zip us)) : FnA P w K mg base (k + 1) f (posA ps.length (runB N.length m)) :=
  FnA.pos (fnq_of F S fun fz hz cdv A outer sh H E hr hg => by
    subst hm
    exact semB_ok (ctx_of G hE hX KB S cdv A outer sh H E fz hz hr hg) body) (F.bindsN hb)
theorem step_var0 {pvn : Str} (G : G0Ok g cl K mg) (hE : EnvOk P w K mg base k e) (hX : XTabOk P w K mg base k g.xcs) (KB : K.In base) (F : FunD K x qual params body scope [] kws f fd) (S : FnScope N (ps ++ [pvn]) scope) (hm : semB (gam g e k N scope) body = m)
    (hb : ∀ (kV doc pm : Value) (an : Option Addr) (cdv ct : Value) (us rest : List Value), us.length = ps.length → bindArgs (PySem.W.fnOf x qual params body scope .none kV doc pm an cdv ct) ⟨us ++ rest, []⟩ = (newTuple rest >>= fun t => pure (ps.zip us ++ [(pvn, t)]))) : FnA P w K mg base (k + 1) f (varA ps.length (runB N.length m)) := by
  refine FnA.var F S (fun us rest hl => ?_) fun fz hz cdv A outer sh H E hr hg => by
    subst hm
    exact semB_ok (ctx_of G hE hX KB S cdv A outer sh H E fz hz hr hg) body
  obtain ⟨oc, od, dV, kV, doc, pm, an, cdv, ct, osl, rfl, _, _, hd, _⟩ := F.ex
  rcases hd with ⟨_, rfl⟩ | ⟨h, _⟩
  · exact hb kV doc pm an cdv ct us rest hl
  · exact absurd rfl h
theorem cal_fn {t : MF} (F : FunD K x qual params body scope dvs kws f fd) (A : FnA P w K mg base k f t) : Cal P w K mg base k f t := ⟨F.kp, .inl A⟩
theorem cal_cls {c : Str} {ms : List Str} {t : MF} (G : G0Ok g cl K mg) (hc : (⟨c, ms⟩ : ClsT) ∈ cl) (A : FnA P w K mg base k (He.ma K (He.ga K c) "__init__") t) : Cal P w K mg base (k + 1) (He.ga K c) (mkA c t) :=
  ⟨(G.cls _ hc).2.1.kp, .inr ⟨c, _, t, k, rfl, (G.cls _ hc).2.1, Nat.le_refl _, A, rfl⟩⟩
theorem met_of {c n : Str} {ms : List Str} {t : MF} (G : G0Ok g cl K mg) (hc : (⟨c, ms⟩ : ClsT) ∈ cl) (hn : n ∈ ms) (A : FnA P w K mg base k (He.ma K (He.ga K c) n) t) : MetB P w K mg base k n c t :=
  ⟨(G.cls _ hc).1, _, (G.cls _ hc).2.2 n hn, A⟩
end
theorem star1 {fd : FuncData} {p1 pvn : Str} (h1 : ∀ a : Value, bindArgs fd ⟨[a], []⟩ = (newTuple [] >>= fun t => pure [(p1, a), (pvn, t)])) (h2 : ∀ (a r : Value) (rs : List Value), bindArgs fd ⟨a :: r :: rs, []⟩ = (newTuple (r :: rs) >>= fun t => pure [(p1, a), (pvn, t)])) (us rest : List Value) (hl : us.length = [p1].length) :
    bindArgs fd ⟨us ++ rest, []⟩ = (newTuple rest >>= fun t => pure ([p1].zip us ++ [(pvn, t)])) := StX.bind_star1 (B := fun us => bindArgs fd ⟨us, []⟩) h1 h2 us rest hl
theorem star2 {fd : FuncData} {p1 p2 pvn : Str} (h1 : ∀ a b : Value, bindArgs fd ⟨[a, b], []⟩ = (newTuple [] >>= fun t => pure [(p1, a), (p2, b), (pvn, t)])) (h2 : ∀ (a b r : Value) (rs : List Value), bindArgs fd ⟨a :: b :: r :: rs, []⟩ = (newTuple (r :: rs) >>= fun t => pure [(p1, a), (p2, b), (pvn, t)])) (us rest : List Value) (hl : us.length = [p1, p2].length) :
    bindArgs fd ⟨us ++ rest, []⟩ = (newTuple rest >>= fun t => pure ([p1, p2].zip us ++ [(pvn, t)])) := StX.bind_star2 (B := fun us => bindArgs fd ⟨us, []⟩) h1 h2 us rest hl
/-- a class's text -/
def clsBody : Stmt → List Stmt
  | .ClassDef _ _ _ body _ _ _ _ _ _ _ => body
  | _ => []
/-! ### the law -/
theorem walk_q {l : PySem.W.OpenLaw} {n k : Nat} {q : Program} {loose : List Str} {XP : (Str → Option Value) → Heap → Prop} {YP : World → Heap → Prop} {d : DefRec} (hn : l.most = some n) (hn2 : n ≤ sizeLine) (hdf : d.params.defaults = []) (hr : Room k callerA)
    (F : ∀ (w : World) (mg : Str → Option Value) (fa : Addr) (h : Heap), YP w h → h.Ns mainGlobals mg → mg d.name = some (.ref fa) →
      ∃ (K : PySem.W.Frag) (m : MF), K.In h ∧
        (∀ ns : List Int, ns.length ≤ n → (∀ k ∈ ns, Builtin.Int.intBits k ≤ 1048576) → ∃ s', m [.cst (ns.map .int)] [] [] = .ok (.bl true) s') ∧
        ∀ base : Heap, K.In base → base.Ns mainGlobals mg → FnA l.prog w K mg base k fa m) :
    PySem.W.WalkO q loose XP YP l.row.toRowW d [] (fun f vs => PySem.call f vs) := by
  refine Att.attach_callB hn hdf fun w s₀ s₁ mg mb fa o pm cd doc a vs ns G Y ho hd hcd hmg hobj hints hlen hbits hg => ?_
  obtain ⟨K, m, KX, hm, hF⟩ := F w mg fa _ Y G.T.g hmg
  exact law_q KX G.T.g G.T.b G.T.builtins G.T.nolimit hg hobj hints (Nat.le_trans hlen hn2) hr hF (hm ns hlen hbits)
end Va

/-! Vq1: reckoning with meanings. -/
namespace Va
open PySem PySem.Spec PyProof.Rows L2
/-! ### rewriting rules -/
@[simp] theorem R.bind_ok {B C : Type} (b : B) (s : Sto) (f : B → Sto → R C) : (R.ok b s).bind f = f b s := rfl
@[simp] theorem R.of_some {B : Type} (b : B) (s : Sto) : R.of (some (b, s)) = .ok b s := rfl
@[simp] theorem R.toS_ok {B : Type} (b : B) (s : Sto) (ws : Loc) (f : B → Sto → RS) : (R.ok b s).toS ws f = f b s := rfl
@[simp] theorem R.cl_ok {B : Type} (b : B) (s : Sto) : (R.ok b s).cl = .ok b s := rfl
@[simp] theorem RS.then_nx (ws : Loc) (s : Sto) (f : MS) : (RS.nx ws s).andThen f = f ws s := rfl
@[simp] theorem RS.then_rt (w : W) (s : Sto) (f : MS) : (RS.rt w s).andThen f = .rt w s := rfl
@[simp] theorem RS.then_bk (ws : Loc) (s : Sto) (f : MS) : (RS.bk ws s).andThen f = .bk ws s := rfl
@[simp] theorem RS.then_ct (ws : Loc) (s : Sto) (f : MS) : (RS.ct ws s).andThen f = .ct ws s := rfl
@[simp] theorem RS.turn_nx (ws : Loc) (s : Sto) (f : MS) : (RS.nx ws s).turn f = f ws s := rfl
@[simp] theorem RS.turn_rt (w : W) (s : Sto) (f : MS) : (RS.rt w s).turn f = .rt w s := rfl
@[simp] theorem RS.turn_bk (ws : Loc) (s : Sto) (f : MS) : (RS.bk ws s).turn f = .nx ws s := rfl
@[simp] theorem RS.turn_ct (ws : Loc) (s : Sto) (f : MS) : (RS.ct ws s).turn f = f ws s := rfl
@[simp] theorem mc_eq (w : W) (ws : Loc) (s : Sto) : mc w ws s = .ok w s := rfl
theorem mvar_at {i : Nat} {ws : Loc} {w : W} (h : ws[i]? = some (some w)) (s : Sto) : mvar i ws s = .ok w s := by unfold mvar; rw [h]
@[simp] theorem mvar_0 (w : W) (ws : Loc) (s : Sto) : mvar 0 (some w :: ws) s = .ok w s := rfl
@[simp] theorem mvar_s (i : Nat) (a : Option W) (ws : Loc) (s : Sto) : mvar (i + 1) (a :: ws) s = mvar i ws s := rfl
@[simp] theorem mbin_eq (g : G2) (a b : ME) (ws : Loc) (s : Sto) : mbin g a b ws s = (a ws s).bind fun x s => (b ws s).bind fun y s => R.of (g x y s) := rfl
@[simp] theorem mun_eq (g : G1) (a : ME) (ws : Loc) (s : Sto) : mun g a ws s = (a ws s).bind fun x s => R.of (g x s) := rfl
@[simp] theorem mnil_eq (ws : Loc) (s : Sto) : mnil ws s = .ok [] s := rfl
@[simp] theorem mcons_eq (a : ME) (b : MA) (ws : Loc) (s : Sto) : mcons a b ws s = (a ws s).bind fun x s => (b ws s).bind fun xs s => .ok (x :: xs) s := rfl
@[simp] theorem mfn_eq (g : Gs) (a : MA) (ws : Loc) (s : Sto) : mfn g a ws s = (a ws s).bind fun xs s => R.of (g xs s) := rfl
@[simp] theorem mif_eq (c : MT) (a b : ME) (ws : Loc) (s : Sto) : mif c a b ws s = (c ws s).bind fun k s => if k = true then a ws s else b ws s := rfl
@[simp] theorem mtru_eq (g : W → Sto → Option Bool) (a : ME) (ws : Loc) (s : Sto) : mtru g a ws s = (a ws s).bind fun x s => match g x s with
  | some b => .ok b s
  | none => .no := rfl
@[simp] theorem mand_eq (a b : MT) (ws : Loc) (s : Sto) : mand a b ws s = (a ws s).bind fun c s => if c = true then b ws s else .ok false s := rfl
@[simp] theorem mor_eq (a b : MT) (ws : Loc) (s : Sto) : mor a b ws s = (a ws s).bind fun c s => if c = true then .ok true s else b ws s := rfl
@[simp] theorem mnot_eq (a : MT) (ws : Loc) (s : Sto) : mnot a ws s = (a ws s).bind fun c s => .ok (!c) s := rfl
@[simp] theorem mtb_eq (a : ME) (ws : Loc) (s : Sto) : mtb a ws s = (a ws s).bind fun x s => match x with
  | .bl b => .ok b s
  | _ => .no := rfl
@[simp] theorem mandV_eq (a b : ME) (ws : Loc) (s : Sto) : mandV a b ws s = (a ws s).bind fun x s => match x with
  | .bl k => if k = true then b ws s else .ok (.bl false) s
  | _ => .no := rfl
@[simp] theorem morV_eq (a b : ME) (ws : Loc) (s : Sto) : morV a b ws s = (a ws s).bind fun x s => match x with
  | .bl k => if k = true then .ok (.bl true) s else b ws s
  | _ => .no := rfl
@[simp] theorem mnotV_eq (a : ME) (ws : Loc) (s : Sto) : mnotV a ws s = (a ws s).bind fun x s => match x with
  | .bl k => .ok (.bl (!k)) s
  | _ => .no := rfl
@[simp] theorem mchain_eq (g g' : G2) (a b c : ME) (ws : Loc) (s : Sto) : mchain g g' a b c ws s = (a ws s).bind fun x s => (b ws s).bind fun y s => (R.of (g x y s)).bind fun z s => match z with
  | .bl k => if k = true then (c ws s).bind fun u s => R.of (g' y u s) else .ok (.bl false) s
  | _ => .no := rfl
@[simp] theorem mnop_eq (ws : Loc) (s : Sto) : mnop ws s = .ok none s := rfl
@[simp] theorem mbm_eq (T : String) (g : GM) (mo : ME) (ma : MA) (ws : Loc) (s : Sto) : mbm T g mo ma ws s = (mo ws s).bind fun x s1 => if tyM x s1 = T then (ma ws s1).bind fun xs s2 => R.of (g x xs s2) else .no := rfl
@[simp] theorem sseq_eq (a b : MS) (ws : Loc) (s : Sto) : sseq a b ws s = (a ws s).andThen b := rfl
@[simp] theorem snil_eq (ws : Loc) (s : Sto) : snil ws s = .nx ws s := rfl
@[simp] theorem sret_eq (a : ME) (ws : Loc) (s : Sto) : sret a ws s = (a ws s).toS ws fun w s => .rt w s := rfl
@[simp] theorem sretN_eq (ws : Loc) (s : Sto) : sretN ws s = .rt .non s := rfl
@[simp] theorem sexpr_eq (a : ME) (ws : Loc) (s : Sto) : sexpr a ws s = (a ws s).toS ws fun _ s => .nx ws s := rfl
@[simp] theorem spass_eq (ws : Loc) (s : Sto) : spass ws s = .nx ws s := rfl
@[simp] theorem sset_eq (i : Nat) (m : ME) (ws : Loc) (s : Sto) : sset i m ws s = (m ws s).toS ws fun w s' => .nx (ws.set i (some w)) s' := rfl
@[simp] theorem sasg_eq (m : ME) (g : MG) (ws : Loc) (s : Sto) : sasg m g ws s = (m ws s).toS ws fun w s' => (g w ws s').toS ws fun ws' s'' => .nx ws' s'' := rfl
@[simp] theorem spar_eq (is : List Nat) (m : MA) (ws : Loc) (s : Sto) : spar is m ws s = (m ws s).toS ws fun xs s' => if xs.length = is.length then .nx ((is.zip xs).foldl (fun z p => z.set p.1 (some p.2)) ws) s' else .no := rfl
@[simp] theorem sif_eq (c : MT) (a b : MS) (ws : Loc) (s : Sto) : sif c a b ws s = (c ws s).toS ws fun k s => if k = true then a ws s else b ws s := rfl
@[simp] theorem gname_eq (i : Nat) (w : W) (ws : Loc) (s : Sto) : gname i w ws s = .ok (ws.set i (some w)) s := rfl
@[simp] theorem gsub_eq (mo mi : ME) (g : G3) (w : W) (ws : Loc) (s : Sto) : gsub mo mi g w ws s = (mo ws s).bind fun o s1 => (mi ws s1).bind fun i s2 => match g o i w s2 with
  | some s3 => .ok ws s3
  | none => .no := rfl
@[simp] theorem gnil_eq (ws : Loc) (s : Sto) : gnil [] ws s = .ok ws s := rfl
@[simp] theorem gcons_eq (a : MG) (b : MGs) (x : W) (r : List W) (ws : Loc) (s : Sto) : gcons a b (x :: r) ws s = (a x ws s).cl.bind fun ws' s' => (b r ws' s').cl := rfl
@[simp] theorem ok1_eq (w : W) (s : Sto) : ok1 w s = some (w, s) := rfl
theorem runB_rt {n : Nat} {m : MS} {ws : List W} {s s' : Sto} {w : W} (h : m (ws.map some ++ List.replicate (n - ws.length) none) s = .rt w s') : runB n m ws s = .ok w s' := by unfold runB; rw [h]
theorem runB_nx {n : Nat} {m : MS} {ws : List W} {s s' : Sto} {l : Loc} (h : m (ws.map some ++ List.replicate (n - ws.length) none) s = .nx l s') : runB n m ws s = .ok .non s' := by unfold runB; rw [h]

@[simp] theorem R.bind_er {B C : Type} (c : Str) (d : List (Str × W)) (s : Sto) (f : B → Sto → R C) : (R.er c d s : R B).bind f = .er c d s := rfl
@[simp] theorem R.toS_er {B : Type} (c : Str) (d : List (Str × W)) (s : Sto) (ws : Loc) (f : B → Sto → RS) : (R.er c d s : R B).toS ws f = .er c d ws s := rfl
@[simp] theorem R.fin_plain {B : Type} (xs : List W) (gd : List (Nat × O)) (r : R B) : r.fin ⟨xs, gd, none⟩ = r := by cases r <;> rfl
@[simp] theorem mcall_eq (t : MF) (a : MA) (ws : Loc) (s : Sto) : mcall t a ws s = (a ws s).bind fun xs s => t xs [] s := rfl
@[simp] theorem mtup_eq (a : MA) (ws : Loc) (s : Sto) : mtup a ws s = (a ws s).bind fun xs s => if xs.length ≤ 16777216 then .ok (.tup xs) s else .no := rfl
@[simp] theorem mlst_eq (mu : Bool) (a : MA) (ws : Loc) (s : Sto) : mlst mu a ws s = (a ws s).bind fun xs s => if xs.length ≤ 16777216 then R.of (newL mu xs s) else .no := rfl
@[simp] theorem newL_f (xs : List W) (s : Sto) : newL false xs s = some (.lst xs, s) := rfl
@[simp] theorem newL_t (xs : List W) (s : Sto) : newL true xs s = some (.ref s.length, s ++ [.lst xs]) := rfl
@[simp] theorem newD_f (xs : List (Key × W)) (s : Sto) : newD false xs s = some (.dic xs, s) := rfl
@[simp] theorem newD_t (xs : List (Key × W)) (s : Sto) : newD true xs s = some (.ref s.length, s ++ [.dic xs]) := rfl
@[simp] theorem mslice_eq (mu : Bool) (a : ME) (lo hi : MO) (ws : Loc) (s : Sto) : mslice mu a lo hi ws s = (a ws s).bind fun x s => (lo ws s).bind fun l s => (hi ws s).bind fun h s => R.of (gSl mu x l h s) := rfl
@[simp] theorem mpart_eq (a : ME) (ws : Loc) (s : Sto) : mpart a ws s = (a ws s).bind fun x s => match x with
  | .int i => .ok (some i) s
  | _ => .no := rfl
@[simp] theorem gtup_eq (n : Nat) (gs : MGs) (xs : List W) (ws : Loc) (s : Sto) : gtup n gs (.tup xs) ws s = if xs.length = n then gs xs ws s else .no := rfl
@[simp] theorem mmeth_eq (tb : List (Str × MF)) (m : Str) (mo : ME) (a : MA) (ws : Loc) (s : Sto) : mmeth tb m mo a ws s = (mo ws s).bind fun x s1 => match metAt tb m s1 x with
  | some t => (a ws s1).bind fun xs s2 => t (x :: xs) [] s2
  | none => .no := rfl
@[simp] theorem mfld_eq (cs : List Str) (f : Str) (a : ME) (ws : Loc) (s : Sto) : mfld cs f a ws s = (a ws s).bind fun x s => match fldAt cs f s x with
  | some w => .ok w s
  | none => .no := rfl
@[simp] theorem mcon_eq (tb : List (Str × W)) (f : Str) (a : ME) (ws : Loc) (s : Sto) : mcon tb f a ws s = (a ws s).bind fun x s => match conAt tb f s x with
  | some w => .ok w s
  | none => .no := rfl
@[simp] theorem mstar_eq (a : ME) (b : MA) (ws : Loc) (s : Sto) : mstar a b ws s = (a ws s).bind fun x s => match seqAt s x with
  | some ys => (b ws s).bind fun xs s => .ok (ys ++ xs) s
  | none => .no := rfl
@[simp] theorem mtrim_eq (d : Nat) (m : ME) (ws : Loc) (s : Sto) : mtrim d m ws s = (m ws s).trim d s := rfl
/-! ### places -/
@[simp] theorem at_new (s : Sto) (o : O) : (s ++ [o])[s.length]? = some o := by simp
theorem lt_of_at {s : Sto} {p : Nat} {o : O} (h : s[p]? = some o) : p < s.length := (List.getElem?_eq_some_iff.mp h).1
theorem at_app {s t : Sto} {p : Nat} {o : O} (h : s[p]? = some o) : (s ++ t)[p]? = some o := by rw [List.getElem?_append_left (lt_of_at h)]; exact h
theorem at_set {s : Sto} {p : Nat} {o : O} (u : O) (h : s[p]? = some o) : (s.set p u)[p]? = some u := List.getElem?_set_self (lt_of_at h)
theorem at_ne {s : Sto} {p q : Nat} {o : O} (u : O) (h : s[p]? = some o) (ne : q ≠ p) : (s.set q u)[p]? = some o := by rw [List.getElem?_set_ne ne]; exact h
@[simp] theorem dicAt_nl (t : Tg) (xs : List W) (s : Sto) (h : ∀ ks, t ≠ .dic ks) : dicAt s (.nd t xs) = none := by
  unfold dicAt
  split
  · rename_i ks vs e; cases e; exact absurd rfl (h ks)
  · rename_i e; cases e
  · rfl
@[simp] theorem lstAt_f (xs : List W) (s : Sto) : lstAt s (.lst xs) = some xs := rfl
@[simp] theorem lstAt_c (xs : List W) (s : Sto) : lstAt s (.cst xs) = some xs := rfl
@[simp] theorem lstAt_t (xs : List W) (s : Sto) : lstAt s (.tup xs) = none := rfl
@[simp] theorem tupAt_t (xs : List W) : tupAt (.tup xs) = some xs := rfl
@[simp] theorem tupAt_l (xs : List W) : tupAt (.lst xs) = none := rfl
@[simp] theorem seqAt_f (xs : List W) (s : Sto) : seqAt s (.lst xs) = some xs := rfl
@[simp] theorem seqAt_c (xs : List W) (s : Sto) : seqAt s (.cst xs) = some xs := rfl
@[simp] theorem seqAt_t (xs : List W) (s : Sto) : seqAt s (.tup xs) = some xs := rfl
theorem lstAt_r {s : Sto} {p : Nat} {xs : List W} (h : s[p]? = some (.lst xs)) : lstAt s (.ref p) = some xs := by unfold lstAt; simp [h]
theorem dicAt_lst {s : Sto} {p : Nat} {xs : List W} (h : s[p]? = some (.lst xs)) : dicAt s (.ref p) = none := by unfold dicAt; simp [h]
theorem seqAt_r {s : Sto} {p : Nat} {xs : List W} (h : s[p]? = some (.lst xs)) : seqAt s (.ref p) = some xs := by unfold seqAt; rw [lstAt_r h]; rfl
theorem dicAt_r {s : Sto} {p : Nat} {kvs : List (Key × W)} (h : s[p]? = some (.dic kvs)) : dicAt s (.ref p) = some kvs := by unfold dicAt; simp [h]
theorem muAt_r {s : Sto} {p : Nat} {xs : List W} (h : s[p]? = some (.lst xs)) : muAt s (.ref p) = some (p, xs) := by unfold muAt; simp [h]
theorem muDic_r {s : Sto} {p : Nat} {kvs : List (Key × W)} (h : s[p]? = some (.dic kvs)) : muDic s (.ref p) = some (p, kvs) := by unfold muDic; simp [h]
theorem muAt_dic {s : Sto} {p : Nat} {kvs : List (Key × W)} (h : s[p]? = some (.dic kvs)) : muAt s (.ref p) = none := by unfold muAt; simp [h]
theorem atI_nat {α : Type} {xs : List α} {k : Nat} {w : α} (h : xs[k]? = some w) : L2.atI xs (k : Int) = some w := by
  have hl := (List.getElem?_eq_some_iff.mp h).1
  unfold L2.atI L2.ixN
  rw [if_pos (by omega), if_pos (by omega)]
  simpa using h
theorem atI_of {α : Type} {xs : List α} {k : Int} (h0 : 0 ≤ k) (h1 : k < xs.length) : ∃ w, L2.atI xs k = some w ∧ xs[k.toNat]? = some w := by
  have hl : k.toNat < xs.length := by omega
  refine ⟨xs[k.toNat], ?_, List.getElem?_eq_getElem hl⟩
  have := atI_nat (List.getElem?_eq_getElem hl)
  rwa [Int.toNat_of_nonneg h0] at this
@[simp] theorem gI_int (C : Int → Int → Bool) (f : Int → Int → Int) (i j : Int) (s : Sto) : gI C f (.int i) (.int j) s = if C i j = true then some (.int (f i j), s) else none := rfl
@[simp] theorem gCI_int (f : Int → Int → Bool) (i j : Int) (s : Sto) : gCI f (.int i) (.int j) s = some (.bl (f i j), s) := rfl
@[simp] theorem gAdd_int (i j : Int) (mu : Bool) (s : Sto) : gAdd mu (.int i) (.int j) s = some (.int (i + j), s) := rfl
@[simp] theorem gEq_int (i j : Int) (s : Sto) : gEq (.int i) (.int j) s = some (.bl (decide (i = j)), s) := rfl
@[simp] theorem gNe_int (i j : Int) (s : Sto) : gNe (.int i) (.int j) s = some (.bl (!decide (i = j)), s) := rfl
@[simp] theorem gEq_str (i j : Str) (s : Sto) : gEq (.str i) (.str j) s = some (.bl (decide (i = j)), s) := rfl
@[simp] theorem gNe_str (i j : Str) (s : Sto) : gNe (.str i) (.str j) s = some (.bl (!decide (i = j)), s) := rfl
@[simp] theorem gNeg_int (i : Int) (s : Sto) : gNeg (.int i) s = some (.int (-i), s) := rfl
@[simp] theorem gtru_bl (b : Bool) (s : Sto) : gtru (.bl b) s = some b := rfl
theorem gMul_int (mu : Bool) (i j : Int) (s : Sto) (h : (small64 i || small64 j || decide (i.natAbs.log2 + j.natAbs.log2 < 1000000)) = true) : gMul mu (.int i) (.int j) s = some (.int (i * j), s) := by
  exact if_pos h
@[simp] theorem gMax2 (i j : Int) (s : Sto) : gMax [.int i, .int j] s = some (.int (if j > i then j else i), s) := rfl
@[simp] theorem gMin2 (i j : Int) (s : Sto) : gMin [.int i, .int j] s = some (.int (if j < i then j else i), s) := rfl
theorem gLen_str {x : Str} (s : Sto) (h : x.length ≤ 16777216) : gLen [.str x] s = some (.int x.length, s) := if_pos h
theorem gAdd_str {x y : Str} (mu : Bool) (s : Sto) (h : x.length + y.length ≤ 16777216) : gAdd mu (.str x) (.str y) s = some (.str (x ++ y), s) := if_pos h
theorem gSl_str {x : Str} (mu : Bool) (lo hi : Option Int) (s : Sto) (h : x.length ≤ 16777216) : gSl mu (.str x) lo hi s = some (.str (cutS x lo hi), s) := if_pos h

/-! ### trims -/
mutual
/-- only places below n -/
def W.low (n : Nat) : W → Bool
  | .ref m => decide (m < n)
  | .nd _ xs => W.lows n xs
  | _ => true
def W.lows (n : Nat) : List W → Bool
  | [] => true
  | x :: xs => x.low n && W.lows n xs
end
def O.low (n : Nat) : O → Bool
  | .lst xs => W.lows n xs
  | .dic kvs => W.lows n (kvs.map (·.2))
  | .lck kvs => W.lows n (kvs.map (·.2))
  | .ins _ fs => W.lows n (fs.map (·.2))
  | .exn _ fs => W.lows n (fs.map (·.2))
  | .dead => true
section
variable {n : Nat} {f : Nat → Option W} {fk : Nat → List Nat} {s' : Sto}
mutual
theorem fzT_low : ∀ {w : W}, w.low n = true → fzT n f w = some w
  | .non, _ => by simp [fzT]
  | .bl _, _ => by simp [fzT]
  | .int _, _ => by simp [fzT]
  | .str _, _ => by simp [fzT]
  | .gl _, _ => by simp [fzT]
  | .ty _, _ => by simp [fzT]
  | .ref m, h => by rw [W.low, decide_eq_true_eq] at h; rw [fzT, if_pos h]
  | .nd t xs, h => by rw [W.low] at h; rw [fzT, fzTs_low h]; rfl
theorem fzTs_low : ∀ {xs : List W}, W.lows n xs = true → fzTs n f xs = some xs
  | [], _ => by rw [fzTs]
  | x :: xs, h => by
    rw [W.lows, Bool.and_eq_true] at h
    rw [fzTs, fzT_low h.1, fzTs_low h.2]
end
mutual
theorem kpT_low : ∀ {w : W}, w.low n = true → kpT s' n fk w = []
  | .non, _ => by simp [kpT]
  | .bl _, _ => by simp [kpT]
  | .int _, _ => by simp [kpT]
  | .str _, _ => by simp [kpT]
  | .gl _, _ => by simp [kpT]
  | .ty _, _ => by simp [kpT]
  | .ref m, h => by rw [W.low, decide_eq_true_eq] at h; rw [kpT, if_pos h]
  | .nd t xs, h => by rw [W.low] at h; rw [kpT, kpTs_low h]
theorem kpTs_low : ∀ {xs : List W}, W.lows n xs = true → kpTs s' n fk xs = []
  | [], _ => by rw [kpTs]
  | x :: xs, h => by
    rw [W.lows, Bool.and_eq_true] at h
    rw [kpTs, kpT_low h.1, kpTs_low h.2]; rfl
end
theorem fzK_low {κ : Type} {kvs : List (κ × W)} (h : W.lows n (kvs.map (·.2)) = true) : fzK n f kvs = some kvs := by
  unfold fzK
  rw [fzTs_low h]
  simp [zip_maps]
theorem fzO_low {o : O} (h : o.low n = true) : fzO n f o = some o := by
  cases o with
  | lst xs => show (fzTs n f xs).map O.lst = _; rw [fzTs_low h]; rfl
  | dic xs => show (fzK n f xs).map O.dic = _; rw [fzK_low h]; rfl
  | lck xs => show (fzK n f xs).map O.lck = _; rw [fzK_low h]; rfl
  | ins c xs => show (fzK n f xs).map (O.ins c) = _; rw [fzK_low h]; rfl
  | exn c xs => show (fzK n f xs).map (O.exn c) = _; rw [fzK_low h]; rfl
  | dead => rfl
theorem seqO_some {α : Type} : ∀ xs : List α, seqO (xs.map some) = some xs
  | [] => rfl
  | x :: xs => by rw [List.map_cons, seqO, seqO_some xs]; rfl
/-- the objects of before are as they were, or hold only places of before -/
def Chg (s s1 : Sto) : Prop := s1.length = s.length ∧ ∀ (i : Nat) (o : O), s1[i]? = some o → s[i]? = some o ∨ o.low s.length = true
theorem Chg.rfl {s : Sto} : Chg s s := ⟨Eq.refl _, fun _ _ h => .inl h⟩
theorem Chg.set {s : Sto} {p : Nat} {o : O} (h : o.low s.length = true) : Chg s (s.set p o) := by
  refine ⟨by simp, fun i u e => ?_⟩
  by_cases hp : p = i
  · subst hp
    by_cases hl : p < s.length
    · rw [List.getElem?_set_self hl] at e; cases e; exact .inr h
    · rw [List.set_eq_of_length_le (by omega)] at e; exact .inl e
  · rw [List.getElem?_set_ne hp] at e; exact .inl e
theorem chg_seq {s s1 t : Sto} (c : Chg s s1) : seqO ((List.range s.length).map (trimO s (s1 ++ t) f)) = some s1 := by
  have e : (List.range s.length).map (trimO s (s1 ++ t) f) = s1.map some := by
    refine List.ext_getElem? fun i => ?_
    rw [List.getElem?_map, List.getElem?_map]
    by_cases hi : i < s.length
    · rw [List.getElem?_range hi]
      have h1 : i < s1.length := by rw [c.1]; exact hi
      show some (trimO s (s1 ++ t) f i) = _
      unfold trimO
      rw [List.getElem?_append_left h1, List.getElem?_eq_getElem h1]
      split
      · rename_i h; rw [← h]; rfl
      · rename_i h
        rcases c.2 i _ (List.getElem?_eq_getElem h1) with q | q
        · exact absurd q.symm h
        · show some (fzO s.length f s1[i]) = _
          rw [fzO_low q]; rfl
    · rw [List.getElem?_eq_none (by simpa using hi), List.getElem?_eq_none (by rw [c.1]; omega)]; rfl
  rw [e, seqO_some]
/-- nothing of what was made is in the result -/
theorem trim_low {d : Nat} {s s1 t : Sto} {w : W} (c : Chg s s1) (h : w.low s.length = true) : (R.ok w (s1 ++ t)).trim d s = .ok w s1 := by
  show okOf (trimL s (s1 ++ t) (kpT (s1 ++ t) s.length (kpN (s1 ++ t) s.length d) w) [w]) = _
  rw [kpT_low h]
  unfold trimL
  simp only [List.nodup_nil, List.not_mem_nil, false_imp_iff, implies_true, and_self, if_true, List.map_nil]
  rw [chg_seq c, fzTs, fzT_low h, fzTs]
  show okOf (some ([w], s1 ++ [])) = _
  rw [List.append_nil]; rfl
theorem trim_low0 {d : Nat} {s s1 : Sto} {w : W} (c : Chg s s1) (h : w.low s.length = true) : (R.ok w s1).trim d s = .ok w s1 := by
  have := trim_low (d := d) (t := []) c h
  rwa [List.append_nil] at this
/-- a list that was made becomes a tree -/
theorem trim_lst {s s1 t : Sto} {m : Nat} {xs : List W} (c : Chg s s1) (hm : s.length ≤ m) (e : (s1 ++ t)[m]? = some (.lst xs)) (h : W.lows s.length xs = true) : (R.ok (.ref m) (s1 ++ t)).trim 0 s = .ok (.lst xs) s1 := by
  show okOf (trimL s (s1 ++ t) (kpT (s1 ++ t) s.length (kpN (s1 ++ t) s.length 0) (.ref m)) [.ref m]) = _
  rw [kpT, if_neg (by omega)]
  show okOf (trimL s (s1 ++ t) [] [.ref m]) = _
  unfold trimL
  simp only [List.nodup_nil, List.not_mem_nil, false_imp_iff, implies_true, and_self, if_true, List.map_nil]
  rw [chg_seq c, fzTs, fzT, if_neg (by omega), fzTs]
  have : fzN (s1 ++ t) s.length [] 24 m = some (.lst xs) := by
    unfold fzN
    simp only [placeIn, e]
    rw [fzTs_low h]; rfl
  rw [this]
  show okOf (some ([_], s1 ++ [])) = _
  rw [List.append_nil]; rfl
/-- a dict -/
theorem trim_dic {s s1 t : Sto} {m : Nat} {kvs : List (Key × W)} (c : Chg s s1) (hm : s.length ≤ m) (e : (s1 ++ t)[m]? = some (.dic kvs)) (h : W.lows s.length (kvs.map (·.2)) = true) : (R.ok (.ref m) (s1 ++ t)).trim 0 s = .ok (.dic kvs) s1 := by
  show okOf (trimL s (s1 ++ t) (kpT (s1 ++ t) s.length (kpN (s1 ++ t) s.length 0) (.ref m)) [.ref m]) = _
  rw [kpT, if_neg (by omega)]
  show okOf (trimL s (s1 ++ t) [] [.ref m]) = _
  unfold trimL
  simp only [List.nodup_nil, List.not_mem_nil, false_imp_iff, implies_true, and_self, if_true, List.map_nil]
  rw [chg_seq c, fzTs, fzT, if_neg (by omega), fzTs]
  have : fzN (s1 ++ t) s.length [] 24 m = some (.dic kvs) := by
    unfold fzN
    simp only [placeIn, e]
    rw [fzTs_low h]; rfl
  rw [this]
  show okOf (some ([_], s1 ++ [])) = _
  rw [List.append_nil]; rfl
/-- a list that was made stays one that may change -/
theorem trim_keep {d : Nat} {s s1 t : Sto} {m : Nat} {xs : List W} (c : Chg s s1) (hm : s.length ≤ m) (e : (s1 ++ t)[m]? = some (.lst xs)) (h : W.lows s.length xs = true) : (R.ok (.ref m) (s1 ++ t)).trim (d + 1) s = .ok (.ref s.length) (s1 ++ [.lst xs]) := by
  show okOf (trimL s (s1 ++ t) (kpT (s1 ++ t) s.length (kpN (s1 ++ t) s.length (d + 1)) (.ref m)) [.ref m]) = _
  have ek : kpT (s1 ++ t) s.length (kpN (s1 ++ t) s.length (d + 1)) (.ref m) = [m] := by
    rw [kpT, if_neg (by omega)]
    unfold kpN
    simp only [e]
    rw [kpTs_low h]; rfl
  rw [ek]
  unfold trimL
  have own : ownAt (s1 ++ t) m = true := by unfold ownAt; rw [e]; rfl
  simp only [List.nodup_cons, List.not_mem_nil, not_false_eq_true, List.nodup_nil, and_self, List.mem_singleton, forall_eq, hm, own, if_true, List.map_cons, List.map_nil, e, Option.bind_some]
  rw [chg_seq c, fzTs, fzT, if_neg (by omega), fzTs]
  have e2 : fzN (s1 ++ t) s.length [m] 24 m = some (.ref s.length) := by
    unfold fzN
    simp [placeIn]
  rw [e2, show fzO s.length (fzN (s1 ++ t) s.length [m] 24) (.lst xs) = some (.lst xs) from fzO_low h]
  rfl
end
theorem runT_rt {d n : Nat} {m : MS} {ws : List W} {s s' : Sto} {w : W} {r : R W} (h : m (ws.map some ++ List.replicate (n - ws.length) none) s = .rt w s') (t : (R.ok w s').trim d s = r) : runT d n m ws s = r := by unfold runT; rw [runB_rt h, t]
theorem runT_nx {d n : Nat} {m : MS} {ws : List W} {s s' : Sto} {l : Loc} {r : R W} (h : m (ws.map some ++ List.replicate (n - ws.length) none) s = .nx l s') (t : (R.ok .non s').trim d s = r) : runT d n m ws s = r := by unfold runT; rw [runB_nx h, t]
@[simp] theorem posA_eq (n : Nat) (m : List W → Sto → R W) (ws : List W) (s : Sto) : posA n m ws [] s = if ws.length = n then m ws s else .no := by
  unfold posA
  simp
end Va

/-! Vq2: loops. -/
namespace Va
open PySem PySem.Spec PyProof.Rows L2
theorem gdOk_nil (s : Sto) : gdOk [] s = true := rfl
/-! ### comprehensions -/
theorem loopC_pure {gd : List (Nat × O)} {t : Tgt} {c : MT} {e : ME} {ws : Loc} {s : Sto} (F : W → Option W) (hg : gdOk gd s = true) : ∀ (xs acc : List W), acc.length + xs.length ≤ 16777216 →
    (∀ x ∈ xs, ∃ ws2, t.put x ws = some ws2 ∧ ((F x = none ∧ c ws2 s = .ok false s) ∨ ∃ y, F x = some y ∧ c ws2 s = .ok true s ∧ e ws2 s = .ok y s)) → loopC gd t c e ws xs acc s = .ok (acc ++ xs.filterMap F) s
  | [], acc, _, _ => by unfold loopC; rw [if_pos hg]; simp
  | x :: xs, acc, hl, h => by
    obtain ⟨ws2, h1, h2⟩ := h x List.mem_cons_self
    have h3 := fun y hy => h y (List.mem_cons_of_mem x hy)
    simp only [List.length_cons] at hl
    unfold loopC
    rw [if_pos hg]
    simp only [h1]
    rcases h2 with ⟨f0, c0⟩ | ⟨y, f0, c0, e0⟩
    · simp only [c0, R.cl_ok, R.bind_ok, Bool.false_eq_true, if_false]
      rw [loopC_pure F hg xs acc (by omega) h3, List.filterMap_cons_none f0]
    · simp only [c0, R.cl_ok, R.bind_ok, if_true, e0]
      rw [if_pos (by omega), loopC_pure F hg xs (acc ++ [y]) (by simp; omega) h3, List.filterMap_cons_some f0]
      simp
/-- by an invariant of what is left, the store, the list so far -/
theorem loopC_inv {gd : List (Nat × O)} {t : Tgt} {c : MT} {e : ME} {ws : Loc} (Inv : List W → Sto → List W → Prop)
    (step : ∀ x xs s acc, Inv (x :: xs) s acc → gdOk gd s = true ∧ ∃ ws2, t.put x ws = some ws2 ∧ ((∃ s2, c ws2 s = .ok false s2 ∧ Inv xs s2 acc) ∨ ∃ s2 y s3, c ws2 s = .ok true s2 ∧ e ws2 s2 = .ok y s3 ∧ acc.length < 16777216 ∧ Inv xs s3 (acc ++ [y])))
    (stop : ∀ s acc, Inv [] s acc → gdOk gd s = true) : ∀ (xs : List W) (s : Sto) (acc : List W), Inv xs s acc → ∃ s' acc', loopC gd t c e ws xs acc s = .ok acc' s' ∧ Inv [] s' acc'
  | [], s, acc, h => ⟨s, acc, by unfold loopC; rw [if_pos (stop s acc h)], h⟩
  | x :: xs, s, acc, h => by
    obtain ⟨hg, ws2, h1, h2⟩ := step x xs s acc h
    unfold loopC
    rw [if_pos hg]
    simp only [h1]
    rcases h2 with ⟨s2, c0, q⟩ | ⟨s2, y, s3, c0, e0, hl, q⟩
    · simp only [c0, R.cl_ok, R.bind_ok, Bool.false_eq_true, if_false]
      exact loopC_inv Inv step stop xs s2 acc q
    · simp only [c0, R.cl_ok, R.bind_ok, if_true, e0]
      rw [if_pos hl]
      exact loopC_inv Inv step stop xs s3 (acc ++ [y]) q
theorem mlc_of {mu : Bool} {mi : MI} {t : Tgt} {c : MT} {e : ME} {vs : List Nat} {ws : Loc} {s s1 s2 s3 : Sto} {xs ys : List W} {gd : List (Nat × O)} {w : W} (hm : mi ws s = .ok ⟨xs, gd, none⟩ s1) (hl : loopC gd t c e (wipeW ws vs) xs [] s1 = .ok ys s2) (hn : newL mu ys s2 = some (w, s3)) : mlc mu mi t c e vs ws s = .ok w s3 := by
  unfold mlc mcomp
  rw [hm]
  simp only [R.bind_ok]
  show (((loopC gd t c e (wipeW ws vs) xs [] s1).fin ⟨xs, gd, none⟩).bind fun ys s => R.of (newL mu ys s)) = _
  rw [hl, R.fin_plain]
  simp [hn]
/-- a comprehension that changes nothing -/
theorem mlc_pure {mi : MI} {t : Tgt} {c : MT} {e : ME} {vs : List Nat} {ws : Loc} {s s1 : Sto} {xs : List W} {gd : List (Nat × O)} (F : W → Option W) (hm : mi ws s = .ok ⟨xs, gd, none⟩ s1) (hg : gdOk gd s1 = true) (hl : xs.length ≤ 16777216)
    (h : ∀ x ∈ xs, ∃ ws2, t.put x (wipeW ws vs) = some ws2 ∧ ((F x = none ∧ c ws2 s1 = .ok false s1) ∨ ∃ y, F x = some y ∧ c ws2 s1 = .ok true s1 ∧ e ws2 s1 = .ok y s1)) : mlc false mi t c e vs ws s = .ok (.lst (xs.filterMap F)) s1 :=
  mlc_of hm (loopC_pure F hg xs [] (by simpa using hl) h) rfl
theorem mlc_pureT {mi : MI} {t : Tgt} {c : MT} {e : ME} {vs : List Nat} {ws : Loc} {s s1 : Sto} {xs : List W} {gd : List (Nat × O)} (F : W → Option W) (hm : mi ws s = .ok ⟨xs, gd, none⟩ s1) (hg : gdOk gd s1 = true) (hl : xs.length ≤ 16777216)
    (h : ∀ x ∈ xs, ∃ ws2, t.put x (wipeW ws vs) = some ws2 ∧ ((F x = none ∧ c ws2 s1 = .ok false s1) ∨ ∃ y, F x = some y ∧ c ws2 s1 = .ok true s1 ∧ e ws2 s1 = .ok y s1)) : mlc true mi t c e vs ws s = .ok (.ref s1.length) (s1 ++ [.lst (xs.filterMap F)]) :=
  mlc_of hm (loopC_pure F hg xs [] (by simpa using hl) h) rfl
/-! ### for -/
theorem forL_inv {gd : List (Nat × O)} {g : MG} {b : MS} (Inv : List W → Loc → Sto → Prop) (Out : RS → Prop)
    (step : ∀ x xs ws s, Inv (x :: xs) ws s → gdOk gd s = true ∧ ∃ ws2 s2, g x ws s = .ok ws2 s2 ∧
      ((∃ ws3 s3, (b ws2 s2 = .nx ws3 s3 ∨ b ws2 s2 = .ct ws3 s3) ∧ Inv xs ws3 s3) ∨ (∃ ws3 s3, b ws2 s2 = .bk ws3 s3 ∧ Out (.nx ws3 s3)) ∨ (∃ w' s3, b ws2 s2 = .rt w' s3 ∧ Out (.rt w' s3)) ∨ (∃ k d ws3 s3, b ws2 s2 = .er k d ws3 s3 ∧ Out (.er k d ws3 s3))))
    (stop : ∀ ws s, Inv [] ws s → gdOk gd s = true ∧ Out (.nx ws s)) : ∀ (xs : List W) (ws : Loc) (s : Sto), Inv xs ws s → Out (forL gd g b xs ws s)
  | [], ws, s, h => by
    unfold forL
    rw [if_pos (stop ws s h).1]
    exact (stop ws s h).2
  | x :: xs, ws, s, h => by
    obtain ⟨hg, ws2, s2, h1, q⟩ := step x xs ws s h
    unfold forL
    rw [if_pos hg]
    simp only [h1, R.toS_ok]
    rcases q with ⟨ws3, s3, q1 | q1, q2⟩ | ⟨ws3, s3, q1, q2⟩ | ⟨w', s3, q1, q2⟩ | ⟨k, d, ws3, s3, q1, q2⟩
    · simp only [q1, RS.turn_nx]
      exact forL_inv Inv Out step stop xs ws3 s3 q2
    · simp only [q1, RS.turn_ct]
      exact forL_inv Inv Out step stop xs ws3 s3 q2
    · simp only [q1, RS.turn_bk]; exact q2
    · simp only [q1, RS.turn_rt]; exact q2
    · simp only [q1]; exact q2
theorem RS.fin_plain (xs : List W) (gd : List (Nat × O)) (r : RS) : r.fin ⟨xs, gd, none⟩ = r := by cases r <;> rfl
theorem sfor_inv {mi : MI} {g : MG} {b : MS} {ws : Loc} {s s1 : Sto} {xs : List W} {gd : List (Nat × O)} (hm : mi ws s = .ok ⟨xs, gd, none⟩ s1) (Inv : List W → Loc → Sto → Prop) (Out : RS → Prop) (h0 : Inv xs ws s1)
    (step : ∀ x xs ws s, Inv (x :: xs) ws s → gdOk gd s = true ∧ ∃ ws2 s2, g x ws s = .ok ws2 s2 ∧
      ((∃ ws3 s3, (b ws2 s2 = .nx ws3 s3 ∨ b ws2 s2 = .ct ws3 s3) ∧ Inv xs ws3 s3) ∨ (∃ ws3 s3, b ws2 s2 = .bk ws3 s3 ∧ Out (.nx ws3 s3)) ∨ (∃ w' s3, b ws2 s2 = .rt w' s3 ∧ Out (.rt w' s3)) ∨ (∃ k d ws3 s3, b ws2 s2 = .er k d ws3 s3 ∧ Out (.er k d ws3 s3))))
    (stop : ∀ ws s, Inv [] ws s → gdOk gd s = true ∧ Out (.nx ws s)) : Out (sfor mi g b ws s) := by
  unfold sfor
  rw [hm]
  show Out ((forL gd g b xs ws s1).fin ⟨xs, gd, none⟩)
  rw [RS.fin_plain]
  exact forL_inv Inv Out step stop xs ws s1 h0
/-! ### while, by a measure -/
theorem loopW_inv {c : MT} {b : MS} (Inv : Nat → Loc → Sto → Prop) (Out : RS → Prop)
    (step : ∀ m ws s, Inv m ws s → (∃ s1, c ws s = .ok false s1 ∧ Out (.nx ws s1)) ∨ ∃ s1, c ws s = .ok true s1 ∧
      ((∃ ws3 s3, (b ws s1 = .nx ws3 s3 ∨ b ws s1 = .ct ws3 s3) ∧ ∃ m', m' < m ∧ Inv m' ws3 s3) ∨ (∃ ws3 s3, b ws s1 = .bk ws3 s3 ∧ Out (.nx ws3 s3)) ∨ (∃ w' s3, b ws s1 = .rt w' s3 ∧ Out (.rt w' s3)) ∨ (∃ k d ws3 s3, b ws s1 = .er k d ws3 s3 ∧ Out (.er k d ws3 s3)))) :
    ∀ (f m : Nat) (ws : Loc) (s : Sto), m < f → Inv m ws s → Out (loopW c b f ws s)
  | 0, m, _, _, hf, _ => by omega
  | f + 1, m, ws, s, hf, h => by
    unfold loopW
    rcases step m ws s h with ⟨s1, h1, q⟩ | ⟨s1, h1, q⟩
    · simp only [h1, R.toS_ok, Bool.false_eq_true, if_false]; exact q
    · simp only [h1, R.toS_ok, if_true]
      rcases q with ⟨ws3, s3, q1 | q1, m', hm, q2⟩ | ⟨ws3, s3, q1, q2⟩ | ⟨w', s3, q1, q2⟩ | ⟨k, d, ws3, s3, q1, q2⟩
      · simp only [q1, RS.turn_nx]
        exact loopW_inv Inv Out step f m' ws3 s3 (by omega) q2
      · simp only [q1, RS.turn_ct]
        exact loopW_inv Inv Out step f m' ws3 s3 (by omega) q2
      · simp only [q1, RS.turn_bk]; exact q2
      · simp only [q1, RS.turn_rt]; exact q2
      · simp only [q1]; exact q2
theorem swhile_inv {c : MT} {b : MS} {ws : Loc} {s : Sto} {m : Nat} (hm : m < 2 ^ 64) (Inv : Nat → Loc → Sto → Prop) (Out : RS → Prop) (h0 : Inv m ws s)
    (step : ∀ m ws s, Inv m ws s → (∃ s1, c ws s = .ok false s1 ∧ Out (.nx ws s1)) ∨ ∃ s1, c ws s = .ok true s1 ∧
      ((∃ ws3 s3, (b ws s1 = .nx ws3 s3 ∨ b ws s1 = .ct ws3 s3) ∧ ∃ m', m' < m ∧ Inv m' ws3 s3) ∨ (∃ ws3 s3, b ws s1 = .bk ws3 s3 ∧ Out (.nx ws3 s3)) ∨ (∃ w' s3, b ws s1 = .rt w' s3 ∧ Out (.rt w' s3)) ∨ (∃ k d ws3 s3, b ws s1 = .er k d ws3 s3 ∧ Out (.er k d ws3 s3)))) : Out (swhile c b ws s) := by
  have : (2 : Nat) ^ 64 < 2 ^ 200 := by decide
  exact loopW_inv Inv Out step fuelN m ws s (by rw [fuelN_eq]; omega) h0
/-! ### dict comprehensions -/
def putAll (f : W → Key × W) (kvs : List (Key × W)) (xs : List W) : List (Key × W) := xs.foldl (fun acc x => putW acc (f x).1 (f x).2) kvs
theorem loopD_pure {gd : List (Nat × O)} {t : Tgt} {c : MT} {ek ev : ME} {ws : Loc} {s : Sto} (F : W → Key × W) (hg : gdOk gd s = true) : ∀ (xs : List W) (acc : List (Key × W)), acc.length + xs.length ≤ 16777216 →
    (∀ x ∈ xs, ∃ ws2 y, t.put x ws = some ws2 ∧ c ws2 s = .ok true s ∧ ek ws2 s = .ok y s ∧ keyW y = some (F x).1 ∧ ev ws2 s = .ok (F x).2 s) → loopD gd t c ek ev ws xs acc s = .ok (putAll F acc xs) s
  | [], acc, _, _ => by unfold loopD; rw [if_pos hg]; rfl
  | x :: xs, acc, hl, h => by
    obtain ⟨ws2, y, h1, h2, h3, h4, h5⟩ := h x List.mem_cons_self
    have h6 := fun y hy => h y (List.mem_cons_of_mem x hy)
    simp only [List.length_cons] at hl
    unfold loopD
    rw [if_pos hg]
    simp only [h1, h2, R.cl_ok, R.bind_ok, if_true, h3, h4, h5]
    rw [if_pos (by omega), loopD_pure F hg xs _ (by have := putW_len acc (F x).1 (F x).2; omega) h6]
    rfl
theorem mdc_of {mu : Bool} {mi : MI} {t : Tgt} {c : MT} {ek ev : ME} {vs : List Nat} {ws : Loc} {s s1 s2 s3 : Sto} {xs : List W} {ys : List (Key × W)} {gd : List (Nat × O)} {w : W} (hm : mi ws s = .ok ⟨xs, gd, none⟩ s1) (hl : loopD gd t c ek ev (wipeW ws vs) xs [] s1 = .ok ys s2) (hn : newD mu ys s2 = some (w, s3)) : mdc mu mi t c ek ev vs ws s = .ok w s3 := by
  unfold mdc
  rw [hm]
  simp only [R.bind_ok]
  show (((loopD gd t c ek ev (wipeW ws vs) xs [] s1).fin ⟨xs, gd, none⟩).bind fun ys s => R.of (newD mu ys s)) = _
  rw [hl, R.fin_plain]
  simp [hn]
end Va

/-! Vq3: the laws' pots. -/
namespace Va
open PySem PySem.Spec PyProof.Rows L2
def mPot : MS := (sseq (sset 2 (mif (mtb (mbin gLt (mvar 1) (mfn gLen (mcons (mvar 0) mnil)))) (mfn gAbs (mcons (mbin gIx (mvar 0) (mvar 1)) mnil)) (mc (.int 0))))
    (sseq (sret (mlst true (mcons (mfn gMax (mcons (mc (.int 0)) (mcons (mbin gSub (mvar 2) (mbin gPow (mc (.int 10)) (mc (.int 18)))) mnil))) (mcons (mbin gMod (mbin (gAdd false) (mbin (gAdd false) (mbin (gMul false) (mbin gMod (mvar 2) (mc (.int 2147483587))) (mc (.int 48271))) (mbin (gMul false) (mc (.int 60013)) (mvar 1))) (mc (.int 53))) (mc (.int 2147483647))) mnil))))
    snil))
def rPot : MF := posA 2 (runT 1 3 mPot)
def mDigit : MS := (sseq (sif (mtb (mbin gGt (mbin gIx (mvar 0) (mc (.int 0))) (mc (.int 0))))
    (sseq (sasg (mfn gDivmod (mcons (mbin gIx (mvar 0) (mc (.int 0))) (mcons (mvar 1) mnil))) (gtup 2 (gcons (gsub (mvar 0) (mc (.int 0)) gSetI) (gcons (gname 2) gnil))))
    (sseq (sret (mvar 2))
    snil))
    snil)
    (sseq (sasg (mbin gMod (mbin (gAdd false) (mbin (gMul false) (mbin gIx (mvar 0) (mc (.int 1))) (mc (.int 39373))) (mc (.int 12227))) (mc (.int 2147483629))) (gsub (mvar 0) (mc (.int 1)) gSetI))
    (sseq (sret (mbin gMod (mbin gFdiv (mbin gMod (mbin (gMul false) (mbin gIx (mvar 0) (mc (.int 1))) (mbin gIx (mvar 0) (mc (.int 1)))) (mc (.int 2147483563))) (mc (.int 13))) (mvar 1)))
    snil)))
def rDigit : MF := posA 2 (runT 0 3 mDigit)
def mPick : MS := (sseq (sret (mbin gIx (mvar 1) (mcall rDigit (mcons (mvar 0) (mcons (mfn gLen (mcons (mvar 1) mnil)) mnil)))))
    snil)
def rPick : MF := posA 2 (runT 0 2 mPick)
/-- a pot's numbers -/
structure PotN (a b : Int) : Prop where
  a0 : 0 ≤ a
  b0 : 0 ≤ b
  b1 : b < 2147483648
def potO (a b : Int) : O := .lst [.int a, .int b]
def PotAt (p : Nat) (s : Sto) : Prop := ∃ a b, s[p]? = some (potO a b) ∧ PotN a b
/-- the pot at p was drawn from, nothing else is changed -/
def Mv (p : Nat) (s s' : Sto) : Prop := ∃ a b, PotN a b ∧ s' = s.set p (potO a b)
theorem PotAt.lt {p : Nat} {s : Sto} (h : PotAt p s) : p < s.length := let ⟨_, _, e, _⟩ := h; lt_of_at e
theorem Mv.pot {p : Nat} {s s' : Sto} (h : Mv p s s') (hp : PotAt p s) : PotAt p s' := by
  obtain ⟨a, b, q, rfl⟩ := h
  exact ⟨a, b, List.getElem?_set_self hp.lt, q⟩
theorem Mv.len {p : Nat} {s s' : Sto} (h : Mv p s s') : s'.length = s.length := by
  obtain ⟨a, b, q, rfl⟩ := h
  simp
theorem Mv.trans {p : Nat} {s s1 s2 : Sto} (h : Mv p s s1) (h' : Mv p s1 s2) : Mv p s s2 := by
  obtain ⟨a, b, _, rfl⟩ := h
  obtain ⟨c, d, q, rfl⟩ := h'
  exact ⟨c, d, q, by rw [List.set_set]⟩
theorem Mv.refl {p : Nat} {s : Sto} (h : PotAt p s) : Mv p s s := by
  obtain ⟨a, b, e, q⟩ := h
  refine ⟨a, b, q, ?_⟩
  obtain ⟨hl, e⟩ := List.getElem?_eq_some_iff.mp e
  rw [← e, List.set_getElem_self]
theorem Mv.at {p n : Nat} {s s' : Sto} {o : O} (h : Mv p s s') (e : s[n]? = some o) (hn : n ≠ p) : s'[n]? = some o := by
  obtain ⟨a, b, q, rfl⟩ := h
  rw [List.getElem?_set_ne (Ne.symm hn)]; exact e
theorem Mv.chg {p : Nat} {s s' : Sto} (h : Mv p s s') : Chg s s' := by
  obtain ⟨a, b, q, rfl⟩ := h
  exact Chg.set rfl
theorem Mv.app {p : Nat} {s s' t : Sto} (h : Mv p s s') (hp : p < s.length) : Mv p (s ++ t) (s' ++ t) := by
  obtain ⟨a, b, q, rfl⟩ := h
  exact ⟨a, b, q, by rw [List.set_append_left _ _ hp]⟩
theorem PotAt.app {p : Nat} {s t : Sto} (h : PotAt p s) : PotAt p (s ++ t) := by
  obtain ⟨a, b, e, q⟩ := h
  exact ⟨a, b, at_app e, q⟩
theorem gIx_r {s : Sto} {p : Nat} {xs : List W} {k : Int} {w : W} (h : s[p]? = some (.lst xs)) (e : L2.atI xs k = some w) : gIx (.ref p) (.int k) s = some (w, s) := by
  unfold gIx
  simp only [dicAt_lst h, seqAt_r h, e, ok1_eq]
theorem gIx_f {s : Sto} {xs : List W} {k : Int} {w : W} (e : L2.atI xs k = some w) : gIx (.lst xs) (.int k) s = some (w, s) := by
  unfold gIx
  simp [dicAt, e]
theorem gIx_c {s : Sto} {xs : List W} {k : Int} {w : W} (e : L2.atI xs k = some w) : gIx (.cst xs) (.int k) s = some (w, s) := by
  unfold gIx
  simp [dicAt, e]
theorem gSetI_r {s : Sto} {p : Nat} {xs : List W} {k : Int} {j : Nat} {w : W} (h : s[p]? = some (.lst xs)) (e : L2.ixN xs.length k = some j) : gSetI (.ref p) (.int k) w s = some (s.set p (.lst (xs.set j w))) := by
  unfold gSetI
  simp only [muAt_r h, e]
theorem gLen_f {s : Sto} {xs : List W} : gLen [.lst xs] s = some (.int xs.length, s) := by unfold gLen; simp
theorem gLen_c {s : Sto} {xs : List W} : gLen [.cst xs] s = some (.int xs.length, s) := by unfold gLen; simp
theorem gLen_r {s : Sto} {p : Nat} {xs : List W} (h : s[p]? = some (.lst xs)) : gLen [.ref p] s = some (.int xs.length, s) := by unfold gLen; simp [seqAt_r h]
theorem gDivmod_ok {i j : Int} {s : Sto} (h : cDiv i j = true) : gDivmod [.int i, .int j] s = some (.tup [.int (i / j), .int (i % j)], s) := by unfold gDivmod; simp [h]
theorem digit_ok {s : Sto} {p : Nat} {n : Int} (hp' : PotAt p s) (hn : 0 < n) (hn2 : n.natAbs.log2 < 9000) : ∃ d s', rDigit [.ref p, .int n] [] s = .ok (.int d) s' ∧ 0 ≤ d ∧ d < n ∧ Mv p s s' := by
  obtain ⟨a, b, hp, ha, hb, hb2⟩ := hp'
  have h0 : gIx (.ref p) (.int 0) s = some (.int a, s) := gIx_r hp rfl
  have h1 : gIx (.ref p) (.int 1) s = some (.int b, s) := gIx_r hp rfl
  by_cases hpos : 0 < a
  · have mv : Mv p s (s.set p (potO (a / n) b)) := ⟨_, _, ⟨Int.ediv_nonneg ha (by omega), hb, hb2⟩, rfl⟩
    refine ⟨a % n, s.set p (potO (a / n) b), ?_, Int.emod_nonneg _ (by omega), Int.emod_lt_of_pos _ hn, mv⟩
    show posA 2 (runT 0 3 mDigit) [.ref p, .int n] [] s = _
    rw [posA_eq]
    refine runT_rt (s' := s.set p (potO (a / n) b)) (w := .int (a % n)) ?_ (trim_low0 mv.chg rfl)
    have hd : gDivmod [.int a, .int n] s = some (.tup [.int (a / n), .int (a % n)], s) := gDivmod_ok (by unfold cDiv; simp [hn, hn2])
    have hs : gSetI (.ref p) (.int 0) (.int (a / n)) s = some (s.set p (potO (a / n) b)) := gSetI_r (j := 0) hp rfl
    simp [mDigit, h0, gCI, hpos, hd, hs]
  · generalize hc : (b * 39373 + 12227) % 2147483629 = c
    have hc0 : 0 ≤ c := by omega
    have hc1 : c < 2147483629 := by omega
    have mv : Mv p s (s.set p (potO a c)) := ⟨_, _, ⟨ha, hc0, by omega⟩, rfl⟩
    have hs : gSetI (.ref p) (.int 1) (.int c) s = some (s.set p (potO a c)) := gSetI_r (j := 1) hp rfl
    have h2 : gIx (.ref p) (.int 1) (s.set p (potO a c)) = some (.int c, s.set p (potO a c)) := gIx_r (at_set _ hp) rfl
    have hm : gMul false (.int b) (.int 39373) s = some (.int (b * 39373), s) := gMul_int _ _ _ _ (by
      have : small64 39373 = true := by decide
      simp [this])
    have hm2 : gMul false (.int c) (.int c) (s.set p (potO a c)) = some (.int (c * c), s.set p (potO a c)) := gMul_int _ _ _ _ (by
      have : small64 c = true := by unfold small64; simp; omega
      simp [this])
    refine ⟨c * c % 2147483563 / 13 % n, s.set p (potO a c), ?_, Int.emod_nonneg _ (by omega), Int.emod_lt_of_pos _ hn, mv⟩
    show posA 2 (runT 0 3 mDigit) [.ref p, .int n] [] s = _
    rw [posA_eq]
    refine runT_rt (s' := s.set p (potO a c)) (w := .int (c * c % 2147483563 / 13 % n)) ?_ (trim_low0 mv.chg rfl)
    have hl : (Nat.log2 13 < 9000) := by decide
    simp [mDigit, h0, h1, gCI, hpos, hm, gI, hc, hs, h2, hm2, cDiv, hn, hl]
/-! ### a pot from the script -/
theorem pot_ok {s : Sto} {ns : List Int} {k : Int} (h0 : 0 ≤ k) (h1 : k < 1000) : ∃ a b, rPot [.cst (ns.map .int), .int k] [] s = .ok (.ref s.length) (s ++ [potO a b]) ∧ PotN a b := by
  have hl : gLen [.cst (ns.map .int)] s = some (.int ns.length, s) := by rw [gLen_c]; simp
  have core : ∀ c : Int, 0 ≤ c → ∃ a b, PotN a b ∧ ((mlst true (mcons (mfn gMax (mcons (mc (.int 0)) (mcons (mbin gSub (mvar 2) (mbin gPow (mc (.int 10)) (mc (.int 18)))) mnil))) (mcons (mbin gMod (mbin (gAdd false) (mbin (gAdd false) (mbin (gMul false) (mbin gMod (mvar 2) (mc (.int 2147483587))) (mc (.int 48271))) (mbin (gMul false) (mc (.int 60013)) (mvar 1))) (mc (.int 53))) (mc (.int 2147483647))) mnil))) [some (.cst (ns.map .int)), some (.int k), some (.int c)] s) = .ok (.ref s.length) (s ++ [potO a b]) := by
    intro c hc
    have m1 : gMul false (.int (c % 2147483587)) (.int 48271) s = some (.int (c % 2147483587 * 48271), s) := gMul_int _ _ _ _ (by
      have : small64 48271 = true := by decide
      simp [this])
    have m2 : gMul false (.int 60013) (.int k) s = some (.int (60013 * k), s) := gMul_int _ _ _ _ (by
      have : small64 60013 = true := by decide
      simp [this])
    refine ⟨if c - 10 ^ 18 > 0 then c - 10 ^ 18 else 0, (c % 2147483587 * 48271 + 60013 * k + 53) % 2147483647, ⟨?_, by omega, by omega⟩, ?_⟩
    · split <;> omega
    · have hp : cPow 10 18 = true := by decide
      simp [gI, hp, m1, m2, potO]
  have fin : ∀ c : Int, 0 ≤ c → ((mif (mtb (mbin gLt (mvar 1) (mfn gLen (mcons (mvar 0) mnil)))) (mfn gAbs (mcons (mbin gIx (mvar 0) (mvar 1)) mnil)) (mc (.int 0))) [some (.cst (ns.map .int)), some (.int k), none] s) = .ok (.int c) s → ∃ a b, rPot [.cst (ns.map .int), .int k] [] s = .ok (.ref s.length) (s ++ [potO a b]) ∧ PotN a b := by
    intro c hc e
    obtain ⟨a, b, q, e2⟩ := core c hc
    refine ⟨a, b, ?_, q⟩
    show posA 2 (runT 1 3 mPot) [.cst (ns.map .int), .int k] [] s = _
    rw [posA_eq]
    refine runT_rt (s' := s ++ [potO a b]) (w := .ref s.length) ?_ (trim_keep Chg.rfl (Nat.le_refl _) (at_new _ _) rfl)
    show mPot [some (.cst (ns.map .int)), some (.int k), none] s = _
    unfold mPot
    rw [sseq_eq, sset_eq, e]
    show (((mlst true _) [some (.cst (ns.map .int)), some (.int k), some (.int c)] s).toS _ _).andThen _ = _
    rw [e2]
    rfl
  by_cases hk : k < ns.length
  · obtain ⟨w, e1, e2⟩ := atI_of (xs := ns.map W.int) h0 (by simpa using hk)
    rw [List.getElem?_map] at e2
    obtain ⟨z, e3, rfl⟩ := Option.map_eq_some_iff.mp e2
    have hi : gIx (.cst (ns.map .int)) (.int k) s = some (.int z, s) := gIx_c e1
    refine fin (if z < 0 then -z else z) (by split <;> omega) ?_
    simp [hl, gCI, hk, hi, gAbs]
  · refine fin 0 (by omega) ?_
    simp [hl, gCI, hk]
theorem lows_mem {n : Nat} : ∀ {xs : List W} {w : W}, W.lows n xs = true → w ∈ xs → w.low n = true
  | x :: xs, w, h, hm => by
    rw [W.lows, Bool.and_eq_true] at h
    rcases List.mem_cons.mp hm with rfl | hm
    · exact h.1
    · exact lows_mem h.2 hm
theorem log_small {n : Nat} (h : n < 2 ^ 64) : n.log2 < 9000 := by
  by_cases h0 : n = 0
  · subst h0; decide
  · exact (Nat.log2_lt h0).mpr (Nat.lt_of_lt_of_le h (Nat.pow_le_pow_right (by decide) (by decide)))
/-- one of a list -/
theorem pick_seq {s : Sto} {p : Nat} {xs : List W} (hp : PotAt p s) (h0 : 0 < xs.length) (h1 : xs.length < 16777216) (hl : W.lows s.length xs = true) : ∃ w s', rPick [.ref p, .lst xs] [] s = .ok w s' ∧ w ∈ xs ∧ Mv p s s' := by
  obtain ⟨d, s', e1, d0, d1, mv⟩ := digit_ok (n := xs.length) hp (by omega) (by simpa using log_small (n := xs.length) (by omega))
  obtain ⟨w, e2, e3⟩ := atI_of (xs := xs) d0 d1
  have hm := List.mem_of_getElem? e3
  refine ⟨w, s', ?_, hm, mv⟩
  show posA 2 (runT 0 2 mPick) [.ref p, .lst xs] [] s = _
  rw [posA_eq]
  refine runT_rt (s' := s') (w := w) ?_ (trim_low0 mv.chg (lows_mem hl hm))
  show mPick [some (.ref p), some (.lst xs)] s = _
  simp [mPick, gLen_f, e1, gIx_f e2]
/-- one sign of a text -/
theorem pick_str {s : Sto} {p : Nat} {x : Str} (hp : PotAt p s) (h0 : 0 < x.length) (h1 : x.length < 16777216) : ∃ (c : Nat) (s' : Sto), rPick [.ref p, .str x] [] s = .ok (.str ⟨#[c]⟩) s' ∧ c ∈ x.cps.toList ∧ Mv p s s' := by
  obtain ⟨d, s', e1, d0, d1, mv⟩ := digit_ok (n := x.length) hp (by omega) (by simpa using log_small (n := x.length) (by omega))
  have hx : x.cps.toList.length = x.length := by simp [Str.length]
  obtain ⟨c, e2, e3⟩ := atI_of (xs := x.cps.toList) d0 (by rw [hx]; exact d1)
  have hm := List.mem_of_getElem? e3
  refine ⟨c, s', ?_, hm, mv⟩
  show posA 2 (runT 0 2 mPick) [.ref p, .str x] [] s = _
  rw [posA_eq]
  refine runT_rt (s' := s') (w := .str ⟨#[c]⟩) ?_ (trim_low0 mv.chg rfl)
  show mPick [some (.ref p), some (.str x)] s = _
  have hi : gIx (.str x) (.int d) s' = some (.str ⟨#[c]⟩, s') := by
    unfold gIx
    simp only [e2]
    rw [if_pos (by omega)]; rfl
  simp [mPick, gLen_str _ (show x.length ≤ 16777216 by omega), e1, hi]
end Va

/-! Vq4: the laws' names. -/
namespace Va
open PySem PySem.Spec PyProof.Rows L2
def abc : Str := "abcdefghijklmnopqrstuvwxyz"
def Ltr (c : Nat) : Prop := 97 ≤ c ∧ c ≤ 122
theorem abc_ltr : ∀ c ∈ abc.cps.toList, Ltr c := by
  have : ∀ c ∈ abc.cps.toList, 97 ≤ c ∧ c ≤ 122 := by decide +kernel
  exact this
/-- a word of one to eight letters -/
structure IsWord (x : Str) : Prop where
  lo : 1 ≤ x.length
  hi : x.length ≤ 8
  ls : ∀ c ∈ x.cps.toList, Ltr c
theorem glued_sg (cs : List Nat) : Builtin.Str.glued ("" : Str) (cs.map fun c => (⟨#[c]⟩ : Str)) = ⟨cs.toArray⟩ := by
  have e0 : ("" : Str) = ⟨#[]⟩ := by decide +kernel
  rw [e0]
  have key : ∀ (l : List Nat) (a : Array Nat), (l.map fun c => (⟨#[c]⟩ : Str)).foldl (fun acc p => acc ++ #[] ++ p.cps) a = a ++ l.toArray := by
    intro l
    induction l with
    | nil => intro a; simp
    | cons c l ih => intro a; rw [List.map_cons, List.foldl_cons, ih]; simp
  cases cs with
  | nil => rfl
  | cons c cs =>
    show (⟨_⟩ : Str) = _
    rw [List.map_cons, List.drop_one, List.tail_cons, List.headD_cons, key]
    simp
theorem strsW_map (f : Nat → Str) : ∀ cs : List Nat, strsW (cs.map fun c => W.str (f c)) = some (cs.map f)
  | [] => rfl
  | c :: cs => by rw [List.map_cons, strsW, strsW_map f cs]; rfl
def mWord : ME := mbm "str" gJoin (mc (.str "")) (mcons (mlc false (mirng1 (mcons (mbin gIx (mlst false (mcons (mc (.int 1)) (mcons (mc (.int 2)) (mcons (mc (.int 3)) (mcons (mc (.int 8)) mnil))))) (mcall rDigit (mcons (mvar 0) (mcons (mc (.int 4)) mnil)))) mnil)) (.nm 7) myes (mcall rPick (mcons (mvar 0) (mcons (mvar 3) mnil))) [7]) mnil)
theorem rngW_mem {lo c : Int} {n : Nat} : (rngW lo c n).length = n := rngW_len c n lo
theorem gJoin_sg {s : Sto} {cs : List Nat} (h : cs.length ≤ 16777216) : gJoin (.str "") [.lst (cs.map fun c => W.str ⟨#[c]⟩)] s = some (.str ⟨cs.toArray⟩, s) := by
  unfold gJoin
  simp only [seqAt_f, strsW_map]
  have e0 : ("" : Str).length = 0 := by decide +kernel
  have e1 : ((cs.map fun c => (⟨#[c]⟩ : Str)).map (·.length)).sum = cs.length := by
    clear h
    induction cs with
    | nil => rfl
    | cons c cs ih => simp only [List.map_cons, List.sum_cons, ih, List.length_cons]; show 1 + _ = _; omega
  rw [if_pos (by rw [e1, e0]; omega)]
  have e2 : Txt.join "" (cs.map fun c => (⟨#[c]⟩ : Str)) = ⟨cs.toArray⟩ := glued_sg cs
  rw [e2]; rfl
def mWordN : MI := mirng1 (mcons (mbin gIx (mlst false (mcons (mc (.int 1)) (mcons (mc (.int 2)) (mcons (mc (.int 3)) (mcons (mc (.int 8)) mnil))))) (mcall rDigit (mcons (mvar 0) (mcons (mc (.int 4)) mnil)))) mnil)
theorem mlst4 {ws : Loc} {s : Sto} : mlst false (mcons (mc (.int 1)) (mcons (mc (.int 2)) (mcons (mc (.int 3)) (mcons (mc (.int 8)) mnil)))) ws s = .ok (.lst [.int 1, .int 2, .int 3, .int 8]) s := by
  simp only [mlst_eq, mcons_eq, mc_eq, mnil_eq, R.bind_ok]
  rw [if_pos (by decide)]
  rfl
theorem wordN_eq {s s1 : Sto} {p n : Nat} {d : Int} {ws : Loc} (e1 : rDigit [.ref p, .int 4] [] s = .ok (.int d) s1) (e2 : L2.atI [W.int 1, .int 2, .int 3, .int 8] d = some (.int n)) (h : n ≤ 8) : mWordN (some (.ref p) :: ws) s = .ok ⟨rngW 0 1 n, [], none⟩ s1 := by
  have hs : sml (n : Int) := by unfold sml; omega
  have hm : (mcons (mbin gIx (mlst false (mcons (mc (.int 1)) (mcons (mc (.int 2)) (mcons (mc (.int 3)) (mcons (mc (.int 8)) mnil))))) (mcall rDigit (mcons (mvar 0) (mcons (mc (.int 4)) mnil)))) mnil) (some (.ref p) :: ws) s = .ok [.int n] s1 := by
    rw [mcons_eq, mbin_eq, mlst4]
    simp only [R.bind_ok, mcall_eq, mcons_eq, mvar_0, mc_eq, mnil_eq, e1, gIx_f e2, R.of_some]
  unfold mWordN mirng1
  rw [hm, R.bind_ok]
  dsimp only
  rw [if_pos hs, Int.toNat_natCast]
theorem wordN_ok {s : Sto} {p : Nat} {ws : Loc} (hp : PotAt p s) : ∃ (n : Nat) (s1 : Sto), mWordN (some (.ref p) :: ws) s = .ok ⟨rngW 0 1 n, [], none⟩ s1 ∧ 1 ≤ n ∧ n ≤ 8 ∧ Mv p s s1 := by
  obtain ⟨d, s1, e1, d0, d1, mv1⟩ := digit_ok (n := 4) hp (by decide) (by decide)
  obtain ⟨w, e2, e3⟩ := atI_of (xs := [W.int 1, .int 2, .int 3, .int 8]) d0 (by simpa using d1)
  have hw : ∃ n : Nat, w = .int n ∧ 1 ≤ n ∧ n ≤ 8 := by
    have := List.mem_of_getElem? e3
    simp at this
    rcases this with rfl | rfl | rfl | rfl
    · exact ⟨1, rfl, by omega, by omega⟩
    · exact ⟨2, rfl, by omega, by omega⟩
    · exact ⟨3, rfl, by omega, by omega⟩
    · exact ⟨8, rfl, by omega, by omega⟩
  obtain ⟨n, rfl, n1, n8⟩ := hw
  exact ⟨n, s1, wordN_eq e1 e2 n8, n1, n8, mv1⟩
def mWordE : ME := mcall rPick (mcons (mvar 0) (mcons (mvar 3) mnil))
theorem wordE_ok {s : Sto} {p : Nat} {x1 x2 : Option W} {ws : Loc} (hp : PotAt p s) : ∃ (c : Nat) (s' : Sto), mWordE (some (.ref p) :: x1 :: x2 :: some (.str abc) :: ws) s = .ok (.str ⟨#[c]⟩) s' ∧ Ltr c ∧ Mv p s s' := by
  obtain ⟨c, u', r1, r2, r3⟩ := pick_str (x := abc) hp (by decide +kernel) (by decide +kernel)
  exact ⟨c, u', by unfold mWordE; simp [r1], abc_ltr c r2, r3⟩
theorem wordL_ok {s : Sto} {p n : Nat} {ws : Loc} (hp : PotAt p s) (h8 : n ≤ 8) (hE : ∀ u x, PotAt p u → ∃ (c : Nat) (s' : Sto), mWordE (ws.set 7 (some x)) u = .ok (.str ⟨#[c]⟩) s' ∧ Ltr c ∧ Mv p u s') :
    ∃ (cs : List Nat) (s' : Sto), loopC [] (.nm 7) myes mWordE ws (rngW 0 1 n) [] s = .ok (cs.map fun c => W.str ⟨#[c]⟩) s' ∧ cs.length = n ∧ (∀ c ∈ cs, Ltr c) ∧ Mv p s s' := by
  obtain ⟨s', acc', q1, cs, rfl, q2, q3, q4⟩ := loopC_inv (gd := []) (t := .nm 7) (c := myes) (e := mWordE) (ws := ws)
    (fun xs u acc => ∃ cs : List Nat, acc = (cs.map fun c => W.str ⟨#[c]⟩) ∧ (∀ c ∈ cs, Ltr c) ∧ cs.length + xs.length = n ∧ Mv p s u)
    (fun x xs u acc ⟨cs, ea, hl, hn, mv⟩ => by
      obtain ⟨c, u', r1, r2, r3⟩ := hE u x (mv.pot hp)
      subst ea
      simp only [List.length_cons] at hn
      refine ⟨rfl, _, rfl, .inr ⟨u, .str ⟨#[c]⟩, u', rfl, r1, by rw [List.length_map]; omega, cs ++ [c], by simp, ?_, by rw [List.length_append]; simp; omega, mv.trans r3⟩⟩
      intro c' hc
      rcases List.mem_append.mp hc with h | h
      · exact hl c' h
      · rw [List.mem_singleton.mp h]; exact r2)
    (fun _ _ _ => rfl) (rngW 0 1 n) s [] ⟨[], rfl, by simp, by rw [rngW_len]; simp, Mv.refl hp⟩
  exact ⟨cs, s', q1, by simpa using q3, q2, q4⟩
theorem word_ok {s : Sto} {p : Nat} {x1 x2 x4 x5 x6 x7 x8 x9 x10 : Option W} (hp : PotAt p s) : ∃ w s', mWord [some (.ref p), x1, x2, some (.str abc), x4, x5, x6, x7, x8, x9, x10] s = .ok (.str w) s' ∧ IsWord w ∧ Mv p s s' := by
  obtain ⟨n, s1, hm, n1, n8, mv1⟩ := wordN_ok (ws := [x1, x2, some (.str abc), x4, x5, x6, x7, x8, x9, x10]) hp
  obtain ⟨cs, s', q1, q2, q3, q4⟩ := wordL_ok (ws := wipeW [some (.ref p), x1, x2, some (.str abc), x4, x5, x6, x7, x8, x9, x10] [7]) (mv1.pot hp) n8 fun u x hu => wordE_ok hu
  have hlc : mlc false mWordN (.nm 7) myes mWordE [7] [some (.ref p), x1, x2, some (.str abc), x4, x5, x6, x7, x8, x9, x10] s = _ := mlc_of (mu := false) (vs := [7]) hm q1 (newL_f _ _)
  refine ⟨⟨cs.toArray⟩, s', ?_, ⟨by simp [Str.length, q2, n1], by simp [Str.length, q2, n8], by simpa using q3⟩, mv1.trans q4⟩
  show mbm "str" gJoin (mc (.str "")) (mcons (mlc false mWordN (.nm 7) myes mWordE [7]) mnil) _ s = _
  rw [mbm_eq, mc_eq, R.bind_ok]
  have ty : tyM (.str "") s = "str" := rfl
  rw [if_pos ty, mcons_eq, hlc]
  simp [gJoin_sg (s := s') (cs := cs) (by omega)]
/-! ### the candidates -/
def abcL : List Nat := abc.cps.toList
def cand : List (Nat × Nat) := (abcL ++ abcL).zip (abcL.reverse ++ abcL)
def candW (q : Nat × Nat) : W := .tup [.str ⟨#[q.1]⟩, .str ⟨#[q.2]⟩]
theorem zip_cand : zipW (strW (mulS abc 2)) (strW (revS abc ++ abc)) = cand.map candW := by decide +kernel
theorem cand_nd : cand.Nodup := by decide +kernel
theorem cand_len : cand.length = 52 := by decide +kernel
theorem cand_ltr : ∀ q ∈ cand, Ltr q.1 ∧ Ltr q.2 := by
  have : ∀ q ∈ cand, (97 ≤ q.1 ∧ q.1 ≤ 122) ∧ (97 ≤ q.2 ∧ q.2 ≤ 122) := by decide +kernel
  exact this
def sfx (w : Str) (q : Nat × Nat) : Str := (cutS w none (some 6) ++ ⟨#[q.1]⟩) ++ ⟨#[q.2]⟩
theorem sfx_cps (w : Str) (q : Nat × Nat) : (sfx w q).cps.toList = w.cps.toList.take (min 6 w.length) ++ [q.1, q.2] := by
  show ((cutS w none (some 6)).cps ++ #[q.1] ++ #[q.2]).toList = _
  unfold cutS HT.sIx
  simp
theorem sfx_inj {w : Str} {q r : Nat × Nat} (h : sfx w q = sfx w r) : q = r := by
  have e := congrArg (fun x : Str => x.cps.toList) h
  simp only [sfx_cps, List.append_cancel_left_eq, List.cons.injEq, and_true] at e
  exact Prod.ext e.1 e.2
theorem sfx_word {w : Str} (hw : IsWord w) {q : Nat × Nat} (hq : q ∈ cand) : IsWord (sfx w q) := by
  have e := sfx_cps w q
  have hl : (sfx w q).length = (sfx w q).cps.toList.length := by simp [Str.length]
  have h8 : (List.take (min 6 w.length) w.cps.toList).length ≤ 6 := by rw [List.length_take]; omega
  refine ⟨?_, ?_, ?_⟩
  · rw [hl, e, List.length_append]; simp
  · rw [hl, e, List.length_append]; simp only [List.length_cons, List.length_nil]; omega
  · rw [e]
    intro c hc
    rcases List.mem_append.mp hc with h | h
    · exact hw.ls c (List.mem_of_mem_take h)
    · obtain ⟨l1, l2⟩ := cand_ltr q hq
      simp only [List.mem_cons, List.not_mem_nil, or_false] at h
      rcases h with rfl | rfl
      · exact l1
      · exact l2
def mCandI : MI := mizip (mcons (mbin (gMul false) (mvar 3) (mc (.int 2))) (mcons (mbin (gAdd false) (mun gRevS (mvar 3)) (mvar 3)) mnil))
def mCandE : ME := mbin (gAdd false) (mbin (gAdd false) (mslice false (mvar 6) mnop (mpart (mc (.int 6)))) (mvar 9)) (mvar 10)
theorem candI_ok {x0 x1 x2 : Option W} {ws : Loc} {s : Sto} : mCandI (x0 :: x1 :: x2 :: some (.str abc) :: ws) s = .ok ⟨cand.map candW, [], none⟩ s := by
  have h1 : gMul false (.str abc) (.int 2) s = some (.str (mulS abc 2), s) := by
    exact if_pos (c := 1 < (2 : Int) ∧ abc.length ≠ 0 ∧ abc.length ≤ 4096 ∧ (2 : Int) ≤ 4096) (e := none) (by decide +kernel)
  have h2 : gRevS (.str abc) s = some (.str (revS abc), s) := by
    exact if_pos (c := abc.length ≤ 16777216) (e := none) (by decide +kernel)
  have h3 : gAdd false (.str (revS abc)) (.str abc) s = some (.str (revS abc ++ abc), s) := gAdd_str _ _ (by decide +kernel)
  unfold mCandI mizip
  simp only [mcons_eq, mbin_eq, mun_eq, mvar_s, mvar_0, mc_eq, mnil_eq, R.bind_ok, h1, h2, h3, R.of_some]
  show R.ok (⟨zipW (strW (mulS abc 2)) (strW (revS abc ++ abc)), [], none⟩ : Wk) s = _
  rw [zip_cand]
theorem candE_ok {x0 x1 x2 x3 x4 x5 x7 x8 : Option W} {w a b : Str} {s : Sto} (hw : w.length ≤ 8) (ha : a.length = 1) (hb : b.length = 1) : mCandE [x0, x1, x2, x3, x4, x5, some (.str w), x7, x8, some (.str a), some (.str b)] s = .ok (.str ((cutS w none (some 6) ++ a) ++ b)) s := by
  have h0 : (cutS w none (some 6)).length ≤ 8 := Nat.le_trans (cutS_length w none (some 6)) hw
  have h1 : gSl false (.str w) none (some 6) s = some (.str (cutS w none (some 6)), s) := gSl_str _ _ _ _ (by omega)
  have h2 : gAdd false (.str (cutS w none (some 6))) (.str a) s = some (.str (cutS w none (some 6) ++ a), s) := gAdd_str _ _ (by omega)
  have h3 : (cutS w none (some 6) ++ a).length ≤ 9 := by
    have : (cutS w none (some 6) ++ a).length = (cutS w none (some 6)).length + a.length := by
      show ((cutS w none (some 6)).cps ++ a.cps).size = _
      simp [Str.length]
    omega
  have h4 : gAdd false (.str (cutS w none (some 6) ++ a)) (.str b) s = some (.str ((cutS w none (some 6) ++ a) ++ b), s) := gAdd_str _ _ (by omega)
  unfold mCandE
  simp only [mbin_eq, mslice_eq, mnop_eq, mpart_eq, mc_eq, mvar_s, mvar_0, R.bind_ok, h1, h2, h4, R.of_some]
def candF (w : Str) : W → Option W
  | .nd .tup [.str a, .str b] => some (.str ((cutS w none (some 6) ++ a) ++ b))
  | _ => none
theorem cand_ok {x0 x1 x2 x4 x5 x7 x8 x9 x10 : Option W} {w : Str} {s : Sto} (hw : w.length ≤ 8) : mlc false mCandI (.tp [9, 10]) myes mCandE [9, 10] [x0, x1, x2, some (.str abc), x4, x5, some (.str w), x7, x8, x9, x10] s = .ok (.lst (cand.map fun q => .str (sfx w q))) s := by
  have h := mlc_pure (mi := mCandI) (t := .tp [9, 10]) (c := myes) (e := mCandE) (vs := [9, 10]) (ws := [x0, x1, x2, some (.str abc), x4, x5, some (.str w), x7, x8, x9, x10]) (s := s) (candF w) candI_ok rfl (by rw [List.length_map, cand_len]; decide) (fun x hx => by
    obtain ⟨q, hq, rfl⟩ := List.mem_map.mp hx
    exact ⟨[x0, x1, x2, some (.str abc), x4, x5, some (.str w), x7, x8, some (.str ⟨#[q.1]⟩), some (.str ⟨#[q.2]⟩)], rfl, .inr ⟨.str (sfx w q), rfl, rfl, candE_ok hw rfl rfl⟩⟩)
  rw [h]
  have e : (cand.map candW).filterMap (candF w) = cand.map fun q => W.str (sfx w q) := by
    rw [List.filterMap_map]
    have : (candF w ∘ candW) = fun q => some (W.str (sfx w q)) := rfl
    rw [this, List.filterMap_eq_map']
  rw [e]
/-! ### a fresh one -/
theorem anyS {x : Str} : ∀ l : List Str, ((l.map W.str).any fun y => eqF y (.str x)) = decide (x ∈ l)
  | [] => rfl
  | y :: l => by
    rw [List.map_cons, List.any_cons, anyS l]
    show ((y == x) || _) = _
    by_cases h : y = x
    · subst h; simp
    · have : (y == x) = false := by simpa using h
      rw [this, Bool.false_or]
      simp [Ne.symm h]
theorem flatS : ∀ l : List Str, (l.map W.str).all flatW = true
  | [] => rfl
  | _ :: l => by rw [List.map_cons, List.all_cons, flatS l]; rfl
theorem gIn_strs {x : Str} {l : List Str} {s : Sto} : gIn (.str x) (.lst (l.map W.str)) s = some (.bl (decide (x ∈ l)), s) := by
  unfold gIn gInB
  simp only [dicAt, seqAt_f]
  rw [if_pos (by rw [flatS]; rfl), anyS]; rfl
theorem gNotIn_strs {x : Str} {l : List Str} {s : Sto} : gNotIn (.str x) (.lst (l.map W.str)) s = some (.bl (!decide (x ∈ l)), s) := by
  unfold gNotIn gInB
  simp only [dicAt, seqAt_f]
  rw [if_pos (by rw [flatS]; rfl), anyS]; rfl
theorem miany_f {m : ME} {ws : Loc} {s s' : Sto} {xs : List W} (h : m ws s = .ok (.lst xs) s') : miany m ws s = .ok ⟨xs, [], none⟩ s' := by
  unfold miany
  rw [h]
  rfl
theorem trAt_r {s : Sto} {p : Nat} {xs : List W} (h : s[p]? = some (.lst xs)) : trAt s (.ref p) = some xs := by unfold trAt; simp [h]
theorem gAdd_fr {mu : Bool} {s : Sto} {q : Nat} {xs ys : List W} (h : s[q]? = some (.lst ys)) (l : xs.length + ys.length ≤ 16777216) : gAdd mu (.lst xs) (.ref q) s = newL mu (xs ++ ys) s := by
  unfold gAdd
  simp only [trAt_r h]
  exact if_pos l
theorem gAdd_ff {mu : Bool} {s : Sto} {xs ys : List W} (l : xs.length + ys.length ≤ 16777216) : gAdd mu (.lst xs) (.lst ys) s = newL mu (xs ++ ys) s := by
  unfold gAdd
  exact if_pos l
def freshF (l : List Str) : W → Option W
  | .str y => if !decide (y ∈ l) then some (.str y) else none
  | _ => none
def mFreshC : MT := mtb (mbin gNotIn (mvar 9) (mbin (gAdd false) (mvar 2) (mvar 4)))
def mFresh : ME := mbin gIx (mlc false (miany (mvar 8)) (.nm 9) mFreshC (mvar 9) [9]) (mc (.int 0))
theorem fresh_ok {x0 x1 x3 x5 x6 x7 x9 x10 : Option W} {us fs cs : List Str} {q : Nat} {s : Sto} (hq : s[q]? = some (.lst (fs.map .str))) (hl : us.length + fs.length ≤ 16777216) (hc : cs.length ≤ 16777216) {n : Str} {r : List Str} (hn : cs.filter (fun x => !decide (x ∈ us ++ fs)) = n :: r) :
    mFresh [x0, x1, some (.lst (us.map .str)), x3, some (.ref q), x5, x6, x7, some (.lst (cs.map .str)), x9, x10] s = .ok (.str n) s := by
  have h := mlc_pure (mi := miany (mvar 8)) (t := .nm 9) (c := mFreshC) (e := mvar 9) (vs := [9]) (ws := [x0, x1, some (.lst (us.map .str)), x3, some (.ref q), x5, x6, x7, some (.lst (cs.map .str)), x9, x10]) (s := s) (s1 := s) (xs := cs.map .str) (gd := [])
    (freshF (us ++ fs)) (miany_f rfl) rfl (by rw [List.length_map]; exact hc) (fun x hx => by
    obtain ⟨y, _, rfl⟩ := List.mem_map.mp hx
    have ec : mFreshC [x0, x1, some (.lst (us.map .str)), x3, some (.ref q), x5, x6, x7, some (.lst (cs.map .str)), some (.str y), x10] s = .ok (!decide (y ∈ us ++ fs)) s := by
      have e1 : gAdd false (.lst (us.map .str)) (.ref q) s = some (.lst ((us ++ fs).map .str), s) := by
        rw [gAdd_fr hq (by simpa using hl), List.map_append]; rfl
      unfold mFreshC
      simp only [mtb_eq, mbin_eq, mvar_s, mvar_0, R.bind_ok, e1, R.of_some, gNotIn_strs]
    refine ⟨_, rfl, ?_⟩
    cases hd : !decide (y ∈ us ++ fs) with
    | false => exact .inl ⟨by show (if (!decide (y ∈ us ++ fs)) = true then some (W.str y) else none) = none; rw [hd]; rfl, by rw [hd] at ec; exact ec⟩
    | true => exact .inr ⟨.str y, by show (if (!decide (y ∈ us ++ fs)) = true then some (W.str y) else none) = _; rw [hd]; rfl, by rw [hd] at ec; exact ec, rfl⟩)
  have e2 : (cs.map W.str).filterMap (freshF (us ++ fs)) = (cs.filter (fun x => !decide (x ∈ us ++ fs))).map .str := by
    clear h hn hc
    induction cs with
    | nil => rfl
    | cons c cs ih =>
      rw [List.map_cons, List.filterMap_cons, List.filter_cons, ih]
      have e0 : freshF (us ++ fs) (.str c) = if (!decide (c ∈ us ++ fs)) = true then some (W.str c) else none := rfl
      rw [e0]
      cases !decide (c ∈ us ++ fs) with
      | false => rfl
      | true => rfl
  rw [e2, hn] at h
  unfold mFresh
  rw [mbin_eq, h]
  show R.of (gIx (.lst (.str n :: r.map .str)) (.int 0) s) = _
  rw [show ((0 : Int)) = ((0 : Nat) : Int) from rfl, gIx_f (w := .str n) (atI_nat (k := 0) rfl)]
  rfl
theorem fresh_ex {w : Str} (hw : IsWord w) {l : List Str} (hl : l.length < 52) : ∃ n r, ([w] ++ cand.map (sfx w)).filter (fun x => !decide (x ∈ l)) = n :: r ∧ IsWord n ∧ n ∉ l := by
  cases e : ([w] ++ cand.map (sfx w)).filter (fun x => !decide (x ∈ l)) with
  | nil =>
    exfalso
    have hs : cand.map (sfx w) ⊆ l := fun x hx => by
      have : x ∉ ([w] ++ cand.map (sfx w)).filter (fun x => !decide (x ∈ l)) := by rw [e]; exact List.not_mem_nil
      rw [List.mem_filter] at this
      by_cases hm : x ∈ l
      · exact hm
      · exact absurd ⟨List.mem_append_right _ hx, by simpa using hm⟩ this
    have nd : (cand.map (sfx w)).Nodup := by
      exact List.pairwise_map.mpr (cand_nd.imp fun h e => h (sfx_inj e))
    have := List.Nodup.length_le_of_subset nd hs
    rw [List.length_map, cand_len] at this
    omega
  | cons n r =>
    have hm : n ∈ ([w] ++ cand.map (sfx w)).filter (fun x => !decide (x ∈ l)) := by rw [e]; exact List.mem_cons_self
    obtain ⟨h1, h2⟩ := List.mem_filter.mp hm
    refine ⟨n, r, rfl, ?_, by simpa using h2⟩
    rcases List.mem_append.mp h1 with h | h
    · rw [List.mem_singleton.mp h]; exact hw
    · obtain ⟨q, hq, rfl⟩ := List.mem_map.mp h
      exact sfx_word hw hq
/-! ### the whole -/
theorem Mv.of_app {p : Nat} {u t s' : Sto} (h : Mv p (u ++ t) s') (hp : p < u.length) : ∃ u', s' = u' ++ t ∧ Mv p u u' := by
  obtain ⟨a, b, q, rfl⟩ := h
  exact ⟨_, List.set_append_left _ _ hp, a, b, q, rfl⟩
theorem set_last {u : Sto} {o o' : O} : (u ++ [o]).set u.length o' = u ++ [o'] := by
  rw [List.set_append_right _ _ (Nat.le_refl _)]; simp
def mNames1 : MS := sseq (sset 6 mWord)
    (sseq (sset 8 (mbin (gAdd false) (mlst false (mcons (mvar 6) mnil)) (mlc false mCandI (.tp [9, 10]) myes mCandE [9, 10])))
    (sseq (sexpr (mbm "list" gAppend (mvar 4) (mcons mFresh mnil)))
    snil))
def mNames : MS := (sseq (sasg (mtup (mcons (mc (.str abc)) (mcons (mlst true mnil) mnil))) (gtup 2 (gcons (gname 3) (gcons (gname 4) gnil))))
    (sseq (sfor (mirng1 (mcons (mvar 1) mnil)) (gname 5) mNames1)
    (sseq (sret (mvar 4))
    snil)))
def rNames : MF := posA 3 (runT 0 11 mNames)
theorem names1_ok {u : Sto} {p : Nat} {us fs : List Str} {x1 x5 x6 x7 x8 x9 x10 : Option W} (hp : PotAt p u) (hl : us.length + fs.length < 52) :
    ∃ n u' y6 y8, mNames1 [some (.ref p), x1, some (.lst (us.map .str)), some (.str abc), some (.ref u.length), x5, x6, x7, x8, x9, x10] (u ++ [.lst (fs.map .str)]) = .nx [some (.ref p), x1, some (.lst (us.map .str)), some (.str abc), some (.ref u.length), x5, y6, x7, y8, x9, x10] (u' ++ [.lst ((fs ++ [n]).map .str)]) ∧ IsWord n ∧ n ∉ us ++ fs ∧ Mv p u u' := by
  obtain ⟨w, s1, e1, hw, mv⟩ := word_ok (x1 := x1) (x2 := some (.lst (us.map .str))) (x4 := some (.ref u.length)) (x5 := x5) (x6 := x6) (x7 := x7) (x8 := x8) (x9 := x9) (x10 := x10) (hp.app (t := [.lst (fs.map .str)]))
  obtain ⟨u', rfl, mv'⟩ := mv.of_app hp.lt
  have lu : u'.length = u.length := mv'.len
  obtain ⟨n, r, hn, hnw, hnl⟩ := fresh_ex hw (l := us ++ fs) (by simpa using hl)
  have hq : (u' ++ [O.lst (fs.map .str)])[u.length]? = some (.lst (fs.map .str)) := by rw [← lu]; exact at_new _ _
  have e2 : (mbin (gAdd false) (mlst false (mcons (mvar 6) mnil)) (mlc false mCandI (.tp [9, 10]) myes mCandE [9, 10])) [some (.ref p), x1, some (.lst (us.map .str)), some (.str abc), some (.ref u.length), x5, some (.str w), x7, x8, x9, x10] (u' ++ [.lst (fs.map .str)]) = .ok (.lst (([w] ++ cand.map (sfx w)).map .str)) (u' ++ [.lst (fs.map .str)]) := by
    have ea : (mlst false (mcons (mvar 6) mnil)) [some (.ref p), x1, some (.lst (us.map .str)), some (.str abc), some (.ref u.length), x5, some (.str w), x7, x8, x9, x10] (u' ++ [.lst (fs.map .str)]) = .ok (.lst [.str w]) (u' ++ [.lst (fs.map .str)]) := by
      simp only [mlst_eq, mcons_eq, mvar_s, mvar_0, mnil_eq, R.bind_ok]
      exact (if_pos (c := [W.str w].length ≤ 16777216) (show 1 ≤ 16777216 by decide)).trans rfl
    rw [mbin_eq, ea, R.bind_ok, cand_ok hw.hi, R.bind_ok, gAdd_ff (by rw [List.length_map, cand_len]; exact (show 1 + 52 ≤ 16777216 by decide))]
    simp [Function.comp_def]
  have e3 := fresh_ok (x0 := some (.ref p)) (x1 := x1) (x3 := some (.str abc)) (x5 := x5) (x6 := some (.str w)) (x7 := x7) (x9 := x9) (x10 := x10) (cs := [w] ++ cand.map (sfx w)) (us := us) hq (by omega) (by rw [List.length_append, List.length_map, cand_len]; exact (show 1 + 52 ≤ 16777216 by decide)) hn
  have e4 : gAppend (.ref u.length) [.str n] (u' ++ [.lst (fs.map .str)]) = some (.non, u' ++ [.lst ((fs ++ [n]).map .str)]) := by
    unfold gAppend
    simp only [muAt_r hq]
    rw [if_pos (by rw [List.length_map]; omega)]
    rw [← lu, set_last]
    simp
  refine ⟨n, u', some (.str w), some (.lst (([w] ++ cand.map (sfx w)).map .str)), ?_, hnw, hnl, mv'⟩
  unfold mNames1
  rw [sseq_eq, sset_eq, e1]
  show (sseq (sset 8 _) _) [some (.ref p), x1, some (.lst (us.map .str)), some (.str abc), some (.ref u.length), x5, some (.str w), x7, x8, x9, x10] _ = _
  rw [sseq_eq, sset_eq, e2]
  show (sseq (sexpr _) _) [some (.ref p), x1, some (.lst (us.map .str)), some (.str abc), some (.ref u.length), x5, some (.str w), x7, some (.lst (([w] ++ cand.map (sfx w)).map .str)), x9, x10] _ = _
  have ty : tyM (.ref u.length) (u' ++ [O.lst (fs.map .str)]) = "list" := by unfold tyM; simp [lstAt_r hq]
  rw [sseq_eq, sexpr_eq, mbm_eq]
  simp only [mvar_s, mvar_0, R.bind_ok]
  rw [if_pos ty, mcons_eq, e3]
  simp only [R.bind_ok, mnil_eq, e4, R.of_some, R.toS_ok, RS.then_nx, snil_eq]
end Va

/-! Vq5: the laws' names, the whole. -/
namespace Va
open PySem PySem.Spec PyProof.Rows L2
theorem mlst0 (ws : Loc) (s : Sto) : (mlst true mnil) ws s = .ok (.ref s.length) (s ++ [.lst []]) := by
  rw [mlst_eq, mnil_eq, R.bind_ok, if_pos (show ([] : List W).length ≤ 16777216 from Nat.zero_le _), newL_t, R.of_some]
theorem two_le (a b : W) : [a, b].length ≤ 16777216 := by
  show 2 ≤ 16777216
  decide
theorem mtup2 {a b : ME} {ws : Loc} {s s1 s2 : Sto} {x y : W} (h1 : a ws s = .ok x s1) (h2 : b ws s1 = .ok y s2) : mtup (mcons a (mcons b mnil)) ws s = .ok (.tup [x, y]) s2 := by
  rw [mtup_eq, mcons_eq, h1, R.bind_ok, mcons_eq, h2, R.bind_ok, mnil_eq, R.bind_ok, R.bind_ok, R.bind_ok, if_pos (two_le x y)]
theorem posA_at {n : Nat} {m : List W → Sto → R W} {ws : List W} (h : ws.length = n) (s : Sto) : posA n m ws [] s = m ws s := by
  rw [posA_eq, if_pos h]
theorem mirng1_ok {m : MA} {ws : Loc} {s s' : Sto} {n : Nat} (h : m ws s = .ok [.int n] s') (hn : n < 4294967296) : mirng1 m ws s = .ok ⟨rngW 0 1 n, [], none⟩ s' := by
  have hs : sml (n : Int) := by unfold sml; omega
  unfold mirng1
  rw [h, R.bind_ok]
  dsimp only
  rw [if_pos hs, Int.toNat_natCast]
theorem names_mi {u : Sto} {p many : Nat} {ws : Loc} (h : many < 50) : mirng1 (mcons (mvar 1) mnil) (some (.ref p) :: some (.int many) :: ws) u = .ok ⟨rngW 0 1 many, [], none⟩ u := by
  refine mirng1_ok ?_ (by omega)
  rw [mcons_eq, mvar_s, mvar_0, R.bind_ok, mnil_eq, R.bind_ok]
def nInv (s : Sto) (p many : Nat) (us : List Str) (xs : List W) (ws : Loc) (u : Sto) : Prop := ∃ (fs : List Str) (u' : Sto) (x5 x6 x7 x8 x9 x10 : Option W), ws = [some (.ref p), some (.int many), some (.lst (us.map .str)), some (.str abc), some (.ref s.length), x5, x6, x7, x8, x9, x10] ∧ u = u' ++ [.lst (fs.map .str)] ∧ Mv p s u' ∧ fs.length + xs.length = many ∧ fs.Nodup ∧ ∀ n ∈ fs, IsWord n ∧ n ∉ us
def nOut (s : Sto) (p many : Nat) (us : List Str) (r : RS) : Prop := ∃ (fs : List Str) (u' : Sto) (ws : Loc), r = .nx ws (u' ++ [.lst (fs.map .str)]) ∧ ws[4]? = some (some (.ref s.length)) ∧ Mv p s u' ∧ fs.length = many ∧ fs.Nodup ∧ ∀ n ∈ fs, IsWord n ∧ n ∉ us
theorem names_step {s : Sto} {p many : Nat} {us : List Str} (hp : PotAt p s) (hl : us.length + many < 50) (x : W) (xs : List W) (ws : Loc) (u : Sto) (h : nInv s p many us (x :: xs) ws u) : gdOk [] u = true ∧ ∃ ws2 s2, gname 5 x ws u = .ok ws2 s2 ∧
      ((∃ ws3 s3, (mNames1 ws2 s2 = .nx ws3 s3 ∨ mNames1 ws2 s2 = .ct ws3 s3) ∧ nInv s p many us xs ws3 s3) ∨ (∃ ws3 s3, mNames1 ws2 s2 = .bk ws3 s3 ∧ nOut s p many us (.nx ws3 s3)) ∨ (∃ w' s3, mNames1 ws2 s2 = .rt w' s3 ∧ nOut s p many us (.rt w' s3)) ∨ (∃ k d ws3 s3, mNames1 ws2 s2 = .er k d ws3 s3 ∧ nOut s p many us (.er k d ws3 s3))) := by
  obtain ⟨fs, u', x5, x6, x7, x8, x9, x10, ew, eu, mv, hn, nd, hw⟩ := h
  subst ew eu
  refine ⟨rfl, _, _, rfl, .inl ?_⟩
  have lu : u'.length = s.length := mv.len
  simp only [List.length_cons] at hn
  obtain ⟨n, u2, y6, y8, e, h1, h2, mv2⟩ := names1_ok (u := u') (p := p) (us := us) (fs := fs) (x1 := some (.int many)) (x5 := some x) (x6 := x6) (x7 := x7) (x8 := x8) (x9 := x9) (x10 := x10) (mv.pot hp) (by omega)
  rw [lu] at e
  refine ⟨_, _, .inl e, fs ++ [n], u2, some x, y6, x7, y8, x9, x10, rfl, rfl, mv.trans mv2, by rw [List.length_append, List.length_singleton]; omega, ?_, ?_⟩
  · rw [List.nodup_append]
    refine ⟨nd, (by simp), fun a ha b hb => ?_⟩
    rw [List.mem_singleton.mp hb]
    exact fun z => h2 (List.mem_append_right _ (z ▸ ha))
  · intro m hm
    rcases List.mem_append.mp hm with h | h
    · exact hw m h
    · rw [List.mem_singleton.mp h]; exact ⟨h1, fun z => h2 (List.mem_append_left _ z)⟩
theorem names_main {s : Sto} {p many : Nat} {us : List Str} (hp : PotAt p s) (hl : us.length + many < 50) : nOut s p many us (sfor (mirng1 (mcons (mvar 1) mnil)) (gname 5) mNames1 [some (.ref p), some (.int many), some (.lst (us.map .str)), some (.str abc), some (.ref s.length), none, none, none, none, none, none] (s ++ [.lst []])) := by
  refine sfor_inv (names_mi (by omega)) (nInv s p many us) (nOut s p many us) ?_ (names_step hp hl) fun ws u h => ?_
  · exact ⟨[], s, none, none, none, none, none, none, rfl, rfl, Mv.refl hp, by rw [rngW_len, List.length_nil, Nat.zero_add], List.nodup_nil, fun n h => (List.not_mem_nil h).elim⟩
  · obtain ⟨fs, u', x5, x6, x7, x8, x9, x10, ew, eu, mv, hn, nd, hw⟩ := h
    subst ew eu
    rw [List.length_nil, Nat.add_zero] at hn
    exact ⟨rfl, fs, u', _, rfl, rfl, mv, hn, nd, hw⟩
theorem names_ok {s : Sto} {p : Nat} {us : List Str} {many : Nat} (hp : PotAt p s) (hl : us.length + many < 50) :
    ∃ (ns : List Str) (s' : Sto), rNames [.ref p, .int many, .lst (us.map .str)] [] s = .ok (.lst (ns.map .str)) s' ∧ ns.length = many ∧ ns.Nodup ∧ (∀ n ∈ ns, IsWord n ∧ n ∉ us) ∧ Mv p s s' := by
  obtain ⟨fs, u', ws, er, h4, mv, hn, nd, hw⟩ := names_main hp hl
  refine ⟨fs, u', ?_, hn, nd, hw, mv⟩
  show posA 3 (runT 0 11 mNames) [.ref p, .int many, .lst (us.map .str)] [] s = _
  rw [posA_at (show [W.ref p, W.int many, W.lst (us.map .str)].length = 3 from rfl)]
  have lu : u'.length = s.length := mv.len
  refine runT_rt (s' := u' ++ [.lst (fs.map .str)]) (w := .ref s.length) ?_ (trim_lst mv.chg (Nat.le_refl _) (by rw [← lu]; exact at_new _ _) ?_)
  · show mNames [some (.ref p), some (.int many), some (.lst (us.map .str)), none, none, none, none, none, none, none, none] s = _
    unfold mNames
    rw [sseq_eq, sasg_eq]
    have e1 : (mtup (mcons (mc (.str abc)) (mcons (mlst true mnil) mnil))) [some (.ref p), some (.int many), some (.lst (us.map .str)), none, none, none, none, none, none, none, none] s = .ok (.tup [.str abc, .ref s.length]) (s ++ [.lst []]) := by
      exact mtup2 (mc_eq _ _ _) (mlst0 _ _)
    have e2 : (gtup 2 (gcons (gname 3) (gcons (gname 4) gnil))) (.tup [.str abc, .ref s.length]) [some (.ref p), some (.int many), some (.lst (us.map .str)), none, none, none, none, none, none, none, none] (s ++ [.lst []]) = .ok [some (.ref p), some (.int many), some (.lst (us.map .str)), some (.str abc), some (.ref s.length), none, none, none, none, none, none] (s ++ [.lst []]) := by
      rw [gtup_eq, if_pos (show [W.str abc, W.ref s.length].length = 2 from rfl)]
      rfl
    rw [e1, R.toS_ok, e2, R.toS_ok, RS.then_nx, sseq_eq, er, RS.then_nx, sseq_eq, sret_eq, mvar_at h4, R.toS_ok, RS.then_rt]
  · clear er hn nd hw
    induction fs with
    | nil => rfl
    | cons f fs ih => rw [List.map_cons, W.lows, ih]; rfl
end Va

/-! Vq6: walks of dicts; sets of names as dicts. -/
namespace Va
open PySem PySem.Spec PyProof.Rows L2
theorem miany_t {m : ME} {ws : Loc} {s s' : Sto} {xs : List W} (h : m ws s = .ok (.tup xs) s') : miany m ws s = .ok ⟨xs, [], none⟩ s' := by
  unfold miany
  rw [h]
  rfl
theorem miany_r {m : ME} {ws : Loc} {s s' : Sto} {n : Nat} {xs : List W} (h : m ws s = .ok (.ref n) s') (e : s'[n]? = some (.lst xs)) : miany m ws s = .ok ⟨xs, [(n, .lst xs)], none⟩ s' := by
  unfold miany
  rw [h, R.bind_ok, dicAt_lst e]
  unfold wkOf lsG
  simp only [e]
  rfl
theorem miany_d {m : ME} {ws : Loc} {s s' : Sto} {n : Nat} {l : List (Key × W)} (h : m ws s = .ok (.ref n) s') (e : s'[n]? = some (.dic l)) : miany m ws s = .ok ⟨keysW' l, [(n, .lck l)], some (n, l)⟩ s' := by
  unfold miany
  rw [h, R.bind_ok, dicAt_r e]
  unfold dcG
  simp only [e]
  rfl
theorem mitems_d {m : ME} {ws : Loc} {s s' : Sto} {n : Nat} {l : List (Key × W)} (h : m ws s = .ok (.ref n) s') (e : s'[n]? = some (.dic l)) : midic itmsW m ws s = .ok ⟨itmsW l, [(n, .lck l)], some (n, l)⟩ s' := by
  unfold midic
  rw [h, R.bind_ok]
  unfold dcG
  simp only [e]
  rfl
theorem gdOk_one {n : Nat} {o : O} {s : Sto} (h : s[n]? = some o) : gdOk [(n, o)] s = true := by unfold gdOk; simp [h]
theorem lk_back {s : Sto} {n : Nat} {l : List (Key × W)} (h : s[n]? = some (.dic l)) : (s.set n (.lck l)).set n (.dic l) = s := by
  rw [List.set_set]
  obtain ⟨hl, e⟩ := List.getElem?_eq_some_iff.mp h
  rw [← e, List.set_getElem_self]
theorem lk_at {s : Sto} {n : Nat} {l : List (Key × W)} (h : s[n]? = some (.dic l)) : (s.set n (.lck l))[n]? = some (.lck l) := at_set _ h
theorem fin_lk {B : Type} {s : Sto} {n : Nat} {l : List (Key × W)} {xs : List W} {gd : List (Nat × O)} {b : B} (h : s[n]? = some (.dic l)) : (R.ok b (s.set n (.lck l))).fin ⟨xs, gd, some (n, l)⟩ = .ok b s := by
  have : unlk n l (s.set n (.lck l)) = some s := by
    unfold unlk
    rw [if_pos (lk_at h), lk_back h]
  show (match unlk n l (s.set n (.lck l)) with
    | some s' => R.ok b s'
    | none => .no) = _
  rw [this]
/-- a comprehension over a dict of the store, that changes nothing -/
theorem mlc_lk {mu : Bool} {mi : MI} {t : Tgt} {c : MT} {e : ME} {vs : List Nat} {ws : Loc} {s s1 : Sto} {n : Nat} {l : List (Key × W)} {xs : List W} (F : W → Option W) (hm : mi ws s = .ok ⟨xs, [(n, .lck l)], some (n, l)⟩ s1) (hd : s1[n]? = some (.dic l)) (hl : xs.length ≤ 16777216)
    (h : ∀ x ∈ xs, ∃ ws2, t.put x (wipeW ws vs) = some ws2 ∧ ((F x = none ∧ c ws2 (s1.set n (.lck l)) = .ok false (s1.set n (.lck l))) ∨ ∃ y, F x = some y ∧ c ws2 (s1.set n (.lck l)) = .ok true (s1.set n (.lck l)) ∧ e ws2 (s1.set n (.lck l)) = .ok y (s1.set n (.lck l)))) :
    mlc mu mi t c e vs ws s = R.of (newL mu (xs.filterMap F) s1) := by
  have q := loopC_pure (gd := [(n, .lck l)]) F (gdOk_one (lk_at hd)) xs [] (by rw [List.length_nil, Nat.zero_add]; exact hl) h
  unfold mlc mcomp
  rw [hm, R.bind_ok]
  show (((loopC [(n, .lck l)] t c e (wipeW ws vs) xs [] (s1.set n (.lck l))).fin ⟨xs, [(n, .lck l)], some (n, l)⟩).bind fun ys s => R.of (newL mu ys s)) = _
  rw [q, fin_lk hd, R.bind_ok, List.nil_append]
theorem mdc_lk {mu : Bool} {mi : MI} {t : Tgt} {c : MT} {ek ev : ME} {vs : List Nat} {ws : Loc} {s s1 : Sto} {n : Nat} {l : List (Key × W)} {xs : List W} (F : W → Key × W) (hm : mi ws s = .ok ⟨xs, [(n, .lck l)], some (n, l)⟩ s1) (hd : s1[n]? = some (.dic l)) (hl : xs.length ≤ 16777216)
    (h : ∀ x ∈ xs, ∃ ws2 y, t.put x (wipeW ws vs) = some ws2 ∧ c ws2 (s1.set n (.lck l)) = .ok true (s1.set n (.lck l)) ∧ ek ws2 (s1.set n (.lck l)) = .ok y (s1.set n (.lck l)) ∧ keyW y = some (F x).1 ∧ ev ws2 (s1.set n (.lck l)) = .ok (F x).2 (s1.set n (.lck l))) :
    mdc mu mi t c ek ev vs ws s = R.of (newD mu (putAll F [] xs) s1) := by
  have q := loopD_pure (gd := [(n, .lck l)]) F (gdOk_one (lk_at hd)) xs [] (by rw [List.length_nil, Nat.zero_add]; exact hl) h
  unfold mdc
  rw [hm, R.bind_ok]
  show (((loopD [(n, .lck l)] t c ek ev (wipeW ws vs) xs [] (s1.set n (.lck l))).fin ⟨xs, [(n, .lck l)], some (n, l)⟩).bind fun ys s => R.of (newD mu ys s)) = _
  rw [q, fin_lk hd, R.bind_ok]
theorem mdc_pure {mu : Bool} {mi : MI} {t : Tgt} {c : MT} {ek ev : ME} {vs : List Nat} {ws : Loc} {s s1 : Sto} {xs : List W} {gd : List (Nat × O)} (F : W → Key × W) (hm : mi ws s = .ok ⟨xs, gd, none⟩ s1) (hg : gdOk gd s1 = true) (hl : xs.length ≤ 16777216)
    (h : ∀ x ∈ xs, ∃ ws2 y, t.put x (wipeW ws vs) = some ws2 ∧ c ws2 s1 = .ok true s1 ∧ ek ws2 s1 = .ok y s1 ∧ keyW y = some (F x).1 ∧ ev ws2 s1 = .ok (F x).2 s1) : mdc mu mi t c ek ev vs ws s = R.of (newD mu (putAll F [] xs) s1) := by
  have q := loopD_pure F hg xs [] (by rw [List.length_nil, Nat.zero_add]; exact hl) h
  unfold mdc
  rw [hm, R.bind_ok]
  show (((loopD gd t c ek ev (wipeW ws vs) xs [] s1).fin ⟨xs, gd, none⟩).bind fun ys s => R.of (newD mu ys s)) = _
  rw [q, R.fin_plain, R.bind_ok]
/-! ### names as keys -/
def kTrue (x : Str) : Key × W := (.inr x, .bl true)
def trueF : W → Key × W
  | .str y => kTrue y
  | _ => (.inl 0, .non)
/-- the dict of those names, in the order they first came -/
def setOf (l : List Str) : List Str := l.foldl (fun acc x => if x ∈ acc then acc else acc ++ [x]) []
theorem putW_true {acc : List Str} {x : Str} : putW (acc.map kTrue) (.inr x) (.bl true) = (if x ∈ acc then acc else acc ++ [x]).map kTrue := by
  unfold putW
  have e : ((acc.map kTrue).any fun kv => decide (kv.1 = .inr x)) = decide (x ∈ acc) := by
    induction acc with
    | nil => rfl
    | cons a acc ih =>
      rw [List.map_cons, List.any_cons, ih]
      by_cases h : a = x
      · subst h; simp [kTrue]
      · have : decide ((kTrue a).1 = (.inr x : Key)) = false := by simp [kTrue, h]
        rw [this, Bool.false_or]; simp [Ne.symm h]
  rw [e]
  by_cases h : x ∈ acc
  · rw [if_pos (by simpa using h), if_pos h, List.map_map]
    refine List.map_congr_left fun a _ => ?_
    show (if (Sum.inr a : Key) = .inr x then ((Sum.inr a : Key), W.bl true) else (.inr a, .bl true)) = (.inr a, .bl true)
    split <;> rfl
  · rw [if_neg (by simpa using h), if_neg h, List.map_append]; rfl
theorem mem_ins {acc : List Str} {x y : Str} : y ∈ (if x ∈ acc then acc else acc ++ [x]) ↔ y ∈ acc ∨ y = x := by
  split
  · rename_i h
    exact ⟨.inl, fun q => q.elim id fun e => e ▸ h⟩
  · simp
theorem mem_fold {l acc : List Str} {y : Str} : y ∈ l.foldl (fun acc x => if x ∈ acc then acc else acc ++ [x]) acc ↔ y ∈ acc ∨ y ∈ l := by
  induction l generalizing acc with
  | nil => simp
  | cons x l ih => rw [List.foldl_cons, ih, mem_ins]; simp [or_assoc]
theorem mem_setOf {l : List Str} {y : Str} : y ∈ setOf l ↔ y ∈ l := by unfold setOf; rw [mem_fold]; simp
theorem putAll_true (l : List Str) : putAll trueF [] (l.map .str) = (setOf l).map kTrue := by
  have key : ∀ (l acc : List Str), putAll trueF (acc.map kTrue) (l.map .str) = (l.foldl (fun acc x => if x ∈ acc then acc else acc ++ [x]) acc).map kTrue := by
    intro l
    induction l with
    | nil => intro acc; rfl
    | cons x l ih =>
      intro acc
      rw [List.map_cons, List.foldl_cons, ← ih]
      show putAll _ (putW (acc.map kTrue) (.inr x) (.bl true)) _ = _
      rw [putW_true]
  exact key l []
theorem valW_true {acc : List Str} {x : Str} : (valW (acc.map kTrue) (.inr x)).isSome = decide (x ∈ acc) := by
  unfold valW
  rw [Option.isSome_map]
  induction acc with
  | nil => rfl
  | cons a acc ih =>
    rw [List.map_cons, List.find?_cons]
    by_cases h : a = x
    · subst h; simp [kTrue]
    · have : decide ((kTrue a).1 = (.inr x : Key)) = false := by simp [kTrue, h]
      rw [this]
      simp only [ih]
      simp [Ne.symm h]
theorem gIn_true {x : Str} {acc : List Str} {s : Sto} : gIn (.str x) (.dic (acc.map kTrue)) s = some (.bl (decide (x ∈ acc)), s) := by
  have hd : dicAt s (.dic (acc.map kTrue)) = some (acc.map kTrue) := by
    show some ((List.map (·.1) (acc.map kTrue)).zip (List.map (·.2) (acc.map kTrue))) = _
    rw [zip_maps]
  have e : gInB (.str x) (.dic (acc.map kTrue)) s = some (valW (acc.map kTrue) (.inr x)).isSome := by
    unfold gInB W.dic
    dsimp only
    rw [show dicAt s (.nd (.dic (List.map (·.1) (acc.map kTrue))) (List.map (·.2) (acc.map kTrue))) = some (acc.map kTrue) from hd]
    rfl
  unfold gIn
  rw [e, valW_true]
  rfl
theorem gIn_dic {x : Str} {n : Nat} {l : List (Key × W)} {s : Sto} (h : dicAt s (.ref n) = some l) : gIn (.str x) (.ref n) s = some (.bl (valW l (.inr x)).isSome, s) := by
  unfold gIn gInB
  simp only [h]
  rfl
/-! ### a dict that may be locked already -/
theorem dicAt_cases {s : Sto} {n : Nat} {l : List (Key × W)} (h : dicAt s (.ref n) = some l) : s[n]? = some (.dic l) ∨ s[n]? = some (.lck l) := by
  have h' : (match s[n]? with
    | some (.dic kvs) => some kvs
    | some (.lck kvs) => some kvs
    | _ => none) = some l := h
  split at h'
  · rename_i k e; cases h'; exact .inl e
  · rename_i k e; cases h'; exact .inr e
  · cases h'
theorem set_same {s : Sto} {n : Nat} {o : O} (h : s[n]? = some o) : s.set n o = s := by
  obtain ⟨hl, e⟩ := List.getElem?_eq_some_iff.mp h
  rw [← e, List.set_getElem_self]
theorem mlc_dk {mu : Bool} {m : ME} {t : Tgt} {c : MT} {e : ME} {vs : List Nat} {ws : Loc} {s s1 : Sto} {n : Nat} {l : List (Key × W)} (F : W → Option W) (hm : m ws s = .ok (.ref n) s1) (hd : dicAt s1 (.ref n) = some l) (hl : l.length ≤ 16777216)
    (h : ∀ x ∈ keysW' l, ∃ ws2, t.put x (wipeW ws vs) = some ws2 ∧ ((F x = none ∧ c ws2 (s1.set n (.lck l)) = .ok false (s1.set n (.lck l))) ∨ ∃ y, F x = some y ∧ c ws2 (s1.set n (.lck l)) = .ok true (s1.set n (.lck l)) ∧ e ws2 (s1.set n (.lck l)) = .ok y (s1.set n (.lck l)))) :
    mlc mu (miany m) t c e vs ws s = R.of (newL mu ((keysW' l).filterMap F) s1) := by
  have hl' : (keysW' l).length ≤ 16777216 := by unfold keysW'; rw [List.length_map]; exact hl
  rcases dicAt_cases hd with q | q
  · exact mlc_lk F (miany_d hm q) q hl' h
  · have hs := set_same q
    rw [hs] at h
    have e1 : miany m ws s = .ok ⟨keysW' l, [(n, .lck l)], none⟩ s1 := by
      unfold miany
      rw [hm, R.bind_ok, hd]
      unfold dcG
      simp only [q]
      rfl
    have r := loopC_pure (gd := [(n, .lck l)]) F (gdOk_one q) (keysW' l) [] (by rw [List.length_nil, Nat.zero_add]; exact hl') h
    unfold mlc mcomp
    rw [e1, R.bind_ok]
    show (((loopC [(n, .lck l)] t c e (wipeW ws vs) (keysW' l) [] s1).fin ⟨keysW' l, [(n, .lck l)], none⟩).bind fun ys s => R.of (newL mu ys s)) = _
    rw [r, R.fin_plain, R.bind_ok, List.nil_append]
end Va

/-! Vq7: comparisons of lists of texts. -/
namespace Va
open PySem PySem.Spec PyProof.Rows L2
theorem rdTs_strs {f : Nat → Option PyData} : ∀ l : List Str, rdTs f (l.map W.str) = some (l.map PyData.str)
  | [] => rfl
  | x :: l => by rw [List.map_cons, rdTs, rdTs_strs l]; rfl
theorem lay_strs : ∀ l : List Str, (∀ x ∈ l, PyData.strOk x = true) → PyData.canLayAll0 (l.map PyData.str) = true
  | [], _ => rfl
  | x :: l, h => by
    rw [List.map_cons, PyData.canLayAll0, lay_strs l fun y hy => h y (List.mem_cons_of_mem _ hy), PyData.canLay0, h x List.mem_cons_self]
    rfl
theorem depthAll_strs : ∀ l : List Str, PyData.depthAll (l.map PyData.str) = 0
  | [] => rfl
  | x :: l => by
    rw [List.map_cons, PyData.depthAll, depthAll_strs l, PyData.depth]
    rfl
theorem shaped_strs (l : List Str) (hs : ∀ x ∈ l, PyData.strOk x = true) : SeqAt.shaped (PyData.list (l.map PyData.str)) = true := by
  unfold SeqAt.shaped
  rw [PyData.canLay0, lay_strs l hs, PyData.depth, depthAll_strs]
  rfl
theorem rd_lst {s : Sto} {n : Nat} {l : List Str} (h : s[n]? = some (.lst (l.map .str))) : rd s (.ref n) = some (.list (l.map PyData.str)) := by
  show rdN s 24 n = _
  unfold rdN
  simp only [h]
  rw [rdTs_strs]; rfl
theorem rd_fst {s : Sto} {l : List Str} : rd s (.lst (l.map .str)) = some (.list (l.map PyData.str)) := by
  show (rdTs (rdN s 24) (l.map .str)).bind (pkD .lst) = _
  rw [rdTs_strs]; rfl
theorem gNe_nil {s : Sto} {n : Nat} {l : List Str} (hs : ∀ x ∈ l, PyData.strOk x = true) (h : s[n]? = some (.lst (l.map .str))) : gNe (.ref n) (.lst []) s = some (.bl (!l.isEmpty), s) := by
  have e : gEqB (.ref n) (.lst []) s = some l.isEmpty := by
    unfold gEqB gEqB0
    simp only [dicAt_lst h, rd_lst h, show rd s (.lst []) = some (.list (([] : List Str).map PyData.str)) from rd_fst (l := [])]
    rw [if_pos (by rw [shaped_strs l hs, shaped_strs [] (fun x h => (List.not_mem_nil h).elim)]; rfl)]
    cases l <;> rfl
  unfold gNe
  rw [e]; rfl
end Va

/-! Vq8: a list of new lists that is kept; loops over dicts that may be locked; reading under more objects. -/
namespace Va
open PySem PySem.Spec PyProof.Rows L2
/-! ### a list of new lists -/
theorem placeIn_at : ∀ {cs : List Nat} {i : Nat} {c : Nat}, cs.Nodup → cs[i]? = some c → placeIn cs c = some i
  | a :: r, 0, c, _, h => by
    simp at h; subst h; unfold placeIn; rw [if_pos rfl]
  | a :: r, i + 1, c, nd, h => by
    have hm : c ∈ r := List.mem_of_getElem? (by simpa using h)
    have hne : a ≠ c := fun z => (List.nodup_cons.mp nd).1 (z ▸ hm)
    unfold placeIn
    rw [if_neg hne, placeIn_at (List.nodup_cons.mp nd).2 (by simpa using h)]; rfl
theorem seqO_map {α β : Type} {f : α → Option β} {g : α → β} : ∀ {l : List α}, (∀ x ∈ l, f x = some (g x)) → seqO (l.map f) = some (l.map g)
  | [], _ => rfl
  | x :: l, h => by
    rw [List.map_cons, h x List.mem_cons_self, seqO, seqO_map fun y hy => h y (List.mem_cons_of_mem _ hy)]; rfl
theorem seqO_app {α : Type} : ∀ {a b : List (Option α)} {x y : List α}, seqO a = some x → seqO b = some y → seqO (a ++ b) = some (x ++ y)
  | [], b, x, y, h1, h2 => by cases h1; exact h2
  | some z :: a, b, x, y, h1, h2 => by
    rw [seqO] at h1
    obtain ⟨x', e, rfl⟩ := Option.map_eq_some_iff.mp h1
    rw [List.cons_append, seqO, seqO_app e h2]; rfl
  | none :: a, b, x, y, h1, h2 => by cases h1
theorem kpTs_refs {s' : Sto} {n : Nat} {f : Nat → List Nat} : ∀ {cs : List Nat}, (∀ c ∈ cs, n ≤ c ∧ f c = [c]) → kpTs s' n f (cs.map .ref) = cs
  | [], _ => rfl
  | c :: cs, h => by
    obtain ⟨h1, h2⟩ := h c List.mem_cons_self
    rw [List.map_cons, kpTs, kpT, if_neg (by omega), h2, kpTs_refs fun x hx => h x (List.mem_cons_of_mem _ hx)]; rfl
theorem fzTs_refs {n : Nat} {f : Nat → Option W} {g : Nat → W} : ∀ {cs : List Nat}, (∀ c ∈ cs, n ≤ c ∧ f c = some (g c)) → fzTs n f (cs.map .ref) = some (cs.map g)
  | [], _ => by rw [List.map_nil, fzTs]; rfl
  | c :: cs, h => by
    obtain ⟨h1, h2⟩ := h c List.mem_cons_self
    rw [List.map_cons, fzTs, fzT, if_neg (by omega), h2, fzTs_refs fun x hx => h x (List.mem_cons_of_mem _ hx)]; rfl
/-- k new lists stand one behind the other from b on, the list m holds them -/
theorem trim_keep2 {d : Nat} {s s1 t : Sto} {m b : Nat} {xss : List (List W)} (c : Chg s s1) (hm : s.length ≤ m) (hb : s.length ≤ b) (hmb : m < b ∨ b + xss.length ≤ m) (e : (s1 ++ t)[m]? = some (.lst ((List.range xss.length).map fun i => .ref (b + i))))
    (he : ∀ (i : Nat) (xs : List W), xss[i]? = some xs → (s1 ++ t)[b + i]? = some (.lst xs)) (hl : ∀ xs ∈ xss, W.lows s.length xs = true) :
    (R.ok (.ref m) (s1 ++ t)).trim (d + 2) s = .ok (.ref (s.length + xss.length)) (s1 ++ (xss.map O.lst ++ [.lst ((List.range xss.length).map fun i => .ref (s.length + i))])) := by
  have ecs : ((List.range xss.length).map fun i => W.ref (b + i)) = ((List.range xss.length).map fun i => b + i).map .ref := by rw [List.map_map]; rfl
  generalize hcs : ((List.range xss.length).map fun i => b + i) = cs at ecs
  have hlen : cs.length = xss.length := by rw [← hcs]; simp
  have hat : ∀ i, i < xss.length → cs[i]? = some (b + i) := fun i hi => by rw [← hcs]; simp [List.getElem?_range hi]
  have hmem : ∀ x ∈ cs, ∃ i, i < xss.length ∧ x = b + i := fun x hx => by
    rw [← hcs] at hx
    obtain ⟨i, hi, rfl⟩ := List.mem_map.mp hx
    exact ⟨i, by simpa using hi, rfl⟩
  have nd : cs.Nodup := by
    rw [← hcs]
    refine List.Pairwise.map _ (fun x y (h : x ≠ y) => ?_) List.nodup_range
    omega
  have hmn : m ∉ cs := fun h => by obtain ⟨i, hi, e⟩ := hmem m h; omega
  have ndk : (cs ++ [m]).Nodup := by
    rw [List.nodup_append]
    refine ⟨nd, by simp, fun x hx y hy => ?_⟩
    rw [List.mem_singleton.mp hy]
    exact fun z => hmn (z ▸ hx)
  have hls : ∀ x ∈ cs, ∃ xs, (s1 ++ t)[x]? = some (.lst xs) ∧ W.lows s.length xs = true := fun x hx => by
    obtain ⟨i, hi, rfl⟩ := hmem x hx
    exact ⟨xss[i], he i _ (List.getElem?_eq_getElem hi), hl _ (List.getElem_mem hi)⟩
  show okOf (trimL s (s1 ++ t) (kpT (s1 ++ t) s.length (kpN (s1 ++ t) s.length (d + 2)) (.ref m)) [.ref m]) = _
  have ek : kpT (s1 ++ t) s.length (kpN (s1 ++ t) s.length (d + 2)) (.ref m) = cs ++ [m] := by
    rw [kpT, if_neg (by omega)]
    unfold kpN
    simp only [e, ecs]
    rw [kpTs_refs fun x hx => ?_]
    obtain ⟨xs, h1, h2⟩ := hls x hx
    obtain ⟨i, hi, rfl⟩ := hmem x hx
    refine ⟨by omega, ?_⟩
    unfold kpN
    simp only [h1]
    rw [kpTs_low h2]; rfl
  rw [ek]
  have own : ∀ x ∈ cs ++ [m], s.length ≤ x ∧ ownAt (s1 ++ t) x = true := fun x hx => by
    rcases List.mem_append.mp hx with h | h
    · obtain ⟨xs, h1, h2⟩ := hls x h
      obtain ⟨i, hi, rfl⟩ := hmem x h
      exact ⟨by omega, by unfold ownAt; rw [h1]; rfl⟩
    · rw [List.mem_singleton.mp h]
      exact ⟨hm, by unfold ownAt; rw [e]; rfl⟩
  unfold trimL
  simp only []
  rw [if_pos ⟨ndk, own⟩, chg_seq c]
  have fz1 : ∀ i, i < xss.length → fzN (s1 ++ t) s.length (cs ++ [m]) 24 (b + i) = some (.ref (s.length + i)) := fun i hi => by
    unfold fzN
    rw [placeIn_at ndk (i := i) (by rw [List.getElem?_append_left (by omega)]; exact hat i hi)]
  have fz2 : fzN (s1 ++ t) s.length (cs ++ [m]) 24 m = some (.ref (s.length + xss.length)) := by
    unfold fzN
    rw [placeIn_at ndk (i := xss.length) (by rw [List.getElem?_append_right (by omega), hlen, Nat.sub_self]; rfl)]
  have q1 : fzTs s.length (fzN (s1 ++ t) s.length (cs ++ [m]) 24) [.ref m] = some [.ref (s.length + xss.length)] := by
    rw [fzTs, fzT, if_neg (by omega), fz2, fzTs]
  have q2 : seqO ((cs ++ [m]).map fun n => ((s1 ++ t)[n]?).bind (fzO s.length (fzN (s1 ++ t) s.length (cs ++ [m]) 24))) = some (xss.map O.lst ++ [.lst ((List.range xss.length).map fun i => .ref (s.length + i))]) := by
    rw [List.map_append]
    refine seqO_app ?_ ?_
    · have : xss.map O.lst = cs.map fun x => O.lst (xss.getD (x - b) []) := by
        rw [← hcs, List.map_map]
        refine List.ext_getElem? fun i => ?_
        rw [List.getElem?_map, List.getElem?_map]
        by_cases hi : i < xss.length
        · rw [List.getElem?_range hi, List.getElem?_eq_getElem hi]
          simp [List.getElem?_eq_getElem hi]
        · rw [List.getElem?_eq_none (by omega), List.getElem?_eq_none (by simpa using hi)]; rfl
      rw [this]
      refine seqO_map fun x hx => ?_
      obtain ⟨i, hi, rfl⟩ := hmem x hx
      rw [he i _ (List.getElem?_eq_getElem hi)]
      show fzO _ _ (.lst xss[i]) = _
      rw [show fzO s.length (fzN (s1 ++ t) s.length (cs ++ [m]) 24) (.lst xss[i]) = some (.lst xss[i]) from fzO_low (hl _ (List.getElem_mem hi))]
      simp [List.getElem?_eq_getElem hi]
    · rw [List.map_cons, List.map_nil, e]
      show seqO [(fzTs s.length _ _).map O.lst] = _
      rw [ecs, fzTs_refs (g := fun x => .ref (s.length + (x - b))) fun x hx => ?_]
      · rw [← hcs, List.map_map]
        have em : (List.map ((fun x => W.ref (s.length + (x - b))) ∘ fun i => b + i) (List.range xss.length)) = List.map (fun i => W.ref (s.length + i)) (List.range xss.length) :=
          List.map_congr_left fun i _ => congrArg (fun j => W.ref (s.length + j)) (Nat.add_sub_cancel_left (n := b) (m := i))
        rw [em]; rfl
      · obtain ⟨i, hi, rfl⟩ := hmem x hx
        exact ⟨by omega, by rw [fz1 i hi, Nat.add_sub_cancel_left]⟩
  rw [q1, q2]
  rfl
/-! ### loops over a dict, locked or not -/
theorem dk_cases {m : ME} {f : List (Key × W) → List W} {ws : Loc} {s s1 : Sto} {n : Nat} {l : List (Key × W)} (hm : m ws s = .ok (.ref n) s1) (hd : dicAt s1 (.ref n) = some l) :
    (s1[n]? = some (.dic l) ∧ midic f m ws s = .ok ⟨f l, [(n, .lck l)], some (n, l)⟩ s1) ∨ (s1[n]? = some (.lck l) ∧ midic f m ws s = .ok ⟨f l, [(n, .lck l)], none⟩ s1) := by
  rcases dicAt_cases hd with q | q
  · refine .inl ⟨q, ?_⟩
    unfold midic
    rw [hm, R.bind_ok]
    unfold dcG
    simp only [q]
    rfl
  · refine .inr ⟨q, ?_⟩
    unfold midic
    rw [hm, R.bind_ok]
    unfold dcG
    simp only [q]
    rfl
theorem any_dic {m : ME} {ws : Loc} {s s1 : Sto} {n : Nat} {l : List (Key × W)} (hm : m ws s = .ok (.ref n) s1) (hd : dicAt s1 (.ref n) = some l) : miany m ws s = midic keysW' m ws s := by
  unfold miany midic
  rw [hm, R.bind_ok, R.bind_ok, hd]
/-- a loop over a dict whose turns go on: behind it the dict is let go as it was -/
theorem sfor_dk {mi : MI} {f : List (Key × W) → List W} {m : ME} {g : MG} {b : MS} {ws : Loc} {s s1 : Sto} {n : Nat} {l : List (Key × W)} {o0 : O} (hmi : mi ws s = midic f m ws s) (hm : m ws s = .ok (.ref n) s1) (hd : dicAt s1 (.ref n) = some l) (ho : s1[n]? = some o0)
    (Inv : List W → Loc → Sto → Prop) (h0 : Inv (f l) ws (s1.set n (.lck l))) (lk : ∀ xs ws u, Inv xs ws u → u[n]? = some (.lck l))
    (step : ∀ x xs ws u, Inv (x :: xs) ws u → ∃ ws2 u2, g x ws u = .ok ws2 u2 ∧ ∃ ws3 u3, (b ws2 u2 = .nx ws3 u3 ∨ b ws2 u2 = .ct ws3 u3) ∧ Inv xs ws3 u3) :
    ∃ ws' u', sfor mi g b ws s = .nx ws' (u'.set n o0) ∧ Inv [] ws' u' := by
  have core : ∃ ws' u', forL [(n, .lck l)] g b (f l) ws (s1.set n (.lck l)) = .nx ws' u' ∧ Inv [] ws' u' := by
    refine forL_inv (gd := [(n, .lck l)]) Inv (fun r => ∃ ws' u', r = .nx ws' u' ∧ Inv [] ws' u') (fun x xs ws u h => ?_) (fun ws u h => ?_) (f l) ws _ h0
    · obtain ⟨ws2, u2, e1, ws3, u3, e2, i⟩ := step x xs ws u h
      exact ⟨gdOk_one (lk _ _ _ h), ws2, u2, e1, .inl ⟨ws3, u3, e2, i⟩⟩
    · exact ⟨gdOk_one (lk _ _ _ h), ws, u, rfl, h⟩
  obtain ⟨ws', u', e, i⟩ := core
  refine ⟨ws', u', ?_, i⟩
  unfold sfor
  rw [hmi]
  rcases dk_cases (f := f) hm hd with ⟨q, e0⟩ | ⟨q, e0⟩
  · rw [e0]
    show (forL [(n, .lck l)] g b (f l) ws (s1.set n (.lck l))).fin ⟨f l, [(n, .lck l)], some (n, l)⟩ = _
    rw [e]
    have : unlk n l u' = some (u'.set n (.dic l)) := by
      unfold unlk
      rw [if_pos (lk _ _ _ i)]
    rw [q] at ho; cases ho
    show (match unlk n l u' with
      | some s' => RS.nx ws' s'
      | none => .no) = _
    rw [this]
  · rw [e0]
    rw [q] at ho; cases ho
    show (forL [(n, .lck l)] g b (f l) ws s1).fin ⟨f l, [(n, .lck l)], none⟩ = _
    rw [set_same q] at e
    rw [e, RS.fin_plain, set_same (lk _ _ _ i)]
/-! ### reading under more objects -/
mutual
theorem rdT_up {f g : Nat → Option PyData} (h : ∀ n d, f n = some d → g n = some d) : ∀ {w : W} {d : PyData}, rdT f w = some d → rdT g w = some d
  | .non, d, e => by simpa [rdT] using e
  | .bl _, d, e => by simpa [rdT] using e
  | .int _, d, e => by simpa [rdT] using e
  | .str _, d, e => by simpa [rdT] using e
  | .gl _, d, e => by simp [rdT] at e
  | .ty _, d, e => by simp [rdT] at e
  | .ref n, d, e => by rw [rdT] at e ⊢; exact h n d e
  | .nd t xs, d, e => by
    rw [rdT] at e ⊢
    obtain ⟨ds, e1, e2⟩ := Option.bind_eq_some_iff.mp e
    rw [rdTs_up h e1]; exact e2
theorem rdTs_up {f g : Nat → Option PyData} (h : ∀ n d, f n = some d → g n = some d) : ∀ {ws : List W} {ds : List PyData}, rdTs f ws = some ds → rdTs g ws = some ds
  | [], ds, e => by rw [rdTs] at e ⊢; exact e
  | w :: ws, ds, e => by
    rw [rdTs] at e ⊢
    split at e
    · rename_i d ds' e1 e2
      rw [rdT_up h e1, rdTs_up h e2]; exact e
    · cases e
end
theorem rdN_up {s t : Sto} : ∀ (k n : Nat) (d : PyData), rdN s k n = some d → rdN (s ++ t) k n = some d
  | 0, n, d, e => by cases e
  | k + 1, n, d, e => by
    unfold rdN at e ⊢
    cases hn : s[n]? with
    | none => rw [hn] at e; cases e
    | some o =>
      rw [hn] at e
      rw [at_app hn]
      cases o with
      | lst xs =>
        obtain ⟨ds, e1, e2⟩ := Option.map_eq_some_iff.mp e
        show (rdTs (rdN (s ++ t) k) xs).map PyData.list = _
        rw [rdTs_up (rdN_up k) e1, ← e2]; rfl
      | dic kvs =>
        obtain ⟨ds, e1, e2⟩ := Option.bind_eq_some_iff.mp e
        show (rdTs (rdN (s ++ t) k) (kvs.map (·.2))).bind _ = _
        rw [rdTs_up (rdN_up k) e1]; exact e2
      | _ => cases e
theorem rd_app {s t : Sto} {w : W} {d : PyData} (h : rd s w = some d) : rd (s ++ t) w = some d := rdT_up (rdN_up 24) h
theorem rdTs_app {s t : Sto} {ws : List W} {ds : List PyData} (h : rdTs (rdN s 24) ws = some ds) : rdTs (rdN (s ++ t) 24) ws = some ds := rdTs_up (rdN_up 24) h
end Va

/-! Vq9: what repr and == ask of data; rows. -/
namespace Va
open PySem PySem.Spec PyProof.Rows L2
/-- what repr asks: short numbers, weight at most w, depth at most k -/
structure Fit (d : PyData) (w k : Nat) : Prop where
  sh : d.showable = true
  ls : d.leavesShort 100 = true
  wt : d.weight ≤ w
  dp : d.depth ≤ k
theorem Fit.le {d : PyData} {w k w' k' : Nat} (h : Fit d w k) (hw : w ≤ w') (hk : k ≤ k') : Fit d w' k' := ⟨h.sh, h.ls, Nat.le_trans h.wt hw, Nat.le_trans h.dp hk⟩
theorem gRepr_ok {s : Sto} {w : W} {d : PyData} (e : rd s w = some d) (h : Fit d 160000 60) : gRepr [w] s = some (.str d.shown, s) := by
  have h1 := PyData.shown_le 100 (by decide) d h.ls
  have h2 := h.wt
  have h3 : (100 + 2) * d.weight ≤ (100 + 2) * 160000 := Nat.mul_le_mul_left _ h2
  have h4 := h.dp
  unfold gRepr
  simp only [e]
  rw [if_pos (by rw [h.sh, decide_eq_true (show d.shown.length ≤ 16777216 by omega), decide_eq_true (show d.depth ≤ 64 by omega)]; rfl)]
  rfl
theorem fit_non {w k : Nat} : Fit .none w k := ⟨rfl, rfl, by simp [PyData.weight], by simp [PyData.depth]⟩
theorem fit_bool {b : Bool} {w k : Nat} : Fit (.bool b) w k := ⟨rfl, rfl, by simp [PyData.weight], by simp [PyData.depth]⟩
theorem fit_str {x : Str} {k : Nat} (h : ∀ c ∈ x.cps.toList, c < 16 ^ 8) : Fit (.str x) x.length k := by
  refine ⟨rfl, ?_, Nat.le_refl _, by simp [PyData.depth]⟩
  show (x.cps.toList.all fun c => decide (c < 16 ^ 8)) = true
  exact List.all_eq_true.mpr fun c hc => decide_eq_true (h c hc)
theorem fit_nat {n k : Nat} (h : n < 1000000) : Fit (.int n) 100 k := by
  have hl : (n : Int).natAbs.log2 < 100 := by
    by_cases h0 : n = 0
    · subst h0; decide
    · exact (Nat.log2_lt h0).mpr (Nat.lt_of_lt_of_le h (by decide))
  refine ⟨decide_eq_true (by omega), ?_, ?_, by simp [PyData.depth]⟩
  · have e := PyData.shown_int_le2 (i := (n : Int)) (by omega) (by omega)
    exact decide_eq_true (by omega)
  · unfold PyData.weight
    split <;> omega
theorem weightAll_le {w : Nat} : ∀ {ds : List PyData}, (∀ d ∈ ds, d.weight ≤ w) → PyData.weightAll ds ≤ ds.length * (w + 1)
  | [], _ => by simp [PyData.weightAll]
  | d :: ds, h => by
    have h1 := h d List.mem_cons_self
    have h2 := weightAll_le fun x hx => h x (List.mem_cons_of_mem d hx)
    simp only [PyData.weightAll, List.length_cons]
    have : (ds.length + 1) * (w + 1) = ds.length * (w + 1) + (w + 1) := Nat.succ_mul _ _
    omega
theorem fit_list {w k : Nat} {ds : List PyData} (h : ∀ d ∈ ds, Fit d w k) : Fit (.list ds) (ds.length * (w + 1)) (k + 1) := by
  refine ⟨?_, ?_, weightAll_le fun d hd => (h d hd).wt, ?_⟩
  · show PyData.showableAll ds = true
    induction ds with
    | nil => rfl
    | cons d ds ih =>
      rw [PyData.showableAll, (h d List.mem_cons_self).sh, ih fun x hx => h x (List.mem_cons_of_mem d hx)]; rfl
  · show PyData.leavesShortAll 100 ds = true
    induction ds with
    | nil => rfl
    | cons d ds ih =>
      rw [PyData.leavesShortAll, (h d List.mem_cons_self).ls, ih fun x hx => h x (List.mem_cons_of_mem d hx)]; rfl
  · show PyData.depthAll ds + 1 ≤ k + 1
    induction ds with
    | nil => simp [PyData.depthAll]
    | cons d ds ih =>
      have h1 := (h d List.mem_cons_self).dp
      have h2 := ih fun x hx => h x (List.mem_cons_of_mem d hx)
      simp only [PyData.depthAll]
      omega
theorem ltr_small {x : Str} (h : IsWord x) : ∀ c ∈ x.cps.toList, c < 16 ^ 8 := fun c hc => by
  have := (h.ls c hc).2
  have e : (16 : Nat) ^ 8 = 4294967296 := by decide
  omega
/-- a list of names as data -/
def dN (l : List Str) : PyData := .list (l.map .str)
theorem fit_names {l : List Str} (h : ∀ x ∈ l, IsWord x) (hl : l.length ≤ 40) : Fit (dN l) 360 1 := by
  have := fit_list (w := 8) (k := 0) (ds := l.map PyData.str) (fun d hd => by
    obtain ⟨x, hx, rfl⟩ := List.mem_map.mp hd
    exact (fit_str (ltr_small (h x hx))).le (h x hx).hi (Nat.le_refl _))
  refine this.le ?_ (Nat.le_refl _)
  rw [List.length_map]; omega
theorem fit_rows {ls : List (List Str)} (h : ∀ l ∈ ls, ∀ x ∈ l, IsWord x) (hl : ∀ l ∈ ls, l.length ≤ 40) (hn : ls.length ≤ 40) : Fit (.list (ls.map dN)) 14440 2 := by
  have := fit_list (w := 360) (k := 1) (ds := ls.map dN) (fun d hd => by
    obtain ⟨l, hl', rfl⟩ := List.mem_map.mp hd
    exact fit_names (h l hl') (hl l hl'))
  refine this.le ?_ (Nat.le_refl _)
  rw [List.length_map]; omega
/-! ### reading rows -/
theorem rdTs_of {f : Nat → Option PyData} : ∀ {ws : List W} {ds : List PyData}, ws.length = ds.length → (∀ (i : Nat) (w : W) (d : PyData), ws[i]? = some w → ds[i]? = some d → rdT f w = some d) → rdTs f ws = some ds
  | [], [], _, _ => by rw [rdTs]
  | w :: ws, d :: ds, hl, h => by
    rw [rdTs, h 0 w d rfl rfl, rdTs_of (ws := ws) (ds := ds) (by simpa using hl) fun i w' d' h1 h2 => h (i + 1) w' d' (by simpa using h1) (by simpa using h2)]
  | [], d :: ds, hl, _ => by simp at hl
  | w :: ws, [], hl, _ => by simp at hl
theorem rdN_strs {s : Sto} {c k : Nat} {l : List Str} (h : s[c]? = some (.lst (l.map .str))) : rdN s (k + 1) c = some (dN l) := by
  unfold rdN
  simp only [h]
  rw [rdTs_strs]; rfl
def refsF (b k : Nat) : List W := (List.range k).map fun i => .ref (b + i)
theorem refsF_len (b k : Nat) : (refsF b k).length = k := by unfold refsF; simp
theorem refsF_at {b k i : Nat} {w : W} (h : (refsF b k)[i]? = some w) : i < k ∧ w = .ref (b + i) := by
  unfold refsF at h
  rw [List.getElem?_map] at h
  obtain ⟨j, e, rfl⟩ := Option.map_eq_some_iff.mp h
  obtain ⟨hl, e2⟩ := List.getElem?_eq_some_iff.mp e
  simp at hl e2
  subst e2
  exact ⟨hl, rfl⟩
theorem refsF_cons (b k : Nat) : refsF b (k + 1) = .ref b :: refsF (b + 1) k := by
  unfold refsF
  rw [List.range_succ_eq_map, List.map_cons, List.map_map]
  have e : List.map ((fun i => W.ref (b + i)) ∘ Nat.succ) (List.range k) = List.map (fun i => W.ref (b + 1 + i)) (List.range k) := List.map_congr_left fun i _ => by
    show W.ref (b + (i + 1)) = W.ref (b + 1 + i)
    rw [show b + (i + 1) = b + 1 + i from by omega]
  rw [e]; rfl
theorem rdN_refs {s : Sto} {q b k : Nat} {ls : List (List Str)} (h : s[q]? = some (.lst (refsF b ls.length))) (hi : ∀ (i : Nat) (l : List Str), ls[i]? = some l → s[b + i]? = some (.lst (l.map .str))) : rdN s (k + 2) q = some (.list (ls.map dN)) := by
  unfold rdN
  simp only [h]
  rw [rdTs_of (ds := ls.map dN) (by rw [refsF_len, List.length_map]) (fun i w d h1 h2 => ?_)]
  · rfl
  · obtain ⟨_, rfl⟩ := refsF_at h1
    rw [List.getElem?_map] at h2
    obtain ⟨l, e, rfl⟩ := Option.map_eq_some_iff.mp h2
    rw [rdT]
    exact rdN_strs (hi i l e)
theorem rd_names (s : Sto) (l : List Str) : rd s (.lst (l.map .str)) = some (dN l) := rd_fst
theorem rdTs_rows (f : Nat → Option PyData) (ls : List (List Str)) : rdTs f (ls.map fun g => .lst (g.map .str)) = some (ls.map dN) := by
  refine rdTs_of (by simp) fun i w d h1 h2 => ?_
  rw [List.getElem?_map] at h1 h2
  obtain ⟨l, e, rfl⟩ := Option.map_eq_some_iff.mp h1
  obtain ⟨l', e', rfl⟩ := Option.map_eq_some_iff.mp h2
  rw [e] at e'
  cases e'
  show (rdTs f (l.map .str)).bind (pkD .lst) = _
  rw [rdTs_strs]; rfl
theorem rd_rows (s : Sto) (ls : List (List Str)) : rd s (.lst (ls.map fun g => .lst (g.map .str))) = some (.list (ls.map dN)) := by
  show (rdTs _ _).bind (pkD .lst) = _
  rw [rdTs_rows]; rfl
theorem rd_lst2 {s : Sto} {a b : W} {d e : PyData} (h1 : rd s a = some d) (h2 : rd s b = some e) : rd s (.lst [a, b]) = some (.list [d, e]) := by
  show (rdTs _ _).bind (pkD .lst) = _
  rw [rdTs, rdTs, rdTs]
  simp only [show rdT (rdN s 24) a = some d from h1, show rdT (rdN s 24) b = some e from h2]
  rfl
theorem rd_lst4 {s : Sto} {a b a' b' : W} {d e d' e' : PyData} (h1 : rd s a = some d) (h2 : rd s b = some e) (h3 : rd s a' = some d') (h4 : rd s b' = some e') : rd s (.lst [a, b, a', b']) = some (.list [d, e, d', e']) := by
  show (rdTs _ _).bind (pkD .lst) = _
  rw [rdTs, rdTs, rdTs, rdTs, rdTs]
  simp only [show rdT (rdN s 24) a = some d from h1, show rdT (rdN s 24) b = some e from h2, show rdT (rdN s 24) a' = some d' from h3, show rdT (rdN s 24) b' = some e' from h4]
  rfl
theorem rd_ref {s : Sto} {q : Nat} {d : PyData} (h : rdN s 24 q = some d) : rd s (.ref q) = some d := h
/-! ### a new row for each name -/
theorem loopC_rows {e : ME} {i : Nat} {ws : Loc} {s : Sto} {RR : Str → List Str} : ∀ (names : List Str) (acc : List W) (t : Sto), acc.length + names.length ≤ 1000 → (∀ x ∈ names, ∀ t : Sto, e (ws.set i (some (.str x))) (s ++ t) = .ok (.ref (s ++ t).length) (s ++ t ++ [.lst ((RR x).map .str)])) →
    loopC [] (.nm i) myes e ws (names.map .str) acc (s ++ t) = .ok (acc ++ refsF (s ++ t).length names.length) (s ++ (t ++ names.map fun x => O.lst ((RR x).map .str)))
  | [], acc, t, _, _ => by
    rw [List.map_nil, List.map_nil]
    unfold loopC
    rw [if_pos (gdOk_nil _)]
    simp [refsF]
  | x :: names, acc, t, hl, h => by
    have h1 := h x List.mem_cons_self t
    rw [List.map_cons]
    unfold loopC
    rw [if_pos (gdOk_nil _)]
    have e1 : (Tgt.nm i).put (.str x) ws = some (ws.set i (some (.str x))) := rfl
    have e3 : myes (ws.set i (some (.str x))) (s ++ t) = .ok true (s ++ t) := rfl
    simp only [e1]
    rw [e3, R.cl_ok, R.bind_ok, if_pos rfl, h1, R.cl_ok, R.bind_ok]
    rw [List.length_cons] at hl
    rw [if_pos (by omega), List.append_assoc s t, loopC_rows names _ _ (by rw [List.length_append, List.length_singleton]; omega) fun y hy => h y (List.mem_cons_of_mem x hy)]
    rw [List.length_cons, refsF_cons, List.append_assoc acc, List.map_cons, List.append_assoc t]
    simp only [List.length_append, List.length_singleton, List.singleton_append, Nat.add_assoc]
/-- a place's list -/
def Rowp (b : Nat) (u : Sto) (k : Nat) (w : W) : Prop := ∃ q xs, w = .ref q ∧ b ≤ q ∧ u[q]? = some (.lst xs) ∧ xs.length ≤ k
theorem Rowp.app {b : Nat} {u t : Sto} {k : Nat} {w : W} (h : Rowp b u k w) : Rowp b (u ++ t) k w := by
  obtain ⟨q, xs, e, hb, hq, hl⟩ := h
  exact ⟨q, xs, e, hb, at_app hq, hl⟩
theorem rows_ok {m e : ME} {i : Nat} {ws : Loc} {s t : Sto} {names : List Str} {RR : Str → List Str} (hm : m ws (s ++ t) = .ok (.lst (names.map .str)) (s ++ t)) (hn : names.length ≤ 40) (he : ∀ x ∈ names, ∀ t : Sto, e ((wipeW ws [i]).set i (some (.str x))) (s ++ t) = .ok (.ref (s ++ t).length) (s ++ t ++ [.lst ((RR x).map .str)])) :
    ∃ t' q, mlc true (miany m) (.nm i) myes e [i] ws (s ++ t) = .ok (.ref q) (s ++ t ++ t') ∧ s.length ≤ q ∧ (s ++ t ++ t')[q]? = some (.lst (refsF (s ++ t).length names.length)) ∧ (∀ (j : Nat) (x : Str), names[j]? = some x → (s ++ t ++ t')[(s ++ t).length + j]? = some (.lst ((RR x).map .str))) ∧ rd (s ++ t ++ t') (.ref q) = some (.list ((names.map RR).map dN)) := by
  have hl := loopC_rows (e := e) (i := i) (ws := wipeW ws [i]) (s := s) (RR := RR) names [] t (by simp; omega) he
  rw [List.nil_append] at hl
  have h := mlc_of (mu := true) (vs := [i]) (ws := ws) (miany_f hm) hl (newL_t _ _)
  have hrow : ∀ (j : Nat) (x : Str), names[j]? = some x → (s ++ t ++ ((names.map fun x => O.lst ((RR x).map .str)) ++ [.lst (refsF (s ++ t).length names.length)]))[(s ++ t).length + j]? = some (.lst ((RR x).map .str)) := fun j x hj => by
    rw [List.getElem?_append_right (by omega), Nat.add_sub_cancel_left, List.getElem?_append_left (by rw [List.length_map]; exact (List.getElem?_eq_some_iff.mp hj).1), List.getElem?_map, hj]; rfl
  have hq : (s ++ t ++ ((names.map fun x => O.lst ((RR x).map .str)) ++ [.lst (refsF (s ++ t).length names.length)]))[(s ++ t).length + names.length]? = some (.lst (refsF (s ++ t).length names.length)) := by
    rw [List.getElem?_append_right (by omega), Nat.add_sub_cancel_left, List.getElem?_append_right (by simp)]
    simp
  refine ⟨(names.map fun x => O.lst ((RR x).map .str)) ++ [.lst (refsF (s ++ t).length names.length)], (s ++ t).length + names.length, ?_, by rw [List.length_append]; omega, hq, hrow, ?_⟩
  · rw [h]
    simp [List.append_assoc]
    omega
  · refine rd_ref (rdN_refs (ls := names.map RR) (b := (s ++ t).length) (by rw [List.length_map]; exact hq) (fun j l hj => ?_))
    rw [List.getElem?_map] at hj
    obtain ⟨x, e, rfl⟩ := Option.map_eq_some_iff.mp hj
    exact hrow j x e
/-! ### == of lists of truth values -/
theorem rdTs_bls (f : Nat → Option PyData) : ∀ bs : List Bool, rdTs f (bs.map .bl) = some (bs.map PyData.bool)
  | [] => by rw [List.map_nil, rdTs]; rfl
  | b :: bs => by rw [List.map_cons, rdTs, rdTs_bls f bs]; rfl
theorem lay_bls : ∀ bs : List Bool, PyData.canLayAll0 (bs.map PyData.bool) = true
  | [] => rfl
  | b :: bs => by rw [List.map_cons, PyData.canLayAll0, lay_bls bs]; rfl
theorem depth_bls : ∀ bs : List Bool, PyData.depthAll (bs.map PyData.bool) = 0
  | [] => rfl
  | b :: bs => by rw [List.map_cons, PyData.depthAll, depth_bls bs, PyData.depth]; rfl
theorem eqv_bls : ∀ bs : List Bool, PyData.eqvAll (bs.map PyData.bool) (bs.map PyData.bool) = true
  | [] => rfl
  | b :: bs => by rw [List.map_cons, PyData.eqvAll, eqv_bls bs, PyData.eqv]; simp
theorem gNe_bls (bs : List Bool) (s : Sto) : gNe (.lst (bs.map .bl)) (.lst (bs.map .bl)) s = some (.bl false, s) := by
  have hr : rd s (.lst (bs.map .bl)) = some (.list (bs.map PyData.bool)) := by
    show (rdTs _ _).bind (pkD .lst) = _
    rw [rdTs_bls]; rfl
  have hs : SeqAt.shaped (PyData.list (bs.map PyData.bool)) = true := by
    unfold SeqAt.shaped
    rw [PyData.canLay0, lay_bls bs, PyData.depth, depth_bls]; rfl
  have e : gEqB (.lst (bs.map .bl)) (.lst (bs.map .bl)) s = some true := by
    show gEqB0 (.lst (bs.map .bl)) (.lst (bs.map .bl)) s = some true
    unfold gEqB0
    simp only [hr, hs]
    show some (PyData.eqvAll _ _) = _
    rw [eqv_bls]
  unfold gNe
  rw [e]; rfl
end Va

namespace K21
open PySem PySem.Spec PyProof.Rows L2 Va
noncomputable section
def top (i : Nat) : Stmt := PySem.Challenge.pw_anyoutcome_k21_whole_closures_and_groups.main.body.getD i (.Pass ⟨0, 0, 0, 0⟩)
def tbl : List (Ty × Ty × Bool) := [(.b "NoneType", .b "str", false), (.b "bool", .b "str", false), (.b "int", .b "str", false), (.b "str", .b "str", true), (.b "list", .b "str", false), (.b "tuple", .b "str", false), (.b "dict", .b "str", false)]
def cs : List Str := []
def cl_Graph : ClsT := ⟨"Graph", [("in_order" : Str), ("has" : Str), ("reached" : Str), ("require_tasks" : Str), ("dependents" : Str), ("closure" : Str), ("group" : Str), ("groups" : Str), ("tasks" : Str), ("direct" : Str), ("depends" : Str), ("__len__" : Str), ("add_task" : Str), ("depend" : Str)]⟩
def cl : List ClsT := [cl_Graph]
def fld_links : List Str := [("Graph" : Str)]
def con_MAX_TASKS : List (Str × W) := [("Graph", (.int 40))]
def g : Gam0 := ⟨[(("LETTERS" : Str), (.str "abcdefghijklmnopqrstuvwxyz")), (("MOST_LETTERS" : Str), (.int 8))], [("abs" : Str), ("all" : Str), ("any" : Str), ("divmod" : Str), ("isinstance" : Str), ("len" : Str), ("list" : Str), ("max" : Str), ("min" : Str), ("range" : Str), ("repr" : Str), ("str" : Str), ("zip" : Str)], tbl, cs, [], [], [("links", fld_links)], [("MAX_TASKS", con_MAX_TASKS)], [(⟨162, 27, 162, 29⟩, 1), (⟨187, 17, 187, 19⟩, 1), (⟨73, 15, 73, 62⟩, 1), (⟨105, 16, 105, 48⟩, 1), (⟨104, 18, 104, 30⟩, 1), (⟨119, 23, 119, 25⟩, 1), (⟨127, 15, 127, 72⟩, 1), (⟨130, 27, 130, 29⟩, 1), (⟨130, 23, 130, 25⟩, 1), (⟨93, 15, 93, 31⟩, 1), (⟨97, 15, 97, 37⟩, 1), (⟨226, 42, 226, 100⟩, 1), (⟨211, 114, 211, 171⟩, 1), (⟨211, 37, 211, 95⟩, 1), (⟨82, 27, 82, 48⟩, 1), (⟨87, 27, 87, 48⟩, 1), (⟨45, 21, 45, 23⟩, 1), (⟨155, 62, 155, 64⟩, 1), (⟨241, 112, 241, 114⟩, 1), (⟨142, 11, 142, 110⟩, 1)]⟩
def m_law_digit : MS := (sseq (sif (mtb (mbin gGt (mbin gIx (mvar 0) (mc (.int 0))) (mc (.int 0))))
    (sseq (sasg (mfn gDivmod (mcons (mbin gIx (mvar 0) (mc (.int 0))) (mcons (mvar 1) mnil))) (gtup 2 (gcons (gsub (mvar 0) (mc (.int 0)) gSetI) (gcons (gname 2) gnil))))
    (sseq (sret (mvar 2))
    snil))
    snil)
    (sseq (sasg (mbin gMod (mbin (gAdd false) (mbin (gMul false) (mbin gIx (mvar 0) (mc (.int 1))) (mc (.int 39373))) (mc (.int 12227))) (mc (.int 2147483629))) (gsub (mvar 0) (mc (.int 1)) gSetI))
    (sseq (sret (mbin gMod (mbin gFdiv (mbin gMod (mbin (gMul false) (mbin gIx (mvar 0) (mc (.int 1))) (mbin gIx (mvar 0) (mc (.int 1)))) (mc (.int 2147483563))) (mc (.int 13))) (mvar 1)))
    snil)))
def r_law_digit : MF := posA 2 (runT 0 3 m_law_digit)
def e_law_digit : Env1 := ⟨[], [], []⟩
def N_law_digit : List Str := [("_law_pot_here" : Str), ("_law_many" : Str), ("_law_digit_here" : Str)]
def s_law_digit : Stmt := (top 17)
theorem sem_law_digit : semB (gam g e_law_digit 0 N_law_digit (defScope s_law_digit)) (defBody s_law_digit) = m_law_digit := by kernel_rfl
theorem sc_law_digit : FnScope N_law_digit [("_law_pot_here" : Str), ("_law_many" : Str)] (defScope s_law_digit) := ⟨rfl, rfl, rfl, by decide +kernel, rfl, by decide +kernel, by decide +kernel⟩
def d_law_digit : He.DefD := ⟨("_law_digit", none), "_law_digit", "_law_digit", defArgs s_law_digit, defBody s_law_digit, defScope s_law_digit, [], []⟩
def m_law_closure : MS := (sseq (sasg (mtup (mcons (mlst true mnil) (mcons (mc (.int 0)) mnil))) (gtup 2 (gcons (gname 2) (gcons (gname 3) gnil))))
    (sseq (sset 4 (mfn (gListA false) (mcons (mvar 1) mnil)))
    (sseq (swhile (mtb (mbin gLt (mvar 3) (mfn gLen (mcons (mvar 4) mnil))))
    (sseq (sif (mtb (mbin gNotIn (mbin gIx (mvar 4) (mvar 3)) (mvar 2)))
    (sseq (sexpr (mbm "list" gAppend (mvar 2) (mcons (mbin gIx (mvar 4) (mvar 3)) mnil)))
    (sseq (sset 4 (mbin (gAdd false) (mvar 4) (mbin gIx (mvar 0) (mbin gIx (mvar 4) (mvar 3)))))
    snil))
    snil)
    (sseq (sset 3 (mbin (gAdd false) (mvar 3) (mc (.int 1))))
    snil)))
    (sseq (sret (mlc false (miany (mvar 0)) (.nm 5) (mtb (mbin gIn (mvar 5) (mvar 2))) (mvar 5) [5]))
    snil))))
def r_law_closure : MF := posA 2 (runT 0 6 m_law_closure)
def e_law_closure : Env1 := ⟨[], [], []⟩
def N_law_closure : List Str := [("_law_needs" : Str), ("_law_tasks" : Str), ("_law_found" : Str), ("_law_at" : Str), ("_law_waiting" : Str), ("_law_task" : Str)]
def s_law_closure : Stmt := (top 21)
theorem sem_law_closure : semB (gam g e_law_closure 0 N_law_closure (defScope s_law_closure)) (defBody s_law_closure) = m_law_closure := by kernel_rfl
theorem sc_law_closure : FnScope N_law_closure [("_law_needs" : Str), ("_law_tasks" : Str)] (defScope s_law_closure) := ⟨rfl, rfl, rfl, by decide +kernel, rfl, by decide +kernel, by decide +kernel⟩
def d_law_closure : He.DefD := ⟨("_law_closure", none), "_law_closure", "_law_closure", defArgs s_law_closure, defBody s_law_closure, defScope s_law_closure, [], []⟩
def m_law_group : MS := (sseq (sret (mlc false (miany (mcall r_law_closure (mcons (mvar 0) (mcons (mlst false (mcons (mvar 1) mnil)) mnil)))) (.nm 2) (mtb (mbin gIn (mvar 1) (mcall r_law_closure (mcons (mvar 0) (mcons (mlst false (mcons (mvar 2) mnil)) mnil))))) (mvar 2) [2]))
    snil)
def r_law_group : MF := posA 2 (runT 0 3 m_law_group)
def e_law_group : Env1 := ⟨[("_law_closure", r_law_closure)], [], []⟩
def N_law_group : List Str := [("_law_needs" : Str), ("_law_task" : Str), ("_law_other" : Str)]
def s_law_group : Stmt := (top 25)
theorem sem_law_group : semB (gam g e_law_group 1 N_law_group (defScope s_law_group)) (defBody s_law_group) = m_law_group := by kernel_rfl
theorem sc_law_group : FnScope N_law_group [("_law_needs" : Str), ("_law_task" : Str)] (defScope s_law_group) := ⟨rfl, rfl, rfl, by decide +kernel, rfl, by decide +kernel, by decide +kernel⟩
def d_law_group : He.DefD := ⟨("_law_group", none), "_law_group", "_law_group", defArgs s_law_group, defBody s_law_group, defScope s_law_group, [], []⟩
def m_law_groups : MS := (sseq (sset 1 (mlst true mnil))
    (sseq (sfor (miany (mvar 0)) (gname 2)
    (sseq (sif (mnot (mtru gtru (mfn gAny (mcons (mlc false (miany (mvar 1)) (.nm 3) myes (mbin gIn (mvar 2) (mvar 3)) [3]) mnil))))
    (sseq (sexpr (mbm "list" gAppend (mvar 1) (mcons (mcall r_law_group (mcons (mvar 0) (mcons (mvar 2) mnil))) mnil)))
    snil)
    snil)
    snil))
    (sseq (sret (mvar 1))
    snil)))
def r_law_groups : MF := posA 1 (runT 0 4 m_law_groups)
def e_law_groups : Env1 := ⟨[("_law_group", r_law_group)], [], []⟩
def N_law_groups : List Str := [("_law_needs" : Str), ("_law_found" : Str), ("_law_task" : Str), ("_law_group_here" : Str)]
def s_law_groups : Stmt := (top 26)
theorem sem_law_groups : semB (gam g e_law_groups 2 N_law_groups (defScope s_law_groups)) (defBody s_law_groups) = m_law_groups := by kernel_rfl
theorem sc_law_groups : FnScope N_law_groups [("_law_needs" : Str)] (defScope s_law_groups) := ⟨rfl, rfl, rfl, by decide +kernel, rfl, by decide +kernel, by decide +kernel⟩
def d_law_groups : He.DefD := ⟨("_law_groups", none), "_law_groups", "_law_groups", defArgs s_law_groups, defBody s_law_groups, defScope s_law_groups, [], []⟩
def m_law_dependents : MS := (sseq (sret (mlc false (miany (mvar 0)) (.nm 3) (mtru gtru (mfn gAny (mcons (mlc false (miany (mcall r_law_closure (mcons (mvar 0) (mcons (mlst false (mcons (mvar 3) mnil)) mnil)))) (.nm 2) myes (mbin gIn (mvar 2) (mvar 1)) [2]) mnil))) (mvar 3) [3]))
    snil)
def r_law_dependents : MF := posA 2 (runT 0 4 m_law_dependents)
def e_law_dependents : Env1 := ⟨[("_law_closure", r_law_closure)], [], []⟩
def N_law_dependents : List Str := [("_law_needs" : Str), ("_law_some" : Str), ("_law_other" : Str), ("_law_task" : Str)]
def s_law_dependents : Stmt := (top 24)
theorem sem_law_dependents : semB (gam g e_law_dependents 1 N_law_dependents (defScope s_law_dependents)) (defBody s_law_dependents) = m_law_dependents := by kernel_rfl
theorem sc_law_dependents : FnScope N_law_dependents [("_law_needs" : Str), ("_law_some" : Str)] (defScope s_law_dependents) := ⟨rfl, rfl, rfl, by decide +kernel, rfl, by decide +kernel, by decide +kernel⟩
def d_law_dependents : He.DefD := ⟨("_law_dependents", none), "_law_dependents", "_law_dependents", defArgs s_law_dependents, defBody s_law_dependents, defScope s_law_dependents, [], []⟩
def m_Graph_in_order : MS := (sseq (sset 2 (mdc false (miany (mvar 1)) (.nm 3) myes (mvar 3) (mc (.bl true)) [3]))
    (sseq (sret (mlc true (miany (mfld fld_links "links" (mvar 0))) (.nm 4) (mtb (mbin gIn (mvar 4) (mvar 2))) (mvar 4) [4]))
    snil))
def r_Graph_in_order : MF := posA 2 (runT 1 5 m_Graph_in_order)
def e_Graph_in_order : Env1 := ⟨[], [], []⟩
def N_Graph_in_order : List Str := [("self" : Str), ("names" : Str), ("wanted" : Str), ("name" : Str), ("task" : Str)]
def s_Graph_in_order : Stmt := ((clsBody (top 14)).getD 8 (.Pass ⟨0, 0, 0, 0⟩))
theorem sem_Graph_in_order : semB (gam g e_Graph_in_order 0 N_Graph_in_order (defScope s_Graph_in_order)) (defBody s_Graph_in_order) = m_Graph_in_order := by kernel_rfl
theorem sc_Graph_in_order : FnScope N_Graph_in_order [("self" : Str), ("names" : Str)] (defScope s_Graph_in_order) := ⟨rfl, rfl, rfl, by decide +kernel, rfl, by decide +kernel, by decide +kernel⟩
def d_Graph_in_order : He.DefD := ⟨("Graph", some "in_order"), "in_order", "Graph.in_order", defArgs s_Graph_in_order, defBody s_Graph_in_order, defScope s_Graph_in_order, [], []⟩
def tb_in_order : List (Str × MF) := [("Graph", r_Graph_in_order)]
def m_Graph_reached : MS := (sseq (sset 3 (mfn (gListA true) (mcons (mvar 1) mnil)))
    (sseq (sset 4 (mdc true (miany (mvar 3)) (.nm 5) myes (mvar 5) (mc (.bl true)) [5]))
    (sseq (swhile (mtb (mbin gNe (mvar 3) (mlst false mnil)))
    (sseq (sfor (miany (mbin gIx (mvar 2) (mbm "list" gPop (mvar 3) mnil))) (gname 6)
    (sseq (sif (mtb (mbin gNotIn (mvar 6) (mvar 4)))
    (sseq (sasg (mc (.bl true)) (gsub (mvar 4) (mvar 6) gSetI))
    (sseq (sexpr (mbm "list" gAppend (mvar 3) (mcons (mvar 6) mnil)))
    snil))
    snil)
    snil))
    snil))
    (sseq (sret (mmeth tb_in_order "in_order" (mvar 0) (mcons (mvar 4) mnil)))
    snil))))
def r_Graph_reached : MF := posA 3 (runT 1 7 m_Graph_reached)
def e_Graph_reached : Env1 := ⟨[], [("in_order", tb_in_order)], []⟩
def N_Graph_reached : List Str := [("self" : Str), ("starts" : Str), ("links" : Str), ("waiting" : Str), ("found" : Str), ("task" : Str), ("other" : Str)]
def s_Graph_reached : Stmt := ((clsBody (top 14)).getD 15 (.Pass ⟨0, 0, 0, 0⟩))
theorem sem_Graph_reached : semB (gam g e_Graph_reached 1 N_Graph_reached (defScope s_Graph_reached)) (defBody s_Graph_reached) = m_Graph_reached := by kernel_rfl
theorem sc_Graph_reached : FnScope N_Graph_reached [("self" : Str), ("starts" : Str), ("links" : Str)] (defScope s_Graph_reached) := ⟨rfl, rfl, rfl, by decide +kernel, rfl, by decide +kernel, by decide +kernel⟩
def d_Graph_reached : He.DefD := ⟨("Graph", some "reached"), "reached", "Graph.reached", defArgs s_Graph_reached, defBody s_Graph_reached, defScope s_Graph_reached, [], []⟩
def m_Graph_has : MS := (sseq (sret (mandV (mfn (gIsi tbl cs) (mcons (mvar 1) (mcons (mc (.ty "str")) mnil))) (mbin gIn (mvar 1) (mfld fld_links "links" (mvar 0)))))
    snil)
def r_Graph_has : MF := posA 2 (runT 0 2 m_Graph_has)
def e_Graph_has : Env1 := ⟨[], [], []⟩
def N_Graph_has : List Str := [("self" : Str), ("value" : Str)]
def s_Graph_has : Stmt := ((clsBody (top 14)).getD 6 (.Pass ⟨0, 0, 0, 0⟩))
theorem sem_Graph_has : semB (gam g e_Graph_has 0 N_Graph_has (defScope s_Graph_has)) (defBody s_Graph_has) = m_Graph_has := by kernel_rfl
theorem sc_Graph_has : FnScope N_Graph_has [("self" : Str), ("value" : Str)] (defScope s_Graph_has) := ⟨rfl, rfl, rfl, by decide +kernel, rfl, by decide +kernel, by decide +kernel⟩
def d_Graph_has : He.DefD := ⟨("Graph", some "has"), "has", "Graph.has", defArgs s_Graph_has, defBody s_Graph_has, defScope s_Graph_has, [], []⟩
def tb_has : List (Str × MF) := [("Graph", r_Graph_has)]
def m_Graph_require_tasks : MS := (sseq (sfor (miany (mvar 1)) (gname 2)
    (sseq (sif (mnot (mtru gtru (mmeth tb_has "has" (mvar 0) (mcons (mvar 2) mnil))))
    (sseq sno
    snil)
    snil)
    snil))
    snil)
def r_Graph_require_tasks : MF := posA 2 (runT 0 3 m_Graph_require_tasks)
def e_Graph_require_tasks : Env1 := ⟨[], [("has", tb_has)], []⟩
def N_Graph_require_tasks : List Str := [("self" : Str), ("names" : Str), ("name" : Str)]
def s_Graph_require_tasks : Stmt := ((clsBody (top 14)).getD 7 (.Pass ⟨0, 0, 0, 0⟩))
theorem sem_Graph_require_tasks : semB (gam g e_Graph_require_tasks 1 N_Graph_require_tasks (defScope s_Graph_require_tasks)) (defBody s_Graph_require_tasks) = m_Graph_require_tasks := by kernel_rfl
theorem sc_Graph_require_tasks : FnScope N_Graph_require_tasks [("self" : Str), ("names" : Str)] (defScope s_Graph_require_tasks) := ⟨rfl, rfl, rfl, by decide +kernel, rfl, by decide +kernel, by decide +kernel⟩
def d_Graph_require_tasks : He.DefD := ⟨("Graph", some "require_tasks"), "require_tasks", "Graph.require_tasks", defArgs s_Graph_require_tasks, defBody s_Graph_require_tasks, defScope s_Graph_require_tasks, [], []⟩
def tb_reached : List (Str × MF) := [("Graph", r_Graph_reached)]
def tb_require_tasks : List (Str × MF) := [("Graph", r_Graph_require_tasks)]
def m_Graph_dependents : MS := (sseq (sexpr (mmeth tb_require_tasks "require_tasks" (mvar 0) (mcons (mvar 1) mnil)))
    (sseq (sset 2 (mdc false (miany (mfld fld_links "links" (mvar 0))) (.nm 3) myes (mvar 3) (mlst true mnil) [3]))
    (sseq (sfor (midic itmsW (mfld fld_links "links" (mvar 0))) (gtup 2 (gcons (gname 3) (gcons (gname 4) gnil)))
    (sseq (sfor (miany (mvar 4)) (gname 5)
    (sseq (sexpr (mbm "list" gAppend (mbin gIx (mvar 2) (mvar 5)) (mcons (mvar 3) mnil)))
    snil))
    snil))
    (sseq (sret (mmeth tb_reached "reached" (mvar 0) (mcons (mvar 1) (mcons (mvar 2) mnil))))
    snil))))
def r_Graph_dependents : MF := trimA 1 (varA 1 (runB 6 m_Graph_dependents))
def e_Graph_dependents : Env1 := ⟨[], [("reached", tb_reached), ("require_tasks", tb_require_tasks)], []⟩
def N_Graph_dependents : List Str := [("self" : Str), ("tasks" : Str), ("users" : Str), ("task" : Str), ("others" : Str), ("other" : Str)]
def s_Graph_dependents : Stmt := ((clsBody (top 14)).getD 17 (.Pass ⟨0, 0, 0, 0⟩))
theorem sem_Graph_dependents : semB (gam g e_Graph_dependents 2 N_Graph_dependents (defScope s_Graph_dependents)) (defBody s_Graph_dependents) = m_Graph_dependents := by kernel_rfl
theorem sc_Graph_dependents : FnScope N_Graph_dependents ([("self" : Str)] ++ [("tasks" : Str)]) (defScope s_Graph_dependents) := ⟨rfl, rfl, rfl, by decide +kernel, rfl, by decide +kernel, by decide +kernel⟩
def d_Graph_dependents : He.DefD := ⟨("Graph", some "dependents"), "dependents", "Graph.dependents", defArgs s_Graph_dependents, defBody s_Graph_dependents, defScope s_Graph_dependents, [], []⟩
def tb_dependents : List (Str × MF) := [("Graph", r_Graph_dependents)]
def m_law_dependents_told : MS := (sseq (sif (mtb (mbin gEq (mfn gLen (mcons (mvar 1) mnil)) (mc (.int 0))))
    (sseq (sret (mmeth tb_dependents "dependents" (mvar 0) mnil))
    snil)
    snil)
    (sseq (sif (mtb (mbin gEq (mfn gLen (mcons (mvar 1) mnil)) (mc (.int 1))))
    (sseq (sret (mmeth tb_dependents "dependents" (mvar 0) (mcons (mbin gIx (mvar 1) (mc (.int 0))) mnil)))
    snil)
    snil)
    (sseq (sret (mif (mtb (mbin gEq (mfn gLen (mcons (mvar 1) mnil)) (mc (.int 2)))) (mmeth tb_dependents "dependents" (mvar 0) (mcons (mbin gIx (mvar 1) (mc (.int 0))) (mcons (mbin gIx (mvar 1) (mc (.int 1))) mnil))) (mmeth tb_dependents "dependents" (mvar 0) (mcons (mbin gIx (mvar 1) (mc (.int 0))) (mcons (mbin gIx (mvar 1) (mc (.int 1))) (mcons (mbin gIx (mvar 1) (mc (.int 2))) mnil))))))
    snil)))
def r_law_dependents_told : MF := posA 2 (runT 1 2 m_law_dependents_told)
def e_law_dependents_told : Env1 := ⟨[], [("dependents", tb_dependents)], []⟩
def N_law_dependents_told : List Str := [("_law_graph" : Str), ("_law_some" : Str)]
def s_law_dependents_told : Stmt := (top 23)
theorem sem_law_dependents_told : semB (gam g e_law_dependents_told 3 N_law_dependents_told (defScope s_law_dependents_told)) (defBody s_law_dependents_told) = m_law_dependents_told := by kernel_rfl
theorem sc_law_dependents_told : FnScope N_law_dependents_told [("_law_graph" : Str), ("_law_some" : Str)] (defScope s_law_dependents_told) := ⟨rfl, rfl, rfl, by decide +kernel, rfl, by decide +kernel, by decide +kernel⟩
def d_law_dependents_told : He.DefD := ⟨("_law_dependents_told", none), "_law_dependents_told", "_law_dependents_told", defArgs s_law_dependents_told, defBody s_law_dependents_told, defScope s_law_dependents_told, [], []⟩
def m_Graph_closure : MS := (sseq (sexpr (mmeth tb_require_tasks "require_tasks" (mvar 0) (mcons (mvar 1) mnil)))
    (sseq (sret (mmeth tb_reached "reached" (mvar 0) (mcons (mvar 1) (mcons (mfld fld_links "links" (mvar 0)) mnil))))
    snil))
def r_Graph_closure : MF := trimA 1 (varA 1 (runB 2 m_Graph_closure))
def e_Graph_closure : Env1 := ⟨[], [("reached", tb_reached), ("require_tasks", tb_require_tasks)], []⟩
def N_Graph_closure : List Str := [("self" : Str), ("tasks" : Str)]
def s_Graph_closure : Stmt := ((clsBody (top 14)).getD 16 (.Pass ⟨0, 0, 0, 0⟩))
theorem sem_Graph_closure : semB (gam g e_Graph_closure 2 N_Graph_closure (defScope s_Graph_closure)) (defBody s_Graph_closure) = m_Graph_closure := by kernel_rfl
theorem sc_Graph_closure : FnScope N_Graph_closure ([("self" : Str)] ++ [("tasks" : Str)]) (defScope s_Graph_closure) := ⟨rfl, rfl, rfl, by decide +kernel, rfl, by decide +kernel, by decide +kernel⟩
def d_Graph_closure : He.DefD := ⟨("Graph", some "closure"), "closure", "Graph.closure", defArgs s_Graph_closure, defBody s_Graph_closure, defScope s_Graph_closure, [], []⟩
def tb_closure : List (Str × MF) := [("Graph", r_Graph_closure)]
def m_law_closure_told : MS := (sseq (sif (mtb (mbin gEq (mfn gLen (mcons (mvar 1) mnil)) (mc (.int 0))))
    (sseq (sret (mmeth tb_closure "closure" (mvar 0) mnil))
    snil)
    snil)
    (sseq (sif (mtb (mbin gEq (mfn gLen (mcons (mvar 1) mnil)) (mc (.int 1))))
    (sseq (sret (mmeth tb_closure "closure" (mvar 0) (mcons (mbin gIx (mvar 1) (mc (.int 0))) mnil)))
    snil)
    snil)
    (sseq (sret (mif (mtb (mbin gEq (mfn gLen (mcons (mvar 1) mnil)) (mc (.int 2)))) (mmeth tb_closure "closure" (mvar 0) (mcons (mbin gIx (mvar 1) (mc (.int 0))) (mcons (mbin gIx (mvar 1) (mc (.int 1))) mnil))) (mmeth tb_closure "closure" (mvar 0) (mcons (mbin gIx (mvar 1) (mc (.int 0))) (mcons (mbin gIx (mvar 1) (mc (.int 1))) (mcons (mbin gIx (mvar 1) (mc (.int 2))) mnil))))))
    snil)))
def r_law_closure_told : MF := posA 2 (runT 1 2 m_law_closure_told)
def e_law_closure_told : Env1 := ⟨[], [("closure", tb_closure)], []⟩
def N_law_closure_told : List Str := [("_law_graph" : Str), ("_law_some" : Str)]
def s_law_closure_told : Stmt := (top 22)
theorem sem_law_closure_told : semB (gam g e_law_closure_told 3 N_law_closure_told (defScope s_law_closure_told)) (defBody s_law_closure_told) = m_law_closure_told := by kernel_rfl
theorem sc_law_closure_told : FnScope N_law_closure_told [("_law_graph" : Str), ("_law_some" : Str)] (defScope s_law_closure_told) := ⟨rfl, rfl, rfl, by decide +kernel, rfl, by decide +kernel, by decide +kernel⟩
def d_law_closure_told : He.DefD := ⟨("_law_closure_told", none), "_law_closure_told", "_law_closure_told", defArgs s_law_closure_told, defBody s_law_closure_told, defScope s_law_closure_told, [], []⟩
def m_law_pick : MS := (sseq (sret (mbin gIx (mvar 1) (mcall r_law_digit (mcons (mvar 0) (mcons (mfn gLen (mcons (mvar 1) mnil)) mnil)))))
    snil)
def r_law_pick : MF := posA 2 (runT 0 2 m_law_pick)
def e_law_pick : Env1 := ⟨[("_law_digit", r_law_digit)], [], []⟩
def N_law_pick : List Str := [("_law_pot_here" : Str), ("_law_some" : Str)]
def s_law_pick : Stmt := (top 18)
theorem sem_law_pick : semB (gam g e_law_pick 1 N_law_pick (defScope s_law_pick)) (defBody s_law_pick) = m_law_pick := by kernel_rfl
theorem sc_law_pick : FnScope N_law_pick [("_law_pot_here" : Str), ("_law_some" : Str)] (defScope s_law_pick) := ⟨rfl, rfl, rfl, by decide +kernel, rfl, by decide +kernel, by decide +kernel⟩
def d_law_pick : He.DefD := ⟨("_law_pick", none), "_law_pick", "_law_pick", defArgs s_law_pick, defBody s_law_pick, defScope s_law_pick, [], []⟩
def m_law_drawn : MS := (sseq (sret (mif (mtb (mbin gNe (mvar 1) (mdnew false))) (mlc false (mirng1 (mcons (mcall r_law_digit (mcons (mvar 0) (mcons (mc (.int 4)) mnil))) mnil)) (.nm 2) myes (mcall r_law_pick (mcons (mvar 0) (mcons (mfn (gListA false) (mcons (mvar 1) mnil)) mnil))) [2]) (mlst false mnil)))
    snil)
def r_law_drawn : MF := posA 2 (runT 0 3 m_law_drawn)
def e_law_drawn : Env1 := ⟨[("_law_digit", r_law_digit), ("_law_pick", r_law_pick)], [], []⟩
def N_law_drawn : List Str := [("_law_pot_here" : Str), ("_law_needs" : Str), ("_law_turn" : Str)]
def s_law_drawn : Stmt := (top 29)
theorem sem_law_drawn : semB (gam g e_law_drawn 2 N_law_drawn (defScope s_law_drawn)) (defBody s_law_drawn) = m_law_drawn := by kernel_rfl
theorem sc_law_drawn : FnScope N_law_drawn [("_law_pot_here" : Str), ("_law_needs" : Str)] (defScope s_law_drawn) := ⟨rfl, rfl, rfl, by decide +kernel, rfl, by decide +kernel, by decide +kernel⟩
def d_law_drawn : He.DefD := ⟨("_law_drawn", none), "_law_drawn", "_law_drawn", defArgs s_law_drawn, defBody s_law_drawn, defScope s_law_drawn, [], []⟩
def m_Graph_group : MS := (sseq (sset 2 (mmeth tb_dependents "dependents" (mvar 0) (mcons (mvar 1) mnil)))
    (sseq (sret (mlc true (miany (mmeth tb_closure "closure" (mvar 0) (mcons (mvar 1) mnil))) (.nm 3) (mtb (mbin gIn (mvar 3) (mvar 2))) (mvar 3) [3]))
    snil))
def r_Graph_group : MF := posA 2 (runT 1 4 m_Graph_group)
def e_Graph_group : Env1 := ⟨[], [("closure", tb_closure), ("dependents", tb_dependents)], []⟩
def N_Graph_group : List Str := [("self" : Str), ("task" : Str), ("users" : Str), ("other" : Str)]
def s_Graph_group : Stmt := ((clsBody (top 14)).getD 18 (.Pass ⟨0, 0, 0, 0⟩))
theorem sem_Graph_group : semB (gam g e_Graph_group 3 N_Graph_group (defScope s_Graph_group)) (defBody s_Graph_group) = m_Graph_group := by kernel_rfl
theorem sc_Graph_group : FnScope N_Graph_group [("self" : Str), ("task" : Str)] (defScope s_Graph_group) := ⟨rfl, rfl, rfl, by decide +kernel, rfl, by decide +kernel, by decide +kernel⟩
def d_Graph_group : He.DefD := ⟨("Graph", some "group"), "group", "Graph.group", defArgs s_Graph_group, defBody s_Graph_group, defScope s_Graph_group, [], []⟩
def tb_group : List (Str × MF) := [("Graph", r_Graph_group)]
def m_Graph_groups : MS := (sseq (spar [1, 2] (mcons (mlst true mnil) (mcons (mdnew true) mnil)))
    (sseq (sfor (miany (mfld fld_links "links" (mvar 0))) (gname 3)
    (sseq (sif (mtb (mbin gNotIn (mvar 3) (mvar 2)))
    (sseq (sexpr (mbm "list" gAppend (mvar 1) (mcons (mmeth tb_group "group" (mvar 0) (mcons (mvar 3) mnil)) mnil)))
    (sseq (sexpr (mbm "dict" gDUp (mvar 2) (mcons (mdc false (miany (mbin gIx (mvar 1) (mun gNeg (mc (.int 1))))) (.nm 4) myes (mvar 4) (mc (.bl true)) [4]) mnil)))
    snil))
    snil)
    snil))
    (sseq (sret (mvar 1))
    snil)))
def r_Graph_groups : MF := posA 1 (runT 2 5 m_Graph_groups)
def e_Graph_groups : Env1 := ⟨[], [("group", tb_group)], []⟩
def N_Graph_groups : List Str := [("self" : Str), ("found" : Str), ("seen" : Str), ("task" : Str), ("other" : Str)]
def s_Graph_groups : Stmt := ((clsBody (top 14)).getD 19 (.Pass ⟨0, 0, 0, 0⟩))
theorem sem_Graph_groups : semB (gam g e_Graph_groups 4 N_Graph_groups (defScope s_Graph_groups)) (defBody s_Graph_groups) = m_Graph_groups := by kernel_rfl
theorem sc_Graph_groups : FnScope N_Graph_groups [("self" : Str)] (defScope s_Graph_groups) := ⟨rfl, rfl, rfl, by decide +kernel, rfl, by decide +kernel, by decide +kernel⟩
def d_Graph_groups : He.DefD := ⟨("Graph", some "groups"), "groups", "Graph.groups", defArgs s_Graph_groups, defBody s_Graph_groups, defScope s_Graph_groups, [], []⟩
def m_Graph_tasks : MS := (sseq (sret (mfn (gListA true) (mcons (mfld fld_links "links" (mvar 0)) mnil)))
    snil)
def r_Graph_tasks : MF := posA 1 (runT 1 1 m_Graph_tasks)
def e_Graph_tasks : Env1 := ⟨[], [], []⟩
def N_Graph_tasks : List Str := [("self" : Str)]
def s_Graph_tasks : Stmt := ((clsBody (top 14)).getD 12 (.Pass ⟨0, 0, 0, 0⟩))
theorem sem_Graph_tasks : semB (gam g e_Graph_tasks 0 N_Graph_tasks (defScope s_Graph_tasks)) (defBody s_Graph_tasks) = m_Graph_tasks := by kernel_rfl
theorem sc_Graph_tasks : FnScope N_Graph_tasks [("self" : Str)] (defScope s_Graph_tasks) := ⟨rfl, rfl, rfl, by decide +kernel, rfl, by decide +kernel, by decide +kernel⟩
def d_Graph_tasks : He.DefD := ⟨("Graph", some "tasks"), "tasks", "Graph.tasks", defArgs s_Graph_tasks, defBody s_Graph_tasks, defScope s_Graph_tasks, [], []⟩
def m_Graph_direct : MS := (sseq (sexpr (mmeth tb_require_tasks "require_tasks" (mvar 0) (mcons (mlst false (mcons (mvar 1) mnil)) mnil)))
    (sseq (sret (mfn (gListA true) (mcons (mbin gIx (mfld fld_links "links" (mvar 0)) (mvar 1)) mnil)))
    snil))
def r_Graph_direct : MF := posA 2 (runT 1 2 m_Graph_direct)
def e_Graph_direct : Env1 := ⟨[], [("require_tasks", tb_require_tasks)], []⟩
def N_Graph_direct : List Str := [("self" : Str), ("task" : Str)]
def s_Graph_direct : Stmt := ((clsBody (top 14)).getD 13 (.Pass ⟨0, 0, 0, 0⟩))
theorem sem_Graph_direct : semB (gam g e_Graph_direct 2 N_Graph_direct (defScope s_Graph_direct)) (defBody s_Graph_direct) = m_Graph_direct := by kernel_rfl
theorem sc_Graph_direct : FnScope N_Graph_direct [("self" : Str), ("task" : Str)] (defScope s_Graph_direct) := ⟨rfl, rfl, rfl, by decide +kernel, rfl, by decide +kernel, by decide +kernel⟩
def d_Graph_direct : He.DefD := ⟨("Graph", some "direct"), "direct", "Graph.direct", defArgs s_Graph_direct, defBody s_Graph_direct, defScope s_Graph_direct, [], []⟩
def m_Graph_depends : MS := (sseq (sexpr (mmeth tb_require_tasks "require_tasks" (mvar 0) (mcons (mlst false (mcons (mvar 1) (mcons (mvar 2) mnil))) mnil)))
    (sseq (sret (mbin gIn (mvar 2) (mmeth tb_closure "closure" (mvar 0) (mcons (mvar 1) mnil))))
    snil))
def r_Graph_depends : MF := posA 3 (runT 0 3 m_Graph_depends)
def e_Graph_depends : Env1 := ⟨[], [("closure", tb_closure), ("require_tasks", tb_require_tasks)], []⟩
def N_Graph_depends : List Str := [("self" : Str), ("one" : Str), ("other" : Str)]
def s_Graph_depends : Stmt := ((clsBody (top 14)).getD 14 (.Pass ⟨0, 0, 0, 0⟩))
theorem sem_Graph_depends : semB (gam g e_Graph_depends 3 N_Graph_depends (defScope s_Graph_depends)) (defBody s_Graph_depends) = m_Graph_depends := by kernel_rfl
theorem sc_Graph_depends : FnScope N_Graph_depends [("self" : Str), ("one" : Str), ("other" : Str)] (defScope s_Graph_depends) := ⟨rfl, rfl, rfl, by decide +kernel, rfl, by decide +kernel, by decide +kernel⟩
def d_Graph_depends : He.DefD := ⟨("Graph", some "depends"), "depends", "Graph.depends", defArgs s_Graph_depends, defBody s_Graph_depends, defScope s_Graph_depends, [], []⟩
def m_Graph___len__ : MS := (sseq (sret (mfn gLen (mcons (mfld fld_links "links" (mvar 0)) mnil)))
    snil)
def r_Graph___len__ : MF := posA 1 (runT 0 1 m_Graph___len__)
def e_Graph___len__ : Env1 := ⟨[], [], []⟩
def N_Graph___len__ : List Str := [("self" : Str)]
def s_Graph___len__ : Stmt := ((clsBody (top 14)).getD 4 (.Pass ⟨0, 0, 0, 0⟩))
theorem sem_Graph___len__ : semB (gam g e_Graph___len__ 0 N_Graph___len__ (defScope s_Graph___len__)) (defBody s_Graph___len__) = m_Graph___len__ := by kernel_rfl
theorem sc_Graph___len__ : FnScope N_Graph___len__ [("self" : Str)] (defScope s_Graph___len__) := ⟨rfl, rfl, rfl, by decide +kernel, rfl, by decide +kernel, by decide +kernel⟩
def d_Graph___len__ : He.DefD := ⟨("Graph", some "__len__"), "__len__", "Graph.__len__", defArgs s_Graph___len__, defBody s_Graph___len__, defScope s_Graph___len__, [], []⟩
def tb_groups : List (Str × MF) := [("Graph", r_Graph_groups)]
def tb_tasks : List (Str × MF) := [("Graph", r_Graph_tasks)]
def tb_direct : List (Str × MF) := [("Graph", r_Graph_direct)]
def tb_depends : List (Str × MF) := [("Graph", r_Graph_depends)]
def tb___len__ : List (Str × MF) := [("Graph", r_Graph___len__)]
def m_law_state_right : MS := (sseq (sset 3 (mfn (gListA false) (mcons (mvar 2) mnil)))
    (sseq (sset 4 (mlc false (miany (mvar 3)) (.nm 6) myes (mlc false (miany (mvar 3)) (.nm 5) (mtb (mbin gIn (mvar 5) (mbin gIx (mvar 2) (mvar 6)))) (mvar 5) [5]) [6]))
    (sseq (sset 7 (mlst false (mcons (mmeth tb_tasks "tasks" (mvar 1) mnil) (mcons (mlc true (miany (mvar 3)) (.nm 6) myes (mmeth tb_direct "direct" (mvar 1) (mcons (mvar 6) mnil)) [6]) (mcons (mlenO tb___len__ (mvar 1)) (mcons (mlc true (miany (mvar 3)) (.nm 6) myes (mmeth tb_group "group" (mvar 1) (mcons (mvar 6) mnil)) [6]) mnil))))))
    (sseq (sif (mtb (mbin gNe (mfn gRepr (mcons (mvar 7) mnil)) (mfn gRepr (mcons (mlst false (mcons (mvar 3) (mcons (mvar 4) (mcons (mlenO tb___len__ (mvar 3)) (mcons (mlc false (miany (mvar 3)) (.nm 6) myes (mcall r_law_group (mcons (mvar 2) (mcons (mvar 6) mnil))) [6]) mnil))))) mnil))))
    (sseq (sret (mc (.bl false)))
    snil)
    snil)
    (sseq (sif (mtb (mbin gNe (mfn gRepr (mcons (mmeth tb_groups "groups" (mvar 1) mnil) mnil)) (mfn gRepr (mcons (mcall r_law_groups (mcons (mvar 2) mnil)) mnil))))
    (sseq (sret (mc (.bl false)))
    snil)
    snil)
    (sseq (sfor (miany (mvar 3)) (gname 8)
    (sseq (sset 9 (mcall r_law_closure (mcons (mvar 2) (mcons (mlst false (mcons (mvar 8) mnil)) mnil))))
    (sseq (sif (mtb (mbin gNe (mlc false (miany (mvar 3)) (.nm 5) myes (mmeth tb_depends "depends" (mvar 1) (mcons (mvar 8) (mcons (mvar 5) mnil))) [5]) (mlc false (miany (mvar 3)) (.nm 5) myes (mbin gIn (mvar 5) (mvar 9)) [5])))
    (sseq (sret (mc (.bl false)))
    snil)
    snil)
    snil)))
    (sseq (sset 10 (mcall r_law_drawn (mcons (mvar 0) (mcons (mvar 2) mnil))))
    (sseq (sset 11 (mlst false (mcons (mcall r_law_closure_told (mcons (mvar 1) (mcons (mvar 10) mnil))) (mcons (mcall r_law_dependents_told (mcons (mvar 1) (mcons (mvar 10) mnil))) mnil))))
    (sseq (sif (mtb (mbin gNe (mfn gRepr (mcons (mvar 11) mnil)) (mfn gRepr (mcons (mlst false (mcons (mcall r_law_closure (mcons (mvar 2) (mcons (mvar 10) mnil))) (mcons (mcall r_law_dependents (mcons (mvar 2) (mcons (mvar 10) mnil))) mnil))) mnil))))
    (sseq (sret (mc (.bl false)))
    snil)
    snil)
    (sseq (sfor (miany (mbin (gAdd false) (mbin (gAdd false) (mslice false (mvar 7) mnop (mpart (mc (.int 2)))) (mslice false (mvar 7) (mpart (mc (.int 3))) mnop)) (mvar 11))) (gname 12)
    (sseq (sexpr (mbm "list" gAppend (mvar 12) (mcons (mc .non) mnil)))
    snil))
    (sseq (sfor (miany (mbin (gAdd false) (mmeth tb_groups "groups" (mvar 1) mnil) (mlc true (miany (mvar 3)) (.nm 6) myes (mmeth tb_direct "direct" (mvar 1) (mcons (mvar 6) mnil)) [6]))) (gname 13)
    (sseq (sexpr (mbm "list" gClear (mvar 13) mnil))
    snil))
    (sseq (sret (mbin gEq (mfn gRepr (mcons (mlst false (mcons (mmeth tb_tasks "tasks" (mvar 1) mnil) (mcons (mmeth tb_groups "groups" (mvar 1) mnil) mnil))) mnil)) (mfn gRepr (mcons (mlst false (mcons (mvar 3) (mcons (mcall r_law_groups (mcons (mvar 2) mnil)) mnil))) mnil))))
    snil))))))))))))
def r_law_state_right : MF := posA 3 (runT 0 14 m_law_state_right)
def e_law_state_right : Env1 := ⟨[("_law_groups", r_law_groups), ("_law_dependents", r_law_dependents), ("_law_closure", r_law_closure), ("_law_dependents_told", r_law_dependents_told), ("_law_closure_told", r_law_closure_told), ("_law_drawn", r_law_drawn), ("_law_group", r_law_group)], [("groups", tb_groups), ("tasks", tb_tasks), ("direct", tb_direct), ("depends", tb_depends), ("group", tb_group)], [("__len__", tb___len__)]⟩
def N_law_state_right : List Str := [("_law_pot_here" : Str), ("_law_graph" : Str), ("_law_needs" : Str), ("_law_tasks" : Str), ("_law_direct" : Str), ("_law_other" : Str), ("_law_task" : Str), ("_law_told" : Str), ("_law_one" : Str), ("_law_reached" : Str), ("_law_some" : Str), ("_law_found" : Str), ("_law_rows" : Str), ("_law_row" : Str)]
def s_law_state_right : Stmt := (top 30)
theorem sem_law_state_right : semB (gam g e_law_state_right 5 N_law_state_right (defScope s_law_state_right)) (defBody s_law_state_right) = m_law_state_right := by kernel_rfl
theorem sc_law_state_right : FnScope N_law_state_right [("_law_pot_here" : Str), ("_law_graph" : Str), ("_law_needs" : Str)] (defScope s_law_state_right) := ⟨rfl, rfl, rfl, by decide +kernel, rfl, by decide +kernel, by decide +kernel⟩
def d_law_state_right : He.DefD := ⟨("_law_state_right", none), "_law_state_right", "_law_state_right", defArgs s_law_state_right, defBody s_law_state_right, defScope s_law_state_right, [], []⟩
def m_is_name : MS := (sseq (sif (mor (mnot (mtru gtru (mfn (gIsi tbl cs) (mcons (mvar 0) (mcons (mc (.ty "str")) mnil))))) (mnot (mtb (mchain gLe gLe (mc (.int 1)) (mfn gLen (mcons (mvar 0) mnil)) (mc (.int 8))))))
    (sseq (sret (mc (.bl false)))
    snil)
    snil)
    (sseq (sret (mfn gAll (mcons (mlc false (miany (mvar 0)) (.nm 1) myes (mbin gIn (mvar 1) (mc (.str "abcdefghijklmnopqrstuvwxyz"))) [1]) mnil)))
    snil))
def r_is_name : MF := posA 1 (runT 0 2 m_is_name)
def e_is_name : Env1 := ⟨[], [], []⟩
def N_is_name : List Str := [("value" : Str), ("letter" : Str)]
def s_is_name : Stmt := (top 10)
theorem sem_is_name : semB (gam g e_is_name 0 N_is_name (defScope s_is_name)) (defBody s_is_name) = m_is_name := by kernel_rfl
theorem sc_is_name : FnScope N_is_name [("value" : Str)] (defScope s_is_name) := ⟨rfl, rfl, rfl, by decide +kernel, rfl, by decide +kernel, by decide +kernel⟩
def d_is_name : He.DefD := ⟨("is_name", none), "is_name", "is_name", defArgs s_is_name, defBody s_is_name, defScope s_is_name, [], []⟩
def m_require_name : MS := (sseq (sif (mnot (mtru gtru (mcall r_is_name (mcons (mvar 0) mnil))))
    (sseq sno
    snil)
    snil)
    snil)
def r_require_name : MF := posA 1 (runT 0 1 m_require_name)
def e_require_name : Env1 := ⟨[("is_name", r_is_name)], [], []⟩
def N_require_name : List Str := [("value" : Str)]
def s_require_name : Stmt := (top 11)
theorem sem_require_name : semB (gam g e_require_name 1 N_require_name (defScope s_require_name)) (defBody s_require_name) = m_require_name := by kernel_rfl
theorem sc_require_name : FnScope N_require_name [("value" : Str)] (defScope s_require_name) := ⟨rfl, rfl, rfl, by decide +kernel, rfl, by decide +kernel, by decide +kernel⟩
def d_require_name : He.DefD := ⟨("require_name", none), "require_name", "require_name", defArgs s_require_name, defBody s_require_name, defScope s_require_name, [], []⟩
def m_Graph_add_task : MS := (sseq (sexpr (mcall r_require_name (mcons (mvar 1) mnil)))
    (sseq (sif (mtb (mbin gIn (mvar 1) (mfld fld_links "links" (mvar 0))))
    (sseq sno
    snil)
    snil)
    (sseq (sexpr (mmeth tb_require_tasks "require_tasks" (mvar 0) (mcons (mvar 2) mnil)))
    (sseq (sif (mtb (mbin gGe (mfn gLen (mcons (mfld fld_links "links" (mvar 0)) mnil)) (mcon con_MAX_TASKS "MAX_TASKS" (mvar 0))))
    (sseq sno
    snil)
    snil)
    (sseq (sasg (mtrim 0 (mmeth tb_in_order "in_order" (mvar 0) (mcons (mvar 2) mnil))) (gsub (mfld fld_links "links" (mvar 0)) (mvar 1) gSetI))
    snil)))))
def r_Graph_add_task : MF := varA 2 (runB 3 m_Graph_add_task)
def e_Graph_add_task : Env1 := ⟨[("require_name", r_require_name)], [("in_order", tb_in_order), ("require_tasks", tb_require_tasks)], []⟩
def N_Graph_add_task : List Str := [("self" : Str), ("task" : Str), ("others" : Str)]
def s_Graph_add_task : Stmt := ((clsBody (top 14)).getD 9 (.Pass ⟨0, 0, 0, 0⟩))
theorem sem_Graph_add_task : semB (gam g e_Graph_add_task 2 N_Graph_add_task (defScope s_Graph_add_task)) (defBody s_Graph_add_task) = m_Graph_add_task := by kernel_rfl
theorem sc_Graph_add_task : FnScope N_Graph_add_task ([("self" : Str), ("task" : Str)] ++ [("others" : Str)]) (defScope s_Graph_add_task) := ⟨rfl, rfl, rfl, by decide +kernel, rfl, by decide +kernel, by decide +kernel⟩
def d_Graph_add_task : He.DefD := ⟨("Graph", some "add_task"), "add_task", "Graph.add_task", defArgs s_Graph_add_task, defBody s_Graph_add_task, defScope s_Graph_add_task, [], []⟩
def tb_add_task : List (Str × MF) := [("Graph", r_Graph_add_task)]
def m_law_added : MS := (sseq (sif (mtb (mbin gEq (mfn gLen (mcons (mvar 2) mnil)) (mc (.int 0))))
    (sseq (sret (mmeth tb_add_task "add_task" (mvar 0) (mcons (mvar 1) mnil)))
    snil)
    snil)
    (sseq (sif (mtb (mbin gEq (mfn gLen (mcons (mvar 2) mnil)) (mc (.int 1))))
    (sseq (sret (mmeth tb_add_task "add_task" (mvar 0) (mcons (mvar 1) (mcons (mbin gIx (mvar 2) (mc (.int 0))) mnil))))
    snil)
    snil)
    (sseq (sif (mtb (mbin gEq (mfn gLen (mcons (mvar 2) mnil)) (mc (.int 2))))
    (sseq (sret (mmeth tb_add_task "add_task" (mvar 0) (mcons (mvar 1) (mcons (mbin gIx (mvar 2) (mc (.int 0))) (mcons (mbin gIx (mvar 2) (mc (.int 1))) mnil)))))
    snil)
    snil)
    (sseq (sret (mmeth tb_add_task "add_task" (mvar 0) (mcons (mvar 1) (mcons (mbin gIx (mvar 2) (mc (.int 0))) (mcons (mbin gIx (mvar 2) (mc (.int 1))) (mcons (mbin gIx (mvar 2) (mc (.int 2))) mnil))))))
    snil))))
def r_law_added : MF := posA 3 (runB 3 m_law_added)
def e_law_added : Env1 := ⟨[], [("add_task", tb_add_task)], []⟩
def N_law_added : List Str := [("_law_graph" : Str), ("_law_task" : Str), ("_law_some" : Str)]
def s_law_added : Stmt := (top 27)
theorem sem_law_added : semB (gam g e_law_added 3 N_law_added (defScope s_law_added)) (defBody s_law_added) = m_law_added := by kernel_rfl
theorem sc_law_added : FnScope N_law_added [("_law_graph" : Str), ("_law_task" : Str), ("_law_some" : Str)] (defScope s_law_added) := ⟨rfl, rfl, rfl, by decide +kernel, rfl, by decide +kernel, by decide +kernel⟩
def d_law_added : He.DefD := ⟨("_law_added", none), "_law_added", "_law_added", defArgs s_law_added, defBody s_law_added, defScope s_law_added, [], []⟩
def m_Graph_depend : MS := (sseq (sexpr (mmeth tb_require_tasks "require_tasks" (mvar 0) (mcons (mbin (gAdd false) (mtup (mcons (mvar 1) mnil)) (mvar 2)) mnil)))
    (sseq (sset 3 (mbin (gAdd false) (mbin gIx (mfld fld_links "links" (mvar 0)) (mvar 1)) (mlc false (miany (mvar 2)) (.nm 4) (mtb (mbin gNe (mvar 4) (mvar 1))) (mvar 4) [4])))
    (sseq (sasg (mtrim 0 (mmeth tb_in_order "in_order" (mvar 0) (mcons (mvar 3) mnil))) (gsub (mfld fld_links "links" (mvar 0)) (mvar 1) gSetI))
    snil)))
def r_Graph_depend : MF := varA 2 (runB 5 m_Graph_depend)
def e_Graph_depend : Env1 := ⟨[], [("in_order", tb_in_order), ("require_tasks", tb_require_tasks)], []⟩
def N_Graph_depend : List Str := [("self" : Str), ("task" : Str), ("others" : Str), ("wanted" : Str), ("other" : Str)]
def s_Graph_depend : Stmt := ((clsBody (top 14)).getD 10 (.Pass ⟨0, 0, 0, 0⟩))
theorem sem_Graph_depend : semB (gam g e_Graph_depend 2 N_Graph_depend (defScope s_Graph_depend)) (defBody s_Graph_depend) = m_Graph_depend := by kernel_rfl
theorem sc_Graph_depend : FnScope N_Graph_depend ([("self" : Str), ("task" : Str)] ++ [("others" : Str)]) (defScope s_Graph_depend) := ⟨rfl, rfl, rfl, by decide +kernel, rfl, by decide +kernel, by decide +kernel⟩
def d_Graph_depend : He.DefD := ⟨("Graph", some "depend"), "depend", "Graph.depend", defArgs s_Graph_depend, defBody s_Graph_depend, defScope s_Graph_depend, [], []⟩
def tb_depend : List (Str × MF) := [("Graph", r_Graph_depend)]
def m_law_depended : MS := (sseq (sif (mtb (mbin gEq (mfn gLen (mcons (mvar 2) mnil)) (mc (.int 0))))
    (sseq (sret (mmeth tb_depend "depend" (mvar 0) (mcons (mvar 1) mnil)))
    snil)
    snil)
    (sseq (sif (mtb (mbin gEq (mfn gLen (mcons (mvar 2) mnil)) (mc (.int 1))))
    (sseq (sret (mmeth tb_depend "depend" (mvar 0) (mcons (mvar 1) (mcons (mbin gIx (mvar 2) (mc (.int 0))) mnil))))
    snil)
    snil)
    (sseq (sret (mif (mtb (mbin gEq (mfn gLen (mcons (mvar 2) mnil)) (mc (.int 2)))) (mmeth tb_depend "depend" (mvar 0) (mcons (mvar 1) (mcons (mbin gIx (mvar 2) (mc (.int 0))) (mcons (mbin gIx (mvar 2) (mc (.int 1))) mnil)))) (mmeth tb_depend "depend" (mvar 0) (mcons (mvar 1) (mcons (mbin gIx (mvar 2) (mc (.int 0))) (mcons (mbin gIx (mvar 2) (mc (.int 1))) (mcons (mbin gIx (mvar 2) (mc (.int 2))) mnil)))))))
    snil)))
def r_law_depended : MF := posA 3 (runB 3 m_law_depended)
def e_law_depended : Env1 := ⟨[], [("depend", tb_depend)], []⟩
def N_law_depended : List Str := [("_law_graph" : Str), ("_law_task" : Str), ("_law_some" : Str)]
def s_law_depended : Stmt := (top 28)
theorem sem_law_depended : semB (gam g e_law_depended 3 N_law_depended (defScope s_law_depended)) (defBody s_law_depended) = m_law_depended := by kernel_rfl
theorem sc_law_depended : FnScope N_law_depended [("_law_graph" : Str), ("_law_task" : Str), ("_law_some" : Str)] (defScope s_law_depended) := ⟨rfl, rfl, rfl, by decide +kernel, rfl, by decide +kernel, by decide +kernel⟩
def d_law_depended : He.DefD := ⟨("_law_depended", none), "_law_depended", "_law_depended", defArgs s_law_depended, defBody s_law_depended, defScope s_law_depended, [], []⟩
def m_law_turn_right : MS := (sseq (sset 4 (mcall r_law_drawn (mcons (mvar 0) (mcons (mvar 2) mnil))))
    (sseq (sif (mor (mtb (mbin gEq (mvar 2) (mdnew false))) (mand (mtb (mbin gEq (mcall r_law_digit (mcons (mvar 0) (mcons (mc (.int 2)) mnil))) (mc (.int 0)))) (mtb (mbin gLt (mfn gLen (mcons (mvar 2) mnil)) (mfn gLen (mcons (mvar 3) mnil))))))
    (sseq (sset 5 (mbin gIx (mvar 3) (mfn gLen (mcons (mvar 2) mnil))))
    (sseq (sset 6 (mcall r_law_added (mcons (mvar 1) (mcons (mvar 5) (mcons (mvar 4) mnil)))))
    (sseq (sasg (mfn (gListA false) (mcons (mvar 4) mnil)) (gsub (mvar 2) (mvar 5) gSetI))
    snil)))
    (sseq (sset 5 (mcall r_law_pick (mcons (mvar 0) (mcons (mfn (gListA false) (mcons (mvar 2) mnil)) mnil))))
    (sseq (sset 6 (mcall r_law_depended (mcons (mvar 1) (mcons (mvar 5) (mcons (mvar 4) mnil)))))
    (sseq (sasg (mbin (gAdd false) (mbin gIx (mvar 2) (mvar 5)) (mlc false (miany (mvar 4)) (.nm 7) (mtb (mbin gNe (mvar 7) (mvar 5))) (mvar 7) [7])) (gsub (mvar 2) (mvar 5) gSetI))
    snil))))
    (sseq (sret (mandV (mbin gIs (mvar 6) (mc .non)) (mcall r_law_state_right (mcons (mvar 0) (mcons (mvar 1) (mcons (mvar 2) mnil))))))
    snil)))
def r_law_turn_right : MF := posA 4 (runT 0 8 m_law_turn_right)
def e_law_turn_right : Env1 := ⟨[("_law_state_right", r_law_state_right), ("_law_digit", r_law_digit), ("_law_added", r_law_added), ("_law_depended", r_law_depended), ("_law_pick", r_law_pick), ("_law_drawn", r_law_drawn)], [], []⟩
def N_law_turn_right : List Str := [("_law_pot_here" : Str), ("_law_graph" : Str), ("_law_needs" : Str), ("_law_names_here" : Str), ("_law_some" : Str), ("_law_task" : Str), ("_law_told" : Str), ("_law_other" : Str)]
def s_law_turn_right : Stmt := (top 31)
theorem sem_law_turn_right : semB (gam g e_law_turn_right 6 N_law_turn_right (defScope s_law_turn_right)) (defBody s_law_turn_right) = m_law_turn_right := by kernel_rfl
theorem sc_law_turn_right : FnScope N_law_turn_right [("_law_pot_here" : Str), ("_law_graph" : Str), ("_law_needs" : Str), ("_law_names_here" : Str)] (defScope s_law_turn_right) := ⟨rfl, rfl, rfl, by decide +kernel, rfl, by decide +kernel, by decide +kernel⟩
def d_law_turn_right : He.DefD := ⟨("_law_turn_right", none), "_law_turn_right", "_law_turn_right", defArgs s_law_turn_right, defBody s_law_turn_right, defScope s_law_turn_right, [], []⟩
def m_Graph___init__ : MS := (sseq (sfld fld_links "links" (mvar 0) (mdnew true))
    snil)
def r_Graph___init__ : MF := posA 1 (runB 1 m_Graph___init__)
def e_Graph___init__ : Env1 := ⟨[], [], []⟩
def N_Graph___init__ : List Str := [("self" : Str)]
def s_Graph___init__ : Stmt := ((clsBody (top 14)).getD 1 (.Pass ⟨0, 0, 0, 0⟩))
theorem sem_Graph___init__ : semB (gam g e_Graph___init__ 0 N_Graph___init__ (defScope s_Graph___init__)) (defBody s_Graph___init__) = m_Graph___init__ := by kernel_rfl
theorem sc_Graph___init__ : FnScope N_Graph___init__ [("self" : Str)] (defScope s_Graph___init__) := ⟨rfl, rfl, rfl, by decide +kernel, rfl, by decide +kernel, by decide +kernel⟩
def d_Graph___init__ : He.DefD := ⟨("Graph", some "__init__"), "__init__", "Graph.__init__", defArgs s_Graph___init__, defBody s_Graph___init__, defScope s_Graph___init__, [], []⟩
def m_law_names : MS := (sseq (sasg (mtup (mcons (mc (.str "abcdefghijklmnopqrstuvwxyz")) (mcons (mlst true mnil) mnil))) (gtup 2 (gcons (gname 3) (gcons (gname 4) gnil))))
    (sseq (sfor (mirng1 (mcons (mvar 1) mnil)) (gname 5)
    (sseq (sset 6 (mbm "str" gJoin (mc (.str "")) (mcons (mlc false (mirng1 (mcons (mbin gIx (mlst false (mcons (mc (.int 1)) (mcons (mc (.int 2)) (mcons (mc (.int 3)) (mcons (mc (.int 8)) mnil))))) (mcall r_law_digit (mcons (mvar 0) (mcons (mc (.int 4)) mnil)))) mnil)) (.nm 7) myes (mcall r_law_pick (mcons (mvar 0) (mcons (mvar 3) mnil))) [7]) mnil)))
    (sseq (sset 8 (mbin (gAdd false) (mlst false (mcons (mvar 6) mnil)) (mlc false (mizip (mcons (mbin (gMul false) (mvar 3) (mc (.int 2))) (mcons (mbin (gAdd false) (mun gRevS (mvar 3)) (mvar 3)) mnil))) (.tp [9, 10]) myes (mbin (gAdd false) (mbin (gAdd false) (mslice false (mvar 6) mnop (mpart (mc (.int 6)))) (mvar 9)) (mvar 10)) [9, 10])))
    (sseq (sexpr (mbm "list" gAppend (mvar 4) (mcons (mbin gIx (mlc false (miany (mvar 8)) (.nm 9) (mtb (mbin gNotIn (mvar 9) (mbin (gAdd false) (mvar 2) (mvar 4)))) (mvar 9) [9]) (mc (.int 0))) mnil)))
    snil))))
    (sseq (sret (mvar 4))
    snil)))
def r_law_names : MF := posA 3 (runT 0 11 m_law_names)
def e_law_names : Env1 := ⟨[("_law_digit", r_law_digit), ("_law_pick", r_law_pick)], [], []⟩
def N_law_names : List Str := [("_law_pot_here" : Str), ("_law_many" : Str), ("_law_used" : Str), ("_law_letters" : Str), ("_law_found" : Str), ("_law_turn" : Str), ("_law_name" : Str), ("_law_k" : Str), ("_law_some" : Str), ("_law_one" : Str), ("_law_other" : Str)]
def s_law_names : Stmt := (top 20)
theorem sem_law_names : semB (gam g e_law_names 2 N_law_names (defScope s_law_names)) (defBody s_law_names) = m_law_names := by kernel_rfl
theorem sc_law_names : FnScope N_law_names [("_law_pot_here" : Str), ("_law_many" : Str), ("_law_used" : Str)] (defScope s_law_names) := ⟨rfl, rfl, rfl, by decide +kernel, rfl, by decide +kernel, by decide +kernel⟩
def d_law_names : He.DefD := ⟨("_law_names", none), "_law_names", "_law_names", defArgs s_law_names, defBody s_law_names, defScope s_law_names, [], []⟩
def k_Graph : MF := mkA "Graph" r_Graph___init__
def m_law_right : MS := (sseq (sasg (mtup (mcons (mcall r_law_names (mcons (mvar 0) (mcons (mbin (gAdd false) (mc (.int 1)) (mcall r_law_digit (mcons (mvar 0) (mcons (mc (.int 9)) mnil)))) (mcons (mlst false mnil) mnil)))) (mcons (mdnew true) (mcons (mcall k_Graph mnil) mnil)))) (gtup 3 (gcons (gname 1) (gcons (gname 2) (gcons (gname 3) gnil)))))
    (sseq (sif (mnot (mtru gtru (mcall r_law_state_right (mcons (mvar 0) (mcons (mvar 3) (mcons (mvar 2) mnil))))))
    (sseq (sret (mc (.bl false)))
    snil)
    snil)
    (sseq (sret (mfn gAll (mcons (mlc false (mirng1 (mcons (mcall r_law_digit (mcons (mvar 0) (mcons (mc (.int 17)) mnil))) mnil)) (.nm 4) myes (mcall r_law_turn_right (mcons (mvar 0) (mcons (mvar 3) (mcons (mvar 2) (mcons (mvar 1) mnil))))) [4]) mnil)))
    snil)))
def r_law_right : MF := posA 1 (runT 0 5 m_law_right)
def e_law_right : Env1 := ⟨[("_law_digit", r_law_digit), ("_law_turn_right", r_law_turn_right), ("_law_state_right", r_law_state_right), ("Graph", k_Graph), ("_law_names", r_law_names)], [], []⟩
def N_law_right : List Str := [("_law_pot_here" : Str), ("_law_names_here" : Str), ("_law_needs" : Str), ("_law_graph" : Str), ("_law_turn" : Str)]
def s_law_right : Stmt := (top 32)
theorem sem_law_right : semB (gam g e_law_right 7 N_law_right (defScope s_law_right)) (defBody s_law_right) = m_law_right := by kernel_rfl
theorem sc_law_right : FnScope N_law_right [("_law_pot_here" : Str)] (defScope s_law_right) := ⟨rfl, rfl, rfl, by decide +kernel, rfl, by decide +kernel, by decide +kernel⟩
def d_law_right : He.DefD := ⟨("_law_right", none), "_law_right", "_law_right", defArgs s_law_right, defBody s_law_right, defScope s_law_right, [], []⟩
def m_law_pot : MS := (sseq (sset 2 (mif (mtb (mbin gLt (mvar 1) (mfn gLen (mcons (mvar 0) mnil)))) (mfn gAbs (mcons (mbin gIx (mvar 0) (mvar 1)) mnil)) (mc (.int 0))))
    (sseq (sret (mlst true (mcons (mfn gMax (mcons (mc (.int 0)) (mcons (mbin gSub (mvar 2) (mbin gPow (mc (.int 10)) (mc (.int 18)))) mnil))) (mcons (mbin gMod (mbin (gAdd false) (mbin (gAdd false) (mbin (gMul false) (mbin gMod (mvar 2) (mc (.int 2147483587))) (mc (.int 48271))) (mbin (gMul false) (mc (.int 60013)) (mvar 1))) (mc (.int 53))) (mc (.int 2147483647))) mnil))))
    snil))
def r_law_pot : MF := posA 2 (runT 1 3 m_law_pot)
def e_law_pot : Env1 := ⟨[], [], []⟩
def N_law_pot : List Str := [("_law_script" : Str), ("_law_k" : Str), ("_law_cell" : Str)]
def s_law_pot : Stmt := (top 16)
theorem sem_law_pot : semB (gam g e_law_pot 0 N_law_pot (defScope s_law_pot)) (defBody s_law_pot) = m_law_pot := by kernel_rfl
theorem sc_law_pot : FnScope N_law_pot [("_law_script" : Str), ("_law_k" : Str)] (defScope s_law_pot) := ⟨rfl, rfl, rfl, by decide +kernel, rfl, by decide +kernel, by decide +kernel⟩
def d_law_pot : He.DefD := ⟨("_law_pot", none), "_law_pot", "_law_pot", defArgs s_law_pot, defBody s_law_pot, defScope s_law_pot, [], []⟩
def m_law : MS := (sseq (sret (mfn gAll (mcons (mlc false (mirng1 (mcons (mfn gMax (mcons (mc (.int 1)) (mcons (mfn gMin (mcons (mfn gLen (mcons (mvar 0) mnil)) (mcons (mc (.int 3)) mnil))) mnil))) mnil)) (.nm 1) myes (mcall r_law_right (mcons (mcall r_law_pot (mcons (mvar 0) (mcons (mvar 1) mnil))) mnil)) [1]) mnil)))
    snil)
def r_law : MF := posA 1 (runT 0 2 m_law)
def e_law : Env1 := ⟨[("_law_right", r_law_right), ("_law_pot", r_law_pot)], [], []⟩
def N_law : List Str := [("_law_script" : Str), ("_law_k" : Str)]
def s_law : Stmt := (top 33)
theorem sem_law : semB (gam g e_law 8 N_law (defScope s_law)) (defBody s_law) = m_law := by kernel_rfl
theorem sc_law : FnScope N_law [("_law_script" : Str)] (defScope s_law) := ⟨rfl, rfl, rfl, by decide +kernel, rfl, by decide +kernel, by decide +kernel⟩
def d_law : He.DefD := ⟨("law", none), "law", "law", defArgs s_law, defBody s_law, defScope s_law, [], []⟩
def fn : List He.DefD := [d_law_digit, d_law_closure, d_law_group, d_law_groups, d_law_dependents, d_Graph_in_order, d_Graph_reached, d_Graph_has, d_Graph_require_tasks, d_Graph_dependents, d_law_dependents_told, d_Graph_closure, d_law_closure_told, d_law_pick, d_law_drawn, d_Graph_group, d_Graph_groups, d_Graph_tasks, d_Graph_direct, d_Graph_depends, d_Graph___len__, d_law_state_right, d_is_name, d_require_name, d_Graph_add_task, d_law_added, d_Graph_depend, d_law_depended, d_law_turn_right, d_Graph___init__, d_law_names, d_law_right, d_law_pot, d_law]
def fnames : List Str := [("_law_digit" : Str), ("_law_closure" : Str), ("_law_group" : Str), ("_law_groups" : Str), ("_law_dependents" : Str), ("_law_dependents_told" : Str), ("_law_closure_told" : Str), ("_law_pick" : Str), ("_law_drawn" : Str), ("_law_state_right" : Str), ("is_name" : Str), ("require_name" : Str), ("_law_added" : Str), ("_law_depended" : Str), ("_law_turn_right" : Str), ("_law_names" : Str), ("_law_right" : Str), ("_law_pot" : Str), ("law" : Str), ("Graph" : Str)]
def fa : List He.Fa := g.fa fnames cl
abbrev Rw : PySem.W.OpenRow := PySem.W.OpenLaw.row PySem.Challenge.rw_anyoutcome_k21_whole_closures_and_groups
abbrev hk : PySem.W.Hook := hookV 5 fa fn (lookB g)
def ob (s : PySem.W.SharedT) : AlV := obsVG 5 fa fn (lookB g) (HandSHeadRun.getT s)
theorem ob_eq (s : PySem.W.SharedT) : ob s = hk.obs s.abs := obsVG_eq (HandSHeadRun.getT_eq s)
def loose : List Str := [("_wall" : Str), ("OutcomeError" : Str), ("InvalidName" : Str), ("UnknownTask" : Str), ("NameTaken" : Str), ("TooMany" : Str), ("LETTERS" : Str), ("MOST_LETTERS" : Str), ("is_name" : Str), ("require_name" : Str), ("word_of" : Str), ("Graph" : Str), ("_law_pot" : Str), ("_law_digit" : Str), ("_law_pick" : Str), ("_law_mixed" : Str), ("_law_names" : Str), ("_law_closure" : Str), ("_law_closure_told" : Str), ("_law_dependents_told" : Str), ("_law_dependents" : Str), ("_law_group" : Str), ("_law_groups" : Str), ("_law_added" : Str), ("_law_depended" : Str), ("_law_drawn" : Str), ("_law_state_right" : Str), ("_law_turn_right" : Str), ("_law_right" : Str)]
theorem run (w : World) : HandSHeadRun.RunEq Rw (PySem.W.view Rw.prog [33]) hk ob 4000 loose w := by
  intro os
  kernel_rfl
theorem facts {w : World} {K : PySem.W.Frag} {h : Heap} {mg : Str → Option Value} {f : Addr} (X : K.In h) (G : h.Ns mainGlobals mg) (hfa : mg ("law" : Str) = some (.ref f)) (c : SaysV fa fn (lookB g) K) :
    ∀ base : Heap, K.In base → base.Ns mainGlobals mg → FnA PySem.Challenge.pw_anyoutcome_k21_whole_closures_and_groups w K mg base 9 f r_law := by
  have G0 : G0Ok g cl K mg := g0_of c c.ex (by decide +kernel) (by decide +kernel) X G
  have gl : ∀ x ∈ fnames, mg x = some (.ref (He.ga K x)) := fun x hx => He.glo_ok X G (c.fact _ (List.mem_append_left _ (List.mem_map_of_mem hx)))
  obtain ⟨fd0, F0⟩ := c.def_ 0 d_law_digit rfl
  obtain ⟨fd1, F1⟩ := c.def_ 1 d_law_closure rfl
  obtain ⟨fd2, F2⟩ := c.def_ 2 d_law_group rfl
  obtain ⟨fd3, F3⟩ := c.def_ 3 d_law_groups rfl
  obtain ⟨fd4, F4⟩ := c.def_ 4 d_law_dependents rfl
  obtain ⟨fd5, F5⟩ := c.def_ 5 d_Graph_in_order rfl
  obtain ⟨fd6, F6⟩ := c.def_ 6 d_Graph_reached rfl
  obtain ⟨fd7, F7⟩ := c.def_ 7 d_Graph_has rfl
  obtain ⟨fd8, F8⟩ := c.def_ 8 d_Graph_require_tasks rfl
  obtain ⟨fd9, F9⟩ := c.def_ 9 d_Graph_dependents rfl
  obtain ⟨fd10, F10⟩ := c.def_ 10 d_law_dependents_told rfl
  obtain ⟨fd11, F11⟩ := c.def_ 11 d_Graph_closure rfl
  obtain ⟨fd12, F12⟩ := c.def_ 12 d_law_closure_told rfl
  obtain ⟨fd13, F13⟩ := c.def_ 13 d_law_pick rfl
  obtain ⟨fd14, F14⟩ := c.def_ 14 d_law_drawn rfl
  obtain ⟨fd15, F15⟩ := c.def_ 15 d_Graph_group rfl
  obtain ⟨fd16, F16⟩ := c.def_ 16 d_Graph_groups rfl
  obtain ⟨fd17, F17⟩ := c.def_ 17 d_Graph_tasks rfl
  obtain ⟨fd18, F18⟩ := c.def_ 18 d_Graph_direct rfl
  obtain ⟨fd19, F19⟩ := c.def_ 19 d_Graph_depends rfl
  obtain ⟨fd20, F20⟩ := c.def_ 20 d_Graph___len__ rfl
  obtain ⟨fd21, F21⟩ := c.def_ 21 d_law_state_right rfl
  obtain ⟨fd22, F22⟩ := c.def_ 22 d_is_name rfl
  obtain ⟨fd23, F23⟩ := c.def_ 23 d_require_name rfl
  obtain ⟨fd24, F24⟩ := c.def_ 24 d_Graph_add_task rfl
  obtain ⟨fd25, F25⟩ := c.def_ 25 d_law_added rfl
  obtain ⟨fd26, F26⟩ := c.def_ 26 d_Graph_depend rfl
  obtain ⟨fd27, F27⟩ := c.def_ 27 d_law_depended rfl
  obtain ⟨fd28, F28⟩ := c.def_ 28 d_law_turn_right rfl
  obtain ⟨fd29, F29⟩ := c.def_ 29 d_Graph___init__ rfl
  obtain ⟨fd30, F30⟩ := c.def_ 30 d_law_names rfl
  obtain ⟨fd31, F31⟩ := c.def_ 31 d_law_right rfl
  obtain ⟨fd32, F32⟩ := c.def_ 32 d_law_pot rfl
  obtain ⟨fd33, F33⟩ := c.def_ 33 d_law rfl
  have e := hfa.symm.trans (gl _ (by decide +kernel))
  cases e
  intro base KB _
  have E0 : EnvOk PySem.Challenge.pw_anyoutcome_k21_whole_closures_and_groups w K mg base 0 e_law_digit := ⟨fns_nil, mets_nil, spe_nil⟩
  have A0 : FnA PySem.Challenge.pw_anyoutcome_k21_whole_closures_and_groups w K mg base 1 _ r_law_digit := step_pos 0 G0 E0 xtab_nil KB F0 sc_law_digit sem_law_digit fun _ _ _ _ _ _ us hl => match us, hl with | [_, _], _ => rfl
  have E1 : EnvOk PySem.Challenge.pw_anyoutcome_k21_whole_closures_and_groups w K mg base 0 e_law_closure := ⟨fns_nil, mets_nil, spe_nil⟩
  have A1 : FnA PySem.Challenge.pw_anyoutcome_k21_whole_closures_and_groups w K mg base 1 _ r_law_closure := step_pos 0 G0 E1 xtab_nil KB F1 sc_law_closure sem_law_closure fun _ _ _ _ _ _ us hl => match us, hl with | [_, _], _ => rfl
  have E2 : EnvOk PySem.Challenge.pw_anyoutcome_k21_whole_closures_and_groups w K mg base 1 e_law_group := ⟨fns_cons (gl _ (by decide +kernel)) (cal_fn F1 A1) (by decide) (fns_nil), mets_nil, spe_nil⟩
  have A2 : FnA PySem.Challenge.pw_anyoutcome_k21_whole_closures_and_groups w K mg base 2 _ r_law_group := step_pos 0 G0 E2 xtab_nil KB F2 sc_law_group sem_law_group fun _ _ _ _ _ _ us hl => match us, hl with | [_, _], _ => rfl
  have E3 : EnvOk PySem.Challenge.pw_anyoutcome_k21_whole_closures_and_groups w K mg base 2 e_law_groups := ⟨fns_cons (gl _ (by decide +kernel)) (cal_fn F2 A2) (by decide) (fns_nil), mets_nil, spe_nil⟩
  have A3 : FnA PySem.Challenge.pw_anyoutcome_k21_whole_closures_and_groups w K mg base 3 _ r_law_groups := step_pos 0 G0 E3 xtab_nil KB F3 sc_law_groups sem_law_groups fun _ _ _ _ _ _ us hl => match us, hl with | [_], _ => rfl
  have E4 : EnvOk PySem.Challenge.pw_anyoutcome_k21_whole_closures_and_groups w K mg base 1 e_law_dependents := ⟨fns_cons (gl _ (by decide +kernel)) (cal_fn F1 A1) (by decide) (fns_nil), mets_nil, spe_nil⟩
  have A4 : FnA PySem.Challenge.pw_anyoutcome_k21_whole_closures_and_groups w K mg base 2 _ r_law_dependents := step_pos 0 G0 E4 xtab_nil KB F4 sc_law_dependents sem_law_dependents fun _ _ _ _ _ _ us hl => match us, hl with | [_, _], _ => rfl
  have E5 : EnvOk PySem.Challenge.pw_anyoutcome_k21_whole_closures_and_groups w K mg base 0 e_Graph_in_order := ⟨fns_nil, mets_nil, spe_nil⟩
  have A5 : FnA PySem.Challenge.pw_anyoutcome_k21_whole_closures_and_groups w K mg base 1 _ r_Graph_in_order := step_pos 1 G0 E5 xtab_nil KB F5 sc_Graph_in_order sem_Graph_in_order fun _ _ _ _ _ _ us hl => match us, hl with | [_, _], _ => rfl
  have E6 : EnvOk PySem.Challenge.pw_anyoutcome_k21_whole_closures_and_groups w K mg base 1 e_Graph_reached := ⟨fns_nil, mets_cons (met_cons (met_of (c := "Graph") (n := "in_order") (ms := [("in_order" : Str), ("has" : Str), ("reached" : Str), ("require_tasks" : Str), ("dependents" : Str), ("closure" : Str), ("group" : Str), ("groups" : Str), ("tasks" : Str), ("direct" : Str), ("depends" : Str), ("__len__" : Str), ("add_task" : Str), ("depend" : Str)]) G0 (by decide +kernel) (by decide +kernel) A5) (by decide) (met_nil)) (mets_nil), spe_nil⟩
  have A6 : FnA PySem.Challenge.pw_anyoutcome_k21_whole_closures_and_groups w K mg base 2 _ r_Graph_reached := step_pos 1 G0 E6 xtab_nil KB F6 sc_Graph_reached sem_Graph_reached fun _ _ _ _ _ _ us hl => match us, hl with | [_, _, _], _ => rfl
  have E7 : EnvOk PySem.Challenge.pw_anyoutcome_k21_whole_closures_and_groups w K mg base 0 e_Graph_has := ⟨fns_nil, mets_nil, spe_nil⟩
  have A7 : FnA PySem.Challenge.pw_anyoutcome_k21_whole_closures_and_groups w K mg base 1 _ r_Graph_has := step_pos 0 G0 E7 xtab_nil KB F7 sc_Graph_has sem_Graph_has fun _ _ _ _ _ _ us hl => match us, hl with | [_, _], _ => rfl
  have E8 : EnvOk PySem.Challenge.pw_anyoutcome_k21_whole_closures_and_groups w K mg base 1 e_Graph_require_tasks := ⟨fns_nil, mets_cons (met_cons (met_of (c := "Graph") (n := "has") (ms := [("in_order" : Str), ("has" : Str), ("reached" : Str), ("require_tasks" : Str), ("dependents" : Str), ("closure" : Str), ("group" : Str), ("groups" : Str), ("tasks" : Str), ("direct" : Str), ("depends" : Str), ("__len__" : Str), ("add_task" : Str), ("depend" : Str)]) G0 (by decide +kernel) (by decide +kernel) A7) (by decide) (met_nil)) (mets_nil), spe_nil⟩
  have A8 : FnA PySem.Challenge.pw_anyoutcome_k21_whole_closures_and_groups w K mg base 2 _ r_Graph_require_tasks := step_pos 0 G0 E8 xtab_nil KB F8 sc_Graph_require_tasks sem_Graph_require_tasks fun _ _ _ _ _ _ us hl => match us, hl with | [_, _], _ => rfl
  have E9 : EnvOk PySem.Challenge.pw_anyoutcome_k21_whole_closures_and_groups w K mg base 2 e_Graph_dependents := ⟨fns_nil, mets_cons (met_cons (met_of (c := "Graph") (n := "reached") (ms := [("in_order" : Str), ("has" : Str), ("reached" : Str), ("require_tasks" : Str), ("dependents" : Str), ("closure" : Str), ("group" : Str), ("groups" : Str), ("tasks" : Str), ("direct" : Str), ("depends" : Str), ("__len__" : Str), ("add_task" : Str), ("depend" : Str)]) G0 (by decide +kernel) (by decide +kernel) A6) (by decide) (met_nil)) (mets_cons (met_cons (met_of (c := "Graph") (n := "require_tasks") (ms := [("in_order" : Str), ("has" : Str), ("reached" : Str), ("require_tasks" : Str), ("dependents" : Str), ("closure" : Str), ("group" : Str), ("groups" : Str), ("tasks" : Str), ("direct" : Str), ("depends" : Str), ("__len__" : Str), ("add_task" : Str), ("depend" : Str)]) G0 (by decide +kernel) (by decide +kernel) A8) (by decide) (met_nil)) (mets_nil)), spe_nil⟩
  have A9 : FnA PySem.Challenge.pw_anyoutcome_k21_whole_closures_and_groups w K mg base 3 _ r_Graph_dependents := step_var 1 G0 E9 xtab_nil KB F9 sc_Graph_dependents sem_Graph_dependents fun _ _ _ _ _ _ => star1 (fun _ => rfl) (fun _ _ _ => rfl)
  have E10 : EnvOk PySem.Challenge.pw_anyoutcome_k21_whole_closures_and_groups w K mg base 3 e_law_dependents_told := ⟨fns_nil, mets_cons (met_cons (met_of (c := "Graph") (n := "dependents") (ms := [("in_order" : Str), ("has" : Str), ("reached" : Str), ("require_tasks" : Str), ("dependents" : Str), ("closure" : Str), ("group" : Str), ("groups" : Str), ("tasks" : Str), ("direct" : Str), ("depends" : Str), ("__len__" : Str), ("add_task" : Str), ("depend" : Str)]) G0 (by decide +kernel) (by decide +kernel) A9) (by decide) (met_nil)) (mets_nil), spe_nil⟩
  have A10 : FnA PySem.Challenge.pw_anyoutcome_k21_whole_closures_and_groups w K mg base 4 _ r_law_dependents_told := step_pos 1 G0 E10 xtab_nil KB F10 sc_law_dependents_told sem_law_dependents_told fun _ _ _ _ _ _ us hl => match us, hl with | [_, _], _ => rfl
  have E11 : EnvOk PySem.Challenge.pw_anyoutcome_k21_whole_closures_and_groups w K mg base 2 e_Graph_closure := ⟨fns_nil, mets_cons (met_cons (met_of (c := "Graph") (n := "reached") (ms := [("in_order" : Str), ("has" : Str), ("reached" : Str), ("require_tasks" : Str), ("dependents" : Str), ("closure" : Str), ("group" : Str), ("groups" : Str), ("tasks" : Str), ("direct" : Str), ("depends" : Str), ("__len__" : Str), ("add_task" : Str), ("depend" : Str)]) G0 (by decide +kernel) (by decide +kernel) A6) (by decide) (met_nil)) (mets_cons (met_cons (met_of (c := "Graph") (n := "require_tasks") (ms := [("in_order" : Str), ("has" : Str), ("reached" : Str), ("require_tasks" : Str), ("dependents" : Str), ("closure" : Str), ("group" : Str), ("groups" : Str), ("tasks" : Str), ("direct" : Str), ("depends" : Str), ("__len__" : Str), ("add_task" : Str), ("depend" : Str)]) G0 (by decide +kernel) (by decide +kernel) A8) (by decide) (met_nil)) (mets_nil)), spe_nil⟩
  have A11 : FnA PySem.Challenge.pw_anyoutcome_k21_whole_closures_and_groups w K mg base 3 _ r_Graph_closure := step_var 1 G0 E11 xtab_nil KB F11 sc_Graph_closure sem_Graph_closure fun _ _ _ _ _ _ => star1 (fun _ => rfl) (fun _ _ _ => rfl)
  have E12 : EnvOk PySem.Challenge.pw_anyoutcome_k21_whole_closures_and_groups w K mg base 3 e_law_closure_told := ⟨fns_nil, mets_cons (met_cons (met_of (c := "Graph") (n := "closure") (ms := [("in_order" : Str), ("has" : Str), ("reached" : Str), ("require_tasks" : Str), ("dependents" : Str), ("closure" : Str), ("group" : Str), ("groups" : Str), ("tasks" : Str), ("direct" : Str), ("depends" : Str), ("__len__" : Str), ("add_task" : Str), ("depend" : Str)]) G0 (by decide +kernel) (by decide +kernel) A11) (by decide) (met_nil)) (mets_nil), spe_nil⟩
  have A12 : FnA PySem.Challenge.pw_anyoutcome_k21_whole_closures_and_groups w K mg base 4 _ r_law_closure_told := step_pos 1 G0 E12 xtab_nil KB F12 sc_law_closure_told sem_law_closure_told fun _ _ _ _ _ _ us hl => match us, hl with | [_, _], _ => rfl
  have E13 : EnvOk PySem.Challenge.pw_anyoutcome_k21_whole_closures_and_groups w K mg base 1 e_law_pick := ⟨fns_cons (gl _ (by decide +kernel)) (cal_fn F0 A0) (by decide) (fns_nil), mets_nil, spe_nil⟩
  have A13 : FnA PySem.Challenge.pw_anyoutcome_k21_whole_closures_and_groups w K mg base 2 _ r_law_pick := step_pos 0 G0 E13 xtab_nil KB F13 sc_law_pick sem_law_pick fun _ _ _ _ _ _ us hl => match us, hl with | [_, _], _ => rfl
  have E14 : EnvOk PySem.Challenge.pw_anyoutcome_k21_whole_closures_and_groups w K mg base 2 e_law_drawn := ⟨fns_cons (gl _ (by decide +kernel)) (cal_fn F0 A0) (by decide) (fns_cons (gl _ (by decide +kernel)) (cal_fn F13 A13) (by decide) (fns_nil)), mets_nil, spe_nil⟩
  have A14 : FnA PySem.Challenge.pw_anyoutcome_k21_whole_closures_and_groups w K mg base 3 _ r_law_drawn := step_pos 0 G0 E14 xtab_nil KB F14 sc_law_drawn sem_law_drawn fun _ _ _ _ _ _ us hl => match us, hl with | [_, _], _ => rfl
  have E15 : EnvOk PySem.Challenge.pw_anyoutcome_k21_whole_closures_and_groups w K mg base 3 e_Graph_group := ⟨fns_nil, mets_cons (met_cons (met_of (c := "Graph") (n := "closure") (ms := [("in_order" : Str), ("has" : Str), ("reached" : Str), ("require_tasks" : Str), ("dependents" : Str), ("closure" : Str), ("group" : Str), ("groups" : Str), ("tasks" : Str), ("direct" : Str), ("depends" : Str), ("__len__" : Str), ("add_task" : Str), ("depend" : Str)]) G0 (by decide +kernel) (by decide +kernel) A11) (by decide) (met_nil)) (mets_cons (met_cons (met_of (c := "Graph") (n := "dependents") (ms := [("in_order" : Str), ("has" : Str), ("reached" : Str), ("require_tasks" : Str), ("dependents" : Str), ("closure" : Str), ("group" : Str), ("groups" : Str), ("tasks" : Str), ("direct" : Str), ("depends" : Str), ("__len__" : Str), ("add_task" : Str), ("depend" : Str)]) G0 (by decide +kernel) (by decide +kernel) A9) (by decide) (met_nil)) (mets_nil)), spe_nil⟩
  have A15 : FnA PySem.Challenge.pw_anyoutcome_k21_whole_closures_and_groups w K mg base 4 _ r_Graph_group := step_pos 1 G0 E15 xtab_nil KB F15 sc_Graph_group sem_Graph_group fun _ _ _ _ _ _ us hl => match us, hl with | [_, _], _ => rfl
  have E16 : EnvOk PySem.Challenge.pw_anyoutcome_k21_whole_closures_and_groups w K mg base 4 e_Graph_groups := ⟨fns_nil, mets_cons (met_cons (met_of (c := "Graph") (n := "group") (ms := [("in_order" : Str), ("has" : Str), ("reached" : Str), ("require_tasks" : Str), ("dependents" : Str), ("closure" : Str), ("group" : Str), ("groups" : Str), ("tasks" : Str), ("direct" : Str), ("depends" : Str), ("__len__" : Str), ("add_task" : Str), ("depend" : Str)]) G0 (by decide +kernel) (by decide +kernel) A15) (by decide) (met_nil)) (mets_nil), spe_nil⟩
  have A16 : FnA PySem.Challenge.pw_anyoutcome_k21_whole_closures_and_groups w K mg base 5 _ r_Graph_groups := step_pos 2 G0 E16 xtab_nil KB F16 sc_Graph_groups sem_Graph_groups fun _ _ _ _ _ _ us hl => match us, hl with | [_], _ => rfl
  have E17 : EnvOk PySem.Challenge.pw_anyoutcome_k21_whole_closures_and_groups w K mg base 0 e_Graph_tasks := ⟨fns_nil, mets_nil, spe_nil⟩
  have A17 : FnA PySem.Challenge.pw_anyoutcome_k21_whole_closures_and_groups w K mg base 1 _ r_Graph_tasks := step_pos 1 G0 E17 xtab_nil KB F17 sc_Graph_tasks sem_Graph_tasks fun _ _ _ _ _ _ us hl => match us, hl with | [_], _ => rfl
  have E18 : EnvOk PySem.Challenge.pw_anyoutcome_k21_whole_closures_and_groups w K mg base 2 e_Graph_direct := ⟨fns_nil, mets_cons (met_cons (met_of (c := "Graph") (n := "require_tasks") (ms := [("in_order" : Str), ("has" : Str), ("reached" : Str), ("require_tasks" : Str), ("dependents" : Str), ("closure" : Str), ("group" : Str), ("groups" : Str), ("tasks" : Str), ("direct" : Str), ("depends" : Str), ("__len__" : Str), ("add_task" : Str), ("depend" : Str)]) G0 (by decide +kernel) (by decide +kernel) A8) (by decide) (met_nil)) (mets_nil), spe_nil⟩
  have A18 : FnA PySem.Challenge.pw_anyoutcome_k21_whole_closures_and_groups w K mg base 3 _ r_Graph_direct := step_pos 1 G0 E18 xtab_nil KB F18 sc_Graph_direct sem_Graph_direct fun _ _ _ _ _ _ us hl => match us, hl with | [_, _], _ => rfl
  have E19 : EnvOk PySem.Challenge.pw_anyoutcome_k21_whole_closures_and_groups w K mg base 3 e_Graph_depends := ⟨fns_nil, mets_cons (met_cons (met_of (c := "Graph") (n := "closure") (ms := [("in_order" : Str), ("has" : Str), ("reached" : Str), ("require_tasks" : Str), ("dependents" : Str), ("closure" : Str), ("group" : Str), ("groups" : Str), ("tasks" : Str), ("direct" : Str), ("depends" : Str), ("__len__" : Str), ("add_task" : Str), ("depend" : Str)]) G0 (by decide +kernel) (by decide +kernel) A11) (by decide) (met_nil)) (mets_cons (met_cons (met_of (c := "Graph") (n := "require_tasks") (ms := [("in_order" : Str), ("has" : Str), ("reached" : Str), ("require_tasks" : Str), ("dependents" : Str), ("closure" : Str), ("group" : Str), ("groups" : Str), ("tasks" : Str), ("direct" : Str), ("depends" : Str), ("__len__" : Str), ("add_task" : Str), ("depend" : Str)]) G0 (by decide +kernel) (by decide +kernel) A8) (by decide) (met_nil)) (mets_nil)), spe_nil⟩
  have A19 : FnA PySem.Challenge.pw_anyoutcome_k21_whole_closures_and_groups w K mg base 4 _ r_Graph_depends := step_pos 0 G0 E19 xtab_nil KB F19 sc_Graph_depends sem_Graph_depends fun _ _ _ _ _ _ us hl => match us, hl with | [_, _, _], _ => rfl
  have E20 : EnvOk PySem.Challenge.pw_anyoutcome_k21_whole_closures_and_groups w K mg base 0 e_Graph___len__ := ⟨fns_nil, mets_nil, spe_nil⟩
  have A20 : FnA PySem.Challenge.pw_anyoutcome_k21_whole_closures_and_groups w K mg base 1 _ r_Graph___len__ := step_pos 0 G0 E20 xtab_nil KB F20 sc_Graph___len__ sem_Graph___len__ fun _ _ _ _ _ _ us hl => match us, hl with | [_], _ => rfl
  have E21 : EnvOk PySem.Challenge.pw_anyoutcome_k21_whole_closures_and_groups w K mg base 5 e_law_state_right := ⟨fns_cons (gl _ (by decide +kernel)) (cal_fn F3 A3) (by decide) (fns_cons (gl _ (by decide +kernel)) (cal_fn F4 A4) (by decide) (fns_cons (gl _ (by decide +kernel)) (cal_fn F1 A1) (by decide) (fns_cons (gl _ (by decide +kernel)) (cal_fn F10 A10) (by decide) (fns_cons (gl _ (by decide +kernel)) (cal_fn F12 A12) (by decide) (fns_cons (gl _ (by decide +kernel)) (cal_fn F14 A14) (by decide) (fns_cons (gl _ (by decide +kernel)) (cal_fn F2 A2) (by decide) (fns_nil))))))), mets_cons (met_cons (met_of (c := "Graph") (n := "groups") (ms := [("in_order" : Str), ("has" : Str), ("reached" : Str), ("require_tasks" : Str), ("dependents" : Str), ("closure" : Str), ("group" : Str), ("groups" : Str), ("tasks" : Str), ("direct" : Str), ("depends" : Str), ("__len__" : Str), ("add_task" : Str), ("depend" : Str)]) G0 (by decide +kernel) (by decide +kernel) A16) (by decide) (met_nil)) (mets_cons (met_cons (met_of (c := "Graph") (n := "tasks") (ms := [("in_order" : Str), ("has" : Str), ("reached" : Str), ("require_tasks" : Str), ("dependents" : Str), ("closure" : Str), ("group" : Str), ("groups" : Str), ("tasks" : Str), ("direct" : Str), ("depends" : Str), ("__len__" : Str), ("add_task" : Str), ("depend" : Str)]) G0 (by decide +kernel) (by decide +kernel) A17) (by decide) (met_nil)) (mets_cons (met_cons (met_of (c := "Graph") (n := "direct") (ms := [("in_order" : Str), ("has" : Str), ("reached" : Str), ("require_tasks" : Str), ("dependents" : Str), ("closure" : Str), ("group" : Str), ("groups" : Str), ("tasks" : Str), ("direct" : Str), ("depends" : Str), ("__len__" : Str), ("add_task" : Str), ("depend" : Str)]) G0 (by decide +kernel) (by decide +kernel) A18) (by decide) (met_nil)) (mets_cons (met_cons (met_of (c := "Graph") (n := "depends") (ms := [("in_order" : Str), ("has" : Str), ("reached" : Str), ("require_tasks" : Str), ("dependents" : Str), ("closure" : Str), ("group" : Str), ("groups" : Str), ("tasks" : Str), ("direct" : Str), ("depends" : Str), ("__len__" : Str), ("add_task" : Str), ("depend" : Str)]) G0 (by decide +kernel) (by decide +kernel) A19) (by decide) (met_nil)) (mets_cons (met_cons (met_of (c := "Graph") (n := "group") (ms := [("in_order" : Str), ("has" : Str), ("reached" : Str), ("require_tasks" : Str), ("dependents" : Str), ("closure" : Str), ("group" : Str), ("groups" : Str), ("tasks" : Str), ("direct" : Str), ("depends" : Str), ("__len__" : Str), ("add_task" : Str), ("depend" : Str)]) G0 (by decide +kernel) (by decide +kernel) A15) (by decide) (met_nil)) (mets_nil))))), spe_one (met_of (c := "Graph") (n := "__len__") (ms := [("in_order" : Str), ("has" : Str), ("reached" : Str), ("require_tasks" : Str), ("dependents" : Str), ("closure" : Str), ("group" : Str), ("groups" : Str), ("tasks" : Str), ("direct" : Str), ("depends" : Str), ("__len__" : Str), ("add_task" : Str), ("depend" : Str)]) G0 (by decide +kernel) (by decide +kernel) A20) (by decide) (spe_nil)⟩
  have A21 : FnA PySem.Challenge.pw_anyoutcome_k21_whole_closures_and_groups w K mg base 6 _ r_law_state_right := step_pos 0 G0 E21 xtab_nil KB F21 sc_law_state_right sem_law_state_right fun _ _ _ _ _ _ us hl => match us, hl with | [_, _, _], _ => rfl
  have E22 : EnvOk PySem.Challenge.pw_anyoutcome_k21_whole_closures_and_groups w K mg base 0 e_is_name := ⟨fns_nil, mets_nil, spe_nil⟩
  have A22 : FnA PySem.Challenge.pw_anyoutcome_k21_whole_closures_and_groups w K mg base 1 _ r_is_name := step_pos 0 G0 E22 xtab_nil KB F22 sc_is_name sem_is_name fun _ _ _ _ _ _ us hl => match us, hl with | [_], _ => rfl
  have E23 : EnvOk PySem.Challenge.pw_anyoutcome_k21_whole_closures_and_groups w K mg base 1 e_require_name := ⟨fns_cons (gl _ (by decide +kernel)) (cal_fn F22 A22) (by decide) (fns_nil), mets_nil, spe_nil⟩
  have A23 : FnA PySem.Challenge.pw_anyoutcome_k21_whole_closures_and_groups w K mg base 2 _ r_require_name := step_pos 0 G0 E23 xtab_nil KB F23 sc_require_name sem_require_name fun _ _ _ _ _ _ us hl => match us, hl with | [_], _ => rfl
  have E24 : EnvOk PySem.Challenge.pw_anyoutcome_k21_whole_closures_and_groups w K mg base 2 e_Graph_add_task := ⟨fns_cons (gl _ (by decide +kernel)) (cal_fn F23 A23) (by decide) (fns_nil), mets_cons (met_cons (met_of (c := "Graph") (n := "in_order") (ms := [("in_order" : Str), ("has" : Str), ("reached" : Str), ("require_tasks" : Str), ("dependents" : Str), ("closure" : Str), ("group" : Str), ("groups" : Str), ("tasks" : Str), ("direct" : Str), ("depends" : Str), ("__len__" : Str), ("add_task" : Str), ("depend" : Str)]) G0 (by decide +kernel) (by decide +kernel) A5) (by decide) (met_nil)) (mets_cons (met_cons (met_of (c := "Graph") (n := "require_tasks") (ms := [("in_order" : Str), ("has" : Str), ("reached" : Str), ("require_tasks" : Str), ("dependents" : Str), ("closure" : Str), ("group" : Str), ("groups" : Str), ("tasks" : Str), ("direct" : Str), ("depends" : Str), ("__len__" : Str), ("add_task" : Str), ("depend" : Str)]) G0 (by decide +kernel) (by decide +kernel) A8) (by decide) (met_nil)) (mets_nil)), spe_nil⟩
  have A24 : FnA PySem.Challenge.pw_anyoutcome_k21_whole_closures_and_groups w K mg base 3 _ r_Graph_add_task := step_var0 G0 E24 xtab_nil KB F24 sc_Graph_add_task sem_Graph_add_task fun _ _ _ _ _ _ => star2 (fun _ _ => rfl) (fun _ _ _ _ => rfl)
  have E25 : EnvOk PySem.Challenge.pw_anyoutcome_k21_whole_closures_and_groups w K mg base 3 e_law_added := ⟨fns_nil, mets_cons (met_cons (met_of (c := "Graph") (n := "add_task") (ms := [("in_order" : Str), ("has" : Str), ("reached" : Str), ("require_tasks" : Str), ("dependents" : Str), ("closure" : Str), ("group" : Str), ("groups" : Str), ("tasks" : Str), ("direct" : Str), ("depends" : Str), ("__len__" : Str), ("add_task" : Str), ("depend" : Str)]) G0 (by decide +kernel) (by decide +kernel) A24) (by decide) (met_nil)) (mets_nil), spe_nil⟩
  have A25 : FnA PySem.Challenge.pw_anyoutcome_k21_whole_closures_and_groups w K mg base 4 _ r_law_added := step_pos0 G0 E25 xtab_nil KB F25 sc_law_added sem_law_added fun _ _ _ _ _ _ us hl => match us, hl with | [_, _, _], _ => rfl
  have E26 : EnvOk PySem.Challenge.pw_anyoutcome_k21_whole_closures_and_groups w K mg base 2 e_Graph_depend := ⟨fns_nil, mets_cons (met_cons (met_of (c := "Graph") (n := "in_order") (ms := [("in_order" : Str), ("has" : Str), ("reached" : Str), ("require_tasks" : Str), ("dependents" : Str), ("closure" : Str), ("group" : Str), ("groups" : Str), ("tasks" : Str), ("direct" : Str), ("depends" : Str), ("__len__" : Str), ("add_task" : Str), ("depend" : Str)]) G0 (by decide +kernel) (by decide +kernel) A5) (by decide) (met_nil)) (mets_cons (met_cons (met_of (c := "Graph") (n := "require_tasks") (ms := [("in_order" : Str), ("has" : Str), ("reached" : Str), ("require_tasks" : Str), ("dependents" : Str), ("closure" : Str), ("group" : Str), ("groups" : Str), ("tasks" : Str), ("direct" : Str), ("depends" : Str), ("__len__" : Str), ("add_task" : Str), ("depend" : Str)]) G0 (by decide +kernel) (by decide +kernel) A8) (by decide) (met_nil)) (mets_nil)), spe_nil⟩
  have A26 : FnA PySem.Challenge.pw_anyoutcome_k21_whole_closures_and_groups w K mg base 3 _ r_Graph_depend := step_var0 G0 E26 xtab_nil KB F26 sc_Graph_depend sem_Graph_depend fun _ _ _ _ _ _ => star2 (fun _ _ => rfl) (fun _ _ _ _ => rfl)
  have E27 : EnvOk PySem.Challenge.pw_anyoutcome_k21_whole_closures_and_groups w K mg base 3 e_law_depended := ⟨fns_nil, mets_cons (met_cons (met_of (c := "Graph") (n := "depend") (ms := [("in_order" : Str), ("has" : Str), ("reached" : Str), ("require_tasks" : Str), ("dependents" : Str), ("closure" : Str), ("group" : Str), ("groups" : Str), ("tasks" : Str), ("direct" : Str), ("depends" : Str), ("__len__" : Str), ("add_task" : Str), ("depend" : Str)]) G0 (by decide +kernel) (by decide +kernel) A26) (by decide) (met_nil)) (mets_nil), spe_nil⟩
  have A27 : FnA PySem.Challenge.pw_anyoutcome_k21_whole_closures_and_groups w K mg base 4 _ r_law_depended := step_pos0 G0 E27 xtab_nil KB F27 sc_law_depended sem_law_depended fun _ _ _ _ _ _ us hl => match us, hl with | [_, _, _], _ => rfl
  have E28 : EnvOk PySem.Challenge.pw_anyoutcome_k21_whole_closures_and_groups w K mg base 6 e_law_turn_right := ⟨fns_cons (gl _ (by decide +kernel)) (cal_fn F21 A21) (by decide) (fns_cons (gl _ (by decide +kernel)) (cal_fn F0 A0) (by decide) (fns_cons (gl _ (by decide +kernel)) (cal_fn F25 A25) (by decide) (fns_cons (gl _ (by decide +kernel)) (cal_fn F27 A27) (by decide) (fns_cons (gl _ (by decide +kernel)) (cal_fn F13 A13) (by decide) (fns_cons (gl _ (by decide +kernel)) (cal_fn F14 A14) (by decide) (fns_nil)))))), mets_nil, spe_nil⟩
  have A28 : FnA PySem.Challenge.pw_anyoutcome_k21_whole_closures_and_groups w K mg base 7 _ r_law_turn_right := step_pos 0 G0 E28 xtab_nil KB F28 sc_law_turn_right sem_law_turn_right fun _ _ _ _ _ _ us hl => match us, hl with | [_, _, _, _], _ => rfl
  have E29 : EnvOk PySem.Challenge.pw_anyoutcome_k21_whole_closures_and_groups w K mg base 0 e_Graph___init__ := ⟨fns_nil, mets_nil, spe_nil⟩
  have A29 : FnA PySem.Challenge.pw_anyoutcome_k21_whole_closures_and_groups w K mg base 1 _ r_Graph___init__ := step_pos0 G0 E29 xtab_nil KB F29 sc_Graph___init__ sem_Graph___init__ fun _ _ _ _ _ _ us hl => match us, hl with | [_], _ => rfl
  have E30 : EnvOk PySem.Challenge.pw_anyoutcome_k21_whole_closures_and_groups w K mg base 2 e_law_names := ⟨fns_cons (gl _ (by decide +kernel)) (cal_fn F0 A0) (by decide) (fns_cons (gl _ (by decide +kernel)) (cal_fn F13 A13) (by decide) (fns_nil)), mets_nil, spe_nil⟩
  have A30 : FnA PySem.Challenge.pw_anyoutcome_k21_whole_closures_and_groups w K mg base 3 _ r_law_names := step_pos 0 G0 E30 xtab_nil KB F30 sc_law_names sem_law_names fun _ _ _ _ _ _ us hl => match us, hl with | [_, _, _], _ => rfl
  have E31 : EnvOk PySem.Challenge.pw_anyoutcome_k21_whole_closures_and_groups w K mg base 7 e_law_right := ⟨fns_cons (gl _ (by decide +kernel)) (cal_fn F0 A0) (by decide) (fns_cons (gl _ (by decide +kernel)) (cal_fn F28 A28) (by decide) (fns_cons (gl _ (by decide +kernel)) (cal_fn F21 A21) (by decide) (fns_cons (gl _ (by decide +kernel)) (cal_cls (c := "Graph") (ms := [("in_order" : Str), ("has" : Str), ("reached" : Str), ("require_tasks" : Str), ("dependents" : Str), ("closure" : Str), ("group" : Str), ("groups" : Str), ("tasks" : Str), ("direct" : Str), ("depends" : Str), ("__len__" : Str), ("add_task" : Str), ("depend" : Str)]) G0 (by decide +kernel) A29) (by decide) (fns_cons (gl _ (by decide +kernel)) (cal_fn F30 A30) (by decide) (fns_nil))))), mets_nil, spe_nil⟩
  have A31 : FnA PySem.Challenge.pw_anyoutcome_k21_whole_closures_and_groups w K mg base 8 _ r_law_right := step_pos 0 G0 E31 xtab_nil KB F31 sc_law_right sem_law_right fun _ _ _ _ _ _ us hl => match us, hl with | [_], _ => rfl
  have E32 : EnvOk PySem.Challenge.pw_anyoutcome_k21_whole_closures_and_groups w K mg base 0 e_law_pot := ⟨fns_nil, mets_nil, spe_nil⟩
  have A32 : FnA PySem.Challenge.pw_anyoutcome_k21_whole_closures_and_groups w K mg base 1 _ r_law_pot := step_pos 1 G0 E32 xtab_nil KB F32 sc_law_pot sem_law_pot fun _ _ _ _ _ _ us hl => match us, hl with | [_, _], _ => rfl
  have E33 : EnvOk PySem.Challenge.pw_anyoutcome_k21_whole_closures_and_groups w K mg base 8 e_law := ⟨fns_cons (gl _ (by decide +kernel)) (cal_fn F31 A31) (by decide) (fns_cons (gl _ (by decide +kernel)) (cal_fn F32 A32) (by decide) (fns_nil)), mets_nil, spe_nil⟩
  have A33 : FnA PySem.Challenge.pw_anyoutcome_k21_whole_closures_and_groups w K mg base 9 _ r_law := step_pos 0 G0 E33 xtab_nil KB F33 sc_law sem_law fun _ _ _ _ _ _ us hl => match us, hl with | [_], _ => rfl
  exact A33
end
end K21

namespace K21
open PySem PySem.Spec PyProof.Rows L2 Va
theorem pot_eq : r_law_pot = rPot := rfl
theorem digit_eq : r_law_digit = rDigit := rfl
theorem pick_eq : r_law_pick = rPick := rfl
theorem names_eq : r_law_names = rNames := rfl
/-- what the graph holds: each task with those it is joined to -/
abbrev Net := List (Str × List Str)
def gKs (ns : Net) : List (Key × W) := ns.map fun q => (.inr q.1, .lst (q.2.map .str))
structure GAt (G D : Nat) (ns : Net) (s : Sto) : Prop where
  g : s[G]? = some (.ins "Graph" [("links", .ref D)])
  d : dicAt s (.ref D) = some (gKs ns)
  ne : G ≠ D
theorem fld_ok {G D : Nat} {ns : Net} {s : Sto} (h : GAt G D ns s) : fldAt fld_links "links" s (.ref G) = some (.ref D) := by
  unfold fldAt insAt
  simp only [h.g]
  rfl
theorem met_ok {G D : Nat} {ns : Net} {s : Sto} (h : GAt G D ns s) (tb : List (Str × MF)) (m : Str) (t : MF) (ht : tb.lookup ("Graph" : Str) = some t) (hm : ([("links", W.ref D)] : List (Str × W)).lookup m = none) : metAt tb m s (.ref G) = some t := by
  unfold metAt insAt
  simp only [h.g, hm, ht]
theorem lk_no {m : Str} {w : W} (h : (m == ("links" : Str)) = false) : ([(("links" : Str), w)] : List (Str × W)).lookup m = none := by
  simp only [List.lookup_cons, h, List.lookup_nil]
theorem valW_ks {ns : Net} {x : Str} : (valW (gKs ns) (.inr x)).isSome = decide (x ∈ ns.map (·.1)) := by
  unfold valW gKs
  rw [Option.isSome_map]
  induction ns with
  | nil => rfl
  | cons q ns ih =>
    rw [List.map_cons, List.find?_cons, List.map_cons]
    by_cases h : q.1 = x
    · subst h; simp
    · have : decide (((Sum.inr q.1, W.lst (q.2.map .str)) : Key × W).1 = (.inr x : Key)) = false := by simp [h]
      rw [this]
      simp only [ih]
      simp [Ne.symm h]
theorem GAt.lk {G D : Nat} {ns : Net} {s : Sto} (h : GAt G D ns s) : GAt G D ns (s.set D (.lck (gKs ns))) := by
  refine ⟨at_ne _ h.g (Ne.symm h.ne), ?_, h.ne⟩
  have hl : D < s.length := by
    rcases dicAt_cases h.d with q | q
    · exact lt_of_at q
    · exact lt_of_at q
  unfold dicAt
  simp only [List.getElem?_set_self hl]
/-- has(x) -/
theorem has_ok {G D : Nat} {ns : Net} {s : Sto} {x : Str} (h : GAt G D ns s) : r_Graph_has [.ref G, .str x] [] s = .ok (.bl (decide (x ∈ ns.map (·.1)))) s := by
  show posA 2 (runT 0 2 m_Graph_has) [.ref G, .str x] [] s = _
  rw [posA_at (show [W.ref G, W.str x].length = 2 from rfl)]
  refine runT_rt (s' := s) (w := .bl (decide (x ∈ ns.map (·.1)))) ?_ (trim_low0 Chg.rfl rfl)
  show m_Graph_has [some (.ref G), some (.str x)] s = _
  have e1 : gIsi tbl cs [.str x, .ty "str"] s = some (.bl true, s) := by rfl
  have e2 : gIn (.str x) (.ref D) s = some (.bl (decide (x ∈ ns.map (·.1))), s) := by rw [gIn_dic h.d, valW_ks]
  unfold m_Graph_has
  rw [sseq_eq, sret_eq, mandV_eq, mfn_eq, mcons_eq, mvar_s, mvar_0, R.bind_ok, mcons_eq, mc_eq, R.bind_ok, mnil_eq, R.bind_ok, R.bind_ok, R.bind_ok, e1, R.of_some, R.bind_ok]
  dsimp only
  rw [if_pos rfl, mbin_eq, mvar_s, mvar_0, R.bind_ok, mfld_eq, mvar_0, R.bind_ok, fld_ok h]
  dsimp only
  rw [R.bind_ok, e2, R.of_some, R.toS_ok, RS.then_rt]
/-- the tasks among xs, in the order of the graph -/
def ordd (ns : Net) (xs : List Str) : List Str := (ns.map (·.1)).filter fun x => decide (x ∈ xs)
def keepF (xs : List Str) : W → Option W
  | .str x => if decide (x ∈ xs) then some (.str x) else none
  | _ => none
theorem keep_map (xs l : List Str) : (l.map W.str).filterMap (keepF xs) = (l.filter fun x => decide (x ∈ xs)).map .str := by
  induction l with
  | nil => rfl
  | cons x l ih =>
    rw [List.map_cons, List.filterMap_cons, List.filter_cons, ih]
    have e0 : keepF xs (.str x) = if decide (x ∈ xs) = true then some (W.str x) else none := rfl
    rw [e0]
    cases decide (x ∈ xs) with
    | false => rfl
    | true => rfl
theorem keys_ks (ns : Net) : keysW' (gKs ns) = (ns.map (·.1)).map .str := by
  unfold keysW' gKs
  rw [List.map_map, List.map_map]
  rfl
theorem lows_strs (n : Nat) : ∀ l : List Str, W.lows n (l.map .str) = true
  | [] => rfl
  | x :: l => by rw [List.map_cons, W.lows, lows_strs n l]; rfl
/-- its second half: wanted is known -/
theorem in_order2 {G D : Nat} {ns : Net} {s : Sto} {xs : List Str} {x1 x3 x4 : Option W} (h : GAt G D ns s) (hl : ns.length ≤ 1000) :
    (mlc true (miany (mfld fld_links "links" (mvar 0))) (.nm 4) (mtb (mbin gIn (mvar 4) (mvar 2))) (mvar 4) [4]) [some (.ref G), x1, some (.dic ((setOf xs).map kTrue)), x3, x4] s = .ok (.ref s.length) (s ++ [.lst ((ordd ns xs).map .str)]) := by
  have e1 : (mfld fld_links "links" (mvar 0)) [some (.ref G), x1, some (.dic ((setOf xs).map kTrue)), x3, x4] s = .ok (.ref D) s := by
    rw [mfld_eq, mvar_0, R.bind_ok, fld_ok h]
  rw [mlc_dk (keepF xs) e1 h.d (by unfold gKs; rw [List.length_map]; omega) (fun x hx => ?_)]
  · rw [keys_ks, keep_map]; rfl
  · rw [keys_ks] at hx
    obtain ⟨y, _, rfl⟩ := List.mem_map.mp hx
    refine ⟨[some (.ref G), x1, some (.dic ((setOf xs).map kTrue)), x3, some (.str y)], rfl, ?_⟩
    have ec : (mtb (mbin gIn (mvar 4) (mvar 2))) [some (.ref G), x1, some (.dic ((setOf xs).map kTrue)), x3, some (.str y)] (s.set D (.lck (gKs ns))) = .ok (decide (y ∈ xs)) (s.set D (.lck (gKs ns))) := by
      rw [mtb_eq, mbin_eq]
      simp only [mvar_s, mvar_0, R.bind_ok, gIn_true, R.of_some]
      rw [show decide (y ∈ setOf xs) = decide (y ∈ xs) from decide_eq_decide.mpr mem_setOf]
    have e0 : keepF xs (.str y) = if decide (y ∈ xs) = true then some (W.str y) else none := rfl
    rw [e0]
    cases hd : decide (y ∈ xs) with
    | false => exact .inl ⟨rfl, by rw [hd] at ec; exact ec⟩
    | true => exact .inr ⟨.str y, rfl, by rw [hd] at ec; exact ec, rfl⟩
theorem wanted_ok {w : W} {xs : List Str} {s : Sto} {x0 : Option W} {gd : List (Nat × O)} (hm : miany (mvar 1) [x0, some w, none, none, none] s = .ok ⟨xs.map .str, gd, none⟩ s) (hg : gdOk gd s = true) (hl : xs.length ≤ 1000) :
    (mdc false (miany (mvar 1)) (.nm 3) myes (mvar 3) (mc (.bl true)) [3]) [x0, some w, none, none, none] s = .ok (.dic ((setOf xs).map kTrue)) s := by
  rw [mdc_pure trueF hm hg (by rw [List.length_map]; omega) (fun x hx => ?_)]
  · rw [putAll_true]; rfl
  · obtain ⟨y, _, rfl⟩ := List.mem_map.mp hx
    exact ⟨[x0, some w, none, some (.str y), none], .str y, rfl, rfl, rfl, rfl, rfl⟩
theorem in_order_ok {G D : Nat} {ns : Net} {s : Sto} {w : W} {xs : List Str} {gd : List (Nat × O)} (h : GAt G D ns s) (hl : ns.length ≤ 1000) (hx : xs.length ≤ 1000) (hm : miany (mvar 1) [some (.ref G), some w, none, none, none] s = .ok ⟨xs.map .str, gd, none⟩ s) (hg : gdOk gd s = true) :
    r_Graph_in_order [.ref G, w] [] s = .ok (.ref s.length) (s ++ [.lst ((ordd ns xs).map .str)]) := by
  show posA 2 (runT 1 5 m_Graph_in_order) [.ref G, w] [] s = _
  rw [posA_at (show [W.ref G, w].length = 2 from rfl)]
  refine runT_rt (s' := s ++ [.lst ((ordd ns xs).map .str)]) (w := .ref s.length) ?_ (trim_keep Chg.rfl (Nat.le_refl _) (at_new _ _) (lows_strs _ _))
  show m_Graph_in_order [some (.ref G), some w, none, none, none] s = _
  unfold m_Graph_in_order
  rw [sseq_eq, sset_eq, wanted_ok hm hg hx, R.toS_ok, RS.then_nx, sseq_eq, sret_eq]
  rw [show (List.set [some (W.ref G), some w, none, none, none] 2 (some (.dic ((setOf xs).map kTrue)))) = [some (.ref G), some w, some (.dic ((setOf xs).map kTrue)), none, none] from rfl]
  rw [in_order2 h hl, R.toS_ok, RS.then_rt]
/-- all of them are tasks -/
def mReq1 : MS := (sseq (sif (mnot (mtru gtru (mmeth tb_has "has" (mvar 0) (mcons (mvar 2) mnil))))
    (sseq sno
    snil)
    snil)
    snil)
theorem req1_ok {G D : Nat} {ns : Net} {s : Sto} {x : Str} {x1 : Option W} (h : GAt G D ns s) (hx : x ∈ ns.map (·.1)) : mReq1 [some (.ref G), x1, some (.str x)] s = .nx [some (.ref G), x1, some (.str x)] s := by
  have e : (mmeth tb_has "has" (mvar 0) (mcons (mvar 2) mnil)) [some (.ref G), x1, some (.str x)] s = .ok (.bl true) s := by
    rw [mmeth_eq, mvar_0, R.bind_ok, met_ok h tb_has "has" r_Graph_has rfl (lk_no (by decide +kernel))]
    dsimp only
    rw [mcons_eq, mvar_s, mvar_s, mvar_0, R.bind_ok, mnil_eq, R.bind_ok, R.bind_ok, has_ok h, decide_eq_true hx]
  unfold mReq1
  rw [sseq_eq, sif_eq, mnot_eq, mtru_eq, e, R.bind_ok, gtru_bl]
  dsimp only
  rw [R.bind_ok, R.toS_ok]
  rfl
theorem require_ok {G D : Nat} {ns : Net} {s : Sto} {w : W} {xs : List Str} {gd : List (Nat × O)} (h : GAt G D ns s) (hm : miany (mvar 1) [some (.ref G), some w, none] s = .ok ⟨xs.map .str, gd, none⟩ s) (hg : gdOk gd s = true) (hx : ∀ x ∈ xs, x ∈ ns.map (·.1)) :
    r_Graph_require_tasks [.ref G, w] [] s = .ok .non s := by
  show posA 2 (runT 0 3 m_Graph_require_tasks) [.ref G, w] [] s = _
  rw [posA_at (show [W.ref G, w].length = 2 from rfl)]
  have main := sfor_inv (g := gname 2) (b := mReq1) hm (fun ys ws u => u = s ∧ (∃ x2, ws = [some (.ref G), some w, x2]) ∧ ∃ zs : List Str, ys = zs.map .str ∧ ∀ z ∈ zs, z ∈ ns.map (·.1)) (fun r => ∃ x2, r = .nx [some (.ref G), some w, x2] s)
    ⟨rfl, ⟨none, rfl⟩, xs, rfl, hx⟩
    (fun x ys ws u hI => by
      obtain ⟨rfl, ⟨x2, rfl⟩, zs, ez, hz⟩ := hI
      cases zs with
      | nil => cases ez
      | cons z zs =>
        rw [List.map_cons, List.cons.injEq] at ez
        obtain ⟨rfl, rfl⟩ := ez
        exact ⟨hg, _, _, rfl, .inl ⟨_, _, .inl (req1_ok h (hz z List.mem_cons_self)), rfl, ⟨_, rfl⟩, zs, rfl, fun y hy => hz y (List.mem_cons_of_mem _ hy)⟩⟩)
    (fun ws u hI => by
      obtain ⟨rfl, ⟨x2, rfl⟩, _⟩ := hI
      exact ⟨hg, x2, rfl⟩)
  obtain ⟨x2, er⟩ := main
  refine runT_nx (s' := s) (l := [some (.ref G), some w, x2]) ?_ (trim_low0 Chg.rfl rfl)
  show m_Graph_require_tasks [some (.ref G), some w, none] s = _
  have e0 : m_Graph_require_tasks = sseq (sfor (miany (mvar 1)) (gname 2) mReq1) snil := rfl
  rw [e0, sseq_eq, er, RS.then_nx, snil_eq]
/-! ### reached: what is waiting, what was found -/
def stR (wf : List Str × List Str) (y : Str) : List Str × List Str := if y ∈ wf.2 then wf else (wf.1 ++ [y], wf.2 ++ [y])
theorem at_a (s : Sto) (o1 o2 : O) : (s ++ [o1, o2])[s.length]? = some o1 := by simp
theorem at_b (s : Sto) (o1 o2 : O) : (s ++ [o1, o2])[s.length + 1]? = some o2 := by simp
theorem set_a (s : Sto) (o1 o2 o : O) : (s ++ [o1, o2]).set s.length o = s ++ [o, o2] := by
  rw [List.set_append_right _ _ (Nat.le_refl _)]; simp
theorem set_b (s : Sto) (o1 o2 o : O) : (s ++ [o1, o2]).set (s.length + 1) o = s ++ [o1, o] := by
  rw [List.set_append_right _ _ (Nat.le_succ _)]; simp
def stO (s : Sto) (wf : List Str × List Str) : Sto := s ++ [.lst (wf.1.map .str), .dic (wf.2.map kTrue)]
def mIn : MS := (sseq (sif (mtb (mbin gNotIn (mvar 6) (mvar 4)))
    (sseq (sasg (mc (.bl true)) (gsub (mvar 4) (mvar 6) gSetI))
    (sseq (sexpr (mbm "list" gAppend (mvar 3) (mcons (mvar 6) mnil)))
    snil))
    snil)
    snil)
theorem gNotIn_b {s : Sto} {wf : List Str × List Str} {y : Str} : gNotIn (.str y) (.ref (s.length + 1)) (stO s wf) = some (.bl (!decide (y ∈ wf.2)), stO s wf) := by
  have hd : dicAt (stO s wf) (.ref (s.length + 1)) = some (wf.2.map kTrue) := dicAt_r (at_b _ _ _)
  unfold gNotIn gInB
  simp only [hd]
  show some (W.bl (!(valW (wf.2.map kTrue) (.inr y)).isSome), _) = _
  rw [valW_true]
theorem in_ok {s : Sto} {wf : List Str × List Str} {y : Str} {x0 x1 x2 x5 : Option W} (hl : wf.2.length < 1000) (hw : wf.1.length < 1000) :
    mIn [x0, x1, x2, some (.ref s.length), some (.ref (s.length + 1)), x5, some (.str y)] (stO s wf) = .nx [x0, x1, x2, some (.ref s.length), some (.ref (s.length + 1)), x5, some (.str y)] (stO s (stR wf y)) := by
  have e1 : (mtb (mbin gNotIn (mvar 6) (mvar 4))) [x0, x1, x2, some (.ref s.length), some (.ref (s.length + 1)), x5, some (.str y)] (stO s wf) = .ok (!decide (y ∈ wf.2)) (stO s wf) := by
    rw [mtb_eq, mbin_eq]
    simp only [mvar_s, mvar_0, R.bind_ok, gNotIn_b, R.of_some]
  unfold mIn
  rw [sseq_eq, sif_eq, e1, R.toS_ok]
  by_cases hy : y ∈ wf.2
  · rw [decide_eq_true hy]
    have : stR wf y = wf := if_pos hy
    rw [this]; rfl
  · rw [decide_eq_false hy]
    have er : stR wf y = (wf.1 ++ [y], wf.2 ++ [y]) := if_neg hy
    have e2 : gSetI (.ref (s.length + 1)) (.str y) (.bl true) (stO s wf) = some (stO s (wf.1, wf.2 ++ [y])) := by
      have h2 : muAt (stO s wf) (.ref (s.length + 1)) = none := muAt_dic (at_b _ _ _)
      have h3 : muDic (stO s wf) (.ref (s.length + 1)) = some (s.length + 1, wf.2.map kTrue) := muDic_r (at_b _ _ _)
      unfold gSetI
      simp only [h2, h3, keyW]
      rw [if_pos (by rw [List.length_map]; omega), putW_true, if_neg hy]
      exact congrArg some (set_b _ _ _ _)
    have e3 : gAppend (.ref s.length) [.str y] (stO s (wf.1, wf.2 ++ [y])) = some (.non, stO s (wf.1 ++ [y], wf.2 ++ [y])) := by
      have h2 : muAt (stO s (wf.1, wf.2 ++ [y])) (.ref s.length) = some (s.length, wf.1.map .str) := muAt_r (at_a _ _ _)
      unfold gAppend
      simp only [h2]
      rw [if_pos (by rw [List.length_map]; omega)]
      show some (W.non, (stO s (wf.1, wf.2 ++ [y])).set s.length (.lst (wf.1.map .str ++ [.str y]))) = _
      have em : (wf.1 ++ [y]).map W.str = wf.1.map .str ++ [.str y] := by rw [List.map_append]; rfl
      unfold stO
      rw [set_a, em]
    have ty : tyM (.ref s.length) (stO s (wf.1, wf.2 ++ [y])) = "list" := by
      have hl' : lstAt (stO s (wf.1, wf.2 ++ [y])) (.ref s.length) = some (wf.1.map .str) := lstAt_r (at_a _ _ _)
      unfold tyM
      simp only [hl']
    rw [er]
    show RS.andThen (if (true = true) then _ else _) _ = _
    rw [if_pos rfl, sseq_eq, sasg_eq, mc_eq, R.toS_ok, gsub_eq]
    simp only [mvar_s, mvar_0, R.bind_ok, e2, R.toS_ok, RS.then_nx, sseq_eq, sexpr_eq, mbm_eq]
    rw [if_pos ty]
    simp only [mcons_eq, mvar_s, mvar_0, mnil_eq, R.bind_ok, e3, R.of_some, R.toS_ok, RS.then_nx, snil_eq]
theorem stR_len (wf : List Str × List Str) (y : Str) : (stR wf y).1.length ≤ wf.1.length + 1 ∧ (stR wf y).2.length ≤ wf.2.length + 1 := by
  unfold stR
  split
  · exact ⟨Nat.le_succ _, Nat.le_succ _⟩
  · simp
theorem inner_ok {s u0 : Sto} {mi : MI} {ws0 : Va.Loc} {ys : List Str} {gd : List (Nat × O)} {wf : List Str × List Str} {x0 x1 x2 x5 x6 : Option W} (e0 : ws0 = [x0, x1, x2, some (.ref s.length), some (.ref (s.length + 1)), x5, x6])
    (hm : mi ws0 u0 = .ok ⟨ys.map .str, gd, none⟩ (stO s wf)) (hg : ∀ v, gdOk gd (stO s v) = true) (h1 : wf.1.length + ys.length < 1000) (h2 : wf.2.length + ys.length < 1000) :
    ∃ x6', sfor mi (gname 6) mIn ws0 u0 = .nx [x0, x1, x2, some (.ref s.length), some (.ref (s.length + 1)), x5, x6'] (stO s (ys.foldl stR wf)) := by
  subst e0
  refine sfor_inv (g := gname 6) (b := mIn) hm
    (fun zs ws u => ∃ (v : List Str × List Str) (zl : List Str) (y6 : Option W), zs = zl.map .str ∧ ws = [x0, x1, x2, some (.ref s.length), some (.ref (s.length + 1)), x5, y6] ∧ u = stO s v ∧ zl.foldl stR v = ys.foldl stR wf ∧ v.1.length + zl.length < 1000 ∧ v.2.length + zl.length < 1000)
    (fun r => ∃ x6', r = .nx [x0, x1, x2, some (.ref s.length), some (.ref (s.length + 1)), x5, x6'] (stO s (ys.foldl stR wf)))
    ⟨wf, ys, x6, rfl, rfl, rfl, rfl, h1, h2⟩ (fun x zs ws u hI => ?_) (fun ws u hI => ?_)
  · obtain ⟨v, zl, y6, ez, rfl, rfl, ef, l1, l2⟩ := hI
    cases zl with
    | nil => cases ez
    | cons z zl =>
      rw [List.map_cons, List.cons.injEq] at ez
      obtain ⟨rfl, rfl⟩ := ez
      rw [List.length_cons] at l1 l2
      have q := stR_len v z
      exact ⟨hg v, _, _, rfl, .inl ⟨_, _, .inl (in_ok (by omega) (by omega)), stR v z, zl, some (.str z), rfl, rfl, rfl, ef, by omega, by omega⟩⟩
  · obtain ⟨v, zl, y6, ez, rfl, rfl, ef, l1, l2⟩ := hI
    cases zl with
    | cons z zl => cases ez
    | nil => exact ⟨hg v, y6, by rw [← ef]; rfl⟩
/-! ### what can be reached -/
inductive Rch (sc : Str → List Str) (S : List Str) : Str → Prop
  | base {x : Str} : x ∈ S → Rch sc S x
  | step {x y : Str} : Rch sc S x → y ∈ sc x → Rch sc S y
theorem fold_mem (ys : List Str) : ∀ wf : List Str × List Str, (∀ y, y ∈ (ys.foldl stR wf).2 ↔ y ∈ wf.2 ∨ y ∈ ys) ∧ (∀ y, y ∈ (ys.foldl stR wf).1 → y ∈ wf.1 ∨ y ∈ ys) ∧ (∀ y, y ∈ wf.1 → y ∈ (ys.foldl stR wf).1) ∧ (∀ y ∈ ys, y ∈ wf.2 ∨ y ∈ (ys.foldl stR wf).1) ∧ (wf.2.Nodup → (ys.foldl stR wf).2.Nodup) ∧ (ys.foldl stR wf).1.length + wf.2.length = wf.1.length + (ys.foldl stR wf).2.length := by
  induction ys with
  | nil => intro wf; simp
  | cons z ys ih =>
    intro wf
    obtain ⟨h1, h2, h3, h4, h5, h6⟩ := ih (stR wf z)
    rw [List.foldl_cons]
    by_cases hz : z ∈ wf.2
    · have e : stR wf z = wf := if_pos hz
      rw [e] at h1 h2 h3 h4 h5 h6 ⊢
      refine ⟨fun y => ?_, fun y q => (h2 y q).imp id (List.mem_cons_of_mem _), h3, fun y q => ?_, h5, h6⟩
      · rw [h1]
        constructor
        · exact fun q => q.imp id (List.mem_cons_of_mem _)
        · rintro (q | q)
          · exact .inl q
          · rcases List.mem_cons.mp q with rfl | q
            · exact .inl hz
            · exact .inr q
      · rcases List.mem_cons.mp q with rfl | q
        · exact .inl hz
        · exact h4 y q
    · have e : stR wf z = (wf.1 ++ [z], wf.2 ++ [z]) := if_neg hz
      rw [e] at h1 h2 h3 h4 h5 h6 ⊢
      refine ⟨fun y => ?_, fun y q => ?_, fun y q => h3 y (List.mem_append_left _ q), fun y q => ?_, fun nd => h5 ?_, ?_⟩
      · rw [h1]; simp [or_assoc]
      · rcases h2 y q with q | q
        · rcases List.mem_append.mp q with q | q
          · exact .inl q
          · exact .inr (by rw [List.mem_singleton.mp q]; exact List.mem_cons_self)
        · exact .inr (List.mem_cons_of_mem _ q)
      · rcases List.mem_cons.mp q with rfl | q
        · exact .inr (h3 y (List.mem_append_right _ (List.mem_singleton.mpr rfl)))
        · rcases h4 y q with q | q
          · rcases List.mem_append.mp q with q | q
            · exact .inl q
            · rw [List.mem_singleton.mp q]
              exact .inr (h3 z (List.mem_append_right _ (List.mem_singleton.mpr rfl)))
          · exact .inr q
      · rw [List.nodup_append]
        refine ⟨nd, by simp, fun a ha b hb => ?_⟩
        rw [List.mem_singleton.mp hb]
        exact fun z' => hz (z' ▸ ha)
      · simp only [List.length_append, List.length_singleton] at h6
        omega
/-! ### the outer loop -/
structure LkAt (s : Sto) (L : W) (names : List Str) (sc : Str → List Str) : Prop where
  at_ : ∀ x ∈ names, ∃ (w : W) (gd : List (Nat × O)), (∀ v, gIx L (.str x) (stO s v) = some (w, stO s v)) ∧ (∀ v, gdOk gd (stO s v) = true) ∧ ∀ (m : ME) (ws : Va.Loc) (u : Sto) v, m ws u = .ok w (stO s v) → miany m ws u = .ok ⟨(sc x).map .str, gd, none⟩ (stO s v)
def mTurn : MS := (sseq (sfor (miany (mbin gIx (mvar 2) (mbm "list" gPop (mvar 3) mnil))) (gname 6) mIn) snil)
theorem pop_ok {s : Sto} {W0 F : List Str} {x : Str} : gPop (.ref s.length) [] (stO s (W0 ++ [x], F)) = some (.str x, stO s (W0, F)) := by
  have h2 : muAt (stO s (W0 ++ [x], F)) (.ref s.length) = some (s.length, (W0 ++ [x]).map .str) := muAt_r (at_a _ _ _)
  have em : (W0 ++ [x]).map W.str = W0.map .str ++ [.str x] := by rw [List.map_append]; rfl
  have e1 : ((W0 ++ [x]).map W.str)[((W0 ++ [x]).map W.str).length - 1]? = some (.str x) := by
    rw [em, List.length_append, List.length_singleton, Nat.add_sub_cancel, List.getElem?_append_right (Nat.le_refl _), Nat.sub_self]; rfl
  have e2 : ((W0 ++ [x]).map W.str).dropLast = W0.map .str := by rw [em, List.dropLast_concat]
  unfold gPop
  simp only [h2, e1, e2]
  unfold stO
  rw [set_a]
  rfl
theorem turn_ok {s : Sto} {L : W} {names : List Str} {sc : Str → List Str} (hL : LkAt s L names sc) {W0 F : List Str} {x : Str} (hx : x ∈ names) {x0 x1 x5 x6 : Option W} (h1 : W0.length + (sc x).length < 1000) (h2 : F.length + (sc x).length < 1000) :
    ∃ x6', mTurn [x0, x1, some L, some (.ref s.length), some (.ref (s.length + 1)), x5, x6] (stO s (W0 ++ [x], F)) = .nx [x0, x1, some L, some (.ref s.length), some (.ref (s.length + 1)), x5, x6'] (stO s ((sc x).foldl stR (W0, F))) := by
  obtain ⟨w, gd, g1, g2, g3⟩ := hL.at_ x hx
  have ty : tyM (.ref s.length) (stO s (W0 ++ [x], F)) = "list" := by
    have hl' : lstAt (stO s (W0 ++ [x], F)) (.ref s.length) = some ((W0 ++ [x]).map .str) := lstAt_r (at_a _ _ _)
    unfold tyM
    simp only [hl']
  have e1 : (mbin gIx (mvar 2) (mbm "list" gPop (mvar 3) mnil)) [x0, x1, some L, some (.ref s.length), some (.ref (s.length + 1)), x5, x6] (stO s (W0 ++ [x], F)) = .ok w (stO s (W0, F)) := by
    rw [mbin_eq]
    simp only [mvar_s, mvar_0, R.bind_ok, mbm_eq]
    rw [if_pos ty, mnil_eq, R.bind_ok, pop_ok, R.of_some, R.bind_ok, g1, R.of_some]
  obtain ⟨x6', e2⟩ := inner_ok (wf := (W0, F)) rfl (g3 _ _ _ _ e1) g2 h1 h2
  refine ⟨x6', ?_⟩
  unfold mTurn
  rw [sseq_eq, e2, RS.then_nx, snil_eq]
/-- what holds between the turns -/
structure RI (names : List Str) (sc : Str → List Str) (S : List Str) (v : List Str × List Str) : Prop where
  wf : ∀ x ∈ v.1, x ∈ v.2
  nm : ∀ x ∈ v.2, x ∈ names
  rc : ∀ x ∈ v.2, Rch sc S x
  cl : ∀ x ∈ v.2, x ∈ v.1 ∨ ∀ y ∈ sc x, y ∈ v.2
  st : ∀ x ∈ S, x ∈ v.2
  nd : v.2.Nodup
theorem RI.turn {names : List Str} {sc : Str → List Str} {S W0 F : List Str} {x : Str} (hs : ∀ x ∈ names, ∀ y ∈ sc x, y ∈ names) (h : RI names sc S (W0 ++ [x], F)) : RI names sc S ((sc x).foldl stR (W0, F)) := by
  obtain ⟨m1, m2, m3, m4, m5, m6⟩ := fold_mem (sc x) (W0, F)
  have hx : x ∈ F := h.wf x (List.mem_append_right _ (List.mem_singleton.mpr rfl))
  refine ⟨fun y hy => ?_, fun y hy => ?_, fun y hy => ?_, fun y hy => ?_, fun y hy => (m1 y).mpr (.inl (h.st y hy)), m5 h.nd⟩
  · rcases m2 y hy with q | q
    · exact (m1 y).mpr (.inl (h.wf y (List.mem_append_left _ q)))
    · exact (m1 y).mpr (.inr q)
  · rcases (m1 y).mp hy with q | q
    · exact h.nm y q
    · exact hs x (h.nm x hx) y q
  · rcases (m1 y).mp hy with q | q
    · exact h.rc y q
    · exact .step (h.rc x hx) q
  · rcases (m1 y).mp hy with q | q
    · by_cases e : y = x
      · subst e
        exact .inr fun z hz => (m1 z).mpr (.inr hz)
      · rcases h.cl y q with r | r
        · rcases List.mem_append.mp r with r | r
          · exact .inl (m3 y r)
          · exact absurd (List.mem_singleton.mp r) e
        · exact .inr fun z hz => (m1 z).mpr (.inl (r z hz))
    · rcases m4 y q with r | r
      · by_cases e : y = x
        · subst e
          exact .inr fun z hz => (m1 z).mpr (.inr hz)
        · rcases h.cl y r with t | t
          · rcases List.mem_append.mp t with t | t
            · exact .inl (m3 y t)
            · exact absurd (List.mem_singleton.mp t) e
          · exact .inr fun z hz => (m1 z).mpr (.inl (t z hz))
      · exact .inl r
theorem RI.done {names : List Str} {sc : Str → List Str} {S F : List Str} (h : RI names sc S ([], F)) (y : Str) : y ∈ F ↔ Rch sc S y := by
  refine ⟨h.rc y, fun r => ?_⟩
  induction r with
  | base hx => exact h.st _ hx
  | step _ hy ih =>
    rcases h.cl _ ih with q | q
    · exact (List.not_mem_nil q).elim
    · exact q _ hy
def mCond : MT := mtb (mbin gNe (mvar 3) (mlst false mnil))
theorem cond_ok {s : Sto} {v : List Str × List Str} {x0 x1 x2 x4 x5 x6 : Option W} (hs : ∀ x ∈ v.1, PyData.strOk x = true) : mCond [x0, x1, x2, some (.ref s.length), x4, x5, x6] (stO s v) = .ok (!v.1.isEmpty) (stO s v) := by
  have e0 : (mlst false mnil) [x0, x1, x2, some (.ref s.length), x4, x5, x6] (stO s v) = .ok (.lst []) (stO s v) := by
    rw [mlst_eq, mnil_eq, R.bind_ok, if_pos (show ([] : List W).length ≤ 16777216 from Nat.zero_le _), newL_f, R.of_some]
  have e1 := gNe_nil (s := stO s v) (n := s.length) hs (at_a _ _ _)
  unfold mCond
  rw [mtb_eq, mbin_eq]
  simp only [mvar_s, mvar_0, R.bind_ok, e0, e1, R.of_some]
theorem while_ok {s : Sto} {L : W} {names : List Str} {sc : Str → List Str} {S : List Str} (hL : LkAt s L names sc) (hs : ∀ x ∈ names, ∀ y ∈ sc x, y ∈ names) (hc : ∀ x ∈ names, (sc x).length ≤ 400) (hn : names.length ≤ 400) (hok : ∀ x ∈ names, PyData.strOk x = true)
    {v : List Str × List Str} (h : RI names sc S v) (hv : v.1.length ≤ v.2.length + 100) {x0 x1 x5 x6 : Option W} :
    ∃ F x6', swhile mCond mTurn [x0, x1, some L, some (.ref s.length), some (.ref (s.length + 1)), x5, x6] (stO s v) = .nx [x0, x1, some L, some (.ref s.length), some (.ref (s.length + 1)), x5, x6'] (stO s ([], F)) ∧ RI names sc S ([], F) := by
  have hF : ∀ {v : List Str × List Str}, RI names sc S v → v.2.length ≤ names.length := fun h => List.Nodup.length_le_of_subset h.nd h.nm
  refine swhile_inv (m := 2 * (names.length - v.2.length) + v.1.length) (by have := hF h; omega)
    (fun m ws u => ∃ (v : List Str × List Str) (y6 : Option W), ws = [x0, x1, some L, some (.ref s.length), some (.ref (s.length + 1)), x5, y6] ∧ u = stO s v ∧ RI names sc S v ∧ v.1.length ≤ v.2.length + 100 ∧ m = 2 * (names.length - v.2.length) + v.1.length)
    (fun r => ∃ F x6', r = .nx [x0, x1, some L, some (.ref s.length), some (.ref (s.length + 1)), x5, x6'] (stO s ([], F)) ∧ RI names sc S ([], F))
    ⟨v, x6, rfl, rfl, h, hv, rfl⟩ (fun m ws u hI => ?_)
  obtain ⟨⟨W1, F⟩, y6, rfl, rfl, hr, hl, rfl⟩ := hI
  have hk : ∀ x ∈ W1, PyData.strOk x = true := fun x hx => hok x (hr.nm x (hr.wf x hx))
  have ec := cond_ok (s := s) (v := (W1, F)) (x0 := x0) (x1 := x1) (x2 := some L) (x4 := some (.ref (s.length + 1))) (x5 := x5) (x6 := y6) hk
  rcases List.eq_nil_or_concat W1 with rfl | ⟨W0, x, rfl⟩
  · exact .inl ⟨_, ec, F, y6, rfl, hr⟩
  · rw [List.concat_eq_append] at *
    have hF1 := hF hr
    have hx : x ∈ F := hr.wf x (List.mem_append_right _ (List.mem_singleton.mpr rfl))
    have hc1 := hc x (hr.nm x hx)
    simp only [List.length_append, List.length_singleton] at hl hF1 ⊢
    obtain ⟨y6', et⟩ := turn_ok hL (W0 := W0) (F := F) (hr.nm x hx) (x0 := x0) (x1 := x1) (x5 := x5) (x6 := y6) (by omega) (by omega)
    have hr2 := hr.turn hs
    have hF2 := hF hr2
    have m6 := (fold_mem (sc x) (W0, F)).2.2.2.2.2
    have hle : F.length ≤ ((sc x).foldl stR (W0, F)).2.length := List.Nodup.length_le_of_subset hr.nd fun y hy => ((fold_mem (sc x) (W0, F)).1 y).mpr (.inl hy)
    simp only at m6
    refine .inr ⟨_, by rw [ec]; simp, .inl ⟨_, _, .inl et, _, ?_, _, y6', rfl, rfl, hr2, ?_, rfl⟩⟩
    · omega
    · omega
/-! ### in_order of a dict of the store -/
theorem keys_true (F : List Str) : keysW' (F.map kTrue) = F.map .str := by
  unfold keysW'
  rw [List.map_map]
  rfl
theorem wanted_d {b : Nat} {F : List Str} {s : Sto} {x0 : Option W} (hb : s[b]? = some (.dic (F.map kTrue))) (hl : F.length ≤ 1000) :
    (mdc false (miany (mvar 1)) (.nm 3) myes (mvar 3) (mc (.bl true)) [3]) [x0, some (.ref b), none, none, none] s = .ok (.dic ((setOf F).map kTrue)) s := by
  have e0 : (mvar 1) [x0, some (.ref b), none, none, none] s = .ok (.ref b) s := rfl
  rw [mdc_lk trueF (miany_d e0 hb) hb (by rw [keys_true, List.length_map]; omega) (fun x hx => ?_)]
  · rw [keys_true, putAll_true]; rfl
  · rw [keys_true] at hx
    obtain ⟨y, _, rfl⟩ := List.mem_map.mp hx
    exact ⟨[x0, some (.ref b), none, some (.str y), none], .str y, rfl, rfl, rfl, rfl, rfl⟩
theorem in_order_d {G D b : Nat} {ns : Net} {s : Sto} {F : List Str} (h : GAt G D ns s) (hl : ns.length ≤ 1000) (hx : F.length ≤ 1000) (hb : s[b]? = some (.dic (F.map kTrue))) :
    r_Graph_in_order [.ref G, .ref b] [] s = .ok (.ref s.length) (s ++ [.lst ((ordd ns F).map .str)]) := by
  show posA 2 (runT 1 5 m_Graph_in_order) [.ref G, .ref b] [] s = _
  rw [posA_at (show [W.ref G, W.ref b].length = 2 from rfl)]
  refine runT_rt (s' := s ++ [.lst ((ordd ns F).map .str)]) (w := .ref s.length) ?_ (trim_keep Chg.rfl (Nat.le_refl _) (at_new _ _) (lows_strs _ _))
  show m_Graph_in_order [some (.ref G), some (.ref b), none, none, none] s = _
  unfold m_Graph_in_order
  rw [sseq_eq, sset_eq, wanted_d hb hx, R.toS_ok, RS.then_nx, sseq_eq, sret_eq]
  rw [show (List.set [some (W.ref G), some (W.ref b), none, none, none] 2 (some (.dic ((setOf F).map kTrue)))) = [some (.ref G), some (.ref b), some (.dic ((setOf F).map kTrue)), none, none] from rfl]
  rw [in_order2 h hl, R.toS_ok, RS.then_rt]
theorem fold_nd (l : List Str) : ∀ acc : List Str, acc.Nodup → (l.foldl (fun acc x => if x ∈ acc then acc else acc ++ [x]) acc).Nodup := by
  induction l with
  | nil => exact fun acc h => h
  | cons x l ih =>
    intro acc h
    rw [List.foldl_cons]
    refine ih _ ?_
    split
    · exact h
    · rename_i hx
      rw [List.nodup_append]
      refine ⟨h, by simp, fun a ha b hb => ?_⟩
      rw [List.mem_singleton.mp hb]
      exact fun z => hx (z ▸ ha)
theorem setOf_nd (l : List Str) : (setOf l).Nodup := fold_nd l [] List.nodup_nil
theorem start_ri {names S : List Str} {sc : Str → List Str} (h : ∀ x ∈ S, x ∈ names) : RI names sc S (S, setOf S) :=
  ⟨fun _ hx => mem_setOf.mpr hx, fun x hx => h x (mem_setOf.mp hx), fun _ hx => .base (mem_setOf.mp hx), fun _ hx => .inl (mem_setOf.mp hx), fun _ hx => mem_setOf.mpr hx, setOf_nd S⟩
/-- the two first lines of reached -/
theorem r1_ok {s : Sto} {S : List Str} {x0 x2 x3 x4 x5 x6 : Option W} : (mfn (gListA true) (mcons (mvar 1) mnil)) [x0, some (.tup (S.map .str)), x2, x3, x4, x5, x6] s = .ok (.ref s.length) (s ++ [.lst (S.map .str)]) := by
  have e : gListA true [.tup (S.map .str)] s = some (.ref s.length, s ++ [.lst (S.map .str)]) := rfl
  rw [mfn_eq, mcons_eq, mvar_s, mvar_0, R.bind_ok, mnil_eq, R.bind_ok, R.bind_ok, e, R.of_some]
theorem r2_ok {s : Sto} {S : List Str} {x0 x1 x2 x4 x6 : Option W} (hS : S.length ≤ 1000) : (mdc true (miany (mvar 3)) (.nm 5) myes (mvar 5) (mc (.bl true)) [5]) [x0, x1, x2, some (.ref s.length), x4, none, x6] (s ++ [.lst (S.map .str)]) = .ok (.ref (s.length + 1)) (stO s (S, setOf S)) := by
  have e0 : (mvar 3) [x0, x1, x2, some (.ref s.length), x4, none, x6] (s ++ [.lst (S.map .str)]) = .ok (.ref s.length) (s ++ [.lst (S.map .str)]) := rfl
  rw [mdc_pure trueF (miany_r e0 (at_new _ _)) (gdOk_one (at_new _ _)) (by rw [List.length_map]; omega) (fun x hx => ?_)]
  · rw [putAll_true, newD_t, R.of_some]
    unfold stO
    rw [List.length_append, List.length_singleton, List.append_assoc]
    rfl
  · obtain ⟨y, _, rfl⟩ := List.mem_map.mp hx
    exact ⟨[x0, x1, x2, some (.ref s.length), x4, some (.str y), x6], .str y, rfl, rfl, rfl, rfl, rfl⟩
theorem GAt.app {G D : Nat} {ns : Net} {s t : Sto} (h : GAt G D ns s) : GAt G D ns (s ++ t) := by
  refine ⟨at_app h.g, ?_, h.ne⟩
  rcases dicAt_cases h.d with q | q
  · exact dicAt_r (at_app q)
  · unfold dicAt
    simp only [at_app q]
theorem reached_ok {G D : Nat} {ns : Net} {s : Sto} {L : W} {S : List Str} {sc : Str → List Str} (h : GAt G D ns s) (hL : LkAt s L (ns.map (·.1)) sc) (hs : ∀ x ∈ ns.map (·.1), ∀ y ∈ sc x, y ∈ ns.map (·.1)) (hc : ∀ x ∈ ns.map (·.1), (sc x).length ≤ 400) (hn : (ns.map (·.1)).length ≤ 400) (hok : ∀ x ∈ ns.map (·.1), PyData.strOk x = true)
    (hS : ∀ x ∈ S, x ∈ ns.map (·.1)) (hl : S.length ≤ 100) :
    ∃ F, (∀ y, y ∈ F ↔ Rch sc S y) ∧ r_Graph_reached [.ref G, .tup (S.map .str), L] [] s = .ok (.ref s.length) (s ++ [.lst ((ordd ns F).map .str)]) := by
  obtain ⟨F, x6', e3, hr⟩ := while_ok (S := S) hL hs hc hn hok (start_ri hS) (show S.length ≤ (setOf S).length + 100 by omega) (x0 := some (.ref G)) (x1 := some (.tup (S.map .str))) (x5 := none) (x6 := none)
  have hF : F.length ≤ 400 := Nat.le_trans (List.Nodup.length_le_of_subset hr.nd hr.nm) hn
  rw [List.length_map] at hn
  refine ⟨F, hr.done, ?_⟩
  have hG : GAt G D ns (stO s ([], F)) := h.app
  have hb : (stO s ([], F))[s.length + 1]? = some (.dic (F.map kTrue)) := at_b _ _ _
  have e4 := in_order_d hG (by omega) (by omega) hb
  have e5 : (mmeth tb_in_order "in_order" (mvar 0) (mcons (mvar 4) mnil)) [some (.ref G), some (.tup (S.map .str)), some L, some (.ref s.length), some (.ref (s.length + 1)), none, x6'] (stO s ([], F)) = .ok (.ref (stO s ([], F)).length) (stO s ([], F) ++ [.lst ((ordd ns F).map .str)]) := by
    rw [mmeth_eq, mvar_0, R.bind_ok, met_ok hG tb_in_order "in_order" r_Graph_in_order rfl (lk_no (by decide +kernel))]
    dsimp only
    rw [mcons_eq, mvar_s, mvar_s, mvar_s, mvar_s, mvar_0, R.bind_ok, mnil_eq, R.bind_ok, R.bind_ok, e4]
  show posA 3 (runT 1 7 m_Graph_reached) [.ref G, .tup (S.map .str), L] [] s = _
  rw [posA_at (show [W.ref G, W.tup (S.map .str), L].length = 3 from rfl)]
  have hst : stO s ([], F) ++ [O.lst ((ordd ns F).map .str)] = s ++ ([.lst [], .dic (F.map kTrue)] ++ [.lst ((ordd ns F).map .str)]) := by
    unfold stO
    rw [List.append_assoc]; rfl
  have hm : (stO s ([], F)).length = s.length + 2 := by unfold stO; simp
  refine runT_rt (s' := s ++ ([.lst [], .dic (F.map kTrue)] ++ [.lst ((ordd ns F).map .str)])) (w := .ref (s.length + 2)) ?_ (trim_keep Chg.rfl (by omega) (by rw [List.getElem?_append_right (by omega)]; simp) (lows_strs _ _))
  show m_Graph_reached [some (.ref G), some (.tup (S.map .str)), some L, none, none, none, none] s = _
  have em : m_Graph_reached = sseq (sset 3 (mfn (gListA true) (mcons (mvar 1) mnil))) (sseq (sset 4 (mdc true (miany (mvar 3)) (.nm 5) myes (mvar 5) (mc (.bl true)) [5])) (sseq (swhile mCond mTurn) (sseq (sret (mmeth tb_in_order "in_order" (mvar 0) (mcons (mvar 4) mnil))) snil))) := rfl
  rw [em, sseq_eq, sset_eq, r1_ok, R.toS_ok, RS.then_nx]
  rw [show (List.set [some (W.ref G), some (W.tup (S.map .str)), some L, none, none, none, none] 3 (some (W.ref s.length))) = [some (W.ref G), some (W.tup (S.map .str)), some L, some (W.ref s.length), none, none, none] from rfl]
  rw [sseq_eq, sset_eq, r2_ok (by omega), R.toS_ok, RS.then_nx]
  rw [show (List.set [some (W.ref G), some (W.tup (S.map .str)), some L, some (W.ref s.length), none, none, none] 4 (some (W.ref (s.length + 1)))) = [some (W.ref G), some (W.tup (S.map .str)), some L, some (W.ref s.length), some (W.ref (s.length + 1)), none, none] from rfl]
  rw [sseq_eq, e3, RS.then_nx, sseq_eq, sret_eq, e5, R.toS_ok, RS.then_rt, hst, hm]
/-! ### the graph's own links -/
def scOf (ns : Net) (x : Str) : List Str := match ns.find? fun q => decide (q.1 = x) with
  | some q => q.2
  | none => []
theorem valW_at {ns : Net} {x : Str} (hx : x ∈ ns.map (·.1)) : valW (gKs ns) (.inr x) = some (.lst ((scOf ns x).map .str)) := by
  unfold valW gKs scOf
  induction ns with
  | nil => cases hx
  | cons q ns ih =>
    rw [List.map_cons, List.find?_cons, List.find?_cons]
    by_cases h : q.1 = x
    · subst h; simp
    · have h1 : decide (((Sum.inr q.1, W.lst (q.2.map .str)) : Key × W).1 = (.inr x : Key)) = false := by simp [h]
      have h2 : decide (q.1 = x) = false := by simp [h]
      rw [h1, h2]
      rw [List.map_cons] at hx
      exact ih ((List.mem_cons.mp hx).resolve_left (Ne.symm h))
theorem lk_own {G D : Nat} {ns : Net} {s : Sto} (h : GAt G D ns s) : LkAt s (.ref D) (ns.map (·.1)) (scOf ns) := by
  refine ⟨fun x hx => ⟨.lst ((scOf ns x).map .str), [], fun v => ?_, fun v => rfl, fun m ws u v e => miany_f e⟩⟩
  have hd : dicAt (stO s v) (.ref D) = some (gKs ns) := (GAt.app (t := [.lst (v.1.map .str), .dic (v.2.map kTrue)]) h).d
  unfold gIx
  simp only [hd, keyW, valW_at hx]
  rfl
/-- what is asked of a net -/
structure NetOk (ns : Net) : Prop where
  nd : (ns.map (·.1)).Nodup
  hn : ns.length ≤ 40
  hw : ∀ x ∈ ns.map (·.1), IsWord x
  hs : ∀ q ∈ ns, ∀ y ∈ q.2, y ∈ ns.map (·.1)
  hc : ∀ q ∈ ns, q.2.length ≤ 400
  nd2 : ∀ q ∈ ns, q.2.Nodup
theorem word_str {x : Str} (h : IsWord x) : PyData.strOk x = true := by
  unfold PyData.strOk
  rw [Array.all_eq_true_iff_forall_mem]
  intro c hc
  have := h.ls c (by simpa using hc)
  exact decide_eq_true (by have := this.2; omega)
theorem scOf_mem {ns : Net} {x : Str} (hx : x ∈ ns.map (·.1)) : ∃ q ∈ ns, q.2 = scOf ns x := by
  unfold scOf
  cases e : ns.find? fun q => decide (q.1 = x) with
  | none =>
    obtain ⟨q, hq, hqx⟩ := List.mem_map.mp hx
    have := List.find?_eq_none.mp e q hq
    simp [hqx] at this
  | some q => exact ⟨q, List.mem_of_find?_eq_some e, rfl⟩
theorem closure_ok {G D : Nat} {ns : Net} {s : Sto} {S : List Str} (h : GAt G D ns s) (ho : NetOk ns) (hS : ∀ x ∈ S, x ∈ ns.map (·.1)) (hl : S.length ≤ 100) :
    ∃ F, (∀ y, y ∈ F ↔ Rch (scOf ns) S y) ∧ r_Graph_closure (.ref G :: S.map .str) [] s = .ok (.ref s.length) (s ++ [.lst ((ordd ns F).map .str)]) := by
  obtain ⟨F, hF, er⟩ := reached_ok h (lk_own h) (fun x hx y hy => by obtain ⟨q, hq, e⟩ := scOf_mem hx; exact ho.hs q hq y (e ▸ hy)) (fun x hx => by obtain ⟨q, hq, e⟩ := scOf_mem hx; rw [← e]; exact ho.hc q hq) (by rw [List.length_map]; have := ho.hn; omega) (fun x hx => word_str (ho.hw x hx)) hS hl
  refine ⟨F, hF, ?_⟩
  have e0 : miany (mvar 1) [some (.ref G), some (.tup (S.map .str)), none] s = .ok ⟨S.map .str, [], none⟩ s := miany_t rfl
  have e1 := require_ok h e0 rfl hS
  have e2 : (mmeth tb_require_tasks "require_tasks" (mvar 0) (mcons (mvar 1) mnil)) [some (.ref G), some (.tup (S.map .str))] s = .ok .non s := by
    rw [mmeth_eq, mvar_0, R.bind_ok, met_ok h tb_require_tasks "require_tasks" r_Graph_require_tasks rfl (lk_no (by decide +kernel))]
    dsimp only
    rw [mcons_eq, mvar_s, mvar_0, R.bind_ok, mnil_eq, R.bind_ok, R.bind_ok, e1]
  have e3 : (mmeth tb_reached "reached" (mvar 0) (mcons (mvar 1) (mcons (mfld fld_links "links" (mvar 0)) mnil))) [some (.ref G), some (.tup (S.map .str))] s = .ok (.ref s.length) (s ++ [.lst ((ordd ns F).map .str)]) := by
    rw [mmeth_eq, mvar_0, R.bind_ok, met_ok h tb_reached "reached" r_Graph_reached rfl (lk_no (by decide +kernel))]
    dsimp only
    rw [mcons_eq, mvar_s, mvar_0, R.bind_ok, mcons_eq, mfld_eq, mvar_0, R.bind_ok, fld_ok h]
    dsimp only
    rw [R.bind_ok, mnil_eq, R.bind_ok, R.bind_ok, R.bind_ok, er]
  have e4 : runB 2 m_Graph_closure [.ref G, .tup (S.map .str)] s = .ok (.ref s.length) (s ++ [.lst ((ordd ns F).map .str)]) := by
    refine runB_rt ?_
    show m_Graph_closure [some (.ref G), some (.tup (S.map .str))] s = _
    unfold m_Graph_closure
    rw [sseq_eq, sexpr_eq, e2, R.toS_ok, RS.then_nx, sseq_eq, sret_eq, e3, R.toS_ok, RS.then_rt]
  show (varA 1 (runB 2 m_Graph_closure) (.ref G :: S.map .str) [] s).trim 1 s = _
  have e5 : varA 1 (runB 2 m_Graph_closure) (.ref G :: S.map .str) [] s = runB 2 m_Graph_closure [.ref G, .tup (S.map .str)] s := by
    unfold varA
    rw [if_pos ⟨rfl, by rw [List.length_cons]; omega, by rw [List.length_cons, List.length_map]; omega⟩]
    rfl
  rw [e5, e4]
  exact trim_keep Chg.rfl (Nat.le_refl _) (at_new _ _) (lows_strs _ _)
end K21

namespace K21
open PySem PySem.Spec PyProof.Rows L2 Va
local macro_rules
  | `(tactic| simp! [$ls,*]) => `(tactic| simp -implicitDefEqProofs only [sseq_eq, snil_eq, sret_eq, sexpr_eq, sset_eq, sasg_eq, sif_eq, mvar_s, mvar_0, mc_eq, mbin_eq, mun_eq, mnil_eq, mcons_eq, mfn_eq, mtb_eq, mnot_eq, mtru_eq, mbm_eq, mmeth_eq, mfld_eq, mcall_eq, gname_eq, gsub_eq, R.bind_ok, R.toS_ok, R.of_some, R.cl_ok, RS.then_nx, RS.then_rt, gtru_bl, List.set_cons_zero, List.set_cons_succ, if_true, Bool.false_eq_true, if_false, Bool.not_true, Bool.not_false, reduceIte, $ls,*])
/-- the tasks with P, in the order of the graph -/
noncomputable def filtP (ns : Net) (P : Str → Prop) : List Str := (ns.map (·.1)).filter fun x => @decide (P x) (Classical.propDecidable _)
theorem filtP_congr {ns : Net} {P Q : Str → Prop} (h : ∀ x ∈ ns.map (·.1), P x ↔ Q x) : filtP ns P = filtP ns Q := by
  unfold filtP
  refine List.filter_congr fun x hx => ?_
  exact decide_eq_decide.mpr (h x hx)
theorem mem_filtP {ns : Net} {P : Str → Prop} {x : Str} : x ∈ filtP ns P ↔ x ∈ ns.map (·.1) ∧ P x := by
  unfold filtP
  rw [List.mem_filter, @decide_eq_true_iff _ (Classical.propDecidable _)]
theorem filtP_filter {ns : Net} {P : Str → Prop} (Q : Str → Bool) : (filtP ns P).filter Q = filtP ns fun x => P x ∧ Q x = true := by
  unfold filtP
  rw [List.filter_filter]
  refine List.filter_congr fun x _ => ?_
  by_cases h1 : P x <;> by_cases h2 : Q x = true <;> simp [h1, h2]
/-- what can be reached, in the order of the graph -/
noncomputable def cloS (ns : Net) (S : List Str) : List Str := filtP ns (Rch (scOf ns) S)
theorem ordd_of {ns : Net} {F : List Str} {P : Str → Prop} (h : ∀ y, y ∈ F ↔ P y) : ordd ns F = filtP ns P := by
  unfold ordd filtP
  refine List.filter_congr fun x _ => ?_
  exact decide_eq_decide.mpr (h x)
theorem clo_ok {G D : Nat} {ns : Net} {s : Sto} {S : List Str} (h : GAt G D ns s) (ho : NetOk ns) (hS : ∀ x ∈ S, x ∈ ns.map (·.1)) (hl : S.length ≤ 100) :
    r_Graph_closure (.ref G :: S.map .str) [] s = .ok (.ref s.length) (s ++ [.lst ((cloS ns S).map .str)]) := by
  obtain ⟨F, hF, e⟩ := closure_ok h ho hS hl
  rw [e, ordd_of hF]; rfl
/-! ### users -/
def usK (b : Nat) : List Str → List (Key × W)
  | [] => []
  | x :: xs => (.inr x, .ref b) :: usK (b + 1) xs
theorem usK_len (xs : List Str) : ∀ b, (usK b xs).length = xs.length := by
  induction xs with
  | nil => intro b; rfl
  | cons x xs ih => intro b; simp [usK, ih]
theorem usK_val {x : Str} : ∀ {xs : List Str} {b : Nat}, x ∈ xs → valW (usK b xs) (.inr x) = some (.ref (b + xs.idxOf x))
  | y :: ys, b, h => by
    unfold valW usK
    rw [List.find?_cons]
    by_cases e : y = x
    · subst e; simp
    · have h1 : decide ((((Sum.inr y : Key), W.ref b) : Key × W).1 = .inr x) = false := by simp [e]
      rw [h1]
      have h2 : x ∈ ys := (List.mem_cons.mp h).resolve_left (Ne.symm e)
      have := usK_val (b := b + 1) h2
      unfold valW at this
      have h3 : (y == x) = false := by simpa using e
      rw [this, List.idxOf_cons, h3]
      show some (W.ref (b + 1 + ys.idxOf x)) = some (W.ref (b + (ys.idxOf x + 1)))
      rw [show b + 1 + ys.idxOf x = b + (ys.idxOf x + 1) from by omega]
theorem usK_has {x : Str} : ∀ {xs : List Str} {b : Nat}, x ∉ xs → ((usK b xs).any fun kv => decide (kv.1 = .inr x)) = false
  | [], _, _ => rfl
  | y :: ys, b, h => by
    have h1 : y ≠ x := fun e => h (e ▸ List.mem_cons_self)
    rw [usK, List.any_cons, usK_has fun q => h (List.mem_cons_of_mem _ q)]
    simp [h1]
def uO (s : Sto) (names : List Str) (f : Str → List Str) : Sto := s ++ (names.map fun x => O.lst ((f x).map .str))
theorem uO_at {s : Sto} {names : List Str} {f : Str → List Str} {x : Str} (hx : x ∈ names) : (uO s names f)[s.length + names.idxOf x]? = some (.lst ((f x).map .str)) := by
  have hi := List.idxOf_lt_length_of_mem hx
  unfold uO
  rw [List.getElem?_append_right (by omega), Nat.add_sub_cancel_left, List.getElem?_map, List.getElem?_eq_getElem hi]
  rw [List.getElem_idxOf hi]; rfl
theorem dicAt_t (kvs : List (Key × W)) (s : Sto) : dicAt s (.dic kvs) = some kvs := by
  show some ((kvs.map (·.1)).zip (kvs.map (·.2))) = _
  rw [zip_maps]
theorem gIx_t {kvs : List (Key × W)} {x : Str} {w : W} {s : Sto} (h : valW kvs (.inr x) = some w) : gIx (.dic kvs) (.str x) s = some (w, s) := by
  have hd := dicAt_t kvs s
  unfold W.dic at hd ⊢
  unfold gIx
  simp only [hd, keyW, h]
  rfl
def upF (f : Str → List Str) (x : Str) (t : Str) : Str → List Str := fun z => if z = x then f z ++ [t] else f z
theorem uO_set {s : Sto} {names : List Str} {f : Str → List Str} {x t : Str} (nd : names.Nodup) (hx : x ∈ names) : (uO s names f).set (s.length + names.idxOf x) (.lst ((f x ++ [t]).map .str)) = uO s names (upF f x t) := by
  have hi := List.idxOf_lt_length_of_mem hx
  unfold uO
  rw [List.set_append_right _ _ (by omega), Nat.add_sub_cancel_left]
  congr 1
  refine List.ext_getElem? fun i => ?_
  rw [List.getElem?_set, List.getElem?_map, List.getElem?_map]
  by_cases e : names.idxOf x = i
  · subst e
    rw [if_pos rfl, List.length_map, if_pos hi, List.getElem?_eq_getElem hi, List.getElem_idxOf hi]
    show _ = some (O.lst ((upF f x t x).map .str))
    unfold upF; rw [if_pos rfl]
  · rw [if_neg e]
    cases hn : names[i]? with
    | none => rfl
    | some z =>
      have hz : z ≠ x := fun q => by
        subst q
        obtain ⟨hl, e2⟩ := List.getElem?_eq_some_iff.mp hn
        exact e (by rw [← e2]; exact nd.idxOf_getElem i hl)
      show some _ = some (O.lst ((upF f x t z).map .str))
      unfold upF; rw [if_neg hz]
/-- users' lists grow -/
def stU (t : Str) (f : Str → List Str) (x : Str) : Str → List Str := upF f x t
def mUse : MS := (sseq (sexpr (mbm "list" gAppend (mbin gIx (mvar 2) (mvar 5)) (mcons (mvar 3) mnil)))
    snil)
theorem use_ok {s : Sto} {names : List Str} {f : Str → List Str} {x t : Str} {x0 x1 x4 : Option W} (nd : names.Nodup) (hx : x ∈ names) (hl : (f x).length < 100000) :
    mUse [x0, x1, some (.dic (usK s.length names)), some (.str t), x4, some (.str x)] (uO s names f) = .nx [x0, x1, some (.dic (usK s.length names)), some (.str t), x4, some (.str x)] (uO s names (stU t f x)) := by
  have e1 : gIx (.dic (usK s.length names)) (.str x) (uO s names f) = some (.ref (s.length + names.idxOf x), uO s names f) := gIx_t (usK_val hx)
  have ty : tyM (.ref (s.length + names.idxOf x)) (uO s names f) = "list" := by
    unfold tyM
    simp only [lstAt_r (uO_at hx)]
  have e3 : gAppend (.ref (s.length + names.idxOf x)) [.str t] (uO s names f) = some (.non, uO s names (stU t f x)) := by
    unfold gAppend
    simp only [muAt_r (uO_at hx)]
    rw [if_pos (by rw [List.length_map]; omega)]
    show some (W.non, (uO s names f).set (s.length + names.idxOf x) (.lst ((f x).map .str ++ [.str t]))) = _
    have em : (f x ++ [t]).map W.str = (f x).map .str ++ [.str t] := by rw [List.map_append]; rfl
    rw [← em, uO_set nd hx]; rfl
  unfold mUse
  simp! [e1, ty, e3]
theorem foldU_len (t : Str) (z : Str) (ys : List Str) : ∀ f : Str → List Str, (ys.foldl (stU t) f z).length = (f z).length + ys.count z := by
  induction ys with
  | nil => intro f; rfl
  | cons y ys ih =>
    intro f
    rw [List.foldl_cons, ih, List.count_cons]
    show (upF f y t z).length + _ = _
    unfold upF
    by_cases h : z = y
    · subst h; simp; omega
    · rw [if_neg h, if_neg (by simpa using Ne.symm h)]; omega
theorem foldU_mem (t : Str) (z y : Str) (ys : List Str) : ∀ f : Str → List Str, y ∈ ys.foldl (stU t) f z ↔ y ∈ f z ∨ (y = t ∧ z ∈ ys) := by
  induction ys with
  | nil => intro f; simp
  | cons w ys ih =>
    intro f
    rw [List.foldl_cons, ih]
    show y ∈ upF f w t z ∨ _ ↔ _
    unfold upF
    by_cases h : z = w
    · subst h
      rw [if_pos rfl, List.mem_append, List.mem_singleton]
      constructor
      · rintro ((h | h) | h)
        · exact .inl h
        · exact .inr ⟨h, List.mem_cons_self⟩
        · exact .inr ⟨h.1, List.mem_cons_of_mem _ h.2⟩
      · rintro (h | h)
        · exact .inl (.inl h)
        · exact .inl (.inr h.1)
    · rw [if_neg h]
      constructor
      · rintro (h' | h')
        · exact .inl h'
        · exact .inr ⟨h'.1, List.mem_cons_of_mem _ h'.2⟩
      · rintro (h' | h')
        · exact .inl h'
        · exact .inr ⟨h'.1, (List.mem_cons.mp h'.2).resolve_left h⟩
theorem useL_ok {s : Sto} {names : List Str} {t : Str} (nd : names.Nodup) {x0 x1 : Option W} {ys : List Str} {f : Str → List Str} {x5 : Option W} (hy : ∀ y ∈ ys, y ∈ names) (hl : ∀ z, (f z).length + ys.length < 100000) :
    ∃ x5', sfor (miany (mvar 4)) (gname 5) mUse [x0, x1, some (.dic (usK s.length names)), some (.str t), some (.lst (ys.map .str)), x5] (uO s names f) = .nx [x0, x1, some (.dic (usK s.length names)), some (.str t), some (.lst (ys.map .str)), x5'] (uO s names (ys.foldl (stU t) f)) := by
  refine sfor_inv (g := gname 5) (b := mUse) (miany_f (m := mvar 4) rfl)
    (fun zs ws u => ∃ (v : Str → List Str) (zl : List Str) (y6 : Option W), zs = zl.map .str ∧ ws = [x0, x1, some (.dic (usK s.length names)), some (.str t), some (.lst (ys.map .str)), y6] ∧ u = uO s names v ∧ zl.foldl (stU t) v = ys.foldl (stU t) f ∧ (∀ y ∈ zl, y ∈ names) ∧ ∀ z, (v z).length + zl.length < 100000)
    (fun r => ∃ x5', r = .nx [x0, x1, some (.dic (usK s.length names)), some (.str t), some (.lst (ys.map .str)), x5'] (uO s names (ys.foldl (stU t) f)))
    ⟨f, ys, x5, rfl, rfl, rfl, rfl, hy, hl⟩ (fun x zs ws u hI => ?_) (fun ws u hI => ?_)
  · obtain ⟨v, zl, y6, ez, rfl, rfl, ef, hz, l1⟩ := hI
    cases zl with
    | nil => cases ez
    | cons z zl =>
      rw [List.map_cons, List.cons.injEq] at ez
      obtain ⟨rfl, rfl⟩ := ez
      refine ⟨rfl, _, _, rfl, .inl ⟨_, _, .inl (use_ok nd (hz z List.mem_cons_self) (by have := l1 z; omega)), stU t v z, zl, some (.str z), rfl, rfl, rfl, ef, fun y hy => hz y (List.mem_cons_of_mem _ hy), fun w => ?_⟩⟩
      have := l1 w
      rw [List.length_cons] at this
      show (upF v z t w).length + _ < _
      unfold upF
      split
      · rw [List.length_append, List.length_singleton]; omega
      · omega
  · obtain ⟨v, zl, y6, ez, rfl, rfl, ef, hz, l1⟩ := hI
    cases zl with
    | cons z zl => cases ez
    | nil => exact ⟨rfl, y6, by rw [← ef]; rfl⟩
/-- who depends directly on it -/
def usr (ns : Net) : Str → List Str := ns.foldl (fun f q => q.2.foldl (stU q.1) f) fun _ => []
theorem usr_gen (ns : Net) : ∀ (f : Str → List Str) (z y : Str), y ∈ ns.foldl (fun f q => q.2.foldl (stU q.1) f) f z ↔ y ∈ f z ∨ ∃ q ∈ ns, q.1 = y ∧ z ∈ q.2 := by
  induction ns with
  | nil => intro f z y; simp
  | cons q ns ih =>
    intro f z y
    rw [List.foldl_cons, ih, foldU_mem]
    constructor
    · rintro ((h | h) | ⟨p, hp, h⟩)
      · exact .inl h
      · exact .inr ⟨q, List.mem_cons_self, h.1.symm, h.2⟩
      · exact .inr ⟨p, List.mem_cons_of_mem _ hp, h⟩
    · rintro (h | ⟨p, hp, h⟩)
      · exact .inl (.inl h)
      · rcases List.mem_cons.mp hp with rfl | hp
        · exact .inl (.inr ⟨h.1.symm, h.2⟩)
        · exact .inr ⟨p, hp, h⟩
theorem usr_mem {ns : Net} {z y : Str} : y ∈ usr ns z ↔ ∃ q ∈ ns, q.1 = y ∧ z ∈ q.2 := by
  unfold usr
  rw [usr_gen]; simp
theorem usr_len (ns : Net) (h : ∀ q ∈ ns, q.2.Nodup) : ∀ (f : Str → List Str) (z : Str), (ns.foldl (fun f q => q.2.foldl (stU q.1) f) f z).length ≤ (f z).length + ns.length := by
  induction ns with
  | nil => intro f z; simp
  | cons q ns ih =>
    intro f z
    rw [List.foldl_cons]
    have := ih (fun p hp => h p (List.mem_cons_of_mem _ hp)) (q.2.foldl (stU q.1) f) z
    rw [foldU_len] at this
    have h1 : q.2.count z ≤ 1 := List.nodup_iff_count.mp (h q List.mem_cons_self) z
    rw [List.length_cons]
    omega
/-! ### users = {task: [] ..} -/
theorem mdc_dk {mu : Bool} {m : ME} {t : Tgt} {c : MT} {ek ev : ME} {vs : List Nat} {ws : Va.Loc} {s s1 u' s3 : Sto} {n : Nat} {l ys : List (Key × W)} {o0 : O} {w : W} (hm : m ws s = .ok (.ref n) s1) (hd : dicAt s1 (.ref n) = some l) (ho : s1[n]? = some o0)
    (hl : loopD [(n, .lck l)] t c ek ev (wipeW ws vs) (keysW' l) [] (s1.set n (.lck l)) = .ok ys u') (lk : u'[n]? = some (.lck l)) (hn : newD mu ys (u'.set n o0) = some (w, s3)) : mdc mu (miany m) t c ek ev vs ws s = .ok w s3 := by
  unfold mdc
  rw [any_dic hm hd]
  rcases dk_cases (f := keysW') hm hd with ⟨q, e0⟩ | ⟨q, e0⟩
  · rw [e0, R.bind_ok]
    rw [q] at ho; cases ho
    show ((loopD [(n, .lck l)] t c ek ev (wipeW ws vs) (keysW' l) [] (s1.set n (.lck l))).fin ⟨keysW' l, [(n, .lck l)], some (n, l)⟩).bind _ = _
    rw [hl]
    have : unlk n l u' = some (u'.set n (.dic l)) := by
      unfold unlk
      rw [if_pos lk]
    show (match unlk n l u' with
      | some s' => R.ok ys s'
      | none => .no).bind _ = _
    rw [this]
    show R.of (newD mu ys (u'.set n (.dic l))) = _
    rw [hn]; rfl
  · rw [e0, R.bind_ok]
    rw [q] at ho; cases ho
    rw [set_same q] at hl
    rw [set_same lk] at hn
    show ((loopD [(n, .lck l)] t c ek ev (wipeW ws vs) (keysW' l) [] s1).fin ⟨keysW' l, [(n, .lck l)], none⟩).bind _ = _
    rw [hl, R.fin_plain, R.bind_ok, hn]; rfl
theorem loopD_new {D : Nat} {lk : List (Key × W)} {x0 x1 x2 x4 x5 : Option W} : ∀ (xs : List Str) (acc : List (Key × W)) (u : Sto) (x3 : Option W), u[D]? = some (.lck lk) → xs.Nodup → (∀ x ∈ xs, (acc.any fun kv => decide (kv.1 = .inr x)) = false) → acc.length + xs.length ≤ 1000 →
    loopD [(D, .lck lk)] (.nm 3) myes (mvar 3) (mlst true mnil) [x0, x1, x2, x3, x4, x5] (xs.map .str) acc u = .ok (acc ++ usK u.length xs) (u ++ xs.map fun _ => O.lst [])
  | [], acc, u, x3, hu, _, _, _ => by
    rw [List.map_nil]
    unfold loopD
    rw [if_pos (gdOk_one hu)]
    simp [usK]
  | x :: xs, acc, u, x3, hu, nd, hk, hl => by
    rw [List.map_cons]
    unfold loopD
    rw [if_pos (gdOk_one hu)]
    have e1 : (Tgt.nm 3).put (.str x) [x0, x1, x2, x3, x4, x5] = some [x0, x1, x2, some (.str x), x4, x5] := rfl
    have e2 : (mlst true mnil) [x0, x1, x2, some (.str x), x4, x5] u = .ok (.ref u.length) (u ++ [.lst []]) := by
      rw [mlst_eq, mnil_eq, R.bind_ok, if_pos (show ([] : List W).length ≤ 16777216 from Nat.zero_le _), newL_t, R.of_some]
    simp only [e1]
    have e3 : myes [x0, x1, x2, some (.str x), x4, x5] u = .ok true u := rfl
    rw [e3, R.cl_ok, R.bind_ok, if_pos rfl]
    simp only [mvar_s, mvar_0, R.cl_ok, R.bind_ok, e2, keyW]
    rw [List.length_cons] at hl
    rw [if_pos (by omega)]
    have ep : putW acc (.inr x) (.ref u.length) = acc ++ [(.inr x, .ref u.length)] := by
      unfold putW
      rw [hk x List.mem_cons_self, if_neg (by simp)]
    have nd' := List.nodup_cons.mp nd
    rw [ep, show ([x0, x1, x2, x3, x4, x5] : Va.Loc) = [x0, x1, x2, x3, x4, x5] from rfl, loopD_new xs _ _ x3 (at_app hu) nd'.2 (fun y hy => ?_) (by rw [List.length_append, List.length_singleton]; omega)]
    · rw [List.append_assoc, List.append_assoc, List.length_append, List.length_singleton]; rfl
    · rw [List.any_append, hk y (List.mem_cons_of_mem _ hy)]
      have : x ≠ y := fun e => nd'.1 (e ▸ hy)
      simp [this]
theorem GAt.lt {G D : Nat} {ns : Net} {s : Sto} (h : GAt G D ns s) : D < s.length := by
  rcases dicAt_cases h.d with q | q
  · exact lt_of_at q
  · exact lt_of_at q
theorem fldm {G D : Nat} {ns : Net} {s : Sto} {ws : Va.Loc} (h : GAt G D ns s) (h0 : ws[0]? = some (some (.ref G))) : (mfld fld_links "links" (mvar 0)) ws s = .ok (.ref D) s := by
  rw [mfld_eq, mvar_at h0, R.bind_ok, fld_ok h]
theorem users_ok {G D : Nat} {ns : Net} {s : Sto} (h : GAt G D ns s) (ho : NetOk ns) {x1 x2 x4 x5 : Option W} :
    (mdc false (miany (mfld fld_links "links" (mvar 0))) (.nm 3) myes (mvar 3) (mlst true mnil) [3]) [some (.ref G), x1, x2, none, x4, x5] s = .ok (.dic (usK s.length (ns.map (·.1)))) (uO s (ns.map (·.1)) fun _ => []) := by
  have hlt := h.lt
  obtain ⟨o0, ho0⟩ : ∃ o0, s[D]? = some o0 := ⟨_, List.getElem?_eq_getElem hlt⟩
  have hll : (s.set D (.lck (gKs ns)))[D]? = some (.lck (gKs ns)) := List.getElem?_set_self hlt
  have hloop := loopD_new (D := D) (lk := gKs ns) (x0 := some (.ref G)) (x1 := x1) (x2 := x2) (x4 := x4) (x5 := x5) (ns.map (·.1)) [] (s.set D (.lck (gKs ns))) none hll ho.nd (fun _ _ => rfl) (by rw [List.length_nil, Nat.zero_add, List.length_map]; have := ho.hn; omega)
  rw [← keys_ks, List.nil_append, List.length_set] at hloop
  refine mdc_dk (fldm h rfl) h.d ho0 hloop (at_app hll) ?_
  have e1 : ((s.set D (.lck (gKs ns)) ++ (ns.map (·.1)).map fun _ => O.lst []).set D o0) = s ++ (ns.map (·.1)).map fun _ => O.lst [] := by
    rw [List.set_append_left _ _ (by rw [List.length_set]; exact hlt), List.set_set, set_same ho0]
  rw [e1, newD_f]
  unfold uO
  rfl
end K21

namespace K21
open PySem PySem.Spec PyProof.Rows L2 Va
local macro_rules
  | `(tactic| simp! [$ls,*]) => `(tactic| simp -implicitDefEqProofs only [sseq_eq, snil_eq, sret_eq, sexpr_eq, sset_eq, sasg_eq, sif_eq, mvar_s, mvar_0, mc_eq, mbin_eq, mun_eq, mnil_eq, mcons_eq, mfn_eq, mtb_eq, mnot_eq, mtru_eq, mbm_eq, mmeth_eq, mfld_eq, mcall_eq, gname_eq, gsub_eq, R.bind_ok, R.toS_ok, R.of_some, R.cl_ok, RS.then_nx, RS.then_rt, gtru_bl, List.set_cons_zero, List.set_cons_succ, if_true, Bool.false_eq_true, if_false, Bool.not_true, Bool.not_false, reduceIte, $ls,*])
theorem at_sO {s : Sto} {names : List Str} {f : Str → List Str} {D : Nat} {o : O} (h : s[D]? = some o) : (uO s names f)[D]? = some o := at_app h
theorem uO_un {s : Sto} {names : List Str} {f : Str → List Str} {D : Nat} {o o0 : O} (hlt : D < s.length) (ho : s[D]? = some o0) : (uO (s.set D o) names f).set D o0 = uO s names f := by
  unfold uO
  rw [List.set_append_left _ _ (by rw [List.length_set]; exact hlt), List.set_set, set_same ho]
def mOut : MS := (sseq (sfor (miany (mvar 4)) (gname 5) mUse) snil)
theorem itms_ks (ns : Net) : itmsW (gKs ns) = ns.map fun q => .tup [.str q.1, .lst (q.2.map .str)] := by
  unfold itmsW gKs
  rw [List.map_map]; rfl
theorem outL_ok {G D : Nat} {ns : Net} {s : Sto} (h : GAt G D ns s) (ho : NetOk ns) {x1 x3 x4 x5 : Option W} :
    ∃ x3' x4' x5', sfor (midic itmsW (mfld fld_links "links" (mvar 0))) (gtup 2 (gcons (gname 3) (gcons (gname 4) gnil))) mOut [some (.ref G), x1, some (.dic (usK s.length (ns.map (·.1)))), x3, x4, x5] (uO s (ns.map (·.1)) fun _ => [])
      = .nx [some (.ref G), x1, some (.dic (usK s.length (ns.map (·.1)))), x3', x4', x5'] (uO s (ns.map (·.1)) (usr ns)) := by
  have hlt := h.lt
  obtain ⟨o0, ho0⟩ : ∃ o0, s[D]? = some o0 := ⟨_, List.getElem?_eq_getElem hlt⟩
  have hG : GAt G D ns (uO s (ns.map (·.1)) fun _ => []) := h.app
  have hls : (s.set D (.lck (gKs ns))).length = s.length := List.length_set
  have hset : ∀ f, (uO s (ns.map (·.1)) f).set D (.lck (gKs ns)) = uO (s.set D (.lck (gKs ns))) (ns.map (·.1)) f := fun f => by
    unfold uO
    rw [List.set_append_left _ _ hlt]
  have r := sfor_dk (f := itmsW) (g := gtup 2 (gcons (gname 3) (gcons (gname 4) gnil))) (b := mOut) (o0 := o0) rfl (fldm (ws := [some (.ref G), x1, some (.dic (usK s.length (ns.map (·.1)))), x3, x4, x5]) hG rfl) hG.d (at_app ho0)
    (fun zs ws u => ∃ (v : Str → List Str) (zl : Net) (y3 y4 y5 : Option W), zs = (zl.map fun q => W.tup [.str q.1, .lst (q.2.map .str)]) ∧ ws = [some (.ref G), x1, some (.dic (usK s.length (ns.map (·.1)))), y3, y4, y5] ∧ u = uO (s.set D (.lck (gKs ns))) (ns.map (·.1)) v ∧ zl.foldl (fun f q => q.2.foldl (stU q.1) f) v = usr ns ∧ (∀ q ∈ zl, q ∈ ns) ∧ ∀ z, (v z).length + zl.length ≤ 40)
    ⟨fun _ => [], ns, x3, x4, x5, itms_ks ns, rfl, hset _, rfl, fun _ h => h, fun z => by have := ho.hn; simpa using this⟩
    (fun xs ws u ⟨v, zl, y3, y4, y5, _, _, eu, _⟩ => by rw [eu]; exact at_app (List.getElem?_set_self hlt))
    (fun x xs ws u ⟨v, zl, y3, y4, y5, ez, ew, eu, ef, hz, hv⟩ => by
      cases zl with
      | nil => cases ez
      | cons q zl =>
        rw [List.map_cons, List.cons.injEq] at ez
        obtain ⟨rfl, rfl⟩ := ez
        subst ew eu
        have hq := hz q List.mem_cons_self
        have hc := ho.hc q hq
        obtain ⟨x5', e1⟩ := useL_ok (s := s.set D (.lck (gKs ns))) (names := ns.map (·.1)) (t := q.1) ho.nd (x0 := some (.ref G)) (x1 := x1) (ys := q.2) (f := v) (x5 := y5) (ho.hs q hq) (fun z => by have := hv z; omega)
        rw [hls] at e1
        refine ⟨_, _, by rw [gtup_eq, if_pos (show [W.str q.1, W.lst (q.2.map .str)].length = 2 from rfl)]; rfl, _, _, .inl ?_, q.2.foldl (stU q.1) v, zl, some (.str q.1), some (.lst (q.2.map .str)), x5', rfl, rfl, rfl, ef, fun p hp => hz p (List.mem_cons_of_mem _ hp), fun z => ?_⟩
        · unfold mOut
          rw [sseq_eq]
          show RS.andThen (sfor (miany (mvar 4)) (gname 5) mUse [some (.ref G), x1, some (.dic (usK s.length (ns.map (·.1)))), some (.str q.1), some (.lst (q.2.map .str)), y5] _) _ = _
          rw [e1, RS.then_nx, snil_eq]
        · rw [foldU_len]
          have h1 : q.2.count z ≤ 1 := List.nodup_iff_count.mp (ho.nd2 q hq) z
          have := hv z
          rw [List.length_cons] at this
          omega)
  obtain ⟨ws', u', e, v, zl, y3, y4, y5, ez, ew, eu, ef, _, _⟩ := r
  cases zl with
  | cons q zl => cases ez
  | nil =>
    subst ew eu
    rw [uO_un hlt ho0] at e
    exact ⟨y3, y4, y5, by rw [e, ← ef]; rfl⟩
theorem lk_users {s : Sto} {names : List Str} {f : Str → List Str} : LkAt (uO s names f) (.dic (usK s.length names)) names f := by
  refine ⟨fun x hx => ⟨.ref (s.length + names.idxOf x), [(s.length + names.idxOf x, .lst ((f x).map .str))], fun v => ?_, fun v => gdOk_one (at_app (uO_at hx)), fun m ws u v e => miany_r e (at_app (uO_at hx))⟩⟩
  exact gIx_t (usK_val hx)
theorem Rch.tr {sc : Str → List Str} {S : List Str} {x y : Str} (h : Rch sc S x) (h2 : Rch sc [x] y) : Rch sc S y := by
  induction h2 with
  | base q => rw [List.mem_singleton.mp q]; exact h
  | step _ q ih => exact .step ih q
/-- against the arrows -/
theorem rch_rev {sc sc' : Str → List Str} {S : List Str} (h : ∀ x y, y ∈ sc' x ↔ x ∈ sc y) (y : Str) : Rch sc' S y ↔ ∃ z ∈ S, Rch sc [y] z := by
  constructor
  · intro r
    induction r with
    | base q => exact ⟨_, q, .base (List.mem_singleton.mpr rfl)⟩
    | @step x y _ q ih =>
      obtain ⟨z, hz, hr⟩ := ih
      exact ⟨z, hz, Rch.tr (.step (.base (List.mem_singleton.mpr rfl)) ((h x y).mp q)) hr⟩
  · rintro ⟨z, hz, r⟩
    have key : ∀ x, Rch sc [y] x → Rch sc' [x] y := by
      intro x r
      induction r with
      | base q => rw [List.mem_singleton.mp q]; exact .base (List.mem_singleton.mpr rfl)
      | @step a b _ q ih => exact Rch.tr (.step (.base (List.mem_singleton.mpr rfl)) ((h b a).mpr q)) ih
    exact Rch.tr (.base hz) (key z r)
theorem scOf_at {ns : Net} (nd : (ns.map (·.1)).Nodup) {q : Str × List Str} (hq : q ∈ ns) : scOf ns q.1 = q.2 := by
  unfold scOf
  induction ns with
  | nil => cases hq
  | cons p ns ih =>
    rw [List.map_cons, List.nodup_cons] at nd
    rw [List.find?_cons]
    rcases List.mem_cons.mp hq with rfl | hq
    · simp
    · have : p.1 ≠ q.1 := fun e => nd.1 (e ▸ List.mem_map_of_mem hq)
      rw [decide_eq_false this]
      exact ih nd.2 hq
theorem scOf_no {ns : Net} {x : Str} (h : x ∉ ns.map (·.1)) : scOf ns x = [] := by
  unfold scOf
  have : ns.find? (fun q => decide (q.1 = x)) = none := List.find?_eq_none.mpr fun q hq => by
    have : q.1 ≠ x := fun e => h (e ▸ List.mem_map_of_mem hq)
    simpa using this
  rw [this]
theorem usr_sc {ns : Net} (nd : (ns.map (·.1)).Nodup) (x y : Str) : y ∈ usr ns x ↔ x ∈ scOf ns y := by
  rw [usr_mem]
  constructor
  · rintro ⟨q, hq, rfl, hx⟩
    rw [scOf_at nd hq]; exact hx
  · intro h
    by_cases hy : y ∈ ns.map (·.1)
    · obtain ⟨q, hq, rfl⟩ := List.mem_map.mp hy
      exact ⟨q, hq, rfl, by rw [← scOf_at nd hq]; exact h⟩
    · rw [scOf_no hy] at h; cases h
/-- what depends on one of S, in the order of the graph -/
noncomputable def depS (ns : Net) (S : List Str) : List Str := filtP ns fun x => ∃ z ∈ S, Rch (scOf ns) [x] z
theorem dep_ok {G D : Nat} {ns : Net} {s : Sto} {S : List Str} (h : GAt G D ns s) (ho : NetOk ns) (hS : ∀ x ∈ S, x ∈ ns.map (·.1)) (hl : S.length ≤ 100) :
    r_Graph_dependents (.ref G :: S.map .str) [] s = .ok (.ref s.length) (s ++ [.lst ((depS ns S).map .str)]) := by
  have hG : GAt G D ns (uO s (ns.map (·.1)) (usr ns)) := h.app
  obtain ⟨F, hF, er⟩ := reached_ok hG lk_users (fun x hx y hy => by
    obtain ⟨q, hq, rfl, _⟩ := usr_mem.mp hy
    exact List.mem_map_of_mem hq) (fun x hx => by have := usr_len ns ho.nd2 (fun _ => []) x; have h4 := ho.hn; exact Nat.le_trans this (by simp; omega)) (by rw [List.length_map]; have := ho.hn; omega) (fun x hx => word_str (ho.hw x hx)) hS hl
  have eF : ordd ns F = depS ns S := ordd_of fun y => (hF y).trans (rch_rev (usr_sc ho.nd) y)
  rw [eF] at er
  have e0 : miany (mvar 1) [some (.ref G), some (.tup (S.map .str)), none] s = .ok ⟨S.map .str, [], none⟩ s := miany_t rfl
  have e1 := require_ok h e0 rfl hS
  have m1 := met_ok h tb_require_tasks "require_tasks" r_Graph_require_tasks rfl (lk_no (by decide +kernel))
  have m2 := met_ok hG tb_reached "reached" r_Graph_reached rfl (lk_no (by decide +kernel))
  have e2 := users_ok h ho (x1 := some (.tup (S.map .str))) (x2 := none) (x4 := none) (x5 := none)
  obtain ⟨x3, x4, x5, e3⟩ := outL_ok h ho (x1 := some (.tup (S.map .str))) (x3 := none) (x4 := none) (x5 := none)
  have e4 : runB 6 m_Graph_dependents [.ref G, .tup (S.map .str)] s = .ok (.ref (uO s (ns.map (·.1)) (usr ns)).length) (uO s (ns.map (·.1)) (usr ns) ++ [.lst ((depS ns S).map .str)]) := by
    refine runB_rt ?_
    show m_Graph_dependents [some (.ref G), some (.tup (S.map .str)), none, none, none, none] s = _
    have em : m_Graph_dependents = sseq (sexpr (mmeth tb_require_tasks "require_tasks" (mvar 0) (mcons (mvar 1) mnil))) (sseq (sset 2 (mdc false (miany (mfld fld_links "links" (mvar 0))) (.nm 3) myes (mvar 3) (mlst true mnil) [3])) (sseq (sfor (midic itmsW (mfld fld_links "links" (mvar 0))) (gtup 2 (gcons (gname 3) (gcons (gname 4) gnil))) mOut) (sseq (sret (mmeth tb_reached "reached" (mvar 0) (mcons (mvar 1) (mcons (mvar 2) mnil)))) snil))) := rfl
    rw [em]
    simp! [m1, e1, e2, e3, m2, er]
  show (varA 1 (runB 6 m_Graph_dependents) (.ref G :: S.map .str) [] s).trim 1 s = _
  have e5 : varA 1 (runB 6 m_Graph_dependents) (.ref G :: S.map .str) [] s = runB 6 m_Graph_dependents [.ref G, .tup (S.map .str)] s := by
    unfold varA
    rw [if_pos ⟨rfl, by rw [List.length_cons]; omega, by rw [List.length_cons, List.length_map]; omega⟩]
    rfl
  rw [e5, e4]
  have e6 : uO s (ns.map (·.1)) (usr ns) ++ [O.lst ((depS ns S).map .str)] = s ++ (((ns.map (·.1)).map fun x => O.lst ((usr ns x).map .str)) ++ [.lst ((depS ns S).map .str)]) := by
    unfold uO; simp only [List.append_assoc]
  have e7 : (uO s (ns.map (·.1)) (usr ns)).length = s.length + ns.length := by unfold uO; simp
  rw [e6, e7]
  refine trim_keep Chg.rfl (by omega) ?_ (lows_strs _ _)
  rw [List.getElem?_append_right (by omega), Nat.add_sub_cancel_left, List.getElem?_append_right (by simp)]
  simp
end K21

namespace K21
open PySem PySem.Spec PyProof.Rows L2 Va
local macro_rules
  | `(tactic| simp! [$ls,*]) => `(tactic| simp -implicitDefEqProofs only [sseq_eq, snil_eq, sret_eq, sexpr_eq, sset_eq, sasg_eq, sif_eq, mvar_s, mvar_0, mc_eq, mbin_eq, mun_eq, mnil_eq, mcons_eq, mfn_eq, mtb_eq, mnot_eq, mtru_eq, mbm_eq, mmeth_eq, mfld_eq, mcall_eq, gname_eq, gsub_eq, R.bind_ok, R.toS_ok, R.of_some, R.cl_ok, RS.then_nx, RS.then_rt, gtru_bl, List.set_cons_zero, List.set_cons_succ, if_true, Bool.false_eq_true, if_false, Bool.not_true, Bool.not_false, reduceIte, $ls,*])
theorem gIn_r {x : Str} {l : List Str} {s : Sto} {p : Nat} (h : s[p]? = some (.lst (l.map .str))) : gIn (.str x) (.ref p) s = some (.bl (decide (x ∈ l)), s) := by
  unfold gIn gInB
  simp only [dicAt_lst h, seqAt_r h]
  rw [if_pos (by rw [flatS]; rfl), anyS]; rfl
/-- the tasks on which one depends and that depend on it -/
noncomputable def grpS (ns : Net) (x : Str) : List Str := filtP ns fun y => Rch (scOf ns) [x] y ∧ Rch (scOf ns) [y] x
theorem filtP_len (ns : Net) (P : Str → Prop) : (filtP ns P).length ≤ ns.length := by
  unfold filtP
  exact Nat.le_trans (List.length_filter_le _ _) (by simp)
theorem grp_ok {G D : Nat} {ns : Net} {s : Sto} {x : Str} (h : GAt G D ns s) (ho : NetOk ns) (hx : x ∈ ns.map (·.1)) :
    r_Graph_group [.ref G, .str x] [] s = .ok (.ref s.length) (s ++ [.lst ((grpS ns x).map .str)]) := by
  have hS : ∀ y ∈ [x], y ∈ ns.map (·.1) := fun y hy => by rw [List.mem_singleton.mp hy]; exact hx
  have e1 := dep_ok h ho hS (by simp)
  have h1 : GAt G D ns (s ++ [.lst ((depS ns [x]).map .str)]) := h.app
  have e2 := clo_ok h1 ho hS (by simp)
  have m1 := met_ok h tb_dependents "dependents" r_Graph_dependents rfl (lk_no (by decide +kernel))
  have m2 := met_ok h1 tb_closure "closure" r_Graph_closure rfl (lk_no (by decide +kernel))
  rw [List.map_cons, List.map_nil] at e1 e2
  rw [List.length_append, List.length_singleton, List.append_assoc] at e2
  have hlen := ho.hn
  have hf := filtP_len ns (Rch (scOf ns) [x])
  have e3 : (mlc true (miany (mmeth tb_closure "closure" (mvar 0) (mcons (mvar 1) mnil))) (.nm 3) (mtb (mbin gIn (mvar 3) (mvar 2))) (mvar 3) [3]) [some (.ref G), some (.str x), some (.ref s.length), none] (s ++ [.lst ((depS ns [x]).map .str)])
      = .ok (.ref (s.length + 2)) (s ++ ([.lst ((depS ns [x]).map .str)] ++ [.lst ((cloS ns [x]).map .str)] ++ [.lst ((grpS ns x).map .str)])) := by
    have ea : (mmeth tb_closure "closure" (mvar 0) (mcons (mvar 1) mnil)) [some (.ref G), some (.str x), some (.ref s.length), none] (s ++ [.lst ((depS ns [x]).map .str)]) = .ok (.ref (s.length + 1)) (s ++ ([.lst ((depS ns [x]).map .str)] ++ [.lst ((cloS ns [x]).map .str)])) := by
      simp! [m2, e2]
    have eb := miany_r ea (xs := (cloS ns [x]).map .str) (by rw [List.getElem?_append_right (by omega), Nat.add_sub_cancel_left]; rfl)
    rw [mlc_pureT (keepF (depS ns [x])) eb (gdOk_one (by rw [List.getElem?_append_right (by omega), Nat.add_sub_cancel_left]; rfl)) (by rw [List.length_map]; show (filtP ns _).length ≤ _; omega) (fun w hw => ?_)]
    · rw [keep_map]
      have eg : (cloS ns [x]).filter (fun y => decide (y ∈ depS ns [x])) = grpS ns x := by
        unfold cloS grpS
        rw [filtP_filter]
        refine filtP_congr fun y hy => ?_
        rw [decide_eq_true_iff]
        unfold depS
        rw [mem_filtP]
        constructor
        · rintro ⟨a, _, z, hz, r⟩
          rw [List.mem_singleton] at hz
          subst hz
          exact ⟨a, r⟩
        · rintro ⟨a, b⟩
          exact ⟨a, hy, x, List.mem_singleton.mpr rfl, b⟩
      rw [eg, List.append_assoc]
      simp
    · obtain ⟨y, _, rfl⟩ := List.mem_map.mp hw
      refine ⟨[some (.ref G), some (.str x), some (.ref s.length), some (.str y)], rfl, ?_⟩
      have hin : gIn (.str y) (.ref s.length) (s ++ ([.lst ((depS ns [x]).map .str)] ++ [.lst ((cloS ns [x]).map .str)])) = some (.bl (decide (y ∈ depS ns [x])), (s ++ ([.lst ((depS ns [x]).map .str)] ++ [.lst ((cloS ns [x]).map .str)]))) := gIn_r (by simp)
      have e0 : keepF (depS ns [x]) (.str y) = if decide (y ∈ depS ns [x]) = true then some (W.str y) else none := rfl
      rw [e0]
      cases hd : decide (y ∈ depS ns [x]) with
      | false => exact .inl ⟨rfl, by rw [hd] at hin; simp! [hin]⟩
      | true => exact .inr ⟨.str y, rfl, by rw [hd] at hin; simp! [hin], rfl⟩
  show posA 2 (runT 1 4 m_Graph_group) [.ref G, .str x] [] s = _
  rw [posA_at (show [W.ref G, W.str x].length = 2 from rfl)]
  refine runT_rt (s' := s ++ ([.lst ((depS ns [x]).map .str)] ++ [.lst ((cloS ns [x]).map .str)] ++ [.lst ((grpS ns x).map .str)])) (w := .ref (s.length + 2)) ?_ (trim_keep Chg.rfl (by omega) (by rw [List.getElem?_append_right (by omega), Nat.add_sub_cancel_left]; rfl) (lows_strs _ _))
  show m_Graph_group [some (.ref G), some (.str x), none, none] s = _
  unfold m_Graph_group
  simp! [m1, e1, e3]
/-! ### tasks, direct, depends, len -/
theorem tasks_ok {G D : Nat} {ns : Net} {s : Sto} (h : GAt G D ns s) : r_Graph_tasks [.ref G] [] s = .ok (.ref s.length) (s ++ [.lst ((ns.map (·.1)).map .str)]) := by
  have e1 : gListA true [.ref D] s = some (.ref s.length, s ++ [.lst ((ns.map (·.1)).map .str)]) := by
    unfold gListA
    simp only [h.d]
    show newL true (keysW' (gKs ns)) s = _
    rw [keys_ks]; rfl
  show posA 1 (runT 1 1 m_Graph_tasks) [.ref G] [] s = _
  rw [posA_at (show [W.ref G].length = 1 from rfl)]
  refine runT_rt (s' := s ++ [.lst ((ns.map (·.1)).map .str)]) (w := .ref s.length) ?_ (trim_keep Chg.rfl (Nat.le_refl _) (at_new _ _) (lows_strs _ _))
  show m_Graph_tasks [some (.ref G)] s = _
  unfold m_Graph_tasks
  simp! [fld_ok h, e1]
theorem require_l {G D : Nat} {ns : Net} {s : Sto} {xs : List Str} (h : GAt G D ns s) (hx : ∀ x ∈ xs, x ∈ ns.map (·.1)) : r_Graph_require_tasks [.ref G, .lst (xs.map .str)] [] s = .ok .non s :=
  require_ok h (miany_f (m := mvar 1) rfl) rfl hx
theorem direct_ok {G D : Nat} {ns : Net} {s : Sto} {x : Str} (h : GAt G D ns s) (ho : NetOk ns) (hx : x ∈ ns.map (·.1)) : r_Graph_direct [.ref G, .str x] [] s = .ok (.ref s.length) (s ++ [.lst ((scOf ns x).map .str)]) := by
  have m1 := met_ok h tb_require_tasks "require_tasks" r_Graph_require_tasks rfl (lk_no (by decide +kernel))
  have e0 := require_l (xs := [x]) h (fun y hy => by rw [List.mem_singleton.mp hy]; exact hx)
  rw [List.map_cons, List.map_nil] at e0
  have e1 : gIx (.ref D) (.str x) s = some (.lst ((scOf ns x).map .str), s) := by
    unfold gIx
    simp only [h.d, keyW, valW_at hx]
    rfl
  have e2 : gListA true [.lst ((scOf ns x).map .str)] s = some (.ref s.length, s ++ [.lst ((scOf ns x).map .str)]) := rfl
  have e3 : (1 : Nat) ≤ 16777216 := by decide
  show posA 2 (runT 1 2 m_Graph_direct) [.ref G, .str x] [] s = _
  rw [posA_at (show [W.ref G, W.str x].length = 2 from rfl)]
  refine runT_rt (s' := s ++ [.lst ((scOf ns x).map .str)]) (w := .ref s.length) ?_ (trim_keep Chg.rfl (Nat.le_refl _) (at_new _ _) (lows_strs _ _))
  show m_Graph_direct [some (.ref G), some (.str x)] s = _
  unfold m_Graph_direct
  simp! [fld_ok h, m1, mlst_eq, List.length_cons, List.length_nil, Nat.zero_add, e3, newL_f, e0, e1, e2]
theorem depends_ok {G D : Nat} {ns : Net} {s : Sto} {x y : Str} (h : GAt G D ns s) (ho : NetOk ns) (hx : x ∈ ns.map (·.1)) (hy : y ∈ ns.map (·.1)) : r_Graph_depends [.ref G, .str x, .str y] [] s = .ok (.bl (decide (y ∈ cloS ns [x]))) s := by
  have m1 := met_ok h tb_require_tasks "require_tasks" r_Graph_require_tasks rfl (lk_no (by decide +kernel))
  have m2 := met_ok h tb_closure "closure" r_Graph_closure rfl (lk_no (by decide +kernel))
  have e0 := require_l (xs := [x, y]) h (fun z hz => by
    rcases List.mem_cons.mp hz with rfl | hz
    · exact hx
    · rw [List.mem_singleton.mp hz]; exact hy)
  rw [List.map_cons, List.map_cons, List.map_nil] at e0
  have e1 := clo_ok (S := [x]) h ho (fun z hz => by rw [List.mem_singleton.mp hz]; exact hx) (by simp)
  rw [List.map_cons, List.map_nil] at e1
  have e2 : gIn (.str y) (.ref s.length) (s ++ [.lst ((cloS ns [x]).map .str)]) = some (.bl (decide (y ∈ cloS ns [x])), s ++ [.lst ((cloS ns [x]).map .str)]) := gIn_r (at_new _ _)
  have e3 : (2 : Nat) ≤ 16777216 := by decide
  show posA 3 (runT 0 3 m_Graph_depends) [.ref G, .str x, .str y] [] s = _
  rw [posA_at (show [W.ref G, W.str x, W.str y].length = 3 from rfl)]
  refine runT_rt (s' := s ++ [.lst ((cloS ns [x]).map .str)]) (w := .bl (decide (y ∈ cloS ns [x]))) ?_ (trim_low Chg.rfl rfl)
  show m_Graph_depends [some (.ref G), some (.str x), some (.str y)] s = _
  unfold m_Graph_depends
  simp! [m1, m2, mlst_eq, List.length_cons, List.length_nil, Nat.zero_add, Nat.reduceAdd, e3, newL_f, e0, e1, e2]
theorem len_ok {G D : Nat} {ns : Net} {s : Sto} (h : GAt G D ns s) : r_Graph___len__ [.ref G] [] s = .ok (.int ns.length) s := by
  have e1 : gLen [.ref D] s = some (.int ns.length, s) := by
    have hs : seqAt s (.ref D) = none := by
      rcases dicAt_cases h.d with q | q
      · unfold seqAt lstAt; simp only [q]; rfl
      · unfold seqAt lstAt; simp only [q]; rfl
    unfold gLen
    simp only [hs, h.d]
    show some _ = _
    unfold gKs
    rw [List.length_map]
  show posA 1 (runT 0 1 m_Graph___len__) [.ref G] [] s = _
  rw [posA_at (show [W.ref G].length = 1 from rfl)]
  refine runT_rt (s' := s) (w := .int ns.length) ?_ (trim_low0 Chg.rfl rfl)
  show m_Graph___len__ [some (.ref G)] s = _
  unfold m_Graph___len__
  simp! [fld_ok h, e1]
end K21

namespace K21
open PySem PySem.Spec PyProof.Rows L2 Va
local macro_rules
  | `(tactic| simp! [$ls,*]) => `(tactic| simp -implicitDefEqProofs only [sseq_eq, snil_eq, sret_eq, sexpr_eq, sset_eq, sasg_eq, sif_eq, mvar_s, mvar_0, mc_eq, mbin_eq, mun_eq, mnil_eq, mcons_eq, mfn_eq, mtb_eq, mnot_eq, mtru_eq, mbm_eq, mmeth_eq, mfld_eq, mcall_eq, gname_eq, gsub_eq, R.bind_ok, R.toS_ok, R.of_some, R.cl_ok, RS.then_nx, RS.then_rt, gtru_bl, List.set_cons_zero, List.set_cons_succ, if_true, Bool.false_eq_true, if_false, Bool.not_true, Bool.not_false, reduceIte, $ls,*])
/-- the groups found, the tasks seen -/
def insF (acc : List Str) (x : Str) : List Str := if x ∈ acc then acc else acc ++ [x]
noncomputable def stG (ns : Net) (v : List (List Str) × List Str) (x : Str) : List (List Str) × List Str := if x ∈ v.2 then v else (v.1 ++ [grpS ns x], (setOf (grpS ns x)).foldl insF v.2)
noncomputable def grps (ns : Net) : List (List Str) := ((ns.map (·.1)).foldl (stG ns) ([], [])).1
def gO (s : Sto) (v : List (List Str) × List Str) : Sto := s ++ ([.lst (refsF (s.length + 2) v.1.length), .dic (v.2.map kTrue)] ++ v.1.map fun g => .lst (g.map .str))
theorem gO_a {s : Sto} {v : List (List Str) × List Str} : (gO s v)[s.length]? = some (.lst (refsF (s.length + 2) v.1.length)) := by
  unfold gO; simp
theorem gO_b {s : Sto} {v : List (List Str) × List Str} : (gO s v)[s.length + 1]? = some (.dic (v.2.map kTrue)) := by
  unfold gO; simp
theorem gO_l {s : Sto} {v : List (List Str) × List Str} {i : Nat} {g : List Str} (h : v.1[i]? = some g) : (gO s v)[s.length + 2 + i]? = some (.lst (g.map .str)) := by
  unfold gO
  rw [List.getElem?_append_right (by omega), show s.length + 2 + i - s.length = i + 2 from by omega]
  simp [h]
theorem gO_len {s : Sto} {v : List (List Str) × List Str} : (gO s v).length = s.length + 2 + v.1.length := by
  unfold gO; simp; omega
theorem gO_snoc {s : Sto} {v : List (List Str) × List Str} {g : List Str} : ((gO s v) ++ [O.lst (g.map .str)]).set s.length (O.lst (refsF (s.length + 2) v.1.length ++ [W.ref (s.length + 2 + v.1.length)])) = gO s (v.1 ++ [g], v.2) := by
  unfold gO refsF
  rw [List.append_assoc, List.set_append_right _ _ (Nat.le_refl _), Nat.sub_self]
  simp [List.range_succ]
theorem gO_dic {s : Sto} {v : List (List Str) × List Str} {F : List Str} : (gO s v).set (s.length + 1) (O.dic (F.map kTrue)) = gO s (v.1, F) := by
  unfold gO
  rw [List.set_append_right _ _ (by omega), show s.length + 1 - s.length = 1 from by omega]
  simp
theorem merge_true (ys : List Str) : ∀ acc : List Str, mergeW (acc.map kTrue) (ys.map kTrue) = (ys.foldl insF acc).map kTrue := by
  induction ys with
  | nil => intro acc; rfl
  | cons y ys ih =>
    intro acc
    rw [List.foldl_cons, ← ih]
    show mergeW (putW (acc.map kTrue) (kTrue y).1 (kTrue y).2) (ys.map kTrue) = _
    rw [show (kTrue y).1 = .inr y from rfl, show (kTrue y).2 = .bl true from rfl, putW_true]
    rfl
theorem insF_mem (ys : List Str) : ∀ (acc : List Str) (z : Str), z ∈ ys.foldl insF acc ↔ z ∈ acc ∨ z ∈ ys := by
  intro acc z
  exact mem_fold
theorem insF_len (ys : List Str) : ∀ (acc : List Str), (ys.foldl insF acc).length ≤ acc.length + ys.length := by
  induction ys with
  | nil => intro acc; simp
  | cons y ys ih =>
    intro acc
    rw [List.foldl_cons, List.length_cons]
    refine Nat.le_trans (ih _) ?_
    unfold insF
    split
    · omega
    · simp; omega
theorem setOf_len (l : List Str) : (setOf l).length ≤ l.length := by
  have h : (l.foldl insF []).length ≤ ([] : List Str).length + l.length := insF_len l []
  rw [List.length_nil, Nat.zero_add] at h
  exact h
noncomputable def mGr : MS := (sseq (sif (mtb (mbin gNotIn (mvar 3) (mvar 2)))
    (sseq (sexpr (mbm "list" gAppend (mvar 1) (mcons (mmeth tb_group "group" (mvar 0) (mcons (mvar 3) mnil)) mnil)))
    (sseq (sexpr (mbm "dict" gDUp (mvar 2) (mcons (mdc false (miany (mbin gIx (mvar 1) (mun gNeg (mc (.int 1))))) (.nm 4) myes (mvar 4) (mc (.bl true)) [4]) mnil)))
    snil))
    snil)
    snil)
theorem atI_last {α : Type} {xs : List α} {x : α} : L2.atI (xs ++ [x]) (-1) = some x := by
  unfold L2.atI L2.ixN
  rw [if_neg (by omega), if_pos (by simp; omega)]
  simp
  rw [List.getElem?_append_right (by omega)]
  rw [show ((-1 + ((xs.length : Int) + 1)).toNat - xs.length) = 0 from by omega]
  rfl
theorem gr1_ok {G D : Nat} {ns : Net} {s : Sto} {v : List (List Str) × List Str} {x : Str} {x4 : Option W} (h : GAt G D ns s) (ho : NetOk ns) (hx : x ∈ ns.map (·.1)) (h1 : v.1.length < 1000) (h2 : v.2.length < 1000000) :
    mGr [some (.ref G), some (.ref s.length), some (.ref (s.length + 1)), some (.str x), x4] (gO s v) = .nx [some (.ref G), some (.ref s.length), some (.ref (s.length + 1)), some (.str x), x4] (gO s (stG ns v x)) := by
  have hd : dicAt (gO s v) (.ref (s.length + 1)) = some (v.2.map kTrue) := dicAt_r gO_b
  have hn : gNotIn (.str x) (.ref (s.length + 1)) (gO s v) = some (.bl (!decide (x ∈ v.2)), gO s v) := by
    unfold gNotIn gInB
    simp only [hd]
    show some (W.bl (!(valW (v.2.map kTrue) (.inr x)).isSome), _) = _
    rw [valW_true]
  unfold mGr
  by_cases hy : x ∈ v.2
  · rw [decide_eq_true hy] at hn
    have : stG ns v x = v := if_pos hy
    rw [this]
    simp! [hn]
  · rw [decide_eq_false hy] at hn
    have er : stG ns v x = (v.1 ++ [grpS ns x], (setOf (grpS ns x)).foldl insF v.2) := if_neg hy
    have hG : GAt G D ns (gO s v) := h.app
    have m1 := met_ok hG tb_group "group" r_Graph_group rfl (lk_no (by decide +kernel))
    have e1 := grp_ok hG ho hx
    rw [gO_len] at e1
    have ty : tyM (.ref s.length) (gO s v) = "list" := by
      unfold tyM
      simp only [lstAt_r gO_a]
    have e3 : gAppend (.ref s.length) [.ref (s.length + 2 + v.1.length)] (gO s v ++ [.lst ((grpS ns x).map .str)]) = some (.non, gO s (v.1 ++ [grpS ns x], v.2)) := by
      have hm : muAt (gO s v ++ [.lst ((grpS ns x).map .str)]) (.ref s.length) = some (s.length, refsF (s.length + 2) v.1.length) := muAt_r (at_app gO_a)
      unfold gAppend
      simp only [hm]
      rw [if_pos (by unfold refsF; rw [List.length_map, List.length_range]; omega)]
      show some (W.non, _) = _
      rw [gO_snoc]
    have ty2 : tyM (.ref (s.length + 1)) (gO s (v.1 ++ [grpS ns x], v.2)) = "dict" := by
      have h2 : muDic (gO s (v.1 ++ [grpS ns x], v.2)) (.ref (s.length + 1)) = some (s.length + 1, v.2.map kTrue) := muDic_r gO_b
      have h1 : lstAt (gO s (v.1 ++ [grpS ns x], v.2)) (.ref (s.length + 1)) = none := by
        unfold lstAt; simp only [gO_b]
      unfold tyM
      simp only [h1, h2]
    have e4 : gIx (.ref s.length) (.int (-1)) (gO s (v.1 ++ [grpS ns x], v.2)) = some (.ref (s.length + 2 + v.1.length), gO s (v.1 ++ [grpS ns x], v.2)) := by
      refine gIx_r gO_a ?_
      unfold refsF
      simp only [List.length_append, List.length_singleton]
      rw [List.range_succ, List.map_append]
      exact atI_last
    have e5 : (mbin gIx (mvar 1) (mun gNeg (mc (.int 1)))) [some (.ref G), some (.ref s.length), some (.ref (s.length + 1)), some (.str x), x4] (gO s (v.1 ++ [grpS ns x], v.2)) = .ok (.ref (s.length + 2 + v.1.length)) (gO s (v.1 ++ [grpS ns x], v.2)) := by
      simp! [gNeg_int, e4]
    have hl : (gO s (v.1 ++ [grpS ns x], v.2))[s.length + 2 + v.1.length]? = some (.lst ((grpS ns x).map .str)) := gO_l (by simp)
    have hlen := ho.hn
    have hf : (grpS ns x).length ≤ ns.length := filtP_len ns _
    have e6 : (mdc false (miany (mbin gIx (mvar 1) (mun gNeg (mc (.int 1))))) (.nm 4) myes (mvar 4) (mc (.bl true)) [4]) [some (.ref G), some (.ref s.length), some (.ref (s.length + 1)), some (.str x), x4] (gO s (v.1 ++ [grpS ns x], v.2)) = .ok (.dic ((setOf (grpS ns x)).map kTrue)) (gO s (v.1 ++ [grpS ns x], v.2)) := by
      rw [mdc_pure trueF (miany_r e5 hl) (gdOk_one hl) (by rw [List.length_map]; omega) (fun w hw => ?_)]
      · rw [putAll_true]; rfl
      · obtain ⟨y, _, rfl⟩ := List.mem_map.mp hw
        exact ⟨[some (.ref G), some (.ref s.length), some (.ref (s.length + 1)), some (.str x), some (.str y)], .str y, rfl, rfl, rfl, rfl, rfl⟩
    have e7 : gDUp (.ref (s.length + 1)) [.dic ((setOf (grpS ns x)).map kTrue)] (gO s (v.1 ++ [grpS ns x], v.2)) = some (.non, gO s (v.1 ++ [grpS ns x], (setOf (grpS ns x)).foldl insF v.2)) := by
      have h1 : muDic (gO s (v.1 ++ [grpS ns x], v.2)) (.ref (s.length + 1)) = some (s.length + 1, v.2.map kTrue) := muDic_r gO_b
      have h2 := dicAt_t ((setOf (grpS ns x)).map kTrue) (gO s (v.1 ++ [grpS ns x], v.2))
      unfold gDUp
      simp only [h1, h2]
      have h3 := setOf_len (grpS ns x)
      rw [if_pos ⟨by simp, by rw [List.length_map, List.length_map]; omega⟩, merge_true, gO_dic]
      rfl
    rw [er]
    simp! [hn, ty, m1, e1, e3, ty2, e6, e7]
theorem stG_len {ns : Net} (v : List (List Str) × List Str) (x : Str) : (stG ns v x).1.length ≤ v.1.length + 1 ∧ (stG ns v x).2.length ≤ v.2.length + ns.length := by
  unfold stG
  split
  · exact ⟨Nat.le_succ _, Nat.le_add_right _ _⟩
  · refine ⟨by simp, ?_⟩
    have h1 := insF_len (setOf (grpS ns x)) v.2
    have h2 := setOf_len (grpS ns x)
    have h3 : (grpS ns x).length ≤ ns.length := filtP_len ns _
    simp only
    omega
theorem foldG_len {ns : Net} (l : List Str) : ∀ v : List (List Str) × List Str, (l.foldl (stG ns) v).1.length ≤ v.1.length + l.length := by
  induction l with
  | nil => intro v; simp
  | cons x l ih =>
    intro v
    rw [List.foldl_cons, List.length_cons]
    have h1 := ih (stG ns v x)
    have h2 := (stG_len (ns := ns) v x).1
    omega
theorem gO_un {s : Sto} {v : List (List Str) × List Str} {D : Nat} {o o0 : O} (hlt : D < s.length) (ho : s[D]? = some o0) : (gO (s.set D o) v).set D o0 = gO s v := by
  unfold gO
  rw [List.set_append_left _ _ (by rw [List.length_set]; exact hlt), List.set_set, set_same ho, List.length_set]
theorem grL_ok {G D : Nat} {ns : Net} {s : Sto} (h : GAt G D ns s) (ho : NetOk ns) {x3 x4 : Option W} :
    ∃ x3' x4', sfor (miany (mfld fld_links "links" (mvar 0))) (gname 3) mGr [some (.ref G), some (.ref s.length), some (.ref (s.length + 1)), x3, x4] (gO s ([], [])) = .nx [some (.ref G), some (.ref s.length), some (.ref (s.length + 1)), x3', x4'] (gO s ((ns.map (·.1)).foldl (stG ns) ([], []))) := by
  have hlt := h.lt
  obtain ⟨o0, ho0⟩ : ∃ o0, s[D]? = some o0 := ⟨_, List.getElem?_eq_getElem hlt⟩
  have hG : GAt G D ns (gO s ([], [])) := h.app
  have hls : (s.set D (.lck (gKs ns))).length = s.length := List.length_set
  have hset : ∀ f, (gO s f).set D (.lck (gKs ns)) = gO (s.set D (.lck (gKs ns))) f := fun f => by
    unfold gO
    rw [List.set_append_left _ _ hlt, List.length_set]
  have hm := fldm (ws := [some (.ref G), some (.ref s.length), some (.ref (s.length + 1)), x3, x4]) hG rfl
  have r := sfor_dk (f := keysW') (g := gname 3) (b := mGr) (o0 := o0) (any_dic hm hG.d) hm hG.d (at_app ho0)
    (fun zs ws u => ∃ (v : List (List Str) × List Str) (zl : List Str) (y3 y4 : Option W), zs = zl.map .str ∧ ws = [some (.ref G), some (.ref s.length), some (.ref (s.length + 1)), y3, y4] ∧ u = gO (s.set D (.lck (gKs ns))) v ∧ zl.foldl (stG ns) v = (ns.map (·.1)).foldl (stG ns) ([], []) ∧ (∀ x ∈ zl, x ∈ ns.map (·.1)) ∧ v.1.length + zl.length ≤ 40 ∧ v.2.length + zl.length * 40 ≤ 1600)
    ⟨([], []), ns.map (·.1), x3, x4, keys_ks ns, rfl, hset _, rfl, fun _ h => h, by have := ho.hn; simpa using this, by have := ho.hn; simp; omega⟩
    (fun xs ws u ⟨v, zl, y3, y4, _, _, eu, _⟩ => by rw [eu]; exact at_app (List.getElem?_set_self hlt))
    (fun x xs ws u ⟨v, zl, y3, y4, ez, ew, eu, ef, hz, hv, hv2⟩ => by
      cases zl with
      | nil => cases ez
      | cons q zl =>
        rw [List.map_cons, List.cons.injEq] at ez
        obtain ⟨rfl, rfl⟩ := ez
        subst ew eu
        rw [List.length_cons] at hv hv2
        have e1 := gr1_ok (v := v) (x := q) (x4 := y4) h.lk ho (hz q List.mem_cons_self) (by omega) (by omega)
        rw [hls] at e1
        have q1 := stG_len (ns := ns) v q
        have q2 := ho.hn
        exact ⟨_, _, rfl, _, _, .inl e1, stG ns v q, zl, some (.str q), y4, rfl, rfl, rfl, ef, fun p hp => hz p (List.mem_cons_of_mem _ hp), by omega, by omega⟩)
  obtain ⟨ws', u', e, v, zl, y3, y4, ez, ew, eu, ef, _, _⟩ := r
  cases zl with
  | cons q zl => cases ez
  | nil =>
    subst ew eu
    rw [gO_un hlt ho0] at e
    exact ⟨y3, y4, by rw [e, ← ef]; rfl⟩
theorem groups_ok {G D : Nat} {ns : Net} {s : Sto} (h : GAt G D ns s) (ho : NetOk ns) :
    r_Graph_groups [.ref G] [] s = .ok (.ref (s.length + (grps ns).length)) (s ++ ((grps ns).map (fun g => O.lst (g.map .str)) ++ [.lst (refsF s.length (grps ns).length)])) := by
  obtain ⟨x3, x4, e2⟩ := grL_ok h ho (x3 := none) (x4 := none)
  generalize hv : (ns.map (·.1)).foldl (stG ns) ([], []) = v at e2
  have hg : grps ns = v.1 := by unfold grps; rw [hv]
  rw [hg]
  show posA 1 (runT 2 5 m_Graph_groups) [.ref G] [] s = _
  rw [posA_at (show [W.ref G].length = 1 from rfl)]
  have ht := trim_keep2 (d := 0) (s := s) (s1 := s) (t := [.lst (refsF (s.length + 2) v.1.length), .dic (v.2.map kTrue)] ++ v.1.map fun g => .lst (g.map .str)) (m := s.length) (b := s.length + 2) (xss := v.1.map fun g => g.map .str) Chg.rfl (Nat.le_refl _) (by omega) (.inl (by omega))
    (by rw [List.length_map]; exact gO_a) (fun i xs hi => by
      rw [List.getElem?_map] at hi
      obtain ⟨g, e, rfl⟩ := Option.map_eq_some_iff.mp hi
      exact gO_l e) (fun xs hxs => by
      obtain ⟨g, _, rfl⟩ := List.mem_map.mp hxs
      exact lows_strs _ _)
  rw [List.length_map, List.map_map] at ht
  refine runT_rt (s' := gO s v) (w := .ref s.length) ?_ ht
  show m_Graph_groups [some (.ref G), none, none, none, none] s = _
  have em : m_Graph_groups = sseq (spar [1, 2] (mcons (mlst true mnil) (mcons (mdnew true) mnil))) (sseq (sfor (miany (mfld fld_links "links" (mvar 0))) (gname 3) mGr) (sseq (sret (mvar 1)) snil)) := rfl
  have e1 : (spar [1, 2] (mcons (mlst true mnil) (mcons (mdnew true) mnil))) [some (.ref G), none, none, none, none] s = .nx [some (.ref G), some (.ref s.length), some (.ref (s.length + 1)), none, none] (gO s ([], [])) := by
    have a1 : (mlst true mnil) [some (.ref G), none, none, none, none] s = .ok (.ref s.length) (s ++ [.lst []]) := by
      rw [mlst_eq, mnil_eq, R.bind_ok, if_pos (show ([] : List W).length ≤ 16777216 from Nat.zero_le _), newL_t, R.of_some]
    have a2 : (mdnew true) [some (.ref G), none, none, none, none] (s ++ [.lst []]) = .ok (.ref (s.length + 1)) (s ++ [.lst []] ++ [.dic []]) := by
      show R.of (newD true [] (s ++ [.lst []])) = _
      rw [newD_t, R.of_some, List.length_append]; rfl
    rw [spar_eq, mcons_eq, a1, R.bind_ok, mcons_eq, a2, R.bind_ok, mnil_eq, R.bind_ok, R.bind_ok, R.toS_ok, if_pos (show [W.ref s.length, W.ref (s.length + 1)].length = [1, 2].length from rfl), List.append_assoc]
    rfl
  rw [em]
  simp! [e1, e2]
end K21

namespace K21
open PySem PySem.Spec PyProof.Rows L2 Va
local macro_rules
  | `(tactic| simp! [$ls,*]) => `(tactic| simp -implicitDefEqProofs only [sseq_eq, snil_eq, sret_eq, sexpr_eq, sset_eq, sasg_eq, sif_eq, mvar_s, mvar_0, mc_eq, mbin_eq, mun_eq, mnil_eq, mcons_eq, mfn_eq, mtb_eq, mnot_eq, mtru_eq, mbm_eq, mmeth_eq, mfld_eq, mcall_eq, gname_eq, gsub_eq, R.bind_ok, R.toS_ok, R.of_some, R.cl_ok, RS.then_nx, RS.then_rt, gtru_bl, List.set_cons_zero, List.set_cons_succ, if_true, Bool.false_eq_true, if_false, Bool.not_true, Bool.not_false, reduceIte, $ls,*])
/-! ### names -/
theorem ltr_abc {c : Nat} (h : Ltr c) : c ∈ abc.cps.toList := by
  have key : ∀ k : Fin 26, (97 + k.val) ∈ abc.cps.toList := by decide +kernel
  have := key ⟨c - 97, by have := h.1; have := h.2; omega⟩
  have e : 97 + (c - 97) = c := by have := h.1; omega
  simpa [e] using this
theorem is_name_ok {s : Sto} {x : Str} (h : IsWord x) : r_is_name [.str x] [] s = .ok (.bl true) s := by
  have h8 := h.hi
  have h1 := h.lo
  have e1 : gIsi tbl cs [.str x, .ty "str"] s = some (.bl true, s) := by rfl
  have e2 : gLen [.str x] s = some (.int x.length, s) := gLen_str _ (by omega)
  have e3 : gLe (.int 1) (.int x.length) s = some (.bl true, s) := by
    show some (W.bl (decide ((1 : Int) ≤ x.length)), s) = _
    rw [decide_eq_true (by omega)]
  have e4 : gLe (.int x.length) (.int 8) s = some (.bl true, s) := by
    show some (W.bl (decide ((x.length : Int) ≤ 8)), s) = _
    rw [decide_eq_true (by omega)]
  have e5 : miany (mvar 0) [some (.str x), none] s = .ok ⟨x.cps.toList.map fun c => .str ⟨#[c]⟩, [], none⟩ s := rfl
  have hsz : x.cps.toList.length = x.length := by simp [Str.length]
  have e6 : (mlc false (miany (mvar 0)) (.nm 1) myes (mbin gIn (mvar 1) (mc (.str "abcdefghijklmnopqrstuvwxyz"))) [1]) [some (.str x), none] s = .ok (.lst ((x.cps.toList.map fun c => W.str ⟨#[c]⟩).filterMap fun _ => some (.bl true))) s := by
    refine mlc_pure (fun _ => some (.bl true)) e5 rfl (by rw [List.length_map, hsz]; omega) (fun w hw => ?_)
    obtain ⟨c, hc, rfl⟩ := List.mem_map.mp hw
    refine ⟨[some (.str x), some (.str ⟨#[c]⟩)], rfl, .inr ⟨.bl true, rfl, rfl, ?_⟩⟩
    have e7 : gIn (.str ⟨#[c]⟩) (.str abc) s = some (.bl true, s) := by
      have hb : gInB (.str ⟨#[c]⟩) (.str abc) s = some true := by
        show (if ((⟨#[c]⟩ : Str).length = 1) then some (decide (((⟨#[c]⟩ : Str).cps.getD 0 0) ∈ abc.cps.toList)) else some (!(Builtin.Str.occurrences abc ⟨#[c]⟩ 0 abc.length 1).isEmpty)) = some true
        rw [if_pos (show (⟨#[c]⟩ : Str).length = 1 from rfl)]
        exact congrArg some (decide_eq_true (ltr_abc (h.ls c hc)))
      unfold gIn
      rw [hb]; rfl
    simp! [show ("abcdefghijklmnopqrstuvwxyz" : Str) = abc from rfl, e7]
  have e8 : ((x.cps.toList.map fun c => W.str ⟨#[c]⟩).filterMap fun _ => some (W.bl true)) = (List.replicate x.length true).map .bl := by
    rw [← hsz]
    generalize x.cps.toList = l
    induction l with
    | nil => rfl
    | cons c l ih => rw [List.map_cons, List.filterMap_cons]; simp only [ih]; rfl
  have e9 : gAll [.lst ((List.replicate x.length true).map .bl)] s = some (.bl true, s) := by
    have hb : boolsAt s (.lst ((List.replicate x.length true).map .bl)) = some (List.replicate x.length true) := by
      unfold boolsAt
      show asB _ = _
      generalize x.length = n
      induction n with
      | zero => rfl
      | succ n ih => rw [List.replicate_succ, List.map_cons, asB, ih]; rfl
    unfold gAll
    simp only [hb]
    show some _ = _
    have : (List.replicate x.length true).all id = true := by simp
    rw [this]
  show posA 1 (runT 0 2 m_is_name) [.str x] [] s = _
  rw [posA_at (show [W.str x].length = 1 from rfl)]
  refine runT_rt (s' := s) (w := .bl true) ?_ (trim_low0 Chg.rfl rfl)
  show m_is_name [some (.str x), none] s = _
  unfold m_is_name
  simp! [mor_eq, mchain_eq, e1, e2, e3, e4, e6, e8, e9]
theorem require_name_ok {s : Sto} {x : Str} (h : IsWord x) : r_require_name [.str x] [] s = .ok .non s := by
  show posA 1 (runT 0 1 m_require_name) [.str x] [] s = _
  rw [posA_at (show [W.str x].length = 1 from rfl)]
  refine runT_nx (s' := s) (l := [some (.str x)]) ?_ (trim_low0 Chg.rfl rfl)
  show m_require_name [some (.str x)] s = _
  unfold m_require_name
  simp! [is_name_ok h]
/-! ### add_task, depend -/
structure GU (G D : Nat) (ns : Net) (s : Sto) : Prop where
  g : GAt G D ns s
  u : s[D]? = some (.dic (gKs ns))
theorem con_ok {G D : Nat} {ns : Net} {s : Sto} (h : GAt G D ns s) : conAt con_MAX_TASKS "MAX_TASKS" s (.ref G) = some (.int 40) := by
  unfold conAt insAt
  simp only [h.g]
  rfl
theorem gKs_app (ns : Net) (x : Str) (l : List Str) : gKs (ns ++ [(x, l)]) = gKs ns ++ [(.inr x, .lst (l.map .str))] := by
  unfold gKs; simp
theorem gKs_has {ns : Net} {x : Str} : ((gKs ns).any fun kv => decide (kv.1 = .inr x)) = decide (x ∈ ns.map (·.1)) := by
  unfold gKs
  induction ns with
  | nil => rfl
  | cons q ns ih =>
    rw [List.map_cons, List.any_cons, ih, List.map_cons]
    by_cases h : q.1 = x
    · subst h; simp
    · have : decide (((Sum.inr q.1, W.lst (q.2.map .str)) : Key × W).1 = (.inr x : Key)) = false := by simp [h]
      rw [this, Bool.false_or]
      simp [Ne.symm h]
theorem put_new {ns : Net} {x : Str} {l : List Str} (h : x ∉ ns.map (·.1)) : putW (gKs ns) (.inr x) (.lst (l.map .str)) = gKs (ns ++ [(x, l)]) := by
  unfold putW
  rw [gKs_has, decide_eq_false h, if_neg (by simp), gKs_app]
/-- other dependencies for x -/
def updN (ns : Net) (x : Str) (l : List Str) : Net := ns.map fun q => if q.1 = x then (q.1, l) else q
theorem put_old {ns : Net} {x : Str} {l : List Str} (h : x ∈ ns.map (·.1)) : putW (gKs ns) (.inr x) (.lst (l.map .str)) = gKs (updN ns x l) := by
  unfold putW
  rw [gKs_has, decide_eq_true h, if_pos rfl]
  unfold gKs updN
  rw [List.map_map, List.map_map]
  refine List.map_congr_left fun q _ => ?_
  show (if (Sum.inr q.1 : Key) = .inr x then ((Sum.inr q.1 : Key), W.lst (l.map .str)) else (Sum.inr q.1, W.lst (q.2.map .str))) = (Sum.inr (if q.1 = x then (q.1, l) else q).1, W.lst ((if q.1 = x then (q.1, l) else q).2.map .str))
  by_cases e : q.1 = x
  · rw [if_pos (by rw [e]), if_pos e]
  · rw [if_neg (by simpa using e), if_neg e]
theorem updN_names (ns : Net) (x : Str) (l : List Str) : (updN ns x l).map (·.1) = ns.map (·.1) := by
  unfold updN
  rw [List.map_map]
  refine List.map_congr_left fun q _ => ?_
  show (if q.1 = x then (q.1, l) else q).1 = q.1
  split <;> rfl
theorem gSetI_d {s : Sto} {D : Nat} {kvs : List (Key × W)} {x : Str} {w : W} (h : s[D]? = some (.dic kvs)) (hl : kvs.length < 1000) : gSetI (.ref D) (.str x) w s = some (s.set D (.dic (putW kvs (.inr x) w))) := by
  unfold gSetI
  simp only [muAt_dic h, muDic_r h, keyW]
  rw [if_pos (by omega)]
theorem GU.set {G D : Nat} {ns ns' : Net} {s : Sto} (h : GU G D ns s) : GU G D ns' (s.set D (.dic (gKs ns'))) :=
  ⟨⟨at_ne _ h.g.g (Ne.symm h.g.ne), dicAt_r (at_set _ h.u), h.g.ne⟩, at_set _ h.u⟩
/-- in_order where the list is not kept -/
theorem in_order_t {G D : Nat} {ns : Net} {s : Sto} {w : W} {xs : List Str} (h : GAt G D ns s) (hl : ns.length ≤ 1000) (hx : xs.length ≤ 1000) (hw : ∀ ws s, (mvar 1) ws s = .ok w s → miany (mvar 1) ws s = .ok ⟨xs.map .str, [], none⟩ s) :
    (r_Graph_in_order [.ref G, w] [] s).trim 0 s = .ok (.lst ((ordd ns xs).map .str)) s := by
  rw [in_order_ok h hl hx (hw _ _ rfl) rfl]
  exact trim_lst Chg.rfl (Nat.le_refl _) (at_new _ _) (lows_strs _ _)
theorem add_ok {G D : Nat} {ns : Net} {s : Sto} {x : Str} {S : List Str} (h : GU G D ns s) (ho : NetOk ns) (hx : IsWord x) (hn : x ∉ ns.map (·.1)) (hS : ∀ y ∈ S, y ∈ ns.map (·.1)) (hl : S.length ≤ 100) (h40 : ns.length < 40) :
    r_Graph_add_task (.ref G :: .str x :: S.map .str) [] s = .ok .non (s.set D (.dic (gKs (ns ++ [(x, ordd ns S)])))) := by
  have hm : ∀ ws s, (mvar 1) ws s = .ok (.tup (S.map .str)) s → miany (mvar 1) ws s = .ok ⟨S.map .str, [], none⟩ s := fun _ _ e => miany_t e
  have m1 := met_ok h.g tb_require_tasks "require_tasks" r_Graph_require_tasks rfl (lk_no (by decide +kernel))
  have m2 := met_ok h.g tb_in_order "in_order" r_Graph_in_order rfl (lk_no (by decide +kernel))
  have e1 := require_name_ok (s := s) hx
  have e2 : gIn (.str x) (.ref D) s = some (.bl false, s) := by rw [gIn_dic h.g.d, valW_ks, decide_eq_false hn]
  have e3 := require_ok h.g (w := .tup (S.map .str)) (hm [some (.ref G), some (.tup (S.map .str)), none] s rfl) rfl hS
  have e4 : gLen [.ref D] s = some (.int ns.length, s) := by
    have hs : seqAt s (.ref D) = none := by
      unfold seqAt lstAt; simp only [h.u]; rfl
    unfold gLen
    simp only [hs, h.g.d]
    show some _ = _
    unfold gKs
    rw [List.length_map]
  have e5 : gGe (.int ns.length) (.int 40) s = some (.bl false, s) := by
    show some (W.bl (decide ((40 : Int) ≤ ns.length)), s) = _
    rw [decide_eq_false (by omega)]
  have e6 := in_order_t (w := .tup (S.map .str)) h.g (by omega) (by omega) hm
  have e7 : gSetI (.ref D) (.str x) (.lst ((ordd ns S).map .str)) s = some (s.set D (.dic (gKs (ns ++ [(x, ordd ns S)])))) := by
    rw [gSetI_d h.u (by unfold gKs; rw [List.length_map]; omega), put_new hn]
  have e8 : runB 3 m_Graph_add_task [.ref G, .str x, .tup (S.map .str)] s = .ok .non (s.set D (.dic (gKs (ns ++ [(x, ordd ns S)])))) := by
    refine runB_nx (l := [some (.ref G), some (.str x), some (.tup (S.map .str))]) ?_
    show m_Graph_add_task [some (.ref G), some (.str x), some (.tup (S.map .str))] s = _
    unfold m_Graph_add_task
    simp! [fld_ok h.g, m1, m2, e1, e2, e3, e4, mcon_eq, con_ok h.g, e5, mtrim_eq, e6, e7]
  show varA 2 (runB 3 m_Graph_add_task) (.ref G :: .str x :: S.map .str) [] s = _
  unfold varA
  rw [if_pos ⟨rfl, by simp, by simp; omega⟩]
  exact e8
theorem gAdd_tt {x : W} {ys : List W} {s : Sto} (h : ys.length ≤ 1000) : gAdd false (.tup [x]) (.tup ys) s = some (.tup (x :: ys), s) := by
  unfold gAdd
  show (if 1 + ys.length ≤ 16777216 then (if [x] = [] then none else ok1 (.tup ([x] ++ ys)) s) else none) = _
  rw [if_pos (by omega), if_neg (by simp)]
  rfl
def noF (x : Str) : W → Option W
  | .str y => if !decide (y = x) then some (.str y) else none
  | _ => none
theorem no_map (x : Str) (l : List Str) : (l.map W.str).filterMap (noF x) = (l.filter fun y => !decide (y = x)).map .str := by
  induction l with
  | nil => rfl
  | cons y l ih =>
    rw [List.map_cons, List.filterMap_cons, List.filter_cons, ih]
    have e0 : noF x (.str y) = if (!decide (y = x)) = true then some (W.str y) else none := rfl
    rw [e0]
    cases (!decide (y = x)) with
    | false => rfl
    | true => rfl
theorem depend_ok {G D : Nat} {ns : Net} {s : Sto} {x : Str} {S : List Str} (h : GU G D ns s) (ho : NetOk ns) (hx : x ∈ ns.map (·.1)) (hS : ∀ y ∈ S, y ∈ ns.map (·.1)) (hl : S.length ≤ 100) :
    r_Graph_depend (.ref G :: .str x :: S.map .str) [] s = .ok .non (s.set D (.dic (gKs (updN ns x (ordd ns (scOf ns x ++ S.filter fun y => !decide (y = x))))))) := by
  have m1 := met_ok h.g tb_require_tasks "require_tasks" r_Graph_require_tasks rfl (lk_no (by decide +kernel))
  have m2 := met_ok h.g tb_in_order "in_order" r_Graph_in_order rfl (lk_no (by decide +kernel))
  have e1 := gAdd_tt (x := .str x) (ys := S.map .str) (s := s) (by rw [List.length_map]; omega)
  have e2 := require_ok h.g (w := .tup (.str x :: S.map .str)) (xs := x :: S) (miany_t (m := mvar 1) (ws := [some (.ref G), some (.tup (.str x :: S.map .str)), none]) rfl) rfl (fun y hy => by
    rcases List.mem_cons.mp hy with rfl | hy
    · exact hx
    · exact hS y hy)
  have e3 : gIx (.ref D) (.str x) s = some (.lst ((scOf ns x).map .str), s) := by
    unfold gIx
    simp only [h.g.d, keyW, valW_at hx]
    rfl
  obtain ⟨q, hq, eq⟩ := scOf_mem hx
  have hc := ho.hc q hq
  rw [eq] at hc
  have e4 : (mlc false (miany (mvar 2)) (.nm 4) (mtb (mbin gNe (mvar 4) (mvar 1))) (mvar 4) [4]) [some (.ref G), some (.str x), some (.tup (S.map .str)), none, none] s = .ok (.lst ((S.filter fun y => !decide (y = x)).map .str)) s := by
    rw [mlc_pure (noF x) (miany_t (m := mvar 2) rfl) rfl (by rw [List.length_map]; omega) (fun w hw => ?_), no_map]
    obtain ⟨y, _, rfl⟩ := List.mem_map.mp hw
    refine ⟨[some (.ref G), some (.str x), some (.tup (S.map .str)), none, some (.str y)], rfl, ?_⟩
    have e0 : noF x (.str y) = if (!decide (y = x)) = true then some (W.str y) else none := rfl
    have ec := gNe_str y x s
    rw [e0]
    cases hd : (!decide (y = x)) with
    | false => exact .inl ⟨rfl, by rw [hd] at ec; simp! [ec]⟩
    | true => exact .inr ⟨.str y, rfl, by rw [hd] at ec; simp! [ec], rfl⟩
  have hf : (S.filter fun y => !decide (y = x)).length ≤ S.length := List.length_filter_le _ _
  have e5 : gAdd false (.lst ((scOf ns x).map .str)) (.lst ((S.filter fun y => !decide (y = x)).map .str)) s = some (.lst ((scOf ns x ++ S.filter fun y => !decide (y = x)).map .str), s) := by
    rw [gAdd_ff (by rw [List.length_map, List.length_map]; omega), List.map_append]; rfl
  have hn := ho.hn
  have e6 := in_order_t (w := .lst ((scOf ns x ++ S.filter fun y => !decide (y = x)).map .str)) h.g (by omega) (by rw [List.length_append]; omega) (fun _ _ e => miany_f e)
  have e7 : gSetI (.ref D) (.str x) (.lst ((ordd ns (scOf ns x ++ S.filter fun y => !decide (y = x))).map .str)) s = some (s.set D (.dic (gKs (updN ns x (ordd ns (scOf ns x ++ S.filter fun y => !decide (y = x))))))) := by
    rw [gSetI_d h.u (by unfold gKs; rw [List.length_map]; omega), put_old hx]
  have e9 : ([W.str x].length ≤ 16777216) := by simp
  have e8 : runB 5 m_Graph_depend [.ref G, .str x, .tup (S.map .str)] s = .ok .non (s.set D (.dic (gKs (updN ns x (ordd ns (scOf ns x ++ S.filter fun y => !decide (y = x))))))) := by
    refine runB_nx (l := [some (.ref G), some (.str x), some (.tup (S.map .str)), some (.lst ((scOf ns x ++ S.filter fun y => !decide (y = x)).map .str)), none]) ?_
    show m_Graph_depend [some (.ref G), some (.str x), some (.tup (S.map .str)), none, none] s = _
    unfold m_Graph_depend
    simp! [mtup_eq, e9, fld_ok h.g, m1, m2, e1, e2, e3, e4, e5, mtrim_eq, e6, e7]
  show varA 2 (runB 5 m_Graph_depend) (.ref G :: .str x :: S.map .str) [] s = _
  unfold varA
  rw [if_pos ⟨rfl, by simp, by simp; omega⟩]
  exact e8
end K21

namespace K21
open PySem PySem.Spec PyProof.Rows L2 Va
local macro_rules
  | `(tactic| simp! [$ls,*]) => `(tactic| simp -implicitDefEqProofs only [sseq_eq, snil_eq, sret_eq, sexpr_eq, sset_eq, sasg_eq, sif_eq, mvar_s, mvar_0, mc_eq, mbin_eq, mun_eq, mnil_eq, mcons_eq, mfn_eq, mtb_eq, mnot_eq, mtru_eq, mbm_eq, mmeth_eq, mfld_eq, mcall_eq, gname_eq, gsub_eq, R.bind_ok, R.toS_ok, R.of_some, R.cl_ok, RS.then_nx, RS.then_rt, gtru_bl, List.set_cons_zero, List.set_cons_succ, if_true, Bool.false_eq_true, if_false, Bool.not_true, Bool.not_false, reduceIte, $ls,*])
/-- what is asked of the law's own net -/
structure NetW (ms : Net) : Prop where
  nd : (ms.map (·.1)).Nodup
  hn : ms.length ≤ 40
  hw : ∀ x ∈ ms.map (·.1), IsWord x
  hs : ∀ q ∈ ms, ∀ y ∈ q.2, y ∈ ms.map (·.1)
  hc : ∀ q ∈ ms, q.2.length ≤ 400
theorem NetW.sc {ms : Net} (ho : NetW ms) {x : Str} (hx : x ∈ ms.map (·.1)) : (∀ y ∈ scOf ms x, y ∈ ms.map (·.1)) ∧ (scOf ms x).length ≤ 400 := by
  obtain ⟨q, hq, e⟩ := scOf_mem hx
  rw [← e]
  exact ⟨ho.hs q hq, ho.hc q hq⟩
/-- the law's queue -/
structure QI (ms : Net) (S : List Str) (k : Nat) (Wt F : List Str) : Prop where
  wn : ∀ x ∈ Wt, x ∈ ms.map (·.1) ∧ Rch (scOf ms) S x
  fn : ∀ x ∈ F, x ∈ Wt
  tk : ∀ x ∈ Wt.take k, x ∈ F
  st : ∀ x ∈ S, x ∈ Wt
  cl : ∀ x ∈ F, ∀ y ∈ scOf ms x, y ∈ Wt
  nd : F.Nodup
  kl : k ≤ Wt.length
  wl : Wt.length ≤ S.length + F.length * 400
theorem QI.done {ms : Net} {S Wt F : List Str} {k : Nat} (h : QI ms S k Wt F) (hk : Wt.length ≤ k) (y : Str) : y ∈ F ↔ Rch (scOf ms) S y := by
  have ht : Wt.take k = Wt := List.take_of_length_le hk
  have hw : ∀ x ∈ Wt, x ∈ F := fun x hx => h.tk x (by rw [ht]; exact hx)
  constructor
  · exact fun hy => (h.wn y (h.fn y hy)).2
  · intro r
    induction r with
    | base q => exact hw _ (h.st _ q)
    | step _ q ih => exact hw _ (h.cl _ ih _ q)
theorem QI.len {ms : Net} {S Wt F : List Str} {k : Nat} (h : QI ms S k Wt F) : F.length ≤ ms.length := by
  have := List.Nodup.length_le_of_subset h.nd fun x hx => (h.wn x (h.fn x hx)).1
  simpa using this
theorem QI.old {ms : Net} {S Wt F : List Str} {k : Nat} {x : Str} (h : QI ms S k Wt F) (hx : Wt[k]? = some x) (hf : x ∈ F) : QI ms S (k + 1) Wt F := by
  refine ⟨h.wn, h.fn, fun y hy => ?_, h.st, h.cl, h.nd, (List.getElem?_eq_some_iff.mp hx).1, h.wl⟩
  rw [List.take_add_one, hx, List.mem_append] at hy
  rcases hy with hy | hy
  · exact h.tk y hy
  · rw [Option.toList_some, List.mem_singleton] at hy
    rw [hy]; exact hf
theorem QI.new {ms : Net} {S Wt F : List Str} {k : Nat} {x : Str} (ho : NetW ms) (h : QI ms S k Wt F) (hx : Wt[k]? = some x) (hf : x ∉ F) : QI ms S (k + 1) (Wt ++ scOf ms x) (F ++ [x]) := by
  have hk := (List.getElem?_eq_some_iff.mp hx).1
  have hm := List.mem_of_getElem? hx
  obtain ⟨hn, hr⟩ := h.wn x hm
  obtain ⟨s1, s2⟩ := ho.sc hn
  refine ⟨fun y hy => ?_, fun y hy => ?_, fun y hy => ?_, fun y hy => List.mem_append_left _ (h.st y hy), fun y hy z hz => ?_, ?_, by rw [List.length_append]; omega, ?_⟩
  · rcases List.mem_append.mp hy with hy | hy
    · exact h.wn y hy
    · exact ⟨s1 y hy, .step hr hy⟩
  · rcases List.mem_append.mp hy with hy | hy
    · exact List.mem_append_left _ (h.fn y hy)
    · rw [List.mem_singleton.mp hy]; exact List.mem_append_left _ hm
  · rw [List.take_append_of_le_length (by omega), List.take_add_one, hx, List.mem_append] at hy
    rcases hy with hy | hy
    · exact List.mem_append_left _ (h.tk y hy)
    · exact List.mem_append_right _ hy
  · rcases List.mem_append.mp hy with hy | hy
    · exact List.mem_append_left _ (h.cl y hy z hz)
    · rw [List.mem_singleton.mp hy] at hz; exact List.mem_append_right _ hz
  · rw [List.nodup_append]
    refine ⟨h.nd, by simp, fun a ha b hb => ?_⟩
    rw [List.mem_singleton.mp hb]
    exact fun z => hf (z ▸ ha)
  · have := h.wl
    rw [List.length_append, List.length_append, List.length_singleton]
    omega
def mQC : MT := mtb (mbin gLt (mvar 3) (mfn gLen (mcons (mvar 4) mnil)))
def mQB : MS := (sseq (sif (mtb (mbin gNotIn (mbin gIx (mvar 4) (mvar 3)) (mvar 2)))
    (sseq (sexpr (mbm "list" gAppend (mvar 2) (mcons (mbin gIx (mvar 4) (mvar 3)) mnil)))
    (sseq (sset 4 (mbin (gAdd false) (mvar 4) (mbin gIx (mvar 0) (mbin gIx (mvar 4) (mvar 3)))))
    snil))
    snil)
    (sseq (sset 3 (mbin (gAdd false) (mvar 3) (mc (.int 1))))
    snil))
theorem dicAt_app {s t : Sto} {n : Nat} {l : List (Key × W)} (h : dicAt s (.ref n) = some l) : dicAt (s ++ t) (.ref n) = some l := by
  rcases dicAt_cases h with q | q
  · exact dicAt_r (at_app q)
  · unfold dicAt; simp only [at_app q]
theorem dicAt_lt {s : Sto} {n : Nat} {l : List (Key × W)} (h : dicAt s (.ref n) = some l) : n < s.length := by
  rcases dicAt_cases h with q | q
  · exact lt_of_at q
  · exact lt_of_at q
theorem gIx_d {s : Sto} {N : Nat} {ms : Net} {x : Str} (h : dicAt s (.ref N) = some (gKs ms)) (hx : x ∈ ms.map (·.1)) : gIx (.ref N) (.str x) s = some (.lst ((scOf ms x).map .str), s) := by
  unfold gIx
  simp only [h, keyW, valW_at hx]
  rfl
theorem gLen_fl {s : Sto} {xs : List Str} : gLen [.lst (xs.map .str)] s = some (.int xs.length, s) := by rw [gLen_f, List.length_map]
theorem gNotIn_r {x : Str} {l : List Str} {s : Sto} {p : Nat} (h : s[p]? = some (.lst (l.map .str))) : gNotIn (.str x) (.ref p) s = some (.bl (!decide (x ∈ l)), s) := by
  unfold gNotIn gInB
  simp only [dicAt_lst h, seqAt_r h]
  rw [if_pos (by rw [flatS]; rfl), anyS]; rfl
theorem gAppend_l {s : Sto} {F : List Str} {x : Str} (h : F.length ≤ 1000) : gAppend (.ref s.length) [.str x] (s ++ [.lst (F.map .str)]) = some (.non, s ++ [.lst ((F ++ [x]).map .str)]) := by
  have hm : muAt (s ++ [.lst (F.map .str)]) (.ref s.length) = some (s.length, F.map .str) := muAt_r (at_new _ _)
  unfold gAppend
  simp only [hm]
  rw [if_pos (by rw [List.length_map]; omega)]
  show some (W.non, (s ++ [O.lst (F.map .str)]).set s.length (.lst (F.map .str ++ [.str x]))) = _
  rw [List.set_append_right _ _ (Nat.le_refl _), Nat.sub_self, List.map_append]
  rfl
theorem ty_new {s : Sto} {xs : List W} : tyM (.ref s.length) (s ++ [.lst xs]) = "list" := by
  unfold tyM
  simp only [lstAt_r (at_new _ _)]
theorem qturn_ok {s : Sto} {N : Nat} {ms : Net} {S Wt F : List Str} {k : Nat} {x : Str} {x1 x5 : Option W} (hd : dicAt s (.ref N) = some (gKs ms)) (ho : NetW ms) (h : QI ms S k Wt F) (hl : S.length ≤ 1000) (hx : Wt[k]? = some x) :
    ∃ Wt' F', mQB [some (.ref N), x1, some (.ref s.length), some (.int k), some (.lst (Wt.map .str)), x5] (s ++ [.lst (F.map .str)]) = .nx [some (.ref N), x1, some (.ref s.length), some (.int ((k + 1 : Nat) : Int)), some (.lst (Wt'.map .str)), x5] (s ++ [.lst (F'.map .str)]) ∧ QI ms S (k + 1) Wt' F' ∧
      ((Wt' = Wt ∧ F' = F) ∨ (F'.length = F.length + 1 ∧ Wt'.length ≤ Wt.length + 400)) := by
  have e1 : gIx (.lst (Wt.map .str)) (.int k) (s ++ [.lst (F.map .str)]) = some (.str x, s ++ [.lst (F.map .str)]) := gIx_f (Va.atI_nat (by rw [List.getElem?_map, hx]; rfl))
  have e2 := gNotIn_r (x := x) (l := F) (at_new s (.lst (F.map .str)))
  have e9 : ∀ u : Sto, gAdd false (.int k) (.int 1) u = some (.int ((k + 1 : Nat) : Int), u) := fun u => by rw [gAdd_int]; rfl
  have hF := h.len
  have hn := ho.hn
  have hw := h.wl
  by_cases hf : x ∈ F
  · rw [decide_eq_true hf] at e2
    refine ⟨Wt, F, ?_, h.old hx hf, .inl ⟨rfl, rfl⟩⟩
    unfold mQB
    simp! [e1, e2, e9]
  · rw [decide_eq_false hf] at e2
    have hm := List.mem_of_getElem? hx
    obtain ⟨hxn, _⟩ := h.wn x hm
    obtain ⟨s1, s2⟩ := ho.sc hxn
    have e3 := gAppend_l (s := s) (F := F) (x := x) (by omega)
    have e4 : gIx (.lst (Wt.map .str)) (.int k) (s ++ [.lst ((F ++ [x]).map .str)]) = some (.str x, s ++ [.lst ((F ++ [x]).map .str)]) := gIx_f (Va.atI_nat (by rw [List.getElem?_map, hx]; rfl))
    have e5 := gIx_d (dicAt_app (t := [.lst ((F ++ [x]).map .str)]) hd) hxn
    have e6 : gAdd false (.lst (Wt.map .str)) (.lst ((scOf ms x).map .str)) (s ++ [.lst ((F ++ [x]).map .str)]) = some (.lst ((Wt ++ scOf ms x).map .str), s ++ [.lst ((F ++ [x]).map .str)]) := by
      rw [gAdd_ff (by rw [List.length_map, List.length_map]; omega), ← List.map_append]; rfl
    refine ⟨Wt ++ scOf ms x, F ++ [x], ?_, h.new ho hx hf, .inr ⟨by simp, by rw [List.length_append]; omega⟩⟩
    unfold mQB
    simp! [e1, e2, ty_new, e3, e4, e5, e6, e9]
theorem qwhile_ok {s : Sto} {N : Nat} {ms : Net} {S : List Str} {x1 x5 : Option W} (hd : dicAt s (.ref N) = some (gKs ms)) (ho : NetW ms) (hl : S.length ≤ 1000) (hS : ∀ x ∈ S, x ∈ ms.map (·.1)) :
    ∃ (k : Nat) (Wt F : List Str), swhile mQC mQB [some (.ref N), x1, some (.ref s.length), some (.int 0), some (.lst (S.map .str)), x5] (s ++ [.lst []]) = .nx [some (.ref N), x1, some (.ref s.length), some (.int ((k : Nat) : Int)), some (.lst (Wt.map .str)), x5] (s ++ [.lst (F.map .str)]) ∧ ∀ y, y ∈ F ↔ Rch (scOf ms) S y := by
  have hn := ho.hn
  refine swhile_inv (m := (ms.length - 0) * 401 + (S.length - 0)) (by omega)
    (fun m ws u => ∃ (k : Nat) (Wt F : List Str), ws = [some (.ref N), x1, some (.ref s.length), some (.int ((k : Nat) : Int)), some (.lst (Wt.map .str)), x5] ∧ u = s ++ [.lst (F.map .str)] ∧ QI ms S k Wt F ∧ m = (ms.length - F.length) * 401 + (Wt.length - k))
    (fun r => ∃ (k : Nat) (Wt F : List Str), r = .nx [some (.ref N), x1, some (.ref s.length), some (.int ((k : Nat) : Int)), some (.lst (Wt.map .str)), x5] (s ++ [.lst (F.map .str)]) ∧ ∀ y, y ∈ F ↔ Rch (scOf ms) S y)
    ⟨0, S, [], rfl, rfl, ⟨fun x hx => ⟨hS x hx, .base hx⟩, fun _ h => (List.not_mem_nil h).elim, fun _ h => by simp at h, fun _ h => h, fun _ h => (List.not_mem_nil h).elim, List.nodup_nil, Nat.zero_le _, by simp⟩, rfl⟩ (fun m ws u hI => ?_)
  obtain ⟨k, Wt, F, rfl, rfl, hq, rfl⟩ := hI
  have e1 : mQC [some (.ref N), x1, some (.ref s.length), some (.int ((k : Nat) : Int)), some (.lst (Wt.map .str)), x5] (s ++ [.lst (F.map .str)]) = .ok (decide ((k : Int) < Wt.length)) (s ++ [.lst (F.map .str)]) := by
    unfold mQC
    simp! [gLen_fl, gCI_int]
  by_cases hk : k < Wt.length
  · rw [decide_eq_true (by omega)] at e1
    obtain ⟨Wt', F', e2, q2, alt⟩ := qturn_ok (x1 := x1) (x5 := x5) hd ho hq hl (List.getElem?_eq_getElem hk)
    refine .inr ⟨_, e1, .inl ⟨_, _, .inl e2, _, ?_, k + 1, Wt', F', rfl, rfl, q2, rfl⟩⟩
    have h1 := hq.len
    have h2 := q2.len
    rcases alt with ⟨rfl, rfl⟩ | ⟨a, b⟩
    · omega
    · rw [a] at h2 ⊢
      omega
  · rw [decide_eq_false (by omega)] at e1
    exact .inl ⟨_, e1, k, Wt, F, rfl, hq.done (by omega)⟩
theorem lclo_ok {s : Sto} {N : Nat} {ms : Net} {S : List Str} (hd : dicAt s (.ref N) = some (gKs ms)) (ho : NetW ms) (hl : S.length ≤ 1000) (hS : ∀ x ∈ S, x ∈ ms.map (·.1)) :
    r_law_closure [.ref N, .lst (S.map .str)] [] s = .ok (.lst ((cloS ms S).map .str)) s := by
  obtain ⟨k, Wt, F, e3, hF⟩ := qwhile_ok (x1 := some (.lst (S.map .str))) (x5 := none) hd ho hl hS
  have hn := ho.hn
  have e4 : (mlc false (miany (mvar 0)) (.nm 5) (mtb (mbin gIn (mvar 5) (mvar 2))) (mvar 5) [5]) [some (.ref N), some (.lst (S.map .str)), some (.ref s.length), some (.int ((k : Nat) : Int)), some (.lst (Wt.map .str)), none] (s ++ [.lst (F.map .str)]) = .ok (.lst ((cloS ms S).map .str)) (s ++ [.lst (F.map .str)]) := by
    rw [mlc_dk (m := mvar 0) (keepF F) rfl (dicAt_app hd) (by unfold gKs; rw [List.length_map]; omega) (fun w hw => ?_)]
    · rw [keys_ks, keep_map, newL_f, R.of_some]
      have : (ms.map (·.1)).filter (fun x => decide (x ∈ F)) = cloS ms S := ordd_of hF
      rw [this]
    · rw [keys_ks] at hw
      obtain ⟨y, _, rfl⟩ := List.mem_map.mp hw
      refine ⟨[some (.ref N), some (.lst (S.map .str)), some (.ref s.length), some (.int ((k : Nat) : Int)), some (.lst (Wt.map .str)), some (.str y)], rfl, ?_⟩
      have hne : N ≠ s.length := by have := dicAt_lt hd; omega
      have hin := gIn_r (x := y) (at_ne (q := N) (.lck (gKs ms)) (at_new s (.lst (F.map .str))) hne)
      have e0 : keepF F (.str y) = if decide (y ∈ F) = true then some (W.str y) else none := rfl
      rw [e0]
      cases hd : decide (y ∈ F) with
      | false => exact .inl ⟨rfl, by rw [hd] at hin; simp! [hin]⟩
      | true => exact .inr ⟨.str y, rfl, by rw [hd] at hin; simp! [hin], rfl⟩
  show posA 2 (runT 0 6 m_law_closure) [.ref N, .lst (S.map .str)] [] s = _
  rw [posA_at (show [W.ref N, W.lst (S.map .str)].length = 2 from rfl)]
  refine runT_rt (s' := s ++ [.lst (F.map .str)]) (w := .lst ((cloS ms S).map .str)) ?_ (trim_low Chg.rfl (by show W.lows _ _ = true; exact lows_strs _ _))
  show m_law_closure [some (.ref N), some (.lst (S.map .str)), none, none, none, none] s = _
  have em : m_law_closure = sseq (sasg (mtup (mcons (mlst true mnil) (mcons (mc (.int 0)) mnil))) (gtup 2 (gcons (gname 2) (gcons (gname 3) gnil)))) (sseq (sset 4 (mfn (gListA false) (mcons (mvar 1) mnil))) (sseq (swhile mQC mQB) (sseq (sret (mlc false (miany (mvar 0)) (.nm 5) (mtb (mbin gIn (mvar 5) (mvar 2))) (mvar 5) [5])) snil))) := rfl
  have e1 : (mtup (mcons (mlst true mnil) (mcons (mc (.int 0)) mnil))) [some (.ref N), some (.lst (S.map .str)), none, none, none, none] s = .ok (.tup [.ref s.length, .int 0]) (s ++ [.lst []]) := mtup2 (mlst0 _ _) (mc_eq _ _ _)
  have e2 : (gtup 2 (gcons (gname 2) (gcons (gname 3) gnil))) (.tup [.ref s.length, .int 0]) [some (.ref N), some (.lst (S.map .str)), none, none, none, none] (s ++ [.lst []]) = .ok [some (.ref N), some (.lst (S.map .str)), some (.ref s.length), some (.int 0), none, none] (s ++ [.lst []]) := by
    rw [gtup_eq, if_pos (show [W.ref s.length, W.int 0].length = 2 from rfl)]
    rfl
  have e5 : gListA false [.lst (S.map .str)] (s ++ [.lst []]) = some (.lst (S.map .str), s ++ [.lst []]) := rfl
  rw [em]
  simp! [e1, e2, e5, e3, e4]
end K21

namespace K21
open PySem PySem.Spec PyProof.Rows L2 Va
local macro_rules
  | `(tactic| simp! [$ls,*]) => `(tactic| simp -implicitDefEqProofs only [sseq_eq, snil_eq, sret_eq, sexpr_eq, sset_eq, sasg_eq, sif_eq, mvar_s, mvar_0, mc_eq, mbin_eq, mun_eq, mnil_eq, mcons_eq, mfn_eq, mtb_eq, mnot_eq, mtru_eq, mbm_eq, mmeth_eq, mfld_eq, mcall_eq, gname_eq, gsub_eq, R.bind_ok, R.toS_ok, R.of_some, R.cl_ok, RS.then_nx, RS.then_rt, gtru_bl, List.set_cons_zero, List.set_cons_succ, if_true, Bool.false_eq_true, if_false, Bool.not_true, Bool.not_false, reduceIte, $ls,*])
theorem lows_t (n : Nat) (l : List Str) : (W.lst (l.map .str)).low n = true := by
  show W.lows _ _ = true; exact lows_strs _ _
theorem lowss (n : Nat) (gs : List (List Str)) : W.lows n (gs.map fun g => .lst (g.map .str)) = true := by
  induction gs with
  | nil => rfl
  | cons g gs ih => rw [List.map_cons, W.lows, ih, lows_t]; rfl
theorem mlst1 {a : ME} {ws : Va.Loc} {s s1 : Sto} {w : W} (h : a ws s = .ok w s1) : (mlst false (mcons a mnil)) ws s = .ok (.lst [w]) s1 := by
  rw [mlst_eq, mcons_eq, h, R.bind_ok, mnil_eq, R.bind_ok, R.bind_ok, if_pos (show [w].length ≤ 16777216 by simp), newL_f, R.of_some]
def condF (P : Str → Bool) : W → Option W
  | .str y => if P y = true then some (.str y) else none
  | _ => none
theorem cond_map (P : Str → Bool) (l : List Str) : (l.map W.str).filterMap (condF P) = (l.filter P).map .str := by
  induction l with
  | nil => rfl
  | cons x l ih =>
    rw [List.map_cons, List.filterMap_cons, List.filter_cons, ih]
    have e0 : condF P (.str x) = if P x = true then some (W.str x) else none := rfl
    rw [e0]
    cases P x with
    | false => rfl
    | true => rfl
theorem condF_t {P : Str → Bool} {x : Str} (h : P x = true) : condF P (.str x) = some (.str x) := if_pos h
theorem condF_f {P : Str → Bool} {x : Str} (h : P x = false) : condF P (.str x) = none := if_neg (by rw [h]; simp)
def boolF (P : Str → Bool) : W → Option W
  | .str y => some (.bl (P y))
  | _ => none
theorem bool_map (P : Str → Bool) (l : List Str) : (l.map W.str).filterMap (boolF P) = (l.map P).map .bl := by
  rw [List.filterMap_map, List.map_map]
  show l.filterMap (fun z => some (W.bl (P z))) = _
  rw [List.filterMap_eq_map']
  rfl
def inGF (x : Str) : W → Option W
  | .nd .lst ys => some (.bl (decide (W.str x ∈ ys)))
  | _ => none
/-- closure of one -/
theorem lclo1 {s : Sto} {N : Nat} {ms : Net} {x : Str} (hd : dicAt s (.ref N) = some (gKs ms)) (ho : NetW ms) (hx : x ∈ ms.map (·.1)) :
    r_law_closure [.ref N, .lst [.str x]] [] s = .ok (.lst ((cloS ms [x]).map .str)) s :=
  lclo_ok (S := [x]) hd ho (by simp) (fun y hy => by rw [List.mem_singleton.mp hy]; exact hx)
theorem cloS_sub {ms : Net} {S : List Str} {x : Str} (h : x ∈ cloS ms S) : x ∈ ms.map (·.1) := (mem_filtP.mp h).1
theorem lgrp_ok {s : Sto} {N : Nat} {ms : Net} {x : Str} (hd : dicAt s (.ref N) = some (gKs ms)) (ho : NetW ms) (hx : x ∈ ms.map (·.1)) :
    r_law_group [.ref N, .str x] [] s = .ok (.lst ((grpS ms x).map .str)) s := by
  have hn := ho.hn
  have hf : (cloS ms [x]).length ≤ ms.length := filtP_len ms _
  have e1 : (mcall r_law_closure (mcons (mvar 0) (mcons (mlst false (mcons (mvar 1) mnil)) mnil))) [some (.ref N), some (.str x), none] s = .ok (.lst ((cloS ms [x]).map .str)) s := by
    have a1 := mlst1 (a := mvar 1) (ws := [some (.ref N), some (.str x), none]) (s := s) rfl
    simp! [a1, lclo1 hd ho hx]
  have e4 : (mlc false (miany (mcall r_law_closure (mcons (mvar 0) (mcons (mlst false (mcons (mvar 1) mnil)) mnil)))) (.nm 2) (mtb (mbin gIn (mvar 1) (mcall r_law_closure (mcons (mvar 0) (mcons (mlst false (mcons (mvar 2) mnil)) mnil))))) (mvar 2) [2]) [some (.ref N), some (.str x), none] s = .ok (.lst ((grpS ms x).map .str)) s := by
    rw [mlc_pure (condF fun y => decide (x ∈ cloS ms [y])) (miany_f e1) rfl (by rw [List.length_map]; omega) (fun w hw => ?_)]
    · rw [cond_map]
      have eg : (cloS ms [x]).filter (fun y => decide (x ∈ cloS ms [y])) = grpS ms x := by
        unfold grpS cloS
        rw [filtP_filter]
        refine filtP_congr fun y hy => ?_
        rw [decide_eq_true_iff]
        show _ ∧ x ∈ filtP ms _ ↔ _
        rw [mem_filtP]
        exact ⟨fun h => ⟨h.1, h.2.2⟩, fun h => ⟨h.1, hx, h.2⟩⟩
      rw [eg]
    · obtain ⟨y, hy, rfl⟩ := List.mem_map.mp hw
      refine ⟨[some (.ref N), some (.str x), some (.str y)], rfl, ?_⟩
      have a1 := mlst1 (a := mvar 2) (ws := [some (.ref N), some (.str x), some (.str y)]) (s := s) rfl
      have a2 := lclo1 hd ho (cloS_sub hy)
      have a3 := gIn_strs (x := x) (l := cloS ms [y]) (s := s)
      cases hd : decide (x ∈ cloS ms [y]) with
      | false => exact .inl ⟨condF_f hd, by rw [hd] at a3; simp! [a1, a2, a3]⟩
      | true => exact .inr ⟨.str y, condF_t hd, by rw [hd] at a3; simp! [a1, a2, a3], rfl⟩
  show posA 2 (runT 0 3 m_law_group) [.ref N, .str x] [] s = _
  rw [posA_at (show [W.ref N, W.str x].length = 2 from rfl)]
  refine runT_rt (s' := s) (w := .lst ((grpS ms x).map .str)) ?_ (trim_low0 Chg.rfl (lows_t _ _))
  show m_law_group [some (.ref N), some (.str x), none] s = _
  unfold m_law_group
  simp! [e4]
/-! ### groups -/
noncomputable def stL (ms : Net) (gs : List (List Str)) (x : Str) : List (List Str) := if gs.any (fun g => decide (x ∈ g)) = true then gs else gs ++ [grpS ms x]
theorem grps_eq (ms : Net) : grps ms = (ms.map (·.1)).foldl (stL ms) [] := by
  have key : ∀ (l : List Str) (v : List (List Str) × List Str), (∀ z, z ∈ v.2 ↔ ∃ g ∈ v.1, z ∈ g) → (l.foldl (stG ms) v).1 = l.foldl (stL ms) v.1 := by
    intro l
    induction l with
    | nil => intro v _; rfl
    | cons x l ih =>
      intro v hv
      rw [List.foldl_cons, List.foldl_cons]
      have hx : (v.1.any fun g => decide (x ∈ g)) = decide (x ∈ v.2) := by
        rw [Bool.eq_iff_iff, List.any_eq_true, decide_eq_true_iff, hv]
        simp
      by_cases h : x ∈ v.2
      · have e1 : stG ms v x = v := if_pos h
        have e2 : stL ms v.1 x = v.1 := if_pos (by rw [hx, decide_eq_true h])
        rw [e1, e2, ih v hv]
      · have e1 : stG ms v x = (v.1 ++ [grpS ms x], (setOf (grpS ms x)).foldl insF v.2) := if_neg h
        have e2 : stL ms v.1 x = v.1 ++ [grpS ms x] := if_neg (by rw [hx, decide_eq_false h]; simp)
        rw [e1, e2]
        refine ih _ fun z => ?_
        rw [insF_mem, hv]
        constructor
        · rintro (⟨g, hg, hz⟩ | hz)
          · exact ⟨g, List.mem_append_left _ hg, hz⟩
          · exact ⟨_, List.mem_append_right _ (List.mem_singleton.mpr rfl), mem_setOf.mp hz⟩
        · rintro ⟨g, hg, hz⟩
          rcases List.mem_append.mp hg with hg | hg
          · exact .inl ⟨g, hg, hz⟩
          · rw [List.mem_singleton.mp hg] at hz
            exact .inr (mem_setOf.mpr hz)
  exact key _ ([], []) fun z => by simp
def gsW (gs : List (List Str)) : List W := gs.map fun g => .lst (g.map .str)
noncomputable def mLg : MS := (sseq (sif (mnot (mtru gtru (mfn gAny (mcons (mlc false (miany (mvar 1)) (.nm 3) myes (mbin gIn (mvar 2) (mvar 3)) [3]) mnil))))
    (sseq (sexpr (mbm "list" gAppend (mvar 1) (mcons (mcall r_law_group (mcons (mvar 0) (mcons (mvar 2) mnil))) mnil)))
    snil)
    snil)
    snil)
theorem asB_map : ∀ bs : List Bool, asB (bs.map .bl) = some bs
  | [] => rfl
  | b :: bs => by rw [List.map_cons, asB, asB_map bs]; rfl
theorem gAny_b (bs : List Bool) (s : Sto) : gAny [.lst (bs.map .bl)] s = some (.bl (bs.any id), s) := by
  have hb : boolsAt s (.lst (bs.map .bl)) = some bs := asB_map bs
  unfold gAny
  simp only [hb]
  rfl
theorem gAll_b (bs : List Bool) (s : Sto) : gAll [.lst (bs.map .bl)] s = some (.bl (bs.all id), s) := by
  have hb : boolsAt s (.lst (bs.map .bl)) = some bs := asB_map bs
  unfold gAll
  simp only [hb]
  rfl
theorem lg1_ok {s : Sto} {N : Nat} {ms : Net} {x : Str} {gs : List (List Str)} {x3 : Option W} (hd : dicAt s (.ref N) = some (gKs ms)) (ho : NetW ms) (hx : x ∈ ms.map (·.1)) (hg : gs.length ≤ 1000) :
    mLg [some (.ref N), some (.ref s.length), some (.str x), x3] (s ++ [.lst (gsW gs)]) = .nx [some (.ref N), some (.ref s.length), some (.str x), x3] (s ++ [.lst (gsW (stL ms gs x))]) := by
  have e0 : (mvar 1) [some (.ref N), some (.ref s.length), some (.str x), x3] (s ++ [.lst (gsW gs)]) = .ok (.ref s.length) (s ++ [.lst (gsW gs)]) := rfl
  have e1 : (mlc false (miany (mvar 1)) (.nm 3) myes (mbin gIn (mvar 2) (mvar 3)) [3]) [some (.ref N), some (.ref s.length), some (.str x), x3] (s ++ [.lst (gsW gs)]) = .ok (.lst ((gs.map fun g => decide (x ∈ g)).map .bl)) (s ++ [.lst (gsW gs)]) := by
    rw [mlc_pure (inGF x) (miany_r e0 (at_new _ _)) (gdOk_one (at_new _ _)) (by unfold gsW; rw [List.length_map]; omega) (fun w hw => ?_)]
    · have : (gsW gs).filterMap (inGF x) = (gs.map fun g => decide (x ∈ g)).map .bl := by
        unfold gsW
        rw [List.filterMap_map, List.map_map]
        show gs.filterMap (fun g => some (W.bl (decide (W.str x ∈ g.map W.str)))) = _
        rw [List.filterMap_eq_map']
        refine List.map_congr_left fun g _ => ?_
        show W.bl _ = W.bl _
        congr 1
        exact decide_eq_decide.mpr (by simp)
      rw [this]
    · obtain ⟨g, _, rfl⟩ := List.mem_map.mp hw
      have a3 := gIn_strs (x := x) (l := g) (s := s ++ [.lst (gsW gs)])
      have a4 : decide (W.str x ∈ g.map W.str) = decide (x ∈ g) := decide_eq_decide.mpr (by simp)
      refine ⟨[some (.ref N), some (.ref s.length), some (.str x), some (.lst (g.map .str))], rfl, .inr ⟨.bl (decide (x ∈ g)), by rw [← a4]; rfl, rfl, by simp! [a3]⟩⟩
  have e2 := gAny_b (gs.map fun g => decide (x ∈ g)) (s ++ [.lst (gsW gs)])
  have e2' : (gs.map fun g => decide (x ∈ g)).any id = gs.any fun g => decide (x ∈ g) := by rw [List.any_map]; rfl
  rw [e2'] at e2
  unfold mLg stL
  cases ha : gs.any fun g => decide (x ∈ g) with
  | true =>
    rw [ha] at e2
    simp! [e1, e2]
  | false =>
    rw [ha] at e2
    have e3 := lgrp_ok (dicAt_app (t := [.lst (gsW gs)]) hd) ho hx
    have e4 : gAppend (.ref s.length) [.lst ((grpS ms x).map .str)] (s ++ [.lst (gsW gs)]) = some (.non, s ++ [.lst (gsW (gs ++ [grpS ms x]))]) := by
      have hm : muAt (s ++ [.lst (gsW gs)]) (.ref s.length) = some (s.length, gsW gs) := muAt_r (at_new _ _)
      unfold gAppend
      simp only [hm]
      rw [if_pos (by unfold gsW; rw [List.length_map]; omega)]
      show some (W.non, (s ++ [O.lst (gsW gs)]).set s.length (.lst (gsW gs ++ [.lst ((grpS ms x).map .str)]))) = _
      rw [List.set_append_right _ _ (Nat.le_refl _), Nat.sub_self]
      unfold gsW
      rw [List.map_append]
      rfl
    simp! [e1, e2, ty_new, e3, e4]
theorem stL_len {ms : Net} (gs : List (List Str)) (x : Str) : (stL ms gs x).length ≤ gs.length + 1 := by
  unfold stL
  split
  · omega
  · simp
theorem lgrps_ok {s : Sto} {N : Nat} {ms : Net} (hd : dicAt s (.ref N) = some (gKs ms)) (ho : NetW ms) :
    r_law_groups [.ref N] [] s = .ok (.lst (gsW (grps ms))) s := by
  have hlt := dicAt_lt hd
  obtain ⟨o0, ho0⟩ : ∃ o0, s[N]? = some o0 := ⟨_, List.getElem?_eq_getElem hlt⟩
  have hls : (s.set N (.lck (gKs ms))).length = s.length := List.length_set
  have hd0 : dicAt (s ++ [.lst (gsW [])]) (.ref N) = some (gKs ms) := dicAt_app hd
  have hd1 : dicAt (s.set N (.lck (gKs ms))) (.ref N) = some (gKs ms) := by
    unfold dicAt; simp only [List.getElem?_set_self hlt]
  have hset : ∀ gs, (s ++ [O.lst (gsW gs)]).set N (.lck (gKs ms)) = s.set N (.lck (gKs ms)) ++ [O.lst (gsW gs)] := fun gs => by
    rw [List.set_append_left _ _ hlt]
  have hm : (mvar 0) [some (.ref N), some (.ref s.length), none, none] (s ++ [.lst (gsW [])]) = .ok (.ref N) (s ++ [.lst (gsW [])]) := rfl
  have r := sfor_dk (f := keysW') (g := gname 2) (b := mLg) (o0 := o0) (any_dic hm hd0) hm hd0 (at_app ho0)
    (fun zs ws u => ∃ (gs : List (List Str)) (zl : List Str) (y2 : Option W), zs = zl.map .str ∧ ws = [some (.ref N), some (.ref s.length), y2, none] ∧ u = s.set N (.lck (gKs ms)) ++ [.lst (gsW gs)] ∧ zl.foldl (stL ms) gs = grps ms ∧ (∀ x ∈ zl, x ∈ ms.map (·.1)) ∧ gs.length + zl.length ≤ 40)
    ⟨[], ms.map (·.1), none, keys_ks ms, rfl, hset _, (grps_eq ms).symm, fun _ h => h, by have := ho.hn; simpa using this⟩
    (fun xs ws u ⟨gs, zl, y2, _, _, eu, _⟩ => by rw [eu]; exact at_app (List.getElem?_set_self hlt))
    (fun x xs ws u ⟨gs, zl, y2, ez, ew, eu, ef, hz, hv⟩ => by
      cases zl with
      | nil => cases ez
      | cons q zl =>
        rw [List.map_cons, List.cons.injEq] at ez
        obtain ⟨rfl, rfl⟩ := ez
        subst ew eu
        rw [List.length_cons] at hv
        have e1 := lg1_ok (gs := gs) (x := q) (x3 := none) hd1 ho (hz q List.mem_cons_self) (by omega)
        rw [hls] at e1
        have q1 := stL_len (ms := ms) gs q
        exact ⟨_, _, rfl, _, _, .inl e1, stL ms gs q, zl, some (.str q), rfl, rfl, rfl, ef, fun p hp => hz p (List.mem_cons_of_mem _ hp), by omega⟩)
  obtain ⟨ws', u', e, gs, zl, y2, ez, ew, eu, ef, _, _⟩ := r
  cases zl with
  | cons q zl => cases ez
  | nil =>
    subst ew eu
    rw [List.set_append_left _ _ (by rw [hls]; exact hlt), List.set_set, set_same ho0] at e
    have ef' : gs = grps ms := ef
    rw [ef'] at e
    have e1 : (mlst true mnil) [some (.ref N), none, none, none] s = .ok (.ref s.length) (s ++ [.lst (gsW [])]) := mlst0 _ _
    show posA 1 (runT 0 4 m_law_groups) [.ref N] [] s = _
    rw [posA_at (show [W.ref N].length = 1 from rfl)]
    refine runT_rt (s' := s ++ [.lst (gsW (grps ms))]) (w := .ref s.length) ?_ (trim_lst Chg.rfl (Nat.le_refl _) (at_new _ _) (lowss _ _))
    show m_law_groups [some (.ref N), none, none, none] s = _
    have em : m_law_groups = sseq (sset 1 (mlst true mnil)) (sseq (sfor (miany (mvar 0)) (gname 2) mLg) (sseq (sret (mvar 1)) snil)) := rfl
    rw [em]
    simp! [e1, e]
/-! ### dependents -/
theorem ldep_ok {s : Sto} {N : Nat} {ms : Net} {S : List Str} (hd : dicAt s (.ref N) = some (gKs ms)) (ho : NetW ms) (hS : ∀ x ∈ S, x ∈ ms.map (·.1)) :
    r_law_dependents [.ref N, .lst (S.map .str)] [] s = .ok (.lst ((depS ms S).map .str)) s := by
  have hn := ho.hn
  have hlt := dicAt_lt hd
  have hd1 : dicAt (s.set N (.lck (gKs ms))) (.ref N) = some (gKs ms) := by
    unfold dicAt; simp only [List.getElem?_set_self hlt]
  have e4 : (mlc false (miany (mvar 0)) (.nm 3) (mtru gtru (mfn gAny (mcons (mlc false (miany (mcall r_law_closure (mcons (mvar 0) (mcons (mlst false (mcons (mvar 3) mnil)) mnil)))) (.nm 2) myes (mbin gIn (mvar 2) (mvar 1)) [2]) mnil))) (mvar 3) [3]) [some (.ref N), some (.lst (S.map .str)), none, none] s = .ok (.lst ((depS ms S).map .str)) s := by
    rw [mlc_dk (m := mvar 0) (condF fun x => (cloS ms [x]).any fun z => decide (z ∈ S)) rfl hd (by unfold gKs; rw [List.length_map]; omega) (fun w hw => ?_)]
    · rw [keys_ks, cond_map, newL_f, R.of_some]
      have eg : (ms.map (·.1)).filter (fun x => (cloS ms [x]).any (fun z => decide (z ∈ S))) = depS ms S := by
        unfold depS filtP
        refine List.filter_congr fun x hx => ?_
        rw [Bool.eq_iff_iff, List.any_eq_true, @decide_eq_true_iff _ (Classical.propDecidable _)]
        constructor
        · rintro ⟨z, hz, hzS⟩
          exact ⟨z, by simpa using hzS, (mem_filtP.mp hz).2⟩
        · rintro ⟨z, hz, r⟩
          exact ⟨z, mem_filtP.mpr ⟨hS z hz, r⟩, by simpa using hz⟩
      rw [eg]
    · rw [keys_ks] at hw
      obtain ⟨y, hy, rfl⟩ := List.mem_map.mp hw
      refine ⟨[some (.ref N), some (.lst (S.map .str)), none, some (.str y)], rfl, ?_⟩
      have a1 := mlst1 (a := mvar 3) (ws := [some (.ref N), some (.lst (S.map .str)), none, some (.str y)]) (s := s.set N (.lck (gKs ms))) rfl
      have a2 := lclo1 hd1 ho hy
      have hf : (cloS ms [y]).length ≤ ms.length := filtP_len ms _
      have a3 : (mcall r_law_closure (mcons (mvar 0) (mcons (mlst false (mcons (mvar 3) mnil)) mnil))) [some (.ref N), some (.lst (S.map .str)), none, some (.str y)] (s.set N (.lck (gKs ms))) = .ok (.lst ((cloS ms [y]).map .str)) (s.set N (.lck (gKs ms))) := by
        simp! [a1, a2]
      have a4 : (mlc false (miany (mcall r_law_closure (mcons (mvar 0) (mcons (mlst false (mcons (mvar 3) mnil)) mnil)))) (.nm 2) myes (mbin gIn (mvar 2) (mvar 1)) [2]) [some (.ref N), some (.lst (S.map .str)), none, some (.str y)] (s.set N (.lck (gKs ms))) = .ok (.lst (((cloS ms [y]).map fun z => decide (z ∈ S)).map .bl)) (s.set N (.lck (gKs ms))) := by
        rw [mlc_pure (boolF fun z => decide (z ∈ S)) (miany_f a3) rfl (by rw [List.length_map]; omega) (fun w hw => ?_)]
        · rw [bool_map]
        · obtain ⟨z, _, rfl⟩ := List.mem_map.mp hw
          have b3 := gIn_strs (x := z) (l := S) (s := s.set N (.lck (gKs ms)))
          exact ⟨[some (.ref N), some (.lst (S.map .str)), some (.str z), some (.str y)], rfl, .inr ⟨.bl (decide (z ∈ S)), rfl, rfl, by simp! [b3]⟩⟩
      have a5 := gAny_b ((cloS ms [y]).map fun z => decide (z ∈ S)) (s.set N (.lck (gKs ms)))
      rw [show ((cloS ms [y]).map fun z => decide (z ∈ S)).any id = (cloS ms [y]).any fun z => decide (z ∈ S) from by rw [List.any_map]; rfl] at a5
      cases hd : (cloS ms [y]).any (fun z => decide (z ∈ S)) with
      | false => exact .inl ⟨condF_f hd, by rw [hd] at a5; simp! [a4, a5]⟩
      | true => exact .inr ⟨.str y, condF_t hd, by rw [hd] at a5; simp! [a4, a5], rfl⟩
  show posA 2 (runT 0 4 m_law_dependents) [.ref N, .lst (S.map .str)] [] s = _
  rw [posA_at (show [W.ref N, W.lst (S.map .str)].length = 2 from rfl)]
  refine runT_rt (s' := s) (w := .lst ((depS ms S).map .str)) ?_ (trim_low0 Chg.rfl (lows_t _ _))
  show m_law_dependents [some (.ref N), some (.lst (S.map .str)), none, none] s = _
  unfold m_law_dependents
  simp! [e4]
end K21

namespace K21
open PySem PySem.Spec PyProof.Rows L2 Va
local macro_rules
  | `(tactic| simp! [$ls,*]) => `(tactic| simp -implicitDefEqProofs only [sseq_eq, snil_eq, sret_eq, sexpr_eq, sset_eq, sasg_eq, sif_eq, mvar_s, mvar_0, mc_eq, mbin_eq, mun_eq, mnil_eq, mcons_eq, mfn_eq, mtb_eq, mnot_eq, mtru_eq, mbm_eq, mmeth_eq, mfld_eq, mcall_eq, gname_eq, gsub_eq, R.bind_ok, R.toS_ok, R.of_some, R.cl_ok, RS.then_nx, RS.then_rt, gtru_bl, List.set_cons_zero, List.set_cons_succ, if_true, Bool.false_eq_true, if_false, Bool.not_true, Bool.not_false, decide_true, decide_false, reduceIte, $ls,*])
theorem gNe_e {s : Sto} {N : Nat} {ms : Net} (hd : dicAt s (.ref N) = some (gKs ms)) : gNe (.ref N) (.dic []) s = some (.bl (!ms.isEmpty), s) := by
  have e : gEqB (.ref N) (.dic []) s = some ms.isEmpty := by
    unfold gEqB
    have h2 : dicAt s (.dic []) = some [] := dicAt_t [] s
    simp only [hd, h2]
    unfold dEqB
    cases ms with
    | nil => rfl
    | cons q ms => rfl
  unfold gNe
  rw [e]; rfl
theorem gEq_e {s : Sto} {N : Nat} {ms : Net} (hd : dicAt s (.ref N) = some (gKs ms)) : gEq (.ref N) (.dic []) s = some (.bl ms.isEmpty, s) := by
  have e : gEqB (.ref N) (.dic []) s = some ms.isEmpty := by
    unfold gEqB
    have h2 : dicAt s (.dic []) = some [] := dicAt_t [] s
    simp only [hd, h2]
    unfold dEqB
    cases ms with
    | nil => rfl
    | cons q ms => rfl
  unfold gEq
  rw [e]; rfl
theorem mdnew_f (ws : Va.Loc) (s : Sto) : mdnew false ws s = .ok (.dic []) s := rfl
theorem Mv.dic {p N : Nat} {s s' : Sto} {l : List (Key × W)} (h : Mv p s s') (hne : N ≠ p) (hd : dicAt s (.ref N) = some l) : dicAt s' (.ref N) = some l := by
  rcases dicAt_cases hd with q | q
  · exact dicAt_r (h.at q hne)
  · unfold dicAt; simp only [h.at q hne]
theorem Mv.gat {p G D : Nat} {ns : Net} {s s' : Sto} (h : Mv p s s') (hG : G ≠ p) (hD : D ≠ p) (hg : GAt G D ns s) : GAt G D ns s' :=
  ⟨h.at hg.g hG, Mv.dic h hD hg.d, hg.ne⟩
theorem gListA_d {s : Sto} {N : Nat} {ms : Net} (hd : dicAt s (.ref N) = some (gKs ms)) : gListA false [.ref N] s = some (.lst ((ms.map (·.1)).map .str), s) := by
  unfold gListA
  simp only [hd]
  show newL false (keysW' (gKs ms)) s = _
  rw [keys_ks]; rfl
theorem pickN_ok {s : Sto} {p N : Nat} {ms : Net} (hp : PotAt p s) (hd : dicAt s (.ref N) = some (gKs ms)) (ho : ms.length ≤ 40) (h0 : 0 < ms.length) : ∃ x s', r_law_pick [.ref p, .lst ((ms.map (·.1)).map .str)] [] s = .ok (.str x) s' ∧ x ∈ ms.map (·.1) ∧ Mv p s s' := by
  obtain ⟨w, s', e, hm, mv⟩ := pick_seq (xs := (ms.map (·.1)).map .str) hp (by simpa using h0) (by simp; omega) (lows_strs _ _)
  obtain ⟨x, hx, rfl⟩ := List.mem_map.mp hm
  exact ⟨x, s', e, hx, mv⟩
theorem drawn_ok {s : Sto} {p N : Nat} {ms : Net} (hp : PotAt p s) (hd : dicAt s (.ref N) = some (gKs ms)) (hne : N ≠ p) (ho : ms.length ≤ 40) :
    ∃ (S : List Str) (s' : Sto), r_law_drawn [.ref p, .ref N] [] s = .ok (.lst (S.map .str)) s' ∧ (∀ x ∈ S, x ∈ ms.map (·.1)) ∧ S.length ≤ 3 ∧ Mv p s s' := by
  have core : ∃ (S : List Str) (s' : Sto), (mif (mtb (mbin gNe (mvar 1) (mdnew false))) (mlc false (mirng1 (mcons (mcall r_law_digit (mcons (mvar 0) (mcons (mc (.int 4)) mnil))) mnil)) (.nm 2) myes (mcall r_law_pick (mcons (mvar 0) (mcons (mfn (gListA false) (mcons (mvar 1) mnil)) mnil))) [2]) (mlst false mnil)) [some (.ref p), some (.ref N), none] s = .ok (.lst (S.map .str)) s' ∧ (∀ x ∈ S, x ∈ ms.map (·.1)) ∧ S.length ≤ 3 ∧ Mv p s s' := by
    have e1 := gNe_e hd
    by_cases h0 : ms = []
    · subst h0
      refine ⟨[], s, ?_, by simp, by simp, Mv.refl hp⟩
      have e2 : (!([] : Net).isEmpty) = false := rfl
      rw [e2] at e1
      simp! [mif_eq, mdnew_f, e1, mlst_eq]
      rfl
    · have e2 : (!ms.isEmpty) = true := by cases ms with
        | nil => exact absurd rfl h0
        | cons q ms => rfl
      rw [e2] at e1
      have hl0 : 0 < ms.length := by cases ms with
        | nil => exact absurd rfl h0
        | cons q ms => simp
      obtain ⟨d, s1, a1, d0, d1, mv1⟩ := digit_ok (n := 4) hp (by decide) (by decide)
      have a2 : (mirng1 (mcons (mcall r_law_digit (mcons (mvar 0) (mcons (mc (.int 4)) mnil))) mnil)) [some (.ref p), some (.ref N), none] s = .ok ⟨rngW 0 1 d.toNat, [], none⟩ s1 := by
        have hm : (mcons (mcall r_law_digit (mcons (mvar 0) (mcons (mc (.int 4)) mnil))) mnil) [some (.ref p), some (.ref N), none] s = .ok [.int d] s1 := by
          simp! [digit_eq, a1]
        unfold mirng1
        rw [hm, R.bind_ok]
        dsimp only
        rw [if_pos (show sml d from by unfold sml; omega)]
      obtain ⟨s', acc', q1, S, rfl, q2, q3, q4⟩ := loopC_inv (gd := []) (t := .nm 2) (c := myes) (e := mcall r_law_pick (mcons (mvar 0) (mcons (mfn (gListA false) (mcons (mvar 1) mnil)) mnil))) (ws := wipeW [some (.ref p), some (.ref N), none] [2])
        (fun xs u acc => ∃ S : List Str, acc = S.map .str ∧ (∀ x ∈ S, x ∈ ms.map (·.1)) ∧ S.length + xs.length = d.toNat ∧ Mv p s u)
        (fun x xs u acc ⟨S, ea, hS, hn, mv⟩ => by
          obtain ⟨y, u', r1, r2, r3⟩ := pickN_ok (mv.pot hp) (Mv.dic mv hne hd) ho hl0
          subst ea
          simp only [List.length_cons] at hn
          refine ⟨rfl, [some (.ref p), some (.ref N), some x], rfl, .inr ⟨u, .str y, u', rfl, ?_, by rw [List.length_map]; omega, S ++ [y], by simp, ?_, by rw [List.length_append]; simp; omega, mv.trans r3⟩⟩
          · have := gListA_d (Mv.dic mv hne hd)
            simp! [this, r1]
          · intro z hz
            rcases List.mem_append.mp hz with h | h
            · exact hS z h
            · rw [List.mem_singleton.mp h]; exact r2)
        (fun _ _ _ => rfl) (rngW 0 1 d.toNat) s1 [] ⟨[], rfl, by simp, by rw [rngW_len]; simp, mv1⟩
      have a3 := mlc_of (mu := false) (vs := [2]) a2 q1 (newL_f _ _)
      refine ⟨S, s', ?_, q2, by simp at q3; omega, q4⟩
      simp! [mif_eq, mdnew_f, e1]
      exact a3
  obtain ⟨S, s', e, q2, q3, mv⟩ := core
  refine ⟨S, s', ?_, q2, q3, mv⟩
  show posA 2 (runT 0 3 m_law_drawn) [.ref p, .ref N] [] s = _
  rw [posA_at (show [W.ref p, W.ref N].length = 2 from rfl)]
  refine runT_rt (s' := s') (w := .lst (S.map .str)) ?_ (trim_low0 mv.chg (lows_t _ _))
  show m_law_drawn [some (.ref p), some (.ref N), none] s = _
  unfold m_law_drawn
  rw [sseq_eq, sret_eq, e, R.toS_ok, RS.then_rt]
/-! ### calls with none to three -/
theorem len3 {S : List Str} (h : S.length ≤ 3) : S = [] ∨ (∃ a, S = [a]) ∨ (∃ a b, S = [a, b]) ∨ ∃ a b c, S = [a, b, c] := by
  match S, h with
  | [], _ => exact .inl rfl
  | [a], _ => exact .inr (.inl ⟨a, rfl⟩)
  | [a, b], _ => exact .inr (.inr (.inl ⟨a, b, rfl⟩))
  | [a, b, c], _ => exact .inr (.inr (.inr ⟨a, b, c, rfl⟩))
  | a :: b :: c :: d :: l, h => simp at h
theorem gl0 {s : Sto} : gLen [.lst []] s = some (.int 0, s) := rfl
theorem gl1 {a : W} {s : Sto} : gLen [.lst [a]] s = some (.int 1, s) := rfl
theorem gl2 {a b : W} {s : Sto} : gLen [.lst [a, b]] s = some (.int 2, s) := rfl
theorem gl3 {a b c : W} {s : Sto} : gLen [.lst [a, b, c]] s = some (.int 3, s) := rfl
theorem ix10 {a : W} {s : Sto} : gIx (.lst [a]) (.int 0) s = some (a, s) := gIx_f rfl
theorem ix20 {a b : W} {s : Sto} : gIx (.lst [a, b]) (.int 0) s = some (a, s) := gIx_f rfl
theorem ix21 {a b : W} {s : Sto} : gIx (.lst [a, b]) (.int 1) s = some (b, s) := gIx_f rfl
theorem ix30 {a b c : W} {s : Sto} : gIx (.lst [a, b, c]) (.int 0) s = some (a, s) := gIx_f rfl
theorem ix31 {a b c : W} {s : Sto} : gIx (.lst [a, b, c]) (.int 1) s = some (b, s) := gIx_f rfl
theorem ix32 {a b c : W} {s : Sto} : gIx (.lst [a, b, c]) (.int 2) s = some (c, s) := gIx_f rfl
theorem di01 : decide ((0 : Int) = 0) = true := rfl
theorem di10 : decide ((1 : Int) = 0) = false := rfl
theorem di11 : decide ((1 : Int) = 1) = true := rfl
theorem di20 : decide ((2 : Int) = 0) = false := rfl
theorem di21 : decide ((2 : Int) = 1) = false := rfl
theorem di22 : decide ((2 : Int) = 2) = true := rfl
theorem di30 : decide ((3 : Int) = 0) = false := rfl
theorem di31 : decide ((3 : Int) = 1) = false := rfl
theorem di32 : decide ((3 : Int) = 2) = false := rfl
theorem clotold_ok {G D : Nat} {ns : Net} {s : Sto} {S : List Str} (h : GAt G D ns s) (ho : NetOk ns) (hS : ∀ x ∈ S, x ∈ ns.map (·.1)) (hl : S.length ≤ 3) :
    r_law_closure_told [.ref G, .lst (S.map .str)] [] s = .ok (.ref s.length) (s ++ [.lst ((cloS ns S).map .str)]) := by
  have e1 := clo_ok h ho hS (by omega)
  have m1 := met_ok h tb_closure "closure" r_Graph_closure rfl (lk_no (by decide +kernel))
  show posA 2 (runT 1 2 m_law_closure_told) [.ref G, .lst (S.map .str)] [] s = _
  rw [posA_at (show [W.ref G, W.lst (S.map .str)].length = 2 from rfl)]
  refine runT_rt (s' := s ++ [.lst ((cloS ns S).map .str)]) (w := .ref s.length) ?_ (trim_keep Chg.rfl (Nat.le_refl _) (at_new _ _) (lows_strs _ _))
  show m_law_closure_told [some (.ref G), some (.lst (S.map .str))] s = _
  unfold m_law_closure_told
  rcases len3 hl with rfl | ⟨a, rfl⟩ | ⟨a, b, rfl⟩ | ⟨a, b, c, rfl⟩
  · simp only [List.map_nil, List.map_cons] at e1 ⊢
    simp! [mif_eq, gl0, gEq_int, di01, m1, e1]
  · simp only [List.map_nil, List.map_cons] at e1 ⊢
    simp! [mif_eq, gl1, ix10, gEq_int, di10, di11, m1, e1]
  · simp only [List.map_nil, List.map_cons] at e1 ⊢
    simp! [mif_eq, gl2, ix20, ix21, gEq_int, di20, di21, di22, m1, e1]
  · simp only [List.map_nil, List.map_cons] at e1 ⊢
    simp! [mif_eq, gl3, ix30, ix31, ix32, gEq_int, di30, di31, di32, m1, e1]
theorem deptold_ok {G D : Nat} {ns : Net} {s : Sto} {S : List Str} (h : GAt G D ns s) (ho : NetOk ns) (hS : ∀ x ∈ S, x ∈ ns.map (·.1)) (hl : S.length ≤ 3) :
    r_law_dependents_told [.ref G, .lst (S.map .str)] [] s = .ok (.ref s.length) (s ++ [.lst ((depS ns S).map .str)]) := by
  have e1 := dep_ok h ho hS (by omega)
  have m1 := met_ok h tb_dependents "dependents" r_Graph_dependents rfl (lk_no (by decide +kernel))
  show posA 2 (runT 1 2 m_law_dependents_told) [.ref G, .lst (S.map .str)] [] s = _
  rw [posA_at (show [W.ref G, W.lst (S.map .str)].length = 2 from rfl)]
  refine runT_rt (s' := s ++ [.lst ((depS ns S).map .str)]) (w := .ref s.length) ?_ (trim_keep Chg.rfl (Nat.le_refl _) (at_new _ _) (lows_strs _ _))
  show m_law_dependents_told [some (.ref G), some (.lst (S.map .str))] s = _
  unfold m_law_dependents_told
  rcases len3 hl with rfl | ⟨a, rfl⟩ | ⟨a, b, rfl⟩ | ⟨a, b, c, rfl⟩
  · simp only [List.map_nil, List.map_cons] at e1 ⊢
    simp! [mif_eq, gl0, gEq_int, di01, m1, e1]
  · simp only [List.map_nil, List.map_cons] at e1 ⊢
    simp! [mif_eq, gl1, ix10, gEq_int, di10, di11, m1, e1]
  · simp only [List.map_nil, List.map_cons] at e1 ⊢
    simp! [mif_eq, gl2, ix20, ix21, gEq_int, di20, di21, di22, m1, e1]
  · simp only [List.map_nil, List.map_cons] at e1 ⊢
    simp! [mif_eq, gl3, ix30, ix31, ix32, gEq_int, di30, di31, di32, m1, e1]
theorem added_ok {G D : Nat} {ns : Net} {s : Sto} {x : Str} {S : List Str} (h : GU G D ns s) (ho : NetOk ns) (hx : IsWord x) (hn : x ∉ ns.map (·.1)) (hS : ∀ y ∈ S, y ∈ ns.map (·.1)) (hl : S.length ≤ 3) (h40 : ns.length < 40) :
    r_law_added [.ref G, .str x, .lst (S.map .str)] [] s = .ok .non (s.set D (.dic (gKs (ns ++ [(x, ordd ns S)])))) := by
  have e1 := add_ok h ho hx hn hS (by omega) h40
  have m1 := met_ok h.g tb_add_task "add_task" r_Graph_add_task rfl (lk_no (by decide +kernel))
  show posA 3 (runB 3 m_law_added) [.ref G, .str x, .lst (S.map .str)] [] s = _
  rw [posA_at (show [W.ref G, W.str x, W.lst (S.map .str)].length = 3 from rfl)]
  refine runB_rt ?_
  show m_law_added [some (.ref G), some (.str x), some (.lst (S.map .str))] s = _
  unfold m_law_added
  rcases len3 hl with rfl | ⟨a, rfl⟩ | ⟨a, b, rfl⟩ | ⟨a, b, c, rfl⟩
  · simp only [List.map_nil, List.map_cons] at e1 ⊢
    simp! [mif_eq, gl0, gEq_int, di01, m1, e1]
  · simp only [List.map_nil, List.map_cons] at e1 ⊢
    simp! [mif_eq, gl1, ix10, gEq_int, di10, di11, m1, e1]
  · simp only [List.map_nil, List.map_cons] at e1 ⊢
    simp! [mif_eq, gl2, ix20, ix21, gEq_int, di20, di21, di22, m1, e1]
  · simp only [List.map_nil, List.map_cons] at e1 ⊢
    simp! [mif_eq, gl3, ix30, ix31, ix32, gEq_int, di30, di31, di32, m1, e1]
theorem depended_ok {G D : Nat} {ns : Net} {s : Sto} {x : Str} {S : List Str} (h : GU G D ns s) (ho : NetOk ns) (hx : x ∈ ns.map (·.1)) (hS : ∀ y ∈ S, y ∈ ns.map (·.1)) (hl : S.length ≤ 3) :
    r_law_depended [.ref G, .str x, .lst (S.map .str)] [] s = .ok .non (s.set D (.dic (gKs (updN ns x (ordd ns (scOf ns x ++ S.filter fun y => !decide (y = x))))))) := by
  have e1 := depend_ok h ho hx hS (by omega)
  have m1 := met_ok h.g tb_depend "depend" r_Graph_depend rfl (lk_no (by decide +kernel))
  show posA 3 (runB 3 m_law_depended) [.ref G, .str x, .lst (S.map .str)] [] s = _
  rw [posA_at (show [W.ref G, W.str x, W.lst (S.map .str)].length = 3 from rfl)]
  refine runB_rt ?_
  show m_law_depended [some (.ref G), some (.str x), some (.lst (S.map .str))] s = _
  unfold m_law_depended
  generalize hq : updN ns x (ordd ns (scOf ns x ++ S.filter fun y => !decide (y = x))) = q at e1 ⊢
  rcases len3 hl with rfl | ⟨a, rfl⟩ | ⟨a, b, rfl⟩ | ⟨a, b, c, rfl⟩
  · simp only [List.map_nil, List.map_cons] at e1 ⊢
    simp! [mif_eq, gl0, gEq_int, di01, m1, e1]
  · simp only [List.map_nil, List.map_cons] at e1 ⊢
    simp! [mif_eq, gl1, ix10, gEq_int, di10, di11, m1, e1]
  · simp only [List.map_nil, List.map_cons] at e1 ⊢
    simp! [mif_eq, gl2, ix20, ix21, gEq_int, di20, di21, di22, m1, e1]
  · simp only [List.map_nil, List.map_cons] at e1 ⊢
    simp! [mif_eq, gl3, ix30, ix31, ix32, gEq_int, di30, di31, di32, m1, e1]
end K21

namespace K21
open PySem PySem.Spec PyProof.Rows L2 Va
local macro_rules
  | `(tactic| simp! [$ls,*]) => `(tactic| simp -implicitDefEqProofs only [sseq_eq, snil_eq, sret_eq, sexpr_eq, sset_eq, sasg_eq, sif_eq, mvar_s, mvar_0, mc_eq, mbin_eq, mun_eq, mnil_eq, mcons_eq, mfn_eq, mtb_eq, mnot_eq, mtru_eq, mbm_eq, mmeth_eq, mfld_eq, mcall_eq, gname_eq, gsub_eq, R.bind_ok, R.toS_ok, R.of_some, R.cl_ok, RS.then_nx, RS.then_rt, gtru_bl, List.set_cons_zero, List.set_cons_succ, if_true, Bool.false_eq_true, if_false, Bool.not_true, Bool.not_false, decide_true, decide_false, reduceIte, $ls,*])
/-! ### both nets say the same -/
structure Mt (ns ms : Net) : Prop where
  nm : ns.map (·.1) = ms.map (·.1)
  sc : ∀ x ∈ ns.map (·.1), scOf ns x = ordd ns (scOf ms x)
theorem mem_ordd {ns : Net} {xs : List Str} {y : Str} : y ∈ ordd ns xs ↔ y ∈ ns.map (·.1) ∧ y ∈ xs := by
  unfold ordd
  rw [List.mem_filter, decide_eq_true_iff]
theorem Mt.iff {ns ms : Net} (h : Mt ns ms) (ho : NetW ms) (x y : Str) : y ∈ scOf ns x ↔ y ∈ scOf ms x := by
  by_cases hx : x ∈ ns.map (·.1)
  · rw [h.sc x hx, mem_ordd]
    refine ⟨fun q => q.2, fun q => ⟨?_, q⟩⟩
    rw [h.nm]
    exact (ho.sc (by rw [← h.nm]; exact hx)).1 y q
  · rw [scOf_no hx, scOf_no (by rw [← h.nm]; exact hx)]
theorem rch_congr {sc sc' : Str → List Str} (h : ∀ x y, y ∈ sc x ↔ y ∈ sc' x) {S : List Str} {z : Str} (r : Rch sc S z) : Rch sc' S z := by
  induction r with
  | base q => exact .base q
  | step _ q ih => exact .step ih ((h _ _).mp q)
theorem Mt.rch {ns ms : Net} (h : Mt ns ms) (ho : NetW ms) (S : List Str) (z : Str) : Rch (scOf ns) S z ↔ Rch (scOf ms) S z :=
  ⟨rch_congr (h.iff ho), rch_congr fun x y => (h.iff ho x y).symm⟩
theorem Mt.filt {ns ms : Net} (h : Mt ns ms) {P Q : Str → Prop} (e : ∀ x, P x ↔ Q x) : filtP ns P = filtP ms Q := by
  unfold filtP
  rw [h.nm]
  refine List.filter_congr fun x _ => ?_
  exact decide_eq_decide.mpr (e x)
theorem Mt.clo {ns ms : Net} (h : Mt ns ms) (ho : NetW ms) (S : List Str) : cloS ns S = cloS ms S := h.filt (h.rch ho S)
theorem Mt.grp {ns ms : Net} (h : Mt ns ms) (ho : NetW ms) (x : Str) : grpS ns x = grpS ms x := h.filt fun y => and_congr (h.rch ho _ _) (h.rch ho _ _)
theorem Mt.dep {ns ms : Net} (h : Mt ns ms) (ho : NetW ms) (S : List Str) : depS ns S = depS ms S := h.filt fun y => exists_congr fun z => and_congr Iff.rfl (h.rch ho _ _)
theorem Mt.grps {ns ms : Net} (h : Mt ns ms) (ho : NetW ms) : grps ns = grps ms := by
  rw [grps_eq, grps_eq, h.nm]
  have : stL ns = stL ms := by
    funext gs x
    unfold stL
    rw [h.grp ho]
  rw [this]
/-! ### sizes -/
theorem filt_words {ns : Net} (ho : NetOk ns) {P : Str → Prop} : ∀ x ∈ filtP ns P, IsWord x := fun x hx => ho.hw x (mem_filtP.mp hx).1
theorem filt_40 {ns : Net} (ho : NetOk ns) (P : Str → Prop) : (filtP ns P).length ≤ 40 := Nat.le_trans (filtP_len ns P) ho.hn
theorem fit_filt {ns : Net} (ho : NetOk ns) (P : Str → Prop) : Fit (dN (filtP ns P)) 360 1 := fit_names (filt_words ho) (filt_40 ho P)
theorem nm_40 {ns : Net} (ho : NetOk ns) : (ns.map (·.1)).length ≤ 40 := by rw [List.length_map]; exact ho.hn
theorem sc_40 {ns : Net} (ho : NetOk ns) (x : Str) : (scOf ns x).length ≤ 40 ∧ ∀ y ∈ scOf ns x, IsWord y := by
  by_cases hx : x ∈ ns.map (·.1)
  · obtain ⟨q, hq, e⟩ := scOf_mem hx
    rw [← e]
    refine ⟨?_, fun y hy => ho.hw y (ho.hs q hq y hy)⟩
    have := List.Nodup.length_le_of_subset (ho.nd2 q hq) (ho.hs q hq)
    exact Nat.le_trans this (nm_40 ho)
  · rw [scOf_no hx]
    exact ⟨by simp, fun y hy => (List.not_mem_nil hy).elim⟩
theorem grps_mem {ns : Net} {g : List Str} (h : g ∈ grps ns) : ∃ x, g = grpS ns x := by
  have key : ∀ (l : List Str) (v : List (List Str) × List Str), g ∈ (l.foldl (stG ns) v).1 → g ∈ v.1 ∨ ∃ x, g = grpS ns x := by
    intro l
    induction l with
    | nil => exact fun v h => .inl h
    | cons x l ih =>
      intro v h
      rw [List.foldl_cons] at h
      rcases ih _ h with q | q
      · unfold stG at q
        split at q
        · exact .inl q
        · rcases List.mem_append.mp q with q | q
          · exact .inl q
          · exact .inr ⟨x, List.mem_singleton.mp q⟩
      · exact .inr q
  rcases key _ _ h with q | q
  · exact (List.not_mem_nil q).elim
  · exact q
theorem grps_40 {ns : Net} (ho : NetOk ns) : (grps ns).length ≤ 40 := by
  have := foldG_len (ns := ns) (ns.map (·.1)) ([], [])
  have h2 := nm_40 ho
  simp only [List.length_nil, Nat.zero_add] at this
  exact Nat.le_trans this h2
theorem fit_grps {ns : Net} (ho : NetOk ns) : Fit (.list ((grps ns).map dN)) 14440 2 :=
  fit_rows (fun l hl x hx => by obtain ⟨y, rfl⟩ := grps_mem hl; exact filt_words ho x hx) (fun l hl => by obtain ⟨y, rfl⟩ := grps_mem hl; exact filt_40 ho _) (grps_40 ho)
theorem fit_map {ns : Net} (ho : NetOk ns) (F : Str → List Str) (hF : ∀ x, (F x).length ≤ 40 ∧ ∀ y ∈ F x, IsWord y) : Fit (.list (((ns.map (·.1)).map F).map dN)) 14440 2 :=
  fit_rows (fun l hl x hx => by obtain ⟨y, _, rfl⟩ := List.mem_map.mp hl; exact (hF y).2 x hx) (fun l hl => by obtain ⟨y, _, rfl⟩ := List.mem_map.mp hl; exact (hF y).1) (by rw [List.length_map]; exact nm_40 ho)
theorem grp_40 {ns : Net} (ho : NetOk ns) (x : Str) : (grpS ns x).length ≤ 40 ∧ ∀ y ∈ grpS ns x, IsWord y := ⟨filt_40 ho _, filt_words ho⟩
theorem fit2 {a b : PyData} (ha : Fit a 14440 2) (hb : Fit b 14440 2) : Fit (.list [a, b]) 160000 60 :=
  (fit_list (w := 14440) (k := 2) (ds := [a, b]) (fun d hd => by
    rcases List.mem_cons.mp hd with rfl | hd
    · exact ha
    · rw [List.mem_singleton.mp hd]; exact hb)).le (by simp) (by omega)
theorem fit4 {a b c e : PyData} (ha : Fit a 14440 2) (hb : Fit b 14440 2) (hc : Fit c 14440 2) (he : Fit e 14440 2) : Fit (.list [a, b, c, e]) 160000 60 :=
  (fit_list (w := 14440) (k := 2) (ds := [a, b, c, e]) (fun d hd => by
    simp only [List.mem_cons, List.not_mem_nil, or_false] at hd
    rcases hd with rfl | rfl | rfl | rfl
    · exact ha
    · exact hb
    · exact hc
    · exact he)).le (by simp) (by omega)
/-! ### rows made by methods -/
theorem groups_row {G D : Nat} {ns : Net} {u : Sto} (h : GAt G D ns u) (ho : NetOk ns) :
    ∃ t' q, r_Graph_groups [.ref G] [] u = .ok (.ref q) (u ++ t') ∧ u.length ≤ q ∧ (u ++ t')[q]? = some (.lst (refsF u.length (grps ns).length)) ∧ (∀ (i : Nat) (g : List Str), (grps ns)[i]? = some g → (u ++ t')[u.length + i]? = some (.lst (g.map .str))) ∧ rd (u ++ t') (.ref q) = some (.list ((grps ns).map dN)) := by
  have hq : (u ++ ((grps ns).map (fun g => O.lst (g.map .str)) ++ [.lst (refsF u.length (grps ns).length)]))[u.length + (grps ns).length]? = some (.lst (refsF u.length (grps ns).length)) := by
    rw [List.getElem?_append_right (by omega), Nat.add_sub_cancel_left, List.getElem?_append_right (by simp)]
    simp
  have hr : ∀ (i : Nat) (g : List Str), (grps ns)[i]? = some g → (u ++ ((grps ns).map (fun g => O.lst (g.map .str)) ++ [.lst (refsF u.length (grps ns).length)]))[u.length + i]? = some (.lst (g.map .str)) := fun i g hi => by
    rw [List.getElem?_append_right (by omega), Nat.add_sub_cancel_left, List.getElem?_append_left (by rw [List.length_map]; exact (List.getElem?_eq_some_iff.mp hi).1), List.getElem?_map, hi]; rfl
  exact ⟨_, _, groups_ok h ho, by omega, hq, hr, rd_ref (rdN_refs hq hr)⟩
theorem Rowp.mv {p k : Nat} {s s1 t : Sto} {w : W} (h : Rowp s.length (s ++ t) k w) (mv : Mv p s s1) : Rowp s1.length (s1 ++ t) k w := by
  obtain ⟨q, xs, e, hb, hq, hl⟩ := h
  refine ⟨q, xs, e, by rw [mv.len]; exact hb, ?_, hl⟩
  rw [List.getElem?_append_right hb] at hq
  rw [List.getElem?_append_right (by rw [mv.len]; exact hb), mv.len]; exact hq
theorem Mv.base {p : Nat} {s t u : Sto} (h : Mv p (s ++ t) u) (hp : p < s.length) : ∃ s1, u = s1 ++ t ∧ Mv p s s1 := by
  obtain ⟨a, b, q, rfl⟩ := h
  exact ⟨s.set p (potO a b), by rw [List.set_append_left _ _ hp], a, b, q, rfl⟩
/-! ### told -/
def mDirects : ME := mlc false (miany (mvar 3)) (.nm 6) myes (mlc false (miany (mvar 3)) (.nm 5) (mtb (mbin gIn (mvar 5) (mbin gIx (mvar 2) (mvar 6)))) (mvar 5) [5]) [6]
def rowF (F : Str → List Str) : W → Option W
  | .str y => some (.lst ((F y).map .str))
  | _ => none
theorem row_map (F : Str → List Str) (l : List Str) : (l.map W.str).filterMap (rowF F) = (l.map F).map fun g => .lst (g.map .str) := by
  rw [List.filterMap_map, List.map_map]
  show l.filterMap (fun z => some (W.lst ((F z).map .str))) = _
  rw [List.filterMap_eq_map']
  rfl
theorem directs_ok {s : Sto} {N : Nat} {ns ms : Net} {x0 x1 x4 x5 x6 x7 x8 x9 x10 x11 x12 x13 : Option W} (hd : dicAt s (.ref N) = some (gKs ms)) (ho : NetOk ns) (hm : Mt ns ms) :
    mDirects [x0, x1, some (.ref N), some (.lst ((ns.map (·.1)).map .str)), x4, x5, x6, x7, x8, x9, x10, x11, x12, x13] s = .ok (.lst (((ns.map (·.1)).map (scOf ns)).map fun g => .lst (g.map .str))) s := by
  have h40 := nm_40 ho
  unfold mDirects
  rw [mlc_pure (rowF (scOf ns)) (miany_f (m := mvar 3) rfl) rfl (by rw [List.length_map]; omega) (fun w hw => ?_), row_map]
  obtain ⟨x, hx, rfl⟩ := List.mem_map.mp hw
  refine ⟨[x0, x1, some (.ref N), some (.lst ((ns.map (·.1)).map .str)), x4, x5, some (.str x), x7, x8, x9, x10, x11, x12, x13], rfl, .inr ⟨.lst ((scOf ns x).map .str), rfl, rfl, ?_⟩⟩
  rw [mlc_pure (keepF (scOf ms x)) (miany_f (m := mvar 3) rfl) rfl (by rw [List.length_map]; omega) (fun w hw => ?_)]
  · rw [keep_map]
    have : (ns.map (·.1)).filter (fun y => decide (y ∈ scOf ms x)) = scOf ns x := (hm.sc x hx).symm
    rw [this]
  · obtain ⟨y, _, rfl⟩ := List.mem_map.mp hw
    refine ⟨[x0, x1, some (.ref N), some (.lst ((ns.map (·.1)).map .str)), x4, some (.str y), some (.str x), x7, x8, x9, x10, x11, x12, x13], rfl, ?_⟩
    have e1 := gIx_d hd (by rw [← hm.nm]; exact hx)
    have e2 := gIn_strs (x := y) (l := scOf ms x) (s := s)
    have e0 : keepF (scOf ms x) (.str y) = if decide (y ∈ scOf ms x) = true then some (W.str y) else none := rfl
    rw [e0]
    cases hd : decide (y ∈ scOf ms x) with
    | false => exact .inl ⟨rfl, by rw [hd] at e2; simp! [e1, e2]⟩
    | true => exact .inr ⟨.str y, rfl, by rw [hd] at e2; simp! [e1, e2], rfl⟩
noncomputable def mTold : ME := mlst false (mcons (mmeth tb_tasks "tasks" (mvar 1) mnil) (mcons (mlc true (miany (mvar 3)) (.nm 6) myes (mmeth tb_direct "direct" (mvar 1) (mcons (mvar 6) mnil)) [6]) (mcons (mlenO tb___len__ (mvar 1)) (mcons (mlc true (miany (mvar 3)) (.nm 6) myes (mmeth tb_group "group" (mvar 1) (mcons (mvar 6) mnil)) [6]) mnil))))
def dTold (ns : Net) (gs : List (List Str)) : PyData := .list [dN (ns.map (·.1)), .list (((ns.map (·.1)).map (scOf ns)).map dN), .int (ns.map (·.1)).length, .list (gs.map dN)]
theorem mlenO_ok {G D : Nat} {ns : Net} {s : Sto} {ws : Va.Loc} (h : GAt G D ns s) (ho : NetOk ns) (h1 : ws[1]? = some (some (.ref G))) : (mlenO tb___len__ (mvar 1)) ws s = .ok (.int (ns.map (·.1)).length) s := by
  have m1 := met_ok h tb___len__ "__len__" r_Graph___len__ rfl (lk_no (by decide +kernel))
  have hn := ho.hn
  have hi : i63 (ns.length : Int) = true := by
    unfold i63
    rw [decide_eq_true (by omega), decide_eq_true (by omega)]; rfl
  unfold mlenO
  rw [mvar_at h1, R.bind_ok]
  unfold lenG
  simp only [m1]
  rw [len_ok h, R.cl_ok, R.bind_ok]
  dsimp only
  rw [if_pos hi, List.length_map]
theorem lst4_le (a b c d : W) : [a, b, c, d].length ≤ 16777216 := by
  show 4 ≤ 16777216
  decide
theorem lst2_le (a b : W) : [a, b].length ≤ 16777216 := by
  show 2 ≤ 16777216
  decide
theorem told_ok {s : Sto} {G D : Nat} {ns : Net} {x0 x2 x4 x5 x6 x7 x8 x9 x10 x11 x12 x13 : Option W} (h : GAt G D ns s) (ho : NetOk ns) :
    ∃ t a b c, mTold [x0, some (.ref G), x2, some (.lst ((ns.map (·.1)).map .str)), x4, x5, x6, x7, x8, x9, x10, x11, x12, x13] s = .ok (.lst [a, b, .int (ns.map (·.1)).length, c]) (s ++ t) ∧ Rowp s.length (s ++ t) 40 a ∧ Rowp s.length (s ++ t) 40 b ∧ Rowp s.length (s ++ t) 40 c ∧
      rd (s ++ t) (.lst [a, b, .int (ns.map (·.1)).length, c]) = some (dTold ns ((ns.map (·.1)).map (grpS ns))) := by
  have h40 := nm_40 ho
  have m0 := met_ok h tb_tasks "tasks" r_Graph_tasks rfl (lk_no (by decide +kernel))
  have e0 := tasks_ok h
  have g1 : ∀ t, GAt G D ns (s ++ t) := fun t => h.app
  obtain ⟨t2, q2, e2, b2, c2, d2, f2⟩ := rows_ok (m := mvar 3) (e := mmeth tb_direct "direct" (mvar 1) (mcons (mvar 6) mnil)) (i := 6) (ws := [x0, some (.ref G), x2, some (.lst ((ns.map (·.1)).map .str)), x4, x5, x6, x7, x8, x9, x10, x11, x12, x13]) (s := s) (t := [.lst ((ns.map (·.1)).map .str)]) (names := ns.map (·.1)) (RR := scOf ns) rfl h40 (fun x hx t => by
    have m1 := met_ok (g1 t) tb_direct "direct" r_Graph_direct rfl (lk_no (by decide +kernel))
    have e1 := direct_ok (g1 t) ho hx
    show (mmeth tb_direct "direct" (mvar 1) (mcons (mvar 6) mnil)) [x0, some (.ref G), x2, some (.lst ((ns.map (·.1)).map .str)), x4, x5, some (.str x), x7, x8, x9, x10, x11, x12, x13] (s ++ t) = _
    simp! [m1, e1])
  obtain ⟨t3, q3, e3, b3, c3, d3, f3⟩ := rows_ok (m := mvar 3) (e := mmeth tb_group "group" (mvar 1) (mcons (mvar 6) mnil)) (i := 6) (ws := [x0, some (.ref G), x2, some (.lst ((ns.map (·.1)).map .str)), x4, x5, x6, x7, x8, x9, x10, x11, x12, x13]) (s := s) (t := [.lst ((ns.map (·.1)).map .str)] ++ t2) (names := ns.map (·.1)) (RR := grpS ns) rfl h40 (fun x hx t => by
    have m1 := met_ok (g1 t) tb_group "group" r_Graph_group rfl (lk_no (by decide +kernel))
    have e1 := grp_ok (g1 t) ho hx
    show (mmeth tb_group "group" (mvar 1) (mcons (mvar 6) mnil)) [x0, some (.ref G), x2, some (.lst ((ns.map (·.1)).map .str)), x4, x5, some (.str x), x7, x8, x9, x10, x11, x12, x13] (s ++ t) = _
    simp! [m1, e1])
  have el := mlenO_ok (ws := [x0, some (.ref G), x2, some (.lst ((ns.map (·.1)).map .str)), x4, x5, x6, x7, x8, x9, x10, x11, x12, x13]) (g1 ([.lst ((ns.map (·.1)).map .str)] ++ t2)) ho rfl
  rw [← List.append_assoc] at el e3 c3 f3
  refine ⟨[.lst ((ns.map (·.1)).map .str)] ++ t2 ++ t3, .ref s.length, .ref q2, .ref q3, ?_, ?_, ?_, ?_, ?_⟩
  · unfold mTold
    simp! [mlst_eq, m0, e0, e2, el, e3, lst4_le, newL_f]
    simp only [List.append_assoc]
  · exact ⟨s.length, _, rfl, Nat.le_refl _, by rw [← List.append_assoc, ← List.append_assoc]; exact at_app (at_app (at_new _ _)), by rw [List.length_map]; exact h40⟩
  · exact ⟨q2, _, rfl, b2, by rw [← List.append_assoc, ← List.append_assoc]; exact at_app c2, by rw [refsF_len]; exact h40⟩
  · exact ⟨q3, _, rfl, b3, by rw [← List.append_assoc, ← List.append_assoc]; exact c3, by rw [refsF_len]; exact h40⟩
  · rw [← List.append_assoc, ← List.append_assoc]
    exact rd_lst4 (rd_app (rd_app (rd_lst (at_new _ _)))) (rd_app f2) rfl f3
theorem fit_told {ns : Net} (ho : NetOk ns) : Fit (dTold ns ((ns.map (·.1)).map (grpS ns))) 160000 60 :=
  fit4 ((fit_names (fun x hx => ho.hw x hx) (nm_40 ho)).le (by omega) (by omega)) (fit_map ho _ (sc_40 ho)) ((fit_nat (by have := nm_40 ho; omega)).le (by omega) (Nat.le_refl _)) (fit_map ho _ (grp_40 ho))
end K21

namespace K21
open PySem PySem.Spec PyProof.Rows L2 Va
local macro_rules
  | `(tactic| simp! [$ls,*]) => `(tactic| simp -implicitDefEqProofs only [sseq_eq, snil_eq, sret_eq, sexpr_eq, sset_eq, sasg_eq, sif_eq, mvar_s, mvar_0, mc_eq, mbin_eq, mun_eq, mnil_eq, mcons_eq, mfn_eq, mtb_eq, mnot_eq, mtru_eq, mbm_eq, mmeth_eq, mfld_eq, mcall_eq, gname_eq, gsub_eq, R.bind_ok, R.toS_ok, R.of_some, R.cl_ok, RS.then_nx, RS.then_rt, gtru_bl, List.set_cons_zero, List.set_cons_succ, if_true, Bool.false_eq_true, if_false, Bool.not_true, Bool.not_false, decide_true, decide_false, reduceIte, $ls,*])
/-! ### what the law itself tells -/
noncomputable def mToldL : ME := mlst false (mcons (mvar 3) (mcons (mvar 4) (mcons (mlenO tb___len__ (mvar 3)) (mcons (mlc false (miany (mvar 3)) (.nm 6) myes (mcall r_law_group (mcons (mvar 2) (mcons (mvar 6) mnil))) [6]) mnil))))
theorem toldL_ok {u : Sto} {N : Nat} {ns ms : Net} {x0 x1 x5 x6 x7 x8 x9 x10 x11 x12 x13 : Option W} (hd : dicAt u (.ref N) = some (gKs ms)) (ho : NetOk ns) (hw : NetW ms) (hm : Mt ns ms) :
    ∃ w, mToldL [x0, x1, some (.ref N), some (.lst ((ns.map (·.1)).map .str)), some (.lst (((ns.map (·.1)).map (scOf ns)).map fun g => .lst (g.map .str))), x5, x6, x7, x8, x9, x10, x11, x12, x13] u = .ok w u ∧ rd u w = some (dTold ns ((ns.map (·.1)).map (grpS ns))) := by
  have h40 := nm_40 ho
  have e1 : (mlenO tb___len__ (mvar 3)) [x0, x1, some (.ref N), some (.lst ((ns.map (·.1)).map .str)), some (.lst (((ns.map (·.1)).map (scOf ns)).map fun g => .lst (g.map .str))), x5, x6, x7, x8, x9, x10, x11, x12, x13] u = .ok (.int (ns.map (·.1)).length) u := by
    unfold mlenO
    rw [mvar_at (w := .lst ((ns.map (·.1)).map .str)) rfl, R.bind_ok]
    show R.of (gLen [.lst ((ns.map (·.1)).map .str)] u) = _
    rw [gLen_fl, R.of_some]
  have e2 : (mlc false (miany (mvar 3)) (.nm 6) myes (mcall r_law_group (mcons (mvar 2) (mcons (mvar 6) mnil))) [6]) [x0, x1, some (.ref N), some (.lst ((ns.map (·.1)).map .str)), some (.lst (((ns.map (·.1)).map (scOf ns)).map fun g => .lst (g.map .str))), x5, x6, x7, x8, x9, x10, x11, x12, x13] u = .ok (.lst (((ns.map (·.1)).map (grpS ns)).map fun g => .lst (g.map .str))) u := by
    rw [mlc_pure (rowF (grpS ns)) (miany_f (m := mvar 3) rfl) rfl (by rw [List.length_map]; omega) (fun w hw => ?_), row_map]
    obtain ⟨x, hx, rfl⟩ := List.mem_map.mp hw
    have a1 := lgrp_ok hd (by assumption) (by rw [← hm.nm]; exact hx)
    rw [← hm.grp (by assumption)] at a1
    refine ⟨_, rfl, .inr ⟨.lst ((grpS ns x).map .str), rfl, rfl, ?_⟩⟩
    show (mcall r_law_group (mcons (mvar 2) (mcons (mvar 6) mnil))) [x0, x1, some (.ref N), some (.lst ((ns.map (·.1)).map .str)), some (.lst (((ns.map (·.1)).map (scOf ns)).map fun g => .lst (g.map .str))), x5, some (.str x), x7, x8, x9, x10, x11, x12, x13] u = _
    simp! [a1]
  refine ⟨.lst [.lst ((ns.map (·.1)).map .str), .lst (((ns.map (·.1)).map (scOf ns)).map fun g => .lst (g.map .str)), .int (ns.map (·.1)).length, .lst (((ns.map (·.1)).map (grpS ns)).map fun g => .lst (g.map .str))], ?_, ?_⟩
  · unfold mToldL
    simp! [mlst_eq, e1, e2, lst4_le, newL_f]
  · exact rd_lst4 (rd_names _ _) (rd_rows _ _) rfl (rd_rows _ _)
/-- two texts of the same data are not different -/
theorem ne_repr {a b : ME} {ws : Va.Loc} {u u1 u2 : Sto} {w w' : W} {d : PyData} (ha : a ws u = .ok w u1) (h1 : rd u1 w = some d) (hb : b ws u1 = .ok w' u2) (h2 : rd u2 w' = some d) (hf : Fit d 160000 60) :
    (mtb (mbin gNe (mfn gRepr (mcons a mnil)) (mfn gRepr (mcons b mnil)))) ws u = .ok false u2 := by
  have r1 := gRepr_ok h1 hf
  have r2 := gRepr_ok h2 hf
  have e : gNe (.str d.shown) (.str d.shown) u2 = some (.bl false, u2) := by rw [gNe_str, decide_eq_true rfl]; rfl
  simp! [ha, hb, r1, r2, e]
theorem eq_repr {a b : ME} {ws : Va.Loc} {u u1 u2 : Sto} {w w' : W} {d : PyData} (ha : a ws u = .ok w u1) (h1 : rd u1 w = some d) (hb : b ws u1 = .ok w' u2) (h2 : rd u2 w' = some d) (hf : Fit d 160000 60) :
    (mbin gEq (mfn gRepr (mcons a mnil)) (mfn gRepr (mcons b mnil))) ws u = .ok (.bl true) u2 := by
  have r1 := gRepr_ok h1 hf
  have r2 := gRepr_ok h2 hf
  have e : gEq (.str d.shown) (.str d.shown) u2 = some (.bl true, u2) := by rw [gEq_str, decide_eq_true rfl]
  simp! [ha, hb, r1, r2, e]
theorem not_told {c : MT} {ws : Va.Loc} {u u2 : Sto} (h : c ws u = .ok false u2) {r : MS} : sif c (sseq (sret (mc (.bl false))) snil) r ws u = r ws u2 := by
  simp! [h]
/-! ### depends of all pairs -/
noncomputable def mPair : MS := (sseq (sset 9 (mcall r_law_closure (mcons (mvar 2) (mcons (mlst false (mcons (mvar 8) mnil)) mnil))))
    (sseq (sif (mtb (mbin gNe (mlc false (miany (mvar 3)) (.nm 5) myes (mmeth tb_depends "depends" (mvar 1) (mcons (mvar 8) (mcons (mvar 5) mnil))) [5]) (mlc false (miany (mvar 3)) (.nm 5) myes (mbin gIn (mvar 5) (mvar 9)) [5])))
    (sseq (sret (mc (.bl false)))
    snil)
    snil)
    snil))
theorem pair_ok {u : Sto} {G D N : Nat} {ns ms : Net} {x : Str} {x0 x4 x5 x6 x7 x9 x10 x11 x12 x13 : Option W} (hg : GAt G D ns u) (hd : dicAt u (.ref N) = some (gKs ms)) (ho : NetOk ns) (hw : NetW ms) (hm : Mt ns ms) (hx : x ∈ ns.map (·.1)) :
    mPair [x0, some (.ref G), some (.ref N), some (.lst ((ns.map (·.1)).map .str)), x4, x5, x6, x7, some (.str x), x9, x10, x11, x12, x13] u = .nx [x0, some (.ref G), some (.ref N), some (.lst ((ns.map (·.1)).map .str)), x4, x5, x6, x7, some (.str x), some (.lst ((cloS ns [x]).map .str)), x10, x11, x12, x13] u := by
  have h40 := nm_40 ho
  have a1 := lclo1 hd hw (by rw [← hm.nm]; exact hx)
  rw [← hm.clo hw] at a1
  have a2 : (mlst false (mcons (mvar 8) mnil)) [x0, some (.ref G), some (.ref N), some (.lst ((ns.map (·.1)).map .str)), x4, x5, x6, x7, some (.str x), x9, x10, x11, x12, x13] u = .ok (.lst [.str x]) u := mlst1 rfl
  have e1 : (mlc false (miany (mvar 3)) (.nm 5) myes (mmeth tb_depends "depends" (mvar 1) (mcons (mvar 8) (mcons (mvar 5) mnil))) [5]) [x0, some (.ref G), some (.ref N), some (.lst ((ns.map (·.1)).map .str)), x4, x5, x6, x7, some (.str x), some (.lst ((cloS ns [x]).map .str)), x10, x11, x12, x13] u = .ok (.lst (((ns.map (·.1)).map fun y => decide (y ∈ cloS ns [x])).map .bl)) u := by
    rw [mlc_pure (boolF fun y => decide (y ∈ cloS ns [x])) (miany_f (m := mvar 3) rfl) rfl (by rw [List.length_map]; omega) (fun w hw => ?_), bool_map]
    obtain ⟨y, hy, rfl⟩ := List.mem_map.mp hw
    have m1 := met_ok hg tb_depends "depends" r_Graph_depends rfl (lk_no (by decide +kernel))
    have b1 := depends_ok hg ho hx hy
    refine ⟨_, rfl, .inr ⟨.bl (decide (y ∈ cloS ns [x])), rfl, rfl, ?_⟩⟩
    show (mmeth tb_depends "depends" (mvar 1) (mcons (mvar 8) (mcons (mvar 5) mnil))) [x0, some (.ref G), some (.ref N), some (.lst ((ns.map (·.1)).map .str)), x4, some (.str y), x6, x7, some (.str x), some (.lst ((cloS ns [x]).map .str)), x10, x11, x12, x13] u = _
    simp! [m1, b1]
  have e2 : (mlc false (miany (mvar 3)) (.nm 5) myes (mbin gIn (mvar 5) (mvar 9)) [5]) [x0, some (.ref G), some (.ref N), some (.lst ((ns.map (·.1)).map .str)), x4, x5, x6, x7, some (.str x), some (.lst ((cloS ns [x]).map .str)), x10, x11, x12, x13] u = .ok (.lst (((ns.map (·.1)).map fun y => decide (y ∈ cloS ns [x])).map .bl)) u := by
    rw [mlc_pure (boolF fun y => decide (y ∈ cloS ns [x])) (miany_f (m := mvar 3) rfl) rfl (by rw [List.length_map]; omega) (fun w hw => ?_), bool_map]
    obtain ⟨y, hy, rfl⟩ := List.mem_map.mp hw
    have b1 := gIn_strs (x := y) (l := cloS ns [x]) (s := u)
    refine ⟨_, rfl, .inr ⟨.bl (decide (y ∈ cloS ns [x])), rfl, rfl, ?_⟩⟩
    show (mbin gIn (mvar 5) (mvar 9)) [x0, some (.ref G), some (.ref N), some (.lst ((ns.map (·.1)).map .str)), x4, some (.str y), x6, x7, some (.str x), some (.lst ((cloS ns [x]).map .str)), x10, x11, x12, x13] u = _
    simp! [b1]
  have e3 := gNe_bls ((ns.map (·.1)).map fun y => decide (y ∈ cloS ns [x])) u
  unfold mPair
  simp! [a2, a1, e1, e2, e3]
theorem pairs_ok {u : Sto} {G D N : Nat} {ns ms : Net} {x0 x4 x5 x6 x7 x8 x9 x10 x11 x12 x13 : Option W} (hg : GAt G D ns u) (hd : dicAt u (.ref N) = some (gKs ms)) (ho : NetOk ns) (hw : NetW ms) (hm : Mt ns ms) :
    ∃ x8' x9', sfor (miany (mvar 3)) (gname 8) mPair [x0, some (.ref G), some (.ref N), some (.lst ((ns.map (·.1)).map .str)), x4, x5, x6, x7, x8, x9, x10, x11, x12, x13] u = .nx [x0, some (.ref G), some (.ref N), some (.lst ((ns.map (·.1)).map .str)), x4, x5, x6, x7, x8', x9', x10, x11, x12, x13] u := by
  refine sfor_inv (g := gname 8) (b := mPair) (miany_f (m := mvar 3) rfl)
    (fun zs ws v => ∃ (zl : List Str) (y8 y9 : Option W), zs = zl.map .str ∧ ws = [x0, some (.ref G), some (.ref N), some (.lst ((ns.map (·.1)).map .str)), x4, x5, x6, x7, y8, y9, x10, x11, x12, x13] ∧ v = u ∧ ∀ z ∈ zl, z ∈ ns.map (·.1))
    (fun r => ∃ x8' x9', r = .nx [x0, some (.ref G), some (.ref N), some (.lst ((ns.map (·.1)).map .str)), x4, x5, x6, x7, x8', x9', x10, x11, x12, x13] u)
    ⟨ns.map (·.1), x8, x9, rfl, rfl, rfl, fun _ h => h⟩ (fun x zs ws v hI => ?_) (fun ws v hI => ?_)
  · obtain ⟨zl, y8, y9, ez, rfl, rfl, hz⟩ := hI
    cases zl with
    | nil => cases ez
    | cons z zl =>
      rw [List.map_cons, List.cons.injEq] at ez
      obtain ⟨rfl, rfl⟩ := ez
      exact ⟨rfl, _, _, rfl, .inl ⟨_, _, .inl (pair_ok hg hd ho hw hm (hz z List.mem_cons_self)), zl, _, _, rfl, rfl, rfl, fun y hy => hz y (List.mem_cons_of_mem _ hy)⟩⟩
  · obtain ⟨zl, y8, y9, ez, rfl, rfl, hz⟩ := hI
    exact ⟨rfl, y8, y9, rfl⟩
/-! ### rows that are changed -/
theorem rowp_set {b k : Nat} {s1 t : Sto} {q : Nat} {ys : List W} (hq : s1.length ≤ q) (hl : ys.length ≤ k + 1) {w : W} (h : Rowp s1.length (s1 ++ t) k w) : Rowp s1.length ((s1 ++ t).set q (.lst ys)) (k + 1) w := by
  obtain ⟨q', xs, e, hb, hq', hl'⟩ := h
  by_cases hqq : q = q'
  · subst hqq
    exact ⟨q, ys, e, hb, at_set _ hq', hl⟩
  · exact ⟨q', xs, e, hb, at_ne _ hq' hqq, by omega⟩
theorem set_tail {s1 t : Sto} {q : Nat} {o : O} (hq : s1.length ≤ q) : (s1 ++ t).set q o = s1 ++ t.set (q - s1.length) o := List.set_append_right _ _ hq
def mApp : MS := (sseq (sexpr (mbm "list" gAppend (mvar 12) (mcons (mc .non) mnil))) snil)
theorem app_ok {s1 t : Sto} {k : Nat} {w : W} {x0 x1 x2 x3 x4 x5 x6 x7 x8 x9 x10 x11 x13 : Option W} (h : Rowp s1.length (s1 ++ t) k w) (hk : k ≤ 1000) :
    ∃ t', mApp [x0, x1, x2, x3, x4, x5, x6, x7, x8, x9, x10, x11, some w, x13] (s1 ++ t) = .nx [x0, x1, x2, x3, x4, x5, x6, x7, x8, x9, x10, x11, some w, x13] (s1 ++ t') ∧ ∀ w', Rowp s1.length (s1 ++ t) k w' → Rowp s1.length (s1 ++ t') (k + 1) w' := by
  obtain ⟨q, xs, rfl, hb, hq, hl⟩ := h
  have ty : tyM (.ref q) (s1 ++ t) = "list" := by
    unfold tyM
    simp only [lstAt_r hq]
  have e3 : gAppend (.ref q) [.non] (s1 ++ t) = some (.non, (s1 ++ t).set q (.lst (xs ++ [.non]))) := by
    unfold gAppend
    simp only [muAt_r hq]
    rw [if_pos (by omega)]
    rfl
  refine ⟨t.set (q - s1.length) (.lst (xs ++ [.non])), ?_, fun w' hw' => ?_⟩
  · unfold mApp
    simp! [ty, e3]
    rw [set_tail hb]
  · rw [← set_tail hb]
    exact rowp_set (b := 0) hb (by simp; omega) hw'
theorem apps_ok {s1 t : Sto} {mi : MI} {rows : List W} {ws : Va.Loc} {u : Sto} {x0 x1 x2 x3 x4 x5 x6 x7 x8 x9 x10 x11 x12 x13 : Option W} (ew : ws = [x0, x1, x2, x3, x4, x5, x6, x7, x8, x9, x10, x11, x12, x13]) (hm : mi ws u = .ok ⟨rows, [], none⟩ (s1 ++ t)) (hr : ∀ w ∈ rows, Rowp s1.length (s1 ++ t) 40 w) (hl : rows.length ≤ 100) :
    ∃ t' x12', sfor mi (gname 12) mApp ws u = .nx [x0, x1, x2, x3, x4, x5, x6, x7, x8, x9, x10, x11, x12', x13] (s1 ++ t') := by
  subst ew
  refine sfor_inv (g := gname 12) (b := mApp) hm
    (fun zs ws v => ∃ (t' : Sto) (y : Option W) (k : Nat), ws = [x0, x1, x2, x3, x4, x5, x6, x7, x8, x9, x10, x11, y, x13] ∧ v = s1 ++ t' ∧ k + zs.length ≤ 200 ∧ ∀ w ∈ zs, Rowp s1.length (s1 ++ t') k w)
    (fun r => ∃ t' x12', r = .nx [x0, x1, x2, x3, x4, x5, x6, x7, x8, x9, x10, x11, x12', x13] (s1 ++ t'))
    ⟨t, x12, 40, rfl, rfl, by omega, hr⟩ (fun x zs ws v hI => ?_) (fun ws v hI => ?_)
  · obtain ⟨t', y, k, rfl, rfl, hk, hz⟩ := hI
    rw [List.length_cons] at hk
    obtain ⟨t2, e, h2⟩ := app_ok (x0 := x0) (x1 := x1) (x2 := x2) (x3 := x3) (x4 := x4) (x5 := x5) (x6 := x6) (x7 := x7) (x8 := x8) (x9 := x9) (x10 := x10) (x11 := x11) (x13 := x13) (hz x List.mem_cons_self) (by omega)
    exact ⟨rfl, _, _, rfl, .inl ⟨_, _, .inl e, t2, some x, k + 1, rfl, rfl, by omega, fun w hw => h2 w (hz w (List.mem_cons_of_mem _ hw))⟩⟩
  · obtain ⟨t', y, k, rfl, rfl, hk, hz⟩ := hI
    exact ⟨rfl, t', y, rfl⟩
def mClr : MS := (sseq (sexpr (mbm "list" gClear (mvar 13) mnil)) snil)
theorem clr_ok {s1 t : Sto} {k : Nat} {w : W} {x0 x1 x2 x3 x4 x5 x6 x7 x8 x9 x10 x11 x12 : Option W} (h : Rowp s1.length (s1 ++ t) k w) :
    ∃ t', mClr [x0, x1, x2, x3, x4, x5, x6, x7, x8, x9, x10, x11, x12, some w] (s1 ++ t) = .nx [x0, x1, x2, x3, x4, x5, x6, x7, x8, x9, x10, x11, x12, some w] (s1 ++ t') ∧ ∀ w', Rowp s1.length (s1 ++ t) k w' → Rowp s1.length (s1 ++ t') (k + 1) w' := by
  obtain ⟨q, xs, rfl, hb, hq, hl⟩ := h
  have ty : tyM (.ref q) (s1 ++ t) = "list" := by
    unfold tyM
    simp only [lstAt_r hq]
  have e3 : gClear (.ref q) [] (s1 ++ t) = some (.non, (s1 ++ t).set q (.lst [])) := by
    unfold gClear
    simp only [muAt_r hq]
    rfl
  refine ⟨t.set (q - s1.length) (.lst []), ?_, fun w' hw' => ?_⟩
  · unfold mClr
    simp! [ty, e3]
    rw [set_tail hb]
  · rw [← set_tail hb]
    exact rowp_set (b := 0) hb (by simp) hw'
theorem clrs_ok {s1 t : Sto} {mi : MI} {rows : List W} {ws : Va.Loc} {u : Sto} {x0 x1 x2 x3 x4 x5 x6 x7 x8 x9 x10 x11 x12 x13 : Option W} (ew : ws = [x0, x1, x2, x3, x4, x5, x6, x7, x8, x9, x10, x11, x12, x13]) (hm : mi ws u = .ok ⟨rows, [], none⟩ (s1 ++ t)) (hr : ∀ w ∈ rows, Rowp s1.length (s1 ++ t) 40 w) :
    ∃ t' x13', sfor mi (gname 13) mClr ws u = .nx [x0, x1, x2, x3, x4, x5, x6, x7, x8, x9, x10, x11, x12, x13'] (s1 ++ t') := by
  subst ew
  refine sfor_inv (g := gname 13) (b := mClr) hm
    (fun zs ws v => ∃ (t' : Sto) (y : Option W) (k : Nat), ws = [x0, x1, x2, x3, x4, x5, x6, x7, x8, x9, x10, x11, x12, y] ∧ v = s1 ++ t' ∧ ∀ w ∈ zs, Rowp s1.length (s1 ++ t') k w)
    (fun r => ∃ t' x13', r = .nx [x0, x1, x2, x3, x4, x5, x6, x7, x8, x9, x10, x11, x12, x13'] (s1 ++ t'))
    ⟨t, x13, 40, rfl, rfl, hr⟩ (fun x zs ws v hI => ?_) (fun ws v hI => ?_)
  · obtain ⟨t', y, k, rfl, rfl, hz⟩ := hI
    obtain ⟨t2, e, h2⟩ := clr_ok (x0 := x0) (x1 := x1) (x2 := x2) (x3 := x3) (x4 := x4) (x5 := x5) (x6 := x6) (x7 := x7) (x8 := x8) (x9 := x9) (x10 := x10) (x11 := x11) (x12 := x12) (hz x List.mem_cons_self)
    exact ⟨rfl, _, _, rfl, .inl ⟨_, _, .inl e, t2, some x, k + 1, rfl, rfl, fun w hw => h2 w (hz w (List.mem_cons_of_mem _ hw))⟩⟩
  · obtain ⟨t', y, k, rfl, rfl, hz⟩ := hI
    exact ⟨rfl, t', y, rfl⟩
end K21

namespace K21
open PySem PySem.Spec PyProof.Rows L2 Va
local macro_rules
  | `(tactic| simp! [$ls,*]) => `(tactic| simp -implicitDefEqProofs only [sseq_eq, snil_eq, sret_eq, sexpr_eq, sset_eq, sasg_eq, sif_eq, mvar_s, mvar_0, mc_eq, mbin_eq, mun_eq, mnil_eq, mcons_eq, mfn_eq, mtb_eq, mnot_eq, mtru_eq, mbm_eq, mmeth_eq, mfld_eq, mcall_eq, gname_eq, gsub_eq, R.bind_ok, R.toS_ok, R.of_some, R.cl_ok, RS.then_nx, RS.then_rt, gtru_bl, List.set_cons_zero, List.set_cons_succ, if_true, Bool.false_eq_true, if_false, Bool.not_true, Bool.not_false, decide_true, decide_false, reduceIte, $ls,*])
noncomputable def mGrs : ME := mmeth tb_groups "groups" (mvar 1) mnil
noncomputable def mLgrs : ME := mcall r_law_groups (mcons (mvar 2) mnil)
noncomputable def mFound : ME := mlst false (mcons (mcall r_law_closure_told (mcons (mvar 1) (mcons (mvar 10) mnil))) (mcons (mcall r_law_dependents_told (mcons (mvar 1) (mcons (mvar 10) mnil))) mnil))
noncomputable def mFoundL : ME := mlst false (mcons (mcall r_law_closure (mcons (mvar 2) (mcons (mvar 10) mnil))) (mcons (mcall r_law_dependents (mcons (mvar 2) (mcons (mvar 10) mnil))) mnil))
def mRows : ME := mbin (gAdd false) (mbin (gAdd false) (mslice false (mvar 7) mnop (mpart (mc (.int 2)))) (mslice false (mvar 7) (mpart (mc (.int 3))) mnop)) (mvar 11)
noncomputable def mDirs : ME := mlc true (miany (mvar 3)) (.nm 6) myes (mmeth tb_direct "direct" (mvar 1) (mcons (mvar 6) mnil)) [6]
noncomputable def mRows2 : ME := mbin (gAdd false) mGrs mDirs
noncomputable def mEnd : ME := mlst false (mcons (mmeth tb_tasks "tasks" (mvar 1) mnil) (mcons mGrs mnil))
noncomputable def mEndL : ME := mlst false (mcons (mvar 3) (mcons mLgrs mnil))
noncomputable def mFail : MS := sseq (sret (mc (.bl false))) snil
theorem state_shape : m_law_state_right = sseq (sset 3 (mfn (gListA false) (mcons (mvar 2) mnil))) (sseq (sset 4 mDirects) (sseq (sset 7 mTold)
    (sseq (sif (mtb (mbin gNe (mfn gRepr (mcons (mvar 7) mnil)) (mfn gRepr (mcons mToldL mnil)))) mFail snil)
    (sseq (sif (mtb (mbin gNe (mfn gRepr (mcons mGrs mnil)) (mfn gRepr (mcons mLgrs mnil)))) mFail snil)
    (sseq (sfor (miany (mvar 3)) (gname 8) mPair)
    (sseq (sset 10 (mcall r_law_drawn (mcons (mvar 0) (mcons (mvar 2) mnil))))
    (sseq (sset 11 mFound)
    (sseq (sif (mtb (mbin gNe (mfn gRepr (mcons (mvar 11) mnil)) (mfn gRepr (mcons mFoundL mnil)))) mFail snil)
    (sseq (sfor (miany mRows) (gname 12) mApp)
    (sseq (sfor (miany mRows2) (gname 13) mClr)
    (sseq (sret (mbin gEq (mfn gRepr (mcons mEnd mnil)) (mfn gRepr (mcons mEndL mnil)))) snil))))))))))) := rfl
theorem grs_ok {G D : Nat} {ns : Net} {u : Sto} {ws : Va.Loc} (h : GAt G D ns u) (ho : NetOk ns) (h1 : ws[1]? = some (some (.ref G))) :
    ∃ t' q, mGrs ws u = .ok (.ref q) (u ++ t') ∧ u.length ≤ q ∧ (u ++ t')[q]? = some (.lst (refsF u.length (grps ns).length)) ∧ (∀ (i : Nat) (g : List Str), (grps ns)[i]? = some g → (u ++ t')[u.length + i]? = some (.lst (g.map .str))) ∧ rd (u ++ t') (.ref q) = some (.list ((grps ns).map dN)) := by
  obtain ⟨t', q, e, h2, h3, h4, h5⟩ := groups_row h ho
  have m1 := met_ok h tb_groups "groups" r_Graph_groups rfl (lk_no (by decide +kernel))
  refine ⟨t', q, ?_, h2, h3, h4, h5⟩
  unfold mGrs
  rw [mmeth_eq, mvar_at h1, R.bind_ok]
  simp only [m1]
  rw [mnil_eq, R.bind_ok, e]
theorem lgrs_ok {N : Nat} {ns ms : Net} {u : Sto} {ws : Va.Loc} (hd : dicAt u (.ref N) = some (gKs ms)) (hw : NetW ms) (hm : Mt ns ms) (h2 : ws[2]? = some (some (.ref N))) :
    mLgrs ws u = .ok (.lst (gsW (grps ns))) u ∧ rd u (.lst (gsW (grps ns))) = some (.list ((grps ns).map dN)) := by
  have e := lgrps_ok hd hw
  rw [← hm.grps hw] at e
  refine ⟨?_, rd_rows _ _⟩
  unfold mLgrs
  rw [mcall_eq, mcons_eq, mvar_at h2, R.bind_ok, mnil_eq, R.bind_ok, R.bind_ok, e]
theorem tasksM_ok {G D : Nat} {ns : Net} {u : Sto} {ws : Va.Loc} (h : GAt G D ns u) (h1 : ws[1]? = some (some (.ref G))) :
    (mmeth tb_tasks "tasks" (mvar 1) mnil) ws u = .ok (.ref u.length) (u ++ [.lst ((ns.map (·.1)).map .str)]) := by
  have m1 := met_ok h tb_tasks "tasks" r_Graph_tasks rfl (lk_no (by decide +kernel))
  rw [mmeth_eq, mvar_at h1, R.bind_ok]
  simp only [m1]
  rw [mnil_eq, R.bind_ok, tasks_ok h]
theorem mlst_two {a b : ME} {ws : Va.Loc} {u u1 u2 : Sto} {x y : W} (h1 : a ws u = .ok x u1) (h2 : b ws u1 = .ok y u2) : (mlst false (mcons a (mcons b mnil))) ws u = .ok (.lst [x, y]) u2 := by
  rw [mlst_eq, mcons_eq, h1, R.bind_ok, mcons_eq, h2, R.bind_ok, mnil_eq, R.bind_ok, R.bind_ok, R.bind_ok, if_pos (lst2_le x y), newL_f, R.of_some]
theorem end_ok {G D N : Nat} {ns ms : Net} {u : Sto} {ws : Va.Loc} (h : GAt G D ns u) (hd : dicAt u (.ref N) = some (gKs ms)) (ho : NetOk ns) (hw : NetW ms) (hm : Mt ns ms) (h1 : ws[1]? = some (some (.ref G))) (h2 : ws[2]? = some (some (.ref N))) (h3 : ws[3]? = some (some (.lst ((ns.map (·.1)).map .str)))) :
    ∃ t', (mbin gEq (mfn gRepr (mcons mEnd mnil)) (mfn gRepr (mcons mEndL mnil))) ws u = .ok (.bl true) (u ++ t') := by
  obtain ⟨t', q, e2, _, _, _, r2⟩ := grs_ok (u := u ++ [.lst ((ns.map (·.1)).map .str)]) (ws := ws) h.app ho h1
  have e1 := tasksM_ok h h1
  have ea : mEnd ws u = .ok (.lst [.ref u.length, .ref q]) (u ++ [.lst ((ns.map (·.1)).map .str)] ++ t') := mlst_two e1 e2
  obtain ⟨e3, r3⟩ := lgrs_ok (u := u ++ [.lst ((ns.map (·.1)).map .str)] ++ t') (ws := ws) (dicAt_app (dicAt_app hd)) hw hm h2
  have eb : mEndL ws (u ++ [.lst ((ns.map (·.1)).map .str)] ++ t') = .ok (.lst [.lst ((ns.map (·.1)).map .str), .lst (gsW (grps ns))]) (u ++ [.lst ((ns.map (·.1)).map .str)] ++ t') := mlst_two (mvar_at h3 _) e3
  have ra := rd_lst2 (rd_app (t := t') (rd_lst (at_new u (.lst ((ns.map (·.1)).map .str))))) r2
  have rb := rd_lst2 (rd_names (u ++ [.lst ((ns.map (·.1)).map .str)] ++ t') (ns.map (·.1))) r3
  have hf := fit2 ((fit_names (fun x hx => ho.hw x hx) (nm_40 ho)).le (by omega) (by omega)) (fit_grps ho)
  refine ⟨[.lst ((ns.map (·.1)).map .str)] ++ t', ?_⟩
  rw [eq_repr ea ra eb rb hf, List.append_assoc]
theorem trAt_two {u : Sto} {a b : Nat} {xs ys : List W} (h1 : u[a]? = some (.lst xs)) (h2 : u[b]? = some (.lst ys)) (hl : xs.length + ys.length ≤ 1000) : gAdd false (.ref a) (.ref b) u = some (.lst (xs ++ ys), u) := by
  unfold gAdd
  simp only [trAt_r h1, trAt_r h2]
  rw [if_pos (by omega)]
  rfl
theorem rows2_ok {G D : Nat} {ns : Net} {s1 t : Sto} {x0 x2 x4 x5 x6 x7 x8 x9 x10 x11 x12 x13 : Option W} (hg : ∀ t, GAt G D ns (s1 ++ t)) (ho : NetOk ns) :
    ∃ t' rows, mRows2 [x0, some (.ref G), x2, some (.lst ((ns.map (·.1)).map .str)), x4, x5, x6, x7, x8, x9, x10, x11, x12, x13] (s1 ++ t) = .ok (.lst rows) (s1 ++ t') ∧ ∀ w ∈ rows, Rowp s1.length (s1 ++ t') 40 w := by
  have h40 := nm_40 ho
  have g40 := grps_40 ho
  obtain ⟨t1, q1, e1, b1, c1, d1, _⟩ := grs_ok (ws := [x0, some (.ref G), x2, some (.lst ((ns.map (·.1)).map .str)), x4, x5, x6, x7, x8, x9, x10, x11, x12, x13]) (hg t) ho rfl
  obtain ⟨t2, q2, e2, b2, c2, d2, _⟩ := rows_ok (m := mvar 3) (e := mmeth tb_direct "direct" (mvar 1) (mcons (mvar 6) mnil)) (i := 6) (ws := [x0, some (.ref G), x2, some (.lst ((ns.map (·.1)).map .str)), x4, x5, x6, x7, x8, x9, x10, x11, x12, x13]) (s := s1) (t := t ++ t1) (names := ns.map (·.1)) (RR := scOf ns) rfl h40 (fun x hx t => by
    have m1 := met_ok (hg t) tb_direct "direct" r_Graph_direct rfl (lk_no (by decide +kernel))
    have e1 := direct_ok (hg t) ho hx
    show (mmeth tb_direct "direct" (mvar 1) (mcons (mvar 6) mnil)) [x0, some (.ref G), x2, some (.lst ((ns.map (·.1)).map .str)), x4, x5, some (.str x), x7, x8, x9, x10, x11, x12, x13] (s1 ++ t) = _
    simp! [m1, e1])
  rw [List.append_assoc] at e1 c1 d1
  have c1' := at_app (t := t2) c1
  have e3 := trAt_two c1' c2 (by rw [refsF_len, refsF_len]; omega)
  refine ⟨t ++ t1 ++ t2, refsF (s1 ++ t).length (grps ns).length ++ refsF (s1 ++ (t ++ t1)).length (ns.map (·.1)).length, ?_, fun w hw => ?_⟩
  · unfold mRows2 mDirs
    rw [mbin_eq, e1, R.bind_ok, e2, R.bind_ok, e3, R.of_some, List.append_assoc s1]
  · rw [← List.append_assoc s1]
    rcases List.mem_append.mp hw with hw | hw
    · obtain ⟨i, hi⟩ := List.mem_iff_getElem?.mp hw
      obtain ⟨hl, rfl⟩ := refsF_at hi
      have hx : (grps ns)[i]? = some (grps ns)[i] := List.getElem?_eq_getElem hl
      refine ⟨_, _, rfl, by rw [List.length_append]; omega, at_app (d1 i _ hx), ?_⟩
      obtain ⟨y, e⟩ := grps_mem (List.getElem_mem hl)
      rw [List.length_map, e]
      exact filt_40 ho _
    · obtain ⟨i, hi⟩ := List.mem_iff_getElem?.mp hw
      obtain ⟨hl, rfl⟩ := refsF_at hi
      have hx : (ns.map (·.1))[i]? = some (ns.map (·.1))[i] := List.getElem?_eq_getElem hl
      exact ⟨_, _, rfl, by rw [List.length_append]; omega, d2 i _ hx, by rw [List.length_map]; exact (sc_40 ho _).1⟩
theorem rows1_ok {a b c i r1 r2 : W} {u : Sto} {x0 x1 x2 x3 x4 x5 x6 x8 x9 x10 x12 x13 : Option W} :
    mRows [x0, x1, x2, x3, x4, x5, x6, some (.lst [a, b, i, c]), x8, x9, x10, some (.lst [r1, r2]), x12, x13] u = .ok (.lst [a, b, c, r1, r2]) u := by
  have e1 : gSl false (.lst [a, b, i, c]) none (some 2) u = some (.lst [a, b], u) := rfl
  have e2 : gSl false (.lst [a, b, i, c]) (some 3) none u = some (.lst [c], u) := rfl
  have e3 : gAdd false (.lst [a, b]) (.lst [c]) u = some (.lst [a, b, c], u) := gAdd_ff (by simp)
  have e4 : gAdd false (.lst [a, b, c]) (.lst [r1, r2]) u = some (.lst [a, b, c, r1, r2], u) := gAdd_ff (by simp)
  unfold mRows
  simp! [mslice_eq, mnop_eq, mpart_eq, e1, e2, e3, e4]
theorem state_ok {s : Sto} {p G D N : Nat} {ns ms : Net} (hp : PotAt p s) (hg : GAt G D ns s) (hd : dicAt s (.ref N) = some (gKs ms)) (hpG : G ≠ p) (hpD : D ≠ p) (hpN : N ≠ p) (ho : NetOk ns) (hw : NetW ms) (hm : Mt ns ms) :
    ∃ s1, r_law_state_right [.ref p, .ref G, .ref N] [] s = .ok (.bl true) s1 ∧ Mv p s s1 := by
  have core : ∃ s1 t, m_law_state_right [some (.ref p), some (.ref G), some (.ref N), none, none, none, none, none, none, none, none, none, none, none] s = .rt (.bl true) (s1 ++ t) ∧ Mv p s s1 := by
    rw [state_shape]
    have e1 := gListA_d hd
    rw [← hm.nm] at e1
    have e2 := directs_ok (x0 := some (.ref p)) (x1 := some (.ref G)) (x4 := none) (x5 := none) (x6 := none) (x7 := none) (x8 := none) (x9 := none) (x10 := none) (x11 := none) (x12 := none) (x13 := none) hd ho hm
    obtain ⟨t3, a, b, c, e3, ra, rb, rc, r3⟩ := told_ok (x0 := some (.ref p)) (x2 := some (.ref N)) (x4 := some (.lst (((ns.map (·.1)).map (scOf ns)).map fun g => .lst (g.map .str)))) (x5 := none) (x6 := none) (x7 := none) (x8 := none) (x9 := none) (x10 := none) (x11 := none) (x12 := none) (x13 := none) hg ho
    have hg3 : GAt G D ns (s ++ t3) := hg.app
    have hd3 : dicAt (s ++ t3) (.ref N) = some (gKs ms) := dicAt_app hd
    obtain ⟨w4, e4, r4⟩ := toldL_ok (x0 := some (.ref p)) (x1 := some (.ref G)) (x5 := none) (x6 := none) (x7 := some (.lst [a, b, .int (ns.map (·.1)).length, c])) (x8 := none) (x9 := none) (x10 := none) (x11 := none) (x12 := none) (x13 := none) hd3 ho hw hm
    have c4 := ne_repr (a := mvar 7) (ws := [some (.ref p), some (.ref G), some (.ref N), some (.lst ((ns.map (·.1)).map .str)), some (.lst (((ns.map (·.1)).map (scOf ns)).map fun g => .lst (g.map .str))), none, none, some (.lst [a, b, .int (ns.map (·.1)).length, c]), none, none, none, none, none, none]) rfl r3 e4 r4 (fit_told ho)
    obtain ⟨t5, q5, e5, _, _, _, r5⟩ := grs_ok (ws := [some (.ref p), some (.ref G), some (.ref N), some (.lst ((ns.map (·.1)).map .str)), some (.lst (((ns.map (·.1)).map (scOf ns)).map fun g => .lst (g.map .str))), none, none, some (.lst [a, b, .int (ns.map (·.1)).length, c]), none, none, none, none, none, none]) hg3 ho rfl
    obtain ⟨e6, r6⟩ := lgrs_ok (u := s ++ t3 ++ t5) (ws := [some (.ref p), some (.ref G), some (.ref N), some (.lst ((ns.map (·.1)).map .str)), some (.lst (((ns.map (·.1)).map (scOf ns)).map fun g => .lst (g.map .str))), none, none, some (.lst [a, b, .int (ns.map (·.1)).length, c]), none, none, none, none, none, none]) (dicAt_app hd3) hw hm rfl
    have c6 := ne_repr e5 r5 e6 r6 ((fit_grps ho).le (by omega) (by omega))
    rw [List.append_assoc] at c6
    have hg5 : GAt G D ns (s ++ (t3 ++ t5)) := hg.app
    have hd5 : dicAt (s ++ (t3 ++ t5)) (.ref N) = some (gKs ms) := dicAt_app hd
    obtain ⟨x8, x9, e7⟩ := pairs_ok (x0 := some (.ref p)) (x4 := some (.lst (((ns.map (·.1)).map (scOf ns)).map fun g => .lst (g.map .str)))) (x5 := none) (x6 := none) (x7 := some (.lst [a, b, .int (ns.map (·.1)).length, c])) (x8 := none) (x9 := none) (x10 := none) (x11 := none) (x12 := none) (x13 := none) hg5 hd5 ho hw hm
    have hn : ms.length ≤ 40 := hw.hn
    obtain ⟨S, u8, e8, hS, h3, mv8⟩ := drawn_ok (s := s ++ (t3 ++ t5)) hp.app hd5 hpN hn
    obtain ⟨s1, rfl, mv⟩ := Mv.base mv8 hp.lt
    have hg8 : ∀ t, GAt G D ns (s1 ++ t) := fun t => (Mv.gat mv hpG hpD hg).app
    have hd8 : ∀ t, dicAt (s1 ++ t) (.ref N) = some (gKs ms) := fun t => dicAt_app (Mv.dic mv hpN hd)
    have hS' : ∀ x ∈ S, x ∈ ns.map (·.1) := by rw [hm.nm]; exact hS
    have e9 := clotold_ok (hg8 (t3 ++ t5)) ho hS' h3
    have e10 := deptold_ok (h := (hg8 (t3 ++ t5 ++ [O.lst ((cloS ns S).map W.str)]))) ho hS' h3
    rw [List.append_assoc] at e9
    have e11 : mFound [some (.ref p), some (.ref G), some (.ref N), some (.lst ((ns.map (·.1)).map .str)), some (.lst (((ns.map (·.1)).map (scOf ns)).map fun g => .lst (g.map .str))), none, none, some (.lst [a, b, .int (ns.map (·.1)).length, c]), x8, x9, some (.lst (S.map .str)), none, none, none] (s1 ++ (t3 ++ t5)) = .ok (.lst [.ref (s1 ++ (t3 ++ t5)).length, .ref (s1 ++ (t3 ++ t5 ++ [O.lst ((cloS ns S).map W.str)])).length]) (s1 ++ (t3 ++ t5 ++ [O.lst ((cloS ns S).map W.str)]) ++ [O.lst ((depS ns S).map W.str)]) :=
      mlst_two (u1 := s1 ++ (t3 ++ t5 ++ [O.lst ((cloS ns S).map W.str)])) (by simp! [e9]) (by simp! [e10])
    have rA : (s1 ++ (t3 ++ t5 ++ [O.lst ((cloS ns S).map W.str)]) ++ [O.lst ((depS ns S).map W.str)])[(s1 ++ (t3 ++ t5)).length]? = some (O.lst ((cloS ns S).map W.str)) := at_app (by rw [← List.append_assoc]; exact at_new _ _)
    have rB : (s1 ++ (t3 ++ t5 ++ [O.lst ((cloS ns S).map W.str)]) ++ [O.lst ((depS ns S).map W.str)])[(s1 ++ (t3 ++ t5 ++ [O.lst ((cloS ns S).map W.str)])).length]? = some (O.lst ((depS ns S).map W.str)) := at_new _ _
    have r11 := rd_lst2 (rd_lst rA) (rd_lst rB)
    have hd11 : dicAt (s1 ++ (t3 ++ t5 ++ [O.lst ((cloS ns S).map W.str)]) ++ [O.lst ((depS ns S).map W.str)]) (.ref N) = some (gKs ms) := dicAt_app (hd8 _)
    have e12 := lclo_ok hd11 hw (by omega) hS
    have e13 := ldep_ok hd11 hw hS
    rw [← hm.clo hw] at e12
    rw [← hm.dep hw] at e13
    have e14 : mFoundL [some (.ref p), some (.ref G), some (.ref N), some (.lst ((ns.map (·.1)).map .str)), some (.lst (((ns.map (·.1)).map (scOf ns)).map fun g => .lst (g.map .str))), none, none, some (.lst [a, b, .int (ns.map (·.1)).length, c]), x8, x9, some (.lst (S.map .str)), some (.lst [.ref (s1 ++ (t3 ++ t5)).length, .ref (s1 ++ (t3 ++ t5 ++ [O.lst ((cloS ns S).map W.str)])).length]), none, none] (s1 ++ (t3 ++ t5 ++ [O.lst ((cloS ns S).map W.str)]) ++ [O.lst ((depS ns S).map W.str)]) = .ok (.lst [.lst ((cloS ns S).map .str), .lst ((depS ns S).map .str)]) (s1 ++ (t3 ++ t5 ++ [O.lst ((cloS ns S).map W.str)]) ++ [O.lst ((depS ns S).map W.str)]) :=
      mlst_two (u1 := s1 ++ (t3 ++ t5 ++ [O.lst ((cloS ns S).map W.str)]) ++ [O.lst ((depS ns S).map W.str)]) (by simp! [e12]) (by simp! [e13])
    have c14 := ne_repr (a := mvar 11) (ws := [some (.ref p), some (.ref G), some (.ref N), some (.lst ((ns.map (·.1)).map .str)), some (.lst (((ns.map (·.1)).map (scOf ns)).map fun g => .lst (g.map .str))), none, none, some (.lst [a, b, .int (ns.map (·.1)).length, c]), x8, x9, some (.lst (S.map .str)), some (.lst [.ref (s1 ++ (t3 ++ t5)).length, .ref (s1 ++ (t3 ++ t5 ++ [O.lst ((cloS ns S).map W.str)])).length]), none, none]) rfl r11 e14 (rd_lst2 (rd_names _ _) (rd_names _ _)) (fit2 ((fit_filt ho _).le (by omega) (by omega)) ((fit_filt ho _).le (by omega) (by omega)))
    rw [List.append_assoc s1] at c14 rA rB e11
    generalize ht : (t3 ++ t5 ++ [O.lst ((cloS ns S).map W.str)] ++ [O.lst ((depS ns S).map W.str)]) = t14 at c14 rA rB e11
    have hbig : ∃ t', t14 = t3 ++ t' := ⟨t5 ++ [O.lst ((cloS ns S).map W.str)] ++ [O.lst ((depS ns S).map W.str)], by rw [← ht]; simp only [List.append_assoc]⟩
    obtain ⟨t', et⟩ := hbig
    have rr : ∀ w, Rowp s.length (s ++ t3) 40 w → Rowp s1.length (s1 ++ t14) 40 w := fun w h => by
      have := (Rowp.mv h mv).app (t := t')
      rw [et, ← List.append_assoc]; exact this
    obtain ⟨t15, x12, e15⟩ := apps_ok (s1 := s1) (t := t14) (mi := miany mRows) (ws := [some (.ref p), some (.ref G), some (.ref N), some (.lst ((ns.map (·.1)).map .str)), some (.lst (((ns.map (·.1)).map (scOf ns)).map fun g => .lst (g.map .str))), none, none, some (.lst [a, b, .int (ns.map (·.1)).length, c]), x8, x9, some (.lst (S.map .str)), some (.lst [.ref (s1 ++ (t3 ++ t5)).length, .ref (s1 ++ (t3 ++ t5 ++ [O.lst ((cloS ns S).map W.str)])).length]), none, none]) rfl (miany_f rows1_ok) (fun w hw' => by
      simp only [List.mem_cons, List.not_mem_nil, or_false] at hw'
      rcases hw' with rfl | rfl | rfl | rfl | rfl
      · exact rr _ ra
      · exact rr _ rb
      · exact rr _ rc
      · exact ⟨_, _, rfl, by rw [List.length_append]; omega, rA, by rw [List.length_map]; exact filt_40 ho _⟩
      · exact ⟨_, _, rfl, by rw [List.length_append]; omega, rB, by rw [List.length_map]; exact filt_40 ho _⟩) (by simp)
    obtain ⟨t16, rows, e16, h16⟩ := rows2_ok (t := t15) (x0 := some (.ref p)) (x2 := some (.ref N)) (x4 := some (.lst (((ns.map (·.1)).map (scOf ns)).map fun g => .lst (g.map .str)))) (x5 := none) (x6 := none) (x7 := some (.lst [a, b, .int (ns.map (·.1)).length, c])) (x8 := x8) (x9 := x9) (x10 := some (.lst (S.map .str))) (x11 := some (.lst [.ref (s1 ++ (t3 ++ t5)).length, .ref (s1 ++ (t3 ++ t5 ++ [O.lst ((cloS ns S).map W.str)])).length])) (x12 := x12) (x13 := none) hg8 ho
    obtain ⟨t17, x13, e17⟩ := clrs_ok (s1 := s1) (t := t16) rfl (miany_f e16) h16
    obtain ⟨t18, e18⟩ := end_ok (ws := [some (.ref p), some (.ref G), some (.ref N), some (.lst ((ns.map (·.1)).map .str)), some (.lst (((ns.map (·.1)).map (scOf ns)).map fun g => .lst (g.map .str))), none, none, some (.lst [a, b, .int (ns.map (·.1)).length, c]), x8, x9, some (.lst (S.map .str)), some (.lst [.ref (s1 ++ (t3 ++ t5)).length, .ref (s1 ++ (t3 ++ t5 ++ [O.lst ((cloS ns S).map W.str)])).length]), x12, x13]) (hg8 t17) (hd8 t17) ho hw hm rfl rfl rfl
    refine ⟨s1, t17 ++ t18, ?_, mv⟩
    rw [← List.append_assoc]
    rw [sseq_eq, sset_eq, mfn_eq, mcons_eq, mvar_s, mvar_s, mvar_0, R.bind_ok, mnil_eq, R.bind_ok, R.bind_ok, e1, R.of_some, R.toS_ok, RS.then_nx]
    simp only [List.set_cons_zero, List.set_cons_succ]
    rw [sseq_eq, sset_eq, e2, R.toS_ok, RS.then_nx]
    simp only [List.set_cons_zero, List.set_cons_succ]
    rw [sseq_eq, sset_eq, e3, R.toS_ok, RS.then_nx]
    simp only [List.set_cons_zero, List.set_cons_succ]
    rw [sseq_eq, show mFail = sseq (sret (mc (.bl false))) snil from rfl, not_told c4, snil_eq, RS.then_nx]
    rw [sseq_eq, not_told c6, snil_eq, RS.then_nx]
    rw [sseq_eq, e7, RS.then_nx]
    rw [sseq_eq, sset_eq, mcall_eq, mcons_eq, mvar_0, R.bind_ok, mcons_eq, mvar_s, mvar_s, mvar_0, R.bind_ok, mnil_eq, R.bind_ok, R.bind_ok, R.bind_ok, e8, R.toS_ok, RS.then_nx]
    simp only [List.set_cons_zero, List.set_cons_succ]
    rw [sseq_eq, sset_eq, e11, R.toS_ok, RS.then_nx]
    simp only [List.set_cons_zero, List.set_cons_succ]
    rw [sseq_eq, not_told c14, snil_eq, RS.then_nx]
    rw [sseq_eq, e15, RS.then_nx]
    rw [sseq_eq, e17, RS.then_nx]
    rw [sseq_eq, sret_eq, e18, R.toS_ok, RS.then_rt]
  obtain ⟨s1, t, e, mv⟩ := core
  refine ⟨s1, ?_, mv⟩
  show posA 3 (runT 0 14 m_law_state_right) [.ref p, .ref G, .ref N] [] s = _
  rw [posA_at (show [W.ref p, W.ref G, W.ref N].length = 3 from rfl)]
  exact runT_rt (s' := s1 ++ t) (w := .bl true) e (trim_low mv.chg rfl)
end K21

namespace K21
open PySem PySem.Spec PyProof.Rows L2 Va
local macro_rules
  | `(tactic| simp! [$ls,*]) => `(tactic| simp -implicitDefEqProofs only [sseq_eq, snil_eq, sret_eq, sexpr_eq, sset_eq, sasg_eq, sif_eq, mvar_s, mvar_0, mc_eq, mbin_eq, mun_eq, mnil_eq, mcons_eq, mfn_eq, mtb_eq, mnot_eq, mtru_eq, mbm_eq, mmeth_eq, mfld_eq, mcall_eq, gname_eq, gsub_eq, R.bind_ok, R.toS_ok, R.of_some, R.cl_ok, RS.then_nx, RS.then_rt, gtru_bl, List.set_cons_zero, List.set_cons_succ, if_true, Bool.false_eq_true, if_false, Bool.not_true, Bool.not_false, decide_true, decide_false, reduceIte, $ls,*])
/-! ### nets that grow -/
theorem scOf_app {ns : Net} {x y : Str} {l : List Str} : scOf (ns ++ [(x, l)]) y = if y ∈ ns.map (·.1) then scOf ns y else if x = y then l else [] := by
  unfold scOf
  rw [List.find?_append]
  by_cases h : y ∈ ns.map (·.1)
  · rw [if_pos h]
    cases e : ns.find? fun q => decide (q.1 = y) with
    | none =>
      obtain ⟨q, hq, hqx⟩ := List.mem_map.mp h
      have := List.find?_eq_none.mp e q hq
      simp [hqx] at this
    | some q => rfl
  · rw [if_neg h]
    have e : ns.find? (fun q => decide (q.1 = y)) = none := List.find?_eq_none.mpr fun q hq => by
      have : q.1 ≠ y := fun e => h (e ▸ List.mem_map_of_mem hq)
      simpa using this
    rw [e, Option.none_or, List.find?_cons]
    by_cases hx : x = y
    · simp [hx]
    · simp [hx]
theorem scOf_upd {ns : Net} {x y : Str} {l : List Str} (hx : x ∈ ns.map (·.1)) : scOf (updN ns x l) y = if y = x then l else scOf ns y := by
  unfold scOf updN
  induction ns with
  | nil => cases hx
  | cons q ns ih =>
    rw [List.map_cons, List.find?_cons, List.find?_cons]
    by_cases hq : q.1 = y
    · by_cases hqx : q.1 = x
      · rw [if_pos hqx]
        have : y = x := hq.symm.trans hqx
        subst this
        simp [hq]
      · have hyx : ¬ y = x := fun e => hqx (hq.trans e)
        rw [if_neg hqx, if_neg hyx]
        simp [hq]
    · by_cases hqx : q.1 = x
      · rw [if_pos hqx]
        have hyx : ¬ y = x := fun e => hq (hqx.trans e.symm)
        rw [if_neg hyx]
        have e1 : decide ((q.1, l).1 = y) = false := by simpa using hq
        rw [e1]
        by_cases hx' : x ∈ ns.map (·.1)
        · have := ih hx'
          rw [if_neg hyx] at this
          exact this
        · have hid : (ns.map fun q => if q.1 = x then (q.1, l) else q) = ns := by
            refine (List.map_congr_left fun p hp => ?_).trans (List.map_id ns)
            have : p.1 ≠ x := fun e => hx' (e ▸ List.mem_map_of_mem hp)
            rw [if_neg this]; rfl
          rw [hid]
      · rw [if_neg hqx]
        have e2 : decide (q.1 = y) = false := by simpa using hq
        rw [e2]
        rw [List.map_cons] at hx
        exact ih ((List.mem_cons.mp hx).resolve_left (Ne.symm hqx))
theorem ordd_nd {ns : Net} (nd : (ns.map (·.1)).Nodup) (xs : List Str) : (ordd ns xs).Nodup := nd.filter _
theorem ordd_len {ns : Net} (xs : List Str) : (ordd ns xs).length ≤ ns.length := by
  unfold ordd
  exact Nat.le_trans (List.length_filter_le _ _) (by simp)
theorem ordd_congr {ns ns' : Net} (hn : ns.map (·.1) = ns'.map (·.1)) {xs ys : List Str} (h : ∀ y ∈ ns.map (·.1), y ∈ xs ↔ y ∈ ys) : ordd ns xs = ordd ns' ys := by
  unfold ordd
  rw [← hn]
  exact List.filter_congr fun y hy => decide_eq_decide.mpr (h y hy)
theorem ordd_app {ns : Net} {x : Str} {l xs : List Str} (h : x ∉ xs) : ordd (ns ++ [(x, l)]) xs = ordd ns xs := by
  unfold ordd
  rw [List.map_append, List.filter_append]
  have : (List.map (·.1) [(x, l)]).filter (fun y => decide (y ∈ xs)) = [] := by simp [h]
  rw [this, List.append_nil]
theorem ok_add {ns : Net} {x : Str} {S : List Str} (ho : NetOk ns) (hx : IsWord x) (hn : x ∉ ns.map (·.1)) (h40 : ns.length < 40) : NetOk (ns ++ [(x, ordd ns S)]) := by
  have hmem : ∀ q ∈ ns ++ [(x, ordd ns S)], q ∈ ns ∨ q = (x, ordd ns S) := fun q hq => by simpa using hq
  refine ⟨?_, by simp; omega, fun y hy => ?_, fun q hq y hy => ?_, fun q hq => ?_, fun q hq => ?_⟩
  · rw [List.map_append, List.nodup_append]
    refine ⟨ho.nd, by simp, fun a ha b hb => ?_⟩
    have : b = x := by simpa using hb
    rw [this]
    exact fun z => hn (z ▸ ha)
  · rw [List.map_append, List.mem_append] at hy
    rcases hy with hy | hy
    · exact ho.hw y hy
    · have : y = x := by simpa using hy
      rw [this]; exact hx
  · rw [List.map_append, List.mem_append]
    rcases hmem q hq with hq | rfl
    · exact .inl (ho.hs q hq y hy)
    · exact .inl (mem_ordd.mp hy).1
  · rcases hmem q hq with hq | rfl
    · exact ho.hc q hq
    · have := ordd_len (ns := ns) S
      show (ordd ns S).length ≤ 400
      omega
  · rcases hmem q hq with hq | rfl
    · exact ho.nd2 q hq
    · exact ordd_nd ho.nd S
theorem w_add {ms : Net} {x : Str} {S : List Str} (ho : NetW ms) (hx : IsWord x) (hn : x ∉ ms.map (·.1)) (hS : ∀ y ∈ S, y ∈ ms.map (·.1)) (hl : S.length ≤ 400) (h40 : ms.length < 40) : NetW (ms ++ [(x, S)]) := by
  have hmem : ∀ q ∈ ms ++ [(x, S)], q ∈ ms ∨ q = (x, S) := fun q hq => by simpa using hq
  refine ⟨?_, by simp; omega, fun y hy => ?_, fun q hq y hy => ?_, fun q hq => ?_⟩
  · rw [List.map_append, List.nodup_append]
    refine ⟨ho.nd, by simp, fun a ha b hb => ?_⟩
    have : b = x := by simpa using hb
    rw [this]
    exact fun z => hn (z ▸ ha)
  · rw [List.map_append, List.mem_append] at hy
    rcases hy with hy | hy
    · exact ho.hw y hy
    · have : y = x := by simpa using hy
      rw [this]; exact hx
  · rw [List.map_append, List.mem_append]
    rcases hmem q hq with hq | rfl
    · exact .inl (ho.hs q hq y hy)
    · exact .inl (hS y hy)
  · rcases hmem q hq with hq | rfl
    · exact ho.hc q hq
    · exact hl
theorem mt_add {ns ms : Net} {x : Str} {S : List Str} (h : Mt ns ms) (hw : NetW ms) (hn : x ∉ ns.map (·.1)) (hS : ∀ y ∈ S, y ∈ ns.map (·.1)) : Mt (ns ++ [(x, ordd ns S)]) (ms ++ [(x, S)]) := by
  refine ⟨by rw [List.map_append, List.map_append, h.nm]; rfl, fun y hy => ?_⟩
  rw [scOf_app, scOf_app, ← h.nm]
  by_cases h1 : y ∈ ns.map (·.1)
  · rw [if_pos h1, if_pos h1, h.sc y h1, ordd_app]
    exact fun q => hn (by rw [h.nm]; exact (hw.sc (by rw [← h.nm]; exact h1)).1 x q)
  · have hxy : x = y := by
      rw [List.map_append, List.mem_append] at hy
      have := hy.resolve_left h1
      have h2 : y = x := by simpa using this
      exact h2.symm
    rw [if_neg h1, if_neg h1, if_pos hxy, if_pos hxy, ordd_app fun q => hn (hS x q)]
theorem ok_upd {ns : Net} {x : Str} {l : List Str} (ho : NetOk ns) : NetOk (updN ns x (ordd ns l)) := by
  have hmem : ∀ q ∈ updN ns x (ordd ns l), q ∈ ns ∨ q.2 = ordd ns l := fun q hq => by
    unfold updN at hq
    obtain ⟨p, hp, e⟩ := List.mem_map.mp hq
    by_cases hpx : p.1 = x
    · rw [if_pos hpx] at e; exact .inr (by rw [← e])
    · rw [if_neg hpx] at e; exact .inl (e ▸ hp)
  have hl := ordd_len (ns := ns) l
  have hn := ho.hn
  refine ⟨by rw [updN_names]; exact ho.nd, by unfold updN; rw [List.length_map]; exact ho.hn, by rw [updN_names]; exact ho.hw, fun q hq y hy => ?_, fun q hq => ?_, fun q hq => ?_⟩
  · rw [updN_names]
    rcases hmem q hq with hq | e
    · exact ho.hs q hq y hy
    · rw [e] at hy; exact (mem_ordd.mp hy).1
  · rcases hmem q hq with hq | e
    · exact ho.hc q hq
    · rw [e]; omega
  · rcases hmem q hq with hq | e
    · exact ho.nd2 q hq
    · rw [e]; exact ordd_nd ho.nd _
theorem w_upd {ms : Net} {x : Str} {l : List Str} (ho : NetW ms) (hl : l.length ≤ 400) (hs : ∀ y ∈ l, y ∈ ms.map (·.1)) : NetW (updN ms x l) := by
  have hmem : ∀ q ∈ updN ms x l, q ∈ ms ∨ q.2 = l := fun q hq => by
    unfold updN at hq
    obtain ⟨p, hp, e⟩ := List.mem_map.mp hq
    by_cases hpx : p.1 = x
    · rw [if_pos hpx] at e; exact .inr (by rw [← e])
    · rw [if_neg hpx] at e; exact .inl (e ▸ hp)
  refine ⟨by rw [updN_names]; exact ho.nd, by unfold updN; rw [List.length_map]; exact ho.hn, by rw [updN_names]; exact ho.hw, fun q hq y hy => ?_, fun q hq => ?_⟩
  · rw [updN_names]
    rcases hmem q hq with hq | e
    · exact ho.hs q hq y hy
    · rw [e] at hy; exact hs y hy
  · rcases hmem q hq with hq | e
    · exact ho.hc q hq
    · rw [e]; exact hl
theorem mt_upd {ns ms : Net} {x : Str} {S : List Str} (h : Mt ns ms) (hw : NetW ms) (hx : x ∈ ns.map (·.1)) : Mt (updN ns x (ordd ns (scOf ns x ++ S))) (updN ms x (scOf ms x ++ S)) := by
  refine ⟨by rw [updN_names, updN_names, h.nm], fun y hy => ?_⟩
  rw [updN_names] at hy
  rw [scOf_upd hx, scOf_upd (by rw [← h.nm]; exact hx)]
  by_cases e : y = x
  · rw [if_pos e, if_pos e]
    refine ordd_congr (updN_names _ _ _).symm fun z _ => ?_
    rw [List.mem_append, List.mem_append, h.iff hw]
  · rw [if_neg e, if_neg e, h.sc y hy]
    exact ordd_congr (updN_names _ _ _).symm fun _ _ => Iff.rfl
theorem upd_c {ms : Net} {x : Str} {l : List Str} {k : Nat} (h : ∀ q ∈ ms, q.2.length ≤ k) (hl : l.length ≤ k) : ∀ q ∈ updN ms x l, q.2.length ≤ k := fun q hq => by
  unfold updN at hq
  obtain ⟨p, hp, e⟩ := List.mem_map.mp hq
  by_cases hpx : p.1 = x
  · rw [if_pos hpx] at e; rw [← e]; exact hl
  · rw [if_neg hpx] at e; exact e ▸ h p hp
/-! ### one turn -/
structure TI (p G D N : Nat) (nms : List Str) (j : Nat) (ns ms : Net) (s : Sto) : Prop where
  pot : PotAt p s
  gu : GU G D ns s
  un : s[N]? = some (.dic (gKs ms))
  pG : G ≠ p
  pD : D ≠ p
  pN : N ≠ p
  ND : N ≠ D
  NG : N ≠ G
  ok : NetOk ns
  w : NetW ms
  m : Mt ns ms
  pre : ns.map (·.1) = nms.take ns.length
  ln : ns.length ≤ nms.length
  cj : ∀ q ∈ ms, q.2.length ≤ 3 * j
theorem low_ks (n : Nat) (ns : Net) : (O.dic (gKs ns)).low n = true := by
  show W.lows n ((gKs ns).map (·.2)) = true
  unfold gKs
  rw [List.map_map]
  induction ns with
  | nil => rfl
  | cons q ns ih => rw [List.map_cons, W.lows, ih]; exact congrArg (· && true) (lows_t n q.2)
theorem Chg.trans {s s1 s2 : Sto} (h : Chg s s1) (h2 : Chg s1 s2) : Chg s s2 := by
  refine ⟨h2.1.trans h.1, fun i o e => ?_⟩
  rcases h2.2 i o e with q | q
  · exact h.2 i o q
  · rw [h.1] at q; exact .inr q
/-- only what stands at p, D, N was changed -/
structure Q3 (p D N : Nat) (s s' : Sto) : Prop where
  len : s'.length = s.length
  same : ∀ i, i ≠ p → i ≠ D → i ≠ N → s'[i]? = s[i]?
theorem Q3.rfl {p D N : Nat} {s : Sto} : Q3 p D N s s := ⟨Eq.refl _, fun _ _ _ _ => Eq.refl _⟩
theorem Q3.trans {p D N : Nat} {s s1 s2 : Sto} (h : Q3 p D N s s1) (h2 : Q3 p D N s1 s2) : Q3 p D N s s2 :=
  ⟨h2.len.trans h.len, fun i a b c => (h2.same i a b c).trans (h.same i a b c)⟩
theorem Q3.mv {p D N : Nat} {s s' : Sto} (h : Mv p s s') : Q3 p D N s s' := by
  obtain ⟨a, b, q, rfl⟩ := h
  exact ⟨by simp, fun i hi _ _ => List.getElem?_set_ne (Ne.symm hi)⟩
theorem Q3.set2 {p D N : Nat} {s : Sto} {o u : O} : Q3 p D N s ((s.set D o).set N u) :=
  ⟨by simp, fun i _ hD hN => by rw [List.getElem?_set_ne (Ne.symm hN), List.getElem?_set_ne (Ne.symm hD)]⟩
theorem TI.mv {p G D N : Nat} {nms : List Str} {j : Nat} {ns ms : Net} {s s' : Sto} (h : TI p G D N nms j ns ms s) (mv : Mv p s s') : TI p G D N nms j ns ms s' :=
  ⟨mv.pot h.pot, ⟨Mv.gat mv h.pG h.pD h.gu.g, mv.at h.gu.u h.pD⟩, mv.at h.un h.pN, h.pG, h.pD, h.pN, h.ND, h.NG, h.ok, h.w, h.m, h.pre, h.ln, h.cj⟩
theorem TI.nd {p G D N : Nat} {nms : List Str} {j : Nat} {ns ms : Net} {s : Sto} (h : TI p G D N nms j ns ms s) : dicAt s (.ref N) = some (gKs ms) := dicAt_r h.un
theorem TI.len {p G D N : Nat} {nms : List Str} {j : Nat} {ns ms : Net} {s : Sto} (h : TI p G D N nms j ns ms s) : ms.length = ns.length := by
  have := congrArg List.length h.m.nm
  simpa using this.symm
theorem TI.set {p G D N : Nat} {nms : List Str} {j : Nat} {ns ms ns' ms' : Net} {s : Sto} (h : TI p G D N nms j ns ms s) (ok : NetOk ns') (w : NetW ms') (m : Mt ns' ms') (pre : ns'.map (·.1) = nms.take ns'.length) (ln : ns'.length ≤ nms.length) (cj : ∀ q ∈ ms', q.2.length ≤ 3 * (j + 1)) :
    TI p G D N nms (j + 1) ns' ms' ((s.set D (.dic (gKs ns'))).set N (.dic (gKs ms'))) ∧ Chg s ((s.set D (.dic (gKs ns'))).set N (.dic (gKs ms'))) ∧ Q3 p D N s ((s.set D (.dic (gKs ns'))).set N (.dic (gKs ms'))) := by
  have hgu : GU G D ns' (s.set D (.dic (gKs ns'))) := h.gu.set
  obtain ⟨a, b, hp, hab⟩ := h.pot
  refine ⟨⟨⟨a, b, at_ne _ (at_ne _ hp h.pD) h.pN, hab⟩, ⟨⟨at_ne _ hgu.g.g h.NG, dicAt_r (at_ne _ hgu.u h.ND), h.gu.g.ne⟩, at_ne _ hgu.u h.ND⟩, at_set _ (at_ne _ h.un (Ne.symm h.ND)), h.pG, h.pD, h.pN, h.ND, h.NG, ok, w, m, pre, ln, cj⟩, ?_⟩
  exact ⟨Chg.trans (Chg.set (low_ks _ _)) (Chg.set (low_ks _ _)), Q3.set2⟩
theorem gLen_dk {s : Sto} {N : Nat} {ms : Net} (h : s[N]? = some (.dic (gKs ms))) : gLen [.ref N] s = some (.int ms.length, s) := by
  have hs : seqAt s (.ref N) = none := by
    unfold seqAt lstAt; simp only [h]; rfl
  unfold gLen
  simp only [hs, dicAt_r h]
  show some _ = _
  unfold gKs
  rw [List.length_map]
def mTC : MT := (mor (mtb (mbin gEq (mvar 2) (mdnew false))) (mand (mtb (mbin gEq (mcall r_law_digit (mcons (mvar 0) (mcons (mc (.int 2)) mnil))) (mc (.int 0)))) (mtb (mbin gLt (mfn gLen (mcons (mvar 2) mnil)) (mfn gLen (mcons (mvar 3) mnil))))))
theorem tc_ok {s : Sto} {p G D N : Nat} {nms : List Str} {j : Nat} {ns ms : Net} {x4 x5 x6 x7 : Option W} (h : TI p G D N nms j ns ms s) (h0 : 0 < nms.length) :
    ∃ b s', mTC [some (.ref p), some (.ref G), some (.ref N), some (.lst (nms.map .str)), x4, x5, x6, x7] s = .ok b s' ∧ Mv p s s' ∧ (b = true → ms.length < nms.length) ∧ (b = false → ms ≠ []) := by
  have e1 := gEq_e h.nd
  by_cases hm : ms = []
  · have e2 : ms.isEmpty = true := by rw [hm]; rfl
    rw [e2] at e1
    refine ⟨true, s, ?_, Mv.refl h.pot, fun _ => by rw [hm]; exact h0, fun e => by cases e⟩
    unfold mTC
    simp! [mor_eq, mdnew_f, e1]
  · have e2 : ms.isEmpty = false := by
      cases ms with
      | nil => exact absurd rfl hm
      | cons q ms => rfl
    rw [e2] at e1
    obtain ⟨d, s1, a1, d0, d1, mv1⟩ := digit_ok (n := 2) h.pot (by decide) (by decide)
    have h1 := h.mv mv1
    have a2 := gLen_dk h1.un
    have a3 := gLen_fl (s := s1) (xs := nms)
    refine ⟨decide (d = 0) && decide (ms.length < nms.length), s1, ?_, mv1, fun e => ?_, fun _ => hm⟩
    · unfold mTC
      have a4 := gEq_int d 0 s1
      have a5 : gLt (.int ms.length) (.int nms.length) s1 = some (.bl (decide (ms.length < nms.length)), s1) := by
        show some (W.bl (decide ((ms.length : Int) < nms.length)), s1) = _
        rw [show decide ((ms.length : Int) < nms.length) = decide (ms.length < nms.length) from decide_eq_decide.mpr (by omega)]
      cases hd : decide (d = 0) with
      | false =>
        rw [hd] at a4
        simp! [mor_eq, mand_eq, mdnew_f, e1, digit_eq, a1, a4, Bool.false_and]
      | true =>
        rw [hd] at a4
        simp! [mor_eq, mand_eq, mdnew_f, e1, digit_eq, a1, a4, a2, a3, a5, Bool.true_and]
    · rw [Bool.and_eq_true, decide_eq_true_iff, decide_eq_true_iff] at e
      exact e.2
noncomputable def mThen : MS := (sseq (sset 5 (mbin gIx (mvar 3) (mfn gLen (mcons (mvar 2) mnil))))
    (sseq (sset 6 (mcall r_law_added (mcons (mvar 1) (mcons (mvar 5) (mcons (mvar 4) mnil)))))
    (sseq (sasg (mfn (gListA false) (mcons (mvar 4) mnil)) (gsub (mvar 2) (mvar 5) gSetI))
    snil)))
noncomputable def mElse : MS := (sseq (sset 5 (mcall r_law_pick (mcons (mvar 0) (mcons (mfn (gListA false) (mcons (mvar 2) mnil)) mnil))))
    (sseq (sset 6 (mcall r_law_depended (mcons (mvar 1) (mcons (mvar 5) (mcons (mvar 4) mnil)))))
    (sseq (sasg (mbin (gAdd false) (mbin gIx (mvar 2) (mvar 5)) (mlc false (miany (mvar 4)) (.nm 7) (mtb (mbin gNe (mvar 7) (mvar 5))) (mvar 7) [7])) (gsub (mvar 2) (mvar 5) gSetI))
    snil)))
theorem then_ok {s : Sto} {p G D N : Nat} {nms : List Str} {j : Nat} {ns ms : Net} {S : List Str} {x5 x6 x7 : Option W} (h : TI p G D N nms j ns ms s) (hl : ms.length < nms.length) (hnd : nms.Nodup) (hwd : ∀ x ∈ nms, IsWord x) (h9 : nms.length ≤ 10) (hS : ∀ x ∈ S, x ∈ ms.map (·.1)) (h3 : S.length ≤ 3) :
    ∃ x ns' ms' s', mThen [some (.ref p), some (.ref G), some (.ref N), some (.lst (nms.map .str)), some (.lst (S.map .str)), x5, x6, x7] s = .nx [some (.ref p), some (.ref G), some (.ref N), some (.lst (nms.map .str)), some (.lst (S.map .str)), some (.str x), some .non, x7] s' ∧ TI p G D N nms (j + 1) ns' ms' s' ∧ Chg s s' ∧ Q3 p D N s s' := by
  have hlen := h.len
  obtain ⟨x, hx⟩ : ∃ x, nms[ms.length]? = some x := ⟨_, List.getElem?_eq_getElem hl⟩
  have hxw : IsWord x := hwd x (List.mem_of_getElem? hx)
  have hxn : x ∉ ns.map (·.1) := by
    rw [h.pre, ← hlen]
    intro hm
    obtain ⟨i, hi, e⟩ := List.mem_take_iff_getElem.mp hm
    have e1 : nms[i]? = some x := by rw [List.getElem?_eq_getElem (by omega), e]
    have := (List.getElem?_inj (by omega) hnd).mp (e1.trans hx.symm)
    omega
  have hS' : ∀ y ∈ S, y ∈ ns.map (·.1) := by rw [h.m.nm]; exact hS
  have e1 := gLen_dk h.un
  have e2 : gIx (.lst (nms.map .str)) (.int ms.length) s = some (.str x, s) := gIx_f (Va.atI_nat (by rw [List.getElem?_map, hx]; rfl))
  have e3 := added_ok h.gu h.ok hxw hxn hS' h3 (by omega)
  have hxm : x ∉ ms.map (·.1) := by rw [← h.m.nm]; exact hxn
  obtain ⟨q1, q2⟩ := h.set (ns' := ns ++ [(x, ordd ns S)]) (ms' := ms ++ [(x, S)]) (ok_add h.ok hxw hxn (by omega)) (w_add h.w hxw hxm hS (by omega) (by omega)) (mt_add h.m h.w hxn hS')
    (by rw [List.map_append, h.pre, List.length_append, List.length_singleton, List.take_add_one, ← hlen, hx]; rfl) (by rw [List.length_append, List.length_singleton]; omega)
    (fun q hq => by
      rcases List.mem_append.mp hq with hq | hq
      · have := h.cj q hq; omega
      · have : q = (x, S) := by simpa using hq
        rw [this]; show S.length ≤ _; omega)
  have e4 : gListA false [.lst (S.map .str)] (s.set D (.dic (gKs (ns ++ [(x, ordd ns S)])))) = some (.lst (S.map .str), s.set D (.dic (gKs (ns ++ [(x, ordd ns S)])))) := rfl
  have e5 : gSetI (.ref N) (.str x) (.lst (S.map .str)) (s.set D (.dic (gKs (ns ++ [(x, ordd ns S)])))) = some ((s.set D (.dic (gKs (ns ++ [(x, ordd ns S)])))).set N (.dic (gKs (ms ++ [(x, S)])))) := by
    rw [gSetI_d (at_ne _ h.un (Ne.symm h.ND)) (by unfold gKs; rw [List.length_map]; omega), put_new hxm]
  refine ⟨x, _, _, _, ?_, q1, q2⟩
  unfold mThen
  simp! [e1, e2, e3, e4, e5]
theorem else_ok {s : Sto} {p G D N : Nat} {nms : List Str} {j : Nat} {ns ms : Net} {S : List Str} {x5 x6 : Option W} (h : TI p G D N nms j ns ms s) (hne : ms ≠ []) (hj : j ≤ 100) (hS : ∀ x ∈ S, x ∈ ms.map (·.1)) (h3 : S.length ≤ 3) :
    ∃ x ns' ms' s', mElse [some (.ref p), some (.ref G), some (.ref N), some (.lst (nms.map .str)), some (.lst (S.map .str)), x5, x6, none] s = .nx [some (.ref p), some (.ref G), some (.ref N), some (.lst (nms.map .str)), some (.lst (S.map .str)), some (.str x), some .non, none] s' ∧ TI p G D N nms (j + 1) ns' ms' s' ∧ Chg s s' ∧ Q3 p D N s s' := by
  have hl0 : 0 < ms.length := List.length_pos_iff.mpr hne
  obtain ⟨x, s1, e1, hx, mv⟩ := pickN_ok h.pot h.nd h.w.hn hl0
  have h1 := h.mv mv
  have e0 := gListA_d h.nd
  have hxn : x ∈ ns.map (·.1) := by rw [h.m.nm]; exact hx
  have hS' : ∀ y ∈ S, y ∈ ns.map (·.1) := by rw [h.m.nm]; exact hS
  have e3 := depended_ok h1.gu h.ok hxn hS' h3
  obtain ⟨q, hq, eq⟩ := scOf_mem hx
  have hc := h.cj q hq
  rw [eq] at hc
  have hf : (S.filter fun y => !decide (y = x)).length ≤ S.length := List.length_filter_le _ _
  obtain ⟨q1, q2⟩ := h1.set (ns' := updN ns x (ordd ns (scOf ns x ++ S.filter fun y => !decide (y = x)))) (ms' := updN ms x (scOf ms x ++ S.filter fun y => !decide (y = x))) (ok_upd h.ok)
    (w_upd h.w (by rw [List.length_append]; omega) fun y hy => by
      rcases List.mem_append.mp hy with hy | hy
      · exact (h.w.sc hx).1 y hy
      · exact hS y (List.mem_filter.mp hy).1) (mt_upd h.m h.w hxn)
    (by rw [updN_names, h.pre]; unfold updN; rw [List.length_map]) (by unfold updN; rw [List.length_map]; exact h.ln)
    (upd_c (fun q hq => by have := h.cj q hq; omega) (by rw [List.length_append]; omega))
  generalize hns : updN ns x (ordd ns (scOf ns x ++ S.filter fun y => !decide (y = x))) = ns' at e3 q1 q2
  have un2 : (s1.set D (.dic (gKs ns')))[N]? = some (.dic (gKs ms)) := at_ne _ h1.un (Ne.symm h.ND)
  have e4 := gIx_d (dicAt_r un2) hx
  have e5 : (mlc false (miany (mvar 4)) (.nm 7) (mtb (mbin gNe (mvar 7) (mvar 5))) (mvar 7) [7]) [some (.ref p), some (.ref G), some (.ref N), some (.lst (nms.map .str)), some (.lst (S.map .str)), some (.str x), some .non, none] (s1.set D (.dic (gKs ns'))) = .ok (.lst ((S.filter fun y => !decide (y = x)).map .str)) (s1.set D (.dic (gKs ns'))) := by
    rw [mlc_pure (noF x) (miany_f (m := mvar 4) rfl) rfl (by rw [List.length_map]; omega) (fun w hw => ?_), no_map]
    obtain ⟨y, _, rfl⟩ := List.mem_map.mp hw
    refine ⟨[some (.ref p), some (.ref G), some (.ref N), some (.lst (nms.map .str)), some (.lst (S.map .str)), some (.str x), some .non, some (.str y)], rfl, ?_⟩
    have e0 : noF x (.str y) = if (!decide (y = x)) = true then some (W.str y) else none := rfl
    have ec := gNe_str y x (s1.set D (.dic (gKs ns')))
    rw [e0]
    cases hd : (!decide (y = x)) with
    | false => exact .inl ⟨rfl, by rw [hd] at ec; simp! [ec]⟩
    | true => exact .inr ⟨.str y, rfl, by rw [hd] at ec; simp! [ec], rfl⟩
  have e6 : gAdd false (.lst ((scOf ms x).map .str)) (.lst ((S.filter fun y => !decide (y = x)).map .str)) (s1.set D (.dic (gKs ns'))) = some (.lst ((scOf ms x ++ S.filter fun y => !decide (y = x)).map .str), s1.set D (.dic (gKs ns'))) := by
    rw [gAdd_ff (by rw [List.length_map, List.length_map]; omega), ← List.map_append]; rfl
  have hm40 := h.w.hn
  have e7 : gSetI (.ref N) (.str x) (.lst ((scOf ms x ++ S.filter fun y => !decide (y = x)).map .str)) (s1.set D (.dic (gKs ns'))) = some ((s1.set D (.dic (gKs ns'))).set N (.dic (gKs (updN ms x (scOf ms x ++ S.filter fun y => !decide (y = x)))))) := by
    rw [gSetI_d un2 (by unfold gKs; rw [List.length_map]; omega), put_old hx]
  refine ⟨x, _, _, _, ?_, q1, Chg.trans mv.chg q2.1, (Q3.mv mv).trans q2.2⟩
  unfold mElse
  simp! [e0, e1, e3, e4, e5, e6, e7]
theorem turn_shape : m_law_turn_right = sseq (sset 4 (mcall r_law_drawn (mcons (mvar 0) (mcons (mvar 2) mnil)))) (sseq (sif mTC mThen mElse) (sseq (sret (mandV (mbin gIs (mvar 6) (mc .non)) (mcall r_law_state_right (mcons (mvar 0) (mcons (mvar 1) (mcons (mvar 2) mnil)))))) snil)) := rfl
theorem turnR_ok {s : Sto} {p G D N : Nat} {nms : List Str} {j : Nat} {ns ms : Net} (h : TI p G D N nms j ns ms s) (h0 : 0 < nms.length) (hnd : nms.Nodup) (hwd : ∀ x ∈ nms, IsWord x) (h9 : nms.length ≤ 10) (hj : j ≤ 100) :
    ∃ ns' ms' s', r_law_turn_right [.ref p, .ref G, .ref N, .lst (nms.map .str)] [] s = .ok (.bl true) s' ∧ TI p G D N nms (j + 1) ns' ms' s' ∧ Chg s s' ∧ Q3 p D N s s' := by
  obtain ⟨S, s1, e1, hS, h3, mv1⟩ := drawn_ok h.pot h.nd h.pN h.w.hn
  have t1 := h.mv mv1
  obtain ⟨b, s2, e2, mv2, c1, c2⟩ := tc_ok (x4 := some (.lst (S.map .str))) (x5 := none) (x6 := none) (x7 := none) t1 h0
  have t2 := t1.mv mv2
  have core : ∃ x ns' ms' s3, (sif mTC mThen mElse) [some (.ref p), some (.ref G), some (.ref N), some (.lst (nms.map .str)), some (.lst (S.map .str)), none, none, none] s1 = .nx [some (.ref p), some (.ref G), some (.ref N), some (.lst (nms.map .str)), some (.lst (S.map .str)), some (.str x), some .non, none] s3 ∧ TI p G D N nms (j + 1) ns' ms' s3 ∧ Chg s2 s3 ∧ Q3 p D N s2 s3 := by
    cases b with
    | true =>
      obtain ⟨x, ns', ms', s3, e3, q1, q2⟩ := then_ok (x5 := none) (x6 := none) (x7 := none) t2 (c1 rfl) hnd hwd h9 hS h3
      refine ⟨x, ns', ms', s3, ?_, q1, q2⟩
      rw [sif_eq, e2, R.toS_ok, if_pos rfl, e3]
    | false =>
      obtain ⟨x, ns', ms', s3, e3, q1, q2⟩ := else_ok (x5 := none) (x6 := none) t2 (c2 rfl) hj hS h3
      refine ⟨x, ns', ms', s3, ?_, q1, q2⟩
      rw [sif_eq, e2, R.toS_ok, if_neg (by simp), e3]
  obtain ⟨x, ns', ms', s3, e3, q1, q2⟩ := core
  obtain ⟨s4, e4, mv4⟩ := state_ok q1.pot q1.gu.g q1.nd q1.pG q1.pD q1.pN q1.ok q1.w q1.m
  have ec : Chg s s4 := Chg.trans mv1.chg (Chg.trans mv2.chg (Chg.trans q2.1 mv4.chg))
  refine ⟨ns', ms', s4, ?_, q1.mv mv4, ec, (Q3.mv mv1).trans ((Q3.mv mv2).trans (q2.2.trans (Q3.mv mv4)))⟩
  show posA 4 (runT 0 8 m_law_turn_right) [.ref p, .ref G, .ref N, .lst (nms.map .str)] [] s = _
  rw [posA_at (show [W.ref p, W.ref G, W.ref N, W.lst (nms.map .str)].length = 4 from rfl)]
  refine runT_rt (s' := s4) (w := .bl true) ?_ (trim_low0 ec rfl)
  show m_law_turn_right [some (.ref p), some (.ref G), some (.ref N), some (.lst (nms.map .str)), none, none, none, none] s = _
  have e5 : gIs .non .non s3 = some (.bl true, s3) := rfl
  rw [turn_shape]
  rw [sseq_eq, sset_eq, mcall_eq, mcons_eq, mvar_0, R.bind_ok, mcons_eq, mvar_s, mvar_s, mvar_0, R.bind_ok, mnil_eq, R.bind_ok, R.bind_ok, R.bind_ok, e1, R.toS_ok, RS.then_nx]
  simp only [List.set_cons_zero, List.set_cons_succ]
  rw [sseq_eq, e3, RS.then_nx]
  simp! [mandV_eq, e5, e4]
end K21

namespace K21
open PySem PySem.Spec PyProof.Rows L2 Va
local macro_rules
  | `(tactic| simp! [$ls,*]) => `(tactic| simp -implicitDefEqProofs only [sseq_eq, snil_eq, sret_eq, sexpr_eq, sset_eq, sasg_eq, sif_eq, mvar_s, mvar_0, mc_eq, mbin_eq, mun_eq, mnil_eq, mcons_eq, mfn_eq, mtb_eq, mnot_eq, mtru_eq, mbm_eq, mmeth_eq, mfld_eq, mcall_eq, gname_eq, gsub_eq, R.bind_ok, R.toS_ok, R.of_some, R.cl_ok, RS.then_nx, RS.then_rt, gtru_bl, List.set_cons_zero, List.set_cons_succ, if_true, Bool.false_eq_true, if_false, Bool.not_true, Bool.not_false, decide_true, decide_false, reduceIte, $ls,*])
def gI0 : O := .ins "Graph" [("links", .ref 0)]
theorem mdnew_t (ws : Va.Loc) (s : Sto) : mdnew true ws s = .ok (.ref s.length) (s ++ [.dic []]) := by
  show R.of (newD true [] s) = _
  rw [newD_t, R.of_some]
theorem graph_ok (u : Sto) : k_Graph [] [] u = .ok (.ref u.length) (u ++ [.ins "Graph" [("links", .ref (u.length + 1))], .dic []]) := by
  have e1 : r_Graph___init__ [.ref u.length] [] (u ++ [.ins "Graph" []]) = .ok .non (u ++ [.ins "Graph" [("links", .ref (u.length + 1))], .dic []]) := by
    show posA 1 (runB 1 m_Graph___init__) [.ref u.length] [] _ = _
    rw [posA_at (show [W.ref u.length].length = 1 from rfl)]
    refine runB_nx (l := [some (.ref u.length)]) ?_
    show m_Graph___init__ [some (.ref u.length)] _ = _
    have hl : (u ++ [O.ins "Graph" []]).length = u.length + 1 := by simp
    have e2 : setFld fld_links "links" (.ref u.length) (.ref (u.length + 1)) (u ++ [.ins "Graph" []] ++ [.dic []]) = some (u ++ [.ins "Graph" [("links", .ref (u.length + 1))], .dic []]) := by
      have ha : (u ++ [O.ins "Graph" []] ++ [.dic []])[u.length]? = some (.ins "Graph" []) := at_app (at_new _ _)
      unfold setFld
      simp only [ha]
      rw [if_pos ⟨by decide +kernel, by simp⟩]
      refine congrArg some ?_
      rw [List.append_assoc, List.set_append_right _ _ (Nat.le_refl _), Nat.sub_self]
      rfl
    unfold m_Graph___init__
    have e3 : (sfld fld_links "links" (mvar 0) (mdnew true)) [some (.ref u.length)] (u ++ [.ins "Graph" []]) = .nx [some (.ref u.length)] (u ++ [.ins "Graph" [("links", .ref (u.length + 1))], .dic []]) := by
      unfold sfld
      rw [mdnew_t, R.toS_ok, mvar_0, R.toS_ok, hl, e2]
    rw [sseq_eq, e3, RS.then_nx, snil_eq]
  unfold k_Graph mkA
  rw [e1, R.bind_ok]
theorem ok_nil : NetOk [] := ⟨List.nodup_nil, by simp, fun _ h => (List.not_mem_nil h).elim, fun _ h => (List.not_mem_nil h).elim, fun _ h => (List.not_mem_nil h).elim, fun _ h => (List.not_mem_nil h).elim⟩
theorem w_nil : NetW [] := ⟨List.nodup_nil, by simp, fun _ h => (List.not_mem_nil h).elim, fun _ h => (List.not_mem_nil h).elim, fun _ h => (List.not_mem_nil h).elim⟩
theorem gAll_rep (k : Nat) (s : Sto) : gAll [.lst (List.replicate k (.bl true))] s = some (.bl true, s) := by
  have e : (List.replicate k (W.bl true)) = (List.replicate k true).map .bl := by rw [List.map_replicate]
  rw [e, gAll_b]
  have : (List.replicate k true).all id = true := by simp
  rw [this]
theorem trues {acc : List W} (h : ∀ w ∈ acc, w = .bl true) : acc = List.replicate acc.length (.bl true) := List.eq_replicate_iff.mpr ⟨rfl, h⟩
theorem right_ok {s : Sto} {p : Nat} (hp : PotAt p s) : ∃ s', r_law_right [.ref p] [] s = .ok (.bl true) s' ∧ Mv p s s' := by
  obtain ⟨d, s0, a1, d0, d1, mv0⟩ := digit_ok (n := 9) hp (by decide) (by decide)
  have hmany : (1 + d : Int) = ((1 + d.toNat : Nat) : Int) := by omega
  obtain ⟨nms, s1, a2, hlen, hnd, hnw, mv1⟩ := names_ok (us := []) (many := 1 + d.toNat) (mv0.pot hp) (by simp; omega)
  have mv01 := mv0.trans mv1
  have hp1 := mv01.pot hp
  have hlt := hp.lt
  have hl1 : s1.length = s.length := mv01.len
  obtain ⟨n, hn⟩ : ∃ n, n = s1.length := ⟨_, rfl⟩
  obtain ⟨u, hu⟩ : ∃ u, u = s1 ++ [O.dic [], .ins "Graph" [("links", .ref (n + 2))], .dic []] := ⟨_, rfl⟩
  have hg : k_Graph [] [] (s1 ++ [.dic []]) = .ok (.ref (n + 1)) u := by
    rw [graph_ok, hu, hn, List.length_append, List.append_assoc]; rfl
  have uN : u[n]? = some (.dic (gKs [])) := by rw [hu, hn]; simp; rfl
  have uG : u[n + 1]? = some (.ins "Graph" [("links", .ref (n + 2))]) := by rw [hu, hn]; simp
  have uD : u[n + 2]? = some (.dic (gKs [])) := by rw [hu, hn]; simp; rfl
  have t0 : TI p (n + 1) (n + 2) n nms 0 [] [] u := by
    refine ⟨by rw [hu]; exact hp1.app, ⟨⟨uG, dicAt_r uD, by omega⟩, uD⟩, uN, by omega, by omega, by omega, by omega, by omega, ok_nil, w_nil, ⟨rfl, fun _ h => (List.not_mem_nil h).elim⟩, by simp, by simp, fun _ h => (List.not_mem_nil h).elim⟩
  obtain ⟨u1, e1, mvs⟩ := state_ok t0.pot t0.gu.g t0.nd t0.pG t0.pD t0.pN t0.ok t0.w t0.m
  have t1 := t0.mv mvs
  obtain ⟨d2, u2, a3, d20, d21, mvd⟩ := digit_ok (n := 17) t1.pot (by decide) (by decide)
  have t2 := t1.mv mvd
  have q2 : Q3 p (n + 2) n u u2 := (Q3.mv mvs).trans (Q3.mv mvd)
  have h9 : nms.length ≤ 10 := by omega
  have h0 : 0 < nms.length := by omega
  have ami : (mirng1 (mcons (mcall r_law_digit (mcons (mvar 0) (mcons (mc (.int 17)) mnil))) mnil)) [some (.ref p), some (.lst (nms.map .str)), some (.ref n), some (.ref (n + 1)), none] u1 = .ok ⟨rngW 0 1 d2.toNat, [], none⟩ u2 := by
    have hm : (mcons (mcall r_law_digit (mcons (mvar 0) (mcons (mc (.int 17)) mnil))) mnil) [some (.ref p), some (.lst (nms.map .str)), some (.ref n), some (.ref (n + 1)), none] u1 = .ok [.int d2] u2 := by
      simp! [digit_eq, a3]
    unfold mirng1
    rw [hm, R.bind_ok]
    dsimp only
    rw [if_pos (show sml d2 from by unfold sml; omega)]
  obtain ⟨u3, acc, l1, l2⟩ := loopC_inv (gd := []) (t := .nm 4) (c := myes) (e := mcall r_law_turn_right (mcons (mvar 0) (mcons (mvar 3) (mcons (mvar 2) (mcons (mvar 1) mnil))))) (ws := wipeW [some (.ref p), some (.lst (nms.map .str)), some (.ref n), some (.ref (n + 1)), none] [4])
    (fun xs v acc => ∃ j ns ms, TI p (n + 1) (n + 2) n nms j ns ms v ∧ Q3 p (n + 2) n u v ∧ (∀ w ∈ acc, w = .bl true) ∧ acc.length = j ∧ j + xs.length ≤ 17)
    (fun x xs v acc ⟨j, ns, ms, ti, q, ha, hj, hx⟩ => by
      rw [List.length_cons] at hx
      obtain ⟨ns', ms', v', b1, b2, _, b4⟩ := turnR_ok ti h0 hnd (fun x hx => (hnw x hx).1) h9 (by omega)
      refine ⟨rfl, [some (.ref p), some (.lst (nms.map .str)), some (.ref n), some (.ref (n + 1)), some x], rfl, .inr ⟨v, .bl true, v', rfl, ?_, by omega, j + 1, ns', ms', b2, q.trans b4, fun w hw => ?_, by rw [List.length_append, List.length_singleton]; omega, by omega⟩⟩
      · simp! [b1]
      · rcases List.mem_append.mp hw with hw | hw
        · exact ha w hw
        · exact List.mem_singleton.mp hw)
    (fun _ _ _ => rfl) (rngW 0 1 d2.toNat) u2 [] ⟨0, [], [], t2, q2, fun _ h => (List.not_mem_nil h).elim, rfl, by rw [rngW_len]; omega⟩
  obtain ⟨j, ns, ms, ti, q3, ha, _, _⟩ := l2
  have alc := mlc_of (mu := false) (vs := [4]) ami l1 (newL_f _ _)
  rw [trues ha] at alc
  have eall := gAll_rep acc.length u3
  -- the store behind it
  have hlu : u.length = s.length + 3 := by rw [hu]; simp; omega
  have hl3 : u3.length = s.length + 3 := by rw [q3.len, hlu]
  obtain ⟨pa, pb, pe, pq⟩ := ti.pot
  have mvE : Mv p s (u3.take s.length) := by
    refine ⟨pa, pb, pq, List.ext_getElem? fun i => ?_⟩
    by_cases hi : i < s.length
    · rw [List.getElem?_take_of_lt hi]
      by_cases hip : i = p
      · subst hip
        rw [pe, List.getElem?_set_self hi]
      · rw [q3.same i hip (by omega) (by omega), hu, List.getElem?_append_left (by omega), List.getElem?_set_ne (Ne.symm hip)]
        obtain ⟨a, b, _, rfl⟩ := mv01
        exact List.getElem?_set_ne (Ne.symm hip)
    · rw [List.getElem?_eq_none (by simp; omega), List.getElem?_eq_none (by simp; omega)]
  have hsp : u3 = u3.take s.length ++ u3.drop s.length := (List.take_append_drop _ _).symm
  refine ⟨u3.take s.length, ?_, mvE⟩
  show posA 1 (runT 0 5 m_law_right) [.ref p] [] s = _
  rw [posA_at (show [W.ref p].length = 1 from rfl)]
  refine runT_rt (s' := u3.take s.length ++ u3.drop s.length) (w := .bl true) ?_ (trim_low mvE.chg rfl)
  rw [← hsp]
  show m_law_right [some (.ref p), none, none, none, none] s = _
  have c1 : (mcall r_law_names (mcons (mvar 0) (mcons (mbin (gAdd false) (mc (.int 1)) (mcall r_law_digit (mcons (mvar 0) (mcons (mc (.int 9)) mnil)))) (mcons (mlst false mnil) mnil)))) [some (.ref p), none, none, none, none] s = .ok (.lst (nms.map .str)) s1 := by
    have b0 : (mlst false mnil) [some (.ref p), none, none, none, none] s0 = .ok (.lst []) s0 := by
      rw [mlst_eq, mnil_eq, R.bind_ok, if_pos (show ([] : List W).length ≤ 16777216 from Nat.zero_le _), newL_f, R.of_some]
    have b1 : gAdd false (.int 1) (.int d) s0 = some (.int ((1 + d.toNat : Nat) : Int), s0) := by rw [gAdd_int, hmany]
    simp! [digit_eq, a1, b1, b0, names_eq]
    exact a2
  have c2 : (mcall k_Graph mnil) [some (.ref p), none, none, none, none] (s1 ++ [.dic []]) = .ok (.ref (n + 1)) u := by
    rw [mcall_eq, mnil_eq, R.bind_ok, hg]
  have c3 : (mtup (mcons (mcall r_law_names (mcons (mvar 0) (mcons (mbin (gAdd false) (mc (.int 1)) (mcall r_law_digit (mcons (mvar 0) (mcons (mc (.int 9)) mnil)))) (mcons (mlst false mnil) mnil)))) (mcons (mdnew true) (mcons (mcall k_Graph mnil) mnil)))) [some (.ref p), none, none, none, none] s = .ok (.tup [.lst (nms.map .str), .ref n, .ref (n + 1)]) u := by
    have h3 : [W.lst (nms.map .str), W.ref n, W.ref (n + 1)].length ≤ 16777216 := by
      show 3 ≤ 16777216
      decide
    rw [mtup_eq, mcons_eq, c1, R.bind_ok, mcons_eq, mdnew_t, R.bind_ok, mcons_eq, c2, R.bind_ok, mnil_eq, R.bind_ok, R.bind_ok, R.bind_ok, R.bind_ok, ← hn, if_pos h3]
  have c4 : (gtup 3 (gcons (gname 1) (gcons (gname 2) (gcons (gname 3) gnil)))) (.tup [.lst (nms.map .str), .ref n, .ref (n + 1)]) [some (.ref p), none, none, none, none] u = .ok [some (.ref p), some (.lst (nms.map .str)), some (.ref n), some (.ref (n + 1)), none] u := by
    rw [gtup_eq, if_pos (show [W.lst (nms.map .str), W.ref n, W.ref (n + 1)].length = 3 from rfl)]
    rfl
  unfold m_law_right
  simp! [c3, c4, e1, alc, eall]
theorem rngW_mem {w : W} : ∀ {n : Nat} {lo : Int}, w ∈ rngW lo 1 n → ∃ k : Int, w = .int k ∧ lo ≤ k ∧ k < lo + n
  | 0, lo, h => (List.not_mem_nil h).elim
  | n + 1, lo, h => by
    rcases List.mem_cons.mp h with rfl | h
    · exact ⟨lo, rfl, by omega, by omega⟩
    · obtain ⟨k, e, h1, h2⟩ := rngW_mem h
      exact ⟨k, e, by omega, by omega⟩
theorem law_true (ns : List Int) (hl : ns.length ≤ 63) (hb : ∀ k ∈ ns, Builtin.Int.intBits k ≤ 1048576) : ∃ s', r_law [.cst (ns.map .int)] [] [] = .ok (.bl true) s' := by
  have e1 : gLen [.cst (ns.map .int)] [] = some (.int ns.length, []) := by rw [gLen_c, List.length_map]
  obtain ⟨m, hm, hm2⟩ : ∃ m : Nat, m ≤ 3 ∧ ((if (if (3 : Int) < ns.length then (3 : Int) else ns.length) > 1 then (if (3 : Int) < ns.length then (3 : Int) else ns.length) else 1) : Int) = m := by
    refine ⟨((if (if (3 : Int) < ns.length then (3 : Int) else ns.length) > 1 then (if (3 : Int) < ns.length then (3 : Int) else ns.length) else 1) : Int).toNat, ?_, ?_⟩
    · split <;> split <;> omega
    · split <;> split <;> omega
  have ami : (mirng1 (mcons (mfn gMax (mcons (mc (.int 1)) (mcons (mfn gMin (mcons (mfn gLen (mcons (mvar 0) mnil)) (mcons (mc (.int 3)) mnil))) mnil))) mnil)) [some (.cst (ns.map .int)), none] [] = .ok ⟨rngW 0 1 m, [], none⟩ [] := by
    refine mirng1_ok ?_ (by omega)
    have b1 := gMin2 (ns.length : Int) 3 []
    have b2 := gMax2 1 (if (3 : Int) < ns.length then (3 : Int) else ns.length) []
    rw [hm2] at b2
    simp! [e1, b1, b2]
  obtain ⟨u3, acc, l1, l2⟩ := loopC_inv (gd := []) (t := .nm 1) (c := myes) (e := mcall r_law_right (mcons (mcall r_law_pot (mcons (mvar 0) (mcons (mvar 1) mnil))) mnil)) (ws := wipeW [some (.cst (ns.map .int)), none] [1])
    (fun xs v acc => (∀ w ∈ xs, ∃ k : Int, w = .int k ∧ 0 ≤ k ∧ k < 1000) ∧ (∀ w ∈ acc, w = .bl true) ∧ acc.length + xs.length ≤ 3)
    (fun x xs v acc ⟨hx, ha, hj⟩ => by
      rw [List.length_cons] at hj
      obtain ⟨k, rfl, k0, k1⟩ := hx x List.mem_cons_self
      obtain ⟨a, b, p1, p2⟩ := pot_ok (s := v) (ns := ns) k0 k1
      obtain ⟨v', r1, mv⟩ := right_ok (s := v ++ [potO a b]) (p := v.length) ⟨a, b, at_new _ _, p2⟩
      refine ⟨rfl, [some (.cst (ns.map .int)), some (.int k)], rfl, .inr ⟨v, .bl true, v', rfl, ?_, by omega, fun w hw => hx w (List.mem_cons_of_mem _ hw), fun w hw => ?_, by rw [List.length_append, List.length_singleton]; omega⟩⟩
      · simp! [pot_eq, p1, r1]
      · rcases List.mem_append.mp hw with hw | hw
        · exact ha w hw
        · exact List.mem_singleton.mp hw)
    (fun _ _ _ => rfl) (rngW 0 1 m) [] [] ⟨fun w hw => by obtain ⟨k, e, h1, h2⟩ := rngW_mem hw; exact ⟨k, e, h1, by omega⟩, fun _ h => (List.not_mem_nil h).elim, by rw [rngW_len]; simpa using hm⟩
  obtain ⟨_, ha, _⟩ := l2
  have alc := mlc_of (mu := false) (vs := [1]) ami l1 (newL_f _ _)
  rw [trues ha] at alc
  have eall := gAll_rep acc.length u3
  refine ⟨[], ?_⟩
  show posA 1 (runT 0 2 m_law) [.cst (ns.map .int)] [] [] = _
  rw [posA_at (show [W.cst (ns.map .int)].length = 1 from rfl)]
  refine runT_rt (s' := [] ++ u3) (w := .bl true) ?_ (trim_low Chg.rfl rfl)
  show m_law [some (.cst (ns.map .int)), none] [] = _
  unfold m_law
  simp! [alc, eall]
  rfl
end K21


open PySem PySem.W PySem.Calls PyProof.Rows in
theorem PySem.Challenge.cw_anyoutcome_k21_whole_closures_and_groups_holds : PySem.Challenge.rw_anyoutcome_k21_whole_closures_and_groups.Holds := by
  w_on; o_law
  refine HandSHeadRun.head_any (r := OpenLaw.row PySem.Challenge.rw_anyoutcome_k21_whole_closures_and_groups) (q := view (OpenLaw.row PySem.Challenge.rw_anyoutcome_k21_whole_closures_and_groups).prog [33]) (H := K21.hk) (ob := K21.ob) (M := 4000) (loose := K21.loose) (d := HandSHeadRun.topDef (OpenLaw.row PySem.Challenge.rw_anyoutcome_k21_whole_closures_and_groups).prog 33) (kwd := []) K21.ob_eq
    (by kernel_rfl) (fun s => by kernel_rfl) K21.run (by kernel_rfl) (by kernel_rfl) (by kernel_rfl) (by rfl) (by first | assumption | decide +kernel) (by decide +kernel) ⟨rfl, rfl, rfl, rfl, rfl, by decide +kernel⟩ ?hw ?hc
  case hw => w_witness2
  case hc =>
    refine Va.walk_q (l := PySem.Challenge.rw_anyoutcome_k21_whole_closures_and_groups) (n := 63) (k := 9) rfl (by decide) (by kernel_rfl) ⟨rfl, by decide, by decide⟩ ?F
    intro w mg fa h Y G hmg0
    obtain ⟨K, KX, c⟩ := Y
    have e : (HandSHeadRun.topDef (OpenLaw.row PySem.Challenge.rw_anyoutcome_k21_whole_closures_and_groups).prog 33).name = ("law" : PySem.Str) := by kernel_rfl
    rw [e] at hmg0
    exact ⟨K, K21.r_law, KX, fun ns hl hbits => K21.law_true ns hl hbits, K21.facts (w := w) KX G hmg0 (Va.saysV_of c)⟩
