import PyProof.Rows.All
import Wide.All
import OpenK.AllK
import Wide.FinOn
import HandS.ForMost
import HandS.Exc
import HandS.ExcOwn
import HandS.WordsExc
import HandS.CallSlots
import HandS.HeadHook1
import HandS.HeadHook2
import KE.KDictKeyed
import HandS.Flow
import HandS.Defaults
import HandS.TupAny
import HandS.SortInts
import HandS.Wide
import HandS.IsInst
import HandS.RaiseMore
import HandS.Steps
import HandS.Style
import HandS.Deep
import HandS.Conv
import HandS.SetKeys
import HandS.Sort
import KE.DataAny
import HandS.Iter
import HandS.ExcInit
import HandS.ExcField
import HandS.ExcIs
import KE.KExcIs
import HandS.Codes
import HandS.Head0
import HandS.Head1
import HandS.Head2
import HandS.HeadEnd
import HandS.EndBits
import PySem.Challenge.RW_fullestfirst_k90_orders_of_operations
set_option Elab.async false
set_option linter.all false
section
set_option Elab.async false
set_option linter.all false
set_option maxRecDepth 100000
set_option maxHeartbeats 2000000
/-! Mr: a mirror of a text that computes by itself (values, cells, a heap by places), and that what it computes is what the model does. Part 1: values, heap, the relation, how results are handed on. -/
namespace Mr
open PySem L2

/-- a value: ref n is the n-th cell, glo x what the module's name x holds, exc k an error that is handled -/
inductive Val where
  | non | bl (b : Bool) | int (i : Int) | str (x : Str) | ref (n : Nat) | glo (x : Str) | ty (n : String) | exc (k : Nat)
  deriving DecidableEq
inductive Cell where
  | lst (xs : List Val) | tup (xs : List Val) | dic (kvs : List (Key × Val)) | ins (C : Str) (fs : List (Str × Val)) | xd (fs : List (Str × Val)) | fz (xs : List Val) | fd (id : Nat) (kvs : List (Key × Val)) | exo (C : Str) (d : Option Nat) | nd (ks : List (NestedKey × Val))

/-! ### the heap: a tree by the digits of a place -/
inductive Tr where
  | nil | node (v : Option Cell) (l r : Tr)
def Tr.get : Tr → Nat → Option Cell
  | .nil, _ => none
  | .node v l r, i => if i = 0 then v else if i % 2 = 1 then l.get (i / 2) else r.get (i / 2 - 1)
def Tr.set : Nat → Tr → Nat → Cell → Tr
  | 0, t, _, _ => t
  | f + 1, .nil, i, c => if i = 0 then .node (some c) .nil .nil else if i % 2 = 1 then .node none (Tr.set f .nil (i / 2) c) .nil else .node none .nil (Tr.set f .nil (i / 2 - 1) c)
  | f + 1, .node v l r, i, c => if i = 0 then .node (some c) l r else if i % 2 = 1 then .node v (Tr.set f l (i / 2) c) r else .node v l (Tr.set f r (i / 2 - 1) c)
theorem Tr.get_set : ∀ (f : Nat) (t : Tr) (i : Nat) (c : Cell) (j : Nat), i < f → (Tr.set f t i c).get j = if j = i then some c else t.get j := by
  intro f
  induction f with
  | zero => intro t i c j h; omega
  | succ f ih =>
    intro t i c j h
    cases t with
    | nil =>
      unfold Tr.set
      by_cases hi : i = 0
      · rw [if_pos hi]
        by_cases hj : j = 0
        · simp [Tr.get, hi, hj]
        · have : j ≠ i := by omega
          simp only [Tr.get, if_neg hj, if_neg this]
          split <;> rfl
      · rw [if_neg hi]
        by_cases hp : i % 2 = 1
        · rw [if_pos hp]
          by_cases hj : j = 0
          · have : j ≠ i := by omega
            simp [Tr.get, hj, this]; omega
          · by_cases hq : j % 2 = 1
            · simp only [Tr.get, if_neg hj, if_pos hq]
              rw [ih _ _ _ _ (by omega)]
              by_cases e : j = i
              · subst e; simp
              · rw [if_neg (by omega), if_neg e]; rfl
            · have : j ≠ i := by intro e; subst e; exact hq hp
              simp only [Tr.get, if_neg hj, if_neg hq, if_neg this]
        · rw [if_neg hp]
          by_cases hj : j = 0
          · have : j ≠ i := by omega
            simp [Tr.get, hj, this]; omega
          · by_cases hq : j % 2 = 1
            · have : j ≠ i := by intro e; subst e; exact hp hq
              simp only [Tr.get, if_neg hj, if_pos hq, if_neg this]
            · simp only [Tr.get, if_neg hj, if_neg hq]
              rw [ih _ _ _ _ (by omega)]
              by_cases e : j = i
              · subst e; simp
              · rw [if_neg (by omega), if_neg e]; rfl
    | node v l r =>
      unfold Tr.set
      by_cases hi : i = 0
      · rw [if_pos hi]
        by_cases hj : j = 0
        · simp [Tr.get, hi, hj]
        · have : j ≠ i := by omega
          simp only [Tr.get, if_neg hj, if_neg this]
      · rw [if_neg hi]
        by_cases hp : i % 2 = 1
        · rw [if_pos hp]
          by_cases hj : j = 0
          · have : j ≠ i := by omega
            simp [Tr.get, hj]; intro; omega
          · by_cases hq : j % 2 = 1
            · simp only [Tr.get, if_neg hj, if_pos hq]
              rw [ih _ _ _ _ (by omega)]
              by_cases e : j = i
              · subst e; simp
              · rw [if_neg (by omega), if_neg e]
            · have : j ≠ i := by intro e; subst e; exact hq hp
              simp only [Tr.get, if_neg hj, if_neg hq, if_neg this]
        · rw [if_neg hp]
          by_cases hj : j = 0
          · have : j ≠ i := by omega
            simp [Tr.get, hj]; intro; omega
          · by_cases hq : j % 2 = 1
            · have : j ≠ i := by intro e; subst e; exact hp hq
              simp only [Tr.get, if_neg hj, if_pos hq, if_neg this]
            · simp only [Tr.get, if_neg hj, if_neg hq]
              rw [ih _ _ _ _ (by omega)]
              by_cases e : j = i
              · subst e; simp
              · rw [if_neg (by omega), if_neg e]

structure Hc where
  n : Nat
  t : Tr
def Hc.get (h : Hc) (i : Nat) : Option Cell := h.t.get i
def Hc.put (h : Hc) (i : Nat) (c : Cell) : Hc := ⟨h.n, h.t.set (i + 1) i c⟩
def Hc.new (h : Hc) (c : Cell) : Hc := ⟨h.n + 1, h.t.set (h.n + 1) h.n c⟩
theorem Hc.get_put (h : Hc) (i : Nat) (c : Cell) (j : Nat) : (h.put i c).get j = if j = i then some c else h.get j := Tr.get_set _ _ _ _ _ (Nat.lt_succ_self i)
theorem Hc.get_new (h : Hc) (c : Cell) (j : Nat) : (h.new c).get j = if j = h.n then some c else h.get j := Tr.get_set _ _ _ _ _ (Nat.lt_succ_self _)
theorem Hc.n_new (h : Hc) (c : Cell) : (h.new c).n = h.n + 1 := rfl
theorem Hc.n_put (h : Hc) (i : Nat) (c : Cell) : (h.put i c).n = h.n := rfl

/-! ### results -/
inductive Res (α : Type) where
  | ok (a : α) (h : Hc) | exc (C : Str) (d : Option Nat) (h : Hc) | bad
abbrev M (α : Type) := Hc → Res α
def Res.bind {α β : Type} (r : Res α) (f : α → Hc → Res β) : Res β := match r with
  | .ok a h => f a h
  | .exc C d h => .exc C d h
  | .bad => .bad
abbrev Env := List (Option Val)
abbrev EM := Env → M Val
abbrev TM := Env → M Bool
abbrev AM := Env → M (List Val)
/-- what a statement comes to -/
inductive SR where
  | nx (e : Env) (h : Hc) | rt (v : Val) (h : Hc) | bk (e : Env) (h : Hc) | ct (e : Env) (h : Hc) | exc (C : Str) (d : Option Nat) (e : Env) (h : Hc) | bad
abbrev SM := Env → Hc → SR
/-- an expression's result within a statement -/
def Res.into {α : Type} (r : Res α) (e : Env) (f : α → Hc → SR) : SR := match r with
  | .ok a h => f a h
  | .exc C d h => .exc C d e h
  | .bad => .bad

/-! ### the relation -/
structure Rho where
  f : Nat → Option Addr
  ax : Nat → Option Addr := fun _ => none
  fr : Nat → Option (Obj × HO) := fun _ => none
structure Le (ρ ρ' : Rho) : Prop where
  f : ∀ n a, ρ.f n = some a → ρ'.f n = some a
  ax : ∀ n a, ρ.ax n = some a → ρ'.ax n = some a
  fr : ∀ n x, ρ.fr n = some x → ρ'.fr n = some x
theorem Le.refl (ρ : Rho) : Le ρ ρ := ⟨fun _ _ h => h, fun _ _ h => h, fun _ _ h => h⟩
theorem Le.trans {a b c : Rho} (x : Le a b) (y : Le b c) : Le a c := ⟨fun n m h => y.f n m (x.f n m h), fun n m h => y.ax n m (x.ax n m h), fun n m h => y.fr n m (x.fr n m h)⟩
def RV (K : PySem.W.Frag) (ρ : Rho) : Val → V → Prop
  | .non, x => x = .non
  | .bl b, x => x = .bl b
  | .int i, x => x = .int i
  | .str s, x => x = .str s
  | .ref n, x => ∃ a, ρ.f n = some a ∧ x = .ref a
  | .glo g, x => x = .ref (He.ga K g)
  | .ty n, x => x = .ty n
  | .exc k, x => ∃ a, ρ.ax k = some a ∧ x = .ref a
theorem RV.mono {K : PySem.W.Frag} {ρ ρ' : Rho} (l : Le ρ ρ') : ∀ {v : Val} {x : V}, RV K ρ v x → RV K ρ' v x
  | .non, _, h | .bl _, _, h | .int _, _, h | .str _, _, h | .glo _, _, h | .ty _, _, h => h
  | .ref _, _, ⟨a, e, h⟩ => ⟨a, l.f _ _ e, h⟩
  | .exc _, _, ⟨a, e, h⟩ => ⟨a, l.ax _ _ e, h⟩
theorem Paired.length {α β : Type} {F : α → β → Prop} {xs : List α} {ys : List β} (h : Paired F xs ys) : xs.length = ys.length := by
  induction h with
  | nil => rfl
  | cons _ _ ih => simp [ih]
theorem Paired.mono {α β : Type} {F G : α → β → Prop} (hm : ∀ a b, F a b → G a b) {xs : List α} {ys : List β} (h : Paired F xs ys) : Paired G xs ys := by
  induction h with
  | nil => exact .nil
  | cons a _ ih => exact .cons (hm _ _ a) ih
theorem Paired.append {α β : Type} {F : α → β → Prop} {xs xs' : List α} {ys ys' : List β} (h : Paired F xs ys) (h' : Paired F xs' ys') : Paired F (xs ++ xs') (ys ++ ys') := by
  induction h with
  | nil => exact h'
  | cons a _ ih => exact .cons a ih
theorem Paired.take {α β : Type} {F : α → β → Prop} {xs : List α} {ys : List β} (h : Paired F xs ys) (n : Nat) : Paired F (xs.take n) (ys.take n) := by
  induction h generalizing n with
  | nil => simp; exact .nil
  | cons a _ ih => cases n with
    | zero => exact .nil
    | succ n => exact .cons a (ih n)
theorem Paired.drop {α β : Type} {F : α → β → Prop} {xs : List α} {ys : List β} (h : Paired F xs ys) (n : Nat) : Paired F (xs.drop n) (ys.drop n) := by
  induction h generalizing n with
  | nil => simp; exact .nil
  | cons a t ih => cases n with
    | zero => exact .cons a t
    | succ n => exact ih n
theorem Paired.reverse {α β : Type} {F : α → β → Prop} {xs : List α} {ys : List β} (h : Paired F xs ys) : Paired F xs.reverse ys.reverse := by
  induction h with
  | nil => exact .nil
  | cons a _ ih => simp only [List.reverse_cons]; exact Paired.append ih (.cons a .nil)
theorem Paired.get {α β : Type} {F : α → β → Prop} {xs : List α} {ys : List β} (h : Paired F xs ys) : ∀ {i : Nat} {x : α}, xs[i]? = some x → ∃ y, ys[i]? = some y ∧ F x y := by
  induction h with
  | nil => intro i x e; simp at e
  | cons a _ ih =>
    intro i x e
    cases i with
    | zero => simp at e; subst e; exact ⟨_, rfl, a⟩
    | succ i => simp at e; obtain ⟨y, e', f⟩ := ih e; exact ⟨y, by simpa using e', f⟩
theorem Paired.get' {α β : Type} {F : α → β → Prop} {xs : List α} {ys : List β} (h : Paired F xs ys) {i : Nat} {x : α} {y : β} (e : xs[i]? = some x) (e' : ys[i]? = some y) : F x y := by
  obtain ⟨z, ez, f⟩ := Paired.get h e
  rw [ez] at e'
  cases e'
  exact f
theorem Paired.set {α β : Type} {F : α → β → Prop} {xs : List α} {ys : List β} (h : Paired F xs ys) {x : α} {y : β} (f : F x y) : ∀ i : Nat, Paired F (xs.set i x) (ys.set i y) := by
  induction h with
  | nil => intro i; exact .nil
  | cons a t ih =>
    intro i
    cases i with
    | zero => exact .cons f t
    | succ i => exact .cons a (ih i)
abbrev RVs (K : PySem.W.Frag) (ρ : Rho) : List Val → List V → Prop := Paired (RV K ρ)
theorem RVs.mono {K : PySem.W.Frag} {ρ ρ' : Rho} (l : Le ρ ρ') {vs : List Val} {xs : List V} (h : RVs K ρ vs xs) : RVs K ρ' vs xs := Paired.mono (fun _ _ => RV.mono l) h
/-- named values: the fields of an object, the pairs of a dict -/
abbrev RPs {κ : Type} (K : PySem.W.Frag) (ρ : Rho) : List (κ × Val) → List (κ × V) → Prop := Paired fun p q => p.1 = q.1 ∧ RV K ρ p.2 q.2
theorem RPs.mono {κ : Type} {K : PySem.W.Frag} {ρ ρ' : Rho} (l : Le ρ ρ') {vs : List (κ × Val)} {xs : List (κ × V)} (h : RPs K ρ vs xs) : RPs K ρ' vs xs := Paired.mono (fun _ _ q => ⟨q.1, q.2.mono l⟩) h
def RO (K : PySem.W.Frag) (ρ : Rho) : Option Val → Option V → Prop
  | some v, some x => RV K ρ v x
  | none, none => True
  | _, _ => False
theorem RO.mono {K : PySem.W.Frag} {ρ ρ' : Rho} (l : Le ρ ρ') : ∀ {v : Option Val} {x : Option V}, RO K ρ v x → RO K ρ' v x
  | some _, some _, h => RV.mono l h
  | none, none, _ => trivial
  | some _, none, h | none, some _, h => h.elim
abbrev RS (K : PySem.W.Frag) (ρ : Rho) : Env → L2.St → Prop := Paired (RO K ρ)
theorem RS.mono {K : PySem.W.Frag} {ρ ρ' : Rho} (l : Le ρ ρ') {vs : Env} {xs : L2.St} (h : RS K ρ vs xs) : RS K ρ' vs xs := Paired.mono (fun _ _ => RO.mono l) h
theorem RS.var {K : PySem.W.Frag} {ρ : Rho} {e : Env} {σ : L2.St} (r : RS K ρ e σ) {i : Nat} {v : Val} (h : e[i]? = some (some v)) : ∃ x, σ[i]? = some (some x) ∧ RV K ρ v x := by
  obtain ⟨y, hy, f⟩ := Paired.get r h
  cases y with
  | none => exact f.elim
  | some x => exact ⟨x, hy, f⟩
theorem RS.set {K : PySem.W.Frag} {ρ : Rho} {e : Env} {σ : L2.St} (r : RS K ρ e σ) {v : Val} {x : V} (h : RV K ρ v x) (i : Nat) : RS K ρ (e.set i (some v)) (σ.set i (some x)) := Paired.set r (show RO K ρ (some v) (some x) from h) i
theorem RS.unset {K : PySem.W.Frag} {ρ : Rho} {e : Env} {σ : L2.St} (r : RS K ρ e σ) (i : Nat) : RS K ρ (e.set i none) (σ.set i none) := Paired.set r (show RO K ρ none none from trivial) i

def RD (ρ : Rho) : Option Nat → Option Addr → Prop
  | none, none => True
  | some n, some a => ρ.f n = some a
  | _, _ => False
theorem RD.mono {ρ ρ' : Rho} (l : Le ρ ρ') : ∀ {d : Option Nat} {da : Option Addr}, RD ρ d da → RD ρ' d da
  | none, none, h => h
  | some _, some _, h => l.f _ _ h
  | none, some _, h | some _, none, h => h.elim
/-- an error that is handled: its class, its dict -/
def exoT (a C : Addr) (da : Option Addr) : HO := .ext fun h => ∃ (oe : Obj) (vs : Array Value), h.get? a = some oe ∧ oe.cls = .ref C ∧ oe.dict = da ∧ oe.data = .fields vs
/-! ### the keys -/
mutual
def hash0 : NestedKey → Int
  | .none => reduceHash 0xFCA86420
  | .num i => hashInt i
  | .text _ => 0
  | .tup ks => reduceHash (Builtin.Tuple.tupleHashOf (hashes0 ks))
def hashes0 : List NestedKey → List Int
  | [] => []
  | k :: ks => hash0 k :: hashes0 ks
end
mutual
def noTx : NestedKey → Bool
  | .none => true
  | .num _ => true
  | .text _ => false
  | .tup ks => noTxs ks
def noTxs : List NestedKey → Bool
  | [] => true
  | k :: ks => noTx k && noTxs ks
end
mutual
theorem hash0_ok (w : World) : ∀ k : NestedKey, noTx k = true → NestedKey.hash w k = hash0 k
  | .none, _ => rfl
  | .num _, _ => rfl
  | .text _, h => by cases h
  | .tup ks, h => by
    unfold NestedKey.hash hash0
    rw [hashes0_ok w ks h]
theorem hashes0_ok (w : World) : ∀ ks : List NestedKey, noTxs ks = true → NestedKey.hashes w ks = hashes0 ks
  | [], _ => rfl
  | k :: ks, h => by
    unfold NestedKey.hashes hashes0
    obtain ⟨h1, h2⟩ := Bool.and_eq_true_iff.mp (show (noTx k && noTxs ks) = true from h)
    rw [hash0_ok w k h1, hashes0_ok w ks h2]
end
/-- an entry: the key, where it stands -/
abbrev Nq := NestedKey × Addr
def nqE (x : Nq) : DictEntry := ⟨hash0 x.1, .ref x.2, .bool true⟩
def nqX (x : Nq) : NestedKey × Addr × Value := (x.1, x.2, .bool true)
/-- the dict at a -/
def nkO (a : Addr) (xs : List Nq) : HO := .ext fun h => (a == sysModules) = false ∧ ∃ o es ep, h.get? a = some o ∧ o.ExactDict ∧ o.data = .dict es ep ∧ es.toList = xs.map nqE ∧ (xs.map (·.1)).Nodup ∧ ∀ x ∈ xs, noTx x.1 = true ∧ x.1.depth ≤ 8
/-- what stands at a for a cell -/
def Img (K : PySem.W.Frag) (ρ : Rho) (H : Hp) (a : Addr) : Cell → Prop
  | .lst xs => ∃ ys, RVs K ρ xs ys ∧ H a = some (.lst ys)
  | .tup xs => ∃ ys, RVs K ρ xs ys ∧ H a = some (.tup ys)
  | .dic kvs => ∃ ls, RPs K ρ kvs ls ∧ H a = some (.dK ls)
  | .ins C fs => ∃ dx gs, RPs K ρ fs gs ∧ H a = some (.ins (He.ga K C) dx gs) ∧ Cls K (He.ga K C) ∧ ∀ p ∈ fs, NoAttr K (He.ga K C) p.1
  | .xd fs => ∃ gs, RPs K ρ fs gs ∧ H a = some (.xd gs)
  | .fz xs => ∃ o ys, RVs K ρ xs ys ∧ H a = some (.frz o (.lst ys))
  | .fd i kvs => ∃ o ls, RPs K ρ kvs ls ∧ H a = some (.frz o (.dK ls)) ∧ ρ.fr i = some (o, .dK ls)
  | .exo C d => ∃ da, RD ρ d da ∧ H a = some (exoT a (He.ga K C) da)
  | .nd ks => ∃ qs : List Nq, Paired (fun p q => p.1 = q.1 ∧ RV K ρ p.2 (.ref q.2)) ks qs ∧ H a = some (nkO a qs)
theorem Img.there {K : PySem.W.Frag} {ρ : Rho} {H : Hp} {a : Addr} {c : Cell} (h : Img K ρ H a c) : ∃ o, H a = some o := by
  cases c with
  | lst _ | tup _ | dic _ | xd _ => obtain ⟨_, _, e⟩ := h; exact ⟨_, e⟩
  | ins _ _ => obtain ⟨_, _, _, e, _⟩ := h; exact ⟨_, e⟩
  | fz _ => obtain ⟨_, _, _, e⟩ := h; exact ⟨_, e⟩
  | fd _ _ => obtain ⟨_, _, _, e, _⟩ := h; exact ⟨_, e⟩
  | exo _ _ => obtain ⟨_, _, e⟩ := h; exact ⟨_, e⟩
  | nd _ => obtain ⟨_, _, e⟩ := h; exact ⟨_, e⟩
theorem Img.stay {K : PySem.W.Frag} {ρ ρ' : Rho} {H H' : Hp} {a : Addr} {c : Cell} (h : Img K ρ H a c) (l : Le ρ ρ') (e : H' a = H a) : Img K ρ' H' a c := by
  cases c with
  | lst _ | tup _ => obtain ⟨_, r, q⟩ := h; exact ⟨_, RVs.mono l r, e.trans q⟩
  | dic _ | xd _ => obtain ⟨_, r, q⟩ := h; exact ⟨_, RPs.mono l r, e.trans q⟩
  | ins _ _ => obtain ⟨_, _, r, q, k⟩ := h; exact ⟨_, _, RPs.mono l r, e.trans q, k⟩
  | fz _ => obtain ⟨_, _, r, q⟩ := h; exact ⟨_, _, RVs.mono l r, e.trans q⟩
  | fd _ _ => obtain ⟨_, _, r, q, z⟩ := h; exact ⟨_, _, RPs.mono l r, e.trans q, l.fr _ _ z⟩
  | exo _ _ => obtain ⟨_, r, q⟩ := h; exact ⟨_, RD.mono l r, e.trans q⟩
  | nd _ => obtain ⟨_, r, q⟩ := h; exact ⟨_, Paired.mono (fun _ _ z => ⟨z.1, z.2.mono l⟩) r, e.trans q⟩
structure Rel (K : PySem.W.Frag) (ρ : Rho) (h : Hc) (H : Hp) : Prop where
  dom : ∀ n c, h.get n = some c → ∃ a, ρ.f n = some a ∧ Img K ρ H a c
  inj : ∀ n m a, ρ.f n = some a → ρ.f m = some a → n = m
  bd : ∀ n a, ρ.f n = some a → n < h.n ∧ ∃ c, h.get n = some c
  fb : ∀ n x, ρ.fr n = some x → n < h.n
  ab : ∀ n x, ρ.ax n = some x → n < h.n
theorem Rel.at {K : PySem.W.Frag} {ρ : Rho} {h : Hc} {H : Hp} (R : Rel K ρ h H) {n : Nat} {a : Addr} {c : Cell} (e : ρ.f n = some a) (hc : h.get n = some c) : Img K ρ H a c := by
  obtain ⟨b, eb, i⟩ := R.dom n c hc
  rw [e] at eb
  cases eb
  exact i
theorem Rel.ne {K : PySem.W.Frag} {ρ : Rho} {h : Hc} {H : Hp} (R : Rel K ρ h H) {n : Nat} {a p : Addr} (e : ρ.f n = some a) (hp : H p = none) : a ≠ p := by
  obtain ⟨_, c, hc⟩ := R.bd n a e
  obtain ⟨o, eo⟩ := (R.at e hc).there
  exact ne_of_none eo hp
def Rho.add (ρ : Rho) (n : Nat) (p : Addr) : Rho := ⟨fun i => if i = n then some p else ρ.f i, ρ.ax, ρ.fr⟩
theorem Rel.le_add {K : PySem.W.Frag} {ρ : Rho} {h : Hc} {H : Hp} (R : Rel K ρ h H) (p : Addr) : Le ρ (ρ.add h.n p) := ⟨fun n a e => by
  have := (R.bd n a e).1
  show (if n = h.n then some p else ρ.f n) = some a
  rw [if_neg (by omega)]
  exact e, fun _ _ e => e, fun _ _ e => e⟩
theorem Rho.add_at (ρ : Rho) (n : Nat) (p : Addr) : (ρ.add n p).f n = some p := if_pos rfl
/-- a new cell -/
theorem Rel.new {K : PySem.W.Frag} {ρ : Rho} {h : Hc} {H H' : Hp} {p : Addr} {c : Cell} (R : Rel K ρ h H) (hp : H p = none) (hk : ∀ b o, H b = some o → H' b = some o) (hi : Img K (ρ.add h.n p) H' p c) : Rel K (ρ.add h.n p) (h.new c) H' := by
  have l := R.le_add p
  refine ⟨fun n d e => ?_, fun n m a e1 e2 => ?_, fun n a e => ?_, fun n x e => Nat.lt_succ_of_lt (R.fb n x e), fun n x e => Nat.lt_succ_of_lt (R.ab n x e)⟩
  · rw [Hc.get_new] at e
    by_cases hn : n = h.n
    · rw [if_pos hn] at e
      cases e
      exact ⟨p, by rw [hn]; exact Rho.add_at _ _ _, hi⟩
    · rw [if_neg hn] at e
      obtain ⟨a, ea, i⟩ := R.dom n d e
      obtain ⟨o, eo⟩ := i.there
      exact ⟨a, l.f n a ea, i.stay l (by rw [hk a o eo, eo])⟩
  · have e1' : (if n = h.n then some p else ρ.f n) = some a := e1
    have e2' : (if m = h.n then some p else ρ.f m) = some a := e2
    by_cases hn : n = h.n
    · by_cases hm : m = h.n
      · rw [hn, hm]
      · rw [if_pos hn] at e1'
        rw [if_neg hm] at e2'
        cases e1'
        exact absurd rfl (R.ne e2' hp)
    · rw [if_neg hn] at e1'
      by_cases hm : m = h.n
      · rw [if_pos hm] at e2'
        cases e2'
        exact absurd rfl (R.ne e1' hp)
      · rw [if_neg hm] at e2'
        exact R.inj n m a e1' e2'
  · have e' : (if n = h.n then some p else ρ.f n) = some a := e
    rw [Hc.n_new, Hc.get_new]
    by_cases hn : n = h.n
    · exact ⟨by omega, c, if_pos hn⟩
    · rw [if_neg hn] at e' ⊢
      obtain ⟨b, d, hd⟩ := R.bd n a e'
      exact ⟨by omega, d, hd⟩
/-- a cell changed -/
theorem Rel.put {K : PySem.W.Frag} {ρ : Rho} {h : Hc} {H : Hp} {n : Nat} {a : Addr} {o : HO} {c : Cell} (R : Rel K ρ h H) (ea : ρ.f n = some a) (hi : Img K ρ (upd H a o) a c) : Rel K ρ (h.put n c) (upd H a o) := by
  refine ⟨fun m d e => ?_, R.inj, fun m b e => ?_, R.fb, R.ab⟩
  · rw [Hc.get_put] at e
    by_cases hm : m = n
    · rw [if_pos hm] at e
      cases e
      exact ⟨a, by rw [hm]; exact ea, hi⟩
    · rw [if_neg hm] at e
      obtain ⟨b, eb, i⟩ := R.dom m d e
      refine ⟨b, eb, i.stay (Le.refl ρ) (upd_ne fun q => hm ?_)⟩
      subst q
      exact R.inj m n b eb ea
  · rw [Hc.n_put, Hc.get_put]
    obtain ⟨h1, d, hd⟩ := R.bd m b e
    refine ⟨h1, ?_⟩
    by_cases hm : m = n
    · exact ⟨c, if_pos hm⟩
    · exact ⟨d, by rw [if_neg hm]; exact hd⟩

/-- a dict is locked: it keeps a new number of its own -/
def Hc.lock (h : Hc) (i : Nat) (kvs : List (Key × Val)) : Hc := ⟨h.n + 1, h.t.set (i + 1) i (.fd h.n kvs)⟩
theorem Hc.get_lock (h : Hc) (i : Nat) (kvs : List (Key × Val)) (j : Nat) : (h.lock i kvs).get j = if j = i then some (.fd h.n kvs) else h.get j := Tr.get_set _ _ _ _ _ (Nat.lt_succ_self i)
def Rho.lock (ρ : Rho) (n : Nat) (x : Obj × HO) : Rho := ⟨ρ.f, ρ.ax, fun i => if i = n then some x else ρ.fr i⟩
theorem Rel.lock {K : PySem.W.Frag} {ρ : Rho} {h : Hc} {H : Hp} {n : Nat} {d : Addr} {kvs : List (Key × Val)} {ls : List (Key × V)} (R : Rel K ρ h H) (ed : ρ.f n = some d) (rl : RPs K ρ kvs ls) (od : Obj) :
    Rel K (ρ.lock h.n (od, .dK ls)) (h.lock n kvs) (upd H d (.frz od (.dK ls))) ∧ Le ρ (ρ.lock h.n (od, .dK ls)) ∧ (ρ.lock h.n (od, .dK ls)).fr h.n = some (od, .dK ls) := by
  have l : Le ρ (ρ.lock h.n (od, .dK ls)) := ⟨fun _ _ e => e, fun _ _ e => e, fun m x e => by
    have := R.fb m x e
    show (if m = h.n then some (od, HO.dK ls) else ρ.fr m) = some x
    rw [if_neg (by omega)]
    exact e⟩
  have at_ : (ρ.lock h.n (od, .dK ls)).fr h.n = some (od, .dK ls) := if_pos rfl
  refine ⟨⟨fun m c e => ?_, R.inj, fun m b e => ?_, fun m x e => ?_, fun m x e => Nat.lt_succ_of_lt (R.ab m x e)⟩, l, at_⟩
  · rw [Hc.get_lock] at e
    by_cases hm : m = n
    · rw [if_pos hm] at e
      cases e
      exact ⟨d, by rw [hm]; exact ed, od, ls, RPs.mono l rl, upd_same, at_⟩
    · rw [if_neg hm] at e
      obtain ⟨b, eb, i⟩ := R.dom m c e
      refine ⟨b, eb, i.stay l (upd_ne fun q => hm ?_)⟩
      subst q
      exact R.inj m n b eb ed
  · rw [Hc.get_lock]
    obtain ⟨h1, c, hc⟩ := R.bd m b e
    refine ⟨Nat.lt_succ_of_lt h1, ?_⟩
    by_cases hm : m = n
    · exact ⟨_, if_pos hm⟩
    · exact ⟨c, by rw [if_neg hm]; exact hc⟩
  · have e' : (if m = h.n then some (od, HO.dK ls) else ρ.fr m) = some x := e
    show m < h.n + 1
    by_cases hm : m = h.n
    · omega
    · rw [if_neg hm] at e'
      exact Nat.lt_succ_of_lt (R.fb m x e')

/-- an error is caught: it has a new number -/
def Hc.bump (h : Hc) : Hc := ⟨h.n + 1, h.t⟩
theorem Hc.get_bump (h : Hc) (j : Nat) : h.bump.get j = h.get j := rfl
def Rho.exc (ρ : Rho) (n : Nat) (a : Addr) : Rho := ⟨ρ.f, fun i => if i = n then some a else ρ.ax i, ρ.fr⟩
theorem Rel.exc {K : PySem.W.Frag} {ρ : Rho} {h : Hc} {H : Hp} (R : Rel K ρ h H) (a : Addr) : Rel K (ρ.exc h.n a) h.bump H ∧ Le ρ (ρ.exc h.n a) ∧ (ρ.exc h.n a).ax h.n = some a := by
  have l : Le ρ (ρ.exc h.n a) := ⟨fun _ _ e => e, fun m x e => by
    have := R.ab m x e
    show (if m = h.n then some a else ρ.ax m) = some x
    rw [if_neg (by omega)]
    exact e, fun _ _ e => e⟩
  refine ⟨⟨fun m c e => ?_, R.inj, fun m b e => ?_, fun m x e => Nat.lt_succ_of_lt (R.fb m x e), fun m x e => ?_⟩, l, if_pos rfl⟩
  · obtain ⟨b, eb, i⟩ := R.dom m c e
    exact ⟨b, eb, i.stay l rfl⟩
  · obtain ⟨h1, c, hc⟩ := R.bd m b e
    exact ⟨Nat.lt_succ_of_lt h1, c, hc⟩
  · have e' : (if m = h.n then some a else ρ.ax m) = some x := e
    show m < h.n + 1
    by_cases hm : m = h.n
    · omega
    · rw [if_neg hm] at e'
      exact Nat.lt_succ_of_lt (R.ab m x e')

/-! ### how results are handed on -/
abbrev WK := Value → Option Addr → Hp → Prop
def Post {α β : Type} (K : PySem.W.Frag) (R : Rho → α → β → Prop) (ρ0 : Rho) (r : Res α) (Q : β → Hp → Prop) (W : WK) : Prop := match r with
  | .ok v h => ∀ ρ H x, Le ρ0 ρ → Rel K ρ h H → R ρ v x → Q x H
  | .exc C d h => ∀ ρ H da, Le ρ0 ρ → Rel K ρ h H → RD ρ d da → W (.ref (He.ga K C)) da H
  | .bad => False
theorem Post.later {α β : Type} {K : PySem.W.Frag} {R : Rho → α → β → Prop} {ρ0 ρ1 : Rho} {r : Res α} {Q : β → Hp → Prop} {W : WK} (h : Post K R ρ0 r Q W) (l : Le ρ0 ρ1) : Post K R ρ1 r Q W := by
  cases r with
  | ok v h' => exact fun ρ H x l' => h ρ H x (l.trans l')
  | exc C d h' => exact fun ρ H x l' => h ρ H x (l.trans l')
  | bad => exact h
theorem Post.mono {α β : Type} {K : PySem.W.Frag} {R : Rho → α → β → Prop} {ρ0 : Rho} {r : Res α} {Q Q' : β → Hp → Prop} {W : WK} (h : Post K R ρ0 r Q W) (hq : ∀ x H, Q x H → Q' x H) : Post K R ρ0 r Q' W := by
  cases r with
  | ok v h' => exact fun ρ H x l' a b => hq _ _ (h ρ H x l' a b)
  | exc C d h' => exact h
  | bad => exact h
/-- the first of two: what is wanted behind it -/
def Nxt {α β γ δ : Type} (K : PySem.W.Frag) (R : Rho → α → β → Prop) (R' : Rho → γ → δ → Prop) (ρ0 : Rho) (f : α → Hc → Res γ) (Q : δ → Hp → Prop) (W : WK) : β → Hp → Prop := fun x H => ∃ ρ v h, Le ρ0 ρ ∧ Rel K ρ h H ∧ R ρ v x ∧ Post K R' ρ (f v h) Q W
theorem Post.bind {α β γ δ : Type} {K : PySem.W.Frag} {R : Rho → α → β → Prop} {R' : Rho → γ → δ → Prop} {ρ0 : Rho} {r : Res α} {f : α → Hc → Res γ} {Q : δ → Hp → Prop} {W : WK} (h : Post K R' ρ0 (r.bind f) Q W) :
    Post K R ρ0 r (Nxt K R R' ρ0 f Q W) W := by
  cases r with
  | ok v h' => exact fun ρ H x l a b => ⟨ρ, v, h', l, a, b, Post.later h l⟩
  | exc C d h' => exact h
  | bad => exact h
/-- what a statement comes to, as it is wanted -/
abbrev WS := Value → Option Addr → L2.St → Hp → Prop
def PostS (K : PySem.W.Frag) (ρ0 : Rho) (r : SR) (D : Ends) (W : WS) : Prop := match r with
  | .nx e h => ∀ ρ H σ, Le ρ0 ρ → Rel K ρ h H → RS K ρ e σ → D.nx σ H
  | .bk e h => ∀ ρ H σ, Le ρ0 ρ → Rel K ρ h H → RS K ρ e σ → D.bk σ H
  | .ct e h => ∀ ρ H σ, Le ρ0 ρ → Rel K ρ h H → RS K ρ e σ → D.ct σ H
  | .rt v h => ∀ ρ H x, Le ρ0 ρ → Rel K ρ h H → RV K ρ v x → D.rt x H
  | .exc C d e h => ∀ ρ H da σ, Le ρ0 ρ → Rel K ρ h H → RD ρ d da → RS K ρ e σ → W (.ref (He.ga K C)) da σ H
  | .bad => False
theorem PostS.later {K : PySem.W.Frag} {ρ0 ρ1 : Rho} {r : SR} {D : Ends} {W : WS} (h : PostS K ρ0 r D W) (l : Le ρ0 ρ1) : PostS K ρ1 r D W := by
  cases r with
  | nx e h' => exact fun ρ H x l' => h ρ H x (l.trans l')
  | bk e h' => exact fun ρ H x l' => h ρ H x (l.trans l')
  | ct e h' => exact fun ρ H x l' => h ρ H x (l.trans l')
  | rt e h' => exact fun ρ H x l' => h ρ H x (l.trans l')
  | exc C d e h' => exact fun ρ H x σ l' => h ρ H x σ (l.trans l')
  | bad => exact h
theorem PostS.mono {K : PySem.W.Frag} {ρ0 : Rho} {r : SR} {D D' : Ends} {W W' : WS} (h : PostS K ρ0 r D W) (h1 : ∀ σ H, D.nx σ H → D'.nx σ H) (h2 : ∀ x H, D.rt x H → D'.rt x H) (h3 : ∀ σ H, D.bk σ H → D'.bk σ H) (h4 : ∀ σ H, D.ct σ H → D'.ct σ H)
    (h5 : ∀ c d σ H, W c d σ H → W' c d σ H) : PostS K ρ0 r D' W' := by
  cases r with
  | nx e h' => exact fun ρ H x l a b => h1 _ _ (h ρ H x l a b)
  | bk e h' => exact fun ρ H x l a b => h3 _ _ (h ρ H x l a b)
  | ct e h' => exact fun ρ H x l a b => h4 _ _ (h ρ H x l a b)
  | rt e h' => exact fun ρ H x l a b => h2 _ _ (h ρ H x l a b)
  | exc C d e h' => exact fun ρ H x σ l a b c => h5 _ _ _ _ (h ρ H x σ l a b c)
  | bad => exact h
/-- an expression's end within a statement -/
def NxtS {α β : Type} (K : PySem.W.Frag) (R : Rho → α → β → Prop) (ρ0 : Rho) (f : α → Hc → SR) (D : Ends) (W : WS) : β → Hp → Prop := fun x H => ∃ ρ v h, Le ρ0 ρ ∧ Rel K ρ h H ∧ R ρ v x ∧ PostS K ρ (f v h) D W
theorem PostS.into {α β : Type} {K : PySem.W.Frag} {R : Rho → α → β → Prop} {ρ0 : Rho} {r : Res α} {e : Env} {f : α → Hc → SR} {D : Ends} {W : WS} {σ : L2.St} (h : PostS K ρ0 (r.into e f) D W) (rs : RS K ρ0 e σ) :
    Post K R ρ0 r (NxtS K R ρ0 f D W) (fun c d H => W c d σ H) := by
  cases r with
  | ok v h' => exact fun ρ H x l a b => ⟨ρ, v, h', l, a, b, PostS.later h l⟩
  | exc C d h' => exact fun ρ H da l a b => h ρ H da σ l a b (RS.mono l rs)
  | bad => exact h
end Mr
end
section
set_option Elab.async false
set_option linter.all false
set_option maxRecDepth 100000
set_option maxHeartbeats 2000000
/-! Mr, part 2: expressions, tests, arguments, calls. -/
namespace Mr
open PySem L2

/-! ### readings by mirrors -/
def rdE (K : PySem.W.Frag) (W : WS) (m : EM) : TE := fun σ H Q => ∃ ρ e h, Rel K ρ h H ∧ RS K ρ e σ ∧ Post K (RV K) ρ (m e h) Q (fun c d H => W c d σ H)
def rdT (K : PySem.W.Frag) (W : WS) (m : TM) : TT := fun σ H Q => ∃ ρ e h, Rel K ρ h H ∧ RS K ρ e σ ∧ Post K (fun _ a b => a = b) ρ (m e h) Q (fun c d H => W c d σ H)
def rdA (K : PySem.W.Frag) (W : WS) (m : AM) : TA := fun σ H Q => ∃ ρ e h, Rel K ρ h H ∧ RS K ρ e σ ∧ Post K (RVs K) ρ (m e h) Q (fun c d H => W c d σ H)
abbrev RB : Rho → Bool → Bool → Prop := fun _ a b => a = b
section
variable {X : Cx}
theorem _root_.L2.PE.imp {e : Expr} {t t' : TE} (h : PE X e t) (i : ∀ σ H Q, t' σ H Q → t σ H Q) : PE X e t' := ⟨fun pins s σ H Q I q => h.run pins s σ H Q I (i _ _ _ q)⟩
theorem _root_.L2.PE.any {e : Expr} {t' : TE} (i : ∀ σ H Q, t' σ H Q → ∃ t, PE X e t ∧ t σ H Q) : PE X e t' := ⟨fun pins s σ H Q I q => by
  obtain ⟨t, h, q'⟩ := i _ _ _ q
  exact h.run pins s σ H Q I q'⟩
theorem _root_.L2.PT.imp {e : Expr} {t t' : TT} (h : PT X e t) (i : ∀ σ H Q, t' σ H Q → t σ H Q) : PT X e t' := ⟨fun pins s σ H Q I q => h.run pins s σ H Q I (i _ _ _ q)⟩
theorem _root_.L2.PW.imp {e : Expr} {t t' : TT} (h : PW X e t) (i : ∀ σ H Q, t' σ H Q → t σ H Q) : PW X e t' := ⟨fun wh pins s σ H Q I q => h.run wh pins s σ H Q I (i _ _ _ q)⟩
theorem _root_.L2.PA.imp {es : List Expr} {t t' : TA} (h : PA X es t) (i : ∀ σ H Q, t' σ H Q → t σ H Q) : PA X es t' := ⟨fun pos pins s σ H Q I q => h.run pos pins s σ H Q I (i _ _ _ q)⟩

/-! ### names, constants -/
def eVar (i : Nat) : EM := fun e h => match e[i]? with
  | some (some v) => .ok v h
  | _ => .bad
def eC (v : Val) : EM := fun _ h => .ok v h
variable {W : WS} {e a b : Expr} {ma mb : EM} {pos : Pos}
theorem se_v {i : Nat} (h : PE X e (tVar i)) : PE X e (rdE X.K W (eVar i)) := h.imp fun σ H Q ⟨ρ, en, hc, R, rs, p⟩ => by
  cases q : en[i]? with
  | none => simp only [eVar, q, Post] at p
  | some o => cases o with
    | none => simp only [eVar, q, Post] at p
    | some v =>
      simp only [eVar, q] at p
      obtain ⟨x, hx, r⟩ := RS.var rs q
      exact ⟨x, hx, p ρ H x (Le.refl ρ) R r⟩
theorem se_c {v : Val} {x : V} (h : PE X e (tC x)) (r : ∀ ρ, RV X.K ρ v x) : PE X e (rdE X.K W (eC v)) := h.imp fun σ H Q ⟨ρ, en, hc, R, rs, p⟩ => p ρ H x (Le.refl ρ) R (r ρ)
theorem se_int {i j pos} : PE X (.Constant (.int i) j pos) (rdE X.K W (eC (.int i))) := se_c pe_int fun _ => rfl
theorem se_bl {b j pos} : PE X (.Constant (.bool b) j pos) (rdE X.K W (eC (.bl b))) := se_c pe_bl fun _ => rfl
theorem se_non {j pos} : PE X (.Constant .none j pos) (rdE X.K W (eC .non)) := se_c pe_non fun _ => rfl
theorem se_str {x j pos} : PE X (.Constant (.str x) j pos) (rdE X.K W (eC (.str x))) := se_c pe_str fun _ => rfl

/-! ### operators by values -/
def OpS (X : Cx) (r : R2) (g : Val → Val → M Val) : Prop := ∀ (W : WK) ρ h H a b x y (Q : VK), Rel X.K ρ h H → RV X.K ρ a x → RV X.K ρ b y → Post X.K (RV X.K) ρ (g a b h) Q W → r x y H Q
def OpM (X : Cx) (f : Value → Value → Sem Value) (g : Val → Val → M Val) : Prop := ∃ r, OpR X f r ∧ OpS X r g
def UnS (X : Cx) (r : V → Hp → VK → Prop) (g : Val → M Val) : Prop := ∀ (W : WK) ρ h H a x (Q : VK), Rel X.K ρ h H → RV X.K ρ a x → Post X.K (RV X.K) ρ (g a h) Q W → r x H Q
def UnM (X : Cx) (f : Value → Sem Value) (g : Val → M Val) : Prop := ∃ r, UnR X f r ∧ UnS X r g
def CallS (X : Cx) (r : List V → Hp → VK → Prop) (g : List Val → M Val) : Prop := ∀ (W : WK) ρ h H as xs (Q : VK), Rel X.K ρ h H → RVs X.K ρ as xs → Post X.K (RV X.K) ρ (g as h) Q W → r xs H Q
def CallM (X : Cx) (f : Value) (g : List Val → M Val) : Prop := ∃ r, CallR X f r ∧ CallS X r g
def MtS (X : Cx) (r : V → List V → Hp → VK → Prop) (g : Val → List Val → M Val) : Prop := ∀ (W : WK) ρ h H a as x xs (Q : VK), Rel X.K ρ h H → RV X.K ρ a x → RVs X.K ρ as xs → Post X.K (RV X.K) ρ (g a as h) Q W → r x xs H Q
def MtMm (X : Cx) (id : String) (g : Val → List Val → M Val) : Prop := ∃ r, MtR X id r ∧ MtS X r g
def IxM (X : Cx) (g : Val → Val → M Val) : Prop := ∃ r, IxR X r ∧ OpS X r g
def SlS (X : Cx) (r : V → Option Int → Option Int → Hp → VK → Prop) (g : Val → Option Int → Option Int → M Val) : Prop := ∀ (W : WK) ρ h H a x lo hi (Q : VK), Rel X.K ρ h H → RV X.K ρ a x → Post X.K (RV X.K) ρ (g a lo hi h) Q W → r x lo hi H Q
def SlM (X : Cx) (g : Val → Option Int → Option Int → M Val) : Prop := ∃ r, SlR X r ∧ SlS X r g

def eBin (g : Val → Val → M Val) (ma mb : EM) : EM := fun e h => (ma e h).bind fun x h1 => (mb e h1).bind fun y h2 => g x y h2
def eUn (g : Val → M Val) (ma : EM) : EM := fun e h => (ma e h).bind fun x h1 => g x h1
/-- two in a row, then something by their values -/
theorem two {r : R2} {g : Val → Val → M Val} (hs : OpS X r g) {σ : L2.St} {H : Hp} {Q : VK} (h : rdE X.K W (eBin g ma mb) σ H Q) : tOp r (rdE X.K W ma) (rdE X.K W mb) σ H Q := by
  obtain ⟨ρ, en, hc, R, rs, p⟩ := h
  refine ⟨ρ, en, hc, R, rs, Post.mono (Post.bind (R := RV X.K) p) fun x H1 ⟨ρ1, v, h1, l1, R1, r1, p1⟩ => ?_⟩
  refine ⟨ρ1, en, h1, R1, RS.mono l1 rs, Post.mono (Post.bind (R := RV X.K) p1) fun y H2 ⟨ρ2, u, h2, l2, R2, r2, p2⟩ => ?_⟩
  exact hs _ ρ2 h2 H2 v u x y Q R2 (r1.mono l2) r2 p2
theorem one {r : V → Hp → VK → Prop} {g : Val → M Val} (hs : UnS X r g) {σ : L2.St} {H : Hp} {Q : VK} (h : rdE X.K W (eUn g ma) σ H Q) : tUn r (rdE X.K W ma) σ H Q := by
  obtain ⟨ρ, en, hc, R, rs, p⟩ := h
  refine ⟨ρ, en, hc, R, rs, Post.mono (Post.bind (R := RV X.K) p) fun x H1 ⟨ρ1, v, h1, l1, R1, r1, p1⟩ => ?_⟩
  exact hs _ ρ1 h1 H1 v x Q R1 r1 p1
theorem se_bin {op : Operator} {g : Val → Val → M Val} (ho : OpM X (binaryOp op) g) (ha : PE X a (rdE X.K W ma)) (hb : PE X b (rdE X.K W mb)) : PE X (.BinOp a op b pos) (rdE X.K W (eBin g ma mb)) := by
  obtain ⟨r, h1, h2⟩ := ho
  exact (pe_op h1 ha hb).imp fun σ H Q q => two h2 q
theorem se_un {op : UnaryOp} {g : Val → M Val} (ho : UnM X (unaryOp op) g) (ha : PE X a (rdE X.K W ma)) : PE X (.UnaryOp op a pos) (rdE X.K W (eUn g ma)) := by
  obtain ⟨r, h1, h2⟩ := ho
  exact (pe_un h1 ha).imp fun σ H Q q => one h2 q
theorem se_cmp {op : CmpOp} {g : Val → Val → M Val} (ho : OpM X (compareOp op) g) (ha : PE X a (rdE X.K W ma)) (hb : PE X b (rdE X.K W mb)) (hm : behindInMarks op b = false := by first | exact nomark _ | rfl) : PE X (.Compare a [op] [b] pos) (rdE X.K W (eBin g ma mb)) := by
  obtain ⟨r, h1, h2⟩ := ho
  exact (pe_cmpR h1 ha hb hm).imp fun σ H Q q => two h2 q
/-- a < b < c -/
def eChain (g g' : Val → Val → M Val) (ma mb mc : EM) : EM := fun e h => (ma e h).bind fun x h1 => (mb e h1).bind fun y h2 => (g x y h2).bind fun z h3 => match z with
  | .bl true => (mc e h3).bind fun w h4 => g' y w h4
  | .bl false => .ok (.bl false) h3
  | _ => .bad
theorem chain_rd {mc : EM} {g g' : Val → Val → M Val} {r r' : R2} (h2 : OpS X r g) (h2' : OpS X r' g') {σ : L2.St} {H : Hp} {Q : VK} (h : rdE X.K W (eChain g g' ma mb mc) σ H Q) : tChain r r' (rdE X.K W ma) (rdE X.K W mb) (rdE X.K W mc) σ H Q := by
  obtain ⟨ρ, en, hc, R, rs, p⟩ := h
  refine ⟨ρ, en, hc, R, rs, Post.mono (Post.bind (R := RV X.K) p) fun x H1 ⟨ρ1, v, hh1, l1, R1, r1, p1⟩ => ?_⟩
  refine ⟨ρ1, en, hh1, R1, RS.mono l1 rs, Post.mono (Post.bind (R := RV X.K) p1) fun y H2 ⟨ρ2, u, hh2, l2, R2, r2, p2⟩ => ?_⟩
  refine h2 (fun c d H => W c d σ H) ρ2 hh2 H2 v u x y _ R2 (r1.mono l2) r2 (Post.mono (Post.bind (R := RV X.K) p2) fun z H3 ⟨ρ3, t, hh3, l3, R3, r3, p3⟩ => ?_)
  cases t with
  | bl k =>
    cases k with
    | true =>
      refine ⟨true, r3, ?_⟩
      rw [if_pos rfl]
      refine ⟨ρ3, en, hh3, R3, RS.mono (l1.trans (l2.trans l3)) rs, Post.mono (Post.bind (R := RV X.K) p3) fun w H4 ⟨ρ4, q, hh4, l4, R4, r4, p4⟩ => ?_⟩
      exact h2' _ ρ4 hh4 H4 u q y w Q R4 (r2.mono (l3.trans l4)) r4 p4
    | false =>
      refine ⟨false, r3, ?_⟩
      rw [if_neg Bool.false_ne_true]
      exact p3 ρ3 H3 _ (Le.refl _) R3 rfl
  | _ => exact p3.elim

theorem se_chain {c : Expr} {mc : EM} {op op' : CmpOp} {g g' : Val → Val → M Val} (ho : OpM X (compareOp op) g) (ho' : OpM X (compareOp op') g') (ha : PE X a (rdE X.K W ma)) (hb : PE X b (rdE X.K W mb)) (hc : PE X c (rdE X.K W mc))
    (hm : lastMarks [op, op'] [b, c] = false := by with_unfolding_all rfl) : PE X (.Compare a [op, op'] [b, c] pos) (rdE X.K W (eChain g g' ma mb mc)) := by
  obtain ⟨r, h1, h2⟩ := ho
  obtain ⟨r', h1', h2'⟩ := ho'
  exact (pe_chain h1 h1' ha hb hc hm).imp fun σ H Q q => chain_rd h2 h2' q

/-! ### tests -/
def tVal (m : EM) : TM := fun e h => (m e h).bind fun v h1 => match v with
  | .bl b => .ok b h1
  | _ => .bad
/-- the way from a test on an expression that tells a bool -/
theorem val_test {m : EM} {σ : L2.St} {H : Hp} {Q : Bool → Hp → Prop} (h : rdT X.K W (tVal m) σ H Q) : rdE X.K W m σ H fun x H1 => ∃ c, x = .bl c ∧ Q c H1 := by
  obtain ⟨ρ, en, hc, R, rs, p⟩ := h
  refine ⟨ρ, en, hc, R, rs, Post.mono (Post.bind (R := RV X.K) p) fun x H1 ⟨ρ1, v, h1, l1, R1, r1, p1⟩ => ?_⟩
  cases v with
  | bl k => exact ⟨k, r1, p1 ρ1 H1 k (Le.refl _) R1 rfl⟩
  | _ => exact p1.elim
theorem st_val {m : EM} (h : PE X e (rdE X.K W m)) (he : ∀ whole, isTrue e X.env whole = (do let v ← whole; standAt e.pos; holding [v] (truthy v)) := by intro _; rfl) : PT X e (rdT X.K W (tVal m)) := (pt_val h he).imp fun σ H Q q => val_test q
theorem st_cmp {op : CmpOp} {g : Val → Val → M Val} (ho : OpM X (compareOp op) g) (ha : PE X a (rdE X.K W ma)) (hb : PE X b (rdE X.K W mb)) (hm : behindInMarks op b = false := by first | exact nomark _ | rfl) : PT X (.Compare a [op] [b] pos) (rdT X.K W (tVal (eBin g ma mb))) := by
  obtain ⟨r, h1, h2⟩ := ho
  exact (pt_cmpR h1 ha hb hm).imp fun σ H Q q => two h2 (val_test q)
theorem st_chain {c : Expr} {mc : EM} {op op' : CmpOp} {g g' : Val → Val → M Val} (ho : OpM X (compareOp op) g) (ho' : OpM X (compareOp op') g') (ha : PE X a (rdE X.K W ma)) (hb : PE X b (rdE X.K W mb)) (hc : PE X c (rdE X.K W mc))
    (hm : lastMarks [op, op'] [b, c] = false := by with_unfolding_all rfl) : PT X (.Compare a [op, op'] [b, c] pos) (rdT X.K W (tVal (eChain g g' ma mb mc))) := by
  obtain ⟨r, h1, h2⟩ := ho
  obtain ⟨r', h1', h2'⟩ := ho'
  exact (pt_chain h1 h1' ha hb hc hm).imp fun σ H Q q => chain_rd h2 h2' (val_test q)
/-- a value's truth -/
def truth (v : Val) (h : Hc) : Option Bool := match v with
  | .non => some false
  | .bl b => some b
  | .int i => some (decide (i ≠ 0))
  | .str x => if x.length ≤ 16777216 then some (decide (x.length ≠ 0)) else none
  | .ref n => (match h.get n with
    | some (.lst xs) | some (.tup xs) | some (.fz xs) => some (!xs.isEmpty)
    | some (.dic xs) => some (!xs.isEmpty)
    | _ => none)
  | _ => none
theorem truth_ok {ρ : Rho} {h : Hc} {H : Hp} {v : Val} {x : V} {k : Bool} (R : Rel X.K ρ h H) (r : RV X.K ρ v x) (e : truth v h = some k) : TruV X.K x H k := by
  cases v with
  | non => cases r; cases e; rfl
  | bl b => cases r; cases e; rfl
  | int i =>
    cases r
    cases e
    show decide (i ≠ 0) = (i != 0)
    by_cases z : i = 0 <;> simp [z]
  | str y =>
    cases r
    unfold truth at e
    by_cases z : y.length ≤ 16777216
    · simp only [if_pos z] at e
      cases e
      refine ⟨by rw [sizeLine_eq]; exact z, ?_⟩
      by_cases q : y.length = 0 <;> simp [q] <;> omega
    · simp only [if_neg z] at e
      cases e
  | ref n =>
    obtain ⟨p, ep, rfl⟩ := r
    unfold truth at e
    cases hc : h.get n with
    | none => simp [hc] at e
    | some c =>
      have i := R.at ep hc
      cases c with
      | lst xs =>
        simp only [hc] at e
        cases e
        obtain ⟨ys, ry, hy⟩ := i
        refine .inl ⟨ys, .inl (.inl hy), ?_⟩
        cases ry <;> rfl
      | tup xs =>
        simp only [hc] at e
        cases e
        obtain ⟨ys, ry, hy⟩ := i
        refine .inr (.inl ⟨ys, .inl (.inl hy), ?_⟩)
        cases ry <;> rfl
      | fz xs =>
        simp only [hc] at e
        cases e
        obtain ⟨o, ys, ry, hy⟩ := i
        refine .inl ⟨ys, .inl (.inr ⟨o, hy⟩), ?_⟩
        cases ry <;> rfl
      | dic xs =>
        simp only [hc] at e
        cases e
        obtain ⟨ys, ry, hy⟩ := i
        refine .inr (.inr ⟨ys, hy, ?_⟩)
        cases ry <;> rfl
      | ins _ _ => simp [hc] at e
      | xd _ => simp [hc] at e
      | fd _ _ => simp [hc] at e
      | exo _ _ => simp [hc] at e
      | nd _ => simp [hc] at e
  | glo _ => cases e
  | ty _ => cases e
  | exc => cases e
def tTru (m : EM) : TM := fun e h => (m e h).bind fun v h1 => match truth v h1 with
  | some b => .ok b h1
  | none => .bad
theorem st_tru {m : EM} (h : PE X e (rdE X.K W m)) (he : ∀ whole, isTrue e X.env whole = (do let v ← whole; standAt e.pos; holding [v] (truthy v)) := by intro _; rfl) : PT X e (rdT X.K W (tTru m)) := by
  refine (pt_truth h he).imp fun σ H Q ⟨ρ, en, hc, R, rs, p⟩ => ?_
  refine ⟨ρ, en, hc, R, rs, Post.mono (Post.bind (R := RV X.K) p) fun x H1 ⟨ρ1, v, h1, l1, R1, r1, p1⟩ => ?_⟩
  cases q : truth v h1 with
  | none => simp only [q] at p1; exact p1.elim
  | some k =>
    simp only [q] at p1
    exact ⟨k, truth_ok R1 r1 q, p1 ρ1 H1 k (Le.refl _) R1 rfl⟩
def tAnd' (a b : TM) : TM := fun e h => (a e h).bind fun x h1 => match x with
  | true => b e h1
  | false => .ok false h1
def tOr' (a b : TM) : TM := fun e h => (a e h).bind fun x h1 => match x with
  | false => b e h1
  | true => .ok true h1
def tNot' (a : TM) : TM := fun e h => (a e h).bind fun x h1 => .ok (!x) h1
variable {mx my : TM} {rest : List Expr}
theorem sw_and1 (ha : PT X a (rdT X.K W mx)) : PW X (.BoolOp .And [a] pos) (rdT X.K W mx) := pw_and1 ha
theorem sw_or1 (ha : PT X a (rdT X.K W mx)) : PW X (.BoolOp .Or [a] pos) (rdT X.K W mx) := pw_or1 ha
theorem sw_and (ha : PT X a (rdT X.K W mx)) (hb : PW X (.BoolOp .And (b :: rest) pos) (rdT X.K W my)) : PW X (.BoolOp .And (a :: b :: rest) pos) (rdT X.K W (tAnd' mx my)) := by
  refine (pw_and ha hb).imp fun σ H Q ⟨ρ, en, hc, R, rs, p⟩ => ?_
  refine ⟨ρ, en, hc, R, rs, Post.mono (Post.bind (R := RB) p) fun x H1 ⟨ρ1, v, h1, l1, R1, r1, p1⟩ => ?_⟩
  cases r1
  cases x with
  | true =>
    rw [if_pos rfl]
    exact ⟨ρ1, en, h1, R1, RS.mono l1 rs, p1⟩
  | false =>
    rw [if_neg Bool.false_ne_true]
    exact p1 ρ1 H1 _ (Le.refl _) R1 rfl
theorem sw_or (ha : PT X a (rdT X.K W mx)) (hb : PW X (.BoolOp .Or (b :: rest) pos) (rdT X.K W my)) : PW X (.BoolOp .Or (a :: b :: rest) pos) (rdT X.K W (tOr' mx my)) := by
  refine (pw_or ha hb).imp fun σ H Q ⟨ρ, en, hc, R, rs, p⟩ => ?_
  refine ⟨ρ, en, hc, R, rs, Post.mono (Post.bind (R := RB) p) fun x H1 ⟨ρ1, v, h1, l1, R1, r1, p1⟩ => ?_⟩
  cases r1
  cases x with
  | true =>
    rw [if_pos rfl]
    exact p1 ρ1 H1 _ (Le.refl _) R1 rfl
  | false =>
    rw [if_neg Bool.false_ne_true]
    exact ⟨ρ1, en, h1, R1, RS.mono l1 rs, p1⟩
theorem st_not (ha : PT X a (rdT X.K W mx)) : PT X (.UnaryOp .Not a pos) (rdT X.K W (tNot' mx)) := by
  refine (pt_not ha).imp fun σ H Q ⟨ρ, en, hc, R, rs, p⟩ => ?_
  refine ⟨ρ, en, hc, R, rs, Post.mono (Post.bind (R := RB) p) fun x H1 ⟨ρ1, v, h1, l1, R1, r1, p1⟩ => ?_⟩
  cases r1
  exact p1 ρ1 H1 _ (Le.refl _) R1 rfl
/-- a if t else b -/
def eIf (c : TM) (a b : EM) : EM := fun e h => (c e h).bind fun x h1 => match x with
  | true => a e h1
  | false => b e h1
theorem se_if {c : Expr} (hc : PT X c (rdT X.K W mx)) (ha : PE X a (rdE X.K W ma)) (hb : PE X b (rdE X.K W mb)) : PE X (.IfExp c a b pos) (rdE X.K W (eIf mx ma mb)) := by
  refine (pe_ifExp hc ha hb).imp fun σ H Q ⟨ρ, en, hc, R, rs, p⟩ => ?_
  refine ⟨ρ, en, hc, R, rs, Post.mono (Post.bind (R := RB) p) fun x H1 ⟨ρ1, v, h1, l1, R1, r1, p1⟩ => ?_⟩
  cases r1
  cases x with
  | true =>
    rw [if_pos rfl]
    exact ⟨ρ1, en, h1, R1, RS.mono l1 rs, p1⟩
  | false =>
    rw [if_neg Bool.false_ne_true]
    exact ⟨ρ1, en, h1, R1, RS.mono l1 rs, p1⟩
end
end Mr
end
section
set_option Elab.async false
set_option linter.all false
set_option maxRecDepth 100000
set_option maxHeartbeats 2000000
/-! Mr, part 3: and, or, not as values; displays; arguments; fields; calls of defs, methods, classes. -/
namespace Mr
open PySem L2
section
variable {X : Cx} {W : WS} {e a b : Expr} {ma mb : EM} {pos : Pos} {rest : List Expr}

/-! ### and, or, not of any values -/
def eAnd (a b : EM) : EM := fun e h => (a e h).bind fun v h1 => match truth v h1 with
  | some true => b e h1
  | some false => .ok v h1
  | none => .bad
def eOr (a b : EM) : EM := fun e h => (a e h).bind fun v h1 => match truth v h1 with
  | some false => b e h1
  | some true => .ok v h1
  | none => .bad
def eNot (a : EM) : EM := fun e h => (a e h).bind fun v h1 => match truth v h1 with
  | some k => .ok (.bl (!k)) h1
  | none => .bad
theorem se_and1 (ha : PE X a (rdE X.K W ma)) {op} : PE X (.BoolOp op [a] pos) (rdE X.K W ma) := pe_one ha
theorem se_and (ha : PE X a (rdE X.K W ma)) (hb : PE X (.BoolOp .And (b :: rest) pos) (rdE X.K W mb)) : PE X (.BoolOp .And (a :: b :: rest) pos) (rdE X.K W (eAnd ma mb)) := by
  refine (pe_andT ha hb).imp fun σ H Q ⟨ρ, en, hc, R, rs, p⟩ => ?_
  refine ⟨ρ, en, hc, R, rs, Post.mono (Post.bind (R := RV X.K) p) fun x H1 ⟨ρ1, v, h1, l1, R1, r1, p1⟩ => ?_⟩
  cases q : truth v h1 with
  | none => simp only [q] at p1; exact p1.elim
  | some k =>
    simp only [q] at p1
    refine ⟨k, truth_ok R1 r1 q, ?_⟩
    cases k with
    | true => rw [if_pos rfl]; exact ⟨ρ1, en, h1, R1, RS.mono l1 rs, p1⟩
    | false => rw [if_neg Bool.false_ne_true]; exact p1 ρ1 H1 x (Le.refl _) R1 r1
theorem se_or (ha : PE X a (rdE X.K W ma)) (hb : PE X (.BoolOp .Or (b :: rest) pos) (rdE X.K W mb)) : PE X (.BoolOp .Or (a :: b :: rest) pos) (rdE X.K W (eOr ma mb)) := by
  refine (pe_orT ha hb).imp fun σ H Q ⟨ρ, en, hc, R, rs, p⟩ => ?_
  refine ⟨ρ, en, hc, R, rs, Post.mono (Post.bind (R := RV X.K) p) fun x H1 ⟨ρ1, v, h1, l1, R1, r1, p1⟩ => ?_⟩
  cases q : truth v h1 with
  | none => simp only [q] at p1; exact p1.elim
  | some k =>
    simp only [q] at p1
    refine ⟨k, truth_ok R1 r1 q, ?_⟩
    cases k with
    | false => rw [if_neg Bool.false_ne_true]; exact ⟨ρ1, en, h1, R1, RS.mono l1 rs, p1⟩
    | true => rw [if_pos rfl]; exact p1 ρ1 H1 x (Le.refl _) R1 r1
theorem se_not (ha : PE X a (rdE X.K W ma)) : PE X (.UnaryOp .Not a pos) (rdE X.K W (eNot ma)) := by
  refine (pe_notT ha).imp fun σ H Q ⟨ρ, en, hc, R, rs, p⟩ => ?_
  refine ⟨ρ, en, hc, R, rs, Post.mono (Post.bind (R := RV X.K) p) fun x H1 ⟨ρ1, v, h1, l1, R1, r1, p1⟩ => ?_⟩
  cases q : truth v h1 with
  | none => simp only [q] at p1; exact p1.elim
  | some k =>
    simp only [q] at p1
    exact ⟨k, truth_ok R1 r1 q, p1 ρ1 H1 _ (Le.refl _) R1 rfl⟩

/-! ### arguments -/
def aNil : AM := fun _ h => .ok [] h
def aCons (m : EM) (n : AM) : AM := fun e h => (m e h).bind fun v h1 => (n e h1).bind fun vs h2 => .ok (v :: vs) h2
variable {es : List Expr} {mas : AM}
theorem sa_nil : PA X [] (rdA X.K W aNil) := pa_nil.imp fun σ H Q ⟨ρ, en, hc, R, rs, p⟩ => p ρ H [] (Le.refl _) R .nil
theorem sa_cons (ha : PE X e (rdE X.K W ma)) (hr : PA X es (rdA X.K W mas)) (hs : starEach (e :: es) X.env = (false, eval e X.env) :: starEach es X.env := by rfl) : PA X (e :: es) (rdA X.K W (aCons ma mas)) := by
  refine (pa_cons ha hr hs).imp fun σ H Q ⟨ρ, en, hc, R, rs, p⟩ => ?_
  refine ⟨ρ, en, hc, R, rs, Post.mono (Post.bind (R := RV X.K) p) fun x H1 ⟨ρ1, v, h1, l1, R1, r1, p1⟩ => ?_⟩
  refine ⟨ρ1, en, h1, R1, RS.mono l1 rs, Post.mono (Post.bind (R := RVs X.K) p1) fun y H2 ⟨ρ2, u, h2, l2, R2, r2, p2⟩ => ?_⟩
  exact p2 ρ2 H2 _ (Le.refl _) R2 (.cons (r1.mono l2) r2)

/-! ### new cells -/
/-- a new cell is laid -/
theorem laid {ρ : Rho} {h : Hc} {H : Hp} {p : Addr} {o : HO} {c : Cell} {Q : VK} {W : WK} {K : PySem.W.Frag} (R : Rel K ρ h H) (k : Post K (RV K) ρ (.ok (.ref h.n) (h.new c)) Q W) (hp : H p = none) (hi : ∀ ρ', Le ρ ρ' → Img K ρ' (upd H p o) p c) :
    Q (.ref p) (upd H p o) := by
  refine k (ρ.add h.n p) _ _ (R.le_add p) (R.new hp (fun b u e => ?_) (hi _ (R.le_add p))) ⟨p, Rho.add_at _ _ _, rfl⟩
  rw [upd_ne (ne_of_none e hp)]
  exact e
/-- a cell is changed -/
theorem stored {α β : Type} {R0 : Rho → α → β → Prop} {ρ : Rho} {h : Hc} {H : Hp} {n : Nat} {a : Addr} {o : HO} {c : Cell} {v : α} {x : β} {Q : β → Hp → Prop} {W : WK} {K : PySem.W.Frag} (R : Rel K ρ h H) (k : Post K R0 ρ (.ok v (h.put n c)) Q W) (r : R0 ρ v x) (ea : ρ.f n = some a)
    (hi : Img K ρ (upd H a o) a c) : Q x (upd H a o) := k ρ _ _ (Le.refl ρ) (R.put ea hi) r
theorem img_lst {K : PySem.W.Frag} {ρ : Rho} {H : Hp} {p : Addr} {xs : List Val} {ys : List V} (r : RVs K ρ xs ys) : Img K ρ (upd H p (.lst ys)) p (.lst xs) := ⟨ys, r, upd_same⟩
theorem img_tup {K : PySem.W.Frag} {ρ : Rho} {H : Hp} {p : Addr} {xs : List Val} {ys : List V} (r : RVs K ρ xs ys) : Img K ρ (upd H p (.tup ys)) p (.tup xs) := ⟨ys, r, upd_same⟩
theorem img_dic {K : PySem.W.Frag} {ρ : Rho} {H : Hp} {p : Addr} {xs : List (Key × Val)} {ys : List (Key × V)} (r : RPs K ρ xs ys) : Img K ρ (upd H p (.dK ys)) p (.dic xs) := ⟨ys, r, upd_same⟩

def eLst (m : AM) : EM := fun e h => (m e h).bind fun vs h1 => if vs.length ≤ 16777216 then .ok (.ref h1.n) (h1.new (.lst vs)) else .bad
def eTup (m : AM) : EM := fun e h => (m e h).bind fun vs h1 => if vs.length ≤ 16777216 then .ok (.ref h1.n) (h1.new (.tup vs)) else .bad
theorem se_lst (h : PA X es (rdA X.K W mas)) : PE X (.List es pos) (rdE X.K W (eLst mas)) := by
  refine (pe_lst h).imp fun σ H Q ⟨ρ, en, hc, R, rs, p⟩ => ?_
  refine ⟨ρ, en, hc, R, rs, Post.mono (Post.bind (R := RVs X.K) p) fun x H1 ⟨ρ1, v, h1, l1, R1, r1, p1⟩ => ?_⟩
  by_cases z : v.length ≤ 16777216
  · simp only [if_pos z] at p1
    exact ⟨by rw [sizeLine_eq, ← Paired.length r1]; exact z, fun p hp => laid R1 p1 hp fun ρ' l => img_lst (RVs.mono l r1)⟩
  · simp only [if_neg z] at p1
    exact p1.elim
theorem se_tup {x1} (h : PA X es (rdA X.K W mas)) : PE X (.Tuple es x1 pos) (rdE X.K W (eTup mas)) := by
  refine (pe_tup h).imp fun σ H Q ⟨ρ, en, hc, R, rs, p⟩ => ?_
  refine ⟨ρ, en, hc, R, rs, Post.mono (Post.bind (R := RVs X.K) p) fun x H1 ⟨ρ1, v, h1, l1, R1, r1, p1⟩ => ?_⟩
  by_cases z : v.length ≤ 16777216
  · simp only [if_pos z] at p1
    exact ⟨by rw [sizeLine_eq, ← Paired.length r1]; exact z, fun p hp => laid R1 p1 hp fun ρ' l => img_tup (RVs.mono l r1)⟩
  · simp only [if_neg z] at p1
    exact p1.elim

/-! ### fields -/
theorem lookup_pair {K : PySem.W.Frag} {ρ : Rho} {fs : List (Str × Val)} {gs : List (Str × V)} (r : RPs K ρ fs gs) {f : Str} {v : Val} (e : fs.lookup f = some v) : ∃ x, gs.lookup f = some x ∧ RV K ρ v x ∧ ∃ p ∈ fs, p.1 = f := by
  induction r with
  | nil => simp at e
  | @cons p q l1 l2 a _ ih =>
    obtain ⟨n, w⟩ := p
    obtain ⟨n', w'⟩ := q
    obtain ⟨rfl, r⟩ := a
    have r : RV K ρ w w' := r
    rw [List.lookup_cons] at e
    rw [List.lookup_cons]
    by_cases z : (f == n) = true
    · rw [z] at e
      cases e
      have : f = n := by simpa using z
      exact ⟨w', by rw [show (f == (n, v).1) = true from z], r, (n, v), by simp, this.symm⟩
    · have z' : (f == n) = false := by simpa using z
      rw [z'] at e
      obtain ⟨x, h1, h2, p, hp, h3⟩ := ih e
      exact ⟨x, by rw [show (f == (n, w).1) = false from z']; exact h1, h2, p, List.mem_cons_of_mem _ hp, h3⟩
theorem lookup_none {K : PySem.W.Frag} {ρ : Rho} {fs : List (Str × Val)} {gs : List (Str × V)} (r : RPs K ρ fs gs) {f : Str} (e : ∀ p ∈ fs, p.1 ≠ f) : gs.lookup f = none := by
  induction r with
  | nil => rfl
  | @cons p q l1 l2 a _ ih =>
    obtain ⟨n, w⟩ := p
    obtain ⟨n', w'⟩ := q
    obtain ⟨rfl, r⟩ := a
    rw [List.lookup_cons]
    have z : (f == n) = false := by
      have := e (n, w) (by simp)
      simp only [ne_eq] at this
      simp only [beq_eq_false_iff_ne, ne_eq]
      exact fun q => this q.symm
    rw [show (f == (n, w).1) = false from z]
    exact ih fun p hp => e p (List.mem_cons_of_mem _ hp)
def eFld (m : EM) (f : Str) : EM := fun e h => (m e h).bind fun v h1 => match v with
  | .ref n => (match h1.get n with
    | some (.ins _ fs) => (match fs.lookup f with
      | some w => .ok w h1
      | none => .bad)
    | _ => .bad)
  | _ => .bad
theorem se_fld {f : Str} (he : PE X e (rdE X.K W ma)) (hb : attributeBase e f X.env (eval e X.env) = eval e X.env := by rfl) : PE X (.Attribute e f pos) (rdE X.K W (eFld ma f)) := by
  refine (pe_fld he hb).imp fun σ H Q ⟨ρ, en, hc, R, rs, p⟩ => ?_
  refine ⟨ρ, en, hc, R, rs, Post.mono (Post.bind (R := RV X.K) p) fun x H1 ⟨ρ1, v, h1, l1, R1, r1, p1⟩ => ?_⟩
  cases v with
  | ref n =>
    cases q : h1.get n with
    | none => simp only [q] at p1; exact p1.elim
    | some c =>
      cases c with
      | ins C fs =>
        simp only [q] at p1
        cases q2 : fs.lookup f with
        | none => simp only [q2] at p1; exact p1.elim
        | some w =>
          simp only [q2] at p1
          obtain ⟨ad, ea, rfl⟩ := r1
          obtain ⟨dx, gs, rf, hC, cl, na⟩ := R1.at ea q
          obtain ⟨y, ly, ry, pr, hpr, hf⟩ := lookup_pair rf q2
          exact ⟨ad, _, dx, gs, y, rfl, hC, cl, hf ▸ na pr hpr, ly, p1 ρ1 H1 y (Le.refl _) R1 ry⟩
      | _ => simp only [q] at p1; exact p1.elim
  | _ => exact p1.elim

/-! ### what a def promises: its mirror's result -/
def spM (K : PySem.W.Frag) (n : Nat) (f : List Val → M Val) : Sp := fun vs H Q E => ∃ ρ h as, as.length = n ∧ Rel K ρ h H ∧ RVs K ρ as vs ∧ Post K (RV K) ρ (f as h) Q E
/-- the def x of the text can be called: its mirror f, its level k, n parameters, the last of them by the defaults ds -/
structure Can (P : Program) (w : World) (K : PySem.W.Frag) (mg : Str → Option Value) (base : Heap) (k n : Nat) (fa : Addr) (ds : List Val) (f : List Val → M Val) : Prop where
  ex : ∃ (fd : FuncData) (ps : List Str) (dvs : List V) (dus : List Value), FnOk P w K mg base (L2.CX P w) k fa fd ps (spM K n f) ∧ Binds K fd ps dus ∧ Vals dvs dus ∧ ∀ ρ, RVs K ρ ds dvs
  kp : PySem.W.keepIn K (.ref fa) = true
theorem Can.mono {P : Program} {w : World} {K : PySem.W.Frag} {mg : Str → Option Value} {base : Heap} {j k n : Nat} {fa : Addr} {ds : List Val} {f : List Val → M Val} (c : Can P w K mg base j n fa ds f) (h : j ≤ k) : Can P w K mg base k n fa ds f := by
  obtain ⟨⟨fd, ps, dvs, dus, F, b, v, r⟩, kp⟩ := c
  exact ⟨⟨fd, ps, dvs, dus, F.mono h, b, v, r⟩, kp⟩
/-- a def's mirror on so many arguments -/
def callM (n : Nat) (ds : List Val) (f : List Val → M Val) (as : List Val) : M Val := fun h => if (as ++ ds).length = n then f (as ++ ds) h else .bad
variable {k n : Nat} {fa C : Addr} {ds : List Val} {f : List Val → M Val}
theorem run_can {pins : List (Addr × Obj)} {σ : St} {H : Hp} {s : Shared} {Q : VK} {us : List Value} {vs : List V} {as : List Val} {ρ : Rho} {h : Hc} (c : Can X.prog X.w X.K X.mg X.base k n fa ds f) (hr : Room k X.A) (tk : Takes X W)
    (I : Inv X pins σ H s) (r : Vals vs us) (R : Rel X.K ρ h H) (rv : RVs X.K ρ as vs) (p : Post X.K (RV X.K) ρ (callM n ds f as h) Q (fun c d H => W c d σ H)) : wpAny (model X.prog X.w) X.A (call (.ref fa) us) (EP X pins σ Q) X.xe s := by
  obtain ⟨⟨fd, ps, dvs, dus, F, hb, hd, rd⟩, kp⟩ := c
  unfold callM at p
  by_cases z : (as ++ ds).length = n
  · rw [if_pos z] at p
    exact run_fnSD (E := WE W) F hr hb hd (passAt tk σ) I r ⟨ρ, h, as ++ ds, z, R, Paired.append rv (rd ρ), p⟩
  · rw [if_neg z] at p
    exact p.elim
def eCall (n : Nat) (ds : List Val) (f : List Val → M Val) (m : AM) : EM := fun e h => (m e h).bind fun as h1 => callM n ds f as h1
variable {x : Str} {p : Pos}
theorem se_call (c : Can X.prog X.w X.K X.mg X.base k n fa ds f) (hr : Room k X.A) (tk : Takes X W) (hm : X.mg x = some (.ref fa)) (ha : PA X (e :: es) (rdA X.K W mas)) (hg : Gl X x := by rfl) (hdb : (x == ("__debug__" : Str)) = false := by decide)
    (he : starEach (e :: es) X.env = (false, eval e X.env) :: starEach es X.env := by rfl) (hpl : (backTo pos (starEach es X.env)).any (·.1) = false := by rfl) : PE X (.Call (.Name x p) (e :: es) [] pos) (rdE X.K W (eCall n ds f mas)) := by
  refine ⟨fun pins s σ H Q I ⟨ρ, en, hc, R, rs, q⟩ => ?_⟩
  refine wpAny_Call_Name_kw (ld_glob I hg hm ?_ hdb)
  refine PySem.W.callWith_K (h₀ := X.base) I.ok.mod.kin c.kp (thn (ha.run pos pins s σ H _ I ⟨ρ, en, hc, R, rs, Post.bind (R := RVs X.K) q⟩) fun us s1 ⟨vs, H1, I1, r, ρ1, as, h1, l1, R1, r1, q1⟩ => ⟨I1.kIn, ?_⟩) he hpl
  exact run_can c hr tk I1 r R1 r1 q1
theorem se_call0 (c : Can X.prog X.w X.K X.mg X.base k n fa ds f) (hr : Room k X.A) (tk : Takes X W) (hm : X.mg x = some (.ref fa)) (hg : Gl X x := by rfl) (hdb : (x == ("__debug__" : Str)) = false := by decide) : PE X (.Call (.Name x p) [] [] pos) (rdE X.K W (eCall n ds f aNil)) := by
  refine ⟨fun pins s σ H Q I ⟨ρ, en, hc, R, rs, q⟩ => ?_⟩
  refine wpAny_Call_Name_kw (ld_glob I hg hm ?_ hdb)
  exact PySem.W.callWith_K0 I.kIn c.kp (run_can (as := []) (us := []) c hr tk I .nil R .nil q)

/-! ### methods, by the object's class -/
/-- the ways of a method: the class's name, the defaults, the mirror -/
abbrev Disp := List (Str × Nat × List Val × (List Val → M Val))
def dispM (t : Disp) (v : Val) (as : List Val) : M Val := fun h => match v with
  | .ref n => (match h.get n with
    | some (.ins C _) => (match t.lookup C with
      | some (n, ds, f) => callM n ds f (v :: as) h
      | none => .bad)
    | _ => .bad)
  | _ => .bad
structure CanD (P : Program) (w : World) (K : PySem.W.Frag) (mg : Str → Option Value) (base : Heap) (k : Nat) (m : Str) (t : Disp) : Prop where
  ex : ∀ C n ds f, t.lookup C = some (n, ds, f) → ∃ fa, Meth K (He.ga K C) m fa ∧ Can P w K mg base k n fa ds f
theorem CanD.nil {P : Program} {w : World} {K : PySem.W.Frag} {mg : Str → Option Value} {base : Heap} {k : Nat} {m : Str} : CanD P w K mg base k m [] := ⟨fun C n ds f e => by cases e⟩
theorem CanD.cons {P : Program} {w : World} {K : PySem.W.Frag} {mg : Str → Option Value} {base : Heap} {j k n : Nat} {m C : Str} {fa : Addr} {ds : List Val} {f : List Val → M Val} {t : Disp} (hm : Meth K (He.ga K C) m fa) (c : Can P w K mg base j n fa ds f)
    (r : CanD P w K mg base k m t) (hj : j ≤ k) : CanD P w K mg base k m ((C, n, ds, f) :: t) := ⟨fun D n' ds' f' e => by
  rw [List.lookup_cons] at e
  by_cases z : (D == C) = true
  · rw [z] at e
    cases e
    have : D = C := by simpa using z
    subst this
    exact ⟨fa, hm, c.mono hj⟩
  · rw [show (D == C) = false by simpa using z] at e
    exact r.ex _ _ _ _ e⟩
variable {t : Disp} {o : Expr} {m : Str} {mo : EM} {apos : Pos}
theorem run_disp {pins : List (Addr × Obj)} {σ : St} {H : Hp} {s : Shared} {Q : VK} {u : Value} {us : List Value} {xo : V} {vs : List V} {vo : Val} {as : List Val} {ρ : Rho} {h : Hc} (c : CanD X.prog X.w X.K X.mg X.base k m t) (hr : Room k X.A) (tk : Takes X W)
    (I : Inv X pins σ H s) (ro : RelV xo u) (r : Vals vs us) (R : Rel X.K ρ h H) (rvo : RV X.K ρ vo xo) (rv : RVs X.K ρ as vs) (p : Post X.K (RV X.K) ρ (dispM t vo as h) Q (fun c d H => W c d σ H)) :
    ∃ n C fs n' ds f fa, vo = .ref n ∧ h.get n = some (.ins C fs) ∧ t.lookup C = some (n', ds, f) ∧ Meth X.K (He.ga X.K C) m fa ∧ Can X.prog X.w X.K X.mg X.base k n' fa ds f ∧ wpAny (model X.prog X.w) X.A (call (.ref fa) (u :: us)) (EP X pins σ Q) X.xe s := by
  cases vo with
  | ref n =>
    unfold dispM at p
    cases q : h.get n with
    | none => simp only [q] at p; exact p.elim
    | some c' =>
      cases c' with
      | ins C fs =>
        simp only [q] at p
        cases q2 : t.lookup C with
        | none => simp only [q2] at p; exact p.elim
        | some w =>
          obtain ⟨n', ds, f⟩ := w
          simp only [q2] at p
          obtain ⟨fa, hm, hc⟩ := c.ex C n' ds f q2
          exact ⟨n, C, fs, n', ds, f, fa, rfl, q, q2, hm, hc, run_can (vs := xo :: vs) (us := u :: us) hc hr tk I (.cons ro r) R (.cons rvo rv) p⟩
      | _ => simp only [q] at p; exact p.elim
  | _ => exact p.elim
/-- the class that a receiver has, told before the arguments are read -/
def eMeth (t : Disp) (mo : EM) (m : AM) : EM := fun e h => (mo e h).bind fun v h1 => match v with
  | .ref n => (match h1.get n with
    | some (.ins C _) => (match t.lookup C with
      | some (k, ds, f) => (m e h1).bind fun as h2 => callM k ds f (v :: as) h2
      | none => .bad)
    | _ => .bad)
  | _ => .bad
theorem no_field {K : PySem.W.Frag} {ρ : Rho} {fs : List (Str × Val)} {gs : List (Str × V)} {C fa : Addr} (r : RPs K ρ fs gs) (na : ∀ p ∈ fs, NoAttr K C p.1) (hm : Meth K C m fa) : gs.lookup m = none := lookup_none r fun p hp e => by
  have h1 := na p hp
  rw [e] at h1
  have h2 : PySem.W.findIn K (.ref C) m = some none := h1
  rw [hm.at_] at h2
  cases h2
theorem se_meth {pl : Sem Bool} (he : PE X o (rdE X.K W mo)) (c : CanD X.prog X.w X.K X.mg X.base k m t) (hr : Room k X.A) (tk : Takes X W) (ha : PA X (e :: es) (rdA X.K W mas))
    (hst : starEach (e :: es) X.env = (false, eval e X.env) :: starEach es X.env := by rfl) (hpl : (backTo pos (starEach es X.env)).any (·.1) = false := by rfl)
    (ht : eval (.Call (.Attribute o m apos) (e :: es) [] pos) X.env = (do
      let ov ← eval o X.env
      standAt apos.atName
      let (f, first) ← holding [ov] (getMethod ov m pl)
      callWith pos f first (backTo pos (starEach (e :: es) X.env)) (backToKw pos (keywordEach [] X.env))) := by rfl) :
    PE X (.Call (.Attribute o m apos) (e :: es) [] pos) (rdE X.K W (eMeth t mo mas)) := by
  refine ⟨fun pins s σ H Q I ⟨ρ, en, hc, R, rs, q⟩ => ?_⟩
  refine PySem.W.methodCall_KW (pl := pl) (thn (he.run pins s σ H _ I ⟨ρ, en, hc, R, rs, Post.bind (R := RV X.K) q⟩) fun u s1 ⟨x, H1, I1, rx, ρ1, v, h1, l1, R1, r1, q1⟩ => ?_) ht
  cases v with
  | ref n =>
    cases z : h1.get n with
    | none => simp only [z] at q1; exact q1.elim
    | some cl =>
      cases cl with
      | ins C fs =>
        simp only [z] at q1
        cases z2 : t.lookup C with
        | none => simp only [z2] at q1; exact q1.elim
        | some w =>
          obtain ⟨n', ds, f⟩ := w
          simp only [z2] at q1
          obtain ⟨fa, hm, can⟩ := c.ex C n' ds f z2
          obtain ⟨ad, ea, rfl⟩ := r1
          obtain rfl : u = Value.ref ad := rx
          obtain ⟨dx, gs, rf, hC, cls, na⟩ := R1.at ea z
          refine getmeth_ok I1 hC cls hm (no_field rf na hm) ?_
          refine PySem.W.callWith_K (first := [.ref ad]) (h₀ := X.base) I.ok.mod.kin hm.kp (thn (ha.run pos pins s1 σ H1 _ I1 ⟨ρ1, en, h1, R1, RS.mono l1 rs, Post.bind (R := RVs X.K) q1⟩) fun us s2 ⟨vs, H2, I2, r, ρ2, as, h2, l2, R2, r2, q2⟩ => ⟨I2.kIn, ?_⟩) hst hpl
          exact run_can (vs := .ref ad :: vs) (us := .ref ad :: us) (as := .ref n :: as) can hr tk I2 (.cons rfl r) R2 (.cons ⟨ad, l2.f _ _ ea, rfl⟩ r2) q2
      | _ => simp only [z] at q1; exact q1.elim
  | _ => exact q1.elim
theorem se_meth0 {pl : Sem Bool} (he : PE X o (rdE X.K W mo)) (c : CanD X.prog X.w X.K X.mg X.base k m t) (hr : Room k X.A) (tk : Takes X W)
    (ht : eval (.Call (.Attribute o m apos) [] [] pos) X.env = (do
      let ov ← eval o X.env
      standAt apos.atName
      let (f, first) ← holding [ov] (getMethod ov m pl)
      callWith pos f first (backTo pos (starEach [] X.env)) (backToKw pos (keywordEach [] X.env))) := by rfl) :
    PE X (.Call (.Attribute o m apos) [] [] pos) (rdE X.K W (eMeth t mo aNil)) := by
  refine ⟨fun pins s σ H Q I ⟨ρ, en, hc, R, rs, q⟩ => ?_⟩
  refine PySem.W.methodCall_KW (pl := pl) (thn (he.run pins s σ H _ I ⟨ρ, en, hc, R, rs, Post.bind (R := RV X.K) q⟩) fun u s1 ⟨x, H1, I1, rx, ρ1, v, h1, l1, R1, r1, q1⟩ => ?_) ht
  cases v with
  | ref n =>
    cases z : h1.get n with
    | none => simp only [z] at q1; exact q1.elim
    | some cl =>
      cases cl with
      | ins C fs =>
        simp only [z] at q1
        cases z2 : t.lookup C with
        | none => simp only [z2] at q1; exact q1.elim
        | some w =>
          obtain ⟨n', ds, f⟩ := w
          simp only [z2] at q1
          obtain ⟨fa, hm, can⟩ := c.ex C n' ds f z2
          obtain ⟨ad, ea, rfl⟩ := r1
          obtain rfl : u = Value.ref ad := rx
          obtain ⟨dx, gs, rf, hC, cls, na⟩ := R1.at ea z
          refine getmeth_ok I1 hC cls hm (no_field rf na hm) ?_
          exact PySem.W.callWith_K0 (first := [.ref ad]) I1.kIn hm.kp (run_can (vs := [.ref ad]) (us := [.ref ad]) (as := [.ref n]) can hr tk I1 (.cons rfl .nil) R1 (.cons ⟨ad, ea, rfl⟩ .nil) q1)
      | _ => simp only [z] at q1; exact q1.elim
  | _ => exact q1.elim

/-! ### a class is called -/
def makeM (C : Str) (n : Nat) (ds : List Val) (f : List Val → M Val) (as : List Val) : M Val := fun h => (callM n ds f (.ref h.n :: as) (h.new (.ins C []))).bind fun v h2 => if v = .non then .ok (.ref h.n) h2 else .bad
def eMake (C : Str) (n : Nat) (ds : List Val) (f : List Val → M Val) (m : AM) : EM := fun e h => (m e h).bind fun as h1 => makeM C n ds f as h1
theorem run_new {C : Str} {pins : List (Addr × Obj)} {σ : St} {H : Hp} {s : Shared} {Q : VK} {us : List Value} {vs : List V} {as : List Val} {ρ : Rho} {h : Hc} (cl : Cls X.K (He.ga X.K C)) (Mk : L2.Mk X.K (He.ga X.K C) fa) (c : Can X.prog X.w X.K X.mg X.base k n fa ds f)
    (hr : Room (k + 1) X.A) (tk : Takes X W) (I : Inv X pins σ H s) (r : Vals vs us) (R : Rel X.K ρ h H) (rv : RVs X.K ρ as vs) (p : Post X.K (RV X.K) ρ (makeM C n ds f as h) Q (fun c d H => W c d σ H)) :
    wpAny (model X.prog X.w) X.A (call (.ref (He.ga X.K C)) us) (EP X pins σ Q) X.xe s := by
  obtain ⟨⟨fd, ps, dvs, dus, F, hb, hd, rd⟩, kp⟩ := c
  have hx := passAt tk σ
  have n1 : H (s.heap.objs.size + 1) = none := I.hok.fresh (Nat.le_succ _)
  have n2 : H s.heap.objs.size = none := I.hok.fresh (Nat.le_refl _)
  have R2 : Rel X.K (ρ.add h.n (s.heap.objs.size + 1)) (h.new (.ins C [])) (upd (upd H s.heap.objs.size (.own (s.heap.objs.size + 1))) (s.heap.objs.size + 1) (.ins (He.ga X.K C) s.heap.objs.size [])) := R.new n1 (fun b o e => by rw [upd_ne (ne_of_none e n1), upd_ne (ne_of_none e n2)]; exact e) ⟨s.heap.objs.size, [], .nil, upd_same, cl, fun p hp => by cases hp⟩
  have l2 := R.le_add (s.heap.objs.size + 1)
  unfold makeM callM at p
  by_cases z : (.ref h.n :: as ++ ds).length = n
  · rw [if_pos z] at p
    have hq : spM X.K n f (.ref (s.heap.objs.size + 1) :: (vs ++ dvs)) (upd (upd H s.heap.objs.size (.own (s.heap.objs.size + 1))) (s.heap.objs.size + 1) (.ins (He.ga X.K C) s.heap.objs.size [])) (fun v H2 => v = .non ∧ Q (.ref (s.heap.objs.size + 1)) H2) (WE W σ) := by
      refine ⟨ρ.add h.n (s.heap.objs.size + 1), _, .ref h.n :: as ++ ds, z, R2, .cons ⟨s.heap.objs.size + 1, Rho.add_at _ _ _, rfl⟩ (Paired.append (RVs.mono l2 rv) (rd _)), ?_⟩
      refine Post.mono (Post.bind (R := RV X.K) (Post.later p l2)) fun v H2 ⟨ρ3, u, h3, l3, R3, r3, p3⟩ => ?_
      by_cases y : u = .non
      · subst y
        have p3 : Post X.K (RV X.K) ρ3 (.ok (.ref h.n) h3) Q (WE W σ) := p3
        exact ⟨r3, p3 ρ3 H2 _ (Le.refl _) R3 ⟨s.heap.objs.size + 1, l3.f _ _ (Rho.add_at _ _ _), rfl⟩⟩
      · simp only [if_neg y] at p3
        exact p3.elim
    have I2 := Inv.made (C := He.ga X.K C) I
    have r2 : Vals (V.ref (s.heap.objs.size + 1) :: (vs ++ dvs)) (Value.ref (s.heap.objs.size + 1) :: (us ++ dus)) := .cons rfl (r.append hd)
    have hl : (Value.ref (s.heap.objs.size + 1) :: us ++ dus).length = ps.length := by
      have e := r2.length
      rw [F.len _ _ _ _ hq] at e
      exact e.symm
    refine wpAny_call (make_map (f := fa) I.kIn Mk.makes Mk.init (beq_iff_eq.mp Mk.fn) (codeAny_mono (F.run _ X.stack _ _ ⟨Value.ref (s.heap.objs.size + 1) :: us, []⟩ (Value.ref (s.heap.objs.size + 1) :: (us ++ dus)) _ _ (WE W σ) (hr.make _ us [])
      (I2.env0.make _ us []) (hb _ (Value.ref (s.heap.objs.size + 1) :: us) I2.kIn hl) r2 hq) fun r s' hq' => ?_))
    cases r with
    | error e => exact hx pins _ _ e s' I2 hq'
    | ok fl =>
      cases fl with
      | ret u =>
        obtain ⟨v, H', I3, rv, ev, q3⟩ := I2.after hq'
        subst ev
        exact ⟨rv, ⟨V.ref (s.heap.objs.size + 1), H', I3, rfl, q3⟩⟩
      | next => exact False.elim hq'
      | brk => exact False.elim hq'
      | cont => exact False.elim hq'
  · rw [if_neg z] at p
    exact p.elim
theorem se_make {C : Str} (cl : Cls X.K (He.ga X.K C)) (Mk : L2.Mk X.K (He.ga X.K C) fa) (c : Can X.prog X.w X.K X.mg X.base k n fa ds f) (hr : Room (k + 1) X.A) (tk : Takes X W) (hm : X.mg C = some (.ref (He.ga X.K C))) (ha : PA X (e :: es) (rdA X.K W mas))
    (hg : Gl X C := by rfl) (hdb : (C == ("__debug__" : Str)) = false := by decide) (he : starEach (e :: es) X.env = (false, eval e X.env) :: starEach es X.env := by rfl) (hpl : (backTo pos (starEach es X.env)).any (·.1) = false := by rfl) :
    PE X (.Call (.Name C p) (e :: es) [] pos) (rdE X.K W (eMake C n ds f mas)) := by
  refine ⟨fun pins s σ H Q I ⟨ρ, en, hc, R, rs, q⟩ => ?_⟩
  refine wpAny_Call_Name_kw (ld_glob I hg hm ?_ hdb)
  refine PySem.W.callWith_K (h₀ := X.base) I.ok.mod.kin Mk.kp (thn (ha.run pos pins s σ H _ I ⟨ρ, en, hc, R, rs, Post.bind (R := RVs X.K) q⟩) fun us s1 ⟨vs, H1, I1, r, ρ1, as, h1, l1, R1, r1, q1⟩ => ⟨I1.kIn, ?_⟩) he hpl
  exact run_new cl Mk c hr tk I1 r R1 r1 q1
theorem se_make0 {C : Str} (cl : Cls X.K (He.ga X.K C)) (Mk : L2.Mk X.K (He.ga X.K C) fa) (c : Can X.prog X.w X.K X.mg X.base k n fa ds f) (hr : Room (k + 1) X.A) (tk : Takes X W) (hm : X.mg C = some (.ref (He.ga X.K C)))
    (hg : Gl X C := by rfl) (hdb : (C == ("__debug__" : Str)) = false := by decide) : PE X (.Call (.Name C p) [] [] pos) (rdE X.K W (eMake C n ds f aNil)) := by
  refine ⟨fun pins s σ H Q I ⟨ρ, en, hc, R, rs, q⟩ => ?_⟩
  refine wpAny_Call_Name_kw (ld_glob I hg hm ?_ hdb)
  exact PySem.W.callWith_K0 I.kIn Mk.kp (run_new (as := []) (us := []) cl Mk c hr tk I .nil R .nil q)
end
end Mr
end
section
set_option Elab.async false
set_option linter.all false
set_option maxRecDepth 100000
set_option maxHeartbeats 2000000
/-! Mr, part 4: statements, loops, a def as a whole. -/
namespace Mr
open PySem PySem.Spec PyProof.Rows L2
def rdS (K : PySem.W.Frag) (W : WS) (m : SM) : TS := fun D σ H => ∃ ρ e h, Rel K ρ h H ∧ RS K ρ e σ ∧ PostS K ρ (m e h) D W
abbrev GM := Val → Env → M Env
abbrev GsM := List Val → Env → M Env
def rdG (K : PySem.W.Frag) (W : WS) (m : GM) : TG := fun x σ H Q => ∃ ρ v e h, Rel K ρ h H ∧ RV K ρ v x ∧ RS K ρ e σ ∧ Post K (RS K) ρ (m v e h) Q (fun c d H => W c d σ H)
def rdGs (K : PySem.W.Frag) (W : WS) (m : GsM) : TGs := fun xs σ H Q => ∃ ρ vs e h, Rel K ρ h H ∧ RVs K ρ vs xs ∧ RS K ρ e σ ∧ Post K (RS K) ρ (m vs e h) Q (fun c d H => W c d σ H)
section
variable {X : Cx} {W : WS} {e a b : Expr} {ma mb : EM} {pos : Pos} {rest : List Expr} {st : Stmt} {sts : List Stmt} {ms mt : SM} {mx : TM}
theorem _root_.L2.PS.imp {t t' : TS} (h : PS X st t) (i : ∀ D σ H, t' D σ H → t D σ H) : PS X st t' := ⟨fun pins s σ H D I q => h.run pins s σ H D I (i _ _ _ q)⟩
theorem _root_.L2.PSs.imp {t t' : TS} (h : PSs X sts t) (i : ∀ D σ H, t' D σ H → t D σ H) : PSs X sts t' := ⟨fun pins s σ H D I q => h.run pins s σ H D I (i _ _ _ q)⟩
theorem _root_.L2.PG.imp {t t' : TG} (h : PG X e t) (i : ∀ v σ H Q, t' v σ H Q → t v σ H Q) : PG X e t' := ⟨fun pins s σ H v u Q I r q => h.run pins s σ H v u Q I r (i _ _ _ _ q)⟩
theorem _root_.L2.PG.any {t' : TG} (i : ∀ v σ H Q, t' v σ H Q → ∃ t, PG X e t ∧ t v σ H Q) : PG X e t' := ⟨fun pins s σ H v u Q I r q => by
  obtain ⟨t, h, q'⟩ := i _ _ _ _ q
  exact h.run pins s σ H v u Q I r q'⟩
theorem _root_.L2.PGs.imp {es : List Expr} {t t' : TGs} (h : PGs X es t) (i : ∀ v σ H Q, t' v σ H Q → t v σ H Q) : PGs X es t' := ⟨fun pins s σ H v u Q I r q => h.run pins s σ H v u Q I r (i _ _ _ _ q)⟩

/-! ### blocks -/
def sNil : SM := fun e h => .nx e h
def sSeq (a b : SM) : SM := fun e h => match a e h with
  | .nx e1 h1 => b e1 h1
  | r => r
theorem ss_nil : PSs X [] (rdS X.K W sNil) := pss_nil.imp fun D σ H ⟨ρ, en, hc, R, rs, p⟩ => p ρ H σ (Le.refl ρ) R rs
/-- the first of two statements -/
theorem seq_step {ρ : Rho} {en : Env} {hc : Hc} {D : Ends} (p : PostS X.K ρ (sSeq ms mt en hc) D W) : PostS X.K ρ (ms en hc) { D with nx := rdS X.K W mt D } W := by
  unfold sSeq at p
  cases q : ms en hc with
  | nx e1 h1 =>
    simp only [q] at p
    exact fun ρ' H' σ' l R rs => ⟨ρ', e1, h1, R, rs, PostS.later p l⟩
  | rt v h1 => simp only [q] at p; exact p
  | bk v h1 => simp only [q] at p; exact p
  | ct v h1 => simp only [q] at p; exact p
  | exc c d v h1 => simp only [q] at p; exact p
  | bad => simp only [q] at p; exact p
theorem ss_cons (h1 : PS X st (rdS X.K W ms)) (h2 : PSs X sts (rdS X.K W mt)) : PSs X (st :: sts) (rdS X.K W (sSeq ms mt)) := (pss_cons h1 h2).imp fun D σ H ⟨ρ, en, hc, R, rs, p⟩ => ⟨ρ, en, hc, R, rs, seq_step p⟩
theorem ss_one (h1 : PS X st (rdS X.K W ms)) : PSs X [st] (rdS X.K W ms) := pss_one h1
def sBreak : SM := fun e h => .bk e h
def sCont : SM := fun e h => .ct e h
theorem s_pass : PS X (.Pass pos) (rdS X.K W sNil) := ps_pass.imp fun D σ H ⟨ρ, en, hc, R, rs, p⟩ => p ρ H σ (Le.refl ρ) R rs
theorem s_break : PS X (.Break pos) (rdS X.K W sBreak) := ps_break.imp fun D σ H ⟨ρ, en, hc, R, rs, p⟩ => p ρ H σ (Le.refl ρ) R rs
theorem s_cont : PS X (.Continue pos) (rdS X.K W sCont) := ps_continue.imp fun D σ H ⟨ρ, en, hc, R, rs, p⟩ => p ρ H σ (Le.refl ρ) R rs
def sExpr (m : EM) : SM := fun e h => (m e h).into e fun _ h1 => .nx e h1
theorem s_expr (he : PE X e (rdE X.K W ma)) (hs : swapsWith e none pos.line X.env = pure false := by rfl) : PS X (.Expr e pos) (rdS X.K W (sExpr ma)) := by
  refine (ps_expr he hs).imp fun D σ H ⟨ρ, en, hc, R, rs, p⟩ => ?_
  refine ⟨ρ, en, hc, R, rs, Post.mono (PostS.into (R := RV X.K) p rs) fun x H1 ⟨ρ1, v, h1, l1, R1, r1, p1⟩ => ?_⟩
  exact p1 ρ1 H1 σ (Le.refl _) R1 (RS.mono l1 rs)
def sRet (m : EM) : SM := fun e h => (m e h).into e fun v h1 => .rt v h1
def sRetN : SM := fun _ h => .rt .non h
theorem s_ret (he : PE X e (rdE X.K W ma)) : PS X (.Return (some e) pos) (rdS X.K W (sRet ma)) := by
  refine (ps_ret he).imp fun D σ H ⟨ρ, en, hc, R, rs, p⟩ => ?_
  refine ⟨ρ, en, hc, R, rs, Post.mono (PostS.into (R := RV X.K) p rs) fun x H1 ⟨ρ1, v, h1, l1, R1, r1, p1⟩ => ?_⟩
  exact p1 ρ1 H1 x (Le.refl _) R1 r1
theorem s_retN : PS X (.Return none pos) (rdS X.K W sRetN) := ps_retN.imp fun D σ H ⟨ρ, en, hc, R, rs, p⟩ => p ρ H .non (Le.refl ρ) R rfl
def sIf (c : TM) (a b : SM) : SM := fun e h => (c e h).into e fun k h1 => match k with
  | true => a e h1
  | false => b e h1
theorem s_if {c : Expr} {as bs : List Stmt} (hc : PT X c (rdT X.K W mx)) (ha : PSs X as (rdS X.K W ms)) (hb : PSs X bs (rdS X.K W mt)) : PS X (.If c as bs pos) (rdS X.K W (sIf mx ms mt)) := by
  refine (ps_if hc ha hb).imp fun D σ H ⟨ρ, en, hc, R, rs, p⟩ => ?_
  refine ⟨ρ, en, hc, R, rs, Post.mono (PostS.into (R := RB) p rs) fun x H1 ⟨ρ1, v, h1, l1, R1, r1, p1⟩ => ?_⟩
  cases r1
  cases x with
  | true => rw [if_pos rfl]; exact ⟨ρ1, en, h1, R1, RS.mono l1 rs, p1⟩
  | false => rw [if_neg Bool.false_ne_true]; exact ⟨ρ1, en, h1, R1, RS.mono l1 rs, p1⟩
/-- a statement that is never reached -/
def sNever : SM := fun _ _ => .bad
theorem s_never : PS X st (rdS X.K W sNever) := ps_never.imp fun D σ H ⟨ρ, en, hc, R, rs, p⟩ => p

/-! ### targets -/
def gNm (i : Nat) : GM := fun v e h => .ok (e.set i (some v)) h
theorem sg_name {i : Nat} (hg : PG X e (gName i)) : PG X e (rdG X.K W (gNm i)) := hg.imp fun x σ H Q ⟨ρ, v, en, hc, R, r, rs, p⟩ => p ρ H _ (Le.refl _) R (RS.set rs r i)
def gsNil : GsM := fun vs e h => match vs with
  | [] => .ok e h
  | _ => .bad
def gsCons (g : GM) (gs : GsM) : GsM := fun vs e h => match vs with
  | v :: r => (g v e h).bind fun e1 h1 => gs r e1 h1
  | [] => .bad
variable {g : GM} {gs : GsM}
theorem sgs_nil : PGs X [] (rdGs X.K W gsNil) := pgs_nil.imp fun xs σ H Q ⟨ρ, vs, en, hc, R, r, rs, p⟩ => by
  cases vs with
  | nil =>
    cases r
    exact ⟨rfl, p ρ H σ (Le.refl _) R rs⟩
  | cons _ _ => exact p.elim
/-- the wish of an error does not look at the slots that the target stores (it raises nothing behind its first store) -/
theorem sgs_cons {es : List Expr} (h1 : PG X e (rdG X.K W g)) (h2 : PGs X es (rdGs X.K W gs)) (hg : ∀ vs en h, (∃ en' h', gs vs en h = .ok en' h') ∨ gs vs en h = .bad)
    (hs : (assignEach (e :: es) X.env).map (·.2) = assign e X.env :: (assignEach es X.env).map (·.2) := by rfl) : PGs X (e :: es) (rdGs X.K W (gsCons g gs)) := by
  refine (pgs_cons h1 h2 hs).imp fun xs σ H Q ⟨ρ, vs, en, hc, R, r, rs, p⟩ => ?_
  cases r with
  | nil => exact p.elim
  | @cons v x vs' xs' r rr =>
    refine ⟨x, xs', rfl, ρ, v, en, hc, R, r, rs, Post.mono (Post.bind (R := RS X.K) p) fun σ1 H1 ⟨ρ1, e1, h1, l1, R1, rs1, p1⟩ => ?_⟩
    refine ⟨ρ1, vs', e1, h1, R1, RVs.mono l1 rr, rs1, ?_⟩
    rcases hg vs' e1 h1 with ⟨e2, h2, q⟩ | q
    · simp only [q] at p1 ⊢
      exact p1
    · simp only [q] at p1 ⊢
      exact p1
theorem gs_nil_ok : ∀ vs en h, (∃ en' h', gsNil vs en h = .ok en' h') ∨ gsNil vs en h = .bad := fun vs en h => by
  cases vs with
  | nil => exact .inl ⟨_, _, rfl⟩
  | cons _ _ => exact .inr rfl
theorem gs_name_ok {i : Nat} (hg : ∀ vs en h, (∃ en' h', gs vs en h = .ok en' h') ∨ gs vs en h = .bad) : ∀ vs en h, (∃ en' h', gsCons (gNm i) gs vs en h = .ok en' h') ∨ gsCons (gNm i) gs vs en h = .bad := fun vs en h => by
  cases vs with
  | nil => exact .inr rfl
  | cons v r => exact hg r _ h
/-- a, b = a tuple -/
def gTp (n : Nat) (gs : GsM) : GM := fun v e h => match v with
  | .ref k => (match h.get k with
    | some (.tup xs) => if xs.length = n then gs xs e h else .bad
    | _ => .bad)
  | _ => .bad
theorem sg_tup {n : Nat} (hg : PG X e (gTup X.K n (rdGs X.K W gs))) : PG X e (rdG X.K W (gTp n gs)) := by
  refine hg.imp fun x σ H Q ⟨ρ, v, en, hc, R, r, rs, p⟩ => ?_
  cases v with
  | ref k =>
    cases q : hc.get k with
    | none => simp only [gTp, q] at p; exact p.elim
    | some c =>
      cases c with
      | tup xs =>
        simp only [gTp, q] at p
        obtain ⟨ad, ea, rfl⟩ := r
        obtain ⟨ys, ry, hy⟩ := R.at ea q
        by_cases z : xs.length = n
        · rw [if_pos z] at p
          exact ⟨ad, ys, rfl, .inl (.inl hy), by rw [← Paired.length ry]; exact z, ρ, xs, en, hc, R, ry, rs, p⟩
        · rw [if_neg z] at p
          exact p.elim
      | _ => simp only [gTp, q] at p; exact p.elim
  | _ => exact p.elim
def sAsg (m : EM) (g : GM) : SM := fun e h => (m e h).into e fun v h1 => (g v e h1).into e fun e1 h2 => .nx e1 h2
theorem asg_rd {m : EM} {g : GM} {D : Ends} {σ : L2.St} {H : Hp} (h : rdS X.K W (sAsg m g) D σ H) : tAsg (rdE X.K W m) (rdG X.K W g) D σ H := by
  obtain ⟨ρ, en, hc, R, rs, p⟩ := h
  refine ⟨ρ, en, hc, R, rs, Post.mono (PostS.into (R := RV X.K) p rs) fun x H1 ⟨ρ1, v, h1, l1, R1, r1, p1⟩ => ?_⟩
  refine ⟨ρ1, v, en, h1, R1, r1, RS.mono l1 rs, Post.mono (PostS.into (R := RS X.K) p1 (RS.mono l1 rs)) fun σ2 H2 ⟨ρ2, e2, h2, l2, R2, r2, p2⟩ => ?_⟩
  exact p2 ρ2 H2 σ2 (Le.refl _) R2 r2
theorem s_asg {tg : Expr} (he : PE X e (rdE X.K W ma)) (hg : PG X tg (rdG X.K W g)) (hs : swapsWithSole [tg] e pos.line X.env = pure false := by rfl) (hw : swappedStores [tg] e X.env = pure none := by rfl) (h1 : (assignEach [tg] X.env).map (·.2) = [assign tg X.env] := by rfl) : PS X (.Assign [tg] e pos) (rdS X.K W (sAsg ma g)) :=
  (ps_asg he hg hs hw h1).imp fun D σ H q => asg_rd q
/-- any statement that is an assignment by its reading -/
theorem s_asg' {m : EM} {i : Nat} (h : PS X st (tAsg (rdE X.K W m) (gName i))) : PS X st (rdS X.K W (sAsg m (gNm i))) := h.imp fun D σ H q => by
  obtain ⟨ρ, en, hc, R, rs, p⟩ := q
  refine ⟨ρ, en, hc, R, rs, Post.mono (PostS.into (R := RV X.K) p rs) fun x H1 ⟨ρ1, v, h1, l1, R1, r1, p1⟩ => ?_⟩
  exact p1 ρ1 H1 _ (Le.refl _) R1 (RS.set (RS.mono l1 rs) r1 i)
/-- a, b = x, y -/
def sPar (i j : Nat) (m : AM) : SM := fun e h => (m e h).into e fun vs h1 => match vs with
  | [v, w] => .nx ((e.set i (some v)).set j (some w)) h1
  | _ => .bad
theorem s_par {i j : Nat} {m : AM} (h : PS X st (tPar i j (rdA X.K W m))) : PS X st (rdS X.K W (sPar i j m)) := h.imp fun D σ H q => by
  obtain ⟨ρ, en, hc, R, rs, p⟩ := q
  refine ⟨ρ, en, hc, R, rs, Post.mono (PostS.into (R := RVs X.K) p rs) fun x H1 ⟨ρ1, v, h1, l1, R1, r1, p1⟩ => ?_⟩
  cases r1 with
  | nil => exact p1.elim
  | cons a1 t1 =>
    cases t1 with
    | nil => exact p1.elim
    | cons a2 t2 =>
      cases t2 with
      | nil => exact ⟨_, _, rfl, p1 ρ1 H1 _ (Le.refl _) R1 (RS.set (RS.set (RS.mono l1 rs) a1 i) a2 j)⟩
      | cons a3 t3 => exact p1.elim
/-- x op= e, x a local -/
def sAug (i : Nat) (f : Val → Val → M Val) (m : EM) : SM := fun e h => match e[i]? with
  | some (some x) => (m e h).into e fun y h1 => (f x y h1).into e fun z h2 => .nx (e.set i (some z)) h2
  | _ => .bad
def IpM (X : Cx) (op : Operator) (g : Val → Val → M Val) : Prop := ∃ t : TIp, PIp X op t ∧ ∀ (W : WK) ρ h H a b x y (Q : VK), Rel X.K ρ h H → RV X.K ρ a x → RV X.K ρ b y → Post X.K (RV X.K) ρ (g a b h) Q W → t x y H Q
theorem s_aug {i : Nat} {x : Str} {op : Operator} {f : Val → Val → M Val} {pos' : Pos} (ho : IpM X op f) (hN : X.N.Nodup) (hi : X.N[i]? = some x) (hx : Loc X.env.scope x) (he : PE X e (rdE X.K W ma)) (hf : X.fn x = true ∨ X.env.scope.names.lookup x = some .local := by first | exact .inl rfl | exact .inr rfl | assumption) :
    PS X (.AugAssign (.Name x pos') op e pos) (rdS X.K W (sAug i f ma)) := by
  obtain ⟨t, h1, h2⟩ := ho
  refine (ps_aug hN hi hx he h1 hf).imp fun D σ H ⟨ρ, en, hc, R, rs, p⟩ => ?_
  unfold sAug at p
  cases q : en[i]? with
  | none => simp only [q] at p; exact p.elim
  | some o => cases o with
    | none => simp only [q] at p; exact p.elim
    | some v0 =>
      simp only [q] at p
      obtain ⟨x0, hx0, r0⟩ := RS.var rs q
      refine ⟨x0, hx0, ρ, en, hc, R, rs, Post.mono (PostS.into (R := RV X.K) p rs) fun y H1 ⟨ρ1, v, h1', l1, R1, r1, p1⟩ => ?_⟩
      refine h2 (fun c d H => W c d σ H) ρ1 h1' H1 v0 v x0 y _ R1 (r0.mono l1) r1 (Post.mono (PostS.into (R := RV X.K) p1 (RS.mono l1 rs)) fun z H2 ⟨ρ2, u, h2', l2, R2, r2, p2⟩ => ?_)
      exact p2 ρ2 H2 _ (Le.refl _) R2 (RS.set (RS.mono (l1.trans l2) rs) r2 i)
/-- o.f = e: T tells of the text's classes which fields they may have -/
def fitsM (T : List (Str × List Str)) (C f : Str) : Bool := match T.lookup C with
  | some fs => fs.contains f
  | none => false
def putM (f : Str) (v : Val) : List (Str × Val) → List (Str × Val)
  | [] => [(f, v)]
  | (g, w) :: r => if g = f then (g, v) :: r else (g, w) :: putM f v r
def TabOk (K : PySem.W.Frag) (T : List (Str × List Str)) : Prop := ∀ C f, fitsM T C f = true → NoAttr K (He.ga K C) f
def sFldM (T : List (Str × List Str)) (mo : EM) (f : Str) (m : EM) : SM := fun e h => (m e h).into e fun v h1 => (mo e h1).into e fun o h2 => match o with
  | .ref n => (match h2.get n with
    | some (.ins C fs) => if fitsM T C f = true ∧ fs.length < 900 then .nx e (h2.put n (.ins C (putM f v fs))) else .bad
    | _ => .bad)
  | _ => .bad
theorem put_pair {K : PySem.W.Frag} {ρ : Rho} {f : Str} {v : Val} {x : V} (r : RV K ρ v x) {fs : List (Str × Val)} {gs : List (Str × V)} (p : RPs K ρ fs gs) : RPs K ρ (putM f v fs) (putF f x gs) := by
  induction p with
  | nil => exact .cons ⟨rfl, r⟩ .nil
  | @cons p q l1 l2 a t ih =>
    obtain ⟨n, w⟩ := p
    obtain ⟨n', w'⟩ := q
    obtain ⟨rfl, ra⟩ := a
    show RPs K ρ (if n = f then (n, v) :: l1 else (n, w) :: putM f v l1) (if n = f then (n, x) :: l2 else (n, w') :: putF f x l2)
    by_cases z : n = f
    · rw [if_pos z, if_pos z]
      exact .cons ⟨rfl, r⟩ t
    · rw [if_neg z, if_neg z]
      exact .cons ⟨rfl, ra⟩ ih
theorem put_names {f : Str} {v : Val} {P : Str → Prop} (hf : P f) : ∀ {fs : List (Str × Val)}, (∀ p ∈ fs, P p.1) → ∀ p ∈ putM f v fs, P p.1
  | [], _, p, hp => by
    have : p = (f, v) := by simpa [putM] using hp
    rw [this]; exact hf
  | (g, w) :: r, h, p, hp => by
    unfold putM at hp
    by_cases z : g = f
    · rw [if_pos z] at hp
      rcases List.mem_cons.mp hp with q | q
      · rw [q]; exact h (g, w) List.mem_cons_self
      · exact h p (List.mem_cons_of_mem _ q)
    · rw [if_neg z] at hp
      rcases List.mem_cons.mp hp with q | q
      · rw [q]; exact h (g, w) List.mem_cons_self
      · exact put_names hf (fun p hp => h p (List.mem_cons_of_mem _ hp)) p q
theorem s_fld {T : List (Str × List Str)} {o value : Expr} {f : Str} {pos' : Pos} {mo : EM} (hT : TabOk X.K T) (ho : PE X o (rdE X.K W mo)) (hv : PE X value (rdE X.K W ma)) (hs : swapsWith value (some (.Attribute o f pos')) pos.line X.env = pure false := by rfl) :
    PS X (.Assign [.Attribute o f pos'] value pos) (rdS X.K W (sFldM T mo f ma)) := by
  refine (ps_fld ho hv hs).imp fun D σ H ⟨ρ, en, hc, R, rs, p⟩ => ?_
  refine ⟨ρ, en, hc, R, rs, Post.mono (PostS.into (R := RV X.K) p rs) fun y H1 ⟨ρ1, v, h1, l1, R1, r1, p1⟩ => ?_⟩
  refine ⟨ρ1, en, h1, R1, RS.mono l1 rs, Post.mono (PostS.into (R := RV X.K) p1 (RS.mono l1 rs)) fun x H2 ⟨ρ2, u, h2, l2, R2, r2, p2⟩ => ?_⟩
  cases u with
  | ref n =>
    cases q : h2.get n with
    | none => simp only [q] at p2; exact p2.elim
    | some c =>
      cases c with
      | ins C fs =>
        simp only [q] at p2
        obtain ⟨ad, ea, rfl⟩ := r2
        obtain ⟨dx, gs, rf, hC, cl, na⟩ := R2.at ea q
        by_cases z : fitsM T C f = true ∧ fs.length < 900
        · rw [if_pos z] at p2
          have hn := hT C f z.1
          refine ⟨ad, _, dx, gs, rfl, hC, cl, hn, by rw [← Paired.length rf]; omega, ?_⟩
          exact p2 ρ2 _ σ (Le.refl _) (R2.put ea ⟨dx, _, put_pair (r1.mono l2) rf, upd_same, cl, put_names hn na⟩) (RS.mono (l1.trans l2) rs)
        · rw [if_neg z] at p2
          exact p2.elim
      | _ => simp only [q] at p2; exact p2.elim
  | _ => exact p2.elim

/-! ### loops -/
def lid : Nat := 1000000
def whileGo (c : TM) (b : SM) : Nat → SM
  | 0, _, _ => .bad
  | f + 1, e, h => (c e h).into e fun k h1 => match k with
    | true => (match b e h1 with
      | .nx e2 h2 => whileGo c b f e2 h2
      | .ct e2 h2 => whileGo c b f e2 h2
      | .bk e2 h2 => .nx e2 h2
      | r => r)
    | false => .nx e h1
def sWhile (c : TM) (b : SM) : SM := whileGo c b lid
theorem s_while {c : Expr} {body : List Stmt} (hp : PassesOwn (model X.prog X.w) X.A X.env X.xe) (hc : PT X c (rdT X.K W mx)) (hb : PSs X body (rdS X.K W ms)) : PS X (.While c body [] pos) (rdS X.K W (sWhile mx ms)) := by
  refine (ps_while hp hc hb).imp fun D σ H ⟨ρ, en, hc, R, rs, p⟩ => ?_
  refine ⟨fun m σ H => ∃ ρ e h, Rel X.K ρ h H ∧ RS X.K ρ e σ ∧ PostS X.K ρ (whileGo mx ms m e h) D W, ⟨lid, ρ, en, hc, R, rs, p⟩, ?_⟩
  rintro m σ H ⟨ρ, en, hc, R, rs, p⟩
  cases m with
  | zero => exact p.elim
  | succ m =>
    refine ⟨ρ, en, hc, R, rs, Post.mono (PostS.into (R := RB) (show PostS X.K ρ ((mx en hc).into en _) D W from p) rs) fun k H1 ⟨ρ1, v, h1, l1, R1, r1, p1⟩ => ?_⟩
    cases r1
    cases k with
    | false =>
      rw [if_neg Bool.false_ne_true]
      exact p1 ρ1 H1 σ (Le.refl _) R1 (RS.mono l1 rs)
    | true =>
      rw [if_pos rfl]
      refine ⟨fun σ' H' => ∃ ρ e h, Rel X.K ρ h H' ∧ RS X.K ρ e σ' ∧ PostS X.K ρ (whileGo mx ms m e h) D W, fun σ' H' n => ⟨m, Nat.lt_succ_self m, n⟩, ρ1, en, h1, R1, RS.mono l1 rs, ?_⟩
      cases q : ms en h1 with
      | nx e2 h2 => simp only [q] at p1; exact fun ρ' H' σ' l R' rs' => ⟨ρ', e2, h2, R', rs', PostS.later p1 l⟩
      | ct e2 h2 => simp only [q] at p1; exact fun ρ' H' σ' l R' rs' => ⟨ρ', e2, h2, R', rs', PostS.later p1 l⟩
      | bk e2 h2 => simp only [q] at p1; exact p1
      | rt e2 h2 => simp only [q] at p1; exact p1
      | exc c d e2 h2 => simp only [q] at p1; exact p1
      | bad => simp only [q] at p1; exact p1
/-- what a loop walks: the i-th item, none at the end -/
abbrev ItM := Nat → M (Option Val)
def ItS (K : PySem.W.Frag) (ρ0 : Rho) (it : ItM) (J : It) : Prop := ∀ (i : Nat) (ρ : Rho) (h : Hc) (H : Hp), Le ρ0 ρ → Rel K ρ h H → match it i h with
  | .ok none h1 => h1 = h ∧ J.stop i H
  | .ok (some v) h1 => J.go i H ∧ ∀ x H', J.yld i H x H' → ∃ ρ', Le ρ ρ' ∧ Rel K ρ' h1 H' ∧ RV K ρ' v x
  | _ => True
def rdI (K : PySem.W.Frag) (W : WS) (m : Env → M ItM) : TI := fun σ H R => ∃ ρ e h, Rel K ρ h H ∧ RS K ρ e σ ∧ Post K (ItS K) ρ (m e h) R (fun c d H => W c d σ H)
theorem _root_.L2.PI.any {tg iter : Expr} {t' : TI} (i : ∀ σ H R, t' σ H R → ∃ t, PI X tg iter t ∧ t σ H R) : PI X tg iter t' := ⟨fun pins s σ H R I q => by
  obtain ⟨t, h, q'⟩ := i _ _ _ q
  exact h.run pins s σ H R I q'⟩
theorem _root_.L2.PI.imp {tg iter : Expr} {t t' : TI} (h : PI X tg iter t) (i : ∀ σ H R, t' σ H R → t σ H R) : PI X tg iter t' := ⟨fun pins s σ H R I q => h.run pins s σ H R I (i _ _ _ q)⟩
def forGo (it : ItM) (g : GM) (b : SM) : Nat → Nat → SM
  | 0, _, _, _ => .bad
  | f + 1, i, e, h => match it i h with
    | .ok none h1 => .nx e h1
    | .ok (some v) h1 => (g v e h1).into e fun e2 h2 => (match b e2 h2 with
      | .nx e3 h3 => forGo it g b f (i + 1) e3 h3
      | .ct e3 h3 => forGo it g b f (i + 1) e3 h3
      | .bk e3 h3 => .nx e3 h3
      | r => r)
    | _ => .bad
def sFor (m : Env → M ItM) (g : GM) (b : SM) : SM := fun e h => (m e h).into e fun it h1 => forGo it g b lid 0 e h1
theorem s_for {iter tg : Expr} {body : List Stmt} {mi : Env → M ItM} (hp : PassesOwn (model X.prog X.w) X.A X.env X.xe) (hc : X.calm = true) (hi : PI X tg iter (rdI X.K W mi)) (hg : PG X tg (rdG X.K W g)) (hb : PSs X body (rdS X.K W ms))
    (hs : ∀ x, foldedSetIterable iter X.env x = pure x := by intro _; rfl) : PS X (.For tg iter body [] pos) (rdS X.K W (sFor mi g ms)) := by
  refine (ps_for hp hc hi hg hb hs).imp fun D σ H ⟨ρ, en, hc, R, rs, p⟩ => ?_
  refine ⟨ρ, en, hc, R, rs, Post.mono (PostS.into (R := ItS X.K) p rs) fun J H1 ⟨ρ1, it, h1, l1, R1, r1, p1⟩ => ?_⟩
  refine ⟨fun i m σ H => ∃ ρ e h, Le ρ1 ρ ∧ Rel X.K ρ h H ∧ RS X.K ρ e σ ∧ PostS X.K ρ (forGo it g ms m i e h) D W, ⟨lid, ρ1, en, h1, Le.refl _, R1, RS.mono l1 rs, p1⟩, ?_⟩
  rintro i m σ H ⟨ρ, en, hc, l, R, rs, p⟩
  cases m with
  | zero => exact p.elim
  | succ m =>
    have js := r1 i ρ hc H l R
    unfold forGo at p
    cases q : it i hc with
    | exc c d h' => simp only [q] at p; exact p.elim
    | bad => simp only [q] at p; exact p.elim
    | ok o h' =>
      cases o with
      | none =>
        simp only [q] at p js
        exact .inl ⟨js.2, p ρ H σ (Le.refl _) (js.1 ▸ R) rs⟩
      | some v =>
        simp only [q] at p js
        refine .inr ⟨js.1, fun σ' H' => ∃ ρ e h, Le ρ1 ρ ∧ Rel X.K ρ h H' ∧ RS X.K ρ e σ' ∧ PostS X.K ρ (forGo it g ms m (i + 1) e h) D W, fun σ' H' n => ⟨m, Nat.lt_succ_self m, n⟩, fun x H' y => ?_⟩
        obtain ⟨ρ2, l2, R2, r2⟩ := js.2 x H' y
        refine ⟨ρ2, v, en, h', R2, r2, RS.mono l2 rs, Post.mono (PostS.into (R := RS X.K) (PostS.later p l2) (RS.mono l2 rs)) fun σ3 H3 ⟨ρ3, e3, h3, l3, R3, rs3, p3⟩ => ?_⟩
        refine ⟨ρ3, e3, h3, R3, rs3, ?_⟩
        cases q2 : ms e3 h3 with
        | nx e4 h4 => simp only [q2] at p3; exact fun ρ' H' σ' l' R' rs' => ⟨ρ', e4, h4, l.trans (l2.trans (l3.trans l')), R', rs', PostS.later p3 l'⟩
        | ct e4 h4 => simp only [q2] at p3; exact fun ρ' H' σ' l' R' rs' => ⟨ρ', e4, h4, l.trans (l2.trans (l3.trans l')), R', rs', PostS.later p3 l'⟩
        | bk e4 h4 => simp only [q2] at p3; exact p3
        | rt e4 h4 => simp only [q2] at p3; exact p3
        | exc c d e4 h4 => simp only [q2] at p3; exact p3
        | bad => simp only [q2] at p3; exact p3
theorem items_sql {K : PySem.W.Frag} {ρ : Rho} {h : Hc} {H : Hp} (R : Rel K ρ h H) {n : Nat} {a : Addr} (ea : ρ.f n = some a) {xs : List Val} (hc : h.get n = some (.lst xs) ∨ h.get n = some (.fz xs)) : ∃ ys, RVs K ρ xs ys ∧ SqL K H a ys := by
  rcases hc with q | q
  · obtain ⟨ys, ry, hy⟩ := R.at ea q
    exact ⟨ys, ry, .inl (.inl hy)⟩
  · obtain ⟨o, ys, ry, hy⟩ := R.at ea q
    exact ⟨ys, ry, .inl (.inr ⟨o, hy⟩)⟩
theorem paired_none {α β : Type} {F : α → β → Prop} {xs : List α} {ys : List β} (r : Paired F xs ys) {i : Nat} (h : xs[i]? = none) : ys.length ≤ i := by
  have := Paired.length r
  have h2 : xs.length ≤ i := List.getElem?_eq_none_iff.mp h
  omega
def itL (n : Nat) : ItM := fun i h => match h.get n with
  | some (.lst xs) => .ok (xs[i]?) h
  | some (.fz xs) => .ok (xs[i]?) h
  | _ => .bad
def itT (n : Nat) : ItM := fun i h => match h.get n with
  | some (.tup xs) => .ok (xs[i]?) h
  | _ => .bad
theorem it_list {K : PySem.W.Frag} {ρ0 : Rho} {n : Nat} {a : Addr} (ea : ρ0.f n = some a) : ItS K ρ0 (itL n) (Itl K a) := by
  intro i ρ h H l R
  have ea' := l.f _ _ ea
  have key : ∀ xs, (h.get n = some (.lst xs) ∨ h.get n = some (.fz xs)) → (match (Res.ok (xs[i]?) h : Res (Option Val)) with
    | .ok none h1 => h1 = h ∧ (Itl K a).stop i H
    | .ok (some v) h1 => (Itl K a).go i H ∧ ∀ x H', (Itl K a).yld i H x H' → ∃ ρ', Le ρ ρ' ∧ Rel K ρ' h1 H' ∧ RV K ρ' v x
    | _ => True) := by
    intro xs hx
    obtain ⟨ys, ry, hs⟩ := items_sql R ea' hx
    cases q : xs[i]? with
    | none => exact ⟨rfl, ys, hs, paired_none ry q⟩
    | some v =>
      obtain ⟨y, hy, r⟩ := Paired.get ry q
      refine ⟨⟨ys, y, hs, hy⟩, fun x H' hyl => ?_⟩
      obtain ⟨rfl, hz⟩ := hyl
      have := hz ys hs
      rw [hy] at this
      cases this
      exact ⟨ρ, Le.refl _, R, r⟩
  unfold itL
  cases q : h.get n with
  | none => trivial
  | some c =>
    cases c with
    | lst xs => exact key xs (.inl q)
    | fz xs => exact key xs (.inr q)
    | _ => trivial
theorem it_tup {K : PySem.W.Frag} {ρ0 : Rho} {n : Nat} {a : Addr} (ea : ρ0.f n = some a) : ItS K ρ0 (itT n) (Itt K a) := by
  intro i ρ h H l R
  have ea' := l.f _ _ ea
  unfold itT
  cases q : h.get n with
  | none => trivial
  | some c =>
    cases c with
    | tup xs =>
      obtain ⟨ys, ry, hy⟩ := R.at ea' q
      have hs : SqT K H a ys := .inl (.inl hy)
      simp only
      cases q : xs[i]? with
      | none => exact ⟨rfl, ys, hs, paired_none ry q⟩
      | some v =>
        obtain ⟨y, hyi, r⟩ := Paired.get ry q
        refine ⟨⟨ys, y, hs, hyi⟩, fun x H' hyl => ?_⟩
        obtain ⟨rfl, hz⟩ := hyl
        have := hz ys hs
        rw [hyi] at this
        cases this
        exact ⟨ρ, Le.refl _, R, r⟩
    | _ => trivial
/-- for x in a list, a tuple -/
def iSeqV (v : Val) : M ItM := fun h1 => match v with
  | .ref n => (match h1.get n with
    | some (.lst _) => .ok (itL n) h1
    | some (.fz _) => .ok (itL n) h1
    | some (.tup _) => .ok (itT n) h1
    | _ => .bad)
  | _ => .bad
def iSeq (m : EM) : Env → M ItM := fun e h => (m e h).bind fun v h1 => iSeqV v h1
theorem si_seq {tg l : Expr} {m : EM} (hl : PE X l (rdE X.K W m)) : PI X tg l (rdI X.K W (iSeq m)) := PI.any fun σ H R ⟨ρ, e, h, Rl, rs, p⟩ => by
  unfold iSeq at p
  cases q : m e h with
  | bad => simp only [q, Res.bind] at p; exact p.elim
  | exc C d h1 =>
    simp only [q, Res.bind] at p
    exact ⟨_, pi_list hl, ρ, e, h, Rl, rs, by rw [q]; exact p⟩
  | ok v h1 =>
    simp only [q, Res.bind] at p
    cases v with
    | ref n =>
      unfold iSeqV at p
      cases q2 : h1.get n with
      | none => simp only [q2] at p; exact p.elim
      | some c =>
        cases c with
        | lst xs =>
          simp only [q2] at p
          refine ⟨_, pi_list hl, ρ, e, h, Rl, rs, ?_⟩
          rw [q]
          intro ρ1 H1 x l1 R1 r1
          obtain ⟨a, ea, rfl⟩ := r1
          obtain ⟨ys, _, hs⟩ := items_sql R1 ea (.inl q2)
          exact ⟨a, rfl, ⟨ys, hs⟩, p ρ1 H1 _ l1 R1 (it_list ea)⟩
        | fz xs =>
          simp only [q2] at p
          refine ⟨_, pi_list hl, ρ, e, h, Rl, rs, ?_⟩
          rw [q]
          intro ρ1 H1 x l1 R1 r1
          obtain ⟨a, ea, rfl⟩ := r1
          obtain ⟨ys, _, hs⟩ := items_sql R1 ea (.inr q2)
          exact ⟨a, rfl, ⟨ys, hs⟩, p ρ1 H1 _ l1 R1 (it_list ea)⟩
        | tup xs =>
          simp only [q2] at p
          refine ⟨_, pi_tup hl, ρ, e, h, Rl, rs, ?_⟩
          rw [q]
          intro ρ1 H1 x l1 R1 r1
          obtain ⟨a, ea, rfl⟩ := r1
          obtain ⟨ys, _, hy⟩ := R1.at ea q2
          exact ⟨a, rfl, ⟨ys, .inl (.inl hy)⟩, p ρ1 H1 _ l1 R1 (it_tup ea)⟩
        | _ => simp only [q2] at p; exact p.elim
    | _ => exact p.elim
/-- range(n), range(a, b) -/
def itR (lo : Int) (n : Nat) : ItM := fun i h => if i < n then .ok (some (.int (lo + i))) h else .ok none h
theorem it_rng {K : PySem.W.Frag} {ρ0 : Rho} {lo : Int} {n : Nat} : ItS K ρ0 (itR lo n) (Itr lo n) := by
  intro i ρ h H l R
  unfold itR
  by_cases z : i < n
  · rw [if_pos z]
    refine ⟨z, fun x H' ⟨e, ex⟩ => ?_⟩
    subst e
    exact ⟨ρ, Le.refl _, R, ex⟩
  · rw [if_neg z]
    exact ⟨rfl, Nat.le_of_not_lt z⟩
theorem rng1_rd {m : AM} {σ : L2.St} {H : Hp} {R : It → Hp → Prop} (h : rdI X.K W (fun e h => (m e h).bind fun vs h1 => match vs with
  | [.int j] => if -(2 ^ 62) ≤ j ∧ j < 2 ^ 62 then .ok (itR 0 j.toNat) h1 else .bad
  | _ => .bad) σ H R) : iRng1 (rdA X.K W m) σ H R := by
  obtain ⟨ρ, en, hc, R0, rs, p⟩ := h
  refine ⟨ρ, en, hc, R0, rs, Post.mono (Post.bind (R := RVs X.K) p) fun xs H1 ⟨ρ1, vs, h1, l1, R1, r1, p1⟩ => ?_⟩
  cases r1 with
  | nil => exact p1.elim
  | @cons v x vs xs r t =>
    cases t with
    | cons _ _ => cases v <;> exact p1.elim
    | nil =>
      cases v with
      | int j =>
        cases r
        by_cases z : -(2 ^ 62) ≤ j ∧ j < 2 ^ 62
        · simp only [if_pos z] at p1
          exact ⟨j, rfl, z.1, z.2, p1 ρ1 H1 _ (Le.refl _) R1 it_rng⟩
        · simp only [if_neg z] at p1
          exact p1.elim
      | _ => exact p1.elim
def iRg1 (m : AM) : Env → M ItM := fun e h => (m e h).bind fun vs h1 => match vs with
  | [.int j] => if -(2 ^ 62) ≤ j ∧ j < 2 ^ 62 then .ok (itR 0 j.toNat) h1 else .bad
  | _ => .bad
def iRg2 (m : AM) : Env → M ItM := fun e h => (m e h).bind fun vs h1 => match vs with
  | [.int i, .int j] => if -(2 ^ 62) ≤ i ∧ i < 2 ^ 62 ∧ -(2 ^ 62) ≤ j ∧ j < 2 ^ 62 then .ok (itR i (j - i).toNat) h1 else .bad
  | _ => .bad
theorem si_rng1 {tg a : Expr} {p pos : Pos} {m : AM} (hm : X.mg "range" = none) (ha : PA X [a] (rdA X.K W m)) (hg : Gl X "range" := by rfl) (hs : starEach [a] X.env = [(false, eval a X.env)] := by rfl) : PI X tg (.Call (.Name "range" p) [a] [] pos) (rdI X.K W (iRg1 m)) :=
  (pi_range1 hg hm ha hs).imp fun σ H R q => rng1_rd q
theorem si_rng2 {tg a b : Expr} {p pos : Pos} {m : AM} (hm : X.mg "range" = none) (ha : PA X [a, b] (rdA X.K W m)) (hg : Gl X "range" := by rfl) (hs : starEach [a, b] X.env = [(false, eval a X.env), (false, eval b X.env)] := by rfl) (hs2 : starEach [b] X.env = [(false, eval b X.env)] := by rfl) :
    PI X tg (.Call (.Name "range" p) [a, b] [] pos) (rdI X.K W (iRg2 m)) := by
  refine (pi_range2 hg hm ha hs hs2).imp fun σ H R ⟨ρ, en, hc, R0, rs, p⟩ => ?_
  refine ⟨ρ, en, hc, R0, rs, Post.mono (Post.bind (R := RVs X.K) p) fun xs H1 ⟨ρ1, vs, h1, l1, R1, r1, p1⟩ => ?_⟩
  cases r1 with
  | nil => exact p1.elim
  | @cons v x vs xs r t =>
    cases t with
    | nil => cases v <;> exact p1.elim
    | @cons v2 x2 vs2 xs2 r2 t2 =>
      cases t2 with
      | cons _ _ => cases v <;> cases v2 <;> exact p1.elim
      | nil =>
        cases v with
        | int i =>
          cases v2 with
          | int j =>
            cases r
            cases r2
            by_cases z : -(2 ^ 62) ≤ i ∧ i < 2 ^ 62 ∧ -(2 ^ 62) ≤ j ∧ j < 2 ^ 62
            · simp only [if_pos z] at p1
              exact ⟨i, j, rfl, z, p1 ρ1 H1 _ (Le.refl _) R1 it_rng⟩
            · simp only [if_neg z] at p1
              exact p1.elim
          | _ => exact p1.elim
        | _ => cases v2 <;> exact p1.elim
end

/-! ### a def as a whole -/
def fnM (N : Nat) (body : SM) : List Val → M Val := fun as h => match body (as.map some ++ List.replicate (N - as.length) none) h with
  | .rt v h1 => .ok v h1
  | .nx _ h1 => .ok .non h1
  | .exc C d _ h1 => .exc C d h1
  | _ => .bad
section
variable {P : Program} {w : World} {K : PySem.W.Frag} {mg : Str → Option Value} {base : Heap}
theorem rs_start {ρ : Rho} {as : List Val} {vs : List V} (r : RVs K ρ as vs) (n : Nat) : RS K ρ (as.map some ++ List.replicate n none) (vs.map some ++ List.replicate n none) := by
  refine Paired.append ?_ ?_
  · induction r with
    | nil => exact .nil
    | cons a _ ih => exact .cons a ih
  · induction n with
    | zero => exact .nil
    | succ n ih => exact .cons trivial ih
theorem can_fn {x qual : Str} {params : Arguments} {body : List Stmt} {scope : Scope} {dvs : List V} {kws : List (Str × V)} {f : Addr} {fd : FuncData} {N ps : List Str} {k : Nat} {m : SM} (F : FunD K x qual params body scope dvs kws f fd) (S : FnScope N ps scope)
    (hbody : ∀ (cdv : Value) (A : Around) (outer : List PySem.Env) (s : Shared) (H : Hp) (E : XK), Room k (A.deeper (envOfC qual scope s.heap.objs.size f cdv)) →
      PSs (cxOf (L2.CX P w) P w K mg base N qual scope f cdv A outer s H E) body (rdS K (fun c d _ H => E c d H) m)) :
    FnOk P w K mg base (L2.CX P w) (k + 1) f fd ps (spM K ps.length (fnM N.length m)) := by
  refine F.ok S (fun vs H Q E ⟨ρ, h, as, hl, _, r, _⟩ => by rw [← Paired.length r, hl]) fun cdv A outer s H vs Q E hr ⟨ρ, h, as, hl, R, r, p⟩ => ⟨_, hbody cdv A outer s H E hr, ?_⟩
  have e : L2.start N vs = vs.map some ++ List.replicate (N.length - as.length) none := by unfold L2.start; rw [Paired.length r]
  rw [e]
  refine ⟨ρ, as.map some ++ List.replicate (N.length - as.length) none, h, R, rs_start r _, ?_⟩
  unfold fnM at p
  cases q : m (as.map some ++ List.replicate (N.length - as.length) none) h with
  | nx e1 h1 => simp only [q] at p; exact fun ρ1 H1 σ1 l R1 rs1 => p ρ1 H1 .non l R1 rfl
  | rt v h1 => simp only [q] at p; exact p
  | exc c d e1 h1 => simp only [q] at p; exact fun ρ1 H1 da σ1 l R1 rd rs1 => p ρ1 H1 da l R1 rd
  | bk _ _ => simp only [q] at p; exact p.elim
  | ct _ _ => simp only [q] at p; exact p.elim
  | bad => simp only [q] at p; exact p.elim
end
end Mr
end
section
set_option Elab.async false
set_option linter.all false
set_option maxRecDepth 100000
set_option maxHeartbeats 2000000
/-! Mr, part 5: operators, subscripts, slices, built-in functions and methods by values. -/
namespace Mr
open PySem PySem.Spec PyProof.Rows L2
section
variable {X : Cx}
/-- the text's constant tuples -/
abbrev Con := List (Str × List Val)
def ConOk (K : PySem.W.Frag) (T : Con) : Prop := ∀ x xs, T.lookup x = some xs → ∃ ys, (∀ ρ, RVs K ρ xs ys) ∧ ∀ H, SqT K H (He.ga K x) ys
/-- a list (false) or a tuple (true) and its items -/
def seqOf (T : Con) (h : Hc) (v : Val) : Option (Bool × List Val) := match v with
  | .ref n => (match h.get n with
    | some (.lst xs) => some (false, xs)
    | some (.fz xs) => some (false, xs)
    | some (.tup xs) => some (true, xs)
    | _ => none)
  | .glo x => (match T.lookup x with
    | some xs => some (true, xs)
    | none => none)
  | _ => none
theorem seq_ok {K : PySem.W.Frag} {T : Con} {ρ : Rho} {h : Hc} {H : Hp} {v : Val} {x : V} {k : Bool} {xs : List Val} (hT : ConOk K T) (R : Rel K ρ h H) (r : RV K ρ v x) (e : seqOf T h v = some (k, xs)) :
    ∃ p ys, x = .ref p ∧ RVs K ρ xs ys ∧ (k = false → SqL K H p ys) ∧ (k = true → SqT K H p ys) := by
  cases v with
  | ref n =>
    obtain ⟨a, ea, rfl⟩ := r
    unfold seqOf at e
    cases q : h.get n with
    | none => simp [q] at e
    | some c =>
      have i := R.at ea q
      cases c with
      | lst zs =>
        simp only [q] at e
        cases e
        obtain ⟨ys, ry, hy⟩ := i
        exact ⟨a, ys, rfl, ry, fun _ => .inl (.inl hy), fun z => by cases z⟩
      | fz zs =>
        simp only [q] at e
        cases e
        obtain ⟨o, ys, ry, hy⟩ := i
        exact ⟨a, ys, rfl, ry, fun _ => .inl (.inr ⟨o, hy⟩), fun z => by cases z⟩
      | tup zs =>
        simp only [q] at e
        cases e
        obtain ⟨ys, ry, hy⟩ := i
        exact ⟨a, ys, rfl, ry, fun z => (by cases z), fun _ => .inl (.inl hy)⟩
      | _ => simp [q] at e
  | glo g =>
    unfold seqOf at e
    cases q : T.lookup g with
    | none => simp [q] at e
    | some zs =>
      simp only [q] at e
      cases e
      obtain ⟨ys, ry, hy⟩ := hT g _ q
      exact ⟨_, ys, r, ry ρ, fun z => (by cases z), fun _ => hy H⟩
  | _ => cases e

/-! ### + - * % // on ints; texts, lists, tuples joined -/
def big : Nat := 16777216
theorem big_eq : big = sizeLine := sizeLine_eq.symm
def bAdd (T : Con) (a b : Val) : M Val := fun h => match a, b with
  | .int i, .int j => .ok (.int (i + j)) h
  | .str s, .str t => if s.length + t.length ≤ big then .ok (.str (s ++ t)) h else .bad
  | .ref n, .ref m => (match h.get n, h.get m with
    | some (.lst xs), some (.lst ys) => if xs.length + ys.length ≤ big then .ok (.ref h.n) (h.new (.lst (xs ++ ys))) else .bad
    | some (.tup xs), some (.tup ys) => if xs.length + ys.length ≤ big then (if xs = [] then .ok (.ref m) h else if ys = [] then .ok (.ref n) h else .ok (.ref h.n) (h.new (.tup (xs ++ ys)))) else .bad
    | _, _ => .bad)
  | _, _ => .bad
theorem RVs.nil_iff {K : PySem.W.Frag} {ρ : Rho} {xs : List Val} {ys : List V} (r : RVs K ρ xs ys) : xs = [] ↔ ys = [] := by
  cases r <;> simp
theorem op_add_m (T : Con) : OpM X (binaryOp .Add) (bAdd T) := by
  refine ⟨_, op_add.or (op_add_str.or (op_cat.or op_catA)), ?_⟩
  intro W ρ h H a b x y Q R ra rb p
  cases a with
  | int i => cases b with
    | int j => cases ra; cases rb; exact .inl ⟨i, j, rfl, rfl, p ρ H _ (Le.refl _) R rfl⟩
    | _ => exact p.elim
  | str s => cases b with
    | str t =>
      cases ra; cases rb
      by_cases z : s.length + t.length ≤ big
      · simp only [bAdd, if_pos z] at p
        exact .inr (.inl ⟨s, t, rfl, rfl, by rw [← big_eq]; exact z, p ρ H _ (Le.refl _) R rfl⟩)
      · simp only [bAdd, if_neg z] at p; exact p.elim
    | _ => exact p.elim
  | ref n => cases b with
    | ref m =>
      obtain ⟨pa, ea, rfl⟩ := ra
      obtain ⟨pb, eb, rfl⟩ := rb
      cases q1 : h.get n with
      | none => simp only [bAdd, q1] at p; exact p.elim
      | some c1 => cases q2 : h.get m with
        | none => cases c1 <;> simp only [bAdd, q1, q2] at p <;> exact p.elim
        | some c2 =>
          cases c1 with
          | lst xs => cases c2 with
            | lst ys =>
              simp only [bAdd, q1, q2] at p
              obtain ⟨us, ru, hu⟩ := R.at ea q1
              obtain ⟨vs, rv, hv⟩ := R.at eb q2
              by_cases z : xs.length + ys.length ≤ big
              · rw [if_pos z] at p
                exact .inr (.inr (.inl ⟨pa, pb, us, vs, rfl, rfl, hu, hv, by rw [← big_eq, ← Paired.length ru, ← Paired.length rv]; exact z, fun q hq => laid R p hq fun ρ' l => img_lst (Paired.append (RVs.mono l ru) (RVs.mono l rv))⟩))
              · rw [if_neg z] at p; exact p.elim
            | _ => simp only [bAdd, q1, q2] at p; exact p.elim
          | tup xs => cases c2 with
            | tup ys =>
              simp only [bAdd, q1, q2] at p
              obtain ⟨us, ru, hu⟩ := R.at ea q1
              obtain ⟨vs, rv, hv⟩ := R.at eb q2
              by_cases z : xs.length + ys.length ≤ big
              · rw [if_pos z] at p
                refine .inr (.inr (.inr ⟨pa, pb, us, vs, rfl, rfl, .inl (.inl hu), .inl (.inl hv), by rw [← big_eq, ← Paired.length ru, ← Paired.length rv]; exact z, fun e => ?_, fun e e' => ?_, fun e e' q hq => ?_⟩))
                · rw [if_pos ((RVs.nil_iff ru).mpr e)] at p
                  exact p ρ H _ (Le.refl _) R ⟨pb, eb, rfl⟩
                · rw [if_neg (fun z => e ((RVs.nil_iff ru).mp z)), if_pos ((RVs.nil_iff rv).mpr e')] at p
                  exact p ρ H _ (Le.refl _) R ⟨pa, ea, rfl⟩
                · rw [if_neg (fun z => e ((RVs.nil_iff ru).mp z)), if_neg (fun z => e' ((RVs.nil_iff rv).mp z))] at p
                  exact laid R p hq fun ρ' l => img_tup (Paired.append (RVs.mono l ru) (RVs.mono l rv))
              · rw [if_neg z] at p; exact p.elim
            | _ => simp only [bAdd, q1, q2] at p; exact p.elim
          | _ => cases c2 <;> simp only [bAdd, q1, q2] at p <;> exact p.elim
    | _ => exact p.elim
  | _ => cases b <;> exact p.elim
/-- an operator on two ints -/
def iOp (C : Int → Int → Bool) (g : Int → Int → Int) (a b : Val) : M Val := fun h => match a, b with
  | .int i, .int j => if C i j then .ok (.int (g i j)) h else .bad
  | _, _ => .bad
theorem opS_int {C : Int → Int → Bool} {C' : Int → Int → Prop} {g : Int → Int → Int} (hc : ∀ i j, C i j = true → C' i j) : OpS X (rI C' fun i j => .int (g i j)) (iOp C g) := by
  intro W ρ h H a b x y Q R ra rb p
  cases a with
  | int i => cases b with
    | int j =>
      cases ra; cases rb
      unfold iOp at p
      cases z : C i j with
      | true => simp only [z, if_true] at p; exact ⟨i, j, rfl, rfl, hc i j z, p ρ H _ (Le.refl _) R rfl⟩
      | false => simp only [z, Bool.false_eq_true, if_false] at p; exact p.elim
    | _ => exact p.elim
  | _ => cases b <;> exact p.elim
def bSub : Val → Val → M Val := iOp (fun _ _ => true) fun i j => i - j
theorem op_sub_m : OpM X (binaryOp .Sub) bSub := by
  refine ⟨_, (op_sub : OpR X (binaryOp .Sub) _), ?_⟩
  intro W ρ h H a b x y Q R ra rb p
  obtain ⟨i, j, h1, h2, _, q⟩ := opS_int (X := X) (C := fun _ _ => true) (C' := fun _ _ => True) (fun _ _ _ => trivial) W ρ h H a b x y Q R ra rb p
  exact ⟨i, j, h1, h2, q⟩
/-- %, the divisor not nought -/
def bMod : Val → Val → M Val := iOp (fun _ j => decide (j ≠ 0)) fun i j => i.fmod j
theorem op_mod_m : OpM X (binaryOp .Mod) bMod := ⟨_, op_modN, opS_int fun i j h => of_decide_eq_true h⟩
/-- //, the divisor not nought and below 2 ^ 30 -/
def bFdv : Val → Val → M Val := iOp (fun _ j => decide (j ≠ 0 ∧ j.natAbs < 1073741824)) fun i j => i.fdiv j
theorem op_fdv_m : OpM X (binaryOp .FloorDiv) bFdv := ⟨_, op_fdivN, opS_int fun i j h => (of_decide_eq_true h : j ≠ 0 ∧ j.natAbs < 1073741824)⟩
/-- int * int, a list * int -/
def bMul (a b : Val) : M Val := fun h => match a, b with
  | .int i, .int j => if -(2 ^ 64) < i ∧ i < 2 ^ 64 ∨ -(2 ^ 64) < j ∧ j < 2 ^ 64 then .ok (.int (i * j)) h else .bad
  | .ref n, .int k => (match h.get n with
    | some (.lst xs) => if -(2 ^ 63) ≤ k ∧ k < 2 ^ 63 ∧ xs.length * k.toNat ≤ big then .ok (.ref h.n) (h.new (.lst (List.replicate k.toNat xs).flatten)) else .bad
    | _ => .bad)
  | _, _ => .bad
def bPow : Val → Val → M Val := iOp (fun i j => decide (0 ≤ j ∧ j ≤ 1000000 ∧ i.natAbs < 2 ^ 64)) fun i j => i ^ j.toNat
theorem op_pow_m : OpM X (binaryOp .Pow) bPow := ⟨_, op_pow, opS_int fun i j h => (of_decide_eq_true h : 0 ≤ j ∧ j ≤ 1000000 ∧ i.natAbs < 2 ^ 64)⟩

/-! ### comparisons -/
def cmpI (f : Int → Int → Bool) (a b : Val) : M Val := fun h => match a, b with
  | .int i, .int j => .ok (.bl (f i j)) h
  | _, _ => .bad
theorem cmpI_ok {f : Int → Int → Bool} : OpS X (rI0 fun i j => .bl (f i j)) (cmpI f) := by
  intro W ρ h H a b x y Q R ra rb p
  cases a with
  | int i => cases b with
    | int j => cases ra; cases rb; exact ⟨i, j, rfl, rfl, p ρ H _ (Le.refl _) R rfl⟩
    | _ => exact p.elim
  | _ => cases b <;> exact p.elim
def cLt : Val → Val → M Val := cmpI fun i j => decide (i < j)
def cLe : Val → Val → M Val := cmpI fun i j => decide (i ≤ j)
def cGt : Val → Val → M Val := cmpI fun i j => decide (j < i)
def cGe : Val → Val → M Val := cmpI fun i j => decide (j ≤ i)
theorem op_lt_m : OpM X (compareOp .Lt) cLt := ⟨_, op_lt, cmpI_ok⟩
theorem op_le_m : OpM X (compareOp .LtE) cLe := ⟨_, op_le, cmpI_ok⟩
theorem op_gt_m : OpM X (compareOp .Gt) cGt := ⟨_, op_gt, cmpI_ok⟩
theorem op_ge_m : OpM X (compareOp .GtE) cGe := ⟨_, op_ge, cmpI_ok⟩
/-- is, is not: None, bools -/
def cIs (neg : Bool) (a b : Val) : M Val := fun h => match a, b with
  | v, .non => .ok (.bl (xor neg (decide (v = .non)))) h
  | .bl i, .bl j => .ok (.bl (xor neg (decide (i = j)))) h
  | _, _ => .bad
theorem rv_non {K : PySem.W.Frag} {ρ : Rho} {v : Val} {x : V} (r : RV K ρ v x) : (decide (x = .non)) = decide (v = .non) := by
  cases v with
  | ref n => obtain ⟨a, _, rfl⟩ := r; rfl
  | exc n => obtain ⟨a, _, rfl⟩ := r; rfl
  | _ => cases r; rfl
theorem op_is_m : OpM X (compareOp .Is) (cIs false) := by
  refine ⟨_, op_isN.or op_isBl, ?_⟩
  intro W ρ h H a b x y Q R ra rb p
  cases b with
  | non =>
    cases rb
    refine .inl ⟨rfl, ?_⟩
    rw [rv_non ra]
    have p : Post X.K (RV X.K) ρ (.ok (.bl (xor false (decide (a = .non)))) h) Q W := by cases a <;> exact p
    rw [Bool.false_xor] at p
    exact p ρ H _ (Le.refl _) R rfl
  | bl j => cases a with
    | bl i =>
      cases ra; cases rb
      refine .inr ⟨i, j, rfl, rfl, ?_⟩
      have p : Post X.K (RV X.K) ρ (.ok (.bl (xor false (decide (i = j)))) h) Q W := p
      rw [Bool.false_xor] at p
      exact p ρ H _ (Le.refl _) R rfl
    | _ => exact p.elim
  | _ => cases a <;> exact p.elim
theorem op_isnot_m : OpM X (compareOp .IsNot) (cIs true) := by
  refine ⟨_, op_notN.or op_notBl, ?_⟩
  intro W ρ h H a b x y Q R ra rb p
  cases b with
  | non =>
    cases rb
    refine .inl ⟨rfl, ?_⟩
    rw [rv_non ra]
    have p : Post X.K (RV X.K) ρ (.ok (.bl (xor true (decide (a = .non)))) h) Q W := by cases a <;> exact p
    rw [Bool.true_xor] at p
    exact p ρ H _ (Le.refl _) R rfl
  | bl j => cases a with
    | bl i =>
      cases ra; cases rb
      refine .inr ⟨i, j, rfl, rfl, ?_⟩
      have p : Post X.K (RV X.K) ρ (.ok (.bl (xor true (decide (i = j)))) h) Q W := p
      rw [Bool.true_xor] at p
      exact p ρ H _ (Le.refl _) R rfl
    | _ => exact p.elim
  | _ => cases a <;> exact p.elim
/-- data as it stands in the cells -/
def mapD (f : Val → Option PyData) : List Val → Option (List PyData)
  | [] => some []
  | v :: vs => match f v, mapD f vs with
    | some d, some ds => some (d :: ds)
    | _, _ => none
def toD (h : Hc) : Nat → Val → Option PyData
  | _, .non => some .none
  | _, .bl b => some (.bool b)
  | _, .int i => some (.int i)
  | _, .str s => some (.str s)
  | f + 1, .ref n => (match h.get n with
    | some (.lst xs) => (mapD (toD h f) xs).map .list
    | some (.fz xs) => (mapD (toD h f) xs).map .list
    | some (.tup xs) => (mapD (toD h f) xs).map .tuple
    | _ => none)
  | _, _ => none
theorem mapD_ok {K : PySem.W.Frag} {ρ : Rho} {H : Hp} {f : Val → Option PyData} (hf : ∀ v x d, RV K ρ v x → f v = some d → Dp K H x d) : ∀ {vs : List Val} {xs : List V} {ds : List PyData}, RVs K ρ vs xs → mapD f vs = some ds → DpAll K H xs ds
  | _, _, ds, .nil, e => by cases e; exact .nil
  | _, _, ds, .cons (a := v) (l₁ := vs) r t, e => by
    unfold mapD at e
    cases q1 : f v with
    | none => simp [q1] at e
    | some d => cases q2 : mapD f vs with
      | none => simp [q1, q2] at e
      | some ds' =>
        simp only [q1, q2] at e
        cases e
        exact .cons (hf v _ d r q1) (mapD_ok hf t q2)
theorem toD_ok {K : PySem.W.Frag} {ρ : Rho} {h : Hc} {H : Hp} (R : Rel K ρ h H) : ∀ (f : Nat) (v : Val) (x : V) (d : PyData), RV K ρ v x → toD h f v = some d → Dp K H x d := by
  intro f
  induction f with
  | zero =>
    intro v x d r e
    cases v with
    | non => cases r; cases e; exact .non
    | bl b => cases r; cases e; exact .bl b
    | int b => cases r; cases e; exact .int b
    | str b => cases r; cases e; exact .str b
    | _ => cases e
  | succ f ih =>
    intro v x d r e
    cases v with
    | non => cases r; cases e; exact .non
    | bl b => cases r; cases e; exact .bl b
    | int b => cases r; cases e; exact .int b
    | str b => cases r; cases e; exact .str b
    | ref n =>
      obtain ⟨a, ea, rfl⟩ := r
      unfold toD at e
      cases q : h.get n with
      | none => simp [q] at e
      | some c =>
        have i := R.at ea q
        cases c with
        | lst xs =>
          simp only [q] at e
          cases q2 : mapD (toD h f) xs with
          | none => simp [q2] at e
          | some ds =>
            simp only [q2, Option.map] at e
            cases e
            obtain ⟨ys, ry, hy⟩ := i
            exact .lst (.inl (.inl hy)) (mapD_ok ih ry q2)
        | fz xs =>
          simp only [q] at e
          cases q2 : mapD (toD h f) xs with
          | none => simp [q2] at e
          | some ds =>
            simp only [q2, Option.map] at e
            cases e
            obtain ⟨o, ys, ry, hy⟩ := i
            exact .lst (.inl (.inr ⟨o, hy⟩)) (mapD_ok ih ry q2)
        | tup xs =>
          simp only [q] at e
          cases q2 : mapD (toD h f) xs with
          | none => simp [q2] at e
          | some ds =>
            simp only [q2, Option.map] at e
            cases e
            obtain ⟨ys, ry, hy⟩ := i
            exact .tup (.inl (.inl hy)) (mapD_ok ih ry q2)
        | _ => simp [q] at e
    | _ => cases e
def scalM : Val → Val → Bool
  | .non, .non | .non, .int _ | .int _, .non | .non, .bl _ | .bl _, .non | .non, .str _ | .str _, .non => true
  | .int _, .int _ | .bl _, .bl _ | .str _, .str _ | .int _, .str _ | .str _, .int _ | .bl _, .str _ | .str _, .bl _ => true
  | _, _ => false
theorem scalM_ok {K : PySem.W.Frag} {ρ : Rho} {a b : Val} {x y : V} (ra : RV K ρ a x) (rb : RV K ρ b y) (h : scalM a b = true) : scal x y = true ∧ decide (x = y) = decide (a = b) := by
  cases a <;> cases b <;> first | (cases h; done) | (cases ra; cases rb; simp [scal])
def cEq (neg : Bool) (a b : Val) : M Val := fun h => if scalM a b then .ok (.bl (xor neg (decide (a = b)))) h else match toD h 64 a, toD h 64 b with
  | some d, some e => if SeqAt.shaped d && SeqAt.shaped e then .ok (.bl (xor neg (PyData.eqv d e))) h else .bad
  | _, _ => .bad
theorem op_eq_m (hu : X.A.units + 64 < cLine) : OpM X (compareOp .Eq) (cEq false) := by
  refine ⟨_, op_eq.or (op_eqD hu), ?_⟩
  intro W ρ h H a b x y Q R ra rb p
  unfold cEq at p
  cases z : scalM a b with
  | true =>
    simp only [z, if_true, Bool.false_xor] at p
    obtain ⟨h1, h2⟩ := scalM_ok ra rb z
    exact .inl ⟨h1, by rw [h2]; exact p ρ H _ (Le.refl _) R rfl⟩
  | false =>
    simp only [z, Bool.false_eq_true, if_false, Bool.false_xor] at p
    cases q1 : toD h 64 a with
    | none => simp only [q1] at p; exact p.elim
    | some d => cases q2 : toD h 64 b with
      | none => simp only [q1, q2] at p; exact p.elim
      | some e =>
        simp only [q1, q2] at p
        cases z2 : (SeqAt.shaped d && SeqAt.shaped e) with
        | false => simp only [z2, Bool.false_eq_true, if_false] at p; exact p.elim
        | true =>
          simp only [z2, if_true] at p
          obtain ⟨s1, s2⟩ := Bool.and_eq_true_iff.mp z2
          exact .inr ⟨d, e, toD_ok R 64 a x d ra q1, toD_ok R 64 b y e rb q2, s1, s2, p ρ H _ (Le.refl _) R rfl⟩
theorem op_ne_m (hu : X.A.units + 64 < cLine) : OpM X (compareOp .NotEq) (cEq true) := by
  refine ⟨_, op_ne.or (op_neD hu), ?_⟩
  intro W ρ h H a b x y Q R ra rb p
  unfold cEq at p
  cases z : scalM a b with
  | true =>
    simp only [z, if_true, Bool.true_xor] at p
    obtain ⟨h1, h2⟩ := scalM_ok ra rb z
    exact .inl ⟨h1, by rw [h2]; exact p ρ H _ (Le.refl _) R rfl⟩
  | false =>
    simp only [z, Bool.false_eq_true, if_false, Bool.true_xor] at p
    cases q1 : toD h 64 a with
    | none => simp only [q1] at p; exact p.elim
    | some d => cases q2 : toD h 64 b with
      | none => simp only [q1, q2] at p; exact p.elim
      | some e =>
        simp only [q1, q2] at p
        cases z2 : (SeqAt.shaped d && SeqAt.shaped e) with
        | false => simp only [z2, Bool.false_eq_true, if_false] at p; exact p.elim
        | true =>
          simp only [z2, if_true] at p
          obtain ⟨s1, s2⟩ := Bool.and_eq_true_iff.mp z2
          exact .inr ⟨d, e, toD_ok R 64 a x d ra q1, toD_ok R 64 b y e rb q2, s1, s2, p ρ H _ (Le.refl _) R rfl⟩
end
end Mr
end
section
set_option Elab.async false
set_option linter.all false
set_option maxRecDepth 100000
set_option maxHeartbeats 2000000
/-! Mr, part 6: comprehensions; * and in; subscripts and slices. -/
namespace Mr
open PySem PySem.Spec PyProof.Rows L2
/-! ### comprehensions -/
/-- no error leaves a comprehension -/
abbrev W0 : WS := fun _ _ _ _ => False
def wipeM (e : Env) : List Nat → Env
  | [] => e
  | v :: vs => (wipeM e vs).set v none
theorem rs_wipe {K : PySem.W.Frag} {ρ : Rho} {e : Env} {σ : L2.St} (r : RS K ρ e σ) : ∀ vs : List Nat, RS K ρ (wipeM e vs) (wipe σ vs)
  | [] => r
  | v :: vs => by
    unfold wipeM wipe
    exact RS.unset (rs_wipe r vs) v
theorem wipe_comm {v : Nat} (σ : L2.St) (o : Option V) : ∀ {vs : List Nat}, v ∈ vs → wipe (σ.set v o) vs = wipe σ vs := by
  have comm : ∀ (vs : List Nat) (σ : L2.St), (wipe (σ.set v o) vs).set v none = (wipe σ vs).set v none := by
    intro vs
    induction vs with
    | nil => intro σ; show (σ.set v o).set v none = σ.set v none; rw [List.set_set]
    | cons u us ih =>
      intro σ
      show ((wipe (σ.set v o) us).set u none).set v none = ((wipe σ us).set u none).set v none
      by_cases e : u = v
      · subst e
        rw [List.set_set, List.set_set, ih]
      · rw [List.set_comm _ _ e, ih, List.set_comm _ _ e]
  intro vs
  induction vs generalizing σ with
  | nil => intro h; cases h
  | cons u us ih =>
    intro h
    show (wipe (σ.set v o) us).set u none = (wipe σ us).set u none
    by_cases e : u = v
    · subst e
      exact comm us σ
    · have h2 : v ∈ us := by
        rcases List.mem_cons.mp h with q | q
        · exact absurd q.symm e
        · exact q
      rw [ih σ h2]
/-- a comprehension's target: it stores the comprehension's own names alone -/
def GOk (K : PySem.W.Frag) (vs : List Nat) (t : TG) (g : GM) : Prop := ∀ ρ v x e σ h H (Q : L2.St → Hp → Prop), Rel K ρ h H → RV K ρ v x → RS K ρ e σ → (∃ e', g v e h = .ok e' h ∧ ∀ σ', RS K ρ e' σ' → wipe σ' vs = wipe σ vs → Q σ' H) → t x σ H Q
theorem go_name {K : PySem.W.Frag} {vs : List Nat} {i : Nat} (hi : i ∈ vs) : GOk K vs (gName i) (gNm i) := by
  intro ρ v x e σ h H Q R r rs ⟨e', eq, q⟩
  have : e' = e.set i (some v) := by
    unfold gNm at eq
    cases eq
    rfl
  subst this
  exact q _ (RS.set rs r i) (wipe_comm σ _ hi)
/-- the same of the parts of a tuple -/
def GsOk (K : PySem.W.Frag) (vs : List Nat) (t : TGs) (g : GsM) : Prop := ∀ ρ ws xs e σ h H (Q : L2.St → Hp → Prop), Rel K ρ h H → RVs K ρ ws xs → RS K ρ e σ → (∃ e', g ws e h = .ok e' h ∧ ∀ σ', RS K ρ e' σ' → wipe σ' vs = wipe σ vs → Q σ' H) → t xs σ H Q
theorem gso_nil {K : PySem.W.Frag} {vs : List Nat} : GsOk K vs gNil gsNil := by
  intro ρ ws xs e σ h H Q R r rs ⟨e', eq, q⟩
  cases r with
  | nil =>
    unfold gsNil at eq
    cases eq
    exact ⟨rfl, q σ rs rfl⟩
  | cons _ _ => cases eq
theorem gso_cons {K : PySem.W.Frag} {vs : List Nat} {i : Nat} {t : TGs} {g : GsM} (hi : i ∈ vs) (h2 : GsOk K vs t g) : GsOk K vs (gCons (gName i) t) (gsCons (gNm i) g) := by
  intro ρ ws xs e σ h H Q R r rs ⟨e', eq, q⟩
  cases r with
  | nil => cases eq
  | @cons w x ws' xs' r rr =>
    refine ⟨x, xs', rfl, ?_⟩
    exact h2 ρ ws' xs' _ _ h H Q R rr (RS.set rs r i) ⟨e', eq, fun σ' rs' hw => q σ' rs' (hw.trans (wipe_comm σ _ hi))⟩
theorem go_tup {K : PySem.W.Frag} {vs : List Nat} {n : Nat} {t : TGs} {g : GsM} (h2 : GsOk K vs t g) : GOk K vs (gTup K n t) (gTp n g) := by
  intro ρ v x e σ h H Q R r rs ⟨e', eq, q⟩
  cases v with
  | ref k =>
    unfold gTp at eq
    cases q1 : h.get k with
    | none => simp [q1] at eq
    | some c =>
      cases c with
      | tup xs =>
        simp only [q1] at eq
        by_cases z : xs.length = n
        · rw [if_pos z] at eq
          obtain ⟨a, ea, rfl⟩ := r
          obtain ⟨ys, ry, hy⟩ := R.at ea q1
          exact ⟨a, ys, rfl, .inl (.inl hy), by rw [← Paired.length ry]; exact z, h2 ρ xs ys e σ h H Q R ry rs ⟨e', eq, q⟩⟩
        · rw [if_neg z] at eq; cases eq
      | _ => simp [q1] at eq
  | _ => cases eq
def lcGo (it : ItM) (g : GM) (tt : TM) (te : EM) (e0 : Env) (d : Nat) : Nat → Nat → M Val
  | 0, _ => fun _ => .bad
  | f + 1, i => fun h => match it i h with
    | .ok none h1 => .ok (.ref d) h1
    | .ok (some v) h1 => (match g v e0 h1 with
      | .ok e2 h2 => (match tt e2 h2 with
        | .ok true h3 => (match te e2 h3 with
          | .ok y h4 => (match h4.get d with
            | some (.lst acc) => if acc.length < big then lcGo it g tt te e0 d f (i + 1) (h4.put d (.lst (acc ++ [y]))) else .bad
            | _ => .bad)
          | _ => .bad)
        | .ok false h3 => lcGo it g tt te e0 d f (i + 1) h3
        | _ => .bad)
      | _ => .bad)
    | _ => .bad
def eLc (mi : Env → M ItM) (g : GM) (tt : TM) (te : EM) (vs : List Nat) : EM := fun e h => (mi e h).bind fun it h1 => lcGo it g tt te (wipeM e vs) h1.n lid 0 (h1.new (.lst []))
/-- a target keeps the heap -/
def GKeep (g : GM) : Prop := ∀ v e h e' h', g v e h = .ok e' h' → h' = h
theorem gk_name {i : Nat} : GKeep (gNm i) := fun v e h e' h' q => by
  unfold gNm at q
  cases q
  rfl
def GsKeep (g : GsM) : Prop := ∀ v e h e' h', g v e h = .ok e' h' → h' = h
theorem gsk_nil : GsKeep gsNil := fun v e h e' h' q => by
  unfold gsNil at q
  cases v with
  | nil => cases q; rfl
  | cons _ _ => cases q
theorem gsk_cons {i : Nat} {g : GsM} (hg : GsKeep g) : GsKeep (gsCons (gNm i) g) := fun v e h e' h' q => by
  cases v with
  | nil => cases q
  | cons x r => exact hg r _ h e' h' q
theorem gk_tup {n : Nat} {g : GsM} (hg : GsKeep g) : GKeep (gTp n g) := fun v e h e' h' q => by
  cases v with
  | ref k =>
    unfold gTp at q
    cases q1 : h.get k with
    | none => simp [q1] at q
    | some c =>
      cases c with
      | tup xs =>
        simp only [q1] at q
        by_cases z : xs.length = n
        · rw [if_pos z] at q; exact hg _ _ _ _ _ q
        · rw [if_neg z] at q; cases q
      | _ => simp [q1] at q
  | _ => cases q
section
variable {X : Cx} {W : WS}
theorem lc_rd {mi : Env → M ItM} {tg : TG} {g : GM} {tt : TM} {te : EM} {vs : List Nat} (hg : GOk X.K vs tg g) (hk : GKeep g) {σ : L2.St} {H : Hp} {Q : VK} (h : rdE X.K W (eLc mi g tt te vs) σ H Q) :
    tLc (rdI X.K W mi) tg (rdT X.K W0 tt) (rdE X.K W0 te) vs σ H Q := by
  obtain ⟨ρ, en, hc, R, rs, p⟩ := h
  refine ⟨ρ, en, hc, R, rs, Post.mono (Post.bind (R := ItS X.K) p) fun J H1 ⟨ρ1, it, h1, l1, R1, r1, p1⟩ => ?_⟩
  intro D hD
  have RD : Rel X.K (ρ1.add h1.n D) (h1.new (.lst [])) (upd H1 D (.lst [])) := R1.new hD (fun b o e => by rw [upd_ne (ne_of_none e hD)]; exact e) ⟨[], .nil, upd_same⟩
  have lD := R1.le_add D
  have eD : (ρ1.add h1.n D).f h1.n = some D := Rho.add_at _ _ _
  refine ⟨fun i m H' => ∃ ρ h, Le (ρ1.add h1.n D) ρ ∧ Rel X.K ρ h H' ∧ Post X.K (RV X.K) ρ (lcGo it g tt te (wipeM en vs) h1.n m i h) Q (fun c d H => W c d σ H), ⟨lid, _, _, Le.refl _, RD, Post.later p1 lD⟩, ?_⟩
  rintro i m H' ⟨ρ2, h2, l2, R2, p2⟩
  cases m with
  | zero => exact p2.elim
  | succ m =>
    have js := r1 i ρ2 h2 H' (lD.trans l2) R2
    unfold lcGo at p2
    cases q : it i h2 with
    | exc c d h' => simp only [q] at p2; exact p2.elim
    | bad => simp only [q] at p2; exact p2.elim
    | ok o h' =>
      cases o with
      | none =>
        simp only [q] at p2 js
        exact .inl ⟨js.2, p2 ρ2 H' _ (Le.refl _) (js.1 ▸ R2) ⟨D, l2.f _ _ eD, rfl⟩⟩
      | some v =>
        simp only [q] at p2 js
        refine .inr ⟨js.1, fun H'' => ∃ ρ h, Le (ρ1.add h1.n D) ρ ∧ Rel X.K ρ h H'' ∧ Post X.K (RV X.K) ρ (lcGo it g tt te (wipeM en vs) h1.n m (i + 1) h) Q (fun c d H => W c d σ H), fun H'' n => ⟨m, Nat.lt_succ_self m, n⟩, fun x H3 y => ?_⟩
        obtain ⟨ρ3, l3, R3, r3⟩ := js.2 x H3 y
        have rsw : RS X.K ρ3 (wipeM en vs) (wipe σ vs) := rs_wipe (RS.mono (l1.trans (lD.trans (l2.trans l3))) rs) vs
        cases q2 : g v (wipeM en vs) h' with
        | exc _ _ _ => simp only [q2] at p2; exact p2.elim
        | bad => simp only [q2] at p2; exact p2.elim
        | ok e2 h'' =>
          have hh := hk _ _ _ _ _ q2
          subst hh
          simp only [q2] at p2
          have ww : wipe (wipe σ vs) vs = wipe σ vs := by
            have gen : ∀ (us : List Nat), (∀ v ∈ us, v ∈ vs) → wipe (wipe σ vs) us = wipe σ vs := by
              intro us
              induction us with
              | nil => intro _; rfl
              | cons u us ih =>
                intro hu
                show (wipe (wipe σ vs) us).set u none = wipe σ vs
                rw [ih fun v hv => hu v (List.mem_cons_of_mem _ hv)]
                have key : ∀ (ws : List Nat), u ∈ ws → (wipe σ ws).set u none = wipe σ ws := by
                  intro ws
                  induction ws with
                  | nil => intro h; cases h
                  | cons w ws ih2 =>
                    intro hw
                    show ((wipe σ ws).set w none).set u none = (wipe σ ws).set w none
                    by_cases e : w = u
                    · subst e; rw [List.set_set]
                    · rw [List.set_comm _ _ e, ih2 (by rcases List.mem_cons.mp hw with z | z; exact absurd z.symm e; exact z)]
                exact key vs (hu u List.mem_cons_self)
            exact gen vs fun v hv => hv
          refine hg ρ3 v x (wipeM en vs) (wipe σ vs) h'' H3 _ R3 r3 rsw ⟨e2, q2, fun σ' rs' hw => ⟨hw.trans ww, ?_⟩⟩
          refine ⟨ρ3, e2, h'', R3, rs', ?_⟩
          cases q3 : tt e2 h'' with
          | exc _ _ _ => simp only [q3] at p2; exact p2.elim
          | bad => simp only [q3] at p2; exact p2.elim
          | ok b h4 =>
            intro ρ4 H4 b' l4 R4 hb
            have hb : b = b' := hb
            subst hb
            cases b with
            | false =>
              simp only [q3] at p2
              rw [if_neg Bool.false_ne_true]
              exact ⟨ρ4, h4, l2.trans (l3.trans l4), R4, Post.later p2 (l3.trans l4)⟩
            | true =>
              simp only [q3] at p2
              rw [if_pos rfl]
              refine ⟨ρ4, e2, h4, R4, RS.mono l4 rs', ?_⟩
              cases q4 : te e2 h4 with
              | exc _ _ _ => simp only [q4] at p2; exact p2.elim
              | bad => simp only [q4] at p2; exact p2.elim
              | ok z h5 =>
                simp only [q4] at p2
                intro ρ5 H5 zv l5 R5 rz
                cases q5 : h5.get h1.n with
                | none => simp only [q5] at p2; exact p2.elim
                | some c =>
                  cases c with
                  | lst acc =>
                    simp only [q5] at p2
                    have eD5 := l5.f _ _ (l4.f _ _ (l3.f _ _ (l2.f _ _ eD)))
                    obtain ⟨ys, ry, hy⟩ := R5.at eD5 q5
                    by_cases zz : acc.length < big
                    · rw [if_pos zz] at p2
                      refine ⟨ys, hy, by rw [← big_eq, ← Paired.length ry]; exact zz, ρ5, _, l2.trans (l3.trans (l4.trans l5)), R5.put eD5 (img_lst (xs := acc ++ [z]) (Paired.append ry (.cons rz .nil))), Post.later p2 (l3.trans (l4.trans l5))⟩
                    · rw [if_neg zz] at p2; exact p2.elim
                  | _ => simp only [q5] at p2; exact p2.elim
variable {elt tg iter : Expr} {ifs : List Expr} {scope : Scope} {own : List (Str × Nat)} {pos : Pos} {mi : Env → M ItM} {t : TG} {g : GM} {tt : TM} {te : EM}
theorem se_lc (hc : X.calm = true) (hN : X.N.Nodup) (hi : PI X tg iter (rdI X.K W mi)) (ok : BlkOk X.N X.env.scope scope own) (hgo : GOk X.K (own.map (·.2)) t g) (hgk : GKeep g)
    (hg : ∀ (s : Shared) (H : Hp) (C : Addr) (cl : List (Str × Addr)) (fp : List Addr), PG (X.blk s H scope (compEnvC scope cl C X.env) fp) tg t)
    (ht : ∀ (s : Shared) (H : Hp) (C : Addr) (cl : List (Str × Addr)) (fp : List Addr), PTs (X.blk s H scope (compEnvC scope cl C X.env) fp) ifs (rdT X.K W0 tt))
    (he : ∀ (s : Shared) (H : Hp) (C : Addr) (cl : List (Str × Addr)) (fp : List Addr), PE (X.blk s H scope (compEnvC scope cl C X.env) fp) elt (rdE X.K W0 te)) (hs : ∀ x, foldedSetIterable iter X.env x = pure x := by intro _; rfl) :
    PE X (.ListComp elt [⟨tg, iter, ifs, 0⟩] scope pos) (rdE X.K W (eLc mi g tt te (own.map (·.2)))) :=
  (pe_lc hc hN hi ok hg ht he hs).imp fun σ H Q q => lc_rd hgo hgk q
/-- y = [..] -/
theorem s_setLc {i : Nat} {y : Str} {py spos : Pos} (hc : X.calm = true) (hN : X.N.Nodup) (hy : X.N[i]? = some y) (hyl : X.env.scope.names.lookup y = some .local) (hsw : swapsWith (.ListComp elt [⟨tg, iter, ifs, 0⟩] scope pos) (some (.Name y py)) spos.line X.env = pure true)
    (hi : PI X tg iter (rdI X.K W mi)) (ok : BlkOk X.N X.env.scope scope own) (hgo : GOk X.K (own.map (·.2)) t g) (hgk : GKeep g)
    (hg : ∀ (s : Shared) (H : Hp) (C : Addr) (cl : List (Str × Addr)) (fp : List Addr), PG (X.blk s H scope (compEnvC scope cl C X.env) fp) tg t)
    (ht : ∀ (s : Shared) (H : Hp) (C : Addr) (cl : List (Str × Addr)) (fp : List Addr), PTs (X.blk s H scope (compEnvC scope cl C X.env) fp) ifs (rdT X.K W0 tt))
    (he : ∀ (s : Shared) (H : Hp) (C : Addr) (cl : List (Str × Addr)) (fp : List Addr), PE (X.blk s H scope (compEnvC scope cl C X.env) fp) elt (rdE X.K W0 te)) (hs : ∀ x, foldedSetIterable iter X.env x = pure x := by intro _; rfl) :
    PS X (.Assign [.Name y py] (.ListComp elt [⟨tg, iter, ifs, 0⟩] scope pos) spos) (rdS X.K W (sAsg (eLc mi g tt te (own.map (·.2))) (gNm i))) := by
  refine (ps_setLc hc hN hy hyl hsw hi ok hg ht he hs).imp fun D σ H q => ?_
  obtain ⟨ρ, en, h, R, rs, p⟩ := q
  refine lc_rd hgo hgk ⟨ρ, en, h, R, rs, Post.mono (PostS.into (R := RV X.K) p rs) fun x H1 ⟨ρ1, v, h1, l1, R1, r1, p1⟩ => ?_⟩
  exact p1 ρ1 H1 _ (Le.refl _) R1 (RS.set (RS.mono l1 rs) r1 i)
def tYes' : TM := fun _ h => .ok true h
theorem st_yes : PTs X [] (rdT X.K W tYes') := ⟨fun pins s σ H Q I ⟨ρ, e, h, R, rs, p⟩ => pts_nil.run pins s σ H Q I (p ρ H true (Le.refl _) R rfl)⟩

/-! ### *, in -/
theorem replicate_pair {K : PySem.W.Frag} {ρ : Rho} {xs : List Val} {ys : List V} (r : RVs K ρ xs ys) : ∀ n : Nat, RVs K ρ (List.replicate n xs).flatten (List.replicate n ys).flatten
  | 0 => .nil
  | n + 1 => by
    rw [List.replicate_succ, List.replicate_succ, List.flatten_cons, List.flatten_cons]
    exact Paired.append r (replicate_pair r n)
theorem op_mul_m : OpM X (binaryOp .Mult) bMul := by
  refine ⟨_, op_mul.or op_rep, ?_⟩
  intro W ρ h H a b x y Q R ra rb p
  cases a with
  | int i => cases b with
    | int j =>
      cases ra; cases rb
      by_cases z : -(2 ^ 64) < i ∧ i < 2 ^ 64 ∨ -(2 ^ 64) < j ∧ j < 2 ^ 64
      · simp only [bMul, if_pos z] at p
        exact .inl ⟨i, j, rfl, rfl, z, p ρ H _ (Le.refl _) R rfl⟩
      · simp only [bMul, if_neg z] at p; exact p.elim
    | _ => exact p.elim
  | ref n => cases b with
    | int k =>
      obtain ⟨pa, ea, rfl⟩ := ra
      cases rb
      cases q1 : h.get n with
      | none => simp only [bMul, q1] at p; exact p.elim
      | some c => cases c with
        | lst xs =>
          simp only [bMul, q1] at p
          obtain ⟨us, ru, hu⟩ := R.at ea q1
          by_cases z : -(2 ^ 63) ≤ k ∧ k < 2 ^ 63 ∧ xs.length * k.toNat ≤ big
          · rw [if_pos z] at p
            exact .inr ⟨pa, k, us, rfl, rfl, hu, z.1, z.2.1, by rw [← big_eq, ← Paired.length ru]; exact z.2.2, fun q hq => laid R p hq fun ρ' l => img_lst (replicate_pair (RVs.mono l ru) _)⟩
          · rw [if_neg z] at p; exact p.elim
        | _ => simp only [bMul, q1] at p; exact p.elim
    | _ => exact p.elim
  | _ => cases b <;> exact p.elim
def flatM : Val → Bool
  | .non | .bl _ | .int _ | .str _ => true
  | _ => false
def eqM : Val → Val → Bool
  | .non, .non => true
  | .bl a, .bl b => a == b
  | .bl a, .int b => (if a then 1 else 0) == b
  | .int a, .bl b => a == (if b then 1 else 0)
  | .int a, .int b => a == b
  | .str a, .str b => a == b
  | _, _ => false
theorem flat_ok {K : PySem.W.Frag} {ρ : Rho} {v : Val} {x : V} (r : RV K ρ v x) (h : flatM v = true) : flatV x = true := by
  cases v <;> first | (cases h; done) | (cases r; rfl)
theorem eqM_ok {K : PySem.W.Frag} {ρ : Rho} {v w : Val} {x y : V} (r : RV K ρ v x) (q : RV K ρ w y) (h : flatM v = true) (h' : flatM w = true) : eqV x y = eqM v w := by
  cases v <;> first | (cases h; done) | (cases w <;> first | (cases h'; done) | (cases r; cases q; rfl))
theorem flats_ok {K : PySem.W.Frag} {ρ : Rho} {vs : List Val} {xs : List V} (r : RVs K ρ vs xs) (h : vs.all flatM = true) : xs.all flatV = true := by
  induction r with
  | nil => rfl
  | cons a _ ih =>
    rw [List.all_cons] at h ⊢
    obtain ⟨h1, h2⟩ := Bool.and_eq_true_iff.mp h
    rw [flat_ok a h1, ih h2]
    rfl
theorem any_ok {K : PySem.W.Frag} {ρ : Rho} {vs : List Val} {xs : List V} {w : Val} {y : V} (r : RVs K ρ vs xs) (q : RV K ρ w y) (h : vs.all flatM = true) (h' : flatM w = true) : inV y xs = vs.any fun v => eqM v w := by
  unfold inV
  induction r with
  | nil => rfl
  | cons a _ ih =>
    rw [List.all_cons] at h
    obtain ⟨h1, h2⟩ := Bool.and_eq_true_iff.mp h
    rw [List.any_cons, List.any_cons, eqM_ok a q h1 h', ih h2]
/-- in, not in: texts; lists and tuples of flat things; lists of data -/
def cIn (T : Con) (neg : Bool) (a b : Val) : M Val := fun h => match b with
  | .str t => (match a with
    | .str s => (match s.cps.toList with
      | [c] => .ok (.bl (xor neg (decide (c ∈ t.cps.toList)))) h
      | _ => .ok (.bl (xor neg (!(Builtin.Str.occurrences t s 0 t.length 1).isEmpty))) h)
    | _ => .bad)
  | _ => (match seqOf T h b with
    | some (k, xs) => if flatM a && xs.all flatM then .ok (.bl (xor neg (xs.any fun v => eqM v a))) h else if k then .bad else (match toD h 64 a, toD h 64 b with
      | some d, some (.list ds) => if SeqAt.shaped d && SeqAt.shaped (.list ds) then .ok (.bl (xor neg (ds.any fun z => PyData.eqv z d))) h else .bad
      | _, _ => .bad)
    | none => .bad)
theorem str_one {s : Str} {c : Nat} (h : s.cps.toList = [c]) : s = ⟨#[c]⟩ := by
  cases s with
  | mk cps =>
    have : cps = #[c] := by
      apply Array.toList_inj.mp
      exact h
    rw [this]
theorem cIn_ok {T : Con} (hT : ConOk X.K T) {neg : Bool} {r1 r2 r3 r4 : R2} (h1 : ∀ (c : Nat) (z : Str) H (Q : VK), Q (.bl (xor neg (decide (c ∈ z.cps.toList)))) H → r1 (.str ⟨#[c]⟩) (.str z) H Q)
    (h2 : ∀ (i j : Str) H (Q : VK), Q (.bl (xor neg (!(Builtin.Str.occurrences j i 0 j.length 1).isEmpty))) H → r2 (.str i) (.str j) H Q)
    (h3 : ∀ (x : V) p xs H (Q : VK), (SqL X.K H p xs ∨ SqT X.K H p xs) → flatV x = true → xs.all flatV = true → Q (.bl (xor neg (inV x xs))) H → r3 x (.ref p) H Q)
    (h4 : ∀ (x y : V) d ds H (Q : VK), Dp X.K H x d → Dp X.K H y (.list ds) → SeqAt.shaped d = true → SeqAt.shaped (.list ds) = true → Q (.bl (xor neg (ds.any fun z => PyData.eqv z d))) H → r4 x y H Q) :
    OpS X (fun x y H Q => r1 x y H Q ∨ r2 x y H Q ∨ r3 x y H Q ∨ r4 x y H Q) (cIn T neg) := by
  intro W ρ h H a b x y Q R ra rb p
  have rest : (∀ t, b ≠ .str t) → r1 x y H Q ∨ r2 x y H Q ∨ r3 x y H Q ∨ r4 x y H Q := by
    intro hb
    have p : Post X.K (RV X.K) ρ (match seqOf T h b with
      | some (k, xs) => if flatM a && xs.all flatM then .ok (.bl (xor neg (xs.any fun v => eqM v a))) h else if k then .bad else (match toD h 64 a, toD h 64 b with
        | some d, some (.list ds) => if SeqAt.shaped d && SeqAt.shaped (.list ds) then .ok (.bl (xor neg (ds.any fun z => PyData.eqv z d))) h else .bad
        | _, _ => .bad)
      | none => .bad) Q W := by
      cases b <;> first | exact absurd rfl (hb _) | exact p
    cases q : seqOf T h b with
    | none => simp only [q] at p; exact p.elim
    | some kx =>
      obtain ⟨k, xs⟩ := kx
      simp only [q] at p
      obtain ⟨pa, ys, rfl, ry, hl, ht⟩ := seq_ok hT R rb q
      have sq : SqL X.K H pa ys ∨ SqT X.K H pa ys := by
        cases k with
        | false => exact .inl (hl rfl)
        | true => exact .inr (ht rfl)
      cases z : (flatM a && xs.all flatM) with
      | true =>
        simp only [z, if_true] at p
        obtain ⟨z1, z2⟩ := Bool.and_eq_true_iff.mp z
        exact .inr (.inr (.inl (h3 x pa ys H Q sq (flat_ok ra z1) (flats_ok ry z2) (by rw [any_ok ry ra z2 z1]; exact p ρ H _ (Le.refl _) R rfl))))
      | false =>
        simp only [z, Bool.false_eq_true, if_false] at p
        cases k with
        | true => exact p.elim
        | false =>
          simp only [Bool.false_eq_true, if_false] at p
          cases q1 : toD h 64 a with
          | none => simp only [q1] at p; exact p.elim
          | some d => cases q2 : toD h 64 b with
            | none => simp only [q1, q2] at p; exact p.elim
            | some e =>
              cases e with
              | list ds =>
                simp only [q1, q2] at p
                cases z2 : (SeqAt.shaped d && SeqAt.shaped (.list ds)) with
                | false => simp only [z2, Bool.false_eq_true, if_false] at p; exact p.elim
                | true =>
                  simp only [z2, if_true] at p
                  obtain ⟨s1, s2⟩ := Bool.and_eq_true_iff.mp z2
                  exact .inr (.inr (.inr (h4 x (.ref pa) d ds H Q (toD_ok R 64 a x d ra q1) (toD_ok R 64 b _ _ rb q2) s1 s2 (p ρ H _ (Le.refl _) R rfl))))
              | _ => simp only [q1, q2] at p; exact p.elim
  cases b with
  | str t =>
    cases rb
    cases a with
    | str s =>
      cases ra
      unfold cIn at p
      cases q : s.cps.toList with
      | nil =>
        simp only [q] at p
        exact .inr (.inl (h2 s t H Q (p ρ H _ (Le.refl _) R rfl)))
      | cons c r =>
        cases r with
        | nil =>
          simp only [q] at p
          have e := str_one q
          subst e
          exact .inl (h1 c t H Q (p ρ H _ (Le.refl _) R rfl))
        | cons c2 r2 =>
          simp only [q] at p
          exact .inr (.inl (h2 s t H Q (p ρ H _ (Le.refl _) R rfl)))
    | _ => exact p.elim
  | _ => exact rest fun _ z => by cases z
theorem op_in_m {T : Con} (hT : ConOk X.K T) (hu : X.A.units + 65 < cLine) : OpM X (compareOp .In) (cIn T false) := by
  refine ⟨_, op_in_sign.or (op_in_str.or (op_in_seq.or (op_inD hu))), cIn_ok hT (fun c z H Q q => ⟨c, z, rfl, rfl, by simpa using q⟩) (fun i j H Q q => ⟨i, j, rfl, rfl, by simpa using q⟩) (fun x p xs H Q h f fs q => ⟨p, xs, rfl, h, f, fs, by simpa using q⟩)
    fun x y d ds H Q hx hy s1 s2 q => ⟨d, ds, hx, hy, s1, s2, by simpa using q⟩⟩
theorem op_notIn_m {T : Con} (hT : ConOk X.K T) (hu : X.A.units + 65 < cLine) : OpM X (compareOp .NotIn) (cIn T true) := by
  refine ⟨_, op_notIn_sign.or (op_notIn_str.or (op_notIn_seq.or (op_notInD hu))), cIn_ok hT (fun c z H Q q => ⟨c, z, rfl, rfl, by simpa using q⟩) (fun i j H Q q => ⟨i, j, rfl, rfl, by simpa using q⟩) (fun x p xs H Q h f fs q => ⟨p, xs, rfl, h, f, fs, by simpa using q⟩)
    fun x y d ds H Q hx hy s1 s2 q => ⟨d, ds, hx, hy, s1, s2, by simpa using q⟩⟩

/-! ### subscripts, slices -/
def ixM (T : Con) (a b : Val) : M Val := fun h => match b with
  | .int i => (match a with
    | .str s => if s.length ≤ big then (match atI s.cps.toList i with
      | some c => .ok (.str ⟨#[c]⟩) h
      | none => .bad) else .bad
    | _ => (match seqOf T h a with
      | some (_, xs) => (match atI xs i with
        | some v => .ok v h
        | none => .bad)
      | none => .bad))
  | _ => .bad
theorem atI_pair {K : PySem.W.Frag} {ρ : Rho} {xs : List Val} {ys : List V} (r : RVs K ρ xs ys) {i : Int} {v : Val} (e : atI xs i = some v) : ∃ x, atI ys i = some x ∧ RV K ρ v x := by
  unfold atI at e ⊢
  rw [← Paired.length r]
  cases q : ixN xs.length i with
  | none => rw [q] at e; cases e
  | some j =>
    rw [q] at e
    obtain ⟨y, hy, f⟩ := Paired.get r (show xs[j]? = some v from e)
    exact ⟨y, hy, f⟩
theorem ix_m {T : Con} (hT : ConOk X.K T) : IxM X (ixM T) := by
  refine ⟨_, ix_list.or (ix_tup.or ix_str), ?_⟩
  intro W ρ h H a b x y Q R ra rb p
  cases b with
  | int i =>
    cases rb
    have rest : (∀ s, a ≠ .str s) → rIxL X.K x (.int i) H Q ∨ rIxT X.K x (.int i) H Q ∨ rIxS x (.int i) H Q := by
      intro ha
      have p : Post X.K (RV X.K) ρ (match seqOf T h a with
        | some (_, xs) => (match atI xs i with
          | some v => .ok v h
          | none => .bad)
        | none => .bad) Q W := by
        cases a <;> first | exact absurd rfl (ha _) | exact p
      cases q : seqOf T h a with
      | none => simp only [q] at p; exact p.elim
      | some kx =>
        obtain ⟨k, xs⟩ := kx
        simp only [q] at p
        cases q2 : atI xs i with
        | none => simp only [q2] at p; exact p.elim
        | some v =>
          simp only [q2] at p
          obtain ⟨pa, ys, rfl, ry, hl, ht⟩ := seq_ok hT R ra q
          obtain ⟨z, hz, rz⟩ := atI_pair ry q2
          cases k with
          | false => exact .inl ⟨pa, ys, i, z, rfl, rfl, hl rfl, hz, p ρ H _ (Le.refl _) R rz⟩
          | true => exact .inr (.inl ⟨pa, ys, i, z, rfl, rfl, ht rfl, hz, p ρ H _ (Le.refl _) R rz⟩)
    cases a with
    | str s =>
      cases ra
      unfold ixM at p
      by_cases z : s.length ≤ big
      · simp only [if_pos z] at p
        cases q : atI s.cps.toList i with
        | none => simp only [q] at p; exact p.elim
        | some c =>
          simp only [q] at p
          exact .inr (.inr ⟨s, i, c, rfl, rfl, by rw [← big_eq]; exact z, q, p ρ H _ (Le.refl _) R rfl⟩)
      · simp only [if_neg z] at p; exact p.elim
    | _ => exact rest fun _ z => by cases z
  | _ => exact p.elim
variable {a b : Expr} {ma mb : EM}
theorem se_ix {f : Val → Val → M Val} (ho : IxM X f) (ha : PE X a (rdE X.K W ma)) (hb : PE X b (rdE X.K W mb)) (hs : PlainIx b := by exact fun _ _ => rfl) : PE X (.Subscript a b pos) (rdE X.K W (eBin f ma mb)) := by
  obtain ⟨r, h1, h2⟩ := ho
  exact (pe_ix h1 ha hb hs).imp fun σ H Q q => two h2 q
def cutM (xs : List Val) (lo hi : Option Int) : List Val := (xs.drop (HT.sIx xs.length 0 lo)).take (HT.sIx xs.length xs.length hi - HT.sIx xs.length 0 lo)
theorem cut_pair {K : PySem.W.Frag} {ρ : Rho} {xs : List Val} {ys : List V} (r : RVs K ρ xs ys) (lo hi : Option Int) : RVs K ρ (cutM xs lo hi) (cutV ys lo hi) := by
  unfold cutM cutV
  rw [← Paired.length r]
  exact Paired.take (Paired.drop r _) _
def slM (T : Con) (a : Val) (lo hi : Option Int) : M Val := fun h => match a with
  | .str s => if s.length ≤ big then .ok (.str (cutS s lo hi)) h else .bad
  | _ => (match seqOf T h a with
    | some (false, xs) => .ok (.ref h.n) (h.new (.lst (cutM xs lo hi)))
    | some (true, xs) => if HT.sIx xs.length 0 lo = 0 ∧ HT.sIx xs.length xs.length hi = xs.length then .ok a h else .ok (.ref h.n) (h.new (.tup (cutM xs lo hi)))
    | none => .bad)
theorem sl_m {T : Con} (hT : ConOk X.K T) : SlM X (slM T) := by
  refine ⟨_, sl_list.or (sl_tupA.or sl_str), ?_⟩
  intro W ρ h H a x lo hi Q R ra p
  have rest : (∀ s, a ≠ .str s) → rSlL X.K x lo hi H Q ∨ rSlA X.K x lo hi H Q ∨ rSlS x lo hi H Q := by
    intro ha
    have p : Post X.K (RV X.K) ρ (match seqOf T h a with
      | some (false, xs) => .ok (.ref h.n) (h.new (.lst (cutM xs lo hi)))
      | some (true, xs) => if HT.sIx xs.length 0 lo = 0 ∧ HT.sIx xs.length xs.length hi = xs.length then .ok a h else .ok (.ref h.n) (h.new (.tup (cutM xs lo hi)))
      | none => .bad) Q W := by
      cases a <;> first | exact absurd rfl (ha _) | exact p
    cases q : seqOf T h a with
    | none => simp only [q] at p; exact p.elim
    | some kx =>
      obtain ⟨k, xs⟩ := kx
      obtain ⟨pa, ys, rfl, ry, hl, ht⟩ := seq_ok hT R ra q
      cases k with
      | false =>
        simp only [q] at p
        exact .inl ⟨pa, ys, rfl, hl rfl, fun l hl' => laid R p hl' fun ρ' l => img_lst (cut_pair (RVs.mono l ry) lo hi)⟩
      | true =>
        simp only [q] at p
        refine .inr (.inl ⟨pa, ys, rfl, ht rfl, fun e => ?_, fun e l hl' => ?_⟩)
        · rw [if_pos (by rw [Paired.length ry]; exact e)] at p
          exact p ρ H _ (Le.refl _) R ra
        · rw [if_neg (by rw [Paired.length ry]; exact e)] at p
          exact laid R p hl' fun ρ' l => img_tup (cut_pair (RVs.mono l ry) lo hi)
  cases a with
  | str s =>
    cases ra
    unfold slM at p
    by_cases z : s.length ≤ big
    · simp only [if_pos z] at p
      exact .inr (.inr ⟨s, rfl, by rw [← big_eq]; exact z, p ρ H _ (Le.refl _) R rfl⟩)
    · simp only [if_neg z] at p; exact p.elim
  | _ => exact rest fun _ z => by cases z
/-- a part of a slice -/
abbrev OM := Env → M (Option Int)
def rdO (K : PySem.W.Frag) (W : WS) (m : OM) : TO := fun σ H Q => ∃ ρ e h, Rel K ρ h H ∧ RS K ρ e σ ∧ Post K (fun _ a b => a = b) ρ (m e h) Q (fun c d H => W c d σ H)
theorem _root_.L2.PO.imp {o : Option Expr} {t t' : TO} (h : PO X o t) (i : ∀ σ H Q, t' σ H Q → t σ H Q) : PO X o t' := ⟨fun pins s σ H Q I q => h.run pins s σ H Q I (i _ _ _ q)⟩
def oNone : OM := fun _ h => .ok none h
def oSome (m : EM) : OM := fun e h => (m e h).bind fun v h1 => match v with
  | .int i => .ok (some i) h1
  | _ => .bad
theorem so_none : PO X none (rdO X.K W oNone) := po_none.imp fun σ H Q ⟨ρ, en, hc, R, rs, p⟩ => p ρ H none (Le.refl _) R rfl
theorem so_some (ha : PE X a (rdE X.K W ma)) : PO X (some a) (rdO X.K W (oSome ma)) := by
  refine (po_some ha).imp fun σ H Q ⟨ρ, en, hc, R, rs, p⟩ => ?_
  refine ⟨ρ, en, hc, R, rs, Post.mono (Post.bind (R := RV X.K) p) fun x H1 ⟨ρ1, v, h1, l1, R1, r1, p1⟩ => ?_⟩
  cases v with
  | int i => exact ⟨i, r1, p1 ρ1 H1 _ (Le.refl _) R1 rfl⟩
  | _ => exact p1.elim
def eSl (f : Val → Option Int → Option Int → M Val) (m : EM) (lo hi : OM) : EM := fun e h => (m e h).bind fun v h1 => (lo e h1).bind fun i h2 => (hi e h2).bind fun j h3 => f v i j h3
theorem se_sl {f : Val → Option Int → Option Int → M Val} {lo hi : Option Expr} {mlo mhi : OM} {p2 : Pos} (hr : SlM X f) (ha : PE X a (rdE X.K W ma)) (hl : PO X lo (rdO X.K W mlo)) (hh : PO X hi (rdO X.K W mhi)) : PE X (.Subscript a (.Slice lo hi none p2) pos) (rdE X.K W (eSl f ma mlo mhi)) := by
  obtain ⟨r, h1, h2⟩ := hr
  refine (pe_slice h1 ha hl hh).imp fun σ H Q ⟨ρ, en, hc, R, rs, p⟩ => ?_
  refine ⟨ρ, en, hc, R, rs, Post.mono (Post.bind (R := RV X.K) p) fun x H1 ⟨ρ1, v, hh1, l1, R1, r1, p1⟩ => ?_⟩
  refine ⟨ρ1, en, hh1, R1, RS.mono l1 rs, Post.mono (Post.bind (R := fun _ a b => a = b) p1) fun i H2 ⟨ρ2, i', hh2, l2, R2, r2, p2⟩ => ?_⟩
  have r2 : i' = i := r2
  subst r2
  refine ⟨ρ2, en, hh2, R2, RS.mono (l1.trans l2) rs, Post.mono (Post.bind (R := fun _ a b => a = b) p2) fun j H3 ⟨ρ3, j', hh3, l3, R3, r3, p3⟩ => ?_⟩
  have r3 : j' = j := r3
  subst r3
  exact h2 _ ρ3 hh3 H3 v x _ _ Q R3 (r1.mono (l2.trans l3)) p3
end
end Mr
end
section
set_option Elab.async false
set_option linter.all false
set_option maxRecDepth 100000
set_option maxHeartbeats 2000000
/-! Mr, part 7: built-in functions, methods of lists, dicts. -/
namespace Mr
open PySem PySem.Spec PyProof.Rows L2
section
variable {X : Cx} {W : WS} {e : Expr} {es : List Expr} {mas : AM} {pos p : Pos}
def eFn (g : List Val → M Val) (m : AM) : EM := fun e h => (m e h).bind fun as h1 => g as h1
theorem fn_rd {r : List V → Hp → VK → Prop} {g : List Val → M Val} (hs : CallS X r g) {σ : L2.St} {H : Hp} {Q : VK} (h : rdE X.K W (eFn g mas) σ H Q) : tCB r (rdA X.K W mas) σ H Q := by
  obtain ⟨ρ, en, hc, R, rs, q⟩ := h
  refine ⟨ρ, en, hc, R, rs, Post.mono (Post.bind (R := RVs X.K) q) fun xs H1 ⟨ρ1, as, h1, l1, R1, r1, p1⟩ => ?_⟩
  exact hs _ ρ1 h1 H1 as xs Q R1 r1 p1
theorem se_fn {x : Str} {id : String} {g : List Val → M Val} (c : CallM X (.builtin id) g) (hm : X.mg x = none) (hv : bootBuiltins x = some (.builtin id)) (ha : PA X (e :: es) (rdA X.K W mas)) (hg : Gl X x := by rfl) (hn : x ≠ "__name__" := by decide) (hdb : (x == ("__debug__" : Str)) = false := by decide)
    (he : starEach (e :: es) X.env = (false, eval e X.env) :: starEach es X.env := by rfl) (hpl : (backTo pos (starEach es X.env)).any (·.1) = false := by rfl) : PE X (.Call (.Name x p) (e :: es) [] pos) (rdE X.K W (eFn g mas)) := by
  obtain ⟨r, h1, h2⟩ := c
  exact (pe_callB h1 hg hm hv ha hn hdb he hpl).imp fun σ H Q q => fn_rd h2 q
theorem se_fnT {x : Str} {T : String} {g : List Val → M Val} (c : CallM X (.type T) g) (hm : X.mg x = none) (hv : bootBuiltins x = some (.type T)) (ha : PA X (e :: es) (rdA X.K W mas)) (hg : Gl X x := by rfl) (hn : x ≠ "__name__" := by decide) (hdb : (x == ("__debug__" : Str)) = false := by decide)
    (he : starEach (e :: es) X.env = (false, eval e X.env) :: starEach es X.env := by rfl) (hpl : (backTo pos (starEach es X.env)).any (·.1) = false := by rfl) : PE X (.Call (.Name x p) (e :: es) [] pos) (rdE X.K W (eFn g mas)) := by
  obtain ⟨r, h1, h2⟩ := c
  exact (pe_callTy h1 hg hm hv ha hn hdb he hpl).imp fun σ H Q q => fn_rd h2 q

/-! ### len, min, max, int, str, list, tuple, sorted, any, all, repr -/
def fLen (T : Con) (as : List Val) : M Val := fun h => match as with
  | [.str s] => if s.length ≤ big then .ok (.int s.length) h else .bad
  | [v] => (match seqOf T h v with
    | some (_, xs) => .ok (.int xs.length) h
    | none => (match v with
      | .ref n => (match h.get n with
        | some (.dic kvs) => .ok (.int kvs.length) h
        | _ => .bad)
      | _ => .bad))
  | _ => .bad
theorem one_arg_m {K : PySem.W.Frag} {ρ : Rho} {v : Val} {xs : List V} (r : RVs K ρ [v] xs) : ∃ x, xs = [x] ∧ RV K ρ v x := by
  cases r with
  | cons a t => cases t; exact ⟨_, rfl, a⟩
theorem two_arg_m {K : PySem.W.Frag} {ρ : Rho} {v w : Val} {xs : List V} (r : RVs K ρ [v, w] xs) : ∃ x y, xs = [x, y] ∧ RV K ρ v x ∧ RV K ρ w y := by
  cases r with
  | cons a t => cases t with
    | cons b t => cases t; exact ⟨_, _, rfl, a, b⟩
theorem fLen_ok {T : Con} (hT : ConOk X.K T) : CallM X (.builtin "len") (fLen T) := by
  refine ⟨_, call_len_seq.or (call_len_str.or call_lenD), ?_⟩
  intro W ρ h H as xs Q R ra p
  cases as with
  | nil => exact p.elim
  | cons v t => cases t with
    | cons _ _ => cases v <;> exact p.elim
    | nil =>
      obtain ⟨x, rfl, r⟩ := one_arg_m ra
      by_cases hv : ∃ s, v = .str s
      · obtain ⟨s, rfl⟩ := hv
        cases r
        unfold fLen at p
        by_cases z : s.length ≤ big
        · simp only [if_pos z] at p
          exact .inr (.inl ⟨s, rfl, by rw [← big_eq]; exact z, p ρ H _ (Le.refl _) R rfl⟩)
        · simp only [if_neg z] at p; exact p.elim
      · have p : Post X.K (RV X.K) ρ (match seqOf T h v with
          | some (_, xs) => .ok (.int xs.length) h
          | none => (match v with
            | .ref n => (match h.get n with
              | some (.dic kvs) => .ok (.int kvs.length) h
              | _ => .bad)
            | _ => .bad)) Q W := by
          cases v <;> first | exact absurd ⟨_, rfl⟩ hv | exact p
        cases q : seqOf T h v with
        | some kx =>
          obtain ⟨k, ys⟩ := kx
          simp only [q] at p
          obtain ⟨pa, zs, rfl, ry, hl, ht⟩ := seq_ok hT R r q
          refine .inl ⟨pa, zs, rfl, ?_, ?_⟩
          · cases k with
            | false => exact .inl (hl rfl)
            | true => exact .inr (ht rfl)
          · rw [← Paired.length ry]
            exact p ρ H _ (Le.refl _) R rfl
        | none =>
          simp only [q] at p
          cases v with
          | ref n =>
            cases q2 : h.get n with
            | none => simp only [q2] at p; exact p.elim
            | some c => cases c with
              | dic kvs =>
                simp only [q2] at p
                obtain ⟨a, ea, rfl⟩ := r
                obtain ⟨ls, rl, hl⟩ := R.at ea q2
                refine .inr (.inr ⟨a, ls, rfl, hl, ?_⟩)
                rw [← Paired.length rl]
                exact p ρ H _ (Le.refl _) R rfl
              | _ => simp only [q2] at p; exact p.elim
          | _ => exact p.elim
/-- the ints of a list of values -/
def intsOf : List Val → Option (List Int)
  | [] => some []
  | .int i :: r => (intsOf r).map (i :: ·)
  | _ :: _ => none
theorem ints_ok {K : PySem.W.Frag} {ρ : Rho} : ∀ {vs : List Val} {xs : List V} {ns : List Int}, RVs K ρ vs xs → intsOf vs = some ns → xs = ns.map V.int
  | _, _, ns, .nil, e => by cases e; rfl
  | _, _, ns, .cons (a := v) (l₁ := vs) r t, e => by
    cases v with
    | int i =>
      cases r
      unfold intsOf at e
      cases q : intsOf vs with
      | none => simp [q] at e
      | some ms =>
        simp only [q, Option.map] at e
        cases e
        rw [ints_ok t q]
        rfl
    | _ => cases e
theorem ints_pair {K : PySem.W.Frag} {ρ : Rho} : ∀ ns : List Int, RVs K ρ (ns.map Val.int) (ns.map V.int)
  | [] => .nil
  | _ :: r => .cons rfl (ints_pair r)
def fMax (T : Con) (as : List Val) : M Val := fun h => match as with
  | [.int i, .int j] => .ok (.int (if j > i then j else i)) h
  | [v] => (match seqOf T h v with
    | some (false, xs) => (match intsOf xs with
      | some (n :: ns) => .ok (.int (ns.foldl max n)) h
      | _ => .bad)
    | _ => .bad)
  | _ => .bad
def fMin (T : Con) (as : List Val) : M Val := fun h => match as with
  | [.int i, .int j] => .ok (.int (if j < i then j else i)) h
  | [v] => (match seqOf T h v with
    | some (false, xs) => (match intsOf xs with
      | some (n :: ns) => .ok (.int (ns.foldl min n)) h
      | _ => .bad)
    | _ => .bad)
  | _ => .bad
theorem foldl_max_spec : ∀ (ns : List Int) (n : Int), (ns.foldl max n ∈ n :: ns) ∧ (n ≤ ns.foldl max n) ∧ ∀ y ∈ ns, y ≤ ns.foldl max n
  | [], n => ⟨by simp, Int.le_refl _, by simp⟩
  | a :: r, n => by
    obtain ⟨h1, h2, h3⟩ := foldl_max_spec r (max n a)
    rw [List.foldl_cons]
    refine ⟨?_, by omega, ?_⟩
    · rcases List.mem_cons.mp h1 with q | q
      · rw [q]
        rcases Int.le_total n a with z | z
        · rw [Int.max_eq_right z]; simp
        · rw [Int.max_eq_left z]; simp
      · exact List.mem_cons_of_mem _ (List.mem_cons_of_mem _ q)
    · intro y hy
      rcases List.mem_cons.mp hy with q | q
      · subst q; omega
      · exact h3 y q
theorem foldl_min_spec : ∀ (ns : List Int) (n : Int), (ns.foldl min n ∈ n :: ns) ∧ (ns.foldl min n ≤ n) ∧ ∀ y ∈ ns, ns.foldl min n ≤ y
  | [], n => ⟨by simp, Int.le_refl _, by simp⟩
  | a :: r, n => by
    obtain ⟨h1, h2, h3⟩ := foldl_min_spec r (min n a)
    rw [List.foldl_cons]
    refine ⟨?_, by omega, ?_⟩
    · rcases List.mem_cons.mp h1 with q | q
      · rw [q]
        rcases Int.le_total n a with z | z
        · rw [Int.min_eq_left z]; simp
        · rw [Int.min_eq_right z]; simp
      · exact List.mem_cons_of_mem _ (List.mem_cons_of_mem _ q)
    · intro y hy
      rcases List.mem_cons.mp hy with q | q
      · subst q; omega
      · exact h3 y q
theorem fMax_ok {T : Con} (hT : ConOk X.K T) (hc : X.calm = true) : CallM X (.builtin "max") (fMax T) := by
  refine ⟨_, (call_max2 hc).or (cr_max hc), ?_⟩
  intro W ρ h H as xs Q R ra p
  cases as with
  | nil => exact p.elim
  | cons v t => cases t with
    | nil =>
      obtain ⟨x, rfl, r⟩ := one_arg_m ra
      have p : Post X.K (RV X.K) ρ (match seqOf T h v with
        | some (false, xs) => (match intsOf xs with
          | some (n :: ns) => .ok (.int (ns.foldl max n)) h
          | _ => .bad)
        | _ => .bad) Q W := by cases v <;> exact p
      cases q : seqOf T h v with
      | none => simp only [q] at p; exact p.elim
      | some kx =>
        obtain ⟨k, ys⟩ := kx
        cases k with
        | true => simp only [q] at p; exact p.elim
        | false =>
          simp only [q] at p
          obtain ⟨pa, zs, rfl, ry, hl, ht⟩ := seq_ok hT R r q
          cases q2 : intsOf ys with
          | none => simp only [q2] at p; exact p.elim
          | some ns => cases ns with
            | nil => simp only [q2] at p; exact p.elim
            | cons n ns =>
              simp only [q2] at p
              have e := ints_ok ry q2
              subst e
              refine .inr ⟨pa, n :: ns, rfl, hl rfl, by simp, fun m hm hy => ?_⟩
              obtain ⟨f1, f2, f3⟩ := foldl_max_spec ns n
              have e2 : m = ns.foldl max n := by
                have a1 := hy _ f1
                have a2 : m ≤ ns.foldl max n := by
                  rcases List.mem_cons.mp hm with z | z
                  · rw [z]; exact f2
                  · exact f3 m z
                omega
              rw [e2]
              exact p ρ H _ (Le.refl _) R rfl
    | cons w t2 => cases t2 with
      | cons _ _ => cases v <;> cases w <;> exact p.elim
      | nil =>
        obtain ⟨x, y, rfl, r1, r2⟩ := two_arg_m ra
        cases v with
        | int i => cases w with
          | int j => cases r1; cases r2; exact .inl ⟨i, j, rfl, p ρ H _ (Le.refl _) R rfl⟩
          | _ => exact p.elim
        | _ => cases w <;> exact p.elim
theorem fMin_ok {T : Con} (hT : ConOk X.K T) (hc : X.calm = true) : CallM X (.builtin "min") (fMin T) := by
  refine ⟨_, (call_min2 hc).or (cr_min hc), ?_⟩
  intro W ρ h H as xs Q R ra p
  cases as with
  | nil => exact p.elim
  | cons v t => cases t with
    | nil =>
      obtain ⟨x, rfl, r⟩ := one_arg_m ra
      have p : Post X.K (RV X.K) ρ (match seqOf T h v with
        | some (false, xs) => (match intsOf xs with
          | some (n :: ns) => .ok (.int (ns.foldl min n)) h
          | _ => .bad)
        | _ => .bad) Q W := by cases v <;> exact p
      cases q : seqOf T h v with
      | none => simp only [q] at p; exact p.elim
      | some kx =>
        obtain ⟨k, ys⟩ := kx
        cases k with
        | true => simp only [q] at p; exact p.elim
        | false =>
          simp only [q] at p
          obtain ⟨pa, zs, rfl, ry, hl, ht⟩ := seq_ok hT R r q
          cases q2 : intsOf ys with
          | none => simp only [q2] at p; exact p.elim
          | some ns => cases ns with
            | nil => simp only [q2] at p; exact p.elim
            | cons n ns =>
              simp only [q2] at p
              have e := ints_ok ry q2
              subst e
              refine .inr ⟨pa, n :: ns, rfl, hl rfl, by simp, fun m hm hy => ?_⟩
              obtain ⟨f1, f2, f3⟩ := foldl_min_spec ns n
              have e2 : m = ns.foldl min n := by
                have a1 := hy _ f1
                have a2 : ns.foldl min n ≤ m := by
                  rcases List.mem_cons.mp hm with z | z
                  · rw [z]; exact f2
                  · exact f3 m z
                omega
              rw [e2]
              exact p ρ H _ (Le.refl _) R rfl
    | cons w t2 => cases t2 with
      | cons _ _ => cases v <;> cases w <;> exact p.elim
      | nil =>
        obtain ⟨x, y, rfl, r1, r2⟩ := two_arg_m ra
        cases v with
        | int i => cases w with
          | int j => cases r1; cases r2; exact .inl ⟨i, j, rfl, p ρ H _ (Le.refl _) R rfl⟩
          | _ => exact p.elim
        | _ => cases w <;> exact p.elim
def fInt (as : List Val) : M Val := fun h => match as with
  | [.int i] => .ok (.int i) h
  | [.bl k] => .ok (.int (if k then 1 else 0)) h
  | _ => .bad
theorem fInt_ok : CallM X (.type "int") fInt := by
  refine ⟨_, call_int1, ?_⟩
  intro W ρ h H as xs Q R ra p
  cases as with
  | nil => exact p.elim
  | cons v t => cases t with
    | cons _ _ => cases v <;> exact p.elim
    | nil =>
      obtain ⟨x, rfl, r⟩ := one_arg_m ra
      cases v with
      | int i => cases r; exact .inl ⟨i, rfl, p ρ H _ (Le.refl _) R rfl⟩
      | bl k => cases r; exact .inr ⟨k, rfl, p ρ H _ (Le.refl _) R rfl⟩
      | _ => exact p.elim
def fStr (as : List Val) : M Val := fun h => match as with
  | [.int i] => if i.natAbs.log2 < 1920 then .ok (.str (toString i)) h else .bad
  | _ => .bad
theorem fStr_ok : CallM X (.type "str") fStr := by
  refine ⟨_, call_str_int, ?_⟩
  intro W ρ h H as xs Q R ra p
  cases as with
  | nil => exact p.elim
  | cons v t => cases t with
    | cons _ _ => cases v <;> exact p.elim
    | nil =>
      obtain ⟨x, rfl, r⟩ := one_arg_m ra
      cases v with
      | int i =>
        cases r
        unfold fStr at p
        by_cases z : i.natAbs.log2 < 1920
        · simp only [if_pos z] at p
          exact ⟨i, rfl, z, p ρ H _ (Le.refl _) R rfl⟩
        · simp only [if_neg z] at p; exact p.elim
      | _ => exact p.elim
def rRepr : List V → Hp → VK → Prop := fun xs H Q => (∃ b, xs = [.bl b] ∧ Q (.str (if b then "True" else "False")) H) ∨ (xs = [.non] ∧ Q (.str "None") H) ∨ (∃ i, xs = [.int i] ∧ i.natAbs.log2 < 1920 ∧ Q (.str (toString i)) H) ∨
  ∃ y : Str, xs = [.str y] ∧ (reprText y).length ≤ sizeLine ∧ Q (.str (reprText y)) H
theorem call_repr : CallR X (.builtin "repr") rRepr := by
  intro pins s σ H xs us Q I r h
  rcases h with ⟨b, rfl, q⟩ | ⟨rfl, q⟩ | ⟨i, rfl, hz, q⟩ | ⟨y, rfl, hz, q⟩
  · obtain ⟨u, rfl, ru⟩ := vals1 r
    cases ru
    exact P.repr_of_bool ⟨.str _, H, I.tok _, ⟨_, rfl⟩, q⟩
  · obtain ⟨u, rfl, ru⟩ := vals1 r
    cases ru
    exact P.repr_of_none ⟨.str _, H, I.tok _, ⟨_, rfl⟩, q⟩
  · obtain ⟨u, rfl, t, rfl⟩ := vals1 r
    exact P.repr_of_int hz ⟨.str _, H, I.tok _, ⟨_, rfl⟩, q⟩
  · obtain ⟨u, rfl, t, rfl⟩ := vals1 r
    exact P.repr_of_str ⟨.str _, H, I.tok _, ⟨_, rfl⟩, q⟩ hz
def reprV (v : Val) : Option Str := match v with
  | .bl b => some (if b then "True" else "False")
  | .non => some "None"
  | .int i => if i.natAbs.log2 < 1920 then some (toString i) else none
  | .str y => if (reprText y).length ≤ big then some (reprText y) else none
  | _ => none
def fRepr (as : List Val) : M Val := fun h => match as with
  | [v] => (match reprV v with
    | some s => .ok (.str s) h
    | none => .bad)
  | _ => .bad
theorem fRepr_ok : CallM X (.builtin "repr") fRepr := by
  refine ⟨_, call_repr, ?_⟩
  intro W ρ h H as xs Q R ra p
  cases as with
  | nil => exact p.elim
  | cons v t => cases t with
    | cons _ _ => exact p.elim
    | nil =>
      obtain ⟨x, rfl, r⟩ := one_arg_m ra
      unfold fRepr at p
      cases v with
      | bl b => cases r; exact .inl ⟨b, rfl, p ρ H _ (Le.refl _) R rfl⟩
      | non => cases r; exact .inr (.inl ⟨rfl, p ρ H _ (Le.refl _) R rfl⟩)
      | int i =>
        cases r
        by_cases z : i.natAbs.log2 < 1920
        · simp only [reprV, if_pos z] at p
          exact .inr (.inr (.inl ⟨i, rfl, z, p ρ H _ (Le.refl _) R rfl⟩))
        · simp only [reprV, if_neg z] at p; exact p.elim
      | str y =>
        cases r
        by_cases z : (reprText y).length ≤ big
        · simp only [reprV, if_pos z] at p
          exact .inr (.inr (.inr ⟨y, rfl, by rw [← big_eq]; exact z, p ρ H _ (Le.refl _) R rfl⟩))
        · simp only [reprV, if_neg z] at p; exact p.elim
      | _ => exact p.elim
def fList (T : Con) (as : List Val) : M Val := fun h => match as with
  | [v] => (match seqOf T h v with
    | some (_, xs) => .ok (.ref h.n) (h.new (.lst xs))
    | none => .bad)
  | _ => .bad
theorem fList_ok {T : Con} (hT : ConOk X.K T) : CallM X (.type "list") (fList T) := by
  refine ⟨_, call_list_of, ?_⟩
  intro W ρ h H as xs Q R ra p
  cases as with
  | nil => exact p.elim
  | cons v t => cases t with
    | cons _ _ => exact p.elim
    | nil =>
      obtain ⟨x, rfl, r⟩ := one_arg_m ra
      unfold fList at p
      cases q : seqOf T h v with
      | none => simp only [q] at p; exact p.elim
      | some kx =>
        obtain ⟨k, ys⟩ := kx
        simp only [q] at p
        obtain ⟨pa, zs, rfl, ry, hl, ht⟩ := seq_ok hT R r q
        refine ⟨pa, zs, rfl, ?_, fun l hl' => laid R p hl' fun ρ' l => img_lst (RVs.mono l ry)⟩
        cases k with
        | false => exact .inl (hl rfl)
        | true => exact .inr (ht rfl)
def fTuple (T : Con) (as : List Val) : M Val := fun h => match as with
  | [v] => (match seqOf T h v with
    | some (false, xs) => .ok (.ref h.n) (h.new (.tup xs))
    | some (true, _) => .ok v h
    | none => .bad)
  | _ => .bad
theorem fTuple_ok {T : Con} (hT : ConOk X.K T) : CallM X (.type "tuple") (fTuple T) := by
  refine ⟨_, call_tuple_of, ?_⟩
  intro W ρ h H as xs Q R ra p
  cases as with
  | nil => exact p.elim
  | cons v t => cases t with
    | cons _ _ => exact p.elim
    | nil =>
      obtain ⟨x, rfl, r⟩ := one_arg_m ra
      unfold fTuple at p
      cases q : seqOf T h v with
      | none => simp only [q] at p; exact p.elim
      | some kx =>
        obtain ⟨k, ys⟩ := kx
        obtain ⟨pa, zs, rfl, ry, hl, ht⟩ := seq_ok hT R r q
        cases k with
        | false =>
          simp only [q] at p
          exact ⟨pa, zs, rfl, .inl ⟨hl rfl, fun l hl' => laid R p hl' fun ρ' l => img_tup (RVs.mono l ry)⟩⟩
        | true =>
          simp only [q] at p
          exact ⟨pa, zs, rfl, .inr ⟨ht rfl, p ρ H _ (Le.refl _) R r⟩⟩
/-- sorted ints -/
def ins (a : Int) : List Int → List Int
  | [] => [a]
  | b :: r => if a ≤ b then a :: b :: r else b :: ins a r
def isort : List Int → List Int
  | [] => []
  | a :: r => ins a (isort r)
theorem ins_perm (a : Int) : ∀ l : List Int, (ins a l).Perm (a :: l)
  | [] => .refl _
  | b :: r => by
    unfold ins
    by_cases z : a ≤ b
    · rw [if_pos z]
    · rw [if_neg z]
      exact ((ins_perm a r).cons b).trans (.swap a b r)
theorem isort_perm : ∀ l : List Int, (isort l).Perm l
  | [] => .refl _
  | a :: r => (ins_perm a _).trans ((isort_perm r).cons a)
theorem ins_sorted (a : Int) : ∀ l : List Int, l.Pairwise (· ≤ ·) → (ins a l).Pairwise (· ≤ ·)
  | [], _ => by unfold ins; exact List.pairwise_singleton _ _
  | b :: r, h => by
    unfold ins
    by_cases z : a ≤ b
    · rw [if_pos z]
      refine List.Pairwise.cons (fun y hy => ?_) h
      rcases List.mem_cons.mp hy with q | q
      · rw [q]; exact z
      · exact Int.le_trans z ((List.pairwise_cons.mp h).1 y q)
    · rw [if_neg z]
      obtain ⟨h1, h2⟩ := List.pairwise_cons.mp h
      refine List.Pairwise.cons (fun y hy => ?_) (ins_sorted a r h2)
      rcases List.mem_cons.mp ((ins_perm a r).mem_iff.mp hy) with q | q
      · rw [q]; omega
      · exact h1 y q
theorem isort_sorted : ∀ l : List Int, (isort l).Pairwise (· ≤ ·)
  | [] => .nil
  | a :: r => ins_sorted a _ (isort_sorted r)
def fSorted (T : Con) (as : List Val) : M Val := fun h => match as with
  | [v] => (match seqOf T h v with
    | some (false, xs) => (match intsOf xs with
      | some ns => .ok (.ref h.n) (h.new (.lst ((isort ns).map Val.int)))
      | none => .bad)
    | _ => .bad)
  | _ => .bad
theorem fSorted_ok {T : Con} (hT : ConOk X.K T) : CallM X (.builtin "sorted") (fSorted T) := by
  refine ⟨_, cr_sortedI, ?_⟩
  intro W ρ h H as xs Q R ra p
  cases as with
  | nil => exact p.elim
  | cons v t => cases t with
    | cons _ _ => exact p.elim
    | nil =>
      obtain ⟨x, rfl, r⟩ := one_arg_m ra
      unfold fSorted at p
      cases q : seqOf T h v with
      | none => simp only [q] at p; exact p.elim
      | some kx =>
        obtain ⟨k, ys⟩ := kx
        cases k with
        | true => simp only [q] at p; exact p.elim
        | false =>
          simp only [q] at p
          obtain ⟨pa, zs, rfl, ry, hl, ht⟩ := seq_ok hT R r q
          cases q2 : intsOf ys with
          | none => simp only [q2] at p; exact p.elim
          | some ns =>
            simp only [q2] at p
            have e := ints_ok ry q2
            subst e
            refine ⟨pa, ns, rfl, hl rfl, fun ns' pn hp hs hn => ?_⟩
            have e2 : ns' = isort ns := PySem.W.ksm_same (hp.trans (isort_perm ns).symm) hs (isort_sorted ns)
            rw [e2]
            exact laid R p hn fun ρ' l => img_lst (ints_pair _)
/-- any, all of a list of data -/
def rAnyD (K : PySem.W.Frag) (f : (PyData → Bool) → List PyData → Bool) : List V → Hp → VK → Prop := fun vs H Q => ∃ (a : Addr) (ys : List V) (ds : List PyData), vs = [V.ref a] ∧ SqL K H a ys ∧ DpAll K H ys ds ∧ PyData.plainAll ds = true ∧ (∀ x ∈ ds, x.fits63) ∧ Q (.bl (f PyData.truthy ds)) H
theorem cr_anyD (hc : X.calm = true) : CallR X (.builtin "any") (rAnyD X.K fun f ds => ds.any f) := by
  intro pins s σ H vs us Q I r h
  obtain ⟨a, ys, ds, rfl, hs, hd, hp, hf, q⟩ := h
  obtain ⟨its, rv, hl, _⟩ := I.list hs
  rw [Vals.ref1 r]
  obtain ⟨as, hr⟩ := Dp.readsAll I ds ys its hd rv
  exact PySem.W.any_list_data (I.ok.hd hc) hl.isList (by simpa using hr) hp hf fun h' tk hk => ⟨.bl _, H, I.kept hk, rfl, q⟩
theorem cr_allD (hc : X.calm = true) : CallR X (.builtin "all") (rAnyD X.K fun f ds => ds.all f) := by
  intro pins s σ H vs us Q I r h
  obtain ⟨a, ys, ds, rfl, hs, hd, hp, hf, q⟩ := h
  obtain ⟨its, rv, hl, _⟩ := I.list hs
  rw [Vals.ref1 r]
  obtain ⟨as, hr⟩ := Dp.readsAll I ds ys its hd rv
  exact PySem.W.all_list_data (I.ok.hd hc) hl.isList (by simpa using hr) hp hf fun h' tk hk => ⟨.bl _, H, I.kept hk, rfl, q⟩
def fitB : PyData → Bool
  | .str x => decide ((x.length : Int) < 2 ^ 63)
  | .list xs => decide ((xs.length : Int) < 2 ^ 63)
  | .tuple xs => decide ((xs.length : Int) < 2 ^ 63)
  | _ => true
theorem fitB_ok {d : PyData} (h : fitB d = true) : d.fits63 := by
  cases d with
  | str x => unfold fitB at h; unfold PyData.fits63; exact decide_eq_true_eq.mp h
  | list x => unfold fitB at h; unfold PyData.fits63; exact decide_eq_true_eq.mp h
  | tuple x => unfold fitB at h; unfold PyData.fits63; exact decide_eq_true_eq.mp h
  | _ => trivial
def fAny (f : (PyData → Bool) → List PyData → Bool) (as : List Val) : M Val := fun h => match as with
  | [.ref n] => (match toD h 64 (.ref n) with
    | some (.list ds) => if PyData.plainAll ds && ds.all fitB then .ok (.bl (f PyData.truthy ds)) h else .bad
    | _ => .bad)
  | _ => .bad
theorem fAny_s {f : (PyData → Bool) → List PyData → Bool} : CallS X (rAnyD X.K f) (fAny f) := by
  intro W ρ h H as xs Q R ra p
  cases as with
  | nil => exact p.elim
  | cons v t => cases t with
    | cons _ _ => cases v <;> exact p.elim
    | nil =>
      obtain ⟨x, rfl, r⟩ := one_arg_m ra
      unfold fAny at p
      cases v with
      | ref n =>
        cases q : toD h 64 (.ref n) with
        | none => simp only [q] at p; exact p.elim
        | some d => cases d with
          | list ds =>
            simp only [q] at p
            cases z : (PyData.plainAll ds && ds.all fitB) with
            | false => simp only [z, Bool.false_eq_true, if_false] at p; exact p.elim
            | true =>
              simp only [z, if_true] at p
              obtain ⟨z1, z2⟩ := Bool.and_eq_true_iff.mp z
              have hd := toD_ok R 64 _ x _ r q
              cases hd with
              | lst hs ha => exact ⟨_, _, ds, rfl, hs, ha, z1, fun x hx => fitB_ok (List.all_eq_true.mp z2 x hx), p ρ H _ (Le.refl _) R rfl⟩
          | _ => simp only [q] at p; exact p.elim
      | _ => exact p.elim
theorem fAny_ok (hc : X.calm = true) : CallM X (.builtin "any") (fAny fun f ds => ds.any f) := ⟨_, cr_anyD hc, fAny_s⟩
theorem fAll_ok (hc : X.calm = true) : CallM X (.builtin "all") (fAny fun f ds => ds.all f) := ⟨_, cr_allD hc, fAny_s⟩
/-- list(range(..)) -/
def rgM (a b : Int) : List Val := (List.range (b - a).toNat).map fun i => Val.int (a + (i : Nat))
theorem rg_pair {K : PySem.W.Frag} {ρ : Rho} (a b : Int) : RVs K ρ (rgM a b) (rgV a b) := by
  unfold rgM rgV
  generalize List.range (b - a).toNat = l
  induction l with
  | nil => exact .nil
  | cons x r ih => exact .cons rfl ih
def rgFit (a b : Int) : Bool := decide (-(2 ^ 62) ≤ a ∧ a < 2 ^ 62 ∧ -(2 ^ 62) ≤ b ∧ b < 2 ^ 62 ∧ (b - a).toNat ≤ 16000000)
def eLrg (m : AM) : EM := fun e h => (m e h).bind fun vs h1 => match vs with
  | [.int n] => if rgFit 0 n then .ok (.ref h1.n) (h1.new (.lst (rgM 0 n))) else .bad
  | [.int a, .int b] => if rgFit a b then .ok (.ref h1.n) (h1.new (.lst (rgM a b))) else .bad
  | _ => .bad
end
end Mr
end
section
set_option Elab.async false
set_option linter.all false
set_option maxRecDepth 100000
set_option maxHeartbeats 2000000
/-! Mr, part 8: lists by their methods, dicts, what loops walk, isinstance. -/
namespace Mr
open PySem PySem.Spec PyProof.Rows L2
section
variable {X : Cx} {W : WS} {e a b o i : Expr} {es : List Expr} {ma mb mo mi : EM} {mas : AM} {pos p apos cpos : Pos}
/-! ### list(range(..)) -/
theorem se_lrg1 {p1 q1 : Pos} (hc : X.calm = true) (hm : X.mg "list" = none) (hmr : X.mg "range" = none) (ha : PE X a (rdE X.K W ma)) (hg : Gl X "list" := by rfl) (hgr : Gl X "range" := by rfl)
    (na : starEach [.Call (.Name "range" p1) [a] [] q1] X.env = (false, eval (.Call (.Name "range" p1) [a] [] q1) X.env) :: starEach [] X.env := by rfl) (na2 : starEach [a] X.env = (false, eval a X.env) :: starEach [] X.env := by rfl) :
    PE X (.Call (.Name "list" p) [.Call (.Name "range" p1) [a] [] q1] [] pos) (rdE X.K W (eLrg (aCons ma aNil))) := by
  refine (pe_listRg hc hg hm (prg_1 hgr hmr ha na2) na).imp fun σ H Q ⟨ρ, en, h, R, rs, p⟩ => ?_
  refine ⟨ρ, en, h, R, rs, ?_⟩
  unfold eLrg aCons aNil at p
  cases q : ma en h with
  | bad => simp only [q, Res.bind] at p; exact p.elim
  | exc C d h1 => simp only [q, Res.bind] at p; exact p
  | ok v h1 =>
    simp only [q, Res.bind] at p
    intro ρ1 H1 x l1 R1 r1
    cases v with
    | int n =>
      cases r1
      cases z : rgFit 0 n with
      | false => simp only [z, Bool.false_eq_true, if_false] at p; exact p.elim
      | true =>
        simp only [z, if_true] at p
        have zz : -(2 ^ 62) ≤ (0 : Int) ∧ (0 : Int) < 2 ^ 62 ∧ -(2 ^ 62) ≤ n ∧ n < 2 ^ 62 ∧ (n - 0).toNat ≤ 16000000 := by unfold rgFit at z; exact decide_eq_true_eq.mp z
        exact ⟨n, rfl, ⟨zz.1, zz.2.1, zz.2.2.1, zz.2.2.2.1, Nat.le_trans zz.2.2.2.2 (by decide)⟩, fun l hl => laid R1 (Post.later p l1) hl fun ρ' _ => img_lst (rg_pair 0 n)⟩
    | _ => exact p.elim
theorem se_lrg2 {p1 q1 : Pos} (hc : X.calm = true) (hm : X.mg "list" = none) (hmr : X.mg "range" = none) (ha : PE X a (rdE X.K W ma)) (hb : PE X b (rdE X.K W mb)) (hg : Gl X "list" := by rfl) (hgr : Gl X "range" := by rfl)
    (na : starEach [.Call (.Name "range" p1) [a, b] [] q1] X.env = (false, eval (.Call (.Name "range" p1) [a, b] [] q1) X.env) :: starEach [] X.env := by rfl) (na2 : starEach [a, b] X.env = (false, eval a X.env) :: starEach [b] X.env := by rfl)
    (nb : starEach [b] X.env = (false, eval b X.env) :: starEach [] X.env := by rfl) (hp : (backTo q1 (starEach [b] X.env)).any (·.1) = false := by rfl) :
    PE X (.Call (.Name "list" p) [.Call (.Name "range" p1) [a, b] [] q1] [] pos) (rdE X.K W (eLrg (aCons ma (aCons mb aNil)))) := by
  refine (pe_listRg hc hg hm (prg_2 hgr hmr ha hb na2 nb hp) na).imp fun σ H Q ⟨ρ, en, h, R, rs, p⟩ => ?_
  refine ⟨ρ, en, h, R, rs, ?_⟩
  unfold eLrg aCons aNil at p
  cases q : ma en h with
  | bad => simp only [q, Res.bind] at p; exact p.elim
  | exc C d h1 => simp only [q, Res.bind] at p; exact p
  | ok v h1 =>
    simp only [q, Res.bind] at p
    intro ρ1 H1 x l1 R1 r1
    refine ⟨ρ1, en, h1, R1, RS.mono l1 rs, ?_⟩
    cases q2 : mb en h1 with
    | bad => simp only [q2] at p; exact p.elim
    | exc C d h2 => simp only [q2] at p; exact Post.later p l1
    | ok w h2 =>
      simp only [q2] at p
      intro ρ2 H2 y l2 R2 r2
      cases v with
      | int n => cases w with
        | int m =>
          cases r1
          cases r2
          cases z : rgFit n m with
          | false => simp only [z, Bool.false_eq_true, if_false] at p; exact p.elim
          | true =>
            simp only [z, if_true] at p
            have zz : -(2 ^ 62) ≤ n ∧ n < 2 ^ 62 ∧ -(2 ^ 62) ≤ m ∧ m < 2 ^ 62 ∧ (m - n).toNat ≤ 16000000 := by unfold rgFit at z; exact decide_eq_true_eq.mp z
            exact ⟨n, m, rfl, rfl, ⟨zz.1, zz.2.1, zz.2.2.1, zz.2.2.2.1, Nat.le_trans zz.2.2.2.2 (by decide)⟩, fun l hl => laid R2 (Post.later p (l1.trans l2)) hl fun ρ' _ => img_lst (rg_pair n m)⟩
        | _ => exact p.elim
      | _ => cases w <;> exact p.elim

/-! ### lists by their methods -/
/-- a method of a list: the cell and what it comes to -/
def eLm (g : List Val → List Val → Option (Val × List Val)) (mo : EM) (m : AM) : EM := fun e h => (mo e h).bind fun v h1 => match v with
  | .ref n => (match h1.get n with
    | some (.lst _) => (m e h1).bind fun as h2 => (match h2.get n with
      | some (.lst xs) => (match g xs as with
        | some (r, ys) => .ok r (h2.put n (.lst ys))
        | none => .bad)
      | _ => .bad)
    | _ => .bad)
  | _ => .bad
def LmS (X : Cx) (r : V → List V → Hp → VK → Prop) (g : List Val → List Val → Option (Val × List Val)) : Prop := ∀ ρ l xs ys as zs res out H (Q : VK), RVs X.K ρ xs ys → RVs X.K ρ as zs → g xs as = some (res, out) → H l = some (.lst ys) →
  (∀ x ws, RV X.K ρ res x → RVs X.K ρ out ws → Q x (upd H l (.lst ws))) → r (.ref l) zs H Q
theorem lm_rd {r : V → List V → Hp → VK → Prop} {g : List Val → List Val → Option (Val × List Val)} (hs : LmS X r g) {σ : L2.St} {H : Hp} {Q : VK} (h : rdE X.K W (eLm g mo mas) σ H Q) : tBM X.K "list" r (rdE X.K W mo) (rdA X.K W mas) σ H Q := by
  obtain ⟨ρ, en, hc, R, rs, q⟩ := h
  refine ⟨ρ, en, hc, R, rs, Post.mono (Post.bind (R := RV X.K) q) fun x H1 ⟨ρ1, v, h1, l1, R1, r1, p1⟩ => ?_⟩
  cases v with
  | ref n =>
    cases q1 : h1.get n with
    | none => simp only [q1] at p1; exact p1.elim
    | some c => cases c with
      | lst xs0 =>
        simp only [q1] at p1
        obtain ⟨a, ea, rfl⟩ := r1
        obtain ⟨ys0, ry0, hy0⟩ := R1.at ea q1
        refine ⟨.inl ⟨rfl, _, .inl (.inl hy0)⟩, ρ1, en, h1, R1, RS.mono l1 rs, Post.mono (Post.bind (R := RVs X.K) p1) fun zs H2 ⟨ρ2, as, h2, l2, R2, r2, p2⟩ => ?_⟩
        cases q2 : h2.get n with
        | none => simp only [q2] at p2; exact p2.elim
        | some c2 => cases c2 with
          | lst xs =>
            simp only [q2] at p2
            cases q3 : g xs as with
            | none => simp only [q3] at p2; exact p2.elim
            | some ro =>
              obtain ⟨res, out⟩ := ro
              simp only [q3] at p2
              have ea2 := l2.f _ _ ea
              obtain ⟨ys, ry, hy⟩ := R2.at ea2 q2
              exact hs ρ2 a xs ys as zs res out H2 Q ry r2 q3 hy fun x ws rx rw => stored R2 p2 rx ea2 (img_lst rw)
          | _ => simp only [q2] at p2; exact p2.elim
      | _ => simp only [q1] at p1; exact p1.elim
  | _ => exact p1.elim
theorem se_lm {c : Expr} {r : V → List V → Hp → VK → Prop} {g : List Val → List Val → Option (Val × List Val)} (hs : LmS X r g) (h : PE X c (tBM X.K "list" r (rdE X.K W mo) (rdA X.K W mas))) : PE X c (rdE X.K W (eLm g mo mas)) := h.imp fun σ H Q q => lm_rd hs q
theorem se_lm0 {c : Expr} {r : V → List V → Hp → VK → Prop} {g : List Val → List Val → Option (Val × List Val)} (hs : LmS X r g) (h : PE X c (tBM0 X.K "list" r (rdE X.K W mo))) : PE X c (rdE X.K W (eLm g mo aNil)) := h.imp fun σ H Q q => by
  obtain ⟨ρ, en, hc, R, rs, p⟩ := lm_rd hs q
  exact ⟨ρ, en, hc, R, rs, Post.mono p fun x H1 ⟨h1, ρ2, e2, h2, R2, rs2, p2⟩ => ⟨h1, p2 ρ2 H1 [] (Le.refl _) R2 .nil⟩⟩
def lmAppend (xs as : List Val) : Option (Val × List Val) := match as with
  | [y] => if xs.length < big then some (.non, xs ++ [y]) else none
  | _ => none
theorem lmAppend_ok : LmS X rAppend lmAppend := by
  intro ρ l xs ys as zs res out H Q r ra eg hl q
  cases ra with
  | nil => cases eg
  | @cons v z as zs rv t => cases t with
    | cons _ _ => cases eg
    | nil =>
      unfold lmAppend at eg
      by_cases k : xs.length < big
      · simp only [if_pos k] at eg
        cases eg
        exact ⟨l, ys, z, rfl, rfl, hl, by rw [← big_eq, ← Paired.length r]; exact k, q _ _ rfl (Paired.append r (.cons rv .nil))⟩
      · simp only [if_neg k] at eg; cases eg
def lmPop (xs as : List Val) : Option (Val × List Val) := match as with
  | [] => (xs[xs.length - 1]?).map fun y => (y, xs.dropLast)
  | _ => none
theorem dropLast_pair {K : PySem.W.Frag} {ρ : Rho} {xs : List Val} {ys : List V} (r : RVs K ρ xs ys) : RVs K ρ xs.dropLast ys.dropLast := by
  rw [List.dropLast_eq_take, List.dropLast_eq_take, Paired.length r]
  exact Paired.take r _
theorem lmPop_ok : LmS X rPop lmPop := by
  intro ρ l xs ys as zs res out H Q r ra eg hl q
  cases ra with
  | cons _ _ => cases eg
  | nil =>
    unfold lmPop at eg
    cases k : xs[xs.length - 1]? with
    | none => simp [k] at eg
    | some y =>
      simp only [k, Option.map] at eg
      cases eg
      obtain ⟨z, hz, rz⟩ := Paired.get r k
      exact ⟨l, ys, z, rfl, rfl, hl, by rw [← Paired.length r]; exact hz, q _ _ rz (dropLast_pair r)⟩
def lmPopAt (xs as : List Val) : Option (Val × List Val) := match as with
  | [.int i] => if -(2 ^ 63) ≤ i ∧ i < 2 ^ 63 then (match seqIndex? i xs.length with
    | some k => (xs[k]?).map fun y => (y, xs.eraseIdx k)
    | none => none) else none
  | _ => none
theorem erase_pair {K : PySem.W.Frag} {ρ : Rho} {xs : List Val} {ys : List V} (r : RVs K ρ xs ys) (k : Nat) : RVs K ρ (xs.eraseIdx k) (ys.eraseIdx k) := by
  induction r generalizing k with
  | nil => exact .nil
  | cons a t ih => cases k with
    | zero => exact t
    | succ k => exact .cons a (ih k)
theorem lmPopAt_ok : LmS X rPopAt lmPopAt := by
  intro ρ l xs ys as zs res out H Q r ra eg hl q
  cases ra with
  | nil => cases eg
  | @cons v z as zs rv t => cases t with
    | cons _ _ => cases v <;> cases eg
    | nil =>
      cases v with
      | int i =>
        cases rv
        unfold lmPopAt at eg
        by_cases k : -(2 ^ 63) ≤ i ∧ i < 2 ^ 63
        · simp only [if_pos k] at eg
          cases k2 : seqIndex? i xs.length with
          | none => simp [k2] at eg
          | some j =>
            simp only [k2] at eg
            cases k3 : xs[j]? with
            | none => simp [k3] at eg
            | some y =>
              simp only [k3, Option.map] at eg
              cases eg
              obtain ⟨w, hw, rw'⟩ := Paired.get r k3
              exact ⟨l, ys, i, j, w, rfl, rfl, hl, k.1, k.2, by rw [← Paired.length r]; exact k2, hw, q _ _ rw' (erase_pair r j)⟩
        · simp only [if_neg k] at eg; cases eg
      | _ => cases eg

/-! ### dicts -/
def keyOf : Val → Option Key
  | .int i => some (.inl i)
  | .str s => some (.inr s)
  | _ => none
theorem keyOf_ok {K : PySem.W.Frag} {ρ : Rho} {v : Val} {x : V} {k : Key} (r : RV K ρ v x) (h : keyOf v = some k) : x = kV k := by
  cases v <;> first | (cases h; done) | (cases h; cases r; rfl)
def getK (kvs : List (Key × Val)) (k : Key) : Option Val := (kvs.find? fun kv => decide (kv.1 = k)).map (·.2)
def setK (kvs : List (Key × Val)) (k : Key) (v : Val) : List (Key × Val) := if (kvs.any fun kv => decide (kv.1 = k)) = true then kvs.map (fun kv => if kv.1 = k then (kv.1, v) else kv) else kvs ++ [(k, v)]
def delK (kvs : List (Key × Val)) (k : Key) : List (Key × Val) := kvs.filter fun kv => decide (kv.1 ≠ k)
section
variable {K : PySem.W.Frag} {ρ : Rho}
theorem getK_ok {kvs : List (Key × Val)} {ls : List (Key × V)} (r : RPs K ρ kvs ls) (k : Key) : (∃ v x, getK kvs k = some v ∧ valV ls k = some x ∧ RV K ρ v x) ∨ (getK kvs k = none ∧ valV ls k = none) := by
  induction r with
  | nil => exact .inr ⟨rfl, rfl⟩
  | @cons p q l1 l2 a t ih =>
    obtain ⟨pk, pv⟩ := p
    obtain ⟨qk, qv⟩ := q
    obtain ⟨rfl, av⟩ := a
    by_cases z : pk = k
    · refine .inl ⟨pv, qv, ?_, valV_pos z, av⟩
      unfold getK
      rw [List.find?_cons, show (decide ((pk, pv).1 = k)) = true from decide_eq_true z]
      rfl
    · rw [valV_neg z]
      have e : getK ((pk, pv) :: l1) k = getK l1 k := by
        unfold getK
        rw [List.find?_cons, show (decide ((pk, pv).1 = k)) = false from decide_eq_false z]
      rw [e]
      exact ih
theorem any_eq {kvs : List (Key × Val)} {ls : List (Key × V)} (r : RPs K ρ kvs ls) (k : Key) : (kvs.any fun kv => decide (kv.1 = k)) = ls.any fun kv => decide (kv.1 = k) := by
  induction r with
  | nil => rfl
  | cons a t ih => rw [List.any_cons, List.any_cons, ih, a.1]
theorem setK_ok {kvs : List (Key × Val)} {ls : List (Key × V)} (r : RPs K ρ kvs ls) (k : Key) {v : Val} {x : V} (rv : RV K ρ v x) : RPs K ρ (setK kvs k v) (putK ls k x) := by
  unfold setK putK
  rw [any_eq r k]
  by_cases z : (ls.any fun kv => decide (kv.1 = k)) = true
  · rw [if_pos z, if_pos z]
    clear z
    induction r with
    | nil => exact .nil
    | @cons p q l1 l2 a t ih =>
      rw [List.map_cons, List.map_cons]
      refine .cons ?_ ih
      by_cases y : p.1 = k
      · rw [if_pos y, if_pos (a.1 ▸ y)]; exact ⟨a.1, rv⟩
      · rw [if_neg y, if_neg (a.1 ▸ y)]; exact a
  · rw [if_neg z, if_neg z]
    exact Paired.append r (.cons ⟨rfl, rv⟩ .nil)
theorem delK_ok {kvs : List (Key × Val)} {ls : List (Key × V)} (r : RPs K ρ kvs ls) (k : Key) : RPs K ρ (delK kvs k) (dropK ls k) := by
  unfold delK dropK
  induction r with
  | nil => exact .nil
  | @cons p q l1 l2 a t ih =>
    rw [List.filter_cons, List.filter_cons]
    by_cases y : p.1 = k
    · have y2 : q.1 = k := a.1 ▸ y
      rw [if_neg (by simpa using y), if_neg (by simpa using y2)]; exact ih
    · have y2 : ¬ q.1 = k := a.1 ▸ y
      rw [if_pos (by simpa using y), if_pos (by simpa using y2)]; exact .cons a ih
end
/-- the pairs of a dict (locked or not) -/
def dicOf (h : Hc) (v : Val) : Option (List (Key × Val)) := match v with
  | .ref n => (match h.get n with
    | some (.dic kvs) => some kvs
    | some (.fd _ kvs) => some kvs
    | _ => none)
  | _ => none
theorem dicOf_ok {K : PySem.W.Frag} {ρ : Rho} {h : Hc} {H : Hp} {v : Val} {x : V} {kvs : List (Key × Val)} (R : Rel K ρ h H) (r : RV K ρ v x) (e : dicOf h v = some kvs) : ∃ a ls, x = .ref a ∧ RPs K ρ kvs ls ∧ Rd H a (.dK ls) := by
  cases v with
  | ref n =>
    obtain ⟨a, ea, rfl⟩ := r
    unfold dicOf at e
    cases q : h.get n with
    | none => simp [q] at e
    | some c =>
      have i := R.at ea q
      cases c with
      | dic k2 =>
        simp only [q] at e
        cases e
        obtain ⟨ls, rl, hl⟩ := i
        exact ⟨a, ls, rfl, rl, .inl hl⟩
      | fd id k2 =>
        simp only [q] at e
        cases e
        obtain ⟨o, ls, rl, hl, _⟩ := i
        exact ⟨a, ls, rfl, rl, .inr ⟨o, hl⟩⟩
      | _ => simp [q] at e
  | _ => cases e
def eDnew : EM := fun _ h => .ok (.ref h.n) (h.new (.dic []))
theorem se_dnew : PE X (.Dict [] [] pos) (rdE X.K W eDnew) := pe_dnewK.imp fun σ H Q ⟨ρ, en, hc, R, rs, p⟩ => fun d hd => laid R p hd fun ρ' _ => img_dic .nil
/-- d[k] -/
def eDget (md mk : EM) : EM := fun e h => (md e h).bind fun d h1 => (mk e h1).bind fun k h2 => match dicOf h2 d, keyOf k with
  | some kvs, some k => (match getK kvs k with
    | some v => .ok v h2
    | none => .bad)
  | _, _ => .bad
theorem se_dget {c : Expr} (h : PE X c (tDGet (rdE X.K W ma) (rdE X.K W mb))) : PE X c (rdE X.K W (eDget ma mb)) := h.imp fun σ H Q ⟨ρ, en, hc, R, rs, p⟩ => by
  refine ⟨ρ, en, hc, R, rs, Post.mono (Post.bind (R := RV X.K) p) fun x H1 ⟨ρ1, v, h1, l1, R1, r1, p1⟩ => ?_⟩
  refine ⟨ρ1, en, h1, R1, RS.mono l1 rs, Post.mono (Post.bind (R := RV X.K) p1) fun y H2 ⟨ρ2, u, h2, l2, R2, r2, p2⟩ => ?_⟩
  cases q1 : dicOf h2 v with
  | none => simp only [q1] at p2; exact p2.elim
  | some kvs => cases q2 : keyOf u with
    | none => simp only [q1, q2] at p2; exact p2.elim
    | some k =>
      simp only [q1, q2] at p2
      obtain ⟨a, ls, rfl, rl, hl⟩ := dicOf_ok R2 (r1.mono l2) q1
      have ey := keyOf_ok r2 q2
      rcases getK_ok rl k with ⟨w, z, g1, g2, g3⟩ | ⟨g1, _⟩
      · simp only [g1] at p2
        exact ⟨a, z, rfl, .inl ⟨ls, k, hl, ey, g2.symm⟩, p2 ρ2 H2 _ (Le.refl _) R2 g3⟩
      · simp only [g1] at p2; exact p2.elim
/-- k in d, k not in d -/
def eDin (neg : Bool) (mk md : EM) : EM := fun e h => (mk e h).bind fun k h1 => (md e h1).bind fun d h2 => match dicOf h2 d, keyOf k with
  | some kvs, some k => .ok (.bl (xor neg (getK kvs k).isSome)) h2
  | _, _ => .bad
theorem din_rd {neg : Bool} {σ : L2.St} {H : Hp} {Q : VK} (h : rdE X.K W (eDin neg ma mb) σ H Q) : rdE X.K W ma σ H fun y H1 => rdE X.K W mb σ H1 fun x H2 => ∃ a o, x = .ref a ∧ DGet H2 a y o ∧ Q (.bl (xor neg o.isSome)) H2 := by
  obtain ⟨ρ, en, hc, R, rs, p⟩ := h
  refine ⟨ρ, en, hc, R, rs, Post.mono (Post.bind (R := RV X.K) p) fun x H1 ⟨ρ1, v, h1, l1, R1, r1, p1⟩ => ?_⟩
  refine ⟨ρ1, en, h1, R1, RS.mono l1 rs, Post.mono (Post.bind (R := RV X.K) p1) fun y H2 ⟨ρ2, u, h2, l2, R2, r2, p2⟩ => ?_⟩
  cases q1 : dicOf h2 u with
  | none => simp only [q1] at p2; exact p2.elim
  | some kvs => cases q2 : keyOf v with
    | none => simp only [q1, q2] at p2; exact p2.elim
    | some k =>
      simp only [q1, q2] at p2
      obtain ⟨a, ls, rfl, rl, hl⟩ := dicOf_ok R2 r2 q1
      have ey := keyOf_ok r1 q2
      refine ⟨a, valV ls k, rfl, .inl ⟨ls, k, hl, ey, rfl⟩, ?_⟩
      rcases getK_ok rl k with ⟨w, z, g1, g2, g3⟩ | ⟨g1, g2⟩
      · rw [g2]; rw [g1] at p2; exact p2 ρ2 H2 _ (Le.refl _) R2 rfl
      · rw [g2]; rw [g1] at p2; exact p2 ρ2 H2 _ (Le.refl _) R2 rfl
theorem pc_din_m (hu : X.A.units + 1 < cLine) (ha : PE X a (rdE X.K W ma)) (hb : PE X b (rdE X.K W mb)) : PC X .In a b (rdE X.K W (eDin false ma mb)) := ⟨fun pins s σ H Q I q => (pc_din hu ha hb).run pins s σ H Q I (by
  obtain ⟨ρ, en, hc, R, rs, p⟩ := din_rd q
  refine ⟨ρ, en, hc, R, rs, Post.mono p fun x H1 h => ?_⟩
  obtain ⟨ρ, en, hc, R, rs, p⟩ := h
  refine ⟨ρ, en, hc, R, rs, Post.mono p fun x H1 ⟨a, o, h1, h2, h3⟩ => ⟨a, o, h1, h2, by simpa using h3⟩⟩)⟩
theorem pc_dnotin_m (hu : X.A.units + 1 < cLine) (ha : PE X a (rdE X.K W ma)) (hb : PE X b (rdE X.K W mb)) : PC X .NotIn a b (rdE X.K W (eDin true ma mb)) := ⟨fun pins s σ H Q I q => (pc_dnotin hu ha hb).run pins s σ H Q I (by
  obtain ⟨ρ, en, hc, R, rs, p⟩ := din_rd q
  refine ⟨ρ, en, hc, R, rs, Post.mono p fun x H1 h => ?_⟩
  obtain ⟨ρ, en, hc, R, rs, p⟩ := h
  refine ⟨ρ, en, hc, R, rs, Post.mono p fun x H1 ⟨a, o, h1, h2, h3⟩ => ⟨a, o, h1, h2, by simpa using h3⟩⟩)⟩
theorem st_pc {op : CmpOp} {m : EM} (h : PC X op a b (rdE X.K W m)) (h1 : behindInMarks op b = false := by first | exact nobehind _ (by decide) (by decide) | rfl) : PT X (.Compare a [op] [b] pos) (rdT X.K W (tVal m)) := (pt_cmp h h1).imp fun σ H Q q => val_test q
/-- d.get(k), d.get(k, x) -/
def eDgt1 (md mk : EM) : EM := fun e h => (md e h).bind fun d h1 => match dicOf h1 d with
  | none => .bad
  | some _ => (mk e h1).bind fun k h2 => match dicOf h2 d, keyOf k with
    | some kvs, some k => .ok ((getK kvs k).getD .non) h2
    | _, _ => .bad
def eDgt2 (md mk mx : EM) : EM := fun e h => (md e h).bind fun d h1 => match dicOf h1 d with
  | none => .bad
  | some _ => (mk e h1).bind fun k h2 => (mx e h2).bind fun x h3 => match dicOf h3 d, keyOf k with
    | some kvs, some k => .ok ((getK kvs k).getD x) h3
    | _, _ => .bad
theorem isD_of {K : PySem.W.Frag} {ρ : Rho} {h : Hc} {H : Hp} {v : Val} {x : V} {kvs : List (Key × Val)} (R : Rel K ρ h H) (r : RV K ρ v x) (e : dicOf h v = some kvs) : ∃ a, x = .ref a ∧ IsD H a := by
  obtain ⟨a, ls, rfl, _, hl⟩ := dicOf_ok R r e
  exact ⟨a, rfl, .inl ⟨ls, hl⟩⟩
theorem se_dgt1 {c : Expr} (h : PE X c (tDGet1 (rdE X.K W ma) (rdE X.K W mb))) : PE X c (rdE X.K W (eDgt1 ma mb)) := h.imp fun σ H Q ⟨ρ, en, hc, R, rs, p⟩ => by
  refine ⟨ρ, en, hc, R, rs, Post.mono (Post.bind (R := RV X.K) p) fun x H1 ⟨ρ1, v, h1, l1, R1, r1, p1⟩ => ?_⟩
  cases q0 : dicOf h1 v with
  | none => simp only [q0] at p1; exact p1.elim
  | some kvs0 =>
    simp only [q0] at p1
    obtain ⟨a, rfl, hD⟩ := isD_of R1 r1 q0
    refine ⟨a, rfl, hD, ρ1, en, h1, R1, RS.mono l1 rs, Post.mono (Post.bind (R := RV X.K) p1) fun y H2 ⟨ρ2, u, h2, l2, R2, r2, p2⟩ => ?_⟩
    cases q1 : dicOf h2 v with
    | none => simp only [q1] at p2; exact p2.elim
    | some kvs => cases q2 : keyOf u with
      | none => simp only [q1, q2] at p2; exact p2.elim
      | some k =>
        simp only [q1, q2] at p2
        obtain ⟨a', ls, ex, rl, hl⟩ := dicOf_ok R2 (r1.mono l2) q1
        cases ex
        refine ⟨valV ls k, .inl ⟨ls, k, hl, keyOf_ok r2 q2, rfl⟩, ?_⟩
        rcases getK_ok rl k with ⟨w, z, g1, g2, g3⟩ | ⟨g1, g2⟩
        · rw [g2]; rw [g1] at p2; exact p2 ρ2 H2 _ (Le.refl _) R2 g3
        · rw [g2]; rw [g1] at p2; exact p2 ρ2 H2 _ (Le.refl _) R2 rfl
theorem se_dgt2 {c : Expr} {mx : EM} (h : PE X c (tDGet2 (rdE X.K W ma) (rdE X.K W mb) (rdE X.K W mx))) : PE X c (rdE X.K W (eDgt2 ma mb mx)) := h.imp fun σ H Q ⟨ρ, en, hc, R, rs, p⟩ => by
  refine ⟨ρ, en, hc, R, rs, Post.mono (Post.bind (R := RV X.K) p) fun x H1 ⟨ρ1, v, h1, l1, R1, r1, p1⟩ => ?_⟩
  cases q0 : dicOf h1 v with
  | none => simp only [q0] at p1; exact p1.elim
  | some kvs0 =>
    simp only [q0] at p1
    obtain ⟨a, rfl, hD⟩ := isD_of R1 r1 q0
    refine ⟨a, rfl, hD, ρ1, en, h1, R1, RS.mono l1 rs, Post.mono (Post.bind (R := RV X.K) p1) fun y H2 ⟨ρ2, u, h2, l2, R2, r2, p2⟩ => ?_⟩
    refine ⟨ρ2, en, h2, R2, RS.mono (l1.trans l2) rs, Post.mono (Post.bind (R := RV X.K) p2) fun z H3 ⟨ρ3, t, h3, l3, R3, r3, p3⟩ => ?_⟩
    cases q1 : dicOf h3 v with
    | none => simp only [q1] at p3; exact p3.elim
    | some kvs => cases q2 : keyOf u with
      | none => simp only [q1, q2] at p3; exact p3.elim
      | some k =>
        simp only [q1, q2] at p3
        obtain ⟨a', ls, ex, rl, hl⟩ := dicOf_ok R3 (r1.mono (l2.trans l3)) q1
        cases ex
        refine ⟨valV ls k, .inl ⟨ls, k, hl, keyOf_ok (r2.mono l3) q2, rfl⟩, ?_⟩
        rcases getK_ok rl k with ⟨w, z, g1, g2, g3⟩ | ⟨g1, g2⟩
        · rw [g2]; rw [g1] at p3; exact p3 ρ3 H3 _ (Le.refl _) R3 g3
        · rw [g2]; rw [g1] at p3; exact p3 ρ3 H3 _ (Le.refl _) R3 r3
/-- d.pop(k, x), d.setdefault(k, x) -/
def eDpop2 (md mk mx : EM) : EM := fun e h => (md e h).bind fun d h1 => match dicOf h1 d with
  | none => .bad
  | some _ => (mk e h1).bind fun k h2 => (mx e h2).bind fun x h3 => match d with
    | .ref n => (match h3.get n, keyOf k with
      | some (.dic kvs), some k => (match getK kvs k with
        | some v => .ok v (h3.put n (.dic (delK kvs k)))
        | none => .ok x h3)
      | _, _ => .bad)
    | _ => .bad
def eDsetd (md mk mx : EM) : EM := fun e h => (md e h).bind fun d h1 => match dicOf h1 d with
  | none => .bad
  | some _ => (mk e h1).bind fun k h2 => (mx e h2).bind fun x h3 => match d with
    | .ref n => (match h3.get n, keyOf k with
      | some (.dic kvs), some k => if kvs.length < big then (match getK kvs k with
        | some v => .ok v h3
        | none => .ok x (h3.put n (.dic (setK kvs k x)))) else .bad
      | _, _ => .bad)
    | _ => .bad
theorem se_dpop2 {c : Expr} {mx : EM} (h : PE X c (tDPop2 (rdE X.K W ma) (rdE X.K W mb) (rdE X.K W mx))) : PE X c (rdE X.K W (eDpop2 ma mb mx)) := h.imp fun σ H Q ⟨ρ, en, hc, R, rs, p⟩ => by
  refine ⟨ρ, en, hc, R, rs, Post.mono (Post.bind (R := RV X.K) p) fun x H1 ⟨ρ1, v, h1, l1, R1, r1, p1⟩ => ?_⟩
  cases q0 : dicOf h1 v with
  | none => simp only [q0] at p1; exact p1.elim
  | some kvs0 =>
    simp only [q0] at p1
    obtain ⟨a, rfl, hD⟩ := isD_of R1 r1 q0
    refine ⟨a, rfl, hD, ρ1, en, h1, R1, RS.mono l1 rs, Post.mono (Post.bind (R := RV X.K) p1) fun y H2 ⟨ρ2, u, h2, l2, R2, r2, p2⟩ => ?_⟩
    refine ⟨ρ2, en, h2, R2, RS.mono (l1.trans l2) rs, Post.mono (Post.bind (R := RV X.K) p2) fun z H3 ⟨ρ3, t, h3, l3, R3, r3, p3⟩ => ?_⟩
    cases v with
    | ref n =>
      obtain ⟨a', ea, ex⟩ := r1
      cases ex
      cases q1 : h3.get n with
      | none => simp only [q1] at p3; exact p3.elim
      | some cl => cases cl with
        | dic kvs => cases q2 : keyOf u with
          | none => simp only [q1, q2] at p3; exact p3.elim
          | some k =>
            simp only [q1, q2] at p3
            have ea3 := l3.f _ _ (l2.f _ _ ea)
            obtain ⟨ls, rl, hl⟩ := R3.at ea3 q1
            refine ⟨ls, k, hl, keyOf_ok (r2.mono l3) q2, fun w hw => ?_, fun hn => ?_⟩
            · rcases getK_ok rl k with ⟨w', z', g1, g2, g3⟩ | ⟨g1, g2⟩
              · rw [g2] at hw
                cases hw
                simp only [g1] at p3
                exact stored R3 p3 g3 ea3 (img_dic (delK_ok rl k))
              · rw [g2] at hw; cases hw
            · rcases getK_ok rl k with ⟨w', z', g1, g2, g3⟩ | ⟨g1, g2⟩
              · rw [g2] at hn; cases hn
              · simp only [g1] at p3
                exact p3 ρ3 H3 _ (Le.refl _) R3 r3
        | _ => cases q2 : keyOf u <;> simp only [q1, q2] at p3 <;> exact p3.elim
    | _ => exact p3.elim
theorem se_dsetd {c : Expr} {mx : EM} (h : PE X c (tDSetd (rdE X.K W ma) (rdE X.K W mb) (rdE X.K W mx))) : PE X c (rdE X.K W (eDsetd ma mb mx)) := h.imp fun σ H Q ⟨ρ, en, hc, R, rs, p⟩ => by
  refine ⟨ρ, en, hc, R, rs, Post.mono (Post.bind (R := RV X.K) p) fun x H1 ⟨ρ1, v, h1, l1, R1, r1, p1⟩ => ?_⟩
  cases q0 : dicOf h1 v with
  | none => simp only [q0] at p1; exact p1.elim
  | some kvs0 =>
    simp only [q0] at p1
    obtain ⟨a, rfl, hD⟩ := isD_of R1 r1 q0
    refine ⟨a, rfl, hD, ρ1, en, h1, R1, RS.mono l1 rs, Post.mono (Post.bind (R := RV X.K) p1) fun y H2 ⟨ρ2, u, h2, l2, R2, r2, p2⟩ => ?_⟩
    refine ⟨ρ2, en, h2, R2, RS.mono (l1.trans l2) rs, Post.mono (Post.bind (R := RV X.K) p2) fun z H3 ⟨ρ3, t, h3, l3, R3, r3, p3⟩ => ?_⟩
    cases v with
    | ref n =>
      obtain ⟨a', ea, ex⟩ := r1
      cases ex
      cases q1 : h3.get n with
      | none => simp only [q1] at p3; exact p3.elim
      | some cl => cases cl with
        | dic kvs => cases q2 : keyOf u with
          | none => simp only [q1, q2] at p3; exact p3.elim
          | some k =>
            simp only [q1, q2] at p3
            have ea3 := l3.f _ _ (l2.f _ _ ea)
            obtain ⟨ls, rl, hl⟩ := R3.at ea3 q1
            by_cases zz : kvs.length < big
            · rw [if_pos zz] at p3
              refine ⟨ls, k, hl, keyOf_ok (r2.mono l3) q2, by rw [← big_eq, ← Paired.length rl]; exact zz, fun w hw => ?_, fun hn => ?_⟩
              · rcases getK_ok rl k with ⟨w', z', g1, g2, g3⟩ | ⟨g1, g2⟩
                · rw [g2] at hw
                  cases hw
                  simp only [g1] at p3
                  exact p3 ρ3 H3 _ (Le.refl _) R3 g3
                · rw [g2] at hw; cases hw
              · rcases getK_ok rl k with ⟨w', z', g1, g2, g3⟩ | ⟨g1, g2⟩
                · rw [g2] at hn; cases hn
                · simp only [g1] at p3
                  exact stored R3 p3 r3 ea3 (img_dic (setK_ok rl k r3))
            · rw [if_neg zz] at p3; exact p3.elim
        | _ => cases q2 : keyOf u <;> simp only [q1, q2] at p3 <;> exact p3.elim
    | _ => exact p3.elim
/-- d[k] = v -/
def sDput (md mk mv : EM) : SM := fun e h => (mv e h).into e fun v h1 => (md e h1).into e fun d h2 => (mk e h2).into e fun k h3 => match d with
  | .ref n => (match h3.get n, keyOf k with
    | some (.dic kvs), some k => if kvs.length < big then .nx e (h3.put n (.dic (setK kvs k v))) else .bad
    | _, _ => .bad)
  | _ => .bad
theorem s_dput {st : Stmt} {mv : EM} (h : PS X st (sDPut (rdE X.K W ma) (rdE X.K W mb) (rdE X.K W mv))) : PS X st (rdS X.K W (sDput ma mb mv)) := h.imp fun D σ H ⟨ρ, en, hc, R, rs, p⟩ => by
  refine ⟨ρ, en, hc, R, rs, Post.mono (PostS.into (R := RV X.K) p rs) fun x H1 ⟨ρ1, v, h1, l1, R1, r1, p1⟩ => ?_⟩
  refine ⟨ρ1, en, h1, R1, RS.mono l1 rs, Post.mono (PostS.into (R := RV X.K) p1 (RS.mono l1 rs)) fun y H2 ⟨ρ2, u, h2, l2, R2, r2, p2⟩ => ?_⟩
  refine ⟨ρ2, en, h2, R2, RS.mono (l1.trans l2) rs, Post.mono (PostS.into (R := RV X.K) p2 (RS.mono (l1.trans l2) rs)) fun z H3 ⟨ρ3, t, h3, l3, R3, r3, p3⟩ => ?_⟩
  cases u with
  | ref n =>
    obtain ⟨a, ea, rfl⟩ := r2
    cases q1 : h3.get n with
    | none => simp only [q1] at p3; exact p3.elim
    | some cl => cases cl with
      | dic kvs => cases q2 : keyOf t with
        | none => simp only [q1, q2] at p3; exact p3.elim
        | some k =>
          simp only [q1, q2] at p3
          have ea3 := l3.f _ _ ea
          obtain ⟨ls, rl, hl⟩ := R3.at ea3 q1
          by_cases zz : kvs.length < big
          · rw [if_pos zz] at p3
            refine ⟨a, _, rfl, .inl ⟨ls, k, hl, keyOf_ok r3 q2, by rw [← big_eq, ← Paired.length rl]; exact zz, rfl⟩, ?_⟩
            exact p3 ρ3 _ σ (Le.refl _) (R3.put ea3 (img_dic (setK_ok rl k (r1.mono (l2.trans l3))))) (RS.mono (l1.trans (l2.trans l3)) rs)
          · rw [if_neg zz] at p3; exact p3.elim
      | _ => cases q2 : keyOf t <;> simp only [q1, q2] at p3 <;> exact p3.elim
  | _ => exact p3.elim
/-- xs[i] = v -/
def setAt (o i v : Val) (h : Hc) : Option Hc := match o, i with
  | .ref n, .int j => (match h.get n with
    | some (.lst xs) => (match ixN xs.length j with
      | some k => some (h.put n (.lst (xs.set k v)))
      | none => none)
    | _ => none)
  | _, _ => none
def gSubL (mo mi : EM) : GM := fun v e h => (mo e h).bind fun o h1 => (mi e h1).bind fun i h2 => match setAt o i v h2 with
  | some h3 => .ok e h3
  | none => .bad
theorem sg_subL {tg : Expr} (h : PG X tg (gSub (rdE X.K W mo) (rdE X.K W mi) rSetL)) : PG X tg (rdG X.K W (gSubL mo mi)) := h.imp fun x σ H Q ⟨ρ, v, en, hc, R, r, rs, p⟩ => by
  refine ⟨ρ, en, hc, R, rs, Post.mono (Post.bind (R := RV X.K) p) fun y H1 ⟨ρ1, o, h1, l1, R1, r1, p1⟩ => ?_⟩
  refine ⟨ρ1, en, h1, R1, RS.mono l1 rs, Post.mono (Post.bind (R := RV X.K) p1) fun z H2 ⟨ρ2, i, h2, l2, R2, r2, p2⟩ => ?_⟩
  unfold setAt at p2
  cases o with
  | ref n => cases i with
    | int j =>
      cases r2
      obtain ⟨a, ea, rfl⟩ := r1
      cases q1 : h2.get n with
      | none => simp only [q1] at p2; exact p2.elim
      | some cl => cases cl with
        | lst xs =>
          simp only [q1] at p2
          have ea2 := l2.f _ _ ea
          obtain ⟨ys, ry, hy⟩ := R2.at ea2 q1
          cases q2 : ixN xs.length j with
          | none => simp only [q2] at p2; exact p2.elim
          | some k =>
            simp only [q2] at p2
            refine ⟨a, ys, j, k, rfl, rfl, hy, by rw [← Paired.length ry]; exact q2, ?_⟩
            exact p2 ρ2 _ σ (Le.refl _) (R2.put ea2 (img_lst (Paired.set ry (r.mono (l1.trans l2)) k))) (RS.mono (l1.trans l2) rs)
        | _ => simp only [q1] at p2; exact p2.elim
    | _ => exact p2.elim
  | _ => cases i <;> exact p2.elim
end
end Mr
end
section
set_option Elab.async false
set_option linter.all false
set_option maxRecDepth 100000
set_option maxHeartbeats 2000000
/-! Mr, part 9: what else a loop walks; locked dicts; isinstance; xs[::-1]. -/
namespace Mr
open PySem PySem.Spec PyProof.Rows L2
section
variable {X : Cx} {W : WS}
/-! ### enumerate -/
def itE (n : Nat) : ItM := fun i h => match h.get n with
  | some (.lst xs) => (match xs[i]? with
    | some v => .ok (some (.ref h.n)) (h.new (.tup [.int (i : Nat), v]))
    | none => .ok none h)
  | some (.fz xs) => (match xs[i]? with
    | some v => .ok (some (.ref h.n)) (h.new (.tup [.int (i : Nat), v]))
    | none => .ok none h)
  | _ => .bad
theorem it_enum {K : PySem.W.Frag} {ρ0 : Rho} {n : Nat} {a : Addr} (ea : ρ0.f n = some a) : ItS K ρ0 (itE n) (Ite K a) := by
  intro i ρ h H l R
  have ea' := l.f _ _ ea
  have key : ∀ xs, (h.get n = some (.lst xs) ∨ h.get n = some (.fz xs)) → (match (match xs[i]? with
      | some v => .ok (some (.ref h.n)) (h.new (.tup [.int (i : Nat), v]))
      | none => .ok none h : Res (Option Val)) with
    | .ok none h1 => h1 = h ∧ (Ite K a).stop i H
    | .ok (some v) h1 => (Ite K a).go i H ∧ ∀ x H', (Ite K a).yld i H x H' → ∃ ρ', Le ρ ρ' ∧ Rel K ρ' h1 H' ∧ RV K ρ' v x
    | _ => True) := by
    intro xs hx
    obtain ⟨ys, ry, hs⟩ := items_sql R ea' hx
    cases q : xs[i]? with
    | none => exact ⟨rfl, ys, hs, paired_none ry q⟩
    | some v =>
      obtain ⟨y, hy, r⟩ := Paired.get ry q
      refine ⟨⟨ys, y, hs, hy⟩, fun x H' hyl => ?_⟩
      obtain ⟨T, x0, rfl, hT, rfl, hz⟩ := hyl
      have := hz ys hs
      rw [hy] at this
      cases this
      have l2 := R.le_add T
      refine ⟨ρ.add h.n T, l2, R.new hT (fun b o e => ?_) (img_tup (.cons rfl (.cons (r.mono l2) .nil))), T, Rho.add_at _ _ _, rfl⟩
      rw [upd_ne (ne_of_none e hT)]
      exact e
  unfold itE
  cases q : h.get n with
  | none => trivial
  | some c =>
    cases c with
    | lst xs => exact key xs (.inl q)
    | fz xs => exact key xs (.inr q)
    | _ => trivial
def iEn (m : AM) : Env → M ItM := fun e h => (m e h).bind fun vs h1 => match vs with
  | [.ref n] => (match h1.get n with
    | some (.lst _) => .ok (itE n) h1
    | some (.fz _) => .ok (itE n) h1
    | _ => .bad)
  | _ => .bad
theorem si_enum {e : Expr} {p pos tpos : Pos} {elts : List Expr} {kk : Nat} {m : AM} (hm : X.mg "enumerate" = none) (ha : PA X [e] (rdA X.K W m)) (hg : Gl X "enumerate" := by rfl) (hs : starEach [e] X.env = [(false, eval e X.env)] := by rfl) :
    PI X (.Tuple elts kk tpos) (.Call (.Name "enumerate" p) [e] [] pos) (rdI X.K W (iEn m)) := by
  refine (pi_enum hg hm ha hs).imp fun σ H R ⟨ρ, en, hc, R0, rs, p⟩ => ?_
  refine ⟨ρ, en, hc, R0, rs, Post.mono (Post.bind (R := RVs X.K) p) fun xs H1 ⟨ρ1, vs, h1, l1, R1, r1, p1⟩ => ?_⟩
  cases r1 with
  | nil => exact p1.elim
  | @cons v x vs xs r t =>
    cases t with
    | cons _ _ => cases v <;> exact p1.elim
    | nil =>
      cases v with
      | ref n =>
        obtain ⟨a, ea, rfl⟩ := r
        cases q : h1.get n with
        | none => simp only [q] at p1; exact p1.elim
        | some c =>
          cases c with
          | lst zs =>
            simp only [q] at p1
            obtain ⟨ys, _, hs⟩ := items_sql R1 ea (.inl q)
            exact ⟨a, ys, rfl, hs, p1 ρ1 H1 _ (Le.refl _) R1 (it_enum ea)⟩
          | fz zs =>
            simp only [q] at p1
            obtain ⟨ys, _, hs⟩ := items_sql R1 ea (.inr q)
            exact ⟨a, ys, rfl, hs, p1 ρ1 H1 _ (Le.refl _) R1 (it_enum ea)⟩
          | _ => simp only [q] at p1; exact p1.elim
      | _ => exact p1.elim

/-! ### a text, a constant tuple, a locked dict; any of them -/
def itC (s : Str) : ItM := fun i h => match s.cps[i]? with
  | some c => .ok (some (.str ⟨#[c]⟩)) h
  | none => .ok none h
theorem it_str {K : PySem.W.Frag} {ρ0 : Rho} {s : Str} : ItS K ρ0 (itC s) (Its s) := by
  intro i ρ h H l R
  unfold itC
  cases q : s.cps[i]? with
  | none => exact ⟨rfl, Array.getElem?_eq_none_iff.mp q⟩
  | some c =>
    refine ⟨?_, fun x H' ⟨e, c', ec, ex⟩ => ?_⟩
    · show i < s.cps.size
      exact (Array.getElem?_eq_some_iff.mp q).1
    · subst e
      rw [q] at ec
      cases ec
      exact ⟨ρ, Le.refl _, R, ex⟩
def itG (xs : List Val) : ItM := fun i h => .ok (xs[i]?) h
theorem it_con {K : PySem.W.Frag} {ρ0 : Rho} {a : Addr} {xs : List Val} {ys : List V} (r : ∀ ρ, RVs K ρ xs ys) (hs : ∀ H, SqT K H a ys) : ItS K ρ0 (itG xs) (Itt K a) := by
  intro i ρ h H l R
  unfold itG
  cases q : xs[i]? with
  | none => exact ⟨rfl, ys, hs H, paired_none (r ρ) q⟩
  | some v =>
    obtain ⟨y, hyi, r'⟩ := Paired.get (r ρ) q
    refine ⟨⟨ys, y, hs H, hyi⟩, fun x H' hyl => ?_⟩
    obtain ⟨rfl, hz⟩ := hyl
    have := hz ys (hs _)
    rw [hyi] at this
    cases this
    exact ⟨ρ, Le.refl _, R, r'⟩
def keyV : Key → Val
  | .inl i => .int i
  | .inr s => .str s
theorem keyV_ok {K : PySem.W.Frag} {ρ : Rho} (k : Key) : RV K ρ (keyV k) (kV k) := by cases k <;> rfl
/-- which of a locked dict's parts: its keys, values, pairs -/
inductive Pt where
  | ks | vs | its
def itD (p : Pt) (n id : Nat) : ItM := fun i h => match h.get n with
  | some (.fd id' kvs) => if id' = id then (match kvs[i]? with
    | none => .ok none h
    | some (k, v) => (match p with
      | .ks => .ok (some (keyV k)) h
      | .vs => .ok (some v) h
      | .its => .ok (some (.ref h.n)) (h.new (.tup [keyV k, v])))) else .bad
  | _ => .bad
def Itp (p : Pt) (d : Addr) (o : Obj) (ls : List (Key × V)) : It := match p with
  | .ks => Itk d o ls
  | .vs => Itd d o ls
  | .its => Iti d o ls
theorem rp_get {K : PySem.W.Frag} {ρ : Rho} {kvs : List (Key × Val)} {ls : List (Key × V)} (r : RPs K ρ kvs ls) {i : Nat} {k : Key} {v : Val} (e : kvs[i]? = some (k, v)) : ∃ x, ls[i]? = some (k, x) ∧ RV K ρ v x := by
  obtain ⟨⟨k', x⟩, e', h1, h2⟩ := Paired.get r e
  cases h1
  exact ⟨x, e', h2⟩
theorem it_dict {K : PySem.W.Frag} {ρ0 : Rho} {p : Pt} {n id : Nat} {d : Addr} {o : Obj} {ls : List (Key × V)} (ed : ρ0.f n = some d) (ef : ρ0.fr id = some (o, .dK ls)) : ItS K ρ0 (itD p n id) (Itp p d o ls) := by
  intro i ρ h H l R
  have ed' := l.f _ _ ed
  have ef' := l.fr _ _ ef
  unfold itD
  cases q : h.get n with
  | none => trivial
  | some c =>
    cases c with
    | fd id' kvs =>
      by_cases z : id' = id
      · subst z
        simp only [if_pos]
        obtain ⟨o', ls', rl, hl, hf⟩ := R.at ed' q
        rw [ef'] at hf
        cases hf
        cases qi : kvs[i]? with
        | none =>
          have hn := paired_none rl qi
          cases p <;> exact ⟨rfl, hl, hn⟩
        | some kv =>
          obtain ⟨k, v⟩ := kv
          obtain ⟨x, hx, rx⟩ := rp_get rl qi
          have hlt : i < ls.length := (List.getElem?_eq_some_iff.mp hx).1
          cases p with
          | ks =>
            refine ⟨⟨hl, hlt⟩, fun x' H' hy => ?_⟩
            obtain ⟨rfl, k', v', e', rfl⟩ := hy
            rw [hx] at e'
            cases e'
            exact ⟨ρ, Le.refl _, R, keyV_ok k⟩
          | vs =>
            refine ⟨⟨hl, hlt⟩, fun x' H' hy => ?_⟩
            obtain ⟨rfl, k', e'⟩ := hy
            rw [hx] at e'
            cases e'
            exact ⟨ρ, Le.refl _, R, rx⟩
          | its =>
            refine ⟨⟨hl, hlt⟩, fun x' H' hy => ?_⟩
            obtain ⟨T, k', v', e', rfl, hT, rfl⟩ := hy
            rw [hx] at e'
            cases e'
            have l2 := R.le_add T
            refine ⟨ρ.add h.n T, l2, R.new hT (fun b ob e => ?_) (img_tup (.cons (keyV_ok k) (.cons (rx.mono l2) .nil))), T, Rho.add_at _ _ _, rfl⟩
            rw [upd_ne (ne_of_none e hT)]
            exact e
      · simp only [if_neg z]
    | _ => trivial
/-- for x in a list, a tuple, a text, a locked dict -/
def iAnyV (T : Con) (v : Val) : M ItM := fun h1 => match v with
  | .ref n => (match h1.get n with
    | some (.lst _) => .ok (itL n) h1
    | some (.fz _) => .ok (itL n) h1
    | some (.tup _) => .ok (itT n) h1
    | some (.fd id _) => .ok (itD .ks n id) h1
    | _ => .bad)
  | .str s => .ok (itC s) h1
  | .glo x => (match T.lookup x with
    | some xs => .ok (itG xs) h1
    | none => .bad)
  | _ => .bad
def iAny (T : Con) (m : EM) : Env → M ItM := fun e h => (m e h).bind fun v h1 => iAnyV T v h1
theorem si_any {T : Con} (hT : ConOk X.K T) {tg l : Expr} {m : EM} (hl : PE X l (rdE X.K W m)) : PI X tg l (rdI X.K W (iAny T m)) := PI.any fun σ H R ⟨ρ, e, h, Rl, rs, p⟩ => by
  unfold iAny at p
  cases q : m e h with
  | bad => simp only [q, Res.bind] at p; exact p.elim
  | exc C d h1 =>
    simp only [q, Res.bind] at p
    exact ⟨_, pi_list hl, ρ, e, h, Rl, rs, by rw [q]; exact p⟩
  | ok v h1 =>
    simp only [q, Res.bind] at p
    cases v with
    | ref n =>
      unfold iAnyV at p
      cases q2 : h1.get n with
      | none => simp only [q2] at p; exact p.elim
      | some c =>
        cases c with
        | lst xs =>
          simp only [q2] at p
          refine ⟨_, pi_list hl, ρ, e, h, Rl, rs, ?_⟩
          rw [q]
          intro ρ1 H1 x l1 R1 r1
          obtain ⟨a, ea, rfl⟩ := r1
          obtain ⟨ys, _, hs⟩ := items_sql R1 ea (.inl q2)
          exact ⟨a, rfl, ⟨ys, hs⟩, p ρ1 H1 _ l1 R1 (it_list ea)⟩
        | fz xs =>
          simp only [q2] at p
          refine ⟨_, pi_list hl, ρ, e, h, Rl, rs, ?_⟩
          rw [q]
          intro ρ1 H1 x l1 R1 r1
          obtain ⟨a, ea, rfl⟩ := r1
          obtain ⟨ys, _, hs⟩ := items_sql R1 ea (.inr q2)
          exact ⟨a, rfl, ⟨ys, hs⟩, p ρ1 H1 _ l1 R1 (it_list ea)⟩
        | tup xs =>
          simp only [q2] at p
          refine ⟨_, pi_tup hl, ρ, e, h, Rl, rs, ?_⟩
          rw [q]
          intro ρ1 H1 x l1 R1 r1
          obtain ⟨a, ea, rfl⟩ := r1
          obtain ⟨ys, _, hy⟩ := R1.at ea q2
          exact ⟨a, rfl, ⟨ys, .inl (.inl hy)⟩, p ρ1 H1 _ l1 R1 (it_tup ea)⟩
        | fd id kvs =>
          simp only [q2] at p
          refine ⟨_, pi_keys hl, ρ, e, h, Rl, rs, ?_⟩
          rw [q]
          intro ρ1 H1 x l1 R1 r1
          obtain ⟨a, ea, rfl⟩ := r1
          obtain ⟨o, ls, rl, hl', hf⟩ := R1.at ea q2
          exact ⟨a, o, rfl, .inl ⟨ls, hl', p ρ1 H1 _ l1 R1 (it_dict (p := .ks) ea hf)⟩⟩
        | _ => simp only [q2] at p; exact p.elim
    | str s =>
      refine ⟨_, pi_str hl, ρ, e, h, Rl, rs, ?_⟩
      rw [q]
      intro ρ1 H1 x l1 R1 r1
      cases r1
      exact ⟨s, rfl, p ρ1 H1 _ l1 R1 it_str⟩
    | glo x =>
      unfold iAnyV at p
      cases q2 : T.lookup x with
      | none => simp only [q2] at p; exact p.elim
      | some xs =>
        simp only [q2] at p
        obtain ⟨ys, ry, hy⟩ := hT x xs q2
        refine ⟨_, pi_tup hl, ρ, e, h, Rl, rs, ?_⟩
        rw [q]
        intro ρ1 H1 z l1 R1 r1
        cases r1
        exact ⟨_, rfl, ⟨ys, hy H1⟩, p ρ1 H1 _ l1 R1 (it_con ry hy)⟩
    | _ => exact p.elim
/-- d.values(), d.items(), d.keys(), d locked -/
def iPt (p : Pt) (m : EM) : Env → M ItM := fun e h => (m e h).bind fun v h1 => match v with
  | .ref n => (match h1.get n with
    | some (.fd id _) => .ok (itD p n id) h1
    | _ => .bad)
  | _ => .bad
theorem pt_rd {p : Pt} {m : EM} {σ : L2.St} {H : Hp} {R : It → Hp → Prop} (q : rdI X.K W (iPt p m) σ H R) : rdE X.K W m σ H fun x H1 => ∃ d o ls, x = .ref d ∧ H1 d = some (.frz o (.dK ls)) ∧ R (Itp p d o ls) H1 := by
  obtain ⟨ρ, en, hc, R0, rs, p0⟩ := q
  refine ⟨ρ, en, hc, R0, rs, Post.mono (Post.bind (R := RV X.K) p0) fun x H1 ⟨ρ1, v, h1, l1, R1, r1, p1⟩ => ?_⟩
  cases v with
  | ref n =>
    cases q : h1.get n with
    | none => simp only [q] at p1; exact p1.elim
    | some c => cases c with
      | fd id kvs =>
        simp only [q] at p1
        obtain ⟨a, ea, rfl⟩ := r1
        obtain ⟨o, ls, rl, hl', hf⟩ := R1.at ea q
        exact ⟨a, o, ls, rfl, hl', p1 ρ1 H1 _ (Le.refl _) R1 (it_dict ea hf)⟩
      | _ => simp only [q] at p1; exact p1.elim
  | _ => exact p1.elim
variable {tg e : Expr} {m : EM} {apos cpos : Pos}
theorem si_values (he : PE X e (rdE X.K W m)) (hbase : attributeBase e "values" X.env (eval e X.env) = eval e X.env := by rfl) (hline : (apos.endLine == cpos.line) = true := by rfl) : PI X tg (.Call (.Attribute e "values" apos) [] [] cpos) (rdI X.K W (iPt .vs m)) :=
  (pi_values he hbase hline).imp fun σ H R q => pt_rd q
theorem si_keys (he : PE X e (rdE X.K W m)) (hbase : attributeBase e "keys" X.env (eval e X.env) = eval e X.env := by rfl) (hline : (apos.endLine == cpos.line) = true := by rfl) : PI X tg (.Call (.Attribute e "keys" apos) [] [] cpos) (rdI X.K W (iPt .ks m)) :=
  (pi_keysM he hbase hline).imp fun σ H R q => pt_rd q
theorem si_items {elts : List Expr} {kk : Nat} {tpos : Pos} (he : PE X e (rdE X.K W m)) (hbase : attributeBase e "items" X.env (eval e X.env) = eval e X.env := by rfl) (hline : (apos.endLine == cpos.line) = true := by rfl) :
    PI X (.Tuple elts kk tpos) (.Call (.Attribute e "items" apos) [] [] cpos) (rdI X.K W (iPt .its m)) := (pi_items he hbase hline).imp fun σ H R q => pt_rd q

/-! ### locking -/
def dicAt (w : EM) (e : Env) (h : Hc) : Option (Nat × List (Key × Val)) := match w e h with
  | .ok (.ref n) _ => (match h.get n with
    | some (.dic kvs) => some (n, kvs)
    | _ => none)
  | _ => none
def opened (n id : Nat) (h : Hc) : Option Hc := match h.get n with
  | some (.fd id' kvs) => if id' = id then some (h.put n (.dic kvs)) else none
  | _ => none
/-- m runs while the dict that w tells is locked -/
def eLock (w m : EM) : EM := fun e h => match dicAt w e h with
  | some (n, kvs) => (match m e (h.lock n kvs) with
    | .ok v h2 => (match opened n h.n h2 with
      | some h3 => .ok v h3
      | none => .bad)
    | r => r)
  | none => m e h
def sLock (w : EM) (m : SM) : SM := fun e h => match dicAt w e h with
  | some (n, kvs) => (match m e (h.lock n kvs) with
    | .nx e2 h2 => (match opened n h.n h2 with
      | some h3 => .nx e2 h3
      | none => .bad)
    | .rt e2 h2 => (match opened n h.n h2 with
      | some h3 => .rt e2 h3
      | none => .bad)
    | .bk e2 h2 => (match opened n h.n h2 with
      | some h3 => .bk e2 h3
      | none => .bad)
    | .ct e2 h2 => (match opened n h.n h2 with
      | some h3 => .ct e2 h3
      | none => .bad)
    | r => r)
  | none => m e h
theorem dicAt_ok {w : EM} {e : Env} {h : Hc} {n : Nat} {kvs : List (Key × Val)} (q : dicAt w e h = some (n, kvs)) : h.get n = some (.dic kvs) := by
  unfold dicAt at q
  cases q1 : w e h with
  | ok v h1 =>
    cases v with
    | ref k =>
      simp only [q1] at q
      cases q2 : h.get k with
      | none => simp [q2] at q
      | some c => cases c with
        | dic kvs' =>
          simp only [q2] at q
          cases q
          exact q2
        | _ => simp [q2] at q
    | _ => simp [q1] at q
  | _ => simp [q1] at q
theorem opened_ok {K : PySem.W.Frag} {ρ ρ' : Rho} {n id : Nat} {h h3 : Hc} {H : Hp} {d : Addr} {od : Obj} {ls : List (Key × V)} (R : Rel K ρ' h H) (l : Le ρ ρ') (ed : ρ.f n = some d) (ef : ρ.fr id = some (od, .dK ls)) (q : opened n id h = some h3) :
    H d = some (.frz od (.dK ls)) ∧ Rel K ρ' h3 (upd H d (.dK ls)) := by
  have ed' := l.f _ _ ed
  have ef' := l.fr _ _ ef
  unfold opened at q
  cases q1 : h.get n with
  | none => simp [q1] at q
  | some c => cases c with
    | fd id' kvs =>
      simp only [q1] at q
      by_cases z : id' = id
      · rw [if_pos z] at q
        cases q
        subst z
        obtain ⟨o, ls', rl, hl, hf⟩ := R.at ed' q1
        rw [ef'] at hf
        cases hf
        exact ⟨hl, R.put ed' (img_dic rl)⟩
      · rw [if_neg z] at q; cases q
    | _ => simp [q1] at q
theorem _root_.L2.PS.any {st : Stmt} {t' : TS} (i : ∀ D σ H, t' D σ H → ∃ t, PS X st t ∧ t D σ H) : PS X st t' := ⟨fun pins s σ H D I q => by
  obtain ⟨t, h, q'⟩ := i _ _ _ q
  exact h.run pins s σ H D I q'⟩
theorem se_lock {w : EM} (h : PE X e (rdE X.K W m)) : PE X e (rdE X.K W (eLock w m)) := PE.any fun σ H Q ⟨ρ, en, hc, R, rs, p⟩ => by
  unfold eLock at p
  cases q : dicAt w en hc with
  | none =>
    simp only [q] at p
    exact ⟨_, h, ρ, en, hc, R, rs, p⟩
  | some nk =>
    obtain ⟨n, kvs⟩ := nk
    simp only [q] at p
    have hd := dicAt_ok q
    obtain ⟨d, ed, i⟩ := R.dom n _ hd
    obtain ⟨ls, rl, hl⟩ := i
    refine ⟨_, pe_lock h, d, .dK ls, hl, trivial, fun od => ?_⟩
    obtain ⟨R2, l2, at2⟩ := Rel.lock R ed rl od
    refine ⟨_, en, _, R2, RS.mono l2 rs, ?_⟩
    cases q2 : m en (hc.lock n kvs) with
    | bad => simp only [q2] at p; exact p.elim
    | exc C da h2 =>
      simp only [q2] at p
      exact fun ρ3 H3 da' l3 R3 rd => p ρ3 H3 da' (l2.trans l3) R3 rd
    | ok v h2 =>
      simp only [q2] at p
      cases q3 : opened n hc.n h2 with
      | none => simp only [q3] at p; exact p.elim
      | some h3 =>
        simp only [q3] at p
        intro ρ3 H3 x l3 R3 r3
        obtain ⟨e3, R4⟩ := opened_ok R3 l3 (l2.f _ _ ed) at2 q3
        exact ⟨e3, p ρ3 _ x (l2.trans l3) R4 r3⟩
theorem s_lock {w : EM} {st : Stmt} {ms : SM} (h : PS X st (rdS X.K W ms)) : PS X st (rdS X.K W (sLock w ms)) := PS.any fun D σ H ⟨ρ, en, hc, R, rs, p⟩ => by
  unfold sLock at p
  cases q : dicAt w en hc with
  | none =>
    simp only [q] at p
    exact ⟨_, h, ρ, en, hc, R, rs, p⟩
  | some nk =>
    obtain ⟨n, kvs⟩ := nk
    simp only [q] at p
    have hd := dicAt_ok q
    obtain ⟨d, ed, i⟩ := R.dom n _ hd
    obtain ⟨ls, rl, hl⟩ := i
    refine ⟨_, ps_lock h, d, .dK ls, hl, trivial, fun od => ?_⟩
    obtain ⟨R2, l2, at2⟩ := Rel.lock R ed rl od
    refine ⟨_, en, _, R2, RS.mono l2 rs, ?_⟩
    cases q2 : ms en (hc.lock n kvs) with
    | bad => simp only [q2] at p; exact p.elim
    | exc C da e2 h2 =>
      simp only [q2] at p
      exact fun ρ3 H3 da' σ3 l3 R3 rd => p ρ3 H3 da' σ3 (l2.trans l3) R3 rd
    | nx v h2 =>
      simp only [q2] at p
      cases q3 : opened n hc.n h2 with
      | none => simp only [q3] at p; exact p.elim
      | some h3 =>
        simp only [q3] at p
        intro ρ3 H3 x l3 R3 r3
        obtain ⟨e3, R4⟩ := opened_ok R3 l3 (l2.f _ _ ed) at2 q3
        exact ⟨e3, p ρ3 _ x (l2.trans l3) R4 r3⟩
    | rt v h2 =>
      simp only [q2] at p
      cases q3 : opened n hc.n h2 with
      | none => simp only [q3] at p; exact p.elim
      | some h3 =>
        simp only [q3] at p
        intro ρ3 H3 x l3 R3 r3
        obtain ⟨e3, R4⟩ := opened_ok R3 l3 (l2.f _ _ ed) at2 q3
        exact ⟨e3, p ρ3 _ x (l2.trans l3) R4 r3⟩
    | bk v h2 =>
      simp only [q2] at p
      cases q3 : opened n hc.n h2 with
      | none => simp only [q3] at p; exact p.elim
      | some h3 =>
        simp only [q3] at p
        intro ρ3 H3 x l3 R3 r3
        obtain ⟨e3, R4⟩ := opened_ok R3 l3 (l2.f _ _ ed) at2 q3
        exact ⟨e3, p ρ3 _ x (l2.trans l3) R4 r3⟩
    | ct v h2 =>
      simp only [q2] at p
      cases q3 : opened n hc.n h2 with
      | none => simp only [q3] at p; exact p.elim
      | some h3 =>
        simp only [q3] at p
        intro ρ3 H3 x l3 R3 r3
        obtain ⟨e3, R4⟩ := opened_ok R3 l3 (l2.f _ _ ed) at2 q3
        exact ⟨e3, p ρ3 _ x (l2.trans l3) R4 r3⟩

/-! ### xs[::-1] -/
def eRev (T : Con) (m : EM) : EM := fun e h => (m e h).bind fun v h1 => match seqOf T h1 v with
  | some (false, xs) => .ok (.ref h1.n) (h1.new (.lst xs.reverse))
  | _ => .bad
theorem se_rev {T : Con} (hT : ConOk X.K T) {k : Nat} {p1 p2 p3 pos : Pos} (he : PE X e (rdE X.K W m)) : PE X (.Subscript e (.Slice none none (some (.UnaryOp .USub (.Constant (.int 1) k p1) p2)) p3) pos) (rdE X.K W (eRev T m)) := by
  refine (pe_revL he).imp fun σ H Q ⟨ρ, en, hc, R, rs, p⟩ => ?_
  refine ⟨ρ, en, hc, R, rs, Post.mono (Post.bind (R := RV X.K) p) fun x H1 ⟨ρ1, v, h1, l1, R1, r1, p1⟩ => ?_⟩
  cases q : seqOf T h1 v with
  | none => simp only [q] at p1; exact p1.elim
  | some kx =>
    obtain ⟨kk, xs⟩ := kx
    cases kk with
    | true => simp only [q] at p1; exact p1.elim
    | false =>
      simp only [q] at p1
      obtain ⟨pa, ys, rfl, ry, hl, _⟩ := seq_ok hT R1 r1 q
      exact ⟨pa, ys, rfl, hl rfl, fun a ha => laid R1 p1 ha fun ρ' l => img_lst (Paired.reverse (RVs.mono l ry))⟩

/-! ### isinstance: built-in types of any value, own classes by a table -/
def tyN (h : Hc) : Val → Option String
  | .non => some "NoneType"
  | .bl _ => some "bool"
  | .int _ => some "int"
  | .str _ => some "str"
  | .ref n => (match h.get n with
    | some (.lst _) => some "list"
    | some (.fz _) => some "list"
    | some (.tup _) => some "tuple"
    | some (.dic _) => some "dict"
    | some (.fd _ _) => some "dict"
    | _ => none)
  | _ => none
def isTys : List String := ["int", "bool", "str", "list", "tuple", "dict"]
def isB (t c : String) : Option Bool := if isTys.contains c then some (t == c || (t == "bool" && c == "int")) else none
theorem isB_ok : ∀ t ∈ ("NoneType" :: isTys), ∀ c ∈ isTys, kitB t c = isB t c := by decide +kernel
/-- own classes: (class, what it is compared with) and the answer -/
abbrev IsT := List ((Str × Val) × Bool)
def clsV (K : PySem.W.Frag) : Val → Option Value
  | .ty n => some (.type n)
  | .glo x => some (.ref (He.ga K x))
  | _ => none
structure IsC (K : PySem.W.Frag) (C : Addr) : Prop where
  cl : Cls K C
  ha : PySem.W.findIn K (.ref C) "__class__" = some (some (.builtin "object.__class__"))
  hn : PySem.W.specialIn K (.builtin "object.__class__") "__get__" = some (some (.builtin "getset_descriptor.__get__"))
  ht : PySem.W.takesIn K (.builtin "object.__class__") = some true
  hm : PySem.W.mroIn K C (.type "object") = some true
/-- of built-in types and own classes: (a class asked about, is a built-in type's value one: never) -/
structure IsOk (K : PySem.W.Frag) (T : IsT) (B : List (String × Str)) : Prop where
  own : ∀ C c b, T.lookup (C, c) = some b → IsC K (He.ga K C) ∧ ∃ u, clsV K c = some u ∧ PySem.W.kitOne K (.ref (He.ga K C)) u = some b
  blt : ∀ t x, B.contains (t, x) = true → PySem.W.kitOne K (.type t) (.ref (He.ga K x)) = some false
def fIsi (T : IsT) (B : List (String × Str)) (as : List Val) : M Val := fun h => match as with
  | [v, c] => (match tyN h v with
    | some t => (match c with
      | .ty n => (match isB t n with
        | some b => .ok (.bl b) h
        | none => .bad)
      | .glo x => if B.contains (t, x) then .ok (.bl false) h else .bad
      | _ => .bad)
    | none => (match v with
      | .ref n => (match h.get n with
        | some (.ins C _) => (match T.lookup (C, c) with
          | some b => .ok (.bl b) h
          | none => .bad)
        | _ => .bad)
      | _ => .bad))
  | _ => .bad
theorem tyN_ok {ρ : Rho} {h : Hc} {H : Hp} {v : Val} {x : V} {t : String} (R : Rel X.K ρ h H) (r : RV X.K ρ v x) (e : tyN h v = some t) : TyX X.K H x (.type t) ∧ t ∈ "NoneType" :: isTys := by
  cases v with
  | non => cases r; cases e; exact ⟨.base .non, by decide⟩
  | bl b => cases r; cases e; exact ⟨.base (.bl b), by decide⟩
  | int b => cases r; cases e; exact ⟨.base (.int b), by decide⟩
  | str b => cases r; cases e; exact ⟨.base (.str b), by decide⟩
  | ref n =>
    obtain ⟨a, ea, rfl⟩ := r
    unfold tyN at e
    cases q : h.get n with
    | none => simp [q] at e
    | some c =>
      have i := R.at ea q
      cases c with
      | lst xs =>
        simp only [q] at e
        cases e
        obtain ⟨ys, ry, hy⟩ := i
        exact ⟨.base (.lst hy), by decide⟩
      | fz xs =>
        simp only [q] at e
        cases e
        obtain ⟨o, ys, ry, hy⟩ := i
        exact ⟨.base (.frz hy), by decide⟩
      | tup xs =>
        simp only [q] at e
        cases e
        obtain ⟨ys, ry, hy⟩ := i
        exact ⟨.base (.tup hy), by decide⟩
      | dic xs =>
        simp only [q] at e
        cases e
        obtain ⟨ys, ry, hy⟩ := i
        exact ⟨.base (.dK hy), by decide⟩
      | fd id xs =>
        simp only [q] at e
        cases e
        obtain ⟨o, ys, ry, hy, _⟩ := i
        exact ⟨.fDict hy, by decide⟩
      | _ => simp [q] at e
  | _ => cases e
theorem fIsi_ok {T : IsT} {B : List (String × Str)} (hT : IsOk X.K T B) : CallM X (.builtin "isinstance") (fIsi T B) := by
  refine ⟨_, call_isi, ?_⟩
  intro W ρ h H as xs Q R ra p
  cases as with
  | nil => exact p.elim
  | cons v t => cases t with
    | nil => exact p.elim
    | cons c t2 => cases t2 with
      | cons _ _ => exact p.elim
      | nil =>
        obtain ⟨x, y, rfl, r1, r2⟩ := two_arg_m ra
        unfold fIsi at p
        cases q : tyN h v with
        | some t =>
          simp only [q] at p
          obtain ⟨ty, ht⟩ := tyN_ok R r1 q
          cases c with
          | ty n =>
            cases r2
            cases q2 : isB t n with
            | none => simp only [q2] at p; exact p.elim
            | some b =>
              simp only [q2] at p
              have hn : n ∈ isTys := by
                unfold isB at q2
                by_cases z : isTys.contains n = true
                · exact List.contains_iff_mem.mp z
                · rw [if_neg z] at q2; cases q2
              exact ⟨x, .ty n, _, _, b, rfl, .ty n, ty, kit_ty ((isB_ok t ht n hn).trans q2), p ρ H _ (Le.refl _) R rfl⟩
          | glo z =>
            cases r2
            by_cases q2 : B.contains (t, z) = true
            · simp only [if_pos q2] at p
              exact ⟨x, _, _, _, false, rfl, .own _, ty, hT.blt t z q2, p ρ H _ (Le.refl _) R rfl⟩
            · simp only [if_neg q2] at p; exact p.elim
          | _ => exact p.elim
        | none =>
          simp only [q] at p
          cases v with
          | ref n =>
            cases q1 : h.get n with
            | none => simp only [q1] at p; exact p.elim
            | some cl => cases cl with
              | ins C fs =>
                simp only [q1] at p
                cases q2 : T.lookup (C, c) with
                | none => simp only [q2] at p; exact p.elim
                | some b =>
                  simp only [q2] at p
                  obtain ⟨ic, u, hu, hk⟩ := hT.own C c b q2
                  obtain ⟨a, ea, rfl⟩ := r1
                  obtain ⟨dx, gs, rf, hC, cls, na⟩ := R.at ea q1
                  have cv : ClsV y u := by
                    cases c with
                    | ty n => cases r2; cases hu; exact .ty n
                    | glo z => cases r2; cases hu; exact .own _
                    | _ => cases hu
                  exact ⟨_, y, _, u, b, rfl, cv, .base (.ins hC ic.cl ic.ha ic.hn ic.ht ic.hm), hk, p ρ H _ (Le.refl _) R rfl⟩
              | _ => simp only [q1] at p; exact p.elim
          | _ => exact p.elim
end
end Mr
end
section
set_option Elab.async false
set_option linter.all false
set_option maxRecDepth 100000
set_option maxHeartbeats 4000000
/-! Mr, part 10: own errors, raise, try. An own error class has a built-in base (any), an __init__ that stores its arguments. -/
namespace PySem
namespace MrX
open PySem.W PySem.Calls PyProof.Rows PySem.HandSPX
section
open Builtin Builtin.ObjectAttr
variable {prog : Program} {w : World} {A : Around} {E : Value → Shared → Prop} {R : Result → Shared → Prop} {hp : Heap} {g : Array GenState} {d : Drawn} {t : Nat} {os : OsState}
/-- an mro that lets object.__setattr__ store -/
structure Mro (l : List Value) : Prop where
  pass : ∀ self, refuseLoop self "__setattr__" l = pure ()
  ne : l.isEmpty = false
  ob : l.contains (.type "object") = true
theorem Mro.own {l : List Value} (m : Mro l) (C : Addr) : Mro (.ref C :: l) := ⟨fun self => (refuseLoop_ref self "__setattr__" C l).trans (m.pass self), rfl, by rw [List.contains_cons, m.ob, Bool.or_true]⟩
theorem osa_new {K : W.Frag} {name : Str} {tk : Tok} {v : Value} {x C : Addr} {fv : Array Value} {cd : ClassData}
    (X : K.In hp) (hx : hp.get? x = some { cls := .ref C, data := .fields fv }) (hcd : W.clsIn K C = some cd) (hm : Mro cd.mro) (hh : cd.hasDict = true) (ha : W.findIn K (.ref C) name = some none)
    (hq : ∀ h' tk' dx, (∀ b o, b ≠ x → hp.get? b = some o → h'.get? b = some o) → hp.objs.size ≤ dx → dx ≠ x → h'.get? x = some { cls := .ref C, dict := some dx, data := .fields fv } →
      h'.Ns1 dx (fun y => if y = name then some v else none) → R (.ok (.ret .none)) ⟨h', g, d, tk', os⟩) :
    codeAny (model prog w) A (.call (.builtin "object.__setattr__") ⟨[.ref x, .str name tk, v], []⟩) R ⟨hp, g, d, t, os⟩ := by
  have I : W.InstAt hp x { cls := .ref C, data := .fields fv } C none := ⟨hx, rfl, rfl, trivial⟩
  have SF := F.store_object
  have ne := hm.ne
  have hob : cd.mro.contains (.type "object") = true := hm.ob
  have hxs : x ≠ hp.objs.size := Nat.ne_of_lt (Heap.lt_size hx)
  have sub : W.Looks (model prog w) hp (isInstance (.ref x) (.type "object")) true := I.type.andThen (W.looks_mroIn X (by unfold W.mroIn; rw [hcd, Option.bind_some, if_neg (by rw [ne]; decide), hob]))
  refine codeAny_call_builtin SF.slot.plain SF.entry (@W.check_slot (model prog w) _ _ ⟨hp, g, d, t, os⟩ "object.__setattr__" "object" "__setattr__" (.ref x) [.str name tk, v] [] _ SF.kind SF.split sub (SF.args (.ref x) (.str name tk) v) ?_)
  have hmr : W.Looks (model prog w) hp (mroOf (.ref C)) cd.mro := (W.looks_clsIn X hcd).andThen .now
  have L3 : W.Looks (model prog w) hp (storeTaker? none) none := .now
  have hcls : W.Looks (model prog w) hp (classData C) cd := W.looks_clsIn X hcd
  rw [W.osa_eq, refuse_eq]
  refine wpAny_bind (wpAny_bind (I.type.at (wpAny_bind (hmr.at ?_))))
  rw [hm.pass _]
  refine wpAny_pure (wpAny_bind (I.type.at (wpAny_bind ((W.looks_findIn X ha).at (wpAny_bind (L3.at ?_))))))
  show wpAny _ _ (storeInOwnDict (.ref x) (.ref C) (.str name tk) name v false) _ _ _
  obtain ⟨nm, bs, mro, ns, qn, hd, sn, sb, ab, col, del⟩ := cd
  dsimp only at hh
  subst hh
  unfold storeInOwnDict ownDictForStores
  repeat (first | with_reducible refine store_in_new ?_ ?_ | with_reducible refine wpAny_loadPart_at hx ?_ | with_reducible refine hcls.at ?_ | wp_step)
  · exact ⟨_, #[], _, (Heap.get?_update_ne _ _ _ _ hxs.symm).trans (Heap.get?_push_at rfl rfl), rfl, fun e he => absurd he (by simp), fun _ => rfl⟩
  · intro h' tk' hn' hs
    have hx₁ : (hp.push { cls := .type "dict", data := .dict #[] }).get? x = some { cls := .ref C, data := .fields fv } := Heap.get?_push_of_some _ hx
    refine hq h' tk' hp.objs.size (fun b o hb ho => ?_) (Nat.le_refl _) hxs.symm ?_ hn'
    · exact (hs.2 b (Nat.ne_of_lt (Heap.lt_size ho))).trans ((Heap.get?_update_ne _ _ _ _ hb).trans (Heap.get?_push_of_some _ ho))
    · exact (hs.2 x hxs).trans (Heap.get?_update_self _ hx₁ rfl)
theorem osa_old {K : W.Frag} {name : Str} {tk : Tok} {v : Value} {x C dx : Addr} {fv : Array Value} {cd : ClassData} {m0 : Str → Option Value} {nl : List Str}
    (X : K.In hp) (hx : hp.get? x = some { cls := .ref C, dict := some dx, data := .fields fv }) (hns : hp.Ns1 dx m0) (hw : Within m0 nl) (hz : nl.length ≤ 1000) (hcd : W.clsIn K C = some cd) (hm : Mro cd.mro) (hh : cd.hasDict = true)
    (ha : W.findIn K (.ref C) name = some none)
    (hq : ∀ h' tk', (∀ b o, b ≠ dx → hp.get? b = some o → h'.get? b = some o) → h'.Ns1 dx (fun y => if y = name then some v else m0 y) → R (.ok (.ret .none)) ⟨h', g, d, tk', os⟩) :
    codeAny (model prog w) A (.call (.builtin "object.__setattr__") ⟨[.ref x, .str name tk, v], []⟩) R ⟨hp, g, d, t, os⟩ := by
  obtain ⟨oD, esD, epD, hoD, hdD, _⟩ := hns.count hw
  have I : W.InstAt hp x { cls := .ref C, dict := some dx, data := .fields fv } C (some oD) := ⟨hx, rfl, rfl, hoD⟩
  have SF := F.store_object
  have ne := hm.ne
  have hob : cd.mro.contains (.type "object") = true := hm.ob
  have sub : W.Looks (model prog w) hp (isInstance (.ref x) (.type "object")) true := I.type.andThen (W.looks_mroIn X (by unfold W.mroIn; rw [hcd, Option.bind_some, if_neg (by rw [ne]; decide), hob]))
  refine codeAny_call_builtin SF.slot.plain SF.entry (@W.check_slot (model prog w) _ _ ⟨hp, g, d, t, os⟩ "object.__setattr__" "object" "__setattr__" (.ref x) [.str name tk, v] [] _ SF.kind SF.split sub (SF.args (.ref x) (.str name tk) v) ?_)
  have hmr : W.Looks (model prog w) hp (mroOf (.ref C)) cd.mro := (W.looks_clsIn X hcd).andThen .now
  have L3 : W.Looks (model prog w) hp (storeTaker? none) none := .now
  have hcls : W.Looks (model prog w) hp (classData C) cd := W.looks_clsIn X hcd
  rw [W.osa_eq, refuse_eq]
  refine wpAny_bind (wpAny_bind (I.type.at (wpAny_bind (hmr.at ?_))))
  rw [hm.pass _]
  refine wpAny_pure (wpAny_bind (I.type.at (wpAny_bind ((W.looks_findIn X ha).at (wpAny_bind (L3.at ?_))))))
  show wpAny _ _ (storeInOwnDict (.ref x) (.ref C) (.str name tk) name v false) _ _ _
  obtain ⟨nm, bs, mro, ns, qn, hd, sn, sb, ab, col, del⟩ := cd
  dsimp only at hh
  subst hh
  unfold storeInOwnDict ownDictForStores
  repeat (first | with_reducible refine OEX.store_in_old hns hw hz ?_ | with_reducible refine wpAny_loadPart_at hx ?_ | with_reducible refine hcls.at ?_ | wp_step)
  intro h' tk' hn' hs
  exact hq h' tk' (fun b o hb ho => (hs.2 b hb).trans ho) hn'
end
end MrX
end PySem
namespace Mr
open PySem PySem.Spec PyProof.Rows L2
/-! ### the bases -/
structure BaseX (newId : String) (bm : List Value) : Prop where
  ex : ∃ B initId, ExcBaseFacts B newId initId bm
  mro : MrX.Mro bm
theorem base_VE : BaseX "ValueError.__new__" [.type "ValueError", .type "Exception", .type "BaseException", .type "object"] := ⟨⟨_, _, F.excBase_ValueError⟩, fun self => by kernel_rfl, rfl, by decide +kernel⟩
theorem base_LE : BaseX "LookupError.__new__" [.type "LookupError", .type "Exception", .type "BaseException", .type "object"] := ⟨⟨_, _, F.excBase_LookupError⟩, fun self => by kernel_rfl, rfl, by decide +kernel⟩
theorem base_RE : BaseX "RuntimeError.__new__" [.type "RuntimeError", .type "Exception", .type "BaseException", .type "object"] := ⟨⟨_, _, F.excBase_RuntimeError⟩, fun self => by kernel_rfl, rfl, by decide +kernel⟩
theorem base_OE : BaseX "OverflowError.__new__" [.type "OverflowError", .type "ArithmeticError", .type "Exception", .type "BaseException", .type "object"] := ⟨⟨_, _, F.excBase_OverflowError⟩, fun self => by kernel_rfl, rfl, by decide +kernel⟩
/-- what the written part says of an own error class -/
structure OexG (K : PySem.W.Frag) (C : Addr) : Prop where
  cls : ∃ nm q N bs bm sn sub ab col dd k0 k1 k2 k3 k5 newId, K.lookup C = some (excClassObj nm q C N bs bm true sn sub ab col dd k0 k1 k2 k3 k5 newId) ∧ BaseX newId bm
  sa : PySem.W.findIn K (.ref C) "__setattr__" = some (some (.builtin "object.__setattr__"))
  exC : PySem.W.subIn K (.ref C) (.type "BaseException") = some true
  tyC : PySem.W.typeIn K (.ref C) = some (.type "type")
  kC : PySem.W.keepIn K (.ref C) = true
section
variable {X : Cx} {pins : List (Addr × Obj)} {σ : L2.St} {H : Hp} {s : Shared} {a C dx : Addr} {f : Str} {y : V} {u : Value} {fs : List (Str × V)} {Q : Unit → Shared → Prop} {E : Value → Shared → Prop} {A : Around}
theorem ost_newG (T : OexG X.K C) (I : Inv X pins σ H s) (e : H a = some (exo a C none)) (hno : PySem.W.findIn X.K (.ref C) f = some none) (ry : RelV y u)
    (h : ∀ dx s', H dx = none → dx ≠ a → Inv X pins σ (upd (upd H dx (exd dx [(f, y)])) a (exo a C (some dx))) s' → Q () s') : wpAny (model X.prog X.w) A (setAttr (.ref a) f u) Q E s := by
  obtain ⟨nm, q, N, bs, bm, sn, sub, ab, col, dd, k0, k1, k2, k3, k5, newId, hC, hbm⟩ := T.cls
  have hcl : PySem.W.clsIn X.K C = some { name := nm, bases := bs, mro := .ref C :: bm, ns := N, qualname := q, hasDict := true, slotNames := sn, subclasses := sub, abstract := ab, collection := col, hasDel := false } := by unfold PySem.W.clsIn; rw [hC] <;> rfl
  obtain ⟨t1, ho⟩ := exo_at I.hok e
  obtain ⟨hp, g, d, t, os⟩ := s
  refine PySem.W.set_plain I.kIn (ox := { cls := .ref C, dict := none, data := .fields #[.ref t1, .none, .none, .none, .bool false, .none] }) (od := none) ⟨ho, rfl, rfl, trivial⟩ T.sa ?_
  refine PySem.MrX.osa_new I.kIn ho hcl (hbm.mro.own C) rfl hno (fun h' tk' dx k dn dne hx hn => ?_)
  have hnd : H dx = none := I.hok.fresh dn
  have nd : ∀ {b : Addr} {o : Obj}, hp.get? b = some o → b ≠ dx := fun {b o} q => Nat.ne_of_lt (Nat.lt_of_lt_of_le (Heap.lt_size q) dn)
  have na : ∀ {b : Addr}, H b = none → b ≠ a := fun {b} n z => by
    rw [z, e] at n
    cases n
  have Un1 : Un X.fs [] H (upd (upd H dx (exd dx [(f, y)])) a (exo a C (some dx))) hp h' := {
    keep := fun b o q n _ _ => k b o (na n) q
    slot := fun b o q n _ _ => ⟨o.slots, k b o (na n) q⟩
    free := fun b o q n _ => by rw [upd_ne (na n), upd_ne (nd q)]; exact n
    there := fun b o q _ => by
      by_cases hb : b = a
      · exact ⟨_, by rw [hb]; exact hx⟩
      · exact ⟨o, k b o hb q⟩
    tups := fun b xs q => by rw [upd_ne (at_ne e q exo_tup), upd_ne (ne_of_none q hnd)]; exact q
    frzs := fun b o v q => by rw [upd_ne (at_ne e q exo_frz), upd_ne (ne_of_none q hnd)]; exact q
    tbls := fun b ps q => ⟨#[], by rw [upd_ne (at_ne e q exo_tbl), upd_ne (ne_of_none q hnd), q]; simp⟩ }
  refine h dx _ hnd dne (I.un (t' := tk') Un1 fun b o q => ?_)
  by_cases hb : b = a
  · subst hb
    rw [upd_same] at q
    cases q
    exact exo_ok hx
  · rw [upd_ne hb] at q
    by_cases hd : b = dx
    · subst hd
      rw [upd_same] at q
      cases q
      exact exd_ok hn (relO_put (fs := []) ry fun g => True.intro)
    · rw [upd_ne hd] at q
      exact (I.hok b o q).stay (fun c v hc z => k c v (by
          rcases hc with hc | hc
          · rw [hc]
            exact hb
          · exact at_ne e hc exo_own) z)
        (fun c hc => by rw [upd_ne (at_ne e hc exo_own), upd_ne (ne_of_none hc hnd)]; exact hc) (fun c xs hc => by rw [upd_ne (at_ne e hc exo_tup), upd_ne (ne_of_none hc hnd)]; exact hc)
theorem ost_oldG (T : OexG X.K C) (I : Inv X pins σ H s) (e : H a = some (exo a C (some dx))) (ed : H dx = some (exd dx fs)) (hl : fs.length ≤ 900) (hno : PySem.W.findIn X.K (.ref C) f = some none) (ry : RelV y u)
    (h : ∀ s', Inv X pins σ (upd H dx (exd dx ((f, y) :: fs))) s' → Q () s') : wpAny (model X.prog X.w) A (setAttr (.ref a) f u) Q E s := by
  obtain ⟨nm, q, N, bs, bm, sn, sub, ab, col, dd, k0, k1, k2, k3, k5, newId, hC, hbm⟩ := T.cls
  have hcl : PySem.W.clsIn X.K C = some { name := nm, bases := bs, mro := .ref C :: bm, ns := N, qualname := q, hasDict := true, slotNames := sn, subclasses := sub, abstract := ab, collection := col, hasDel := false } := by unfold PySem.W.clsIn; rw [hC] <;> rfl
  obtain ⟨t1, ho⟩ := exo_at I.hok e
  obtain ⟨mA, hns, rel⟩ := exd_at I.hok ed
  have hw := within_of rel
  obtain ⟨hp, g, d, t, os⟩ := s
  obtain ⟨oD, _, _, hoD, _, _⟩ := hns.count hw
  refine PySem.W.set_plain I.kIn (ox := { cls := .ref C, dict := some dx, data := .fields #[.ref t1, .none, .none, .none, .bool false, .none] }) (od := some oD) ⟨ho, rfl, rfl, hoD⟩ T.sa ?_
  refine PySem.MrX.osa_old I.kIn ho hns hw (by rw [List.length_map]; omega) hcl (hbm.mro.own C) rfl hno (fun h' tk' k hn => ?_)
  have hd : ∃ o, h'.get? dx = some o := by
    obtain ⟨o, _, _, e', _⟩ := hn
    exact ⟨o, e'⟩
  exact h _ (I.write (t' := tk') (x := dx) (e := dx) (o := exd dx ((f, y) :: fs)) (by rw [ed]; exact True.intro) (.inl rfl) k hd (exd_ok hn (relO_put ry rel)))
end
/-- self.f = e in an own error's __init__ -/
def tOstG (K : PySem.W.Frag) (f : Str) (to te : TE) : TS := fun D σ H => te σ H fun y H1 => to σ H1 fun x H2 => ∃ a C : Addr, x = .ref a ∧ OexG K C ∧ PySem.W.findIn K (.ref C) f = some none ∧
  ((H2 a = some (exo a C none) ∧ ∀ dx, H2 dx = none → dx ≠ a → D.nx σ (upd (upd H2 dx (exd dx [(f, y)])) a (exo a C (some dx)))) ∨
    ∃ (dx : Addr) (fs : List (Str × V)), H2 a = some (exo a C (some dx)) ∧ H2 dx = some (exd dx fs) ∧ fs.length ≤ 900 ∧ D.nx σ (upd H2 dx (exd dx ((f, y) :: fs))))
section
variable {X : Cx} {o e : Expr} {es : List Expr} {to te : TE} {ta : TA} {f : Str} {p p' p1 p2 pos : Pos}
theorem ps_ostG (ho : PE X o to) (he : PE X e te) (hs : swapsWith e (some (.Attribute o f p')) pos.line X.env = pure false := by rfl) : PS X (.Assign [.Attribute o f p'] e pos) (tOstG X.K f to te) := by
  refine ⟨fun pins s σ H D I h => ?_⟩
  refine plainObj_wpAny_Assign_Attribute (thn (he.run pins s σ H _ I h) fun v s1 ⟨y, H1, I1, r1, q1⟩ => thn (ho.run pins s1 σ H1 _ I1 q1) fun u s2 ⟨x, H2, I2, r2, a, C, ex, T, hno, q⟩ => ?_) hs
  subst ex
  obtain rfl : u = Value.ref a := r2
  rcases q with ⟨ea, q⟩ | ⟨dx, fs, ea, ed, hl, q⟩
  · exact ost_newG T I2 ea hno r1 fun dx s' n ne J => ⟨σ, _, J, q dx n ne⟩
  · exact ost_oldG T I2 ea ed hl hno r1 fun s' J => ⟨σ, _, J, q⟩
/-- C(e, ..) -/
theorem pmk_oexG {CX : CXT} {x : Str} {C fI : Addr} {k : Nat} {fd : FuncData} {ps : List Str} {sp : Sp} {ds : List Value} {dvs : List V} (T : OexG X.K C) (iC : PySem.W.findIn X.K (.ref C) "__init__" = some (some (.ref fI))) (tI : PySem.W.typeIn X.K (.ref fI) = some (.type "function"))
    (F1 : FnOk X.prog X.w X.K X.mg X.base CX k fI fd ps sp) (hr : Room (k + 1) X.A) (hb : Binds X.K fd ps ds) (hd : Vals dvs ds) (hx : Passes CX X (fun _ _ _ => False)) (hg : Gl X x) (hm : X.mg x = some (.ref C)) (ha : PA X (e :: es) ta)
    (hdb : (x == ("__debug__" : Str)) = false := by decide) (he : starEach (e :: es) X.env = (false, eval e X.env) :: starEach es X.env := by rfl) (hpl : (backTo pos (starEach es X.env)).any (·.1) = false := by rfl) :
    PMk X (.Call (.Name x p) (e :: es) [] pos) (tMkO C sp dvs ta) := by
  intro pins s σ H Q I h
  obtain ⟨nm, q, N, bs, bm, sn, sub, ab, col, dd, k0, k1, k2, k3, k5, newId, hC, ⟨⟨B, initId, FB⟩, _⟩⟩ := T.cls
  refine wpAny_Call_Name_kw (ld_glob I hg hm ?_ hdb)
  refine PySem.W.callWith_K (h₀ := X.base) I.ok.mod.kin T.kC (thn (ha.run pos pins s σ H _ I h) fun us s1 ⟨vs, H1, I1, r1, hz, q1⟩ => ⟨I1.kIn, ?_⟩) he hpl
  show wpAny _ _ (call (.ref C) us) _ _ _
  obtain ⟨hp, g, dr, tk, os⟩ := s1
  have hsz : hp.objs.size ≤ hp.objs.size + 1 := Nat.le_succ _
  have hn : H1 (hp.objs.size + 1) = none := I1.hok.fresh hsz
  have hq := q1 (hp.objs.size + 1) hn
  have kk : ∀ b o, hp.get? b = some o → ((hp.push (PySem.W.kdv_tup us)).push (PySem.HandSPX.excO C hp.objs.size)).get? b = some o := fun b o e => Heap.get?_push_of_some _ (Heap.get?_push_of_some _ e)
  have hget : ((hp.push (PySem.W.kdv_tup us)).push (PySem.HandSPX.excO C hp.objs.size)).get? (hp.objs.size + 1) = some (PySem.HandSPX.excO C hp.objs.size) := by heap_get
  have I2 : Inv X pins σ (upd H1 (hp.objs.size + 1) (exo (hp.objs.size + 1) C none)) ⟨(hp.push (PySem.W.kdv_tup us)).push (PySem.HandSPX.excO C hp.objs.size), g, dr, tk, os⟩ :=
    I1.laid (t' := tk) (a := hp.objs.size + 1) (o := exo (hp.objs.size + 1) C none) (h' := (hp.push (PySem.W.kdv_tup us)).push (PySem.HandSPX.excO C hp.objs.size)) kk hsz (exo_ok hget)
  have r2 : Vals (V.ref (hp.objs.size + 1) :: (vs ++ dvs)) (Value.ref (hp.objs.size + 1) :: (us ++ ds)) := .cons rfl (r1.append hd)
  have hl : (Value.ref (hp.objs.size + 1) :: us ++ ds).length = ps.length := by
    have e := r2.length
    rw [F1.len _ _ _ _ hq] at e
    exact e.symm
  have hus : us.length ≤ sizeLine := by
    rw [← Paired.length r1, sizeLine_eq]
    omega
  refine wpAny_call (PySem.HandSPX.call_own FB (fun Y => rfl) (I1.kIn _ _ hC) (PySem.W.looks_findIn I1.kIn iC) (fun self => PySem.W.bind_fn I1.kIn self tI) hus
    (codeAny_mono (F1.run _ X.stack _ _ ⟨Value.ref (hp.objs.size + 1) :: us, []⟩ (Value.ref (hp.objs.size + 1) :: (us ++ ds)) _ _ (fun _ _ _ => False) (hr.make C us []) (I2.env0.make C us []) (hb _ (Value.ref (hp.objs.size + 1) :: us) I2.kIn hl) r2 hq) fun r s' hq' => ?_))
  cases r with
  | error er => exact hx pins σ _ _ er s' I2 hq'
  | ok fl =>
    cases fl with
    | ret u =>
      obtain ⟨v, H2, os2, bare2, un2, hok2, rv, ev, d, fs, ea, ed, hd1, q2⟩ := hq'
      subst ev
      obtain ⟨h2, g2, d2, t2, os'⟩ := s'
      exact ⟨rv, mk_end (raises_own T.exC T.tyC) I1 hsz kk un2 hok2 os2 bare2 ea ed hd1 q2⟩
    | next => exact False.elim hq'
    | brk => exact False.elim hq'
    | cont => exact False.elim hq'
end
end Mr
end
section
set_option Elab.async false
set_option linter.all false
set_option maxRecDepth 100000
set_option maxHeartbeats 4000000
/-! Mr, part 11: raise, try .. except .. as .., fields and isinstance of the error that is handled. -/
namespace Mr
open PySem PySem.Spec PyProof.Rows L2
/-! ### the error is tracked -/
theorem exoT_own {a C x : Addr} {d : Option Addr} : exoT a C d ≠ .own x := fun z => by
  unfold exoT at z
  cases z
theorem exoT_tup {a C : Addr} {d : Option Addr} {xs : List V} : exoT a C d ≠ .tup xs := fun z => by
  unfold exoT at z
  cases z
theorem Inv.track {X : Cx} {pins : List (Addr × Obj)} {σ : L2.St} {H : Hp} {s : Shared} {a C : Addr} {d : Option Addr} {oe : Obj} {vs : Array Value} (I : Inv X pins σ H s) (he : s.heap.get? a = some oe) (hz : Zc (.ref C) d oe) (hd : oe.data = .fields vs) (na : H a = none) (n0 : X.s_0.heap.get? a = none)
    (nL : a ≠ X.env.locals) (np : ∀ p ∈ X.pn ++ pins, p.1 ≠ a) : Inv X pins σ (upd H a (exoT a C d)) s := by
  have nC : ∀ x c, X.env.cells.lookup x = some c → c ≠ a := fun x c e z => by
    obtain ⟨v, o, e1, e2⟩ := I.cell x c e
    rw [z, he] at e1
    cases e1
    rw [hd] at e2
    cases e2
  refine ⟨I.ok, I.os, I.bare, ⟨I.base.keep, I.base.slot, fun b o e n hx => ?_, I.base.there, fun b xs e => ?_, fun b o x e => ?_, fun b ps e => ?_⟩, I.loc, I.cell, ?_, fun x c e => ?_, fun p hp => ?_, fun b o e => ?_, I.len⟩
  · rw [upd_ne (fun z => by rw [z, n0] at e; cases e)]; exact I.base.free b o e n hx
  · have q := I.base.tups b xs e
    rw [upd_ne (ne_of_none q na)]; exact q
  · have q := I.base.frzs b o x e
    rw [upd_ne (ne_of_none q na)]; exact q
  · obtain ⟨m, q⟩ := I.base.tbls b ps e
    exact ⟨m, by rw [upd_ne (ne_of_none q na)]; exact q⟩
  · rw [upd_ne (Ne.symm nL)]; exact I.free
  · rw [upd_ne (nC x c e)]; exact I.freeC x c e
  · obtain ⟨e, n, r⟩ := I.pin p hp
    exact ⟨e, by rw [upd_ne (np p hp)]; exact n, r⟩
  · by_cases hb : b = a
    · subst hb
      rw [upd_same] at e
      cases e
      exact ⟨⟨oe, vs, he, hz.1, hz.2, hd⟩, ⟨oe, he⟩, fun h1 h2 ⟨o1, v1, e1, r⟩ k => ⟨o1, v1, k _ e1, r⟩⟩
    · rw [upd_ne hb] at e
      exact (I.hok b o e).stay (fun c v _ q => q) (fun c q => by rw [upd_ne (ne_of_none q na)]; exact q) fun c xs q => by rw [upd_ne (ne_of_none q na)]; exact q
theorem exoT_at {P : Program} {w : World} {H : Hp} {h : Heap} {a C : Addr} {d : Option Addr} (hok : HOk P w H h) (e : H a = some (exoT a C d)) : ∃ (oe : Obj) (vs : Array Value), h.get? a = some oe ∧ oe.cls = .ref C ∧ oe.dict = d ∧ oe.data = .fields vs := (hok a _ e).1
section
variable {X : Cx} {pins : List (Addr × Obj)} {σ : L2.St} {H : Hp} {s : Shared}
theorem Inv.toSuite (I : Inv X pins σ H s) (a : Addr) : Inv (X.suite a (X.pn ++ pins)) [] σ H s :=
  ⟨I.ok.suite _ _, I.os, I.bare, I.base, I.loc, I.cell, I.free, I.freeC, fun p hp => I.pin p (by rw [List.append_nil] at hp; exact hp), I.hok, I.len⟩
theorem Inv.ofSuite {a : Addr} {pn' : List (Addr × Obj)} (I : Inv (X.suite a (X.pn ++ pins)) pn' σ H s) (ok : X.Ok) : Inv X pins σ H s :=
  ⟨ok, I.os, I.bare, I.base, I.loc, I.cell, I.free, I.freeC, fun p hp => I.pin p (List.mem_append_left _ hp), I.hok, I.len⟩
end
/-- behind a suite its name is gone -/
def goneD (i : Option Nat) (D : Ends) : Ends := match i with
  | none => D
  | some i => { nx := fun σ' H' => D.nx (σ'.set i none) H', rt := D.rt, bk := fun σ' H' => D.bk (σ'.set i none) H', ct := fun σ' H' => D.ct (σ'.set i none) H' }
def putE (i : Option Nat) (a : Addr) (σ : L2.St) : L2.St := match i with
  | none => σ
  | some i => σ.set i (some (.ref a))
/-- what the clauses wish of an error of the body -/
def wAll (K : PySem.W.Frag) (Wout : WX) (D : Ends) : List (Value × Option Nat × TS) → WX
  | [] => Wout
  | (c, i, ts) :: r => fun cls d σ H => ∃ b, PySem.W.exmOne K cls c = some b ∧ (b = true → ∃ C, cls = .ref C ∧ ∀ a, H a = none → ts (goneD i D) (putE i a σ) (upd H a (exoT a C d))) ∧ (b = false → wAll K Wout D r cls d σ H)
inductive HdsT (X : Cx) : List ExceptHandler → List (Value × Option Nat × TS) → Prop
  | nil : HdsT X [] []
  | plain {x : Str} {c : Value} {ts : TS} {b₀ : Stmt} {suite : List Stmt} {np pos' : Pos} {hds : List ExceptHandler} {l : List (Value × Option Nat × TS)} (hc : Names X x c)
      (hsu : ∀ (a : Addr) (pn : List (Addr × Obj)), PSs (X.suite a pn) (b₀ :: suite) ts) (r : HdsT X hds l) : HdsT X (.ExceptHandler (some (.Name x np)) none (b₀ :: suite) pos' :: hds) ((c, none, ts) :: l)
  | as_ {x n : Str} {c : Value} {i : Nat} {ts : TS} {b₀ : Stmt} {suite : List Stmt} {np pos' : Pos} {hds : List ExceptHandler} {l : List (Value × Option Nat × TS)} (hc : Names X x c) (hi : X.N[i]? = some n) (hln : X.env.kindOf n = some .local)
      (hsu : ∀ (a : Addr) (pn : List (Addr × Obj)), PSs (X.suite a pn) (b₀ :: suite) ts) (r : HdsT X hds l) : HdsT X (.ExceptHandler (some (.Name x np)) (some n) (b₀ :: suite) pos' :: hds) ((c, some i, ts) :: l)
section
variable {X : Cx} {body : List Stmt} {h₀ : ExceptHandler} {hds : List ExceptHandler} {l : List (Value × Option Nat × TS)} {pos : Pos} {tb : WX → TS} {Wout : WX}
theorem ps_try_all (hs : X.stack = X.env :: X.outer) (hf : X.env.frame = some X.env.locals) (hex : X.ex = []) (hN : X.N.Nodup) (tk : Takes X Wout)
    (hb : ∀ (W : WX) (pn : List (Addr × Obj)) (xe : Value → Shared → Prop), Takes (X.tr pn xe) W → PassesOwn (model X.prog X.w) X.A X.env xe → PSs (X.tr pn xe) body (tb W))
    (hh : HdsT X (h₀ :: hds) l) : PS X (.Try body (h₀ :: hds) [] [] pos) (fun D σ H => tb (wAll X.K Wout D l) D σ H) := by
  refine ⟨fun pins s σ H D I h => ?_⟩
  have ok := I.ok
  have hfr : X.A.frames = some (X.env :: X.outer) := by rw [ok.frames, hs]
  refine wpAny_Try_except ?_
  refine wpAny_mono ((hb (wAll X.K Wout D l) (X.pn ++ pins) (fun e s₁ => wpAny (model X.prog X.w) X.A (noteFrame e X.env) (fun _ s₂ => wpAny (model X.prog X.w) X.A (setFlight e none) (fun _ s₃ =>
    wpAny (model X.prog X.w) X.A (handleBy e X.env (h₀ :: hds)) (SP X pins D) X.xe s₃) X.xe s₂) X.xe s₁) (fun u s' xx => ?_) PassesOwn.looking).run [] s σ H D (I.toTry _) h) (fun f s1 hsp => ?_) (fun e s1 he => he)
  · -- the catch
    obtain ⟨a, B, sI, pins', σ', H', cls, d, rfl, J', nb, up, sky, na, os, ag, w⟩ := xx
    have J : Inv X pins σ' H' sI := J'.ofTry ok
    have sky' : Sky B (X.env :: X.outer) a (Zc cls d) X.env.locals s'.heap := by rw [← hs]; exact sky
    show wpAny (model X.prog X.w) X.A (noteFrame (.ref a) X.env) _ _ _
    refine Sky.land Zc.steady hfr hf sky' fun h3 fl3 up3 => ?_
    have J3 : Inv X pins σ' H' { s' with heap := h3 } := J.landed nb fl3.1 (up.trans up3) os ag
    obtain ⟨oe3, vs3, he3, hz3, hd3⟩ := fl3.there
    have notFr : ∀ {h : Heap} {o : Obj} {vs : Array Value}, h.FunFrames B (X.env :: X.outer) → h.get? a = some o → o.data = .fields vs → a ∉ frs (X.env :: X.outer) := fun {h o vs} ff e dd hm => by
      obtain ⟨_, o', e', hnf⟩ := ff.mem hm
      rw [e] at e'; cases e'
      exact hnf _ dd
    have nfr := notFr fl3.2.2.1 he3 hd3
    have nL : a ≠ X.env.locals := fun z => nfr (List.mem_filterMap.mpr ⟨X.env, List.mem_cons_self, by rw [hf, z]⟩)
    have nF : a ∉ X.fs := fun hm => by
      obtain ⟨e, he, q⟩ := List.mem_filterMap.mp hm
      exact nfr (List.mem_filterMap.mpr ⟨e, List.mem_cons_of_mem _ he, q⟩)
    have nB : B.get? a = none := fl3.2.1
    have nSt : a ∉ frs X.stack := by rw [hs]; exact nfr
    have nI : ∀ o, sI.heap.get? a ≠ some o := fun o e => by
      have z := nb a o e nSt
      rw [nB] at z; cases z
    have n0 : X.s_0.heap.get? a = none := by
      cases e : X.s_0.heap.get? a with
      | none => rfl
      | some o =>
        obtain ⟨o', z⟩ := J.base.there a o e (by rw [hex]; exact fun z => nomatch z)
        exact absurd z (nI o')
    have np : ∀ p ∈ X.pn ++ pins, p.1 ≠ a := fun p hp z => nI p.2 (by rw [← z]; exact (J.pin p hp).1)
    have S3 := J3.suite he3 hd3 na nL nF
    have go : ∀ {hds' : List ExceptHandler} {l' : List (Value × Option Nat × TS)}, HdsT X hds' l' → wAll X.K Wout D l' cls d σ' H' →
        wpAny (model X.prog X.w) X.A (handleBy (.ref a) X.env hds') (SP X pins D) X.xe { s' with heap := h3 } := by
      intro hds' l' hk
      induction hk with
      | nil =>
        intro w
        refine wpAny_handleBy_nil ?_
        obtain ⟨k1, k2, k3, oe, vs, T, oT, ts', he, hz, hd, h1, hr⟩ := id fl3
        unfold PySem.passOn
        refine wpAny_bind (wpAny_field he hd h1 ?_)
        rw [if_neg (show ¬ ((Value.ref T == Value.none) = true) from by simp)]
        have fin : wpAny (model X.prog X.w) X.A (setFlight (.ref a) X.env.frame) (fun _ s4 => wpAny (model X.prog X.w) X.A (throw (.ref a) : Sem Flow) (SP X pins D) X.xe s4) X.xe { s' with heap := h3 } := by
          rw [hf]
          refine HandSPX.setFlight_upZ fl3 fun h4 hh4 up4 => wpAny_throw (tk _ _ ?_)
          exact ⟨a, B, sI, pins, σ', H', cls, d, rfl, J, nb, (up.trans up3).trans up4, .inr (.inr (by rw [hs]; exact hh4)), na, os, ag, w⟩
        first
          | exact wpAny_bind (wpAny_pure (wpAny_bind fin))
          | exact wpAny_bind fin
      | @plain x c ts b₀ suite np' pos' hds2 l2 hc hsu r ih =>
        intro w
        obtain ⟨b, hb1, hyes, hno⟩ := w
        refine wpAny_handleBy_cons (codeAny_handlers_test ?_) (by intro q; cases q)
        have LT : PySem.W.Looks (model X.prog X.w) h3 (typeOf (.ref a)) cls := fun A Q E s k q => wpAny_typeOf_ref (k _ _ he3) (by rw [hz3.1]; exact q)
        have LM := PySem.W.exm_one (M := model X.prog X.w) (J3.kIn) LT hb1
        have test : ∀ {Q : Value → Shared → Prop} {E : Value → Shared → Prop}, Q c { s' with heap := h3 } → wpAny (model X.prog X.w) (X.A.mark (some (.ref a))) (eval (.Name x np') X.env) Q E { s' with heap := h3 } := fun {Q E} q => by
          obtain ⟨hg, hdbg, hm | ⟨hm, hv, hnn⟩⟩ := hc
          · exact ld_glob (X := X.suite a ((a, oe3) :: (X.pn ++ pins))) S3 hg hm q hdbg
          · exact ld_blt (X := X.suite a ((a, oe3) :: (X.pn ++ pins))) S3 hg hm hv q hnn hdbg
        refine test (LM.here ?_)
        cases b with
        | true =>
          obtain ⟨C, ec, hyes2⟩ := hyes rfl
          subst ec
          refine codeAny_handlers_suite ?_
          refine HandSPX.lands_againZ fl3 fun h4 fl4 up4 => ?_
          have J4 : Inv X pins σ' H' { s' with heap := h4 } := J.landed nb fl4.1 ((up.trans up3).trans up4) os ag
          obtain ⟨oe4, vs4, he4, hz4, hd4⟩ := fl4.there
          have S4 := Inv.toSuite (Inv.track J4 he4 hz4 hd4 na n0 nL np) a
          refine wpAny_mono ((hsu a (X.pn ++ pins)).run [] _ _ _ _ S4 (hyes2 a na)) (fun f s6 hsp => ?_) (fun _ _ z => False.elim z)
          cases f with
          | next =>
            obtain ⟨σ6, H6, S6, q6⟩ := hsp
            exact ⟨_, _, Inv.ofSuite S6 ok, q6⟩
          | brk =>
            obtain ⟨σ6, H6, S6, q6⟩ := hsp
            exact ⟨_, _, Inv.ofSuite S6 ok, q6⟩
          | cont =>
            obtain ⟨σ6, H6, S6, q6⟩ := hsp
            exact ⟨_, _, Inv.ofSuite S6 ok, q6⟩
          | ret u =>
            obtain ⟨v6, σ6, H6, S6, r6, q6⟩ := hsp
            exact ⟨_, _, _, Inv.ofSuite S6 ok, r6, q6⟩
        | false =>
          show wpAny _ X.A (handleBy (.ref a) X.env hds2) _ _ _
          exact ih (hno rfl)
      | @as_ x n c i ts b₀ suite np' pos' hds2 l2 hc hi hln hsu r ih =>
        intro w
        obtain ⟨b, hb1, hyes, hno⟩ := w
        refine wpAny_handleBy_cons (codeAny_handlers_test ?_) (by intro q; cases q)
        have LT : PySem.W.Looks (model X.prog X.w) h3 (typeOf (.ref a)) cls := fun A Q E s k q => wpAny_typeOf_ref (k _ _ he3) (by rw [hz3.1]; exact q)
        have LM := PySem.W.exm_one (M := model X.prog X.w) (J3.kIn) LT hb1
        have test : ∀ {Q : Value → Shared → Prop} {E : Value → Shared → Prop}, Q c { s' with heap := h3 } → wpAny (model X.prog X.w) (X.A.mark (some (.ref a))) (eval (.Name x np') X.env) Q E { s' with heap := h3 } := fun {Q E} q => by
          obtain ⟨hg, hdbg, hm | ⟨hm, hv, hnn⟩⟩ := hc
          · exact ld_glob (X := X.suite a ((a, oe3) :: (X.pn ++ pins))) S3 hg hm q hdbg
          · exact ld_blt (X := X.suite a ((a, oe3) :: (X.pn ++ pins))) S3 hg hm hv q hnn hdbg
        refine test (LM.here ?_)
        cases b with
        | true =>
          obtain ⟨C, ec, hyes2⟩ := hyes rfl
          subst ec
          refine codeAny_handlers_suite_as ?_
          refine HandSPX.lands_againZ fl3 fun h4 fl4 up4 => ?_
          have J4 : Inv X pins σ' H' { s' with heap := h4 } := J.landed nb fl4.1 ((up.trans up3).trans up4) os ag
          obtain ⟨oe4, vs4, he4, hz4, hd4⟩ := fl4.there
          have S4 := Inv.toSuite (Inv.track J4 he4 hz4 hd4 na n0 nL np) a
          have hloc : Loc X.env.scope n := .inl hln
          refine store_ok (X := X.suite a (X.pn ++ pins)) (v := .ref a) S4 hN hi hloc rfl (fun s5 S5 => ?_) (.inr hln)
          refine wpAny_mono ((hsu a (X.pn ++ pins)).run [] s5 _ _ _ S5 (hyes2 a na)) (fun f s6 hsp => ?_) (fun _ _ z => False.elim z)
          have end_ : ∀ {σ6 : L2.St} {H6 : Hp} {Q : Shared → Prop}, Inv (X.suite a (X.pn ++ pins)) [] σ6 H6 s6 → (∀ s7, Inv X pins (σ6.set i none) H6 s7 → Q s7) →
              wpAny (model X.prog X.w) X.A (do bindName X.env n .none; unbindBehindTheSuite X.env n pos') (fun _ s7 => Q s7) X.xe s6 := fun {σ6 H6 Q} S6 hq => gone_ok (Inv.ofSuite S6 ok) hN hi hln hq
          cases f with
          | next =>
            obtain ⟨σ6, H6, S6, q6⟩ := hsp
            exact end_ S6 fun s7 J7 => ⟨_, _, J7, q6⟩
          | brk =>
            obtain ⟨σ6, H6, S6, q6⟩ := hsp
            exact end_ S6 fun s7 J7 => ⟨_, _, J7, q6⟩
          | cont =>
            obtain ⟨σ6, H6, S6, q6⟩ := hsp
            exact end_ S6 fun s7 J7 => ⟨_, _, J7, q6⟩
          | ret u =>
            obtain ⟨v6, σ6, H6, S6, r6, q6⟩ := hsp
            exact end_ S6 fun s7 J7 => ⟨_, _, _, J7, r6, q6⟩
        | false =>
          show wpAny _ X.A (handleBy (.ref a) X.env hds2) _ _ _
          exact ih (hno rfl)
    exact go hh w
  · cases f with
    | next =>
      obtain ⟨σ', H', J', q⟩ := hsp
      exact wpAny_execs_nil ⟨σ', H', J'.ofTry ok, q⟩
    | brk =>
      obtain ⟨σ', H', J', q⟩ := hsp
      exact ⟨σ', H', J'.ofTry ok, q⟩
    | cont =>
      obtain ⟨σ', H', J', q⟩ := hsp
      exact ⟨σ', H', J'.ofTry ok, q⟩
    | ret u =>
      obtain ⟨v, σ', H', J', r, q⟩ := hsp
      exact ⟨v, σ', H', J'.ofTry ok, r, q⟩
end
end Mr
end
section
set_option Elab.async false
set_option linter.all false
set_option maxRecDepth 100000
set_option maxHeartbeats 2000000
/-! Mr, part 12: the mirrors of raise, try; e.f, isinstance(e, B). -/
namespace Mr
open PySem PySem.Spec PyProof.Rows L2
/-! ### an own error's __init__ -/
def spX (C : Addr) (fs : List Str) : Sp := fun vs H Q _ => ∃ (a : Addr) (ys : List V), vs = .ref a :: ys ∧ ys.length = fs.length ∧ H a = some (exo a C none) ∧
  ∀ (H2 : Hp) (dx : Addr), H dx = none → dx ≠ a → H2 a = some (exo a C (some dx)) → H2 dx = some (exd dx (fs.zip ys).reverse) → (∀ b, b ≠ a → b ≠ dx → H2 b = H b) → Q .non H2
structure CanX (P : Program) (w : World) (K : PySem.W.Frag) (mg : Str → Option Value) (base : Heap) (k : Nat) (C : Str) (fs : List Str) : Prop where
  T : OexG K (He.ga K C)
  gC : mg C = some (.ref (He.ga K C))
  small : fs.length ≤ 900
  init : ∃ (fI : Addr) (fd : FuncData) (ps : List Str), PySem.W.findIn K (.ref (He.ga K C)) "__init__" = some (some (.ref fI)) ∧ PySem.W.typeIn K (.ref fI) = some (.type "function") ∧ FnOk P w K mg base (L2.CX P w) k fI fd ps (spX (He.ga K C) fs) ∧ Binds K fd ps []
theorem CanX.mono {P : Program} {w : World} {K : PySem.W.Frag} {mg : Str → Option Value} {base : Heap} {j k : Nat} {C : Str} {fs : List Str} (c : CanX P w K mg base j C fs) (h : j ≤ k) : CanX P w K mg base k C fs := by
  obtain ⟨T, g, s, fI, fd, ps, h1, h2, F, b⟩ := c
  exact ⟨T, g, s, fI, fd, ps, h1, h2, F.mono h, b⟩
section
variable {P : Program} {w : World} {K : PySem.W.Frag} {mg : Str → Option Value} {base : Heap} {x qual : Str} {params : Arguments} {body : List Stmt} {scope : Scope} {kws : List (Str × V)} {f : Addr} {fd : FuncData} {N ps : List Str} {C : Addr} {f1 f2 : Str}
theorem ok_exc1 (F : FunD K x qual params body scope [] kws f fd) (S : FnScope N ps scope) (hN : N.length = 2) (hp : ps.length = 2) (T : OexG K C) (hno : PySem.W.findIn K (.ref C) f1 = some none)
    (hbody : ∀ (cdv : Value) (A : Around) (outer : List PySem.Env) (s : Shared) (H : Hp) (E : XK), PSs (cxOf (L2.CX P w) P w K mg base N qual scope f cdv A outer s H E) body (tOstG K f1 (tVar 0) (tVar 1))) :
    FnOk P w K mg base (L2.CX P w) 1 f fd ps (spX C [f1]) := by
  refine F.ok S (fun vs H Q E ⟨a, ys, e, hl, _⟩ => by rw [e, hp, List.length_cons, hl]; rfl) fun cdv A outer s H vs Q E hr ⟨a, ys, e, hl, ha, q⟩ => ⟨_, hbody cdv A outer s H E, ?_⟩
  subst e
  cases ys with
  | nil => cases hl
  | cons y t => cases t with
    | cons _ _ => cases hl
    | nil =>
      refine ⟨y, rfl, .ref a, rfl, a, C, rfl, T, hno, .inl ⟨ha, fun dx hd hne => ?_⟩⟩
      exact q _ dx hd hne upd_same ((upd_ne hne).trans upd_same) fun b h1 h2 => (upd_ne h1).trans (upd_ne h2)
theorem ok_exc2 (F : FunD K x qual params body scope [] kws f fd) (S : FnScope N ps scope) (hN : N.length = 3) (hp : ps.length = 3) (T : OexG K C) (hno : PySem.W.findIn K (.ref C) f1 = some none) (hno2 : PySem.W.findIn K (.ref C) f2 = some none)
    (hbody : ∀ (cdv : Value) (A : Around) (outer : List PySem.Env) (s : Shared) (H : Hp) (E : XK), PSs (cxOf (L2.CX P w) P w K mg base N qual scope f cdv A outer s H E) body (tSeq (tOstG K f1 (tVar 0) (tVar 1)) (tOstG K f2 (tVar 0) (tVar 2)))) :
    FnOk P w K mg base (L2.CX P w) 1 f fd ps (spX C [f1, f2]) := by
  refine F.ok S (fun vs H Q E ⟨a, ys, e, hl, _⟩ => by rw [e, hp, List.length_cons, hl]; rfl) fun cdv A outer s H vs Q E hr ⟨a, ys, e, hl, ha, q⟩ => ⟨_, hbody cdv A outer s H E, ?_⟩
  subst e
  cases ys with
  | nil => cases hl
  | cons y t => cases t with
    | nil => cases hl
    | cons z t => cases t with
      | cons _ _ => cases hl
      | nil =>
        refine ⟨y, rfl, .ref a, rfl, a, C, rfl, T, hno, .inl ⟨ha, fun dx hd hne => ?_⟩⟩
        refine ⟨z, rfl, .ref a, rfl, a, C, rfl, T, hno2, .inr ⟨dx, [(f1, y)], upd_same, (upd_ne hne).trans upd_same, by show 1 ≤ 900; omega, ?_⟩⟩
        exact q _ dx hd hne ((upd_ne (Ne.symm hne)).trans upd_same) upd_same fun b h1 h2 => (upd_ne h2).trans ((upd_ne h1).trans (upd_ne h2))
end
section
variable {X : Cx} {W : WS} {e : Expr} {es : List Expr} {mas : AM} {pos p pos2 : Pos}
/-! ### raise C(e, ..) -/
def sRaise (C : Str) (fs : List Str) (m : AM) : SM := fun e h => (m e h).into e fun vs h1 => if vs.length = fs.length then .exc C (some h1.n) e (h1.new (.xd (fs.zip vs).reverse)) else .bad
theorem zip_pair {K : PySem.W.Frag} {ρ : Rho} : ∀ {fs : List Str} {vs : List Val} {xs : List V}, RVs K ρ vs xs → RPs K ρ (fs.zip vs) (fs.zip xs)
  | [], _, _, _ => .nil
  | _ :: _, _, _, .nil => .nil
  | f :: fs, _, _, .cons r t => .cons ⟨rfl, r⟩ (zip_pair t)
theorem s_raise {k : Nat} {C : Str} {fs : List Str} (hc : X.calm = true) (tk : Takes X W) (c : CanX X.prog X.w X.K X.mg X.base k C fs) (hr : Room (k + 1) X.A) (ha : PA X (e :: es) (rdA X.K W mas)) (hg : Gl X C := by rfl)
    (hdb : (C == ("__debug__" : Str)) = false := by decide) (he : starEach (e :: es) X.env = (false, eval e X.env) :: starEach es X.env := by rfl) (hpl : (backTo pos (starEach es X.env)).any (·.1) = false := by rfl) :
    PS X (.Raise (some (.Call (.Name C p) (e :: es) [] pos)) none pos2) (rdS X.K W (sRaise C fs mas)) := by
  obtain ⟨T, gC, hs, fI, fd, ps, h1, h2, F, b⟩ := c
  refine (ps_raise hc tk (pmk_oexG T h1 h2 F hr b .nil passL hg gC ha hdb he hpl)).imp fun D σ H ⟨ρ, en, hc, R, rs, q⟩ => ?_
  refine ⟨ρ, en, hc, R, rs, Post.mono (PostS.into (R := RVs X.K) q rs) fun xs H1 ⟨ρ1, vs, h1, l1, R1, r1, p1⟩ => ?_⟩
  by_cases z : vs.length = fs.length
  · simp only [if_pos z] at p1
    have hl : xs.length = fs.length := by rw [← Paired.length r1, z]
    refine ⟨by rw [hl]; omega, fun a hn => ⟨a, xs, by simp, hl, upd_same, fun H2 dx hd hne e1 e2 hk => ⟨rfl, dx, _, e1, e2, ?_, ?_⟩⟩⟩
    · rw [upd_ne hne] at hd; exact hd
    · have hd1 : H1 dx = none := by rw [upd_ne hne] at hd; exact hd
      have eq : upd (del H2 a) dx (.xd (fs.zip xs).reverse) = upd H1 dx (.xd (fs.zip xs).reverse) := by
        funext b
        by_cases hb : b = dx
        · rw [hb, upd_same, upd_same]
        · rw [upd_ne hb, upd_ne hb]
          by_cases hba : b = a
          · rw [hba, del_same, hn]
          · rw [del_ne hba, hk b hba hb, upd_ne hba]
      rw [eq]
      have l2 := R1.le_add dx
      refine p1 (ρ1.add h1.n dx) _ (some dx) σ l2 (R1.new hd1 (fun b o e => ?_) ⟨_, Paired.reverse (zip_pair (RVs.mono l2 r1)), upd_same⟩) (Rho.add_at _ _ _) (RS.mono (l1.trans l2) rs)
      rw [upd_ne (ne_of_none e hd1)]
      exact e
  · simp only [if_neg z] at p1
    exact p1.elim

/-! ### try -/
/-- (the class raised, the class that a clause names) and whether that is it -/
abbrev ExT := List ((Str × Val) × Bool)
structure ExOk (K : PySem.W.Frag) (T : ExT) : Prop where
  ex : ∀ C c b, T.lookup (C, c) = some b → ∃ u, clsV K c = some u ∧ PySem.W.exmOne K (.ref (He.ga K C)) u = some b
abbrev HdM := List (Val × Option Nat × SM)
def offE (i : Option Nat) (e : Env) : Env := match i with
  | some i => e.set i none
  | none => e
def onE (i : Option Nat) (n : Nat) (e : Env) : Env := match i with
  | some i => e.set i (some (.ref n))
  | none => e
/-- behind the suite the name is gone; a suite raises nothing -/
def goneM (i : Option Nat) (r : SR) : SR := match r with
  | .nx e h => .nx (offE i e) h
  | .bk e h => .bk (offE i e) h
  | .ct e h => .ct (offE i e) h
  | .rt v h => .rt v h
  | _ => .bad
def catchM (T : ExT) (C : Str) (d : Option Nat) : HdM → SM
  | [] => fun e h => .exc C d e h
  | (c, i, s) :: r => fun e h => match T.lookup (C, c) with
    | some true => goneM i (s (onE i h.n e) (h.new (.exo C d)))
    | some false => catchM T C d r e h
    | none => .bad
def sTry (T : ExT) (b : SM) (hds : HdM) : SM := fun e h => match b e h with
  | .exc C d e2 h2 => catchM T C d hds e2 h2
  | r => r
/-- the clauses and their mirrors -/
inductive HdsM (X : Cx) : List ExceptHandler → HdM → List (Value × Option Nat × TS) → Prop
  | nil : HdsM X [] [] []
  | plain {x : Str} {c : Val} {u : Value} {m : SM} {b₀ : Stmt} {suite : List Stmt} {np pos' : Pos} {hds : List ExceptHandler} {l : HdM} {l' : List (Value × Option Nat × TS)} (hc : Names X x u) (hu : clsV X.K c = some u)
      (hsu : ∀ (a : Addr) (pn : List (Addr × Obj)), PSs (X.suite a pn) (b₀ :: suite) (rdS X.K W0 m)) (r : HdsM X hds l l') : HdsM X (.ExceptHandler (some (.Name x np)) none (b₀ :: suite) pos' :: hds) ((c, none, m) :: l) ((u, none, rdS X.K W0 m) :: l')
  | as_ {x n : Str} {c : Val} {u : Value} {i : Nat} {m : SM} {b₀ : Stmt} {suite : List Stmt} {np pos' : Pos} {hds : List ExceptHandler} {l : HdM} {l' : List (Value × Option Nat × TS)} (hc : Names X x u) (hu : clsV X.K c = some u) (hi : X.N[i]? = some n) (hln : X.env.kindOf n = some .local)
      (hsu : ∀ (a : Addr) (pn : List (Addr × Obj)), PSs (X.suite a pn) (b₀ :: suite) (rdS X.K W0 m)) (r : HdsM X hds l l') : HdsM X (.ExceptHandler (some (.Name x np)) (some n) (b₀ :: suite) pos' :: hds) ((c, some i, m) :: l) ((u, some i, rdS X.K W0 m) :: l')
theorem HdsM.toT {hds : List ExceptHandler} {l : HdM} {l' : List (Value × Option Nat × TS)} (h : HdsM X hds l l') : HdsT X hds l' := by
  induction h with
  | nil => exact .nil
  | plain hc hu hsu r ih => exact .plain hc hsu ih
  | as_ hc hu hi hln hsu r ih => exact .as_ hc hi hln hsu ih
theorem lookup_ex {K : PySem.W.Frag} {T : ExT} (hT : ExOk K T) {C : Str} {c : Val} {b : Bool} {u : Value} (e : T.lookup (C, c) = some b) (hu : clsV K c = some u) : PySem.W.exmOne K (.ref (He.ga K C)) u = some b := by
  obtain ⟨u', hu', q⟩ := hT.ex C c b e
  rw [hu] at hu'
  cases hu'
  exact q
theorem gone_ok {i : Option Nat} {m : SM} {D : Ends} {ρ ρ' : Rho} {en : Env} {h : Hc} {σ : L2.St} {H : Hp} {K : PySem.W.Frag} (l : Le ρ ρ') (R : Rel K ρ' h H) (rs : RS K ρ' en σ) (p : PostS K ρ (goneM i (m en h)) D W) : rdS K W0 m (goneD i D) σ H := by
  refine ⟨ρ', en, h, R, rs, ?_⟩
  cases q2 : m en h with
  | exc C' d' e' h' => simp only [q2, goneM] at p; exact p.elim
  | bad => simp only [q2, goneM] at p; exact p.elim
  | rt v h' => simp only [q2, goneM] at p; cases i <;> exact PostS.later p l
  | nx e' h' =>
    simp only [q2, goneM] at p
    cases i with
    | none => exact PostS.later p l
    | some i => exact fun ρ'' H' σ' l' R' rs' => p ρ'' H' _ (l.trans l') R' (RS.unset rs' i)
  | bk e' h' =>
    simp only [q2, goneM] at p
    cases i with
    | none => exact PostS.later p l
    | some i => exact fun ρ'' H' σ' l' R' rs' => p ρ'' H' _ (l.trans l') R' (RS.unset rs' i)
  | ct e' h' =>
    simp only [q2, goneM] at p
    cases i with
    | none => exact PostS.later p l
    | some i => exact fun ρ'' H' σ' l' R' rs' => p ρ'' H' _ (l.trans l') R' (RS.unset rs' i)
theorem catch_ok {T : ExT} (hT : ExOk X.K T) {D : Ends} {hds : List ExceptHandler} {l : HdM} {l' : List (Value × Option Nat × TS)} (hh : HdsM X hds l l') {ρ : Rho} {C : Str} {d : Option Nat} {da : Option Addr} {en : Env} {h : Hc} {H : Hp} {σ : L2.St} (R : Rel X.K ρ h H) (rd : RD ρ d da) (rs : RS X.K ρ en σ)
    (p : PostS X.K ρ (catchM T C d l en h) D W) : wAll X.K W D l' (.ref (He.ga X.K C)) da σ H := by
  have lay : ∀ a, H a = none → Rel X.K (ρ.add h.n a) (h.new (.exo C d)) (upd H a (exoT a (He.ga X.K C) da)) := fun a ha => by
    have l2 := R.le_add a
    refine R.new ha (fun b o e => ?_) ⟨da, RD.mono l2 rd, upd_same⟩
    rw [upd_ne (ne_of_none e ha)]
    exact e
  induction hh with
  | nil => exact p ρ H da σ (Le.refl _) R rd rs
  | @plain x c u m b₀ suite np pos' hds l l' hc hu hsu r ih =>
    unfold catchM at p
    cases q : T.lookup (C, c) with
    | none => simp only [q] at p; exact p.elim
    | some b =>
      refine ⟨b, lookup_ex hT q hu, fun hb => ?_, fun hb => ?_⟩
      · subst hb
        simp only [q] at p
        exact ⟨_, rfl, fun a ha => gone_ok (i := none) (R.le_add a) (lay a ha) (RS.mono (R.le_add a) rs) p⟩
      · subst hb
        simp only [q] at p
        exact ih p
  | @as_ x n c u i m b₀ suite np pos' hds l l' hc hu hi hln hsu r ih =>
    unfold catchM at p
    cases q : T.lookup (C, c) with
    | none => simp only [q] at p; exact p.elim
    | some b =>
      refine ⟨b, lookup_ex hT q hu, fun hb => ?_, fun hb => ?_⟩
      · subst hb
        simp only [q] at p
        exact ⟨_, rfl, fun a ha => gone_ok (i := some i) (R.le_add a) (lay a ha) (RS.set (RS.mono (R.le_add a) rs) (show RV X.K (ρ.add h.n a) (.ref h.n) (.ref a) from ⟨a, Rho.add_at _ _ _, rfl⟩) i) p⟩
      · subst hb
        simp only [q] at p
        exact ih p
theorem s_try {T : ExT} {body : List Stmt} {h₀ : ExceptHandler} {hds : List ExceptHandler} {mb : SM} {l : HdM} {l' : List (Value × Option Nat × TS)} (hT : ExOk X.K T) (hs : X.stack = X.env :: X.outer) (hf : X.env.frame = some X.env.locals) (hex : X.ex = []) (hN : X.N.Nodup) (tk : Takes X W)
    (hb : ∀ (W : WX) (pn : List (Addr × Obj)) (xe : Value → Shared → Prop), Takes (X.tr pn xe) W → PassesOwn (model X.prog X.w) X.A X.env xe → PSs (X.tr pn xe) body (rdS X.K W mb))
    (hh : HdsM X (h₀ :: hds) l l') : PS X (.Try body (h₀ :: hds) [] [] pos) (rdS X.K W (sTry T mb l)) := by
  refine (ps_try_all (tb := fun W => rdS X.K W mb) hs hf hex hN tk hb hh.toT).imp fun D σ H ⟨ρ, en, hc, R, rs, p⟩ => ?_
  refine ⟨ρ, en, hc, R, rs, ?_⟩
  unfold sTry at p
  cases q : mb en hc with
  | exc C d e2 h2 =>
    simp only [q] at p
    exact fun ρ' H' da σ' l1 R' rd rs' => catch_ok hT hh R' rd rs' (PostS.later p l1)
  | nx _ _ => simp only [q] at p; exact p
  | rt _ _ => simp only [q] at p; exact p
  | bk _ _ => simp only [q] at p; exact p
  | ct _ _ => simp only [q] at p; exact p
  | bad => simp only [q] at p; exact p

/-! ### the error in its suite: fields, isinstance -/
/-- own error classes and their fields -/
abbrev XfT := List (Str × List Str)
def XfOk (K : PySem.W.Frag) (T : XfT) : Prop := ∀ C fs, T.lookup C = some fs → XfC K (He.ga K C) ∧ ∀ f ∈ fs, PySem.W.findIn K (.ref (He.ga K C)) f = some none
def eXf (T : XfT) (m : EM) (f : Str) : EM := fun e h => (m e h).bind fun v h1 => match v with
  | .ref n => (match h1.get n with
    | some (.exo C (some d)) => (match T.lookup C, h1.get d with
      | some fs, some (.xd gs) => if fs.contains f then (match gs.lookup f with
        | some w => .ok w h1
        | none => .bad) else .bad
      | _, _ => .bad)
    | _ => .bad)
  | _ => .bad
def tXft (K : PySem.W.Frag) (f : Str) (te : TE) : TE := fun σ H Q => te σ H fun x H1 => ∃ (a C dd : Addr) (fs : List (Str × V)) (v : V), x = .ref a ∧ XfC K C ∧ PySem.W.findIn K (.ref C) f = some none ∧ H1 a = some (exoT a C (some dd)) ∧ H1 dd = some (.xd fs) ∧ fs.lookup f = some v ∧ Q v H1
theorem pe_xft {e : Expr} {te : TE} {n : Str} (he : PE X e te) (hb : attributeBase e n X.env (eval e X.env) = eval e X.env := by rfl) : PE X (.Attribute e n pos) (tXft X.K n te) := by
  refine ⟨fun pins s σ H Q I h => ?_⟩
  refine attr_of hb (thn (he.run pins s σ H _ I h) fun u s1 hh => ?_)
  obtain ⟨x, H1, I1, rx, a, C, dd, fs, v, ex, T, hno, ea, ed, l, q⟩ := hh
  subst ex
  obtain rfl : u = Value.ref a := rx
  obtain ⟨oe, vs, ha, hc, hd, hdt⟩ := exoT_at I1.hok ea
  have hx : ObjOk X.prog X.w H1 s1.heap dd (.xd fs) := I1.hok dd _ ed
  obtain ⟨mA, hns, hr⟩ := hx
  obtain ⟨od, ho, hl⟩ := lookIn_ns hns
  obtain ⟨u, hu, ru⟩ := RelO.some_of (v := v) (o := mA n) (by rw [← l]; exact hr n)
  have J : PySem.W.InstAt s1.heap a oe C (some od) := ⟨ha, hc, by unfold PySem.W.notCls; rw [hdt] <;> rfl, by rw [hd]; exact ho⟩
  exact HandSPX.exc_get I1.kIn J T.ga T.gg T.exC (PySem.W.findObj_own T.hdC hno rfl (by rw [hl, hu])) (handed_of ru) ⟨v, H1, I1.tok _, ru, q⟩
theorem se_xf {T : XfT} (hT : XfOk X.K T) {m : EM} {f : Str} (he : PE X e (rdE X.K W m)) (hb : attributeBase e f X.env (eval e X.env) = eval e X.env := by rfl) : PE X (.Attribute e f pos) (rdE X.K W (eXf T m f)) := by
  refine (pe_xft he hb).imp fun σ H Q ⟨ρ, en, hc, R, rs, p⟩ => ?_
  refine ⟨ρ, en, hc, R, rs, Post.mono (Post.bind (R := RV X.K) p) fun x H1 ⟨ρ1, v, h1, l1, R1, r1, p1⟩ => ?_⟩
  cases v with
  | ref n =>
    cases q : h1.get n with
    | none => simp only [q] at p1; exact p1.elim
    | some c =>
      cases c with
      | exo C d => cases d with
        | none => simp only [q] at p1; exact p1.elim
        | some d =>
          simp only [q] at p1
          cases q1 : T.lookup C with
          | none => simp only [q1] at p1; exact p1.elim
          | some fs => cases q2 : h1.get d with
            | none => simp only [q1, q2] at p1; exact p1.elim
            | some c2 => cases c2 with
              | xd gs =>
                simp only [q1, q2] at p1
                by_cases z : fs.contains f = true
                · rw [if_pos z] at p1
                  cases q3 : gs.lookup f with
                  | none => simp only [q3] at p1; exact p1.elim
                  | some w =>
                    simp only [q3] at p1
                    obtain ⟨ad, ea, rfl⟩ := r1
                    obtain ⟨da, rd, hx⟩ := R1.at ea q
                    cases da with
                    | none => exact rd.elim
                    | some dd =>
                      obtain ⟨ls, rl, hd⟩ := R1.at rd q2
                      obtain ⟨y, ly, ry, _⟩ := lookup_pair rl q3
                      obtain ⟨t1, t2⟩ := hT C fs q1
                      exact ⟨ad, _, dd, ls, y, rfl, t1, t2 f (List.contains_iff_mem.mp z), hx, hd, ly, p1 ρ1 H1 y (Le.refl _) R1 ry⟩
                · rw [if_neg z] at p1; exact p1.elim
              | _ => simp only [q1, q2] at p1; exact p1.elim
      | _ => simp only [q] at p1; exact p1.elim
  | _ => exact p1.elim
theorem kitX_exc {K : PySem.W.Frag} {x C : Addr} {oe : Obj} (T : ExcC K C) : PySem.W.KitX K (.ref x) (.ref C) (fun h => ∃ od, PySem.W.InstAt h x oe C od) where
  ty := fun _ _ _ ⟨_, I⟩ => I.type
  it := fun _ _ X _ => by
    obtain ⟨cdD, hcD, _⟩ := PySem.W.any_some T.hd
    unfold PySem.W.clsIn at hcD
    split at hcD
    · rename_i c' d' cd' sl' ho
      intro A' Q' E' s' k q
      unfold isType loadHead
      exact wpAny_bind (wpAny_loadPart (k _ _ (X _ _ ho)) (wpAny_pure q))
    · cases hcD
  ne := fun h tp dd its n sl X htp => by
    obtain ⟨cdD, hcD, _⟩ := PySem.W.any_some T.hd
    refine Bool.eq_false_iff.mpr fun q => ?_
    have e : C = tp := Value.ref.inj (beq_iff_eq.mp q)
    subst e
    unfold PySem.W.clsIn at hcD
    split at hcD
    · rename_i c' d' cd' sl' ho
      have z := (X _ _ ho).symm.trans htp
      cases z
    · cases hcD
  ca := fun X ⟨od, I⟩ k => PySem.W.kx_classE X I T.hg T.hk T.hs (PySem.W.findObj_dataE (by obtain ⟨cd, hc, _⟩ := PySem.W.any_some T.hd; rw [hc]; rfl) T.ha T.hn T.ht) T.hm k
/-- isinstance(e, c): (the error's class, what is asked) and the answer -/
structure IeOk (K : PySem.W.Frag) (T : ExT) : Prop where
  ex : ∀ C c b, T.lookup (C, c) = some b → ExcC K (He.ga K C) ∧ ∃ u, clsV K c = some u ∧ PySem.W.kitOne K (.ref (He.ga K C)) u = some b
def rIsX (K : PySem.W.Frag) : List V → Hp → VK → Prop := fun xs H Q => ∃ (a C : Addr) (d : Option Addr) (c : V) (u : Value) (b : Bool), xs = [.ref a, c] ∧ ClsV c u ∧ ExcC K C ∧ H a = some (exoT a C d) ∧ (∀ dd, d = some dd → ∃ fs, H dd = some (.xd fs)) ∧ PySem.W.kitOne K (.ref C) u = some b ∧ Q (.bl b) H
theorem call_isX : CallR X (.builtin "isinstance") (rIsX X.K) := by
  intro pins s σ H xs us Q I r h
  obtain ⟨a, C, d, c, u, b, rfl, k, T, ea, hdd, e, q⟩ := h
  obtain ⟨u1, u2, rfl, r1, r2⟩ := vals2 r
  have e2 := k.eq r2
  subst e2
  obtain rfl : u1 = Value.ref a := r1
  obtain ⟨oe, vs, ha, hc, hd, hdt⟩ := exoT_at I.hok ea
  have J : ∃ od, PySem.W.InstAt s.heap a oe C od := by
    cases d with
    | none => exact ⟨none, ha, hc, by unfold PySem.W.notCls; rw [hdt] <;> rfl, by rw [hd]; trivial⟩
    | some dd =>
      obtain ⟨fs, hfs⟩ := hdd dd rfl
      have hx : ObjOk X.prog X.w H s.heap dd (.xd fs) := I.hok dd _ hfs
      obtain ⟨mA, hns, hr⟩ := hx
      obtain ⟨od, ho, hl⟩ := lookIn_ns hns
      exact ⟨some od, ha, hc, by unfold PySem.W.notCls; rw [hdt] <;> rfl, by rw [hd]; exact ho⟩
  exact PySem.W.kia_one (kitX_exc T) I.kIn J e (fun z => nomatch z) fun tk => ⟨.bl b, H, I.tok tk, rfl, q⟩
def fIsX (T : ExT) (as : List Val) : M Val := fun h => match as with
  | [.ref n, c] => (match h.get n with
    | some (.exo C none) => (match T.lookup (C, c) with
      | some b => .ok (.bl b) h
      | none => .bad)
    | some (.exo C (some d)) => (match T.lookup (C, c), h.get d with
      | some b, some (.xd _) => .ok (.bl b) h
      | _, _ => .bad)
    | _ => .bad)
  | _ => .bad
theorem cls_rel {K : PySem.W.Frag} {ρ : Rho} {c : Val} {y : V} {u : Value} (r : RV K ρ c y) (h : clsV K c = some u) : ClsV y u := by
  cases c with
  | ty n => cases r; cases h; exact .ty n
  | glo z => cases r; cases h; exact .own _
  | _ => cases h
theorem fIsX_ok {T : ExT} (hT : IeOk X.K T) : CallM X (.builtin "isinstance") (fIsX T) := by
  refine ⟨_, call_isX, ?_⟩
  intro W ρ h H as xs Q R ra p
  cases as with
  | nil => exact p.elim
  | cons v t => cases t with
    | nil => cases v <;> exact p.elim
    | cons c t2 => cases t2 with
      | cons _ _ => cases v <;> exact p.elim
      | nil =>
        obtain ⟨x, y, rfl, r1, r2⟩ := two_arg_m ra
        cases v with
        | ref n =>
          unfold fIsX at p
          cases q1 : h.get n with
          | none => simp only [q1] at p; exact p.elim
          | some cl => cases cl with
            | exo C d => cases d with
              | none =>
                simp only [q1] at p
                cases q2 : T.lookup (C, c) with
                | none => simp only [q2] at p; exact p.elim
                | some b =>
                  simp only [q2] at p
                  obtain ⟨ic, u, hu, hk⟩ := hT.ex C c b q2
                  obtain ⟨a, ea, rfl⟩ := r1
                  obtain ⟨da, rd, hx⟩ := R.at ea q1
                  cases da with
                  | some _ => exact rd.elim
                  | none => exact ⟨a, _, none, y, u, b, rfl, cls_rel r2 hu, ic, hx, (fun _ z => nomatch z), hk, p ρ H _ (Le.refl _) R rfl⟩
              | some d =>
                simp only [q1] at p
                cases q2 : T.lookup (C, c) with
                | none => simp only [q2] at p; exact p.elim
                | some b => cases q3 : h.get d with
                  | none => simp only [q2, q3] at p; exact p.elim
                  | some c3 => cases c3 with
                    | xd gs =>
                      simp only [q2, q3] at p
                      obtain ⟨ic, u, hu, hk⟩ := hT.ex C c b q2
                      obtain ⟨a, ea, rfl⟩ := r1
                      obtain ⟨da, rd, hx⟩ := R.at ea q1
                      cases da with
                      | none => exact rd.elim
                      | some dd =>
                        obtain ⟨ls, rl, hd⟩ := R.at rd q3
                        exact ⟨a, _, some dd, y, u, b, rfl, cls_rel r2 hu, ic, hx, (fun dd' z => by cases z; exact ⟨ls, hd⟩), hk, p ρ H _ (Le.refl _) R rfl⟩
                    | _ => simp only [q2, q3] at p; exact p.elim
            | _ => simp only [q1] at p; exact p.elim
        | _ => exact p.elim
end
end Mr
end
section
set_option Elab.async false
set_option linter.all false
set_option maxRecDepth 100000
set_option maxHeartbeats 2000000
/-! Mr, part 13: a dict whose keys are nested tuples of whole numbers and None, all of its values True; comprehensions with two fors. -/
namespace Mr
open PySem PySem.Spec PyProof.Rows L2
/-- the value y is the key k -/
def NkV (X : Cx) (H : Hp) (y : V) (k : NestedKey) : Prop := ∀ h, HOk X.prog X.w H h → ∀ u, RelV y u → NestedIs h k u
def mapK (f : Val → Option NestedKey) : List Val → Option (List NestedKey)
  | [] => some []
  | v :: vs => match f v, mapK f vs with
    | some k, some ks => some (k :: ks)
    | _, _ => none
def toK (h : Hc) : Nat → Val → Option NestedKey
  | _, .non => some .none
  | _, .int i => some (.num i)
  | f + 1, .ref n => (match h.get n with
    | some (.tup xs) => (mapK (toK h f) xs).map .tup
    | _ => none)
  | _, _ => none
section
variable {X : Cx}
theorem mapK_ok {ρ : Rho} {H : Hp} {f : Val → Option NestedKey} (hf : ∀ v x k, RV X.K ρ v x → f v = some k → NkV X H x k) : ∀ {vs : List Val} {xs : List V} {ks : List NestedKey}, RVs X.K ρ vs xs → mapK f vs = some ks → ∀ h, HOk X.prog X.w H h → ∀ us, Vals xs us → NestedAll h ks us
  | _, _, ks, .nil, e, h, _, us, r => by cases e; cases r; exact .nil
  | _, _, ks, .cons (a := v) (l₁ := vs) q t, e, h, hok, us, r => by
    unfold mapK at e
    cases q1 : f v with
    | none => simp [q1] at e
    | some d => cases q2 : mapK f vs with
      | none => simp [q1, q2] at e
      | some ds =>
        simp only [q1, q2] at e
        cases e
        cases r with
        | cons r1 r2 => exact .cons (hf v _ d q q1 h hok _ r1) (mapK_ok hf t q2 h hok _ r2)
theorem toK_ok {ρ : Rho} {h : Hc} {H : Hp} (R : Rel X.K ρ h H) : ∀ (f : Nat) (v : Val) (x : V) (k : NestedKey), RV X.K ρ v x → toK h f v = some k → NkV X H x k := by
  intro f
  induction f with
  | zero =>
    intro v x k r e hp hok u ru
    cases v with
    | non => cases r; cases e; cases (show u = Value.none from ru); exact .none
    | int b => cases r; cases e; obtain ⟨t, rfl⟩ := (show ∃ t, u = Value.int b t from ru); exact .int b t
    | _ => cases e
  | succ f ih =>
    intro v x k r e hp hok u ru
    cases v with
    | non => cases r; cases e; cases (show u = Value.none from ru); exact .none
    | int b => cases r; cases e; obtain ⟨t, rfl⟩ := (show ∃ t, u = Value.int b t from ru); exact .int b t
    | ref n =>
      obtain ⟨a, ea, rfl⟩ := r
      unfold toK at e
      cases q : h.get n with
      | none => simp [q] at e
      | some c => cases c with
        | tup xs =>
          simp only [q] at e
          cases q2 : mapK (toK h f) xs with
          | none => simp [q2] at e
          | some ks =>
            simp only [q2, Option.map] at e
            cases e
            obtain ⟨ys, ry, hy⟩ := R.at ea q
            cases (show u = Value.ref a from ru)
            obtain ⟨_, its, rv, o, h1, h2, n, h3⟩ := (show ObjOk X.prog X.w H hp a (.tup ys) from hok a _ hy)
            exact .tup h1 h2 h3 (mapK_ok ih ry q2 hp hok its rv)
        | _ => simp [q] at e
    | _ => cases e
/-- the dict's entries are keys -/
def NqOk (X : Cx) (H : Hp) (xs : List Nq) : Prop := ∀ x ∈ xs, NkV X H (.ref x.2) x.1
theorem nk_dict {H : Hp} {s : Shared} {a : Addr} {xs : List Nq} (hok : HOk X.prog X.w H s.heap) (e : H a = some (nkO a xs)) (hx : NqOk X H xs) : (a == sysModules) = false ∧ s.heap.DictOfH (nestedKind X.prog X.w) a (xs.map nqX) := by
  obtain ⟨hs, o, es, ep, h1, h2, h3, h4, h5, h6⟩ := (hok a _ e).1
  refine ⟨hs, o, es, ep, h1, h2, h3, ?_, fun x hxm => ?_, ?_⟩
  · rw [h4, List.map_map]
    refine List.map_congr_left fun x hm => ?_
    show (⟨hash0 x.1, .ref x.2, .bool true⟩ : DictEntry) = ⟨NestedKey.hash X.w x.1, .ref x.2, .bool true⟩
    rw [hash0_ok X.w x.1 (h6 x hm).1]
  · obtain ⟨y, hy, rfl⟩ := List.mem_map.mp hxm
    exact ⟨hx y hy s.heap hok _ rfl, (h6 y hy).2⟩
  · rw [List.map_map]
    exact h5
theorem nk_at (k : NestedKey) : ∀ xs : List Nq, (atKey (xs.map nqX) k).isSome = xs.any fun x => decide (x.1 = k) := by
  intro xs
  induction xs with
  | nil => rfl
  | cons x r ih =>
    unfold atKey at ih ⊢
    rw [List.map_cons, List.find?_cons, List.any_cons]
    by_cases h : x.1 = k
    · have h' : decide ((nqX x).1 = k) = true := decide_eq_true h
      rw [h']
      simp [h]
    · have h' : decide ((nqX x).1 = k) = false := decide_eq_false h
      rw [h']
      simp only [h, decide_false, Bool.false_or]
      exact ih
/-- k in d, k not in d -/
def rNin (X : Cx) (neg : Bool) : R2 := fun x y H Q => ∃ (q d : Addr) (xs : List Nq) (k : NestedKey), x = .ref q ∧ y = .ref d ∧ H d = some (nkO d xs) ∧ NqOk X H xs ∧ NkV X H x k ∧ k.depth ≤ 8 ∧ Q (.bl (xor neg (xs.any fun x => decide (x.1 = k)))) H
theorem op_nin (hu : X.A.units + 9 < cLine) : OpR X (compareOp .In) (rNin X false) := by
  intro pins s σ H x y v u Q I rx ry h
  obtain ⟨q, d, xs, k, rfl, rfl, hd, hx, hk, h8, h⟩ := h
  cases rx
  cases ry
  obtain ⟨hs, hm⟩ := nk_dict I.hok hd hx
  refine wpAny_in_heap (knd := nestedKind X.prog X.w) (k := k) (by show X.A.in1.units + 8 < cLine; rw [Around.in1_units]; omega) ⟨hk _ I.hok _ rfl, h8⟩ hs hm ?_
  rw [nk_at]
  exact ⟨.bl _, H, I.tok _, rfl, by simpa using h⟩
theorem op_nnotin (hu : X.A.units + 9 < cLine) : OpR X (compareOp .NotIn) (rNin X true) := by
  intro pins s σ H x y v u Q I rx ry h
  obtain ⟨q, d, xs, k, rfl, rfl, hd, hx, hk, h8, h⟩ := h
  cases rx
  cases ry
  obtain ⟨hs, hm⟩ := nk_dict I.hok hd hx
  refine wpAny_notIn_heap (knd := nestedKind X.prog X.w) (k := k) (by show X.A.in1.units + 8 < cLine; rw [Around.in1_units]; omega) ⟨hk _ I.hok _ rfl, h8⟩ hs hm ?_
  rw [nk_at]
  exact ⟨.bl _, H, I.tok _, rfl, by simpa using h⟩
/-- d[k] = True -/
def putN (xs : List Nq) (k : NestedKey) (q : Addr) : List Nq := if (xs.any fun x => decide (x.1 = k)) = true then xs else xs ++ [(k, q)]
theorem put_stored (xs : List Nq) (k : NestedKey) (q : Addr) : storedH (xs.map nqX) k q (.bool true) = (putN xs k q).map nqX := by
  unfold storedH putN
  rw [nk_at]
  by_cases h : (xs.any fun x => decide (x.1 = k)) = true
  · rw [if_pos h, if_pos h, List.map_map]
    refine List.map_congr_left fun x _ => ?_
    unfold putAt nqX
    by_cases z : x.1 = k <;> simp [z]
  · rw [if_neg h, if_neg h, List.map_append]
    rfl
def sNPutT (X : Cx) (td ty tv : TE) : TS := fun D σ H => tv σ H fun v H1 => td σ H1 fun x H2 => ty σ H2 fun y H3 => ∃ (q d : Addr) (xs : List Nq) (k : NestedKey), v = .bl true ∧ x = .ref d ∧ y = .ref q ∧ H3 d = some (nkO d xs) ∧ NqOk X H3 xs ∧ NkV X H3 y k ∧ k.depth ≤ 8 ∧ noTx k = true ∧ xs.length ≤ sizeLine ∧
  D.nx σ (upd H3 d (nkO d (putN xs k q)))
variable {o i value : Expr} {pos pos' : Pos} {td ty tv : TE}
theorem ps_nput (hu : X.A.units + 9 < cLine) (ho : PE X o td) (hi : PE X i ty) (hv : PE X value tv) (hs : swapsWith value (some (.Subscript o i pos')) pos.line X.env = pure false := by rfl) : PS X (.Assign [.Subscript o i pos'] value pos) (sNPutT X td ty tv) := by
  refine ⟨fun pins s σ H D I h => ?_⟩
  refine wpAny_Assign_Subscript (thn (hv.run pins s σ H _ I h) fun r s1 ⟨v, H1, I1, rv, q1⟩ => thn (ho.run pins s1 σ H1 _ I1 q1) fun u s2 ⟨x, H2, I2, rx, q2⟩ => thn (hi.run pins s2 σ H2 _ I2 q2) fun iv s3 ⟨y, H3, I3, ry, q, d, xs, k, ev, ex, ey, hd, hx, hk, h8, ht, hz, q3⟩ => ?_) hs
  subst ev ex ey
  obtain rfl : u = Value.ref d := rx
  obtain rfl : iv = Value.ref q := ry
  obtain rfl : r = Value.bool true := rv
  obtain ⟨hsy, hm⟩ := nk_dict I3.hok hd hx
  have old := I3.hok d _ hd
  obtain ⟨_, o0, es0, ep0, _, _, _, h4, h5, h6⟩ := old.1
  refine wpAny_setItem_heap (knd := nestedKind X.prog X.w) (k := k) (by show X.A.in1.units + 8 < cLine; rw [Around.in1_units]; omega) ⟨hk _ I3.hok _ rfl, h8⟩ hm (fun h' hm' hsb => ?_) (by rw [List.length_map]; exact hz)
  have hm' := hm'
  rw [put_stored] at hm'
  obtain ⟨o', es', ep', e1, e2, e3, e4, e5, e6⟩ := hm'
  have tx : ∀ x ∈ putN xs k q, noTx x.1 = true ∧ x.1.depth ≤ 8 := by
    intro x hxm
    unfold putN at hxm
    by_cases z : (xs.any fun x => decide (x.1 = k)) = true
    · rw [if_pos z] at hxm; exact h6 x hxm
    · rw [if_neg z] at hxm
      rcases List.mem_append.mp hxm with w | w
      · exact h6 x w
      · have : x = (k, q) := by simpa using w
        rw [this]; exact ⟨ht, h8⟩
  refine ⟨σ, _, I3.write (x := d) (e := d) (o := nkO d (putN xs k q)) (by rw [hd]; exact True.intro) (.inl rfl) (fun b u hb e => (hsb.2 b hb).trans e) ⟨o', e1⟩ ?_, q3⟩
  refine ⟨⟨hsy, o', es', ep', e1, e2, e3, ?_, ?_, tx⟩, ⟨o', e1⟩, fun h1 h2 ⟨a0, o1, es1, ep1, b1, r⟩ k => ⟨a0, o1, es1, ep1, k _ b1, r⟩⟩
  · rw [e4, List.map_map]
    refine List.map_congr_left fun x hmm => ?_
    show (⟨NestedKey.hash X.w x.1, .ref x.2, .bool true⟩ : DictEntry) = ⟨hash0 x.1, .ref x.2, .bool true⟩
    rw [hash0_ok X.w x.1 (tx x hmm).1]
  · rw [List.map_map] at e6
    exact e6
/-- {} to be such a dict -/
theorem pe_dnewN : PE X (.Dict [] [] pos) (fun _ H Q => ∀ p, H p = none → Q (.ref p) (upd H p (nkO p []))) := ⟨fun pins s σ H Q I h =>
  wpAny_Dict_empty ⟨.ref s.heap.objs.size, _, I.laid (a := s.heap.objs.size) (o := nkO s.heap.objs.size []) (t' := s.toks) (fun _ _ q => Heap.get?_push_of_some _ q) (Nat.le_refl _)
    ⟨⟨beq_eq_false_iff_ne.mpr (Ne.symm (Nat.ne_of_lt I.big)), _, #[], 0, Heap.get?_push_size _ rfl, ⟨rfl, rfl, rfl⟩, rfl, rfl, List.nodup_nil, fun _ z => by cases z⟩, ⟨_, Heap.get?_push_size _ rfl⟩, fun h1 h2 ⟨a0, o1, es1, ep1, b1, r⟩ k => ⟨a0, o1, es1, ep1, k _ b1, r⟩⟩, rfl, h _ (I.hok.fresh (Nat.le_refl _))⟩⟩

/-! ### the mirrors -/
variable {W : WS} {mo mi mv : EM}
def eNnew : EM := fun _ h => .ok (.ref h.n) (h.new (.nd []))
theorem se_nnew : PE X (.Dict [] [] pos) (rdE X.K W eNnew) := pe_dnewN.imp fun σ H Q ⟨ρ, en, hc, R, rs, p⟩ => fun a ha => laid R p ha fun ρ' l => ⟨[], .nil, upd_same⟩
def ksOk (h : Hc) (ks : List (NestedKey × Val)) : Bool := ks.all fun p => decide (toK h 8 p.2 = some p.1)
def cNin (neg : Bool) (a b : Val) : M Val := fun h => match a, b with
  | .ref m, .ref n => (match h.get n, toK h 8 (.ref m) with
    | some (.nd ks), some k => if decide (k.depth ≤ 8) && ksOk h ks then .ok (.bl (xor neg (ks.any fun p => decide (p.1 = k)))) h else .bad
    | _, _ => .bad)
  | _, _ => .bad
theorem nq_any {ρ : Rho} {k : NestedKey} : ∀ {ks : List (NestedKey × Val)} {qs : List Nq}, Paired (fun p q => p.1 = q.1 ∧ RV X.K ρ p.2 (.ref q.2)) ks qs → (qs.any fun x => decide (x.1 = k)) = ks.any fun p => decide (p.1 = k)
  | _, _, .nil => rfl
  | _, _, .cons r t => by rw [List.any_cons, List.any_cons, r.1, nq_any t]
theorem nq_ok {ρ : Rho} {h : Hc} {H : Hp} (R : Rel X.K ρ h H) : ∀ {ks : List (NestedKey × Val)} {qs : List Nq}, Paired (fun p q => p.1 = q.1 ∧ RV X.K ρ p.2 (.ref q.2)) ks qs → ksOk h ks = true → NqOk X H qs
  | _, _, .nil, _ => fun _ z => by cases z
  | _, _, .cons (a := p) (b := q) r t, e => by
    unfold ksOk at e
    rw [List.all_cons] at e
    obtain ⟨e1, e2⟩ := Bool.and_eq_true_iff.mp e
    intro x hx
    rcases List.mem_cons.mp hx with z | z
    · rw [z, ← r.1]
      exact toK_ok R 8 _ _ _ r.2 (of_decide_eq_true e1)
    · exact nq_ok R t e2 x z
theorem nin_ok {neg : Bool} : OpS X (rNin X neg) (cNin neg) := by
  intro W ρ h H a b x y Q R ra rb p
  cases a with
  | ref m => cases b with
    | ref n =>
      obtain ⟨pa, ea, rfl⟩ := ra
      obtain ⟨pb, eb, rfl⟩ := rb
      unfold cNin at p
      cases q1 : h.get n with
      | none => simp only [q1] at p; exact p.elim
      | some c => cases c with
        | nd ks => cases q2 : toK h 8 (.ref m) with
          | none => simp only [q1, q2] at p; exact p.elim
          | some k =>
            simp only [q1, q2] at p
            cases z : (decide (k.depth ≤ 8) && ksOk h ks) with
            | false => simp only [z, Bool.false_eq_true, if_false] at p; exact p.elim
            | true =>
              simp only [z, if_true] at p
              obtain ⟨z1, z2⟩ := Bool.and_eq_true_iff.mp z
              obtain ⟨qs, rq, hq⟩ := R.at eb q1
              refine ⟨pa, pb, qs, k, rfl, rfl, hq, nq_ok R rq z2, toK_ok R 8 _ _ _ (show RV X.K ρ (.ref m) (.ref pa) from ⟨pa, ea, rfl⟩) q2, of_decide_eq_true z1, ?_⟩
              rw [nq_any rq]
              exact p ρ H _ (Le.refl _) R rfl
        | _ => cases q2 : toK h 8 (.ref m) <;> simp only [q1, q2] at p <;> exact p.elim
    | _ => exact p.elim
  | _ => cases b <;> exact p.elim
theorem op_nin_m (hu : X.A.units + 9 < cLine) : OpM X (compareOp .In) (cNin false) := ⟨_, op_nin hu, nin_ok⟩
theorem op_nnotin_m (hu : X.A.units + 9 < cLine) : OpM X (compareOp .NotIn) (cNin true) := ⟨_, op_nnotin hu, nin_ok⟩
def sNput (md mk mv : EM) : SM := fun e h => (mv e h).into e fun v h1 => (md e h1).into e fun d h2 => (mk e h2).into e fun k h3 => match v, d, k with
  | .bl true, .ref n, .ref m => (match h3.get n, toK h3 8 (.ref m) with
    | some (.nd ks), some k => if decide (k.depth ≤ 8) && noTx k && decide (ks.length ≤ big) && ksOk h3 ks then .nx e (h3.put n (.nd (if (ks.any fun p => decide (p.1 = k)) = true then ks else ks ++ [(k, .ref m)]))) else .bad
    | _, _ => .bad)
  | _, _, _ => .bad
theorem s_nput (hu : X.A.units + 9 < cLine) (ho : PE X o (rdE X.K W mo)) (hi : PE X i (rdE X.K W mi)) (hv : PE X value (rdE X.K W mv)) (hs : swapsWith value (some (.Subscript o i pos')) pos.line X.env = pure false := by rfl) :
    PS X (.Assign [.Subscript o i pos'] value pos) (rdS X.K W (sNput mo mi mv)) := (ps_nput hu ho hi hv hs).imp fun D σ H ⟨ρ, en, hc, R, rs, p⟩ => by
  refine ⟨ρ, en, hc, R, rs, Post.mono (PostS.into (R := RV X.K) p rs) fun x H1 ⟨ρ1, v, h1, l1, R1, r1, p1⟩ => ?_⟩
  refine ⟨ρ1, en, h1, R1, RS.mono l1 rs, Post.mono (PostS.into (R := RV X.K) p1 (RS.mono l1 rs)) fun y H2 ⟨ρ2, u, h2, l2, R2, r2, p2⟩ => ?_⟩
  refine ⟨ρ2, en, h2, R2, RS.mono (l1.trans l2) rs, Post.mono (PostS.into (R := RV X.K) p2 (RS.mono (l1.trans l2) rs)) fun z H3 ⟨ρ3, t, h3, l3, R3, r3, p3⟩ => ?_⟩
  cases v with
  | bl bb => cases bb with
    | false => cases u <;> cases t <;> exact p3.elim
    | true => cases u with
      | ref n => cases t with
        | ref m =>
          obtain ⟨pb, eb, rfl⟩ := r2
          obtain ⟨pa, ea, rfl⟩ := r3
          have eb3 := l3.f _ _ eb
          cases q1 : h3.get n with
          | none => simp only [q1] at p3; exact p3.elim
          | some c => cases c with
            | nd ks => cases q2 : toK h3 8 (.ref m) with
              | none => simp only [q1, q2] at p3; exact p3.elim
              | some k =>
                simp only [q1, q2] at p3
                cases zz : (decide (k.depth ≤ 8) && noTx k && decide (ks.length ≤ big) && ksOk h3 ks) with
                | false => simp only [zz, Bool.false_eq_true, if_false] at p3; exact p3.elim
                | true =>
                  simp only [zz, if_true] at p3
                  obtain ⟨zz, z4⟩ := Bool.and_eq_true_iff.mp zz
                  obtain ⟨zz, z3⟩ := Bool.and_eq_true_iff.mp zz
                  obtain ⟨z1, z2⟩ := Bool.and_eq_true_iff.mp zz
                  obtain ⟨qs, rq, hq⟩ := R3.at eb3 q1
                  refine ⟨pa, pb, qs, k, r1, rfl, rfl, hq, nq_ok R3 rq z4, toK_ok R3 8 _ _ _ (show RV X.K ρ3 (.ref m) (.ref pa) from ⟨pa, ea, rfl⟩) q2, of_decide_eq_true z1, z2, by rw [← big_eq, ← Paired.length rq]; exact of_decide_eq_true z3, ?_⟩
                  refine p3 ρ3 _ σ (Le.refl _) (R3.put eb3 ⟨putN qs k pa, ?_, upd_same⟩) (RS.mono (l1.trans (l2.trans l3)) rs)
                  unfold putN
                  rw [nq_any rq]
                  by_cases w : (ks.any fun p => decide (p.1 = k)) = true
                  · rw [if_pos w, if_pos w]; exact rq
                  · rw [if_neg w, if_neg w]; exact Paired.append rq (.cons ⟨rfl, pa, ea, rfl⟩ .nil)
            | _ => cases q2 : toK h3 8 (.ref m) <;> simp only [q1, q2] at p3 <;> exact p3.elim
        | _ => exact p3.elim
      | _ => cases t <;> exact p3.elim
  | _ => cases u <;> cases t <;> exact p3.elim
end
end Mr
end
section
set_option Elab.async false
set_option linter.all false
set_option maxRecDepth 100000
set_option maxHeartbeats 2000000
/-! Mr, part 14: comprehensions with two fors; names of the module that hold values. -/
namespace Mr
open PySem PySem.Spec PyProof.Rows L2
theorem wipe_unset {u : Nat} {σ : L2.St} : ∀ (ws : List Nat), u ∈ ws → (wipe σ ws).set u none = wipe σ ws := by
  intro ws
  induction ws with
  | nil => intro h; cases h
  | cons w ws ih2 =>
    intro hw
    show ((wipe σ ws).set w none).set u none = (wipe σ ws).set w none
    by_cases e : w = u
    · subst e; rw [List.set_set]
    · rw [List.set_comm _ _ e, ih2 (by rcases List.mem_cons.mp hw with z | z; exact absurd z.symm e; exact z)]
theorem wipe_wipe (σ : L2.St) (vs : List Nat) : wipe (wipe σ vs) vs = wipe σ vs := by
  have gen : ∀ (us : List Nat), (∀ v ∈ us, v ∈ vs) → wipe (wipe σ vs) us = wipe σ vs := by
    intro us
    induction us with
    | nil => intro _; rfl
    | cons u us ih =>
      intro hu
      show (wipe (wipe σ vs) us).set u none = wipe σ vs
      rw [ih fun v hv => hu v (List.mem_cons_of_mem _ hv)]
      exact wipe_unset vs (hu u List.mem_cons_self)
  exact gen vs fun v hv => hv
/-- the inner loop: appends to the list at d -/
def lcIn (it : ItM) (g : GM) (tt : TM) (te : EM) (e0 : Env) (d : Nat) : Nat → Nat → M Unit
  | 0, _ => fun _ => .bad
  | f + 1, i => fun h => match it i h with
    | .ok none h1 => .ok () h1
    | .ok (some v) h1 => (match g v e0 h1 with
      | .ok e2 h2 => (match tt e2 h2 with
        | .ok true h3 => (match te e2 h3 with
          | .ok y h4 => (match h4.get d with
            | some (.lst acc) => if acc.length < big then lcIn it g tt te e0 d f (i + 1) (h4.put d (.lst (acc ++ [y]))) else .bad
            | _ => .bad)
          | _ => .bad)
        | .ok false h3 => lcIn it g tt te e0 d f (i + 1) h3
        | _ => .bad)
      | _ => .bad)
    | _ => .bad
def lc2Go (it : ItM) (g : GM) (tt : TM) (mi1 : Env → M ItM) (g1 : GM) (tt1 : TM) (te : EM) (e0 : Env) (vs1 : List Nat) (d : Nat) : Nat → Nat → M Val
  | 0, _ => fun _ => .bad
  | f + 1, i => fun h => match it i h with
    | .ok none h1 => .ok (.ref d) h1
    | .ok (some v) h1 => (match g v e0 h1 with
      | .ok e2 h2 => (match tt e2 h2 with
        | .ok true h3 => (match mi1 e2 h3 with
          | .ok it1 h4 => (match lcIn it1 g1 tt1 te (wipeM e2 vs1) d lid 0 h4 with
            | .ok _ h5 => lc2Go it g tt mi1 g1 tt1 te e0 vs1 d f (i + 1) h5
            | _ => .bad)
          | _ => .bad)
        | .ok false h3 => lc2Go it g tt mi1 g1 tt1 te e0 vs1 d f (i + 1) h3
        | _ => .bad)
      | _ => .bad)
    | _ => .bad
def eLc2 (mi : Env → M ItM) (g : GM) (tt : TM) (mi1 : Env → M ItM) (g1 : GM) (tt1 : TM) (te : EM) (vs vs1 : List Nat) : EM := fun e h => (mi e h).bind fun it h1 => lc2Go it g tt mi1 g1 tt1 te (wipeM e vs) vs1 h1.n lid 0 (h1.new (.lst []))
section
variable {X : Cx} {W : WS}
theorem lc2_rd {mi mi1 : Env → M ItM} {tg tg1 : TG} {g g1 : GM} {tt tt1 : TM} {te : EM} {vs vs1 : List Nat} (hg : GOk X.K vs tg g) (hk : GKeep g) (hg1 : GOk X.K vs1 tg1 g1) (hk1 : GKeep g1) {σ : L2.St} {H : Hp} {Q : VK} (h : rdE X.K W (eLc2 mi g tt mi1 g1 tt1 te vs vs1) σ H Q) :
    tLc2 (rdI X.K W mi) tg (rdT X.K W0 tt) (rdI X.K W0 mi1) tg1 (rdT X.K W0 tt1) (rdE X.K W0 te) vs vs1 σ H Q := by
  obtain ⟨ρ, en, hc, R, rs, p⟩ := h
  refine ⟨ρ, en, hc, R, rs, Post.mono (Post.bind (R := ItS X.K) p) fun J H1 ⟨ρ1, it, h1, l1, R1, r1, p1⟩ => ?_⟩
  intro D hD
  have RD : Rel X.K (ρ1.add h1.n D) (h1.new (.lst [])) (upd H1 D (.lst [])) := R1.new hD (fun b o e => by rw [upd_ne (ne_of_none e hD)]; exact e) ⟨[], .nil, upd_same⟩
  have lD := R1.le_add D
  have eD : (ρ1.add h1.n D).f h1.n = some D := Rho.add_at _ _ _
  refine ⟨fun i m H' => ∃ ρ h, Le (ρ1.add h1.n D) ρ ∧ Rel X.K ρ h H' ∧ Post X.K (RV X.K) ρ (lc2Go it g tt mi1 g1 tt1 te (wipeM en vs) vs1 h1.n m i h) Q (fun c d H => W c d σ H), ⟨lid, _, _, Le.refl _, RD, Post.later p1 lD⟩, ?_⟩
  rintro i m H' ⟨ρ2, h2, l2, R2, p2⟩
  cases m with
  | zero => exact p2.elim
  | succ m =>
    have js := r1 i ρ2 h2 H' (lD.trans l2) R2
    unfold lc2Go at p2
    cases q : it i h2 with
    | exc c d h' => simp only [q] at p2; exact p2.elim
    | bad => simp only [q] at p2; exact p2.elim
    | ok o h' =>
      cases o with
      | none =>
        simp only [q] at p2 js
        exact .inl ⟨js.2, p2 ρ2 H' _ (Le.refl _) (js.1 ▸ R2) ⟨D, l2.f _ _ eD, rfl⟩⟩
      | some v =>
        simp only [q] at p2 js
        refine .inr ⟨js.1, fun H'' => ∃ ρ h, Le (ρ1.add h1.n D) ρ ∧ Rel X.K ρ h H'' ∧ Post X.K (RV X.K) ρ (lc2Go it g tt mi1 g1 tt1 te (wipeM en vs) vs1 h1.n m (i + 1) h) Q (fun c d H => W c d σ H), fun H'' n => ⟨m, Nat.lt_succ_self m, n⟩, fun x H3 y => ?_⟩
        obtain ⟨ρ3, l3, R3, r3⟩ := js.2 x H3 y
        have rsw : RS X.K ρ3 (wipeM en vs) (wipe σ vs) := rs_wipe (RS.mono (l1.trans (lD.trans (l2.trans l3))) rs) vs
        cases q2 : g v (wipeM en vs) h' with
        | exc _ _ _ => simp only [q2] at p2; exact p2.elim
        | bad => simp only [q2] at p2; exact p2.elim
        | ok e2 h'' =>
          have hh := hk _ _ _ _ _ q2
          subst hh
          simp only [q2] at p2
          refine hg ρ3 v x (wipeM en vs) (wipe σ vs) h'' H3 _ R3 r3 rsw ⟨e2, q2, fun σ' rs' hw => ⟨hw.trans (wipe_wipe σ vs), ?_⟩⟩
          refine ⟨ρ3, e2, h'', R3, rs', ?_⟩
          cases q3 : tt e2 h'' with
          | exc _ _ _ => simp only [q3] at p2; exact p2.elim
          | bad => simp only [q3] at p2; exact p2.elim
          | ok b h4 =>
            intro ρ4 H4 b' l4 R4 hb
            have hb : b = b' := hb
            subst hb
            cases b with
            | false =>
              simp only [q3] at p2
              rw [if_neg Bool.false_ne_true]
              exact ⟨ρ4, h4, l2.trans (l3.trans l4), R4, Post.later p2 (l3.trans l4)⟩
            | true =>
              simp only [q3] at p2
              rw [if_pos rfl]
              refine ⟨ρ4, e2, h4, R4, RS.mono l4 rs', ?_⟩
              cases q4 : mi1 e2 h4 with
              | exc _ _ _ => simp only [q4] at p2; exact p2.elim
              | bad => simp only [q4] at p2; exact p2.elim
              | ok it1 h5 =>
                simp only [q4] at p2
                intro ρ5 H5 J1 l5 R5 r5
                have l25 := l2.trans (l3.trans (l4.trans l5))
                -- the inner loop
                have body : ∀ (k j : Nat) (ρ : Rho) (h : Hc) (H : Hp), Le ρ5 ρ → Rel X.K ρ h H → (∀ u h6 ρ' H', lcIn it1 g1 tt1 te (wipeM e2 vs1) h1.n k j h = .ok u h6 → Le ρ ρ' → Rel X.K ρ' h6 H' →
                    ∃ ρ'' h, Le (ρ1.add h1.n D) ρ'' ∧ Rel X.K ρ'' h H' ∧ Post X.K (RV X.K) ρ'' (lc2Go it g tt mi1 g1 tt1 te (wipeM en vs) vs1 h1.n m (i + 1) h) Q (fun c d H => W c d σ H)) → True := fun _ _ _ _ _ _ _ _ => trivial
                have start : Post X.K (fun _ (_ : Unit) (_ : Unit) => True) ρ5 (lcIn it1 g1 tt1 te (wipeM e2 vs1) h1.n lid 0 h5) (fun _ H' => ∃ ρ h, Le (ρ1.add h1.n D) ρ ∧ Rel X.K ρ h H' ∧ Post X.K (RV X.K) ρ (lc2Go it g tt mi1 g1 tt1 te (wipeM en vs) vs1 h1.n m (i + 1) h) Q (fun c d H => W c d σ H)) (fun _ _ _ => False) := by
                  cases q5 : lcIn it1 g1 tt1 te (wipeM e2 vs1) h1.n lid 0 h5 with
                  | exc _ _ _ => simp only [q5] at p2; exact p2.elim
                  | bad => simp only [q5] at p2; exact p2.elim
                  | ok u h6 =>
                    simp only [q5] at p2
                    exact fun ρ6 H6 _ l6 R6 _ => ⟨ρ6, h6, l25.trans l6, R6, Post.later p2 (l3.trans (l4.trans (l5.trans l6)))⟩
                refine ⟨fun j k H' => ∃ ρ h, Le ρ5 ρ ∧ Rel X.K ρ h H' ∧ Post X.K (fun _ (_ : Unit) (_ : Unit) => True) ρ (lcIn it1 g1 tt1 te (wipeM e2 vs1) h1.n k j h) (fun _ H' => ∃ ρ h, Le (ρ1.add h1.n D) ρ ∧ Rel X.K ρ h H' ∧ Post X.K (RV X.K) ρ (lc2Go it g tt mi1 g1 tt1 te (wipeM en vs) vs1 h1.n m (i + 1) h) Q (fun c d H => W c d σ H)) (fun _ _ _ => False), ⟨lid, ρ5, h5, Le.refl _, R5, start⟩, ?_⟩
                rintro j k H6 ⟨ρ6, h6, l6, R6, p6⟩
                cases k with
                | zero => exact p6.elim
                | succ k =>
                  have js1 := r5 j ρ6 h6 H6 l6 R6
                  unfold lcIn at p6
                  cases t1 : it1 j h6 with
                  | exc _ _ _ => simp only [t1] at p6; exact p6.elim
                  | bad => simp only [t1] at p6; exact p6.elim
                  | ok o1 h7 =>
                    cases o1 with
                    | none =>
                      simp only [t1] at p6 js1
                      exact .inl ⟨js1.2, p6 ρ6 H6 () (Le.refl _) (js1.1 ▸ R6) trivial⟩
                    | some v1 =>
                      simp only [t1] at p6 js1
                      refine .inr ⟨js1.1, fun H'' => ∃ ρ h, Le ρ5 ρ ∧ Rel X.K ρ h H'' ∧ Post X.K (fun _ (_ : Unit) (_ : Unit) => True) ρ (lcIn it1 g1 tt1 te (wipeM e2 vs1) h1.n k (j + 1) h) (fun _ H' => ∃ ρ h, Le (ρ1.add h1.n D) ρ ∧ Rel X.K ρ h H' ∧ Post X.K (RV X.K) ρ (lc2Go it g tt mi1 g1 tt1 te (wipeM en vs) vs1 h1.n m (i + 1) h) Q (fun c d H => W c d σ H)) (fun _ _ _ => False), fun H'' n => ⟨k, Nat.lt_succ_self k, n⟩, fun x1 H7 y1 => ?_⟩
                      obtain ⟨ρ7, l7, R7, r7⟩ := js1.2 x1 H7 y1
                      have rsw1 : RS X.K ρ7 (wipeM e2 vs1) (wipe σ' vs1) := rs_wipe (RS.mono (l4.trans (l5.trans (l6.trans l7))) rs') vs1
                      cases t2 : g1 v1 (wipeM e2 vs1) h7 with
                      | exc _ _ _ => simp only [t2] at p6; exact p6.elim
                      | bad => simp only [t2] at p6; exact p6.elim
                      | ok e3 h8 =>
                        have hh := hk1 _ _ _ _ _ t2
                        subst hh
                        simp only [t2] at p6
                        refine hg1 ρ7 v1 x1 (wipeM e2 vs1) (wipe σ' vs1) h8 H7 _ R7 r7 rsw1 ⟨e3, t2, fun σ3 rs3 hw3 => ⟨hw3.trans (wipe_wipe σ' vs1), ?_⟩⟩
                        refine ⟨ρ7, e3, h8, R7, rs3, ?_⟩
                        cases t3 : tt1 e3 h8 with
                        | exc _ _ _ => simp only [t3] at p6; exact p6.elim
                        | bad => simp only [t3] at p6; exact p6.elim
                        | ok b1 h9 =>
                          intro ρ8 H8 b1' l8 R8 hb1
                          have hb1 : b1 = b1' := hb1
                          subst hb1
                          cases b1 with
                          | false =>
                            simp only [t3] at p6
                            rw [if_neg Bool.false_ne_true]
                            exact ⟨ρ8, h9, l6.trans (l7.trans l8), R8, Post.later p6 (l7.trans l8)⟩
                          | true =>
                            simp only [t3] at p6
                            rw [if_pos rfl]
                            refine ⟨ρ8, e3, h9, R8, RS.mono l8 rs3, ?_⟩
                            cases t4 : te e3 h9 with
                            | exc _ _ _ => simp only [t4] at p6; exact p6.elim
                            | bad => simp only [t4] at p6; exact p6.elim
                            | ok z h10 =>
                              simp only [t4] at p6
                              intro ρ9 H9 zv l9 R9 rz
                              cases t5 : h10.get h1.n with
                              | none => simp only [t5] at p6; exact p6.elim
                              | some c =>
                                cases c with
                                | lst acc =>
                                  simp only [t5] at p6
                                  have l69 := l6.trans (l7.trans (l8.trans l9))
                                  have eD9 := l69.f _ _ (l25.f _ _ eD)
                                  obtain ⟨ys, ry, hy⟩ := R9.at eD9 t5
                                  by_cases zz : acc.length < big
                                  · rw [if_pos zz] at p6
                                    exact ⟨ys, hy, by rw [← big_eq, ← Paired.length ry]; exact zz, ρ9, _, l69, R9.put eD9 (img_lst (xs := acc ++ [z]) (Paired.append ry (.cons rz .nil))), Post.later p6 (l7.trans (l8.trans l9))⟩
                                  · rw [if_neg zz] at p6; exact p6.elim
                                | _ => simp only [t5] at p6; exact p6.elim
variable {elt tg iter tg1 iter1 : Expr} {ifs ifs1 : List Expr} {scope : Scope} {own : List (Str × Nat)} {pos : Pos} {mi mi1 : Env → M ItM} {t t1 : TG} {g g1 : GM} {tt tt1 : TM} {te : EM} {vs1 : List Nat}
theorem se_lc2 (hc : X.calm = true) (hN : X.N.Nodup) (hi : PI X tg iter (rdI X.K W mi)) (ok : BlkOk X.N X.env.scope scope own) (hv : ∀ i ∈ vs1, i ∈ own.map (·.2)) (hgo : GOk X.K (own.map (·.2)) t g) (hgk : GKeep g) (hgo1 : GOk X.K vs1 t1 g1) (hgk1 : GKeep g1)
    (hg : ∀ (s : Shared) (H : Hp) (C : Addr) (cl : List (Str × Addr)) (fp : List Addr), PG (X.blk s H scope (compEnvC scope cl C X.env) fp) tg t)
    (ht : ∀ (s : Shared) (H : Hp) (C : Addr) (cl : List (Str × Addr)) (fp : List Addr), PTs (X.blk s H scope (compEnvC scope cl C X.env) fp) ifs (rdT X.K W0 tt))
    (hi1 : ∀ (s : Shared) (H : Hp) (C : Addr) (cl : List (Str × Addr)) (fp : List Addr), PI (X.blk s H scope (compEnvC scope cl C X.env) fp) tg1 iter1 (rdI X.K W0 mi1))
    (hg1 : ∀ (s : Shared) (H : Hp) (C : Addr) (cl : List (Str × Addr)) (fp : List Addr), PG (X.blk s H scope (compEnvC scope cl C X.env) fp) tg1 t1)
    (ht1 : ∀ (s : Shared) (H : Hp) (C : Addr) (cl : List (Str × Addr)) (fp : List Addr), PTs (X.blk s H scope (compEnvC scope cl C X.env) fp) ifs1 (rdT X.K W0 tt1))
    (he : ∀ (s : Shared) (H : Hp) (C : Addr) (cl : List (Str × Addr)) (fp : List Addr), PE (X.blk s H scope (compEnvC scope cl C X.env) fp) elt (rdE X.K W0 te)) (hs : ∀ x, foldedSetIterable iter X.env x = pure x := by intro _; rfl) (hs1 : ∀ env x, foldedSetIterable iter1 env x = pure x := by intro _ _; rfl) :
    PE X (.ListComp elt [⟨tg, iter, ifs, 0⟩, ⟨tg1, iter1, ifs1, 0⟩] scope pos) (rdE X.K W (eLc2 mi g tt mi1 g1 tt1 te (own.map (·.2)) vs1)) :=
  (pe_lc2 hc hN hi ok hv hg ht hi1 hg1 ht1 he hs hs1).imp fun σ H Q q => lc2_rd hgo hgk hgo1 hgk1 q
/-- [..] is swapped into y -/
theorem s_setLc2 {i : Nat} {y : Str} {py spos : Pos} (hc : X.calm = true) (hN : X.N.Nodup) (hy : X.N[i]? = some y) (hyl : X.env.scope.names.lookup y = some .local) (hsw : swapsWith (.ListComp elt [⟨tg, iter, ifs, 0⟩, ⟨tg1, iter1, ifs1, 0⟩] scope pos) (some (.Name y py)) spos.line X.env = pure true)
    (hi : PI X tg iter (rdI X.K W mi)) (ok : BlkOk X.N X.env.scope scope own) (hv : ∀ i ∈ vs1, i ∈ own.map (·.2)) (hgo : GOk X.K (own.map (·.2)) t g) (hgk : GKeep g) (hgo1 : GOk X.K vs1 t1 g1) (hgk1 : GKeep g1)
    (hg : ∀ (s : Shared) (H : Hp) (C : Addr) (cl : List (Str × Addr)) (fp : List Addr), PG (X.blk s H scope (compEnvC scope cl C X.env) fp) tg t)
    (ht : ∀ (s : Shared) (H : Hp) (C : Addr) (cl : List (Str × Addr)) (fp : List Addr), PTs (X.blk s H scope (compEnvC scope cl C X.env) fp) ifs (rdT X.K W0 tt))
    (hi1 : ∀ (s : Shared) (H : Hp) (C : Addr) (cl : List (Str × Addr)) (fp : List Addr), PI (X.blk s H scope (compEnvC scope cl C X.env) fp) tg1 iter1 (rdI X.K W0 mi1))
    (hg1 : ∀ (s : Shared) (H : Hp) (C : Addr) (cl : List (Str × Addr)) (fp : List Addr), PG (X.blk s H scope (compEnvC scope cl C X.env) fp) tg1 t1)
    (ht1 : ∀ (s : Shared) (H : Hp) (C : Addr) (cl : List (Str × Addr)) (fp : List Addr), PTs (X.blk s H scope (compEnvC scope cl C X.env) fp) ifs1 (rdT X.K W0 tt1))
    (he : ∀ (s : Shared) (H : Hp) (C : Addr) (cl : List (Str × Addr)) (fp : List Addr), PE (X.blk s H scope (compEnvC scope cl C X.env) fp) elt (rdE X.K W0 te)) (hs : ∀ x, foldedSetIterable iter X.env x = pure x := by intro _; rfl) (hs1 : ∀ env x, foldedSetIterable iter1 env x = pure x := by intro _ _; rfl) :
    PS X (.Assign [.Name y py] (.ListComp elt [⟨tg, iter, ifs, 0⟩, ⟨tg1, iter1, ifs1, 0⟩] scope pos) spos) (rdS X.K W (sAsg (eLc2 mi g tt mi1 g1 tt1 te (own.map (·.2)) vs1) (gNm i))) := by
  refine (ps_setLc2 hc hN hy hyl hsw hi ok hv hg ht hi1 hg1 ht1 he hs hs1).imp fun D σ H q => ?_
  obtain ⟨ρ, en, h, R, rs, p⟩ := q
  refine lc2_rd hgo hgk hgo1 hgk1 ⟨ρ, en, h, R, rs, Post.mono (PostS.into (R := RV X.K) p rs) fun x H1 ⟨ρ1, v, h1, l1, R1, r1, p1⟩ => ?_⟩
  exact p1 ρ1 H1 _ (Le.refl _) R1 (RS.set (RS.mono l1 rs) r1 i)

/-! ### names of the module -/
/-- the module's name x holds the value v -/
def GloV (X : Cx) (x : Str) (v : Val) : Prop := ∃ (y : V) (u : Value), X.mg x = some u ∧ RelV y u ∧ ∀ ρ, RV X.K ρ v y
theorem se_glob {x : Str} {v : Val} {p : Pos} (h : GloV X x v) (hg : Gl X x := by rfl) (hd : (x == ("__debug__" : Str)) = false := by decide) : PE X (.Name x p) (rdE X.K W (eC v)) := by
  obtain ⟨y, u, hm, r, rv⟩ := h
  exact se_c (pe_glob hg hm r hd) rv
/-- a built-in type as a value -/
theorem se_type {x : Str} {T : String} {p : Pos} (hm : X.mg x = none) (hv : bootBuiltins x = some (.type T)) (hg : Gl X x := by rfl) (hn : x ≠ "__name__" := by decide) (hd : (x == ("__debug__" : Str)) = false := by decide) : PE X (.Name x p) (rdE X.K W (eC (.ty T))) := by
  refine ⟨fun pins s σ H Q I ⟨ρ, en, hc, R, rs, q⟩ => ?_⟩
  exact ld_blt I hg hm hv ⟨.ty T, H, I, rfl, q ρ H _ (Le.refl _) R rfl⟩ hn hd
end
end Mr
end
section
set_option Elab.async false
set_option linter.all false
set_option maxRecDepth 100000
set_option maxHeartbeats 2000000
/-! Mr, part 15: small words for the printed walks. -/
namespace Mr
open PySem PySem.Spec PyProof.Rows L2
theorem bt_len : bootBuiltins "len" = some (.builtin "len") := by kernel_rfl
theorem bt_min : bootBuiltins "min" = some (.builtin "min") := by kernel_rfl
theorem bt_max : bootBuiltins "max" = some (.builtin "max") := by kernel_rfl
theorem bt_any : bootBuiltins "any" = some (.builtin "any") := by kernel_rfl
theorem bt_all : bootBuiltins "all" = some (.builtin "all") := by kernel_rfl
theorem bt_sorted : bootBuiltins "sorted" = some (.builtin "sorted") := by kernel_rfl
theorem bt_repr : bootBuiltins "repr" = some (.builtin "repr") := by kernel_rfl
theorem bt_isinstance : bootBuiltins "isinstance" = some (.builtin "isinstance") := by kernel_rfl
theorem bt_int : bootBuiltins "int" = some (.type "int") := by kernel_rfl
theorem bt_str : bootBuiltins "str" = some (.type "str") := by kernel_rfl
theorem bt_bool : bootBuiltins "bool" = some (.type "bool") := by kernel_rfl
theorem bt_list : bootBuiltins "list" = some (.type "list") := by kernel_rfl
theorem bt_tuple : bootBuiltins "tuple" = some (.type "tuple") := by kernel_rfl
theorem bt_dict : bootBuiltins "dict" = some (.type "dict") := by kernel_rfl
theorem bt_ValueError : bootBuiltins "ValueError" = some (.type "ValueError") := by kernel_rfl
theorem bt_OverflowError : bootBuiltins "OverflowError" = some (.type "OverflowError") := by kernel_rfl
theorem bt_RuntimeError : bootBuiltins "RuntimeError" = some (.type "RuntimeError") := by kernel_rfl
theorem bt_LookupError : bootBuiltins "LookupError" = some (.type "LookupError") := by kernel_rfl
section
variable {X : Cx} {W : WS} {e a b o i : Expr} {es : List Expr} {ma mb mo mi : EM} {mas : AM} {pos p apos cpos : Pos} {sts : List Stmt} {st : Stmt}
theorem hu1 {k : Nat} {A : Around} (hr : Room k A) : A.units + 1 < cLine := by have := hr.un; omega
theorem hu9 {k : Nat} {A : Around} (hr : Room k A) : A.units + 9 < cLine := by have := hr.un; omega
theorem hu64 {k : Nat} {A : Around} (hr : Room k A) : A.units + 64 < cLine := by have := hr.un; omega
theorem hu65 {k : Nat} {A : Around} (hr : Room k A) : A.units + 65 < cLine := by have := hr.un; omega
/-- nothing is promised -/
def sBad : SM := fun _ _ => .bad
theorem ss_bad : PSs X sts (rdS X.K W sBad) := ⟨fun _ _ _ _ _ _ ⟨_, _, _, _, _, p⟩ => p.elim⟩
def uNeg (v : Val) : M Val := fun h => match v with
  | .int i => .ok (.int (-i)) h
  | _ => .bad
theorem un_neg_m : UnM X (unaryOp .USub) uNeg := by
  refine ⟨_, un_neg, ?_⟩
  intro W ρ h H a x Q R ra p
  cases a with
  | int i => cases ra; exact ⟨i, rfl, p ρ H _ (Le.refl _) R rfl⟩
  | _ => exact p.elim
/-- a, b, c = x, y, z -/
def sPar3 (i j l : Nat) (m : AM) : SM := fun e h => (m e h).into e fun vs h1 => match vs with
  | [u, v, w] => .nx (((e.set i (some u)).set j (some v)).set l (some w)) h1
  | _ => .bad
theorem s_par3 {i j l : Nat} {m : AM} (h : PS X st (tPar3 i j l (rdA X.K W m))) : PS X st (rdS X.K W (sPar3 i j l m)) := h.imp fun D σ H q => by
  obtain ⟨ρ, en, hc, R, rs, p⟩ := q
  refine ⟨ρ, en, hc, R, rs, Post.mono (PostS.into (R := RVs X.K) p rs) fun x H1 ⟨ρ1, v, h1, l1, R1, r1, p1⟩ => ?_⟩
  cases r1 with
  | nil => exact p1.elim
  | cons a1 t1 => cases t1 with
    | nil => exact p1.elim
    | cons a2 t2 => cases t2 with
      | nil => exact p1.elim
      | cons a3 t3 => cases t3 with
        | nil => exact ⟨_, _, _, rfl, p1 ρ1 H1 _ (Le.refl _) R1 (RS.set (RS.set (RS.set (RS.mono l1 rs) a1 i) a2 j) a3 l)⟩
        | cons _ _ => exact p1.elim
/-- list methods -/
theorem se_append (ho : PE X o (rdE X.K W mo)) (ha : PA X (e :: es) (rdA X.K W mas))
    (hbase : attributeBase o "append" X.env (eval o X.env) = eval o X.env := by rfl)
    (hfew : ((backTo cpos (starEach (e :: es) X.env)).all (fun x => !x.1) && (backToKw cpos (keywordEach [] X.env)).all (fun x => x.1.isSome)
      && decide ((e :: es).length + ([] : List Keyword).length + (if ([] : List Keyword).isEmpty then 0 else 1) < 30)) = true := by rfl)
    (hline : (apos.endLine == cpos.line) = true := by rfl) (hs : starEach (e :: es) X.env = (false, eval e X.env) :: starEach es X.env := by rfl) (hplain : (backTo cpos (starEach es X.env)).any (·.1) = false := by rfl) :
    PE X (.Call (.Attribute o "append" apos) (e :: es) [] cpos) (rdE X.K W (eLm lmAppend mo mas)) :=
  se_lm lmAppend_ok (pe_bm F.plainAttrs_list F.slot_list_append F.type_list_append mt_append ho ha hbase hfew hline hs hplain)
theorem se_pop (ho : PE X o (rdE X.K W mo)) (hbase : attributeBase o "pop" X.env (eval o X.env) = eval o X.env := by rfl) (hline : (apos.endLine == cpos.line) = true := by rfl) : PE X (.Call (.Attribute o "pop" apos) [] [] cpos) (rdE X.K W (eLm lmPop mo aNil)) :=
  se_lm0 lmPop_ok (pe_bm0 F.plainAttrs_list F.slot_list_pop F.type_list_pop mt_pop ho hbase hline)
theorem se_popAt (ho : PE X o (rdE X.K W mo)) (ha : PA X (e :: es) (rdA X.K W mas))
    (hbase : attributeBase o "pop" X.env (eval o X.env) = eval o X.env := by rfl)
    (hfew : ((backTo cpos (starEach (e :: es) X.env)).all (fun x => !x.1) && (backToKw cpos (keywordEach [] X.env)).all (fun x => x.1.isSome)
      && decide ((e :: es).length + ([] : List Keyword).length + (if ([] : List Keyword).isEmpty then 0 else 1) < 30)) = true := by rfl)
    (hline : (apos.endLine == cpos.line) = true := by rfl) (hs : starEach (e :: es) X.env = (false, eval e X.env) :: starEach es X.env := by rfl) (hplain : (backTo cpos (starEach es X.env)).any (·.1) = false := by rfl) :
    PE X (.Call (.Attribute o "pop" apos) (e :: es) [] cpos) (rdE X.K W (eLm lmPopAt mo mas)) :=
  se_lm lmPopAt_ok (pe_bm F.plainAttrs_list F.slot_list_pop F.type_list_pop mt_popAt ho ha hbase hfew hline hs hplain)
/-- what a def of the text is, and how it is called by its name -/
theorem can_of {P : Program} {w : World} {K : PySem.W.Frag} {mg : Str → Option Value} {base : Heap} {x qual : Str} {params : Arguments} {body : List Stmt} {scope : Scope} {kws : List (Str × V)} {f : Addr} {fd : FuncData} {N ps : List Str} {k : Nat} {m : SM}
    (F : FunD K x qual params body scope [] kws f fd) (b : Binds K fd ps []) (S : FnScope N ps scope)
    (hbody : ∀ (cdv : Value) (A : Around) (outer : List PySem.Env) (s : Shared) (H : Hp) (E : XK), Room k (A.deeper (envOfC qual scope s.heap.objs.size f cdv)) →
      PSs (cxOf (L2.CX P w) P w K mg base N qual scope f cdv A outer s H E) body (rdS K (fun c d _ H => E c d H) m)) : Can P w K mg base (k + 1) ps.length f [] (fnM N.length m) :=
  ⟨⟨fd, ps, [], [], can_fn F S hbody, b, .nil, fun _ => .nil⟩, F.kp⟩
end
end Mr
end
section
set_option Elab.async false
set_option linter.all false
set_option maxRecDepth 100000
set_option maxHeartbeats 2000000
/-! Mr, part 16: the facts that the head reads; a law's end. -/
namespace Mr
open PySem PySem.Spec PyProof.Rows L2
/-! ### own errors, told by a test -/
def oexB (K : PySem.W.Frag) (C : Addr) (newId : String) (bm : List Value) : Bool := (match K.lookup C with
  | some ⟨.type "type", _, .cls cd, sl⟩ => (match cd.mro, sl.toList with
    | .ref C' :: bm', [_, _, _, _, some (.builtin n), _] => C' == C && (n == newId && (!cd.hasDel && (cd.hasDict && decide (bm' = bm))))
    | _, _ => false)
  | _ => false)
theorem oexB_ok {K : PySem.W.Frag} {C : Addr} {newId : String} {bm : List Value} (q : oexB K C newId bm = true) : ∃ nm q N bs sn sub ab col dd k0 k1 k2 k3 k5, K.lookup C = some (excClassObj nm q C N bs bm true sn sub ab col dd k0 k1 k2 k3 k5 newId) := by
  unfold oexB at q
  split at q
  · rename_i dd cd sl ho
    split at q
    · rename_i C' bm' k0 k1 k2 k3 n k5 hm hs
      simp only [Bool.and_eq_true, beq_iff_eq, Bool.not_eq_true', decide_eq_true_eq] at q
      obtain ⟨q1, q2, hdel, hdct, q5⟩ := q
      subst q1 q2 q5
      obtain ⟨nm, bs, mro, ns, qn, hd, sn, sub, ab, col, del⟩ := cd
      dsimp only at hm hdel hdct
      subst hm hdel hdct
      have hsl : sl = #[k0, k1, k2, k3, some (.builtin n), k5] := by
        obtain ⟨l⟩ := sl
        simp only at hs
        rw [hs]
      subst hsl
      exact ⟨_, _, _, _, _, _, _, _, _, _, _, _, _, _, ho⟩
    · cases q
  · cases q
def baseOf : Nat → String × List Value
  | 0 => ("ValueError.__new__", [.type "ValueError", .type "Exception", .type "BaseException", .type "object"])
  | 1 => ("LookupError.__new__", [.type "LookupError", .type "Exception", .type "BaseException", .type "object"])
  | 2 => ("RuntimeError.__new__", [.type "RuntimeError", .type "Exception", .type "BaseException", .type "object"])
  | _ => ("OverflowError.__new__", [.type "OverflowError", .type "ArithmeticError", .type "Exception", .type "BaseException", .type "object"])
theorem baseOf_ok : ∀ n, BaseX (baseOf n).1 (baseOf n).2
  | 0 => base_VE
  | 1 => base_LE
  | 2 => base_RE
  | _ + 3 => base_OE
/-! ### the facts -/
inductive FaM where
  | he (f : He.Fa)
  | nol
  | tup (x : Str) (vs : List He.Dv)
  | oex (x : Str) (b : Nat)
  | ini (x : Str)
  | xf (x : Str)
  | ie (x : Str)
  | kit (x : Str) (c : Val) (b : Bool)
  | exm (x : Str) (c : Val) (b : Bool)
def FaM.ok (K : PySem.W.Frag) : FaM → Bool
  | .he f => f.ok K
  | .nol => K.all fun p => decide (p.2.cls ≠ .type "list")
  | .tup x vs => He.tupB K x vs
  | .oex x b => oexB K (He.ga K x) (baseOf b).1 (baseOf b).2 && (He.eqO (PySem.W.findIn K (.ref (He.ga K x)) "__setattr__") (some (some (.builtin "object.__setattr__"))) && (decide (PySem.W.subIn K (.ref (He.ga K x)) (.type "BaseException") = some true) &&
      (decide (PySem.W.typeIn K (.ref (He.ga K x)) = some (.type "type")) && PySem.W.keepIn K (.ref (He.ga K x)))))
  | .ini x => He.eqO (PySem.W.findIn K (.ref (He.ga K x)) "__init__") (some (some (.ref (He.fAd K (x, some "__init__"))))) && decide (PySem.W.typeIn K (.ref (He.fAd K (x, some "__init__"))) = some (.type "function"))
  | .xf x => xfB K (He.ga K x)
  | .ie x => xfB K (He.ga K x) && (He.eqO (PySem.W.findIn K (.ref (He.ga K x)) "__class__") (some (some (.builtin "object.__class__"))) && (decide (PySem.W.specialIn K (.builtin "object.__class__") "__get__" = some (some (.builtin "getset_descriptor.__get__"))) &&
      (decide (PySem.W.takesIn K (.builtin "object.__class__") = some true) && decide (PySem.W.mroIn K (He.ga K x) (.type "object") = some true))))
  | .kit x c b => (match clsV K c with
    | some u => decide (PySem.W.kitOne K (.ref (He.ga K x)) u = some b)
    | none => false)
  | .exm x c b => (match clsV K c with
    | some u => decide (PySem.W.exmOne K (.ref (He.ga K x)) u = some b)
    | none => false)
section
variable {K : PySem.W.Frag}
theorem oex_ok {x : Str} {b : Nat} (c : (FaM.oex x b).ok K = true) : OexG K (He.ga K x) := by
  obtain ⟨c1, c⟩ := He.ba c
  obtain ⟨c2, c⟩ := He.ba c
  obtain ⟨c3, c⟩ := He.ba c
  obtain ⟨c4, c5⟩ := He.ba c
  obtain ⟨nm, q, N, bs, sn, sub, ab, col, dd, k0, k1, k2, k3, k5, h⟩ := oexB_ok c1
  exact ⟨⟨nm, q, N, bs, _, sn, sub, ab, col, dd, k0, k1, k2, k3, k5, _, h, baseOf_ok b⟩, He.eqO_ok c2, of_decide_eq_true c3, of_decide_eq_true c4, c5⟩
theorem ini_ok {x : Str} (c : (FaM.ini x).ok K = true) : PySem.W.findIn K (.ref (He.ga K x)) "__init__" = some (some (.ref (He.fAd K (x, some "__init__")))) ∧ PySem.W.typeIn K (.ref (He.fAd K (x, some "__init__"))) = some (.type "function") := by
  obtain ⟨c1, c2⟩ := He.ba c
  exact ⟨He.eqO_ok c1, of_decide_eq_true c2⟩
theorem ie_ok {x : Str} (c : (FaM.ie x).ok K = true) : ExcC K (He.ga K x) := by
  obtain ⟨c1, c⟩ := He.ba c
  obtain ⟨c2, c⟩ := He.ba c
  obtain ⟨c3, c⟩ := He.ba c
  obtain ⟨c4, c5⟩ := He.ba c
  have T := xfB_ok c1
  exact ⟨T.ga, T.gg, T.exC, T.hdC, He.eqO_ok c2, of_decide_eq_true c3, of_decide_eq_true c4, of_decide_eq_true c5⟩
theorem kit_ok {x : Str} {c : Val} {b : Bool} (h : (FaM.kit x c b).ok K = true) : ∃ u, clsV K c = some u ∧ PySem.W.kitOne K (.ref (He.ga K x)) u = some b := by
  unfold FaM.ok at h
  cases q : clsV K c with
  | none => simp [q] at h
  | some u => simp only [q] at h; exact ⟨u, rfl, of_decide_eq_true h⟩
theorem exm_ok {x : Str} {c : Val} {b : Bool} (h : (FaM.exm x c b).ok K = true) : ∃ u, clsV K c = some u ∧ PySem.W.exmOne K (.ref (He.ga K x)) u = some b := by
  unfold FaM.ok at h
  cases q : clsV K c with
  | none => simp [q] at h
  | some u => simp only [q] at h; exact ⟨u, rfl, of_decide_eq_true h⟩
/-- no list of the text's own -/
theorem mem_look {a : Addr} {o : Obj} : ∀ {K : PySem.W.Frag}, K.lookup a = some o → (a, o) ∈ K
  | [], e => nomatch (show (none : Option Obj) = some o from e)
  | (b, u) :: r, e => by
    have e2 : (match a == b with | true => some u | false => r.lookup a) = some o := e
    cases q : (a == b) with
    | true =>
      rw [q] at e2
      cases e2
      rw [beq_iff_eq.mp q]
      exact List.mem_cons_self
    | false =>
      rw [q] at e2
      exact List.mem_cons_of_mem _ (mem_look e2)
theorem nol_ok (c : FaM.nol.ok K = true) {a : Addr} {o : Obj} (e : K.lookup a = some o) : o.cls ≠ .type "list" := by
  have c : (K.all fun p => decide (p.2.cls ≠ .type "list")) = true := c
  exact of_decide_eq_true (List.all_eq_true.mp c _ (mem_look e))
end
section
variable {K : PySem.W.Frag} {h : Heap} {mg : Str → Option Value}
theorem gv_int (X : K.In h) (G : h.Ns mainGlobals mg) {x : Str} {i : Int} (c : (He.Fa.int x i).ok K = true) : ∀ Y : Cx, Y.K = K → Y.mg = mg → GloV Y x (.int i) := fun Y h1 h2 => by
  obtain ⟨t, e⟩ := He.int_ok X G c
  exact ⟨.int i, .int i t, by rw [h2]; exact e, ⟨t, rfl⟩, fun ρ => rfl⟩
theorem gv_str (X : K.In h) (G : h.Ns mainGlobals mg) {x z : Str} (c : (He.Fa.str x z).ok K = true) : ∀ Y : Cx, Y.K = K → Y.mg = mg → GloV Y x (.str z) := fun Y h1 h2 => by
  obtain ⟨t, e⟩ := He.str_ok X G c
  exact ⟨.str z, .str z t, by rw [h2]; exact e, ⟨t, rfl⟩, fun ρ => rfl⟩
theorem gv_glo (X : K.In h) (G : h.Ns mainGlobals mg) {x : Str} (c : (He.Fa.glo x).ok K = true) : ∀ Y : Cx, Y.K = K → Y.mg = mg → GloV Y x (.glo x) := fun Y h1 h2 =>
  ⟨.ref (He.ga K x), .ref (He.ga K x), by rw [h2]; exact He.glo_ok X G c, rfl, fun ρ => by rw [h1]; rfl⟩
end
/-- constants of a tuple -/
def dvOf : Val → He.Dv
  | .bl b => .bl b
  | .int i => .int i
  | .str s => .str s
  | _ => .non
def isDv : Val → Bool
  | .non => true
  | .bl _ => true
  | .int _ => true
  | .str _ => true
  | _ => false
theorem dv_rv {K : PySem.W.Frag} {ρ : Rho} : ∀ {xs : List Val}, xs.all isDv = true → RVs K ρ xs ((xs.map dvOf).map (He.Dv.v K))
  | [], _ => .nil
  | x :: xs, h => by
    rw [List.all_cons] at h
    obtain ⟨h1, h2⟩ := Bool.and_eq_true_iff.mp h
    refine .cons ?_ (dv_rv h2)
    cases x <;> first | (cases h1; done) | rfl
theorem con_nil {K : PySem.W.Frag} : ConOk K [] := fun x xs e => by cases e
theorem con_cons {K : PySem.W.Frag} {T : Con} {x : Str} {xs : List Val} (hx : xs.all isDv = true) (c : (FaM.tup x (xs.map dvOf)).ok K = true) (r : ConOk K T) : ConOk K ((x, xs) :: T) := fun y ys e => by
  rw [List.lookup_cons] at e
  by_cases z : (y == x) = true
  · rw [z] at e
    cases e
    have : y = x := by simpa using z
    subst this
    exact ⟨_, fun ρ => dv_rv hx, fun H => He.tupB_ok c H⟩
  · rw [show (y == x) = false by simpa using z] at e
    exact r y ys e
theorem ex_nil {K : PySem.W.Frag} : ExOk K [] := ⟨fun C c b e => by cases e⟩
theorem ex_cons {K : PySem.W.Frag} {T : ExT} {x : Str} {c : Val} {b : Bool} (h : (FaM.exm x c b).ok K = true) (r : ExOk K T) : ExOk K (((x, c), b) :: T) := ⟨fun C c' b' e => by
  rw [List.lookup_cons] at e
  by_cases z : ((C, c') == (x, c)) = true
  · rw [z] at e
    cases e
    have : (C, c') = (x, c) := by simpa using z
    cases this
    exact exm_ok h
  · rw [show ((C, c') == (x, c)) = false by simpa using z] at e
    exact r.ex C c' b' e⟩
theorem ie_nil {K : PySem.W.Frag} : IeOk K [] := ⟨fun C c b e => by cases e⟩
theorem ie_cons {K : PySem.W.Frag} {T : ExT} {x : Str} {c : Val} {b : Bool} (h1 : (FaM.ie x).ok K = true) (h : (FaM.kit x c b).ok K = true) (r : IeOk K T) : IeOk K (((x, c), b) :: T) := ⟨fun C c' b' e => by
  rw [List.lookup_cons] at e
  by_cases z : ((C, c') == (x, c)) = true
  · rw [z] at e
    cases e
    have : (C, c') = (x, c) := by simpa using z
    cases this
    exact ⟨ie_ok h1, kit_ok h⟩
  · rw [show ((C, c') == (x, c)) = false by simpa using z] at e
    exact r.ex C c' b' e⟩
theorem xf_nil {K : PySem.W.Frag} : XfOk K [] := fun C fs e => by cases e
theorem xf_cons {K : PySem.W.Frag} {T : XfT} {x : Str} {fs : List Str} (h1 : (FaM.xf x).ok K = true) (h : ∀ f ∈ fs, PySem.W.findIn K (.ref (He.ga K x)) f = some none) (r : XfOk K T) : XfOk K ((x, fs) :: T) := fun C gs e => by
  rw [List.lookup_cons] at e
  by_cases z : (C == x) = true
  · rw [z] at e
    cases e
    have : C = x := by simpa using z
    subst this
    exact ⟨xfB_ok h1, h⟩
  · rw [show (C == x) = false by simpa using z] at e
    exact r C gs e
theorem is_nil {K : PySem.W.Frag} : IsOk K [] [] := ⟨fun C c b e => (by cases e), fun t x e => (by cases e)⟩
/-! ### the Hook -/
def obsM (fa : List FaM) (fn : List He.DefD) (K : PySem.W.Frag) : He.AlD := ((fa.all fun f => f.ok K) && fn.all fun d => d.ok K, fn.map fun d => He.fnW K d.at_)
def SaysM (fa : List FaM) (fn : List He.DefD) (K : PySem.W.Frag) : Prop := obsM fa fn K = He.valD fn
def obsMG (n : Nat) (fa : List FaM) (fn : List He.DefD) (g : Addr → Option Obj) : He.AlD := obsM fa fn (He.frG g (He.asD g n))
def hookM (n : Nat) (fa : List FaM) (fn : List He.DefD) : PySem.W.Hook where
  α := He.AlD
  obs := fun s => obsMG n fa fn s.heap.get?
  val := fun _ => He.valD fn
  says := fun _ h => ∃ K : PySem.W.Frag, K.In h ∧ SaysM fa fn K
  of := fun _ _ e => ⟨_, He.frG_in, e⟩
  keeps := fun _ _ _ ⟨K, hK, c⟩ k => ⟨K, PySem.W.Frag.In.keeps hK k, c⟩
theorem obsMG_eq {n : Nat} {fa : List FaM} {fn : List He.DefD} {g : Addr → Option Obj} {s : Shared} (h : ∀ a, g a = s.heap.get? a) : obsMG n fa fn g = (hookM n fa fn).obs s := by
  have e : g = s.heap.get? := funext h
  rw [e] <;> rfl
section
variable {fa : List FaM} {fn : List He.DefD} {K : PySem.W.Frag}
theorem SaysM.fact (c : SaysM fa fn K) (i : Nat) {f : FaM} (h : fa[i]? = some f := by rfl) : f.ok K = true := by
  have c1 := (He.ba (show ((fa.all fun f => f.ok K) && fn.all fun d => d.ok K) = true from congrArg (fun z : He.AlD => z.1) c)).1
  exact List.all_eq_true.mp c1 f (List.mem_of_getElem? h)
theorem SaysM.def_ (c : SaysM fa fn K) (i : Nat) {d : He.DefD} (h : fn[i]? = some d := by rfl) : ∃ fd, FunD K d.name d.qual d.params d.body d.scope (d.dvs K) (d.kws K) (He.fAd K d.at_) fd := by
  have c2 := (He.ba (show ((fa.all fun f => f.ok K) && fn.all fun d => d.ok K) = true from congrArg (fun z : He.AlD => z.1) c)).2
  have e : fn.map (fun d => He.fnW K d.at_) = fn.map He.DefD.val := congrArg (fun z : He.AlD => z.2) c
  have e2 : (fn.map fun d => He.fnW K d.at_)[i]? = (fn.map He.DefD.val)[i]? := by rw [e]
  rw [List.getElem?_map, List.getElem?_map, h] at e2
  exact He.DefD.funD (Option.some.inj e2) (List.all_eq_true.mp c2 d (List.mem_of_getElem? h))
end
/-! ### a law's end: the mirror of law tells True -/
/-- the heap at the start: the script -/
def h0 (ns : List Int) : Hc := (⟨0, .nil⟩ : Hc).new (.fz (ns.map .int))
def Right (f : List Val → M Val) (ns : List Int) : Prop := match f [.ref 0] (h0 ns) with
  | .ok v _ => v = .bl true
  | _ => False
theorem script_rv {K : PySem.W.Frag} {ρ : Rho} : ∀ ns : List Int, RVs K ρ (ns.map .int) (ns.map V.int)
  | [] => .nil
  | _ :: ns => .cons rfl (script_rv ns)
theorem right_sp {K : PySem.W.Frag} {f : List Val → M Val} {ns : List Int} {H : Hp} {a : Addr} (hl : ∀ o, K.lookup a = some o → o.cls ≠ .type "list") (hO : Only H) (hS : SqL K H a (ns.map V.int)) (r : Right f ns) : spM K 1 f [.ref a] H (fun v _ => v = .bl true) fun _ _ _ => False := by
  have key : ∃ o, H a = some (.frz o (.lst (ns.map V.int))) := by
    rcases hS with (h | h) | ⟨o, its, n, h, hc, _⟩
    · rcases hO a with z | ⟨o, xs, z⟩
      · rw [z] at h; cases h
      · rw [z] at h; cases h
    · exact h
    · exact absurd hc (hl o h)
  obtain ⟨o, ho⟩ := key
  refine ⟨⟨fun n => if n = 0 then some a else none, fun _ => none, fun _ => none⟩, h0 ns, [.ref 0], rfl, ⟨fun n c e => ?_, fun n m b e1 e2 => ?_, fun n b e => ?_, fun n x e => (by cases e), fun n x e => (by cases e)⟩, .cons ⟨a, rfl, rfl⟩ .nil, ?_⟩
  · unfold h0 at e
    rw [Hc.get_new] at e
    by_cases z : n = 0
    · subst z
      rw [if_pos rfl] at e
      cases e
      exact ⟨a, rfl, o, _, script_rv ns, ho⟩
    · rw [if_neg z] at e; cases e
  · have e1' : (if n = 0 then some a else none) = some b := e1
    have e2' : (if m = 0 then some a else none) = some b := e2
    by_cases z : n = 0
    · by_cases y : m = 0
      · rw [z, y]
      · rw [if_neg y] at e2'; cases e2'
    · rw [if_neg z] at e1'; cases e1'
  · have e' : (if n = 0 then some a else none) = some b := e
    by_cases z : n = 0
    · subst z
      exact ⟨Nat.zero_lt_one, _, by unfold h0; rw [Hc.get_new]; exact if_pos rfl⟩
    · rw [if_neg z] at e'; cases e'
  · unfold Right at r
    cases q : f [.ref 0] (h0 ns) with
    | bad => simp only [q] at r
    | exc _ _ _ => simp only [q] at r
    | ok v h =>
      simp only [q] at r
      subst r
      exact fun ρ H x l R rv => rv
theorem cx_none {P : Program} {w : World} {H : Hp} {s : Shared} {e : Value} {s' : Shared} (h : L2.CX P w [] H s (fun _ _ _ => False) e s') : False := by
  obtain ⟨_, _, _, _, _, _, _, _, _, _, _, _, z⟩ := h
  exact z.elim
/-- the end over such a Hook -/
theorem walk_M {l : PySem.W.OpenLaw} {n k : Nat} {q : Program} {loose : List Str} {XP : (Str → Option Value) → Heap → Prop} {YP : World → Heap → Prop} {d : DefRec} {x : Str} {f : List Val → M Val}
    (hn : l.most = some n) (hn2 : n ≤ sizeLine) (hdf : d.params.defaults = []) (hr : Room k callerA)
    (F : ∀ (w : World) (mg : Str → Option Value) (fa : Addr) (h : Heap), YP w h → h.Ns mainGlobals mg → mg d.name = some (.ref fa) →
      ∃ (K : PySem.W.Frag) (fd : FuncData), K.In h ∧ (∀ a o, K.lookup a = some o → o.cls ≠ .type "list") ∧ (∀ (s : Shared) (u : Value), BindsTo s fd ⟨[u], []⟩ [(x, u)]) ∧
        ∀ base : Heap, K.In base → base.Ns mainGlobals mg → FnOk l.prog w K mg base (L2.CX l.prog w) k fa fd [x] (spM K 1 f))
    (hR : ∀ ns : List Int, ns.length ≤ n → (∀ z ∈ ns, Builtin.Int.intBits z ≤ 1048576) → Right f ns) :
    PySem.W.WalkO q loose XP YP l.row.toRowW d [] (fun f vs => PySem.call f vs) := by
  refine Att.attach_callB hn hdf fun w s₀ s₁ mg mb fa o pm cd doc a vs ns G Y ho hd hcd hmg hobj hints hlen hbits hg => ?_
  obtain ⟨K, fd, KX, hl, hb, hF⟩ := F w mg fa _ Y G.T.g hmg
  exact law_call KX G.T.g G.T.b G.T.builtins G.T.nolimit hg hobj hints (Nat.le_trans hlen hn2) hr hF hb (fun H hO hS => right_sp (hl a) hO hS (hR ns hlen hbits)) fun H e s' z => cx_none z
end Mr
end
section
set_option Elab.async false
set_option linter.all false
set_option maxRecDepth 100000
set_option maxHeartbeats 2000000
/-! Mr, part 17: what a mirror comes to, by wishes (no program in sight). -/
namespace Mr
open PySem
/-! ### heaps -/
def Wf (h : Hc) : Prop := ∀ i c, h.get i = some c → i < h.n
/-- all cells of h stand in h' as they were -/
structure Ext (h h' : Hc) : Prop where
  wf : Wf h'
  at_ : ∀ i c, h.get i = some c → h'.get i = some c
  n : h.n ≤ h'.n
theorem Ext.refl {h : Hc} (w : Wf h) : Ext h h := ⟨w, fun _ _ e => e, Nat.le_refl _⟩
theorem Ext.trans {a b c : Hc} (x : Ext a b) (y : Ext b c) : Ext a c := ⟨y.wf, fun i d e => y.at_ i d (x.at_ i d e), Nat.le_trans x.n y.n⟩
theorem Wf.none {h : Hc} (w : Wf h) {i : Nat} (e : h.n ≤ i) : h.get i = none := by
  cases q : h.get i with
  | none => rfl
  | some c =>
    have := w i c q
    omega
theorem Wf.new {h : Hc} (w : Wf h) (c : Cell) : Wf (h.new c) := fun i d e => by
  rw [Hc.get_new] at e
  rw [Hc.n_new]
  by_cases z : i = h.n
  · omega
  · rw [if_neg z] at e
    have := w i d e
    omega
theorem Ext.new {h : Hc} (w : Wf h) (c : Cell) : Ext h (h.new c) := ⟨w.new c, fun i d e => by
  have := w i d e
  rw [Hc.get_new, if_neg (by omega)]
  exact e, by rw [Hc.n_new]; omega⟩
theorem Wf.put {h : Hc} (w : Wf h) {i : Nat} {c0 : Cell} (e0 : h.get i = some c0) (c : Cell) : Wf (h.put i c) := fun j d e => by
  rw [Hc.get_put] at e
  rw [Hc.n_put]
  by_cases z : j = i
  · rw [z]; exact w i c0 e0
  · rw [if_neg z] at e
    exact w j d e
/-- a cell made since h is changed -/
theorem Ext.put {h h1 : Hc} (x : Ext h h1) {i : Nat} (hi : h.n ≤ i) {c0 : Cell} (e0 : h1.get i = some c0) (c : Cell) (w : Wf h) : Ext h (h1.put i c) := ⟨x.wf.put e0 c, fun j d e => by
  have := w j d e
  rw [Hc.get_put, if_neg (by omega)]
  exact x.at_ j d e, by rw [Hc.n_put]; exact x.n⟩
theorem get_new_at (h : Hc) (c : Cell) : (h.new c).get h.n = some c := by rw [Hc.get_new, if_pos rfl]
theorem get_new_of {h : Hc} (w : Wf h) {i : Nat} {c d : Cell} (e : h.get i = some d) : (h.new c).get i = some d := (Ext.new w c).at_ i d e
theorem get_put_at (h : Hc) (i : Nat) (c : Cell) : (h.put i c).get i = some c := by rw [Hc.get_put, if_pos rfl]
theorem get_put_ne (h : Hc) {i j : Nat} (c : Cell) (e : j ≠ i) : (h.put i c).get j = h.get j := by rw [Hc.get_put, if_neg e]

/-! ### wishes -/
def Ok {α : Type} (r : Res α) (Q : α → Hc → Prop) (X : Str → Option Nat → Hc → Prop) : Prop := match r with
  | .ok a h => Q a h
  | .exc C d h => X C d h
  | .bad => False
structure Po where
  nx : Env → Hc → Prop := fun _ _ => False
  rt : Val → Hc → Prop := fun _ _ => False
  bk : Env → Hc → Prop := fun _ _ => False
  ct : Env → Hc → Prop := fun _ _ => False
  ex : Str → Option Nat → Env → Hc → Prop := fun _ _ _ _ => False
def SOk (r : SR) (D : Po) : Prop := match r with
  | .nx e h => D.nx e h
  | .rt v h => D.rt v h
  | .bk e h => D.bk e h
  | .ct e h => D.ct e h
  | .exc C d e h => D.ex C d e h
  | .bad => False
section
variable {α β : Type} {Q Q' : α → Hc → Prop} {X X' : Str → Option Nat → Hc → Prop} {D : Po} {e : Env} {h : Hc}
theorem Ok.mono {r : Res α} (k : Ok r Q X) (q : ∀ a h, Q a h → Q' a h) (x : ∀ C d h, X C d h → X' C d h) : Ok r Q' X' := by
  cases r with
  | ok a h => exact q a h k
  | exc C d h => exact x C d h k
  | bad => exact k
theorem Ok.imp {r : Res α} (k : Ok r Q fun _ _ _ => False) (q : ∀ a h, Q a h → Q' a h) : Ok r Q' X := k.mono q fun _ _ _ z => z.elim
@[simp] theorem ok_ok {a : α} : Ok (.ok a h) Q X ↔ Q a h := ⟨fun z => z, fun z => z⟩
@[simp] theorem ok_exc {C : Str} {d : Option Nat} : Ok (.exc C d h) Q X ↔ X C d h := ⟨fun z => z, fun z => z⟩
@[simp] theorem ok_bad : Ok (.bad : Res α) Q X ↔ False := ⟨fun z => z, fun z => z⟩
@[simp] theorem ok_bind {r : Res β} {f : β → Hc → Res α} : Ok (r.bind f) Q X ↔ Ok r (fun a h => Ok (f a h) Q X) X := by cases r <;> exact Iff.rfl
@[simp] theorem bind_ok {a : β} {f : β → Hc → Res α} : (Res.ok a h).bind f = f a h := Eq.trans rfl rfl
@[simp] theorem into_ok {a : β} {f : β → Hc → SR} : (Res.ok a h).into e f = f a h := Eq.trans rfl rfl
@[simp] theorem sok_nx {e : Env} : SOk (.nx e h) D ↔ D.nx e h := ⟨fun z => z, fun z => z⟩
@[simp] theorem sok_rt {v : Val} : SOk (.rt v h) D ↔ D.rt v h := ⟨fun z => z, fun z => z⟩
@[simp] theorem sok_bk {e : Env} : SOk (.bk e h) D ↔ D.bk e h := ⟨fun z => z, fun z => z⟩
@[simp] theorem sok_ct {e : Env} : SOk (.ct e h) D ↔ D.ct e h := ⟨fun z => z, fun z => z⟩
@[simp] theorem sok_exc {C : Str} {d : Option Nat} {e : Env} : SOk (.exc C d e h) D ↔ D.ex C d e h := ⟨fun z => z, fun z => z⟩
@[simp] theorem sok_bad : SOk .bad D ↔ False := ⟨fun z => z, fun z => z⟩
@[simp] theorem sok_into {r : Res α} {f : α → Hc → SR} : SOk (r.into e f) D ↔ Ok r (fun a h => SOk (f a h) D) (fun C d h => D.ex C d e h) := by cases r <;> exact Iff.rfl
@[simp] theorem sok_seq {a b : SM} : SOk (sSeq a b e h) D ↔ SOk (a e h) { D with nx := fun e h => SOk (b e h) D } := by
  unfold sSeq
  cases a e h <;> exact Iff.rfl
theorem ok_fn {N : Nat} {body : SM} {as : List Val} {Q : Val → Hc → Prop} : Ok (fnM N body as h) Q X ↔ SOk (body (as.map some ++ List.replicate (N - as.length) none) h) { nx := fun _ h => Q .non h, rt := Q, ex := fun C d _ h => X C d h } := by
  unfold fnM
  cases body (as.map some ++ List.replicate (N - as.length) none) h <;> exact Iff.rfl
end
/-! ### loops -/
/-- a loop over fixed items: J what stands at the i-th turn -/
theorem for_ok {it : ItM} {g : GM} {b : SM} {D : Po} {items : List Val} (J : Nat → Env → Hc → Prop) (hit : ∀ i e h, J i e h → it i h = .ok (items[i]?) h)
    (step : ∀ i v e h, items[i]? = some v → J i e h → Ok (g v e h) (fun e2 h2 => SOk (b e2 h2) { D with nx := J (i + 1), ct := J (i + 1), bk := D.nx }) (fun C d h => D.ex C d e h)) (fin : ∀ e h, J items.length e h → D.nx e h) :
    ∀ (f i : Nat) (e : Env) (h : Hc), items.length < f + i → i ≤ items.length → J i e h → SOk (forGo it g b f i e h) D := by
  intro f
  induction f with
  | zero => intro i e h h1 h2; omega
  | succ f ih =>
    intro i e h h1 h2 j
    unfold forGo
    rw [hit i e h j]
    cases q : items[i]? with
    | none =>
      have : i = items.length := by
        have := List.getElem?_eq_none_iff.mp q
        omega
      subst this
      exact fin e h j
    | some v =>
      have hi : i < items.length := (List.getElem?_eq_some_iff.mp q).1
      have s := step i v e h q j
      simp only [sok_into]
      refine Ok.mono s (fun e2 h2 k => ?_) fun C d h k => k
      cases q2 : b e2 h2 with
      | nx e3 h3 => rw [q2] at k; exact ih (i + 1) e3 h3 (by omega) (by omega) k
      | ct e3 h3 => rw [q2] at k; exact ih (i + 1) e3 h3 (by omega) (by omega) k
      | bk e3 h3 => rw [q2] at k; exact k
      | rt e3 h3 => rw [q2] at k; exact k
      | exc C d e3 h3 => rw [q2] at k; exact k
      | bad => rw [q2] at k; exact k.elim
/-- any loop of n turns -/
theorem for_gen {it : ItM} {g : GM} {b : SM} {D : Po} (n : Nat) (J : Nat → Env → Hc → Prop)
    (step : ∀ i e h, i < n → J i e h → ∃ v h1, it i h = .ok (some v) h1 ∧ Ok (g v e h1) (fun e2 h2 => SOk (b e2 h2) { D with nx := J (i + 1), ct := J (i + 1), bk := D.nx }) (fun C d h => D.ex C d e h)) (fin : ∀ e h, J n e h → it n h = .ok none h ∧ D.nx e h) :
    ∀ (f i : Nat) (e : Env) (h : Hc), n < f + i → i ≤ n → J i e h → SOk (forGo it g b f i e h) D := by
  intro f
  induction f with
  | zero => intro i e h h1 h2; omega
  | succ f ih =>
    intro i e h h1 h2 j
    unfold forGo
    by_cases z : i = n
    · subst z
      obtain ⟨k1, k2⟩ := fin e h j
      rw [k1]
      exact k2
    · obtain ⟨v, h1', k1, s⟩ := step i e h (by omega) j
      rw [k1]
      simp only [sok_into]
      refine Ok.mono s (fun e2 h2 k => ?_) fun C d h k => k
      cases q2 : b e2 h2 with
      | nx e3 h3 => rw [q2] at k; exact ih (i + 1) e3 h3 (by omega) (by omega) k
      | ct e3 h3 => rw [q2] at k; exact ih (i + 1) e3 h3 (by omega) (by omega) k
      | bk e3 h3 => rw [q2] at k; exact k
      | rt e3 h3 => rw [q2] at k; exact k
      | exc C d e3 h3 => rw [q2] at k; exact k
      | bad => rw [q2] at k; exact k.elim
theorem itE_at {h : Hc} {n : Nat} {xs : List Val} (e : h.get n = some (.lst xs)) {i : Nat} {v : Val} (hv : xs[i]? = some v) : itE n i h = .ok (some (.ref h.n)) (h.new (.tup [.int (i : Nat), v])) := by
  unfold itE
  simp only [e, hv]
theorem itE_end {h : Hc} {n : Nat} {xs : List Val} (e : h.get n = some (.lst xs)) : itE n xs.length h = .ok none h := by
  unfold itE
  have : xs[xs.length]? = none := List.getElem?_eq_none (Nat.le_refl _)
  simp only [e, this]
/-- a while loop: μ sinks -/
theorem while_ok {c : TM} {b : SM} {D : Po} (J : Env → Hc → Nat → Prop)
    (step : ∀ e h m, J e h m → Ok (c e h) (fun k h1 => (k = false → D.nx e h1) ∧ (k = true → SOk (b e h1) { D with nx := fun e h => ∃ m' < m, J e h m', ct := fun e h => ∃ m' < m, J e h m', bk := D.nx })) (fun C d h => D.ex C d e h)) :
    ∀ (f : Nat) (e : Env) (h : Hc) (m : Nat), m < f → J e h m → SOk (whileGo c b f e h) D := by
  intro f
  induction f with
  | zero => intro e h m hm; omega
  | succ f ih =>
    intro e h m hm j
    unfold whileGo
    simp only [sok_into]
    refine Ok.mono (step e h m j) (fun k h1 ⟨k1, k2⟩ => ?_) fun C d h k => k
    cases k with
    | false => exact k1 rfl
    | true =>
      have k2 := k2 rfl
      simp only
      cases q2 : b e h1 with
      | nx e3 h3 => rw [q2] at k2; obtain ⟨m', l, j'⟩ := k2; exact ih e3 h3 m' (by omega) j'
      | ct e3 h3 => rw [q2] at k2; obtain ⟨m', l, j'⟩ := k2; exact ih e3 h3 m' (by omega) j'
      | bk e3 h3 => rw [q2] at k2; exact k2
      | rt e3 h3 => rw [q2] at k2; exact k2
      | exc C d e3 h3 => rw [q2] at k2; exact k2
      | bad => rw [q2] at k2; exact k2.elim
/-- a comprehension: J i acc h, the list at d left out -/
theorem lc_ok {it : ItM} {g : GM} {tt : TM} {te : EM} {e0 : Env} {d : Nat} {Q : Val → Hc → Prop} {X : Str → Option Nat → Hc → Prop} {items : List Val} (J : Nat → List Val → Hc → Prop) (hit : ∀ i acc h, J i acc h → it i h = .ok (items[i]?) h)
    (step : ∀ i v acc h, items[i]? = some v → J i acc h → Ok (g v e0 h) (fun e2 h2 => Ok (tt e2 h2) (fun k h3 => (k = false → J (i + 1) acc h3) ∧ (k = true → Ok (te e2 h3) (fun y h4 => h4.get d = some (.lst acc) ∧ acc.length < big ∧ J (i + 1) (acc ++ [y]) (h4.put d (.lst (acc ++ [y])))) (fun _ _ _ => False)))
      (fun _ _ _ => False)) (fun _ _ _ => False)) (fin : ∀ acc h, J items.length acc h → Q (.ref d) h) :
    ∀ (f i : Nat) (acc : List Val) (h : Hc), items.length < f + i → i ≤ items.length → J i acc h → Ok (lcGo it g tt te e0 d f i h) Q X := by
  intro f
  induction f with
  | zero => intro i acc h h1 h2; omega
  | succ f ih =>
    intro i acc h h1 h2 j
    unfold lcGo
    rw [hit i acc h j]
    cases q : items[i]? with
    | none =>
      have : i = items.length := by
        have := List.getElem?_eq_none_iff.mp q
        omega
      subst this
      exact fin acc h j
    | some v =>
      have hi : i < items.length := (List.getElem?_eq_some_iff.mp q).1
      have s := step i v acc h q j
      simp only
      cases q1 : g v e0 h with
      | bad => rw [q1] at s; exact s.elim
      | exc _ _ _ => rw [q1] at s; exact s.elim
      | ok e2 h2 =>
        rw [q1] at s
        have s : Ok (tt e2 h2) _ _ := s
        simp only
        cases q2 : tt e2 h2 with
        | bad => rw [q2] at s; exact s.elim
        | exc _ _ _ => rw [q2] at s; exact s.elim
        | ok k h3 =>
          rw [q2] at s
          obtain ⟨s1, s2⟩ := s
          cases k with
          | false => exact ih (i + 1) acc h3 (by omega) (by omega) (s1 rfl)
          | true =>
            have s2 := s2 rfl
            simp only
            cases q3 : te e2 h3 with
            | bad => rw [q3] at s2; exact s2.elim
            | exc _ _ _ => rw [q3] at s2; exact s2.elim
            | ok y h4 =>
              rw [q3] at s2
              obtain ⟨s3, s4, s5⟩ := s2
              simp only [s3, if_pos s4]
              exact ih (i + 1) (acc ++ [y]) _ (by omega) (by omega) s5
/-- a comprehension that only reads: its items filtered and told -/
theorem lc_pure {it : ItM} {g : GM} {tt : TM} {te : EM} {e0 : Env} {Q : Val → Hc → Prop} {X : Str → Option Nat → Hc → Prop} {items : List Val} {h : Hc} (w : Wf h) (p : Val → Bool) (t : Val → Val) (hl : items.length < lid)
    (hit : ∀ i h', Ext h h' → it i h' = .ok (items[i]?) h')
    (step : ∀ v ∈ items, ∀ h', Ext h h' → ∃ e2, g v e0 h' = .ok e2 h' ∧ tt e2 h' = .ok (p v) h' ∧ (p v = true → te e2 h' = .ok (t v) h'))
    (fin : ∀ h', Ext h h' → h'.n = h.n + 1 → h'.get h.n = some (.lst ((items.filter p).map t)) → (∀ i, i ≠ h.n → h'.get i = h.get i) → Q (.ref h.n) h') : Ok (lcGo it g tt te e0 h.n lid 0 (h.new (.lst []))) Q X := by
  have base : Ext h (h.new (.lst [])) := Ext.new w _
  refine lc_ok (d := h.n) (items := items) (fun i acc h' => Ext h h' ∧ h'.n = h.n + 1 ∧ h'.get h.n = some (.lst acc) ∧ acc = ((items.take i).filter p).map t ∧ ∀ j, j ≠ h.n → h'.get j = h.get j) (fun i acc h' j => hit i h' j.1) (fun i v acc h' hv j => ?_) (fun acc h' j => ?_) lid 0 [] _ (by omega) (Nat.zero_le _) ⟨base, rfl, get_new_at _ _, rfl, fun j hj => by rw [Hc.get_new, if_neg hj]⟩
  · obtain ⟨j1, j2, j3, j4, j5⟩ := j
    obtain ⟨e2, s1, s2, s3⟩ := step v (List.mem_of_getElem? hv) h' j1
    have tk : items.take (i + 1) = items.take i ++ [v] := by rw [List.take_add_one, hv]; rfl
    rw [s1]
    simp only [ok_ok]
    rw [s2]
    simp only [ok_ok]
    refine ⟨fun k => ⟨j1, j2, j3, ?_, j5⟩, fun k => ?_⟩
    · rw [tk, List.filter_append, j4]
      simp [k]
    · rw [s3 k]
      simp only [ok_ok]
      have hlen : acc.length < big := by
        rw [j4, List.length_map]
        have h1 := List.length_filter_le p (items.take i)
        rw [List.length_take] at h1
        have h2 : lid ≤ big := by decide
        omega
      refine ⟨j3, hlen, Ext.put j1 (Nat.le_refl _) j3 _ w, by rw [Hc.n_put]; exact j2, get_put_at _ _ _, ?_, fun j hj => by rw [get_put_ne _ _ hj]; exact j5 j hj⟩
      rw [tk, List.filter_append, j4]
      simp [k]
  · obtain ⟨j1, j2, j3, j4, j5⟩ := j
    rw [List.take_length] at j4
    subst j4
    exact fin h' j1 j2 j3 j5
theorem itL_at {h : Hc} {n : Nat} {xs : List Val} (e : h.get n = some (.lst xs)) (i : Nat) : itL n i h = .ok (xs[i]?) h := by unfold itL; rw [e]
theorem itL_fz {h : Hc} {n : Nat} {xs : List Val} (e : h.get n = some (.fz xs)) (i : Nat) : itL n i h = .ok (xs[i]?) h := by unfold itL; rw [e]
theorem itT_at {h : Hc} {n : Nat} {xs : List Val} (e : h.get n = some (.tup xs)) (i : Nat) : itT n i h = .ok (xs[i]?) h := by unfold itT; rw [e]
theorem itR_at (lo : Int) (n i : Nat) (h : Hc) : itR lo n i h = .ok (((List.range n).map fun j => Val.int (lo + (j : Nat)))[i]?) h := by
  unfold itR
  by_cases z : i < n
  · rw [if_pos z]; simp [z]
  · rw [if_neg z]; simp [z]
end Mr
end
section
set_option Elab.async false
set_option linter.all false
set_option maxRecDepth 100000
set_option maxHeartbeats 2000000
/-! Mr, part 18: more of comprehensions, by wishes. -/
namespace Mr
open PySem
/-- a comprehension whose tests and items may lay new cells -/
theorem lc_ext {it : ItM} {g : GM} {tt : TM} {te : EM} {e0 : Env} {Q : Val → Hc → Prop} {X : Str → Option Nat → Hc → Prop} {items : List Val} {h : Hc} (w : Wf h) (p : Val → Bool) (t : Val → Val) (hl : items.length < lid)
    (hit : ∀ i h', Ext h h' → it i h' = .ok (items[i]?) h')
    (step : ∀ v ∈ items, ∀ h', Ext h h' → ∃ e2, g v e0 h' = .ok e2 h' ∧ Ok (tt e2 h') (fun k h3 => Ext h' h3 ∧ k = p v ∧ (k = true → Ok (te e2 h3) (fun y h4 => Ext h3 h4 ∧ y = t v) fun _ _ _ => False)) fun _ _ _ => False)
    (fin : ∀ h', Ext h h' → h.n < h'.n → h'.get h.n = some (.lst ((items.filter p).map t)) → Q (.ref h.n) h') : Ok (lcGo it g tt te e0 h.n lid 0 (h.new (.lst []))) Q X := by
  have base : Ext h (h.new (.lst [])) := Ext.new w _
  refine lc_ok (d := h.n) (items := items) (fun i acc h' => Ext h h' ∧ h.n < h'.n ∧ h'.get h.n = some (.lst acc) ∧ acc = ((items.take i).filter p).map t) (fun i acc h' j => hit i h' j.1) (fun i v acc h' hv j => ?_) (fun acc h' j => ?_) lid 0 [] _ (by omega) (Nat.zero_le _) ⟨base, Nat.lt_succ_self _, get_new_at _ _, rfl⟩
  · obtain ⟨j1, j2, j3, j4⟩ := j
    obtain ⟨e2, s1, s2⟩ := step v (List.mem_of_getElem? hv) h' j1
    have tk : items.take (i + 1) = items.take i ++ [v] := by rw [List.take_add_one, hv]; rfl
    rw [s1]
    simp only [ok_ok]
    refine Ok.mono s2 (fun k h3 ⟨x3, hk, s3⟩ => ⟨fun k0 => ?_, fun k0 => ?_⟩) fun _ _ _ z => z
    · refine ⟨j1.trans x3, Nat.lt_of_lt_of_le j2 x3.n, x3.at_ _ _ j3, ?_⟩
      rw [tk, List.filter_append, j4]
      rw [k0] at hk
      simp [← hk]
    · refine Ok.mono (s3 k0) (fun y h4 ⟨x4, hy⟩ => ?_) fun _ _ _ z => z
      have x34 := x3.trans x4
      have hlen : acc.length < big := by
        rw [j4, List.length_map]
        have h1 := List.length_filter_le p (items.take i)
        rw [List.length_take] at h1
        have h2 : lid ≤ big := by decide
        omega
      refine ⟨x34.at_ _ _ j3, hlen, Ext.put (j1.trans x34) (Nat.le_refl _) (x34.at_ _ _ j3) _ w, by rw [Hc.n_put]; exact Nat.lt_of_lt_of_le j2 x34.n, get_put_at _ _ _, ?_⟩
      rw [tk, List.filter_append, j4, hy]
      rw [k0] at hk
      simp [← hk]
  · obtain ⟨j1, j2, j3, j4⟩ := j
    rw [List.take_length] at j4
    subst j4
    exact fin h' j1 j2 j3
/-- a comprehension with two fors that only reads -/
theorem lc2_pure {it : ItM} {g g1 : GM} {tt tt1 : TM} {mi1 : Env → M ItM} {te : EM} {e0 : Env} {vs1 : List Nat} {Q : Val → Hc → Prop} {X : Str → Option Nat → Hc → Prop} {items : List Val} {h : Hc} (w : Wf h) (sub : Val → List Val) (t : Val → Val) (hl : items.length < lid) (hs : ∀ v ∈ items, (sub v).length < lid) (hz : (items.flatMap sub).length < big)
    (hit : ∀ i h', Ext h h' → it i h' = .ok (items[i]?) h')
    (step : ∀ v ∈ items, ∀ h', Ext h h' → ∃ e2, g v e0 h' = .ok e2 h' ∧ tt e2 h' = .ok true h' ∧ ∃ it1, mi1 e2 h' = .ok it1 h' ∧ (∀ i h2, Ext h h2 → it1 i h2 = .ok ((sub v)[i]?) h2) ∧
      ∀ u ∈ sub v, ∀ h2, Ext h h2 → ∃ e3, g1 u (wipeM e2 vs1) h2 = .ok e3 h2 ∧ tt1 e3 h2 = .ok true h2 ∧ te e3 h2 = .ok (t u) h2)
    (fin : ∀ h', Ext h h' → h'.n = h.n + 1 → h'.get h.n = some (.lst ((items.flatMap sub).map t)) → (∀ i, i ≠ h.n → h'.get i = h.get i) → Q (.ref h.n) h') :
    Ok (lc2Go it g tt mi1 g1 tt1 te e0 vs1 h.n lid 0 (h.new (.lst []))) Q X := by
  have toExt : ∀ h' : Hc, h'.n = h.n + 1 → (∀ j, j ≠ h.n → h'.get j = h.get j) → (∃ xs, h'.get h.n = some (.lst xs)) → Ext h h' := fun h' hn hk ⟨xs, hx⟩ => ⟨fun i c e => by
    by_cases z : i = h.n
    · omega
    · rw [hk i z] at e
      have := w i c e
      omega, fun i c e => by
    have := w i c e
    rw [hk i (by omega)]
    exact e, by omega⟩
  have main : ∀ (f i : Nat) (h' : Hc), items.length < f + i → i ≤ items.length → h'.n = h.n + 1 → (∀ j, j ≠ h.n → h'.get j = h.get j) → h'.get h.n = some (.lst (((items.take i).flatMap sub).map t)) → Ok (lc2Go it g tt mi1 g1 tt1 te e0 vs1 h.n f i h') Q X := by
    intro f
    induction f with
    | zero => intro i h' h1 h2; omega
    | succ f ih =>
      intro i h' h1 h2 hn hk hg
      have x := toExt h' hn hk ⟨_, hg⟩
      unfold lc2Go
      rw [hit i h' x]
      cases q : items[i]? with
      | none =>
        have : i = items.length := by
          have := List.getElem?_eq_none_iff.mp q
          omega
        subst this
        rw [List.take_length] at hg
        exact fin h' x hn hg hk
      | some v =>
        have hi : i < items.length := (List.getElem?_eq_some_iff.mp q).1
        have hv := List.mem_of_getElem? q
        obtain ⟨e2, s1, s2, it1, s3, s4, s5⟩ := step v hv h' x
        have tk : items.take (i + 1) = items.take i ++ [v] := by rw [List.take_add_one, q]; rfl
        have len : (((items.take i).flatMap sub).map t).length + (sub v).length < big := by
          have h1 : (items.flatMap sub).length = ((items.take (i + 1)).flatMap sub).length + ((items.drop (i + 1)).flatMap sub).length := by
            rw [← List.length_append, ← List.flatMap_append, List.take_append_drop]
          rw [tk, List.flatMap_append, List.length_append] at h1
          have h3 : ([v].flatMap sub).length = (sub v).length := by simp
          rw [List.length_map]
          omega
        have conv : ∀ h2 : Hc, h2.n = h'.n → (∀ j, j ≠ h.n → h2.get j = h'.get j) → ∀ (acc : List Val), h2.get h.n = some (.lst acc) → Ext h h2 := fun h2 a b acc c => toExt h2 (by omega) (fun j hj => (b j hj).trans (hk j hj)) ⟨acc, c⟩
        -- the inner loop keeps the list's cell a list
        have inner : ∀ (f2 i2 : Nat) (h2 : Hc), (sub v).length < f2 + i2 → i2 ≤ (sub v).length → h2.n = h'.n → (∀ j, j ≠ h.n → h2.get j = h'.get j) → h2.get h.n = some (.lst (((items.take i).flatMap sub).map t ++ ((sub v).take i2).map t)) →
            ∃ h3, lcIn it1 g1 tt1 te (wipeM e2 vs1) h.n f2 i2 h2 = .ok () h3 ∧ h3.n = h'.n ∧ (∀ j, j ≠ h.n → h3.get j = h'.get j) ∧ h3.get h.n = some (.lst (((items.take i).flatMap sub).map t ++ (sub v).map t)) := by
          intro f2
          induction f2 with
          | zero => intro i2 h2 k1 k2; omega
          | succ f2 ih2 =>
            intro i2 h2 k1 k2 kn kk kg
            have x2 := conv h2 kn kk _ kg
            unfold lcIn
            rw [s4 i2 h2 x2]
            cases q2 : (sub v)[i2]? with
            | none =>
              have : i2 = (sub v).length := by
                have := List.getElem?_eq_none_iff.mp q2
                omega
              subst this
              rw [List.take_length] at kg
              exact ⟨h2, rfl, kn, kk, kg⟩
            | some u =>
              have hi2 : i2 < (sub v).length := (List.getElem?_eq_some_iff.mp q2).1
              obtain ⟨e3, r1, r2, r3⟩ := s5 u (List.mem_of_getElem? q2) h2 x2
              have hlen : (((items.take i).flatMap sub).map t ++ ((sub v).take i2).map t).length < big := by
                rw [List.length_append]
                have : (((sub v).take i2).map t).length ≤ i2 := by rw [List.length_map, List.length_take]; exact Nat.min_le_left _ _
                omega
              simp only [r1, r2, r3, kg, if_pos hlen]
              refine ih2 (i2 + 1) _ (by omega) (by omega) kn (fun j hj => by rw [get_put_ne _ _ hj]; exact kk j hj) ?_
              rw [get_put_at, List.take_add_one, q2]
              simp
        obtain ⟨h3, t1, t2, t3, t4⟩ := inner lid 0 h' (by have := hs v hv; omega) (Nat.zero_le _) rfl (fun _ _ => rfl) (by simpa using hg)
        simp only [s1, s2, s3, t1]
        refine ih (i + 1) h3 (by omega) (by omega) (by omega) (fun j hj => (t3 j hj).trans (hk j hj)) ?_
        rw [t4, tk, List.flatMap_append, List.map_append]
        simp
  exact main lid 0 _ (by omega) (Nat.zero_le _) rfl (fun j hj => by rw [Hc.get_new, if_neg hj]) (get_new_at _ _)
end Mr
end
section
set_option Elab.async false
set_option linter.all false
set_option maxRecDepth 100000
set_option maxHeartbeats 2000000
/-! Mr, part 19: the wish of each construct, by its parts (rules for simp only: they read heads alone). -/
namespace Mr
open PySem
section
variable {Q : Val → Hc → Prop} {QB : Bool → Hc → Prop} {QA : List Val → Hc → Prop} {QE : Mr.Env → Hc → Prop} {X : Str → Option Nat → Hc → Prop} {D : Po} {e : Mr.Env} {h : Hc}
theorem w_var {i : Nat} : Ok (eVar i e h) Q X = (match e[i]? with
  | some (some v) => Q v h
  | _ => False) := by
  unfold eVar
  cases e[i]? with
  | none => rfl
  | some o => cases o <;> rfl
theorem w_c {v : Val} : Ok (eC v e h) Q X = Q v h := Eq.trans rfl rfl
theorem w_bin {g : Val → Val → M Val} {a b : EM} : Ok (eBin g a b e h) Q X = Ok (a e h) (fun x h1 => Ok (b e h1) (fun y h2 => Ok (g x y h2) Q X) X) X := by
  unfold eBin
  simp only [ok_bind]
theorem w_un {g : Val → M Val} {a : EM} : Ok (eUn g a e h) Q X = Ok (a e h) (fun x h1 => Ok (g x h1) Q X) X := by
  unfold eUn
  simp only [ok_bind]
theorem w_tval {m : EM} : Ok (tVal m e h) QB X = Ok (m e h) (fun v h1 => match v with
  | .bl b => QB b h1
  | _ => False) X := by
  unfold tVal
  simp only [ok_bind]
  congr 1
  funext v h1
  cases v <;> rfl
theorem w_ttru {m : EM} : Ok (tTru m e h) QB X = Ok (m e h) (fun v h1 => match truth v h1 with
  | some b => QB b h1
  | none => False) X := by
  unfold tTru
  simp only [ok_bind]
  congr 1
  funext v h1
  cases truth v h1 <;> rfl
theorem w_tand {a b : TM} : Ok (tAnd' a b e h) QB X = Ok (a e h) (fun x h1 => (x = true → Ok (b e h1) QB X) ∧ (x = false → QB false h1)) X := by
  unfold tAnd'
  simp only [ok_bind]
  congr 1
  funext x h1
  cases x <;> simp
theorem w_tor {a b : TM} : Ok (tOr' a b e h) QB X = Ok (a e h) (fun x h1 => (x = false → Ok (b e h1) QB X) ∧ (x = true → QB true h1)) X := by
  unfold tOr'
  simp only [ok_bind]
  congr 1
  funext x h1
  cases x <;> simp
theorem w_tnot {a : TM} : Ok (tNot' a e h) QB X = Ok (a e h) (fun x h1 => QB (!x) h1) X := by
  unfold tNot'
  simp only [ok_bind, ok_ok]
theorem w_if {c : TM} {a b : EM} : Ok (eIf c a b e h) Q X = Ok (c e h) (fun x h1 => (x = true → Ok (a e h1) Q X) ∧ (x = false → Ok (b e h1) Q X)) X := by
  unfold eIf
  simp only [ok_bind]
  congr 1
  funext x h1
  cases x <;> simp
theorem w_and {a b : EM} : Ok (eAnd a b e h) Q X = Ok (a e h) (fun v h1 => match truth v h1 with
  | some true => Ok (b e h1) Q X
  | some false => Q v h1
  | none => False) X := by
  unfold eAnd
  simp only [ok_bind]
  congr 1
  funext v h1
  rcases truth v h1 with _ | b
  · rfl
  · cases b <;> rfl
theorem w_or {a b : EM} : Ok (eOr a b e h) Q X = Ok (a e h) (fun v h1 => match truth v h1 with
  | some false => Ok (b e h1) Q X
  | some true => Q v h1
  | none => False) X := by
  unfold eOr
  simp only [ok_bind]
  congr 1
  funext v h1
  rcases truth v h1 with _ | b
  · rfl
  · cases b <;> rfl
theorem w_not {a : EM} : Ok (eNot a e h) Q X = Ok (a e h) (fun v h1 => match truth v h1 with
  | some k => Q (.bl (!k)) h1
  | none => False) X := by
  unfold eNot
  simp only [ok_bind]
  congr 1
  funext v h1
  cases truth v h1 <;> rfl
theorem w_nil : Ok (aNil e h) QA X = QA [] h := Eq.trans rfl rfl
theorem w_cons {m : EM} {n : AM} : Ok (aCons m n e h) QA X = Ok (m e h) (fun v h1 => Ok (n e h1) (fun vs h2 => QA (v :: vs) h2) X) X := by
  unfold aCons
  simp only [ok_bind, ok_ok]
theorem w_lst {m : AM} : Ok (eLst m e h) Q X = Ok (m e h) (fun vs h1 => vs.length ≤ big ∧ Q (.ref h1.n) (h1.new (.lst vs))) X := by
  unfold eLst
  simp only [ok_bind]
  congr 1
  funext vs h1
  refine propext ⟨fun k => ?_, fun k => ?_⟩
  · split at k
    · rename_i l
      exact ⟨l, k⟩
    · exact k.elim
  · rw [if_pos (show vs.length ≤ 16777216 from k.1)]
    exact k.2
theorem w_tup {m : AM} : Ok (eTup m e h) Q X = Ok (m e h) (fun vs h1 => vs.length ≤ big ∧ Q (.ref h1.n) (h1.new (.tup vs))) X := by
  unfold eTup
  simp only [ok_bind]
  congr 1
  funext vs h1
  refine propext ⟨fun k => ?_, fun k => ?_⟩
  · split at k
    · rename_i l
      exact ⟨l, k⟩
    · exact k.elim
  · rw [if_pos (show vs.length ≤ 16777216 from k.1)]
    exact k.2
theorem w_fn {g : List Val → M Val} {m : AM} : Ok (eFn g m e h) Q X = Ok (m e h) (fun as h1 => Ok (g as h1) Q X) X := by
  unfold eFn
  simp only [ok_bind]
theorem w_call {n : Nat} {ds : List Val} {f : List Val → M Val} {m : AM} : Ok (eCall n ds f m e h) Q X = Ok (m e h) (fun as h1 => (as ++ ds).length = n ∧ Ok (f (as ++ ds) h1) Q X) X := by
  unfold eCall
  simp only [ok_bind]
  congr 1
  funext vs h1
  unfold callM
  refine propext ⟨fun k => ?_, fun k => ?_⟩
  · split at k
    · rename_i l
      exact ⟨l, k⟩
    · exact k.elim
  · rw [if_pos k.1]
    exact k.2
theorem w_dnew : Ok (eDnew e h) Q X = Q (.ref h.n) (h.new (.dic [])) := Eq.trans rfl rfl
theorem w_none {QO : Option Int → Hc → Prop} : Ok (oNone e h) QO X = QO none h := Eq.trans rfl rfl
theorem w_some {m : EM} {QO : Option Int → Hc → Prop} : Ok (oSome m e h) QO X = Ok (m e h) (fun v h1 => match v with
  | .int i => QO (some i) h1
  | _ => False) X := by
  unfold oSome
  simp only [ok_bind]
  congr 1
  funext v h1
  cases v <;> rfl
theorem w_sl {f : Val → Option Int → Option Int → M Val} {m : EM} {lo hi : OM} : Ok (eSl f m lo hi e h) Q X = Ok (m e h) (fun v h1 => Ok (lo e h1) (fun i h2 => Ok (hi e h2) (fun j h3 => Ok (f v i j h3) Q X) X) X) X := by
  unfold eSl
  simp only [ok_bind]
theorem w_rev {T : Con} {m : EM} : Ok (eRev T m e h) Q X = Ok (m e h) (fun v h1 => match seqOf T h1 v with
  | some (false, xs) => Q (.ref h1.n) (h1.new (.lst xs.reverse))
  | _ => False) X := by
  unfold eRev
  simp only [ok_bind]
  congr 1
  funext v h1
  rcases seqOf T h1 v with _ | ⟨b, xs⟩
  · rfl
  · cases b <;> rfl
/-! statements -/
theorem w_snil : SOk (sNil e h) D = D.nx e h := Eq.trans rfl rfl
theorem w_sexpr {m : EM} : SOk (sExpr m e h) D = Ok (m e h) (fun _ h1 => D.nx e h1) (fun C d h1 => D.ex C d e h1) := by
  unfold sExpr
  simp only [sok_into, sok_nx]
theorem w_sret {m : EM} : SOk (sRet m e h) D = Ok (m e h) (fun v h1 => D.rt v h1) (fun C d h1 => D.ex C d e h1) := by
  unfold sRet
  simp only [sok_into, sok_rt]
theorem w_sretn : SOk (sRetN e h) D = D.rt .non h := Eq.trans rfl rfl
theorem w_sif {c : TM} {a b : SM} : SOk (sIf c a b e h) D = Ok (c e h) (fun k h1 => (k = true → SOk (a e h1) D) ∧ (k = false → SOk (b e h1) D)) (fun C d h1 => D.ex C d e h1) := by
  unfold sIf
  simp only [sok_into]
  congr 1
  funext k h1
  cases k <;> simp
theorem w_seq {a b : SM} : SOk (sSeq a b e h) D = SOk (a e h) { D with nx := fun e h => SOk (b e h) D } := propext sok_seq
theorem w_gnm {i : Nat} {v : Val} : Ok (gNm i v e h) QE X = QE (e.set i (some v)) h := Eq.trans rfl rfl
theorem w_gsnil : Ok (gsNil [] e h) QE X = QE e h := Eq.trans rfl rfl
theorem w_gscons {g : GM} {gs : GsM} {v : Val} {r : List Val} : Ok (gsCons g gs (v :: r) e h) QE X = Ok (g v e h) (fun e1 h1 => Ok (gs r e1 h1) QE X) X := by
  unfold gsCons
  simp only [ok_bind]
theorem w_gtp {n : Nat} {gs : GsM} {v : Val} : Ok (gTp n gs v e h) QE X = ∃ k xs, v = .ref k ∧ h.get k = some (.tup xs) ∧ xs.length = n ∧ Ok (gs xs e h) QE X := by
  unfold gTp
  refine propext ⟨fun z => ?_, ?_⟩
  · cases v with
    | ref k =>
      simp only at z
      cases q : h.get k with
      | none => rw [q] at z; exact z.elim
      | some c =>
        cases c with
        | tup xs =>
          rw [q] at z
          simp only at z
          split at z
          · rename_i l
            exact ⟨k, xs, rfl, q, l, z⟩
          · exact z.elim
        | _ => rw [q] at z; exact z.elim
    | _ => exact z.elim
  · rintro ⟨k, xs, rfl, q, l, z⟩
    simp only [q, if_pos l]
    exact z
theorem w_sasg {m : EM} {g : GM} : SOk (sAsg m g e h) D = Ok (m e h) (fun v h1 => Ok (g v e h1) (fun e1 h2 => D.nx e1 h2) (fun C d h2 => D.ex C d e h2)) (fun C d h1 => D.ex C d e h1) := by
  unfold sAsg
  simp only [sok_into, sok_nx]
theorem w_spar {i j : Nat} {m : AM} : SOk (sPar i j m e h) D = Ok (m e h) (fun vs h1 => match vs with
  | [v, w] => D.nx ((e.set i (some v)).set j (some w)) h1
  | _ => False) (fun C d h1 => D.ex C d e h1) := by
  unfold sPar
  simp only [sok_into]
  congr 1
  funext vs h1
  match vs with
  | [] => rfl
  | [_] => rfl
  | [_, _] => rfl
  | _ :: _ :: _ :: _ => rfl
theorem w_spar3 {i j l : Nat} {m : AM} : SOk (sPar3 i j l m e h) D = Ok (m e h) (fun vs h1 => match vs with
  | [u, v, w] => D.nx (((e.set i (some u)).set j (some v)).set l (some w)) h1
  | _ => False) (fun C d h1 => D.ex C d e h1) := by
  unfold sPar3
  simp only [sok_into]
  congr 1
  funext vs h1
  match vs with
  | [] => rfl
  | [_] => rfl
  | [_, _] => rfl
  | [_, _, _] => rfl
  | _ :: _ :: _ :: _ :: _ => rfl
theorem w_sub {mo mi : EM} {v : Val} : Ok (gSubL mo mi v e h) QE X = Ok (mo e h) (fun o h1 => Ok (mi e h1) (fun i h2 => ∃ h3, setAt o i v h2 = some h3 ∧ QE e h3) X) X := by
  unfold gSubL
  simp only [ok_bind]
  congr 1
  funext o h1
  congr 1
  funext i h2
  cases setAt o i v h2 with
  | none => simp
  | some h3 => simp
theorem w_sfor {m : Mr.Env → M ItM} {g : GM} {b : SM} : SOk (sFor m g b e h) D = Ok (m e h) (fun it h1 => SOk (forGo it g b lid 0 e h1) D) (fun C d h1 => D.ex C d e h1) := by
  unfold sFor
  simp only [sok_into]
theorem w_iany {T : Con} {m : EM} {QI : ItM → Hc → Prop} : Ok (iAny T m e h) QI X = Ok (m e h) (fun v h1 => Ok (iAnyV T v h1) QI X) X := by
  unfold iAny
  simp only [ok_bind]
theorem w_lm {g : List Val → List Val → Option (Val × List Val)} {mo : EM} {m : AM} : Ok (eLm g mo m e h) Q X = Ok (mo e h) (fun v h1 => ∃ n xs0, v = .ref n ∧ h1.get n = some (.lst xs0) ∧ Ok (m e h1) (fun as h2 => ∃ xs r ys, h2.get n = some (.lst xs) ∧ g xs as = some (r, ys) ∧ Q r (h2.put n (.lst ys))) X) X := by
  unfold eLm
  simp only [ok_bind]
  congr 1
  funext v h1
  refine propext ⟨fun z => ?_, ?_⟩
  · cases v with
    | ref n =>
      simp only at z
      cases q : h1.get n with
      | none => rw [q] at z; exact z.elim
      | some c =>
        cases c with
        | lst xs0 =>
          rw [q] at z
          simp only [ok_bind] at z
          refine ⟨n, xs0, rfl, q, Ok.mono z (fun as h2 y => ?_) fun _ _ _ y => y⟩
          cases q2 : h2.get n with
          | none => rw [q2] at y; exact y.elim
          | some c2 =>
            cases c2 with
            | lst xs =>
              rw [q2] at y
              simp only at y
              cases q3 : g xs as with
              | none => rw [q3] at y; exact y.elim
              | some p =>
                rw [q3] at y
                exact ⟨xs, p.1, p.2, rfl, q3, y⟩
            | _ => rw [q2] at y; exact y.elim
        | _ => rw [q] at z; exact z.elim
    | _ => exact z.elim
  · rintro ⟨n, xs0, rfl, q, z⟩
    simp only [q, ok_bind]
    refine Ok.mono z (fun as h2 ⟨xs, r, ys, q2, q3, y⟩ => ?_) fun _ _ _ y => y
    simp only [q2, q3]
    exact y
end
end Mr
end
section
set_option Elab.async false
set_option linter.all false
set_option maxRecDepth 100000
set_option maxHeartbeats 0
/-! printed by gen.py: the mirrors of the defs, and that each holds. -/
namespace Wk
open PySem PySem.Spec PyProof.Rows L2 Mr
def top (i : Nat) : Stmt := PySem.Challenge.pw_fullestfirst_k90_orders_of_operations.main.body.getD i (.Pass ⟨0, 0, 0, 0⟩)
def T : Con := [("WORDS", [.str "put", .str "delete", .str "get"])]
def xfT : XfT := [("InvalidOperations", ["position"]), ("LimitExceeded", ["limit"])]
def exT : ExT := [(("InvalidOperations", .glo "InvalidOperations"), true), (("InvalidOperations", .glo "LimitExceeded"), false), (("LimitExceeded", .glo "InvalidOperations"), false), (("LimitExceeded", .glo "LimitExceeded"), true)]
def ieT : ExT := [(("InvalidOperations", .ty "OverflowError"), false), (("InvalidOperations", .ty "ValueError"), true), (("LimitExceeded", .ty "OverflowError"), true), (("LimitExceeded", .ty "ValueError"), false)]
def isT : IsT := []
def isBT : List (String × Str) := []
structure Facts (P : Program) (w : World) (K : PySem.W.Frag) (mg : Str → Option Value) (base : Heap) : Prop where
  f__law_is_order : ∃ fd, FunD K "_law_is_order" "_law_is_order" (defArgs (top 23)) (defBody (top 23)) (defScope (top 23)) [] [] (He.fAd K ("_law_is_order", none)) fd
  g__law_is_order : mg "_law_is_order" = some (.ref (He.fAd K ("_law_is_order", none)))
  f_is_integer : ∃ fd, FunD K "is_integer" "is_integer" (defArgs (top 6)) (defBody (top 6)) (defScope (top 6)) [] [] (He.fAd K ("is_integer", none)) fd
  g_is_integer : mg "is_integer" = some (.ref (He.fAd K ("is_integer", none)))
  f_is_key : ∃ fd, FunD K "is_key" "is_key" (defArgs (top 7)) (defBody (top 7)) (defScope (top 7)) [] [] (He.fAd K ("is_key", none)) fd
  g_is_key : mg "is_key" = some (.ref (He.fAd K ("is_key", none)))
  f_is_operation : ∃ fd, FunD K "is_operation" "is_operation" (defArgs (top 11)) (defBody (top 11)) (defScope (top 11)) [] [] (He.fAd K ("is_operation", none)) fd
  g_is_operation : mg "is_operation" = some (.ref (He.fAd K ("is_operation", none)))
  f_check_operations : ∃ fd, FunD K "check_operations" "check_operations" (defArgs (top 12)) (defBody (top 12)) (defScope (top 12)) [] [] (He.fAd K ("check_operations", none)) fd
  g_check_operations : mg "check_operations" = some (.ref (He.fAd K ("check_operations", none)))
  f_merged : ∃ fd, FunD K "merged" "merged" (defArgs (top 15)) (defBody (top 15)) (defScope (top 15)) [] [] (He.fAd K ("merged", none)) fd
  g_merged : mg "merged" = some (.ref (He.fAd K ("merged", none)))
  f_value_behind : ∃ fd, FunD K "value_behind" "value_behind" (defArgs (top 13)) (defBody (top 13)) (defScope (top 13)) [] [] (He.fAd K ("value_behind", none)) fd
  g_value_behind : mg "value_behind" = some (.ref (He.fAd K ("value_behind", none)))
  f_order_of_key : ∃ fd, FunD K "order_of_key" "order_of_key" (defArgs (top 14)) (defBody (top 14)) (defScope (top 14)) [] [] (He.fAd K ("order_of_key", none)) fd
  g_order_of_key : mg "order_of_key" = some (.ref (He.fAd K ("order_of_key", none)))
  f_possible_order : ∃ fd, FunD K "possible_order" "possible_order" (defArgs (top 16)) (defBody (top 16)) (defScope (top 16)) [] [] (He.fAd K ("possible_order", none)) fd
  g_possible_order : mg "possible_order" = some (.ref (He.fAd K ("possible_order", none)))
  f_is_order : ∃ fd, FunD K "is_order" "is_order" (defArgs (top 17)) (defBody (top 17)) (defScope (top 17)) [] [] (He.fAd K ("is_order", none)) fd
  g_is_order : mg "is_order" = some (.ref (He.fAd K ("is_order", none)))
  f__law_told : ∃ fd, FunD K "_law_told" "_law_told" (defArgs (top 26)) (defBody (top 26)) (defScope (top 26)) [] [] (He.fAd K ("_law_told", none)) fd
  g__law_told : mg "_law_told" = some (.ref (He.fAd K ("_law_told", none)))
  f__law_limits_right : ∃ fd, FunD K "_law_limits_right" "_law_limits_right" (defArgs (top 27)) (defBody (top 27)) (defScope (top 27)) [] [] (He.fAd K ("_law_limits_right", none)) fd
  g__law_limits_right : mg "_law_limits_right" = some (.ref (He.fAd K ("_law_limits_right", none)))
  f__law_hand : ∃ fd, FunD K "_law_hand" "_law_hand" (defArgs (top 19)) (defBody (top 19)) (defScope (top 19)) [] [] (He.fAd K ("_law_hand", none)) fd
  g__law_hand : mg "_law_hand" = some (.ref (He.fAd K ("_law_hand", none)))
  f__law_draw : ∃ fd, FunD K "_law_draw" "_law_draw" (defArgs (top 20)) (defBody (top 20)) (defScope (top 20)) [] [] (He.fAd K ("_law_draw", none)) fd
  g__law_draw : mg "_law_draw" = some (.ref (He.fAd K ("_law_draw", none)))
  f__law_hidden : ∃ fd, FunD K "_law_hidden" "_law_hidden" (defArgs (top 21)) (defBody (top 21)) (defScope (top 21)) [] [] (He.fAd K ("_law_hidden", none)) fd
  g__law_hidden : mg "_law_hidden" = some (.ref (He.fAd K ("_law_hidden", none)))
  f__law_drawn : ∃ fd, FunD K "_law_drawn" "_law_drawn" (defArgs (top 22)) (defBody (top 22)) (defScope (top 22)) [] [] (He.fAd K ("_law_drawn", none)) fd
  g__law_drawn : mg "_law_drawn" = some (.ref (He.fAd K ("_law_drawn", none)))
  f__law_bad_right : ∃ fd, FunD K "_law_bad_right" "_law_bad_right" (defArgs (top 28)) (defBody (top 28)) (defScope (top 28)) [] [] (He.fAd K ("_law_bad_right", none)) fd
  g__law_bad_right : mg "_law_bad_right" = some (.ref (He.fAd K ("_law_bad_right", none)))
  f__law_orders : ∃ fd, FunD K "_law_orders" "_law_orders" (defArgs (top 24)) (defBody (top 24)) (defScope (top 24)) [] [] (He.fAd K ("_law_orders", none)) fd
  g__law_orders : mg "_law_orders" = some (.ref (He.fAd K ("_law_orders", none)))
  f__law_has_order : ∃ fd, FunD K "_law_has_order" "_law_has_order" (defArgs (top 25)) (defBody (top 25)) (defScope (top 25)) [] [] (He.fAd K ("_law_has_order", none)) fd
  g__law_has_order : mg "_law_has_order" = some (.ref (He.fAd K ("_law_has_order", none)))
  f_law : ∃ fd, FunD K "law" "law" (defArgs (top 29)) (defBody (top 29)) (defScope (top 29)) [] [] (He.fAd K ("law", none)) fd
  g_law : mg "law" = some (.ref (He.fAd K ("law", none)))
  x_InvalidOperations : OexG K (He.ga K "InvalidOperations")
  y_InvalidOperations : mg "InvalidOperations" = some (.ref (He.ga K "InvalidOperations"))
  z_InvalidOperations : ∃ fd, FunD K "__init__" "InvalidOperations.__init__" (defArgs (inClass (top 1) 0)) (defBody (inClass (top 1) 0)) (defScope (inClass (top 1) 0)) [] [] (He.fAd K ("InvalidOperations", some "__init__")) fd
  i_InvalidOperations : PySem.W.findIn K (.ref (He.ga K "InvalidOperations")) "__init__" = some (some (.ref (He.fAd K ("InvalidOperations", some "__init__")))) ∧ PySem.W.typeIn K (.ref (He.fAd K ("InvalidOperations", some "__init__"))) = some (.type "function")
  n_InvalidOperations_position : PySem.W.findIn K (.ref (He.ga K "InvalidOperations")) "position" = some none
  x_LimitExceeded : OexG K (He.ga K "LimitExceeded")
  y_LimitExceeded : mg "LimitExceeded" = some (.ref (He.ga K "LimitExceeded"))
  z_LimitExceeded : ∃ fd, FunD K "__init__" "LimitExceeded.__init__" (defArgs (inClass (top 2) 0)) (defBody (inClass (top 2) 0)) (defScope (inClass (top 2) 0)) [] [] (He.fAd K ("LimitExceeded", some "__init__")) fd
  i_LimitExceeded : PySem.W.findIn K (.ref (He.ga K "LimitExceeded")) "__init__" = some (some (.ref (He.fAd K ("LimitExceeded", some "__init__")))) ∧ PySem.W.typeIn K (.ref (He.fAd K ("LimitExceeded", some "__init__"))) = some (.type "function")
  n_LimitExceeded_limit : PySem.W.findIn K (.ref (He.ga K "LimitExceeded")) "limit" = some none
  n_OverflowError : mg "OverflowError" = none
  n_ValueError : mg "ValueError" = none
  n_all : mg "all" = none
  n_any : mg "any" = none
  n_bool : mg "bool" = none
  n_enumerate : mg "enumerate" = none
  n_int : mg "int" = none
  n_isinstance : mg "isinstance" = none
  n_len : mg "len" = none
  n_list : mg "list" = none
  n_max : mg "max" = none
  n_min : mg "min" = none
  n_range : mg "range" = none
  n_repr : mg "repr" = none
  n_sorted : mg "sorted" = none
  n_str : mg "str" = none
  n_tuple : mg "tuple" = none
  v_MAX_LENGTH : ∀ X : Cx, X.K = K → X.mg = mg → GloV X "MAX_LENGTH" (.int 20)
  v_CHARACTERS : ∀ X : Cx, X.K = K → X.mg = mg → GloV X "CHARACTERS" (.str "abcdefghijklmnopqrstuvwxyz0123456789")
  v_MOST_OPERATIONS : ∀ X : Cx, X.K = K → X.mg = mg → GloV X "MOST_OPERATIONS" (.int 12)
  v_WORDS : ∀ X : Cx, X.K = K → X.mg = mg → GloV X "WORDS" (.glo "WORDS")
  hT : ConOk K T
  hX : XfOk K xfT
  hE : ExOk K exT
  hIe : IeOk K ieT
  hI : IsOk K isT isBT
section
variable {P : Program} {w : World} {K : PySem.W.Frag} {mg : Str → Option Value} {base : Heap}
theorem sx_InvalidOperations : FnScope ["self", "position"] ["self", "position"] (defScope (inClass (top 1) 0)) := ⟨rfl, rfl, rfl, by decide +kernel, rfl, by decide +kernel, by decide +kernel⟩
theorem canx_InvalidOperations (G : Facts P w K mg base) : CanX P w K mg base 1 "InvalidOperations" ["position"] := by
  obtain ⟨fd, F⟩ := G.z_InvalidOperations
  exact ⟨G.x_InvalidOperations, G.y_InvalidOperations, by decide, _, fd, ["self", "position"], G.i_InvalidOperations.1, G.i_InvalidOperations.2, ok_exc1 F sx_InvalidOperations rfl rfl G.x_InvalidOperations G.n_InvalidOperations_position fun cdv A outer s H E => pss_one (ps_ostG (pv 0) (pv 1)), FunD.bindsN F fun _ _ _ _ _ _ us hl => match us, hl with | [_, _], _ => rfl⟩
theorem sx_LimitExceeded : FnScope ["self", "limit"] ["self", "limit"] (defScope (inClass (top 2) 0)) := ⟨rfl, rfl, rfl, by decide +kernel, rfl, by decide +kernel, by decide +kernel⟩
theorem canx_LimitExceeded (G : Facts P w K mg base) : CanX P w K mg base 1 "LimitExceeded" ["limit"] := by
  obtain ⟨fd, F⟩ := G.z_LimitExceeded
  exact ⟨G.x_LimitExceeded, G.y_LimitExceeded, by decide, _, fd, ["self", "limit"], G.i_LimitExceeded.1, G.i_LimitExceeded.2, ok_exc1 F sx_LimitExceeded rfl rfl G.x_LimitExceeded G.n_LimitExceeded_limit fun cdv A outer s H E => pss_one (ps_ostG (pv 0) (pv 1)), FunD.bindsN F fun _ _ _ _ _ _ us hl => match us, hl with | [_, _], _ => rfl⟩
/-! ### _law_is_order: slots items, value, rows, turn, at, begin, end, word, key, number, later -/
abbrev st__law_is_order : Stmt := top 23
def N__law_is_order : List Str := ["items", "value", "rows", "turn", "at", "begin", "end", "word", "key", "number", "later"]
theorem sc__law_is_order : FnScope N__law_is_order ["items", "value"] (defScope st__law_is_order) := ⟨rfl, rfl, rfl, by decide +kernel, rfl, by decide +kernel, by decide +kernel⟩
def m__law_is_order : SM :=
  (sSeq (sIf (tOr' (tNot' (tTru (eFn (fIsi isT isBT) (aCons (eVar 1) (aCons (eC (.ty "list")) aNil))))) (tVal (eBin (cEq true) (eLc (iAny T (eVar 1)) (gNm 4) (tOr' (tNot' (tTru (eFn (fIsi isT isBT) (aCons (eVar 4) (aCons (eC (.ty "int")) aNil))))) (tTru (eFn (fIsi isT isBT) (aCons (eVar 4) (aCons (eC (.ty "bool")) aNil))))) (eVar 4) [4]) (eLst aNil)))) (sRet (eC (.bl false))) sNil)
  (sSeq (sIf (tVal (eBin (cEq true) (eFn (fSorted T) (aCons (eVar 1) aNil)) (eLrg (aCons (eFn (fLen T) (aCons (eVar 0) aNil)) aNil)))) (sRet (eC (.bl false))) sNil)
  (sSeq (sAsg eDnew (gNm 2))
  (sSeq (sFor (iEn (aCons (eVar 1) aNil)) (gTp 2 (gsCons (gNm 3) (gsCons (gNm 4) gsNil))) (sSeq (sAsg (eBin (ixM T) (eVar 0) (eVar 4)) (gTp 5 (gsCons (gNm 5) (gsCons (gNm 6) (gsCons (gNm 7) (gsCons (gNm 8) (gsCons (gNm 9) gsNil)))))))
  (sSeq (sIf (tVal (eBin (cEq true) (eLc (iAny T (eSl (slM T) (eVar 1) (oSome (eVar 3)) oNone)) (gNm 10) (tVal (eBin cLt (eBin (ixM T) (eBin (ixM T) (eVar 0) (eVar 10)) (eC (.int 1))) (eVar 5))) (eVar 10) [10]) (eLst aNil))) (sRet (eC (.bl false))) sNil)
  (sSeq (sIf (tAnd' (tVal (eBin (cEq true) (eVar 7) (eC (.str "put")))) (tVal (eBin (cEq true) (eDgt1 (eVar 2) (eVar 8)) (eVar 9)))) (sRet (eC (.bl false))) sNil)
  (sSeq (sIf (tVal (eBin (cEq false) (eVar 7) (eC (.str "put")))) (sDput (eVar 2) (eVar 8) (eVar 9)) sNil)
  (sIf (tVal (eBin (cEq false) (eVar 7) (eC (.str "delete")))) (sExpr (eDpop2 (eVar 2) (eVar 8) (eC .non))) sNil))))))
  (sRet (eC (.bl true)))))))
def F__law_is_order : List Val → M Val := fnM 11 m__law_is_order
theorem can__law_is_order (G : Facts P w K mg base) : Can P w K mg base 1 2 (He.fAd K ("_law_is_order", none)) [] F__law_is_order := by
  obtain ⟨fd, F⟩ := G.f__law_is_order
  refine can_of (ps := ["items", "value"]) F (FunD.bindsN F fun _ _ _ _ _ _ us hl => match us, hl with | [_, _], _ => rfl) sc__law_is_order fun cdv A outer s H E hr => ?_
  unfold m__law_is_order
  exact (ss_cons (s_if (sw_or (st_not (st_tru (se_fn (fIsi_ok G.hI) G.n_isinstance bt_isinstance (sa_cons (se_v (pv 1)) (sa_cons (se_type G.n_list bt_list) sa_nil))))) (sw_or1 (st_cmp (op_ne_m (hu64 hr)) (se_lc rfl sc__law_is_order.nd (si_any G.hT (se_v (pv 1))) (own := [("at", 4)]) (show BlkOk N__law_is_order (defScope (top 23)) _ _ from ⟨rfl, by decide +kernel, by decide +kernel, by decide +kernel, by decide +kernel⟩) (go_name (by decide)) gk_name (fun _ _ _ _ _ => (pg_name (i := 4) sc__law_is_order.nd rfl (by first | exact Or.inl rfl | exact Or.inr rfl))) (fun _ _ _ _ _ => (pts_one (sw_or (st_not (st_tru (se_fn (fIsi_ok G.hI) G.n_isinstance bt_isinstance (sa_cons (se_v (pv 4)) (sa_cons (se_type G.n_int bt_int) sa_nil))))) (sw_or1 (st_tru (se_fn (fIsi_ok G.hI) G.n_isinstance bt_isinstance (sa_cons (se_v (pv 4)) (sa_cons (se_type G.n_bool bt_bool) sa_nil)))))).pt)) (fun _ _ _ _ _ => (se_v (pv 4)))) (se_lst sa_nil)))).pt (ss_one (s_ret se_bl)) ss_nil)
  (ss_cons (s_if (st_cmp (op_ne_m (hu64 hr)) (se_fn (fSorted_ok G.hT) G.n_sorted bt_sorted (sa_cons (se_v (pv 1)) sa_nil)) (se_lrg1 rfl G.n_list G.n_range (se_fn (fLen_ok G.hT) G.n_len bt_len (sa_cons (se_v (pv 0)) sa_nil)))) (ss_one (s_ret se_bl)) ss_nil)
  (ss_cons (s_asg' (ps_set (i := 2) sc__law_is_order.nd rfl (by first | exact Or.inl rfl | exact Or.inr rfl) se_dnew))
  (ss_cons (s_for (passes_of rfl) rfl (si_enum G.n_enumerate (sa_cons (se_v (pv 1)) sa_nil)) (sg_tup (pg_tup rfl (sgs_cons (sg_name (pg_name (i := 3) sc__law_is_order.nd rfl (by first | exact Or.inl rfl | exact Or.inr rfl))) (sgs_cons (sg_name (pg_name (i := 4) sc__law_is_order.nd rfl (by first | exact Or.inl rfl | exact Or.inr rfl))) sgs_nil gs_nil_ok) (gs_name_ok gs_nil_ok)))) (ss_cons (s_asg (se_ix (ix_m G.hT) (se_v (pv 0)) (se_v (pv 4))) (sg_tup (pg_tup rfl (sgs_cons (sg_name (pg_name (i := 5) sc__law_is_order.nd rfl (by first | exact Or.inl rfl | exact Or.inr rfl))) (sgs_cons (sg_name (pg_name (i := 6) sc__law_is_order.nd rfl (by first | exact Or.inl rfl | exact Or.inr rfl))) (sgs_cons (sg_name (pg_name (i := 7) sc__law_is_order.nd rfl (by first | exact Or.inl rfl | exact Or.inr rfl))) (sgs_cons (sg_name (pg_name (i := 8) sc__law_is_order.nd rfl (by first | exact Or.inl rfl | exact Or.inr rfl))) (sgs_cons (sg_name (pg_name (i := 9) sc__law_is_order.nd rfl (by first | exact Or.inl rfl | exact Or.inr rfl))) sgs_nil gs_nil_ok) (gs_name_ok gs_nil_ok)) (gs_name_ok (gs_name_ok gs_nil_ok))) (gs_name_ok (gs_name_ok (gs_name_ok gs_nil_ok)))) (gs_name_ok (gs_name_ok (gs_name_ok (gs_name_ok gs_nil_ok))))))))
  (ss_cons (s_if (st_cmp (op_ne_m (hu64 hr)) (se_lc rfl sc__law_is_order.nd (si_any G.hT (se_sl (sl_m G.hT) (se_v (pv 1)) (so_some (se_v (pv 3))) so_none)) (own := [("later", 10)]) (show BlkOk N__law_is_order (defScope (top 23)) _ _ from ⟨rfl, by decide +kernel, by decide +kernel, by decide +kernel, by decide +kernel⟩) (go_name (by decide)) gk_name (fun _ _ _ _ _ => (pg_name (i := 10) sc__law_is_order.nd rfl (by first | exact Or.inl rfl | exact Or.inr rfl))) (fun _ _ _ _ _ => (pts_one (st_cmp op_lt_m (se_ix (ix_m G.hT) (se_ix (ix_m G.hT) (se_v (pv 0)) (se_v (pv 10))) se_int) (se_v (pv 5))))) (fun _ _ _ _ _ => (se_v (pv 10)))) (se_lst sa_nil)) (ss_one (s_ret se_bl)) ss_nil)
  (ss_cons (s_if (sw_and (st_cmp (op_ne_m (hu64 hr)) (se_v (pv 7)) se_str) (sw_and1 (st_cmp (op_ne_m (hu64 hr)) (se_dgt1 (pe_dget1 (hu1 hr) (se_v (pv 2)) (se_v (pv 8)) ⟨rfl, rfl, rfl, rfl⟩)) (se_v (pv 9))))).pt (ss_one (s_ret se_bl)) ss_nil)
  (ss_cons (s_if (st_cmp (op_eq_m (hu64 hr)) (se_v (pv 7)) se_str) (ss_one (s_dput (ps_dput (hu1 hr) (se_v (pv 2)) (se_v (pv 8)) (se_v (pv 9)) rfl))) ss_nil)
  (ss_one (s_if (st_cmp (op_eq_m (hu64 hr)) (se_v (pv 7)) se_str) (ss_one (s_expr (se_dpop2 (pe_dpop2 (se_v (pv 2)) (se_v (pv 8)) se_non ⟨rfl, rfl, rfl, rfl⟩)))) ss_nil)))))))
  (ss_one (s_ret se_bl))))))
/-! ### is_integer: slots value -/
abbrev st_is_integer : Stmt := top 6
def N_is_integer : List Str := ["value"]
theorem sc_is_integer : FnScope N_is_integer ["value"] (defScope st_is_integer) := ⟨rfl, rfl, rfl, by decide +kernel, rfl, by decide +kernel, by decide +kernel⟩
def m_is_integer : SM :=
  (sRet (eAnd (eFn (fIsi isT isBT) (aCons (eVar 0) (aCons (eC (.ty "int")) aNil))) (eNot (eFn (fIsi isT isBT) (aCons (eVar 0) (aCons (eC (.ty "bool")) aNil))))))
def F_is_integer : List Val → M Val := fnM 1 m_is_integer
theorem can_is_integer (G : Facts P w K mg base) : Can P w K mg base 1 1 (He.fAd K ("is_integer", none)) [] F_is_integer := by
  obtain ⟨fd, F⟩ := G.f_is_integer
  refine can_of (ps := ["value"]) F (FunD.bindsN F fun _ _ _ _ _ _ us hl => match us, hl with | [_], _ => rfl) sc_is_integer fun cdv A outer s H E hr => ?_
  unfold m_is_integer
  exact (ss_one (s_ret (se_and (se_fn (fIsi_ok G.hI) G.n_isinstance bt_isinstance (sa_cons (se_v (pv 0)) (sa_cons (se_type G.n_int bt_int) sa_nil))) (se_and1 (se_not (se_fn (fIsi_ok G.hI) G.n_isinstance bt_isinstance (sa_cons (se_v (pv 0)) (sa_cons (se_type G.n_bool bt_bool) sa_nil))))))))
/-! ### is_key: slots value, sign -/
abbrev st_is_key : Stmt := top 7
def N_is_key : List Str := ["value", "sign"]
theorem sc_is_key : FnScope N_is_key ["value"] (defScope st_is_key) := ⟨rfl, rfl, rfl, by decide +kernel, rfl, by decide +kernel, by decide +kernel⟩
def m_is_key : SM :=
  (sSeq (sIf (tOr' (tNot' (tTru (eFn (fIsi isT isBT) (aCons (eVar 0) (aCons (eC (.ty "str")) aNil))))) (tNot' (tVal (eChain cLe cLe (eC (.int 1)) (eFn (fLen T) (aCons (eVar 0) aNil)) (eC (.int 20)))))) (sRet (eC (.bl false))) sNil)
  (sRet (eFn (fAny fun f ds => ds.all f) (aCons (eLc (iAny T (eVar 0)) (gNm 1) tYes' (eBin (cIn T false) (eVar 1) (eC (.str "abcdefghijklmnopqrstuvwxyz0123456789"))) [1]) aNil))))
def F_is_key : List Val → M Val := fnM 2 m_is_key
theorem can_is_key (G : Facts P w K mg base) : Can P w K mg base 1 1 (He.fAd K ("is_key", none)) [] F_is_key := by
  obtain ⟨fd, F⟩ := G.f_is_key
  refine can_of (ps := ["value"]) F (FunD.bindsN F fun _ _ _ _ _ _ us hl => match us, hl with | [_], _ => rfl) sc_is_key fun cdv A outer s H E hr => ?_
  unfold m_is_key
  exact (ss_cons (s_if (sw_or (st_not (st_tru (se_fn (fIsi_ok G.hI) G.n_isinstance bt_isinstance (sa_cons (se_v (pv 0)) (sa_cons (se_type G.n_str bt_str) sa_nil))))) (sw_or1 (st_not (st_chain op_le_m op_le_m se_int (se_fn (fLen_ok G.hT) G.n_len bt_len (sa_cons (se_v (pv 0)) sa_nil)) (se_glob (G.v_MAX_LENGTH _ rfl rfl)))))).pt (ss_one (s_ret se_bl)) ss_nil)
  (ss_one (s_ret (se_fn (fAll_ok rfl) G.n_all bt_all (sa_cons (se_lc rfl sc_is_key.nd (si_any G.hT (se_v (pv 0))) (own := [("sign", 1)]) (show BlkOk N_is_key (defScope (top 7)) _ _ from ⟨rfl, by decide +kernel, by decide +kernel, by decide +kernel, by decide +kernel⟩) (go_name (by decide)) gk_name (fun _ _ _ _ _ => (pg_name (i := 1) sc_is_key.nd rfl (by first | exact Or.inl rfl | exact Or.inr rfl))) (fun _ _ _ _ _ => st_yes) (fun _ _ _ _ _ => (se_cmp (op_in_m G.hT (hu65 hr)) (se_v (pv 1)) (se_glob (G.v_CHARACTERS _ rfl rfl))))) sa_nil)))))
/-! ### is_operation: slots value, begin, end, word, key, number -/
abbrev st_is_operation : Stmt := top 11
def N_is_operation : List Str := ["value", "begin", "end", "word", "key", "number"]
theorem sc_is_operation : FnScope N_is_operation ["value"] (defScope st_is_operation) := ⟨rfl, rfl, rfl, by decide +kernel, rfl, by decide +kernel, by decide +kernel⟩
def m_is_operation : SM :=
  (sSeq (sIf (tOr' (tNot' (tTru (eFn (fIsi isT isBT) (aCons (eVar 0) (aCons (eC (.ty "tuple")) aNil))))) (tOr' (tVal (eBin (cEq true) (eFn (fLen T) (aCons (eVar 0) aNil)) (eC (.int 5)))) (tOr' (tNot' (tTru (eCall 1 [] (F_is_integer) (aCons (eBin (ixM T) (eVar 0) (eC (.int 0))) aNil)))) (tNot' (tTru (eCall 1 [] (F_is_integer) (aCons (eBin (ixM T) (eVar 0) (eC (.int 1))) aNil))))))) (sRet (eC (.bl false))) sNil)
  (sSeq (sAsg (eVar 0) (gTp 5 (gsCons (gNm 1) (gsCons (gNm 2) (gsCons (gNm 3) (gsCons (gNm 4) (gsCons (gNm 5) gsNil)))))))
  (sSeq (sIf (tOr' (tVal (eBin cGe (eVar 1) (eVar 2))) (tOr' (tNot' (tTru (eFn (fIsi isT isBT) (aCons (eVar 3) (aCons (eC (.ty "str")) aNil))))) (tOr' (tVal (eBin (cIn T true) (eVar 3) (eC (.glo "WORDS")))) (tNot' (tTru (eCall 1 [] (F_is_key) (aCons (eVar 4) aNil))))))) (sRet (eC (.bl false))) sNil)
  (sRet (eOr (eCall 1 [] (F_is_integer) (aCons (eVar 5) aNil)) (eAnd (eBin (cIs false) (eVar 5) (eC .non)) (eBin (cEq true) (eVar 3) (eC (.str "put")))))))))
def F_is_operation : List Val → M Val := fnM 6 m_is_operation
theorem can_is_operation (G : Facts P w K mg base) : Can P w K mg base 2 1 (He.fAd K ("is_operation", none)) [] F_is_operation := by
  obtain ⟨fd, F⟩ := G.f_is_operation
  refine can_of (ps := ["value"]) F (FunD.bindsN F fun _ _ _ _ _ _ us hl => match us, hl with | [_], _ => rfl) sc_is_operation fun cdv A outer s H E hr => ?_
  unfold m_is_operation
  exact (ss_cons (s_if (sw_or (st_not (st_tru (se_fn (fIsi_ok G.hI) G.n_isinstance bt_isinstance (sa_cons (se_v (pv 0)) (sa_cons (se_type G.n_tuple bt_tuple) sa_nil))))) (sw_or (st_cmp (op_ne_m (hu64 hr)) (se_fn (fLen_ok G.hT) G.n_len bt_len (sa_cons (se_v (pv 0)) sa_nil)) se_int) (sw_or (st_not (st_tru (se_call (can_is_integer G) (hr.mono (by first | decide | omega)) (takes_of rfl rfl rfl rfl) G.g_is_integer (sa_cons (se_ix (ix_m G.hT) (se_v (pv 0)) se_int) sa_nil)))) (sw_or1 (st_not (st_tru (se_call (can_is_integer G) (hr.mono (by first | decide | omega)) (takes_of rfl rfl rfl rfl) G.g_is_integer (sa_cons (se_ix (ix_m G.hT) (se_v (pv 0)) se_int) sa_nil)))))))).pt (ss_one (s_ret se_bl)) ss_nil)
  (ss_cons (s_asg (se_v (pv 0)) (sg_tup (pg_tup rfl (sgs_cons (sg_name (pg_name (i := 1) sc_is_operation.nd rfl (by first | exact Or.inl rfl | exact Or.inr rfl))) (sgs_cons (sg_name (pg_name (i := 2) sc_is_operation.nd rfl (by first | exact Or.inl rfl | exact Or.inr rfl))) (sgs_cons (sg_name (pg_name (i := 3) sc_is_operation.nd rfl (by first | exact Or.inl rfl | exact Or.inr rfl))) (sgs_cons (sg_name (pg_name (i := 4) sc_is_operation.nd rfl (by first | exact Or.inl rfl | exact Or.inr rfl))) (sgs_cons (sg_name (pg_name (i := 5) sc_is_operation.nd rfl (by first | exact Or.inl rfl | exact Or.inr rfl))) sgs_nil gs_nil_ok) (gs_name_ok gs_nil_ok)) (gs_name_ok (gs_name_ok gs_nil_ok))) (gs_name_ok (gs_name_ok (gs_name_ok gs_nil_ok)))) (gs_name_ok (gs_name_ok (gs_name_ok (gs_name_ok gs_nil_ok))))))))
  (ss_cons (s_if (sw_or (st_cmp op_ge_m (se_v (pv 1)) (se_v (pv 2))) (sw_or (st_not (st_tru (se_fn (fIsi_ok G.hI) G.n_isinstance bt_isinstance (sa_cons (se_v (pv 3)) (sa_cons (se_type G.n_str bt_str) sa_nil))))) (sw_or (st_cmp (op_notIn_m G.hT (hu65 hr)) (se_v (pv 3)) (se_glob (G.v_WORDS _ rfl rfl))) (sw_or1 (st_not (st_tru (se_call (can_is_key G) (hr.mono (by first | decide | omega)) (takes_of rfl rfl rfl rfl) G.g_is_key (sa_cons (se_v (pv 4)) sa_nil)))))))).pt (ss_one (s_ret se_bl)) ss_nil)
  (ss_one (s_ret (se_or (se_call (can_is_integer G) (hr.mono (by first | decide | omega)) (takes_of rfl rfl rfl rfl) G.g_is_integer (sa_cons (se_v (pv 5)) sa_nil)) (se_and1 (se_and (se_cmp op_is_m (se_v (pv 5)) se_non) (se_and1 (se_cmp (op_ne_m (hu64 hr)) (se_v (pv 3)) se_str))))))))))
/-! ### check_operations: slots value, position, operation -/
abbrev st_check_operations : Stmt := top 12
def N_check_operations : List Str := ["value", "position", "operation"]
theorem sc_check_operations : FnScope N_check_operations ["value"] (defScope st_check_operations) := ⟨rfl, rfl, rfl, by decide +kernel, rfl, by decide +kernel, by decide +kernel⟩
def m_check_operations : SM :=
  (sSeq (sIf (tNot' (tTru (eFn (fIsi isT isBT) (aCons (eVar 0) (aCons (eC (.ty "list")) aNil))))) (sRaise "InvalidOperations" ["position"] (aCons (eC .non) aNil)) sNil)
  (sFor (iEn (aCons (eVar 0) aNil)) (gTp 2 (gsCons (gNm 1) (gsCons (gNm 2) gsNil))) (sIf (tNot' (tTru (eCall 1 [] (F_is_operation) (aCons (eVar 2) aNil)))) (sRaise "InvalidOperations" ["position"] (aCons (eVar 1) aNil)) sNil)))
def F_check_operations : List Val → M Val := fnM 3 m_check_operations
theorem can_check_operations (G : Facts P w K mg base) : Can P w K mg base 3 1 (He.fAd K ("check_operations", none)) [] F_check_operations := by
  obtain ⟨fd, F⟩ := G.f_check_operations
  refine can_of (ps := ["value"]) F (FunD.bindsN F fun _ _ _ _ _ _ us hl => match us, hl with | [_], _ => rfl) sc_check_operations fun cdv A outer s H E hr => ?_
  unfold m_check_operations
  exact (ss_cons (s_if (st_not (st_tru (se_fn (fIsi_ok G.hI) G.n_isinstance bt_isinstance (sa_cons (se_v (pv 0)) (sa_cons (se_type G.n_list bt_list) sa_nil))))) (ss_one (s_raise rfl (takes_of rfl rfl rfl rfl) (canx_InvalidOperations G) (hr.mono (by first | decide | omega)) (sa_cons se_non sa_nil))) ss_nil)
  (ss_one (s_for (passes_of rfl) rfl (si_enum G.n_enumerate (sa_cons (se_v (pv 0)) sa_nil)) (sg_tup (pg_tup rfl (sgs_cons (sg_name (pg_name (i := 1) sc_check_operations.nd rfl (by first | exact Or.inl rfl | exact Or.inr rfl))) (sgs_cons (sg_name (pg_name (i := 2) sc_check_operations.nd rfl (by first | exact Or.inl rfl | exact Or.inr rfl))) sgs_nil gs_nil_ok) (gs_name_ok gs_nil_ok)))) (ss_one (s_if (st_not (st_tru (se_call (can_is_operation G) (hr.mono (by first | decide | omega)) (takes_of rfl rfl rfl rfl) G.g_is_operation (sa_cons (se_v (pv 2)) sa_nil)))) (ss_one (s_raise rfl (takes_of rfl rfl rfl rfl) (canx_InvalidOperations G) (hr.mono (by first | decide | omega)) (sa_cons (se_v (pv 1)) sa_nil))) ss_nil)))))
/-! ### merged: slots operations, orders, found, left, first, order, at, one -/
abbrev st_merged : Stmt := top 15
def N_merged : List Str := ["operations", "orders", "found", "left", "first", "order", "at", "one"]
theorem sc_merged : FnScope N_merged ["operations", "orders"] (defScope st_merged) := ⟨rfl, rfl, rfl, by decide +kernel, rfl, by decide +kernel, by decide +kernel⟩
def m_merged : SM :=
  (sSeq (sPar 2 3 (aCons (eLst aNil) (aCons (eLc (iAny T (eVar 1)) (gNm 5) tYes' (eFn (fList T) (aCons (eVar 5) aNil)) [5]) aNil)))
  (sSeq (sWhile (tTru (eFn (fAny fun f ds => ds.any f) (aCons (eVar 3) aNil))) (sSeq (sAsg (eFn (fMin T) (aCons (eLc2 (iAny T (eVar 3)) (gNm 5) tYes' (iAny T (eVar 5)) (gNm 6) tYes' (eBin (ixM T) (eBin (ixM T) (eVar 0) (eVar 6)) (eC (.int 1))) [5, 6] [6]) aNil)) (gNm 4))
  (sSeq (sAsg (eBin (ixM T) (eLc (iAny T (eVar 3)) (gNm 7) (tAnd' (tVal (eBin (cEq true) (eVar 7) (eLst aNil))) (tVal (eBin cLe (eBin (ixM T) (eBin (ixM T) (eVar 0) (eBin (ixM T) (eVar 7) (eC (.int 0)))) (eC (.int 0))) (eVar 4)))) (eVar 7) [7]) (eC (.int 0))) (gNm 5))
  (sExpr (eLm lmAppend (eVar 2) (aCons (eLm lmPopAt (eVar 5) (aCons (eC (.int 0)) aNil)) aNil))))))
  (sRet (eVar 2))))
def F_merged : List Val → M Val := fnM 8 m_merged
theorem can_merged (G : Facts P w K mg base) : Can P w K mg base 1 2 (He.fAd K ("merged", none)) [] F_merged := by
  obtain ⟨fd, F⟩ := G.f_merged
  refine can_of (ps := ["operations", "orders"]) F (FunD.bindsN F fun _ _ _ _ _ _ us hl => match us, hl with | [_, _], _ => rfl) sc_merged fun cdv A outer s H E hr => ?_
  unfold m_merged
  exact (ss_cons (s_par (ps_par (i := 2) (j := 3) rfl sc_merged.nd rfl rfl (by decide) rfl rfl (sa_cons (se_lst sa_nil) (sa_cons (se_lc rfl sc_merged.nd (si_any G.hT (se_v (pv 1))) (own := [("order", 5)]) (show BlkOk N_merged (defScope (top 15)) _ _ from ⟨rfl, by decide +kernel, by decide +kernel, by decide +kernel, by decide +kernel⟩) (go_name (by decide)) gk_name (fun _ _ _ _ _ => (pg_name (i := 5) sc_merged.nd rfl (by first | exact Or.inl rfl | exact Or.inr rfl))) (fun _ _ _ _ _ => st_yes) (fun _ _ _ _ _ => (se_fnT (fList_ok G.hT) G.n_list bt_list (sa_cons (se_v (pv 5)) sa_nil)))) sa_nil)) rfl))
  (ss_cons (s_while (passes_of rfl) (st_tru (se_fn (fAny_ok rfl) G.n_any bt_any (sa_cons (se_v (pv 3)) sa_nil))) (ss_cons (s_asg' (ps_set (i := 4) sc_merged.nd rfl (by first | exact Or.inl rfl | exact Or.inr rfl) (se_fn (fMin_ok G.hT rfl) G.n_min bt_min (sa_cons (se_lc2 rfl sc_merged.nd (si_any G.hT (se_v (pv 3))) (own := [("order", 5), ("at", 6)]) (vs1 := [6]) (show BlkOk N_merged (defScope (top 15)) _ _ from ⟨rfl, by decide +kernel, by decide +kernel, by decide +kernel, by decide +kernel⟩) (by decide) (go_name (by decide)) gk_name (go_name (by decide)) gk_name (fun _ _ _ _ _ => (pg_name (i := 5) sc_merged.nd rfl (by first | exact Or.inl rfl | exact Or.inr rfl))) (fun _ _ _ _ _ => st_yes) (fun _ _ _ _ _ => (si_any G.hT (se_v (pv 5)))) (fun _ _ _ _ _ => (pg_name (i := 6) sc_merged.nd rfl (by first | exact Or.inl rfl | exact Or.inr rfl))) (fun _ _ _ _ _ => st_yes) (fun _ _ _ _ _ => (se_ix (ix_m G.hT) (se_ix (ix_m G.hT) (se_v (pv 0)) (se_v (pv 6))) se_int))) sa_nil))))
  (ss_cons (s_asg' (ps_set (i := 5) sc_merged.nd rfl (by first | exact Or.inl rfl | exact Or.inr rfl) (se_ix (ix_m G.hT) (se_lc rfl sc_merged.nd (si_any G.hT (se_v (pv 3))) (own := [("one", 7)]) (show BlkOk N_merged (defScope (top 15)) _ _ from ⟨rfl, by decide +kernel, by decide +kernel, by decide +kernel, by decide +kernel⟩) (go_name (by decide)) gk_name (fun _ _ _ _ _ => (pg_name (i := 7) sc_merged.nd rfl (by first | exact Or.inl rfl | exact Or.inr rfl))) (fun _ _ _ _ _ => (pts_one (sw_and (st_cmp (op_ne_m (hu64 hr)) (se_v (pv 7)) (se_lst sa_nil)) (sw_and1 (st_cmp op_le_m (se_ix (ix_m G.hT) (se_ix (ix_m G.hT) (se_v (pv 0)) (se_ix (ix_m G.hT) (se_v (pv 7)) se_int)) se_int) (se_v (pv 4))))).pt)) (fun _ _ _ _ _ => (se_v (pv 7)))) se_int)))
  (ss_one (s_expr (se_append (se_v (pv 2)) (sa_cons (se_popAt (se_v (pv 5)) (sa_cons se_int sa_nil)) sa_nil)))))))
  (ss_one (s_ret (se_v (pv 2))))))
/-! ### value_behind: slots operation, value, word, number -/
abbrev st_value_behind : Stmt := top 13
def N_value_behind : List Str := ["operation", "value", "word", "number"]
theorem sc_value_behind : FnScope N_value_behind ["operation", "value"] (defScope st_value_behind) := ⟨rfl, rfl, rfl, by decide +kernel, rfl, by decide +kernel, by decide +kernel⟩
def m_value_behind : SM :=
  (sSeq (sPar 2 3 (aCons (eBin (ixM T) (eVar 0) (eC (.int 2))) (aCons (eBin (ixM T) (eVar 0) (eC (.int 4))) aNil)))
  (sSeq (sIf (tVal (eBin (cEq false) (eVar 2) (eC (.str "put")))) (sRet (eTup (aCons (eC (.bl true)) (aCons (eVar 3) aNil)))) sNil)
  (sRet (eTup (aCons (eBin (cEq false) (eVar 3) (eVar 1)) (aCons (eIf (tVal (eBin (cEq false) (eVar 2) (eC (.str "delete")))) (eC .non) (eVar 1)) aNil))))))
def F_value_behind : List Val → M Val := fnM 4 m_value_behind
theorem can_value_behind (G : Facts P w K mg base) : Can P w K mg base 1 2 (He.fAd K ("value_behind", none)) [] F_value_behind := by
  obtain ⟨fd, F⟩ := G.f_value_behind
  refine can_of (ps := ["operation", "value"]) F (FunD.bindsN F fun _ _ _ _ _ _ us hl => match us, hl with | [_, _], _ => rfl) sc_value_behind fun cdv A outer s H E hr => ?_
  unfold m_value_behind
  exact (ss_cons (s_par (ps_par (i := 2) (j := 3) rfl sc_value_behind.nd rfl rfl (by decide) rfl rfl (sa_cons (se_ix (ix_m G.hT) (se_v (pv 0)) se_int) (sa_cons (se_ix (ix_m G.hT) (se_v (pv 0)) se_int) sa_nil)) rfl))
  (ss_cons (s_if (st_cmp (op_eq_m (hu64 hr)) (se_v (pv 2)) se_str) (ss_one (s_ret (se_tup (sa_cons se_bl (sa_cons (se_v (pv 3)) sa_nil))))) ss_nil)
  (ss_one (s_ret (se_tup (sa_cons (se_cmp (op_eq_m (hu64 hr)) (se_v (pv 3)) (se_v (pv 1))) (sa_cons (se_if (st_cmp (op_eq_m (hu64 hr)) (se_v (pv 2)) se_str) se_non (se_v (pv 1))) sa_nil)))))))
/-! ### order_of_key: slots operations, indexes, waiting, seen, order, value, key, left, first, at, is_right, later -/
abbrev st_order_of_key : Stmt := top 14
def N_order_of_key : List Str := ["operations", "indexes", "waiting", "seen", "order", "value", "key", "left", "first", "at", "is_right", "later"]
theorem sc_order_of_key : FnScope N_order_of_key ["operations", "indexes"] (defScope st_order_of_key) := ⟨rfl, rfl, rfl, by decide +kernel, rfl, by decide +kernel, by decide +kernel⟩
def m_order_of_key : SM :=
  (sSeq (sPar 2 3 (aCons (eLst (aCons (eTup (aCons (eLst aNil) (aCons (eC .non) aNil))) aNil)) (aCons eNnew aNil)))
  (sSeq (sWhile (tVal (eBin (cEq true) (eVar 2) (eLst aNil))) (sSeq (sAsg (eLm lmPop (eVar 2) aNil) (gTp 2 (gsCons (gNm 4) (gsCons (gNm 5) gsNil))))
  (sSeq (sIf (tVal (eBin (cEq false) (eFn (fLen T) (aCons (eVar 4) aNil)) (eFn (fLen T) (aCons (eVar 1) aNil)))) (sRet (eVar 4)) sNil)
  (sSeq (sAsg (eTup (aCons (eFn (fTuple T) (aCons (eFn (fSorted T) (aCons (eVar 4) aNil)) aNil)) (aCons (eVar 5) aNil))) (gNm 6))
  (sIf (tVal (eBin (cNin true) (eVar 6) (eVar 3))) (sSeq (sNput (eVar 3) (eVar 6) (eC (.bl true)))
  (sSeq (sAsg (eLc (iAny T (eVar 1)) (gNm 9) (tVal (eBin (cIn T true) (eVar 9) (eVar 4))) (eVar 9) [9]) (gNm 7))
  (sSeq (sAsg (eFn (fMin T) (aCons (eLc (iAny T (eVar 7)) (gNm 9) tYes' (eBin (ixM T) (eBin (ixM T) (eVar 0) (eVar 9)) (eC (.int 1))) [9]) aNil)) (gNm 8))
  (sFor (iAny T (eRev T (eVar 7))) (gNm 9) (sSeq (sAsg (eCall 2 [] (F_value_behind) (aCons (eBin (ixM T) (eVar 0) (eVar 9)) (aCons (eVar 5) aNil))) (gTp 2 (gsCons (gNm 10) (gsCons (gNm 11) gsNil))))
  (sIf (tAnd' (tTru (eVar 10)) (tVal (eBin cLe (eBin (ixM T) (eBin (ixM T) (eVar 0) (eVar 9)) (eC (.int 0))) (eVar 8)))) (sExpr (eLm lmAppend (eVar 2) (aCons (eTup (aCons (eBin (bAdd T) (eVar 4) (eLst (aCons (eVar 9) aNil))) (aCons (eVar 11) aNil))) aNil))) sNil)))))) sNil)))))
  (sRet (eC .non))))
def F_order_of_key : List Val → M Val := fnM 12 m_order_of_key
theorem can_order_of_key (G : Facts P w K mg base) : Can P w K mg base 2 2 (He.fAd K ("order_of_key", none)) [] F_order_of_key := by
  obtain ⟨fd, F⟩ := G.f_order_of_key
  refine can_of (ps := ["operations", "indexes"]) F (FunD.bindsN F fun _ _ _ _ _ _ us hl => match us, hl with | [_, _], _ => rfl) sc_order_of_key fun cdv A outer s H E hr => ?_
  unfold m_order_of_key
  exact (ss_cons (s_par (ps_par (i := 2) (j := 3) rfl sc_order_of_key.nd rfl rfl (by decide) rfl rfl (sa_cons (se_lst (sa_cons (se_tup (sa_cons (se_lst sa_nil) (sa_cons se_non sa_nil))) sa_nil)) (sa_cons se_nnew sa_nil)) rfl))
  (ss_cons (s_while (passes_of rfl) (st_cmp (op_ne_m (hu64 hr)) (se_v (pv 2)) (se_lst sa_nil)) (ss_cons (s_asg (se_pop (se_v (pv 2))) (sg_tup (pg_tup rfl (sgs_cons (sg_name (pg_name (i := 4) sc_order_of_key.nd rfl (by first | exact Or.inl rfl | exact Or.inr rfl))) (sgs_cons (sg_name (pg_name (i := 5) sc_order_of_key.nd rfl (by first | exact Or.inl rfl | exact Or.inr rfl))) sgs_nil gs_nil_ok) (gs_name_ok gs_nil_ok)))))
  (ss_cons (s_if (st_cmp (op_eq_m (hu64 hr)) (se_fn (fLen_ok G.hT) G.n_len bt_len (sa_cons (se_v (pv 4)) sa_nil)) (se_fn (fLen_ok G.hT) G.n_len bt_len (sa_cons (se_v (pv 1)) sa_nil))) (ss_one (s_ret (se_v (pv 4)))) ss_nil)
  (ss_cons (s_asg' (ps_set (i := 6) sc_order_of_key.nd rfl (by first | exact Or.inl rfl | exact Or.inr rfl) (se_tup (sa_cons (se_fnT (fTuple_ok G.hT) G.n_tuple bt_tuple (sa_cons (se_fn (fSorted_ok G.hT) G.n_sorted bt_sorted (sa_cons (se_v (pv 4)) sa_nil)) sa_nil)) (sa_cons (se_v (pv 5)) sa_nil)))))
  (ss_one (s_if (st_cmp (op_nnotin_m (hu9 hr)) (se_v (pv 6)) (se_v (pv 3))) (ss_cons (s_nput (hu9 hr) (se_v (pv 3)) (se_v (pv 6)) se_bl)
  (ss_cons (by first | exact (s_setLc (i := 7) rfl sc_order_of_key.nd rfl rfl rfl (si_any G.hT (se_v (pv 1))) (own := [("at", 9)]) (show BlkOk N_order_of_key (defScope (top 14)) _ _ from ⟨rfl, by decide +kernel, by decide +kernel, by decide +kernel, by decide +kernel⟩) (go_name (by decide)) gk_name (fun _ _ _ _ _ => (pg_name (i := 9) sc_order_of_key.nd rfl (by first | exact Or.inl rfl | exact Or.inr rfl))) (fun _ _ _ _ _ => (pts_one (st_cmp (op_notIn_m G.hT (hu65 hr)) (se_v (pv 9)) (se_v (pv 4))))) (fun _ _ _ _ _ => (se_v (pv 9)))) | exact (s_asg' (ps_set (i := 7) sc_order_of_key.nd rfl (by first | exact Or.inl rfl | exact Or.inr rfl) (se_lc rfl sc_order_of_key.nd (si_any G.hT (se_v (pv 1))) (own := [("at", 9)]) (show BlkOk N_order_of_key (defScope (top 14)) _ _ from ⟨rfl, by decide +kernel, by decide +kernel, by decide +kernel, by decide +kernel⟩) (go_name (by decide)) gk_name (fun _ _ _ _ _ => (pg_name (i := 9) sc_order_of_key.nd rfl (by first | exact Or.inl rfl | exact Or.inr rfl))) (fun _ _ _ _ _ => (pts_one (st_cmp (op_notIn_m G.hT (hu65 hr)) (se_v (pv 9)) (se_v (pv 4))))) (fun _ _ _ _ _ => (se_v (pv 9)))))))
  (ss_cons (s_asg' (ps_set (i := 8) sc_order_of_key.nd rfl (by first | exact Or.inl rfl | exact Or.inr rfl) (se_fn (fMin_ok G.hT rfl) G.n_min bt_min (sa_cons (se_lc rfl sc_order_of_key.nd (si_any G.hT (se_v (pv 7))) (own := [("at", 9)]) (show BlkOk N_order_of_key (defScope (top 14)) _ _ from ⟨rfl, by decide +kernel, by decide +kernel, by decide +kernel, by decide +kernel⟩) (go_name (by decide)) gk_name (fun _ _ _ _ _ => (pg_name (i := 9) sc_order_of_key.nd rfl (by first | exact Or.inl rfl | exact Or.inr rfl))) (fun _ _ _ _ _ => st_yes) (fun _ _ _ _ _ => (se_ix (ix_m G.hT) (se_ix (ix_m G.hT) (se_v (pv 0)) (se_v (pv 9))) se_int))) sa_nil))))
  (ss_one (s_for (passes_of rfl) rfl (si_any G.hT (se_rev G.hT (se_v (pv 7)))) (sg_name (pg_name (i := 9) sc_order_of_key.nd rfl (by first | exact Or.inl rfl | exact Or.inr rfl))) (ss_cons (s_asg (se_call (can_value_behind G) (hr.mono (by first | decide | omega)) (takes_of rfl rfl rfl rfl) G.g_value_behind (sa_cons (se_ix (ix_m G.hT) (se_v (pv 0)) (se_v (pv 9))) (sa_cons (se_v (pv 5)) sa_nil))) (sg_tup (pg_tup rfl (sgs_cons (sg_name (pg_name (i := 10) sc_order_of_key.nd rfl (by first | exact Or.inl rfl | exact Or.inr rfl))) (sgs_cons (sg_name (pg_name (i := 11) sc_order_of_key.nd rfl (by first | exact Or.inl rfl | exact Or.inr rfl))) sgs_nil gs_nil_ok) (gs_name_ok gs_nil_ok)))))
  (ss_one (s_if (sw_and (st_tru (se_v (pv 10))) (sw_and1 (st_cmp op_le_m (se_ix (ix_m G.hT) (se_ix (ix_m G.hT) (se_v (pv 0)) (se_v (pv 9))) se_int) (se_v (pv 8))))).pt (ss_one (s_expr (se_append (se_v (pv 2)) (sa_cons (se_tup (sa_cons (se_bin (op_add_m T) (se_v (pv 4)) (se_lst (sa_cons (se_v (pv 9)) sa_nil))) (sa_cons (se_v (pv 11)) sa_nil))) sa_nil)))) ss_nil)))))))) ss_nil))))))
  (ss_one (s_ret se_non))))
/-! ### possible_order: slots operations, by_key, at, operation, orders, indexes, order -/
abbrev st_possible_order : Stmt := top 16
def N_possible_order : List Str := ["operations", "by_key", "at", "operation", "orders", "indexes", "order"]
theorem sc_possible_order : FnScope N_possible_order ["operations"] (defScope st_possible_order) := ⟨rfl, rfl, rfl, by decide +kernel, rfl, by decide +kernel, by decide +kernel⟩
def m_possible_order : SM :=
  (sSeq (sExpr (eCall 1 [] (F_check_operations) (aCons (eVar 0) aNil)))
  (sSeq (sAsg eDnew (gNm 1))
  (sSeq (sFor (iEn (aCons (eVar 0) aNil)) (gTp 2 (gsCons (gNm 2) (gsCons (gNm 3) gsNil))) (sExpr (eLm lmAppend (eDsetd (eVar 1) (eBin (ixM T) (eVar 3) (eC (.int 3))) (eLst aNil)) (aCons (eVar 2) aNil))))
  (sSeq (sIf (tTru (eFn (fAny fun f ds => ds.any f) (aCons (eLock (eVar 1) (eLc (iPt .vs (eVar 1)) (gNm 5) tYes' (eBin cGt (eFn (fLen T) (aCons (eVar 5) aNil)) (eC (.int 12))) [5])) aNil))) (sRaise "LimitExceeded" ["limit"] (aCons (eC (.int 12)) aNil)) sNil)
  (sSeq (sAsg (eLst aNil) (gNm 4))
  (sSeq (sLock (eVar 1) (sFor (iPt .vs (eVar 1)) (gNm 5) (sSeq (sAsg (eCall 2 [] (F_order_of_key) (aCons (eVar 0) (aCons (eVar 5) aNil))) (gNm 6))
  (sSeq (sIf (tVal (eBin (cIs false) (eVar 6) (eC .non))) (sRet (eC .non)) sNil)
  (sExpr (eLm lmAppend (eVar 4) (aCons (eVar 6) aNil)))))))
  (sRet (eCall 2 [] (F_merged) (aCons (eVar 0) (aCons (eVar 4) aNil))))))))))
def F_possible_order : List Val → M Val := fnM 7 m_possible_order
theorem can_possible_order (G : Facts P w K mg base) : Can P w K mg base 4 1 (He.fAd K ("possible_order", none)) [] F_possible_order := by
  obtain ⟨fd, F⟩ := G.f_possible_order
  refine can_of (ps := ["operations"]) F (FunD.bindsN F fun _ _ _ _ _ _ us hl => match us, hl with | [_], _ => rfl) sc_possible_order fun cdv A outer s H E hr => ?_
  unfold m_possible_order
  exact (ss_cons (s_expr (se_call (can_check_operations G) (hr.mono (by first | decide | omega)) (takes_of rfl rfl rfl rfl) G.g_check_operations (sa_cons (se_v (pv 0)) sa_nil)))
  (ss_cons (s_asg' (ps_set (i := 1) sc_possible_order.nd rfl (by first | exact Or.inl rfl | exact Or.inr rfl) se_dnew))
  (ss_cons (s_for (passes_of rfl) rfl (si_enum G.n_enumerate (sa_cons (se_v (pv 0)) sa_nil)) (sg_tup (pg_tup rfl (sgs_cons (sg_name (pg_name (i := 2) sc_possible_order.nd rfl (by first | exact Or.inl rfl | exact Or.inr rfl))) (sgs_cons (sg_name (pg_name (i := 3) sc_possible_order.nd rfl (by first | exact Or.inl rfl | exact Or.inr rfl))) sgs_nil gs_nil_ok) (gs_name_ok gs_nil_ok)))) (ss_one (s_expr (se_append (se_dsetd (pe_dsetd (se_v (pv 1)) (se_ix (ix_m G.hT) (se_v (pv 3)) se_int) (se_lst sa_nil) ⟨rfl, rfl, rfl, rfl⟩)) (sa_cons (se_v (pv 2)) sa_nil)))))
  (ss_cons (s_if (st_tru (se_fn (fAny_ok rfl) G.n_any bt_any (sa_cons (se_lock (se_lc rfl sc_possible_order.nd (si_values (se_v (pv 1))) (own := [("indexes", 5)]) (show BlkOk N_possible_order (defScope (top 16)) _ _ from ⟨rfl, by decide +kernel, by decide +kernel, by decide +kernel, by decide +kernel⟩) (go_name (by decide)) gk_name (fun _ _ _ _ _ => (pg_name (i := 5) sc_possible_order.nd rfl (by first | exact Or.inl rfl | exact Or.inr rfl))) (fun _ _ _ _ _ => st_yes) (fun _ _ _ _ _ => (se_cmp op_gt_m (se_fn (fLen_ok G.hT) G.n_len bt_len (sa_cons (se_v (pv 5)) sa_nil)) (se_glob (G.v_MOST_OPERATIONS _ rfl rfl)))))) sa_nil))) (ss_one (s_raise rfl (takes_of rfl rfl rfl rfl) (canx_LimitExceeded G) (hr.mono (by first | decide | omega)) (sa_cons (se_glob (G.v_MOST_OPERATIONS _ rfl rfl)) sa_nil))) ss_nil)
  (ss_cons (s_asg' (ps_set (i := 4) sc_possible_order.nd rfl (by first | exact Or.inl rfl | exact Or.inr rfl) (se_lst sa_nil)))
  (ss_cons (s_lock (s_for (passes_of rfl) rfl (si_values (se_v (pv 1))) (sg_name (pg_name (i := 5) sc_possible_order.nd rfl (by first | exact Or.inl rfl | exact Or.inr rfl))) (ss_cons (s_asg' (ps_set (i := 6) sc_possible_order.nd rfl (by first | exact Or.inl rfl | exact Or.inr rfl) (se_call (can_order_of_key G) (hr.mono (by first | decide | omega)) (takes_of rfl rfl rfl rfl) G.g_order_of_key (sa_cons (se_v (pv 0)) (sa_cons (se_v (pv 5)) sa_nil)))))
  (ss_cons (s_if (st_cmp op_is_m (se_v (pv 6)) se_non) (ss_one (s_ret se_non)) ss_nil)
  (ss_one (s_expr (se_append (se_v (pv 4)) (sa_cons (se_v (pv 6)) sa_nil))))))))
  (ss_one (s_ret (se_call (can_merged G) (hr.mono (by first | decide | omega)) (takes_of rfl rfl rfl rfl) G.g_merged (sa_cons (se_v (pv 0)) (sa_cons (se_v (pv 4)) sa_nil)))))))))))
/-! ### is_order: slots operations, value, values, latest, at, begin, end, word, key, number, is_right, later -/
abbrev st_is_order : Stmt := top 17
def N_is_order : List Str := ["operations", "value", "values", "latest", "at", "begin", "end", "word", "key", "number", "is_right", "later"]
theorem sc_is_order : FnScope N_is_order ["operations", "value"] (defScope st_is_order) := ⟨rfl, rfl, rfl, by decide +kernel, rfl, by decide +kernel, by decide +kernel⟩
def m_is_order : SM :=
  (sSeq (sExpr (eCall 1 [] (F_check_operations) (aCons (eVar 0) aNil)))
  (sSeq (sIf (tOr' (tNot' (tTru (eFn (fIsi isT isBT) (aCons (eVar 1) (aCons (eC (.ty "list")) aNil))))) (tNot' (tTru (eFn (fAny fun f ds => ds.all f) (aCons (eLc (iAny T (eVar 1)) (gNm 4) tYes' (eCall 1 [] (F_is_integer) (aCons (eVar 4) aNil)) [4]) aNil))))) (sRet (eC (.bl false))) sNil)
  (sSeq (sIf (tVal (eBin (cEq true) (eFn (fSorted T) (aCons (eVar 1) aNil)) (eLrg (aCons (eFn (fLen T) (aCons (eVar 0) aNil)) aNil)))) (sRet (eC (.bl false))) sNil)
  (sSeq (sPar 2 3 (aCons eDnew (aCons (eC .non) aNil)))
  (sSeq (sFor (iAny T (eVar 1)) (gNm 4) (sSeq (sAsg (eBin (ixM T) (eVar 0) (eVar 4)) (gTp 5 (gsCons (gNm 5) (gsCons (gNm 6) (gsCons (gNm 7) (gsCons (gNm 8) (gsCons (gNm 9) gsNil)))))))
  (sSeq (sIf (tAnd' (tVal (eBin (cIs true) (eVar 3) (eC .non))) (tVal (eBin cLt (eVar 6) (eVar 3)))) (sRet (eC (.bl false))) sNil)
  (sSeq (sAsg (eIf (tVal (eBin (cIs false) (eVar 3) (eC .non))) (eVar 5) (eFn (fMax T) (aCons (eVar 3) (aCons (eVar 5) aNil)))) (gNm 3))
  (sSeq (sAsg (eCall 2 [] (F_value_behind) (aCons (eBin (ixM T) (eVar 0) (eVar 4)) (aCons (eDgt1 (eVar 2) (eVar 8)) aNil))) (gTp 2 (gsCons (gNm 10) (gsCons (gNm 11) gsNil))))
  (sSeq (sIf (tNot' (tTru (eVar 10))) (sRet (eC (.bl false))) sNil)
  (sDput (eVar 2) (eVar 8) (eVar 11))))))))
  (sRet (eC (.bl true))))))))
def F_is_order : List Val → M Val := fnM 12 m_is_order
theorem can_is_order (G : Facts P w K mg base) : Can P w K mg base 4 2 (He.fAd K ("is_order", none)) [] F_is_order := by
  obtain ⟨fd, F⟩ := G.f_is_order
  refine can_of (ps := ["operations", "value"]) F (FunD.bindsN F fun _ _ _ _ _ _ us hl => match us, hl with | [_, _], _ => rfl) sc_is_order fun cdv A outer s H E hr => ?_
  unfold m_is_order
  exact (ss_cons (s_expr (se_call (can_check_operations G) (hr.mono (by first | decide | omega)) (takes_of rfl rfl rfl rfl) G.g_check_operations (sa_cons (se_v (pv 0)) sa_nil)))
  (ss_cons (s_if (sw_or (st_not (st_tru (se_fn (fIsi_ok G.hI) G.n_isinstance bt_isinstance (sa_cons (se_v (pv 1)) (sa_cons (se_type G.n_list bt_list) sa_nil))))) (sw_or1 (st_not (st_tru (se_fn (fAll_ok rfl) G.n_all bt_all (sa_cons (se_lc rfl sc_is_order.nd (si_any G.hT (se_v (pv 1))) (own := [("at", 4)]) (show BlkOk N_is_order (defScope (top 17)) _ _ from ⟨rfl, by decide +kernel, by decide +kernel, by decide +kernel, by decide +kernel⟩) (go_name (by decide)) gk_name (fun _ _ _ _ _ => (pg_name (i := 4) sc_is_order.nd rfl (by first | exact Or.inl rfl | exact Or.inr rfl))) (fun _ _ _ _ _ => st_yes) (fun _ _ _ _ _ => (se_call (can_is_integer G) (hr.mono (by first | decide | omega)) takes0 G.g_is_integer (sa_cons (se_v (pv 4)) sa_nil)))) sa_nil)))))).pt (ss_one (s_ret se_bl)) ss_nil)
  (ss_cons (s_if (st_cmp (op_ne_m (hu64 hr)) (se_fn (fSorted_ok G.hT) G.n_sorted bt_sorted (sa_cons (se_v (pv 1)) sa_nil)) (se_lrg1 rfl G.n_list G.n_range (se_fn (fLen_ok G.hT) G.n_len bt_len (sa_cons (se_v (pv 0)) sa_nil)))) (ss_one (s_ret se_bl)) ss_nil)
  (ss_cons (s_par (ps_par (i := 2) (j := 3) rfl sc_is_order.nd rfl rfl (by decide) rfl rfl (sa_cons se_dnew (sa_cons se_non sa_nil)) rfl))
  (ss_cons (s_for (passes_of rfl) rfl (si_any G.hT (se_v (pv 1))) (sg_name (pg_name (i := 4) sc_is_order.nd rfl (by first | exact Or.inl rfl | exact Or.inr rfl))) (ss_cons (s_asg (se_ix (ix_m G.hT) (se_v (pv 0)) (se_v (pv 4))) (sg_tup (pg_tup rfl (sgs_cons (sg_name (pg_name (i := 5) sc_is_order.nd rfl (by first | exact Or.inl rfl | exact Or.inr rfl))) (sgs_cons (sg_name (pg_name (i := 6) sc_is_order.nd rfl (by first | exact Or.inl rfl | exact Or.inr rfl))) (sgs_cons (sg_name (pg_name (i := 7) sc_is_order.nd rfl (by first | exact Or.inl rfl | exact Or.inr rfl))) (sgs_cons (sg_name (pg_name (i := 8) sc_is_order.nd rfl (by first | exact Or.inl rfl | exact Or.inr rfl))) (sgs_cons (sg_name (pg_name (i := 9) sc_is_order.nd rfl (by first | exact Or.inl rfl | exact Or.inr rfl))) sgs_nil gs_nil_ok) (gs_name_ok gs_nil_ok)) (gs_name_ok (gs_name_ok gs_nil_ok))) (gs_name_ok (gs_name_ok (gs_name_ok gs_nil_ok)))) (gs_name_ok (gs_name_ok (gs_name_ok (gs_name_ok gs_nil_ok))))))))
  (ss_cons (s_if (sw_and (st_cmp op_isnot_m (se_v (pv 3)) se_non) (sw_and1 (st_cmp op_lt_m (se_v (pv 6)) (se_v (pv 3))))).pt (ss_one (s_ret se_bl)) ss_nil)
  (ss_cons (s_asg' (ps_set (i := 3) sc_is_order.nd rfl (by first | exact Or.inl rfl | exact Or.inr rfl) (se_if (st_cmp op_is_m (se_v (pv 3)) se_non) (se_v (pv 5)) (se_fn (fMax_ok G.hT rfl) G.n_max bt_max (sa_cons (se_v (pv 3)) (sa_cons (se_v (pv 5)) sa_nil))))))
  (ss_cons (s_asg (se_call (can_value_behind G) (hr.mono (by first | decide | omega)) (takes_of rfl rfl rfl rfl) G.g_value_behind (sa_cons (se_ix (ix_m G.hT) (se_v (pv 0)) (se_v (pv 4))) (sa_cons (se_dgt1 (pe_dget1 (hu1 hr) (se_v (pv 2)) (se_v (pv 8)) ⟨rfl, rfl, rfl, rfl⟩)) sa_nil))) (sg_tup (pg_tup rfl (sgs_cons (sg_name (pg_name (i := 10) sc_is_order.nd rfl (by first | exact Or.inl rfl | exact Or.inr rfl))) (sgs_cons (sg_name (pg_name (i := 11) sc_is_order.nd rfl (by first | exact Or.inl rfl | exact Or.inr rfl))) sgs_nil gs_nil_ok) (gs_name_ok gs_nil_ok)))))
  (ss_cons (s_if (st_not (st_tru (se_v (pv 10)))) (ss_one (s_ret se_bl)) ss_nil)
  (ss_one (s_dput (ps_dput (hu1 hr) (se_v (pv 2)) (se_v (pv 8)) (se_v (pv 11)) rfl)))))))))
  (ss_one (s_ret se_bl)))))))
/-! ### _law_told: slots door, items, value, e -/
abbrev st__law_told : Stmt := top 26
def N__law_told : List Str := ["door", "items", "value", "e"]
theorem sc__law_told : FnScope N__law_told ["door", "items", "value"] (defScope st__law_told) := ⟨rfl, rfl, rfl, by decide +kernel, rfl, by decide +kernel, by decide +kernel⟩
def m__law_told : SM :=
  (sTry exT (sRet (eIf (tVal (eBin (cEq false) (eVar 0) (eC (.int 0)))) (eCall 1 [] (F_possible_order) (aCons (eVar 1) aNil)) (eCall 2 [] (F_is_order) (aCons (eVar 1) (aCons (eVar 2) aNil))))) [(.glo "InvalidOperations", some 3, (sRet (eLst (aCons (eC (.str "operations")) (aCons (eXf xfT (eVar 3) "position") (aCons (eFn (fIsX ieT) (aCons (eVar 3) (aCons (eC (.ty "ValueError")) aNil))) aNil)))))), (.glo "LimitExceeded", some 3, (sRet (eLst (aCons (eC (.str "limit")) (aCons (eXf xfT (eVar 3) "limit") (aCons (eFn (fIsX ieT) (aCons (eVar 3) (aCons (eC (.ty "OverflowError")) aNil))) aNil))))))])
def F__law_told : List Val → M Val := fnM 4 m__law_told
theorem can__law_told (G : Facts P w K mg base) : Can P w K mg base 5 3 (He.fAd K ("_law_told", none)) [] F__law_told := by
  obtain ⟨fd, F⟩ := G.f__law_told
  refine can_of (ps := ["door", "items", "value"]) F (FunD.bindsN F fun _ _ _ _ _ _ us hl => match us, hl with | [_, _, _], _ => rfl) sc__law_told fun cdv A outer s H E hr => ?_
  unfold m__law_told
  exact (ss_one (s_try G.hE rfl rfl rfl sc__law_told.nd (takes_of rfl rfl rfl rfl) (fun W pn xe tk hpo => (ss_one (s_ret (se_if (st_cmp (op_eq_m (hu64 hr)) (se_v (pv 0)) se_int) (se_call (can_possible_order G) (hr.mono (by first | decide | omega)) tk G.g_possible_order (sa_cons (se_v (pv 1)) sa_nil)) (se_call (can_is_order G) (hr.mono (by first | decide | omega)) tk G.g_is_order (sa_cons (se_v (pv 1)) (sa_cons (se_v (pv 2)) sa_nil))))))) (.as_ (c := .glo "InvalidOperations") (i := 3) ⟨rfl, by decide, Or.inl (canx_InvalidOperations G).gC⟩ rfl rfl rfl (fun _ _ => (ss_one (s_ret (se_lst (sa_cons se_str (sa_cons (se_xf G.hX (se_v (pv 3))) (sa_cons (se_fn (fIsX_ok G.hIe) G.n_isinstance bt_isinstance (sa_cons (se_v (pv 3)) (sa_cons (se_type G.n_ValueError bt_ValueError) sa_nil))) sa_nil))))))) (.as_ (c := .glo "LimitExceeded") (i := 3) ⟨rfl, by decide, Or.inl (canx_LimitExceeded G).gC⟩ rfl rfl rfl (fun _ _ => (ss_one (s_ret (se_lst (sa_cons se_str (sa_cons (se_xf G.hX (se_v (pv 3))) (sa_cons (se_fn (fIsX_ok G.hIe) G.n_isinstance bt_isinstance (sa_cons (se_v (pv 3)) (sa_cons (se_type G.n_OverflowError bt_OverflowError) sa_nil))) sa_nil))))))) .nil))))
/-! ### _law_limits_right: slots items, more, at -/
abbrev st__law_limits_right : Stmt := top 27
def N__law_limits_right : List Str := ["items", "more", "at"]
theorem sc__law_limits_right : FnScope N__law_limits_right [] (defScope st__law_limits_right) := ⟨rfl, rfl, rfl, by decide +kernel, rfl, by decide +kernel, by decide +kernel⟩
def m__law_limits_right : SM :=
  (sSeq (sAsg (eBin (bAdd T) (eLc (iRg1 (aCons (eC (.int 12)) aNil)) (gNm 2) tYes' (eTup (aCons (eC (.int 0)) (aCons (eC (.int 99)) (aCons (eC (.str "put")) (aCons (eC (.str "a")) (aCons (eVar 2) aNil)))))) [2]) (eLst (aCons (eTup (aCons (eC (.int 0)) (aCons (eC (.int 99)) (aCons (eC (.str "put")) (aCons (eC (.str "b")) (aCons (eC (.int 1)) aNil)))))) aNil))) (gNm 0))
  (sSeq (sIf (tOr' (tVal (eBin (cEq true) (eC (.int 12)) (eC (.int 12)))) (tNot' (tTru (eCall 2 [] (F__law_is_order) (aCons (eVar 0) (aCons (eCall 1 [] (F_possible_order) (aCons (eVar 0) aNil)) aNil)))))) (sRet (eC (.bl false))) sNil)
  (sSeq (sAsg (eBin (bAdd T) (eVar 0) (eLst (aCons (eTup (aCons (eC (.int 0)) (aCons (eC (.int 99)) (aCons (eC (.str "get")) (aCons (eC (.str "a")) (aCons (eC (.int 5)) aNil)))))) aNil))) (gNm 1))
  (sRet (eAnd (eBin (cEq false) (eCall 3 [] (F__law_told) (aCons (eC (.int 0)) (aCons (eVar 1) (aCons (eC (.int 0)) aNil)))) (eLst (aCons (eC (.str "limit")) (aCons (eC (.int 12)) (aCons (eC (.bl true)) aNil))))) (eBin (cIs false) (eCall 2 [] (F_is_order) (aCons (eVar 1) (aCons (eLrg (aCons (eC (.int 14)) aNil)) aNil))) (eC (.bl false))))))))
def F__law_limits_right : List Val → M Val := fnM 3 m__law_limits_right
theorem can__law_limits_right (G : Facts P w K mg base) : Can P w K mg base 6 0 (He.fAd K ("_law_limits_right", none)) [] F__law_limits_right := by
  obtain ⟨fd, F⟩ := G.f__law_limits_right
  refine can_of (ps := []) F (FunD.bindsN F fun _ _ _ _ _ _ us hl => match us, hl with | [], _ => rfl) sc__law_limits_right fun cdv A outer s H E hr => ?_
  unfold m__law_limits_right
  exact (ss_cons (s_asg' (ps_set (i := 0) sc__law_limits_right.nd rfl (by first | exact Or.inl rfl | exact Or.inr rfl) (se_bin (op_add_m T) (se_lc rfl sc__law_limits_right.nd (si_rng1 G.n_range (sa_cons se_int sa_nil)) (own := [("at", 2)]) (show BlkOk N__law_limits_right (defScope (top 27)) _ _ from ⟨rfl, by decide +kernel, by decide +kernel, by decide +kernel, by decide +kernel⟩) (go_name (by decide)) gk_name (fun _ _ _ _ _ => (pg_name (i := 2) sc__law_limits_right.nd rfl (by first | exact Or.inl rfl | exact Or.inr rfl))) (fun _ _ _ _ _ => st_yes) (fun _ _ _ _ _ => (se_tup (sa_cons se_int (sa_cons se_int (sa_cons se_str (sa_cons se_str (sa_cons (se_v (pv 2)) sa_nil)))))))) (se_lst (sa_cons (se_tup (sa_cons se_int (sa_cons se_int (sa_cons se_str (sa_cons se_str (sa_cons se_int sa_nil)))))) sa_nil)))))
  (ss_cons (s_if (sw_or (st_cmp (op_ne_m (hu64 hr)) (se_glob (G.v_MOST_OPERATIONS _ rfl rfl)) se_int) (sw_or1 (st_not (st_tru (se_call (can__law_is_order G) (hr.mono (by first | decide | omega)) (takes_of rfl rfl rfl rfl) G.g__law_is_order (sa_cons (se_v (pv 0)) (sa_cons (se_call (can_possible_order G) (hr.mono (by first | decide | omega)) (takes_of rfl rfl rfl rfl) G.g_possible_order (sa_cons (se_v (pv 0)) sa_nil)) sa_nil))))))).pt (ss_one (s_ret se_bl)) ss_nil)
  (ss_cons (s_asg' (ps_set (i := 1) sc__law_limits_right.nd rfl (by first | exact Or.inl rfl | exact Or.inr rfl) (se_bin (op_add_m T) (se_v (pv 0)) (se_lst (sa_cons (se_tup (sa_cons se_int (sa_cons se_int (sa_cons se_str (sa_cons se_str (sa_cons se_int sa_nil)))))) sa_nil)))))
  (ss_one (s_ret (se_and (se_cmp (op_eq_m (hu64 hr)) (se_call (can__law_told G) (hr.mono (by first | decide | omega)) (takes_of rfl rfl rfl rfl) G.g__law_told (sa_cons se_int (sa_cons (se_v (pv 1)) (sa_cons se_int sa_nil)))) (se_lst (sa_cons se_str (sa_cons se_int (sa_cons se_bl sa_nil))))) (se_and1 (se_cmp op_is_m (se_call (can_is_order G) (hr.mono (by first | decide | omega)) (takes_of rfl rfl rfl rfl) G.g_is_order (sa_cons (se_v (pv 1)) (sa_cons (se_lrg1 rfl G.n_list G.n_range se_int) sa_nil))) se_bl))))))))
/-! ### _law_hand: slots script, k, cell, seed -/
abbrev st__law_hand : Stmt := top 19
def N__law_hand : List Str := ["script", "k", "cell", "seed"]
theorem sc__law_hand : FnScope N__law_hand ["script", "k"] (defScope st__law_hand) := ⟨rfl, rfl, rfl, by decide +kernel, rfl, by decide +kernel, by decide +kernel⟩
def m__law_hand : SM :=
  (sSeq (sAsg (eBin (ixM T) (eBin (bAdd T) (eSl (slM T) (eVar 0) (oSome (eVar 1)) (oSome (eBin (bAdd T) (eVar 1) (eC (.int 1))))) (eLst (aCons (eC (.int 0)) aNil))) (eC (.int 0))) (gNm 2))
  (sSeq (sAsg (eBin bMod (eBin bMul (eBin (bAdd T) (eBin (bAdd T) (eBin bMod (eVar 2) (eC (.int 2147483647))) (eBin bMul (eC (.int 7919)) (eVar 1))) (eC (.int 1))) (eC (.int 48271))) (eC (.int 2147483629))) (gNm 3))
  (sRet (eLst (aCons (eBin bMul (eFn fInt (aCons (eBin cGe (eVar 2) (eBin bPow (eC (.int 10)) (eC (.int 18)))) aNil)) (eVar 2)) (aCons (eVar 3) aNil))))))
def F__law_hand : List Val → M Val := fnM 4 m__law_hand
theorem can__law_hand (G : Facts P w K mg base) : Can P w K mg base 1 2 (He.fAd K ("_law_hand", none)) [] F__law_hand := by
  obtain ⟨fd, F⟩ := G.f__law_hand
  refine can_of (ps := ["script", "k"]) F (FunD.bindsN F fun _ _ _ _ _ _ us hl => match us, hl with | [_, _], _ => rfl) sc__law_hand fun cdv A outer s H E hr => ?_
  unfold m__law_hand
  exact (ss_cons (s_asg' (ps_set (i := 2) sc__law_hand.nd rfl (by first | exact Or.inl rfl | exact Or.inr rfl) (se_ix (ix_m G.hT) (se_bin (op_add_m T) (se_sl (sl_m G.hT) (se_v (pv 0)) (so_some (se_v (pv 1))) (so_some (se_bin (op_add_m T) (se_v (pv 1)) se_int))) (se_lst (sa_cons se_int sa_nil))) se_int)))
  (ss_cons (s_asg' (ps_set (i := 3) sc__law_hand.nd rfl (by first | exact Or.inl rfl | exact Or.inr rfl) (se_bin op_mod_m (se_bin op_mul_m (se_bin (op_add_m T) (se_bin (op_add_m T) (se_bin op_mod_m (se_v (pv 2)) se_int) (se_bin op_mul_m se_int (se_v (pv 1)))) se_int) se_int) se_int)))
  (ss_one (s_ret (se_lst (sa_cons (se_bin op_mul_m (se_fnT fInt_ok G.n_int bt_int (sa_cons (se_cmp op_ge_m (se_v (pv 2)) (se_bin op_pow_m se_int se_int)) sa_nil)) (se_v (pv 2))) (sa_cons (se_v (pv 3)) sa_nil)))))))
/-! ### _law_draw: slots pool, size, found -/
abbrev st__law_draw : Stmt := top 20
def N__law_draw : List Str := ["pool", "size", "found"]
theorem sc__law_draw : FnScope N__law_draw ["pool", "size"] (defScope st__law_draw) := ⟨rfl, rfl, rfl, by decide +kernel, rfl, by decide +kernel, by decide +kernel⟩
def m__law_draw : SM :=
  (sSeq (sIf (tVal (eBin cGt (eBin (ixM T) (eVar 0) (eC (.int 0))) (eC (.int 0)))) (sSeq (sAsg (eBin bMod (eBin (ixM T) (eVar 0) (eC (.int 0))) (eVar 1)) (gNm 2))
  (sSeq (sAsg (eBin bFdv (eBin (ixM T) (eVar 0) (eC (.int 0))) (eVar 1)) (gSubL (eVar 0) (eC (.int 0))))
  (sRet (eVar 2)))) sNil)
  (sSeq (sAsg (eBin bMod (eBin (bAdd T) (eBin bMul (eBin (ixM T) (eVar 0) (eC (.int 1))) (eC (.int 48271))) (eC (.int 11))) (eC (.int 2147483647))) (gSubL (eVar 0) (eC (.int 1))))
  (sRet (eBin bMod (eBin bFdv (eBin bMod (eBin bMul (eBin (ixM T) (eVar 0) (eC (.int 1))) (eBin (ixM T) (eVar 0) (eC (.int 1)))) (eC (.int 2147483629))) (eC (.int 64))) (eVar 1)))))
def F__law_draw : List Val → M Val := fnM 3 m__law_draw
theorem can__law_draw (G : Facts P w K mg base) : Can P w K mg base 1 2 (He.fAd K ("_law_draw", none)) [] F__law_draw := by
  obtain ⟨fd, F⟩ := G.f__law_draw
  refine can_of (ps := ["pool", "size"]) F (FunD.bindsN F fun _ _ _ _ _ _ us hl => match us, hl with | [_, _], _ => rfl) sc__law_draw fun cdv A outer s H E hr => ?_
  unfold m__law_draw
  exact (ss_cons (s_if (st_cmp op_gt_m (se_ix (ix_m G.hT) (se_v (pv 0)) se_int) se_int) (ss_cons (s_asg' (ps_set (i := 2) sc__law_draw.nd rfl (by first | exact Or.inl rfl | exact Or.inr rfl) (se_bin op_mod_m (se_ix (ix_m G.hT) (se_v (pv 0)) se_int) (se_v (pv 1)))))
  (ss_cons (s_asg (se_bin op_fdv_m (se_ix (ix_m G.hT) (se_v (pv 0)) se_int) (se_v (pv 1))) (sg_subL (pg_sub (se_v (pv 0)) se_int set_list)))
  (ss_one (s_ret (se_v (pv 2)))))) ss_nil)
  (ss_cons (s_asg (se_bin op_mod_m (se_bin (op_add_m T) (se_bin op_mul_m (se_ix (ix_m G.hT) (se_v (pv 0)) se_int) se_int) se_int) se_int) (sg_subL (pg_sub (se_v (pv 0)) se_int set_list)))
  (ss_one (s_ret (se_bin op_mod_m (se_bin op_fdv_m (se_bin op_mod_m (se_bin op_mul_m (se_ix (ix_m G.hT) (se_v (pv 0)) se_int) (se_ix (ix_m G.hT) (se_v (pv 0)) se_int)) se_int) se_int) (se_v (pv 1)))))))
/-! ### _law_hidden: slots pool, many, found, rows, clock, turn, word, key, value, begin -/
abbrev st__law_hidden : Stmt := top 21
def N__law_hidden : List Str := ["pool", "many", "found", "rows", "clock", "turn", "word", "key", "value", "begin"]
theorem sc__law_hidden : FnScope N__law_hidden ["pool", "many"] (defScope st__law_hidden) := ⟨rfl, rfl, rfl, by decide +kernel, rfl, by decide +kernel, by decide +kernel⟩
def m__law_hidden : SM :=
  (sSeq (sPar3 2 3 4 (aCons (eLst aNil) (aCons eDnew (aCons (eC (.int 0)) aNil))))
  (sSeq (sFor (iRg1 (aCons (eVar 1) aNil)) (gNm 5) (sSeq (sPar 6 7 (aCons (eBin (ixM T) (eLst (aCons (eC (.str "put")) (aCons (eC (.str "put")) (aCons (eC (.str "get")) (aCons (eC (.str "delete")) aNil))))) (eCall 2 [] (F__law_draw) (aCons (eVar 0) (aCons (eC (.int 4)) aNil)))) (aCons (eBin (ixM T) (eLst (aCons (eC (.str "a")) (aCons (eC (.str "b")) aNil))) (eCall 2 [] (F__law_draw) (aCons (eVar 0) (aCons (eC (.int 2)) aNil)))) aNil)))
  (sSeq (sAsg (eIf (tVal (eBin (cEq false) (eVar 6) (eC (.str "put")))) (eCall 2 [] (F__law_draw) (aCons (eVar 0) (aCons (eC (.int 3)) aNil))) (eDgt1 (eVar 3) (eVar 7))) (gNm 8))
  (sSeq (sIf (tVal (eBin (cEq false) (eVar 6) (eC (.str "put")))) (sDput (eVar 3) (eVar 7) (eVar 8)) sNil)
  (sSeq (sIf (tVal (eBin (cEq false) (eVar 6) (eC (.str "delete")))) (sExpr (eDpop2 (eVar 3) (eVar 7) (eC .non))) sNil)
  (sSeq (sAsg (eFn (fMax T) (aCons (eC (.int 0)) (aCons (eBin bSub (eVar 4) (eCall 2 [] (F__law_draw) (aCons (eVar 0) (aCons (eC (.int 5)) aNil)))) aNil))) (gNm 9))
  (sSeq (sExpr (eLm lmAppend (eVar 2) (aCons (eTup (aCons (eVar 9) (aCons (eBin (bAdd T) (eBin (bAdd T) (eVar 4) (eC (.int 1))) (eCall 2 [] (F__law_draw) (aCons (eVar 0) (aCons (eC (.int 5)) aNil)))) (aCons (eVar 6) (aCons (eVar 7) (aCons (eVar 8) aNil)))))) aNil)))
  (sAsg (eBin (bAdd T) (eBin (bAdd T) (eVar 4) (eC (.int 1))) (eCall 2 [] (F__law_draw) (aCons (eVar 0) (aCons (eC (.int 2)) aNil)))) (gNm 4)))))))))
  (sRet (eVar 2))))
def F__law_hidden : List Val → M Val := fnM 10 m__law_hidden
theorem can__law_hidden (G : Facts P w K mg base) : Can P w K mg base 2 2 (He.fAd K ("_law_hidden", none)) [] F__law_hidden := by
  obtain ⟨fd, F⟩ := G.f__law_hidden
  refine can_of (ps := ["pool", "many"]) F (FunD.bindsN F fun _ _ _ _ _ _ us hl => match us, hl with | [_, _], _ => rfl) sc__law_hidden fun cdv A outer s H E hr => ?_
  unfold m__law_hidden
  exact (ss_cons (s_par3 (ps_par3 (i := 2) (j := 3) (l := 4) rfl sc__law_hidden.nd rfl rfl rfl (by decide) (by decide) (by decide) rfl rfl rfl (sa_cons (se_lst sa_nil) (sa_cons se_dnew (sa_cons se_int sa_nil))) rfl))
  (ss_cons (s_for (passes_of rfl) rfl (si_rng1 G.n_range (sa_cons (se_v (pv 1)) sa_nil)) (sg_name (pg_name (i := 5) sc__law_hidden.nd rfl (by first | exact Or.inl rfl | exact Or.inr rfl))) (ss_cons (s_par (ps_par (i := 6) (j := 7) rfl sc__law_hidden.nd rfl rfl (by decide) rfl rfl (sa_cons (se_ix (ix_m G.hT) (se_lst (sa_cons se_str (sa_cons se_str (sa_cons se_str (sa_cons se_str sa_nil))))) (se_call (can__law_draw G) (hr.mono (by first | decide | omega)) (takes_of rfl rfl rfl rfl) G.g__law_draw (sa_cons (se_v (pv 0)) (sa_cons se_int sa_nil)))) (sa_cons (se_ix (ix_m G.hT) (se_lst (sa_cons se_str (sa_cons se_str sa_nil))) (se_call (can__law_draw G) (hr.mono (by first | decide | omega)) (takes_of rfl rfl rfl rfl) G.g__law_draw (sa_cons (se_v (pv 0)) (sa_cons se_int sa_nil)))) sa_nil)) rfl))
  (ss_cons (s_asg' (ps_set (i := 8) sc__law_hidden.nd rfl (by first | exact Or.inl rfl | exact Or.inr rfl) (se_if (st_cmp (op_eq_m (hu64 hr)) (se_v (pv 6)) se_str) (se_call (can__law_draw G) (hr.mono (by first | decide | omega)) (takes_of rfl rfl rfl rfl) G.g__law_draw (sa_cons (se_v (pv 0)) (sa_cons se_int sa_nil))) (se_dgt1 (pe_dget1 (hu1 hr) (se_v (pv 3)) (se_v (pv 7)) ⟨rfl, rfl, rfl, rfl⟩)))))
  (ss_cons (s_if (st_cmp (op_eq_m (hu64 hr)) (se_v (pv 6)) se_str) (ss_one (s_dput (ps_dput (hu1 hr) (se_v (pv 3)) (se_v (pv 7)) (se_v (pv 8)) rfl))) ss_nil)
  (ss_cons (s_if (st_cmp (op_eq_m (hu64 hr)) (se_v (pv 6)) se_str) (ss_one (s_expr (se_dpop2 (pe_dpop2 (se_v (pv 3)) (se_v (pv 7)) se_non ⟨rfl, rfl, rfl, rfl⟩)))) ss_nil)
  (ss_cons (s_asg' (ps_set (i := 9) sc__law_hidden.nd rfl (by first | exact Or.inl rfl | exact Or.inr rfl) (se_fn (fMax_ok G.hT rfl) G.n_max bt_max (sa_cons se_int (sa_cons (se_bin op_sub_m (se_v (pv 4)) (se_call (can__law_draw G) (hr.mono (by first | decide | omega)) (takes_of rfl rfl rfl rfl) G.g__law_draw (sa_cons (se_v (pv 0)) (sa_cons se_int sa_nil)))) sa_nil)))))
  (ss_cons (s_expr (se_append (se_v (pv 2)) (sa_cons (se_tup (sa_cons (se_v (pv 9)) (sa_cons (se_bin (op_add_m T) (se_bin (op_add_m T) (se_v (pv 4)) se_int) (se_call (can__law_draw G) (hr.mono (by first | decide | omega)) (takes_of rfl rfl rfl rfl) G.g__law_draw (sa_cons (se_v (pv 0)) (sa_cons se_int sa_nil)))) (sa_cons (se_v (pv 6)) (sa_cons (se_v (pv 7)) (sa_cons (se_v (pv 8)) sa_nil)))))) sa_nil)))
  (ss_one (s_asg' (ps_set (i := 4) sc__law_hidden.nd rfl (by first | exact Or.inl rfl | exact Or.inr rfl) (se_bin (op_add_m T) (se_bin (op_add_m T) (se_v (pv 4)) se_int) (se_call (can__law_draw G) (hr.mono (by first | decide | omega)) (takes_of rfl rfl rfl rfl) G.g__law_draw (sa_cons (se_v (pv 0)) (sa_cons se_int sa_nil))))))))))))))
  (ss_one (s_ret (se_v (pv 2))))))
/-! ### _law_drawn: slots pool, many, found, turn, word, begin, value -/
abbrev st__law_drawn : Stmt := top 22
def N__law_drawn : List Str := ["pool", "many", "found", "turn", "word", "begin", "value"]
theorem sc__law_drawn : FnScope N__law_drawn ["pool", "many"] (defScope st__law_drawn) := ⟨rfl, rfl, rfl, by decide +kernel, rfl, by decide +kernel, by decide +kernel⟩
def m__law_drawn : SM :=
  (sSeq (sAsg (eLst aNil) (gNm 2))
  (sSeq (sFor (iRg1 (aCons (eVar 1) aNil)) (gNm 3) (sSeq (sPar 4 5 (aCons (eBin (ixM T) (eLst (aCons (eC (.str "put")) (aCons (eC (.str "get")) (aCons (eC (.str "delete")) aNil)))) (eCall 2 [] (F__law_draw) (aCons (eVar 0) (aCons (eC (.int 3)) aNil)))) (aCons (eCall 2 [] (F__law_draw) (aCons (eVar 0) (aCons (eC (.int 6)) aNil))) aNil)))
  (sSeq (sAsg (eBin (ixM T) (eLst (aCons (eCall 2 [] (F__law_draw) (aCons (eVar 0) (aCons (eC (.int 3)) aNil))) (aCons (eC .non) aNil))) (eFn fInt (aCons (eAnd (eBin (cEq true) (eVar 4) (eC (.str "put"))) (eBin (cEq false) (eCall 2 [] (F__law_draw) (aCons (eVar 0) (aCons (eC (.int 2)) aNil))) (eC (.int 0)))) aNil))) (gNm 6))
  (sExpr (eLm lmAppend (eVar 2) (aCons (eTup (aCons (eVar 5) (aCons (eBin (bAdd T) (eBin (bAdd T) (eVar 5) (eC (.int 1))) (eCall 2 [] (F__law_draw) (aCons (eVar 0) (aCons (eC (.int 4)) aNil)))) (aCons (eVar 4) (aCons (eBin (ixM T) (eLst (aCons (eC (.str "a")) (aCons (eC (.str "b")) (aCons (eC (.str "c")) aNil)))) (eCall 2 [] (F__law_draw) (aCons (eVar 0) (aCons (eC (.int 3)) aNil)))) (aCons (eVar 6) aNil)))))) aNil))))))
  (sRet (eVar 2))))
def F__law_drawn : List Val → M Val := fnM 7 m__law_drawn
theorem can__law_drawn (G : Facts P w K mg base) : Can P w K mg base 2 2 (He.fAd K ("_law_drawn", none)) [] F__law_drawn := by
  obtain ⟨fd, F⟩ := G.f__law_drawn
  refine can_of (ps := ["pool", "many"]) F (FunD.bindsN F fun _ _ _ _ _ _ us hl => match us, hl with | [_, _], _ => rfl) sc__law_drawn fun cdv A outer s H E hr => ?_
  unfold m__law_drawn
  exact (ss_cons (s_asg' (ps_set (i := 2) sc__law_drawn.nd rfl (by first | exact Or.inl rfl | exact Or.inr rfl) (se_lst sa_nil)))
  (ss_cons (s_for (passes_of rfl) rfl (si_rng1 G.n_range (sa_cons (se_v (pv 1)) sa_nil)) (sg_name (pg_name (i := 3) sc__law_drawn.nd rfl (by first | exact Or.inl rfl | exact Or.inr rfl))) (ss_cons (s_par (ps_par (i := 4) (j := 5) rfl sc__law_drawn.nd rfl rfl (by decide) rfl rfl (sa_cons (se_ix (ix_m G.hT) (se_lst (sa_cons se_str (sa_cons se_str (sa_cons se_str sa_nil)))) (se_call (can__law_draw G) (hr.mono (by first | decide | omega)) (takes_of rfl rfl rfl rfl) G.g__law_draw (sa_cons (se_v (pv 0)) (sa_cons se_int sa_nil)))) (sa_cons (se_call (can__law_draw G) (hr.mono (by first | decide | omega)) (takes_of rfl rfl rfl rfl) G.g__law_draw (sa_cons (se_v (pv 0)) (sa_cons se_int sa_nil))) sa_nil)) rfl))
  (ss_cons (s_asg' (ps_set (i := 6) sc__law_drawn.nd rfl (by first | exact Or.inl rfl | exact Or.inr rfl) (se_ix (ix_m G.hT) (se_lst (sa_cons (se_call (can__law_draw G) (hr.mono (by first | decide | omega)) (takes_of rfl rfl rfl rfl) G.g__law_draw (sa_cons (se_v (pv 0)) (sa_cons se_int sa_nil))) (sa_cons se_non sa_nil))) (se_fnT fInt_ok G.n_int bt_int (sa_cons (se_and (se_cmp (op_ne_m (hu64 hr)) (se_v (pv 4)) se_str) (se_and1 (se_cmp (op_eq_m (hu64 hr)) (se_call (can__law_draw G) (hr.mono (by first | decide | omega)) (takes_of rfl rfl rfl rfl) G.g__law_draw (sa_cons (se_v (pv 0)) (sa_cons se_int sa_nil))) se_int))) sa_nil)))))
  (ss_one (s_expr (se_append (se_v (pv 2)) (sa_cons (se_tup (sa_cons (se_v (pv 5)) (sa_cons (se_bin (op_add_m T) (se_bin (op_add_m T) (se_v (pv 5)) se_int) (se_call (can__law_draw G) (hr.mono (by first | decide | omega)) (takes_of rfl rfl rfl rfl) G.g__law_draw (sa_cons (se_v (pv 0)) (sa_cons se_int sa_nil)))) (sa_cons (se_v (pv 4)) (sa_cons (se_ix (ix_m G.hT) (se_lst (sa_cons se_str (sa_cons se_str (sa_cons se_str sa_nil)))) (se_call (can__law_draw G) (hr.mono (by first | decide | omega)) (takes_of rfl rfl rfl rfl) G.g__law_draw (sa_cons (se_v (pv 0)) (sa_cons se_int sa_nil)))) (sa_cons (se_v (pv 6)) sa_nil)))))) sa_nil)))))))
  (ss_one (s_ret (se_v (pv 2))))))
/-! ### _law_bad_right: slots pool, good, bad, door, one -/
abbrev st__law_bad_right : Stmt := top 28
def N__law_bad_right : List Str := ["pool", "good", "bad", "door", "one"]
theorem sc__law_bad_right : FnScope N__law_bad_right ["pool"] (defScope st__law_bad_right) := ⟨rfl, rfl, rfl, by decide +kernel, rfl, by decide +kernel, by decide +kernel⟩
def m__law_bad_right : SM :=
  (sSeq (sAsg (eTup (aCons (eC (.int 0)) (aCons (eC (.int 1)) (aCons (eC (.str "put")) (aCons (eC (.str "a")) (aCons (eC (.int 1)) aNil)))))) (gNm 1))
  (sSeq (sAsg (eLst (aCons (eC .non) (aCons (eFn (fList T) (aCons (eVar 1) aNil)) (aCons (eSl (slM T) (eVar 1) oNone (oSome (eC (.int 4)))) (aCons (eBin (bAdd T) (eTup (aCons (eC (.int 1)) (aCons (eC (.int 1)) aNil))) (eSl (slM T) (eVar 1) (oSome (eC (.int 2))) oNone)) (aCons (eBin (bAdd T) (eTup (aCons (eC (.bl true)) (aCons (eC (.int 2)) aNil))) (eSl (slM T) (eVar 1) (oSome (eC (.int 2))) oNone)) (aCons (eTup (aCons (eC (.int 0)) (aCons (eC (.int 1)) (aCons (eC (.str "set")) (aCons (eC (.str "a")) (aCons (eC (.int 1)) aNil)))))) aNil))))))) (gNm 2))
  (sSeq (sAsg (eBin (bAdd T) (eVar 2) (eLst (aCons (eTup (aCons (eC (.int 0)) (aCons (eC (.int 1)) (aCons (eLst aNil) (aCons (eC (.str "a")) (aCons (eC (.int 1)) aNil)))))) (aCons (eTup (aCons (eC (.int 0)) (aCons (eC (.int 1)) (aCons (eC (.str "put")) (aCons (eC (.str "A")) (aCons (eC (.int 1)) aNil)))))) (aCons (eTup (aCons (eC (.int 0)) (aCons (eC (.int 1)) (aCons (eC (.str "put")) (aCons (eC (.str "a")) (aCons (eC .non) aNil)))))) (aCons (eTup (aCons (eC (.int 0)) (aCons (eC (.int 1)) (aCons (eC (.str "get")) (aCons (eC (.str "a")) (aCons (eC (.bl true)) aNil)))))) aNil)))))) (gNm 2))
  (sSeq (sExpr (eLm lmAppend (eVar 2) (aCons (eBin (bAdd T) (eTup (aCons (eC (.int 0)) (aCons (eC .non) aNil))) (eSl (slM T) (eVar 1) (oSome (eC (.int 2))) oNone)) aNil)))
  (sSeq (sFor (iRg1 (aCons (eC (.int 2)) aNil)) (gNm 3) (sSeq (sAsg (eBin (ixM T) (eVar 2) (eCall 2 [] (F__law_draw) (aCons (eVar 0) (aCons (eFn (fLen T) (aCons (eVar 2) aNil)) aNil)))) (gNm 4))
  (sSeq (sIf (tVal (eBin (cEq true) (eCall 3 [] (F__law_told) (aCons (eVar 3) (aCons (eLst (aCons (eVar 1) (aCons (eVar 4) (aCons (eC .non) aNil)))) (aCons (eC .non) aNil)))) (eLst (aCons (eC (.str "operations")) (aCons (eC (.int 1)) (aCons (eC (.bl true)) aNil)))))) (sRet (eC (.bl false))) sNil)
  (sIf (tVal (eBin (cEq true) (eCall 3 [] (F__law_told) (aCons (eVar 3) (aCons (eBin (ixM T) (eLst (aCons (eC .non) (aCons (eTup aNil) (aCons (eC (.int 5)) (aCons eDnew aNil))))) (eCall 2 [] (F__law_draw) (aCons (eVar 0) (aCons (eC (.int 4)) aNil)))) (aCons (eC .non) aNil)))) (eLst (aCons (eC (.str "operations")) (aCons (eC .non) (aCons (eC (.bl true)) aNil)))))) (sRet (eC (.bl false))) sNil))))
  (sRet (eC (.bl true))))))))
def F__law_bad_right : List Val → M Val := fnM 5 m__law_bad_right
theorem can__law_bad_right (G : Facts P w K mg base) : Can P w K mg base 6 1 (He.fAd K ("_law_bad_right", none)) [] F__law_bad_right := by
  obtain ⟨fd, F⟩ := G.f__law_bad_right
  refine can_of (ps := ["pool"]) F (FunD.bindsN F fun _ _ _ _ _ _ us hl => match us, hl with | [_], _ => rfl) sc__law_bad_right fun cdv A outer s H E hr => ?_
  unfold m__law_bad_right
  exact (ss_cons (s_asg' (ps_set (i := 1) sc__law_bad_right.nd rfl (by first | exact Or.inl rfl | exact Or.inr rfl) (se_tup (sa_cons se_int (sa_cons se_int (sa_cons se_str (sa_cons se_str (sa_cons se_int sa_nil))))))))
  (ss_cons (s_asg' (ps_set (i := 2) sc__law_bad_right.nd rfl (by first | exact Or.inl rfl | exact Or.inr rfl) (se_lst (sa_cons se_non (sa_cons (se_fnT (fList_ok G.hT) G.n_list bt_list (sa_cons (se_v (pv 1)) sa_nil)) (sa_cons (se_sl (sl_m G.hT) (se_v (pv 1)) so_none (so_some se_int)) (sa_cons (se_bin (op_add_m T) (se_tup (sa_cons se_int (sa_cons se_int sa_nil))) (se_sl (sl_m G.hT) (se_v (pv 1)) (so_some se_int) so_none)) (sa_cons (se_bin (op_add_m T) (se_tup (sa_cons se_bl (sa_cons se_int sa_nil))) (se_sl (sl_m G.hT) (se_v (pv 1)) (so_some se_int) so_none)) (sa_cons (se_tup (sa_cons se_int (sa_cons se_int (sa_cons se_str (sa_cons se_str (sa_cons se_int sa_nil)))))) sa_nil)))))))))
  (ss_cons (s_asg' (ps_set (i := 2) sc__law_bad_right.nd rfl (by first | exact Or.inl rfl | exact Or.inr rfl) (se_bin (op_add_m T) (se_v (pv 2)) (se_lst (sa_cons (se_tup (sa_cons se_int (sa_cons se_int (sa_cons (se_lst sa_nil) (sa_cons se_str (sa_cons se_int sa_nil)))))) (sa_cons (se_tup (sa_cons se_int (sa_cons se_int (sa_cons se_str (sa_cons se_str (sa_cons se_int sa_nil)))))) (sa_cons (se_tup (sa_cons se_int (sa_cons se_int (sa_cons se_str (sa_cons se_str (sa_cons se_non sa_nil)))))) (sa_cons (se_tup (sa_cons se_int (sa_cons se_int (sa_cons se_str (sa_cons se_str (sa_cons se_bl sa_nil)))))) sa_nil))))))))
  (ss_cons (s_expr (se_append (se_v (pv 2)) (sa_cons (se_bin (op_add_m T) (se_tup (sa_cons se_int (sa_cons se_non sa_nil))) (se_sl (sl_m G.hT) (se_v (pv 1)) (so_some se_int) so_none)) sa_nil)))
  (ss_cons (s_for (passes_of rfl) rfl (si_rng1 G.n_range (sa_cons se_int sa_nil)) (sg_name (pg_name (i := 3) sc__law_bad_right.nd rfl (by first | exact Or.inl rfl | exact Or.inr rfl))) (ss_cons (s_asg' (ps_set (i := 4) sc__law_bad_right.nd rfl (by first | exact Or.inl rfl | exact Or.inr rfl) (se_ix (ix_m G.hT) (se_v (pv 2)) (se_call (can__law_draw G) (hr.mono (by first | decide | omega)) (takes_of rfl rfl rfl rfl) G.g__law_draw (sa_cons (se_v (pv 0)) (sa_cons (se_fn (fLen_ok G.hT) G.n_len bt_len (sa_cons (se_v (pv 2)) sa_nil)) sa_nil))))))
  (ss_cons (s_if (st_cmp (op_ne_m (hu64 hr)) (se_call (can__law_told G) (hr.mono (by first | decide | omega)) (takes_of rfl rfl rfl rfl) G.g__law_told (sa_cons (se_v (pv 3)) (sa_cons (se_lst (sa_cons (se_v (pv 1)) (sa_cons (se_v (pv 4)) (sa_cons se_non sa_nil)))) (sa_cons se_non sa_nil)))) (se_lst (sa_cons se_str (sa_cons se_int (sa_cons se_bl sa_nil))))) (ss_one (s_ret se_bl)) ss_nil)
  (ss_one (s_if (st_cmp (op_ne_m (hu64 hr)) (se_call (can__law_told G) (hr.mono (by first | decide | omega)) (takes_of rfl rfl rfl rfl) G.g__law_told (sa_cons (se_v (pv 3)) (sa_cons (se_ix (ix_m G.hT) (se_lst (sa_cons se_non (sa_cons (se_tup sa_nil) (sa_cons se_int (sa_cons se_dnew sa_nil))))) (se_call (can__law_draw G) (hr.mono (by first | decide | omega)) (takes_of rfl rfl rfl rfl) G.g__law_draw (sa_cons (se_v (pv 0)) (sa_cons se_int sa_nil)))) (sa_cons se_non sa_nil)))) (se_lst (sa_cons se_str (sa_cons se_non (sa_cons se_bl sa_nil))))) (ss_one (s_ret se_bl)) ss_nil)))))
  (ss_one (s_ret se_bl)))))))
/-! ### _law_orders: slots many, found, rest, at -/
abbrev st__law_orders : Stmt := top 24
def N__law_orders : List Str := ["many", "found", "rest", "at"]
theorem sc__law_orders : FnScope N__law_orders ["many"] (defScope st__law_orders) := ⟨rfl, rfl, rfl, by decide +kernel, rfl, by decide +kernel, by decide +kernel⟩
def m__law_orders : Nat → SM
  | 0 => sBad
  | n + 1 =>
  (sSeq (sIf (tVal (eBin (cEq false) (eVar 0) (eC (.int 0)))) (sRet (eLst (aCons (eLst aNil) aNil))) sNil)
  (sSeq (sAsg (eLst aNil) (gNm 1))
  (sSeq (sFor (iAny T (eCall 1 [] (fnM 4 (m__law_orders n)) (aCons (eBin bSub (eVar 0) (eC (.int 1))) aNil))) (gNm 2) (sAsg (eBin (bAdd T) (eVar 1) (eLc (iRg1 (aCons (eVar 0) aNil)) (gNm 3) tYes' (eBin (bAdd T) (eBin (bAdd T) (eSl (slM T) (eVar 2) oNone (oSome (eVar 3))) (eLst (aCons (eBin bSub (eVar 0) (eC (.int 1))) aNil))) (eSl (slM T) (eVar 2) (oSome (eVar 3)) oNone)) [3])) (gNm 1)))
  (sRet (eVar 1)))))
def F__law_orders (n : Nat) : List Val → M Val := fnM 4 (m__law_orders n)
theorem can__law_orders (G : Facts P w K mg base) : ∀ n : Nat, Can P w K mg base (n + 1) 1 (He.fAd K ("_law_orders", none)) [] (F__law_orders n) := by
  obtain ⟨fd, F⟩ := G.f__law_orders
  intro n
  induction n with
  | zero => exact can_of (k := 0) (ps := ["many"]) F (FunD.bindsN F fun _ _ _ _ _ _ us hl => match us, hl with | [_], _ => rfl) sc__law_orders fun cdv A outer s H E hr => ss_bad
  | succ n ih =>
    refine can_of (k := n + 1) (ps := ["many"]) F (FunD.bindsN F fun _ _ _ _ _ _ us hl => match us, hl with | [_], _ => rfl) sc__law_orders fun cdv A outer s H E hr => ?_
    unfold m__law_orders
    exact (ss_cons (s_if (st_cmp (op_eq_m (hu64 hr)) (se_v (pv 0)) se_int) (ss_one (s_ret (se_lst (sa_cons (se_lst sa_nil) sa_nil)))) ss_nil)
  (ss_cons (s_asg' (ps_set (i := 1) sc__law_orders.nd rfl (by first | exact Or.inl rfl | exact Or.inr rfl) (se_lst sa_nil)))
  (ss_cons (s_for (passes_of rfl) rfl (si_any G.hT (se_call ih (hr.mono (by omega)) (takes_of rfl rfl rfl rfl) G.g__law_orders (sa_cons (se_bin op_sub_m (se_v (pv 0)) se_int) sa_nil))) (sg_name (pg_name (i := 2) sc__law_orders.nd rfl (by first | exact Or.inl rfl | exact Or.inr rfl))) (ss_one (s_asg' (ps_set (i := 1) sc__law_orders.nd rfl (by first | exact Or.inl rfl | exact Or.inr rfl) (se_bin (op_add_m T) (se_v (pv 1)) (se_lc rfl sc__law_orders.nd (si_rng1 G.n_range (sa_cons (se_v (pv 0)) sa_nil)) (own := [("at", 3)]) (show BlkOk N__law_orders (defScope (top 24)) _ _ from ⟨rfl, by decide +kernel, by decide +kernel, by decide +kernel, by decide +kernel⟩) (go_name (by decide)) gk_name (fun _ _ _ _ _ => (pg_name (i := 3) sc__law_orders.nd rfl (by first | exact Or.inl rfl | exact Or.inr rfl))) (fun _ _ _ _ _ => st_yes) (fun _ _ _ _ _ => (se_bin (op_add_m T) (se_bin (op_add_m T) (se_sl (sl_m G.hT) (se_v (pv 2)) so_none (so_some (se_v (pv 3)))) (se_lst (sa_cons (se_bin op_sub_m (se_v (pv 0)) se_int) sa_nil))) (se_sl (sl_m G.hT) (se_v (pv 2)) (so_some (se_v (pv 3))) so_none)))))))))
  (ss_one (s_ret (se_v (pv 1)))))))
/-! ### _law_has_order: slots items, order -/
abbrev st__law_has_order : Stmt := top 25
def N__law_has_order : List Str := ["items", "order"]
theorem sc__law_has_order : FnScope N__law_has_order ["items"] (defScope st__law_has_order) := ⟨rfl, rfl, rfl, by decide +kernel, rfl, by decide +kernel, by decide +kernel⟩
def m__law_has_order : SM :=
  (sSeq (sFor (iAny T (eCall 1 [] (F__law_orders 8) (aCons (eFn (fLen T) (aCons (eVar 0) aNil)) aNil))) (gNm 1) (sIf (tTru (eCall 2 [] (F__law_is_order) (aCons (eVar 0) (aCons (eVar 1) aNil)))) (sRet (eC (.bl true))) sNil))
  (sRet (eC (.bl false))))
def F__law_has_order : List Val → M Val := fnM 2 m__law_has_order
theorem can__law_has_order (G : Facts P w K mg base) : Can P w K mg base 10 1 (He.fAd K ("_law_has_order", none)) [] F__law_has_order := by
  obtain ⟨fd, F⟩ := G.f__law_has_order
  refine can_of (ps := ["items"]) F (FunD.bindsN F fun _ _ _ _ _ _ us hl => match us, hl with | [_], _ => rfl) sc__law_has_order fun cdv A outer s H E hr => ?_
  unfold m__law_has_order
  exact (ss_cons (s_for (passes_of rfl) rfl (si_any G.hT (se_call (can__law_orders G 8) (hr.mono (by first | decide | omega)) (takes_of rfl rfl rfl rfl) G.g__law_orders (sa_cons (se_fn (fLen_ok G.hT) G.n_len bt_len (sa_cons (se_v (pv 0)) sa_nil)) sa_nil))) (sg_name (pg_name (i := 1) sc__law_has_order.nd rfl (by first | exact Or.inl rfl | exact Or.inr rfl))) (ss_one (s_if (st_tru (se_call (can__law_is_order G) (hr.mono (by first | decide | omega)) (takes_of rfl rfl rfl rfl) G.g__law_is_order (sa_cons (se_v (pv 0)) (sa_cons (se_v (pv 1)) sa_nil)))) (ss_one (s_ret se_bl)) ss_nil)))
  (ss_one (s_ret se_bl)))
/-! ### law: slots script, k, pool, items, found, own, some, value, at -/
abbrev st_law : Stmt := top 29
def N_law : List Str := ["script", "k", "pool", "items", "found", "own", "some", "value", "at"]
theorem sc_law : FnScope N_law ["script"] (defScope st_law) := ⟨rfl, rfl, rfl, by decide +kernel, rfl, by decide +kernel, by decide +kernel⟩
def m_law : SM :=
  (sSeq (sIf (tNot' (tTru (eCall 0 [] (F__law_limits_right) aNil))) (sRet (eC (.bl false))) sNil)
  (sSeq (sFor (iRg1 (aCons (eFn (fMax T) (aCons (eC (.int 2)) (aCons (eFn (fMin T) (aCons (eFn (fLen T) (aCons (eVar 0) aNil)) (aCons (eC (.int 10)) aNil))) aNil))) aNil)) (gNm 1) (sSeq (sAsg (eCall 2 [] (F__law_hand) (aCons (eVar 0) (aCons (eVar 1) aNil))) (gNm 2))
  (sSeq (sFor (iAny T (eLst (aCons (eCall 2 [] (F__law_hidden) (aCons (eVar 2) (aCons (eCall 2 [] (F__law_draw) (aCons (eVar 2) (aCons (eC (.int 6)) aNil))) aNil))) (aCons (eCall 2 [] (F__law_drawn) (aCons (eVar 2) (aCons (eCall 2 [] (F__law_draw) (aCons (eVar 2) (aCons (eC (.int 6)) aNil))) aNil))) aNil)))) (gNm 3) (sSeq (sAsg (eCall 1 [] (F_possible_order) (aCons (eVar 3) aNil)) (gNm 4))
  (sSeq (sIf (tOr' (tVal (eBin (cEq false) (eBin (cIs false) (eVar 4) (eC .non)) (eCall 1 [] (F__law_has_order) (aCons (eVar 3) aNil)))) (tAnd' (tVal (eBin (cIs true) (eVar 4) (eC .non))) (tNot' (tTru (eCall 2 [] (F__law_is_order) (aCons (eVar 3) (aCons (eVar 4) aNil))))))) (sRet (eC (.bl false))) sNil)
  (sSeq (sAsg (eOr (eVar 4) (eLrg (aCons (eFn (fLen T) (aCons (eVar 3) aNil)) aNil))) (gNm 5))
  (sSeq (sAsg (eLst (aCons (eVar 5) (aCons (eRev T (eVar 5)) (aCons (eSl (slM T) (eVar 5) (oSome (eC (.int 1))) oNone) (aCons (eBin (bAdd T) (eVar 5) (eSl (slM T) (eVar 5) oNone (oSome (eC (.int 1))))) (aCons (eFn (fTuple T) (aCons (eVar 5) aNil)) (aCons (eC .non) (aCons (eBin bMul (eLst (aCons (eC (.bl true)) aNil)) (eFn (fLen T) (aCons (eVar 5) aNil))) (aCons (eBin (bAdd T) (eSl (slM T) (eVar 5) (oSome (eC (.int 1))) oNone) (eSl (slM T) (eVar 5) oNone (oSome (eC (.int 1))))) aNil))))))))) (gNm 6))
  (sFor (iAny T (eBin (bAdd T) (eVar 6) (eLst (aCons (eLc (iAny T (eVar 5)) (gNm 8) tYes' (eFn fStr (aCons (eVar 8) aNil)) [8]) (aCons (eLrg (aCons (eFn (fLen T) (aCons (eVar 3) aNil)) aNil)) aNil))))) (gNm 7) (sIf (tVal (eBin (cEq true) (eFn fRepr (aCons (eCall 2 [] (F_is_order) (aCons (eVar 3) (aCons (eVar 7) aNil))) aNil)) (eFn fRepr (aCons (eCall 2 [] (F__law_is_order) (aCons (eVar 3) (aCons (eVar 7) aNil))) aNil)))) (sRet (eC (.bl false))) sNil)))))))
  (sIf (tNot' (tTru (eCall 1 [] (F__law_bad_right) (aCons (eVar 2) aNil)))) (sRet (eC (.bl false))) sNil))))
  (sRet (eC (.bl true)))))
def F_law : List Val → M Val := fnM 9 m_law
theorem fn_law (G : Facts P w K mg base) {fd : FuncData} (F : FunD K "law" "law" (defArgs (top 29)) (defBody (top 29)) (defScope (top 29)) [] [] (He.fAd K ("law", none)) fd) : FnOk P w K mg base (L2.CX P w) 11 (He.fAd K ("law", none)) fd ["script"] (spM K 1 F_law) := by
  refine can_fn (m := m_law) F sc_law fun cdv A outer s H E hr => ?_
  unfold m_law
  exact (ss_cons (s_if (st_not (st_tru (se_call0 (can__law_limits_right G) (hr.mono (by first | decide | omega)) (takes_of rfl rfl rfl rfl) G.g__law_limits_right))) (ss_one (s_ret se_bl)) ss_nil)
  (ss_cons (s_for (passes_of rfl) rfl (si_rng1 G.n_range (sa_cons (se_fn (fMax_ok G.hT rfl) G.n_max bt_max (sa_cons se_int (sa_cons (se_fn (fMin_ok G.hT rfl) G.n_min bt_min (sa_cons (se_fn (fLen_ok G.hT) G.n_len bt_len (sa_cons (se_v (pv 0)) sa_nil)) (sa_cons se_int sa_nil))) sa_nil))) sa_nil)) (sg_name (pg_name (i := 1) sc_law.nd rfl (by first | exact Or.inl rfl | exact Or.inr rfl))) (ss_cons (s_asg' (ps_set (i := 2) sc_law.nd rfl (by first | exact Or.inl rfl | exact Or.inr rfl) (se_call (can__law_hand G) (hr.mono (by first | decide | omega)) (takes_of rfl rfl rfl rfl) G.g__law_hand (sa_cons (se_v (pv 0)) (sa_cons (se_v (pv 1)) sa_nil)))))
  (ss_cons (s_for (passes_of rfl) rfl (si_any G.hT (se_lst (sa_cons (se_call (can__law_hidden G) (hr.mono (by first | decide | omega)) (takes_of rfl rfl rfl rfl) G.g__law_hidden (sa_cons (se_v (pv 2)) (sa_cons (se_call (can__law_draw G) (hr.mono (by first | decide | omega)) (takes_of rfl rfl rfl rfl) G.g__law_draw (sa_cons (se_v (pv 2)) (sa_cons se_int sa_nil))) sa_nil))) (sa_cons (se_call (can__law_drawn G) (hr.mono (by first | decide | omega)) (takes_of rfl rfl rfl rfl) G.g__law_drawn (sa_cons (se_v (pv 2)) (sa_cons (se_call (can__law_draw G) (hr.mono (by first | decide | omega)) (takes_of rfl rfl rfl rfl) G.g__law_draw (sa_cons (se_v (pv 2)) (sa_cons se_int sa_nil))) sa_nil))) sa_nil)))) (sg_name (pg_name (i := 3) sc_law.nd rfl (by first | exact Or.inl rfl | exact Or.inr rfl))) (ss_cons (s_asg' (ps_set (i := 4) sc_law.nd rfl (by first | exact Or.inl rfl | exact Or.inr rfl) (se_call (can_possible_order G) (hr.mono (by first | decide | omega)) (takes_of rfl rfl rfl rfl) G.g_possible_order (sa_cons (se_v (pv 3)) sa_nil))))
  (ss_cons (s_if (sw_or (st_cmp (op_eq_m (hu64 hr)) (se_cmp op_is_m (se_v (pv 4)) se_non) (se_call (can__law_has_order G) (hr.mono (by first | decide | omega)) (takes_of rfl rfl rfl rfl) G.g__law_has_order (sa_cons (se_v (pv 3)) sa_nil))) (sw_or1 (sw_and (st_cmp op_isnot_m (se_v (pv 4)) se_non) (sw_and1 (st_not (st_tru (se_call (can__law_is_order G) (hr.mono (by first | decide | omega)) (takes_of rfl rfl rfl rfl) G.g__law_is_order (sa_cons (se_v (pv 3)) (sa_cons (se_v (pv 4)) sa_nil))))))).pt)).pt (ss_one (s_ret se_bl)) ss_nil)
  (ss_cons (s_asg' (ps_set (i := 5) sc_law.nd rfl (by first | exact Or.inl rfl | exact Or.inr rfl) (se_or (se_v (pv 4)) (se_and1 (se_lrg1 rfl G.n_list G.n_range (se_fn (fLen_ok G.hT) G.n_len bt_len (sa_cons (se_v (pv 3)) sa_nil)))))))
  (ss_cons (s_asg' (ps_set (i := 6) sc_law.nd rfl (by first | exact Or.inl rfl | exact Or.inr rfl) (se_lst (sa_cons (se_v (pv 5)) (sa_cons (se_rev G.hT (se_v (pv 5))) (sa_cons (se_sl (sl_m G.hT) (se_v (pv 5)) (so_some se_int) so_none) (sa_cons (se_bin (op_add_m T) (se_v (pv 5)) (se_sl (sl_m G.hT) (se_v (pv 5)) so_none (so_some se_int))) (sa_cons (se_fnT (fTuple_ok G.hT) G.n_tuple bt_tuple (sa_cons (se_v (pv 5)) sa_nil)) (sa_cons se_non (sa_cons (se_bin op_mul_m (se_lst (sa_cons se_bl sa_nil)) (se_fn (fLen_ok G.hT) G.n_len bt_len (sa_cons (se_v (pv 5)) sa_nil))) (sa_cons (se_bin (op_add_m T) (se_sl (sl_m G.hT) (se_v (pv 5)) (so_some se_int) so_none) (se_sl (sl_m G.hT) (se_v (pv 5)) so_none (so_some se_int))) sa_nil)))))))))))
  (ss_one (s_for (passes_of rfl) rfl (si_any G.hT (se_bin (op_add_m T) (se_v (pv 6)) (se_lst (sa_cons (se_lc rfl sc_law.nd (si_any G.hT (se_v (pv 5))) (own := [("at", 8)]) (show BlkOk N_law (defScope (top 29)) _ _ from ⟨rfl, by decide +kernel, by decide +kernel, by decide +kernel, by decide +kernel⟩) (go_name (by decide)) gk_name (fun _ _ _ _ _ => (pg_name (i := 8) sc_law.nd rfl (by first | exact Or.inl rfl | exact Or.inr rfl))) (fun _ _ _ _ _ => st_yes) (fun _ _ _ _ _ => (se_fnT fStr_ok G.n_str bt_str (sa_cons (se_v (pv 8)) sa_nil)))) (sa_cons (se_lrg1 rfl G.n_list G.n_range (se_fn (fLen_ok G.hT) G.n_len bt_len (sa_cons (se_v (pv 3)) sa_nil))) sa_nil))))) (sg_name (pg_name (i := 7) sc_law.nd rfl (by first | exact Or.inl rfl | exact Or.inr rfl))) (ss_one (s_if (st_cmp (op_ne_m (hu64 hr)) (se_fn fRepr_ok G.n_repr bt_repr (sa_cons (se_call (can_is_order G) (hr.mono (by first | decide | omega)) (takes_of rfl rfl rfl rfl) G.g_is_order (sa_cons (se_v (pv 3)) (sa_cons (se_v (pv 7)) sa_nil))) sa_nil)) (se_fn fRepr_ok G.n_repr bt_repr (sa_cons (se_call (can__law_is_order G) (hr.mono (by first | decide | omega)) (takes_of rfl rfl rfl rfl) G.g__law_is_order (sa_cons (se_v (pv 3)) (sa_cons (se_v (pv 7)) sa_nil))) sa_nil))) (ss_one (s_ret se_bl)) ss_nil)))))))))
  (ss_one (s_if (st_not (st_tru (se_call (can__law_bad_right G) (hr.mono (by first | decide | omega)) (takes_of rfl rfl rfl rfl) G.g__law_bad_right (sa_cons (se_v (pv 2)) sa_nil)))) (ss_one (s_ret se_bl)) ss_nil)))))
  (ss_one (s_ret se_bl))))
end
end Wk
end
section
set_option Elab.async false
set_option linter.all false
set_option maxRecDepth 100000
set_option maxHeartbeats 0
/-! printed by gen.py: the head. -/
namespace Wk
open PySem PySem.Spec PyProof.Rows L2 Mr
def d__law_is_order : He.DefD := ⟨("_law_is_order", none), "_law_is_order", "_law_is_order", defArgs (top 23), defBody (top 23), defScope (top 23), [], []⟩
def d_is_integer : He.DefD := ⟨("is_integer", none), "is_integer", "is_integer", defArgs (top 6), defBody (top 6), defScope (top 6), [], []⟩
def d_is_key : He.DefD := ⟨("is_key", none), "is_key", "is_key", defArgs (top 7), defBody (top 7), defScope (top 7), [], []⟩
def d_is_operation : He.DefD := ⟨("is_operation", none), "is_operation", "is_operation", defArgs (top 11), defBody (top 11), defScope (top 11), [], []⟩
def d_check_operations : He.DefD := ⟨("check_operations", none), "check_operations", "check_operations", defArgs (top 12), defBody (top 12), defScope (top 12), [], []⟩
def d_merged : He.DefD := ⟨("merged", none), "merged", "merged", defArgs (top 15), defBody (top 15), defScope (top 15), [], []⟩
def d_value_behind : He.DefD := ⟨("value_behind", none), "value_behind", "value_behind", defArgs (top 13), defBody (top 13), defScope (top 13), [], []⟩
def d_order_of_key : He.DefD := ⟨("order_of_key", none), "order_of_key", "order_of_key", defArgs (top 14), defBody (top 14), defScope (top 14), [], []⟩
def d_possible_order : He.DefD := ⟨("possible_order", none), "possible_order", "possible_order", defArgs (top 16), defBody (top 16), defScope (top 16), [], []⟩
def d_is_order : He.DefD := ⟨("is_order", none), "is_order", "is_order", defArgs (top 17), defBody (top 17), defScope (top 17), [], []⟩
def d__law_told : He.DefD := ⟨("_law_told", none), "_law_told", "_law_told", defArgs (top 26), defBody (top 26), defScope (top 26), [], []⟩
def d__law_limits_right : He.DefD := ⟨("_law_limits_right", none), "_law_limits_right", "_law_limits_right", defArgs (top 27), defBody (top 27), defScope (top 27), [], []⟩
def d__law_hand : He.DefD := ⟨("_law_hand", none), "_law_hand", "_law_hand", defArgs (top 19), defBody (top 19), defScope (top 19), [], []⟩
def d__law_draw : He.DefD := ⟨("_law_draw", none), "_law_draw", "_law_draw", defArgs (top 20), defBody (top 20), defScope (top 20), [], []⟩
def d__law_hidden : He.DefD := ⟨("_law_hidden", none), "_law_hidden", "_law_hidden", defArgs (top 21), defBody (top 21), defScope (top 21), [], []⟩
def d__law_drawn : He.DefD := ⟨("_law_drawn", none), "_law_drawn", "_law_drawn", defArgs (top 22), defBody (top 22), defScope (top 22), [], []⟩
def d__law_bad_right : He.DefD := ⟨("_law_bad_right", none), "_law_bad_right", "_law_bad_right", defArgs (top 28), defBody (top 28), defScope (top 28), [], []⟩
def d__law_orders : He.DefD := ⟨("_law_orders", none), "_law_orders", "_law_orders", defArgs (top 24), defBody (top 24), defScope (top 24), [], []⟩
def d__law_has_order : He.DefD := ⟨("_law_has_order", none), "_law_has_order", "_law_has_order", defArgs (top 25), defBody (top 25), defScope (top 25), [], []⟩
def d_law : He.DefD := ⟨("law", none), "law", "law", defArgs (top 29), defBody (top 29), defScope (top 29), [], []⟩
def di_InvalidOperations : He.DefD := ⟨("InvalidOperations", some "__init__"), "__init__", "InvalidOperations.__init__", defArgs (inClass (top 1) 0), defBody (inClass (top 1) 0), defScope (inClass (top 1) 0), [], []⟩
def di_LimitExceeded : He.DefD := ⟨("LimitExceeded", some "__init__"), "__init__", "LimitExceeded.__init__", defArgs (inClass (top 2) 0), defBody (inClass (top 2) 0), defScope (inClass (top 2) 0), [], []⟩
def fn : List He.DefD := [d__law_is_order, d_is_integer, d_is_key, d_is_operation, d_check_operations, d_merged, d_value_behind, d_order_of_key, d_possible_order, d_is_order, d__law_told, d__law_limits_right, d__law_hand, d__law_draw, d__law_hidden, d__law_drawn, d__law_bad_right, d__law_orders, d__law_has_order, d_law, di_InvalidOperations, di_LimitExceeded]
def fa : List FaM := [.he (.glo "_law_is_order"), .he (.glo "is_integer"), .he (.glo "is_key"), .he (.glo "is_operation"), .he (.glo "check_operations"), .he (.glo "merged"), .he (.glo "value_behind"), .he (.glo "order_of_key"), .he (.glo "possible_order"), .he (.glo "is_order"), .he (.glo "_law_told"), .he (.glo "_law_limits_right"), .he (.glo "_law_hand"), .he (.glo "_law_draw"), .he (.glo "_law_hidden"), .he (.glo "_law_drawn"), .he (.glo "_law_bad_right"), .he (.glo "_law_orders"), .he (.glo "_law_has_order"), .he (.glo "law"), .oex "InvalidOperations" 0, .he (.glo "InvalidOperations"), .ini "InvalidOperations", .he (.noat "InvalidOperations" "position"), .oex "LimitExceeded" 3, .he (.glo "LimitExceeded"), .ini "LimitExceeded", .he (.noat "LimitExceeded" "limit"), .he (.free "OverflowError"), .he (.free "ValueError"), .he (.free "all"), .he (.free "any"), .he (.free "bool"), .he (.free "enumerate"), .he (.free "int"), .he (.free "isinstance"), .he (.free "len"), .he (.free "list"), .he (.free "max"), .he (.free "min"), .he (.free "range"), .he (.free "repr"), .he (.free "sorted"), .he (.free "str"), .he (.free "tuple"), .he (.int "MAX_LENGTH" 20), .he (.str "CHARACTERS" "abcdefghijklmnopqrstuvwxyz0123456789"), .he (.int "MOST_OPERATIONS" 12), .he (.glo "WORDS"), .tup "WORDS" [.str "put", .str "delete", .str "get"], .xf "LimitExceeded", .xf "InvalidOperations", .exm "LimitExceeded" (.glo "LimitExceeded") true, .exm "LimitExceeded" (.glo "InvalidOperations") false, .exm "InvalidOperations" (.glo "LimitExceeded") false, .exm "InvalidOperations" (.glo "InvalidOperations") true, .ie "LimitExceeded", .kit "LimitExceeded" (.ty "ValueError") false, .kit "LimitExceeded" (.ty "OverflowError") true, .ie "InvalidOperations", .kit "InvalidOperations" (.ty "ValueError") true, .kit "InvalidOperations" (.ty "OverflowError") false, .nol]
theorem facts {P : Program} {w : World} {K : PySem.W.Frag} {h : Heap} {mg : Str → Option Value} {base : Heap} (X : K.In h) (G : h.Ns mainGlobals mg) (c : SaysM fa fn K) : Facts P w K mg base where
  f__law_is_order := c.def_ 0 (d := d__law_is_order) rfl
  g__law_is_order := He.glo_ok X G (c.fact 0 (f := .he (.glo "_law_is_order")) rfl)
  f_is_integer := c.def_ 1 (d := d_is_integer) rfl
  g_is_integer := He.glo_ok X G (c.fact 1 (f := .he (.glo "is_integer")) rfl)
  f_is_key := c.def_ 2 (d := d_is_key) rfl
  g_is_key := He.glo_ok X G (c.fact 2 (f := .he (.glo "is_key")) rfl)
  f_is_operation := c.def_ 3 (d := d_is_operation) rfl
  g_is_operation := He.glo_ok X G (c.fact 3 (f := .he (.glo "is_operation")) rfl)
  f_check_operations := c.def_ 4 (d := d_check_operations) rfl
  g_check_operations := He.glo_ok X G (c.fact 4 (f := .he (.glo "check_operations")) rfl)
  f_merged := c.def_ 5 (d := d_merged) rfl
  g_merged := He.glo_ok X G (c.fact 5 (f := .he (.glo "merged")) rfl)
  f_value_behind := c.def_ 6 (d := d_value_behind) rfl
  g_value_behind := He.glo_ok X G (c.fact 6 (f := .he (.glo "value_behind")) rfl)
  f_order_of_key := c.def_ 7 (d := d_order_of_key) rfl
  g_order_of_key := He.glo_ok X G (c.fact 7 (f := .he (.glo "order_of_key")) rfl)
  f_possible_order := c.def_ 8 (d := d_possible_order) rfl
  g_possible_order := He.glo_ok X G (c.fact 8 (f := .he (.glo "possible_order")) rfl)
  f_is_order := c.def_ 9 (d := d_is_order) rfl
  g_is_order := He.glo_ok X G (c.fact 9 (f := .he (.glo "is_order")) rfl)
  f__law_told := c.def_ 10 (d := d__law_told) rfl
  g__law_told := He.glo_ok X G (c.fact 10 (f := .he (.glo "_law_told")) rfl)
  f__law_limits_right := c.def_ 11 (d := d__law_limits_right) rfl
  g__law_limits_right := He.glo_ok X G (c.fact 11 (f := .he (.glo "_law_limits_right")) rfl)
  f__law_hand := c.def_ 12 (d := d__law_hand) rfl
  g__law_hand := He.glo_ok X G (c.fact 12 (f := .he (.glo "_law_hand")) rfl)
  f__law_draw := c.def_ 13 (d := d__law_draw) rfl
  g__law_draw := He.glo_ok X G (c.fact 13 (f := .he (.glo "_law_draw")) rfl)
  f__law_hidden := c.def_ 14 (d := d__law_hidden) rfl
  g__law_hidden := He.glo_ok X G (c.fact 14 (f := .he (.glo "_law_hidden")) rfl)
  f__law_drawn := c.def_ 15 (d := d__law_drawn) rfl
  g__law_drawn := He.glo_ok X G (c.fact 15 (f := .he (.glo "_law_drawn")) rfl)
  f__law_bad_right := c.def_ 16 (d := d__law_bad_right) rfl
  g__law_bad_right := He.glo_ok X G (c.fact 16 (f := .he (.glo "_law_bad_right")) rfl)
  f__law_orders := c.def_ 17 (d := d__law_orders) rfl
  g__law_orders := He.glo_ok X G (c.fact 17 (f := .he (.glo "_law_orders")) rfl)
  f__law_has_order := c.def_ 18 (d := d__law_has_order) rfl
  g__law_has_order := He.glo_ok X G (c.fact 18 (f := .he (.glo "_law_has_order")) rfl)
  f_law := c.def_ 19 (d := d_law) rfl
  g_law := He.glo_ok X G (c.fact 19 (f := .he (.glo "law")) rfl)
  x_InvalidOperations := oex_ok (c.fact 20 (f := .oex "InvalidOperations" 0) rfl)
  y_InvalidOperations := He.glo_ok X G (c.fact 21 (f := .he (.glo "InvalidOperations")) rfl)
  z_InvalidOperations := c.def_ 20 (d := di_InvalidOperations) rfl
  i_InvalidOperations := ini_ok (c.fact 22 (f := .ini "InvalidOperations") rfl)
  n_InvalidOperations_position := He.noat_ok (c.fact 23 (f := .he (.noat "InvalidOperations" "position")) rfl)
  x_LimitExceeded := oex_ok (c.fact 24 (f := .oex "LimitExceeded" 3) rfl)
  y_LimitExceeded := He.glo_ok X G (c.fact 25 (f := .he (.glo "LimitExceeded")) rfl)
  z_LimitExceeded := c.def_ 21 (d := di_LimitExceeded) rfl
  i_LimitExceeded := ini_ok (c.fact 26 (f := .ini "LimitExceeded") rfl)
  n_LimitExceeded_limit := He.noat_ok (c.fact 27 (f := .he (.noat "LimitExceeded" "limit")) rfl)
  n_OverflowError := He.free_ok X G (c.fact 28 (f := .he (.free "OverflowError")) rfl)
  n_ValueError := He.free_ok X G (c.fact 29 (f := .he (.free "ValueError")) rfl)
  n_all := He.free_ok X G (c.fact 30 (f := .he (.free "all")) rfl)
  n_any := He.free_ok X G (c.fact 31 (f := .he (.free "any")) rfl)
  n_bool := He.free_ok X G (c.fact 32 (f := .he (.free "bool")) rfl)
  n_enumerate := He.free_ok X G (c.fact 33 (f := .he (.free "enumerate")) rfl)
  n_int := He.free_ok X G (c.fact 34 (f := .he (.free "int")) rfl)
  n_isinstance := He.free_ok X G (c.fact 35 (f := .he (.free "isinstance")) rfl)
  n_len := He.free_ok X G (c.fact 36 (f := .he (.free "len")) rfl)
  n_list := He.free_ok X G (c.fact 37 (f := .he (.free "list")) rfl)
  n_max := He.free_ok X G (c.fact 38 (f := .he (.free "max")) rfl)
  n_min := He.free_ok X G (c.fact 39 (f := .he (.free "min")) rfl)
  n_range := He.free_ok X G (c.fact 40 (f := .he (.free "range")) rfl)
  n_repr := He.free_ok X G (c.fact 41 (f := .he (.free "repr")) rfl)
  n_sorted := He.free_ok X G (c.fact 42 (f := .he (.free "sorted")) rfl)
  n_str := He.free_ok X G (c.fact 43 (f := .he (.free "str")) rfl)
  n_tuple := He.free_ok X G (c.fact 44 (f := .he (.free "tuple")) rfl)
  v_MAX_LENGTH := gv_int X G (c.fact 45 (f := .he (.int "MAX_LENGTH" 20)) rfl)
  v_CHARACTERS := gv_str X G (c.fact 46 (f := .he (.str "CHARACTERS" "abcdefghijklmnopqrstuvwxyz0123456789")) rfl)
  v_MOST_OPERATIONS := gv_int X G (c.fact 47 (f := .he (.int "MOST_OPERATIONS" 12)) rfl)
  v_WORDS := gv_glo X G (c.fact 48 (f := .he (.glo "WORDS")) rfl)
  hT := (con_cons (x := "WORDS") (xs := [.str "put", .str "delete", .str "get"]) rfl (c.fact 49 (f := .tup "WORDS" [.str "put", .str "delete", .str "get"]) rfl) con_nil)
  hX := (xf_cons (c.fact 51 (f := .xf "InvalidOperations") rfl) (fun f hf => by simp at hf; rcases hf with rfl <;> first | exact He.noat_ok (c.fact 23 (f := .he (.noat "InvalidOperations" "position")) rfl)) (xf_cons (c.fact 50 (f := .xf "LimitExceeded") rfl) (fun f hf => by simp at hf; rcases hf with rfl <;> first | exact He.noat_ok (c.fact 27 (f := .he (.noat "LimitExceeded" "limit")) rfl)) xf_nil))
  hE := (ex_cons (c.fact 55 (f := .exm "InvalidOperations" (.glo "InvalidOperations") true) rfl) (ex_cons (c.fact 54 (f := .exm "InvalidOperations" (.glo "LimitExceeded") false) rfl) (ex_cons (c.fact 53 (f := .exm "LimitExceeded" (.glo "InvalidOperations") false) rfl) (ex_cons (c.fact 52 (f := .exm "LimitExceeded" (.glo "LimitExceeded") true) rfl) ex_nil))))
  hIe := (ie_cons (c.fact 59 (f := .ie "InvalidOperations") rfl) (c.fact 61 (f := .kit "InvalidOperations" (.ty "OverflowError") false) rfl) (ie_cons (c.fact 59 (f := .ie "InvalidOperations") rfl) (c.fact 60 (f := .kit "InvalidOperations" (.ty "ValueError") true) rfl) (ie_cons (c.fact 56 (f := .ie "LimitExceeded") rfl) (c.fact 58 (f := .kit "LimitExceeded" (.ty "OverflowError") true) rfl) (ie_cons (c.fact 56 (f := .ie "LimitExceeded") rfl) (c.fact 57 (f := .kit "LimitExceeded" (.ty "ValueError") false) rfl) ie_nil))))
  hI := is_nil
def loose0 : List Str := ["InvalidOperations", "LimitExceeded", "MAX_LENGTH", "CHARACTERS", "is_integer", "is_key", "MOST_OPERATIONS", "WORDS", "is_operation", "check_operations", "value_behind", "order_of_key", "merged", "possible_order", "is_order", "_law_hand", "_law_draw", "_law_hidden", "_law_drawn", "_law_is_order", "_law_orders", "_law_has_order", "_law_told", "_law_limits_right", "_law_bad_right"]
abbrev loose : List Str := ["InvalidOperations", "LimitExceeded", "MAX_LENGTH", "CHARACTERS", "is_integer", "is_key", "MOST_OPERATIONS", "WORDS", "is_operation", "check_operations", "value_behind", "order_of_key", "merged", "possible_order", "is_order", "_law_hand", "_law_draw", "_law_hidden", "_law_drawn", "_law_is_order", "_law_orders", "_law_has_order", "_law_told", "_law_limits_right", "_law_bad_right"]
abbrev R : PySem.W.OpenRow := PySem.W.OpenLaw.row PySem.Challenge.rw_fullestfirst_k90_orders_of_operations
abbrev hk : PySem.W.Hook := hookM 6 fa fn
def ob (s : PySem.W.SharedT) : He.AlD := obsMG 6 fa fn (HandSHeadRun.getT s)
theorem ob_eq (s : PySem.W.SharedT) : ob s = hk.obs s.abs := obsMG_eq (HandSHeadRun.getT_eq s)
theorem run (w : World) : HandSHeadRun.RunEq R (PySem.W.view R.prog [29]) hk ob 100000 loose w := by
  intro os
  kernel_rfl
end Wk
open PySem PySem.W PySem.Calls PyProof.Rows
theorem Wk.holds_of (hR : ∀ ns : List Int, ns.length ≤ 63 → (∀ z ∈ ns, Builtin.Int.intBits z ≤ 1048576) → Mr.Right Wk.F_law ns) : PySem.Challenge.rw_fullestfirst_k90_orders_of_operations.Holds := by
  w_on; o_law
  refine HandSHeadRun.head_any (r := OpenLaw.row PySem.Challenge.rw_fullestfirst_k90_orders_of_operations) (q := view (OpenLaw.row PySem.Challenge.rw_fullestfirst_k90_orders_of_operations).prog [29]) (H := Wk.hk) (ob := Wk.ob) (M := 100000) (loose := Wk.loose) (d := HandSHeadRun.topDef (OpenLaw.row PySem.Challenge.rw_fullestfirst_k90_orders_of_operations).prog 29) (kwd := []) Wk.ob_eq
    (by kernel_rfl) (fun s => by kernel_rfl) Wk.run (by kernel_rfl) (by kernel_rfl) (by kernel_rfl) (by rfl) (by first | assumption | decide +kernel) (by decide +kernel) ⟨rfl, rfl, rfl, rfl, rfl, by decide +kernel⟩ ?hw ?hc
  case hw => w_witness2
  case hc =>
    refine Mr.walk_M (l := PySem.Challenge.rw_fullestfirst_k90_orders_of_operations) (n := 63) (k := 11) (x := "script") (f := Wk.F_law) rfl (by decide) (by kernel_rfl) ⟨rfl, by decide, by decide⟩ ?F hR
    intro w mg fa h Y G hmg0
    obtain ⟨K, KX, c⟩ := Y
    have hmg : mg ("law" : PySem.Str) = some (.ref fa) := by
      have e : (HandSHeadRun.topDef (OpenLaw.row PySem.Challenge.rw_fullestfirst_k90_orders_of_operations).prog 29).name = ("law" : PySem.Str) := by kernel_rfl
      rw [← e]
      exact hmg0
    have T := fun base : Heap => Wk.facts (P := (PySem.Challenge.rw_fullestfirst_k90_orders_of_operations).prog) (w := w) (base := base) KX G c
    obtain ⟨fd, F⟩ := (T h).f_law
    have e := hmg.symm.trans (T h).g_law
    cases e
    have b := L2.FunD.bindsA (ps := ["script"]) F fun _ _ _ _ _ _ us hl => match us, hl with | [_], _ => rfl
    refine ⟨K, fd, KX, fun a o hk => Mr.nol_ok (c.fact 62 (f := .nol) rfl) hk, fun s v => b s [v] rfl, fun base _ _ => ?_⟩
    exact Wk.fn_law (T base) F
end
section
set_option linter.all false
set_option maxRecDepth 10000
/-! k90, the mathematics: orders of operations, no text in sight. -/
namespace K90
inductive Wd where
  | put | get | del
  deriving DecidableEq
structure Op (κ : Type) where
  b : Int
  e : Int
  w : Wd
  k : κ
  v : Option Int
/-- what a key holds behind an operation, and whether that is right -/
def vb {κ : Type} (o : Op κ) (x : Option Int) : Bool × Option Int := match o.w with
  | .put => (true, o.v)
  | .get => (decide (o.v = x), x)
  | .del => (decide (o.v = x), none)
section
variable {κ : Type} [DecidableEq κ] (f : Nat → Op κ)
def RT (l : List Nat) : Prop := l.Pairwise fun i j => (f i).b ≤ (f j).e
/-- one key's operations in a row from the value x -/
def KSem : List Nat → Option Int → Prop
  | [], _ => True
  | i :: r, x => (vb (f i) x).1 = true ∧ KSem r (vb (f i) x).2
/-- all keys: m tells what each holds -/
def Sem : List Nat → (κ → Option Int) → Prop
  | [], _ => True
  | i :: r, m => (vb (f i) (m (f i).k)).1 = true ∧ Sem r (fun k => if k = (f i).k then (vb (f i) (m (f i).k)).2 else m k)
def isK (k : κ) (i : Nat) : Bool := decide ((f i).k = k)
variable {f}
theorem sem_keys : ∀ (l : List Nat) (m : κ → Option Int), Sem f l m ↔ ∀ k, KSem f (l.filter (isK f k)) (m k)
  | [], m => ⟨fun _ _ => trivial, fun _ => trivial⟩
  | i :: r, m => by
    have ih := sem_keys r
    constructor
    · intro ⟨h1, h2⟩ k
      have h3 := (ih _).mp h2 k
      by_cases e : (f i).k = k
      · have : isK f k i = true := decide_eq_true e
        rw [List.filter_cons, if_pos this]
        subst e
        refine ⟨h1, ?_⟩
        simp only [if_pos] at h3
        exact h3
      · have : ¬ isK f k i = true := by unfold isK; simp [e]
        rw [List.filter_cons, if_neg this]
        have e' : ¬ k = (f i).k := fun z => e z.symm
        simp only [if_neg e'] at h3
        exact h3
    · intro h
      have h0 := h (f i).k
      have : isK f (f i).k i = true := decide_eq_true rfl
      rw [List.filter_cons, if_pos this] at h0
      refine ⟨h0.1, (ih _).mpr fun k => ?_⟩
      by_cases e : k = (f i).k
      · subst e
        simp only [if_pos]
        exact h0.2
      · simp only [if_neg e]
        have h1 := h k
        have : ¬ isK f k i = true := by unfold isK; simp; exact fun z => e z.symm
        rw [List.filter_cons, if_neg this] at h1
        exact h1

/-! ### the search of one key's order -/
/-- what is left of ix -/
def left (ix o : List Nat) : List Nat := ix.filter fun a => decide (a ∉ o)
/-- an entry can be finished -/
def Extd (f : Nat → Op κ) (ix o : List Nat) (x : Option Int) : Prop := ∃ r, r.Perm (left ix o) ∧ RT f r ∧ KSem f r x
/-- what the search keeps of an entry: a part of an order -/
structure Part (f : Nat → Op κ) (ix o : List Nat) (x : Option Int) : Prop where
  sub : ∀ a ∈ o, a ∈ ix
  nd : o.Nodup
  rt : RT f o
  out : ∀ a ∈ o, ∀ c ∈ left ix o, (f a).b ≤ (f c).e
  sem : ∀ r, KSem f r x → KSem f (o ++ r) none
/-- which of the left may come next -/
def may (f : Nat → Op κ) (ix o : List Nat) (x : Option Int) (a : Nat) : Prop := (vb (f a) x).1 = true ∧ ∀ c ∈ left ix o, (f a).b ≤ (f c).e
theorem left_nd {ix o : List Nat} (h : ix.Nodup) : (left ix o).Nodup := h.filter _
theorem mem_left {ix o : List Nat} {a : Nat} : a ∈ left ix o ↔ a ∈ ix ∧ a ∉ o := by unfold left; simp
theorem left_len {ix o : List Nat} (hi : ix.Nodup) (ho : o.Nodup) (hs : ∀ a ∈ o, a ∈ ix) : (left ix o).length + o.length = ix.length := by
  have h1 : (left ix o ++ o).Perm ix := by
    refine (List.perm_ext_iff_of_nodup ?_ hi).mpr fun a => ?_
    · refine List.nodup_append.mpr ⟨left_nd hi, ho, fun a ha b hb e => ?_⟩
      subst e
      exact (mem_left.mp ha).2 hb
    · rw [List.mem_append, mem_left]
      constructor
      · rintro (⟨h, _⟩ | h)
        · exact h
        · exact hs a h
      · intro h
        by_cases z : a ∈ o
        · exact .inr z
        · exact .inl ⟨h, z⟩
  have := h1.length_eq
  rw [List.length_append] at this
  exact this
theorem part_nil {ix : List Nat} : Part f ix [] none := ⟨fun a h => (by cases h), List.nodup_nil, List.Pairwise.nil, fun a h => (by cases h), fun r h => h⟩
theorem ksem_app {x : Option Int} : ∀ {o : List Nat} {a : Nat} {y : Option Int} {r : List Nat}, KSem f (a :: r) y → (vb (f a) y).1 = true ∧ KSem f r (vb (f a) y).2 := fun h => h
/-- the next entries are parts -/
theorem Part.next {ix o : List Nat} {x : Option Int} {a : Nat} (p : Part f ix o x) (ha : a ∈ left ix o) (m : may f ix o x a) : Part f ix (o ++ [a]) (vb (f a) x).2 := by
  obtain ⟨h1, h2⟩ := mem_left.mp ha
  have sub' : ∀ c, c ∈ left ix (o ++ [a]) → c ∈ left ix o := fun c hc => by
    obtain ⟨k1, k2⟩ := mem_left.mp hc
    exact mem_left.mpr ⟨k1, fun z => k2 (List.mem_append_left _ z)⟩
  refine ⟨fun c hc => ?_, ?_, ?_, fun c hc d hd => ?_, fun r hr => ?_⟩
  · rcases List.mem_append.mp hc with z | z
    · exact p.sub c z
    · have : c = a := by simpa using z
      rw [this]; exact h1
  · refine List.nodup_append.mpr ⟨p.nd, by simp, fun c hc d hd e => ?_⟩
    have : d = a := by simpa using hd
    rw [e, this] at hc
    exact h2 hc
  · refine List.pairwise_append.mpr ⟨p.rt, List.pairwise_singleton _ _, fun c hc d hd => ?_⟩
    have : d = a := by simpa using hd
    rw [this]
    exact p.out c hc a ha
  · rcases List.mem_append.mp hc with z | z
    · exact p.out c z d (sub' d hd)
    · have : c = a := by simpa using z
      rw [this]
      exact m.2 d (sub' d hd)
  · rw [List.append_assoc]
    exact p.sem (a :: r) ⟨m.1, hr⟩
/-- a whole part is an order -/
theorem Part.whole {ix o : List Nat} {x : Option Int} (p : Part f ix o x) (hi : ix.Nodup) (hl : o.length = ix.length) : o.Perm ix ∧ RT f o ∧ KSem f o none := by
  have h1 := left_len hi p.nd p.sub
  have h2 : left ix o = [] := List.length_eq_zero_iff.mp (by omega)
  refine ⟨(List.perm_ext_iff_of_nodup p.nd hi).mpr fun a => ⟨p.sub a, fun h => ?_⟩, p.rt, ?_⟩
  · by_cases z : a ∈ o
    · exact z
    · have : a ∈ left ix o := mem_left.mpr ⟨h, z⟩
      rw [h2] at this; cases this
  · have := p.sem [] trivial
    rw [List.append_nil] at this
    exact this
/-- a finishable entry that is not whole has a finishable next one -/
theorem Extd.next {ix o : List Nat} {x : Option Int} (hi : ix.Nodup) (hbe : ∀ a ∈ ix, (f a).b ≤ (f a).e) (h : Extd f ix o x) (hne : left ix o ≠ []) : ∃ a ∈ left ix o, may f ix o x a ∧ Extd f ix (o ++ [a]) (vb (f a) x).2 := by
  obtain ⟨r, hp, hr, hs⟩ := h
  cases r with
  | nil => exact absurd (List.nil_perm.mp hp) hne
  | cons a r =>
    have ha : a ∈ left ix o := hp.mem_iff.mp List.mem_cons_self
    obtain ⟨r1, r2⟩ := List.pairwise_cons.mp hr
    refine ⟨a, ha, ⟨hs.1, fun c hc => ?_⟩, r, ?_, r2, hs.2⟩
    · rcases List.mem_cons.mp (hp.mem_iff.mpr hc) with z | z
      · rw [z]; exact hbe a (mem_left.mp ha).1
      · exact r1 c z
    · have nd : (a :: r).Nodup := hp.nodup_iff.mpr (left_nd hi)
      obtain ⟨n1, n2⟩ := List.nodup_cons.mp nd
      refine (List.perm_ext_iff_of_nodup n2 (left_nd hi)).mpr fun c => ?_
      constructor
      · intro hc
        obtain ⟨k1, k2⟩ := mem_left.mp (hp.mem_iff.mp (List.mem_cons_of_mem _ hc))
        refine mem_left.mpr ⟨k1, fun z => ?_⟩
        rcases List.mem_append.mp z with z | z
        · exact k2 z
        · have : c = a := by simpa using z
          rw [this] at hc; exact n1 hc
      · intro hc
        obtain ⟨k1, k2⟩ := mem_left.mp hc
        have : c ∈ a :: r := hp.mem_iff.mpr (mem_left.mpr ⟨k1, fun z => k2 (List.mem_append_left _ z)⟩)
        rcases List.mem_cons.mp this with z | z
        · exact absurd (List.mem_append_right _ (by simp [z])) k2
        · exact z
theorem Extd.same {ix o o' : List Nat} {x : Option Int} (h : Extd f ix o x) (e : ∀ a, a ∈ o ↔ a ∈ o') : Extd f ix o' x := by
  have : left ix o' = left ix o := by
    unfold left
    refine List.filter_congr fun a _ => ?_
    simp [e a]
  obtain ⟨r, hp, q⟩ := h
  exact ⟨r, this ▸ hp, q⟩

/-! ### the search as it runs: entries wait (the last one is next), keys are seen -/
abbrev Ent := List Nat × Option Int
structure SInv (f : Nat → Op κ) (ix : List Nat) (wait : List Ent) (seen : List Ent) : Prop where
  part : ∀ p ∈ wait, Part f ix p.1 p.2
  one : Extd f ix [] none → ∃ p ∈ wait, Extd f ix p.1 p.2
  mem : ∀ q ∈ seen, Extd f ix q.1 q.2 → ∃ p ∈ wait, Extd f ix p.1 p.2 ∧ q.1.length < p.1.length
theorem sinv_start {ix : List Nat} : SInv f ix [([], none)] [] := ⟨fun p hp => by simp at hp; subst hp; exact part_nil, fun h => ⟨_, List.mem_singleton.mpr rfl, h⟩, fun q hq => by cases hq⟩
/-- the last entry was seen before -/
theorem SInv.drop {ix : List Nat} {wait seen : List Ent} {o : List Nat} {x : Option Int} (s : SInv f ix (wait ++ [(o, x)]) seen) {q : List Nat} (hq : (q, x) ∈ seen) (e : ∀ a, a ∈ o ↔ a ∈ q) (hl : o.length = q.length) : SInv f ix wait seen := by
  have back : ∀ (p : Ent), p ∈ wait ++ [(o, x)] → Extd f ix p.1 p.2 → ∃ p' ∈ wait, Extd f ix p'.1 p'.2 ∧ p.1.length ≤ p'.1.length := fun p hp hx => by
    rcases List.mem_append.mp hp with z | z
    · exact ⟨p, z, hx, Nat.le_refl _⟩
    · have ep : p = (o, x) := by simpa using z
      subst ep
      obtain ⟨p', h1, h2, h3⟩ := s.mem (q, x) hq (Extd.same hx e)
      rcases List.mem_append.mp h1 with z | z
      · exact ⟨p', z, h2, by have : q.length < p'.1.length := h3; show o.length ≤ _; omega⟩
      · have ep : p' = (o, x) := by simpa using z
        subst ep
        have : q.length < o.length := h3
        omega
  refine ⟨fun p hp => s.part p (List.mem_append_left _ hp), fun h => ?_, fun r hr h => ?_⟩
  · obtain ⟨p, h1, h2⟩ := s.one h
    obtain ⟨p', k1, k2, _⟩ := back p h1 h2
    exact ⟨p', k1, k2⟩
  · obtain ⟨p, h1, h2, h3⟩ := s.mem r hr h
    obtain ⟨p', k1, k2, k3⟩ := back p h1 h2
    exact ⟨p', k1, k2, by omega⟩
/-- the last entry is new: its next ones wait now -/
theorem SInv.push {ix : List Nat} {wait seen new : List Ent} {o q : List Nat} {x : Option Int} (s : SInv f ix (wait ++ [(o, x)]) seen) (hi : ix.Nodup) (hbe : ∀ a ∈ ix, (f a).b ≤ (f a).e) (hl : o.length ≠ ix.length) (e : ∀ a, a ∈ o ↔ a ∈ q) (hlq : o.length = q.length)
    (hn : ∀ p : Ent, p ∈ new ↔ ∃ a ∈ left ix o, may f ix o x a ∧ p = (o ++ [a], (vb (f a) x).2)) : SInv f ix (wait ++ new) (seen ++ [(q, x)]) := by
  have hp0 := s.part (o, x) (List.mem_append_right _ (by simp))
  have hne : left ix o ≠ [] := fun z => by
    have := left_len hi hp0.nd hp0.sub
    rw [z] at this
    have this : 0 + o.length = ix.length := this
    omega
  have child : Extd f ix o x → ∃ p ∈ wait ++ new, Extd f ix p.1 p.2 ∧ o.length < p.1.length := fun hx => by
    obtain ⟨a, ha, hm, hx'⟩ := Extd.next hi hbe hx hne
    exact ⟨(o ++ [a], (vb (f a) x).2), List.mem_append_right _ ((hn _).mpr ⟨a, ha, hm, rfl⟩), hx', by simp⟩
  have back : ∀ (p : Ent), p ∈ wait ++ [(o, x)] → Extd f ix p.1 p.2 → ∃ p' ∈ wait ++ new, Extd f ix p'.1 p'.2 ∧ p.1.length ≤ p'.1.length := fun p hp hx => by
    rcases List.mem_append.mp hp with z | z
    · exact ⟨p, List.mem_append_left _ z, hx, Nat.le_refl _⟩
    · have ep : p = (o, x) := by simpa using z
      subst ep
      obtain ⟨p', h1, h2, h3⟩ := child hx
      exact ⟨p', h1, h2, Nat.le_of_lt h3⟩
  refine ⟨fun p hp => ?_, fun h => ?_, fun r hr h => ?_⟩
  · rcases List.mem_append.mp hp with z | z
    · exact s.part p (List.mem_append_left _ z)
    · obtain ⟨a, ha, hm, rfl⟩ := (hn p).mp z
      exact hp0.next ha hm
  · obtain ⟨p, h1, h2⟩ := s.one h
    obtain ⟨p', k1, k2, _⟩ := back p h1 h2
    exact ⟨p', k1, k2⟩
  · rcases List.mem_append.mp hr with z | z
    · obtain ⟨p, h1, h2, h3⟩ := s.mem r z h
      obtain ⟨p', k1, k2, k3⟩ := back p h1 h2
      exact ⟨p', k1, k2, by omega⟩
    · have er : r = (q, x) := by simpa using z
      subst er
      obtain ⟨p', h1, h2, h3⟩ := child (Extd.same h fun a => (e a).symm)
      exact ⟨p', h1, h2, by show q.length < _; omega⟩
/-- how many entries can still come -/
def tree : Nat → Nat
  | 0 => 1
  | n + 1 => 1 + (n + 1) * tree n
theorem tree_succ (n : Nat) : tree (n + 1) = 1 + (n + 1) * tree n := rfl
def meas (n : Nat) (wait : List Ent) : Nat := (wait.map fun p => tree (n - p.1.length)).sum
theorem meas_app (n : Nat) (a b : List Ent) : meas n (a ++ b) = meas n a + meas n b := by unfold meas; rw [List.map_append, List.sum_append]
theorem meas_drop (n : Nat) (wait : List Ent) (p : Ent) : meas n wait + 1 ≤ meas n (wait ++ [p]) := by
  rw [meas_app]
  have : 1 ≤ meas n [p] := by
    unfold meas
    simp only [List.map_cons, List.map_nil, List.sum_cons, List.sum_nil]
    have : 1 ≤ tree (n - p.1.length) := by cases n - p.1.length <;> simp [tree]
    omega
  omega
theorem meas_push (n : Nat) (wait new : List Ent) (o : List Nat) (x : Option Int) (ho : o.length < n) (h1 : ∀ p ∈ new, p.1.length = o.length + 1) (h2 : new.length ≤ n - o.length) : meas n (wait ++ new) + 1 ≤ meas n (wait ++ [(o, x)]) := by
  rw [meas_app, meas_app]
  have e1 : meas n [(o, x)] = tree (n - o.length) := by unfold meas; simp
  have e2 : ∀ l : List Ent, (∀ p ∈ l, p.1.length = o.length + 1) → meas n l = l.length * tree (n - (o.length + 1)) := by
    intro l
    induction l with
    | nil => intro _; simp [meas]
    | cons p r ih =>
      intro h
      have := ih fun q hq => h q (List.mem_cons_of_mem _ hq)
      unfold meas at this ⊢
      rw [List.map_cons, List.sum_cons, this, h p List.mem_cons_self, List.length_cons, Nat.add_mul, Nat.one_mul, Nat.add_comm]
  rw [e1, e2 new h1]
  have e3 : n - o.length = (n - (o.length + 1)) + 1 := by omega
  rw [e3, tree_succ]
  have : new.length * tree (n - (o.length + 1)) ≤ (n - (o.length + 1) + 1) * tree (n - (o.length + 1)) := Nat.mul_le_mul_right _ (by omega)
  omega

/-! ### the merge -/
/-- the orders' heads: the first one whose begin is at most all ends may come -/
theorem head_may {orders : List (List Nat)} (hr : ∀ l ∈ orders, RT f l) (hbe : ∀ l ∈ orders, ∀ a ∈ l, (f a).b ≤ (f a).e) {x : Nat} {l : List Nat} (hl : l ∈ orders) (hx : x ∈ l) : ∃ a r, l = a :: r ∧ (f a).b ≤ (f x).e := by
  cases l with
  | nil => cases hx
  | cons a r =>
    refine ⟨a, r, rfl, ?_⟩
    rcases List.mem_cons.mp hx with z | z
    · rw [z]; exact hbe _ hl a List.mem_cons_self
    · exact (List.pairwise_cons.mp (hr _ hl)).1 x z
/-- each list is of one key, no two of the same -/
structure KD (f : Nat → Op κ) (orders : List (List Nat)) : Prop where
  one : ∀ l ∈ orders, ∀ a ∈ l, ∀ c ∈ l, (f a).k = (f c).k
  two : orders.Pairwise fun l l' => ∀ a ∈ l, ∀ c ∈ l', (f a).k ≠ (f c).k
/-- what the merge keeps: found, then what is left -/
structure MInv (f : Nat → Op κ) (orders0 : List (List Nat)) (found : List Nat) (orders : List (List Nat)) : Prop where
  perm : (found ++ orders.flatten).Perm orders0.flatten
  rt : RT f found
  out : ∀ a ∈ found, ∀ c ∈ orders.flatten, (f a).b ≤ (f c).e
  each : ∀ l ∈ orders, RT f l
  kd : KD f orders
  keep : ∀ k, (found ++ orders.flatten).filter (isK f k) = orders0.flatten.filter (isK f k)
theorem minv_start {orders : List (List Nat)} (h : ∀ l ∈ orders, RT f l) (kd : KD f orders) : MInv f orders [] orders := ⟨.refl _, .nil, fun a h => (by cases h), h, kd, fun _ => rfl⟩
theorem MInv.step {orders0 pre post : List (List Nat)} {found r : List Nat} {a : Nat} (m : MInv f orders0 found (pre ++ (a :: r) :: post)) (h : ∀ c ∈ (pre ++ (a :: r) :: post).flatten, (f a).b ≤ (f c).e) : MInv f orders0 (found ++ [a]) (pre ++ r :: post) := by
  have e1 : (pre ++ (a :: r) :: post).flatten = pre.flatten ++ (a :: (r ++ post.flatten)) := by simp
  have e2 : (pre ++ r :: post).flatten = pre.flatten ++ (r ++ post.flatten) := by simp
  have sub : ∀ c ∈ (pre ++ r :: post).flatten, c ∈ (pre ++ (a :: r) :: post).flatten := fun c hc => by
    rw [e2] at hc
    rw [e1]
    rcases List.mem_append.mp hc with z | z
    · exact List.mem_append_left _ z
    · exact List.mem_append_right _ (List.mem_cons_of_mem _ z)
  obtain ⟨two1, two2, two3⟩ := List.pairwise_append.mp m.kd.two
  obtain ⟨two4, two5⟩ := List.pairwise_cons.mp two2
  refine ⟨?_, ?_, fun c hc d hd => ?_, fun l hl => ?_, ⟨fun l hl => ?_, ?_⟩, fun k => ?_⟩
  · refine List.Perm.trans ?_ m.perm
    rw [e1, e2, List.append_assoc]
    refine List.Perm.append_left _ ?_
    show (a :: (pre.flatten ++ (r ++ post.flatten))).Perm (pre.flatten ++ (a :: (r ++ post.flatten)))
    exact (List.perm_middle).symm
  · refine List.pairwise_append.mpr ⟨m.rt, List.pairwise_singleton _ _, fun c hc d hd => ?_⟩
    have : d = a := by simpa using hd
    rw [this]
    refine m.out c hc a ?_
    rw [e1]
    exact List.mem_append_right _ List.mem_cons_self
  · rcases List.mem_append.mp hc with z | z
    · exact m.out c z d (sub d hd)
    · have : c = a := by simpa using z
      rw [this]
      exact h d (sub d hd)
  · rcases List.mem_append.mp hl with z | z
    · exact m.each l (List.mem_append_left _ z)
    · rcases List.mem_cons.mp z with z | z
      · rw [z]
        exact (List.pairwise_cons.mp (m.each (a :: r) (List.mem_append_right _ List.mem_cons_self))).2
      · exact m.each l (List.mem_append_right _ (List.mem_cons_of_mem _ z))
  · rcases List.mem_append.mp hl with z | z
    · exact m.kd.one l (List.mem_append_left _ z)
    · rcases List.mem_cons.mp z with z | z
      · intro c hc d hd
        rw [z] at hc hd
        exact m.kd.one (a :: r) (List.mem_append_right _ List.mem_cons_self) c (List.mem_cons_of_mem _ hc) d (List.mem_cons_of_mem _ hd)
      · exact m.kd.one l (List.mem_append_right _ (List.mem_cons_of_mem _ z))
  · refine List.pairwise_append.mpr ⟨two1, List.pairwise_cons.mpr ⟨fun l hl c hc d hd => two4 l hl c (List.mem_cons_of_mem _ hc) d hd, two5⟩, fun l hl l' hl' c hc d hd => ?_⟩
    rcases List.mem_cons.mp hl' with z | z
    · rw [z] at hd
      exact two3 l hl (a :: r) List.mem_cons_self c hc d (List.mem_cons_of_mem _ hd)
    · exact two3 l hl l' (List.mem_cons_of_mem _ z) c hc d hd
  · rw [← m.keep k, e1, e2]
    simp only [List.filter_append, List.filter_cons, List.append_assoc]
    by_cases z : isK f k a = true
    · have : pre.flatten.filter (isK f k) = [] := by
        refine List.filter_eq_nil_iff.mpr fun c hc hk => ?_
        obtain ⟨l, hl, hc⟩ := List.mem_flatten.mp hc
        exact two3 l hl (a :: r) List.mem_cons_self c hc a List.mem_cons_self ((of_decide_eq_true hk).trans (of_decide_eq_true z).symm)
      rw [this]
      simp [z]
    · simp [z]
/-- the merge's end -/
theorem MInv.whole {orders0 orders : List (List Nat)} {found : List Nat} (m : MInv f orders0 found orders) (h : ∀ l ∈ orders, l = []) : found.Perm orders0.flatten ∧ RT f found ∧ ∀ k, found.filter (isK f k) = orders0.flatten.filter (isK f k) := by
  have e : orders.flatten = [] := List.flatten_eq_nil_iff.mpr h
  have h1 := m.perm
  rw [e, List.append_nil] at h1
  refine ⟨h1, m.rt, fun k => ?_⟩
  have h2 := m.keep k
  rw [e, List.append_nil] at h2
  exact h2
theorem kd_sem {k : κ} : ∀ {orders : List (List Nat)}, KD f orders → (∀ l ∈ orders, KSem f l none) → KSem f (orders.flatten.filter (isK f k)) none
  | [], _, _ => trivial
  | l :: r, d, h => by
    obtain ⟨t1, t2⟩ := List.pairwise_cons.mp d.two
    have ih := kd_sem (k := k) (orders := r) ⟨fun x hx => d.one x (List.mem_cons_of_mem _ hx), t2⟩ fun x hx => h x (List.mem_cons_of_mem _ hx)
    rw [List.flatten_cons, List.filter_append]
    by_cases z : ∃ a ∈ l, (f a).k = k
    · obtain ⟨a, ha, hk⟩ := z
      have e1 : l.filter (isK f k) = l := List.filter_eq_self.mpr fun c hc => decide_eq_true ((d.one l List.mem_cons_self c hc a ha).trans hk)
      have e2 : r.flatten.filter (isK f k) = [] := by
        refine List.filter_eq_nil_iff.mpr fun c hc hk' => ?_
        obtain ⟨l', hl', hc⟩ := List.mem_flatten.mp hc
        exact t1 l' hl' a ha c hc (hk.trans (of_decide_eq_true hk').symm)
      rw [e1, e2, List.append_nil]
      exact h l List.mem_cons_self
    · have e1 : l.filter (isK f k) = [] := List.filter_eq_nil_iff.mpr fun c hc hk => z ⟨c, hc, of_decide_eq_true hk⟩
      rw [e1]
      exact ih
/-! ### all together -/
/-- an order of all operations that is right -/
structure Acc (f : Nat → Op κ) (n : Nat) (l : List Nat) : Prop where
  perm : l.Perm (List.range n)
  rt : RT f l
  sem : Sem f l fun _ => none
theorem acc_of {n : Nat} {orders : List (List Nat)} {l : List Nat} (hp : orders.flatten.Perm (List.range n)) (kd : KD f orders) (hs : ∀ l ∈ orders, KSem f l none) (h1 : l.Perm orders.flatten) (h2 : RT f l) (h3 : ∀ k, l.filter (isK f k) = orders.flatten.filter (isK f k)) : Acc f n l :=
  ⟨h1.trans hp, h2, (sem_keys l _).mpr fun k => by rw [h3 k]; exact kd_sem kd hs⟩
/-- of a right order, one key's part -/
theorem Acc.key {n : Nat} {l : List Nat} (h : Acc f n l) (k : κ) : Extd f ((List.range n).filter (isK f k)) [] none := by
  have e : left ((List.range n).filter (isK f k)) [] = (List.range n).filter (isK f k) := by unfold left; simp
  exact ⟨l.filter (isK f k), by rw [e]; exact h.perm.filter _, h.rt.filter _, (sem_keys l _).mp h.sem k⟩
end
end K90
end
section
set_option Elab.async false
set_option linter.all false
set_option maxRecDepth 100000
set_option maxHeartbeats 1000000
/-! k90: what the mirrors come to. -/
namespace Wk
open PySem Mr K90
def wv : Wd → Str
  | .put => "put"
  | .get => "get"
  | .del => "delete"
def ov : Option Int → Val
  | none => .non
  | some i => .int i
theorem ov_n : ov none = .non := rfl
abbrev O := Op Str
def OpAt (h : Hc) (v : Val) (o : O) : Prop := ∃ m, v = .ref m ∧ h.get m = some (.tup [.int o.b, .int o.e, .str (wv o.w), .str o.k, ov o.v])
theorem OpAt.mono {h h' : Hc} (x : Ext h h') {v : Val} {o : O} (k : OpAt h v o) : OpAt h' v o := by
  obtain ⟨m, e, g⟩ := k
  exact ⟨m, e, x.at_ _ _ g⟩
theorem ix_tup {h : Hc} {m : Nat} {xs : List Val} (e : h.get m = some (.tup xs)) (i : Int) : ixM T (.ref m) (.int i) h = (match L2.atI xs i with
  | some v => .ok v h
  | none => .bad) := by
  unfold ixM seqOf
  simp only [e]
  all_goals (cases L2.atI xs i <;> rfl)
theorem ix_lst {h : Hc} {m : Nat} {xs : List Val} (e : h.get m = some (.lst xs)) (i : Int) : ixM T (.ref m) (.int i) h = (match L2.atI xs i with
  | some v => .ok v h
  | none => .bad) := by
  unfold ixM seqOf
  simp only [e]
  all_goals (cases L2.atI xs i <;> rfl)
theorem eq_str (neg : Bool) (a b : Str) (h : Hc) : cEq neg (.str a) (.str b) h = .ok (.bl (xor neg (decide (a = b)))) h := by
  unfold cEq
  simp [scalM]
theorem eq_ov (neg : Bool) (a b : Option Int) (h : Hc) : cEq neg (ov a) (ov b) h = .ok (.bl (xor neg (decide (a = b)))) h := by
  unfold cEq
  cases a <;> cases b <;> simp [scalM, ov]
theorem s1 : ¬ (("get" : Str) = "put") := by decide
theorem s2 : ¬ (("get" : Str) = "delete") := by decide
theorem s3 : ¬ (("delete" : Str) = "put") := by decide
theorem s4 : ¬ (("put" : Str) = "delete") := by decide
theorem s5 : ¬ (("put" : Str) = "get") := by decide
theorem s6 : ¬ (("delete" : Str) = "get") := by decide
theorem vb_ok {h : Hc} (w : Wf h) {x : Val} {o : O} (u : Option Int) (k : OpAt h x o) {X : Str → Option Nat → Hc → Prop} : Ok (F_value_behind [x, ov u] h) (fun v h' => Ext h h' ∧ ∃ m, v = .ref m ∧ h'.get m = some (.tup [.bl (vb o u).1, ov (vb o u).2])) X := by
  obtain ⟨m, rfl, g⟩ := k
  obtain ⟨ob, oe, ow, ok, ov'⟩ := o
  unfold F_value_behind
  rw [ok_fn]
  unfold m_value_behind
  have nw := fun c => Ext.new w c
  have na := fun c => get_new_at h c
  cases ow <;> simp [sPar, aCons, aNil, eBin, eVar, eC, ix_tup g, L2.atI, L2.ixN, sIf, tVal, eq_str, sRet, eTup, eIf, eq_ov, sNil, wv, s1, s2, s3, s4, vb, nw, na, ov_n]
/-! ### is_integer, is_key, is_operation, check_operations -/
theorem isi_at {h : Hc} {v : Val} {t c : String} {b : Bool} (e : tyN h v = some t) (k : isB t c = some b) : fIsi isT isBT [v, .ty c] h = .ok (.bl b) h := by
  unfold fIsi
  simp only [e, k]
theorem int_at {h : Hc} {v : Val} {t : String} (e : tyN h v = some t) (ht : t ∈ "NoneType" :: isTys) : F_is_integer [v] h = .ok (.bl (decide (t = "int"))) h := by
  unfold F_is_integer fnM m_is_integer
  have k : ∀ t ∈ "NoneType" :: isTys, isB t "int" = some (decide (t = "int" ∨ t = "bool")) ∧ isB t "bool" = some (decide (t = "bool")) := by decide
  obtain ⟨k1, k2⟩ := k t ht
  simp [sRet, eAnd, eNot, eFn, aCons, aNil, eVar, eC, Res.bind, Res.into, isi_at e k1, isi_at e k2, truth]
  by_cases z : t = "int"
  · subst z; simp
  · by_cases y : t = "bool"
    · subst y; simp
    · simp [z, y]
theorem ty_mem {h : Hc} {v : Val} {t : String} (e : tyN h v = some t) : t ∈ "NoneType" :: isTys := by
  cases v with
  | non => cases e; decide
  | bl _ => cases e; decide
  | int _ => cases e; decide
  | str _ => cases e; decide
  | ref n =>
    unfold tyN at e
    cases q : h.get n with
    | none => simp [q] at e
    | some c => cases c <;> simp [q] at e <;> subst e <;> decide
  | _ => cases e
def chars : List Nat := ("abcdefghijklmnopqrstuvwxyz0123456789" : Str).cps.toList
theorem key_at {h : Hc} (w : Wf h) (c : Nat) {X : Str → Option Nat → Hc → Prop} : Ok (F_is_key [.str ⟨#[c]⟩] h) (fun v h' => Ext h h' ∧ v = .bl (decide (c ∈ chars))) X := by
  unfold F_is_key
  rw [ok_fn]
  unfold m_is_key
  have k1 : fIsi isT isBT [.str ⟨#[c]⟩, .ty "str"] h = .ok (.bl true) h := isi_at (t := "str") rfl (by decide)
  have k2 : fLen T [.str ⟨#[c]⟩] h = .ok (.int 1) h := by
    show (if (⟨#[c]⟩ : Str).length ≤ big then Res.ok (Val.int ((⟨#[c]⟩ : Str).length : Nat)) h else Res.bad) = _
    have e1 : (⟨#[c]⟩ : Str).length = 1 := rfl
    rw [e1, if_pos (by decide)]
    rfl
  simp [sIf, tOr', tNot', tTru, eFn, aCons, aNil, eVar, eC, k1, truth, tVal, eChain, cLe, cmpI, k2, sRet, sNil]
  unfold eLc iAny
  simp [eVar, iAnyV]
  refine lc_pure (h := h) (items := [.str ⟨#[c]⟩]) w (fun _ => true) (fun v => .bl (decide (c ∈ chars))) (by show 1 < 1000000; omega) (fun i h' _ => ?_) (fun v hv h' _ => ?_) (fun h' x1 x2 x3 x4 => ?_)
  · unfold itC
    cases i with
    | zero => rfl
    | succ i => simp
  · have : v = .str ⟨#[c]⟩ := by simpa using hv
    subst this
    refine ⟨_, rfl, rfl, fun _ => ?_⟩
    unfold eBin eVar eC cIn
    simp only [gNm, wipeM, Res.bind, List.set_cons_zero, List.set_cons_succ, List.getElem?_cons_succ, List.getElem?_cons_zero, Bool.false_xor]
    rfl
  · simp only [List.filter_cons, if_true, List.filter_nil, List.map_cons, List.map_nil] at x3
    unfold fAny
    have td : toD h' 64 (.ref h.n) = some (.list [.bool (decide (c ∈ chars))]) := by
      unfold toD
      simp [x3, mapD, toD]
    simp only [td]
    have : (PyData.plainAll [PyData.bool (decide (c ∈ chars))] && [PyData.bool (decide (c ∈ chars))].all fitB) = true := by cases decide (c ∈ chars) <;> decide
    simp only [this, if_true, ok_ok]
    refine ⟨x1, ?_⟩
    cases decide (c ∈ chars) <;> rfl
structure Good (o : O) : Prop where
  be : o.b < o.e
  key : ∃ c, o.k = ⟨#[c]⟩ ∧ c ∈ chars
  put : o.w = .put → o.v ≠ none
theorem call1 (f : List Val → M Val) (v : Val) (h : Hc) : callM 1 [] f [v] h = f [v] h := by unfold callM; simp
theorem call2 (f : List Val → M Val) (v u : Val) (h : Hc) : callM 2 [] f [v, u] h = f [v, u] h := by unfold callM; simp
theorem call3 (f : List Val → M Val) (v u t : Val) (h : Hc) : callM 3 [] f [v, u, t] h = f [v, u, t] h := by unfold callM; simp
theorem words_in (w : Wd) (h : Hc) : cIn T true (.str (wv w)) (.glo "WORDS") h = .ok (.bl false) h := by
  cases w <;> kernel_rfl
theorem len_tup {h : Hc} {m : Nat} {xs : List Val} (e : h.get m = some (.tup xs)) : fLen T [.ref m] h = .ok (.int xs.length) h := by
  unfold fLen seqOf
  simp only [e]
theorem len_lst {h : Hc} {m : Nat} {xs : List Val} (e : h.get m = some (.lst xs)) : fLen T [.ref m] h = .ok (.int xs.length) h := by
  unfold fLen seqOf
  simp only [e]
theorem eq_int (neg : Bool) (a b : Int) (h : Hc) : cEq neg (.int a) (.int b) h = .ok (.bl (xor neg (decide (a = b)))) h := by
  unfold cEq
  simp [scalM]
theorem int_ov (u : Option Int) (h : Hc) : F_is_integer [ov u] h = .ok (.bl u.isSome) h := by
  cases u with
  | none => exact int_at (t := "NoneType") rfl (by decide)
  | some i => exact int_at (t := "int") rfl (by decide)
theorem int_none (h : Hc) : F_is_integer [.non] h = .ok (.bl false) h := int_ov none h
theorem op_at {h : Hc} (w : Wf h) {x : Val} {o : O} (k : OpAt h x o) (g : Good o) {X : Str → Option Nat → Hc → Prop} : Ok (F_is_operation [x] h) (fun v h' => Ext h h' ∧ v = .bl true) X := by
  obtain ⟨m, rfl, e⟩ := k
  obtain ⟨c, hk, hc⟩ := g.key
  have hbe := g.be
  have hput := g.put
  obtain ⟨ob, oe, ow, ok, ou⟩ := o
  simp only at hk hbe hput e
  subst hk
  unfold F_is_operation
  rw [ok_fn]
  unfold m_is_operation
  have k1 : fIsi isT isBT [.ref m, .ty "tuple"] h = .ok (.bl true) h := isi_at (t := "tuple") (by unfold tyN; simp only [e]) (by decide)
  have k2 : ∀ i : Int, F_is_integer [.int i] h = .ok (.bl true) h := fun i => int_at (t := "int") rfl (by decide)
  have k3 : fIsi isT isBT [.str (wv ow), .ty "str"] h = .ok (.bl true) h := isi_at (t := "str") rfl (by decide)
  simp [sIf, tOr', tNot', tTru, eFn, aCons, aNil, eVar, eC, k1, truth, tVal, eBin, len_tup e, eq_int, eCall, call1, ix_tup e, L2.atI, L2.ixN, k2, sNil, sAsg, gTp, e, gsCons, gNm, gsNil, cGe, cmpI, k3, words_in]
  have h1 : ¬ oe ≤ ob := by omega
  simp [h1]
  refine Ok.mono (key_at w c) (fun v h' ⟨x1, x2⟩ => ?_) fun C d h z => z
  subst x2
  simp [hc, sRet, eOr, eAnd, eCall, call1, aCons, aNil, eVar, int_ov]
  cases ou with
  | some i => simp [truth, x1]
  | none =>
    have : ow ≠ .put := fun z => hput z rfl
    cases ow with
    | put => exact absurd rfl this
    | get => simp [truth, wv, s1, x1, eCall, call1, aCons, aNil, eVar, int_none, eBin, eC, cIs, eq_str, ov_n]
    | del => simp [truth, wv, s3, x1, eCall, call1, aCons, aNil, eVar, int_none, eBin, eC, cIs, eq_str, ov_n]
abbrev OpsAt (h : Hc) : List Val → List O → Prop := PySem.Paired (OpAt h)
def IsOps (h : Hc) (v : Val) (ops : List O) : Prop := ∃ n vs, v = .ref n ∧ h.get n = some (.lst vs) ∧ OpsAt h vs ops
theorem OpsAt.mono {h h' : Hc} (x : Ext h h') {vs : List Val} {ops : List O} (k : OpsAt h vs ops) : OpsAt h' vs ops := Mr.Paired.mono (fun _ _ z => z.mono x) k
theorem IsOps.mono {h h' : Hc} (x : Ext h h') {v : Val} {ops : List O} (k : IsOps h v ops) : IsOps h' v ops := by
  obtain ⟨n, vs, e, g, r⟩ := k
  exact ⟨n, vs, e, x.at_ _ _ g, r.mono x⟩
theorem check_ok {h : Hc} (w : Wf h) {v : Val} {ops : List O} (k : IsOps h v ops) (hg : ∀ o ∈ ops, Good o) (hl : ops.length < 1000) {X : Str → Option Nat → Hc → Prop} : Ok (F_check_operations [v] h) (fun u h' => Ext h h' ∧ u = .non) X := by
  obtain ⟨n, vs, rfl, e, r⟩ := k
  have hlen := Mr.Paired.length r
  unfold F_check_operations
  rw [ok_fn]
  unfold m_check_operations
  have k1 : fIsi isT isBT [.ref n, .ty "list"] h = .ok (.bl true) h := isi_at (t := "list") (by unfold tyN; simp only [e]) (by decide)
  simp [sIf, tNot', tTru, eFn, aCons, aNil, eVar, eC, k1, truth, sNil, sFor, iEn, e]
  refine for_gen vs.length (fun i en h' => Ext h h' ∧ ∃ a b, en = [some (.ref n), a, b]) ?_ ?_ lid 0 _ h (by unfold lid; omega) (Nat.zero_le _) ⟨Ext.refl w, _, _, rfl⟩
  · intro i en h' hi ⟨x, a, b, he⟩
    subst he
    have hv : vs[i]? = some vs[i] := List.getElem?_eq_getElem hi
    obtain ⟨o, ho, hk⟩ := Mr.Paired.get r hv
    have x2 := x.trans (Ext.new x.wf (.tup [.int (i : Nat), vs[i]]))
    refine ⟨_, _, itE_at (x.at_ _ _ e) hv, ?_⟩
    simp [gTp, get_new_at, gsCons, gNm, gsNil, sIf, tNot', tTru, eCall, aCons, aNil, eVar, call1]
    refine Ok.mono (op_at x2.wf (hk.mono x2) (hg o (List.mem_of_getElem? ho))) (fun u h3 ⟨x3, hu⟩ => ?_) fun C d h z => z
    subst hu
    simp [truth, sNil]
    exact x2.trans x3
  · intro en h' ⟨x, a, b, he⟩
    exact ⟨itE_end (x.at_ _ _ e), by simpa using x⟩
end Wk
end
section
set_option Elab.async false
set_option linter.all false
set_option maxRecDepth 100000
set_option maxHeartbeats 1000000
/-! k90: lists of indexes, entries, keys in the cells. -/
namespace Wk
open PySem Mr K90
/-! ### indexes -/
def iv (l : List Nat) : List Val := l.map fun a => .int (a : Nat)
theorem iv_len (l : List Nat) : (iv l).length = l.length := List.length_map _
theorem iv_at {l : List Nat} {i : Nat} {v : Val} (h : (iv l)[i]? = some v) : ∃ a, l[i]? = some a ∧ v = .int (a : Nat) := by
  unfold iv at h
  rw [List.getElem?_map] at h
  cases q : l[i]? with
  | none => rw [q] at h; cases h
  | some a => rw [q] at h; cases h; exact ⟨a, rfl, rfl⟩
theorem iv_mem {l : List Nat} {v : Val} (h : v ∈ iv l) : ∃ a ∈ l, v = .int (a : Nat) := by
  obtain ⟨a, ha, e⟩ := List.mem_map.mp h
  exact ⟨a, ha, e.symm⟩
theorem ints_iv : ∀ l : List Nat, intsOf (iv l) = some (l.map Int.ofNat)
  | [] => rfl
  | a :: r => by
    show (intsOf (iv r)).map (Int.ofNat a :: ·) = _
    rw [ints_iv r]
    rfl
theorem atI_nat {α : Type} (xs : List α) (a : Nat) : L2.atI xs (a : Int) = xs[a]? := by
  unfold L2.atI L2.ixN
  rw [if_pos (by omega)]
  by_cases z : (a : Int) < xs.length
  · rw [if_pos z]; simp
  · rw [if_neg z]
    have : xs.length ≤ a := by omega
    simp [List.getElem?_eq_none this]
def tot (ops : List O) (a : Nat) : O := ops.getD a ⟨0, 1, .get, "a", none⟩
theorem tot_at {ops : List O} {a : Nat} (h : a < ops.length) : ops[a]? = some (tot ops a) := by
  unfold tot
  rw [List.getD_eq_getElem?_getD, List.getElem?_eq_getElem h]
  rfl
/-- operations[at] -/
theorem op_ix {h : Hc} {n : Nat} {vs : List Val} {ops : List O} (e : h.get n = some (.lst vs)) (r : OpsAt h vs ops) {a : Nat} (ha : a < ops.length) : ∃ v, ixM T (.ref n) (.int (a : Nat)) h = .ok v h ∧ OpAt h v (tot ops a) := by
  have hl := Mr.Paired.length r
  have hv : vs[a]? = some (vs[a]'(by omega)) := List.getElem?_eq_getElem (by omega)
  obtain ⟨o, ho, k⟩ := Mr.Paired.get r hv
  rw [tot_at ha] at ho
  cases ho
  refine ⟨_, ?_, k⟩
  rw [ix_lst e, atI_nat, hv]
/-- a field of operations[at] -/
theorem op_fld {h : Hc} {v : Val} {o : O} (k : OpAt h v o) : ixM T v (.int 0) h = .ok (.int o.b) h ∧ ixM T v (.int 1) h = .ok (.int o.e) h ∧ ixM T v (.int 2) h = .ok (.str (wv o.w)) h ∧ ixM T v (.int 3) h = .ok (.str o.k) h ∧ ixM T v (.int 4) h = .ok (ov o.v) h := by
  obtain ⟨m, rfl, e⟩ := k
  refine ⟨?_, ?_, ?_, ?_, ?_⟩ <;> rw [ix_tup e] <;> rfl
/-! ### data of cells -/
theorem mapD_pair {α : Type} {R : Val → α → Prop} {f : Val → Option PyData} {t : α → PyData} (hf : ∀ v p, R v p → f v = some (t p)) : ∀ {vs : List Val} {ps : List α}, PySem.Paired R vs ps → mapD f vs = some (ps.map t)
  | _, _, .nil => rfl
  | _, _, .cons r q => by
    unfold mapD
    rw [hf _ _ r, mapD_pair hf q]
    rfl
theorem mapD_iv (h : Hc) (f : Nat) : ∀ l : List Nat, mapD (toD h f) (iv l) = some (l.map fun a => PyData.int (a : Nat))
  | [] => rfl
  | a :: r => by
    show (match toD h f (.int (a : Nat)), mapD (toD h f) (iv r) with
      | some d, some ds => some (d :: ds)
      | _, _ => none) = _
    rw [mapD_iv h f r]
    cases f <;> rfl
def ivd (l : List Nat) : PyData := .list (l.map fun a => PyData.int (a : Nat))
def ovd : Option Int → PyData
  | none => .none
  | some i => .int i
theorem toD_iv {h : Hc} {r : Nat} {l : List Nat} (e : h.get r = some (.lst (iv l))) (f : Nat) : toD h (f + 1) (.ref r) = some (ivd l) := by
  unfold toD
  simp only [e, mapD_iv]
  rfl
theorem toD_ov (h : Hc) (f : Nat) (x : Option Int) : toD h f (ov x) = some (ovd x) := by cases x <;> cases f <;> rfl
/-- what is laid plainly and not deep -/
def Flat (n : Nat) (d : PyData) : Prop := d.canLay0 = true ∧ d.depth ≤ n
theorem flat_all {n : Nat} : ∀ {ds : List PyData}, (∀ d ∈ ds, Flat n d) → PyData.canLayAll0 ds = true ∧ PyData.depthAll ds ≤ n
  | [], _ => ⟨rfl, Nat.zero_le _⟩
  | d :: r, h => by
    obtain ⟨h1, h2⟩ := h d List.mem_cons_self
    obtain ⟨k1, k2⟩ := flat_all fun x hx => h x (List.mem_cons_of_mem _ hx)
    unfold PyData.canLayAll0 PyData.depthAll
    exact ⟨by rw [h1, k1]; rfl, Nat.max_le.mpr ⟨h2, k2⟩⟩
theorem flat_list {n : Nat} {ds : List PyData} (h : ∀ d ∈ ds, Flat n d) : Flat (n + 1) (.list ds) := by
  obtain ⟨k1, k2⟩ := flat_all h
  unfold Flat PyData.canLay0 PyData.depth
  exact ⟨k1, by omega⟩
theorem flat_tuple {n : Nat} {ds : List PyData} (h : ∀ d ∈ ds, Flat n d) : Flat (n + 1) (.tuple ds) := by
  obtain ⟨k1, k2⟩ := flat_all h
  unfold Flat PyData.canLay0 PyData.depth
  exact ⟨k1, by omega⟩
theorem flat_int (i : Int) : Flat 0 (.int i) := ⟨rfl, Nat.le_refl _⟩
theorem flat_ov (x : Option Int) : Flat 0 (ovd x) := by cases x <;> exact ⟨rfl, Nat.le_refl _⟩
theorem Flat.up {n m : Nat} {d : PyData} (h : Flat n d) (l : n ≤ m) : Flat m d := ⟨h.1, Nat.le_trans h.2 l⟩
theorem Flat.sh {d : PyData} {n : Nat} (h : Flat n d) (l : n ≤ 64 := by decide) : SeqAt.shaped d = true := by
  unfold SeqAt.shaped
  rw [h.1, decide_eq_true (Nat.le_trans h.2 l)]
  rfl
theorem flat_ivd (l : List Nat) : Flat 1 (ivd l) := flat_list fun d hd => by
  obtain ⟨a, _, rfl⟩ := List.mem_map.mp hd
  exact flat_int _
theorem flat_nil : Flat 1 (.list []) := flat_list fun d hd => by cases hd
/-- a list against [] -/
theorem eq_nil {neg : Bool} {h : Hc} {a b : Nat} {ds : List PyData} (ta : toD h 64 (.ref a) = some (.list ds)) {n : Nat} (hs : Flat n (.list ds)) (hn : n ≤ 64) (hb : h.get b = some (.lst [])) : cEq neg (.ref a) (.ref b) h = .ok (.bl (xor neg ds.isEmpty)) h := by
  have tb : toD h 64 (.ref b) = some (.list []) := by
    unfold toD
    simp only [hb]
    rfl
  unfold cEq
  have e1 : scalM (.ref a) (.ref b) = false := rfl
  have e2 : (SeqAt.shaped (.list ds) && SeqAt.shaped (.list [])) = true := by rw [Flat.sh hs hn, Flat.sh flat_nil]; rfl
  have e3 : PyData.eqv (.list ds) (.list []) = ds.isEmpty := by
    unfold PyData.eqv
    cases ds <;> rfl
  simp only [e1, Bool.false_eq_true, if_false, ta, tb, e2, if_true, e3]
/-! ### entries of the search -/
/-- an entry; its order's cell is not at nw -/
def EntAt (nw : Nat) (h : Hc) (v : Val) (p : Ent) : Prop := ∃ m r, v = .ref m ∧ h.get m = some (.tup [.ref r, ov p.2]) ∧ h.get r = some (.lst (iv p.1)) ∧ r ≠ nw
theorem EntAt.mono {nw : Nat} {h h' : Hc} (x : Ext h h') {v : Val} {p : Ent} (k : EntAt nw h v p) : EntAt nw h' v p := by
  obtain ⟨m, r, e, g1, g2, n⟩ := k
  exact ⟨m, r, e, x.at_ _ _ g1, x.at_ _ _ g2, n⟩
theorem EntAt.put {nw : Nat} {h : Hc} {v : Val} {p : Ent} (k : EntAt nw h v p) {xs : List Val} (e0 : h.get nw = some (.lst xs)) (c : Cell) : EntAt nw (h.put nw c) v p := by
  obtain ⟨m, r, e, g1, g2, n⟩ := k
  have hm : m ≠ nw := fun z => by rw [z, e0] at g1; cases g1
  exact ⟨m, r, e, by rw [get_put_ne _ _ hm]; exact g1, by rw [get_put_ne _ _ n]; exact g2, n⟩
def entd (p : Ent) : PyData := .tuple [ivd p.1, ovd p.2]
theorem toD_ent {nw : Nat} {h : Hc} {v : Val} {p : Ent} (k : EntAt nw h v p) (f : Nat) : toD h (f + 2) v = some (entd p) := by
  obtain ⟨m, r, rfl, g1, g2, _⟩ := k
  unfold toD
  simp only [g1]
  have : mapD (toD h (f + 1)) [.ref r, ov p.2] = some [ivd p.1, ovd p.2] := by
    unfold mapD
    rw [toD_iv g2 f]
    unfold mapD
    rw [toD_ov]
    rfl
  rw [this]
  rfl
theorem flat_ent (p : Ent) : Flat 2 (entd p) := flat_tuple fun d hd => by
  rcases List.mem_cons.mp hd with z | z
  · rw [z]; exact flat_ivd _
  · rcases List.mem_cons.mp z with z | z
    · rw [z]; exact (flat_ov _).up (by decide)
    · cases z
/-! ### keys of what was seen -/
def nk (p : Ent) : NestedKey := .tup [.tup (p.1.map fun a => .num (a : Nat)), match p.2 with
  | none => .none
  | some i => .num i]
theorem nk_inj {p q : Ent} (h : nk p = nk q) : p = q := by
  obtain ⟨o, x⟩ := p
  obtain ⟨o', x'⟩ := q
  unfold nk at h
  injection h with h
  injection h with h1 h2
  injection h1 with h1
  injection h2 with h2
  have e1 : o = o' := by
    have inj : ∀ a b : Nat, (NestedKey.num (a : Nat)) = NestedKey.num (b : Nat) → a = b := fun a b e => by injection e with e; omega
    clear h2
    induction o generalizing o' with
    | nil => cases o' with
      | nil => rfl
      | cons _ _ => cases h1
    | cons a r ih => cases o' with
      | nil => cases h1
      | cons b r' =>
        injection h1 with h1 h3
        rw [inj a b h1, ih r' h3]
  subst e1
  cases x with
  | none => cases x' with
    | none => rfl
    | some j => cases h2
  | some i => cases x' with
    | none => cases h2
    | some j => injection h2 with h2; rw [h2]
def KeyAt (h : Hc) (v : Val) (p : Ent) : Prop := ∃ m t, v = .ref m ∧ h.get m = some (.tup [.ref t, ov p.2]) ∧ h.get t = some (.tup (iv p.1))
theorem KeyAt.mono {h h' : Hc} (x : Ext h h') {v : Val} {p : Ent} (k : KeyAt h v p) : KeyAt h' v p := by
  obtain ⟨m, r, e, g1, g2⟩ := k
  exact ⟨m, r, e, x.at_ _ _ g1, x.at_ _ _ g2⟩
theorem KeyAt.put {h : Hc} {v : Val} {p : Ent} (k : KeyAt h v p) {n : Nat} {c0 : Cell} (e0 : h.get n = some c0) (hc : ∀ xs, c0 ≠ .tup xs) (c : Cell) : KeyAt (h.put n c) v p := by
  obtain ⟨m, r, e, g1, g2⟩ := k
  have hm : m ≠ n := fun z => by rw [z, e0] at g1; exact hc _ (Option.some.inj g1)
  have hr : r ≠ n := fun z => by rw [z, e0] at g2; exact hc _ (Option.some.inj g2)
  exact ⟨m, r, e, by rw [get_put_ne _ _ hm]; exact g1, by rw [get_put_ne _ _ hr]; exact g2⟩
theorem mapK_iv (h : Hc) (f : Nat) : ∀ l : List Nat, mapK (toK h f) (iv l) = some (l.map fun a => NestedKey.num (a : Nat))
  | [] => rfl
  | a :: r => by
    show (match toK h f (.int (a : Nat)), mapK (toK h f) (iv r) with
      | some d, some ds => some (d :: ds)
      | _, _ => none) = _
    rw [mapK_iv h f r]
    cases f <;> rfl
theorem toK_key {h : Hc} {v : Val} {p : Ent} (k : KeyAt h v p) : toK h 8 v = some (nk p) := by
  obtain ⟨m, t, rfl, g1, g2⟩ := k
  have e1 : toK h 7 (.ref t) = some (.tup (p.1.map fun a => NestedKey.num (a : Nat))) := by
    unfold toK
    simp only [g2, mapK_iv]
    rfl
  have e2 : toK h 7 (ov p.2) = some (match p.2 with
    | none => .none
    | some i => .num i) := by
    cases p.2 <;> rfl
  unfold toK
  simp only [g1]
  have : mapK (toK h 7) [.ref t, ov p.2] = some [.tup (p.1.map fun a => NestedKey.num (a : Nat)), match p.2 with
    | none => .none
    | some i => .num i] := by
    unfold mapK
    rw [e1]
    unfold mapK
    rw [e2]
    rfl
  rw [this]
  rfl
theorem nk_depth (p : Ent) : (nk p).depth ≤ 8 := by
  have h1 : ∀ l : List Nat, NestedKey.depthAll (l.map fun a => NestedKey.num (a : Nat)) = 0 := by
    intro l
    induction l with
    | nil => rfl
    | cons a r ih =>
      show max (NestedKey.depth (.num (a : Nat))) (NestedKey.depthAll (r.map fun a => NestedKey.num (a : Nat))) = 0
      rw [ih]
      rfl
  unfold nk
  have h2 : NestedKey.depth (match p.2 with
    | none => .none
    | some i => .num i) = 0 := by cases p.2 <;> rfl
  simp only [NestedKey.depth, NestedKey.depthAll, h1, h2]
  decide
theorem nk_notx (p : Ent) : noTx (nk p) = true := by
  have h1 : ∀ l : List Nat, noTxs (l.map fun a => NestedKey.num (a : Nat)) = true := by
    intro l
    induction l with
    | nil => rfl
    | cons a r ih =>
      show (noTx (.num (a : Nat)) && noTxs (r.map fun a => NestedKey.num (a : Nat))) = true
      rw [ih]
      rfl
  unfold nk
  simp only [noTx, noTxs, h1]
  cases p.2 <;> rfl
abbrev SeenAt (h : Hc) : List (NestedKey × Val) → List Ent → Prop := PySem.Paired fun p q => p.1 = nk q ∧ KeyAt h p.2 q
theorem seen_ok {h : Hc} : ∀ {ks : List (NestedKey × Val)} {seen : List Ent}, SeenAt h ks seen → ksOk h ks = true
  | _, _, .nil => rfl
  | _, _, .cons r t => by
    unfold ksOk
    rw [List.all_cons]
    have := seen_ok t
    unfold ksOk at this
    rw [this, decide_eq_true (by rw [r.1]; exact toK_key r.2)]
    rfl
theorem seen_any {h : Hc} {p : Ent} : ∀ {ks : List (NestedKey × Val)} {seen : List Ent}, SeenAt h ks seen → ((ks.any fun q => decide (q.1 = nk p)) = true ↔ p ∈ seen)
  | _, _, .nil => by simp
  | _, _, .cons (b := b) r t => by
    rw [List.any_cons, Bool.or_eq_true, seen_any t, List.mem_cons]
    constructor
    · rintro (z | z)
      · exact .inl (nk_inj (r.1.symm.trans (of_decide_eq_true z))).symm
      · exact .inr z
    · rintro (z | z)
      · exact .inl (decide_eq_true (by rw [r.1, z]))
      · exact .inr z
theorem paired_snoc {α β : Type} {R : α → β → Prop} {b : β} : ∀ {bs : List β} {as : List α}, PySem.Paired R as (bs ++ [b]) → ∃ as' a, as = as' ++ [a] ∧ PySem.Paired R as' bs ∧ R a b
  | [], _, .cons r .nil => ⟨[], _, rfl, .nil, r⟩
  | _ :: bs, _, .cons r t => by
    obtain ⟨as', a, e, q, k⟩ := paired_snoc t
    exact ⟨_ :: as', a, by rw [e]; rfl, .cons r q, k⟩
end Wk
end
section
set_option Elab.async false
set_option linter.all false
set_option maxRecDepth 100000
set_option maxHeartbeats 1000000
/-! k90: the search of one key's order. -/
namespace Wk
open PySem Mr K90
def mayB (f : Nat → O) (ix o : List Nat) (x : Option Int) (a : Nat) : Bool := (vb (f a) x).1 && decide (∀ c ∈ left ix o, (f a).b ≤ (f c).e)
def newOf (f : Nat → O) (ix o : List Nat) (x : Option Int) (l : List Nat) : List Ent := (l.filter (mayB f ix o x)).map fun a => (o ++ [a], (vb (f a) x).2)
theorem mem_new {f : Nat → O} {ix o : List Nat} {x : Option Int} (p : Ent) : p ∈ newOf f ix o x (left ix o).reverse ↔ ∃ a ∈ left ix o, may f ix o x a ∧ p = (o ++ [a], (vb (f a) x).2) := by
  unfold newOf may mayB
  simp only [List.mem_map, List.mem_filter, List.mem_reverse, Bool.and_eq_true, decide_eq_true_eq]
  constructor
  · rintro ⟨a, ⟨h1, h2⟩, rfl⟩
    exact ⟨a, h1, h2, rfl⟩
  · rintro ⟨a, h1, h2, rfl⟩
    exact ⟨a, ⟨h1, h2⟩, rfl⟩
/-- the state of the search between two turns -/
structure St (h0 h : Hc) (f : Nat → O) (ix : List Nat) (nw ns : Nat) (wait seen : List Ent) : Prop where
  ext : Ext h0 h
  nw0 : h0.n ≤ nw
  ns0 : h0.n ≤ ns
  ne : nw ≠ ns
  w : ∃ ws, h.get nw = some (.lst ws) ∧ PySem.Paired (EntAt nw h) ws wait
  s : ∃ ks, h.get ns = some (.nd ks) ∧ SeenAt h ks seen
  inv : SInv f ix wait seen
theorem SeenAt.mono {h h' : Hc} (x : Ext h h') {ks : List (NestedKey × Val)} {seen : List Ent} (k : SeenAt h ks seen) : SeenAt h' ks seen := Mr.Paired.mono (fun _ _ z => ⟨z.1, z.2.mono x⟩) k
theorem SeenAt.put {h : Hc} {ks : List (NestedKey × Val)} {seen : List Ent} (k : SeenAt h ks seen) {n : Nat} {c0 : Cell} (e0 : h.get n = some c0) (hc : ∀ xs, c0 ≠ .tup xs) (c : Cell) : SeenAt (h.put n c) ks seen := Mr.Paired.mono (fun _ _ z => ⟨z.1, z.2.put e0 hc c⟩) k
theorem foldl_min_le (ns : List Int) (n b : Int) : b ≤ ns.foldl min n ↔ b ≤ n ∧ ∀ y ∈ ns, b ≤ y := by
  induction ns generalizing n with
  | nil => simp
  | cons a r ih =>
    rw [List.foldl_cons, ih, Int.le_min]
    simp only [List.mem_cons, forall_eq_or_imp]
    exact ⟨fun ⟨⟨h1, h2⟩, h3⟩ => ⟨h1, h2, h3⟩, fun ⟨h1, h2, h3⟩ => ⟨⟨h1, h2⟩, h3⟩⟩
theorem min_at {h : Hc} {n : Nat} {a : Int} {r : List Int} (e : h.get n = some (.lst ((a :: r).map .int))) : fMin T [.ref n] h = .ok (.int (r.foldl min a)) h := by
  have k : ∀ l : List Int, intsOf (l.map .int) = some l := by
    intro l
    induction l with
    | nil => rfl
    | cons x r ih => show (intsOf (r.map .int)).map (x :: ·) = _; rw [ih]; rfl
  unfold fMin seqOf
  simp only [e, k]
/-- sorted(order) as places -/
def srt (o : List Nat) : List Nat := (isort (o.map Int.ofNat)).map Int.toNat
theorem srt_iv (o : List Nat) : (isort (o.map Int.ofNat)).map Val.int = iv (srt o) := by
  unfold srt iv
  rw [List.map_map]
  refine List.map_congr_left fun i hi => ?_
  have := (isort_perm (o.map Int.ofNat)).mem_iff.mp hi
  obtain ⟨a, _, rfl⟩ := List.mem_map.mp this
  rfl
theorem srt_perm (o : List Nat) : (srt o).Perm o := by
  have h := (isort_perm (o.map Int.ofNat)).map Int.toNat
  rw [List.map_map] at h
  have e : o.map (Int.toNat ∘ Int.ofNat) = o := by
    have : (Int.toNat ∘ Int.ofNat) = id := by funext a; rfl
    rw [this, List.map_id]
  rw [e] at h
  exact h
theorem sorted_at {h : Hc} {n : Nat} {o : List Nat} (e : h.get n = some (.lst (iv o))) : fSorted T [.ref n] h = .ok (.ref h.n) (h.new (.lst (iv (srt o)))) := by
  unfold fSorted seqOf
  simp only [e, ints_iv, srt_iv]
theorem tuple_at {h : Hc} {n : Nat} {xs : List Val} (e : h.get n = some (.lst xs)) : fTuple T [.ref n] h = .ok (.ref h.n) (h.new (.tup xs)) := by
  unfold fTuple seqOf
  simp only [e]
theorem in_iv {h : Hc} {n : Nat} {l : List Nat} (e : h.get n = some (.lst (iv l))) (neg : Bool) (a : Nat) : cIn T neg (.int (a : Nat)) (.ref n) h = .ok (.bl (xor neg (decide (a ∈ l)))) h := by
  have k1 : (iv l).all flatM = true := List.all_eq_true.mpr fun v hv => by obtain ⟨b, _, rfl⟩ := iv_mem hv; rfl
  have k2 : ((iv l).any fun v => eqM v (.int (a : Nat))) = decide (a ∈ l) := by
    rw [Bool.eq_iff_iff, List.any_eq_true, decide_eq_true_eq]
    constructor
    · rintro ⟨v, hv, he⟩
      obtain ⟨b, hb, rfl⟩ := iv_mem hv
      have : (b : Int) = (a : Int) := by
        have he : ((b : Nat) : Int) == ((a : Nat) : Int) := he
        exact eq_of_beq he
      have : b = a := by omega
      rw [← this]; exact hb
    · intro ha
      refine ⟨.int (a : Nat), List.mem_map.mpr ⟨a, ha, rfl⟩, ?_⟩
      show (((a : Nat) : Int) == ((a : Nat) : Int)) = true
      exact beq_self_eq_true _
  unfold cIn seqOf
  have k3 : flatM (.int (a : Nat)) = true := rfl
  simp only [e, k1, k2, k3, Bool.and_self, if_true]
theorem iv_filter (l : List Nat) (p : Val → Bool) (q : Nat → Bool) (h : ∀ a ∈ l, p (.int (a : Nat)) = q a) : (iv l).filter p = iv (l.filter q) := by
  unfold iv
  rw [List.filter_map]
  congr 1
  exact List.filter_congr fun a ha => h a ha
/-- one more entry waits -/
theorem push_ent {nw : Nat} {h h1 : Hc} {ws : List Val} {wait : List Ent} (x : Ext h h1) (e : h.get nw = some (.lst ws)) (k : PySem.Paired (EntAt nw h) ws wait) {v : Val} {p : Ent} (kv : EntAt nw h1 v p) : PySem.Paired (EntAt nw (h1.put nw (.lst (ws ++ [v])))) (ws ++ [v]) (wait ++ [p]) := by
  have e1 := x.at_ _ _ e
  exact Mr.Paired.append (Mr.Paired.mono (fun _ _ z => (z.mono x).put e1 _) k) (.cons (kv.put e1 _) .nil)
end Wk
end
section
set_option Elab.async false
set_option linter.all false
set_option maxRecDepth 100000
set_option maxHeartbeats 2000000
/-! k90: the search of one key's order, its turns. -/
namespace Wk
open PySem Mr K90
/-- all cells but p stand -/
structure ExtB (p : Nat) (h h' : Hc) : Prop where
  wf : Wf h'
  at_ : ∀ i c, i ≠ p → h.get i = some c → h'.get i = some c
  n : h.n ≤ h'.n
theorem ExtB.refl {p : Nat} {h : Hc} (w : Wf h) : ExtB p h h := ⟨w, fun _ _ _ e => e, Nat.le_refl _⟩
theorem _root_.Mr.Ext.b {p : Nat} {h h' : Hc} (x : Ext h h') : ExtB p h h' := ⟨x.wf, fun i c _ e => x.at_ i c e, x.n⟩
theorem ExtB.trans {p : Nat} {a b c : Hc} (x : ExtB p a b) (y : ExtB p b c) : ExtB p a c := ⟨y.wf, fun i d hi e => y.at_ i d hi (x.at_ i d hi e), Nat.le_trans x.n y.n⟩
theorem ExtB.put {p : Nat} {h h1 : Hc} (x : ExtB p h h1) {c0 : Cell} (e0 : h1.get p = some c0) (c : Cell) : ExtB p h (h1.put p c) := ⟨x.wf.put e0 c, fun i d hi e => by rw [get_put_ne _ _ hi]; exact x.at_ i d hi e, by rw [Hc.n_put]; exact x.n⟩
theorem OpAt.monoB {p : Nat} {h h' : Hc} (x : ExtB p h h') {ws : List Val} (e0 : h.get p = some (.lst ws)) {v : Val} {o : O} (k : OpAt h v o) : OpAt h' v o := by
  obtain ⟨m, e, g⟩ := k
  exact ⟨m, e, x.at_ _ _ (fun z => by rw [z, e0] at g; cases g) g⟩
theorem OpsAt.monoB {p : Nat} {h h' : Hc} (x : ExtB p h h') {ws : List Val} (e0 : h.get p = some (.lst ws)) {vs : List Val} {ops : List O} (k : OpsAt h vs ops) : OpsAt h' vs ops := Mr.Paired.mono (fun _ _ z => z.monoB x e0) k
theorem EntAt.monoB {p : Nat} {h h' : Hc} (x : ExtB p h h') {ws : List Val} (e0 : h.get p = some (.lst ws)) {v : Val} {q : Ent} (k : EntAt p h v q) : EntAt p h' v q := by
  obtain ⟨m, r, e, g1, g2, n⟩ := k
  exact ⟨m, r, e, x.at_ _ _ (fun z => by rw [z, e0] at g1; cases g1) g1, x.at_ _ _ n g2, n⟩
theorem rev_iv (l : List Nat) : (iv l).reverse = iv l.reverse := by unfold iv; rw [List.map_reverse]
theorem newOf_snoc {f : Nat → O} {ix o : List Nat} {x : Option Int} (l : List Nat) (a : Nat) : newOf f ix o x (l ++ [a]) = newOf f ix o x l ++ (if mayB f ix o x a = true then [(o ++ [a], (vb (f a) x).2)] else []) := by
  unfold newOf
  rw [List.filter_append, List.map_append]
  by_cases h : mayB f ix o x a = true
  · rw [if_pos h]; simp [h]
  · rw [if_neg h]; simp [h]
theorem cat_at {h : Hc} {r : Nat} {o : List Nat} (e : h.get r = some (.lst (iv o))) {b a : Nat} (eb : h.get b = some (.lst [.int (a : Nat)])) (hl : o.length < 1000) : bAdd T (.ref r) (.ref b) h = .ok (.ref h.n) (h.new (.lst (iv (o ++ [a])))) := by
  unfold bAdd
  have k : (iv o).length + ([Val.int (a : Nat)] : List Val).length ≤ big := by
    rw [iv_len]
    show o.length + 1 ≤ 16777216
    omega
  have e2 : iv o ++ [Val.int (a : Nat)] = iv (o ++ [a]) := by unfold iv; simp
  simp only [e, eb, if_pos k, e2]
theorem push_loop {h : Hc} (w : Wf h) {n0 nw r lf : Nat} {vs ws : List Val} {ops : List O} {ix o L : List Nat} {x : Option Int} {F : Int} {wait : List Ent} {D : Po} {a1 a3 a6 a9 a10 a11 : Option Val}
    (e0 : h.get n0 = some (.lst vs)) (r0 : OpsAt h vs ops) (hn0 : n0 ≠ nw) (er : h.get r = some (.lst (iv o))) (hr : r ≠ nw) (el : h.get lf = some (.lst (iv L))) (hlf : lf ≠ nw) (ew : h.get nw = some (.lst ws)) (kw : PySem.Paired (EntAt nw h) ws wait)
    (hL : L = left ix o) (ha : ∀ a ∈ L, a < ops.length) (hF : ∀ b : Int, b ≤ F ↔ ∀ c ∈ L, b ≤ (tot ops c).e) (hlen : ws.length + L.length < 100000) (ho : o.length < 1000)
    (fin : ∀ en h' ws', ExtB nw h h' → (∃ b9 b10 b11, en = [some (.ref n0), a1, some (.ref nw), a3, some (.ref r), some (ov x), a6, some (.ref lf), some (.int F), b9, b10, b11]) → h'.get nw = some (.lst ws') → PySem.Paired (EntAt nw h') ws' (wait ++ newOf (tot ops) ix o x L.reverse) → D.nx en h') :
    SOk (sFor (iAny T (eRev T (eVar 7))) (gNm 9) (sSeq (sAsg (eCall 2 [] (F_value_behind) (aCons (eBin (ixM T) (eVar 0) (eVar 9)) (aCons (eVar 5) aNil))) (gTp 2 (gsCons (gNm 10) (gsCons (gNm 11) gsNil))))
      (sIf (tAnd' (tTru (eVar 10)) (tVal (eBin cLe (eBin (ixM T) (eBin (ixM T) (eVar 0) (eVar 9)) (eC (.int 0))) (eVar 8)))) (sExpr (eLm lmAppend (eVar 2) (aCons (eTup (aCons (eBin (bAdd T) (eVar 4) (eLst (aCons (eVar 9) aNil))) (aCons (eVar 11) aNil))) aNil))) sNil))
      [some (.ref n0), a1, some (.ref nw), a3, some (.ref r), some (ov x), a6, some (.ref lf), some (.int F), a9, a10, a11] h) D := by
  unfold sFor iAny eRev
  have hs : seqOf T h (.ref lf) = some (false, iv L) := by unfold seqOf; simp only [el]
  simp [eVar, hs, rev_iv, iAnyV, get_new_at]
  have x1 : Ext h (h.new (.lst (iv L.reverse))) := Ext.new w _
  have nn : h.n ≠ nw := fun z => by rw [← z, w.none (Nat.le_refl _)] at ew; cases ew
  refine for_ok (items := iv L.reverse) (fun i en h' => ExtB nw h h' ∧ h'.get h.n = some (.lst (iv L.reverse)) ∧ (∃ b9 b10 b11, en = [some (.ref n0), a1, some (.ref nw), a3, some (.ref r), some (ov x), a6, some (.ref lf), some (.int F), b9, b10, b11]) ∧
    ∃ ws', h'.get nw = some (.lst ws') ∧ PySem.Paired (EntAt nw h') ws' (wait ++ newOf (tot ops) ix o x (L.reverse.take i)) ∧ ws'.length ≤ ws.length + i) ?_ ?_ ?_ lid 0 _ _ (by rw [iv_len, List.length_reverse]; unfold lid; omega) (Nat.zero_le _)
    ⟨x1.b, get_new_at _ _, ⟨_, _, _, rfl⟩, ws, x1.at_ _ _ ew, by
      have : newOf (tot ops) ix o x (L.reverse.take 0) = [] := rfl
      rw [this, List.append_nil]
      exact Mr.Paired.mono (fun _ _ z => z.mono x1) kw, Nat.le_refl _⟩
  · intro i en h' ⟨_, g, _⟩
    exact itL_at g i
  · rintro i v en h' hv ⟨xb, g, ⟨b9, b10, b11, rfl⟩, ws', ew', kw', lw'⟩
    obtain ⟨a, hia, rfl⟩ := iv_at hv
    have hmem : a ∈ L := List.mem_reverse.mp (List.mem_of_getElem? hia)
    have hi : i < L.length := by
      have := (List.getElem?_eq_some_iff.mp hia).1
      rw [List.length_reverse] at this
      exact this
    have e0' := xb.at_ _ _ hn0 e0
    have r0' := r0.monoB xb ew
    obtain ⟨u, hu, ku⟩ := op_ix e0' r0' (ha a hmem)
    simp [gNm, sAsg, eCall, aCons, aNil, eBin, eVar, hu, call2]
    refine Ok.mono (vb_ok xb.wf x ku) (fun z h2 ⟨x2, m2, hz, gz⟩ => ?_) fun C d h z => z
    subst hz
    have e02 := x2.at_ _ _ e0'
    have ku2 := ku.mono x2
    have hu2 : ixM T (.ref n0) (.int (a : Nat)) h2 = .ok u h2 := by
      rw [ix_lst e0', atI_nat] at hu
      rw [ix_lst e02, atI_nat]
      cases q : vs[a]? with
      | none => rw [q] at hu; cases hu
      | some y => rw [q] at hu; cases hu; rfl
    obtain ⟨hb, he, _, _, _⟩ := op_fld ku2
    have tk : L.reverse.take (i + 1) = L.reverse.take i ++ [a] := by rw [List.take_add_one, hia]; rfl
    have ew2 := x2.at_ _ _ ew'
    have xb2 := xb.trans x2.b
    have kw2 : PySem.Paired (EntAt nw h2) ws' (wait ++ newOf (tot ops) ix o x (L.reverse.take i)) := Mr.Paired.mono (fun _ _ z => z.mono x2) kw'
    have er2 := xb2.at_ _ _ hr er
    have test : mayB (tot ops) ix o x a = ((vb (tot ops a) x).1 && decide ((tot ops a).b ≤ F)) := by
      unfold mayB
      rw [← hL]
      congr 1
      rw [decide_eq_decide]
      exact (hF _).symm
    simp [gTp, gz, gsCons, gNm, gsNil, sIf, tAnd', tTru, eVar, truth]
    cases hv1 : (vb (tot ops a) x).1 with
    | false =>
      have t0 : mayB (tot ops) ix o x a = false := by rw [test, hv1]; rfl
      simp [sNil]
      refine ⟨xb2, x2.at_ _ _ g, ws', ew2, ?_, by omega⟩
      rw [tk, newOf_snoc, t0]
      simpa using kw2
    | true =>
      simp [tVal, eBin, eVar, hu2, eC, hb, cLe, cmpI]
      by_cases hbF : (tot ops a).b ≤ F
      · have t1 : mayB (tot ops) ix o x a = true := by rw [test, hv1]; simp [hbF]
        simp [hbF, sExpr, eLm, eVar, ew2, aCons, aNil, eTup, eBin, eLst]
        have x3 : Ext h2 (h2.new (.lst [.int (a : Nat)])) := Ext.new x2.wf _
        have er3 := x3.at_ _ _ er2
        rw [cat_at er3 (get_new_at _ _) ho]
        have x4 := x3.trans (Ext.new x3.wf (.lst (iv (o ++ [a]))))
        have hn3 : (h2.new (.lst [.int (a : Nat)])).n = h2.n + 1 := rfl
        have x5 := x4.trans (Ext.new x4.wf (.tup [.ref (h2.new (.lst [.int (a : Nat)])).n, ov (vb (tot ops a) x).2]))
        have ew5 := x5.at_ _ _ ew2
        have lw : ws'.length < big := by
          show ws'.length < 16777216
          omega
        simp [ew5, lmAppend, lw]
        have ke : EntAt nw (((h2.new (.lst [.int (a : Nat)])).new (.lst (iv (o ++ [a])))).new (.tup [.ref (h2.new (.lst [.int (a : Nat)])).n, ov (vb (tot ops a) x).2])) (.ref ((h2.new (.lst [.int (a : Nat)])).new (.lst (iv (o ++ [a])))).n) (o ++ [a], (vb (tot ops a) x).2) := by
          refine ⟨_, _, rfl, get_new_at _ _, ?_, fun z => ?_⟩
          · exact (Ext.new x4.wf _).at_ _ _ (get_new_at _ _)
          · have := x3.at_ _ _ ew2
            rw [← z, x3.wf.none (Nat.le_refl _)] at this
            cases this
        refine ⟨(xb2.trans x5.b).put ew5 _, ?_, _, get_put_at _ _ _, ?_, by rw [List.length_append, List.length_singleton]; omega⟩
        · rw [get_put_ne _ _ nn]
          exact x5.at_ _ _ (x2.at_ _ _ g)
        · rw [tk, newOf_snoc, t1, if_pos rfl, ← List.append_assoc]
          exact push_ent x5 ew2 kw2 ke
      · have t0 : mayB (tot ops) ix o x a = false := by rw [test, hv1]; simp [hbF]
        simp [hbF, sNil]
        refine ⟨xb2, x2.at_ _ _ g, ws', ew2, ?_, by omega⟩
        rw [tk, newOf_snoc, t0]
        simpa using kw2
  · rintro en h' ⟨xb, _, he, ws', ew', kw', _⟩
    rw [iv_len, List.take_of_length_le (Nat.le_refl _)] at kw'
    exact fin en h' ws' xb he ew' kw'
end Wk
end
section
set_option Elab.async false
set_option linter.all false
set_option maxRecDepth 100000
set_option maxHeartbeats 4000000
/-! k90: the search of one key's order. -/
namespace Wk
open PySem Mr K90
theorem tree_small : ∀ n, n ≤ 5 → tree n ≤ 326 := by
  intro n h
  have : ∀ k : Fin 6, tree k.val ≤ 326 := by decide
  exact this ⟨n, by omega⟩
theorem meas_ge (n : Nat) : ∀ wait : List Ent, wait.length ≤ meas n wait
  | [] => Nat.zero_le _
  | p :: r => by
    have h := meas_ge n r
    unfold meas at h ⊢
    rw [List.map_cons, List.sum_cons, List.length_cons]
    have : 1 ≤ tree (n - p.1.length) := by cases n - p.1.length <;> simp [tree]
    omega
theorem pop_at (ws : List Val) (v : Val) : lmPop (ws ++ [v]) [] = some (v, ws) := by
  unfold lmPop
  simp
/-- what the search comes to -/
def Found (f : Nat → O) (ix : List Nat) (h' : Hc) (v : Val) : Prop := (∃ r o, v = .ref r ∧ h'.get r = some (.lst (iv o)) ∧ o.Perm ix ∧ RT f o ∧ KSem f o none) ∨ (v = .non ∧ ¬ Extd f ix [] none)
theorem order_ok {h : Hc} (w : Wf h) {v0 : Val} {ops : List O} (k0 : IsOps h v0 ops) {n1 : Nat} {ix : List Nat} (e1 : h.get n1 = some (.lst (iv ix))) (hnd : ix.Nodup) (hix : ∀ a ∈ ix, a < ops.length) (hbe : ∀ a ∈ ix, (tot ops a).b ≤ (tot ops a).e) (hl5 : ix.length ≤ 5)
    {X : Str → Option Nat → Hc → Prop} : Ok (F_order_of_key [v0, .ref n1] h) (fun v h' => Ext h h' ∧ Found (tot ops) ix h' v) X := by
  obtain ⟨n0, vs, rfl, e0, r0⟩ := k0
  unfold F_order_of_key
  rw [ok_fn]
  unfold m_order_of_key
  simp [sPar, aCons, aNil, eLst, eTup, eC, eNnew]
  generalize qA : h.new (.lst []) = hA
  have xA : Ext h hA := qA ▸ Ext.new w _
  have nA : hA.n = h.n + 1 := by rw [← qA]; rfl
  generalize qB : hA.new (.tup [.ref h.n, .non]) = hB
  have xB : Ext hA hB := qB ▸ Ext.new xA.wf _
  have nB : hB.n = h.n + 2 := by rw [← qB, Hc.n_new, nA]
  generalize qC : hB.new (.lst [.ref hA.n]) = hC
  have xC : Ext hB hC := qC ▸ Ext.new xB.wf _
  have nC : hC.n = h.n + 3 := by rw [← qC, Hc.n_new, nB]
  generalize qD : hC.new (.nd []) = hD
  have xD : Ext hC hD := qD ▸ Ext.new xC.wf _
  have nD : hD.n = h.n + 4 := by rw [← qD, Hc.n_new, nC]
  have x0 : Ext h hD := xA.trans (xB.trans (xC.trans xD))
  have gA : hA.get h.n = some (.lst []) := qA ▸ get_new_at _ _
  have gB : hB.get hA.n = some (.tup [.ref h.n, .non]) := qB ▸ get_new_at _ _
  have gC : hC.get hB.n = some (.lst [.ref hA.n]) := qC ▸ get_new_at _ _
  have gD : hD.get hC.n = some (.nd []) := qD ▸ get_new_at _ _
  unfold sWhile
  refine while_ok (fun en h' m => ∃ wait seen a4 a5 a6 a7 a8 a9 a10 a11, en = [some (.ref n0), some (.ref n1), some (.ref hB.n), some (.ref hC.n), a4, a5, a6, a7, a8, a9, a10, a11] ∧ St h h' (tot ops) ix hB.n hC.n wait seen ∧ m = meas ix.length wait ∧ seen.length + m ≤ 400) ?_ lid _ _ (meas ix.length [([], none)]) ?_ ?_
  · rintro en h1 m ⟨wait, seen, a4, a5, a6, a7, a8, a9, a10, a11, rfl, S, rfl, hbound⟩
    obtain ⟨x1, hnw, hns, hne, ⟨ws, ew, kw⟩, ⟨ks, ek, kk⟩, inv⟩ := S
    have hwl := Mr.Paired.length kw
    have hkl := Mr.Paired.length kk
    have hml := meas_ge ix.length wait
    simp [tVal, eBin, eVar, eLst, aNil]
    have x2 : Ext h1 (h1.new (.lst [])) := Ext.new x1.wf _
    have ew2 := x2.at_ _ _ ew
    have ta : toD (h1.new (.lst [])) 64 (.ref hB.n) = some (.list (wait.map entd)) := by
      unfold toD
      simp only [ew2]
      rw [mapD_pair (R := EntAt hB.n (h1.new (.lst []))) (t := entd) (fun v p k => toD_ent k 61) (Mr.Paired.mono (fun _ _ z => z.mono x2) kw)]
      rfl
    rw [eq_nil ta (n := 3) (flat_list fun d hd => by obtain ⟨p, _, rfl⟩ := List.mem_map.mp hd; exact flat_ent p) (by decide) (get_new_at _ _)]
    simp only [ok_ok]
    refine ⟨fun hk => ?_, fun hk => ?_⟩
    · -- nothing waits
      have hw0 : wait = [] := by
        cases wait with
        | nil => rfl
        | cons _ _ => cases hk
      simp [sRet, eC]
      refine ⟨x1.trans x2, .inr ⟨rfl, fun hx => ?_⟩⟩
      obtain ⟨p, hp, _⟩ := inv.one hx
      rw [hw0] at hp
      cases hp
    · rcases List.eq_nil_or_concat wait with hw0 | ⟨wait', p, hw0⟩
      · rw [hw0] at hk; cases hk
      obtain ⟨o, x⟩ := p
      rw [List.concat_eq_append] at hw0
      subst hw0
      obtain ⟨ws', v, rfl, kw', kv⟩ := paired_snoc kw
      obtain ⟨mm, r, rfl, gm, gr, hrn⟩ := kv
      simp only at gm gr
      have part : Part (tot ops) ix o x := inv.part (o, x) (List.mem_append_right _ (by simp))
      have hol : o.length ≤ ix.length := by
        have := left_len hnd part.nd part.sub
        omega
      -- the entry is taken
      have ew3 := ew2
      simp [sAsg, eLm, eVar, ew2, aNil, pop_at]
      generalize qE : (h1.new (.lst [])).put hB.n (.lst ws') = hE
      have xE : ExtB hB.n h1 hE := qE ▸ ExtB.put x2.b ew2 _
      have hmm : mm ≠ hB.n := fun z => by rw [z, ew] at gm; cases gm
      have gmE := xE.at_ _ _ hmm gm
      have grE := xE.at_ _ _ hrn gr
      have ewE : hE.get hB.n = some (.lst ws') := by rw [← qE]; exact get_put_at _ _ _
      have x1E : Ext h hE := by rw [← qE]; exact Ext.put (x1.trans x2) hnw ew2 _ w
      have ekE := xE.at_ _ _ (Ne.symm hne) ek
      have kkE : SeenAt hE ks seen := by rw [← qE]; exact SeenAt.put (SeenAt.mono x2 kk) ew2 (fun xs z => by cases z) _
      have kwE : PySem.Paired (EntAt hB.n hE) ws' wait' := Mr.Paired.mono (fun _ _ z => z.monoB xE ew) kw'
      have e1E := x1E.at_ _ _ e1
      have e0E := x1E.at_ _ _ e0
      simp [gTp, gmE, gsCons, gNm, gsNil, sIf, tVal, eBin, eFn, aCons, aNil, eVar, len_lst grE, len_lst e1E, eq_int, iv_len]
      by_cases hfull : o.length = ix.length
      · -- a whole order
        simp [hfull, sRet, eVar]
        obtain ⟨q1, q2, q3⟩ := part.whole hnd hfull
        exact ⟨x1E, .inl ⟨r, o, rfl, grE, q1, q2, q3⟩⟩
      · have hfull' : ¬ ((o.length : Int) = (ix.length : Int)) := by omega
        simp [hfull', sNil]
        -- its key
        simp [sAsg, eTup, aCons, aNil, eFn, eVar, sorted_at grE]
        generalize qF : hE.new (.lst (iv (srt o))) = hF
        have xF : Ext hE hF := qF ▸ Ext.new x1E.wf _
        have gF : hF.get hE.n = some (.lst (iv (srt o))) := qF ▸ get_new_at _ _
        simp [tuple_at gF]
        generalize qG : hF.new (.tup (iv (srt o))) = hG
        have xG : Ext hF hG := qG ▸ Ext.new xF.wf _
        have gG : hG.get hF.n = some (.tup (iv (srt o))) := qG ▸ get_new_at _ _
        generalize qH : hG.new (.tup [.ref hF.n, ov x]) = hH
        have xH : Ext hG hH := qH ▸ Ext.new xG.wf _
        have gH : hH.get hG.n = some (.tup [.ref hF.n, ov x]) := qH ▸ get_new_at _ _
        have xEH : Ext hE hH := xF.trans (xG.trans xH)
        have key : KeyAt hH (.ref hG.n) (srt o, x) := ⟨_, _, rfl, gH, xH.at_ _ _ gG⟩
        have kkH : SeenAt hH ks seen := SeenAt.mono xEH kkE
        have ekH := xEH.at_ _ _ ekE
        have hsame : ∀ a, a ∈ o ↔ a ∈ srt o := fun a => (srt_perm o).mem_iff.symm
        have hslen : o.length = (srt o).length := (srt_perm o).length_eq.symm
        have nin : cNin true (.ref hG.n) (.ref hC.n) hH = .ok (.bl (!(ks.any fun p => decide (p.1 = nk (srt o, x))))) hH := by
          unfold cNin
          have d8 : (decide ((nk (srt o, x)).depth ≤ 8) && ksOk hH ks) = true := by rw [decide_eq_true (nk_depth _), seen_ok kkH]; rfl
          simp only [ekH, toK_key key, d8, if_true, Bool.true_xor]
        simp [gNm, sIf, tVal, eBin, eVar, nin]
        cases hany : (ks.any fun p => decide (p.1 = nk (srt o, x))) with
        | true =>
          -- it was seen
          have hmem := (seen_any kkH).mp hany
          simp [sNil]
          refine ⟨meas ix.length wait', by have := meas_drop ix.length wait' (o, x); omega, wait', seen, ?_, rfl, by have := meas_drop ix.length wait' (o, x); omega⟩
          exact ⟨x1E.trans xEH, hnw, hns, hne, ⟨ws', xEH.at_ _ _ ewE, Mr.Paired.mono (fun _ _ z => z.mono xEH) kwE⟩, ⟨ks, ekH, kkH⟩, inv.drop hmem hsame hslen⟩
        | false =>
          -- it is new
          have hks : ks.length ≤ big := by
            show ks.length ≤ 16777216
            omega
          have put : (decide ((nk (srt o, x)).depth ≤ 8) && noTx (nk (srt o, x)) && decide (ks.length ≤ big) && ksOk hH ks) = true := by
            rw [decide_eq_true (nk_depth _), nk_notx, decide_eq_true hks, seen_ok kkH]; rfl
          simp [sNput, eVar, eC, ekH, toK_key key, nk_depth, nk_notx, hks, seen_ok kkH, hany]
          generalize qI : hH.put hC.n (.nd (ks ++ [(nk (srt o, x), .ref hG.n)])) = hI
          have xI : ExtB hC.n hH hI := by rw [← qI]; exact ExtB.put (ExtB.refl xEH.wf) ekH _
          have x1I : Ext h hI := by rw [← qI]; exact Ext.put (x1E.trans xEH) hns ekH _ w
          have ekI : hI.get hC.n = some (.nd (ks ++ [(nk (srt o, x), .ref hG.n)])) := by rw [← qI]; exact get_put_at _ _ _
          have kkI : SeenAt hI (ks ++ [(nk (srt o, x), .ref hG.n)]) (seen ++ [(srt o, x)]) := by
            rw [← qI]
            exact Mr.Paired.append (SeenAt.put kkH ekH (fun xs z => by cases z) _) (.cons ⟨rfl, key.put ekH (fun xs z => by cases z) _⟩ .nil)
          have ewI := xI.at_ _ _ hne (xEH.at_ _ _ ewE)
          have keepI : ∀ {i : Nat} {c : Cell}, hE.get i = some c → (∀ l, c ≠ .nd l) → hI.get i = some c := fun {i c} g hc => xI.at_ _ _ (fun z => by rw [z, ekE] at g; exact hc _ (Option.some.inj g).symm) (xEH.at_ _ _ g)
          have kwI : PySem.Paired (EntAt hB.n hI) ws' wait' := Mr.Paired.mono (fun _ _ z => by
            obtain ⟨m', r', e', g1', g2', n'⟩ := z
            exact ⟨m', r', e', keepI g1' (fun l q => by cases q), keepI g2' (fun l q => by cases q), n'⟩) kwE
          have grI := keepI grE (fun l q => by cases q)
          have e1I := x1I.at_ _ _ e1
          have e0I := x1I.at_ _ _ e0
          have r0I := r0.mono x1I
          -- what is left
          simp [sAsg, eLc, iAny, eVar, iAnyV, e1I, wipeM]
          refine lc_pure (h := hI) (items := iv ix) x1I.wf (fun v => match v with
            | .int a => decide (a.toNat ∉ o)
            | _ => false) (fun v => v) (by rw [iv_len]; unfold lid; omega) (fun i h' x' => itL_at (x'.at_ _ _ e1I) i) (fun v hv h' x' => ?_) (fun hJ xJ nJ gJ oJ => ?_)
          · obtain ⟨a, ha, rfl⟩ := iv_mem hv
            refine ⟨_, rfl, ?_, fun _ => rfl⟩
            simp [gNm, tVal, eBin, eVar, in_iv (x'.at_ _ _ grI)]
          · rw [iv_filter ix _ (fun a => decide (a ∉ o)) (fun a _ => by simp), List.map_id'] at gJ
            have eL : ix.filter (fun a => decide (a ∉ o)) = left ix o := rfl
            rw [eL] at gJ
            have hleft := left_len hnd part.nd part.sub
            have hleft : (left ix o).length + o.length = ix.length := hleft
            have hLm : ∀ a ∈ left ix o, a ∈ ix := fun a ha => (mem_left.mp ha).1
            have e0J := xJ.at_ _ _ e0I
            have r0J := r0I.mono xJ
            simp [gNm, sAsg, eFn, aCons, aNil, eLc, iAny, eVar, iAnyV, gJ, wipeM]
            refine lc_pure (h := hJ) (items := iv (left ix o)) xJ.wf (fun _ => true) (fun v => match v with
              | .int a => .int (tot ops a.toNat).e
              | v => v) (by rw [iv_len]; unfold lid; omega) (fun i h' x' => itL_at (x'.at_ _ _ gJ) i) (fun v hv h' x' => ?_) (fun hK xK nK gK oK => ?_)
            · obtain ⟨a, ha, rfl⟩ := iv_mem hv
              obtain ⟨u, hu, ku⟩ := op_ix (x'.at_ _ _ e0J) (r0J.mono x') (hix a (hLm a ha))
              refine ⟨_, rfl, rfl, fun _ => ?_⟩
              simp [gNm, eBin, eVar, eC, hu, (op_fld ku).2.1]
            · cases hL : left ix o with
              | nil => rw [hL] at hleft; simp at hleft; omega
              | cons a0 L0 =>
                have gK' : hK.get hJ.n = some (.lst (((tot ops a0).e :: L0.map fun a => (tot ops a).e).map .int)) := by
                  rw [gK, hL]
                  unfold iv
                  rw [List.filter_eq_self.mpr (fun _ _ => rfl), List.map_map, List.map_cons, List.map_cons, List.map_map]
                  rfl
                simp [min_at gK']
                have hFm : ∀ b : Int, b ≤ (L0.map fun a => (tot ops a).e).foldl min (tot ops a0).e ↔ ∀ c ∈ left ix o, b ≤ (tot ops c).e := by
                  intro b
                  rw [foldl_min_le, hL]
                  simp
                have xIK := xJ.trans xK
                have ewK := xIK.at_ _ _ ewI
                have kwK : PySem.Paired (EntAt hB.n hK) ws' wait' := Mr.Paired.mono (fun _ _ z => z.mono xIK) kwI
                have hws := Mr.Paired.length kwK
                have hmp : meas ix.length wait' ≤ 400 := by
                  have := meas_drop ix.length wait' (o, x)
                  omega
                have hmg := meas_ge ix.length wait'
                have hlf : hI.n ≠ hB.n := fun z => by
                  have := x1I.wf _ _ ewI
                  omega
                refine push_loop xK.wf (ix := ix) (o := o) (L := left ix o) (wait := wait') (xK.at_ _ _ e0J) (r0J.mono xK) (fun z => by have := w _ _ e0; omega) (xIK.at_ _ _ grI) hrn (xK.at_ _ _ gJ) hlf ewK kwK rfl (fun a ha => hix a (hLm a ha)) hFm (by omega) (by omega) ?_
                rintro en2 h2 ws2 xb2 ⟨b9, b10, b11, rfl⟩ ew2' kw2'
                have hpm : ∀ p ∈ newOf (tot ops) ix o x (left ix o).reverse, p.1.length = o.length + 1 := fun p hp => by
                  obtain ⟨a, _, _, rfl⟩ := (mem_new p).mp hp
                  simp
                have hpl : (newOf (tot ops) ix o x (left ix o).reverse).length ≤ ix.length - o.length := by
                  unfold newOf
                  rw [List.length_map]
                  have := List.length_filter_le (mayB (tot ops) ix o x) (left ix o).reverse
                  rw [List.length_reverse] at this
                  omega
                have hmeas := meas_push ix.length wait' (newOf (tot ops) ix o x (left ix o).reverse) o x (by omega) hpm hpl
                have keep2 : ∀ {i : Nat} {c : Cell}, hI.get i = some c → (∀ l, c ≠ .lst l) → h2.get i = some c := fun {i c} g hc => xb2.at_ _ _ (fun z => by rw [z, ewI] at g; exact hc _ (Option.some.inj g).symm) (xIK.at_ _ _ g)
                have ek2 := keep2 ekI (fun l q => by cases q)
                have kk2 : SeenAt h2 (ks ++ [(nk (srt o, x), .ref hG.n)]) (seen ++ [(srt o, x)]) := Mr.Paired.mono (fun _ _ z => by
                  obtain ⟨z1, m', t', e', g1', g2'⟩ := z
                  exact ⟨z1, m', t', e', keep2 g1' (fun l q => by cases q), keep2 g2' (fun l q => by cases q)⟩) kkI
                have x12 : Ext h h2 := ⟨xb2.wf, fun i c g => xb2.at_ _ _ (fun z => by have := w _ _ g; omega) ((x1I.trans xIK).at_ _ _ g), Nat.le_trans (x1I.trans xIK).n xb2.n⟩
                refine ⟨meas ix.length (wait' ++ newOf (tot ops) ix o x (left ix o).reverse), by omega, ⟨_, _, _, _, _, _, _, _, rfl⟩, wait' ++ newOf (tot ops) ix o x (left ix o).reverse, seen ++ [(srt o, x)], ?_, rfl, by rw [List.length_append, List.length_singleton]; omega⟩
                exact ⟨x12, hnw, hns, hne, ⟨ws2, ew2', kw2'⟩, ⟨_, ek2, kk2⟩, inv.push hnd hbe hfull hsame hslen fun p => mem_new p⟩
  · have := tree_small ix.length hl5
    have e : meas ix.length [([], none)] = tree ix.length := by unfold meas; simp
    rw [e]
    unfold lid
    omega
  · have := tree_small ix.length hl5
    have e : meas ix.length [([], none)] = tree ix.length := by unfold meas; simp
    refine ⟨[([], none)], [], _, _, _, _, _, _, _, _, rfl, ⟨x0, by omega, by omega, by omega, ⟨[.ref hA.n], xD.at_ _ _ gC, .cons ⟨hA.n, h.n, rfl, xD.at_ _ _ (xC.at_ _ _ gB), xD.at_ _ _ (xC.at_ _ _ (xB.at_ _ _ gA)), by omega⟩ .nil⟩, ⟨[], gD, .nil⟩, sinv_start⟩, rfl, by rw [e]; simp; omega⟩
end Wk
end
section
set_option Elab.async false
set_option linter.all false
set_option maxRecDepth 100000
set_option maxHeartbeats 4000000
/-! k90: the merge. -/
namespace Wk
open PySem Mr K90
def refs (nl k : Nat) : List Val := (List.range k).map fun j => .ref (nl + 1 + j)
theorem refs_len (nl k : Nat) : (refs nl k).length = k := by unfold refs; simp
theorem refs_at {nl k j : Nat} (h : j < k) : (refs nl k)[j]? = some (.ref (nl + 1 + j)) := by unfold refs; simp [h]
theorem refs_succ (nl k : Nat) : refs nl (k + 1) = refs nl k ++ [.ref (nl + 1 + k)] := by unfold refs; rw [List.range_succ, List.map_append]; rfl
theorem refs_mem {nl k : Nat} {v : Val} (h : v ∈ refs nl k) : ∃ j, j < k ∧ v = .ref (nl + 1 + j) := by
  obtain ⟨j, hj, e⟩ := List.mem_map.mp h
  exact ⟨j, List.mem_range.mp hj, e.symm⟩
theorem paired_get {α β : Type} {R : α → β → Prop} : ∀ {as : List α} {bs : List β}, as.length = bs.length → (∀ (i : Nat) (a : α) (b : β), as[i]? = some a → bs[i]? = some b → R a b) → PySem.Paired R as bs
  | [], [], _, _ => .nil
  | [], _ :: _, h, _ => by cases h
  | _ :: _, [], h, _ => by cases h
  | a :: as, b :: bs, h, k => .cons (k 0 a b rfl rfl) (paired_get (Nat.succ.inj h) fun i x y hx hy => k (i + 1) x y hx hy)
theorem range_get {α β : Type} (l : List α) (F : Option α → β) : (List.range l.length).map (fun (j : Nat) => F l[j]?) = l.map fun a => F (some a) := by
  refine List.ext_getElem? fun i => ?_
  rw [List.getElem?_map, List.getElem?_map]
  by_cases h : i < l.length
  · rw [List.getElem?_range h, List.getElem?_eq_getElem h]
    simp [List.getElem?_eq_getElem h]
  · rw [List.getElem?_eq_none (by simp; omega), List.getElem?_eq_none (by omega)]
    rfl
theorem iv_flat : ∀ ls : List (List Nat), (ls.map iv).flatten = iv ls.flatten
  | [] => rfl
  | l :: r => by
    rw [List.map_cons, List.flatten_cons, List.flatten_cons, iv_flat r]
    unfold iv
    rw [List.map_append]
/-- an order's cell -/
def LisAt (h : Hc) (v : Val) (l : List Nat) : Prop := ∃ r, v = .ref r ∧ h.get r = some (.lst (iv l))
theorem LisAt.mono {h h' : Hc} (x : Ext h h') {v : Val} {l : List Nat} (k : LisAt h v l) : LisAt h' v l := by
  obtain ⟨r, e, g⟩ := k
  exact ⟨r, e, x.at_ _ _ g⟩
/-- the state of the merge -/
structure Ms (h h' : Hc) (f : Nat → O) (orders0 : List (List Nat)) (nf nl : Nat) (found : List Nat) (orders : List (List Nat)) : Prop where
  ext : Ext h h'
  gf : h'.get nf = some (.lst (iv found))
  gl : h'.get nl = some (.lst (refs nl orders.length))
  ls : ∀ j l, orders[j]? = some l → h'.get (nl + 1 + j) = some (.lst (iv l))
  inv : MInv f orders0 found orders
theorem truthy_ivd (l : List Nat) : PyData.truthy (ivd l) = !l.isEmpty := by
  unfold ivd PyData.truthy
  cases l <;> rfl
theorem ne_one {h : Hc} {a b : Nat} {l : List Nat} (ea : h.get a = some (.lst (iv l))) (eb : h.get b = some (.lst [])) : cEq true (.ref a) (.ref b) h = .ok (.bl (!l.isEmpty)) h := by
  rw [eq_nil (ds := l.map fun a => PyData.int (a : Nat)) (toD_iv ea 63) (flat_ivd l) (by decide) eb]
  cases l <;> rfl
theorem popAt_at (a : Val) (r : List Val) : lmPopAt (a :: r) [.int 0] = some (a, r) := by
  unfold lmPopAt
  have e : seqIndex? 0 (r.length + 1) = some 0 := by
    unfold seqIndex?
    simp
  simp [e]
theorem at_zero (v : Val) (r : List Val) : L2.atI (v :: r) 0 = some v := atI_nat (v :: r) 0
theorem list_at {h : Hc} {n : Nat} {xs : List Val} (e : h.get n = some (.lst xs)) : fList T [.ref n] h = .ok (.ref h.n) (h.new (.lst xs)) := by
  unfold fList seqOf
  simp only [e]
theorem merged_ok {h : Hc} (w : Wf h) {v0 : Val} {ops : List O} (k0 : IsOps h v0 ops) {n1 : Nat} {os : List Val} {orders0 : List (List Nat)} (e1 : h.get n1 = some (.lst os)) (ko : PySem.Paired (LisAt h) os orders0)
    (hrt : ∀ l ∈ orders0, RT (tot ops) l) (hkd : KD (tot ops) orders0) (hix : ∀ a ∈ orders0.flatten, a < ops.length) (hbe : ∀ a ∈ orders0.flatten, (tot ops a).b ≤ (tot ops a).e) (hs : orders0.length ≤ 1000) (hs2 : orders0.flatten.length ≤ 1000)
    {X : Str → Option Nat → Hc → Prop} : Ok (F_merged [v0, .ref n1] h) (fun v h' => Ext h h' ∧ ∃ r found, v = .ref r ∧ h'.get r = some (.lst (iv found)) ∧ found.Perm orders0.flatten ∧ RT (tot ops) found ∧ ∀ k, found.filter (isK (tot ops) k) = orders0.flatten.filter (isK (tot ops) k)) X := by
  obtain ⟨n0, vs, rfl, e0, r0⟩ := k0
  have hol := Mr.Paired.length ko
  unfold F_merged
  rw [ok_fn]
  unfold m_merged
  simp [-List.length_flatten, -List.filter_flatten, sPar, aCons, aNil, eLst]
  generalize qA : h.new (.lst []) = hA
  have xA : Ext h hA := qA ▸ Ext.new w _
  have nA : hA.n = h.n + 1 := by rw [← qA]; rfl
  have gA : hA.get h.n = some (.lst []) := qA ▸ get_new_at _ _
  simp [-List.length_flatten, -List.filter_flatten, eLc, iAny, eVar, iAnyV, xA.at_ _ _ e1, wipeM]
  have xB : Ext hA (hA.new (.lst [])) := Ext.new xA.wf _
  refine lc_ok (d := hA.n) (items := os) (fun i acc h' => Ext hA h' ∧ h'.n = hA.n + 1 + i ∧ acc = refs hA.n i ∧ h'.get hA.n = some (.lst acc) ∧ ∀ j l, j < i → orders0[j]? = some l → h'.get (hA.n + 1 + j) = some (.lst (iv l))) ?_ ?_ ?_ lid 0 [] _ (by unfold lid; omega) (Nat.zero_le _)
    ⟨xB, rfl, rfl, get_new_at _ _, fun j l hj => by omega⟩
  · intro i acc h' ⟨x, _⟩
    exact itL_at (x.at_ _ _ (xA.at_ _ _ e1)) i
  · rintro i v acc h' hv ⟨x, hn, rfl, hg, hc⟩
    obtain ⟨l, hl, r, rfl, gr⟩ := Mr.Paired.get ko hv
    have gr' := x.at_ _ _ (xA.at_ _ _ gr)
    simp [-List.length_flatten, -List.filter_flatten, gNm, tYes', eFn, aCons, aNil, eVar, list_at gr']
    have xN := Ext.new x.wf (.lst (iv l))
    have hgn := xN.at_ _ _ hg
    have hi : i < os.length := (List.getElem?_eq_some_iff.mp hv).1
    refine ⟨hgn, by rw [refs_len]; show i < 16777216; omega, Ext.put (x.trans xN) (Nat.le_refl _) hgn _ xA.wf, by rw [Hc.n_put, Hc.n_new, hn]; omega, by rw [refs_succ, hn], get_put_at _ _ _, fun j l' hj hl' => ?_⟩
    rw [get_put_ne _ _ (by omega)]
    by_cases z : j = i
    · subst z
      rw [hl] at hl'
      cases hl'
      rw [show hA.n + 1 + j = h'.n by omega]
      exact get_new_at _ _
    · exact xN.at_ _ _ (hc j l' (by omega) hl')
  · rintro acc hB ⟨xAB, nB, rfl, gB, cB⟩
    -- the loop
    unfold sWhile
    refine while_ok (fun en h' m => ∃ found orders a4 a5 a6 a7, en = [some (.ref n0), some (.ref n1), some (.ref h.n), some (.ref hA.n), a4, a5, a6, a7] ∧ Ms h h' (tot ops) orders0 h.n hA.n found orders ∧ orders.length = orders0.length ∧ m = orders.flatten.length) ?_ lid _ _ orders0.flatten.length (by unfold lid; omega) ?_
    · rintro en h1 m ⟨found, orders, a4, a5, a6, a7, rfl, S, hlen, rfl⟩
      obtain ⟨x1, gf, gl, ls, inv⟩ := S
      have hperm := inv.perm
      have hfl : found.length + orders.flatten.length = orders0.flatten.length := by
        have := hperm.length_eq
        rw [List.length_append] at this
        exact this
      have hmem : ∀ a ∈ orders.flatten, a ∈ orders0.flatten := fun a ha => hperm.mem_iff.mp (List.mem_append_right _ ha)
      have td : toD h1 64 (.ref hA.n) = some (.list (orders.map ivd)) := by
        unfold toD
        simp only [gl]
        rw [mapD_pair (R := fun v l => LisAt h1 v l) (t := ivd) (fun v l ⟨r, e, g⟩ => by rw [e]; exact toD_iv g 62) (paired_get (refs_len _ _) fun i a b ha hb => ?_)]
        · rfl
        · have hi : i < orders.length := (List.getElem?_eq_some_iff.mp hb).1
          rw [refs_at hi] at ha
          cases ha
          exact ⟨_, rfl, ls i b hb⟩
      have pl : (PyData.plainAll (orders.map ivd) && (orders.map ivd).all fitB) = true := by
        rw [Bool.and_eq_true]
        constructor
        · have one : ∀ l : List Nat, PyData.plain (ivd l) = true := fun l => by
            unfold ivd PyData.plain
            induction l with
            | nil => rfl
            | cons a r ih =>
              show (PyData.plain (.int (a : Nat)) && PyData.plainAll (r.map fun a => PyData.int (a : Nat))) = true
              rw [ih]; rfl
          have : ∀ ls : List (List Nat), PyData.plainAll (ls.map ivd) = true := by
            intro ls
            induction ls with
            | nil => rfl
            | cons a r ih =>
              show (PyData.plain (ivd a) && PyData.plainAll (r.map ivd)) = true
              rw [one, ih]; rfl
          exact this orders
        · refine List.all_eq_true.mpr fun d hd => ?_
          obtain ⟨l, hl, rfl⟩ := List.mem_map.mp hd
          have : l.length ≤ orders.flatten.length := by
            obtain ⟨s, t, e⟩ := List.append_of_mem hl
            rw [e]
            simp
            omega
          unfold fitB ivd
          rw [decide_eq_true_eq, List.length_map]
          omega
      have any : (orders.map ivd).any PyData.truthy = orders.any fun l => !l.isEmpty := by
        rw [List.any_map]
        congr 1
        funext l
        exact truthy_ivd l
      simp only [Bool.and_eq_true] at pl
      have pl2 : ∀ a ∈ orders, fitB (ivd a) = true := fun a ha => List.all_eq_true.mp pl.2 _ (List.mem_map.mpr ⟨a, ha, rfl⟩)
      simp [-List.length_flatten, -List.filter_flatten, tTru, eFn, aCons, aNil, eVar, fAny, td, pl.1, any, truth]
      rw [if_pos pl2]
      simp [-List.length_flatten, -List.filter_flatten, truth]
      refine ⟨fun hk => ?_, fun y hy hne => ?_⟩
      · simp [-List.length_flatten, -List.filter_flatten, sRet, eVar]
        obtain ⟨q1, q2, q3⟩ := inv.whole hk
        exact ⟨x1, found, gf, q1, q2, q3⟩
      · -- the ends
        have k1 : (refs hA.n orders.length).flatMap (fun v => match v with
            | .ref q => (orders[q - (hA.n + 1)]?.map iv).getD []
            | _ => []) = iv orders.flatten := by
          unfold refs
          rw [List.flatMap_def, List.map_map, ← iv_flat]
          have e := range_get orders fun o => (o.map iv).getD []
          rw [show (fun a => ((some a).map iv).getD []) = iv from rfl] at e
          rw [← e]
          congr 1
          refine List.map_congr_left fun j _ => ?_
          show (orders[hA.n + 1 + j - (hA.n + 1)]?.map iv).getD [] = _
          rw [Nat.add_sub_cancel_left]
        have hne2 : orders.flatten ≠ [] := fun z => hne (List.flatten_eq_nil_iff.mp z y hy)
        simp [-List.length_flatten, -List.filter_flatten, sAsg, eFn, aCons, aNil, eLc2, iAny, eVar, iAnyV, gl, wipeM]
        refine lc2_pure (h := h1) (items := refs hA.n orders.length) x1.wf (fun v => match v with
            | .ref q => (orders[q - (hA.n + 1)]?.map iv).getD []
            | _ => []) (fun v => match v with
            | .int a => .int (tot ops a.toNat).e
            | v => v) (by rw [refs_len]; unfold lid; omega) ?_ (by rw [k1, iv_len]; show _ < 16777216; omega) (fun i h' x' => itL_at (x'.at_ _ _ gl) i) ?_ ?_
        · intro v hv
          obtain ⟨j, hj, rfl⟩ := refs_mem hv
          simp only [Nat.add_sub_cancel_left]
          have hoj : orders[j]? = some orders[j] := List.getElem?_eq_getElem hj
          rw [hoj]
          show (iv orders[j]).length < lid
          rw [iv_len]
          have : orders[j].length ≤ orders.flatten.length := by
            obtain ⟨s, t, e⟩ := List.append_of_mem (List.getElem_mem hj)
            conv => rhs; rw [e]
            simp
            omega
          unfold lid
          omega
        · intro v hv h' x'
          obtain ⟨j, hj, rfl⟩ := refs_mem hv
          have hoj : orders[j]? = some orders[j] := List.getElem?_eq_getElem hj
          have gj := x'.at_ _ _ (ls j _ hoj)
          refine ⟨_, rfl, rfl, itL (hA.n + 1 + j), ?_, fun i h2 x2 => ?_, fun u hu h2 x2 => ?_⟩
          · simp [-List.length_flatten, -List.filter_flatten, gNm, iAny, eVar, iAnyV, gj]
          · simp only [Nat.add_sub_cancel_left, hoj]
            exact itL_at (x2.at_ _ _ (ls j _ hoj)) i
          · simp only [Nat.add_sub_cancel_left, hoj] at hu
            obtain ⟨a, ha, rfl⟩ := iv_mem hu
            have hfm : a ∈ orders.flatten := List.mem_flatten.mpr ⟨_, List.getElem_mem hj, ha⟩
            obtain ⟨u, hu2, ku⟩ := op_ix (x2.at_ _ _ (x1.at_ _ _ e0)) (r0.mono (x1.trans x2)) (hix a (hmem a hfm))
            refine ⟨_, rfl, rfl, ?_⟩
            simp [-List.length_flatten, -List.filter_flatten, gNm, wipeM, eBin, eVar, eC, hu2, (op_fld ku).2.1]
        · intro hC xC nC gC oC
          rw [k1] at gC
          cases hfl2 : orders.flatten with
          | nil => exact absurd hfl2 hne2
          | cons a0 L0 =>
            have gC' : hC.get h1.n = some (.lst (((tot ops a0).e :: L0.map fun a => (tot ops a).e).map .int)) := by
              rw [gC, hfl2]
              unfold iv
              rw [List.map_map, List.map_cons, List.map_cons, List.map_map]
              rfl
            simp [-List.length_flatten, -List.filter_flatten, min_at gC']
            generalize hFq : (L0.map fun a => (tot ops a).e).foldl min (tot ops a0).e = F
            have hFm : ∀ b : Int, b ≤ F ↔ ∀ c ∈ orders.flatten, b ≤ (tot ops c).e := by
              intro b
              rw [← hFq, foldl_min_le, hfl2]
              simp
            have hFx : ∃ c ∈ orders.flatten, (tot ops c).e = F := by
              have h3 := (foldl_min_spec (L0.map fun a => (tot ops a).e) (tot ops a0).e).1
              rw [hFq] at h3
              rw [hfl2]
              rcases List.mem_cons.mp h3 with z | z
              · exact ⟨a0, List.mem_cons_self, z.symm⟩
              · obtain ⟨c, hc, e⟩ := List.mem_map.mp z
                exact ⟨c, List.mem_cons_of_mem _ hc, e⟩
            have gl2 := xC.at_ _ _ gl
            have x1C := x1.trans xC
            -- the heads that may come
            simp [-List.length_flatten, -List.filter_flatten, gNm, sAsg, eBin, eLc, iAny, eVar, iAnyV, gl2, wipeM]
            refine lc_ext (h := hC) (items := refs hA.n orders.length) xC.wf (fun v => match v with
              | .ref q => (match orders[q - (hA.n + 1)]? with
                | some (a :: _) => decide ((tot ops a).b ≤ F)
                | _ => false)
              | _ => false) (fun v => v) (by rw [refs_len]; unfold lid; omega) (fun i h' x' => itL_at (x'.at_ _ _ gl2) i) ?_ ?_
            · intro v hv h' x'
              obtain ⟨j, hj, rfl⟩ := refs_mem hv
              have hoj : orders[j]? = some orders[j] := List.getElem?_eq_getElem hj
              have gj := x'.at_ _ _ (xC.at_ _ _ (ls j _ hoj))
              refine ⟨_, rfl, ?_⟩
              simp only [Nat.add_sub_cancel_left, hoj]
              have xn := Ext.new x'.wf (.lst [])
              simp [-List.length_flatten, -List.filter_flatten, gNm, tAnd', tVal, eBin, eVar, eLst, aNil, ne_one (xn.at_ _ _ gj) (get_new_at _ _)]
              cases hl : orders[j] with
              | nil => simp; exact xn
              | cons a r =>
                have hfm : a ∈ orders.flatten := List.mem_flatten.mpr ⟨_, List.getElem_mem hj, by rw [hl]; exact List.mem_cons_self⟩
                have gj2 := xn.at_ _ _ gj
                rw [hl] at gj2
                obtain ⟨u, hu2, ku⟩ := op_ix (xn.at_ _ _ (x'.at_ _ _ (x1C.at_ _ _ e0))) (r0.mono (x1C.trans (x'.trans xn))) (hix a (hmem a hfm))
                have i0 : ixM T (.ref (hA.n + 1 + j)) (.int 0) (h'.new (.lst [])) = .ok (.int (a : Nat)) (h'.new (.lst [])) := by
                  rw [ix_lst gj2, show iv (a :: r) = .int (a : Nat) :: iv r from rfl, at_zero]
                simp [-List.length_flatten, -List.filter_flatten, eC, i0, hu2, (op_fld ku).1, cLe, cmpI]
                exact ⟨xn, fun _ => Ext.refl xn.wf⟩
            · intro hD xD nD gD
              rw [List.map_id'] at gD
              -- the first of them
              obtain ⟨c, hc, hcF⟩ := hFx
              obtain ⟨l, hl, hcl⟩ := List.mem_flatten.mp hc
              have hbl : ∀ l ∈ orders, ∀ a ∈ l, (tot ops a).b ≤ (tot ops a).e := fun l hl a ha => hbe a (hmem a (List.mem_flatten.mpr ⟨l, hl, ha⟩))
              obtain ⟨a, r, rfl, hab⟩ := head_may inv.each hbl hl hcl
              obtain ⟨j, hj, hjl⟩ := List.mem_iff_getElem.mp hl
              have hin : (Val.ref (hA.n + 1 + j)) ∈ (refs hA.n orders.length).filter (fun v => match v with
                  | .ref q => (match orders[q - (hA.n + 1)]? with
                    | some (a :: _) => decide ((tot ops a).b ≤ F)
                    | _ => false)
                  | _ => false) := by
                refine List.mem_filter.mpr ⟨List.mem_of_getElem? (refs_at hj), ?_⟩
                simp only [Nat.add_sub_cancel_left, List.getElem?_eq_getElem hj, hjl]
                rw [decide_eq_true_eq, ← hcF]
                exact hab
              cases hfil : (refs hA.n orders.length).filter (fun v => match v with
                  | .ref q => (match orders[q - (hA.n + 1)]? with
                    | some (a :: _) => decide ((tot ops a).b ≤ F)
                    | _ => false)
                  | _ => false) with
              | nil => rw [hfil] at hin; cases hin
              | cons v0 rest =>
                have hv0 : v0 ∈ (refs hA.n orders.length).filter (fun v => match v with
                  | .ref q => (match orders[q - (hA.n + 1)]? with
                    | some (a :: _) => decide ((tot ops a).b ≤ F)
                    | _ => false)
                  | _ => false) := by rw [hfil]; exact List.mem_cons_self
                obtain ⟨hm0, hp0⟩ := List.mem_filter.mp hv0
                obtain ⟨i, hi, rfl⟩ := refs_mem hm0
                simp only [Nat.add_sub_cancel_left, List.getElem?_eq_getElem hi] at hp0
                rw [hfil] at gD
                have ix0 : ixM T (.ref hC.n) (.int 0) hD = .ok (.ref (hA.n + 1 + i)) hD := by
                  rw [ix_lst gD, at_zero]
                cases hoi : orders[i] with
                | nil => rw [hoi] at hp0; cases hp0
                | cons b r' =>
                  rw [hoi] at hp0
                  have hbF : (tot ops b).b ≤ F := of_decide_eq_true hp0
                  have hoi' : orders[i]? = some (b :: r') := by rw [List.getElem?_eq_getElem hi, hoi]
                  have xCD := xC.trans xD
                  have gfD := xCD.at_ _ _ gf
                  have giD := xCD.at_ _ _ (ls i _ hoi')
                  have giD' : hD.get (hA.n + 1 + i) = some (.lst (.int (b : Nat) :: iv r')) := giD
                  have x1D := x1.trans xCD
                  simp [-List.length_flatten, -List.filter_flatten, eC, ix0, gNm, sExpr, eLm, eVar, gfD, aCons, aNil, giD', popAt_at]
                  have n1' : h.n ≠ hA.n + 1 + i := by omega
                  generalize qE : hD.put (hA.n + 1 + i) (.lst (iv r')) = hE
                  have gfE : hE.get h.n = some (.lst (iv found)) := by rw [← qE, get_put_ne _ _ n1']; exact gfD
                  have lf : (iv found).length < big := by rw [iv_len]; show _ < 16777216; omega
                  simp [-List.length_flatten, -List.filter_flatten, gfE, lmAppend, lf]
                  have split : orders = orders.take i ++ (b :: r') :: orders.drop (i + 1) := by
                    have := List.take_append_drop i orders
                    rw [List.drop_eq_getElem_cons hi, hoi] at this
                    exact this.symm
                  have hset : orders.set i r' = orders.take i ++ r' :: orders.drop (i + 1) := List.set_eq_take_append_cons_drop.trans (by rw [if_pos hi])
                  have hbm : ∀ c ∈ orders.flatten, (tot ops b).b ≤ (tot ops c).e := (hFm _).mp hbF
                  have inv' : MInv (tot ops) orders0 (found ++ [b]) (orders.set i r') := by
                    rw [hset]
                    rw [split] at inv hbm
                    exact inv.step hbm
                  have flen : (orders.set i r').flatten.length + 1 = orders.flatten.length := by
                    rw [hset]
                    conv => rhs; rw [split]
                    simp
                    omega
                  have eE : Ext h hE := by rw [← qE]; exact Ext.put x1D (by omega) giD _ w
                  have iva : iv found ++ [Val.int (b : Nat)] = iv (found ++ [b]) := by unfold iv; simp
                  refine ⟨(orders.set i r').flatten.length, by have h3 := congrArg List.length hfl2; rw [List.length_cons] at h3; omega, found ++ [b], orders.set i r', ⟨Ext.put eE (Nat.le_refl _) gfE _ w, ?_, ?_, fun j' l' hj' => ?_, inv'⟩, by rw [List.length_set]; exact hlen, rfl⟩
                  · rw [get_put_at, iva]
                  · rw [get_put_ne _ _ (by omega), ← qE, get_put_ne _ _ (by omega), List.length_set]
                    exact xCD.at_ _ _ gl
                  · rw [get_put_ne _ _ (by omega), ← qE]
                    by_cases z : j' = i
                    · subst z
                      rw [List.getElem?_set_self hi] at hj'
                      cases hj'
                      exact get_put_at _ _ _
                    · rw [List.getElem?_set_ne (Ne.symm z)] at hj'
                      rw [get_put_ne _ _ (by omega)]
                      exact xCD.at_ _ _ (ls j' l' hj')
    · refine ⟨[], orders0, _, _, _, _, rfl, ⟨xA.trans xAB, xAB.at_ _ _ gA, by rw [← hol]; exact gB, fun j l hl => cB j l (by rw [hol]; exact (List.getElem?_eq_some_iff.mp hl).1) hl, minv_start hrt hkd⟩, rfl, rfl⟩
end Wk
end
section
set_option Elab.async false
set_option linter.all false
set_option maxRecDepth 100000
set_option maxHeartbeats 4000000
/-! k90: the groups by key, the locked dict. -/
namespace Mr
open PySem
theorem Wf.lock {h : Hc} (w : Wf h) {d : Nat} {c0 : Cell} (e0 : h.get d = some c0) (kvs : List (L2.Key × Val)) : Wf (h.lock d kvs) := fun i c e => by
  rw [Hc.get_lock] at e
  show i < h.n + 1
  by_cases z : i = d
  · rw [z]
    have := w d _ e0
    omega
  · rw [if_neg z] at e
    have := w i _ e
    omega
theorem Ext.lock {h h1 : Hc} (x : Ext h h1) {d : Nat} (hd : h.n ≤ d) {c0 : Cell} (e0 : h1.get d = some c0) (kvs : List (L2.Key × Val)) (w : Wf h) : Ext h (h1.lock d kvs) := ⟨x.wf.lock e0 kvs, fun j c e => by
  rw [Hc.get_lock, if_neg (fun z => by have := w j _ e; omega)]
  exact x.at_ j c e, by have := x.n; show h.n ≤ h1.n + 1; omega⟩
theorem sLock_ok {w : EM} {m : SM} {e : Env} {h : Hc} {n : Nat} {kvs : List (L2.Key × Val)} {D : Po} (hd : dicAt w e h = some (n, kvs))
    (k : SOk (m e (h.lock n kvs)) { nx := fun e h2 => ∃ h3, opened n h.n h2 = some h3 ∧ D.nx e h3, rt := fun v h2 => ∃ h3, opened n h.n h2 = some h3 ∧ D.rt v h3, bk := fun e h2 => ∃ h3, opened n h.n h2 = some h3 ∧ D.bk e h3, ct := fun e h2 => ∃ h3, opened n h.n h2 = some h3 ∧ D.ct e h3, ex := D.ex }) : SOk (sLock w m e h) D := by
  unfold sLock
  simp only [hd]
  cases q : m e (h.lock n kvs) with
  | nx e2 h2 => rw [q] at k; obtain ⟨h3, e3, k3⟩ := k; simp only [e3]; exact k3
  | rt e2 h2 => rw [q] at k; obtain ⟨h3, e3, k3⟩ := k; simp only [e3]; exact k3
  | bk e2 h2 => rw [q] at k; obtain ⟨h3, e3, k3⟩ := k; simp only [e3]; exact k3
  | ct e2 h2 => rw [q] at k; obtain ⟨h3, e3, k3⟩ := k; simp only [e3]; exact k3
  | exc C d e2 h2 => rw [q] at k; exact k
  | bad => rw [q] at k; exact k
theorem eLock_ok {w m : EM} {e : Env} {h : Hc} {n : Nat} {kvs : List (L2.Key × Val)} {Q : Val → Hc → Prop} {X : Str → Option Nat → Hc → Prop} (hd : dicAt w e h = some (n, kvs))
    (k : Ok (m e (h.lock n kvs)) (fun v h2 => ∃ h3, opened n h.n h2 = some h3 ∧ Q v h3) X) : Ok (eLock w m e h) Q X := by
  unfold eLock
  simp only [hd]
  cases q : m e (h.lock n kvs) with
  | ok v h2 => rw [q] at k; obtain ⟨h3, e3, k3⟩ := k; simp only [e3]; exact k3
  | exc C d h2 => rw [q] at k; exact k
  | bad => rw [q] at k; exact k
theorem opened_at {h : Hc} {n id : Nat} {kvs : List (L2.Key × Val)} (e : h.get n = some (.fd id kvs)) : opened n id h = some (h.put n (.dic kvs)) := by
  unfold opened
  simp only [e, if_pos]
theorem itD_vs {h : Hc} {n id : Nat} {kvs : List (L2.Key × Val)} (e : h.get n = some (.fd id kvs)) (i : Nat) : itD .vs n id i h = .ok ((kvs.map (·.2))[i]?) h := by
  unfold itD
  simp only [e, if_pos]
  rw [List.getElem?_map]
  cases kvs[i]? with
  | none => rfl
  | some p => obtain ⟨k, v⟩ := p; rfl
end Mr
namespace Wk
open PySem Mr K90
/-- a group: its key, its cell, its places -/
abbrev Gr := Str × Nat × List Nat
def kv (gs : List Gr) : List (L2.Key × Val) := gs.map fun g => (.inr g.1, .ref g.2.1)
theorem getK_kv (k : Str) : ∀ gs : List Gr, getK (kv gs) (.inr k) = (gs.find? fun g => decide (g.1 = k)).map fun g => .ref g.2.1
  | [] => rfl
  | g :: r => by
    have ih := getK_kv k r
    unfold getK kv at ih ⊢
    rw [List.map_cons, List.find?_cons, List.find?_cons]
    by_cases z : g.1 = k
    · have z1 : decide ((Sum.inr g.1 : L2.Key) = .inr k) = true := decide_eq_true (congrArg Sum.inr z)
      have z2 : decide (g.1 = k) = true := decide_eq_true z
      simp only [z1, z2]
      rfl
    · have z1 : decide ((Sum.inr g.1 : L2.Key) = .inr k) = false := decide_eq_false fun y => z (Sum.inr.inj y)
      have z2 : decide (g.1 = k) = false := decide_eq_false z
      simp only [z1, z2]
      exact ih
structure Gs (h : Hc) (d : Nat) (f : Nat → O) (i : Nat) (gs : List Gr) : Prop where
  cell : h.get d = some (.dic (kv gs))
  each : ∀ g ∈ gs, h.get g.2.1 = some (.lst (iv g.2.2)) ∧ d < g.2.1
  refs : gs.Pairwise fun g g' => g.2.1 ≠ g'.2.1
  names : gs.Pairwise fun g g' => g.1 ≠ g'.1
  ix : ∀ g ∈ gs, g.2.2 = (List.range i).filter (isK f g.1)
  all : ∀ a, a < i → ∃ g ∈ gs, g.1 = (f a).k
  len : gs.length ≤ i
  ne : ∀ g ∈ gs, g.2.2 ≠ []
theorem Gs.mono {h h' : Hc} (x : Ext h h') {d : Nat} {f : Nat → O} {i : Nat} {gs : List Gr} (k : Gs h d f i gs) : Gs h' d f i gs := ⟨x.at_ _ _ k.cell, fun g hg => ⟨x.at_ _ _ (k.each g hg).1, (k.each g hg).2⟩, k.refs, k.names, k.ix, k.all, k.len, k.ne⟩
theorem Gs.find {h : Hc} {d : Nat} {f : Nat → O} {i : Nat} {gs : List Gr} (k : Gs h d f i gs) {key : Str} {g : Gr} (e : gs.find? (fun g => decide (g.1 = key)) = some g) : g ∈ gs ∧ g.1 = key := ⟨List.mem_of_find?_eq_some e, by have q := List.find?_some e; exact of_decide_eq_true q⟩
theorem filt_succ (f : Nat → O) (i : Nat) (k : Str) : (List.range (i + 1)).filter (isK f k) = (List.range i).filter (isK f k) ++ (if (f i).k = k then [i] else []) := by
  rw [List.range_succ, List.filter_append]
  congr 1
  unfold isK
  by_cases z : (f i).k = k <;> simp [z]
/-- an old group grows -/
theorem Gs.old {h : Hc} {d : Nat} {f : Nat → O} {i : Nat} {gs : List Gr} (k : Gs h d f i gs) {g : Gr} (hg : g ∈ gs) (e : g.1 = (f i).k) : Gs (h.put g.2.1 (.lst (iv g.2.2 ++ [.int (i : Nat)]))) d f (i + 1) (gs.map fun x => if x.1 = (f i).k then (x.1, x.2.1, x.2.2 ++ [i]) else x) := by
  have n1 : ∀ x : Gr, (if x.1 = (f i).k then (x.1, x.2.1, x.2.2 ++ [i]) else x).1 = x.1 := fun x => by split <;> rfl
  have n2 : ∀ x : Gr, (if x.1 = (f i).k then (x.1, x.2.1, x.2.2 ++ [i]) else x).2.1 = x.2.1 := fun x => by split <;> rfl
  have same : ∀ x ∈ gs, x.1 = (f i).k → x = g := fun x hx ex => by
    rcases Classical.em (x = g) with z | z
    · exact z
    · have : ∀ {l : List Gr}, l.Pairwise (fun g g' => g.1 ≠ g'.1) → x ∈ l → g ∈ l → x.1 = g.1 → x = g := by
        intro l hl
        induction hl with
        | nil => intro q; cases q
        | @cons a l h1 h2 ih =>
          intro q1 q2 q3
          rcases List.mem_cons.mp q1 with r1 | r1 <;> rcases List.mem_cons.mp q2 with r2 | r2
          · rw [r1, r2]
          · subst r1; exact absurd q3 (h1 _ r2)
          · subst r2; exact absurd q3.symm (h1 _ r1)
          · exact ih r1 r2 q3
      exact this k.names hx hg (ex.trans e.symm)
  have rsame : ∀ x ∈ gs, x.2.1 = g.2.1 → x = g := fun x hx ex => by
    have : ∀ {l : List Gr}, l.Pairwise (fun g g' => g.2.1 ≠ g'.2.1) → x ∈ l → g ∈ l → x = g := by
      intro l hl
      induction hl with
      | nil => intro q; cases q
      | @cons a l h1 h2 ih =>
        intro q1 q2
        rcases List.mem_cons.mp q1 with r1 | r1 <;> rcases List.mem_cons.mp q2 with r2 | r2
        · rw [r1, r2]
        · subst r1; exact absurd ex (h1 _ r2)
        · subst r2; exact absurd ex.symm (h1 _ r1)
        · exact ih r1 r2
    exact this k.refs hx hg
  have hdg := (k.each g hg).2
  refine ⟨?_, fun y hy => ?_, ?_, ?_, fun y hy => ?_, fun a ha => ?_, by rw [List.length_map]; exact Nat.le_succ_of_le k.len, fun y hy => ?_⟩
  · rw [get_put_ne _ _ (by omega), k.cell]
    unfold kv
    rw [List.map_map]
    congr 2
    refine List.map_congr_left fun x _ => ?_
    show _ = (Sum.inr _, Val.ref _)
    rw [n1, n2]
  · obtain ⟨x, hx, rfl⟩ := List.mem_map.mp hy
    obtain ⟨k1, k2⟩ := k.each x hx
    refine ⟨?_, by rw [n2]; exact k2⟩
    rw [n2]
    by_cases z : x.1 = (f i).k
    · have := same x hx z
      subst this
      rw [if_pos z, get_put_at]
      unfold iv
      rw [List.map_append]
      rfl
    · rw [if_neg z, get_put_ne _ _ (fun q => z (by rw [rsame x hx q]; exact e))]
      exact k1
  · exact List.pairwise_map.mpr (k.refs.imp fun {a b} q => by rw [n2, n2]; exact q)
  · exact List.pairwise_map.mpr (k.names.imp fun {a b} q => by rw [n1, n1]; exact q)
  · obtain ⟨x, hx, rfl⟩ := List.mem_map.mp hy
    rw [n1, filt_succ, ← k.ix x hx]
    by_cases z : x.1 = (f i).k
    · rw [if_pos z, if_pos z.symm]
    · rw [if_neg z, if_neg (Ne.symm z), List.append_nil]
  · by_cases z : a = i
    · subst z
      exact ⟨_, List.mem_map_of_mem hg, by rw [n1]; exact e⟩
    · obtain ⟨x, hx, ex⟩ := k.all a (by omega)
      exact ⟨_, List.mem_map_of_mem hx, by rw [n1]; exact ex⟩
  · obtain ⟨x, hx, rfl⟩ := List.mem_map.mp hy
    have := k.ne x hx
    by_cases z : x.1 = (f i).k
    · rw [if_pos z]; simp
    · rw [if_neg z]; exact this
/-- a new group -/
theorem Gs.fresh {h : Hc} {d : Nat} {f : Nat → O} {i : Nat} {gs : List Gr} (w : Wf h) (k : Gs h d f i gs) (e : ∀ g ∈ gs, g.1 ≠ (f i).k) {m : Nat} (em : h.get m = some (.lst [])) (hm : ∀ g ∈ gs, g.2.1 ≠ m) (hd : d < m) :
    Gs ((h.put d (.dic (kv gs ++ [(.inr (f i).k, .ref m)]))).put m (.lst [.int (i : Nat)])) d f (i + 1) (gs ++ [((f i).k, m, [i])]) := by
  have fil : (List.range i).filter (isK f (f i).k) = [] := List.filter_eq_nil_iff.mpr fun a ha => by
    obtain ⟨g, hg, eg⟩ := k.all a (List.mem_range.mp ha)
    unfold isK
    rw [decide_eq_true_eq]
    intro q
    exact e g hg (eg.trans q)
  refine ⟨?_, fun y hy => ?_, ?_, ?_, fun y hy => ?_, fun a ha => ?_, by rw [List.length_append, List.length_singleton]; have := k.len; omega, fun y hy => ?_⟩
  · rw [get_put_ne _ _ (by omega), get_put_at]
    unfold kv
    rw [List.map_append]
    rfl
  · rcases List.mem_append.mp hy with q | q
    · obtain ⟨k1, k2⟩ := k.each y q
      exact ⟨by rw [get_put_ne _ _ (hm y q), get_put_ne _ _ (by omega)]; exact k1, k2⟩
    · cases List.mem_singleton.mp q
      exact ⟨get_put_at _ _ _, hd⟩
  · exact List.pairwise_append.mpr ⟨k.refs, List.pairwise_singleton _ _, fun a ha b hb => by cases List.mem_singleton.mp hb; exact hm a ha⟩
  · exact List.pairwise_append.mpr ⟨k.names, List.pairwise_singleton _ _, fun a ha b hb => by cases List.mem_singleton.mp hb; exact e a ha⟩
  · rw [filt_succ]
    rcases List.mem_append.mp hy with q | q
    · rw [if_neg (fun z => e y q z.symm), List.append_nil]
      exact k.ix y q
    · cases List.mem_singleton.mp q
      rw [if_pos rfl, fil]
      rfl
  · by_cases z : a = i
    · subst z
      exact ⟨_, List.mem_append_right _ (List.mem_singleton.mpr rfl), rfl⟩
    · obtain ⟨g, hg, eg⟩ := k.all a (by omega)
      exact ⟨g, List.mem_append_left _ hg, eg⟩
  · rcases List.mem_append.mp hy with q | q
    · exact k.ne y q
    · cases List.mem_singleton.mp q
      simp
/-- the groups' places hold all places, once -/
theorem Gs.perm {h : Hc} {d : Nat} {f : Nat → O} {n : Nat} {gs : List Gr} (k : Gs h d f n gs) {orders : List (List Nat)} (ho : PySem.Paired (fun (g : Gr) o => o.Perm g.2.2) gs orders) : orders.flatten.Perm (List.range n) ∧ KD f orders := by
  have mem : ∀ g ∈ gs, ∀ a, a ∈ g.2.2 ↔ a < n ∧ (f a).k = g.1 := fun g hg a => by
    rw [k.ix g hg, List.mem_filter, List.mem_range]
    unfold isK
    rw [decide_eq_true_eq]
  have nd : ∀ g ∈ gs, g.2.2.Nodup := fun g hg => by rw [k.ix g hg]; exact List.nodup_range.filter _
  have main : ∀ {gs : List Gr} {orders : List (List Nat)}, PySem.Paired (fun (g : Gr) o => o.Perm g.2.2) gs orders → gs.Pairwise (fun g g' => g.1 ≠ g'.1) → (∀ g ∈ gs, ∀ a, a ∈ g.2.2 ↔ a < n ∧ (f a).k = g.1) → (∀ g ∈ gs, g.2.2.Nodup) →
      orders.flatten.Nodup ∧ (∀ a, a ∈ orders.flatten ↔ a < n ∧ ∃ g ∈ gs, (f a).k = g.1) ∧ KD f orders := by
    intro gs orders ho
    induction ho with
    | nil => intro _ _ _; exact ⟨List.nodup_nil, fun a => ⟨fun q => (by cases q), fun ⟨_, g, q, _⟩ => (by cases q)⟩, ⟨fun l q => (by cases q), List.Pairwise.nil⟩⟩
    | @cons g o gr orr hp _ ih =>
      intro pn pm pd
      obtain ⟨n1, n2⟩ := List.pairwise_cons.mp pn
      obtain ⟨i1, i2, i3⟩ := ih n2 (fun x hx => pm x (List.mem_cons_of_mem _ hx)) fun x hx => pd x (List.mem_cons_of_mem _ hx)
      have mo : ∀ a, a ∈ o ↔ a < n ∧ (f a).k = g.1 := fun a => (hp.mem_iff).trans (pm g List.mem_cons_self a)
      have sep : ∀ a ∈ o, ∀ b ∈ orr.flatten, (f a).k ≠ (f b).k := fun a ha b hb q => by
        obtain ⟨_, x, hx, ex⟩ := (i2 b).mp hb
        exact n1 x hx (((mo a).mp ha).2.symm.trans (q.trans ex))
      refine ⟨?_, fun a => ?_, ⟨?_, ?_⟩⟩
      · rw [List.flatten_cons]
        exact List.nodup_append.mpr ⟨hp.nodup_iff.mpr (pd g List.mem_cons_self), i1, fun a ha b hb q => sep a ha b hb (by rw [q])⟩
      · rw [List.flatten_cons, List.mem_append, mo, i2]
        constructor
        · rintro (⟨q1, q2⟩ | ⟨q1, x, hx, ex⟩)
          · exact ⟨q1, g, List.mem_cons_self, q2⟩
          · exact ⟨q1, x, List.mem_cons_of_mem _ hx, ex⟩
        · rintro ⟨q1, x, hx, ex⟩
          rcases List.mem_cons.mp hx with r | r
          · subst r; exact .inl ⟨q1, ex⟩
          · exact .inr ⟨q1, x, r, ex⟩
      · intro l hl a ha c hc
        rcases List.mem_cons.mp hl with r | r
        · subst r; rw [((mo a).mp ha).2, ((mo c).mp hc).2]
        · exact i3.one l r a ha c hc
      · exact List.pairwise_cons.mpr ⟨fun l hl a ha c hc => sep a ha c (List.mem_flatten.mpr ⟨l, hl, hc⟩), i3.two⟩
  obtain ⟨m1, m2, m3⟩ := main ho k.names mem nd
  refine ⟨?_, m3⟩
  refine (List.perm_ext_iff_of_nodup m1 List.nodup_range).mpr fun a => ?_
  rw [m2, List.mem_range]
  refine ⟨fun q => q.1, fun q => ⟨q, ?_⟩⟩
  obtain ⟨g, hg, eg⟩ := k.all a q
  exact ⟨g, hg, eg.symm⟩
end Wk
end
section
set_option Elab.async false
set_option linter.all false
set_option maxRecDepth 100000
set_option maxHeartbeats 4000000
/-! k90: possible_order. -/
namespace Wk
open PySem Mr K90
theorem no_false (n : Nat) : PyData.plainAll (List.replicate n (PyData.bool false)) = true ∧ (List.replicate n (PyData.bool false)).all fitB = true ∧ (List.replicate n (PyData.bool false)).any PyData.truthy = false := by
  induction n with
  | zero => exact ⟨rfl, rfl, rfl⟩
  | succ n ih =>
    rw [List.replicate_succ]
    exact ⟨ih.1, ih.2.1, ih.2.2⟩
theorem any_false {h : Hc} {m n : Nat} (e : h.get m = some (.lst (List.replicate n (.bl false)))) : fAny (fun f ds => ds.any f) [.ref m] h = .ok (.bl false) h := by
  have k : ∀ n, mapD (toD h 63) (List.replicate n (.bl false)) = some (List.replicate n (PyData.bool false)) := fun n => by
    induction n with
    | zero => rfl
    | succ n ih =>
      rw [List.replicate_succ, List.replicate_succ]
      unfold mapD
      rw [ih]
      rfl
  obtain ⟨k1, k2, k3⟩ := no_false n
  unfold fAny
  have td : toD h 64 (.ref m) = some (.list (List.replicate n (PyData.bool false))) := by
    unfold toD
    simp only [e, k]
    rfl
  simp only [td, k1, k2, k3, Bool.and_self, if_true]
/-- the answer of possible_order -/
def Poss (f : Nat → O) (n : Nat) (h' : Hc) (v : Val) : Prop := (v = .non ∧ ¬ ∃ l, Acc f n l) ∨ ∃ r l, v = .ref r ∧ h'.get r = some (.lst (iv l)) ∧ Acc f n l
theorem group_loop {h : Hc} (w : Wf h) {n0 d : Nat} {vs : List Val} {ops : List O} (e0 : h.get n0 = some (.lst vs)) (r0 : OpsAt h vs ops) {h1 : Hc} (x1 : Ext h h1) (hd : h.n ≤ d) (gd : h1.get d = some (.dic [])) (hl : ops.length ≤ 5) {D : Po}
    (fin : ∀ a b h' gs, Ext h h' → Gs h' d (tot ops) ops.length gs → D.nx [some (.ref n0), some (.ref d), a, b, none, none, none] h') :
    SOk (sFor (iEn (aCons (eVar 0) aNil)) (gTp 2 (gsCons (gNm 2) (gsCons (gNm 3) gsNil))) (sExpr (eLm lmAppend (eDsetd (eVar 1) (eBin (ixM T) (eVar 3) (eC (.int 3))) (eLst aNil)) (aCons (eVar 2) aNil))) [some (.ref n0), some (.ref d), none, none, none, none, none] h1) D := by
  have hlen := Mr.Paired.length r0
  simp [sFor, iEn, aCons, aNil, eVar, x1.at_ _ _ e0]
  refine for_gen vs.length (fun i en h' => Ext h h' ∧ (∃ a b, en = [some (.ref n0), some (.ref d), a, b, none, none, none]) ∧ ∃ gs, Gs h' d (tot ops) i gs) ?_ ?_ lid 0 _ h1 (by unfold lid; omega) (Nat.zero_le _)
    ⟨x1, ⟨_, _, rfl⟩, [], ⟨gd, fun g q => (by cases q), .nil, .nil, fun g q => (by cases q), fun a q => (by omega), Nat.le_refl _, fun g q => (by cases q)⟩⟩
  · rintro i en h' hi ⟨x, ⟨a, b, rfl⟩, gs, G⟩
    have hv : vs[i]? = some vs[i] := List.getElem?_eq_getElem hi
    have xt := Ext.new x.wf (.tup [.int (i : Nat), vs[i]])
    refine ⟨_, _, itE_at (x.at_ _ _ e0) hv, ?_⟩
    obtain ⟨o, ho, hk⟩ := Mr.Paired.get r0 hv
    have hto : o = tot ops i := by
      rw [tot_at (by omega)] at ho
      exact (Option.some.inj ho).symm
    subst hto
    have x2 := x.trans xt
    have G2 := G.mono xt
    have hk2 := hk.mono x2
    have k3 := (op_fld hk2).2.2.2.1
    simp only [gTp, get_new_at, gsCons, gNm, gsNil]
    generalize qB : h'.new (.tup [.int (i : Nat), vs[i]]) = hB at *
    have x3 := Ext.new x2.wf (.lst [])
    have G3 := G2.mono x3
    have hlenG := G.len
    have lb : (kv gs).length < big := by
      unfold kv
      rw [List.length_map]
      show _ < 16777216
      omega
    have xBn : Ext h (hB.new (.lst [])) := x2.trans x3
    cases hf : gs.find? (fun g => decide (g.1 = (tot ops i).k)) with
    | some g =>
      obtain ⟨hg, eg⟩ := G.find hf
      have gk : getK (kv gs) (.inr (tot ops i).k) = some (.ref g.2.1) := by rw [getK_kv, hf]; rfl
      obtain ⟨ge, gd2⟩ := G3.each g hg
      have li : (iv g.2.2).length < big := by
        rw [iv_len, G.ix g hg]
        have := List.length_filter_le (isK (tot ops) g.1) (List.range i)
        rw [List.length_range] at this
        show _ < 16777216
        omega
      simp [sExpr, eLm, eDsetd, eVar, dicOf, G2.cell, eBin, eC, k3, eLst, aNil, aCons, G3.cell, keyOf, lb, gk, ge, lmAppend, li]
      exact ⟨Ext.put xBn (by omega) ge _ w, _, G3.old hg eg⟩
    | none =>
      have gk : getK (kv gs) (.inr (tot ops i).k) = none := by rw [getK_kv, hf]; rfl
      have en : ∀ g ∈ gs, g.1 ≠ (tot ops i).k := fun g hg q => by
        have := List.find?_eq_none.mp hf g hg
        exact this (decide_eq_true q)
      have sk : setK (kv gs) (.inr (tot ops i).k) (.ref hB.n) = kv gs ++ [(.inr (tot ops i).k, .ref hB.n)] := by
        unfold setK
        rw [if_neg]
        intro q
        obtain ⟨p, hp, ep⟩ := List.any_eq_true.mp q
        obtain ⟨g, hg, rfl⟩ := List.mem_map.mp hp
        exact en g hg (Sum.inr.inj (of_decide_eq_true ep))
      have dB : d < hB.n := x2.wf _ _ G2.cell
      have gm : (hB.new (.lst [])).get hB.n = some (.lst []) := get_new_at _ _
      have gm2 : ∀ c, ((hB.new (.lst [])).put d c).get hB.n = some (.lst []) := fun c => by rw [get_put_ne _ _ (by omega)]; exact gm
      simp [sExpr, eLm, eDsetd, eVar, dicOf, G2.cell, eBin, eC, k3, eLst, aNil, aCons, G3.cell, keyOf, lb, gk, sk, gm2, lmAppend, show (0 : Nat) < big from by decide]
      refine ⟨Ext.put (Ext.put xBn hd G3.cell _ w) (by have := x2.n; omega) (gm2 _) _ w, _, Gs.fresh x3.wf G3 en gm (fun g hg q => by have := x2.wf _ _ (G2.each g hg).1; omega) dB⟩
  · rintro en h' ⟨x, ⟨a, b, rfl⟩, gs, G⟩
    rw [hlen] at G
    exact ⟨itE_end (x.at_ _ _ e0), fin _ _ _ gs x G⟩
end Wk
end
section
set_option Elab.async false
set_option linter.all false
set_option maxRecDepth 100000
set_option maxHeartbeats 4000000
/-! k90: possible_order. -/
namespace Wk
open PySem Mr K90
theorem paired_mem {α β : Type} {R : α → β → Prop} {as : List α} {bs : List β} (k : PySem.Paired R as bs) {b : β} (hb : b ∈ bs) : ∃ a ∈ as, R a b := by
  induction k with
  | nil => cases hb
  | cons r _ ih =>
    rcases List.mem_cons.mp hb with q | q
    · subst q; exact ⟨_, List.mem_cons_self, r⟩
    · obtain ⟨a, ha, z⟩ := ih q
      exact ⟨a, List.mem_cons_of_mem _ ha, z⟩
theorem paired_and {α β : Type} {R S : α → β → Prop} {as : List α} {bs : List β} (k : PySem.Paired R as bs) (h : ∀ a b, R a b → S a b) : PySem.Paired S as bs := Mr.Paired.mono h k
theorem possible_ok {h : Hc} (w : Wf h) {v0 : Val} {ops : List O} (k0 : IsOps h v0 ops) (hg : ∀ o ∈ ops, Good o) (hl : ops.length ≤ 5) {X : Str → Option Nat → Hc → Prop} : Ok (F_possible_order [v0] h) (fun v h' => Ext h h' ∧ Poss (tot ops) ops.length h' v) X := by
  have k0' := k0
  obtain ⟨n0, vs, rfl, e0, r0⟩ := k0
  have gbe : ∀ a, a < ops.length → (tot ops a).b ≤ (tot ops a).e := fun a ha => by
    have := (hg _ (List.mem_of_getElem? (tot_at ha))).be
    omega
  unfold F_possible_order
  rw [ok_fn]
  unfold m_possible_order
  simp [sExpr, eCall, aCons, aNil, eVar, call1]
  refine Ok.mono (check_ok w k0' hg (by omega)) (fun u h1 ⟨x1, _⟩ => ?_) fun C d h z => z
  simp [sAsg, eDnew, gNm]
  refine group_loop (h := h) w e0 r0 (x1.trans (Ext.new x1.wf (.dic []))) x1.n (get_new_at _ _) hl ?_
  intro a b h2 gs x2 G
  have hgl := G.len
  have kvl : ((kv gs).map (·.2)).length = gs.length := by unfold kv; simp
  have gix : ∀ g ∈ gs, (iv g.2.2).length ≤ 5 := fun g hgm => by
    rw [iv_len, G.ix g hgm]
    have := List.length_filter_le (isK (tot ops) g.1) (List.range ops.length)
    rw [List.length_range] at this
    omega
  -- the sizes
  have hd : dicAt (eVar 1) [some (.ref n0), some (.ref h1.n), a, b, none, none, none] h2 = some (h1.n, kv gs) := by
    unfold dicAt
    simp [eVar, G.cell]
  simp [sIf, tTru, eFn, aCons, aNil]
  refine eLock_ok hd ?_
  have wL := x2.wf.lock G.cell (kv gs)
  have glk : (h2.lock h1.n (kv gs)).get h1.n = some (.fd h2.n (kv gs)) := by rw [Hc.get_lock, if_pos rfl]
  have gel : ∀ g ∈ gs, (h2.lock h1.n (kv gs)).get g.2.1 = some (.lst (iv g.2.2)) := fun g hgm => by
    have := (G.each g hgm).2
    rw [Hc.get_lock, if_neg (by omega)]
    exact (G.each g hgm).1
  have xL : Ext h (h2.lock h1.n (kv gs)) := x2.lock x1.n G.cell _ w
  have nL : (h2.lock h1.n (kv gs)).n = h2.n + 1 := rfl
  generalize qL : h2.lock h1.n (kv gs) = hL at *
  simp [eLc, iPt, eVar, glk, wipeM]
  refine lc_pure (h := hL) (items := (kv gs).map (·.2)) wL (fun _ => true) (fun _ => .bl false) (by rw [kvl]; unfold lid; omega) (fun i h' x' => itD_vs (x'.at_ _ _ glk) i) (fun v hv h' x' => ?_) (fun h3 x3 n3 g3 o3 => ?_)
  · obtain ⟨p, hp, rfl⟩ := List.mem_map.mp hv
    obtain ⟨g, hgm, rfl⟩ := List.mem_map.mp hp
    refine ⟨_, rfl, rfl, fun _ => ?_⟩
    have ge := x'.at_ _ _ (gel g hgm)
    have := gix g hgm
    simp [eBin, eFn, aCons, aNil, eVar, gNm, len_lst ge, eC, cGt, cmpI]
    omega
  · refine ⟨_, opened_at (x3.at_ _ _ glk), ?_⟩
    have g3' : h3.get hL.n = some (.lst (List.replicate gs.length (.bl false))) := by
      rw [g3, List.filter_eq_self.mpr (fun _ _ => rfl), List.map_const', kvl]
    have dn : h1.n < hL.n := wL _ _ glk
    have x4 : Ext h (h3.put h1.n (.dic (kv gs))) := Ext.put (xL.trans x3) x1.n (x3.at_ _ _ glk) _ w
    have g4' : (h3.put h1.n (.dic (kv gs))).get hL.n = some (.lst (List.replicate gs.length (.bl false))) := by
      rw [get_put_ne _ _ (by omega)]
      exact g3'
    have d4 : (h3.put h1.n (.dic (kv gs))).get h1.n = some (.dic (kv gs)) := get_put_at _ _ _
    have e4 : ∀ g ∈ gs, (h3.put h1.n (.dic (kv gs))).get g.2.1 = some (.lst (iv g.2.2)) := fun g hgm => by
      have := (G.each g hgm).2
      rw [get_put_ne _ _ (by omega)]
      exact x3.at_ _ _ (gel g hgm)
    have dn4 : h1.n < (h3.put h1.n (.dic (kv gs))).n := x4.wf _ _ d4
    generalize q4 : h3.put h1.n (.dic (kv gs)) = h4 at *
    simp [any_false g4', truth, sNil, sAsg, eLst, aNil, gNm]
    have x5 := Ext.new x4.wf (.lst [])
    have d5 := x5.at_ _ _ d4
    have hd5 : dicAt (eVar 1) [some (.ref n0), some (.ref h1.n), a, b, some (.ref h4.n), none, none] (h4.new (.lst [])) = some (h1.n, kv gs) := by
      unfold dicAt
      simp [eVar, d5]
    refine sLock_ok hd5 ?_
    have w6 := x5.wf.lock d5 (kv gs)
    have glk6 : ((h4.new (.lst [])).lock h1.n (kv gs)).get h1.n = some (.fd (h4.new (.lst [])).n (kv gs)) := by rw [Hc.get_lock, if_pos rfl]
    have x6 : Ext h ((h4.new (.lst [])).lock h1.n (kv gs)) := (x4.trans x5).lock x1.n d5 _ w
    have gel6 : ∀ g ∈ gs, ((h4.new (.lst [])).lock h1.n (kv gs)).get g.2.1 = some (.lst (iv g.2.2)) := fun g hgm => by
      have := (G.each g hgm).2
      rw [Hc.get_lock, if_neg (by omega)]
      exact x5.at_ _ _ (e4 g hgm)
    have gno : ((h4.new (.lst [])).lock h1.n (kv gs)).get h4.n = some (.lst []) := by
      rw [Hc.get_lock, if_neg (by omega)]
      exact get_new_at _ _
    have gne : ∀ g ∈ gs, g.2.1 ≠ h4.n := fun g hgm q => by
      have := x4.wf _ _ (e4 g hgm)
      omega
    have n4 := x4.n
    generalize q5 : (h4.new (.lst [])).n = id5 at *
    generalize q6 : (h4.new (.lst [])).lock h1.n (kv gs) = h6 at *
    simp [sFor, iPt, eVar, glk6]
    refine for_ok (items := (kv gs).map (·.2)) (fun i en h' => Ext h h' ∧ h'.get h1.n = some (.fd id5 (kv gs)) ∧ (∀ g ∈ gs, h'.get g.2.1 = some (.lst (iv g.2.2))) ∧ (∃ a5 a6, en = [some (.ref n0), some (.ref h1.n), a, b, some (.ref h4.n), a5, a6]) ∧
      ∃ os ords, h'.get h4.n = some (.lst os) ∧ PySem.Paired (fun v l => LisAt h' v l ∧ v ≠ .ref h4.n) os ords ∧ PySem.Paired (fun (g : Gr) o => o.Perm g.2.2 ∧ RT (tot ops) o ∧ KSem (tot ops) o none) (gs.take i) ords) ?_ ?_ ?_ lid 0 _ _ (by rw [kvl]; unfold lid; omega) (Nat.zero_le _)
      ⟨x6, glk6, gel6, ⟨_, _, rfl⟩, [], [], gno, .nil, .nil⟩
    · intro i en h' ⟨_, gd', _⟩
      exact itD_vs gd' i
    · rintro i v en h' hv ⟨x', gd', ge', ⟨a5, a6, rfl⟩, os, ords, gno', kos, kgs⟩
      have hi : i < gs.length := by
        have := (List.getElem?_eq_some_iff.mp hv).1
        rw [kvl] at this
        exact this
      have hgi : gs[i]? = some gs[i] := List.getElem?_eq_getElem hi
      have hgm : gs[i] ∈ gs := List.getElem_mem hi
      have hvr : v = .ref gs[i].2.1 := by
        unfold kv at hv
        rw [List.getElem?_map, List.getElem?_map, hgi] at hv
        exact (Option.some.inj hv).symm
      generalize qg : gs[i] = g at *
      subst hvr
      have hix := G.ix g hgm
      have hin : ∀ a ∈ g.2.2, a < ops.length := fun a ha => by
        rw [hix] at ha
        exact List.mem_range.mp (List.mem_filter.mp ha).1
      simp [gNm, sAsg, eCall, aCons, aNil, eVar, call2]
      refine Ok.mono (order_ok x'.wf (k0'.mono x') (ge' g hgm) (by rw [hix]; exact List.nodup_range.filter _) hin (fun a ha => gbe a (hin a ha)) (by have := gix g hgm; rw [iv_len] at this; exact this)) (fun v h7 ⟨x7, F⟩ => ?_) fun C d h z => z
      have gd7 := x7.at_ _ _ gd'
      rcases F with ⟨r, o, rfl, gr, hp, hrt, hks⟩ | ⟨rfl, hno⟩
      · have gno7 := x7.at_ _ _ gno'
        have olen := Mr.Paired.length kos
        have glen := Mr.Paired.length kgs
        rw [List.length_take] at glen
        have lb : os.length < big := by show _ < 16777216; omega
        have rne : r ≠ h4.n := fun z => by
          rw [z, gno7] at gr
          cases o with
          | nil => exact G.ne g hgm (List.perm_nil.mp hp.symm)
          | cons c o =>
            cases gr
            cases kos with
            | cons k _ =>
              obtain ⟨⟨r', e', _⟩, _⟩ := k
              cases e'
        simp [sIf, tVal, eBin, eVar, eC, cIs, sNil, sExpr, eLm, gno7, aCons, aNil, lmAppend, lb]
        refine ⟨Ext.put (x'.trans x7) (by omega) gno7 _ w, by rw [get_put_ne _ _ (by omega)]; exact gd7, fun c1 c2 c3 hg' => by rw [get_put_ne _ _ (gne _ hg')]; exact x7.at_ _ _ (ge' _ hg'), os ++ [.ref r], get_put_at _ _ _, ords ++ [o], ?_, ?_⟩
        · refine Mr.Paired.append (Mr.Paired.mono (fun u l ⟨⟨r', e', g'⟩, k'⟩ => ⟨⟨r', e', by
            rw [get_put_ne _ _ (fun z => k' (by rw [e', z]))]
            exact x7.at_ _ _ g'⟩, k'⟩) kos) (.cons ⟨⟨r, rfl, ?_⟩, fun z => rne (by injection z)⟩ .nil)
          rw [get_put_ne _ _ rne]
          exact gr
        · rw [List.take_add_one, hgi]
          exact Mr.Paired.append kgs (.cons ⟨hp, hrt, hks⟩ .nil)
      · simp [sIf, tVal, eBin, eVar, eC, cIs, sRet]
        refine ⟨_, opened_at gd7, Ext.put (x'.trans x7) x1.n gd7 _ w, .inl ⟨rfl, ?_⟩⟩
        rintro ⟨l, hA⟩
        have := hA.key g.1
        rw [← hix] at this
        exact hno this
    · rintro en h' ⟨x', gd', ge', ⟨a5, a6, rfl⟩, os, ords, gno', kos, kgs⟩
      rw [kvl, List.take_of_length_le (Nat.le_refl _)] at kgs
      refine ⟨_, opened_at gd', ?_⟩
      have x8 := Ext.put x' x1.n gd' (.dic (kv gs)) w
      obtain ⟨hperm, hkd⟩ := G.perm (Mr.Paired.mono (fun _ _ z => z.1) kgs)
      have glen := Mr.Paired.length kgs
      have flen := hperm.length_eq
      rw [List.length_range] at flen
      have hin : ∀ a ∈ ords.flatten, a < ops.length := fun a ha => List.mem_range.mp (hperm.mem_iff.mp ha)
      have e8 : (h'.put h1.n (.dic (kv gs))).get h4.n = some (.lst os) := by
        rw [get_put_ne _ _ (by omega)]
        exact gno'
      have k8 : PySem.Paired (LisAt (h'.put h1.n (.dic (kv gs)))) os ords := Mr.Paired.mono (fun u l ⟨⟨r', e', g'⟩, k'⟩ => ⟨r', e', by
        rw [get_put_ne _ _ (fun z => by rw [z, gd'] at g'; cases g')]
        exact g'⟩) kos
      simp [sRet, eCall, aCons, aNil, eVar, call2]
      refine Ok.mono (merged_ok x8.wf (k0'.mono x8) e8 k8 (fun l hl' => ?_) hkd hin (fun a ha => gbe a (hin a ha)) (by omega) (by omega)) (fun v h9 q9 => ?_) fun C d h z => z
      · obtain ⟨g, _, z⟩ := paired_mem kgs hl'
        exact z.2.1
      · obtain ⟨x9, r, found, rfl, gf, p1, p2, p3⟩ := q9
        refine ⟨x8.trans x9, .inr ⟨r, found, rfl, gf, acc_of hperm hkd (fun l hl' => ?_) p1 p2 p3⟩⟩
        obtain ⟨g, _, z⟩ := paired_mem kgs hl'
        exact z.2.2
end Wk
end
section
set_option Elab.async false
set_option linter.all false
set_option maxRecDepth 100000
set_option maxHeartbeats 4000000
/-! k90: what is_order and the law's own check tell. -/
namespace K90
variable {κ : Type} [DecidableEq κ] {f : Nat → Op κ}
/-- what each key holds behind l -/
def aft (f : Nat → Op κ) : List Nat → (κ → Option Int) → κ → Option Int
  | [], m => m
  | i :: r, m => aft f r fun k => if k = (f i).k then (vb (f i) (m (f i).k)).2 else m k
theorem sem_append (l2 : List Nat) : ∀ (l : List Nat) (m : κ → Option Int), Sem f (l ++ l2) m ↔ Sem f l m ∧ Sem f l2 (aft f l m)
  | [], m => ⟨fun h => ⟨trivial, h⟩, fun h => h.2⟩
  | i :: r, m => by
    have ih := sem_append l2 r fun k => if k = (f i).k then (vb (f i) (m (f i).k)).2 else m k
    exact ⟨fun ⟨h1, h2⟩ => ⟨⟨h1, (ih.mp h2).1⟩, (ih.mp h2).2⟩, fun ⟨⟨h1, h2⟩, h3⟩ => ⟨h1, ih.mpr ⟨h2, h3⟩⟩⟩
theorem aft_append (l2 : List Nat) : ∀ (l : List Nat) (m : κ → Option Int), aft f (l ++ l2) m = aft f l2 (aft f l m)
  | [], m => rfl
  | i :: r, m => aft_append l2 r _
theorem rt_append {l l2 : List Nat} : RT f (l ++ l2) ↔ RT f l ∧ RT f l2 ∧ ∀ a ∈ l, ∀ b ∈ l2, (f a).b ≤ (f b).e := List.pairwise_append
theorem take_step {m : List Nat} {i a : Nat} (h : m[i]? = some a) : m.take (i + 1) = m.take i ++ [a] ∧ m = m.take i ++ a :: m.drop (i + 1) := by
  have hi := (List.getElem?_eq_some_iff.mp h).1
  have ha : m[i] = a := (List.getElem?_eq_some_iff.mp h).2
  constructor
  · rw [List.take_add_one, h]; rfl
  · have := List.take_append_drop i m
    rw [List.drop_eq_getElem_cons hi, ha] at this
    exact this.symm
end K90
namespace Wk
open PySem Mr K90
def AccL (f : Nat → O) (n : Nat) (m : List Nat) : Prop := srt m = List.range n ∧ RT f m ∧ Sem f m fun _ => none
theorem srt_sorted (o : List Nat) : (srt o).Pairwise (· ≤ ·) := by
  unfold srt
  refine List.pairwise_map.mpr ((isort_sorted (o.map Int.ofNat)).imp fun {a b} h => ?_)
  omega
theorem srt_range {m : List Nat} {n : Nat} (h : m.Perm (List.range n)) : srt m = List.range n :=
  List.Perm.eq_of_pairwise (le := (· ≤ ·)) (fun a b _ _ h1 h2 => Nat.le_antisymm h1 h2) (srt_sorted m) (List.pairwise_lt_range.imp fun h => Nat.le_of_lt h) ((srt_perm m).trans h)
theorem accL_iff {f : Nat → O} {n : Nat} {m : List Nat} : AccL f n m ↔ Acc f n m := ⟨fun ⟨h1, h2, h3⟩ => ⟨by rw [← h1]; exact (srt_perm m).symm, h2, h3⟩, fun h => ⟨srt_range h.perm, h.rt, h.sem⟩⟩
theorem eqv_ivd : ∀ l m : List Nat, PyData.eqv (ivd l) (ivd m) = decide (l = m) := by
  have k : ∀ l m : List Nat, PyData.eqvAll (l.map fun a => PyData.int (a : Nat)) (m.map fun a => PyData.int (a : Nat)) = decide (l = m) := by
    intro l
    induction l with
    | nil => intro m; cases m <;> rfl
    | cons a r ih =>
      intro m
      cases m with
      | nil => rfl
      | cons b s =>
        show (PyData.eqv (.int (a : Nat)) (.int (b : Nat)) && PyData.eqvAll (r.map fun a => PyData.int (a : Nat)) (s.map fun a => PyData.int (a : Nat))) = _
        rw [ih s]
        have : PyData.eqv (.int (a : Nat)) (.int (b : Nat)) = decide (a = b) := by
          unfold PyData.eqv
          by_cases z : a = b
          · subst z; simp
          · have : ((a : Nat) : Int) ≠ (b : Nat) := by omega
            simp [z, this]
        rw [this]
        by_cases z : a = b <;> simp [z]
  intro l m
  unfold ivd PyData.eqv
  exact k l m
theorem eq_iv {neg : Bool} {h : Hc} {a b : Nat} {l m : List Nat} (ea : h.get a = some (.lst (iv l))) (eb : h.get b = some (.lst (iv m))) : cEq neg (.ref a) (.ref b) h = .ok (.bl (xor neg (decide (l = m)))) h := by
  unfold cEq
  have e1 : scalM (.ref a) (.ref b) = false := rfl
  have e2 : (SeqAt.shaped (ivd l) && SeqAt.shaped (ivd m)) = true := by rw [Flat.sh (flat_ivd l), Flat.sh (flat_ivd m)]; rfl
  simp only [e1, Bool.false_eq_true, if_false, toD_iv ea 63, toD_iv eb 63, e2, if_true, eqv_ivd]
theorem rg_iv (n : Nat) : rgM 0 (n : Nat) = iv (List.range n) := by
  unfold rgM iv
  rw [show ((n : Nat) - 0 : Int).toNat = n by omega]
  refine List.map_congr_left fun i _ => ?_
  rw [Int.zero_add]
theorem rg_fit {n : Nat} (h : n ≤ 1000) : rgFit 0 (n : Nat) = true := by
  unfold rgFit
  rw [decide_eq_true_eq]
  omega
theorem getK_nil (k : L2.Key) : getK [] k = none := rfl
theorem getK_cons (p : L2.Key × Val) (r : List (L2.Key × Val)) (k : L2.Key) : getK (p :: r) k = if p.1 = k then some p.2 else getK r k := by
  unfold getK
  rw [List.find?_cons]
  by_cases z : p.1 = k
  · rw [if_pos z, decide_eq_true z]; rfl
  · rw [if_neg z, decide_eq_false z]
theorem getK_map (k k2 : L2.Key) (v : Val) : ∀ kvs : List (L2.Key × Val), getK (kvs.map fun kv => if kv.1 = k then (kv.1, v) else kv) k2 = if k2 = k then (if (kvs.any fun kv => decide (kv.1 = k)) = true then some v else none) else getK kvs k2
  | [] => by rw [List.map_nil, getK_nil]; simp
  | p :: r => by
    rw [List.map_cons, getK_cons, getK_cons, getK_map k k2 v r, List.any_cons]
    by_cases z : p.1 = k
    · by_cases y : k2 = k
      · subst y; simp [z]
      · have : ¬ k = k2 := fun q => y q.symm
        simp [z, y, this]
    · rw [decide_eq_false z, Bool.false_or, if_neg z]
      by_cases y : k2 = k
      · subst y; simp only [if_neg z]
      · simp only [if_neg y]
theorem getK_app (k k2 : L2.Key) (v : Val) : ∀ kvs : List (L2.Key × Val), (kvs.any fun kv => decide (kv.1 = k)) = false → getK (kvs ++ [(k, v)]) k2 = if k2 = k then some v else getK kvs k2
  | [], _ => by
    rw [List.nil_append, getK_cons, getK_nil]
    by_cases y : k2 = k
    · subst y; simp
    · have : ¬ k = k2 := fun q => y q.symm
      simp [y, this]
  | p :: r, h => by
    rw [List.any_cons, Bool.or_eq_false_iff] at h
    rw [List.cons_append, getK_cons, getK_cons, getK_app k k2 v r h.2]
    have z : ¬ p.1 = k := of_decide_eq_false h.1
    by_cases y : k2 = k
    · subst y; simp [z]
    · simp [y]
theorem getK_setK (kvs : List (L2.Key × Val)) (k k2 : L2.Key) (v : Val) : getK (setK kvs k v) k2 = if k2 = k then some v else getK kvs k2 := by
  unfold setK
  by_cases q : (kvs.any fun kv => decide (kv.1 = k)) = true
  · rw [if_pos q, getK_map, if_pos q]
  · rw [if_neg q, getK_app _ _ _ _ (Bool.eq_false_iff.mpr q)]
theorem setK_len (kvs : List (L2.Key × Val)) (k : L2.Key) (v : Val) : (setK kvs k v).length ≤ kvs.length + 1 := by
  unfold setK
  split
  · rw [List.length_map]; omega
  · rw [List.length_append, List.length_singleton]; omega
theorem getK_delK (k k2 : L2.Key) : ∀ kvs : List (L2.Key × Val), getK (delK kvs k) k2 = if k2 = k then none else getK kvs k2
  | [] => by unfold delK; rw [List.filter_nil, getK_nil]; simp
  | p :: r => by
    have ih := getK_delK k k2 r
    unfold delK at ih ⊢
    rw [List.filter_cons, getK_cons]
    by_cases z : p.1 = k
    · rw [if_neg (by simp [z]), ih]
      by_cases y : k2 = k
      · subst y; simp
      · have : ¬ k = k2 := fun q => y q.symm
        simp [y, z, this]
    · rw [if_pos (by simp [z]), getK_cons, ih]
      by_cases y : k2 = k
      · subst y; simp [z]
      · simp [y]
theorem delK_len (kvs : List (L2.Key × Val)) (k : L2.Key) : (delK kvs k).length ≤ kvs.length := List.length_filter_le _ _
/-- a dict that tells what each key holds -/
def Dct (h : Hc) (d i : Nat) (mm : Str → Option Int) : Prop := ∃ kvs, h.get d = some (.dic kvs) ∧ kvs.length ≤ i ∧ ∀ k : Str, (getK kvs (.inr k)).getD .non = ov (mm k)
theorem Dct.mono {h h' : Hc} (x : Ext h h') {d i : Nat} {mm : Str → Option Int} (k : Dct h d i mm) : Dct h' d i mm := by
  obtain ⟨kvs, e, l, q⟩ := k
  exact ⟨kvs, x.at_ _ _ e, l, q⟩
theorem Dct.set {h : Hc} {d i : Nat} {mm : Str → Option Int} {kvs : List (L2.Key × Val)} (l : kvs.length ≤ i) (q : ∀ k : Str, (getK kvs (.inr k)).getD .non = ov (mm k)) (k : Str) (y : Option Int) : Dct (h.put d (.dic (setK kvs (.inr k) (ov y)))) d (i + 1) (fun k2 => if k2 = k then y else mm k2) := by
  refine ⟨_, get_put_at _ _ _, Nat.le_trans (setK_len _ _ _) (Nat.succ_le_succ l), fun k2 => ?_⟩
  rw [getK_setK]
  by_cases z : k2 = k
  · subst z; simp
  · have : ¬ (Sum.inr k2 : L2.Key) = .inr k := fun y => z (Sum.inr.inj y)
    rw [if_neg this]
    simp only [if_neg z]
    exact q k2
end Wk
end
section
set_option Elab.async false
set_option linter.all false
set_option maxRecDepth 100000
set_option maxHeartbeats 4000000
/-! k90: is_order on a list of places. -/
namespace Wk
open PySem Mr K90
theorem all_trues (n : Nat) : PyData.plainAll (List.replicate n (PyData.bool true)) = true ∧ (List.replicate n (PyData.bool true)).all fitB = true ∧ (List.replicate n (PyData.bool true)).all PyData.truthy = true := by
  induction n with
  | zero => exact ⟨rfl, rfl, rfl⟩
  | succ n ih =>
    rw [List.replicate_succ]
    exact ⟨ih.1, ih.2.1, ih.2.2⟩
theorem all_true {h : Hc} {m n : Nat} (e : h.get m = some (.lst (List.replicate n (.bl true)))) : fAny (fun f ds => ds.all f) [.ref m] h = .ok (.bl true) h := by
  have k : ∀ n, mapD (toD h 63) (List.replicate n (.bl true)) = some (List.replicate n (PyData.bool true)) := fun n => by
    induction n with
    | zero => rfl
    | succ n ih =>
      rw [List.replicate_succ, List.replicate_succ]
      unfold mapD
      rw [ih]
      rfl
  obtain ⟨k1, k2, k3⟩ := all_trues n
  unfold fAny
  have td : toD h 64 (.ref m) = some (.list (List.replicate n (PyData.bool true))) := by
    unfold toD
    simp only [e, k]
    rfl
  simp only [td, k1, k2, k3, Bool.and_self, if_true]
theorem lrg_eq {n : Nat} (hn : n ≤ 1000) {m : AM} {e : Mr.Env} {h h1 : Hc} (hm : m e h = .ok [.int (n : Nat)] h1) : eLrg m e h = .ok (.ref h1.n) (h1.new (.lst (iv (List.range n)))) := by
  unfold eLrg
  rw [hm]
  rw [bind_ok]
  split
  · rename_i n2 q
    cases q
    rw [if_pos (rg_fit hn), rg_iv]
  · rename_i q
    cases q
  · rename_i q1 q2
    exact absurd rfl (q1 _)
/-- the truth of P -/
def Tells (v : Val) (P : Prop) : Prop := ∃ b, v = .bl b ∧ (b = true ↔ P)
theorem tells_f {P : Prop} (h : ¬ P) : Tells (.bl false) P := ⟨false, rfl, fun q => (by cases q), fun q => absurd q h⟩
theorem tells_t {P : Prop} (h : P) : Tells (.bl true) P := ⟨true, rfl, fun _ => h, fun _ => rfl⟩
/-- the greatest begin so far -/
def Lat (f : Nat → O) (l : List Nat) (lt : Option Int) : Prop := (lt = none ∧ l = []) ∨ ∃ z, lt = some z ∧ ∀ x : Int, z ≤ x ↔ ∀ c ∈ l, (f c).b ≤ x
theorem isord_iv {h : Hc} (w : Wf h) {v0 : Val} {ops : List O} (k0 : IsOps h v0 ops) (hg : ∀ o ∈ ops, Good o) (hl : ops.length ≤ 5) {n1 : Nat} {m : List Nat} (e1 : h.get n1 = some (.lst (iv m))) (hm : ∀ a ∈ m, a < ops.length) (hlm : m.length ≤ 100)
    {X : Str → Option Nat → Hc → Prop} : Ok (F_is_order [v0, .ref n1] h) (fun v h' => Ext h h' ∧ Tells v (AccL (tot ops) ops.length m)) X := by
  have k0' := k0
  obtain ⟨n0, vs, rfl, e0, r0⟩ := k0
  have hlen := Mr.Paired.length r0
  unfold F_is_order
  rw [ok_fn]
  unfold m_is_order
  simp [sExpr, eCall, aCons, aNil, eVar, call1]
  refine Ok.mono (check_ok w k0' hg (by omega)) (fun u h1 ⟨x1, _⟩ => ?_) fun C d h z => z
  have e11 := x1.at_ _ _ e1
  have ki : fIsi isT isBT [.ref n1, .ty "list"] h1 = .ok (.bl true) h1 := isi_at (t := "list") (by unfold tyN; simp only [e11]) (by decide)
  simp [sIf, tOr', tNot', tTru, eFn, aCons, aNil, eVar, eC, ki, truth]
  simp [eLc, iAny, eVar, iAnyV, e11, wipeM]
  refine lc_pure (h := h1) (items := iv m) x1.wf (fun _ => true) (fun _ => .bl true) (by rw [iv_len]; unfold lid; omega) (fun i h' x' => itL_at (x'.at_ _ _ e11) i) (fun v hv h' x' => ?_) (fun h2 x2 n2 g2 o2 => ?_)
  · obtain ⟨a, ha, rfl⟩ := iv_mem hv
    refine ⟨_, rfl, rfl, fun _ => ?_⟩
    simp [gNm, eCall, aCons, aNil, eVar, call1]
    exact int_at (t := "int") rfl (by decide)
  · have g2' : h2.get h1.n = some (.lst (List.replicate m.length (.bl true))) := by
      rw [g2, List.filter_eq_self.mpr (fun _ _ => rfl), List.map_const', iv_len]
    have x02 := x1.trans x2
    have e12 := x02.at_ _ _ e1
    simp [all_true g2', truth, sNil, tVal, eBin, eFn, aCons, aNil, eVar, sorted_at e12]
    have x3 := Ext.new x2.wf (.lst (iv (srt m)))
    have e03 := x3.at_ _ _ (x02.at_ _ _ e0)
    rw [lrg_eq (n := ops.length) (h1 := h2.new (.lst (iv (srt m)))) (by omega) (by simp [eFn, aCons, aNil, eVar, len_lst e03, hlen])]
    simp only [ok_ok]
    have x4 := Ext.new x3.wf (.lst (iv (List.range ops.length)))
    have x04 := x02.trans (x3.trans x4)
    have ga : ((h2.new (.lst (iv (srt m)))).new (.lst (iv (List.range ops.length)))).get h2.n = some (.lst (iv (srt m))) := x4.at_ _ _ (get_new_at _ _)
    have gb : ((h2.new (.lst (iv (srt m)))).new (.lst (iv (List.range ops.length)))).get (h2.new (.lst (iv (srt m)))).n = some (.lst (iv (List.range ops.length))) := get_new_at _ _
    generalize q4 : (h2.new (.lst (iv (srt m)))).new (.lst (iv (List.range ops.length))) = h4 at *
    simp [eq_iv ga gb, truth]
    by_cases hs : srt m = List.range ops.length
    · simp [hs, sNil, sPar, eDnew, eC, aCons, aNil]
      have x5 := Ext.new x4.wf (.dic [])
      have x05 := x04.trans x5
      unfold sFor
      have e15 := x05.at_ _ _ e1
      simp [iAny, eVar, iAnyV, e15]
      have hd : h.n ≤ h4.n := x04.n
      refine for_ok (items := iv m) (fun i en h' => Ext h h' ∧ (∃ lt a4 a5 a6 a7 a8 a9 a10 a11, en = [some (.ref n0), some (.ref n1), some (.ref h4.n), some (ov lt), a4, a5, a6, a7, a8, a9, a10, a11] ∧ Lat (tot ops) (m.take i) lt) ∧ Dct h' h4.n i (aft (tot ops) (m.take i) fun _ => none) ∧ RT (tot ops) (m.take i) ∧ Sem (tot ops) (m.take i) fun _ => none) ?_ ?_ ?_ lid 0 _ _ (by rw [iv_len]; unfold lid; omega) (Nat.zero_le _)
        ⟨x05, ⟨none, _, _, _, _, _, _, _, _, rfl, .inl ⟨rfl, rfl⟩⟩, ⟨[], get_new_at _ _, Nat.le_refl _, fun k => rfl⟩, List.Pairwise.nil, trivial⟩
      · intro i en h' ⟨x, _⟩
        exact itL_at (x.at_ _ _ e1) i
      · rintro i v en h' hv ⟨x, ⟨lt, a4, a5, a6, a7, a8, a9, a10, a11, rfl, hlt⟩, hD, hrt, hsem⟩
        obtain ⟨a, hia, rfl⟩ := iv_at hv
        obtain ⟨tk, sp⟩ := take_step hia
        have hi : i < m.length := (List.getElem?_eq_some_iff.mp hia).1
        obtain ⟨u, hu, ku⟩ := op_ix (x.at_ _ _ e0) (r0.mono x) (hm a (List.mem_of_getElem? hia))
        have ku' := ku
        obtain ⟨q, rfl, gq⟩ := ku
        have badR : ∀ {z : Int}, (∀ x : Int, z ≤ x ↔ ∀ c ∈ m.take i, (tot ops c).b ≤ x) → (tot ops a).e < z → ¬ AccL (tot ops) ops.length m := fun {z} hz hlt ⟨_, h2, _⟩ => by
          rw [sp] at h2
          have h3 := (rt_append.mp h2).2.2
          have : z ≤ (tot ops a).e := (hz _).mpr fun c hc => h3 c hc a List.mem_cons_self
          omega
        have badS : (vb (tot ops a) (aft (tot ops) (m.take i) (fun _ => none) (tot ops a).k)).1 = false → ¬ AccL (tot ops) ops.length m := fun hb ⟨_, _, h3⟩ => by
          rw [sp] at h3
          have := ((sem_append _ _ _).mp h3).2.1
          rw [hb] at this
          cases this
        obtain ⟨kvs, gd, ld, qd⟩ := hD
        have bigd : kvs.length < big := by show _ < 16777216; omega
        have goodR : (∀ c ∈ m.take i, (tot ops c).b ≤ (tot ops a).e) → RT (tot ops) (m.take (i + 1)) := fun hc => by
          rw [tk]
          exact rt_append.mpr ⟨hrt, List.pairwise_singleton _ _, fun c hc' b hb => by cases List.mem_singleton.mp hb; exact hc c hc'⟩
        have goodS : (vb (tot ops a) (aft (tot ops) (m.take i) (fun _ => none) (tot ops a).k)).1 = true → Sem (tot ops) (m.take (i + 1)) fun _ => none := fun hb => by
          rw [tk]
          exact (sem_append _ _ _).mpr ⟨hsem, hb, trivial⟩
        have qk := qd (tot ops a).k
        have ov0 : ov none = .non := rfl
        have ov1 : ∀ z, ov (some z) = .int z := fun _ => rfl
        rcases hlt with ⟨rfl, hnil⟩ | ⟨z, rfl, hz⟩
        · simp [gNm, sAsg, eBin, eVar, hu, gTp, gq, gsCons, gsNil, sIf, tAnd', tVal, eC, cLt, cmpI, cIs, ov0, sNil, eIf, eCall, aCons, aNil, eDgt1, dicOf, gd, keyOf, call2, qk]
          refine Ok.mono (vb_ok x.wf _ ⟨q, rfl, gq⟩) (fun y h2 ⟨x2, q2, hy, gy⟩ => ?_) fun C d h z => z
          subst hy
          have gd2 := x2.at_ _ _ gd
          cases hb : (vb (tot ops a) (aft (tot ops) (m.take i) (fun _ => none) (tot ops a).k)).1 with
          | false =>
            rw [hb] at gy
            simp [gy, tNot', tTru, eVar, truth, sRet, eC]
            exact ⟨x.trans x2, tells_f (badS hb)⟩
          | true =>
            rw [hb] at gy
            simp [gy, tNot', tTru, eVar, truth, sNil, sDput, gd2, keyOf, bigd]
            refine ⟨Ext.put (x.trans x2) hd gd2 _ w, ⟨some (tot ops a).b, rfl, ?_⟩, ?_, goodR ?_, goodS hb⟩
            · rw [tk, hnil]
              exact .inr ⟨_, rfl, fun x => by simp⟩
            · have e : aft (tot ops) (m.take (i + 1)) (fun _ => none) = fun k2 => if k2 = (tot ops a).k then (vb (tot ops a) (aft (tot ops) (m.take i) (fun _ => none) (tot ops a).k)).2 else aft (tot ops) (m.take i) (fun _ => none) k2 := by
                rw [tk, aft_append]; rfl
              rw [e]
              exact Dct.set ld qd _ _
            · rw [hnil]; intro c hc; cases hc
        · by_cases hlt2 : (tot ops a).e < z
          · simp [gNm, sAsg, eBin, eVar, hu, gTp, gq, gsCons, gsNil, sIf, tAnd', tVal, eC, cLt, cmpI, cIs, ov1, hlt2, sRet]
            exact ⟨x, tells_f (badR hz hlt2)⟩
          · simp [gNm, sAsg, eBin, eVar, hu, gTp, gq, gsCons, gsNil, sIf, tAnd', tVal, eC, cLt, cmpI, cIs, ov1, hlt2, sNil, eIf, eFn, fMax, eCall, aCons, aNil, eDgt1, dicOf, gd, keyOf, call2, qk]
            refine Ok.mono (vb_ok x.wf _ ⟨q, rfl, gq⟩) (fun y h2 ⟨x2, q2, hy, gy⟩ => ?_) fun C d h z => z
            subst hy
            have gd2 := x2.at_ _ _ gd
            cases hb : (vb (tot ops a) (aft (tot ops) (m.take i) (fun _ => none) (tot ops a).k)).1 with
            | false =>
              rw [hb] at gy
              simp [gy, tNot', tTru, eVar, truth, sRet, eC]
              exact ⟨x.trans x2, tells_f (badS hb)⟩
            | true =>
              rw [hb] at gy
              simp [gy, tNot', tTru, eVar, truth, sNil, sDput, gd2, keyOf, bigd]
              refine ⟨Ext.put (x.trans x2) hd gd2 _ w, ⟨some (if z < (tot ops a).b then (tot ops a).b else z), rfl, ?_⟩, ?_, goodR ?_, goodS hb⟩
              · rw [tk]
                refine .inr ⟨_, rfl, fun x => ?_⟩
                simp only [List.mem_append, List.mem_singleton]
                constructor
                · intro hx c hc
                  rcases hc with hc | hc
                  · exact (hz x).mp (by split at hx <;> omega) c hc
                  · subst hc; split at hx <;> omega
                · intro hx
                  have h1 := (hz x).mpr fun c hc => hx c (.inl hc)
                  have h2 := hx a (.inr rfl)
                  split <;> omega
              · have e : aft (tot ops) (m.take (i + 1)) (fun _ => none) = fun k2 => if k2 = (tot ops a).k then (vb (tot ops a) (aft (tot ops) (m.take i) (fun _ => none) (tot ops a).k)).2 else aft (tot ops) (m.take i) (fun _ => none) k2 := by
                  rw [tk, aft_append]; rfl
                rw [e]
                exact Dct.set ld qd _ _
              · exact (hz _).mp (by omega)
      · rintro en h' ⟨x, _, hD, hrt, hsem⟩
        rw [iv_len, List.take_of_length_le (Nat.le_refl _)] at hrt hsem
        simp [sRet, eC]
        exact ⟨x, tells_t ⟨hs, hrt, hsem⟩⟩
    · simp [hs, sRet, eC]
      exact ⟨x04, tells_f fun q => hs q.1⟩
end Wk
end
section
set_option Elab.async false
set_option linter.all false
set_option maxRecDepth 100000
set_option maxHeartbeats 4000000
/-! k90: the law's own check on a list of places. -/
namespace Wk
open PySem Mr K90
theorem cut_from {l : List Nat} {i : Nat} (hi : i ≤ l.length) : cutM (iv l) (some (i : Nat)) none = iv (l.drop i) := by
  have k1 : HT.sIx (iv l).length 0 (some (i : Nat)) = i := by
    rw [iv_len, HT.sIx_nat]
    omega
  have k2 : HT.sIx (iv l).length (iv l).length none = l.length := by
    rw [iv_len]
    rfl
  unfold cutM
  rw [k1, k2]
  unfold iv
  rw [← List.map_drop, ← List.map_take, List.take_of_length_le (by rw [List.length_drop]; omega)]
theorem rt_suf {f : Nat → O} {m : List Nat} (h : ∀ j c, m[j]? = some c → ∀ x ∈ m.drop j, (f c).b ≤ (f x).e) : RT f m := by
  unfold RT
  induction m with
  | nil => exact .nil
  | cons a r ih =>
    refine List.pairwise_cons.mpr ⟨fun x hx => h 0 a rfl x (List.mem_cons_of_mem _ hx), ih fun j c hj x hx => h (j + 1) c hj x hx⟩
theorem law_isord_iv {h : Hc} (w : Wf h) {v0 : Val} {ops : List O} (k0 : IsOps h v0 ops) (hg : ∀ o ∈ ops, Good o) (hl : ops.length ≤ 5) {n1 : Nat} {m : List Nat} (e1 : h.get n1 = some (.lst (iv m))) (hm : ∀ a ∈ m, a < ops.length) (hlm : m.length ≤ 100)
    {X : Str → Option Nat → Hc → Prop} : Ok (F__law_is_order [v0, .ref n1] h) (fun v h' => Ext h h' ∧ Tells v (AccL (tot ops) ops.length m)) X := by
  have k0' := k0
  obtain ⟨n0, vs, rfl, e0, r0⟩ := k0
  have hlen := Mr.Paired.length r0
  unfold F__law_is_order
  rw [ok_fn]
  unfold m__law_is_order
  have ki : fIsi isT isBT [.ref n1, .ty "list"] h = .ok (.bl true) h := isi_at (t := "list") (by unfold tyN; simp only [e1]) (by decide)
  simp [sIf, tOr', tNot', tTru, eFn, aCons, aNil, eVar, eC, ki, truth, tVal, eBin]
  simp [eLc, iAny, eVar, iAnyV, e1, wipeM]
  refine lc_pure (h := h) (items := iv m) w (fun _ => false) (fun v => v) (by rw [iv_len]; unfold lid; omega) (fun i h' x' => itL_at (x'.at_ _ _ e1) i) (fun v hv h' x' => ?_) (fun h2 x2 n2 g2 o2 => ?_)
  · obtain ⟨a, ha, rfl⟩ := iv_mem hv
    have k1 : fIsi isT isBT [.int (a : Nat), .ty "int"] h' = .ok (.bl true) h' := isi_at (t := "int") rfl (by decide)
    have k2 : fIsi isT isBT [.int (a : Nat), .ty "bool"] h' = .ok (.bl false) h' := isi_at (t := "int") rfl (by decide)
    refine ⟨_, rfl, ?_, fun q => by cases q⟩
    simp [gNm, tOr', tNot', tTru, eFn, aCons, aNil, eVar, eC, k1, k2, truth]
  · have g2' : h2.get h.n = some (.lst (iv [])) := by
      rw [g2, List.filter_eq_nil_iff.mpr (fun _ _ => by simp)]
      rfl
    have xn := Ext.new x2.wf (.lst [])
    have gn : (h2.new (.lst [])).get h2.n = some (.lst (iv [])) := get_new_at _ _
    simp [eLst, aNil, eq_iv (xn.at_ _ _ g2') gn, truth, sNil]
    have x02 := x2.trans xn
    generalize qn : h2.new (.lst []) = hn at *
    have e12 := x02.at_ _ _ e1
    simp [tVal, eBin, eFn, aCons, aNil, eVar, sorted_at e12]
    have x3 := Ext.new xn.wf (.lst (iv (srt m)))
    have e03 := x3.at_ _ _ (x02.at_ _ _ e0)
    rw [lrg_eq (n := ops.length) (h1 := hn.new (.lst (iv (srt m)))) (by omega) (by simp [eFn, aCons, aNil, eVar, len_lst e03, hlen])]
    simp only [ok_ok]
    have x4 := Ext.new x3.wf (.lst (iv (List.range ops.length)))
    have x04 := x02.trans (x3.trans x4)
    have ga : ((hn.new (.lst (iv (srt m)))).new (.lst (iv (List.range ops.length)))).get hn.n = some (.lst (iv (srt m))) := x4.at_ _ _ (get_new_at _ _)
    have gb : ((hn.new (.lst (iv (srt m)))).new (.lst (iv (List.range ops.length)))).get (hn.new (.lst (iv (srt m)))).n = some (.lst (iv (List.range ops.length))) := get_new_at _ _
    generalize q4 : (hn.new (.lst (iv (srt m)))).new (.lst (iv (List.range ops.length))) = h4 at *
    simp [eq_iv ga gb, truth]
    by_cases hs : srt m = List.range ops.length
    · simp [hs, sNil, sAsg, eDnew, gNm, eC, aCons, aNil]
      have x5 := Ext.new x4.wf (.dic [])
      have x05 := x04.trans x5
      have e15 := x05.at_ _ _ e1
      have hd : h.n ≤ h4.n := x04.n
      simp [sFor, iEn, aCons, aNil, eVar, e15]
      refine for_gen (iv m).length (fun i en h' => Ext h h' ∧ (∃ a3 a4 a5 a6 a7 a8 a9 a10, en = [some (.ref n0), some (.ref n1), some (.ref h4.n), a3, a4, a5, a6, a7, a8, a9, a10]) ∧ Dct h' h4.n i (aft (tot ops) (m.take i) fun _ => none) ∧ (∀ j c, j < i → m[j]? = some c → ∀ x ∈ m.drop j, (tot ops c).b ≤ (tot ops x).e) ∧ Sem (tot ops) (m.take i) fun _ => none) ?_ ?_ lid 0 _ _ (by rw [iv_len]; unfold lid; omega) (Nat.zero_le _)
        ⟨x05, ⟨_, _, _, _, _, _, _, _, rfl⟩, ⟨[], get_new_at _ _, Nat.le_refl _, fun k => rfl⟩, fun j c hj => (by omega), trivial⟩
      · rintro i en h' hi ⟨x, ⟨a3, a4, a5, a6, a7, a8, a9, a10, rfl⟩, hD, hsuf, hsem⟩
        rw [iv_len] at hi
        have hia : m[i]? = some m[i] := List.getElem?_eq_getElem hi
        generalize qa : m[i] = a at *
        have hv : (iv m)[i]? = some (.int (a : Nat)) := by unfold iv; rw [List.getElem?_map, hia]; rfl
        refine ⟨_, _, itE_at (x.at_ _ _ e1) hv, ?_⟩
        have xt := Ext.new x.wf (.tup [.int (i : Nat), .int (a : Nat)])
        have x' := x.trans xt
        have hD' := hD.mono xt
        simp only [gTp, get_new_at, gsCons, gNm, gsNil]
        generalize qB : h'.new (.tup [.int (i : Nat), .int (a : Nat)]) = hB at *
        obtain ⟨tk, sp⟩ := take_step hia
        obtain ⟨u, hu, ku⟩ := op_ix (x'.at_ _ _ e0) (r0.mono x') (hm a (List.mem_of_getElem? hia))
        obtain ⟨q, rfl, gq⟩ := ku
        simp [sAsg, eBin, eVar, hu, gTp, gq, gsCons, gNm, gsNil]
        have hseq : seqOf T hB (.ref n1) = some (false, iv m) := by unfold seqOf; simp only [x'.at_ _ _ e1]
        have xs := Ext.new x'.wf (.lst (iv (m.drop i)))
        have gs : (hB.new (.lst (iv (m.drop i)))).get hB.n = some (.lst (iv (m.drop i))) := get_new_at _ _
        simp [sIf, tVal, eBin, eLc, iAny, eSl, oSome, oNone, eVar, slM, hseq, cut_from (Nat.le_of_lt hi), iAnyV, gs, wipeM]
        have x'' := x'.trans xs
        generalize qS : hB.new (.lst (iv (m.drop i))) = hS at *
        refine lc_pure (h := hS) (items := iv (m.drop i)) xs.wf (fun v => match v with
          | .int c => decide ((tot ops c.toNat).e < (tot ops a).b)
          | _ => false) (fun v => v) (by rw [iv_len, List.length_drop]; unfold lid; omega) (fun i h' x' => itL_at (x'.at_ _ _ gs) i) (fun v hv h' x' => ?_) (fun h3 x3 n3 g3 o3 => ?_)
        · obtain ⟨c, hc, rfl⟩ := iv_mem hv
          obtain ⟨u2, hu2, ku2⟩ := op_ix ((x''.trans x').at_ _ _ e0) (r0.mono (x''.trans x')) (hm c (List.mem_of_mem_drop hc))
          refine ⟨_, rfl, ?_, fun _ => ?_⟩
          · simp [gNm, tVal, eBin, eVar, eC, hu2, (op_fld ku2).2.1, cLt, cmpI]
          · simp [eVar]
        · have g3' : h3.get hS.n = some (.lst (iv ((m.drop i).filter fun c => decide ((tot ops c).e < (tot ops a).b)))) := by
            rw [g3, List.map_id', iv_filter _ _ (fun c => decide ((tot ops c).e < (tot ops a).b)) (fun c _ => rfl)]
          generalize hfl : (m.drop i).filter (fun c => decide ((tot ops c).e < (tot ops a).b)) = F at g3'
          have x3n := x3.trans (Ext.new x3.wf (.lst []))
          have g3n := (Ext.new x3.wf (.lst [])).at_ _ _ g3'
          have gn3 : (h3.new (.lst [])).get h3.n = some (.lst (iv [])) := get_new_at _ _
          simp [eLst, aNil, eq_iv g3n gn3, truth]
          have x4' := x''.trans x3n
          have hD4 := hD'.mono (xs.trans x3n)
          generalize q5 : h3.new (.lst []) = h5 at *
          obtain ⟨kvs, gd, ld, qd⟩ := hD4
          have bigd : kvs.length < big := by show _ < 16777216; omega
          have qk := qd (tot ops a).k
          have hgood : (tot ops a).b < (tot ops a).e := (hg _ (List.mem_of_getElem? (tot_at (hm a (List.mem_of_getElem? hia))))).be
          have dr : m.drop i = a :: m.drop (i + 1) := by rw [List.drop_eq_getElem_cons hi, qa]
          cases F with
          | cons c0 r0' =>
            simp [sRet, eC]
            refine ⟨x4', tells_f fun ⟨_, h2, _⟩ => ?_⟩
            have hc : c0 ∈ (m.drop i).filter (fun c => decide ((tot ops c).e < (tot ops a).b)) := by rw [hfl]; exact List.mem_cons_self
            obtain ⟨hc1, hc2⟩ := List.mem_filter.mp hc
            have hc2 := of_decide_eq_true hc2
            rw [sp] at h2
            have h3 := (rt_append.mp h2).2.1
            have h4 := (List.pairwise_cons.mp h3).1
            rw [dr] at hc1
            rcases List.mem_cons.mp hc1 with z | z
            · subst z; omega
            · have := h4 c0 z; omega
          | nil =>
            have hge : ∀ x ∈ m.drop i, (tot ops a).b ≤ (tot ops x).e := fun x hx => by
              have := List.filter_eq_nil_iff.mp hfl x hx
              rw [decide_eq_true_eq] at this
              omega
            have suf' : ∀ j c, j < i + 1 → m[j]? = some c → ∀ x ∈ m.drop j, (tot ops c).b ≤ (tot ops x).e := fun j c hj hc x hx => by
              by_cases z : j = i
              · subst z; rw [hia] at hc; cases hc; exact hge x hx
              · exact hsuf j c (by omega) hc x hx
            have badS : (vb (tot ops a) (aft (tot ops) (m.take i) (fun _ => none) (tot ops a).k)).1 = false → ¬ AccL (tot ops) ops.length m := fun hb ⟨_, _, h3⟩ => by
              rw [sp] at h3
              have := ((sem_append _ _ _).mp h3).2.1
              rw [hb] at this
              cases this
            have goodS : (vb (tot ops a) (aft (tot ops) (m.take i) (fun _ => none) (tot ops a).k)).1 = true → Sem (tot ops) (m.take (i + 1)) fun _ => none := fun hb => by
              rw [tk]
              exact (sem_append _ _ _).mpr ⟨hsem, hb, trivial⟩
            have eaft : aft (tot ops) (m.take (i + 1)) (fun _ => none) = fun k2 => if k2 = (tot ops a).k then (vb (tot ops a) (aft (tot ops) (m.take i) (fun _ => none) (tot ops a).k)).2 else aft (tot ops) (m.take i) (fun _ => none) k2 := by
              rw [tk, aft_append]; rfl
            generalize aft (tot ops) (m.take i) (fun _ => none) = mm at *
            cases hw : (tot ops a).w with
            | put =>
              have hv1 : vb (tot ops a) (mm (tot ops a).k) = (true, (tot ops a).v) := by unfold vb; rw [hw]
              rw [hv1] at eaft goodS
              simp [wv, sNil, sExpr, tAnd', tVal, eBin, eVar, eC, eq_str, truth, sDput, gd, keyOf, bigd]
              refine ⟨Ext.put x4' hd gd _ w, ⟨_, _, _, _, _, _, _, _, rfl⟩, ?_, suf', goodS rfl⟩
              rw [eaft]
              exact Dct.set ld qd _ _
            | get =>
              have hv1 : vb (tot ops a) (mm (tot ops a).k) = (decide ((tot ops a).v = mm (tot ops a).k), mm (tot ops a).k) := by unfold vb; rw [hw]
              rw [hv1] at eaft goodS badS
              have e2 : (fun k2 => if k2 = (tot ops a).k then mm (tot ops a).k else mm k2) = mm := by
                funext k2
                by_cases z : k2 = (tot ops a).k
                · rw [if_pos z, z]
                · rw [if_neg z]
              by_cases hq : (tot ops a).v = mm (tot ops a).k
              · simp [wv, sNil, tAnd', tVal, eBin, eVar, eC, eq_str, truth, eDgt1, dicOf, gd, keyOf, qk, eq_ov, hq]
                refine ⟨x4', ⟨_, _, _, _, _, _, _, _, rfl⟩, ?_, suf', goodS (decide_eq_true hq)⟩
                rw [eaft, e2]
                exact ⟨kvs, gd, Nat.le_succ_of_le ld, qd⟩
              · have hq' : ¬ mm (tot ops a).k = (tot ops a).v := fun z => hq z.symm
                simp [wv, sNil, tAnd', tVal, eBin, eVar, eC, eq_str, truth, eDgt1, dicOf, gd, keyOf, qk, eq_ov, hq', sRet]
                exact ⟨x4', tells_f (badS (decide_eq_false hq))⟩
            | del =>
              have hv1 : vb (tot ops a) (mm (tot ops a).k) = (decide ((tot ops a).v = mm (tot ops a).k), none) := by unfold vb; rw [hw]
              rw [hv1] at eaft goodS badS
              have sd : ¬ (Str.ofString "delete" = Str.ofString "put") := by decide
              by_cases hq : (tot ops a).v = mm (tot ops a).k
              · simp [wv, sNil, tAnd', tVal, eBin, eVar, eC, eq_str, truth, eDgt1, dicOf, gd, keyOf, qk, eq_ov, hq, sExpr, eDpop2, sd]
                cases hk : getK kvs (.inr (tot ops a).k) with
                | none =>
                  simp [sIf, tVal, eBin, eVar, eC, eq_str, truth, sExpr, eDpop2, dicOf, gd, keyOf, hk, sd]
                  refine ⟨x4', ?_, suf', goodS (decide_eq_true hq)⟩
                  rw [eaft]
                  refine ⟨kvs, gd, Nat.le_succ_of_le ld, fun k2 => ?_⟩
                  by_cases z : k2 = (tot ops a).k
                  · simp only [if_pos z]
                    rw [z, hk]
                    rfl
                  · simp only [if_neg z]
                    exact qd k2
                | some y =>
                  simp [sIf, tVal, eBin, eVar, eC, eq_str, truth, sExpr, eDpop2, dicOf, gd, keyOf, hk, sd]
                  refine ⟨Ext.put x4' hd gd _ w, ?_, suf', goodS (decide_eq_true hq)⟩
                  rw [eaft]
                  refine ⟨_, get_put_at _ _ _, Nat.le_succ_of_le (Nat.le_trans (delK_len _ _) ld), fun k2 => ?_⟩
                  rw [getK_delK]
                  by_cases z : k2 = (tot ops a).k
                  · rw [if_pos (by rw [z])]
                    simp only [if_pos z]
                    rfl
                  · rw [if_neg (fun q => z (Sum.inr.inj q))]
                    simp only [if_neg z]
                    exact qd k2
              · have hq' : ¬ mm (tot ops a).k = (tot ops a).v := fun z => hq z.symm
                simp [wv, sNil, tAnd', tVal, eBin, eVar, eC, eq_str, truth, eDgt1, dicOf, gd, keyOf, qk, eq_ov, hq', sRet, sd]
                exact ⟨x4', tells_f (badS (decide_eq_false hq))⟩
      · rintro en h' ⟨x, _, hD, hsuf, hsem⟩
        refine ⟨itE_end (x.at_ _ _ e1), ?_⟩
        rw [iv_len] at hsuf hsem
        rw [List.take_of_length_le (Nat.le_refl _)] at hsem
        simp [sRet, eC]
        exact ⟨x, tells_t ⟨hs, rt_suf fun j c hj => hsuf j c (List.getElem?_eq_some_iff.mp hj).1 hj, hsem⟩⟩
    · simp [hs, sRet, eC]
      exact ⟨x04, tells_f fun q => hs q.1⟩
end Wk
end
section
set_option Elab.async false
set_option linter.all false
set_option maxRecDepth 100000
set_option maxHeartbeats 4000000
/-! k90: both checks on other values. -/
namespace Wk
open PySem Mr K90
/-- what is no list -/
theorem isord_no {h : Hc} (w : Wf h) {v0 v : Val} {ops : List O} (k0 : IsOps h v0 ops) (hg : ∀ o ∈ ops, Good o) (hl : ops.length ≤ 5) {t : String} (hv : ∀ h', Ext h h' → tyN h' v = some t) (ht : isB t "list" = some false)
    {X : Str → Option Nat → Hc → Prop} : Ok (F_is_order [v0, v] h) (fun y h' => Ext h h' ∧ y = .bl false) X := by
  unfold F_is_order
  rw [ok_fn]
  unfold m_is_order
  simp [sExpr, eCall, aCons, aNil, eVar, call1]
  refine Ok.mono (check_ok w k0 hg (by omega)) (fun u h1 ⟨x1, _⟩ => ?_) fun C d h z => z
  have ki : fIsi isT isBT [v, .ty "list"] h1 = .ok (.bl false) h1 := isi_at (hv h1 x1) ht
  simp [sIf, tOr', tNot', tTru, eFn, aCons, aNil, eVar, eC, ki, truth, sRet]
  exact x1
theorem law_isord_no {h : Hc} (w : Wf h) {v0 v : Val} {t : String} (hv : tyN h v = some t) (ht : isB t "list" = some false)
    {X : Str → Option Nat → Hc → Prop} : Ok (F__law_is_order [v0, v] h) (fun y h' => Ext h h' ∧ y = .bl false) X := by
  unfold F__law_is_order
  rw [ok_fn]
  unfold m__law_is_order
  have ki : fIsi isT isBT [v, .ty "list"] h = .ok (.bl false) h := isi_at hv ht
  simp [sIf, tOr', tNot', tTru, eFn, aCons, aNil, eVar, eC, ki, truth, sRet]
  exact Ext.refl w
/-- a bool or a text that can be told -/
def Odd (v : Val) : Prop := (∃ b, v = .bl b) ∨ ∃ s, v = .str s ∧ PyData.canLay0 (.str s) = true
def oddD : Val → PyData
  | .bl b => .bool b
  | .str s => .str s
  | _ => .none
theorem odd_toD {v : Val} (k : Odd v) (h : Hc) (f : Nat) : toD h f v = some (oddD v) := by
  rcases k with ⟨b, rfl⟩ | ⟨s, rfl, _⟩ <;> cases f <;> rfl
theorem odd_flat {v : Val} (k : Odd v) : Flat 0 (oddD v) := by
  rcases k with ⟨b, rfl⟩ | ⟨s, rfl, hs⟩
  · exact ⟨rfl, Nat.le_refl _⟩
  · exact ⟨hs, Nat.le_refl _⟩
theorem odd_mapD (h : Hc) (f : Nat) : ∀ {xs : List Val}, (∀ v ∈ xs, Odd v) → mapD (toD h f) xs = some (xs.map oddD)
  | [], _ => rfl
  | v :: r, k => by
    unfold mapD
    rw [odd_toD (k v List.mem_cons_self), odd_mapD h f fun x hx => k x (List.mem_cons_of_mem _ hx)]
    rfl
theorem odd_list {h : Hc} {n : Nat} {xs : List Val} (e : h.get n = some (.lst xs)) (k : ∀ v ∈ xs, Odd v) : toD h 64 (.ref n) = some (.list (xs.map oddD)) := by
  unfold toD
  simp only [e, odd_mapD h 63 k]
  rfl
theorem odd_flats {xs : List Val} (k : ∀ v ∈ xs, Odd v) : Flat 1 (.list (xs.map oddD)) := flat_list fun d hd => by
  obtain ⟨v, hv, rfl⟩ := List.mem_map.mp hd
  exact odd_flat (k v hv)
theorem all_falses (n : Nat) : PyData.plainAll (List.replicate n (PyData.bool false)) = true ∧ (List.replicate n (PyData.bool false)).all fitB = true := ⟨(no_false n).1, (no_false n).2.1⟩
theorem all_false {h : Hc} {m n : Nat} (e : h.get m = some (.lst (List.replicate (n + 1) (.bl false)))) : fAny (fun f ds => ds.all f) [.ref m] h = .ok (.bl false) h := by
  have k : ∀ n, mapD (toD h 63) (List.replicate n (.bl false)) = some (List.replicate n (PyData.bool false)) := fun n => by
    induction n with
    | zero => rfl
    | succ n ih =>
      rw [List.replicate_succ, List.replicate_succ]
      unfold mapD
      rw [ih]
      rfl
  obtain ⟨k1, k2⟩ := all_falses (n + 1)
  unfold fAny
  have td : toD h 64 (.ref m) = some (.list (List.replicate (n + 1) (PyData.bool false))) := by
    unfold toD
    simp only [e, k]
    rfl
  have k3 : (List.replicate (n + 1) (PyData.bool false)).all PyData.truthy = false := by
    rw [List.replicate_succ]
    rfl
  simp only [td, k1, k2, k3, Bool.and_self, if_true]
theorem isord_odd {h : Hc} (w : Wf h) {v0 : Val} {ops : List O} (k0 : IsOps h v0 ops) (hg : ∀ o ∈ ops, Good o) (hl : ops.length ≤ 5) {n1 : Nat} {xs : List Val} (e1 : h.get n1 = some (.lst xs)) (ho : ∀ v ∈ xs, Odd v) (hne : xs ≠ []) (hlx : xs.length ≤ 100)
    {X : Str → Option Nat → Hc → Prop} : Ok (F_is_order [v0, .ref n1] h) (fun y h' => Ext h h' ∧ y = .bl false) X := by
  unfold F_is_order
  rw [ok_fn]
  unfold m_is_order
  simp [sExpr, eCall, aCons, aNil, eVar, call1]
  refine Ok.mono (check_ok w k0 hg (by omega)) (fun u h1 ⟨x1, _⟩ => ?_) fun C d h z => z
  have e11 := x1.at_ _ _ e1
  have ki : fIsi isT isBT [.ref n1, .ty "list"] h1 = .ok (.bl true) h1 := isi_at (t := "list") (by unfold tyN; simp only [e11]) (by decide)
  simp [sIf, tOr', tNot', tTru, eFn, aCons, aNil, eVar, eC, ki, truth]
  simp [eLc, iAny, eVar, iAnyV, e11, wipeM]
  refine lc_pure (h := h1) (items := xs) x1.wf (fun _ => true) (fun _ => .bl false) (by unfold lid; omega) (fun i h' x' => itL_at (x'.at_ _ _ e11) i) (fun v hv h' x' => ?_) (fun h2 x2 n2 g2 o2 => ?_)
  · refine ⟨_, rfl, rfl, fun _ => ?_⟩
    simp [gNm, eCall, aCons, aNil, eVar, call1]
    rcases ho v hv with ⟨b, rfl⟩ | ⟨s, rfl, _⟩
    · exact int_at (t := "bool") rfl (by decide)
    · exact int_at (t := "str") rfl (by decide)
  · obtain ⟨n, hn⟩ : ∃ n, xs.length = n + 1 := by
      cases xs with
      | nil => exact absurd rfl hne
      | cons a r => exact ⟨r.length, rfl⟩
    have g2' : h2.get h1.n = some (.lst (List.replicate (n + 1) (.bl false))) := by
      rw [g2, List.filter_eq_self.mpr (fun _ _ => rfl), List.map_const', hn]
    simp [all_false g2', truth, sRet, eC]
    exact x1.trans x2
theorem law_isord_odd {h : Hc} (w : Wf h) {v0 : Val} {n1 : Nat} {xs : List Val} (e1 : h.get n1 = some (.lst xs)) (ho : ∀ v ∈ xs, Odd v) (hne : xs ≠ []) (hlx : xs.length ≤ 100)
    {X : Str → Option Nat → Hc → Prop} : Ok (F__law_is_order [v0, .ref n1] h) (fun y h' => Ext h h' ∧ y = .bl false) X := by
  unfold F__law_is_order
  rw [ok_fn]
  unfold m__law_is_order
  have ki : fIsi isT isBT [.ref n1, .ty "list"] h = .ok (.bl true) h := isi_at (t := "list") (by unfold tyN; simp only [e1]) (by decide)
  simp [sIf, tOr', tNot', tTru, eFn, aCons, aNil, eVar, eC, ki, truth, tVal, eBin]
  simp [eLc, iAny, eVar, iAnyV, e1, wipeM]
  refine lc_pure (h := h) (items := xs) w (fun _ => true) (fun v => v) (by unfold lid; omega) (fun i h' x' => itL_at (x'.at_ _ _ e1) i) (fun v hv h' x' => ?_) (fun h2 x2 n2 g2 o2 => ?_)
  · refine ⟨_, rfl, ?_, fun _ => by simp [gNm, eVar]⟩
    rcases ho v hv with ⟨b, rfl⟩ | ⟨s, rfl, _⟩
    · have k1 : fIsi isT isBT [.bl b, .ty "int"] h' = .ok (.bl true) h' := isi_at (t := "bool") rfl (by decide)
      have k2 : fIsi isT isBT [.bl b, .ty "bool"] h' = .ok (.bl true) h' := isi_at (t := "bool") rfl (by decide)
      simp [gNm, tOr', tNot', tTru, eFn, aCons, aNil, eVar, eC, k1, k2, truth]
    · have k1 : fIsi isT isBT [.str s, .ty "int"] h' = .ok (.bl false) h' := isi_at (t := "str") rfl (by decide)
      simp [gNm, tOr', tNot', tTru, eFn, aCons, aNil, eVar, eC, k1, truth]
  · have g2' : h2.get h.n = some (.lst xs) := by
      rw [g2, List.filter_eq_self.mpr (fun _ _ => rfl), List.map_id']
    have xn := Ext.new x2.wf (.lst [])
    have gn : (h2.new (.lst [])).get h2.n = some (.lst []) := get_new_at _ _
    have hz : (xs.map oddD).isEmpty = false := by
      cases xs with
      | nil => exact absurd rfl hne
      | cons a r => rfl
    simp only [eLst, aNil, bind_ok, ok_ok]
    simp [eq_nil (odd_list (xn.at_ _ _ g2') ho) (odd_flats ho) (by decide) gn, hz, truth, sRet, eC]
    exact x2.trans xn
end Wk
end
section
set_option Elab.async false
set_option linter.all false
set_option maxRecDepth 100000
set_option maxHeartbeats 4000000
/-! k90: all orders. -/
namespace K90
def perms : Nat → List (List Nat)
  | 0 => [[]]
  | k + 1 => (perms k).flatMap fun o => (List.range (k + 1)).map fun i => o.take i ++ [k] ++ o.drop i
theorem perms_perm : ∀ (k : Nat) (l : List Nat), l ∈ perms k → l.Perm (List.range k)
  | 0, l, h => by cases List.mem_singleton.mp h; exact List.Perm.refl _
  | k + 1, l, h => by
    obtain ⟨o, ho, h2⟩ := List.mem_flatMap.mp h
    obtain ⟨i, _, rfl⟩ := List.mem_map.mp h2
    have ih := perms_perm k o ho
    rw [List.range_succ]
    have e1 : (o.take i ++ [k] ++ o.drop i).Perm (o.take i ++ o.drop i ++ [k]) := by
      rw [List.append_assoc, List.append_assoc]
      exact (List.perm_append_comm).append_left _
    rw [List.take_append_drop] at e1
    exact e1.trans (ih.append_right _)
theorem perms_all : ∀ (k : Nat) (l : List Nat), l.Perm (List.range k) → l ∈ perms k
  | 0, l, h => by
    have := h.length_eq
    rw [List.range_zero, List.length_nil] at this
    rw [List.length_eq_zero_iff.mp this]
    exact List.mem_singleton.mpr rfl
  | k + 1, l, h => by
    have hk : k ∈ l := h.mem_iff.mpr (List.mem_range.mpr (Nat.lt_succ_self k))
    obtain ⟨a, b, rfl⟩ := List.append_of_mem hk
    have e1 : (a ++ k :: b).Perm (a ++ b ++ [k]) := by
      rw [List.append_assoc]
      exact List.Perm.append_left a (List.perm_append_comm (l₁ := [k]) (l₂ := b))
    have e2 : (a ++ b).Perm (List.range k) := by
      have h2 := e1.symm.trans h
      rw [List.range_succ] at h2
      exact (List.perm_append_right_iff _).mp h2
    have len := e2.length_eq
    rw [List.length_append, List.length_range] at len
    refine List.mem_flatMap.mpr ⟨a ++ b, perms_all k _ e2, List.mem_map.mpr ⟨a.length, List.mem_range.mpr (by omega), ?_⟩⟩
    rw [List.take_left', List.drop_left' rfl]
    · simp
    · rfl
theorem perms_small : ∀ k, k ≤ 5 → (perms k).length ≤ 120
  | 0, _ => by decide +kernel
  | 1, _ => by decide +kernel
  | 2, _ => by decide +kernel
  | 3, _ => by decide +kernel
  | 4, _ => by decide +kernel
  | 5, _ => by decide +kernel
  | k + 6, h => by omega
end K90
namespace Wk
open PySem Mr K90
theorem cut_to {l : List Nat} {i : Nat} (hi : i ≤ l.length) : cutM (iv l) none (some (i : Nat)) = iv (l.take i) := by
  have k1 : HT.sIx (iv l).length (iv l).length (some (i : Nat)) = i := by
    rw [iv_len, HT.sIx_nat]
    omega
  have k2 : HT.sIx (iv l).length 0 none = 0 := rfl
  unfold cutM
  rw [k1, k2]
  unfold iv
  rw [List.drop_zero, Nat.sub_zero, ← List.map_take]
theorem sl_at {h : Hc} {r : Nat} {xs : List Val} (e : h.get r = some (.lst xs)) (lo hi : Option Int) : slM T (.ref r) lo hi h = .ok (.ref h.n) (h.new (.lst (cutM xs lo hi))) := by
  unfold slM seqOf
  simp only [e]
theorem add_at {h : Hc} {a b : Nat} {xs ys : List Val} (ea : h.get a = some (.lst xs)) (eb : h.get b = some (.lst ys)) (hl : xs.length + ys.length ≤ 16777216) : bAdd T (.ref a) (.ref b) h = .ok (.ref h.n) (h.new (.lst (xs ++ ys))) := by
  unfold bAdd
  simp only [ea, eb]
  rw [if_pos (show xs.length + ys.length ≤ big from hl)]
theorem iv_app (l m : List Nat) : iv l ++ iv m = iv (l ++ m) := by unfold iv; rw [List.map_append]
theorem rg1_at {n : Nat} (hn : n ≤ 1000) {m : AM} {e : Mr.Env} {h h1 : Hc} (hm : m e h = .ok [.int (n : Nat)] h1) : iRg1 m e h = .ok (itR 0 n) h1 := by
  unfold iRg1
  rw [hm, bind_ok]
  show (if -(2 ^ 62) ≤ ((n : Nat) : Int) ∧ ((n : Nat) : Int) < 2 ^ 62 then Res.ok (itR 0 ((n : Nat) : Int).toNat) h1 else .bad) = _
  split
  · rfl
  · rename_i q
    exact absurd (show -(2 ^ 62 : Int) ≤ ((n : Nat) : Int) ∧ ((n : Nat) : Int) < 2 ^ 62 by omega) q
theorem eBin_ok {g : Val → Val → M Val} {a b : EM} {e : Mr.Env} {h h1 h2 : Hc} {x y : Val} (ha : a e h = .ok x h1) (hb : b e h1 = .ok y h2) : eBin g a b e h = g x y h2 := by
  unfold eBin
  rw [ha, bind_ok, hb, bind_ok]
def ins (k : Nat) (o : List Nat) (i : Nat) : List Nat := o.take i ++ [k] ++ o.drop i
theorem ins_ok {h : Hc} (w : Wf h) {r k : Nat} {o : List Nat} {a1 a3 : Option Val} (er : h.get r = some (.lst (iv o))) (ho : o.length = k) (hk : k ≤ 5) {X : Str → Option Nat → Hc → Prop} {R : Res Val}
    (hR : eLc (iRg1 (aCons (eVar 0) aNil)) (gNm 3) tYes' (eBin (bAdd T) (eBin (bAdd T) (eSl (slM T) (eVar 2) oNone (oSome (eVar 3))) (eLst (aCons (eBin bSub (eVar 0) (eC (.int 1))) aNil))) (eSl (slM T) (eVar 2) (oSome (eVar 3)) oNone)) [3] [some (.int ((k + 1 : Nat) : Int)), a1, some (.ref r), a3] h = R) :
    Ok R (fun v h' => Ext h h' ∧ ∃ r' os, v = .ref r' ∧ h'.get r' = some (.lst os) ∧ os.length = k + 1 ∧ PySem.Paired (LisAt h') os ((List.range (k + 1)).map (ins k o))) X := by
  rw [← hR]
  unfold eLc
  rw [rg1_at (n := k + 1) (h1 := h) (by omega) (by simp [aCons, aNil, eVar]), bind_ok]
  simp only [wipeM]
  have x0 := Ext.new w (.lst [])
  have len : ((List.range (k + 1)).map fun j => Val.int ((0 : Int) + (j : Nat))).length = k + 1 := by simp
  refine lc_ok (d := h.n) (items := (List.range (k + 1)).map fun j => Val.int ((0 : Int) + (j : Nat))) (fun i acc h' => Ext h h' ∧ h'.get h.n = some (.lst acc) ∧ PySem.Paired (fun v l => LisAt h' v l ∧ v ≠ .ref h.n) acc (((List.range (k + 1)).take i).map (ins k o))) (fun i acc h' _ => itR_at 0 (k + 1) i h') ?_ ?_ lid 0 [] _ (by rw [len]; unfold lid; omega) (Nat.zero_le _)
    ⟨x0, get_new_at _ _, .nil⟩
  · rintro i v acc h' hv ⟨x, gd, kp⟩
    have hi : i < k + 1 := by
      have := (List.getElem?_eq_some_iff.mp hv).1
      rw [len] at this
      exact this
    have ev : v = .int (i : Nat) := by
      rw [List.getElem?_map, List.getElem?_range hi] at hv
      have := Option.some.inj hv
      rw [← this]
      show Val.int ((0 : Int) + (i : Nat)) = _
      rw [Int.zero_add]
    subst ev
    have er1 := x.at_ _ _ er
    have xa := Ext.new x.wf (.lst (iv (o.take i)))
    have ga : (h'.new (.lst (iv (o.take i)))).get h'.n = some (.lst (iv (o.take i))) := get_new_at _ _
    generalize qa : h'.new (.lst (iv (o.take i))) = ha at *
    have na : ha.n = h'.n + 1 := by rw [← qa]; rfl
    have xb := Ext.new xa.wf (.lst (iv [k]))
    have gb : (ha.new (.lst (iv [k]))).get ha.n = some (.lst (iv [k])) := get_new_at _ _
    have qb' : ha.new (.lst [.int ((k + 1 : Nat) - 1 : Int)]) = ha.new (.lst (iv [k])) := by
      have : ((k + 1 : Nat) - 1 : Int) = (k : Nat) := by omega
      rw [this]
      rfl
    generalize qb : ha.new (.lst (iv [k])) = hb' at *
    have nb : hb'.n = ha.n + 1 := by rw [← qb]; rfl
    have ga2 := xb.at_ _ _ ga
    have xc := Ext.new xb.wf (.lst (iv (o.take i ++ [k])))
    have gc : (hb'.new (.lst (iv (o.take i ++ [k])))).get hb'.n = some (.lst (iv (o.take i ++ [k]))) := get_new_at _ _
    generalize qc : hb'.new (.lst (iv (o.take i ++ [k]))) = hc at *
    have nc : hc.n = hb'.n + 1 := by rw [← qc]; rfl
    have xac := xa.trans (xb.trans xc)
    have er2 := xac.at_ _ _ er1
    have xd := Ext.new xc.wf (.lst (iv (o.drop i)))
    have gd' : (hc.new (.lst (iv (o.drop i)))).get hc.n = some (.lst (iv (o.drop i))) := get_new_at _ _
    generalize qd : hc.new (.lst (iv (o.drop i))) = hd at *
    have nd : hd.n = hc.n + 1 := by rw [← qd]; rfl
    have gc2 := xd.at_ _ _ gc
    have xe := Ext.new xd.wf (.lst (iv (ins k o i)))
    have ge : (hd.new (.lst (iv (ins k o i)))).get hd.n = some (.lst (iv (ins k o i))) := get_new_at _ _
    generalize qe : hd.new (.lst (iv (ins k o i))) = he at *
    have tl : (o.take i).length ≤ 5 := by rw [List.length_take]; omega
    have dl : (o.drop i).length ≤ 5 := by rw [List.length_drop]; omega
    have xx := xac.trans (xd.trans xe)
    have gE := xx.at_ _ _ gd
    have hl : acc.length ≤ 6 := by
      rw [Mr.Paired.length kp, List.length_map, List.length_take, List.length_range]
      omega
    have hio : i ≤ o.length := by omega
    simp only [gNm, tYes', ok_ok, bind_ok, ok_bind, List.set_cons_succ, List.set_cons_zero]
    refine ⟨fun z => (by cases z), fun _ => ?_⟩
    have s1 : eSl (slM T) (eVar 2) oNone (oSome (eVar 3)) [some (.int ((k + 1 : Nat) : Int)), a1, some (.ref r), some (.int (i : Nat))] h' = .ok (.ref h'.n) ha := by
      simp [eSl, eVar, oNone, oSome, sl_at er1, cut_to hio, qa]
    have s2 : eLst (aCons (eBin bSub (eVar 0) (eC (.int 1))) aNil) [some (.int ((k + 1 : Nat) : Int)), a1, some (.ref r), some (.int (i : Nat))] ha = .ok (.ref ha.n) hb' := by
      rw [← qb']
      simp [eLst, aCons, aNil, eBin, eVar, eC, bSub, iOp]
    have s3 : bAdd T (.ref h'.n) (.ref ha.n) hb' = .ok (.ref hb'.n) hc := by
      rw [add_at ga2 gb (by rw [iv_len, iv_len]; simp only [List.length_cons, List.length_nil]; omega), iv_app, qc]
    have s4 : eSl (slM T) (eVar 2) (oSome (eVar 3)) oNone [some (.int ((k + 1 : Nat) : Int)), a1, some (.ref r), some (.int (i : Nat))] hc = .ok (.ref hc.n) hd := by
      simp [eSl, eVar, oNone, oSome, sl_at er2, cut_from hio, qd]
    have s5 : bAdd T (.ref hb'.n) (.ref hc.n) hd = .ok (.ref hd.n) he := by
      rw [add_at gc2 gd' (by rw [iv_len, iv_len, List.length_append]; simp only [List.length_cons, List.length_nil]; omega), iv_app]
      exact congrArg (Res.ok (Val.ref hd.n)) qe
    have s6 := (eBin_ok (g := bAdd T) s1 s2).trans s3
    have s7 := (eBin_ok (g := bAdd T) s6 s4).trans s5
    rw [s7]
    simp only [ok_ok]
    refine ⟨gE, by show _ < 16777216; omega, Ext.put (x.trans xx) (Nat.le_refl _) gE _ w, get_put_at _ _ _, ?_⟩
    have tk : (List.range (k + 1)).take (i + 1) = (List.range (k + 1)).take i ++ [i] := by
      rw [List.take_add_one, List.getElem?_range hi]
      rfl
    rw [tk, List.map_append]
    have lt : h.n < hd.n := by have := x.n; have := xac.n; omega
    refine Mr.Paired.append ?_ (.cons ⟨⟨_, rfl, ?_⟩, fun z => ?_⟩ .nil)
    · refine Mr.Paired.mono (fun v l q => ?_) kp
      obtain ⟨⟨r', e, g⟩, ne⟩ := q
      refine ⟨⟨r', e, ?_⟩, ne⟩
      rw [get_put_ne _ _ (fun z => ne (by rw [e, z]))]
      exact xx.at_ _ _ g
    · rw [get_put_ne _ _ (by omega)]
      exact ge
    · have := Val.ref.inj z
      omega
  · rintro acc h' ⟨x, gd, kp⟩
    rw [len, List.take_of_length_le (by simp)] at kp
    refine ⟨x, h.n, acc, rfl, gd, ?_, Mr.Paired.mono (fun _ _ z => z.1) kp⟩
    rw [Mr.Paired.length kp]
    simp
end Wk
end
section
set_option Elab.async false
set_option linter.all false
set_option maxRecDepth 100000
set_option maxHeartbeats 4000000
/-! k90: the law's own search over all orders. -/
namespace Wk
open PySem Mr K90
theorem add_int (a b : Int) (h : Hc) : bAdd T (.int a) (.int b) h = .ok (.int (a + b)) h := rfl
theorem sub_int (a b : Int) (h : Hc) : bSub (.int a) (.int b) h = .ok (.int (a - b)) h := rfl
theorem flat_len {α β : Type} {f : α → List β} {c : Nat} : ∀ {l : List α}, (∀ x ∈ l, (f x).length = c) → (l.flatMap f).length = l.length * c
  | [], _ => by simp
  | a :: r, k => by
    rw [List.flatMap_cons, List.length_append, k a List.mem_cons_self, flat_len fun x hx => k x (List.mem_cons_of_mem _ hx), List.length_cons, Nat.add_mul, Nat.one_mul, Nat.add_comm]
theorem perms_succ (k : Nat) : perms (k + 1) = (perms k).flatMap fun o => (List.range (k + 1)).map (ins k o) := rfl
theorem orders_zero {n : Nat} {h : Hc} (w : Wf h) {X : Str → Option Nat → Hc → Prop} : Ok (F__law_orders (n + 1) [.int (0 : Nat)] h) (fun v h' => Ext h h' ∧ ∃ r os, v = .ref r ∧ h'.get r = some (.lst os) ∧ PySem.Paired (LisAt h') os (perms 0)) X := by
  unfold F__law_orders
  rw [ok_fn]
  unfold m__law_orders
  have x1 := Ext.new w (.lst [])
  have x2 := Ext.new x1.wf (.lst [.ref h.n])
  have g1 := x2.at_ _ _ (get_new_at h (.lst []))
  have g2 := get_new_at (h.new (.lst [])) (.lst [.ref h.n])
  simp [sIf, tVal, eBin, eVar, eC, eq_int, sRet, eLst, aCons, aNil]
  exact ⟨x1.trans x2, _, g2, .cons ⟨_, rfl, g1⟩ .nil⟩
theorem orders_ok : ∀ (n k : Nat), k < n → k ≤ 5 → ∀ {h : Hc} (w : Wf h) {X : Str → Option Nat → Hc → Prop}, Ok (F__law_orders n [.int (k : Nat)] h) (fun v h' => Ext h h' ∧ ∃ r os, v = .ref r ∧ h'.get r = some (.lst os) ∧ PySem.Paired (LisAt h') os (perms k)) X := by
  intro n
  induction n with
  | zero => intro k hk; omega
  | succ n ih =>
    intro k hk hk5 h w X
    cases k with
    | zero => exact orders_zero w
    | succ k =>
      unfold F__law_orders
      rw [ok_fn]
      unfold m__law_orders
      have ne : ¬ (((k + 1 : Nat) : Int) = 0) := by omega
      have x1 := Ext.new w (.lst [])
      have g1 := get_new_at h (.lst [])
      simp only [sok_seq, sIf, tVal, eBin, eVar, eC, sok_into, ok_bind, ok_ok, bind_ok, List.map_cons, List.map_nil, List.length_cons, List.length_nil, List.cons_append, List.nil_append, List.replicate, List.getElem?_cons_zero, eq_int, ne, decide_false, Bool.false_xor, Bool.xor_false, sNil, sok_nx, sAsg, eLst, aNil, gNm, into_ok, List.set_cons_succ, List.set_cons_zero]
      simp only [Nat.zero_le, if_true, ok_ok, sok_nx, sok_into, List.set_cons_succ, List.set_cons_zero, Nat.reduceSub, Nat.reduceAdd, List.replicate_succ, List.replicate_zero]
      generalize q1 : h.new (.lst []) = h1 at *
      simp only [w_sfor, w_iany, w_call, w_cons, w_nil, w_bin, w_var, w_c, List.getElem?_cons_zero, sub_int, ok_ok, List.cons_append, List.nil_append, List.append_nil, List.length_cons, List.length_nil, Nat.reduceAdd, true_and]
      rw [show (((k + 1 : Nat) : Int) - 1) = (k : Nat) by omega]
      have key := fun (Y : Str → Option Nat → Hc → Prop) => ih k (by omega) (by omega) x1.wf (X := Y)
      unfold F__law_orders at key
      refine Ok.mono (key _) (fun u h2 ⟨x2, r, os, e, gr, kp⟩ => ?_) fun C d h z => z
      subst e
      simp only [iAnyV, gr, ok_ok]
      have hlen := Mr.Paired.length kp
      have hsm := perms_small k (by omega)
      refine for_ok (items := os) (fun i en h' => Ext h2 h' ∧ ∃ f acc a2 a3, en = [some (.int ((k + 1 : Nat) : Int)), some (.ref f), a2, a3] ∧ h'.get f = some (.lst acc) ∧ PySem.Paired (LisAt h') acc (((perms k).take i).flatMap fun o => (List.range (k + 1)).map (ins k o))) (fun i en h' j => itL_at (j.1.at_ _ _ gr) i) ?_ ?_ lid 0 _ _ (by rw [hlen]; unfold lid; omega) (Nat.zero_le _)
        ⟨Ext.refl x2.wf, _, _, _, _, rfl, x2.at_ _ _ g1, .nil⟩
      · intro i v en h' hv j
        obtain ⟨x, f, acc, a2, a3, e, gf, ka⟩ := j
        obtain ⟨o, ho, lo⟩ := Mr.Paired.get kp hv
        obtain ⟨ro, ev, gro⟩ := lo
        rw [e, ev]
        have hol : o.length = k := by
          have := (perms_perm k o (List.mem_of_getElem? ho)).length_eq
          rw [List.length_range] at this
          exact this
        have lacc : acc.length ≤ 120 * 6 := by
          rw [Mr.Paired.length ka, flat_len (c := k + 1) fun x _ => by rw [List.length_map, List.length_range]]
          have : ((perms k).take i).length ≤ 120 := by rw [List.length_take]; omega
          exact Nat.mul_le_mul this (by omega)
        simp only [w_gnm, w_sasg, w_bin, w_var, List.set_cons_succ, List.set_cons_zero, List.getElem?_cons_succ, List.getElem?_cons_zero]
        have hk5' : k ≤ 5 := by omega
        generalize hR : eLc _ _ _ _ _ _ _ = R
        have key2 := fun (Y : Str → Option Nat → Hc → Prop) => ins_ok (a1 := some (.ref f)) (a3 := a3) (X := Y) x.wf (x.at_ _ _ gro) hol hk5' hR
        refine Ok.mono (key2 _) (fun u h3 ⟨x3, r', ys, e, gy, ly, ky⟩ => ?_) fun C d h z => z
        subst e
        rw [add_at (x3.at_ _ _ gf) gy (by omega)]
        simp only [ok_ok, w_gnm, List.set_cons_succ, List.set_cons_zero]
        have x4 := Ext.new x3.wf (.lst (acc ++ ys))
        refine ⟨x.trans (x3.trans x4), _, _, _, _, rfl, get_new_at _ _, ?_⟩
        have tk : (perms k).take (i + 1) = (perms k).take i ++ [o] := by rw [List.take_add_one, ho]; rfl
        rw [tk, List.flatMap_append, List.flatMap_singleton]
        exact Mr.Paired.append (Mr.Paired.mono (fun _ _ z => z.mono (x3.trans x4)) ka) (Mr.Paired.mono (fun _ _ z => z.mono x4) ky)
      · rintro en h' ⟨x, f, acc, a2, a3, rfl, gf, ka⟩
        rw [hlen, List.take_length] at ka
        simp only [sRet, eVar, sok_into, ok_ok, sok_rt, List.getElem?_cons_succ, List.getElem?_cons_zero]
        exact ⟨x1.trans (x2.trans x), f, acc, rfl, gf, ka⟩
theorem has_ok {h : Hc} (w : Wf h) {v0 : Val} {ops : List O} (k0 : IsOps h v0 ops) (hg : ∀ o ∈ ops, Good o) (hl : ops.length ≤ 5) {X : Str → Option Nat → Hc → Prop} : Ok (F__law_has_order [v0] h) (fun v h' => Ext h h' ∧ Tells v (∃ l, Acc (tot ops) ops.length l)) X := by
  have k0' := k0
  obtain ⟨n0, vs, rfl, e0, r0⟩ := k0
  have hlv := Mr.Paired.length r0
  unfold F__law_has_order
  rw [ok_fn]
  unfold m__law_has_order
  simp only [w_seq, w_sfor, w_iany, w_call, w_cons, w_fn, w_nil, w_var, List.map_cons, List.map_nil, List.length_cons, List.length_nil, List.cons_append, List.nil_append, Nat.reduceSub, Nat.reduceAdd, List.replicate_succ, List.replicate_zero, List.getElem?_cons_zero, List.append_nil, len_lst e0, ok_ok, hlv, true_and]
  refine Ok.mono (orders_ok 8 ops.length (by omega) hl w) (fun u h2 ⟨x2, r, os, e, gr, kp⟩ => ?_) fun C d h z => z
  subst e
  simp only [iAnyV, gr, ok_ok]
  have hlen := Mr.Paired.length kp
  have hsm := perms_small ops.length hl
  refine for_ok (items := os) (fun i en h' => Ext h2 h' ∧ (∃ a1, en = [some (.ref n0), a1]) ∧ ∀ j o, j < i → (perms ops.length)[j]? = some o → ¬ AccL (tot ops) ops.length o) (fun i en h' j => itL_at (j.1.at_ _ _ gr) i) ?_ ?_ lid 0 _ _ (by rw [hlen]; unfold lid; omega) (Nat.zero_le _)
    ⟨Ext.refl x2.wf, ⟨_, rfl⟩, fun j o hj => (by omega)⟩
  · rintro i v en h' hv ⟨x, ⟨a1, rfl⟩, hno⟩
    obtain ⟨o, ho, ro, rfl, gro⟩ := Mr.Paired.get kp hv
    have hp := perms_perm _ o (List.mem_of_getElem? ho)
    have hol := hp.length_eq
    rw [List.length_range] at hol
    have hm : ∀ a ∈ o, a < ops.length := fun a ha => List.mem_range.mp (hp.mem_iff.mp ha)
    have x02 := x2.trans x
    simp only [w_gnm, w_sif, w_ttru, w_call, w_cons, w_nil, w_var, List.set_cons_succ, List.set_cons_zero, List.getElem?_cons_succ, List.getElem?_cons_zero, List.cons_append, List.nil_append, List.append_nil, List.length_cons, List.length_nil, Nat.reduceAdd, true_and]
    refine Ok.mono (law_isord_iv x.wf (k0'.mono x02) hg hl (x.at_ _ _ gro) hm (by omega)) (fun u h3 ⟨x3, b, e, hb⟩ => ?_) fun C d h z => z
    subst e
    cases b with
    | true =>
      simp only [truth, w_sret, w_c, forall_const, reduceCtorEq, false_implies, and_true, true_implies]
      exact ⟨x02.trans x3, tells_t ⟨o, accL_iff.mp (hb.mp rfl)⟩⟩
    | false =>
      simp only [truth, w_snil, forall_const, reduceCtorEq, false_implies, true_and, true_implies]
      refine ⟨x.trans x3, ⟨_, rfl⟩, fun j o' hj ho' => ?_⟩
      by_cases z : j = i
      · subst z
        rw [ho] at ho'
        cases ho'
        intro q
        have := hb.mpr q
        cases this
      · exact hno j o' (by omega) ho'
  · rintro en h' ⟨x, ⟨a1, rfl⟩, hno⟩
    simp only [sRet, eC, sok_into, ok_ok, sok_rt]
    refine ⟨x2.trans x, tells_f fun ⟨l, hl⟩ => ?_⟩
    obtain ⟨j, hj, ej⟩ := List.getElem_of_mem (perms_all _ l hl.perm)
    exact hno j l (by rw [hlen]; exact hj) (by rw [List.getElem?_eq_getElem hj, ej]) (accL_iff.mpr hl)
end Wk
end
section
set_option Elab.async false
set_option linter.all false
set_option maxRecDepth 100000
set_option maxHeartbeats 4000000
/-! k90: the law's draws. -/
namespace Wk
open PySem Mr K90
/-- the pool's cell -/
def Pool (h : Hc) (p : Nat) : Prop := ∃ a b : Int, h.get p = some (.lst [.int a, .int b]) ∧ 0 ≤ b ∧ b < 2147483647
theorem Pool.mono {h h' : Hc} (x : Ext h h') {p : Nat} (k : Pool h p) : Pool h' p := by
  obtain ⟨a, b, e, k⟩ := k
  exact ⟨a, b, x.at_ _ _ e, k⟩
theorem set0 {h : Hc} {p : Nat} {a b v : Val} (e : h.get p = some (.lst [a, b])) : setAt (.ref p) (.int 0) v h = some (h.put p (.lst [v, b])) := by
  unfold setAt
  simp [e, L2.ixN]
theorem set1 {h : Hc} {p : Nat} {a b v : Val} (e : h.get p = some (.lst [a, b])) : setAt (.ref p) (.int 1) v h = some (h.put p (.lst [a, v])) := by
  unfold setAt
  simp [e, L2.ixN]
theorem mod_at {a s : Int} (hs : 0 < s) (h : Hc) : bMod (.int a) (.int s) h = .ok (.int (a.fmod s)) h := by
  unfold bMod iOp
  have : s ≠ 0 := by omega
  simp [this]
theorem fdv_at {a s : Int} (hs : 0 < s) (hs2 : s < 1073741824) (h : Hc) : bFdv (.int a) (.int s) h = .ok (.int (a.fdiv s)) h := by
  unfold bFdv iOp
  have h1 : s ≠ 0 := by omega
  have h2 : s.natAbs < 1073741824 := by omega
  simp [h1, h2]
theorem mul_at {a b : Int} (hb : -(2 ^ 64) < b ∧ b < 2 ^ 64) (h : Hc) : bMul (.int a) (.int b) h = .ok (.int (a * b)) h := by
  unfold bMul
  simp only
  split
  · rfl
  · rename_i q
    exact absurd (Or.inr hb) q
theorem pool_ix {h : Hc} {p : Nat} {a b : Val} (e : h.get p = some (.lst [a, b])) : ixM T (.ref p) (.int 0) h = .ok a h ∧ ixM T (.ref p) (.int 1) h = .ok b h := by
  constructor
  · rw [ix_lst e]; rfl
  · rw [ix_lst e]; rfl
theorem draw_ok {h : Hc} (w : Wf h) {p : Nat} {s : Int} (k : Pool h p) (hs : 0 < s) (hs2 : s < 1073741824) {X : Str → Option Nat → Hc → Prop} : Ok (F__law_draw [.ref p, .int s] h) (fun v h' => ExtB p h h' ∧ Pool h' p ∧ ∃ j : Nat, v = .int (j : Nat) ∧ (j : Int) < s) X := by
  obtain ⟨a, b, e, b0, b1⟩ := k
  obtain ⟨i0, i1⟩ := pool_ix e
  have sm : ∀ z : Int, ∃ j : Nat, z.fmod s = (j : Nat) ∧ (j : Int) < s := fun z => by
    have h1 := Int.fmod_nonneg_of_pos z hs
    have h2 := Int.fmod_lt_of_pos z hs
    exact ⟨(z.fmod s).toNat, by omega, by omega⟩
  unfold F__law_draw
  rw [ok_fn]
  unfold m__law_draw
  by_cases ha : 0 < a
  · have s0 := set0 (v := .int (a.fdiv s)) e
    have x0 := (ExtB.refl w).put e (.lst [.int (a.fdiv s), .int b])
    have g0 := get_put_at h p (.lst [.int (a.fdiv s), .int b])
    obtain ⟨j, hj, hj2⟩ := sm a
    simp [sIf, tVal, eBin, eVar, eC, i0, cGt, cmpI, ha, sAsg, mod_at hs, fdv_at hs hs2, gNm, gSubL, s0, sRet]
    exact ⟨x0, ⟨_, _, g0, b0, b1⟩, j, hj, hj2⟩
  · have hb1 := Int.fmod_nonneg_of_pos (b * 48271 + 11) (show (0 : Int) < 2147483647 by omega)
    have hb2 := Int.fmod_lt_of_pos (b * 48271 + 11) (show (0 : Int) < 2147483647 by omega)
    have x0 := (ExtB.refl w).put e (.lst [.int a, .int ((b * 48271 + 11).fmod 2147483647)])
    have g0 := get_put_at h p (.lst [.int a, .int ((b * 48271 + 11).fmod 2147483647)])
    have s0 := set1 (v := .int ((b * 48271 + 11).fmod 2147483647)) e
    generalize hb' : (b * 48271 + 11).fmod 2147483647 = b' at *
    generalize h.put p (.lst [.int a, .int b']) = h1 at *
    obtain ⟨i2, i3⟩ := pool_ix g0
    have m1 := mul_at (a := b) (b := 48271) (by omega) h
    have m2 := mod_at (a := b * 48271 + 11) (s := 2147483647) (by omega) h
    rw [hb'] at m2
    have m3 := mul_at (a := b') (b := b') (by omega) h1
    have m4 := mod_at (a := b' * b') (s := 2147483629) (by omega) h1
    have m5 := fdv_at (a := (b' * b').fmod 2147483629) (s := 64) (by omega) (by omega) h1
    have m6 := mod_at (a := ((b' * b').fmod 2147483629).fdiv 64) hs h1
    obtain ⟨j, hj, hj2⟩ := sm (((b' * b').fmod 2147483629).fdiv 64)
    simp only [w_seq, w_sif, w_tval, w_bin, w_var, w_c, i0, i1, ok_ok, cGt, cmpI, ha, decide_false, List.map_cons, List.map_nil, List.length_cons, List.length_nil, List.cons_append, List.nil_append, Nat.reduceSub, Nat.reduceAdd, List.replicate_succ, List.replicate_zero, List.getElem?_cons_zero, List.getElem?_cons_succ, w_snil, w_sasg, w_sret, w_sub, m1, add_int, m2]
    refine ⟨fun z => (by cases z), fun _ => ⟨h1, s0, ?_⟩⟩
    simp only [i3, m3, m4, m5, m6, ok_ok]
    exact ⟨x0, ⟨_, _, g0, hb1, hb2⟩, j, by rw [hj], hj2⟩
/-- a draw as an argument -/
abbrev drawE (s : Int) : EM := eCall 2 [] (F__law_draw) (aCons (eVar 0) (aCons (eC (.int s)) aNil))
theorem drawE_ok {h : Hc} (w : Wf h) {p : Nat} {s : Int} {e : Mr.Env} (he : e[0]? = some (some (.ref p))) (k : Pool h p) (hs : 0 < s) (hs2 : s < 1073741824) {X : Str → Option Nat → Hc → Prop} : Ok (drawE s e h) (fun v h' => ExtB p h h' ∧ Pool h' p ∧ ∃ j : Nat, v = .int (j : Nat) ∧ (j : Int) < s) X := by
  have e0 : eVar 0 e h = .ok (.ref p) h := by unfold eVar; rw [he]
  simp only [drawE, eCall, aCons, aNil, e0, eC, ok_bind, ok_ok, bind_ok, call2]
  exact draw_ok w k hs hs2
/-- one of a written list, drawn -/
theorem pick_ok {h : Hc} (w : Wf h) {p : Nat} {s : Int} {e : Mr.Env} {m : AM} {vs : List Val} (he : e[0]? = some (some (.ref p))) (hm : m e h = .ok vs h) (hl : (vs.length : Int) = s) (k : Pool h p) (hs : 0 < s) (hs2 : s < 1000) {X : Str → Option Nat → Hc → Prop} : Ok (eBin (ixM T) (eLst m) (drawE s) e h) (fun v h' => ExtB p h h' ∧ Pool h' p ∧ v ∈ vs) X := by
  have x1 := Ext.new w (.lst vs)
  have g1 := get_new_at h (.lst vs)
  have pn : h.n ≠ p := fun z => by
    obtain ⟨a, b, e, _⟩ := k
    have := w _ _ e
    omega
  simp only [eBin, eLst, hm, ok_bind, ok_ok, bind_ok]
  rw [if_pos (by omega)]
  simp only [ok_ok]
  refine Ok.mono (drawE_ok x1.wf he (k.mono x1) hs (by omega)) (fun v h2 ⟨x2, k2, j, e, hj⟩ => ?_) fun C d h z => z
  subst e
  have hj' : j < vs.length := by omega
  rw [ix_lst (x2.at_ _ _ pn g1), atI_nat, List.getElem?_eq_getElem hj']
  simp only [ok_ok]
  exact ⟨x1.b.trans x2, k2, List.getElem_mem hj'⟩
end Wk
end
section
set_option Elab.async false
set_option linter.all false
set_option maxRecDepth 100000
set_option maxHeartbeats 4000000
/-! k90: the law's operations, drawn. -/
namespace Wk
open PySem Mr K90
/-- old cells below b stand but for p; tuples stand -/
structure Mv (p b : Nat) (h h' : Hc) : Prop where
  wf : Wf h'
  old : ∀ i c, i ≠ p → i < b → h.get i = some c → h'.get i = some c
  tup : ∀ i xs, h.get i = some (.tup xs) → h'.get i = some (.tup xs)
  n : h.n ≤ h'.n
theorem Mv.refl {p b : Nat} {h : Hc} (w : Wf h) : Mv p b h h := ⟨w, fun _ _ _ _ e => e, fun _ _ e => e, Nat.le_refl _⟩
theorem Mv.trans {p b : Nat} {h h1 h2 : Hc} (x : Mv p b h h1) (y : Mv p b h1 h2) : Mv p b h h2 := ⟨y.wf, fun i c k l e => y.old i c k l (x.old i c k l e), fun i c e => y.tup i c (x.tup i c e), Nat.le_trans x.n y.n⟩
theorem _root_.Mr.Ext.mv {p b : Nat} {h h' : Hc} (x : Ext h h') : Mv p b h h' := ⟨x.wf, fun i c _ _ e => x.at_ i c e, fun i c e => x.at_ i _ e, x.n⟩
theorem ExtB.mv {p b : Nat} {h h' : Hc} (x : ExtB p h h') (k : Pool h p) : Mv p b h h' := ⟨x.wf, fun i c z _ e => x.at_ i c z e, fun i c e => x.at_ i _ (fun z => by
  obtain ⟨_, _, g, _⟩ := k
  rw [z, g] at e
  cases e) e, x.n⟩
theorem Mv.put {p b : Nat} {h h1 : Hc} (x : Mv p b h h1) {i : Nat} (hi : b ≤ i) {c0 : Cell} (e0 : h1.get i = some c0) (ht : ∀ xs, c0 ≠ .tup xs) (c : Cell) : Mv p b h (h1.put i c) := ⟨x.wf.put e0 c, fun j d k l e => by
  rw [get_put_ne _ _ (by omega)]
  exact x.old j d k l e, fun j xs e => by
  have e1 := x.tup j xs e
  rw [get_put_ne _ _ (fun z => by rw [z, e0] at e1; exact ht xs (Option.some.inj e1))]
  exact e1, by rw [Hc.n_put]; exact x.n⟩
theorem Mv.extB {p : Nat} {h h' : Hc} (w : Wf h) (x : Mv p h.n h h') : ExtB p h h' := ⟨x.wf, fun i c k e => x.old i c k (w i c e) e, x.n⟩
theorem OpAt.mv {p b : Nat} {h h' : Hc} (x : Mv p b h h') {v : Val} {o : O} (k : OpAt h v o) : OpAt h' v o := by
  obtain ⟨m, e, g⟩ := k
  exact ⟨m, e, x.tup _ _ g⟩
theorem OpsAt.mv {p b : Nat} {h h' : Hc} (x : Mv p b h h') {vs : List Val} {ops : List O} (k : OpsAt h vs ops) : OpsAt h' vs ops := Mr.Paired.mono (fun _ _ z => z.mv x) k
/-- what stands while operations are drawn into the list at f -/
structure Hs (p f : Nat) (h h' : Hc) (i : Nat) : Prop where
  mv : Mv p h.n h h'
  pool : Pool h' p
  fd : ∃ vs ops, h'.get f = some (.lst vs) ∧ OpsAt h' vs ops ∧ (∀ o ∈ ops, Good o) ∧ ops.length = i
theorem Hs.ext {p f i : Nat} {h h1 h2 : Hc} (s : Hs p f h h1 i) (x : Ext h1 h2) : Hs p f h h2 i := by
  obtain ⟨a, b, vs, ops, g, r, q⟩ := s
  exact ⟨a.trans x.mv, b.mono x, vs, ops, x.at_ _ _ g, r.mono x, q⟩
theorem Hs.draw {p f i : Nat} {h h1 h2 : Hc} (s : Hs p f h h1 i) (hf : f ≠ p) (x : ExtB p h1 h2) (k : Pool h2 p) : Hs p f h h2 i := by
  obtain ⟨a, b, vs, ops, g, r, q⟩ := s
  exact ⟨a.trans (x.mv b), k, vs, ops, x.at_ _ _ hf g, r.mv (x.mv (b := 0) b), q⟩
theorem Hs.put {p f d i : Nat} {h h1 : Hc} (s : Hs p f h h1 i) (hd : h.n ≤ d) (hp : p < h.n) (hf : f ≠ d) {kvs kvs' : List (L2.Key × Val)} (e : h1.get d = some (.dic kvs)) : Hs p f h (h1.put d (.dic kvs')) i := by
  obtain ⟨a, b, vs, ops, g, r, q⟩ := s
  have m : Mv p h.n h (h1.put d (.dic kvs')) := a.put hd e (fun _ z => by cases z) _
  have m1 : Mv p h.n h1 (h1.put d (.dic kvs')) := (Mv.refl a.wf).put hd e (fun _ z => by cases z) _
  refine ⟨m, ?_, vs, ops, by rw [get_put_ne _ _ hf]; exact g, r.mv m1, q⟩
  obtain ⟨x, y, g2, k⟩ := b
  exact ⟨x, y, by rw [get_put_ne _ _ (by omega)]; exact g2, k⟩
theorem Hs.push {p f i : Nat} {h h1 : Hc} (s : Hs p f h h1 i) (hd : h.n ≤ f) (hp : p < h.n) {vs : List Val} (e : h1.get f = some (.lst vs)) {v : Val} {o : O} (ko : OpAt h1 v o) (g : Good o) : Hs p f h (h1.put f (.lst (vs ++ [v]))) (i + 1) := by
  obtain ⟨a, b, vs', ops, g', r, gd, q⟩ := s
  rw [e] at g'
  cases g'
  have m : Mv p h.n h (h1.put f (.lst (vs ++ [v]))) := a.put hd e (fun _ z => by cases z) _
  have m1 : Mv p h.n h1 (h1.put f (.lst (vs ++ [v]))) := (Mv.refl a.wf).put hd e (fun _ z => by cases z) _
  refine ⟨m, ?_, vs ++ [v], ops ++ [o], get_put_at _ _ _, Mr.Paired.append (r.mv m1) (.cons (ko.mv m1) .nil), fun x hx => ?_, by simp [q]⟩
  · obtain ⟨x, y, g2, k⟩ := b
    exact ⟨x, y, by rw [get_put_ne _ _ (by omega)]; exact g2, k⟩
  · rcases List.mem_append.mp hx with z | z
    · exact gd x z
    · rw [List.mem_singleton.mp z]; exact g
theorem Dct.up {h : Hc} {d i : Nat} {mm : Str → Option Int} (k : Dct h d i mm) : Dct h d (i + 1) mm := by
  obtain ⟨kvs, g, l, q⟩ := k
  exact ⟨kvs, g, by omega, q⟩
theorem Dct.draw {p : Nat} {h h' : Hc} (x : ExtB p h h') {d i : Nat} (hd : d ≠ p) {mm : Str → Option Int} (k : Dct h d i mm) : Dct h' d i mm := by
  obtain ⟨kvs, g, q⟩ := k
  exact ⟨kvs, x.at_ _ _ hd g, q⟩
theorem Dct.put {h : Hc} {d f i : Nat} (hd : d ≠ f) {mm : Str → Option Int} (k : Dct h d i mm) (c : Cell) : Dct (h.put f c) d i mm := by
  obtain ⟨kvs, g, q⟩ := k
  exact ⟨kvs, by rw [get_put_ne _ _ hd]; exact g, q⟩
theorem pool_lt {h : Hc} (w : Wf h) {p : Nat} (k : Pool h p) : p < h.n := by
  obtain ⟨_, _, e, _⟩ := k
  exact w _ _ e
def kOk (k : Str) : Prop := ∃ c, k = ⟨#[c]⟩ ∧ c ∈ chars
theorem kOk_a : kOk "a" := ⟨97, rfl, by decide +kernel⟩
theorem kOk_b : kOk "b" := ⟨98, rfl, by decide +kernel⟩
theorem kOk_c : kOk "c" := ⟨99, rfl, by decide +kernel⟩
theorem words4 {v : Val} (h : v ∈ [Val.str "put", .str "put", .str "get", .str "delete"]) : ∃ wd : Wd, v = .str (wv wd) := by
  simp only [List.mem_cons, List.not_mem_nil, or_false] at h
  rcases h with h | h | h | h
  · exact ⟨.put, h⟩
  · exact ⟨.put, h⟩
  · exact ⟨.get, h⟩
  · exact ⟨.del, h⟩
theorem words3 {v : Val} (h : v ∈ [Val.str "put", .str "get", .str "delete"]) : ∃ wd : Wd, v = .str (wv wd) := by
  simp only [List.mem_cons, List.not_mem_nil, or_false] at h
  rcases h with h | h | h
  · exact ⟨.put, h⟩
  · exact ⟨.get, h⟩
  · exact ⟨.del, h⟩
theorem keys2 {v : Val} (h : v ∈ [Val.str "a", .str "b"]) : ∃ k : Str, v = .str k ∧ kOk k := by
  simp only [List.mem_cons, List.not_mem_nil, or_false] at h
  rcases h with h | h
  · exact ⟨_, h, kOk_a⟩
  · exact ⟨_, h, kOk_b⟩
theorem keys3 {v : Val} (h : v ∈ [Val.str "a", .str "b", .str "c"]) : ∃ k : Str, v = .str k ∧ kOk k := by
  simp only [List.mem_cons, List.not_mem_nil, or_false] at h
  rcases h with h | h | h
  · exact ⟨_, h, kOk_a⟩
  · exact ⟨_, h, kOk_b⟩
  · exact ⟨_, h, kOk_c⟩
end Wk
end
section
set_option Elab.async false
set_option linter.all false
set_option maxRecDepth 100000
set_option maxHeartbeats 4000000
/-! k90: operations made by executing them in a hidden order. -/
namespace Wk
open PySem Mr K90
theorem put_eq (wd : Wd) (h : Hc) (e : Mr.Env) (i : Nat) (he : e[i]? = some (some (.str (wv wd)))) : tVal (eBin (cEq false) (eVar i) (eC (.str "put"))) e h = .ok (decide (wd = .put)) h := by
  have : decide (wv wd = ("put" : Str)) = decide (wd = .put) := by cases wd <;> decide
  simp [tVal, eBin, eVar, he, eC, eq_str, this]
theorem del_eq (wd : Wd) (h : Hc) (e : Mr.Env) (i : Nat) (he : e[i]? = some (some (.str (wv wd)))) : tVal (eBin (cEq false) (eVar i) (eC (.str "delete"))) e h = .ok (decide (wd = .del)) h := by
  have : decide (wv wd = ("delete" : Str)) = decide (wd = .del) := by cases wd <;> decide
  simp [tVal, eBin, eVar, he, eC, eq_str, this]
theorem Dct.del {h : Hc} {d i : Nat} {mm : Str → Option Int} {kvs : List (L2.Key × Val)} (l : kvs.length ≤ i) (q : ∀ k : Str, (getK kvs (.inr k)).getD .non = ov (mm k)) (k : Str) : Dct (h.put d (.dic (delK kvs (.inr k)))) d i (fun k2 => if k2 = k then none else mm k2) := by
  refine ⟨_, get_put_at _ _ _, Nat.le_trans (delK_len _ _) l, fun k2 => ?_⟩
  rw [getK_delK]
  by_cases z : k2 = k
  · subst z; simp [ov]
  · have : ¬ (Sum.inr k2 : L2.Key) = .inr k := fun y => z (Sum.inr.inj y)
    rw [if_neg this]
    show _ = ov (if k2 = k then none else mm k2)
    rw [if_neg z]
    exact q k2
theorem value_ok {h : Hc} (w : Wf h) {p d i : Nat} {mm : Str → Option Int} (k : Pool h p) (dc : Dct h d i mm) {wd : Wd} {key : Str} {E : Mr.Env} (e0 : E[0]? = some (some (.ref p))) (e3 : E[3]? = some (some (.ref d))) (e6 : E[6]? = some (some (.str (wv wd)))) (e7 : E[7]? = some (some (.str key))) {X : Str → Option Nat → Hc → Prop} :
    Ok (eIf (tVal (eBin (cEq false) (eVar 6) (eC (.str "put")))) (drawE 3) (eDgt1 (eVar 3) (eVar 7)) E h) (fun v h' => ExtB p h h' ∧ Pool h' p ∧ ∃ u, v = ov u ∧ (wd = .put → u ≠ none)) X := by
  rw [w_if, put_eq wd h E 6 e6]
  simp only [ok_ok, decide_eq_true_eq, decide_eq_false_iff_not]
  refine ⟨fun z => ?_, fun z => ?_⟩
  · refine Ok.mono (drawE_ok w e0 k (by omega) (by omega)) (fun v h2 ⟨x2, k2, j, e, _⟩ => ?_) fun _ _ _ y => y
    exact ⟨x2, k2, some (j : Nat), e, fun _ q => by cases q⟩
  · obtain ⟨kvs, g, _, q⟩ := dc
    have : eDgt1 (eVar 3) (eVar 7) E h = .ok (ov (mm key)) h := by
      unfold eDgt1 eVar
      simp only [e3, e7, bind_ok]
      simp only [dicOf, g, keyOf, bind_ok, q]
    rw [this]
    simp only [ok_ok]
    exact ⟨ExtB.refl w, k, _, rfl, fun y => absurd y z⟩
theorem dput_ok {h h1 : Hc} {p f d i : Nat} {mm : Str → Option Int} (s : Hs p f h h1 i) (hd : h.n ≤ d) (hp : p < h.n) (hf : f ≠ d) (hi : i ≤ 5) (dc : Dct h1 d i mm) {wd : Wd} {key : Str} {u : Option Int} {E : Mr.Env} (e3 : E[3]? = some (some (.ref d))) (e6 : E[6]? = some (some (.str (wv wd)))) (e7 : E[7]? = some (some (.str key))) (e8 : E[8]? = some (some (ov u))) {D : Po}
    (fin : ∀ h2 mm', Hs p f h h2 i → Dct h2 d (i + 1) mm' → D.nx E h2) : SOk (sIf (tVal (eBin (cEq false) (eVar 6) (eC (.str "put")))) (sDput (eVar 3) (eVar 7) (eVar 8)) sNil E h1) D := by
  rw [w_sif, put_eq wd h1 E 6 e6]
  simp only [ok_ok, decide_eq_true_eq, decide_eq_false_iff_not, w_snil]
  refine ⟨fun z => ?_, fun z => fin _ _ s dc.up⟩
  obtain ⟨kvs, g, l, q⟩ := dc
  have lb : kvs.length < big := by show _ < 16777216; omega
  have : sDput (eVar 3) (eVar 7) (eVar 8) E h1 = .nx E (h1.put d (.dic (setK kvs (.inr key) (ov u)))) := by
    unfold sDput eVar
    simp only [e3, e7, e8, into_ok, g, keyOf, if_pos lb]
  rw [this]
  simp only [sok_nx]
  exact fin _ _ (s.put hd hp hf g) (Dct.set l q key u)
theorem ddel_ok {h h1 : Hc} {p f d i : Nat} {mm : Str → Option Int} (s : Hs p f h h1 i) (hd : h.n ≤ d) (hp : p < h.n) (hf : f ≠ d) {j : Nat} (dc : Dct h1 d j mm) {wd : Wd} {key : Str} {E : Mr.Env} (e3 : E[3]? = some (some (.ref d))) (e6 : E[6]? = some (some (.str (wv wd)))) (e7 : E[7]? = some (some (.str key))) {D : Po}
    (fin : ∀ h2 mm', Hs p f h h2 i → Dct h2 d j mm' → D.nx E h2) : SOk (sIf (tVal (eBin (cEq false) (eVar 6) (eC (.str "delete")))) (sExpr (eDpop2 (eVar 3) (eVar 7) (eC .non))) sNil E h1) D := by
  rw [w_sif, del_eq wd h1 E 6 e6]
  simp only [ok_ok, decide_eq_true_eq, decide_eq_false_iff_not, w_snil, w_sexpr]
  refine ⟨fun z => ?_, fun z => fin _ _ s dc⟩
  have dc0 := dc
  obtain ⟨kvs, g, l, q⟩ := dc
  cases gk : getK kvs (.inr key) with
  | none =>
    have : eDpop2 (eVar 3) (eVar 7) (eC .non) E h1 = .ok .non h1 := by
      unfold eDpop2 eVar eC
      simp only [e3, e7, bind_ok, dicOf, g, keyOf, gk]
    rw [this]
    simp only [ok_ok]
    exact fin _ _ s dc0
  | some v =>
    have : eDpop2 (eVar 3) (eVar 7) (eC .non) E h1 = .ok v (h1.put d (.dic (delK kvs (.inr key)))) := by
      unfold eDpop2 eVar eC
      simp only [e3, e7, bind_ok, dicOf, g, keyOf, gk]
    rw [this]
    simp only [ok_ok]
    exact fin _ _ (s.put hd hp hf g) (Dct.del l q key)
theorem hidden_ok {h : Hc} (w : Wf h) {p many : Nat} (k : Pool h p) (hm : many ≤ 5) {X : Str → Option Nat → Hc → Prop} {R : Res Val} (hR : F__law_hidden [.ref p, .int (many : Nat)] h = R) : Ok R (fun v h' => ExtB p h h' ∧ Pool h' p ∧ ∃ ops, IsOps h' v ops ∧ (∀ o ∈ ops, Good o) ∧ ops.length = many) X := by
  rw [← hR]
  have hp := pool_lt w k
  unfold F__law_hidden
  rw [ok_fn]
  unfold m__law_hidden
  have x1 := Ext.new w (.lst [])
  have x2 := Ext.new x1.wf (.dic [])
  have g1 := x2.at_ _ _ (get_new_at h (.lst []))
  have g2 := get_new_at (h.new (.lst [])) (.dic [])
  have n1 : (h.new (.lst [])).n = h.n + 1 := rfl
  rw [n1] at g2
  have x12 := x1.trans x2
  have hb : -(2 ^ 62 : Int) ≤ ((many : Nat) : Int) ∧ ((many : Nat) : Int) < 2 ^ 62 := by omega
  have nat : ((many : Nat) : Int).toNat = many := by omega
  simp only [sok_seq, sPar3, aCons, aNil, eLst, eDnew, eC, sok_into, ok_bind, ok_ok, bind_ok, List.length_nil, Nat.zero_le, if_true, sok_nx, List.map_cons, List.map_nil, List.length_cons, List.cons_append, List.nil_append, Nat.reduceSub, Nat.reduceAdd, List.replicate_succ, List.replicate_zero, List.set_cons_succ, List.set_cons_zero, n1]
  generalize q2 : (h.new (.lst [])).new (.dic []) = h2 at *
  have s2 : Hs p h.n h h2 0 := ⟨x12.mv, k.mono x12, [], [], g1, .nil, fun o ho => (by cases ho), rfl⟩
  simp only [sFor, iRg1, aCons, aNil, eVar, sok_into, ok_bind, ok_ok, bind_ok, List.getElem?_cons_succ, List.getElem?_cons_zero]
  rw [if_pos hb]
  simp only [ok_ok, nat]
  have len : ((List.range many).map fun j => Val.int ((0 : Int) + (j : Nat))).length = many := by simp
  refine for_ok (items := (List.range many).map fun j => Val.int ((0 : Int) + (j : Nat))) (fun i en h' => Hs p h.n h h' i ∧ (∃ mm, Dct h' (h.n + 1) i mm) ∧ i ≤ many ∧ ∃ (clock : Nat) (a5 a6 a7 a8 a9 : Option Val), en = [some (.ref p), some (.int (many : Nat)), some (.ref h.n), some (.ref (h.n + 1)), some (.int (clock : Nat)), a5, a6, a7, a8, a9]) (fun i en h' _ => itR_at 0 many i h') ?_ ?_ lid 0 _ _ (by rw [len]; unfold lid; omega) (Nat.zero_le _)
    ⟨s2, ⟨fun _ => none, [], g2, Nat.le_refl _, fun k => rfl⟩, Nat.zero_le _, 0, _, _, _, _, _, rfl⟩
  · rintro i v en h3 hv ⟨s3, ⟨mm, dc⟩, him, clock, a5, a6, a7, a8, a9, rfl⟩
    have hi : i < many := by
      have := (List.getElem?_eq_some_iff.mp hv).1
      rw [len] at this
      exact this
    have hf : h.n ≠ p := by omega
    have hd : h.n + 1 ≠ p := by omega
    have hfd : h.n ≠ h.n + 1 := by omega
    have hd0 : h.n ≤ h.n + 1 := by omega
    simp only [w_gnm, w_seq, w_spar, w_cons, w_nil, List.set_cons_succ, List.set_cons_zero]
    refine Ok.mono (pick_ok (s := 4) s3.mv.wf rfl (vs := [.str "put", .str "put", .str "get", .str "delete"]) rfl rfl s3.pool (by omega) (by omega)) (fun v1 h4 ⟨x4, k4, m4⟩ => ?_) fun _ _ _ z => z
    obtain ⟨wd, ew⟩ := words4 m4
    rw [ew]
    have s4 := s3.draw hf x4 k4
    have d4 := dc.draw x4 hd
    refine Ok.mono (pick_ok (s := 2) s4.mv.wf rfl (vs := [.str "a", .str "b"]) rfl rfl s4.pool (by omega) (by omega)) (fun v2 h5 ⟨x5, k5, m5⟩ => ?_) fun _ _ _ z => z
    obtain ⟨key, ek, kok⟩ := keys2 m5
    rw [ek]
    have s5 := s4.draw hf x5 k5
    have d5 := d4.draw x5 hd
    simp only [w_sasg, w_gnm, List.set_cons_succ, List.set_cons_zero]
    refine Ok.mono (value_ok s5.mv.wf (key := key) s5.pool d5 rfl rfl (wd := wd) rfl rfl) (fun v3 h6 ⟨x6, k6, u, eu, hu⟩ => ?_) fun _ _ _ z => z
    rw [eu]
    have s6 := s5.draw hf x6 k6
    have d6 := d5.draw x6 hd
    refine dput_ok s6 hd0 hp hfd (by omega) d6 (wd := wd) (key := key) (u := u) rfl rfl rfl rfl fun h7 mm7 s7 d7 => ?_
    refine ddel_ok s7 hd0 hp hfd d7 (wd := wd) (key := key) rfl rfl rfl fun h8 mm8 s8 d8 => ?_
    simp only [w_sasg, w_fn, w_cons, w_c, w_bin, w_var, w_nil, w_gnm, List.set_cons_succ, List.set_cons_zero, List.getElem?_cons_succ, List.getElem?_cons_zero]
    refine Ok.mono (drawE_ok s8.mv.wf rfl s8.pool (by omega) (by omega)) (fun v9 h9 ⟨x9, k9, j9, e9, l9⟩ => ?_) fun _ _ _ z => z
    rw [e9]
    have s9 := s8.draw hf x9 k9
    have d9 := d8.draw x9 hd
    obtain ⟨b, hb, hbc⟩ : ∃ b : Int, (if (clock : Int) - (j9 : Nat) > 0 then (clock : Int) - (j9 : Nat) else 0) = b ∧ b ≤ clock := by
      refine ⟨_, rfl, ?_⟩
      split <;> omega
    simp only [sub_int, ok_ok, fMax, hb]
    obtain ⟨vs, ops, gf, ka, gd, hl⟩ := s9.fd
    simp only [w_sexpr, w_lm, w_cons, w_tup, w_bin, w_var, w_c, w_nil, List.getElem?_cons_succ, List.getElem?_cons_zero, add_int, ok_ok]
    refine ⟨_, _, rfl, gf, ?_⟩
    refine Ok.mono (drawE_ok s9.mv.wf rfl s9.pool (by omega) (by omega)) (fun vA hA ⟨xA, kA, jA, eA, lA⟩ => ?_) fun _ _ _ z => z
    rw [eA]
    have sA := s9.draw hf xA kA
    have dA := d9.draw xA hd
    have gfA := xA.at_ _ _ hf gf
    simp only [add_int, ok_ok, List.length_cons, List.length_nil]
    have xB := Ext.new sA.mv.wf (.tup [.int b, .int ((clock : Int) + 1 + (jA : Nat)), .str (wv wd), .str key, ov u])
    have gB := get_new_at hA (.tup [.int b, .int ((clock : Int) + 1 + (jA : Nat)), .str (wv wd), .str key, ov u])
    have sB := sA.ext xB
    have dB := dA.mono xB
    have gfB := xB.at_ _ _ gfA
    generalize hA.new (.tup [.int b, .int ((clock : Int) + 1 + (jA : Nat)), .str (wv wd), .str key, ov u]) = hB at *
    have hlv := Mr.Paired.length ka
    have lb : vs.length < big := by show _ < 16777216; omega
    refine ⟨by show _ ≤ 16777216; omega, vs, .non, vs ++ [.ref hA.n], gfB, by simp only [lmAppend, if_pos lb], ?_⟩
    have good : Good (⟨b, (clock : Int) + 1 + (jA : Nat), wd, key, u⟩ : O) := ⟨by show b < (clock : Int) + 1 + (jA : Nat); omega, kok, hu⟩
    have sC := sB.push (Nat.le_refl _) hp gfB (o := ⟨b, (clock : Int) + 1 + (jA : Nat), wd, key, u⟩) ⟨_, rfl, gB⟩ good
    have dC := dB.put (f := h.n) (fun z => hfd z.symm) (.lst (vs ++ [.ref hA.n]))
    refine Ok.mono (drawE_ok sC.mv.wf rfl sC.pool (by omega) (by omega)) (fun vD hD ⟨xD, kD, jD, eD, lD⟩ => ?_) fun _ _ _ z => z
    rw [eD]
    have sD := sC.draw hf xD kD
    have dD := dC.draw xD hd
    simp only [add_int, ok_ok, List.set_cons_succ, List.set_cons_zero]
    rw [show ((clock : Int) + 1 + (jD : Nat)) = ((clock + 1 + jD : Nat) : Int) by omega]
    exact ⟨sD, ⟨_, dD⟩, by omega, clock + 1 + jD, _, _, _, _, _, rfl⟩
  · rintro en h3 ⟨s3, _, _, clock, a5, a6, a7, a8, a9, rfl⟩
    rw [len] at s3
    simp only [sRet, eVar, sok_into, ok_ok, sok_rt, List.getElem?_cons_succ, List.getElem?_cons_zero]
    obtain ⟨mv, pl, vs, ops, g, r, gd, hl⟩ := s3
    exact ⟨mv.extB w, pl, ops, ⟨_, vs, rfl, g, r⟩, gd, hl⟩
end Wk
end
section
set_option Elab.async false
set_option linter.all false
set_option maxRecDepth 100000
set_option maxHeartbeats 4000000
/-! k90: operations drawn at all. -/
namespace Wk
open PySem Mr K90
theorem putn_eq (wd : Wd) (h : Hc) (e : Mr.Env) (i : Nat) (he : e[i]? = some (some (.str (wv wd)))) : eBin (cEq true) (eVar i) (eC (.str "put")) e h = .ok (.bl (!decide (wd = .put))) h := by
  have : decide (wv wd = ("put" : Str)) = decide (wd = .put) := by cases wd <;> decide
  simp [eBin, eVar, he, eC, eq_str, this]
/-- the drawn value -/
theorem dval_ok {h : Hc} (w : Wf h) {p : Nat} (k : Pool h p) {wd : Wd} {E : Mr.Env} (e0 : E[0]? = some (some (.ref p))) (e4 : E[4]? = some (some (.str (wv wd)))) {X : Str → Option Nat → Hc → Prop} :
    Ok (eBin (ixM T) (eLst (aCons (drawE 3) (aCons (eC .non) aNil))) (eFn fInt (aCons (eAnd (eBin (cEq true) (eVar 4) (eC (.str "put"))) (eBin (cEq false) (drawE 2) (eC (.int 0)))) aNil)) E h) (fun v h' => ExtB p h h' ∧ Pool h' p ∧ ∃ u, v = ov u ∧ (wd = .put → u ≠ none)) X := by
  rw [w_bin, w_lst, w_cons]
  refine Ok.mono (drawE_ok w e0 k (by omega) (by omega)) (fun v2 h2 ⟨x2, k2, j2, e2, l2⟩ => ?_) fun _ _ _ z => z
  rw [e2]
  simp only [w_cons, w_c, w_nil, List.length_cons, List.length_nil, w_fn, w_and]
  refine ⟨by show _ ≤ 16777216; omega, ?_⟩
  have x3 := Ext.new x2.wf (.lst [.int (j2 : Nat), .non])
  have g3 := get_new_at h2 (.lst [.int (j2 : Nat), .non])
  have k3 := k2.mono x3
  have pn : h2.n ≠ p := fun z => by
    have := pool_lt x2.wf k2
    omega
  generalize h2.new (.lst [.int (j2 : Nat), .non]) = h3 at *
  have x03 := x2.trans x3.b
  rw [putn_eq wd h3 E 4 e4]
  simp only [ok_ok, truth]
  cases hw : decide (wd = .put) with
  | true =>
    simp only [Bool.not_true, fInt, ok_ok]
    rw [ix_lst g3]
    simp only [if_neg (show ¬ (false = true) by decide)]
    exact ⟨x03, k3, some (j2 : Nat), rfl, fun _ q => by cases q⟩
  | false =>
    simp only [Bool.not_false, w_bin]
    refine Ok.mono (drawE_ok x3.wf e0 k3 (by omega) (by omega)) (fun v4 h4 ⟨x4, k4, j4, e4', l4⟩ => ?_) fun _ _ _ z => z
    rw [e4']
    have g4 := x4.at_ _ _ pn g3
    have x04 := x03.trans x4
    simp only [w_c, eq_int, ok_ok, fInt, Bool.false_xor]
    have nput : wd ≠ .put := of_decide_eq_false hw
    by_cases z : ((j4 : Nat) : Int) = 0
    · simp only [z, decide_true, if_true]
      rw [ix_lst g4]
      exact ⟨x04, k4, none, rfl, fun y => absurd y nput⟩
    · simp only [z, decide_false, if_neg (show ¬ (false = true) by decide)]
      rw [ix_lst g4]
      exact ⟨x04, k4, some (j2 : Nat), rfl, fun y => absurd y nput⟩
theorem drawn_ok {h : Hc} (w : Wf h) {p many : Nat} (k : Pool h p) (hm : many ≤ 5) {X : Str → Option Nat → Hc → Prop} {R : Res Val} (hR : F__law_drawn [.ref p, .int (many : Nat)] h = R) : Ok R (fun v h' => ExtB p h h' ∧ Pool h' p ∧ ∃ ops, IsOps h' v ops ∧ (∀ o ∈ ops, Good o) ∧ ops.length = many) X := by
  rw [← hR]
  have hp := pool_lt w k
  unfold F__law_drawn
  rw [ok_fn]
  unfold m__law_drawn
  have x1 := Ext.new w (.lst [])
  have g1 := get_new_at h (.lst [])
  have hb : -(2 ^ 62 : Int) ≤ ((many : Nat) : Int) ∧ ((many : Nat) : Int) < 2 ^ 62 := by omega
  simp only [w_seq, w_sasg, w_lst, w_nil, w_gnm, w_sfor, List.length_nil, List.map_cons, List.map_nil, List.length_cons, List.cons_append, List.nil_append, Nat.reduceSub, Nat.reduceAdd, List.replicate_succ, List.replicate_zero, List.set_cons_succ, List.set_cons_zero]
  refine ⟨Nat.zero_le _, ?_⟩
  generalize h.new (.lst []) = h2 at *
  have s2 : Hs p h.n h h2 0 := ⟨x1.mv, k.mono x1, [], [], g1, .nil, fun o ho => (by cases ho), rfl⟩
  rw [rg1_at (n := many) (by omega) (h1 := h2) (by simp [aCons, aNil, eVar])]
  rw [ok_ok]
  have len : ((List.range many).map fun j => Val.int ((0 : Int) + (j : Nat))).length = many := by simp
  refine for_ok (items := (List.range many).map fun j => Val.int ((0 : Int) + (j : Nat))) (fun i en h' => Hs p h.n h h' i ∧ i ≤ many ∧ ∃ (a3 a4 a5 a6 : Option Val), en = [some (.ref p), some (.int (many : Nat)), some (.ref h.n), a3, a4, a5, a6]) (fun i en h' _ => itR_at 0 many i h') ?_ ?_ lid 0 _ _ (by rw [len]; unfold lid; omega) (Nat.zero_le _)
    ⟨s2, Nat.zero_le _, _, _, _, _, rfl⟩
  · rintro i v en h3 hv ⟨s3, him, a3, a4, a5, a6, rfl⟩
    have hi : i < many := by
      have := (List.getElem?_eq_some_iff.mp hv).1
      rw [len] at this
      exact this
    have hf : h.n ≠ p := by omega
    simp only [w_gnm, w_seq, w_spar, w_cons, w_nil, List.set_cons_succ, List.set_cons_zero]
    refine Ok.mono (pick_ok (s := 3) s3.mv.wf rfl (vs := [.str "put", .str "get", .str "delete"]) rfl rfl s3.pool (by omega) (by omega)) (fun v1 h4 ⟨x4, k4, m4⟩ => ?_) fun _ _ _ z => z
    obtain ⟨wd, ew⟩ := words3 m4
    rw [ew]
    have s4 := s3.draw hf x4 k4
    refine Ok.mono (drawE_ok s4.mv.wf rfl s4.pool (by omega) (by omega)) (fun v2 h5 ⟨x5, k5, b, e5, l5⟩ => ?_) fun _ _ _ z => z
    rw [e5]
    have s5 := s4.draw hf x5 k5
    simp only [w_sasg, w_gnm, List.set_cons_succ, List.set_cons_zero]
    refine Ok.mono (dval_ok s5.mv.wf s5.pool rfl (wd := wd) rfl) (fun v3 h6 ⟨x6, k6, u, eu, hu⟩ => ?_) fun _ _ _ z => z
    rw [eu]
    have s6 := s5.draw hf x6 k6
    obtain ⟨vs, ops, gf, ka, gd, hl⟩ := s6.fd
    simp only [w_sexpr, w_lm, w_cons (m := eTup _), w_tup, w_nil, w_cons (m := eVar _), w_cons (m := eBin (bAdd T) _ _), w_bin (g := bAdd T), w_var, w_c, List.getElem?_cons_succ, List.getElem?_cons_zero, add_int, ok_ok]
    refine ⟨_, _, rfl, gf, ?_⟩
    refine Ok.mono (drawE_ok s6.mv.wf rfl s6.pool (by omega) (by omega)) (fun vA hA ⟨xA, kA, jA, eA, lA⟩ => ?_) fun _ _ _ z => z
    rw [eA]
    have sA := s6.draw hf xA kA
    have gfA := xA.at_ _ _ hf gf
    simp only [add_int, ok_ok]
    rw [w_cons]
    refine Ok.mono (pick_ok (s := 3) sA.mv.wf rfl (vs := [.str "a", .str "b", .str "c"]) rfl rfl sA.pool (by omega) (by omega)) (fun vB hB' ⟨xB', kB, mB⟩ => ?_) fun _ _ _ z => z
    obtain ⟨key, ek, kok⟩ := keys3 mB
    rw [ek]
    have sB' := sA.draw hf xB' kB
    have gfB' := xB'.at_ _ _ hf gfA
    simp only [w_cons, w_var, w_nil, List.getElem?_cons_succ, List.getElem?_cons_zero, List.length_cons, List.length_nil]
    have xB := Ext.new sB'.mv.wf (.tup [.int (b : Nat), .int ((b : Int) + 1 + (jA : Nat)), .str (wv wd), .str key, ov u])
    have gB := get_new_at hB' (.tup [.int (b : Nat), .int ((b : Int) + 1 + (jA : Nat)), .str (wv wd), .str key, ov u])
    have sB := sB'.ext xB
    have gfB := xB.at_ _ _ gfB'
    generalize hB'.new (.tup [.int (b : Nat), .int ((b : Int) + 1 + (jA : Nat)), .str (wv wd), .str key, ov u]) = hB at *
    have hlv := Mr.Paired.length ka
    have lb : vs.length < big := by show _ < 16777216; omega
    refine ⟨by show _ ≤ 16777216; omega, vs, .non, vs ++ [.ref hB'.n], gfB, by simp only [lmAppend, if_pos lb], ?_⟩
    have good : Good (⟨(b : Nat), (b : Int) + 1 + (jA : Nat), wd, key, u⟩ : O) := ⟨by show ((b : Nat) : Int) < (b : Int) + 1 + (jA : Nat); omega, kok, hu⟩
    have sC := sB.push (Nat.le_refl _) hp gfB (o := ⟨(b : Nat), (b : Int) + 1 + (jA : Nat), wd, key, u⟩) ⟨_, rfl, gB⟩ good
    exact ⟨sC, by omega, _, _, _, _, rfl⟩
  · rintro en h3 ⟨s3, _, a3, a4, a5, a6, rfl⟩
    rw [len] at s3
    simp only [w_sret, w_var, List.getElem?_cons_succ, List.getElem?_cons_zero]
    obtain ⟨mv, pl, vs, ops, g, r, gd, hl⟩ := s3
    exact ⟨mv.extB w, pl, ops, ⟨_, vs, rfl, g, r⟩, gd, hl⟩
end Wk
end
section
set_option Elab.async false
set_option linter.all false
set_option maxRecDepth 100000
set_option maxHeartbeats 4000000
/-! k90: the law's hand; what is no operation. -/
namespace Wk
open PySem Mr K90
theorem sl_fz {h : Hc} {r : Nat} {xs : List Val} (e : h.get r = some (.fz xs)) (lo hi : Option Int) : slM T (.ref r) lo hi h = .ok (.ref h.n) (h.new (.lst (cutM xs lo hi))) := by
  unfold slM seqOf
  simp only [e]
theorem cut_mem {xs : List Val} {lo hi : Option Int} {v : Val} (hv : v ∈ cutM xs lo hi) : v ∈ xs := List.mem_of_mem_drop (List.mem_of_mem_take hv)
theorem hand_ok {h : Hc} (w : Wf h) {ns : List Int} (hs : h.get 0 = some (.fz (ns.map .int))) (hl : ns.length ≤ 63) {k : Nat} (hk : k ≤ 1000) {X : Str → Option Nat → Hc → Prop} : Ok (F__law_hand [.ref 0, .int (k : Nat)] h) (fun v h' => Ext h h' ∧ ∃ p, v = .ref p ∧ h.n ≤ p ∧ Pool h' p) X := by
  unfold F__law_hand
  rw [ok_fn]
  unfold m__law_hand
  simp only [w_seq, w_sasg, w_bin, w_sl, w_var, w_some, w_c, add_int, ok_ok, w_lst, w_cons, w_nil, w_gnm, List.map_cons, List.map_nil, List.length_cons, List.length_nil, List.cons_append, List.nil_append, Nat.reduceSub, Nat.reduceAdd, List.replicate_succ, List.replicate_zero, List.set_cons_succ, List.set_cons_zero, List.getElem?_cons_succ, List.getElem?_cons_zero, sl_fz hs]
  have hcl : ∀ lo hi, (cutM (ns.map Val.int) lo hi).length ≤ 63 := fun lo hi => by
    unfold cutM
    rw [List.length_take, List.length_drop, List.length_map]
    omega
  generalize hc : cutM (ns.map Val.int) (some (k : Nat)) (some ((k : Nat) + 1)) = cs
  have hcs : ∀ v ∈ cs, ∃ i : Int, v = .int i := fun v hv => by
    rw [← hc] at hv
    obtain ⟨i, _, e⟩ := List.mem_map.mp (cut_mem hv)
    exact ⟨i, e.symm⟩
  have hcl2 : cs.length ≤ 63 := by rw [← hc]; exact hcl _ _
  have x1 := Ext.new w (.lst cs)
  have g1 := get_new_at h (.lst cs)
  have x2 := Ext.new x1.wf (.lst [.int 0])
  have g2 := get_new_at (h.new (.lst cs)) (.lst [.int 0])
  have g12 := x2.at_ _ _ g1
  refine ⟨by show _ ≤ 16777216; omega, ?_⟩
  rw [add_at g12 g2 (by simp only [List.length_cons, List.length_nil]; omega)]
  have x3 := Ext.new x2.wf (.lst (cs ++ [.int 0]))
  have g3 := get_new_at ((h.new (.lst cs)).new (.lst [.int 0])) (.lst (cs ++ [.int 0]))
  simp only [ok_ok]
  rw [ix_lst g3]
  have x03 := x1.trans (x2.trans x3)
  generalize ((h.new (.lst cs)).new (.lst [.int 0])).new (.lst (cs ++ [.int 0])) = h3 at *
  obtain ⟨c, hc0⟩ : ∃ c : Int, L2.atI (cs ++ [.int 0]) 0 = some (.int c) := by
    cases cs with
    | nil => exact ⟨0, at_zero _ _⟩
    | cons v r =>
      obtain ⟨i, rfl⟩ := hcs v List.mem_cons_self
      exact ⟨i, at_zero _ _⟩
  simp only [hc0, ok_ok]
  have m1 := mod_at (a := c) (s := 2147483647) (by omega) h3
  have m2 := mul_at (a := 7919) (b := (k : Nat)) (by omega) h3
  have m3 := mul_at (a := c.fmod 2147483647 + 7919 * (k : Nat) + 1) (b := 48271) (by omega) h3
  have m4 := mod_at (a := (c.fmod 2147483647 + 7919 * (k : Nat) + 1) * 48271) (s := 2147483629) (by omega) h3
  have hb1 := Int.fmod_nonneg_of_pos ((c.fmod 2147483647 + 7919 * (k : Nat) + 1) * 48271) (show (0 : Int) < 2147483629 by omega)
  have hb2 := Int.fmod_lt_of_pos ((c.fmod 2147483647 + 7919 * (k : Nat) + 1) * 48271) (show (0 : Int) < 2147483629 by omega)
  simp only [m1, m2, m3, m4, add_int, ok_ok, w_gnm, List.set_cons_succ, List.set_cons_zero, w_sret, w_lst, w_cons, w_nil, w_bin, w_fn, w_var, w_c, List.getElem?_cons_succ, List.getElem?_cons_zero, List.length_cons, List.length_nil]
  have mp : bPow (.int 10) (.int 18) h3 = .ok (.int 1000000000000000000) h3 := by kernel_rfl
  rw [mp]
  simp only [ok_ok, cGe, cmpI, fInt]
  have mm : ∀ b : Bool, bMul (.int (if b = true then 1 else 0)) (.int c) h3 = .ok (.int ((if b = true then 1 else 0) * c)) h3 := fun b => by
    unfold bMul
    cases b with
    | true =>
      simp only [if_true]
      split
      · rfl
      · rename_i q
        exact absurd (Or.inl (by decide)) q
    | false =>
      simp only [if_neg (show ¬ (false = true) by decide)]
      split
      · rfl
      · rename_i q
        exact absurd (Or.inl (by decide)) q
  rw [mm]
  simp only [ok_ok]
  refine ⟨by show _ ≤ 16777216; omega, x03.trans (Ext.new x03.wf _), _, rfl, x03.n, _, _, get_new_at _ _, hb1, by omega⟩
/-! ### what is no operation -/
inductive BadT (p : Nat) (h : Hc) : List Val → Prop
  | len (xs : List Val) (l : xs.length ≠ 5) : BadT p h xs
  | ends : BadT p h [.int 1, .int 1, .str "put", .str "a", .int 1]
  | tru : BadT p h [.bl true, .int 2, .str "put", .str "a", .int 1]
  | word : BadT p h [.int 0, .int 1, .str "set", .str "a", .int 1]
  | wordl (m : Nat) (xs : List Val) (e : h.get m = some (.lst xs)) (hm : m ≠ p) : BadT p h [.int 0, .int 1, .ref m, .str "a", .int 1]
  | key : BadT p h [.int 0, .int 1, .str "put", .str "A", .int 1]
  | nval : BadT p h [.int 0, .int 1, .str "put", .str "a", .non]
  | tval : BadT p h [.int 0, .int 1, .str "get", .str "a", .bl true]
  | non : BadT p h [.int 0, .non, .str "put", .str "a", .int 1]
inductive Bad (p : Nat) (h : Hc) : Val → Prop
  | non : Bad p h .non
  | lst (m : Nat) (xs : List Val) (e : h.get m = some (.lst xs)) (hm : m ≠ p) : Bad p h (.ref m)
  | tup (m : Nat) (xs : List Val) (e : h.get m = some (.tup xs)) (b : BadT p h xs) : Bad p h (.ref m)
theorem Bad.mono {p : Nat} {h h' : Hc} (x : ∀ i c, i ≠ p ∨ (∃ xs, c = .tup xs) → h.get i = some c → h'.get i = some c) {v : Val} (k : Bad p h v) : Bad p h' v := by
  cases k with
  | non => exact .non
  | lst m xs e hm => exact .lst m xs (x _ _ (.inl hm) e) hm
  | tup m xs e b =>
    refine .tup m xs (x _ _ (.inr ⟨_, rfl⟩) e) ?_
    cases b with
    | len xs l => exact .len xs l
    | ends => exact .ends
    | tru => exact .tru
    | word => exact .word
    | wordl m2 xs2 e2 hm => exact .wordl m2 xs2 (x _ _ (.inl hm) e2) hm
    | key => exact .key
    | nval => exact .nval
    | tval => exact .tval
    | non => exact .non
theorem Bad.ext {p : Nat} {h h' : Hc} (x : Ext h h') {v : Val} (k : Bad p h v) : Bad p h' v := k.mono fun i c _ e => x.at_ i c e
theorem Bad.draw {p : Nat} {h h' : Hc} (x : ExtB p h h') (kp : Pool h p) {v : Val} (k : Bad p h v) : Bad p h' v := k.mono fun i c z e => x.at_ i c (by
  rcases z with z | ⟨xs, z⟩
  · exact z
  · intro y
    obtain ⟨_, _, g, _⟩ := kp
    rw [y, g, z] at e
    cases e) e
theorem ki {h : Hc} {v : Val} {t : String} (c : String) (b : Bool) (e : tyN h v = some t) (k : isB t c = some b) : fIsi isT isBT [v, .ty c] h = .ok (.bl b) h := isi_at e k
theorem bad_op {p : Nat} {h : Hc} (w : Wf h) {v : Val} (k : Bad p h v) {X : Str → Option Nat → Hc → Prop} : Ok (F_is_operation [v] h) (fun u h' => Ext h h' ∧ u = .bl false) X := by
  unfold F_is_operation
  rw [ok_fn]
  unfold m_is_operation
  have x0 := Ext.refl w
  have ii : ∀ i : Int, F_is_integer [.int i] h = .ok (.bl true) h := fun i => int_at (t := "int") rfl (by decide)
  have ib : ∀ b : Bool, F_is_integer [.bl b] h = .ok (.bl false) h := fun i => int_at (t := "bool") rfl (by decide)
  cases k with
  | non =>
    have k1 : fIsi isT isBT [.non, .ty "tuple"] h = .ok (.bl false) h := isi_at (t := "NoneType") rfl (by decide)
    simp [sIf, tOr', tNot', tTru, eFn, aCons, aNil, eVar, eC, k1, truth, sRet, x0]
  | lst m xs e hm =>
    have k1 : fIsi isT isBT [.ref m, .ty "tuple"] h = .ok (.bl false) h := isi_at (t := "list") (by unfold tyN; simp only [e]) (by decide)
    simp [sIf, tOr', tNot', tTru, eFn, aCons, aNil, eVar, eC, k1, truth, sRet, x0]
  | tup m xs e b =>
    have k1 : fIsi isT isBT [.ref m, .ty "tuple"] h = .ok (.bl true) h := isi_at (t := "tuple") (by unfold tyN; simp only [e]) (by decide)
    have ks : ∀ s, fIsi isT isBT [.str s, .ty "str"] h = .ok (.bl true) h := fun s => isi_at (t := "str") rfl (by decide)
    cases b with
    | len xs l =>
      have l' : ¬ ((xs.length : Nat) : Int) = 5 := by omega
      simp [sIf, tOr', tNot', tTru, eFn, aCons, aNil, eVar, eC, k1, truth, sRet, x0, tVal, eBin, len_tup e, eq_int, l']
    | ends => simp [sIf, tOr', tNot', tTru, eFn, aCons, aNil, eVar, eC, k1, truth, tVal, eBin, len_tup e, eq_int, eCall, call1, ix_tup e, L2.atI, L2.ixN, ii, sNil, sAsg, gTp, e, gsCons, gNm, gsNil, cGe, cmpI, sRet, x0]
    | tru => simp [sIf, tOr', tNot', tTru, eFn, aCons, aNil, eVar, eC, k1, truth, tVal, eBin, len_tup e, eq_int, eCall, call1, ix_tup e, L2.atI, L2.ixN, ii, ib, sRet, x0]
    | word =>
      have kw : cIn T true (.str "set") (.glo "WORDS") h = .ok (.bl true) h := by kernel_rfl
      simp [sIf, tOr', tNot', tTru, eFn, aCons, aNil, eVar, eC, k1, truth, tVal, eBin, len_tup e, eq_int, eCall, call1, ix_tup e, L2.atI, L2.ixN, ii, sNil, sAsg, gTp, e, gsCons, gNm, gsNil, cGe, cmpI, ks, kw, sRet, x0]
    | wordl m2 xs e2 hm =>
      have k2 : fIsi isT isBT [.ref m2, .ty "str"] h = .ok (.bl false) h := isi_at (t := "list") (by unfold tyN; simp only [e2]) (by decide)
      simp [sIf, tOr', tNot', tTru, eFn, aCons, aNil, eVar, eC, k1, truth, tVal, eBin, len_tup e, eq_int, eCall, call1, ix_tup e, L2.atI, L2.ixN, ii, sNil, sAsg, gTp, e, gsCons, gNm, gsNil, cGe, cmpI, k2, sRet, x0]
    | key =>
      have kw := words_in .put h
      simp only [wv] at kw
      simp [sIf, tOr', tNot', tTru, eFn, aCons, aNil, eVar, eC, k1, truth, tVal, eBin, len_tup e, eq_int, eCall, call1, ix_tup e, L2.atI, L2.ixN, ii, sNil, sAsg, gTp, e, gsCons, gNm, gsNil, cGe, cmpI, ks, kw, sRet, x0]
      refine Ok.mono (key_at w 65) (fun v h' ⟨x1, x2⟩ => ?_) fun C d h z => z
      subst x2
      have : ¬ 65 ∈ chars := by decide +kernel
      simp [this, x1]
    | nval =>
      have kw := words_in .put h
      simp only [wv] at kw
      simp [sIf, tOr', tNot', tTru, eFn, aCons, aNil, eVar, eC, k1, truth, tVal, eBin, len_tup e, eq_int, eCall, call1, ix_tup e, L2.atI, L2.ixN, ii, sNil, sAsg, gTp, e, gsCons, gNm, gsNil, cGe, cmpI, ks, kw, sRet, x0]
      refine Ok.mono (key_at w 97) (fun v h' ⟨x1, x2⟩ => ?_) fun C d h z => z
      subst x2
      have : 97 ∈ chars := by decide +kernel
      simp [this, x1, eOr, eAnd, eCall, call1, aCons, aNil, eVar, int_none, truth, eBin, eC, cIs, eq_str]
    | tval =>
      have kw := words_in .get h
      simp only [wv] at kw
      simp [sIf, tOr', tNot', tTru, eFn, aCons, aNil, eVar, eC, k1, truth, tVal, eBin, len_tup e, eq_int, eCall, call1, ix_tup e, L2.atI, L2.ixN, ii, sNil, sAsg, gTp, e, gsCons, gNm, gsNil, cGe, cmpI, ks, kw, sRet, x0]
      refine Ok.mono (key_at w 97) (fun v h' ⟨x1, x2⟩ => ?_) fun C d h z => z
      subst x2
      have : 97 ∈ chars := by decide +kernel
      have ib' : F_is_integer [.bl true] h' = .ok (.bl false) h' := int_at (t := "bool") rfl (by decide)
      simp [this, x1, eOr, eAnd, eCall, call1, aCons, aNil, eVar, ib', truth, eBin, eC, cIs, eq_str]
    | non =>
      have i0 := int_none h
      simp [sIf, tOr', tNot', tTru, eFn, aCons, aNil, eVar, eC, k1, truth, tVal, eBin, len_tup e, eq_int, eCall, call1, ix_tup e, L2.atI, L2.ixN, ii, i0, sRet, x0]
end Wk
end
section
set_option Elab.async false
set_option linter.all false
set_option maxRecDepth 100000
set_option maxHeartbeats 4000000
/-! k90: what is told of what are no operations. -/
namespace Wk
open PySem Mr K90
theorem w_sraise {C : Str} {fs : List Str} {m : AM} {e : Mr.Env} {h : Hc} {D : Po} : SOk (sRaise C fs m e h) D = Ok (m e h) (fun vs h1 => vs.length = fs.length ∧ D.ex C (some h1.n) e (h1.new (.xd (fs.zip vs).reverse))) (fun C d h1 => D.ex C d e h1) := by
  unfold sRaise
  simp only [sok_into]
  congr 1
  funext vs h1
  refine propext ⟨fun k => ?_, fun k => ?_⟩
  · split at k
    · rename_i l
      exact ⟨l, k⟩
    · exact k.elim
  · rw [if_pos k.1]
    exact k.2
/-- the check raises, of a place -/
def Rs (h : Hc) (v pv : Val) : Prop := ∃ dd h', F_check_operations [v] h = .exc "InvalidOperations" (some dd) h' ∧ Ext h h' ∧ h'.get dd = some (.xd [("position", pv)])
theorem rs_of {h : Hc} {v pv : Val} (k : Ok (F_check_operations [v] h) (fun _ _ => False) (fun C d h' => C = "InvalidOperations" ∧ Ext h h' ∧ ∃ dd, d = some dd ∧ h'.get dd = some (.xd [("position", pv)]))) : Rs h v pv := by
  cases q : F_check_operations [v] h with
  | ok a h' => rw [q] at k; exact k.elim
  | bad => rw [q] at k; exact k.elim
  | exc C d h' =>
    rw [q] at k
    obtain ⟨rfl, x, dd, rfl, g⟩ := k
    exact ⟨dd, h', q, x, g⟩
theorem rs_no {h : Hc} (w : Wf h) {v : Val} {t : String} (hv : tyN h v = some t) (ht : isB t "list" = some false) : Rs h v .non := by
  refine rs_of ?_
  unfold F_check_operations
  rw [ok_fn]
  unfold m_check_operations
  have k1 : fIsi isT isBT [v, .ty "list"] h = .ok (.bl false) h := isi_at hv ht
  simp only [w_seq, w_sif, w_tnot, w_ttru, w_fn, w_cons, w_var, w_c, w_nil, List.map_cons, List.map_nil, List.length_cons, List.length_nil, List.cons_append, List.nil_append, Nat.reduceSub, Nat.reduceAdd, List.replicate_succ, List.replicate_zero, List.getElem?_cons_zero, k1, ok_ok, truth, Bool.not_false, true_implies, reduceCtorEq, false_implies, and_true, w_sraise, true_and]
  exact ⟨Ext.new w _, _, rfl, get_new_at _ _⟩
theorem rs_one {h : Hc} (w : Wf h) {n g p : Nat} {one : Val} (en : h.get n = some (.lst [.ref g, one, .non])) (eg : h.get g = some (.tup [.int 0, .int 1, .str "put", .str "a", .int 1])) (hb : Bad p h one) : Rs h (.ref n) (.int 1) := by
  refine rs_of ?_
  unfold F_check_operations
  rw [ok_fn]
  unfold m_check_operations
  have k1 : fIsi isT isBT [.ref n, .ty "list"] h = .ok (.bl true) h := isi_at (t := "list") (by unfold tyN; simp only [en]) (by decide)
  have go : Good (⟨0, 1, .put, "a", some 1⟩ : O) := ⟨by decide, kOk_a, fun _ z => by cases z⟩
  simp [sIf, tNot', tTru, eFn, aCons, aNil, eVar, eC, k1, truth, sNil, sFor, iEn, en]
  refine for_gen 2 (fun i en h' => Ext h h' ∧ i ≤ 1 ∧ ∃ a b, en = [some (.ref n), a, b]) ?_ ?_ lid 0 _ h (by unfold lid; omega) (Nat.zero_le _) ⟨Ext.refl w, by omega, _, _, rfl⟩
  · rintro i e h' hi ⟨x, hi1, a, b, rfl⟩
    have en' := x.at_ _ _ en
    rcases (show i = 0 ∨ i = 1 by omega) with rfl | rfl
    · have xt := Ext.new x.wf (.tup [.int (0 : Nat), .ref g])
      refine ⟨_, _, itE_at en' rfl, ?_⟩
      simp [gTp, get_new_at, gsCons, gNm, gsNil, sIf, tNot', tTru, eCall, aCons, aNil, eVar, call1]
      refine Ok.mono (op_at xt.wf (o := ⟨0, 1, .put, "a", some 1⟩) ⟨g, rfl, (x.trans xt).at_ _ _ eg⟩ go) (fun u h3 ⟨x3, hu⟩ => ?_) fun C d h z => z
      subst hu
      simp [truth, sNil]
      exact x.trans (xt.trans x3)
    · have xt := Ext.new x.wf (.tup [.int (1 : Nat), one])
      refine ⟨_, _, itE_at en' rfl, ?_⟩
      simp only [w_gtp, w_gscons, w_gnm, w_gsnil]
      refine ⟨_, _, rfl, get_new_at _ _, rfl, ?_⟩
      simp only [w_gscons, w_gnm, w_gsnil, w_sif, w_tnot, w_ttru, w_call, w_cons, w_var, w_nil, List.set_cons_succ, List.set_cons_zero, List.getElem?_cons_succ, List.getElem?_cons_zero, List.append_nil, List.length_cons, List.length_nil, Nat.reduceAdd, true_and]
      refine Ok.mono (bad_op xt.wf (hb.ext (x.trans xt))) (fun u h3 ⟨x3, hu⟩ => ?_) fun C d h z => z
      rw [hu]
      simp only [truth, Bool.not_false, true_implies, reduceCtorEq, false_implies, and_true, w_sraise, w_cons, w_var, w_nil, List.getElem?_cons_succ, List.getElem?_cons_zero, List.length_cons, List.length_nil, true_and]
      exact ⟨x.trans (xt.trans (x3.trans (Ext.new x3.wf _))), _, rfl, get_new_at _ _⟩
  · rintro e h' ⟨x, hi, _⟩
    omega
theorem poss_rs {h h' : Hc} {v : Val} {C : Str} {d : Option Nat} (k : F_check_operations [v] h = .exc C d h') : F_possible_order [v] h = .exc C d h' := by
  unfold F_possible_order fnM m_possible_order
  simp [sSeq, sExpr, eCall, aCons, aNil, eVar, call1, k, Res.bind, Res.into]
theorem isord_rs {h h' : Hc} {v u : Val} {C : Str} {d : Option Nat} (k : F_check_operations [v] h = .exc C d h') : F_is_order [v, u] h = .exc C d h' := by
  unfold F_is_order fnM m_is_order
  simp [sSeq, sExpr, eCall, aCons, aNil, eVar, call1, k, Res.bind, Res.into]
theorem aCons_ok {m : EM} {n : AM} {e : Mr.Env} {h h1 h2 : Hc} {v : Val} {vs : List Val} (hm : m e h = .ok v h1) (hn : n e h1 = .ok vs h2) : aCons m n e h = .ok (v :: vs) h2 := by
  unfold aCons
  rw [hm, bind_ok, hn, bind_ok]
theorem told_ok {h : Hc} {v pv : Val} (k : Rs h v pv) {j : Nat} : ∃ r h', F__law_told [.int (j : Nat), v, .non] h = .ok (.ref r) h' ∧ Ext h h' ∧ h'.get r = some (.lst [.str "operations", pv, .bl true]) := by
  obtain ⟨dd, h1, kc, x1, gd⟩ := k
  have k1 := poss_rs kc
  have k2 := isord_rs (u := .non) kc
  have x2 := Ext.new x1.wf (.exo "InvalidOperations" (some dd))
  have g2 := get_new_at h1 (.exo "InvalidOperations" (some dd))
  have gd2 := x2.at_ _ _ gd
  have x3 := Ext.new x2.wf (.lst [.str "operations", pv, .bl true])
  refine ⟨h1.n + 1, _, ?_, x1.trans (x2.trans x3), get_new_at _ _⟩
  have hx : exT.lookup (("InvalidOperations" : Str), Val.glo "InvalidOperations") = some true := by decide +kernel
  have hy : xfT.lookup ("InvalidOperations" : Str) = some [("position" : Str)] := by decide +kernel
  have hz : ieT.lookup (("InvalidOperations" : Str), Val.ty "ValueError") = some true := by decide +kernel
  have hb : (sRet (eIf (tVal (eBin (cEq false) (eVar 0) (eC (.int 0)))) (eCall 1 [] (F_possible_order) (aCons (eVar 1) aNil)) (eCall 2 [] (F_is_order) (aCons (eVar 1) (aCons (eVar 2) aNil))))) [some (.int (j : Nat)), some v, some .non, none] h = .exc "InvalidOperations" (some dd) [some (.int (j : Nat)), some v, some .non, none] h1 := by
    by_cases z : ((j : Nat) : Int) = 0
    · simp [sRet, eIf, tVal, eBin, eVar, eC, eq_int, z, eCall, aCons, aNil, call1, k1, Res.bind, Res.into]
    · have z' : ¬ j = 0 := by omega
      simp [sRet, eIf, tVal, eBin, eVar, eC, eq_int, z', eCall, aCons, aNil, call2, k2, Res.bind, Res.into]
  unfold F__law_told fnM m__law_told sTry
  simp only [List.map_cons, List.map_nil, List.length_cons, List.length_nil, List.cons_append, List.nil_append, Nat.reduceSub, Nat.reduceAdd, List.replicate_succ, List.replicate_zero]
  rw [hb]
  simp only [catchM, hx]
  have hp : List.contains [("position" : Str)] ("position" : Str) = true := by decide +kernel
  have e1 : eXf xfT (eVar 3) "position" [some (.int (j : Nat)), some v, some .non, some (.ref h1.n)] (h1.new (.exo "InvalidOperations" (some dd))) = .ok pv (h1.new (.exo "InvalidOperations" (some dd))) := by
    simp [eXf, eVar, g2, hy, gd2, List.lookup]
  have e2 : eFn (fIsX ieT) (aCons (eVar 3) (aCons (eC (.ty "ValueError")) aNil)) [some (.int (j : Nat)), some v, some .non, some (.ref h1.n)] (h1.new (.exo "InvalidOperations" (some dd))) = .ok (.bl true) (h1.new (.exo "InvalidOperations" (some dd))) := by
    simp [eFn, aCons, aNil, eC, eVar, fIsX, g2, hz, gd2]
  have e3 := aCons_ok (m := eC (.str "operations")) (h1 := h1.new (.exo "InvalidOperations" (some dd))) rfl (aCons_ok e1 (aCons_ok e2 (vs := []) (n := aNil) rfl))
  simp only [goneM, onE, sRet, eLst, List.set_cons_succ, List.set_cons_zero]
  rw [e3]
  simp only [bind_ok, List.length_cons, List.length_nil]
  rw [if_pos (by omega)]
  simp only [into_ok]
  rfl
end Wk
end
section
set_option Elab.async false
set_option linter.all false
set_option maxRecDepth 100000
set_option maxHeartbeats 4000000
/-! k90: bad operations are told. -/
namespace Wk
open PySem Mr K90
abbrev GT : List Val := [.int 0, .int 1, .str "put", .str "a", .int 1]
/-- an expression makes a bad one -/
def BE (p : Nat) (E : Mr.Env) (h : Hc) (m : EM) : Prop := ∀ h', Ext h h' → ∀ X : Str → Option Nat → Hc → Prop, Ok (m E h') (fun v h'' => Ext h' h'' ∧ Bad p h'' v) X
def BA (p : Nat) (E : Mr.Env) (h : Hc) (k : Nat) (m : AM) : Prop := ∀ h', Ext h h' → ∀ X : Str → Option Nat → Hc → Prop, Ok (m E h') (fun vs h'' => Ext h' h'' ∧ vs.length = k ∧ ∀ v ∈ vs, Bad p h'' v) X
theorem ba_nil {p : Nat} {E : Mr.Env} {h : Hc} : BA p E h 0 aNil := fun h' x X => by
  rw [w_nil]
  exact ⟨Ext.refl x.wf, rfl, fun v hv => by cases hv⟩
theorem ba_cons {p : Nat} {E : Mr.Env} {h : Hc} {k : Nat} {m : EM} {n : AM} (a : BE p E h m) (b : BA p E h k n) : BA p E h (k + 1) (aCons m n) := fun h' x X => by
  rw [w_cons]
  refine Ok.mono (a h' x X) (fun v h1 ⟨x1, k1⟩ => ?_) fun _ _ _ z => z
  refine Ok.mono (b h1 (x.trans x1) X) (fun vs h2 ⟨x2, l2, k2⟩ => ?_) fun _ _ _ z => z
  refine ⟨x1.trans x2, by simp [l2], fun u hu => ?_⟩
  rcases List.mem_cons.mp hu with z | z
  · rw [z]; exact k1.ext x2
  · exact k2 u z
theorem list_tup_at {h : Hc} {n : Nat} {xs : List Val} (e : h.get n = some (.tup xs)) : fList T [.ref n] h = .ok (.ref h.n) (h.new (.lst xs)) := by
  unfold fList seqOf
  simp only [e]
theorem tup_add {h : Hc} {a b : Nat} {xs ys : List Val} (ea : h.get a = some (.tup xs)) (eb : h.get b = some (.tup ys)) (hx : xs ≠ []) (hy : ys ≠ []) (hl : xs.length + ys.length ≤ big) : bAdd T (.ref a) (.ref b) h = .ok (.ref h.n) (h.new (.tup (xs ++ ys))) := by
  unfold bAdd
  simp only [ea, eb, if_pos hl, if_neg hx, if_neg hy]
section
variable {p g : Nat} {E : Mr.Env} {h : Hc} (hp : p < h.n) (e1 : E[1]? = some (some (.ref g))) (gg : h.get g = some (.tup GT))
include e1 gg
theorem cutG (h' : Hc) (x : Ext h h') : eSl (slM T) (eVar 1) (oSome (eC (.int 2))) oNone E h' = .ok (.ref h'.n) (h'.new (.tup [.str "put", .str "a", .int 1])) := by
  have g' := x.at_ _ _ gg
  unfold eSl eVar oSome oNone eC slM seqOf
  simp only [e1, bind_ok, g']
  rfl
theorem be_cat {a b : Val} {m : AM} (hm : ∀ h', m E h' = .ok [a, b] h') (k : ∀ h', BadT p h' [a, b, .str "put", .str "a", .int 1]) : BE p E h (eBin (bAdd T) (eTup m) (eSl (slM T) (eVar 1) (oSome (eC (.int 2))) oNone)) := fun h' x X => by
  rw [w_bin, w_tup, hm]
  simp only [ok_ok, List.length_cons, List.length_nil]
  refine ⟨by show _ ≤ 16777216; omega, ?_⟩
  have x1 := Ext.new x.wf (.tup [a, b])
  have g1 := get_new_at h' (.tup [a, b])
  rw [cutG e1 gg _ (x.trans x1)]
  generalize h'.new (.tup [a, b]) = h1 at *
  have x2 := Ext.new x1.wf (.tup [.str "put", .str "a", .int 1])
  have g2 := get_new_at h1 (.tup [.str "put", .str "a", .int 1])
  have g12 := x2.at_ _ _ g1
  simp only [ok_ok]
  rw [tup_add g12 g2 (by simp) (by simp) (by show _ ≤ 16777216; simp)]
  have x3 := Ext.new x2.wf (.tup ([a, b] ++ [.str "put", .str "a", .int 1]))
  simp only [ok_ok]
  exact ⟨x1.trans (x2.trans x3), .tup _ _ (get_new_at _ _) (k _)⟩
omit e1 gg in
theorem be_tup {xs : List Val} {m : AM} (hm : ∀ h', m E h' = .ok xs h') (hl : xs.length ≤ 5) (k : ∀ h', BadT p h' xs) : BE p E h (eTup m) := fun h' x X => by
  rw [w_tup, hm]
  simp only [ok_ok]
  exact ⟨by show _ ≤ 16777216; omega, Ext.new x.wf _, .tup _ _ (get_new_at _ _) (k _)⟩
omit e1 gg in
theorem be_non : BE p E h (eC .non) := fun h' x X => by
  rw [w_c]
  exact ⟨Ext.refl x.wf, .non⟩
include hp in
theorem be_list : BE p E h (eFn (fList T) (aCons (eVar 1) aNil)) := fun h' x X => by
  simp only [w_fn, w_cons, w_var, e1, w_nil, list_tup_at (x.at_ _ _ gg), ok_ok]
  exact ⟨Ext.new x.wf _, .lst _ _ (get_new_at _ _) (by have := x.n; omega)⟩
theorem be_four : BE p E h (eSl (slM T) (eVar 1) oNone (oSome (eC (.int 4)))) := fun h' x X => by
  have g' := x.at_ _ _ gg
  have : eSl (slM T) (eVar 1) oNone (oSome (eC (.int 4))) E h' = .ok (.ref h'.n) (h'.new (.tup [.int 0, .int 1, .str "put", .str "a"])) := by
    unfold eSl eVar oSome oNone eC slM seqOf
    simp only [e1, bind_ok, g']
    rfl
  rw [this, ok_ok]
  exact ⟨Ext.new x.wf _, .tup _ _ (get_new_at _ _) (.len _ (by decide))⟩
omit e1 gg in
include hp in
theorem be_wordl : BE p E h (eTup (aCons (eC (.int 0)) (aCons (eC (.int 1)) (aCons (eLst aNil) (aCons (eC (.str "a")) (aCons (eC (.int 1)) aNil)))))) := fun h' x X => by
  simp only [w_tup, w_cons, w_c, w_lst, w_nil, List.length_cons, List.length_nil]
  have x1 := Ext.new x.wf (.lst [])
  have g1 := get_new_at h' (.lst [])
  have x2 := Ext.new x1.wf (.tup [.int 0, .int 1, .ref h'.n, .str "a", .int 1])
  exact ⟨Nat.zero_le _, by show _ ≤ 16777216; omega, x1.trans x2, .tup _ _ (get_new_at _ _) (.wordl _ [] (x2.at_ _ _ g1) (by have := x.n; omega))⟩
end
end Wk
end
section
set_option Elab.async false
set_option linter.all false
set_option maxRecDepth 100000
set_option maxHeartbeats 4000000
/-! k90: the law's look at bad operations. -/
namespace Wk
open PySem Mr K90
theorem Bad.put {p b : Nat} {h : Hc} {ys zs : List Val} (e : h.get b = some (.lst ys)) {v : Val} (k : Bad p h v) : Bad p (h.put b (.lst zs)) v := by
  have lst : ∀ m xs, h.get m = some (.lst xs) → ∃ us, (h.put b (.lst zs)).get m = some (.lst us) := fun m xs g => by
    by_cases z : m = b
    · rw [z]; exact ⟨_, get_put_at _ _ _⟩
    · rw [get_put_ne _ _ z]; exact ⟨_, g⟩
  have tup : ∀ m xs, h.get m = some (.tup xs) → (h.put b (.lst zs)).get m = some (.tup xs) := fun m xs g => by
    rw [get_put_ne _ _ (fun z => by rw [z, e] at g; cases g)]
    exact g
  cases k with
  | non => exact .non
  | lst m xs e hm =>
    obtain ⟨us, g⟩ := lst m xs e
    exact .lst m us g hm
  | tup m xs e b =>
    refine .tup m xs (tup _ _ e) ?_
    cases b with
    | len xs l => exact .len xs l
    | ends => exact .ends
    | tru => exact .tru
    | word => exact .word
    | wordl m2 xs2 e2 hm =>
      obtain ⟨us, g⟩ := lst m2 xs2 e2
      exact .wordl m2 us g hm
    | key => exact .key
    | nval => exact .nval
    | tval => exact .tval
    | non => exact .non
/-- a told list is the list that is written -/
theorem told_eq {h : Hc} {a b : Nat} {s : Str} {pv : Val} (hpv : pv = .non ∨ ∃ i, pv = .int i) (hs : PyData.canLay0 (.str s) = true) (ea : h.get a = some (.lst [.str s, pv, .bl true])) (eb : h.get b = some (.lst [.str s, pv, .bl true])) : cEq true (.ref a) (.ref b) h = .ok (.bl false) h := by
  obtain ⟨d, hd, hf, hq⟩ : ∃ d, (∀ f, toD h f pv = some d) ∧ Flat 0 d ∧ PyData.eqv d d = true := by
    rcases hpv with rfl | ⟨i, rfl⟩
    · exact ⟨.none, fun f => by cases f <;> rfl, ⟨rfl, Nat.le_refl _⟩, by unfold PyData.eqv; rfl⟩
    · exact ⟨.int i, fun f => by cases f <;> rfl, ⟨rfl, Nat.le_refl _⟩, by unfold PyData.eqv; simp⟩
  have td : ∀ r, h.get r = some (.lst [.str s, pv, .bl true]) → toD h 64 (.ref r) = some (.list [.str s, d, .bool true]) := fun r e => by
    unfold toD
    simp only [e, mapD, hd]
    rfl
  have fl : Flat 1 (.list [.str s, d, .bool true]) := flat_list fun x hx => by
    simp only [List.mem_cons, List.not_mem_nil, or_false] at hx
    rcases hx with rfl | rfl | rfl
    · exact ⟨hs, Nat.le_refl _⟩
    · exact hf
    · exact ⟨rfl, Nat.le_refl _⟩
  have eqv : PyData.eqv (.list [.str s, d, .bool true]) (.list [.str s, d, .bool true]) = true := by
    have e1 : PyData.eqv (.str s) (.str s) = true := by unfold PyData.eqv; simp
    have e2 : PyData.eqv (.bool true) (.bool true) = true := by unfold PyData.eqv; rfl
    show (PyData.eqv (.str s) (.str s) && (PyData.eqv d d && (PyData.eqv (.bool true) (.bool true) && true))) = true
    rw [e1, hq, e2]
    rfl
  unfold cEq
  simp only [scalM, td a ea, td b eb, fl.sh, Bool.and_self, if_true, eqv]
  rfl
theorem ops_flat : PyData.canLay0 (.str "operations") = true := by decide +kernel
theorem bad_right_ok {h : Hc} (w : Wf h) {p : Nat} (k : Pool h p) {X : Str → Option Nat → Hc → Prop} : Ok (F__law_bad_right [.ref p] h) (fun v h' => ExtB p h h' ∧ v = .bl true) X := by
  have hp := pool_lt w k
  unfold F__law_bad_right
  rw [ok_fn]
  unfold m__law_bad_right
  simp only [List.map_cons, List.map_nil, List.length_cons, List.length_nil, List.cons_append, List.nil_append, Nat.reduceSub, Nat.reduceAdd, List.replicate_succ, List.replicate_zero]
  rw [w_seq, w_sasg, w_tup, show (aCons (eC (.int 0)) (aCons (eC (.int 1)) (aCons (eC (.str "put")) (aCons (eC (.str "a")) (aCons (eC (.int 1)) aNil))))) [some (.ref p), none, none, none, none] h = .ok GT h from rfl, ok_ok]
  refine ⟨by show _ ≤ 16777216; simp, ?_⟩
  simp only [w_gnm, List.set_cons_succ, List.set_cons_zero]
  have x1 := Ext.new w (.tup GT)
  have g1 := get_new_at h (.tup GT)
  have hp1 : p < (h.new (.tup GT)).n := by rw [Hc.n_new]; omega
  generalize h.new (.tup GT) = h1 at *
  -- the first six
  rw [w_seq, w_sasg, w_lst]
  have E1 : [some (Val.ref p), some (.ref h.n), none, none, none][1]? = some (some (.ref h.n)) := rfl
  refine Ok.mono (ba_cons (be_non (h := h1)) (ba_cons (be_list hp1 E1 g1) (ba_cons (be_four E1 g1) (ba_cons (be_cat E1 g1 (fun _ => rfl) fun _ => .ends) (ba_cons (be_cat E1 g1 (fun _ => rfl) fun _ => .tru) (ba_cons (be_tup (fun _ => rfl) (by decide) fun _ => .word) ba_nil))))) h1 (Ext.refl x1.wf) _) (fun vs h2 ⟨x2, l2, b2⟩ => ?_) fun _ _ _ z => z
  refine ⟨by show _ ≤ 16777216; omega, ?_⟩
  simp only [w_gnm, List.set_cons_succ, List.set_cons_zero]
  have x3 := Ext.new x2.wf (.lst vs)
  have g3 := get_new_at h2 (.lst vs)
  have b3 : ∀ v ∈ vs, Bad p (h2.new (.lst vs)) v := fun v hv => (b2 v hv).ext x3
  generalize h2.new (.lst vs) = h3 at *
  have x13 := x2.trans x3
  -- the next four
  rw [w_seq, w_sasg, w_bin, w_var]
  simp only [List.getElem?_cons_succ, List.getElem?_cons_zero]
  rw [w_lst]
  have hp3 : p < h3.n := by have := x13.n; omega
  refine Ok.mono (ba_cons (be_wordl (h := h3) hp3) (ba_cons (be_tup (fun _ => rfl) (by decide) fun _ => .key) (ba_cons (be_tup (fun _ => rfl) (by decide) fun _ => .nval) (ba_cons (be_tup (fun _ => rfl) (by decide) fun _ => .tval) ba_nil))) h3 (Ext.refl x3.wf) _) (fun us h4 ⟨x4, l4, b4⟩ => ?_) fun _ _ _ z => z
  refine ⟨by show _ ≤ 16777216; omega, ?_⟩
  have x5 := Ext.new x4.wf (.lst us)
  have g5 := get_new_at h4 (.lst us)
  have b5 : ∀ v ∈ us, Bad p (h4.new (.lst us)) v := fun v hv => (b4 v hv).ext x5
  generalize h4.new (.lst us) = h5 at *
  have x35 := x4.trans x5
  rw [add_at (x35.at_ _ _ g3) g5 (by omega), ok_ok]
  simp only [w_gnm, List.set_cons_succ, List.set_cons_zero]
  have x6 := Ext.new x5.wf (.lst (vs ++ us))
  have g6 := get_new_at h5 (.lst (vs ++ us))
  have b6 : ∀ v ∈ vs ++ us, Bad p (h5.new (.lst (vs ++ us))) v := fun v hv => by
    rcases List.mem_append.mp hv with z | z
    · exact (b3 v z).ext (x35.trans x6)
    · exact (b5 v z).ext x6
  generalize h5.new (.lst (vs ++ us)) = h6 at *
  have x16 := x13.trans (x35.trans x6)
  have gg6 := x16.at_ _ _ g1
  have x06 := x1.trans x16
  have lvs : (vs ++ us).length = 10 := by rw [List.length_append]; omega
  generalize vs ++ us = ws at *
  -- the last
  have hb6 : h.n ≤ h5.n := Nat.le_trans x1.n (Nat.le_trans x13.n x35.n)
  rw [w_seq, w_sexpr, w_lm, w_var]
  simp only [List.getElem?_cons_succ, List.getElem?_cons_zero]
  refine ⟨_, _, rfl, g6, ?_⟩
  rw [w_cons]
  have E3 : [some (Val.ref p), some (.ref h.n), some (.ref h5.n), none, none][1]? = some (some (.ref h.n)) := rfl
  refine Ok.mono (be_cat (p := p) (h := h6) E3 gg6 (a := .int 0) (b := .non) (fun _ => rfl) (fun _ => .non) h6 (Ext.refl x6.wf) _) (fun v h7 ⟨x7, b7⟩ => ?_) fun _ _ _ z => z
  rw [w_nil]
  have g7 := x7.at_ _ _ g6
  refine ⟨ws, .non, ws ++ [v], g7, by simp only [lmAppend]; rw [if_pos (show ws.length < big by show _ < 16777216; omega)], ?_⟩
  have b8 : ∀ u ∈ ws ++ [v], Bad p (h7.put h5.n (.lst (ws ++ [v]))) u := fun u hu => by
    rcases List.mem_append.mp hu with z | z
    · exact ((b6 u z).ext x7).put g7
    · rw [List.mem_singleton.mp z]; exact b7.put g7
  have x08 : Ext h (h7.put h5.n (.lst (ws ++ [v]))) := Ext.put (x06.trans x7) hb6 g7 _ w
  have g8 := get_put_at h7 h5.n (.lst (ws ++ [v]))
  have gg8 : (h7.put h5.n (.lst (ws ++ [v]))).get h.n = some (.tup GT) := by
    have gg7 := x7.at_ _ _ gg6
    rw [get_put_ne _ _ (fun z => by rw [z, g7] at gg7; cases gg7)]
    exact gg7
  generalize h7.put h5.n (.lst (ws ++ [v])) = h8 at *
  have lw : (ws ++ [v]).length = 11 := by rw [List.length_append, lvs]; rfl
  generalize ws ++ [v] = ws at *
  have hpb : h5.n ≠ p := by omega
  have hpg : h.n ≠ p := by omega
  -- the loop
  rw [w_seq, w_sfor, rg1_at (n := 2) (h1 := h8) (by omega) rfl, ok_ok]
  refine for_ok (items := (List.range 2).map fun j => Val.int ((0 : Int) + (j : Nat))) (fun i en h' => ExtB p h h' ∧ Pool h' p ∧ (∃ a3 a4, en = [some (.ref p), some (.ref h.n), some (.ref h5.n), a3, a4]) ∧ h'.get h.n = some (.tup GT) ∧ h'.get h5.n = some (.lst ws) ∧ ∀ v ∈ ws, Bad p h' v) (fun i en h' _ => itR_at 0 2 i h') ?_ ?_ lid 0 _ _ (by show 2 < 1000000 + 0; omega) (Nat.zero_le _)
    ⟨x08.b, k.mono x08, ⟨_, _, rfl⟩, gg8, g8, b8⟩
  · rintro i u en h' hv ⟨x, kp, ⟨a3, a4, rfl⟩, gg, gb, bb⟩
    obtain ⟨j, rfl⟩ : ∃ j : Nat, u = .int (j : Nat) := by
      obtain ⟨j, _, e⟩ := List.mem_map.mp (List.mem_of_getElem? hv)
      exact ⟨j, by rw [← e, Int.zero_add]⟩
    have hwx := x.wf
    simp only [w_gnm, w_seq, w_sasg, w_bin (g := ixM T), w_var, w_call (f := F__law_draw), w_cons (m := eVar _), w_cons (m := eFn _ _), w_fn, w_nil, List.set_cons_succ, List.set_cons_zero, List.getElem?_cons_succ, List.getElem?_cons_zero, len_lst gb, ok_ok, List.append_nil, List.length_cons, List.length_nil, Nat.reduceAdd, true_and, lw]
    refine Ok.mono (draw_ok (s := 11) hwx kp (by omega) (by omega)) (fun v1 k1 ⟨y1, kp1, d1, ev1, ld1⟩ => ?_) fun _ _ _ z => z
    rw [ev1]
    have gb1 := y1.at_ _ _ hpb gb
    have gg1 := y1.at_ _ _ hpg gg
    have bb1 : ∀ v ∈ ws, Bad p k1 v := fun v hv => (bb v hv).draw y1 kp
    have hd1 : d1 < ws.length := by omega
    rw [ix_lst gb1, atI_nat, List.getElem?_eq_getElem hd1]
    have bo := bb1 _ (List.getElem_mem hd1)
    generalize ws[d1] = one at *
    simp only [ok_ok]
    -- the first question
    simp only [w_sif, w_tval, w_bin, w_call, w_cons, w_var, w_lst, w_c, w_nil, List.getElem?_cons_succ, List.getElem?_cons_zero, List.length_cons, List.length_nil, List.append_nil, Nat.reduceAdd, true_and]
    refine ⟨by show _ ≤ 16777216; omega, ?_⟩
    have y2 := Ext.new y1.wf (.lst [.ref h.n, one, .non])
    have gn2 := get_new_at k1 (.lst [.ref h.n, one, .non])
    have gg2 := y2.at_ _ _ gg1
    have gb2 := y2.at_ _ _ gb1
    have bo2 := bo.ext y2
    have bb2 : ∀ v ∈ ws, Bad p (k1.new (.lst [.ref h.n, one, .non])) v := fun v hv => (bb1 v hv).ext y2
    have kp2 := kp1.mono y2
    generalize k1.new (.lst [.ref h.n, one, .non]) = k2 at *
    obtain ⟨r3, k3, e3, y3, g3⟩ := told_ok (j := j) (rs_one y2.wf gn2 gg2 bo2)
    rw [e3]
    simp only [ok_ok]
    refine ⟨by show _ ≤ 16777216; omega, ?_⟩
    have y4 := Ext.new y3.wf (.lst [.str "operations", .int 1, .bl true])
    have g4 := get_new_at k3 (.lst [.str "operations", .int 1, .bl true])
    rw [told_eq (.inr ⟨1, rfl⟩) ops_flat (y4.at_ _ _ g3) g4]
    have y24 := y3.trans y4
    generalize k3.new (.lst [.str "operations", .int 1, .bl true]) = k4 at *
    have kp4 := kp2.mono y24
    have gg4 := y24.at_ _ _ gg2
    have gb4 := y24.at_ _ _ gb2
    have bb4 : ∀ v ∈ ws, Bad p k4 v := fun v hv => (bb2 v hv).ext y24
    have z4 : ExtB p h k4 := x.trans (y1.trans (y2.b.trans y24.b))
    simp only [ok_ok, reduceCtorEq, false_implies, true_implies, true_and, w_snil]
    simp only [List.getElem?_cons_succ, List.getElem?_cons_zero, w_tup, w_nil, w_dnew]
    refine ⟨Nat.zero_le _, by show _ ≤ 16777216; omega, ?_⟩
    have y5 := Ext.new y4.wf (.tup [])
    have g5' := get_new_at k4 (.tup [])
    have pn5 : k4.n ≠ p := by have := pool_lt y4.wf kp4; omega
    generalize qk5 : k4.new (.tup []) = k5 at *
    have y6 := Ext.new y5.wf (.dic [])
    have g6' := get_new_at k5 (.dic [])
    have pn6 : k5.n ≠ p := by have := pool_lt y4.wf kp4; have := y5.n; omega
    have g56 := y6.at_ _ _ g5'
    generalize qk6 : k5.new (.dic []) = k6 at *
    have y7 := Ext.new y6.wf (.lst [.non, .ref k4.n, .int 5, .ref k5.n])
    have g7' := get_new_at k6 (.lst [.non, .ref k4.n, .int 5, .ref k5.n])
    have pn7 : k6.n ≠ p := by have := pool_lt y4.wf kp4; have := y5.n; have := y6.n; omega
    have g57 := y7.at_ _ _ g56
    have g67 := y7.at_ _ _ g6'
    generalize qk7 : k6.new (.lst [.non, .ref k4.n, .int 5, .ref k5.n]) = k7 at *
    have y47 := y5.trans (y6.trans y7)
    have kp7 := kp4.mono y47
    refine Ok.mono (draw_ok (s := 4) y7.wf kp7 (by omega) (by omega)) (fun v8 k8 ⟨y8, kp8, d8, ev8, ld8⟩ => ?_) fun _ _ _ z => z
    rw [ev8]
    have gb8 := y8.at_ _ _ hpb (y47.at_ _ _ gb4)
    have gg8' := y8.at_ _ _ hpg (y47.at_ _ _ gg4)
    have bb8 : ∀ v ∈ ws, Bad p k8 v := fun v hv => ((bb4 v hv).ext y47).draw y8 kp7
    have z8 : ExtB p h k8 := z4.trans (y47.b.trans y8)
    have g58 := y8.at_ _ _ pn5 g57
    have g68 := y8.at_ _ _ pn6 g67
    have g78 := y8.at_ _ _ pn7 g7'
    obtain ⟨v9, e9, r9⟩ : ∃ v9, ixM T (.ref k6.n) (.int (d8 : Nat)) k8 = .ok v9 k8 ∧ Rs k8 v9 .non := by
      rw [ix_lst g78, atI_nat]
      rcases (show d8 = 0 ∨ d8 = 1 ∨ d8 = 2 ∨ d8 = 3 by omega) with rfl | rfl | rfl | rfl
      · exact ⟨_, rfl, rs_no y8.wf (t := "NoneType") rfl (by decide)⟩
      · exact ⟨_, rfl, rs_no y8.wf (t := "tuple") (by unfold tyN; simp only [g58]) (by decide)⟩
      · exact ⟨_, rfl, rs_no y8.wf (t := "int") rfl (by decide)⟩
      · exact ⟨_, rfl, rs_no y8.wf (t := "dict") (by unfold tyN; simp only [g68]) (by decide)⟩
    rw [e9]
    simp only [ok_ok]
    obtain ⟨rA, kA, eA, yA, gA⟩ := told_ok (j := j) r9
    rw [eA]
    simp only [ok_ok]
    refine ⟨by show _ ≤ 16777216; omega, ?_⟩
    have yB := Ext.new yA.wf (.lst [.str "operations", .non, .bl true])
    have gB := get_new_at kA (.lst [.str "operations", .non, .bl true])
    rw [told_eq (.inl rfl) ops_flat (yB.at_ _ _ gA) gB]
    have yAB := yA.trans yB
    generalize kA.new (.lst [.str "operations", .non, .bl true]) = kB at *
    simp only [ok_ok, reduceCtorEq, false_implies, true_implies, true_and]
    exact ⟨z8.trans yAB.b, kp8.mono yAB, ⟨_, _, rfl⟩, yAB.at_ _ _ gg8', yAB.at_ _ _ gb8, fun v hv => (bb8 v hv).ext yAB⟩
  · rintro en h' ⟨x, kp, ⟨a3, a4, rfl⟩, gg, gb, bb⟩
    simp only [w_sret, w_c]
    exact ⟨x, trivial⟩
end Wk
end
section
set_option Elab.async false
set_option linter.all false
set_option maxRecDepth 100000
set_option maxHeartbeats 4000000
/-! k90: a closed run (the limits); the values that are checked. -/
namespace Wk
open PySem Mr K90
def Tr.idx : Mr.Tr → List Nat
  | .nil => []
  | .node v l r => (match v with
    | some _ => [0]
    | none => []) ++ ((Tr.idx l).map (fun j => 2 * j + 1) ++ (Tr.idx r).map (fun j => 2 * j + 2))
theorem Tr.idx_get : ∀ (t : Mr.Tr) (i : Nat) (c : Cell), t.get i = some c → i ∈ Tr.idx t
  | .nil, i, c, e => by cases e
  | .node v l r, i, c, e => by
    unfold Mr.Tr.get at e
    unfold Tr.idx
    by_cases z : i = 0
    · rw [if_pos z] at e
      rw [e, z]
      exact List.mem_append_left _ (List.mem_singleton.mpr rfl)
    · rw [if_neg z] at e
      by_cases o : i % 2 = 1
      · rw [if_pos o] at e
        refine List.mem_append_right _ (List.mem_append_left _ (List.mem_map.mpr ⟨_, Tr.idx_get l _ c e, ?_⟩))
        omega
      · rw [if_neg o] at e
        refine List.mem_append_right _ (List.mem_append_right _ (List.mem_map.mpr ⟨_, Tr.idx_get r _ c e, ?_⟩))
        omega
def wfB (h : Hc) : Bool := (Tr.idx h.t).all fun i => Nat.blt i h.n
theorem wf_of {h : Hc} (k : wfB h = true) : Wf h := fun i c e => by
  have := List.all_eq_true.mp k i (Tr.idx_get _ _ _ e)
  exact Nat.le_of_ble_eq_true this
theorem limits_run (ns : List Int) : (match F__law_limits_right [] (h0 ns) with
  | .ok (.bl true) h' => some (wfB h', h'.get 0)
  | _ => none) = some (true, some (.fz (ns.map .int))) := by kernel_rfl
theorem limits_ok (ns : List Int) {X : Str → Option Nat → Hc → Prop} : Ok (F__law_limits_right [] (h0 ns)) (fun v h' => v = .bl true ∧ Wf h' ∧ h'.get 0 = some (.fz (ns.map .int))) X := by
  have k := limits_run ns
  cases q : F__law_limits_right [] (h0 ns) with
  | bad => rw [q] at k; cases k
  | exc C d h' => rw [q] at k; cases k
  | ok v h' =>
    rw [q] at k
    rw [ok_ok]
    cases v with
    | bl b =>
      cases b with
      | true =>
        simp only [Option.some.injEq, Prod.mk.injEq] at k
        exact ⟨rfl, wf_of k.1, k.2⟩
      | false => cases k
    | _ => cases k
/-! ### values -/
def Vok (n : Nat) (h : Hc) (v : Val) : Prop :=
  (∃ r m, v = .ref r ∧ h.get r = some (.lst (iv m)) ∧ (∀ a ∈ m, a < n) ∧ m.length ≤ 100) ∨
  (∃ t, (∀ h', Ext h h' → tyN h' v = some t) ∧ isB t "list" = some false) ∨
  (∃ r xs, v = .ref r ∧ h.get r = some (.lst xs) ∧ (∀ v ∈ xs, Odd v) ∧ xs ≠ [] ∧ xs.length ≤ 100)
theorem Vok.mono {n : Nat} {h h' : Hc} (x : Ext h h') {v : Val} (k : Vok n h v) : Vok n h' v := by
  rcases k with ⟨r, m, e, g, k⟩ | ⟨t, k, e⟩ | ⟨r, xs, e, g, k⟩
  · exact .inl ⟨r, m, e, x.at_ _ _ g, k⟩
  · exact .inr (.inl ⟨t, fun h2 y => k h2 (x.trans y), e⟩)
  · exact .inr (.inr ⟨r, xs, e, x.at_ _ _ g, k⟩)
/-- both checks tell the same -/
theorem same_ok {h : Hc} (w : Wf h) {v0 v : Val} {ops : List O} (k0 : IsOps h v0 ops) (hg : ∀ o ∈ ops, Good o) (hl : ops.length ≤ 5) (kv : Vok ops.length h v) {X : Str → Option Nat → Hc → Prop} :
    ∃ P : Prop, Ok (F_is_order [v0, v] h) (fun y h' => Ext h h' ∧ Tells y P) X ∧ ∀ h1, Ext h h1 → Ok (F__law_is_order [v0, v] h1) (fun y h' => Ext h1 h' ∧ Tells y P) X := by
  rcases kv with ⟨r, m, rfl, g, k, l⟩ | ⟨t, k, e⟩ | ⟨r, xs, rfl, g, k, ne, l⟩
  · exact ⟨_, isord_iv w k0 hg hl g k l, fun h1 x => law_isord_iv x.wf (k0.mono x) hg hl (x.at_ _ _ g) k l⟩
  · refine ⟨False, Ok.mono (isord_no w k0 hg hl k e) (fun y h' ⟨x, q⟩ => ⟨x, q ▸ tells_f (fun z => z)⟩) fun _ _ _ z => z, fun h1 x => Ok.mono (law_isord_no x.wf (k h1 x) e) (fun y h' ⟨x, q⟩ => ⟨x, q ▸ tells_f (fun z => z)⟩) fun _ _ _ z => z⟩
  · refine ⟨False, Ok.mono (isord_odd w k0 hg hl g k ne l) (fun y h' ⟨x, q⟩ => ⟨x, q ▸ tells_f (fun z => z)⟩) fun _ _ _ z => z, fun h1 x => Ok.mono (law_isord_odd x.wf (x.at_ _ _ g) k ne l) (fun y h' ⟨x, q⟩ => ⟨x, q ▸ tells_f (fun z => z)⟩) fun _ _ _ z => z⟩
theorem tells_eq {v u : Val} {P : Prop} (a : Tells v P) (b : Tells u P) : ∃ k, v = .bl k ∧ u = .bl k := by
  obtain ⟨i, rfl, hi⟩ := a
  obtain ⟨j, rfl, hj⟩ := b
  refine ⟨i, rfl, ?_⟩
  cases i <;> cases j
  · rfl
  · exact absurd (hi.mpr (hj.mp rfl)) (by decide)
  · exact absurd (hj.mpr (hi.mp rfl)) (by decide)
  · rfl
theorem repr_same (k : Bool) (h : Hc) : fRepr [.bl k] h = .ok (.str (if k = true then "True" else "False")) h := by cases k <;> rfl
end Wk
end
section
set_option Elab.async false
set_option linter.all false
set_option maxRecDepth 100000
set_option maxHeartbeats 4000000
/-! k90: the values that are checked, made. -/
namespace Wk
open PySem Mr K90
def VE (n : Nat) (E : Mr.Env) (h : Hc) (m : EM) : Prop := ∀ h', Ext h h' → ∀ X : Str → Option Nat → Hc → Prop, Ok (m E h') (fun v h'' => Ext h' h'' ∧ Vok n h'' v) X
def VA (n : Nat) (E : Mr.Env) (h : Hc) (k : Nat) (m : AM) : Prop := ∀ h', Ext h h' → ∀ X : Str → Option Nat → Hc → Prop, Ok (m E h') (fun vs h'' => Ext h' h'' ∧ vs.length = k ∧ ∀ v ∈ vs, Vok n h'' v) X
theorem va_nil {n : Nat} {E : Mr.Env} {h : Hc} : VA n E h 0 aNil := fun h' x X => by
  rw [w_nil]
  exact ⟨Ext.refl x.wf, rfl, fun v hv => by cases hv⟩
theorem va_cons {n : Nat} {E : Mr.Env} {h : Hc} {k : Nat} {m : EM} {l : AM} (a : VE n E h m) (b : VA n E h k l) : VA n E h (k + 1) (aCons m l) := fun h' x X => by
  rw [w_cons]
  refine Ok.mono (a h' x X) (fun v h1 ⟨x1, k1⟩ => ?_) fun _ _ _ z => z
  refine Ok.mono (b h1 (x.trans x1) X) (fun vs h2 ⟨x2, l2, k2⟩ => ?_) fun _ _ _ z => z
  refine ⟨x1.trans x2, by simp [l2], fun u hu => ?_⟩
  rcases List.mem_cons.mp hu with z | z
  · rw [z]; exact k1.mono x2
  · exact k2 u z
theorem vok_iv {n : Nat} {h : Hc} {r : Nat} {m : List Nat} (g : h.get r = some (.lst (iv m))) (k : ∀ a ∈ m, a < n) (l : m.length ≤ 100) : Vok n h (.ref r) := .inl ⟨r, m, rfl, g, k, l⟩
section
variable {n : Nat} {E : Mr.Env} {h : Hc} {o : Nat} {m : List Nat} (e5 : E[5]? = some (some (.ref o))) (g : h.get o = some (.lst (iv m))) (hm : ∀ a ∈ m, a < n) (hl : m.length ≤ 5)
include e5 g hm hl
theorem ve_own : VE n E h (eVar 5) := fun h' x X => by
  rw [w_var, e5]
  exact ⟨Ext.refl x.wf, vok_iv (x.at_ _ _ g) hm (by omega)⟩
theorem ve_rev : VE n E h (eRev T (eVar 5)) := fun h' x X => by
  have hs : seqOf T h' (.ref o) = some (false, iv m) := by unfold seqOf; simp only [x.at_ _ _ g]
  simp only [w_rev, w_var, e5, hs, rev_iv]
  exact ⟨Ext.new x.wf _, vok_iv (get_new_at _ _) (fun a ha => hm a (List.mem_reverse.mp ha)) (by rw [List.length_reverse]; omega)⟩
omit hm in
theorem cut_one (h' : Hc) (x : Ext h h') : ∃ m1, (∀ a ∈ m1, a ∈ m) ∧ m1.length ≤ 5 ∧ eSl (slM T) (eVar 5) (oSome (eC (.int 1))) oNone E h' = .ok (.ref h'.n) (h'.new (.lst (iv m1))) := by
  have g' := x.at_ _ _ g
  have e : eSl (slM T) (eVar 5) (oSome (eC (.int 1))) oNone E h' = slM T (.ref o) (some 1) none h' := by
    unfold eSl eVar oSome oNone eC
    simp only [e5, bind_ok]
  rw [e, sl_at g']
  by_cases z : 1 ≤ m.length
  · refine ⟨m.drop 1, fun a ha => List.mem_of_mem_drop ha, by rw [List.length_drop]; omega, ?_⟩
    rw [show (some (1 : Int)) = some ((1 : Nat) : Int) from rfl, cut_from z]
  · have : m = [] := List.length_eq_zero_iff.mp (by omega)
    subst this
    exact ⟨[], fun a ha => ha, by simp, rfl⟩
omit hm in
theorem cut_first (h' : Hc) (x : Ext h h') : ∃ m1, (∀ a ∈ m1, a ∈ m) ∧ m1.length ≤ 5 ∧ eSl (slM T) (eVar 5) oNone (oSome (eC (.int 1))) E h' = .ok (.ref h'.n) (h'.new (.lst (iv m1))) := by
  have g' := x.at_ _ _ g
  have e : eSl (slM T) (eVar 5) oNone (oSome (eC (.int 1))) E h' = slM T (.ref o) none (some 1) h' := by
    unfold eSl eVar oSome oNone eC
    simp only [e5, bind_ok]
  rw [e, sl_at g']
  by_cases z : 1 ≤ m.length
  · refine ⟨m.take 1, fun a ha => List.mem_of_mem_take ha, by rw [List.length_take]; omega, ?_⟩
    rw [show (some (1 : Int)) = some ((1 : Nat) : Int) from rfl, cut_to z]
  · have : m = [] := List.length_eq_zero_iff.mp (by omega)
    subst this
    exact ⟨[], fun a ha => ha, by simp, rfl⟩
theorem ve_one : VE n E h (eSl (slM T) (eVar 5) (oSome (eC (.int 1))) oNone) := fun h' x X => by
  obtain ⟨m1, k1, l1, e⟩ := cut_one e5 g hl h' x
  rw [e, ok_ok]
  exact ⟨Ext.new x.wf _, vok_iv (get_new_at _ _) (fun a ha => hm a (k1 a ha)) (by omega)⟩
theorem ve_more : VE n E h (eBin (bAdd T) (eVar 5) (eSl (slM T) (eVar 5) oNone (oSome (eC (.int 1))))) := fun h' x X => by
  obtain ⟨m1, k1, l1, e⟩ := cut_first e5 g hl h' x
  have x1 := Ext.new x.wf (.lst (iv m1))
  have g1 := get_new_at h' (.lst (iv m1))
  rw [w_bin, w_var, e5]
  simp only
  rw [e, ok_ok, add_at ((x.trans x1).at_ _ _ g) g1 (by rw [iv_len, iv_len]; omega), ok_ok, iv_app]
  have x2 := Ext.new x1.wf (.lst (iv (m ++ m1)))
  refine ⟨x1.trans x2, vok_iv (get_new_at _ _) (fun a ha => ?_) (by rw [List.length_append]; omega)⟩
  rcases List.mem_append.mp ha with z | z
  · exact hm a z
  · exact hm a (k1 a z)
theorem ve_turn : VE n E h (eBin (bAdd T) (eSl (slM T) (eVar 5) (oSome (eC (.int 1))) oNone) (eSl (slM T) (eVar 5) oNone (oSome (eC (.int 1))))) := fun h' x X => by
  obtain ⟨m1, k1, l1, e⟩ := cut_one e5 g hl h' x
  have x1 := Ext.new x.wf (.lst (iv m1))
  have g1 := get_new_at h' (.lst (iv m1))
  obtain ⟨m2, k2, l2, e2⟩ := cut_first e5 g hl _ (x.trans x1)
  have x2 := Ext.new x1.wf (.lst (iv m2))
  have g2 := get_new_at (h'.new (.lst (iv m1))) (.lst (iv m2))
  rw [w_bin, e, ok_ok, e2, ok_ok, add_at (x2.at_ _ _ g1) g2 (by rw [iv_len, iv_len]; omega), ok_ok, iv_app]
  have x3 := Ext.new x2.wf (.lst (iv (m1 ++ m2)))
  refine ⟨x1.trans (x2.trans x3), vok_iv (get_new_at _ _) (fun a ha => ?_) (by rw [List.length_append]; omega)⟩
  rcases List.mem_append.mp ha with z | z
  · exact hm a (k1 a z)
  · exact hm a (k2 a z)
omit hm hl in
theorem ve_tuple : VE n E h (eFn (fTuple T) (aCons (eVar 5) aNil)) := fun h' x X => by
  simp only [w_fn, w_cons, w_var, e5, w_nil, tuple_at (x.at_ _ _ g), ok_ok]
  have x1 := Ext.new x.wf (.tup (iv m))
  have g1 := get_new_at h' (.tup (iv m))
  exact ⟨x1, .inr (.inl ⟨"tuple", fun h2 y => by unfold tyN; simp only [y.at_ _ _ g1], by decide⟩)⟩
omit e5 g hm hl in
theorem ve_non : VE n E h (eC .non) := fun h' x X => by
  rw [w_c]
  exact ⟨Ext.refl x.wf, .inr (.inl ⟨"NoneType", fun _ _ => rfl, by decide⟩)⟩
omit hm in
theorem ve_true : VE n E h (eBin bMul (eLst (aCons (eC (.bl true)) aNil)) (eFn (fLen T) (aCons (eVar 5) aNil))) := fun h' x X => by
  have x1 := Ext.new x.wf (.lst [.bl true])
  have g1 := get_new_at h' (.lst [.bl true])
  simp only [w_bin, w_lst, w_cons, w_c, w_nil, w_fn, w_var, e5, List.length_cons, List.length_nil, len_lst ((x.trans x1).at_ _ _ g), ok_ok, iv_len]
  refine ⟨by show _ ≤ 16777216; omega, ?_⟩
  have hb : bMul (.ref h'.n) (.int (m.length : Nat)) (h'.new (.lst [.bl true])) = .ok (.ref (h'.n + 1)) ((h'.new (.lst [.bl true])).new (.lst (List.replicate m.length (.bl true)))) := by
    unfold bMul
    simp only [g1]
    split
    · have : ((m.length : Nat) : Int).toNat = m.length := by omega
      rw [this]
      have : (List.replicate m.length [Val.bl true]).flatten = List.replicate m.length (Val.bl true) := by simp
      rw [this]
      rfl
    · rename_i q
      refine absurd ⟨by omega, by omega, ?_⟩ q
      show ([Val.bl true].length) * _ ≤ 16777216
      simp only [List.length_cons, List.length_nil]
      omega
  rw [hb, ok_ok]
  have x2 := Ext.new x1.wf (.lst (List.replicate m.length (.bl true)))
  have g2 : ((h'.new (.lst [.bl true])).new (.lst (List.replicate m.length (.bl true)))).get (h'.n + 1) = some (.lst (List.replicate m.length (.bl true))) := get_new_at _ _
  refine ⟨x1.trans x2, ?_⟩
  cases hz : m.length with
  | zero =>
    rw [hz] at g2
    exact vok_iv (m := []) g2 (fun a ha => by cases ha) (by simp)
  | succ k =>
    rw [hz] at g2
    refine .inr (.inr ⟨_, _, rfl, g2, fun v hv => ?_, by simp, by rw [List.length_replicate]; omega⟩)
    rw [List.eq_of_mem_replicate hv]
    exact .inl ⟨_, rfl⟩
end
end Wk
end
section
set_option Elab.async false
set_option linter.all false
set_option maxRecDepth 100000
set_option maxHeartbeats 4000000
/-! k90: the whole law. -/
namespace Wk
open PySem Mr K90
theorem str_odd (a : Nat) (ha : a < 5) : Odd (.str (toString (a : Int) : String)) := by
  refine .inr ⟨_, rfl, ?_⟩
  rcases (show a = 0 ∨ a = 1 ∨ a = 2 ∨ a = 3 ∨ a = 4 by omega) with rfl | rfl | rfl | rfl | rfl <;> decide +kernel
def sv : Val → Val
  | .int i => .str (toString i : String)
  | v => v
theorem str_at (a : Nat) (ha : a < 5) (h : Hc) : fStr [.int (a : Nat)] h = .ok (.str (toString (a : Int) : String)) h := by
  unfold fStr
  have : ((a : Nat) : Int).natAbs.log2 < 1920 := by
    rcases (show a = 0 ∨ a = 1 ∨ a = 2 ∨ a = 3 ∨ a = 4 by omega) with rfl | rfl | rfl | rfl | rfl <;> decide +kernel
  simp only [if_pos this]
theorem ve_str {n : Nat} {h : Hc} {o : Nat} {m : List Nat} {a0 a1 a2 a3 a4 a6 a7 a8 : Option Val} (g : h.get o = some (.lst (iv m))) (hm : ∀ a ∈ m, a < n) (hn : n ≤ 5) (hl : m.length ≤ 5) : VE n [a0, a1, a2, a3, a4, some (.ref o), a6, a7, a8] h (eLc (iAny T (eVar 5)) (gNm 8) tYes' (eFn fStr (aCons (eVar 8) aNil)) [8]) := fun h' x X => by
  have g' := x.at_ _ _ g
  have hi : iAny T (eVar 5) [a0, a1, a2, a3, a4, some (.ref o), a6, a7, a8] h' = .ok (itL o) h' := by
    simp [iAny, eVar, iAnyV, g']
  unfold eLc
  rw [hi, bind_ok]
  simp only [wipeM, List.set_cons_succ, List.set_cons_zero]
  refine lc_pure (h := h') (items := iv m) x.wf (fun _ => true) sv (by rw [iv_len]; show _ < 1000000; omega) (fun i h2 y => itL_at (y.at_ _ _ g') i) (fun v hv h2 y => ?_) (fun h2 y hn2 hg2 _ => ?_)
  · obtain ⟨a, ha, rfl⟩ := iv_mem hv
    refine ⟨_, rfl, rfl, fun _ => ?_⟩
    simp only [eFn, aCons, aNil, eVar, List.set_cons_succ, List.set_cons_zero, List.getElem?_cons_succ, List.getElem?_cons_zero, bind_ok]
    exact str_at a (by have := hm a ha; omega) h2
  · refine ⟨y, ?_⟩
    have hf : (iv m).filter (fun _ => true) = iv m := List.filter_eq_self.mpr fun _ _ => rfl
    rw [hf] at hg2
    cases m with
    | nil => exact vok_iv (m := []) hg2 (fun a ha => by cases ha) (by simp)
    | cons a r =>
      refine .inr (.inr ⟨_, _, rfl, hg2, fun v hv => ?_, by simp [iv], by rw [List.length_map, iv_len]; omega⟩)
      obtain ⟨u, hu, rfl⟩ := List.mem_map.mp hv
      obtain ⟨b, hb, rfl⟩ := iv_mem hu
      exact str_odd b (by have := hm b hb; omega)
theorem ve_rng {n : Nat} {E : Mr.Env} {h : Hc} {n0 : Nat} {vs : List Val} (e3 : E[3]? = some (some (.ref n0))) (g : h.get n0 = some (.lst vs)) (hv : vs.length = n) (hn : n ≤ 5) : VE n E h (eLrg (aCons (eFn (fLen T) (aCons (eVar 3) aNil)) aNil)) := fun h' x X => by
  have g' := x.at_ _ _ g
  have : aCons (eFn (fLen T) (aCons (eVar 3) aNil)) aNil E h' = .ok [.int (n : Nat)] h' := by
    simp only [aCons, aNil, eFn, eVar, e3, bind_ok, len_lst g', hv]
  rw [lrg_eq (by omega) this, ok_ok]
  exact ⟨Ext.new x.wf _, vok_iv (get_new_at _ _) (fun a ha => List.mem_range.mp ha) (by rw [List.length_range]; omega)⟩
end Wk
end
section
set_option Elab.async false
set_option linter.all false
set_option maxRecDepth 100000
set_option maxHeartbeats 4000000
/-! k90: the whole law. -/
namespace Wk
open PySem Mr K90
theorem acc_lt {f : Nat → O} {n : Nat} {l : List Nat} (h : Acc f n l) : (∀ a ∈ l, a < n) ∧ l.length = n := by
  refine ⟨fun a ha => List.mem_range.mp (h.perm.mem_iff.mp ha), ?_⟩
  have := h.perm.length_eq
  rw [List.length_range] at this
  exact this
theorem iso_draw {h h' : Hc} {p : Nat} (kp : Pool h p) (x : ExtB p h h') {v : Val} {ops : List O} (k : IsOps h v ops) : IsOps h' v ops := by
  obtain ⟨n, vs, e, g, r⟩ := k
  have hn : n ≠ p := fun z => by
    obtain ⟨a, b, ep, _⟩ := kp
    rw [z, ep] at g
    cases g
    cases r with
    | cons q _ =>
      obtain ⟨m, em, _⟩ := q
      cases em
  exact ⟨n, vs, e, x.at_ _ _ hn g, r.mv (x.mv (b := 0) kp)⟩
theorem is_non {h : Hc} : cIs false .non .non h = .ok (.bl true) h ∧ cIs true .non .non h = .ok (.bl false) h := ⟨rfl, rfl⟩
theorem is_ref {h : Hc} (r : Nat) : cIs false (.ref r) .non h = .ok (.bl false) h ∧ cIs true (.ref r) .non h = .ok (.bl true) h := ⟨rfl, rfl⟩
theorem eq_bl (neg a b : Bool) (h : Hc) : cEq neg (.bl a) (.bl b) h = .ok (.bl (xor neg (decide (a = b)))) h := by
  unfold cEq
  cases a <;> cases b <;> rfl
/-- found and the law's search agree -/
theorem test_ok {h : Hc} (w : Wf h) {v0 v : Val} {ops : List O} (k0 : IsOps h v0 ops) (hg : ∀ o ∈ ops, Good o) (hl : ops.length ≤ 5) (hp : Poss (tot ops) ops.length h v) {E : Mr.Env} (e3 : E[3]? = some (some v0)) (e4 : E[4]? = some (some v)) {X : Str → Option Nat → Hc → Prop} :
    Ok ((tOr' (tVal (eBin (cEq false) (eBin (cIs false) (eVar 4) (eC .non)) (eCall 1 [] (F__law_has_order) (aCons (eVar 3) aNil)))) (tAnd' (tVal (eBin (cIs true) (eVar 4) (eC .non))) (tNot' (tTru (eCall 2 [] (F__law_is_order) (aCons (eVar 3) (aCons (eVar 4) aNil))))))) E h) (fun b h' => Ext h h' ∧ b = false) X := by
  simp only [w_tor, w_tval, w_bin, w_var, w_c, w_call, w_cons, w_nil, e3, e4, List.append_nil, List.length_cons, List.length_nil, Nat.reduceAdd, true_and]
  rcases hp with ⟨rfl, hno⟩ | ⟨r, l, rfl, gl, ha⟩
  · rw [is_non.1, ok_ok]
    refine Ok.mono (has_ok w k0 hg hl) (fun u h1 ⟨x1, b, eb, hb⟩ => ?_) fun _ _ _ z => z
    have : b = false := by
      cases b with
      | false => rfl
      | true => exact absurd (hb.mp rfl) hno
    rw [eb, this, eq_bl, ok_ok]
    simp only [Bool.false_xor, reduceCtorEq, decide_false, true_implies, false_implies, and_true]
    simp only [w_tand, w_tval, w_bin, w_var, w_c, e4, is_non.2, ok_ok, reduceCtorEq, true_implies, false_implies, true_and]
    exact ⟨x1, trivial⟩
  · rw [(is_ref r).1, ok_ok]
    refine Ok.mono (has_ok w k0 hg hl) (fun u h1 ⟨x1, b, eb, hb⟩ => ?_) fun _ _ _ z => z
    have : b = true := hb.mpr ⟨l, ha⟩
    rw [eb, this, eq_bl, ok_ok]
    simp only [Bool.false_xor, reduceCtorEq, decide_false, true_implies, false_implies, and_true]
    simp only [w_tand, w_tval, w_tnot, w_ttru, w_call, w_cons, w_nil, w_bin, w_var, w_c, e3, e4, (is_ref r).2, ok_ok, reduceCtorEq, true_implies, false_implies, and_true, List.append_nil, List.cons_append, List.nil_append, List.length_cons, List.length_nil, Nat.reduceAdd, true_and]
    obtain ⟨hlt, hll⟩ := acc_lt ha
    refine Ok.mono (law_isord_iv x1.wf (k0.mono x1) hg hl (x1.at_ _ _ gl) hlt (by omega)) (fun u h2 ⟨x2, c, ec, hc⟩ => ?_) fun _ _ _ z => z
    have : c = true := hc.mpr (accL_iff.mpr ha)
    rw [ec, this]
    exact ⟨x1.trans x2, rfl⟩
/-- own -/
theorem own_ok {h : Hc} (w : Wf h) {n0 : Nat} {vs : List Val} {v : Val} {f : Nat → O} {n : Nat} (g0 : h.get n0 = some (.lst vs)) (hv : vs.length = n) (hn : n ≤ 5) (hp : Poss f n h v) {E : Mr.Env} (e3 : E[3]? = some (some (.ref n0))) (e4 : E[4]? = some (some v)) {X : Str → Option Nat → Hc → Prop} :
    Ok ((eOr (eVar 4) (eLrg (aCons (eFn (fLen T) (aCons (eVar 3) aNil)) aNil))) E h) (fun u h' => Ext h h' ∧ ∃ o m, u = .ref o ∧ h'.get o = some (.lst (iv m)) ∧ (∀ a ∈ m, a < n) ∧ m.length ≤ 5) X := by
  have hr : ∀ h', Ext h h' → Ok (eLrg (aCons (eFn (fLen T) (aCons (eVar 3) aNil)) aNil) E h') (fun u h'' => Ext h' h'' ∧ ∃ o m, u = .ref o ∧ h''.get o = some (.lst (iv m)) ∧ (∀ a ∈ m, a < n) ∧ m.length ≤ 5) X := fun h' x => by
    have g' := x.at_ _ _ g0
    have : aCons (eFn (fLen T) (aCons (eVar 3) aNil)) aNil E h' = .ok [.int (n : Nat)] h' := by
      simp only [aCons, aNil, eFn, eVar, e3, bind_ok, len_lst g', hv]
    rw [lrg_eq (by omega) this, ok_ok]
    exact ⟨Ext.new x.wf _, _, _, rfl, get_new_at _ _, fun a ha => List.mem_range.mp ha, by rw [List.length_range]; omega⟩
  rw [w_or, w_var, e4]
  simp only
  rcases hp with ⟨rfl, hno⟩ | ⟨r, l, rfl, gl, ha⟩
  · simp only [truth]
    exact hr h (Ext.refl w)
  · obtain ⟨hlt, hll⟩ := acc_lt ha
    have ht : truth (.ref r) h = some (!(iv l).isEmpty) := by unfold truth; simp only [gl]
    rw [ht]
    cases q : (iv l).isEmpty with
    | true =>
      simp only [Bool.not_true]
      exact hr h (Ext.refl w)
    | false =>
      simp only [Bool.not_false]
      exact ⟨Ext.refl w, r, l, rfl, gl, hlt, by omega⟩
def INNER : SM := (sSeq (sAsg (eCall 1 [] (F_possible_order) (aCons (eVar 3) aNil)) (gNm 4))
  (sSeq (sIf (tOr' (tVal (eBin (cEq false) (eBin (cIs false) (eVar 4) (eC .non)) (eCall 1 [] (F__law_has_order) (aCons (eVar 3) aNil)))) (tAnd' (tVal (eBin (cIs true) (eVar 4) (eC .non))) (tNot' (tTru (eCall 2 [] (F__law_is_order) (aCons (eVar 3) (aCons (eVar 4) aNil))))))) (sRet (eC (.bl false))) sNil)
  (sSeq (sAsg (eOr (eVar 4) (eLrg (aCons (eFn (fLen T) (aCons (eVar 3) aNil)) aNil))) (gNm 5))
  (sSeq (sAsg (eLst (aCons (eVar 5) (aCons (eRev T (eVar 5)) (aCons (eSl (slM T) (eVar 5) (oSome (eC (.int 1))) oNone) (aCons (eBin (bAdd T) (eVar 5) (eSl (slM T) (eVar 5) oNone (oSome (eC (.int 1))))) (aCons (eFn (fTuple T) (aCons (eVar 5) aNil)) (aCons (eC .non) (aCons (eBin bMul (eLst (aCons (eC (.bl true)) aNil)) (eFn (fLen T) (aCons (eVar 5) aNil))) (aCons (eBin (bAdd T) (eSl (slM T) (eVar 5) (oSome (eC (.int 1))) oNone) (eSl (slM T) (eVar 5) oNone (oSome (eC (.int 1))))) aNil))))))))) (gNm 6))
  (sFor (iAny T (eBin (bAdd T) (eVar 6) (eLst (aCons (eLc (iAny T (eVar 5)) (gNm 8) tYes' (eFn fStr (aCons (eVar 8) aNil)) [8]) (aCons (eLrg (aCons (eFn (fLen T) (aCons (eVar 3) aNil)) aNil)) aNil))))) (gNm 7) (sIf (tVal (eBin (cEq true) (eFn fRepr (aCons (eCall 2 [] (F_is_order) (aCons (eVar 3) (aCons (eVar 7) aNil))) aNil)) (eFn fRepr (aCons (eCall 2 [] (F__law_is_order) (aCons (eVar 3) (aCons (eVar 7) aNil))) aNil)))) (sRet (eC (.bl false))) sNil))))))
theorem inner_ok {h : Hc} (w : Wf h) {v0 : Val} {ops : List O} (k0 : IsOps h v0 ops) (hg : ∀ o ∈ ops, Good o) (hl : ops.length ≤ 5) {a0 a1 a2 a4 a5 a6 a7 a8 : Option Val} {D : Po} (fin : ∀ h' a4 a5 a6 a7 a8, Ext h h' → D.nx [a0, a1, a2, some v0, a4, a5, a6, a7, a8] h') : SOk (INNER [a0, a1, a2, some v0, a4, a5, a6, a7, a8] h) D := by
  have k0' := k0
  obtain ⟨n0, vs, rfl, e0, r0⟩ := k0
  have hlv := Mr.Paired.length r0
  unfold INNER
  rw [w_seq, w_sasg, w_call, w_cons, w_var]
  simp only [List.getElem?_cons_succ, List.getElem?_cons_zero, w_nil, List.append_nil, List.length_cons, List.length_nil, Nat.reduceAdd, true_and]
  refine Ok.mono (possible_ok w k0' hg hl) (fun v h1 ⟨x1, hp⟩ => ?_) fun _ _ _ z => z
  simp only [w_gnm, List.set_cons_succ, List.set_cons_zero]
  rw [w_seq, w_sif]
  refine Ok.mono (test_ok x1.wf (k0'.mono x1) hg hl hp rfl rfl) (fun b h2 ⟨x2, eb⟩ => ?_) fun _ _ _ z => z
  rw [eb]
  refine ⟨fun z => (by cases z), fun _ => ?_⟩
  simp only [w_snil]
  have x02 := x1.trans x2
  have hp2 : Poss (tot ops) ops.length h2 v := by
    rcases hp with z | ⟨r, l, e, gl, ha⟩
    · exact .inl z
    · exact .inr ⟨r, l, e, x2.at_ _ _ gl, ha⟩
  rw [w_seq, w_sasg]
  refine Ok.mono (own_ok x2.wf (x02.at_ _ _ e0) hlv hl hp2 rfl rfl) (fun u h3 ⟨x3, o, m, eu, gm, hm, lm⟩ => ?_) fun _ _ _ z => z
  rw [eu]
  have x03 := x02.trans x3
  simp only [w_gnm, List.set_cons_succ, List.set_cons_zero]
  rw [w_seq, w_sasg, w_lst]
  have e5 : [a0, a1, a2, some (Val.ref n0), some v, some (.ref o), a6, a7, a8][5]? = some (some (.ref o)) := rfl
  refine Ok.mono (va_cons (ve_own e5 gm hm lm) (va_cons (ve_rev e5 gm hm lm) (va_cons (ve_one e5 gm hm lm) (va_cons (ve_more e5 gm hm lm) (va_cons (ve_tuple e5 gm) (va_cons ve_non (va_cons (ve_true e5 gm lm) (va_cons (ve_turn e5 gm hm lm) va_nil))))))) h3 (Ext.refl x3.wf) _) (fun us h4 ⟨x4, lu, ku⟩ => ?_) fun _ _ _ z => z
  refine ⟨by show _ ≤ 16777216; omega, ?_⟩
  have x5 := Ext.new x4.wf (.lst us)
  have g5 := get_new_at h4 (.lst us)
  have ku5 : ∀ v ∈ us, Vok ops.length (h4.new (.lst us)) v := fun v hv => (ku v hv).mono x5
  have x35 := x4.trans x5
  generalize h4.new (.lst us) = h5 at *
  simp only [w_gnm, List.set_cons_succ, List.set_cons_zero]
  rw [w_sfor, w_iany, w_bin, w_var]
  simp only [List.getElem?_cons_succ, List.getElem?_cons_zero]
  rw [w_lst]
  have gm5 := x35.at_ _ _ gm
  have x05 := x03.trans x35
  have g05 := x05.at_ _ _ e0
  refine Ok.mono (va_cons (ve_str gm5 hm hl lm) (va_cons (ve_rng (n0 := n0) rfl g05 hlv hl) va_nil) h5 (Ext.refl x5.wf) _) (fun ws h6 ⟨x6, lw, kw⟩ => ?_) fun _ _ _ z => z
  refine ⟨by show _ ≤ 16777216; omega, ?_⟩
  have x7 := Ext.new x6.wf (.lst ws)
  have g7 := get_new_at h6 (.lst ws)
  have x57 := x6.trans x7
  rw [add_at (x57.at_ _ _ g5) g7 (by omega), ok_ok]
  have x8 := Ext.new x7.wf (.lst (us ++ ws))
  have g8 := get_new_at (h6.new (.lst ws)) (.lst (us ++ ws))
  have x58 := x57.trans x8
  have k8 : ∀ v ∈ us ++ ws, Vok ops.length ((h6.new (.lst ws)).new (.lst (us ++ ws))) v := fun v hv => by
    rcases List.mem_append.mp hv with z | z
    · exact (ku5 v z).mono x58
    · exact (kw v z).mono (x7.trans x8)
  have lall : (us ++ ws).length ≤ 20 := by rw [List.length_append]; omega
  generalize us ++ ws = all at *
  have x08 := x05.trans x58
  generalize (h6.new (.lst ws)).new (.lst all) = h8 at *
  generalize (h6.new (.lst ws)).n = n8 at *
  have hi : iAnyV T (.ref n8) h8 = .ok (itL n8) h8 := by unfold iAnyV; simp only [g8]
  rw [hi, ok_ok]
  refine for_ok (items := all) (fun i en h' => Ext h8 h' ∧ ∃ a7 a8, en = [a0, a1, a2, some (.ref n0), some v, some (.ref o), some (.ref h4.n), a7, a8]) (fun i en h' j => itL_at (j.1.at_ _ _ g8) i) ?_ ?_ lid 0 _ _ (by show all.length < 1000000 + 0; omega) (Nat.zero_le _)
    ⟨Ext.refl x8.wf, _, _, rfl⟩
  · intro i u en h' hv ⟨x, b7, b8, een⟩
    rw [een]
    have x0 := x08.trans x
    obtain ⟨P, o1, o2⟩ := same_ok (X := fun C d h1 => D.ex C d [a0, a1, a2, some (Val.ref n0), some v, some (Val.ref o), some (Val.ref h4.n), some u, b8] h1) x.wf (k0'.mono x0) hg hl ((k8 u (List.mem_of_getElem? hv)).mono x)
    simp only [w_gnm, w_sif, w_tval, w_bin, w_fn, w_cons, w_call, w_var, w_nil, List.set_cons_succ, List.set_cons_zero, List.getElem?_cons_succ, List.getElem?_cons_zero, List.append_nil, List.cons_append, List.nil_append, List.length_cons, List.length_nil, Nat.reduceAdd, true_and]
    refine Ok.mono o1 (fun y1 q1 ⟨z1, t1⟩ => ?_) fun _ _ _ z => z
    have t1' := t1
    obtain ⟨c1, ec1, hc1⟩ := t1
    rw [ec1, repr_same, ok_ok]
    refine Ok.mono (o2 q1 z1) (fun y2 q2 ⟨z2, t2⟩ => ?_) fun _ _ _ z => z
    obtain ⟨c, ec, ec2⟩ := tells_eq t1' t2
    rw [ec1] at ec
    cases ec
    rw [ec2, repr_same, ok_ok, eq_str, ok_ok]
    simp only [decide_true, Bool.xor_true, Bool.not_true, Bool.true_xor, reduceCtorEq, false_implies, true_implies, true_and, w_snil]
    exact ⟨x.trans (z1.trans z2), _, _, rfl⟩
  · intro en h' ⟨x, b7, b8, een⟩
    rw [een]
    exact fin _ _ _ _ _ _ (x08.trans x)
end Wk
end
section
set_option Elab.async false
set_option linter.all false
set_option maxRecDepth 100000
set_option maxHeartbeats 4000000
/-! k90: the whole law. -/
namespace Wk
open PySem Mr K90
theorem right (ns : List Int) (hl : ns.length ≤ 63) : Mr.Right F_law ns := by
  have goal : Ok (F_law [.ref 0] (h0 ns)) (fun v _ => v = .bl true) (fun _ _ _ => False) := by
    unfold F_law
    rw [ok_fn]
    unfold m_law
    simp only [List.map_cons, List.map_nil, List.length_cons, List.length_nil, List.cons_append, List.nil_append, Nat.reduceSub, Nat.reduceAdd, List.replicate_succ, List.replicate_zero]
    rw [w_seq, w_sif, w_tnot, w_ttru, w_call, w_nil]
    refine ⟨rfl, ?_⟩
    refine Ok.mono (limits_ok ns) (fun v h1 ⟨ev, w1, g1⟩ => ?_) fun _ _ _ z => z
    rw [ev]
    simp only [truth, Bool.not_true, reduceCtorEq, false_implies, true_implies, true_and, w_snil]
    obtain ⟨n, hn, hn1⟩ : ∃ n : Nat, n ≤ 10 ∧ aCons (eFn (fMax T) (aCons (eC (.int 2)) (aCons (eFn (fMin T) (aCons (eFn (fLen T) (aCons (eVar 0) aNil)) (aCons (eC (.int 10)) aNil))) aNil))) aNil [some (.ref 0), none, none, none, none, none, none, none, none] h1 = .ok [.int (n : Nat)] h1 := by
      have hlen : fLen T [.ref 0] h1 = .ok (.int ns.length) h1 := by
        unfold fLen seqOf
        simp only [g1, List.length_map]
      refine ⟨(if (if (10 : Int) < (ns.length : Nat) then (10 : Int) else (ns.length : Nat)) > 2 then (if (10 : Int) < (ns.length : Nat) then (10 : Int) else (ns.length : Nat)) else 2).toNat, by split <;> (try split) <;> omega, ?_⟩
      simp only [aCons, aNil, eFn, eC, eVar, List.getElem?_cons_zero, bind_ok, hlen, fMin, fMax]
      congr 3
      generalize (if (10 : Int) < (ns.length : Nat) then (10 : Int) else (ns.length : Nat)) = q
      split <;> omega
    rw [w_seq, w_sfor, rg1_at (n := n) (h1 := h1) (by omega) hn1, ok_ok]
    have len : ((List.range n).map fun j => Val.int ((0 : Int) + (j : Nat))).length = n := by simp
    refine for_ok (items := (List.range n).map fun j => Val.int ((0 : Int) + (j : Nat))) (fun i en h' => Wf h' ∧ h'.get 0 = some (.fz (ns.map .int)) ∧ ∃ a1 a2 a3 a4 a5 a6 a7 a8, en = [some (.ref 0), a1, a2, a3, a4, a5, a6, a7, a8]) (fun i en h' _ => itR_at 0 n i h') ?_ ?_ lid 0 _ _ (by rw [len]; show n < 1000000 + 0; omega) (Nat.zero_le _)
      ⟨w1, g1, _, _, _, _, _, _, _, _, rfl⟩
    · intro i u en h2 hv ⟨w2, g2, a1, a2, a3, a4, a5, a6, a7, a8, een⟩
      rw [een]
      have hi : i < n := by
        have := (List.getElem?_eq_some_iff.mp hv).1
        rw [len] at this
        exact this
      have eu : u = .int (i : Nat) := by
        rw [List.getElem?_map, List.getElem?_range hi] at hv
        have := Option.some.inj hv
        rw [← this]
        show Val.int ((0 : Int) + (i : Nat)) = _
        rw [Int.zero_add]
      rw [eu]
      simp only [w_gnm, List.set_cons_succ, List.set_cons_zero]
      rw [w_seq, w_sasg, w_call, w_cons, w_var]
      simp only [List.getElem?_cons_succ, List.getElem?_cons_zero, w_cons, w_var, w_nil, List.append_nil, List.length_cons, List.length_nil, Nat.reduceAdd, true_and]
      refine Ok.mono (hand_ok w2 g2 hl (k := i) (by omega)) (fun v h3 ⟨x3, p, ep, hp, kp⟩ => ?_) fun _ _ _ z => z
      rw [ep]
      have p0 : (0 : Nat) ≠ p := by
        have := w2 _ _ g2
        omega
      have g3 := x3.at_ _ _ g2
      simp only [w_gnm, List.set_cons_succ, List.set_cons_zero]
      -- the operations
      rw [w_seq, w_sfor, w_iany, w_lst]
      simp only [w_cons, w_call, w_var, w_c, w_nil, List.getElem?_cons_succ, List.getElem?_cons_zero, List.append_nil, List.length_cons, List.length_nil, Nat.reduceAdd, true_and]
      refine Ok.mono (draw_ok (s := 6) x3.wf kp (by omega) (by omega)) (fun v4 h4 ⟨x4, k4, d4, e4, l4⟩ => ?_) fun _ _ _ z => z
      rw [e4]
      generalize hR5 : F__law_hidden _ _ = R5
      refine Ok.mono (hidden_ok x4.wf k4 (many := d4) (by omega) hR5) (fun v5 h5 ⟨x5, k5, ops5, o5, gd5, n5⟩ => ?_) fun _ _ _ z => z
      refine Ok.mono (draw_ok (s := 6) x5.wf k5 (by omega) (by omega)) (fun v6 h6 ⟨x6, k6, d6, e6, l6⟩ => ?_) fun _ _ _ z => z
      rw [e6]
      generalize hR7 : F__law_drawn _ _ = R7
      refine Ok.mono (drawn_ok x6.wf k6 (many := d6) (by omega) hR7) (fun v7 h7 ⟨x7, k7, ops7, o7, gd7, n7⟩ => ?_) fun _ _ _ z => z
      have o5' := iso_draw k5 (x6.trans x7) o5
      have x37 := x4.trans (x5.trans (x6.trans x7))
      refine ⟨by show _ ≤ 16777216; omega, ?_⟩
      have x8 := Ext.new x7.wf (.lst [v5, v7])
      have g8 := get_new_at h7 (.lst [v5, v7])
      have k8 := k7.mono x8
      have o58 := o5'.mono x8
      have o78 := o7.mono x8
      have x38 := x37.trans x8.b
      generalize h7.new (.lst [v5, v7]) = h8 at *
      have hi8 : iAnyV T (.ref h7.n) h8 = .ok (itL h7.n) h8 := by unfold iAnyV; simp only [g8]
      rw [hi8, ok_ok]
      refine for_ok (items := [v5, v7]) (fun j en h' => Ext h8 h' ∧ ∃ a3 a4 a5 a6 a7 a8, en = [some (.ref 0), some (.int (i : Nat)), some (.ref p), a3, a4, a5, a6, a7, a8]) (fun j en h' q => itL_at (q.1.at_ _ _ g8) j) ?_ ?_ lid 0 _ _ (by show 2 < 1000000 + 0; omega) (Nat.zero_le _)
        ⟨Ext.refl x8.wf, _, _, _, _, _, _, rfl⟩
      · intro j v en h' hv ⟨x, b3, b4, b5, b6, b7, b8, een⟩
        rw [een]
        simp only [w_gnm, List.set_cons_succ, List.set_cons_zero]
        have hvm := List.mem_of_getElem? hv
        have hO : ∃ ops, IsOps h' v ops ∧ (∀ o ∈ ops, Good o) ∧ ops.length ≤ 5 := by
          simp only [List.mem_cons, List.not_mem_nil, or_false] at hvm
          rcases hvm with rfl | rfl
          · exact ⟨ops5, o58.mono x, gd5, by omega⟩
          · exact ⟨ops7, o78.mono x, gd7, by omega⟩
        obtain ⟨ops, o, gd, lo⟩ := hO
        exact inner_ok x.wf o gd lo fun h'' _ _ _ _ _ y => ⟨x.trans y, _, _, _, _, _, _, rfl⟩
      · intro en h9 ⟨x9, b3, b4, b5, b6, b7, b8, een⟩
        rw [een]
        have k9 := k8.mono x9
        simp only [w_sif, w_tnot, w_ttru, w_call, w_cons, w_var, w_nil, List.getElem?_cons_succ, List.getElem?_cons_zero, List.append_nil, List.length_cons, List.length_nil, Nat.reduceAdd, true_and]
        refine Ok.mono (bad_right_ok x9.wf k9) (fun v hA ⟨xA, evA⟩ => ?_) fun _ _ _ z => z
        rw [evA]
        simp only [truth, Bool.not_true, reduceCtorEq, false_implies, true_implies, true_and, w_snil]
        exact ⟨xA.wf, xA.at_ _ _ p0 (x9.at_ _ _ (x38.at_ _ _ p0 g3)), _, _, _, _, _, _, _, _, rfl⟩
    · intro en h2 ⟨w2, g2, a1, a2, a3, a4, a5, a6, a7, a8, een⟩
      simp only [w_sret, w_c]
  unfold Mr.Right
  cases q : F_law [.ref 0] (h0 ns) with
  | ok v h => rw [q] at goal; exact goal
  | exc C d h => rw [q] at goal; exact goal.elim
  | bad => rw [q] at goal; exact goal.elim
end Wk
end
theorem PySem.Challenge.cw_fullestfirst_k90_orders_of_operations_holds : PySem.Challenge.rw_fullestfirst_k90_orders_of_operations.Holds := by
  exact Wk.holds_of fun ns hl _ => Wk.right ns hl
